import PyProof.Rows.All
import Wide.All
import OpenK.AllK
import Wide.FinOn
import KE.KStateDown
import Lean
import HandS.ForMost
import HandS.ForExc
import HandS.Steps
import HandS.IsInst
import HandS.Wide
import HandS.WideBits
import HandS.Defaults
import HandS.Flow
import HandS.Style
import HandS.ExcIs
import HandS.TryMany
import HandS.Evl
import HandS.Walk
import HandS.Rev
import HandS.Conv
import HandS.RevRange
import HandS.SortInts
import HandS.Head0
import HandS.Head1
import HandS.Head2
import HandS.HeadEnd
import HandS.HeadHook1
import HandS.HeadHook2
import HandS.Deep
import HandS.Lambda
import HandS.HeadHook4
import HandS.HeadWalk
import HandS.Nested
import PySem.Challenge.RW_thinwood_k16_whole_row
set_option Elab.async false
set_option linter.all false
set_option maxRecDepth 100000
set_option maxHeartbeats 4000000
open PySem PySem.W PySem.Calls PyProof.Rows in
section
namespace Tw
abbrev R0 : PySem.W.OpenRow := PySem.W.OpenLaw.row PySem.Challenge.rw_thinwood_k16_whole_row
abbrev q0 : PySem.Program := PySem.W.view R0.prog [33]
abbrev d0 : PySem.DefRec := HandSHeadRun.topDef R0.prog 33
open PySem PySem.W PySem.Calls PyProof.Rows
theorem z_e : opening R0.prog = plainProg R0.prog.main.scope.names := by kernel_rfl
theorem z_f : ∀ s, fenceModules? R0.prog s = some s := fun s => by kernel_rfl
theorem z_def : defOf q0 R0.name = some (d0, []) := by kernel_rfl
theorem z_hp : R0.prog.theDef R0.name = some (d0.params, d0.body, d0.scope) := by kernel_rfl
theorem z_hk : kwWritten? d0.params.kwonlyargs d0.params.kw_defaults = some [] := by kernel_rfl
theorem z_ok : (chainsOk q0 && opensWell R0.prog && (frees R0.toRowW && R0.within.isEmpty)) = true := by decide +kernel
theorem z_bare : R0.prog.bare := ⟨rfl, rfl, rfl, rfl, rfl, by decide +kernel⟩
set_option maxHeartbeats 0 in
theorem z_w : R0.toRowW.promised := by w_witness2
end Tw
end
set_option Elab.async false
set_option linter.all false
set_option maxRecDepth 100000
set_option maxHeartbeats 4000000
namespace Tw
open PySem PySem.Spec PyProof.Rows L2
def nmL (l _c : Nat) : Str := if l = 118 then (("_law_look" ++ ".<locals>.") ++ "_law_told") else ""
def tabL : List Str := ["_law_look"]
/-! ### heaps: all that was tracked is as it was, but for code tables, which may have grown -/
class NT (o : HO) : Prop where
  ne : ∀ ps, o ≠ .tbl ps
instance {xs : List V} : NT (.lst xs) := ⟨fun _ z => nomatch z⟩
instance {xs : List V} : NT (.tup xs) := ⟨fun _ z => nomatch z⟩
instance {o : Obj} {u : HO} : NT (.frz o u) := ⟨fun _ z => nomatch z⟩
instance {φ : Heap → Prop} : NT (.ext φ) := ⟨fun _ z => nomatch z⟩
instance {S : Int → Bool} {n : Nat} : NT (.set S n) := ⟨fun _ z => nomatch z⟩
instance {kvs : List (Key × V)} : NT (.dK kvs) := ⟨fun _ z => nomatch z⟩
instance {C dx : Addr} {fs : List (Str × V)} : NT (.ins C dx fs) := ⟨fun _ z => nomatch z⟩
instance {x : Addr} : NT (.own x) := ⟨fun _ z => nomatch z⟩
structure Same (H H' : Hp) : Prop where
  keep : ∀ b o, H b = some o → (∀ ps, o ≠ .tbl ps) → H' b = some o
  gone : ∀ b, H' b = none → H b = none
  tabs : ∀ P, NdefX.TabN H P nmL → NdefX.TabN H' P nmL
theorem Same.get {H H' : Hp} (s : Same H H') {b : Addr} {o : HO} [NT o] (e : H b = some o) : H' b = some o := s.keep b o e NT.ne
theorem Same.of {H H' : Hp} (e : ∀ b o, H b = some o → H' b = some o) : Same H H' := by
  refine ⟨fun b o h _ => e b o h, fun b h => ?_, fun P t => NdefX.TabN.ext t e⟩
  cases q : H b with
  | none => rfl
  | some o => rw [e b o q] at h; cases h
theorem Same.refl (H : Hp) : Same H H := .of fun _ _ h => h
theorem Same.trans {H H1 H2 : Hp} (a : Same H H1) (b : Same H1 H2) : Same H H2 := ⟨fun c o h n => b.keep c o (a.keep c o h n) n, fun c h => a.gone c (b.gone c h), fun P t => b.tabs P (a.tabs P t)⟩
theorem Same.free {H H' : Hp} (e : Same H H') {l : Addr} (h : H' l = Option.none) : H l = Option.none := e.gone l h
theorem Same.seq {K : PySem.W.Frag} {H H' : Hp} {a : Addr} {xs : List V} (e : Same H H') (h : SqL K H a xs) : SqL K H' a xs := by
  rcases h with (h | ⟨o, h⟩) | h
  · exact .inl (.inl (e.get h))
  · exact .inl (.inr ⟨o, e.get h⟩)
  · exact .inr h
theorem same_new {H : Hp} {p : Addr} {o : HO} (h : H p = none) : Same H (upd H p o) := .of fun b x e => by
  rw [upd_ne (ne_of_none e h)]; exact e
/-- an object that H does not know may change -/
theorem Same.mut {H H' : Hp} {p : Addr} {o : HO} (e : Same H H') (h : H p = none) (hl : ∃ xs, H' p = some (.lst xs) := by exact ⟨_, by assumption⟩) : Same H (upd H' p o) := by
  obtain ⟨xs, hl⟩ := hl
  refine ⟨fun b x hb n => by rw [upd_ne (ne_of_none hb h)]; exact e.keep b x hb n, fun b hb => e.gone b (NdefX.upd_none hb), fun P t => ?_⟩
  obtain ⟨ps, h1, ht, hc⟩ := e.tabs P t
  have np : ∀ {b : Addr} {u : HO}, H' b = some u → (∀ xs, u ≠ .lst xs) → b ≠ p := fun {b u} q d z => by
    subst z; rw [hl] at q; cases q; exact d _ rfl
  refine ⟨ps, by rw [upd_ne (np h1 fun _ z => nomatch z)]; exact h1, ht, fun pos cv q => ?_⟩
  obtain ⟨c, e1, e2⟩ := hc pos cv q
  exact ⟨c, e1, by rw [upd_ne (np e2 fun _ z => by unfold LamX.CodeO at z; cases z)]; exact e2⟩
theorem Same.seqT {K : PySem.W.Frag} {H H' : Hp} {a : Addr} {xs : List V} (e : Same H H') (h : SqT K H a xs) : SqT K H' a xs := by
  rcases h with (h | ⟨o, h⟩) | h
  · exact .inl (.inl (e.get h))
  · exact .inl (.inr ⟨o, e.get h⟩)
  · exact .inr h
theorem Same.ne {H : Hp} {a p : Addr} {o : HO} (h : H p = none) (e : H a = some o) : a ≠ p := ne_of_none e h
/-! ### a def by its global name, and its call -/
/-- the def named x keeps the promise sp -/
structure Okf (P : Program) (w : World) (K : PySem.W.Frag) (mg : Str → Option Value) (base : Heap) (CX : CXT) (k : Nat) (x : Str) (ps : List Str) (sp : Sp) : Prop where
  ex : ∃ fd : FuncData, (∃ (oc : Value) (od : Option Addr) (osl : Array (Option Value)), K.lookup (He.ga K x) = some ⟨oc, od, .func fd, osl⟩) ∧ Binds K fd ps [] ∧ FnOk P w K mg base CX k (He.ga K x) fd ps sp
  kp : PySem.W.keepIn K (.ref (He.ga K x)) = true
  gl : mg x = some (.ref (He.ga K x))
theorem FunD.look {K : PySem.W.Frag} {x qual : Str} {params : Arguments} {body : List Stmt} {scope : Scope} {dvs : List V} {kws : List (Str × V)} {f : Addr} {fd : FuncData} (F : FunD K x qual params body scope dvs kws f fd) :
    ∃ (oc : Value) (od : Option Addr) (osl : Array (Option Value)), K.lookup f = some ⟨oc, od, .func fd, osl⟩ := by
  obtain ⟨oc, od, dV, kV, doc, pm, an, cdv, ct, osl, e, lk, _⟩ := F.ex
  exact ⟨oc, od, osl, lk⟩
section
variable {X : Cx} {CX : CXT} {k j : Nat} {ps : List Str} {sp : Sp} {E : XK} {x : Str} {p pos : Pos} {e : Expr} {es : List Expr} {t : TA}
theorem pe_callF (F : Okf X.prog X.w X.K X.mg X.base CX k x ps sp) (hr : Room j X.A) (hk : k ≤ j) (hg : Gl X x) (hx : Passes CX X E)
    (ha : PA X (e :: es) t) (hdb : (x == ("__debug__" : Str)) = false := by decide) (he : starEach (e :: es) X.env = (false, eval e X.env) :: starEach es X.env := by rfl) (hpl : (backTo pos (starEach es X.env)).any (·.1) = false := by rfl) :
    PE X (.Call (.Name x p) (e :: es) [] pos) (tCall sp [] E t) := by
  obtain ⟨fd, _, hb, ok⟩ := F.ex
  exact pe_call ok (hr.mono hk) hg F.gl F.kp hb .nil hx ha hdb he hpl
theorem pe_callF0 (F : Okf X.prog X.w X.K X.mg X.base CX k x ps sp) (hr : Room j X.A) (hk : k ≤ j) (hg : Gl X x) (hx : Passes CX X E)
    (hdb : (x == ("__debug__" : Str)) = false := by decide) : PE X (.Call (.Name x p) [] [] pos) (tCall sp [] E tNil) := by
  obtain ⟨fd, _, hb, ok⟩ := F.ex
  exact pe_call0 ok (hr.mono hk) hg F.gl F.kp hb .nil hx hdb
theorem Okf.imp {P : Program} {w : World} {K : PySem.W.Frag} {mg : Str → Option Value} {base : Heap} {sp' : Sp} (F : Okf P w K mg base CX k x ps sp)
    (h : ∀ vs H Q E, sp' vs H Q E → sp vs H Q E) : Okf P w K mg base CX k x ps sp' := by
  obtain ⟨⟨fd, lk, hb, ok⟩, kp, gl⟩ := F
  exact ⟨⟨fd, lk, hb, ok.imp h⟩, kp, gl⟩
theorem okf_fn {P : Program} {w : World} {K : PySem.W.Frag} {mg : Str → Option Value} {base : Heap} {params : Arguments} {body : List Stmt} {scope : Scope} {qual y : Str} {fd : FuncData} {dvs : List V} {kws : List (Str × V)} (F : Okf P w K mg base CX k x ps sp)
    (FD : FunD K y qual params body scope dvs kws (He.ga K x) fd) : FnOk P w K mg base CX k (He.ga K x) fd ps sp := by
  obtain ⟨⟨fd', ⟨_, _, _, lk'⟩, hb, ok⟩, kp, gl⟩ := F
  obtain ⟨_, _, _, lk⟩ := FunD.look FD
  rw [lk] at lk'
  injection lk' with e
  injection e with _ _ e
  injection e with e
  subst e
  exact ok
/-- a global int, as a constant -/
theorem pe_gint {i : Int} (h : ∃ t, X.mg x = some (.int i t)) (hg : Gl X x) (hd : (x == ("__debug__" : Str)) = false := by decide) : PE X (.Name x pos) (tC (.int i)) := by
  obtain ⟨t, h⟩ := h
  exact pe_glob hg h ⟨_, rfl⟩ hd
/-- a constant that the text reckons -/
theorem pe_cst {v : Int} {te : TE} (h : PE X e te) (hi : ∀ (σ : L2.St) (H : Hp) (Q : VK), Q (.int v) H → te σ H Q) : PE X e (tC (.int v)) :=
  ⟨fun pins s σ H Q I q => h.run pins s σ H Q I (hi σ H Q q)⟩
/-- e & 1 -/
def rAnd1 : R2 := fun x y H Q => ∃ i : Int, x = .int i ∧ y = .int 1 ∧ Q (.int (i % 2)) H
theorem op_and1 : OpR X (binaryOp .BitAnd) rAnd1 := by
  intro pins s σ H x y v u Q I rx ry h
  obtain ⟨i, rfl, rfl, q⟩ := h
  exact op_andM pins s σ H (.int i) (.int (2 ^ 1 - 1)) v u Q I rx ry ⟨i, 1, rfl, rfl, q⟩
/-- isinstance(x, T), T a built-in type's name -/
def rIsB : List V → Hp → VK → Prop := fun xs H Q => ∃ (x : V) (n : String), xs = [x, .ty n] ∧ ∃ (t : String) (b : Bool), (∀ K : PySem.W.Frag, TyX K H x (.type t)) ∧ kitB t n = some b ∧ Q (.bl b) H
theorem call_isB : CallR X (.builtin "isinstance") rIsB := by
  intro pins s σ H xs us Q I r h
  obtain ⟨x, n, rfl, t, b, ty, e, q⟩ := h
  exact call_isi pins s σ H [x, .ty n] us Q I r ⟨x, .ty n, .type t, .type n, b, rfl, .ty n, ty _, kit_ty e, q⟩
end
/-! ### names of the operators' readings -/
abbrev rPlus : R2 := rI0 fun i j => .int (i + j)
abbrev rMinus : R2 := rI0 fun i j => .int (i - j)
abbrev rTimes : R2 := rI CMul fun i j => .int (i * j)
abbrev rDiv : R2 := rI CDiv fun i j => .int (i / j)
abbrev rDivW : R2 := rI CDivW fun i j => .int (i / j)
abbrev rMod : R2 := rI (fun _ j => 0 < j) fun i j => .int (i % j)
abbrev rPow : R2 := rI CPow fun i j => .int (i ^ j.toNat)
abbrev rShl : R2 := rI CPow fun i j => .int (i * 2 ^ j.toNat)
abbrev rShr : R2 := rI (fun _ j => 0 ≤ j) fun i j => .int (i / 2 ^ j.toNat)
abbrev rBitAnd : R2 := rI0 fun i j => .int (Builtin.bitAnd i j)
abbrev rBitOr : R2 := rI0 fun i j => .int (Builtin.bitOr i j)
abbrev rBitXor : R2 := rI0 fun i j => .int (Builtin.bitXor i j)
abbrev rLt : R2 := rI0 fun i j => .bl (decide (i < j))
abbrev rLe : R2 := rI0 fun i j => .bl (decide (i ≤ j))
abbrev rGtI : R2 := rI0 fun i j => .bl (decide (j < i))
abbrev rGeI : R2 := rI0 fun i j => .bl (decide (j ≤ i))
abbrev rShlW : R2 := rI CShl fun i j => .int (i * 2 ^ j.toNat)
def rDivmod : List V → Hp → VK → Prop := fun xs H Q => ∃ i j, xs = [.int i, .int j] ∧ CDivP i j ∧ ∀ p, H p = none → Q (.ref p) (upd H p (.tup [.int (i / j), .int (i % j)]))
abbrev rNeg : V → Hp → VK → Prop := rU fun i => .int (-i)
/-! ### steps of a reading -/
section
variable {D : Ends} {σ : L2.St} {H : Hp} {Q : VK} {Qb : Bool → Hp → Prop} {ta tb te : TE} {t u v : TS} {c d : TT} {i : Nat} {x y z : V} {r : R2} {K : PySem.W.Frag}
theorem k_seq (h : t { D with nx := u D } σ H) : tSeq t u D σ H := h
theorem k_next (h : D.nx σ H) : tNext D σ H := h
theorem k_asg (h : te σ H fun x H1 => D.nx (σ.set i (some x)) H1) : tAsg te (gName i) D σ H := h
theorem k_drop (h : te σ H fun _ H1 => D.nx σ H1) : tDrop te D σ H := h
theorem k_ret (h : te σ H D.rt) : tRet te D σ H := h
theorem k_retN (h : D.rt .non H) : tRetN D σ H := h
theorem k_if (h : c σ H fun b H1 => if b = true then t D σ H1 else u D σ H1) : tIfS c t u D σ H := h
theorem k_var (h : σ[i]? = some (some x)) (q : Q x H) : tVar i σ H Q := ⟨x, h, q⟩
theorem k_c (q : Q x H) : tC x σ H Q := q
theorem k_op (h : ta σ H fun x H1 => tb σ H1 fun y H2 => r x y H2 Q) : tOp r ta tb σ H Q := h
theorem k_un {r : V → Hp → VK → Prop} (h : ta σ H fun x H1 => r x H1 Q) : tUn r ta σ H Q := h
theorem k_I0 {g : Int → Int → V} {a b : Int} (q : Q (g a b) H) : rI0 g (.int a) (.int b) H Q := ⟨a, b, rfl, rfl, q⟩
theorem k_I {C : Int → Int → Prop} {g : Int → Int → V} {a b : Int} (hc : C a b) (q : Q (g a b) H) : rI C g (.int a) (.int b) H Q := ⟨a, b, rfl, rfl, hc, q⟩
theorem k_U {g : Int → V} {a : Int} (q : Q (g a) H) : rU g (.int a) H Q := ⟨a, rfl, q⟩
theorem k_and1 {a : Int} (q : Q (.int (a % 2)) H) : rAnd1 (.int a) (.int 1) H Q := ⟨a, rfl, rfl, q⟩
theorem k_eqI {a b : Int} (q : Q (.bl (decide (a = b))) H) : rEq (.int a) (.int b) H Q := ⟨rfl, by
  have e : decide ((V.int a : V) = V.int b) = decide (a = b) := by simp
  rw [e]; exact q⟩
theorem k_neI {a b : Int} (q : Q (.bl (!decide (a = b))) H) : rNe (.int a) (.int b) H Q := ⟨rfl, by
  have e : decide ((V.int a : V) = V.int b) = decide (a = b) := by simp
  rw [e]; exact q⟩
theorem k_eq (hs : scal x y = true) (q : Q (.bl (decide (x = y))) H) : rEq x y H Q := ⟨hs, q⟩
theorem k_ne (hs : scal x y = true) (q : Q (.bl (!decide (x = y))) H) : rNe x y H Q := ⟨hs, q⟩
theorem k_isN (q : Q (.bl (decide (x = .non))) H) : rIsN x .non H Q := ⟨rfl, q⟩
theorem k_notN (q : Q (.bl (!decide (x = .non))) H) : rNotN x .non H Q := ⟨rfl, q⟩
def BlK (Qb : Bool → Hp → Prop) (x : V) (H : Hp) : Prop := ∃ k, x = .bl k ∧ Qb k H
theorem k_test (h : te σ H (BlK Qb)) : tTest te σ H Qb := h
theorem k_tB (h : te σ H (BlK Qb)) : tB te σ H Qb := h
theorem k_bl {b : Bool} (q : Qb b H) : BlK Qb (V.bl b) H := ⟨b, rfl, q⟩
theorem k_and (h : c σ H fun b H1 => if b = true then d σ H1 Qb else Qb false H1) : tAnd c d σ H Qb := h
theorem k_or (h : c σ H fun b H1 => if b = true then Qb true H1 else d σ H1 Qb) : tOr c d σ H Qb := h
theorem k_not (h : c σ H fun b H1 => Qb (!b) H1) : tNot c σ H Qb := h
def ChainK (Q : VK) (u : Hp → Prop) (z : V) (H : Hp) : Prop := ∃ k, z = .bl k ∧ (if k = true then u H else Q (.bl false) H)
theorem k_chain {r' : R2} {tc : TE} (h : ta σ H fun x H1 => tb σ H1 fun y H2 => r x y H2 (ChainK Q fun H3 => tc σ H3 fun w H4 => r' y w H4 Q)) : tChain r r' ta tb tc σ H Q := h
theorem k_chainE {u : Hp → Prop} {b : Bool} (h : if b = true then u H else Q (.bl false) H) : ChainK Q u (.bl b) H := ⟨b, rfl, h⟩
theorem k_andV (h : ta σ H (BlK fun k H1 => if k = true then tb σ H1 Q else Q (.bl false) H1)) : tAndV ta tb σ H Q := h
theorem k_orV (h : ta σ H (BlK fun k H1 => if k = true then Q (.bl true) H1 else tb σ H1 Q)) : tOrV ta tb σ H Q := h
theorem k_notV (h : ta σ H (BlK fun k H1 => Q (.bl (!k)) H1)) : tNotV ta σ H Q := h
theorem k_ifE (h : c σ H fun b H1 => if b = true then ta σ H1 Q else tb σ H1 Q) : tIf c ta tb σ H Q := h
theorem k_cons {Qv : List V → Hp → Prop} {tr : TA} (h : ta σ H fun x H1 => tr σ H1 fun xs H2 => Qv (x :: xs) H2) : tCons ta tr σ H Qv := h
theorem k_nil {Qv : List V → Hp → Prop} (h : Qv [] H) : tNil σ H Qv := h
theorem k_call {sp : Sp} {dvs : List V} {E : XK} {tr : TA} (h : tr σ H fun vs H1 => sp (vs ++ dvs) H1 Q E) : tCall sp dvs E tr σ H Q := h
theorem k_cb {rc : List V → Hp → VK → Prop} {tr : TA} (h : tr σ H fun vs H1 => rc vs H1 Q) : tCB rc tr σ H Q := h
theorem k_tup {tr : TA} (h : tr σ H fun xs H1 => xs.length ≤ sizeLine ∧ ∀ p, H1 p = none → Q (.ref p) (upd H1 p (.tup xs))) : tTup tr σ H Q := h
theorem k_lst {tr : TA} (h : tr σ H fun xs H1 => xs.length ≤ sizeLine ∧ ∀ p, H1 p = none → Q (.ref p) (upd H1 p (.lst xs))) : tLst tr σ H Q := h
theorem k_disp {A : Prop} {xs : List V} (h : xs.length ≤ 1000) (q : A) : xs.length ≤ sizeLine ∧ A := ⟨Nat.le_trans h (by decide), q⟩
theorem k_aug {ti : TIp} (hx : σ[i]? = some (some x)) (h : te σ H fun y H1 => ti x y H1 fun z H2 => D.nx (σ.set i (some z)) H2) : tAug i te ti D σ H := ⟨x, hx, h⟩
theorem k_ipI {f : Int → Int → Int} {a b : Int} (q : Q (.int (f a b)) H) : ipI f (.int a) (.int b) H Q := ⟨a, b, rfl, rfl, q⟩
theorem k_sl {rs : V → Option Int → Option Int → Hp → VK → Prop} {tl th : TO} (h : te σ H fun x H1 => tl σ H1 fun l H2 => th σ H2 fun u H3 => rs x l u H3 Q) : tSl rs te tl th σ H Q := h
def PartK (Qo : Option Int → Hp → Prop) (x : V) (H : Hp) : Prop := ∃ j, x = .int j ∧ Qo (some j) H
theorem k_part {Qo : Option Int → Hp → Prop} (h : te σ H (PartK Qo)) : tPart te σ H Qo := h
theorem k_partE {Qo : Option Int → Hp → Prop} {a : Int} (h : Qo (some a) H) : PartK Qo (.int a) H := ⟨a, rfl, h⟩
theorem k_noPart {Qo : Option Int → Hp → Prop} (h : Qo none H) : tNoPart σ H Qo := h
theorem k_bm {T : String} {rm : V → List V → Hp → VK → Prop} {tr : TA} (h : te σ H fun x H1 => tyV K T x H1 ∧ tr σ H1 fun xs H2 => rm x xs H2 Q) : tBM K T rm te tr σ H Q := h
theorem k_bm0 {T : String} {rm : V → List V → Hp → VK → Prop} (h : te σ H fun x H1 => tyV K T x H1 ∧ rm x [] H1 Q) : tBM0 K T rm te σ H Q := h
theorem k_app {l : Addr} {xs : List V} (h : H l = some (.lst xs)) (hl : xs.length < 100000) (q : Q .non (upd H l (.lst (xs ++ [y])))) : rAppend (.ref l) [y] H Q := ⟨l, xs, y, rfl, rfl, h, Nat.lt_of_lt_of_le hl (by decide), q⟩
theorem k_tyL {l : Addr} {xs : List V} {A : Prop} (h : SqL K H l xs) (q : A) : tyV K "list" (.ref l) H ∧ A := ⟨.inl ⟨rfl, _, h⟩, q⟩
theorem k_ixL {p : Addr} {xs : List V} {a : Int} (h : SqL K H p xs) (e : atI xs a = some x) (q : Q x H) : rIxL K (.ref p) (.int a) H Q := ⟨p, xs, a, x, rfl, rfl, h, e, q⟩
theorem k_ixT {p : Addr} {xs : List V} {a : Int} (h : SqT K H p xs) (e : atI xs a = some x) (q : Q x H) : rIxT K (.ref p) (.int a) H Q := ⟨p, xs, a, x, rfl, rfl, h, e, q⟩
theorem k_slL {p : Addr} {xs : List V} {lo hi : Option Int} (h : SqL K H p xs) (q : ∀ l, H l = none → Q (.ref l) (upd H l (.lst (cutV xs lo hi)))) : rSlL K (.ref p) lo hi H Q := ⟨p, xs, rfl, h, q⟩
def rLen (K : PySem.W.Frag) : List V → Hp → VK → Prop := fun xs H Q => ∃ p ys, xs = [.ref p] ∧ (SqL K H p ys ∨ SqT K H p ys) ∧ Q (.int ys.length) H
theorem call_lenK {X : Cx} : CallR X (.builtin "len") (rLen X.K) := call_len_seq
theorem k_lenL {p : Addr} {xs : List V} (h : SqL K H p xs) (q : Q (.int (xs.length : Int)) H) : rLen K [.ref p] H Q := ⟨p, xs, rfl, .inl h, q⟩
theorem k_lenT {p : Addr} {xs : List V} (h : SqT K H p xs) (q : Q (.int (xs.length : Int)) H) : rLen K [.ref p] H Q := ⟨p, xs, rfl, .inr h, q⟩
def rInsert : V → List V → Hp → VK → Prop := fun x vs H Q => ∃ (l : Addr) (xs : List V) (i : Int) (y : V), x = .ref l ∧ vs = [.int i, y] ∧ H l = some (.lst xs) ∧ xs.length < sizeLine ∧ 0 ≤ i ∧ i < 2 ^ 63 ∧ Q .non (upd H l (.lst (xs.take i.toNat ++ [y] ++ xs.drop i.toNat)))
theorem k_insert {l : Addr} {xs : List V} {i : Nat} (h : H l = some (.lst xs)) (hz : xs.length ≤ 100000) (hi : i ≤ 100000) (q : Q .non (upd H l (.lst (xs.take i ++ [y] ++ xs.drop i)))) : rInsert (.ref l) [.int (i : Int), y] H Q := ⟨l, xs, i, y, rfl, rfl, h, Nat.lt_of_le_of_lt hz (by decide), by omega, by omega, by rw [Int.toNat_natCast]; exact q⟩
theorem k_popAt {l : Addr} {xs : List V} {i : Nat} (h : H l = some (.lst xs)) (hi : i < xs.length) (hz : xs.length ≤ 100000) (e : xs[i]? = some y) (q : Q y (upd H l (.lst (xs.eraseIdx i)))) : rPopAt (.ref l) [.int (i : Int)] H Q := ⟨l, xs, i, i, y, rfl, rfl, h, by omega, by omega, by unfold PySem.seqIndex?; simp; omega, e, q⟩
theorem k_clear {l : Addr} {xs : List V} (h : H l = some (.lst xs)) (q : Q .non (upd H l (.lst []))) : rClear (.ref l) [] H Q := ⟨l, xs, rfl, rfl, h, q⟩
theorem k_extend {l b : Addr} {xs zs : List V} (h : H l = some (.lst xs)) (h2 : H b = some (.lst zs)) (hn : xs.length + zs.length ≤ 1000000) (q : Q .non (upd H l (.lst (xs ++ zs)))) : rExtend (.ref l) [.ref b] H Q := ⟨l, b, xs, zs, rfl, rfl, h, h2, Nat.le_trans hn (by decide), q⟩
theorem k_pop {l : Addr} {xs : List V} (h : H l = some (.lst (xs ++ [y]))) (q : Q y (upd H l (.lst xs))) : rPop (.ref l) [] H Q := ⟨l, xs ++ [y], y, rfl, rfl, h, by simp, by rw [List.dropLast_concat]; exact q⟩
def rInt1 : List V → Hp → VK → Prop := fun xs H Q => (∃ i, xs = [.int i] ∧ Q (.int i) H) ∨ ∃ k : Bool, xs = [.bl k] ∧ Q (.int (if k then 1 else 0)) H
theorem k_intB {k : Bool} (q : Q (.int (if k then 1 else 0)) H) : rInt1 [.bl k] H Q := .inr ⟨k, rfl, q⟩
def rTupOf (K : PySem.W.Frag) : List V → Hp → VK → Prop := fun xs H Q => ∃ p ys, xs = [.ref p] ∧ ((SqL K H p ys ∧ ∀ l, H l = none → Q (.ref l) (upd H l (.tup ys))) ∨ (SqT K H p ys ∧ Q (.ref p) H))
theorem call_tupK {X : Cx} : CallR X (.type "tuple") (rTupOf X.K) := call_tuple_of
theorem k_tupL {p : Addr} {xs : List V} (h : SqL K H p xs) (q : ∀ l, H l = none → Q (.ref l) (upd H l (.tup xs))) : rTupOf K [.ref p] H Q := ⟨p, xs, rfl, .inl ⟨h, q⟩⟩
def rLenStr : List V → Hp → VK → Prop := fun xs H Q => ∃ z : Str, xs = [.str z] ∧ z.length ≤ sizeLine ∧ Q (.int z.length) H
def rAddStr : R2 := fun x y H Q => ∃ i j : Str, x = .str i ∧ y = .str j ∧ i.length + j.length ≤ sizeLine ∧ Q (.str (i ++ j)) H
def rMin2 : List V → Hp → VK → Prop := fun xs H Q => ∃ i j, xs = [.int i, .int j] ∧ Q (.int (if j < i then j else i)) H
def rMax2 : List V → Hp → VK → Prop := fun xs H Q => ∃ i j, xs = [.int i, .int j] ∧ Q (.int (if j > i then j else i)) H
theorem call_min2K {X : Cx} (hc : X.calm = true) : CallR X (.builtin "min") rMin2 := call_min2 hc
theorem call_max2K {X : Cx} (hc : X.calm = true) : CallR X (.builtin "max") rMax2 := call_max2 hc
theorem k_min2 {a b : Int} (q : Q (.int (if b < a then b else a)) H) : rMin2 [.int a, .int b] H Q := ⟨a, b, rfl, q⟩
theorem k_max2 {a b : Int} (q : Q (.int (if b > a then b else a)) H) : rMax2 [.int a, .int b] H Q := ⟨a, b, rfl, q⟩
def rListOf (K : PySem.W.Frag) : List V → Hp → VK → Prop := fun xs H Q => ∃ p ys, xs = [.ref p] ∧ (SqL K H p ys ∨ SqT K H p ys) ∧ ∀ l, H l = none → Q (.ref l) (upd H l (.lst ys))
theorem call_listK {X : Cx} : CallR X (.type "list") (rListOf X.K) := call_list_of
theorem k_listL {p : Addr} {xs : List V} (h : SqL K H p xs) (q : ∀ l, H l = none → Q (.ref l) (upd H l (.lst xs))) : rListOf K [.ref p] H Q := ⟨p, xs, rfl, .inl h, q⟩
theorem k_sum {p : Addr} {ns : List Int} (h : SqL K H p (ns.map V.int)) (q : Q (.int ns.sum) H) : rSum K [.ref p] H Q := ⟨p, ns, rfl, h, q⟩
theorem k_isInt {a : Int} (q : Q (.bl true) H) : rIsB [.int a, .ty "int"] H Q := ⟨.int a, "int", rfl, "int", true, fun _ => .base (.int a), by decide +kernel, q⟩
theorem k_isBool {a : Int} (q : Q (.bl false) H) : rIsB [.int a, .ty "bool"] H Q := ⟨.int a, "bool", rfl, "int", false, fun _ => .base (.int a), by decide +kernel, q⟩
theorem k_isBoolB {b : Bool} (q : Q (.bl true) H) : rIsB [.bl b, .ty "bool"] H Q := ⟨.bl b, "bool", rfl, "bool", true, fun _ => .base (.bl b), by decide +kernel, q⟩
theorem k_isIntB {b : Bool} (q : Q (.bl true) H) : rIsB [.bl b, .ty "int"] H Q := ⟨.bl b, "int", rfl, "bool", true, fun _ => .base (.bl b), by decide +kernel, q⟩
theorem k_isIntN (q : Q (.bl false) H) : rIsB [.non, .ty "int"] H Q := ⟨.non, "int", rfl, "NoneType", false, fun _ => .base .non, by decide +kernel, q⟩
theorem k_isList {a : Addr} {xs : List V} (h : H a = some (.lst xs)) (q : Q (.bl true) H) : rIsB [.ref a, .ty "list"] H Q := ⟨.ref a, "list", rfl, "list", true, fun _ => .base (.lst h), by decide +kernel, q⟩
theorem k_isTup {a : Addr} {xs : List V} (h : H a = some (.tup xs)) (q : Q (.bl true) H) : rIsB [.ref a, .ty "tuple"] H Q := ⟨.ref a, "tuple", rfl, "tuple", true, fun _ => .base (.tup h), by decide +kernel, q⟩
/-! ends -/
theorem k_nx {nx : L2.St → Hp → Prop} {rt : VK} {bk ct : L2.St → Hp → Prop} (h : nx σ H) : (Ends.mk nx rt bk ct).nx σ H := h
theorem k_rt {nx : L2.St → Hp → Prop} {rt : VK} {bk ct : L2.St → Hp → Prop} (h : rt x H) : (Ends.mk nx rt bk ct).rt x H := h
/-! ifs -/
theorem k_dec {p A B : Prop} [Decidable p] (h1 : p → A) (h2 : ¬ p → B) : if decide p = true then A else B := by
  by_cases h : p
  · rw [if_pos (decide_eq_true h)]; exact h1 h
  · rw [if_neg (fun z => h (of_decide_eq_true z))]; exact h2 h
theorem k_ndec {p A B : Prop} [Decidable p] (h1 : ¬ p → A) (h2 : p → B) : if (!decide p) = true then A else B := by
  by_cases h : p
  · rw [if_neg (by rw [decide_eq_true h]; decide)]; exact h2 h
  · rw [if_pos (by rw [decide_eq_false h]; decide)]; exact h1 h
theorem k_decT {p A B : Prop} [Decidable p] (h : p) (q : A) : if decide p = true then A else B := k_dec (fun _ => q) (fun z => absurd h z)
theorem k_decF {p A B : Prop} [Decidable p] (h : ¬ p) (q : B) : if decide p = true then A else B := k_dec (fun z => absurd z h) (fun _ => q)
theorem k_ndecT {p A B : Prop} [Decidable p] (h : p) (q : B) : if (!decide p) = true then A else B := k_ndec (fun z => absurd h z) (fun _ => q)
theorem k_ndecF {p A B : Prop} [Decidable p] (h : ¬ p) (q : A) : if (!decide p) = true then A else B := k_ndec (fun _ => q) (fun z => absurd z h)
theorem k_yes (h : Qb true H) : tYes σ H Qb := h
theorem k_T {A B : Prop} (q : A) : if true = true then A else B := iteT q
theorem k_F {A B : Prop} (q : B) : if false = true then A else B := iteF q
theorem k_nT {A B : Prop} (q : B) : if (!true) = true then A else B := iteF q
theorem k_nF {A B : Prop} (q : A) : if (!false) = true then A else B := iteT q
end
/-! ### items -/
theorem at_nat {α : Type} {xs : List α} {i : Nat} {x : α} (h : xs[i]? = some x) : atI xs (i : Int) = some x := atI_nat h
theorem at_int {α : Type} {xs : List α} {i : Int} {x : α} (h0 : 0 ≤ i) (h : xs[i.toNat]? = some x) : atI xs i = some x := by
  have e : i = ((i.toNat : Nat) : Int) := by omega
  rw [e]; exact atI_nat h
theorem mapint {ns : List Int} {i : Nat} {n : Int} (h : ns[i]? = some n) : (ns.map V.int)[i]? = some (.int n) := by
  rw [List.getElem?_map, h]; rfl
theorem of_mapint {ns : List Int} {i : Nat} {v : V} (h : (ns.map V.int)[i]? = some v) : ∃ n, ns[i]? = some n ∧ v = .int n := by
  rw [List.getElem?_map] at h
  cases e : ns[i]? with
  | none => rw [e] at h; cases h
  | some n => rw [e] at h; exact ⟨n, rfl, (Option.some.inj h).symm⟩
theorem cutTake (xs : List V) (n : Nat) : cutV xs none (some (n : Int)) = xs.take n := by
  unfold cutV
  rw [HT.sIx_none, HT.sIx_nat, List.drop_zero, Nat.sub_zero]
  rcases Nat.le_total n xs.length with h | h
  · rw [Nat.min_eq_left h]
  · rw [Nat.min_eq_right h, List.take_length, List.take_of_length_le h]
/-! ### steps on ends that are written out; loops -/
section
variable {σ : L2.St} {H : Hp} {Q rt : VK} {nx bk ct : L2.St → Hp → Prop} {t u tb : TS} {g : TG} {wi : TI} {c : TT} {i : Nat} {x : V} {K : PySem.W.Frag}
theorem m_seq (h : t (Ends.mk (u (Ends.mk nx rt bk ct)) rt bk ct) σ H) : tSeq t u (Ends.mk nx rt bk ct) σ H := h
theorem m_cut (Mid : L2.St → Hp → Prop) (h : t (Ends.mk Mid rt bk ct) σ H) (k : ∀ σ' H', Mid σ' H' → u (Ends.mk nx rt bk ct) σ' H') : Evl.tCut t u (Ends.mk nx rt bk ct) σ H := ⟨Mid, h, k⟩
theorem m_cut0 (h : t (Ends.mk (u (Ends.mk nx rt bk ct)) rt bk ct) σ H) : Evl.tCut t u (Ends.mk nx rt bk ct) σ H := ⟨_, h, fun _ _ x => x⟩
theorem m_bk (h : bk σ H) : tBreak (Ends.mk nx rt bk ct) σ H := h
theorem m_ct (h : ct σ H) : tCont (Ends.mk nx rt bk ct) σ H := h
theorem m_next (h : nx σ H) : tNext (Ends.mk nx rt bk ct) σ H := h
theorem m_gName {Qs : L2.St → Hp → Prop} (h : Qs (σ.set i (some x)) H) : gName i x σ H Qs := h
theorem m_call {sp : Sp} {E : XK} {tr : TA} (h : tr σ H fun vs H1 => sp vs H1 Q E) : tCall sp [] E tr σ H Q := by
  have e : (fun (vs : List V) (H1 : Hp) => sp (vs ++ []) H1 Q E) = fun vs H1 => sp vs H1 Q E := by
    funext vs H1; rw [List.append_nil]
  show tr σ H fun vs H1 => sp (vs ++ []) H1 Q E
  rw [e]; exact h
/-- a for loop over what J yields -/
def LoopOk (J : It) (g : TG) (tb : TS) (nx : L2.St → Hp → Prop) (rt : VK) (σ : L2.St) (H : Hp) : Prop :=
  ∃ W : Nat → Nat → L2.St → Hp → Prop, (∃ m, W 0 m σ H) ∧ ∀ i m σ H, W i m σ H →
  (J.stop i H ∧ nx σ H) ∨ (J.go i H ∧ ∃ N : L2.St → Hp → Prop, (∀ σ' H', N σ' H' → ∃ m', m' < m ∧ W (i + 1) m' σ' H') ∧ ∀ x H', J.yld i H x H' → g x σ H' fun σ2 H2 => tb (Ends.mk N rt nx N) σ2 H2)
theorem m_for (h : wi σ H fun J H1 => LoopOk J g tb nx rt σ H1) : tFor wi g tb (Ends.mk nx rt bk ct) σ H := h
def Rng1K (R : It → Hp → Prop) (vs : List V) (H : Hp) : Prop := ∃ j : Int, vs = [.int j] ∧ -(2 ^ 62) ≤ j ∧ j < 2 ^ 62 ∧ R (Itr 0 j.toNat) H
theorem m_rng1 {ta : TA} {R : It → Hp → Prop} (h : ta σ H (Rng1K R)) : iRng1 ta σ H R := h
theorem m_rng1e {R : It → Hp → Prop} {a : Int} (h1 : -(2 ^ 62) ≤ a ∧ a < 2 ^ 62) (h : R (Itr 0 a.toNat) H) : Rng1K R [V.int a] H := ⟨a, rfl, h1.1, h1.2, h⟩
theorem m_rng1n {R : It → Hp → Prop} {a : Nat} (h1 : (a : Int) < 2 ^ 62) (h : R (Itr 0 a) H) : Rng1K R [V.int (a : Int)] H := ⟨a, rfl, by omega, h1, by rw [Int.toNat_natCast]; exact h⟩
def Rng2K (R : It → Hp → Prop) (vs : List V) (H : Hp) : Prop := ∃ i j : Int, vs = [.int i, .int j] ∧ (-(2 ^ 62) ≤ i ∧ i < 2 ^ 62 ∧ -(2 ^ 62) ≤ j ∧ j < 2 ^ 62) ∧ R (Itr i (j - i).toNat) H
theorem m_rng2 {ta : TA} {R : It → Hp → Prop} (h : ta σ H (Rng2K R)) : iRng2 ta σ H R := h
theorem m_rng2e {R : It → Hp → Prop} {a b : Int} (h1 : -(2 ^ 62) ≤ a ∧ a < 2 ^ 62 ∧ -(2 ^ 62) ≤ b ∧ b < 2 ^ 62) (h : R (Itr a (b - a).toNat) H) : Rng2K R [V.int a, V.int b] H := ⟨a, b, rfl, h1, h⟩
def ListK (K : PySem.W.Frag) (R : It → Hp → Prop) (x : V) (H : Hp) : Prop := ∃ a, x = .ref a ∧ (∃ xs, SqL K H a xs) ∧ R (Itl K a) H
theorem m_iL {tl : TE} {R : It → Hp → Prop} (h : tl σ H (ListK K R)) : iList K tl σ H R := h
theorem m_iLe {R : It → Hp → Prop} {a : Addr} {xs : List V} (hx : SqL K H a xs) (h : R (Itl K a) H) : ListK K R (V.ref a) H := ⟨a, rfl, ⟨xs, hx⟩, h⟩
def TupK (K : PySem.W.Frag) (R : It → Hp → Prop) (x : V) (H : Hp) : Prop := ∃ a, x = .ref a ∧ (∃ xs, SqT K H a xs) ∧ R (Itt K a) H
theorem m_iT {tl : TE} {R : It → Hp → Prop} (h : tl σ H (TupK K R)) : iTup K tl σ H R := h
theorem m_iTe {R : It → Hp → Prop} {a : Addr} {xs : List V} (hx : SqT K H a xs) (h : R (Itt K a) H) : TupK K R (V.ref a) H := ⟨a, rfl, ⟨xs, hx⟩, h⟩
def iSeq (K : PySem.W.Frag) (tl : TE) : TI := fun σ H R => iList K tl σ H R ∨ iTup K tl σ H R
theorem m_seqL {tl : TE} {R : It → Hp → Prop} (h : tl σ H (ListK K R)) : iSeq K tl σ H R := .inl h
theorem m_seqT {tl : TE} {R : It → Hp → Prop} (h : tl σ H (TupK K R)) : iSeq K tl σ H R := .inr h
theorem pi_seq {X : Cx} {tg l : Expr} {tl : TE} (hl : PE X l tl) : PI X tg l (iSeq X.K tl) := ⟨fun pins s σ H R I h => h.elim (fun h => (pi_list hl).run pins s σ H R I h) fun h => (pi_tup hl).run pins s σ H R I h⟩
theorem loop_range {lo : Int} {n : Nat} (Pv : Nat → L2.St → Hp → Prop) (h0 : Pv 0 σ H)
    (hs : ∀ i σ H, i < n → Pv i σ H → g (.int (lo + i)) σ H fun σ2 H2 => tb (Ends.mk (Pv (i + 1)) rt nx (Pv (i + 1))) σ2 H2) (hd : ∀ σ H, Pv n σ H → nx σ H) : LoopOk (Itr lo n) g tb nx rt σ H :=
  for_range (D := Ends.mk nx rt nx nx) Pv h0 hs hd
theorem loop_range0 {n : Nat} (Pv : Nat → L2.St → Hp → Prop) (h0 : Pv 0 σ H)
    (hs : ∀ (i : Nat) σ H, i < n → Pv i σ H → g (.int (i : Int)) σ H fun σ2 H2 => tb (Ends.mk (Pv (i + 1)) rt nx (Pv (i + 1))) σ2 H2) (hd : ∀ σ H, Pv n σ H → nx σ H) : LoopOk (Itr 0 n) g tb nx rt σ H :=
  loop_range Pv h0 (fun i σ H hi p => by rw [Int.zero_add]; exact hs i σ H hi p) hd
theorem loop_list {a : Addr} {xs : List V} (Pv : Nat → L2.St → Hp → Prop) (h0 : Pv 0 σ H) (hl : ∀ i σ H, i ≤ xs.length → Pv i σ H → SqL K H a xs)
    (hs : ∀ i x σ H, xs[i]? = some x → Pv i σ H → g x σ H fun σ2 H2 => tb (Ends.mk (Pv (i + 1)) rt nx (Pv (i + 1))) σ2 H2) (hd : ∀ σ H, Pv xs.length σ H → nx σ H) : LoopOk (Itl K a) g tb nx rt σ H :=
  for_list (D := Ends.mk nx rt nx nx) Pv h0 hl hs hd
/-- over a list of ints -/
theorem loop_ints {a : Addr} {ns : List Int} (Pv : Nat → L2.St → Hp → Prop) (h0 : Pv 0 σ H) (hl : ∀ i σ H, Pv i σ H → SqL K H a (ns.map V.int))
    (hs : ∀ i n σ H, ns[i]? = some n → Pv i σ H → g (.int n) σ H fun σ2 H2 => tb (Ends.mk (Pv (i + 1)) rt nx (Pv (i + 1))) σ2 H2) (hd : ∀ σ H, Pv ns.length σ H → nx σ H) : LoopOk (Itl K a) g tb nx rt σ H :=
  loop_list (xs := ns.map V.int) Pv h0 (fun i σ H _ p => hl i σ H p) (fun i x σ H hx p => by
    obtain ⟨n, hn, rfl⟩ := of_mapint hx
    exact hs i n σ H hn p) (fun σ H p => hd σ H (by rw [List.length_map] at p; exact p))
theorem loop_tup {a : Addr} {xs : List V} (Pv : Nat → L2.St → Hp → Prop) (h0 : Pv 0 σ H) (hl : ∀ i σ H, i ≤ xs.length → Pv i σ H → SqT K H a xs)
    (hs : ∀ i x σ H, xs[i]? = some x → Pv i σ H → g x σ H fun σ2 H2 => tb (Ends.mk (Pv (i + 1)) rt nx (Pv (i + 1))) σ2 H2) (hd : ∀ σ H, Pv xs.length σ H → nx σ H) : LoopOk (Itt K a) g tb nx rt σ H :=
  for_tup (D := Ends.mk nx rt nx nx) Pv h0 hl hs hd
def WBody (W : Nat → L2.St → Hp → Prop) (m : Nat) (tb : TS) (rt : VK) (nx : L2.St → Hp → Prop) (σ : L2.St) (H : Hp) : Prop :=
  ∃ N : L2.St → Hp → Prop, (∀ σ' H', N σ' H' → ∃ m', m' < m ∧ W m' σ' H') ∧ tb (Ends.mk N rt nx N) σ H
theorem m_wbody {W : Nat → L2.St → Hp → Prop} {m : Nat} (h : tb (Ends.mk (fun σ' H' => ∃ m', m' < m ∧ W m' σ' H') rt nx (fun σ' H' => ∃ m', m' < m ∧ W m' σ' H')) σ H) : WBody W m tb rt nx σ H := ⟨_, fun _ _ h => h, h⟩
theorem loop_while (W : Nat → L2.St → Hp → Prop) (m : Nat) (h0 : W m σ H)
    (hs : ∀ m σ H, W m σ H → c σ H fun b H1 => if b = true then WBody W m tb rt nx σ H1 else nx σ H1) : tWhile c tb (Ends.mk nx rt bk ct) σ H := ⟨W, ⟨m, h0⟩, hs⟩
/-- a comprehension over what J yields -/
def CompOk (J : It) (g : TG) (tt : TT) (te : TE) (vs : List Nat) (σ : L2.St) (H1 : Hp) (Q : VK) : Prop :=
  ∀ D, H1 D = none → ∃ W : Nat → Nat → Hp → Prop, (∃ m, W 0 m (upd H1 D (.lst []))) ∧ ∀ i m H, W i m H →
  (J.stop i H ∧ Q (.ref D) H) ∨ (J.go i H ∧ ∃ Nx : Hp → Prop, (∀ H', Nx H' → ∃ m', m' < m ∧ W (i + 1) m' H') ∧ ∀ x H', J.yld i H x H' → g x (wipe σ vs) H' fun σ2 H2 => wipe σ2 vs = wipe σ vs ∧ tt σ2 H2 fun b H3 =>
    if b = true then te σ2 H3 fun y H4 => ∃ acc, H4 D = some (.lst acc) ∧ acc.length < sizeLine ∧ Nx (upd H4 D (.lst (acc ++ [y]))) else Nx H3)
theorem m_lc {tt : TT} {te : TE} {vs : List Nat} (h : wi σ H fun J H1 => CompOk J g tt te vs σ H1 Q) : tLc wi g tt te vs σ H Q := h
/-- over a range, no test, pure elements f i: the list made -/
theorem comp_rangeV {n : Nat} {te : TE} {j : Nat} {f : Nat → V} (hn : n ≤ 100000)
    (he : ∀ (k : Nat) (H2 : Hp) (Q2 : VK), k < n → Same H H2 → (∀ H3, Same H2 H3 → Q2 (f k) H3) → te ((wipe σ [j]).set j (some (.int (k : Int)))) H2 Q2)
    (q : ∀ p H', H p = none → Same H H' → H' p = some (.lst ((List.range n).map f)) → Q (.ref p) H') (hw : ∀ x, wipe ((wipe σ [j]).set j (some x)) [j] = wipe σ [j] := by intro _; rfl) : CompOk (Itr 0 n) (gName j) tYes te [j] σ H Q := by
  intro Dl hD
  refine lc_range (lo := 0) (n := n) (fun i H' => Same H H' ∧ H' Dl = some (.lst ((List.range i).map f))) ⟨same_new hD, upd_same⟩ (fun i H' hi p => ?_) (fun H' p => q Dl H' hD p.1 p.2)
  obtain ⟨p1, p2⟩ := p
  refine ⟨hw _, ?_⟩
  refine k_yes (iteT ?_)
  rw [Int.zero_add]
  refine he i H' _ hi p1 (fun H3 s3 => ⟨_, s3.get p2, ?_, Same.mut (p1.trans s3) hD ⟨_, s3.get p2⟩, ?_⟩)
  · rw [List.length_map, List.length_range]; exact Nat.lt_of_lt_of_le (Nat.lt_of_lt_of_le hi hn) (by decide)
  · rw [upd_same, List.range_succ, List.map_append]; rfl
/-- over a list, no test, pure elements -/
theorem comp_listV {a : Addr} {xs ys : List V} {te : TE} {j : Nat} (hl : SqL K H a xs) (hn : xs.length ≤ 100000) (hy : ys.length = xs.length)
    (he : ∀ (k : Nat) (x y : V) (H2 : Hp) (Q2 : VK), xs[k]? = some x → ys[k]? = some y → Same H H2 → (∀ H3, Same H2 H3 → Q2 y H3) → te ((wipe σ [j]).set j (some x)) H2 Q2)
    (q : ∀ p H', H p = none → Same H H' → H' p = some (.lst ys) → Q (.ref p) H') (hw : ∀ x, wipe ((wipe σ [j]).set j (some x)) [j] = wipe σ [j] := by intro _; rfl) : CompOk (Itl K a) (gName j) tYes te [j] σ H Q := by
  intro Dl hD
  refine lc_list (xs := xs) (fun i H' => Same H H' ∧ H' Dl = some (.lst (ys.take i))) ⟨same_new hD, upd_same⟩ (fun i H' _ p => p.1.seq hl) (fun i x H' hi p => ?_) (fun H' p => q Dl H' hD p.1 (by rw [p.2, ← hy, List.take_length]))
  obtain ⟨p1, p2⟩ := p
  refine ⟨hw _, ?_⟩
  refine k_yes (iteT ?_)
  have hlt : i < xs.length := (List.getElem?_eq_some_iff.mp hi).1
  obtain ⟨y, ey⟩ : ∃ y, ys[i]? = some y := ⟨ys[i]'(by omega), List.getElem?_eq_getElem (by omega)⟩
  refine he i x y H' _ hi ey p1 (fun H3 s3 => ⟨_, s3.get p2, ?_, Same.mut (p1.trans s3) hD ⟨_, s3.get p2⟩, ?_⟩)
  · rw [List.length_take]; exact Nat.lt_of_le_of_lt (Nat.min_le_right _ _) (Nat.lt_of_lt_of_le (show ys.length < 100001 by omega) (by decide))
  · rw [upd_same, List.take_add_one, ey]; rfl
/-- over a list, no test, elements of which something is known -/
theorem comp_listP {a : Addr} {xs : List V} {te : TE} {j : Nat} (P : Nat → V → Prop) (hl : SqL K H a xs) (hn : xs.length ≤ 100000)
    (he : ∀ (k : Nat) (x : V) (H2 : Hp) (Q2 : VK), xs[k]? = some x → Same H H2 → (∀ y H3, P k y → Same H2 H3 → Q2 y H3) → te ((wipe σ [j]).set j (some x)) H2 Q2)
    (q : ∀ p H' ys, H p = none → Same H H' → H' p = some (.lst ys) → ys.length = xs.length → (∀ k y, ys[k]? = some y → P k y) → Q (.ref p) H') (hw : ∀ x, wipe ((wipe σ [j]).set j (some x)) [j] = wipe σ [j] := by intro _; rfl) : CompOk (Itl K a) (gName j) tYes te [j] σ H Q := by
  intro Dl hD
  refine lc_list (xs := xs) (fun i H' => Same H H' ∧ ∃ ys, H' Dl = some (.lst ys) ∧ ys.length = i ∧ ∀ k y, ys[k]? = some y → P k y) ⟨same_new hD, [], upd_same, rfl, fun k y e => by simp at e⟩ (fun i H' _ p => p.1.seq hl) (fun i x H' hi p => ?_) (fun H' p => ?_)
  · obtain ⟨p1, ys, p2, p3, p4⟩ := p
    refine ⟨hw _, ?_⟩
    refine k_yes (iteT ?_)
    have hlt : i < xs.length := (List.getElem?_eq_some_iff.mp hi).1
    refine he i x H' _ hi p1 (fun y H3 hy s3 => ⟨_, s3.get p2, by rw [p3]; exact Nat.lt_of_lt_of_le (Nat.lt_of_lt_of_le hlt hn) (by decide), Same.mut (p1.trans s3) hD ⟨_, s3.get p2⟩, ys ++ [y], upd_same, by rw [List.length_append, p3]; rfl, fun k z e => ?_⟩)
    rcases Nat.lt_or_ge k ys.length with w | w
    · rw [List.getElem?_append_left w] at e; exact p4 k z e
    · rw [List.getElem?_append_right w] at e
      obtain ⟨h1, h2⟩ := List.getElem?_eq_some_iff.mp e
      rw [List.length_singleton] at h1
      have hk : k = i := by omega
      have e2 : z = y := by
        rw [show k - ys.length = 0 by omega] at e
        exact (Option.some.inj e).symm
      rw [hk, e2]; exact hy
  · obtain ⟨p1, ys, p2, p3, p4⟩ := p
    exact q Dl H' ys hD p1 p2 p3 p4
end
/-! ### loops over any walk -/
section
variable {σ : L2.St} {H : Hp} {Q rt : VK} {nx bk ct : L2.St → Hp → Prop} {t u tb : TS} {g : TG} {i : Nat} {x : V} {K : PySem.W.Frag} {J : It} {n : Nat} {G : Hp → Prop} {Y : Nat → Hp → V → Hp → Prop}
theorem loop_walk (w : Walk J n G Y) (Pv : Nat → L2.St → Hp → Prop) (h0 : Pv 0 σ H) (hG : ∀ i σ H, Pv i σ H → G H)
    (hs : ∀ i x σ H H', i < n → Pv i σ H → Y i H x H' → g x σ H' fun σ2 H2 => tb (Ends.mk (Pv (i + 1)) rt nx (Pv (i + 1))) σ2 H2) (hd : ∀ σ H, Pv n σ H → nx σ H) : LoopOk J g tb nx rt σ H :=
  for_it (D := Ends.mk nx rt nx nx) w Pv h0 (fun i σ H _ p => hG i σ H p) hs hd
/-- a comprehension with a test: at each turn the item is dropped, or f i is kept -/
theorem comp_walkV {te : TE} {tt : TT} {j : Nat} {f : Nat → Option V} (w : Walk J n G Y) (hn : n ≤ 100000) (hG : ∀ H', Same H H' → G H')
    (he : ∀ (k : Nat) (x : V) (H1 H2 : Hp) (Qb : Bool → Hp → Prop), k < n → Same H H1 → Y k H1 x H2 → (∀ b H3, Same H1 H3 → (b = true → ∀ Q2 : VK, ∀ H4, Same H3 H4 → ∃ y, f k = some y ∧ ((∀ H5, Same H4 H5 → Q2 y H5) → te ((wipe σ [j]).set j (some x)) H4 Q2)) → (b = false → f k = none) → Qb b H3) → tt ((wipe σ [j]).set j (some x)) H2 Qb)
    (q : ∀ p H', H p = none → Same H H' → H' p = some (.lst ((List.range n).filterMap f)) → Q (.ref p) H') (hw : ∀ x, wipe ((wipe σ [j]).set j (some x)) [j] = wipe σ [j] := by intro _; rfl) : CompOk J (gName j) tt te [j] σ H Q := by
  intro Dl hD
  refine lc_it w (fun i H' => Same H H' ∧ H' Dl = some (.lst ((List.range i).filterMap f))) ⟨same_new hD, upd_same⟩ (fun i H' _ p => hG H' p.1) (fun i x H' H'' hi p hy => ?_) (fun H' p => q Dl H' hD p.1 p.2)
  obtain ⟨p1, p2⟩ := p
  refine ⟨hw _, he i x H' H'' _ hi p1 hy (fun b H3 s3 hb1 hb0 => ?_)⟩
  have hl : ((List.range i).filterMap f).length < sizeLine := Nat.lt_of_le_of_lt (List.length_filterMap_le f (List.range i)) (by rw [List.length_range]; exact Nat.lt_of_lt_of_le (Nat.lt_of_lt_of_le hi hn) (by decide))
  cases b with
  | true =>
    refine iteT ?_
    obtain ⟨y, ey, go⟩ := hb1 rfl (fun y H4 => ∃ acc, H4 Dl = some (.lst acc) ∧ acc.length < sizeLine ∧ Same H (upd H4 Dl (.lst (acc ++ [y]))) ∧ upd H4 Dl (.lst (acc ++ [y])) Dl = some (.lst ((List.range (i + 1)).filterMap f))) H3 (Same.refl _)
    refine go fun H5 s5 => ⟨_, s5.get (s3.get p2), hl, Same.mut ((p1.trans s3).trans s5) hD ⟨_, s5.get (s3.get p2)⟩, ?_⟩
    rw [upd_same, List.range_succ, List.filterMap_append]
    show _ = some (HO.lst (_ ++ List.filterMap f [i]))
    rw [List.filterMap_cons, ey]; rfl
  | false =>
    refine iteF ⟨p1.trans s3, ?_⟩
    rw [List.range_succ, List.filterMap_append]
    rw [show List.filterMap f [i] = [] by rw [List.filterMap_cons, hb0 rfl]; rfl, List.append_nil]
    exact s3.get p2
theorem k_rev {a : Addr} {xs : List V} {ta : TA} {R : It → Hp → Prop} (h : ta σ H fun vs H1 => ∃ (a : Addr) (xs : List V), vs = [.ref a] ∧ SqL K H1 a xs ∧ R (Itv K a xs.length) H1) : iRev K ta σ H R := h
def RevK (K : PySem.W.Frag) (R : It → Hp → Prop) (vs : List V) (H : Hp) : Prop := ∃ (a : Addr) (xs : List V), vs = [.ref a] ∧ SqL K H a xs ∧ R (Itv K a xs.length) H
theorem m_rev {ta : TA} {R : It → Hp → Prop} (h : ta σ H (RevK K R)) : iRev K ta σ H R := h
theorem m_revE {a : Addr} {xs : List V} {R : It → Hp → Prop} (hx : SqL K H a xs) (h : R (Itv K a xs.length) H) : RevK K R [.ref a] H := ⟨a, xs, rfl, hx, h⟩
def EnumK (K : PySem.W.Frag) (R : It → Hp → Prop) (vs : List V) (H : Hp) : Prop := ∃ (a : Addr) (xs : List V), vs = [.ref a] ∧ SqL K H a xs ∧ R (Ite K a) H
theorem m_enum {ta : TA} {R : It → Hp → Prop} (h : ta σ H (EnumK K R)) : iEnum K ta σ H R := h
theorem m_enumE {a : Addr} {xs : List V} {R : It → Hp → Prop} (hx : SqL K H a xs) (h : R (Ite K a) H) : EnumK K R [.ref a] H := ⟨a, xs, rfl, hx, h⟩
def ZipK (K : PySem.W.Frag) (R : It → Hp → Prop) (vs : List V) (H : Hp) : Prop := ∃ a b xs ys, vs = [.ref a, .ref b] ∧ SqL K H a xs ∧ SqL K H b ys ∧ R (Itz K a b) H
theorem m_zip {ta : TA} {R : It → Hp → Prop} (h : ta σ H (ZipK K R)) : iZip K ta σ H R := h
theorem m_zipE {a b : Addr} {xs ys : List V} {R : It → Hp → Prop} (hx : SqL K H a xs) (hy : SqL K H b ys) (h : R (Itz K a b) H) : ZipK K R [.ref a, .ref b] H := ⟨a, b, xs, ys, rfl, hx, hy, h⟩
def RevLK (K : PySem.W.Frag) (Q : VK) (x : V) (H : Hp) : Prop := ∃ a xs, x = .ref a ∧ SqL K H a xs ∧ ∀ p, H p = none → Q (.ref p) (upd H p (.lst xs.reverse))
theorem m_revL {te : TE} (h : te σ H (RevLK K Q)) : tRevL K te σ H Q := h
theorem m_revLE {a : Addr} {xs : List V} (hx : SqL K H a xs) (q : ∀ p, H p = none → Q (.ref p) (upd H p (.lst xs.reverse))) : RevLK K Q (.ref a) H := ⟨a, xs, rfl, hx, q⟩
def Rng3K (R : It → Hp → Prop) (vs : List V) (H : Hp) : Prop := ∃ i j c n, vs = [.int i, .int j, .int c] ∧ RgC i j c n ∧ R (Itc i c n) H
theorem m_rng3 {ta : TA} {R : It → Hp → Prop} (h : ta σ H (Rng3K R)) : iRng3 ta σ H R := h
theorem m_rng3e {R : It → Hp → Prop} {a b c : Int} {n : Nat} (h1 : RgC a b c n) (h : R (Itc a c n) H) : Rng3K R [V.int a, V.int b, V.int c] H := ⟨a, b, c, n, rfl, h1, h⟩
/-- targets that are pairs -/
def GTupK (K : PySem.W.Frag) (n : Nat) (tg : TGs) (Qs : L2.St → Hp → Prop) (x : V) (σ : L2.St) (H : Hp) : Prop := ∃ a xs, x = .ref a ∧ SqT K H a xs ∧ xs.length = n ∧ tg xs σ H Qs
theorem m_gTup {tg : TGs} {Qs : L2.St → Hp → Prop} {a : Addr} {xs : List V} (hx : SqT K H a xs) (hn : xs.length = n) (h : tg xs σ H Qs) : gTup K n tg (.ref a) σ H Qs := ⟨a, xs, rfl, hx, hn, h⟩
theorem m_gCons {t1 : TG} {ts : TGs} {Qs : L2.St → Hp → Prop} {xs : List V} (h : t1 x σ H fun σ' H' => ts xs σ' H' Qs) : gCons t1 ts (x :: xs) σ H Qs := ⟨x, xs, rfl, h⟩
theorem m_gNil {Qs : L2.St → Hp → Prop} (h : Qs σ H) : gNil [] σ H Qs := ⟨rfl, h⟩
theorem m_asg {te : TE} (h : te σ H fun x H1 => g x σ H1 nx) : tAsg te g (Ends.mk nx rt bk ct) σ H := h
theorem k_rep {Q : VK} {l : Addr} {xs : List V} {n : Nat} (h : H l = some (.lst xs)) (hn : xs.length * n ≤ 1000000) (hn2 : n ≤ 1000000) (q : ∀ p, H p = none → Q (.ref p) (upd H p (.lst (List.replicate n xs).flatten))) : rRep (.ref l) (.int (n : Int)) H Q :=
  ⟨l, n, xs, rfl, rfl, h, by omega, by omega, by rw [Int.toNat_natCast]; exact Nat.le_trans hn (by decide), by rw [Int.toNat_natCast]; exact q⟩
theorem k_cat {Q : VK} {l b : Addr} {xs zs : List V} (h1 : H l = some (.lst xs)) (h2 : H b = some (.lst zs)) (hn : xs.length + zs.length ≤ 1000000) (q : ∀ p, H p = none → Q (.ref p) (upd H p (.lst (xs ++ zs)))) : rCat (.ref l) (.ref b) H Q :=
  ⟨l, b, xs, zs, rfl, rfl, h1, h2, Nat.le_trans hn (by decide), q⟩
theorem rep_one (x : V) (n : Nat) : (List.replicate n [x]).flatten = List.replicate n x := by
  induction n with
  | zero => rfl
  | succ n ih => rw [List.replicate_succ, List.flatten_cons, ih]; rfl
theorem m_gSub {to ti : TE} {ts : TSet} {Qs : L2.St → Hp → Prop} (h : to σ H fun o H1 => ti σ H1 fun i H2 => ts o i x H2 fun H3 => Qs σ H3) : gSub to ti ts x σ H Qs := h
theorem m_setL {p : Addr} {xs : List V} {k : Int} {j : Nat} {y : V} {Qh : Hp → Prop} (h : H p = some (.lst xs)) (hj : ixN xs.length k = some j) (q : Qh (upd H p (.lst (xs.set j y)))) : rSetL (.ref p) (.int k) y H Qh := ⟨p, xs, k, j, rfl, rfl, h, hj, q⟩
theorem ixN_nat {n : Nat} {k : Int} (h0 : 0 ≤ k) (h1 : k < n) : ixN n k = some k.toNat := by
  unfold ixN; rw [if_pos h0, if_pos h1]
def ParK (nx : L2.St → Hp → Prop) (i j : Nat) (σ : L2.St) (vs : List V) (H : Hp) : Prop := ∃ v w, vs = [v, w] ∧ nx ((σ.set i (some v)).set j (some w)) H
theorem m_par {i j : Nat} {ta : TA} (h : ta σ H (ParK nx i j σ)) : tPar i j ta (Ends.mk nx rt bk ct) σ H := h
theorem m_parE {i j : Nat} {a b : V} (h : nx ((σ.set i (some a)).set j (some b)) H) : ParK nx i j σ [a, b] H := ⟨a, b, rfl, h⟩
theorem k_divmod {Q : VK} {a b : Int} (h : CDivP a b) (q : ∀ p, H p = none → Q (.ref p) (upd H p (.tup [.int (a / b), .int (a % b)]))) : rDivmod [.int a, .int b] H Q := ⟨a, b, rfl, h, q⟩
end
/-! ### what a comprehension with a test leaves -/
theorem fm_head {α : Type} {f : Nat → Option α} : ∀ {n : Nat} {y : α}, ((List.range n).filterMap f)[0]? = some y → ∃ i, i < n ∧ f i = some y ∧ ∀ j, j < i → f j = none
  | 0, y, h => by simp at h
  | n + 1, y, h => by
    rw [List.range_succ, List.filterMap_append] at h
    cases e : (List.range n).filterMap f with
    | cons z zs =>
      rw [e] at h
      have h' : ((List.range n).filterMap f)[0]? = some y := by rw [e]; simpa using h
      obtain ⟨i, h1, h2, h3⟩ := fm_head h'
      exact ⟨i, by omega, h2, h3⟩
    | nil =>
      rw [e, List.nil_append] at h
      have none_all : ∀ j, j < n → f j = none := fun j hj => List.filterMap_eq_nil_iff.mp e j (List.mem_range.mpr hj)
      cases q : f n with
      | none => rw [List.filterMap_cons, q] at h; simp at h
      | some z =>
        rw [List.filterMap_cons, q] at h
        have : z = y := by simpa using h
        subst this
        exact ⟨n, by omega, q, none_all⟩
theorem fm_last {α : Type} {f : Nat → Option α} : ∀ {n : Nat} {y : α} {ys : List α}, (List.range n).filterMap f = ys ++ [y] → ∃ i, i < n ∧ f i = some y ∧ ∀ j, i < j → j < n → f j = none
  | 0, y, ys, h => by simp at h
  | n + 1, y, ys, h => by
    rw [List.range_succ, List.filterMap_append] at h
    cases q : f n with
    | none =>
      rw [show List.filterMap f [n] = [] by rw [List.filterMap_cons, q]; rfl, List.append_nil] at h
      obtain ⟨i, h1, h2, h3⟩ := fm_last h
      refine ⟨i, by omega, h2, fun j h4 h5 => ?_⟩
      rcases Nat.lt_or_ge j n with h6 | h6
      · exact h3 j h4 h6
      · have : j = n := by omega
        subst this; exact q
    | some z =>
      rw [show List.filterMap f [n] = [z] by rw [List.filterMap_cons, q]; rfl] at h
      have e := List.append_inj_right' h rfl
      injection e with e
      subst e
      exact ⟨n, by omega, q, fun j h4 h5 => by omega⟩
theorem fm_nil {α : Type} {f : Nat → Option α} {n : Nat} (h : (List.range n).filterMap f = []) : ∀ j, j < n → f j = none := fun j hj => List.filterMap_eq_nil_iff.mp h j (List.mem_range.mpr hj)
theorem fm_id {α : Type} (l : List α) {n : Nat} (hn : n = l.length) : (List.range n).filterMap (fun k => l[k]?) = l := by
  subst hn
  have h : ∀ n, n ≤ l.length → (List.range n).filterMap (fun k => l[k]?) = l.take n := by
    intro n
    induction n with
    | zero => intro _; rfl
    | succ n ih =>
      intro hn
      rw [List.range_succ, List.filterMap_append, ih (by omega), List.take_add_one, List.getElem?_eq_getElem (show n < l.length by omega)]
      congr 1
      rw [List.filterMap_cons, List.getElem?_eq_getElem (show n < l.length by omega)]; rfl
  rw [h _ (Nat.le_refl _), List.take_length]
theorem snoc_of {α : Type} : ∀ {l : List α}, l ≠ [] → ∃ ys y, l = ys ++ [y]
  | [], h => absurd rfl h
  | a :: l, _ => ⟨(a :: l).dropLast, (a :: l).getLast (List.cons_ne_nil _ _), (List.dropLast_concat_getLast _).symm⟩
theorem cutPart (xs : List V) (a b : Nat) : cutV xs (some (a : Int)) (some (b : Int)) = (xs.take b).drop a := by
  unfold cutV
  rw [HT.sIx_nat, HT.sIx_nat, List.drop_take]
  rcases Nat.le_total a xs.length with h | h
  · rw [Nat.min_eq_left h]
    rcases Nat.le_total b xs.length with h2 | h2
    · rw [Nat.min_eq_left h2]
    · rw [Nat.min_eq_right h2, List.take_of_length_le (by rw [List.length_drop]; omega), List.take_of_length_le (by rw [List.length_drop]; omega)]
  · rw [Nat.min_eq_right h, List.drop_of_length_le (Nat.le_refl _), List.drop_of_length_le h]
    simp
/-- a part of a list of ints -/
theorem cut_ints (ns : List Int) (lo hi : Option Int) : ∃ cs : List Int, cutV (ns.map V.int) lo hi = cs.map V.int ∧ (∀ x ∈ cs, x ∈ ns) ∧ cs.length ≤ ns.length := by
  unfold cutV
  refine ⟨_, by rw [← List.map_drop, ← List.map_take], fun x h => List.mem_of_mem_drop (List.mem_of_mem_take h), by rw [List.length_take, List.length_drop]; omega⟩
theorem cutDrop (xs : List V) (a : Nat) : cutV xs (some (a : Int)) none = xs.drop a := by
  unfold cutV
  rw [HT.sIx_nat, HT.sIx_none]
  rcases Nat.le_total a xs.length with h | h
  · rw [Nat.min_eq_left h, List.take_of_length_le (by rw [List.length_drop]; omega)]
  · rw [Nat.min_eq_right h, List.drop_of_length_le (Nat.le_refl _), List.drop_of_length_le h]
    simp
/-! ### data at any depth -/
section
variable {H H' : Hp} {K : PySem.W.Frag}
theorem dpAll_ints : ∀ ns : List Int, DpAll K H (ns.map V.int) (ns.map PyData.int)
  | [] => .nil
  | n :: ns => .cons (.int n) (dpAll_ints ns)
theorem dpAll_bools : ∀ bs : List Bool, DpAll K H (bs.map V.bl) (bs.map PyData.bool)
  | [] => .nil
  | b :: bs => .cons (.bl b) (dpAll_bools bs)
theorem dp_ints {a : Addr} {ns : List Int} (h : SqL K H a (ns.map V.int)) : Dp K H (.ref a) (.list (ns.map PyData.int)) := .lst h (dpAll_ints ns)
theorem dp_intsT {a : Addr} {ns : List Int} (h : SqT K H a (ns.map V.int)) : Dp K H (.ref a) (.tuple (ns.map PyData.int)) := .tup h (dpAll_ints ns)
theorem eqvAll_ints : ∀ as bs : List Int, PyData.eqvAll (as.map PyData.int) (bs.map PyData.int) = decide (as = bs)
  | [], [] => by rw [List.map_nil]; unfold PyData.eqvAll; rfl
  | [], b :: bs => by rw [List.map_nil, List.map_cons]; unfold PyData.eqvAll; simp
  | a :: as, [] => by rw [List.map_nil, List.map_cons]; unfold PyData.eqvAll; simp
  | a :: as, b :: bs => by
    rw [List.map_cons, List.map_cons]; unfold PyData.eqvAll
    rw [eqvAll_ints as bs]
    unfold PyData.eqv
    by_cases h : a = b
    · subst h; by_cases h2 : as = bs
      · subst h2; simp
      · simp [h2]
    · simp [h]
theorem eqv_ints (as bs : List Int) : PyData.eqv (.list (as.map PyData.int)) (.list (bs.map PyData.int)) = decide (as = bs) := by
  unfold PyData.eqv; exact eqvAll_ints as bs
theorem eqv_intsT (as bs : List Int) : PyData.eqv (.tuple (as.map PyData.int)) (.tuple (bs.map PyData.int)) = decide (as = bs) := by
  unfold PyData.eqv; exact eqvAll_ints as bs
/-- laid: no dict, texts in order, at most so deep -/
def laid (n : Nat) (d : PyData) : Prop := d.canLay0 = true ∧ d.depth ≤ n
theorem laid_int {n : Nat} (i : Int) : laid n (.int i) := ⟨by simp [PyData.canLay0], by simp [PyData.depth]⟩
theorem laid_bool {n : Nat} (i : Bool) : laid n (.bool i) := ⟨by simp [PyData.canLay0], by simp [PyData.depth]⟩
theorem laid_none {n : Nat} : laid n .none := ⟨by simp [PyData.canLay0], by simp [PyData.depth]⟩
theorem laid_all {n : Nat} : ∀ ds : List PyData, (∀ d ∈ ds, laid n d) → PyData.canLayAll0 ds = true ∧ PyData.depthAll ds ≤ n
  | [], _ => ⟨by simp [PyData.canLayAll0], by simp [PyData.depthAll]⟩
  | d :: ds, h => by
    obtain ⟨h1, h2⟩ := h d List.mem_cons_self
    obtain ⟨h3, h4⟩ := laid_all ds fun x hx => h x (List.mem_cons_of_mem _ hx)
    exact ⟨by simp [PyData.canLayAll0, h1, h3], by simp only [PyData.depthAll]; omega⟩
theorem laid_list {n : Nat} {ds : List PyData} (h : ∀ d ∈ ds, laid n d) : laid (n + 1) (.list ds) := by
  obtain ⟨h1, h2⟩ := laid_all ds h
  exact ⟨by simp [PyData.canLay0, h1], by simp only [PyData.depth]; omega⟩
theorem laid_tup {n : Nat} {ds : List PyData} (h : ∀ d ∈ ds, laid n d) : laid (n + 1) (.tuple ds) := by
  obtain ⟨h1, h2⟩ := laid_all ds h
  exact ⟨by simp [PyData.canLay0, h1], by simp only [PyData.depth]; omega⟩
theorem laid_ints {n : Nat} (ns : List Int) : laid (n + 1) (.list (ns.map PyData.int)) := laid_list fun d hd => by
  obtain ⟨i, _, rfl⟩ := List.mem_map.mp hd
  exact laid_int i
theorem laid_intsT {n : Nat} (ns : List Int) : laid (n + 1) (.tuple (ns.map PyData.int)) := laid_tup fun d hd => by
  obtain ⟨i, _, rfl⟩ := List.mem_map.mp hd
  exact laid_int i
theorem laid_bools {n : Nat} (bs : List Bool) : laid (n + 1) (.list (bs.map PyData.bool)) := laid_list fun d hd => by
  obtain ⟨i, _, rfl⟩ := List.mem_map.mp hd
  exact laid_bool i
theorem laid_shaped {d : PyData} (h : laid 64 d) : SeqAt.shaped d = true := by
  obtain ⟨h1, h2⟩ := h
  unfold SeqAt.shaped
  rw [h1, decide_eq_true h2]; rfl
theorem k_eqD {Q : VK} {x y : V} {d e : PyData} (h1 : Dp K H x d) (h2 : Dp K H y e) (l1 : laid 64 d) (l2 : laid 64 e) (q : Q (.bl (PyData.eqv d e)) H) : rEqD K x y H Q :=
  ⟨d, e, h1, h2, laid_shaped l1, laid_shaped l2, q⟩
theorem k_neD {Q : VK} {x y : V} {d e : PyData} (h1 : Dp K H x d) (h2 : Dp K H y e) (l1 : laid 64 d) (l2 : laid 64 e) (q : Q (.bl (!PyData.eqv d e)) H) : rNeD K x y H Q :=
  ⟨d, e, h1, h2, laid_shaped l1, laid_shaped l2, q⟩
theorem k_eqL {Q : VK} {a b : Addr} {ns ms : List Int} (h1 : SqL K H a (ns.map V.int)) (h2 : SqL K H b (ms.map V.int)) (q : Q (.bl (decide (ns = ms))) H) : rEqD K (.ref a) (.ref b) H Q :=
  k_eqD (dp_ints h1) (dp_ints h2) (laid_ints ns) (laid_ints ms) (by rw [eqv_ints]; exact q)
theorem k_neL {Q : VK} {a b : Addr} {ns ms : List Int} (h1 : SqL K H a (ns.map V.int)) (h2 : SqL K H b (ms.map V.int)) (q : Q (.bl (!decide (ns = ms))) H) : rNeD K (.ref a) (.ref b) H Q :=
  k_neD (dp_ints h1) (dp_ints h2) (laid_ints ns) (laid_ints ms) (by rw [eqv_ints]; exact q)
end
/-- a row's tables: a number and a tuple of numbers -/
theorem eqv_row (n : Int) (as : List Int) : PyData.eqv (.tuple [.int n, .tuple (as.map PyData.int)]) (.tuple [.int n, .tuple (as.map PyData.int)]) = true := by
  unfold PyData.eqv PyData.eqvAll; unfold PyData.eqv PyData.eqvAll
  simp [eqv_intsT, PyData.eqvAll]
theorem dp_row {K : PySem.W.Frag} {H : Hp} {t a : Addr} {n : Int} {as : List Int} (h1 : SqT K H t [.int n, .ref a]) (h2 : SqT K H a (as.map V.int)) : Dp K H (.ref t) (.tuple [.int n, .tuple (as.map PyData.int)]) :=
  .tup h1 (.cons (.int n) (.cons (dp_intsT h2) .nil))
theorem laid_row (n : Int) (as : List Int) : laid 64 (.tuple [.int n, .tuple (as.map PyData.int)]) := laid_tup (n := 63) fun d hd => by
  simp only [List.mem_cons, List.not_mem_nil, or_false] at hd
  rcases hd with rfl | rfl
  · exact laid_int _
  · exact laid_intsT _
theorem k_eqRow {K : PySem.W.Frag} {H : Hp} {Q : VK} {t u a b : Addr} {n : Int} {as : List Int} (h1 : SqT K H t [.int n, .ref a]) (h2 : SqT K H a (as.map V.int)) (h3 : SqT K H u [.int n, .ref b]) (h4 : SqT K H b (as.map V.int)) (q : Q (.bl true) H) : rEqD K (.ref t) (.ref u) H Q :=
  k_eqD (dp_row h1 h2) (dp_row h3 h4) (laid_row n as) (laid_row n as) (by rw [eqv_row]; exact q)
theorem any_int (i : Int) : ∀ ns : List Int, ((ns.map PyData.int).any fun z => PyData.eqv z (.int i)) = decide (i ∈ ns)
  | [] => by simp
  | n :: ns => by
    rw [List.map_cons, List.any_cons, any_int i ns]
    unfold PyData.eqv
    by_cases h : n = i
    · subst h; simp
    · have h' : ¬ i = n := fun z => h z.symm
      simp [h, h']
theorem k_inL {K : PySem.W.Frag} {H : Hp} {Q : VK} {i : Int} {a : Addr} {ns : List Int} (h : SqL K H a (ns.map V.int)) (q : Q (.bl (decide (i ∈ ns))) H) : rInD K (.int i) (.ref a) H Q :=
  ⟨.int i, _, .int i, dp_ints h, laid_shaped (laid_int i), laid_shaped (laid_ints ns), by rw [any_int]; exact q⟩
theorem k_notInL {K : PySem.W.Frag} {H : Hp} {Q : VK} {i : Int} {a : Addr} {ns : List Int} (h : SqL K H a (ns.map V.int)) (q : Q (.bl (!decide (i ∈ ns))) H) : rNotInD K (.int i) (.ref a) H Q :=
  ⟨.int i, _, .int i, dp_ints h, laid_shaped (laid_int i), laid_shaped (laid_ints ns), by rw [any_int]; exact q⟩
section
variable {H : Hp} {K : PySem.W.Frag}
theorem eqvAll_bools : ∀ as bs : List Bool, PyData.eqvAll (as.map PyData.bool) (bs.map PyData.bool) = decide (as = bs)
  | [], [] => by rw [List.map_nil]; unfold PyData.eqvAll; rfl
  | [], b :: bs => by rw [List.map_nil, List.map_cons]; unfold PyData.eqvAll; simp
  | a :: as, [] => by rw [List.map_nil, List.map_cons]; unfold PyData.eqvAll; simp
  | a :: as, b :: bs => by
    rw [List.map_cons, List.map_cons]; unfold PyData.eqvAll
    rw [eqvAll_bools as bs]
    unfold PyData.eqv
    by_cases h : a = b
    · subst h; by_cases h2 : as = bs
      · subst h2; simp
      · simp [h2]
    · simp [h]
theorem eqv_bools (as bs : List Bool) : PyData.eqv (.list (as.map PyData.bool)) (.list (bs.map PyData.bool)) = decide (as = bs) := by
  unfold PyData.eqv; exact eqvAll_bools as bs
theorem dp_bools {a : Addr} {bs : List Bool} (h : SqL K H a (bs.map V.bl)) : Dp K H (.ref a) (.list (bs.map PyData.bool)) := .lst h (dpAll_bools bs)
theorem k_eqB {Q : VK} {a b : Addr} (ns ms : List Bool) (h1 : SqL K H a (ns.map V.bl)) (h2 : SqL K H b (ms.map V.bl)) (q : Q (.bl (decide (ns = ms))) H) : rEqD K (.ref a) (.ref b) H Q :=
  k_eqD (dp_bools h1) (dp_bools h2) (laid_bools ns) (laid_bools ms) (by rw [eqv_bools]; exact q)
end
theorem m_neB {H : Hp} {K : PySem.W.Frag} {Q : VK} {a b : Addr} (ns ms : List Bool) (h1 : SqL K H a (ns.map V.bl)) (h2 : SqL K H b (ms.map V.bl)) (q : Q (.bl (!decide (ns = ms))) H) : rNeD K (.ref a) (.ref b) H Q :=
  k_neD (dp_bools h1) (dp_bools h2) (laid_bools ns) (laid_bools ms) (by rw [eqv_bools]; exact q)
theorem room65 {k : Nat} {A : Around} (r : Room k A) : A.units + 65 < cLine := by have := r.un; omega
/-- list + list, whichever way they are known -/
def rCatK (K : PySem.W.Frag) : R2 := fun x y H Q => ∃ l b xs zs, x = .ref l ∧ y = .ref b ∧ SqL K H l xs ∧ SqL K H b zs ∧ xs.length + zs.length ≤ sizeLine ∧ ∀ p, H p = none → Q (.ref p) (upd H p (.lst (xs ++ zs)))
theorem op_catK {X : Cx} : OpR X (binaryOp .Add) (rCatK X.K) := by
  intro pins s σ H x y v u Q I rx ry h
  obtain ⟨l, b, xs, zs, rfl, rfl, hH, hB, hz, q⟩ := h
  cases rx
  cases ry
  obtain ⟨its, r, ⟨⟨cls, dd, data, sl⟩, n, ho, hc, hdd, hd⟩, hl⟩ := I.list hH
  obtain ⟨its2, r2, ⟨⟨cls2, dd2, data2, sl2⟩, n2, ho2, hc2, hdd2, hd2⟩, hl2⟩ := I.list hB
  simp only at hc hdd hd hc2 hdd2 hd2
  subst hc hdd hd hc2 hdd2 hd2
  have h1 := r.length
  have h2 := r2.length
  refine concat_meets ⟨_, ho, rfl⟩ ⟨_, ho2, rfl⟩ noFill_list_add seq_list_add PySem.F.slot_list_add PySem.F.entry_list_add (PySem.F.args_list_add_2 _ _) (list_addW l b its.toArray its2.toArray n n2 none none sl sl2 (by rw [List.size_toArray, List.size_toArray]; omega)) ⟨ho, ho2, ?_⟩
  have ea : its.toArray ++ its2.toArray = (its ++ its2).toArray := by simp
  rw [ea]
  exact ⟨.ref _, _, I.lnew (t' := s.toks) (r.append r2) (by rw [List.length_append]; omega), rfl, q _ I.fresh⟩
theorem k_catK {H : Hp} {K : PySem.W.Frag} {Q : VK} {l b : Addr} {xs zs : List V} (h1 : SqL K H l xs) (h2 : SqL K H b zs) (hn : xs.length + zs.length ≤ 1000000) (q : ∀ p, H p = none → Q (.ref p) (upd H p (.lst (xs ++ zs)))) : rCatK K (.ref l) (.ref b) H Q :=
  ⟨l, b, xs, zs, rfl, rfl, h1, h2, Nat.le_trans hn (by decide), q⟩
/-! ### len(set(xs)) -/
/-- how many unlike numbers -/
def unlike (ns : List Int) : Nat := (PyProof.Rows.firstMet (fun i => ns.getD i 0) ns.length).length
theorem unlike_le (ns : List Int) : unlike ns ≤ ns.length := PyProof.Rows.firstMet_length_le _ _
def tLenSet (K : PySem.W.Frag) (ta : TE) : TE := fun σ H Q => ta σ H fun x H1 => ∃ (l : Addr) (ns : List Int), x = .ref l ∧ SqL K H1 l (ns.map V.int) ∧ ns.length ≤ 4000 ∧ Q (.int (unlike ns : Nat)) H1
theorem intsAre_vals : ∀ {ns : List Int} {us : List Value}, Vals (ns.map V.int) us → PyProof.Rows.IntsAre us ns
  | [], _, .nil => .nil
  | n :: ns, _, .cons r t => by
    obtain ⟨k, rfl⟩ := r
    exact .cons n k (intsAre_vals t)
theorem pe_lenSet {X : Cx} {a : Expr} {ta : TE} {p p2 q pos : Pos} (hg : Gl X "len") (hm : X.mg "len" = none) (hg2 : Gl X "set") (hm2 : X.mg "set" = none) (ha : PE X a ta) (hc : X.calm = true := by rfl)
    (na : starEach [a] X.env = (false, eval a X.env) :: starEach [] X.env := by rfl) : PE X (.Call (.Name "len" p) [.Call (.Name "set" p2) [a] [] q] [] pos) (tLenSet X.K ta) := by
  refine ⟨fun pins s σ H Q I h => ?_⟩
  refine Call_ (ld_blt I hg hm boot_len ?_)
  refine PyProof.Rows.callWith_builtin1 (PyProof.Rows.args_cons ?_ rfl) rfl rfl
  refine Call_ (ld_blt I hg2 hm2 boot_set ?_)
  refine PyProof.Rows.callWith_type1 (PyProof.Rows.args_cons (thn (ha.run pins s σ H _ I h) fun v s1 ⟨x, H1, I1, r1, q1⟩ => PyProof.Rows.args_nil ?_) na) na rfl
  obtain ⟨l, ns, rfl, hq, hl, q1⟩ := q1
  cases r1
  obtain ⟨its, r, pl, hz⟩ := I1.list hq
  have hlen : its.toArray.size = ns.length := by rw [List.size_toArray, ← r.length, List.length_map]
  refine call_set_list (I1.ok.hd hc) pl.isList (by simpa using intsAre_vals r) (by rw [hlen]; unfold scanBound; omega) fun h' tk hS hk => ?_
  refine PyProof.Rows.args_nil ?_
  rw [hlen] at hS
  obtain ⟨o, es, ep, t, ho, hex, hd, _, _, _, hf, hn⟩ := hS
  have I2 : Inv X pins σ H1 { s1 with heap := h', toks := tk } := I1.kept fun b o e => hk b o (Heap.lt_size e) e
  have hu := unlike_le ns
  unfold unlike at hu q1
  exact call_len_set ho hex hd hf (by rw [hn] <;> omega) ⟨.int ((PyProof.Rows.firstMet (fun i => ns.getD i 0) ns.length).length : Nat), H1, I2.tok _, ⟨_, by rw [hn]⟩, q1⟩
section
variable {σ : L2.St} {H : Hp} {Q : VK} {K : PySem.W.Frag} {te : TE}
def LenSetK (K : PySem.W.Frag) (Q : VK) (x : V) (H : Hp) : Prop := ∃ (l : Addr) (ns : List Int), x = .ref l ∧ SqL K H l (ns.map V.int) ∧ ns.length ≤ 4000 ∧ Q (.int (unlike ns : Nat)) H
theorem m_lenSet (h : te σ H (LenSetK K Q)) : tLenSet K te σ H Q := h
theorem m_lenSetE {l : Addr} {ns : List Int} (hS : SqL K H l (ns.map V.int)) (hl : ns.length ≤ 4000) (q : Q (.int (unlike ns : Nat)) H) : LenSetK K Q (.ref l) H := ⟨l, ns, rfl, hS, hl, q⟩
end
/-! ### errors: raised, let through, caught -/
section
variable {X : Cx} {E : XK} {W : WX} {k j : Nat} {ps : List Str} {sp : Sp} {x : Str} {p pos : Pos} {e : Expr} {es : List Expr} {t : TA}
theorem passX (tk : Takes X (fun cls d _ H => E cls d H)) : Passes (L2.CX X.prog X.w) X E := passes_call tk fun _ _ _ _ h => h
/-- raise C('..') -/
def tRz (W : WX) (C : Addr) : TS := fun _ σ H => W (.ref C) none σ H
/-- what stands of the class x: it can be raised -/
structure ExF (K : PySem.W.Frag) (mg : Str → Option Value) (x : Str) : Prop where
  gl : mg x = some (.ref (He.ga K x))
  ex : PySem.W.excIn K (He.ga K x) He.veBase "ValueError.__new__" = true
  kp : PySem.W.keepIn K (.ref (He.ga K x)) = true
  sb : PySem.W.subIn K (.ref (He.ga K x)) (.type "BaseException") = some true
  ty : PySem.W.typeIn K (.ref (He.ga K x)) = some (.type "type")
theorem ps_rz {m : Str} {j : Nat} {p2 pos2 : Pos} (F : ExF X.K X.mg x) (tk : Takes X W) (hc : X.calm = true := by rfl) (hg : Gl X x := by rfl) (hdb : (x == ("__debug__" : Str)) = false := by decide) :
    PS X (.Raise (some (.Call (.Name x p) [.Constant (.str m) j p2] [] pos)) none pos2) (tRz W (He.ga X.K x)) :=
  ps_raise hc tk (pmk_own PySem.F.excBase_ValueError F.ex F.gl F.kp (raises_own F.sb F.ty) hg hdb)
theorem k_rz {D : Ends} {C : Addr} {σ : L2.St} {H : Hp} (h : W (.ref C) none σ H) : tRz W C D σ H := h
/-- a call within a try's body -/
theorem pe_callFS (F : Okf X.prog X.w X.K X.mg X.base (L2.CX X.prog X.w) k x ps sp) (hr : Room j X.A) (hk : k ≤ j) (hg : Gl X x) (tk : Takes X W)
    (ha : PA X (e :: es) t) (hdb : (x == ("__debug__" : Str)) = false := by decide) (he : starEach (e :: es) X.env = (false, eval e X.env) :: starEach es X.env := by rfl) (hpl : (backTo pos (starEach es X.env)).any (·.1) = false := by rfl) :
    PE X (.Call (.Name x p) (e :: es) [] pos) (tCallS sp (WE W) t) := by
  obtain ⟨fd, _, hb, ok⟩ := F.ex
  exact pe_callS ok (hr.mono hk) hg F.gl F.kp hb (fun σ => passAt tk σ) ha hdb he hpl
theorem m_callS {E : L2.St → XK} {σ : L2.St} {H : Hp} {Q : VK} (h : t σ H fun vs H1 => sp vs H1 Q (E σ)) : tCallS sp E t σ H Q := h
/-- try: .. except C as n | except C -/
def tTryAs (K : PySem.W.Frag) (c : Value) (i : Nat) (tb : WX → TS) (ts : Addr → Value → Option Addr → TS) (Wout : WX) : TS := fun D σ H => tb (wAs K c i ts Wout D) D σ H
def tTryOnly (K : PySem.W.Frag) (c : Value) (tb : WX → TS) (ts : Addr → Value → Option Addr → TS) (Wout : WX) : TS := fun D σ H => tb (wOnly K c ts Wout D) D σ H
section
variable {K : PySem.W.Frag} {c cls : Value} {d : Option Addr} {i : Nat} {tb : WX → TS} {ts : Addr → Value → Option Addr → TS} {Wout : WX} {σ : L2.St} {H : Hp} {rt : VK} {nx bk ct : L2.St → Hp → Prop}
theorem m_tryAs (h : tb (wAs K c i ts Wout (Ends.mk nx rt bk ct)) (Ends.mk nx rt bk ct) σ H) : tTryAs K c i tb ts Wout (Ends.mk nx rt bk ct) σ H := h
theorem m_tryOnly (h : tb (wOnly K c ts Wout (Ends.mk nx rt bk ct)) (Ends.mk nx rt bk ct) σ H) : tTryOnly K c tb ts Wout (Ends.mk nx rt bk ct) σ H := h
theorem m_caught (he : PySem.W.exmOne K cls c = some true) (h : ∀ a, H a = none → ts a cls d (Ends.mk (fun σ' H' => nx (σ'.set i none) H') rt (fun σ' H' => bk (σ'.set i none) H') (fun σ' H' => ct (σ'.set i none) H')) (σ.set i (some (.ref a))) H) :
    WE (wAs K c i ts Wout (Ends.mk nx rt bk ct)) σ cls d H := ⟨true, he, fun _ => h, fun z => Bool.noConfusion z⟩
theorem m_passed (he : PySem.W.exmOne K cls c = some false) (h : Wout cls d σ H) : WE (wAs K c i ts Wout (Ends.mk nx rt bk ct)) σ cls d H := ⟨false, he, fun z => Bool.noConfusion z, fun _ => h⟩
theorem m_caughtO (he : PySem.W.exmOne K cls c = some true) (h : ∀ a, H a = none → ts a cls d (Ends.mk nx rt bk ct) σ H) :
    WE (wOnly K c ts Wout (Ends.mk nx rt bk ct)) σ cls d H := ⟨true, he, fun _ => h, fun z => Bool.noConfusion z⟩
theorem m_passedO (he : PySem.W.exmOne K cls c = some false) (h : Wout cls d σ H) : WE (wOnly K c ts Wout (Ends.mk nx rt bk ct)) σ cls d H := ⟨false, he, fun z => Bool.noConfusion z, fun _ => h⟩
end
/-! ### several except clauses, each with a name -/
def endN (i : Nat) (D : Ends) : Ends := Ends.mk (fun τ G => D.nx (τ.set i none) G) D.rt (fun τ G => D.bk (τ.set i none) G) (fun τ G => D.ct (τ.set i none) G)
def wManyA (K : PySem.W.Frag) (Wout : WX) (D : Ends) : List (Value × Nat × (Addr → Value → Option Addr → TS)) → WX
  | [] => Wout
  | (c, i, ts) :: l => fun cls d τ G => ∃ b, PySem.W.exmOne K cls c = some b ∧ (b = true → ∀ x, G x = none → ts x cls d (endN i D) (τ.set i (some (.ref x))) G) ∧ (b = false → wManyA K Wout D l cls d τ G)
inductive HdsA (X : Cx) : List ExceptHandler → List (Value × Nat × (Addr → Value → Option Addr → TS)) → Prop
  | nil : HdsA X [] []
  | cons {y n : Str} {c : Value} {i : Nat} {ts : Addr → Value → Option Addr → TS} {st : Stmt} {sts : List Stmt} {q1 q2 : Pos} {hs : List ExceptHandler} {l : List (Value × Nat × (Addr → Value → Option Addr → TS))} (hi : X.N[i]? = some n) (hl : X.env.kindOf n = some .local) (hc : Names X y c)
      (hb : ∀ (x : Addr) (ob : Obj) (cls : Value) (d : Option Addr) (pn : List (Addr × Obj)), Zc cls d ob → (∃ vs, ob.data = .fields vs) → PSs (X.suite x ((x, ob) :: pn)) (st :: sts) (ts x cls d)) (r : HdsA X hs l) : HdsA X (.ExceptHandler (some (.Name y q1)) (some n) (st :: sts) q2 :: hs) ((c, i, ts) :: l)
theorem ps_tryManyA {X : Cx} {body : List Stmt} {h₀ : ExceptHandler} {hds : List ExceptHandler} {l : List (Value × Nat × (Addr → Value → Option Addr → TS))} {pos : Pos} {tb : WX → TS} {Wout : WX} (stk : X.stack = X.env :: X.outer) (lf : X.env.frame = some X.env.locals) (nd : X.N.Nodup) (tk : Takes X Wout)
    (hb : ∀ (W : WX) (pn : List (Addr × Obj)) (xe : Value → Shared → Prop), Takes (X.tr pn xe) W → PassesOwn (model X.prog X.w) X.A X.env xe → PSs (X.tr pn xe) body (tb W)) (hh : HdsA X (h₀ :: hds) l) : PS X (.Try body (h₀ :: hds) [] [] pos) (fun D τ G => tb (wManyA X.K Wout D l) D τ G) := by
  refine ⟨fun pins s τ G D I h => ?_⟩
  have ok0 := I.ok
  have fr0 : X.A.frames = some (X.env :: X.outer) := by rw [ok0.frames, stk]
  refine wpAny_Try_except (wpAny_mono ((hb (wManyA X.K Wout D l) (X.pn ++ pins) (fun e s₁ => wpAny (model X.prog X.w) X.A (noteFrame e X.env) (fun _ s₂ => wpAny (model X.prog X.w) X.A (setFlight e none) (fun _ s₃ => wpAny (model X.prog X.w) X.A (handleBy e X.env (h₀ :: hds)) (SP X pins D) X.xe s₃) X.xe s₂) X.xe s₁) (fun u s' xx => ?_) PassesOwn.looking).run [] s τ G D (I.toTry _) h) (fun f s1 hq => ?_) (fun e s1 he => he))
  · obtain ⟨x, B, si, pins2, τ1, G1, cls, d, rfl, j1, nb, up1, sk1, nx, eos, eag, wish⟩ := xx
    have j0 : Inv X pins τ1 G1 si := j1.ofTry ok0
    have sk2 : Sky B (X.env :: X.outer) x (Zc cls d) X.env.locals s'.heap := by rw [← stk]; exact sk1
    show wpAny (model X.prog X.w) X.A (noteFrame (.ref x) X.env) _ _ _; refine Sky.land Zc.steady fr0 lf sk2 fun h3 fl3 up3 => ?_
    have j3 : Inv X pins τ1 G1 { s' with heap := h3 } := j0.landed nb fl3.1 (up1.trans up3) eos eag
    obtain ⟨o3, vs3, ho3, hz3, hd3⟩ := fl3.there
    have nfr : x ∉ frs (X.env :: X.outer) := fun hm => by
      obtain ⟨_, o2, e2, hnf⟩ := fl3.2.2.1.mem hm; rw [ho3] at e2; cases e2; exact hnf _ hd3
    have nL : x ≠ X.env.locals := fun z => nfr (List.mem_filterMap.mpr ⟨X.env, List.mem_cons_self, by rw [lf, z]⟩)
    have nF : x ∉ X.fs := fun hm => by
      obtain ⟨e, he, q⟩ := List.mem_filterMap.mp hm; exact nfr (List.mem_filterMap.mpr ⟨e, List.mem_cons_of_mem _ he, q⟩)
    have suite3 := j3.suite ho3 hd3 nx nL nF
    have go : ∀ {hs' : List ExceptHandler} {l' : List (Value × Nat × (Addr → Value → Option Addr → TS))}, HdsA X hs' l' → wManyA X.K Wout D l' cls d τ1 G1 → wpAny (model X.prog X.w) X.A (handleBy (.ref x) X.env hs') (SP X pins D) X.xe { s' with heap := h3 } := by
      intro hs' l' hk
      induction hk with
      | nil =>
        intro wish
        refine wpAny_handleBy_nil ?_; obtain ⟨k1, k2, k3, oe, vs, tt, oT, ts', he, hz, hd, h1, hr⟩ := id fl3
        unfold PySem.passOn; refine wpAny_bind (wpAny_field he hd h1 ?_)
        rw [if_neg (show ¬ ((Value.ref tt == Value.none) = true) from by simp)]
        have fin : wpAny (model X.prog X.w) X.A (setFlight (.ref x) X.env.frame) (fun _ s4 => wpAny (model X.prog X.w) X.A (throw (.ref x) : Sem Flow) (SP X pins D) X.xe s4) X.xe { s' with heap := h3 } := by
          rw [lf]; refine HandSPX.setFlight_upZ fl3 fun h4 hh4 up4 => wpAny_throw (tk _ _ ?_)
          exact ⟨x, B, si, pins, τ1, G1, cls, d, rfl, j0, nb, (up1.trans up3).trans up4, .inr (.inr (by rw [stk]; exact hh4)), nx, eos, eag, wish⟩
        first | exact wpAny_bind (wpAny_pure (wpAny_bind fin)) | exact wpAny_bind fin
      | @cons y n c i ts st sts q1 q2 hs2 l2 hi hl hc hsu r ih =>
        intro wish
        obtain ⟨b, hb1, yes, no⟩ := wish
        refine wpAny_handleBy_cons (codeAny_handlers_test ?_) (by intro q; cases q); have lt : PySem.W.Looks (model X.prog X.w) h3 (typeOf (.ref x)) cls := fun A Q E s k q => wpAny_typeOf_ref (k _ _ ho3) (by rw [hz3.1]; exact q)
        have lm := PySem.W.exm_one (M := model X.prog X.w) (j3.kIn) lt hb1
        have test : ∀ {Q : Value → Shared → Prop} {E : Value → Shared → Prop}, Q c { s' with heap := h3 } → wpAny (model X.prog X.w) (X.A.mark (some (.ref x))) (eval (.Name y q1) X.env) Q E { s' with heap := h3 } := fun {Q E} q => by
          obtain ⟨hg, hdbg, hm | ⟨hm, hv, hnn⟩⟩ := hc
          · exact ld_glob (X := X.suite x ((x, o3) :: (X.pn ++ pins))) suite3 hg hm q hdbg
          · exact ld_blt (X := X.suite x ((x, o3) :: (X.pn ++ pins))) suite3 hg hm hv q hnn hdbg
        refine test (lm.here ?_)
        cases b with
        | true =>
          refine codeAny_handlers_suite_as (HandSPX.lands_againZ fl3 fun h4 fl4 up4 => ?_)
          have j4 : Inv X pins τ1 G1 { s' with heap := h4 } := j0.landed nb fl4.1 ((up1.trans up3).trans up4) eos eag
          obtain ⟨o4, vs4, ho4, hz4, hd4⟩ := fl4.there
          refine store_ok (X := X.suite x ((x, o4) :: (X.pn ++ pins))) (v := .ref x) (j4.suite ho4 hd4 nx nL nF) nd hi (.inl hl) rfl (fun s5 S5 => ?_) (.inr hl)
          refine wpAny_mono ((hsu x o4 cls d (X.pn ++ pins) hz4 ⟨_, hd4⟩).run [] s5 _ G1 _ S5 (yes rfl x nx)) (fun f s6 hq => ?_) (fun _ _ z => False.elim z)
          have fin : ∀ {τ6 : L2.St} {G6 : Hp} {Q : Shared → Prop}, Inv (X.suite x ((x, o4) :: (X.pn ++ pins))) [] τ6 G6 s6 → (∀ s7, Inv X pins (τ6.set i none) G6 s7 → Q s7) → wpAny (model X.prog X.w) X.A (do bindName X.env n .none; unbindBehindTheSuite X.env n q2) (fun _ s7 => Q s7) X.xe s6 := fun {τ6 G6 Q} S6 hq => gone_ok (S6.unsuite ok0) nd hi hl hq
          cases f with
          | next => obtain ⟨τ6, G6, S6, q6⟩ := hq; exact fin S6 fun s7 J7 => ⟨_, _, J7, q6⟩
          | brk => obtain ⟨τ6, G6, S6, q6⟩ := hq; exact fin S6 fun s7 J7 => ⟨_, _, J7, q6⟩
          | cont => obtain ⟨τ6, G6, S6, q6⟩ := hq; exact fin S6 fun s7 J7 => ⟨_, _, J7, q6⟩
          | ret u => obtain ⟨v6, τ6, G6, S6, r6, q6⟩ := hq; exact fin S6 fun s7 J7 => ⟨_, _, _, J7, r6, q6⟩
        | false => exact ih (no rfl)
    exact go hh wish
  · cases f with
    | next => obtain ⟨τ1, G1, j1, q⟩ := hq; exact wpAny_execs_nil ⟨τ1, G1, j1.ofTry ok0, q⟩
    | brk => obtain ⟨τ1, G1, j1, q⟩ := hq; exact ⟨τ1, G1, j1.ofTry ok0, q⟩
    | cont => obtain ⟨τ1, G1, j1, q⟩ := hq; exact ⟨τ1, G1, j1.ofTry ok0, q⟩
    | ret u => obtain ⟨v, τ1, G1, j1, r, q⟩ := hq; exact ⟨v, τ1, G1, j1.ofTry ok0, r, q⟩
def tTryM (K : PySem.W.Frag) (tb : WX → TS) (l : List (Value × Nat × (Addr → Value → Option Addr → TS))) (Wout : WX) : TS := fun D τ G => tb (wManyA K Wout D l) D τ G
section
variable {K : PySem.W.Frag} {c cls : Value} {d : Option Addr} {i : Nat} {tb : WX → TS} {ts : Addr → Value → Option Addr → TS} {Wout : WX} {σ : L2.St} {H : Hp} {rt : VK} {nx bk ct : L2.St → Hp → Prop} {l : List (Value × Nat × (Addr → Value → Option Addr → TS))}
theorem m_tryM (h : tb (wManyA K Wout (Ends.mk nx rt bk ct) l) (Ends.mk nx rt bk ct) σ H) : tTryM K tb l Wout (Ends.mk nx rt bk ct) σ H := h
theorem m_caughtM (he : PySem.W.exmOne K cls c = some true) (h : ∀ a, H a = none → ts a cls d (Ends.mk (fun σ' H' => nx (σ'.set i none) H') rt (fun σ' H' => bk (σ'.set i none) H') (fun σ' H' => ct (σ'.set i none) H')) (σ.set i (some (.ref a))) H) :
    WE (wManyA K Wout (Ends.mk nx rt bk ct) ((c, i, ts) :: l)) σ cls d H := ⟨true, he, fun _ => h, fun z => Bool.noConfusion z⟩
theorem m_nextM (he : PySem.W.exmOne K cls c = some false) (h : WE (wManyA K Wout (Ends.mk nx rt bk ct) l) σ cls d H) : WE (wManyA K Wout (Ends.mk nx rt bk ct) ((c, i, ts) :: l)) σ cls d H := ⟨false, he, fun z => Bool.noConfusion z, fun _ => h⟩
end
/-- isinstance(e, c), e the error that the suite holds -/
def rIsX (K : PySem.W.Frag) (cls : Value) (d : Option Addr) (a : Addr) : List V → Hp → VK → Prop := fun xs H Q => ∃ D, cls = .ref D ∧ d = none ∧ ExcC K D ∧ rIsE K D a xs H Q
theorem call_isX {a : Addr} {oe : Obj} {cls : Value} {d : Option Addr} {pn : List (Addr × Obj)} (hz : Zc cls d oe) (hf : ∃ vs, oe.data = .fields vs) : CallR (X.suite a ((a, oe) :: pn)) (.builtin "isinstance") (rIsX X.K cls d a) := by
  intro pins s σ H xs us Q I r h
  obtain ⟨D, rfl, rfl, C, h⟩ := h
  exact call_isE C hz hf pins s σ H xs us Q I r h
theorem k_isX {K : PySem.W.Frag} {D C a : Addr} {b : Bool} {H : Hp} {Q : VK} (h : ExcC K D) (e : PySem.W.kitOne K (.ref D) (.ref C) = some b) (q : Q (.bl b) H) : rIsX K (.ref D) none a [.ref a, .ref C] H Q :=
  ⟨D, rfl, rfl, h, .ref C, .ref C, b, rfl, fun _ r => r, e, q⟩
theorem k_isXty {K : PySem.W.Frag} {D a : Addr} {n : String} {b : Bool} {H : Hp} {Q : VK} (h : ExcC K D) (e : PySem.W.kitOne K (.ref D) (.type n) = some b) (q : Q (.bl b) H) : rIsX K (.ref D) none a [.ref a, .ty n] H Q :=
  ⟨D, rfl, rfl, h, .ty n, .type n, b, rfl, fun _ r => r, e, q⟩
end
/-- isinstance(e, (c1, c2, ..)), all of them own classes -/
def rIsXT (K : PySem.W.Frag) (cls : Value) (d : Option Addr) (a : Addr) : List V → Hp → VK → Prop := fun xs H Q => ∃ (D tp : Addr) (cs : List Addr) (b : Bool), cls = .ref D ∧ d = none ∧ ExcC K D ∧ xs = [.ref a, .ref tp] ∧ H tp = some (.tup (cs.map V.ref)) ∧ PySem.W.kitAny K (.ref D) (cs.map Value.ref) = some b ∧ Q (.bl b) H
theorem clsV_all : ∀ cs : List Addr, Paired ClsV (cs.map V.ref) (cs.map Value.ref)
  | [] => .nil
  | c :: cs => .cons (.own c) (clsV_all cs)
theorem call_isXT {X : Cx} {a : Addr} {oe : Obj} {cls : Value} {d : Option Addr} {pn : List (Addr × Obj)} (hz : Zc cls d oe) (hf : ∃ vs, oe.data = .fields vs) : CallR (X.suite a ((a, oe) :: pn)) (.builtin "isinstance") (rIsXT X.K cls d a) := by
  intro pins s σ H xs us Q I r h
  obtain ⟨D, tp, cs, b, rfl, rfl, C, rfl, hT, e, q⟩ := h
  obtain ⟨u1, u2, rfl, r1, r2⟩ := vals2 r
  cases (show u1 = Value.ref a from r1)
  cases (show u2 = Value.ref tp from r2)
  obtain ⟨hget, _⟩ := I.pin (a, oe) (List.mem_append.mpr (.inl List.mem_cons_self))
  obtain ⟨vs, hv⟩ := hf
  have J : PySem.W.InstAt s.heap a oe D none := by
    obtain ⟨oc, od, oda, osl⟩ := oe
    obtain ⟨h1, h2⟩ := hz
    dsimp only at h1 h2 hv
    subst h1 h2 hv
    exact ⟨hget, rfl, rfl, trivial⟩
  obtain ⟨_, its, rv, o, h1, h2, n, h3⟩ := (show ObjOk X.prog X.w H s.heap tp (.tup (cs.map V.ref)) from I.hok tp _ hT)
  have e3 := ClsV.all (clsV_all cs) rv
  subst e3
  obtain ⟨oc, od, dt, sl⟩ := o
  simp only at h2 h3
  subst h2 h3
  exact PySem.W.kia_tup (PySem.W.handS_kitx_exc C.hg C.hk C.hs C.hd C.ha C.hn C.ht C.hm) I.kIn J h1 e (fun z => nomatch z) fun tk => ⟨.bl b, H, I.kept (t' := tk) fun _ _ z => z, rfl, q⟩
theorem kitAny_no {K : PySem.W.Frag} {t : Value} : ∀ us : List Value, (∀ u ∈ us, PySem.W.kitOne K t u = some false) → PySem.W.kitAny K t us = some false
  | [], _ => rfl
  | u :: us, h => kitAny_cons (h u List.mem_cons_self) (fun _ => kitAny_no us fun x hx => h x (List.mem_cons_of_mem _ hx)) (fun z => Bool.noConfusion z)
theorem k_isXT {K : PySem.W.Frag} {D a tp : Addr} {b : Bool} {H : Hp} {Q : VK} (cs : List Addr) (hT : H tp = some (.tup (cs.map V.ref))) (h : ExcC K D) (e : PySem.W.kitAny K (.ref D) (cs.map Value.ref) = some b) (q : Q (.bl b) H) : rIsXT K (.ref D) none a [.ref a, .ref tp] H Q :=
  ⟨D, tp, cs, b, rfl, rfl, h, rfl, hT, e, q⟩
/-! ### the head's facts, with what is asked of errors -/
inductive Fx where
  | excC (x : Str)
  | kit (x y : Str) (b : Bool)
  | kitT (x : Str) (t : String) (b : Bool)
  | exm (x y : Str) (b : Bool)
def Fx.ok (K : PySem.W.Frag) : Fx → Bool
  | .excC x => He.eqO (PySem.W.findIn K (.ref (He.ga K x)) "__getattribute__") (some (some (.builtin "BaseException.__getattribute__"))) && (He.eqO (PySem.W.findIn K (.ref (He.ga K x)) "__getattr__") (some none) &&
      (decide (PySem.W.subIn K (.ref (He.ga K x)) (.type "BaseException") = some true) && (PySem.W.hasDictIn K (He.ga K x) && (He.eqO (PySem.W.findIn K (.ref (He.ga K x)) "__class__") (some (some (.builtin "object.__class__"))) &&
      (He.eqO (PySem.W.specialIn K (.builtin "object.__class__") "__get__") (some (some (.builtin "getset_descriptor.__get__"))) && (decide (PySem.W.takesIn K (.builtin "object.__class__") = some true) && decide (PySem.W.mroIn K (He.ga K x) (.type "object") = some true)))))))
  | .kit x y b => decide (PySem.W.kitOne K (.ref (He.ga K x)) (.ref (He.ga K y)) = some b)
  | .kitT x t b => decide (PySem.W.kitOne K (.ref (He.ga K x)) (.type t) = some b)
  | .exm x y b => decide (PySem.W.exmOne K (.ref (He.ga K x)) (.ref (He.ga K y)) = some b)
theorem Fx.excC_ok {K : PySem.W.Frag} {x : Str} (c : (Fx.excC x).ok K = true) : ExcC K (He.ga K x) := by
  obtain ⟨c1, c⟩ := He.ba c
  obtain ⟨c2, c⟩ := He.ba c
  obtain ⟨c3, c⟩ := He.ba c
  obtain ⟨c4, c⟩ := He.ba c
  obtain ⟨c5, c⟩ := He.ba c
  obtain ⟨c6, c⟩ := He.ba c
  obtain ⟨c7, c8⟩ := He.ba c
  exact ⟨He.eqO_ok c1, He.eqO_ok c2, of_decide_eq_true c3, c4, He.eqO_ok c5, He.eqO_ok c6, of_decide_eq_true c7, of_decide_eq_true c8⟩
theorem Fx.kit_ok {K : PySem.W.Frag} {x y : Str} {b : Bool} (c : (Fx.kit x y b).ok K = true) : PySem.W.kitOne K (.ref (He.ga K x)) (.ref (He.ga K y)) = some b := of_decide_eq_true c
theorem Fx.kitT_ok {K : PySem.W.Frag} {x : Str} {t : String} {b : Bool} (c : (Fx.kitT x t b).ok K = true) : PySem.W.kitOne K (.ref (He.ga K x)) (.type t) = some b := of_decide_eq_true c
theorem Fx.exm_ok {K : PySem.W.Frag} {x y : Str} {b : Bool} (c : (Fx.exm x y b).ok K = true) : PySem.W.exmOne K (.ref (He.ga K x)) (.ref (He.ga K y)) = some b := of_decide_eq_true c
abbrev AlF : Type := He.AlD × Bool
def obsF (fa : List He.Fa) (fn : List He.DefD) (fx : List Fx) (K : PySem.W.Frag) : AlF := (He.obsD fa fn K, fx.all fun f => f.ok K)
def SaysF (fa : List He.Fa) (fn : List He.DefD) (fx : List Fx) (K : PySem.W.Frag) : Prop := obsF fa fn fx K = (He.valD fn, true)
def obsFG (n : Nat) (fa : List He.Fa) (fn : List He.DefD) (fx : List Fx) (g : Addr → Option Obj) : AlF := obsF fa fn fx (He.frG g (He.asD g n))
def hookF (n : Nat) (fa : List He.Fa) (fn : List He.DefD) (fx : List Fx) : PySem.W.Hook where
  α := AlF
  obs := fun s => obsFG n fa fn fx s.heap.get?
  val := fun _ => (He.valD fn, true)
  says := fun _ h => ∃ K : PySem.W.Frag, K.In h ∧ SaysF fa fn fx K
  of := fun _ _ e => ⟨_, He.frG_in, e⟩
  keeps := fun _ _ _ ⟨K, hK, c⟩ k => ⟨K, PySem.W.Frag.In.keeps hK k, c⟩
theorem obsFG_eq {n : Nat} {fa : List He.Fa} {fn : List He.DefD} {fx : List Fx} {g : Addr → Option Obj} {s : Shared} (h : ∀ a, g a = s.heap.get? a) : obsFG n fa fn fx g = (hookF n fa fn fx).obs s := by
  have e : g = s.heap.get? := funext h
  rw [e] <;> rfl
theorem SaysF.d {fa : List He.Fa} {fn : List He.DefD} {fx : List Fx} {K : PySem.W.Frag} (c : SaysF fa fn fx K) : He.SaysD fa fn K := congrArg (fun z : AlF => z.1) c
theorem SaysF.fx {fa : List He.Fa} {fn : List He.DefD} {fx : List Fx} {K : PySem.W.Frag} (c : SaysF fa fn fx K) (i : Nat) {f : Fx} (h : fx[i]? = some f := by rfl) : f.ok K = true := by
  have c1 : (fx.all fun f => f.ok K) = true := congrArg (fun z : AlF => z.2) c
  exact List.all_eq_true.mp c1 f (List.mem_of_getElem? h)
end Tw
namespace Tw
open PySem PySem.Spec PyProof.Rows L2 NdefX LamX
/-! ### closures: captured cells, tracked once the maker has returned -/
theorem relV_fun : ∀ {v v' : V} {u : Value}, L2.RelV v u → L2.RelV v' u → v = v' := by
  intro v v' u a b
  cases v <;> cases v' <;> simp only [L2.RelV] at a b <;> first | rfl | (subst a; obtain ⟨_, b⟩ := b; cases b; done) | (subst a; cases b; rfl) | (subst a; cases b; done) | (obtain ⟨_, rfl⟩ := a; obtain ⟨_, b⟩ := b; cases b; rfl) | (obtain ⟨_, rfl⟩ := a; obtain ⟨_, b⟩ := b; cases b; done) | (obtain ⟨_, rfl⟩ := a; cases b; done)
def CellO (c : Addr) (v : V) : HO := .ext fun h => ∃ u, L2.RelV v u ∧ h.IsCell c (some u)
def hide (C : Addr → Prop) [DecidablePred C] (H : Hp) : Hp := fun b => if C b then none else H b
def unhide (C : Addr → Prop) [DecidablePred C] (H H' : Hp) : Hp := fun b => if C b then H b else H' b
section
variable {P : Program} {w : World} {K : PySem.W.Frag} {mg : Str → Option Value} {base : Heap} {A : Around} {outer : List Env} {s s' : Shared} {H H' H3 : Hp} {C : Addr → Prop} [DecidablePred C]
theorem hide_in {b : Addr} (h : C b) : hide C H b = none := if_pos h
theorem hide_out {b : Addr} (h : ¬ C b) : hide C H b = H b := if_neg h
theorem unhide_in {b : Addr} (h : C b) : unhide C H H' b = H b := if_pos h
theorem unhide_out {b : Addr} (h : ¬ C b) : unhide C H H' b = H' b := if_neg h
/-- all that is hidden are cells -/
def Cells (C : Addr → Prop) (H : Hp) : Prop := ∀ b, C b → ∃ v, H b = some (CellO b v)
theorem Cells.not (hC : Cells C H) {b : Addr} {o : HO} (e : H b = some o) (n : ∀ φ, o ≠ .ext φ) : ¬ C b := fun z => by
  obtain ⟨v, q⟩ := hC b z
  rw [e] at q
  exact n _ (Option.some.inj q)
theorem hok_hide (ok : HOk P w H s.heap) (hC : Cells C H) : HOk P w (hide C H) s.heap := fun a o e => by
  by_cases ha : C a
  · rw [hide_in ha] at e; cases e
  · rw [hide_out ha] at e
    exact (ok a o e).stay (fun _ _ _ q => q) (fun b q => (hide_out (hC.not q fun _ z => nomatch z)).trans q) fun b xs q => (hide_out (hC.not q fun _ z => nomatch z)).trans q
theorem env0_hide (e0 : Env0 P w K mg base A outer s H) (hC : Cells C H) : Env0 P w K mg base A outer s (hide C H) := by
  have hn : ∀ {b}, H b = none → hide C H b = none := fun {b} q => by
    by_cases hb : C b
    · exact hide_in hb
    · exact (hide_out hb).trans q
  exact ⟨e0.frames, e0.mod, fun b o e => ⟨(e0.bs b o e).1, hn (e0.bs b o e).2⟩, e0.bsz, e0.funs, fun b hb => hn (e0.frf b hb), hok_hide e0.hok hC, e0.bare⟩
theorem cellO_get {c : Addr} {v : V} (ok : HOk P w H s.heap) (e : H c = some (CellO c v)) : ∃ u, L2.RelV v u ∧ s.heap.IsCell c (some u) := (ok c _ e).1
theorem ce_unhide {Q : VK} {u : Value} (ok : HOk P w H s.heap) (hC : Cells C H) (h : CE outer P w (hide C H) s (fun v H' => Q v (unhide C H H')) u s') : CE outer P w H s Q u s' := by
  obtain ⟨v, H', os, bare, un, ok', r, q⟩ := h
  have some_out : ∀ {b}, H b = none → ¬ C b := fun {b} n z => by
    obtain ⟨v, e⟩ := hC b z
    rw [n] at e; cases e
  have hn : ∀ {b}, H b = none → hide C H b = none := fun {b} n => (hide_out (some_out n)).trans n
  have gone : ∀ {b}, C b → H' b = none := fun {b} z => by
    obtain ⟨v, e⟩ := hC b z
    obtain ⟨_, _, o, ho, _⟩ := cellO_get ok e
    exact un.free b o ho (hide_in z) (by simp)
  refine ⟨v, unhide C H H', os, bare, ⟨fun b o e n => un.keep b o e (hn n), fun b o e n => un.slot b o e (hn n), fun b o e n hx => ?_, un.there, fun b xs e => ?_, fun b o u e => ?_, fun b ps e => ?_⟩, fun a o e => ?_, r, q⟩
  · rw [unhide_out (some_out n)]; exact un.free b o e (hn n) hx
  · have hb : ¬ C b := hC.not e fun _ z => nomatch z
    rw [unhide_out hb]; exact un.tups b xs (by rw [hide_out hb]; exact e)
  · have hb : ¬ C b := hC.not e fun _ z => nomatch z
    rw [unhide_out hb]; exact un.frzs b o u (by rw [hide_out hb]; exact e)
  · have hb : ¬ C b := hC.not e fun _ z => nomatch z
    rw [unhide_out hb]; exact un.tbls b ps (by rw [hide_out hb]; exact e)
  · by_cases ha : C a
    · rw [unhide_in ha] at e
      obtain ⟨v, q⟩ := hC a ha
      rw [e] at q; cases q
      obtain ⟨⟨u, ru, ob, ho, hd⟩, _, st⟩ := ok a _ e
      obtain ⟨sl, h2⟩ := un.any ho (hide_in ha) (by simp)
      exact ⟨⟨u, ru, _, h2, hd⟩, ⟨_, h2⟩, st⟩
    · rw [unhide_out ha] at e
      refine (ok' a o e).stay (fun _ _ _ q => q) (fun b q => ?_) fun b xs q => ?_
      · by_cases hb : C b
        · rw [gone hb] at q; cases q
        · rw [unhide_out hb]; exact q
      · by_cases hb : C b
        · rw [gone hb] at q; cases q
        · rw [unhide_out hb]; exact q
end
/-! ### functions that are called by a value -/
def IsFn (H : Hp) (f : Addr) : Prop := ∃ φ, H f = some (.ext φ) ∧ ∀ h, φ h → PySem.W.FnAt f h
theorem IsFn.same {H H' : Hp} {f : Addr} (h : IsFn H f) (s : Same H H') : IsFn H' f := by
  obtain ⟨φ, e, q⟩ := h
  exact ⟨φ, s.get e, q⟩
theorem isFn_fno {H : Hp} {f : Addr} {F : NF} (e : H f = some (FnO f F)) : IsFn H f := ⟨_, e, fun h ⟨od, sl, doc, pm, ctv, q⟩ => ⟨_, _, _, _, q⟩⟩
/-- what a lambda's object is -/
def LamO (body : Expr) (f : Addr) (F : NF) : HO := .ext fun h => ∃ pm ctv, h.get? f = some (PySem.W.kla_obj F.name F.qual F.params body F.scope F.cl pm F.c ctv)
theorem isFn_lam {H : Hp} {f : Addr} {F : NF} {b : Expr} (e : H f = some (LamO b f F)) : IsFn H f := ⟨_, e, fun h ⟨pm, ctv, q⟩ => ⟨_, _, _, _, q⟩⟩
/-- calls by value: at levels -/
structure CLs where
  run : Nat → Addr → List V → Hp → VK → Prop
  mono : ∀ {j k f vs H Q}, j ≤ k → run j f vs H Q → run k f vs H Q
  imp : ∀ {j f vs H} {Q Q' : VK}, (∀ v H', Q v H' → Q' v H') → run j f vs H Q → run j f vs H Q'
def Cal (P : Program) (w : World) (K : PySem.W.Frag) (mg : Str → Option Value) (base : Heap) : CLs where
  run := fun k f vs H Q => IsFn H f ∧ ∀ (A : Around) (outer : List Env) (s : Shared) (us : List Value), Room k A → Env0 P w K mg base A outer s H → Vals vs us →
    codeAny (model P w) A (.call (.ref f) ⟨us, []⟩) (CR CX0 outer P w H s Q (fun _ _ _ => False)) s
  mono := fun h ⟨a, b⟩ => ⟨a, fun A outer s us hr => b A outer s us (hr.mono h)⟩
  imp := fun h ⟨a, b⟩ => ⟨a, fun A outer s us hr e0 r => codeAny_mono (b A outer s us hr e0 r) fun r s' q => by
    cases r with
    | error e => exact q
    | ok fl =>
      cases fl with
      | ret u =>
        obtain ⟨v, H', q1, q2, q3, q4, q5, q6⟩ := q
        exact ⟨v, H', q1, q2, q3, q4, q5, h _ _ q6⟩
      | next => exact q
      | brk => exact q
      | cont => exact q⟩
/-- a local name's value is called -/
def tCallV (CL : CLs) (j : Nat) (i : Nat) (t : TA) : TE := fun σ H Q => ∃ f, σ[i]? = some (some (.ref f)) ∧ IsFn H f ∧ t σ H fun vs H1 => CL.run j f vs H1 Q
section
variable {X : Cx} {k j i : Nat} {x : Str} {p pos : Pos} {e : Expr} {es : List Expr} {t : TA}
theorem isFn_at {pins : List (Addr × Obj)} {σ : L2.St} {H : Hp} {s : Shared} {f : Addr} (I : Inv X pins σ H s) (h : IsFn H f) : PySem.W.FnAt f s.heap := by
  obtain ⟨φ, e, q⟩ := h
  exact q _ (I.hok f _ e).1
theorem pe_callV (hr : Room j X.A) (hk : k ≤ j) (hN : X.N[i]? = some x) (hv : Vis X.env.scope x) (ha : PA X (e :: es) t)
    (hdb : (x == ("__debug__" : Str)) = false := by decide) (hcd : (x == ("__classdict__" : Str)) = false := by decide)
    (he : starEach (e :: es) X.env = (false, eval e X.env) :: starEach es X.env := by rfl) (hpl : (backTo pos (starEach es X.env)).any (·.1) = false := by rfl) :
    PE X (.Call (.Name x p) (e :: es) [] pos) (tCallV (Cal X.prog X.w X.K X.mg X.base) k i t) := by
  refine ⟨fun pins s σ H Q I h => ?_⟩
  obtain ⟨f, hs, hf, ht⟩ := h
  refine wpAny_Call_Name_kw (thn ((pe_var (pos := p) hN hv hdb hcd).run pins s σ H (fun v H1 => v = .ref f ∧ H1 = H) I ⟨.ref f, hs, rfl, rfl⟩) fun u s1 ⟨v, H1, I1, r1, q1⟩ => ?_)
  obtain ⟨rfl, rfl⟩ := q1
  cases r1
  refine PySem.W.callWith_F (first := []) (isFn_at I1 hf) (thn (ha.run pos pins s1 σ _ _ I1 ht) fun us s2 ⟨vs, H2, I2, r, q⟩ => ⟨isFn_at I2 q.1, ?_⟩) he hpl
  refine wpAny_call (codeAny_mono (q.2 X.A X.stack s2 us (hr.mono hk) I2.env0 r) fun r s' hq => ?_)
  cases r with
  | error e => exact hq.elim
  | ok fl =>
    cases fl with
    | ret u => exact I2.after hq
    | next => exact False.elim hq
    | brk => exact False.elim hq
    | cont => exact False.elim hq
end
/-! ### what a closure promises -/
structure COk (O : Addr → NF → HO) (P : Program) (w : World) (K : PySem.W.Frag) (mg : Str → Option Value) (base : Heap) (k : Nat) (f : Addr) (F : NF) (ps fr : List Str) (sp : List V → List V → Hp → VK → Prop) : Prop where
  run : ∀ (A : Around) (outer : List Env) (s : Shared) (H : Hp) (us : List Value) (vs ws : List V) (Q : VK), Room k A → Env0 P w K mg base A outer s H → H f = some (O f F) → H F.c = some (CodeO F.c F.qual) →
    CellsAt F.cl fr (ws.map some) s.heap H → Vals vs us → sp ws vs H Q → codeAny (model P w) A (.call (.ref f) ⟨us, []⟩) (CR CX0 outer P w H s Q (fun _ _ _ => False)) s
section
variable {P : Program} {w : World} {K : PySem.W.Frag} {mg : Str → Option Value} {base : Heap} {N ps fr : List Str} {F : NF} {f : Addr} {k : Nat} {sp : List V → List V → Hp → VK → Prop}
theorem cok_def (S : NScope N ps fr F.scope) (hb : ∀ (doc pm ctv : Value) (us : List Value), us.length = ps.length → bindArgs (F.fd doc pm ctv) ⟨us, []⟩ = pure (ps.zip us)) (len : ∀ ws vs H Q, sp ws vs H Q → vs.length = ps.length)
    (hbody : ∀ (A : Around) (outer : List Env) (s : Shared) (H : Hp) (vs ws : List V) (Q : VK), Room k (A.deeper (envF F f s.heap.objs.size)) → ws.length = fr.length → sp ws vs H Q →
      ∃ t, PSs (ncx CX0 P w K mg base N F f A outer s H (fun _ _ _ => False)) F.body t ∧ t { nx := fun _ H' => Q .non H', rt := Q } (startF N vs (ws.map some)) H) :
    COk FnO P w K mg base (k + 1) f F ps fr sp := by
  have n : NOk P w K mg base CX0 (k + 1) f F ps fr (fun ws' vs H Q E => ∃ ws, ws' = ws.map some ∧ sp ws vs H Q ∧ E = fun _ _ _ => False) :=
    nok_of S hb (fun ws vs H Q E ⟨_, _, h, _⟩ => len _ _ _ _ h) fun A outer s H vs ws' Q E hr _ _ hl ⟨ws, e, h, eE⟩ => by
      subst e; subst eE
      exact hbody A outer s H vs ws Q hr (by rw [← hl, List.length_map]) h
  exact ⟨fun A outer s H us vs ws Q hr e0 hf hc C r h => n.run A outer s H us vs _ Q _ hr e0 hf hc C r ⟨ws, rfl, h, rfl⟩⟩
/-- a lambda by its expression -/
theorem cok_lam {body : Expr} (S : NScope N ps fr F.scope) (hb : ∀ (pm cd ctv : Value) (us : List Value), us.length = ps.length → bindArgs (PySem.W.kla_fn F.name F.qual F.params body F.scope F.cl pm cd ctv) ⟨us, []⟩ = pure (ps.zip us)) (len : ∀ ws vs H Q, sp ws vs H Q → vs.length = ps.length)
    (hbody : ∀ (A : Around) (outer : List Env) (s : Shared) (H : Hp) (vs ws : List V) (Q : VK), Room k (A.deeper (envF F f s.heap.objs.size)) → ws.length = fr.length → sp ws vs H Q →
      ∃ t, PE (ncx CX0 P w K mg base N F f A outer s H (fun _ _ _ => False)) body t ∧ t (startF N vs (ws.map some)) H Q) :
    COk (LamO body) P w K mg base (k + 1) f F ps fr sp := by
  refine ⟨fun A outer s H us vs ws Q hr e0 hf hc C r hsp => ?_⟩
  have hl := len _ _ _ _ hsp
  have lim : s.heap.NoLimit := e0.mod.nolimit.keeps fun b o e => (e0.bs b o e).1
  obtain ⟨⟨pm, ctv, ho⟩, _, _⟩ := e0.hok f _ hf
  refine PySem.W.kla_callFunE hr.depth ho rfl S.co S.gen rfl (codeO_at e0.hok hc) ?_
  rw [hb pm (.ref F.c) ctv us (by rw [← r.length]; exact hl)]
  refine wpAny_pure (wpAny_newFunctionEnv S.nocell (fun ⟨n, _⟩ hy => S.par n (List.of_mem_zip hy).1) (fun h₁ hns hsb => ⟨lim.fresh _ hsb, ?_⟩) S.kind)
  show codeAny _ _ (.expr body (envF F f s.heap.objs.size)) _ _
  have kp : ∀ b o, s.heap.get? b = some o → h₁.get? b = some o := fun b o e => hsb.extBut b o (Nat.ne_of_lt (Heap.lt_size e)) (Heap.get?_push_of_some _ e)
  obtain ⟨t, ht, hq⟩ := hbody A outer s H vs ws Q (hr.deeper _) (by rw [← C.len, List.length_map]) hsp
  have I : Inv (ncx CX0 P w K mg base N F f A outer s H (fun _ _ _ => False)) [] (startF N vs (ws.map some)) H { s with heap := h₁, toks := s.toks + (ps.zip us).length } := inv_startN S hr.hd e0 hl r C hns kp
  refine PySem.W.kla_codeExpr (wpAny_mono (ht.run [] _ _ H Q I hq) (fun v s' hq => ?_) fun e s' hq => hq)
  obtain ⟨w', H', J, rv, q⟩ := hq
  exact ⟨w', H', J.os, J.bare, J.base, J.hok, rv, q⟩
/-- a closure called from outside its maker: its cells are tracked -/
theorem cal_of {O : Addr → NF → HO} {ws vs : List V} {H : Hp} {Q : VK} {C : Addr → Prop} [DecidablePred C] (n : COk O P w K mg base k f F ps fr sp) (hfn : IsFn H f) (hf : H f = some (O f F)) (hc : H F.c = some (CodeO F.c F.qual)) (hC : Cells C H) (hlen : ws.length = fr.length)
    (hall : ∀ y c, F.cl.lookup y = some c → C c) (hinj : ∀ x y c, F.cl.lookup x = some c → F.cl.lookup y = some c → x = y) (hhas : ∀ (i : Nat) (y : Str), fr[i]? = some y → ∃ c, F.cl.lookup y = some c ∧ ∀ v, ws[i]? = some v → H c = some (CellO c v))
    (nf : ¬ C f) (nc : ¬ C F.c) (hsp : sp ws vs (hide C H) fun v H' => Q v (unhide C H H')) : (Cal P w K mg base).run k f vs H Q := by
  refine ⟨hfn, fun A outer s us hr e0 r => ?_⟩
  have CA : CellsAt F.cl fr (ws.map some) s.heap (hide C H) := by
    refine ⟨by rw [List.length_map]; exact hlen, fun y c e => ⟨hide_in (hall y c e), ?_⟩, hinj, fun i y e => ?_⟩
    · obtain ⟨v, q⟩ := hC c (hall y c e)
      obtain ⟨u, _, z⟩ := cellO_get e0.hok q
      exact ⟨_, z⟩
    · obtain ⟨c, h1, h2⟩ := hhas i y e
      refine ⟨c, h1, fun v ev => ?_⟩
      rw [List.getElem?_map] at ev
      cases q : ws[i]? with
      | none => rw [q] at ev; cases ev
      | some v' =>
        rw [q] at ev
        cases ev
        exact cellO_get e0.hok (h2 v q)
  refine codeAny_mono (n.run A outer s (hide C H) us vs ws _ hr (env0_hide e0 hC) ((hide_out nf).trans hf) ((hide_out nc).trans hc) CA r hsp) fun r s' q => ?_
  cases r with
  | error e => exact q
  | ok fl =>
    cases fl with
    | ret u => exact ce_unhide e0.hok hC q
    | next => exact q
    | brk => exact q
    | cont => exact q
end
/-! ### the making of closures -/
section
variable {X : Cx} {pins : List (Addr × Obj)} {σ : L2.St} {H : Hp} {s : Shared}
theorem tabN_grow {H : Hp} {P c' : Addr} {pos : Pos} {ps : Array Value} (nC : H c' = none) (hP : H P = some (.tbl ps)) (ht : TriplesOk ps.toList) (hq : ∀ P', H P' = some (.tbl ps) → True) : ∀ P', TabN H P' nmL →
    TabN (upd (upd H P (.tbl (ps ++ #[rawInt pos.line, rawInt pos.col, .ref c']))) c' (CodeO c' (nmL pos.line pos.col))) P' nmL := fun P' t => by
  obtain ⟨ps', h1, h2, h3⟩ := t
  have eL : (ps ++ #[rawInt pos.line, rawInt pos.col, .ref c']).toList = ps.toList ++ [rawInt pos.line, rawInt pos.col, .ref c'] := by simp
  have old : ∀ {b : Addr} {q : Str}, H b = some (CodeO b q) → upd (upd H P (.tbl (ps ++ #[rawInt pos.line, rawInt pos.col, .ref c']))) c' (CodeO c' (nmL pos.line pos.col)) b = some (CodeO b q) := fun {b q} e => by
    rw [upd_ne (ne_of_none e nC), upd_ne (fun z => by rw [z, hP] at e; exact codeO_ne ps (Option.some.inj e).symm)]
    exact e
  by_cases hb : P' = P
  · subst hb
    rw [hP] at h1; cases h1
    refine ⟨_, by rw [upd_ne (ne_of_none hP nC), upd_same], by rw [eL]; exact PySem.TriplesOk_snoc _ _ _ _ ht, fun p' cv hcv => ?_⟩
    rw [eL] at hcv
    rcases among_app2 _ ht hcv with z | ⟨z, z1, z2⟩
    · obtain ⟨c0, e1, e2⟩ := h3 p' cv z
      exact ⟨c0, e1, old e2⟩
    · refine ⟨c', z, ?_⟩
      rw [← z1, ← z2]
      exact upd_same
  · refine ⟨ps', by rw [upd_ne (ne_of_none h1 nC), upd_ne hb]; exact h1, h2, fun p' cv hcv => ?_⟩
    obtain ⟨c0, e1, e2⟩ := h3 p' cv hcv
    exact ⟨c0, e1, old e2⟩
theorem same_grow {H : Hp} {P c' : Addr} {pos : Pos} {ps : Array Value} (nC : H c' = none) (hP : H P = some (.tbl ps)) (ht : TriplesOk ps.toList) :
    Same H (upd (upd H P (.tbl (ps ++ #[rawInt pos.line, rawInt pos.col, .ref c']))) c' (CodeO c' (nmL pos.line pos.col))) := by
  refine ⟨fun b o e n => ?_, fun b e => upd_none (upd_none e), tabN_grow nC hP ht fun _ _ => trivial⟩
  rw [upd_ne (ne_of_none e nC), upd_ne (fun z => n ps (Option.some.inj (e.symm.trans (by rw [z]; exact hP))))]
  exact e
/-- the def's object is made -/
theorem ndef_makeC {c P : Addr} {name : Str} {params : Arguments} {body : List Stmt} {scope : Scope} {pos : Pos} {E : Value → Shared → Prop} {Q : Value → Shared → Prop} (I : Inv X pins σ H s) (TB : TabB X.base X.mg c P) (hcode : X.env.code = .ref c)
    (hn : nmL pos.line pos.col = X.env.qual ++ name) (hT : TabN H P nmL) (hfree : ∀ y ∈ scope.names, y.2 = .free → ∃ c, X.env.cells.lookup y.1 = some c)
    (h : ∀ (f c' : Addr) (H1 : Hp) (s' : Shared), Inv X pins σ H1 s' → Same H H1 → H f = none → H1 f = some (FnO f ⟨name, X.env.qual ++ name, params, body, scope, cloFrom X.env.cells scope.names [], c'⟩) → H1 c' = some (CodeO c' (X.env.qual ++ name)) → Q (.ref f) s') :
    wpAny (model X.prog X.w) X.A (makeFunction name (X.env.qual ++ name) params (.stmts body) scope X.env [] [] [] pos pos.line) Q E s := by
  obtain ⟨ps, hP, ht, ha⟩ := hT
  have bP : s.heap.BuiltinsAt X.mg P := TB.bm.keeps I.bk
  have hP' : s.heap.get? P = some { cls := .none, data := .fields ps } := I.hok P _ hP
  cases hc : codeAmong pos ps.toList with
  | none =>
    refine PySem.W.makeFunction_K (mg := X.mg) (c := c) (P := P) (ps := ps) (closure_ok hfree) I.ok.glob (I.mod.glob.keeps I.bk) hcode (TB.code.keeps I.bk) hP' ht hc TB.gP bP fun c' ctv doc h' tk hx hge hlt hrec htb => ?_
    obtain ⟨c2, oc, vs, t, e2, hoc, hd, hv⟩ := hrec
    cases e2
    have nC : H c' = none := I.hok.fresh hge
    have I1 := inv_table (t' := tk) (more := #[rawInt pos.line, rawInt pos.col, .ref c']) (h' := h') I hP (fun b o hb e => hx b o hb e) htb hge ⟨oc, vs, t, hoc, hd, hv⟩
    have S1 : Same H (upd (upd H P (.tbl (ps ++ #[rawInt pos.line, rawInt pos.col, .ref c']))) c' (CodeO c' (X.env.qual ++ name))) := hn ▸ same_grow (pos := pos) nC hP ht
    have nF := I1.hok.fresh (Nat.le_refl _)
    have I2 := inv_fn (F := ⟨name, X.env.qual ++ name, params, body, scope, cloFrom X.env.cells scope.names [], c'⟩) (t' := tk) (doc := doc) (pm := (X.mg "__name__").getD .none) (ctv := ctv) I1 rfl
    exact h h'.objs.size c' _ _ I2 (S1.trans (same_new nF)) (I.hok.fresh (Nat.le_trans hge (Nat.le_of_lt hlt))) upd_same ((upd_ne (Nat.ne_of_lt hlt)).trans upd_same)
  | some cv =>
    obtain ⟨c', e, hco⟩ := ha pos cv hc
    subst e
    rw [hn] at hco
    refine PySem.W.makeFunction_hit (mg := X.mg) (c := c) (P := P) (ps := ps) (closure_ok hfree) I.ok.glob (I.mod.glob.keeps I.bk) hcode (TB.code.keeps I.bk) hP' ht hc bP fun ctv doc h' tk hx hsz => ?_
    have I1 : Inv X pins σ H { s with heap := h', toks := tk } := I.kept hx
    have nF : H h'.objs.size = none := I1.hok.fresh (Nat.le_refl _)
    have I2 := inv_fn (F := ⟨name, X.env.qual ++ name, params, body, scope, cloFrom X.env.cells scope.names [], c'⟩) (t' := tk) (doc := doc) (pm := (X.mg "__name__").getD .none) (ctv := ctv) I1 rfl
    exact h h'.objs.size c' _ _ I2 (same_new nF) nF upd_same ((upd_ne (ne_of_none hco nF)).trans hco)
theorem lam_makeC {c P : Addr} {params : Arguments} {body : Expr} {scope : Scope} {pos : Pos} {E : Value → Shared → Prop} {Q : Value → Shared → Prop} (I : Inv X pins σ H s) (TB : TabB X.base X.mg c P) (hcode : X.env.code = .ref c)
    (hn : nmL pos.line pos.col = X.env.qual ++ "<lambda>") (hT : TabN H P nmL) (hdef : defaultsOf params X.env = ([], [])) (hfree : ∀ y ∈ scope.names, y.2 = .free → ∃ c, X.env.cells.lookup y.1 = some c)
    (h : ∀ (f c' : Addr) (H1 : Hp) (s' : Shared), Inv X pins σ H1 s' → Same H H1 → H f = none → H1 f = some (LamO body f ⟨"<lambda>", X.env.qual ++ "<lambda>", params, [], scope, cloFrom X.env.cells scope.names [], c'⟩) → H1 c' = some (CodeO c' (X.env.qual ++ "<lambda>")) → Q (.ref f) s') :
    wpAny (model X.prog X.w) X.A (eval (.Lambda params body scope pos) X.env) Q E s := by
  obtain ⟨ps, hP, ht, ha⟩ := hT
  refine PySem.W.kla_eval hdef ?_
  have bP : s.heap.BuiltinsAt X.mg P := TB.bm.keeps I.bk
  have hP' : s.heap.get? P = some { cls := .none, data := .fields ps } := I.hok P _ hP
  have lamI : ∀ {H1 : Hp} {s1 : Shared} {c' : Addr} {pm ctv : Value} {tk : Nat}, Inv X pins σ H1 s1 → Inv X pins σ (upd H1 s1.heap.objs.size (LamO body s1.heap.objs.size ⟨"<lambda>", X.env.qual ++ "<lambda>", params, [], scope, cloFrom X.env.cells scope.names [], c'⟩))
      { s1 with heap := s1.heap.push (PySem.W.kla_obj "<lambda>" (X.env.qual ++ "<lambda>") params body scope (cloFrom X.env.cells scope.names []) pm c' ctv), toks := tk } := fun {H1 s1 c' pm ctv tk} I1 => by
    have e := Heap.get?_push_size s1.heap (o := PySem.W.kla_obj "<lambda>" (X.env.qual ++ "<lambda>") params body scope (cloFrom X.env.cells scope.names []) pm c' ctv) rfl
    exact I1.laid (fun b u e => Heap.get?_push_of_some _ e) (Nat.le_refl _) ⟨⟨pm, ctv, e⟩, ⟨_, e⟩, fun h1 h2 ⟨p, t, z⟩ st => ⟨p, t, st _ z⟩⟩
  cases hc : codeAmong pos ps.toList with
  | none =>
    refine PySem.W.kla_makeFunction (mg := X.mg) (c := c) (P := P) (ps := ps) (closure_ok hfree) I.ok.glob (I.mod.glob.keeps I.bk) hcode (TB.code.keeps I.bk) hP' ht hc TB.gP bP fun c' ctv h' tk hx hge hlt hrec htb => ?_
    obtain ⟨c2, oc, vs, t, e2, hoc, hd, hv⟩ := hrec
    cases e2
    have nC : H c' = none := I.hok.fresh hge
    have I1 := inv_table (t' := tk) (more := #[rawInt pos.line, rawInt pos.col, .ref c']) (h' := h') I hP (fun b o hb e => hx b o hb e) htb hge ⟨oc, vs, t, hoc, hd, hv⟩
    have S1 : Same H (upd (upd H P (.tbl (ps ++ #[rawInt pos.line, rawInt pos.col, .ref c']))) c' (CodeO c' (X.env.qual ++ "<lambda>"))) := hn ▸ same_grow (pos := pos) nC hP ht
    have nF := I1.hok.fresh (Nat.le_refl _)
    exact h h'.objs.size c' _ _ (lamI I1) (S1.trans (same_new nF)) (I.hok.fresh (Nat.le_trans hge (Nat.le_of_lt hlt))) upd_same ((upd_ne (Nat.ne_of_lt hlt)).trans upd_same)
  | some cv =>
    obtain ⟨c', e, hco⟩ := ha pos cv hc
    subst e
    rw [hn] at hco
    refine PySem.W.kla_makeFunctionHit (mg := X.mg) (c := c) (P := P) (ps := ps) (closure_ok hfree) I.ok.glob (I.mod.glob.keeps I.bk) hcode (TB.code.keeps I.bk) hP' ht hc bP fun ctv h' tk hx hsz => ?_
    have I1 : Inv X pins σ H { s with heap := h', toks := tk } := I.kept hx
    have nF : H h'.objs.size = none := I1.hok.fresh (Nat.le_refl _)
    exact h h'.objs.size c' _ _ (lamI I1) (same_new nF) nF upd_same ((upd_ne (ne_of_none hco nF)).trans hco)
end
/-- the readings: P the maker's table -/
def tNdefC (P : Addr) (i : Nat) (mk : Addr → NF) : TS := fun D σ H => TabN H P nmL ∧ ∀ (f c' : Addr) (H1 : Hp), Same H H1 → H f = none → H1 f = some (FnO f (mk c')) → H1 (mk c').c = some (CodeO (mk c').c (mk c').qual) → D.nx (σ.set i (some (.ref f))) H1
def tLamC (P : Addr) (body : Expr) (mk : Addr → NF) : TE := fun σ H Q => TabN H P nmL ∧ ∀ (f c' : Addr) (H1 : Hp), Same H H1 → H f = none → H1 f = some (LamO body f (mk c')) → H1 (mk c').c = some (CodeO (mk c').c (mk c').qual) → Q (.ref f) H1
/-- a lambda's words -/
def lamNF (e : Expr) (qual : Str) (cl : List (Str × Addr)) (c : Addr) : NF := match e with
  | .Lambda ps _ sc _ => ⟨"<lambda>", qual, ps, [], sc, cl, c⟩
  | _ => ⟨"", "", { posonlyargs := [], args := [], vararg := none, kwonlyargs := [], kw_defaults := [], kwarg := none, defaults := [] }, [], default, [], c⟩
section
variable {X : Cx}
theorem ps_ndefC {st : Stmt} {c P : Addr} {name : Str} {pos : Pos} {i : Nat} (hst : st = .FunctionDef name (C8.fnArgs st) (C8.fnBody st) [] none [] (C8.fnScope st) none name pos) (TB : TabB X.base X.mg c P) (hcode : X.env.code = .ref c) (hn : nmL pos.line pos.col = X.env.qual ++ name)
    (hfree : ∀ y ∈ (C8.fnScope st).names, y.2 = .free → X.env.scope.names.lookup y.1 = some .cell ∨ X.env.scope.names.lookup y.1 = some .free) (hd0 : (C8.fnArgs st).defaults = []) (hk0 : (C8.fnArgs st).kw_defaults = []) (ha : annTrees (C8.fnArgs st) none X.env = [])
    (hN : X.N.Nodup) (hi : X.N[i]? = some name) (hx : Loc X.env.scope name) (hf : X.fn name = true ∨ X.env.scope.names.lookup name = some .local) :
    PS X st (tNdefC P i (NF.of st name (X.env.qual ++ name) (cloFrom X.env.cells (C8.fnScope st).names []))) := by
  have main : PS X (.FunctionDef name (C8.fnArgs st) (C8.fnBody st) [] none [] (C8.fnScope st) none name pos) (tNdefC P i (NF.of st name (X.env.qual ++ name) (cloFrom X.env.cells (C8.fnScope st).names []))) := by
    refine ⟨fun pins s σ H D I h => ?_⟩
    obtain ⟨hT, h⟩ := h
    have hq : qualnameIn X.env name name = X.env.qual ++ name := by
      have hk : X.env.kindOf name = some .local ∨ X.env.kindOf name = some .cell := hx
      unfold qualnameIn
      rcases hk with k | k <;> rw [k] <;> first | rfl | exact if_neg (by decide)
    refine PySem.W.nestDef_K hd0 hk0 ha ?_
    rw [hq]
    have hfr : ∀ y ∈ (C8.fnScope st).names, y.2 = .free → ∃ c, X.env.cells.lookup y.1 = some c := fun y hy e => (hfree y hy e).elim (fun z => I.ok.has _ (.inl z)) fun z => I.ok.has _ (.inr z)
    refine ndef_makeC I TB hcode hn hT hfr fun f c' H1 s' I1 S1 f0 f1 c1 => ?_
    exact store_ok I1 hN hi hx (v := .ref f) rfl (fun s'' J => ⟨_, H1, J, h f c' H1 S1 f0 f1 c1⟩) hf
  rw [← hst] at main
  exact main
theorem pe_lamC {params : Arguments} {body : Expr} {scope : Scope} {pos : Pos} {c P : Addr} (TB : TabB X.base X.mg c P) (hcode : X.env.code = .ref c) (hn : nmL pos.line pos.col = X.env.qual ++ "<lambda>")
    (hfree : ∀ y ∈ scope.names, y.2 = .free → X.env.scope.names.lookup y.1 = some .cell ∨ X.env.scope.names.lookup y.1 = some .free) (hdef : defaultsOf params X.env = ([], [])) :
    PE X (.Lambda params body scope pos) (tLamC P body (lamNF (.Lambda params body scope pos) (X.env.qual ++ "<lambda>") (cloFrom X.env.cells scope.names []))) := by
  refine ⟨fun pins s σ H Q I h => ?_⟩
  obtain ⟨hT, h⟩ := h
  have hfr : ∀ y ∈ scope.names, y.2 = .free → ∃ c, X.env.cells.lookup y.1 = some c := fun y hy e => (hfree y hy e).elim (fun z => I.ok.has _ (.inl z)) fun z => I.ok.has _ (.inr z)
  exact lam_makeC I TB hcode hn hT hdef hfr fun f c' H1 s' I1 S1 f0 f1 c1 => ⟨.ref f, H1, I1, rfl, h f c' H1 S1 f0 f1 c1⟩
end
def lamBody : Expr → Expr
  | .Lambda _ b _ _ => b
  | e => e
def lamF : Expr → Expr
  | .Tuple es _ _ => es.getLast?.getD (.Constant .none 0 ⟨0, 0, 0, 0⟩)
  | e => e
def lamIn (b : List Stmt) : Expr := match b.getLast? with
  | some (.Return (some e) _) => lamF e
  | _ => .Constant .none 0 ⟨0, 0, 0, 0⟩
/-- the table of the def x -/
abbrev tabP (K : PySem.W.Frag) (x : Str) : Addr := (He.cT K (x, none)).2
/-! ### the maker returns: its captured cells are tracked from now on -/
/-- what is known of a closure that its maker gives out -/
structure Upg (CL : CLs) (lv : Nat) (O : Addr → NF → HO) (mk : Addr → NF) (js : List Nat) (spn : Nat → List V → List V → Hp → VK → Prop) (C : Addr → Prop) (dC : DecidablePred C) (σ : L2.St) (H Hp' : Hp) : Prop where
  hid : ∀ b, C b → H b = none
  same : ∀ b, ¬ C b → Hp' b = H b
  ext : ∀ b, C b → ∃ φ, Hp' b = some (.ext φ)
  law : ∀ f c', H f = some (O f (mk c')) → H (mk c').c = some (CodeO (mk c').c (mk c').qual) → ∀ ws : List V, js.map (slotAt σ) = ws.map some → ∀ (j : Nat) (H3 : Hp) (vs : List V) (Q3 : VK), (∀ b φ, Hp' b = some (.ext φ) → H3 b = some (.ext φ)) →
    spn j ws vs (hide C H3) (fun v H4 => Q3 v (unhide C H3 H4)) → CL.run (max j lv + 1) f vs H3 Q3
theorem Upg.up {CL : CLs} {lv : Nat} {O : Addr → NF → HO} {mk : Addr → NF} {js : List Nat} {spn : Nat → List V → List V → Hp → VK → Prop} {C : Addr → Prop} {dC : DecidablePred C} {σ : L2.St} {H H' : Hp} (u : Upg CL lv O mk js spn C dC σ H H') : Same H H' :=
  .of fun b o e => by rw [u.same b fun z => by rw [u.hid b z] at e; cases e]; exact e
theorem execs_app (a b : List Stmt) (env : Env) : execs (a ++ b) env = (execs a env >>= fun f => match f with | .next => execs b env | f => pure f) := by
  induction a with
  | nil => show execs b env = (pure Flow.next >>= _); rw [pure_bind]
  | cons x r ih =>
    show execs (x :: (r ++ b)) env = _
    rw [execs_cons, execs_cons, bind_assoc]
    congr 1
    funext f
    cases f with
    | next => exact ih
    | ret v => rw [pure_bind]
    | brk => rw [pure_bind]
    | cont => rw [pure_bind]
theorem wpAny_execs_app {M : Model} {A : Around} {E : Value → Shared → Prop} {s : Shared} {a b : List Stmt} {env : Env} {Q : Flow → Shared → Prop}
    (h : wpAny M A (execs a env) (fun f s' => match f with | .next => wpAny M A (execs b env) Q E s' | f => Q f s') E s) : wpAny M A (execs (a ++ b) env) Q E s := by
  rw [execs_app]
  refine wpAny_bind (wpAny_mono h (fun f s' q => ?_) fun _ _ q => q)
  cases f with
  | next => exact q
  | ret v => exact wpAny_pure q
  | brk => exact wpAny_pure q
  | cont => exact wpAny_pure q
def CellN (c : Addr) : HO := .ext fun h => ∃ v, h.IsCell c v
open Classical in
noncomputable def cellH (C : Addr → Prop) (h : Heap) (H : Hp) : Hp := fun b => if C b then some (if z : ∃ v, ∃ u, L2.RelV v u ∧ h.IsCell b (some u) then CellO b (Classical.choose z) else CellN b) else H b
theorem isCell_fun {h : Heap} {c : Addr} {v v' : Option Value} (a : h.IsCell c v) (b : h.IsCell c v') : v = v' := by
  obtain ⟨o, h1, h2⟩ := a
  obtain ⟨o', h3, h4⟩ := b
  rw [h1] at h3; cases h3
  rw [h2] at h4; cases h4; rfl
theorem cellH_in {C : Addr → Prop} {h : Heap} {H : Hp} {b : Addr} {v : V} {u : Value} (hb : C b) (r : L2.RelV v u) (z : h.IsCell b (some u)) : cellH C h H b = some (CellO b v) := by
  unfold cellH
  have ex : ∃ v, ∃ u, L2.RelV v u ∧ h.IsCell b (some u) := ⟨v, u, r, z⟩
  rw [if_pos hb, dif_pos ex]
  obtain ⟨u', r', z'⟩ := Classical.choose_spec ex
  have e := isCell_fun z z'
  cases e
  rw [relV_fun r' r]
theorem cellH_out {C : Addr → Prop} {h : Heap} {H : Hp} {b : Addr} (hb : ¬ C b) : cellH C h H b = H b := if_neg hb
theorem cellH_ext {C : Addr → Prop} {h : Heap} {H : Hp} {b : Addr} (hb : C b) : ∃ φ, cellH C h H b = some (.ext φ) := by
  unfold cellH
  rw [if_pos hb]
  split
  · exact ⟨_, rfl⟩
  · exact ⟨_, rfl⟩
theorem cellH_ok {P : Program} {w : World} {C : Addr → Prop} {h : Heap} {H : Hp} (ok : HOk P w H h) (hC : ∀ b, C b → H b = none ∧ ∃ v, h.IsCell b v) : HOk P w (cellH C h H) h := fun a o e => by
  by_cases ha : C a
  · obtain ⟨_, v, ob, ho, hd⟩ := hC a ha
    unfold cellH at e
    rw [if_pos ha] at e
    split at e
    · rename_i z
      cases e
      exact ⟨Classical.choose_spec z, ⟨ob, ho⟩, fun h1 h2 ⟨u, r, o, q1, q2⟩ st => ⟨u, r, o, st o q1, q2⟩⟩
    · cases e
      exact ⟨⟨v, ob, ho, hd⟩, ⟨ob, ho⟩, fun h1 h2 ⟨v, o, q1, q2⟩ st => ⟨v, o, st o q1, q2⟩⟩
  · rw [cellH_out ha] at e
    have out : ∀ {b u}, H b = some u → cellH C h H b = some u := fun {b u} q => (cellH_out fun z => by rw [(hC b z).1] at q; cases q).trans q
    exact (ok a o e).stay (fun _ _ _ q => q) (fun b q => out q) fun b xs q => out q
/-- the rule: a def that gives out a closure -/
theorem FunD.okC {P : Program} {w : World} {K : PySem.W.Frag} {mg : Str → Option Value} {base : Heap} {x : Str} {qual : Str} {params : Arguments} {body pre : List Stmt} {e : Expr} {pos : Pos} {scope nsc : Scope} {f : Addr} {fd : FuncData} {N ps fr psn : List Str} {js : List Nat} {k lv : Nat} {sp : Sp}
    {O : Addr → NF → HO} {mkF : List (Str × Addr) → Addr → NF} {spn : Nat → List V → List V → Hp → VK → Prop}
    (F : FunD K x qual params body scope [] [] f fd) (hbd : body = pre ++ [.Return (some e) pos]) (S : FnScope N ps scope) (len : ∀ vs H Q E, sp vs H Q E → vs.length = ps.length) (hO : ∀ {f : Addr} {F : NF}, ∃ φ, O f F = .ext φ ∧ ∀ h, φ h → PySem.W.FnAt f h)
    (hcl : ∀ cl c', (mkF cl c').cl = cl) (hsc : ∀ y ∈ nsc.names, y.2 = .free → y.1 ∈ fr) (hnd : ndefB scope nsc fr = true) (hjs : js.map (fun j => N[j]?) = fr.map some)
    (nok : ∀ j f cl c', COk O P w K mg base (max j lv + 1) f (mkF cl c') psn fr (spn j))
    (hbody : ∀ (c : Addr) (A : Around) (outer : List Env) (s : Shared) (H : Hp) (vs : List V) (Q : VK) (E : XK), He.codeOf K (x, none) = c → Room k (A.deeper (envOfC qual scope s.heap.objs.size f (.ref c))) → sp vs H Q E →
      ∃ (t : TS) (te : TE), PSs (cxOf CX0 P w K mg base N qual scope f (.ref c) A outer s H E) pre t ∧ PE (cxOf CX0 P w K mg base N qual scope f (.ref c) A outer s H E) e te ∧
        ∀ G : V → L2.St → Hp → Prop, (∀ v σ' H'', (∀ C dC H', Upg (Cal P w K mg base) lv O (mkF (cloFrom (envOfC qual scope s.heap.objs.size f (.ref c)).cells nsc.names [])) js spn C dC σ' H'' H' → Q v H') → G v σ' H'') →
          t { nx := fun σ' H' => te σ' H' fun v H'' => G v σ' H'', rt := fun _ _ => False } (start N vs) H)
    (hat : f = He.fAd K (x, none)) : FnOk P w K mg base CX0 (k + 1) f fd ps sp := by
  obtain ⟨oc, od, dV, kV, doc, pm, an, cdv, ct, osl, rfl, lk, hcd, _, _⟩ := F.ex
  obtain ⟨c, rfl⟩ := He.codeIn_ref hcd
  have ec : He.codeOf K (x, none) = c := He.codeOf_eq (p := (x, none)) (by rw [← hat]; exact lk) rfl
  refine ⟨len, fun A outer s H args us vs Q E hr e0 hb r hsp => ?_⟩
  have hl := len _ _ _ _ hsp
  have KX : K.In s.heap := e0.mod.kin.keeps fun b o e => (e0.bs b o e).1
  have lim : s.heap.NoLimit := e0.mod.nolimit.keeps fun b o e => (e0.bs b o e).1
  have hkind : ∀ y ∈ ps.zip us, scope.names.lookup y.1 = some .local ∨ (scope.names.lookup y.1 = some .cell ∧ ((cellsFrom (s.heap.objs.size + 1) scope.names []).lookup y.1).isSome = true) := fun ⟨n, v⟩ hy => by
    rcases S.par n (List.of_mem_zip hy).1 with q | q
    · exact .inl q
    · exact .inr ⟨q, PySem.W.cellsFrom_some _ _ _ (.inl q)⟩
  refine codeAny_call_function hr.depth (KX _ _ lk) rfl S.co S.gen rfl (PySem.W.codeRec_of KX hcd) (hb _ _ _ _ ?_)
  refine wpAny_newFunctionEnv_cells S.kind hkind fun env he s1 x1 => ?_
  subst he
  refine ⟨lim.keeps x1.toInCall.keep, codeAny_func ?_⟩
  obtain ⟨t, te, ht, hte, hq⟩ := hbody c A outer s H vs Q E ec (hr.deeper _) hsp
  have I : Inv (cxOf CX0 P w K mg base N qual scope f (.ref c) A outer s H E) [] (start N vs) H s1 := inv_start S hr.hd e0 hl r x1
  have hq := hq (fun v σ' H'' => ∀ C dC H', Upg (Cal P w K mg base) lv O (mkF (cloFrom (envOfC qual scope s.heap.objs.size f (.ref c)).cells nsc.names [])) js spn C dC σ' H'' H' → Q v H') fun v σ' H'' z => z
  subst hbd
  refine wpAny_execs_app ?_
  refine wpAny_mono (ht.run [] s1 (start N vs) H _ I hq) (fun fl s2 hs => ?_) fun e s' hs => hs
  cases fl with
  | ret v =>
    obtain ⟨_, _, _, _, _, q⟩ := hs
    exact False.elim q
  | brk =>
    obtain ⟨_, _, _, q⟩ := hs
    exact False.elim q
  | cont =>
    obtain ⟨_, _, _, q⟩ := hs
    exact False.elim q
  | next =>
  obtain ⟨σ', H', J, q⟩ := hs
  refine wpAny_execs_cons (wpAny_Return_some (thn (hte.run [] s2 σ' H' _ J q) fun u s3 ⟨v, H'', J3, rv, g⟩ => ?_))
  show CE outer P w H s Q u s3
  have hfr := ndef_fr hnd
  have hfree := ndef_free hnd
  have hf2 : ∀ y ∈ nsc.names, y.2 = .free → ∃ c', (envOfC qual scope s.heap.objs.size f (.ref c)).cells.lookup y.1 = some c' := fun y hy e => (hfree y hy e).elim (fun z => J3.ok.has _ (.inl z)) fun z => J3.ok.has _ (.inr z)
  have CA : CellsAt (cloFrom (envOfC qual scope s.heap.objs.size f (.ref c)).cells nsc.names []) fr (js.map (slotAt σ')) s3.heap H'' := cells_of J3 (Caps.made J3.ok hfree hfr hjs)
  generalize hcl0 : cloFrom (envOfC qual scope s.heap.objs.size f (.ref c)).cells nsc.names [] = cl at CA g
  have hC : ∀ b, (∃ y, cl.lookup y = some b) → H'' b = none ∧ ∃ v, s3.heap.IsCell b v := fun b ⟨y, e⟩ => CA.all y b e
  have old : ∀ b o, s.heap.get? b = some o → ¬ ∃ y, cl.lookup y = some b := fun b o ho ⟨y, e⟩ => by
    rw [← hcl0] at e
    have z := J3.ok.cab y b rfl (clo_cm hf2 e)
    exact Nat.lt_irrefl _ (Nat.lt_of_lt_of_le (Heap.lt_size ho) z)
  have out : ∀ {b o}, H'' b = some o → ¬ ∃ y, cl.lookup y = some b := fun {b o} e z => by rw [(hC b z).1] at e; cases e
  have un := J3.base
  refine ⟨v, cellH (fun b => ∃ y, cl.lookup y = some b) s3.heap H'', J3.os, J3.bare, ⟨un.keep, un.slot, fun b o e n hx => ?_, un.there, fun b xs e => ?_, fun b o u e => ?_, fun b ps e => ?_⟩, cellH_ok J3.hok hC, rv, g (fun b => ∃ y, cl.lookup y = some b) (fun b => Classical.propDecidable _) _ ?_⟩
  · rw [cellH_out (old b o e)]; exact un.free b o e n hx
  · have z := un.tups b xs e
    rw [cellH_out (out z)]; exact z
  · have z := un.frzs b o u e
    rw [cellH_out (out z)]; exact z
  · obtain ⟨more, z⟩ := un.tbls b ps e
    exact ⟨more, by rw [cellH_out (out z)]; exact z⟩
  · refine ⟨fun b z => (hC b z).1, fun b z => cellH_out z, fun b z => cellH_ext z, fun f' c' e1 e2 ws hws j H3 vs3 Q3 hx hsp3 => ?_⟩
    have key : ∀ (i : Nat) (y : Str), fr[i]? = some y → ∃ c, cl.lookup y = some c ∧ ∀ v, ws[i]? = some v → H3 c = some (CellO c v) := fun i y ey => by
      obtain ⟨c1, h1, h2⟩ := CA.has i y ey
      refine ⟨c1, h1, fun v0 ev => ?_⟩
      obtain ⟨u0, r0, z0⟩ := h2 v0 (by rw [hws, List.getElem?_map, ev]; rfl)
      exact hx c1 _ (cellH_in ⟨y, h1⟩ r0 z0)
    have hlen : ws.length = fr.length := by
      have q := CA.len
      rw [hws, List.length_map] at q
      exact q
    have cells : Cells (fun b => ∃ y, cl.lookup y = some b) H3 := fun b ⟨y, e⟩ => by
      have hy : y ∈ fr := by
        have e' := e
        rw [← hcl0] at e'
        rcases cloFrom_mem (PySem.mem_of_lookup e') with hm | ⟨hm1, hm2⟩
        · cases hm
        · exact hsc _ hm1 rfl
      obtain ⟨i, hi⟩ := List.mem_iff_getElem?.mp hy
      obtain ⟨c1, h1, h2⟩ := key i y hi
      rw [h1] at e; cases e
      have hlt : i < ws.length := by rw [hlen]; exact (List.getElem?_eq_some_iff.mp hi).1
      exact ⟨_, h2 (ws[i]) (List.getElem?_eq_getElem hlt)⟩
    obtain ⟨φ, eO, hφ⟩ := hO (f := f') (F := mkF cl c')
    have e3 : H3 f' = some (O f' (mkF cl c')) := by
      rw [eO] at e1 ⊢
      exact hx _ _ (by rw [cellH_out (out e1)]; exact e1)
    have e4 : H3 (mkF cl c').c = some (CodeO (mkF cl c').c (mkF cl c').qual) := hx _ _ (by rw [cellH_out (out e2)]; exact e2)
    letI : DecidablePred (fun b => ∃ y, cl.lookup y = some b) := fun b => Classical.propDecidable _
    refine cal_of (C := fun b => ∃ y, cl.lookup y = some b) (nok j f' cl c') ⟨φ, by rw [e3, eO], hφ⟩ e3 e4 cells hlen (fun y c e => ⟨y, by rw [hcl] at e; exact e⟩) ?_ ?_ (out e1) (out e2) hsp3
    · rw [hcl]; exact CA.inj
    · rw [hcl]; exact key
/-! ### walking with closures -/
section
variable {P : Addr} {i : Nat} {mk : Addr → NF} {b : Expr} {σ : L2.St} {H H' H3 H4 : Hp} {Q : VK} {nx bk ct : L2.St → Hp → Prop} {rt : VK} {CL : CLs} {j : Nat} {ta : TA} {f : Addr}
theorem m_ndefC (hT : TabN H P nmL) (h : ∀ (f c' : Addr) (H1 : Hp), Same H H1 → H f = none → H1 f = some (FnO f (mk c')) → H1 (mk c').c = some (CodeO (mk c').c (mk c').qual) → nx (σ.set i (some (.ref f))) H1) : tNdefC P i mk (Ends.mk nx rt bk ct) σ H := ⟨hT, h⟩
theorem m_lamC (hT : TabN H P nmL) (h : ∀ (f c' : Addr) (H1 : Hp), Same H H1 → H f = none → H1 f = some (LamO b f (mk c')) → H1 (mk c').c = some (CodeO (mk c').c (mk c').qual) → Q (.ref f) H1) : tLamC P b mk σ H Q := ⟨hT, h⟩
theorem m_callV (hs : σ[i]? = some (some (.ref f))) (hf : IsFn H f) (h : ta σ H fun vs H1 => CL.run j f vs H1 Q) : tCallV CL j i ta σ H Q := ⟨f, hs, hf, h⟩
abbrev All (H H' : Hp) : Prop := L2.Same H H'
theorem All.same (h : All H H') : Same H H' := .of h
theorem Same.extN (s : Same H H') : ExtN H H' := s.keep
theorem IsFn.ext (h : IsFn H f) (s : ExtN H H') : IsFn H' f := by
  obtain ⟨φ, e, q⟩ := h
  exact ⟨φ, s _ _ e (fun _ z => nomatch z), q⟩
theorem unhide_hide {C : Addr → Prop} [DecidablePred C] : unhide C H (hide C H) = H := by
  funext b
  unfold unhide hide
  split <;> rfl
theorem unhide_upd {C : Addr → Prop} [DecidablePred C] {p : Addr} {o : HO} (h : ¬ C p) : unhide C H (upd (hide C H) p o) = upd H p o := by
  funext b
  by_cases hb : C b
  · rw [unhide_in hb, upd_ne fun z => h (by rw [← z]; exact hb)]
  · rw [unhide_out hb]
    by_cases e : b = p
    · subst e; rw [upd_same, upd_same]
    · rw [upd_ne e, upd_ne e, hide_out hb]
theorem all_unhide {C : Addr → Prop} [DecidablePred C] (s : All (hide C H3) H4) : All H3 (unhide C H3 H4) := fun b o e => by
  by_cases hb : C b
  · rw [unhide_in hb]; exact e
  · rw [unhide_out hb]; exact s b o ((hide_out hb).trans e)
theorem upg_out {lv : Nat} {O : Addr → NF → HO} {js : List Nat} {spn : Nat → List V → List V → Hp → VK → Prop} {C : Addr → Prop} {dC : DecidablePred C} (u : Upg CL lv O mk js spn C dC σ H H') {b : Addr} {o : HO} (e : H b = some o) : ¬ C b := fun z => by
  rw [u.hid b z] at e; cases e
theorem upg_ext {lv : Nat} {O : Addr → NF → HO} {js : List Nat} {spn : Nat → List V → List V → Hp → VK → Prop} {C : Addr → Prop} {dC : DecidablePred C} (u : Upg CL lv O mk js spn C dC σ H H') (s : ExtN H' H3) : ExtN H (hide C H3) := fun b o e n => by
  have hb := upg_out u e
  rw [hide_out hb]
  exact s b o (by rw [u.same b hb]; exact e) n
theorem upg_get {lv : Nat} {O : Addr → NF → HO} {js : List Nat} {spn : Nat → List V → List V → Hp → VK → Prop} {C : Addr → Prop} {dC : DecidablePred C} (u : Upg CL lv O mk js spn C dC σ H H') (s : ExtN H' H3) {b : Addr} {o : HO} [n : NT o] (e : H b = some o) : hide C H3 b = some o := upg_ext u s b o e n.ne
theorem ext_ext (s : ExtN H H') : ∀ b φ, H b = some (.ext φ) → H' b = some (.ext φ) := fun b φ e => s b _ e fun _ z => nomatch z
theorem fnO_ext {f : Addr} {F : NF} : ∀ ps, FnO f F ≠ .tbl ps := fnO_ne
end
/-- a look whose list stays as it was -/
def PureLook (CL : CLs) (j : Nat) (g : Addr) (xs : List V) (H : Hp) : Prop :=
  ∀ H', ExtN H H' → IsFn H' g ∧ ∀ (i : Nat) (x : V) (Q : VK), xs[i]? = some x → (∀ H'', All H' H'' → Q x H'') → CL.run j g [.int (i : Int)] H' Q
theorem PureLook.ext {CL : CLs} {j : Nat} {g : Addr} {xs : List V} {H H' : Hp} (p : PureLook CL j g xs H) (s : ExtN H H') : PureLook CL j g xs H' := fun H'' s2 => p H'' (s.trans s2)
theorem PureLook.ask {CL : CLs} {j k : Nat} {g : Addr} {xs : List V} {H H' : Hp} (p : PureLook CL j g xs H) (hj : j ≤ k) (s : ExtN H H') {i : Int} {x : V} {Q : VK} (h0 : 0 ≤ i) (hx : xs[i.toNat]? = some x) (q : ∀ H'', All H' H'' → Q x H'') : CL.run k g [.int i] H' Q := by
  have e : i = ((i.toNat : Nat) : Int) := by omega
  rw [e]
  exact CL.mono hj ((p H' s).2 _ x Q hx q)
theorem PureLook.askN {CL : CLs} {j k : Nat} {g : Addr} {xs : List V} {H H' : Hp} (p : PureLook CL j g xs H) (hj : j ≤ k) (s : ExtN H H') {i : Nat} {x : V} {Q : VK} (hx : xs[i]? = some x) (q : ∀ H'', All H' H'' → Q x H'') : CL.run k g [.int (i : Int)] H' Q :=
  CL.mono hj ((p H' s).2 _ x Q hx q)
open Classical in
/-- what is new in H', and what never changes -/
noncomputable def newOf (H H' : Hp) : Hp := fun b => if H b = none ∨ ∃ φ, H' b = some (.ext φ) then H' b else none
section
variable {H H' H3 : Hp} {b : Addr} {o : HO} {φ : Heap → Prop}
theorem newOf_new (h : H b = none) : newOf H H' b = H' b := if_pos (.inl h)
theorem newOf_ext (h : H' b = some (.ext φ)) : newOf H H' b = some (.ext φ) := (if_pos (.inr ⟨φ, h⟩)).trans h
theorem newOf_sub (h : newOf H H' b = some o) : H' b = some o := by
  unfold newOf at h
  split at h
  · exact h
  · cases h
theorem newOf_old (h : newOf H H' b = some o) (n : H b ≠ none) : ∃ φ, o = .ext φ := by
  unfold newOf at h
  split at h
  · rename_i z
    rcases z with z | ⟨φ, z⟩
    · exact absurd z n
    · rw [z] at h; cases h; exact ⟨φ, rfl⟩
  · cases h
theorem newOf_extN (s : ExtN H' H3) : ExtN (newOf H H') H3 := fun b o e n => s b o (newOf_sub e) n
/-- an object that was there and is no closure's may change -/
theorem newOf_upd {p : Addr} {xs : List V} (s : ExtN (newOf H H') H3) (hp : H p = some (.lst xs)) (s0 : ExtN H H') : ExtN (newOf H H') (upd H3 p o) := fun b u e n => by
  have nb : b ≠ p := fun z => by
    subst z
    obtain ⟨φ, q⟩ := newOf_old e (by rw [hp]; simp)
    have e2 := newOf_sub e
    rw [s0 _ _ hp fun _ z => nomatch z] at e2
    rw [q] at e2; cases e2
  rw [upd_ne nb]; exact s b u e n
end
/-! ### looks, as the program's defs use them -/
/-- H' is H, but for the list at q and for what is new -/
structure SameX (q : Option Addr) (H H' : Hp) : Prop where
  keep : ∀ b o, q ≠ some b → H b = some o → (∀ ps, o ≠ .tbl ps) → H' b = some o
  gone : ∀ b, H' b = none → H b = none
  tabs : ∀ P, TabN H P nmL → TabN H' P nmL
  isl : ∀ p, q = some p → ∃ xs, H p = some (.lst xs)
  isl' : ∀ p, q = some p → ∃ xs, H' p = some (.lst xs)
section
variable {q : Option Addr} {H H' H1 H2 : Hp} {a b : Addr} {o : HO} {xs : List V} {K : PySem.W.Frag}
theorem SameX.of (hq : ∀ p, q = some p → ∃ xs, H p = some (.lst xs)) (hq' : ∀ p, q = some p → ∃ xs, H' p = some (.lst xs)) (h : ∀ b o, q ≠ some b → H b = some o → H' b = some o) : SameX q H H' := by
  refine ⟨fun b o n e _ => h b o n e, fun b e => ?_, fun P ⟨ps, h1, ht, hc⟩ => ?_, hq, hq'⟩
  · cases z : H b with
    | none => rfl
    | some o =>
      by_cases hb : q = some b
      · obtain ⟨xs, q'⟩ := hq' b hb
        rw [e] at q'; cases q'
      · rw [h b o hb z] at e; cases e
  · have np : ∀ {b : Addr} {u : HO}, H b = some u → (∀ xs, u ≠ .lst xs) → q ≠ some b := fun {b u} e d z => by
      obtain ⟨xs, q'⟩ := hq b z
      rw [q'] at e; cases e; exact d _ rfl
    refine ⟨ps, h P _ (np h1 fun _ z => nomatch z) h1, ht, fun pos cv z => ?_⟩
    obtain ⟨c, e1, e2⟩ := hc pos cv z
    exact ⟨c, e1, h c _ (np e2 fun _ z => by unfold CodeO at z; cases z) e2⟩
theorem Same.toX (s : Same H H') (hq : ∀ p, q = some p → ∃ xs, H p = some (.lst xs)) : SameX q H H' := ⟨fun b o _ e n => s.keep b o e n, s.gone, s.tabs, hq, fun p z => let ⟨xs, e⟩ := hq p z; ⟨xs, s.get e⟩⟩
theorem SameX.trans (a : SameX q H H1) (b : SameX q H1 H2) : SameX q H H2 := ⟨fun c o n e z => b.keep c o n (a.keep c o n e z) z, fun c e => a.gone c (b.gone c e), fun P t => b.tabs P (a.tabs P t), a.isl, b.isl'⟩
theorem SameX.andS (a : SameX q H H1) (b : Same H1 H2) : SameX q H H2 := a.trans (b.toX a.isl')
theorem SameX.get (s : SameX q H H') (n : q ≠ some b) [NT o] (e : H b = some o) : H' b = some o := s.keep b o n e NT.ne
theorem SameX.ne (s : SameX q H H') (e : H b = some o) (d : ∀ xs, o ≠ .lst xs) : q ≠ some b := fun z => by
  obtain ⟨xs, q'⟩ := s.isl b z
  rw [q'] at e; cases e; exact d _ rfl
theorem SameX.neN (s : SameX q H H') (e : H b = none) : q ≠ some b := fun z => by
  obtain ⟨xs, q'⟩ := s.isl b z
  rw [q'] at e; cases e
theorem SameX.tup (s : SameX q H H') (e : H b = some (.tup xs)) : H' b = some (.tup xs) := s.get (s.ne e fun _ z => nomatch z) e
theorem SameX.seqT (s : SameX q H H') (h : SqT K H a xs) : SqT K H' a xs := by
  rcases h with (h | ⟨o, h⟩) | h
  · exact .inl (.inl (s.tup h))
  · exact .inl (.inr ⟨o, s.get (s.ne h fun _ z => nomatch z) h⟩)
  · exact .inr h
theorem SameX.pure (s : SameX Option.none H H') : Same H H' := ⟨fun b o e n => s.keep b o (fun z => nomatch z) e n, s.gone, s.tabs⟩
end
/-- a look of n answers; what has been asked for is L -/
structure LookR (CL : CLs) (g : Addr) (n : Nat) (val : Nat → V) (q : Option Addr) (I : List Nat → Hp → Prop) : Prop where
  fn : ∀ {L H}, I L H → IsFn H g
  isq : ∀ {L H}, I L H → ∀ p, q = some p → ∃ xs, H p = some (.lst xs)
  ext : ∀ {L H H'}, I L H → Same H H' → I L H'
  ask : ∀ {L H} {k : Nat} {Q : VK}, I L H → L.length < 1000 → k < n → (∀ H', I (L ++ [k]) H' → SameX q H H' → Q (val k) H') → CL.run 9 g [.int (k : Int)] H Q
theorem LookR.askI {CL : CLs} {g : Addr} {n : Nat} {val : Nat → V} {q : Option Addr} {I : List Nat → Hp → Prop} (R : LookR CL g n val q I) {L : List Nat} {H : Hp} {i : Int} {Q : VK} (h : I L H) (hl : L.length < 1000) (h0 : 0 ≤ i) (hn : i < n)
    (hq : ∀ H', I (L ++ [i.toNat]) H' → SameX q H H' → Q (val i.toNat) H') : CL.run 9 g [.int i] H Q := by
  have e : i = ((i.toNat : Nat) : Int) := by omega
  rw [e]
  exact R.ask h hl (by omega) hq
/-- a pure look, as such a look -/
theorem PureLook.lookR {CL : CLs} {j : Nat} {g : Addr} {xs : List V} {B : Hp} (p : PureLook CL j g xs B) (hj : j ≤ 9) : LookR CL g xs.length (fun k => xs.getD k .non) none (fun _ H => ExtN B H) where
  fn := fun h => (p _ h).1
  isq := fun _ _ z => nomatch z
  ext := fun h s => h.trans s.extN
  ask := fun {L H k Q} h _ hk q => p.askN hj h (show xs[k]? = some (xs.getD k .non) by rw [List.getD_eq_getElem?_getD, List.getElem?_eq_getElem hk]; rfl) fun H' s => q H' (h.trans (All.same s).extN) (((All.same s)).toX fun _ z => nomatch z)
/-- a look that writes down what it is asked for, in the list at ps -/
def LogLook (CL : CLs) (j : Nat) (g ps pb : Addr) (val : List V) (dft : V) (B : Hp) : Prop :=
  ∀ H', ExtN B H' → IsFn H' g ∧ ∀ (L : List Int) (k : Int) (Q : VK), H' ps = some (.lst (L.map V.int)) → L.length < 100000 → H' pb = some (.lst val) → Q (if 0 ≤ k ∧ k < val.length then val.getD k.toNat .non else dft) (upd H' ps (.lst ((L ++ [k]).map V.int))) → CL.run j g [.int k] H' Q
theorem LogLook.ext {CL : CLs} {j : Nat} {g ps pb : Addr} {val : List V} {dft : V} {B B' : Hp} (p : LogLook CL j g ps pb val dft B) (s : ExtN B B') : LogLook CL j g ps pb val dft B' := fun H' s2 => p H' (s.trans s2)
/-- .. between the calls: nothing but ps has changed -/
def LogI (B : Hp) (ps pb : Addr) (val : List V) (L0 : List Int) (L : List Nat) (H : Hp) : Prop := ExtN B H ∧ H ps = some (.lst ((L0 ++ L.map Int.ofNat).map V.int)) ∧ H pb = some (.lst val)
theorem LogLook.lookR {CL : CLs} {j : Nat} {g ps pb : Addr} {val : List V} {dft : V} {B : Hp} {L0 : List Int} (p : LogLook CL j g ps pb val dft B) (hj : j ≤ 9) (hB : ∀ o, B ps = some o → ∃ φ, o = .ext φ) (nb : ps ≠ pb) (hl : L0.length ≤ 90000) :
    LookR CL g val.length (fun k => val.getD k .non) (some ps) (LogI B ps pb val L0) where
  fn := fun h => (p _ h.1).1
  isq := fun h p z => by cases z; exact ⟨_, h.2.1⟩
  ext := fun h s => ⟨h.1.trans s.extN, s.get h.2.1, s.get h.2.2⟩
  ask := fun {L H k Q} h hL hk q => by
    refine CL.mono hj ((p _ h.1).2 _ _ Q h.2.1 (by rw [List.length_append, List.length_map]; omega) h.2.2 ?_)
    rw [if_pos ⟨by omega, by omega⟩, Int.toNat_natCast]
    have ne : ∀ {b : Addr} {o : HO}, B b = some o → b ≠ ps := fun {b o} e z => by
      subst z
      obtain ⟨φ, rfl⟩ := hB o e
      have z2 := h.1 _ _ e fun _ z => nomatch z
      rw [h.2.1] at z2; cases z2
    refine q _ ⟨fun b o e n => ?_, ?_, ?_⟩ (SameX.of (fun p z => by cases z; exact ⟨_, h.2.1⟩) (fun p z => by cases z; exact ⟨_, upd_same⟩) fun b o n e => ?_)
    · rw [upd_ne (ne e)]; exact h.1 b o e n
    · rw [upd_same, List.map_append (f := Int.ofNat), ← List.append_assoc]; rfl
    · rw [upd_ne nb.symm]; exact h.2.2
    · rw [upd_ne fun z => n (by rw [z])]; exact e
theorem LookR.congr {CL : CLs} {g : Addr} {n : Nat} {val val' : Nat → V} {q : Option Addr} {I : List Nat → Hp → Prop} (R : LookR CL g n val q I) (h : ∀ k, k < n → val k = val' k) : LookR CL g n val' q I :=
  ⟨R.fn, R.isq, R.ext, fun {L H k Q} i l hk q => R.ask i l hk (by rw [h k hk]; exact q)⟩
theorem getD_map_int (bl : List Int) {k : Nat} (h : k < bl.length) : (bl.map V.int).getD k .non = .int (bl.getD k 0) := by
  rw [List.getD_eq_getElem?_getD, List.getD_eq_getElem?_getD, mapint (List.getElem?_eq_getElem h), List.getElem?_eq_getElem h]; rfl
theorem LogLook.lookI {CL : CLs} {j : Nat} {g ps pb : Addr} {bl : List Int} {dft : V} {B : Hp} {L0 : List Int} (p : LogLook CL j g ps pb (bl.map V.int) dft B) (hj : j ≤ 9) (hB : ∀ o, B ps = some o → ∃ φ, o = .ext φ) (nb : ps ≠ pb) (hl : L0.length ≤ 90000) :
    LookR CL g bl.length (fun k => .int (bl.getD k 0)) (some ps) (LogI B ps pb (bl.map V.int) L0) := by
  have R := (p.lookR hj hB nb hl).congr (val' := fun k => .int (bl.getD k 0)) fun k hk => getD_map_int bl (by rw [List.length_map] at hk; exact hk)
  rw [List.length_map] at R
  exact R
theorem PureLook.lookI {CL : CLs} {j : Nat} {g : Addr} {bl : List Int} {B : Hp} (p : PureLook CL j g (bl.map V.int) B) (hj : j ≤ 9) : LookR CL g bl.length (fun k => .int (bl.getD k 0)) none (fun _ H => ExtN B H) := by
  have R := (p.lookR hj).congr (val' := fun k => .int (bl.getD k 0)) fun k hk => getD_map_int bl (by rw [List.length_map] at hk; exact hk)
  rw [List.length_map] at R
  exact R
section
variable {B H H0 H' : Hp} {ps pb a : Addr} {val : List V} {L0 : List Int} {L : List Nat} {xs : List V} {K : PySem.W.Frag} {q : Option Addr} {o : HO}
theorem extN_upd (s : ExtN B H) (hB : ∀ o, B ps = some o → ∃ φ, o = .ext φ) (e : H ps = some (.lst xs)) : ExtN B (upd H ps o) := fun b u z n => by
  have nb : b ≠ ps := fun y => by
    subst y
    obtain ⟨φ, rfl⟩ := hB u z
    have z2 := s _ _ z fun _ z => nomatch z
    rw [e] at z2; cases z2
  rw [upd_ne nb]; exact s b u z n
theorem LogI.clear (h : LogI B ps pb val L0 L H) (hB : ∀ o, B ps = some o → ∃ φ, o = .ext φ) (nb : ps ≠ pb) : LogI B ps pb val [] [] (upd H ps (.lst [])) :=
  ⟨extN_upd h.1 hB h.2.1, upd_same, by rw [upd_ne nb.symm]; exact h.2.2⟩
/-- what was asked for is the start of what follows -/
theorem LogI.again (h : LogI B ps pb val L0 L H) : LogI B ps pb val (L0 ++ L.map Int.ofNat) [] H := ⟨h.1, by simpa using h.2.1, h.2.2⟩
theorem SameX.upd (s : SameX (some ps) H H') : SameX (some ps) H (upd H' ps (.lst xs)) := by
  obtain ⟨ys, e⟩ := s.isl' ps rfl
  refine s.trans (SameX.of s.isl' (fun p z => by cases z; exact ⟨_, upd_same⟩) fun b o n e => ?_)
  rw [upd_ne fun z => n (by rw [z])]; exact e
theorem SameX.seqO (h : SqL K H a xs) (s0 : Same H H0) (hps : H ps = none) (s : SameX (some ps) H0 H') : SqL K H' a xs := by
  have ne : ∀ {o}, H a = some o → (some ps : Option Addr) ≠ some a := fun {o} e z => by cases z; rw [hps] at e; cases e
  rcases h with (z | ⟨o, z⟩) | z
  · exact .inl (.inl (s.get (ne z) (s0.get z)))
  · exact .inl (.inr ⟨o, s.get (ne z) (s0.get z)⟩)
  · exact .inr z
end
/-- the list that changes is new -/
theorem SameX.fresh {H H1 H' : Hp} {ps : Addr} (s : Same H H1) (h : H ps = none) (x : SameX (some ps) H1 H') : Same H H' :=
  ⟨fun b o e n => x.keep b o (fun z => by cases z; rw [h] at e; cases e) (s.keep b o e n) n, fun b e => s.gone b (x.gone b e), fun P t => x.tabs P (s.tabs P t)⟩
theorem LogI.start {H H1 : Hp} {ps pb : Addr} {val : List V} {L0 : List Int} (e : H1 ps = some (.lst (L0.map V.int))) (b : H1 pb = some (.lst val)) : LogI (newOf H H1) ps pb val L0 [] H1 :=
  ⟨newOf_extN (ExtN.refl _), by simpa using e, b⟩
/-- the same, of places that are there alone -/
def LogLookN (CL : CLs) (j : Nat) (g ps pb : Addr) (val : List V) (B : Hp) : Prop :=
  ∀ H', ExtN B H' → IsFn H' g ∧ ∀ (L : List Int) (k : Nat) (x : V) (Q : VK), H' ps = some (.lst (L.map V.int)) → L.length < 100000 → H' pb = some (.lst val) → val[k]? = some x → Q x (upd H' ps (.lst ((L ++ [(k : Int)]).map V.int))) → CL.run j g [.int (k : Int)] H' Q
theorem LogLookN.ext {CL : CLs} {j : Nat} {g ps pb : Addr} {val : List V} {B B' : Hp} (p : LogLookN CL j g ps pb val B) (s : ExtN B B') : LogLookN CL j g ps pb val B' := fun H' s2 => p H' (s.trans s2)
theorem LogLookN.lookR {CL : CLs} {j : Nat} {g ps pb : Addr} {val : List V} {B : Hp} {L0 : List Int} (p : LogLookN CL j g ps pb val B) (hj : j ≤ 9) (hB : ∀ o, B ps = some o → ∃ φ, o = .ext φ) (nb : ps ≠ pb) (hl : L0.length ≤ 90000) :
    LookR CL g val.length (fun k => val.getD k .non) (some ps) (LogI B ps pb val L0) where
  fn := fun h => (p _ h.1).1
  isq := fun h p z => by cases z; exact ⟨_, h.2.1⟩
  ext := fun h s => ⟨h.1.trans s.extN, s.get h.2.1, s.get h.2.2⟩
  ask := fun {L H k Q} h hL hk q => by
    refine CL.mono hj ((p _ h.1).2 _ k (val.getD k .non) Q h.2.1 (by rw [List.length_append, List.length_map]; omega) h.2.2 (by rw [List.getD_eq_getElem?_getD, List.getElem?_eq_getElem hk]; rfl) ?_)
    refine q _ ⟨extN_upd h.1 hB h.2.1, ?_, ?_⟩ (SameX.of (fun p z => by cases z; exact ⟨_, h.2.1⟩) (fun p z => by cases z; exact ⟨_, upd_same⟩) fun b o n e => ?_)
    · rw [upd_same, List.map_append (f := Int.ofNat), ← List.append_assoc]; rfl
    · rw [upd_ne nb.symm]; exact h.2.2
    · rw [upd_ne fun z => n (by rw [z])]; exact e
end Tw
open PySem PySem.Spec PyProof.Rows L2 Tw
set_option hygiene false in
local macro_rules | `(tactic| walk_at "s1") => `(tactic| first
  | with_reducible refine m_seq ?_
  | with_reducible refine k_asg ?_
  | with_reducible refine m_asg ?_
  | ((with_reducible refine' k_var ?kv ?_); case kv => walk_at "look")
  | with_reducible refine k_c ?_
  | with_reducible refine k_op ?_
  | with_reducible refine k_I0 ?_
  | ((with_reducible refine k_I ?kv ?_); case kv => walk_at "cond")
  | with_reducible refine k_and1 ?_
  | with_reducible refine k_eqI ?_
  | with_reducible refine k_neI ?_
  | ((with_reducible refine k_eq ?kv ?_); case kv => exact rfl)
  | ((with_reducible refine k_ne ?kv ?_); case kv => exact rfl)
  | with_reducible refine k_isN ?_
  | with_reducible refine k_notN ?_
  | with_reducible refine k_nx ?_
  | with_reducible refine k_rt ?_
  | with_reducible refine m_next ?_
  | with_reducible refine m_bk ?_
  | with_reducible refine m_ct ?_
  | with_reducible refine k_if ?_
  | with_reducible refine k_test ?_
  | with_reducible refine k_tB ?_
  | with_reducible refine k_bl ?_
  | with_reducible refine k_chain ?_
  | with_reducible refine k_chainE ?_
  | with_reducible refine k_not ?_
  | with_reducible refine k_and ?_
  | with_reducible refine k_or ?_
  | with_reducible refine k_andV ?_
  | with_reducible refine k_orV ?_
  | with_reducible refine k_notV ?_
  | with_reducible refine k_ifE ?_
  | with_reducible refine k_ret ?_
  | with_reducible refine k_retN ?_
  | with_reducible refine k_drop ?_
  | with_reducible refine k_cons ?_
  | with_reducible refine k_nil ?_
  | with_reducible refine m_call ?_
  | with_reducible refine m_callS ?_
  | with_reducible refine k_rz ?_
  | with_reducible refine m_tryAs ?_
  | with_reducible refine m_tryOnly ?_
  | with_reducible refine m_tryM ?_
  | with_reducible refine k_cb ?_
  | with_reducible refine k_tup ?_
  | with_reducible refine k_lst ?_
  | ((with_reducible refine' k_aug ?kv ?_); case kv => exact rfl)
  | with_reducible refine k_ipI ?_
  | with_reducible refine k_un ?_
  | with_reducible refine k_U ?_
  | with_reducible refine k_sl ?_
  | with_reducible refine k_part ?_
  | with_reducible refine k_noPart ?_
  | with_reducible refine k_partE ?_
  | with_reducible refine k_bm ?_
  | with_reducible refine k_bm0 ?_
  | with_reducible refine k_isInt ?_
  | with_reducible refine k_isBool ?_
  | with_reducible refine k_min2 ?_
  | with_reducible refine k_max2 ?_
  | with_reducible refine m_gName ?_
  | with_reducible refine m_for ?_
  | with_reducible refine m_rng1 ?_
  | ((with_reducible refine m_rng1n ?kv ?_); case kv => walk_at "arith")
  | ((with_reducible refine m_rng1e ?kv ?_); case kv => walk_at "arith")
  | with_reducible refine m_rng2 ?_
  | ((with_reducible refine m_rng2e ?kv ?_); case kv => walk_at "arith")
  | with_reducible refine m_iL ?_
  | with_reducible refine m_iT ?_
  | with_reducible refine m_lc ?_
  | ((with_reducible refine k_disp ?kv ?_); case kv => (first | decide | (simp only [List.length_cons, List.length_nil]; omega)))
  | with_reducible refine m_rev ?_
  | with_reducible refine m_revL ?_
  | with_reducible refine m_enum ?_
  | with_reducible refine m_zip ?_
  | with_reducible refine m_rng3 ?_
  | with_reducible refine m_gCons ?_
  | with_reducible refine m_gNil ?_
  | with_reducible refine m_gSub ?_
  | with_reducible refine m_par ?_
  | with_reducible refine m_parE ?_
  | with_reducible refine m_wbody ?_
  | with_reducible refine m_lenSet ?_
  | with_reducible refine m_minD ?_
  | ((with_reducible refine' m_callV ?kv ?kf ?_); (case kv => walk_at "look"); (case kf => walk_at "isfn"))
  | with_reducible refine k_yes ?_
  | with_reducible refine k_T ?_
  | with_reducible refine k_F ?_
  | with_reducible refine k_nT ?_
  | with_reducible refine k_nF ?_)
local macro_rules | `(tactic| walk_at "cond") => `(tactic| first | exact ⟨by decide, by decide⟩ | omega | decide | exact ⟨by omega, by omega⟩ | exact ⟨by omega, by omega, by decide⟩ | exact Or.inr (by omega) | exact Or.inr (by decide) | exact Or.inl (by omega) | exact Or.inl (by decide) | assumption)
local macro_rules | `(tactic| walk_at "st") => `(tactic| repeat (walk_at "s1"))
local macro_rules | `(tactic| walk_at "look") => `(tactic| first | exact rfl | (simp only [List.getElem?_set, List.getElem?_cons_zero, List.getElem?_cons_succ]; exact rfl))
local macro_rules | `(tactic| walk_at "if") => `(tactic| first | with_reducible apply k_dec | with_reducible apply k_ndec)
local macro_rules | `(tactic| walk_at "arith") => `(tactic| first | decide | omega | (simp only [List.length_map, List.length_take, List.length_drop, List.length_append, List.length_cons, List.length_nil] at *; first | omega | (split <;> omega) | (split <;> split <;> omega)))
local macro_rules | `(tactic| walk_at "isfn") => `(tactic| assumption)
namespace Tw
structure KFx (K : PySem.W.Frag) : Prop where
  ec_NoBit : ExcC K (He.ga K "NoBit")
  kt_NoBit : PySem.W.kitOne K (.ref (He.ga K "NoBit")) (.type "ValueError") = some true
  k_NoBit_NoBit : PySem.W.kitOne K (.ref (He.ga K "NoBit")) (.ref (He.ga K "NoBit")) = some true
  e_NoBit_NoBit : PySem.W.exmOne K (.ref (He.ga K "NoBit")) (.ref (He.ga K "NoBit")) = some true
  k_NoBit_NoPlace : PySem.W.kitOne K (.ref (He.ga K "NoBit")) (.ref (He.ga K "NoPlace")) = some false
  e_NoBit_NoPlace : PySem.W.exmOne K (.ref (He.ga K "NoBit")) (.ref (He.ga K "NoPlace")) = some false
  k_NoBit_TooMany : PySem.W.kitOne K (.ref (He.ga K "NoBit")) (.ref (He.ga K "TooMany")) = some false
  e_NoBit_TooMany : PySem.W.exmOne K (.ref (He.ga K "NoBit")) (.ref (He.ga K "TooMany")) = some false
  ec_NoPlace : ExcC K (He.ga K "NoPlace")
  kt_NoPlace : PySem.W.kitOne K (.ref (He.ga K "NoPlace")) (.type "ValueError") = some true
  k_NoPlace_NoBit : PySem.W.kitOne K (.ref (He.ga K "NoPlace")) (.ref (He.ga K "NoBit")) = some false
  e_NoPlace_NoBit : PySem.W.exmOne K (.ref (He.ga K "NoPlace")) (.ref (He.ga K "NoBit")) = some false
  k_NoPlace_NoPlace : PySem.W.kitOne K (.ref (He.ga K "NoPlace")) (.ref (He.ga K "NoPlace")) = some true
  e_NoPlace_NoPlace : PySem.W.exmOne K (.ref (He.ga K "NoPlace")) (.ref (He.ga K "NoPlace")) = some true
  k_NoPlace_TooMany : PySem.W.kitOne K (.ref (He.ga K "NoPlace")) (.ref (He.ga K "TooMany")) = some false
  e_NoPlace_TooMany : PySem.W.exmOne K (.ref (He.ga K "NoPlace")) (.ref (He.ga K "TooMany")) = some false
  ec_TooMany : ExcC K (He.ga K "TooMany")
  kt_TooMany : PySem.W.kitOne K (.ref (He.ga K "TooMany")) (.type "ValueError") = some true
  k_TooMany_NoBit : PySem.W.kitOne K (.ref (He.ga K "TooMany")) (.ref (He.ga K "NoBit")) = some false
  e_TooMany_NoBit : PySem.W.exmOne K (.ref (He.ga K "TooMany")) (.ref (He.ga K "NoBit")) = some false
  k_TooMany_NoPlace : PySem.W.kitOne K (.ref (He.ga K "TooMany")) (.ref (He.ga K "NoPlace")) = some false
  e_TooMany_NoPlace : PySem.W.exmOne K (.ref (He.ga K "TooMany")) (.ref (He.ga K "NoPlace")) = some false
  k_TooMany_TooMany : PySem.W.kitOne K (.ref (He.ga K "TooMany")) (.ref (He.ga K "TooMany")) = some true
  e_TooMany_TooMany : PySem.W.exmOne K (.ref (He.ga K "TooMany")) (.ref (He.ga K "TooMany")) = some true

/-- _law_whole(x) -/
def sp_law_whole (_ : PySem.W.Frag) : Sp := fun vs H Q _ => ∃ x : V, vs = [x] ∧ ((∃ n : Int, x = .int n ∧ Q (.bl true) H) ∨ (x = .non ∧ Q (.bl false) H))
theorem whole_int {K : PySem.W.Frag} {H : Hp} {Q : VK} {E : XK} {n : Int} (q : Q (.bl true) H) : sp_law_whole K [.int n] H Q E := ⟨_, rfl, .inl ⟨n, rfl, q⟩⟩
theorem whole_non {K : PySem.W.Frag} {H : Hp} {Q : VK} {E : XK} (q : Q (.bl false) H) : sp_law_whole K [.non] H Q E := ⟨_, rfl, .inr ⟨rfl, q⟩⟩
theorem len_law_whole (K : PySem.W.Frag) : ∀ vs H Q E, sp_law_whole K vs H Q E → vs.length = 1 := by
  rintro vs H Q E ⟨x, rfl, _⟩; rfl
def t_law_whole (K : PySem.W.Frag) : TS :=
  (tRet (tAndV (tCB rIsB (tCons (tVar 0) (tCons (tC (.ty "int")) tNil))) (tNotV (tCB rIsB (tCons (tVar 0) (tCons (tC (.ty "bool")) tNil))))))
abbrev n_law_whole : List Str := ["_law_found"]

theorem rd_law_whole (K : PySem.W.Frag) (vs : List V) (H : Hp) (Q : VK) (E : XK) (h : sp_law_whole K vs H Q E) : t_law_whole K { nx := fun _ H' => Q .non H', rt := Q } (start n_law_whole vs) H := by
  obtain ⟨x, rfl, (⟨n, rfl, q⟩ | ⟨rfl, q⟩)⟩ := h
  · unfold t_law_whole
    walk_at "st"
    exact q
  · unfold t_law_whole
    walk_at "st"
    refine k_isIntN ?_
    walk_at "st"
    exact q

/-- _law_cell_at(script, k) -/
def sp_law_cell_at (K : PySem.W.Frag) : Sp := fun vs H Q _ => ∃ (a : Addr) (ns : List Int) (k : Int), vs = [.ref a, .int k] ∧ SqL K H a (ns.map V.int) ∧ 0 ≤ k ∧ ∀ c : Int, c = ns.getD k.toNat 0 → Q (.int c) H
theorem len_law_cell_at (K : PySem.W.Frag) : ∀ vs H Q E, sp_law_cell_at K vs H Q E → vs.length = 2 := by
  rintro vs H Q E ⟨x, y, z, rfl, _⟩; rfl
def t_law_cell_at (K : PySem.W.Frag) : TS :=
  (tSeq (tIfS (tTest (tOp rLt (tVar 1) (tCB (rLen K) (tCons (tVar 0) tNil))))
  (tRet (tOp (rIxL K) (tVar 0) (tVar 1)))
  tNext)
  (tRet (tC (.int 0))))
abbrev n_law_cell_at : List Str := ["_law_script", "_law_k"]

theorem rd_law_cell_at (K : PySem.W.Frag) (vs : List V) (H : Hp) (Q : VK) (E : XK) (h : sp_law_cell_at K vs H Q E) : t_law_cell_at K { nx := fun _ H' => Q .non H', rt := Q } (start n_law_cell_at vs) H := by
  obtain ⟨a, ns, k, rfl, hS, hk, q⟩ := h
  unfold t_law_cell_at
  walk_at "st"
  refine k_lenL hS ?_
  walk_at "st"
  rw [List.length_map]
  walk_at "if" <;> intro c
  · walk_at "st"
    have hlt : k.toNat < ns.length := by omega
    refine k_ixL hS (at_int hk (mapint (List.getElem?_eq_getElem hlt))) ?_
    walk_at "st"
    exact q _ (by rw [List.getD_eq_getElem?_getD, List.getElem?_eq_getElem hlt]; rfl)
  · walk_at "st"
    exact q _ (by rw [List.getD_eq_getElem?_getD, List.getElem?_eq_none (by omega)]; rfl)
theorem call_cell_at {K : PySem.W.Frag} {H : Hp} {Q : VK} {E : XK} {a : Addr} {ns : List Int} {k : Int} (hS : SqL K H a (ns.map V.int)) (hk : 0 ≤ k) (q : ∀ c : Int, c = ns.getD k.toNat 0 → Q (.int c) H) : sp_law_cell_at K [.ref a, .int k] H Q E :=
  ⟨a, ns, k, rfl, hS, hk, q⟩

/-- cuts, joins and repeats of lists of ints -/
theorem k_slTake {K : PySem.W.Frag} {H : Hp} {Q : VK} {p : Addr} {bs : List Int} {k : Nat} (h : SqL K H p (bs.map V.int)) (q : ∀ l H', H l = none → Same H H' → H' l = some (.lst ((bs.take k).map V.int)) → Q (.ref l) H') : rSlL K (.ref p) none (some (k : Int)) H Q := by
  refine k_slL h fun l hl => ?_
  rw [cutTake, ← List.map_take]
  exact q l _ hl (same_new hl) upd_same
theorem k_slDrop {K : PySem.W.Frag} {H : Hp} {Q : VK} {p : Addr} {bs : List Int} {k : Nat} (h : SqL K H p (bs.map V.int)) (q : ∀ l H', H l = none → Same H H' → H' l = some (.lst ((bs.drop k).map V.int)) → Q (.ref l) H') : rSlL K (.ref p) (some (k : Int)) none H Q := by
  refine k_slL h fun l hl => ?_
  rw [cutDrop, ← List.map_drop]
  exact q l _ hl (same_new hl) upd_same
theorem new_both {H : Hp} {p : Addr} {o : HO} (h : H p = none) : Same H (upd H p o) ∧ (upd H p o) p = some o := ⟨same_new h, upd_same⟩
theorem k_catI {H : Hp} {Q : VK} {a b : Addr} {xs ys : List Int} (h1 : H a = some (.lst (xs.map V.int))) (h2 : H b = some (.lst (ys.map V.int))) (hn : xs.length + ys.length ≤ 1000000) (q : ∀ l H', H l = none → Same H H' → H' l = some (.lst ((xs ++ ys).map V.int)) → Q (.ref l) H') : rCat (.ref a) (.ref b) H Q := by
  refine k_cat h1 h2 (by rw [List.length_map, List.length_map]; exact hn) fun p hp => ?_
  rw [← List.map_append]
  exact q p _ hp (same_new hp) upd_same
theorem k_catKI {K : PySem.W.Frag} {H : Hp} {Q : VK} {a b : Addr} {xs ys : List Int} (h1 : SqL K H a (xs.map V.int)) (h2 : SqL K H b (ys.map V.int)) (hn : xs.length + ys.length ≤ 1000000) (q : ∀ l H', H l = none → Same H H' → H' l = some (.lst ((xs ++ ys).map V.int)) → Q (.ref l) H') : rCatK K (.ref a) (.ref b) H Q := by
  refine k_catK h1 h2 (by rw [List.length_map, List.length_map]; exact hn) fun p hp => ?_
  rw [← List.map_append]
  exact q p _ hp (same_new hp) upd_same
theorem k_repI {H : Hp} {Q : VK} {a : Addr} {xs : List Int} {n : Int} (h : H a = some (.lst (xs.map V.int))) (h0 : 0 ≤ n ∧ n ≤ 1000000) (hn : xs.length * n.toNat ≤ 1000000) (q : ∀ l H' (cs : List Int), H l = none → Same H H' → cs = (List.replicate n.toNat xs).flatten → cs.length = n.toNat * xs.length → H' l = some (.lst (cs.map V.int)) → Q (.ref l) H') : rRep (.ref a) (.int n) H Q := by
  obtain ⟨m, rfl⟩ := Int.eq_ofNat_of_zero_le h0.1
  rw [Int.toNat_natCast] at hn q
  refine k_rep h (by rw [List.length_map]; exact hn) (by omega) fun p hp => ?_
  have e : (List.replicate m (xs.map V.int)).flatten = ((List.replicate m xs).flatten).map V.int := by
    rw [List.map_flatten, List.map_replicate]
  rw [e]
  refine q p _ _ hp (same_new hp) rfl ?_ upd_same
  rw [List.length_flatten, List.map_replicate, List.sum_replicate_nat]
/-- a number in a tuple of numbers -/
theorem k_inT {K : PySem.W.Frag} {H : Hp} {Q : VK} {p : Addr} {x : Int} {xs : List V} (h : H p = some (.tup xs)) (hf : xs.all flatV = true) (q : ∀ b, Q (.bl b) H) : rIn K false (.int x) (.ref p) H Q := ⟨p, xs, rfl, .inr (.of h), rfl, hf, q _⟩

/-! ### bits of a number -/
/-- the bit k of b -/
def bit (b : Int) (k : Nat) : Int := b / 2 ^ k % 2
theorem bit_cases (b : Int) (k : Nat) : bit b k = 0 ∨ bit b k = 1 := by unfold bit; omega
/-- the ones among the first n bits -/
def onesIn (b : Int) : Nat → Int
  | 0 => 0
  | n + 1 => onesIn b n + bit b n
theorem onesIn_mono1 (b : Int) (n : Nat) : onesIn b n ≤ onesIn b (n + 1) ∧ onesIn b (n + 1) ≤ onesIn b n + 1 := by
  show onesIn b n ≤ onesIn b n + bit b n ∧ onesIn b n + bit b n ≤ _
  have := bit_cases b n; omega
theorem onesIn_mono (b : Int) (n m : Nat) (h : n ≤ m) : onesIn b n ≤ onesIn b m := by
  induction m with
  | zero => have : n = 0 := by omega
            subst this; exact Int.le_refl _
  | succ m ih =>
    rcases Nat.lt_or_ge m n with q | q
    · have : n = m + 1 := by omega
      subst this; exact Int.le_refl _
    · have := ih q; have := onesIn_mono1 b m; omega
theorem onesIn_range (b : Int) (n : Nat) : 0 ≤ onesIn b n ∧ onesIn b n ≤ n := by
  induction n with
  | zero => exact ⟨Int.le_refl _, Int.le_refl _⟩
  | succ n ih => have := onesIn_mono1 b n; omega
theorem sum_range_succ (f : Nat → Int) (n : Nat) : ((List.range (n + 1)).map f).sum = ((List.range n).map f).sum + f n := by
  rw [List.range_succ, List.map_append, List.sum_append]; simp
theorem onesIn_sum (b : Int) (n : Nat) : ((List.range n).map fun k => bit b k).sum = onesIn b n := by
  induction n with
  | zero => rfl
  | succ n ih => rw [sum_range_succ, ih]; rfl
theorem halve (b : Int) (k : Nat) : b / 2 ^ k / 2 = b / 2 ^ (k + 1) := by
  rw [Int.pow_succ, Int.ediv_ediv_of_nonneg]
  exact Int.le_of_lt (Int.pow_pos (by decide))

/-! ### rows and blocks -/
/-- all items are bits -/
def Bits (bs : List Int) : Prop := ∀ b ∈ bs, b = 0 ∨ b = 1
/-- the block of some bits (the first one counting 1) -/
def blk : List Int → Int
  | [] => 0
  | b :: bs => b + 2 * blk bs
/-- the row of bits bs as blocks, so many -/
def blksN (bs : List Int) : Nat → List Int
  | 0 => []
  | n + 1 => blk (bs.take 32) :: blksN (bs.drop 32) n
/-- the blocks of a row -/
def blks (bs : List Int) : List Int := blksN bs ((bs.length + 31) / 32)
theorem blksN_len (bs : List Int) (n : Nat) : (blksN bs n).length = n := by
  induction n generalizing bs with
  | zero => rfl
  | succ n ih => show (blksN (bs.drop 32) n).length + 1 = n + 1; rw [ih]
theorem blks_len (bs : List Int) : (blks bs).length = (bs.length + 31) / 32 := blksN_len _ _
theorem blksN_get (bs : List Int) (n j : Nat) (h : j < n) : (blksN bs n)[j]? = some (blk ((bs.drop (32 * j)).take 32)) := by
  induction n generalizing bs j with
  | zero => omega
  | succ n ih =>
    cases j with
    | zero => rfl
    | succ j =>
      show (blksN (bs.drop 32) n)[j]? = _
      rw [ih (bs.drop 32) j (by omega), List.drop_drop, show 32 + 32 * j = 32 * (j + 1) by omega]
theorem blks_get (bs : List Int) (j : Nat) (h : j < (bs.length + 31) / 32) : (blks bs)[j]? = some (blk ((bs.drop (32 * j)).take 32)) := blksN_get _ _ _ h
theorem blk_range : ∀ bs : List Int, Bits bs → 0 ≤ blk bs ∧ blk bs < 2 ^ bs.length
  | [], _ => ⟨Int.le_refl _, by decide⟩
  | b :: bs, h => by
    obtain ⟨h1, h2⟩ := blk_range bs fun x hx => h x (List.mem_cons_of_mem _ hx)
    have h3 := h b List.mem_cons_self
    have e : (2 : Int) ^ (bs.length + 1) = 2 ^ bs.length * 2 := Int.pow_succ ..
    show 0 ≤ b + 2 * blk bs ∧ b + 2 * blk bs < 2 ^ (bs.length + 1)
    omega
/-- a bit of a block -/
theorem bit_blk : ∀ (bs : List Int) (k : Nat), Bits bs → bit (blk bs) k = bs.getD k 0
  | [], k, _ => by
    show (0 : Int) / 2 ^ k % 2 = _
    rw [Int.zero_ediv]; rfl
  | b :: bs, 0, h => by
    have h3 := h b List.mem_cons_self
    show (b + 2 * blk bs) / 2 ^ 0 % 2 = b
    simp; omega
  | b :: bs, k + 1, h => by
    have h3 := h b List.mem_cons_self
    have ih := bit_blk bs k fun x hx => h x (List.mem_cons_of_mem _ hx)
    show (b + 2 * blk bs) / 2 ^ (k + 1) % 2 = (b :: bs).getD (k + 1) 0
    rw [List.getD_cons_succ, ← ih]
    show _ = blk bs / 2 ^ k % 2
    have e : (b + 2 * blk bs) / 2 = blk bs := by omega
    rw [show (2 : Int) ^ (k + 1) = 2 * 2 ^ k by rw [Int.pow_succ, Int.mul_comm], ← Int.ediv_ediv_of_nonneg (by decide), e]
theorem Bits.sub {bs cs : List Int} (h : Bits bs) (s : ∀ x ∈ cs, x ∈ bs) : Bits cs := fun x hx => h x (s x hx)
theorem Bits.take {bs : List Int} (h : Bits bs) (n : Nat) : Bits (bs.take n) := h.sub fun _ hx => List.mem_of_mem_take hx
theorem Bits.drop {bs : List Int} (h : Bits bs) (n : Nat) : Bits (bs.drop n) := h.sub fun _ hx => List.mem_of_mem_drop hx
/-- a row's blocks: each below 2 ^ 32 -/
theorem blks_range {bs : List Int} (h : Bits bs) {j : Nat} {b : Int} (e : (blks bs)[j]? = some b) : 0 ≤ b ∧ b < 4294967296 := by
  have hj : j < (bs.length + 31) / 32 := by
    have := (List.getElem?_eq_some_iff.mp e).1
    rw [blks_len] at this; exact this
  rw [blks_get bs j hj] at e
  obtain rfl := Option.some.inj e
  obtain ⟨h1, h2⟩ := blk_range _ ((h.drop (32 * j)).take 32)
  refine ⟨h1, Int.lt_of_lt_of_le h2 ?_⟩
  have : ((bs.drop (32 * j)).take 32).length ≤ 32 := by rw [List.length_take]; omega
  show (2 : Int) ^ _ ≤ 2 ^ 32
  exact_mod_cast Nat.pow_le_pow_right (show 0 < 2 by decide) this
/-- bit k of block j is bit 32 * j + k of the row -/
theorem bit_blks {bs : List Int} (h : Bits bs) {j : Nat} {b : Int} (e : (blks bs)[j]? = some b) {k : Nat} (hk : k < 32) : bit b k = bs.getD (32 * j + k) 0 := by
  have hj : j < (bs.length + 31) / 32 := by
    have := (List.getElem?_eq_some_iff.mp e).1
    rw [blks_len] at this; exact this
  rw [blks_get bs j hj] at e
  obtain rfl := Option.some.inj e
  rw [bit_blk _ _ ((h.drop (32 * j)).take 32), List.getD_eq_getElem?_getD, List.getD_eq_getElem?_getD, List.getElem?_take, if_pos hk, List.getElem?_drop]
/-- blocks are alike where their bits are -/
theorem blk_ext {x y : Int} (hx : 0 ≤ x ∧ x < 4294967296) (hy : 0 ≤ y ∧ y < 4294967296) (h : ∀ k, k < 32 → bit x k = bit y k) : x = y := by
  have key : ∀ n : Nat, n ≤ 32 → x / 2 ^ (32 - n) = y / 2 ^ (32 - n) := by
    intro n
    induction n with
    | zero =>
      intro _
      rw [Int.ediv_eq_zero_of_lt hx.1 (by exact hx.2), Int.ediv_eq_zero_of_lt hy.1 (by exact hy.2)]
    | succ n ih =>
      intro hn
      have h1 := ih (by omega)
      have h2 := h (32 - (n + 1)) (by omega)
      unfold bit at h2
      have e : 32 - n = (32 - (n + 1)) + 1 := by omega
      rw [e, ← halve, ← halve] at h1
      omega
  have := key 32 (Nat.le_refl _)
  rw [Nat.sub_self, Int.pow_zero, Int.ediv_one, Int.ediv_one] at this
  exact this

/-- blocks filled with the first i bits, zeroes behind -/
def part (bs : List Int) (n i : Nat) : List Int := blksN (bs.take i) n
theorem blk_nil : blk [] = 0 := rfl
theorem blk_snoc : ∀ (bs : List Int) (b : Int), blk (bs ++ [b]) = blk bs + b * 2 ^ bs.length
  | [], b => by show b + 2 * 0 = 0 + b * 2 ^ 0; simp
  | c :: bs, b => by
    show c + 2 * blk (bs ++ [b]) = c + 2 * blk bs + b * 2 ^ (bs.length + 1)
    rw [blk_snoc bs b, Int.pow_succ, Int.mul_add, ← Int.mul_assoc 2 b, Int.mul_comm 2 b, Int.mul_assoc b, Int.mul_comm 2 (2 ^ bs.length), Int.add_assoc]
theorem part_zero (bs : List Int) (n : Nat) : part bs n 0 = List.replicate n 0 := by
  unfold part
  rw [List.take_zero]
  induction n with
  | zero => rfl
  | succ n ih => show blk [] :: blksN [] n = _; rw [ih]; rfl
theorem part_full (bs : List Int) : part bs ((bs.length + 31) / 32) bs.length = blks bs := by
  unfold part blks; rw [List.take_length]
theorem part_len (bs : List Int) (n i : Nat) : (part bs n i).length = n := blksN_len _ _
theorem part_get (bs : List Int) (n i j : Nat) (h : j < n) : (part bs n i)[j]? = some (blk (((bs.take i).drop (32 * j)).take 32)) := blksN_get _ _ _ h
/-- one bit more: only its own block turns -/
theorem part_succ {bs : List Int} {n i : Nat} {b : Int} (hb : bs[i]? = some b) (hn : i / 32 < n) :
    part bs n (i + 1) = (part bs n i).set (i / 32) ((part bs n i).getD (i / 32) 0 + b * 2 ^ (i % 32)) := by
  have hi : i < bs.length := (List.getElem?_eq_some_iff.mp hb).1
  apply List.ext_getElem?
  intro j
  rw [List.getElem?_set, part_len]
  rcases Nat.lt_or_ge j n with hj | hj
  · rw [part_get _ _ _ _ hj]
    have et : bs.take (i + 1) = bs.take i ++ [b] := by rw [List.take_add_one, hb]; rfl
    have hl : (bs.take i).length = i := by rw [List.length_take]; omega
    rw [et]
    by_cases h : i / 32 = j
    · subst h
      rw [if_pos rfl, if_pos hn, List.getD_eq_getElem?_getD, part_get _ _ _ _ hn]
      have hd : ((bs.take i).drop (32 * (i / 32))).length = i % 32 := by rw [List.length_drop, hl]; omega
      have e2 : ((bs.take i).drop (32 * (i / 32))).take 32 = (bs.take i).drop (32 * (i / 32)) := List.take_of_length_le (by rw [hd]; omega)
      have e1 : ((bs.take i).drop (32 * (i / 32)) ++ [b]).take 32 = (bs.take i).drop (32 * (i / 32)) ++ [b] := List.take_of_length_le (by rw [List.length_append, hd]; simp; omega)
      rw [List.drop_append_of_le_length (by rw [hl]; omega), e1, e2, blk_snoc, hd]
      rfl
    · rw [if_neg h, part_get _ _ _ _ hj]
      congr 2
      rcases Nat.lt_or_ge j (i / 32) with l | l
      · rw [List.drop_append_of_le_length (by rw [hl]; omega), List.take_append_of_le_length (by rw [List.length_drop, hl]; omega)]
      · rw [List.drop_of_length_le (by rw [List.length_append, hl]; simp; omega), List.drop_of_length_le (by rw [hl]; omega)]
  · rw [List.getElem?_eq_none (by rw [part_len]; exact hj), if_neg (by omega), List.getElem?_eq_none (by rw [part_len]; exact hj)]
theorem part_range_take {bs : List Int} {i : Nat} (h : Bits (bs.take i)) {n j : Nat} (hj : j < n) (hi : i % 32 = i - 32 * j) (hij : 32 * j ≤ i) : 0 ≤ (part bs n i).getD j 0 ∧ (part bs n i).getD j 0 < 2 ^ (i % 32) := by
  rw [List.getD_eq_getElem?_getD, part_get _ _ _ _ hj]
  obtain ⟨h1, h2⟩ := blk_range _ ((h.drop (32 * j)).take 32)
  refine ⟨h1, Int.lt_of_lt_of_le h2 ?_⟩
  have : (((bs.take i).drop (32 * j)).take 32).length ≤ i % 32 := by rw [List.length_take, List.length_drop, List.length_take]; omega
  exact_mod_cast Nat.pow_le_pow_right (show 0 < 2 by decide) this
/-- a bit above a number -/
theorem or_high {x : Int} {k : Nat} (h0 : 0 ≤ x) (h1 : x < 2 ^ k) : Builtin.bitOr x (1 * 2 ^ k) = x + 1 * 2 ^ k := by
  have e := or_low (q := 1) (r := x) (k := k) (by decide) h0 h1
  rw [bitOr_nn h0 (by rw [Int.one_mul]; exact Int.le_of_lt (Int.pow_pos (by decide))), Nat.or_comm, ← bitOr_nn (by rw [Int.one_mul]; exact Int.le_of_lt (Int.pow_pos (by decide))) h0, e, Int.add_comm]

/-- packed(bits) -/
def sp_packed (K : PySem.W.Frag) : Sp := fun vs H Q E => ∃ (a : Addr) (bs : List Int), vs = [.ref a] ∧ SqL K H a (bs.map V.int) ∧ bs.length ≤ 100000 ∧
  (bs.length > 4096 → E (.ref (He.ga K "TooMany")) none H) ∧
  (bs.length ≤ 4096 → ¬ Bits bs → ∀ H', Same H H' → E (.ref (He.ga K "NoBit")) none H') ∧
  (bs.length ≤ 4096 → Bits bs → ∀ p H', H p = none → Same H H' → H' p = some (.lst ((blks bs).map V.int)) → Q (.ref p) H')
theorem len_packed (K : PySem.W.Frag) : ∀ vs H Q E, sp_packed K vs H Q E → vs.length = 1 := by
  rintro vs H Q E ⟨x, y, rfl, _⟩; rfl
def t_packed (K : PySem.W.Frag) (E : XK) : TS :=
  (tSeq (tIfS (tTest (tOp rGtI (tCB (rLen K) (tCons (tVar 0) tNil)) (tC (.int 4096))))
  (tRz (fun cls d _ H => E cls d H) (He.ga K "TooMany"))
  tNext)
  (tSeq (tAsg (tOp rRep (tLst (tCons (tC (.int 0)) tNil)) (tOp rDiv (tOp rMinus (tOp rPlus (tCB (rLen K) (tCons (tVar 0) tNil)) (tC (.int 32))) (tC (.int 1))) (tC (.int 32)))) (gName 1))
  (tSeq (tFor (iEnum K (tCons (tVar 0) tNil)) (gTup K 2 (gCons (gName 2) (gCons (gName 3) gNil)))
  (tSeq (tIfS (tAnd (tTest (tOp rNe (tVar 3) (tC (.int 0)))) (tTest (tOp rNe (tVar 3) (tC (.int 1)))))
  (tRz (fun cls d _ H => E cls d H) (He.ga K "NoBit"))
  tNext)
  (tIfS (tTest (tOp rEq (tVar 3) (tC (.int 1))))
  (tAsg (tOp rBitOr (tOp (rIxL K) (tVar 1) (tOp rDiv (tVar 2) (tC (.int 32)))) (tOp rShlW (tC (.int 1)) (tOp rMod (tVar 2) (tC (.int 32))))) (gSub (tVar 1) (tOp rDiv (tVar 2) (tC (.int 32))) rSetL))
  tNext)))
  (tRet (tVar 1)))))
abbrev n_packed : List Str := ["bits", "blocks", "at", "bit"]

theorem rd_packed (K : PySem.W.Frag) (vs : List V) (H : Hp) (Q : VK) (E : XK) (h : sp_packed K vs H Q E) : t_packed K E { nx := fun _ H' => Q .non H', rt := Q } (start n_packed vs) H := by
  obtain ⟨a, bs, rfl, hS, hl, q1, q2, q3⟩ := h
  unfold t_packed
  walk_at "st"
  refine k_lenL hS ?_
  walk_at "st"
  rw [List.length_map]
  walk_at "if" <;> intro c1
  · walk_at "st"
    exact q1 (by omega)
  have hm : bs.length ≤ 4096 := by omega
  walk_at "st"
  intro p0 hp0
  walk_at "st"
  refine k_lenL ((same_new hp0).seq hS) ?_
  walk_at "st"
  rw [List.length_map]
  have en : ((bs.length : Int) + 32 - 1) / 32 = (((bs.length + 31) / 32 : Nat) : Int) := by omega
  rw [en]
  refine k_rep (xs := [.int 0]) upd_same (by simp only [List.length_cons, List.length_nil]; omega) (by omega) fun p hp => ?_
  have hp' : H p = none := (same_new hp0).free hp
  have s0 := (same_new hp0).trans (same_new (o := .lst (List.replicate ((bs.length + 31) / 32) [V.int 0]).flatten) hp)
  walk_at "st"
  refine m_enumE (s0.seq hS) ?_
  refine loop_walk walk_enum (fun i σ H' => ∃ y z, σ = [some (.ref a), some (.ref p), y, z] ∧ i ≤ bs.length ∧ Same H H' ∧ H' p = some (.lst ((part bs ((bs.length + 31) / 32) i).map V.int)) ∧ Bits (bs.take i)) ⟨none, none, rfl, Nat.zero_le _, s0, ?_, fun x hx => by simp at hx⟩ (fun i σ H' ⟨y, z, _, _, s, _⟩ => s.seq hS) ?_ ?_
  · rw [upd_same, part_zero, List.map_replicate, rep_one]
  · rintro i v σ H1 H2 hi ⟨y, z, rfl, _, s, e, hb⟩ ⟨T, x, w, rfl, hT, rfl, ex, ew⟩
    rw [List.length_map] at hi
    obtain ⟨b, hbi, rfl⟩ := of_mapint ew
    obtain rfl : x = .int (i : Nat) := (Option.some.inj ex).symm
    have npT : p ≠ T := ne_of_none e hT
    have s2 : Same H (upd H1 T (.tup [.int (i : Nat), .int b])) := s.trans (same_new hT)
    have e2 : (upd H1 T (.tup [.int (i : Nat), .int b])) p = some (.lst ((part bs ((bs.length + 31) / 32) i).map V.int)) := by rw [upd_ne npT]; exact e
    refine m_gTup (.of upd_same) rfl ?_
    walk_at "st"
    have nobit : ∀ (c : ¬ (b = 0 ∨ b = 1)), ¬ Bits bs := fun c hB => c (hB b (List.mem_of_getElem? hbi))
    have go : (b = 0 ∨ b = 1) → Bits (bs.take (i + 1)) := by
      intro hb1 q hq
      rw [List.take_add_one, hbi] at hq
      rcases List.mem_append.mp hq with h | h
      · exact hb q h
      · have : q = b := by simpa using h
        subst this; exact hb1
    have hin : i / 32 < (bs.length + 31) / 32 := by omega
    walk_at "if" <;> intro c0
    · walk_at "st"
      walk_at "if" <;> intro c1
      · walk_at "st"
        exact q2 hm (nobit fun z => z.elim c0 c1) _ s2
      · walk_at "st"
        refine k_decT c1 ?_
        obtain rfl : b = 1 := c1
        walk_at "st"
        have hlt : i / 32 < ((part bs ((bs.length + 31) / 32) i)).length := by rw [part_len]; exact hin
        refine k_ixL (.of e2) (at_int (by omega) (i := ((i : Nat) : Int) / 32) (x := .int ((part bs ((bs.length + 31) / 32) i).getD (i / 32) 0)) ?_) ?_
        · rw [show (((i : Nat) : Int) / 32).toNat = i / 32 by omega, List.getD_eq_getElem?_getD, List.getElem?_eq_getElem hlt]
          exact mapint (List.getElem?_eq_getElem hlt)
        walk_at "st"
        have hsh : CShl 1 (((i : Nat) : Int) % 32) := by
          rw [show ((i : Nat) : Int) % 32 = ((i % 32 : Nat) : Int) by omega]
          exact shl_ok (n := 1) (by decide) (by omega)
        refine k_I hsh ?_
        walk_at "st"
        have hr := part_range_take hb (n := (bs.length + 31) / 32) (j := i / 32) hin (by omega) (by omega)
        have eor : Builtin.bitOr ((part bs ((bs.length + 31) / 32) i).getD (i / 32) 0) (1 * 2 ^ (((i : Nat) : Int) % 32).toNat) = (part bs ((bs.length + 31) / 32) i).getD (i / 32) 0 + 1 * 2 ^ (i % 32) := by
          rw [show (((i : Nat) : Int) % 32).toNat = i % 32 by omega]
          exact or_high hr.1 hr.2
        rw [eor]
        refine m_setL e2 (ixN_nat (by omega) (by rw [List.length_map, part_len]; omega)) ?_
        walk_at "st"
        refine ⟨_, _, rfl, hi, Same.mut s2 hp', ?_, go (.inr rfl)⟩
        rw [upd_same, show (((i : Nat) : Int) / 32).toNat = i / 32 by omega, part_succ hbi hin, List.map_set]
    · walk_at "st"
      obtain rfl : b = 0 := c0
      refine k_decF (by decide) ?_
      walk_at "st"
      refine ⟨_, _, rfl, hi, s2, ?_, go (.inl rfl)⟩
      rw [e2, part_succ hbi hin, Int.zero_mul, Int.add_zero]
      congr 2
      have hlt : i / 32 < ((part bs ((bs.length + 31) / 32) i)).length := by rw [part_len]; exact hin
      rw [List.getD_eq_getElem?_getD, List.getElem?_eq_getElem hlt]
      show _ = List.map V.int ((part bs ((bs.length + 31) / 32) i).set (i / 32) ((part bs ((bs.length + 31) / 32) i)[i / 32]))
      rw [List.set_getElem_self]
  · rintro σ H' ⟨y, z, rfl, _, s, e, hb⟩
    rw [List.length_map] at e hb
    walk_at "st"
    rw [List.take_length] at hb
    rw [part_full] at e
    exact q3 hm hb p H' hp' s e

/-- the ones among the first n bits of a row -/
def sumTo (bs : List Int) (n : Nat) : Int := (bs.take n).sum
theorem sumTo_succ (bs : List Int) (n : Nat) : sumTo bs (n + 1) = sumTo bs n + bs.getD n 0 := by
  unfold sumTo
  rw [List.take_add_one, List.sum_append, List.getD_eq_getElem?_getD]
  cases bs[n]? <;> simp
theorem sumTo_all (bs : List Int) {n : Nat} (h : bs.length ≤ n) : sumTo bs n = bs.sum := by
  unfold sumTo; rw [List.take_of_length_le h]
theorem sumTo_zero (bs : List Int) : sumTo bs 0 = 0 := rfl
/-- the ones of a block's first bits -/
theorem onesIn_blks {bs : List Int} (h : Bits bs) {j : Nat} {b : Int} (e : (blks bs)[j]? = some b) : ∀ k, k ≤ 32 → onesIn b k = sumTo bs (32 * j + k) - sumTo bs (32 * j)
  | 0, _ => by rw [Nat.add_zero]; show (0 : Int) = _; omega
  | k + 1, hk => by
    show onesIn b k + bit b k = _
    rw [onesIn_blks h e k (by omega), bit_blks h e (by omega), show 32 * j + (k + 1) = (32 * j + k) + 1 by omega, sumTo_succ]; omega

/-- the ones ahead of the first n blocks -/
def aheadN (bs : List Int) (n : Nat) : List Int := (List.range n).map fun j => sumTo bs (32 * j)
theorem aheadN_len (bs : List Int) (n : Nat) : (aheadN bs n).length = n := by unfold aheadN; simp
theorem aheadN_get (bs : List Int) {n j : Nat} (h : j < n) : (aheadN bs n)[j]? = some (sumTo bs (32 * j)) := by unfold aheadN; simp [h]
theorem aheadN_succ (bs : List Int) (n : Nat) : aheadN bs (n + 1) = aheadN bs n ++ [sumTo bs (32 * n)] := by unfold aheadN; rw [List.range_succ, List.map_append]; rfl
/-- the table of a row: the ones ahead of each block, and all -/
def aheadT (bs : List Int) : List Int := aheadN bs ((bs.length + 31) / 32 + 1)
theorem aheadT_len (bs : List Int) : (aheadT bs).length = (bs.length + 31) / 32 + 1 := aheadN_len _ _
theorem aheadT_get (bs : List Int) {j : Nat} (h : j ≤ (bs.length + 31) / 32) : (aheadT bs)[j]? = some (sumTo bs (32 * j)) := aheadN_get bs (by omega)
theorem sumTo_add (bs : List Int) (n m : Nat) : sumTo bs (n + m) = sumTo bs n + ((bs.drop n).take m).sum := by
  unfold sumTo; rw [List.take_add, List.sum_append]
theorem getD_bit {bs : List Int} (h : Bits bs) (k : Nat) : bs.getD k 0 = 0 ∨ bs.getD k 0 = 1 := by
  rw [List.getD_eq_getElem?_getD]
  cases e : bs[k]? with
  | none => exact .inl rfl
  | some b => exact h b (List.mem_of_getElem? e)
theorem sumTo_mono1 {bs : List Int} (h : Bits bs) (n : Nat) : sumTo bs n ≤ sumTo bs (n + 1) ∧ sumTo bs (n + 1) ≤ sumTo bs n + 1 := by
  rw [sumTo_succ]; have := getD_bit h n; omega
theorem sumTo_mono {bs : List Int} (h : Bits bs) {n m : Nat} (l : n ≤ m) : sumTo bs n ≤ sumTo bs m := by
  induction m with
  | zero => rw [show n = 0 by omega]; exact Int.le_refl _
  | succ m ih =>
    rcases Nat.lt_or_ge m n with z | z
    · rw [show n = m + 1 by omega]; exact Int.le_refl _
    · have := ih z; have := sumTo_mono1 h m; omega
theorem sumTo_range {bs : List Int} (h : Bits bs) (n : Nat) : 0 ≤ sumTo bs n ∧ sumTo bs n ≤ n := by
  induction n with
  | zero => exact ⟨Int.le_refl _, Int.le_refl _⟩
  | succ n ih => have := sumTo_mono1 h n; omega
theorem blks_getD {bs : List Int} {j : Nat} (h : j < (bs.length + 31) / 32) : (blks bs)[j]? = some ((blks bs).getD j 0) := by
  rw [List.getD_eq_getElem?_getD, List.getElem?_eq_getElem (by rw [blks_len]; exact h)]; rfl

/-! ### promises -/
/-- ones_in(b, u) -/
def sp_ones_in (_ : PySem.W.Frag) : Sp := fun vs H Q _ => ∃ (b : Int) (u : Nat), vs = [.int b, .int (u : Int)] ∧ u ≤ 1000 ∧ ∀ H', Same H H' → Q (.int (onesIn b u)) H'
theorem len_ones_in (K : PySem.W.Frag) : ∀ vs H Q E, sp_ones_in K vs H Q E → vs.length = 2 := by
  rintro vs H Q E ⟨b, u, rfl, _⟩; rfl
def t_ones_in (K : PySem.W.Frag) : TS :=
  (tRet (tCB (rSum K) (tCons (tLc (iRng1 (tCons (tVar 1) tNil)) (gName 2) tYes (tOp rAnd1 (tOp rShr (tVar 0) (tVar 2)) (tC (.int 1))) [2]) tNil)))
abbrev n_ones_in : List Str := ["block", "upto", "k"]

theorem rd_ones_in (K : PySem.W.Frag) (vs : List V) (H : Hp) (Q : VK) (E : XK) (h : sp_ones_in K vs H Q E) : t_ones_in K { nx := fun _ H' => Q .non H', rt := Q } (start n_ones_in vs) H := by
  obtain ⟨b, u, rfl, hu, q⟩ := h
  unfold t_ones_in
  walk_at "st"
  refine comp_rangeV (n := u) (f := fun k => .int (bit b k)) (by omega) (fun k H2 Q2 _ _ q2 => ?_) (fun p H' _ s e => ?_)
  · walk_at "st"
    exact q2 _ (Same.refl _)
  · walk_at "st"
    refine k_sum (ns := (List.range u).map fun k => bit b k) (.of ?_) ?_
    · rw [e, List.map_map]; rfl
    · rw [onesIn_sum]; walk_at "st"; exact q _ s

/-- ones_table(blocks), the blocks of a row -/
def sp_ones_table (K : PySem.W.Frag) : Sp := fun vs H Q _ => ∃ (a : Addr) (bs : List Int), vs = [.ref a] ∧ H a = some (.lst ((blks bs).map V.int)) ∧ bs.length ≤ 5000 ∧ Bits bs ∧ ∀ p H', H p = none → Same H H' → H' p = some (.tup ((aheadT bs).map V.int)) → Q (.ref p) H'
theorem len_ones_table (K : PySem.W.Frag) : ∀ vs H Q E, sp_ones_table K vs H Q E → vs.length = 1 := by
  rintro vs H Q E ⟨a, bs, rfl, _⟩; rfl
def t_ones_table (K : PySem.W.Frag) : TS :=
  (tSeq (tAsg (tLst (tCons (tC (.int 0)) tNil)) (gName 1))
  (tSeq (tFor (iList K (tVar 0)) (gName 2)
  (tDrop (tBM K "list" rAppend (tVar 1) (tCons (tOp rPlus (tOp (rIxL K) (tVar 1) (tUn rNeg (tC (.int 1)))) (tCall (sp_ones_in K) [] E0 (tCons (tVar 2) (tCons (tC (.int 32)) tNil)))) tNil))))
  (tRet (tCB (rTupOf K) (tCons (tVar 1) tNil)))))
abbrev n_ones_table : List Str := ["blocks", "ahead", "block"]

theorem rd_ones_table (K : PySem.W.Frag) (vs : List V) (H : Hp) (Q : VK) (E : XK) (h : sp_ones_table K vs H Q E) : t_ones_table K { nx := fun _ H' => Q .non H', rt := Q } (start n_ones_table vs) H := by
  obtain ⟨a, bs, rfl, hS, hl, hB, q⟩ := h
  unfold t_ones_table
  walk_at "st"
  intro p hp
  walk_at "st"
  refine m_iLe (.of ((same_new hp).get hS)) ?_
  refine loop_ints (ns := blks bs) (fun i σ H' => ∃ y, σ = [some (.ref a), some (.ref p), y] ∧ i ≤ (blks bs).length ∧ Same H H' ∧ H' p = some (.lst ((aheadN bs (i + 1)).map V.int))) ⟨none, rfl, Nat.zero_le _, same_new hp, by rw [upd_same]; rfl⟩ (fun i σ H' ⟨_, _, _, s, _⟩ => .of (s.get hS)) ?_ ?_
  · rintro i x σ H' hx ⟨y, rfl, hi, s, e⟩
    have hlt : i < (blks bs).length := (List.getElem?_eq_some_iff.mp hx).1
    have hlt2 := hlt
    rw [blks_len] at hlt2
    walk_at "st"
    refine k_tyL (.of e) ?_
    walk_at "st"
    refine k_ixL (.of e) (x := .int (sumTo bs (32 * i))) (by rw [aheadN_succ, List.map_append]; exact atI_last _ _) ?_
    walk_at "st"
    refine ⟨x, 32, rfl, by decide, fun H2 s2 => ?_⟩
    walk_at "st"
    refine k_app (s2.get e) (by rw [List.length_map, aheadN_len]; omega) ?_
    walk_at "st"
    have e2 := s2.get e
    refine ⟨_, rfl, hlt, Same.mut (s.trans s2) hp, ?_⟩
    rw [upd_same, aheadN_succ bs (i + 1), List.map_append, onesIn_blks hB hx 32 (Nat.le_refl _), show 32 * i + 32 = 32 * (i + 1) by omega, show sumTo bs (32 * i) + (sumTo bs (32 * (i + 1)) - sumTo bs (32 * i)) = sumTo bs (32 * (i + 1)) by omega]; rfl
  · rintro σ H' ⟨y, rfl, hi, s, e⟩
    walk_at "st"
    refine k_tupL (.of e) fun t ht => ?_
    walk_at "st"
    refine q t _ (s.gone _ ht) (s.trans (same_new ht)) ?_
    rw [upd_same, blks_len]; rfl
/-- kept_row(bits) -/
def sp_kept_row (K : PySem.W.Frag) : Sp := fun vs H Q E => ∃ (a : Addr) (bs : List Int), vs = [.ref a] ∧ SqL K H a (bs.map V.int) ∧ bs.length ≤ 100000 ∧
  (bs.length > 4096 → E (.ref (He.ga K "TooMany")) none H) ∧
  (bs.length ≤ 4096 → ¬ Bits bs → ∀ H', Same H H' → E (.ref (He.ga K "NoBit")) none H') ∧
  (bs.length ≤ 4096 → Bits bs → ∀ p t pa pb H', H p = none → H t = none → H pa = none → H pb = none → Same H H' → H' p = some (.tup [.ref t, .ref pb]) → H' t = some (.tup [.int (bs.length : Int), .ref pa]) → H' pa = some (.tup ((aheadT bs).map V.int)) → H' pb = some (.lst ((blks bs).map V.int)) → Q (.ref p) H')
theorem len_kept_row (K : PySem.W.Frag) : ∀ vs H Q E, sp_kept_row K vs H Q E → vs.length = 1 := by
  rintro vs H Q E ⟨a, bs, rfl, _⟩; rfl
def t_kept_row (K : PySem.W.Frag) (E : XK) : TS :=
  (tSeq (tAsg (tCall (sp_packed K) [] E (tCons (tVar 0) tNil)) (gName 1))
  (tRet (tTup (tCons (tTup (tCons (tCB (rLen K) (tCons (tVar 0) tNil)) (tCons (tCall (sp_ones_table K) [] E0 (tCons (tVar 1) tNil)) tNil))) (tCons (tVar 1) tNil)))))
abbrev n_kept_row : List Str := ["bits", "blocks"]

theorem rd_kept_row (K : PySem.W.Frag) (vs : List V) (H : Hp) (Q : VK) (E : XK) (h : sp_kept_row K vs H Q E) : t_kept_row K E { nx := fun _ H' => Q .non H', rt := Q } (start n_kept_row vs) H := by
  obtain ⟨a, bs, rfl, hS, hl, q1, q2, q3⟩ := h
  unfold t_kept_row
  walk_at "st"
  refine ⟨a, bs, rfl, hS, hl, q1, q2, fun hm hB pb H1 hpb s1 e1 => ?_⟩
  walk_at "st"
  refine k_lenL (s1.seq hS) ?_
  walk_at "st"
  rw [List.length_map]
  refine ⟨pb, bs, rfl, e1, by omega, hB, fun pa H2 hpa s2 e2 => ?_⟩
  walk_at "st"
  intro t ht
  walk_at "st"
  intro p hp
  walk_at "st"
  have s3 := same_new (o := .tup [.int (bs.length : Int), .ref pa]) ht
  have s4 := same_new (o := .tup [.ref t, .ref pb]) hp
  exact q3 hm hB p t pa pb _ ((s1.trans (s2.trans s3)).gone _ hp) ((s1.trans s2).gone _ ht) (s1.gone _ hpa) hpb (s1.trans (s2.trans (s3.trans s4))) upd_same (s4.get upd_same) (s4.get (s3.get e2)) (s4.get (s3.get (s2.get e1)))

/-- _law_bits(script): some bits, 1300 at most -/
def sp_law_bits (K : PySem.W.Frag) : Sp := fun vs H Q _ => ∃ (a : Addr) (ns : List Int), vs = [.ref a] ∧ SqL K H a (ns.map V.int) ∧
  ∀ (bs : List Int) p H', bs.length ≤ 1300 → Bits bs → H p = none → Same H H' → H' p = some (.lst (bs.map V.int)) → Q (.ref p) H'
theorem len_law_bits (K : PySem.W.Frag) : ∀ vs H Q E, sp_law_bits K vs H Q E → vs.length = 1 := by
  rintro vs H Q E ⟨x, y, rfl, _⟩; rfl
def t_law_bits (K : PySem.W.Frag) : TS :=
  (tSeq (tAsg (tLst tNil) (gName 1))
  (tSeq (tFor (iList K (tSl (rSlL K) (tVar 0) tNoPart (tPart (tC (.int 63))))) (gName 2)
  (tSeq (tAsg (tOp rMod (tOp rTimes (tVar 2) (tC (.int 48271))) (tC (.int 2147483647))) (gName 3))
  (tSeq (tAsg (tOp rDiv (tVar 3) (tC (.int 400))) (gName 4))
  (tSeq (tAsg (tOp rPlus (tC (.int 1)) (tOp rMod (tOp rDiv (tVar 3) (tC (.int 2))) (tC (.int 20)))) (gName 5))
  (Evl.tCut (tIfS (tTest (tOp rEq (tOp rMod (tOp rDiv (tVar 3) (tC (.int 40))) (tC (.int 10))) (tC (.int 7))))
  (tAsg (tC (.int 70)) (gName 5))
  tNext)
  (tFor (iRng1 (tCons (tVar 5) tNil)) (gName 6)
  (tSeq (tDrop (tBM K "list" rAppend (tVar 1) (tCons (tOp rMod (tVar 4) (tC (.int 2))) tNil)))
  (tIfS (tTest (tOp rEq (tOp rMod (tVar 3) (tC (.int 2))) (tC (.int 1))))
  (tAsg (tOp rDiv (tVar 4) (tC (.int 2))) (gName 4))
  tNext))))))))
  (tRet (tSl (rSlL K) (tVar 1) tNoPart (tPart (tC (.int 1300)))))))
abbrev n_law_bits : List Str := ["_law_script", "_law_bits_here", "_law_cell", "_law_number", "_law_piece", "_law_long", "_law_k"]

theorem rd_law_bits (K : PySem.W.Frag) (vs : List V) (H : Hp) (Q : VK) (E : XK) (h : sp_law_bits K vs H Q E) : t_law_bits K { nx := fun _ H' => Q .non H', rt := Q } (start n_law_bits vs) H := by
  obtain ⟨a, ns, rfl, hS, q⟩ := h
  unfold t_law_bits
  walk_at "st"
  intro p hp
  walk_at "st"
  refine k_slL ((same_new hp).seq hS) fun l hl => ?_
  rw [show (63 : Int) = ((63 : Nat) : Int) from rfl, cutTake, ← List.map_take]
  have npl : p ≠ l := ne_of_none upd_same hl
  refine m_iLe (.of upd_same) ?_
  refine loop_ints (ns := ns.take 63) (fun i σ H' => ∃ y1 y2 y3 y4 y5, σ = [some (.ref a), some (.ref p), y1, y2, y3, y4, y5] ∧ Same H H' ∧ H' l = some (.lst ((ns.take 63).map V.int)) ∧ ∃ bs : List Int, bs.length ≤ 70 * i ∧ i ≤ (ns.take 63).length ∧ Bits bs ∧ H' p = some (.lst (bs.map V.int))) ⟨none, none, none, none, none, rfl, (same_new hp).trans (same_new hl), upd_same, [], by simp, Nat.zero_le _, (fun x hx => by simp at hx), by rw [upd_ne npl, upd_same]; rfl⟩ (fun i σ H' ⟨_, _, _, _, _, _, _, e, _⟩ => .of e) ?_ ?_
  · rintro i n σ H' hn ⟨y1, y2, y3, y4, y5, rfl, s, el, bs, hb1, hle, hB, ep⟩
    have hlt : i < (ns.take 63).length := (List.getElem?_eq_some_iff.mp hn).1
    have h63 : (ns.take 63).length ≤ 63 := by rw [List.length_take]; omega
    walk_at "st"
    refine m_cut (fun σ' H'' => H'' = H' ∧ ∃ w : Nat, w ≤ 70 ∧ σ' = [some (.ref a), some (.ref p), some (.int n), some (.int (n * 48271 % 2147483647)), some (.int (n * 48271 % 2147483647 / 400)), some (.int (w : Int)), y5]) ?_ ?_
    · walk_at "st"
      walk_at "if" <;> intro _
      · walk_at "st"
        exact ⟨rfl, 70, by omega, rfl⟩
      · walk_at "st"
        refine ⟨rfl, (1 + n * 48271 % 2147483647 / 2 % 20).toNat, by omega, ?_⟩
        rw [show (((1 + n * 48271 % 2147483647 / 2 % 20).toNat : Nat) : Int) = 1 + n * 48271 % 2147483647 / 2 % 20 by omega]; rfl
    rintro σ' H'' ⟨rfl, w, hw2, rfl⟩
    walk_at "st"
    refine loop_range0 (fun k σ H'' => ∃ pc y4, σ = [some (.ref a), some (.ref p), some (.int n), some (.int (n * 48271 % 2147483647)), some (.int pc), some (.int (w : Int)), y4] ∧ Same H H'' ∧ H'' l = some (.lst ((ns.take 63).map V.int)) ∧ ∃ cs : List Int, cs.length = bs.length + k ∧ k ≤ 70 ∧ Bits cs ∧ H'' p = some (.lst (cs.map V.int))) ⟨_, _, rfl, s, el, bs, rfl, by omega, hB, ep⟩ ?_ ?_
    · rintro k σ H'' hk ⟨pc, y4, rfl, s, el, cs, hc, _, hC, ep⟩
      walk_at "st"
      refine k_tyL (.of ep) ?_
      walk_at "st"
      refine k_app ep (by rw [List.length_map]; omega) ?_
      walk_at "st"
      have hC' : Bits (cs ++ [pc % 2]) := by
        intro x hx
        rcases List.mem_append.mp hx with h | h
        · exact hC x h
        · have : x = pc % 2 := by simpa using h
          omega
      walk_at "if" <;> intro _
      · walk_at "st"
        exact ⟨_, _, rfl, Same.mut s hp, by rw [upd_ne npl.symm]; exact el, cs ++ [pc % 2], by rw [List.length_append, hc]; simp; omega, by omega, hC', by rw [upd_same, List.map_append]; rfl⟩
      · walk_at "st"
        exact ⟨_, _, rfl, Same.mut s hp, by rw [upd_ne npl.symm]; exact el, cs ++ [pc % 2], by rw [List.length_append, hc]; simp; omega, by omega, hC', by rw [upd_same, List.map_append]; rfl⟩
    · rintro σ H'' ⟨pc, y4, rfl, s, el, cs, hc, _, hC, ep⟩
      exact ⟨_, _, _, _, _, rfl, s, el, cs, by omega, hlt, hC, ep⟩
  · rintro σ H' ⟨y1, y2, y3, y4, y5, rfl, s, el, bs, hb1, _, hB, ep⟩
    have h63 : (ns.take 63).length ≤ 63 := by rw [List.length_take]; omega
    walk_at "st"
    refine k_slL (.of ep) fun p2 hp2 => ?_
    rw [show (1300 : Int) = ((1300 : Nat) : Int) from rfl, cutTake, ← List.map_take]
    walk_at "st"
    exact q (bs.take 1300) p2 _ (by rw [List.length_take]; omega) (hB.take _) (s.gone _ hp2) (s.trans (same_new hp2)) upd_same

/-- _law_great(bits, cell) -/
def sp_law_great (K : PySem.W.Frag) : Sp := fun vs H Q _ => ∃ (a : Addr) (bs : List Int) (c : Int), vs = [.ref a, .int c] ∧ H a = some (.lst (bs.map V.int)) ∧ bs.length ≤ 1300 ∧ Bits bs ∧
  ∀ (cs : List Int) p H', cs.length ≤ 4096 → Bits cs → H p = none → Same H H' → H' p = some (.lst (cs.map V.int)) → Q (.ref p) H'
theorem len_law_great (K : PySem.W.Frag) : ∀ vs H Q E, sp_law_great K vs H Q E → vs.length = 2 := by
  rintro vs H Q E ⟨a, b, c, rfl, _⟩; rfl
def t_law_great (K : PySem.W.Frag) : TS :=
  (tSeq (tAsg (tOp rMod (tOp rTimes (tVar 1) (tC (.int 69621))) (tC (.int 2147483629))) (gName 2))
  (tSeq (tAsg (tLst tNil) (gName 3))
  (tSeq (tFor (iRng1 (tCons (tC (.int 20)) tNil)) (gName 4)
  (tSeq (tDrop (tBM K "list" rAppend (tVar 3) (tCons (tOp rMod (tVar 2) (tC (.int 2))) tNil)))
  (tAsg (tOp rDiv (tVar 2) (tC (.int 2))) (gName 2))))
  (tRet (tSl (rSlL K) (tOp (rCatK K) (tVar 0) (tOp rRep (tVar 3) (tC (.int 205)))) tNoPart (tPart (tC (.int 4096))))))))
abbrev n_law_great : List Str := ["_law_bits_here", "_law_cell", "_law_number", "_law_some", "_law_k"]

theorem rd_law_great (K : PySem.W.Frag) (vs : List V) (H : Hp) (Q : VK) (E : XK) (h : sp_law_great K vs H Q E) : t_law_great K { nx := fun _ H' => Q .non H', rt := Q } (start n_law_great vs) H := by
  obtain ⟨a, bs, c, rfl, hS, hl, hB, q⟩ := h
  unfold t_law_great
  walk_at "st"
  intro p hp
  walk_at "st"
  refine loop_range0 (fun i σ H' => ∃ (x : Int) (y : Option V), σ = [some (.ref a), some (.int c), some (.int x), some (.ref p), y] ∧ i ≤ 20 ∧ Same H H' ∧ ∃ cs : List Int, cs.length = i ∧ Bits cs ∧ H' p = some (.lst (cs.map V.int))) ⟨_, none, rfl, Nat.zero_le _, same_new hp, [], rfl, (fun x hx => by simp at hx), upd_same⟩ ?_ ?_
  · rintro i σ H' hi ⟨x, y, rfl, _, s, cs, hc, hC, e⟩
    have hi : i < 20 := hi
    walk_at "st"
    refine k_tyL (.of e) ?_
    walk_at "st"
    refine k_app e (by rw [List.length_map]; omega) ?_
    walk_at "st"
    refine ⟨_, _, rfl, by omega, Same.mut s hp, cs ++ [x % 2], by rw [List.length_append, hc]; rfl, fun z hz => ?_, by rw [upd_same, List.map_append]; rfl⟩
    rcases List.mem_append.mp hz with w | w
    · exact hC z w
    · have : z = x % 2 := by simpa using w
      omega
  · rintro σ H' ⟨x, y, rfl, _, s, cs, hc, hC, e⟩
    have hc : cs.length = 20 := hc
    walk_at "st"
    rw [show (205 : Int) = ((205 : Nat) : Int) from rfl]
    refine k_rep e (by rw [List.length_map]; omega) (by decide) fun p2 hp2 => ?_
    have hr : (List.replicate 205 (cs.map V.int)).flatten = (List.replicate 205 cs).flatten.map V.int := by
      rw [List.map_flatten, List.map_replicate]
    have hrl : (List.replicate 205 cs).flatten.length = 4100 := by
      rw [List.length_flatten, List.map_replicate, hc]; rfl
    rw [hr]
    refine k_catK (.of ((s.trans (same_new hp2)).get hS)) (.of upd_same) (by rw [List.length_map, List.length_map, hrl]; omega) fun p3 hp3 => ?_
    walk_at "st"
    rw [← List.map_append]
    refine k_slL (.of upd_same) fun p4 hp4 => ?_
    rw [show (4096 : Int) = ((4096 : Nat) : Int) from rfl, cutTake, ← List.map_take]
    walk_at "st"
    have st := (s.trans (same_new (o := .lst ((List.replicate 205 cs).flatten.map V.int)) hp2)).trans (same_new (o := .lst ((bs ++ (List.replicate 205 cs).flatten).map V.int)) hp3)
    refine q _ p4 _ (by rw [List.length_take]; omega) (Bits.take ?_ _) (st.gone _ hp4) (st.trans (same_new hp4)) upd_same
    intro z hz
    rcases List.mem_append.mp hz with w | w
    · exact hB z w
    · obtain ⟨l, hl, hz⟩ := List.mem_flatten.mp w
      rw [List.eq_of_mem_replicate hl] at hz
      exact hC z hz

--#base
/-- bit_at(tables, look, at) -/
def sp_bit_at (K : PySem.W.Frag) (CL : CLs) : Sp := fun vs H Q E => ∃ (t g : Addr) (at_ : Int) (many : Nat) (rest : List V) (n : Nat) (val : Nat → Int) (q : Option Addr) (I : List Nat → Hp → Prop) (L : List Nat), vs = [.ref t, .ref g, .int at_] ∧ SqT K H t (.int (many : Int) :: rest) ∧ LookR CL g n (fun k => .int (val k)) q I ∧ I L H ∧ L.length < 999 ∧
  ((at_ < 0 ∨ (many : Int) ≤ at_) → E (.ref (He.ga K "NoPlace")) none H) ∧
  (∀ k : Nat, at_ = (k : Int) → k < many → k / 32 < n ∧ ∀ H', I (L ++ [k / 32]) H' → SameX q H H' → Q (.int (bit (val (k / 32)) (k % 32))) H')
theorem len_bit_at (K : PySem.W.Frag) (CL : CLs) : ∀ vs H Q E, sp_bit_at K CL vs H Q E → vs.length = 3 := by
  rintro vs H Q E ⟨t, g, a, _, _, _, _, _, _, _, rfl, _⟩; rfl
def t_bit_at (K : PySem.W.Frag) (CL : CLs) (E : XK) : TS :=
  (tSeq (tIfS (tOr (tTest (tOp rLt (tVar 2) (tC (.int 0)))) (tTest (tOp rGeI (tVar 2) (tOp (rIxT K) (tVar 0) (tC (.int 0))))))
  (tRz (fun cls d _ H => E cls d H) (He.ga K "NoPlace"))
  tNext)
  (tRet (tOp rAnd1 (tOp rShr (tCallV CL 9 1 (tCons (tOp rDiv (tVar 2) (tC (.int 32))) tNil)) (tOp rMod (tVar 2) (tC (.int 32)))) (tC (.int 1)))))
abbrev n_bit_at : List Str := ["tables", "look", "at"]

theorem rd_bit_at (K : PySem.W.Frag) (CL : CLs) (vs : List V) (H : Hp) (Q : VK) (E : XK) (h : sp_bit_at K CL vs H Q E) : t_bit_at K CL E { nx := fun _ H' => Q .non H', rt := Q } (start n_bit_at vs) H := by
  obtain ⟨t, g, at_, many, rest, n, val, q, I, L, rfl, hT, R, hI, hL, q1, q2⟩ := h
  unfold t_bit_at
  have hf := R.fn hI
  walk_at "st"
  walk_at "if" <;> intro c
  · walk_at "st"
    exact q1 (.inl c)
  · walk_at "st"
    refine k_ixT hT (x := .int (many : Int)) (at_int (Int.le_refl 0) rfl) ?_
    walk_at "st"
    walk_at "if" <;> intro c1
    · walk_at "st"
      exact q1 (.inr (by omega))
    · walk_at "st"
      obtain ⟨k, rfl⟩ : ∃ k : Nat, at_ = (k : Int) := ⟨at_.toNat, by omega⟩
      obtain ⟨h1, h2⟩ := q2 k rfl (by omega)
      rw [show (k : Int) / 32 = ((k / 32 : Nat) : Int) by omega]
      refine R.ask hI (by omega) h1 fun H' i' s' => ?_
      walk_at "st"
      have := h2 H' i' s'
      unfold bit at this
      rw [show ((k : Int) % 32).toNat = k % 32 by omega]
      exact this

/-- a row's tables at t, a look at its blocks -/
structure RowAt (K : PySem.W.Frag) (CL : CLs) (H : Hp) (t g : Addr) (bs : List Int) (q : Option Addr) (I : List Nat → Hp → Prop) : Prop where
  tab : ∃ pa, SqT K H t [.int (bs.length : Int), .ref pa] ∧ SqT K H pa ((aheadT bs).map V.int)
  look : LookR CL g (blks bs).length (fun k => .int ((blks bs).getD k 0)) q I
  bits : Bits bs
  len : bs.length ≤ 5000
theorem RowAt.moveX {K : PySem.W.Frag} {CL : CLs} {H H' : Hp} {t g : Addr} {bs : List Int} {q : Option Addr} {I : List Nat → Hp → Prop} (r : RowAt K CL H t g bs q I) (s : SameX q H H') : RowAt K CL H' t g bs q I :=
  ⟨let ⟨pa, h1, h2⟩ := r.tab; ⟨pa, s.seqT h1, s.seqT h2⟩, r.look, r.bits, r.len⟩
theorem RowAt.move {K : PySem.W.Frag} {CL : CLs} {H H' : Hp} {t g : Addr} {bs : List Int} {q : Option Addr} {I : List Nat → Hp → Prop} (r : RowAt K CL H t g bs q I) (s : Same H H') : RowAt K CL H' t g bs q I :=
  ⟨let ⟨pa, h1, h2⟩ := r.tab; ⟨pa, s.seqT h1, s.seqT h2⟩, r.look, r.bits, r.len⟩

/-- ones_at(tables, look, at) -/
def sp_ones_at (K : PySem.W.Frag) (CL : CLs) : Sp := fun vs H Q E => ∃ (t g : Addr) (at_ : Int) (bs : List Int) (q : Option Addr) (I : List Nat → Hp → Prop) (L : List Nat), vs = [.ref t, .ref g, .int at_] ∧ RowAt K CL H t g bs q I ∧ I L H ∧ L.length < 999 ∧
  ((at_ < 0 ∨ (bs.length : Int) < at_) → ∀ H', Same H H' → E (.ref (He.ga K "NoPlace")) none H') ∧
  (∀ k : Nat, at_ = (k : Int) → k ≤ bs.length → ∀ H' L', (L' = L ∨ L' = L ++ [k / 32] ∧ k / 32 < (blks bs).length) → I L' H' → SameX q H H' → Q (.int (sumTo bs k)) H')
theorem len_ones_at (K : PySem.W.Frag) (CL : CLs) : ∀ vs H Q E, sp_ones_at K CL vs H Q E → vs.length = 3 := by
  rintro vs H Q E ⟨t, g, a, _, _, _, _, rfl, _⟩; rfl
def t_ones_at (K : PySem.W.Frag) (CL : CLs) (E : XK) : TS :=
  (tSeq (tAsg (tVar 0) (gTup K 2 (gCons (gName 3) (gCons (gName 4) gNil))))
  (tSeq (tIfS (tOr (tTest (tOp rLt (tVar 2) (tC (.int 0)))) (tTest (tOp rGtI (tVar 2) (tVar 3))))
  (tRz (fun cls d _ H => E cls d H) (He.ga K "NoPlace"))
  tNext)
  (tSeq (tAsg (tOp (rIxT K) (tVar 4) (tOp rDiv (tVar 2) (tC (.int 32)))) (gName 5))
  (Evl.tCut (tIfS (tTest (tOp rGtI (tOp rMod (tVar 2) (tC (.int 32))) (tC (.int 0))))
  (tAug 5 (tCall (sp_ones_in K) [] E0 (tCons (tCallV CL 9 1 (tCons (tOp rDiv (tVar 2) (tC (.int 32))) tNil)) (tCons (tOp rMod (tVar 2) (tC (.int 32))) tNil))) (ipI fun i j => i + j))
  tNext)
  (tRet (tVar 5))))))
abbrev n_ones_at : List Str := ["tables", "look", "at", "many", "ahead", "found"]

theorem rd_ones_at (K : PySem.W.Frag) (CL : CLs) (vs : List V) (H : Hp) (Q : VK) (E : XK) (h : sp_ones_at K CL vs H Q E) : t_ones_at K CL E { nx := fun _ H' => Q .non H', rt := Q } (start n_ones_at vs) H := by
  obtain ⟨t, g, at_, bs, q, I, L, rfl, R, hI, hL, q1, q2⟩ := h
  obtain ⟨pa, hT, hA⟩ := R.tab
  unfold t_ones_at
  have hf := R.look.fn hI
  walk_at "st"
  refine m_gTup hT rfl ?_
  walk_at "st"
  walk_at "if" <;> intro c
  · walk_at "st"
    exact q1 (.inl c) _ (Same.refl _)
  · walk_at "st"
    walk_at "if" <;> intro c1
    · walk_at "st"
      exact q1 (.inr (by omega)) _ (Same.refl _)
    · walk_at "st"
      obtain ⟨k, rfl⟩ : ∃ k : Nat, at_ = (k : Int) := ⟨at_.toNat, by omega⟩
      have hk : k ≤ bs.length := by omega
      rw [show (k : Int) / 32 = ((k / 32 : Nat) : Int) by omega]
      refine k_ixT hA (at_nat (mapint (aheadT_get bs (show k / 32 ≤ (bs.length + 31) / 32 by omega)))) ?_
      walk_at "st"
      refine m_cut0 ?_
      walk_at "st"
      walk_at "if" <;> intro c2
      · have hj : k / 32 < (bs.length + 31) / 32 := by omega
        walk_at "st"
        rw [show (k : Int) / 32 = ((k / 32 : Nat) : Int) by omega]
        refine R.look.ask hI (by omega) (by rw [blks_len]; exact hj) fun H1 i1 s1 => ?_
        walk_at "st"
        refine ⟨_, k % 32, by rw [show (k : Int) % 32 = ((k % 32 : Nat) : Int) by omega], by omega, fun H2 s2 => ?_⟩
        walk_at "st"
        have e := onesIn_blks R.bits (blks_getD hj) (k % 32) (by omega)
        rw [show 32 * (k / 32) + k % 32 = k by omega] at e
        rw [show sumTo bs (32 * (k / 32)) + onesIn ((blks bs).getD (k / 32) 0) (k % 32) = sumTo bs k by omega]
        exact q2 k rfl hk H2 _ (.inr ⟨rfl, by rw [blks_len]; exact hj⟩) (R.look.ext i1 s2) (s1.andS s2)
      · walk_at "st"
        rw [show 32 * (k / 32) = k by omega]
        exact q2 k rfl hk H L (.inl rfl) hI ((Same.refl H).toX (R.look.isq hI))

/-- noughts_at(tables, look, at) -/
def sp_noughts_at (K : PySem.W.Frag) (CL : CLs) : Sp := fun vs H Q E => ∃ (t g : Addr) (at_ : Int) (bs : List Int) (q : Option Addr) (I : List Nat → Hp → Prop) (L : List Nat), vs = [.ref t, .ref g, .int at_] ∧ RowAt K CL H t g bs q I ∧ I L H ∧ L.length < 999 ∧
  ((at_ < 0 ∨ (bs.length : Int) < at_) → ∀ H', Same H H' → E (.ref (He.ga K "NoPlace")) none H') ∧
  (∀ k : Nat, at_ = (k : Int) → k ≤ bs.length → ∀ H' L', (L' = L ∨ L' = L ++ [k / 32] ∧ k / 32 < (blks bs).length) → I L' H' → SameX q H H' → Q (.int ((k : Int) - sumTo bs k)) H')
theorem len_noughts_at (K : PySem.W.Frag) (CL : CLs) : ∀ vs H Q E, sp_noughts_at K CL vs H Q E → vs.length = 3 := by
  rintro vs H Q E ⟨t, g, a, _, _, _, _, rfl, _⟩; rfl
def t_noughts_at (K : PySem.W.Frag) (CL : CLs) (E : XK) : TS :=
  (tRet (tOp rMinus (tVar 2) (tCall (sp_ones_at K CL) [] E (tCons (tVar 0) (tCons (tVar 1) (tCons (tVar 2) tNil))))))
abbrev n_noughts_at : List Str := ["tables", "look", "at"]

theorem rd_noughts_at (K : PySem.W.Frag) (CL : CLs) (vs : List V) (H : Hp) (Q : VK) (E : XK) (h : sp_noughts_at K CL vs H Q E) : t_noughts_at K CL E { nx := fun _ H' => Q .non H', rt := Q } (start n_noughts_at vs) H := by
  obtain ⟨t, g, at_, bs, q, I, L, rfl, R, hI, hL, q1, q2⟩ := h
  unfold t_noughts_at
  walk_at "st"
  refine ⟨t, g, at_, bs, q, I, L, rfl, R, hI, hL, q1, fun k e hk H' L' hL' i' s' => ?_⟩
  walk_at "st"
  subst e
  exact q2 k rfl hk H' L' hL' i' s'

/-- how many bits of a kind stand ahead of a block -/
def aheadK (bs : List Int) (kind : Int) (j : Nat) : Int := if kind = 1 then sumTo bs (32 * j) else 32 * (j : Int) - sumTo bs (32 * j)
theorem aheadK_zero (bs : List Int) (kind : Int) : aheadK bs kind 0 = 0 := by
  unfold aheadK; rw [show 32 * 0 = 0 from rfl, sumTo_zero]; split <;> rfl
def sp_bits_ahead (K : PySem.W.Frag) : Sp := fun vs H Q _ => ∃ (pa : Addr) (bs : List Int) (j : Nat) (kind : Int), vs = [.ref pa, .int (j : Int), .int kind] ∧ SqT K H pa ((aheadT bs).map V.int) ∧ j ≤ (bs.length + 31) / 32 ∧ Q (.int (aheadK bs kind j)) H
theorem len_bits_ahead (K : PySem.W.Frag) : ∀ vs H Q E, sp_bits_ahead K vs H Q E → vs.length = 3 := by
  rintro vs H Q E ⟨pa, bs, j, kind, rfl, _⟩; rfl
def t_bits_ahead (K : PySem.W.Frag) : TS :=
  (tSeq (tIfS (tTest (tOp rEq (tVar 2) (tC (.int 1))))
  (tRet (tOp (rIxT K) (tVar 0) (tVar 1)))
  tNext)
  (tRet (tOp rMinus (tOp rTimes (tC (.int 32)) (tVar 1)) (tOp (rIxT K) (tVar 0) (tVar 1)))))
abbrev n_bits_ahead : List Str := ["ahead", "number", "kind"]

theorem rd_bits_ahead (K : PySem.W.Frag) (vs : List V) (H : Hp) (Q : VK) (E : XK) (h : sp_bits_ahead K vs H Q E) : t_bits_ahead K { nx := fun _ H' => Q .non H', rt := Q } (start n_bits_ahead vs) H := by
  obtain ⟨pa, bs, j, kind, rfl, hA, hj, q⟩ := h
  unfold t_bits_ahead
  unfold aheadK at q
  walk_at "st"
  walk_at "if" <;> intro c
  · walk_at "st"
    refine k_ixT hA (at_nat (mapint (aheadT_get bs hj))) ?_
    walk_at "st"
    rw [if_pos c] at q
    exact q
  · walk_at "st"
    refine k_ixT hA (at_nat (mapint (aheadT_get bs hj))) ?_
    walk_at "st"
    rw [if_neg c] at q
    exact q
def sp_block_by (K : PySem.W.Frag) : Sp := fun vs H Q _ => ∃ (pa : Addr) (bs : List Int) (nth kind : Int), vs = [.ref pa, .int nth, .int kind] ∧ SqT K H pa ((aheadT bs).map V.int) ∧ bs.length ≤ 5000 ∧ 0 ≤ nth ∧ nth < aheadK bs kind ((bs.length + 31) / 32) ∧
  ∀ j : Nat, j < (bs.length + 31) / 32 → aheadK bs kind j ≤ nth → nth < aheadK bs kind (j + 1) → Q (.int (j : Int)) H
theorem len_block_by (K : PySem.W.Frag) : ∀ vs H Q E, sp_block_by K vs H Q E → vs.length = 3 := by
  rintro vs H Q E ⟨pa, bs, j, kind, rfl, _⟩; rfl
def t_block_by (K : PySem.W.Frag) : TS :=
  (tSeq (tAsg (tC (.int 0)) (gName 3))
  (tSeq (tAsg (tOp rMinus (tCB (rLen K) (tCons (tVar 0) tNil)) (tC (.int 1))) (gName 4))
  (tSeq (tWhile (tTest (tOp rGtI (tOp rMinus (tVar 4) (tVar 3)) (tC (.int 1))))
  (tSeq (tAsg (tOp rDiv (tOp rPlus (tVar 3) (tVar 4)) (tC (.int 2))) (gName 5))
  (tIfS (tTest (tOp rLe (tCall (sp_bits_ahead K) [] E0 (tCons (tVar 0) (tCons (tVar 5) (tCons (tVar 2) tNil)))) (tVar 1)))
  (tAsg (tVar 5) (gName 3))
  (tAsg (tVar 5) (gName 4)))))
  (tRet (tVar 3)))))
abbrev n_block_by : List Str := ["ahead", "nth", "kind", "low", "high", "middle"]

theorem rd_block_by (K : PySem.W.Frag) (vs : List V) (H : Hp) (Q : VK) (E : XK) (h : sp_block_by K vs H Q E) : t_block_by K { nx := fun _ H' => Q .non H', rt := Q } (start n_block_by vs) H := by
  obtain ⟨pa, bs, nth, kind, rfl, hA, hl, h0, h1, q⟩ := h
  have hpos : 0 < (bs.length + 31) / 32 := by
    rcases Nat.eq_zero_or_pos ((bs.length + 31) / 32) with z | z
    · rw [z, aheadK_zero] at h1; omega
    · exact z
  unfold t_block_by
  walk_at "st"
  refine k_lenT hA ?_
  walk_at "st"
  rw [List.length_map, aheadT_len]
  refine loop_while (fun m σ H' => ∃ (lo hi : Nat) (y : Option V), m = hi - lo ∧ lo < hi ∧ hi ≤ (bs.length + 31) / 32 ∧ aheadK bs kind lo ≤ nth ∧ nth < aheadK bs kind hi ∧ σ = [some (.ref pa), some (.int nth), some (.int kind), some (.int (lo : Int)), some (.int (hi : Int)), y] ∧ H' = H) ((bs.length + 31) / 32) ⟨0, (bs.length + 31) / 32, none, by omega, hpos, Nat.le_refl _, by rw [aheadK_zero]; exact h0, h1, ?_, rfl⟩ ?_
  · rw [show (((bs.length + 31) / 32 + 1 : Nat) : Int) - 1 = (((bs.length + 31) / 32 : Nat) : Int) by push_cast; omega]; rfl
  · rintro m σ H' ⟨lo, hi, y, rfl, h2, h3, h4, h5, rfl, rfl⟩
    walk_at "st"
    walk_at "if" <;> intro c
    · walk_at "st"
      rw [show ((lo : Int) + (hi : Int)) / 2 = (((lo + hi) / 2 : Nat) : Int) by omega]
      refine ⟨pa, bs, (lo + hi) / 2, kind, rfl, hA, by omega, ?_⟩
      walk_at "st"
      walk_at "if" <;> intro d
      · walk_at "st"
        exact ⟨hi - (lo + hi) / 2, by omega, (lo + hi) / 2, hi, _, rfl, by omega, h3, d, h5, rfl, rfl⟩
      · walk_at "st"
        exact ⟨(lo + hi) / 2 - lo, by omega, lo, (lo + hi) / 2, _, rfl, by omega, by omega, h4, by omega, rfl, rfl⟩
    · walk_at "st"
      obtain rfl : hi = lo + 1 := by omega
      exact q lo (by omega) h4 h5

/-- one_in(b, n) -/
def sp_one_in (_ : PySem.W.Frag) : Sp := fun vs H Q _ => ∃ (b n : Int), vs = [.int b, .int n] ∧ 0 ≤ n ∧ (∀ k : Nat, k < 32 → bit b k = 1 → onesIn b k = n → Q (.int (k : Int)) H) ∧ (onesIn b 32 ≤ n → Q .non H)
theorem len_one_in (K : PySem.W.Frag) : ∀ vs H Q E, sp_one_in K vs H Q E → vs.length = 2 := by
  rintro vs H Q E ⟨b, u, rfl, _⟩; rfl
def t_one_in (K : PySem.W.Frag) : TS :=
  (tSeq (tFor (iRng1 (tCons (tC (.int 32)) tNil)) (gName 2)
  (tIfS (tTest (tOp rEq (tOp rAnd1 (tOp rShr (tVar 0) (tVar 2)) (tC (.int 1))) (tC (.int 1))))
  (tSeq (tIfS (tTest (tOp rEq (tVar 1) (tC (.int 0))))
  (tRet (tVar 2))
  tNext)
  (tAug 1 (tC (.int 1)) (ipI fun i j => i - j)))
  tNext))
  (tRet (tC .non)))
abbrev n_one_in : List Str := ["block", "nth", "k"]

theorem rd_one_in (K : PySem.W.Frag) (vs : List V) (H : Hp) (Q : VK) (E : XK) (h : sp_one_in K vs H Q E) : t_one_in K { nx := fun _ H' => Q .non H', rt := Q } (start n_one_in vs) H := by
  obtain ⟨b, n, rfl, hn, q1, q2⟩ := h
  unfold t_one_in
  walk_at "st"
  refine loop_range0 (fun i σ H' => ∃ y, σ = [some (.int b), some (.int (n - onesIn b i)), y] ∧ H' = H ∧ onesIn b i ≤ n) ⟨none, ?_, rfl, hn⟩ ?_ ?_
  · show _ = [some (V.int b), some (V.int (n - 0)), none]; rw [Int.sub_zero]; rfl
  · rintro i σ H' hi ⟨y, rfl, rfl, hle⟩
    walk_at "st"
    walk_at "if" <;> intro c
    · have c : bit b i = 1 := c
      walk_at "st"
      walk_at "if" <;> intro d
      · walk_at "st"
        exact q1 i hi c (by omega)
      · walk_at "st"
        refine ⟨some (.int (i : Int)), ?_, rfl, ?_⟩
        · have e : n - onesIn b i - 1 = n - onesIn b (i + 1) := by show _ = n - (onesIn b i + bit b i); omega
          rw [e]; rfl
        · show onesIn b i + bit b i ≤ n; omega
    · have c : bit b i ≠ 1 := c
      have c0 : bit b i = 0 := by have := bit_cases b i; omega
      walk_at "st"
      refine ⟨some (.int (i : Int)), ?_, rfl, ?_⟩
      · have e : n - onesIn b i = n - onesIn b (i + 1) := by show _ = n - (onesIn b i + bit b i); omega
        rw [← e]; rfl
      · show onesIn b i + bit b i ≤ n; omega
  · rintro σ H' ⟨y, rfl, rfl, hle⟩
    walk_at "st"
    exact q2 hle

theorem aheadT_last (bs : List Int) : atI ((aheadT bs).map V.int) (-1) = some (.int bs.sum) := by
  unfold aheadT
  rw [aheadN_succ, List.map_append, ← sumTo_all bs (show bs.length ≤ 32 * ((bs.length + 31) / 32) by omega)]
  exact atI_last _ _

/-- one_place(tables, look, nth) -/
def sp_one_place (K : PySem.W.Frag) (CL : CLs) : Sp := fun vs H Q E => ∃ (t g : Addr) (nth : Int) (bs : List Int) (q : Option Addr) (I : List Nat → Hp → Prop) (L : List Nat), vs = [.ref t, .ref g, .int nth] ∧ RowAt K CL H t g bs q I ∧ I L H ∧ L.length < 999 ∧
  ((nth < 0 ∨ bs.sum ≤ nth) → ∀ H', Same H H' → E (.ref (He.ga K "NoPlace")) none H') ∧
  (∀ k : Nat, k < bs.length → bs.getD k 0 = 1 → sumTo bs k = nth → ∀ H', I (L ++ [k / 32]) H' → SameX q H H' → Q (.int (k : Int)) H')
theorem len_one_place (K : PySem.W.Frag) (CL : CLs) : ∀ vs H Q E, sp_one_place K CL vs H Q E → vs.length = 3 := by
  rintro vs H Q E ⟨t, g, a, _, _, _, _, rfl, _⟩; rfl
def t_one_place (K : PySem.W.Frag) (CL : CLs) (E : XK) : TS :=
  (tSeq (tAsg (tOp (rIxT K) (tVar 0) (tC (.int 1))) (gName 3))
  (tSeq (tIfS (tOr (tTest (tOp rLt (tVar 2) (tC (.int 0)))) (tTest (tOp rGeI (tVar 2) (tOp (rIxT K) (tVar 3) (tUn rNeg (tC (.int 1)))))))
  (tRz (fun cls d _ H => E cls d H) (He.ga K "NoPlace"))
  tNext)
  (tSeq (tAsg (tCall (sp_block_by K) [] E0 (tCons (tVar 3) (tCons (tVar 2) (tCons (tC (.int 1)) tNil)))) (gName 4))
  (tRet (tOp rPlus (tOp rTimes (tC (.int 32)) (tVar 4)) (tCall (sp_one_in K) [] E0 (tCons (tCallV CL 9 1 (tCons (tVar 4) tNil)) (tCons (tOp rMinus (tVar 2) (tCall (sp_bits_ahead K) [] E0 (tCons (tVar 3) (tCons (tVar 4) (tCons (tC (.int 1)) tNil))))) tNil))))))))
abbrev n_one_place : List Str := ["tables", "look", "nth", "ahead", "number"]

theorem rd_one_place (K : PySem.W.Frag) (CL : CLs) (vs : List V) (H : Hp) (Q : VK) (E : XK) (h : sp_one_place K CL vs H Q E) : t_one_place K CL E { nx := fun _ H' => Q .non H', rt := Q } (start n_one_place vs) H := by
  obtain ⟨t, g, nth, bs, q, I, L, rfl, R, hI, hL, q1, q2⟩ := h
  obtain ⟨pa, hT, hA⟩ := R.tab
  unfold t_one_place
  have hf := R.look.fn hI
  walk_at "st"
  refine k_ixT hT (x := .ref pa) rfl ?_
  walk_at "st"
  walk_at "if" <;> intro c
  · walk_at "st"
    exact q1 (.inl c) _ (Same.refl _)
  · walk_at "st"
    refine k_ixT hA (aheadT_last bs) ?_
    walk_at "st"
    walk_at "if" <;> intro c1
    · walk_at "st"
      exact q1 (.inr c1) _ (Same.refl _)
    · walk_at "st"
      have hs : nth < aheadK bs 1 ((bs.length + 31) / 32) := by
        unfold aheadK; rw [if_pos rfl, sumTo_all bs (by omega)]; omega
      refine ⟨pa, bs, nth, 1, rfl, hA, R.len, by omega, hs, fun j hj h4 h5 => ?_⟩
      unfold aheadK at h4 h5
      rw [if_pos rfl] at h4 h5
      walk_at "st"
      refine R.look.ask hI (by omega) (by rw [blks_len]; exact hj) fun H1 i1 s1 => ?_
      walk_at "st"
      refine ⟨pa, bs, j, 1, rfl, s1.seqT hA, by omega, ?_⟩
      unfold aheadK
      rw [if_pos rfl]
      walk_at "st"
      have hg := blks_getD (bs := bs) hj
      refine ⟨_, _, rfl, by omega, fun k hk hb ho => ?_, fun ho => ?_⟩
      · walk_at "st"
        rw [bit_blks R.bits hg hk] at hb
        rw [onesIn_blks R.bits hg k (by omega)] at ho
        have hlt : 32 * j + k < bs.length := by
          rcases Nat.lt_or_ge (32 * j + k) bs.length with z | z
          · exact z
          · rw [List.getD_eq_getElem?_getD, List.getElem?_eq_none z] at hb; simp at hb
        rw [show (32 : Int) * (j : Int) + (k : Int) = ((32 * j + k : Nat) : Int) by push_cast; rfl]
        exact q2 (32 * j + k) hlt hb (by omega) H1 (by rw [show (32 * j + k) / 32 = j by omega]; exact i1) s1
      · exfalso
        rw [onesIn_blks R.bits hg 32 (Nat.le_refl _), show 32 * j + 32 = 32 * (j + 1) by omega] at ho
        omega

theorem bit_tb {b : Int} (h : 0 ≤ b) (k : Nat) : bit b k = if b.toNat.testBit k then 1 else 0 := by
  unfold bit
  rw [Nat.testBit_eq_decide_div_mod_eq]
  have e : b / 2 ^ k % 2 = ((b.toNat / 2 ^ k % 2 : Nat) : Int) := by
    push_cast
    rw [Int.toNat_of_nonneg h]
  rw [e]
  have : b.toNat / 2 ^ k % 2 = 0 ∨ b.toNat / 2 ^ k % 2 = 1 := by omega
  rcases this with z | z <;> rw [z] <;> rfl
theorem bit_xor {b : Int} (h : 0 ≤ b) {k : Nat} (hk : k < 32) : bit (Builtin.bitXor b 4294967295) k = 1 - bit b k := by
  have hx := _root_.Bits.bitXor_nonneg h (show (0 : Int) ≤ 4294967295 by decide)
  rw [bit_tb hx, bit_tb h, _root_.Bits.bitXor_pp h (by decide), Int.toNat_natCast, Nat.testBit_xor, show (4294967295 : Int).toNat = 2 ^ 32 - 1 from rfl, Nat.testBit_two_pow_sub_one, decide_eq_true hk]
  cases b.toNat.testBit k <;> rfl
theorem onesIn_xor {b : Int} (h : 0 ≤ b) : ∀ k : Nat, k ≤ 32 → onesIn (Builtin.bitXor b 4294967295) k = k - onesIn b k
  | 0, _ => rfl
  | k + 1, hk => by
    show onesIn _ k + bit _ k = _ - (onesIn b k + bit b k)
    rw [onesIn_xor h k (by omega), bit_xor h (by omega)]; push_cast; omega
theorem aheadT_last0 (bs : List Int) : atI ((aheadT bs).map V.int) (-1) = some (.int bs.sum) := by
  unfold aheadT
  rw [aheadN_succ, List.map_append, ← sumTo_all bs (show bs.length ≤ 32 * ((bs.length + 31) / 32) by omega)]
  exact atI_last _ _
/-- nought_place(tables, look, nth) -/
def sp_nought_place (K : PySem.W.Frag) (CL : CLs) : Sp := fun vs H Q E => ∃ (t g : Addr) (nth : Int) (bs : List Int) (q : Option Addr) (I : List Nat → Hp → Prop) (L : List Nat), vs = [.ref t, .ref g, .int nth] ∧ RowAt K CL H t g bs q I ∧ I L H ∧ L.length < 999 ∧
  ((nth < 0 ∨ (bs.length : Int) - bs.sum ≤ nth) → ∀ H', Same H H' → E (.ref (He.ga K "NoPlace")) none H') ∧
  (∀ k : Nat, k < bs.length → bs.getD k 0 = 0 → (k : Int) - sumTo bs k = nth → ∀ H', I (L ++ [k / 32]) H' → SameX q H H' → Q (.int (k : Int)) H')
theorem len_nought_place (K : PySem.W.Frag) (CL : CLs) : ∀ vs H Q E, sp_nought_place K CL vs H Q E → vs.length = 3 := by
  rintro vs H Q E ⟨t, g, a, _, _, _, _, rfl, _⟩; rfl
def t_nought_place (K : PySem.W.Frag) (CL : CLs) (E : XK) : TS :=
  (tSeq (tAsg (tVar 0) (gTup K 2 (gCons (gName 3) (gCons (gName 4) gNil))))
  (tSeq (tIfS (tOr (tTest (tOp rLt (tVar 2) (tC (.int 0)))) (tTest (tOp rGeI (tVar 2) (tOp rMinus (tVar 3) (tOp (rIxT K) (tVar 4) (tUn rNeg (tC (.int 1))))))))
  (tRz (fun cls d _ H => E cls d H) (He.ga K "NoPlace"))
  tNext)
  (tSeq (tAsg (tCall (sp_block_by K) [] E0 (tCons (tVar 4) (tCons (tVar 2) (tCons (tC (.int 0)) tNil)))) (gName 5))
  (tRet (tOp rPlus (tOp rTimes (tC (.int 32)) (tVar 5)) (tCall (sp_one_in K) [] E0 (tCons (tOp rBitXor (tCallV CL 9 1 (tCons (tVar 5) tNil)) (tC (.int 4294967295))) (tCons (tOp rMinus (tVar 2) (tCall (sp_bits_ahead K) [] E0 (tCons (tVar 4) (tCons (tVar 5) (tCons (tC (.int 0)) tNil))))) tNil))))))))
abbrev n_nought_place : List Str := ["tables", "look", "nth", "many", "ahead", "number"]

theorem rd_nought_place (K : PySem.W.Frag) (CL : CLs) (vs : List V) (H : Hp) (Q : VK) (E : XK) (h : sp_nought_place K CL vs H Q E) : t_nought_place K CL E { nx := fun _ H' => Q .non H', rt := Q } (start n_nought_place vs) H := by
  obtain ⟨t, g, nth, bs, q, I, L, rfl, R, hI, hL, q1, q2⟩ := h
  obtain ⟨pa, hT, hA⟩ := R.tab
  unfold t_nought_place
  have hf := R.look.fn hI
  walk_at "st"
  refine m_gTup hT rfl ?_
  walk_at "st"
  walk_at "if" <;> intro c
  · walk_at "st"
    exact q1 (.inl c) _ (Same.refl _)
  · walk_at "st"
    refine k_ixT hA (aheadT_last0 bs) ?_
    walk_at "st"
    walk_at "if" <;> intro c1
    · walk_at "st"
      exact q1 (.inr c1) _ (Same.refl _)
    · walk_at "st"
      have hs : nth < aheadK bs 0 ((bs.length + 31) / 32) := by
        unfold aheadK; rw [if_neg (by decide), sumTo_all bs (by omega)]; omega
      refine ⟨pa, bs, nth, 0, rfl, hA, R.len, by omega, hs, fun j hj h4 h5 => ?_⟩
      unfold aheadK at h4 h5
      rw [if_neg (by decide)] at h4 h5
      walk_at "st"
      refine R.look.ask hI (by omega) (by rw [blks_len]; exact hj) fun H1 i1 s1 => ?_
      walk_at "st"
      refine ⟨pa, bs, j, 0, rfl, s1.seqT hA, by omega, ?_⟩
      unfold aheadK
      rw [if_neg (by decide)]
      walk_at "st"
      have hg := blks_getD (bs := bs) hj
      have hb0 := (blks_range R.bits hg).1
      refine ⟨_, _, rfl, by omega, fun k hk hb ho => ?_, fun ho => ?_⟩
      · walk_at "st"
        rw [bit_xor hb0 hk, bit_blks R.bits hg hk] at hb
        rw [onesIn_xor hb0 k (by omega), onesIn_blks R.bits hg k (by omega)] at ho
        have hlt : 32 * j + k < bs.length := by
          rcases Nat.lt_or_ge (32 * j + k) bs.length with z | z
          · exact z
          · rw [sumTo_all bs z] at ho; omega
        rw [show (32 : Int) * (j : Int) + (k : Int) = ((32 * j + k : Nat) : Int) by push_cast; rfl]
        exact q2 (32 * j + k) hlt (by omega) (by push_cast; omega) H1 (by rw [show (32 * j + k) / 32 = j by omega]; exact i1) s1
      · exfalso
        rw [onesIn_xor hb0 32 (Nat.le_refl _), onesIn_blks R.bits hg 32 (Nat.le_refl _), show 32 * j + 32 = 32 * (j + 1) by omega] at ho
        push_cast at h5
        omega

/-- _law_look(blocks, seen): a look that writes down what it is asked for -/
def sp_law_look_law_told (_ : PySem.W.Frag) (_ : CLs) (_ : Nat) (ws vs : List V) (H : Hp) (Q : VK) : Prop := ∃ (ps pb : Addr) (L bl : List Int) (k : Int), ws = [.ref ps, .ref pb] ∧ vs = [.int k] ∧ H ps = some (.lst (L.map V.int)) ∧ L.length < 100000 ∧ ps ≠ pb ∧ H pb = some (.lst (bl.map V.int)) ∧
  Q (if 0 ≤ k ∧ k < (bl.map V.int).length then (bl.map V.int).getD k.toNat .non else .int 0) (upd H ps (.lst ((L ++ [k]).map V.int)))
theorem len_law_look_law_told (K : PySem.W.Frag) (CL : CLs) (j : Nat) : ∀ ws vs H Q, sp_law_look_law_told K CL j ws vs H Q → vs.length = 1 := by
  rintro ws vs H Q ⟨p, xs, i, x, k, rfl, rfl, _⟩; rfl
def sp_law_look (K : PySem.W.Frag) (CL : CLs) : Sp := fun vs H Q _ => ∃ (pb ps : Addr) (bl : List Int) (L : List V), vs = [.ref pb, .ref ps] ∧ ps ≠ pb ∧ H ps = some (.lst L) ∧ H pb = some (.lst (bl.map V.int)) ∧ NdefX.TabN H (tabP K "_law_look") nmL ∧ ∀ g H', H g = none → Same H H' → LogLook CL 1 g ps pb (bl.map V.int) (.int 0) (newOf H H') → Q (.ref g) H'
theorem len_law_look (K : PySem.W.Frag) (CL : CLs) : ∀ vs H Q E, sp_law_look K CL vs H Q E → vs.length = 2 := by
  rintro vs H Q E ⟨a, b, c, xs, rfl, _⟩; rfl
def t_law_look_law_told (K : PySem.W.Frag) (CL : CLs) (j : Nat) : TS :=
  (tSeq (tDrop (tBM K "list" rAppend (tVar 1) (tCons (tVar 0) tNil)))
  (tSeq (tIfS (tTest (tChain rLe rLt (tC (.int 0)) (tVar 0) (tCB (rLen K) (tCons (tVar 2) tNil))))
  (tRet (tOp (rIxL K) (tVar 2) (tVar 0)))
  tNext)
  (tRet (tC (.int 0)))))
abbrev n_law_look_law_told : List Str := ["_law_number", "_law_seen", "_law_blocks"]
def tp_law_look (K : PySem.W.Frag) (P : Addr) (mk : Addr → NdefX.NF) : TS :=
  (tNdefC P 2 mk)
def te_law_look (K : PySem.W.Frag) (P : Addr) (mk : Addr → NdefX.NF) : TE :=
  (tVar 2)
def t_law_look (K : PySem.W.Frag) (P : Addr) (mk : Addr → NdefX.NF) (G : V → L2.St → Hp → Prop) : L2.St → Hp → Prop := tp_law_look K P mk (Ends.mk (fun σ' H' => te_law_look K P mk σ' H' fun v H'' => G v σ' H'') (fun _ _ => False) (fun _ _ => False) (fun _ _ => False))
abbrev n_law_look : List Str := ["_law_blocks", "_law_seen", "_law_told"]

theorem rd_law_look_law_told (K : PySem.W.Frag) (CL : CLs) (j : Nat) (vs ws : List V) (H : Hp) (Q : VK) (h : sp_law_look_law_told K CL j ws vs H Q) : t_law_look_law_told K CL j { nx := fun _ H' => Q .non H', rt := Q } (NdefX.startF n_law_look_law_told vs (ws.map some)) H := by
  obtain ⟨ps, pb, L, bl, k, rfl, rfl, e, hl, nb, hS, q⟩ := h
  unfold t_law_look_law_told
  walk_at "st"
  refine k_tyL (.of e) ?_
  walk_at "st"
  refine k_app e (by rw [List.length_map]; exact hl) ?_
  walk_at "st"
  have hS2 : (upd H ps (.lst (L.map V.int ++ [V.int k]))) pb = some (.lst (bl.map V.int)) := by rw [upd_ne nb.symm]; exact hS
  have eL : L.map V.int ++ [V.int k] = (L ++ [k]).map V.int := by rw [List.map_append]; rfl
  rw [← eL] at q
  walk_at "if" <;> intro c0
  · walk_at "st"
    refine k_lenL (.of hS2) ?_
    walk_at "st"
    rw [List.length_map]
    walk_at "if" <;> intro c1
    · walk_at "st"
      have hk : k.toNat < bl.length := by omega
      refine k_ixL (.of hS2) (at_int c0 (mapint (List.getElem?_eq_getElem hk))) ?_
      walk_at "st"
      rw [if_pos ⟨c0, by rw [List.length_map]; exact c1⟩, List.getD_eq_getElem?_getD, mapint (List.getElem?_eq_getElem hk)] at q
      exact q
    · walk_at "st"
      rw [if_neg (by rw [List.length_map]; omega)] at q
      exact q
  · walk_at "st"
    rw [if_neg (by omega)] at q
    exact q
theorem rd_law_look (K : PySem.W.Frag) (CL : CLs) (P : Addr) (hP : P = tabP K "_law_look") (mk : Addr → NdefX.NF) (vs : List V) (H : Hp) (Q : VK) (E : XK) (h : sp_law_look K CL vs H Q E) (G : V → L2.St → Hp → Prop)
(hG : ∀ v σ' H'', (∀ C dC H', Upg CL 0 NdefX.FnO mk [1, 0] (sp_law_look_law_told K CL) C dC σ' H'' H' → Q v H') → G v σ' H'')
    : t_law_look K P mk G (start n_law_look vs) H := by
  subst hP
  obtain ⟨pb, ps, bl, L, rfl, nb, hs, hS, hT, q⟩ := h
  unfold t_law_look tp_law_look te_law_look
  walk_at "st"
  refine m_ndefC hT fun f c' H1 s1 f0 f1 c1 => ?_
  walk_at "st"
  refine hG _ _ _ fun C dC H' u => ?_
  refine q f H' f0 (s1.trans u.up) fun H3 s3 => ⟨?_, fun L k Q3 e3 hl3 hS3 q3 => ?_⟩
  · exact (isFn_fno (newOf_ext (u.up.get f1))).ext s3
  · have hx3 : ∀ b φ, H' b = some (.ext φ) → H3 b = some (.ext φ) := fun b φ e => s3 b _ (newOf_ext e) fun _ z => nomatch z
    have ns : ¬ C ps := upg_out u (s1.get hs)
    have np : ¬ C pb := upg_out u (s1.get hS)
    refine u.law f c' f1 c1 [.ref ps, .ref pb] rfl 0 H3 _ Q3 hx3 ⟨ps, pb, L, bl, k, rfl, rfl, (hide_out ns).trans e3, hl3, nb, (hide_out np).trans hS3, ?_⟩
    show Q3 _ (unhide C H3 (upd (hide C H3) ps _))
    rw [unhide_upd ns]
    exact q3

/-- _law_few(seen, size, most) -/
def sp_law_few (K : PySem.W.Frag) : Sp := fun vs H Q _ => ∃ (a : Addr) (ns : List Int) (n m : Int), vs = [.ref a, .int n, .int m] ∧ SqL K H a (ns.map V.int) ∧ ns.length ≤ 4000 ∧ (∀ x ∈ ns, 0 ≤ x ∧ x < n) ∧ (unlike ns : Int) ≤ m ∧ Q (.bl true) H
theorem len_law_few (K : PySem.W.Frag) : ∀ vs H Q E, sp_law_few K vs H Q E → vs.length = 3 := by
  rintro vs H Q E ⟨a, ns, n, m, rfl, _⟩; rfl
def t_law_few (K : PySem.W.Frag) : TS :=
  (tSeq (tFor (iList K (tVar 0)) (gName 3)
  (tIfS (tOr (tNot (tB (tCall (sp_law_whole K) [] E0 (tCons (tVar 3) tNil)))) (tOr (tTest (tOp rLt (tVar 3) (tC (.int 0)))) (tTest (tOp rGeI (tVar 3) (tVar 1)))))
  (tRet (tC (.bl false)))
  tNext))
  (tRet (tOp rLe (tLenSet K (tVar 0)) (tVar 2))))
abbrev n_law_few : List Str := ["_law_seen", "_law_size", "_law_most", "_law_number"]

theorem rd_law_few (K : PySem.W.Frag) (vs : List V) (H : Hp) (Q : VK) (E : XK) (h : sp_law_few K vs H Q E) : t_law_few K { nx := fun _ H' => Q .non H', rt := Q } (start n_law_few vs) H := by
  obtain ⟨a, ns, n, m, rfl, hS, hl, hr, hu, q⟩ := h
  unfold t_law_few
  walk_at "st"
  refine m_iLe hS ?_
  refine loop_ints (ns := ns) (fun i σ H' => ∃ y, σ = [some (.ref a), some (.int n), some (.int m), y] ∧ H' = H) ⟨none, rfl, rfl⟩ (fun i σ H' ⟨_, _, e⟩ => e ▸ hS) ?_ ?_
  · rintro i x σ H' hx ⟨y, rfl, rfl⟩
    have hx2 := hr x (List.mem_of_getElem? hx)
    walk_at "st"
    refine whole_int ?_
    walk_at "st"
    refine k_decF (by omega) ?_
    walk_at "st"
    refine k_decF (by omega) ?_
    walk_at "st"
    exact ⟨_, rfl, rfl⟩
  · rintro σ H' ⟨y, rfl, rfl⟩
    walk_at "st"
    refine m_lenSetE hS hl ?_
    walk_at "st"
    rw [decide_eq_true hu]
    exact q

/-- few of what was asked for -/
theorem few_asked {L2 : List Nat} {n : Nat} {m : Nat} (hL : L2.length ≤ m) (hm : m ≤ 100) (hr : ∀ j ∈ L2, j < n) :
    ([] ++ L2.map Int.ofNat : List Int).length ≤ 4000 ∧ (∀ x ∈ ([] ++ L2.map Int.ofNat : List Int), 0 ≤ x ∧ x < (n : Int)) ∧ (unlike ([] ++ L2.map Int.ofNat) : Int) ≤ (m : Int) := by
  have e : ([] ++ L2.map Int.ofNat : List Int).length = L2.length := by rw [List.nil_append, List.length_map]
  refine ⟨by omega, fun x hx => ?_, by have := unlike_le ([] ++ L2.map Int.ofNat); omega⟩
  rw [List.nil_append] at hx
  obtain ⟨k, hk, rfl⟩ := List.mem_map.mp hx
  have := hr k hk
  show (0 : Int) ≤ (k : Int) ∧ (k : Int) < _
  omega

--#base
/-- the places of the bits that are b, among the first n -/
def dueN (bs : List Int) (b : Int) (n : Nat) : List Int := (List.range n).filterMap fun i => if bs.getD i 0 = b then some (i : Int) else none
theorem dueN_succ (bs : List Int) (b : Int) (n : Nat) : dueN bs b (n + 1) = dueN bs b n ++ (if bs.getD n 0 = b then [(n : Int)] else []) := by
  unfold dueN
  rw [List.range_succ, List.filterMap_append]
  congr 1
  rw [List.filterMap_cons]
  split
  · rename_i h; split at h
    · cases h
    · rename_i h2; rw [if_neg h2]; rfl
  · rename_i y h; split at h
    · rename_i h2; rw [if_pos h2]; cases h; rfl
    · cases h
theorem dueN_len1 {bs : List Int} (h : Bits bs) (n : Nat) : ((dueN bs 1 n).length : Int) = sumTo bs n := by
  induction n with
  | zero => rfl
  | succ n ih =>
    rw [dueN_succ, sumTo_succ, List.length_append]
    have := getD_bit h n
    split
    · rename_i e; rw [e]; push_cast; simp only [List.length_cons, List.length_nil]; omega
    · rename_i e; push_cast; simp only [List.length_nil]; omega
theorem dueN_len0 {bs : List Int} (h : Bits bs) (n : Nat) : ((dueN bs 0 n).length : Int) = n - sumTo bs n := by
  induction n with
  | zero => rfl
  | succ n ih =>
    rw [dueN_succ, sumTo_succ, List.length_append]
    have := getD_bit h n
    split
    · rename_i e; rw [e]; push_cast; simp only [List.length_cons, List.length_nil]; omega
    · rename_i e; push_cast; simp only [List.length_nil]; omega
theorem dueN_get {bs : List Int} {b : Int} {n k : Nat} (hk : k < n) (e : bs.getD k 0 = b) : (dueN bs b n)[(dueN bs b k).length]? = some (k : Int) := by
  induction n with
  | zero => omega
  | succ n ih =>
    rw [dueN_succ]
    rcases Nat.lt_or_ge k n with z | z
    · have h := ih z
      rw [List.getElem?_append_left (List.getElem?_eq_some_iff.mp h).1]; exact h
    · obtain rfl : k = n := by omega
      rw [List.getElem?_append_right (Nat.le_refl _), Nat.sub_self, if_pos e]; rfl
theorem dueN_le (bs : List Int) (b : Int) (n : Nat) : (dueN bs b n).length ≤ n := by
  unfold dueN
  refine Nat.le_trans (List.length_filterMap_le _ _) ?_
  rw [List.length_range]; exact Nat.le_refl _
theorem due_at {bs : List Int} (h : Bits bs) {z : Int} (z0 : 0 ≤ z) (z1 : z < bs.sum) : ∃ k, k < bs.length ∧ bs.getD k 0 = 1 ∧ sumTo bs k = z := by
  have key : ∀ n : Nat, z < sumTo bs n → ∃ k, k < n ∧ bs.getD k 0 = 1 ∧ sumTo bs k = z := by
    intro n
    induction n with
    | zero => intro w; rw [sumTo_zero] at w; omega
    | succ n ih =>
      intro w
      have hs := sumTo_succ bs n
      have hb := getD_bit h n
      rcases Int.lt_or_le z (sumTo bs n) with c | c
      · obtain ⟨k, k1, k2, k3⟩ := ih c
        exact ⟨k, by omega, k2, k3⟩
      · exact ⟨n, by omega, by omega, by omega⟩
  have := key bs.length (by rw [sumTo_all bs (Nat.le_refl _)]; exact z1)
  exact this

/-- an answer: a number or None -/
def AV : Option Int → V
  | none => .non
  | some x => .int x
/-- what the plain row answers -/
def ans (bs : List Int) (w x : Int) : Option Int :=
  if w = 0 ∧ 0 ≤ x ∧ x < bs.length then some (bs.getD x.toNat 0)
  else if w = 1 ∧ 0 ≤ x ∧ x ≤ bs.length then some (sumTo bs x.toNat)
  else if w = 2 ∧ 0 ≤ x ∧ x ≤ bs.length then some (x - sumTo bs x.toNat)
  else if w = 3 ∧ 0 ≤ x ∧ x < (dueN bs 1 bs.length).length then some ((dueN bs 1 bs.length).getD x.toNat 0)
  else if w = 4 ∧ 0 ≤ x ∧ x < (dueN bs 0 bs.length).length then some ((dueN bs 0 bs.length).getD x.toNat 0)
  else none
def cntL (bs : List Int) (n : Nat) : List Int := (List.range (n + 1)).map fun k => sumTo bs k
theorem cntL_len (bs : List Int) (n : Nat) : (cntL bs n).length = n + 1 := by unfold cntL; rw [List.length_map, List.length_range]
theorem cntL_get (bs : List Int) {n k : Nat} (h : k ≤ n) : (cntL bs n)[k]? = some (sumTo bs k) := by unfold cntL; rw [List.getElem?_map, List.getElem?_range (by omega)]; rfl
theorem cntL_succ (bs : List Int) (n : Nat) : cntL bs (n + 1) = cntL bs n ++ [sumTo bs (n + 1)] := by unfold cntL; rw [List.range_succ, List.map_append]; rfl
theorem cntL_last (bs : List Int) (n : Nat) : atI ((cntL bs n).map V.int) (-1) = some (.int (sumTo bs n)) := by
  cases n with
  | zero => exact atI_last [] _
  | succ n => rw [cntL_succ, List.map_append]; exact atI_last _ _
/-- what is walked -/
def WalkH (H : Hp) (w : Addr) (bs : List Int) : Prop := ∃ c z o, H w = some (.tup [.ref c, .ref z, .ref o]) ∧ H c = some (.lst ((cntL bs bs.length).map V.int)) ∧ H z = some (.lst ((dueN bs 0 bs.length).map V.int)) ∧ H o = some (.lst ((dueN bs 1 bs.length).map V.int))
theorem WalkH.same {H H' : Hp} {w : Addr} {bs : List Int} (h : WalkH H w bs) (s : Same H H') : WalkH H' w bs := by
  obtain ⟨c, z, o, h1, h2, h3, h4⟩ := h
  exact ⟨c, z, o, s.get h1, s.get h2, s.get h3, s.get h4⟩
/-- _law_walked(bits) -/
def sp_law_walked (K : PySem.W.Frag) : Sp := fun vs H Q _ => ∃ (a : Addr) (bs : List Int), vs = [.ref a] ∧ H a = some (.lst (bs.map V.int)) ∧ Bits bs ∧ bs.length ≤ 5000 ∧ ∀ w H', H w = none → Same H H' → WalkH H' w bs → Q (.ref w) H'
theorem len_law_walked (K : PySem.W.Frag) : ∀ vs H Q E, sp_law_walked K vs H Q E → vs.length = 1 := by
  rintro vs H Q E ⟨a, ds, rfl, _⟩; rfl
def t_law_walked (K : PySem.W.Frag) : TS :=
  (tSeq (tAsg (tLst (tCons (tC (.int 0)) tNil)) (gName 1))
  (tSeq (tAsg (tLst (tCons (tLst tNil) (tCons (tLst tNil) tNil))) (gName 2))
  (tSeq (tFor (iRng1 (tCons (tCB (rLen K) (tCons (tVar 0) tNil)) tNil)) (gName 3)
  (tSeq (tDrop (tBM K "list" rAppend (tVar 1) (tCons (tOp rPlus (tOp (rIxL K) (tVar 1) (tUn rNeg (tC (.int 1)))) (tOp (rIxL K) (tVar 0) (tVar 3))) tNil)))
  (tDrop (tBM K "list" rAppend (tOp (rIxL K) (tVar 2) (tOp (rIxL K) (tVar 0) (tVar 3))) (tCons (tVar 3) tNil)))))
  (tRet (tTup (tCons (tVar 1) (tCons (tOp (rIxL K) (tVar 2) (tC (.int 0))) (tCons (tOp (rIxL K) (tVar 2) (tC (.int 1))) tNil))))))))
abbrev n_law_walked : List Str := ["_law_bits_here", "_law_counts", "_law_places", "_law_at"]

theorem rd_law_walked (K : PySem.W.Frag) (vs : List V) (H : Hp) (Q : VK) (E : XK) (h : sp_law_walked K vs H Q E) : t_law_walked K { nx := fun _ H' => Q .non H', rt := Q } (start n_law_walked vs) H := by
  obtain ⟨a, bs, rfl, hS, hB, hl, q⟩ := h
  unfold t_law_walked
  walk_at "st"
  intro pc hpc
  obtain ⟨s0, e0⟩ := new_both (o := .lst [.int 0]) hpc
  generalize upd H pc (.lst [.int 0]) = H0 at s0 e0 ⊢
  walk_at "st"
  intro pz hpz
  obtain ⟨s1, e1⟩ := new_both (o := .lst []) hpz
  generalize upd H0 pz (.lst []) = H1 at s1 e1 ⊢
  walk_at "st"
  intro po hpo
  obtain ⟨s2, e2⟩ := new_both (o := .lst []) hpo
  generalize upd H1 po (.lst []) = H2 at s2 e2 ⊢
  walk_at "st"
  intro pp hpp
  obtain ⟨s3, e3⟩ := new_both (o := .lst [.ref pz, .ref po]) hpp
  generalize upd H2 pp (.lst [.ref pz, .ref po]) = H3 at s3 e3 ⊢
  have s03 := s0.trans (s1.trans (s2.trans s3))
  have c3 := (s1.trans (s2.trans s3)).get e0
  have z3 := (s2.trans s3).get e1
  have o3 := s3.get e2
  have ncz : pc ≠ pz := ne_of_none e0 hpz
  have nco : pc ≠ po := ne_of_none (s1.get e0) hpo
  have ncp : pc ≠ pp := ne_of_none ((s1.trans s2).get e0) hpp
  have nzo : pz ≠ po := ne_of_none e1 hpo
  have nzp : pz ≠ pp := ne_of_none (s2.get e1) hpp
  have nop : po ≠ pp := ne_of_none e2 hpp
  have gz : H pz = none := s0.gone _ hpz
  have go : H po = none := (s0.trans s1).gone _ hpo
  walk_at "st"
  refine k_lenL (.of (s03.get hS)) ?_
  walk_at "st"
  rw [List.length_map]
  refine loop_range0 (fun i σ' H' => ∃ v, Same H H' ∧ i ≤ bs.length ∧ H' pc = some (.lst ((cntL bs i).map V.int)) ∧ H' pz = some (.lst ((dueN bs 0 i).map V.int)) ∧ H' po = some (.lst ((dueN bs 1 i).map V.int)) ∧ H' pp = some (.lst [.ref pz, .ref po]) ∧ σ' = [some (.ref a), some (.ref pc), some (.ref pp), v]) ⟨none, s03, Nat.zero_le _, c3, z3, o3, e3, rfl⟩ (fun i σ' H' hi ⟨v, s, _, c, z, o, p, es⟩ => ?_) (fun σ' H' ⟨v, s, _, c, z, o, p, es⟩ => ?_)
  · subst es
    have eb := List.getElem?_eq_getElem hi
    have db : bs.getD i 0 = bs[i] := by rw [List.getD_eq_getElem?_getD, eb]; rfl
    have hb := getD_bit hB i
    have hsu := sumTo_succ bs i
    generalize bs[i] = b at eb db
    rw [db] at hb hsu
    walk_at "st"
    refine k_tyL (.of c) ?_
    walk_at "st"
    refine k_ixL (.of c) (cntL_last bs i) ?_
    walk_at "st"
    refine k_ixL (.of (s.get hS)) (at_nat (mapint eb)) ?_
    walk_at "st"
    refine k_app c (by rw [List.length_map, cntL_len]; omega) ?_
    rw [show (cntL bs i).map V.int ++ [V.int (sumTo bs i + b)] = (cntL bs (i + 1)).map V.int by rw [cntL_succ, hsu, List.map_append]; rfl]
    have s4 := Same.mut s hpc ⟨_, c⟩ (o := .lst ((cntL bs (i + 1)).map V.int))
    have c4 := upd_same (H := H') (a := pc) (o := .lst ((cntL bs (i + 1)).map V.int))
    have z4 : upd H' pc (.lst ((cntL bs (i + 1)).map V.int)) pz = _ := (upd_ne ncz.symm).trans z
    have o4 : upd H' pc (.lst ((cntL bs (i + 1)).map V.int)) po = _ := (upd_ne nco.symm).trans o
    have p4 : upd H' pc (.lst ((cntL bs (i + 1)).map V.int)) pp = _ := (upd_ne ncp.symm).trans p
    generalize upd H' pc (.lst ((cntL bs (i + 1)).map V.int)) = H4 at s4 c4 z4 o4 p4 ⊢
    walk_at "st"
    rcases hb with rfl | rfl
    · refine k_ixL (.of (s4.get hS)) (at_nat (mapint eb)) ?_
      walk_at "st"
      refine k_ixL (.of p4) (x := .ref pz) rfl ?_
      walk_at "st"
      refine k_tyL (.of z4) ?_
      walk_at "st"
      refine k_app z4 (by rw [List.length_map]; have := dueN_le bs 0 i; omega) ?_
      refine ⟨_, Same.mut s4 gz ⟨_, z4⟩, by omega, (upd_ne ncz).trans c4, ?_, ?_, (upd_ne nzp.symm).trans p4, rfl⟩
      · rw [upd_same, dueN_succ, if_pos db, List.map_append]; rfl
      · rw [upd_ne nzo.symm, o4, dueN_succ, if_neg (by rw [db]; decide), List.append_nil]
    · refine k_ixL (.of (s4.get hS)) (at_nat (mapint eb)) ?_
      walk_at "st"
      refine k_ixL (.of p4) (x := .ref po) rfl ?_
      walk_at "st"
      refine k_tyL (.of o4) ?_
      walk_at "st"
      refine k_app o4 (by rw [List.length_map]; have := dueN_le bs 1 i; omega) ?_
      refine ⟨_, Same.mut s4 go ⟨_, o4⟩, by omega, (upd_ne nco).trans c4, ?_, ?_, (upd_ne nop.symm).trans p4, rfl⟩
      · rw [upd_ne nzo, z4, dueN_succ, if_neg (by rw [db]; decide), List.append_nil]
      · rw [upd_same, dueN_succ, if_pos db, List.map_append]; rfl
  · subst es
    walk_at "st"
    refine k_ixL (.of p) (x := .ref pz) rfl ?_
    walk_at "st"
    refine k_ixL (.of p) (x := .ref po) rfl ?_
    walk_at "st"
    intro w hw
    have sw := same_new (o := .tup [.ref pc, .ref pz, .ref po]) hw
    exact q w _ (s.gone _ hw) (s.trans sw) ⟨pc, pz, po, upd_same, sw.get c, sw.get z, sw.get o⟩
/-- _law_due(bits, walked, kind, at) -/
def sp_law_due (K : PySem.W.Frag) : Sp := fun vs H Q _ => ∃ (b w : Addr) (k : Nat) (x : Int) (bs : List Int), vs = [.ref b, .ref w, .int (k : Int), .int x] ∧ k < 5 ∧ H b = some (.lst (bs.map V.int)) ∧ WalkH H w bs ∧ Q (AV (ans bs k x)) H
theorem len_law_due (K : PySem.W.Frag) : ∀ vs H Q E, sp_law_due K vs H Q E → vs.length = 4 := by
  rintro vs H Q E ⟨a, _, _, _, ds, rfl, _⟩; rfl
def t_law_due (K : PySem.W.Frag) : TS :=
  (tSeq (tIfS (tAnd (tTest (tOp rEq (tVar 2) (tC (.int 0)))) (tTest (tChain rLe rLt (tC (.int 0)) (tVar 3) (tCB (rLen K) (tCons (tVar 0) tNil)))))
  (tRet (tOp (rIxL K) (tVar 0) (tVar 3)))
  tNext)
  (tSeq (tIfS (tAnd (tTest (tOp rEq (tVar 2) (tC (.int 1)))) (tTest (tChain rLe rLe (tC (.int 0)) (tVar 3) (tCB (rLen K) (tCons (tVar 0) tNil)))))
  (tRet (tOp (rIxL K) (tOp (rIxT K) (tVar 1) (tC (.int 0))) (tVar 3)))
  tNext)
  (tSeq (tIfS (tAnd (tTest (tOp rEq (tVar 2) (tC (.int 2)))) (tTest (tChain rLe rLe (tC (.int 0)) (tVar 3) (tCB (rLen K) (tCons (tVar 0) tNil)))))
  (tRet (tOp rMinus (tVar 3) (tOp (rIxL K) (tOp (rIxT K) (tVar 1) (tC (.int 0))) (tVar 3))))
  tNext)
  (tSeq (tIfS (tAnd (tTest (tOp rEq (tVar 2) (tC (.int 3)))) (tTest (tChain rLe rLt (tC (.int 0)) (tVar 3) (tCB (rLen K) (tCons (tOp (rIxT K) (tVar 1) (tC (.int 2))) tNil)))))
  (tRet (tOp (rIxL K) (tOp (rIxT K) (tVar 1) (tC (.int 2))) (tVar 3)))
  tNext)
  (tSeq (tIfS (tAnd (tTest (tOp rEq (tVar 2) (tC (.int 4)))) (tTest (tChain rLe rLt (tC (.int 0)) (tVar 3) (tCB (rLen K) (tCons (tOp (rIxT K) (tVar 1) (tC (.int 1))) tNil)))))
  (tRet (tOp (rIxL K) (tOp (rIxT K) (tVar 1) (tC (.int 1))) (tVar 3)))
  tNext)
  (tRet (tC .non)))))))
abbrev n_law_due : List Str := ["_law_bits_here", "_law_walked_here", "_law_kind", "_law_at"]

theorem rd_law_due (K : PySem.W.Frag) (vs : List V) (H : Hp) (Q : VK) (E : XK) (h : sp_law_due K vs H Q E) : t_law_due K { nx := fun _ H' => Q .non H', rt := Q } (start n_law_due vs) H := by
  obtain ⟨b, w, k, x, bs, rfl, hk, hb, ⟨c, z, o, hw, hc, hz, ho⟩, q⟩ := h
  have k5 : k = 0 ∨ k = 1 ∨ k = 2 ∨ k = 3 ∨ k = 4 := by omega
  unfold t_law_due
  rcases k5 with rfl | rfl | rfl | rfl | rfl
  · walk_at "st"
    refine k_decT (by decide) ?_
    walk_at "st"
    by_cases c0 : 0 ≤ x
    · refine k_decT c0 ?_
      walk_at "st"
      refine k_lenL (.of hb) ?_
      walk_at "st"
      rw [List.length_map]
      by_cases c1 : x < (bs.length : Int)
      · refine k_decT c1 ?_
        walk_at "st"
        have e : ans bs ((0 : Nat) : Int) x = some (bs.getD x.toNat 0) := by
          unfold ans
          rw [if_pos ⟨by decide, c0, c1⟩]
        rw [e] at q
        have hx : x.toNat < bs.length := by omega
        refine k_ixL (.of hb) (at_int c0 (mapint (show bs[x.toNat]? = some (bs.getD x.toNat 0) by rw [List.getD_eq_getElem?_getD, List.getElem?_eq_getElem hx]; rfl))) ?_
        walk_at "st"
        exact q
      · refine k_decF c1 ?_
        walk_at "st"
        have e : ans bs ((0 : Nat) : Int) x = none := by
          unfold ans
          rw [if_neg fun z => c1 z.2.2]
          rw [if_neg fun z => absurd z.1 (by decide)]
          rw [if_neg fun z => absurd z.1 (by decide)]
          rw [if_neg fun z => absurd z.1 (by decide)]
          rw [if_neg fun z => absurd z.1 (by decide)]
        rw [e] at q
        refine k_decF (by decide) ?_
        walk_at "st"
        refine k_decF (by decide) ?_
        walk_at "st"
        refine k_decF (by decide) ?_
        walk_at "st"
        refine k_decF (by decide) ?_
        walk_at "st"
        exact q
    · refine k_decF c0 ?_
      walk_at "st"
      have e : ans bs ((0 : Nat) : Int) x = none := by
        unfold ans
        rw [if_neg fun z => c0 z.2.1]
        rw [if_neg fun z => absurd z.1 (by decide)]
        rw [if_neg fun z => absurd z.1 (by decide)]
        rw [if_neg fun z => absurd z.1 (by decide)]
        rw [if_neg fun z => absurd z.1 (by decide)]
      rw [e] at q
      refine k_decF (by decide) ?_
      walk_at "st"
      refine k_decF (by decide) ?_
      walk_at "st"
      refine k_decF (by decide) ?_
      walk_at "st"
      refine k_decF (by decide) ?_
      walk_at "st"
      exact q
  · walk_at "st"
    refine k_decF (by decide) ?_
    walk_at "st"
    refine k_decT (by decide) ?_
    walk_at "st"
    by_cases c0 : 0 ≤ x
    · refine k_decT c0 ?_
      walk_at "st"
      refine k_lenL (.of hb) ?_
      walk_at "st"
      rw [List.length_map]
      by_cases c1 : x ≤ (bs.length : Int)
      · refine k_decT c1 ?_
        walk_at "st"
        have e : ans bs ((1 : Nat) : Int) x = some (sumTo bs x.toNat) := by
          unfold ans
          rw [if_neg fun z => absurd z.1 (by decide)]
          rw [if_pos ⟨by decide, c0, c1⟩]
        rw [e] at q
        refine k_ixT (.of hw) (x := .ref c) rfl ?_
        walk_at "st"
        refine k_ixL (.of hc) (at_int c0 (mapint (cntL_get bs (show x.toNat ≤ bs.length by omega)))) ?_
        walk_at "st"
        exact q
      · refine k_decF c1 ?_
        walk_at "st"
        have e : ans bs ((1 : Nat) : Int) x = none := by
          unfold ans
          rw [if_neg fun z => absurd z.1 (by decide)]
          rw [if_neg fun z => c1 z.2.2]
          rw [if_neg fun z => absurd z.1 (by decide)]
          rw [if_neg fun z => absurd z.1 (by decide)]
          rw [if_neg fun z => absurd z.1 (by decide)]
        rw [e] at q
        refine k_decF (by decide) ?_
        walk_at "st"
        refine k_decF (by decide) ?_
        walk_at "st"
        refine k_decF (by decide) ?_
        walk_at "st"
        exact q
    · refine k_decF c0 ?_
      walk_at "st"
      have e : ans bs ((1 : Nat) : Int) x = none := by
        unfold ans
        rw [if_neg fun z => absurd z.1 (by decide)]
        rw [if_neg fun z => c0 z.2.1]
        rw [if_neg fun z => absurd z.1 (by decide)]
        rw [if_neg fun z => absurd z.1 (by decide)]
        rw [if_neg fun z => absurd z.1 (by decide)]
      rw [e] at q
      refine k_decF (by decide) ?_
      walk_at "st"
      refine k_decF (by decide) ?_
      walk_at "st"
      refine k_decF (by decide) ?_
      walk_at "st"
      exact q
  · walk_at "st"
    refine k_decF (by decide) ?_
    walk_at "st"
    refine k_decF (by decide) ?_
    walk_at "st"
    refine k_decT (by decide) ?_
    walk_at "st"
    by_cases c0 : 0 ≤ x
    · refine k_decT c0 ?_
      walk_at "st"
      refine k_lenL (.of hb) ?_
      walk_at "st"
      rw [List.length_map]
      by_cases c1 : x ≤ (bs.length : Int)
      · refine k_decT c1 ?_
        walk_at "st"
        have e : ans bs ((2 : Nat) : Int) x = some (x - sumTo bs x.toNat) := by
          unfold ans
          rw [if_neg fun z => absurd z.1 (by decide)]
          rw [if_neg fun z => absurd z.1 (by decide)]
          rw [if_pos ⟨by decide, c0, c1⟩]
        rw [e] at q
        refine k_ixT (.of hw) (x := .ref c) rfl ?_
        walk_at "st"
        refine k_ixL (.of hc) (at_int c0 (mapint (cntL_get bs (show x.toNat ≤ bs.length by omega)))) ?_
        walk_at "st"
        exact q
      · refine k_decF c1 ?_
        walk_at "st"
        have e : ans bs ((2 : Nat) : Int) x = none := by
          unfold ans
          rw [if_neg fun z => absurd z.1 (by decide)]
          rw [if_neg fun z => absurd z.1 (by decide)]
          rw [if_neg fun z => c1 z.2.2]
          rw [if_neg fun z => absurd z.1 (by decide)]
          rw [if_neg fun z => absurd z.1 (by decide)]
        rw [e] at q
        refine k_decF (by decide) ?_
        walk_at "st"
        refine k_decF (by decide) ?_
        walk_at "st"
        exact q
    · refine k_decF c0 ?_
      walk_at "st"
      have e : ans bs ((2 : Nat) : Int) x = none := by
        unfold ans
        rw [if_neg fun z => absurd z.1 (by decide)]
        rw [if_neg fun z => absurd z.1 (by decide)]
        rw [if_neg fun z => c0 z.2.1]
        rw [if_neg fun z => absurd z.1 (by decide)]
        rw [if_neg fun z => absurd z.1 (by decide)]
      rw [e] at q
      refine k_decF (by decide) ?_
      walk_at "st"
      refine k_decF (by decide) ?_
      walk_at "st"
      exact q
  · walk_at "st"
    refine k_decF (by decide) ?_
    walk_at "st"
    refine k_decF (by decide) ?_
    walk_at "st"
    refine k_decF (by decide) ?_
    walk_at "st"
    refine k_decT (by decide) ?_
    walk_at "st"
    by_cases c0 : 0 ≤ x
    · refine k_decT c0 ?_
      walk_at "st"
      refine k_ixT (.of hw) (x := .ref o) rfl ?_
      walk_at "st"
      refine k_lenL (.of ho) ?_
      walk_at "st"
      rw [List.length_map]
      by_cases c1 : x < ((dueN bs 1 bs.length).length : Int)
      · refine k_decT c1 ?_
        walk_at "st"
        have e : ans bs ((3 : Nat) : Int) x = some ((dueN bs 1 bs.length).getD x.toNat 0) := by
          unfold ans
          rw [if_neg fun z => absurd z.1 (by decide)]
          rw [if_neg fun z => absurd z.1 (by decide)]
          rw [if_neg fun z => absurd z.1 (by decide)]
          rw [if_pos ⟨by decide, c0, c1⟩]
        rw [e] at q
        have hx : x.toNat < (dueN bs 1 bs.length).length := by omega
        refine k_ixT (.of hw) (x := .ref o) rfl ?_
        walk_at "st"
        refine k_ixL (.of ho) (at_int c0 (mapint (show (dueN bs 1 bs.length)[x.toNat]? = some ((dueN bs 1 bs.length).getD x.toNat 0) by rw [List.getD_eq_getElem?_getD, List.getElem?_eq_getElem hx]; rfl))) ?_
        walk_at "st"
        exact q
      · refine k_decF c1 ?_
        walk_at "st"
        have e : ans bs ((3 : Nat) : Int) x = none := by
          unfold ans
          rw [if_neg fun z => absurd z.1 (by decide)]
          rw [if_neg fun z => absurd z.1 (by decide)]
          rw [if_neg fun z => absurd z.1 (by decide)]
          rw [if_neg fun z => c1 z.2.2]
          rw [if_neg fun z => absurd z.1 (by decide)]
        rw [e] at q
        refine k_decF (by decide) ?_
        walk_at "st"
        exact q
    · refine k_decF c0 ?_
      walk_at "st"
      have e : ans bs ((3 : Nat) : Int) x = none := by
        unfold ans
        rw [if_neg fun z => absurd z.1 (by decide)]
        rw [if_neg fun z => absurd z.1 (by decide)]
        rw [if_neg fun z => absurd z.1 (by decide)]
        rw [if_neg fun z => c0 z.2.1]
        rw [if_neg fun z => absurd z.1 (by decide)]
      rw [e] at q
      refine k_decF (by decide) ?_
      walk_at "st"
      exact q
  · walk_at "st"
    refine k_decF (by decide) ?_
    walk_at "st"
    refine k_decF (by decide) ?_
    walk_at "st"
    refine k_decF (by decide) ?_
    walk_at "st"
    refine k_decF (by decide) ?_
    walk_at "st"
    refine k_decT (by decide) ?_
    walk_at "st"
    by_cases c0 : 0 ≤ x
    · refine k_decT c0 ?_
      walk_at "st"
      refine k_ixT (.of hw) (x := .ref z) rfl ?_
      walk_at "st"
      refine k_lenL (.of hz) ?_
      walk_at "st"
      rw [List.length_map]
      by_cases c1 : x < ((dueN bs 0 bs.length).length : Int)
      · refine k_decT c1 ?_
        walk_at "st"
        have e : ans bs ((4 : Nat) : Int) x = some ((dueN bs 0 bs.length).getD x.toNat 0) := by
          unfold ans
          rw [if_neg fun z => absurd z.1 (by decide)]
          rw [if_neg fun z => absurd z.1 (by decide)]
          rw [if_neg fun z => absurd z.1 (by decide)]
          rw [if_neg fun z => absurd z.1 (by decide)]
          rw [if_pos ⟨by decide, c0, c1⟩]
        rw [e] at q
        have hx : x.toNat < (dueN bs 0 bs.length).length := by omega
        refine k_ixT (.of hw) (x := .ref z) rfl ?_
        walk_at "st"
        refine k_ixL (.of hz) (at_int c0 (mapint (show (dueN bs 0 bs.length)[x.toNat]? = some ((dueN bs 0 bs.length).getD x.toNat 0) by rw [List.getD_eq_getElem?_getD, List.getElem?_eq_getElem hx]; rfl))) ?_
        walk_at "st"
        exact q
      · refine k_decF c1 ?_
        walk_at "st"
        have e : ans bs ((4 : Nat) : Int) x = none := by
          unfold ans
          rw [if_neg fun z => absurd z.1 (by decide)]
          rw [if_neg fun z => absurd z.1 (by decide)]
          rw [if_neg fun z => absurd z.1 (by decide)]
          rw [if_neg fun z => absurd z.1 (by decide)]
          rw [if_neg fun z => c1 z.2.2]
        rw [e] at q
        exact q
    · refine k_decF c0 ?_
      walk_at "st"
      have e : ans bs ((4 : Nat) : Int) x = none := by
        unfold ans
        rw [if_neg fun z => absurd z.1 (by decide)]
        rw [if_neg fun z => absurd z.1 (by decide)]
        rw [if_neg fun z => absurd z.1 (by decide)]
        rw [if_neg fun z => absurd z.1 (by decide)]
        rw [if_neg fun z => c0 z.2.1]
      rw [e] at q
      exact q
/-- _law_told_by(tables, look, kind, at) -/
def sp_law_told_by (K : PySem.W.Frag) (CL : CLs) : Sp := fun vs H Q _ => ∃ (t g : Addr) (k : Nat) (x : Int) (bs : List Int) (q : Option Addr) (I : List Nat → Hp → Prop), vs = [.ref t, .ref g, .int (k : Int), .int x] ∧ k < 5 ∧ RowAt K CL H t g bs q I ∧ I [] H ∧
  ∀ L2 H', L2.length ≤ 1 → (∀ j ∈ L2, j < (blks bs).length) → I L2 H' → SameX q H H' → Q (AV (ans bs k x)) H'
theorem len_law_told_by (K : PySem.W.Frag) (CL : CLs) : ∀ vs H Q E, sp_law_told_by K CL vs H Q E → vs.length = 4 := by
  rintro vs H Q E ⟨a, _, _, _, _, _, _, rfl, _⟩; rfl
def t_law_told_by (K : PySem.W.Frag) (CL : CLs) : TS :=
  (tSeq (tAsg (tC .non) (gName 4))
  (tSeq (tTryOnly K (.ref (He.ga K "NoPlace")) (fun W => (tIfS (tTest (tOp rEq (tVar 2) (tC (.int 0))))
  (tAsg (tCallS (sp_bit_at K CL) (WE W) (tCons (tVar 0) (tCons (tVar 1) (tCons (tVar 3) tNil)))) (gName 4))
  (tIfS (tTest (tOp rEq (tVar 2) (tC (.int 1))))
  (tAsg (tCallS (sp_ones_at K CL) (WE W) (tCons (tVar 0) (tCons (tVar 1) (tCons (tVar 3) tNil)))) (gName 4))
  (tIfS (tTest (tOp rEq (tVar 2) (tC (.int 2))))
  (tAsg (tCallS (sp_noughts_at K CL) (WE W) (tCons (tVar 0) (tCons (tVar 1) (tCons (tVar 3) tNil)))) (gName 4))
  (tIfS (tTest (tOp rEq (tVar 2) (tC (.int 3))))
  (tAsg (tCallS (sp_one_place K CL) (WE W) (tCons (tVar 0) (tCons (tVar 1) (tCons (tVar 3) tNil)))) (gName 4))
  (tAsg (tCallS (sp_nought_place K CL) (WE W) (tCons (tVar 0) (tCons (tVar 1) (tCons (tVar 3) tNil)))) (gName 4))))))) (fun a cls d => (tAsg (tC .non) (gName 4))) (fun _ _ _ _ => False))
  (tRet (tVar 4))))
abbrev n_law_told_by : List Str := ["_law_tables", "_law_look_here", "_law_kind", "_law_at", "_law_found"]

theorem rd_law_told_by (K : PySem.W.Frag) (CL : CLs) (F : KFx K) (vs : List V) (H : Hp) (Q : VK) (E : XK) (h : sp_law_told_by K CL vs H Q E) : t_law_told_by K CL { nx := fun _ H' => Q .non H', rt := Q } (start n_law_told_by vs) H := by
  obtain ⟨t, g, k, x, bs, q, I, rfl, hk, R, hI, q1⟩ := h
  obtain ⟨pa, hT, hA⟩ := R.tab
  have hbl := blks_len bs
  have one : ∀ (k : Nat) (L' : List Nat), (L' = [] ∨ L' = [] ++ [k / 32] ∧ k / 32 < (blks bs).length) → L'.length ≤ 1 ∧ ∀ j ∈ L', j < (blks bs).length := fun k L' h => by
    rcases h with rfl | ⟨rfl, z⟩
    · exact ⟨by simp, fun j hj => by cases hj⟩
    · exact ⟨by simp, fun j hj => by rw [List.mem_singleton.mp hj]; exact z⟩
  have hlen := R.len
  have hd1 : ((dueN bs 1 bs.length).length : Int) = bs.sum := by rw [dueN_len1 R.bits, sumTo_all bs (Nat.le_refl _)]
  have hd0 : ((dueN bs 0 bs.length).length : Int) = (bs.length : Int) - bs.sum := by rw [dueN_len0 R.bits, sumTo_all bs (Nat.le_refl _)]
  have k5 : k = 0 ∨ k = 1 ∨ k = 2 ∨ k = 3 ∨ k = 4 := by omega
  unfold t_law_told_by
  rcases k5 with rfl | rfl | rfl | rfl | rfl
  · walk_at "st"
    refine k_decT (by decide) ?_
    walk_at "st"
    refine ⟨t, g, x, bs.length, _, _, _, q, I, [], rfl, hT, R.look, hI, by decide, fun z => ?_, fun k ek hk => ?_⟩
    · refine m_caughtO F.e_NoPlace_NoPlace fun xa hxa => ?_
      walk_at "st"
      have e : ans bs ((0 : Nat) : Int) x = none := by
        unfold ans
        rw [if_neg fun z => by omega]
        rw [if_neg fun z => absurd z.1 (by decide)]
        rw [if_neg fun z => absurd z.1 (by decide)]
        rw [if_neg fun z => absurd z.1 (by decide)]
        rw [if_neg fun z => absurd z.1 (by decide)]
      rw [e] at q1
      exact q1 [] H (by simp) (fun j hj => by cases hj) hI ((Same.refl H).toX (R.look.isq hI))
    · subst ek
      have hj : k / 32 < (blks bs).length := by omega
      refine ⟨hj, fun H1 i1 X1 => ?_⟩
      have eb : bit ((blks bs).getD (k / 32) 0) (k % 32) = bs.getD k 0 := by
        rw [bit_blks R.bits (blks_getD (by omega)) (by omega), show 32 * (k / 32) + k % 32 = k by omega]
      rw [eb]
      walk_at "st"
      have e : ans bs ((0 : Nat) : Int) (k : Int) = some (bs.getD k 0) := by
        unfold ans
        rw [if_pos ⟨by decide, by omega, by omega⟩, Int.toNat_natCast]
      rw [e] at q1
      exact q1 [k / 32] H1 (by simp) (fun j hj2 => by rw [List.mem_singleton.mp hj2]; exact hj) i1 X1
  · walk_at "st"
    refine k_decF (by decide) ?_
    walk_at "st"
    refine k_decT (by decide) ?_
    walk_at "st"
    refine ⟨t, g, x, bs, q, I, [], rfl, R, hI, by decide, fun z H1 s1 => ?_, fun k ek hk H1 L2 hL2 i1 X1 => ?_⟩
    · refine m_caughtO F.e_NoPlace_NoPlace fun xa hxa => ?_
      walk_at "st"
      have e : ans bs ((1 : Nat) : Int) x = none := by
        unfold ans
        rw [if_neg fun z => absurd z.1 (by decide)]
        rw [if_neg fun z => by omega]
        rw [if_neg fun z => absurd z.1 (by decide)]
        rw [if_neg fun z => absurd z.1 (by decide)]
        rw [if_neg fun z => absurd z.1 (by decide)]
      rw [e] at q1
      exact q1 [] H1 (by simp) (fun j hj => by cases hj) (R.look.ext hI s1) (s1.toX (R.look.isq hI))
    · subst ek
      walk_at "st"
      have e : ans bs ((1 : Nat) : Int) (k : Int) = some (sumTo bs k) := by
        unfold ans
        rw [if_neg fun z => absurd z.1 (by decide)]
        rw [if_pos ⟨by decide, by omega, by omega⟩, Int.toNat_natCast]
      rw [e] at q1
      exact q1 L2 H1 (one k L2 hL2).1 (one k L2 hL2).2 i1 X1
  · walk_at "st"
    refine k_decF (by decide) ?_
    walk_at "st"
    refine k_decF (by decide) ?_
    walk_at "st"
    refine k_decT (by decide) ?_
    walk_at "st"
    refine ⟨t, g, x, bs, q, I, [], rfl, R, hI, by decide, fun z H1 s1 => ?_, fun k ek hk H1 L2 hL2 i1 X1 => ?_⟩
    · refine m_caughtO F.e_NoPlace_NoPlace fun xa hxa => ?_
      walk_at "st"
      have e : ans bs ((2 : Nat) : Int) x = none := by
        unfold ans
        rw [if_neg fun z => absurd z.1 (by decide)]
        rw [if_neg fun z => absurd z.1 (by decide)]
        rw [if_neg fun z => by omega]
        rw [if_neg fun z => absurd z.1 (by decide)]
        rw [if_neg fun z => absurd z.1 (by decide)]
      rw [e] at q1
      exact q1 [] H1 (by simp) (fun j hj => by cases hj) (R.look.ext hI s1) (s1.toX (R.look.isq hI))
    · subst ek
      walk_at "st"
      have e : ans bs ((2 : Nat) : Int) (k : Int) = some ((k : Int) - sumTo bs k) := by
        unfold ans
        rw [if_neg fun z => absurd z.1 (by decide)]
        rw [if_neg fun z => absurd z.1 (by decide)]
        rw [if_pos ⟨by decide, by omega, by omega⟩, Int.toNat_natCast]
      rw [e] at q1
      exact q1 L2 H1 (one k L2 hL2).1 (one k L2 hL2).2 i1 X1
  · walk_at "st"
    refine k_decF (by decide) ?_
    walk_at "st"
    refine k_decF (by decide) ?_
    walk_at "st"
    refine k_decF (by decide) ?_
    walk_at "st"
    refine k_decT (by decide) ?_
    walk_at "st"
    refine ⟨t, g, x, bs, q, I, [], rfl, R, hI, by decide, fun z H1 s1 => ?_, fun k hk h1 hs H1 i1 X1 => ?_⟩
    · refine m_caughtO F.e_NoPlace_NoPlace fun xa hxa => ?_
      walk_at "st"
      have e : ans bs ((3 : Nat) : Int) x = none := by
        unfold ans
        rw [if_neg fun z => absurd z.1 (by decide)]
        rw [if_neg fun z => absurd z.1 (by decide)]
        rw [if_neg fun z => absurd z.1 (by decide)]
        rw [if_neg fun z => by omega]
        rw [if_neg fun z => absurd z.1 (by decide)]
      rw [e] at q1
      exact q1 [] H1 (by simp) (fun j hj => by cases hj) (R.look.ext hI s1) (s1.toX (R.look.isq hI))
    · walk_at "st"
      have hg := dueN_get (b := 1) hk h1
      have hl := dueN_len1 R.bits k
      have hn : (dueN bs 1 k).length = x.toNat := by omega
      rw [hn] at hg
      have hx0 : 0 ≤ x := by omega
      have hxl := (List.getElem?_eq_some_iff.mp hg).1
      have e : ans bs ((3 : Nat) : Int) x = some (k : Int) := by
        unfold ans
        rw [if_neg fun z => absurd z.1 (by decide)]
        rw [if_neg fun z => absurd z.1 (by decide)]
        rw [if_neg fun z => absurd z.1 (by decide)]
        rw [if_pos ⟨by decide, hx0, by omega⟩, List.getD_eq_getElem?_getD, hg]; rfl
      rw [e] at q1
      exact q1 [k / 32] H1 (by simp) (fun j hj2 => by rw [List.mem_singleton.mp hj2]; omega) i1 X1
  · walk_at "st"
    refine k_decF (by decide) ?_
    walk_at "st"
    refine k_decF (by decide) ?_
    walk_at "st"
    refine k_decF (by decide) ?_
    walk_at "st"
    refine k_decF (by decide) ?_
    walk_at "st"
    refine ⟨t, g, x, bs, q, I, [], rfl, R, hI, by decide, fun z H1 s1 => ?_, fun k hk h1 hs H1 i1 X1 => ?_⟩
    · refine m_caughtO F.e_NoPlace_NoPlace fun xa hxa => ?_
      walk_at "st"
      have e : ans bs ((4 : Nat) : Int) x = none := by
        unfold ans
        rw [if_neg fun z => absurd z.1 (by decide)]
        rw [if_neg fun z => absurd z.1 (by decide)]
        rw [if_neg fun z => absurd z.1 (by decide)]
        rw [if_neg fun z => absurd z.1 (by decide)]
        rw [if_neg fun z => by omega]
      rw [e] at q1
      exact q1 [] H1 (by simp) (fun j hj => by cases hj) (R.look.ext hI s1) (s1.toX (R.look.isq hI))
    · walk_at "st"
      have hg := dueN_get (b := 0) hk h1
      have hl := dueN_len0 R.bits k
      have hn : (dueN bs 0 k).length = x.toNat := by omega
      rw [hn] at hg
      have hx0 : 0 ≤ x := by omega
      have hxl := (List.getElem?_eq_some_iff.mp hg).1
      have e : ans bs ((4 : Nat) : Int) x = some (k : Int) := by
        unfold ans
        rw [if_neg fun z => absurd z.1 (by decide)]
        rw [if_neg fun z => absurd z.1 (by decide)]
        rw [if_neg fun z => absurd z.1 (by decide)]
        rw [if_neg fun z => absurd z.1 (by decide)]
        rw [if_pos ⟨by decide, hx0, by omega⟩, List.getD_eq_getElem?_getD, hg]; rfl
      rw [e] at q1
      exact q1 [k / 32] H1 (by simp) (fun j hj2 => by rw [List.mem_singleton.mp hj2]; omega) i1 X1

--#base
/-- a row kept, its look writes down in a new list what it is asked for -/
theorem call_look {K : PySem.W.Frag} {CL : CLs} {H : Hp} {Q : VK} {E : XK} {t pa pb ps : Addr} {bs : List Int} (h1 : H t = some (.tup [.int (bs.length : Int), .ref pa])) (h2 : H pa = some (.tup ((aheadT bs).map V.int))) (h3 : H pb = some (.lst ((blks bs).map V.int))) (hB : Bits bs) (hl : bs.length ≤ 5000) (hT : NdefX.TabN H (tabP K "_law_look") nmL) (hps : H ps = none)
    (q : ∀ (g : Addr) (H2 : Hp) (I : List Nat → Hp → Prop), Same H H2 → RowAt K CL H2 t g bs (some ps) I → I [] H2 → (∀ L H', I L H' → H' ps = some (.lst ((L.map Int.ofNat).map V.int)) ∧ H' pb = some (.lst ((blks bs).map V.int))) → Q (.ref g) H2) : sp_law_look K CL [.ref pb, .ref ps] (upd H ps (.lst [])) Q E := by
  have sa := same_new (o := .lst []) hps
  have ga := upd_same (H := H) (a := ps) (o := .lst [])
  have nb := sa.get h3
  have nsb : ps ≠ pb := Ne.symm (ne_of_none h3 hps)
  generalize upd H ps (.lst []) = Ha at sa ga nb ⊢
  refine ⟨pb, ps, blks bs, [], rfl, nsb, ga, nb, sa.tabs _ hT, fun g Hb hg sb lk => ?_⟩
  have hB0 : ∀ o, newOf Ha Hb ps = some o → ∃ φ, o = .ext φ := fun o e => newOf_old e (by rw [ga]; simp)
  have R := lk.lookI (L0 := []) (by decide) hB0 nsb (by decide)
  have I5 : LogI (newOf Ha Hb) ps pb ((blks bs).map V.int) [] [] Hb := LogI.start (sb.get ga) (sb.get nb)
  have tb := sa.trans sb
  exact q g Hb _ tb ⟨⟨pa, .of (tb.get h1), .of (tb.get h2)⟩, R, hB, hl⟩ I5 fun L H' i => ⟨by have := i.2.1; rw [List.nil_append] at this; exact this, i.2.2⟩
/-- one of the two rows, walked and kept -/
structure Side (H : Hp) (bs : List Int) (b w kk t bl : Addr) : Prop where
  b : H b = some (.lst (bs.map V.int))
  w : WalkH H w bs
  k : H kk = some (.tup [.ref t, .ref bl])
  t : ∃ pa, H t = some (.tup [.int (bs.length : Int), .ref pa]) ∧ H pa = some (.tup ((aheadT bs).map V.int))
  bl : H bl = some (.lst ((blks bs).map V.int))
  B : Bits bs
  len : bs.length ≤ 4096
theorem Side.same {H H' : Hp} {bs : List Int} {b w kk t bl : Addr} (h : Side H bs b w kk t bl) (s : Same H H') : Side H' bs b w kk t bl := ⟨s.get h.b, h.w.same s, s.get h.k, let ⟨pa, h1, h2⟩ := h.t; ⟨pa, s.get h1, s.get h2⟩, s.get h.bl, h.B, h.len⟩
/-- the questions -/
def AskL (H : Hp) (xs : List V) (zs : List (Nat × Nat × Int)) : Prop := xs.length = zs.length ∧ ∀ (i : Nat) (x : V) (z : Nat × Nat × Int), xs[i]? = some x → zs[i]? = some z → ∃ t : Addr, x = .ref t ∧ H t = some (.tup [.int (z.1 : Int), .int (z.2.1 : Int), .int z.2.2]) ∧ z.1 < 2 ∧ z.2.1 < 5
theorem AskL.same {H H' : Hp} {xs : List V} {zs : List (Nat × Nat × Int)} (h : AskL H xs zs) (s : Same H H') : AskL H' xs zs := ⟨h.1, fun i x z e1 e2 => by
  obtain ⟨t, a, b, c⟩ := h.2 i x z e1 e2
  exact ⟨t, a, s.get b, c⟩⟩
theorem AskL.put {H : Hp} {xs ys zs' : List V} {zs : List (Nat × Nat × Int)} {l : Addr} (h : AskL H xs zs) (e : H l = some (.lst ys)) : AskL (upd H l (.lst zs')) xs zs := ⟨h.1, fun i x z e1 e2 => by
  obtain ⟨t, a, b, c⟩ := h.2 i x z e1 e2
  exact ⟨t, a, by rw [upd_ne (fun w => by rw [w, e] at b; cases b)]; exact b, c⟩⟩
theorem AskL.app {H : Hp} {xs : List V} {zs : List (Nat × Nat × Int)} {t : Addr} {z : Nat × Nat × Int} (h : AskL H xs zs) (ht : H t = some (.tup [.int (z.1 : Int), .int (z.2.1 : Int), .int z.2.2])) (h1 : z.1 < 2) (h2 : z.2.1 < 5) : AskL H (xs ++ [.ref t]) (zs ++ [z]) := by
  refine ⟨by rw [List.length_append, List.length_append, h.1]; rfl, fun i x y e1 e2 => ?_⟩
  rcases Nat.lt_or_ge i zs.length with w | w
  · rw [List.getElem?_append_left w] at e2
    rw [List.getElem?_append_left (by rw [h.1]; exact w)] at e1
    exact h.2 i x y e1 e2
  · rw [List.getElem?_append_right w] at e2
    rw [List.getElem?_append_right (by rw [h.1]; exact w), h.1] at e1
    have hi : i - zs.length = 0 := by
      rcases Nat.eq_zero_or_pos (i - zs.length) with v | v
      · exact v
      · rw [List.getElem?_eq_none (by rw [List.length_singleton]; omega)] at e2; cases e2
    rw [hi] at e1 e2
    obtain rfl : V.ref t = x := Option.some.inj e1
    obtain rfl : z = y := Option.some.inj e2
    exact ⟨t, rfl, ht, h1, h2⟩
theorem AskL.rev {H : Hp} {xs : List V} {zs : List (Nat × Nat × Int)} (h : AskL H xs zs) : AskL H xs.reverse zs.reverse := by
  refine ⟨by rw [List.length_reverse, List.length_reverse, h.1], fun i x z e1 e2 => ?_⟩
  have i1 := (List.getElem?_eq_some_iff.mp e1).1
  have i2 := (List.getElem?_eq_some_iff.mp e2).1
  rw [List.length_reverse] at i1 i2
  rw [List.getElem?_reverse i1] at e1
  rw [List.getElem?_reverse i2] at e2
  exact h.2 _ x z e1 (by rw [h.1]; exact e2)
/-- the answers -/
def ansL (b0 b1 : List Int) (zs : List (Nat × Nat × Int)) : List (Option Int) := zs.map fun z => ans (if z.1 = 0 then b0 else b1) z.2.1 z.2.2
/-- _law_round(rows, walks, kept, asks) -/
def sp_law_round (K : PySem.W.Frag) (CL : CLs) : Sp := fun vs H Q _ => ∃ (pr pw pk pa : Addr) (c0 c1 : List Int) (b0 w0 k0 t0 l0 b1 w1 k1 t1 l1 : Addr) (xs : List V) (zs : List (Nat × Nat × Int)), vs = [.ref pr, .ref pw, .ref pk, .ref pa] ∧ H pr = some (.lst [.ref b0, .ref b1]) ∧ H pw = some (.lst [.ref w0, .ref w1]) ∧ H pk = some (.lst [.ref k0, .ref k1]) ∧ Side H c0 b0 w0 k0 t0 l0 ∧ Side H c1 b1 w1 k1 t1 l1 ∧ H pa = some (.lst xs) ∧ AskL H xs zs ∧ zs.length ≤ 63 ∧ NdefX.TabN H (tabP K "_law_look") nmL ∧
  ∀ p H', H p = none → Same H H' → H' p = some (.lst ((ansL c0 c1 zs).map AV)) → Q (.ref p) H'
theorem len_law_round (K : PySem.W.Frag) (CL : CLs) : ∀ vs H Q E, sp_law_round K CL vs H Q E → vs.length = 4 := by
  rintro vs H Q E ⟨a, _, _, _, _, _, _, _, _, _, _, _, _, _, _, _, _, _, rfl, _⟩; rfl
def t_law_round (K : PySem.W.Frag) (CL : CLs) : TS :=
  (tSeq (tAsg (tLst tNil) (gName 4))
  (tSeq (tFor (iList K (tVar 3)) (gTup K 3 (gCons (gName 5) (gCons (gName 6) (gCons (gName 7) gNil))))
  (tSeq (tAsg (tLst tNil) (gName 8))
  (tSeq (tAsg (tCall (sp_law_look K CL) [] E0 (tCons (tOp (rIxT K) (tOp (rIxL K) (tVar 2) (tVar 5)) (tC (.int 1))) (tCons (tVar 8) tNil))) (gName 9))
  (tSeq (tAsg (tCall (sp_law_told_by K CL) [] E0 (tCons (tOp (rIxT K) (tOp (rIxL K) (tVar 2) (tVar 5)) (tC (.int 0))) (tCons (tVar 9) (tCons (tVar 6) (tCons (tVar 7) tNil))))) (gName 10))
  (tSeq (tAsg (tCall (sp_law_due K) [] E0 (tCons (tOp (rIxL K) (tVar 0) (tVar 5)) (tCons (tOp (rIxL K) (tVar 1) (tVar 5)) (tCons (tVar 6) (tCons (tVar 7) tNil))))) (gName 11))
  (Evl.tCut (tIfS (tOr (tTest (tOp rIsN (tVar 10) (tC .non))) (tTest (tOp rIsN (tVar 11) (tC .non))))
  (tIfS (tOr (tTest (tOp rNotN (tVar 10) (tC .non))) (tTest (tOp rNotN (tVar 11) (tC .non))))
  (tRet (tC .non))
  tNext)
  (tIfS (tOr (tNot (tB (tCall (sp_law_whole K) [] E0 (tCons (tVar 10) tNil)))) (tTest (tOp rNe (tVar 10) (tVar 11))))
  (tRet (tC .non))
  tNext))
  (tSeq (tIfS (tNot (tB (tCall (sp_law_few K) [] E0 (tCons (tVar 8) (tCons (tCB (rLen K) (tCons (tOp (rIxT K) (tOp (rIxL K) (tVar 2) (tVar 5)) (tC (.int 1))) tNil)) (tCons (tC (.int 1)) tNil))))))
  (tRet (tC .non))
  tNext)
  (tDrop (tBM K "list" rAppend (tVar 4) (tCons (tVar 10) tNil))))))))))
  (tRet (tVar 4))))
abbrev n_law_round : List Str := ["_law_rows", "_law_walks", "_law_kept", "_law_asks", "_law_answers", "_law_side", "_law_kind", "_law_at", "_law_seen", "_law_look_here", "_law_found", "_law_due_here"]

theorem rd_law_round (K : PySem.W.Frag) (CL : CLs) (vs : List V) (H : Hp) (Q : VK) (E : XK) (h : sp_law_round K CL vs H Q E) : t_law_round K CL { nx := fun _ H' => Q .non H', rt := Q } (start n_law_round vs) H := by
  obtain ⟨pr, pw, pk, pa, c0, c1, b0, w0, k0, t0, l0, b1, w1, k1, t1, l1, xs, zs, rfl, hr, hw, hk, S0, S1, ha, hA, hzl, hT, q⟩ := h
  unfold t_law_round
  walk_at "st"
  intro p hp
  obtain ⟨s1, e1⟩ := new_both (o := .lst []) hp
  generalize upd H p (.lst []) = H1 at s1 e1 ⊢
  walk_at "st"
  refine m_iLe (.of (s1.get ha)) ?_
  refine loop_list (xs := xs) (fun i σ' H' => ∃ v5 v6 v7 v8 v9 v10 v11, Same H H' ∧ H' p = some (.lst ((ansL c0 c1 (zs.take i)).map AV)) ∧ σ' = [some (.ref pr), some (.ref pw), some (.ref pk), some (.ref pa), some (.ref p), v5, v6, v7, v8, v9, v10, v11]) ⟨none, none, none, none, none, none, none, s1, by rw [List.take_zero]; exact e1, rfl⟩ (fun i σ' H' _ ⟨_, _, _, _, _, _, _, s, _⟩ => .of (s.get ha)) (fun i x σ' H' hx ⟨v5, v6, v7, v8, v9, v10, v11, s, e, es⟩ => ?_) (fun σ' H' ⟨v5, v6, v7, v8, v9, v10, v11, s, e, es⟩ => ?_)
  · subst es
    have hxl := (List.getElem?_eq_some_iff.mp hx).1
    have hil : i < zs.length := by rw [← hA.1]; exact hxl
    have ez := List.getElem?_eq_getElem hil
    obtain ⟨⟨sd, kd, at_⟩, hz⟩ : ∃ z, zs[i]? = some z := ⟨_, ez⟩
    obtain ⟨t, rfl, ht, hsd, hkd⟩ := hA.2 i x _ hx hz
    have ht : H t = some (.tup [.int (sd : Int), .int (kd : Int), .int at_]) := ht
    obtain ⟨bs, b, w, kk, tt, bl, S, g1, g2, g3, ebs⟩ : ∃ bs b w kk tt bl, Side H bs b w kk tt bl ∧ atI [V.ref b0, V.ref b1] (sd : Int) = some (.ref b) ∧ atI [V.ref w0, V.ref w1] (sd : Int) = some (.ref w) ∧ atI [V.ref k0, V.ref k1] (sd : Int) = some (.ref kk) ∧ (if sd = 0 then c0 else c1) = bs := by
      have hsd : sd < 2 := hsd
      rcases (show sd = 0 ∨ sd = 1 by omega) with rfl | rfl
      · exact ⟨c0, b0, w0, k0, t0, l0, S0, rfl, rfl, rfl, rfl⟩
      · exact ⟨c1, b1, w1, k1, t1, l1, S1, rfl, rfl, rfl, rfl⟩
    refine m_gTup (.of (s.get ht)) rfl ?_
    walk_at "st"
    intro ps hps
    have sa := same_new (o := .lst []) hps
    walk_at "st"
    refine k_ixL (.of (sa.get (s.get hk))) g3 ?_
    walk_at "st"
    refine k_ixT (.of (sa.get (s.get S.k))) (x := .ref bl) rfl ?_
    walk_at "st"
    obtain ⟨pa', r1, r2⟩ := (S.same s).t
    refine call_look r1 r2 (S.same s).bl S.B (by have := S.len; omega) (s.tabs _ hT) hps fun g H2 I s2 R I0 hI => ?_
    walk_at "st"
    have s02 := s.trans s2
    refine k_ixL (.of (s02.get hk)) g3 ?_
    walk_at "st"
    refine k_ixT (.of (s02.get S.k)) (x := .ref tt) rfl ?_
    walk_at "st"
    refine ⟨tt, g, kd, at_, bs, some ps, I, rfl, hkd, R, I0, fun L2 H3 hL2 hin i3 X3 => ?_⟩
    have sc : Same H' H3 := SameX.fresh s2 hps X3
    have s03 := s.trans sc
    obtain ⟨f1, f2⟩ := hI _ _ i3
    walk_at "st"
    refine k_ixL (.of (s03.get hr)) g1 ?_
    walk_at "st"
    refine k_ixL (.of (s03.get hw)) g2 ?_
    walk_at "st"
    refine ⟨b, w, kd, at_, bs, rfl, hkd, s03.get S.b, S.w.same s03, ?_⟩
    walk_at "st"
    have eA : ansL c0 c1 (zs.take (i + 1)) = ansL c0 c1 (zs.take i) ++ [ans bs kd at_] := by
      rw [List.take_add_one, hz]
      unfold ansL
      rw [List.map_append]
      show _ ++ [ans (if sd = 0 then c0 else c1) kd at_] = _
      rw [ebs]
    generalize ans bs kd at_ = r at eA ⊢
    refine m_cut (fun σ'' H'' => H3 = H'' ∧ σ'' = [some (.ref pr), some (.ref pw), some (.ref pk), some (.ref pa), some (.ref p), some (.int (sd : Int)), some (.int (kd : Int)), some (.int at_), some (.ref ps), some (.ref g), some (AV r), some (AV r)]) ?_ ?_
    · cases r with
      | none =>
        rw [show AV none = V.non from rfl]
        walk_at "st"
        refine k_decT rfl ?_
        walk_at "st"
        refine k_ndecT rfl ?_
        walk_at "st"
        refine k_ndecT rfl ?_
        walk_at "st"
        exact ⟨rfl, rfl⟩
      | some y =>
        rw [show AV (some y) = V.int y from rfl]
        walk_at "st"
        refine k_decF (fun z => nomatch z) ?_
        walk_at "st"
        refine k_decF (fun z => nomatch z) ?_
        walk_at "st"
        refine whole_int ?_
        walk_at "st"
        refine k_ndecT rfl ?_
        walk_at "st"
        exact ⟨rfl, rfl⟩
    rintro σ'' H'' ⟨rfl, rfl⟩
    walk_at "st"
    refine k_ixL (.of (s03.get hk)) g3 ?_
    walk_at "st"
    refine k_ixT (.of (s03.get S.k)) (x := .ref bl) rfl ?_
    walk_at "st"
    refine k_lenL (.of f2) ?_
    walk_at "st"
    rw [List.length_map]
    obtain ⟨m1, m2, m3⟩ := few_asked hL2 (by decide) hin
    rw [List.nil_append] at m1 m2 m3
    refine ⟨ps, _, _, 1, rfl, .of f1, m1, m2, m3, ?_⟩
    walk_at "st"
    have e3 := sc.get e
    refine k_tyL (.of e3) ?_
    walk_at "st"
    refine k_app e3 (by rw [List.length_map]; unfold ansL; rw [List.length_map, List.length_take]; omega) ?_
    refine ⟨_, _, _, _, _, _, _, Same.mut s03 hp ⟨_, e3⟩, ?_, rfl⟩
    rw [upd_same, eA, List.map_append]; rfl
  · subst es
    walk_at "st"
    exact q p H' hp s (by rw [e, List.take_of_length_le (by rw [hA.1]; exact Nat.le_refl _)])
--#base
def sp_law (K : PySem.W.Frag) : Sp := fun vs H Q _ => ∃ (a : Addr) (ns : List Int), vs = [.ref a] ∧ SqL K H a (ns.map V.int) ∧ ns.length ≤ 63 ∧ (∀ x ∈ tabL, NdefX.TabN H (tabP K x) nmL) ∧ ∀ H', Q (.bl true) H'
theorem len_law (K : PySem.W.Frag) : ∀ vs H Q E, sp_law K vs H Q E → vs.length = 1 := by
  rintro vs H Q E ⟨a, ns, rfl, _⟩; rfl

def avD : Option Int → PyData
  | none => .none
  | some x => .int x
theorem dpAll_av {K : PySem.W.Frag} {H : Hp} : ∀ l : List (Option Int), DpAll K H (l.map AV) (l.map avD)
  | [] => .nil
  | none :: l => .cons .non (dpAll_av l)
  | some x :: l => .cons (.int x) (dpAll_av l)
theorem laid_av (l : List (Option Int)) : laid 64 (.list (l.map avD)) := laid_list (n := 63) fun d hd => by
  obtain ⟨o, _, rfl⟩ := List.mem_map.mp hd
  cases o
  · exact laid_none
  · exact laid_int _
theorem k_neAns {K : PySem.W.Frag} {H : Hp} {Q : VK} {a b : Addr} {l : List (Option Int)} (h1 : H a = some (.lst (l.map AV))) (h2 : H b = some (.lst (l.map AV))) (q : Q (.bl false) H) : rNeD K (.ref a) (.ref b) H Q :=
  k_neD (.lst (.of h1) (dpAll_av l)) (.lst (.of h2) (dpAll_av l)) (laid_av l) (laid_av l) (by rw [PySem.SeqAt.eqv_refl _ (laid_av l).1]; exact q)
theorem k_neRow {K : PySem.W.Frag} {H : Hp} {Q : VK} {t u a b : Addr} {n : Int} {as : List Int} (h1 : SqT K H t [.int n, .ref a]) (h2 : SqT K H a (as.map V.int)) (h3 : SqT K H u [.int n, .ref b]) (h4 : SqT K H b (as.map V.int)) (q : Q (.bl false) H) : rNeD K (.ref t) (.ref u) H Q :=
  k_neD (dp_row h1 h2) (dp_row h3 h4) (laid_row n as) (laid_row n as) (by rw [eqv_row]; exact q)
theorem k_eqTwo {K : PySem.W.Frag} {H : Hp} {Q : VK} {p q' a0 a1 b0 b1 : Addr} {as bs : List Int} (h1 : H p = some (.lst [.ref a0, .ref a1])) (h2 : H q' = some (.lst [.ref b0, .ref b1])) (ha0 : H a0 = some (.lst (as.map V.int))) (ha1 : H a1 = some (.lst (bs.map V.int))) (hb0 : H b0 = some (.lst (as.map V.int))) (hb1 : H b1 = some (.lst (bs.map V.int))) (q : Q (.bl true) H) : rEqD K (.ref p) (.ref q') H Q := by
  have l : laid 64 (.list [.list (as.map PyData.int), .list (bs.map PyData.int)]) := laid_list (n := 63) fun d hd => by
    simp only [List.mem_cons, List.not_mem_nil, or_false] at hd
    rcases hd with rfl | rfl
    · exact laid_ints _
    · exact laid_ints _
  exact k_eqD (.lst (.of h1) (.cons (dp_ints (.of ha0)) (.cons (dp_ints (.of ha1)) .nil))) (.lst (.of h2) (.cons (dp_ints (.of hb0)) (.cons (dp_ints (.of hb1)) .nil))) l l (by rw [PySem.SeqAt.eqv_refl _ l.1]; exact q)
def t_law (K : PySem.W.Frag) (CL : CLs) : TS :=
  (tSeq (tAsg (tCall (sp_law_bits K) [] E0 (tCons (tVar 0) tNil)) (gName 1))
  (Evl.tCut (tIfS (tTest (tOp rEq (tOp rMod (tCall (sp_law_cell_at K) [] E0 (tCons (tVar 0) (tCons (tC (.int 0)) tNil))) (tC (.int 16))) (tC (.int 5))))
  (tAsg (tCall (sp_law_great K) [] E0 (tCons (tVar 1) (tCons (tCall (sp_law_cell_at K) [] E0 (tCons (tVar 0) (tCons (tC (.int 1)) tNil))) tNil))) (gName 1))
  tNext)
  (tSeq (tAsg (tLst (tCons (tVar 1) (tCons (tLc (iList K (tVar 1)) (gName 3) tYes (tOp rMinus (tC (.int 1)) (tVar 3)) [3]) tNil))) (gName 2))
  (tSeq (tAsg (tLst (tCons (tCall (sp_law_walked K) [] E0 (tCons (tOp (rIxL K) (tVar 2) (tC (.int 0))) tNil)) (tCons (tCall (sp_law_walked K) [] E0 (tCons (tOp (rIxL K) (tVar 2) (tC (.int 1))) tNil)) tNil))) (gName 4))
  (tSeq (tAsg (tLst (tCons (tCall (sp_kept_row K) [] E0 (tCons (tCB (rListOf K) (tCons (tOp (rIxL K) (tVar 2) (tC (.int 0))) tNil)) tNil)) (tCons (tCall (sp_kept_row K) [] E0 (tCons (tCB (rListOf K) (tCons (tOp (rIxL K) (tVar 2) (tC (.int 1))) tNil)) tNil)) tNil))) (gName 5))
  (tSeq (tAsg (tOp rDiv (tOp rPlus (tCB (rLen K) (tCons (tVar 1) tNil)) (tC (.int 31))) (tC (.int 32))) (gName 6))
  (tSeq (tFor (iRng1 (tCons (tC (.int 2)) tNil)) (gName 7)
  (tSeq (tAsg (tLc (iRng1 (tCons (tOp rPlus (tVar 6) (tC (.int 1))) tNil)) (gName 9) tYes (tOp (rIxL K) (tOp (rIxT K) (tOp (rIxL K) (tVar 4) (tVar 7)) (tC (.int 0))) (tCB rMin2 (tCons (tOp rTimes (tC (.int 32)) (tVar 9)) (tCons (tCB (rLen K) (tCons (tVar 1) tNil)) tNil)))) [9]) (gName 8))
  (tIfS (tOr (tTest (tOp (rNeD K) (tOp (rIxT K) (tOp (rIxL K) (tVar 5) (tVar 7)) (tC (.int 0))) (tTup (tCons (tCB (rLen K) (tCons (tVar 1) tNil)) (tCons (tCB (rTupOf K) (tCons (tVar 8) tNil)) tNil))))) (tTest (tOp rNe (tCB (rLen K) (tCons (tOp (rIxT K) (tOp (rIxL K) (tVar 5) (tVar 7)) (tC (.int 1))) tNil)) (tVar 6))))
  (tRet (tC (.bl false)))
  tNext)))
  (tSeq (tAsg (tLst (tCons (tCB (rListOf K) (tCons (tOp (rIxT K) (tOp (rIxL K) (tVar 5) (tC (.int 0))) (tC (.int 1))) tNil)) (tCons (tCB (rListOf K) (tCons (tOp (rIxT K) (tOp (rIxL K) (tVar 5) (tC (.int 1))) (tC (.int 1))) tNil)) tNil))) (gName 10))
  (tSeq (tAsg (tLst tNil) (gName 11))
  (tSeq (tFor (iList K (tSl (rSlL K) (tVar 0) tNoPart (tPart (tC (.int 63))))) (gName 12)
  (tSeq (tAsg (tOp rMod (tOp rTimes (tVar 12) (tC (.int 69621))) (tC (.int 2147483629))) (gName 13))
  (tDrop (tBM K "list" rAppend (tVar 11) (tCons (tTup (tCons (tOp rMod (tVar 13) (tC (.int 2))) (tCons (tOp rMod (tOp rDiv (tVar 13) (tC (.int 2))) (tC (.int 5))) (tCons (tOp rMinus (tOp rMod (tOp rDiv (tVar 13) (tC (.int 10))) (tOp rPlus (tCB (rLen K) (tCons (tVar 1) tNil)) (tC (.int 5)))) (tC (.int 2))) tNil)))) tNil)))))
  (tSeq (tAsg (tCall (sp_law_round K CL) [] E0 (tCons (tVar 2) (tCons (tVar 4) (tCons (tVar 5) (tCons (tVar 11) tNil))))) (gName 14))
  (tSeq (tAsg (tCall (sp_law_round K CL) [] E0 (tCons (tVar 2) (tCons (tVar 4) (tCons (tVar 5) (tCons (tRevL K (tVar 11)) tNil))))) (gName 15))
  (tSeq (tIfS (tOr (tTest (tOp rIsN (tVar 14) (tC .non))) (tOr (tTest (tOp rIsN (tVar 15) (tC .non))) (tTest (tOp (rNeD K) (tVar 14) (tRevL K (tVar 15))))))
  (tRet (tC (.bl false)))
  tNext)
  (tRet (tOp (rEqD K) (tLst (tCons (tOp (rIxT K) (tOp (rIxL K) (tVar 5) (tC (.int 0))) (tC (.int 1))) (tCons (tOp (rIxT K) (tOp (rIxL K) (tVar 5) (tC (.int 1))) (tC (.int 1))) tNil))) (tVar 10))))))))))))))))
abbrev n_law : List Str := ["_law_script", "_law_bits_here", "_law_rows", "_law_bit", "_law_walks", "_law_kept", "_law_size", "_law_side", "_law_ahead", "_law_j", "_law_blocks", "_law_asks", "_law_cell", "_law_number", "_law_first", "_law_again"]

theorem rd_law (K : PySem.W.Frag) (CL : CLs) (F : KFx K) (vs : List V) (H : Hp) (Q : VK) (E : XK) (h : sp_law K vs H Q E) : t_law K CL { nx := fun _ H' => Q .non H', rt := Q } (start n_law vs) H := by
  obtain ⟨a, ns, rfl, hS, hl, hT, q⟩ := h
  unfold t_law
  walk_at "st"
  refine ⟨a, ns, rfl, hS, fun bs0 p0 H1 hl0 hB0 hp0 s1 e1 => ?_⟩
  walk_at "st"
  refine m_cut (fun σ' H' => ∃ (p : Addr) (bs : List Int), Same H H' ∧ H' p = some (.lst (bs.map V.int)) ∧ Bits bs ∧ bs.length ≤ 4096 ∧ σ' = [some (.ref a), some (.ref p), none, none, none, none, none, none, none, none, none, none, none, none, none, none]) ?_ ?_
  · walk_at "st"
    refine call_cell_at (s1.seq hS) (by decide) fun c0 _ => ?_
    walk_at "st"
    walk_at "if" <;> intro _
    · walk_at "st"
      refine call_cell_at (s1.seq hS) (by decide) fun c1 _ => ?_
      walk_at "st"
      refine ⟨p0, bs0, c1, rfl, e1, hl0, hB0, fun cs p H2 hc hC _ s2 e2 => ?_⟩
      walk_at "st"
      exact ⟨p, cs, s1.trans s2, e2, hC, hc, rfl⟩
    · walk_at "st"
      exact ⟨p0, bs0, s1, e1, hB0, by omega, rfl⟩
  rintro σ' H2 ⟨p, bs, S2, e2, hB, hbl, rfl⟩
  walk_at "st"
  refine m_iLe (.of e2) ?_
  obtain ⟨ct, hct⟩ : ∃ ct : List Int, ct = bs.map fun b => 1 - b := ⟨_, rfl⟩
  refine comp_listV (xs := bs.map V.int) (ys := ct.map V.int) (.of e2) (by rw [List.length_map]; omega) (by rw [hct]; simp) (fun k x y Ha Q2 hx hy sk q2 => ?_) (fun pc H3 hpc s3 e3 => ?_)
  · obtain ⟨b, hb, rfl⟩ := of_mapint hx
    rw [hct, List.getElem?_map, List.getElem?_map, hb] at hy
    obtain rfl := Option.some.inj hy
    walk_at "st"
    exact q2 _ (Same.refl _)
  have hCt : Bits ct := fun x hx => by
    rw [hct] at hx
    obtain ⟨b, hb, rfl⟩ := List.mem_map.mp hx
    have := hB b hb
    omega
  have hctl : ct.length = bs.length := by rw [hct, List.length_map]
  clear hct
  have S3 := S2.trans s3
  have b3 := s3.get e2
  walk_at "st"
  intro pr hpr
  obtain ⟨s4, e4⟩ := new_both (o := .lst [.ref p, .ref pc]) hpr
  have b4 := s4.get b3
  have c4 := s4.get e3
  have S4 := S3.trans s4
  generalize upd H3 pr (.lst [.ref p, .ref pc]) = H4 at s4 e4 b4 c4 S4 ⊢
  walk_at "st"
  refine k_ixL (.of e4) (x := .ref p) rfl ?_
  walk_at "st"
  refine ⟨p, bs, rfl, b4, hB, by omega, fun w0 H5 hw0 s5 W0 => ?_⟩
  walk_at "st"
  refine k_ixL (.of (s5.get e4)) (x := .ref pc) rfl ?_
  walk_at "st"
  refine ⟨pc, ct, rfl, s5.get c4, hCt, by omega, fun w1 H6 hw1 s6 W1 => ?_⟩
  walk_at "st"
  intro pw hpw
  obtain ⟨s7, e7⟩ := new_both (o := .lst [.ref w0, .ref w1]) hpw
  generalize upd H6 pw (.lst [.ref w0, .ref w1]) = H7 at s7 e7 ⊢
  have s47 := s5.trans (s6.trans s7)
  walk_at "st"
  refine k_ixL (.of (s47.get e4)) (x := .ref p) rfl ?_
  walk_at "st"
  refine k_listL (.of (s47.get b4)) fun q0 hq0 => ?_
  obtain ⟨s8, e8⟩ := new_both (o := .lst (bs.map V.int)) hq0
  generalize upd H7 q0 (.lst (bs.map V.int)) = H8 at s8 e8 ⊢
  walk_at "st"
  refine ⟨q0, bs, rfl, .of e8, by omega, fun z => by omega, fun _ z => absurd hB z, fun _ _ k0 t0 pa0 l0 H9 hk0 _ _ hl0 s9 ek0 et0 ea0 el0 => ?_⟩
  have s49 := s47.trans (s8.trans s9)
  walk_at "st"
  refine k_ixL (.of (s49.get e4)) (x := .ref pc) rfl ?_
  walk_at "st"
  refine k_listL (.of (s49.get c4)) fun q1 hq1 => ?_
  obtain ⟨s10, e10⟩ := new_both (o := .lst (ct.map V.int)) hq1
  generalize upd H9 q1 (.lst (ct.map V.int)) = H10 at s10 e10 ⊢
  walk_at "st"
  refine ⟨q1, ct, rfl, .of e10, by omega, fun z => by omega, fun _ z => absurd hCt z, fun _ _ k1 t1 pa1 l1 H11 hk1 _ _ hl1 s11 ek1 et1 ea1 el1 => ?_⟩
  walk_at "st"
  intro pk hpk
  obtain ⟨s12, e12⟩ := new_both (o := .lst [.ref k0, .ref k1]) hpk
  generalize upd H11 pk (.lst [.ref k0, .ref k1]) = H12 at s12 e12 ⊢
  have s9b := s10.trans (s11.trans s12)
  have s412 := s49.trans s9b
  have S12 := S4.trans s412
  have sd0 : Side H12 bs p w0 k0 t0 l0 := ⟨s412.get b4, W0.same ((s6.trans s7).trans ((s8.trans s9).trans s9b)), s9b.get ek0, ⟨pa0, s9b.get et0, s9b.get ea0⟩, s9b.get el0, hB, hbl⟩
  have sd1 : Side H12 ct pc w1 k1 t1 l1 := ⟨s412.get c4, W1.same (s7.trans ((s8.trans s9).trans s9b)), s12.get ek1, ⟨pa1, s12.get et1, s12.get ea1⟩, s12.get el1, hCt, by omega⟩
  have r12 := s412.get e4
  have w12 := ((s8.trans s9).trans s9b).get e7
  clear W0 W1
  walk_at "st"
  refine k_lenL (.of sd0.b) ?_
  walk_at "st"
  rw [List.length_map]
  refine loop_range0 (fun i σ' H' => ∃ v7 v8 v9, Same H12 H' ∧ σ' = [some (.ref a), some (.ref p), some (.ref pr), none, some (.ref pw), some (.ref pk), some (.int (((bs.length : Int) + 31) / 32)), v7, v8, v9, none, none, none, none, none, none]) ⟨none, none, none, Same.refl _, rfl⟩ (fun i σ' H' hi ⟨v7, v8, v9, s, es⟩ => ?_) (fun σ' HF ⟨v7, v8, v9, sF, es⟩ => ?_)
  · subst es
    obtain ⟨cs, b, w, kk, tt, bl, Sd, g2, g3, ecs⟩ : ∃ cs b w kk tt bl, Side H12 cs b w kk tt bl ∧ atI [V.ref w0, V.ref w1] (i : Int) = some (.ref w) ∧ atI [V.ref k0, V.ref k1] (i : Int) = some (.ref kk) ∧ cs.length = bs.length := by
      rcases (show i = 0 ∨ i = 1 by omega) with rfl | rfl
      · exact ⟨bs, p, w0, k0, t0, l0, sd0, rfl, rfl, rfl⟩
      · exact ⟨ct, pc, w1, k1, t1, l1, sd1, rfl, rfl, hctl⟩
    walk_at "st"
    rw [show (((bs.length : Int) + 31) / 32 + 1) = (((bs.length + 31) / 32 + 1 : Nat) : Int) by omega, Int.toNat_natCast]
    refine comp_rangeV (f := fun j => V.int (sumTo cs (32 * j))) (by omega) (fun k Ha Q2 hk sk q2 => ?_) (fun pd H13 hpd s13 e13 => ?_)
    · obtain ⟨c, z, o, hw, hc, _, _⟩ := Sd.w.same (s.trans sk)
      walk_at "st"
      refine k_ixL (.of ((s.trans sk).get w12)) g2 ?_
      walk_at "st"
      refine k_ixT (.of hw) (x := .ref c) rfl ?_
      walk_at "st"
      refine k_lenL (.of ((s.trans sk).get sd0.b)) ?_
      walk_at "st"
      rw [List.length_map]
      obtain ⟨m, em, hm⟩ : ∃ m : Nat, (if (bs.length : Int) < 32 * (k : Int) then (bs.length : Int) else 32 * (k : Int)) = (m : Int) ∧ m = min (32 * k) bs.length := ⟨_, by split <;> omega, rfl⟩
      rw [em]
      refine k_ixL (.of hc) (at_nat (mapint (cntL_get cs (show m ≤ cs.length by omega)))) ?_
      have es : sumTo cs m = sumTo cs (32 * k) := by
        rcases Nat.le_total (32 * k) cs.length with z | z
        · rw [show m = 32 * k by omega]
        · rw [sumTo_all cs (show cs.length ≤ m by omega), sumTo_all cs z]
      rw [es]
      walk_at "st"
      exact q2 _ (Same.refl _)
    have e13 : H13 pd = some (.lst ((aheadT cs).map V.int)) := by
      rw [e13]; unfold aheadT aheadN; rw [List.map_map, ecs]; rfl
    have s1213 := s.trans s13
    have Sd13 := Sd.same s1213
    walk_at "st"
    refine k_ixL (.of (s1213.get e12)) g3 ?_
    walk_at "st"
    refine k_ixT (.of Sd13.k) (x := .ref tt) rfl ?_
    walk_at "st"
    refine k_lenL (.of (s1213.get sd0.b)) ?_
    walk_at "st"
    rw [List.length_map]
    refine k_tupL (.of e13) fun pt hpt => ?_
    obtain ⟨s14, e14⟩ := new_both (o := .tup ((aheadT cs).map V.int)) hpt
    generalize upd H13 pt (.tup ((aheadT cs).map V.int)) = H14 at s14 e14 ⊢
    walk_at "st"
    intro pu hpu
    obtain ⟨s15, e15⟩ := new_both (o := .tup [.int (bs.length : Int), .ref pt]) hpu
    generalize upd H14 pu (.tup [.int (bs.length : Int), .ref pt]) = H15 at s15 e15 ⊢
    have s1315 := s14.trans s15
    have Sd15 := Sd13.same s1315
    obtain ⟨pa', r1, r2⟩ := Sd15.t
    rw [← ecs] at e15
    walk_at "st"
    refine k_neRow (.of r1) (.of r2) (.of e15) (.of (s15.get e14)) ?_
    walk_at "st"
    refine k_ixL (.of ((s1213.trans s1315).get e12)) g3 ?_
    walk_at "st"
    refine k_ixT (.of Sd15.k) (x := .ref bl) rfl ?_
    walk_at "st"
    refine k_lenL (.of Sd15.bl) ?_
    walk_at "st"
    rw [List.length_map, blks_len]
    refine k_ndecT (by omega) ?_
    walk_at "st"
    exact ⟨_, _, _, s1213.trans s1315, rfl⟩
  subst es
  have Sa0 := sd0.same sF
  have Sa1 := sd1.same sF
  have k13 := sF.get e12
  walk_at "st"
  refine k_ixL (.of k13) (x := .ref k0) rfl ?_
  walk_at "st"
  refine k_ixT (.of Sa0.k) (x := .ref l0) rfl ?_
  walk_at "st"
  refine k_listL (.of Sa0.bl) fun m0 hm0 => ?_
  obtain ⟨s16, e16⟩ := new_both (o := .lst ((blks bs).map V.int)) hm0
  generalize upd HF m0 (.lst ((blks bs).map V.int)) = H16 at s16 e16 ⊢
  walk_at "st"
  refine k_ixL (.of (s16.get k13)) (x := .ref k1) rfl ?_
  walk_at "st"
  refine k_ixT (.of (s16.get Sa1.k)) (x := .ref l1) rfl ?_
  walk_at "st"
  refine k_listL (.of (s16.get Sa1.bl)) fun m1 hm1 => ?_
  obtain ⟨s17, e17⟩ := new_both (o := .lst ((blks ct).map V.int)) hm1
  generalize upd H16 m1 (.lst ((blks ct).map V.int)) = H17 at s17 e17 ⊢
  walk_at "st"
  intro pm hpm
  obtain ⟨s18, e18⟩ := new_both (o := .lst [.ref m0, .ref m1]) hpm
  generalize upd H17 pm (.lst [.ref m0, .ref m1]) = H18 at s18 e18 ⊢
  have s1318 := s16.trans (s17.trans s18)
  have m0e := (s17.trans s18).get e16
  have m1e := s18.get e17
  walk_at "st"
  intro pq hpq
  obtain ⟨s19, e19⟩ := new_both (o := .lst []) hpq
  have hpq0 := hpq
  generalize upd H18 pq (.lst []) = H19 at s19 e19 ⊢
  have s1219 := sF.trans (s1318.trans s19)
  have S19 := S12.trans s1219
  walk_at "st"
  refine k_slTake (k := 63) (S19.seq hS) fun pl H20 hpl s20 e20 => ?_
  have npl : pq ≠ pl := ne_of_none e19 hpl
  have q20 := s20.get e19
  refine m_iLe (.of e20) ?_
  refine loop_ints (ns := ns.take 63) (fun i σ' H' => ∃ v12 v13 xs zs, Same H18 H' ∧ H' pl = some (.lst ((ns.take 63).map V.int)) ∧ H' pq = some (.lst xs) ∧ AskL H' xs zs ∧ zs.length = i ∧ σ' = [some (.ref a), some (.ref p), some (.ref pr), none, some (.ref pw), some (.ref pk), some (.int (((bs.length : Int) + 31) / 32)), v7, v8, v9, some (.ref pm), some (.ref pq), v12, v13, none, none]) ⟨none, none, [], [], s19.trans s20, e20, q20, ⟨rfl, fun i x z e => by simp at e⟩, rfl, rfl⟩ (fun i σ' H' ⟨_, _, _, _, _, e, _⟩ => .of e) (fun i c σ' H' hc ⟨v12, v13, xs, zs, s, el, eq, hA, hz, es⟩ => ?_) (fun σ' H' ⟨v12, v13, xs, zs, s, el, eq, hA, hz, es⟩ => ?_)
  · subst es
    have hil := (List.getElem?_eq_some_iff.mp hc).1
    rw [List.length_take] at hil
    walk_at "st"
    refine k_tyL (.of eq) ?_
    walk_at "st"
    refine k_lenL (.of (s.get (s1318.get Sa0.b))) ?_
    walk_at "st"
    rw [List.length_map]
    generalize hm : c * 69621 % 2147483629 = m
    have hm0 : 0 ≤ m := by omega
    generalize m / 10 % ((bs.length : Int) + 5) - 2 = at_
    obtain ⟨d1, hd1⟩ := Int.eq_ofNat_of_zero_le (show 0 ≤ m % 2 by omega)
    obtain ⟨d2, hd2⟩ := Int.eq_ofNat_of_zero_le (show 0 ≤ m / 2 % 5 by omega)
    rw [hd1, hd2]
    intro tn htn
    obtain ⟨s21, e21⟩ := new_both (o := .tup [.int (d1 : Int), .int (d2 : Int), .int at_]) htn
    have eq21 := s21.get eq
    have el21 := s21.get el
    have hA21 := (hA.same s21).app (z := (d1, d2, at_)) e21 (show d1 < 2 by omega) (show d2 < 5 by omega)
    generalize upd H' tn (.tup [.int (d1 : Int), .int (d2 : Int), .int at_]) = H21 at s21 e21 eq21 el21 hA21 ⊢
    walk_at "st"
    refine k_app eq21 (by rw [hA.1]; omega) ?_
    refine ⟨_, _, xs ++ [.ref tn], zs ++ [(d1, d2, at_)], Same.mut (s.trans s21) hpq0 ⟨_, eq21⟩, (upd_ne (Ne.symm npl)).trans el21, upd_same, hA21.put eq21, by rw [List.length_append, List.length_singleton, hz], rfl⟩
  subst es
  have r18 := s1318.trans s
  have T0 := Sa0.same r18
  have T1 := Sa1.same r18
  have hzl : zs.length ≤ 63 := by rw [hz, List.length_take]; omega
  have hTl : NdefX.TabN H' (tabP K "_law_look") nmL := (S12.trans (sF.trans r18)).tabs _ (hT "_law_look" (by decide))
  walk_at "st"
  refine ⟨pr, pw, pk, pq, bs, ct, p, w0, k0, t0, l0, pc, w1, k1, t1, l1, xs, zs, rfl, r18.get (sF.get r12), r18.get (sF.get w12), r18.get k13, T0, T1, eq, hA, hzl, hTl, fun f1 H22 hf1 s22 e22 => ?_⟩
  walk_at "st"
  refine m_revLE (.of (s22.get eq)) fun pv hpv => ?_
  obtain ⟨s23, e23⟩ := new_both (o := .lst xs.reverse) hpv
  generalize upd H22 pv (.lst xs.reverse) = H23 at s23 e23 ⊢
  have s223 := s22.trans s23
  have r23 := r18.trans s223
  walk_at "st"
  refine ⟨pr, pw, pk, pv, bs, ct, p, w0, k0, t0, l0, pc, w1, k1, t1, l1, _, _, rfl, r23.get (sF.get r12), r23.get (sF.get w12), r23.get k13, T0.same s223, T1.same s223, e23, (hA.same s223).rev, by rw [List.length_reverse]; exact hzl, s223.tabs _ hTl, fun f2 H24 hf2 s24 e24 => ?_⟩
  walk_at "st"
  refine k_decF (fun z => nomatch z) ?_
  walk_at "st"
  refine k_decF (fun z => nomatch z) ?_
  walk_at "st"
  refine m_revLE (.of e24) fun pw2 hpw2 => ?_
  obtain ⟨s25, e25⟩ := new_both (o := .lst ((ansL bs ct zs.reverse).map AV).reverse) hpw2
  have e25' : (upd H24 pw2 (.lst ((ansL bs ct zs.reverse).map AV).reverse)) pw2 = some (.lst ((ansL bs ct zs).map AV)) := by
    rw [e25]
    unfold ansL
    rw [List.map_reverse, List.map_reverse, List.reverse_reverse]
  generalize upd H24 pw2 (.lst ((ansL bs ct zs.reverse).map AV).reverse) = H25 at s25 e25' ⊢
  have s2325 := s24.trans s25
  refine k_neAns ((s23.trans s2325).get e22) e25' ?_
  have r25 := r23.trans s2325
  have U0 := T0.same (s223.trans s2325)
  have U1 := T1.same (s223.trans s2325)
  walk_at "st"
  refine k_ixL (.of (r25.get k13)) (x := .ref k0) rfl ?_
  walk_at "st"
  refine k_ixT (.of U0.k) (x := .ref l0) rfl ?_
  walk_at "st"
  refine k_ixL (.of (r25.get k13)) (x := .ref k1) rfl ?_
  walk_at "st"
  refine k_ixT (.of U1.k) (x := .ref l1) rfl ?_
  walk_at "st"
  intro pz hpz
  obtain ⟨s26, e26⟩ := new_both (o := .lst [.ref l0, .ref l1]) hpz
  have rs := ((s.trans s223).trans s2325).trans s26
  generalize upd H25 pz (.lst [.ref l0, .ref l1]) = H26 at s26 e26 rs ⊢
  walk_at "st"
  refine k_eqTwo e26 (rs.get e18) (s26.get U0.bl) (s26.get U1.bl) (rs.get m0e) (rs.get m1e) ?_
  exact q _

end Tw
namespace Tw
open PySem PySem.Spec PyProof.Rows L2
/-! the text -/
def topS (i : Nat) : Stmt := PySem.Challenge.pw_thinwood_k16_whole_row.main.body.getD i (.Pass ⟨0, 0, 0, 0⟩)
abbrev s_packed : Stmt := topS 8
theorem sc_packed : FnScope n_packed ["bits"] (defScope s_packed) := ⟨rfl, rfl, rfl, by decide +kernel, rfl, by decide +kernel, by decide +kernel⟩

abbrev s_ones_in : Stmt := topS 9
theorem sc_ones_in : FnScope n_ones_in ["block", "upto"] (defScope s_ones_in) := ⟨rfl, rfl, rfl, by decide +kernel, rfl, by decide +kernel, by decide +kernel⟩

abbrev s_one_in : Stmt := topS 10
theorem sc_one_in : FnScope n_one_in ["block", "nth"] (defScope s_one_in) := ⟨rfl, rfl, rfl, by decide +kernel, rfl, by decide +kernel, by decide +kernel⟩

abbrev s_ones_table : Stmt := topS 13
theorem sc_ones_table : FnScope n_ones_table ["blocks"] (defScope s_ones_table) := ⟨rfl, rfl, rfl, by decide +kernel, rfl, by decide +kernel, by decide +kernel⟩

abbrev s_kept_row : Stmt := topS 14
theorem sc_kept_row : FnScope n_kept_row ["bits"] (defScope s_kept_row) := ⟨rfl, rfl, rfl, by decide +kernel, rfl, by decide +kernel, by decide +kernel⟩

abbrev s_bit_at : Stmt := topS 15
theorem sc_bit_at : FnScope n_bit_at ["tables", "look", "at"] (defScope s_bit_at) := ⟨rfl, rfl, rfl, by decide +kernel, rfl, by decide +kernel, by decide +kernel⟩

abbrev s_ones_at : Stmt := topS 16
theorem sc_ones_at : FnScope n_ones_at ["tables", "look", "at"] (defScope s_ones_at) := ⟨rfl, rfl, rfl, by decide +kernel, rfl, by decide +kernel, by decide +kernel⟩

abbrev s_noughts_at : Stmt := topS 17
theorem sc_noughts_at : FnScope n_noughts_at ["tables", "look", "at"] (defScope s_noughts_at) := ⟨rfl, rfl, rfl, by decide +kernel, rfl, by decide +kernel, by decide +kernel⟩

abbrev s_bits_ahead : Stmt := topS 18
theorem sc_bits_ahead : FnScope n_bits_ahead ["ahead", "number", "kind"] (defScope s_bits_ahead) := ⟨rfl, rfl, rfl, by decide +kernel, rfl, by decide +kernel, by decide +kernel⟩

abbrev s_block_by : Stmt := topS 19
theorem sc_block_by : FnScope n_block_by ["ahead", "nth", "kind"] (defScope s_block_by) := ⟨rfl, rfl, rfl, by decide +kernel, rfl, by decide +kernel, by decide +kernel⟩

abbrev s_one_place : Stmt := topS 20
theorem sc_one_place : FnScope n_one_place ["tables", "look", "nth"] (defScope s_one_place) := ⟨rfl, rfl, rfl, by decide +kernel, rfl, by decide +kernel, by decide +kernel⟩

abbrev s_nought_place : Stmt := topS 21
theorem sc_nought_place : FnScope n_nought_place ["tables", "look", "nth"] (defScope s_nought_place) := ⟨rfl, rfl, rfl, by decide +kernel, rfl, by decide +kernel, by decide +kernel⟩

abbrev s_law_cell_at : Stmt := topS 23
theorem sc_law_cell_at : FnScope n_law_cell_at ["_law_script", "_law_k"] (defScope s_law_cell_at) := ⟨rfl, rfl, rfl, by decide +kernel, rfl, by decide +kernel, by decide +kernel⟩

abbrev s_law_great : Stmt := topS 24
theorem sc_law_great : FnScope n_law_great ["_law_bits_here", "_law_cell"] (defScope s_law_great) := ⟨rfl, rfl, rfl, by decide +kernel, rfl, by decide +kernel, by decide +kernel⟩

abbrev s_law_whole : Stmt := topS 25
theorem sc_law_whole : FnScope n_law_whole ["_law_found"] (defScope s_law_whole) := ⟨rfl, rfl, rfl, by decide +kernel, rfl, by decide +kernel, by decide +kernel⟩

abbrev s_law_bits : Stmt := topS 26
theorem sc_law_bits : FnScope n_law_bits ["_law_script"] (defScope s_law_bits) := ⟨rfl, rfl, rfl, by decide +kernel, rfl, by decide +kernel, by decide +kernel⟩

abbrev s_law_walked : Stmt := topS 27
theorem sc_law_walked : FnScope n_law_walked ["_law_bits_here"] (defScope s_law_walked) := ⟨rfl, rfl, rfl, by decide +kernel, rfl, by decide +kernel, by decide +kernel⟩

abbrev s_law_look : Stmt := topS 28
theorem sc_law_look : FnScope n_law_look ["_law_blocks", "_law_seen"] (defScope s_law_look) := ⟨rfl, rfl, rfl, by decide +kernel, rfl, by decide +kernel, by decide +kernel⟩
abbrev st_law_look_law_told : Stmt := (defBody s_law_look).getD 0 (.Pass ⟨0, 0, 0, 0⟩)
theorem sc_law_look_law_told : NdefX.NScope n_law_look_law_told ["_law_number"] ["_law_seen", "_law_blocks"] (C8.fnScope st_law_look_law_told) := NdefX.nscope_by (by decide +kernel)

abbrev s_law_few : Stmt := topS 29
theorem sc_law_few : FnScope n_law_few ["_law_seen", "_law_size", "_law_most"] (defScope s_law_few) := ⟨rfl, rfl, rfl, by decide +kernel, rfl, by decide +kernel, by decide +kernel⟩

abbrev s_law_due : Stmt := topS 30
theorem sc_law_due : FnScope n_law_due ["_law_bits_here", "_law_walked_here", "_law_kind", "_law_at"] (defScope s_law_due) := ⟨rfl, rfl, rfl, by decide +kernel, rfl, by decide +kernel, by decide +kernel⟩

abbrev s_law_told_by : Stmt := topS 31
theorem sc_law_told_by : FnScope n_law_told_by ["_law_tables", "_law_look_here", "_law_kind", "_law_at"] (defScope s_law_told_by) := ⟨rfl, rfl, rfl, by decide +kernel, rfl, by decide +kernel, by decide +kernel⟩

abbrev s_law_round : Stmt := topS 32
theorem sc_law_round : FnScope n_law_round ["_law_rows", "_law_walks", "_law_kept", "_law_asks"] (defScope s_law_round) := ⟨rfl, rfl, rfl, by decide +kernel, rfl, by decide +kernel, by decide +kernel⟩

abbrev s_law : Stmt := topS 33
theorem sc_law : FnScope n_law ["_law_script"] (defScope s_law) := ⟨rfl, rfl, rfl, by decide +kernel, rfl, by decide +kernel, by decide +kernel⟩

structure Tx (P : Program) (w : World) (K : PySem.W.Frag) (mg : Str → Option Value) (base : Heap) : Prop where
  d_packed : ∃ fd, FunD K "packed" "packed" (defArgs s_packed) (defBody s_packed) (defScope s_packed) [] [] (He.ga K "packed") fd
  g_packed : mg "packed" = some (.ref (He.ga K "packed"))
  d_ones_in : ∃ fd, FunD K "ones_in" "ones_in" (defArgs s_ones_in) (defBody s_ones_in) (defScope s_ones_in) [] [] (He.ga K "ones_in") fd
  g_ones_in : mg "ones_in" = some (.ref (He.ga K "ones_in"))
  d_one_in : ∃ fd, FunD K "one_in" "one_in" (defArgs s_one_in) (defBody s_one_in) (defScope s_one_in) [] [] (He.ga K "one_in") fd
  g_one_in : mg "one_in" = some (.ref (He.ga K "one_in"))
  d_ones_table : ∃ fd, FunD K "ones_table" "ones_table" (defArgs s_ones_table) (defBody s_ones_table) (defScope s_ones_table) [] [] (He.ga K "ones_table") fd
  g_ones_table : mg "ones_table" = some (.ref (He.ga K "ones_table"))
  d_kept_row : ∃ fd, FunD K "kept_row" "kept_row" (defArgs s_kept_row) (defBody s_kept_row) (defScope s_kept_row) [] [] (He.ga K "kept_row") fd
  g_kept_row : mg "kept_row" = some (.ref (He.ga K "kept_row"))
  d_bit_at : ∃ fd, FunD K "bit_at" "bit_at" (defArgs s_bit_at) (defBody s_bit_at) (defScope s_bit_at) [] [] (He.ga K "bit_at") fd
  g_bit_at : mg "bit_at" = some (.ref (He.ga K "bit_at"))
  d_ones_at : ∃ fd, FunD K "ones_at" "ones_at" (defArgs s_ones_at) (defBody s_ones_at) (defScope s_ones_at) [] [] (He.ga K "ones_at") fd
  g_ones_at : mg "ones_at" = some (.ref (He.ga K "ones_at"))
  d_noughts_at : ∃ fd, FunD K "noughts_at" "noughts_at" (defArgs s_noughts_at) (defBody s_noughts_at) (defScope s_noughts_at) [] [] (He.ga K "noughts_at") fd
  g_noughts_at : mg "noughts_at" = some (.ref (He.ga K "noughts_at"))
  d_bits_ahead : ∃ fd, FunD K "bits_ahead" "bits_ahead" (defArgs s_bits_ahead) (defBody s_bits_ahead) (defScope s_bits_ahead) [] [] (He.ga K "bits_ahead") fd
  g_bits_ahead : mg "bits_ahead" = some (.ref (He.ga K "bits_ahead"))
  d_block_by : ∃ fd, FunD K "block_by" "block_by" (defArgs s_block_by) (defBody s_block_by) (defScope s_block_by) [] [] (He.ga K "block_by") fd
  g_block_by : mg "block_by" = some (.ref (He.ga K "block_by"))
  d_one_place : ∃ fd, FunD K "one_place" "one_place" (defArgs s_one_place) (defBody s_one_place) (defScope s_one_place) [] [] (He.ga K "one_place") fd
  g_one_place : mg "one_place" = some (.ref (He.ga K "one_place"))
  d_nought_place : ∃ fd, FunD K "nought_place" "nought_place" (defArgs s_nought_place) (defBody s_nought_place) (defScope s_nought_place) [] [] (He.ga K "nought_place") fd
  g_nought_place : mg "nought_place" = some (.ref (He.ga K "nought_place"))
  d_law_cell_at : ∃ fd, FunD K "_law_cell_at" "_law_cell_at" (defArgs s_law_cell_at) (defBody s_law_cell_at) (defScope s_law_cell_at) [] [] (He.ga K "_law_cell_at") fd
  g_law_cell_at : mg "_law_cell_at" = some (.ref (He.ga K "_law_cell_at"))
  d_law_great : ∃ fd, FunD K "_law_great" "_law_great" (defArgs s_law_great) (defBody s_law_great) (defScope s_law_great) [] [] (He.ga K "_law_great") fd
  g_law_great : mg "_law_great" = some (.ref (He.ga K "_law_great"))
  d_law_whole : ∃ fd, FunD K "_law_whole" "_law_whole" (defArgs s_law_whole) (defBody s_law_whole) (defScope s_law_whole) [] [] (He.ga K "_law_whole") fd
  g_law_whole : mg "_law_whole" = some (.ref (He.ga K "_law_whole"))
  d_law_bits : ∃ fd, FunD K "_law_bits" "_law_bits" (defArgs s_law_bits) (defBody s_law_bits) (defScope s_law_bits) [] [] (He.ga K "_law_bits") fd
  g_law_bits : mg "_law_bits" = some (.ref (He.ga K "_law_bits"))
  d_law_walked : ∃ fd, FunD K "_law_walked" "_law_walked" (defArgs s_law_walked) (defBody s_law_walked) (defScope s_law_walked) [] [] (He.ga K "_law_walked") fd
  g_law_walked : mg "_law_walked" = some (.ref (He.ga K "_law_walked"))
  d_law_look : ∃ fd, FunD K "_law_look" "_law_look" (defArgs s_law_look) (defBody s_law_look) (defScope s_law_look) [] [] (He.ga K "_law_look") fd
  g_law_look : mg "_law_look" = some (.ref (He.ga K "_law_look"))
  d_law_few : ∃ fd, FunD K "_law_few" "_law_few" (defArgs s_law_few) (defBody s_law_few) (defScope s_law_few) [] [] (He.ga K "_law_few") fd
  g_law_few : mg "_law_few" = some (.ref (He.ga K "_law_few"))
  d_law_due : ∃ fd, FunD K "_law_due" "_law_due" (defArgs s_law_due) (defBody s_law_due) (defScope s_law_due) [] [] (He.ga K "_law_due") fd
  g_law_due : mg "_law_due" = some (.ref (He.ga K "_law_due"))
  d_law_told_by : ∃ fd, FunD K "_law_told_by" "_law_told_by" (defArgs s_law_told_by) (defBody s_law_told_by) (defScope s_law_told_by) [] [] (He.ga K "_law_told_by") fd
  g_law_told_by : mg "_law_told_by" = some (.ref (He.ga K "_law_told_by"))
  d_law_round : ∃ fd, FunD K "_law_round" "_law_round" (defArgs s_law_round) (defBody s_law_round) (defScope s_law_round) [] [] (He.ga K "_law_round") fd
  g_law_round : mg "_law_round" = some (.ref (He.ga K "_law_round"))
  d_law : ∃ fd, FunD K "law" "law" (defArgs s_law) (defBody s_law) (defScope s_law) [] [] (He.ga K "law") fd
  g_law : mg "law" = some (.ref (He.ga K "law"))
  b_bool : mg "bool" = none
  b_enumerate : mg "enumerate" = none
  b_int : mg "int" = none
  b_isinstance : mg "isinstance" = none
  b_len : mg "len" = none
  b_list : mg "list" = none
  b_min : mg "min" = none
  b_range : mg "range" = none
  b_set : mg "set" = none
  b_sum : mg "sum" = none
  b_tuple : mg "tuple" = none
  x_NoBit : ExF K mg "NoBit"
  x_NoPlace : ExF K mg "NoPlace"
  x_TooMany : ExF K mg "TooMany"
  g_NoBit : mg "NoBit" = some (.ref (He.ga K "NoBit"))
  g_NoPlace : mg "NoPlace" = some (.ref (He.ga K "NoPlace"))
  g_TooMany : mg "TooMany" = some (.ref (He.ga K "TooMany"))
  fx : KFx K
  i_ALL : ∃ t, mg "ALL" = some (.int 4294967295 t)
  i_MOST : ∃ t, mg "MOST" = some (.int 4096 t)
  i_WIDE : ∃ t, mg "WIDE" = some (.int 32 t)
  tb_law_look : LamX.TabB base mg (He.cT K ("_law_look", none)).1 (He.cT K ("_law_look", none)).2
section
variable {P : Program} {w : World} {K : PySem.W.Frag} {mg : Str → Option Value} {base : Heap}
theorem ok_packed (T : Tx P w K mg base) : Okf P w K mg base (L2.CX P w) 2 "packed" ["bits"] (sp_packed K) := by
  obtain ⟨fd, FD⟩ := T.d_packed
  refine ⟨⟨fd, FunD.look FD, FD.bindsN fun _ _ _ _ _ _ us hl => match us, hl with | [_], _ => rfl, ?_⟩, FD.kp, T.g_packed⟩
  refine FunD.ok (CX := (L2.CX P w)) FD sc_packed (len_packed K) (fun cdv A outer s H vs Q E hr h => ⟨t_packed K E, ?_, rd_packed K vs H Q E h⟩)
  exact (pss_cons (ps_if (pt_cmpR op_gt (pe_callB call_lenK (by rfl) T.b_len (by decide +kernel) (pa_cons (pv 0) pa_nil)) (pe_gint T.i_MOST (by rfl)) (nomark _))
  (pss_one (ps_rz T.x_TooMany (takes_of rfl rfl rfl rfl)))
  pss_nil)
  (pss_cons (ps_set (i := 1) sc_packed.nd rfl (.inl rfl) (pe_op op_rep (pe_lst (pa_cons pe_int pa_nil)) (pe_op op_fdiv (pe_op op_sub (pe_op op_add (pe_callB call_lenK (by rfl) T.b_len (by decide +kernel) (pa_cons (pv 0) pa_nil)) (pe_gint T.i_WIDE (by rfl))) pe_int) (pe_gint T.i_WIDE (by rfl)))))
  (pss_cons (ps_for (passes_of rfl) rfl (pi_enum (by rfl) T.b_enumerate (pa_cons (pv 0) pa_nil)) (pg_tup rfl (pgs_cons (pg_name (i := 2) sc_packed.nd rfl (.inl rfl)) (pgs_cons (pg_name (i := 3) sc_packed.nd rfl (.inl rfl)) pgs_nil)))
  (pss_cons (ps_if (PW.pt (pw_and (pt_cmpR op_ne (pv 3) pe_int (nomark _)) (pw_and1 (pt_cmpR op_ne (pv 3) pe_int (nomark _)))))
  (pss_one (ps_rz T.x_NoBit (takes_of rfl rfl rfl rfl)))
  pss_nil)
  (pss_one (ps_if (pt_cmpR op_eq (pv 3) pe_int (nomark _))
  (pss_one (ps_asg (pe_op op_or (pe_ix ix_list (pv 1) (pe_op op_fdiv (pv 2) (pe_gint T.i_WIDE (by rfl))) (fun _ _ => rfl)) (pe_op op_shlW pe_int (pe_op op_mod (pv 2) (pe_gint T.i_WIDE (by rfl))))) (pg_sub (pv 1) (pe_op op_fdiv (pv 2) (pe_gint T.i_WIDE (by rfl))) set_list)))
  pss_nil))))
  (pss_one (ps_ret (pv 1))))))

theorem ok_ones_in (T : Tx P w K mg base) : Okf P w K mg base CX0 1 "ones_in" ["block", "upto"] (sp_ones_in K) := by
  obtain ⟨fd, FD⟩ := T.d_ones_in
  refine ⟨⟨fd, FunD.look FD, FD.bindsN fun _ _ _ _ _ _ us hl => match us, hl with | [_, _], _ => rfl, ?_⟩, FD.kp, T.g_ones_in⟩
  refine FunD.ok (CX := CX0) FD sc_ones_in (len_ones_in K) (fun cdv A outer s H vs Q E hr h => ⟨t_ones_in K, PSs.nox ?_, rd_ones_in K vs H Q E h⟩)
  exact (pss_one (ps_ret (pe_callB (cr_sum rfl) (by rfl) T.b_sum (by decide +kernel) (pa_cons (pe_lc (own := [("k", 2)]) (g := (gName 2)) (tt := tYes) rfl sc_ones_in.nd (pi_range1 (by rfl) T.b_range (pa_cons (pv 1) pa_nil)) (blkOk_by (N := ["block", "upto", "k"]) (sc := defScope s_ones_in) (own := [("k", 2)]) (by decide +kernel)) (fun _ _ _ _ _ => (pg_name (i := 2) sc_ones_in.nd rfl (.inl rfl))) (fun _ _ _ _ _ => pts_nil) (fun _ _ _ _ _ => (pe_op op_and1 (pe_op op_shr (pv 0) (pv 2)) pe_int))) pa_nil))))

theorem ok_one_in (T : Tx P w K mg base) : Okf P w K mg base CX0 1 "one_in" ["block", "nth"] (sp_one_in K) := by
  obtain ⟨fd, FD⟩ := T.d_one_in
  refine ⟨⟨fd, FunD.look FD, FD.bindsN fun _ _ _ _ _ _ us hl => match us, hl with | [_, _], _ => rfl, ?_⟩, FD.kp, T.g_one_in⟩
  refine FunD.ok (CX := CX0) FD sc_one_in (len_one_in K) (fun cdv A outer s H vs Q E hr h => ⟨t_one_in K, PSs.nox ?_, rd_one_in K vs H Q E h⟩)
  exact (pss_cons (ps_for PassesOwn.never rfl (pi_range1 (by rfl) T.b_range (pa_cons (pe_gint T.i_WIDE (by rfl)) pa_nil)) (pg_name (i := 2) sc_one_in.nd rfl (.inl rfl))
  (pss_one (ps_if (pt_cmpR op_eq (pe_op op_and1 (pe_op op_shr (pv 0) (pv 2)) pe_int) pe_int (nomark _))
  (pss_cons (ps_if (pt_cmpR op_eq (pv 1) pe_int (nomark _))
  (pss_one (ps_ret (pv 2)))
  pss_nil)
  (pss_one (ps_aug (i := 1) sc_one_in.nd rfl (.inl rfl) pe_int ip_sub)))
  pss_nil)))
  (pss_one (ps_ret pe_non)))

theorem ok_ones_table (T : Tx P w K mg base) (o_ones_in : Okf P w K mg base CX0 1 "ones_in" ["block", "upto"] (sp_ones_in K)) : Okf P w K mg base CX0 2 "ones_table" ["blocks"] (sp_ones_table K) := by
  obtain ⟨fd, FD⟩ := T.d_ones_table
  refine ⟨⟨fd, FunD.look FD, FD.bindsN fun _ _ _ _ _ _ us hl => match us, hl with | [_], _ => rfl, ?_⟩, FD.kp, T.g_ones_table⟩
  refine FunD.ok (CX := CX0) FD sc_ones_table (len_ones_table K) (fun cdv A outer s H vs Q E hr h => ⟨t_ones_table K, PSs.nox ?_, rd_ones_table K vs H Q E h⟩)
  exact (pss_cons (ps_set (i := 1) sc_ones_table.nd rfl (.inl rfl) (pe_lst (pa_cons pe_int pa_nil)))
  (pss_cons (ps_for PassesOwn.never rfl (pi_list (pv 0)) (pg_name (i := 2) sc_ones_table.nd rfl (.inl rfl))
  (pss_one (ps_expr (pe_bm PySem.F.plainAttrs_list PySem.F.slot_list_append PySem.F.type_list_append mt_append (pv 1) (pa_cons (pe_op op_add (pe_ix ix_list (pv 1) (pe_un un_neg pe_int) (fun _ _ => rfl)) (pe_callF o_ones_in hr (by decide) (by rfl) pass0 (pa_cons (pv 2) (pa_cons (pe_gint T.i_WIDE (by rfl)) pa_nil)))) pa_nil)))))
  (pss_one (ps_ret (pe_callTy call_tupK (by rfl) T.b_tuple (by decide +kernel) (pa_cons (pv 1) pa_nil))))))

theorem ok_kept_row (T : Tx P w K mg base) (o_packed : Okf P w K mg base (L2.CX P w) 2 "packed" ["bits"] (sp_packed K)) (o_ones_table : Okf P w K mg base CX0 2 "ones_table" ["blocks"] (sp_ones_table K)) : Okf P w K mg base (L2.CX P w) 4 "kept_row" ["bits"] (sp_kept_row K) := by
  obtain ⟨fd, FD⟩ := T.d_kept_row
  refine ⟨⟨fd, FunD.look FD, FD.bindsN fun _ _ _ _ _ _ us hl => match us, hl with | [_], _ => rfl, ?_⟩, FD.kp, T.g_kept_row⟩
  refine FunD.ok (CX := (L2.CX P w)) FD sc_kept_row (len_kept_row K) (fun cdv A outer s H vs Q E hr h => ⟨t_kept_row K E, ?_, rd_kept_row K vs H Q E h⟩)
  exact (pss_cons (ps_set (i := 1) sc_kept_row.nd rfl (.inl rfl) (pe_callF o_packed hr (by decide) (by rfl) (passX (takes_of rfl rfl rfl rfl)) (pa_cons (pv 0) pa_nil)))
  (pss_one (ps_ret (pe_tup (pa_cons (pe_tup (pa_cons (pe_callB call_lenK (by rfl) T.b_len (by decide +kernel) (pa_cons (pv 0) pa_nil)) (pa_cons (pe_callF o_ones_table hr (by decide) (by rfl) pass0 (pa_cons (pv 1) pa_nil)) pa_nil))) (pa_cons (pv 1) pa_nil))))))

theorem ok_bit_at (T : Tx P w K mg base) : Okf P w K mg base (L2.CX P w) 11 "bit_at" ["tables", "look", "at"] (sp_bit_at K (Cal P w K mg base)) := by
  obtain ⟨fd, FD⟩ := T.d_bit_at
  refine ⟨⟨fd, FunD.look FD, FD.bindsN fun _ _ _ _ _ _ us hl => match us, hl with | [_, _, _], _ => rfl, ?_⟩, FD.kp, T.g_bit_at⟩
  refine FunD.ok (CX := (L2.CX P w)) FD sc_bit_at (len_bit_at K (Cal P w K mg base)) (fun cdv A outer s H vs Q E hr h => ⟨t_bit_at K (Cal P w K mg base) E, ?_, rd_bit_at K (Cal P w K mg base) vs H Q E h⟩)
  exact (pss_cons (ps_if (PW.pt (pw_or (pt_cmpR op_lt (pv 2) pe_int (nomark _)) (pw_or1 (pt_cmpR op_ge (pv 2) (pe_ix ix_tup (pv 0) pe_int (fun _ _ => rfl)) (nomark _)))))
  (pss_one (ps_rz T.x_NoPlace (takes_of rfl rfl rfl rfl)))
  pss_nil)
  (pss_one (ps_ret (pe_op op_and1 (pe_op op_shr (pe_callV (k := 9) (i := 1) hr (by decide) rfl (.inl rfl) (pa_cons (pe_op op_fdiv (pv 2) (pe_gint T.i_WIDE (by rfl))) pa_nil)) (pe_op op_mod (pv 2) (pe_gint T.i_WIDE (by rfl)))) pe_int))))

theorem ok_ones_at (T : Tx P w K mg base) (o_ones_in : Okf P w K mg base CX0 1 "ones_in" ["block", "upto"] (sp_ones_in K)) : Okf P w K mg base (L2.CX P w) 11 "ones_at" ["tables", "look", "at"] (sp_ones_at K (Cal P w K mg base)) := by
  obtain ⟨fd, FD⟩ := T.d_ones_at
  refine ⟨⟨fd, FunD.look FD, FD.bindsN fun _ _ _ _ _ _ us hl => match us, hl with | [_, _, _], _ => rfl, ?_⟩, FD.kp, T.g_ones_at⟩
  refine FunD.ok (CX := (L2.CX P w)) FD sc_ones_at (len_ones_at K (Cal P w K mg base)) (fun cdv A outer s H vs Q E hr h => ⟨t_ones_at K (Cal P w K mg base) E, ?_, rd_ones_at K (Cal P w K mg base) vs H Q E h⟩)
  exact (pss_cons (ps_asg (pv 0) (pg_tup rfl (pgs_cons (pg_name (i := 3) sc_ones_at.nd rfl (.inl rfl)) (pgs_cons (pg_name (i := 4) sc_ones_at.nd rfl (.inl rfl)) pgs_nil))))
  (pss_cons (ps_if (PW.pt (pw_or (pt_cmpR op_lt (pv 2) pe_int (nomark _)) (pw_or1 (pt_cmpR op_gt (pv 2) (pv 3) (nomark _)))))
  (pss_one (ps_rz T.x_NoPlace (takes_of rfl rfl rfl rfl)))
  pss_nil)
  (pss_cons (ps_set (i := 5) sc_ones_at.nd rfl (.inl rfl) (pe_ix ix_tup (pv 4) (pe_op op_fdiv (pv 2) (pe_gint T.i_WIDE (by rfl))) (fun _ _ => rfl)))
  (Evl.pss_cut (ps_if (pt_cmpR op_gt (pe_op op_mod (pv 2) (pe_gint T.i_WIDE (by rfl))) pe_int (nomark _))
  (pss_one (ps_aug (i := 5) sc_ones_at.nd rfl (.inl rfl) (pe_callF o_ones_in hr (by decide) (by rfl) pass0 (pa_cons (pe_callV (k := 9) (i := 1) hr (by decide) rfl (.inl rfl) (pa_cons (pe_op op_fdiv (pv 2) (pe_gint T.i_WIDE (by rfl))) pa_nil)) (pa_cons (pe_op op_mod (pv 2) (pe_gint T.i_WIDE (by rfl))) pa_nil))) ip_add))
  pss_nil)
  (pss_one (ps_ret (pv 5)))))))

theorem ok_noughts_at (T : Tx P w K mg base) (o_ones_at : Okf P w K mg base (L2.CX P w) 11 "ones_at" ["tables", "look", "at"] (sp_ones_at K (Cal P w K mg base))) : Okf P w K mg base (L2.CX P w) 13 "noughts_at" ["tables", "look", "at"] (sp_noughts_at K (Cal P w K mg base)) := by
  obtain ⟨fd, FD⟩ := T.d_noughts_at
  refine ⟨⟨fd, FunD.look FD, FD.bindsN fun _ _ _ _ _ _ us hl => match us, hl with | [_, _, _], _ => rfl, ?_⟩, FD.kp, T.g_noughts_at⟩
  refine FunD.ok (CX := (L2.CX P w)) FD sc_noughts_at (len_noughts_at K (Cal P w K mg base)) (fun cdv A outer s H vs Q E hr h => ⟨t_noughts_at K (Cal P w K mg base) E, ?_, rd_noughts_at K (Cal P w K mg base) vs H Q E h⟩)
  exact (pss_one (ps_ret (pe_op op_sub (pv 2) (pe_callF o_ones_at hr (by decide) (by rfl) (passX (takes_of rfl rfl rfl rfl)) (pa_cons (pv 0) (pa_cons (pv 1) (pa_cons (pv 2) pa_nil)))))))

theorem ok_bits_ahead (T : Tx P w K mg base) : Okf P w K mg base CX0 1 "bits_ahead" ["ahead", "number", "kind"] (sp_bits_ahead K) := by
  obtain ⟨fd, FD⟩ := T.d_bits_ahead
  refine ⟨⟨fd, FunD.look FD, FD.bindsN fun _ _ _ _ _ _ us hl => match us, hl with | [_, _, _], _ => rfl, ?_⟩, FD.kp, T.g_bits_ahead⟩
  refine FunD.ok (CX := CX0) FD sc_bits_ahead (len_bits_ahead K) (fun cdv A outer s H vs Q E hr h => ⟨t_bits_ahead K, PSs.nox ?_, rd_bits_ahead K vs H Q E h⟩)
  exact (pss_cons (ps_if (pt_cmpR op_eq (pv 2) pe_int (nomark _))
  (pss_one (ps_ret (pe_ix ix_tup (pv 0) (pv 1) (fun _ _ => rfl))))
  pss_nil)
  (pss_one (ps_ret (pe_op op_sub (pe_op op_mul (pe_gint T.i_WIDE (by rfl)) (pv 1)) (pe_ix ix_tup (pv 0) (pv 1) (fun _ _ => rfl))))))

theorem ok_block_by (T : Tx P w K mg base) (o_bits_ahead : Okf P w K mg base CX0 1 "bits_ahead" ["ahead", "number", "kind"] (sp_bits_ahead K)) : Okf P w K mg base CX0 2 "block_by" ["ahead", "nth", "kind"] (sp_block_by K) := by
  obtain ⟨fd, FD⟩ := T.d_block_by
  refine ⟨⟨fd, FunD.look FD, FD.bindsN fun _ _ _ _ _ _ us hl => match us, hl with | [_, _, _], _ => rfl, ?_⟩, FD.kp, T.g_block_by⟩
  refine FunD.ok (CX := CX0) FD sc_block_by (len_block_by K) (fun cdv A outer s H vs Q E hr h => ⟨t_block_by K, PSs.nox ?_, rd_block_by K vs H Q E h⟩)
  exact (pss_cons (ps_set (i := 3) sc_block_by.nd rfl (.inl rfl) pe_int)
  (pss_cons (ps_set (i := 4) sc_block_by.nd rfl (.inl rfl) (pe_op op_sub (pe_callB call_lenK (by rfl) T.b_len (by decide +kernel) (pa_cons (pv 0) pa_nil)) pe_int))
  (pss_cons (ps_while PassesOwn.never (pt_cmpR op_gt (pe_op op_sub (pv 4) (pv 3)) pe_int (nomark _))
  (pss_cons (ps_set (i := 5) sc_block_by.nd rfl (.inl rfl) (pe_op op_fdiv (pe_op op_add (pv 3) (pv 4)) pe_int))
  (pss_one (ps_if (pt_cmpR op_le (pe_callF o_bits_ahead hr (by decide) (by rfl) pass0 (pa_cons (pv 0) (pa_cons (pv 5) (pa_cons (pv 2) pa_nil)))) (pv 1) (nomark _))
  (pss_one (ps_set (i := 3) sc_block_by.nd rfl (.inl rfl) (pv 5)))
  (pss_one (ps_set (i := 4) sc_block_by.nd rfl (.inl rfl) (pv 5)))))))
  (pss_one (ps_ret (pv 3))))))

theorem ok_one_place (T : Tx P w K mg base) (o_block_by : Okf P w K mg base CX0 2 "block_by" ["ahead", "nth", "kind"] (sp_block_by K)) (o_one_in : Okf P w K mg base CX0 1 "one_in" ["block", "nth"] (sp_one_in K)) (o_bits_ahead : Okf P w K mg base CX0 1 "bits_ahead" ["ahead", "number", "kind"] (sp_bits_ahead K)) : Okf P w K mg base (L2.CX P w) 11 "one_place" ["tables", "look", "nth"] (sp_one_place K (Cal P w K mg base)) := by
  obtain ⟨fd, FD⟩ := T.d_one_place
  refine ⟨⟨fd, FunD.look FD, FD.bindsN fun _ _ _ _ _ _ us hl => match us, hl with | [_, _, _], _ => rfl, ?_⟩, FD.kp, T.g_one_place⟩
  refine FunD.ok (CX := (L2.CX P w)) FD sc_one_place (len_one_place K (Cal P w K mg base)) (fun cdv A outer s H vs Q E hr h => ⟨t_one_place K (Cal P w K mg base) E, ?_, rd_one_place K (Cal P w K mg base) vs H Q E h⟩)
  exact (pss_cons (ps_set (i := 3) sc_one_place.nd rfl (.inl rfl) (pe_ix ix_tup (pv 0) pe_int (fun _ _ => rfl)))
  (pss_cons (ps_if (PW.pt (pw_or (pt_cmpR op_lt (pv 2) pe_int (nomark _)) (pw_or1 (pt_cmpR op_ge (pv 2) (pe_ix ix_tup (pv 3) (pe_un un_neg pe_int) (fun _ _ => rfl)) (nomark _)))))
  (pss_one (ps_rz T.x_NoPlace (takes_of rfl rfl rfl rfl)))
  pss_nil)
  (pss_cons (ps_set (i := 4) sc_one_place.nd rfl (.inl rfl) (pe_callF o_block_by hr (by decide) (by rfl) pass0 (pa_cons (pv 3) (pa_cons (pv 2) (pa_cons pe_int pa_nil)))))
  (pss_one (ps_ret (pe_op op_add (pe_op op_mul (pe_gint T.i_WIDE (by rfl)) (pv 4)) (pe_callF o_one_in hr (by decide) (by rfl) pass0 (pa_cons (pe_callV (k := 9) (i := 1) hr (by decide) rfl (.inl rfl) (pa_cons (pv 4) pa_nil)) (pa_cons (pe_op op_sub (pv 2) (pe_callF o_bits_ahead hr (by decide) (by rfl) pass0 (pa_cons (pv 3) (pa_cons (pv 4) (pa_cons pe_int pa_nil))))) pa_nil)))))))))

theorem ok_nought_place (T : Tx P w K mg base) (o_block_by : Okf P w K mg base CX0 2 "block_by" ["ahead", "nth", "kind"] (sp_block_by K)) (o_one_in : Okf P w K mg base CX0 1 "one_in" ["block", "nth"] (sp_one_in K)) (o_bits_ahead : Okf P w K mg base CX0 1 "bits_ahead" ["ahead", "number", "kind"] (sp_bits_ahead K)) : Okf P w K mg base (L2.CX P w) 11 "nought_place" ["tables", "look", "nth"] (sp_nought_place K (Cal P w K mg base)) := by
  obtain ⟨fd, FD⟩ := T.d_nought_place
  refine ⟨⟨fd, FunD.look FD, FD.bindsN fun _ _ _ _ _ _ us hl => match us, hl with | [_, _, _], _ => rfl, ?_⟩, FD.kp, T.g_nought_place⟩
  refine FunD.ok (CX := (L2.CX P w)) FD sc_nought_place (len_nought_place K (Cal P w K mg base)) (fun cdv A outer s H vs Q E hr h => ⟨t_nought_place K (Cal P w K mg base) E, ?_, rd_nought_place K (Cal P w K mg base) vs H Q E h⟩)
  exact (pss_cons (ps_asg (pv 0) (pg_tup rfl (pgs_cons (pg_name (i := 3) sc_nought_place.nd rfl (.inl rfl)) (pgs_cons (pg_name (i := 4) sc_nought_place.nd rfl (.inl rfl)) pgs_nil))))
  (pss_cons (ps_if (PW.pt (pw_or (pt_cmpR op_lt (pv 2) pe_int (nomark _)) (pw_or1 (pt_cmpR op_ge (pv 2) (pe_op op_sub (pv 3) (pe_ix ix_tup (pv 4) (pe_un un_neg pe_int) (fun _ _ => rfl))) (nomark _)))))
  (pss_one (ps_rz T.x_NoPlace (takes_of rfl rfl rfl rfl)))
  pss_nil)
  (pss_cons (ps_set (i := 5) sc_nought_place.nd rfl (.inl rfl) (pe_callF o_block_by hr (by decide) (by rfl) pass0 (pa_cons (pv 4) (pa_cons (pv 2) (pa_cons pe_int pa_nil)))))
  (pss_one (ps_ret (pe_op op_add (pe_op op_mul (pe_gint T.i_WIDE (by rfl)) (pv 5)) (pe_callF o_one_in hr (by decide) (by rfl) pass0 (pa_cons (pe_op op_xor (pe_callV (k := 9) (i := 1) hr (by decide) rfl (.inl rfl) (pa_cons (pv 5) pa_nil)) (pe_gint T.i_ALL (by rfl))) (pa_cons (pe_op op_sub (pv 2) (pe_callF o_bits_ahead hr (by decide) (by rfl) pass0 (pa_cons (pv 4) (pa_cons (pv 5) (pa_cons pe_int pa_nil))))) pa_nil)))))))))

theorem ok_law_cell_at (T : Tx P w K mg base) : Okf P w K mg base CX0 1 "_law_cell_at" ["_law_script", "_law_k"] (sp_law_cell_at K) := by
  obtain ⟨fd, FD⟩ := T.d_law_cell_at
  refine ⟨⟨fd, FunD.look FD, FD.bindsN fun _ _ _ _ _ _ us hl => match us, hl with | [_, _], _ => rfl, ?_⟩, FD.kp, T.g_law_cell_at⟩
  refine FunD.ok (CX := CX0) FD sc_law_cell_at (len_law_cell_at K) (fun cdv A outer s H vs Q E hr h => ⟨t_law_cell_at K, PSs.nox ?_, rd_law_cell_at K vs H Q E h⟩)
  exact (pss_cons (ps_if (pt_cmpR op_lt (pv 1) (pe_callB call_lenK (by rfl) T.b_len (by decide +kernel) (pa_cons (pv 0) pa_nil)) (nomark _))
  (pss_one (ps_ret (pe_ix ix_list (pv 0) (pv 1) (fun _ _ => rfl))))
  pss_nil)
  (pss_one (ps_ret pe_int)))

theorem ok_law_great (T : Tx P w K mg base) : Okf P w K mg base CX0 1 "_law_great" ["_law_bits_here", "_law_cell"] (sp_law_great K) := by
  obtain ⟨fd, FD⟩ := T.d_law_great
  refine ⟨⟨fd, FunD.look FD, FD.bindsN fun _ _ _ _ _ _ us hl => match us, hl with | [_, _], _ => rfl, ?_⟩, FD.kp, T.g_law_great⟩
  refine FunD.ok (CX := CX0) FD sc_law_great (len_law_great K) (fun cdv A outer s H vs Q E hr h => ⟨t_law_great K, PSs.nox ?_, rd_law_great K vs H Q E h⟩)
  exact (pss_cons (ps_set (i := 2) sc_law_great.nd rfl (.inl rfl) (pe_op op_mod (pe_op op_mul (pv 1) pe_int) pe_int))
  (pss_cons (ps_set (i := 3) sc_law_great.nd rfl (.inl rfl) (pe_lst pa_nil))
  (pss_cons (ps_for PassesOwn.never rfl (pi_range1 (by rfl) T.b_range (pa_cons pe_int pa_nil)) (pg_name (i := 4) sc_law_great.nd rfl (.inl rfl))
  (pss_cons (ps_expr (pe_bm PySem.F.plainAttrs_list PySem.F.slot_list_append PySem.F.type_list_append mt_append (pv 3) (pa_cons (pe_op op_mod (pv 2) pe_int) pa_nil)))
  (pss_one (ps_set (i := 2) sc_law_great.nd rfl (.inl rfl) (pe_op op_fdiv (pv 2) pe_int)))))
  (pss_one (ps_ret (pe_slice sl_list (pe_op op_catK (pv 0) (pe_op op_rep (pv 3) pe_int)) po_none (po_some pe_int)))))))

theorem ok_law_whole (T : Tx P w K mg base) : Okf P w K mg base CX0 1 "_law_whole" ["_law_found"] (sp_law_whole K) := by
  obtain ⟨fd, FD⟩ := T.d_law_whole
  refine ⟨⟨fd, FunD.look FD, FD.bindsN fun _ _ _ _ _ _ us hl => match us, hl with | [_], _ => rfl, ?_⟩, FD.kp, T.g_law_whole⟩
  refine FunD.ok (CX := CX0) FD sc_law_whole (len_law_whole K) (fun cdv A outer s H vs Q E hr h => ⟨t_law_whole K, PSs.nox ?_, rd_law_whole K vs H Q E h⟩)
  exact (pss_one (ps_ret (pe_and (pe_callB call_isB (by rfl) T.b_isinstance (by decide +kernel) (pa_cons (pv 0) (pa_cons (pe_bltn (v := .ty "int") (by rfl) T.b_int (by decide +kernel) rfl) pa_nil))) (pe_one (pe_not (pe_callB call_isB (by rfl) T.b_isinstance (by decide +kernel) (pa_cons (pv 0) (pa_cons (pe_bltn (v := .ty "bool") (by rfl) T.b_bool (by decide +kernel) rfl) pa_nil))))))))

theorem ok_law_bits (T : Tx P w K mg base) : Okf P w K mg base CX0 1 "_law_bits" ["_law_script"] (sp_law_bits K) := by
  obtain ⟨fd, FD⟩ := T.d_law_bits
  refine ⟨⟨fd, FunD.look FD, FD.bindsN fun _ _ _ _ _ _ us hl => match us, hl with | [_], _ => rfl, ?_⟩, FD.kp, T.g_law_bits⟩
  refine FunD.ok (CX := CX0) FD sc_law_bits (len_law_bits K) (fun cdv A outer s H vs Q E hr h => ⟨t_law_bits K, PSs.nox ?_, rd_law_bits K vs H Q E h⟩)
  exact (pss_cons (ps_set (i := 1) sc_law_bits.nd rfl (.inl rfl) (pe_lst pa_nil))
  (pss_cons (ps_for PassesOwn.never rfl (pi_list (pe_slice sl_list (pv 0) po_none (po_some pe_int))) (pg_name (i := 2) sc_law_bits.nd rfl (.inl rfl))
  (pss_cons (ps_set (i := 3) sc_law_bits.nd rfl (.inl rfl) (pe_op op_mod (pe_op op_mul (pv 2) pe_int) pe_int))
  (pss_cons (ps_set (i := 4) sc_law_bits.nd rfl (.inl rfl) (pe_op op_fdiv (pv 3) pe_int))
  (pss_cons (ps_set (i := 5) sc_law_bits.nd rfl (.inl rfl) (pe_op op_add pe_int (pe_op op_mod (pe_op op_fdiv (pv 3) pe_int) pe_int)))
  (Evl.pss_cut (ps_if (pt_cmpR op_eq (pe_op op_mod (pe_op op_fdiv (pv 3) pe_int) pe_int) pe_int (nomark _))
  (pss_one (ps_set (i := 5) sc_law_bits.nd rfl (.inl rfl) pe_int))
  pss_nil)
  (pss_one (ps_for PassesOwn.never rfl (pi_range1 (by rfl) T.b_range (pa_cons (pv 5) pa_nil)) (pg_name (i := 6) sc_law_bits.nd rfl (.inl rfl))
  (pss_cons (ps_expr (pe_bm PySem.F.plainAttrs_list PySem.F.slot_list_append PySem.F.type_list_append mt_append (pv 1) (pa_cons (pe_op op_mod (pv 4) pe_int) pa_nil)))
  (pss_one (ps_if (pt_cmpR op_eq (pe_op op_mod (pv 3) pe_int) pe_int (nomark _))
  (pss_one (ps_set (i := 4) sc_law_bits.nd rfl (.inl rfl) (pe_op op_fdiv (pv 4) pe_int)))
  pss_nil))))))))))
  (pss_one (ps_ret (pe_slice sl_list (pv 1) po_none (po_some pe_int))))))

theorem ok_law_walked (T : Tx P w K mg base) : Okf P w K mg base CX0 1 "_law_walked" ["_law_bits_here"] (sp_law_walked K) := by
  obtain ⟨fd, FD⟩ := T.d_law_walked
  refine ⟨⟨fd, FunD.look FD, FD.bindsN fun _ _ _ _ _ _ us hl => match us, hl with | [_], _ => rfl, ?_⟩, FD.kp, T.g_law_walked⟩
  refine FunD.ok (CX := CX0) FD sc_law_walked (len_law_walked K) (fun cdv A outer s H vs Q E hr h => ⟨t_law_walked K, PSs.nox ?_, rd_law_walked K vs H Q E h⟩)
  exact (pss_cons (ps_set (i := 1) sc_law_walked.nd rfl (.inl rfl) (pe_lst (pa_cons pe_int pa_nil)))
  (pss_cons (ps_set (i := 2) sc_law_walked.nd rfl (.inl rfl) (pe_lst (pa_cons (pe_lst pa_nil) (pa_cons (pe_lst pa_nil) pa_nil))))
  (pss_cons (ps_for PassesOwn.never rfl (pi_range1 (by rfl) T.b_range (pa_cons (pe_callB call_lenK (by rfl) T.b_len (by decide +kernel) (pa_cons (pv 0) pa_nil)) pa_nil)) (pg_name (i := 3) sc_law_walked.nd rfl (.inl rfl))
  (pss_cons (ps_expr (pe_bm PySem.F.plainAttrs_list PySem.F.slot_list_append PySem.F.type_list_append mt_append (pv 1) (pa_cons (pe_op op_add (pe_ix ix_list (pv 1) (pe_un un_neg pe_int) (fun _ _ => rfl)) (pe_ix ix_list (pv 0) (pv 3) (fun _ _ => rfl))) pa_nil)))
  (pss_one (ps_expr (pe_bm PySem.F.plainAttrs_list PySem.F.slot_list_append PySem.F.type_list_append mt_append (pe_ix ix_list (pv 2) (pe_ix ix_list (pv 0) (pv 3) (fun _ _ => rfl)) (fun _ _ => rfl)) (pa_cons (pv 3) pa_nil))))))
  (pss_one (ps_ret (pe_tup (pa_cons (pv 1) (pa_cons (pe_ix ix_list (pv 2) pe_int (fun _ _ => rfl)) (pa_cons (pe_ix ix_list (pv 2) pe_int (fun _ _ => rfl)) pa_nil)))))))))

theorem ok_law_look_law_told (T : Tx P w K mg base) : ∀ (j : Nat) (f : Addr) (cl : List (Str × Addr)) (c' : Addr), COk NdefX.FnO P w K mg base (max j 0 + 1) f (NdefX.NF.of st_law_look_law_told "_law_told" (("_law_look" ++ ".<locals>.") ++ "_law_told") cl c') ["_law_number"] ["_law_seen", "_law_blocks"] (sp_law_look_law_told K (Cal P w K mg base) j) := by
  intro j f cl c'
  refine cok_def (N := n_law_look_law_told) sc_law_look_law_told (fun _ _ _ us hl => match us, hl with | [_], _ => rfl) (len_law_look_law_told K (Cal P w K mg base) j) (fun A outer s H vs ws Q hr hl h => ⟨t_law_look_law_told K (Cal P w K mg base) j, PSs.nox ?_, rd_law_look_law_told K (Cal P w K mg base) j vs ws H Q h⟩)
  exact (pss_cons (ps_expr (pe_bm PySem.F.plainAttrs_list PySem.F.slot_list_append PySem.F.type_list_append mt_append (pv 1) (pa_cons (pv 0) pa_nil)))
  (pss_cons (ps_if (pt_chain op_le op_lt pe_int (pv 0) (pe_callB call_lenK (by rfl) T.b_len (by decide +kernel) (pa_cons (pv 2) pa_nil)))
  (pss_one (ps_ret (pe_ix ix_list (pv 2) (pv 0) (fun _ _ => rfl))))
  pss_nil)
  (pss_one (ps_ret pe_int))))
theorem ok_law_look (T : Tx P w K mg base) : Okf P w K mg base CX0 1 "_law_look" ["_law_blocks", "_law_seen"] (sp_law_look K (Cal P w K mg base)) := by
  obtain ⟨fd, FD⟩ := T.d_law_look
  refine ⟨⟨fd, FunD.look FD, FD.bindsN fun _ _ _ _ _ _ us hl => match us, hl with | [_, _], _ => rfl, ?_⟩, FD.kp, T.g_law_look⟩
  refine FunD.okC (pre := (defBody s_law_look).dropLast) (O := NdefX.FnO) (mkF := NdefX.NF.of st_law_look_law_told "_law_told" (("_law_look" ++ ".<locals>.") ++ "_law_told")) (nsc := C8.fnScope st_law_look_law_told) (js := [1, 0]) (fr := ["_law_seen", "_law_blocks"]) (psn := ["_law_number"]) (lv := 0) (N := n_law_look) FD rfl sc_law_look (len_law_look K (Cal P w K mg base)) (fun {f F} => ⟨_, rfl, fun h ⟨od, sl, doc, pm, ctv, q⟩ => ⟨_, _, _, _, q⟩⟩) (fun _ _ => rfl) sc_law_look_law_told.free (by decide +kernel) (by decide +kernel) (ok_law_look_law_told T)
    (fun c A outer s H vs Q E ec hr h => ?_) rfl
  subst ec
  refine ⟨tp_law_look K (tabP K "_law_look") _, te_law_look K (tabP K "_law_look") _, PSs.nox ?_, PE.nox ?_, fun G hG => rd_law_look K (Cal P w K mg base) (tabP K "_law_look") rfl _ vs H Q E h G hG⟩
  · exact (pss_one (ps_ndefC (st := st_law_look_law_told) (name := "_law_told") (i := 2) rfl T.tb_law_look rfl (by rfl) (NdefX.ndef_free (sc := defScope s_law_look) (nsc := C8.fnScope st_law_look_law_told) (fr := ["_law_seen", "_law_blocks"]) (by decide +kernel)) rfl rfl rfl sc_law_look.nd rfl (.inl rfl) (.inl rfl)))
  · exact (pv 2)

theorem ok_law_few (T : Tx P w K mg base) (o_law_whole : Okf P w K mg base CX0 1 "_law_whole" ["_law_found"] (sp_law_whole K)) : Okf P w K mg base CX0 2 "_law_few" ["_law_seen", "_law_size", "_law_most"] (sp_law_few K) := by
  obtain ⟨fd, FD⟩ := T.d_law_few
  refine ⟨⟨fd, FunD.look FD, FD.bindsN fun _ _ _ _ _ _ us hl => match us, hl with | [_, _, _], _ => rfl, ?_⟩, FD.kp, T.g_law_few⟩
  refine FunD.ok (CX := CX0) FD sc_law_few (len_law_few K) (fun cdv A outer s H vs Q E hr h => ⟨t_law_few K, PSs.nox ?_, rd_law_few K vs H Q E h⟩)
  exact (pss_cons (ps_for PassesOwn.never rfl (pi_list (pv 0)) (pg_name (i := 3) sc_law_few.nd rfl (.inl rfl))
  (pss_one (ps_if (PW.pt (pw_or (pt_not (pt_val (pe_callF o_law_whole hr (by decide) (by rfl) pass0 (pa_cons (pv 3) pa_nil)))) (pw_or (pt_cmpR op_lt (pv 3) pe_int (nomark _)) (pw_or1 (pt_cmpR op_ge (pv 3) (pv 1) (nomark _))))))
  (pss_one (ps_ret pe_bl))
  pss_nil)))
  (pss_one (ps_ret (pe_cmpR op_le (pe_lenSet (by rfl) T.b_len (by rfl) T.b_set (pv 0)) (pv 2) (nomark _)))))

theorem ok_law_due (T : Tx P w K mg base) : Okf P w K mg base CX0 1 "_law_due" ["_law_bits_here", "_law_walked_here", "_law_kind", "_law_at"] (sp_law_due K) := by
  obtain ⟨fd, FD⟩ := T.d_law_due
  refine ⟨⟨fd, FunD.look FD, FD.bindsN fun _ _ _ _ _ _ us hl => match us, hl with | [_, _, _, _], _ => rfl, ?_⟩, FD.kp, T.g_law_due⟩
  refine FunD.ok (CX := CX0) FD sc_law_due (len_law_due K) (fun cdv A outer s H vs Q E hr h => ⟨t_law_due K, PSs.nox ?_, rd_law_due K vs H Q E h⟩)
  exact (pss_cons (ps_if (PW.pt (pw_and (pt_cmpR op_eq (pv 2) pe_int (nomark _)) (pw_and1 (pt_chain op_le op_lt pe_int (pv 3) (pe_callB call_lenK (by rfl) T.b_len (by decide +kernel) (pa_cons (pv 0) pa_nil))))))
  (pss_one (ps_ret (pe_ix ix_list (pv 0) (pv 3) (fun _ _ => rfl))))
  pss_nil)
  (pss_cons (ps_if (PW.pt (pw_and (pt_cmpR op_eq (pv 2) pe_int (nomark _)) (pw_and1 (pt_chain op_le op_le pe_int (pv 3) (pe_callB call_lenK (by rfl) T.b_len (by decide +kernel) (pa_cons (pv 0) pa_nil))))))
  (pss_one (ps_ret (pe_ix ix_list (pe_ix ix_tup (pv 1) pe_int (fun _ _ => rfl)) (pv 3) (fun _ _ => rfl))))
  pss_nil)
  (pss_cons (ps_if (PW.pt (pw_and (pt_cmpR op_eq (pv 2) pe_int (nomark _)) (pw_and1 (pt_chain op_le op_le pe_int (pv 3) (pe_callB call_lenK (by rfl) T.b_len (by decide +kernel) (pa_cons (pv 0) pa_nil))))))
  (pss_one (ps_ret (pe_op op_sub (pv 3) (pe_ix ix_list (pe_ix ix_tup (pv 1) pe_int (fun _ _ => rfl)) (pv 3) (fun _ _ => rfl)))))
  pss_nil)
  (pss_cons (ps_if (PW.pt (pw_and (pt_cmpR op_eq (pv 2) pe_int (nomark _)) (pw_and1 (pt_chain op_le op_lt pe_int (pv 3) (pe_callB call_lenK (by rfl) T.b_len (by decide +kernel) (pa_cons (pe_ix ix_tup (pv 1) pe_int (fun _ _ => rfl)) pa_nil))))))
  (pss_one (ps_ret (pe_ix ix_list (pe_ix ix_tup (pv 1) pe_int (fun _ _ => rfl)) (pv 3) (fun _ _ => rfl))))
  pss_nil)
  (pss_cons (ps_if (PW.pt (pw_and (pt_cmpR op_eq (pv 2) pe_int (nomark _)) (pw_and1 (pt_chain op_le op_lt pe_int (pv 3) (pe_callB call_lenK (by rfl) T.b_len (by decide +kernel) (pa_cons (pe_ix ix_tup (pv 1) pe_int (fun _ _ => rfl)) pa_nil))))))
  (pss_one (ps_ret (pe_ix ix_list (pe_ix ix_tup (pv 1) pe_int (fun _ _ => rfl)) (pv 3) (fun _ _ => rfl))))
  pss_nil)
  (pss_one (ps_ret pe_non)))))))

theorem ok_law_told_by (T : Tx P w K mg base) (o_bit_at : Okf P w K mg base (L2.CX P w) 11 "bit_at" ["tables", "look", "at"] (sp_bit_at K (Cal P w K mg base))) (o_ones_at : Okf P w K mg base (L2.CX P w) 11 "ones_at" ["tables", "look", "at"] (sp_ones_at K (Cal P w K mg base))) (o_noughts_at : Okf P w K mg base (L2.CX P w) 13 "noughts_at" ["tables", "look", "at"] (sp_noughts_at K (Cal P w K mg base))) (o_one_place : Okf P w K mg base (L2.CX P w) 11 "one_place" ["tables", "look", "nth"] (sp_one_place K (Cal P w K mg base))) (o_nought_place : Okf P w K mg base (L2.CX P w) 11 "nought_place" ["tables", "look", "nth"] (sp_nought_place K (Cal P w K mg base))) : Okf P w K mg base CX0 14 "_law_told_by" ["_law_tables", "_law_look_here", "_law_kind", "_law_at"] (sp_law_told_by K (Cal P w K mg base)) := by
  obtain ⟨fd, FD⟩ := T.d_law_told_by
  refine ⟨⟨fd, FunD.look FD, FD.bindsN fun _ _ _ _ _ _ us hl => match us, hl with | [_, _, _, _], _ => rfl, ?_⟩, FD.kp, T.g_law_told_by⟩
  refine FunD.ok (CX := CX0) FD sc_law_told_by (len_law_told_by K (Cal P w K mg base)) (fun cdv A outer s H vs Q E hr h => ⟨t_law_told_by K (Cal P w K mg base), PSs.nox ?_, rd_law_told_by K (Cal P w K mg base) T.fx vs H Q E h⟩)
  exact (pss_cons (ps_set (i := 4) sc_law_told_by.nd rfl (.inl rfl) pe_non)
  (pss_cons (ps_try_only (tb := fun W => (tIfS (tTest (tOp rEq (tVar 2) (tC (.int 0))))
  (tAsg (tCallS (sp_bit_at K (Cal P w K mg base)) (WE W) (tCons (tVar 0) (tCons (tVar 1) (tCons (tVar 3) tNil)))) (gName 4))
  (tIfS (tTest (tOp rEq (tVar 2) (tC (.int 1))))
  (tAsg (tCallS (sp_ones_at K (Cal P w K mg base)) (WE W) (tCons (tVar 0) (tCons (tVar 1) (tCons (tVar 3) tNil)))) (gName 4))
  (tIfS (tTest (tOp rEq (tVar 2) (tC (.int 2))))
  (tAsg (tCallS (sp_noughts_at K (Cal P w K mg base)) (WE W) (tCons (tVar 0) (tCons (tVar 1) (tCons (tVar 3) tNil)))) (gName 4))
  (tIfS (tTest (tOp rEq (tVar 2) (tC (.int 3))))
  (tAsg (tCallS (sp_one_place K (Cal P w K mg base)) (WE W) (tCons (tVar 0) (tCons (tVar 1) (tCons (tVar 3) tNil)))) (gName 4))
  (tAsg (tCallS (sp_nought_place K (Cal P w K mg base)) (WE W) (tCons (tVar 0) (tCons (tVar 1) (tCons (tVar 3) tNil)))) (gName 4))))))) (ts := fun a cls d => (tAsg (tC .non) (gName 4))) (Wout := (fun _ _ _ _ => False)) rfl rfl ⟨rfl, by decide, .inl T.g_NoPlace⟩ takes0 (fun W pn xe tk po => (pss_one (ps_if (pt_cmpR op_eq (pv 2) pe_int (nomark _))
  (pss_one (ps_set (i := 4) sc_law_told_by.nd rfl (.inl rfl) (pe_callFS o_bit_at hr (by decide) (by rfl) tk (pa_cons (pv 0) (pa_cons (pv 1) (pa_cons (pv 3) pa_nil))))))
  (pss_one (ps_if (pt_cmpR op_eq (pv 2) pe_int (nomark _))
  (pss_one (ps_set (i := 4) sc_law_told_by.nd rfl (.inl rfl) (pe_callFS o_ones_at hr (by decide) (by rfl) tk (pa_cons (pv 0) (pa_cons (pv 1) (pa_cons (pv 3) pa_nil))))))
  (pss_one (ps_if (pt_cmpR op_eq (pv 2) pe_int (nomark _))
  (pss_one (ps_set (i := 4) sc_law_told_by.nd rfl (.inl rfl) (pe_callFS o_noughts_at hr (by decide) (by rfl) tk (pa_cons (pv 0) (pa_cons (pv 1) (pa_cons (pv 3) pa_nil))))))
  (pss_one (ps_if (pt_cmpR op_eq (pv 2) pe_int (nomark _))
  (pss_one (ps_set (i := 4) sc_law_told_by.nd rfl (.inl rfl) (pe_callFS o_one_place hr (by decide) (by rfl) tk (pa_cons (pv 0) (pa_cons (pv 1) (pa_cons (pv 3) pa_nil))))))
  (pss_one (ps_set (i := 4) sc_law_told_by.nd rfl (.inl rfl) (pe_callFS o_nought_place hr (by decide) (by rfl) tk (pa_cons (pv 0) (pa_cons (pv 1) (pa_cons (pv 3) pa_nil))))))))))))))) (fun a oe cls d pn hz hf => (pss_one (ps_set (i := 4) sc_law_told_by.nd rfl (.inl rfl) pe_non))))
  (pss_one (ps_ret (pv 4)))))

theorem ok_law_round (T : Tx P w K mg base) (o_law_look : Okf P w K mg base CX0 1 "_law_look" ["_law_blocks", "_law_seen"] (sp_law_look K (Cal P w K mg base))) (o_law_told_by : Okf P w K mg base CX0 14 "_law_told_by" ["_law_tables", "_law_look_here", "_law_kind", "_law_at"] (sp_law_told_by K (Cal P w K mg base))) (o_law_due : Okf P w K mg base CX0 1 "_law_due" ["_law_bits_here", "_law_walked_here", "_law_kind", "_law_at"] (sp_law_due K)) (o_law_whole : Okf P w K mg base CX0 1 "_law_whole" ["_law_found"] (sp_law_whole K)) (o_law_few : Okf P w K mg base CX0 2 "_law_few" ["_law_seen", "_law_size", "_law_most"] (sp_law_few K)) : Okf P w K mg base CX0 15 "_law_round" ["_law_rows", "_law_walks", "_law_kept", "_law_asks"] (sp_law_round K (Cal P w K mg base)) := by
  obtain ⟨fd, FD⟩ := T.d_law_round
  refine ⟨⟨fd, FunD.look FD, FD.bindsN fun _ _ _ _ _ _ us hl => match us, hl with | [_, _, _, _], _ => rfl, ?_⟩, FD.kp, T.g_law_round⟩
  refine FunD.ok (CX := CX0) FD sc_law_round (len_law_round K (Cal P w K mg base)) (fun cdv A outer s H vs Q E hr h => ⟨t_law_round K (Cal P w K mg base), PSs.nox ?_, rd_law_round K (Cal P w K mg base) vs H Q E h⟩)
  exact (pss_cons (ps_set (i := 4) sc_law_round.nd rfl (.inl rfl) (pe_lst pa_nil))
  (pss_cons (ps_for PassesOwn.never rfl (pi_list (pv 3)) (pg_tup rfl (pgs_cons (pg_name (i := 5) sc_law_round.nd rfl (.inl rfl)) (pgs_cons (pg_name (i := 6) sc_law_round.nd rfl (.inl rfl)) (pgs_cons (pg_name (i := 7) sc_law_round.nd rfl (.inl rfl)) pgs_nil))))
  (pss_cons (ps_set (i := 8) sc_law_round.nd rfl (.inl rfl) (pe_lst pa_nil))
  (pss_cons (ps_set (i := 9) sc_law_round.nd rfl (.inl rfl) (pe_callF o_law_look hr (by decide) (by rfl) pass0 (pa_cons (pe_ix ix_tup (pe_ix ix_list (pv 2) (pv 5) (fun _ _ => rfl)) pe_int (fun _ _ => rfl)) (pa_cons (pv 8) pa_nil))))
  (pss_cons (ps_set (i := 10) sc_law_round.nd rfl (.inl rfl) (pe_callF o_law_told_by hr (by decide) (by rfl) pass0 (pa_cons (pe_ix ix_tup (pe_ix ix_list (pv 2) (pv 5) (fun _ _ => rfl)) pe_int (fun _ _ => rfl)) (pa_cons (pv 9) (pa_cons (pv 6) (pa_cons (pv 7) pa_nil))))))
  (pss_cons (ps_set (i := 11) sc_law_round.nd rfl (.inl rfl) (pe_callF o_law_due hr (by decide) (by rfl) pass0 (pa_cons (pe_ix ix_list (pv 0) (pv 5) (fun _ _ => rfl)) (pa_cons (pe_ix ix_list (pv 1) (pv 5) (fun _ _ => rfl)) (pa_cons (pv 6) (pa_cons (pv 7) pa_nil))))))
  (Evl.pss_cut (ps_if (PW.pt (pw_or (pt_cmpR op_isN1 (pv 10) pe_non (nomark _)) (pw_or1 (pt_cmpR op_isN1 (pv 11) pe_non (nomark _)))))
  (pss_one (ps_if (PW.pt (pw_or (pt_cmpR op_notN1 (pv 10) pe_non (nomark _)) (pw_or1 (pt_cmpR op_notN1 (pv 11) pe_non (nomark _)))))
  (pss_one (ps_ret pe_non))
  pss_nil))
  (pss_one (ps_if (PW.pt (pw_or (pt_not (pt_val (pe_callF o_law_whole hr (by decide) (by rfl) pass0 (pa_cons (pv 10) pa_nil)))) (pw_or1 (pt_cmpR op_ne (pv 10) (pv 11) (nomark _)))))
  (pss_one (ps_ret pe_non))
  pss_nil)))
  (pss_cons (ps_if (pt_not (pt_val (pe_callF o_law_few hr (by decide) (by rfl) pass0 (pa_cons (pv 8) (pa_cons (pe_callB call_lenK (by rfl) T.b_len (by decide +kernel) (pa_cons (pe_ix ix_tup (pe_ix ix_list (pv 2) (pv 5) (fun _ _ => rfl)) pe_int (fun _ _ => rfl)) pa_nil)) (pa_cons pe_int pa_nil))))))
  (pss_one (ps_ret pe_non))
  pss_nil)
  (pss_one (ps_expr (pe_bm PySem.F.plainAttrs_list PySem.F.slot_list_append PySem.F.type_list_append mt_append (pv 4) (pa_cons (pv 10) pa_nil)))))))))))
  (pss_one (ps_ret (pv 4)))))

theorem ok_law (T : Tx P w K mg base) (o_law_bits : Okf P w K mg base CX0 1 "_law_bits" ["_law_script"] (sp_law_bits K)) (o_law_cell_at : Okf P w K mg base CX0 1 "_law_cell_at" ["_law_script", "_law_k"] (sp_law_cell_at K)) (o_law_great : Okf P w K mg base CX0 1 "_law_great" ["_law_bits_here", "_law_cell"] (sp_law_great K)) (o_law_walked : Okf P w K mg base CX0 1 "_law_walked" ["_law_bits_here"] (sp_law_walked K)) (o_kept_row : Okf P w K mg base (L2.CX P w) 4 "kept_row" ["bits"] (sp_kept_row K)) (o_law_round : Okf P w K mg base CX0 15 "_law_round" ["_law_rows", "_law_walks", "_law_kept", "_law_asks"] (sp_law_round K (Cal P w K mg base))) : Okf P w K mg base CX0 16 "law" ["_law_script"] (sp_law K) := by
  obtain ⟨fd, FD⟩ := T.d_law
  refine ⟨⟨fd, FunD.look FD, FD.bindsN fun _ _ _ _ _ _ us hl => match us, hl with | [_], _ => rfl, ?_⟩, FD.kp, T.g_law⟩
  refine FunD.ok (CX := CX0) FD sc_law (len_law K) (fun cdv A outer s H vs Q E hr h => ⟨t_law K (Cal P w K mg base), PSs.nox ?_, rd_law K (Cal P w K mg base) T.fx vs H Q E h⟩)
  exact (pss_cons (ps_set (i := 1) sc_law.nd rfl (.inr rfl) (pe_callF o_law_bits hr (by decide) (by rfl) pass0 (pa_cons (pv 0) pa_nil)))
  (Evl.pss_cut (ps_if (pt_cmpR op_eq (pe_op op_mod (pe_callF o_law_cell_at hr (by decide) (by rfl) pass0 (pa_cons (pv 0) (pa_cons pe_int pa_nil))) pe_int) pe_int (nomark _))
  (pss_one (ps_set (i := 1) sc_law.nd rfl (.inr rfl) (pe_callF o_law_great hr (by decide) (by rfl) pass0 (pa_cons (pv 1) (pa_cons (pe_callF o_law_cell_at hr (by decide) (by rfl) pass0 (pa_cons (pv 0) (pa_cons pe_int pa_nil))) pa_nil)))))
  pss_nil)
  (pss_cons (ps_set (i := 2) sc_law.nd rfl (.inl rfl) (pe_lst (pa_cons (pv 1) (pa_cons (pe_lc (own := [("_law_bit", 3)]) (g := (gName 3)) (tt := tYes) rfl sc_law.nd (pi_list (pv 1)) (blkOk_by (N := ["_law_script", "_law_bits_here", "_law_rows", "_law_bit", "_law_walks", "_law_kept", "_law_size", "_law_side", "_law_ahead", "_law_j", "_law_blocks", "_law_asks", "_law_cell", "_law_number", "_law_first", "_law_again"]) (sc := defScope s_law) (own := [("_law_bit", 3)]) (by decide +kernel)) (fun _ _ _ _ _ => (pg_name (i := 3) sc_law.nd rfl (.inl rfl))) (fun _ _ _ _ _ => pts_nil) (fun _ _ _ _ _ => (pe_op op_sub pe_int (pv 3)))) pa_nil))))
  (pss_cons (ps_set (i := 4) sc_law.nd rfl (.inr rfl) (pe_lst (pa_cons (pe_callF o_law_walked hr (by decide) (by rfl) pass0 (pa_cons (pe_ix ix_list (pv 2) pe_int (fun _ _ => rfl)) pa_nil)) (pa_cons (pe_callF o_law_walked hr (by decide) (by rfl) pass0 (pa_cons (pe_ix ix_list (pv 2) pe_int (fun _ _ => rfl)) pa_nil)) pa_nil))))
  (pss_cons (ps_set (i := 5) sc_law.nd rfl (.inl rfl) (pe_lst (pa_cons (pe_callF o_kept_row hr (by decide) (by rfl) passL (pa_cons (pe_callTy call_listK (by rfl) T.b_list (by decide +kernel) (pa_cons (pe_ix ix_list (pv 2) pe_int (fun _ _ => rfl)) pa_nil)) pa_nil)) (pa_cons (pe_callF o_kept_row hr (by decide) (by rfl) passL (pa_cons (pe_callTy call_listK (by rfl) T.b_list (by decide +kernel) (pa_cons (pe_ix ix_list (pv 2) pe_int (fun _ _ => rfl)) pa_nil)) pa_nil)) pa_nil))))
  (pss_cons (ps_set (i := 6) sc_law.nd rfl (.inl rfl) (pe_op op_fdiv (pe_op op_add (pe_callB call_lenK (by rfl) T.b_len (by decide +kernel) (pa_cons (pv 1) pa_nil)) pe_int) pe_int))
  (pss_cons (ps_for PassesOwn.never rfl (pi_range1 (by rfl) T.b_range (pa_cons pe_int pa_nil)) (pg_name (i := 7) sc_law.nd rfl (.inr rfl))
  (pss_cons (ps_setLc (i := 8) (own := [("_law_j", 9)]) (g := (gName 9)) (tt := tYes) rfl sc_law.nd rfl rfl (sw_true rfl rfl rfl (by decide +kernel)) (pi_range1 (by rfl) T.b_range (pa_cons (pe_op op_add (pv 6) pe_int) pa_nil)) (blkOk_by (N := ["_law_script", "_law_bits_here", "_law_rows", "_law_bit", "_law_walks", "_law_kept", "_law_size", "_law_side", "_law_ahead", "_law_j", "_law_blocks", "_law_asks", "_law_cell", "_law_number", "_law_first", "_law_again"]) (sc := defScope s_law) (own := [("_law_j", 9)]) (by decide +kernel)) (fun _ _ _ _ _ => (pg_name (i := 9) sc_law.nd rfl (.inl rfl))) (fun _ _ _ _ _ => pts_nil) (fun _ _ _ _ _ => (pe_ix ix_list (pe_ix ix_tup (pe_ix ix_list (pv 4) (pv 7) (fun _ _ => rfl)) pe_int (fun _ _ => rfl)) (pe_callB (call_min2K rfl) (by rfl) T.b_min (by decide +kernel) (pa_cons (pe_op op_mul pe_int (pv 9)) (pa_cons (pe_callB call_lenK (by rfl) T.b_len (by decide +kernel) (pa_cons (pv 1) pa_nil)) pa_nil))) (fun _ _ => rfl))))
  (pss_one (ps_if (PW.pt (pw_or (pt_cmpR (op_neD hr.units) (pe_ix ix_tup (pe_ix ix_list (pv 5) (pv 7) (fun _ _ => rfl)) pe_int (fun _ _ => rfl)) (pe_tup (pa_cons (pe_callB call_lenK (by rfl) T.b_len (by decide +kernel) (pa_cons (pv 1) pa_nil)) (pa_cons (pe_callTy call_tupK (by rfl) T.b_tuple (by decide +kernel) (pa_cons (pv 8) pa_nil)) pa_nil))) (nomark _)) (pw_or1 (pt_cmpR op_ne (pe_callB call_lenK (by rfl) T.b_len (by decide +kernel) (pa_cons (pe_ix ix_tup (pe_ix ix_list (pv 5) (pv 7) (fun _ _ => rfl)) pe_int (fun _ _ => rfl)) pa_nil)) (pv 6) (nomark _)))))
  (pss_one (ps_ret pe_bl))
  pss_nil))))
  (pss_cons (ps_set (i := 10) sc_law.nd rfl (.inl rfl) (pe_lst (pa_cons (pe_callTy call_listK (by rfl) T.b_list (by decide +kernel) (pa_cons (pe_ix ix_tup (pe_ix ix_list (pv 5) pe_int (fun _ _ => rfl)) pe_int (fun _ _ => rfl)) pa_nil)) (pa_cons (pe_callTy call_listK (by rfl) T.b_list (by decide +kernel) (pa_cons (pe_ix ix_tup (pe_ix ix_list (pv 5) pe_int (fun _ _ => rfl)) pe_int (fun _ _ => rfl)) pa_nil)) pa_nil))))
  (pss_cons (ps_set (i := 11) sc_law.nd rfl (.inl rfl) (pe_lst pa_nil))
  (pss_cons (ps_for PassesOwn.never rfl (pi_list (pe_slice sl_list (pv 0) po_none (po_some pe_int))) (pg_name (i := 12) sc_law.nd rfl (.inl rfl))
  (pss_cons (ps_set (i := 13) sc_law.nd rfl (.inl rfl) (pe_op op_mod (pe_op op_mul (pv 12) pe_int) pe_int))
  (pss_one (ps_expr (pe_bm PySem.F.plainAttrs_list PySem.F.slot_list_append PySem.F.type_list_append mt_append (pv 11) (pa_cons (pe_tup (pa_cons (pe_op op_mod (pv 13) pe_int) (pa_cons (pe_op op_mod (pe_op op_fdiv (pv 13) pe_int) pe_int) (pa_cons (pe_op op_sub (pe_op op_mod (pe_op op_fdiv (pv 13) pe_int) (pe_op op_add (pe_callB call_lenK (by rfl) T.b_len (by decide +kernel) (pa_cons (pv 1) pa_nil)) pe_int)) pe_int) pa_nil)))) pa_nil))))))
  (pss_cons (ps_set (i := 14) sc_law.nd rfl (.inl rfl) (pe_callF o_law_round hr (by decide) (by rfl) pass0 (pa_cons (pv 2) (pa_cons (pv 4) (pa_cons (pv 5) (pa_cons (pv 11) pa_nil))))))
  (pss_cons (ps_set (i := 15) sc_law.nd rfl (.inl rfl) (pe_callF o_law_round hr (by decide) (by rfl) pass0 (pa_cons (pv 2) (pa_cons (pv 4) (pa_cons (pv 5) (pa_cons (pe_revL (pv 11)) pa_nil))))))
  (pss_cons (ps_if (PW.pt (pw_or (pt_cmpR op_isN1 (pv 14) pe_non (nomark _)) (pw_or (pt_cmpR op_isN1 (pv 15) pe_non (nomark _)) (pw_or1 (pt_cmpR (op_neD hr.units) (pv 14) (pe_revL (pv 15)) (nomark _))))))
  (pss_one (ps_ret pe_bl))
  pss_nil)
  (pss_one (ps_ret (pe_cmpR (op_eqD hr.units) (pe_lst (pa_cons (pe_ix ix_tup (pe_ix ix_list (pv 5) pe_int (fun _ _ => rfl)) pe_int (fun _ _ => rfl)) (pa_cons (pe_ix ix_tup (pe_ix ix_list (pv 5) pe_int (fun _ _ => rfl)) pe_int (fun _ _ => rfl)) pa_nil))) (pv 10) (nomark _)))))))))))))))))
end
def dd_packed : He.DefD := ⟨("packed", none), "packed", "packed", defArgs s_packed, defBody s_packed, defScope s_packed, [], []⟩
def dd_ones_in : He.DefD := ⟨("ones_in", none), "ones_in", "ones_in", defArgs s_ones_in, defBody s_ones_in, defScope s_ones_in, [], []⟩
def dd_one_in : He.DefD := ⟨("one_in", none), "one_in", "one_in", defArgs s_one_in, defBody s_one_in, defScope s_one_in, [], []⟩
def dd_ones_table : He.DefD := ⟨("ones_table", none), "ones_table", "ones_table", defArgs s_ones_table, defBody s_ones_table, defScope s_ones_table, [], []⟩
def dd_kept_row : He.DefD := ⟨("kept_row", none), "kept_row", "kept_row", defArgs s_kept_row, defBody s_kept_row, defScope s_kept_row, [], []⟩
def dd_bit_at : He.DefD := ⟨("bit_at", none), "bit_at", "bit_at", defArgs s_bit_at, defBody s_bit_at, defScope s_bit_at, [], []⟩
def dd_ones_at : He.DefD := ⟨("ones_at", none), "ones_at", "ones_at", defArgs s_ones_at, defBody s_ones_at, defScope s_ones_at, [], []⟩
def dd_noughts_at : He.DefD := ⟨("noughts_at", none), "noughts_at", "noughts_at", defArgs s_noughts_at, defBody s_noughts_at, defScope s_noughts_at, [], []⟩
def dd_bits_ahead : He.DefD := ⟨("bits_ahead", none), "bits_ahead", "bits_ahead", defArgs s_bits_ahead, defBody s_bits_ahead, defScope s_bits_ahead, [], []⟩
def dd_block_by : He.DefD := ⟨("block_by", none), "block_by", "block_by", defArgs s_block_by, defBody s_block_by, defScope s_block_by, [], []⟩
def dd_one_place : He.DefD := ⟨("one_place", none), "one_place", "one_place", defArgs s_one_place, defBody s_one_place, defScope s_one_place, [], []⟩
def dd_nought_place : He.DefD := ⟨("nought_place", none), "nought_place", "nought_place", defArgs s_nought_place, defBody s_nought_place, defScope s_nought_place, [], []⟩
def dd_law_cell_at : He.DefD := ⟨("_law_cell_at", none), "_law_cell_at", "_law_cell_at", defArgs s_law_cell_at, defBody s_law_cell_at, defScope s_law_cell_at, [], []⟩
def dd_law_great : He.DefD := ⟨("_law_great", none), "_law_great", "_law_great", defArgs s_law_great, defBody s_law_great, defScope s_law_great, [], []⟩
def dd_law_whole : He.DefD := ⟨("_law_whole", none), "_law_whole", "_law_whole", defArgs s_law_whole, defBody s_law_whole, defScope s_law_whole, [], []⟩
def dd_law_bits : He.DefD := ⟨("_law_bits", none), "_law_bits", "_law_bits", defArgs s_law_bits, defBody s_law_bits, defScope s_law_bits, [], []⟩
def dd_law_walked : He.DefD := ⟨("_law_walked", none), "_law_walked", "_law_walked", defArgs s_law_walked, defBody s_law_walked, defScope s_law_walked, [], []⟩
def dd_law_look : He.DefD := ⟨("_law_look", none), "_law_look", "_law_look", defArgs s_law_look, defBody s_law_look, defScope s_law_look, [], []⟩
def dd_law_few : He.DefD := ⟨("_law_few", none), "_law_few", "_law_few", defArgs s_law_few, defBody s_law_few, defScope s_law_few, [], []⟩
def dd_law_due : He.DefD := ⟨("_law_due", none), "_law_due", "_law_due", defArgs s_law_due, defBody s_law_due, defScope s_law_due, [], []⟩
def dd_law_told_by : He.DefD := ⟨("_law_told_by", none), "_law_told_by", "_law_told_by", defArgs s_law_told_by, defBody s_law_told_by, defScope s_law_told_by, [], []⟩
def dd_law_round : He.DefD := ⟨("_law_round", none), "_law_round", "_law_round", defArgs s_law_round, defBody s_law_round, defScope s_law_round, [], []⟩
def dd_law : He.DefD := ⟨("law", none), "law", "law", defArgs s_law, defBody s_law, defScope s_law, [], []⟩
def fnL : List He.DefD := [dd_packed, dd_ones_in, dd_one_in, dd_ones_table, dd_kept_row, dd_bit_at, dd_ones_at, dd_noughts_at, dd_bits_ahead, dd_block_by, dd_one_place, dd_nought_place, dd_law_cell_at, dd_law_great, dd_law_whole, dd_law_bits, dd_law_walked, dd_law_look, dd_law_few, dd_law_due, dd_law_told_by, dd_law_round, dd_law]
def fxL : List Fx := [.excC "NoBit", .kitT "NoBit" "ValueError" true, .kit "NoBit" "NoBit" true, .exm "NoBit" "NoBit" true, .kit "NoBit" "NoPlace" false, .exm "NoBit" "NoPlace" false, .kit "NoBit" "TooMany" false, .exm "NoBit" "TooMany" false, .excC "NoPlace", .kitT "NoPlace" "ValueError" true, .kit "NoPlace" "NoBit" false, .exm "NoPlace" "NoBit" false, .kit "NoPlace" "NoPlace" true, .exm "NoPlace" "NoPlace" true, .kit "NoPlace" "TooMany" false, .exm "NoPlace" "TooMany" false, .excC "TooMany", .kitT "TooMany" "ValueError" true, .kit "TooMany" "NoBit" false, .exm "TooMany" "NoBit" false, .kit "TooMany" "NoPlace" false, .exm "TooMany" "NoPlace" false, .kit "TooMany" "TooMany" true, .exm "TooMany" "TooMany" true]
def faL : List He.Fa := [.glo "packed", .glo "ones_in", .glo "one_in", .glo "ones_table", .glo "kept_row", .glo "bit_at", .glo "ones_at", .glo "noughts_at", .glo "bits_ahead", .glo "block_by", .glo "one_place", .glo "nought_place", .glo "_law_cell_at", .glo "_law_great", .glo "_law_whole", .glo "_law_bits", .glo "_law_walked", .glo "_law_look", .glo "_law_few", .glo "_law_due", .glo "_law_told_by", .glo "_law_round", .glo "law", .free "bool", .free "enumerate", .free "int", .free "isinstance", .free "len", .free "list", .free "min", .free "range", .free "set", .free "sum", .free "tuple", .int "ALL" 4294967295, .int "MOST" 4096, .int "WIDE" 32, .exc "NoBit", .exc "NoPlace", .exc "TooMany", .glo "NoBit", .glo "NoPlace", .glo "TooMany"]
abbrev R : PySem.W.OpenRow := PySem.W.OpenLaw.row PySem.Challenge.rw_thinwood_k16_whole_row
def tfL : List He.Defn := [("_law_look", none)]
def exB (K : PySem.W.Frag) : Bool := fxL.all fun f => f.ok K
abbrev hk : PySem.W.Hook := He.hookX 4 faL fnL [] tfL exB
def ob (s : PySem.W.SharedT) : He.AlX := He.obsX 4 faL fnL [] tfL exB (HandSHeadRun.getT s)
theorem ob_eq (s : PySem.W.SharedT) : ob s = hk.obs s.abs := He.obsX_eq (HandSHeadRun.getT_eq s)
def looseL : List PySem.Str := (["WoodError", "TooMany", "NoBit", "NoPlace", "WIDE", "MOST", "packed", "ones_in", "one_in", "ALL", "ones_table", "kept_row", "bit_at", "ones_at", "noughts_at", "bits_ahead", "block_by", "one_place", "nought_place", "_law_cell_at", "_law_great", "_law_whole", "_law_bits", "_law_walked", "_law_look", "_law_few", "_law_due", "_law_told_by", "_law_round"] : List PySem.Str)
theorem run (w : World) : HandSHeadRun.RunEq R (PySem.W.view R.prog [33]) hk ob 20000 looseL w := by
  intro os
  kernel_rfl
theorem tx_of {P : Program} {w : World} {K : PySem.W.Frag} {h : Heap} {mg : Str → Option Value} (X : K.In h) (G : h.Ns mainGlobals mg) (c : He.SaysD faL fnL K) (cx : exB K = true) (base : Heap) (TB : ∀ p ∈ tfL.map (He.cT K), LamX.TabB base mg p.1 p.2) : Tx P w K mg base :=
  {
  d_packed := c.def_ 0 (d := dd_packed) rfl
  g_packed := He.glo_ok X G (c.fact 0 (f := .glo "packed") rfl)
  d_ones_in := c.def_ 1 (d := dd_ones_in) rfl
  g_ones_in := He.glo_ok X G (c.fact 1 (f := .glo "ones_in") rfl)
  d_one_in := c.def_ 2 (d := dd_one_in) rfl
  g_one_in := He.glo_ok X G (c.fact 2 (f := .glo "one_in") rfl)
  d_ones_table := c.def_ 3 (d := dd_ones_table) rfl
  g_ones_table := He.glo_ok X G (c.fact 3 (f := .glo "ones_table") rfl)
  d_kept_row := c.def_ 4 (d := dd_kept_row) rfl
  g_kept_row := He.glo_ok X G (c.fact 4 (f := .glo "kept_row") rfl)
  d_bit_at := c.def_ 5 (d := dd_bit_at) rfl
  g_bit_at := He.glo_ok X G (c.fact 5 (f := .glo "bit_at") rfl)
  d_ones_at := c.def_ 6 (d := dd_ones_at) rfl
  g_ones_at := He.glo_ok X G (c.fact 6 (f := .glo "ones_at") rfl)
  d_noughts_at := c.def_ 7 (d := dd_noughts_at) rfl
  g_noughts_at := He.glo_ok X G (c.fact 7 (f := .glo "noughts_at") rfl)
  d_bits_ahead := c.def_ 8 (d := dd_bits_ahead) rfl
  g_bits_ahead := He.glo_ok X G (c.fact 8 (f := .glo "bits_ahead") rfl)
  d_block_by := c.def_ 9 (d := dd_block_by) rfl
  g_block_by := He.glo_ok X G (c.fact 9 (f := .glo "block_by") rfl)
  d_one_place := c.def_ 10 (d := dd_one_place) rfl
  g_one_place := He.glo_ok X G (c.fact 10 (f := .glo "one_place") rfl)
  d_nought_place := c.def_ 11 (d := dd_nought_place) rfl
  g_nought_place := He.glo_ok X G (c.fact 11 (f := .glo "nought_place") rfl)
  d_law_cell_at := c.def_ 12 (d := dd_law_cell_at) rfl
  g_law_cell_at := He.glo_ok X G (c.fact 12 (f := .glo "_law_cell_at") rfl)
  d_law_great := c.def_ 13 (d := dd_law_great) rfl
  g_law_great := He.glo_ok X G (c.fact 13 (f := .glo "_law_great") rfl)
  d_law_whole := c.def_ 14 (d := dd_law_whole) rfl
  g_law_whole := He.glo_ok X G (c.fact 14 (f := .glo "_law_whole") rfl)
  d_law_bits := c.def_ 15 (d := dd_law_bits) rfl
  g_law_bits := He.glo_ok X G (c.fact 15 (f := .glo "_law_bits") rfl)
  d_law_walked := c.def_ 16 (d := dd_law_walked) rfl
  g_law_walked := He.glo_ok X G (c.fact 16 (f := .glo "_law_walked") rfl)
  d_law_look := c.def_ 17 (d := dd_law_look) rfl
  g_law_look := He.glo_ok X G (c.fact 17 (f := .glo "_law_look") rfl)
  d_law_few := c.def_ 18 (d := dd_law_few) rfl
  g_law_few := He.glo_ok X G (c.fact 18 (f := .glo "_law_few") rfl)
  d_law_due := c.def_ 19 (d := dd_law_due) rfl
  g_law_due := He.glo_ok X G (c.fact 19 (f := .glo "_law_due") rfl)
  d_law_told_by := c.def_ 20 (d := dd_law_told_by) rfl
  g_law_told_by := He.glo_ok X G (c.fact 20 (f := .glo "_law_told_by") rfl)
  d_law_round := c.def_ 21 (d := dd_law_round) rfl
  g_law_round := He.glo_ok X G (c.fact 21 (f := .glo "_law_round") rfl)
  d_law := c.def_ 22 (d := dd_law) rfl
  g_law := He.glo_ok X G (c.fact 22 (f := .glo "law") rfl)
  b_bool := He.free_ok X G (c.fact 23 (f := .free "bool") rfl)
  b_enumerate := He.free_ok X G (c.fact 24 (f := .free "enumerate") rfl)
  b_int := He.free_ok X G (c.fact 25 (f := .free "int") rfl)
  b_isinstance := He.free_ok X G (c.fact 26 (f := .free "isinstance") rfl)
  b_len := He.free_ok X G (c.fact 27 (f := .free "len") rfl)
  b_list := He.free_ok X G (c.fact 28 (f := .free "list") rfl)
  b_min := He.free_ok X G (c.fact 29 (f := .free "min") rfl)
  b_range := He.free_ok X G (c.fact 30 (f := .free "range") rfl)
  b_set := He.free_ok X G (c.fact 31 (f := .free "set") rfl)
  b_sum := He.free_ok X G (c.fact 32 (f := .free "sum") rfl)
  b_tuple := He.free_ok X G (c.fact 33 (f := .free "tuple") rfl)
  i_ALL := He.int_ok X G (c.fact 34 (f := .int "ALL" 4294967295) rfl)
  i_MOST := He.int_ok X G (c.fact 35 (f := .int "MOST" 4096) rfl)
  i_WIDE := He.int_ok X G (c.fact 36 (f := .int "WIDE" 32) rfl)
  x_NoBit := (fun q => ⟨He.glo_ok X G (c.fact 40 (f := .glo "NoBit") rfl), q.1, q.2.1, q.2.2.1, q.2.2.2⟩) (He.exc_ok (c.fact 37 (f := .exc "NoBit") rfl))
  g_NoBit := He.glo_ok X G (c.fact 40 (f := .glo "NoBit") rfl)
  x_NoPlace := (fun q => ⟨He.glo_ok X G (c.fact 41 (f := .glo "NoPlace") rfl), q.1, q.2.1, q.2.2.1, q.2.2.2⟩) (He.exc_ok (c.fact 38 (f := .exc "NoPlace") rfl))
  g_NoPlace := He.glo_ok X G (c.fact 41 (f := .glo "NoPlace") rfl)
  x_TooMany := (fun q => ⟨He.glo_ok X G (c.fact 42 (f := .glo "TooMany") rfl), q.1, q.2.1, q.2.2.1, q.2.2.2⟩) (He.exc_ok (c.fact 39 (f := .exc "TooMany") rfl))
  g_TooMany := He.glo_ok X G (c.fact 42 (f := .glo "TooMany") rfl)
  fx := {
    ec_NoBit := Fx.excC_ok (List.all_eq_true.mp cx (.excC "NoBit") (List.mem_of_getElem? (i := 0) rfl))
    kt_NoBit := Fx.kitT_ok (List.all_eq_true.mp cx (.kitT "NoBit" "ValueError" true) (List.mem_of_getElem? (i := 1) rfl))
    k_NoBit_NoBit := Fx.kit_ok (List.all_eq_true.mp cx (.kit "NoBit" "NoBit" true) (List.mem_of_getElem? (i := 2) rfl))
    e_NoBit_NoBit := Fx.exm_ok (List.all_eq_true.mp cx (.exm "NoBit" "NoBit" true) (List.mem_of_getElem? (i := 3) rfl))
    k_NoBit_NoPlace := Fx.kit_ok (List.all_eq_true.mp cx (.kit "NoBit" "NoPlace" false) (List.mem_of_getElem? (i := 4) rfl))
    e_NoBit_NoPlace := Fx.exm_ok (List.all_eq_true.mp cx (.exm "NoBit" "NoPlace" false) (List.mem_of_getElem? (i := 5) rfl))
    k_NoBit_TooMany := Fx.kit_ok (List.all_eq_true.mp cx (.kit "NoBit" "TooMany" false) (List.mem_of_getElem? (i := 6) rfl))
    e_NoBit_TooMany := Fx.exm_ok (List.all_eq_true.mp cx (.exm "NoBit" "TooMany" false) (List.mem_of_getElem? (i := 7) rfl))
    ec_NoPlace := Fx.excC_ok (List.all_eq_true.mp cx (.excC "NoPlace") (List.mem_of_getElem? (i := 8) rfl))
    kt_NoPlace := Fx.kitT_ok (List.all_eq_true.mp cx (.kitT "NoPlace" "ValueError" true) (List.mem_of_getElem? (i := 9) rfl))
    k_NoPlace_NoBit := Fx.kit_ok (List.all_eq_true.mp cx (.kit "NoPlace" "NoBit" false) (List.mem_of_getElem? (i := 10) rfl))
    e_NoPlace_NoBit := Fx.exm_ok (List.all_eq_true.mp cx (.exm "NoPlace" "NoBit" false) (List.mem_of_getElem? (i := 11) rfl))
    k_NoPlace_NoPlace := Fx.kit_ok (List.all_eq_true.mp cx (.kit "NoPlace" "NoPlace" true) (List.mem_of_getElem? (i := 12) rfl))
    e_NoPlace_NoPlace := Fx.exm_ok (List.all_eq_true.mp cx (.exm "NoPlace" "NoPlace" true) (List.mem_of_getElem? (i := 13) rfl))
    k_NoPlace_TooMany := Fx.kit_ok (List.all_eq_true.mp cx (.kit "NoPlace" "TooMany" false) (List.mem_of_getElem? (i := 14) rfl))
    e_NoPlace_TooMany := Fx.exm_ok (List.all_eq_true.mp cx (.exm "NoPlace" "TooMany" false) (List.mem_of_getElem? (i := 15) rfl))
    ec_TooMany := Fx.excC_ok (List.all_eq_true.mp cx (.excC "TooMany") (List.mem_of_getElem? (i := 16) rfl))
    kt_TooMany := Fx.kitT_ok (List.all_eq_true.mp cx (.kitT "TooMany" "ValueError" true) (List.mem_of_getElem? (i := 17) rfl))
    k_TooMany_NoBit := Fx.kit_ok (List.all_eq_true.mp cx (.kit "TooMany" "NoBit" false) (List.mem_of_getElem? (i := 18) rfl))
    e_TooMany_NoBit := Fx.exm_ok (List.all_eq_true.mp cx (.exm "TooMany" "NoBit" false) (List.mem_of_getElem? (i := 19) rfl))
    k_TooMany_NoPlace := Fx.kit_ok (List.all_eq_true.mp cx (.kit "TooMany" "NoPlace" false) (List.mem_of_getElem? (i := 20) rfl))
    e_TooMany_NoPlace := Fx.exm_ok (List.all_eq_true.mp cx (.exm "TooMany" "NoPlace" false) (List.mem_of_getElem? (i := 21) rfl))
    k_TooMany_TooMany := Fx.kit_ok (List.all_eq_true.mp cx (.kit "TooMany" "TooMany" true) (List.mem_of_getElem? (i := 22) rfl))
    e_TooMany_TooMany := Fx.exm_ok (List.all_eq_true.mp cx (.exm "TooMany" "TooMany" true) (List.mem_of_getElem? (i := 23) rfl))
  }
  tb_law_look := TB _ (List.mem_map_of_mem (f := He.cT K) (by decide : ((("_law_look", none) : He.Defn) ∈ tfL)))
  }
theorem facts {P : Program} {w : World} {K : PySem.W.Frag} {h : Heap} {mg : Str → Option Value} (X : K.In h) (G : h.Ns mainGlobals mg) (c : He.SaysD faL fnL K) (cx : exB K = true) (base : Heap) (TB : ∀ p ∈ tfL.map (He.cT K), LamX.TabB base mg p.1 p.2) :
    Okf P w K mg base CX0 16 "law" ["_law_script"] (sp_law K) := by
  have T : Tx P w K mg base := tx_of X G c cx base TB
  have o_packed := ok_packed (P := P) (w := w) T 
  have o_ones_in := ok_ones_in (P := P) (w := w) T 
  have o_one_in := ok_one_in (P := P) (w := w) T 
  have o_ones_table := ok_ones_table (P := P) (w := w) T o_ones_in
  have o_kept_row := ok_kept_row (P := P) (w := w) T o_packed o_ones_table
  have o_bit_at := ok_bit_at (P := P) (w := w) T 
  have o_ones_at := ok_ones_at (P := P) (w := w) T o_ones_in
  have o_noughts_at := ok_noughts_at (P := P) (w := w) T o_ones_at
  have o_bits_ahead := ok_bits_ahead (P := P) (w := w) T 
  have o_block_by := ok_block_by (P := P) (w := w) T o_bits_ahead
  have o_one_place := ok_one_place (P := P) (w := w) T o_block_by o_one_in o_bits_ahead
  have o_nought_place := ok_nought_place (P := P) (w := w) T o_block_by o_one_in o_bits_ahead
  have o_law_cell_at := ok_law_cell_at (P := P) (w := w) T 
  have o_law_great := ok_law_great (P := P) (w := w) T 
  have o_law_whole := ok_law_whole (P := P) (w := w) T 
  have o_law_bits := ok_law_bits (P := P) (w := w) T 
  have o_law_walked := ok_law_walked (P := P) (w := w) T 
  have o_law_look := ok_law_look (P := P) (w := w) T 
  have o_law_few := ok_law_few (P := P) (w := w) T o_law_whole
  have o_law_due := ok_law_due (P := P) (w := w) T 
  have o_law_told_by := ok_law_told_by (P := P) (w := w) T o_bit_at o_ones_at o_noughts_at o_one_place o_nought_place
  have o_law_round := ok_law_round (P := P) (w := w) T o_law_look o_law_told_by o_law_due o_law_whole o_law_few
  have o_law := ok_law (P := P) (w := w) T o_law_bits o_law_cell_at o_law_great o_law_walked o_kept_row o_law_round
  exact o_law
theorem binds_law {K : PySem.W.Frag} (c : He.SaysD faL fnL K) : ∃ fd : FuncData, FunD K "law" "law" (defArgs s_law) (defBody s_law) (defScope s_law) [] [] (He.ga K "law") fd := c.def_ 22 (d := dd_law) rfl
theorem tab_sp {K : PySem.W.Frag} {H : Hp} (h : ∀ p ∈ tfL.map (He.cT K), H p.2 = some (.tbl #[])) : ∀ x ∈ tabL, NdefX.TabN H (tabP K x) nmL := fun x hx =>
  NdefX.TabN.nil (h (He.cT K (x, none)) (List.mem_map_of_mem (f := He.cT K) (show ((x, none) : He.Defn) ∈ tfL from by
    have e : tfL = tabL.map fun x => ((x, none) : He.Defn) := rfl
    rw [e]; exact List.mem_map_of_mem (f := fun x => ((x, none) : He.Defn)) hx)))
end Tw
open PySem PySem.W PySem.Calls PyProof.Rows
set_option maxHeartbeats 0 in
theorem PySem.Challenge.cw_thinwood_k16_whole_row_holds : PySem.Challenge.rw_thinwood_k16_whole_row.Holds := by
  w_on; o_law
  refine HandSHeadRun.head_any (r := OpenLaw.row PySem.Challenge.rw_thinwood_k16_whole_row) (q := view (OpenLaw.row PySem.Challenge.rw_thinwood_k16_whole_row).prog [33]) (H := Tw.hk) (ob := Tw.ob) (M := 20000) (loose := Tw.looseL) (d := HandSHeadRun.topDef (OpenLaw.row PySem.Challenge.rw_thinwood_k16_whole_row).prog 33) (kwd := []) Tw.ob_eq
    Tw.z_e Tw.z_f Tw.run Tw.z_def Tw.z_hp Tw.z_hk (by rfl) (by first | assumption | decide +kernel) Tw.z_ok Tw.z_bare Tw.z_w ?hc
  case hc =>
    refine LamX.walk_ofTsE (l := PySem.Challenge.rw_thinwood_k16_whole_row) (n := 63) (k := 16) (x := "_law_script") (CX := fun _ => L2.CX0) rfl (by decide) (by as_aux_lemma => kernel_rfl) ⟨rfl, by decide, by decide⟩ ?F (fun _ _ _ _ _ z => z)
    intro w mg fa h Y G hmg0
    obtain ⟨K, KX, c⟩ := Y
    have cd := c.t.d
    have hmg : mg ("law" : PySem.Str) = some (.ref fa) := by
      have e : (HandSHeadRun.topDef (OpenLaw.row PySem.Challenge.rw_thinwood_k16_whole_row).prog 33).name = ("law" : PySem.Str) := by kernel_rfl
      rw [← e]
      exact hmg0
    have e : fa = He.ga K "law" := by
      have z := hmg.symm.trans (He.glo_ok KX G (cd.fact 22 (f := .glo "law") rfl))
      exact Value.ref.inj (Option.some.inj z)
    subst e
    obtain ⟨fd, FD⟩ := Tw.binds_law cd
    refine ⟨K, KX, fd, Tw.tfL.map (He.cT K), Tw.sp_law K, fun p hp => ?_, fun p hp => ?_, fun p hp => ?_, fun s u => FunD.bindsA (ps := ["_law_script"]) FD (fun _ _ _ _ _ _ us hl => match us, hl with | [_], _ => rfl) s [u] rfl, fun H a ns hl _ hH hS => ⟨a, ns, rfl, hS, hl, Tw.tab_sp hH, fun _ => rfl⟩, fun base KB GB TB => ?_⟩
    · obtain ⟨q, hq, e⟩ := List.mem_map.mp hp
      rw [← e]; exact c.empty q hq
    · obtain ⟨q, hq, e⟩ := List.mem_map.mp hp
      rw [← e]; exact c.out q hq
    · obtain ⟨q, hq, e⟩ := List.mem_map.mp hp
      rw [← e]; exact PySem.W.codeHd_of_K KX (c.hd q hq)
    · exact Tw.okf_fn (Tw.facts KB GB cd c.more base TB) FD
#print axioms PySem.Challenge.cw_thinwood_k16_whole_row_holds
