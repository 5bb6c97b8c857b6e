import PyProof.Rows.All
import Wide.All
import OpenK.AllK
import Wide.FinOn
import KE.KStateDown
import Lean
import HandS.ForMost
import HandS.ForExc
import HandS.Steps
import HandS.IsInst
import HandS.Wide
import HandS.WideBits
import HandS.Defaults
import HandS.Flow
import HandS.Style
import HandS.ExcIs
import HandS.TryMany
import HandS.Evl
import HandS.Walk
import HandS.Rev
import HandS.Conv
import HandS.RevRange
import HandS.SortInts
import HandS.Head0
import HandS.Head1
import HandS.Head2
import HandS.HeadEnd
import HandS.HeadHook1
import HandS.HeadHook2
import HandS.Deep
import HandS.Lambda
import HandS.HeadHook4
import HandS.HeadWalk
import HandS.Nested
import PySem.Challenge.RW_thinwood_k52_hands_apart
set_option Elab.async false
set_option linter.all false
set_option maxRecDepth 100000
set_option maxHeartbeats 4000000
open PySem PySem.W PySem.Calls PyProof.Rows in
section
namespace Tw
abbrev R0 : PySem.W.OpenRow := PySem.W.OpenLaw.row PySem.Challenge.rw_thinwood_k52_hands_apart
abbrev q0 : PySem.Program := PySem.W.view R0.prog [66]
abbrev d0 : PySem.DefRec := HandSHeadRun.topDef R0.prog 66
open PySem PySem.W PySem.Calls PyProof.Rows
theorem z_e : opening R0.prog = plainProg R0.prog.main.scope.names := by kernel_rfl
theorem z_f : ∀ s, fenceModules? R0.prog s = some s := fun s => by kernel_rfl
theorem z_def : defOf q0 R0.name = some (d0, []) := by kernel_rfl
theorem z_hp : R0.prog.theDef R0.name = some (d0.params, d0.body, d0.scope) := by kernel_rfl
theorem z_hk : kwWritten? d0.params.kwonlyargs d0.params.kw_defaults = some [] := by kernel_rfl
theorem z_ok : (chainsOk q0 && opensWell R0.prog && (frees R0.toRowW && R0.within.isEmpty)) = true := by decide +kernel
theorem z_bare : R0.prog.bare := ⟨rfl, rfl, rfl, rfl, rfl, by decide +kernel⟩
set_option maxHeartbeats 0 in
theorem z_w : R0.toRowW.promised := by w_witness2
end Tw
end
set_option Elab.async false
set_option linter.all false
set_option maxRecDepth 100000
set_option maxHeartbeats 4000000
namespace Tw
open PySem PySem.Spec PyProof.Rows L2
def nmL (l _c : Nat) : Str := if l = 191 then (("node_look" ++ ".<locals>.") ++ "<lambda>") else if l = 345 then (("_law_look" ++ ".<locals>.") ++ "_law_told") else ""
def tabL : List Str := ["_law_look", "node_look"]
/-! ### heaps: all that was tracked is as it was, but for code tables, which may have grown -/
class NT (o : HO) : Prop where
  ne : ∀ ps, o ≠ .tbl ps
instance {xs : List V} : NT (.lst xs) := ⟨fun _ z => nomatch z⟩
instance {xs : List V} : NT (.tup xs) := ⟨fun _ z => nomatch z⟩
instance {o : Obj} {u : HO} : NT (.frz o u) := ⟨fun _ z => nomatch z⟩
instance {φ : Heap → Prop} : NT (.ext φ) := ⟨fun _ z => nomatch z⟩
instance {S : Int → Bool} {n : Nat} : NT (.set S n) := ⟨fun _ z => nomatch z⟩
instance {kvs : List (Key × V)} : NT (.dK kvs) := ⟨fun _ z => nomatch z⟩
instance {C dx : Addr} {fs : List (Str × V)} : NT (.ins C dx fs) := ⟨fun _ z => nomatch z⟩
instance {x : Addr} : NT (.own x) := ⟨fun _ z => nomatch z⟩
structure Same (H H' : Hp) : Prop where
  keep : ∀ b o, H b = some o → (∀ ps, o ≠ .tbl ps) → H' b = some o
  gone : ∀ b, H' b = none → H b = none
  tabs : ∀ P, NdefX.TabN H P nmL → NdefX.TabN H' P nmL
theorem Same.get {H H' : Hp} (s : Same H H') {b : Addr} {o : HO} [NT o] (e : H b = some o) : H' b = some o := s.keep b o e NT.ne
theorem Same.of {H H' : Hp} (e : ∀ b o, H b = some o → H' b = some o) : Same H H' := by
  refine ⟨fun b o h _ => e b o h, fun b h => ?_, fun P t => NdefX.TabN.ext t e⟩
  cases q : H b with
  | none => rfl
  | some o => rw [e b o q] at h; cases h
theorem Same.refl (H : Hp) : Same H H := .of fun _ _ h => h
theorem Same.trans {H H1 H2 : Hp} (a : Same H H1) (b : Same H1 H2) : Same H H2 := ⟨fun c o h n => b.keep c o (a.keep c o h n) n, fun c h => a.gone c (b.gone c h), fun P t => b.tabs P (a.tabs P t)⟩
theorem Same.free {H H' : Hp} (e : Same H H') {l : Addr} (h : H' l = Option.none) : H l = Option.none := e.gone l h
theorem Same.seq {K : PySem.W.Frag} {H H' : Hp} {a : Addr} {xs : List V} (e : Same H H') (h : SqL K H a xs) : SqL K H' a xs := by
  rcases h with (h | ⟨o, h⟩) | h
  · exact .inl (.inl (e.get h))
  · exact .inl (.inr ⟨o, e.get h⟩)
  · exact .inr h
theorem same_new {H : Hp} {p : Addr} {o : HO} (h : H p = none) : Same H (upd H p o) := .of fun b x e => by
  rw [upd_ne (ne_of_none e h)]; exact e
/-- an object that H does not know may change -/
theorem Same.mut {H H' : Hp} {p : Addr} {o : HO} (e : Same H H') (h : H p = none) (hl : ∃ xs, H' p = some (.lst xs) := by exact ⟨_, by assumption⟩) : Same H (upd H' p o) := by
  obtain ⟨xs, hl⟩ := hl
  refine ⟨fun b x hb n => by rw [upd_ne (ne_of_none hb h)]; exact e.keep b x hb n, fun b hb => e.gone b (NdefX.upd_none hb), fun P t => ?_⟩
  obtain ⟨ps, h1, ht, hc⟩ := e.tabs P t
  have np : ∀ {b : Addr} {u : HO}, H' b = some u → (∀ xs, u ≠ .lst xs) → b ≠ p := fun {b u} q d z => by
    subst z; rw [hl] at q; cases q; exact d _ rfl
  refine ⟨ps, by rw [upd_ne (np h1 fun _ z => nomatch z)]; exact h1, ht, fun pos cv q => ?_⟩
  obtain ⟨c, e1, e2⟩ := hc pos cv q
  exact ⟨c, e1, by rw [upd_ne (np e2 fun _ z => by unfold LamX.CodeO at z; cases z)]; exact e2⟩
theorem Same.seqT {K : PySem.W.Frag} {H H' : Hp} {a : Addr} {xs : List V} (e : Same H H') (h : SqT K H a xs) : SqT K H' a xs := by
  rcases h with (h | ⟨o, h⟩) | h
  · exact .inl (.inl (e.get h))
  · exact .inl (.inr ⟨o, e.get h⟩)
  · exact .inr h
theorem Same.ne {H : Hp} {a p : Addr} {o : HO} (h : H p = none) (e : H a = some o) : a ≠ p := ne_of_none e h
/-! ### a def by its global name, and its call -/
/-- the def named x keeps the promise sp -/
structure Okf (P : Program) (w : World) (K : PySem.W.Frag) (mg : Str → Option Value) (base : Heap) (CX : CXT) (k : Nat) (x : Str) (ps : List Str) (sp : Sp) : Prop where
  ex : ∃ fd : FuncData, (∃ (oc : Value) (od : Option Addr) (osl : Array (Option Value)), K.lookup (He.ga K x) = some ⟨oc, od, .func fd, osl⟩) ∧ Binds K fd ps [] ∧ FnOk P w K mg base CX k (He.ga K x) fd ps sp
  kp : PySem.W.keepIn K (.ref (He.ga K x)) = true
  gl : mg x = some (.ref (He.ga K x))
theorem FunD.look {K : PySem.W.Frag} {x qual : Str} {params : Arguments} {body : List Stmt} {scope : Scope} {dvs : List V} {kws : List (Str × V)} {f : Addr} {fd : FuncData} (F : FunD K x qual params body scope dvs kws f fd) :
    ∃ (oc : Value) (od : Option Addr) (osl : Array (Option Value)), K.lookup f = some ⟨oc, od, .func fd, osl⟩ := by
  obtain ⟨oc, od, dV, kV, doc, pm, an, cdv, ct, osl, e, lk, _⟩ := F.ex
  exact ⟨oc, od, osl, lk⟩
section
variable {X : Cx} {CX : CXT} {k j : Nat} {ps : List Str} {sp : Sp} {E : XK} {x : Str} {p pos : Pos} {e : Expr} {es : List Expr} {t : TA}
theorem pe_callF (F : Okf X.prog X.w X.K X.mg X.base CX k x ps sp) (hr : Room j X.A) (hk : k ≤ j) (hg : Gl X x) (hx : Passes CX X E)
    (ha : PA X (e :: es) t) (hdb : (x == ("__debug__" : Str)) = false := by decide) (he : starEach (e :: es) X.env = (false, eval e X.env) :: starEach es X.env := by rfl) (hpl : (backTo pos (starEach es X.env)).any (·.1) = false := by rfl) :
    PE X (.Call (.Name x p) (e :: es) [] pos) (tCall sp [] E t) := by
  obtain ⟨fd, _, hb, ok⟩ := F.ex
  exact pe_call ok (hr.mono hk) hg F.gl F.kp hb .nil hx ha hdb he hpl
theorem pe_callF0 (F : Okf X.prog X.w X.K X.mg X.base CX k x ps sp) (hr : Room j X.A) (hk : k ≤ j) (hg : Gl X x) (hx : Passes CX X E)
    (hdb : (x == ("__debug__" : Str)) = false := by decide) : PE X (.Call (.Name x p) [] [] pos) (tCall sp [] E tNil) := by
  obtain ⟨fd, _, hb, ok⟩ := F.ex
  exact pe_call0 ok (hr.mono hk) hg F.gl F.kp hb .nil hx hdb
theorem Okf.imp {P : Program} {w : World} {K : PySem.W.Frag} {mg : Str → Option Value} {base : Heap} {sp' : Sp} (F : Okf P w K mg base CX k x ps sp)
    (h : ∀ vs H Q E, sp' vs H Q E → sp vs H Q E) : Okf P w K mg base CX k x ps sp' := by
  obtain ⟨⟨fd, lk, hb, ok⟩, kp, gl⟩ := F
  exact ⟨⟨fd, lk, hb, ok.imp h⟩, kp, gl⟩
theorem okf_fn {P : Program} {w : World} {K : PySem.W.Frag} {mg : Str → Option Value} {base : Heap} {params : Arguments} {body : List Stmt} {scope : Scope} {qual y : Str} {fd : FuncData} {dvs : List V} {kws : List (Str × V)} (F : Okf P w K mg base CX k x ps sp)
    (FD : FunD K y qual params body scope dvs kws (He.ga K x) fd) : FnOk P w K mg base CX k (He.ga K x) fd ps sp := by
  obtain ⟨⟨fd', ⟨_, _, _, lk'⟩, hb, ok⟩, kp, gl⟩ := F
  obtain ⟨_, _, _, lk⟩ := FunD.look FD
  rw [lk] at lk'
  injection lk' with e
  injection e with _ _ e
  injection e with e
  subst e
  exact ok
/-- a global int, as a constant -/
theorem pe_gint {i : Int} (h : ∃ t, X.mg x = some (.int i t)) (hg : Gl X x) (hd : (x == ("__debug__" : Str)) = false := by decide) : PE X (.Name x pos) (tC (.int i)) := by
  obtain ⟨t, h⟩ := h
  exact pe_glob hg h ⟨_, rfl⟩ hd
/-- a constant that the text reckons -/
theorem pe_cst {v : Int} {te : TE} (h : PE X e te) (hi : ∀ (σ : L2.St) (H : Hp) (Q : VK), Q (.int v) H → te σ H Q) : PE X e (tC (.int v)) :=
  ⟨fun pins s σ H Q I q => h.run pins s σ H Q I (hi σ H Q q)⟩
/-- e & 1 -/
def rAnd1 : R2 := fun x y H Q => ∃ i : Int, x = .int i ∧ y = .int 1 ∧ Q (.int (i % 2)) H
theorem op_and1 : OpR X (binaryOp .BitAnd) rAnd1 := by
  intro pins s σ H x y v u Q I rx ry h
  obtain ⟨i, rfl, rfl, q⟩ := h
  exact op_andM pins s σ H (.int i) (.int (2 ^ 1 - 1)) v u Q I rx ry ⟨i, 1, rfl, rfl, q⟩
/-- isinstance(x, T), T a built-in type's name -/
def rIsB : List V → Hp → VK → Prop := fun xs H Q => ∃ (x : V) (n : String), xs = [x, .ty n] ∧ ∃ (t : String) (b : Bool), (∀ K : PySem.W.Frag, TyX K H x (.type t)) ∧ kitB t n = some b ∧ Q (.bl b) H
theorem call_isB : CallR X (.builtin "isinstance") rIsB := by
  intro pins s σ H xs us Q I r h
  obtain ⟨x, n, rfl, t, b, ty, e, q⟩ := h
  exact call_isi pins s σ H [x, .ty n] us Q I r ⟨x, .ty n, .type t, .type n, b, rfl, .ty n, ty _, kit_ty e, q⟩
end
/-! ### names of the operators' readings -/
abbrev rPlus : R2 := rI0 fun i j => .int (i + j)
abbrev rMinus : R2 := rI0 fun i j => .int (i - j)
abbrev rTimes : R2 := rI CMul fun i j => .int (i * j)
abbrev rDiv : R2 := rI CDiv fun i j => .int (i / j)
abbrev rDivW : R2 := rI CDivW fun i j => .int (i / j)
abbrev rMod : R2 := rI (fun _ j => 0 < j) fun i j => .int (i % j)
abbrev rPow : R2 := rI CPow fun i j => .int (i ^ j.toNat)
abbrev rShl : R2 := rI CPow fun i j => .int (i * 2 ^ j.toNat)
abbrev rShr : R2 := rI (fun _ j => 0 ≤ j) fun i j => .int (i / 2 ^ j.toNat)
abbrev rBitAnd : R2 := rI0 fun i j => .int (Builtin.bitAnd i j)
abbrev rBitOr : R2 := rI0 fun i j => .int (Builtin.bitOr i j)
abbrev rBitXor : R2 := rI0 fun i j => .int (Builtin.bitXor i j)
abbrev rLt : R2 := rI0 fun i j => .bl (decide (i < j))
abbrev rLe : R2 := rI0 fun i j => .bl (decide (i ≤ j))
abbrev rGtI : R2 := rI0 fun i j => .bl (decide (j < i))
abbrev rGeI : R2 := rI0 fun i j => .bl (decide (j ≤ i))
abbrev rShlW : R2 := rI CShl fun i j => .int (i * 2 ^ j.toNat)
def rDivmod : List V → Hp → VK → Prop := fun xs H Q => ∃ i j, xs = [.int i, .int j] ∧ CDivP i j ∧ ∀ p, H p = none → Q (.ref p) (upd H p (.tup [.int (i / j), .int (i % j)]))
abbrev rNeg : V → Hp → VK → Prop := rU fun i => .int (-i)
/-! ### steps of a reading -/
section
variable {D : Ends} {σ : L2.St} {H : Hp} {Q : VK} {Qb : Bool → Hp → Prop} {ta tb te : TE} {t u v : TS} {c d : TT} {i : Nat} {x y z : V} {r : R2} {K : PySem.W.Frag}
theorem k_seq (h : t { D with nx := u D } σ H) : tSeq t u D σ H := h
theorem k_next (h : D.nx σ H) : tNext D σ H := h
theorem k_asg (h : te σ H fun x H1 => D.nx (σ.set i (some x)) H1) : tAsg te (gName i) D σ H := h
theorem k_drop (h : te σ H fun _ H1 => D.nx σ H1) : tDrop te D σ H := h
theorem k_ret (h : te σ H D.rt) : tRet te D σ H := h
theorem k_retN (h : D.rt .non H) : tRetN D σ H := h
theorem k_if (h : c σ H fun b H1 => if b = true then t D σ H1 else u D σ H1) : tIfS c t u D σ H := h
theorem k_var (h : σ[i]? = some (some x)) (q : Q x H) : tVar i σ H Q := ⟨x, h, q⟩
theorem k_c (q : Q x H) : tC x σ H Q := q
theorem k_op (h : ta σ H fun x H1 => tb σ H1 fun y H2 => r x y H2 Q) : tOp r ta tb σ H Q := h
theorem k_un {r : V → Hp → VK → Prop} (h : ta σ H fun x H1 => r x H1 Q) : tUn r ta σ H Q := h
theorem k_I0 {g : Int → Int → V} {a b : Int} (q : Q (g a b) H) : rI0 g (.int a) (.int b) H Q := ⟨a, b, rfl, rfl, q⟩
theorem k_I {C : Int → Int → Prop} {g : Int → Int → V} {a b : Int} (hc : C a b) (q : Q (g a b) H) : rI C g (.int a) (.int b) H Q := ⟨a, b, rfl, rfl, hc, q⟩
theorem k_U {g : Int → V} {a : Int} (q : Q (g a) H) : rU g (.int a) H Q := ⟨a, rfl, q⟩
theorem k_and1 {a : Int} (q : Q (.int (a % 2)) H) : rAnd1 (.int a) (.int 1) H Q := ⟨a, rfl, rfl, q⟩
theorem k_eqI {a b : Int} (q : Q (.bl (decide (a = b))) H) : rEq (.int a) (.int b) H Q := ⟨rfl, by
  have e : decide ((V.int a : V) = V.int b) = decide (a = b) := by simp
  rw [e]; exact q⟩
theorem k_neI {a b : Int} (q : Q (.bl (!decide (a = b))) H) : rNe (.int a) (.int b) H Q := ⟨rfl, by
  have e : decide ((V.int a : V) = V.int b) = decide (a = b) := by simp
  rw [e]; exact q⟩
theorem k_eq (hs : scal x y = true) (q : Q (.bl (decide (x = y))) H) : rEq x y H Q := ⟨hs, q⟩
theorem k_ne (hs : scal x y = true) (q : Q (.bl (!decide (x = y))) H) : rNe x y H Q := ⟨hs, q⟩
theorem k_isN (q : Q (.bl (decide (x = .non))) H) : rIsN x .non H Q := ⟨rfl, q⟩
theorem k_notN (q : Q (.bl (!decide (x = .non))) H) : rNotN x .non H Q := ⟨rfl, q⟩
def BlK (Qb : Bool → Hp → Prop) (x : V) (H : Hp) : Prop := ∃ k, x = .bl k ∧ Qb k H
theorem k_test (h : te σ H (BlK Qb)) : tTest te σ H Qb := h
theorem k_tB (h : te σ H (BlK Qb)) : tB te σ H Qb := h
theorem k_bl {b : Bool} (q : Qb b H) : BlK Qb (V.bl b) H := ⟨b, rfl, q⟩
theorem k_and (h : c σ H fun b H1 => if b = true then d σ H1 Qb else Qb false H1) : tAnd c d σ H Qb := h
theorem k_or (h : c σ H fun b H1 => if b = true then Qb true H1 else d σ H1 Qb) : tOr c d σ H Qb := h
theorem k_not (h : c σ H fun b H1 => Qb (!b) H1) : tNot c σ H Qb := h
def ChainK (Q : VK) (u : Hp → Prop) (z : V) (H : Hp) : Prop := ∃ k, z = .bl k ∧ (if k = true then u H else Q (.bl false) H)
theorem k_chain {r' : R2} {tc : TE} (h : ta σ H fun x H1 => tb σ H1 fun y H2 => r x y H2 (ChainK Q fun H3 => tc σ H3 fun w H4 => r' y w H4 Q)) : tChain r r' ta tb tc σ H Q := h
theorem k_chainE {u : Hp → Prop} {b : Bool} (h : if b = true then u H else Q (.bl false) H) : ChainK Q u (.bl b) H := ⟨b, rfl, h⟩
theorem k_andV (h : ta σ H (BlK fun k H1 => if k = true then tb σ H1 Q else Q (.bl false) H1)) : tAndV ta tb σ H Q := h
theorem k_orV (h : ta σ H (BlK fun k H1 => if k = true then Q (.bl true) H1 else tb σ H1 Q)) : tOrV ta tb σ H Q := h
theorem k_notV (h : ta σ H (BlK fun k H1 => Q (.bl (!k)) H1)) : tNotV ta σ H Q := h
theorem k_ifE (h : c σ H fun b H1 => if b = true then ta σ H1 Q else tb σ H1 Q) : tIf c ta tb σ H Q := h
theorem k_cons {Qv : List V → Hp → Prop} {tr : TA} (h : ta σ H fun x H1 => tr σ H1 fun xs H2 => Qv (x :: xs) H2) : tCons ta tr σ H Qv := h
theorem k_nil {Qv : List V → Hp → Prop} (h : Qv [] H) : tNil σ H Qv := h
theorem k_call {sp : Sp} {dvs : List V} {E : XK} {tr : TA} (h : tr σ H fun vs H1 => sp (vs ++ dvs) H1 Q E) : tCall sp dvs E tr σ H Q := h
theorem k_cb {rc : List V → Hp → VK → Prop} {tr : TA} (h : tr σ H fun vs H1 => rc vs H1 Q) : tCB rc tr σ H Q := h
theorem k_tup {tr : TA} (h : tr σ H fun xs H1 => xs.length ≤ sizeLine ∧ ∀ p, H1 p = none → Q (.ref p) (upd H1 p (.tup xs))) : tTup tr σ H Q := h
theorem k_lst {tr : TA} (h : tr σ H fun xs H1 => xs.length ≤ sizeLine ∧ ∀ p, H1 p = none → Q (.ref p) (upd H1 p (.lst xs))) : tLst tr σ H Q := h
theorem k_disp {A : Prop} {xs : List V} (h : xs.length ≤ 1000) (q : A) : xs.length ≤ sizeLine ∧ A := ⟨Nat.le_trans h (by decide), q⟩
theorem k_aug {ti : TIp} (hx : σ[i]? = some (some x)) (h : te σ H fun y H1 => ti x y H1 fun z H2 => D.nx (σ.set i (some z)) H2) : tAug i te ti D σ H := ⟨x, hx, h⟩
theorem k_ipI {f : Int → Int → Int} {a b : Int} (q : Q (.int (f a b)) H) : ipI f (.int a) (.int b) H Q := ⟨a, b, rfl, rfl, q⟩
theorem k_sl {rs : V → Option Int → Option Int → Hp → VK → Prop} {tl th : TO} (h : te σ H fun x H1 => tl σ H1 fun l H2 => th σ H2 fun u H3 => rs x l u H3 Q) : tSl rs te tl th σ H Q := h
def PartK (Qo : Option Int → Hp → Prop) (x : V) (H : Hp) : Prop := ∃ j, x = .int j ∧ Qo (some j) H
theorem k_part {Qo : Option Int → Hp → Prop} (h : te σ H (PartK Qo)) : tPart te σ H Qo := h
theorem k_partE {Qo : Option Int → Hp → Prop} {a : Int} (h : Qo (some a) H) : PartK Qo (.int a) H := ⟨a, rfl, h⟩
theorem k_noPart {Qo : Option Int → Hp → Prop} (h : Qo none H) : tNoPart σ H Qo := h
theorem k_bm {T : String} {rm : V → List V → Hp → VK → Prop} {tr : TA} (h : te σ H fun x H1 => tyV K T x H1 ∧ tr σ H1 fun xs H2 => rm x xs H2 Q) : tBM K T rm te tr σ H Q := h
theorem k_bm0 {T : String} {rm : V → List V → Hp → VK → Prop} (h : te σ H fun x H1 => tyV K T x H1 ∧ rm x [] H1 Q) : tBM0 K T rm te σ H Q := h
theorem k_app {l : Addr} {xs : List V} (h : H l = some (.lst xs)) (hl : xs.length < 100000) (q : Q .non (upd H l (.lst (xs ++ [y])))) : rAppend (.ref l) [y] H Q := ⟨l, xs, y, rfl, rfl, h, Nat.lt_of_lt_of_le hl (by decide), q⟩
theorem k_tyL {l : Addr} {xs : List V} {A : Prop} (h : SqL K H l xs) (q : A) : tyV K "list" (.ref l) H ∧ A := ⟨.inl ⟨rfl, _, h⟩, q⟩
theorem k_ixL {p : Addr} {xs : List V} {a : Int} (h : SqL K H p xs) (e : atI xs a = some x) (q : Q x H) : rIxL K (.ref p) (.int a) H Q := ⟨p, xs, a, x, rfl, rfl, h, e, q⟩
theorem k_ixT {p : Addr} {xs : List V} {a : Int} (h : SqT K H p xs) (e : atI xs a = some x) (q : Q x H) : rIxT K (.ref p) (.int a) H Q := ⟨p, xs, a, x, rfl, rfl, h, e, q⟩
theorem k_slL {p : Addr} {xs : List V} {lo hi : Option Int} (h : SqL K H p xs) (q : ∀ l, H l = none → Q (.ref l) (upd H l (.lst (cutV xs lo hi)))) : rSlL K (.ref p) lo hi H Q := ⟨p, xs, rfl, h, q⟩
def rLen (K : PySem.W.Frag) : List V → Hp → VK → Prop := fun xs H Q => ∃ p ys, xs = [.ref p] ∧ (SqL K H p ys ∨ SqT K H p ys) ∧ Q (.int ys.length) H
theorem call_lenK {X : Cx} : CallR X (.builtin "len") (rLen X.K) := call_len_seq
theorem k_lenL {p : Addr} {xs : List V} (h : SqL K H p xs) (q : Q (.int (xs.length : Int)) H) : rLen K [.ref p] H Q := ⟨p, xs, rfl, .inl h, q⟩
theorem k_lenT {p : Addr} {xs : List V} (h : SqT K H p xs) (q : Q (.int (xs.length : Int)) H) : rLen K [.ref p] H Q := ⟨p, xs, rfl, .inr h, q⟩
def rInsert : V → List V → Hp → VK → Prop := fun x vs H Q => ∃ (l : Addr) (xs : List V) (i : Int) (y : V), x = .ref l ∧ vs = [.int i, y] ∧ H l = some (.lst xs) ∧ xs.length < sizeLine ∧ 0 ≤ i ∧ i < 2 ^ 63 ∧ Q .non (upd H l (.lst (xs.take i.toNat ++ [y] ++ xs.drop i.toNat)))
theorem k_insert {l : Addr} {xs : List V} {i : Nat} (h : H l = some (.lst xs)) (hz : xs.length ≤ 100000) (hi : i ≤ 100000) (q : Q .non (upd H l (.lst (xs.take i ++ [y] ++ xs.drop i)))) : rInsert (.ref l) [.int (i : Int), y] H Q := ⟨l, xs, i, y, rfl, rfl, h, Nat.lt_of_le_of_lt hz (by decide), by omega, by omega, by rw [Int.toNat_natCast]; exact q⟩
theorem k_popAt {l : Addr} {xs : List V} {i : Nat} (h : H l = some (.lst xs)) (hi : i < xs.length) (hz : xs.length ≤ 100000) (e : xs[i]? = some y) (q : Q y (upd H l (.lst (xs.eraseIdx i)))) : rPopAt (.ref l) [.int (i : Int)] H Q := ⟨l, xs, i, i, y, rfl, rfl, h, by omega, by omega, by unfold PySem.seqIndex?; simp; omega, e, q⟩
theorem k_clear {l : Addr} {xs : List V} (h : H l = some (.lst xs)) (q : Q .non (upd H l (.lst []))) : rClear (.ref l) [] H Q := ⟨l, xs, rfl, rfl, h, q⟩
theorem k_extend {l b : Addr} {xs zs : List V} (h : H l = some (.lst xs)) (h2 : H b = some (.lst zs)) (hn : xs.length + zs.length ≤ 1000000) (q : Q .non (upd H l (.lst (xs ++ zs)))) : rExtend (.ref l) [.ref b] H Q := ⟨l, b, xs, zs, rfl, rfl, h, h2, Nat.le_trans hn (by decide), q⟩
theorem k_pop {l : Addr} {xs : List V} (h : H l = some (.lst (xs ++ [y]))) (q : Q y (upd H l (.lst xs))) : rPop (.ref l) [] H Q := ⟨l, xs ++ [y], y, rfl, rfl, h, by simp, by rw [List.dropLast_concat]; exact q⟩
def rInt1 : List V → Hp → VK → Prop := fun xs H Q => (∃ i, xs = [.int i] ∧ Q (.int i) H) ∨ ∃ k : Bool, xs = [.bl k] ∧ Q (.int (if k then 1 else 0)) H
theorem k_intB {k : Bool} (q : Q (.int (if k then 1 else 0)) H) : rInt1 [.bl k] H Q := .inr ⟨k, rfl, q⟩
def rTupOf (K : PySem.W.Frag) : List V → Hp → VK → Prop := fun xs H Q => ∃ p ys, xs = [.ref p] ∧ ((SqL K H p ys ∧ ∀ l, H l = none → Q (.ref l) (upd H l (.tup ys))) ∨ (SqT K H p ys ∧ Q (.ref p) H))
theorem call_tupK {X : Cx} : CallR X (.type "tuple") (rTupOf X.K) := call_tuple_of
theorem k_tupL {p : Addr} {xs : List V} (h : SqL K H p xs) (q : ∀ l, H l = none → Q (.ref l) (upd H l (.tup xs))) : rTupOf K [.ref p] H Q := ⟨p, xs, rfl, .inl ⟨h, q⟩⟩
def rLenStr : List V → Hp → VK → Prop := fun xs H Q => ∃ z : Str, xs = [.str z] ∧ z.length ≤ sizeLine ∧ Q (.int z.length) H
def rAddStr : R2 := fun x y H Q => ∃ i j : Str, x = .str i ∧ y = .str j ∧ i.length + j.length ≤ sizeLine ∧ Q (.str (i ++ j)) H
def rAbs : List V → Hp → VK → Prop := fun xs H Q => ∃ i, xs = [.int i] ∧ Q (.int (if i < 0 then -i else i)) H
theorem k_abs {a : Int} (q : Q (.int (if a < 0 then -a else a)) H) : rAbs [.int a] H Q := ⟨a, rfl, q⟩
def rMin2 : List V → Hp → VK → Prop := fun xs H Q => ∃ i j, xs = [.int i, .int j] ∧ Q (.int (if j < i then j else i)) H
def rMax2 : List V → Hp → VK → Prop := fun xs H Q => ∃ i j, xs = [.int i, .int j] ∧ Q (.int (if j > i then j else i)) H
theorem call_min2K {X : Cx} (hc : X.calm = true) : CallR X (.builtin "min") rMin2 := call_min2 hc
theorem call_max2K {X : Cx} (hc : X.calm = true) : CallR X (.builtin "max") rMax2 := call_max2 hc
theorem k_min2 {a b : Int} (q : Q (.int (if b < a then b else a)) H) : rMin2 [.int a, .int b] H Q := ⟨a, b, rfl, q⟩
theorem k_max2 {a b : Int} (q : Q (.int (if b > a then b else a)) H) : rMax2 [.int a, .int b] H Q := ⟨a, b, rfl, q⟩
def rListOf (K : PySem.W.Frag) : List V → Hp → VK → Prop := fun xs H Q => ∃ p ys, xs = [.ref p] ∧ (SqL K H p ys ∨ SqT K H p ys) ∧ ∀ l, H l = none → Q (.ref l) (upd H l (.lst ys))
theorem call_listK {X : Cx} : CallR X (.type "list") (rListOf X.K) := call_list_of
theorem k_listL {p : Addr} {xs : List V} (h : SqL K H p xs) (q : ∀ l, H l = none → Q (.ref l) (upd H l (.lst xs))) : rListOf K [.ref p] H Q := ⟨p, xs, rfl, .inl h, q⟩
theorem k_sum {p : Addr} {ns : List Int} (h : SqL K H p (ns.map V.int)) (q : Q (.int ns.sum) H) : rSum K [.ref p] H Q := ⟨p, ns, rfl, h, q⟩
theorem k_isInt {a : Int} (q : Q (.bl true) H) : rIsB [.int a, .ty "int"] H Q := ⟨.int a, "int", rfl, "int", true, fun _ => .base (.int a), by decide +kernel, q⟩
theorem k_isBool {a : Int} (q : Q (.bl false) H) : rIsB [.int a, .ty "bool"] H Q := ⟨.int a, "bool", rfl, "int", false, fun _ => .base (.int a), by decide +kernel, q⟩
theorem k_isBoolB {b : Bool} (q : Q (.bl true) H) : rIsB [.bl b, .ty "bool"] H Q := ⟨.bl b, "bool", rfl, "bool", true, fun _ => .base (.bl b), by decide +kernel, q⟩
theorem k_isIntB {b : Bool} (q : Q (.bl true) H) : rIsB [.bl b, .ty "int"] H Q := ⟨.bl b, "int", rfl, "bool", true, fun _ => .base (.bl b), by decide +kernel, q⟩
theorem k_isIntN (q : Q (.bl false) H) : rIsB [.non, .ty "int"] H Q := ⟨.non, "int", rfl, "NoneType", false, fun _ => .base .non, by decide +kernel, q⟩
theorem k_isList {a : Addr} {xs : List V} (h : H a = some (.lst xs)) (q : Q (.bl true) H) : rIsB [.ref a, .ty "list"] H Q := ⟨.ref a, "list", rfl, "list", true, fun _ => .base (.lst h), by decide +kernel, q⟩
theorem k_isTup {a : Addr} {xs : List V} (h : H a = some (.tup xs)) (q : Q (.bl true) H) : rIsB [.ref a, .ty "tuple"] H Q := ⟨.ref a, "tuple", rfl, "tuple", true, fun _ => .base (.tup h), by decide +kernel, q⟩
/-! ends -/
theorem k_nx {nx : L2.St → Hp → Prop} {rt : VK} {bk ct : L2.St → Hp → Prop} (h : nx σ H) : (Ends.mk nx rt bk ct).nx σ H := h
theorem k_rt {nx : L2.St → Hp → Prop} {rt : VK} {bk ct : L2.St → Hp → Prop} (h : rt x H) : (Ends.mk nx rt bk ct).rt x H := h
/-! ifs -/
theorem k_dec {p A B : Prop} [Decidable p] (h1 : p → A) (h2 : ¬ p → B) : if decide p = true then A else B := by
  by_cases h : p
  · rw [if_pos (decide_eq_true h)]; exact h1 h
  · rw [if_neg (fun z => h (of_decide_eq_true z))]; exact h2 h
theorem k_ndec {p A B : Prop} [Decidable p] (h1 : ¬ p → A) (h2 : p → B) : if (!decide p) = true then A else B := by
  by_cases h : p
  · rw [if_neg (by rw [decide_eq_true h]; decide)]; exact h2 h
  · rw [if_pos (by rw [decide_eq_false h]; decide)]; exact h1 h
theorem k_decT {p A B : Prop} [Decidable p] (h : p) (q : A) : if decide p = true then A else B := k_dec (fun _ => q) (fun z => absurd h z)
theorem k_decF {p A B : Prop} [Decidable p] (h : ¬ p) (q : B) : if decide p = true then A else B := k_dec (fun z => absurd z h) (fun _ => q)
theorem k_ndecT {p A B : Prop} [Decidable p] (h : p) (q : B) : if (!decide p) = true then A else B := k_ndec (fun z => absurd h z) (fun _ => q)
theorem k_ndecF {p A B : Prop} [Decidable p] (h : ¬ p) (q : A) : if (!decide p) = true then A else B := k_ndec (fun _ => q) (fun z => absurd z h)
theorem k_yes (h : Qb true H) : tYes σ H Qb := h
theorem k_T {A B : Prop} (q : A) : if true = true then A else B := iteT q
theorem k_F {A B : Prop} (q : B) : if false = true then A else B := iteF q
theorem k_nT {A B : Prop} (q : B) : if (!true) = true then A else B := iteF q
theorem k_nF {A B : Prop} (q : A) : if (!false) = true then A else B := iteT q
end
/-! ### items -/
theorem at_nat {α : Type} {xs : List α} {i : Nat} {x : α} (h : xs[i]? = some x) : atI xs (i : Int) = some x := atI_nat h
theorem at_int {α : Type} {xs : List α} {i : Int} {x : α} (h0 : 0 ≤ i) (h : xs[i.toNat]? = some x) : atI xs i = some x := by
  have e : i = ((i.toNat : Nat) : Int) := by omega
  rw [e]; exact atI_nat h
theorem mapint {ns : List Int} {i : Nat} {n : Int} (h : ns[i]? = some n) : (ns.map V.int)[i]? = some (.int n) := by
  rw [List.getElem?_map, h]; rfl
theorem of_mapint {ns : List Int} {i : Nat} {v : V} (h : (ns.map V.int)[i]? = some v) : ∃ n, ns[i]? = some n ∧ v = .int n := by
  rw [List.getElem?_map] at h
  cases e : ns[i]? with
  | none => rw [e] at h; cases h
  | some n => rw [e] at h; exact ⟨n, rfl, (Option.some.inj h).symm⟩
theorem cutTake (xs : List V) (n : Nat) : cutV xs none (some (n : Int)) = xs.take n := by
  unfold cutV
  rw [HT.sIx_none, HT.sIx_nat, List.drop_zero, Nat.sub_zero]
  rcases Nat.le_total n xs.length with h | h
  · rw [Nat.min_eq_left h]
  · rw [Nat.min_eq_right h, List.take_length, List.take_of_length_le h]
/-! ### steps on ends that are written out; loops -/
section
variable {σ : L2.St} {H : Hp} {Q rt : VK} {nx bk ct : L2.St → Hp → Prop} {t u tb : TS} {g : TG} {wi : TI} {c : TT} {i : Nat} {x : V} {K : PySem.W.Frag}
theorem m_seq (h : t (Ends.mk (u (Ends.mk nx rt bk ct)) rt bk ct) σ H) : tSeq t u (Ends.mk nx rt bk ct) σ H := h
theorem m_cut (Mid : L2.St → Hp → Prop) (h : t (Ends.mk Mid rt bk ct) σ H) (k : ∀ σ' H', Mid σ' H' → u (Ends.mk nx rt bk ct) σ' H') : Evl.tCut t u (Ends.mk nx rt bk ct) σ H := ⟨Mid, h, k⟩
theorem m_cut0 (h : t (Ends.mk (u (Ends.mk nx rt bk ct)) rt bk ct) σ H) : Evl.tCut t u (Ends.mk nx rt bk ct) σ H := ⟨_, h, fun _ _ x => x⟩
theorem m_bk (h : bk σ H) : tBreak (Ends.mk nx rt bk ct) σ H := h
theorem m_ct (h : ct σ H) : tCont (Ends.mk nx rt bk ct) σ H := h
theorem m_next (h : nx σ H) : tNext (Ends.mk nx rt bk ct) σ H := h
theorem m_gName {Qs : L2.St → Hp → Prop} (h : Qs (σ.set i (some x)) H) : gName i x σ H Qs := h
theorem m_call {sp : Sp} {E : XK} {tr : TA} (h : tr σ H fun vs H1 => sp vs H1 Q E) : tCall sp [] E tr σ H Q := by
  have e : (fun (vs : List V) (H1 : Hp) => sp (vs ++ []) H1 Q E) = fun vs H1 => sp vs H1 Q E := by
    funext vs H1; rw [List.append_nil]
  show tr σ H fun vs H1 => sp (vs ++ []) H1 Q E
  rw [e]; exact h
/-- a for loop over what J yields -/
def LoopOk (J : It) (g : TG) (tb : TS) (nx : L2.St → Hp → Prop) (rt : VK) (σ : L2.St) (H : Hp) : Prop :=
  ∃ W : Nat → Nat → L2.St → Hp → Prop, (∃ m, W 0 m σ H) ∧ ∀ i m σ H, W i m σ H →
  (J.stop i H ∧ nx σ H) ∨ (J.go i H ∧ ∃ N : L2.St → Hp → Prop, (∀ σ' H', N σ' H' → ∃ m', m' < m ∧ W (i + 1) m' σ' H') ∧ ∀ x H', J.yld i H x H' → g x σ H' fun σ2 H2 => tb (Ends.mk N rt nx N) σ2 H2)
theorem m_for (h : wi σ H fun J H1 => LoopOk J g tb nx rt σ H1) : tFor wi g tb (Ends.mk nx rt bk ct) σ H := h
def Rng1K (R : It → Hp → Prop) (vs : List V) (H : Hp) : Prop := ∃ j : Int, vs = [.int j] ∧ -(2 ^ 62) ≤ j ∧ j < 2 ^ 62 ∧ R (Itr 0 j.toNat) H
theorem m_rng1 {ta : TA} {R : It → Hp → Prop} (h : ta σ H (Rng1K R)) : iRng1 ta σ H R := h
theorem m_rng1e {R : It → Hp → Prop} {a : Int} (h1 : -(2 ^ 62) ≤ a ∧ a < 2 ^ 62) (h : R (Itr 0 a.toNat) H) : Rng1K R [V.int a] H := ⟨a, rfl, h1.1, h1.2, h⟩
theorem m_rng1n {R : It → Hp → Prop} {a : Nat} (h1 : (a : Int) < 2 ^ 62) (h : R (Itr 0 a) H) : Rng1K R [V.int (a : Int)] H := ⟨a, rfl, by omega, h1, by rw [Int.toNat_natCast]; exact h⟩
def Rng2K (R : It → Hp → Prop) (vs : List V) (H : Hp) : Prop := ∃ i j : Int, vs = [.int i, .int j] ∧ (-(2 ^ 62) ≤ i ∧ i < 2 ^ 62 ∧ -(2 ^ 62) ≤ j ∧ j < 2 ^ 62) ∧ R (Itr i (j - i).toNat) H
theorem m_rng2 {ta : TA} {R : It → Hp → Prop} (h : ta σ H (Rng2K R)) : iRng2 ta σ H R := h
theorem m_rng2e {R : It → Hp → Prop} {a b : Int} (h1 : -(2 ^ 62) ≤ a ∧ a < 2 ^ 62 ∧ -(2 ^ 62) ≤ b ∧ b < 2 ^ 62) (h : R (Itr a (b - a).toNat) H) : Rng2K R [V.int a, V.int b] H := ⟨a, b, rfl, h1, h⟩
def ListK (K : PySem.W.Frag) (R : It → Hp → Prop) (x : V) (H : Hp) : Prop := ∃ a, x = .ref a ∧ (∃ xs, SqL K H a xs) ∧ R (Itl K a) H
theorem m_iL {tl : TE} {R : It → Hp → Prop} (h : tl σ H (ListK K R)) : iList K tl σ H R := h
theorem m_iLe {R : It → Hp → Prop} {a : Addr} {xs : List V} (hx : SqL K H a xs) (h : R (Itl K a) H) : ListK K R (V.ref a) H := ⟨a, rfl, ⟨xs, hx⟩, h⟩
def TupK (K : PySem.W.Frag) (R : It → Hp → Prop) (x : V) (H : Hp) : Prop := ∃ a, x = .ref a ∧ (∃ xs, SqT K H a xs) ∧ R (Itt K a) H
theorem m_iT {tl : TE} {R : It → Hp → Prop} (h : tl σ H (TupK K R)) : iTup K tl σ H R := h
theorem m_iTe {R : It → Hp → Prop} {a : Addr} {xs : List V} (hx : SqT K H a xs) (h : R (Itt K a) H) : TupK K R (V.ref a) H := ⟨a, rfl, ⟨xs, hx⟩, h⟩
def iSeq (K : PySem.W.Frag) (tl : TE) : TI := fun σ H R => iList K tl σ H R ∨ iTup K tl σ H R
theorem m_seqL {tl : TE} {R : It → Hp → Prop} (h : tl σ H (ListK K R)) : iSeq K tl σ H R := .inl h
theorem m_seqT {tl : TE} {R : It → Hp → Prop} (h : tl σ H (TupK K R)) : iSeq K tl σ H R := .inr h
theorem pi_seq {X : Cx} {tg l : Expr} {tl : TE} (hl : PE X l tl) : PI X tg l (iSeq X.K tl) := ⟨fun pins s σ H R I h => h.elim (fun h => (pi_list hl).run pins s σ H R I h) fun h => (pi_tup hl).run pins s σ H R I h⟩
theorem loop_range {lo : Int} {n : Nat} (Pv : Nat → L2.St → Hp → Prop) (h0 : Pv 0 σ H)
    (hs : ∀ i σ H, i < n → Pv i σ H → g (.int (lo + i)) σ H fun σ2 H2 => tb (Ends.mk (Pv (i + 1)) rt nx (Pv (i + 1))) σ2 H2) (hd : ∀ σ H, Pv n σ H → nx σ H) : LoopOk (Itr lo n) g tb nx rt σ H :=
  for_range (D := Ends.mk nx rt nx nx) Pv h0 hs hd
theorem loop_range0 {n : Nat} (Pv : Nat → L2.St → Hp → Prop) (h0 : Pv 0 σ H)
    (hs : ∀ (i : Nat) σ H, i < n → Pv i σ H → g (.int (i : Int)) σ H fun σ2 H2 => tb (Ends.mk (Pv (i + 1)) rt nx (Pv (i + 1))) σ2 H2) (hd : ∀ σ H, Pv n σ H → nx σ H) : LoopOk (Itr 0 n) g tb nx rt σ H :=
  loop_range Pv h0 (fun i σ H hi p => by rw [Int.zero_add]; exact hs i σ H hi p) hd
theorem loop_list {a : Addr} {xs : List V} (Pv : Nat → L2.St → Hp → Prop) (h0 : Pv 0 σ H) (hl : ∀ i σ H, i ≤ xs.length → Pv i σ H → SqL K H a xs)
    (hs : ∀ i x σ H, xs[i]? = some x → Pv i σ H → g x σ H fun σ2 H2 => tb (Ends.mk (Pv (i + 1)) rt nx (Pv (i + 1))) σ2 H2) (hd : ∀ σ H, Pv xs.length σ H → nx σ H) : LoopOk (Itl K a) g tb nx rt σ H :=
  for_list (D := Ends.mk nx rt nx nx) Pv h0 hl hs hd
/-- over a list of ints -/
theorem loop_ints {a : Addr} {ns : List Int} (Pv : Nat → L2.St → Hp → Prop) (h0 : Pv 0 σ H) (hl : ∀ i σ H, Pv i σ H → SqL K H a (ns.map V.int))
    (hs : ∀ i n σ H, ns[i]? = some n → Pv i σ H → g (.int n) σ H fun σ2 H2 => tb (Ends.mk (Pv (i + 1)) rt nx (Pv (i + 1))) σ2 H2) (hd : ∀ σ H, Pv ns.length σ H → nx σ H) : LoopOk (Itl K a) g tb nx rt σ H :=
  loop_list (xs := ns.map V.int) Pv h0 (fun i σ H _ p => hl i σ H p) (fun i x σ H hx p => by
    obtain ⟨n, hn, rfl⟩ := of_mapint hx
    exact hs i n σ H hn p) (fun σ H p => hd σ H (by rw [List.length_map] at p; exact p))
theorem loop_tup {a : Addr} {xs : List V} (Pv : Nat → L2.St → Hp → Prop) (h0 : Pv 0 σ H) (hl : ∀ i σ H, i ≤ xs.length → Pv i σ H → SqT K H a xs)
    (hs : ∀ i x σ H, xs[i]? = some x → Pv i σ H → g x σ H fun σ2 H2 => tb (Ends.mk (Pv (i + 1)) rt nx (Pv (i + 1))) σ2 H2) (hd : ∀ σ H, Pv xs.length σ H → nx σ H) : LoopOk (Itt K a) g tb nx rt σ H :=
  for_tup (D := Ends.mk nx rt nx nx) Pv h0 hl hs hd
def WBody (W : Nat → L2.St → Hp → Prop) (m : Nat) (tb : TS) (rt : VK) (nx : L2.St → Hp → Prop) (σ : L2.St) (H : Hp) : Prop :=
  ∃ N : L2.St → Hp → Prop, (∀ σ' H', N σ' H' → ∃ m', m' < m ∧ W m' σ' H') ∧ tb (Ends.mk N rt nx N) σ H
theorem m_wbody {W : Nat → L2.St → Hp → Prop} {m : Nat} (h : tb (Ends.mk (fun σ' H' => ∃ m', m' < m ∧ W m' σ' H') rt nx (fun σ' H' => ∃ m', m' < m ∧ W m' σ' H')) σ H) : WBody W m tb rt nx σ H := ⟨_, fun _ _ h => h, h⟩
theorem loop_while (W : Nat → L2.St → Hp → Prop) (m : Nat) (h0 : W m σ H)
    (hs : ∀ m σ H, W m σ H → c σ H fun b H1 => if b = true then WBody W m tb rt nx σ H1 else nx σ H1) : tWhile c tb (Ends.mk nx rt bk ct) σ H := ⟨W, ⟨m, h0⟩, hs⟩
/-- a comprehension over what J yields -/
def CompOk (J : It) (g : TG) (tt : TT) (te : TE) (vs : List Nat) (σ : L2.St) (H1 : Hp) (Q : VK) : Prop :=
  ∀ D, H1 D = none → ∃ W : Nat → Nat → Hp → Prop, (∃ m, W 0 m (upd H1 D (.lst []))) ∧ ∀ i m H, W i m H →
  (J.stop i H ∧ Q (.ref D) H) ∨ (J.go i H ∧ ∃ Nx : Hp → Prop, (∀ H', Nx H' → ∃ m', m' < m ∧ W (i + 1) m' H') ∧ ∀ x H', J.yld i H x H' → g x (wipe σ vs) H' fun σ2 H2 => wipe σ2 vs = wipe σ vs ∧ tt σ2 H2 fun b H3 =>
    if b = true then te σ2 H3 fun y H4 => ∃ acc, H4 D = some (.lst acc) ∧ acc.length < sizeLine ∧ Nx (upd H4 D (.lst (acc ++ [y]))) else Nx H3)
theorem m_lc {tt : TT} {te : TE} {vs : List Nat} (h : wi σ H fun J H1 => CompOk J g tt te vs σ H1 Q) : tLc wi g tt te vs σ H Q := h
/-- over a range, no test, pure elements f i: the list made -/
theorem comp_rangeV {n : Nat} {te : TE} {j : Nat} {f : Nat → V} (hn : n ≤ 100000)
    (he : ∀ (k : Nat) (H2 : Hp) (Q2 : VK), k < n → Same H H2 → (∀ H3, Same H2 H3 → Q2 (f k) H3) → te ((wipe σ [j]).set j (some (.int (k : Int)))) H2 Q2)
    (q : ∀ p H', H p = none → Same H H' → H' p = some (.lst ((List.range n).map f)) → Q (.ref p) H') (hw : ∀ x, wipe ((wipe σ [j]).set j (some x)) [j] = wipe σ [j] := by intro _; rfl) : CompOk (Itr 0 n) (gName j) tYes te [j] σ H Q := by
  intro Dl hD
  refine lc_range (lo := 0) (n := n) (fun i H' => Same H H' ∧ H' Dl = some (.lst ((List.range i).map f))) ⟨same_new hD, upd_same⟩ (fun i H' hi p => ?_) (fun H' p => q Dl H' hD p.1 p.2)
  obtain ⟨p1, p2⟩ := p
  refine ⟨hw _, ?_⟩
  refine k_yes (iteT ?_)
  rw [Int.zero_add]
  refine he i H' _ hi p1 (fun H3 s3 => ⟨_, s3.get p2, ?_, Same.mut (p1.trans s3) hD ⟨_, s3.get p2⟩, ?_⟩)
  · rw [List.length_map, List.length_range]; exact Nat.lt_of_lt_of_le (Nat.lt_of_lt_of_le hi hn) (by decide)
  · rw [upd_same, List.range_succ, List.map_append]; rfl
/-- over a list, no test, pure elements -/
theorem comp_listV {a : Addr} {xs ys : List V} {te : TE} {j : Nat} (hl : SqL K H a xs) (hn : xs.length ≤ 100000) (hy : ys.length = xs.length)
    (he : ∀ (k : Nat) (x y : V) (H2 : Hp) (Q2 : VK), xs[k]? = some x → ys[k]? = some y → Same H H2 → (∀ H3, Same H2 H3 → Q2 y H3) → te ((wipe σ [j]).set j (some x)) H2 Q2)
    (q : ∀ p H', H p = none → Same H H' → H' p = some (.lst ys) → Q (.ref p) H') (hw : ∀ x, wipe ((wipe σ [j]).set j (some x)) [j] = wipe σ [j] := by intro _; rfl) : CompOk (Itl K a) (gName j) tYes te [j] σ H Q := by
  intro Dl hD
  refine lc_list (xs := xs) (fun i H' => Same H H' ∧ H' Dl = some (.lst (ys.take i))) ⟨same_new hD, upd_same⟩ (fun i H' _ p => p.1.seq hl) (fun i x H' hi p => ?_) (fun H' p => q Dl H' hD p.1 (by rw [p.2, ← hy, List.take_length]))
  obtain ⟨p1, p2⟩ := p
  refine ⟨hw _, ?_⟩
  refine k_yes (iteT ?_)
  have hlt : i < xs.length := (List.getElem?_eq_some_iff.mp hi).1
  obtain ⟨y, ey⟩ : ∃ y, ys[i]? = some y := ⟨ys[i]'(by omega), List.getElem?_eq_getElem (by omega)⟩
  refine he i x y H' _ hi ey p1 (fun H3 s3 => ⟨_, s3.get p2, ?_, Same.mut (p1.trans s3) hD ⟨_, s3.get p2⟩, ?_⟩)
  · rw [List.length_take]; exact Nat.lt_of_le_of_lt (Nat.min_le_right _ _) (Nat.lt_of_lt_of_le (show ys.length < 100001 by omega) (by decide))
  · rw [upd_same, List.take_add_one, ey]; rfl
/-- over a list, no test, elements of which something is known -/
theorem comp_listP {a : Addr} {xs : List V} {te : TE} {j : Nat} (P : Nat → V → Prop) (hl : SqL K H a xs) (hn : xs.length ≤ 100000)
    (he : ∀ (k : Nat) (x : V) (H2 : Hp) (Q2 : VK), xs[k]? = some x → Same H H2 → (∀ y H3, P k y → Same H2 H3 → Q2 y H3) → te ((wipe σ [j]).set j (some x)) H2 Q2)
    (q : ∀ p H' ys, H p = none → Same H H' → H' p = some (.lst ys) → ys.length = xs.length → (∀ k y, ys[k]? = some y → P k y) → Q (.ref p) H') (hw : ∀ x, wipe ((wipe σ [j]).set j (some x)) [j] = wipe σ [j] := by intro _; rfl) : CompOk (Itl K a) (gName j) tYes te [j] σ H Q := by
  intro Dl hD
  refine lc_list (xs := xs) (fun i H' => Same H H' ∧ ∃ ys, H' Dl = some (.lst ys) ∧ ys.length = i ∧ ∀ k y, ys[k]? = some y → P k y) ⟨same_new hD, [], upd_same, rfl, fun k y e => by simp at e⟩ (fun i H' _ p => p.1.seq hl) (fun i x H' hi p => ?_) (fun H' p => ?_)
  · obtain ⟨p1, ys, p2, p3, p4⟩ := p
    refine ⟨hw _, ?_⟩
    refine k_yes (iteT ?_)
    have hlt : i < xs.length := (List.getElem?_eq_some_iff.mp hi).1
    refine he i x H' _ hi p1 (fun y H3 hy s3 => ⟨_, s3.get p2, by rw [p3]; exact Nat.lt_of_lt_of_le (Nat.lt_of_lt_of_le hlt hn) (by decide), Same.mut (p1.trans s3) hD ⟨_, s3.get p2⟩, ys ++ [y], upd_same, by rw [List.length_append, p3]; rfl, fun k z e => ?_⟩)
    rcases Nat.lt_or_ge k ys.length with w | w
    · rw [List.getElem?_append_left w] at e; exact p4 k z e
    · rw [List.getElem?_append_right w] at e
      obtain ⟨h1, h2⟩ := List.getElem?_eq_some_iff.mp e
      rw [List.length_singleton] at h1
      have hk : k = i := by omega
      have e2 : z = y := by
        rw [show k - ys.length = 0 by omega] at e
        exact (Option.some.inj e).symm
      rw [hk, e2]; exact hy
  · obtain ⟨p1, ys, p2, p3, p4⟩ := p
    exact q Dl H' ys hD p1 p2 p3 p4
end
/-! ### loops over any walk -/
section
variable {σ : L2.St} {H : Hp} {Q rt : VK} {nx bk ct : L2.St → Hp → Prop} {t u tb : TS} {g : TG} {i : Nat} {x : V} {K : PySem.W.Frag} {J : It} {n : Nat} {G : Hp → Prop} {Y : Nat → Hp → V → Hp → Prop}
theorem loop_walk (w : Walk J n G Y) (Pv : Nat → L2.St → Hp → Prop) (h0 : Pv 0 σ H) (hG : ∀ i σ H, Pv i σ H → G H)
    (hs : ∀ i x σ H H', i < n → Pv i σ H → Y i H x H' → g x σ H' fun σ2 H2 => tb (Ends.mk (Pv (i + 1)) rt nx (Pv (i + 1))) σ2 H2) (hd : ∀ σ H, Pv n σ H → nx σ H) : LoopOk J g tb nx rt σ H :=
  for_it (D := Ends.mk nx rt nx nx) w Pv h0 (fun i σ H _ p => hG i σ H p) hs hd
/-- a comprehension with a test: at each turn the item is dropped, or f i is kept -/
theorem comp_walkV {te : TE} {tt : TT} {j : Nat} {f : Nat → Option V} (w : Walk J n G Y) (hn : n ≤ 100000) (hG : ∀ H', Same H H' → G H')
    (he : ∀ (k : Nat) (x : V) (H1 H2 : Hp) (Qb : Bool → Hp → Prop), k < n → Same H H1 → Y k H1 x H2 → (∀ b H3, Same H1 H3 → (b = true → ∀ Q2 : VK, ∀ H4, Same H3 H4 → ∃ y, f k = some y ∧ ((∀ H5, Same H4 H5 → Q2 y H5) → te ((wipe σ [j]).set j (some x)) H4 Q2)) → (b = false → f k = none) → Qb b H3) → tt ((wipe σ [j]).set j (some x)) H2 Qb)
    (q : ∀ p H', H p = none → Same H H' → H' p = some (.lst ((List.range n).filterMap f)) → Q (.ref p) H') (hw : ∀ x, wipe ((wipe σ [j]).set j (some x)) [j] = wipe σ [j] := by intro _; rfl) : CompOk J (gName j) tt te [j] σ H Q := by
  intro Dl hD
  refine lc_it w (fun i H' => Same H H' ∧ H' Dl = some (.lst ((List.range i).filterMap f))) ⟨same_new hD, upd_same⟩ (fun i H' _ p => hG H' p.1) (fun i x H' H'' hi p hy => ?_) (fun H' p => q Dl H' hD p.1 p.2)
  obtain ⟨p1, p2⟩ := p
  refine ⟨hw _, he i x H' H'' _ hi p1 hy (fun b H3 s3 hb1 hb0 => ?_)⟩
  have hl : ((List.range i).filterMap f).length < sizeLine := Nat.lt_of_le_of_lt (List.length_filterMap_le f (List.range i)) (by rw [List.length_range]; exact Nat.lt_of_lt_of_le (Nat.lt_of_lt_of_le hi hn) (by decide))
  cases b with
  | true =>
    refine iteT ?_
    obtain ⟨y, ey, go⟩ := hb1 rfl (fun y H4 => ∃ acc, H4 Dl = some (.lst acc) ∧ acc.length < sizeLine ∧ Same H (upd H4 Dl (.lst (acc ++ [y]))) ∧ upd H4 Dl (.lst (acc ++ [y])) Dl = some (.lst ((List.range (i + 1)).filterMap f))) H3 (Same.refl _)
    refine go fun H5 s5 => ⟨_, s5.get (s3.get p2), hl, Same.mut ((p1.trans s3).trans s5) hD ⟨_, s5.get (s3.get p2)⟩, ?_⟩
    rw [upd_same, List.range_succ, List.filterMap_append]
    show _ = some (HO.lst (_ ++ List.filterMap f [i]))
    rw [List.filterMap_cons, ey]; rfl
  | false =>
    refine iteF ⟨p1.trans s3, ?_⟩
    rw [List.range_succ, List.filterMap_append]
    rw [show List.filterMap f [i] = [] by rw [List.filterMap_cons, hb0 rfl]; rfl, List.append_nil]
    exact s3.get p2
theorem k_rev {a : Addr} {xs : List V} {ta : TA} {R : It → Hp → Prop} (h : ta σ H fun vs H1 => ∃ (a : Addr) (xs : List V), vs = [.ref a] ∧ SqL K H1 a xs ∧ R (Itv K a xs.length) H1) : iRev K ta σ H R := h
def RevK (K : PySem.W.Frag) (R : It → Hp → Prop) (vs : List V) (H : Hp) : Prop := ∃ (a : Addr) (xs : List V), vs = [.ref a] ∧ SqL K H a xs ∧ R (Itv K a xs.length) H
theorem m_rev {ta : TA} {R : It → Hp → Prop} (h : ta σ H (RevK K R)) : iRev K ta σ H R := h
theorem m_revE {a : Addr} {xs : List V} {R : It → Hp → Prop} (hx : SqL K H a xs) (h : R (Itv K a xs.length) H) : RevK K R [.ref a] H := ⟨a, xs, rfl, hx, h⟩
def EnumK (K : PySem.W.Frag) (R : It → Hp → Prop) (vs : List V) (H : Hp) : Prop := ∃ (a : Addr) (xs : List V), vs = [.ref a] ∧ SqL K H a xs ∧ R (Ite K a) H
theorem m_enum {ta : TA} {R : It → Hp → Prop} (h : ta σ H (EnumK K R)) : iEnum K ta σ H R := h
theorem m_enumE {a : Addr} {xs : List V} {R : It → Hp → Prop} (hx : SqL K H a xs) (h : R (Ite K a) H) : EnumK K R [.ref a] H := ⟨a, xs, rfl, hx, h⟩
def ZipK (K : PySem.W.Frag) (R : It → Hp → Prop) (vs : List V) (H : Hp) : Prop := ∃ a b xs ys, vs = [.ref a, .ref b] ∧ SqL K H a xs ∧ SqL K H b ys ∧ R (Itz K a b) H
theorem m_zip {ta : TA} {R : It → Hp → Prop} (h : ta σ H (ZipK K R)) : iZip K ta σ H R := h
theorem m_zipE {a b : Addr} {xs ys : List V} {R : It → Hp → Prop} (hx : SqL K H a xs) (hy : SqL K H b ys) (h : R (Itz K a b) H) : ZipK K R [.ref a, .ref b] H := ⟨a, b, xs, ys, rfl, hx, hy, h⟩
def RevLK (K : PySem.W.Frag) (Q : VK) (x : V) (H : Hp) : Prop := ∃ a xs, x = .ref a ∧ SqL K H a xs ∧ ∀ p, H p = none → Q (.ref p) (upd H p (.lst xs.reverse))
theorem m_revL {te : TE} (h : te σ H (RevLK K Q)) : tRevL K te σ H Q := h
theorem m_revLE {a : Addr} {xs : List V} (hx : SqL K H a xs) (q : ∀ p, H p = none → Q (.ref p) (upd H p (.lst xs.reverse))) : RevLK K Q (.ref a) H := ⟨a, xs, rfl, hx, q⟩
def Rng3K (R : It → Hp → Prop) (vs : List V) (H : Hp) : Prop := ∃ i j c n, vs = [.int i, .int j, .int c] ∧ RgC i j c n ∧ R (Itc i c n) H
theorem m_rng3 {ta : TA} {R : It → Hp → Prop} (h : ta σ H (Rng3K R)) : iRng3 ta σ H R := h
theorem m_rng3e {R : It → Hp → Prop} {a b c : Int} {n : Nat} (h1 : RgC a b c n) (h : R (Itc a c n) H) : Rng3K R [V.int a, V.int b, V.int c] H := ⟨a, b, c, n, rfl, h1, h⟩
/-- targets that are pairs -/
def GTupK (K : PySem.W.Frag) (n : Nat) (tg : TGs) (Qs : L2.St → Hp → Prop) (x : V) (σ : L2.St) (H : Hp) : Prop := ∃ a xs, x = .ref a ∧ SqT K H a xs ∧ xs.length = n ∧ tg xs σ H Qs
theorem m_gTup {tg : TGs} {Qs : L2.St → Hp → Prop} {a : Addr} {xs : List V} (hx : SqT K H a xs) (hn : xs.length = n) (h : tg xs σ H Qs) : gTup K n tg (.ref a) σ H Qs := ⟨a, xs, rfl, hx, hn, h⟩
theorem m_gCons {t1 : TG} {ts : TGs} {Qs : L2.St → Hp → Prop} {xs : List V} (h : t1 x σ H fun σ' H' => ts xs σ' H' Qs) : gCons t1 ts (x :: xs) σ H Qs := ⟨x, xs, rfl, h⟩
theorem m_gNil {Qs : L2.St → Hp → Prop} (h : Qs σ H) : gNil [] σ H Qs := ⟨rfl, h⟩
theorem m_asg {te : TE} (h : te σ H fun x H1 => g x σ H1 nx) : tAsg te g (Ends.mk nx rt bk ct) σ H := h
theorem k_rep {Q : VK} {l : Addr} {xs : List V} {n : Nat} (h : H l = some (.lst xs)) (hn : xs.length * n ≤ 1000000) (hn2 : n ≤ 1000000) (q : ∀ p, H p = none → Q (.ref p) (upd H p (.lst (List.replicate n xs).flatten))) : rRep (.ref l) (.int (n : Int)) H Q :=
  ⟨l, n, xs, rfl, rfl, h, by omega, by omega, by rw [Int.toNat_natCast]; exact Nat.le_trans hn (by decide), by rw [Int.toNat_natCast]; exact q⟩
theorem k_cat {Q : VK} {l b : Addr} {xs zs : List V} (h1 : H l = some (.lst xs)) (h2 : H b = some (.lst zs)) (hn : xs.length + zs.length ≤ 1000000) (q : ∀ p, H p = none → Q (.ref p) (upd H p (.lst (xs ++ zs)))) : rCat (.ref l) (.ref b) H Q :=
  ⟨l, b, xs, zs, rfl, rfl, h1, h2, Nat.le_trans hn (by decide), q⟩
theorem rep_one (x : V) (n : Nat) : (List.replicate n [x]).flatten = List.replicate n x := by
  induction n with
  | zero => rfl
  | succ n ih => rw [List.replicate_succ, List.flatten_cons, ih]; rfl
theorem m_gSub {to ti : TE} {ts : TSet} {Qs : L2.St → Hp → Prop} (h : to σ H fun o H1 => ti σ H1 fun i H2 => ts o i x H2 fun H3 => Qs σ H3) : gSub to ti ts x σ H Qs := h
theorem m_setL {p : Addr} {xs : List V} {k : Int} {j : Nat} {y : V} {Qh : Hp → Prop} (h : H p = some (.lst xs)) (hj : ixN xs.length k = some j) (q : Qh (upd H p (.lst (xs.set j y)))) : rSetL (.ref p) (.int k) y H Qh := ⟨p, xs, k, j, rfl, rfl, h, hj, q⟩
theorem ixN_nat {n : Nat} {k : Int} (h0 : 0 ≤ k) (h1 : k < n) : ixN n k = some k.toNat := by
  unfold ixN; rw [if_pos h0, if_pos h1]
def ParK (nx : L2.St → Hp → Prop) (i j : Nat) (σ : L2.St) (vs : List V) (H : Hp) : Prop := ∃ v w, vs = [v, w] ∧ nx ((σ.set i (some v)).set j (some w)) H
theorem m_par {i j : Nat} {ta : TA} (h : ta σ H (ParK nx i j σ)) : tPar i j ta (Ends.mk nx rt bk ct) σ H := h
theorem m_parE {i j : Nat} {a b : V} (h : nx ((σ.set i (some a)).set j (some b)) H) : ParK nx i j σ [a, b] H := ⟨a, b, rfl, h⟩
theorem k_divmod {Q : VK} {a b : Int} (h : CDivP a b) (q : ∀ p, H p = none → Q (.ref p) (upd H p (.tup [.int (a / b), .int (a % b)]))) : rDivmod [.int a, .int b] H Q := ⟨a, b, rfl, h, q⟩
end
/-! ### what a comprehension with a test leaves -/
theorem fm_head {α : Type} {f : Nat → Option α} : ∀ {n : Nat} {y : α}, ((List.range n).filterMap f)[0]? = some y → ∃ i, i < n ∧ f i = some y ∧ ∀ j, j < i → f j = none
  | 0, y, h => by simp at h
  | n + 1, y, h => by
    rw [List.range_succ, List.filterMap_append] at h
    cases e : (List.range n).filterMap f with
    | cons z zs =>
      rw [e] at h
      have h' : ((List.range n).filterMap f)[0]? = some y := by rw [e]; simpa using h
      obtain ⟨i, h1, h2, h3⟩ := fm_head h'
      exact ⟨i, by omega, h2, h3⟩
    | nil =>
      rw [e, List.nil_append] at h
      have none_all : ∀ j, j < n → f j = none := fun j hj => List.filterMap_eq_nil_iff.mp e j (List.mem_range.mpr hj)
      cases q : f n with
      | none => rw [List.filterMap_cons, q] at h; simp at h
      | some z =>
        rw [List.filterMap_cons, q] at h
        have : z = y := by simpa using h
        subst this
        exact ⟨n, by omega, q, none_all⟩
theorem fm_last {α : Type} {f : Nat → Option α} : ∀ {n : Nat} {y : α} {ys : List α}, (List.range n).filterMap f = ys ++ [y] → ∃ i, i < n ∧ f i = some y ∧ ∀ j, i < j → j < n → f j = none
  | 0, y, ys, h => by simp at h
  | n + 1, y, ys, h => by
    rw [List.range_succ, List.filterMap_append] at h
    cases q : f n with
    | none =>
      rw [show List.filterMap f [n] = [] by rw [List.filterMap_cons, q]; rfl, List.append_nil] at h
      obtain ⟨i, h1, h2, h3⟩ := fm_last h
      refine ⟨i, by omega, h2, fun j h4 h5 => ?_⟩
      rcases Nat.lt_or_ge j n with h6 | h6
      · exact h3 j h4 h6
      · have : j = n := by omega
        subst this; exact q
    | some z =>
      rw [show List.filterMap f [n] = [z] by rw [List.filterMap_cons, q]; rfl] at h
      have e := List.append_inj_right' h rfl
      injection e with e
      subst e
      exact ⟨n, by omega, q, fun j h4 h5 => by omega⟩
theorem fm_nil {α : Type} {f : Nat → Option α} {n : Nat} (h : (List.range n).filterMap f = []) : ∀ j, j < n → f j = none := fun j hj => List.filterMap_eq_nil_iff.mp h j (List.mem_range.mpr hj)
theorem fm_id {α : Type} (l : List α) {n : Nat} (hn : n = l.length) : (List.range n).filterMap (fun k => l[k]?) = l := by
  subst hn
  have h : ∀ n, n ≤ l.length → (List.range n).filterMap (fun k => l[k]?) = l.take n := by
    intro n
    induction n with
    | zero => intro _; rfl
    | succ n ih =>
      intro hn
      rw [List.range_succ, List.filterMap_append, ih (by omega), List.take_add_one, List.getElem?_eq_getElem (show n < l.length by omega)]
      congr 1
      rw [List.filterMap_cons, List.getElem?_eq_getElem (show n < l.length by omega)]; rfl
  rw [h _ (Nat.le_refl _), List.take_length]
theorem snoc_of {α : Type} : ∀ {l : List α}, l ≠ [] → ∃ ys y, l = ys ++ [y]
  | [], h => absurd rfl h
  | a :: l, _ => ⟨(a :: l).dropLast, (a :: l).getLast (List.cons_ne_nil _ _), (List.dropLast_concat_getLast _).symm⟩
theorem cutPart (xs : List V) (a b : Nat) : cutV xs (some (a : Int)) (some (b : Int)) = (xs.take b).drop a := by
  unfold cutV
  rw [HT.sIx_nat, HT.sIx_nat, List.drop_take]
  rcases Nat.le_total a xs.length with h | h
  · rw [Nat.min_eq_left h]
    rcases Nat.le_total b xs.length with h2 | h2
    · rw [Nat.min_eq_left h2]
    · rw [Nat.min_eq_right h2, List.take_of_length_le (by rw [List.length_drop]; omega), List.take_of_length_le (by rw [List.length_drop]; omega)]
  · rw [Nat.min_eq_right h, List.drop_of_length_le (Nat.le_refl _), List.drop_of_length_le h]
    simp
/-- a part of a list of ints -/
theorem cut_ints (ns : List Int) (lo hi : Option Int) : ∃ cs : List Int, cutV (ns.map V.int) lo hi = cs.map V.int ∧ (∀ x ∈ cs, x ∈ ns) ∧ cs.length ≤ ns.length := by
  unfold cutV
  refine ⟨_, by rw [← List.map_drop, ← List.map_take], fun x h => List.mem_of_mem_drop (List.mem_of_mem_take h), by rw [List.length_take, List.length_drop]; omega⟩
theorem cutDrop (xs : List V) (a : Nat) : cutV xs (some (a : Int)) none = xs.drop a := by
  unfold cutV
  rw [HT.sIx_nat, HT.sIx_none]
  rcases Nat.le_total a xs.length with h | h
  · rw [Nat.min_eq_left h, List.take_of_length_le (by rw [List.length_drop]; omega)]
  · rw [Nat.min_eq_right h, List.drop_of_length_le (Nat.le_refl _), List.drop_of_length_le h]
    simp
/-! ### data at any depth -/
section
variable {H H' : Hp} {K : PySem.W.Frag}
theorem dpAll_ints : ∀ ns : List Int, DpAll K H (ns.map V.int) (ns.map PyData.int)
  | [] => .nil
  | n :: ns => .cons (.int n) (dpAll_ints ns)
theorem dpAll_bools : ∀ bs : List Bool, DpAll K H (bs.map V.bl) (bs.map PyData.bool)
  | [] => .nil
  | b :: bs => .cons (.bl b) (dpAll_bools bs)
theorem dp_ints {a : Addr} {ns : List Int} (h : SqL K H a (ns.map V.int)) : Dp K H (.ref a) (.list (ns.map PyData.int)) := .lst h (dpAll_ints ns)
theorem dp_intsT {a : Addr} {ns : List Int} (h : SqT K H a (ns.map V.int)) : Dp K H (.ref a) (.tuple (ns.map PyData.int)) := .tup h (dpAll_ints ns)
theorem eqvAll_ints : ∀ as bs : List Int, PyData.eqvAll (as.map PyData.int) (bs.map PyData.int) = decide (as = bs)
  | [], [] => by rw [List.map_nil]; unfold PyData.eqvAll; rfl
  | [], b :: bs => by rw [List.map_nil, List.map_cons]; unfold PyData.eqvAll; simp
  | a :: as, [] => by rw [List.map_nil, List.map_cons]; unfold PyData.eqvAll; simp
  | a :: as, b :: bs => by
    rw [List.map_cons, List.map_cons]; unfold PyData.eqvAll
    rw [eqvAll_ints as bs]
    unfold PyData.eqv
    by_cases h : a = b
    · subst h; by_cases h2 : as = bs
      · subst h2; simp
      · simp [h2]
    · simp [h]
theorem eqv_ints (as bs : List Int) : PyData.eqv (.list (as.map PyData.int)) (.list (bs.map PyData.int)) = decide (as = bs) := by
  unfold PyData.eqv; exact eqvAll_ints as bs
theorem eqv_intsT (as bs : List Int) : PyData.eqv (.tuple (as.map PyData.int)) (.tuple (bs.map PyData.int)) = decide (as = bs) := by
  unfold PyData.eqv; exact eqvAll_ints as bs
/-- laid: no dict, texts in order, at most so deep -/
def laid (n : Nat) (d : PyData) : Prop := d.canLay0 = true ∧ d.depth ≤ n
theorem laid_int {n : Nat} (i : Int) : laid n (.int i) := ⟨by simp [PyData.canLay0], by simp [PyData.depth]⟩
theorem laid_bool {n : Nat} (i : Bool) : laid n (.bool i) := ⟨by simp [PyData.canLay0], by simp [PyData.depth]⟩
theorem laid_none {n : Nat} : laid n .none := ⟨by simp [PyData.canLay0], by simp [PyData.depth]⟩
theorem laid_all {n : Nat} : ∀ ds : List PyData, (∀ d ∈ ds, laid n d) → PyData.canLayAll0 ds = true ∧ PyData.depthAll ds ≤ n
  | [], _ => ⟨by simp [PyData.canLayAll0], by simp [PyData.depthAll]⟩
  | d :: ds, h => by
    obtain ⟨h1, h2⟩ := h d List.mem_cons_self
    obtain ⟨h3, h4⟩ := laid_all ds fun x hx => h x (List.mem_cons_of_mem _ hx)
    exact ⟨by simp [PyData.canLayAll0, h1, h3], by simp only [PyData.depthAll]; omega⟩
theorem laid_list {n : Nat} {ds : List PyData} (h : ∀ d ∈ ds, laid n d) : laid (n + 1) (.list ds) := by
  obtain ⟨h1, h2⟩ := laid_all ds h
  exact ⟨by simp [PyData.canLay0, h1], by simp only [PyData.depth]; omega⟩
theorem laid_tup {n : Nat} {ds : List PyData} (h : ∀ d ∈ ds, laid n d) : laid (n + 1) (.tuple ds) := by
  obtain ⟨h1, h2⟩ := laid_all ds h
  exact ⟨by simp [PyData.canLay0, h1], by simp only [PyData.depth]; omega⟩
theorem laid_ints {n : Nat} (ns : List Int) : laid (n + 1) (.list (ns.map PyData.int)) := laid_list fun d hd => by
  obtain ⟨i, _, rfl⟩ := List.mem_map.mp hd
  exact laid_int i
theorem laid_intsT {n : Nat} (ns : List Int) : laid (n + 1) (.tuple (ns.map PyData.int)) := laid_tup fun d hd => by
  obtain ⟨i, _, rfl⟩ := List.mem_map.mp hd
  exact laid_int i
theorem laid_bools {n : Nat} (bs : List Bool) : laid (n + 1) (.list (bs.map PyData.bool)) := laid_list fun d hd => by
  obtain ⟨i, _, rfl⟩ := List.mem_map.mp hd
  exact laid_bool i
theorem laid_shaped {d : PyData} (h : laid 64 d) : SeqAt.shaped d = true := by
  obtain ⟨h1, h2⟩ := h
  unfold SeqAt.shaped
  rw [h1, decide_eq_true h2]; rfl
theorem k_eqD {Q : VK} {x y : V} {d e : PyData} (h1 : Dp K H x d) (h2 : Dp K H y e) (l1 : laid 64 d) (l2 : laid 64 e) (q : Q (.bl (PyData.eqv d e)) H) : rEqD K x y H Q :=
  ⟨d, e, h1, h2, laid_shaped l1, laid_shaped l2, q⟩
theorem k_neD {Q : VK} {x y : V} {d e : PyData} (h1 : Dp K H x d) (h2 : Dp K H y e) (l1 : laid 64 d) (l2 : laid 64 e) (q : Q (.bl (!PyData.eqv d e)) H) : rNeD K x y H Q :=
  ⟨d, e, h1, h2, laid_shaped l1, laid_shaped l2, q⟩
theorem k_eqL {Q : VK} {a b : Addr} {ns ms : List Int} (h1 : SqL K H a (ns.map V.int)) (h2 : SqL K H b (ms.map V.int)) (q : Q (.bl (decide (ns = ms))) H) : rEqD K (.ref a) (.ref b) H Q :=
  k_eqD (dp_ints h1) (dp_ints h2) (laid_ints ns) (laid_ints ms) (by rw [eqv_ints]; exact q)
theorem k_neL {Q : VK} {a b : Addr} {ns ms : List Int} (h1 : SqL K H a (ns.map V.int)) (h2 : SqL K H b (ms.map V.int)) (q : Q (.bl (!decide (ns = ms))) H) : rNeD K (.ref a) (.ref b) H Q :=
  k_neD (dp_ints h1) (dp_ints h2) (laid_ints ns) (laid_ints ms) (by rw [eqv_ints]; exact q)
end
/-- a row's tables: a number and a tuple of numbers -/
theorem eqv_row (n : Int) (as : List Int) : PyData.eqv (.tuple [.int n, .tuple (as.map PyData.int)]) (.tuple [.int n, .tuple (as.map PyData.int)]) = true := by
  unfold PyData.eqv PyData.eqvAll; unfold PyData.eqv PyData.eqvAll
  simp [eqv_intsT, PyData.eqvAll]
theorem dp_row {K : PySem.W.Frag} {H : Hp} {t a : Addr} {n : Int} {as : List Int} (h1 : SqT K H t [.int n, .ref a]) (h2 : SqT K H a (as.map V.int)) : Dp K H (.ref t) (.tuple [.int n, .tuple (as.map PyData.int)]) :=
  .tup h1 (.cons (.int n) (.cons (dp_intsT h2) .nil))
theorem laid_row (n : Int) (as : List Int) : laid 64 (.tuple [.int n, .tuple (as.map PyData.int)]) := laid_tup (n := 63) fun d hd => by
  simp only [List.mem_cons, List.not_mem_nil, or_false] at hd
  rcases hd with rfl | rfl
  · exact laid_int _
  · exact laid_intsT _
theorem k_eqRow {K : PySem.W.Frag} {H : Hp} {Q : VK} {t u a b : Addr} {n : Int} {as : List Int} (h1 : SqT K H t [.int n, .ref a]) (h2 : SqT K H a (as.map V.int)) (h3 : SqT K H u [.int n, .ref b]) (h4 : SqT K H b (as.map V.int)) (q : Q (.bl true) H) : rEqD K (.ref t) (.ref u) H Q :=
  k_eqD (dp_row h1 h2) (dp_row h3 h4) (laid_row n as) (laid_row n as) (by rw [eqv_row]; exact q)
theorem any_int (i : Int) : ∀ ns : List Int, ((ns.map PyData.int).any fun z => PyData.eqv z (.int i)) = decide (i ∈ ns)
  | [] => by simp
  | n :: ns => by
    rw [List.map_cons, List.any_cons, any_int i ns]
    unfold PyData.eqv
    by_cases h : n = i
    · subst h; simp
    · have h' : ¬ i = n := fun z => h z.symm
      simp [h, h']
theorem k_inL {K : PySem.W.Frag} {H : Hp} {Q : VK} {i : Int} {a : Addr} {ns : List Int} (h : SqL K H a (ns.map V.int)) (q : Q (.bl (decide (i ∈ ns))) H) : rInD K (.int i) (.ref a) H Q :=
  ⟨.int i, _, .int i, dp_ints h, laid_shaped (laid_int i), laid_shaped (laid_ints ns), by rw [any_int]; exact q⟩
theorem k_notInL {K : PySem.W.Frag} {H : Hp} {Q : VK} {i : Int} {a : Addr} {ns : List Int} (h : SqL K H a (ns.map V.int)) (q : Q (.bl (!decide (i ∈ ns))) H) : rNotInD K (.int i) (.ref a) H Q :=
  ⟨.int i, _, .int i, dp_ints h, laid_shaped (laid_int i), laid_shaped (laid_ints ns), by rw [any_int]; exact q⟩
section
variable {H : Hp} {K : PySem.W.Frag}
theorem eqvAll_bools : ∀ as bs : List Bool, PyData.eqvAll (as.map PyData.bool) (bs.map PyData.bool) = decide (as = bs)
  | [], [] => by rw [List.map_nil]; unfold PyData.eqvAll; rfl
  | [], b :: bs => by rw [List.map_nil, List.map_cons]; unfold PyData.eqvAll; simp
  | a :: as, [] => by rw [List.map_nil, List.map_cons]; unfold PyData.eqvAll; simp
  | a :: as, b :: bs => by
    rw [List.map_cons, List.map_cons]; unfold PyData.eqvAll
    rw [eqvAll_bools as bs]
    unfold PyData.eqv
    by_cases h : a = b
    · subst h; by_cases h2 : as = bs
      · subst h2; simp
      · simp [h2]
    · simp [h]
theorem eqv_bools (as bs : List Bool) : PyData.eqv (.list (as.map PyData.bool)) (.list (bs.map PyData.bool)) = decide (as = bs) := by
  unfold PyData.eqv; exact eqvAll_bools as bs
theorem dp_bools {a : Addr} {bs : List Bool} (h : SqL K H a (bs.map V.bl)) : Dp K H (.ref a) (.list (bs.map PyData.bool)) := .lst h (dpAll_bools bs)
theorem k_eqB {Q : VK} {a b : Addr} (ns ms : List Bool) (h1 : SqL K H a (ns.map V.bl)) (h2 : SqL K H b (ms.map V.bl)) (q : Q (.bl (decide (ns = ms))) H) : rEqD K (.ref a) (.ref b) H Q :=
  k_eqD (dp_bools h1) (dp_bools h2) (laid_bools ns) (laid_bools ms) (by rw [eqv_bools]; exact q)
end
theorem m_neB {H : Hp} {K : PySem.W.Frag} {Q : VK} {a b : Addr} (ns ms : List Bool) (h1 : SqL K H a (ns.map V.bl)) (h2 : SqL K H b (ms.map V.bl)) (q : Q (.bl (!decide (ns = ms))) H) : rNeD K (.ref a) (.ref b) H Q :=
  k_neD (dp_bools h1) (dp_bools h2) (laid_bools ns) (laid_bools ms) (by rw [eqv_bools]; exact q)
theorem room65 {k : Nat} {A : Around} (r : Room k A) : A.units + 65 < cLine := by have := r.un; omega
/-- list + list, whichever way they are known -/
def rCatK (K : PySem.W.Frag) : R2 := fun x y H Q => ∃ l b xs zs, x = .ref l ∧ y = .ref b ∧ SqL K H l xs ∧ SqL K H b zs ∧ xs.length + zs.length ≤ sizeLine ∧ ∀ p, H p = none → Q (.ref p) (upd H p (.lst (xs ++ zs)))
theorem op_catK {X : Cx} : OpR X (binaryOp .Add) (rCatK X.K) := by
  intro pins s σ H x y v u Q I rx ry h
  obtain ⟨l, b, xs, zs, rfl, rfl, hH, hB, hz, q⟩ := h
  cases rx
  cases ry
  obtain ⟨its, r, ⟨⟨cls, dd, data, sl⟩, n, ho, hc, hdd, hd⟩, hl⟩ := I.list hH
  obtain ⟨its2, r2, ⟨⟨cls2, dd2, data2, sl2⟩, n2, ho2, hc2, hdd2, hd2⟩, hl2⟩ := I.list hB
  simp only at hc hdd hd hc2 hdd2 hd2
  subst hc hdd hd hc2 hdd2 hd2
  have h1 := r.length
  have h2 := r2.length
  refine concat_meets ⟨_, ho, rfl⟩ ⟨_, ho2, rfl⟩ noFill_list_add seq_list_add PySem.F.slot_list_add PySem.F.entry_list_add (PySem.F.args_list_add_2 _ _) (list_addW l b its.toArray its2.toArray n n2 none none sl sl2 (by rw [List.size_toArray, List.size_toArray]; omega)) ⟨ho, ho2, ?_⟩
  have ea : its.toArray ++ its2.toArray = (its ++ its2).toArray := by simp
  rw [ea]
  exact ⟨.ref _, _, I.lnew (t' := s.toks) (r.append r2) (by rw [List.length_append]; omega), rfl, q _ I.fresh⟩
theorem k_catK {H : Hp} {K : PySem.W.Frag} {Q : VK} {l b : Addr} {xs zs : List V} (h1 : SqL K H l xs) (h2 : SqL K H b zs) (hn : xs.length + zs.length ≤ 1000000) (q : ∀ p, H p = none → Q (.ref p) (upd H p (.lst (xs ++ zs)))) : rCatK K (.ref l) (.ref b) H Q :=
  ⟨l, b, xs, zs, rfl, rfl, h1, h2, Nat.le_trans hn (by decide), q⟩
/-! ### len(set(xs)) -/
/-- how many unlike numbers -/
def unlike (ns : List Int) : Nat := (PyProof.Rows.firstMet (fun i => ns.getD i 0) ns.length).length
theorem unlike_le (ns : List Int) : unlike ns ≤ ns.length := PyProof.Rows.firstMet_length_le _ _
def tLenSet (K : PySem.W.Frag) (ta : TE) : TE := fun σ H Q => ta σ H fun x H1 => ∃ (l : Addr) (ns : List Int), x = .ref l ∧ SqL K H1 l (ns.map V.int) ∧ ns.length ≤ 4000 ∧ Q (.int (unlike ns : Nat)) H1
theorem intsAre_vals : ∀ {ns : List Int} {us : List Value}, Vals (ns.map V.int) us → PyProof.Rows.IntsAre us ns
  | [], _, .nil => .nil
  | n :: ns, _, .cons r t => by
    obtain ⟨k, rfl⟩ := r
    exact .cons n k (intsAre_vals t)
theorem pe_lenSet {X : Cx} {a : Expr} {ta : TE} {p p2 q pos : Pos} (hg : Gl X "len") (hm : X.mg "len" = none) (hg2 : Gl X "set") (hm2 : X.mg "set" = none) (ha : PE X a ta) (hc : X.calm = true := by rfl)
    (na : starEach [a] X.env = (false, eval a X.env) :: starEach [] X.env := by rfl) : PE X (.Call (.Name "len" p) [.Call (.Name "set" p2) [a] [] q] [] pos) (tLenSet X.K ta) := by
  refine ⟨fun pins s σ H Q I h => ?_⟩
  refine Call_ (ld_blt I hg hm boot_len ?_)
  refine PyProof.Rows.callWith_builtin1 (PyProof.Rows.args_cons ?_ rfl) rfl rfl
  refine Call_ (ld_blt I hg2 hm2 boot_set ?_)
  refine PyProof.Rows.callWith_type1 (PyProof.Rows.args_cons (thn (ha.run pins s σ H _ I h) fun v s1 ⟨x, H1, I1, r1, q1⟩ => PyProof.Rows.args_nil ?_) na) na rfl
  obtain ⟨l, ns, rfl, hq, hl, q1⟩ := q1
  cases r1
  obtain ⟨its, r, pl, hz⟩ := I1.list hq
  have hlen : its.toArray.size = ns.length := by rw [List.size_toArray, ← r.length, List.length_map]
  refine call_set_list (I1.ok.hd hc) pl.isList (by simpa using intsAre_vals r) (by rw [hlen]; unfold scanBound; omega) fun h' tk hS hk => ?_
  refine PyProof.Rows.args_nil ?_
  rw [hlen] at hS
  obtain ⟨o, es, ep, t, ho, hex, hd, _, _, _, hf, hn⟩ := hS
  have I2 : Inv X pins σ H1 { s1 with heap := h', toks := tk } := I1.kept fun b o e => hk b o (Heap.lt_size e) e
  have hu := unlike_le ns
  unfold unlike at hu q1
  exact call_len_set ho hex hd hf (by rw [hn] <;> omega) ⟨.int ((PyProof.Rows.firstMet (fun i => ns.getD i 0) ns.length).length : Nat), H1, I2.tok _, ⟨_, by rw [hn]⟩, q1⟩
section
variable {σ : L2.St} {H : Hp} {Q : VK} {K : PySem.W.Frag} {te : TE}
def LenSetK (K : PySem.W.Frag) (Q : VK) (x : V) (H : Hp) : Prop := ∃ (l : Addr) (ns : List Int), x = .ref l ∧ SqL K H l (ns.map V.int) ∧ ns.length ≤ 4000 ∧ Q (.int (unlike ns : Nat)) H
theorem m_lenSet (h : te σ H (LenSetK K Q)) : tLenSet K te σ H Q := h
theorem m_lenSetE {l : Addr} {ns : List Int} (hS : SqL K H l (ns.map V.int)) (hl : ns.length ≤ 4000) (q : Q (.int (unlike ns : Nat)) H) : LenSetK K Q (.ref l) H := ⟨l, ns, rfl, hS, hl, q⟩
end
/-! ### errors: raised, let through, caught -/
section
variable {X : Cx} {E : XK} {W : WX} {k j : Nat} {ps : List Str} {sp : Sp} {x : Str} {p pos : Pos} {e : Expr} {es : List Expr} {t : TA}
theorem passX (tk : Takes X (fun cls d _ H => E cls d H)) : Passes (L2.CX X.prog X.w) X E := passes_call tk fun _ _ _ _ h => h
/-- raise C('..') -/
def tRz (W : WX) (C : Addr) : TS := fun _ σ H => W (.ref C) none σ H
/-- what stands of the class x: it can be raised -/
structure ExF (K : PySem.W.Frag) (mg : Str → Option Value) (x : Str) : Prop where
  gl : mg x = some (.ref (He.ga K x))
  ex : PySem.W.excIn K (He.ga K x) He.veBase "ValueError.__new__" = true
  kp : PySem.W.keepIn K (.ref (He.ga K x)) = true
  sb : PySem.W.subIn K (.ref (He.ga K x)) (.type "BaseException") = some true
  ty : PySem.W.typeIn K (.ref (He.ga K x)) = some (.type "type")
theorem ps_rz {m : Str} {j : Nat} {p2 pos2 : Pos} (F : ExF X.K X.mg x) (tk : Takes X W) (hc : X.calm = true := by rfl) (hg : Gl X x := by rfl) (hdb : (x == ("__debug__" : Str)) = false := by decide) :
    PS X (.Raise (some (.Call (.Name x p) [.Constant (.str m) j p2] [] pos)) none pos2) (tRz W (He.ga X.K x)) :=
  ps_raise hc tk (pmk_own PySem.F.excBase_ValueError F.ex F.gl F.kp (raises_own F.sb F.ty) hg hdb)
theorem k_rz {D : Ends} {C : Addr} {σ : L2.St} {H : Hp} (h : W (.ref C) none σ H) : tRz W C D σ H := h
/-- a call within a try's body -/
theorem pe_callFS (F : Okf X.prog X.w X.K X.mg X.base (L2.CX X.prog X.w) k x ps sp) (hr : Room j X.A) (hk : k ≤ j) (hg : Gl X x) (tk : Takes X W)
    (ha : PA X (e :: es) t) (hdb : (x == ("__debug__" : Str)) = false := by decide) (he : starEach (e :: es) X.env = (false, eval e X.env) :: starEach es X.env := by rfl) (hpl : (backTo pos (starEach es X.env)).any (·.1) = false := by rfl) :
    PE X (.Call (.Name x p) (e :: es) [] pos) (tCallS sp (WE W) t) := by
  obtain ⟨fd, _, hb, ok⟩ := F.ex
  exact pe_callS ok (hr.mono hk) hg F.gl F.kp hb (fun σ => passAt tk σ) ha hdb he hpl
theorem m_callS {E : L2.St → XK} {σ : L2.St} {H : Hp} {Q : VK} (h : t σ H fun vs H1 => sp vs H1 Q (E σ)) : tCallS sp E t σ H Q := h
/-- try: .. except C as n | except C -/
def tTryAs (K : PySem.W.Frag) (c : Value) (i : Nat) (tb : WX → TS) (ts : Addr → Value → Option Addr → TS) (Wout : WX) : TS := fun D σ H => tb (wAs K c i ts Wout D) D σ H
def tTryOnly (K : PySem.W.Frag) (c : Value) (tb : WX → TS) (ts : Addr → Value → Option Addr → TS) (Wout : WX) : TS := fun D σ H => tb (wOnly K c ts Wout D) D σ H
section
variable {K : PySem.W.Frag} {c cls : Value} {d : Option Addr} {i : Nat} {tb : WX → TS} {ts : Addr → Value → Option Addr → TS} {Wout : WX} {σ : L2.St} {H : Hp} {rt : VK} {nx bk ct : L2.St → Hp → Prop}
theorem m_tryAs (h : tb (wAs K c i ts Wout (Ends.mk nx rt bk ct)) (Ends.mk nx rt bk ct) σ H) : tTryAs K c i tb ts Wout (Ends.mk nx rt bk ct) σ H := h
theorem m_tryOnly (h : tb (wOnly K c ts Wout (Ends.mk nx rt bk ct)) (Ends.mk nx rt bk ct) σ H) : tTryOnly K c tb ts Wout (Ends.mk nx rt bk ct) σ H := h
theorem m_caught (he : PySem.W.exmOne K cls c = some true) (h : ∀ a, H a = none → ts a cls d (Ends.mk (fun σ' H' => nx (σ'.set i none) H') rt (fun σ' H' => bk (σ'.set i none) H') (fun σ' H' => ct (σ'.set i none) H')) (σ.set i (some (.ref a))) H) :
    WE (wAs K c i ts Wout (Ends.mk nx rt bk ct)) σ cls d H := ⟨true, he, fun _ => h, fun z => Bool.noConfusion z⟩
theorem m_passed (he : PySem.W.exmOne K cls c = some false) (h : Wout cls d σ H) : WE (wAs K c i ts Wout (Ends.mk nx rt bk ct)) σ cls d H := ⟨false, he, fun z => Bool.noConfusion z, fun _ => h⟩
theorem m_caughtO (he : PySem.W.exmOne K cls c = some true) (h : ∀ a, H a = none → ts a cls d (Ends.mk nx rt bk ct) σ H) :
    WE (wOnly K c ts Wout (Ends.mk nx rt bk ct)) σ cls d H := ⟨true, he, fun _ => h, fun z => Bool.noConfusion z⟩
theorem m_passedO (he : PySem.W.exmOne K cls c = some false) (h : Wout cls d σ H) : WE (wOnly K c ts Wout (Ends.mk nx rt bk ct)) σ cls d H := ⟨false, he, fun z => Bool.noConfusion z, fun _ => h⟩
end
/-! ### several except clauses, each with a name -/
def endN (i : Nat) (D : Ends) : Ends := Ends.mk (fun τ G => D.nx (τ.set i none) G) D.rt (fun τ G => D.bk (τ.set i none) G) (fun τ G => D.ct (τ.set i none) G)
def wManyA (K : PySem.W.Frag) (Wout : WX) (D : Ends) : List (Value × Nat × (Addr → Value → Option Addr → TS)) → WX
  | [] => Wout
  | (c, i, ts) :: l => fun cls d τ G => ∃ b, PySem.W.exmOne K cls c = some b ∧ (b = true → ∀ x, G x = none → ts x cls d (endN i D) (τ.set i (some (.ref x))) G) ∧ (b = false → wManyA K Wout D l cls d τ G)
inductive HdsA (X : Cx) : List ExceptHandler → List (Value × Nat × (Addr → Value → Option Addr → TS)) → Prop
  | nil : HdsA X [] []
  | cons {y n : Str} {c : Value} {i : Nat} {ts : Addr → Value → Option Addr → TS} {st : Stmt} {sts : List Stmt} {q1 q2 : Pos} {hs : List ExceptHandler} {l : List (Value × Nat × (Addr → Value → Option Addr → TS))} (hi : X.N[i]? = some n) (hl : X.env.kindOf n = some .local) (hc : Names X y c)
      (hb : ∀ (x : Addr) (ob : Obj) (cls : Value) (d : Option Addr) (pn : List (Addr × Obj)), Zc cls d ob → (∃ vs, ob.data = .fields vs) → X.base.get? x = none → PSs (X.suite x ((x, ob) :: pn)) (st :: sts) (ts x cls d)) (r : HdsA X hs l) : HdsA X (.ExceptHandler (some (.Name y q1)) (some n) (st :: sts) q2 :: hs) ((c, i, ts) :: l)
theorem ps_tryManyA {X : Cx} {body : List Stmt} {h₀ : ExceptHandler} {hds : List ExceptHandler} {l : List (Value × Nat × (Addr → Value → Option Addr → TS))} {pos : Pos} {tb : WX → TS} {Wout : WX} (stk : X.stack = X.env :: X.outer) (lf : X.env.frame = some X.env.locals) (nd : X.N.Nodup) (tk : Takes X Wout)
    (hb : ∀ (W : WX) (pn : List (Addr × Obj)) (xe : Value → Shared → Prop), Takes (X.tr pn xe) W → PassesOwn (model X.prog X.w) X.A X.env xe → PSs (X.tr pn xe) body (tb W)) (hh : HdsA X (h₀ :: hds) l) : PS X (.Try body (h₀ :: hds) [] [] pos) (fun D τ G => tb (wManyA X.K Wout D l) D τ G) := by
  refine ⟨fun pins s τ G D I h => ?_⟩
  have ok0 := I.ok
  have fr0 : X.A.frames = some (X.env :: X.outer) := by rw [ok0.frames, stk]
  refine wpAny_Try_except (wpAny_mono ((hb (wManyA X.K Wout D l) (X.pn ++ pins) (fun e s₁ => wpAny (model X.prog X.w) X.A (noteFrame e X.env) (fun _ s₂ => wpAny (model X.prog X.w) X.A (setFlight e none) (fun _ s₃ => wpAny (model X.prog X.w) X.A (handleBy e X.env (h₀ :: hds)) (SP X pins D) X.xe s₃) X.xe s₂) X.xe s₁) (fun u s' xx => ?_) PassesOwn.looking).run [] s τ G D (I.toTry _) h) (fun f s1 hq => ?_) (fun e s1 he => he))
  · obtain ⟨x, B, si, pins2, τ1, G1, cls, d, rfl, j1, nb, up1, sk1, nx, eos, eag, wish⟩ := xx
    have j0 : Inv X pins τ1 G1 si := j1.ofTry ok0
    have sk2 : Sky B (X.env :: X.outer) x (Zc cls d) X.env.locals s'.heap := by rw [← stk]; exact sk1
    show wpAny (model X.prog X.w) X.A (noteFrame (.ref x) X.env) _ _ _; refine Sky.land Zc.steady fr0 lf sk2 fun h3 fl3 up3 => ?_
    have j3 : Inv X pins τ1 G1 { s' with heap := h3 } := j0.landed nb fl3.1 (up1.trans up3) eos eag
    obtain ⟨o3, vs3, ho3, hz3, hd3⟩ := fl3.there
    have nfr : x ∉ frs (X.env :: X.outer) := fun hm => by
      obtain ⟨_, o2, e2, hnf⟩ := fl3.2.2.1.mem hm; rw [ho3] at e2; cases e2; exact hnf _ hd3
    have nL : x ≠ X.env.locals := fun z => nfr (List.mem_filterMap.mpr ⟨X.env, List.mem_cons_self, by rw [lf, z]⟩)
    have nF : x ∉ X.fs := fun hm => by
      obtain ⟨e, he, q⟩ := List.mem_filterMap.mp hm; exact nfr (List.mem_filterMap.mpr ⟨e, List.mem_cons_of_mem _ he, q⟩)
    have suite3 := j3.suite ho3 hd3 nx nL nF
    have hbn : X.base.get? x = none := by
      cases e : X.base.get? x with
      | none => rfl
      | some ob =>
        have h1 := (j0.bs x ob e).1
        have h2 := nb x ob h1 (by rw [stk]; exact nfr)
        rw [fl3.2.1] at h2; cases h2
    have go : ∀ {hs' : List ExceptHandler} {l' : List (Value × Nat × (Addr → Value → Option Addr → TS))}, HdsA X hs' l' → wManyA X.K Wout D l' cls d τ1 G1 → wpAny (model X.prog X.w) X.A (handleBy (.ref x) X.env hs') (SP X pins D) X.xe { s' with heap := h3 } := by
      intro hs' l' hk
      induction hk with
      | nil =>
        intro wish
        refine wpAny_handleBy_nil ?_; obtain ⟨k1, k2, k3, oe, vs, tt, oT, ts', he, hz, hd, h1, hr⟩ := id fl3
        unfold PySem.passOn; refine wpAny_bind (wpAny_field he hd h1 ?_)
        rw [if_neg (show ¬ ((Value.ref tt == Value.none) = true) from by simp)]
        have fin : wpAny (model X.prog X.w) X.A (setFlight (.ref x) X.env.frame) (fun _ s4 => wpAny (model X.prog X.w) X.A (throw (.ref x) : Sem Flow) (SP X pins D) X.xe s4) X.xe { s' with heap := h3 } := by
          rw [lf]; refine HandSPX.setFlight_upZ fl3 fun h4 hh4 up4 => wpAny_throw (tk _ _ ?_)
          exact ⟨x, B, si, pins, τ1, G1, cls, d, rfl, j0, nb, (up1.trans up3).trans up4, .inr (.inr (by rw [stk]; exact hh4)), nx, eos, eag, wish⟩
        first | exact wpAny_bind (wpAny_pure (wpAny_bind fin)) | exact wpAny_bind fin
      | @cons y n c i ts st sts q1 q2 hs2 l2 hi hl hc hsu r ih =>
        intro wish
        obtain ⟨b, hb1, yes, no⟩ := wish
        refine wpAny_handleBy_cons (codeAny_handlers_test ?_) (by intro q; cases q); have lt : PySem.W.Looks (model X.prog X.w) h3 (typeOf (.ref x)) cls := fun A Q E s k q => wpAny_typeOf_ref (k _ _ ho3) (by rw [hz3.1]; exact q)
        have lm := PySem.W.exm_one (M := model X.prog X.w) (j3.kIn) lt hb1
        have test : ∀ {Q : Value → Shared → Prop} {E : Value → Shared → Prop}, Q c { s' with heap := h3 } → wpAny (model X.prog X.w) (X.A.mark (some (.ref x))) (eval (.Name y q1) X.env) Q E { s' with heap := h3 } := fun {Q E} q => by
          obtain ⟨hg, hdbg, hm | ⟨hm, hv, hnn⟩⟩ := hc
          · exact ld_glob (X := X.suite x ((x, o3) :: (X.pn ++ pins))) suite3 hg hm q hdbg
          · exact ld_blt (X := X.suite x ((x, o3) :: (X.pn ++ pins))) suite3 hg hm hv q hnn hdbg
        refine test (lm.here ?_)
        cases b with
        | true =>
          refine codeAny_handlers_suite_as (HandSPX.lands_againZ fl3 fun h4 fl4 up4 => ?_)
          have j4 : Inv X pins τ1 G1 { s' with heap := h4 } := j0.landed nb fl4.1 ((up1.trans up3).trans up4) eos eag
          obtain ⟨o4, vs4, ho4, hz4, hd4⟩ := fl4.there
          refine store_ok (X := X.suite x ((x, o4) :: (X.pn ++ pins))) (v := .ref x) (j4.suite ho4 hd4 nx nL nF) nd hi (.inl hl) rfl (fun s5 S5 => ?_) (.inr hl)
          refine wpAny_mono ((hsu x o4 cls d (X.pn ++ pins) hz4 ⟨_, hd4⟩ hbn).run [] s5 _ G1 _ S5 (yes rfl x nx)) (fun f s6 hq => ?_) (fun _ _ z => False.elim z)
          have fin : ∀ {τ6 : L2.St} {G6 : Hp} {Q : Shared → Prop}, Inv (X.suite x ((x, o4) :: (X.pn ++ pins))) [] τ6 G6 s6 → (∀ s7, Inv X pins (τ6.set i none) G6 s7 → Q s7) → wpAny (model X.prog X.w) X.A (do bindName X.env n .none; unbindBehindTheSuite X.env n q2) (fun _ s7 => Q s7) X.xe s6 := fun {τ6 G6 Q} S6 hq => gone_ok (S6.unsuite ok0) nd hi hl hq
          cases f with
          | next => obtain ⟨τ6, G6, S6, q6⟩ := hq; exact fin S6 fun s7 J7 => ⟨_, _, J7, q6⟩
          | brk => obtain ⟨τ6, G6, S6, q6⟩ := hq; exact fin S6 fun s7 J7 => ⟨_, _, J7, q6⟩
          | cont => obtain ⟨τ6, G6, S6, q6⟩ := hq; exact fin S6 fun s7 J7 => ⟨_, _, J7, q6⟩
          | ret u => obtain ⟨v6, τ6, G6, S6, r6, q6⟩ := hq; exact fin S6 fun s7 J7 => ⟨_, _, _, J7, r6, q6⟩
        | false => exact ih (no rfl)
    exact go hh wish
  · cases f with
    | next => obtain ⟨τ1, G1, j1, q⟩ := hq; exact wpAny_execs_nil ⟨τ1, G1, j1.ofTry ok0, q⟩
    | brk => obtain ⟨τ1, G1, j1, q⟩ := hq; exact ⟨τ1, G1, j1.ofTry ok0, q⟩
    | cont => obtain ⟨τ1, G1, j1, q⟩ := hq; exact ⟨τ1, G1, j1.ofTry ok0, q⟩
    | ret u => obtain ⟨v, τ1, G1, j1, r, q⟩ := hq; exact ⟨v, τ1, G1, j1.ofTry ok0, r, q⟩
def tTryM (K : PySem.W.Frag) (tb : WX → TS) (l : List (Value × Nat × (Addr → Value → Option Addr → TS))) (Wout : WX) : TS := fun D τ G => tb (wManyA K Wout D l) D τ G
section
variable {K : PySem.W.Frag} {c cls : Value} {d : Option Addr} {i : Nat} {tb : WX → TS} {ts : Addr → Value → Option Addr → TS} {Wout : WX} {σ : L2.St} {H : Hp} {rt : VK} {nx bk ct : L2.St → Hp → Prop} {l : List (Value × Nat × (Addr → Value → Option Addr → TS))}
theorem m_tryM (h : tb (wManyA K Wout (Ends.mk nx rt bk ct) l) (Ends.mk nx rt bk ct) σ H) : tTryM K tb l Wout (Ends.mk nx rt bk ct) σ H := h
theorem m_caughtM (he : PySem.W.exmOne K cls c = some true) (h : ∀ a, H a = none → ts a cls d (Ends.mk (fun σ' H' => nx (σ'.set i none) H') rt (fun σ' H' => bk (σ'.set i none) H') (fun σ' H' => ct (σ'.set i none) H')) (σ.set i (some (.ref a))) H) :
    WE (wManyA K Wout (Ends.mk nx rt bk ct) ((c, i, ts) :: l)) σ cls d H := ⟨true, he, fun _ => h, fun z => Bool.noConfusion z⟩
theorem m_nextM (he : PySem.W.exmOne K cls c = some false) (h : WE (wManyA K Wout (Ends.mk nx rt bk ct) l) σ cls d H) : WE (wManyA K Wout (Ends.mk nx rt bk ct) ((c, i, ts) :: l)) σ cls d H := ⟨false, he, fun z => Bool.noConfusion z, fun _ => h⟩
end
/-- isinstance(e, c), e the error that the suite holds -/
def rIsX (K : PySem.W.Frag) (cls : Value) (d : Option Addr) (a : Addr) : List V → Hp → VK → Prop := fun xs H Q => ∃ D, cls = .ref D ∧ d = none ∧ ExcC K D ∧ rIsE K D a xs H Q
theorem call_isX {a : Addr} {oe : Obj} {cls : Value} {d : Option Addr} {pn : List (Addr × Obj)} (hz : Zc cls d oe) (hf : ∃ vs, oe.data = .fields vs) : CallR (X.suite a ((a, oe) :: pn)) (.builtin "isinstance") (rIsX X.K cls d a) := by
  intro pins s σ H xs us Q I r h
  obtain ⟨D, rfl, rfl, C, h⟩ := h
  exact call_isE C hz hf pins s σ H xs us Q I r h
theorem k_isX {K : PySem.W.Frag} {D C a : Addr} {b : Bool} {H : Hp} {Q : VK} (h : ExcC K D) (e : PySem.W.kitOne K (.ref D) (.ref C) = some b) (q : Q (.bl b) H) : rIsX K (.ref D) none a [.ref a, .ref C] H Q :=
  ⟨D, rfl, rfl, h, .ref C, .ref C, b, rfl, fun _ r => r, e, q⟩
theorem k_isXty {K : PySem.W.Frag} {D a : Addr} {n : String} {b : Bool} {H : Hp} {Q : VK} (h : ExcC K D) (e : PySem.W.kitOne K (.ref D) (.type n) = some b) (q : Q (.bl b) H) : rIsX K (.ref D) none a [.ref a, .ty n] H Q :=
  ⟨D, rfl, rfl, h, .ty n, .type n, b, rfl, fun _ r => r, e, q⟩
end
/-- isinstance(e, (c1, c2, ..)), all of them own classes -/
def rIsXT (K : PySem.W.Frag) (cls : Value) (d : Option Addr) (a : Addr) : List V → Hp → VK → Prop := fun xs H Q => ∃ (D tp : Addr) (cs : List Addr) (b : Bool), cls = .ref D ∧ d = none ∧ ExcC K D ∧ xs = [.ref a, .ref tp] ∧ H tp = some (.tup (cs.map V.ref)) ∧ PySem.W.kitAny K (.ref D) (cs.map Value.ref) = some b ∧ Q (.bl b) H
theorem clsV_all : ∀ cs : List Addr, Paired ClsV (cs.map V.ref) (cs.map Value.ref)
  | [] => .nil
  | c :: cs => .cons (.own c) (clsV_all cs)
theorem call_isXT {X : Cx} {a : Addr} {oe : Obj} {cls : Value} {d : Option Addr} {pn : List (Addr × Obj)} (hz : Zc cls d oe) (hf : ∃ vs, oe.data = .fields vs) : CallR (X.suite a ((a, oe) :: pn)) (.builtin "isinstance") (rIsXT X.K cls d a) := by
  intro pins s σ H xs us Q I r h
  obtain ⟨D, tp, cs, b, rfl, rfl, C, rfl, hT, e, q⟩ := h
  obtain ⟨u1, u2, rfl, r1, r2⟩ := vals2 r
  cases (show u1 = Value.ref a from r1)
  cases (show u2 = Value.ref tp from r2)
  obtain ⟨hget, _⟩ := I.pin (a, oe) (List.mem_append.mpr (.inl List.mem_cons_self))
  obtain ⟨vs, hv⟩ := hf
  have J : PySem.W.InstAt s.heap a oe D none := by
    obtain ⟨oc, od, oda, osl⟩ := oe
    obtain ⟨h1, h2⟩ := hz
    dsimp only at h1 h2 hv
    subst h1 h2 hv
    exact ⟨hget, rfl, rfl, trivial⟩
  obtain ⟨_, its, rv, o, h1, h2, n, h3⟩ := (show ObjOk X.prog X.w H s.heap tp (.tup (cs.map V.ref)) from I.hok tp _ hT)
  have e3 := ClsV.all (clsV_all cs) rv
  subst e3
  obtain ⟨oc, od, dt, sl⟩ := o
  simp only at h2 h3
  subst h2 h3
  exact PySem.W.kia_tup (PySem.W.handS_kitx_exc C.hg C.hk C.hs C.hd C.ha C.hn C.ht C.hm) I.kIn J h1 e (fun z => nomatch z) fun tk => ⟨.bl b, H, I.kept (t' := tk) fun _ _ z => z, rfl, q⟩
theorem kitAny_no {K : PySem.W.Frag} {t : Value} : ∀ us : List Value, (∀ u ∈ us, PySem.W.kitOne K t u = some false) → PySem.W.kitAny K t us = some false
  | [], _ => rfl
  | u :: us, h => kitAny_cons (h u List.mem_cons_self) (fun _ => kitAny_no us fun x hx => h x (List.mem_cons_of_mem _ hx)) (fun z => Bool.noConfusion z)
theorem k_isXT {K : PySem.W.Frag} {D a tp : Addr} {b : Bool} {H : Hp} {Q : VK} (cs : List Addr) (hT : H tp = some (.tup (cs.map V.ref))) (h : ExcC K D) (e : PySem.W.kitAny K (.ref D) (cs.map Value.ref) = some b) (q : Q (.bl b) H) : rIsXT K (.ref D) none a [.ref a, .ref tp] H Q :=
  ⟨D, tp, cs, b, rfl, rfl, h, rfl, hT, e, q⟩
/-! ### the head's facts, with what is asked of errors -/
inductive Fx where
  | excC (x : Str)
  | insC (x : Str)
  | kit (x y : Str) (b : Bool)
  | kitT (x : Str) (t : String) (b : Bool)
  | exm (x y : Str) (b : Bool)
/-- an own class of which isinstance tells -/
structure InsC (K : PySem.W.Frag) (C : Addr) : Prop where
  cl : Cls K C
  ha : PySem.W.findIn K (.ref C) "__class__" = some (some (.builtin "object.__class__"))
  hn : PySem.W.specialIn K (.builtin "object.__class__") "__get__" = some (some (.builtin "getset_descriptor.__get__"))
  ht : PySem.W.takesIn K (.builtin "object.__class__") = some true
  hm : PySem.W.mroIn K C (.type "object") = some true
def Fx.ok (K : PySem.W.Frag) : Fx → Bool
  | .insC x => (He.Fa.cls x).ok K && (He.eqO (PySem.W.findIn K (.ref (He.ga K x)) "__class__") (some (some (.builtin "object.__class__"))) &&
      (He.eqO (PySem.W.specialIn K (.builtin "object.__class__") "__get__") (some (some (.builtin "getset_descriptor.__get__"))) && (decide (PySem.W.takesIn K (.builtin "object.__class__") = some true) && decide (PySem.W.mroIn K (He.ga K x) (.type "object") = some true))))
  | .excC x => He.eqO (PySem.W.findIn K (.ref (He.ga K x)) "__getattribute__") (some (some (.builtin "BaseException.__getattribute__"))) && (He.eqO (PySem.W.findIn K (.ref (He.ga K x)) "__getattr__") (some none) &&
      (decide (PySem.W.subIn K (.ref (He.ga K x)) (.type "BaseException") = some true) && (PySem.W.hasDictIn K (He.ga K x) && (He.eqO (PySem.W.findIn K (.ref (He.ga K x)) "__class__") (some (some (.builtin "object.__class__"))) &&
      (He.eqO (PySem.W.specialIn K (.builtin "object.__class__") "__get__") (some (some (.builtin "getset_descriptor.__get__"))) && (decide (PySem.W.takesIn K (.builtin "object.__class__") = some true) && decide (PySem.W.mroIn K (He.ga K x) (.type "object") = some true)))))))
  | .kit x y b => decide (PySem.W.kitOne K (.ref (He.ga K x)) (.ref (He.ga K y)) = some b)
  | .kitT x t b => decide (PySem.W.kitOne K (.ref (He.ga K x)) (.type t) = some b)
  | .exm x y b => decide (PySem.W.exmOne K (.ref (He.ga K x)) (.ref (He.ga K y)) = some b)
theorem Fx.excC_ok {K : PySem.W.Frag} {x : Str} (c : (Fx.excC x).ok K = true) : ExcC K (He.ga K x) := by
  obtain ⟨c1, c⟩ := He.ba c
  obtain ⟨c2, c⟩ := He.ba c
  obtain ⟨c3, c⟩ := He.ba c
  obtain ⟨c4, c⟩ := He.ba c
  obtain ⟨c5, c⟩ := He.ba c
  obtain ⟨c6, c⟩ := He.ba c
  obtain ⟨c7, c8⟩ := He.ba c
  exact ⟨He.eqO_ok c1, He.eqO_ok c2, of_decide_eq_true c3, c4, He.eqO_ok c5, He.eqO_ok c6, of_decide_eq_true c7, of_decide_eq_true c8⟩
theorem Fx.insC_ok {K : PySem.W.Frag} {x : Str} (c : (Fx.insC x).ok K = true) : InsC K (He.ga K x) := by
  obtain ⟨c1, c⟩ := He.ba c
  obtain ⟨c2, c⟩ := He.ba c
  obtain ⟨c3, c⟩ := He.ba c
  obtain ⟨c4, c5⟩ := He.ba c
  exact ⟨He.cls_ok c1, He.eqO_ok c2, He.eqO_ok c3, of_decide_eq_true c4, of_decide_eq_true c5⟩
theorem k_isOwn {K : PySem.W.Frag} {C D a d : Addr} {fs : List (Str × V)} {b : Bool} {H : Hp} {Q : VK} (i : InsC K C) (e : H a = some (.ins C d fs)) (k : PySem.W.kitOne K (.ref C) (.ref D) = some b) (q : Q (.bl b) H) : rIsi K [.ref a, .ref D] H Q :=
  ⟨.ref a, .ref D, .ref C, .ref D, b, rfl, .own D, .base (.ins e i.cl i.ha i.hn i.ht i.hm), k, q⟩
theorem Fx.kit_ok {K : PySem.W.Frag} {x y : Str} {b : Bool} (c : (Fx.kit x y b).ok K = true) : PySem.W.kitOne K (.ref (He.ga K x)) (.ref (He.ga K y)) = some b := of_decide_eq_true c
theorem Fx.kitT_ok {K : PySem.W.Frag} {x : Str} {t : String} {b : Bool} (c : (Fx.kitT x t b).ok K = true) : PySem.W.kitOne K (.ref (He.ga K x)) (.type t) = some b := of_decide_eq_true c
theorem Fx.exm_ok {K : PySem.W.Frag} {x y : Str} {b : Bool} (c : (Fx.exm x y b).ok K = true) : PySem.W.exmOne K (.ref (He.ga K x)) (.ref (He.ga K y)) = some b := of_decide_eq_true c
abbrev AlF : Type := He.AlD × Bool
def obsF (fa : List He.Fa) (fn : List He.DefD) (fx : List Fx) (K : PySem.W.Frag) : AlF := (He.obsD fa fn K, fx.all fun f => f.ok K)
def SaysF (fa : List He.Fa) (fn : List He.DefD) (fx : List Fx) (K : PySem.W.Frag) : Prop := obsF fa fn fx K = (He.valD fn, true)
def obsFG (n : Nat) (fa : List He.Fa) (fn : List He.DefD) (fx : List Fx) (g : Addr → Option Obj) : AlF := obsF fa fn fx (He.frG g (He.asD g n))
def hookF (n : Nat) (fa : List He.Fa) (fn : List He.DefD) (fx : List Fx) : PySem.W.Hook where
  α := AlF
  obs := fun s => obsFG n fa fn fx s.heap.get?
  val := fun _ => (He.valD fn, true)
  says := fun _ h => ∃ K : PySem.W.Frag, K.In h ∧ SaysF fa fn fx K
  of := fun _ _ e => ⟨_, He.frG_in, e⟩
  keeps := fun _ _ _ ⟨K, hK, c⟩ k => ⟨K, PySem.W.Frag.In.keeps hK k, c⟩
theorem obsFG_eq {n : Nat} {fa : List He.Fa} {fn : List He.DefD} {fx : List Fx} {g : Addr → Option Obj} {s : Shared} (h : ∀ a, g a = s.heap.get? a) : obsFG n fa fn fx g = (hookF n fa fn fx).obs s := by
  have e : g = s.heap.get? := funext h
  rw [e] <;> rfl
theorem SaysF.d {fa : List He.Fa} {fn : List He.DefD} {fx : List Fx} {K : PySem.W.Frag} (c : SaysF fa fn fx K) : He.SaysD fa fn K := congrArg (fun z : AlF => z.1) c
theorem SaysF.fx {fa : List He.Fa} {fn : List He.DefD} {fx : List Fx} {K : PySem.W.Frag} (c : SaysF fa fn fx K) (i : Nat) {f : Fx} (h : fx[i]? = some f := by rfl) : f.ok K = true := by
  have c1 : (fx.all fun f => f.ok K) = true := congrArg (fun z : AlF => z.2) c
  exact List.all_eq_true.mp c1 f (List.mem_of_getElem? h)
end Tw
namespace Tw
open PySem PySem.Spec PyProof.Rows L2 NdefX LamX
/-! ### closures: captured cells, tracked once the maker has returned -/
theorem relV_fun : ∀ {v v' : V} {u : Value}, L2.RelV v u → L2.RelV v' u → v = v' := by
  intro v v' u a b
  cases v <;> cases v' <;> simp only [L2.RelV] at a b <;> first | rfl | (subst a; obtain ⟨_, b⟩ := b; cases b; done) | (subst a; cases b; rfl) | (subst a; cases b; done) | (obtain ⟨_, rfl⟩ := a; obtain ⟨_, b⟩ := b; cases b; rfl) | (obtain ⟨_, rfl⟩ := a; obtain ⟨_, b⟩ := b; cases b; done) | (obtain ⟨_, rfl⟩ := a; cases b; done)
def CellO (c : Addr) (v : V) : HO := .ext fun h => ∃ u, L2.RelV v u ∧ h.IsCell c (some u)
def hide (C : Addr → Prop) [DecidablePred C] (H : Hp) : Hp := fun b => if C b then none else H b
def unhide (C : Addr → Prop) [DecidablePred C] (H H' : Hp) : Hp := fun b => if C b then H b else H' b
section
variable {P : Program} {w : World} {K : PySem.W.Frag} {mg : Str → Option Value} {base : Heap} {A : Around} {outer : List Env} {s s' : Shared} {H H' H3 : Hp} {C : Addr → Prop} [DecidablePred C]
theorem hide_in {b : Addr} (h : C b) : hide C H b = none := if_pos h
theorem hide_out {b : Addr} (h : ¬ C b) : hide C H b = H b := if_neg h
theorem unhide_in {b : Addr} (h : C b) : unhide C H H' b = H b := if_pos h
theorem unhide_out {b : Addr} (h : ¬ C b) : unhide C H H' b = H' b := if_neg h
/-- all that is hidden are cells -/
def Cells (C : Addr → Prop) (H : Hp) : Prop := ∀ b, C b → ∃ v, H b = some (CellO b v)
theorem Cells.not (hC : Cells C H) {b : Addr} {o : HO} (e : H b = some o) (n : ∀ φ, o ≠ .ext φ) : ¬ C b := fun z => by
  obtain ⟨v, q⟩ := hC b z
  rw [e] at q
  exact n _ (Option.some.inj q)
theorem hok_hide (ok : HOk P w H s.heap) (hC : Cells C H) : HOk P w (hide C H) s.heap := fun a o e => by
  by_cases ha : C a
  · rw [hide_in ha] at e; cases e
  · rw [hide_out ha] at e
    exact (ok a o e).stay (fun _ _ _ q => q) (fun b q => (hide_out (hC.not q fun _ z => nomatch z)).trans q) fun b xs q => (hide_out (hC.not q fun _ z => nomatch z)).trans q
theorem env0_hide (e0 : Env0 P w K mg base A outer s H) (hC : Cells C H) : Env0 P w K mg base A outer s (hide C H) := by
  have hn : ∀ {b}, H b = none → hide C H b = none := fun {b} q => by
    by_cases hb : C b
    · exact hide_in hb
    · exact (hide_out hb).trans q
  exact ⟨e0.frames, e0.mod, fun b o e => ⟨(e0.bs b o e).1, hn (e0.bs b o e).2⟩, e0.bsz, e0.funs, fun b hb => hn (e0.frf b hb), hok_hide e0.hok hC, e0.bare⟩
theorem cellO_get {c : Addr} {v : V} (ok : HOk P w H s.heap) (e : H c = some (CellO c v)) : ∃ u, L2.RelV v u ∧ s.heap.IsCell c (some u) := (ok c _ e).1
theorem ce_unhide {Q : VK} {u : Value} (ok : HOk P w H s.heap) (hC : Cells C H) (h : CE outer P w (hide C H) s (fun v H' => Q v (unhide C H H')) u s') : CE outer P w H s Q u s' := by
  obtain ⟨v, H', os, bare, un, ok', r, q⟩ := h
  have some_out : ∀ {b}, H b = none → ¬ C b := fun {b} n z => by
    obtain ⟨v, e⟩ := hC b z
    rw [n] at e; cases e
  have hn : ∀ {b}, H b = none → hide C H b = none := fun {b} n => (hide_out (some_out n)).trans n
  have gone : ∀ {b}, C b → H' b = none := fun {b} z => by
    obtain ⟨v, e⟩ := hC b z
    obtain ⟨_, _, o, ho, _⟩ := cellO_get ok e
    exact un.free b o ho (hide_in z) (by simp)
  refine ⟨v, unhide C H H', os, bare, ⟨fun b o e n => un.keep b o e (hn n), fun b o e n => un.slot b o e (hn n), fun b o e n hx => ?_, un.there, fun b xs e => ?_, fun b o u e => ?_, fun b ps e => ?_⟩, fun a o e => ?_, r, q⟩
  · rw [unhide_out (some_out n)]; exact un.free b o e (hn n) hx
  · have hb : ¬ C b := hC.not e fun _ z => nomatch z
    rw [unhide_out hb]; exact un.tups b xs (by rw [hide_out hb]; exact e)
  · have hb : ¬ C b := hC.not e fun _ z => nomatch z
    rw [unhide_out hb]; exact un.frzs b o u (by rw [hide_out hb]; exact e)
  · have hb : ¬ C b := hC.not e fun _ z => nomatch z
    rw [unhide_out hb]; exact un.tbls b ps (by rw [hide_out hb]; exact e)
  · by_cases ha : C a
    · rw [unhide_in ha] at e
      obtain ⟨v, q⟩ := hC a ha
      rw [e] at q; cases q
      obtain ⟨⟨u, ru, ob, ho, hd⟩, _, st⟩ := ok a _ e
      obtain ⟨sl, h2⟩ := un.any ho (hide_in ha) (by simp)
      exact ⟨⟨u, ru, _, h2, hd⟩, ⟨_, h2⟩, st⟩
    · rw [unhide_out ha] at e
      refine (ok' a o e).stay (fun _ _ _ q => q) (fun b q => ?_) fun b xs q => ?_
      · by_cases hb : C b
        · rw [gone hb] at q; cases q
        · rw [unhide_out hb]; exact q
      · by_cases hb : C b
        · rw [gone hb] at q; cases q
        · rw [unhide_out hb]; exact q
end
/-! ### functions that are called by a value -/
def IsFn (H : Hp) (f : Addr) : Prop := ∃ φ, H f = some (.ext φ) ∧ ∀ h, φ h → PySem.W.FnAt f h
theorem IsFn.same {H H' : Hp} {f : Addr} (h : IsFn H f) (s : Same H H') : IsFn H' f := by
  obtain ⟨φ, e, q⟩ := h
  exact ⟨φ, s.get e, q⟩
theorem isFn_fno {H : Hp} {f : Addr} {F : NF} (e : H f = some (FnO f F)) : IsFn H f := ⟨_, e, fun h ⟨od, sl, doc, pm, ctv, q⟩ => ⟨_, _, _, _, q⟩⟩
/-- what a lambda's object is -/
def LamO (body : Expr) (f : Addr) (F : NF) : HO := .ext fun h => ∃ pm ctv, h.get? f = some (PySem.W.kla_obj F.name F.qual F.params body F.scope F.cl pm F.c ctv)
theorem isFn_lam {H : Hp} {f : Addr} {F : NF} {b : Expr} (e : H f = some (LamO b f F)) : IsFn H f := ⟨_, e, fun h ⟨pm, ctv, q⟩ => ⟨_, _, _, _, q⟩⟩
/-- calls by value: at levels -/
structure CLs where
  run : Nat → Addr → List V → Hp → VK → Prop
  mono : ∀ {j k f vs H Q}, j ≤ k → run j f vs H Q → run k f vs H Q
  imp : ∀ {j f vs H} {Q Q' : VK}, (∀ v H', Q v H' → Q' v H') → run j f vs H Q → run j f vs H Q'
def Cal (P : Program) (w : World) (K : PySem.W.Frag) (mg : Str → Option Value) (base : Heap) : CLs where
  run := fun k f vs H Q => IsFn H f ∧ ∀ (A : Around) (outer : List Env) (s : Shared) (us : List Value), Room k A → Env0 P w K mg base A outer s H → Vals vs us →
    codeAny (model P w) A (.call (.ref f) ⟨us, []⟩) (CR CX0 outer P w H s Q (fun _ _ _ => False)) s
  mono := fun h ⟨a, b⟩ => ⟨a, fun A outer s us hr => b A outer s us (hr.mono h)⟩
  imp := fun h ⟨a, b⟩ => ⟨a, fun A outer s us hr e0 r => codeAny_mono (b A outer s us hr e0 r) fun r s' q => by
    cases r with
    | error e => exact q
    | ok fl =>
      cases fl with
      | ret u =>
        obtain ⟨v, H', q1, q2, q3, q4, q5, q6⟩ := q
        exact ⟨v, H', q1, q2, q3, q4, q5, h _ _ q6⟩
      | next => exact q
      | brk => exact q
      | cont => exact q⟩
/-- a local name's value is called -/
def tCallV (CL : CLs) (j : Nat) (i : Nat) (t : TA) : TE := fun σ H Q => ∃ f, σ[i]? = some (some (.ref f)) ∧ IsFn H f ∧ t σ H fun vs H1 => CL.run j f vs H1 Q
section
variable {X : Cx} {k j i : Nat} {x : Str} {p pos : Pos} {e : Expr} {es : List Expr} {t : TA}
theorem isFn_at {pins : List (Addr × Obj)} {σ : L2.St} {H : Hp} {s : Shared} {f : Addr} (I : Inv X pins σ H s) (h : IsFn H f) : PySem.W.FnAt f s.heap := by
  obtain ⟨φ, e, q⟩ := h
  exact q _ (I.hok f _ e).1
theorem pe_callV (hr : Room j X.A) (hk : k ≤ j) (hN : X.N[i]? = some x) (hv : Vis X.env.scope x) (ha : PA X (e :: es) t)
    (hdb : (x == ("__debug__" : Str)) = false := by decide) (hcd : (x == ("__classdict__" : Str)) = false := by decide)
    (he : starEach (e :: es) X.env = (false, eval e X.env) :: starEach es X.env := by rfl) (hpl : (backTo pos (starEach es X.env)).any (·.1) = false := by rfl) :
    PE X (.Call (.Name x p) (e :: es) [] pos) (tCallV (Cal X.prog X.w X.K X.mg X.base) k i t) := by
  refine ⟨fun pins s σ H Q I h => ?_⟩
  obtain ⟨f, hs, hf, ht⟩ := h
  refine wpAny_Call_Name_kw (thn ((pe_var (pos := p) hN hv hdb hcd).run pins s σ H (fun v H1 => v = .ref f ∧ H1 = H) I ⟨.ref f, hs, rfl, rfl⟩) fun u s1 ⟨v, H1, I1, r1, q1⟩ => ?_)
  obtain ⟨rfl, rfl⟩ := q1
  cases r1
  refine PySem.W.callWith_F (first := []) (isFn_at I1 hf) (thn (ha.run pos pins s1 σ _ _ I1 ht) fun us s2 ⟨vs, H2, I2, r, q⟩ => ⟨isFn_at I2 q.1, ?_⟩) he hpl
  refine wpAny_call (codeAny_mono (q.2 X.A X.stack s2 us (hr.mono hk) I2.env0 r) fun r s' hq => ?_)
  cases r with
  | error e => exact hq.elim
  | ok fl =>
    cases fl with
    | ret u => exact I2.after hq
    | next => exact False.elim hq
    | brk => exact False.elim hq
    | cont => exact False.elim hq
end
/-! ### what a closure promises -/
structure COk (O : Addr → NF → HO) (P : Program) (w : World) (K : PySem.W.Frag) (mg : Str → Option Value) (base : Heap) (k : Nat) (f : Addr) (F : NF) (ps fr : List Str) (sp : List V → List V → Hp → VK → Prop) : Prop where
  run : ∀ (A : Around) (outer : List Env) (s : Shared) (H : Hp) (us : List Value) (vs ws : List V) (Q : VK), Room k A → Env0 P w K mg base A outer s H → H f = some (O f F) → H F.c = some (CodeO F.c F.qual) →
    CellsAt F.cl fr (ws.map some) s.heap H → Vals vs us → sp ws vs H Q → codeAny (model P w) A (.call (.ref f) ⟨us, []⟩) (CR CX0 outer P w H s Q (fun _ _ _ => False)) s
section
variable {P : Program} {w : World} {K : PySem.W.Frag} {mg : Str → Option Value} {base : Heap} {N ps fr : List Str} {F : NF} {f : Addr} {k : Nat} {sp : List V → List V → Hp → VK → Prop}
theorem cok_def (S : NScope N ps fr F.scope) (hb : ∀ (doc pm ctv : Value) (us : List Value), us.length = ps.length → bindArgs (F.fd doc pm ctv) ⟨us, []⟩ = pure (ps.zip us)) (len : ∀ ws vs H Q, sp ws vs H Q → vs.length = ps.length)
    (hbody : ∀ (A : Around) (outer : List Env) (s : Shared) (H : Hp) (vs ws : List V) (Q : VK), Room k (A.deeper (envF F f s.heap.objs.size)) → ws.length = fr.length → sp ws vs H Q →
      ∃ t, PSs (ncx CX0 P w K mg base N F f A outer s H (fun _ _ _ => False)) F.body t ∧ t { nx := fun _ H' => Q .non H', rt := Q } (startF N vs (ws.map some)) H) :
    COk FnO P w K mg base (k + 1) f F ps fr sp := by
  have n : NOk P w K mg base CX0 (k + 1) f F ps fr (fun ws' vs H Q E => ∃ ws, ws' = ws.map some ∧ sp ws vs H Q ∧ E = fun _ _ _ => False) :=
    nok_of S hb (fun ws vs H Q E ⟨_, _, h, _⟩ => len _ _ _ _ h) fun A outer s H vs ws' Q E hr _ _ hl ⟨ws, e, h, eE⟩ => by
      subst e; subst eE
      exact hbody A outer s H vs ws Q hr (by rw [← hl, List.length_map]) h
  exact ⟨fun A outer s H us vs ws Q hr e0 hf hc C r h => n.run A outer s H us vs _ Q _ hr e0 hf hc C r ⟨ws, rfl, h, rfl⟩⟩
/-- a lambda by its expression -/
theorem cok_lam {body : Expr} (S : NScope N ps fr F.scope) (hb : ∀ (pm cd ctv : Value) (us : List Value), us.length = ps.length → bindArgs (PySem.W.kla_fn F.name F.qual F.params body F.scope F.cl pm cd ctv) ⟨us, []⟩ = pure (ps.zip us)) (len : ∀ ws vs H Q, sp ws vs H Q → vs.length = ps.length)
    (hbody : ∀ (A : Around) (outer : List Env) (s : Shared) (H : Hp) (vs ws : List V) (Q : VK), Room k (A.deeper (envF F f s.heap.objs.size)) → ws.length = fr.length → sp ws vs H Q →
      ∃ t, PE (ncx CX0 P w K mg base N F f A outer s H (fun _ _ _ => False)) body t ∧ t (startF N vs (ws.map some)) H Q) :
    COk (LamO body) P w K mg base (k + 1) f F ps fr sp := by
  refine ⟨fun A outer s H us vs ws Q hr e0 hf hc C r hsp => ?_⟩
  have hl := len _ _ _ _ hsp
  have lim : s.heap.NoLimit := e0.mod.nolimit.keeps fun b o e => (e0.bs b o e).1
  obtain ⟨⟨pm, ctv, ho⟩, _, _⟩ := e0.hok f _ hf
  refine PySem.W.kla_callFunE hr.depth ho rfl S.co S.gen rfl (codeO_at e0.hok hc) ?_
  rw [hb pm (.ref F.c) ctv us (by rw [← r.length]; exact hl)]
  refine wpAny_pure (wpAny_newFunctionEnv S.nocell (fun ⟨n, _⟩ hy => S.par n (List.of_mem_zip hy).1) (fun h₁ hns hsb => ⟨lim.fresh _ hsb, ?_⟩) S.kind)
  show codeAny _ _ (.expr body (envF F f s.heap.objs.size)) _ _
  have kp : ∀ b o, s.heap.get? b = some o → h₁.get? b = some o := fun b o e => hsb.extBut b o (Nat.ne_of_lt (Heap.lt_size e)) (Heap.get?_push_of_some _ e)
  obtain ⟨t, ht, hq⟩ := hbody A outer s H vs ws Q (hr.deeper _) (by rw [← C.len, List.length_map]) hsp
  have I : Inv (ncx CX0 P w K mg base N F f A outer s H (fun _ _ _ => False)) [] (startF N vs (ws.map some)) H { s with heap := h₁, toks := s.toks + (ps.zip us).length } := inv_startN S hr.hd e0 hl r C hns kp
  refine PySem.W.kla_codeExpr (wpAny_mono (ht.run [] _ _ H Q I hq) (fun v s' hq => ?_) fun e s' hq => hq)
  obtain ⟨w', H', J, rv, q⟩ := hq
  exact ⟨w', H', J.os, J.bare, J.base, J.hok, rv, q⟩
/-- a closure called from outside its maker: its cells are tracked -/
theorem cal_of {O : Addr → NF → HO} {ws vs : List V} {H : Hp} {Q : VK} {C : Addr → Prop} [DecidablePred C] (n : COk O P w K mg base k f F ps fr sp) (hfn : IsFn H f) (hf : H f = some (O f F)) (hc : H F.c = some (CodeO F.c F.qual)) (hC : Cells C H) (hlen : ws.length = fr.length)
    (hall : ∀ y c, F.cl.lookup y = some c → C c) (hinj : ∀ x y c, F.cl.lookup x = some c → F.cl.lookup y = some c → x = y) (hhas : ∀ (i : Nat) (y : Str), fr[i]? = some y → ∃ c, F.cl.lookup y = some c ∧ ∀ v, ws[i]? = some v → H c = some (CellO c v))
    (nf : ¬ C f) (nc : ¬ C F.c) (hsp : sp ws vs (hide C H) fun v H' => Q v (unhide C H H')) : (Cal P w K mg base).run k f vs H Q := by
  refine ⟨hfn, fun A outer s us hr e0 r => ?_⟩
  have CA : CellsAt F.cl fr (ws.map some) s.heap (hide C H) := by
    refine ⟨by rw [List.length_map]; exact hlen, fun y c e => ⟨hide_in (hall y c e), ?_⟩, hinj, fun i y e => ?_⟩
    · obtain ⟨v, q⟩ := hC c (hall y c e)
      obtain ⟨u, _, z⟩ := cellO_get e0.hok q
      exact ⟨_, z⟩
    · obtain ⟨c, h1, h2⟩ := hhas i y e
      refine ⟨c, h1, fun v ev => ?_⟩
      rw [List.getElem?_map] at ev
      cases q : ws[i]? with
      | none => rw [q] at ev; cases ev
      | some v' =>
        rw [q] at ev
        cases ev
        exact cellO_get e0.hok (h2 v q)
  refine codeAny_mono (n.run A outer s (hide C H) us vs ws _ hr (env0_hide e0 hC) ((hide_out nf).trans hf) ((hide_out nc).trans hc) CA r hsp) fun r s' q => ?_
  cases r with
  | error e => exact q
  | ok fl =>
    cases fl with
    | ret u => exact ce_unhide e0.hok hC q
    | next => exact q
    | brk => exact q
    | cont => exact q
end
/-! ### the making of closures -/
section
variable {X : Cx} {pins : List (Addr × Obj)} {σ : L2.St} {H : Hp} {s : Shared}
theorem tabN_grow {H : Hp} {P c' : Addr} {pos : Pos} {ps : Array Value} (nC : H c' = none) (hP : H P = some (.tbl ps)) (ht : TriplesOk ps.toList) (hq : ∀ P', H P' = some (.tbl ps) → True) : ∀ P', TabN H P' nmL →
    TabN (upd (upd H P (.tbl (ps ++ #[rawInt pos.line, rawInt pos.col, .ref c']))) c' (CodeO c' (nmL pos.line pos.col))) P' nmL := fun P' t => by
  obtain ⟨ps', h1, h2, h3⟩ := t
  have eL : (ps ++ #[rawInt pos.line, rawInt pos.col, .ref c']).toList = ps.toList ++ [rawInt pos.line, rawInt pos.col, .ref c'] := by simp
  have old : ∀ {b : Addr} {q : Str}, H b = some (CodeO b q) → upd (upd H P (.tbl (ps ++ #[rawInt pos.line, rawInt pos.col, .ref c']))) c' (CodeO c' (nmL pos.line pos.col)) b = some (CodeO b q) := fun {b q} e => by
    rw [upd_ne (ne_of_none e nC), upd_ne (fun z => by rw [z, hP] at e; exact codeO_ne ps (Option.some.inj e).symm)]
    exact e
  by_cases hb : P' = P
  · subst hb
    rw [hP] at h1; cases h1
    refine ⟨_, by rw [upd_ne (ne_of_none hP nC), upd_same], by rw [eL]; exact PySem.TriplesOk_snoc _ _ _ _ ht, fun p' cv hcv => ?_⟩
    rw [eL] at hcv
    rcases among_app2 _ ht hcv with z | ⟨z, z1, z2⟩
    · obtain ⟨c0, e1, e2⟩ := h3 p' cv z
      exact ⟨c0, e1, old e2⟩
    · refine ⟨c', z, ?_⟩
      rw [← z1, ← z2]
      exact upd_same
  · refine ⟨ps', by rw [upd_ne (ne_of_none h1 nC), upd_ne hb]; exact h1, h2, fun p' cv hcv => ?_⟩
    obtain ⟨c0, e1, e2⟩ := h3 p' cv hcv
    exact ⟨c0, e1, old e2⟩
theorem same_grow {H : Hp} {P c' : Addr} {pos : Pos} {ps : Array Value} (nC : H c' = none) (hP : H P = some (.tbl ps)) (ht : TriplesOk ps.toList) :
    Same H (upd (upd H P (.tbl (ps ++ #[rawInt pos.line, rawInt pos.col, .ref c']))) c' (CodeO c' (nmL pos.line pos.col))) := by
  refine ⟨fun b o e n => ?_, fun b e => upd_none (upd_none e), tabN_grow nC hP ht fun _ _ => trivial⟩
  rw [upd_ne (ne_of_none e nC), upd_ne (fun z => n ps (Option.some.inj (e.symm.trans (by rw [z]; exact hP))))]
  exact e
/-- the def's object is made -/
theorem ndef_makeC {c P : Addr} {name : Str} {params : Arguments} {body : List Stmt} {scope : Scope} {pos : Pos} {E : Value → Shared → Prop} {Q : Value → Shared → Prop} (I : Inv X pins σ H s) (TB : TabB X.base X.mg c P) (hcode : X.env.code = .ref c)
    (hn : nmL pos.line pos.col = X.env.qual ++ name) (hT : TabN H P nmL) (hfree : ∀ y ∈ scope.names, y.2 = .free → ∃ c, X.env.cells.lookup y.1 = some c)
    (h : ∀ (f c' : Addr) (H1 : Hp) (s' : Shared), Inv X pins σ H1 s' → Same H H1 → H f = none → H1 f = some (FnO f ⟨name, X.env.qual ++ name, params, body, scope, cloFrom X.env.cells scope.names [], c'⟩) → H1 c' = some (CodeO c' (X.env.qual ++ name)) → Q (.ref f) s') :
    wpAny (model X.prog X.w) X.A (makeFunction name (X.env.qual ++ name) params (.stmts body) scope X.env [] [] [] pos pos.line) Q E s := by
  obtain ⟨ps, hP, ht, ha⟩ := hT
  have bP : s.heap.BuiltinsAt X.mg P := TB.bm.keeps I.bk
  have hP' : s.heap.get? P = some { cls := .none, data := .fields ps } := I.hok P _ hP
  cases hc : codeAmong pos ps.toList with
  | none =>
    refine PySem.W.makeFunction_K (mg := X.mg) (c := c) (P := P) (ps := ps) (closure_ok hfree) I.ok.glob (I.mod.glob.keeps I.bk) hcode (TB.code.keeps I.bk) hP' ht hc TB.gP bP fun c' ctv doc h' tk hx hge hlt hrec htb => ?_
    obtain ⟨c2, oc, vs, t, e2, hoc, hd, hv⟩ := hrec
    cases e2
    have nC : H c' = none := I.hok.fresh hge
    have I1 := inv_table (t' := tk) (more := #[rawInt pos.line, rawInt pos.col, .ref c']) (h' := h') I hP (fun b o hb e => hx b o hb e) htb hge ⟨oc, vs, t, hoc, hd, hv⟩
    have S1 : Same H (upd (upd H P (.tbl (ps ++ #[rawInt pos.line, rawInt pos.col, .ref c']))) c' (CodeO c' (X.env.qual ++ name))) := hn ▸ same_grow (pos := pos) nC hP ht
    have nF := I1.hok.fresh (Nat.le_refl _)
    have I2 := inv_fn (F := ⟨name, X.env.qual ++ name, params, body, scope, cloFrom X.env.cells scope.names [], c'⟩) (t' := tk) (doc := doc) (pm := (X.mg "__name__").getD .none) (ctv := ctv) I1 rfl
    exact h h'.objs.size c' _ _ I2 (S1.trans (same_new nF)) (I.hok.fresh (Nat.le_trans hge (Nat.le_of_lt hlt))) upd_same ((upd_ne (Nat.ne_of_lt hlt)).trans upd_same)
  | some cv =>
    obtain ⟨c', e, hco⟩ := ha pos cv hc
    subst e
    rw [hn] at hco
    refine PySem.W.makeFunction_hit (mg := X.mg) (c := c) (P := P) (ps := ps) (closure_ok hfree) I.ok.glob (I.mod.glob.keeps I.bk) hcode (TB.code.keeps I.bk) hP' ht hc bP fun ctv doc h' tk hx hsz => ?_
    have I1 : Inv X pins σ H { s with heap := h', toks := tk } := I.kept hx
    have nF : H h'.objs.size = none := I1.hok.fresh (Nat.le_refl _)
    have I2 := inv_fn (F := ⟨name, X.env.qual ++ name, params, body, scope, cloFrom X.env.cells scope.names [], c'⟩) (t' := tk) (doc := doc) (pm := (X.mg "__name__").getD .none) (ctv := ctv) I1 rfl
    exact h h'.objs.size c' _ _ I2 (same_new nF) nF upd_same ((upd_ne (ne_of_none hco nF)).trans hco)
theorem lam_makeC {c P : Addr} {params : Arguments} {body : Expr} {scope : Scope} {pos : Pos} {E : Value → Shared → Prop} {Q : Value → Shared → Prop} (I : Inv X pins σ H s) (TB : TabB X.base X.mg c P) (hcode : X.env.code = .ref c)
    (hn : nmL pos.line pos.col = X.env.qual ++ "<lambda>") (hT : TabN H P nmL) (hdef : defaultsOf params X.env = ([], [])) (hfree : ∀ y ∈ scope.names, y.2 = .free → ∃ c, X.env.cells.lookup y.1 = some c)
    (h : ∀ (f c' : Addr) (H1 : Hp) (s' : Shared), Inv X pins σ H1 s' → Same H H1 → H f = none → H1 f = some (LamO body f ⟨"<lambda>", X.env.qual ++ "<lambda>", params, [], scope, cloFrom X.env.cells scope.names [], c'⟩) → H1 c' = some (CodeO c' (X.env.qual ++ "<lambda>")) → Q (.ref f) s') :
    wpAny (model X.prog X.w) X.A (eval (.Lambda params body scope pos) X.env) Q E s := by
  obtain ⟨ps, hP, ht, ha⟩ := hT
  refine PySem.W.kla_eval hdef ?_
  have bP : s.heap.BuiltinsAt X.mg P := TB.bm.keeps I.bk
  have hP' : s.heap.get? P = some { cls := .none, data := .fields ps } := I.hok P _ hP
  have lamI : ∀ {H1 : Hp} {s1 : Shared} {c' : Addr} {pm ctv : Value} {tk : Nat}, Inv X pins σ H1 s1 → Inv X pins σ (upd H1 s1.heap.objs.size (LamO body s1.heap.objs.size ⟨"<lambda>", X.env.qual ++ "<lambda>", params, [], scope, cloFrom X.env.cells scope.names [], c'⟩))
      { s1 with heap := s1.heap.push (PySem.W.kla_obj "<lambda>" (X.env.qual ++ "<lambda>") params body scope (cloFrom X.env.cells scope.names []) pm c' ctv), toks := tk } := fun {H1 s1 c' pm ctv tk} I1 => by
    have e := Heap.get?_push_size s1.heap (o := PySem.W.kla_obj "<lambda>" (X.env.qual ++ "<lambda>") params body scope (cloFrom X.env.cells scope.names []) pm c' ctv) rfl
    exact I1.laid (fun b u e => Heap.get?_push_of_some _ e) (Nat.le_refl _) ⟨⟨pm, ctv, e⟩, ⟨_, e⟩, fun h1 h2 ⟨p, t, z⟩ st => ⟨p, t, st _ z⟩⟩
  cases hc : codeAmong pos ps.toList with
  | none =>
    refine PySem.W.kla_makeFunction (mg := X.mg) (c := c) (P := P) (ps := ps) (closure_ok hfree) I.ok.glob (I.mod.glob.keeps I.bk) hcode (TB.code.keeps I.bk) hP' ht hc TB.gP bP fun c' ctv h' tk hx hge hlt hrec htb => ?_
    obtain ⟨c2, oc, vs, t, e2, hoc, hd, hv⟩ := hrec
    cases e2
    have nC : H c' = none := I.hok.fresh hge
    have I1 := inv_table (t' := tk) (more := #[rawInt pos.line, rawInt pos.col, .ref c']) (h' := h') I hP (fun b o hb e => hx b o hb e) htb hge ⟨oc, vs, t, hoc, hd, hv⟩
    have S1 : Same H (upd (upd H P (.tbl (ps ++ #[rawInt pos.line, rawInt pos.col, .ref c']))) c' (CodeO c' (X.env.qual ++ "<lambda>"))) := hn ▸ same_grow (pos := pos) nC hP ht
    have nF := I1.hok.fresh (Nat.le_refl _)
    exact h h'.objs.size c' _ _ (lamI I1) (S1.trans (same_new nF)) (I.hok.fresh (Nat.le_trans hge (Nat.le_of_lt hlt))) upd_same ((upd_ne (Nat.ne_of_lt hlt)).trans upd_same)
  | some cv =>
    obtain ⟨c', e, hco⟩ := ha pos cv hc
    subst e
    rw [hn] at hco
    refine PySem.W.kla_makeFunctionHit (mg := X.mg) (c := c) (P := P) (ps := ps) (closure_ok hfree) I.ok.glob (I.mod.glob.keeps I.bk) hcode (TB.code.keeps I.bk) hP' ht hc bP fun ctv h' tk hx hsz => ?_
    have I1 : Inv X pins σ H { s with heap := h', toks := tk } := I.kept hx
    have nF : H h'.objs.size = none := I1.hok.fresh (Nat.le_refl _)
    exact h h'.objs.size c' _ _ (lamI I1) (same_new nF) nF upd_same ((upd_ne (ne_of_none hco nF)).trans hco)
end
/-- the readings: P the maker's table -/
def tNdefC (P : Addr) (i : Nat) (mk : Addr → NF) : TS := fun D σ H => TabN H P nmL ∧ ∀ (f c' : Addr) (H1 : Hp), Same H H1 → H f = none → H1 f = some (FnO f (mk c')) → H1 (mk c').c = some (CodeO (mk c').c (mk c').qual) → D.nx (σ.set i (some (.ref f))) H1
def tLamC (P : Addr) (body : Expr) (mk : Addr → NF) : TE := fun σ H Q => TabN H P nmL ∧ ∀ (f c' : Addr) (H1 : Hp), Same H H1 → H f = none → H1 f = some (LamO body f (mk c')) → H1 (mk c').c = some (CodeO (mk c').c (mk c').qual) → Q (.ref f) H1
/-- a lambda's words -/
def lamNF (e : Expr) (qual : Str) (cl : List (Str × Addr)) (c : Addr) : NF := match e with
  | .Lambda ps _ sc _ => ⟨"<lambda>", qual, ps, [], sc, cl, c⟩
  | _ => ⟨"", "", { posonlyargs := [], args := [], vararg := none, kwonlyargs := [], kw_defaults := [], kwarg := none, defaults := [] }, [], default, [], c⟩
section
variable {X : Cx}
theorem ps_ndefC {st : Stmt} {c P : Addr} {name : Str} {pos : Pos} {i : Nat} (hst : st = .FunctionDef name (C8.fnArgs st) (C8.fnBody st) [] none [] (C8.fnScope st) none name pos) (TB : TabB X.base X.mg c P) (hcode : X.env.code = .ref c) (hn : nmL pos.line pos.col = X.env.qual ++ name)
    (hfree : ∀ y ∈ (C8.fnScope st).names, y.2 = .free → X.env.scope.names.lookup y.1 = some .cell ∨ X.env.scope.names.lookup y.1 = some .free) (hd0 : (C8.fnArgs st).defaults = []) (hk0 : (C8.fnArgs st).kw_defaults = []) (ha : annTrees (C8.fnArgs st) none X.env = [])
    (hN : X.N.Nodup) (hi : X.N[i]? = some name) (hx : Loc X.env.scope name) (hf : X.fn name = true ∨ X.env.scope.names.lookup name = some .local) :
    PS X st (tNdefC P i (NF.of st name (X.env.qual ++ name) (cloFrom X.env.cells (C8.fnScope st).names []))) := by
  have main : PS X (.FunctionDef name (C8.fnArgs st) (C8.fnBody st) [] none [] (C8.fnScope st) none name pos) (tNdefC P i (NF.of st name (X.env.qual ++ name) (cloFrom X.env.cells (C8.fnScope st).names []))) := by
    refine ⟨fun pins s σ H D I h => ?_⟩
    obtain ⟨hT, h⟩ := h
    have hq : qualnameIn X.env name name = X.env.qual ++ name := by
      have hk : X.env.kindOf name = some .local ∨ X.env.kindOf name = some .cell := hx
      unfold qualnameIn
      rcases hk with k | k <;> rw [k] <;> first | rfl | exact if_neg (by decide)
    refine PySem.W.nestDef_K hd0 hk0 ha ?_
    rw [hq]
    have hfr : ∀ y ∈ (C8.fnScope st).names, y.2 = .free → ∃ c, X.env.cells.lookup y.1 = some c := fun y hy e => (hfree y hy e).elim (fun z => I.ok.has _ (.inl z)) fun z => I.ok.has _ (.inr z)
    refine ndef_makeC I TB hcode hn hT hfr fun f c' H1 s' I1 S1 f0 f1 c1 => ?_
    exact store_ok I1 hN hi hx (v := .ref f) rfl (fun s'' J => ⟨_, H1, J, h f c' H1 S1 f0 f1 c1⟩) hf
  rw [← hst] at main
  exact main
theorem pe_lamC {params : Arguments} {body : Expr} {scope : Scope} {pos : Pos} {c P : Addr} (TB : TabB X.base X.mg c P) (hcode : X.env.code = .ref c) (hn : nmL pos.line pos.col = X.env.qual ++ "<lambda>")
    (hfree : ∀ y ∈ scope.names, y.2 = .free → X.env.scope.names.lookup y.1 = some .cell ∨ X.env.scope.names.lookup y.1 = some .free) (hdef : defaultsOf params X.env = ([], [])) :
    PE X (.Lambda params body scope pos) (tLamC P body (lamNF (.Lambda params body scope pos) (X.env.qual ++ "<lambda>") (cloFrom X.env.cells scope.names []))) := by
  refine ⟨fun pins s σ H Q I h => ?_⟩
  obtain ⟨hT, h⟩ := h
  have hfr : ∀ y ∈ scope.names, y.2 = .free → ∃ c, X.env.cells.lookup y.1 = some c := fun y hy e => (hfree y hy e).elim (fun z => I.ok.has _ (.inl z)) fun z => I.ok.has _ (.inr z)
  exact lam_makeC I TB hcode hn hT hdef hfr fun f c' H1 s' I1 S1 f0 f1 c1 => ⟨.ref f, H1, I1, rfl, h f c' H1 S1 f0 f1 c1⟩
end
def lamBody : Expr → Expr
  | .Lambda _ b _ _ => b
  | e => e
def lamF : Expr → Expr
  | .Tuple es _ _ => es.getLast?.getD (.Constant .none 0 ⟨0, 0, 0, 0⟩)
  | e => e
def lamIn (b : List Stmt) : Expr := match b.getLast? with
  | some (.Return (some e) _) => lamF e
  | _ => .Constant .none 0 ⟨0, 0, 0, 0⟩
/-- the table of the def x -/
abbrev tabP (K : PySem.W.Frag) (x : Str) : Addr := (He.cT K (x, none)).2
/-! ### the maker returns: its captured cells are tracked from now on -/
/-- what is known of a closure that its maker gives out -/
structure Upg (CL : CLs) (lv : Nat) (O : Addr → NF → HO) (mk : Addr → NF) (js : List Nat) (spn : Nat → List V → List V → Hp → VK → Prop) (C : Addr → Prop) (dC : DecidablePred C) (σ : L2.St) (H Hp' : Hp) : Prop where
  hid : ∀ b, C b → H b = none
  same : ∀ b, ¬ C b → Hp' b = H b
  ext : ∀ b, C b → ∃ φ, Hp' b = some (.ext φ)
  law : ∀ f c', H f = some (O f (mk c')) → H (mk c').c = some (CodeO (mk c').c (mk c').qual) → ∀ ws : List V, js.map (slotAt σ) = ws.map some → ∀ (j : Nat) (H3 : Hp) (vs : List V) (Q3 : VK), (∀ b φ, Hp' b = some (.ext φ) → H3 b = some (.ext φ)) →
    spn j ws vs (hide C H3) (fun v H4 => Q3 v (unhide C H3 H4)) → CL.run (max j lv + 1) f vs H3 Q3
theorem Upg.up {CL : CLs} {lv : Nat} {O : Addr → NF → HO} {mk : Addr → NF} {js : List Nat} {spn : Nat → List V → List V → Hp → VK → Prop} {C : Addr → Prop} {dC : DecidablePred C} {σ : L2.St} {H H' : Hp} (u : Upg CL lv O mk js spn C dC σ H H') : Same H H' :=
  .of fun b o e => by rw [u.same b fun z => by rw [u.hid b z] at e; cases e]; exact e
theorem execs_app (a b : List Stmt) (env : Env) : execs (a ++ b) env = (execs a env >>= fun f => match f with | .next => execs b env | f => pure f) := by
  induction a with
  | nil => show execs b env = (pure Flow.next >>= _); rw [pure_bind]
  | cons x r ih =>
    show execs (x :: (r ++ b)) env = _
    rw [execs_cons, execs_cons, bind_assoc]
    congr 1
    funext f
    cases f with
    | next => exact ih
    | ret v => rw [pure_bind]
    | brk => rw [pure_bind]
    | cont => rw [pure_bind]
theorem wpAny_execs_app {M : Model} {A : Around} {E : Value → Shared → Prop} {s : Shared} {a b : List Stmt} {env : Env} {Q : Flow → Shared → Prop}
    (h : wpAny M A (execs a env) (fun f s' => match f with | .next => wpAny M A (execs b env) Q E s' | f => Q f s') E s) : wpAny M A (execs (a ++ b) env) Q E s := by
  rw [execs_app]
  refine wpAny_bind (wpAny_mono h (fun f s' q => ?_) fun _ _ q => q)
  cases f with
  | next => exact q
  | ret v => exact wpAny_pure q
  | brk => exact wpAny_pure q
  | cont => exact wpAny_pure q
def CellN (c : Addr) : HO := .ext fun h => ∃ v, h.IsCell c v
open Classical in
noncomputable def cellH (C : Addr → Prop) (h : Heap) (H : Hp) : Hp := fun b => if C b then some (if z : ∃ v, ∃ u, L2.RelV v u ∧ h.IsCell b (some u) then CellO b (Classical.choose z) else CellN b) else H b
theorem isCell_fun {h : Heap} {c : Addr} {v v' : Option Value} (a : h.IsCell c v) (b : h.IsCell c v') : v = v' := by
  obtain ⟨o, h1, h2⟩ := a
  obtain ⟨o', h3, h4⟩ := b
  rw [h1] at h3; cases h3
  rw [h2] at h4; cases h4; rfl
theorem cellH_in {C : Addr → Prop} {h : Heap} {H : Hp} {b : Addr} {v : V} {u : Value} (hb : C b) (r : L2.RelV v u) (z : h.IsCell b (some u)) : cellH C h H b = some (CellO b v) := by
  unfold cellH
  have ex : ∃ v, ∃ u, L2.RelV v u ∧ h.IsCell b (some u) := ⟨v, u, r, z⟩
  rw [if_pos hb, dif_pos ex]
  obtain ⟨u', r', z'⟩ := Classical.choose_spec ex
  have e := isCell_fun z z'
  cases e
  rw [relV_fun r' r]
theorem cellH_out {C : Addr → Prop} {h : Heap} {H : Hp} {b : Addr} (hb : ¬ C b) : cellH C h H b = H b := if_neg hb
theorem cellH_ext {C : Addr → Prop} {h : Heap} {H : Hp} {b : Addr} (hb : C b) : ∃ φ, cellH C h H b = some (.ext φ) := by
  unfold cellH
  rw [if_pos hb]
  split
  · exact ⟨_, rfl⟩
  · exact ⟨_, rfl⟩
theorem cellH_ok {P : Program} {w : World} {C : Addr → Prop} {h : Heap} {H : Hp} (ok : HOk P w H h) (hC : ∀ b, C b → H b = none ∧ ∃ v, h.IsCell b v) : HOk P w (cellH C h H) h := fun a o e => by
  by_cases ha : C a
  · obtain ⟨_, v, ob, ho, hd⟩ := hC a ha
    unfold cellH at e
    rw [if_pos ha] at e
    split at e
    · rename_i z
      cases e
      exact ⟨Classical.choose_spec z, ⟨ob, ho⟩, fun h1 h2 ⟨u, r, o, q1, q2⟩ st => ⟨u, r, o, st o q1, q2⟩⟩
    · cases e
      exact ⟨⟨v, ob, ho, hd⟩, ⟨ob, ho⟩, fun h1 h2 ⟨v, o, q1, q2⟩ st => ⟨v, o, st o q1, q2⟩⟩
  · rw [cellH_out ha] at e
    have out : ∀ {b u}, H b = some u → cellH C h H b = some u := fun {b u} q => (cellH_out fun z => by rw [(hC b z).1] at q; cases q).trans q
    exact (ok a o e).stay (fun _ _ _ q => q) (fun b q => out q) fun b xs q => out q
/-- the rule: a def that gives out a closure -/
theorem FunD.okC {P : Program} {w : World} {K : PySem.W.Frag} {mg : Str → Option Value} {base : Heap} {x : Str} {qual : Str} {params : Arguments} {body pre : List Stmt} {e : Expr} {pos : Pos} {scope nsc : Scope} {f : Addr} {fd : FuncData} {N ps fr psn : List Str} {js : List Nat} {k lv : Nat} {sp : Sp}
    {O : Addr → NF → HO} {mkF : List (Str × Addr) → Addr → NF} {spn : Nat → List V → List V → Hp → VK → Prop}
    (F : FunD K x qual params body scope [] [] f fd) (hbd : body = pre ++ [.Return (some e) pos]) (S : FnScope N ps scope) (len : ∀ vs H Q E, sp vs H Q E → vs.length = ps.length) (hO : ∀ {f : Addr} {F : NF}, ∃ φ, O f F = .ext φ ∧ ∀ h, φ h → PySem.W.FnAt f h)
    (hcl : ∀ cl c', (mkF cl c').cl = cl) (hsc : ∀ y ∈ nsc.names, y.2 = .free → y.1 ∈ fr) (hnd : ndefB scope nsc fr = true) (hjs : js.map (fun j => N[j]?) = fr.map some)
    (nok : ∀ j f cl c', COk O P w K mg base (max j lv + 1) f (mkF cl c') psn fr (spn j))
    (hbody : ∀ (c : Addr) (A : Around) (outer : List Env) (s : Shared) (H : Hp) (vs : List V) (Q : VK) (E : XK), He.codeOf K (x, none) = c → Room k (A.deeper (envOfC qual scope s.heap.objs.size f (.ref c))) → sp vs H Q E →
      ∃ (t : TS) (te : TE), PSs (cxOf CX0 P w K mg base N qual scope f (.ref c) A outer s H E) pre t ∧ PE (cxOf CX0 P w K mg base N qual scope f (.ref c) A outer s H E) e te ∧
        ∀ G : V → L2.St → Hp → Prop, (∀ v σ' H'', (∀ C dC H', Upg (Cal P w K mg base) lv O (mkF (cloFrom (envOfC qual scope s.heap.objs.size f (.ref c)).cells nsc.names [])) js spn C dC σ' H'' H' → Q v H') → G v σ' H'') →
          t { nx := fun σ' H' => te σ' H' fun v H'' => G v σ' H'', rt := fun _ _ => False } (start N vs) H)
    (hat : f = He.fAd K (x, none)) : FnOk P w K mg base CX0 (k + 1) f fd ps sp := by
  obtain ⟨oc, od, dV, kV, doc, pm, an, cdv, ct, osl, rfl, lk, hcd, _, _⟩ := F.ex
  obtain ⟨c, rfl⟩ := He.codeIn_ref hcd
  have ec : He.codeOf K (x, none) = c := He.codeOf_eq (p := (x, none)) (by rw [← hat]; exact lk) rfl
  refine ⟨len, fun A outer s H args us vs Q E hr e0 hb r hsp => ?_⟩
  have hl := len _ _ _ _ hsp
  have KX : K.In s.heap := e0.mod.kin.keeps fun b o e => (e0.bs b o e).1
  have lim : s.heap.NoLimit := e0.mod.nolimit.keeps fun b o e => (e0.bs b o e).1
  have hkind : ∀ y ∈ ps.zip us, scope.names.lookup y.1 = some .local ∨ (scope.names.lookup y.1 = some .cell ∧ ((cellsFrom (s.heap.objs.size + 1) scope.names []).lookup y.1).isSome = true) := fun ⟨n, v⟩ hy => by
    rcases S.par n (List.of_mem_zip hy).1 with q | q
    · exact .inl q
    · exact .inr ⟨q, PySem.W.cellsFrom_some _ _ _ (.inl q)⟩
  refine codeAny_call_function hr.depth (KX _ _ lk) rfl S.co S.gen rfl (PySem.W.codeRec_of KX hcd) (hb _ _ _ _ ?_)
  refine wpAny_newFunctionEnv_cells S.kind hkind fun env he s1 x1 => ?_
  subst he
  refine ⟨lim.keeps x1.toInCall.keep, codeAny_func ?_⟩
  obtain ⟨t, te, ht, hte, hq⟩ := hbody c A outer s H vs Q E ec (hr.deeper _) hsp
  have I : Inv (cxOf CX0 P w K mg base N qual scope f (.ref c) A outer s H E) [] (start N vs) H s1 := inv_start S hr.hd e0 hl r x1
  have hq := hq (fun v σ' H'' => ∀ C dC H', Upg (Cal P w K mg base) lv O (mkF (cloFrom (envOfC qual scope s.heap.objs.size f (.ref c)).cells nsc.names [])) js spn C dC σ' H'' H' → Q v H') fun v σ' H'' z => z
  subst hbd
  refine wpAny_execs_app ?_
  refine wpAny_mono (ht.run [] s1 (start N vs) H _ I hq) (fun fl s2 hs => ?_) fun e s' hs => hs
  cases fl with
  | ret v =>
    obtain ⟨_, _, _, _, _, q⟩ := hs
    exact False.elim q
  | brk =>
    obtain ⟨_, _, _, q⟩ := hs
    exact False.elim q
  | cont =>
    obtain ⟨_, _, _, q⟩ := hs
    exact False.elim q
  | next =>
  obtain ⟨σ', H', J, q⟩ := hs
  refine wpAny_execs_cons (wpAny_Return_some (thn (hte.run [] s2 σ' H' _ J q) fun u s3 ⟨v, H'', J3, rv, g⟩ => ?_))
  show CE outer P w H s Q u s3
  have hfr := ndef_fr hnd
  have hfree := ndef_free hnd
  have hf2 : ∀ y ∈ nsc.names, y.2 = .free → ∃ c', (envOfC qual scope s.heap.objs.size f (.ref c)).cells.lookup y.1 = some c' := fun y hy e => (hfree y hy e).elim (fun z => J3.ok.has _ (.inl z)) fun z => J3.ok.has _ (.inr z)
  have CA : CellsAt (cloFrom (envOfC qual scope s.heap.objs.size f (.ref c)).cells nsc.names []) fr (js.map (slotAt σ')) s3.heap H'' := cells_of J3 (Caps.made J3.ok hfree hfr hjs)
  generalize hcl0 : cloFrom (envOfC qual scope s.heap.objs.size f (.ref c)).cells nsc.names [] = cl at CA g
  have hC : ∀ b, (∃ y, cl.lookup y = some b) → H'' b = none ∧ ∃ v, s3.heap.IsCell b v := fun b ⟨y, e⟩ => CA.all y b e
  have old : ∀ b o, s.heap.get? b = some o → ¬ ∃ y, cl.lookup y = some b := fun b o ho ⟨y, e⟩ => by
    rw [← hcl0] at e
    have z := J3.ok.cab y b rfl (clo_cm hf2 e)
    exact Nat.lt_irrefl _ (Nat.lt_of_lt_of_le (Heap.lt_size ho) z)
  have out : ∀ {b o}, H'' b = some o → ¬ ∃ y, cl.lookup y = some b := fun {b o} e z => by rw [(hC b z).1] at e; cases e
  have un := J3.base
  refine ⟨v, cellH (fun b => ∃ y, cl.lookup y = some b) s3.heap H'', J3.os, J3.bare, ⟨un.keep, un.slot, fun b o e n hx => ?_, un.there, fun b xs e => ?_, fun b o u e => ?_, fun b ps e => ?_⟩, cellH_ok J3.hok hC, rv, g (fun b => ∃ y, cl.lookup y = some b) (fun b => Classical.propDecidable _) _ ?_⟩
  · rw [cellH_out (old b o e)]; exact un.free b o e n hx
  · have z := un.tups b xs e
    rw [cellH_out (out z)]; exact z
  · have z := un.frzs b o u e
    rw [cellH_out (out z)]; exact z
  · obtain ⟨more, z⟩ := un.tbls b ps e
    exact ⟨more, by rw [cellH_out (out z)]; exact z⟩
  · refine ⟨fun b z => (hC b z).1, fun b z => cellH_out z, fun b z => cellH_ext z, fun f' c' e1 e2 ws hws j H3 vs3 Q3 hx hsp3 => ?_⟩
    have key : ∀ (i : Nat) (y : Str), fr[i]? = some y → ∃ c, cl.lookup y = some c ∧ ∀ v, ws[i]? = some v → H3 c = some (CellO c v) := fun i y ey => by
      obtain ⟨c1, h1, h2⟩ := CA.has i y ey
      refine ⟨c1, h1, fun v0 ev => ?_⟩
      obtain ⟨u0, r0, z0⟩ := h2 v0 (by rw [hws, List.getElem?_map, ev]; rfl)
      exact hx c1 _ (cellH_in ⟨y, h1⟩ r0 z0)
    have hlen : ws.length = fr.length := by
      have q := CA.len
      rw [hws, List.length_map] at q
      exact q
    have cells : Cells (fun b => ∃ y, cl.lookup y = some b) H3 := fun b ⟨y, e⟩ => by
      have hy : y ∈ fr := by
        have e' := e
        rw [← hcl0] at e'
        rcases cloFrom_mem (PySem.mem_of_lookup e') with hm | ⟨hm1, hm2⟩
        · cases hm
        · exact hsc _ hm1 rfl
      obtain ⟨i, hi⟩ := List.mem_iff_getElem?.mp hy
      obtain ⟨c1, h1, h2⟩ := key i y hi
      rw [h1] at e; cases e
      have hlt : i < ws.length := by rw [hlen]; exact (List.getElem?_eq_some_iff.mp hi).1
      exact ⟨_, h2 (ws[i]) (List.getElem?_eq_getElem hlt)⟩
    obtain ⟨φ, eO, hφ⟩ := hO (f := f') (F := mkF cl c')
    have e3 : H3 f' = some (O f' (mkF cl c')) := by
      rw [eO] at e1 ⊢
      exact hx _ _ (by rw [cellH_out (out e1)]; exact e1)
    have e4 : H3 (mkF cl c').c = some (CodeO (mkF cl c').c (mkF cl c').qual) := hx _ _ (by rw [cellH_out (out e2)]; exact e2)
    letI : DecidablePred (fun b => ∃ y, cl.lookup y = some b) := fun b => Classical.propDecidable _
    refine cal_of (C := fun b => ∃ y, cl.lookup y = some b) (nok j f' cl c') ⟨φ, by rw [e3, eO], hφ⟩ e3 e4 cells hlen (fun y c e => ⟨y, by rw [hcl] at e; exact e⟩) ?_ ?_ (out e1) (out e2) hsp3
    · rw [hcl]; exact CA.inj
    · rw [hcl]; exact key
/-! ### walking with closures -/
section
variable {P : Addr} {i : Nat} {mk : Addr → NF} {b : Expr} {σ : L2.St} {H H' H3 H4 : Hp} {Q : VK} {nx bk ct : L2.St → Hp → Prop} {rt : VK} {CL : CLs} {j : Nat} {ta : TA} {f : Addr}
theorem m_ndefC (hT : TabN H P nmL) (h : ∀ (f c' : Addr) (H1 : Hp), Same H H1 → H f = none → H1 f = some (FnO f (mk c')) → H1 (mk c').c = some (CodeO (mk c').c (mk c').qual) → nx (σ.set i (some (.ref f))) H1) : tNdefC P i mk (Ends.mk nx rt bk ct) σ H := ⟨hT, h⟩
theorem m_lamC (hT : TabN H P nmL) (h : ∀ (f c' : Addr) (H1 : Hp), Same H H1 → H f = none → H1 f = some (LamO b f (mk c')) → H1 (mk c').c = some (CodeO (mk c').c (mk c').qual) → Q (.ref f) H1) : tLamC P b mk σ H Q := ⟨hT, h⟩
theorem m_callV (hs : σ[i]? = some (some (.ref f))) (hf : IsFn H f) (h : ta σ H fun vs H1 => CL.run j f vs H1 Q) : tCallV CL j i ta σ H Q := ⟨f, hs, hf, h⟩
abbrev All (H H' : Hp) : Prop := L2.Same H H'
theorem All.same (h : All H H') : Same H H' := .of h
theorem Same.extN (s : Same H H') : ExtN H H' := s.keep
theorem IsFn.ext (h : IsFn H f) (s : ExtN H H') : IsFn H' f := by
  obtain ⟨φ, e, q⟩ := h
  exact ⟨φ, s _ _ e (fun _ z => nomatch z), q⟩
theorem unhide_hide {C : Addr → Prop} [DecidablePred C] : unhide C H (hide C H) = H := by
  funext b
  unfold unhide hide
  split <;> rfl
theorem unhide_upd {C : Addr → Prop} [DecidablePred C] {p : Addr} {o : HO} (h : ¬ C p) : unhide C H (upd (hide C H) p o) = upd H p o := by
  funext b
  by_cases hb : C b
  · rw [unhide_in hb, upd_ne fun z => h (by rw [← z]; exact hb)]
  · rw [unhide_out hb]
    by_cases e : b = p
    · subst e; rw [upd_same, upd_same]
    · rw [upd_ne e, upd_ne e, hide_out hb]
theorem all_unhide {C : Addr → Prop} [DecidablePred C] (s : All (hide C H3) H4) : All H3 (unhide C H3 H4) := fun b o e => by
  by_cases hb : C b
  · rw [unhide_in hb]; exact e
  · rw [unhide_out hb]; exact s b o ((hide_out hb).trans e)
theorem upg_out {lv : Nat} {O : Addr → NF → HO} {js : List Nat} {spn : Nat → List V → List V → Hp → VK → Prop} {C : Addr → Prop} {dC : DecidablePred C} (u : Upg CL lv O mk js spn C dC σ H H') {b : Addr} {o : HO} (e : H b = some o) : ¬ C b := fun z => by
  rw [u.hid b z] at e; cases e
theorem upg_ext {lv : Nat} {O : Addr → NF → HO} {js : List Nat} {spn : Nat → List V → List V → Hp → VK → Prop} {C : Addr → Prop} {dC : DecidablePred C} (u : Upg CL lv O mk js spn C dC σ H H') (s : ExtN H' H3) : ExtN H (hide C H3) := fun b o e n => by
  have hb := upg_out u e
  rw [hide_out hb]
  exact s b o (by rw [u.same b hb]; exact e) n
theorem upg_get {lv : Nat} {O : Addr → NF → HO} {js : List Nat} {spn : Nat → List V → List V → Hp → VK → Prop} {C : Addr → Prop} {dC : DecidablePred C} (u : Upg CL lv O mk js spn C dC σ H H') (s : ExtN H' H3) {b : Addr} {o : HO} [n : NT o] (e : H b = some o) : hide C H3 b = some o := upg_ext u s b o e n.ne
theorem ext_ext (s : ExtN H H') : ∀ b φ, H b = some (.ext φ) → H' b = some (.ext φ) := fun b φ e => s b _ e fun _ z => nomatch z
theorem fnO_ext {f : Addr} {F : NF} : ∀ ps, FnO f F ≠ .tbl ps := fnO_ne
end
/-- a look whose list stays as it was -/
def PureLook (CL : CLs) (j : Nat) (g : Addr) (xs : List V) (H : Hp) : Prop :=
  ∀ H', ExtN H H' → IsFn H' g ∧ ∀ (i : Nat) (x : V) (Q : VK), xs[i]? = some x → (∀ H'', All H' H'' → Q x H'') → CL.run j g [.int (i : Int)] H' Q
theorem PureLook.ext {CL : CLs} {j : Nat} {g : Addr} {xs : List V} {H H' : Hp} (p : PureLook CL j g xs H) (s : ExtN H H') : PureLook CL j g xs H' := fun H'' s2 => p H'' (s.trans s2)
theorem PureLook.ask {CL : CLs} {j k : Nat} {g : Addr} {xs : List V} {H H' : Hp} (p : PureLook CL j g xs H) (hj : j ≤ k) (s : ExtN H H') {i : Int} {x : V} {Q : VK} (h0 : 0 ≤ i) (hx : xs[i.toNat]? = some x) (q : ∀ H'', All H' H'' → Q x H'') : CL.run k g [.int i] H' Q := by
  have e : i = ((i.toNat : Nat) : Int) := by omega
  rw [e]
  exact CL.mono hj ((p H' s).2 _ x Q hx q)
theorem PureLook.askN {CL : CLs} {j k : Nat} {g : Addr} {xs : List V} {H H' : Hp} (p : PureLook CL j g xs H) (hj : j ≤ k) (s : ExtN H H') {i : Nat} {x : V} {Q : VK} (hx : xs[i]? = some x) (q : ∀ H'', All H' H'' → Q x H'') : CL.run k g [.int (i : Int)] H' Q :=
  CL.mono hj ((p H' s).2 _ x Q hx q)
open Classical in
/-- what is new in H', and what never changes -/
noncomputable def newOf (H H' : Hp) : Hp := fun b => if H b = none ∨ ∃ φ, H' b = some (.ext φ) then H' b else none
section
variable {H H' H3 : Hp} {b : Addr} {o : HO} {φ : Heap → Prop}
theorem newOf_new (h : H b = none) : newOf H H' b = H' b := if_pos (.inl h)
theorem newOf_ext (h : H' b = some (.ext φ)) : newOf H H' b = some (.ext φ) := (if_pos (.inr ⟨φ, h⟩)).trans h
theorem newOf_sub (h : newOf H H' b = some o) : H' b = some o := by
  unfold newOf at h
  split at h
  · exact h
  · cases h
theorem newOf_old (h : newOf H H' b = some o) (n : H b ≠ none) : ∃ φ, o = .ext φ := by
  unfold newOf at h
  split at h
  · rename_i z
    rcases z with z | ⟨φ, z⟩
    · exact absurd z n
    · rw [z] at h; cases h; exact ⟨φ, rfl⟩
  · cases h
theorem newOf_extN (s : ExtN H' H3) : ExtN (newOf H H') H3 := fun b o e n => s b o (newOf_sub e) n
/-- an object that was there and is no closure's may change -/
theorem newOf_upd {p : Addr} {xs : List V} (s : ExtN (newOf H H') H3) (hp : H p = some (.lst xs)) (s0 : ExtN H H') : ExtN (newOf H H') (upd H3 p o) := fun b u e n => by
  have nb : b ≠ p := fun z => by
    subst z
    obtain ⟨φ, q⟩ := newOf_old e (by rw [hp]; simp)
    have e2 := newOf_sub e
    rw [s0 _ _ hp fun _ z => nomatch z] at e2
    rw [q] at e2; cases e2
  rw [upd_ne nb]; exact s b u e n
end
/-! ### looks, as the program's defs use them -/
/-- H' is H, but for the list at q and for what is new -/
structure SameX (q : Option Addr) (H H' : Hp) : Prop where
  keep : ∀ b o, q ≠ some b → H b = some o → (∀ ps, o ≠ .tbl ps) → H' b = some o
  gone : ∀ b, H' b = none → H b = none
  tabs : ∀ P, TabN H P nmL → TabN H' P nmL
  isl : ∀ p, q = some p → ∃ xs, H p = some (.lst xs)
  isl' : ∀ p, q = some p → ∃ xs, H' p = some (.lst xs)
section
variable {q : Option Addr} {H H' H1 H2 : Hp} {a b : Addr} {o : HO} {xs : List V} {K : PySem.W.Frag}
theorem SameX.of (hq : ∀ p, q = some p → ∃ xs, H p = some (.lst xs)) (hq' : ∀ p, q = some p → ∃ xs, H' p = some (.lst xs)) (h : ∀ b o, q ≠ some b → H b = some o → H' b = some o) : SameX q H H' := by
  refine ⟨fun b o n e _ => h b o n e, fun b e => ?_, fun P ⟨ps, h1, ht, hc⟩ => ?_, hq, hq'⟩
  · cases z : H b with
    | none => rfl
    | some o =>
      by_cases hb : q = some b
      · obtain ⟨xs, q'⟩ := hq' b hb
        rw [e] at q'; cases q'
      · rw [h b o hb z] at e; cases e
  · have np : ∀ {b : Addr} {u : HO}, H b = some u → (∀ xs, u ≠ .lst xs) → q ≠ some b := fun {b u} e d z => by
      obtain ⟨xs, q'⟩ := hq b z
      rw [q'] at e; cases e; exact d _ rfl
    refine ⟨ps, h P _ (np h1 fun _ z => nomatch z) h1, ht, fun pos cv z => ?_⟩
    obtain ⟨c, e1, e2⟩ := hc pos cv z
    exact ⟨c, e1, h c _ (np e2 fun _ z => by unfold CodeO at z; cases z) e2⟩
theorem Same.toX (s : Same H H') (hq : ∀ p, q = some p → ∃ xs, H p = some (.lst xs)) : SameX q H H' := ⟨fun b o _ e n => s.keep b o e n, s.gone, s.tabs, hq, fun p z => let ⟨xs, e⟩ := hq p z; ⟨xs, s.get e⟩⟩
theorem SameX.trans (a : SameX q H H1) (b : SameX q H1 H2) : SameX q H H2 := ⟨fun c o n e z => b.keep c o n (a.keep c o n e z) z, fun c e => a.gone c (b.gone c e), fun P t => b.tabs P (a.tabs P t), a.isl, b.isl'⟩
theorem SameX.andS (a : SameX q H H1) (b : Same H1 H2) : SameX q H H2 := a.trans (b.toX a.isl')
theorem SameX.get (s : SameX q H H') (n : q ≠ some b) [NT o] (e : H b = some o) : H' b = some o := s.keep b o n e NT.ne
theorem SameX.ne (s : SameX q H H') (e : H b = some o) (d : ∀ xs, o ≠ .lst xs) : q ≠ some b := fun z => by
  obtain ⟨xs, q'⟩ := s.isl b z
  rw [q'] at e; cases e; exact d _ rfl
theorem SameX.neN (s : SameX q H H') (e : H b = none) : q ≠ some b := fun z => by
  obtain ⟨xs, q'⟩ := s.isl b z
  rw [q'] at e; cases e
theorem SameX.tup (s : SameX q H H') (e : H b = some (.tup xs)) : H' b = some (.tup xs) := s.get (s.ne e fun _ z => nomatch z) e
theorem SameX.seqT (s : SameX q H H') (h : SqT K H a xs) : SqT K H' a xs := by
  rcases h with (h | ⟨o, h⟩) | h
  · exact .inl (.inl (s.tup h))
  · exact .inl (.inr ⟨o, s.get (s.ne h fun _ z => nomatch z) h⟩)
  · exact .inr h
theorem SameX.pure (s : SameX Option.none H H') : Same H H' := ⟨fun b o e n => s.keep b o (fun z => nomatch z) e n, s.gone, s.tabs⟩
end
/-- a look of n answers; what has been asked for is L -/
structure LookR (CL : CLs) (g : Addr) (n : Nat) (val : Nat → V) (q : Option Addr) (I : List Nat → Hp → Prop) : Prop where
  fn : ∀ {L H}, I L H → IsFn H g
  isq : ∀ {L H}, I L H → ∀ p, q = some p → ∃ xs, H p = some (.lst xs)
  ext : ∀ {L H H'}, I L H → Same H H' → I L H'
  ask : ∀ {L H} {k : Nat} {Q : VK}, I L H → L.length < 9000 → k < n → (∀ H', I (L ++ [k]) H' → SameX q H H' → Q (val k) H') → CL.run 9 g [.int (k : Int)] H Q
theorem LookR.askI {CL : CLs} {g : Addr} {n : Nat} {val : Nat → V} {q : Option Addr} {I : List Nat → Hp → Prop} (R : LookR CL g n val q I) {L : List Nat} {H : Hp} {i : Int} {Q : VK} (h : I L H) (hl : L.length < 9000) (h0 : 0 ≤ i) (hn : i < n)
    (hq : ∀ H', I (L ++ [i.toNat]) H' → SameX q H H' → Q (val i.toNat) H') : CL.run 9 g [.int i] H Q := by
  have e : i = ((i.toNat : Nat) : Int) := by omega
  rw [e]
  exact R.ask h hl (by omega) hq
/-- a pure look, as such a look -/
theorem PureLook.lookR {CL : CLs} {j : Nat} {g : Addr} {xs : List V} {B : Hp} (p : PureLook CL j g xs B) (hj : j ≤ 9) : LookR CL g xs.length (fun k => xs.getD k .non) none (fun _ H => ExtN B H) where
  fn := fun h => (p _ h).1
  isq := fun _ _ z => nomatch z
  ext := fun h s => h.trans s.extN
  ask := fun {L H k Q} h _ hk q => p.askN hj h (show xs[k]? = some (xs.getD k .non) by rw [List.getD_eq_getElem?_getD, List.getElem?_eq_getElem hk]; rfl) fun H' s => q H' (h.trans (All.same s).extN) (((All.same s)).toX fun _ z => nomatch z)
/-- a look that writes down what it is asked for, in the list at ps -/
def LogLook (CL : CLs) (j : Nat) (g ps pb : Addr) (val : List V) (dft : V) (B : Hp) : Prop :=
  ∀ H', ExtN B H' → IsFn H' g ∧ ∀ (L : List Int) (k : Int) (Q : VK), H' ps = some (.lst (L.map V.int)) → L.length < 100000 → H' pb = some (.lst val) → Q (if 0 ≤ k ∧ k < val.length then val.getD k.toNat .non else dft) (upd H' ps (.lst ((L ++ [k]).map V.int))) → CL.run j g [.int k] H' Q
theorem LogLook.ext {CL : CLs} {j : Nat} {g ps pb : Addr} {val : List V} {dft : V} {B B' : Hp} (p : LogLook CL j g ps pb val dft B) (s : ExtN B B') : LogLook CL j g ps pb val dft B' := fun H' s2 => p H' (s.trans s2)
/-- .. between the calls: nothing but ps has changed -/
def LogI (B : Hp) (ps pb : Addr) (val : List V) (L0 : List Int) (L : List Nat) (H : Hp) : Prop := ExtN B H ∧ H ps = some (.lst ((L0 ++ L.map Int.ofNat).map V.int)) ∧ H pb = some (.lst val)
theorem LogLook.lookR {CL : CLs} {j : Nat} {g ps pb : Addr} {val : List V} {dft : V} {B : Hp} {L0 : List Int} (p : LogLook CL j g ps pb val dft B) (hj : j ≤ 9) (hB : ∀ o, B ps = some o → ∃ φ, o = .ext φ) (nb : ps ≠ pb) (hl : L0.length ≤ 90000) :
    LookR CL g val.length (fun k => val.getD k .non) (some ps) (LogI B ps pb val L0) where
  fn := fun h => (p _ h.1).1
  isq := fun h p z => by cases z; exact ⟨_, h.2.1⟩
  ext := fun h s => ⟨h.1.trans s.extN, s.get h.2.1, s.get h.2.2⟩
  ask := fun {L H k Q} h hL hk q => by
    refine CL.mono hj ((p _ h.1).2 _ _ Q h.2.1 (by rw [List.length_append, List.length_map]; omega) h.2.2 ?_)
    rw [if_pos ⟨by omega, by omega⟩, Int.toNat_natCast]
    have ne : ∀ {b : Addr} {o : HO}, B b = some o → b ≠ ps := fun {b o} e z => by
      subst z
      obtain ⟨φ, rfl⟩ := hB o e
      have z2 := h.1 _ _ e fun _ z => nomatch z
      rw [h.2.1] at z2; cases z2
    refine q _ ⟨fun b o e n => ?_, ?_, ?_⟩ (SameX.of (fun p z => by cases z; exact ⟨_, h.2.1⟩) (fun p z => by cases z; exact ⟨_, upd_same⟩) fun b o n e => ?_)
    · rw [upd_ne (ne e)]; exact h.1 b o e n
    · rw [upd_same, List.map_append (f := Int.ofNat), ← List.append_assoc]; rfl
    · rw [upd_ne nb.symm]; exact h.2.2
    · rw [upd_ne fun z => n (by rw [z])]; exact e
theorem LookR.congr {CL : CLs} {g : Addr} {n : Nat} {val val' : Nat → V} {q : Option Addr} {I : List Nat → Hp → Prop} (R : LookR CL g n val q I) (h : ∀ k, k < n → val k = val' k) : LookR CL g n val' q I :=
  ⟨R.fn, R.isq, R.ext, fun {L H k Q} i l hk q => R.ask i l hk (by rw [h k hk]; exact q)⟩
theorem getD_map_int (bl : List Int) {k : Nat} (h : k < bl.length) : (bl.map V.int).getD k .non = .int (bl.getD k 0) := by
  rw [List.getD_eq_getElem?_getD, List.getD_eq_getElem?_getD, mapint (List.getElem?_eq_getElem h), List.getElem?_eq_getElem h]; rfl
theorem LogLook.lookI {CL : CLs} {j : Nat} {g ps pb : Addr} {bl : List Int} {dft : V} {B : Hp} {L0 : List Int} (p : LogLook CL j g ps pb (bl.map V.int) dft B) (hj : j ≤ 9) (hB : ∀ o, B ps = some o → ∃ φ, o = .ext φ) (nb : ps ≠ pb) (hl : L0.length ≤ 90000) :
    LookR CL g bl.length (fun k => .int (bl.getD k 0)) (some ps) (LogI B ps pb (bl.map V.int) L0) := by
  have R := (p.lookR hj hB nb hl).congr (val' := fun k => .int (bl.getD k 0)) fun k hk => getD_map_int bl (by rw [List.length_map] at hk; exact hk)
  rw [List.length_map] at R
  exact R
theorem PureLook.lookI {CL : CLs} {j : Nat} {g : Addr} {bl : List Int} {B : Hp} (p : PureLook CL j g (bl.map V.int) B) (hj : j ≤ 9) : LookR CL g bl.length (fun k => .int (bl.getD k 0)) none (fun _ H => ExtN B H) := by
  have R := (p.lookR hj).congr (val' := fun k => .int (bl.getD k 0)) fun k hk => getD_map_int bl (by rw [List.length_map] at hk; exact hk)
  rw [List.length_map] at R
  exact R
section
variable {B H H0 H' : Hp} {ps pb a : Addr} {val : List V} {L0 : List Int} {L : List Nat} {xs : List V} {K : PySem.W.Frag} {q : Option Addr} {o : HO}
theorem extN_upd (s : ExtN B H) (hB : ∀ o, B ps = some o → ∃ φ, o = .ext φ) (e : H ps = some (.lst xs)) : ExtN B (upd H ps o) := fun b u z n => by
  have nb : b ≠ ps := fun y => by
    subst y
    obtain ⟨φ, rfl⟩ := hB u z
    have z2 := s _ _ z fun _ z => nomatch z
    rw [e] at z2; cases z2
  rw [upd_ne nb]; exact s b u z n
theorem LogI.clear (h : LogI B ps pb val L0 L H) (hB : ∀ o, B ps = some o → ∃ φ, o = .ext φ) (nb : ps ≠ pb) : LogI B ps pb val [] [] (upd H ps (.lst [])) :=
  ⟨extN_upd h.1 hB h.2.1, upd_same, by rw [upd_ne nb.symm]; exact h.2.2⟩
/-- what was asked for is the start of what follows -/
theorem LogI.again (h : LogI B ps pb val L0 L H) : LogI B ps pb val (L0 ++ L.map Int.ofNat) [] H := ⟨h.1, by simpa using h.2.1, h.2.2⟩
theorem SameX.upd (s : SameX (some ps) H H') : SameX (some ps) H (upd H' ps (.lst xs)) := by
  obtain ⟨ys, e⟩ := s.isl' ps rfl
  refine s.trans (SameX.of s.isl' (fun p z => by cases z; exact ⟨_, upd_same⟩) fun b o n e => ?_)
  rw [upd_ne fun z => n (by rw [z])]; exact e
theorem SameX.seqO (h : SqL K H a xs) (s0 : Same H H0) (hps : H ps = none) (s : SameX (some ps) H0 H') : SqL K H' a xs := by
  have ne : ∀ {o}, H a = some o → (some ps : Option Addr) ≠ some a := fun {o} e z => by cases z; rw [hps] at e; cases e
  rcases h with (z | ⟨o, z⟩) | z
  · exact .inl (.inl (s.get (ne z) (s0.get z)))
  · exact .inl (.inr ⟨o, s.get (ne z) (s0.get z)⟩)
  · exact .inr z
end
/-- the list that changes is new -/
theorem SameX.fresh {H H1 H' : Hp} {ps : Addr} (s : Same H H1) (h : H ps = none) (x : SameX (some ps) H1 H') : Same H H' :=
  ⟨fun b o e n => x.keep b o (fun z => by cases z; rw [h] at e; cases e) (s.keep b o e n) n, fun b e => s.gone b (x.gone b e), fun P t => x.tabs P (s.tabs P t)⟩
theorem LogI.start {H H1 : Hp} {ps pb : Addr} {val : List V} {L0 : List Int} (e : H1 ps = some (.lst (L0.map V.int))) (b : H1 pb = some (.lst val)) : LogI (newOf H H1) ps pb val L0 [] H1 :=
  ⟨newOf_extN (ExtN.refl _), by simpa using e, b⟩
/-- the same, of places that are there alone -/
def LogLookN (CL : CLs) (j : Nat) (g ps pb : Addr) (val : List V) (B : Hp) : Prop :=
  ∀ H', ExtN B H' → IsFn H' g ∧ ∀ (L : List Int) (k : Nat) (x : V) (Q : VK), H' ps = some (.lst (L.map V.int)) → L.length < 100000 → H' pb = some (.lst val) → val[k]? = some x → Q x (upd H' ps (.lst ((L ++ [(k : Int)]).map V.int))) → CL.run j g [.int (k : Int)] H' Q
theorem LogLookN.ext {CL : CLs} {j : Nat} {g ps pb : Addr} {val : List V} {B B' : Hp} (p : LogLookN CL j g ps pb val B) (s : ExtN B B') : LogLookN CL j g ps pb val B' := fun H' s2 => p H' (s.trans s2)
theorem LogLookN.lookR {CL : CLs} {j : Nat} {g ps pb : Addr} {val : List V} {B : Hp} {L0 : List Int} (p : LogLookN CL j g ps pb val B) (hj : j ≤ 9) (hB : ∀ o, B ps = some o → ∃ φ, o = .ext φ) (nb : ps ≠ pb) (hl : L0.length ≤ 90000) :
    LookR CL g val.length (fun k => val.getD k .non) (some ps) (LogI B ps pb val L0) where
  fn := fun h => (p _ h.1).1
  isq := fun h p z => by cases z; exact ⟨_, h.2.1⟩
  ext := fun h s => ⟨h.1.trans s.extN, s.get h.2.1, s.get h.2.2⟩
  ask := fun {L H k Q} h hL hk q => by
    refine CL.mono hj ((p _ h.1).2 _ k (val.getD k .non) Q h.2.1 (by rw [List.length_append, List.length_map]; omega) h.2.2 (by rw [List.getD_eq_getElem?_getD, List.getElem?_eq_getElem hk]; rfl) ?_)
    refine q _ ⟨extN_upd h.1 hB h.2.1, ?_, ?_⟩ (SameX.of (fun p z => by cases z; exact ⟨_, h.2.1⟩) (fun p z => by cases z; exact ⟨_, upd_same⟩) fun b o n e => ?_)
    · rw [upd_same, List.map_append (f := Int.ofNat), ← List.append_assoc]; rfl
    · rw [upd_ne nb.symm]; exact h.2.2
    · rw [upd_ne fun z => n (by rw [z])]; exact e
end Tw
/-! ### own classes: fields, methods, makers -/
namespace Tw
open PySem PySem.Spec PyProof.Rows L2
/-- a weaker end -/
def wid (t : TE) : TE := fun σ H Q => ∃ P : VK, t σ H P ∧ ∀ x H1, P x H1 → Q x H1
theorem pe_wid {X : Cx} {e : Expr} {t : TE} (h : PE X e t) : PE X e (wid t) :=
  ⟨fun pins s σ H Q I ⟨P, q, z⟩ => thn (h.run pins s σ H P I q) fun u s1 ⟨v, H1, I1, r, p⟩ => ⟨v, H1, I1, r, z v H1 p⟩⟩
/-- the method m of the class named c keeps the promise sp -/
structure Metf (P : Program) (w : World) (K : PySem.W.Frag) (mg : Str → Option Value) (base : Heap) (CX : CXT) (k : Nat) (c m : Str) (ps : List Str) (sp : Sp) : Prop where
  ex : ∃ fd : FuncData, FnOk P w K mg base CX k (He.ma K (He.ga K c) m) fd ps sp ∧ Binds K fd ps []
  me : Meth K (He.ga K c) m (He.ma K (He.ga K c) m)
  cl : Cls K (He.ga K c)
theorem Metf.imp {P : Program} {w : World} {K : PySem.W.Frag} {mg : Str → Option Value} {base : Heap} {CX : CXT} {k : Nat} {c m : Str} {ps : List Str} {sp sp' : Sp} (F : Metf P w K mg base CX k c m ps sp)
    (h : ∀ vs H Q E, sp' vs H Q E → sp vs H Q E) : Metf P w K mg base CX k c m ps sp' := by
  obtain ⟨⟨fd, ok, hb⟩, me, cl⟩ := F
  exact ⟨⟨fd, ok.imp h, hb⟩, me, cl⟩
/-- o.f -/
def tFldC (K : PySem.W.Frag) (c : Str) (ta : TE) (f : Str) : TE := fun σ H Q => ta σ H fun x H1 => ∃ a dx fs v, x = .ref a ∧ H1 a = some (.ins (He.ga K c) dx fs) ∧ fs.lookup f = some v ∧ Q v H1
/-- o.f = value -/
def sFldC (K : PySem.W.Frag) (c : Str) (ta tv : TE) (f : Str) : TS := fun D σ H => tv σ H fun y H1 => ta σ H1 fun x H2 => ∃ a dx fs, x = .ref a ∧ H2 a = some (.ins (He.ga K c) dx fs) ∧ fs.length < 1000 ∧ D.nx σ (upd H2 a (.ins (He.ga K c) dx (putF f y fs)))
/-- o.m(..) -/
def tMethC (K : PySem.W.Frag) (c m : Str) (sp : Sp) (E : XK) (ta : TE) (t : TA) : TE := fun σ H Q => ta σ H fun x H1 => (∃ a dx fs, x = .ref a ∧ H1 a = some (.ins (He.ga K c) dx fs) ∧ fs.lookup m = none) ∧ t σ H1 fun vs H2 => sp (x :: vs) H2 Q E
/-- o.m(..) within a try's body -/
def tMethCS (K : PySem.W.Frag) (c m : Str) (sp : Sp) (E : L2.St → XK) (ta : TE) (t : TA) : TE := fun σ H Q => ta σ H fun x H1 => (∃ a dx fs, x = .ref a ∧ H1 a = some (.ins (He.ga K c) dx fs) ∧ fs.lookup m = none) ∧ t σ H1 fun vs H2 => sp (x :: vs) H2 Q (E σ)
/-- o.m(..) of an instance of one of some classes -/
def tMethP (K : PySem.W.Frag) (al : List (Str × Sp)) (m : Str) (E : XK) (ta : TE) (t : TA) : TE := fun σ H Q => ta σ H fun x H1 => ∃ c sp, (c, sp) ∈ al ∧ (∃ a dx fs, x = .ref a ∧ H1 a = some (.ins (He.ga K c) dx fs) ∧ fs.lookup m = none) ∧ t σ H1 fun vs H2 => sp (x :: vs) H2 Q E
def tMethPS (K : PySem.W.Frag) (al : List (Str × Sp)) (m : Str) (E : L2.St → XK) (ta : TE) (t : TA) : TE := fun σ H Q => ta σ H fun x H1 => ∃ c sp, (c, sp) ∈ al ∧ (∃ a dx fs, x = .ref a ∧ H1 a = some (.ins (He.ga K c) dx fs) ∧ fs.lookup m = none) ∧ t σ H1 fun vs H2 => sp (x :: vs) H2 Q (E σ)
/-- C(..) -/
def tMakeC (K : PySem.W.Frag) (c : Str) (sp : Sp) (E : XK) (t : TA) : TE := fun σ H Q => t σ H fun vs H1 => ∀ x dx, H1 x = none → H1 dx = none → dx ≠ x → sp (.ref x :: vs) (upd (upd H1 dx (.own x)) x (.ins (He.ga K c) dx [])) (fun v H2 => v = .non ∧ Q (.ref x) H2) E
section
variable {X : Cx} {CX : CXT} {k j : Nat} {ps : List Str} {sp : Sp} {E : XK} {W : WX} {c m f x : Str} {p pos pos' apos : Pos} {e o value : Expr} {es : List Expr} {ta tv : TE} {t : TA}
theorem pe_fldC (cl : Cls X.K (He.ga X.K c)) (na : NoAttr X.K (He.ga X.K c) f) (he : PE X e ta) (hb : attributeBase e f X.env (eval e X.env) = eval e X.env) : PE X (.Attribute e f pos) (tFldC X.K c ta f) :=
  ⟨fun pins s σ H Q I h => (pe_fld (pe_wid he) hb).run pins s σ H Q I ⟨_, h, fun x H1 ⟨a, dx, fs, v, e1, e2, e3, q⟩ => ⟨a, _, dx, fs, v, e1, e2, cl, na, e3, q⟩⟩⟩
theorem ps_fldC (cl : Cls X.K (He.ga X.K c)) (na : NoAttr X.K (He.ga X.K c) f) (ha : PE X o ta) (hv : PE X value tv) (hs : swapsWith value (some (.Attribute o f pos')) pos.line X.env = pure false) : PS X (.Assign [.Attribute o f pos'] value pos) (sFldC X.K c ta tv f) :=
  ⟨fun pins s σ H D I h => (ps_fld (pe_wid ha) (pe_wid hv) hs).run pins s σ H D I ⟨_, h, fun y H1 q => ⟨_, q, fun x H2 ⟨a, dx, fs, e1, e2, e3, q⟩ => ⟨a, _, dx, fs, e1, e2, cl, na, e3, q⟩⟩⟩⟩
theorem nil_app {sp : Sp} {x : V} {Q : VK} {E : XK} : (fun (vs : List V) (H2 : Hp) => sp (x :: (vs ++ [])) H2 Q E) = fun vs H2 => sp (x :: vs) H2 Q E := by
  funext vs H2; rw [List.append_nil]
theorem pe_methC {pl : Sem Bool} (F : Metf X.prog X.w X.K X.mg X.base CX k c m ps sp) (hr : Room j X.A) (hk : k ≤ j) (he : PE X o ta) (hx : Passes CX X E) (ha : PA X (e :: es) t)
    (hst : starEach (e :: es) X.env = (false, eval e X.env) :: starEach es X.env := by rfl) (hpl : (backTo pos (starEach es X.env)).any (·.1) = false := by rfl)
    (ht : eval (.Call (.Attribute o m apos) (e :: es) [] pos) X.env = (do
      let ov ← eval o X.env
      standAt apos.atName
      let (g, fst) ← holding [ov] (getMethod ov m pl)
      callWith pos g fst (backTo pos (starEach (e :: es) X.env)) (backToKw pos (keywordEach [] X.env))) := by rfl) :
    PE X (.Call (.Attribute o m apos) (e :: es) [] pos) (tMethC X.K c m sp E ta t) := by
  obtain ⟨fd, ok, hb⟩ := F.ex
  refine ⟨fun pins s σ H Q I h => (pe_meth (pl := pl) (pe_wid he) F.cl F.me ok (hr.mono hk) hb .nil hx ha hst hpl ht).run pins s σ H Q I ⟨_, h, fun x H1 ⟨⟨a, dx, fs, e1, e2, e3⟩, q⟩ => ⟨a, dx, fs, e1, e2, e3, ?_⟩⟩⟩
  rw [nil_app]; exact q
theorem pe_methC0 {pl : Sem Bool} (F : Metf X.prog X.w X.K X.mg X.base CX k c m ps sp) (hr : Room j X.A) (hk : k ≤ j) (he : PE X o ta) (hx : Passes CX X E)
    (ht : eval (.Call (.Attribute o m apos) [] [] pos) X.env = (do
      let ov ← eval o X.env
      standAt apos.atName
      let (g, fst) ← holding [ov] (getMethod ov m pl)
      callWith pos g fst (backTo pos (starEach [] X.env)) (backToKw pos (keywordEach [] X.env))) := by rfl) :
    PE X (.Call (.Attribute o m apos) [] [] pos) (tMethC X.K c m sp E ta tNil) := by
  obtain ⟨fd, ok, hb⟩ := F.ex
  refine ⟨fun pins s σ H Q I h => (pe_meth0 (pl := pl) (pe_wid he) F.cl F.me ok (hr.mono hk) hb .nil hx ht).run pins s σ H Q I ⟨_, h, fun x H1 ⟨⟨a, dx, fs, e1, e2, e3⟩, q⟩ => ⟨a, dx, fs, e1, e2, e3, ?_⟩⟩⟩
  show tNil σ H1 fun vs H2 => sp (x :: (vs ++ [])) H2 Q E
  rw [nil_app]; exact q
theorem pe_methCS {pl : Sem Bool} (F : Metf X.prog X.w X.K X.mg X.base (L2.CX X.prog X.w) k c m ps sp) (hr : Room j X.A) (hk : k ≤ j) (he : PE X o ta) (tk : Takes X W) (ha : PA X (e :: es) t)
    (hst : starEach (e :: es) X.env = (false, eval e X.env) :: starEach es X.env := by rfl) (hpl : (backTo pos (starEach es X.env)).any (·.1) = false := by rfl)
    (ht : eval (.Call (.Attribute o m apos) (e :: es) [] pos) X.env = (do
      let ov ← eval o X.env
      standAt apos.atName
      let (g, fst) ← holding [ov] (getMethod ov m pl)
      callWith pos g fst (backTo pos (starEach (e :: es) X.env)) (backToKw pos (keywordEach [] X.env))) := by rfl) :
    PE X (.Call (.Attribute o m apos) (e :: es) [] pos) (tMethCS X.K c m sp (WE W) ta t) := by
  obtain ⟨fd, ok, hb⟩ := F.ex
  refine ⟨fun pins s σ H Q I h => PySem.W.methodCall_KW (pl := pl) (thn (he.run pins s σ H _ I h) fun u s1 z => ?_) ht⟩
  obtain ⟨x, H1, I1, rx, ⟨a, dx, fs, rfl, e2, e3⟩, q⟩ := z
  cases (show u = Value.ref a from rx)
  refine getmeth_ok I1 e2 F.cl F.me e3 (PySem.W.callWith_K (first := [.ref a]) (h₀ := X.base) I1.ok.mod.kin F.me.kp (thn (ha.run pos pins s1 σ H1 _ I1 q) fun us s2 z2 => ?_) hst hpl)
  obtain ⟨vs, H2, I2, r, q2⟩ := z2
  exact ⟨I2.kIn, run_fnS (us := .ref a :: us) (vs := .ref a :: vs) ok (hr.mono hk) hb (passAt tk σ) I2 (.cons rfl r) q2⟩
/-- the methods m of some classes, each with its promise -/
inductive MetAll (P : Program) (w : World) (K : PySem.W.Frag) (mg : Str → Option Value) (base : Heap) (CX : CXT) (j : Nat) (m : Str) : List (Str × Sp) → Prop
  | nil : MetAll P w K mg base CX j m []
  | cons {k : Nat} {c : Str} {ps : List Str} {sp : Sp} {l : List (Str × Sp)} (h : Metf P w K mg base CX k c m ps sp) (hk : k ≤ j) (r : MetAll P w K mg base CX j m l) : MetAll P w K mg base CX j m ((c, sp) :: l)
theorem MetAll.get {P : Program} {w : World} {K : PySem.W.Frag} {mg : Str → Option Value} {base : Heap} {l : List (Str × Sp)} (a : MetAll P w K mg base CX j m l) : ∀ {c : Str} {sp : Sp}, (c, sp) ∈ l → ∃ k ps, k ≤ j ∧ Metf P w K mg base CX k c m ps sp := by
  induction a with
  | nil => intro c sp h; cases h
  | @cons k c' ps sp' l h hk r ih =>
    intro c sp z
    cases z with
    | head => exact ⟨k, ps, hk, h⟩
    | tail _ z => exact ih z
theorem pe_methP {pl : Sem Bool} {al : List (Str × Sp)} (F : MetAll X.prog X.w X.K X.mg X.base CX j m al) (hr : Room j X.A) (he : PE X o ta) (hx : Passes CX X E) (ha : PA X (e :: es) t)
    (hst : starEach (e :: es) X.env = (false, eval e X.env) :: starEach es X.env := by rfl) (hpl : (backTo pos (starEach es X.env)).any (·.1) = false := by rfl)
    (ht : eval (.Call (.Attribute o m apos) (e :: es) [] pos) X.env = (do
      let ov ← eval o X.env
      standAt apos.atName
      let (g, fst) ← holding [ov] (getMethod ov m pl)
      callWith pos g fst (backTo pos (starEach (e :: es) X.env)) (backToKw pos (keywordEach [] X.env))) := by rfl) :
    PE X (.Call (.Attribute o m apos) (e :: es) [] pos) (tMethP X.K al m E ta t) := by
  refine ⟨fun pins s σ H Q I h => PySem.W.methodCall_KW (pl := pl) (thn (he.run pins s σ H _ I h) fun u s1 z => ?_) ht⟩
  obtain ⟨x, H1, I1, rx, c, sp, hm, ⟨a, dx, fs, rfl, e2, e3⟩, q⟩ := z
  cases (show u = Value.ref a from rx)
  obtain ⟨k, ps, hk, M⟩ := F.get hm
  obtain ⟨fd, ok, hb⟩ := M.ex
  refine getmeth_ok I1 e2 M.cl M.me e3 (PySem.W.callWith_K (first := [.ref a]) (h₀ := X.base) I1.ok.mod.kin M.me.kp (thn (ha.run pos pins s1 σ H1 _ I1 q) fun us s2 z2 => ?_) hst hpl)
  obtain ⟨vs, H2, I2, r, q2⟩ := z2
  exact ⟨I2.kIn, run_fn (us := .ref a :: us) (vs := .ref a :: vs) (dvs := []) (ds := []) ok (hr.mono hk) hb .nil hx I2 (.cons rfl r) (by rw [List.append_nil]; exact q2)⟩
theorem pe_methP0 {pl : Sem Bool} {al : List (Str × Sp)} (F : MetAll X.prog X.w X.K X.mg X.base CX j m al) (hr : Room j X.A) (he : PE X o ta) (hx : Passes CX X E)
    (ht : eval (.Call (.Attribute o m apos) [] [] pos) X.env = (do
      let ov ← eval o X.env
      standAt apos.atName
      let (g, fst) ← holding [ov] (getMethod ov m pl)
      callWith pos g fst (backTo pos (starEach [] X.env)) (backToKw pos (keywordEach [] X.env))) := by rfl) :
    PE X (.Call (.Attribute o m apos) [] [] pos) (tMethP X.K al m E ta tNil) := by
  refine ⟨fun pins s σ H Q I h => PySem.W.methodCall_KW (pl := pl) (thn (he.run pins s σ H _ I h) fun u s1 z => ?_) ht⟩
  obtain ⟨x, H1, I1, rx, c, sp, hm, ⟨a, dx, fs, rfl, e2, e3⟩, q⟩ := z
  cases (show u = Value.ref a from rx)
  obtain ⟨k, ps, hk, M⟩ := F.get hm
  obtain ⟨fd, ok, hb⟩ := M.ex
  exact getmeth_ok I1 e2 M.cl M.me e3 (PySem.W.callWith_K0 (first := [.ref a]) I1.kIn M.me.kp (run_fn (us := [.ref a]) (vs := [.ref a]) (dvs := []) (ds := []) ok (hr.mono hk) hb .nil hx I1 (.cons rfl .nil) q))
theorem pe_methPS {pl : Sem Bool} {al : List (Str × Sp)} (F : MetAll X.prog X.w X.K X.mg X.base (L2.CX X.prog X.w) j m al) (hr : Room j X.A) (he : PE X o ta) (tk : Takes X W) (ha : PA X (e :: es) t)
    (hst : starEach (e :: es) X.env = (false, eval e X.env) :: starEach es X.env := by rfl) (hpl : (backTo pos (starEach es X.env)).any (·.1) = false := by rfl)
    (ht : eval (.Call (.Attribute o m apos) (e :: es) [] pos) X.env = (do
      let ov ← eval o X.env
      standAt apos.atName
      let (g, fst) ← holding [ov] (getMethod ov m pl)
      callWith pos g fst (backTo pos (starEach (e :: es) X.env)) (backToKw pos (keywordEach [] X.env))) := by rfl) :
    PE X (.Call (.Attribute o m apos) (e :: es) [] pos) (tMethPS X.K al m (WE W) ta t) := by
  refine ⟨fun pins s σ H Q I h => PySem.W.methodCall_KW (pl := pl) (thn (he.run pins s σ H _ I h) fun u s1 z => ?_) ht⟩
  obtain ⟨x, H1, I1, rx, c, sp, hm, ⟨a, dx, fs, rfl, e2, e3⟩, q⟩ := z
  cases (show u = Value.ref a from rx)
  obtain ⟨k, ps, hk, M⟩ := F.get hm
  obtain ⟨fd, ok, hb⟩ := M.ex
  refine getmeth_ok I1 e2 M.cl M.me e3 (PySem.W.callWith_K (first := [.ref a]) (h₀ := X.base) I1.ok.mod.kin M.me.kp (thn (ha.run pos pins s1 σ H1 _ I1 q) fun us s2 z2 => ?_) hst hpl)
  obtain ⟨vs, H2, I2, r, q2⟩ := z2
  exact ⟨I2.kIn, run_fnS (us := .ref a :: us) (vs := .ref a :: vs) ok (hr.mono hk) hb (passAt tk σ) I2 (.cons rfl r) q2⟩
theorem make_app {sp : Sp} {K : PySem.W.Frag} {Q : VK} {E : XK} : (fun (vs : List V) (H1 : Hp) => ∀ x dx, H1 x = none → H1 dx = none → dx ≠ x → sp (.ref x :: (vs ++ [])) (upd (upd H1 dx (.own x)) x (.ins (He.ga K c) dx [])) (fun v H2 => v = .non ∧ Q (.ref x) H2) E) =
    fun vs H1 => ∀ x dx, H1 x = none → H1 dx = none → dx ≠ x → sp (.ref x :: vs) (upd (upd H1 dx (.own x)) x (.ins (He.ga K c) dx [])) (fun v H2 => v = .non ∧ Q (.ref x) H2) E := by
  funext vs H1; rw [List.append_nil]
theorem pe_makeC (M : Mk X.K (He.ga X.K c) (He.ma X.K (He.ga X.K c) "__init__")) (hm : X.mg c = some (.ref (He.ga X.K c))) (F : Metf X.prog X.w X.K X.mg X.base CX k c "__init__" ps sp) (hr : Room j X.A) (hk : k + 1 ≤ j) (hg : Gl X c) (hx : Passes CX X E) (ha : PA X (e :: es) t)
    (hdb : (c == ("__debug__" : Str)) = false := by decide) (hst : starEach (e :: es) X.env = (false, eval e X.env) :: starEach es X.env := by rfl) (hpl : (backTo pos (starEach es X.env)).any (·.1) = false := by rfl) :
    PE X (.Call (.Name c p) (e :: es) [] pos) (tMakeC X.K c sp E t) := by
  obtain ⟨fd, ok, hb⟩ := F.ex
  refine ⟨fun pins s σ H Q I h => (pe_make M ok (hr.mono hk) hg hm hb .nil hx ha hdb hst hpl).run pins s σ H Q I ?_⟩
  show t σ H fun vs H1 => ∀ x dx, H1 x = none → H1 dx = none → dx ≠ x → sp (.ref x :: (vs ++ [])) (upd (upd H1 dx (.own x)) x (.ins (He.ga X.K c) dx [])) (fun v H2 => v = .non ∧ Q (.ref x) H2) E
  rw [make_app]; exact h
end
section
variable {K : PySem.W.Frag} {c m f : Str} {ta tv : TE} {t : TA} {σ : L2.St} {H : Hp} {Q rt : VK} {sp : Sp} {E : XK} {nx bk ct : L2.St → Hp → Prop} {a dx : Addr} {fs : List (Str × V)} {v y : V}
def FldK (K : PySem.W.Frag) (c f : Str) (Q : VK) (x : V) (H1 : Hp) : Prop := ∃ a dx fs v, x = .ref a ∧ H1 a = some (.ins (He.ga K c) dx fs) ∧ fs.lookup f = some v ∧ Q v H1
theorem m_fld (h : ta σ H (FldK K c f Q)) : tFldC K c ta f σ H Q := h
theorem m_fldE (e : H a = some (.ins (He.ga K c) dx fs)) (l : fs.lookup f = some v) (q : Q v H) : FldK K c f Q (.ref a) H := ⟨a, dx, fs, v, rfl, e, l, q⟩
def PutK (K : PySem.W.Frag) (c f : Str) (nx : Hp → Prop) (y x : V) (H2 : Hp) : Prop := ∃ a dx fs, x = .ref a ∧ H2 a = some (.ins (He.ga K c) dx fs) ∧ fs.length < 1000 ∧ nx (upd H2 a (.ins (He.ga K c) dx (putF f y fs)))
theorem m_put (h : tv σ H fun y H1 => ta σ H1 (PutK K c f (nx σ) y)) : sFldC K c ta tv f (Ends.mk nx rt bk ct) σ H := h
theorem m_putE {n : Hp → Prop} (e : H a = some (.ins (He.ga K c) dx fs)) (l : fs.length < 1000) (q : n (upd H a (.ins (He.ga K c) dx (putF f y fs)))) : PutK K c f n y (.ref a) H := ⟨a, dx, fs, rfl, e, l, q⟩
def MethK (K : PySem.W.Frag) (c m : Str) (sp : Sp) (Q : VK) (E : XK) (t : TA) (σ : L2.St) (x : V) (H1 : Hp) : Prop := (∃ a dx fs, x = .ref a ∧ H1 a = some (.ins (He.ga K c) dx fs) ∧ fs.lookup m = none) ∧ t σ H1 fun vs H2 => sp (x :: vs) H2 Q E
theorem m_meth (h : ta σ H (MethK K c m sp Q E t σ)) : tMethC K c m sp E ta t σ H Q := h
theorem m_methS {E : L2.St → XK} (h : ta σ H (MethK K c m sp Q (E σ) t σ)) : tMethCS K c m sp E ta t σ H Q := h
theorem m_methE (e : H a = some (.ins (He.ga K c) dx fs)) (l : fs.lookup m = none) (q : t σ H fun vs H2 => sp (.ref a :: vs) H2 Q E) : MethK K c m sp Q E t σ (.ref a) H := ⟨⟨a, dx, fs, rfl, e, l⟩, q⟩
def MethPK (K : PySem.W.Frag) (al : List (Str × Sp)) (m : Str) (Q : VK) (E : XK) (t : TA) (σ : L2.St) (x : V) (H1 : Hp) : Prop := ∃ c sp, (c, sp) ∈ al ∧ (∃ a dx fs, x = .ref a ∧ H1 a = some (.ins (He.ga K c) dx fs) ∧ fs.lookup m = none) ∧ t σ H1 fun vs H2 => sp (x :: vs) H2 Q E
theorem m_methP {al : List (Str × Sp)} (h : ta σ H (MethPK K al m Q E t σ)) : tMethP K al m E ta t σ H Q := h
theorem m_methPS {al : List (Str × Sp)} {E : L2.St → XK} (h : ta σ H (MethPK K al m Q (E σ) t σ)) : tMethPS K al m E ta t σ H Q := h
theorem m_methPE {al : List (Str × Sp)} (hm : (c, sp) ∈ al) (e : H a = some (.ins (He.ga K c) dx fs)) (l : fs.lookup m = none) (q : t σ H fun vs H2 => sp (.ref a :: vs) H2 Q E) : MethPK K al m Q E t σ (.ref a) H := ⟨c, sp, hm, ⟨a, dx, fs, rfl, e, l⟩, q⟩
def MakeK (K : PySem.W.Frag) (c : Str) (sp : Sp) (Q : VK) (E : XK) (vs : List V) (H1 : Hp) : Prop := ∀ x dx, H1 x = none → H1 dx = none → dx ≠ x → sp (.ref x :: vs) (upd (upd H1 dx (.own x)) x (.ins (He.ga K c) dx [])) (fun v H2 => v = .non ∧ Q (.ref x) H2) E
theorem m_make (h : t σ H (MakeK K c sp Q E)) : tMakeC K c sp E t σ H Q := h
theorem k_isBl {b c : Bool} (q : Q (.bl (decide (b = c))) H) : L2.rIsB (.bl b) (.bl c) H Q := ⟨b, c, rfl, rfl, q⟩
theorem k_notBl {b c : Bool} (q : Q (.bl (!decide (b = c))) H) : L2.rNotB (.bl b) (.bl c) H Q := ⟨b, c, rfl, rfl, q⟩
theorem upd_id {o : HO} (e : H a = some o) : upd H a o = H := by
  funext b
  by_cases z : b = a
  · rw [z, upd_same, e]
  · rw [upd_ne z]
/-- an instance is no table: it may change where H does not know it -/
theorem Same.mutI {H H' : Hp} {p C d : Addr} {o : HO} (e : Same H H') (h : H p = none) (hl : H' p = some (.ins C d fs)) : Same H (upd H' p o) := by
  refine ⟨fun b x hb n => by rw [upd_ne (ne_of_none hb h)]; exact e.keep b x hb n, fun b hb => e.gone b (NdefX.upd_none hb), fun P t => ?_⟩
  obtain ⟨ps, h1, ht, hc⟩ := e.tabs P t
  have np : ∀ {b : Addr} {u : HO}, H' b = some u → (∀ fs, u ≠ .ins C d fs) → b ≠ p := fun {b u} q n z => by
    subst z; rw [hl] at q; cases q; exact n _ rfl
  refine ⟨ps, by rw [upd_ne (np h1 fun _ z => nomatch z)]; exact h1, ht, fun pos cv q => ?_⟩
  obtain ⟨c, e1, e2⟩ := hc pos cv q
  exact ⟨c, e1, by rw [upd_ne (np e2 fun _ z => by unfold LamX.CodeO at z; cases z)]; exact e2⟩
end
end Tw
/-! ### the head's look at the heap, farther into own classes alone -/
namespace Tw
open PySem PySem.Spec PyProof.Rows L2
def growsN (g : Addr → Option Obj) : Nat → List Addr → List Addr
  | 0, as => as
  | n + 1, as => growsN g n (He.growD g as)
def asY (n k : Nat) (cs : List Str) (g : Addr → Option Obj) : List Addr := He.asD g n ++ growsN g k (cs.map (He.ga (He.frT g (He.asD g n))))
def obsY (as : (Addr → Option Obj) → List Addr) (fa : List He.Fa) (fn : List He.DefD) (tf : List He.Defn) (ex : PySem.W.Frag → Bool) (g : Addr → Option Obj) : He.AlX :=
  (He.obsT fa fn [] (He.frT g (as g)), ex (He.frT g (as g)) && He.tabsB g tf (He.frT g (as g)))
theorem saysY {as : (Addr → Option Obj) → List Addr} {fa : List He.Fa} {fn : List He.DefD} {tf : List He.Defn} {ex : PySem.W.Frag → Bool} {w : World} {h : Heap} (e : obsY as fa fn tf ex h.get? = He.valX fn [] w) : He.SaysX fa fn [] tf ex w h (He.frT h.get? (as h.get?)) := by
  have told : He.obsT fa fn [] (He.frT h.get? (as h.get?)) = He.valT fn [] w := congrArg Prod.fst e
  have rest : (ex (He.frT h.get? (as h.get?)) && He.tabsB h.get? tf (He.frT h.get? (as h.get?))) = true := congrArg Prod.snd e
  obtain ⟨r1, r2⟩ := Bool.and_eq_true_iff.mp rest
  generalize hK : He.frT h.get? (as h.get?) = K at told r1 r2 ⊢
  have one : ∀ q ∈ tf, PySem.W.codeHdIn K (He.cT K q).1 (He.cT K q).2 = true ∧ h.get? (He.cT K q).2 = some { cls := .none, data := .fields #[] } ∧ K.lookup (He.cT K q).2 = none := by
    intro q hq
    obtain ⟨c1, c2⟩ := Bool.and_eq_true_iff.mp (List.all_eq_true.mp (show tf.all _ = true from r2) q hq)
    cases z : h.get? (He.cT K q).2 with
    | none => rw [z] at c2; cases c2
    | some o =>
      rw [z] at c2
      have c2 : He.emptyTab o = true := c2
      exact ⟨c1, congrArg some (He.emptyTab_eq c2), by rw [← hK] at z ⊢; exact He.frT_none z c2⟩
  exact ⟨told, r1, fun q hq => (one q hq).1, fun q hq => (one q hq).2.2, fun q hq => (one q hq).2.1⟩
def hookY (as : (Addr → Option Obj) → List Addr) (fa : List He.Fa) (fn : List He.DefD) (tf : List He.Defn) (ex : PySem.W.Frag → Bool) : PySem.W.Hook where
  α := He.AlX
  obs := fun s => obsY as fa fn tf ex s.heap.get?
  val := fun w => He.valX fn [] w
  says := (He.hookX 0 fa fn [] tf ex).says
  of := fun _ _ e => ⟨_, He.frT_in, saysY e⟩
  keeps := (He.hookX 0 fa fn [] tf ex).keeps
theorem obsY_eq {as : (Addr → Option Obj) → List Addr} {fa : List He.Fa} {fn : List He.DefD} {tf : List He.Defn} {ex : PySem.W.Frag → Bool} {g : Addr → Option Obj} {s : Shared} (h : ∀ a, g a = s.heap.get? a) : obsY as fa fn tf ex g = (hookY as fa fn tf ex).obs s := by
  obtain rfl : g = s.heap.get? := funext h
  rfl
end Tw
open PySem PySem.Spec PyProof.Rows L2 Tw
set_option hygiene false in
local macro_rules | `(tactic| walk_at "s1") => `(tactic| first
  | with_reducible refine m_seq ?_
  | with_reducible refine k_asg ?_
  | with_reducible refine m_asg ?_
  | ((with_reducible refine' k_var ?kv ?_); case kv => walk_at "look")
  | with_reducible refine k_c ?_
  | with_reducible refine k_op ?_
  | with_reducible refine k_I0 ?_
  | ((with_reducible refine k_I ?kv ?_); case kv => walk_at "cond")
  | with_reducible refine k_and1 ?_
  | with_reducible refine k_eqI ?_
  | with_reducible refine k_neI ?_
  | ((with_reducible refine k_eq ?kv ?_); case kv => exact rfl)
  | ((with_reducible refine k_ne ?kv ?_); case kv => exact rfl)
  | with_reducible refine k_isN ?_
  | with_reducible refine k_notN ?_
  | with_reducible refine k_nx ?_
  | with_reducible refine k_rt ?_
  | with_reducible refine m_next ?_
  | with_reducible refine m_bk ?_
  | with_reducible refine m_ct ?_
  | with_reducible refine k_if ?_
  | with_reducible refine k_test ?_
  | with_reducible refine k_tB ?_
  | with_reducible refine k_bl ?_
  | with_reducible refine k_chain ?_
  | with_reducible refine k_chainE ?_
  | with_reducible refine k_not ?_
  | with_reducible refine k_and ?_
  | with_reducible refine k_or ?_
  | with_reducible refine k_andV ?_
  | with_reducible refine k_orV ?_
  | with_reducible refine k_notV ?_
  | with_reducible refine k_ifE ?_
  | with_reducible refine k_ret ?_
  | with_reducible refine k_retN ?_
  | with_reducible refine k_drop ?_
  | with_reducible refine k_cons ?_
  | with_reducible refine k_nil ?_
  | with_reducible refine m_call ?_
  | with_reducible refine m_callS ?_
  | with_reducible refine k_rz ?_
  | with_reducible refine m_tryAs ?_
  | with_reducible refine m_tryOnly ?_
  | with_reducible refine m_tryM ?_
  | with_reducible refine k_cb ?_
  | with_reducible refine k_tup ?_
  | with_reducible refine k_lst ?_
  | ((with_reducible refine' k_aug ?kv ?_); case kv => exact rfl)
  | with_reducible refine k_ipI ?_
  | with_reducible refine k_un ?_
  | with_reducible refine k_U ?_
  | with_reducible refine k_sl ?_
  | with_reducible refine k_part ?_
  | with_reducible refine k_noPart ?_
  | with_reducible refine k_partE ?_
  | with_reducible refine k_bm ?_
  | with_reducible refine k_bm0 ?_
  | with_reducible refine k_isInt ?_
  | with_reducible refine k_isBool ?_
  | with_reducible refine k_min2 ?_
  | with_reducible refine k_max2 ?_
  | with_reducible refine m_gName ?_
  | with_reducible refine m_for ?_
  | with_reducible refine m_rng1 ?_
  | ((with_reducible refine m_rng1n ?kv ?_); case kv => walk_at "arith")
  | ((with_reducible refine m_rng1e ?kv ?_); case kv => walk_at "arith")
  | with_reducible refine m_rng2 ?_
  | ((with_reducible refine m_rng2e ?kv ?_); case kv => walk_at "arith")
  | with_reducible refine m_iL ?_
  | with_reducible refine m_iT ?_
  | with_reducible refine m_lc ?_
  | ((with_reducible refine k_disp ?kv ?_); case kv => (first | decide | (simp only [List.length_cons, List.length_nil]; omega)))
  | with_reducible refine m_rev ?_
  | with_reducible refine m_revL ?_
  | with_reducible refine m_enum ?_
  | with_reducible refine m_zip ?_
  | with_reducible refine m_rng3 ?_
  | with_reducible refine m_gCons ?_
  | with_reducible refine m_gNil ?_
  | with_reducible refine m_gSub ?_
  | with_reducible refine m_par ?_
  | with_reducible refine m_parE ?_
  | with_reducible refine m_wbody ?_
  | with_reducible refine m_lenSet ?_
  | with_reducible refine m_minD ?_
  | ((with_reducible refine' m_callV ?kv ?kf ?_); (case kv => walk_at "look"); (case kf => walk_at "isfn"))
  | with_reducible refine k_yes ?_
  | with_reducible refine k_T ?_
  | with_reducible refine k_F ?_
  | with_reducible refine k_nT ?_
  | with_reducible refine k_nF ?_)
local macro_rules | `(tactic| walk_at "cond") => `(tactic| first | exact ⟨by decide, by decide⟩ | omega | decide | exact ⟨by omega, by omega⟩ | exact ⟨by omega, by omega, by decide⟩ | exact Or.inr (by omega) | exact Or.inr (by decide) | exact Or.inl (by omega) | exact Or.inl (by decide) | assumption)
local macro_rules | `(tactic| walk_at "st") => `(tactic| repeat (walk_at "s1"))
local macro_rules | `(tactic| walk_at "look") => `(tactic| first | exact rfl | (simp only [List.getElem?_set, List.getElem?_cons_zero, List.getElem?_cons_succ]; exact rfl))
local macro_rules | `(tactic| walk_at "if") => `(tactic| first | with_reducible apply k_dec | with_reducible apply k_ndec)
local macro_rules | `(tactic| walk_at "arith") => `(tactic| first | decide | omega | (simp only [List.length_map, List.length_take, List.length_drop, List.length_append, List.length_cons, List.length_nil] at *; first | omega | (split <;> omega) | (split <;> split <;> omega)))
local macro_rules | `(tactic| walk_at "isfn") => `(tactic| assumption)
set_option hygiene false in
local macro_rules | `(tactic| walk_at "s1") => `(tactic| first | with_reducible refine m_fld ?_ | with_reducible refine m_put ?_ | with_reducible refine m_meth ?_ | with_reducible refine m_methS ?_ | with_reducible refine m_make ?_ | with_reducible refine m_methP ?_ | with_reducible refine m_methPS ?_)
namespace Tw
structure KFx (K : PySem.W.Frag) : Prop where
  ec_NoBit : ExcC K (He.ga K "NoBit")
  kt_NoBit : PySem.W.kitOne K (.ref (He.ga K "NoBit")) (.type "ValueError") = some true
  k_NoBit_NoBit : PySem.W.kitOne K (.ref (He.ga K "NoBit")) (.ref (He.ga K "NoBit")) = some true
  e_NoBit_NoBit : PySem.W.exmOne K (.ref (He.ga K "NoBit")) (.ref (He.ga K "NoBit")) = some true
  k_NoBit_NoNode : PySem.W.kitOne K (.ref (He.ga K "NoBit")) (.ref (He.ga K "NoNode")) = some false
  e_NoBit_NoNode : PySem.W.exmOne K (.ref (He.ga K "NoBit")) (.ref (He.ga K "NoNode")) = some false
  k_NoBit_NoOctets : PySem.W.kitOne K (.ref (He.ga K "NoBit")) (.ref (He.ga K "NoOctets")) = some false
  e_NoBit_NoOctets : PySem.W.exmOne K (.ref (He.ga K "NoBit")) (.ref (He.ga K "NoOctets")) = some false
  k_NoBit_NoPlace : PySem.W.kitOne K (.ref (He.ga K "NoBit")) (.ref (He.ga K "NoPlace")) = some false
  e_NoBit_NoPlace : PySem.W.exmOne K (.ref (He.ga K "NoBit")) (.ref (He.ga K "NoPlace")) = some false
  k_NoBit_NoSign : PySem.W.kitOne K (.ref (He.ga K "NoBit")) (.ref (He.ga K "NoSign")) = some false
  e_NoBit_NoSign : PySem.W.exmOne K (.ref (He.ga K "NoBit")) (.ref (He.ga K "NoSign")) = some false
  k_NoBit_NoTree : PySem.W.kitOne K (.ref (He.ga K "NoBit")) (.ref (He.ga K "NoTree")) = some false
  e_NoBit_NoTree : PySem.W.exmOne K (.ref (He.ga K "NoBit")) (.ref (He.ga K "NoTree")) = some false
  k_NoBit_NoWord : PySem.W.kitOne K (.ref (He.ga K "NoBit")) (.ref (He.ga K "NoWord")) = some false
  e_NoBit_NoWord : PySem.W.exmOne K (.ref (He.ga K "NoBit")) (.ref (He.ga K "NoWord")) = some false
  k_NoBit_TooMany : PySem.W.kitOne K (.ref (He.ga K "NoBit")) (.ref (He.ga K "TooMany")) = some false
  e_NoBit_TooMany : PySem.W.exmOne K (.ref (He.ga K "NoBit")) (.ref (He.ga K "TooMany")) = some false
  k_NoBit_Twice : PySem.W.kitOne K (.ref (He.ga K "NoBit")) (.ref (He.ga K "Twice")) = some false
  e_NoBit_Twice : PySem.W.exmOne K (.ref (He.ga K "NoBit")) (.ref (He.ga K "Twice")) = some false
  k_NoBit_WoodError : PySem.W.kitOne K (.ref (He.ga K "NoBit")) (.ref (He.ga K "WoodError")) = some true
  e_NoBit_WoodError : PySem.W.exmOne K (.ref (He.ga K "NoBit")) (.ref (He.ga K "WoodError")) = some true
  ec_NoNode : ExcC K (He.ga K "NoNode")
  kt_NoNode : PySem.W.kitOne K (.ref (He.ga K "NoNode")) (.type "ValueError") = some true
  k_NoNode_NoBit : PySem.W.kitOne K (.ref (He.ga K "NoNode")) (.ref (He.ga K "NoBit")) = some false
  e_NoNode_NoBit : PySem.W.exmOne K (.ref (He.ga K "NoNode")) (.ref (He.ga K "NoBit")) = some false
  k_NoNode_NoNode : PySem.W.kitOne K (.ref (He.ga K "NoNode")) (.ref (He.ga K "NoNode")) = some true
  e_NoNode_NoNode : PySem.W.exmOne K (.ref (He.ga K "NoNode")) (.ref (He.ga K "NoNode")) = some true
  k_NoNode_NoOctets : PySem.W.kitOne K (.ref (He.ga K "NoNode")) (.ref (He.ga K "NoOctets")) = some false
  e_NoNode_NoOctets : PySem.W.exmOne K (.ref (He.ga K "NoNode")) (.ref (He.ga K "NoOctets")) = some false
  k_NoNode_NoPlace : PySem.W.kitOne K (.ref (He.ga K "NoNode")) (.ref (He.ga K "NoPlace")) = some false
  e_NoNode_NoPlace : PySem.W.exmOne K (.ref (He.ga K "NoNode")) (.ref (He.ga K "NoPlace")) = some false
  k_NoNode_NoSign : PySem.W.kitOne K (.ref (He.ga K "NoNode")) (.ref (He.ga K "NoSign")) = some false
  e_NoNode_NoSign : PySem.W.exmOne K (.ref (He.ga K "NoNode")) (.ref (He.ga K "NoSign")) = some false
  k_NoNode_NoTree : PySem.W.kitOne K (.ref (He.ga K "NoNode")) (.ref (He.ga K "NoTree")) = some false
  e_NoNode_NoTree : PySem.W.exmOne K (.ref (He.ga K "NoNode")) (.ref (He.ga K "NoTree")) = some false
  k_NoNode_NoWord : PySem.W.kitOne K (.ref (He.ga K "NoNode")) (.ref (He.ga K "NoWord")) = some false
  e_NoNode_NoWord : PySem.W.exmOne K (.ref (He.ga K "NoNode")) (.ref (He.ga K "NoWord")) = some false
  k_NoNode_TooMany : PySem.W.kitOne K (.ref (He.ga K "NoNode")) (.ref (He.ga K "TooMany")) = some false
  e_NoNode_TooMany : PySem.W.exmOne K (.ref (He.ga K "NoNode")) (.ref (He.ga K "TooMany")) = some false
  k_NoNode_Twice : PySem.W.kitOne K (.ref (He.ga K "NoNode")) (.ref (He.ga K "Twice")) = some false
  e_NoNode_Twice : PySem.W.exmOne K (.ref (He.ga K "NoNode")) (.ref (He.ga K "Twice")) = some false
  k_NoNode_WoodError : PySem.W.kitOne K (.ref (He.ga K "NoNode")) (.ref (He.ga K "WoodError")) = some true
  e_NoNode_WoodError : PySem.W.exmOne K (.ref (He.ga K "NoNode")) (.ref (He.ga K "WoodError")) = some true
  ec_NoOctets : ExcC K (He.ga K "NoOctets")
  kt_NoOctets : PySem.W.kitOne K (.ref (He.ga K "NoOctets")) (.type "ValueError") = some true
  k_NoOctets_NoBit : PySem.W.kitOne K (.ref (He.ga K "NoOctets")) (.ref (He.ga K "NoBit")) = some false
  e_NoOctets_NoBit : PySem.W.exmOne K (.ref (He.ga K "NoOctets")) (.ref (He.ga K "NoBit")) = some false
  k_NoOctets_NoNode : PySem.W.kitOne K (.ref (He.ga K "NoOctets")) (.ref (He.ga K "NoNode")) = some false
  e_NoOctets_NoNode : PySem.W.exmOne K (.ref (He.ga K "NoOctets")) (.ref (He.ga K "NoNode")) = some false
  k_NoOctets_NoOctets : PySem.W.kitOne K (.ref (He.ga K "NoOctets")) (.ref (He.ga K "NoOctets")) = some true
  e_NoOctets_NoOctets : PySem.W.exmOne K (.ref (He.ga K "NoOctets")) (.ref (He.ga K "NoOctets")) = some true
  k_NoOctets_NoPlace : PySem.W.kitOne K (.ref (He.ga K "NoOctets")) (.ref (He.ga K "NoPlace")) = some false
  e_NoOctets_NoPlace : PySem.W.exmOne K (.ref (He.ga K "NoOctets")) (.ref (He.ga K "NoPlace")) = some false
  k_NoOctets_NoSign : PySem.W.kitOne K (.ref (He.ga K "NoOctets")) (.ref (He.ga K "NoSign")) = some false
  e_NoOctets_NoSign : PySem.W.exmOne K (.ref (He.ga K "NoOctets")) (.ref (He.ga K "NoSign")) = some false
  k_NoOctets_NoTree : PySem.W.kitOne K (.ref (He.ga K "NoOctets")) (.ref (He.ga K "NoTree")) = some false
  e_NoOctets_NoTree : PySem.W.exmOne K (.ref (He.ga K "NoOctets")) (.ref (He.ga K "NoTree")) = some false
  k_NoOctets_NoWord : PySem.W.kitOne K (.ref (He.ga K "NoOctets")) (.ref (He.ga K "NoWord")) = some false
  e_NoOctets_NoWord : PySem.W.exmOne K (.ref (He.ga K "NoOctets")) (.ref (He.ga K "NoWord")) = some false
  k_NoOctets_TooMany : PySem.W.kitOne K (.ref (He.ga K "NoOctets")) (.ref (He.ga K "TooMany")) = some false
  e_NoOctets_TooMany : PySem.W.exmOne K (.ref (He.ga K "NoOctets")) (.ref (He.ga K "TooMany")) = some false
  k_NoOctets_Twice : PySem.W.kitOne K (.ref (He.ga K "NoOctets")) (.ref (He.ga K "Twice")) = some false
  e_NoOctets_Twice : PySem.W.exmOne K (.ref (He.ga K "NoOctets")) (.ref (He.ga K "Twice")) = some false
  k_NoOctets_WoodError : PySem.W.kitOne K (.ref (He.ga K "NoOctets")) (.ref (He.ga K "WoodError")) = some true
  e_NoOctets_WoodError : PySem.W.exmOne K (.ref (He.ga K "NoOctets")) (.ref (He.ga K "WoodError")) = some true
  ec_NoPlace : ExcC K (He.ga K "NoPlace")
  kt_NoPlace : PySem.W.kitOne K (.ref (He.ga K "NoPlace")) (.type "ValueError") = some true
  k_NoPlace_NoBit : PySem.W.kitOne K (.ref (He.ga K "NoPlace")) (.ref (He.ga K "NoBit")) = some false
  e_NoPlace_NoBit : PySem.W.exmOne K (.ref (He.ga K "NoPlace")) (.ref (He.ga K "NoBit")) = some false
  k_NoPlace_NoNode : PySem.W.kitOne K (.ref (He.ga K "NoPlace")) (.ref (He.ga K "NoNode")) = some false
  e_NoPlace_NoNode : PySem.W.exmOne K (.ref (He.ga K "NoPlace")) (.ref (He.ga K "NoNode")) = some false
  k_NoPlace_NoOctets : PySem.W.kitOne K (.ref (He.ga K "NoPlace")) (.ref (He.ga K "NoOctets")) = some false
  e_NoPlace_NoOctets : PySem.W.exmOne K (.ref (He.ga K "NoPlace")) (.ref (He.ga K "NoOctets")) = some false
  k_NoPlace_NoPlace : PySem.W.kitOne K (.ref (He.ga K "NoPlace")) (.ref (He.ga K "NoPlace")) = some true
  e_NoPlace_NoPlace : PySem.W.exmOne K (.ref (He.ga K "NoPlace")) (.ref (He.ga K "NoPlace")) = some true
  k_NoPlace_NoSign : PySem.W.kitOne K (.ref (He.ga K "NoPlace")) (.ref (He.ga K "NoSign")) = some false
  e_NoPlace_NoSign : PySem.W.exmOne K (.ref (He.ga K "NoPlace")) (.ref (He.ga K "NoSign")) = some false
  k_NoPlace_NoTree : PySem.W.kitOne K (.ref (He.ga K "NoPlace")) (.ref (He.ga K "NoTree")) = some false
  e_NoPlace_NoTree : PySem.W.exmOne K (.ref (He.ga K "NoPlace")) (.ref (He.ga K "NoTree")) = some false
  k_NoPlace_NoWord : PySem.W.kitOne K (.ref (He.ga K "NoPlace")) (.ref (He.ga K "NoWord")) = some false
  e_NoPlace_NoWord : PySem.W.exmOne K (.ref (He.ga K "NoPlace")) (.ref (He.ga K "NoWord")) = some false
  k_NoPlace_TooMany : PySem.W.kitOne K (.ref (He.ga K "NoPlace")) (.ref (He.ga K "TooMany")) = some false
  e_NoPlace_TooMany : PySem.W.exmOne K (.ref (He.ga K "NoPlace")) (.ref (He.ga K "TooMany")) = some false
  k_NoPlace_Twice : PySem.W.kitOne K (.ref (He.ga K "NoPlace")) (.ref (He.ga K "Twice")) = some false
  e_NoPlace_Twice : PySem.W.exmOne K (.ref (He.ga K "NoPlace")) (.ref (He.ga K "Twice")) = some false
  k_NoPlace_WoodError : PySem.W.kitOne K (.ref (He.ga K "NoPlace")) (.ref (He.ga K "WoodError")) = some true
  e_NoPlace_WoodError : PySem.W.exmOne K (.ref (He.ga K "NoPlace")) (.ref (He.ga K "WoodError")) = some true
  ec_NoSign : ExcC K (He.ga K "NoSign")
  kt_NoSign : PySem.W.kitOne K (.ref (He.ga K "NoSign")) (.type "ValueError") = some true
  k_NoSign_NoBit : PySem.W.kitOne K (.ref (He.ga K "NoSign")) (.ref (He.ga K "NoBit")) = some false
  e_NoSign_NoBit : PySem.W.exmOne K (.ref (He.ga K "NoSign")) (.ref (He.ga K "NoBit")) = some false
  k_NoSign_NoNode : PySem.W.kitOne K (.ref (He.ga K "NoSign")) (.ref (He.ga K "NoNode")) = some false
  e_NoSign_NoNode : PySem.W.exmOne K (.ref (He.ga K "NoSign")) (.ref (He.ga K "NoNode")) = some false
  k_NoSign_NoOctets : PySem.W.kitOne K (.ref (He.ga K "NoSign")) (.ref (He.ga K "NoOctets")) = some false
  e_NoSign_NoOctets : PySem.W.exmOne K (.ref (He.ga K "NoSign")) (.ref (He.ga K "NoOctets")) = some false
  k_NoSign_NoPlace : PySem.W.kitOne K (.ref (He.ga K "NoSign")) (.ref (He.ga K "NoPlace")) = some false
  e_NoSign_NoPlace : PySem.W.exmOne K (.ref (He.ga K "NoSign")) (.ref (He.ga K "NoPlace")) = some false
  k_NoSign_NoSign : PySem.W.kitOne K (.ref (He.ga K "NoSign")) (.ref (He.ga K "NoSign")) = some true
  e_NoSign_NoSign : PySem.W.exmOne K (.ref (He.ga K "NoSign")) (.ref (He.ga K "NoSign")) = some true
  k_NoSign_NoTree : PySem.W.kitOne K (.ref (He.ga K "NoSign")) (.ref (He.ga K "NoTree")) = some false
  e_NoSign_NoTree : PySem.W.exmOne K (.ref (He.ga K "NoSign")) (.ref (He.ga K "NoTree")) = some false
  k_NoSign_NoWord : PySem.W.kitOne K (.ref (He.ga K "NoSign")) (.ref (He.ga K "NoWord")) = some false
  e_NoSign_NoWord : PySem.W.exmOne K (.ref (He.ga K "NoSign")) (.ref (He.ga K "NoWord")) = some false
  k_NoSign_TooMany : PySem.W.kitOne K (.ref (He.ga K "NoSign")) (.ref (He.ga K "TooMany")) = some false
  e_NoSign_TooMany : PySem.W.exmOne K (.ref (He.ga K "NoSign")) (.ref (He.ga K "TooMany")) = some false
  k_NoSign_Twice : PySem.W.kitOne K (.ref (He.ga K "NoSign")) (.ref (He.ga K "Twice")) = some false
  e_NoSign_Twice : PySem.W.exmOne K (.ref (He.ga K "NoSign")) (.ref (He.ga K "Twice")) = some false
  k_NoSign_WoodError : PySem.W.kitOne K (.ref (He.ga K "NoSign")) (.ref (He.ga K "WoodError")) = some true
  e_NoSign_WoodError : PySem.W.exmOne K (.ref (He.ga K "NoSign")) (.ref (He.ga K "WoodError")) = some true
  ec_NoTree : ExcC K (He.ga K "NoTree")
  kt_NoTree : PySem.W.kitOne K (.ref (He.ga K "NoTree")) (.type "ValueError") = some true
  k_NoTree_NoBit : PySem.W.kitOne K (.ref (He.ga K "NoTree")) (.ref (He.ga K "NoBit")) = some false
  e_NoTree_NoBit : PySem.W.exmOne K (.ref (He.ga K "NoTree")) (.ref (He.ga K "NoBit")) = some false
  k_NoTree_NoNode : PySem.W.kitOne K (.ref (He.ga K "NoTree")) (.ref (He.ga K "NoNode")) = some false
  e_NoTree_NoNode : PySem.W.exmOne K (.ref (He.ga K "NoTree")) (.ref (He.ga K "NoNode")) = some false
  k_NoTree_NoOctets : PySem.W.kitOne K (.ref (He.ga K "NoTree")) (.ref (He.ga K "NoOctets")) = some false
  e_NoTree_NoOctets : PySem.W.exmOne K (.ref (He.ga K "NoTree")) (.ref (He.ga K "NoOctets")) = some false
  k_NoTree_NoPlace : PySem.W.kitOne K (.ref (He.ga K "NoTree")) (.ref (He.ga K "NoPlace")) = some false
  e_NoTree_NoPlace : PySem.W.exmOne K (.ref (He.ga K "NoTree")) (.ref (He.ga K "NoPlace")) = some false
  k_NoTree_NoSign : PySem.W.kitOne K (.ref (He.ga K "NoTree")) (.ref (He.ga K "NoSign")) = some false
  e_NoTree_NoSign : PySem.W.exmOne K (.ref (He.ga K "NoTree")) (.ref (He.ga K "NoSign")) = some false
  k_NoTree_NoTree : PySem.W.kitOne K (.ref (He.ga K "NoTree")) (.ref (He.ga K "NoTree")) = some true
  e_NoTree_NoTree : PySem.W.exmOne K (.ref (He.ga K "NoTree")) (.ref (He.ga K "NoTree")) = some true
  k_NoTree_NoWord : PySem.W.kitOne K (.ref (He.ga K "NoTree")) (.ref (He.ga K "NoWord")) = some false
  e_NoTree_NoWord : PySem.W.exmOne K (.ref (He.ga K "NoTree")) (.ref (He.ga K "NoWord")) = some false
  k_NoTree_TooMany : PySem.W.kitOne K (.ref (He.ga K "NoTree")) (.ref (He.ga K "TooMany")) = some false
  e_NoTree_TooMany : PySem.W.exmOne K (.ref (He.ga K "NoTree")) (.ref (He.ga K "TooMany")) = some false
  k_NoTree_Twice : PySem.W.kitOne K (.ref (He.ga K "NoTree")) (.ref (He.ga K "Twice")) = some false
  e_NoTree_Twice : PySem.W.exmOne K (.ref (He.ga K "NoTree")) (.ref (He.ga K "Twice")) = some false
  k_NoTree_WoodError : PySem.W.kitOne K (.ref (He.ga K "NoTree")) (.ref (He.ga K "WoodError")) = some true
  e_NoTree_WoodError : PySem.W.exmOne K (.ref (He.ga K "NoTree")) (.ref (He.ga K "WoodError")) = some true
  ec_NoWord : ExcC K (He.ga K "NoWord")
  kt_NoWord : PySem.W.kitOne K (.ref (He.ga K "NoWord")) (.type "ValueError") = some true
  k_NoWord_NoBit : PySem.W.kitOne K (.ref (He.ga K "NoWord")) (.ref (He.ga K "NoBit")) = some false
  e_NoWord_NoBit : PySem.W.exmOne K (.ref (He.ga K "NoWord")) (.ref (He.ga K "NoBit")) = some false
  k_NoWord_NoNode : PySem.W.kitOne K (.ref (He.ga K "NoWord")) (.ref (He.ga K "NoNode")) = some false
  e_NoWord_NoNode : PySem.W.exmOne K (.ref (He.ga K "NoWord")) (.ref (He.ga K "NoNode")) = some false
  k_NoWord_NoOctets : PySem.W.kitOne K (.ref (He.ga K "NoWord")) (.ref (He.ga K "NoOctets")) = some false
  e_NoWord_NoOctets : PySem.W.exmOne K (.ref (He.ga K "NoWord")) (.ref (He.ga K "NoOctets")) = some false
  k_NoWord_NoPlace : PySem.W.kitOne K (.ref (He.ga K "NoWord")) (.ref (He.ga K "NoPlace")) = some false
  e_NoWord_NoPlace : PySem.W.exmOne K (.ref (He.ga K "NoWord")) (.ref (He.ga K "NoPlace")) = some false
  k_NoWord_NoSign : PySem.W.kitOne K (.ref (He.ga K "NoWord")) (.ref (He.ga K "NoSign")) = some false
  e_NoWord_NoSign : PySem.W.exmOne K (.ref (He.ga K "NoWord")) (.ref (He.ga K "NoSign")) = some false
  k_NoWord_NoTree : PySem.W.kitOne K (.ref (He.ga K "NoWord")) (.ref (He.ga K "NoTree")) = some false
  e_NoWord_NoTree : PySem.W.exmOne K (.ref (He.ga K "NoWord")) (.ref (He.ga K "NoTree")) = some false
  k_NoWord_NoWord : PySem.W.kitOne K (.ref (He.ga K "NoWord")) (.ref (He.ga K "NoWord")) = some true
  e_NoWord_NoWord : PySem.W.exmOne K (.ref (He.ga K "NoWord")) (.ref (He.ga K "NoWord")) = some true
  k_NoWord_TooMany : PySem.W.kitOne K (.ref (He.ga K "NoWord")) (.ref (He.ga K "TooMany")) = some false
  e_NoWord_TooMany : PySem.W.exmOne K (.ref (He.ga K "NoWord")) (.ref (He.ga K "TooMany")) = some false
  k_NoWord_Twice : PySem.W.kitOne K (.ref (He.ga K "NoWord")) (.ref (He.ga K "Twice")) = some false
  e_NoWord_Twice : PySem.W.exmOne K (.ref (He.ga K "NoWord")) (.ref (He.ga K "Twice")) = some false
  k_NoWord_WoodError : PySem.W.kitOne K (.ref (He.ga K "NoWord")) (.ref (He.ga K "WoodError")) = some true
  e_NoWord_WoodError : PySem.W.exmOne K (.ref (He.ga K "NoWord")) (.ref (He.ga K "WoodError")) = some true
  ec_TooMany : ExcC K (He.ga K "TooMany")
  kt_TooMany : PySem.W.kitOne K (.ref (He.ga K "TooMany")) (.type "ValueError") = some true
  k_TooMany_NoBit : PySem.W.kitOne K (.ref (He.ga K "TooMany")) (.ref (He.ga K "NoBit")) = some false
  e_TooMany_NoBit : PySem.W.exmOne K (.ref (He.ga K "TooMany")) (.ref (He.ga K "NoBit")) = some false
  k_TooMany_NoNode : PySem.W.kitOne K (.ref (He.ga K "TooMany")) (.ref (He.ga K "NoNode")) = some false
  e_TooMany_NoNode : PySem.W.exmOne K (.ref (He.ga K "TooMany")) (.ref (He.ga K "NoNode")) = some false
  k_TooMany_NoOctets : PySem.W.kitOne K (.ref (He.ga K "TooMany")) (.ref (He.ga K "NoOctets")) = some false
  e_TooMany_NoOctets : PySem.W.exmOne K (.ref (He.ga K "TooMany")) (.ref (He.ga K "NoOctets")) = some false
  k_TooMany_NoPlace : PySem.W.kitOne K (.ref (He.ga K "TooMany")) (.ref (He.ga K "NoPlace")) = some false
  e_TooMany_NoPlace : PySem.W.exmOne K (.ref (He.ga K "TooMany")) (.ref (He.ga K "NoPlace")) = some false
  k_TooMany_NoSign : PySem.W.kitOne K (.ref (He.ga K "TooMany")) (.ref (He.ga K "NoSign")) = some false
  e_TooMany_NoSign : PySem.W.exmOne K (.ref (He.ga K "TooMany")) (.ref (He.ga K "NoSign")) = some false
  k_TooMany_NoTree : PySem.W.kitOne K (.ref (He.ga K "TooMany")) (.ref (He.ga K "NoTree")) = some false
  e_TooMany_NoTree : PySem.W.exmOne K (.ref (He.ga K "TooMany")) (.ref (He.ga K "NoTree")) = some false
  k_TooMany_NoWord : PySem.W.kitOne K (.ref (He.ga K "TooMany")) (.ref (He.ga K "NoWord")) = some false
  e_TooMany_NoWord : PySem.W.exmOne K (.ref (He.ga K "TooMany")) (.ref (He.ga K "NoWord")) = some false
  k_TooMany_TooMany : PySem.W.kitOne K (.ref (He.ga K "TooMany")) (.ref (He.ga K "TooMany")) = some true
  e_TooMany_TooMany : PySem.W.exmOne K (.ref (He.ga K "TooMany")) (.ref (He.ga K "TooMany")) = some true
  k_TooMany_Twice : PySem.W.kitOne K (.ref (He.ga K "TooMany")) (.ref (He.ga K "Twice")) = some false
  e_TooMany_Twice : PySem.W.exmOne K (.ref (He.ga K "TooMany")) (.ref (He.ga K "Twice")) = some false
  k_TooMany_WoodError : PySem.W.kitOne K (.ref (He.ga K "TooMany")) (.ref (He.ga K "WoodError")) = some true
  e_TooMany_WoodError : PySem.W.exmOne K (.ref (He.ga K "TooMany")) (.ref (He.ga K "WoodError")) = some true
  ec_Twice : ExcC K (He.ga K "Twice")
  kt_Twice : PySem.W.kitOne K (.ref (He.ga K "Twice")) (.type "ValueError") = some true
  k_Twice_NoBit : PySem.W.kitOne K (.ref (He.ga K "Twice")) (.ref (He.ga K "NoBit")) = some false
  e_Twice_NoBit : PySem.W.exmOne K (.ref (He.ga K "Twice")) (.ref (He.ga K "NoBit")) = some false
  k_Twice_NoNode : PySem.W.kitOne K (.ref (He.ga K "Twice")) (.ref (He.ga K "NoNode")) = some false
  e_Twice_NoNode : PySem.W.exmOne K (.ref (He.ga K "Twice")) (.ref (He.ga K "NoNode")) = some false
  k_Twice_NoOctets : PySem.W.kitOne K (.ref (He.ga K "Twice")) (.ref (He.ga K "NoOctets")) = some false
  e_Twice_NoOctets : PySem.W.exmOne K (.ref (He.ga K "Twice")) (.ref (He.ga K "NoOctets")) = some false
  k_Twice_NoPlace : PySem.W.kitOne K (.ref (He.ga K "Twice")) (.ref (He.ga K "NoPlace")) = some false
  e_Twice_NoPlace : PySem.W.exmOne K (.ref (He.ga K "Twice")) (.ref (He.ga K "NoPlace")) = some false
  k_Twice_NoSign : PySem.W.kitOne K (.ref (He.ga K "Twice")) (.ref (He.ga K "NoSign")) = some false
  e_Twice_NoSign : PySem.W.exmOne K (.ref (He.ga K "Twice")) (.ref (He.ga K "NoSign")) = some false
  k_Twice_NoTree : PySem.W.kitOne K (.ref (He.ga K "Twice")) (.ref (He.ga K "NoTree")) = some false
  e_Twice_NoTree : PySem.W.exmOne K (.ref (He.ga K "Twice")) (.ref (He.ga K "NoTree")) = some false
  k_Twice_NoWord : PySem.W.kitOne K (.ref (He.ga K "Twice")) (.ref (He.ga K "NoWord")) = some false
  e_Twice_NoWord : PySem.W.exmOne K (.ref (He.ga K "Twice")) (.ref (He.ga K "NoWord")) = some false
  k_Twice_TooMany : PySem.W.kitOne K (.ref (He.ga K "Twice")) (.ref (He.ga K "TooMany")) = some false
  e_Twice_TooMany : PySem.W.exmOne K (.ref (He.ga K "Twice")) (.ref (He.ga K "TooMany")) = some false
  k_Twice_Twice : PySem.W.kitOne K (.ref (He.ga K "Twice")) (.ref (He.ga K "Twice")) = some true
  e_Twice_Twice : PySem.W.exmOne K (.ref (He.ga K "Twice")) (.ref (He.ga K "Twice")) = some true
  k_Twice_WoodError : PySem.W.kitOne K (.ref (He.ga K "Twice")) (.ref (He.ga K "WoodError")) = some true
  e_Twice_WoodError : PySem.W.exmOne K (.ref (He.ga K "Twice")) (.ref (He.ga K "WoodError")) = some true
  ec_WoodError : ExcC K (He.ga K "WoodError")
  kt_WoodError : PySem.W.kitOne K (.ref (He.ga K "WoodError")) (.type "ValueError") = some true
  k_WoodError_NoBit : PySem.W.kitOne K (.ref (He.ga K "WoodError")) (.ref (He.ga K "NoBit")) = some false
  e_WoodError_NoBit : PySem.W.exmOne K (.ref (He.ga K "WoodError")) (.ref (He.ga K "NoBit")) = some false
  k_WoodError_NoNode : PySem.W.kitOne K (.ref (He.ga K "WoodError")) (.ref (He.ga K "NoNode")) = some false
  e_WoodError_NoNode : PySem.W.exmOne K (.ref (He.ga K "WoodError")) (.ref (He.ga K "NoNode")) = some false
  k_WoodError_NoOctets : PySem.W.kitOne K (.ref (He.ga K "WoodError")) (.ref (He.ga K "NoOctets")) = some false
  e_WoodError_NoOctets : PySem.W.exmOne K (.ref (He.ga K "WoodError")) (.ref (He.ga K "NoOctets")) = some false
  k_WoodError_NoPlace : PySem.W.kitOne K (.ref (He.ga K "WoodError")) (.ref (He.ga K "NoPlace")) = some false
  e_WoodError_NoPlace : PySem.W.exmOne K (.ref (He.ga K "WoodError")) (.ref (He.ga K "NoPlace")) = some false
  k_WoodError_NoSign : PySem.W.kitOne K (.ref (He.ga K "WoodError")) (.ref (He.ga K "NoSign")) = some false
  e_WoodError_NoSign : PySem.W.exmOne K (.ref (He.ga K "WoodError")) (.ref (He.ga K "NoSign")) = some false
  k_WoodError_NoTree : PySem.W.kitOne K (.ref (He.ga K "WoodError")) (.ref (He.ga K "NoTree")) = some false
  e_WoodError_NoTree : PySem.W.exmOne K (.ref (He.ga K "WoodError")) (.ref (He.ga K "NoTree")) = some false
  k_WoodError_NoWord : PySem.W.kitOne K (.ref (He.ga K "WoodError")) (.ref (He.ga K "NoWord")) = some false
  e_WoodError_NoWord : PySem.W.exmOne K (.ref (He.ga K "WoodError")) (.ref (He.ga K "NoWord")) = some false
  k_WoodError_TooMany : PySem.W.kitOne K (.ref (He.ga K "WoodError")) (.ref (He.ga K "TooMany")) = some false
  e_WoodError_TooMany : PySem.W.exmOne K (.ref (He.ga K "WoodError")) (.ref (He.ga K "TooMany")) = some false
  k_WoodError_Twice : PySem.W.kitOne K (.ref (He.ga K "WoodError")) (.ref (He.ga K "Twice")) = some false
  e_WoodError_Twice : PySem.W.exmOne K (.ref (He.ga K "WoodError")) (.ref (He.ga K "Twice")) = some false
  k_WoodError_WoodError : PySem.W.kitOne K (.ref (He.ga K "WoodError")) (.ref (He.ga K "WoodError")) = some true
  e_WoodError_WoodError : PySem.W.exmOne K (.ref (He.ga K "WoodError")) (.ref (He.ga K "WoodError")) = some true

/-- list(range(n)) -/
def ints0 (n : Nat) : List Int := (List.range n).map fun i : Nat => (i : Int)
theorem ints0_len (n : Nat) : (ints0 n).length = n := by unfold ints0; rw [List.length_map, List.length_range]
def Rg1K (Q : VK) (x : V) (H : Hp) : Prop := ∃ n, x = .int n ∧ RgOk 0 n ∧ ∀ q, H q = none → Q (.ref q) (upd H q (.lst (rgV 0 n)))
theorem k_lstRg {ta : TE} {σ : L2.St} {H : Hp} {Q : VK} (h : ta σ H (Rg1K Q)) : tLstRg (tRg1 ta) σ H Q := h
theorem k_lstRgE {H : Hp} {Q : VK} {n : Int} (h0 : 0 ≤ n ∧ n ≤ 1000000) (q : ∀ l H', H l = none → Same H H' → H' l = some (.lst ((ints0 n.toNat).map V.int)) → Q (.ref l) H') : Rg1K Q (.int n) H := by
  refine ⟨n, rfl, RgOk.of_le (by omega) (by omega) (by omega) (by omega), fun p hp => ?_⟩
  have e : rgV 0 n = (ints0 n.toNat).map V.int := by
    unfold rgV ints0
    rw [Int.sub_zero, List.map_map]
    congr 1
    funext i
    show V.int (0 + (i : Int)) = V.int (i : Int)
    rw [Int.zero_add]
  rw [e]
  exact q p _ hp (same_new hp) upd_same

/-- cuts, joins and repeats of lists of ints -/
theorem k_slTake {K : PySem.W.Frag} {H : Hp} {Q : VK} {p : Addr} {bs : List Int} {k : Nat} (h : SqL K H p (bs.map V.int)) (q : ∀ l H', H l = none → Same H H' → H' l = some (.lst ((bs.take k).map V.int)) → Q (.ref l) H') : rSlL K (.ref p) none (some (k : Int)) H Q := by
  refine k_slL h fun l hl => ?_
  rw [cutTake, ← List.map_take]
  exact q l _ hl (same_new hl) upd_same
theorem k_slDrop {K : PySem.W.Frag} {H : Hp} {Q : VK} {p : Addr} {bs : List Int} {k : Nat} (h : SqL K H p (bs.map V.int)) (q : ∀ l H', H l = none → Same H H' → H' l = some (.lst ((bs.drop k).map V.int)) → Q (.ref l) H') : rSlL K (.ref p) (some (k : Int)) none H Q := by
  refine k_slL h fun l hl => ?_
  rw [cutDrop, ← List.map_drop]
  exact q l _ hl (same_new hl) upd_same
theorem new_both {H : Hp} {p : Addr} {o : HO} (h : H p = none) : Same H (upd H p o) ∧ (upd H p o) p = some o := ⟨same_new h, upd_same⟩
theorem k_catI {H : Hp} {Q : VK} {a b : Addr} {xs ys : List Int} (h1 : H a = some (.lst (xs.map V.int))) (h2 : H b = some (.lst (ys.map V.int))) (hn : xs.length + ys.length ≤ 1000000) (q : ∀ l H', H l = none → Same H H' → H' l = some (.lst ((xs ++ ys).map V.int)) → Q (.ref l) H') : rCat (.ref a) (.ref b) H Q := by
  refine k_cat h1 h2 (by rw [List.length_map, List.length_map]; exact hn) fun p hp => ?_
  rw [← List.map_append]
  exact q p _ hp (same_new hp) upd_same
theorem k_catKI {K : PySem.W.Frag} {H : Hp} {Q : VK} {a b : Addr} {xs ys : List Int} (h1 : SqL K H a (xs.map V.int)) (h2 : SqL K H b (ys.map V.int)) (hn : xs.length + ys.length ≤ 1000000) (q : ∀ l H', H l = none → Same H H' → H' l = some (.lst ((xs ++ ys).map V.int)) → Q (.ref l) H') : rCatK K (.ref a) (.ref b) H Q := by
  refine k_catK h1 h2 (by rw [List.length_map, List.length_map]; exact hn) fun p hp => ?_
  rw [← List.map_append]
  exact q p _ hp (same_new hp) upd_same
theorem k_repI {H : Hp} {Q : VK} {a : Addr} {xs : List Int} {n : Int} (h : H a = some (.lst (xs.map V.int))) (h0 : 0 ≤ n ∧ n ≤ 1000000) (hn : xs.length * n.toNat ≤ 1000000) (q : ∀ l H' (cs : List Int), H l = none → Same H H' → cs = (List.replicate n.toNat xs).flatten → cs.length = n.toNat * xs.length → H' l = some (.lst (cs.map V.int)) → Q (.ref l) H') : rRep (.ref a) (.int n) H Q := by
  obtain ⟨m, rfl⟩ := Int.eq_ofNat_of_zero_le h0.1
  rw [Int.toNat_natCast] at hn q
  refine k_rep h (by rw [List.length_map]; exact hn) (by omega) fun p hp => ?_
  have e : (List.replicate m (xs.map V.int)).flatten = ((List.replicate m xs).flatten).map V.int := by
    rw [List.map_flatten, List.map_replicate]
  rw [e]
  refine q p _ _ hp (same_new hp) rfl ?_ upd_same
  rw [List.length_flatten, List.map_replicate, List.sum_replicate_nat]
/-- a number in a tuple of numbers -/
theorem k_inT {K : PySem.W.Frag} {H : Hp} {Q : VK} {p : Addr} {x : Int} {xs : List V} (h : H p = some (.tup xs)) (hf : xs.all flatV = true) (q : ∀ b, Q (.bl b) H) : rIn K false (.int x) (.ref p) H Q := ⟨p, xs, rfl, .inr (.of h), rfl, hf, q _⟩

/-! ### bits of a number -/
/-- the bit k of b -/
def bit (b : Int) (k : Nat) : Int := b / 2 ^ k % 2
theorem bit_cases (b : Int) (k : Nat) : bit b k = 0 ∨ bit b k = 1 := by unfold bit; omega
/-- the ones among the first n bits -/
def onesIn (b : Int) : Nat → Int
  | 0 => 0
  | n + 1 => onesIn b n + bit b n
theorem onesIn_mono1 (b : Int) (n : Nat) : onesIn b n ≤ onesIn b (n + 1) ∧ onesIn b (n + 1) ≤ onesIn b n + 1 := by
  show onesIn b n ≤ onesIn b n + bit b n ∧ onesIn b n + bit b n ≤ _
  have := bit_cases b n; omega
theorem onesIn_mono (b : Int) (n m : Nat) (h : n ≤ m) : onesIn b n ≤ onesIn b m := by
  induction m with
  | zero => have : n = 0 := by omega
            subst this; exact Int.le_refl _
  | succ m ih =>
    rcases Nat.lt_or_ge m n with q | q
    · have : n = m + 1 := by omega
      subst this; exact Int.le_refl _
    · have := ih q; have := onesIn_mono1 b m; omega
theorem onesIn_range (b : Int) (n : Nat) : 0 ≤ onesIn b n ∧ onesIn b n ≤ n := by
  induction n with
  | zero => exact ⟨Int.le_refl _, Int.le_refl _⟩
  | succ n ih => have := onesIn_mono1 b n; omega
theorem sum_range_succ (f : Nat → Int) (n : Nat) : ((List.range (n + 1)).map f).sum = ((List.range n).map f).sum + f n := by
  rw [List.range_succ, List.map_append, List.sum_append]; simp
theorem onesIn_sum (b : Int) (n : Nat) : ((List.range n).map fun k => bit b k).sum = onesIn b n := by
  induction n with
  | zero => rfl
  | succ n ih => rw [sum_range_succ, ih]; rfl
theorem halve (b : Int) (k : Nat) : b / 2 ^ k / 2 = b / 2 ^ (k + 1) := by
  rw [Int.pow_succ, Int.ediv_ediv_of_nonneg]
  exact Int.le_of_lt (Int.pow_pos (by decide))

/-! ### rows and blocks -/
/-- all items are bits -/
def Bits (bs : List Int) : Prop := ∀ b ∈ bs, b = 0 ∨ b = 1
/-- the block of some bits (the first one counting 1) -/
def blk : List Int → Int
  | [] => 0
  | b :: bs => b + 2 * blk bs
/-- the row of bits bs as blocks, so many -/
def blksN (bs : List Int) : Nat → List Int
  | 0 => []
  | n + 1 => blk (bs.take 32) :: blksN (bs.drop 32) n
/-- the blocks of a row -/
def blks (bs : List Int) : List Int := blksN bs ((bs.length + 31) / 32)
theorem blksN_len (bs : List Int) (n : Nat) : (blksN bs n).length = n := by
  induction n generalizing bs with
  | zero => rfl
  | succ n ih => show (blksN (bs.drop 32) n).length + 1 = n + 1; rw [ih]
theorem blks_len (bs : List Int) : (blks bs).length = (bs.length + 31) / 32 := blksN_len _ _
theorem blksN_get (bs : List Int) (n j : Nat) (h : j < n) : (blksN bs n)[j]? = some (blk ((bs.drop (32 * j)).take 32)) := by
  induction n generalizing bs j with
  | zero => omega
  | succ n ih =>
    cases j with
    | zero => rfl
    | succ j =>
      show (blksN (bs.drop 32) n)[j]? = _
      rw [ih (bs.drop 32) j (by omega), List.drop_drop, show 32 + 32 * j = 32 * (j + 1) by omega]
theorem blks_get (bs : List Int) (j : Nat) (h : j < (bs.length + 31) / 32) : (blks bs)[j]? = some (blk ((bs.drop (32 * j)).take 32)) := blksN_get _ _ _ h
theorem blk_range : ∀ bs : List Int, Bits bs → 0 ≤ blk bs ∧ blk bs < 2 ^ bs.length
  | [], _ => ⟨Int.le_refl _, by decide⟩
  | b :: bs, h => by
    obtain ⟨h1, h2⟩ := blk_range bs fun x hx => h x (List.mem_cons_of_mem _ hx)
    have h3 := h b List.mem_cons_self
    have e : (2 : Int) ^ (bs.length + 1) = 2 ^ bs.length * 2 := Int.pow_succ ..
    show 0 ≤ b + 2 * blk bs ∧ b + 2 * blk bs < 2 ^ (bs.length + 1)
    omega
/-- a bit of a block -/
theorem bit_blk : ∀ (bs : List Int) (k : Nat), Bits bs → bit (blk bs) k = bs.getD k 0
  | [], k, _ => by
    show (0 : Int) / 2 ^ k % 2 = _
    rw [Int.zero_ediv]; rfl
  | b :: bs, 0, h => by
    have h3 := h b List.mem_cons_self
    show (b + 2 * blk bs) / 2 ^ 0 % 2 = b
    simp; omega
  | b :: bs, k + 1, h => by
    have h3 := h b List.mem_cons_self
    have ih := bit_blk bs k fun x hx => h x (List.mem_cons_of_mem _ hx)
    show (b + 2 * blk bs) / 2 ^ (k + 1) % 2 = (b :: bs).getD (k + 1) 0
    rw [List.getD_cons_succ, ← ih]
    show _ = blk bs / 2 ^ k % 2
    have e : (b + 2 * blk bs) / 2 = blk bs := by omega
    rw [show (2 : Int) ^ (k + 1) = 2 * 2 ^ k by rw [Int.pow_succ, Int.mul_comm], ← Int.ediv_ediv_of_nonneg (by decide), e]
theorem Bits.sub {bs cs : List Int} (h : Bits bs) (s : ∀ x ∈ cs, x ∈ bs) : Bits cs := fun x hx => h x (s x hx)
theorem Bits.take {bs : List Int} (h : Bits bs) (n : Nat) : Bits (bs.take n) := h.sub fun _ hx => List.mem_of_mem_take hx
theorem Bits.drop {bs : List Int} (h : Bits bs) (n : Nat) : Bits (bs.drop n) := h.sub fun _ hx => List.mem_of_mem_drop hx
/-- a row's blocks: each below 2 ^ 32 -/
theorem blks_range {bs : List Int} (h : Bits bs) {j : Nat} {b : Int} (e : (blks bs)[j]? = some b) : 0 ≤ b ∧ b < 4294967296 := by
  have hj : j < (bs.length + 31) / 32 := by
    have := (List.getElem?_eq_some_iff.mp e).1
    rw [blks_len] at this; exact this
  rw [blks_get bs j hj] at e
  obtain rfl := Option.some.inj e
  obtain ⟨h1, h2⟩ := blk_range _ ((h.drop (32 * j)).take 32)
  refine ⟨h1, Int.lt_of_lt_of_le h2 ?_⟩
  have : ((bs.drop (32 * j)).take 32).length ≤ 32 := by rw [List.length_take]; omega
  show (2 : Int) ^ _ ≤ 2 ^ 32
  exact_mod_cast Nat.pow_le_pow_right (show 0 < 2 by decide) this
/-- bit k of block j is bit 32 * j + k of the row -/
theorem bit_blks {bs : List Int} (h : Bits bs) {j : Nat} {b : Int} (e : (blks bs)[j]? = some b) {k : Nat} (hk : k < 32) : bit b k = bs.getD (32 * j + k) 0 := by
  have hj : j < (bs.length + 31) / 32 := by
    have := (List.getElem?_eq_some_iff.mp e).1
    rw [blks_len] at this; exact this
  rw [blks_get bs j hj] at e
  obtain rfl := Option.some.inj e
  rw [bit_blk _ _ ((h.drop (32 * j)).take 32), List.getD_eq_getElem?_getD, List.getD_eq_getElem?_getD, List.getElem?_take, if_pos hk, List.getElem?_drop]
/-- blocks are alike where their bits are -/
theorem blk_ext {x y : Int} (hx : 0 ≤ x ∧ x < 4294967296) (hy : 0 ≤ y ∧ y < 4294967296) (h : ∀ k, k < 32 → bit x k = bit y k) : x = y := by
  have key : ∀ n : Nat, n ≤ 32 → x / 2 ^ (32 - n) = y / 2 ^ (32 - n) := by
    intro n
    induction n with
    | zero =>
      intro _
      rw [Int.ediv_eq_zero_of_lt hx.1 (by exact hx.2), Int.ediv_eq_zero_of_lt hy.1 (by exact hy.2)]
    | succ n ih =>
      intro hn
      have h1 := ih (by omega)
      have h2 := h (32 - (n + 1)) (by omega)
      unfold bit at h2
      have e : 32 - n = (32 - (n + 1)) + 1 := by omega
      rw [e, ← halve, ← halve] at h1
      omega
  have := key 32 (Nat.le_refl _)
  rw [Nat.sub_self, Int.pow_zero, Int.ediv_one, Int.ediv_one] at this
  exact this

/-- blocks filled with the first i bits, zeroes behind -/
def part (bs : List Int) (n i : Nat) : List Int := blksN (bs.take i) n
theorem blk_nil : blk [] = 0 := rfl
theorem blk_snoc : ∀ (bs : List Int) (b : Int), blk (bs ++ [b]) = blk bs + b * 2 ^ bs.length
  | [], b => by show b + 2 * 0 = 0 + b * 2 ^ 0; simp
  | c :: bs, b => by
    show c + 2 * blk (bs ++ [b]) = c + 2 * blk bs + b * 2 ^ (bs.length + 1)
    rw [blk_snoc bs b, Int.pow_succ, Int.mul_add, ← Int.mul_assoc 2 b, Int.mul_comm 2 b, Int.mul_assoc b, Int.mul_comm 2 (2 ^ bs.length), Int.add_assoc]
theorem part_zero (bs : List Int) (n : Nat) : part bs n 0 = List.replicate n 0 := by
  unfold part
  rw [List.take_zero]
  induction n with
  | zero => rfl
  | succ n ih => show blk [] :: blksN [] n = _; rw [ih]; rfl
theorem part_full (bs : List Int) : part bs ((bs.length + 31) / 32) bs.length = blks bs := by
  unfold part blks; rw [List.take_length]
theorem part_len (bs : List Int) (n i : Nat) : (part bs n i).length = n := blksN_len _ _
theorem part_get (bs : List Int) (n i j : Nat) (h : j < n) : (part bs n i)[j]? = some (blk (((bs.take i).drop (32 * j)).take 32)) := blksN_get _ _ _ h
/-- one bit more: only its own block turns -/
theorem part_succ {bs : List Int} {n i : Nat} {b : Int} (hb : bs[i]? = some b) (hn : i / 32 < n) :
    part bs n (i + 1) = (part bs n i).set (i / 32) ((part bs n i).getD (i / 32) 0 + b * 2 ^ (i % 32)) := by
  have hi : i < bs.length := (List.getElem?_eq_some_iff.mp hb).1
  apply List.ext_getElem?
  intro j
  rw [List.getElem?_set, part_len]
  rcases Nat.lt_or_ge j n with hj | hj
  · rw [part_get _ _ _ _ hj]
    have et : bs.take (i + 1) = bs.take i ++ [b] := by rw [List.take_add_one, hb]; rfl
    have hl : (bs.take i).length = i := by rw [List.length_take]; omega
    rw [et]
    by_cases h : i / 32 = j
    · subst h
      rw [if_pos rfl, if_pos hn, List.getD_eq_getElem?_getD, part_get _ _ _ _ hn]
      have hd : ((bs.take i).drop (32 * (i / 32))).length = i % 32 := by rw [List.length_drop, hl]; omega
      have e2 : ((bs.take i).drop (32 * (i / 32))).take 32 = (bs.take i).drop (32 * (i / 32)) := List.take_of_length_le (by rw [hd]; omega)
      have e1 : ((bs.take i).drop (32 * (i / 32)) ++ [b]).take 32 = (bs.take i).drop (32 * (i / 32)) ++ [b] := List.take_of_length_le (by rw [List.length_append, hd]; simp; omega)
      rw [List.drop_append_of_le_length (by rw [hl]; omega), e1, e2, blk_snoc, hd]
      rfl
    · rw [if_neg h, part_get _ _ _ _ hj]
      congr 2
      rcases Nat.lt_or_ge j (i / 32) with l | l
      · rw [List.drop_append_of_le_length (by rw [hl]; omega), List.take_append_of_le_length (by rw [List.length_drop, hl]; omega)]
      · rw [List.drop_of_length_le (by rw [List.length_append, hl]; simp; omega), List.drop_of_length_le (by rw [hl]; omega)]
  · rw [List.getElem?_eq_none (by rw [part_len]; exact hj), if_neg (by omega), List.getElem?_eq_none (by rw [part_len]; exact hj)]
theorem part_range_take {bs : List Int} {i : Nat} (h : Bits (bs.take i)) {n j : Nat} (hj : j < n) (hi : i % 32 = i - 32 * j) (hij : 32 * j ≤ i) : 0 ≤ (part bs n i).getD j 0 ∧ (part bs n i).getD j 0 < 2 ^ (i % 32) := by
  rw [List.getD_eq_getElem?_getD, part_get _ _ _ _ hj]
  obtain ⟨h1, h2⟩ := blk_range _ ((h.drop (32 * j)).take 32)
  refine ⟨h1, Int.lt_of_lt_of_le h2 ?_⟩
  have : (((bs.take i).drop (32 * j)).take 32).length ≤ i % 32 := by rw [List.length_take, List.length_drop, List.length_take]; omega
  exact_mod_cast Nat.pow_le_pow_right (show 0 < 2 by decide) this
/-- a bit above a number -/
theorem or_high {x : Int} {k : Nat} (h0 : 0 ≤ x) (h1 : x < 2 ^ k) : Builtin.bitOr x (1 * 2 ^ k) = x + 1 * 2 ^ k := by
  have e := or_low (q := 1) (r := x) (k := k) (by decide) h0 h1
  rw [bitOr_nn h0 (by rw [Int.one_mul]; exact Int.le_of_lt (Int.pow_pos (by decide))), Nat.or_comm, ← bitOr_nn (by rw [Int.one_mul]; exact Int.le_of_lt (Int.pow_pos (by decide))) h0, e, Int.add_comm]

/-- packed(bits) -/
def sp_packed (K : PySem.W.Frag) : Sp := fun vs H Q E => ∃ (a : Addr) (bs : List Int), vs = [.ref a] ∧ SqL K H a (bs.map V.int) ∧ bs.length ≤ 100000 ∧
  (bs.length > 4096 → E (.ref (He.ga K "TooMany")) none H) ∧
  (bs.length ≤ 4096 → ¬ Bits bs → ∀ H', Same H H' → E (.ref (He.ga K "NoBit")) none H') ∧
  (bs.length ≤ 4096 → Bits bs → ∀ p H', H p = none → Same H H' → H' p = some (.lst ((blks bs).map V.int)) → Q (.ref p) H')
theorem len_packed (K : PySem.W.Frag) : ∀ vs H Q E, sp_packed K vs H Q E → vs.length = 1 := by
  rintro vs H Q E ⟨x, y, rfl, _⟩; rfl
def t_packed (K : PySem.W.Frag) (E : XK) : TS :=
  (tSeq (tIfS (tTest (tOp rGtI (tCB (rLen K) (tCons (tVar 0) tNil)) (tC (.int 4096))))
  (tRz (fun cls d _ H => E cls d H) (He.ga K "TooMany"))
  tNext)
  (tSeq (tAsg (tOp rRep (tLst (tCons (tC (.int 0)) tNil)) (tOp rDiv (tOp rMinus (tOp rPlus (tCB (rLen K) (tCons (tVar 0) tNil)) (tC (.int 32))) (tC (.int 1))) (tC (.int 32)))) (gName 1))
  (tSeq (tFor (iEnum K (tCons (tVar 0) tNil)) (gTup K 2 (gCons (gName 2) (gCons (gName 3) gNil)))
  (tSeq (tIfS (tAnd (tTest (tOp rNe (tVar 3) (tC (.int 0)))) (tTest (tOp rNe (tVar 3) (tC (.int 1)))))
  (tRz (fun cls d _ H => E cls d H) (He.ga K "NoBit"))
  tNext)
  (tIfS (tTest (tOp rEq (tVar 3) (tC (.int 1))))
  (tAsg (tOp rBitOr (tOp (rIxL K) (tVar 1) (tOp rDiv (tVar 2) (tC (.int 32)))) (tOp rShlW (tC (.int 1)) (tOp rMod (tVar 2) (tC (.int 32))))) (gSub (tVar 1) (tOp rDiv (tVar 2) (tC (.int 32))) rSetL))
  tNext)))
  (tRet (tVar 1)))))
abbrev n_packed : List Str := ["bits", "blocks", "at", "bit"]

theorem rd_packed (K : PySem.W.Frag) (vs : List V) (H : Hp) (Q : VK) (E : XK) (h : sp_packed K vs H Q E) : t_packed K E { nx := fun _ H' => Q .non H', rt := Q } (start n_packed vs) H := by
  obtain ⟨a, bs, rfl, hS, hl, q1, q2, q3⟩ := h
  unfold t_packed
  walk_at "st"
  refine k_lenL hS ?_
  walk_at "st"
  rw [List.length_map]
  walk_at "if" <;> intro c1
  · walk_at "st"
    exact q1 (by omega)
  have hm : bs.length ≤ 4096 := by omega
  walk_at "st"
  intro p0 hp0
  walk_at "st"
  refine k_lenL ((same_new hp0).seq hS) ?_
  walk_at "st"
  rw [List.length_map]
  have en : ((bs.length : Int) + 32 - 1) / 32 = (((bs.length + 31) / 32 : Nat) : Int) := by omega
  rw [en]
  refine k_rep (xs := [.int 0]) upd_same (by simp only [List.length_cons, List.length_nil]; omega) (by omega) fun p hp => ?_
  have hp' : H p = none := (same_new hp0).free hp
  have s0 := (same_new hp0).trans (same_new (o := .lst (List.replicate ((bs.length + 31) / 32) [V.int 0]).flatten) hp)
  walk_at "st"
  refine m_enumE (s0.seq hS) ?_
  refine loop_walk walk_enum (fun i σ H' => ∃ y z, σ = [some (.ref a), some (.ref p), y, z] ∧ i ≤ bs.length ∧ Same H H' ∧ H' p = some (.lst ((part bs ((bs.length + 31) / 32) i).map V.int)) ∧ Bits (bs.take i)) ⟨none, none, rfl, Nat.zero_le _, s0, ?_, fun x hx => by simp at hx⟩ (fun i σ H' ⟨y, z, _, _, s, _⟩ => s.seq hS) ?_ ?_
  · rw [upd_same, part_zero, List.map_replicate, rep_one]
  · rintro i v σ H1 H2 hi ⟨y, z, rfl, _, s, e, hb⟩ ⟨T, x, w, rfl, hT, rfl, ex, ew⟩
    rw [List.length_map] at hi
    obtain ⟨b, hbi, rfl⟩ := of_mapint ew
    obtain rfl : x = .int (i : Nat) := (Option.some.inj ex).symm
    have npT : p ≠ T := ne_of_none e hT
    have s2 : Same H (upd H1 T (.tup [.int (i : Nat), .int b])) := s.trans (same_new hT)
    have e2 : (upd H1 T (.tup [.int (i : Nat), .int b])) p = some (.lst ((part bs ((bs.length + 31) / 32) i).map V.int)) := by rw [upd_ne npT]; exact e
    refine m_gTup (.of upd_same) rfl ?_
    walk_at "st"
    have nobit : ∀ (c : ¬ (b = 0 ∨ b = 1)), ¬ Bits bs := fun c hB => c (hB b (List.mem_of_getElem? hbi))
    have go : (b = 0 ∨ b = 1) → Bits (bs.take (i + 1)) := by
      intro hb1 q hq
      rw [List.take_add_one, hbi] at hq
      rcases List.mem_append.mp hq with h | h
      · exact hb q h
      · have : q = b := by simpa using h
        subst this; exact hb1
    have hin : i / 32 < (bs.length + 31) / 32 := by omega
    walk_at "if" <;> intro c0
    · walk_at "st"
      walk_at "if" <;> intro c1
      · walk_at "st"
        exact q2 hm (nobit fun z => z.elim c0 c1) _ s2
      · walk_at "st"
        refine k_decT c1 ?_
        obtain rfl : b = 1 := c1
        walk_at "st"
        have hlt : i / 32 < ((part bs ((bs.length + 31) / 32) i)).length := by rw [part_len]; exact hin
        refine k_ixL (.of e2) (at_int (by omega) (i := ((i : Nat) : Int) / 32) (x := .int ((part bs ((bs.length + 31) / 32) i).getD (i / 32) 0)) ?_) ?_
        · rw [show (((i : Nat) : Int) / 32).toNat = i / 32 by omega, List.getD_eq_getElem?_getD, List.getElem?_eq_getElem hlt]
          exact mapint (List.getElem?_eq_getElem hlt)
        walk_at "st"
        have hsh : CShl 1 (((i : Nat) : Int) % 32) := by
          rw [show ((i : Nat) : Int) % 32 = ((i % 32 : Nat) : Int) by omega]
          exact shl_ok (n := 1) (by decide) (by omega)
        refine k_I hsh ?_
        walk_at "st"
        have hr := part_range_take hb (n := (bs.length + 31) / 32) (j := i / 32) hin (by omega) (by omega)
        have eor : Builtin.bitOr ((part bs ((bs.length + 31) / 32) i).getD (i / 32) 0) (1 * 2 ^ (((i : Nat) : Int) % 32).toNat) = (part bs ((bs.length + 31) / 32) i).getD (i / 32) 0 + 1 * 2 ^ (i % 32) := by
          rw [show (((i : Nat) : Int) % 32).toNat = i % 32 by omega]
          exact or_high hr.1 hr.2
        rw [eor]
        refine m_setL e2 (ixN_nat (by omega) (by rw [List.length_map, part_len]; omega)) ?_
        walk_at "st"
        refine ⟨_, _, rfl, hi, Same.mut s2 hp', ?_, go (.inr rfl)⟩
        rw [upd_same, show (((i : Nat) : Int) / 32).toNat = i / 32 by omega, part_succ hbi hin, List.map_set]
    · walk_at "st"
      obtain rfl : b = 0 := c0
      refine k_decF (by decide) ?_
      walk_at "st"
      refine ⟨_, _, rfl, hi, s2, ?_, go (.inl rfl)⟩
      rw [e2, part_succ hbi hin, Int.zero_mul, Int.add_zero]
      congr 2
      have hlt : i / 32 < ((part bs ((bs.length + 31) / 32) i)).length := by rw [part_len]; exact hin
      rw [List.getD_eq_getElem?_getD, List.getElem?_eq_getElem hlt]
      show _ = List.map V.int ((part bs ((bs.length + 31) / 32) i).set (i / 32) ((part bs ((bs.length + 31) / 32) i)[i / 32]))
      rw [List.set_getElem_self]
  · rintro σ H' ⟨y, z, rfl, _, s, e, hb⟩
    rw [List.length_map] at e hb
    walk_at "st"
    rw [List.take_length] at hb
    rw [part_full] at e
    exact q3 hm hb p H' hp' s e

/-- the ones among the first n bits of a row -/
def sumTo (bs : List Int) (n : Nat) : Int := (bs.take n).sum
theorem sumTo_succ (bs : List Int) (n : Nat) : sumTo bs (n + 1) = sumTo bs n + bs.getD n 0 := by
  unfold sumTo
  rw [List.take_add_one, List.sum_append, List.getD_eq_getElem?_getD]
  cases bs[n]? <;> simp
theorem sumTo_all (bs : List Int) {n : Nat} (h : bs.length ≤ n) : sumTo bs n = bs.sum := by
  unfold sumTo; rw [List.take_of_length_le h]
theorem sumTo_zero (bs : List Int) : sumTo bs 0 = 0 := rfl
/-- the ones of a block's first bits -/
theorem onesIn_blks {bs : List Int} (h : Bits bs) {j : Nat} {b : Int} (e : (blks bs)[j]? = some b) : ∀ k, k ≤ 32 → onesIn b k = sumTo bs (32 * j + k) - sumTo bs (32 * j)
  | 0, _ => by rw [Nat.add_zero]; show (0 : Int) = _; omega
  | k + 1, hk => by
    show onesIn b k + bit b k = _
    rw [onesIn_blks h e k (by omega), bit_blks h e (by omega), show 32 * j + (k + 1) = (32 * j + k) + 1 by omega, sumTo_succ]; omega

/-- the ones ahead of the first n blocks -/
def aheadN (bs : List Int) (n : Nat) : List Int := (List.range n).map fun j => sumTo bs (32 * j)
theorem aheadN_len (bs : List Int) (n : Nat) : (aheadN bs n).length = n := by unfold aheadN; simp
theorem aheadN_get (bs : List Int) {n j : Nat} (h : j < n) : (aheadN bs n)[j]? = some (sumTo bs (32 * j)) := by unfold aheadN; simp [h]
theorem aheadN_succ (bs : List Int) (n : Nat) : aheadN bs (n + 1) = aheadN bs n ++ [sumTo bs (32 * n)] := by unfold aheadN; rw [List.range_succ, List.map_append]; rfl
/-- the table of a row: the ones ahead of each block, and all -/
def aheadT (bs : List Int) : List Int := aheadN bs ((bs.length + 31) / 32 + 1)
theorem aheadT_len (bs : List Int) : (aheadT bs).length = (bs.length + 31) / 32 + 1 := aheadN_len _ _
theorem aheadT_get (bs : List Int) {j : Nat} (h : j ≤ (bs.length + 31) / 32) : (aheadT bs)[j]? = some (sumTo bs (32 * j)) := aheadN_get bs (by omega)
theorem sumTo_add (bs : List Int) (n m : Nat) : sumTo bs (n + m) = sumTo bs n + ((bs.drop n).take m).sum := by
  unfold sumTo; rw [List.take_add, List.sum_append]
theorem getD_bit {bs : List Int} (h : Bits bs) (k : Nat) : bs.getD k 0 = 0 ∨ bs.getD k 0 = 1 := by
  rw [List.getD_eq_getElem?_getD]
  cases e : bs[k]? with
  | none => exact .inl rfl
  | some b => exact h b (List.mem_of_getElem? e)
theorem sumTo_mono1 {bs : List Int} (h : Bits bs) (n : Nat) : sumTo bs n ≤ sumTo bs (n + 1) ∧ sumTo bs (n + 1) ≤ sumTo bs n + 1 := by
  rw [sumTo_succ]; have := getD_bit h n; omega
theorem sumTo_mono {bs : List Int} (h : Bits bs) {n m : Nat} (l : n ≤ m) : sumTo bs n ≤ sumTo bs m := by
  induction m with
  | zero => rw [show n = 0 by omega]; exact Int.le_refl _
  | succ m ih =>
    rcases Nat.lt_or_ge m n with z | z
    · rw [show n = m + 1 by omega]; exact Int.le_refl _
    · have := ih z; have := sumTo_mono1 h m; omega
theorem sumTo_range {bs : List Int} (h : Bits bs) (n : Nat) : 0 ≤ sumTo bs n ∧ sumTo bs n ≤ n := by
  induction n with
  | zero => exact ⟨Int.le_refl _, Int.le_refl _⟩
  | succ n ih => have := sumTo_mono1 h n; omega
theorem blks_getD {bs : List Int} {j : Nat} (h : j < (bs.length + 31) / 32) : (blks bs)[j]? = some ((blks bs).getD j 0) := by
  rw [List.getD_eq_getElem?_getD, List.getElem?_eq_getElem (by rw [blks_len]; exact h)]; rfl

/-! ### promises -/
/-- ones_in(b, u) -/
def sp_ones_in (_ : PySem.W.Frag) : Sp := fun vs H Q _ => ∃ (b : Int) (u : Nat), vs = [.int b, .int (u : Int)] ∧ u ≤ 1000 ∧ ∀ H', Same H H' → Q (.int (onesIn b u)) H'
theorem len_ones_in (K : PySem.W.Frag) : ∀ vs H Q E, sp_ones_in K vs H Q E → vs.length = 2 := by
  rintro vs H Q E ⟨b, u, rfl, _⟩; rfl
def t_ones_in (K : PySem.W.Frag) : TS :=
  (tRet (tCB (rSum K) (tCons (tLc (iRng1 (tCons (tVar 1) tNil)) (gName 2) tYes (tOp rAnd1 (tOp rShr (tVar 0) (tVar 2)) (tC (.int 1))) [2]) tNil)))
abbrev n_ones_in : List Str := ["block", "upto", "k"]

theorem rd_ones_in (K : PySem.W.Frag) (vs : List V) (H : Hp) (Q : VK) (E : XK) (h : sp_ones_in K vs H Q E) : t_ones_in K { nx := fun _ H' => Q .non H', rt := Q } (start n_ones_in vs) H := by
  obtain ⟨b, u, rfl, hu, q⟩ := h
  unfold t_ones_in
  walk_at "st"
  refine comp_rangeV (n := u) (f := fun k => .int (bit b k)) (by omega) (fun k H2 Q2 _ _ q2 => ?_) (fun p H' _ s e => ?_)
  · walk_at "st"
    exact q2 _ (Same.refl _)
  · walk_at "st"
    refine k_sum (ns := (List.range u).map fun k => bit b k) (.of ?_) ?_
    · rw [e, List.map_map]; rfl
    · rw [onesIn_sum]; walk_at "st"; exact q _ s

/-- ones_table(blocks), the blocks of a row -/
def sp_ones_table (K : PySem.W.Frag) : Sp := fun vs H Q _ => ∃ (a : Addr) (bs : List Int), vs = [.ref a] ∧ H a = some (.lst ((blks bs).map V.int)) ∧ bs.length ≤ 5000 ∧ Bits bs ∧ ∀ p H', H p = none → Same H H' → H' p = some (.tup ((aheadT bs).map V.int)) → Q (.ref p) H'
theorem len_ones_table (K : PySem.W.Frag) : ∀ vs H Q E, sp_ones_table K vs H Q E → vs.length = 1 := by
  rintro vs H Q E ⟨a, bs, rfl, _⟩; rfl
def t_ones_table (K : PySem.W.Frag) : TS :=
  (tSeq (tAsg (tLst (tCons (tC (.int 0)) tNil)) (gName 1))
  (tSeq (tFor (iList K (tVar 0)) (gName 2)
  (tDrop (tBM K "list" rAppend (tVar 1) (tCons (tOp rPlus (tOp (rIxL K) (tVar 1) (tUn rNeg (tC (.int 1)))) (tCall (sp_ones_in K) [] E0 (tCons (tVar 2) (tCons (tC (.int 32)) tNil)))) tNil))))
  (tRet (tCB (rTupOf K) (tCons (tVar 1) tNil)))))
abbrev n_ones_table : List Str := ["blocks", "ahead", "block"]

theorem rd_ones_table (K : PySem.W.Frag) (vs : List V) (H : Hp) (Q : VK) (E : XK) (h : sp_ones_table K vs H Q E) : t_ones_table K { nx := fun _ H' => Q .non H', rt := Q } (start n_ones_table vs) H := by
  obtain ⟨a, bs, rfl, hS, hl, hB, q⟩ := h
  unfold t_ones_table
  walk_at "st"
  intro p hp
  walk_at "st"
  refine m_iLe (.of ((same_new hp).get hS)) ?_
  refine loop_ints (ns := blks bs) (fun i σ H' => ∃ y, σ = [some (.ref a), some (.ref p), y] ∧ i ≤ (blks bs).length ∧ Same H H' ∧ H' p = some (.lst ((aheadN bs (i + 1)).map V.int))) ⟨none, rfl, Nat.zero_le _, same_new hp, by rw [upd_same]; rfl⟩ (fun i σ H' ⟨_, _, _, s, _⟩ => .of (s.get hS)) ?_ ?_
  · rintro i x σ H' hx ⟨y, rfl, hi, s, e⟩
    have hlt : i < (blks bs).length := (List.getElem?_eq_some_iff.mp hx).1
    have hlt2 := hlt
    rw [blks_len] at hlt2
    walk_at "st"
    refine k_tyL (.of e) ?_
    walk_at "st"
    refine k_ixL (.of e) (x := .int (sumTo bs (32 * i))) (by rw [aheadN_succ, List.map_append]; exact atI_last _ _) ?_
    walk_at "st"
    refine ⟨x, 32, rfl, by decide, fun H2 s2 => ?_⟩
    walk_at "st"
    refine k_app (s2.get e) (by rw [List.length_map, aheadN_len]; omega) ?_
    walk_at "st"
    have e2 := s2.get e
    refine ⟨_, rfl, hlt, Same.mut (s.trans s2) hp, ?_⟩
    rw [upd_same, aheadN_succ bs (i + 1), List.map_append, onesIn_blks hB hx 32 (Nat.le_refl _), show 32 * i + 32 = 32 * (i + 1) by omega, show sumTo bs (32 * i) + (sumTo bs (32 * (i + 1)) - sumTo bs (32 * i)) = sumTo bs (32 * (i + 1)) by omega]; rfl
  · rintro σ H' ⟨y, rfl, hi, s, e⟩
    walk_at "st"
    refine k_tupL (.of e) fun t ht => ?_
    walk_at "st"
    refine q t _ (s.gone _ ht) (s.trans (same_new ht)) ?_
    rw [upd_same, blks_len]; rfl
/-- kept_row(bits) -/
def sp_kept_row (K : PySem.W.Frag) : Sp := fun vs H Q E => ∃ (a : Addr) (bs : List Int), vs = [.ref a] ∧ SqL K H a (bs.map V.int) ∧ bs.length ≤ 100000 ∧
  (bs.length > 4096 → E (.ref (He.ga K "TooMany")) none H) ∧
  (bs.length ≤ 4096 → ¬ Bits bs → ∀ H', Same H H' → E (.ref (He.ga K "NoBit")) none H') ∧
  (bs.length ≤ 4096 → Bits bs → ∀ p t pa pb H', H p = none → H t = none → H pa = none → H pb = none → Same H H' → H' p = some (.tup [.ref t, .ref pb]) → H' t = some (.tup [.int (bs.length : Int), .ref pa]) → H' pa = some (.tup ((aheadT bs).map V.int)) → H' pb = some (.lst ((blks bs).map V.int)) → Q (.ref p) H')
theorem len_kept_row (K : PySem.W.Frag) : ∀ vs H Q E, sp_kept_row K vs H Q E → vs.length = 1 := by
  rintro vs H Q E ⟨a, bs, rfl, _⟩; rfl
def t_kept_row (K : PySem.W.Frag) (E : XK) : TS :=
  (tSeq (tAsg (tCall (sp_packed K) [] E (tCons (tVar 0) tNil)) (gName 1))
  (tRet (tTup (tCons (tTup (tCons (tCB (rLen K) (tCons (tVar 0) tNil)) (tCons (tCall (sp_ones_table K) [] E0 (tCons (tVar 1) tNil)) tNil))) (tCons (tVar 1) tNil)))))
abbrev n_kept_row : List Str := ["bits", "blocks"]

theorem rd_kept_row (K : PySem.W.Frag) (vs : List V) (H : Hp) (Q : VK) (E : XK) (h : sp_kept_row K vs H Q E) : t_kept_row K E { nx := fun _ H' => Q .non H', rt := Q } (start n_kept_row vs) H := by
  obtain ⟨a, bs, rfl, hS, hl, q1, q2, q3⟩ := h
  unfold t_kept_row
  walk_at "st"
  refine ⟨a, bs, rfl, hS, hl, q1, q2, fun hm hB pb H1 hpb s1 e1 => ?_⟩
  walk_at "st"
  refine k_lenL (s1.seq hS) ?_
  walk_at "st"
  rw [List.length_map]
  refine ⟨pb, bs, rfl, e1, by omega, hB, fun pa H2 hpa s2 e2 => ?_⟩
  walk_at "st"
  intro t ht
  walk_at "st"
  intro p hp
  walk_at "st"
  have s3 := same_new (o := .tup [.int (bs.length : Int), .ref pa]) ht
  have s4 := same_new (o := .tup [.ref t, .ref pb]) hp
  exact q3 hm hB p t pa pb _ ((s1.trans (s2.trans s3)).gone _ hp) ((s1.trans s2).gone _ ht) (s1.gone _ hpa) hpb (s1.trans (s2.trans (s3.trans s4))) upd_same (s4.get upd_same) (s4.get (s3.get e2)) (s4.get (s3.get (s2.get e1)))

/-- the net of the first k bits -/
def net (b : Int) (k : Nat) : Int := 2 * onesIn b k - k
theorem net_succ (b : Int) (k : Nat) : net b (k + 1) = net b k + (2 * bit b k - 1) := by
  unfold net; show 2 * (onesIn b k + bit b k) - ((k + 1 : Nat) : Int) = _
  push_cast; omega
theorem net_zero (b : Int) : net b 0 = 0 := rfl
/-- the least net of the first 1 .. n bits, 1 at none -/
def lowIn (b : Int) : Nat → Int
  | 0 => 1
  | n + 1 => if net b (n + 1) < lowIn b n then net b (n + 1) else lowIn b n
theorem lowIn_le (b : Int) (n : Nat) : ∀ k, 1 ≤ k → k ≤ n → lowIn b n ≤ net b k := by
  induction n with
  | zero => intro k h1 h2; omega
  | succ n ih =>
    intro k h1 h2
    unfold lowIn
    rcases Nat.lt_or_ge k (n + 1) with h | h
    · have := ih k h1 (by omega); split <;> omega
    · have : k = n + 1 := by omega
      subst this; split <;> omega
theorem net_one (b : Int) : net b 1 ≤ 1 := by
  rw [net_succ, net_zero]; have := bit_cases b 0; omega
theorem lowIn_mem (b : Int) (n : Nat) (hn : 1 ≤ n) : ∃ k, 1 ≤ k ∧ k ≤ n ∧ lowIn b n = net b k := by
  induction n with
  | zero => omega
  | succ n ih =>
    unfold lowIn
    rcases Nat.eq_zero_or_pos n with h | h
    · subst h
      refine ⟨1, by omega, by omega, ?_⟩
      have := net_one b
      show (if net b 1 < 1 then net b 1 else 1) = net b 1
      split <;> omega
    · obtain ⟨k, h1, h2, h3⟩ := ih h
      split
      · exact ⟨n + 1, by omega, by omega, rfl⟩
      · exact ⟨k, h1, by omega, h3⟩

/-- the height at a place -/
def hgt (bs : List Int) (n : Nat) : Int := 2 * sumTo bs n - n
theorem hgt_zero (bs : List Int) : hgt bs 0 = 0 := rfl
theorem hgt_succ (bs : List Int) (n : Nat) : hgt bs (n + 1) = hgt bs n + (2 * bs.getD n 0 - 1) := by
  unfold hgt; rw [sumTo_succ]; push_cast; omega
theorem net_blks {bs : List Int} (h : Bits bs) {j : Nat} {b : Int} (e : (blks bs)[j]? = some b) (k : Nat) (hk : k ≤ 32) : net b k = hgt bs (32 * j + k) - hgt bs (32 * j) := by
  unfold net hgt; rw [onesIn_blks h e k hk]; push_cast; omega
/-- the least of 1 and the heights at 1 .. n -/
def lowTo (bs : List Int) : Nat → Int
  | 0 => 1
  | n + 1 => if hgt bs (n + 1) < lowTo bs n then hgt bs (n + 1) else lowTo bs n
theorem lowTo_le (bs : List Int) (n : Nat) : lowTo bs n ≤ 1 ∧ ∀ k, 1 ≤ k → k ≤ n → lowTo bs n ≤ hgt bs k := by
  induction n with
  | zero => exact ⟨Int.le_refl _, fun k h1 h2 => by omega⟩
  | succ n ih =>
    unfold lowTo
    refine ⟨by have := ih.1; split <;> omega, fun k h1 h2 => ?_⟩
    rcases Nat.lt_or_ge k (n + 1) with h | h
    · have := ih.2 k h1 (by omega); split <;> omega
    · have : k = n + 1 := by omega
      subst this; split <;> omega
theorem lowTo_mem (bs : List Int) (n : Nat) : lowTo bs n = 1 ∨ ∃ k, 1 ≤ k ∧ k ≤ n ∧ lowTo bs n = hgt bs k := by
  induction n with
  | zero => exact .inl rfl
  | succ n ih =>
    unfold lowTo
    split
    · exact .inr ⟨n + 1, by omega, by omega, rfl⟩
    · rcases ih with h | ⟨k, h1, h2, h3⟩
      · exact .inl h
      · exact .inr ⟨k, h1, by omega, h3⟩
/-- a block more -/
theorem lowTo_block {bs : List Int} (h : Bits bs) {j : Nat} {b : Int} (e : (blks bs)[j]? = some b) {k : Nat} (h1 : 1 ≤ k) (hk : k ≤ 32) :
    (if hgt bs (32 * j) + lowIn b k < lowTo bs (32 * j) then hgt bs (32 * j) + lowIn b k else lowTo bs (32 * j)) = lowTo bs (32 * j + k) := by
  have a1 := lowTo_le bs (32 * j)
  have a2 := lowTo_mem bs (32 * j)
  have b1 := lowTo_le bs (32 * j + k)
  have b2 := lowTo_mem bs (32 * j + k)
  have c1 := lowIn_le b k
  obtain ⟨i, i1, i2, i3⟩ := lowIn_mem b k h1
  have d1 := net_blks h e i (by omega)
  have d2 := b1.2 (32 * j + i) (by omega) (by omega)
  have d3 : ∀ m, 1 ≤ m → m ≤ 32 * j + k → (lowTo bs (32 * j) ≤ hgt bs m ∨ hgt bs (32 * j) + lowIn b k ≤ hgt bs m) := by
    intro m m1 m2
    rcases Nat.lt_or_ge (32 * j) m with l | l
    · have g := c1 (m - 32 * j) (by omega) (by omega)
      rw [net_blks h e (m - 32 * j) (by omega), show 32 * j + (m - 32 * j) = m by omega] at g
      exact .inr (by omega)
    · exact .inl (a1.2 m m1 l)
  have d4 : lowTo bs (32 * j + k) ≤ lowTo bs (32 * j) := by
    rcases a2 with g | ⟨m, m1, m2, m3⟩
    · have := b1.1; omega
    · have := b1.2 m m1 (by omega); omega
  have d5 : lowTo bs (32 * j) ≤ lowTo bs (32 * j + k) ∨ hgt bs (32 * j) + lowIn b k ≤ lowTo bs (32 * j + k) := by
    rcases b2 with g | ⟨m, m1, m2, m3⟩
    · have := a1.1; exact .inl (by omega)
    · rcases d3 m m1 m2 with g | g
      · exact .inl (by omega)
      · exact .inr (by omega)
  split <;> omega

/-- a row that is a tree's: its height is nought at both ends alone -/
def IsTree (bs : List Int) : Prop := 2 ≤ bs.length ∧ hgt bs bs.length = 0 ∧ ∀ k, 0 < k → k < bs.length → 0 < hgt bs k
theorem hgt_cons (b : Int) (bs : List Int) (n : Nat) : hgt (b :: bs) (n + 1) = (2 * b - 1) + hgt bs n := by
  unfold hgt sumTo
  rw [List.take_succ_cons, List.sum_cons]; push_cast; omega
theorem hgt_left {as bs : List Int} {n : Nat} (h : n ≤ as.length) : hgt (as ++ bs) n = hgt as n := by
  unfold hgt sumTo
  rw [List.take_append_of_le_length h]
/-- from height h on bs goes, never below 1, to h' -/
def Up : Int → List Int → Int → Prop
  | h, [], h' => h = h'
  | h, b :: bs, h' => (b = 0 ∨ b = 1) ∧ 1 ≤ h + (2 * b - 1) ∧ Up (h + (2 * b - 1)) bs h'
theorem Up.app : ∀ {as bs : List Int} {h m h' : Int}, Up h as m → Up m bs h' → Up h (as ++ bs) h'
  | [], _, _, _, _, h1, h2 => by cases (show _ = _ from h1); exact h2
  | _ :: _, _, _, _, _, ⟨a1, a2, a3⟩, h2 => ⟨a1, a2, Up.app a3 h2⟩
theorem Up.bits : ∀ {bs : List Int} {h h' : Int}, Up h bs h' → Bits bs
  | [], _, _, _ => fun x hx => by cases hx
  | b :: bs, _, _, ⟨a1, _, a3⟩ => fun x hx => by
    rcases List.mem_cons.mp hx with rfl | z
    · exact a1
    · exact Up.bits a3 x z
theorem Up.hgt : ∀ {bs : List Int} {h h' : Int}, Up h bs h' → h + hgt bs bs.length = h' ∧ ∀ k, 0 < k → k ≤ bs.length → 1 ≤ h + Tw.hgt bs k
  | [], h, h', e => by
    have e : h = h' := e
    refine ⟨by show h + Tw.hgt [] 0 = h'; rw [hgt_zero]; omega, fun k h1 h2 => ?_⟩
    rw [List.length_nil] at h2; omega
  | b :: bs, h, h', ⟨a1, a2, a3⟩ => by
    obtain ⟨r1, r2⟩ := Up.hgt a3
    refine ⟨by rw [List.length_cons, hgt_cons]; omega, fun k h1 h2 => ?_⟩
    obtain ⟨k, rfl⟩ : ∃ j, k = j + 1 := ⟨k - 1, by omega⟩
    rw [hgt_cons]
    rcases Nat.eq_zero_or_pos k with rfl | hk
    · rw [hgt_zero]; omega
    · have := r2 k hk (by rw [List.length_cons] at h2; omega); omega
theorem up_ones : ∀ (n : Nat) {h : Int}, 0 ≤ h → Up h (List.replicate n 1) (h + n)
  | 0, h, _ => by show h = _; omega
  | n + 1, h, hh => ⟨.inr rfl, by omega, by
    have := up_ones n (h := h + (2 * 1 - 1)) (by omega)
    rw [show h + ((n + 1 : Nat) : Int) = h + (2 * 1 - 1) + (n : Int) by omega]; exact this⟩
theorem up_noughts : ∀ (n : Nat) {h : Int}, (n : Int) ≤ h - 1 → Up h (List.replicate n 0) (h - n)
  | 0, h, _ => by show h = _; omega
  | n + 1, h, hh => ⟨.inl rfl, by omega, by
    have := up_noughts n (h := h + (2 * 0 - 1)) (by omega)
    rw [show h - ((n + 1 : Nat) : Int) = h + (2 * 0 - 1) - (n : Int) by omega]; exact this⟩
theorem up_flat : ∀ (n : Nat) {h : Int}, 1 ≤ h → Up h (List.replicate n ([1, 0] : List Int)).flatten h
  | 0, h, _ => rfl
  | n + 1, h, hh => by
    rw [List.replicate_succ, List.flatten_cons]
    refine Up.app (m := h) ⟨.inr rfl, by omega, .inl rfl, by omega, ?_⟩ (up_flat n hh)
    show _ = h; omega
theorem tree_of_up {bs : List Int} {h : Int} (u : Up 0 bs h) (h1 : 1 ≤ h) : IsTree (bs ++ List.replicate h.toNat 0) := by
  have u2 := u.app (up_noughts (h.toNat - 1) (h := h) (by omega))
  rw [show h - ((h.toNat - 1 : Nat) : Int) = 1 by omega] at u2
  have e : bs ++ List.replicate h.toNat 0 = (bs ++ List.replicate (h.toNat - 1) 0) ++ [0] := by
    rw [List.append_assoc]
    congr 1
    rw [show ([0] : List Int) = List.replicate 1 0 from rfl, List.replicate_append_replicate]
    congr 1; omega
  rw [e]
  generalize bs ++ List.replicate (h.toNat - 1) 0 = cs at u2
  obtain ⟨g1, g2⟩ := u2.hgt
  have hc : 0 < cs.length := by
    rcases Nat.eq_zero_or_pos cs.length with z | z
    · rw [z, hgt_zero] at g1; omega
    · exact z
  refine ⟨by rw [List.length_append, List.length_singleton]; omega, ?_, fun k k1 k2 => ?_⟩
  · rw [List.length_append, List.length_singleton, hgt_succ, hgt_left (Nat.le_refl _)]
    rw [List.getD_eq_getElem?_getD, List.getElem?_append_right (Nat.le_refl _), Nat.sub_self]
    show _ + (2 * 0 - 1) = _
    omega
  · rw [List.length_append, List.length_singleton] at k2
    rw [hgt_left (by omega)]
    have := g2 k k1 (by omega); omega

/-- is_tree(bits) -/
def sp_is_tree (K : PySem.W.Frag) : Sp := fun vs H Q _ => ∃ (a : Addr) (bs : List Int), vs = [.ref a] ∧ SqL K H a (bs.map V.int) ∧ bs.length ≤ 100000 ∧ ∀ (b : Bool) H', (b = true ↔ IsTree bs) → Same H H' → Q (.bl b) H'
theorem len_is_tree (K : PySem.W.Frag) : ∀ vs H Q E, sp_is_tree K vs H Q E → vs.length = 1 := by
  rintro vs H Q E ⟨x, y, rfl, _⟩; rfl
def t_is_tree (K : PySem.W.Frag) : TS :=
  (tSeq (tAsg (tC (.int 0)) (gName 1))
  (tSeq (tFor (iEnum K (tCons (tVar 0) tNil)) (gTup K 2 (gCons (gName 2) (gCons (gName 3) gNil)))
  (tSeq (tAug 1 (tOp rMinus (tOp rTimes (tC (.int 2)) (tVar 3)) (tC (.int 1))) (ipI fun i j => i + j))
  (tIfS (tAnd (tTest (tOp rLe (tVar 1) (tC (.int 0)))) (tTest (tOp rLt (tOp rPlus (tVar 2) (tC (.int 1))) (tCB (rLen K) (tCons (tVar 0) tNil)))))
  (tRet (tC (.bl false)))
  tNext)))
  (tRet (tAndV (tOp rGtI (tCB (rLen K) (tCons (tVar 0) tNil)) (tC (.int 1))) (tOp rEq (tVar 1) (tC (.int 0)))))))
abbrev n_is_tree : List Str := ["bits", "high", "at", "bit"]

theorem rd_is_tree (K : PySem.W.Frag) (vs : List V) (H : Hp) (Q : VK) (E : XK) (h : sp_is_tree K vs H Q E) : t_is_tree K { nx := fun _ H' => Q .non H', rt := Q } (start n_is_tree vs) H := by
  obtain ⟨a, bs, rfl, hS, hl, q⟩ := h
  unfold t_is_tree
  walk_at "st"
  refine m_enumE hS ?_
  refine loop_walk walk_enum (fun i σ H' => ∃ y z, σ = [some (.ref a), some (.int (hgt bs i)), y, z] ∧ i ≤ bs.length ∧ Same H H' ∧ ∀ k, 0 < k → k ≤ i → k < bs.length → 0 < hgt bs k) ⟨none, none, rfl, Nat.zero_le _, Same.refl _, fun k h1 h2 => by omega⟩ (fun i σ H' ⟨y, z, _, _, s, _⟩ => s.seq hS) ?_ ?_
  · rintro i v σ H1 H2 hi ⟨y, z, rfl, _, s, hb⟩ ⟨T, x, w, rfl, hT, rfl, ex, ew⟩
    rw [List.length_map] at hi
    obtain ⟨b, hbi, rfl⟩ := of_mapint ew
    obtain rfl : x = .int (i : Nat) := (Option.some.inj ex).symm
    have s2 := s.trans (same_new (o := .tup [.int (i : Nat), .int b]) hT)
    refine m_gTup (.of upd_same) rfl ?_
    generalize upd H1 T (.tup [.int (i : Nat), .int b]) = H3 at s2 ⊢
    walk_at "st"
    have eh : hgt bs i + (2 * b - 1) = hgt bs (i + 1) := by rw [hgt_succ, List.getD_eq_getElem?_getD, hbi]; rfl
    rw [eh]
    walk_at "if" <;> intro c0
    · walk_at "st"
      refine k_lenL (s2.seq hS) ?_
      walk_at "st"
      rw [List.length_map]
      walk_at "if" <;> intro c1
      · walk_at "st"
        exact q false _ ⟨fun z => Bool.noConfusion z, fun z => by have := z.2.2 (i + 1) (by omega) (by omega); omega⟩ s2
      · walk_at "st"
        exact ⟨_, _, rfl, by omega, s2, fun k h1 h2 h3 => hb k h1 (by omega) h3⟩
    · walk_at "st"
      refine ⟨_, _, rfl, by omega, s2, fun k h1 h2 h3 => ?_⟩
      rcases Nat.lt_or_ge k (i + 1) with w | w
      · exact hb k h1 (by omega) h3
      · rw [show k = i + 1 by omega]; omega
  rintro σ H1 ⟨y, z, rfl, _, s, hb⟩
  rw [List.length_map] at hb
  walk_at "st"
  refine k_lenL (s.seq hS) ?_
  walk_at "st"
  rw [List.length_map]
  walk_at "if" <;> intro c1
  · walk_at "st"
    refine q _ _ ?_ s
    rw [decide_eq_true_iff]
    exact ⟨fun z => ⟨by omega, z, fun k h1 h2 => hb k h1 (by omega) h2⟩, fun z => z.2.1⟩
  · walk_at "st"
    exact q false _ ⟨fun z => Bool.noConfusion z, fun z => by have := z.1; omega⟩ s

/-! ### the heap over places: the least power of two -/
/-- the doublings from 1 until many are reached -/
def hOf (many : Nat) : Nat := if many ≤ 1 then 0 else (many - 1).log2 + 1
theorem hOf_le (many : Nat) : many ≤ 2 ^ hOf many := by
  unfold hOf
  split
  · rw [Nat.pow_zero]; omega
  · have := Nat.lt_log2_self (n := many - 1)
    omega
theorem hOf_lt {many k : Nat} (h : k < hOf many) : 2 ^ k < many := by
  unfold hOf at h
  split at h
  · omega
  · have h1 : 2 ^ k ≤ 2 ^ (many - 1).log2 := Nat.pow_le_pow_right (by decide) (by omega)
    have h2 := Nat.log2_self_le (n := many - 1) (by omega)
    omega
theorem hOf_small {many : Nat} (h : many ≤ 4096) : hOf many ≤ 12 := by
  rcases Nat.lt_or_ge 12 (hOf many) with z | z
  · have := hOf_lt z; omega
  · exact z
/-- size_of(many) -/
def sp_size_of (_ : PySem.W.Frag) : Sp := fun vs H Q _ => ∃ many : Nat, vs = [.int (many : Int)] ∧ many ≤ 100000 ∧ Q (.int ((2 ^ hOf many : Nat) : Int)) H
theorem len_size_of (K : PySem.W.Frag) : ∀ vs H Q E, sp_size_of K vs H Q E → vs.length = 1 := by
  rintro vs H Q E ⟨x, rfl, _⟩; rfl
def t_size_of (K : PySem.W.Frag) : TS :=
  (tSeq (tAsg (tC (.int 1)) (gName 1))
  (tSeq (tWhile (tTest (tOp rLt (tVar 1) (tVar 0)))
  (tAug 1 (tC (.int 2)) rTimes))
  (tRet (tVar 1))))
abbrev n_size_of : List Str := ["many", "size"]

theorem rd_size_of (K : PySem.W.Frag) (vs : List V) (H : Hp) (Q : VK) (E : XK) (h : sp_size_of K vs H Q E) : t_size_of K { nx := fun _ H' => Q .non H', rt := Q } (start n_size_of vs) H := by
  obtain ⟨many, rfl, hm, q⟩ := h
  unfold t_size_of
  walk_at "st"
  refine loop_while (fun m σ H' => ∃ k : Nat, m = hOf many - k ∧ k ≤ hOf many ∧ σ = [some (.int (many : Int)), some (.int ((2 ^ k : Nat) : Int))] ∧ H' = H) (hOf many) ⟨0, rfl, Nat.zero_le _, rfl, rfl⟩ ?_
  rintro m σ H' ⟨k, rfl, hk, rfl, rfl⟩
  walk_at "st"
  walk_at "if" <;> intro c
  · have c2 : 2 ^ k < many := by exact_mod_cast c
    have hk2 : k < hOf many := by
      rcases Nat.lt_or_ge k (hOf many) with z | z
      · exact z
      · have : k = hOf many := by omega
        subst this
        have := hOf_le many
        omega
    walk_at "st"
    refine ⟨hOf many - (k + 1), by omega, k + 1, rfl, hk2, ?_, rfl⟩
    rw [show ((2 ^ (k + 1) : Nat) : Int) = ((2 ^ k : Nat) : Int) * 2 by rw [Nat.pow_succ]; push_cast; rfl]; rfl
  · have c2 : ¬ 2 ^ k < many := by exact_mod_cast c
    have : k = hOf many := by
      rcases Nat.lt_or_ge k (hOf many) with z | z
      · exact absurd (hOf_lt z) c2
      · omega
    subst this
    walk_at "st"
    exact q

/-! ### what the nodes bear -/
def NV : Option Int → V
  | none => .non
  | some i => .int i
def minO : Option Int → Option Int → Option Int
  | none, b => b
  | a, none => a
  | some a, some b => some (if b < a then b else a)
def bearF (ns : List Int) (S : Nat) : Nat → Nat → Option Int
  | 0, n => if S ≤ n then ns[n - S]? else none
  | f + 1, n => if S ≤ n then ns[n - S]? else if n = 0 then none else minO (bearF ns S f (2 * n)) (bearF ns S f (2 * n + 1))
/-- what the node n bears, of 2 ^ h places -/
def bear (ns : List Int) (h n : Nat) : Option Int := bearF ns (2 ^ h) h n
theorem bearF_more {ns : List Int} {S : Nat} : ∀ {f n : Nat}, 1 ≤ n → S ≤ n * 2 ^ f → bearF ns S (f + 1) n = bearF ns S f n
  | 0, n, h1, h2 => by
    have h2 : S ≤ n := by simpa using h2
    show (if S ≤ n then _ else _) = (if S ≤ n then _ else _)
    rw [if_pos h2, if_pos h2]
  | f + 1, n, h1, h2 => by
    show (if S ≤ n then _ else _) = (if S ≤ n then _ else _)
    have e : n * 2 ^ (f + 1) = 2 * n * 2 ^ f := by rw [Nat.pow_succ, ← Nat.mul_assoc, Nat.mul_comm, ← Nat.mul_assoc]
    rw [e] at h2
    have h3 : S ≤ (2 * n + 1) * 2 ^ f := Nat.le_trans h2 (Nat.mul_le_mul_right _ (by omega))
    rw [bearF_more (f := f) (n := 2 * n) (by omega) h2, bearF_more (f := f) (n := 2 * n + 1) (by omega) h3]
theorem bear_leaf {ns : List Int} {h n : Nat} (l : 2 ^ h ≤ n) : bear ns h n = ns[n - 2 ^ h]? := by
  unfold bear
  cases h with
  | zero => exact if_pos l
  | succ h => exact if_pos l
theorem bear_zero (ns : List Int) (h : Nat) : bear ns h 0 = none := by
  unfold bear
  have := Nat.two_pow_pos h
  cases h with
  | zero => exact if_neg (by omega)
  | succ h => exact (if_neg (by omega)).trans (if_pos rfl)
theorem bear_node {ns : List Int} {h n : Nat} (h1 : 1 ≤ n) (h2 : n < 2 ^ h) : bear ns h n = minO (bear ns h (2 * n)) (bear ns h (2 * n + 1)) := by
  unfold bear
  cases h with
  | zero => simp at h2; omega
  | succ h =>
    have hx : 2 ^ (h + 1) ≤ 2 * n * 2 ^ h := by
      rw [Nat.pow_succ, Nat.mul_comm, Nat.mul_assoc]
      exact Nat.mul_le_mul_left 2 (Nat.le_mul_of_pos_left _ h1)
    have hy : 2 ^ (h + 1) ≤ (2 * n + 1) * 2 ^ h := Nat.le_trans hx (Nat.mul_le_mul_right _ (by omega))
    rw [bearF_more (f := h) (n := 2 * n) (by omega) hx, bearF_more (f := h) (n := 2 * n + 1) (by omega) hy]
    exact (if_neg (by omega)).trans (if_neg (by omega))
/-- the list of nodes, those from k on reckoned -/
def nodesFrom (ns : List Int) (h k : Nat) : List V := (List.range (2 * 2 ^ h)).map fun n => if k ≤ n then NV (bear ns h n) else .non
theorem nodesFrom_len (ns : List Int) (h k : Nat) : (nodesFrom ns h k).length = 2 * 2 ^ h := by unfold nodesFrom; simp
theorem nodesFrom_get {ns : List Int} {h k n : Nat} (hn : n < 2 * 2 ^ h) : (nodesFrom ns h k)[n]? = some (if k ≤ n then NV (bear ns h n) else .non) := by unfold nodesFrom; simp [hn]
theorem nodesFrom_start {ns : List Int} {h : Nat} (l : ns.length ≤ 2 ^ h) : List.replicate (2 ^ h) V.non ++ ns.map V.int ++ List.replicate (2 ^ h - ns.length) V.non = nodesFrom ns h (2 ^ h) := by
  apply List.ext_getElem?
  intro i
  rcases Nat.lt_or_ge i (2 * 2 ^ h) with hi | hi
  · rw [nodesFrom_get hi]
    rcases Nat.lt_or_ge i (2 ^ h) with z | z
    · rw [if_neg (by omega), List.append_assoc, List.getElem?_append_left (by rw [List.length_replicate]; exact z), List.getElem?_replicate, if_pos z]
    · rw [if_pos z, List.append_assoc, List.getElem?_append_right (by rw [List.length_replicate]; exact z), List.length_replicate, bear_leaf z]
      rcases Nat.lt_or_ge (i - 2 ^ h) ns.length with w | w
      · rw [List.getElem?_append_left (by rw [List.length_map]; exact w), List.getElem?_map, List.getElem?_eq_getElem w]; rfl
      · rw [List.getElem?_append_right (by rw [List.length_map]; exact w), List.getElem?_replicate, if_pos (by rw [List.length_map]; omega), List.getElem?_eq_none w]; rfl
  · rw [List.getElem?_eq_none (by simp; omega), List.getElem?_eq_none (by rw [nodesFrom_len]; exact hi)]
theorem nodesFrom_step {ns : List Int} {h k : Nat} (h1 : 1 ≤ k) (h2 : k < 2 ^ h) : (nodesFrom ns h (k + 1)).set k (NV (minO (bear ns h (2 * k)) (bear ns h (2 * k + 1)))) = nodesFrom ns h k := by
  apply List.ext_getElem?
  intro i
  rw [List.getElem?_set, nodesFrom_len]
  rcases Nat.lt_or_ge i (2 * 2 ^ h) with hi | hi
  · rw [nodesFrom_get hi, nodesFrom_get hi]
    by_cases e : k = i
    · subst e
      rw [if_pos rfl, if_pos (by omega), if_pos (Nat.le_refl _), bear_node h1 h2]
    · rw [if_neg e]
      by_cases g : k ≤ i
      · rw [if_pos g, if_pos (by omega)]
      · rw [if_neg g, if_neg (by omega)]
  · rw [List.getElem?_eq_none (by rw [nodesFrom_len]; exact hi), List.getElem?_eq_none (by rw [nodesFrom_len]; exact hi), if_neg (by omega)]
theorem nodesFrom_one (ns : List Int) (h : Nat) : nodesFrom ns h 1 = (List.range (2 * 2 ^ h)).map fun n => NV (bear ns h n) := by
  unfold nodesFrom
  apply List.map_congr_left
  intro n _
  split
  · rfl
  · rw [show n = 0 by omega, bear_zero]; rfl
/-- the heap of a row -/
def heapL (ns : List Int) : List V := (List.range (2 * 2 ^ hOf ns.length)).map fun n => NV (bear ns (hOf ns.length) n)
theorem heapL_len (ns : List Int) : (heapL ns).length = 2 * 2 ^ hOf ns.length := by unfold heapL; simp
theorem heapL_get {ns : List Int} {n : Nat} (hn : n < 2 * 2 ^ hOf ns.length) : (heapL ns)[n]? = some (NV (bear ns (hOf ns.length) n)) := by unfold heapL; simp [hn]

/-- lesser_of(one, other) -/
def sp_lesser_of (_ : PySem.W.Frag) : Sp := fun vs H Q _ => ∃ a b : Option Int, vs = [NV a, NV b] ∧ Q (NV (minO a b)) H
theorem len_lesser_of (K : PySem.W.Frag) : ∀ vs H Q E, sp_lesser_of K vs H Q E → vs.length = 2 := by
  rintro vs H Q E ⟨a, b, rfl, _⟩; rfl
def t_lesser_of (K : PySem.W.Frag) : TS :=
  (tSeq (tIfS (tTest (tOp rIsN (tVar 0) (tC .non)))
  (tRet (tVar 1))
  tNext)
  (tSeq (tIfS (tTest (tOp rIsN (tVar 1) (tC .non)))
  (tRet (tVar 0))
  tNext)
  (tRet (tCB rMin2 (tCons (tVar 0) (tCons (tVar 1) tNil))))))
abbrev n_lesser_of : List Str := ["one", "other"]

theorem rd_lesser_of (K : PySem.W.Frag) (vs : List V) (H : Hp) (Q : VK) (E : XK) (h : sp_lesser_of K vs H Q E) : t_lesser_of K { nx := fun _ H' => Q .non H', rt := Q } (start n_lesser_of vs) H := by
  obtain ⟨a, b, rfl, q⟩ := h
  unfold t_lesser_of
  cases a with
  | none =>
    rw [show NV none = V.non from rfl]
    walk_at "st"
    refine k_decT rfl ?_
    walk_at "st"
    exact q
  | some a =>
    rw [show NV (some a) = V.int a from rfl]
    walk_at "st"
    refine k_decF (fun z => nomatch z) ?_
    cases b with
    | none =>
      rw [show NV none = V.non from rfl]
      walk_at "st"
      refine k_decT rfl ?_
      walk_at "st"
      exact q
    | some b =>
      rw [show NV (some b) = V.int b from rfl]
      walk_at "st"
      refine k_decF (fun z => nomatch z) ?_
      walk_at "st"
      exact q

/-- heap_of(numbers) -/
def sp_heap_of (K : PySem.W.Frag) : Sp := fun vs H Q E => ∃ (a : Addr) (ns : List Int), vs = [.ref a] ∧ SqL K H a (ns.map V.int) ∧ ns.length ≤ 10000 ∧
  (4096 < ns.length → E (.ref (He.ga K "TooMany")) none H) ∧
  (ns.length ≤ 4096 → ∀ p H', H p = none → Same H H' → H' p = some (.lst (heapL ns)) → Q (.ref p) H')
theorem len_heap_of (K : PySem.W.Frag) : ∀ vs H Q E, sp_heap_of K vs H Q E → vs.length = 1 := by
  rintro vs H Q E ⟨a, ns, rfl, _⟩; rfl
def t_heap_of (K : PySem.W.Frag) (E : XK) : TS :=
  (tSeq (tIfS (tTest (tOp rGtI (tCB (rLen K) (tCons (tVar 0) tNil)) (tC (.int 4096))))
  (tRz (fun cls d _ H => E cls d H) (He.ga K "TooMany"))
  tNext)
  (tSeq (tAsg (tCall (sp_size_of K) [] E0 (tCons (tCB (rLen K) (tCons (tVar 0) tNil)) tNil)) (gName 1))
  (tSeq (tAsg (tOp rCat (tOp rCat (tOp rRep (tLst (tCons (tC .non) tNil)) (tVar 1)) (tCB (rListOf K) (tCons (tVar 0) tNil))) (tOp rRep (tLst (tCons (tC .non) tNil)) (tOp rMinus (tVar 1) (tCB (rLen K) (tCons (tVar 0) tNil))))) (gName 2))
  (tSeq (tFor (iRng3 (tCons (tOp rMinus (tVar 1) (tC (.int 1))) (tCons (tC (.int 0)) (tCons (tUn rNeg (tC (.int 1))) tNil)))) (gName 3)
  (tAsg (tCall (sp_lesser_of K) [] E0 (tCons (tOp (rIxL K) (tVar 2) (tOp rTimes (tC (.int 2)) (tVar 3))) (tCons (tOp (rIxL K) (tVar 2) (tOp rPlus (tOp rTimes (tC (.int 2)) (tVar 3)) (tC (.int 1)))) tNil))) (gSub (tVar 2) (tVar 3) rSetL)))
  (tRet (tVar 2))))))
abbrev n_heap_of : List Str := ["numbers", "size", "nodes", "node"]

theorem rd_heap_of (K : PySem.W.Frag) (vs : List V) (H : Hp) (Q : VK) (E : XK) (h : sp_heap_of K vs H Q E) : t_heap_of K E { nx := fun _ H' => Q .non H', rt := Q } (start n_heap_of vs) H := by
  obtain ⟨a, ns, rfl, hS, hl, q1, q2⟩ := h
  unfold t_heap_of
  walk_at "st"
  refine k_lenL hS ?_
  walk_at "st"
  rw [List.length_map]
  walk_at "if" <;> intro c
  · walk_at "st"
    exact q1 (by omega)
  walk_at "st"
  refine k_lenL hS ?_
  walk_at "st"
  rw [List.length_map]
  refine ⟨ns.length, rfl, by omega, ?_⟩
  have hle := hOf_le ns.length
  have hh := hOf_small (many := ns.length) (by omega)
  have hp12 := Nat.pow_le_pow_right (show 0 < 2 by decide) hh
  have hS0 := Nat.two_pow_pos (hOf ns.length)
  have q2 := q2 (by omega)
  unfold heapL at q2
  generalize hOf ns.length = h at q2 hle hh hp12 hS0 ⊢
  walk_at "st"
  intro p1 hp1
  walk_at "st"
  refine k_rep (xs := [.non]) upd_same (by simp only [List.length_cons, List.length_nil]; omega) (by omega) fun p2 hp2 => ?_
  rw [rep_one]
  have s2 := (same_new (o := .lst [.non]) hp1).trans (same_new (o := .lst (List.replicate (2 ^ h) V.non)) hp2)
  walk_at "st"
  refine k_listL (s2.seq hS) fun p3 hp3 => ?_
  refine k_cat ((same_new hp3).get upd_same) upd_same (by rw [List.length_replicate, List.length_map]; omega) fun p4 hp4 => ?_
  have s4 := s2.trans ((same_new (o := .lst (ns.map V.int)) hp3).trans (same_new (o := .lst (List.replicate (2 ^ h) V.non ++ ns.map V.int)) hp4))
  have e4 := upd_same (H := upd (upd (upd H p1 (.lst [.non])) p2 (.lst (List.replicate (2 ^ h) V.non))) p3 (.lst (ns.map V.int))) (a := p4) (o := .lst (List.replicate (2 ^ h) V.non ++ ns.map V.int))
  generalize upd (upd (upd (upd H p1 (.lst [.non])) p2 (.lst (List.replicate (2 ^ h) V.non))) p3 (.lst (ns.map V.int))) p4 (.lst (List.replicate (2 ^ h) V.non ++ ns.map V.int)) = H4 at s4 e4 ⊢
  walk_at "st"
  intro p5 hp5
  walk_at "st"
  refine k_lenL ((s4.trans (same_new hp5)).seq hS) ?_
  walk_at "st"
  rw [List.length_map, show ((2 ^ h : Nat) : Int) - (ns.length : Int) = ((2 ^ h - ns.length : Nat) : Int) by omega]
  refine k_rep (xs := [.non]) upd_same (by simp only [List.length_cons, List.length_nil]; omega) (by omega) fun p6 hp6 => ?_
  rw [rep_one]
  refine k_cat ((same_new hp6).get ((same_new hp5).get e4)) upd_same (by rw [List.length_append, List.length_replicate, List.length_map, List.length_replicate]; omega) fun p7 hp7 => ?_
  rw [nodesFrom_start hle]
  have hp7' : H p7 = none := (s4.trans ((same_new hp5).trans (same_new hp6))).gone _ hp7
  have s7 := s4.trans ((same_new (o := .lst [.non]) hp5).trans ((same_new (o := .lst (List.replicate (2 ^ h - ns.length) V.non)) hp6).trans (same_new (o := .lst (nodesFrom ns h (2 ^ h))) hp7)))
  have e7 := upd_same (H := upd (upd H4 p5 (.lst [.non])) p6 (.lst (List.replicate (2 ^ h - ns.length) V.non))) (a := p7) (o := .lst (nodesFrom ns h (2 ^ h)))
  generalize upd (upd (upd H4 p5 (.lst [.non])) p6 (.lst (List.replicate (2 ^ h - ns.length) V.non))) p7 (.lst (nodesFrom ns h (2 ^ h))) = H7 at s7 e7 ⊢
  walk_at "st"
  refine m_rng3e (RgC.neg (by omega) (by omega) (by decide) (by decide)) ?_
  rw [show (((2 ^ h : Nat) : Int) - 1 - 0).toNat = 2 ^ h - 1 by omega]
  refine loop_walk walk_rangeC (fun i σ H' => ∃ z, σ = [some (.ref a), some (.int ((2 ^ h : Nat) : Int)), some (.ref p7), z] ∧ i ≤ 2 ^ h - 1 ∧ Same H H' ∧ H' p7 = some (.lst (nodesFrom ns h (2 ^ h - i)))) ⟨none, rfl, Nat.zero_le _, s7, e7⟩ (fun _ _ _ _ => trivial) ?_ ?_
  · rintro i x σ H' H'' hi ⟨z, rfl, hi2, s, e⟩ ⟨rfl, ex⟩
    obtain ⟨k, hk1, hk2, hk3⟩ : ∃ k : Nat, 1 ≤ k ∧ k < 2 ^ h ∧ k = 2 ^ h - 1 - i := ⟨2 ^ h - 1 - i, by omega, by omega, rfl⟩
    obtain rfl : x = .int (k : Int) := by rw [ex]; show V.int _ = V.int _; congr 1; omega
    rw [show 2 ^ h - i = k + 1 by omega] at e
    walk_at "st"
    refine k_ixL (.of e) (at_int (x := NV (bear ns h (2 * k))) (by omega) (by rw [show ((2 : Int) * (k : Int)).toNat = 2 * k by omega, nodesFrom_get (by omega), if_pos (by omega)])) ?_
    walk_at "st"
    refine k_ixL (.of e) (at_int (x := NV (bear ns h (2 * k + 1))) (by omega) (by rw [show ((2 : Int) * (k : Int) + 1).toNat = 2 * k + 1 by omega, nodesFrom_get (by omega), if_pos (by omega)])) ?_
    walk_at "st"
    refine ⟨_, _, rfl, ?_⟩
    walk_at "st"
    refine m_setL e (ixN_nat (by omega) (by rw [nodesFrom_len]; omega)) ?_
    refine ⟨_, rfl, by omega, Same.mut s hp7', ?_⟩
    rw [upd_same, Int.toNat_natCast, nodesFrom_step hk1 hk2, show 2 ^ h - (i + 1) = k by omega]
  · rintro σ H' ⟨z, rfl, _, s, e⟩
    walk_at "st"
    rw [show 2 ^ h - (2 ^ h - 1) = 1 by omega, nodesFrom_one] at e
    exact q2 p7 H' hp7' s e

/-- low_in(b, u) -/
def sp_low_in (_ : PySem.W.Frag) : Sp := fun vs H Q _ => ∃ (b : Int) (u : Nat), vs = [.int b, .int (u : Int)] ∧ u ≤ 1000 ∧ Q (.int (lowIn b u)) H
theorem len_low_in (K : PySem.W.Frag) : ∀ vs H Q E, sp_low_in K vs H Q E → vs.length = 2 := by
  rintro vs H Q E ⟨x, y, rfl, _⟩; rfl
def t_low_in (K : PySem.W.Frag) : TS :=
  (tSeq (tAsg (tC (.int 0)) (gName 2))
  (tSeq (tAsg (tC (.int 1)) (gName 3))
  (tSeq (tFor (iRng1 (tCons (tVar 1) tNil)) (gName 4)
  (tSeq (tAug 2 (tOp rMinus (tOp rTimes (tC (.int 2)) (tOp rAnd1 (tOp rShr (tVar 0) (tVar 4)) (tC (.int 1)))) (tC (.int 1))) (ipI fun i j => i + j))
  (tAsg (tCB rMin2 (tCons (tVar 3) (tCons (tVar 2) tNil))) (gName 3))))
  (tRet (tVar 3)))))
abbrev n_low_in : List Str := ["block", "upto", "net", "least", "k"]

theorem rd_low_in (K : PySem.W.Frag) (vs : List V) (H : Hp) (Q : VK) (E : XK) (h : sp_low_in K vs H Q E) : t_low_in K { nx := fun _ H' => Q .non H', rt := Q } (start n_low_in vs) H := by
  obtain ⟨b, u, rfl, hu, q⟩ := h
  unfold t_low_in
  walk_at "st"
  refine loop_range0 (fun i σ H' => ∃ y, σ = [some (.int b), some (.int (u : Int)), some (.int (net b i)), some (.int (lowIn b i)), y] ∧ H' = H) ⟨none, rfl, rfl⟩ ?_ ?_
  · rintro i σ H' hi ⟨y, rfl, rfl⟩
    walk_at "st"
    refine ⟨some (.int (i : Int)), ?_, rfl⟩
    have e : net b i + (2 * (b / 2 ^ i % 2) - 1) = net b (i + 1) := (net_succ b i).symm
    rw [show b / 2 ^ (i : Int).toNat % 2 = b / 2 ^ i % 2 from rfl, e]; rfl
  · rintro σ H' ⟨y, rfl, rfl⟩
    walk_at "st"
    exact q

/-- the lowest heights of the blocks -/
def lowOf (bs : List Int) (j : Nat) : Int := hgt bs (32 * j) + lowIn ((blks bs).getD j 0) (min 32 (bs.length - 32 * j))
def lowsOf (bs : List Int) : List Int := (List.range ((bs.length + 31) / 32)).map (lowOf bs)
theorem lowsOf_len (bs : List Int) : (lowsOf bs).length = (bs.length + 31) / 32 := by unfold lowsOf; simp
theorem lowsOf_get (bs : List Int) {j : Nat} (h : j < (bs.length + 31) / 32) : (lowsOf bs)[j]? = some (lowOf bs j) := by unfold lowsOf; simp [h]
theorem lowOf_is {bs : List Int} (h : Bits bs) {j : Nat} (hj : j < (bs.length + 31) / 32) : (∃ k, 32 * j < k ∧ k ≤ 32 * j + 32 ∧ k ≤ bs.length ∧ lowOf bs j = hgt bs k) ∧ ∀ k, 32 * j < k → k ≤ 32 * j + 32 → k ≤ bs.length → lowOf bs j ≤ hgt bs k := by
  have e : (blks bs)[j]? = some ((blks bs).getD j 0) := by
    rw [List.getD_eq_getElem?_getD, List.getElem?_eq_getElem (by rw [blks_len]; exact hj)]; rfl
  have hu : 1 ≤ min 32 (bs.length - 32 * j) := by omega
  refine ⟨?_, fun k k1 k2 k3 => ?_⟩
  · obtain ⟨k, h1, h2, h3⟩ := lowIn_mem ((blks bs).getD j 0) _ hu
    rw [net_blks h e k (by omega)] at h3
    exact ⟨32 * j + k, by omega, by omega, by omega, by unfold lowOf; omega⟩
  · have := lowIn_le ((blks bs).getD j 0) (min 32 (bs.length - 32 * j)) (k - 32 * j) (by omega) (by omega)
    rw [net_blks h e (k - 32 * j) (by omega), show 32 * j + (k - 32 * j) = k by omega] at this
    unfold lowOf; omega

/-- begin_height(ahead, number) -/
def sp_begin_height (K : PySem.W.Frag) : Sp := fun vs H Q _ => ∃ (pa : Addr) (bs : List Int) (j : Nat), vs = [.ref pa, .int (j : Int)] ∧ SqT K H pa ((aheadT bs).map V.int) ∧ j ≤ (bs.length + 31) / 32 ∧ Q (.int (hgt bs (32 * j))) H
theorem len_begin_height (K : PySem.W.Frag) : ∀ vs H Q E, sp_begin_height K vs H Q E → vs.length = 2 := by
  rintro vs H Q E ⟨x, y, z, rfl, _⟩; rfl
def t_begin_height (K : PySem.W.Frag) : TS :=
  (tRet (tOp rMinus (tOp rTimes (tC (.int 2)) (tOp (rIxT K) (tVar 0) (tVar 1))) (tOp rTimes (tC (.int 32)) (tVar 1))))
abbrev n_begin_height : List Str := ["ahead", "number"]

theorem rd_begin_height (K : PySem.W.Frag) (vs : List V) (H : Hp) (Q : VK) (E : XK) (h : sp_begin_height K vs H Q E) : t_begin_height K { nx := fun _ H' => Q .non H', rt := Q } (start n_begin_height vs) H := by
  obtain ⟨pa, bs, j, rfl, hS, hj, q⟩ := h
  unfold t_begin_height
  walk_at "st"
  refine k_ixT hS (at_nat (mapint (aheadT_get bs hj))) ?_
  walk_at "st"
  rw [show (2 : Int) * sumTo bs (32 * j) - 32 * (j : Int) = hgt bs (32 * j) by unfold hgt; push_cast; rfl]
  exact q
/-- kept_brackets(bits) -/
def sp_kept_brackets (K : PySem.W.Frag) : Sp := fun vs H Q E => ∃ (a : Addr) (bs : List Int), vs = [.ref a] ∧ SqL K H a (bs.map V.int) ∧ bs.length ≤ 100000 ∧
  (bs.length > 4096 → E (.ref (He.ga K "TooMany")) none H) ∧
  (bs.length ≤ 4096 → ¬ Bits bs → ∀ H', Same H H' → E (.ref (He.ga K "NoBit")) none H') ∧
  (bs.length ≤ 4096 → Bits bs → ¬ IsTree bs → ∀ H', Same H H' → E (.ref (He.ga K "NoTree")) none H') ∧
  (bs.length ≤ 4096 → Bits bs → IsTree bs → ∀ p t pa ph pb H', H p = none → H pb = none → Same H H' → H' p = some (.tup [.ref t, .ref pb]) → H' t = some (.tup [.int (bs.length : Int), .ref pa, .ref ph]) → H' pa = some (.tup ((aheadT bs).map V.int)) → H' ph = some (.tup (heapL (lowsOf bs))) → H' pb = some (.lst ((blks bs).map V.int)) → Q (.ref p) H')
theorem len_kept_brackets (K : PySem.W.Frag) : ∀ vs H Q E, sp_kept_brackets K vs H Q E → vs.length = 1 := by
  rintro vs H Q E ⟨a, bs, rfl, _⟩; rfl
def t_kept_brackets (K : PySem.W.Frag) (E : XK) : TS :=
  (tSeq (tAsg (tCall (sp_kept_row K) [] E (tCons (tVar 0) tNil)) (gTup K 2 (gCons (gName 1) (gCons (gName 2) gNil))))
  (tSeq (tIfS (tNot (tB (tCall (sp_is_tree K) [] E0 (tCons (tVar 0) tNil))))
  (tRz (fun cls d _ H => E cls d H) (He.ga K "NoTree"))
  tNext)
  (tSeq (tAsg (tVar 1) (gTup K 2 (gCons (gName 3) (gCons (gName 4) gNil))))
  (tSeq (tAsg (tLst tNil) (gName 5))
  (tSeq (tFor (iEnum K (tCons (tVar 2) tNil)) (gTup K 2 (gCons (gName 6) (gCons (gName 7) gNil)))
  (tDrop (tBM K "list" rAppend (tVar 5) (tCons (tOp rPlus (tCall (sp_begin_height K) [] E0 (tCons (tVar 4) (tCons (tVar 6) tNil))) (tCall (sp_low_in K) [] E0 (tCons (tVar 7) (tCons (tCB rMin2 (tCons (tC (.int 32)) (tCons (tOp rMinus (tVar 3) (tOp rTimes (tC (.int 32)) (tVar 6))) tNil))) tNil)))) tNil))))
  (tRet (tTup (tCons (tTup (tCons (tVar 3) (tCons (tVar 4) (tCons (tCB (rTupOf K) (tCons (tCall (sp_heap_of K) [] E (tCons (tVar 5) tNil)) tNil)) tNil)))) (tCons (tVar 2) tNil)))))))))
abbrev n_kept_brackets : List Str := ["bits", "tables", "blocks", "many", "ahead", "lows", "number", "block"]

theorem rd_kept_brackets (K : PySem.W.Frag) (vs : List V) (H : Hp) (Q : VK) (E : XK) (h : sp_kept_brackets K vs H Q E) : t_kept_brackets K E { nx := fun _ H' => Q .non H', rt := Q } (start n_kept_brackets vs) H := by
  obtain ⟨a, bs, rfl, hS, hl, q1, q2, q3, q4⟩ := h
  unfold t_kept_brackets
  walk_at "st"
  refine ⟨a, bs, rfl, hS, hl, q1, q2, fun hm hB p t pa pb H1 hp ht hpa hpb s1 ep et ea eb => ?_⟩
  walk_at "st"
  refine m_gTup (.of ep) rfl ?_
  walk_at "st"
  refine ⟨a, bs, rfl, s1.seq hS, by omega, fun b H2 hb s2 => ?_⟩
  have s12 := s1.trans s2
  cases b with
  | false =>
    walk_at "st"
    exact q3 hm hB (fun z => Bool.noConfusion (hb.mpr z)) _ s12
  | true =>
  have hI := hb.mp rfl
  walk_at "st"
  refine m_gTup (.of (s2.get et)) rfl ?_
  walk_at "st"
  intro pl hpl
  have s3 := same_new (o := .lst []) hpl
  have e3 := upd_same (H := H2) (a := pl) (o := .lst [])
  generalize upd H2 pl (.lst []) = H3 at s3 e3 ⊢
  have s23 := s2.trans s3
  have s03 := s1.trans s23
  have hplH : H pl = none := s12.gone _ hpl
  have hpl1 : H1 pl = none := s2.gone _ hpl
  walk_at "st"
  refine m_enumE (.of (s23.get eb)) ?_
  have hbl := blks_len bs
  refine loop_walk walk_enum (fun i σ H' => ∃ y z, σ = [some (.ref a), some (.ref t), some (.ref pb), some (.int (bs.length : Int)), some (.ref pa), some (.ref pl), y, z] ∧ i ≤ (bs.length + 31) / 32 ∧ Same H1 H' ∧ H' pl = some (.lst (((List.range i).map (lowOf bs)).map V.int))) ⟨none, none, rfl, Nat.zero_le _, s23, e3⟩ (fun i σ H' ⟨y, z, _, _, s, _⟩ => .of (s.get eb)) ?_ ?_
  · rintro i v σ H4 H5 hi ⟨y, z, rfl, _, s, e⟩ ⟨T, x, w, rfl, hT, rfl, ex, ew⟩
    rw [List.length_map, hbl] at hi
    obtain ⟨b, hbi, rfl⟩ := of_mapint ew
    obtain rfl : x = .int (i : Nat) := (Option.some.inj ex).symm
    have sT := same_new (o := .tup [.int (i : Nat), .int b]) hT
    refine m_gTup (.of upd_same) rfl ?_
    generalize upd H4 T (.tup [.int (i : Nat), .int b]) = H6 at sT ⊢
    have s6 := s.trans sT
    walk_at "st"
    refine k_tyL (.of (sT.get e)) ?_
    walk_at "st"
    refine ⟨pa, bs, i, rfl, .of (s6.get ea), by omega, ?_⟩
    walk_at "st"
    have hu : (if (bs.length : Int) - 32 * (i : Int) < 32 then (bs.length : Int) - 32 * (i : Int) else 32) = ((min 32 (bs.length - 32 * i) : Nat) : Int) := by
      split <;> omega
    rw [hu]
    refine ⟨b, min 32 (bs.length - 32 * i), rfl, by omega, ?_⟩
    walk_at "st"
    refine k_app (sT.get e) (by rw [List.length_map, List.length_map, List.length_range]; omega) ?_
    walk_at "st"
    refine ⟨some (.int (i : Nat)), some (.int b), rfl, by omega, Same.mut s6 hpl1 ⟨_, sT.get e⟩, ?_⟩
    have elo : hgt bs (32 * i) + lowIn b (min 32 (bs.length - 32 * i)) = lowOf bs i := by
      unfold lowOf
      rw [List.getD_eq_getElem?_getD, hbi]; rfl
    rw [upd_same, elo, List.range_succ, List.map_append, List.map_append]; rfl
  rintro σ H4 ⟨y, z, rfl, _, s, e⟩
  rw [List.length_map, hbl] at e
  have e : H4 pl = some (.lst ((lowsOf bs).map V.int)) := e
  have hll := lowsOf_len bs
  walk_at "st"
  refine ⟨pl, lowsOf bs, rfl, .of e, by omega, fun z => by omega, fun _ ph0 H5 hph0 s5 e5 => ?_⟩
  walk_at "st"
  refine k_tupL (.of e5) fun ph hph => ?_
  have s6 := same_new (o := .tup (heapL (lowsOf bs))) hph
  have e6 := upd_same (H := H5) (a := ph) (o := .tup (heapL (lowsOf bs)))
  generalize upd H5 ph (.tup (heapL (lowsOf bs))) = H6 at s6 e6 ⊢
  walk_at "st"
  intro t2 ht2
  have s7 := same_new (o := .tup [.int (bs.length : Int), .ref pa, .ref ph]) ht2
  have e7 := upd_same (H := H6) (a := t2) (o := .tup [.int (bs.length : Int), .ref pa, .ref ph])
  generalize upd H6 t2 (.tup [.int (bs.length : Int), .ref pa, .ref ph]) = H7 at s7 e7 ⊢
  walk_at "st"
  intro p2 hp2
  have s8 := same_new (o := .tup [.ref t2, .ref pb]) hp2
  have s18 := s.trans ((s5.trans s6).trans s7)
  exact q4 hm hB hI p2 t2 pa ph pb _ ((s1.trans s18).gone _ hp2) hpb ((s1.trans s18).trans s8) upd_same (s8.get e7) (s8.get (s18.get ea)) (s8.get (s7.get e6)) (s8.get (s18.get eb))

/-- each depth behind the first is one of its place; a is the depth ahead -/
def DeepT (a : Int) : List Int → Prop
  | [] => True
  | d :: ds => 1 ≤ d ∧ d ≤ a + 1 ∧ DeepT d ds
/-- the depths of a tree -/
def Deep : List Int → Prop
  | [] => False
  | d :: ds => d = 0 ∧ DeepT 0 ds
/-- the last of a and what follows -/
def lastD (a : Int) : List Int → Int
  | [] => a
  | d :: ds => lastD d ds
theorem lastD_snoc (a : Int) : ∀ (ds : List Int) (x : Int), lastD a (ds ++ [x]) = x
  | [], _ => rfl
  | d :: ds, x => lastD_snoc d ds x
theorem deepT_snoc : ∀ {a : Int} {ds : List Int} {x : Int}, DeepT a ds → 1 ≤ x → x ≤ lastD a ds + 1 → DeepT a (ds ++ [x])
  | _, [], _, _, h1, h2 => ⟨h1, h2, trivial⟩
  | _, _ :: _, _, ⟨a1, a2, a3⟩, h1, h2 => ⟨a1, a2, deepT_snoc a3 h1 h2⟩
theorem lastD_nonneg : ∀ {a : Int} {ds : List Int}, 0 ≤ a → DeepT a ds → 0 ≤ lastD a ds
  | _, [], h, _ => h
  | _, d :: ds, _, ⟨a1, _, a3⟩ => (lastD_nonneg (a := d) (ds := ds) (by omega) a3 : 0 ≤ lastD d ds)
theorem lastD_get : ∀ (a : Int) (ds : List Int), (a :: ds)[ds.length]? = some (lastD a ds)
  | _, [] => rfl
  | a, d :: ds => by
    rw [show (d :: ds).length = ds.length + 1 from rfl, List.getElem?_cons_succ]
    exact lastD_get d ds
theorem deepT_get : ∀ {ds : List Int} {a : Int}, DeepT a ds → ∀ {i : Nat} {x y : Int}, (a :: ds)[i]? = some x → ds[i]? = some y → 1 ≤ y ∧ y ≤ x + 1
  | [], _, _, _, _, _, _, h => by simp at h
  | d :: ds, a, ⟨a1, a2, a3⟩, 0, x, y, h1, h2 => by
    simp only [List.getElem?_cons_zero, Option.some.injEq] at h1 h2
    subst h1 h2; exact ⟨a1, a2⟩
  | d :: ds, a, ⟨a1, a2, a3⟩, i + 1, x, y, h1, h2 => by
    rw [List.getElem?_cons_succ] at h1 h2
    exact deepT_get a3 h1 h2
theorem Deep.cons {ds : List Int} (h : Deep ds) : ∃ r, ds = 0 :: r ∧ DeepT 0 r := by
  cases ds with
  | nil => exact h.elim
  | cons d r => obtain ⟨rfl, h⟩ := h; exact ⟨r, rfl, h⟩
/-- the brackets behind the one of a node of depth a -/
def brkT (a : Int) : List Int → List Int
  | [] => List.replicate (a + 1).toNat 0
  | d :: ds => List.replicate (a + 1 - d).toNat 0 ++ 1 :: brkT d ds
/-- the brackets of depths -/
def brk : List Int → List Int
  | [] => []
  | d :: ds => 1 :: brkT d ds
theorem brkT_len : ∀ {a : Int} {ds : List Int}, 0 ≤ a → DeepT a ds → ((brkT a ds).length : Int) = a + 1 + 2 * ds.length
  | a, [], h, _ => by simp only [brkT, List.length_replicate, List.length_nil]; omega
  | a, d :: ds, h, ⟨a1, a2, a3⟩ => by
    have := brkT_len (by omega) a3
    simp only [brkT, List.length_append, List.length_replicate, List.length_cons]; omega
theorem brk_len {ds : List Int} (h : Deep ds) : (brk ds).length = 2 * ds.length := by
  obtain ⟨r, rfl, h2⟩ := h.cons
  have := brkT_len (by decide) h2
  simp only [brk, List.length_cons]; omega
theorem at_lastD (r : List Int) : atI (((0 : Int) :: r).map V.int) (-1) = some (.int (lastD 0 r)) := by
  unfold atI ixN
  rw [List.length_map, List.length_cons, if_neg (by decide), if_pos (by omega)]
  show ((((0 : Int) :: r).map V.int))[_]? = _
  rw [show (-1 + ((r.length + 1 : Nat) : Int)).toNat = r.length by omega]
  exact mapint (lastD_get 0 r)
/-- 1 + k % n, k = 0, 1, .. -/
theorem deepT_saw {n : Int} (hn : 0 < n) : ∀ m : Nat, DeepT 0 ((List.range m).map fun k : Nat => 1 + (k : Int) % n) ∧ (0 < m → lastD 0 ((List.range m).map fun k : Nat => 1 + (k : Int) % n) = 1 + ((m : Int) - 1) % n)
  | 0 => ⟨trivial, fun h => by omega⟩
  | m + 1 => by
    obtain ⟨h1, h2⟩ := deepT_saw hn m
    rw [List.range_succ, List.map_append]
    refine ⟨deepT_snoc h1 (by have := Int.emod_nonneg (m : Int) (show n ≠ 0 by omega); show 1 ≤ 1 + (m : Int) % n; omega) ?_, fun _ => ?_⟩
    · show 1 + (m : Int) % n ≤ _
      rcases Nat.eq_zero_or_pos m with rfl | hm
      · simp [lastD]
      · rw [h2 hm]
        have e := Int.emod_add_mul_ediv ((m : Int) - 1) n
        have p := Int.emod_nonneg ((m : Int) - 1) (show n ≠ 0 by omega)
        have l := Int.emod_lt_of_pos ((m : Int) - 1) hn
        have e2 : (m : Int) = (((m : Int) - 1) % n + 1) + n * (((m : Int) - 1) / n) := by omega
        have e3 : (m : Int) % n = (((m : Int) - 1) % n + 1) % n := by
          have := Int.add_mul_emod_self_left ((((m : Int) - 1) % n + 1)) n (((m : Int) - 1) / n)
          rw [← e2] at this; exact this
        rw [e3]
        by_cases h : ((m : Int) - 1) % n + 1 < n
        · rw [Int.emod_eq_of_lt (by omega) h]; omega
        · rw [show ((m : Int) - 1) % n + 1 = n by omega, Int.emod_self]; omega
    · show lastD 0 (_ ++ [1 + (m : Int) % n]) = _
      rw [lastD_snoc]
      congr 2; omega

/-- what is laid ahead of the last closing brackets -/
def brkF (a : Int) : List Int → List Int
  | [] => []
  | d :: ds => List.replicate (a + 1 - d).toNat 0 ++ 1 :: brkF d ds
theorem brkF_all : ∀ (a : Int) (ds : List Int), brkT a ds = brkF a ds ++ List.replicate (lastD a ds + 1).toNat 0
  | a, [] => rfl
  | a, d :: ds => by
    show _ ++ 1 :: brkT d ds = (_ ++ 1 :: brkF d ds) ++ List.replicate (lastD d ds + 1).toNat 0
    rw [brkF_all d ds]; simp
theorem brkF_snoc : ∀ (a : Int) (ds : List Int) (x : Int), brkF a (ds ++ [x]) = brkF a ds ++ List.replicate (lastD a ds + 1 - x).toNat 0 ++ [1]
  | a, [], x => by simp [brkF, lastD]
  | a, d :: ds, x => by
    show _ ++ 1 :: brkF d (ds ++ [x]) = (_ ++ 1 :: brkF d ds) ++ List.replicate (lastD d ds + 1 - x).toNat 0 ++ [1]
    rw [brkF_snoc d ds x]; simp
theorem brkF_le : ∀ {a : Int} {ds : List Int}, 0 ≤ a → DeepT a ds → ((brkF a ds).length : Int) ≤ a + 2 * ds.length
  | _, [], h, _ => by simp only [brkF, List.length_nil]; omega
  | a, d :: ds, h, ⟨a1, a2, a3⟩ => by
    have := brkF_le (by omega) a3
    simp only [brkF, List.length_append, List.length_replicate, List.length_cons]; omega
theorem deepT_take : ∀ {a : Int} {ds : List Int} (n : Nat), DeepT a ds → DeepT a (ds.take n)
  | _, [], n, _ => by rw [List.take_nil]; trivial
  | _, _ :: _, 0, _ => trivial
  | _, _ :: _, n + 1, ⟨a1, a2, a3⟩ => ⟨a1, a2, deepT_take n a3⟩
theorem lastD_take {x : Int} (ds : List Int) : ∀ {a : Int} {i : Nat}, (a :: ds)[i]? = some x → lastD a (ds.take i) = x := by
  induction ds with
  | nil =>
    intro a i h
    cases i with
    | zero => simpa [lastD] using h
    | succ i => simp at h
  | cons d ds ih =>
    intro a i h
    cases i with
    | zero => simpa [lastD] using h
    | succ i =>
      rw [List.getElem?_cons_succ] at h
      exact ih h
theorem lastD_le : ∀ {a : Int} {ds : List Int}, DeepT a ds → lastD a ds ≤ a + ds.length
  | _, [], _ => by simp [lastD]
  | a, d :: ds, ⟨a1, a2, a3⟩ => by
    have := lastD_le a3
    simp only [lastD, List.length_cons]; omega
/-- brackets_of(depths) -/
def sp_brackets_of (K : PySem.W.Frag) : Sp := fun vs H Q E => ∃ (a : Addr) (ds : List Int), vs = [.ref a] ∧ SqL K H a (ds.map V.int) ∧ ds.length ≤ 100000 ∧
  (2048 < ds.length → E (.ref (He.ga K "TooMany")) none H) ∧
  (ds.length ≤ 2048 → ¬ Deep ds → ∀ H', Same H H' → E (.ref (He.ga K "NoTree")) none H') ∧
  (ds.length ≤ 2048 → Deep ds → ∀ p H', H p = none → Same H H' → H' p = some (.lst ((brk ds).map V.int)) → Q (.ref p) H')
theorem len_brackets_of (K : PySem.W.Frag) : ∀ vs H Q E, sp_brackets_of K vs H Q E → vs.length = 1 := by
  rintro vs H Q E ⟨a, ds, rfl, _⟩; rfl
def t_brackets_of (K : PySem.W.Frag) (E : XK) : TS :=
  (tSeq (tIfS (tTest (tOp rGtI (tOp rTimes (tC (.int 2)) (tCB (rLen K) (tCons (tVar 0) tNil))) (tC (.int 4096))))
  (tRz (fun cls d _ H => E cls d H) (He.ga K "TooMany"))
  tNext)
  (tSeq (tIfS (tOr (tTest (tOp rEq (tCB (rLen K) (tCons (tVar 0) tNil)) (tC (.int 0)))) (tTest (tOp rNe (tOp (rIxL K) (tVar 0) (tC (.int 0))) (tC (.int 0)))))
  (tRz (fun cls d _ H => E cls d H) (He.ga K "NoTree"))
  tNext)
  (tSeq (tAsg (tLst (tCons (tC (.int 1)) tNil)) (gName 1))
  (tSeq (tFor (iZip K (tCons (tVar 0) (tCons (tSl (rSlL K) (tVar 0) (tPart (tC (.int 1))) tNoPart) tNil))) (gTup K 2 (gCons (gName 2) (gCons (gName 3) gNil)))
  (tSeq (tIfS (tOr (tTest (tOp rLt (tVar 3) (tC (.int 1)))) (tTest (tOp rGtI (tVar 3) (tOp rPlus (tVar 2) (tC (.int 1))))))
  (tRz (fun cls d _ H => E cls d H) (He.ga K "NoTree"))
  tNext)
  (tSeq (tDrop (tBM K "list" rExtend (tVar 1) (tCons (tOp rRep (tLst (tCons (tC (.int 0)) tNil)) (tOp rMinus (tOp rPlus (tVar 2) (tC (.int 1))) (tVar 3))) tNil)))
  (tDrop (tBM K "list" rAppend (tVar 1) (tCons (tC (.int 1)) tNil))))))
  (tSeq (tDrop (tBM K "list" rExtend (tVar 1) (tCons (tOp rRep (tLst (tCons (tC (.int 0)) tNil)) (tOp rPlus (tOp (rIxL K) (tVar 0) (tUn rNeg (tC (.int 1)))) (tC (.int 1)))) tNil)))
  (tRet (tVar 1)))))))
abbrev n_brackets_of : List Str := ["depths", "bits", "ahead", "deep"]

theorem rd_brackets_of (K : PySem.W.Frag) (vs : List V) (H : Hp) (Q : VK) (E : XK) (h : sp_brackets_of K vs H Q E) : t_brackets_of K E { nx := fun _ H' => Q .non H', rt := Q } (start n_brackets_of vs) H := by
  obtain ⟨a, ds, rfl, hS, hl0, q1, q2, q⟩ := h
  unfold t_brackets_of
  walk_at "st"
  refine k_lenL hS ?_
  walk_at "st"
  rw [List.length_map]
  walk_at "if" <;> intro c0
  · walk_at "st"
    exact q1 (by omega)
  have hl : ds.length ≤ 2048 := by omega
  walk_at "st"
  refine k_lenL hS ?_
  walk_at "st"
  rw [List.length_map]
  walk_at "if" <;> intro c1
  · walk_at "st"
    refine q2 hl (fun z => ?_) H (Same.refl H)
    obtain ⟨r, rfl, _⟩ := z.cons
    rw [List.length_cons] at c1; omega
  obtain ⟨d0, r, rfl⟩ : ∃ d0 r, ds = d0 :: r := by
    cases ds with
    | nil => exact absurd rfl c1
    | cons x xs => exact ⟨x, xs, rfl⟩
  walk_at "st"
  refine k_ixL hS (x := .int d0) (at_int (by decide) rfl) ?_
  walk_at "st"
  walk_at "if" <;> intro c2
  · walk_at "st"
    refine q2 hl (fun z => c2 z.1) H (Same.refl H)
  subst c2
  have hrl : r.length ≤ 2047 := by rw [List.length_cons] at hl; omega
  walk_at "st"
  intro p hp
  have s0 := same_new (o := .lst [.int 1]) hp
  have e0 := upd_same (H := H) (a := p) (o := .lst [.int 1])
  generalize upd H p (.lst [.int 1]) = H1 at s0 e0 ⊢
  walk_at "st"
  refine k_slL (s0.seq hS) fun p2 hp2 => ?_
  have ec : cutV (((0 : Int) :: r).map V.int) (some 1) none = r.map V.int := by simpa using cutDrop (((0 : Int) :: r).map V.int) 1
  rw [ec]
  have s1 := same_new (o := .lst (r.map V.int)) hp2
  have e1 := upd_same (H := H1) (a := p2) (o := .lst (r.map V.int))
  have np : p2 ≠ p := Ne.symm (ne_of_none e0 hp2)
  generalize upd H1 p2 (.lst (r.map V.int)) = H2 at s1 e1 ⊢
  have s02 := s0.trans s1
  walk_at "st"
  refine m_zipE (s02.seq hS) (.of e1) ?_
  refine loop_walk (walk_zip (n := r.length) (by simp)) (fun i σ H' => ∃ x y, σ = [some (.ref a), some (.ref p), x, y] ∧ i ≤ r.length ∧ Same H H' ∧ H' p2 = some (.lst (r.map V.int)) ∧ H' p = some (.lst ((1 :: brkF 0 (r.take i)).map V.int)) ∧ DeepT 0 (r.take i)) ⟨none, none, rfl, Nat.zero_le _, s02, e1, ?_, ?_⟩ (fun i σ H' ⟨_, _, _, _, s, e, _⟩ => ⟨s.seq hS, .of e⟩) ?_ ?_
  · rw [List.take_zero]; exact s1.get e0
  · rw [List.take_zero]; trivial
  · rintro i v σ H3 H4 hi ⟨y, z, rfl, _, s, e2, e, hD⟩ ⟨T, x, w, rfl, hT, rfl, ex, ew⟩
    obtain ⟨dp, hdp, rfl⟩ := of_mapint ew
    obtain ⟨ah, hah, rfl⟩ := of_mapint ex
    have sT := same_new (o := .tup [.int ah, .int dp]) hT
    have eT := upd_same (H := H3) (a := T) (o := .tup [.int ah, .int dp])
    generalize upd H3 T (.tup [.int ah, .int dp]) = H5 at sT eT ⊢
    have sH5 := s.trans sT
    refine m_gTup (.of eT) rfl ?_
    have hla := lastD_take r hah
    have hub := lastD_le hD
    have hnn := lastD_nonneg (by decide) hD
    rw [hla] at hub hnn
    rw [List.length_take] at hub
    walk_at "st"
    have bad : ¬ (1 ≤ dp ∧ dp ≤ ah + 1) → ¬ Deep (0 :: r) := fun c z => c (deepT_get z.2 hah hdp)
    walk_at "if" <;> intro c3
    · walk_at "st"
      exact q2 hl (bad fun z => by omega) _ sH5
    walk_at "st"
    walk_at "if" <;> intro c4
    · walk_at "st"
      exact q2 hl (bad fun z => by omega) _ sH5
    walk_at "st"
    refine k_tyL (.of (sT.get e)) ?_
    walk_at "st"
    intro p3 hp3
    walk_at "st"
    rw [show ah + 1 - dp = (((ah + 1 - dp).toNat : Nat) : Int) by omega]
    refine k_rep (xs := [.int 0]) upd_same (by simp only [List.length_cons, List.length_nil]; omega) (by omega) fun p4 hp4 => ?_
    rw [rep_one]
    have s4 := (same_new (o := .lst [.int 0]) hp3).trans (same_new (o := .lst (List.replicate (ah + 1 - dp).toNat (V.int 0))) hp4)
    have e4 := upd_same (H := upd H5 p3 (.lst [.int 0])) (a := p4) (o := .lst (List.replicate (ah + 1 - dp).toNat (V.int 0)))
    generalize upd (upd H5 p3 (.lst [.int 0])) p4 (.lst (List.replicate (ah + 1 - dp).toNat (V.int 0))) = H6 at s4 e4 ⊢
    walk_at "st"
    have hfl := brkF_le (by decide) hD
    rw [List.length_take] at hfl
    have e6 := s4.get (sT.get e)
    refine k_extend e6 e4 (by rw [List.length_map, List.length_replicate, List.length_cons]; omega) ?_
    have s7 : Same H (upd H6 p (.lst ((1 :: brkF 0 (r.take i)).map V.int ++ List.replicate (ah + 1 - dp).toNat (V.int 0)))) := Same.mut (sH5.trans s4) hp ⟨_, e6⟩
    have e7 := upd_same (H := H6) (a := p) (o := .lst ((1 :: brkF 0 (r.take i)).map V.int ++ List.replicate (ah + 1 - dp).toNat (V.int 0)))
    have e72 : upd H6 p (.lst ((1 :: brkF 0 (r.take i)).map V.int ++ List.replicate (ah + 1 - dp).toNat (V.int 0))) p2 = some (.lst (r.map V.int)) := by rw [upd_ne np]; exact s4.get (sT.get e2)
    generalize upd H6 p (.lst ((1 :: brkF 0 (r.take i)).map V.int ++ List.replicate (ah + 1 - dp).toNat (V.int 0))) = H7 at s7 e7 e72 ⊢
    walk_at "st"
    refine k_tyL (.of e7) ?_
    walk_at "st"
    refine k_app e7 (by rw [List.length_append, List.length_map, List.length_replicate, List.length_cons]; omega) ?_
    refine ⟨_, _, rfl, by omega, Same.mut s7 hp ⟨_, e7⟩, by rw [upd_ne np]; exact e72, ?_, ?_⟩
    · rw [upd_same, List.take_add_one, hdp]
      show _ = some (HO.lst ((1 :: brkF 0 (r.take i ++ [dp])).map V.int))
      rw [brkF_snoc, hla]
      simp [List.map_replicate]
    · rw [List.take_add_one, hdp]
      exact deepT_snoc hD (by omega) (by rw [hla]; omega)
  rintro σ H3 ⟨y, z, rfl, _, s, e2, e, hD⟩
  rw [List.take_length] at e hD
  have hnn := lastD_nonneg (by decide) hD
  have hub := lastD_le hD
  have hfl := brkF_le (by decide) hD
  walk_at "st"
  refine k_tyL (.of e) ?_
  walk_at "st"
  intro p3 hp3
  walk_at "st"
  have s3 := same_new (o := .lst [.int 0]) hp3
  refine k_ixL ((s.trans s3).seq hS) (at_lastD r) ?_
  walk_at "st"
  rw [show lastD 0 r + 1 = (((lastD 0 r + 1).toNat : Nat) : Int) by omega]
  refine k_rep (xs := [.int 0]) upd_same (by simp only [List.length_cons, List.length_nil]; omega) (by omega) fun p4 hp4 => ?_
  rw [rep_one]
  have s4 := s3.trans (same_new (o := .lst (List.replicate (lastD 0 r + 1).toNat (V.int 0))) hp4)
  have e4 := upd_same (H := upd H3 p3 (.lst [.int 0])) (a := p4) (o := .lst (List.replicate (lastD 0 r + 1).toNat (V.int 0)))
  generalize upd (upd H3 p3 (.lst [.int 0])) p4 (.lst (List.replicate (lastD 0 r + 1).toNat (V.int 0))) = H6 at s4 e4 ⊢
  walk_at "st"
  refine k_extend (s4.get e) e4 (by rw [List.length_map, List.length_replicate, List.length_cons]; omega) ?_
  walk_at "st"
  refine q hl ⟨rfl, hD⟩ p _ hp (Same.mut (s.trans s4) hp ⟨_, s4.get e⟩) ?_
  rw [upd_same]
  show _ = some (HO.lst ((1 :: brkT 0 r).map V.int))
  rw [brkF_all]
  simp [List.map_replicate]

theorem up_brkF : ∀ {a : Int} {ds : List Int}, 0 ≤ a → DeepT a ds → Up (a + 1) (brkF a ds) (lastD a ds + 1)
  | _, [], _, _ => rfl
  | a, d :: ds, h, ⟨a1, a2, a3⟩ => by
    have h1 := up_noughts (a + 1 - d).toNat (h := a + 1) (by omega)
    rw [show a + 1 - ((a + 1 - d).toNat : Int) = d by omega] at h1
    exact h1.app ⟨.inr rfl, by omega, (show d + (2 * 1 - 1) = d + 1 by omega) ▸ up_brkF (by omega) a3⟩
theorem brk_tree {ds : List Int} (h : Deep ds) : IsTree (brk ds) ∧ Bits (brk ds) := by
  obtain ⟨r, rfl, h2⟩ := h.cons
  have u : Up 0 (1 :: brkF 0 r) (lastD 0 r + 1) := ⟨.inr rfl, by omega, up_brkF (Int.le_refl _) h2⟩
  have e : brk (0 :: r) = (1 :: brkF 0 r) ++ List.replicate (lastD 0 r + 1).toNat 0 := by
    show 1 :: brkT 0 r = _
    rw [brkF_all]; rfl
  have hn := lastD_nonneg (Int.le_refl _) h2
  rw [e]
  refine ⟨tree_of_up u (by omega), fun b hb => ?_⟩
  rcases List.mem_append.mp hb with z | z
  · exact u.bits b z
  · exact .inl (List.eq_of_mem_replicate z)

/-- kept_tree(depths) -/
def sp_kept_tree (K : PySem.W.Frag) : Sp := fun vs H Q E => ∃ (a : Addr) (ds : List Int), vs = [.ref a] ∧ SqL K H a (ds.map V.int) ∧ ds.length ≤ 100000 ∧
  (2048 < ds.length → E (.ref (He.ga K "TooMany")) none H) ∧
  (ds.length ≤ 2048 → ¬ Deep ds → ∀ H', Same H H' → E (.ref (He.ga K "NoTree")) none H') ∧
  (ds.length ≤ 2048 → Deep ds → ∀ p t pa ph pb H', H p = none → H pb = none → Same H H' → H' p = some (.tup [.ref t, .ref pb]) → H' t = some (.tup [.int ((brk ds).length : Int), .ref pa, .ref ph]) → H' pa = some (.tup ((aheadT (brk ds)).map V.int)) → H' ph = some (.tup (heapL (lowsOf (brk ds)))) → H' pb = some (.lst ((blks (brk ds)).map V.int)) → Q (.ref p) H')
theorem len_kept_tree (K : PySem.W.Frag) : ∀ vs H Q E, sp_kept_tree K vs H Q E → vs.length = 1 := by
  rintro vs H Q E ⟨a, ds, rfl, _⟩; rfl
def t_kept_tree (K : PySem.W.Frag) (E : XK) : TS :=
  (tRet (tCall (sp_kept_brackets K) [] E (tCons (tCall (sp_brackets_of K) [] E (tCons (tVar 0) tNil)) tNil)))
abbrev n_kept_tree : List Str := ["depths"]

theorem rd_kept_tree (K : PySem.W.Frag) (vs : List V) (H : Hp) (Q : VK) (E : XK) (h : sp_kept_tree K vs H Q E) : t_kept_tree K E { nx := fun _ H' => Q .non H', rt := Q } (start n_kept_tree vs) H := by
  obtain ⟨a, ds, rfl, hS, hl, q1, q2, q3⟩ := h
  unfold t_kept_tree
  walk_at "st"
  refine ⟨a, ds, rfl, hS, hl, q1, q2, fun hm hD p0 H1 hp0 s1 e1 => ?_⟩
  obtain ⟨hT, hB⟩ := brk_tree hD
  have hb := brk_len hD
  walk_at "st"
  refine ⟨p0, brk ds, rfl, .of e1, by omega, fun z => absurd z (by omega), fun _ z => absurd hB z, fun _ _ z => absurd hT z, fun _ _ _ p t pa ph pb H2 hp hpb s2 ep et ea eh eb => ?_⟩
  exact q3 hm hD p t pa ph pb H2 (s1.gone _ hp) (s1.gone _ hpb) (s1.trans s2) ep et ea eh eb

/-- a row's tables at t, a look at its blocks -/
structure RowAt (K : PySem.W.Frag) (CL : CLs) (H : Hp) (t g : Addr) (bs : List Int) (q : Option Addr) (I : List Nat → Hp → Prop) : Prop where
  tab : ∃ pa, SqT K H t [.int (bs.length : Int), .ref pa] ∧ SqT K H pa ((aheadT bs).map V.int)
  look : LookR CL g (blks bs).length (fun k => .int ((blks bs).getD k 0)) q I
  bits : Bits bs
  len : bs.length ≤ 5000
theorem RowAt.moveX {K : PySem.W.Frag} {CL : CLs} {H H' : Hp} {t g : Addr} {bs : List Int} {q : Option Addr} {I : List Nat → Hp → Prop} (r : RowAt K CL H t g bs q I) (s : SameX q H H') : RowAt K CL H' t g bs q I :=
  ⟨let ⟨pa, h1, h2⟩ := r.tab; ⟨pa, s.seqT h1, s.seqT h2⟩, r.look, r.bits, r.len⟩
theorem RowAt.move {K : PySem.W.Frag} {CL : CLs} {H H' : Hp} {t g : Addr} {bs : List Int} {q : Option Addr} {I : List Nat → Hp → Prop} (r : RowAt K CL H t g bs q I) (s : Same H H') : RowAt K CL H' t g bs q I :=
  ⟨let ⟨pa, h1, h2⟩ := r.tab; ⟨pa, s.seqT h1, s.seqT h2⟩, r.look, r.bits, r.len⟩

/-- a tree's tables at t, a look at its blocks -/
structure BrAt (K : PySem.W.Frag) (CL : CLs) (H : Hp) (t g : Addr) (bs : List Int) (q : Option Addr) (I : List Nat → Hp → Prop) : Prop where
  tab : ∃ pa ph, SqT K H t [.int (bs.length : Int), .ref pa, .ref ph] ∧ SqT K H pa ((aheadT bs).map V.int) ∧ SqT K H ph (heapL (lowsOf bs))
  look : LookR CL g (blks bs).length (fun k => .int ((blks bs).getD k 0)) q I
  bits : Bits bs
  tree : IsTree bs
  len : bs.length ≤ 4096
theorem BrAt.moveX {K : PySem.W.Frag} {CL : CLs} {H H' : Hp} {t g : Addr} {bs : List Int} {q : Option Addr} {I : List Nat → Hp → Prop} (r : BrAt K CL H t g bs q I) (s : SameX q H H') : BrAt K CL H' t g bs q I :=
  ⟨let ⟨pa, ph, h1, h2, h3⟩ := r.tab; ⟨pa, ph, s.seqT h1, s.seqT h2, s.seqT h3⟩, r.look, r.bits, r.tree, r.len⟩
theorem BrAt.move {K : PySem.W.Frag} {CL : CLs} {H H' : Hp} {t g : Addr} {bs : List Int} {q : Option Addr} {I : List Nat → Hp → Prop} (r : BrAt K CL H t g bs q I) (s : Same H H') : BrAt K CL H' t g bs q I :=
  ⟨let ⟨pa, ph, h1, h2, h3⟩ := r.tab; ⟨pa, ph, s.seqT h1, s.seqT h2, s.seqT h3⟩, r.look, r.bits, r.tree, r.len⟩

/-- node_look(tables) -/
def sp_node_look_lam (K : PySem.W.Frag) (_ : CLs) (_ : Nat) (ws vs : List V) (H : Hp) (Q : VK) : Prop := ∃ (p : Addr) (xs : List V) (i : Int) (x : V), ws = [.ref p] ∧ vs = [.int i] ∧ SqT K H p xs ∧ atI xs i = some x ∧ Q x H
theorem len_node_look_lam (K : PySem.W.Frag) (CL : CLs) (j : Nat) : ∀ ws vs H Q, sp_node_look_lam K CL j ws vs H Q → vs.length = 1 := by
  rintro ws vs H Q ⟨p, xs, i, x, rfl, rfl, _⟩; rfl
def sp_node_look (K : PySem.W.Frag) (CL : CLs) : Sp := fun vs H Q _ => ∃ (t pn : Addr) (x y : V) (r xs : List V), vs = [.ref t] ∧ SqT K H t (x :: y :: .ref pn :: r) ∧ SqT K H pn xs ∧ NdefX.TabN H (tabP K "node_look") nmL ∧ ∀ g H', H g = none → Same H H' → PureLook CL 1 g xs H' → Q (.ref g) H'
theorem len_node_look (K : PySem.W.Frag) (CL : CLs) : ∀ vs H Q E, sp_node_look K CL vs H Q E → vs.length = 1 := by
  rintro vs H Q E ⟨a, _, _, _, _, xs, rfl, _⟩; rfl
def t_node_look_lam (K : PySem.W.Frag) (CL : CLs) (j : Nat) : TE :=
  (tOp (rIxT K) (tVar 1) (tVar 0))
abbrev n_node_look_lam : List Str := ["number", "nodes"]
def tp_node_look (K : PySem.W.Frag) (P : Addr) (b : Expr) (mk : Addr → NdefX.NF) : TS :=
  (tAsg (tOp (rIxT K) (tVar 0) (tC (.int 2))) (gName 1))
def te_node_look (K : PySem.W.Frag) (P : Addr) (b : Expr) (mk : Addr → NdefX.NF) : TE :=
  (tLamC P b mk)
def t_node_look (K : PySem.W.Frag) (P : Addr) (b : Expr) (mk : Addr → NdefX.NF) (G : V → L2.St → Hp → Prop) : L2.St → Hp → Prop := tp_node_look K P b mk (Ends.mk (fun σ' H' => te_node_look K P b mk σ' H' fun v H'' => G v σ' H'') (fun _ _ => False) (fun _ _ => False) (fun _ _ => False))
abbrev n_node_look : List Str := ["tables", "nodes"]

theorem rd_node_look_lam (K : PySem.W.Frag) (CL : CLs) (j : Nat) (vs ws : List V) (H : Hp) (Q : VK) (h : sp_node_look_lam K CL j ws vs H Q) : t_node_look_lam K CL j (NdefX.startF n_node_look_lam vs (ws.map some)) H Q := by
  obtain ⟨p, xs, i, x, rfl, rfl, e, hx, q⟩ := h
  unfold t_node_look_lam
  walk_at "st"
  exact k_ixT e hx q
theorem lamO_ne {b : Expr} {f : Addr} {F : NdefX.NF} : ∀ ps, LamO b f F ≠ .tbl ps := fun ps z => by unfold LamO at z; cases z
theorem rd_node_look (K : PySem.W.Frag) (CL : CLs) (P : Addr) (hP : P = tabP K "node_look") (b : Expr) (mk : Addr → NdefX.NF) (vs : List V) (H : Hp) (Q : VK) (E : XK) (h : sp_node_look K CL vs H Q E) (G : V → L2.St → Hp → Prop)
(hG : ∀ v σ' H'', (∀ C dC H', Upg CL 0 (LamO b) mk [1] (sp_node_look_lam K CL) C dC σ' H'' H' → Q v H') → G v σ' H'')
    : t_node_look K P b mk G (start n_node_look vs) H := by
  subst hP
  obtain ⟨t, pn, x, y, r, xs, rfl, hT, hN, hTb, q⟩ := h
  unfold t_node_look tp_node_look te_node_look
  walk_at "st"
  refine k_ixT hT (at_int (by decide) rfl) ?_
  walk_at "st"
  refine m_lamC hTb fun f c' H1 s1 f0 f1 c1 => ?_
  refine hG _ _ _ fun C dC H' u => ?_
  have e1 : SqT K H1 pn xs := s1.seqT hN
  refine q f H' f0 (s1.trans u.up) fun H3 s3 => ⟨?_, fun i x Q3 hx q3 => ?_⟩
  · exact (isFn_lam (u.up.keep _ _ f1 lamO_ne)).ext s3
  · have hx3 : ∀ b φ, H' b = some (.ext φ) → H3 b = some (.ext φ) := fun b φ e => s3 b _ e fun _ z => nomatch z
    have e3 : SqT K (hide C H3) pn xs := by
      rcases e1 with (z | ⟨o, z⟩) | z
      · exact .inl (.inl ((hide_out (upg_out u z)).trans (s3 pn _ (u.up.get z) fun _ z => nomatch z)))
      · exact .inl (.inr ⟨o, (hide_out (upg_out u z)).trans (s3 pn _ (u.up.get z) fun _ z => nomatch z)⟩)
      · exact .inr z
    refine u.law f c' f1 c1 [.ref pn] rfl 0 H3 _ Q3 hx3 ⟨pn, xs, i, x, rfl, rfl, e3, at_nat hx, ?_⟩
    show Q3 x (unhide C H3 (hide C H3))
    rw [unhide_hide]
    exact q3 _ (L2.Same.refl _)

/-- check_place(tables, at) -/
def sp_check_place (K : PySem.W.Frag) : Sp := fun vs H Q E => ∃ (t : Addr) (n : Nat) (r : List V) (at_ : Int), vs = [.ref t, .int at_] ∧ SqT K H t (.int (n : Int) :: r) ∧ ((at_ < 0 ∨ (n : Int) < at_) → E (.ref (He.ga K "NoPlace")) none H) ∧ (0 ≤ at_ → at_ ≤ (n : Int) → Q .non H)
theorem len_check_place (K : PySem.W.Frag) : ∀ vs H Q E, sp_check_place K vs H Q E → vs.length = 2 := by
  rintro vs H Q E ⟨a, _, _, b, rfl, _⟩; rfl
def t_check_place (K : PySem.W.Frag) (E : XK) : TS :=
  (tIfS (tOr (tTest (tOp rLt (tVar 1) (tC (.int 0)))) (tTest (tOp rGtI (tVar 1) (tOp (rIxT K) (tVar 0) (tC (.int 0))))))
  (tRz (fun cls d _ H => E cls d H) (He.ga K "NoPlace"))
  tNext)
abbrev n_check_place : List Str := ["tables", "at"]

theorem rd_check_place (K : PySem.W.Frag) (vs : List V) (H : Hp) (Q : VK) (E : XK) (h : sp_check_place K vs H Q E) : t_check_place K E { nx := fun _ H' => Q .non H', rt := Q } (start n_check_place vs) H := by
  obtain ⟨t, n, r, at_, rfl, hT, q1, q2⟩ := h
  unfold t_check_place
  walk_at "st"
  walk_at "if" <;> intro c
  · walk_at "st"
    exact q1 (.inl c)
  walk_at "st"
  refine k_ixT hT (at_int (by decide) rfl) ?_
  walk_at "st"
  walk_at "if" <;> intro c1
  · walk_at "st"
    exact q1 (.inr c1)
  walk_at "st"
  exact q2 (by omega) (by omega)

/-! ### nodes that cover a stretch -/
/-- ps (node, height) lie end to end from x to y -/
def covP : List (Nat × Nat) → Nat → Nat → Prop
  | [], x, y => x = y
  | p :: ps, x, y => p.1 * 2 ^ p.2 = x ∧ covP ps ((p.1 + 1) * 2 ^ p.2) y
theorem covP_app : ∀ {ps qs : List (Nat × Nat)} {x y z : Nat}, covP ps x y → covP qs y z → covP (ps ++ qs) x z
  | [], _, _, _, _, h, h2 => by cases h; exact h2
  | _ :: _, _, _, _, _, h, h2 => ⟨h.1, covP_app h.2 h2⟩
theorem covP_one {n e x y : Nat} (h1 : n * 2 ^ e = x) (h2 : (n + 1) * 2 ^ e = y) : covP [(n, e)] x y := ⟨h1, h2⟩
structure NodeOk (S a b : Nat) (p : Nat × Nat) : Prop where
  ge : S ≤ p.1 * 2 ^ p.2
  le : (p.1 + 1) * 2 ^ p.2 ≤ 2 * S
  max : p.1 / 2 * 2 ^ (p.2 + 1) < a ∨ b < (p.1 / 2 + 1) * 2 ^ (p.2 + 1)
/-- the walk's state at the height e -/
structure CovSt (S a b e low high : Nat) (L R : List (Nat × Nat)) : Prop where
  low1 : low * 2 ^ e < a + 2 ^ e
  low2 : a ≤ low * 2 ^ e
  high1 : high * 2 ^ e ≤ b
  high2 : b < (high + 1) * 2 ^ e
  le : low ≤ high
  covL : covP L a (low * 2 ^ e)
  covR : covP R.reverse (high * 2 ^ e) b
  ok : ∀ p, p ∈ L ∨ p ∈ R → NodeOk S a b p
theorem pow2_succ (e : Nat) : 2 ^ (e + 1) = 2 * 2 ^ e := by rw [Nat.pow_succ, Nat.mul_comm]
theorem CovSt.lowStep {S a b e low high : Nat} {L R : List (Nat × Nat)} (c : CovSt S a b e low high L R) (hS : S ≤ a) (hb : b ≤ 2 * S) (h : low < high) (ho : low % 2 = 1) :
    covP (L ++ [(low, e)]) a ((low + 1) * 2 ^ e) ∧ NodeOk S a b (low, e) := by
  have e1 : (low + 1) * 2 ^ e = low * 2 ^ e + 2 ^ e := Nat.succ_mul _ _
  have h1 : (low + 1) * 2 ^ e ≤ high * 2 ^ e := Nat.mul_le_mul_right _ h
  have c1 := c.low1; have c2 := c.low2; have c3 := c.high1
  refine ⟨covP_app c.covL (covP_one rfl rfl), ⟨?_, ?_, .inl ?_⟩⟩
  · show S ≤ low * 2 ^ e; omega
  · show (low + 1) * 2 ^ e ≤ 2 * S; omega
  · show low / 2 * 2 ^ (e + 1) < a
    obtain ⟨u, rfl⟩ : ∃ u, low = 2 * u + 1 := ⟨low / 2, by omega⟩
    rw [show (2 * u + 1) / 2 = u by omega, pow2_succ]
    rw [Nat.add_mul, Nat.mul_assoc, Nat.one_mul] at c1
    rw [Nat.mul_left_comm]
    omega
theorem CovSt.highStep {S a b e low high : Nat} {L R : List (Nat × Nat)} (c : CovSt S a b e low high L R) (hS : S ≤ a) (hb : b ≤ 2 * S) (h : low < high) (ho : high % 2 = 1) :
    covP (R ++ [(high - 1, e)]).reverse ((high - 1) * 2 ^ e) b ∧ NodeOk S a b (high - 1, e) := by
  obtain ⟨u, rfl⟩ : ∃ u, high = 2 * u + 1 := ⟨high / 2, by omega⟩
  have c1 := c.low1; have c2 := c.low2; have c3 := c.high1; have c4 := c.high2; have c5 := c.covR
  have h1 : low * 2 ^ e ≤ (2 * u) * 2 ^ e := Nat.mul_le_mul_right _ (by omega)
  rw [show 2 * u + 1 - 1 = 2 * u by omega]
  refine ⟨?_, ⟨?_, ?_, .inr ?_⟩⟩
  · rw [List.reverse_append]
    exact ⟨rfl, c5⟩
  · show S ≤ 2 * u * 2 ^ e; omega
  · show (2 * u + 1) * 2 ^ e ≤ 2 * S; omega
  · show b < (2 * u / 2 + 1) * 2 ^ (e + 1)
    rw [show 2 * u / 2 = u by omega, pow2_succ, Nat.mul_left_comm, ← Nat.mul_assoc, Nat.mul_add]
    exact c4
/-- halving both -/
theorem CovSt.halve {S a b e low high low' high' : Nat} {L R L' R' : List (Nat × Nat)} (c : CovSt S a b e low high L R) (h : low < high) (hl : low' = low ∧ low % 2 = 0 ∧ L' = L ∨ low' = low + 1 ∧ low % 2 = 1 ∧ L' = L ++ [(low, e)]) (hh : high' = high ∧ high % 2 = 0 ∧ R' = R ∨ high' = high - 1 ∧ high % 2 = 1 ∧ R' = R ++ [(high - 1, e)]) (hS : S ≤ a) (hb : b ≤ 2 * S) :
    CovSt S a b (e + 1) (low' / 2) (high' / 2) L' R' := by
  have cov1 : covP L' a (low' * 2 ^ e) := by
    rcases hl with ⟨rfl, _, rfl⟩ | ⟨rfl, ho, rfl⟩
    · exact c.covL
    · exact (c.lowStep hS hb h ho).1
  have cov2 : covP R'.reverse (high' * 2 ^ e) b := by
    rcases hh with ⟨rfl, _, rfl⟩ | ⟨rfl, ho, rfl⟩
    · exact c.covR
    · exact (c.highStep hS hb h ho).1
  obtain ⟨u, hu⟩ : ∃ u, low' = 2 * u := ⟨low' / 2, by omega⟩
  obtain ⟨v, hv⟩ : ∃ v, high' = 2 * v := ⟨high' / 2, by omega⟩
  have c1 := c.low1; have c2 := c.low2; have c3 := c.high1; have c4 := c.high2; have c5 := c.le
  have hm1 : low * 2 ^ e ≤ low' * 2 ^ e := Nat.mul_le_mul_right _ (by omega)
  have hm2 : low' * 2 ^ e ≤ low * 2 ^ e + 2 ^ e := by rw [← Nat.succ_mul]; exact Nat.mul_le_mul_right _ (by omega)
  have hm3 : high' * 2 ^ e ≤ high * 2 ^ e := Nat.mul_le_mul_right _ (by omega)
  have hm4 : (high + 1) * 2 ^ e ≤ (high' + 2) * 2 ^ e := Nat.mul_le_mul_right _ (by omega)
  have hx : u * 2 ^ (e + 1) = low' * 2 ^ e := by rw [hu, pow2_succ, Nat.mul_left_comm, Nat.mul_assoc]
  have hy : v * 2 ^ (e + 1) = high' * 2 ^ e := by rw [hv, pow2_succ, Nat.mul_left_comm, Nat.mul_assoc]
  have hy1 : (v + 1) * 2 ^ (e + 1) = (high' + 2) * 2 ^ e := by rw [hv, pow2_succ, Nat.mul_left_comm, ← Nat.mul_assoc, Nat.mul_add]
  rw [show low' / 2 = u by omega, show high' / 2 = v by omega]
  refine ⟨?_, ?_, ?_, ?_, ?_, ?_, ?_, fun p hp => ?_⟩
  · rw [hx, pow2_succ]; omega
  · rw [hx]; omega
  · rw [hy]; omega
  · rw [hy1]; omega
  · rcases hl with ⟨h1, h2, _⟩ | ⟨h1, h2, _⟩ <;> rcases hh with ⟨h3, h4, _⟩ | ⟨h3, h4, _⟩ <;> omega
  · rw [hx]; exact cov1
  · rw [hy]; exact cov2
  · rcases hp with hp | hp
    · rcases hl with ⟨_, _, rfl⟩ | ⟨_, ho, rfl⟩
      · exact c.ok p (.inl hp)
      · rcases List.mem_append.mp hp with z | z
        · exact c.ok p (.inl z)
        · have : p = (low, e) := by simpa using z
          rw [this]; exact (c.lowStep hS hb h ho).2
    · rcases hh with ⟨_, _, rfl⟩ | ⟨_, ho, rfl⟩
      · exact c.ok p (.inr hp)
      · rcases List.mem_append.mp hp with z | z
        · exact c.ok p (.inr z)
        · have : p = (high - 1, e) := by simpa using z
          rw [this]; exact (c.highStep hS hb h ho).2
theorem CovSt.room {S a b e low high : Nat} {L R : List (Nat × Nat)} (c : CovSt S a b e low high L R) (hS : S ≤ a) (hb : b ≤ 2 * S) (h : low < high) : 2 ^ e ≤ S := by
  have h1 : (low + 1) * 2 ^ e ≤ high * 2 ^ e := Nat.mul_le_mul_right _ h
  rw [Nat.succ_mul] at h1
  have c2 := c.low2; have c3 := c.high1
  omega
/-- the list that the walk makes -/
def covLoop : Nat → Nat → Nat → Nat → List (Nat × Nat) → List (Nat × Nat) → List (Nat × Nat)
  | 0, _, _, _, L, R => L ++ R.reverse
  | f + 1, e, low, high, L, R => if low < high then covLoop f (e + 1) ((if low % 2 = 1 then low + 1 else low) / 2) ((if high % 2 = 1 then high - 1 else high) / 2) (if low % 2 = 1 then L ++ [(low, e)] else L) (if high % 2 = 1 then R ++ [(high - 1, e)] else R) else L ++ R.reverse
def coverF (S a b : Nat) : List (Nat × Nat) := covLoop (S + b + 1) 0 (S + a) (S + b) [] []
theorem covLoop_step {f e low high low' high' : Nat} {L R L' R' : List (Nat × Nat)} (h : low < high) (hl : low' = low ∧ low % 2 = 0 ∧ L' = L ∨ low' = low + 1 ∧ low % 2 = 1 ∧ L' = L ++ [(low, e)]) (hh : high' = high ∧ high % 2 = 0 ∧ R' = R ∨ high' = high - 1 ∧ high % 2 = 1 ∧ R' = R ++ [(high - 1, e)]) :
    covLoop (f + 1) e low high L R = covLoop f (e + 1) (low' / 2) (high' / 2) L' R' := by
  show (if low < high then _ else _) = _
  rw [if_pos h]
  rcases hl with ⟨rfl, h1, rfl⟩ | ⟨rfl, h1, rfl⟩ <;> rcases hh with ⟨rfl, h2, rfl⟩ | ⟨rfl, h2, rfl⟩ <;> simp [h1, h2]
theorem covLoop_end {f e low high : Nat} {L R : List (Nat × Nat)} (h : ¬ low < high) : covLoop f e low high L R = L ++ R.reverse := by
  cases f with
  | zero => rfl
  | succ f => exact if_neg h
def ndV (p : Nat × Nat) : V := .int (p.1 : Int)
/-- cover(many, start, stop) -/
def sp_cover (K : PySem.W.Frag) : Sp := fun vs H Q E => ∃ (many : Nat) (i j : Int), vs = [.int (many : Int), .int i, .int j] ∧ many ≤ 5000 ∧
  ((i < 0 ∨ j < i ∨ (many : Int) < j) → E (.ref (He.ga K "NoPlace")) none H) ∧
  (∀ a b : Nat, i = (a : Int) → j = (b : Int) → a ≤ b → b ≤ many → ∀ ps p H', ps = coverF (2 ^ hOf many) a b → covP ps (2 ^ hOf many + a) (2 ^ hOf many + b) → (∀ x ∈ ps, NodeOk (2 ^ hOf many) (2 ^ hOf many + a) (2 ^ hOf many + b) x) → ps.length ≤ 2 * hOf many + 2 → H p = none → Same H H' → H' p = some (.lst (ps.map ndV)) → Q (.ref p) H')
theorem len_cover (K : PySem.W.Frag) : ∀ vs H Q E, sp_cover K vs H Q E → vs.length = 3 := by
  rintro vs H Q E ⟨m, i, j, rfl, _⟩; rfl
def t_cover (K : PySem.W.Frag) (E : XK) : TS :=
  (tSeq (tIfS (tOr (tTest (tOp rLt (tVar 1) (tC (.int 0)))) (tOr (tTest (tOp rGtI (tVar 1) (tVar 2))) (tTest (tOp rGtI (tVar 2) (tVar 0)))))
  (tRz (fun cls d _ H => E cls d H) (He.ga K "NoPlace"))
  tNext)
  (tSeq (tAsg (tOp rPlus (tCall (sp_size_of K) [] E0 (tCons (tVar 0) tNil)) (tVar 1)) (gName 3))
  (tSeq (tAsg (tOp rPlus (tCall (sp_size_of K) [] E0 (tCons (tVar 0) tNil)) (tVar 2)) (gName 4))
  (tSeq (tAsg (tLst tNil) (gName 5))
  (tSeq (tAsg (tLst tNil) (gName 6))
  (tSeq (tWhile (tTest (tOp rLt (tVar 3) (tVar 4)))
  (Evl.tCut (tIfS (tTest (tOp rEq (tOp rMod (tVar 3) (tC (.int 2))) (tC (.int 1))))
  (tSeq (tDrop (tBM K "list" rAppend (tVar 5) (tCons (tVar 3) tNil)))
  (tAug 3 (tC (.int 1)) (ipI fun i j => i + j)))
  tNext)
  (Evl.tCut (tIfS (tTest (tOp rEq (tOp rMod (tVar 4) (tC (.int 2))) (tC (.int 1))))
  (tSeq (tAug 4 (tC (.int 1)) (ipI fun i j => i - j))
  (tDrop (tBM K "list" rAppend (tVar 6) (tCons (tVar 4) tNil))))
  tNext)
  (tSeq (tAsg (tOp rDiv (tVar 3) (tC (.int 2))) (gName 3))
  (tAsg (tOp rDiv (tVar 4) (tC (.int 2))) (gName 4))))))
  (tRet (tOp rCat (tVar 5) (tRevL K (tVar 6))))))))))
abbrev n_cover : List Str := ["many", "start", "stop", "low", "high", "left", "right"]

theorem rd_cover (K : PySem.W.Frag) (vs : List V) (H : Hp) (Q : VK) (E : XK) (h : sp_cover K vs H Q E) : t_cover K E { nx := fun _ H' => Q .non H', rt := Q } (start n_cover vs) H := by
  obtain ⟨many, i, j, rfl, hm, q1, q2⟩ := h
  unfold t_cover
  walk_at "st"
  walk_at "if" <;> intro c1
  · walk_at "st"; exact q1 (.inl c1)
  walk_at "st"
  walk_at "if" <;> intro c2
  · walk_at "st"; exact q1 (.inr (.inl c2))
  walk_at "st"
  walk_at "if" <;> intro c3
  · walk_at "st"; exact q1 (.inr (.inr c3))
  obtain ⟨a, rfl⟩ : ∃ a : Nat, i = (a : Int) := ⟨i.toNat, by omega⟩
  obtain ⟨b, rfl⟩ : ∃ b : Nat, j = (b : Int) := ⟨j.toNat, by omega⟩
  have hab : a ≤ b := by omega
  have hbm : b ≤ many := by omega
  have q2 := q2 a b rfl rfl hab hbm
  have hle := hOf_le many
  generalize hS : 2 ^ hOf many = S at q2 hle
  walk_at "st"
  refine ⟨many, rfl, by omega, ?_⟩
  rw [hS]
  walk_at "st"
  refine ⟨many, rfl, by omega, ?_⟩
  rw [hS]
  walk_at "st"
  intro p1 hp1
  walk_at "st"
  intro p2 hp2
  walk_at "st"
  have hp2' : H p2 = none := (same_new hp1).gone _ hp2
  have n12 : p1 ≠ p2 := ne_of_none upd_same hp2
  refine loop_while (fun m σ H' => ∃ (e low high : Nat) (L R : List (Nat × Nat)), m = high ∧ e ≤ hOf many + 1 ∧ L.length ≤ e ∧ R.length ≤ e ∧ (∃ f, high < f ∧ covLoop f e low high L R = coverF S a b) ∧ CovSt S (S + a) (S + b) e low high L R ∧ σ = [some (.int (many : Int)), some (.int (a : Int)), some (.int (b : Int)), some (.int (low : Int)), some (.int (high : Int)), some (.ref p1), some (.ref p2)] ∧ Same H H' ∧ H' p1 = some (.lst (L.map ndV)) ∧ H' p2 = some (.lst (R.map ndV))) (S + b) ⟨0, S + a, S + b, [], [], rfl, Nat.zero_le _, Nat.le_refl _, Nat.le_refl _, ⟨S + b + 1, by omega, rfl⟩, ⟨by simp, by simp, by simp, by simp, by omega, by simp [covP], by simp [covP], fun p hp => by simp at hp⟩, ?_, (same_new hp1).trans (same_new hp2), by rw [upd_ne n12, upd_same]; rfl, by rw [upd_same]; rfl⟩ ?_
  · rw [show ((S + a : Nat) : Int) = (S : Int) + (a : Int) by push_cast; rfl, show ((S + b : Nat) : Int) = (S : Int) + (b : Int) by push_cast; rfl]; rfl
  rintro m σ H' ⟨e, low, high, L, R, rfl, he, hL, hR, ⟨f, hf, ef⟩, cs, rfl, s, e1, e2⟩
  have hS1 : S ≤ S + a := by omega
  have hb2 : S + b ≤ 2 * S := by omega
  have hsm := hOf_small (many := many)
  have hh : hOf many ≤ 13 := by
    rcases Nat.lt_or_ge 13 (hOf many) with z | z
    · have := hOf_lt z; omega
    · exact z
  walk_at "st"
  walk_at "if" <;> intro c
  · have hlt : low < m := by omega
    have hroom := cs.room hS1 hb2 hlt
    have heh : e ≤ hOf many := by
      rcases Nat.lt_or_ge (hOf many) e with z | z
      · have := Nat.pow_lt_pow_right (show 1 < 2 by decide) z; omega
      · exact z
    walk_at "st"
    refine m_cut (fun σ' H'' => ∃ (low' : Nat) (L' : List (Nat × Nat)), (low' = low ∧ low % 2 = 0 ∧ L' = L ∨ low' = low + 1 ∧ low % 2 = 1 ∧ L' = L ++ [(low, e)]) ∧ σ' = [some (.int (many : Int)), some (.int (a : Int)), some (.int (b : Int)), some (.int (low' : Int)), some (.int (m : Int)), some (.ref p1), some (.ref p2)] ∧ Same H H'' ∧ H'' p1 = some (.lst (L'.map ndV)) ∧ H'' p2 = some (.lst (R.map ndV))) ?_ ?_
    · walk_at "st"
      walk_at "if" <;> intro d
      · walk_at "st"
        refine k_tyL (.of e1) ?_
        walk_at "st"
        refine k_app e1 (by rw [List.length_map]; omega) ?_
        walk_at "st"
        exact ⟨low + 1, L ++ [(low, e)], .inr ⟨rfl, by omega, rfl⟩, by push_cast; rfl, Same.mut s hp1, by rw [upd_same, List.map_append]; rfl, by rw [upd_ne n12.symm]; exact e2⟩
      · walk_at "st"
        exact ⟨low, L, .inl ⟨rfl, by omega, rfl⟩, rfl, s, e1, e2⟩
    rintro σ' H1 ⟨low', L', hl', rfl, s1, e1', e2'⟩
    refine m_cut (fun σ' H'' => ∃ (high' : Nat) (R' : List (Nat × Nat)), (high' = m ∧ m % 2 = 0 ∧ R' = R ∨ high' = m - 1 ∧ m % 2 = 1 ∧ R' = R ++ [(m - 1, e)]) ∧ σ' = [some (.int (many : Int)), some (.int (a : Int)), some (.int (b : Int)), some (.int (low' : Int)), some (.int (high' : Int)), some (.ref p1), some (.ref p2)] ∧ Same H H'' ∧ H'' p1 = some (.lst (L'.map ndV)) ∧ H'' p2 = some (.lst (R'.map ndV))) ?_ ?_
    · walk_at "st"
      walk_at "if" <;> intro d
      · walk_at "st"
        refine k_tyL (.of e2') ?_
        walk_at "st"
        refine k_app e2' (by rw [List.length_map]; omega) ?_
        walk_at "st"
        have hm1 : ((m : Int) - 1) = ((m - 1 : Nat) : Int) := by omega
        rw [hm1]
        exact ⟨m - 1, R ++ [(m - 1, e)], .inr ⟨rfl, by omega, rfl⟩, rfl, Same.mut s1 hp2', by rw [upd_ne n12]; exact e1', by rw [upd_same, List.map_append]; rfl⟩
      · walk_at "st"
        exact ⟨m, R, .inl ⟨rfl, by omega, rfl⟩, rfl, s1, e1', e2'⟩
    rintro σ' H2 ⟨high', R', hr', rfl, s2, e1'', e2''⟩
    walk_at "st"
    have hmd : high' / 2 < m := by rcases hr' with ⟨z, _, _⟩ | ⟨z, _, _⟩ <;> omega
    refine ⟨high' / 2, hmd, e + 1, low' / 2, high' / 2, L', R', rfl, by omega, ?_, ?_, ?_, cs.halve hlt hl' hr' hS1 hb2, ?_, s2, e1'', e2''⟩
    · rcases hl' with ⟨_, _, rfl⟩ | ⟨_, _, rfl⟩
      · omega
      · rw [List.length_append]; simp only [List.length_cons, List.length_nil]; omega
    · rcases hr' with ⟨_, _, rfl⟩ | ⟨_, _, rfl⟩
      · omega
      · rw [List.length_append]; simp only [List.length_cons, List.length_nil]; omega
    · obtain ⟨f, rfl⟩ : ∃ f', f = f' + 1 := ⟨f - 1, by omega⟩
      exact ⟨f, by omega, by rw [← ef, covLoop_step hlt hl' hr']⟩
    · rw [show ((low' / 2 : Nat) : Int) = (low' : Int) / 2 by omega, show ((high' / 2 : Nat) : Int) = (high' : Int) / 2 by omega]; rfl
  · have hlm : low = m := by have := cs.le; omega
    subst hlm
    walk_at "st"
    refine m_revLE (.of e2) fun p3 hp3 => ?_
    rw [← List.map_reverse]
    refine k_cat ((same_new hp3).get e1) upd_same (by rw [List.length_map, List.length_map, List.length_reverse]; omega) fun p4 hp4 => ?_
    walk_at "st"
    have s4 := s.trans ((same_new (o := .lst (R.reverse.map ndV)) hp3).trans (same_new (o := .lst (L.map ndV ++ R.reverse.map ndV)) hp4))
    refine q2 (L ++ R.reverse) p4 _ (by rw [← ef, covLoop_end (by omega)]) (covP_app cs.covL cs.covR) (fun x hx => ?_) (by rw [List.length_append, List.length_reverse]; omega) ((s.trans (same_new hp3)).gone _ hp4) s4 (by rw [upd_same, List.map_append])
    rcases List.mem_append.mp hx with z | z
    · exact cs.ok x (.inl z)
    · exact cs.ok x (.inr (List.mem_reverse.mp z))

/-- the least of n numbers from place a on (None where there are none) -/
def rmin (ns : List Int) (a : Nat) : Nat → Option Int
  | 0 => none
  | n + 1 => minO (rmin ns a n) ns[a + n]?
theorem minO_none (a : Option Int) : minO a none = a := by cases a <;> rfl
theorem minO_assoc (a b c : Option Int) : minO (minO a b) c = minO a (minO b c) := by
  cases a with
  | none => rfl
  | some a =>
    cases b with
    | none => rfl
    | some b =>
      cases c with
      | none => rfl
      | some c =>
        show some (if c < (if b < a then b else a) then c else (if b < a then b else a)) = some (if (if c < b then c else b) < a then (if c < b then c else b) else a)
        congr 1
        (repeat' split) <;> omega
theorem rmin_add (ns : List Int) (a m : Nat) : ∀ n, rmin ns a (m + n) = minO (rmin ns a m) (rmin ns (a + m) n)
  | 0 => (minO_none _).symm
  | n + 1 => by
    show minO (rmin ns a (m + n)) ns[a + (m + n)]? = minO (rmin ns a m) (minO (rmin ns (a + m) n) ns[a + m + n]?)
    rw [rmin_add ns a m n, minO_assoc, Nat.add_assoc]
/-- a node bears the least of its stretch -/
theorem bear_span {ns : List Int} {h : Nat} : ∀ {e n : Nat}, 2 ^ h ≤ n * 2 ^ e → (n + 1) * 2 ^ e ≤ 2 * 2 ^ h → bear ns h n = rmin ns (n * 2 ^ e - 2 ^ h) (2 ^ e)
  | 0, n, h1, h2 => by
    rw [Nat.pow_zero, Nat.mul_one] at h1 ⊢
    rw [bear_leaf h1]
    show _ = minO none ns[n - 2 ^ h + 0]?
    rfl
  | e + 1, n, h1, h2 => by
    have p1 := Nat.two_pow_pos h
    have p2 := Nat.two_pow_pos e
    have e1 : n * 2 ^ (e + 1) = 2 * n * 2 ^ e := by rw [pow2_succ, Nat.mul_left_comm, Nat.mul_assoc]
    have e2 : (n + 1) * 2 ^ (e + 1) = (2 * n + 1 + 1) * 2 ^ e := by rw [pow2_succ, Nat.mul_left_comm, ← Nat.mul_assoc, Nat.mul_add]
    have e3 : (2 * n + 1) * 2 ^ e = 2 * n * 2 ^ e + 2 ^ e := Nat.succ_mul _ _
    have e4 : (2 * n + 1 + 1) * 2 ^ e = (2 * n + 1) * 2 ^ e + 2 ^ e := Nat.succ_mul _ _
    rw [e1] at h1
    rw [e2] at h2
    have n1 : 1 ≤ n := by
      rcases Nat.eq_zero_or_pos n with z | z
      · rw [z] at h1; simp at h1
      · exact z
    have n2 : n < 2 ^ h := by
      have := Nat.le_mul_of_pos_right (2 * n + 1 + 1) p2
      omega
    rw [bear_node n1 n2, bear_span (e := e) (n := 2 * n) h1 (by omega), bear_span (e := e) (n := 2 * n + 1) (by omega) h2, e1, pow2_succ, show 2 * 2 ^ e = 2 ^ e + 2 ^ e by omega, rmin_add]
    rw [show (2 * n + 1) * 2 ^ e - 2 ^ h = 2 * n * 2 ^ e - 2 ^ h + 2 ^ e by omega]
/-- the least over nodes that lie end to end -/
theorem rmin_cov {ns : List Int} {h a b : Nat} : ∀ {ps : List (Nat × Nat)} {x y : Nat}, 2 ^ h ≤ x → covP ps x y → (∀ p ∈ ps, NodeOk (2 ^ h) a b p) → ∀ m0, ps.foldl (fun m p => minO m (bear ns h p.1)) m0 = minO m0 (rmin ns (x - 2 ^ h) (y - x))
  | [], x, y, _, hc, _, m0 => by
    have hc : x = y := hc
    subst hc
    rw [Nat.sub_self]; exact (minO_none _).symm
  | p :: ps, x, y, hx, hc, hok, m0 => by
    have h1 : p.1 * 2 ^ p.2 = x := hc.1
    have ok := hok p List.mem_cons_self
    have p2 := Nat.two_pow_pos p.2
    have e3 : (p.1 + 1) * 2 ^ p.2 = p.1 * 2 ^ p.2 + 2 ^ p.2 := Nat.succ_mul _ _
    have hle : (p.1 + 1) * 2 ^ p.2 ≤ y := by
      have aux : ∀ {qs : List (Nat × Nat)} {u v : Nat}, covP qs u v → u ≤ v := by
        intro qs
        induction qs with
        | nil => intro u v h; exact Nat.le_of_eq h
        | cons q qs ih =>
          intro u v h
          have g1 := ih h.2
          have g2 : q.1 * 2 ^ q.2 = u := h.1
          have g3 : q.1 * 2 ^ q.2 ≤ (q.1 + 1) * 2 ^ q.2 := Nat.mul_le_mul_right _ (by omega)
          rw [← g2]; exact Nat.le_trans g3 g1
      exact aux hc.2
    rw [List.foldl_cons, rmin_cov (by omega) hc.2 (fun q hq => hok q (List.mem_cons_of_mem _ hq)), bear_span ok.ge ok.le, minO_assoc, h1]
    congr 1
    rw [show y - x = 2 ^ p.2 + (y - (p.1 + 1) * 2 ^ p.2) by omega, rmin_add, show (p.1 + 1) * 2 ^ p.2 - 2 ^ h = x - 2 ^ h + 2 ^ p.2 by omega]

/-- a number is there, and no greater than the goal -/
def lowB (x : Option Int) (g : Int) : Bool :=
  match x with
  | none => false
  | some v => decide (v ≤ g)
theorem lowB_min (x y : Option Int) (g : Int) : lowB (minO x y) g = (lowB x g || lowB y g) := by
  cases x with
  | none => cases y <;> rfl
  | some a =>
    cases y with
    | none => show decide (a ≤ g) = (decide (a ≤ g) || false); rw [Bool.or_false]
    | some b =>
      show decide ((if b < a then b else a) ≤ g) = (decide (a ≤ g) || decide (b ≤ g))
      split <;> by_cases h1 : a ≤ g <;> by_cases h2 : b ≤ g <;> simp [h1, h2] <;> omega
/-- none of the places x .. y is low -/
def NL (ns : List Int) (g : Int) (x y : Nat) : Prop := ∀ j v, x ≤ j → j < y → ns[j]? = some v → g < v
theorem NL.join {ns : List Int} {g : Int} {x y z : Nat} (a : NL ns g x y) (b : NL ns g y z) : NL ns g x z := fun j v h1 h2 e => by
  rcases Nat.lt_or_ge j y with h | h
  · exact a j v h1 h e
  · exact b j v h h2 e
theorem NL.nil (ns : List Int) (g : Int) (x : Nat) : NL ns g x x := fun j v h1 h2 _ => by omega
theorem lowB_rmin {ns : List Int} {g : Int} {a : Nat} : ∀ {n : Nat}, lowB (rmin ns a n) g = false → NL ns g a (a + n)
  | 0, _ => by rw [Nat.add_zero]; exact NL.nil _ _ _
  | n + 1, h => by
    have h : lowB (minO (rmin ns a n) ns[a + n]?) g = false := h
    rw [lowB_min, Bool.or_eq_false_iff] at h
    refine NL.join (lowB_rmin h.1) fun j v h1 h2 e => ?_
    have : j = a + n := by omega
    subst this
    have h3 := h.2
    rw [e] at h3
    have h3 : decide (v ≤ g) = false := h3
    have := of_decide_eq_false h3; omega
theorem lowB_node {ns : List Int} {g : Int} {h e n : Nat} (h1 : 2 ^ h ≤ n * 2 ^ e) (h2 : (n + 1) * 2 ^ e ≤ 2 * 2 ^ h) (hl : lowB (bear ns h n) g = false) : NL ns g (n * 2 ^ e - 2 ^ h) ((n + 1) * 2 ^ e - 2 ^ h) := by
  have p2 := Nat.two_pow_pos e
  rw [bear_span h1 h2] at hl
  have := lowB_rmin hl
  rw [show n * 2 ^ e - 2 ^ h + 2 ^ e = (n + 1) * 2 ^ e - 2 ^ h by rw [Nat.succ_mul]; omega] at this
  exact this
theorem lowB_leaf {ns : List Int} {g : Int} {h n : Nat} (h1 : 2 ^ h ≤ n) (hl : lowB (bear ns h n) g = true) : ∃ x, ns[n - 2 ^ h]? = some x ∧ x ≤ g := by
  rw [bear_leaf h1] at hl
  cases e : ns[n - 2 ^ h]? with
  | none => rw [e] at hl; cases hl
  | some x => rw [e] at hl; exact ⟨x, rfl, of_decide_eq_true hl⟩
theorem covP_split : ∀ {ps qs : List (Nat × Nat)} {p : Nat × Nat} {x y : Nat}, covP (ps ++ p :: qs) x y → covP ps x (p.1 * 2 ^ p.2) ∧ covP qs ((p.1 + 1) * 2 ^ p.2) y
  | [], _, _, _, _, h => ⟨h.1.symm, h.2⟩
  | _ :: _, _, _, _, _, h => ⟨⟨h.1, (covP_split h.2).1⟩, (covP_split h.2).2⟩
theorem covP_mono : ∀ {qs : List (Nat × Nat)} {u v : Nat}, covP qs u v → u ≤ v
  | [], _, _, h => Nat.le_of_eq h
  | q :: qs, u, v, h => by
    have g1 := covP_mono h.2
    have g2 : q.1 * 2 ^ q.2 = u := h.1
    have g3 : q.1 * 2 ^ q.2 ≤ (q.1 + 1) * 2 ^ q.2 := Nat.mul_le_mul_right _ (by omega)
    rw [← g2]; exact Nat.le_trans g3 g1
theorem covP_NL {ns : List Int} {g : Int} {h a b : Nat} : ∀ {ps : List (Nat × Nat)} {x y : Nat}, 2 ^ h ≤ x → covP ps x y → (∀ p ∈ ps, NodeOk (2 ^ h) a b p) → (∀ p ∈ ps, lowB (bear ns h p.1) g = false) → NL ns g (x - 2 ^ h) (y - 2 ^ h)
  | [], x, y, _, hc, _, _ => by
    have hc : x = y := hc
    subst hc; exact NL.nil _ _ _
  | p :: ps, x, y, hx, hc, hok, hl => by
    have ok := hok p List.mem_cons_self
    have e : p.1 * 2 ^ p.2 = x := hc.1
    have e3 : (p.1 + 1) * 2 ^ p.2 = p.1 * 2 ^ p.2 + 2 ^ p.2 := Nat.succ_mul _ _
    have p2 := Nat.two_pow_pos p.2
    have n1 := lowB_node ok.ge ok.le (hl p List.mem_cons_self)
    rw [e] at n1
    exact n1.join (covP_NL (by omega) hc.2 (fun q hq => hok q (List.mem_cons_of_mem _ hq)) fun q hq => hl q (List.mem_cons_of_mem _ hq))
/-- a place, or None -/
def PV : Option Nat → V
  | none => .non
  | some k => .int (k : Int)
/-- the first low place of a .. b -/
def FirstLow (ns : List Int) (a b : Nat) (g : Int) : Option Nat → Prop
  | none => NL ns g a b
  | some i => a ≤ i ∧ i < b ∧ (∃ x, ns[i]? = some x ∧ x ≤ g) ∧ NL ns g a i
/-- the last one -/
def LastLow (ns : List Int) (a b : Nat) (g : Int) : Option Nat → Prop
  | none => NL ns g a b
  | some i => a ≤ i ∧ i < b ∧ (∃ x, ns[i]? = some x ∧ x ≤ g) ∧ NL ns g (i + 1) b

/-- none of the places behind a, up to b, is low -/
def HN (bs : List Int) (g : Int) (a b : Nat) : Prop := ∀ k, a < k → k ≤ b → g < hgt bs k
theorem HN.join {bs : List Int} {g : Int} {a b c : Nat} (h1 : HN bs g a b) (h2 : HN bs g b c) : HN bs g a c := fun k k1 k2 => by
  rcases Nat.lt_or_ge b k with z | z
  · exact h2 k z k2
  · exact h1 k k1 z
theorem HN.less {bs : List Int} {g : Int} {a b c : Nat} (h : HN bs g a b) (hc : c ≤ b) : HN bs g a c := fun k k1 k2 => h k k1 (by omega)
/-- the first low place behind a, up to b -/
def FirstH (bs : List Int) (g : Int) (a b : Nat) : Option Nat → Prop
  | none => HN bs g a b
  | some k => a < k ∧ k ≤ b ∧ hgt bs k ≤ g ∧ HN bs g a (k - 1)
/-- the last one -/
def LastH (bs : List Int) (g : Int) (a b : Nat) : Option Nat → Prop
  | none => HN bs g a b
  | some k => a < k ∧ k ≤ b ∧ hgt bs k ≤ g ∧ HN bs g k b

/-- blocks that bear no low height -/
theorem hn_blocks {bs : List Int} (hB : Bits bs) {g : Int} {i j : Nat} (h : NL (lowsOf bs) g i j) (hj : j ≤ (bs.length + 31) / 32) : HN bs g (32 * i) (min (32 * j) bs.length) := fun k k1 k2 => by
  have hlt : (k - 1) / 32 < (bs.length + 31) / 32 := by omega
  have g1 := h ((k - 1) / 32) _ (by omega) (by omega) (lowsOf_get bs hlt)
  have g2 := (lowOf_is hB hlt).2 k (by omega) (by omega) (by omega)
  omega
theorem low_block {bs : List Int} (hB : Bits bs) {g : Int} {j : Nat} (hj : j < (bs.length + 31) / 32) {x : Int} (e : (lowsOf bs)[j]? = some x) (hx : x ≤ g) : ¬ HN bs g (32 * j) (min (32 * j + 32) bs.length) := fun h => by
  rw [lowsOf_get bs hj] at e
  obtain ⟨⟨k, k1, k2, k3, ek⟩, _⟩ := lowOf_is hB hj
  have := h k k1 (by omega)
  have e : lowOf bs j = x := Option.some.inj e
  omega
/-- the look at the heap of a tree's tables -/
theorem nodesLook {CL : CLs} {gn : Addr} {bs : List Int} {H3 : Hp} (lk : PureLook CL 1 gn (heapL (lowsOf bs)) H3) : LookR CL gn (heapL (lowsOf bs)).length (fun k => NV (bear (lowsOf bs) (hOf ((bs.length + 31) / 32)) k)) none (fun _ H' => LamX.ExtN H3 H') :=
  (lk.lookR (by decide)).congr (val' := fun k => NV (bear (lowsOf bs) (hOf ((bs.length + 31) / 32)) k)) fun k hk => by
    rw [List.getD_eq_getElem?_getD, heapL_get (by rw [heapL_len] at hk; exact hk), lowsOf_len]; rfl

/-- first_low_in(b, start, stop, goal) -/
def sp_first_low_in (_ : PySem.W.Frag) : Sp := fun vs H Q _ => ∃ (b g : Int) (s u : Nat), vs = [.int b, .int (s : Int), .int (u : Int), .int g] ∧ s ≤ u ∧ u ≤ 1000 ∧
  ∀ H', Same H H' → ((∀ k : Nat, s < k → k ≤ u → net b k ≤ g → (∀ j : Nat, s < j → j < k → g < net b j) → Q (.int (k : Int)) H') ∧ ((∀ k : Nat, s < k → k ≤ u → g < net b k) → Q .non H'))
theorem len_first_low_in (K : PySem.W.Frag) : ∀ vs H Q E, sp_first_low_in K vs H Q E → vs.length = 4 := by
  rintro vs H Q E ⟨x, y, z, w, rfl, _⟩; rfl
def t_first_low_in (K : PySem.W.Frag) : TS :=
  (tSeq (tAsg (tOp rMinus (tOp rTimes (tC (.int 2)) (tCall (sp_ones_in K) [] E0 (tCons (tVar 0) (tCons (tVar 1) tNil)))) (tVar 1)) (gName 4))
  (tSeq (tFor (iRng2 (tCons (tVar 1) (tCons (tVar 2) tNil))) (gName 5)
  (tSeq (tAug 4 (tOp rMinus (tOp rTimes (tC (.int 2)) (tOp rAnd1 (tOp rShr (tVar 0) (tVar 5)) (tC (.int 1)))) (tC (.int 1))) (ipI fun i j => i + j))
  (tIfS (tTest (tOp rLe (tVar 4) (tVar 3)))
  (tRet (tOp rPlus (tVar 5) (tC (.int 1))))
  tNext)))
  (tRet (tC .non))))
abbrev n_first_low_in : List Str := ["block", "start", "stop", "goal", "net", "k"]

theorem rd_first_low_in (K : PySem.W.Frag) (vs : List V) (H : Hp) (Q : VK) (E : XK) (h : sp_first_low_in K vs H Q E) : t_first_low_in K { nx := fun _ H' => Q .non H', rt := Q } (start n_first_low_in vs) H := by
  obtain ⟨b, g, s, u, rfl, hs, hu, q⟩ := h
  unfold t_first_low_in
  walk_at "st"
  refine ⟨b, s, rfl, by omega, fun H1 s1 => ?_⟩
  obtain ⟨q1, q2⟩ := q H1 s1
  walk_at "st"
  refine loop_range (fun i σ H' => ∃ y, σ = [some (.int b), some (.int (s : Int)), some (.int (u : Int)), some (.int g), some (.int (net b (s + i))), y] ∧ H' = H1 ∧ ∀ k : Nat, s < k → k ≤ s + i → g < net b k) ⟨none, rfl, rfl, fun k h1 h2 => by omega⟩ ?_ ?_
  · rintro i σ H' hi ⟨y, rfl, rfl, hall⟩
    have hi : s + i < u := by omega
    rw [show ((s : Int) + (i : Int)) = ((s + i : Nat) : Int) by push_cast; rfl]
    walk_at "st"
    have e : net b (s + i) + (2 * (b / 2 ^ (((s + i : Nat) : Int)).toNat % 2) - 1) = net b (s + (i + 1)) := (net_succ b (s + i)).symm
    rw [e]
    walk_at "if" <;> intro c
    · walk_at "st"
      exact q1 (s + i + 1) (by omega) (by omega) c fun j h1 h2 => hall j h1 (by omega)
    · walk_at "st"
      refine ⟨_, rfl, rfl, fun k h1 h2 => ?_⟩
      rcases Nat.lt_or_ge k (s + i + 1) with h | h
      · exact hall k h1 (by omega)
      · have : k = s + (i + 1) := by omega
        subst this; omega
  · rintro σ H' ⟨y, rfl, rfl, hall⟩
    walk_at "st"
    exact q2 fun k h1 h2 => hall k h1 (by omega)

/-- within_goal(number, goal) -/
def sp_within_goal (_ : PySem.W.Frag) : Sp := fun vs H Q _ => ∃ (x : Option Int) (g : Int), vs = [NV x, .int g] ∧ Q (.bl (lowB x g)) H
theorem len_within_goal (K : PySem.W.Frag) : ∀ vs H Q E, sp_within_goal K vs H Q E → vs.length = 2 := by
  rintro vs H Q E ⟨a, b, rfl, _⟩; rfl
def t_within_goal (K : PySem.W.Frag) : TS :=
  (tRet (tAndV (tOp rNotN (tVar 0) (tC .non)) (tOp rLe (tVar 0) (tVar 1))))
abbrev n_within_goal : List Str := ["number", "goal"]

theorem rd_within_goal (K : PySem.W.Frag) (vs : List V) (H : Hp) (Q : VK) (E : XK) (h : sp_within_goal K vs H Q E) : t_within_goal K { nx := fun _ H' => Q .non H', rt := Q } (start n_within_goal vs) H := by
  obtain ⟨x, g, rfl, q⟩ := h
  unfold t_within_goal
  cases x with
  | none =>
    rw [show NV none = V.non from rfl]
    walk_at "st"
    refine k_ndecT rfl ?_
    walk_at "st"
    exact q
  | some a =>
    rw [show NV (some a) = V.int a from rfl]
    walk_at "st"
    refine k_ndecF (fun z => nomatch z) ?_
    walk_at "st"
    exact q

/-- first_at_most(many, look, start, goal) -/
def sp_first_at_most (K : PySem.W.Frag) (CL : CLs) : Sp := fun vs H Q E => ∃ (many : Nat) (g : Addr) (i gl : Int) (ns : List Int) (n : Nat) (q : Option Addr) (I : List Nat → Hp → Prop) (L : List Nat), vs = [.int (many : Int), .ref g, .int i, .int gl] ∧ many ≤ 4096 ∧ ns.length ≤ many ∧
  LookR CL g n (fun k => NV (bear ns (hOf many) k)) q I ∧ 2 * 2 ^ hOf many ≤ n ∧ I L H ∧ L.length < 900 ∧
  ((i < 0 ∨ (many : Int) < i) → E (.ref (He.ga K "NoPlace")) none H) ∧
  (∀ a : Nat, i = (a : Int) → a ≤ many → ∀ (r : Option Nat) (L2 : List Nat) H', FirstLow ns a many gl r → L2.length ≤ 3 * hOf many + 2 → (∀ k ∈ L2, 1 ≤ k ∧ k < 2 * 2 ^ hOf many) → I (L ++ L2) H' → SameX q H H' → Q (PV r) H')
theorem len_first_at_most (K : PySem.W.Frag) (CL : CLs) : ∀ vs H Q E, sp_first_at_most K CL vs H Q E → vs.length = 4 := by
  rintro vs H Q E ⟨m, g, i, j, ns, n, q, I, L, rfl, _⟩; rfl
def t_first_at_most (K : PySem.W.Frag) (CL : CLs) (E : XK) : TS :=
  (tSeq (tAsg (tCall (sp_size_of K) [] E0 (tCons (tVar 0) tNil)) (gName 4))
  (tSeq (tFor (iList K (tCall (sp_cover K) [] E (tCons (tVar 0) (tCons (tVar 2) (tCons (tVar 0) tNil))))) (gName 5)
  (tIfS (tB (tCall (sp_within_goal K) [] E0 (tCons (tCallV CL 9 1 (tCons (tVar 5) tNil)) (tCons (tVar 3) tNil))))
  (tSeq (tAsg (tVar 5) (gName 6))
  (tSeq (tWhile (tTest (tOp rLt (tVar 6) (tVar 4)))
  (tSeq (tAsg (tOp rTimes (tC (.int 2)) (tVar 6)) (gName 6))
  (tIfS (tNot (tB (tCall (sp_within_goal K) [] E0 (tCons (tCallV CL 9 1 (tCons (tVar 6) tNil)) (tCons (tVar 3) tNil)))))
  (tAug 6 (tC (.int 1)) (ipI fun i j => i + j))
  tNext)))
  (tRet (tOp rMinus (tVar 6) (tVar 4)))))
  tNext))
  (tRet (tC .non))))
abbrev n_first_at_most : List Str := ["many", "look", "start", "goal", "size", "node", "here"]

theorem rd_first_at_most (K : PySem.W.Frag) (CL : CLs) (vs : List V) (H : Hp) (Q : VK) (E : XK) (h : sp_first_at_most K CL vs H Q E) : t_first_at_most K CL E { nx := fun _ H' => Q .non H', rt := Q } (start n_first_at_most vs) H := by
  obtain ⟨many, g, i, gl, ns, n, q, I, L, rfl, hm, hnm, R, hn, hI, hL, q1, q2⟩ := h
  unfold t_first_at_most
  walk_at "st"
  refine ⟨many, rfl, by omega, ?_⟩
  walk_at "st"
  refine ⟨many, i, (many : Int), rfl, by omega, fun z => q1 (by omega), fun a b ea eb hab hbm ps p H1 _ hcv hok hln hp s1 e1 => ?_⟩
  obtain rfl : many = b := by omega
  have hS0 := Nat.two_pow_pos (hOf many)
  have hh := hOf_small hm
  have i1 := R.ext hI s1
  have nq : q ≠ some p := fun z => by
    obtain ⟨xs, e⟩ := R.isq hI p z
    rw [hp] at e; cases e
  have hpos : ∀ nd ∈ ps, 1 ≤ nd.1 ∧ nd.1 < 2 * 2 ^ hOf many := fun nd hnd => by
    have ok := hok nd hnd
    have p2 := Nat.two_pow_pos nd.2
    have hb := Nat.le_mul_of_pos_right (nd.1 + 1) p2
    have hle := ok.le
    have hge := ok.ge
    refine ⟨?_, by omega⟩
    rcases Nat.eq_zero_or_pos nd.1 with z | z
    · rw [z, Nat.zero_mul] at hge; omega
    · exact z
  refine m_iLe (.of e1) ?_
  refine loop_list (xs := ps.map ndV) (fun k σ H' => ∃ y z, σ = [some (.int (many : Int)), some (.ref g), some (.int i), some (.int gl), some (.int ((2 ^ hOf many : Nat) : Int)), y, z] ∧ I (L ++ (ps.take k).map Prod.fst) H' ∧ SameX q H1 H' ∧ ∀ p ∈ ps.take k, lowB (bear ns (hOf many) p.1) gl = false) ⟨none, none, rfl, by simpa using i1, (Same.refl _).toX (R.isq i1), fun _ z => by simp at z⟩ (fun k σ H' _ ⟨_, _, _, _, X, _⟩ => .of (X.get nq e1)) ?_ ?_
  · rintro k v σ H' hv ⟨y, z, rfl, hi, X, hno⟩
    rw [List.getElem?_map] at hv
    cases hnd : ps[k]? with
    | none => rw [hnd] at hv; cases hv
    | some nd =>
    rw [hnd] at hv
    cases hv
    have hlt : k < ps.length := (List.getElem?_eq_some_iff.mp hnd).1
    have ok := hok nd (List.mem_of_getElem? hnd)
    have hps := hpos nd (List.mem_of_getElem? hnd)
    have hf := R.fn hi
    have et : ps.take (k + 1) = ps.take k ++ [nd] := by rw [List.take_add_one, hnd]; rfl
    rw [show ndV nd = V.int (nd.1 : Int) from rfl]
    walk_at "st"
    refine R.ask hi (by rw [List.length_append, List.length_map, List.length_take]; omega) (by omega) fun H2 i2 X2 => ?_
    rw [List.append_assoc, show (ps.take k).map Prod.fst ++ [nd.1] = (ps.take (k + 1)).map Prod.fst by rw [et, List.map_append]; rfl] at i2
    walk_at "st"
    refine ⟨_, _, rfl, ?_⟩
    refine k_bl ?_
    cases hlo : lowB (bear ns (hOf many) nd.1) gl with
    | false =>
      walk_at "st"
      refine ⟨_, _, rfl, i2, X.trans X2, fun p hp => ?_⟩
      rw [et] at hp
      rcases List.mem_append.mp hp with h | h
      · exact hno p h
      · rw [List.mem_singleton.mp h]; exact hlo
    | true =>
      walk_at "st"
      have esp : ps = ps.take k ++ nd :: ps.drop (k + 1) := by
        have := List.getElem?_eq_some_iff.mp hnd
        rw [← this.2, ← List.drop_eq_getElem_cons hlt, List.take_append_drop]
      have hcs := hcv
      rw [esp] at hcs
      have nl0 := covP_NL (by omega) (covP_split hcs).1 (fun p hp => hok p (List.mem_of_mem_take hp)) hno
      rw [show 2 ^ hOf many + a - 2 ^ hOf many = a by omega] at nl0
      have X12 := X.trans X2
      refine loop_while (fun m σ H3 => ∃ (x : Nat) (L3 : List Nat), σ = [some (.int (many : Int)), some (.ref g), some (.int i), some (.int gl), some (.int ((2 ^ hOf many : Nat) : Int)), some (.int (nd.1 : Int)), some (.int (x : Int))] ∧ 2 ^ hOf many + a ≤ x * 2 ^ m ∧ (x + 1) * 2 ^ m ≤ 2 * 2 ^ hOf many ∧ lowB (bear ns (hOf many) x) gl = true ∧ NL ns gl a (x * 2 ^ m - 2 ^ hOf many) ∧ L3.length + m ≤ k + 1 + nd.2 ∧ (∀ k ∈ L3, 1 ≤ k ∧ k < 2 * 2 ^ hOf many) ∧ I (L ++ L3) H3 ∧ SameX q H1 H3) nd.2 ⟨nd.1, (ps.take (k + 1)).map Prod.fst, rfl, covP_mono (covP_split hcs).1, ok.le, hlo, nl0, by rw [List.length_map, List.length_take]; omega, fun k hk => ?_, i2, X12⟩ ?_
      · obtain ⟨nd, hnd, rfl⟩ := List.mem_map.mp hk
        exact hpos nd (List.mem_of_mem_take hnd)
      have hnd2 : nd.2 ≤ hOf many := by
        have h1 : 2 * 2 ^ nd.2 ≤ 2 * 2 ^ hOf many := Nat.le_trans (Nat.mul_le_mul_right _ (show 2 ≤ nd.1 + 1 by omega)) ok.le
        exact (Nat.pow_le_pow_iff_right (a := 2) (by decide)).mp (by omega)
      rintro m σ H3 ⟨x, L3, rfl, hx1, hx2, hlw, hnl, hl3, hr3, i3, X3⟩
      have p2 := Nat.two_pow_pos m
      walk_at "st"
      walk_at "if" <;> intro c
      · obtain ⟨m, rfl⟩ : ∃ m', m = m' + 1 := by
          cases m with
          | zero => rw [Nat.pow_zero, Nat.mul_one] at hx1; omega
          | succ m => exact ⟨m, rfl⟩
        have q2 := Nat.two_pow_pos m
        have hx0 : 1 ≤ x := by
          rcases Nat.eq_zero_or_pos x with z | z
          · rw [z, Nat.zero_mul] at hx1; omega
          · exact z
        rw [pow2_succ] at hx1 hx2 hnl
        have a1 : x * (2 * 2 ^ m) = 2 * x * 2 ^ m := by rw [Nat.mul_left_comm, Nat.mul_assoc]
        have a2 : (x + 1) * (2 * 2 ^ m) = (2 * x + 1 + 1) * 2 ^ m := by rw [Nat.mul_left_comm, ← Nat.mul_assoc, Nat.mul_add]
        have a3 : (2 * x + 1) * 2 ^ m = 2 * x * 2 ^ m + 2 ^ m := Nat.succ_mul _ _
        have a4 : (2 * x + 1 + 1) * 2 ^ m = (2 * x + 1) * 2 ^ m + 2 ^ m := Nat.succ_mul _ _
        rw [a1] at hx1 hnl
        rw [a2] at hx2
        have hf3 := R.fn i3
        have hbn := bear_node (ns := ns) hx0 (show x < 2 ^ hOf many by omega)
        refine m_wbody ?_
        walk_at "st"
        rw [show (2 : Int) * (x : Int) = ((2 * x : Nat) : Int) by omega]
        walk_at "st"
        refine R.ask i3 (by rw [List.length_append]; omega) (by omega) fun H4 i4 X4 => ?_
        rw [List.append_assoc] at i4
        walk_at "st"
        refine ⟨_, _, rfl, ?_⟩
        have hr4 : ∀ k ∈ L3 ++ [2 * x], 1 ≤ k ∧ k < 2 * 2 ^ hOf many := fun k hk => by
          rcases List.mem_append.mp hk with h | h
          · exact hr3 k h
          · rw [List.mem_singleton.mp h]; omega
        refine k_bl ?_
        cases hlo2 : lowB (bear ns (hOf many) (2 * x)) gl with
        | true =>
          walk_at "st"
          exact ⟨m, by omega, 2 * x, L3 ++ [2 * x], rfl, hx1, by omega, hlo2, hnl, by rw [List.length_append, List.length_singleton]; omega, hr4, i4, X3.trans X4⟩
        | false =>
          walk_at "st"
          rw [hbn, lowB_min, hlo2, Bool.false_or] at hlw
          have nl2 := lowB_node (e := m) (by omega) (by omega) hlo2
          exact ⟨m, by omega, 2 * x + 1, L3 ++ [2 * x], rfl, by omega, hx2, hlw, hnl.join nl2, by rw [List.length_append, List.length_singleton]; omega, hr4, i4, X3.trans X4⟩
      · have hx3 : 2 ^ hOf many ≤ x := by omega
        have hm0 : m = 0 := by
          rcases Nat.eq_zero_or_pos m with z | z
          · exact z
          · exfalso
            obtain ⟨m, rfl⟩ : ∃ m', m = m' + 1 := ⟨m - 1, by omega⟩
            have q2 := Nat.two_pow_pos m
            rw [pow2_succ] at hx2
            have := Nat.le_trans (Nat.mul_le_mul_left (x + 1) (show 2 * 1 ≤ 2 * 2 ^ m by omega)) hx2
            omega
        subst hm0
        rw [Nat.pow_zero, Nat.mul_one] at hnl
        walk_at "st"
        obtain ⟨v, ev, hv⟩ := lowB_leaf hx3 hlw
        have hvl := (List.getElem?_eq_some_iff.mp ev).1
        have ea2 : a ≤ x - 2 ^ hOf many := by rw [Nat.pow_zero, Nat.mul_one] at hx1; omega
        have := q2 a ea hab (some (x - 2 ^ hOf many)) L3 H3 ⟨ea2, by omega, ⟨v, ev, hv⟩, hnl⟩ (by omega) hr3 i3 ((s1.toX (R.isq hI)).trans X3)
        rw [show (x : Int) - ((2 ^ hOf many : Nat) : Int) = ((x - 2 ^ hOf many : Nat) : Int) by omega]
        exact this
  · rintro σ H' ⟨y, z, rfl, hi, X, hno⟩
    walk_at "st"
    rw [List.length_map, List.take_length] at hi
    rw [List.length_map, List.take_length] at hno
    have nl0 := covP_NL (by omega) hcv hok hno
    rw [show 2 ^ hOf many + a - 2 ^ hOf many = a by omega, show 2 ^ hOf many + many - 2 ^ hOf many = many by omega] at nl0
    refine q2 a ea hab none (ps.map Prod.fst) H' nl0 (by rw [List.length_map]; omega) (fun k hk => ?_) hi ((s1.toX (R.isq hI)).trans X)
    obtain ⟨nd, hnd, rfl⟩ := List.mem_map.mp hk
    exact hpos nd hnd

/-- first_part(tables, look, number, start, goal) -/
def sp_first_part (K : PySem.W.Frag) (CL : CLs) : Sp := fun vs H Q _ => ∃ (t g : Addr) (j s : Nat) (gl : Int) (bs : List Int) (q : Option Addr) (I : List Nat → Hp → Prop) (L : List Nat), vs = [.ref t, .ref g, .int (j : Int), .int (s : Int), .int gl] ∧ BrAt K CL H t g bs q I ∧ I L H ∧ L.length < 985 ∧ j < (bs.length + 31) / 32 ∧ s ≤ 32 ∧ 32 * j + s ≤ bs.length ∧
  ∀ (r : Option Nat) H', FirstH bs gl (32 * j + s) (min (32 * j + 32) bs.length) r → I (L ++ [j]) H' → SameX q H H' → Q (PV r) H'
theorem len_first_part (K : PySem.W.Frag) (CL : CLs) : ∀ vs H Q E, sp_first_part K CL vs H Q E → vs.length = 5 := by
  rintro vs H Q E ⟨t, g, a, s, u, _, _, _, _, rfl, _⟩; rfl
def t_first_part (K : PySem.W.Frag) (CL : CLs) : TS :=
  (tSeq (tAsg (tCB rMin2 (tCons (tC (.int 32)) (tCons (tOp rMinus (tOp (rIxT K) (tVar 0) (tC (.int 0))) (tOp rTimes (tC (.int 32)) (tVar 2))) tNil))) (gName 5))
  (tSeq (tAsg (tCall (sp_first_low_in K) [] E0 (tCons (tCallV CL 9 1 (tCons (tVar 2) tNil)) (tCons (tVar 3) (tCons (tVar 5) (tCons (tOp rMinus (tVar 4) (tCall (sp_begin_height K) [] E0 (tCons (tOp (rIxT K) (tVar 0) (tC (.int 1))) (tCons (tVar 2) tNil)))) tNil))))) (gName 6))
  (tSeq (tIfS (tTest (tOp rIsN (tVar 6) (tC .non)))
  (tRet (tC .non))
  tNext)
  (tRet (tOp rPlus (tOp rTimes (tC (.int 32)) (tVar 2)) (tVar 6))))))
abbrev n_first_part : List Str := ["tables", "look", "number", "start", "goal", "stop", "found"]

theorem rd_first_part (K : PySem.W.Frag) (CL : CLs) (vs : List V) (H : Hp) (Q : VK) (E : XK) (h : sp_first_part K CL vs H Q E) : t_first_part K CL { nx := fun _ H' => Q .non H', rt := Q } (start n_first_part vs) H := by
  obtain ⟨t, g, j, s, gl, bs, q, I, L, rfl, R, hI, hL, hj, hs, hsn, qq⟩ := h
  obtain ⟨pa, ph, hT, hA, hP⟩ := R.tab
  have hf := R.look.fn hI
  have hg := blks_getD hj
  unfold t_first_part
  walk_at "st"
  refine k_ixT hT (at_int (by decide) rfl) ?_
  walk_at "st"
  have hu : (if (bs.length : Int) - 32 * (j : Int) < 32 then (bs.length : Int) - 32 * (j : Int) else 32) = ((min 32 (bs.length - 32 * j) : Nat) : Int) := by
    split <;> omega
  rw [hu]
  refine R.look.ask hI (by omega) (by rw [blks_len]; exact hj) fun H1 i1 s1 => ?_
  obtain ⟨pa, ph, hT, hA, hP⟩ := (R.moveX s1).tab
  walk_at "st"
  refine k_ixT hT (at_int (by decide) rfl) ?_
  walk_at "st"
  refine ⟨pa, bs, j, rfl, hA, by omega, ?_⟩
  walk_at "st"
  refine ⟨_, _, s, min 32 (bs.length - 32 * j), rfl, by omega, by omega, fun H2 s2 => ⟨fun k k1 k2 k3 k4 => ?_, fun hn => ?_⟩⟩
  · have hk := net_blks R.bits hg k (by omega)
    have := qq (some (32 * j + k)) H2 ⟨by omega, by omega, by omega, fun i i1 i2 => by
      have h1 := k4 (i - 32 * j) (by omega) (by omega)
      have h2 := net_blks R.bits hg (i - 32 * j) (by omega)
      rw [show 32 * j + (i - 32 * j) = i by omega] at h2
      omega⟩ (R.look.ext i1 s2) (s1.andS s2)
    walk_at "st"
    refine k_decF (fun z => nomatch z) ?_
    walk_at "st"
    rw [show (32 : Int) * (j : Int) + (k : Int) = ((32 * j + k : Nat) : Int) by omega]
    exact this
  · have := qq none H2 (fun i i1 i2 => by
      have h1 := hn (i - 32 * j) (by omega) (by omega)
      have h2 := net_blks R.bits hg (i - 32 * j) (by omega)
      rw [show 32 * j + (i - 32 * j) = i by omega] at h2
      omega) (R.look.ext i1 s2) (s1.andS s2)
    walk_at "st"
    refine k_decT rfl ?_
    walk_at "st"
    exact this
/-- low_behind(tables, look, at, goal) -/
def sp_low_behind (K : PySem.W.Frag) (CL : CLs) : Sp := fun vs H Q E => ∃ (t g : Addr) (x gl : Int) (bs : List Int) (q : Option Addr) (I : List Nat → Hp → Prop) (L : List Nat), vs = [.ref t, .ref g, .int x, .int gl] ∧ BrAt K CL H t g bs q I ∧ I L H ∧ L.length < 980 ∧ NdefX.TabN H (tabP K "node_look") nmL ∧
  ((x < 0 ∨ (bs.length : Int) < x) → E (.ref (He.ga K "NoPlace")) none H) ∧
  (∀ a : Nat, x = (a : Int) → a ≤ bs.length → ∀ (r : Option Nat) (L2 : List Nat) H', FirstH bs gl a bs.length r → L2.length ≤ 2 → (∀ j ∈ L2, j < (blks bs).length) → I (L ++ L2) H' → SameX q H H' → Q (PV r) H')
theorem len_low_behind (K : PySem.W.Frag) (CL : CLs) : ∀ vs H Q E, sp_low_behind K CL vs H Q E → vs.length = 4 := by
  rintro vs H Q E ⟨t, g, x, y, _, _, _, _, rfl, _⟩; rfl
def t_low_behind (K : PySem.W.Frag) (CL : CLs) (E : XK) : TS :=
  (tSeq (tDrop (tCall (sp_check_place K) [] E (tCons (tVar 0) (tCons (tVar 2) tNil))))
  (tSeq (tIfS (tTest (tOp rEq (tVar 2) (tOp (rIxT K) (tVar 0) (tC (.int 0)))))
  (tRet (tC .non))
  tNext)
  (tSeq (tAsg (tOp rDiv (tVar 2) (tC (.int 32))) (gName 4))
  (tSeq (tAsg (tCall (sp_first_part K CL) [] E0 (tCons (tVar 0) (tCons (tVar 1) (tCons (tVar 4) (tCons (tOp rMinus (tVar 2) (tOp rTimes (tC (.int 32)) (tVar 4))) (tCons (tVar 3) tNil)))))) (gName 5))
  (Evl.tCut (tIfS (tTest (tOp rIsN (tVar 5) (tC .non)))
  (tSeq (tAsg (tCall (sp_first_at_most K CL) [] E (tCons (tOp rMinus (tCB (rLen K) (tCons (tOp (rIxT K) (tVar 0) (tC (.int 1))) tNil)) (tC (.int 1))) (tCons (tCall (sp_node_look K CL) [] E0 (tCons (tVar 0) tNil)) (tCons (tOp rPlus (tVar 4) (tC (.int 1))) (tCons (tVar 3) tNil))))) (gName 4))
  (tIfS (tTest (tOp rNotN (tVar 4) (tC .non)))
  (tAsg (tCall (sp_first_part K CL) [] E0 (tCons (tVar 0) (tCons (tVar 1) (tCons (tVar 4) (tCons (tC (.int 0)) (tCons (tVar 3) tNil)))))) (gName 5))
  tNext))
  tNext)
  (tRet (tVar 5)))))))
abbrev n_low_behind : List Str := ["tables", "look", "at", "goal", "number", "found"]

theorem rd_low_behind (K : PySem.W.Frag) (CL : CLs) (vs : List V) (H : Hp) (Q : VK) (E : XK) (h : sp_low_behind K CL vs H Q E) : t_low_behind K CL E { nx := fun _ H' => Q .non H', rt := Q } (start n_low_behind vs) H := by
  obtain ⟨t, g, x, gl, bs, q, I, L, rfl, R, hI, hL, hTb, q1, q2⟩ := h
  obtain ⟨pa, ph, hT, hA, hP⟩ := R.tab
  have hlen := R.len
  have hbl := blks_len bs
  unfold t_low_behind
  walk_at "st"
  refine ⟨t, bs.length, _, x, rfl, hT, q1, fun hx0 hx1 => ?_⟩
  obtain ⟨a, rfl⟩ := Int.eq_ofNat_of_zero_le hx0
  have han : a ≤ bs.length := by omega
  replace q2 := q2 a rfl han
  walk_at "st"
  refine k_ixT hT (at_int (by decide) rfl) ?_
  walk_at "st"
  walk_at "if" <;> intro c
  · walk_at "st"
    have hae : a = bs.length := by omega
    exact q2 none [] H (fun k k1 k2 => by omega) (by simp) (fun j hj => by cases hj) (by rw [List.append_nil]; exact hI) ((Same.refl _).toX (R.look.isq hI))
  have hlt : a < bs.length := by omega
  walk_at "st"
  rw [show (a : Int) / 32 = ((a / 32 : Nat) : Int) by omega]
  obtain ⟨i, hi⟩ : ∃ i, i = a / 32 := ⟨_, rfl⟩
  rw [← hi]
  walk_at "st"
  refine ⟨t, g, i, a - 32 * i, gl, bs, q, I, L, by rw [show (a : Int) - 32 * (i : Int) = ((a - 32 * i : Nat) : Int) by omega], R, hI, by omega, by omega, by omega, by omega, fun r1 H1 hr1 i1 X1 => ?_⟩
  rw [show 32 * i + (a - 32 * i) = a by omega] at hr1
  have in1 : ∀ j ∈ [i], j < (blks bs).length := fun j hj => by rw [List.mem_singleton.mp hj]; omega
  cases r1 with
  | some k =>
    rw [show PV (some k) = V.int (k : Int) from rfl]
    walk_at "st"
    refine m_cut0 ?_
    walk_at "st"
    refine k_decF (fun z => nomatch z) ?_
    walk_at "st"
    exact q2 (some k) [i] H1 ⟨hr1.1, by have := hr1.2.1; omega, hr1.2.2.1, hr1.2.2.2⟩ (by simp) in1 i1 X1
  | none =>
    have hr1 : HN bs gl a (min (32 * i + 32) bs.length) := hr1
    obtain ⟨pa2, ph2, hT2, hA2, hP2⟩ := (R.moveX X1).tab
    rw [show PV none = V.non from rfl]
    walk_at "st"
    refine m_cut0 ?_
    walk_at "st"
    refine k_decT rfl ?_
    walk_at "st"
    refine k_ixT hT2 (at_int (by decide) rfl) ?_
    walk_at "st"
    refine k_lenT hA2 ?_
    walk_at "st"
    rw [List.length_map, aheadT_len, show (((bs.length + 31) / 32 + 1 : Nat) : Int) - 1 = (((bs.length + 31) / 32 : Nat) : Int) by omega]
    refine ⟨t, ph2, _, _, [], heapL (lowsOf bs), rfl, hT2, hP2, X1.tabs _ hTb, fun gn H3 hgn s3 lk => ?_⟩
    have hll := lowsOf_len bs
    have Rn := nodesLook lk
    walk_at "st"
    refine ⟨(bs.length + 31) / 32, gn, (i : Int) + 1, gl, lowsOf bs, _, none, _, [], rfl, by omega, by rw [hll]; exact Nat.le_refl _, Rn, by rw [heapL_len, hll]; exact Nat.le_refl _, LamX.ExtN.refl _, by decide, fun z => by omega, fun a' ea ha' r2 L3 H4 hr2 _ _ i4 X4 => ?_⟩
    obtain rfl : a' = i + 1 := by omega
    have s34 : Same H1 H4 := s3.trans X4.pure
    have i5 := R.look.ext i1 s34
    have X5 : SameX q H H4 := X1.andS s34
    cases r2 with
    | none =>
      rw [show PV none = V.non from rfl]
      walk_at "st"
      refine k_ndecT rfl ?_
      walk_at "st"
      have h2 := hn_blocks R.bits (show NL (lowsOf bs) gl (i + 1) ((bs.length + 31) / 32) from hr2) (Nat.le_refl _)
      refine q2 none [i] H4 (fun k k1 k2 => ?_) (by simp) in1 i5 X5
      rcases Nat.lt_or_ge (32 * i + 32) k with z | z
      · exact h2 k (by omega) (by omega)
      · exact hr1 k k1 (by omega)
    | some j =>
      obtain ⟨j1, j2, ⟨v, ev, hv⟩, j4⟩ := hr2
      rw [show PV (some j) = V.int (j : Int) from rfl]
      walk_at "st"
      refine k_ndecF (fun z => nomatch z) ?_
      walk_at "st"
      refine ⟨t, g, j, 0, gl, bs, q, I, L ++ [i], rfl, R.moveX X5, i5, by rw [List.length_append, List.length_singleton]; omega, j2, by omega, by omega, fun r3 H5 hr3 i6 X6 => ?_⟩
      rw [Nat.add_zero] at hr3
      rw [List.append_assoc] at i6
      have h2 := hn_blocks R.bits j4 (by omega)
      have h3 : HN bs gl a (32 * j) := fun k k1 k2 => by
        rcases Nat.lt_or_ge (32 * i + 32) k with z | z
        · exact h2 k (by omega) (by omega)
        · exact hr1 k k1 (by omega)
      have in2 : ∀ m ∈ [i, j], m < (blks bs).length := fun m hm => by
        simp only [List.mem_cons, List.not_mem_nil, or_false] at hm
        rcases hm with rfl | rfl <;> omega
      cases r3 with
      | none => exact absurd hr3 (low_block R.bits j2 ev hv)
      | some k =>
        obtain ⟨k1, k2, k3, k4⟩ := hr3
        walk_at "st"
        exact q2 (some k) [i, j] H5 ⟨by omega, by omega, k3, h3.join k4⟩ (by simp) in2 i6 (X5.trans X6)

/-- last_low_in(b, start, stop, goal) -/
def sp_last_low_in (_ : PySem.W.Frag) : Sp := fun vs H Q _ => ∃ (b g : Int) (s u : Nat), vs = [.int b, .int (s : Int), .int (u : Int), .int g] ∧ s ≤ u ∧ u ≤ 1000 ∧
  ∀ H', Same H H' → ((∀ k : Nat, s < k → k ≤ u → net b k ≤ g → (∀ j : Nat, k < j → j ≤ u → g < net b j) → Q (.int (k : Int)) H') ∧ ((∀ k : Nat, s < k → k ≤ u → g < net b k) → Q .non H'))
theorem len_last_low_in (K : PySem.W.Frag) : ∀ vs H Q E, sp_last_low_in K vs H Q E → vs.length = 4 := by
  rintro vs H Q E ⟨x, y, z, w, rfl, _⟩; rfl
theorem rgC_down {s u : Nat} (h : s ≤ u) (hu : u ≤ 100000) : RgC (u : Int) (s : Int) (-1) (u - s) := by
  have e := RgC.neg (i := (u : Int)) (j := (s : Int)) (by omega) (by omega) (by omega) (by omega)
  rw [show ((u : Int) - (s : Int)).toNat = u - s by omega] at e
  exact e
def t_last_low_in (K : PySem.W.Frag) : TS :=
  (tSeq (tAsg (tOp rMinus (tOp rTimes (tC (.int 2)) (tCall (sp_ones_in K) [] E0 (tCons (tVar 0) (tCons (tVar 2) tNil)))) (tVar 2)) (gName 4))
  (tSeq (tFor (iRng3 (tCons (tVar 2) (tCons (tVar 1) (tCons (tUn rNeg (tC (.int 1))) tNil)))) (gName 5)
  (tSeq (tIfS (tTest (tOp rLe (tVar 4) (tVar 3)))
  (tRet (tVar 5))
  tNext)
  (tAug 4 (tOp rMinus (tOp rTimes (tC (.int 2)) (tOp rAnd1 (tOp rShr (tVar 0) (tOp rMinus (tVar 5) (tC (.int 1)))) (tC (.int 1)))) (tC (.int 1))) (ipI fun i j => i - j))))
  (tRet (tC .non))))
abbrev n_last_low_in : List Str := ["block", "start", "stop", "goal", "net", "k"]

theorem rd_last_low_in (K : PySem.W.Frag) (vs : List V) (H : Hp) (Q : VK) (E : XK) (h : sp_last_low_in K vs H Q E) : t_last_low_in K { nx := fun _ H' => Q .non H', rt := Q } (start n_last_low_in vs) H := by
  obtain ⟨b, g, s, u, rfl, hs, hu, q⟩ := h
  unfold t_last_low_in
  walk_at "st"
  refine ⟨b, u, rfl, by omega, fun H1 s1 => ?_⟩
  obtain ⟨q1, q2⟩ := q H1 s1
  walk_at "st"
  refine m_rng3e (n := u - s) (rgC_down hs (by omega)) ?_
  refine loop_walk walk_rangeC (fun i σ H' => ∃ y, σ = [some (.int b), some (.int (s : Int)), some (.int (u : Int)), some (.int g), some (.int (net b (u - i))), y] ∧ H' = H1 ∧ i ≤ u - s ∧ ∀ k : Nat, u - i < k → k ≤ u → g < net b k) ⟨none, rfl, rfl, Nat.zero_le _, fun k h1 h2 => by omega⟩ (fun _ _ _ _ => trivial) ?_ ?_
  · rintro i x σ H' H'' hi ⟨y, rfl, rfl, _, hall⟩ ⟨rfl, rfl⟩
    dsimp only
    rw [show ((u : Int) + ((i : Nat) : Int) * -1) = ((u - i : Nat) : Int) by omega]
    walk_at "st"
    walk_at "if" <;> intro c
    · walk_at "st"
      exact q1 (u - i) (by omega) (by omega) c fun j h1 h2 => hall j h1 h2
    · walk_at "st"
      obtain ⟨r, hr⟩ : ∃ r, u - i = r + 1 := ⟨u - i - 1, by omega⟩
      refine ⟨some (.int ((u - i : Nat) : Int)), ?_, rfl, by omega, fun k h1 h2 => ?_⟩
      · have e : net b (u - i) - (2 * (b / 2 ^ (((u - i : Nat) : Int) - 1).toNat % 2) - 1) = net b (u - (i + 1)) := by
          rw [show u - (i + 1) = r by omega, hr, net_succ, show ((((r + 1 : Nat) : Int)) - 1).toNat = r by omega]
          show net b r + (2 * bit b r - 1) - (2 * bit b r - 1) = _
          omega
        rw [e]; rfl
      · rcases Nat.lt_or_ge (u - i) k with h | h
        · exact hall k h h2
        · have : k = u - i := by omega
          subst this; omega
  · rintro σ H' ⟨y, rfl, rfl, _, hall⟩
    walk_at "st"
    exact q2 fun k h1 h2 => hall k (by omega) h2

/-- last_at_most(many, look, stop, goal) -/
def sp_last_at_most (K : PySem.W.Frag) (CL : CLs) : Sp := fun vs H Q E => ∃ (many : Nat) (g : Addr) (i gl : Int) (ns : List Int) (n : Nat) (q : Option Addr) (I : List Nat → Hp → Prop) (L : List Nat), vs = [.int (many : Int), .ref g, .int i, .int gl] ∧ many ≤ 4096 ∧ ns.length ≤ many ∧
  LookR CL g n (fun k => NV (bear ns (hOf many) k)) q I ∧ 2 * 2 ^ hOf many ≤ n ∧ I L H ∧ L.length < 900 ∧
  ((i < 0 ∨ (many : Int) < i) → E (.ref (He.ga K "NoPlace")) none H) ∧
  (∀ a : Nat, i = (a : Int) → a ≤ many → ∀ (r : Option Nat) (L2 : List Nat) H', LastLow ns 0 a gl r → L2.length ≤ 3 * hOf many + 2 → (∀ k ∈ L2, 1 ≤ k ∧ k < 2 * 2 ^ hOf many) → I (L ++ L2) H' → SameX q H H' → Q (PV r) H')
theorem len_last_at_most (K : PySem.W.Frag) (CL : CLs) : ∀ vs H Q E, sp_last_at_most K CL vs H Q E → vs.length = 4 := by
  rintro vs H Q E ⟨m, g, i, j, ns, n, q, I, L, rfl, _⟩; rfl
def t_last_at_most (K : PySem.W.Frag) (CL : CLs) (E : XK) : TS :=
  (tSeq (tAsg (tCall (sp_size_of K) [] E0 (tCons (tVar 0) tNil)) (gName 4))
  (tSeq (tFor (iRev K (tCons (tCall (sp_cover K) [] E (tCons (tVar 0) (tCons (tC (.int 0)) (tCons (tVar 2) tNil)))) tNil)) (gName 5)
  (tIfS (tB (tCall (sp_within_goal K) [] E0 (tCons (tCallV CL 9 1 (tCons (tVar 5) tNil)) (tCons (tVar 3) tNil))))
  (tSeq (tAsg (tVar 5) (gName 6))
  (tSeq (tWhile (tTest (tOp rLt (tVar 6) (tVar 4)))
  (tSeq (tAsg (tOp rPlus (tOp rTimes (tC (.int 2)) (tVar 6)) (tC (.int 1))) (gName 6))
  (tIfS (tNot (tB (tCall (sp_within_goal K) [] E0 (tCons (tCallV CL 9 1 (tCons (tVar 6) tNil)) (tCons (tVar 3) tNil)))))
  (tAug 6 (tC (.int 1)) (ipI fun i j => i - j))
  tNext)))
  (tRet (tOp rMinus (tVar 6) (tVar 4)))))
  tNext))
  (tRet (tC .non))))
abbrev n_last_at_most : List Str := ["many", "look", "stop", "goal", "size", "node", "here"]

theorem rd_last_at_most (K : PySem.W.Frag) (CL : CLs) (vs : List V) (H : Hp) (Q : VK) (E : XK) (h : sp_last_at_most K CL vs H Q E) : t_last_at_most K CL E { nx := fun _ H' => Q .non H', rt := Q } (start n_last_at_most vs) H := by
  obtain ⟨many, g, i, gl, ns, n, q, I, L, rfl, hm, hnm, R, hn, hI, hL, q1, q2⟩ := h
  unfold t_last_at_most
  walk_at "st"
  refine ⟨many, rfl, by omega, ?_⟩
  walk_at "st"
  refine ⟨many, 0, i, rfl, by omega, fun z => q1 (by omega), fun z a ez ea hza hab ps p H1 _ hcv hok hln hp s1 e1 => ?_⟩
  obtain rfl : 0 = z := by omega
  rw [Nat.add_zero] at hcv
  have hS0 := Nat.two_pow_pos (hOf many)
  have hh := hOf_small hm
  have hle0 := hOf_le many
  have i1 := R.ext hI s1
  have nq : q ≠ some p := fun z => by
    obtain ⟨xs, e⟩ := R.isq hI p z
    rw [hp] at e; cases e
  have hpos : ∀ nd ∈ ps, 1 ≤ nd.1 ∧ nd.1 < 2 * 2 ^ hOf many := fun nd hnd => by
    have ok := hok nd hnd
    have p2 := Nat.two_pow_pos nd.2
    have hb := Nat.le_mul_of_pos_right (nd.1 + 1) p2
    have hle := ok.le
    have hge := ok.ge
    refine ⟨?_, by omega⟩
    rcases Nat.eq_zero_or_pos nd.1 with z | z
    · rw [z, Nat.zero_mul] at hge; omega
    · exact z
  walk_at "st"
  refine m_revE (.of e1) ?_
  have hprs : ∀ {nd}, nd ∈ ps.reverse → nd ∈ ps := fun h => List.mem_reverse.mp h
  rw [List.length_map]
  refine loop_walk (n := ps.length) (by have := walk_rev (K := K) (a := p) (xs := ps.map ndV); rw [List.length_map] at this; exact this) (fun k σ H' => ∃ y z, σ = [some (.int (many : Int)), some (.ref g), some (.int i), some (.int gl), some (.int ((2 ^ hOf many : Nat) : Int)), y, z] ∧ I (L ++ (ps.reverse.take k).map Prod.fst) H' ∧ SameX q H1 H' ∧ ∀ p ∈ ps.reverse.take k, lowB (bear ns (hOf many) p.1) gl = false) ⟨none, none, rfl, by simpa using i1, (Same.refl _).toX (R.isq i1), fun _ z => by simp at z⟩ (fun k σ H' ⟨_, _, _, _, X, _⟩ => SqL.of (X.get nq e1)) ?_ ?_
  · rintro k v σ H' H'' hlt ⟨y, z, rfl, hi, X, hno⟩ ⟨rfl, hv⟩
    rw [← List.length_map (f := ndV), ← List.getElem?_reverse (by rw [List.length_map]; exact hlt), ← List.map_reverse, List.getElem?_map] at hv
    cases hnd : ps.reverse[k]? with
    | none => rw [hnd] at hv; cases hv
    | some nd =>
    rw [hnd] at hv
    cases hv
    have ok := hok nd (hprs (List.mem_of_getElem? hnd))
    have hps := hpos nd (hprs (List.mem_of_getElem? hnd))
    have hf := R.fn hi
    have et : ps.reverse.take (k + 1) = ps.reverse.take k ++ [nd] := by rw [List.take_add_one, hnd]; rfl
    rw [show ndV nd = V.int (nd.1 : Int) from rfl]
    walk_at "st"
    refine R.ask hi (by rw [List.length_append, List.length_map, List.length_take, List.length_reverse]; omega) (by omega) fun H2 i2 X2 => ?_
    rw [List.append_assoc, show (ps.reverse.take k).map Prod.fst ++ [nd.1] = (ps.reverse.take (k + 1)).map Prod.fst by rw [et, List.map_append]; rfl] at i2
    walk_at "st"
    refine ⟨_, _, rfl, ?_⟩
    refine k_bl ?_
    cases hlo : lowB (bear ns (hOf many) nd.1) gl with
    | false =>
      walk_at "st"
      refine ⟨_, _, rfl, i2, X.trans X2, fun p hp => ?_⟩
      rw [et] at hp
      rcases List.mem_append.mp hp with h | h
      · exact hno p h
      · rw [List.mem_singleton.mp h]; exact hlo
    | true =>
      walk_at "st"
      have esp : ps = (ps.reverse.drop (k + 1)).reverse ++ nd :: (ps.reverse.take k).reverse := by
        have hlr : k < ps.reverse.length := (List.getElem?_eq_some_iff.mp hnd).1
        have h1 : ps.reverse = ps.reverse.take k ++ nd :: ps.reverse.drop (k + 1) := by
          have := List.getElem?_eq_some_iff.mp hnd
          rw [← this.2, ← List.drop_eq_getElem_cons hlr, List.take_append_drop]
        have h2 := congrArg List.reverse h1
        rw [List.reverse_reverse, List.reverse_append, List.reverse_cons, List.append_assoc] at h2
        exact h2
      have hcs := hcv
      rw [esp] at hcs
      have hge := ok.ge
      have p20 := Nat.two_pow_pos nd.2
      have e30 : (nd.1 + 1) * 2 ^ nd.2 = nd.1 * 2 ^ nd.2 + 2 ^ nd.2 := Nat.succ_mul _ _
      have nl0 := covP_NL (by omega) (covP_split hcs).2 (fun p hp => hok p (hprs (List.mem_of_mem_take (List.mem_reverse.mp hp)))) fun p hp => hno p (List.mem_reverse.mp hp)
      rw [show 2 ^ hOf many + a - 2 ^ hOf many = a by omega] at nl0
      have X12 := X.trans X2
      refine loop_while (fun m σ H3 => ∃ (x : Nat) (L3 : List Nat), σ = [some (.int (many : Int)), some (.ref g), some (.int i), some (.int gl), some (.int ((2 ^ hOf many : Nat) : Int)), some (.int (nd.1 : Int)), some (.int (x : Int))] ∧ 2 ^ hOf many ≤ x * 2 ^ m ∧ (x + 1) * 2 ^ m ≤ 2 ^ hOf many + a ∧ lowB (bear ns (hOf many) x) gl = true ∧ NL ns gl ((x + 1) * 2 ^ m - 2 ^ hOf many) a ∧ L3.length + m ≤ k + 1 + nd.2 ∧ (∀ k ∈ L3, 1 ≤ k ∧ k < 2 * 2 ^ hOf many) ∧ I (L ++ L3) H3 ∧ SameX q H1 H3) nd.2 ⟨nd.1, (ps.reverse.take (k + 1)).map Prod.fst, rfl, ok.ge, covP_mono (covP_split hcs).2, hlo, nl0, by rw [List.length_map, List.length_take, List.length_reverse]; omega, fun k hk => ?_, i2, X12⟩ ?_
      · obtain ⟨nd, hnd, rfl⟩ := List.mem_map.mp hk
        exact hpos nd (hprs (List.mem_of_mem_take hnd))
      have hnd2 : nd.2 ≤ hOf many := by
        have h1 : 2 * 2 ^ nd.2 ≤ 2 * 2 ^ hOf many := Nat.le_trans (Nat.mul_le_mul_right _ (show 2 ≤ nd.1 + 1 by omega)) ok.le
        exact (Nat.pow_le_pow_iff_right (a := 2) (by decide)).mp (by omega)
      rintro m σ H3 ⟨x, L3, rfl, hx1, hx2, hlw, hnl, hl3, hr3, i3, X3⟩
      have p2 := Nat.two_pow_pos m
      walk_at "st"
      walk_at "if" <;> intro c
      · obtain ⟨m, rfl⟩ : ∃ m', m = m' + 1 := by
          cases m with
          | zero => rw [Nat.pow_zero, Nat.mul_one] at hx1; omega
          | succ m => exact ⟨m, rfl⟩
        have q2 := Nat.two_pow_pos m
        have hx0 : 1 ≤ x := by
          rcases Nat.eq_zero_or_pos x with z | z
          · rw [z, Nat.zero_mul] at hx1; omega
          · exact z
        rw [pow2_succ] at hx1 hx2 hnl
        have a1 : x * (2 * 2 ^ m) = 2 * x * 2 ^ m := by rw [Nat.mul_left_comm, Nat.mul_assoc]
        have a2 : (x + 1) * (2 * 2 ^ m) = (2 * x + 1 + 1) * 2 ^ m := by rw [Nat.mul_left_comm, ← Nat.mul_assoc, Nat.mul_add]
        have a3 : (2 * x + 1) * 2 ^ m = 2 * x * 2 ^ m + 2 ^ m := Nat.succ_mul _ _
        have a4 : (2 * x + 1 + 1) * 2 ^ m = (2 * x + 1) * 2 ^ m + 2 ^ m := Nat.succ_mul _ _
        rw [a1] at hx1
        rw [a2] at hx2 hnl
        have hf3 := R.fn i3
        have hbn := bear_node (ns := ns) hx0 (show x < 2 ^ hOf many by omega)
        refine m_wbody ?_
        walk_at "st"
        rw [show (2 : Int) * (x : Int) + 1 = ((2 * x + 1 : Nat) : Int) by omega]
        walk_at "st"
        refine R.ask i3 (by rw [List.length_append]; omega) (by omega) fun H4 i4 X4 => ?_
        rw [List.append_assoc] at i4
        walk_at "st"
        refine ⟨_, _, rfl, ?_⟩
        have hr4 : ∀ k ∈ L3 ++ [2 * x + 1], 1 ≤ k ∧ k < 2 * 2 ^ hOf many := fun k hk => by
          rcases List.mem_append.mp hk with h | h
          · exact hr3 k h
          · rw [List.mem_singleton.mp h]; omega
        refine k_bl ?_
        cases hlo2 : lowB (bear ns (hOf many) (2 * x + 1)) gl with
        | true =>
          walk_at "st"
          exact ⟨m, by omega, 2 * x + 1, L3 ++ [2 * x + 1], rfl, by omega, hx2, hlo2, hnl, by rw [List.length_append, List.length_singleton]; omega, hr4, i4, X3.trans X4⟩
        | false =>
          walk_at "st"
          rw [hbn, lowB_min, hlo2, Bool.or_false] at hlw
          have nl2 := lowB_node (e := m) (by omega) (by omega) hlo2
          exact ⟨m, by omega, 2 * x, L3 ++ [2 * x + 1], by rw [show ((2 * x : Nat) : Int) = ((2 * x + 1 : Nat) : Int) - 1 by omega]; rfl, hx1, by omega, hlw, nl2.join hnl, by rw [List.length_append, List.length_singleton]; omega, hr4, i4, X3.trans X4⟩
      · have hx3 : 2 ^ hOf many ≤ x := by omega
        have hm0 : m = 0 := by
          rcases Nat.eq_zero_or_pos m with z | z
          · exact z
          · exfalso
            obtain ⟨m, rfl⟩ : ∃ m', m = m' + 1 := ⟨m - 1, by omega⟩
            have q2 := Nat.two_pow_pos m
            rw [pow2_succ] at hx2
            have := Nat.le_trans (Nat.mul_le_mul_left (x + 1) (show 2 * 1 ≤ 2 * 2 ^ m by omega)) hx2
            omega
        subst hm0
        rw [Nat.pow_zero, Nat.mul_one] at hnl hx2
        walk_at "st"
        obtain ⟨v, ev, hv⟩ := lowB_leaf hx3 hlw
        rw [show x + 1 - 2 ^ hOf many = x - 2 ^ hOf many + 1 by omega] at hnl
        have := q2 a ea hab (some (x - 2 ^ hOf many)) L3 H3 ⟨Nat.zero_le _, by omega, ⟨v, ev, hv⟩, hnl⟩ (by omega) hr3 i3 ((s1.toX (R.isq hI)).trans X3)
        rw [show (x : Int) - ((2 ^ hOf many : Nat) : Int) = ((x - 2 ^ hOf many : Nat) : Int) by omega]
        exact this
  · rintro σ H' ⟨y, z, rfl, hi, X, hno⟩
    walk_at "st"
    rw [← List.length_reverse, List.take_length] at hi
    rw [← List.length_reverse, List.take_length] at hno
    have nl0 := covP_NL (by omega) hcv hok fun p hp => hno p (List.mem_reverse.mpr hp)
    rw [show 2 ^ hOf many + a - 2 ^ hOf many = a by omega, Nat.sub_self] at nl0
    refine q2 a ea hab none (ps.reverse.map Prod.fst) H' nl0 (by rw [List.length_map, List.length_reverse]; omega) (fun k hk => ?_) hi ((s1.toX (R.isq hI)).trans X)
    obtain ⟨nd, hnd, rfl⟩ := List.mem_map.mp hk
    exact hpos nd (hprs hnd)

/-- last_part(tables, look, number, stop, goal) -/
def sp_last_part (K : PySem.W.Frag) (CL : CLs) : Sp := fun vs H Q _ => ∃ (t g : Addr) (j u : Nat) (gl : Int) (bs : List Int) (q : Option Addr) (I : List Nat → Hp → Prop) (L : List Nat), vs = [.ref t, .ref g, .int (j : Int), .int (u : Int), .int gl] ∧ BrAt K CL H t g bs q I ∧ I L H ∧ L.length < 985 ∧ j < (bs.length + 31) / 32 ∧ u ≤ 32 ∧ 32 * j + u ≤ bs.length ∧
  ∀ (r : Option Nat) H', LastH bs gl (32 * j) (32 * j + u) r → I (L ++ [j]) H' → SameX q H H' → Q (PV r) H'
theorem len_last_part (K : PySem.W.Frag) (CL : CLs) : ∀ vs H Q E, sp_last_part K CL vs H Q E → vs.length = 5 := by
  rintro vs H Q E ⟨t, g, a, s, u, _, _, _, _, rfl, _⟩; rfl
def t_last_part (K : PySem.W.Frag) (CL : CLs) : TS :=
  (tSeq (tAsg (tCall (sp_last_low_in K) [] E0 (tCons (tCallV CL 9 1 (tCons (tVar 2) tNil)) (tCons (tC (.int 0)) (tCons (tVar 3) (tCons (tOp rMinus (tVar 4) (tCall (sp_begin_height K) [] E0 (tCons (tOp (rIxT K) (tVar 0) (tC (.int 1))) (tCons (tVar 2) tNil)))) tNil))))) (gName 5))
  (tSeq (tIfS (tTest (tOp rIsN (tVar 5) (tC .non)))
  (tRet (tC .non))
  tNext)
  (tRet (tOp rPlus (tOp rTimes (tC (.int 32)) (tVar 2)) (tVar 5)))))
abbrev n_last_part : List Str := ["tables", "look", "number", "stop", "goal", "found"]

theorem rd_last_part (K : PySem.W.Frag) (CL : CLs) (vs : List V) (H : Hp) (Q : VK) (E : XK) (h : sp_last_part K CL vs H Q E) : t_last_part K CL { nx := fun _ H' => Q .non H', rt := Q } (start n_last_part vs) H := by
  obtain ⟨t, g, j, u, gl, bs, q, I, L, rfl, R, hI, hL, hj, hu, hun, qq⟩ := h
  have hf := R.look.fn hI
  have hg := blks_getD hj
  unfold t_last_part
  walk_at "st"
  refine R.look.ask hI (by omega) (by rw [blks_len]; exact hj) fun H1 i1 s1 => ?_
  obtain ⟨pa, ph, hT, hA, hP⟩ := (R.moveX s1).tab
  walk_at "st"
  refine k_ixT hT (at_int (by decide) rfl) ?_
  walk_at "st"
  refine ⟨pa, bs, j, rfl, hA, by omega, ?_⟩
  walk_at "st"
  refine ⟨_, _, 0, u, rfl, by omega, by omega, fun H2 s2 => ⟨fun k k1 k2 k3 k4 => ?_, fun hn => ?_⟩⟩
  · have hk := net_blks R.bits hg k (by omega)
    have := qq (some (32 * j + k)) H2 ⟨by omega, by omega, by omega, fun i i1 i2 => by
      have h1 := k4 (i - 32 * j) (by omega) (by omega)
      have h2 := net_blks R.bits hg (i - 32 * j) (by omega)
      rw [show 32 * j + (i - 32 * j) = i by omega] at h2
      omega⟩ (R.look.ext i1 s2) (s1.andS s2)
    walk_at "st"
    refine k_decF (fun z => nomatch z) ?_
    walk_at "st"
    rw [show (32 : Int) * (j : Int) + (k : Int) = ((32 * j + k : Nat) : Int) by omega]
    exact this
  · have := qq none H2 (fun i i1 i2 => by
      have h1 := hn (i - 32 * j) (by omega) (by omega)
      have h2 := net_blks R.bits hg (i - 32 * j) (by omega)
      rw [show 32 * j + (i - 32 * j) = i by omega] at h2
      omega) (R.look.ext i1 s2) (s1.andS s2)
    walk_at "st"
    refine k_decT rfl ?_
    walk_at "st"
    exact this
/-- the last low place ahead of one -/
def LastA (bs : List Int) (g : Int) (a : Nat) : Option Nat → Prop
  | none => ∀ k, k < a → g < hgt bs k
  | some k => k < a ∧ hgt bs k ≤ g ∧ ∀ j, k < j → j < a → g < hgt bs j

/-- low_ahead(tables, look, at, goal) -/
def sp_low_ahead (K : PySem.W.Frag) (CL : CLs) : Sp := fun vs H Q E => ∃ (t g : Addr) (x gl : Int) (bs : List Int) (q : Option Addr) (I : List Nat → Hp → Prop) (L : List Nat), vs = [.ref t, .ref g, .int x, .int gl] ∧ BrAt K CL H t g bs q I ∧ I L H ∧ L.length < 980 ∧ NdefX.TabN H (tabP K "node_look") nmL ∧
  ((x < 0 ∨ (bs.length : Int) < x) → E (.ref (He.ga K "NoPlace")) none H) ∧
  (∀ a : Nat, x = (a : Int) → a ≤ bs.length → ∀ (r : Option Nat) (L2 : List Nat) H', LastA bs gl a r → L2.length ≤ 2 → (∀ j ∈ L2, j < (blks bs).length) → I (L ++ L2) H' → SameX q H H' → Q (PV r) H')
theorem len_low_ahead (K : PySem.W.Frag) (CL : CLs) : ∀ vs H Q E, sp_low_ahead K CL vs H Q E → vs.length = 4 := by
  rintro vs H Q E ⟨t, g, x, y, _, _, _, _, rfl, _⟩; rfl
def t_low_ahead (K : PySem.W.Frag) (CL : CLs) (E : XK) : TS :=
  (tSeq (tDrop (tCall (sp_check_place K) [] E (tCons (tVar 0) (tCons (tVar 2) tNil))))
  (tSeq (tAsg (tC .non) (gName 4))
  (Evl.tCut (tIfS (tTest (tOp rGtI (tVar 2) (tC (.int 1))))
  (tSeq (tAsg (tOp rDiv (tOp rMinus (tVar 2) (tC (.int 2))) (tC (.int 32))) (gName 5))
  (tSeq (tAsg (tCall (sp_last_part K CL) [] E0 (tCons (tVar 0) (tCons (tVar 1) (tCons (tVar 5) (tCons (tOp rMinus (tOp rMinus (tVar 2) (tC (.int 1))) (tOp rTimes (tC (.int 32)) (tVar 5))) (tCons (tVar 3) tNil)))))) (gName 4))
  (tIfS (tTest (tOp rIsN (tVar 4) (tC .non)))
  (tSeq (tAsg (tCall (sp_last_at_most K CL) [] E (tCons (tOp rMinus (tCB (rLen K) (tCons (tOp (rIxT K) (tVar 0) (tC (.int 1))) tNil)) (tC (.int 1))) (tCons (tCall (sp_node_look K CL) [] E0 (tCons (tVar 0) tNil)) (tCons (tVar 5) (tCons (tVar 3) tNil))))) (gName 5))
  (tIfS (tTest (tOp rNotN (tVar 5) (tC .non)))
  (tAsg (tCall (sp_last_part K CL) [] E0 (tCons (tVar 0) (tCons (tVar 1) (tCons (tVar 5) (tCons (tC (.int 32)) (tCons (tVar 3) tNil)))))) (gName 4))
  tNext))
  tNext)))
  tNext)
  (tSeq (tIfS (tAnd (tTest (tOp rIsN (tVar 4) (tC .non))) (tAnd (tTest (tOp rGtI (tVar 2) (tC (.int 0)))) (tTest (tOp rGeI (tVar 3) (tC (.int 0))))))
  (tRet (tC (.int 0)))
  tNext)
  (tRet (tVar 4))))))
abbrev n_low_ahead : List Str := ["tables", "look", "at", "goal", "found", "number"]

theorem rd_low_ahead (K : PySem.W.Frag) (CL : CLs) (vs : List V) (H : Hp) (Q : VK) (E : XK) (h : sp_low_ahead K CL vs H Q E) : t_low_ahead K CL E { nx := fun _ H' => Q .non H', rt := Q } (start n_low_ahead vs) H := by
  obtain ⟨t, g, x, gl, bs, q, I, L, rfl, R, hI, hL, hTb, q1, q2⟩ := h
  obtain ⟨pa, ph, hT, hA, hP⟩ := R.tab
  have hlen := R.len
  have hbl := blks_len bs
  unfold t_low_ahead
  walk_at "st"
  refine ⟨t, bs.length, _, x, rfl, hT, q1, fun hx0 hx1 => ?_⟩
  obtain ⟨a, rfl⟩ := Int.eq_ofNat_of_zero_le hx0
  have han : a ≤ bs.length := by omega
  replace q2 := q2 a rfl han
  walk_at "st"
  refine m_cut (fun σ' H' => ∃ (r : Option Nat) (L2 : List Nat) (v : Option V), LastH bs gl 0 (a - 1) r ∧ L2.length ≤ 2 ∧ (∀ j ∈ L2, j < (blks bs).length) ∧ I (L ++ L2) H' ∧ SameX q H H' ∧ σ' = [some (.ref t), some (.ref g), some (.int (a : Int)), some (.int gl), some (PV r), v]) ?_ ?_
  · walk_at "st"
    walk_at "if" <;> intro c
    · walk_at "st"
      rw [show ((a : Int) - 2) / 32 = (((a - 2) / 32 : Nat) : Int) by omega]
      obtain ⟨i, hi⟩ : ∃ i, i = (a - 2) / 32 := ⟨_, rfl⟩
      rw [← hi]
      walk_at "st"
      have in1 : ∀ j ∈ [i], j < (blks bs).length := fun j hj => by rw [List.mem_singleton.mp hj]; omega
      refine ⟨t, g, i, a - 1 - 32 * i, gl, bs, q, I, L, by rw [show (a : Int) - 1 - 32 * (i : Int) = ((a - 1 - 32 * i : Nat) : Int) by omega], R, hI, by omega, by omega, by omega, by omega, fun r1 H1 hr1 i1 X1 => ?_⟩
      rw [show 32 * i + (a - 1 - 32 * i) = a - 1 by omega] at hr1
      cases r1 with
      | some k =>
        rw [show PV (some k) = V.int (k : Int) from rfl]
        walk_at "st"
        refine k_decF (fun z => nomatch z) ?_
        walk_at "st"
        exact ⟨some k, [i], _, ⟨by have := hr1.1; omega, hr1.2.1, hr1.2.2.1, hr1.2.2.2⟩, by simp, in1, i1, X1, rfl⟩
      | none =>
        have hr1 : HN bs gl (32 * i) (a - 1) := hr1
        obtain ⟨pa2, ph2, hT2, hA2, hP2⟩ := (R.moveX X1).tab
        rw [show PV none = V.non from rfl]
        walk_at "st"
        refine k_decT rfl ?_
        walk_at "st"
        refine k_ixT hT2 (at_int (by decide) rfl) ?_
        walk_at "st"
        refine k_lenT hA2 ?_
        walk_at "st"
        rw [List.length_map, aheadT_len, show (((bs.length + 31) / 32 + 1 : Nat) : Int) - 1 = (((bs.length + 31) / 32 : Nat) : Int) by omega]
        refine ⟨t, ph2, _, _, [], heapL (lowsOf bs), rfl, hT2, hP2, X1.tabs _ hTb, fun gn H3 hgn s3 lk => ?_⟩
        have hll := lowsOf_len bs
        have Rn := nodesLook lk
        walk_at "st"
        refine ⟨(bs.length + 31) / 32, gn, (i : Int), gl, lowsOf bs, _, none, _, [], rfl, by omega, by rw [hll]; exact Nat.le_refl _, Rn, by rw [heapL_len, hll]; exact Nat.le_refl _, LamX.ExtN.refl _, by decide, fun z => by omega, fun a' ea ha' r2 L3 H4 hr2 _ _ i4 X4 => ?_⟩
        obtain rfl : i = a' := by omega
        have s34 : Same H1 H4 := s3.trans X4.pure
        have i5 := R.look.ext i1 s34
        have X5 : SameX q H H4 := X1.andS s34
        cases r2 with
        | none =>
          rw [show PV none = V.non from rfl]
          walk_at "st"
          refine k_ndecT rfl ?_
          walk_at "st"
          have h2 := hn_blocks R.bits (show NL (lowsOf bs) gl 0 i from hr2) (by omega)
          refine ⟨none, [i], _, fun k k1 k2 => ?_, by simp, in1, i5, X5, rfl⟩
          rcases Nat.lt_or_ge (32 * i) k with z | z
          · exact hr1 k z k2
          · exact h2 k (by omega) (by omega)
        | some j =>
          obtain ⟨j1, j2, ⟨v, ev, hv⟩, j4⟩ := hr2
          rw [show PV (some j) = V.int (j : Int) from rfl]
          walk_at "st"
          refine k_ndecF (fun z => nomatch z) ?_
          walk_at "st"
          refine ⟨t, g, j, 32, gl, bs, q, I, L ++ [i], rfl, R.moveX X5, i5, by rw [List.length_append, List.length_singleton]; omega, by omega, by omega, by omega, fun r3 H5 hr3 i6 X6 => ?_⟩
          rw [List.append_assoc] at i6
          have h2 := hn_blocks R.bits j4 (by omega)
          have h3 : HN bs gl (32 * j + 32) (a - 1) := fun k k1 k2 => by
            rcases Nat.lt_or_ge (32 * i) k with z | z
            · exact hr1 k z k2
            · exact h2 k (by omega) (by omega)
          have in2 : ∀ m ∈ [i, j], m < (blks bs).length := fun m hm => by
            simp only [List.mem_cons, List.not_mem_nil, or_false] at hm
            rcases hm with rfl | rfl <;> omega
          cases r3 with
          | none => exact absurd (show HN bs gl (32 * j) (min (32 * j + 32) bs.length) from HN.less hr3 (by omega)) (low_block R.bits (by omega) ev hv)
          | some k =>
            obtain ⟨k1, k2, k3, k4⟩ := hr3
            walk_at "st"
            exact ⟨some k, [i, j], _, ⟨by omega, by omega, k3, k4.join h3⟩, by simp, in2, i6, X5.trans X6, rfl⟩
    · walk_at "st"
      exact ⟨none, [], _, fun k k1 k2 => by omega, by simp, (fun j hj => by cases hj), by rw [List.append_nil]; exact hI, (Same.refl _).toX (R.look.isq hI), rfl⟩
  rintro σ' H' ⟨r, L2, v, hr, hL2, hin, i1, X1, rfl⟩
  cases r with
  | some k =>
    obtain ⟨k1, k2, k3, k4⟩ := hr
    rw [show PV (some k) = V.int (k : Int) from rfl]
    walk_at "st"
    refine k_decF (fun z => nomatch z) ?_
    walk_at "st"
    exact q2 (some k) L2 H' ⟨by omega, k3, fun j j1 j2 => k4 j j1 (by omega)⟩ hL2 hin i1 X1
  | none =>
    have hr : HN bs gl 0 (a - 1) := hr
    rw [show PV none = V.non from rfl]
    walk_at "st"
    refine k_decT rfl ?_
    walk_at "st"
    walk_at "if" <;> intro c1
    · walk_at "st"
      walk_at "if" <;> intro c2
      · walk_at "st"
        exact q2 (some 0) L2 H' ⟨by omega, by rw [hgt_zero]; omega, fun j j1 j2 => hr j j1 (by omega)⟩ hL2 hin i1 X1
      · walk_at "st"
        refine q2 none L2 H' (fun k k1 => ?_) hL2 hin i1 X1
        rcases Nat.eq_zero_or_pos k with rfl | hk
        · rw [hgt_zero]; omega
        · exact hr k hk (by omega)
    · walk_at "st"
      exact q2 none L2 H' (fun k k1 => by omega) hL2 hin i1 X1

--#base
theorem brkF_app : ∀ (a : Int) (xs ys : List Int), brkF a (xs ++ ys) = brkF a xs ++ brkF (lastD a xs) ys
  | _, [], _ => rfl
  | a, d :: xs, ys => by
    show List.replicate _ 0 ++ 1 :: brkF d (xs ++ ys) = (List.replicate _ 0 ++ 1 :: brkF d xs) ++ brkF (lastD d xs) ys
    rw [brkF_app d xs ys]; simp
theorem brkF_len : ∀ {a : Int} {ds : List Int}, DeepT a ds → ((brkF a ds).length : Int) = a + 2 * ds.length - lastD a ds
  | a, [], _ => by simp only [brkF, lastD, List.length_nil]; omega
  | a, d :: ds, ⟨a1, a2, a3⟩ => by
    have := brkF_len a3
    simp only [brkF, lastD, List.length_append, List.length_replicate, List.length_cons]; omega
theorem sum_rep0 : ∀ n : Nat, (List.replicate n (0 : Int)).sum = 0
  | 0 => rfl
  | n + 1 => by rw [List.replicate_succ, List.sum_cons, sum_rep0 n]; rfl
theorem brkF_sum : ∀ (a : Int) (ds : List Int), (brkF a ds).sum = ds.length
  | _, [] => rfl
  | a, d :: ds => by
    have := brkF_sum d ds
    simp only [brkF, List.sum_append, sum_rep0, List.sum_cons, List.length_cons]
    rw [this]; push_cast; omega
/-- the place of a node's opening bracket: twice its number, less its depth -/
theorem node_place {ds : List Int} (h : Deep ds) {n : Nat} {d : Int} (e : ds[n]? = some d) : ∃ k : Nat, (k : Int) = 2 * n - d ∧ k < (brk ds).length ∧ (brk ds).getD k 0 = 1 ∧ sumTo (brk ds) k = n := by
  obtain ⟨r, rfl, h2⟩ := h.cons
  have hb : brk (0 :: r) = 1 :: (brkF 0 r ++ List.replicate (lastD 0 r + 1).toNat 0) := by
    show 1 :: brkT 0 r = _
    rw [brkF_all]
  cases n with
  | zero =>
    cases e
    exact ⟨0, by omega, by rw [hb]; exact Nat.succ_pos _, by rw [hb]; rfl, rfl⟩
  | succ m =>
    rw [List.getElem?_cons_succ] at e
    have hm : m < r.length := (List.getElem?_eq_some_iff.mp e).1
    have hd := deepT_take m h2
    have hl := brkF_len hd
    have hs := brkF_sum 0 (r.take m)
    rw [List.length_take, Nat.min_eq_left (by omega)] at hl hs
    obtain ⟨x, hx⟩ : ∃ x, (0 :: r)[m]? = some x := ⟨_, List.getElem?_eq_getElem (show m < (0 :: r).length by rw [List.length_cons]; omega)⟩
    have hlx := lastD_take r hx
    obtain ⟨d1, d2⟩ := deepT_get h2 hx e
    rw [hlx] at hl
    have hsp : r = r.take m ++ d :: r.drop (m + 1) := by
      rw [← List.getElem_eq_iff (h := hm) |>.mpr e, ← List.drop_eq_getElem_cons hm, List.take_append_drop]
    have hF : brkF 0 r = brkF 0 (r.take m) ++ (List.replicate (x + 1 - d).toNat 0 ++ 1 :: brkF d (r.drop (m + 1))) := by
      conv => lhs; rw [hsp, brkF_app, hlx]
      rfl
    have hx0 : 0 ≤ x := by rw [← hlx]; exact lastD_nonneg (Int.le_refl _) hd
    obtain ⟨P, eP⟩ : ∃ P, P = 1 :: (brkF 0 (r.take m) ++ List.replicate (x + 1 - d).toNat 0) := ⟨_, rfl⟩
    have hP : brk (0 :: r) = P ++ 1 :: (brkF d (r.drop (m + 1)) ++ List.replicate (lastD 0 r + 1).toNat 0) := by
      rw [hb, hF, eP]; simp
    have hPl : (P.length : Int) = 2 * ((m + 1 : Nat) : Int) - d := by
      rw [eP, List.length_cons, List.length_append, List.length_replicate]; omega
    refine ⟨P.length, hPl, by rw [hP, List.length_append, List.length_cons]; omega, ?_, ?_⟩
    · rw [hP, List.getD_eq_getElem?_getD, List.getElem?_append_right (Nat.le_refl _), Nat.sub_self]; rfl
    · unfold sumTo
      rw [hP, List.take_left', eP, List.sum_cons, List.sum_append, sum_rep0, hs]
      · push_cast; omega
      · rfl
/-- the ones' places are told by the ones ahead -/
theorem one_uniq {bs : List Int} (hB : Bits bs) {n m : Nat} (e : bs.getD n 0 = 1) (e' : bs.getD m 0 = 1) (h : sumTo bs n = sumTo bs m) : n = m := by
  rcases Nat.lt_trichotomy n m with z | z | z
  · have h1 := sumTo_succ bs n
    have h2 := sumTo_mono hB (show n + 1 ≤ m by omega)
    omega
  · exact z
  · have h1 := sumTo_succ bs m
    have h2 := sumTo_mono hB (show m + 1 ≤ n by omega)
    omega
theorem brk_sum {ds : List Int} (h : Deep ds) : (brk ds).sum = ds.length := by
  obtain ⟨r, rfl, h2⟩ := h.cons
  show (1 :: brkT 0 r).sum = _
  rw [brkF_all, List.sum_cons, List.sum_append, sum_rep0, brkF_sum, List.length_cons]; push_cast; omega

/-- a tree's tables and a look at its blocks, told by its depths -/
def TrAt (K : PySem.W.Frag) (CL : CLs) (H : Hp) (t g : Addr) (ds : List Int) (q : Option Addr) (I : List Nat → Hp → Prop) : Prop := Deep ds ∧ ds.length ≤ 2048 ∧ BrAt K CL H t g (brk ds) q I
theorem TrAt.moveX {K : PySem.W.Frag} {CL : CLs} {H H' : Hp} {t g : Addr} {ds : List Int} {q : Option Addr} {I : List Nat → Hp → Prop} (r : TrAt K CL H t g ds q I) (s : SameX q H H') : TrAt K CL H' t g ds q I := ⟨r.1, r.2.1, r.2.2.moveX s⟩
theorem TrAt.move {K : PySem.W.Frag} {CL : CLs} {H H' : Hp} {t g : Addr} {ds : List Int} {q : Option Addr} {I : List Nat → Hp → Prop} (r : TrAt K CL H t g ds q I) (s : Same H H') : TrAt K CL H' t g ds q I := ⟨r.1, r.2.1, r.2.2.move s⟩

/-- the nodes' depths, as told at opening brackets -/
theorem sumTo_le_all {bs : List Int} (hB : Bits bs) (k : Nat) : sumTo bs k ≤ bs.sum := by
  rcases Nat.le_total k bs.length with z | z
  · rw [← sumTo_all bs (Nat.le_refl _)]; exact sumTo_mono hB z
  · rw [sumTo_all bs z]; exact Int.le_refl _
theorem place_node {ds : List Int} (h : Deep ds) {k : Nat} (h1 : (brk ds).getD k 0 = 1) : ∃ (m : Nat) (d : Int), ds[m]? = some d ∧ sumTo (brk ds) k = m ∧ hgt (brk ds) k = d ∧ (k : Int) = 2 * m - d := by
  have hB := (brk_tree h).2
  have h0 : 0 ≤ sumTo (brk ds) k := by
    have := sumTo_mono hB (Nat.zero_le k); rw [sumTo_zero] at this; exact this
  have hs := sumTo_succ (brk ds) k
  have hle := sumTo_le_all hB (k + 1)
  rw [brk_sum h] at hle
  obtain ⟨m, em⟩ := Int.eq_ofNat_of_zero_le h0
  have hm : m < ds.length := by omega
  obtain ⟨k2, a1, a2, a3, a4⟩ := node_place h (List.getElem?_eq_getElem hm)
  obtain rfl := one_uniq hB h1 a3 (by rw [em, a4])
  exact ⟨m, _, List.getElem?_eq_getElem hm, a4, by unfold hgt; omega, a1⟩
theorem one_lt {bs : List Int} (hB : Bits bs) {k a : Nat} (h : sumTo bs k < sumTo bs a) : k < a := by
  rcases Nat.lt_or_ge k a with z | z
  · exact z
  · have := sumTo_mono hB z; omega
theorem one_le {bs : List Int} (hB : Bits bs) {k a : Nat} (h1 : bs.getD a 0 = 1) (h : sumTo bs k ≤ sumTo bs a) : k ≤ a := by
  rcases Nat.lt_or_ge a k with z | z
  · have := sumTo_mono hB (show a + 1 ≤ k by omega)
    have := sumTo_succ bs a
    omega
  · exact z
theorem getD_of {ds : List Int} {m : Nat} {d : Int} (e : ds[m]? = some d) : ds.getD m 0 = d := by rw [List.getD_eq_getElem?_getD, e]; rfl
/-- a node's place -/
structure PlaceOf (ds : List Int) (n a : Nat) : Prop where
  lt : a < (brk ds).length
  up : (brk ds).getD a 0 = 1
  sum : sumTo (brk ds) a = n
  hg : hgt (brk ds) a = ds.getD n 0
  eq : (a : Int) = 2 * n - ds.getD n 0
theorem placeOf {ds : List Int} (h : Deep ds) {n : Nat} (hn : n < ds.length) : ∃ a, PlaceOf ds n a := by
  obtain ⟨k, a1, a2, a3, a4⟩ := node_place h (List.getElem?_eq_getElem hn)
  have e := getD_of (List.getElem?_eq_getElem hn)
  exact ⟨k, a2, a3, a4, by unfold hgt; omega, by omega⟩
theorem placeAt {ds : List Int} (h : Deep ds) {k : Nat} (h1 : (brk ds).getD k 0 = 1) : ∃ m, m < ds.length ∧ PlaceOf ds m k := by
  obtain ⟨m, d, e, a1, a2, a3⟩ := place_node h h1
  have hm := (List.getElem?_eq_some_iff.mp e).1
  have hk : k < (brk ds).length := by
    rcases Nat.lt_or_ge k (brk ds).length with z | z
    · exact z
    · rw [List.getD_eq_getElem?_getD, List.getElem?_eq_none z] at h1; simp at h1
  exact ⟨m, hm, hk, h1, a1, by rw [getD_of e]; exact a2, by rw [getD_of e]; exact a3⟩
theorem PlaceOf.u {ds : List Int} (h : Deep ds) {n a b : Nat} (p : PlaceOf ds n a) (p' : PlaceOf ds n b) : a = b := one_uniq (brk_tree h).2 p.up p'.up (by rw [p.sum, p'.sum])
theorem PlaceOf.lt_of {ds : List Int} (h : Deep ds) {n m a b : Nat} (p : PlaceOf ds n a) (p' : PlaceOf ds m b) (hl : n < m) : a < b := one_lt (brk_tree h).2 (by rw [p.sum, p'.sum]; omega)
theorem PlaceOf.le_of {ds : List Int} (h : Deep ds) {n m a b : Nat} (p : PlaceOf ds n a) (p' : PlaceOf ds m b) (hl : n ≤ m) : a ≤ b := one_le (brk_tree h).2 p'.up (by rw [p.sum, p'.sum]; omega)
theorem PlaceOf.node_lt {ds : List Int} (h : Deep ds) {n m a b : Nat} (p : PlaceOf ds n a) (p' : PlaceOf ds m b) (hl : a < b) : n < m := by
  rcases Nat.lt_or_ge n m with z | z
  · exact z
  · have := p'.le_of h p z; omega
theorem depth_nonneg {ds : List Int} (h : Deep ds) (n : Nat) : 0 ≤ ds.getD n 0 := by
  obtain ⟨r, rfl, h2⟩ := h.cons
  cases n with
  | zero => exact Int.le_refl _
  | succ m =>
    rcases Nat.lt_or_ge m r.length with z | z
    · have hx : ((0 : Int) :: r)[m]? = some ((((0 : Int) :: r))[m]'(by rw [List.length_cons]; omega)) := List.getElem?_eq_getElem _
      have := deepT_get h2 hx (List.getElem?_eq_getElem z)
      rw [List.getD_cons_succ, List.getD_eq_getElem?_getD, List.getElem?_eq_getElem z]
      show 0 ≤ r[m]
      omega
    · rw [List.getD_eq_getElem?_getD, List.getElem?_eq_none (by rw [List.length_cons]; omega)]; exact Int.le_refl _
theorem PlaceOf.nlt {ds : List Int} (h : Deep ds) {n a : Nat} (P : PlaceOf ds n a) : n < ds.length := by
  have := P.sum
  have hs := sumTo_succ (brk ds) a
  have hle := sumTo_le_all (brk_tree h).2 (a + 1)
  rw [brk_sum h] at hle
  have := P.up
  omega
/-- the first one of the young -/
theorem young_of {ds : List Int} (h : Deep ds) {n a : Nat} (P : PlaceOf ds n a) : ((brk ds).getD (a + 1) 0 = 1 ↔ n + 1 < ds.length ∧ ds.getD (n + 1) 0 = ds.getD n 0 + 1) := by
  have hs := sumTo_succ (brk ds) a
  rw [P.sum, P.up] at hs
  constructor
  · intro h1
    obtain ⟨m, hm, Pm⟩ := placeAt h h1
    have e := Pm.sum
    obtain rfl : m = n + 1 := by omega
    have e1 := Pm.eq
    have e2 := P.eq
    exact ⟨hm, by push_cast at e1; omega⟩
  · rintro ⟨hm, hd⟩
    obtain ⟨b, Pb⟩ := placeOf h hm
    have e1 := Pb.eq
    have e2 := P.eq
    obtain rfl : b = a + 1 := by push_cast at e1; omega
    exact Pb.up
theorem younger_at {ds : List Int} (h : Deep ds) {k m : Nat} (hs : sumTo (brk ds) k = m) {d : Int} (hk : (k : Int) = 2 * m - d) (hm : m < ds.length) : ((brk ds).getD k 0 = 1 ↔ ds.getD m 0 = d) := by
  obtain ⟨b, Pb⟩ := placeOf h hm
  have e := Pb.eq
  constructor
  · intro h1
    obtain rfl := one_uniq (brk_tree h).2 h1 Pb.up (by rw [hs, Pb.sum])
    omega
  · intro hd
    obtain rfl : b = k := by omega
    exact Pb.up
theorem none_at {ds : List Int} (h : Deep ds) {k : Nat} (hs : sumTo (brk ds) k = ds.length) : (brk ds).getD k 0 = 0 := by
  have hB := (brk_tree h).2
  have h1 := sumTo_succ (brk ds) k
  have h2 := sumTo_le_all hB (k + 1)
  rw [brk_sum h] at h2
  have := getD_bit hB k
  omega

theorem k_sl2 {K : PySem.W.Frag} {H : Hp} {Q : VK} {t pa ph : Addr} {n : Int} (hT : SqT K H t [.int n, .ref pa, .ref ph]) (q : ∀ t2 H', Same H H' → H' t2 = some (.tup [.int n, .ref pa]) → Q (.ref t2) H') : rSlT K (.ref t) none (some 2) H Q := by
  refine ⟨t, _, rfl, hT, (show ¬ (HT.sIx 3 0 none = 0 ∧ HT.sIx 3 3 (some 2) = 3) by decide), fun t2 ht2 => ?_⟩
  exact q t2 _ (same_new ht2) upd_same

/-- what is asked for, one by one -/
theorem in_app {L M : List Nat} {n : Nat} (h1 : ∀ j ∈ L, j < n) (h2 : ∀ j ∈ M, j < n) : ∀ j ∈ L ++ M, j < n := fun j hj => (List.mem_append.mp hj).elim (h1 j) (h2 j)
theorem in_one {k n : Nat} (h : k < n) : ∀ j ∈ [k], j < n := fun j hj => by rw [List.mem_singleton.mp hj]; exact h

/-- bit_at(tables, look, at) -/
def sp_bit_at (K : PySem.W.Frag) (CL : CLs) : Sp := fun vs H Q E => ∃ (t g : Addr) (at_ : Int) (many : Nat) (rest : List V) (n : Nat) (val : Nat → Int) (q : Option Addr) (I : List Nat → Hp → Prop) (L : List Nat), vs = [.ref t, .ref g, .int at_] ∧ SqT K H t (.int (many : Int) :: rest) ∧ LookR CL g n (fun k => .int (val k)) q I ∧ I L H ∧ L.length < 8999 ∧
  ((at_ < 0 ∨ (many : Int) ≤ at_) → E (.ref (He.ga K "NoPlace")) none H) ∧
  (∀ k : Nat, at_ = (k : Int) → k < many → k / 32 < n ∧ ∀ H', I (L ++ [k / 32]) H' → SameX q H H' → Q (.int (bit (val (k / 32)) (k % 32))) H')
theorem len_bit_at (K : PySem.W.Frag) (CL : CLs) : ∀ vs H Q E, sp_bit_at K CL vs H Q E → vs.length = 3 := by
  rintro vs H Q E ⟨t, g, a, _, _, _, _, _, _, _, rfl, _⟩; rfl
def t_bit_at (K : PySem.W.Frag) (CL : CLs) (E : XK) : TS :=
  (tSeq (tIfS (tOr (tTest (tOp rLt (tVar 2) (tC (.int 0)))) (tTest (tOp rGeI (tVar 2) (tOp (rIxT K) (tVar 0) (tC (.int 0))))))
  (tRz (fun cls d _ H => E cls d H) (He.ga K "NoPlace"))
  tNext)
  (tRet (tOp rAnd1 (tOp rShr (tCallV CL 9 1 (tCons (tOp rDiv (tVar 2) (tC (.int 32))) tNil)) (tOp rMod (tVar 2) (tC (.int 32)))) (tC (.int 1)))))
abbrev n_bit_at : List Str := ["tables", "look", "at"]

theorem rd_bit_at (K : PySem.W.Frag) (CL : CLs) (vs : List V) (H : Hp) (Q : VK) (E : XK) (h : sp_bit_at K CL vs H Q E) : t_bit_at K CL E { nx := fun _ H' => Q .non H', rt := Q } (start n_bit_at vs) H := by
  obtain ⟨t, g, at_, many, rest, n, val, q, I, L, rfl, hT, R, hI, hL, q1, q2⟩ := h
  unfold t_bit_at
  have hf := R.fn hI
  walk_at "st"
  walk_at "if" <;> intro c
  · walk_at "st"
    exact q1 (.inl c)
  · walk_at "st"
    refine k_ixT hT (x := .int (many : Int)) (at_int (Int.le_refl 0) rfl) ?_
    walk_at "st"
    walk_at "if" <;> intro c1
    · walk_at "st"
      exact q1 (.inr (by omega))
    · walk_at "st"
      obtain ⟨k, rfl⟩ : ∃ k : Nat, at_ = (k : Int) := ⟨at_.toNat, by omega⟩
      obtain ⟨h1, h2⟩ := q2 k rfl (by omega)
      rw [show (k : Int) / 32 = ((k / 32 : Nat) : Int) by omega]
      refine R.ask hI (by omega) h1 fun H' i' s' => ?_
      walk_at "st"
      have := h2 H' i' s'
      unfold bit at this
      rw [show ((k : Int) % 32).toNat = k % 32 by omega]
      exact this

/-- bit_at(tables[:2], look, at) of a tree -/
theorem call_bit2 {K : PySem.W.Frag} {CL : CLs} {H : Hp} {Q : VK} {E : XK} {t g : Addr} {bs : List Int} {q : Option Addr} {I : List Nat → Hp → Prop} {L : List Nat} {x : Int} {k : Nat} {t2 pa : Addr} (ek : x = (k : Int)) (hT : SqT K H t2 [.int (bs.length : Int), .ref pa]) (R : BrAt K CL H t g bs q I) (hI : I L H) (hL : L.length < 990) (hk : k < bs.length)
    (q1 : ∀ H', I (L ++ [k / 32]) H' → SameX q H H' → k / 32 < (blks bs).length → Q (.int (bs.getD k 0)) H') : sp_bit_at K CL [.ref t2, .ref g, .int x] H Q E := by
  subst ek
  have hbl := blks_len bs
  refine ⟨t2, g, _, bs.length, _, _, _, q, I, L, rfl, hT, R.look, hI, by omega, fun z => by omega, fun k' ek' hk' => ?_⟩
  obtain rfl : k = k' := by omega
  have hj : k / 32 < (blks bs).length := by omega
  refine ⟨hj, fun H1 i1 X1 => ?_⟩
  have eb : bit ((blks bs).getD (k / 32) 0) (k % 32) = bs.getD k 0 := by
    rw [bit_blks R.bits (blks_getD (by omega)) (by omega), show 32 * (k / 32) + k % 32 = k by omega]
  rw [eb]
  exact q1 H1 i1 X1 hj

theorem hgt_nonneg {bs : List Int} (hI : IsTree bs) {k : Nat} (h : k ≤ bs.length) : 0 ≤ hgt bs k := by
  rcases Nat.eq_zero_or_pos k with z | z
  · rw [z, hgt_zero]; omega
  · rcases Nat.lt_or_ge k bs.length with w | w
    · have := hI.2.2 k z w; omega
    · rw [show k = bs.length by omega, hI.2.1]; omega

/-- a bracket and the one that closes it -/
structure Pair (bs : List Int) (a c : Nat) : Prop where
  lt : a < c
  cn : c < bs.length
  up : bs.getD a 0 = 1
  dn : bs.getD c 0 = 0
  eq : hgt bs (c + 1) = hgt bs a
  hi : ∀ j, a < j → j ≤ c → hgt bs a < hgt bs j
theorem Pair.uc {bs : List Int} {a c c' : Nat} (p : Pair bs a c) (p' : Pair bs a c') : c = c' := by
  rcases Nat.lt_trichotomy c c' with h | h | h
  · have := p'.hi (c + 1) (by have := p.lt; omega) (by omega); have := p.eq; omega
  · exact h
  · have := p.hi (c' + 1) (by have := p'.lt; omega) (by omega); have := p'.eq; omega
theorem Pair.ua {bs : List Int} {a a' c : Nat} (p : Pair bs a c) (p' : Pair bs a' c) : a = a' := by
  have e1 := p.eq
  have e2 := p'.eq
  rcases Nat.lt_trichotomy a a' with h | h | h
  · have := p.hi a' h (by have := p'.lt; omega); omega
  · exact h
  · have := p'.hi a h (by have := p.lt; omega); omega
theorem closing_pair {bs : List Int} (hB : Bits bs) (hI : IsTree bs) {a : Nat} (ha : a < bs.length) (h1 : bs.getD a 0 = 1) {r : Option Nat} (hr : FirstH bs (hgt bs a) a bs.length r) : ∃ c, r = some (c + 1) ∧ Pair bs a c := by
  have h0 := hgt_nonneg hI (Nat.le_of_lt ha)
  have hup := hgt_succ bs a
  rw [h1] at hup
  cases r with
  | none =>
    have hr : HN bs (hgt bs a) a bs.length := hr
    have := hr bs.length ha (Nat.le_refl _)
    rw [hI.2.1] at this; omega
  | some k =>
    obtain ⟨k1, k2, k3, k4⟩ := hr
    obtain ⟨c, rfl⟩ : ∃ c, k = c + 1 := ⟨k - 1, by omega⟩
    have hca : a < c := by
      rcases Nat.lt_or_ge a c with z | z
      · exact z
      · have : c = a := by omega
        subst this; omega
    have hc := k4 c hca (by omega)
    have hs := hgt_succ bs c
    have hb := getD_bit hB c
    refine ⟨c, rfl, hca, by omega, h1, by omega, by omega, fun j j1 j2 => k4 j j1 (by omega)⟩
theorem opening_pair {bs : List Int} (hB : Bits bs) (hI : IsTree bs) {c : Nat} (hc : c < bs.length) (h1 : bs.getD c 0 = 0) {r : Option Nat} (hr : LastA bs (hgt bs (c + 1)) (c + 1) r) : ∃ a, r = some a ∧ Pair bs a c := by
  have h0 := hgt_nonneg hI (show c + 1 ≤ bs.length by omega)
  have hdn := hgt_succ bs c
  rw [h1] at hdn
  cases r with
  | none =>
    have := hr 0 (by omega)
    rw [hgt_zero] at this; omega
  | some k =>
    obtain ⟨k1, k2, k3⟩ := hr
    have hkc : k < c := by
      rcases Nat.lt_or_ge k c with z | z
      · exact z
      · have : k = c := by omega
        subst this; omega
    have hk := k3 (k + 1) (by omega) (by omega)
    have hs := hgt_succ bs k
    have hb := getD_bit hB k
    exact ⟨k, rfl, hkc, hc, by omega, h1, by omega, fun j j1 j2 => by have := k3 j j1 (by omega); omega⟩

/-- ones_at(tables, look, at) -/
def sp_ones_at (K : PySem.W.Frag) (CL : CLs) : Sp := fun vs H Q E => ∃ (t g : Addr) (at_ : Int) (bs : List Int) (q : Option Addr) (I : List Nat → Hp → Prop) (L : List Nat), vs = [.ref t, .ref g, .int at_] ∧ RowAt K CL H t g bs q I ∧ I L H ∧ L.length < 8999 ∧
  ((at_ < 0 ∨ (bs.length : Int) < at_) → ∀ H', Same H H' → E (.ref (He.ga K "NoPlace")) none H') ∧
  (∀ k : Nat, at_ = (k : Int) → k ≤ bs.length → ∀ H' L', (L' = L ∨ L' = L ++ [k / 32] ∧ k / 32 < (blks bs).length) → I L' H' → SameX q H H' → Q (.int (sumTo bs k)) H')
theorem len_ones_at (K : PySem.W.Frag) (CL : CLs) : ∀ vs H Q E, sp_ones_at K CL vs H Q E → vs.length = 3 := by
  rintro vs H Q E ⟨t, g, a, _, _, _, _, rfl, _⟩; rfl
def t_ones_at (K : PySem.W.Frag) (CL : CLs) (E : XK) : TS :=
  (tSeq (tAsg (tVar 0) (gTup K 2 (gCons (gName 3) (gCons (gName 4) gNil))))
  (tSeq (tIfS (tOr (tTest (tOp rLt (tVar 2) (tC (.int 0)))) (tTest (tOp rGtI (tVar 2) (tVar 3))))
  (tRz (fun cls d _ H => E cls d H) (He.ga K "NoPlace"))
  tNext)
  (tSeq (tAsg (tOp (rIxT K) (tVar 4) (tOp rDiv (tVar 2) (tC (.int 32)))) (gName 5))
  (Evl.tCut (tIfS (tTest (tOp rGtI (tOp rMod (tVar 2) (tC (.int 32))) (tC (.int 0))))
  (tAug 5 (tCall (sp_ones_in K) [] E0 (tCons (tCallV CL 9 1 (tCons (tOp rDiv (tVar 2) (tC (.int 32))) tNil)) (tCons (tOp rMod (tVar 2) (tC (.int 32))) tNil))) (ipI fun i j => i + j))
  tNext)
  (tRet (tVar 5))))))
abbrev n_ones_at : List Str := ["tables", "look", "at", "many", "ahead", "found"]

theorem rd_ones_at (K : PySem.W.Frag) (CL : CLs) (vs : List V) (H : Hp) (Q : VK) (E : XK) (h : sp_ones_at K CL vs H Q E) : t_ones_at K CL E { nx := fun _ H' => Q .non H', rt := Q } (start n_ones_at vs) H := by
  obtain ⟨t, g, at_, bs, q, I, L, rfl, R, hI, hL, q1, q2⟩ := h
  obtain ⟨pa, hT, hA⟩ := R.tab
  unfold t_ones_at
  have hf := R.look.fn hI
  walk_at "st"
  refine m_gTup hT rfl ?_
  walk_at "st"
  walk_at "if" <;> intro c
  · walk_at "st"
    exact q1 (.inl c) _ (Same.refl _)
  · walk_at "st"
    walk_at "if" <;> intro c1
    · walk_at "st"
      exact q1 (.inr (by omega)) _ (Same.refl _)
    · walk_at "st"
      obtain ⟨k, rfl⟩ : ∃ k : Nat, at_ = (k : Int) := ⟨at_.toNat, by omega⟩
      have hk : k ≤ bs.length := by omega
      rw [show (k : Int) / 32 = ((k / 32 : Nat) : Int) by omega]
      refine k_ixT hA (at_nat (mapint (aheadT_get bs (show k / 32 ≤ (bs.length + 31) / 32 by omega)))) ?_
      walk_at "st"
      refine m_cut0 ?_
      walk_at "st"
      walk_at "if" <;> intro c2
      · have hj : k / 32 < (bs.length + 31) / 32 := by omega
        walk_at "st"
        rw [show (k : Int) / 32 = ((k / 32 : Nat) : Int) by omega]
        refine R.look.ask hI (by omega) (by rw [blks_len]; exact hj) fun H1 i1 s1 => ?_
        walk_at "st"
        refine ⟨_, k % 32, by rw [show (k : Int) % 32 = ((k % 32 : Nat) : Int) by omega], by omega, fun H2 s2 => ?_⟩
        walk_at "st"
        have e := onesIn_blks R.bits (blks_getD hj) (k % 32) (by omega)
        rw [show 32 * (k / 32) + k % 32 = k by omega] at e
        rw [show sumTo bs (32 * (k / 32)) + onesIn ((blks bs).getD (k / 32) 0) (k % 32) = sumTo bs k by omega]
        exact q2 k rfl hk H2 _ (.inr ⟨rfl, by rw [blks_len]; exact hj⟩) (R.look.ext i1 s2) (s1.andS s2)
      · walk_at "st"
        rw [show 32 * (k / 32) = k by omega]
        exact q2 k rfl hk H L (.inl rfl) hI ((Same.refl H).toX (R.look.isq hI))

/-- height(tables, look, at) -/
def sp_height (K : PySem.W.Frag) (CL : CLs) : Sp := fun vs H Q E => ∃ (t g : Addr) (at_ : Int) (bs : List Int) (q : Option Addr) (I : List Nat → Hp → Prop) (L : List Nat), vs = [.ref t, .ref g, .int at_] ∧ BrAt K CL H t g bs q I ∧ I L H ∧ L.length < 990 ∧
  ((at_ < 0 ∨ (bs.length : Int) < at_) → ∀ H', Same H H' → E (.ref (He.ga K "NoPlace")) none H') ∧
  (∀ k : Nat, at_ = (k : Int) → k ≤ bs.length → ∀ H' L', (L' = L ∨ L' = L ++ [k / 32] ∧ k / 32 < (blks bs).length) → I L' H' → SameX q H H' → Q (.int (hgt bs k)) H')
theorem len_height (K : PySem.W.Frag) (CL : CLs) : ∀ vs H Q E, sp_height K CL vs H Q E → vs.length = 3 := by
  rintro vs H Q E ⟨t, g, a, _, _, _, _, rfl, _⟩; rfl
def t_height (K : PySem.W.Frag) (CL : CLs) (E : XK) : TS :=
  (tRet (tOp rMinus (tOp rTimes (tC (.int 2)) (tCall (sp_ones_at K CL) [] E (tCons (tSl (rSlT K) (tVar 0) tNoPart (tPart (tC (.int 2)))) (tCons (tVar 1) (tCons (tVar 2) tNil))))) (tVar 2)))
abbrev n_height : List Str := ["tables", "look", "at"]

theorem rd_height (K : PySem.W.Frag) (CL : CLs) (vs : List V) (H : Hp) (Q : VK) (E : XK) (h : sp_height K CL vs H Q E) : t_height K CL E { nx := fun _ H' => Q .non H', rt := Q } (start n_height vs) H := by
  obtain ⟨t, g, at_, bs, q, I, L, rfl, R, hI, hL, q1, q2⟩ := h
  obtain ⟨pa, ph, hT, hA, hP⟩ := R.tab
  unfold t_height
  walk_at "st"
  refine ⟨t, _, rfl, hT, (show ¬ (HT.sIx 3 0 none = 0 ∧ HT.sIx 3 3 (some 2) = 3) by decide), fun t2 ht2 => ?_⟩
  have s2 := same_new (o := .tup [.int (bs.length : Int), .ref pa]) ht2
  have e2 := upd_same (H := H) (a := t2) (o := .tup [.int (bs.length : Int), .ref pa])
  rw [show cutV [V.int (bs.length : Int), V.ref pa, V.ref ph] none (some 2) = [V.int (bs.length : Int), V.ref pa] from rfl]
  generalize upd H t2 (.tup [.int (bs.length : Int), .ref pa]) = H1 at s2 e2 ⊢
  walk_at "st"
  refine ⟨t2, g, at_, bs, q, I, L, rfl, ⟨⟨pa, .of e2, s2.seqT hA⟩, R.look, R.bits, by have := R.len; omega⟩, R.look.ext hI s2, by omega, fun z H' s => q1 z H' (s2.trans s), fun k ek hk H' L' hL' i' X => ?_⟩
  walk_at "st"
  rw [show (2 : Int) * sumTo bs k - at_ = hgt bs k by unfold hgt; omega]
  exact q2 k ek hk H' L' hL' i' ((s2.toX (R.look.isq hI)).trans X)

/-- opening(tables, look, at) -/
def sp_opening (K : PySem.W.Frag) (CL : CLs) : Sp := fun vs H Q E => ∃ (t g : Addr) (x : Int) (bs : List Int) (q : Option Addr) (I : List Nat → Hp → Prop) (L : List Nat), vs = [.ref t, .ref g, .int x] ∧ BrAt K CL H t g bs q I ∧ I L H ∧ L.length < 970 ∧ NdefX.TabN H (tabP K "node_look") nmL ∧
  ((x < 0 ∨ (bs.length : Int) ≤ x) → E (.ref (He.ga K "NoPlace")) none H) ∧
  (∀ a : Nat, x = (a : Int) → a < bs.length → bs.getD a 0 = 1 → ∀ H' L2, L2.length ≤ 1 → (∀ j ∈ L2, j < (blks bs).length) → I (L ++ L2) H' → SameX q H H' → E (.ref (He.ga K "NoNode")) none H') ∧
  (∀ a : Nat, x = (a : Int) → a < bs.length → ∀ (c : Nat) (L2 : List Nat) H', Pair bs c a → L2.length ≤ 4 → (∀ j ∈ L2, j < (blks bs).length) → I (L ++ L2) H' → SameX q H H' → Q (.int (c : Int)) H')
theorem len_opening (K : PySem.W.Frag) (CL : CLs) : ∀ vs H Q E, sp_opening K CL vs H Q E → vs.length = 3 := by
  rintro vs H Q E ⟨t, g, x, _, _, _, _, rfl, _⟩; rfl
def t_opening (K : PySem.W.Frag) (CL : CLs) (E : XK) : TS :=
  (tSeq (tIfS (tTest (tOp rNe (tCall (sp_bit_at K CL) [] E (tCons (tVar 0) (tCons (tVar 1) (tCons (tVar 2) tNil)))) (tC (.int 0))))
  (tRz (fun cls d _ H => E cls d H) (He.ga K "NoNode"))
  tNext)
  (tRet (tCall (sp_low_ahead K CL) [] E (tCons (tVar 0) (tCons (tVar 1) (tCons (tOp rPlus (tVar 2) (tC (.int 1))) (tCons (tCall (sp_height K CL) [] E (tCons (tVar 0) (tCons (tVar 1) (tCons (tOp rPlus (tVar 2) (tC (.int 1))) tNil)))) tNil)))))))
abbrev n_opening : List Str := ["tables", "look", "at"]

theorem rd_opening (K : PySem.W.Frag) (CL : CLs) (vs : List V) (H : Hp) (Q : VK) (E : XK) (h : sp_opening K CL vs H Q E) : t_opening K CL E { nx := fun _ H' => Q .non H', rt := Q } (start n_opening vs) H := by
  obtain ⟨t, g, x, bs, q, I, L, rfl, R, hI, hL, hTb, q1, q2, q3⟩ := h
  obtain ⟨pa, ph, hT, hA, hP⟩ := R.tab
  have hlen := R.len
  have hbl := blks_len bs
  unfold t_opening
  walk_at "st"
  refine ⟨t, g, x, bs.length, _, _, _, q, I, L, rfl, hT, R.look, hI, by omega, q1, fun k ek hk => ?_⟩
  subst ek
  have hj : k / 32 < (blks bs).length := by omega
  refine ⟨hj, fun H1 i1 X1 => ?_⟩
  have eb : bit ((blks bs).getD (k / 32) 0) (k % 32) = bs.getD k 0 := by
    rw [bit_blks R.bits (blks_getD (by omega)) (by omega), show 32 * (k / 32) + k % 32 = k by omega]
  have in1 : ∀ j ∈ [k / 32], j < (blks bs).length := fun j hj2 => by rw [List.mem_singleton.mp hj2]; exact hj
  rw [eb]
  walk_at "st"
  walk_at "if" <;> intro c
  · walk_at "st"
    have hz : bs.getD k 0 = 1 := (getD_bit R.bits k).resolve_left c
    exact q2 k rfl hk hz H1 [k / 32] (by simp) in1 i1 X1
  have h1 : bs.getD k 0 = 0 := c
  have R1 := R.moveX X1
  walk_at "st"
  refine ⟨t, g, (k : Int) + 1, bs, q, I, L ++ [k / 32], rfl, R1, i1, by rw [List.length_append, List.length_singleton]; omega, fun z => by omega, fun k' ek hk' H2 L' hL' i2 X2 => ?_⟩
  obtain rfl : k' = k + 1 := by omega
  have X12 := X1.trans X2
  obtain ⟨L2, e2, l2, in2⟩ : ∃ L2, L' = L ++ L2 ∧ L2.length ≤ 2 ∧ ∀ j ∈ L2, j < (blks bs).length := by
    rcases hL' with rfl | ⟨rfl, hh⟩
    · exact ⟨[k / 32], rfl, by simp, in1⟩
    · exact ⟨[k / 32, (k + 1) / 32], by rw [List.append_assoc]; rfl, by simp, fun j hj2 => by simp only [List.mem_cons, List.not_mem_nil, or_false] at hj2; rcases hj2 with rfl | rfl <;> assumption⟩
  subst e2
  walk_at "st"
  refine ⟨t, g, (k : Int) + 1, hgt bs (k + 1), bs, q, I, L ++ L2, rfl, R.moveX X12, i2, by rw [List.length_append]; omega, X12.tabs _ hTb, fun z => by omega, fun k' ek _ r L3 H3 hr hL3 in3 i3 X3 => ?_⟩
  obtain rfl : k' = k + 1 := by omega
  obtain ⟨c, rfl, hp⟩ := opening_pair R.bits R.tree hk h1 hr
  rw [show PV (some c) = V.int (c : Int) from rfl]
  rw [List.append_assoc] at i3
  exact q3 k rfl hk c (L2 ++ L3) H3 hp (by rw [List.length_append]; omega) (fun j hj2 => by
    rcases List.mem_append.mp hj2 with z | z
    · exact in2 j z
    · exact in3 j z) i3 (X12.trans X3)

/-! a heap in which the list at q and the instance at h have changed -/
structure SameH (q : Option Addr) (h : Addr) (H H' : Hp) : Prop where
  keep : ∀ b o, q ≠ some b → b ≠ h → H b = some o → (∀ ps, o ≠ .tbl ps) → H' b = some o
  gone : ∀ b, H' b = none → H b = none
  tabs : ∀ P, NdefX.TabN H P nmL → NdefX.TabN H' P nmL
  isl : ∀ p, q = some p → ∃ xs, H p = some (.lst xs)
  isl' : ∀ p, q = some p → ∃ xs, H' p = some (.lst xs)
  isi : ∃ C d fs, H h = some (.ins C d fs)
  isi' : ∃ C d fs, H' h = some (.ins C d fs)
theorem SameX.toH {q : Option Addr} {h : Addr} {H H' : Hp} (s : SameX q H H') (i : ∃ C d fs, H h = some (.ins C d fs)) : SameH q h H H' := by
  refine ⟨fun b o n _ e z => s.keep b o n e z, s.gone, s.tabs, s.isl, s.isl', i, ?_⟩
  obtain ⟨C, d, fs, e⟩ := i
  exact ⟨C, d, fs, s.get (s.ne e fun _ z => nomatch z) e⟩
theorem SameH.trans {q : Option Addr} {h : Addr} {H H1 H2 : Hp} (a : SameH q h H H1) (b : SameH q h H1 H2) : SameH q h H H2 :=
  ⟨fun c o n m e z => b.keep c o n m (a.keep c o n m e z) z, fun c e => a.gone c (b.gone c e), fun P t => b.tabs P (a.tabs P t), a.isl, b.isl', a.isi, b.isi'⟩
theorem SameH.andX {q : Option Addr} {h : Addr} {H H1 H2 : Hp} (a : SameH q h H H1) (b : SameX q H1 H2) : SameH q h H H2 := a.trans (b.toH a.isi')
theorem SameH.andS {q : Option Addr} {h : Addr} {H H1 H2 : Hp} (a : SameH q h H H1) (b : Same H1 H2) : SameH q h H H2 := a.andX (b.toX a.isl')
theorem SameH.get {q : Option Addr} {h b : Addr} {H H' : Hp} {o : HO} [NT o] (s : SameH q h H H') (n : q ≠ some b) (m : b ≠ h) (e : H b = some o) : H' b = some o := s.keep b o n m e NT.ne
theorem SameH.tup {q : Option Addr} {h b : Addr} {H H' : Hp} {xs : List V} (s : SameH q h H H') (e : H b = some (.tup xs)) : H' b = some (.tup xs) := by
  refine s.get (fun z => ?_) (fun z => ?_) e
  · obtain ⟨ys, q'⟩ := s.isl b z
    rw [q'] at e; cases e
  · obtain ⟨C, d, fs, q'⟩ := s.isi
    rw [← z, e] at q'; cases q'
theorem SameH.frz {q : Option Addr} {h b : Addr} {H H' : Hp} {o : Obj} {u : HO} (s : SameH q h H H') (e : H b = some (.frz o u)) : H' b = some (.frz o u) := by
  refine s.get (fun z => ?_) (fun z => ?_) e
  · obtain ⟨ys, q'⟩ := s.isl b z
    rw [q'] at e; cases e
  · obtain ⟨C, d, fs, q'⟩ := s.isi
    rw [← z, e] at q'; cases q'
theorem SameH.seqT {K : PySem.W.Frag} {q : Option Addr} {h a : Addr} {H H' : Hp} {xs : List V} (s : SameH q h H H') (e : SqT K H a xs) : SqT K H' a xs := by
  rcases e with (e | ⟨o, e⟩) | e
  · exact .inl (.inl (s.tup e))
  · exact .inl (.inr ⟨o, s.frz e⟩)
  · exact .inr e
theorem SameH.put {q : Option Addr} {h C d : Addr} {H : Hp} {fs fs' : List (Str × V)} (e : H h = some (.ins C d fs)) (hq : ∀ p, q = some p → ∃ xs, H p = some (.lst xs)) : SameH q h H (upd H h (.ins C d fs')) := by
  refine ⟨fun b o _ m eb _ => (upd_ne m).trans eb, fun b z => NdefX.upd_none z, fun P t => ?_, hq, fun p z => ?_, ⟨_, _, _, e⟩, ⟨_, _, _, upd_same⟩⟩
  · obtain ⟨ps, h1, ht, hc⟩ := t
    have np : ∀ {b : Addr} {u : HO}, H b = some u → (∀ gs, u ≠ .ins C d gs) → b ≠ h := fun {b u} w n z => by
      subst z; rw [e] at w; cases w; exact n _ rfl
    refine ⟨ps, (upd_ne (np h1 fun _ z => nomatch z)).trans h1, ht, fun pos cv w => ?_⟩
    obtain ⟨c, e1, e2⟩ := hc pos cv w
    exact ⟨c, e1, (upd_ne (np e2 fun _ z => by unfold LamX.CodeO at z; cases z)).trans e2⟩
  · obtain ⟨xs, w⟩ := hq p z
    exact ⟨xs, (upd_ne fun y => by rw [y, e] at w; cases w).trans w⟩
/-- the list that changes is new, and so is the instance -/
theorem SameH.fresh {H H1 H' : Hp} {ps h : Addr} (s : Same H H1) (n : H ps = none) (m : H h = none) (x : SameH (some ps) h H1 H') : Same H H' :=
  ⟨fun b o e z => x.keep b o (fun y => by cases y; rw [n] at e; cases e) (fun y => by subst y; rw [m] at e; cases e) (s.keep b o e z) z, fun b e => s.gone b (x.gone b e), fun P t => x.tabs P (s.tabs P t)⟩
theorem SameH.fresh0 {H H1 H' : Hp} {h : Addr} (s : Same H H1) (m : H h = none) (x : SameH Option.none h H1 H') : Same H H' :=
  ⟨fun b o e z => x.keep b o (fun y => nomatch y) (fun y => by subst y; rw [m] at e; cases e) (s.keep b o e z) z, fun b e => s.gone b (x.gone b e), fun P t => x.tabs P (s.tabs P t)⟩

/-- m is the node of the bracket at s -/
def NodeAt (ds : List Int) (s m : Nat) : Prop := ((brk ds).getD s 0 = 1 ∧ PlaceOf ds m s) ∨ ((brk ds).getD s 0 = 0 ∧ ∃ a, Pair (brk ds) a s ∧ PlaceOf ds m a)
theorem NodeAt.u {ds : List Int} {s m m' : Nat} (a : NodeAt ds s m) (b : NodeAt ds s m') : m = m' := by
  rcases a with ⟨h1, p⟩ | ⟨h0, c, h2, p⟩
  · rcases b with ⟨_, p'⟩ | ⟨h0, _⟩
    · have e1 := p.sum
      have e2 := p'.sum
      omega
    · omega
  · rcases b with ⟨h1, _⟩ | ⟨_, c', h2', p'⟩
    · omega
    · obtain rfl := h2.ua h2'
      have e1 := p.sum
      have e2 := p'.sum
      omega
theorem NodeAt.lt {ds : List Int} (h : Deep ds) {s m : Nat} (a : NodeAt ds s m) : m < ds.length := by
  rcases a with ⟨_, p⟩ | ⟨_, _, _, p⟩
  · exact p.nlt h
  · exact p.nlt h

theorem hand_ones {K : PySem.W.Frag} {CL : CLs} {H : Hp} {Q : VK} {E : XK} {t g t2 pa : Addr} {a m : Nat} {ds : List Int} {q : Option Addr} {I : List Nat → Hp → Prop} {L : List Nat} (T : TrAt K CL H t g ds q I) (hT : SqT K H t2 [.int ((brk ds).length : Int), .ref pa]) (hA : SqT K H pa ((aheadT (brk ds)).map V.int)) (hI : I L H) (hL : L.length < 8000) (P : PlaceOf ds m a)
    (q1 : ∀ H' L2, L2.length ≤ 1 → (∀ j ∈ L2, j < (blks (brk ds)).length) → I (L ++ L2) H' → SameX q H H' → Q (.int (m : Int)) H') : sp_ones_at K CL [.ref t2, .ref g, .int (a : Int)] H Q E := by
  have hlt := P.lt
  refine ⟨t2, g, _, brk ds, q, I, L, rfl, ⟨⟨pa, hT, hA⟩, T.2.2.look, T.2.2.bits, by have := T.2.2.len; omega⟩, hI, by omega, fun z => by omega, fun k ek hk H' L' hL' i' X => ?_⟩
  obtain rfl : a = k := by omega
  rw [P.sum]
  rcases hL' with rfl | ⟨rfl, z⟩
  · exact q1 H' [] (by decide) (fun j hj => by cases hj) (by rw [List.append_nil]; exact i') X
  · exact q1 H' [a / 32] (by simp) (in_one z) i' X

/-! a hand at a place of a tree's brackets -/
/-- a hand's fields -/
abbrev handF (t g : Addr) (s : Nat) : List (Str × V) := [("tables", .ref t), ("look", .ref g), ("spot", .int (s : Int))]
theorem lk_tables (t g : Addr) (s : Nat) : (handF t g s).lookup ("tables" : Str) = some (V.ref t) := by kernel_rfl
theorem lk_look (t g : Addr) (s : Nat) : (handF t g s).lookup ("look" : Str) = some (V.ref g) := by kernel_rfl
theorem lk_spot (t g : Addr) (s : Nat) : (handF t g s).lookup ("spot" : Str) = some (V.int (s : Int)) := by kernel_rfl
theorem put_spot (t g : Addr) (s s' : Nat) : putF "spot" (.int (s' : Int)) (handF t g s) = handF t g s' := by kernel_rfl
/-- what is asked for may be written down while a hand moves -/
def MutI (I : List Nat → Hp → Prop) (h : Addr) : Prop := ∀ L H C d fs fs', I L H → H h = some (.ins C d fs) → I L (upd H h (.ins C d fs'))
structure HandAt (K : PySem.W.Frag) (CL : CLs) (H : Hp) (h t g : Addr) (s : Nat) (ds : List Int) (q : Option Addr) (I : List Nat → Hp → Prop) : Prop where
  obj : ∃ dx, H h = some (.ins (He.ga K "Hand") dx (handF t g s))
  tree : TrAt K CL H t g ds q I
  lt : s < (brk ds).length
  mu : MutI I h
section
variable {K : PySem.W.Frag} {CL : CLs} {H H' : Hp} {h t g : Addr} {s s' : Nat} {ds : List Int} {q : Option Addr} {I : List Nat → Hp → Prop} {dx : Addr}
theorem HandAt.isi (a : HandAt K CL H h t g s ds q I) : ∃ C d fs, H h = some (.ins C d fs) := let ⟨_, e⟩ := a.obj; ⟨_, _, _, e⟩
theorem HandAt.moveX (a : HandAt K CL H h t g s ds q I) (x : SameX q H H') : HandAt K CL H' h t g s ds q I :=
  ⟨let ⟨dx, e⟩ := a.obj; ⟨dx, x.get (x.ne e fun _ z => nomatch z) e⟩, a.tree.moveX x, a.lt, a.mu⟩
theorem HandAt.move (a : HandAt K CL H h t g s ds q I) (x : Same H H') : HandAt K CL H' h t g s ds q I :=
  ⟨let ⟨dx, e⟩ := a.obj; ⟨dx, x.get e⟩, a.tree.move x, a.lt, a.mu⟩
theorem TrAt.moveH (a : TrAt K CL H t g ds q I) (x : SameH q h H H') : TrAt K CL H' t g ds q I :=
  ⟨a.1, a.2.1, ⟨let ⟨pa, ph, h1, h2, h3⟩ := a.2.2.tab; ⟨pa, ph, x.seqT h1, x.seqT h2, x.seqT h3⟩, a.2.2.look, a.2.2.bits, a.2.2.tree, a.2.2.len⟩⟩
/-- the hand goes to the place s' -/
theorem HandAt.go (a : HandAt K CL H h t g s ds q I) (e : H h = some (.ins (He.ga K "Hand") dx (handF t g s))) (hq : ∀ p, q = some p → ∃ xs, H p = some (.lst xs)) (hs : s' < (brk ds).length) :
    HandAt K CL (upd H h (.ins (He.ga K "Hand") dx (handF t g s'))) h t g s' ds q I ∧ SameH q h H (upd H h (.ins (He.ga K "Hand") dx (handF t g s'))) := by
  have x := SameH.put (q := q) (fs' := handF t g s') e hq
  exact ⟨⟨⟨dx, upd_same⟩, a.tree.moveH x, hs, a.mu⟩, x⟩
end
/-- Hand.is_opening(self) -/
def sp_Hand_is_opening (K : PySem.W.Frag) (CL : CLs) : Sp := fun vs H Q _ => ∃ (h t g : Addr) (s : Nat) (ds : List Int) (q : Option Addr) (I : List Nat → Hp → Prop) (L : List Nat), vs = [.ref h] ∧ HandAt K CL H h t g s ds q I ∧ I L H ∧ L.length < 980 ∧
  ∀ H' L2, L2.length ≤ 1 → (∀ j ∈ L2, j < (blks (brk ds)).length) → I (L ++ L2) H' → SameX q H H' → Q (.bl (decide ((brk ds).getD s 0 = 1))) H'
theorem len_Hand_is_opening (K : PySem.W.Frag) (CL : CLs) : ∀ vs H Q E, sp_Hand_is_opening K CL vs H Q E → vs.length = 1 := by
  rintro vs H Q E ⟨h, _, _, _, _, _, _, _, rfl, _⟩; rfl
def t_Hand_is_opening (K : PySem.W.Frag) (CL : CLs) (E : XK) : TS :=
  (tRet (tOp rEq (tCall (sp_bit_at K CL) [] E (tCons (tSl (rSlT K) (tFldC K "Hand" (tVar 0) "tables") tNoPart (tPart (tC (.int 2)))) (tCons (tFldC K "Hand" (tVar 0) "look") (tCons (tFldC K "Hand" (tVar 0) "spot") tNil)))) (tC (.int 1))))
abbrev n_Hand_is_opening : List Str := ["self"]

theorem rd_Hand_is_opening (K : PySem.W.Frag) (CL : CLs) (vs : List V) (H : Hp) (Q : VK) (E : XK) (hh : sp_Hand_is_opening K CL vs H Q E) : t_Hand_is_opening K CL E { nx := fun _ H' => Q .non H', rt := Q } (start n_Hand_is_opening vs) H := by
  obtain ⟨h, t, g, s, ds, q, I, L, rfl, A, hI, hL, q1⟩ := hh
  obtain ⟨dx, eh⟩ := A.obj
  obtain ⟨pa, ph, hT, hA, hP⟩ := A.tree.2.2.tab
  unfold t_Hand_is_opening
  walk_at "st"
  refine m_fldE eh (lk_tables t g s) ?_
  walk_at "st"
  refine k_sl2 hT fun t2 H1 s1 e1 => ?_
  walk_at "st"
  refine m_fldE (s1.get eh) (lk_look t g s) ?_
  walk_at "st"
  refine m_fldE (s1.get eh) (lk_spot t g s) ?_
  walk_at "st"
  refine call_bit2 (t := t) (k := s) (L := L) rfl (.of e1) (A.tree.move s1).2.2 (A.tree.2.2.look.ext hI s1) (by omega) A.lt fun H2 i2 X2 hj => ?_
  walk_at "st"
  exact q1 H2 [s / 32] (by simp) (in_one hj) i2 ((s1.toX (A.tree.2.2.look.isq hI)).trans X2)
/-- Hand.node(self) -/
def sp_Hand_node (K : PySem.W.Frag) (CL : CLs) : Sp := fun vs H Q _ => ∃ (h t g : Addr) (s : Nat) (ds : List Int) (q : Option Addr) (I : List Nat → Hp → Prop) (L : List Nat), vs = [.ref h] ∧ HandAt K CL H h t g s ds q I ∧ I L H ∧ L.length < 950 ∧ NdefX.TabN H (tabP K "node_look") nmL ∧
  ∀ m H' L2, NodeAt ds s m → L2.length ≤ 6 → (∀ j ∈ L2, j < (blks (brk ds)).length) → I (L ++ L2) H' → SameX q H H' → Q (.int (m : Int)) H'
theorem len_Hand_node (K : PySem.W.Frag) (CL : CLs) : ∀ vs H Q E, sp_Hand_node K CL vs H Q E → vs.length = 1 := by
  rintro vs H Q E ⟨h, _, _, _, _, _, _, _, rfl, _⟩; rfl
def t_Hand_node (K : PySem.W.Frag) (CL : CLs) (E : XK) : TS :=
  (tSeq (tAsg (tFldC K "Hand" (tVar 0) "spot") (gName 1))
  (Evl.tCut (tIfS (tNot (tB (tMethC K "Hand" "is_opening" (sp_Hand_is_opening K CL) E (tVar 0) tNil)))
  (tAsg (tCall (sp_opening K CL) [] E (tCons (tFldC K "Hand" (tVar 0) "tables") (tCons (tFldC K "Hand" (tVar 0) "look") (tCons (tVar 1) tNil)))) (gName 1))
  tNext)
  (tRet (tCall (sp_ones_at K CL) [] E (tCons (tSl (rSlT K) (tFldC K "Hand" (tVar 0) "tables") tNoPart (tPart (tC (.int 2)))) (tCons (tFldC K "Hand" (tVar 0) "look") (tCons (tVar 1) tNil)))))))
abbrev n_Hand_node : List Str := ["self", "spot"]

theorem rd_Hand_node (K : PySem.W.Frag) (CL : CLs) (vs : List V) (H : Hp) (Q : VK) (E : XK) (hh : sp_Hand_node K CL vs H Q E) : t_Hand_node K CL E { nx := fun _ H' => Q .non H', rt := Q } (start n_Hand_node vs) H := by
  obtain ⟨h, t, g, s, ds, q, I, L, rfl, A, hI, hL, hTb, q1⟩ := hh
  obtain ⟨dx, eh⟩ := A.obj
  have hD := A.tree.1
  unfold t_Hand_node
  walk_at "st"
  refine m_fldE eh (lk_spot t g s) ?_
  walk_at "st"
  refine m_cut (fun σ' H' => ∃ (a m : Nat) (L2 : List Nat), σ' = [some (.ref h), some (.int (a : Int))] ∧ NodeAt ds s m ∧ PlaceOf ds m a ∧ L2.length ≤ 5 ∧ (∀ j ∈ L2, j < (blks (brk ds)).length) ∧ I (L ++ L2) H' ∧ SameX q H H') ?_ ?_
  · walk_at "st"
    refine m_methE eh (by kernel_rfl) ?_
    walk_at "st"
    refine ⟨h, t, g, s, ds, q, I, L, rfl, A, hI, by omega, fun H1 L2 h1 hin i1 X1 => ?_⟩
    walk_at "st"
    by_cases c : (brk ds).getD s 0 = 1
    · rw [decide_eq_true c]
      walk_at "st"
      obtain ⟨m, hm, P⟩ := placeAt hD c
      exact ⟨s, m, L2, rfl, .inl ⟨c, P⟩, P, by omega, hin, i1, X1⟩
    · rw [decide_eq_false c]
      walk_at "st"
      have A1 := A.moveX X1
      obtain ⟨dx1, eh1⟩ := A1.obj
      refine m_fldE eh1 (lk_tables t g s) ?_
      walk_at "st"
      refine m_fldE eh1 (lk_look t g s) ?_
      walk_at "st"
      have c0 : (brk ds).getD s 0 = 0 := (getD_bit (brk_tree hD).2 s).resolve_right c
      refine ⟨t, g, _, brk ds, q, I, L ++ L2, rfl, A1.tree.2.2, i1, by rw [List.length_append]; omega, X1.tabs _ hTb, fun z => by have := A.lt; omega, fun a ea _ z => absurd z (by rw [show a = s by omega]; omega), fun a ea ha b L3 H2 hp h4 hin3 i2 X2 => ?_⟩
      obtain rfl : s = a := by omega
      walk_at "st"
      obtain ⟨m, hm, P⟩ := placeAt hD hp.up
      rw [List.append_assoc] at i2
      exact ⟨b, m, L2 ++ L3, rfl, .inr ⟨c0, b, hp, P⟩, P, by rw [List.length_append]; omega, in_app hin hin3, i2, X1.trans X2⟩
  · rintro σ' H1 ⟨a, m, L2, rfl, hN, P, h5, hin, i1, X1⟩
    have A1 := A.moveX X1
    obtain ⟨dx1, eh1⟩ := A1.obj
    obtain ⟨pa, ph, hT, hA, hP⟩ := A1.tree.2.2.tab
    walk_at "st"
    refine m_fldE eh1 (lk_tables t g s) ?_
    walk_at "st"
    refine k_sl2 hT fun t2 H2 s2 e2 => ?_
    walk_at "st"
    refine m_fldE (s2.get eh1) (lk_look t g s) ?_
    walk_at "st"
    refine hand_ones (L := L ++ L2) (A1.tree.move s2) (.of e2) (s2.seqT hA) (A.tree.2.2.look.ext i1 s2) (by rw [List.length_append]; omega) P fun H3 L3 h1 hin3 i3 X3 => ?_
    rw [List.append_assoc] at i3
    exact q1 m H3 (L2 ++ L3) hN (by rw [List.length_append]; omega) (in_app hin hin3) i3 ((X1.andS s2).trans X3)

/-- Hand.stand(self) -/
def sp_Hand_stand (K : PySem.W.Frag) (CL : CLs) : Sp := fun vs H Q _ => ∃ (h t g : Addr) (s : Nat) (ds : List Int) (q : Option Addr) (I : List Nat → Hp → Prop) (L : List Nat), vs = [.ref h] ∧ HandAt K CL H h t g s ds q I ∧ I L H ∧ L.length < 940 ∧ NdefX.TabN H (tabP K "node_look") nmL ∧
  ∀ m p H' L2, NodeAt ds s m → L2.length ≤ 7 → (∀ j ∈ L2, j < (blks (brk ds)).length) → I (L ++ L2) H' → SameX q H H' → H p = none → H' p = some (.tup [.int (m : Int), .bl (decide ((brk ds).getD s 0 = 1))]) → Q (.ref p) H'
theorem len_Hand_stand (K : PySem.W.Frag) (CL : CLs) : ∀ vs H Q E, sp_Hand_stand K CL vs H Q E → vs.length = 1 := by
  rintro vs H Q E ⟨h, _, _, _, _, _, _, _, rfl, _⟩; rfl
def t_Hand_stand (K : PySem.W.Frag) (CL : CLs) (E : XK) : TS :=
  (tRet (tTup (tCons (tMethC K "Hand" "node" (sp_Hand_node K CL) E (tVar 0) tNil) (tCons (tMethC K "Hand" "is_opening" (sp_Hand_is_opening K CL) E (tVar 0) tNil) tNil))))
abbrev n_Hand_stand : List Str := ["self"]

theorem rd_Hand_stand (K : PySem.W.Frag) (CL : CLs) (vs : List V) (H : Hp) (Q : VK) (E : XK) (hh : sp_Hand_stand K CL vs H Q E) : t_Hand_stand K CL E { nx := fun _ H' => Q .non H', rt := Q } (start n_Hand_stand vs) H := by
  obtain ⟨h, t, g, s, ds, q, I, L, rfl, A, hI, hL, hTb, q1⟩ := hh
  obtain ⟨dx, eh⟩ := A.obj
  unfold t_Hand_stand
  walk_at "st"
  refine m_methE eh (by kernel_rfl) ?_
  walk_at "st"
  refine ⟨h, t, g, s, ds, q, I, L, rfl, A, hI, by omega, hTb, fun m H1 L2 hN h6 hin i1 X1 => ?_⟩
  have A1 := A.moveX X1
  obtain ⟨dx1, eh1⟩ := A1.obj
  walk_at "st"
  refine m_methE eh1 (by kernel_rfl) ?_
  walk_at "st"
  refine ⟨h, t, g, s, ds, q, I, L ++ L2, rfl, A1, i1, by rw [List.length_append]; omega, fun H2 L3 h1 hin3 i2 X2 => ?_⟩
  walk_at "st"
  intro p hp
  have X12 := X1.trans X2
  have sp := same_new (o := .tup [.int (m : Int), .bl (decide ((brk ds).getD s 0 = 1))]) hp
  rw [List.append_assoc] at i2
  exact q1 m p _ (L2 ++ L3) hN (by rw [List.length_append]; omega) (in_app hin hin3) (A.tree.2.2.look.ext i2 sp) (X12.andS sp) (X12.gone _ hp) upd_same

/-- closing(tables, look, at) -/
def sp_closing (K : PySem.W.Frag) (CL : CLs) : Sp := fun vs H Q E => ∃ (t g : Addr) (x : Int) (bs : List Int) (q : Option Addr) (I : List Nat → Hp → Prop) (L : List Nat), vs = [.ref t, .ref g, .int x] ∧ BrAt K CL H t g bs q I ∧ I L H ∧ L.length < 970 ∧ NdefX.TabN H (tabP K "node_look") nmL ∧
  ((x < 0 ∨ (bs.length : Int) ≤ x) → E (.ref (He.ga K "NoPlace")) none H) ∧
  (∀ a : Nat, x = (a : Int) → a < bs.length → bs.getD a 0 = 0 → ∀ H' L2, L2.length ≤ 1 → (∀ j ∈ L2, j < (blks bs).length) → I (L ++ L2) H' → SameX q H H' → E (.ref (He.ga K "NoNode")) none H') ∧
  (∀ a : Nat, x = (a : Int) → a < bs.length → ∀ (c : Nat) (L2 : List Nat) H', Pair bs a c → L2.length ≤ 4 → (∀ j ∈ L2, j < (blks bs).length) → I (L ++ L2) H' → SameX q H H' → Q (.int (c : Int)) H')
theorem len_closing (K : PySem.W.Frag) (CL : CLs) : ∀ vs H Q E, sp_closing K CL vs H Q E → vs.length = 3 := by
  rintro vs H Q E ⟨t, g, x, _, _, _, _, rfl, _⟩; rfl
def t_closing (K : PySem.W.Frag) (CL : CLs) (E : XK) : TS :=
  (tSeq (tIfS (tTest (tOp rNe (tCall (sp_bit_at K CL) [] E (tCons (tVar 0) (tCons (tVar 1) (tCons (tVar 2) tNil)))) (tC (.int 1))))
  (tRz (fun cls d _ H => E cls d H) (He.ga K "NoNode"))
  tNext)
  (tRet (tOp rMinus (tCall (sp_low_behind K CL) [] E (tCons (tVar 0) (tCons (tVar 1) (tCons (tVar 2) (tCons (tCall (sp_height K CL) [] E (tCons (tVar 0) (tCons (tVar 1) (tCons (tVar 2) tNil)))) tNil))))) (tC (.int 1)))))
abbrev n_closing : List Str := ["tables", "look", "at"]

theorem rd_closing (K : PySem.W.Frag) (CL : CLs) (vs : List V) (H : Hp) (Q : VK) (E : XK) (h : sp_closing K CL vs H Q E) : t_closing K CL E { nx := fun _ H' => Q .non H', rt := Q } (start n_closing vs) H := by
  obtain ⟨t, g, x, bs, q, I, L, rfl, R, hI, hL, hTb, q1, q2, q3⟩ := h
  obtain ⟨pa, ph, hT, hA, hP⟩ := R.tab
  have hlen := R.len
  have hbl := blks_len bs
  unfold t_closing
  walk_at "st"
  refine ⟨t, g, x, bs.length, _, _, _, q, I, L, rfl, hT, R.look, hI, by omega, q1, fun k ek hk => ?_⟩
  subst ek
  have hj : k / 32 < (blks bs).length := by omega
  refine ⟨hj, fun H1 i1 X1 => ?_⟩
  have eb : bit ((blks bs).getD (k / 32) 0) (k % 32) = bs.getD k 0 := by
    rw [bit_blks R.bits (blks_getD (by omega)) (by omega), show 32 * (k / 32) + k % 32 = k by omega]
  have in1 : ∀ j ∈ [k / 32], j < (blks bs).length := fun j hj2 => by rw [List.mem_singleton.mp hj2]; exact hj
  rw [eb]
  walk_at "st"
  walk_at "if" <;> intro c
  · walk_at "st"
    have hz : bs.getD k 0 = 0 := (getD_bit R.bits k).resolve_right c
    exact q2 k rfl hk hz H1 [k / 32] (by simp) in1 i1 X1
  have h1 : bs.getD k 0 = 1 := c
  have R1 := R.moveX X1
  walk_at "st"
  refine ⟨t, g, (k : Int), bs, q, I, L ++ [k / 32], rfl, R1, i1, by rw [List.length_append, List.length_singleton]; omega, fun z => by omega, fun k' ek hk' H2 L' hL' i2 X2 => ?_⟩
  obtain rfl : k = k' := by omega
  have X12 := X1.trans X2
  obtain ⟨L2, e2, l2, in2⟩ : ∃ L2, L' = L ++ L2 ∧ L2.length ≤ 2 ∧ ∀ j ∈ L2, j < (blks bs).length := by
    rcases hL' with rfl | ⟨rfl, hh⟩
    · exact ⟨[k / 32], rfl, by simp, in1⟩
    · exact ⟨[k / 32, k / 32], by rw [List.append_assoc]; rfl, by simp, fun j hj2 => by simp only [List.mem_cons, List.not_mem_nil, or_false] at hj2; rcases hj2 with rfl | rfl <;> exact hj⟩
  subst e2
  walk_at "st"
  refine ⟨t, g, (k : Int), hgt bs k, bs, q, I, L ++ L2, rfl, R.moveX X12, i2, by rw [List.length_append]; omega, X12.tabs _ hTb, fun z => by omega, fun k' ek _ r L3 H3 hr hL3 in3 i3 X3 => ?_⟩
  obtain rfl : k = k' := by omega
  obtain ⟨c, rfl, hp⟩ := closing_pair R.bits R.tree hk h1 hr
  rw [show PV (some (c + 1)) = V.int ((c + 1 : Nat) : Int) from rfl]
  walk_at "st"
  rw [show ((c + 1 : Nat) : Int) - 1 = (c : Int) by omega]
  rw [List.append_assoc] at i3
  exact q3 k rfl hk c (L2 ++ L3) H3 hp (by rw [List.length_append]; omega) (fun j hj2 => by
    rcases List.mem_append.mp hj2 with z | z
    · exact in2 j z
    · exact in3 j z) i3 (X12.trans X3)

theorem pair_node {ds : List Int} {a c m : Nat} (p : Pair (brk ds) a c) : NodeAt ds c m ↔ PlaceOf ds m a := by
  constructor
  · rintro (⟨h1, _⟩ | ⟨_, a', p', P⟩)
    · have := p.dn; omega
    · rw [p.ua p']; exact P
  · exact fun P => .inr ⟨p.dn, a, p, P⟩
/-- the bracket at s' is the other one of the pair -/
def OtherB (ds : List Int) (s s' : Nat) : Prop := Pair (brk ds) s s' ∨ Pair (brk ds) s' s
theorem OtherB.node {ds : List Int} {s s' m : Nat} (o : OtherB ds s s') (h : NodeAt ds s' m) : NodeAt ds s m := by
  rcases o with p | p
  · exact .inl ⟨p.up, (pair_node p).mp h⟩
  · rcases h with ⟨_, P⟩ | ⟨h0, _⟩
    · exact (pair_node p).mpr P
    · have := p.up; omega
theorem OtherB.dec {ds : List Int} {s s' : Nat} (o : OtherB ds s s') : decide ((brk ds).getD s' 0 = 1) = !decide ((brk ds).getD s 0 = 1) := by
  rcases o with p | p
  · rw [p.up, p.dn]; rfl
  · rw [p.up, p.dn]; rfl
/-- Hand.turn(self) -/
def sp_Hand_turn (K : PySem.W.Frag) (CL : CLs) : Sp := fun vs H Q _ => ∃ (h t g : Addr) (s : Nat) (ds : List Int) (q : Option Addr) (I : List Nat → Hp → Prop) (L : List Nat), vs = [.ref h] ∧ HandAt K CL H h t g s ds q I ∧ I L H ∧ L.length < 930 ∧ NdefX.TabN H (tabP K "node_look") nmL ∧
  ∀ m s' p H' L2, OtherB ds s s' → NodeAt ds s' m → L2.length ≤ 12 → (∀ j ∈ L2, j < (blks (brk ds)).length) → I (L ++ L2) H' → SameH q h H H' → HandAt K CL H' h t g s' ds q I → H p = none → H' p = some (.tup [.int (m : Int), .bl (decide ((brk ds).getD s' 0 = 1))]) → Q (.ref p) H'
theorem len_Hand_turn (K : PySem.W.Frag) (CL : CLs) : ∀ vs H Q E, sp_Hand_turn K CL vs H Q E → vs.length = 1 := by
  rintro vs H Q E ⟨h, _, _, _, _, _, _, _, rfl, _⟩; rfl
def t_Hand_turn (K : PySem.W.Frag) (CL : CLs) (E : XK) : TS :=
  (Evl.tCut (tIfS (tB (tMethC K "Hand" "is_opening" (sp_Hand_is_opening K CL) E (tVar 0) tNil))
  (sFldC K "Hand" (tVar 0) (tCall (sp_closing K CL) [] E (tCons (tFldC K "Hand" (tVar 0) "tables") (tCons (tFldC K "Hand" (tVar 0) "look") (tCons (tFldC K "Hand" (tVar 0) "spot") tNil)))) "spot")
  (sFldC K "Hand" (tVar 0) (tCall (sp_opening K CL) [] E (tCons (tFldC K "Hand" (tVar 0) "tables") (tCons (tFldC K "Hand" (tVar 0) "look") (tCons (tFldC K "Hand" (tVar 0) "spot") tNil)))) "spot"))
  (tRet (tMethC K "Hand" "stand" (sp_Hand_stand K CL) E (tVar 0) tNil)))
abbrev n_Hand_turn : List Str := ["self"]

theorem rd_Hand_turn (K : PySem.W.Frag) (CL : CLs) (vs : List V) (H : Hp) (Q : VK) (E : XK) (hh : sp_Hand_turn K CL vs H Q E) : t_Hand_turn K CL E { nx := fun _ H' => Q .non H', rt := Q } (start n_Hand_turn vs) H := by
  obtain ⟨h, t, g, s, ds, q, I, L, rfl, A, hI, hL, hTb, q1⟩ := hh
  obtain ⟨dx, eh⟩ := A.obj
  have hlt := A.lt
  have hD := A.tree.1
  unfold t_Hand_turn
  refine m_cut (fun σ' H' => ∃ (s' : Nat) (L2 : List Nat), σ' = [some (.ref h)] ∧ OtherB ds s s' ∧ L2.length ≤ 5 ∧ (∀ j ∈ L2, j < (blks (brk ds)).length) ∧ I (L ++ L2) H' ∧ SameH q h H H' ∧ HandAt K CL H' h t g s' ds q I) ?_ ?_
  · walk_at "st"
    refine m_methE eh (by kernel_rfl) ?_
    walk_at "st"
    refine ⟨h, t, g, s, ds, q, I, L, rfl, A, hI, by omega, fun H1 L2 h1 hin i1 X1 => ?_⟩
    have A1 := A.moveX X1
    obtain ⟨dx1, eh1⟩ := A1.obj
    have go : ∀ (s' : Nat) (L3 : List Nat) (H2 : Hp), OtherB ds s s' → s' < (brk ds).length → L3.length ≤ 4 → (∀ j ∈ L3, j < (blks (brk ds)).length) → I (L ++ L2 ++ L3) H2 → SameX q H1 H2 →
        PutK K "Hand" "spot" (fun H' => ∃ (s' : Nat) (L2 : List Nat), [some (V.ref h)] = [some (.ref h)] ∧ OtherB ds s s' ∧ L2.length ≤ 5 ∧ (∀ j ∈ L2, j < (blks (brk ds)).length) ∧ I (L ++ L2) H' ∧ SameH q h H H' ∧ HandAt K CL H' h t g s' ds q I) (.int (s' : Int)) (.ref h) H2 := fun s' L3 H2 o hs h4 hin3 i2 X2 => by
      have A2 := A1.moveX X2
      obtain ⟨dx2, eh2⟩ := A2.obj
      refine m_putE eh2 (by show 3 < 1000; decide) ?_
      rw [put_spot]
      obtain ⟨A3, X3⟩ := A2.go eh2 (A.tree.2.2.look.isq i2) hs
      rw [List.append_assoc] at i2
      exact ⟨s', L2 ++ L3, rfl, o, by rw [List.length_append]; omega, in_app hin hin3, A.mu _ _ _ _ _ _ i2 eh2, ((X1.trans X2).toH A.isi).trans X3, A3⟩
    walk_at "st"
    walk_at "if" <;> intro c
    · walk_at "st"
      refine m_fldE eh1 (lk_tables t g s) ?_
      walk_at "st"
      refine m_fldE eh1 (lk_look t g s) ?_
      walk_at "st"
      refine m_fldE eh1 (lk_spot t g s) ?_
      walk_at "st"
      refine ⟨t, g, _, brk ds, q, I, L ++ L2, rfl, A1.tree.2.2, i1, by rw [List.length_append]; omega, X1.tabs _ hTb, fun z => by omega, fun a ea _ z => absurd z (by rw [show a = s by omega]; omega), fun a ea ha b L3 H2 hp h4 hin3 i2 X2 => ?_⟩
      obtain rfl : s = a := by omega
      walk_at "st"
      exact go b L3 H2 (.inl hp) hp.cn h4 hin3 i2 X2
    · walk_at "st"
      refine m_fldE eh1 (lk_tables t g s) ?_
      walk_at "st"
      refine m_fldE eh1 (lk_look t g s) ?_
      walk_at "st"
      refine m_fldE eh1 (lk_spot t g s) ?_
      walk_at "st"
      have c0 : (brk ds).getD s 0 = 0 := (getD_bit (brk_tree hD).2 s).resolve_right c
      refine ⟨t, g, _, brk ds, q, I, L ++ L2, rfl, A1.tree.2.2, i1, by rw [List.length_append]; omega, X1.tabs _ hTb, fun z => by omega, fun a ea _ z => absurd z (by rw [show a = s by omega]; omega), fun a ea ha b L3 H2 hp h4 hin3 i2 X2 => ?_⟩
      obtain rfl : s = a := by omega
      walk_at "st"
      exact go b L3 H2 (.inr hp) (by have := hp.lt; omega) h4 hin3 i2 X2
  · rintro σ' H1 ⟨s', L2, rfl, o, h5, hin, i1, Y1, A1⟩
    obtain ⟨dx1, eh1⟩ := A1.obj
    walk_at "st"
    refine m_methE eh1 (by kernel_rfl) ?_
    walk_at "st"
    refine ⟨h, t, g, s', ds, q, I, L ++ L2, rfl, A1, i1, by rw [List.length_append]; omega, Y1.tabs _ hTb, fun m p H2 L3 hN h7 hin3 i2 X2 hp ep => ?_⟩
    walk_at "st"
    rw [List.append_assoc] at i2
    exact q1 m s' p H2 (L2 ++ L3) o hN (by rw [List.length_append]; omega) (in_app hin hin3) i2 (Y1.andX X2) (A1.moveX X2) (Y1.gone _ hp) ep

/-- Hand.step(self), Hand.step_back(self) -/
def spStep (K : PySem.W.Frag) (CL : CLs) (f : Nat → Nat → Nat) : Sp := fun vs H Q _ => ∃ (h t g : Addr) (s : Nat) (ds : List Int) (q : Option Addr) (I : List Nat → Hp → Prop) (L : List Nat), vs = [.ref h] ∧ HandAt K CL H h t g s ds q I ∧ I L H ∧ L.length < 930 ∧ NdefX.TabN H (tabP K "node_look") nmL ∧
  ∀ m p H' L2, NodeAt ds (f (brk ds).length s) m → L2.length ≤ 7 → (∀ j ∈ L2, j < (blks (brk ds)).length) → I (L ++ L2) H' → SameH q h H H' → HandAt K CL H' h t g (f (brk ds).length s) ds q I → H p = none → H' p = some (.tup [.int (m : Int), .bl (decide ((brk ds).getD (f (brk ds).length s) 0 = 1))]) → Q (.ref p) H'
def ahead1 (n s : Nat) : Nat := (s + 1) % n
def back1 (n s : Nat) : Nat := if s = 0 then n - 1 else s - 1
def sp_Hand_step (K : PySem.W.Frag) (CL : CLs) : Sp := spStep K CL ahead1
def sp_Hand_step_back (K : PySem.W.Frag) (CL : CLs) : Sp := spStep K CL back1
theorem len_Hand_step (K : PySem.W.Frag) (CL : CLs) : ∀ vs H Q E, sp_Hand_step K CL vs H Q E → vs.length = 1 := by
  rintro vs H Q E ⟨h, _, _, _, _, _, _, _, rfl, _⟩; rfl
theorem len_Hand_step_back (K : PySem.W.Frag) (CL : CLs) : ∀ vs H Q E, sp_Hand_step_back K CL vs H Q E → vs.length = 1 := by
  rintro vs H Q E ⟨h, _, _, _, _, _, _, _, rfl, _⟩; rfl
def t_Hand_step (K : PySem.W.Frag) (CL : CLs) (E : XK) : TS :=
  (tSeq (sFldC K "Hand" (tVar 0) (tOp rMod (tOp rPlus (tFldC K "Hand" (tVar 0) "spot") (tC (.int 1))) (tOp (rIxT K) (tFldC K "Hand" (tVar 0) "tables") (tC (.int 0)))) "spot")
  (tRet (tMethC K "Hand" "stand" (sp_Hand_stand K CL) E (tVar 0) tNil)))
abbrev n_Hand_step : List Str := ["self"]

theorem rd_Hand_step (K : PySem.W.Frag) (CL : CLs) (vs : List V) (H : Hp) (Q : VK) (E : XK) (hh : sp_Hand_step K CL vs H Q E) : t_Hand_step K CL E { nx := fun _ H' => Q .non H', rt := Q } (start n_Hand_step vs) H := by
  obtain ⟨h, t, g, s, ds, q, I, L, rfl, A, hI, hL, hTb, q1⟩ := hh
  obtain ⟨dx, eh⟩ := A.obj
  obtain ⟨pa, ph, hT, hA, hP⟩ := A.tree.2.2.tab
  have hlt := A.lt
  unfold t_Hand_step
  walk_at "st"
  refine m_fldE eh (lk_spot t g s) ?_
  walk_at "st"
  refine m_fldE eh (lk_tables t g s) ?_
  walk_at "st"
  refine k_ixT hT (x := .int ((brk ds).length : Int)) rfl ?_
  walk_at "st"
  refine m_putE eh (by show 3 < 1000; decide) ?_
  have hs2 : ahead1 (brk ds).length s < (brk ds).length := Nat.mod_lt _ (by omega)
  have e2 : ((s : Int) + 1) % ((brk ds).length : Int) = ((ahead1 (brk ds).length s : Nat) : Int) := by unfold ahead1; push_cast; rfl
  rw [e2, put_spot]
  obtain ⟨A1, X1⟩ := A.go eh (A.tree.2.2.look.isq hI) hs2
  have i1 := A.mu _ _ _ _ _ (handF t g (ahead1 (brk ds).length s)) hI eh
  have hg := fun p (z : (upd H h (.ins (He.ga K "Hand") dx (handF t g (ahead1 (brk ds).length s)))) p = none) => X1.gone p z
  generalize upd H h (.ins (He.ga K "Hand") dx (handF t g (ahead1 (brk ds).length s))) = H1 at A1 X1 i1 hg ⊢
  obtain ⟨dx1, eh1⟩ := A1.obj
  walk_at "st"
  refine m_methE eh1 (by kernel_rfl) ?_
  walk_at "st"
  refine ⟨h, t, g, _, ds, q, I, L, rfl, A1, i1, by omega, X1.tabs _ hTb, fun m p H2 L2 hN h7 hin i2 X2 hp ep => ?_⟩
  walk_at "st"
  exact q1 m p H2 L2 hN h7 hin i2 (X1.andX X2) (A1.moveX X2) (hg p hp) ep
def t_Hand_step_back (K : PySem.W.Frag) (CL : CLs) (E : XK) : TS :=
  (tSeq (sFldC K "Hand" (tVar 0) (tOp rMod (tOp rMinus (tFldC K "Hand" (tVar 0) "spot") (tC (.int 1))) (tOp (rIxT K) (tFldC K "Hand" (tVar 0) "tables") (tC (.int 0)))) "spot")
  (tRet (tMethC K "Hand" "stand" (sp_Hand_stand K CL) E (tVar 0) tNil)))
abbrev n_Hand_step_back : List Str := ["self"]

theorem rd_Hand_step_back (K : PySem.W.Frag) (CL : CLs) (vs : List V) (H : Hp) (Q : VK) (E : XK) (hh : sp_Hand_step_back K CL vs H Q E) : t_Hand_step_back K CL E { nx := fun _ H' => Q .non H', rt := Q } (start n_Hand_step_back vs) H := by
  obtain ⟨h, t, g, s, ds, q, I, L, rfl, A, hI, hL, hTb, q1⟩ := hh
  obtain ⟨dx, eh⟩ := A.obj
  obtain ⟨pa, ph, hT, hA, hP⟩ := A.tree.2.2.tab
  have hlt := A.lt
  unfold t_Hand_step_back
  walk_at "st"
  refine m_fldE eh (lk_spot t g s) ?_
  walk_at "st"
  refine m_fldE eh (lk_tables t g s) ?_
  walk_at "st"
  refine k_ixT hT (x := .int ((brk ds).length : Int)) rfl ?_
  walk_at "st"
  refine m_putE eh (by show 3 < 1000; decide) ?_
  have hs2 : back1 (brk ds).length s < (brk ds).length := by unfold back1; split <;> omega
  have e2 : ((s : Int) - 1) % ((brk ds).length : Int) = ((back1 (brk ds).length s : Nat) : Int) := by
    unfold back1
    split
    · rename_i z
      subst z
      rw [show ((0 : Nat) : Int) - 1 = ((brk ds).length : Int) - 1 + ((brk ds).length : Int) * (-1) by omega, Int.add_mul_emod_self_left, Int.emod_eq_of_lt (by omega) (by omega)]
      omega
    · rw [Int.emod_eq_of_lt (by omega) (by omega)]; omega
  rw [e2, put_spot]
  obtain ⟨A1, X1⟩ := A.go eh (A.tree.2.2.look.isq hI) hs2
  have i1 := A.mu _ _ _ _ _ (handF t g (back1 (brk ds).length s)) hI eh
  have hg := fun p (z : (upd H h (.ins (He.ga K "Hand") dx (handF t g (back1 (brk ds).length s)))) p = none) => X1.gone p z
  generalize upd H h (.ins (He.ga K "Hand") dx (handF t g (back1 (brk ds).length s))) = H1 at A1 X1 i1 hg ⊢
  obtain ⟨dx1, eh1⟩ := A1.obj
  walk_at "st"
  refine m_methE eh1 (by kernel_rfl) ?_
  walk_at "st"
  refine ⟨h, t, g, _, ds, q, I, L, rfl, A1, i1, by omega, X1.tabs _ hTb, fun m p H2 L2 hN h7 hin i2 X2 hp ep => ?_⟩
  walk_at "st"
  exact q1 m p H2 L2 hN h7 hin i2 (X1.andX X2) (A1.moveX X2) (hg p hp) ep

/-- how many bits of a kind stand ahead of a block -/
def aheadK (bs : List Int) (kind : Int) (j : Nat) : Int := if kind = 1 then sumTo bs (32 * j) else 32 * (j : Int) - sumTo bs (32 * j)
theorem aheadK_zero (bs : List Int) (kind : Int) : aheadK bs kind 0 = 0 := by
  unfold aheadK; rw [show 32 * 0 = 0 from rfl, sumTo_zero]; split <;> rfl
def sp_bits_ahead (K : PySem.W.Frag) : Sp := fun vs H Q _ => ∃ (pa : Addr) (bs : List Int) (j : Nat) (kind : Int), vs = [.ref pa, .int (j : Int), .int kind] ∧ SqT K H pa ((aheadT bs).map V.int) ∧ j ≤ (bs.length + 31) / 32 ∧ Q (.int (aheadK bs kind j)) H
theorem len_bits_ahead (K : PySem.W.Frag) : ∀ vs H Q E, sp_bits_ahead K vs H Q E → vs.length = 3 := by
  rintro vs H Q E ⟨pa, bs, j, kind, rfl, _⟩; rfl
def t_bits_ahead (K : PySem.W.Frag) : TS :=
  (tSeq (tIfS (tTest (tOp rEq (tVar 2) (tC (.int 1))))
  (tRet (tOp (rIxT K) (tVar 0) (tVar 1)))
  tNext)
  (tRet (tOp rMinus (tOp rTimes (tC (.int 32)) (tVar 1)) (tOp (rIxT K) (tVar 0) (tVar 1)))))
abbrev n_bits_ahead : List Str := ["ahead", "number", "kind"]

theorem rd_bits_ahead (K : PySem.W.Frag) (vs : List V) (H : Hp) (Q : VK) (E : XK) (h : sp_bits_ahead K vs H Q E) : t_bits_ahead K { nx := fun _ H' => Q .non H', rt := Q } (start n_bits_ahead vs) H := by
  obtain ⟨pa, bs, j, kind, rfl, hA, hj, q⟩ := h
  unfold t_bits_ahead
  unfold aheadK at q
  walk_at "st"
  walk_at "if" <;> intro c
  · walk_at "st"
    refine k_ixT hA (at_nat (mapint (aheadT_get bs hj))) ?_
    walk_at "st"
    rw [if_pos c] at q
    exact q
  · walk_at "st"
    refine k_ixT hA (at_nat (mapint (aheadT_get bs hj))) ?_
    walk_at "st"
    rw [if_neg c] at q
    exact q
def sp_block_by (K : PySem.W.Frag) : Sp := fun vs H Q _ => ∃ (pa : Addr) (bs : List Int) (nth kind : Int), vs = [.ref pa, .int nth, .int kind] ∧ SqT K H pa ((aheadT bs).map V.int) ∧ bs.length ≤ 5000 ∧ 0 ≤ nth ∧ nth < aheadK bs kind ((bs.length + 31) / 32) ∧
  ∀ j : Nat, j < (bs.length + 31) / 32 → aheadK bs kind j ≤ nth → nth < aheadK bs kind (j + 1) → Q (.int (j : Int)) H
theorem len_block_by (K : PySem.W.Frag) : ∀ vs H Q E, sp_block_by K vs H Q E → vs.length = 3 := by
  rintro vs H Q E ⟨pa, bs, j, kind, rfl, _⟩; rfl
def t_block_by (K : PySem.W.Frag) : TS :=
  (tSeq (tAsg (tC (.int 0)) (gName 3))
  (tSeq (tAsg (tOp rMinus (tCB (rLen K) (tCons (tVar 0) tNil)) (tC (.int 1))) (gName 4))
  (tSeq (tWhile (tTest (tOp rGtI (tOp rMinus (tVar 4) (tVar 3)) (tC (.int 1))))
  (tSeq (tAsg (tOp rDiv (tOp rPlus (tVar 3) (tVar 4)) (tC (.int 2))) (gName 5))
  (tIfS (tTest (tOp rLe (tCall (sp_bits_ahead K) [] E0 (tCons (tVar 0) (tCons (tVar 5) (tCons (tVar 2) tNil)))) (tVar 1)))
  (tAsg (tVar 5) (gName 3))
  (tAsg (tVar 5) (gName 4)))))
  (tRet (tVar 3)))))
abbrev n_block_by : List Str := ["ahead", "nth", "kind", "low", "high", "middle"]

theorem rd_block_by (K : PySem.W.Frag) (vs : List V) (H : Hp) (Q : VK) (E : XK) (h : sp_block_by K vs H Q E) : t_block_by K { nx := fun _ H' => Q .non H', rt := Q } (start n_block_by vs) H := by
  obtain ⟨pa, bs, nth, kind, rfl, hA, hl, h0, h1, q⟩ := h
  have hpos : 0 < (bs.length + 31) / 32 := by
    rcases Nat.eq_zero_or_pos ((bs.length + 31) / 32) with z | z
    · rw [z, aheadK_zero] at h1; omega
    · exact z
  unfold t_block_by
  walk_at "st"
  refine k_lenT hA ?_
  walk_at "st"
  rw [List.length_map, aheadT_len]
  refine loop_while (fun m σ H' => ∃ (lo hi : Nat) (y : Option V), m = hi - lo ∧ lo < hi ∧ hi ≤ (bs.length + 31) / 32 ∧ aheadK bs kind lo ≤ nth ∧ nth < aheadK bs kind hi ∧ σ = [some (.ref pa), some (.int nth), some (.int kind), some (.int (lo : Int)), some (.int (hi : Int)), y] ∧ H' = H) ((bs.length + 31) / 32) ⟨0, (bs.length + 31) / 32, none, by omega, hpos, Nat.le_refl _, by rw [aheadK_zero]; exact h0, h1, ?_, rfl⟩ ?_
  · rw [show (((bs.length + 31) / 32 + 1 : Nat) : Int) - 1 = (((bs.length + 31) / 32 : Nat) : Int) by push_cast; omega]; rfl
  · rintro m σ H' ⟨lo, hi, y, rfl, h2, h3, h4, h5, rfl, rfl⟩
    walk_at "st"
    walk_at "if" <;> intro c
    · walk_at "st"
      rw [show ((lo : Int) + (hi : Int)) / 2 = (((lo + hi) / 2 : Nat) : Int) by omega]
      refine ⟨pa, bs, (lo + hi) / 2, kind, rfl, hA, by omega, ?_⟩
      walk_at "st"
      walk_at "if" <;> intro d
      · walk_at "st"
        exact ⟨hi - (lo + hi) / 2, by omega, (lo + hi) / 2, hi, _, rfl, by omega, h3, d, h5, rfl, rfl⟩
      · walk_at "st"
        exact ⟨(lo + hi) / 2 - lo, by omega, lo, (lo + hi) / 2, _, rfl, by omega, by omega, h4, by omega, rfl, rfl⟩
    · walk_at "st"
      obtain rfl : hi = lo + 1 := by omega
      exact q lo (by omega) h4 h5

/-- one_in(b, n) -/
def sp_one_in (_ : PySem.W.Frag) : Sp := fun vs H Q _ => ∃ (b n : Int), vs = [.int b, .int n] ∧ 0 ≤ n ∧ (∀ k : Nat, k < 32 → bit b k = 1 → onesIn b k = n → Q (.int (k : Int)) H) ∧ (onesIn b 32 ≤ n → Q .non H)
theorem len_one_in (K : PySem.W.Frag) : ∀ vs H Q E, sp_one_in K vs H Q E → vs.length = 2 := by
  rintro vs H Q E ⟨b, u, rfl, _⟩; rfl
def t_one_in (K : PySem.W.Frag) : TS :=
  (tSeq (tFor (iRng1 (tCons (tC (.int 32)) tNil)) (gName 2)
  (tIfS (tTest (tOp rEq (tOp rAnd1 (tOp rShr (tVar 0) (tVar 2)) (tC (.int 1))) (tC (.int 1))))
  (tSeq (tIfS (tTest (tOp rEq (tVar 1) (tC (.int 0))))
  (tRet (tVar 2))
  tNext)
  (tAug 1 (tC (.int 1)) (ipI fun i j => i - j)))
  tNext))
  (tRet (tC .non)))
abbrev n_one_in : List Str := ["block", "nth", "k"]

theorem rd_one_in (K : PySem.W.Frag) (vs : List V) (H : Hp) (Q : VK) (E : XK) (h : sp_one_in K vs H Q E) : t_one_in K { nx := fun _ H' => Q .non H', rt := Q } (start n_one_in vs) H := by
  obtain ⟨b, n, rfl, hn, q1, q2⟩ := h
  unfold t_one_in
  walk_at "st"
  refine loop_range0 (fun i σ H' => ∃ y, σ = [some (.int b), some (.int (n - onesIn b i)), y] ∧ H' = H ∧ onesIn b i ≤ n) ⟨none, ?_, rfl, hn⟩ ?_ ?_
  · show _ = [some (V.int b), some (V.int (n - 0)), none]; rw [Int.sub_zero]; rfl
  · rintro i σ H' hi ⟨y, rfl, rfl, hle⟩
    walk_at "st"
    walk_at "if" <;> intro c
    · have c : bit b i = 1 := c
      walk_at "st"
      walk_at "if" <;> intro d
      · walk_at "st"
        exact q1 i hi c (by omega)
      · walk_at "st"
        refine ⟨some (.int (i : Int)), ?_, rfl, ?_⟩
        · have e : n - onesIn b i - 1 = n - onesIn b (i + 1) := by show _ = n - (onesIn b i + bit b i); omega
          rw [e]; rfl
        · show onesIn b i + bit b i ≤ n; omega
    · have c : bit b i ≠ 1 := c
      have c0 : bit b i = 0 := by have := bit_cases b i; omega
      walk_at "st"
      refine ⟨some (.int (i : Int)), ?_, rfl, ?_⟩
      · have e : n - onesIn b i = n - onesIn b (i + 1) := by show _ = n - (onesIn b i + bit b i); omega
        rw [← e]; rfl
      · show onesIn b i + bit b i ≤ n; omega
  · rintro σ H' ⟨y, rfl, rfl, hle⟩
    walk_at "st"
    exact q2 hle

theorem aheadT_last (bs : List Int) : atI ((aheadT bs).map V.int) (-1) = some (.int bs.sum) := by
  unfold aheadT
  rw [aheadN_succ, List.map_append, ← sumTo_all bs (show bs.length ≤ 32 * ((bs.length + 31) / 32) by omega)]
  exact atI_last _ _

/-- one_place(tables, look, nth) -/
def sp_one_place (K : PySem.W.Frag) (CL : CLs) : Sp := fun vs H Q E => ∃ (t g : Addr) (nth : Int) (bs : List Int) (q : Option Addr) (I : List Nat → Hp → Prop) (L : List Nat), vs = [.ref t, .ref g, .int nth] ∧ RowAt K CL H t g bs q I ∧ I L H ∧ L.length < 8999 ∧
  ((nth < 0 ∨ bs.sum ≤ nth) → ∀ H', Same H H' → E (.ref (He.ga K "NoPlace")) none H') ∧
  (∀ k : Nat, k < bs.length → bs.getD k 0 = 1 → sumTo bs k = nth → ∀ H', I (L ++ [k / 32]) H' → SameX q H H' → Q (.int (k : Int)) H')
theorem len_one_place (K : PySem.W.Frag) (CL : CLs) : ∀ vs H Q E, sp_one_place K CL vs H Q E → vs.length = 3 := by
  rintro vs H Q E ⟨t, g, a, _, _, _, _, rfl, _⟩; rfl
def t_one_place (K : PySem.W.Frag) (CL : CLs) (E : XK) : TS :=
  (tSeq (tAsg (tOp (rIxT K) (tVar 0) (tC (.int 1))) (gName 3))
  (tSeq (tIfS (tOr (tTest (tOp rLt (tVar 2) (tC (.int 0)))) (tTest (tOp rGeI (tVar 2) (tOp (rIxT K) (tVar 3) (tUn rNeg (tC (.int 1)))))))
  (tRz (fun cls d _ H => E cls d H) (He.ga K "NoPlace"))
  tNext)
  (tSeq (tAsg (tCall (sp_block_by K) [] E0 (tCons (tVar 3) (tCons (tVar 2) (tCons (tC (.int 1)) tNil)))) (gName 4))
  (tRet (tOp rPlus (tOp rTimes (tC (.int 32)) (tVar 4)) (tCall (sp_one_in K) [] E0 (tCons (tCallV CL 9 1 (tCons (tVar 4) tNil)) (tCons (tOp rMinus (tVar 2) (tCall (sp_bits_ahead K) [] E0 (tCons (tVar 3) (tCons (tVar 4) (tCons (tC (.int 1)) tNil))))) tNil))))))))
abbrev n_one_place : List Str := ["tables", "look", "nth", "ahead", "number"]

theorem rd_one_place (K : PySem.W.Frag) (CL : CLs) (vs : List V) (H : Hp) (Q : VK) (E : XK) (h : sp_one_place K CL vs H Q E) : t_one_place K CL E { nx := fun _ H' => Q .non H', rt := Q } (start n_one_place vs) H := by
  obtain ⟨t, g, nth, bs, q, I, L, rfl, R, hI, hL, q1, q2⟩ := h
  obtain ⟨pa, hT, hA⟩ := R.tab
  unfold t_one_place
  have hf := R.look.fn hI
  walk_at "st"
  refine k_ixT hT (x := .ref pa) rfl ?_
  walk_at "st"
  walk_at "if" <;> intro c
  · walk_at "st"
    exact q1 (.inl c) _ (Same.refl _)
  · walk_at "st"
    refine k_ixT hA (aheadT_last bs) ?_
    walk_at "st"
    walk_at "if" <;> intro c1
    · walk_at "st"
      exact q1 (.inr c1) _ (Same.refl _)
    · walk_at "st"
      have hs : nth < aheadK bs 1 ((bs.length + 31) / 32) := by
        unfold aheadK; rw [if_pos rfl, sumTo_all bs (by omega)]; omega
      refine ⟨pa, bs, nth, 1, rfl, hA, R.len, by omega, hs, fun j hj h4 h5 => ?_⟩
      unfold aheadK at h4 h5
      rw [if_pos rfl] at h4 h5
      walk_at "st"
      refine R.look.ask hI (by omega) (by rw [blks_len]; exact hj) fun H1 i1 s1 => ?_
      walk_at "st"
      refine ⟨pa, bs, j, 1, rfl, s1.seqT hA, by omega, ?_⟩
      unfold aheadK
      rw [if_pos rfl]
      walk_at "st"
      have hg := blks_getD (bs := bs) hj
      refine ⟨_, _, rfl, by omega, fun k hk hb ho => ?_, fun ho => ?_⟩
      · walk_at "st"
        rw [bit_blks R.bits hg hk] at hb
        rw [onesIn_blks R.bits hg k (by omega)] at ho
        have hlt : 32 * j + k < bs.length := by
          rcases Nat.lt_or_ge (32 * j + k) bs.length with z | z
          · exact z
          · rw [List.getD_eq_getElem?_getD, List.getElem?_eq_none z] at hb; simp at hb
        rw [show (32 : Int) * (j : Int) + (k : Int) = ((32 * j + k : Nat) : Int) by push_cast; rfl]
        exact q2 (32 * j + k) hlt hb (by omega) H1 (by rw [show (32 * j + k) / 32 = j by omega]; exact i1) s1
      · exfalso
        rw [onesIn_blks R.bits hg 32 (Nat.le_refl _), show 32 * j + 32 = 32 * (j + 1) by omega] at ho
        omega

/-- sought(tables, node) -/
def sp_sought (K : PySem.W.Frag) : Sp := fun vs H Q E => ∃ (t : Addr) (x y : V) (n : Int) (m : Nat), vs = [.ref t, .int n] ∧ SqT K H t [.int ((2 * m : Nat) : Int), x, y] ∧ ((n < 0 ∨ (m : Int) ≤ n) → E (.ref (He.ga K "NoNode")) none H) ∧ ((0 ≤ n ∧ n < (m : Int)) → Q (.int n) H)
theorem len_sought (K : PySem.W.Frag) : ∀ vs H Q E, sp_sought K vs H Q E → vs.length = 2 := by
  rintro vs H Q E ⟨t, x, y, n, m, rfl, _⟩; rfl
def t_sought (K : PySem.W.Frag) (E : XK) : TS :=
  (tSeq (tIfS (tOr (tTest (tOp rLt (tVar 1) (tC (.int 0)))) (tTest (tOp rGeI (tOp rTimes (tC (.int 2)) (tVar 1)) (tOp (rIxT K) (tVar 0) (tC (.int 0))))))
  (tRz (fun cls d _ H => E cls d H) (He.ga K "NoNode"))
  tNext)
  (tRet (tVar 1)))
abbrev n_sought : List Str := ["tables", "node"]

theorem rd_sought (K : PySem.W.Frag) (vs : List V) (H : Hp) (Q : VK) (E : XK) (h : sp_sought K vs H Q E) : t_sought K E { nx := fun _ H' => Q .non H', rt := Q } (start n_sought vs) H := by
  obtain ⟨t, x, y, n, m, rfl, hT, q1, q2⟩ := h
  unfold t_sought
  walk_at "st"
  walk_at "if" <;> intro c0
  · walk_at "st"
    exact q1 (.inl c0)
  walk_at "st"
  refine k_ixT hT (x := .int ((2 * m : Nat) : Int)) rfl ?_
  walk_at "st"
  walk_at "if" <;> intro c1
  · walk_at "st"
    exact q1 (.inr (by omega))
  · walk_at "st"
    exact q2 ⟨by omega, by omega⟩
/-- place_of(tables, look, node) -/
def sp_place_of (K : PySem.W.Frag) (CL : CLs) : Sp := fun vs H Q E => ∃ (t g : Addr) (n : Int) (ds : List Int) (q : Option Addr) (I : List Nat → Hp → Prop) (L : List Nat), vs = [.ref t, .ref g, .int n] ∧ TrAt K CL H t g ds q I ∧ I L H ∧ L.length < 980 ∧
  ((n < 0 ∨ (ds.length : Int) ≤ n) → ∀ H', Same H H' → E (.ref (He.ga K "NoNode")) none H') ∧
  (∀ (m : Nat) (d : Int) (k : Nat), n = (m : Int) → ds[m]? = some d → (k : Int) = 2 * m - d → k < (brk ds).length → (brk ds).getD k 0 = 1 → sumTo (brk ds) k = m → ∀ H', I (L ++ [k / 32]) H' → SameX q H H' → Q (.int (k : Int)) H')
theorem len_place_of (K : PySem.W.Frag) (CL : CLs) : ∀ vs H Q E, sp_place_of K CL vs H Q E → vs.length = 3 := by
  rintro vs H Q E ⟨t, g, a, _, _, _, _, rfl, _⟩; rfl
def t_place_of (K : PySem.W.Frag) (CL : CLs) (E : XK) : TS :=
  (tRet (tCall (sp_one_place K CL) [] E (tCons (tSl (rSlT K) (tVar 0) tNoPart (tPart (tC (.int 2)))) (tCons (tVar 1) (tCons (tCall (sp_sought K) [] E (tCons (tVar 0) (tCons (tVar 2) tNil))) tNil)))))
abbrev n_place_of : List Str := ["tables", "look", "node"]

theorem rd_place_of (K : PySem.W.Frag) (CL : CLs) (vs : List V) (H : Hp) (Q : VK) (E : XK) (h : sp_place_of K CL vs H Q E) : t_place_of K CL E { nx := fun _ H' => Q .non H', rt := Q } (start n_place_of vs) H := by
  obtain ⟨t, g, n, ds, q, I, L, rfl, ⟨hD, hl, R⟩, hI, hL, q1, q2⟩ := h
  obtain ⟨pa, ph, hT, hA, hP⟩ := R.tab
  have hbl := brk_len hD
  unfold t_place_of
  walk_at "st"
  refine ⟨t, _, rfl, hT, (show ¬ (HT.sIx 3 0 none = 0 ∧ HT.sIx 3 3 (some 2) = 3) by decide), fun t2 ht2 => ?_⟩
  obtain ⟨s2, e2⟩ := new_both (o := .tup [.int ((brk ds).length : Int), .ref pa]) ht2
  rw [show cutV [V.int ((brk ds).length : Int), V.ref pa, V.ref ph] none (some 2) = [V.int ((brk ds).length : Int), V.ref pa] from rfl]
  generalize upd H t2 (.tup [.int ((brk ds).length : Int), .ref pa]) = H1 at s2 e2 ⊢
  walk_at "st"
  refine ⟨t, _, _, n, ds.length, rfl, by rw [← hbl]; exact s2.seqT hT, fun z => q1 z H1 s2, fun z => ?_⟩
  walk_at "st"
  refine ⟨t2, g, n, brk ds, q, I, L, rfl, ⟨⟨pa, .of e2, s2.seqT hA⟩, R.look, R.bits, by have := R.len; omega⟩, R.look.ext hI s2, by omega, fun w => ?_, fun k hk h1 hs H' i' X => ?_⟩
  · rw [brk_sum hD] at w; omega
  obtain ⟨m, rfl⟩ := Int.eq_ofNat_of_zero_le z.1
  have hm : m < ds.length := by omega
  obtain ⟨k2, a1, a2, a3, a4⟩ := node_place hD (List.getElem?_eq_getElem hm)
  obtain rfl := one_uniq R.bits h1 a3 (by rw [hs, a4])
  exact q2 m _ k rfl (List.getElem?_eq_getElem hm) a1 hk h1 hs H' i' ((s2.toX (R.look.isq hI)).trans X)

/-- Hand.go(self, node), Hand.to_node(self, node) -/
def sp_Hand_go (K : PySem.W.Frag) (CL : CLs) : Sp := fun vs H Q E => ∃ (h t g : Addr) (s : Nat) (ds : List Int) (q : Option Addr) (I : List Nat → Hp → Prop) (L : List Nat) (x : V), vs = [.ref h, x] ∧ HandAt K CL H h t g s ds q I ∧ I L H ∧ L.length < 980 ∧
  ((x = .non ∧ Q (.bl false) H) ∨ ∃ n : Int, x = .int n ∧ ((n < 0 ∨ (ds.length : Int) ≤ n) → ∀ H', Same H H' → E (.ref (He.ga K "NoNode")) none H') ∧
    (∀ m : Nat, n = (m : Int) → m < ds.length → ∀ k H' L2, PlaceOf ds m k → L2.length ≤ 1 → (∀ j ∈ L2, j < (blks (brk ds)).length) → I (L ++ L2) H' → SameH q h H H' → HandAt K CL H' h t g k ds q I → Q (.bl true) H'))
theorem len_Hand_go (K : PySem.W.Frag) (CL : CLs) : ∀ vs H Q E, sp_Hand_go K CL vs H Q E → vs.length = 2 := by
  rintro vs H Q E ⟨h, _, _, _, _, _, _, _, _, rfl, _⟩; rfl
def t_Hand_go (K : PySem.W.Frag) (CL : CLs) (E : XK) : TS :=
  (tSeq (tIfS (tTest (tOp rIsN (tVar 1) (tC .non)))
  (tRet (tC (.bl false)))
  tNext)
  (tSeq (sFldC K "Hand" (tVar 0) (tCall (sp_place_of K CL) [] E (tCons (tFldC K "Hand" (tVar 0) "tables") (tCons (tFldC K "Hand" (tVar 0) "look") (tCons (tVar 1) tNil)))) "spot")
  (tRet (tC (.bl true)))))
abbrev n_Hand_go : List Str := ["self", "node"]

theorem rd_Hand_go (K : PySem.W.Frag) (CL : CLs) (vs : List V) (H : Hp) (Q : VK) (E : XK) (hh : sp_Hand_go K CL vs H Q E) : t_Hand_go K CL E { nx := fun _ H' => Q .non H', rt := Q } (start n_Hand_go vs) H := by
  obtain ⟨h, t, g, s, ds, q, I, L, x, rfl, A, hI, hL, (⟨rfl, qn⟩ | ⟨n, rfl, q1, q2⟩)⟩ := hh
  · unfold t_Hand_go
    walk_at "st"
    exact qn
  · obtain ⟨dx, eh⟩ := A.obj
    unfold t_Hand_go
    walk_at "st"
    refine k_decF (by intro z; cases z) ?_
    walk_at "st"
    refine m_fldE eh (lk_tables t g s) ?_
    walk_at "st"
    refine m_fldE eh (lk_look t g s) ?_
    walk_at "st"
    refine ⟨t, g, n, ds, q, I, L, rfl, A.tree, hI, by omega, q1, fun m d k en ed ek hk h1 hs H1 i1 X1 => ?_⟩
    have hm := (List.getElem?_eq_some_iff.mp ed).1
    have hkl : k / 32 < (blks (brk ds)).length := by rw [blks_len]; omega
    have P : PlaceOf ds m k := ⟨hk, h1, hs, by unfold hgt; rw [getD_of ed]; omega, by rw [getD_of ed]; exact ek⟩
    have A1 := A.moveX X1
    obtain ⟨dx1, eh1⟩ := A1.obj
    walk_at "st"
    refine m_putE eh1 (by show 3 < 1000; decide) ?_
    rw [put_spot]
    obtain ⟨A2, X2⟩ := A1.go eh1 (A.tree.2.2.look.isq i1) hk
    walk_at "st"
    exact q2 m en hm k _ [k / 32] P (by simp) (in_one hkl) (A.mu _ _ _ _ _ _ i1 eh1) ((X1.toH A.isi).trans X2) A2

def sp_Hand_to_node (K : PySem.W.Frag) (CL : CLs) : Sp := sp_Hand_go K CL
theorem len_Hand_to_node (K : PySem.W.Frag) (CL : CLs) : ∀ vs H Q E, sp_Hand_to_node K CL vs H Q E → vs.length = 2 := len_Hand_go K CL
def t_Hand_to_node (K : PySem.W.Frag) (CL : CLs) (E : XK) : TS :=
  (tRet (tMethC K "Hand" "go" (sp_Hand_go K CL) E (tVar 0) (tCons (tVar 1) tNil)))
abbrev n_Hand_to_node : List Str := ["self", "node"]

theorem rd_Hand_to_node (K : PySem.W.Frag) (CL : CLs) (vs : List V) (H : Hp) (Q : VK) (E : XK) (hh : sp_Hand_to_node K CL vs H Q E) : t_Hand_to_node K CL E { nx := fun _ H' => Q .non H', rt := Q } (start n_Hand_to_node vs) H := by
  obtain ⟨h, t, g, s, ds, q, I, L, x, rfl, A, hI, hL, qq⟩ := hh
  obtain ⟨dx, eh⟩ := A.obj
  unfold t_Hand_to_node
  walk_at "st"
  refine m_methE eh (by kernel_rfl) ?_
  walk_at "st"
  refine ⟨h, t, g, s, ds, q, I, L, x, rfl, A, hI, hL, ?_⟩
  rcases qq with ⟨rfl, qn⟩ | ⟨n, rfl, q1, q2⟩
  · refine .inl ⟨rfl, ?_⟩
    walk_at "st"
    exact qn
  · refine .inr ⟨n, rfl, q1, fun m en hm k H' L2 P h1 hin i X A2 => ?_⟩
    walk_at "st"
    exact q2 m en hm k H' L2 P h1 hin i X A2

theorem upd_upd {H : Hp} {p : Addr} {o u : HO} : upd (upd H p o) p u = upd H p u := by
  funext b
  by_cases e : b = p
  · subst e; rw [upd_same, upd_same]
  · rw [upd_ne e, upd_ne e, upd_ne e]

/-- Hand.__init__(self, tables, look) -/
def sp_Hand_init (K : PySem.W.Frag) : Sp := fun vs H Q _ => ∃ (h t g d : Addr), vs = [.ref h, .ref t, .ref g] ∧ H h = some (.ins (He.ga K "Hand") d []) ∧ Q .non (upd H h (.ins (He.ga K "Hand") d (handF t g 0)))
theorem len_Hand_init (K : PySem.W.Frag) : ∀ vs H Q E, sp_Hand_init K vs H Q E → vs.length = 3 := by
  rintro vs H Q E ⟨h, _, _, _, rfl, _⟩; rfl
def t_Hand_init (K : PySem.W.Frag) : TS :=
  (tSeq (sFldC K "Hand" (tVar 0) (tVar 1) "tables")
  (tSeq (sFldC K "Hand" (tVar 0) (tVar 2) "look")
  (sFldC K "Hand" (tVar 0) (tC (.int 0)) "spot")))
abbrev n_Hand_init : List Str := ["self", "tables", "look"]

theorem rd_Hand_init (K : PySem.W.Frag) (vs : List V) (H : Hp) (Q : VK) (E : XK) (hh : sp_Hand_init K vs H Q E) : t_Hand_init K { nx := fun _ H' => Q .non H', rt := Q } (start n_Hand_init vs) H := by
  obtain ⟨h, t, g, d, rfl, eh, q⟩ := hh
  unfold t_Hand_init
  walk_at "st"
  refine m_putE eh (by show 0 < 1000; decide) ?_
  walk_at "st"
  refine m_putE upd_same (by show 1 < 1000; decide) ?_
  walk_at "st"
  refine m_putE upd_same (by show 2 < 1000; decide) ?_
  walk_at "st"
  rw [upd_upd, upd_upd, show putF "spot" (.int 0) (putF "look" (.ref g) (putF "tables" (.ref t) [])) = handF t g 0 by kernel_rfl]
  exact q
/-- a new hand -/
theorem new_hand {K : PySem.W.Frag} {H : Hp} {Q : VK} {E : XK} {t g : Addr} (q : ∀ h d, H h = none → Same H (upd (upd H d (.own h)) h (.ins (He.ga K "Hand") d (handF t g 0))) → Q (.ref h) (upd (upd H d (.own h)) h (.ins (He.ga K "Hand") d (handF t g 0)))) : MakeK K "Hand" (sp_Hand_init K) Q E [.ref t, .ref g] H := by
  intro h d hh hd hne
  refine ⟨h, t, g, d, rfl, upd_same, rfl, ?_⟩
  rw [upd_upd]
  have hh1 : (upd H d (.own h)) h = none := (upd_ne (Ne.symm hne)).trans hh
  exact q h d hh ((same_new hd).trans (same_new hh1))

/-- _law_depths(cells, most) -/
def sp_law_depths (K : PySem.W.Frag) : Sp := fun vs H Q _ => ∃ (a : Addr) (ns : List Int) (mm : Nat), vs = [.ref a, .int ((mm + 1 : Nat) : Int)] ∧ SqL K H a (ns.map V.int) ∧ ns.length ≤ 63 ∧ ∀ (ds : List Int) p H', Deep ds → ds.length ≤ mm + 1 → H p = none → Same H H' → H' p = some (.lst (ds.map V.int)) → Q (.ref p) H'
theorem len_law_depths (K : PySem.W.Frag) : ∀ vs H Q E, sp_law_depths K vs H Q E → vs.length = 2 := by
  rintro vs H Q E ⟨a, ns, mm, rfl, _⟩; rfl
def t_law_depths (K : PySem.W.Frag) : TS :=
  (tSeq (tAsg (tLst (tCons (tC (.int 0)) tNil)) (gName 2))
  (tSeq (tFor (iList K (tVar 0)) (gName 3)
  (tSeq (tAsg (tOp rMod (tOp rTimes (tVar 3) (tC (.int 48271))) (tC (.int 2147483647))) (gName 4))
  (tSeq (tAsg (tOp rPlus (tC (.int 1)) (tOp rMod (tOp rDiv (tVar 4) (tC (.int 8))) (tOp rPlus (tOp (rIxL K) (tVar 2) (tUn rNeg (tC (.int 1)))) (tC (.int 1))))) (gName 5))
  (tSeq (tAsg (tC (.int 1)) (gName 6))
  (Evl.tCut (tIfS (tTest (tOp rGtI (tOp rMod (tVar 4) (tC (.int 8))) (tC (.int 4))))
  (tAsg (tOp rPlus (tC (.int 1)) (tOp rMod (tOp rMod (tOp rTimes (tVar 3) (tC (.int 69621))) (tC (.int 2147483629))) (tC (.int 10)))) (gName 6))
  tNext)
  (tFor (iRng1 (tCons (tVar 6) tNil)) (gName 7)
  (tSeq (tDrop (tBM K "list" rAppend (tVar 2) (tCons (tVar 5) tNil)))
  (tIfS (tTest (tOp rEq (tOp rMod (tVar 4) (tC (.int 8))) (tC (.int 5))))
  (tAsg (tOp rPlus (tVar 5) (tC (.int 1))) (gName 5))
  tNext))))))))
  (tRet (tSl (rSlL K) (tVar 2) tNoPart (tPart (tVar 1))))))
abbrev n_law_depths : List Str := ["_law_cells", "_law_most", "_law_depths_here", "_law_cell", "_law_number", "_law_deep", "_law_many", "_law_k"]

theorem rd_law_depths (K : PySem.W.Frag) (vs : List V) (H : Hp) (Q : VK) (E : XK) (h : sp_law_depths K vs H Q E) : t_law_depths K { nx := fun _ H' => Q .non H', rt := Q } (start n_law_depths vs) H := by
  obtain ⟨a, ns, mm, rfl, hS, hl63, q⟩ := h
  unfold t_law_depths
  walk_at "st"
  intro p hp
  have s0 := same_new (o := .lst [.int 0]) hp
  have e0 := upd_same (H := H) (a := p) (o := .lst [.int 0])
  generalize upd H p (.lst [.int 0]) = H1 at s0 e0 ⊢
  walk_at "st"
  refine m_iLe (s0.seq hS) ?_
  refine loop_ints (ns := ns) (fun i σ' H' => ∃ (v3 v4 v5 v6 v7 : Option V) (r : List Int), Same H H' ∧ SqL K H' a (ns.map V.int) ∧ H' p = some (.lst ((0 :: r).map V.int)) ∧ DeepT 0 r ∧ r.length ≤ 40 * i ∧ i ≤ ns.length ∧ σ' = [some (.ref a), some (.int ((mm + 1 : Nat) : Int)), some (.ref p), v3, v4, v5, v6, v7]) ⟨none, none, none, none, none, [], s0, s0.seq hS, e0, trivial, by simp, Nat.zero_le _, rfl⟩ (fun i σ' H' ⟨_, _, _, _, _, _, _, e, _⟩ => e) (fun i n σ' H' hn ⟨v3, v4, v5, v6, v7, r, s, e3, e, hD, hl, hi, es⟩ => ?_) (fun σ' H' ⟨v3, v4, v5, v6, v7, r, s, e3, e, hD, hl, hi, es⟩ => ?_)
  · subst es
    have hlt : i < ns.length := (List.getElem?_eq_some_iff.mp hn).1
    have hi63 : i < 63 := by omega
    walk_at "st"
    generalize n * 48271 % 2147483647 = m
    have hnn := lastD_nonneg (by decide) hD
    refine k_ixL (.of e) (at_lastD r) ?_
    walk_at "st"
    have hu1 := Int.emod_nonneg (m / 8) (show lastD 0 r + 1 ≠ 0 by omega)
    have hu2 := Int.emod_lt_of_pos (m / 8) (show 0 < lastD 0 r + 1 by omega)
    generalize m / 8 % (lastD 0 r + 1) = up at hu1 hu2 ⊢
    refine m_cut (fun σ' H'' => H' = H'' ∧ ∃ k : Int, 1 ≤ k ∧ k ≤ 40 ∧ σ' = [some (.ref a), some (.int ((mm + 1 : Nat) : Int)), some (.ref p), some (.int n), some (.int m), some (.int (1 + up)), some (.int k), v7]) ?_ ?_
    · walk_at "st"
      walk_at "if" <;> intro _
      · walk_at "st"
        exact ⟨rfl, _, by omega, by omega, rfl⟩
      · walk_at "st"
        exact ⟨rfl, _, by omega, by omega, rfl⟩
    rintro σ' H'' ⟨rfl, mk, hk3, hk4, rfl⟩
    walk_at "st"
    obtain ⟨cnt, hcnt, hcnt2⟩ : ∃ c : Nat, mk.toNat = c ∧ c ≤ 40 := ⟨_, rfl, by omega⟩
    rw [hcnt]
    refine loop_range0 (fun k σ' H3 => ∃ (v7 : Option V) (d : Int) (t : List Int), Same H H3 ∧ SqL K H3 a (ns.map V.int) ∧ H3 p = some (.lst ((0 :: t).map V.int)) ∧ DeepT 0 t ∧ t.length = r.length + k ∧ k ≤ cnt ∧ 1 ≤ d ∧ d ≤ lastD 0 t + 1 ∧ σ' = [some (.ref a), some (.int ((mm + 1 : Nat) : Int)), some (.ref p), some (.int n), some (.int m), some (.int d), some (.int mk), v7]) ⟨v7, 1 + up, r, s, e3, e, hD, rfl, Nat.zero_le _, by omega, by omega, rfl⟩ (fun k σ' H3 hk ⟨v7, d, t, s3, e5, e4, hD4, hl4, hkc, d1, d2, es⟩ => ?_) (fun σ' H3 ⟨v7, d, t, s3, e5, e4, hD4, hl4, hkc, d1, d2, es⟩ => ?_)
    · subst es
      walk_at "st"
      refine k_tyL (.of e4) ?_
      walk_at "st"
      refine k_app e4 (by rw [List.length_map, List.length_cons]; omega) ?_
      have sx : Same H (upd H3 p (.lst ((0 :: t).map V.int ++ [V.int d]))) := Same.mut s3 hp ⟨_, e4⟩
      have ex := upd_same (H := H3) (a := p) (o := .lst ((0 :: t).map V.int ++ [V.int d]))
      have e5x : SqL K (upd H3 p (.lst ((0 :: t).map V.int ++ [V.int d]))) a (ns.map V.int) := sx.seq hS
      rw [show (0 :: t).map V.int ++ [V.int d] = (0 :: (t ++ [d])).map V.int by rw [← List.cons_append, List.map_append]; rfl] at sx ex e5x ⊢
      generalize upd H3 p (.lst ((0 :: (t ++ [d])).map V.int)) = H4 at sx ex e5x ⊢
      have hlast := lastD_snoc 0 t d
      walk_at "st"
      walk_at "if" <;> intro _
      · walk_at "st"
        exact ⟨_, d + 1, t ++ [d], sx, e5x, ex, deepT_snoc hD4 d1 d2, by rw [List.length_append, List.length_singleton]; omega, by omega, by omega, by omega, rfl⟩
      · walk_at "st"
        exact ⟨_, d, t ++ [d], sx, e5x, ex, deepT_snoc hD4 d1 d2, by rw [List.length_append, List.length_singleton]; omega, by omega, by omega, by omega, rfl⟩
    subst es
    exact ⟨_, _, _, _, _, t, s3, e5, e4, hD4, by omega, hlt, rfl⟩
  subst es
  walk_at "st"
  refine k_slTake (k := mm + 1) (.of e) fun p5 H5 hp5 s5 e5 => ?_
  refine q ((0 :: r).take (mm + 1)) p5 H5 ⟨rfl, deepT_take mm hD⟩ (by rw [List.length_take]; omega) (s.gone _ hp5) (s.trans s5) e5

/-- the node so many pairs further out of the one at a -/
def FurO (bs : List Int) (a : Nat) (p : Int) : Option Nat → Prop
  | none => hgt bs a < p
  | some k => (k = a ∧ p = 0) ∨ (k < a ∧ 0 < p ∧ bs.getD k 0 = 1 ∧ hgt bs k = hgt bs a - p ∧ ∀ j, k < j → j ≤ a → hgt bs k < hgt bs j)
theorem furO_of {bs : List Int} (hB : Bits bs) (hI : IsTree bs) {a : Nat} (ha : a < bs.length) {p : Int} (hp : 0 < p) {r : Option Nat} (hr : LastA bs (hgt bs a - p) a r) : FurO bs a p r := by
  cases r with
  | none =>
    show hgt bs a < p
    rcases Nat.eq_zero_or_pos a with z | z
    · rw [z, hgt_zero]; omega
    · have := hr 0 z
      rw [hgt_zero] at this; omega
  | some k =>
    obtain ⟨k1, k2, k3⟩ := hr
    have hs := hgt_succ bs k
    have hb := getD_bit hB k
    have hn : hgt bs a - p < hgt bs (k + 1) := by
      rcases Nat.lt_or_ge (k + 1) a with w | w
      · exact k3 (k + 1) (by omega) w
      · rw [show k + 1 = a by omega]; omega
    refine .inr ⟨k1, hp, by omega, by omega, fun j j1 j2 => ?_⟩
    rcases Nat.lt_or_ge j a with w | w
    · have := k3 j j1 w; omega
    · rw [show j = a by omega]; omega

/-- the opening brackets that are open at a place, from the outermost on -/
def StkI (bs : List Int) (k : Nat) (st : List Nat) : Prop := (st.length : Int) = hgt bs k ∧ ∀ (i a : Nat), st[i]? = some a → a < k ∧ bs.getD a 0 = 1 ∧ hgt bs a = i ∧ ∀ j, a < j → j ≤ k → hgt bs a < hgt bs j
theorem stk_start (bs : List Int) : StkI bs 0 [] := ⟨by rw [hgt_zero]; rfl, fun i a h => by simp at h⟩
theorem stk_push {bs : List Int} {k : Nat} {st : List Nat} (h : StkI bs k st) (h1 : bs.getD k 0 = 1) : StkI bs (k + 1) (st ++ [k]) := by
  have hs := hgt_succ bs k
  obtain ⟨hl, ha⟩ := h
  refine ⟨by rw [List.length_append, List.length_singleton]; push_cast; omega, fun i a e => ?_⟩
  rcases Nat.lt_or_ge i st.length with z | z
  · rw [List.getElem?_append_left z] at e
    obtain ⟨a1, a2, a3, a4⟩ := ha i a e
    refine ⟨by omega, a2, a3, fun j j1 j2 => ?_⟩
    rcases Nat.lt_or_ge k j with w | w
    · have := a4 k a1 (Nat.le_refl _)
      rw [show j = k + 1 by omega]; omega
    · exact a4 j j1 w
  · rw [List.getElem?_append_right z] at e
    have hi : i - st.length = 0 := by
      rcases Nat.eq_zero_or_pos (i - st.length) with w | w
      · exact w
      · rw [List.getElem?_eq_none (by rw [List.length_singleton]; omega)] at e; cases e
    rw [hi] at e
    obtain rfl : k = a := Option.some.inj e
    exact ⟨by omega, h1, by omega, fun j j1 j2 => by rw [show j = k + 1 by omega]; omega⟩
theorem stk_top {bs : List Int} {k a : Nat} {st : List Nat} (h : StkI bs k (st ++ [a])) (hk : k < bs.length) (h0 : bs.getD k 0 = 0) : Pair bs a k := by
  have hs := hgt_succ bs k
  obtain ⟨hl, ha⟩ := h
  rw [List.length_append, List.length_singleton] at hl
  obtain ⟨a1, a2, a3, a4⟩ := ha st.length a (by rw [List.getElem?_append_right (Nat.le_refl _), Nat.sub_self]; rfl)
  exact ⟨a1, hk, a2, h0, by push_cast at hl; omega, fun j j1 j2 => a4 j j1 j2⟩
theorem stk_pop {bs : List Int} {k a : Nat} {st : List Nat} (h : StkI bs k (st ++ [a])) (h0 : bs.getD k 0 = 0) : StkI bs (k + 1) st := by
  have hs := hgt_succ bs k
  obtain ⟨hl, ha⟩ := h
  rw [List.length_append, List.length_singleton] at hl
  push_cast at hl
  refine ⟨by omega, fun i b e => ?_⟩
  have hi := (List.getElem?_eq_some_iff.mp e).1
  obtain ⟨a1, a2, a3, a4⟩ := ha i b (by rw [List.getElem?_append_left hi]; exact e)
  refine ⟨by omega, a2, a3, fun j j1 j2 => ?_⟩
  rcases Nat.lt_or_ge k j with w | w
  · rw [show j = k + 1 by omega]; omega
  · exact a4 j j1 w
theorem stk_far {bs : List Int} (hI : IsTree bs) {k : Nat} {st : List Nat} (h : StkI bs (k + 1) st) (hk : k < bs.length) (h1 : bs.getD k 0 = 1) {p : Int} (hp : 0 ≤ p) {r : Option Nat} (u : FurO bs k p r) : r = if p < (st.length : Int) then st[st.length - 1 - p.toNat]? else none := by
  have hs := hgt_succ bs k
  have h0 := hgt_nonneg hI (Nat.le_of_lt hk)
  obtain ⟨hl, ha⟩ := h
  by_cases c : p < (st.length : Int)
  · rw [if_pos c]
    have hi : st.length - 1 - p.toNat < st.length := by omega
    have e := List.getElem?_eq_getElem hi
    obtain ⟨a1, a2, a3, a4⟩ := ha _ _ e
    rw [e]
    generalize st[st.length - 1 - p.toNat] = a at a1 a2 a3 a4
    cases r with
    | none =>
      have u : hgt bs k < p := u
      omega
    | some r =>
      congr 1
      rcases u with ⟨rfl, rfl⟩ | ⟨u1, u2, u3, u4, u5⟩
      · rcases Nat.lt_or_ge a r with z | z
        · have := a4 r z (by omega); omega
        · omega
      · rcases Nat.lt_trichotomy r a with z | z | z
        · have := u5 a z (by omega); omega
        · exact z
        · have := a4 r z (by omega); omega
  · rw [if_neg c]
    cases r with
    | none => rfl
    | some r =>
      rcases u with ⟨rfl, rfl⟩ | ⟨u1, u2, u3, u4, u5⟩
      · omega
      · have := hgt_nonneg hI (show r ≤ bs.length by omega); omega
/-- the pile, as it is kept: each opening bracket with its closing one -/
def PileH (bs : List Int) (H : Hp) (xs : List V) (st : List Nat) : Prop := xs.length = st.length ∧ ∀ (i : Nat) (x : V) (a : Nat), xs[i]? = some x → st[i]? = some a → ∃ (t : Addr) (c : Nat), x = .ref t ∧ H t = some (.tup [.int (a : Int), .int (c : Int)]) ∧ Pair bs a c
theorem PileH.same {bs : List Int} {H H' : Hp} {xs : List V} {st : List Nat} (h : PileH bs H xs st) (s : Same H H') : PileH bs H' xs st := ⟨h.1, fun i x a e1 e2 => by
  obtain ⟨t, c, r1, r2, r3⟩ := h.2 i x a e1 e2
  exact ⟨t, c, r1, s.get r2, r3⟩⟩
theorem PileH.put {bs : List Int} {H : Hp} {xs ys zs : List V} {st : List Nat} {l : Addr} (h : PileH bs H xs st) (e : H l = some (.lst ys)) : PileH bs (upd H l (.lst zs)) xs st := ⟨h.1, fun i x a e1 e2 => by
  obtain ⟨t, c, r1, r2, r3⟩ := h.2 i x a e1 e2
  exact ⟨t, c, r1, by rw [upd_ne (fun z => by rw [z, e] at r2; cases r2)]; exact r2, r3⟩⟩
theorem PileH.push {bs : List Int} {H : Hp} {xs : List V} {st : List Nat} {t : Addr} {a c : Nat} (h : PileH bs H xs st) (e : H t = some (.tup [.int (a : Int), .int (c : Int)])) (p : Pair bs a c) : PileH bs H (xs ++ [.ref t]) (st ++ [a]) := by
  refine ⟨by rw [List.length_append, List.length_append, h.1]; rfl, fun i x b e1 e2 => ?_⟩
  rcases Nat.lt_or_ge i st.length with z | z
  · rw [List.getElem?_append_left z] at e2
    rw [List.getElem?_append_left (by rw [h.1]; exact z)] at e1
    exact h.2 i x b e1 e2
  · rw [List.getElem?_append_right z] at e2
    rw [List.getElem?_append_right (by rw [h.1]; exact z), h.1] at e1
    have hi : i - st.length = 0 := by
      rcases Nat.eq_zero_or_pos (i - st.length) with w | w
      · exact w
      · rw [List.getElem?_eq_none (by rw [List.length_singleton]; omega)] at e2; cases e2
    rw [hi] at e1 e2
    obtain rfl : V.ref t = x := Option.some.inj e1
    obtain rfl : a = b := Option.some.inj e2
    exact ⟨t, c, rfl, e, p⟩
theorem PileH.nil (bs : List Int) (H : Hp) : PileH bs H [] [] := ⟨rfl, fun i x a e1 e2 => by simp at e1⟩
theorem PileH.pop {bs : List Int} {H : Hp} {xs : List V} {st : List Nat} {x : V} {a : Nat} (h : PileH bs H (xs ++ [x]) (st ++ [a])) : PileH bs H xs st ∧ ∃ (t : Addr) (c : Nat), x = .ref t ∧ H t = some (.tup [.int (a : Int), .int (c : Int)]) ∧ Pair bs a c := by
  have hl : xs.length = st.length := by have := h.1; rw [List.length_append, List.length_append, List.length_singleton, List.length_singleton] at this; omega
  refine ⟨⟨hl, fun i y b e1 e2 => ?_⟩, ?_⟩
  · have i1 := (List.getElem?_eq_some_iff.mp e1).1
    exact h.2 i y b (by rw [List.getElem?_append_left i1]; exact e1) (by rw [List.getElem?_append_left (by omega)]; exact e2)
  · exact h.2 st.length x a (by rw [List.getElem?_append_right (by omega), hl, Nat.sub_self]; rfl) (by rw [List.getElem?_append_right (Nat.le_refl _), Nat.sub_self]; rfl)
theorem pile_dp {K : PySem.W.Frag} {H : Hp} : ∀ xs : List V, (∀ x ∈ xs, ∃ (t : Addr) (a c : Int), x = .ref t ∧ H t = some (.tup [.int a, .int c])) → ∃ ds, DpAll K H xs ds ∧ ds.length = xs.length ∧ ∀ d ∈ ds, laid 63 d
  | [], _ => ⟨[], .nil, rfl, fun d hd => by cases hd⟩
  | x :: xs, h => by
    obtain ⟨ds, h1, h2, h3⟩ := pile_dp (K := K) xs fun y hy => h y (List.mem_cons_of_mem _ hy)
    obtain ⟨t, a, c, rfl, e⟩ := h x List.mem_cons_self
    refine ⟨.tuple [.int a, .int c] :: ds, .cons (.tup (.of e) (.cons (.int a) (.cons (.int c) .nil))) h1, by rw [List.length_cons, List.length_cons, h2], fun d hd => ?_⟩
    rcases List.mem_cons.mp hd with rfl | z
    · refine laid_tup (n := 62) fun d hd => ?_
      simp only [List.mem_cons, List.not_mem_nil, or_false] at hd
      rcases hd with rfl | rfl
      · exact laid_int _
      · exact laid_int _
    · exact h3 d z
theorem k_eqPile {K : PySem.W.Frag} {H : Hp} {Q : VK} {bs : List Int} {pp pn : Addr} {xs : List V} {st : List Nat} (h : H pp = some (.lst xs)) (hP : PileH bs H xs st) (e : H pn = some (.lst [])) (q : Q (.bl (decide (st = []))) H) : rEqD K (.ref pp) (.ref pn) H Q := by
  obtain ⟨ds, d1, d2, d3⟩ := pile_dp (K := K) (H := H) xs fun x hx => by
    obtain ⟨i, hi⟩ := List.mem_iff_getElem?.mp hx
    have il := (List.getElem?_eq_some_iff.mp hi).1
    obtain ⟨t, c, r1, r2, _⟩ := hP.2 i x _ hi (List.getElem?_eq_getElem (by rw [← hP.1]; exact il))
    exact ⟨t, _, _, r1, r2⟩
  refine k_eqD (d := .list ds) (e := .list []) (.lst (.of h) d1) (.lst (.of e) .nil) (laid_list d3) (laid_list fun d hd => by cases hd) ?_
  have ee : PyData.eqv (.list ds) (.list []) = decide (st = []) := by
    have hl := hP.1
    cases ds with
    | nil =>
      have : st = [] := List.eq_nil_of_length_eq_zero (by rw [← hl, ← d2]; rfl)
      rw [this]; simp [PyData.eqv, PyData.eqvAll]
    | cons d ds =>
      have : ¬ st = [] := fun z => by rw [z] at hl; rw [List.length_cons] at d2; simp at hl; rw [hl] at d2; simp at d2
      rw [decide_eq_false this]; simp [PyData.eqv, PyData.eqvAll]
  rw [ee]; exact q

/-- the nodes whose brackets are open -/
def PathN (ds : List Int) (st ms : List Nat) : Prop := ms.length = st.length ∧ ∀ (i a m : Nat), st[i]? = some a → ms[i]? = some m → PlaceOf ds m a
theorem pathN_push {ds : List Int} {st ms : List Nat} {a m : Nat} (h : PathN ds st ms) (P : PlaceOf ds m a) : PathN ds (st ++ [a]) (ms ++ [m]) := by
  refine ⟨by rw [List.length_append, List.length_append, h.1]; rfl, fun i b n e1 e2 => ?_⟩
  rcases Nat.lt_or_ge i st.length with z | z
  · rw [List.getElem?_append_left z] at e1
    rw [List.getElem?_append_left (by rw [h.1]; exact z)] at e2
    exact h.2 i b n e1 e2
  · rw [List.getElem?_append_right z] at e1
    rw [List.getElem?_append_right (by rw [h.1]; exact z), h.1] at e2
    have hk : i - st.length = 0 := by
      rcases Nat.eq_zero_or_pos (i - st.length) with w | w
      · exact w
      · rw [List.getElem?_eq_none (by rw [List.length_singleton]; omega)] at e1; cases e1
    rw [hk] at e1 e2
    obtain rfl : a = b := Option.some.inj e1
    obtain rfl : m = n := Option.some.inj e2
    exact P
theorem pathN_pop {ds : List Int} {st ms : List Nat} {a m : Nat} (h : PathN ds (st ++ [a]) (ms ++ [m])) : PathN ds st ms ∧ PlaceOf ds m a := by
  have hl : ms.length = st.length := by have := h.1; rw [List.length_append, List.length_append, List.length_singleton, List.length_singleton] at this; omega
  refine ⟨⟨hl, fun i b n e1 e2 => ?_⟩, h.2 st.length a m (by rw [List.getElem?_append_right (Nat.le_refl _), Nat.sub_self]; rfl) (by rw [List.getElem?_append_right (by omega), hl, Nat.sub_self]; rfl)⟩
  have i1 := (List.getElem?_eq_some_iff.mp e1).1
  exact h.2 i b n (by rw [List.getElem?_append_left i1]; exact e1) (by rw [List.getElem?_append_left (by omega)]; exact e2)
theorem snocN {ms : List Nat} (h : 0 < ms.length) : ∃ r m, ms = r ++ [m] := by
  obtain ⟨r, m, e⟩ : ∃ r m, ms = r ++ [m] := ⟨ms.dropLast, ms.getLast (by intro z; rw [z] at h; simp at h), (List.dropLast_concat_getLast _).symm⟩
  exact ⟨r, m, e⟩

/-- the brackets met, each with its node -/
def RowsB (ds : List Int) (H : Hp) (xs : List V) : Prop := ∀ (k : Nat) (x : V), xs[k]? = some x → ∃ (t : Addr) (m : Nat), x = .ref t ∧ H t = some (.tup [.int (m : Int), .bl (decide ((brk ds).getD k 0 = 1))]) ∧ NodeAt ds k m
theorem RowsB.same {ds : List Int} {H H' : Hp} {xs : List V} (h : RowsB ds H xs) (s : Same H H') : RowsB ds H' xs := fun k x e => by
  obtain ⟨t, m, r1, r2, r3⟩ := h k x e
  exact ⟨t, m, r1, s.get r2, r3⟩
theorem RowsB.put {ds : List Int} {H : Hp} {xs ys zs : List V} {l : Addr} (h : RowsB ds H xs) (e : H l = some (.lst ys)) : RowsB ds (upd H l (.lst zs)) xs := fun k x q => by
  obtain ⟨t, m, r1, r2, r3⟩ := h k x q
  exact ⟨t, m, r1, by rw [upd_ne (fun z => by rw [z, e] at r2; cases r2)]; exact r2, r3⟩
theorem RowsB.push {ds : List Int} {H : Hp} {xs : List V} {t : Addr} {m : Nat} (h : RowsB ds H xs) (e : H t = some (.tup [.int (m : Int), .bl (decide ((brk ds).getD xs.length 0 = 1))])) (n : NodeAt ds xs.length m) : RowsB ds H (xs ++ [.ref t]) := fun k x q => by
  rcases Nat.lt_or_ge k xs.length with z | z
  · rw [List.getElem?_append_left z] at q
    exact h k x q
  · rw [List.getElem?_append_right z] at q
    have hk : k - xs.length = 0 := by
      rcases Nat.eq_zero_or_pos (k - xs.length) with w | w
      · exact w
      · rw [List.getElem?_eq_none (by rw [List.length_singleton]; omega)] at q; cases q
    rw [hk] at q
    obtain rfl : V.ref t = x := Option.some.inj q
    obtain rfl : k = xs.length := by omega
    exact ⟨t, m, rfl, e, n⟩
theorem RowsB.moveH {q : Option Addr} {h : Addr} {ds : List Int} {H H' : Hp} {xs : List V} (r : RowsB ds H xs) (s : SameH q h H H') : RowsB ds H' xs := fun k x e => by
  obtain ⟨t, m, r1, r2, r3⟩ := r k x e
  exact ⟨t, m, r1, s.tup r2, r3⟩
structure BrkSt (ds : List Int) (H H' : Hp) (p1 p2 : Addr) (k : Nat) (st ms : List Nat) (xs : List V) : Prop where
  s : Same H H'
  e1 : H' p1 = some (.lst xs)
  e2 : H' p2 = some (.lst ((ms.map Int.ofNat).map V.int))
  len : xs.length = k
  kl : k ≤ (brk ds).length
  stk : StkI (brk ds) k st
  pth : PathN ds st ms
  rows : RowsB ds H' xs
abbrev popT (K : PySem.W.Frag) : TS := tDrop (tBM K "list" rAppend (tVar 1) (tCons (tTup (tCons (tBM0 K "list" rPop (tVar 2)) (tCons (tC (.bl false)) tNil))) tNil))
theorem pop_step {K : PySem.W.Frag} {ds : List Int} {H H' : Hp} {p1 p2 : Addr} {k : Nat} {st ms : List Nat} {xs : List V} {pd : V} {v3 : Option V} {nx bk ct : L2.St → Hp → Prop} {rt : VK} (B : BrkSt ds H H' p1 p2 k st ms xs) (h1 : H p1 = none) (h2 : H p2 = none) (n12 : p1 ≠ p2) (hk : k < (brk ds).length) (hk4 : (brk ds).length ≤ 4096) (h0 : (brk ds).getD k 0 = 0) (hm : 0 < ms.length)
    (q : ∀ H'' st' ms' xs', BrkSt ds H H'' p1 p2 (k + 1) st' ms' xs' → ms.length = ms'.length + 1 → nx [some pd, some (.ref p1), some (.ref p2), v3] H'') : popT K (Ends.mk nx rt bk ct) [some pd, some (.ref p1), some (.ref p2), v3] H' := by
  obtain ⟨ms', m, rfl⟩ := snocN hm
  have hml := B.pth.1
  rw [List.length_append, List.length_singleton] at hml
  obtain ⟨st', a, rfl⟩ := snocN (show 0 < st.length by omega)
  obtain ⟨hP, Pm⟩ := pathN_pop B.pth
  have Pr := stk_top B.stk hk h0
  have Sp := stk_pop B.stk h0
  have e2 := B.e2
  rw [List.map_append, List.map_append] at e2
  unfold popT
  walk_at "st"
  refine k_tyL (.of B.e1) ?_
  walk_at "st"
  refine k_tyL (.of B.e2) ?_
  walk_at "st"
  refine k_pop e2 ?_
  have s1 : Same H (upd H' p2 (.lst ((ms'.map Int.ofNat).map V.int))) := Same.mut B.s h2 ⟨_, B.e2⟩
  have e11 : (upd H' p2 (.lst ((ms'.map Int.ofNat).map V.int))) p1 = some (.lst xs) := (upd_ne n12).trans B.e1
  have e21 := upd_same (H := H') (a := p2) (o := .lst ((ms'.map Int.ofNat).map V.int))
  have R1 : RowsB ds (upd H' p2 (.lst ((ms'.map Int.ofNat).map V.int))) xs := B.rows.put B.e2
  generalize upd H' p2 (.lst ((ms'.map Int.ofNat).map V.int)) = H1 at s1 e11 e21 R1 ⊢
  walk_at "st"
  intro pt hpt
  have st1 := same_new (o := .tup [.int (m : Int), .bl false]) hpt
  have et := upd_same (H := H1) (a := pt) (o := .tup [.int (m : Int), .bl false])
  have s2 := s1.trans st1
  replace e11 := st1.get e11
  replace e21 := st1.get e21
  have R2 := R1.same st1
  generalize upd H1 pt (.tup [.int (m : Int), .bl false]) = H2 at et s2 e11 e21 R2 ⊢
  walk_at "st"
  refine k_app e11 (by have := B.len; omega) ?_
  have hb : decide ((brk ds).getD xs.length 0 = 1) = false := by rw [B.len, h0]; rfl
  refine q _ st' ms' (xs ++ [.ref pt]) ⟨Same.mut s2 h1 ⟨_, e11⟩, upd_same, (upd_ne n12.symm).trans e21, by rw [List.length_append, B.len]; rfl, hk, Sp, hP, ?_⟩ (by rw [List.length_append]; rfl)
  refine RowsB.put (R2.push (by rw [hb]; exact et) ?_) e11
  rw [B.len]
  exact .inr ⟨h0, a, Pr, Pm⟩
/-- _law_brackets(depths): each bracket's node, and whether it opens -/
def sp_law_brackets (K : PySem.W.Frag) : Sp := fun vs H Q _ => ∃ (a : Addr) (ds : List Int), vs = [.ref a] ∧ H a = some (.lst (ds.map V.int)) ∧ Deep ds ∧ ds.length ≤ 2048 ∧ ∀ p xs H', H p = none → Same H H' → H' p = some (.lst xs) → xs.length = (brk ds).length → RowsB ds H' xs → Q (.ref p) H'
theorem len_law_brackets (K : PySem.W.Frag) : ∀ vs H Q E, sp_law_brackets K vs H Q E → vs.length = 1 := by
  rintro vs H Q E ⟨a, ds, rfl, _⟩; rfl
def t_law_brackets (K : PySem.W.Frag) : TS :=
  (tSeq (tAsg (tLst tNil) (gName 1))
  (tSeq (tAsg (tLst tNil) (gName 2))
  (tSeq (tFor (iRng1 (tCons (tCB (rLen K) (tCons (tVar 0) tNil)) tNil)) (gName 3)
  (tSeq (tWhile (tTest (tOp rGtI (tCB (rLen K) (tCons (tVar 2) tNil)) (tOp (rIxL K) (tVar 0) (tVar 3))))
  (tDrop (tBM K "list" rAppend (tVar 1) (tCons (tTup (tCons (tBM0 K "list" rPop (tVar 2)) (tCons (tC (.bl false)) tNil))) tNil))))
  (tSeq (tDrop (tBM K "list" rAppend (tVar 1) (tCons (tTup (tCons (tVar 3) (tCons (tC (.bl true)) tNil))) tNil)))
  (tDrop (tBM K "list" rAppend (tVar 2) (tCons (tVar 3) tNil))))))
  (tSeq (tWhile (tTest (tOp rGtI (tCB (rLen K) (tCons (tVar 2) tNil)) (tC (.int 0))))
  (tDrop (tBM K "list" rAppend (tVar 1) (tCons (tTup (tCons (tBM0 K "list" rPop (tVar 2)) (tCons (tC (.bl false)) tNil))) tNil))))
  (tRet (tVar 1))))))
abbrev n_law_brackets : List Str := ["_law_depths_here", "_law_row", "_law_path", "_law_node"]

theorem rd_law_brackets (K : PySem.W.Frag) (vs : List V) (H : Hp) (Q : VK) (E : XK) (h : sp_law_brackets K vs H Q E) : t_law_brackets K { nx := fun _ H' => Q .non H', rt := Q } (start n_law_brackets vs) H := by
  obtain ⟨a, ds, rfl, eD, hD, hl, q⟩ := h
  have hbl := brk_len hD
  obtain ⟨hT, hB⟩ := brk_tree hD
  unfold t_law_brackets
  walk_at "st"
  intro p1 hp1
  have s1 := same_new (o := .lst []) hp1
  have e1 := upd_same (H := H) (a := p1) (o := .lst [])
  generalize upd H p1 (.lst []) = H1 at s1 e1 ⊢
  walk_at "st"
  intro p2 hp2
  have s2 := same_new (o := .lst []) hp2
  have e2 := upd_same (H := H1) (a := p2) (o := .lst [])
  have n12 : p1 ≠ p2 := ne_of_none e1 hp2
  replace e1 := s2.get e1
  have s02 := s1.trans s2
  have hp2H := s1.gone _ hp2
  generalize upd H1 p2 (.lst []) = H2 at s2 e2 e1 s02 ⊢
  have B0 : BrkSt ds H H2 p1 p2 0 [] [] [] := ⟨s02, e1, e2, rfl, Nat.zero_le _, stk_start _, ⟨rfl, fun i a m z => by simp at z⟩, fun k x z => by simp at z⟩
  walk_at "st"
  refine k_lenL (.of (s02.get eD)) ?_
  walk_at "st"
  rw [List.length_map]
  walk_at "st"
  refine loop_range0 (fun i σ' H' => ∃ (v3 : Option V) (k : Nat) (st ms : List Nat) (xs : List V), BrkSt ds H H' p1 p2 k st ms xs ∧ sumTo (brk ds) k = i ∧ σ' = [some (.ref a), some (.ref p1), some (.ref p2), v3]) ⟨none, 0, [], [], [], B0, sumTo_zero _, rfl⟩ (fun i σ' H' hi ⟨v3, k, st, ms, xs, B, hs, es⟩ => ?_) (fun σ' H' ⟨v3, k, st, ms, xs, B, hs, es⟩ => ?_)
  · subst es
    obtain ⟨pl, P⟩ := placeOf hD hi
    have hdi : ds[i]? = some (ds.getD i 0) := by rw [List.getD_eq_getElem?_getD, List.getElem?_eq_getElem hi]; rfl
    have hd0 := depth_nonneg hD i
    walk_at "st"
    refine loop_while (fun m σ' H' => ∃ (k : Nat) (st ms : List Nat) (xs : List V), m = ms.length ∧ BrkSt ds H H' p1 p2 k st ms xs ∧ sumTo (brk ds) k = i ∧ σ' = [some (.ref a), some (.ref p1), some (.ref p2), some (.int (i : Int))]) ms.length ⟨k, st, ms, xs, rfl, B, hs, rfl⟩ ?_
    rintro m σ' H3 ⟨k, st, ms, xs, rfl, B, hs, rfl⟩
    walk_at "st"
    refine k_lenL (.of B.e2) ?_
    walk_at "st"
    refine k_ixL (.of (B.s.get eD)) (at_nat (mapint hdi)) ?_
    walk_at "st"
    rw [List.length_map, List.length_map]
    have hst := B.stk.1
    have hml := B.pth.1
    have hg : hgt (brk ds) k = 2 * sumTo (brk ds) k - k := rfl
    have P1 := P.sum
    have P2 := P.eq
    walk_at "if" <;> intro c
    · have hz : (brk ds).getD k 0 = 0 := by
        rcases getD_bit hB k with z | z
        · exact z
        · obtain ⟨m', hm', P'⟩ := placeAt hD z
          have e1 := P'.sum
          obtain rfl : m' = i := by omega
          have := P'.hg
          omega
      have hkl : k < (brk ds).length := by
        have := B.kl
        rcases Nat.lt_or_ge k (brk ds).length with z | z
        · exact z
        · obtain rfl : k = (brk ds).length := by omega
          have := hT.2.1
          omega
      refine m_wbody ?_
      refine pop_step B hp1 hp2H n12 hkl (by omega) hz (by omega) fun H4 st' ms' xs' B' hm => ?_
      have hs' := sumTo_succ (brk ds) k
      exact ⟨ms'.length, by omega, k + 1, st', ms', xs', rfl, B', by omega, rfl⟩
    · have hle : k ≤ pl := one_le hB P.up (by omega)
      obtain rfl : k = pl := by omega
      have hs' := sumTo_succ (brk ds) k
      rw [P.up] at hs'
      walk_at "st"
      refine k_tyL (.of B.e1) ?_
      walk_at "st"
      intro pt hpt
      have st1 := same_new (o := .tup [.int (i : Int), .bl true]) hpt
      have et := upd_same (H := H3) (a := pt) (o := .tup [.int (i : Int), .bl true])
      have s4 := B.s.trans st1
      have e14 := st1.get B.e1
      have e24 := st1.get B.e2
      have R4 := B.rows.same st1
      generalize upd H3 pt (.tup [.int (i : Int), .bl true]) = H4 at et s4 e14 e24 R4 ⊢
      walk_at "st"
      refine k_app e14 (by have := B.len; have := B.kl; omega) ?_
      have hb : decide ((brk ds).getD xs.length 0 = 1) = true := by rw [B.len, P.up]; rfl
      have R5 : RowsB ds (upd H4 p1 (.lst (xs ++ [.ref pt]))) (xs ++ [.ref pt]) := RowsB.put (R4.push (by rw [hb]; exact et) (by rw [B.len]; exact .inl ⟨P.up, P⟩)) e14
      have s5 : Same H (upd H4 p1 (.lst (xs ++ [.ref pt]))) := Same.mut s4 hp1 ⟨_, e14⟩
      have e15 := upd_same (H := H4) (a := p1) (o := .lst (xs ++ [.ref pt]))
      have e25 : (upd H4 p1 (.lst (xs ++ [.ref pt]))) p2 = _ := (upd_ne n12.symm).trans e24
      generalize upd H4 p1 (.lst (xs ++ [.ref pt])) = H5 at R5 s5 e15 e25 ⊢
      walk_at "st"
      refine k_tyL (.of e25) ?_
      walk_at "st"
      refine k_app e25 (by rw [List.length_map, List.length_map]; have := B.kl; omega) ?_
      refine ⟨_, k + 1, st ++ [k], ms ++ [i], xs ++ [.ref pt], ⟨Same.mut s5 hp2H ⟨_, e25⟩, (upd_ne n12).trans e15, ?_, by rw [List.length_append, B.len]; rfl, P.lt, stk_push B.stk P.up, pathN_push B.pth P, R5.put e25⟩, by omega, rfl⟩
      rw [upd_same, List.map_append, List.map_append]; rfl
  subst es
  walk_at "st"
  refine loop_while (fun m σ' H' => ∃ (v3 : Option V) (k : Nat) (st ms : List Nat) (xs : List V), m = ms.length ∧ BrkSt ds H H' p1 p2 k st ms xs ∧ sumTo (brk ds) k = ds.length ∧ σ' = [some (.ref a), some (.ref p1), some (.ref p2), v3]) ms.length ⟨v3, k, st, ms, xs, rfl, B, hs, rfl⟩ ?_
  rintro m σ' H3 ⟨v3, k, st, ms, xs, rfl, B, hs, rfl⟩
  walk_at "st"
  refine k_lenL (.of B.e2) ?_
  walk_at "st"
  rw [List.length_map, List.length_map]
  have hst := B.stk.1
  have hml := B.pth.1
  have hg : hgt (brk ds) k = 2 * sumTo (brk ds) k - k := rfl
  have hkl := B.kl
  walk_at "if" <;> intro c
  · have hz : (brk ds).getD k 0 = 0 := none_at hD hs
    refine m_wbody ?_
    refine pop_step B hp1 hp2H n12 (by omega) (by omega) hz (by omega) fun H4 st' ms' xs' B' hm => ?_
    have hs' := sumTo_succ (brk ds) k
    exact ⟨ms'.length, by omega, v3, k + 1, st', ms', xs', rfl, B', by omega, rfl⟩
  · walk_at "st"
    exact q p1 xs H3 hp1 B.s B.e1 (by have := B.len; omega) B.rows

/-- what a look leans on: code alone -/
def extOf (H : Hp) : Hp := fun b => match H b with
  | some (.ext φ) => some (.ext φ)
  | _ => none
theorem extOf_ext {H : Hp} {b : Addr} {φ : Heap → Prop} (e : H b = some (.ext φ)) : extOf H b = some (.ext φ) := by unfold extOf; rw [e]
theorem extOf_only {H : Hp} {b : Addr} {o : HO} (e : extOf H b = some o) : ∃ φ, o = .ext φ ∧ H b = some (.ext φ) := by
  unfold extOf at e
  split at e
  · rename_i φ h
    exact ⟨φ, (Option.some.inj e).symm, h⟩
  · cases e
/-- _law_look(blocks, seen): a look that writes down what it is asked for -/
def sp_law_look_law_told (_ : PySem.W.Frag) (_ : CLs) (_ : Nat) (ws vs : List V) (H : Hp) (Q : VK) : Prop := ∃ (ps pb : Addr) (L bl : List Int) (k : Int), ws = [.ref ps, .ref pb] ∧ vs = [.int k] ∧ H ps = some (.lst (L.map V.int)) ∧ L.length < 100000 ∧ ps ≠ pb ∧ H pb = some (.lst (bl.map V.int)) ∧
  Q (if 0 ≤ k ∧ k < (bl.map V.int).length then (bl.map V.int).getD k.toNat .non else .int 0) (upd H ps (.lst ((L ++ [k]).map V.int)))
theorem len_law_look_law_told (K : PySem.W.Frag) (CL : CLs) (j : Nat) : ∀ ws vs H Q, sp_law_look_law_told K CL j ws vs H Q → vs.length = 1 := by
  rintro ws vs H Q ⟨p, xs, i, x, k, rfl, rfl, _⟩; rfl
def sp_law_look (K : PySem.W.Frag) (CL : CLs) : Sp := fun vs H Q _ => ∃ (pb ps : Addr) (bl : List Int) (L : List V), vs = [.ref pb, .ref ps] ∧ ps ≠ pb ∧ H ps = some (.lst L) ∧ H pb = some (.lst (bl.map V.int)) ∧ NdefX.TabN H (tabP K "_law_look") nmL ∧ ∀ g H', H g = none → Same H H' → LogLook CL 1 g ps pb (bl.map V.int) (.int 0) (extOf H') → Q (.ref g) H'
theorem len_law_look (K : PySem.W.Frag) (CL : CLs) : ∀ vs H Q E, sp_law_look K CL vs H Q E → vs.length = 2 := by
  rintro vs H Q E ⟨a, b, c, xs, rfl, _⟩; rfl
def t_law_look_law_told (K : PySem.W.Frag) (CL : CLs) (j : Nat) : TS :=
  (tSeq (tDrop (tBM K "list" rAppend (tVar 1) (tCons (tVar 0) tNil)))
  (tSeq (tIfS (tTest (tChain rLe rLt (tC (.int 0)) (tVar 0) (tCB (rLen K) (tCons (tVar 2) tNil))))
  (tRet (tOp (rIxL K) (tVar 2) (tVar 0)))
  tNext)
  (tRet (tC (.int 0)))))
abbrev n_law_look_law_told : List Str := ["_law_number", "_law_seen", "_law_blocks"]
def tp_law_look (K : PySem.W.Frag) (P : Addr) (mk : Addr → NdefX.NF) : TS :=
  (tNdefC P 2 mk)
def te_law_look (K : PySem.W.Frag) (P : Addr) (mk : Addr → NdefX.NF) : TE :=
  (tVar 2)
def t_law_look (K : PySem.W.Frag) (P : Addr) (mk : Addr → NdefX.NF) (G : V → L2.St → Hp → Prop) : L2.St → Hp → Prop := tp_law_look K P mk (Ends.mk (fun σ' H' => te_law_look K P mk σ' H' fun v H'' => G v σ' H'') (fun _ _ => False) (fun _ _ => False) (fun _ _ => False))
abbrev n_law_look : List Str := ["_law_blocks", "_law_seen", "_law_told"]

theorem rd_law_look_law_told (K : PySem.W.Frag) (CL : CLs) (j : Nat) (vs ws : List V) (H : Hp) (Q : VK) (h : sp_law_look_law_told K CL j ws vs H Q) : t_law_look_law_told K CL j { nx := fun _ H' => Q .non H', rt := Q } (NdefX.startF n_law_look_law_told vs (ws.map some)) H := by
  obtain ⟨ps, pb, L, bl, k, rfl, rfl, e, hl, nb, hS, q⟩ := h
  unfold t_law_look_law_told
  walk_at "st"
  refine k_tyL (.of e) ?_
  walk_at "st"
  refine k_app e (by rw [List.length_map]; exact hl) ?_
  walk_at "st"
  have hS2 : (upd H ps (.lst (L.map V.int ++ [V.int k]))) pb = some (.lst (bl.map V.int)) := by rw [upd_ne nb.symm]; exact hS
  have eL : L.map V.int ++ [V.int k] = (L ++ [k]).map V.int := by rw [List.map_append]; rfl
  rw [← eL] at q
  walk_at "if" <;> intro c0
  · walk_at "st"
    refine k_lenL (.of hS2) ?_
    walk_at "st"
    rw [List.length_map]
    walk_at "if" <;> intro c1
    · walk_at "st"
      have hk : k.toNat < bl.length := by omega
      refine k_ixL (.of hS2) (at_int c0 (mapint (List.getElem?_eq_getElem hk))) ?_
      walk_at "st"
      rw [if_pos ⟨c0, by rw [List.length_map]; exact c1⟩, List.getD_eq_getElem?_getD, mapint (List.getElem?_eq_getElem hk)] at q
      exact q
    · walk_at "st"
      rw [if_neg (by rw [List.length_map]; omega)] at q
      exact q
  · walk_at "st"
    rw [if_neg (by omega)] at q
    exact q
theorem rd_law_look (K : PySem.W.Frag) (CL : CLs) (P : Addr) (hP : P = tabP K "_law_look") (mk : Addr → NdefX.NF) (vs : List V) (H : Hp) (Q : VK) (E : XK) (h : sp_law_look K CL vs H Q E) (G : V → L2.St → Hp → Prop)
(hG : ∀ v σ' H'', (∀ C dC H', Upg CL 0 NdefX.FnO mk [1, 0] (sp_law_look_law_told K CL) C dC σ' H'' H' → Q v H') → G v σ' H'')
    : t_law_look K P mk G (start n_law_look vs) H := by
  subst hP
  obtain ⟨pb, ps, bl, L, rfl, nb, hs, hS, hT, q⟩ := h
  unfold t_law_look tp_law_look te_law_look
  walk_at "st"
  refine m_ndefC hT fun f c' H1 s1 f0 f1 c1 => ?_
  walk_at "st"
  refine hG _ _ _ fun C dC H' u => ?_
  refine q f H' f0 (s1.trans u.up) fun H3 s3 => ⟨?_, fun L k Q3 e3 hl3 hS3 q3 => ?_⟩
  · exact (isFn_fno (extOf_ext (u.up.keep _ _ f1 fnO_ext))).ext s3
  · have hx3 : ∀ b φ, H' b = some (.ext φ) → H3 b = some (.ext φ) := fun b φ e => s3 b _ (extOf_ext e) fun _ z => nomatch z
    have ns : ¬ C ps := upg_out u (s1.get hs)
    have np : ¬ C pb := upg_out u (s1.get hS)
    refine u.law f c' f1 c1 [.ref ps, .ref pb] rfl 0 H3 _ Q3 hx3 ⟨ps, pb, L, bl, k, rfl, rfl, (hide_out ns).trans e3, hl3, nb, (hide_out np).trans hS3, ?_⟩
    show Q3 _ (unhide C H3 (upd (hide C H3) ps _))
    rw [unhide_upd ns]
    exact q3

theorem dp_ib {K : PySem.W.Frag} {H : Hp} {t : Addr} {m : Int} {b : Bool} (h : SqT K H t [.int m, .bl b]) : Dp K H (.ref t) (.tuple [.int m, .bool b]) := .tup h (.cons (.int m) (.cons (.bl b) .nil))
theorem laid_ib (m : Int) (b : Bool) : laid 64 (.tuple [.int m, .bool b]) := laid_tup (n := 63) fun d hd => by
  simp only [List.mem_cons, List.not_mem_nil, or_false] at hd
  rcases hd with rfl | rfl
  · exact laid_int _
  · exact laid_bool _

theorem eqv_ib (m n : Int) (b c : Bool) : PyData.eqv (.tuple [.int m, .bool b]) (.tuple [.int n, .bool c]) = decide (m = n ∧ b = c) := by
  unfold PyData.eqv PyData.eqvAll
  unfold PyData.eqv PyData.eqvAll
  unfold PyData.eqv PyData.eqvAll
  by_cases h1 : m = n <;> by_cases h2 : b = c <;> simp [h1, h2]
theorem k_neIB {K : PySem.W.Frag} {H : Hp} {Q : VK} {t u : Addr} {m n : Int} {b c : Bool} (h1 : SqT K H t [.int m, .bl b]) (h2 : SqT K H u [.int n, .bl c]) (q : Q (.bl (!decide (m = n ∧ b = c))) H) : rNeD K (.ref t) (.ref u) H Q :=
  k_neD (dp_ib h1) (dp_ib h2) (laid_ib _ _) (laid_ib _ _) (by rw [eqv_ib]; exact q)
theorem k_eqIB {K : PySem.W.Frag} {H : Hp} {Q : VK} {t u : Addr} {m n : Int} {b c : Bool} (h1 : SqT K H t [.int m, .bl b]) (h2 : SqT K H u [.int n, .bl c]) (q : Q (.bl (decide (m = n ∧ b = c))) H) : rEqD K (.ref t) (.ref u) H Q :=
  k_eqD (dp_ib h1) (dp_ib h2) (laid_ib _ _) (laid_ib _ _) (by rw [eqv_ib]; exact q)

/-- a row of brackets as data -/
theorem rows_dp {K : PySem.W.Frag} {H : Hp} (ds : List Int) : ∀ (xs : List V) (o : Nat), (∀ (k : Nat) (x : V), xs[k]? = some x → ∃ (t : Addr) (m : Nat), x = .ref t ∧ H t = some (.tup [.int (m : Int), .bl (decide ((brk ds).getD (o + k) 0 = 1))]) ∧ NodeAt ds (o + k) m) →
    ∃ dd : List PyData, DpAll K H xs dd ∧ dd.length = xs.length ∧ ∀ (k : Nat) (z : PyData), dd[k]? = some z → ∃ m : Nat, z = .tuple [.int (m : Int), .bool (decide ((brk ds).getD (o + k) 0 = 1))] ∧ NodeAt ds (o + k) m
  | [], o, _ => ⟨[], .nil, rfl, fun k z e => by simp at e⟩
  | x :: xs, o, h => by
    obtain ⟨t, m, rfl, et, hN⟩ := h 0 x rfl
    obtain ⟨dd, h1, h2, h3⟩ := rows_dp ds xs (o + 1) fun k y e => by
      have := h (k + 1) y e
      rw [show o + 1 + k = o + (k + 1) by omega]
      exact this
    refine ⟨.tuple [.int (m : Int), .bool (decide ((brk ds).getD (o + 0) 0 = 1))] :: dd, .cons (.tup (.of et) (.cons (.int _) (.cons (.bl _) .nil))) h1, by rw [List.length_cons, List.length_cons, h2], fun k z e => ?_⟩
    cases k with
    | zero => obtain rfl := Option.some.inj e; exact ⟨m, rfl, hN⟩
    | succ k =>
      have := h3 k z e
      rw [show o + 1 + k = o + (k + 1) by omega] at this
      exact this
theorem node_uniq {ds : List Int} (hD : Deep ds) {i j m : Nat} (a : NodeAt ds i m) (b : NodeAt ds j m) (e : decide ((brk ds).getD i 0 = 1) = decide ((brk ds).getD j 0 = 1)) : i = j := by
  rcases a with ⟨a1, pa⟩ | ⟨a0, c, hc, pa⟩
  · rcases b with ⟨_, pb⟩ | ⟨b0, d, hd, pb⟩
    · exact pa.u hD pb
    · rw [a1, b0] at e; simp at e
  · rcases b with ⟨b1, pb⟩ | ⟨_, d, hd, pb⟩
    · rw [a0, b1] at e; simp at e
    · obtain rfl := pa.u hD pb
      exact hc.uc hd
/-- row.index((node, opening)) -/
theorem k_rowIndex {K : PySem.W.Frag} {H : Hp} {Q : VK} {pr t : Addr} {ds : List Int} {xs : List V} {j m : Nat} {b : Bool} (hD : Deep ds) (er : H pr = some (.lst xs)) (hR : RowsB ds H xs) (hj : j < xs.length) (hN : NodeAt ds j m) (hb : b = decide ((brk ds).getD j 0 = 1)) (et : H t = some (.tup [.int (m : Int), .bl b])) (q : Q (.int (j : Int)) H) : rIndexD K (.ref pr) [.ref t] H Q := by
  obtain ⟨dd, h1, h2, h3⟩ := rows_dp (K := K) ds xs 0 fun k x e => by
    rw [Nat.zero_add]; exact hR k x e
  have lay : ∀ d ∈ dd, laid 63 d := fun d hd => by
    obtain ⟨k, hk⟩ := List.mem_iff_getElem?.mp hd
    obtain ⟨m', rfl, _⟩ := h3 k d hk
    refine laid_tup (n := 62) fun d hd => ?_
    simp only [List.mem_cons, List.not_mem_nil, or_false] at hd
    rcases hd with rfl | rfl
    · exact laid_int _
    · exact laid_bool _
  have hz : dd[j]? = some (dd[j]'(by omega)) := List.getElem?_eq_getElem (by omega)
  obtain ⟨m', ez, hN'⟩ := h3 j _ hz
  rw [Nat.zero_add] at ez hN'
  obtain rfl := hN.u hN'
  refine ⟨pr, .ref t, .tuple [.int (m : Int), .bool b], dd, j, _, rfl, rfl, .lst (.of er) h1, .tup (.of et) (.cons (.int _) (.cons (.bl _) .nil)), laid_shaped (laid_list lay), laid_shaped (laid_ib _ _), hz, ?_, fun i z hi hz' => ?_, q⟩
  · rw [ez, eqv_ib]; exact decide_eq_true ⟨rfl, hb.symm⟩
  · obtain ⟨m2, rfl, hN2⟩ := h3 i z hz'
    rw [Nat.zero_add] at hN2 ⊢
    rw [eqv_ib]
    refine decide_eq_false fun ⟨e1, e2⟩ => ?_
    obtain rfl : m2 = m := by omega
    have := node_uniq hD hN2 hN (by rw [e2, hb])
    omega

--#base
/-- few of what was asked for -/
theorem few_asked {L2 : List Nat} {n : Nat} {m : Nat} (hL : L2.length ≤ m) (hm : m ≤ 100) (hr : ∀ j ∈ L2, j < n) :
    ([] ++ L2.map Int.ofNat : List Int).length ≤ 4000 ∧ (∀ x ∈ ([] ++ L2.map Int.ofNat : List Int), 0 ≤ x ∧ x < (n : Int)) ∧ (unlike ([] ++ L2.map Int.ofNat) : Int) ≤ (m : Int) := by
  have e : ([] ++ L2.map Int.ofNat : List Int).length = L2.length := by rw [List.nil_append, List.length_map]
  refine ⟨by omega, fun x hx => ?_, by have := unlike_le ([] ++ L2.map Int.ofNat); omega⟩
  rw [List.nil_append] at hx
  obtain ⟨k, hk, rfl⟩ := List.mem_map.mp hx
  have := hr k hk
  show (0 : Int) ≤ (k : Int) ∧ (k : Int) < _
  omega

theorem sameX_put {H : Hp} {p : Addr} {xs zs : List V} (e : H p = some (.lst xs)) : SameX (some p) H (upd H p (.lst zs)) :=
  SameX.of (fun b z => by cases z; exact ⟨_, e⟩) (fun b z => by cases z; exact ⟨_, upd_same⟩) fun b o n eb => by rw [upd_ne fun z => n (by rw [z])]; exact eb
theorem newOf_none {H H' : Hp} {b : Addr} (h : H' b = none) : newOf H H' b = none := by
  cases e : newOf H H' b with
  | none => rfl
  | some o => have := newOf_sub e; rw [h] at this; cases this
/-- what is asked for is written in the list at ps, which may be emptied -/
def SeenI (ps : Addr) (I : List Nat → Hp → Prop) : Prop := ∀ L2 H', I L2 H' → H' ps = some (.lst (([] ++ L2.map Int.ofNat : List Int).map V.int)) ∧ I [] (upd H' ps (.lst []))
theorem seenI_log {B : Hp} {ps pb : Addr} {val : List V} (hB : ∀ o, B ps = some o → ∃ φ, o = .ext φ) (nb : ps ≠ pb) : SeenI ps (LogI B ps pb val []) := fun L2 H' i => ⟨i.2.1, i.clear hB nb⟩

theorem mutI_log {B : Hp} {ps pb h : Addr} {val : List V} {L0 : List Int} (hB : B h = none) : MutI (LogI B ps pb val L0) h := by
  rintro L H C d fs fs' ⟨h1, h2, h3⟩ e
  have ne : ∀ {b : Addr} {xs : List V}, H b = some (.lst xs) → b ≠ h := fun {b xs} q z => by rw [z, e] at q; cases q
  exact ⟨fun b o q n => (upd_ne fun z => by rw [z, hB] at q; cases q).trans (h1 b o q n), (upd_ne (ne h2)).trans h2, (upd_ne (ne h3)).trans h3⟩
theorem mutI_ext {B : Hp} {h : Addr} (hB : B h = none) : MutI (fun _ H => LamX.ExtN B H) h := by
  rintro L H C d fs fs' h1 e
  exact fun b o q n => (upd_ne fun z => by rw [z, hB] at q; cases q).trans (h1 b o q n)
theorem nodeAt_zero {ds : List Int} {m : Nat} (h : NodeAt ds 0 m) : m = 0 ∧ (brk ds).getD 0 0 = 1 := by
  rcases h with ⟨h1, P⟩ | ⟨_, a, P, _⟩
  · have := P.sum
    rw [sumTo_zero] at this
    exact ⟨by omega, h1⟩
  · have := P.lt; omega
theorem at_back {xs : List V} {j : Nat} {x : V} (h : 0 < j) (h2 : j ≤ xs.length) (e : xs[xs.length - j]? = some x) : atI xs (0 - (j : Int)) = some x := by
  have e2 : ¬ (0 : Int) ≤ 0 - (j : Int) := by omega
  unfold atI L2.ixN
  rw [if_neg e2, if_pos (by omega)]
  show xs[((0 : Int) - (j : Int) + (xs.length : Int)).toNat]? = some x
  rw [show ((0 : Int) - (j : Int) + (xs.length : Int)).toNat = xs.length - j by omega]
  exact e

/-- a new list may change -/
def LstI (H : Hp) (I : List Nat → Hp → Prop) : Prop := ∀ p, H p = none → ∀ L H' xs zs, I L H' → H' p = some (.lst xs) → I L (upd H' p (.lst zs))
theorem lstI_log {H B : Hp} {ps pb : Addr} {val : List V} {L0 : List Int} (hs : H ps ≠ none) (hb : H pb ≠ none) (hB : ∀ p, H p = none → B p = none) : LstI H (LogI B ps pb val L0) := fun p hp L H' xs zs ⟨h1, h2, h3⟩ e => by
  have n1 : ps ≠ p := fun z => hs (by rw [z]; exact hp)
  have n2 : pb ≠ p := fun z => hb (by rw [z]; exact hp)
  exact ⟨fun b o q n => (upd_ne fun z => by rw [z, hB p hp] at q; cases q).trans (h1 b o q n), (upd_ne n1).trans h2, (upd_ne n2).trans h3⟩
theorem TrAt.moveQ {K : PySem.W.Frag} {CL : CLs} {H H' : Hp} {t g : Addr} {ds : List Int} {q q' : Option Addr} {I : List Nat → Hp → Prop} (a : TrAt K CL H t g ds q I) (x : SameX q' H H') : TrAt K CL H' t g ds q I :=
  ⟨a.1, a.2.1, ⟨let ⟨pa, ph, h1, h2, h3⟩ := a.2.2.tab; ⟨pa, ph, x.seqT h1, x.seqT h2, x.seqT h3⟩, a.2.2.look, a.2.2.bits, a.2.2.tree, a.2.2.len⟩⟩
theorem HandAt.moveQ {K : PySem.W.Frag} {CL : CLs} {H H' : Hp} {h t g : Addr} {s : Nat} {ds : List Int} {q q' : Option Addr} {I : List Nat → Hp → Prop} (a : HandAt K CL H h t g s ds q I) (x : SameX q' H H') : HandAt K CL H' h t g s ds q I :=
  ⟨let ⟨dx, e⟩ := a.obj; ⟨dx, x.get (x.ne e fun _ z => nomatch z) e⟩, a.tree.moveQ x, a.lt, a.mu⟩
theorem SameH.mutL {q : Option Addr} {h p : Addr} {H H' : Hp} {xs zs : List V} (Y : SameH q h H H') (hp : H p = none) (e : H' p = some (.lst xs)) : SameH q h H (upd H' p (.lst zs)) := by
  have nh : h ≠ p := fun z => by
    obtain ⟨C, d, fs, w⟩ := Y.isi'
    rw [z, e] at w; cases w
  refine ⟨fun b o n m eb z => (upd_ne fun y => by rw [y, hp] at eb; cases eb).trans (Y.keep b o n m eb z), fun b z => Y.gone b (NdefX.upd_none z), fun P T => ?_, Y.isl, fun b z => ?_, Y.isi, ?_⟩
  · obtain ⟨ps, h1, ht, hc⟩ := Y.tabs P T
    have np : ∀ {b : Addr} {u : HO}, H' b = some u → (∀ gs, u ≠ .lst gs) → b ≠ p := fun {b u} w n z => by
      subst z; rw [e] at w; cases w; exact n _ rfl
    refine ⟨ps, (upd_ne (np h1 fun _ z => nomatch z)).trans h1, ht, fun pos cv w => ?_⟩
    obtain ⟨c, e1, e2⟩ := hc pos cv w
    exact ⟨c, e1, (upd_ne (np e2 fun _ z => by unfold LamX.CodeO at z; cases z)).trans e2⟩
  · by_cases y : b = p
    · subst y; exact ⟨_, upd_same⟩
    · obtain ⟨ys, w⟩ := Y.isl' b z
      exact ⟨ys, (upd_ne y).trans w⟩
  · obtain ⟨C, d, fs, w⟩ := Y.isi'
    exact ⟨C, d, fs, (upd_ne nh).trans w⟩

/-- _law_refused(hand, node) -/
def sp_law_refused (K : PySem.W.Frag) (CL : CLs) : Sp := fun vs H Q _ => ∃ (h t g : Addr) (s : Nat) (n : Int) (ds : List Int) (q : Option Addr) (I : List Nat → Hp → Prop), vs = [.ref h, .int n] ∧ HandAt K CL H h t g s ds q I ∧ I [] H ∧ (n < 0 ∨ (ds.length : Int) ≤ n) ∧ ∀ H', I [] H' → Same H H' → Q (.bl true) H'
theorem len_law_refused (K : PySem.W.Frag) (CL : CLs) : ∀ vs H Q E, sp_law_refused K CL vs H Q E → vs.length = 2 := by
  rintro vs H Q E ⟨_, _, _, _, _, _, _, _, rfl, _⟩; rfl
theorem any8 {K : PySem.W.Frag} (F : KFx K) : PySem.W.kitAny K (.ref (He.ga K "NoNode")) ([He.ga K "TooMany", He.ga K "NoBit", He.ga K "NoPlace", He.ga K "NoTree", He.ga K "NoSign", He.ga K "NoWord", He.ga K "Twice", He.ga K "NoOctets"].map Value.ref) = some false := kitAny_no _ fun u hu => by
  simp only [List.map_cons, List.map_nil, List.mem_cons, List.not_mem_nil, or_false] at hu
  rcases hu with rfl | rfl | rfl | rfl | rfl | rfl | rfl | rfl
  · exact F.k_NoNode_TooMany
  · exact F.k_NoNode_NoBit
  · exact F.k_NoNode_NoPlace
  · exact F.k_NoNode_NoTree
  · exact F.k_NoNode_NoSign
  · exact F.k_NoNode_NoWord
  · exact F.k_NoNode_Twice
  · exact F.k_NoNode_NoOctets
def t_law_refused (K : PySem.W.Frag) (CL : CLs) : TS :=
  (tSeq (tAsg (tLst tNil) (gName 2))
  (tSeq (tTryAs K (.ref (He.ga K "NoNode")) 3 (fun W => (tDrop (tMethCS K "Hand" "to_node" (sp_Hand_to_node K CL) (WE W) (tVar 0) (tCons (tVar 1) tNil)))) (fun a cls d => (tSeq (tAsg (tCB (rIsXT K cls d a) (tCons (tVar 3) (tCons (tTup (tCons (tC (.ref (He.ga K "TooMany"))) (tCons (tC (.ref (He.ga K "NoBit"))) (tCons (tC (.ref (He.ga K "NoPlace"))) (tCons (tC (.ref (He.ga K "NoTree"))) (tCons (tC (.ref (He.ga K "NoSign"))) (tCons (tC (.ref (He.ga K "NoWord"))) (tCons (tC (.ref (He.ga K "Twice"))) (tCons (tC (.ref (He.ga K "NoOctets"))) tNil))))))))) tNil))) (gName 4))
  (tAsg (tLst (tCons (tCB (rIsX K cls d a) (tCons (tVar 3) (tCons (tC (.ref (He.ga K "WoodError"))) tNil))) (tCons (tCB (rIsX K cls d a) (tCons (tVar 3) (tCons (tC (.ty "ValueError")) tNil))) (tCons (tVar 4) tNil)))) (gName 2)))) (fun _ _ _ _ => False))
  (tRet (tOp (rEqD K) (tVar 2) (tLst (tCons (tC (.bl true)) (tCons (tC (.bl true)) (tCons (tC (.bl false)) tNil))))))))
abbrev n_law_refused : List Str := ["_law_hand", "_law_node", "_law_told_here", "e", "_law_others"]

theorem rd_law_refused (K : PySem.W.Frag) (CL : CLs) (F : KFx K) (vs : List V) (H : Hp) (Q : VK) (E : XK) (h : sp_law_refused K CL vs H Q E) : t_law_refused K CL { nx := fun _ H' => Q .non H', rt := Q } (start n_law_refused vs) H := by
  obtain ⟨h, t, g, s, n, ds, q, I, rfl, A, hI, hn, q1⟩ := h
  unfold t_law_refused
  walk_at "st"
  intro p hp
  have s1 := same_new (o := .lst []) hp
  generalize upd H p (.lst []) = H1 at s1 ⊢
  have A1 := A.move s1
  have i1 := A.tree.2.2.look.ext hI s1
  obtain ⟨dx, eh⟩ := A1.obj
  walk_at "st"
  refine m_methE eh (by kernel_rfl) ?_
  walk_at "st"
  refine ⟨h, t, g, s, ds, q, I, [], _, rfl, A1, i1, by decide, .inr ⟨n, rfl, fun _ H2 s2 => ?_, fun m em hm => by omega⟩⟩
  refine m_caught F.e_NoNode_NoNode fun xa hxa => ?_
  walk_at "st"
  intro p2 hp2
  have s3 := s2.trans (same_new (o := .tup ([He.ga K "TooMany", He.ga K "NoBit", He.ga K "NoPlace", He.ga K "NoTree", He.ga K "NoSign", He.ga K "NoWord", He.ga K "Twice", He.ga K "NoOctets"].map V.ref)) hp2)
  walk_at "st"
  refine k_isXT _ (H := upd H2 p2 (.tup ([He.ga K "TooMany", He.ga K "NoBit", He.ga K "NoPlace", He.ga K "NoTree", He.ga K "NoSign", He.ga K "NoWord", He.ga K "Twice", He.ga K "NoOctets"].map V.ref))) upd_same F.ec_NoNode (any8 F) ?_
  generalize upd H2 p2 (.tup ([He.ga K "TooMany", He.ga K "NoBit", He.ga K "NoPlace", He.ga K "NoTree", He.ga K "NoSign", He.ga K "NoWord", He.ga K "Twice", He.ga K "NoOctets"].map V.ref)) = H3 at s3 ⊢
  walk_at "st"
  refine k_isX F.ec_NoNode F.k_NoNode_WoodError ?_
  walk_at "st"
  refine k_isXty F.ec_NoNode F.kt_NoNode ?_
  walk_at "st"
  intro p4 hp4
  walk_at "st"
  intro p5 hp5
  refine k_eqB [true, true, false] [true, true, false] (.of ((same_new hp5).get upd_same)) (.of upd_same) ?_
  have st := s1.trans (s3.trans ((same_new (o := .lst [.bl true, .bl true, .bl false]) hp4).trans (same_new (o := .lst [.bl true, .bl true, .bl false]) hp5)))
  rw [decide_eq_true rfl]
  exact q1 _ (A.tree.2.2.look.ext hI st) st
/-- _law_stand(hand, first) -/
def sp_law_stand (K : PySem.W.Frag) (CL : CLs) : Sp := fun vs H Q _ => ∃ (h t g : Addr) (s : Nat) (f : Int) (ds : List Int) (q : Option Addr) (I : List Nat → Hp → Prop), vs = [.ref h, .int f] ∧ HandAt K CL H h t g s ds q I ∧ I [] H ∧ NdefX.TabN H (tabP K "node_look") nmL ∧
  ∀ m p H' L2, NodeAt ds s m → L2.length ≤ 8 → (∀ j ∈ L2, j < (blks (brk ds)).length) → I L2 H' → SameX q H H' → H' p = some (.tup [.int (m : Int), .bl (decide ((brk ds).getD s 0 = 1))]) → Q (.ref p) H'
theorem len_law_stand (K : PySem.W.Frag) (CL : CLs) : ∀ vs H Q E, sp_law_stand K CL vs H Q E → vs.length = 2 := by
  rintro vs H Q E ⟨_, _, _, _, _, _, _, _, rfl, _⟩; rfl
def t_law_stand (K : PySem.W.Frag) (CL : CLs) : TS :=
  (tSeq (tIfS (tTest (tOp rEq (tVar 1) (tC (.int 0))))
  (tSeq (tAsg (tMethC K "Hand" "node" (sp_Hand_node K CL) E0 (tVar 0) tNil) (gName 2))
  (tRet (tTup (tCons (tVar 2) (tCons (tMethC K "Hand" "is_opening" (sp_Hand_is_opening K CL) E0 (tVar 0) tNil) tNil)))))
  tNext)
  (tSeq (tAsg (tMethC K "Hand" "is_opening" (sp_Hand_is_opening K CL) E0 (tVar 0) tNil) (gName 3))
  (tRet (tTup (tCons (tMethC K "Hand" "node" (sp_Hand_node K CL) E0 (tVar 0) tNil) (tCons (tVar 3) tNil))))))
abbrev n_law_stand : List Str := ["_law_hand", "_law_first", "_law_node", "_law_there_here"]

theorem rd_law_stand (K : PySem.W.Frag) (CL : CLs) (vs : List V) (H : Hp) (Q : VK) (E : XK) (h : sp_law_stand K CL vs H Q E) : t_law_stand K CL { nx := fun _ H' => Q .non H', rt := Q } (start n_law_stand vs) H := by
  obtain ⟨h, t, g, s, f, ds, q, I, rfl, A, hI, hT, q1⟩ := h
  obtain ⟨dx, eh⟩ := A.obj
  unfold t_law_stand
  walk_at "st"
  walk_at "if" <;> intro c0
  · walk_at "st"
    refine m_methE eh (by kernel_rfl) ?_
    walk_at "st"
    refine ⟨h, t, g, s, ds, q, I, [], rfl, A, hI, by decide, hT, fun m H1 L2 hN h6 hin i1 X1 => ?_⟩
    have A1 := A.moveX X1
    obtain ⟨dx1, eh1⟩ := A1.obj
    walk_at "st"
    refine m_methE eh1 (by kernel_rfl) ?_
    walk_at "st"
    refine ⟨h, t, g, s, ds, q, I, [] ++ L2, rfl, A1, i1, by rw [List.nil_append]; omega, fun H2 L3 h1 hin3 i2 X2 => ?_⟩
    walk_at "st"
    intro p hp
    have sp := same_new (o := .tup [.int (m : Int), .bl (decide ((brk ds).getD s 0 = 1))]) hp
    rw [List.nil_append] at i2
    exact q1 m p _ (L2 ++ L3) hN (by rw [List.length_append]; omega) (in_app hin hin3) (A.tree.2.2.look.ext i2 sp) ((X1.trans X2).andS sp) upd_same
  · walk_at "st"
    refine m_methE eh (by kernel_rfl) ?_
    walk_at "st"
    refine ⟨h, t, g, s, ds, q, I, [], rfl, A, hI, by decide, fun H1 L2 h1 hin i1 X1 => ?_⟩
    have A1 := A.moveX X1
    obtain ⟨dx1, eh1⟩ := A1.obj
    walk_at "st"
    refine m_methE eh1 (by kernel_rfl) ?_
    walk_at "st"
    refine ⟨h, t, g, s, ds, q, I, [] ++ L2, rfl, A1, i1, by rw [List.nil_append]; omega, X1.tabs _ hT, fun m H2 L3 hN h6 hin3 i2 X2 => ?_⟩
    walk_at "st"
    intro p hp
    have sp := same_new (o := .tup [.int (m : Int), .bl (decide ((brk ds).getD s 0 = 1))]) hp
    rw [List.nil_append] at i2
    exact q1 m p _ (L2 ++ L3) hN (by rw [List.length_append]; omega) (in_app hin hin3) (A.tree.2.2.look.ext i2 sp) ((X1.trans X2).andS sp) upd_same
/-- _law_there(seen, size) -/
def sp_law_there (K : PySem.W.Frag) : Sp := fun vs H Q _ => ∃ (a : Addr) (L : List Int) (n : Nat), vs = [.ref a, .int (n : Int)] ∧ H a = some (.lst (L.map V.int)) ∧ (∀ x ∈ L, 0 ≤ x ∧ x < (n : Int)) ∧ ∀ H', Same H H' → Q (.bl true) H'
theorem len_law_there (K : PySem.W.Frag) : ∀ vs H Q E, sp_law_there K vs H Q E → vs.length = 2 := by
  rintro vs H Q E ⟨_, _, _, rfl, _⟩; rfl
def t_law_there (K : PySem.W.Frag) : TS :=
  (tSeq (tFor (iList K (tVar 0)) (gName 2)
  (tIfS (tOr (tNot (tB (tCB rIsB (tCons (tVar 2) (tCons (tC (.ty "int")) tNil))))) (tOr (tB (tCB rIsB (tCons (tVar 2) (tCons (tC (.ty "bool")) tNil)))) (tOr (tTest (tOp rLt (tVar 2) (tC (.int 0)))) (tTest (tOp rGeI (tVar 2) (tVar 1))))))
  (tRet (tC (.bl false)))
  tNext))
  (tRet (tC (.bl true))))
abbrev n_law_there : List Str := ["_law_seen", "_law_size", "_law_number"]

theorem rd_law_there (K : PySem.W.Frag) (vs : List V) (H : Hp) (Q : VK) (E : XK) (h : sp_law_there K vs H Q E) : t_law_there K { nx := fun _ H' => Q .non H', rt := Q } (start n_law_there vs) H := by
  obtain ⟨a, L, n, rfl, ha, hin, q⟩ := h
  unfold t_law_there
  walk_at "st"
  refine m_iLe (.of ha) ?_
  refine loop_ints (ns := L) (fun i σ' H' => ∃ v, H' = H ∧ σ' = [some (.ref a), some (.int (n : Int)), v]) ⟨none, rfl, rfl⟩ (fun i σ' H' ⟨_, e, _⟩ => e ▸ .of ha) (fun i x σ' H' hx ⟨v, e, es⟩ => ?_) (fun σ' H' ⟨v, e, es⟩ => ?_)
  · subst es
    subst e
    obtain ⟨h0, h1⟩ := hin x (List.mem_of_getElem? hx)
    walk_at "st"
    refine k_decF (by omega) ?_
    walk_at "st"
    refine k_decF (by omega) ?_
    walk_at "st"
    exact ⟨_, rfl, rfl⟩
  · subst es
    subst e
    walk_at "st"
    exact q _ (Same.refl _)
--#base
theorem back_mod {n s : Nat} (h : s < n) : ((s : Int) - 1) % (n : Int) = ((back1 n s : Nat) : Int) := by
  unfold back1
  split
  · rename_i z
    subst z
    rw [show ((0 : Nat) : Int) - 1 = (n : Int) - 1 + (n : Int) * (-1) by omega, Int.add_mul_emod_self_left, Int.emod_eq_of_lt (by omega) (by omega)]
    omega
  · rw [Int.emod_eq_of_lt (by omega) (by omega)]; omega
/-- _law_done(hand, row, spot, number, far) -/
def sp_law_done (K : PySem.W.Frag) (CL : CLs) : Sp := fun vs H Q _ => ∃ (h t g ps pr : Addr) (s : Nat) (num far : Int) (ds : List Int) (I : List Nat → Hp → Prop) (xs : List V), vs = [.ref h, .ref pr, .int (s : Int), .int num, .int far] ∧ H pr = some (.lst xs) ∧ ps ≠ pr ∧ RowsB ds H xs ∧ xs.length = (brk ds).length ∧ 0 ≤ num ∧ 1 ≤ far ∧ HandAt K CL H h t g s ds (some ps) I ∧ I [] H ∧ NdefX.TabN H (tabP K "node_look") nmL ∧
  ∀ (s' : Nat) (L2 : List Nat) (H' : Hp), HandAt K CL H' h t g s' ds (some ps) I → I L2 H' → L2.length ≤ 60 → (∀ j ∈ L2, j < (blks (brk ds)).length) → SameH (some ps) h H H' → Q (.int (s' : Int)) H'
theorem len_law_done (K : PySem.W.Frag) (CL : CLs) : ∀ vs H Q E, sp_law_done K CL vs H Q E → vs.length = 5 := by
  rintro vs H Q E ⟨_, _, _, _, _, _, _, _, _, _, _, rfl, _⟩; rfl
def t_law_done (K : PySem.W.Frag) (CL : CLs) : TS :=
  (tSeq (tAsg (tOp rDiv (tCB (rLen K) (tCons (tVar 1) tNil)) (tC (.int 2))) (gName 5))
  (tSeq (tAsg (tOp rMod (tVar 3) (tC (.int 8))) (gName 6))
  (Evl.tCut (tIfS (tTest (tOp rLt (tVar 6) (tC (.int 2))))
  (tSeq (tAsg (tMethC K "Hand" "step" (sp_Hand_step K CL) E0 (tVar 0) tNil) (gName 7))
  (tAsg (tOp rMod (tOp rPlus (tVar 2) (tC (.int 1))) (tCB (rLen K) (tCons (tVar 1) tNil))) (gName 2)))
  (tIfS (tTest (tOp rEq (tVar 6) (tC (.int 2))))
  (tSeq (tAsg (tMethC K "Hand" "step_back" (sp_Hand_step_back K CL) E0 (tVar 0) tNil) (gName 7))
  (tAsg (tOp rMod (tOp rMinus (tVar 2) (tC (.int 1))) (tCB (rLen K) (tCons (tVar 1) tNil))) (gName 2)))
  (tIfS (tTest (tOp rLt (tVar 6) (tC (.int 5))))
  (tSeq (tAsg (tMethC K "Hand" "turn" (sp_Hand_turn K CL) E0 (tVar 0) tNil) (gName 7))
  (tAsg (tBM K "list" (rIndexD K) (tVar 1) (tCons (tTup (tCons (tOp (rIxT K) (tOp (rIxL K) (tVar 1) (tVar 2)) (tC (.int 0))) (tCons (tNotV (tOp (rIxT K) (tOp (rIxL K) (tVar 1) (tVar 2)) (tC (.int 1)))) tNil))) tNil)) (gName 2)))
  (tIfS (tTest (tOp rEq (tVar 6) (tC (.int 5))))
  (tSeq (tDrop (tMethC K "Hand" "to_node" (sp_Hand_to_node K CL) E0 (tVar 0) (tCons (tOp rMod (tOp rDiv (tVar 3) (tC (.int 8))) (tVar 5)) tNil)))
  (tSeq (tAsg (tBM K "list" (rIndexD K) (tVar 1) (tCons (tTup (tCons (tOp rMod (tOp rDiv (tVar 3) (tC (.int 8))) (tVar 5)) (tCons (tC (.bl true)) tNil))) tNil)) (gName 2))
  (tAsg (tOp (rIxL K) (tVar 1) (tVar 2)) (gName 7))))
  (tSeq (tIfS (tNot (tB (tCall (sp_law_refused K CL) [] E0 (tCons (tVar 0) (tCons (tOp (rIxL K) (tLst (tCons (tOp rMinus (tC (.int 0)) (tVar 4)) (tCons (tOp rPlus (tOp rMinus (tVar 5) (tC (.int 1))) (tVar 4)) tNil))) (tOp rMinus (tVar 6) (tC (.int 6)))) tNil)))))
  (tRet (tUn rNeg (tC (.int 1))))
  tNext)
  (tSeq (tIfS (tTest (tOp (rNeD K) (tTup (tCons (tMethC K "Hand" "node" (sp_Hand_node K CL) E0 (tVar 0) tNil) (tCons (tMethC K "Hand" "is_opening" (sp_Hand_is_opening K CL) E0 (tVar 0) tNil) tNil))) (tOp (rIxL K) (tVar 1) (tVar 2))))
  (tRet (tUn rNeg (tC (.int 1))))
  tNext)
  (Evl.tCut (tIfS (tTest (tOp rEq (tOp rMod (tOp rDiv (tVar 3) (tC (.int 8))) (tC (.int 2))) (tC (.int 1))))
  (tSeq (tIfS (tTest (tOp L2.rNotB (tMethC K "Hand" "to_node" (sp_Hand_to_node K CL) E0 (tVar 0) (tCons (tOp rMinus (tVar 5) (tC (.int 1))) tNil)) (tC (.bl true))))
  (tRet (tUn rNeg (tC (.int 1))))
  tNext)
  (tAsg (tBM K "list" (rIndexD K) (tVar 1) (tCons (tTup (tCons (tOp rMinus (tVar 5) (tC (.int 1))) (tCons (tC (.bl true)) tNil))) tNil)) (gName 2)))
  tNext)
  (tAsg (tOp (rIxL K) (tVar 1) (tVar 2)) (gName 7)))))))))
  (tSeq (tIfS (tTest (tOp (rNeD K) (tVar 7) (tOp (rIxL K) (tVar 1) (tVar 2))))
  (tRet (tUn rNeg (tC (.int 1))))
  tNext)
  (tRet (tVar 2))))))
abbrev n_law_done : List Str := ["_law_hand", "_law_row", "_law_spot", "_law_number", "_law_far", "_law_many", "_law_way", "_law_found"]

theorem rd_law_done (K : PySem.W.Frag) (CL : CLs) (vs : List V) (H : Hp) (Q : VK) (E : XK) (h : sp_law_done K CL vs H Q E) : t_law_done K CL { nx := fun _ H' => Q .non H', rt := Q } (start n_law_done vs) H := by
  obtain ⟨h, t, g, ps, pr, s, num, far, ds, I, xs, rfl, er, nr, hR, hxl, hnum, hfar, A, hI, hTb, q⟩ := h
  obtain ⟨dx, eh⟩ := A.obj
  have hD := A.tree.1
  have hlt := A.lt
  have hbl := brk_len hD
  have nrh : pr ≠ h := fun z => by rw [z, eh] at er; cases er
  have nhr : ∀ {H' : Hp}, SameH (some ps) h H H' → H' pr = some (.lst xs) := fun {H'} Y => Y.get (fun z => nr (Option.some.inj z)) nrh er
  have at_ : ∀ {H' : Hp}, SameH (some ps) h H H' → ∀ k, k < (brk ds).length → ∃ (t' : Addr) (m : Nat), xs[k]? = some (.ref t') ∧ H' t' = some (.tup [.int (m : Int), .bl (decide ((brk ds).getD k 0 = 1))]) ∧ NodeAt ds k m := fun {H'} Y k hk => by
    obtain ⟨t', m, rx, et, hN⟩ := (hR.moveH Y) k _ (List.getElem?_eq_getElem (by omega))
    exact ⟨t', m, by rw [List.getElem?_eq_getElem (by omega), rx], et, hN⟩
  have hdl : 0 < ds.length := by omega
  have Y0 : SameH (some ps) h H H := ((Same.refl H).toX (A.tree.2.2.look.isq hI)).toH A.isi
  unfold t_law_done
  walk_at "st"
  refine k_lenL (.of er) ?_
  walk_at "st"
  rw [hxl, show ((brk ds).length : Int) / 2 = (ds.length : Int) by omega]
  obtain ⟨way, hw⟩ : ∃ way, way = num % 8 := ⟨_, rfl⟩
  have hw0 : 0 ≤ way ∧ way < 8 := by omega
  rw [← hw]
  refine m_cut (fun σ' H' => ∃ (s' : Nat) (tf : Addr) (m : Nat) (L2 : List Nat), HandAt K CL H' h t g s' ds (some ps) I ∧ I L2 H' ∧ L2.length ≤ 60 ∧ (∀ j ∈ L2, j < (blks (brk ds)).length) ∧ SameH (some ps) h H H' ∧ H' tf = some (.tup [.int (m : Int), .bl (decide ((brk ds).getD s' 0 = 1))]) ∧ NodeAt ds s' m ∧ σ' = [some (.ref h), some (.ref pr), some (.int (s' : Int)), some (.int num), some (.int far), some (.int (ds.length : Int)), some (.int way), some (.ref tf)]) ?_ ?_
  · walk_at "st"
    walk_at "if" <;> intro c0
    · walk_at "st"
      refine m_methE eh (by kernel_rfl) ?_
      walk_at "st"
      refine ⟨h, t, g, s, ds, some ps, I, [], rfl, A, hI, by decide, hTb, fun m tf H1 L2 hN h7 hin i1 Y1 A1 htf etf => ?_⟩
      walk_at "st"
      refine k_lenL (.of (nhr Y1)) ?_
      rw [hxl]
      have hpos : (0 : Int) < (((brk ds).length : Nat) : Int) := by omega
      walk_at "st"
      rw [show ((s : Int) + 1) % (((brk ds).length : Nat) : Int) = ((ahead1 (brk ds).length s : Nat) : Int) by unfold ahead1; push_cast; rfl]
      exact ⟨_, tf, m, L2, A1, i1, by omega, hin, Y1, etf, hN, rfl⟩
    walk_at "st"
    walk_at "if" <;> intro c1
    · walk_at "st"
      refine m_methE eh (by kernel_rfl) ?_
      walk_at "st"
      refine ⟨h, t, g, s, ds, some ps, I, [], rfl, A, hI, by decide, hTb, fun m tf H1 L2 hN h7 hin i1 Y1 A1 htf etf => ?_⟩
      walk_at "st"
      refine k_lenL (.of (nhr Y1)) ?_
      rw [hxl]
      have hpos : (0 : Int) < (((brk ds).length : Nat) : Int) := by omega
      walk_at "st"
      rw [back_mod hlt]
      exact ⟨_, tf, m, L2, A1, i1, by omega, hin, Y1, etf, hN, rfl⟩
    walk_at "st"
    walk_at "if" <;> intro c2
    · walk_at "st"
      refine m_methE eh (by kernel_rfl) ?_
      walk_at "st"
      refine ⟨h, t, g, s, ds, some ps, I, [], rfl, A, hI, by decide, hTb, fun m s' tf H1 L2 o hN h12 hin i1 Y1 A1 htf etf => ?_⟩
      have er1 := nhr Y1
      obtain ⟨t0, m0, ex0, et0, hN0⟩ := at_ Y1 s hlt
      obtain rfl := hN0.u (o.node hN)
      walk_at "st"
      refine k_tyL (.of er1) ?_
      walk_at "st"
      refine k_ixL (.of er1) (at_nat ex0) ?_
      walk_at "st"
      refine k_ixT (.of et0) (x := .int (m0 : Int)) rfl ?_
      walk_at "st"
      refine k_ixL (.of er1) (at_nat ex0) ?_
      walk_at "st"
      refine k_ixT (.of et0) (x := .bl (decide ((brk ds).getD s 0 = 1))) rfl ?_
      walk_at "st"
      intro pt hpt
      have sp := same_new (o := .tup [.int (m0 : Int), .bl (!decide ((brk ds).getD s 0 = 1))]) hpt
      have ept := upd_same (H := H1) (a := pt) (o := .tup [.int (m0 : Int), .bl (!decide ((brk ds).getD s 0 = 1))])
      generalize upd H1 pt (.tup [.int (m0 : Int), .bl (!decide ((brk ds).getD s 0 = 1))]) = H2 at sp ept ⊢
      have Y2 := Y1.andS sp
      have A2 := A1.move sp
      walk_at "st"
      refine k_rowIndex hD (nhr Y2) (hR.moveH Y2) (show s' < xs.length by have := A1.lt; omega) hN o.dec.symm ept ?_
      walk_at "st"
      exact ⟨_, tf, m0, L2, A2, A1.tree.2.2.look.ext i1 sp, by omega, hin, Y2, sp.get etf, hN, rfl⟩
    walk_at "st"
    have hpos : (0 : Int) < (ds.length : Int) := by omega
    walk_at "if" <;> intro c3
    · walk_at "st"
      obtain ⟨d, hd⟩ : ∃ d, d = num / 8 := ⟨_, rfl⟩
      have b1 := Int.emod_nonneg d (show (ds.length : Int) ≠ 0 by omega)
      have b2 := Int.emod_lt_of_pos d hpos
      obtain ⟨n, hn⟩ := Int.eq_ofNat_of_zero_le b1
      rw [hn] at b2
      refine m_methE eh (by kernel_rfl) ?_
      walk_at "st"
      rw [← hd, hn]
      refine ⟨h, t, g, s, ds, some ps, I, [], _, rfl, A, hI, by decide, .inr ⟨(n : Int), rfl, fun z => by omega, fun m em hm k H1 L2 P h1 hin i1 Y1 A1 => ?_⟩⟩
      obtain rfl : n = m := by omega
      have er1 := nhr Y1
      walk_at "st"
      refine k_tyL (.of er1) ?_
      walk_at "st"
      rw [← hd, hn]
      intro pt hpt
      have sp := same_new (o := .tup [.int (n : Int), .bl true]) hpt
      have ept := upd_same (H := H1) (a := pt) (o := .tup [.int (n : Int), .bl true])
      generalize upd H1 pt (.tup [.int (n : Int), .bl true]) = H2 at sp ept ⊢
      have Y2 := Y1.andS sp
      have A2 := A1.move sp
      have hNk : NodeAt ds k n := .inl ⟨P.up, P⟩
      walk_at "st"
      refine k_rowIndex hD (nhr Y2) (hR.moveH Y2) (show k < xs.length by have := A1.lt; omega) hNk (by rw [P.up]; rfl) ept ?_
      walk_at "st"
      obtain ⟨t0, m0, ex0, et0, hN0⟩ := at_ Y2 k A1.lt
      refine k_ixL (.of (nhr Y2)) (at_nat ex0) ?_
      walk_at "st"
      exact ⟨_, t0, m0, L2, A2, A1.tree.2.2.look.ext i1 sp, by omega, hin, Y2, et0, hN0, rfl⟩
    walk_at "st"
    intro p1 hp1
    have s1 := same_new (o := .lst [.int (0 - far), .int ((ds.length : Int) - 1 + far)]) hp1
    have e1 := upd_same (H := H) (a := p1) (o := .lst [.int (0 - far), .int ((ds.length : Int) - 1 + far)])
    generalize upd H p1 (.lst [.int (0 - far), .int ((ds.length : Int) - 1 + far)]) = H1 at s1 e1 ⊢
    obtain ⟨v, hv, hvo⟩ : ∃ v : Int, atI [V.int (0 - far), .int ((ds.length : Int) - 1 + far)] (way - 6) = some (.int v) ∧ (v < 0 ∨ (ds.length : Int) ≤ v) := by
      have h3 : way = 6 ∨ way = 7 := by omega
      rcases h3 with z | z <;> rw [z]
      · exact ⟨_, rfl, by omega⟩
      · exact ⟨_, rfl, by omega⟩
    walk_at "st"
    refine k_ixL (.of e1) hv ?_
    walk_at "st"
    refine ⟨h, t, g, s, v, ds, some ps, I, rfl, A.move s1, A.tree.2.2.look.ext hI s1, hvo, fun H2 i2 s2 => ?_⟩
    have s12 := s1.trans s2
    have A2 := A.move s12
    obtain ⟨dx2, eh2⟩ := A2.obj
    walk_at "st"
    refine m_methE eh2 (by kernel_rfl) ?_
    walk_at "st"
    refine ⟨h, t, g, s, ds, some ps, I, [], rfl, A2, i2, by decide, s12.tabs _ hTb, fun m H3 L3 hN h6 hin3 i3 X3 => ?_⟩
    have A3 := A2.moveX X3
    obtain ⟨dx3, eh3⟩ := A3.obj
    walk_at "st"
    refine m_methE eh3 (by kernel_rfl) ?_
    walk_at "st"
    refine ⟨h, t, g, s, ds, some ps, I, [] ++ L3, rfl, A3, i3, by rw [List.nil_append]; omega, fun H4 L4 h1 hin4 i4 X4 => ?_⟩
    have A4 := A3.moveX X4
    walk_at "st"
    intro pt hpt
    have sp := same_new (o := .tup [.int (m : Int), .bl (decide ((brk ds).getD s 0 = 1))]) hpt
    have ept := upd_same (H := H4) (a := pt) (o := .tup [.int (m : Int), .bl (decide ((brk ds).getD s 0 = 1))])
    generalize upd H4 pt (.tup [.int (m : Int), .bl (decide ((brk ds).getD s 0 = 1))]) = H5 at sp ept ⊢
    have Y5 := (Y0.andS s12).andX ((X3.trans X4).andS sp)
    have A5 := A4.move sp
    have i5 := A4.tree.2.2.look.ext i4 sp
    rw [List.nil_append] at i5
    have er5 := nhr Y5
    obtain ⟨t0, m0, ex0, et0, hN0⟩ := at_ Y5 s hlt
    obtain rfl := hN.u hN0
    walk_at "st"
    refine k_ixL (.of er5) (at_nat ex0) ?_
    refine k_neIB (.of ept) (.of et0) ?_
    rw [decide_eq_true ⟨rfl, rfl⟩]
    walk_at "st"
    have hl34 : (L3 ++ L4).length ≤ 7 := by rw [List.length_append]; omega
    refine m_cut (fun σ' H' => ∃ (s' : Nat) (L2 : List Nat), HandAt K CL H' h t g s' ds (some ps) I ∧ I L2 H' ∧ L2.length ≤ 60 ∧ (∀ j ∈ L2, j < (blks (brk ds)).length) ∧ SameH (some ps) h H H' ∧ σ' = [some (.ref h), some (.ref pr), some (.int (s' : Int)), some (.int num), some (.int far), some (.int (ds.length : Int)), some (.int way), none]) ?_ ?_
    · walk_at "st"
      walk_at "if" <;> intro c4
      · walk_at "st"
        obtain ⟨dx5, eh5⟩ := A5.obj
        refine m_methE eh5 (by kernel_rfl) ?_
        walk_at "st"
        refine ⟨h, t, g, s, ds, some ps, I, L3 ++ L4, _, rfl, A5, i5, by omega, .inr ⟨(ds.length : Int) - 1, rfl, fun z => by omega, fun n en hn k H6 L6 P h1 hin6 i6 Y6 A6 => ?_⟩⟩
        walk_at "st"
        refine k_notBl ?_
        walk_at "st"
        have Y56 := Y5.trans Y6
        refine k_ndecT rfl ?_
        walk_at "st"
        refine k_tyL (.of (nhr Y56)) ?_
        walk_at "st"
        rw [en]
        intro pt2 hpt2
        have sp2 := same_new (o := .tup [.int (n : Int), .bl true]) hpt2
        have ept2 := upd_same (H := H6) (a := pt2) (o := .tup [.int (n : Int), .bl true])
        generalize upd H6 pt2 (.tup [.int (n : Int), .bl true]) = H7 at sp2 ept2 ⊢
        have Y7 := Y56.andS sp2
        have hNk : NodeAt ds k n := .inl ⟨P.up, P⟩
        walk_at "st"
        refine k_rowIndex hD (nhr Y7) (hR.moveH Y7) (show k < xs.length by have := A6.lt; omega) hNk (by rw [P.up]; rfl) ept2 ?_
        walk_at "st"
        exact ⟨k, L3 ++ L4 ++ L6, A6.move sp2, A6.tree.2.2.look.ext i6 sp2, by rw [List.length_append]; omega, in_app (in_app hin3 hin4) hin6, Y7, rfl⟩
      · walk_at "st"
        exact ⟨s, L3 ++ L4, A5, i5, by omega, in_app hin3 hin4, Y5, rfl⟩
    rintro σ' H6 ⟨s', L2, A6, i6, h60, hin, Y6, rfl⟩
    obtain ⟨t6, m6, ex6, et6, hN6⟩ := at_ Y6 s' A6.lt
    walk_at "st"
    refine k_ixL (.of (nhr Y6)) (at_nat ex6) ?_
    walk_at "st"
    exact ⟨s', t6, m6, L2, A6, i6, h60, hin, Y6, et6, hN6, rfl⟩
  rintro σ' H1 ⟨s', tf, m, L2, A1, i1, h60, hin, Y1, etf, hN, rfl⟩
  obtain ⟨t0, m0, ex0, et0, hN0⟩ := at_ Y1 s' A1.lt
  obtain rfl := hN.u hN0
  walk_at "st"
  refine k_ixL (.of (nhr Y1)) (at_nat ex0) ?_
  refine k_neIB (.of etf) (.of et0) ?_
  rw [decide_eq_true ⟨rfl, rfl⟩]
  walk_at "st"
  exact q s' L2 H1 A1 i1 h60 hin Y1
--#base
/-! three hands, two trees -/
structure Raw (K : PySem.W.Frag) (CL : CLs) (H : Hp) (h t g ps pb : Addr) (s : Nat) (ds : List Int) : Prop where
  obj : ∃ dx, H h = some (.ins (He.ga K "Hand") dx (handF t g s))
  lt : s < (brk ds).length
  deep : Deep ds
  len : ds.length ≤ 60
  tab : ∃ pa ph, SqT K H t [.int ((brk ds).length : Int), .ref pa, .ref ph] ∧ SqT K H pa ((aheadT (brk ds)).map V.int) ∧ SqT K H ph (heapL (lowsOf (brk ds)))
  nsb : ps ≠ pb
  lk : ∃ B, LogLook CL 1 g ps pb ((blks (brk ds)).map V.int) (.int 0) B ∧ LamX.ExtN B H ∧ ∀ b o, B b = some o → ∃ φ, o = .ext φ
theorem sqT_mv {K : PySem.W.Frag} {H H' : Hp} {a h' : Addr} {xs : List V} (hi : ∃ C d fs, H h' = some (.ins C d fs)) (k : ∀ b o, H b = some o → (∀ ps, o ≠ .tbl ps) → (∀ xs, o ≠ .lst xs) → b ≠ h' → H' b = some o) (e : SqT K H a xs) : SqT K H' a xs := by
  obtain ⟨C, d, fs, ei⟩ := hi
  rcases e with (e | ⟨o, e⟩) | e
  · exact .inl (.inl (k a _ e (fun _ z => nomatch z) (fun _ z => nomatch z) fun z => by rw [z, ei] at e; cases e))
  · exact .inl (.inr ⟨o, k a _ e (fun _ z => nomatch z) (fun _ z => nomatch z) fun z => by rw [z, ei] at e; cases e⟩)
  · exact .inr e
theorem extN_mv {B H H' : Hp} {h' : Addr} (hi : ∃ C d fs, H h' = some (.ins C d fs)) (hB : ∀ b o, B b = some o → ∃ φ, o = .ext φ) (k : ∀ b o, H b = some o → (∀ ps, o ≠ .tbl ps) → (∀ xs, o ≠ .lst xs) → b ≠ h' → H' b = some o) (e : LamX.ExtN B H) : LamX.ExtN B H' := fun b o eb nt => by
  obtain ⟨C, d, fs, ei⟩ := hi
  obtain ⟨φ, rfl⟩ := hB b o eb
  have e1 := e b _ eb nt
  exact k b _ e1 nt (fun _ z => nomatch z) fun z => by rw [z, ei] at e1; cases e1
theorem Raw.mv {K : PySem.W.Frag} {CL : CLs} {H H' : Hp} {h h' t g ps pb : Addr} {s : Nat} {ds : List Int} (r : Raw K CL H h t g ps pb s ds) (hi : ∃ C d fs, H h' = some (.ins C d fs)) (n : h ≠ h') (k : ∀ b o, H b = some o → (∀ ps, o ≠ .tbl ps) → (∀ xs, o ≠ .lst xs) → b ≠ h' → H' b = some o) : Raw K CL H' h t g ps pb s ds := by
  refine ⟨let ⟨dx, e⟩ := r.obj; ⟨dx, k h _ e (fun _ z => nomatch z) (fun _ z => nomatch z) n⟩, r.lt, r.deep, r.len, ?_, r.nsb, ?_⟩
  · obtain ⟨pa, ph, h1, h2, h3⟩ := r.tab
    exact ⟨pa, ph, sqT_mv hi k h1, sqT_mv hi k h2, sqT_mv hi k h3⟩
  · obtain ⟨B, l1, l2, l3⟩ := r.lk
    exact ⟨B, l1, extN_mv hi l3 k l2, l3⟩
theorem Raw.same {K : PySem.W.Frag} {CL : CLs} {H H' : Hp} {h t g ps pb : Addr} {s : Nat} {ds : List Int} (r : Raw K CL H h t g ps pb s ds) (x : Same H H') : Raw K CL H' h t g ps pb s ds := by
  refine ⟨let ⟨dx, e⟩ := r.obj; ⟨dx, x.get e⟩, r.lt, r.deep, r.len, ?_, r.nsb, ?_⟩
  · obtain ⟨pa, ph, h1, h2, h3⟩ := r.tab
    exact ⟨pa, ph, x.seqT h1, x.seqT h2, x.seqT h3⟩
  · obtain ⟨B, l1, l2, l3⟩ := r.lk
    exact ⟨B, l1, l2.trans x.extN, l3⟩
/-- what is written down of a tree's blocks, and these -/
def LogS (H : Hp) (ps pb : Addr) (ds : List Int) (n : Nat) : Prop := ∃ L0 : List Int, H ps = some (.lst (L0.map V.int)) ∧ L0.length ≤ n ∧ (∀ x ∈ L0, 0 ≤ x ∧ x < ((blks (brk ds)).length : Int)) ∧ H pb = some (.lst ((blks (brk ds)).map V.int))
/-- a hand as its methods ask for it -/
theorem Raw.hand {K : PySem.W.Frag} {CL : CLs} {H : Hp} {h t g ps pb : Addr} {s : Nat} {ds : List Int} {L0 : List Int} (r : Raw K CL H h t g ps pb s ds) (e : H ps = some (.lst (L0.map V.int))) (eb : H pb = some (.lst ((blks (brk ds)).map V.int))) (hl : L0.length ≤ 90000) :
    ∃ B, HandAt K CL H h t g s ds (some ps) (LogI B ps pb ((blks (brk ds)).map V.int) L0) ∧ LogI B ps pb ((blks (brk ds)).map V.int) L0 [] H ∧ LogLook CL 1 g ps pb ((blks (brk ds)).map V.int) (.int 0) B ∧ ∀ b o, B b = some o → ∃ φ, o = .ext φ := by
  obtain ⟨B, l1, l2, l3⟩ := r.lk
  obtain ⟨pa, ph, h1, h2, h3⟩ := r.tab
  obtain ⟨hTr, hB⟩ := brk_tree r.deep
  have hbl := brk_len r.deep
  have hlen := r.len
  have hBh : B h = none := by
    obtain ⟨dx, eh⟩ := r.obj
    cases q : B h with
    | none => rfl
    | some o =>
      obtain ⟨φ, rfl⟩ := l3 h o q
      have := l2 h _ q fun _ z => nomatch z
      rw [eh] at this; cases this
  have R := l1.lookI (L0 := L0) (by decide) (fun o z => l3 ps o z) r.nsb hl
  exact ⟨B, ⟨r.obj, ⟨r.deep, by omega, ⟨⟨pa, ph, h1, h2, h3⟩, R, hB, hTr, by omega⟩⟩, r.lt, mutI_log hBh⟩, ⟨l2, by rw [List.map_nil, List.append_nil]; exact e, eb⟩, l1, l3⟩
theorem Raw.back {K : PySem.W.Frag} {CL : CLs} {H B : Hp} {h t g ps pb : Addr} {s : Nat} {ds : List Int} {L0 : List Int} {L2 : List Nat} (A : HandAt K CL H h t g s ds (some ps) (LogI B ps pb ((blks (brk ds)).map V.int) L0)) (i : LogI B ps pb ((blks (brk ds)).map V.int) L0 L2 H) (l1 : LogLook CL 1 g ps pb ((blks (brk ds)).map V.int) (.int 0) B) (l3 : ∀ b o, B b = some o → ∃ φ, o = .ext φ) (hl : ds.length ≤ 60) (nsb : ps ≠ pb) : Raw K CL H h t g ps pb s ds :=
  ⟨A.obj, A.lt, A.tree.1, hl, A.tree.2.2.tab, nsb, B, l1, i.1, l3⟩
theorem Raw.put {K : PySem.W.Frag} {CL : CLs} {H : Hp} {h t g ps pb p : Addr} {s : Nat} {ds : List Int} {ys zs : List V} (r : Raw K CL H h t g ps pb s ds) (e : H p = some (.lst ys)) : Raw K CL (upd H p (.lst zs)) h t g ps pb s ds := by
  have nl : ∀ {b : Addr} {o : HO}, H b = some o → (∀ xs, o ≠ .lst xs) → (upd H p (.lst zs)) b = some o := fun {b o} q w => (upd_ne fun z => by rw [z, e] at q; exact w _ (Option.some.inj q).symm).trans q
  have sq : ∀ {b : Addr} {xs : List V}, SqT K H b xs → SqT K (upd H p (.lst zs)) b xs := fun {b xs} q => by
    rcases q with (q | ⟨o, q⟩) | q
    · exact .inl (.inl (nl q fun _ z => nomatch z))
    · exact .inl (.inr ⟨o, nl q fun _ z => nomatch z⟩)
    · exact .inr q
  obtain ⟨pa, ph, t1, t2, t3⟩ := r.tab
  obtain ⟨B, l1, l2, l3⟩ := r.lk
  refine ⟨let ⟨dx, q⟩ := r.obj; ⟨dx, nl q fun _ z => nomatch z⟩, r.lt, r.deep, r.len, ⟨pa, ph, sq t1, sq t2, sq t3⟩, r.nsb, B, l1, fun b o q w => ?_, l3⟩
  obtain ⟨φ, rfl⟩ := l3 b o q
  exact nl (l2 b _ q w) fun _ z => nomatch z
structure St3 (K : PySem.W.Frag) (CL : CLs) (H : Hp) (h g T PS PB PR : Nat → Addr) (DS : Nat → List Int) (XS : Nat → List V) (st : Nat → Nat) (n : Nat) : Prop where
  raw : ∀ k, k < 3 → Raw K CL H (h k) (T (k / 2)) (g k) (PS (k / 2)) (PB (k / 2)) (st k) (DS (k / 2))
  log : ∀ i, i < 2 → LogS H (PS i) (PB i) (DS i) n
  row : ∀ i, i < 2 → H (PR i) = some (.lst (XS i)) ∧ RowsB (DS i) H (XS i) ∧ (XS i).length = (brk (DS i)).length
  inj : ∀ j k, j < 3 → k < 3 → j ≠ k → h j ≠ h k
  npp : ∀ i j, i < 2 → j < 2 → i ≠ j → PS i ≠ PS j
  nsb : ∀ i j, i < 2 → j < 2 → PS i ≠ PB j
  nsr : ∀ i j, i < 2 → j < 2 → PS i ≠ PR j
section
variable {K : PySem.W.Frag} {CL : CLs} {H H' : Hp} {h g T PS PB PR : Nat → Addr} {DS : Nat → List Int} {XS : Nat → List V} {st : Nat → Nat} {n : Nat}
theorem St3.le {n n' : Nat} (h' : n ≤ n') (a : St3 K CL H h g T PS PB PR DS XS st n) : St3 K CL H h g T PS PB PR DS XS st n' := ⟨a.raw, fun i hi => let ⟨L0, e1, e2, e3, e4⟩ := a.log i hi; ⟨L0, e1, Nat.le_trans e2 h', e3, e4⟩, a.row, a.inj, a.npp, a.nsb, a.nsr⟩
theorem St3.same (a : St3 K CL H h g T PS PB PR DS XS st n) (x : Same H H') : St3 K CL H' h g T PS PB PR DS XS st n :=
  ⟨fun k hk => (a.raw k hk).same x, fun i hi => let ⟨L0, e1, e2, e3, e4⟩ := a.log i hi; ⟨L0, x.get e1, e2, e3, x.get e4⟩, fun i hi => let ⟨e1, e2, e3⟩ := a.row i hi; ⟨x.get e1, e2.same x, e3⟩, a.inj, a.npp, a.nsb, a.nsr⟩
theorem St3.ins (a : St3 K CL H h g T PS PB PR DS XS st n) {k : Nat} (hk : k < 3) : ∃ C d fs, H (h k) = some (.ins C d fs) := let ⟨_, e⟩ := (a.raw k hk).obj; ⟨_, _, _, e⟩
/-- one hand has acted -/
theorem St3.act (a : St3 K CL H h g T PS PB PR DS XS st n) {k m s' : Nat} (hk : k < 3) {B : Hp} {L0 : List Int} {L2 : List Nat} (e0 : H (PS (k / 2)) = some (.lst (L0.map V.int))) (h0 : L0.length ≤ n) (hin0 : ∀ x ∈ L0, 0 ≤ x ∧ x < ((blks (brk (DS (k / 2)))).length : Int))
    (A : HandAt K CL H' (h k) (T (k / 2)) (g k) s' (DS (k / 2)) (some (PS (k / 2))) (LogI B (PS (k / 2)) (PB (k / 2)) ((blks (brk (DS (k / 2)))).map V.int) L0)) (i : LogI B (PS (k / 2)) (PB (k / 2)) ((blks (brk (DS (k / 2)))).map V.int) L0 L2 H')
    (l1 : LogLook CL 1 (g k) (PS (k / 2)) (PB (k / 2)) ((blks (brk (DS (k / 2)))).map V.int) (.int 0) B) (l3 : ∀ b o, B b = some o → ∃ φ, o = .ext φ) (hm : L2.length ≤ m) (hin : ∀ j ∈ L2, j < (blks (brk (DS (k / 2)))).length) (Y : SameH (some (PS (k / 2))) (h k) H H') :
    St3 K CL H' h g T PS PB PR DS XS (fun j => if j = k then s' else st j) (n + m) := by
  have hk2 : k / 2 < 2 := by omega
  have hi := a.ins hk
  have kp : ∀ b o, H b = some o → (∀ ps, o ≠ .tbl ps) → (∀ xs, o ≠ .lst xs) → b ≠ h k → H' b = some o := fun b o e nt nl nh => Y.keep b o (fun z => by cases z; rw [e0] at e; exact nl _ (Option.some.inj e).symm) nh e nt
  have kl : ∀ {b : Addr} {xs : List V}, H b = some (.lst xs) → PS (k / 2) ≠ b → H' b = some (.lst xs) := fun {b xs} e ne => Y.get (fun z => ne (Option.some.inj z)) (fun z => by
    obtain ⟨C, d, fs, w⟩ := hi
    rw [← z, e] at w; cases w) e
  refine ⟨fun j hj => ?_, fun j hj => ?_, fun j hj => ?_, a.inj, a.npp, a.nsb, a.nsr⟩
  · by_cases c : j = k
    · subst c
      rw [if_pos rfl]
      exact Raw.back A i l1 l3 (a.raw j hj).len (a.raw j hj).nsb
    · rw [if_neg c]
      exact (a.raw j hj).mv hi (a.inj j k hj hk c) kp
  · obtain ⟨L1, e1, e2, e3, e4⟩ := a.log j hj
    by_cases c : j = k / 2
    · subst c
      refine ⟨L0 ++ L2.map Int.ofNat, i.2.1, by rw [List.length_append, List.length_map]; omega, fun x hx => ?_, i.2.2⟩
      rcases List.mem_append.mp hx with z | z
      · exact hin0 x z
      · obtain ⟨y, hy, rfl⟩ := List.mem_map.mp z
        have := hin y hy
        exact ⟨Int.natCast_nonneg y, by show ((y : Nat) : Int) < _; omega⟩
    · exact ⟨L1, kl e1 (a.npp _ _ hk2 hj (Ne.symm c)), by omega, e3, kl e4 (a.nsb _ _ hk2 hj)⟩
  · obtain ⟨e1, e2, e3⟩ := a.row j hj
    exact ⟨kl e1 (a.nsr _ _ hk2 hj), e2.moveH Y, e3⟩
/-- another list has changed -/
theorem St3.put (a : St3 K CL H h g T PS PB PR DS XS st n) {p : Addr} {ys zs : List V} (e : H p = some (.lst ys)) (h1 : ∀ i, i < 2 → PS i ≠ p ∧ PB i ≠ p ∧ PR i ≠ p) : St3 K CL (upd H p (.lst zs)) h g T PS PB PR DS XS st n := by
  have nl : ∀ {b : Addr} {o : HO}, H b = some o → (∀ xs, o ≠ .lst xs) → (upd H p (.lst zs)) b = some o := fun {b o} q w => (upd_ne fun z => by rw [z, e] at q; exact w _ (Option.some.inj q).symm).trans q
  refine ⟨fun k hk => ?_, fun i hi => ?_, fun i hi => ?_, a.inj, a.npp, a.nsb, a.nsr⟩
  · have r := a.raw k hk
    have sq : ∀ {b : Addr} {xs : List V}, SqT K H b xs → SqT K (upd H p (.lst zs)) b xs := fun {b xs} q => by
      rcases q with (q | ⟨o, q⟩) | q
      · exact .inl (.inl (nl q fun _ z => nomatch z))
      · exact .inl (.inr ⟨o, nl q fun _ z => nomatch z⟩)
      · exact .inr q
    obtain ⟨pa, ph, t1, t2, t3⟩ := r.tab
    obtain ⟨B, l1, l2, l3⟩ := r.lk
    refine ⟨let ⟨dx, q⟩ := r.obj; ⟨dx, nl q fun _ z => nomatch z⟩, r.lt, r.deep, r.len, ⟨pa, ph, sq t1, sq t2, sq t3⟩, r.nsb, B, l1, fun b o q w => ?_, l3⟩
    obtain ⟨φ, rfl⟩ := l3 b o q
    exact nl (l2 b _ q w) fun _ z => nomatch z
  · obtain ⟨L0, e1, e2, e3, e4⟩ := a.log i hi
    obtain ⟨n1, n2, _⟩ := h1 i hi
    exact ⟨L0, (upd_ne n1).trans e1, e2, e3, (upd_ne n2).trans e4⟩
  · obtain ⟨e1, e2, e3⟩ := a.row i hi
    exact ⟨(upd_ne (h1 i hi).2.2).trans e1, e2.put e, e3⟩
end
/-- a comprehension over a range that lays objects -/
theorem comp_rangeJ {σ : L2.St} {H : Hp} {Q : VK} {n : Nat} {te : TE} {j : Nat} (J : Addr → Nat → List V → Hp → Prop) (hn : n ≤ 100000)
    (h0 : ∀ D, H D = none → J D 0 [] (upd H D (.lst [])))
    (hs : ∀ (D : Addr) (k : Nat) (ys : List V) (H' : Hp) (Q2 : VK), H D = none → k < n → H' D = some (.lst ys) → ys.length = k → J D k ys H' → (∀ y H'', H'' D = some (.lst ys) → J D (k + 1) (ys ++ [y]) (upd H'' D (.lst (ys ++ [y]))) → Q2 y H'') → te ((wipe σ [j]).set j (some (.int (k : Int)))) H' Q2)
    (q : ∀ p H' ys, H p = none → H' p = some (.lst ys) → ys.length = n → J p n ys H' → Q (.ref p) H') (hw : ∀ x, wipe ((wipe σ [j]).set j (some x)) [j] = wipe σ [j] := by intro _; rfl) : CompOk (Itr 0 n) (gName j) tYes te [j] σ H Q := by
  intro Dl hD
  refine lc_range (lo := 0) (n := n) (fun i H' => ∃ ys, H' Dl = some (.lst ys) ∧ ys.length = i ∧ J Dl i ys H') ⟨[], upd_same, rfl, h0 Dl hD⟩ (fun i H' hi p => ?_) (fun H' ⟨ys, e, hl, hJ⟩ => q Dl H' ys hD e hl hJ)
  obtain ⟨ys, e, hl, hJ⟩ := p
  refine ⟨hw _, ?_⟩
  refine k_yes (iteT ?_)
  rw [Int.zero_add]
  refine hs Dl i ys H' _ hD hi e hl hJ fun y H'' e2 hJ2 => ⟨ys, e2, by rw [hl]; exact Nat.lt_of_lt_of_le (Nat.lt_of_lt_of_le hi hn) (by decide), ys ++ [y], upd_same, by rw [List.length_append, hl]; rfl, hJ2⟩
/-- lists that stay -/
def FixL (F : List (Addr × List V)) (H : Hp) : Prop := ∀ x ∈ F, H x.1 = some (.lst x.2)
theorem FixL.moveH {F : List (Addr × List V)} {H H' : Hp} {p h : Addr} (f : FixL F H) (Y : SameH (some p) h H H') (n : ∀ x ∈ F, p ≠ x.1) : FixL F H' := fun x hx => Y.get (fun z => n x hx (Option.some.inj z)) (fun z => by
  obtain ⟨C, d, fs, w⟩ := Y.isi
  rw [← z, f x hx] at w; cases w) (f x hx)
theorem FixL.same {F : List (Addr × List V)} {H H' : Hp} (f : FixL F H) (s : Same H H') : FixL F H' := fun x hx => s.get (f x hx)
theorem FixL.put {F : List (Addr × List V)} {H : Hp} {p : Addr} {o : HO} (f : FixL F H) (n : ∀ x ∈ F, p ≠ x.1) : FixL F (upd H p o) := fun x hx => (upd_ne fun z => n x hx z.symm).trans (f x hx)
def two {α : Type} (a b : α) (i : Nat) : α := if i = 0 then a else b
def tri {α : Type} (a b c : α) (i : Nat) : α := if i = 0 then a else if i = 1 then b else c
theorem two_at {a b : Addr} {i : Nat} (h : i < 2) : atI [V.ref a, .ref b] (i : Int) = some (.ref (two a b i)) := by
  have h2 : i = 0 ∨ i = 1 := by omega
  rcases h2 with rfl | rfl <;> rfl
theorem two_all {P : Nat → Prop} (h0 : P 0) (h1 : P 1) : ∀ i, i < 2 → P i := fun i h => by
  have h2 : i = 0 ∨ i = 1 := by omega
  rcases h2 with rfl | rfl <;> assumption
theorem tri_at {h : Nat → Addr} {k : Nat} (hk : k < 3) : atI [V.ref (h 0), .ref (h 1), .ref (h 2)] (k : Int) = some (.ref (h k)) := by
  have h2 : k = 0 ∨ k = 1 ∨ k = 2 := by omega
  rcases h2 with rfl | rfl | rfl <;> rfl
theorem int_at {st : Nat → Nat} {k : Nat} (hk : k < 3) : atI [V.int (st 0 : Nat), .int (st 1 : Nat), .int (st 2 : Nat)] (k : Int) = some (.int (st k : Nat)) := by
  have h2 : k = 0 ∨ k = 1 ∨ k = 2 := by omega
  rcases h2 with rfl | rfl | rfl <;> rfl
theorem int_set {st : Nat → Nat} {k s' : Nat} (hk : k < 3) : ([V.int (st 0 : Nat), .int (st 1 : Nat), .int (st 2 : Nat)] : List V).set k (.int (s' : Nat)) = [V.int ((fun j => if j = k then s' else st j) 0 : Nat), .int ((fun j => if j = k then s' else st j) 1 : Nat), .int ((fun j => if j = k then s' else st j) 2 : Nat)] := by
  have h2 : k = 0 ∨ k = 1 ∨ k = 2 := by omega
  rcases h2 with rfl | rfl | rfl <;> rfl

def sp_law (K : PySem.W.Frag) : Sp := fun vs H Q _ => ∃ (a : Addr) (ns : List Int), vs = [.ref a] ∧ SqL K H a (ns.map V.int) ∧ ns.length ≤ 63 ∧ (∀ x ∈ tabL, NdefX.TabN H (tabP K x) nmL) ∧ ∀ H', Q (.bl true) H'
theorem len_law (K : PySem.W.Frag) : ∀ vs H Q E, sp_law K vs H Q E → vs.length = 1 := by
  rintro vs H Q E ⟨a, ns, rfl, _⟩; rfl

def t_law (K : PySem.W.Frag) (CL : CLs) : TS :=
  (tSeq (tAsg (tLst (tCons (tCall (sp_law_depths K) [] E0 (tCons (tSl (rSlL K) (tVar 0) tNoPart (tPart (tC (.int 63)))) (tCons (tC (.int 60)) tNil))) (tCons (tCall (sp_law_depths K) [] E0 (tCons (tRevL K (tSl (rSlL K) (tVar 0) tNoPart (tPart (tC (.int 63))))) (tCons (tC (.int 60)) tNil))) tNil))) (gName 1))
  (tSeq (tAsg (tLst (tCons (tCall (sp_law_brackets K) [] E0 (tCons (tOp (rIxL K) (tVar 1) (tC (.int 0))) tNil)) (tCons (tCall (sp_law_brackets K) [] E0 (tCons (tOp (rIxL K) (tVar 1) (tC (.int 1))) tNil)) tNil))) (gName 2))
  (tSeq (tAsg (tLst (tCons (tCall (sp_kept_tree K) [] E0 (tCons (tCB (rListOf K) (tCons (tOp (rIxL K) (tVar 1) (tC (.int 0))) tNil)) tNil)) (tCons (tCall (sp_kept_tree K) [] E0 (tCons (tCB (rListOf K) (tCons (tOp (rIxL K) (tVar 1) (tC (.int 1))) tNil)) tNil)) tNil))) (gName 3))
  (tSeq (tAsg (tLst (tCons (tLst tNil) (tCons (tLst tNil) tNil))) (gName 4))
  (tSeq (tAsg (tLc (iRng1 (tCons (tC (.int 3)) tNil)) (gName 6) tYes (tMakeC K "Hand" (sp_Hand_init K) E0 (tCons (tOp (rIxT K) (tOp (rIxL K) (tVar 3) (tOp rDiv (tVar 6) (tC (.int 2)))) (tC (.int 0))) (tCons (tCall (sp_law_look K CL) [] E0 (tCons (tOp (rIxT K) (tOp (rIxL K) (tVar 3) (tOp rDiv (tVar 6) (tC (.int 2)))) (tC (.int 1))) (tCons (tOp (rIxL K) (tVar 4) (tOp rDiv (tVar 6) (tC (.int 2)))) tNil))) tNil))) [6]) (gName 5))
  (tSeq (tAsg (tLst (tCons (tC (.int 0)) (tCons (tC (.int 0)) (tCons (tC (.int 0)) tNil)))) (gName 7))
  (tSeq (tFor (iList K (tSl (rSlL K) (tVar 0) tNoPart (tPart (tC (.int 24))))) (gName 8)
  (tSeq (tAsg (tOp rMod (tOp rTimes (tVar 8) (tC (.int 40692))) (tC (.int 2147483399))) (gName 9))
  (tSeq (tAsg (tOp rMod (tOp rDiv (tVar 9) (tC (.int 1009))) (tC (.int 3))) (gName 6))
  (tSeq (tAsg (tOp rPlus (tC (.int 1)) (tOp rMod (tVar 8) (tC (.int 1000000000000000000000000000000000000000000000000000000000000)))) (gName 10))
  (tSeq (tAsg (tCall (sp_law_done K CL) [] E0 (tCons (tOp (rIxL K) (tVar 5) (tVar 6)) (tCons (tOp (rIxL K) (tVar 2) (tOp rDiv (tVar 6) (tC (.int 2)))) (tCons (tOp (rIxL K) (tVar 7) (tVar 6)) (tCons (tVar 9) (tCons (tVar 10) tNil)))))) (gSub (tVar 7) (tVar 6) rSetL))
  (tSeq (tIfS (tTest (tOp rLt (tOp (rIxL K) (tVar 7) (tVar 6)) (tC (.int 0))))
  (tRet (tC (.bl false)))
  tNext)
  (tFor (iList K (tLst (tCons (tOp rMod (tOp rPlus (tVar 6) (tC (.int 1))) (tC (.int 3))) (tCons (tVar 6) (tCons (tOp rMod (tOp rPlus (tVar 6) (tC (.int 2))) (tC (.int 3))) tNil))))) (gName 11)
  (tIfS (tTest (tOp (rNeD K) (tCall (sp_law_stand K CL) [] E0 (tCons (tOp (rIxL K) (tVar 5) (tVar 11)) (tCons (tOp rMod (tOp rDiv (tVar 9) (tC (.int 16))) (tC (.int 2))) tNil))) (tOp (rIxL K) (tOp (rIxL K) (tVar 2) (tOp rDiv (tVar 11) (tC (.int 2)))) (tOp (rIxL K) (tVar 7) (tVar 11)))))
  (tRet (tC (.bl false)))
  tNext))))))))
  (tRet (tAndV (tCall (sp_law_there K) [] E0 (tCons (tOp (rIxL K) (tVar 4) (tC (.int 0))) (tCons (tCB (rLen K) (tCons (tOp (rIxT K) (tOp (rIxL K) (tVar 3) (tC (.int 0))) (tC (.int 1))) tNil)) tNil))) (tCall (sp_law_there K) [] E0 (tCons (tOp (rIxL K) (tVar 4) (tC (.int 1))) (tCons (tCB (rLen K) (tCons (tOp (rIxT K) (tOp (rIxL K) (tVar 3) (tC (.int 1))) (tC (.int 1))) tNil)) tNil))))))))))))
abbrev n_law : List Str := ["_law_script", "_law_trees", "_law_rows", "_law_kept", "_law_seen", "_law_hands", "_law_k", "_law_spots", "_law_cell", "_law_number", "_law_far", "_law_other"]

theorem rd_law (K : PySem.W.Frag) (CL : CLs) (vs : List V) (H : Hp) (Q : VK) (E : XK) (h : sp_law K vs H Q E) : t_law K CL { nx := fun _ H' => Q .non H', rt := Q } (start n_law vs) H := by
  obtain ⟨a, ns, rfl, hS, hl, hT, q⟩ := h
  have hTl := hT "_law_look" (by decide)
  have hTn := hT "node_look" (by decide)
  clear hT
  have hl63 : (ns.take 63).length ≤ 63 := by rw [List.length_take]; omega
  unfold t_law
  walk_at "st"
  refine k_slTake (k := 63) hS fun p1 H1 hp1 s1 e1 => ?_
  walk_at "st"
  refine ⟨p1, ns.take 63, 59, rfl, .of e1, hl63, fun ds0 q0 H2 hD0 hd0 hq0 s2 e2 => ?_⟩
  have t2 := s1.trans s2
  walk_at "st"
  refine k_slTake (k := 63) (t2.seq hS) fun p3 H3 hp3 s3 e3 => ?_
  refine m_revLE (.of e3) fun p4 hp4 => ?_
  rw [← List.map_reverse]
  have s4 := same_new (o := .lst ((ns.take 63).reverse.map V.int)) hp4
  have e4 := upd_same (H := H3) (a := p4) (o := .lst ((ns.take 63).reverse.map V.int))
  generalize upd H3 p4 (.lst ((ns.take 63).reverse.map V.int)) = H4 at s4 e4 ⊢
  walk_at "st"
  refine ⟨p4, (ns.take 63).reverse, 59, rfl, .of e4, by rw [List.length_reverse]; exact hl63, fun ds1 q1 H5 hD1 hd1 hq1 s5 e5 => ?_⟩
  walk_at "st"
  intro pT hpT
  have s6 := same_new (o := .lst [.ref q0, .ref q1]) hpT
  have eT := upd_same (H := H5) (a := pT) (o := .lst [.ref q0, .ref q1])
  have t6 := t2.trans (s3.trans (s4.trans (s5.trans s6)))
  replace e2 := s6.get (s5.get (s4.get (s3.get e2)))
  replace e5 := s6.get e5
  generalize upd H5 pT (.lst [.ref q0, .ref q1]) = H6 at s6 eT t6 e2 e5 ⊢
  clear s1 s2 s3 s4 s5 s6 t2 e1 e3 e4 hp1 hp3 hp4 hq0 hq1
  have hb0 := brk_len hD0
  have hb1 := brk_len hD1
  walk_at "st"
  refine k_ixL (.of eT) (x := .ref q0) rfl ?_
  walk_at "st"
  refine ⟨q0, ds0, rfl, e2, hD0, by omega, fun r0 xs0 H7 hr0 s7 er0 hx0 hR0 => ?_⟩
  walk_at "st"
  refine k_ixL (.of (s7.get eT)) (x := .ref q1) rfl ?_
  walk_at "st"
  refine ⟨q1, ds1, rfl, s7.get e5, hD1, by omega, fun r1 xs1 H8 hr1 s8 er1 hx1 hR1 => ?_⟩
  walk_at "st"
  intro pR hpR
  have s9 := same_new (o := .lst [.ref r0, .ref r1]) hpR
  have eR := upd_same (H := H8) (a := pR) (o := .lst [.ref r0, .ref r1])
  replace er0 := s9.get (s8.get er0)
  replace er1 := s9.get er1
  replace hR0 := hR0.same (s8.trans s9)
  replace hR1 := hR1.same s9
  have t9 := t6.trans (s7.trans (s8.trans s9))
  replace eT := (s7.trans (s8.trans s9)).get eT
  replace e2 := (s7.trans (s8.trans s9)).get e2
  replace e5 := (s7.trans (s8.trans s9)).get e5
  generalize upd H8 pR (.lst [.ref r0, .ref r1]) = H9 at s9 eR er0 er1 hR0 hR1 t9 eT e2 e5 ⊢
  clear s7 s8 s9 t6 hr0 hr1
  walk_at "st"
  refine k_ixL (.of eT) (x := .ref q0) rfl ?_
  walk_at "st"
  refine k_listL (.of e2) fun c0 hc0 => ?_
  have s10 := same_new (o := .lst (ds0.map V.int)) hc0
  have ec0 := upd_same (H := H9) (a := c0) (o := .lst (ds0.map V.int))
  generalize upd H9 c0 (.lst (ds0.map V.int)) = H10 at s10 ec0 ⊢
  walk_at "st"
  refine ⟨c0, ds0, rfl, .of ec0, by omega, fun z => by omega, fun _ z => absurd hD0 z, fun _ _ k0 t0 pa0 ph0 pb0 H11 hk0 hpb0 s11 ek0 et0 ea0 eh0 eb0 => ?_⟩
  have u11 := s10.trans s11
  walk_at "st"
  refine k_ixL (.of (u11.get eT)) (x := .ref q1) rfl ?_
  walk_at "st"
  refine k_listL (.of (u11.get e5)) fun c1 hc1 => ?_
  have s12 := same_new (o := .lst (ds1.map V.int)) hc1
  have ec1 := upd_same (H := H11) (a := c1) (o := .lst (ds1.map V.int))
  generalize upd H11 c1 (.lst (ds1.map V.int)) = H12 at s12 ec1 ⊢
  walk_at "st"
  refine ⟨c1, ds1, rfl, .of ec1, by omega, fun z => by omega, fun _ z => absurd hD1 z, fun _ _ k1 t1 pa1 ph1 pb1 H13 hk1 hpb1 s13 ek1 et1 ea1 eh1 eb1 => ?_⟩
  have u13 := s12.trans s13
  walk_at "st"
  intro pK hpK
  have s14 := same_new (o := .lst [.ref k0, .ref k1]) hpK
  have eK := upd_same (H := H13) (a := pK) (o := .lst [.ref k0, .ref k1])
  have w0 := u13.trans s14
  have w := u11.trans w0
  replace ek0 := w0.get ek0
  replace et0 := w0.get et0
  replace ea0 := w0.get ea0
  replace eh0 := w0.get eh0
  replace eb0 := w0.get eb0
  replace ek1 := s14.get ek1
  replace et1 := s14.get et1
  replace ea1 := s14.get ea1
  replace eh1 := s14.get eh1
  replace eb1 := s14.get eb1
  replace er0 := w.get er0
  replace er1 := w.get er1
  replace eR := w.get eR
  replace hR0 := hR0.same w
  replace hR1 := hR1.same w
  have t14 := t9.trans w
  generalize upd H13 pK (.lst [.ref k0, .ref k1]) = H14 at s14 eK w0 w ek0 et0 ea0 eh0 eb0 ek1 et1 ea1 eh1 eb1 er0 er1 eR hR0 hR1 t14 ⊢
  clear s10 s11 s12 s13 s14 u11 u13 w0 w t9 eT e2 e5 hk0 hk1 hpb0 hpb1 hc0 hc1 hpT hpR hpK ec0 ec1
  walk_at "st"
  intro ps0 hps0
  have s15 := same_new (o := .lst []) hps0
  have es0 := upd_same (H := H14) (a := ps0) (o := .lst [])
  have hps0' := hps0
  generalize upd H14 ps0 (.lst []) = H15 at s15 es0 ⊢
  walk_at "st"
  intro ps1 hps1
  have s16 := same_new (o := .lst []) hps1
  have es1 := upd_same (H := H15) (a := ps1) (o := .lst [])
  have np01 : ps0 ≠ ps1 := ne_of_none es0 hps1
  have hps1' := s15.gone _ hps1
  replace es0 := s16.get es0
  generalize upd H15 ps1 (.lst []) = H16 at s16 es1 es0 ⊢
  walk_at "st"
  intro pS hpS
  have s17 := same_new (o := .lst [.ref ps0, .ref ps1]) hpS
  have eS := upd_same (H := H16) (a := pS) (o := .lst [.ref ps0, .ref ps1])
  have nS0 : ps0 ≠ pS := ne_of_none es0 hpS
  have nS1 : ps1 ≠ pS := ne_of_none es1 hpS
  replace es0 := s17.get es0
  replace es1 := s17.get es1
  have w := s15.trans (s16.trans s17)
  have t17 := t14.trans w
  have ne0 : ∀ {b : Addr} {xs : List V}, H14 b = some (.lst xs) → ps0 ≠ b ∧ ps1 ≠ b := fun {b xs} e => ⟨(ne_of_none e hps0').symm, (ne_of_none e hps1').symm⟩
  obtain ⟨nb00, nb10⟩ := ne0 eb0
  obtain ⟨nb01, nb11⟩ := ne0 eb1
  obtain ⟨nr00, nr10⟩ := ne0 er0
  obtain ⟨nr01, nr11⟩ := ne0 er1
  obtain ⟨nR0, nR1⟩ := ne0 eR
  obtain ⟨nK0, nK1⟩ := ne0 eK
  replace ek0 := w.get ek0
  replace et0 := w.get et0
  replace ea0 := w.get ea0
  replace eh0 := w.get eh0
  replace eb0 := w.get eb0
  replace ek1 := w.get ek1
  replace et1 := w.get et1
  replace ea1 := w.get ea1
  replace eh1 := w.get eh1
  replace eb1 := w.get eb1
  replace er0 := w.get er0
  replace er1 := w.get er1
  replace eR := w.get eR
  replace eK := w.get eK
  replace hR0 := hR0.same w
  replace hR1 := hR1.same w
  generalize upd H16 pS (.lst [.ref ps0, .ref ps1]) = H17 at s17 eS es0 es1 w t17 ek0 et0 ea0 eh0 eb0 ek1 et1 ea1 eh1 eb1 er0 er1 eR eK hR0 hR1 ⊢
  clear s15 s16 s17 w t14 ne0 hps0 hps1 hpS
  -- by number
  have gK : ∀ i, i < 2 → H17 (two k0 k1 i) = some (.tup [.ref (two t0 t1 i), .ref (two pb0 pb1 i)]) := two_all ek0 ek1
  have gT : ∀ i, i < 2 → ∃ pa ph, H17 (two t0 t1 i) = some (.tup [.int ((brk (two ds0 ds1 i)).length : Int), .ref pa, .ref ph]) ∧ H17 pa = some (.tup ((aheadT (brk (two ds0 ds1 i))).map V.int)) ∧ H17 ph = some (.tup (heapL (lowsOf (brk (two ds0 ds1 i))))) := two_all ⟨pa0, ph0, et0, ea0, eh0⟩ ⟨pa1, ph1, et1, ea1, eh1⟩
  have gB : ∀ i, i < 2 → H17 (two pb0 pb1 i) = some (.lst ((blks (brk (two ds0 ds1 i))).map V.int)) := two_all eb0 eb1
  have gS : ∀ i, i < 2 → H17 (two ps0 ps1 i) = some (.lst []) := two_all es0 es1
  have gD : ∀ i, i < 2 → Deep (two ds0 ds1 i) ∧ (two ds0 ds1 i).length ≤ 60 ∧ 0 < (brk (two ds0 ds1 i)).length := two_all ⟨hD0, hd0, by have := (brk_tree hD0).1.1; show 0 < (brk ds0).length; omega⟩ ⟨hD1, hd1, by have := (brk_tree hD1).1.1; show 0 < (brk ds1).length; omega⟩
  have nsb : ∀ i j, i < 2 → j < 2 → two ps0 ps1 i ≠ two pb0 pb1 j := fun i j hi hj => two_all (P := fun i => two ps0 ps1 i ≠ two pb0 pb1 j) (two_all (P := fun j => ps0 ≠ two pb0 pb1 j) nb00 nb01 j hj) (two_all (P := fun j => ps1 ≠ two pb0 pb1 j) nb10 nb11 j hj) i hi
  have nsr : ∀ i j, i < 2 → j < 2 → two ps0 ps1 i ≠ two r0 r1 j := fun i j hi hj => two_all (P := fun i => two ps0 ps1 i ≠ two r0 r1 j) (two_all (P := fun j => ps0 ≠ two r0 r1 j) nr00 nr01 j hj) (two_all (P := fun j => ps1 ≠ two r0 r1 j) nr10 nr11 j hj) i hi
  have npp : ∀ i j, i < 2 → j < 2 → i ≠ j → two ps0 ps1 i ≠ two ps0 ps1 j := fun i j hi hj hij => by
    have h1 : i = 0 ∨ i = 1 := by omega
    have h2 : j = 0 ∨ j = 1 := by omega
    rcases h1 with rfl | rfl <;> rcases h2 with rfl | rfl
    · exact absurd rfl hij
    · exact np01
    · exact np01.symm
    · exact absurd rfl hij
  have gR : ∀ i, i < 2 → H17 (two r0 r1 i) = some (.lst (two xs0 xs1 i)) ∧ RowsB (two ds0 ds1 i) H17 (two xs0 xs1 i) ∧ (two xs0 xs1 i).length = (brk (two ds0 ds1 i)).length := two_all ⟨er0, hR0, hx0⟩ ⟨er1, hR1, hx1⟩
  walk_at "st"
  refine comp_rangeJ (fun D i ys H' => Same H17 H' ∧ (∀ k, k < i → ∃ hk gk, ys[k]? = some (.ref hk) ∧ Raw K CL H' hk (two t0 t1 (k / 2)) gk (two ps0 ps1 (k / 2)) (two pb0 pb1 (k / 2)) 0 (two ds0 ds1 (k / 2))) ∧ ∀ j k, j < i → k < i → j ≠ k → ys[j]? ≠ ys[k]?) (by decide) (fun D hD => ⟨same_new hD, fun k hk => by omega, fun j k hj => by omega⟩) (fun D k ys H' Q2 hD hk eD hyl hJ q2 => ?_) fun pH H18 ys hpH eH hyl hJ => ?_
  · obtain ⟨sJ, rJ, dJ⟩ := hJ
    have hk2 : k / 2 < 2 := by omega
    have ekk : ((k : Int)) / 2 = ((k / 2 : Nat) : Int) := by omega
    walk_at "st"
    rw [ekk]
    refine k_ixL (.of (sJ.get eK)) (two_at hk2) ?_
    walk_at "st"
    refine k_ixT (.of (sJ.get (gK _ hk2))) (x := .ref (two t0 t1 (k / 2))) rfl ?_
    walk_at "st"
    rw [ekk]
    refine k_ixL (.of (sJ.get eK)) (two_at hk2) ?_
    walk_at "st"
    refine k_ixT (.of (sJ.get (gK _ hk2))) (x := .ref (two pb0 pb1 (k / 2))) rfl ?_
    walk_at "st"
    rw [ekk]
    refine k_ixL (.of (sJ.get eS)) (two_at hk2) ?_
    walk_at "st"
    refine ⟨two pb0 pb1 (k / 2), two ps0 ps1 (k / 2), _, [], rfl, nsb _ _ hk2 hk2, sJ.get (gS _ hk2), sJ.get (gB _ hk2), (t17.trans sJ).tabs _ hTl, fun g Hg hg sg lk => ?_⟩
    walk_at "st"
    refine new_hand fun hh dx hhh s3 => ?_
    have eo := upd_same (H := upd Hg dx (.own hh)) (a := hh) (o := .ins (He.ga K "Hand") dx (handF (two t0 t1 (k / 2)) g 0))
    generalize upd (upd Hg dx (.own hh)) hh (.ins (He.ga K "Hand") dx (handF (two t0 t1 (k / 2)) g 0)) = H3 at s3 eo ⊢
    have sz := sg.trans s3
    have eD3 := sz.get eD
    obtain ⟨pa, ph, g1, g2, g3⟩ := gT _ hk2
    obtain ⟨d1, d2, d3⟩ := gD _ hk2
    have w3 := sJ.trans sz
    have hD17 : H17 D = none := hD
    have new : Raw K CL H3 hh (two t0 t1 (k / 2)) g (two ps0 ps1 (k / 2)) (two pb0 pb1 (k / 2)) 0 (two ds0 ds1 (k / 2)) :=
      ⟨⟨dx, eo⟩, d3, d1, d2, ⟨pa, ph, .of (w3.get g1), .of (w3.get g2), .of (w3.get g3)⟩, nsb _ _ hk2 hk2, extOf Hg, lk, fun b o e nt => by
        obtain ⟨φ, rfl, e2⟩ := extOf_only e
        exact s3.keep b _ e2 nt, fun b o e => let ⟨φ, h1, _⟩ := extOf_only e; ⟨φ, h1⟩⟩
    refine q2 (.ref hh) H3 eD3 ⟨w3.mut hD17 ⟨_, eD3⟩, fun j hj => ?_, fun i j hi hj hij => ?_⟩
    · rcases Nat.lt_or_ge j k with z | z
      · obtain ⟨hj', gj, ej, rj⟩ := rJ j z
        exact ⟨hj', gj, by rw [List.getElem?_append_left (by omega)]; exact ej, (rj.same sz).put eD3⟩
      · obtain rfl : j = k := by omega
        exact ⟨hh, g, by rw [List.getElem?_append_right (by omega), hyl, Nat.sub_self]; rfl, new.put eD3⟩
    · have last : (ys ++ [V.ref hh])[k]? = some (.ref hh) := by rw [List.getElem?_append_right (by omega), hyl, Nat.sub_self]; rfl
      have diff : ∀ j, j < k → (ys ++ [V.ref hh])[j]? ≠ some (.ref hh) := fun j z w => by
        rw [List.getElem?_append_left (by omega)] at w
        obtain ⟨hj', gj, ej, rj⟩ := rJ j z
        rw [ej] at w
        have e : hj' = hh := by cases w; rfl
        obtain ⟨dj, oj⟩ := (rj.same sg).obj
        rw [e, hhh] at oj; cases oj
      rcases Nat.lt_or_ge i k with zi | zi
      · rcases Nat.lt_or_ge j k with zj | zj
        · rw [List.getElem?_append_left (by omega), List.getElem?_append_left (by omega)]
          exact dJ i j zi zj hij
        · obtain rfl : j = k := by omega
          rw [last]; exact diff i zi
      · obtain rfl : i = k := by omega
        rw [last]; exact (diff j (by omega)).symm
  obtain ⟨sJ, rJ, dJ⟩ := hJ
  obtain ⟨h0, g0, y0, r0'⟩ := rJ 0 (by decide)
  obtain ⟨h1, g1, y1, r1'⟩ := rJ 1 (by decide)
  obtain ⟨h2, g2, y2, r2'⟩ := rJ 2 (by decide)
  have eys : ys = [V.ref (tri h0 h1 h2 0), .ref (tri h0 h1 h2 1), .ref (tri h0 h1 h2 2)] := by
    match ys, hyl with
    | [u0, u1, u2], _ =>
      obtain rfl := Option.some.inj y0
      obtain rfl := Option.some.inj y1
      obtain rfl := Option.some.inj y2
      rfl
  have inj : ∀ j k, j < 3 → k < 3 → j ≠ k → tri h0 h1 h2 j ≠ tri h0 h1 h2 k := fun j k hj hk hjk z => by
    have f : ∀ i, i < 3 → ys[i]? = some (.ref (tri h0 h1 h2 i)) := fun i hi => by
      have h3 : i = 0 ∨ i = 1 ∨ i = 2 := by omega
      rcases h3 with rfl | rfl | rfl <;> rw [eys] <;> rfl
    exact dJ j k hj hk hjk (by rw [f j hj, f k hk, z])
  have raw3 : ∀ k, k < 3 → Raw K CL H18 (tri h0 h1 h2 k) (two t0 t1 (k / 2)) (tri g0 g1 g2 k) (two ps0 ps1 (k / 2)) (two pb0 pb1 (k / 2)) 0 (two ds0 ds1 (k / 2)) := fun k hk => by
    have h3 : k = 0 ∨ k = 1 ∨ k = 2 := by omega
    rcases h3 with rfl | rfl | rfl
    · exact r0'
    · exact r1'
    · exact r2'
  have S18 : St3 K CL H18 (tri h0 h1 h2) (tri g0 g1 g2) (two t0 t1) (two ps0 ps1) (two pb0 pb1) (two r0 r1) (two ds0 ds1) (two xs0 xs1) (fun _ => 0) 0 :=
    ⟨raw3, fun i hi => ⟨[], sJ.get (gS i hi), by decide, fun x hx => (by cases hx), sJ.get (gB i hi)⟩, fun i hi => let ⟨e1, e2, e3⟩ := gR i hi; ⟨sJ.get e1, e2.same sJ, e3⟩, inj, npp, nsb, nsr⟩
  have eH' : H18 pH = some (.lst [V.ref (tri h0 h1 h2 0), .ref (tri h0 h1 h2 1), .ref (tri h0 h1 h2 2)]) := by rw [eH, eys]
  have t18 := t17.trans sJ
  have eR18 := sJ.get eR
  have eS18 := sJ.get eS
  have eK18 := sJ.get eK
  have gK18 : ∀ i, i < 2 → H18 (two k0 k1 i) = some (.tup [.ref (two t0 t1 i), .ref (two pb0 pb1 i)]) := fun i hi => sJ.get (gK i hi)
  have nH0 : ∀ i, i < 2 → two ps0 ps1 i ≠ pH := fun i hi => ne_of_none (gS i hi) hpH
  clear raw3 r0' r1' r2' rJ dJ y0 y1 y2 eys inj eH gS gT gR gB gD nsb nsr npp
  walk_at "st"
  intro p7 hp7
  have s7 := same_new (o := .lst [.int 0, .int 0, .int 0]) hp7
  have e7 := upd_same (H := H18) (a := p7) (o := .lst [.int 0, .int 0, .int 0])
  have S19 := S18.same s7
  have t19 := t18.trans s7
  have nH := ne_of_none eH' hp7
  have nR := ne_of_none eR18 hp7
  have nS := ne_of_none eS18 hp7
  have nK := ne_of_none eK18 hp7
  have n7 : ∀ i, i < 2 → (two ps0 ps1) i ≠ p7 ∧ (two pb0 pb1) i ≠ p7 ∧ (two r0 r1) i ≠ p7 := fun i hi => by
    obtain ⟨L0, l1, _, _, l4⟩ := S18.log i hi
    exact ⟨ne_of_none l1 hp7, ne_of_none l4 hp7, ne_of_none (S18.row i hi).1 hp7⟩
  replace eH' := s7.get eH'
  replace eR18 := s7.get eR18
  replace eS18 := s7.get eS18
  replace eK18 := s7.get eK18
  have gK19 : ∀ i, i < 2 → (upd H18 p7 (.lst [.int 0, .int 0, .int 0])) (two k0 k1 i) = some (.tup [.ref (two t0 t1 i), .ref (two pb0 pb1 i)]) := fun i hi => s7.get (gK18 i hi)
  generalize upd H18 p7 (.lst [.int 0, .int 0, .int 0]) = H19 at s7 e7 S19 t19 eH' eR18 eS18 eK18 gK19 ⊢
  walk_at "st"
  refine k_slTake (k := 24) (t19.seq hS) fun p8 H20 hp8 s8 e8 => ?_
  have S20 := S19.same s8
  have t20 := t19.trans s8
  have e720 := s8.get e7
  have n8 : ∀ i, i < 2 → (two ps0 ps1) i ≠ p8 := fun i hi => by
    obtain ⟨L0, l1, _⟩ := S19.log i hi
    exact ne_of_none l1 hp8
  have n78 : p7 ≠ p8 := ne_of_none e7 hp8
  obtain ⟨F, hF⟩ : ∃ F : List (Addr × List V), F = [(pH, [V.ref ((tri h0 h1 h2) 0), .ref ((tri h0 h1 h2) 1), .ref ((tri h0 h1 h2) 2)]), (pR, [V.ref r0, .ref r1]), (pS, [V.ref ps0, .ref ps1]), (pK, [V.ref k0, .ref k1]), (p8, (ns.take 24).map V.int)] := ⟨_, rfl⟩
  have F20 : FixL F H20 := fun x hx => by
    rw [hF] at hx
    simp only [List.mem_cons, List.not_mem_nil, or_false] at hx
    rcases hx with rfl | rfl | rfl | rfl | rfl
    · exact s8.get eH'
    · exact s8.get eR18
    · exact s8.get eS18
    · exact s8.get eK18
    · exact e8
  have nF7 : ∀ x ∈ F, p7 ≠ x.1 := fun x hx => by
    rw [hF] at hx
    simp only [List.mem_cons, List.not_mem_nil, or_false] at hx
    rcases hx with rfl | rfl | rfl | rfl | rfl
    · exact nH.symm
    · exact nR.symm
    · exact nS.symm
    · exact nK.symm
    · exact n78
  have nFP : ∀ i, i < 2 → ∀ x ∈ F, (two ps0 ps1) i ≠ x.1 := fun i hi x hx => by
    rw [hF] at hx
    simp only [List.mem_cons, List.not_mem_nil, or_false] at hx
    rcases hx with rfl | rfl | rfl | rfl | rfl
    · exact nH0 i hi
    · exact two_all (P := fun i => (two ps0 ps1) i ≠ pR) nR0 nR1 i hi
    · exact two_all (P := fun i => (two ps0 ps1) i ≠ pS) nS0 nS1 i hi
    · exact two_all (P := fun i => (two ps0 ps1) i ≠ pK) nK0 nK1 i hi
    · exact n8 i hi
  have mH : (pH, [V.ref ((tri h0 h1 h2) 0), .ref ((tri h0 h1 h2) 1), .ref ((tri h0 h1 h2) 2)]) ∈ F := by rw [hF]; simp
  have mR : (pR, [V.ref r0, .ref r1]) ∈ F := by rw [hF]; simp
  have mS : (pS, [V.ref ps0, .ref ps1]) ∈ F := by rw [hF]; simp
  have mK : (pK, [V.ref k0, .ref k1]) ∈ F := by rw [hF]; simp
  have m8 : (p8, (ns.take 24).map V.int) ∈ F := by rw [hF]; simp
  have gK20 : ∀ i, i < 2 → H20 (two k0 k1 i) = some (.tup [.ref (two t0 t1 i), .ref (two pb0 pb1 i)]) := fun i hi => s8.get (gK19 i hi)
  have hT20 := t20.tabs _ hTn
  clear hF eH' eR18 eS18 eK18 e8 e7 S18 S19 s7 s8 t18 t19 gK18 gK19 nH nR nS nK n8 n78 nH0
  have hl24 : (ns.take 24).length ≤ 24 := by rw [List.length_take]; omega
  refine m_iLe (.of (F20 _ m8)) ?_
  refine loop_ints (ns := ns.take 24) (fun i σ' H' => ∃ (st : Nat → Nat) (v6 v8 v9 v10 v11 : Option V), i ≤ (ns.take 24).length ∧ St3 K CL H' (tri h0 h1 h2) (tri g0 g1 g2) (two t0 t1) (two ps0 ps1) (two pb0 pb1) (two r0 r1) (two ds0 ds1) (two xs0 xs1) st (200 * i) ∧ FixL F H' ∧ (∀ i, i < 2 → H' (two k0 k1 i) = some (.tup [.ref (two t0 t1 i), .ref (two pb0 pb1 i)])) ∧ NdefX.TabN H' (tabP K "node_look") nmL ∧ H' p7 = some (.lst [V.int (st 0 : Nat), .int (st 1 : Nat), .int (st 2 : Nat)]) ∧ σ' = [some (.ref a), some (.ref pT), some (.ref pR), some (.ref pK), some (.ref pS), some (.ref pH), v6, some (.ref p7), v8, v9, v10, v11]) ⟨fun _ => 0, none, none, none, none, none, Nat.zero_le _, S20, F20, gK20, hT20, e720, rfl⟩ (fun i σ' H' ⟨_, _, _, _, _, _, _, _, f, _⟩ => .of (f _ m8)) (fun i c σ' H' hc ⟨st, v6, v8, v9, v10, v11, _, S, fF, gK, hTb, e7, es⟩ => ?_) (fun σ' H' ⟨st, v6, v8, v9, v10, v11, _, S, fF, gK, hTb, e7, es⟩ => ?_)
  · subst es
    have hi2 := (List.getElem?_eq_some_iff.mp hc).1
    walk_at "st"
    obtain ⟨num, hnum⟩ : ∃ num, num = c * 40692 % 2147483399 := ⟨_, rfl⟩
    have hn0 : 0 ≤ num := by omega
    rw [← hnum]
    clear hnum
    obtain ⟨k, hk, hk3⟩ : ∃ k : Nat, num / 1009 % 3 = (k : Int) ∧ k < 3 := by
      obtain ⟨k, hk⟩ := Int.eq_ofNat_of_zero_le (show 0 ≤ num / 1009 % 3 by omega)
      exact ⟨k, hk, by omega⟩
    rw [hk]
    have hk2 : k / 2 < 2 := by omega
    have ekk : ((k : Int)) / 2 = ((k / 2 : Nat) : Int) := by omega
    obtain ⟨far, hfar⟩ : ∃ far, far = 1 + c % 1000000000000000000000000000000000000000000000000000000000000 := ⟨_, rfl⟩
    have hf1 : 1 ≤ far := by omega
    rw [← hfar]
    refine k_ixL (.of (fF _ mH)) (tri_at hk3) ?_
    walk_at "st"
    rw [ekk]
    refine k_ixL (.of (fF _ mR)) (two_at hk2) ?_
    walk_at "st"
    refine k_ixL (.of e7) (int_at hk3) ?_
    walk_at "st"
    obtain ⟨L0, l1, l2, l3, l4⟩ := S.log _ hk2
    obtain ⟨B, A, i0, lk, lB⟩ := (S.raw k hk3).hand l1 l4 (by omega)
    obtain ⟨er, hR, hxl⟩ := S.row _ hk2
    refine ⟨(tri h0 h1 h2) k, (two t0 t1) (k / 2), (tri g0 g1 g2) k, (two ps0 ps1) (k / 2), (two r0 r1) (k / 2), st k, num, far, (two ds0 ds1) (k / 2), _, (two xs0 xs1) (k / 2), rfl, er, S.nsr _ _ hk2 hk2, hR, hxl, hn0, hf1, A, i0, hTb, fun s' L2 H1 A1 i1 h60 hin Y1 => ?_⟩
    have S1 := S.act (m := 60) hk3 l1 l2 l3 A1 i1 lk lB h60 hin Y1
    have fF1 := fF.moveH Y1 (nFP _ hk2)
    have gK1 : ∀ i, i < 2 → H1 (two k0 k1 i) = some (.tup [.ref (two t0 t1 i), .ref (two pb0 pb1 i)]) := fun i hi => Y1.tup (gK i hi)
    have hTb1 := Y1.tabs _ hTb
    have e71 : H1 p7 = some (.lst [V.int (st 0 : Nat), .int (st 1 : Nat), .int (st 2 : Nat)]) := Y1.get (fun z => (n7 _ hk2).1 (Option.some.inj z)) (fun z => by
      obtain ⟨C, d, fs, w⟩ := Y1.isi
      rw [← z, e7] at w; cases w) e7
    walk_at "st"
    refine m_setL e71 (j := k) (ixN_nat (k := (k : Int)) (by omega) (by show (k : Int) < 3; omega)) ?_
    rw [int_set hk3]
    obtain ⟨st', hst⟩ : ∃ st' : Nat → Nat, st' = fun j => if j = k then s' else st j := ⟨_, rfl⟩
    have S2 := S1.put (zs := [V.int ((fun j => if j = k then s' else st j) 0 : Nat), .int ((fun j => if j = k then s' else st j) 1 : Nat), .int ((fun j => if j = k then s' else st j) 2 : Nat)]) e71 n7
    have fF2 := fF1.put (o := .lst [V.int ((fun j => if j = k then s' else st j) 0 : Nat), .int ((fun j => if j = k then s' else st j) 1 : Nat), .int ((fun j => if j = k then s' else st j) 2 : Nat)]) nF7
    rw [← hst] at S2 fF2 ⊢
    clear hst S1
    have e72 := upd_same (H := H1) (a := p7) (o := .lst [V.int (st' 0 : Nat), .int (st' 1 : Nat), .int (st' 2 : Nat)])
    have gK2 : ∀ i, i < 2 → (upd H1 p7 (.lst [V.int (st' 0 : Nat), .int (st' 1 : Nat), .int (st' 2 : Nat)])) (two k0 k1 i) = some (.tup [.ref (two t0 t1 i), .ref (two pb0 pb1 i)]) := fun i hi => (upd_ne fun z => by have := gK1 i hi; rw [z, e71] at this; cases this).trans (gK1 i hi)
    have hTb2 : NdefX.TabN (upd H1 p7 (.lst [V.int (st' 0 : Nat), .int (st' 1 : Nat), .int (st' 2 : Nat)])) (tabP K "node_look") nmL := (sameX_put e71).tabs _ hTb1
    generalize upd H1 p7 (.lst [V.int (st' 0 : Nat), .int (st' 1 : Nat), .int (st' 2 : Nat)]) = H2 at S2 fF2 e72 gK2 hTb2 ⊢
    clear Y1 A1 i1 e71 hTb1 gK1 fF1 A i0 er hR l1 l4 S fF gK hTb e7
    walk_at "st"
    refine k_ixL (.of e72) (int_at hk3) ?_
    walk_at "st"
    refine k_decF (by omega) ?_
    walk_at "st"
    intro p9 hp9
    have s9 := same_new (o := .lst [.int (((k : Int) + 1) % 3), .int (k : Int), .int (((k : Int) + 2) % 3)]) hp9
    have e9 : (upd H2 p9 (.lst [.int (((k : Int) + 1) % 3), .int (k : Int), .int (((k : Int) + 2) % 3)])) p9 = some (.lst (([((k : Int) + 1) % 3, (k : Int), ((k : Int) + 2) % 3] : List Int).map V.int)) := upd_same
    have n97 : ∀ i, i < 2 → (two ps0 ps1) i ≠ p9 := fun i hi => let ⟨L0, w1, _⟩ := S2.log i hi; ne_of_none w1 hp9
    replace S2 := S2.same s9
    replace fF2 := fF2.same s9
    replace gK2 : ∀ i, i < 2 → (upd H2 p9 (.lst [.int (((k : Int) + 1) % 3), .int (k : Int), .int (((k : Int) + 2) % 3)])) (two k0 k1 i) = some (.tup [.ref (two t0 t1 i), .ref (two pb0 pb1 i)]) := fun i hi => s9.get (gK2 i hi)
    replace hTb2 := s9.tabs _ hTb2
    replace e72 := s9.get e72
    generalize upd H2 p9 (.lst [.int (((k : Int) + 1) % 3), .int (k : Int), .int (((k : Int) + 2) % 3)]) = H3 at s9 e9 S2 fF2 gK2 hTb2 e72 ⊢
    walk_at "st"
    refine m_iLe (.of e9) ?_
    refine loop_ints (ns := ([((k : Int) + 1) % 3, (k : Int), ((k : Int) + 2) % 3] : List Int)) (fun j σ' H' => ∃ (v11 : Option V), j ≤ 3 ∧ St3 K CL H' (tri h0 h1 h2) (tri g0 g1 g2) (two t0 t1) (two ps0 ps1) (two pb0 pb1) (two r0 r1) (two ds0 ds1) (two xs0 xs1) st' (200 * i + 60 + 10 * j) ∧ FixL F H' ∧ (∀ i, i < 2 → H' (two k0 k1 i) = some (.tup [.ref (two t0 t1 i), .ref (two pb0 pb1 i)])) ∧ NdefX.TabN H' (tabP K "node_look") nmL ∧ H' p7 = some (.lst [V.int (st' 0 : Nat), .int (st' 1 : Nat), .int (st' 2 : Nat)]) ∧ H' p9 = some (.lst (([((k : Int) + 1) % 3, (k : Int), ((k : Int) + 2) % 3] : List Int).map V.int)) ∧ σ' = [some (.ref a), some (.ref pT), some (.ref pR), some (.ref pK), some (.ref pS), some (.ref pH), some (.int (k : Int)), some (.ref p7), some (.int c), some (.int num), some (.int far), v11]) ⟨v11, by decide, S2, fF2, gK2, hTb2, e72, e9, rfl⟩ (fun j σ' H' ⟨_, _, _, _, _, _, _, e, _⟩ => .of e) (fun j o σ' H' ho ⟨v11, hj, S, fF, gK, hTb, e7, e9, es⟩ => ?_) (fun σ' H' ⟨v11, hj, S, fF, gK, hTb, e7, e9, es⟩ => ?_)
    · subst es
      have hj3 : j < 3 := (List.getElem?_eq_some_iff.mp ho).1
      have ho2 : o = ((k : Int) + 1) % 3 ∨ o = (k : Int) ∨ o = ((k : Int) + 2) % 3 := by have := List.mem_of_getElem? ho; simpa using this
      obtain ⟨m, rfl⟩ := Int.eq_ofNat_of_zero_le (show 0 ≤ o by omega)
      have hm3 : m < 3 := by omega
      have hm2 : m / 2 < 2 := by omega
      have emm : ((m : Int)) / 2 = ((m / 2 : Nat) : Int) := by omega
      walk_at "st"
      refine k_ixL (.of (fF _ mH)) (tri_at hm3) ?_
      walk_at "st"
      obtain ⟨L0, l1, l2, l3, l4⟩ := S.log _ hm2
      obtain ⟨B, A, i0, lk, lB⟩ := (S.raw m hm3).hand l1 l4 (by omega)
      refine ⟨(tri h0 h1 h2) m, (two t0 t1) (m / 2), (tri g0 g1 g2) m, st' m, _, (two ds0 ds1) (m / 2), _, _, rfl, A, i0, hTb, fun nd pt H4 L2 hN h8 hin i1 X1 ept => ?_⟩
      have Y1 := X1.toH (S.ins hm3)
      have S1 := S.act (m := 10) hm3 l1 l2 l3 (A.moveX X1) i1 lk lB (by omega) hin Y1
      rw [show (fun j => if j = m then st' m else st' j) = st' by funext j; split <;> simp_all] at S1
      have fF1 := fF.moveH Y1 (nFP _ hm2)
      have e71 : H4 p7 = some (.lst [V.int (st' 0 : Nat), .int (st' 1 : Nat), .int (st' 2 : Nat)]) := X1.get (fun z => (n7 _ hm2).1 (Option.some.inj z)) e7
      have e91 := X1.get (fun z => n97 _ hm2 (Option.some.inj z)) e9
      obtain ⟨er, hR, hxl⟩ := S1.row _ hm2
      have hlt := (S1.raw m hm3).lt
      obtain ⟨t', m', rx, et, hN'⟩ := hR _ _ (List.getElem?_eq_getElem (show st' m < ((two xs0 xs1) (m / 2)).length by omega))
      obtain rfl := hN.u hN'
      walk_at "st"
      rw [emm]
      refine k_ixL (.of (fF1 _ mR)) (two_at hm2) ?_
      walk_at "st"
      refine k_ixL (.of e71) (int_at hm3) ?_
      walk_at "st"
      refine k_ixL (.of er) (x := .ref t') (at_nat (by rw [List.getElem?_eq_getElem (show st' m < ((two xs0 xs1) (m / 2)).length by omega), rx])) ?_
      refine k_neIB (.of ept) (.of et) ?_
      rw [decide_eq_true ⟨rfl, rfl⟩]
      walk_at "st"
      exact ⟨_, hj3, by rw [show 200 * i + 60 + 10 * (j + 1) = 200 * i + 60 + 10 * j + 10 by omega]; exact S1, fF1, fun i hi => Y1.tup (gK i hi), Y1.tabs _ hTb, e71, e91, rfl⟩
    subst es
    exact ⟨st', _, _, _, _, _, hi2, St3.le (by show 200 * i + 60 + 10 * 3 ≤ 200 * (i + 1); omega) S, fF, gK, hTb, e7, rfl⟩
  subst es
  obtain ⟨L0, l1, l2, l3, l4⟩ := S.log 0 (by decide)
  obtain ⟨L1, m1, m2, m3, m4⟩ := S.log 1 (by decide)
  walk_at "st"
  refine k_ixL (.of (fF _ mS)) (x := .ref ps0) rfl ?_
  walk_at "st"
  refine k_ixL (.of (fF _ mK)) (x := .ref k0) rfl ?_
  walk_at "st"
  refine k_ixT (.of (gK 0 (by decide))) (x := .ref pb0) rfl ?_
  walk_at "st"
  refine k_lenL (.of l4) ?_
  walk_at "st"
  rw [List.length_map]
  refine ⟨ps0, L0, _, rfl, l1, l3, fun H1 s1 => ?_⟩
  walk_at "st"
  refine k_ixL (.of (s1.get (fF _ mS))) (x := .ref ps1) rfl ?_
  walk_at "st"
  refine k_ixL (.of (s1.get (fF _ mK))) (x := .ref k1) rfl ?_
  walk_at "st"
  refine k_ixT (.of (s1.get (gK 1 (by decide)))) (x := .ref pb1) rfl ?_
  walk_at "st"
  refine k_lenL (.of (s1.get m4)) ?_
  walk_at "st"
  rw [List.length_map]
  refine ⟨ps1, L1, _, rfl, s1.get m1, m3, fun H2 s2 => ?_⟩
  exact q _

end Tw
namespace Tw
open PySem PySem.Spec PyProof.Rows L2
/-! the text -/
def topS (i : Nat) : Stmt := PySem.Challenge.pw_thinwood_k52_hands_apart.main.body.getD i (.Pass ⟨0, 0, 0, 0⟩)
abbrev s_Hand_init : Stmt := (C8.clsBody (topS 54)).getD 0 (.Pass ⟨0, 0, 0, 0⟩)
theorem sc_Hand_init : FnScope n_Hand_init ["self", "tables", "look"] (defScope s_Hand_init) := ⟨rfl, rfl, rfl, by decide +kernel, rfl, by decide +kernel, by decide +kernel⟩

abbrev s_low_in : Stmt := topS 18
theorem sc_low_in : FnScope n_low_in ["block", "upto"] (defScope s_low_in) := ⟨rfl, rfl, rfl, by decide +kernel, rfl, by decide +kernel, by decide +kernel⟩

abbrev s_size_of : Stmt := topS 22
theorem sc_size_of : FnScope n_size_of ["many"] (defScope s_size_of) := ⟨rfl, rfl, rfl, by decide +kernel, rfl, by decide +kernel, by decide +kernel⟩

abbrev s_lesser_of : Stmt := topS 23
theorem sc_lesser_of : FnScope n_lesser_of ["one", "other"] (defScope s_lesser_of) := ⟨rfl, rfl, rfl, by decide +kernel, rfl, by decide +kernel, by decide +kernel⟩

abbrev s_heap_of : Stmt := topS 24
theorem sc_heap_of : FnScope n_heap_of ["numbers"] (defScope s_heap_of) := ⟨rfl, rfl, rfl, by decide +kernel, rfl, by decide +kernel, by decide +kernel⟩

abbrev s_packed : Stmt := topS 15
theorem sc_packed : FnScope n_packed ["bits"] (defScope s_packed) := ⟨rfl, rfl, rfl, by decide +kernel, rfl, by decide +kernel, by decide +kernel⟩

abbrev s_ones_in : Stmt := topS 16
theorem sc_ones_in : FnScope n_ones_in ["block", "upto"] (defScope s_ones_in) := ⟨rfl, rfl, rfl, by decide +kernel, rfl, by decide +kernel, by decide +kernel⟩

abbrev s_ones_table : Stmt := topS 30
theorem sc_ones_table : FnScope n_ones_table ["blocks"] (defScope s_ones_table) := ⟨rfl, rfl, rfl, by decide +kernel, rfl, by decide +kernel, by decide +kernel⟩

abbrev s_kept_row : Stmt := topS 31
theorem sc_kept_row : FnScope n_kept_row ["bits"] (defScope s_kept_row) := ⟨rfl, rfl, rfl, by decide +kernel, rfl, by decide +kernel, by decide +kernel⟩

abbrev s_is_tree : Stmt := topS 38
theorem sc_is_tree : FnScope n_is_tree ["bits"] (defScope s_is_tree) := ⟨rfl, rfl, rfl, by decide +kernel, rfl, by decide +kernel, by decide +kernel⟩

abbrev s_begin_height : Stmt := topS 39
theorem sc_begin_height : FnScope n_begin_height ["ahead", "number"] (defScope s_begin_height) := ⟨rfl, rfl, rfl, by decide +kernel, rfl, by decide +kernel, by decide +kernel⟩

abbrev s_kept_brackets : Stmt := topS 40
theorem sc_kept_brackets : FnScope n_kept_brackets ["bits"] (defScope s_kept_brackets) := ⟨rfl, rfl, rfl, by decide +kernel, rfl, by decide +kernel, by decide +kernel⟩

abbrev s_brackets_of : Stmt := topS 56
theorem sc_brackets_of : FnScope n_brackets_of ["depths"] (defScope s_brackets_of) := ⟨rfl, rfl, rfl, by decide +kernel, rfl, by decide +kernel, by decide +kernel⟩

abbrev s_kept_tree : Stmt := topS 57
theorem sc_kept_tree : FnScope n_kept_tree ["depths"] (defScope s_kept_tree) := ⟨rfl, rfl, rfl, by decide +kernel, rfl, by decide +kernel, by decide +kernel⟩

abbrev s_law_depths : Stmt := topS 59
theorem sc_law_depths : FnScope n_law_depths ["_law_cells", "_law_most"] (defScope s_law_depths) := ⟨rfl, rfl, rfl, by decide +kernel, rfl, by decide +kernel, by decide +kernel⟩

abbrev s_law_brackets : Stmt := topS 60
theorem sc_law_brackets : FnScope n_law_brackets ["_law_depths_here"] (defScope s_law_brackets) := ⟨rfl, rfl, rfl, by decide +kernel, rfl, by decide +kernel, by decide +kernel⟩

abbrev s_law_look : Stmt := topS 61
theorem sc_law_look : FnScope n_law_look ["_law_blocks", "_law_seen"] (defScope s_law_look) := ⟨rfl, rfl, rfl, by decide +kernel, rfl, by decide +kernel, by decide +kernel⟩
abbrev st_law_look_law_told : Stmt := (defBody s_law_look).getD 0 (.Pass ⟨0, 0, 0, 0⟩)
theorem sc_law_look_law_told : NdefX.NScope n_law_look_law_told ["_law_number"] ["_law_seen", "_law_blocks"] (C8.fnScope st_law_look_law_told) := NdefX.nscope_by (by decide +kernel)

abbrev s_law_there : Stmt := topS 62
theorem sc_law_there : FnScope n_law_there ["_law_seen", "_law_size"] (defScope s_law_there) := ⟨rfl, rfl, rfl, by decide +kernel, rfl, by decide +kernel, by decide +kernel⟩

abbrev s_bit_at : Stmt := topS 32
theorem sc_bit_at : FnScope n_bit_at ["tables", "look", "at"] (defScope s_bit_at) := ⟨rfl, rfl, rfl, by decide +kernel, rfl, by decide +kernel, by decide +kernel⟩

abbrev s_Hand_is_opening : Stmt := (C8.clsBody (topS 54)).getD 1 (.Pass ⟨0, 0, 0, 0⟩)
theorem sc_Hand_is_opening : FnScope n_Hand_is_opening ["self"] (defScope s_Hand_is_opening) := ⟨rfl, rfl, rfl, by decide +kernel, rfl, by decide +kernel, by decide +kernel⟩

abbrev s_ones_at : Stmt := topS 33
theorem sc_ones_at : FnScope n_ones_at ["tables", "look", "at"] (defScope s_ones_at) := ⟨rfl, rfl, rfl, by decide +kernel, rfl, by decide +kernel, by decide +kernel⟩

abbrev s_height : Stmt := topS 43
theorem sc_height : FnScope n_height ["tables", "look", "at"] (defScope s_height) := ⟨rfl, rfl, rfl, by decide +kernel, rfl, by decide +kernel, by decide +kernel⟩

abbrev s_cover : Stmt := topS 25
theorem sc_cover : FnScope n_cover ["many", "start", "stop"] (defScope s_cover) := ⟨rfl, rfl, rfl, by decide +kernel, rfl, by decide +kernel, by decide +kernel⟩

abbrev s_within_goal : Stmt := topS 26
theorem sc_within_goal : FnScope n_within_goal ["number", "goal"] (defScope s_within_goal) := ⟨rfl, rfl, rfl, by decide +kernel, rfl, by decide +kernel, by decide +kernel⟩

abbrev s_last_at_most : Stmt := topS 28
theorem sc_last_at_most : FnScope n_last_at_most ["many", "look", "stop", "goal"] (defScope s_last_at_most) := ⟨rfl, rfl, rfl, by decide +kernel, rfl, by decide +kernel, by decide +kernel⟩

abbrev s_node_look : Stmt := topS 41
theorem sc_node_look : FnScope n_node_look ["tables"] (defScope s_node_look) := ⟨rfl, rfl, rfl, by decide +kernel, rfl, by decide +kernel, by decide +kernel⟩
abbrev st_node_look_lam : Expr := lamIn (defBody s_node_look)
theorem sc_node_look_lam : NdefX.NScope n_node_look_lam ["number"] ["nodes"] (lamNF st_node_look_lam "" [] 0).scope := NdefX.nscope_by (by decide +kernel)

abbrev s_check_place : Stmt := topS 42
theorem sc_check_place : FnScope n_check_place ["tables", "at"] (defScope s_check_place) := ⟨rfl, rfl, rfl, by decide +kernel, rfl, by decide +kernel, by decide +kernel⟩

abbrev s_last_low_in : Stmt := topS 20
theorem sc_last_low_in : FnScope n_last_low_in ["block", "start", "stop", "goal"] (defScope s_last_low_in) := ⟨rfl, rfl, rfl, by decide +kernel, rfl, by decide +kernel, by decide +kernel⟩

abbrev s_last_part : Stmt := topS 45
theorem sc_last_part : FnScope n_last_part ["tables", "look", "number", "stop", "goal"] (defScope s_last_part) := ⟨rfl, rfl, rfl, by decide +kernel, rfl, by decide +kernel, by decide +kernel⟩

abbrev s_low_ahead : Stmt := topS 47
theorem sc_low_ahead : FnScope n_low_ahead ["tables", "look", "at", "goal"] (defScope s_low_ahead) := ⟨rfl, rfl, rfl, by decide +kernel, rfl, by decide +kernel, by decide +kernel⟩

abbrev s_opening : Stmt := topS 49
theorem sc_opening : FnScope n_opening ["tables", "look", "at"] (defScope s_opening) := ⟨rfl, rfl, rfl, by decide +kernel, rfl, by decide +kernel, by decide +kernel⟩

abbrev s_Hand_node : Stmt := (C8.clsBody (topS 54)).getD 2 (.Pass ⟨0, 0, 0, 0⟩)
theorem sc_Hand_node : FnScope n_Hand_node ["self"] (defScope s_Hand_node) := ⟨rfl, rfl, rfl, by decide +kernel, rfl, by decide +kernel, by decide +kernel⟩

abbrev s_Hand_stand : Stmt := (C8.clsBody (topS 54)).getD 3 (.Pass ⟨0, 0, 0, 0⟩)
theorem sc_Hand_stand : FnScope n_Hand_stand ["self"] (defScope s_Hand_stand) := ⟨rfl, rfl, rfl, by decide +kernel, rfl, by decide +kernel, by decide +kernel⟩

abbrev s_Hand_step : Stmt := (C8.clsBody (topS 54)).getD 4 (.Pass ⟨0, 0, 0, 0⟩)
theorem sc_Hand_step : FnScope n_Hand_step ["self"] (defScope s_Hand_step) := ⟨rfl, rfl, rfl, by decide +kernel, rfl, by decide +kernel, by decide +kernel⟩

abbrev s_Hand_step_back : Stmt := (C8.clsBody (topS 54)).getD 5 (.Pass ⟨0, 0, 0, 0⟩)
theorem sc_Hand_step_back : FnScope n_Hand_step_back ["self"] (defScope s_Hand_step_back) := ⟨rfl, rfl, rfl, by decide +kernel, rfl, by decide +kernel, by decide +kernel⟩

abbrev s_first_at_most : Stmt := topS 27
theorem sc_first_at_most : FnScope n_first_at_most ["many", "look", "start", "goal"] (defScope s_first_at_most) := ⟨rfl, rfl, rfl, by decide +kernel, rfl, by decide +kernel, by decide +kernel⟩

abbrev s_first_low_in : Stmt := topS 19
theorem sc_first_low_in : FnScope n_first_low_in ["block", "start", "stop", "goal"] (defScope s_first_low_in) := ⟨rfl, rfl, rfl, by decide +kernel, rfl, by decide +kernel, by decide +kernel⟩

abbrev s_first_part : Stmt := topS 44
theorem sc_first_part : FnScope n_first_part ["tables", "look", "number", "start", "goal"] (defScope s_first_part) := ⟨rfl, rfl, rfl, by decide +kernel, rfl, by decide +kernel, by decide +kernel⟩

abbrev s_low_behind : Stmt := topS 46
theorem sc_low_behind : FnScope n_low_behind ["tables", "look", "at", "goal"] (defScope s_low_behind) := ⟨rfl, rfl, rfl, by decide +kernel, rfl, by decide +kernel, by decide +kernel⟩

abbrev s_closing : Stmt := topS 48
theorem sc_closing : FnScope n_closing ["tables", "look", "at"] (defScope s_closing) := ⟨rfl, rfl, rfl, by decide +kernel, rfl, by decide +kernel, by decide +kernel⟩

abbrev s_Hand_turn : Stmt := (C8.clsBody (topS 54)).getD 6 (.Pass ⟨0, 0, 0, 0⟩)
theorem sc_Hand_turn : FnScope n_Hand_turn ["self"] (defScope s_Hand_turn) := ⟨rfl, rfl, rfl, by decide +kernel, rfl, by decide +kernel, by decide +kernel⟩

abbrev s_one_in : Stmt := topS 17
theorem sc_one_in : FnScope n_one_in ["block", "nth"] (defScope s_one_in) := ⟨rfl, rfl, rfl, by decide +kernel, rfl, by decide +kernel, by decide +kernel⟩

abbrev s_bits_ahead : Stmt := topS 34
theorem sc_bits_ahead : FnScope n_bits_ahead ["ahead", "number", "kind"] (defScope s_bits_ahead) := ⟨rfl, rfl, rfl, by decide +kernel, rfl, by decide +kernel, by decide +kernel⟩

abbrev s_block_by : Stmt := topS 35
theorem sc_block_by : FnScope n_block_by ["ahead", "nth", "kind"] (defScope s_block_by) := ⟨rfl, rfl, rfl, by decide +kernel, rfl, by decide +kernel, by decide +kernel⟩

abbrev s_one_place : Stmt := topS 36
theorem sc_one_place : FnScope n_one_place ["tables", "look", "nth"] (defScope s_one_place) := ⟨rfl, rfl, rfl, by decide +kernel, rfl, by decide +kernel, by decide +kernel⟩

abbrev s_sought : Stmt := topS 51
theorem sc_sought : FnScope n_sought ["tables", "node"] (defScope s_sought) := ⟨rfl, rfl, rfl, by decide +kernel, rfl, by decide +kernel, by decide +kernel⟩

abbrev s_place_of : Stmt := topS 52
theorem sc_place_of : FnScope n_place_of ["tables", "look", "node"] (defScope s_place_of) := ⟨rfl, rfl, rfl, by decide +kernel, rfl, by decide +kernel, by decide +kernel⟩

abbrev s_Hand_go : Stmt := (C8.clsBody (topS 54)).getD 7 (.Pass ⟨0, 0, 0, 0⟩)
theorem sc_Hand_go : FnScope n_Hand_go ["self", "node"] (defScope s_Hand_go) := ⟨rfl, rfl, rfl, by decide +kernel, rfl, by decide +kernel, by decide +kernel⟩

abbrev s_Hand_to_node : Stmt := (C8.clsBody (topS 54)).getD 12 (.Pass ⟨0, 0, 0, 0⟩)
theorem sc_Hand_to_node : FnScope n_Hand_to_node ["self", "node"] (defScope s_Hand_to_node) := ⟨rfl, rfl, rfl, by decide +kernel, rfl, by decide +kernel, by decide +kernel⟩

abbrev s_law_refused : Stmt := topS 63
theorem sc_law_refused : FnScope n_law_refused ["_law_hand", "_law_node"] (defScope s_law_refused) := ⟨rfl, rfl, rfl, by decide +kernel, rfl, by decide +kernel, by decide +kernel⟩

abbrev s_law_done : Stmt := topS 64
theorem sc_law_done : FnScope n_law_done ["_law_hand", "_law_row", "_law_spot", "_law_number", "_law_far"] (defScope s_law_done) := ⟨rfl, rfl, rfl, by decide +kernel, rfl, by decide +kernel, by decide +kernel⟩

abbrev s_law_stand : Stmt := topS 65
theorem sc_law_stand : FnScope n_law_stand ["_law_hand", "_law_first"] (defScope s_law_stand) := ⟨rfl, rfl, rfl, by decide +kernel, rfl, by decide +kernel, by decide +kernel⟩

abbrev s_law : Stmt := topS 66
theorem sc_law : FnScope n_law ["_law_script"] (defScope s_law) := ⟨rfl, rfl, rfl, by decide +kernel, rfl, by decide +kernel, by decide +kernel⟩

structure Tx (P : Program) (w : World) (K : PySem.W.Frag) (mg : Str → Option Value) (base : Heap) : Prop where
  d_Hand_init : ∃ fd, FunD K "__init__" "Hand.__init__" (defArgs s_Hand_init) (defBody s_Hand_init) (defScope s_Hand_init) [] [] (He.ma K (He.ga K "Hand") "__init__") fd
  m_Hand_init : Meth K (He.ga K "Hand") "__init__" (He.ma K (He.ga K "Hand") "__init__")
  d_low_in : ∃ fd, FunD K "low_in" "low_in" (defArgs s_low_in) (defBody s_low_in) (defScope s_low_in) [] [] (He.ga K "low_in") fd
  g_low_in : mg "low_in" = some (.ref (He.ga K "low_in"))
  d_size_of : ∃ fd, FunD K "size_of" "size_of" (defArgs s_size_of) (defBody s_size_of) (defScope s_size_of) [] [] (He.ga K "size_of") fd
  g_size_of : mg "size_of" = some (.ref (He.ga K "size_of"))
  d_lesser_of : ∃ fd, FunD K "lesser_of" "lesser_of" (defArgs s_lesser_of) (defBody s_lesser_of) (defScope s_lesser_of) [] [] (He.ga K "lesser_of") fd
  g_lesser_of : mg "lesser_of" = some (.ref (He.ga K "lesser_of"))
  d_heap_of : ∃ fd, FunD K "heap_of" "heap_of" (defArgs s_heap_of) (defBody s_heap_of) (defScope s_heap_of) [] [] (He.ga K "heap_of") fd
  g_heap_of : mg "heap_of" = some (.ref (He.ga K "heap_of"))
  d_packed : ∃ fd, FunD K "packed" "packed" (defArgs s_packed) (defBody s_packed) (defScope s_packed) [] [] (He.ga K "packed") fd
  g_packed : mg "packed" = some (.ref (He.ga K "packed"))
  d_ones_in : ∃ fd, FunD K "ones_in" "ones_in" (defArgs s_ones_in) (defBody s_ones_in) (defScope s_ones_in) [] [] (He.ga K "ones_in") fd
  g_ones_in : mg "ones_in" = some (.ref (He.ga K "ones_in"))
  d_ones_table : ∃ fd, FunD K "ones_table" "ones_table" (defArgs s_ones_table) (defBody s_ones_table) (defScope s_ones_table) [] [] (He.ga K "ones_table") fd
  g_ones_table : mg "ones_table" = some (.ref (He.ga K "ones_table"))
  d_kept_row : ∃ fd, FunD K "kept_row" "kept_row" (defArgs s_kept_row) (defBody s_kept_row) (defScope s_kept_row) [] [] (He.ga K "kept_row") fd
  g_kept_row : mg "kept_row" = some (.ref (He.ga K "kept_row"))
  d_is_tree : ∃ fd, FunD K "is_tree" "is_tree" (defArgs s_is_tree) (defBody s_is_tree) (defScope s_is_tree) [] [] (He.ga K "is_tree") fd
  g_is_tree : mg "is_tree" = some (.ref (He.ga K "is_tree"))
  d_begin_height : ∃ fd, FunD K "begin_height" "begin_height" (defArgs s_begin_height) (defBody s_begin_height) (defScope s_begin_height) [] [] (He.ga K "begin_height") fd
  g_begin_height : mg "begin_height" = some (.ref (He.ga K "begin_height"))
  d_kept_brackets : ∃ fd, FunD K "kept_brackets" "kept_brackets" (defArgs s_kept_brackets) (defBody s_kept_brackets) (defScope s_kept_brackets) [] [] (He.ga K "kept_brackets") fd
  g_kept_brackets : mg "kept_brackets" = some (.ref (He.ga K "kept_brackets"))
  d_brackets_of : ∃ fd, FunD K "brackets_of" "brackets_of" (defArgs s_brackets_of) (defBody s_brackets_of) (defScope s_brackets_of) [] [] (He.ga K "brackets_of") fd
  g_brackets_of : mg "brackets_of" = some (.ref (He.ga K "brackets_of"))
  d_kept_tree : ∃ fd, FunD K "kept_tree" "kept_tree" (defArgs s_kept_tree) (defBody s_kept_tree) (defScope s_kept_tree) [] [] (He.ga K "kept_tree") fd
  g_kept_tree : mg "kept_tree" = some (.ref (He.ga K "kept_tree"))
  d_law_depths : ∃ fd, FunD K "_law_depths" "_law_depths" (defArgs s_law_depths) (defBody s_law_depths) (defScope s_law_depths) [] [] (He.ga K "_law_depths") fd
  g_law_depths : mg "_law_depths" = some (.ref (He.ga K "_law_depths"))
  d_law_brackets : ∃ fd, FunD K "_law_brackets" "_law_brackets" (defArgs s_law_brackets) (defBody s_law_brackets) (defScope s_law_brackets) [] [] (He.ga K "_law_brackets") fd
  g_law_brackets : mg "_law_brackets" = some (.ref (He.ga K "_law_brackets"))
  d_law_look : ∃ fd, FunD K "_law_look" "_law_look" (defArgs s_law_look) (defBody s_law_look) (defScope s_law_look) [] [] (He.ga K "_law_look") fd
  g_law_look : mg "_law_look" = some (.ref (He.ga K "_law_look"))
  d_law_there : ∃ fd, FunD K "_law_there" "_law_there" (defArgs s_law_there) (defBody s_law_there) (defScope s_law_there) [] [] (He.ga K "_law_there") fd
  g_law_there : mg "_law_there" = some (.ref (He.ga K "_law_there"))
  d_bit_at : ∃ fd, FunD K "bit_at" "bit_at" (defArgs s_bit_at) (defBody s_bit_at) (defScope s_bit_at) [] [] (He.ga K "bit_at") fd
  g_bit_at : mg "bit_at" = some (.ref (He.ga K "bit_at"))
  d_Hand_is_opening : ∃ fd, FunD K "is_opening" "Hand.is_opening" (defArgs s_Hand_is_opening) (defBody s_Hand_is_opening) (defScope s_Hand_is_opening) [] [] (He.ma K (He.ga K "Hand") "is_opening") fd
  m_Hand_is_opening : Meth K (He.ga K "Hand") "is_opening" (He.ma K (He.ga K "Hand") "is_opening")
  d_ones_at : ∃ fd, FunD K "ones_at" "ones_at" (defArgs s_ones_at) (defBody s_ones_at) (defScope s_ones_at) [] [] (He.ga K "ones_at") fd
  g_ones_at : mg "ones_at" = some (.ref (He.ga K "ones_at"))
  d_height : ∃ fd, FunD K "height" "height" (defArgs s_height) (defBody s_height) (defScope s_height) [] [] (He.ga K "height") fd
  g_height : mg "height" = some (.ref (He.ga K "height"))
  d_cover : ∃ fd, FunD K "cover" "cover" (defArgs s_cover) (defBody s_cover) (defScope s_cover) [] [] (He.ga K "cover") fd
  g_cover : mg "cover" = some (.ref (He.ga K "cover"))
  d_within_goal : ∃ fd, FunD K "within_goal" "within_goal" (defArgs s_within_goal) (defBody s_within_goal) (defScope s_within_goal) [] [] (He.ga K "within_goal") fd
  g_within_goal : mg "within_goal" = some (.ref (He.ga K "within_goal"))
  d_last_at_most : ∃ fd, FunD K "last_at_most" "last_at_most" (defArgs s_last_at_most) (defBody s_last_at_most) (defScope s_last_at_most) [] [] (He.ga K "last_at_most") fd
  g_last_at_most : mg "last_at_most" = some (.ref (He.ga K "last_at_most"))
  d_node_look : ∃ fd, FunD K "node_look" "node_look" (defArgs s_node_look) (defBody s_node_look) (defScope s_node_look) [] [] (He.ga K "node_look") fd
  g_node_look : mg "node_look" = some (.ref (He.ga K "node_look"))
  d_check_place : ∃ fd, FunD K "check_place" "check_place" (defArgs s_check_place) (defBody s_check_place) (defScope s_check_place) [] [] (He.ga K "check_place") fd
  g_check_place : mg "check_place" = some (.ref (He.ga K "check_place"))
  d_last_low_in : ∃ fd, FunD K "last_low_in" "last_low_in" (defArgs s_last_low_in) (defBody s_last_low_in) (defScope s_last_low_in) [] [] (He.ga K "last_low_in") fd
  g_last_low_in : mg "last_low_in" = some (.ref (He.ga K "last_low_in"))
  d_last_part : ∃ fd, FunD K "last_part" "last_part" (defArgs s_last_part) (defBody s_last_part) (defScope s_last_part) [] [] (He.ga K "last_part") fd
  g_last_part : mg "last_part" = some (.ref (He.ga K "last_part"))
  d_low_ahead : ∃ fd, FunD K "low_ahead" "low_ahead" (defArgs s_low_ahead) (defBody s_low_ahead) (defScope s_low_ahead) [] [] (He.ga K "low_ahead") fd
  g_low_ahead : mg "low_ahead" = some (.ref (He.ga K "low_ahead"))
  d_opening : ∃ fd, FunD K "opening" "opening" (defArgs s_opening) (defBody s_opening) (defScope s_opening) [] [] (He.ga K "opening") fd
  g_opening : mg "opening" = some (.ref (He.ga K "opening"))
  d_Hand_node : ∃ fd, FunD K "node" "Hand.node" (defArgs s_Hand_node) (defBody s_Hand_node) (defScope s_Hand_node) [] [] (He.ma K (He.ga K "Hand") "node") fd
  m_Hand_node : Meth K (He.ga K "Hand") "node" (He.ma K (He.ga K "Hand") "node")
  d_Hand_stand : ∃ fd, FunD K "stand" "Hand.stand" (defArgs s_Hand_stand) (defBody s_Hand_stand) (defScope s_Hand_stand) [] [] (He.ma K (He.ga K "Hand") "stand") fd
  m_Hand_stand : Meth K (He.ga K "Hand") "stand" (He.ma K (He.ga K "Hand") "stand")
  d_Hand_step : ∃ fd, FunD K "step" "Hand.step" (defArgs s_Hand_step) (defBody s_Hand_step) (defScope s_Hand_step) [] [] (He.ma K (He.ga K "Hand") "step") fd
  m_Hand_step : Meth K (He.ga K "Hand") "step" (He.ma K (He.ga K "Hand") "step")
  d_Hand_step_back : ∃ fd, FunD K "step_back" "Hand.step_back" (defArgs s_Hand_step_back) (defBody s_Hand_step_back) (defScope s_Hand_step_back) [] [] (He.ma K (He.ga K "Hand") "step_back") fd
  m_Hand_step_back : Meth K (He.ga K "Hand") "step_back" (He.ma K (He.ga K "Hand") "step_back")
  d_first_at_most : ∃ fd, FunD K "first_at_most" "first_at_most" (defArgs s_first_at_most) (defBody s_first_at_most) (defScope s_first_at_most) [] [] (He.ga K "first_at_most") fd
  g_first_at_most : mg "first_at_most" = some (.ref (He.ga K "first_at_most"))
  d_first_low_in : ∃ fd, FunD K "first_low_in" "first_low_in" (defArgs s_first_low_in) (defBody s_first_low_in) (defScope s_first_low_in) [] [] (He.ga K "first_low_in") fd
  g_first_low_in : mg "first_low_in" = some (.ref (He.ga K "first_low_in"))
  d_first_part : ∃ fd, FunD K "first_part" "first_part" (defArgs s_first_part) (defBody s_first_part) (defScope s_first_part) [] [] (He.ga K "first_part") fd
  g_first_part : mg "first_part" = some (.ref (He.ga K "first_part"))
  d_low_behind : ∃ fd, FunD K "low_behind" "low_behind" (defArgs s_low_behind) (defBody s_low_behind) (defScope s_low_behind) [] [] (He.ga K "low_behind") fd
  g_low_behind : mg "low_behind" = some (.ref (He.ga K "low_behind"))
  d_closing : ∃ fd, FunD K "closing" "closing" (defArgs s_closing) (defBody s_closing) (defScope s_closing) [] [] (He.ga K "closing") fd
  g_closing : mg "closing" = some (.ref (He.ga K "closing"))
  d_Hand_turn : ∃ fd, FunD K "turn" "Hand.turn" (defArgs s_Hand_turn) (defBody s_Hand_turn) (defScope s_Hand_turn) [] [] (He.ma K (He.ga K "Hand") "turn") fd
  m_Hand_turn : Meth K (He.ga K "Hand") "turn" (He.ma K (He.ga K "Hand") "turn")
  d_one_in : ∃ fd, FunD K "one_in" "one_in" (defArgs s_one_in) (defBody s_one_in) (defScope s_one_in) [] [] (He.ga K "one_in") fd
  g_one_in : mg "one_in" = some (.ref (He.ga K "one_in"))
  d_bits_ahead : ∃ fd, FunD K "bits_ahead" "bits_ahead" (defArgs s_bits_ahead) (defBody s_bits_ahead) (defScope s_bits_ahead) [] [] (He.ga K "bits_ahead") fd
  g_bits_ahead : mg "bits_ahead" = some (.ref (He.ga K "bits_ahead"))
  d_block_by : ∃ fd, FunD K "block_by" "block_by" (defArgs s_block_by) (defBody s_block_by) (defScope s_block_by) [] [] (He.ga K "block_by") fd
  g_block_by : mg "block_by" = some (.ref (He.ga K "block_by"))
  d_one_place : ∃ fd, FunD K "one_place" "one_place" (defArgs s_one_place) (defBody s_one_place) (defScope s_one_place) [] [] (He.ga K "one_place") fd
  g_one_place : mg "one_place" = some (.ref (He.ga K "one_place"))
  d_sought : ∃ fd, FunD K "sought" "sought" (defArgs s_sought) (defBody s_sought) (defScope s_sought) [] [] (He.ga K "sought") fd
  g_sought : mg "sought" = some (.ref (He.ga K "sought"))
  d_place_of : ∃ fd, FunD K "place_of" "place_of" (defArgs s_place_of) (defBody s_place_of) (defScope s_place_of) [] [] (He.ga K "place_of") fd
  g_place_of : mg "place_of" = some (.ref (He.ga K "place_of"))
  d_Hand_go : ∃ fd, FunD K "go" "Hand.go" (defArgs s_Hand_go) (defBody s_Hand_go) (defScope s_Hand_go) [] [] (He.ma K (He.ga K "Hand") "go") fd
  m_Hand_go : Meth K (He.ga K "Hand") "go" (He.ma K (He.ga K "Hand") "go")
  d_Hand_to_node : ∃ fd, FunD K "to_node" "Hand.to_node" (defArgs s_Hand_to_node) (defBody s_Hand_to_node) (defScope s_Hand_to_node) [] [] (He.ma K (He.ga K "Hand") "to_node") fd
  m_Hand_to_node : Meth K (He.ga K "Hand") "to_node" (He.ma K (He.ga K "Hand") "to_node")
  d_law_refused : ∃ fd, FunD K "_law_refused" "_law_refused" (defArgs s_law_refused) (defBody s_law_refused) (defScope s_law_refused) [] [] (He.ga K "_law_refused") fd
  g_law_refused : mg "_law_refused" = some (.ref (He.ga K "_law_refused"))
  d_law_done : ∃ fd, FunD K "_law_done" "_law_done" (defArgs s_law_done) (defBody s_law_done) (defScope s_law_done) [] [] (He.ga K "_law_done") fd
  g_law_done : mg "_law_done" = some (.ref (He.ga K "_law_done"))
  d_law_stand : ∃ fd, FunD K "_law_stand" "_law_stand" (defArgs s_law_stand) (defBody s_law_stand) (defScope s_law_stand) [] [] (He.ga K "_law_stand") fd
  g_law_stand : mg "_law_stand" = some (.ref (He.ga K "_law_stand"))
  d_law : ∃ fd, FunD K "law" "law" (defArgs s_law) (defBody s_law) (defScope s_law) [] [] (He.ga K "law") fd
  g_law : mg "law" = some (.ref (He.ga K "law"))
  c_Hand : Cls K (He.ga K "Hand")
  g_Hand : mg "Hand" = some (.ref (He.ga K "Hand"))
  mk_Hand : Mk K (He.ga K "Hand") (He.ma K (He.ga K "Hand") "__init__")
  na_Hand_look : NoAttr K (He.ga K "Hand") "look"
  na_Hand_spot : NoAttr K (He.ga K "Hand") "spot"
  na_Hand_tables : NoAttr K (He.ga K "Hand") "tables"
  b_ValueError : mg "ValueError" = none
  b_bool : mg "bool" = none
  b_enumerate : mg "enumerate" = none
  b_int : mg "int" = none
  b_isinstance : mg "isinstance" = none
  b_len : mg "len" = none
  b_list : mg "list" = none
  b_min : mg "min" = none
  b_range : mg "range" = none
  b_reversed : mg "reversed" = none
  b_sum : mg "sum" = none
  b_tuple : mg "tuple" = none
  b_zip : mg "zip" = none
  x_NoBit : ExF K mg "NoBit"
  x_NoNode : ExF K mg "NoNode"
  x_NoOctets : ExF K mg "NoOctets"
  x_NoPlace : ExF K mg "NoPlace"
  x_NoSign : ExF K mg "NoSign"
  x_NoTree : ExF K mg "NoTree"
  x_NoWord : ExF K mg "NoWord"
  x_TooMany : ExF K mg "TooMany"
  x_Twice : ExF K mg "Twice"
  x_WoodError : ExF K mg "WoodError"
  g_NoBit : mg "NoBit" = some (.ref (He.ga K "NoBit"))
  g_NoNode : mg "NoNode" = some (.ref (He.ga K "NoNode"))
  g_NoOctets : mg "NoOctets" = some (.ref (He.ga K "NoOctets"))
  g_NoPlace : mg "NoPlace" = some (.ref (He.ga K "NoPlace"))
  g_NoSign : mg "NoSign" = some (.ref (He.ga K "NoSign"))
  g_NoTree : mg "NoTree" = some (.ref (He.ga K "NoTree"))
  g_NoWord : mg "NoWord" = some (.ref (He.ga K "NoWord"))
  g_TooMany : mg "TooMany" = some (.ref (He.ga K "TooMany"))
  g_Twice : mg "Twice" = some (.ref (He.ga K "Twice"))
  g_WoodError : mg "WoodError" = some (.ref (He.ga K "WoodError"))
  fx : KFx K
  i_MOST : ∃ t, mg "MOST" = some (.int 4096 t)
  i_WIDE : ∃ t, mg "WIDE" = some (.int 32 t)
  tb_law_look : LamX.TabB base mg (He.cT K ("_law_look", none)).1 (He.cT K ("_law_look", none)).2
  tb_node_look : LamX.TabB base mg (He.cT K ("node_look", none)).1 (He.cT K ("node_look", none)).2
section
variable {P : Program} {w : World} {K : PySem.W.Frag} {mg : Str → Option Value} {base : Heap}
theorem ok_Hand_init (T : Tx P w K mg base) : Metf P w K mg base CX0 1 "Hand" "__init__" ["self", "tables", "look"] (sp_Hand_init K) := by
  obtain ⟨fd, FD⟩ := T.d_Hand_init
  refine ⟨⟨fd, ?_, FD.bindsN fun _ _ _ _ _ _ us hl => match us, hl with | [_, _, _], _ => rfl⟩, T.m_Hand_init, T.c_Hand⟩
  refine FunD.ok (CX := CX0) FD sc_Hand_init (len_Hand_init K) (fun cdv A outer s H vs Q E hr h => ⟨t_Hand_init K, PSs.nox ?_, rd_Hand_init K vs H Q E h⟩)
  exact (pss_cons (ps_fldC T.c_Hand T.na_Hand_tables (pv 0) (pv 1) rfl)
  (pss_cons (ps_fldC T.c_Hand T.na_Hand_look (pv 0) (pv 2) rfl)
  (pss_one (ps_fldC T.c_Hand T.na_Hand_spot (pv 0) pe_int rfl))))

theorem ok_low_in (T : Tx P w K mg base) : Okf P w K mg base CX0 1 "low_in" ["block", "upto"] (sp_low_in K) := by
  obtain ⟨fd, FD⟩ := T.d_low_in
  refine ⟨⟨fd, FunD.look FD, FD.bindsN fun _ _ _ _ _ _ us hl => match us, hl with | [_, _], _ => rfl, ?_⟩, FD.kp, T.g_low_in⟩
  refine FunD.ok (CX := CX0) FD sc_low_in (len_low_in K) (fun cdv A outer s H vs Q E hr h => ⟨t_low_in K, PSs.nox ?_, rd_low_in K vs H Q E h⟩)
  exact (pss_cons (ps_set (i := 2) sc_low_in.nd rfl (.inl rfl) pe_int)
  (pss_cons (ps_set (i := 3) sc_low_in.nd rfl (.inl rfl) pe_int)
  (pss_cons (ps_for PassesOwn.never rfl (pi_range1 (by rfl) T.b_range (pa_cons (pv 1) pa_nil)) (pg_name (i := 4) sc_low_in.nd rfl (.inl rfl))
  (pss_cons (ps_aug (i := 2) sc_low_in.nd rfl (.inl rfl) (pe_op op_sub (pe_op op_mul pe_int (pe_op op_and1 (pe_op op_shr (pv 0) (pv 4)) pe_int)) pe_int) ip_add)
  (pss_one (ps_set (i := 3) sc_low_in.nd rfl (.inl rfl) (pe_callB (call_min2K rfl) (by rfl) T.b_min (by decide +kernel) (pa_cons (pv 3) (pa_cons (pv 2) pa_nil)))))))
  (pss_one (ps_ret (pv 3))))))

theorem ok_size_of (T : Tx P w K mg base) : Okf P w K mg base CX0 1 "size_of" ["many"] (sp_size_of K) := by
  obtain ⟨fd, FD⟩ := T.d_size_of
  refine ⟨⟨fd, FunD.look FD, FD.bindsN fun _ _ _ _ _ _ us hl => match us, hl with | [_], _ => rfl, ?_⟩, FD.kp, T.g_size_of⟩
  refine FunD.ok (CX := CX0) FD sc_size_of (len_size_of K) (fun cdv A outer s H vs Q E hr h => ⟨t_size_of K, PSs.nox ?_, rd_size_of K vs H Q E h⟩)
  exact (pss_cons (ps_set (i := 1) sc_size_of.nd rfl (.inl rfl) pe_int)
  (pss_cons (ps_while PassesOwn.never (pt_cmpR op_lt (pv 1) (pv 0) (nomark _))
  (pss_one (ps_aug (i := 1) sc_size_of.nd rfl (.inl rfl) pe_int iop_mul)))
  (pss_one (ps_ret (pv 1)))))

theorem ok_lesser_of (T : Tx P w K mg base) : Okf P w K mg base CX0 1 "lesser_of" ["one", "other"] (sp_lesser_of K) := by
  obtain ⟨fd, FD⟩ := T.d_lesser_of
  refine ⟨⟨fd, FunD.look FD, FD.bindsN fun _ _ _ _ _ _ us hl => match us, hl with | [_, _], _ => rfl, ?_⟩, FD.kp, T.g_lesser_of⟩
  refine FunD.ok (CX := CX0) FD sc_lesser_of (len_lesser_of K) (fun cdv A outer s H vs Q E hr h => ⟨t_lesser_of K, PSs.nox ?_, rd_lesser_of K vs H Q E h⟩)
  exact (pss_cons (ps_if (pt_cmpR op_isN1 (pv 0) pe_non (nomark _))
  (pss_one (ps_ret (pv 1)))
  pss_nil)
  (pss_cons (ps_if (pt_cmpR op_isN1 (pv 1) pe_non (nomark _))
  (pss_one (ps_ret (pv 0)))
  pss_nil)
  (pss_one (ps_ret (pe_callB (call_min2K rfl) (by rfl) T.b_min (by decide +kernel) (pa_cons (pv 0) (pa_cons (pv 1) pa_nil)))))))

theorem ok_heap_of (T : Tx P w K mg base) (o_size_of : Okf P w K mg base CX0 1 "size_of" ["many"] (sp_size_of K)) (o_lesser_of : Okf P w K mg base CX0 1 "lesser_of" ["one", "other"] (sp_lesser_of K)) : Okf P w K mg base (L2.CX P w) 3 "heap_of" ["numbers"] (sp_heap_of K) := by
  obtain ⟨fd, FD⟩ := T.d_heap_of
  refine ⟨⟨fd, FunD.look FD, FD.bindsN fun _ _ _ _ _ _ us hl => match us, hl with | [_], _ => rfl, ?_⟩, FD.kp, T.g_heap_of⟩
  refine FunD.ok (CX := (L2.CX P w)) FD sc_heap_of (len_heap_of K) (fun cdv A outer s H vs Q E hr h => ⟨t_heap_of K E, ?_, rd_heap_of K vs H Q E h⟩)
  exact (pss_cons (ps_if (pt_cmpR op_gt (pe_callB call_lenK (by rfl) T.b_len (by decide +kernel) (pa_cons (pv 0) pa_nil)) (pe_gint T.i_MOST (by rfl)) (nomark _))
  (pss_one (ps_rz T.x_TooMany (takes_of rfl rfl rfl rfl)))
  pss_nil)
  (pss_cons (ps_set (i := 1) sc_heap_of.nd rfl (.inl rfl) (pe_callF o_size_of hr (by decide) (by rfl) pass0 (pa_cons (pe_callB call_lenK (by rfl) T.b_len (by decide +kernel) (pa_cons (pv 0) pa_nil)) pa_nil)))
  (pss_cons (ps_set (i := 2) sc_heap_of.nd rfl (.inl rfl) (pe_op op_cat (pe_op op_cat (pe_op op_rep (pe_lst (pa_cons pe_non pa_nil)) (pv 1)) (pe_callTy call_listK (by rfl) T.b_list (by decide +kernel) (pa_cons (pv 0) pa_nil))) (pe_op op_rep (pe_lst (pa_cons pe_non pa_nil)) (pe_op op_sub (pv 1) (pe_callB call_lenK (by rfl) T.b_len (by decide +kernel) (pa_cons (pv 0) pa_nil))))))
  (pss_cons (ps_for (passes_of rfl) rfl (pi_range3 (by rfl) T.b_range (pa_cons (pe_op op_sub (pv 1) pe_int) (pa_cons pe_int (pa_cons (pe_un un_neg pe_int) pa_nil)))) (pg_name (i := 3) sc_heap_of.nd rfl (.inl rfl))
  (pss_one (ps_asg (pe_callF o_lesser_of hr (by decide) (by rfl) pass0 (pa_cons (pe_ix ix_list (pv 2) (pe_op op_mul pe_int (pv 3)) (fun _ _ => rfl)) (pa_cons (pe_ix ix_list (pv 2) (pe_op op_add (pe_op op_mul pe_int (pv 3)) pe_int) (fun _ _ => rfl)) pa_nil))) (pg_sub (pv 2) (pv 3) set_list))))
  (pss_one (ps_ret (pv 2)))))))

theorem ok_packed (T : Tx P w K mg base) : Okf P w K mg base (L2.CX P w) 2 "packed" ["bits"] (sp_packed K) := by
  obtain ⟨fd, FD⟩ := T.d_packed
  refine ⟨⟨fd, FunD.look FD, FD.bindsN fun _ _ _ _ _ _ us hl => match us, hl with | [_], _ => rfl, ?_⟩, FD.kp, T.g_packed⟩
  refine FunD.ok (CX := (L2.CX P w)) FD sc_packed (len_packed K) (fun cdv A outer s H vs Q E hr h => ⟨t_packed K E, ?_, rd_packed K vs H Q E h⟩)
  exact (pss_cons (ps_if (pt_cmpR op_gt (pe_callB call_lenK (by rfl) T.b_len (by decide +kernel) (pa_cons (pv 0) pa_nil)) (pe_gint T.i_MOST (by rfl)) (nomark _))
  (pss_one (ps_rz T.x_TooMany (takes_of rfl rfl rfl rfl)))
  pss_nil)
  (pss_cons (ps_set (i := 1) sc_packed.nd rfl (.inl rfl) (pe_op op_rep (pe_lst (pa_cons pe_int pa_nil)) (pe_op op_fdiv (pe_op op_sub (pe_op op_add (pe_callB call_lenK (by rfl) T.b_len (by decide +kernel) (pa_cons (pv 0) pa_nil)) (pe_gint T.i_WIDE (by rfl))) pe_int) (pe_gint T.i_WIDE (by rfl)))))
  (pss_cons (ps_for (passes_of rfl) rfl (pi_enum (by rfl) T.b_enumerate (pa_cons (pv 0) pa_nil)) (pg_tup rfl (pgs_cons (pg_name (i := 2) sc_packed.nd rfl (.inl rfl)) (pgs_cons (pg_name (i := 3) sc_packed.nd rfl (.inl rfl)) pgs_nil)))
  (pss_cons (ps_if (PW.pt (pw_and (pt_cmpR op_ne (pv 3) pe_int (nomark _)) (pw_and1 (pt_cmpR op_ne (pv 3) pe_int (nomark _)))))
  (pss_one (ps_rz T.x_NoBit (takes_of rfl rfl rfl rfl)))
  pss_nil)
  (pss_one (ps_if (pt_cmpR op_eq (pv 3) pe_int (nomark _))
  (pss_one (ps_asg (pe_op op_or (pe_ix ix_list (pv 1) (pe_op op_fdiv (pv 2) (pe_gint T.i_WIDE (by rfl))) (fun _ _ => rfl)) (pe_op op_shlW pe_int (pe_op op_mod (pv 2) (pe_gint T.i_WIDE (by rfl))))) (pg_sub (pv 1) (pe_op op_fdiv (pv 2) (pe_gint T.i_WIDE (by rfl))) set_list)))
  pss_nil))))
  (pss_one (ps_ret (pv 1))))))

theorem ok_ones_in (T : Tx P w K mg base) : Okf P w K mg base CX0 1 "ones_in" ["block", "upto"] (sp_ones_in K) := by
  obtain ⟨fd, FD⟩ := T.d_ones_in
  refine ⟨⟨fd, FunD.look FD, FD.bindsN fun _ _ _ _ _ _ us hl => match us, hl with | [_, _], _ => rfl, ?_⟩, FD.kp, T.g_ones_in⟩
  refine FunD.ok (CX := CX0) FD sc_ones_in (len_ones_in K) (fun cdv A outer s H vs Q E hr h => ⟨t_ones_in K, PSs.nox ?_, rd_ones_in K vs H Q E h⟩)
  exact (pss_one (ps_ret (pe_callB (cr_sum rfl) (by rfl) T.b_sum (by decide +kernel) (pa_cons (pe_lc (own := [("k", 2)]) (g := (gName 2)) (tt := tYes) rfl sc_ones_in.nd (pi_range1 (by rfl) T.b_range (pa_cons (pv 1) pa_nil)) (blkOk_by (N := ["block", "upto", "k"]) (sc := defScope s_ones_in) (own := [("k", 2)]) (by decide +kernel)) (fun _ _ _ _ _ => (pg_name (i := 2) sc_ones_in.nd rfl (.inl rfl))) (fun _ _ _ _ _ => pts_nil) (fun _ _ _ _ _ => (pe_op op_and1 (pe_op op_shr (pv 0) (pv 2)) pe_int))) pa_nil))))

theorem ok_ones_table (T : Tx P w K mg base) (o_ones_in : Okf P w K mg base CX0 1 "ones_in" ["block", "upto"] (sp_ones_in K)) : Okf P w K mg base CX0 2 "ones_table" ["blocks"] (sp_ones_table K) := by
  obtain ⟨fd, FD⟩ := T.d_ones_table
  refine ⟨⟨fd, FunD.look FD, FD.bindsN fun _ _ _ _ _ _ us hl => match us, hl with | [_], _ => rfl, ?_⟩, FD.kp, T.g_ones_table⟩
  refine FunD.ok (CX := CX0) FD sc_ones_table (len_ones_table K) (fun cdv A outer s H vs Q E hr h => ⟨t_ones_table K, PSs.nox ?_, rd_ones_table K vs H Q E h⟩)
  exact (pss_cons (ps_set (i := 1) sc_ones_table.nd rfl (.inl rfl) (pe_lst (pa_cons pe_int pa_nil)))
  (pss_cons (ps_for PassesOwn.never rfl (pi_list (pv 0)) (pg_name (i := 2) sc_ones_table.nd rfl (.inl rfl))
  (pss_one (ps_expr (pe_bm PySem.F.plainAttrs_list PySem.F.slot_list_append PySem.F.type_list_append mt_append (pv 1) (pa_cons (pe_op op_add (pe_ix ix_list (pv 1) (pe_un un_neg pe_int) (fun _ _ => rfl)) (pe_callF o_ones_in hr (by decide) (by rfl) pass0 (pa_cons (pv 2) (pa_cons (pe_gint T.i_WIDE (by rfl)) pa_nil)))) pa_nil)))))
  (pss_one (ps_ret (pe_callTy call_tupK (by rfl) T.b_tuple (by decide +kernel) (pa_cons (pv 1) pa_nil))))))

theorem ok_kept_row (T : Tx P w K mg base) (o_packed : Okf P w K mg base (L2.CX P w) 2 "packed" ["bits"] (sp_packed K)) (o_ones_table : Okf P w K mg base CX0 2 "ones_table" ["blocks"] (sp_ones_table K)) : Okf P w K mg base (L2.CX P w) 4 "kept_row" ["bits"] (sp_kept_row K) := by
  obtain ⟨fd, FD⟩ := T.d_kept_row
  refine ⟨⟨fd, FunD.look FD, FD.bindsN fun _ _ _ _ _ _ us hl => match us, hl with | [_], _ => rfl, ?_⟩, FD.kp, T.g_kept_row⟩
  refine FunD.ok (CX := (L2.CX P w)) FD sc_kept_row (len_kept_row K) (fun cdv A outer s H vs Q E hr h => ⟨t_kept_row K E, ?_, rd_kept_row K vs H Q E h⟩)
  exact (pss_cons (ps_set (i := 1) sc_kept_row.nd rfl (.inl rfl) (pe_callF o_packed hr (by decide) (by rfl) (passX (takes_of rfl rfl rfl rfl)) (pa_cons (pv 0) pa_nil)))
  (pss_one (ps_ret (pe_tup (pa_cons (pe_tup (pa_cons (pe_callB call_lenK (by rfl) T.b_len (by decide +kernel) (pa_cons (pv 0) pa_nil)) (pa_cons (pe_callF o_ones_table hr (by decide) (by rfl) pass0 (pa_cons (pv 1) pa_nil)) pa_nil))) (pa_cons (pv 1) pa_nil))))))

theorem ok_is_tree (T : Tx P w K mg base) : Okf P w K mg base CX0 1 "is_tree" ["bits"] (sp_is_tree K) := by
  obtain ⟨fd, FD⟩ := T.d_is_tree
  refine ⟨⟨fd, FunD.look FD, FD.bindsN fun _ _ _ _ _ _ us hl => match us, hl with | [_], _ => rfl, ?_⟩, FD.kp, T.g_is_tree⟩
  refine FunD.ok (CX := CX0) FD sc_is_tree (len_is_tree K) (fun cdv A outer s H vs Q E hr h => ⟨t_is_tree K, PSs.nox ?_, rd_is_tree K vs H Q E h⟩)
  exact (pss_cons (ps_set (i := 1) sc_is_tree.nd rfl (.inl rfl) pe_int)
  (pss_cons (ps_for PassesOwn.never rfl (pi_enum (by rfl) T.b_enumerate (pa_cons (pv 0) pa_nil)) (pg_tup rfl (pgs_cons (pg_name (i := 2) sc_is_tree.nd rfl (.inl rfl)) (pgs_cons (pg_name (i := 3) sc_is_tree.nd rfl (.inl rfl)) pgs_nil)))
  (pss_cons (ps_aug (i := 1) sc_is_tree.nd rfl (.inl rfl) (pe_op op_sub (pe_op op_mul pe_int (pv 3)) pe_int) ip_add)
  (pss_one (ps_if (PW.pt (pw_and (pt_cmpR op_le (pv 1) pe_int (nomark _)) (pw_and1 (pt_cmpR op_lt (pe_op op_add (pv 2) pe_int) (pe_callB call_lenK (by rfl) T.b_len (by decide +kernel) (pa_cons (pv 0) pa_nil)) (nomark _)))))
  (pss_one (ps_ret pe_bl))
  pss_nil))))
  (pss_one (ps_ret (pe_and (pe_cmpR op_gt (pe_callB call_lenK (by rfl) T.b_len (by decide +kernel) (pa_cons (pv 0) pa_nil)) pe_int (nomark _)) (pe_one (pe_cmpR op_eq (pv 1) pe_int (nomark _))))))))

theorem ok_begin_height (T : Tx P w K mg base) : Okf P w K mg base CX0 1 "begin_height" ["ahead", "number"] (sp_begin_height K) := by
  obtain ⟨fd, FD⟩ := T.d_begin_height
  refine ⟨⟨fd, FunD.look FD, FD.bindsN fun _ _ _ _ _ _ us hl => match us, hl with | [_, _], _ => rfl, ?_⟩, FD.kp, T.g_begin_height⟩
  refine FunD.ok (CX := CX0) FD sc_begin_height (len_begin_height K) (fun cdv A outer s H vs Q E hr h => ⟨t_begin_height K, PSs.nox ?_, rd_begin_height K vs H Q E h⟩)
  exact (pss_one (ps_ret (pe_op op_sub (pe_op op_mul pe_int (pe_ix ix_tup (pv 0) (pv 1) (fun _ _ => rfl))) (pe_op op_mul (pe_gint T.i_WIDE (by rfl)) (pv 1)))))

theorem ok_kept_brackets (T : Tx P w K mg base) (o_kept_row : Okf P w K mg base (L2.CX P w) 4 "kept_row" ["bits"] (sp_kept_row K)) (o_is_tree : Okf P w K mg base CX0 1 "is_tree" ["bits"] (sp_is_tree K)) (o_begin_height : Okf P w K mg base CX0 1 "begin_height" ["ahead", "number"] (sp_begin_height K)) (o_low_in : Okf P w K mg base CX0 1 "low_in" ["block", "upto"] (sp_low_in K)) (o_heap_of : Okf P w K mg base (L2.CX P w) 3 "heap_of" ["numbers"] (sp_heap_of K)) : Okf P w K mg base (L2.CX P w) 6 "kept_brackets" ["bits"] (sp_kept_brackets K) := by
  obtain ⟨fd, FD⟩ := T.d_kept_brackets
  refine ⟨⟨fd, FunD.look FD, FD.bindsN fun _ _ _ _ _ _ us hl => match us, hl with | [_], _ => rfl, ?_⟩, FD.kp, T.g_kept_brackets⟩
  refine FunD.ok (CX := (L2.CX P w)) FD sc_kept_brackets (len_kept_brackets K) (fun cdv A outer s H vs Q E hr h => ⟨t_kept_brackets K E, ?_, rd_kept_brackets K vs H Q E h⟩)
  exact (pss_cons (ps_asg (pe_callF o_kept_row hr (by decide) (by rfl) (passX (takes_of rfl rfl rfl rfl)) (pa_cons (pv 0) pa_nil)) (pg_tup rfl (pgs_cons (pg_name (i := 1) sc_kept_brackets.nd rfl (.inl rfl)) (pgs_cons (pg_name (i := 2) sc_kept_brackets.nd rfl (.inl rfl)) pgs_nil))))
  (pss_cons (ps_if (pt_not (pt_val (pe_callF o_is_tree hr (by decide) (by rfl) pass0 (pa_cons (pv 0) pa_nil))))
  (pss_one (ps_rz T.x_NoTree (takes_of rfl rfl rfl rfl)))
  pss_nil)
  (pss_cons (ps_asg (pv 1) (pg_tup rfl (pgs_cons (pg_name (i := 3) sc_kept_brackets.nd rfl (.inl rfl)) (pgs_cons (pg_name (i := 4) sc_kept_brackets.nd rfl (.inl rfl)) pgs_nil))))
  (pss_cons (ps_set (i := 5) sc_kept_brackets.nd rfl (.inl rfl) (pe_lst pa_nil))
  (pss_cons (ps_for (passes_of rfl) rfl (pi_enum (by rfl) T.b_enumerate (pa_cons (pv 2) pa_nil)) (pg_tup rfl (pgs_cons (pg_name (i := 6) sc_kept_brackets.nd rfl (.inl rfl)) (pgs_cons (pg_name (i := 7) sc_kept_brackets.nd rfl (.inl rfl)) pgs_nil)))
  (pss_one (ps_expr (pe_bm PySem.F.plainAttrs_list PySem.F.slot_list_append PySem.F.type_list_append mt_append (pv 5) (pa_cons (pe_op op_add (pe_callF o_begin_height hr (by decide) (by rfl) pass0 (pa_cons (pv 4) (pa_cons (pv 6) pa_nil))) (pe_callF o_low_in hr (by decide) (by rfl) pass0 (pa_cons (pv 7) (pa_cons (pe_callB (call_min2K rfl) (by rfl) T.b_min (by decide +kernel) (pa_cons (pe_gint T.i_WIDE (by rfl)) (pa_cons (pe_op op_sub (pv 3) (pe_op op_mul (pe_gint T.i_WIDE (by rfl)) (pv 6))) pa_nil))) pa_nil)))) pa_nil)))))
  (pss_one (ps_ret (pe_tup (pa_cons (pe_tup (pa_cons (pv 3) (pa_cons (pv 4) (pa_cons (pe_callTy call_tupK (by rfl) T.b_tuple (by decide +kernel) (pa_cons (pe_callF o_heap_of hr (by decide) (by rfl) (passX (takes_of rfl rfl rfl rfl)) (pa_cons (pv 5) pa_nil)) pa_nil)) pa_nil)))) (pa_cons (pv 2) pa_nil))))))))))

theorem ok_brackets_of (T : Tx P w K mg base) : Okf P w K mg base (L2.CX P w) 2 "brackets_of" ["depths"] (sp_brackets_of K) := by
  obtain ⟨fd, FD⟩ := T.d_brackets_of
  refine ⟨⟨fd, FunD.look FD, FD.bindsN fun _ _ _ _ _ _ us hl => match us, hl with | [_], _ => rfl, ?_⟩, FD.kp, T.g_brackets_of⟩
  refine FunD.ok (CX := (L2.CX P w)) FD sc_brackets_of (len_brackets_of K) (fun cdv A outer s H vs Q E hr h => ⟨t_brackets_of K E, ?_, rd_brackets_of K vs H Q E h⟩)
  exact (pss_cons (ps_if (pt_cmpR op_gt (pe_op op_mul pe_int (pe_callB call_lenK (by rfl) T.b_len (by decide +kernel) (pa_cons (pv 0) pa_nil))) (pe_gint T.i_MOST (by rfl)) (nomark _))
  (pss_one (ps_rz T.x_TooMany (takes_of rfl rfl rfl rfl)))
  pss_nil)
  (pss_cons (ps_if (PW.pt (pw_or (pt_cmpR op_eq (pe_callB call_lenK (by rfl) T.b_len (by decide +kernel) (pa_cons (pv 0) pa_nil)) pe_int (nomark _)) (pw_or1 (pt_cmpR op_ne (pe_ix ix_list (pv 0) pe_int (fun _ _ => rfl)) pe_int (nomark _)))))
  (pss_one (ps_rz T.x_NoTree (takes_of rfl rfl rfl rfl)))
  pss_nil)
  (pss_cons (ps_set (i := 1) sc_brackets_of.nd rfl (.inl rfl) (pe_lst (pa_cons pe_int pa_nil)))
  (pss_cons (ps_for (passes_of rfl) rfl (pi_zip (by rfl) T.b_zip (pa_cons (pv 0) (pa_cons (pe_slice sl_list (pv 0) (po_some pe_int) po_none) pa_nil))) (pg_tup rfl (pgs_cons (pg_name (i := 2) sc_brackets_of.nd rfl (.inl rfl)) (pgs_cons (pg_name (i := 3) sc_brackets_of.nd rfl (.inl rfl)) pgs_nil)))
  (pss_cons (ps_if (PW.pt (pw_or (pt_cmpR op_lt (pv 3) pe_int (nomark _)) (pw_or1 (pt_cmpR op_gt (pv 3) (pe_op op_add (pv 2) pe_int) (nomark _)))))
  (pss_one (ps_rz T.x_NoTree (takes_of rfl rfl rfl rfl)))
  pss_nil)
  (pss_cons (ps_expr (pe_bm PySem.F.plainAttrs_list PySem.F.slot_list_extend PySem.F.type_list_extend mt_extend (pv 1) (pa_cons (pe_op op_rep (pe_lst (pa_cons pe_int pa_nil)) (pe_op op_sub (pe_op op_add (pv 2) pe_int) (pv 3))) pa_nil)))
  (pss_one (ps_expr (pe_bm PySem.F.plainAttrs_list PySem.F.slot_list_append PySem.F.type_list_append mt_append (pv 1) (pa_cons pe_int pa_nil)))))))
  (pss_cons (ps_expr (pe_bm PySem.F.plainAttrs_list PySem.F.slot_list_extend PySem.F.type_list_extend mt_extend (pv 1) (pa_cons (pe_op op_rep (pe_lst (pa_cons pe_int pa_nil)) (pe_op op_add (pe_ix ix_list (pv 0) (pe_un un_neg pe_int) (fun _ _ => rfl)) pe_int)) pa_nil)))
  (pss_one (ps_ret (pv 1))))))))

theorem ok_kept_tree (T : Tx P w K mg base) (o_kept_brackets : Okf P w K mg base (L2.CX P w) 6 "kept_brackets" ["bits"] (sp_kept_brackets K)) (o_brackets_of : Okf P w K mg base (L2.CX P w) 2 "brackets_of" ["depths"] (sp_brackets_of K)) : Okf P w K mg base (L2.CX P w) 8 "kept_tree" ["depths"] (sp_kept_tree K) := by
  obtain ⟨fd, FD⟩ := T.d_kept_tree
  refine ⟨⟨fd, FunD.look FD, FD.bindsN fun _ _ _ _ _ _ us hl => match us, hl with | [_], _ => rfl, ?_⟩, FD.kp, T.g_kept_tree⟩
  refine FunD.ok (CX := (L2.CX P w)) FD sc_kept_tree (len_kept_tree K) (fun cdv A outer s H vs Q E hr h => ⟨t_kept_tree K E, ?_, rd_kept_tree K vs H Q E h⟩)
  exact (pss_one (ps_ret (pe_callF o_kept_brackets hr (by decide) (by rfl) (passX (takes_of rfl rfl rfl rfl)) (pa_cons (pe_callF o_brackets_of hr (by decide) (by rfl) (passX (takes_of rfl rfl rfl rfl)) (pa_cons (pv 0) pa_nil)) pa_nil))))

theorem ok_law_depths (T : Tx P w K mg base) : Okf P w K mg base CX0 1 "_law_depths" ["_law_cells", "_law_most"] (sp_law_depths K) := by
  obtain ⟨fd, FD⟩ := T.d_law_depths
  refine ⟨⟨fd, FunD.look FD, FD.bindsN fun _ _ _ _ _ _ us hl => match us, hl with | [_, _], _ => rfl, ?_⟩, FD.kp, T.g_law_depths⟩
  refine FunD.ok (CX := CX0) FD sc_law_depths (len_law_depths K) (fun cdv A outer s H vs Q E hr h => ⟨t_law_depths K, PSs.nox ?_, rd_law_depths K vs H Q E h⟩)
  exact (pss_cons (ps_set (i := 2) sc_law_depths.nd rfl (.inl rfl) (pe_lst (pa_cons pe_int pa_nil)))
  (pss_cons (ps_for PassesOwn.never rfl (pi_list (pv 0)) (pg_name (i := 3) sc_law_depths.nd rfl (.inl rfl))
  (pss_cons (ps_set (i := 4) sc_law_depths.nd rfl (.inl rfl) (pe_op op_mod (pe_op op_mul (pv 3) pe_int) pe_int))
  (pss_cons (ps_set (i := 5) sc_law_depths.nd rfl (.inl rfl) (pe_op op_add pe_int (pe_op op_mod (pe_op op_fdiv (pv 4) pe_int) (pe_op op_add (pe_ix ix_list (pv 2) (pe_un un_neg pe_int) (fun _ _ => rfl)) pe_int))))
  (pss_cons (ps_set (i := 6) sc_law_depths.nd rfl (.inl rfl) pe_int)
  (Evl.pss_cut (ps_if (pt_cmpR op_gt (pe_op op_mod (pv 4) pe_int) pe_int (nomark _))
  (pss_one (ps_set (i := 6) sc_law_depths.nd rfl (.inl rfl) (pe_op op_add pe_int (pe_op op_mod (pe_op op_mod (pe_op op_mul (pv 3) pe_int) pe_int) pe_int))))
  pss_nil)
  (pss_one (ps_for PassesOwn.never rfl (pi_range1 (by rfl) T.b_range (pa_cons (pv 6) pa_nil)) (pg_name (i := 7) sc_law_depths.nd rfl (.inl rfl))
  (pss_cons (ps_expr (pe_bm PySem.F.plainAttrs_list PySem.F.slot_list_append PySem.F.type_list_append mt_append (pv 2) (pa_cons (pv 5) pa_nil)))
  (pss_one (ps_if (pt_cmpR op_eq (pe_op op_mod (pv 4) pe_int) pe_int (nomark _))
  (pss_one (ps_set (i := 5) sc_law_depths.nd rfl (.inl rfl) (pe_op op_add (pv 5) pe_int)))
  pss_nil))))))))))
  (pss_one (ps_ret (pe_slice sl_list (pv 2) po_none (po_some (pv 1)))))))

theorem ok_law_brackets (T : Tx P w K mg base) : Okf P w K mg base CX0 1 "_law_brackets" ["_law_depths_here"] (sp_law_brackets K) := by
  obtain ⟨fd, FD⟩ := T.d_law_brackets
  refine ⟨⟨fd, FunD.look FD, FD.bindsN fun _ _ _ _ _ _ us hl => match us, hl with | [_], _ => rfl, ?_⟩, FD.kp, T.g_law_brackets⟩
  refine FunD.ok (CX := CX0) FD sc_law_brackets (len_law_brackets K) (fun cdv A outer s H vs Q E hr h => ⟨t_law_brackets K, PSs.nox ?_, rd_law_brackets K vs H Q E h⟩)
  exact (pss_cons (ps_set (i := 1) sc_law_brackets.nd rfl (.inl rfl) (pe_lst pa_nil))
  (pss_cons (ps_set (i := 2) sc_law_brackets.nd rfl (.inl rfl) (pe_lst pa_nil))
  (pss_cons (ps_for PassesOwn.never rfl (pi_range1 (by rfl) T.b_range (pa_cons (pe_callB call_lenK (by rfl) T.b_len (by decide +kernel) (pa_cons (pv 0) pa_nil)) pa_nil)) (pg_name (i := 3) sc_law_brackets.nd rfl (.inl rfl))
  (pss_cons (ps_while PassesOwn.never (pt_cmpR op_gt (pe_callB call_lenK (by rfl) T.b_len (by decide +kernel) (pa_cons (pv 2) pa_nil)) (pe_ix ix_list (pv 0) (pv 3) (fun _ _ => rfl)) (nomark _))
  (pss_one (ps_expr (pe_bm PySem.F.plainAttrs_list PySem.F.slot_list_append PySem.F.type_list_append mt_append (pv 1) (pa_cons (pe_tup (pa_cons (pe_bm0 PySem.F.plainAttrs_list PySem.F.slot_list_pop PySem.F.type_list_pop mt_pop (pv 2)) (pa_cons pe_bl pa_nil))) pa_nil)))))
  (pss_cons (ps_expr (pe_bm PySem.F.plainAttrs_list PySem.F.slot_list_append PySem.F.type_list_append mt_append (pv 1) (pa_cons (pe_tup (pa_cons (pv 3) (pa_cons pe_bl pa_nil))) pa_nil)))
  (pss_one (ps_expr (pe_bm PySem.F.plainAttrs_list PySem.F.slot_list_append PySem.F.type_list_append mt_append (pv 2) (pa_cons (pv 3) pa_nil)))))))
  (pss_cons (ps_while PassesOwn.never (pt_cmpR op_gt (pe_callB call_lenK (by rfl) T.b_len (by decide +kernel) (pa_cons (pv 2) pa_nil)) pe_int (nomark _))
  (pss_one (ps_expr (pe_bm PySem.F.plainAttrs_list PySem.F.slot_list_append PySem.F.type_list_append mt_append (pv 1) (pa_cons (pe_tup (pa_cons (pe_bm0 PySem.F.plainAttrs_list PySem.F.slot_list_pop PySem.F.type_list_pop mt_pop (pv 2)) (pa_cons pe_bl pa_nil))) pa_nil)))))
  (pss_one (ps_ret (pv 1)))))))

theorem ok_law_look_law_told (T : Tx P w K mg base) : ∀ (j : Nat) (f : Addr) (cl : List (Str × Addr)) (c' : Addr), COk NdefX.FnO P w K mg base (max j 0 + 1) f (NdefX.NF.of st_law_look_law_told "_law_told" (("_law_look" ++ ".<locals>.") ++ "_law_told") cl c') ["_law_number"] ["_law_seen", "_law_blocks"] (sp_law_look_law_told K (Cal P w K mg base) j) := by
  intro j f cl c'
  refine cok_def (N := n_law_look_law_told) sc_law_look_law_told (fun _ _ _ us hl => match us, hl with | [_], _ => rfl) (len_law_look_law_told K (Cal P w K mg base) j) (fun A outer s H vs ws Q hr hl h => ⟨t_law_look_law_told K (Cal P w K mg base) j, PSs.nox ?_, rd_law_look_law_told K (Cal P w K mg base) j vs ws H Q h⟩)
  exact (pss_cons (ps_expr (pe_bm PySem.F.plainAttrs_list PySem.F.slot_list_append PySem.F.type_list_append mt_append (pv 1) (pa_cons (pv 0) pa_nil)))
  (pss_cons (ps_if (pt_chain op_le op_lt pe_int (pv 0) (pe_callB call_lenK (by rfl) T.b_len (by decide +kernel) (pa_cons (pv 2) pa_nil)))
  (pss_one (ps_ret (pe_ix ix_list (pv 2) (pv 0) (fun _ _ => rfl))))
  pss_nil)
  (pss_one (ps_ret pe_int))))
theorem ok_law_look (T : Tx P w K mg base) : Okf P w K mg base CX0 1 "_law_look" ["_law_blocks", "_law_seen"] (sp_law_look K (Cal P w K mg base)) := by
  obtain ⟨fd, FD⟩ := T.d_law_look
  refine ⟨⟨fd, FunD.look FD, FD.bindsN fun _ _ _ _ _ _ us hl => match us, hl with | [_, _], _ => rfl, ?_⟩, FD.kp, T.g_law_look⟩
  refine FunD.okC (pre := (defBody s_law_look).dropLast) (O := NdefX.FnO) (mkF := NdefX.NF.of st_law_look_law_told "_law_told" (("_law_look" ++ ".<locals>.") ++ "_law_told")) (nsc := C8.fnScope st_law_look_law_told) (js := [1, 0]) (fr := ["_law_seen", "_law_blocks"]) (psn := ["_law_number"]) (lv := 0) (N := n_law_look) FD rfl sc_law_look (len_law_look K (Cal P w K mg base)) (fun {f F} => ⟨_, rfl, fun h ⟨od, sl, doc, pm, ctv, q⟩ => ⟨_, _, _, _, q⟩⟩) (fun _ _ => rfl) sc_law_look_law_told.free (by decide +kernel) (by decide +kernel) (ok_law_look_law_told T)
    (fun c A outer s H vs Q E ec hr h => ?_) rfl
  subst ec
  refine ⟨tp_law_look K (tabP K "_law_look") _, te_law_look K (tabP K "_law_look") _, PSs.nox ?_, PE.nox ?_, fun G hG => rd_law_look K (Cal P w K mg base) (tabP K "_law_look") rfl _ vs H Q E h G hG⟩
  · exact (pss_one (ps_ndefC (st := st_law_look_law_told) (name := "_law_told") (i := 2) rfl T.tb_law_look rfl (by rfl) (NdefX.ndef_free (sc := defScope s_law_look) (nsc := C8.fnScope st_law_look_law_told) (fr := ["_law_seen", "_law_blocks"]) (by decide +kernel)) rfl rfl rfl sc_law_look.nd rfl (.inl rfl) (.inl rfl)))
  · exact (pv 2)

theorem ok_law_there (T : Tx P w K mg base) : Okf P w K mg base CX0 1 "_law_there" ["_law_seen", "_law_size"] (sp_law_there K) := by
  obtain ⟨fd, FD⟩ := T.d_law_there
  refine ⟨⟨fd, FunD.look FD, FD.bindsN fun _ _ _ _ _ _ us hl => match us, hl with | [_, _], _ => rfl, ?_⟩, FD.kp, T.g_law_there⟩
  refine FunD.ok (CX := CX0) FD sc_law_there (len_law_there K) (fun cdv A outer s H vs Q E hr h => ⟨t_law_there K, PSs.nox ?_, rd_law_there K vs H Q E h⟩)
  exact (pss_cons (ps_for PassesOwn.never rfl (pi_list (pv 0)) (pg_name (i := 2) sc_law_there.nd rfl (.inl rfl))
  (pss_one (ps_if (PW.pt (pw_or (pt_not (pt_val (pe_callB call_isB (by rfl) T.b_isinstance (by decide +kernel) (pa_cons (pv 2) (pa_cons (pe_bltn (v := .ty "int") (by rfl) T.b_int (by decide +kernel) rfl) pa_nil))))) (pw_or (pt_val (pe_callB call_isB (by rfl) T.b_isinstance (by decide +kernel) (pa_cons (pv 2) (pa_cons (pe_bltn (v := .ty "bool") (by rfl) T.b_bool (by decide +kernel) rfl) pa_nil)))) (pw_or (pt_cmpR op_lt (pv 2) pe_int (nomark _)) (pw_or1 (pt_cmpR op_ge (pv 2) (pv 1) (nomark _)))))))
  (pss_one (ps_ret pe_bl))
  pss_nil)))
  (pss_one (ps_ret pe_bl)))

theorem ok_bit_at (T : Tx P w K mg base) : Okf P w K mg base (L2.CX P w) 11 "bit_at" ["tables", "look", "at"] (sp_bit_at K (Cal P w K mg base)) := by
  obtain ⟨fd, FD⟩ := T.d_bit_at
  refine ⟨⟨fd, FunD.look FD, FD.bindsN fun _ _ _ _ _ _ us hl => match us, hl with | [_, _, _], _ => rfl, ?_⟩, FD.kp, T.g_bit_at⟩
  refine FunD.ok (CX := (L2.CX P w)) FD sc_bit_at (len_bit_at K (Cal P w K mg base)) (fun cdv A outer s H vs Q E hr h => ⟨t_bit_at K (Cal P w K mg base) E, ?_, rd_bit_at K (Cal P w K mg base) vs H Q E h⟩)
  exact (pss_cons (ps_if (PW.pt (pw_or (pt_cmpR op_lt (pv 2) pe_int (nomark _)) (pw_or1 (pt_cmpR op_ge (pv 2) (pe_ix ix_tup (pv 0) pe_int (fun _ _ => rfl)) (nomark _)))))
  (pss_one (ps_rz T.x_NoPlace (takes_of rfl rfl rfl rfl)))
  pss_nil)
  (pss_one (ps_ret (pe_op op_and1 (pe_op op_shr (pe_callV (k := 9) (i := 1) hr (by decide) rfl (.inl rfl) (pa_cons (pe_op op_fdiv (pv 2) (pe_gint T.i_WIDE (by rfl))) pa_nil)) (pe_op op_mod (pv 2) (pe_gint T.i_WIDE (by rfl)))) pe_int))))

theorem ok_Hand_is_opening (T : Tx P w K mg base) (o_bit_at : Okf P w K mg base (L2.CX P w) 11 "bit_at" ["tables", "look", "at"] (sp_bit_at K (Cal P w K mg base))) : Metf P w K mg base (L2.CX P w) 13 "Hand" "is_opening" ["self"] (sp_Hand_is_opening K (Cal P w K mg base)) := by
  obtain ⟨fd, FD⟩ := T.d_Hand_is_opening
  refine ⟨⟨fd, ?_, FD.bindsN fun _ _ _ _ _ _ us hl => match us, hl with | [_], _ => rfl⟩, T.m_Hand_is_opening, T.c_Hand⟩
  refine FunD.ok (CX := (L2.CX P w)) FD sc_Hand_is_opening (len_Hand_is_opening K (Cal P w K mg base)) (fun cdv A outer s H vs Q E hr h => ⟨t_Hand_is_opening K (Cal P w K mg base) E, ?_, rd_Hand_is_opening K (Cal P w K mg base) vs H Q E h⟩)
  exact (pss_one (ps_ret (pe_cmpR op_eq (pe_callF o_bit_at hr (by decide) (by rfl) (passX (takes_of rfl rfl rfl rfl)) (pa_cons (pe_slice sl_tup (pe_fldC T.c_Hand T.na_Hand_tables (pv 0) rfl) po_none (po_some pe_int)) (pa_cons (pe_fldC T.c_Hand T.na_Hand_look (pv 0) rfl) (pa_cons (pe_fldC T.c_Hand T.na_Hand_spot (pv 0) rfl) pa_nil)))) pe_int (nomark _))))

theorem ok_ones_at (T : Tx P w K mg base) (o_ones_in : Okf P w K mg base CX0 1 "ones_in" ["block", "upto"] (sp_ones_in K)) : Okf P w K mg base (L2.CX P w) 11 "ones_at" ["tables", "look", "at"] (sp_ones_at K (Cal P w K mg base)) := by
  obtain ⟨fd, FD⟩ := T.d_ones_at
  refine ⟨⟨fd, FunD.look FD, FD.bindsN fun _ _ _ _ _ _ us hl => match us, hl with | [_, _, _], _ => rfl, ?_⟩, FD.kp, T.g_ones_at⟩
  refine FunD.ok (CX := (L2.CX P w)) FD sc_ones_at (len_ones_at K (Cal P w K mg base)) (fun cdv A outer s H vs Q E hr h => ⟨t_ones_at K (Cal P w K mg base) E, ?_, rd_ones_at K (Cal P w K mg base) vs H Q E h⟩)
  exact (pss_cons (ps_asg (pv 0) (pg_tup rfl (pgs_cons (pg_name (i := 3) sc_ones_at.nd rfl (.inl rfl)) (pgs_cons (pg_name (i := 4) sc_ones_at.nd rfl (.inl rfl)) pgs_nil))))
  (pss_cons (ps_if (PW.pt (pw_or (pt_cmpR op_lt (pv 2) pe_int (nomark _)) (pw_or1 (pt_cmpR op_gt (pv 2) (pv 3) (nomark _)))))
  (pss_one (ps_rz T.x_NoPlace (takes_of rfl rfl rfl rfl)))
  pss_nil)
  (pss_cons (ps_set (i := 5) sc_ones_at.nd rfl (.inl rfl) (pe_ix ix_tup (pv 4) (pe_op op_fdiv (pv 2) (pe_gint T.i_WIDE (by rfl))) (fun _ _ => rfl)))
  (Evl.pss_cut (ps_if (pt_cmpR op_gt (pe_op op_mod (pv 2) (pe_gint T.i_WIDE (by rfl))) pe_int (nomark _))
  (pss_one (ps_aug (i := 5) sc_ones_at.nd rfl (.inl rfl) (pe_callF o_ones_in hr (by decide) (by rfl) pass0 (pa_cons (pe_callV (k := 9) (i := 1) hr (by decide) rfl (.inl rfl) (pa_cons (pe_op op_fdiv (pv 2) (pe_gint T.i_WIDE (by rfl))) pa_nil)) (pa_cons (pe_op op_mod (pv 2) (pe_gint T.i_WIDE (by rfl))) pa_nil))) ip_add))
  pss_nil)
  (pss_one (ps_ret (pv 5)))))))

theorem ok_height (T : Tx P w K mg base) (o_ones_at : Okf P w K mg base (L2.CX P w) 11 "ones_at" ["tables", "look", "at"] (sp_ones_at K (Cal P w K mg base))) : Okf P w K mg base (L2.CX P w) 13 "height" ["tables", "look", "at"] (sp_height K (Cal P w K mg base)) := by
  obtain ⟨fd, FD⟩ := T.d_height
  refine ⟨⟨fd, FunD.look FD, FD.bindsN fun _ _ _ _ _ _ us hl => match us, hl with | [_, _, _], _ => rfl, ?_⟩, FD.kp, T.g_height⟩
  refine FunD.ok (CX := (L2.CX P w)) FD sc_height (len_height K (Cal P w K mg base)) (fun cdv A outer s H vs Q E hr h => ⟨t_height K (Cal P w K mg base) E, ?_, rd_height K (Cal P w K mg base) vs H Q E h⟩)
  exact (pss_one (ps_ret (pe_op op_sub (pe_op op_mul pe_int (pe_callF o_ones_at hr (by decide) (by rfl) (passX (takes_of rfl rfl rfl rfl)) (pa_cons (pe_slice sl_tup (pv 0) po_none (po_some pe_int)) (pa_cons (pv 1) (pa_cons (pv 2) pa_nil))))) (pv 2))))

theorem ok_cover (T : Tx P w K mg base) (o_size_of : Okf P w K mg base CX0 1 "size_of" ["many"] (sp_size_of K)) : Okf P w K mg base (L2.CX P w) 3 "cover" ["many", "start", "stop"] (sp_cover K) := by
  obtain ⟨fd, FD⟩ := T.d_cover
  refine ⟨⟨fd, FunD.look FD, FD.bindsN fun _ _ _ _ _ _ us hl => match us, hl with | [_, _, _], _ => rfl, ?_⟩, FD.kp, T.g_cover⟩
  refine FunD.ok (CX := (L2.CX P w)) FD sc_cover (len_cover K) (fun cdv A outer s H vs Q E hr h => ⟨t_cover K E, ?_, rd_cover K vs H Q E h⟩)
  exact (pss_cons (ps_if (PW.pt (pw_or (pt_cmpR op_lt (pv 1) pe_int (nomark _)) (pw_or (pt_cmpR op_gt (pv 1) (pv 2) (nomark _)) (pw_or1 (pt_cmpR op_gt (pv 2) (pv 0) (nomark _))))))
  (pss_one (ps_rz T.x_NoPlace (takes_of rfl rfl rfl rfl)))
  pss_nil)
  (pss_cons (ps_set (i := 3) sc_cover.nd rfl (.inl rfl) (pe_op op_add (pe_callF o_size_of hr (by decide) (by rfl) pass0 (pa_cons (pv 0) pa_nil)) (pv 1)))
  (pss_cons (ps_set (i := 4) sc_cover.nd rfl (.inl rfl) (pe_op op_add (pe_callF o_size_of hr (by decide) (by rfl) pass0 (pa_cons (pv 0) pa_nil)) (pv 2)))
  (pss_cons (ps_set (i := 5) sc_cover.nd rfl (.inl rfl) (pe_lst pa_nil))
  (pss_cons (ps_set (i := 6) sc_cover.nd rfl (.inl rfl) (pe_lst pa_nil))
  (pss_cons (ps_while (passes_of rfl) (pt_cmpR op_lt (pv 3) (pv 4) (nomark _))
  (Evl.pss_cut (ps_if (pt_cmpR op_eq (pe_op op_mod (pv 3) pe_int) pe_int (nomark _))
  (pss_cons (ps_expr (pe_bm PySem.F.plainAttrs_list PySem.F.slot_list_append PySem.F.type_list_append mt_append (pv 5) (pa_cons (pv 3) pa_nil)))
  (pss_one (ps_aug (i := 3) sc_cover.nd rfl (.inl rfl) pe_int ip_add)))
  pss_nil)
  (Evl.pss_cut (ps_if (pt_cmpR op_eq (pe_op op_mod (pv 4) pe_int) pe_int (nomark _))
  (pss_cons (ps_aug (i := 4) sc_cover.nd rfl (.inl rfl) pe_int ip_sub)
  (pss_one (ps_expr (pe_bm PySem.F.plainAttrs_list PySem.F.slot_list_append PySem.F.type_list_append mt_append (pv 6) (pa_cons (pv 4) pa_nil)))))
  pss_nil)
  (pss_cons (ps_set (i := 3) sc_cover.nd rfl (.inl rfl) (pe_op op_fdiv (pv 3) pe_int))
  (pss_one (ps_set (i := 4) sc_cover.nd rfl (.inl rfl) (pe_op op_fdiv (pv 4) pe_int)))))))
  (pss_one (ps_ret (pe_op op_cat (pv 5) (pe_revL (pv 6)))))))))))

theorem ok_within_goal (T : Tx P w K mg base) : Okf P w K mg base CX0 1 "within_goal" ["number", "goal"] (sp_within_goal K) := by
  obtain ⟨fd, FD⟩ := T.d_within_goal
  refine ⟨⟨fd, FunD.look FD, FD.bindsN fun _ _ _ _ _ _ us hl => match us, hl with | [_, _], _ => rfl, ?_⟩, FD.kp, T.g_within_goal⟩
  refine FunD.ok (CX := CX0) FD sc_within_goal (len_within_goal K) (fun cdv A outer s H vs Q E hr h => ⟨t_within_goal K, PSs.nox ?_, rd_within_goal K vs H Q E h⟩)
  exact (pss_one (ps_ret (pe_and (pe_cmpR op_notN1 (pv 0) pe_non (nomark _)) (pe_one (pe_cmpR op_le (pv 0) (pv 1) (nomark _))))))

theorem ok_last_at_most (T : Tx P w K mg base) (o_size_of : Okf P w K mg base CX0 1 "size_of" ["many"] (sp_size_of K)) (o_cover : Okf P w K mg base (L2.CX P w) 3 "cover" ["many", "start", "stop"] (sp_cover K)) (o_within_goal : Okf P w K mg base CX0 1 "within_goal" ["number", "goal"] (sp_within_goal K)) : Okf P w K mg base (L2.CX P w) 11 "last_at_most" ["many", "look", "stop", "goal"] (sp_last_at_most K (Cal P w K mg base)) := by
  obtain ⟨fd, FD⟩ := T.d_last_at_most
  refine ⟨⟨fd, FunD.look FD, FD.bindsN fun _ _ _ _ _ _ us hl => match us, hl with | [_, _, _, _], _ => rfl, ?_⟩, FD.kp, T.g_last_at_most⟩
  refine FunD.ok (CX := (L2.CX P w)) FD sc_last_at_most (len_last_at_most K (Cal P w K mg base)) (fun cdv A outer s H vs Q E hr h => ⟨t_last_at_most K (Cal P w K mg base) E, ?_, rd_last_at_most K (Cal P w K mg base) vs H Q E h⟩)
  exact (pss_cons (ps_set (i := 4) sc_last_at_most.nd rfl (.inl rfl) (pe_callF o_size_of hr (by decide) (by rfl) pass0 (pa_cons (pv 0) pa_nil)))
  (pss_cons (ps_for (passes_of rfl) rfl (pi_reversed (by rfl) T.b_reversed (pa_cons (pe_callF o_cover hr (by decide) (by rfl) (passX (takes_of rfl rfl rfl rfl)) (pa_cons (pv 0) (pa_cons pe_int (pa_cons (pv 2) pa_nil)))) pa_nil)) (pg_name (i := 5) sc_last_at_most.nd rfl (.inl rfl))
  (pss_one (ps_if (pt_val (pe_callF o_within_goal hr (by decide) (by rfl) pass0 (pa_cons (pe_callV (k := 9) (i := 1) hr (by decide) rfl (.inl rfl) (pa_cons (pv 5) pa_nil)) (pa_cons (pv 3) pa_nil))))
  (pss_cons (ps_set (i := 6) sc_last_at_most.nd rfl (.inl rfl) (pv 5))
  (pss_cons (ps_while (passes_of rfl) (pt_cmpR op_lt (pv 6) (pv 4) (nomark _))
  (pss_cons (ps_set (i := 6) sc_last_at_most.nd rfl (.inl rfl) (pe_op op_add (pe_op op_mul pe_int (pv 6)) pe_int))
  (pss_one (ps_if (pt_not (pt_val (pe_callF o_within_goal hr (by decide) (by rfl) pass0 (pa_cons (pe_callV (k := 9) (i := 1) hr (by decide) rfl (.inl rfl) (pa_cons (pv 6) pa_nil)) (pa_cons (pv 3) pa_nil)))))
  (pss_one (ps_aug (i := 6) sc_last_at_most.nd rfl (.inl rfl) pe_int ip_sub))
  pss_nil))))
  (pss_one (ps_ret (pe_op op_sub (pv 6) (pv 4))))))
  pss_nil)))
  (pss_one (ps_ret pe_non))))

theorem ok_node_look_lam (T : Tx P w K mg base) : ∀ (j : Nat) (f : Addr) (cl : List (Str × Addr)) (c' : Addr), COk (LamO (lamBody st_node_look_lam)) P w K mg base (max j 0 + 1) f (lamNF st_node_look_lam (("node_look" ++ ".<locals>.") ++ "<lambda>") cl c') ["number"] ["nodes"] (sp_node_look_lam K (Cal P w K mg base) j) := by
  intro j f cl c'
  refine cok_lam (N := n_node_look_lam) sc_node_look_lam (fun _ _ _ us hl => match us, hl with | [_], _ => rfl) (len_node_look_lam K (Cal P w K mg base) j) (fun A outer s H vs ws Q hr hl h => ⟨t_node_look_lam K (Cal P w K mg base) j, PE.nox ?_, rd_node_look_lam K (Cal P w K mg base) j vs ws H Q h⟩)
  exact (pe_ix ix_tup (pv 1) (pv 0) (fun _ _ => rfl))
theorem ok_node_look (T : Tx P w K mg base) : Okf P w K mg base CX0 1 "node_look" ["tables"] (sp_node_look K (Cal P w K mg base)) := by
  obtain ⟨fd, FD⟩ := T.d_node_look
  refine ⟨⟨fd, FunD.look FD, FD.bindsN fun _ _ _ _ _ _ us hl => match us, hl with | [_], _ => rfl, ?_⟩, FD.kp, T.g_node_look⟩
  refine FunD.okC (pre := (defBody s_node_look).dropLast) (O := (LamO (lamBody st_node_look_lam))) (mkF := lamNF st_node_look_lam (("node_look" ++ ".<locals>.") ++ "<lambda>")) (nsc := (lamNF st_node_look_lam "" [] 0).scope) (js := [1]) (fr := ["nodes"]) (psn := ["number"]) (lv := 0) (N := n_node_look) FD rfl sc_node_look (len_node_look K (Cal P w K mg base)) (fun {f F} => ⟨_, rfl, fun h ⟨pm, ctv, q⟩ => ⟨_, _, _, _, q⟩⟩) (fun _ _ => rfl) sc_node_look_lam.free (by decide +kernel) (by decide +kernel) (ok_node_look_lam T)
    (fun c A outer s H vs Q E ec hr h => ?_) rfl
  subst ec
  refine ⟨tp_node_look K (tabP K "node_look") (lamBody st_node_look_lam) _, te_node_look K (tabP K "node_look") (lamBody st_node_look_lam) _, PSs.nox ?_, PE.nox ?_, fun G hG => rd_node_look K (Cal P w K mg base) (tabP K "node_look") rfl (lamBody st_node_look_lam) _ vs H Q E h G hG⟩
  · exact (pss_one (ps_set (i := 1) sc_node_look.nd rfl (.inr rfl) (pe_ix ix_tup (pv 0) pe_int (fun _ _ => rfl))))
  · exact (pe_lamC T.tb_node_look rfl (by rfl) (NdefX.ndef_free (sc := defScope s_node_look) (nsc := (lamNF st_node_look_lam "" [] 0).scope) (fr := ["nodes"]) (by decide +kernel)) rfl)

theorem ok_check_place (T : Tx P w K mg base) : Okf P w K mg base (L2.CX P w) 2 "check_place" ["tables", "at"] (sp_check_place K) := by
  obtain ⟨fd, FD⟩ := T.d_check_place
  refine ⟨⟨fd, FunD.look FD, FD.bindsN fun _ _ _ _ _ _ us hl => match us, hl with | [_, _], _ => rfl, ?_⟩, FD.kp, T.g_check_place⟩
  refine FunD.ok (CX := (L2.CX P w)) FD sc_check_place (len_check_place K) (fun cdv A outer s H vs Q E hr h => ⟨t_check_place K E, ?_, rd_check_place K vs H Q E h⟩)
  exact (pss_one (ps_if (PW.pt (pw_or (pt_cmpR op_lt (pv 1) pe_int (nomark _)) (pw_or1 (pt_cmpR op_gt (pv 1) (pe_ix ix_tup (pv 0) pe_int (fun _ _ => rfl)) (nomark _)))))
  (pss_one (ps_rz T.x_NoPlace (takes_of rfl rfl rfl rfl)))
  pss_nil))

theorem ok_last_low_in (T : Tx P w K mg base) (o_ones_in : Okf P w K mg base CX0 1 "ones_in" ["block", "upto"] (sp_ones_in K)) : Okf P w K mg base CX0 2 "last_low_in" ["block", "start", "stop", "goal"] (sp_last_low_in K) := by
  obtain ⟨fd, FD⟩ := T.d_last_low_in
  refine ⟨⟨fd, FunD.look FD, FD.bindsN fun _ _ _ _ _ _ us hl => match us, hl with | [_, _, _, _], _ => rfl, ?_⟩, FD.kp, T.g_last_low_in⟩
  refine FunD.ok (CX := CX0) FD sc_last_low_in (len_last_low_in K) (fun cdv A outer s H vs Q E hr h => ⟨t_last_low_in K, PSs.nox ?_, rd_last_low_in K vs H Q E h⟩)
  exact (pss_cons (ps_set (i := 4) sc_last_low_in.nd rfl (.inl rfl) (pe_op op_sub (pe_op op_mul pe_int (pe_callF o_ones_in hr (by decide) (by rfl) pass0 (pa_cons (pv 0) (pa_cons (pv 2) pa_nil)))) (pv 2)))
  (pss_cons (ps_for PassesOwn.never rfl (pi_range3 (by rfl) T.b_range (pa_cons (pv 2) (pa_cons (pv 1) (pa_cons (pe_un un_neg pe_int) pa_nil)))) (pg_name (i := 5) sc_last_low_in.nd rfl (.inl rfl))
  (pss_cons (ps_if (pt_cmpR op_le (pv 4) (pv 3) (nomark _))
  (pss_one (ps_ret (pv 5)))
  pss_nil)
  (pss_one (ps_aug (i := 4) sc_last_low_in.nd rfl (.inl rfl) (pe_op op_sub (pe_op op_mul pe_int (pe_op op_and1 (pe_op op_shr (pv 0) (pe_op op_sub (pv 5) pe_int)) pe_int)) pe_int) ip_sub))))
  (pss_one (ps_ret pe_non))))

theorem ok_last_part (T : Tx P w K mg base) (o_last_low_in : Okf P w K mg base CX0 2 "last_low_in" ["block", "start", "stop", "goal"] (sp_last_low_in K)) (o_begin_height : Okf P w K mg base CX0 1 "begin_height" ["ahead", "number"] (sp_begin_height K)) : Okf P w K mg base CX0 10 "last_part" ["tables", "look", "number", "stop", "goal"] (sp_last_part K (Cal P w K mg base)) := by
  obtain ⟨fd, FD⟩ := T.d_last_part
  refine ⟨⟨fd, FunD.look FD, FD.bindsN fun _ _ _ _ _ _ us hl => match us, hl with | [_, _, _, _, _], _ => rfl, ?_⟩, FD.kp, T.g_last_part⟩
  refine FunD.ok (CX := CX0) FD sc_last_part (len_last_part K (Cal P w K mg base)) (fun cdv A outer s H vs Q E hr h => ⟨t_last_part K (Cal P w K mg base), PSs.nox ?_, rd_last_part K (Cal P w K mg base) vs H Q E h⟩)
  exact (pss_cons (ps_set (i := 5) sc_last_part.nd rfl (.inl rfl) (pe_callF o_last_low_in hr (by decide) (by rfl) pass0 (pa_cons (pe_callV (k := 9) (i := 1) hr (by decide) rfl (.inl rfl) (pa_cons (pv 2) pa_nil)) (pa_cons pe_int (pa_cons (pv 3) (pa_cons (pe_op op_sub (pv 4) (pe_callF o_begin_height hr (by decide) (by rfl) pass0 (pa_cons (pe_ix ix_tup (pv 0) pe_int (fun _ _ => rfl)) (pa_cons (pv 2) pa_nil)))) pa_nil))))))
  (pss_cons (ps_if (pt_cmpR op_isN1 (pv 5) pe_non (nomark _))
  (pss_one (ps_ret pe_non))
  pss_nil)
  (pss_one (ps_ret (pe_op op_add (pe_op op_mul (pe_gint T.i_WIDE (by rfl)) (pv 2)) (pv 5))))))

theorem ok_low_ahead (T : Tx P w K mg base) (o_check_place : Okf P w K mg base (L2.CX P w) 2 "check_place" ["tables", "at"] (sp_check_place K)) (o_last_part : Okf P w K mg base CX0 10 "last_part" ["tables", "look", "number", "stop", "goal"] (sp_last_part K (Cal P w K mg base))) (o_last_at_most : Okf P w K mg base (L2.CX P w) 11 "last_at_most" ["many", "look", "stop", "goal"] (sp_last_at_most K (Cal P w K mg base))) (o_node_look : Okf P w K mg base CX0 1 "node_look" ["tables"] (sp_node_look K (Cal P w K mg base))) : Okf P w K mg base (L2.CX P w) 13 "low_ahead" ["tables", "look", "at", "goal"] (sp_low_ahead K (Cal P w K mg base)) := by
  obtain ⟨fd, FD⟩ := T.d_low_ahead
  refine ⟨⟨fd, FunD.look FD, FD.bindsN fun _ _ _ _ _ _ us hl => match us, hl with | [_, _, _, _], _ => rfl, ?_⟩, FD.kp, T.g_low_ahead⟩
  refine FunD.ok (CX := (L2.CX P w)) FD sc_low_ahead (len_low_ahead K (Cal P w K mg base)) (fun cdv A outer s H vs Q E hr h => ⟨t_low_ahead K (Cal P w K mg base) E, ?_, rd_low_ahead K (Cal P w K mg base) vs H Q E h⟩)
  exact (pss_cons (ps_expr (pe_callF o_check_place hr (by decide) (by rfl) (passX (takes_of rfl rfl rfl rfl)) (pa_cons (pv 0) (pa_cons (pv 2) pa_nil))))
  (pss_cons (ps_set (i := 4) sc_low_ahead.nd rfl (.inl rfl) pe_non)
  (Evl.pss_cut (ps_if (pt_cmpR op_gt (pv 2) pe_int (nomark _))
  (pss_cons (ps_set (i := 5) sc_low_ahead.nd rfl (.inl rfl) (pe_op op_fdiv (pe_op op_sub (pv 2) pe_int) (pe_gint T.i_WIDE (by rfl))))
  (pss_cons (ps_set (i := 4) sc_low_ahead.nd rfl (.inl rfl) (pe_callF o_last_part hr (by decide) (by rfl) pass0 (pa_cons (pv 0) (pa_cons (pv 1) (pa_cons (pv 5) (pa_cons (pe_op op_sub (pe_op op_sub (pv 2) pe_int) (pe_op op_mul (pe_gint T.i_WIDE (by rfl)) (pv 5))) (pa_cons (pv 3) pa_nil)))))))
  (pss_one (ps_if (pt_cmpR op_isN1 (pv 4) pe_non (nomark _))
  (pss_cons (ps_set (i := 5) sc_low_ahead.nd rfl (.inl rfl) (pe_callF o_last_at_most hr (by decide) (by rfl) (passX (takes_of rfl rfl rfl rfl)) (pa_cons (pe_op op_sub (pe_callB call_lenK (by rfl) T.b_len (by decide +kernel) (pa_cons (pe_ix ix_tup (pv 0) pe_int (fun _ _ => rfl)) pa_nil)) pe_int) (pa_cons (pe_callF o_node_look hr (by decide) (by rfl) pass0 (pa_cons (pv 0) pa_nil)) (pa_cons (pv 5) (pa_cons (pv 3) pa_nil))))))
  (pss_one (ps_if (pt_cmpR op_notN1 (pv 5) pe_non (nomark _))
  (pss_one (ps_set (i := 4) sc_low_ahead.nd rfl (.inl rfl) (pe_callF o_last_part hr (by decide) (by rfl) pass0 (pa_cons (pv 0) (pa_cons (pv 1) (pa_cons (pv 5) (pa_cons (pe_gint T.i_WIDE (by rfl)) (pa_cons (pv 3) pa_nil))))))))
  pss_nil)))
  pss_nil))))
  pss_nil)
  (pss_cons (ps_if (PW.pt (pw_and (pt_cmpR op_isN1 (pv 4) pe_non (nomark _)) (pw_and (pt_cmpR op_gt (pv 2) pe_int (nomark _)) (pw_and1 (pt_cmpR op_ge (pv 3) pe_int (nomark _))))))
  (pss_one (ps_ret pe_int))
  pss_nil)
  (pss_one (ps_ret (pv 4)))))))

theorem ok_opening (T : Tx P w K mg base) (o_bit_at : Okf P w K mg base (L2.CX P w) 11 "bit_at" ["tables", "look", "at"] (sp_bit_at K (Cal P w K mg base))) (o_low_ahead : Okf P w K mg base (L2.CX P w) 13 "low_ahead" ["tables", "look", "at", "goal"] (sp_low_ahead K (Cal P w K mg base))) (o_height : Okf P w K mg base (L2.CX P w) 13 "height" ["tables", "look", "at"] (sp_height K (Cal P w K mg base))) : Okf P w K mg base (L2.CX P w) 15 "opening" ["tables", "look", "at"] (sp_opening K (Cal P w K mg base)) := by
  obtain ⟨fd, FD⟩ := T.d_opening
  refine ⟨⟨fd, FunD.look FD, FD.bindsN fun _ _ _ _ _ _ us hl => match us, hl with | [_, _, _], _ => rfl, ?_⟩, FD.kp, T.g_opening⟩
  refine FunD.ok (CX := (L2.CX P w)) FD sc_opening (len_opening K (Cal P w K mg base)) (fun cdv A outer s H vs Q E hr h => ⟨t_opening K (Cal P w K mg base) E, ?_, rd_opening K (Cal P w K mg base) vs H Q E h⟩)
  exact (pss_cons (ps_if (pt_cmpR op_ne (pe_callF o_bit_at hr (by decide) (by rfl) (passX (takes_of rfl rfl rfl rfl)) (pa_cons (pv 0) (pa_cons (pv 1) (pa_cons (pv 2) pa_nil)))) pe_int (nomark _))
  (pss_one (ps_rz T.x_NoNode (takes_of rfl rfl rfl rfl)))
  pss_nil)
  (pss_one (ps_ret (pe_callF o_low_ahead hr (by decide) (by rfl) (passX (takes_of rfl rfl rfl rfl)) (pa_cons (pv 0) (pa_cons (pv 1) (pa_cons (pe_op op_add (pv 2) pe_int) (pa_cons (pe_callF o_height hr (by decide) (by rfl) (passX (takes_of rfl rfl rfl rfl)) (pa_cons (pv 0) (pa_cons (pv 1) (pa_cons (pe_op op_add (pv 2) pe_int) pa_nil)))) pa_nil))))))))

theorem ok_Hand_node (T : Tx P w K mg base) (o_Hand_is_opening : Metf P w K mg base (L2.CX P w) 13 "Hand" "is_opening" ["self"] (sp_Hand_is_opening K (Cal P w K mg base))) (o_opening : Okf P w K mg base (L2.CX P w) 15 "opening" ["tables", "look", "at"] (sp_opening K (Cal P w K mg base))) (o_ones_at : Okf P w K mg base (L2.CX P w) 11 "ones_at" ["tables", "look", "at"] (sp_ones_at K (Cal P w K mg base))) : Metf P w K mg base (L2.CX P w) 17 "Hand" "node" ["self"] (sp_Hand_node K (Cal P w K mg base)) := by
  obtain ⟨fd, FD⟩ := T.d_Hand_node
  refine ⟨⟨fd, ?_, FD.bindsN fun _ _ _ _ _ _ us hl => match us, hl with | [_], _ => rfl⟩, T.m_Hand_node, T.c_Hand⟩
  refine FunD.ok (CX := (L2.CX P w)) FD sc_Hand_node (len_Hand_node K (Cal P w K mg base)) (fun cdv A outer s H vs Q E hr h => ⟨t_Hand_node K (Cal P w K mg base) E, ?_, rd_Hand_node K (Cal P w K mg base) vs H Q E h⟩)
  exact (pss_cons (ps_set (i := 1) sc_Hand_node.nd rfl (.inl rfl) (pe_fldC T.c_Hand T.na_Hand_spot (pv 0) rfl))
  (Evl.pss_cut (ps_if (pt_not (pt_val (pe_methC0 o_Hand_is_opening hr (by decide) (pv 0) (passX (takes_of rfl rfl rfl rfl)))))
  (pss_one (ps_set (i := 1) sc_Hand_node.nd rfl (.inl rfl) (pe_callF o_opening hr (by decide) (by rfl) (passX (takes_of rfl rfl rfl rfl)) (pa_cons (pe_fldC T.c_Hand T.na_Hand_tables (pv 0) rfl) (pa_cons (pe_fldC T.c_Hand T.na_Hand_look (pv 0) rfl) (pa_cons (pv 1) pa_nil))))))
  pss_nil)
  (pss_one (ps_ret (pe_callF o_ones_at hr (by decide) (by rfl) (passX (takes_of rfl rfl rfl rfl)) (pa_cons (pe_slice sl_tup (pe_fldC T.c_Hand T.na_Hand_tables (pv 0) rfl) po_none (po_some pe_int)) (pa_cons (pe_fldC T.c_Hand T.na_Hand_look (pv 0) rfl) (pa_cons (pv 1) pa_nil))))))))

theorem ok_Hand_stand (T : Tx P w K mg base) (o_Hand_node : Metf P w K mg base (L2.CX P w) 17 "Hand" "node" ["self"] (sp_Hand_node K (Cal P w K mg base))) (o_Hand_is_opening : Metf P w K mg base (L2.CX P w) 13 "Hand" "is_opening" ["self"] (sp_Hand_is_opening K (Cal P w K mg base))) : Metf P w K mg base (L2.CX P w) 19 "Hand" "stand" ["self"] (sp_Hand_stand K (Cal P w K mg base)) := by
  obtain ⟨fd, FD⟩ := T.d_Hand_stand
  refine ⟨⟨fd, ?_, FD.bindsN fun _ _ _ _ _ _ us hl => match us, hl with | [_], _ => rfl⟩, T.m_Hand_stand, T.c_Hand⟩
  refine FunD.ok (CX := (L2.CX P w)) FD sc_Hand_stand (len_Hand_stand K (Cal P w K mg base)) (fun cdv A outer s H vs Q E hr h => ⟨t_Hand_stand K (Cal P w K mg base) E, ?_, rd_Hand_stand K (Cal P w K mg base) vs H Q E h⟩)
  exact (pss_one (ps_ret (pe_tup (pa_cons (pe_methC0 o_Hand_node hr (by decide) (pv 0) (passX (takes_of rfl rfl rfl rfl))) (pa_cons (pe_methC0 o_Hand_is_opening hr (by decide) (pv 0) (passX (takes_of rfl rfl rfl rfl))) pa_nil)))))

theorem ok_Hand_step (T : Tx P w K mg base) (o_Hand_stand : Metf P w K mg base (L2.CX P w) 19 "Hand" "stand" ["self"] (sp_Hand_stand K (Cal P w K mg base))) : Metf P w K mg base (L2.CX P w) 21 "Hand" "step" ["self"] (sp_Hand_step K (Cal P w K mg base)) := by
  obtain ⟨fd, FD⟩ := T.d_Hand_step
  refine ⟨⟨fd, ?_, FD.bindsN fun _ _ _ _ _ _ us hl => match us, hl with | [_], _ => rfl⟩, T.m_Hand_step, T.c_Hand⟩
  refine FunD.ok (CX := (L2.CX P w)) FD sc_Hand_step (len_Hand_step K (Cal P w K mg base)) (fun cdv A outer s H vs Q E hr h => ⟨t_Hand_step K (Cal P w K mg base) E, ?_, rd_Hand_step K (Cal P w K mg base) vs H Q E h⟩)
  exact (pss_cons (ps_fldC T.c_Hand T.na_Hand_spot (pv 0) (pe_op op_mod (pe_op op_add (pe_fldC T.c_Hand T.na_Hand_spot (pv 0) rfl) pe_int) (pe_ix ix_tup (pe_fldC T.c_Hand T.na_Hand_tables (pv 0) rfl) pe_int (fun _ _ => rfl))) rfl)
  (pss_one (ps_ret (pe_methC0 o_Hand_stand hr (by decide) (pv 0) (passX (takes_of rfl rfl rfl rfl))))))

theorem ok_Hand_step_back (T : Tx P w K mg base) (o_Hand_stand : Metf P w K mg base (L2.CX P w) 19 "Hand" "stand" ["self"] (sp_Hand_stand K (Cal P w K mg base))) : Metf P w K mg base (L2.CX P w) 21 "Hand" "step_back" ["self"] (sp_Hand_step_back K (Cal P w K mg base)) := by
  obtain ⟨fd, FD⟩ := T.d_Hand_step_back
  refine ⟨⟨fd, ?_, FD.bindsN fun _ _ _ _ _ _ us hl => match us, hl with | [_], _ => rfl⟩, T.m_Hand_step_back, T.c_Hand⟩
  refine FunD.ok (CX := (L2.CX P w)) FD sc_Hand_step_back (len_Hand_step_back K (Cal P w K mg base)) (fun cdv A outer s H vs Q E hr h => ⟨t_Hand_step_back K (Cal P w K mg base) E, ?_, rd_Hand_step_back K (Cal P w K mg base) vs H Q E h⟩)
  exact (pss_cons (ps_fldC T.c_Hand T.na_Hand_spot (pv 0) (pe_op op_mod (pe_op op_sub (pe_fldC T.c_Hand T.na_Hand_spot (pv 0) rfl) pe_int) (pe_ix ix_tup (pe_fldC T.c_Hand T.na_Hand_tables (pv 0) rfl) pe_int (fun _ _ => rfl))) rfl)
  (pss_one (ps_ret (pe_methC0 o_Hand_stand hr (by decide) (pv 0) (passX (takes_of rfl rfl rfl rfl))))))

theorem ok_first_at_most (T : Tx P w K mg base) (o_size_of : Okf P w K mg base CX0 1 "size_of" ["many"] (sp_size_of K)) (o_cover : Okf P w K mg base (L2.CX P w) 3 "cover" ["many", "start", "stop"] (sp_cover K)) (o_within_goal : Okf P w K mg base CX0 1 "within_goal" ["number", "goal"] (sp_within_goal K)) : Okf P w K mg base (L2.CX P w) 11 "first_at_most" ["many", "look", "start", "goal"] (sp_first_at_most K (Cal P w K mg base)) := by
  obtain ⟨fd, FD⟩ := T.d_first_at_most
  refine ⟨⟨fd, FunD.look FD, FD.bindsN fun _ _ _ _ _ _ us hl => match us, hl with | [_, _, _, _], _ => rfl, ?_⟩, FD.kp, T.g_first_at_most⟩
  refine FunD.ok (CX := (L2.CX P w)) FD sc_first_at_most (len_first_at_most K (Cal P w K mg base)) (fun cdv A outer s H vs Q E hr h => ⟨t_first_at_most K (Cal P w K mg base) E, ?_, rd_first_at_most K (Cal P w K mg base) vs H Q E h⟩)
  exact (pss_cons (ps_set (i := 4) sc_first_at_most.nd rfl (.inl rfl) (pe_callF o_size_of hr (by decide) (by rfl) pass0 (pa_cons (pv 0) pa_nil)))
  (pss_cons (ps_for (passes_of rfl) rfl (pi_list (pe_callF o_cover hr (by decide) (by rfl) (passX (takes_of rfl rfl rfl rfl)) (pa_cons (pv 0) (pa_cons (pv 2) (pa_cons (pv 0) pa_nil))))) (pg_name (i := 5) sc_first_at_most.nd rfl (.inl rfl))
  (pss_one (ps_if (pt_val (pe_callF o_within_goal hr (by decide) (by rfl) pass0 (pa_cons (pe_callV (k := 9) (i := 1) hr (by decide) rfl (.inl rfl) (pa_cons (pv 5) pa_nil)) (pa_cons (pv 3) pa_nil))))
  (pss_cons (ps_set (i := 6) sc_first_at_most.nd rfl (.inl rfl) (pv 5))
  (pss_cons (ps_while (passes_of rfl) (pt_cmpR op_lt (pv 6) (pv 4) (nomark _))
  (pss_cons (ps_set (i := 6) sc_first_at_most.nd rfl (.inl rfl) (pe_op op_mul pe_int (pv 6)))
  (pss_one (ps_if (pt_not (pt_val (pe_callF o_within_goal hr (by decide) (by rfl) pass0 (pa_cons (pe_callV (k := 9) (i := 1) hr (by decide) rfl (.inl rfl) (pa_cons (pv 6) pa_nil)) (pa_cons (pv 3) pa_nil)))))
  (pss_one (ps_aug (i := 6) sc_first_at_most.nd rfl (.inl rfl) pe_int ip_add))
  pss_nil))))
  (pss_one (ps_ret (pe_op op_sub (pv 6) (pv 4))))))
  pss_nil)))
  (pss_one (ps_ret pe_non))))

theorem ok_first_low_in (T : Tx P w K mg base) (o_ones_in : Okf P w K mg base CX0 1 "ones_in" ["block", "upto"] (sp_ones_in K)) : Okf P w K mg base CX0 2 "first_low_in" ["block", "start", "stop", "goal"] (sp_first_low_in K) := by
  obtain ⟨fd, FD⟩ := T.d_first_low_in
  refine ⟨⟨fd, FunD.look FD, FD.bindsN fun _ _ _ _ _ _ us hl => match us, hl with | [_, _, _, _], _ => rfl, ?_⟩, FD.kp, T.g_first_low_in⟩
  refine FunD.ok (CX := CX0) FD sc_first_low_in (len_first_low_in K) (fun cdv A outer s H vs Q E hr h => ⟨t_first_low_in K, PSs.nox ?_, rd_first_low_in K vs H Q E h⟩)
  exact (pss_cons (ps_set (i := 4) sc_first_low_in.nd rfl (.inl rfl) (pe_op op_sub (pe_op op_mul pe_int (pe_callF o_ones_in hr (by decide) (by rfl) pass0 (pa_cons (pv 0) (pa_cons (pv 1) pa_nil)))) (pv 1)))
  (pss_cons (ps_for PassesOwn.never rfl (pi_range2 (by rfl) T.b_range (pa_cons (pv 1) (pa_cons (pv 2) pa_nil))) (pg_name (i := 5) sc_first_low_in.nd rfl (.inl rfl))
  (pss_cons (ps_aug (i := 4) sc_first_low_in.nd rfl (.inl rfl) (pe_op op_sub (pe_op op_mul pe_int (pe_op op_and1 (pe_op op_shr (pv 0) (pv 5)) pe_int)) pe_int) ip_add)
  (pss_one (ps_if (pt_cmpR op_le (pv 4) (pv 3) (nomark _))
  (pss_one (ps_ret (pe_op op_add (pv 5) pe_int)))
  pss_nil))))
  (pss_one (ps_ret pe_non))))

theorem ok_first_part (T : Tx P w K mg base) (o_first_low_in : Okf P w K mg base CX0 2 "first_low_in" ["block", "start", "stop", "goal"] (sp_first_low_in K)) (o_begin_height : Okf P w K mg base CX0 1 "begin_height" ["ahead", "number"] (sp_begin_height K)) : Okf P w K mg base CX0 10 "first_part" ["tables", "look", "number", "start", "goal"] (sp_first_part K (Cal P w K mg base)) := by
  obtain ⟨fd, FD⟩ := T.d_first_part
  refine ⟨⟨fd, FunD.look FD, FD.bindsN fun _ _ _ _ _ _ us hl => match us, hl with | [_, _, _, _, _], _ => rfl, ?_⟩, FD.kp, T.g_first_part⟩
  refine FunD.ok (CX := CX0) FD sc_first_part (len_first_part K (Cal P w K mg base)) (fun cdv A outer s H vs Q E hr h => ⟨t_first_part K (Cal P w K mg base), PSs.nox ?_, rd_first_part K (Cal P w K mg base) vs H Q E h⟩)
  exact (pss_cons (ps_set (i := 5) sc_first_part.nd rfl (.inl rfl) (pe_callB (call_min2K rfl) (by rfl) T.b_min (by decide +kernel) (pa_cons (pe_gint T.i_WIDE (by rfl)) (pa_cons (pe_op op_sub (pe_ix ix_tup (pv 0) pe_int (fun _ _ => rfl)) (pe_op op_mul (pe_gint T.i_WIDE (by rfl)) (pv 2))) pa_nil))))
  (pss_cons (ps_set (i := 6) sc_first_part.nd rfl (.inl rfl) (pe_callF o_first_low_in hr (by decide) (by rfl) pass0 (pa_cons (pe_callV (k := 9) (i := 1) hr (by decide) rfl (.inl rfl) (pa_cons (pv 2) pa_nil)) (pa_cons (pv 3) (pa_cons (pv 5) (pa_cons (pe_op op_sub (pv 4) (pe_callF o_begin_height hr (by decide) (by rfl) pass0 (pa_cons (pe_ix ix_tup (pv 0) pe_int (fun _ _ => rfl)) (pa_cons (pv 2) pa_nil)))) pa_nil))))))
  (pss_cons (ps_if (pt_cmpR op_isN1 (pv 6) pe_non (nomark _))
  (pss_one (ps_ret pe_non))
  pss_nil)
  (pss_one (ps_ret (pe_op op_add (pe_op op_mul (pe_gint T.i_WIDE (by rfl)) (pv 2)) (pv 6)))))))

theorem ok_low_behind (T : Tx P w K mg base) (o_check_place : Okf P w K mg base (L2.CX P w) 2 "check_place" ["tables", "at"] (sp_check_place K)) (o_first_part : Okf P w K mg base CX0 10 "first_part" ["tables", "look", "number", "start", "goal"] (sp_first_part K (Cal P w K mg base))) (o_first_at_most : Okf P w K mg base (L2.CX P w) 11 "first_at_most" ["many", "look", "start", "goal"] (sp_first_at_most K (Cal P w K mg base))) (o_node_look : Okf P w K mg base CX0 1 "node_look" ["tables"] (sp_node_look K (Cal P w K mg base))) : Okf P w K mg base (L2.CX P w) 13 "low_behind" ["tables", "look", "at", "goal"] (sp_low_behind K (Cal P w K mg base)) := by
  obtain ⟨fd, FD⟩ := T.d_low_behind
  refine ⟨⟨fd, FunD.look FD, FD.bindsN fun _ _ _ _ _ _ us hl => match us, hl with | [_, _, _, _], _ => rfl, ?_⟩, FD.kp, T.g_low_behind⟩
  refine FunD.ok (CX := (L2.CX P w)) FD sc_low_behind (len_low_behind K (Cal P w K mg base)) (fun cdv A outer s H vs Q E hr h => ⟨t_low_behind K (Cal P w K mg base) E, ?_, rd_low_behind K (Cal P w K mg base) vs H Q E h⟩)
  exact (pss_cons (ps_expr (pe_callF o_check_place hr (by decide) (by rfl) (passX (takes_of rfl rfl rfl rfl)) (pa_cons (pv 0) (pa_cons (pv 2) pa_nil))))
  (pss_cons (ps_if (pt_cmpR op_eq (pv 2) (pe_ix ix_tup (pv 0) pe_int (fun _ _ => rfl)) (nomark _))
  (pss_one (ps_ret pe_non))
  pss_nil)
  (pss_cons (ps_set (i := 4) sc_low_behind.nd rfl (.inl rfl) (pe_op op_fdiv (pv 2) (pe_gint T.i_WIDE (by rfl))))
  (pss_cons (ps_set (i := 5) sc_low_behind.nd rfl (.inl rfl) (pe_callF o_first_part hr (by decide) (by rfl) pass0 (pa_cons (pv 0) (pa_cons (pv 1) (pa_cons (pv 4) (pa_cons (pe_op op_sub (pv 2) (pe_op op_mul (pe_gint T.i_WIDE (by rfl)) (pv 4))) (pa_cons (pv 3) pa_nil)))))))
  (Evl.pss_cut (ps_if (pt_cmpR op_isN1 (pv 5) pe_non (nomark _))
  (pss_cons (ps_set (i := 4) sc_low_behind.nd rfl (.inl rfl) (pe_callF o_first_at_most hr (by decide) (by rfl) (passX (takes_of rfl rfl rfl rfl)) (pa_cons (pe_op op_sub (pe_callB call_lenK (by rfl) T.b_len (by decide +kernel) (pa_cons (pe_ix ix_tup (pv 0) pe_int (fun _ _ => rfl)) pa_nil)) pe_int) (pa_cons (pe_callF o_node_look hr (by decide) (by rfl) pass0 (pa_cons (pv 0) pa_nil)) (pa_cons (pe_op op_add (pv 4) pe_int) (pa_cons (pv 3) pa_nil))))))
  (pss_one (ps_if (pt_cmpR op_notN1 (pv 4) pe_non (nomark _))
  (pss_one (ps_set (i := 5) sc_low_behind.nd rfl (.inl rfl) (pe_callF o_first_part hr (by decide) (by rfl) pass0 (pa_cons (pv 0) (pa_cons (pv 1) (pa_cons (pv 4) (pa_cons pe_int (pa_cons (pv 3) pa_nil))))))))
  pss_nil)))
  pss_nil)
  (pss_one (ps_ret (pv 5))))))))

theorem ok_closing (T : Tx P w K mg base) (o_bit_at : Okf P w K mg base (L2.CX P w) 11 "bit_at" ["tables", "look", "at"] (sp_bit_at K (Cal P w K mg base))) (o_low_behind : Okf P w K mg base (L2.CX P w) 13 "low_behind" ["tables", "look", "at", "goal"] (sp_low_behind K (Cal P w K mg base))) (o_height : Okf P w K mg base (L2.CX P w) 13 "height" ["tables", "look", "at"] (sp_height K (Cal P w K mg base))) : Okf P w K mg base (L2.CX P w) 15 "closing" ["tables", "look", "at"] (sp_closing K (Cal P w K mg base)) := by
  obtain ⟨fd, FD⟩ := T.d_closing
  refine ⟨⟨fd, FunD.look FD, FD.bindsN fun _ _ _ _ _ _ us hl => match us, hl with | [_, _, _], _ => rfl, ?_⟩, FD.kp, T.g_closing⟩
  refine FunD.ok (CX := (L2.CX P w)) FD sc_closing (len_closing K (Cal P w K mg base)) (fun cdv A outer s H vs Q E hr h => ⟨t_closing K (Cal P w K mg base) E, ?_, rd_closing K (Cal P w K mg base) vs H Q E h⟩)
  exact (pss_cons (ps_if (pt_cmpR op_ne (pe_callF o_bit_at hr (by decide) (by rfl) (passX (takes_of rfl rfl rfl rfl)) (pa_cons (pv 0) (pa_cons (pv 1) (pa_cons (pv 2) pa_nil)))) pe_int (nomark _))
  (pss_one (ps_rz T.x_NoNode (takes_of rfl rfl rfl rfl)))
  pss_nil)
  (pss_one (ps_ret (pe_op op_sub (pe_callF o_low_behind hr (by decide) (by rfl) (passX (takes_of rfl rfl rfl rfl)) (pa_cons (pv 0) (pa_cons (pv 1) (pa_cons (pv 2) (pa_cons (pe_callF o_height hr (by decide) (by rfl) (passX (takes_of rfl rfl rfl rfl)) (pa_cons (pv 0) (pa_cons (pv 1) (pa_cons (pv 2) pa_nil)))) pa_nil))))) pe_int))))

theorem ok_Hand_turn (T : Tx P w K mg base) (o_Hand_is_opening : Metf P w K mg base (L2.CX P w) 13 "Hand" "is_opening" ["self"] (sp_Hand_is_opening K (Cal P w K mg base))) (o_closing : Okf P w K mg base (L2.CX P w) 15 "closing" ["tables", "look", "at"] (sp_closing K (Cal P w K mg base))) (o_opening : Okf P w K mg base (L2.CX P w) 15 "opening" ["tables", "look", "at"] (sp_opening K (Cal P w K mg base))) (o_Hand_stand : Metf P w K mg base (L2.CX P w) 19 "Hand" "stand" ["self"] (sp_Hand_stand K (Cal P w K mg base))) : Metf P w K mg base (L2.CX P w) 21 "Hand" "turn" ["self"] (sp_Hand_turn K (Cal P w K mg base)) := by
  obtain ⟨fd, FD⟩ := T.d_Hand_turn
  refine ⟨⟨fd, ?_, FD.bindsN fun _ _ _ _ _ _ us hl => match us, hl with | [_], _ => rfl⟩, T.m_Hand_turn, T.c_Hand⟩
  refine FunD.ok (CX := (L2.CX P w)) FD sc_Hand_turn (len_Hand_turn K (Cal P w K mg base)) (fun cdv A outer s H vs Q E hr h => ⟨t_Hand_turn K (Cal P w K mg base) E, ?_, rd_Hand_turn K (Cal P w K mg base) vs H Q E h⟩)
  exact (Evl.pss_cut (ps_if (pt_val (pe_methC0 o_Hand_is_opening hr (by decide) (pv 0) (passX (takes_of rfl rfl rfl rfl))))
  (pss_one (ps_fldC T.c_Hand T.na_Hand_spot (pv 0) (pe_callF o_closing hr (by decide) (by rfl) (passX (takes_of rfl rfl rfl rfl)) (pa_cons (pe_fldC T.c_Hand T.na_Hand_tables (pv 0) rfl) (pa_cons (pe_fldC T.c_Hand T.na_Hand_look (pv 0) rfl) (pa_cons (pe_fldC T.c_Hand T.na_Hand_spot (pv 0) rfl) pa_nil)))) rfl))
  (pss_one (ps_fldC T.c_Hand T.na_Hand_spot (pv 0) (pe_callF o_opening hr (by decide) (by rfl) (passX (takes_of rfl rfl rfl rfl)) (pa_cons (pe_fldC T.c_Hand T.na_Hand_tables (pv 0) rfl) (pa_cons (pe_fldC T.c_Hand T.na_Hand_look (pv 0) rfl) (pa_cons (pe_fldC T.c_Hand T.na_Hand_spot (pv 0) rfl) pa_nil)))) rfl)))
  (pss_one (ps_ret (pe_methC0 o_Hand_stand hr (by decide) (pv 0) (passX (takes_of rfl rfl rfl rfl))))))

theorem ok_one_in (T : Tx P w K mg base) : Okf P w K mg base CX0 1 "one_in" ["block", "nth"] (sp_one_in K) := by
  obtain ⟨fd, FD⟩ := T.d_one_in
  refine ⟨⟨fd, FunD.look FD, FD.bindsN fun _ _ _ _ _ _ us hl => match us, hl with | [_, _], _ => rfl, ?_⟩, FD.kp, T.g_one_in⟩
  refine FunD.ok (CX := CX0) FD sc_one_in (len_one_in K) (fun cdv A outer s H vs Q E hr h => ⟨t_one_in K, PSs.nox ?_, rd_one_in K vs H Q E h⟩)
  exact (pss_cons (ps_for PassesOwn.never rfl (pi_range1 (by rfl) T.b_range (pa_cons (pe_gint T.i_WIDE (by rfl)) pa_nil)) (pg_name (i := 2) sc_one_in.nd rfl (.inl rfl))
  (pss_one (ps_if (pt_cmpR op_eq (pe_op op_and1 (pe_op op_shr (pv 0) (pv 2)) pe_int) pe_int (nomark _))
  (pss_cons (ps_if (pt_cmpR op_eq (pv 1) pe_int (nomark _))
  (pss_one (ps_ret (pv 2)))
  pss_nil)
  (pss_one (ps_aug (i := 1) sc_one_in.nd rfl (.inl rfl) pe_int ip_sub)))
  pss_nil)))
  (pss_one (ps_ret pe_non)))

theorem ok_bits_ahead (T : Tx P w K mg base) : Okf P w K mg base CX0 1 "bits_ahead" ["ahead", "number", "kind"] (sp_bits_ahead K) := by
  obtain ⟨fd, FD⟩ := T.d_bits_ahead
  refine ⟨⟨fd, FunD.look FD, FD.bindsN fun _ _ _ _ _ _ us hl => match us, hl with | [_, _, _], _ => rfl, ?_⟩, FD.kp, T.g_bits_ahead⟩
  refine FunD.ok (CX := CX0) FD sc_bits_ahead (len_bits_ahead K) (fun cdv A outer s H vs Q E hr h => ⟨t_bits_ahead K, PSs.nox ?_, rd_bits_ahead K vs H Q E h⟩)
  exact (pss_cons (ps_if (pt_cmpR op_eq (pv 2) pe_int (nomark _))
  (pss_one (ps_ret (pe_ix ix_tup (pv 0) (pv 1) (fun _ _ => rfl))))
  pss_nil)
  (pss_one (ps_ret (pe_op op_sub (pe_op op_mul (pe_gint T.i_WIDE (by rfl)) (pv 1)) (pe_ix ix_tup (pv 0) (pv 1) (fun _ _ => rfl))))))

theorem ok_block_by (T : Tx P w K mg base) (o_bits_ahead : Okf P w K mg base CX0 1 "bits_ahead" ["ahead", "number", "kind"] (sp_bits_ahead K)) : Okf P w K mg base CX0 2 "block_by" ["ahead", "nth", "kind"] (sp_block_by K) := by
  obtain ⟨fd, FD⟩ := T.d_block_by
  refine ⟨⟨fd, FunD.look FD, FD.bindsN fun _ _ _ _ _ _ us hl => match us, hl with | [_, _, _], _ => rfl, ?_⟩, FD.kp, T.g_block_by⟩
  refine FunD.ok (CX := CX0) FD sc_block_by (len_block_by K) (fun cdv A outer s H vs Q E hr h => ⟨t_block_by K, PSs.nox ?_, rd_block_by K vs H Q E h⟩)
  exact (pss_cons (ps_set (i := 3) sc_block_by.nd rfl (.inl rfl) pe_int)
  (pss_cons (ps_set (i := 4) sc_block_by.nd rfl (.inl rfl) (pe_op op_sub (pe_callB call_lenK (by rfl) T.b_len (by decide +kernel) (pa_cons (pv 0) pa_nil)) pe_int))
  (pss_cons (ps_while PassesOwn.never (pt_cmpR op_gt (pe_op op_sub (pv 4) (pv 3)) pe_int (nomark _))
  (pss_cons (ps_set (i := 5) sc_block_by.nd rfl (.inl rfl) (pe_op op_fdiv (pe_op op_add (pv 3) (pv 4)) pe_int))
  (pss_one (ps_if (pt_cmpR op_le (pe_callF o_bits_ahead hr (by decide) (by rfl) pass0 (pa_cons (pv 0) (pa_cons (pv 5) (pa_cons (pv 2) pa_nil)))) (pv 1) (nomark _))
  (pss_one (ps_set (i := 3) sc_block_by.nd rfl (.inl rfl) (pv 5)))
  (pss_one (ps_set (i := 4) sc_block_by.nd rfl (.inl rfl) (pv 5)))))))
  (pss_one (ps_ret (pv 3))))))

theorem ok_one_place (T : Tx P w K mg base) (o_block_by : Okf P w K mg base CX0 2 "block_by" ["ahead", "nth", "kind"] (sp_block_by K)) (o_one_in : Okf P w K mg base CX0 1 "one_in" ["block", "nth"] (sp_one_in K)) (o_bits_ahead : Okf P w K mg base CX0 1 "bits_ahead" ["ahead", "number", "kind"] (sp_bits_ahead K)) : Okf P w K mg base (L2.CX P w) 11 "one_place" ["tables", "look", "nth"] (sp_one_place K (Cal P w K mg base)) := by
  obtain ⟨fd, FD⟩ := T.d_one_place
  refine ⟨⟨fd, FunD.look FD, FD.bindsN fun _ _ _ _ _ _ us hl => match us, hl with | [_, _, _], _ => rfl, ?_⟩, FD.kp, T.g_one_place⟩
  refine FunD.ok (CX := (L2.CX P w)) FD sc_one_place (len_one_place K (Cal P w K mg base)) (fun cdv A outer s H vs Q E hr h => ⟨t_one_place K (Cal P w K mg base) E, ?_, rd_one_place K (Cal P w K mg base) vs H Q E h⟩)
  exact (pss_cons (ps_set (i := 3) sc_one_place.nd rfl (.inl rfl) (pe_ix ix_tup (pv 0) pe_int (fun _ _ => rfl)))
  (pss_cons (ps_if (PW.pt (pw_or (pt_cmpR op_lt (pv 2) pe_int (nomark _)) (pw_or1 (pt_cmpR op_ge (pv 2) (pe_ix ix_tup (pv 3) (pe_un un_neg pe_int) (fun _ _ => rfl)) (nomark _)))))
  (pss_one (ps_rz T.x_NoPlace (takes_of rfl rfl rfl rfl)))
  pss_nil)
  (pss_cons (ps_set (i := 4) sc_one_place.nd rfl (.inl rfl) (pe_callF o_block_by hr (by decide) (by rfl) pass0 (pa_cons (pv 3) (pa_cons (pv 2) (pa_cons pe_int pa_nil)))))
  (pss_one (ps_ret (pe_op op_add (pe_op op_mul (pe_gint T.i_WIDE (by rfl)) (pv 4)) (pe_callF o_one_in hr (by decide) (by rfl) pass0 (pa_cons (pe_callV (k := 9) (i := 1) hr (by decide) rfl (.inl rfl) (pa_cons (pv 4) pa_nil)) (pa_cons (pe_op op_sub (pv 2) (pe_callF o_bits_ahead hr (by decide) (by rfl) pass0 (pa_cons (pv 3) (pa_cons (pv 4) (pa_cons pe_int pa_nil))))) pa_nil)))))))))

theorem ok_sought (T : Tx P w K mg base) : Okf P w K mg base (L2.CX P w) 2 "sought" ["tables", "node"] (sp_sought K) := by
  obtain ⟨fd, FD⟩ := T.d_sought
  refine ⟨⟨fd, FunD.look FD, FD.bindsN fun _ _ _ _ _ _ us hl => match us, hl with | [_, _], _ => rfl, ?_⟩, FD.kp, T.g_sought⟩
  refine FunD.ok (CX := (L2.CX P w)) FD sc_sought (len_sought K) (fun cdv A outer s H vs Q E hr h => ⟨t_sought K E, ?_, rd_sought K vs H Q E h⟩)
  exact (pss_cons (ps_if (PW.pt (pw_or (pt_cmpR op_lt (pv 1) pe_int (nomark _)) (pw_or1 (pt_cmpR op_ge (pe_op op_mul pe_int (pv 1)) (pe_ix ix_tup (pv 0) pe_int (fun _ _ => rfl)) (nomark _)))))
  (pss_one (ps_rz T.x_NoNode (takes_of rfl rfl rfl rfl)))
  pss_nil)
  (pss_one (ps_ret (pv 1))))

theorem ok_place_of (T : Tx P w K mg base) (o_one_place : Okf P w K mg base (L2.CX P w) 11 "one_place" ["tables", "look", "nth"] (sp_one_place K (Cal P w K mg base))) (o_sought : Okf P w K mg base (L2.CX P w) 2 "sought" ["tables", "node"] (sp_sought K)) : Okf P w K mg base (L2.CX P w) 13 "place_of" ["tables", "look", "node"] (sp_place_of K (Cal P w K mg base)) := by
  obtain ⟨fd, FD⟩ := T.d_place_of
  refine ⟨⟨fd, FunD.look FD, FD.bindsN fun _ _ _ _ _ _ us hl => match us, hl with | [_, _, _], _ => rfl, ?_⟩, FD.kp, T.g_place_of⟩
  refine FunD.ok (CX := (L2.CX P w)) FD sc_place_of (len_place_of K (Cal P w K mg base)) (fun cdv A outer s H vs Q E hr h => ⟨t_place_of K (Cal P w K mg base) E, ?_, rd_place_of K (Cal P w K mg base) vs H Q E h⟩)
  exact (pss_one (ps_ret (pe_callF o_one_place hr (by decide) (by rfl) (passX (takes_of rfl rfl rfl rfl)) (pa_cons (pe_slice sl_tup (pv 0) po_none (po_some pe_int)) (pa_cons (pv 1) (pa_cons (pe_callF o_sought hr (by decide) (by rfl) (passX (takes_of rfl rfl rfl rfl)) (pa_cons (pv 0) (pa_cons (pv 2) pa_nil))) pa_nil))))))

theorem ok_Hand_go (T : Tx P w K mg base) (o_place_of : Okf P w K mg base (L2.CX P w) 13 "place_of" ["tables", "look", "node"] (sp_place_of K (Cal P w K mg base))) : Metf P w K mg base (L2.CX P w) 15 "Hand" "go" ["self", "node"] (sp_Hand_go K (Cal P w K mg base)) := by
  obtain ⟨fd, FD⟩ := T.d_Hand_go
  refine ⟨⟨fd, ?_, FD.bindsN fun _ _ _ _ _ _ us hl => match us, hl with | [_, _], _ => rfl⟩, T.m_Hand_go, T.c_Hand⟩
  refine FunD.ok (CX := (L2.CX P w)) FD sc_Hand_go (len_Hand_go K (Cal P w K mg base)) (fun cdv A outer s H vs Q E hr h => ⟨t_Hand_go K (Cal P w K mg base) E, ?_, rd_Hand_go K (Cal P w K mg base) vs H Q E h⟩)
  exact (pss_cons (ps_if (pt_cmpR op_isN1 (pv 1) pe_non (nomark _))
  (pss_one (ps_ret pe_bl))
  pss_nil)
  (pss_cons (ps_fldC T.c_Hand T.na_Hand_spot (pv 0) (pe_callF o_place_of hr (by decide) (by rfl) (passX (takes_of rfl rfl rfl rfl)) (pa_cons (pe_fldC T.c_Hand T.na_Hand_tables (pv 0) rfl) (pa_cons (pe_fldC T.c_Hand T.na_Hand_look (pv 0) rfl) (pa_cons (pv 1) pa_nil)))) rfl)
  (pss_one (ps_ret pe_bl))))

theorem ok_Hand_to_node (T : Tx P w K mg base) (o_Hand_go : Metf P w K mg base (L2.CX P w) 15 "Hand" "go" ["self", "node"] (sp_Hand_go K (Cal P w K mg base))) : Metf P w K mg base (L2.CX P w) 17 "Hand" "to_node" ["self", "node"] (sp_Hand_to_node K (Cal P w K mg base)) := by
  obtain ⟨fd, FD⟩ := T.d_Hand_to_node
  refine ⟨⟨fd, ?_, FD.bindsN fun _ _ _ _ _ _ us hl => match us, hl with | [_, _], _ => rfl⟩, T.m_Hand_to_node, T.c_Hand⟩
  refine FunD.ok (CX := (L2.CX P w)) FD sc_Hand_to_node (len_Hand_to_node K (Cal P w K mg base)) (fun cdv A outer s H vs Q E hr h => ⟨t_Hand_to_node K (Cal P w K mg base) E, ?_, rd_Hand_to_node K (Cal P w K mg base) vs H Q E h⟩)
  exact (pss_one (ps_ret (pe_methC o_Hand_go hr (by decide) (pv 0) (passX (takes_of rfl rfl rfl rfl)) (pa_cons (pv 1) pa_nil))))

theorem ok_law_refused (T : Tx P w K mg base) (o_Hand_to_node : Metf P w K mg base (L2.CX P w) 17 "Hand" "to_node" ["self", "node"] (sp_Hand_to_node K (Cal P w K mg base))) : Okf P w K mg base CX0 18 "_law_refused" ["_law_hand", "_law_node"] (sp_law_refused K (Cal P w K mg base)) := by
  obtain ⟨fd, FD⟩ := T.d_law_refused
  refine ⟨⟨fd, FunD.look FD, FD.bindsN fun _ _ _ _ _ _ us hl => match us, hl with | [_, _], _ => rfl, ?_⟩, FD.kp, T.g_law_refused⟩
  refine FunD.ok (CX := CX0) FD sc_law_refused (len_law_refused K (Cal P w K mg base)) (fun cdv A outer s H vs Q E hr h => ⟨t_law_refused K (Cal P w K mg base), PSs.nox ?_, rd_law_refused K (Cal P w K mg base) T.fx vs H Q E h⟩)
  exact (pss_cons (ps_set (i := 2) sc_law_refused.nd rfl (.inl rfl) (pe_lst pa_nil))
  (pss_cons (ps_try_as (i := 3) (tb := fun W => (tDrop (tMethCS K "Hand" "to_node" (sp_Hand_to_node K (Cal P w K mg base)) (WE W) (tVar 0) (tCons (tVar 1) tNil)))) (ts := fun a cls d => (tSeq (tAsg (tCB (rIsXT K cls d a) (tCons (tVar 3) (tCons (tTup (tCons (tC (.ref (He.ga K "TooMany"))) (tCons (tC (.ref (He.ga K "NoBit"))) (tCons (tC (.ref (He.ga K "NoPlace"))) (tCons (tC (.ref (He.ga K "NoTree"))) (tCons (tC (.ref (He.ga K "NoSign"))) (tCons (tC (.ref (He.ga K "NoWord"))) (tCons (tC (.ref (He.ga K "Twice"))) (tCons (tC (.ref (He.ga K "NoOctets"))) tNil))))))))) tNil))) (gName 4))
  (tAsg (tLst (tCons (tCB (rIsX K cls d a) (tCons (tVar 3) (tCons (tC (.ref (He.ga K "WoodError"))) tNil))) (tCons (tCB (rIsX K cls d a) (tCons (tVar 3) (tCons (tC (.ty "ValueError")) tNil))) (tCons (tVar 4) tNil)))) (gName 2)))) (Wout := (fun _ _ _ _ => False)) rfl rfl sc_law_refused.nd rfl rfl ⟨rfl, by decide, .inl T.g_NoNode⟩ takes0 (fun W pn xe tk po => (pss_one (ps_expr (pe_methCS o_Hand_to_node hr (by decide) (pv 0) tk (pa_cons (pv 1) pa_nil))))) (fun a oe cls d pn hz hf => (pss_cons (ps_set (i := 4) sc_law_refused.nd rfl (.inl rfl) (pe_callB (call_isXT hz hf) (by rfl) T.b_isinstance (by decide +kernel) (pa_cons (pv 3) (pa_cons (pe_tup (pa_cons (pe_glob (by rfl) T.g_TooMany rfl) (pa_cons (pe_glob (by rfl) T.g_NoBit rfl) (pa_cons (pe_glob (by rfl) T.g_NoPlace rfl) (pa_cons (pe_glob (by rfl) T.g_NoTree rfl) (pa_cons (pe_glob (by rfl) T.g_NoSign rfl) (pa_cons (pe_glob (by rfl) T.g_NoWord rfl) (pa_cons (pe_glob (by rfl) T.g_Twice rfl) (pa_cons (pe_glob (by rfl) T.g_NoOctets rfl) pa_nil))))))))) pa_nil))))
  (pss_one (ps_set (i := 2) sc_law_refused.nd rfl (.inl rfl) (pe_lst (pa_cons (pe_callB (call_isX hz hf) (by rfl) T.b_isinstance (by decide +kernel) (pa_cons (pv 3) (pa_cons (pe_glob (by rfl) T.g_WoodError rfl) pa_nil))) (pa_cons (pe_callB (call_isX hz hf) (by rfl) T.b_isinstance (by decide +kernel) (pa_cons (pv 3) (pa_cons (pe_bltn (v := .ty "ValueError") (by rfl) T.b_ValueError (by decide +kernel) rfl) pa_nil))) (pa_cons (pv 4) pa_nil)))))))))
  (pss_one (ps_ret (pe_cmpR (op_eqD hr.units) (pv 2) (pe_lst (pa_cons pe_bl (pa_cons pe_bl (pa_cons pe_bl pa_nil)))) (nomark _))))))

theorem ok_law_done (T : Tx P w K mg base) (o_Hand_step : Metf P w K mg base (L2.CX P w) 21 "Hand" "step" ["self"] (sp_Hand_step K (Cal P w K mg base))) (o_Hand_step_back : Metf P w K mg base (L2.CX P w) 21 "Hand" "step_back" ["self"] (sp_Hand_step_back K (Cal P w K mg base))) (o_Hand_turn : Metf P w K mg base (L2.CX P w) 21 "Hand" "turn" ["self"] (sp_Hand_turn K (Cal P w K mg base))) (o_Hand_to_node : Metf P w K mg base (L2.CX P w) 17 "Hand" "to_node" ["self", "node"] (sp_Hand_to_node K (Cal P w K mg base))) (o_law_refused : Okf P w K mg base CX0 18 "_law_refused" ["_law_hand", "_law_node"] (sp_law_refused K (Cal P w K mg base))) (o_Hand_node : Metf P w K mg base (L2.CX P w) 17 "Hand" "node" ["self"] (sp_Hand_node K (Cal P w K mg base))) (o_Hand_is_opening : Metf P w K mg base (L2.CX P w) 13 "Hand" "is_opening" ["self"] (sp_Hand_is_opening K (Cal P w K mg base))) : Okf P w K mg base CX0 22 "_law_done" ["_law_hand", "_law_row", "_law_spot", "_law_number", "_law_far"] (sp_law_done K (Cal P w K mg base)) := by
  obtain ⟨fd, FD⟩ := T.d_law_done
  refine ⟨⟨fd, FunD.look FD, FD.bindsN fun _ _ _ _ _ _ us hl => match us, hl with | [_, _, _, _, _], _ => rfl, ?_⟩, FD.kp, T.g_law_done⟩
  refine FunD.ok (CX := CX0) FD sc_law_done (len_law_done K (Cal P w K mg base)) (fun cdv A outer s H vs Q E hr h => ⟨t_law_done K (Cal P w K mg base), PSs.nox ?_, rd_law_done K (Cal P w K mg base) vs H Q E h⟩)
  exact (pss_cons (ps_set (i := 5) sc_law_done.nd rfl (.inl rfl) (pe_op op_fdiv (pe_callB call_lenK (by rfl) T.b_len (by decide +kernel) (pa_cons (pv 1) pa_nil)) pe_int))
  (pss_cons (ps_set (i := 6) sc_law_done.nd rfl (.inl rfl) (pe_op op_mod (pv 3) pe_int))
  (Evl.pss_cut (ps_if (pt_cmpR op_lt (pv 6) pe_int (nomark _))
  (pss_cons (ps_set (i := 7) sc_law_done.nd rfl (.inl rfl) (pe_methC0 o_Hand_step hr (by decide) (pv 0) passL))
  (pss_one (ps_set (i := 2) sc_law_done.nd rfl (.inl rfl) (pe_op op_mod (pe_op op_add (pv 2) pe_int) (pe_callB call_lenK (by rfl) T.b_len (by decide +kernel) (pa_cons (pv 1) pa_nil))))))
  (pss_one (ps_if (pt_cmpR op_eq (pv 6) pe_int (nomark _))
  (pss_cons (ps_set (i := 7) sc_law_done.nd rfl (.inl rfl) (pe_methC0 o_Hand_step_back hr (by decide) (pv 0) passL))
  (pss_one (ps_set (i := 2) sc_law_done.nd rfl (.inl rfl) (pe_op op_mod (pe_op op_sub (pv 2) pe_int) (pe_callB call_lenK (by rfl) T.b_len (by decide +kernel) (pa_cons (pv 1) pa_nil))))))
  (pss_one (ps_if (pt_cmpR op_lt (pv 6) pe_int (nomark _))
  (pss_cons (ps_set (i := 7) sc_law_done.nd rfl (.inl rfl) (pe_methC0 o_Hand_turn hr (by decide) (pv 0) passL))
  (pss_one (ps_set (i := 2) sc_law_done.nd rfl (.inl rfl) (pe_bm PySem.F.plainAttrs_list PySem.F.slot_list_index PySem.F.type_list_index (mt_indexD (room65 hr)) (pv 1) (pa_cons (pe_tup (pa_cons (pe_ix ix_tup (pe_ix ix_list (pv 1) (pv 2) (fun _ _ => rfl)) pe_int (fun _ _ => rfl)) (pa_cons (pe_not (pe_ix ix_tup (pe_ix ix_list (pv 1) (pv 2) (fun _ _ => rfl)) pe_int (fun _ _ => rfl))) pa_nil))) pa_nil)))))
  (pss_one (ps_if (pt_cmpR op_eq (pv 6) pe_int (nomark _))
  (pss_cons (ps_expr (pe_methC o_Hand_to_node hr (by decide) (pv 0) passL (pa_cons (pe_op op_mod (pe_op op_fdiv (pv 3) pe_int) (pv 5)) pa_nil)))
  (pss_cons (ps_set (i := 2) sc_law_done.nd rfl (.inl rfl) (pe_bm PySem.F.plainAttrs_list PySem.F.slot_list_index PySem.F.type_list_index (mt_indexD (room65 hr)) (pv 1) (pa_cons (pe_tup (pa_cons (pe_op op_mod (pe_op op_fdiv (pv 3) pe_int) (pv 5)) (pa_cons pe_bl pa_nil))) pa_nil)))
  (pss_one (ps_set (i := 7) sc_law_done.nd rfl (.inl rfl) (pe_ix ix_list (pv 1) (pv 2) (fun _ _ => rfl))))))
  (pss_cons (ps_if (pt_not (pt_val (pe_callF o_law_refused hr (by decide) (by rfl) pass0 (pa_cons (pv 0) (pa_cons (pe_ix ix_list (pe_lst (pa_cons (pe_op op_sub pe_int (pv 4)) (pa_cons (pe_op op_add (pe_op op_sub (pv 5) pe_int) (pv 4)) pa_nil))) (pe_op op_sub (pv 6) pe_int) (fun _ _ => rfl)) pa_nil)))))
  (pss_one (ps_ret (pe_un un_neg pe_int)))
  pss_nil)
  (pss_cons (ps_if (pt_cmpR (op_neD hr.units) (pe_tup (pa_cons (pe_methC0 o_Hand_node hr (by decide) (pv 0) passL) (pa_cons (pe_methC0 o_Hand_is_opening hr (by decide) (pv 0) passL) pa_nil))) (pe_ix ix_list (pv 1) (pv 2) (fun _ _ => rfl)) (nomark _))
  (pss_one (ps_ret (pe_un un_neg pe_int)))
  pss_nil)
  (Evl.pss_cut (ps_if (pt_cmpR op_eq (pe_op op_mod (pe_op op_fdiv (pv 3) pe_int) pe_int) pe_int (nomark _))
  (pss_cons (ps_if (pt_cmpR op_notBl (pe_methC o_Hand_to_node hr (by decide) (pv 0) passL (pa_cons (pe_op op_sub (pv 5) pe_int) pa_nil)) pe_bl (nomark _))
  (pss_one (ps_ret (pe_un un_neg pe_int)))
  pss_nil)
  (pss_one (ps_set (i := 2) sc_law_done.nd rfl (.inl rfl) (pe_bm PySem.F.plainAttrs_list PySem.F.slot_list_index PySem.F.type_list_index (mt_indexD (room65 hr)) (pv 1) (pa_cons (pe_tup (pa_cons (pe_op op_sub (pv 5) pe_int) (pa_cons pe_bl pa_nil))) pa_nil)))))
  pss_nil)
  (pss_one (ps_set (i := 7) sc_law_done.nd rfl (.inl rfl) (pe_ix ix_list (pv 1) (pv 2) (fun _ _ => rfl))))))))))))))
  (pss_cons (ps_if (pt_cmpR (op_neD hr.units) (pv 7) (pe_ix ix_list (pv 1) (pv 2) (fun _ _ => rfl)) (nomark _))
  (pss_one (ps_ret (pe_un un_neg pe_int)))
  pss_nil)
  (pss_one (ps_ret (pv 2)))))))

theorem ok_law_stand (T : Tx P w K mg base) (o_Hand_node : Metf P w K mg base (L2.CX P w) 17 "Hand" "node" ["self"] (sp_Hand_node K (Cal P w K mg base))) (o_Hand_is_opening : Metf P w K mg base (L2.CX P w) 13 "Hand" "is_opening" ["self"] (sp_Hand_is_opening K (Cal P w K mg base))) : Okf P w K mg base CX0 18 "_law_stand" ["_law_hand", "_law_first"] (sp_law_stand K (Cal P w K mg base)) := by
  obtain ⟨fd, FD⟩ := T.d_law_stand
  refine ⟨⟨fd, FunD.look FD, FD.bindsN fun _ _ _ _ _ _ us hl => match us, hl with | [_, _], _ => rfl, ?_⟩, FD.kp, T.g_law_stand⟩
  refine FunD.ok (CX := CX0) FD sc_law_stand (len_law_stand K (Cal P w K mg base)) (fun cdv A outer s H vs Q E hr h => ⟨t_law_stand K (Cal P w K mg base), PSs.nox ?_, rd_law_stand K (Cal P w K mg base) vs H Q E h⟩)
  exact (pss_cons (ps_if (pt_cmpR op_eq (pv 1) pe_int (nomark _))
  (pss_cons (ps_set (i := 2) sc_law_stand.nd rfl (.inl rfl) (pe_methC0 o_Hand_node hr (by decide) (pv 0) passL))
  (pss_one (ps_ret (pe_tup (pa_cons (pv 2) (pa_cons (pe_methC0 o_Hand_is_opening hr (by decide) (pv 0) passL) pa_nil))))))
  pss_nil)
  (pss_cons (ps_set (i := 3) sc_law_stand.nd rfl (.inl rfl) (pe_methC0 o_Hand_is_opening hr (by decide) (pv 0) passL))
  (pss_one (ps_ret (pe_tup (pa_cons (pe_methC0 o_Hand_node hr (by decide) (pv 0) passL) (pa_cons (pv 3) pa_nil)))))))

theorem ok_law (T : Tx P w K mg base) (o_law_depths : Okf P w K mg base CX0 1 "_law_depths" ["_law_cells", "_law_most"] (sp_law_depths K)) (o_law_brackets : Okf P w K mg base CX0 1 "_law_brackets" ["_law_depths_here"] (sp_law_brackets K)) (o_kept_tree : Okf P w K mg base (L2.CX P w) 8 "kept_tree" ["depths"] (sp_kept_tree K)) (o_Hand_init : Metf P w K mg base CX0 1 "Hand" "__init__" ["self", "tables", "look"] (sp_Hand_init K)) (o_law_look : Okf P w K mg base CX0 1 "_law_look" ["_law_blocks", "_law_seen"] (sp_law_look K (Cal P w K mg base))) (o_law_done : Okf P w K mg base CX0 22 "_law_done" ["_law_hand", "_law_row", "_law_spot", "_law_number", "_law_far"] (sp_law_done K (Cal P w K mg base))) (o_law_stand : Okf P w K mg base CX0 18 "_law_stand" ["_law_hand", "_law_first"] (sp_law_stand K (Cal P w K mg base))) (o_law_there : Okf P w K mg base CX0 1 "_law_there" ["_law_seen", "_law_size"] (sp_law_there K)) : Okf P w K mg base CX0 23 "law" ["_law_script"] (sp_law K) := by
  obtain ⟨fd, FD⟩ := T.d_law
  refine ⟨⟨fd, FunD.look FD, FD.bindsN fun _ _ _ _ _ _ us hl => match us, hl with | [_], _ => rfl, ?_⟩, FD.kp, T.g_law⟩
  refine FunD.ok (CX := CX0) FD sc_law (len_law K) (fun cdv A outer s H vs Q E hr h => ⟨t_law K (Cal P w K mg base), PSs.nox ?_, rd_law K (Cal P w K mg base) vs H Q E h⟩)
  exact (pss_cons (ps_set (i := 1) sc_law.nd rfl (.inl rfl) (pe_lst (pa_cons (pe_callF o_law_depths hr (by decide) (by rfl) pass0 (pa_cons (pe_slice sl_list (pv 0) po_none (po_some pe_int)) (pa_cons pe_int pa_nil))) (pa_cons (pe_callF o_law_depths hr (by decide) (by rfl) pass0 (pa_cons (pe_revL (pe_slice sl_list (pv 0) po_none (po_some pe_int))) (pa_cons pe_int pa_nil))) pa_nil))))
  (pss_cons (ps_set (i := 2) sc_law.nd rfl (.inl rfl) (pe_lst (pa_cons (pe_callF o_law_brackets hr (by decide) (by rfl) pass0 (pa_cons (pe_ix ix_list (pv 1) pe_int (fun _ _ => rfl)) pa_nil)) (pa_cons (pe_callF o_law_brackets hr (by decide) (by rfl) pass0 (pa_cons (pe_ix ix_list (pv 1) pe_int (fun _ _ => rfl)) pa_nil)) pa_nil))))
  (pss_cons (ps_set (i := 3) sc_law.nd rfl (.inr rfl) (pe_lst (pa_cons (pe_callF o_kept_tree hr (by decide) (by rfl) passL (pa_cons (pe_callTy call_listK (by rfl) T.b_list (by decide +kernel) (pa_cons (pe_ix ix_list (pv 1) pe_int (fun _ _ => rfl)) pa_nil)) pa_nil)) (pa_cons (pe_callF o_kept_tree hr (by decide) (by rfl) passL (pa_cons (pe_callTy call_listK (by rfl) T.b_list (by decide +kernel) (pa_cons (pe_ix ix_list (pv 1) pe_int (fun _ _ => rfl)) pa_nil)) pa_nil)) pa_nil))))
  (pss_cons (ps_set (i := 4) sc_law.nd rfl (.inr rfl) (pe_lst (pa_cons (pe_lst pa_nil) (pa_cons (pe_lst pa_nil) pa_nil))))
  (pss_cons (ps_setLc (i := 5) (own := [("_law_k", 6)]) (g := (gName 6)) (tt := tYes) rfl sc_law.nd rfl rfl (sw_true rfl rfl rfl (by decide +kernel)) (pi_range1 (by rfl) T.b_range (pa_cons pe_int pa_nil)) (blkOk_by (N := ["_law_script", "_law_trees", "_law_rows", "_law_kept", "_law_seen", "_law_hands", "_law_k", "_law_spots", "_law_cell", "_law_number", "_law_far", "_law_other"]) (sc := defScope s_law) (own := [("_law_k", 6)]) (by decide +kernel)) (fun _ _ _ _ _ => (pg_name (i := 6) sc_law.nd rfl (.inl rfl))) (fun _ _ _ _ _ => pts_nil) (fun _ _ _ _ _ => (pe_makeC T.mk_Hand T.g_Hand o_Hand_init hr (by decide) (by rfl) pass0 (pa_cons (pe_ix ix_tup (pe_ix ix_list (pv 3) (pe_op op_fdiv (pv 6) pe_int) (fun _ _ => rfl)) pe_int (fun _ _ => rfl)) (pa_cons (pe_callF o_law_look hr (by decide) (by rfl) pass0 (pa_cons (pe_ix ix_tup (pe_ix ix_list (pv 3) (pe_op op_fdiv (pv 6) pe_int) (fun _ _ => rfl)) pe_int (fun _ _ => rfl)) (pa_cons (pe_ix ix_list (pv 4) (pe_op op_fdiv (pv 6) pe_int) (fun _ _ => rfl)) pa_nil))) pa_nil)))))
  (pss_cons (ps_set (i := 7) sc_law.nd rfl (.inl rfl) (pe_lst (pa_cons pe_int (pa_cons pe_int (pa_cons pe_int pa_nil)))))
  (pss_cons (ps_for PassesOwn.never rfl (pi_list (pe_slice sl_list (pv 0) po_none (po_some pe_int))) (pg_name (i := 8) sc_law.nd rfl (.inl rfl))
  (pss_cons (ps_set (i := 9) sc_law.nd rfl (.inl rfl) (pe_op op_mod (pe_op op_mul (pv 8) pe_int) pe_int))
  (pss_cons (ps_set (i := 6) sc_law.nd rfl (.inl rfl) (pe_op op_mod (pe_op op_fdiv (pv 9) pe_int) pe_int))
  (pss_cons (ps_set (i := 10) sc_law.nd rfl (.inl rfl) (pe_op op_add pe_int (pe_op op_mod (pv 8) (pe_cst (pe_op op_pow pe_int pe_int) fun _ _ _ h => ⟨_, _, rfl, rfl, ⟨by decide, by decide, by decide⟩, h⟩))))
  (pss_cons (ps_asg (pe_callF o_law_done hr (by decide) (by rfl) pass0 (pa_cons (pe_ix ix_list (pv 5) (pv 6) (fun _ _ => rfl)) (pa_cons (pe_ix ix_list (pv 2) (pe_op op_fdiv (pv 6) pe_int) (fun _ _ => rfl)) (pa_cons (pe_ix ix_list (pv 7) (pv 6) (fun _ _ => rfl)) (pa_cons (pv 9) (pa_cons (pv 10) pa_nil)))))) (pg_sub (pv 7) (pv 6) set_list))
  (pss_cons (ps_if (pt_cmpR op_lt (pe_ix ix_list (pv 7) (pv 6) (fun _ _ => rfl)) pe_int (nomark _))
  (pss_one (ps_ret pe_bl))
  pss_nil)
  (pss_one (ps_for PassesOwn.never rfl (pi_list (pe_lst (pa_cons (pe_op op_mod (pe_op op_add (pv 6) pe_int) pe_int) (pa_cons (pv 6) (pa_cons (pe_op op_mod (pe_op op_add (pv 6) pe_int) pe_int) pa_nil))))) (pg_name (i := 11) sc_law.nd rfl (.inl rfl))
  (pss_one (ps_if (pt_cmpR (op_neD hr.units) (pe_callF o_law_stand hr (by decide) (by rfl) pass0 (pa_cons (pe_ix ix_list (pv 5) (pv 11) (fun _ _ => rfl)) (pa_cons (pe_op op_mod (pe_op op_fdiv (pv 9) pe_int) pe_int) pa_nil))) (pe_ix ix_list (pe_ix ix_list (pv 2) (pe_op op_fdiv (pv 11) pe_int) (fun _ _ => rfl)) (pe_ix ix_list (pv 7) (pv 11) (fun _ _ => rfl)) (fun _ _ => rfl)) (nomark _))
  (pss_one (ps_ret pe_bl))
  pss_nil))))))))))
  (pss_one (ps_ret (pe_and (pe_callF o_law_there hr (by decide) (by rfl) pass0 (pa_cons (pe_ix ix_list (pv 4) pe_int (fun _ _ => rfl)) (pa_cons (pe_callB call_lenK (by rfl) T.b_len (by decide +kernel) (pa_cons (pe_ix ix_tup (pe_ix ix_list (pv 3) pe_int (fun _ _ => rfl)) pe_int (fun _ _ => rfl)) pa_nil)) pa_nil))) (pe_one (pe_callF o_law_there hr (by decide) (by rfl) pass0 (pa_cons (pe_ix ix_list (pv 4) pe_int (fun _ _ => rfl)) (pa_cons (pe_callB call_lenK (by rfl) T.b_len (by decide +kernel) (pa_cons (pe_ix ix_tup (pe_ix ix_list (pv 3) pe_int (fun _ _ => rfl)) pe_int (fun _ _ => rfl)) pa_nil)) pa_nil))))))))))))))
end
def dd_Hand_init : He.DefD := ⟨("Hand", some "__init__"), "__init__", "Hand.__init__", defArgs s_Hand_init, defBody s_Hand_init, defScope s_Hand_init, [], []⟩
def dd_low_in : He.DefD := ⟨("low_in", none), "low_in", "low_in", defArgs s_low_in, defBody s_low_in, defScope s_low_in, [], []⟩
def dd_size_of : He.DefD := ⟨("size_of", none), "size_of", "size_of", defArgs s_size_of, defBody s_size_of, defScope s_size_of, [], []⟩
def dd_lesser_of : He.DefD := ⟨("lesser_of", none), "lesser_of", "lesser_of", defArgs s_lesser_of, defBody s_lesser_of, defScope s_lesser_of, [], []⟩
def dd_heap_of : He.DefD := ⟨("heap_of", none), "heap_of", "heap_of", defArgs s_heap_of, defBody s_heap_of, defScope s_heap_of, [], []⟩
def dd_packed : He.DefD := ⟨("packed", none), "packed", "packed", defArgs s_packed, defBody s_packed, defScope s_packed, [], []⟩
def dd_ones_in : He.DefD := ⟨("ones_in", none), "ones_in", "ones_in", defArgs s_ones_in, defBody s_ones_in, defScope s_ones_in, [], []⟩
def dd_ones_table : He.DefD := ⟨("ones_table", none), "ones_table", "ones_table", defArgs s_ones_table, defBody s_ones_table, defScope s_ones_table, [], []⟩
def dd_kept_row : He.DefD := ⟨("kept_row", none), "kept_row", "kept_row", defArgs s_kept_row, defBody s_kept_row, defScope s_kept_row, [], []⟩
def dd_is_tree : He.DefD := ⟨("is_tree", none), "is_tree", "is_tree", defArgs s_is_tree, defBody s_is_tree, defScope s_is_tree, [], []⟩
def dd_begin_height : He.DefD := ⟨("begin_height", none), "begin_height", "begin_height", defArgs s_begin_height, defBody s_begin_height, defScope s_begin_height, [], []⟩
def dd_kept_brackets : He.DefD := ⟨("kept_brackets", none), "kept_brackets", "kept_brackets", defArgs s_kept_brackets, defBody s_kept_brackets, defScope s_kept_brackets, [], []⟩
def dd_brackets_of : He.DefD := ⟨("brackets_of", none), "brackets_of", "brackets_of", defArgs s_brackets_of, defBody s_brackets_of, defScope s_brackets_of, [], []⟩
def dd_kept_tree : He.DefD := ⟨("kept_tree", none), "kept_tree", "kept_tree", defArgs s_kept_tree, defBody s_kept_tree, defScope s_kept_tree, [], []⟩
def dd_law_depths : He.DefD := ⟨("_law_depths", none), "_law_depths", "_law_depths", defArgs s_law_depths, defBody s_law_depths, defScope s_law_depths, [], []⟩
def dd_law_brackets : He.DefD := ⟨("_law_brackets", none), "_law_brackets", "_law_brackets", defArgs s_law_brackets, defBody s_law_brackets, defScope s_law_brackets, [], []⟩
def dd_law_look : He.DefD := ⟨("_law_look", none), "_law_look", "_law_look", defArgs s_law_look, defBody s_law_look, defScope s_law_look, [], []⟩
def dd_law_there : He.DefD := ⟨("_law_there", none), "_law_there", "_law_there", defArgs s_law_there, defBody s_law_there, defScope s_law_there, [], []⟩
def dd_bit_at : He.DefD := ⟨("bit_at", none), "bit_at", "bit_at", defArgs s_bit_at, defBody s_bit_at, defScope s_bit_at, [], []⟩
def dd_Hand_is_opening : He.DefD := ⟨("Hand", some "is_opening"), "is_opening", "Hand.is_opening", defArgs s_Hand_is_opening, defBody s_Hand_is_opening, defScope s_Hand_is_opening, [], []⟩
def dd_ones_at : He.DefD := ⟨("ones_at", none), "ones_at", "ones_at", defArgs s_ones_at, defBody s_ones_at, defScope s_ones_at, [], []⟩
def dd_height : He.DefD := ⟨("height", none), "height", "height", defArgs s_height, defBody s_height, defScope s_height, [], []⟩
def dd_cover : He.DefD := ⟨("cover", none), "cover", "cover", defArgs s_cover, defBody s_cover, defScope s_cover, [], []⟩
def dd_within_goal : He.DefD := ⟨("within_goal", none), "within_goal", "within_goal", defArgs s_within_goal, defBody s_within_goal, defScope s_within_goal, [], []⟩
def dd_last_at_most : He.DefD := ⟨("last_at_most", none), "last_at_most", "last_at_most", defArgs s_last_at_most, defBody s_last_at_most, defScope s_last_at_most, [], []⟩
def dd_node_look : He.DefD := ⟨("node_look", none), "node_look", "node_look", defArgs s_node_look, defBody s_node_look, defScope s_node_look, [], []⟩
def dd_check_place : He.DefD := ⟨("check_place", none), "check_place", "check_place", defArgs s_check_place, defBody s_check_place, defScope s_check_place, [], []⟩
def dd_last_low_in : He.DefD := ⟨("last_low_in", none), "last_low_in", "last_low_in", defArgs s_last_low_in, defBody s_last_low_in, defScope s_last_low_in, [], []⟩
def dd_last_part : He.DefD := ⟨("last_part", none), "last_part", "last_part", defArgs s_last_part, defBody s_last_part, defScope s_last_part, [], []⟩
def dd_low_ahead : He.DefD := ⟨("low_ahead", none), "low_ahead", "low_ahead", defArgs s_low_ahead, defBody s_low_ahead, defScope s_low_ahead, [], []⟩
def dd_opening : He.DefD := ⟨("opening", none), "opening", "opening", defArgs s_opening, defBody s_opening, defScope s_opening, [], []⟩
def dd_Hand_node : He.DefD := ⟨("Hand", some "node"), "node", "Hand.node", defArgs s_Hand_node, defBody s_Hand_node, defScope s_Hand_node, [], []⟩
def dd_Hand_stand : He.DefD := ⟨("Hand", some "stand"), "stand", "Hand.stand", defArgs s_Hand_stand, defBody s_Hand_stand, defScope s_Hand_stand, [], []⟩
def dd_Hand_step : He.DefD := ⟨("Hand", some "step"), "step", "Hand.step", defArgs s_Hand_step, defBody s_Hand_step, defScope s_Hand_step, [], []⟩
def dd_Hand_step_back : He.DefD := ⟨("Hand", some "step_back"), "step_back", "Hand.step_back", defArgs s_Hand_step_back, defBody s_Hand_step_back, defScope s_Hand_step_back, [], []⟩
def dd_first_at_most : He.DefD := ⟨("first_at_most", none), "first_at_most", "first_at_most", defArgs s_first_at_most, defBody s_first_at_most, defScope s_first_at_most, [], []⟩
def dd_first_low_in : He.DefD := ⟨("first_low_in", none), "first_low_in", "first_low_in", defArgs s_first_low_in, defBody s_first_low_in, defScope s_first_low_in, [], []⟩
def dd_first_part : He.DefD := ⟨("first_part", none), "first_part", "first_part", defArgs s_first_part, defBody s_first_part, defScope s_first_part, [], []⟩
def dd_low_behind : He.DefD := ⟨("low_behind", none), "low_behind", "low_behind", defArgs s_low_behind, defBody s_low_behind, defScope s_low_behind, [], []⟩
def dd_closing : He.DefD := ⟨("closing", none), "closing", "closing", defArgs s_closing, defBody s_closing, defScope s_closing, [], []⟩
def dd_Hand_turn : He.DefD := ⟨("Hand", some "turn"), "turn", "Hand.turn", defArgs s_Hand_turn, defBody s_Hand_turn, defScope s_Hand_turn, [], []⟩
def dd_one_in : He.DefD := ⟨("one_in", none), "one_in", "one_in", defArgs s_one_in, defBody s_one_in, defScope s_one_in, [], []⟩
def dd_bits_ahead : He.DefD := ⟨("bits_ahead", none), "bits_ahead", "bits_ahead", defArgs s_bits_ahead, defBody s_bits_ahead, defScope s_bits_ahead, [], []⟩
def dd_block_by : He.DefD := ⟨("block_by", none), "block_by", "block_by", defArgs s_block_by, defBody s_block_by, defScope s_block_by, [], []⟩
def dd_one_place : He.DefD := ⟨("one_place", none), "one_place", "one_place", defArgs s_one_place, defBody s_one_place, defScope s_one_place, [], []⟩
def dd_sought : He.DefD := ⟨("sought", none), "sought", "sought", defArgs s_sought, defBody s_sought, defScope s_sought, [], []⟩
def dd_place_of : He.DefD := ⟨("place_of", none), "place_of", "place_of", defArgs s_place_of, defBody s_place_of, defScope s_place_of, [], []⟩
def dd_Hand_go : He.DefD := ⟨("Hand", some "go"), "go", "Hand.go", defArgs s_Hand_go, defBody s_Hand_go, defScope s_Hand_go, [], []⟩
def dd_Hand_to_node : He.DefD := ⟨("Hand", some "to_node"), "to_node", "Hand.to_node", defArgs s_Hand_to_node, defBody s_Hand_to_node, defScope s_Hand_to_node, [], []⟩
def dd_law_refused : He.DefD := ⟨("_law_refused", none), "_law_refused", "_law_refused", defArgs s_law_refused, defBody s_law_refused, defScope s_law_refused, [], []⟩
def dd_law_done : He.DefD := ⟨("_law_done", none), "_law_done", "_law_done", defArgs s_law_done, defBody s_law_done, defScope s_law_done, [], []⟩
def dd_law_stand : He.DefD := ⟨("_law_stand", none), "_law_stand", "_law_stand", defArgs s_law_stand, defBody s_law_stand, defScope s_law_stand, [], []⟩
def dd_law : He.DefD := ⟨("law", none), "law", "law", defArgs s_law, defBody s_law, defScope s_law, [], []⟩
def fnL : List He.DefD := [dd_Hand_init, dd_low_in, dd_size_of, dd_lesser_of, dd_heap_of, dd_packed, dd_ones_in, dd_ones_table, dd_kept_row, dd_is_tree, dd_begin_height, dd_kept_brackets, dd_brackets_of, dd_kept_tree, dd_law_depths, dd_law_brackets, dd_law_look, dd_law_there, dd_bit_at, dd_Hand_is_opening, dd_ones_at, dd_height, dd_cover, dd_within_goal, dd_last_at_most, dd_node_look, dd_check_place, dd_last_low_in, dd_last_part, dd_low_ahead, dd_opening, dd_Hand_node, dd_Hand_stand, dd_Hand_step, dd_Hand_step_back, dd_first_at_most, dd_first_low_in, dd_first_part, dd_low_behind, dd_closing, dd_Hand_turn, dd_one_in, dd_bits_ahead, dd_block_by, dd_one_place, dd_sought, dd_place_of, dd_Hand_go, dd_Hand_to_node, dd_law_refused, dd_law_done, dd_law_stand, dd_law]
def fxL : List Fx := [.excC "NoBit", .kitT "NoBit" "ValueError" true, .kit "NoBit" "NoBit" true, .exm "NoBit" "NoBit" true, .kit "NoBit" "NoNode" false, .exm "NoBit" "NoNode" false, .kit "NoBit" "NoOctets" false, .exm "NoBit" "NoOctets" false, .kit "NoBit" "NoPlace" false, .exm "NoBit" "NoPlace" false, .kit "NoBit" "NoSign" false, .exm "NoBit" "NoSign" false, .kit "NoBit" "NoTree" false, .exm "NoBit" "NoTree" false, .kit "NoBit" "NoWord" false, .exm "NoBit" "NoWord" false, .kit "NoBit" "TooMany" false, .exm "NoBit" "TooMany" false, .kit "NoBit" "Twice" false, .exm "NoBit" "Twice" false, .kit "NoBit" "WoodError" true, .exm "NoBit" "WoodError" true, .excC "NoNode", .kitT "NoNode" "ValueError" true, .kit "NoNode" "NoBit" false, .exm "NoNode" "NoBit" false, .kit "NoNode" "NoNode" true, .exm "NoNode" "NoNode" true, .kit "NoNode" "NoOctets" false, .exm "NoNode" "NoOctets" false, .kit "NoNode" "NoPlace" false, .exm "NoNode" "NoPlace" false, .kit "NoNode" "NoSign" false, .exm "NoNode" "NoSign" false, .kit "NoNode" "NoTree" false, .exm "NoNode" "NoTree" false, .kit "NoNode" "NoWord" false, .exm "NoNode" "NoWord" false, .kit "NoNode" "TooMany" false, .exm "NoNode" "TooMany" false, .kit "NoNode" "Twice" false, .exm "NoNode" "Twice" false, .kit "NoNode" "WoodError" true, .exm "NoNode" "WoodError" true, .excC "NoOctets", .kitT "NoOctets" "ValueError" true, .kit "NoOctets" "NoBit" false, .exm "NoOctets" "NoBit" false, .kit "NoOctets" "NoNode" false, .exm "NoOctets" "NoNode" false, .kit "NoOctets" "NoOctets" true, .exm "NoOctets" "NoOctets" true, .kit "NoOctets" "NoPlace" false, .exm "NoOctets" "NoPlace" false, .kit "NoOctets" "NoSign" false, .exm "NoOctets" "NoSign" false, .kit "NoOctets" "NoTree" false, .exm "NoOctets" "NoTree" false, .kit "NoOctets" "NoWord" false, .exm "NoOctets" "NoWord" false, .kit "NoOctets" "TooMany" false, .exm "NoOctets" "TooMany" false, .kit "NoOctets" "Twice" false, .exm "NoOctets" "Twice" false, .kit "NoOctets" "WoodError" true, .exm "NoOctets" "WoodError" true, .excC "NoPlace", .kitT "NoPlace" "ValueError" true, .kit "NoPlace" "NoBit" false, .exm "NoPlace" "NoBit" false, .kit "NoPlace" "NoNode" false, .exm "NoPlace" "NoNode" false, .kit "NoPlace" "NoOctets" false, .exm "NoPlace" "NoOctets" false, .kit "NoPlace" "NoPlace" true, .exm "NoPlace" "NoPlace" true, .kit "NoPlace" "NoSign" false, .exm "NoPlace" "NoSign" false, .kit "NoPlace" "NoTree" false, .exm "NoPlace" "NoTree" false, .kit "NoPlace" "NoWord" false, .exm "NoPlace" "NoWord" false, .kit "NoPlace" "TooMany" false, .exm "NoPlace" "TooMany" false, .kit "NoPlace" "Twice" false, .exm "NoPlace" "Twice" false, .kit "NoPlace" "WoodError" true, .exm "NoPlace" "WoodError" true, .excC "NoSign", .kitT "NoSign" "ValueError" true, .kit "NoSign" "NoBit" false, .exm "NoSign" "NoBit" false, .kit "NoSign" "NoNode" false, .exm "NoSign" "NoNode" false, .kit "NoSign" "NoOctets" false, .exm "NoSign" "NoOctets" false, .kit "NoSign" "NoPlace" false, .exm "NoSign" "NoPlace" false, .kit "NoSign" "NoSign" true, .exm "NoSign" "NoSign" true, .kit "NoSign" "NoTree" false, .exm "NoSign" "NoTree" false, .kit "NoSign" "NoWord" false, .exm "NoSign" "NoWord" false, .kit "NoSign" "TooMany" false, .exm "NoSign" "TooMany" false, .kit "NoSign" "Twice" false, .exm "NoSign" "Twice" false, .kit "NoSign" "WoodError" true, .exm "NoSign" "WoodError" true, .excC "NoTree", .kitT "NoTree" "ValueError" true, .kit "NoTree" "NoBit" false, .exm "NoTree" "NoBit" false, .kit "NoTree" "NoNode" false, .exm "NoTree" "NoNode" false, .kit "NoTree" "NoOctets" false, .exm "NoTree" "NoOctets" false, .kit "NoTree" "NoPlace" false, .exm "NoTree" "NoPlace" false, .kit "NoTree" "NoSign" false, .exm "NoTree" "NoSign" false, .kit "NoTree" "NoTree" true, .exm "NoTree" "NoTree" true, .kit "NoTree" "NoWord" false, .exm "NoTree" "NoWord" false, .kit "NoTree" "TooMany" false, .exm "NoTree" "TooMany" false, .kit "NoTree" "Twice" false, .exm "NoTree" "Twice" false, .kit "NoTree" "WoodError" true, .exm "NoTree" "WoodError" true, .excC "NoWord", .kitT "NoWord" "ValueError" true, .kit "NoWord" "NoBit" false, .exm "NoWord" "NoBit" false, .kit "NoWord" "NoNode" false, .exm "NoWord" "NoNode" false, .kit "NoWord" "NoOctets" false, .exm "NoWord" "NoOctets" false, .kit "NoWord" "NoPlace" false, .exm "NoWord" "NoPlace" false, .kit "NoWord" "NoSign" false, .exm "NoWord" "NoSign" false, .kit "NoWord" "NoTree" false, .exm "NoWord" "NoTree" false, .kit "NoWord" "NoWord" true, .exm "NoWord" "NoWord" true, .kit "NoWord" "TooMany" false, .exm "NoWord" "TooMany" false, .kit "NoWord" "Twice" false, .exm "NoWord" "Twice" false, .kit "NoWord" "WoodError" true, .exm "NoWord" "WoodError" true, .excC "TooMany", .kitT "TooMany" "ValueError" true, .kit "TooMany" "NoBit" false, .exm "TooMany" "NoBit" false, .kit "TooMany" "NoNode" false, .exm "TooMany" "NoNode" false, .kit "TooMany" "NoOctets" false, .exm "TooMany" "NoOctets" false, .kit "TooMany" "NoPlace" false, .exm "TooMany" "NoPlace" false, .kit "TooMany" "NoSign" false, .exm "TooMany" "NoSign" false, .kit "TooMany" "NoTree" false, .exm "TooMany" "NoTree" false, .kit "TooMany" "NoWord" false, .exm "TooMany" "NoWord" false, .kit "TooMany" "TooMany" true, .exm "TooMany" "TooMany" true, .kit "TooMany" "Twice" false, .exm "TooMany" "Twice" false, .kit "TooMany" "WoodError" true, .exm "TooMany" "WoodError" true, .excC "Twice", .kitT "Twice" "ValueError" true, .kit "Twice" "NoBit" false, .exm "Twice" "NoBit" false, .kit "Twice" "NoNode" false, .exm "Twice" "NoNode" false, .kit "Twice" "NoOctets" false, .exm "Twice" "NoOctets" false, .kit "Twice" "NoPlace" false, .exm "Twice" "NoPlace" false, .kit "Twice" "NoSign" false, .exm "Twice" "NoSign" false, .kit "Twice" "NoTree" false, .exm "Twice" "NoTree" false, .kit "Twice" "NoWord" false, .exm "Twice" "NoWord" false, .kit "Twice" "TooMany" false, .exm "Twice" "TooMany" false, .kit "Twice" "Twice" true, .exm "Twice" "Twice" true, .kit "Twice" "WoodError" true, .exm "Twice" "WoodError" true, .excC "WoodError", .kitT "WoodError" "ValueError" true, .kit "WoodError" "NoBit" false, .exm "WoodError" "NoBit" false, .kit "WoodError" "NoNode" false, .exm "WoodError" "NoNode" false, .kit "WoodError" "NoOctets" false, .exm "WoodError" "NoOctets" false, .kit "WoodError" "NoPlace" false, .exm "WoodError" "NoPlace" false, .kit "WoodError" "NoSign" false, .exm "WoodError" "NoSign" false, .kit "WoodError" "NoTree" false, .exm "WoodError" "NoTree" false, .kit "WoodError" "NoWord" false, .exm "WoodError" "NoWord" false, .kit "WoodError" "TooMany" false, .exm "WoodError" "TooMany" false, .kit "WoodError" "Twice" false, .exm "WoodError" "Twice" false, .kit "WoodError" "WoodError" true, .exm "WoodError" "WoodError" true]
def faL : List He.Fa := [.glo "low_in", .glo "size_of", .glo "lesser_of", .glo "heap_of", .glo "packed", .glo "ones_in", .glo "ones_table", .glo "kept_row", .glo "is_tree", .glo "begin_height", .glo "kept_brackets", .glo "brackets_of", .glo "kept_tree", .glo "_law_depths", .glo "_law_brackets", .glo "_law_look", .glo "_law_there", .glo "bit_at", .glo "ones_at", .glo "height", .glo "cover", .glo "within_goal", .glo "last_at_most", .glo "node_look", .glo "check_place", .glo "last_low_in", .glo "last_part", .glo "low_ahead", .glo "opening", .glo "first_at_most", .glo "first_low_in", .glo "first_part", .glo "low_behind", .glo "closing", .glo "one_in", .glo "bits_ahead", .glo "block_by", .glo "one_place", .glo "sought", .glo "place_of", .glo "_law_refused", .glo "_law_done", .glo "_law_stand", .glo "law", .free "ValueError", .free "bool", .free "enumerate", .free "int", .free "isinstance", .free "len", .free "list", .free "min", .free "range", .free "reversed", .free "sum", .free "tuple", .free "zip", .int "MOST" 4096, .int "WIDE" 32, .exc "NoBit", .exc "NoNode", .exc "NoOctets", .exc "NoPlace", .exc "NoSign", .exc "NoTree", .exc "NoWord", .exc "TooMany", .exc "Twice", .exc "WoodError", .glo "NoBit", .glo "NoNode", .glo "NoOctets", .glo "NoPlace", .glo "NoSign", .glo "NoTree", .glo "NoWord", .glo "TooMany", .glo "Twice", .glo "WoodError", .cls "Hand", .glo "Hand", .mkr "Hand", .noat "Hand" "look", .noat "Hand" "spot", .noat "Hand" "tables", .meth "Hand" "__init__", .meth "Hand" "is_opening", .meth "Hand" "node", .meth "Hand" "stand", .meth "Hand" "step", .meth "Hand" "step_back", .meth "Hand" "turn", .meth "Hand" "go", .meth "Hand" "to_node"]
abbrev R : PySem.W.OpenRow := PySem.W.OpenLaw.row PySem.Challenge.rw_thinwood_k52_hands_apart
def tfL : List He.Defn := [("_law_look", none), ("node_look", none)]
def exB (K : PySem.W.Frag) : Bool := fxL.all fun f => f.ok K
abbrev asC : (Addr → Option Obj) → List Addr := asY 2 4 ["Hand"]
abbrev hk : PySem.W.Hook := hookY asC faL fnL tfL exB
def ob (s : PySem.W.SharedT) : He.AlX := obsY asC faL fnL tfL exB (HandSHeadRun.getT s)
theorem ob_eq (s : PySem.W.SharedT) : ob s = hk.obs s.abs := obsY_eq (HandSHeadRun.getT_eq s)
def looseL : List PySem.Str := (["_wall", "WoodError", "TooMany", "NoBit", "NoPlace", "NoNode", "NoTree", "NoSign", "NoWord", "Twice", "NoOctets", "WIDE", "MOST", "packed", "ones_in", "one_in", "low_in", "first_low_in", "last_low_in", "size_of", "lesser_of", "heap_of", "cover", "within_goal", "first_at_most", "last_at_most", "ones_table", "kept_row", "bit_at", "ones_at"] : List PySem.Str) ++ (["bits_ahead", "block_by", "one_place", "is_tree", "begin_height", "kept_brackets", "node_look", "check_place", "height", "first_part", "last_part", "low_behind", "low_ahead", "closing", "opening", "sought", "place_of", "Hand", "brackets_of", "kept_tree", "_law_depths", "_law_brackets", "_law_look", "_law_there", "_law_refused", "_law_done", "_law_stand"] : List PySem.Str)
theorem run (w : World) : HandSHeadRun.RunEq R (PySem.W.view R.prog [66]) hk ob 20000 looseL w := by
  intro os
  kernel_rfl
theorem tx_of {P : Program} {w : World} {K : PySem.W.Frag} {h : Heap} {mg : Str → Option Value} (X : K.In h) (G : h.Ns mainGlobals mg) (c : He.SaysD faL fnL K) (cx : exB K = true) (base : Heap) (TB : ∀ p ∈ tfL.map (He.cT K), LamX.TabB base mg p.1 p.2) : Tx P w K mg base :=
  {
  d_Hand_init := c.def_ 0 (d := dd_Hand_init) rfl
  d_low_in := c.def_ 1 (d := dd_low_in) rfl
  g_low_in := He.glo_ok X G (c.fact 0 (f := .glo "low_in") rfl)
  d_size_of := c.def_ 2 (d := dd_size_of) rfl
  g_size_of := He.glo_ok X G (c.fact 1 (f := .glo "size_of") rfl)
  d_lesser_of := c.def_ 3 (d := dd_lesser_of) rfl
  g_lesser_of := He.glo_ok X G (c.fact 2 (f := .glo "lesser_of") rfl)
  d_heap_of := c.def_ 4 (d := dd_heap_of) rfl
  g_heap_of := He.glo_ok X G (c.fact 3 (f := .glo "heap_of") rfl)
  d_packed := c.def_ 5 (d := dd_packed) rfl
  g_packed := He.glo_ok X G (c.fact 4 (f := .glo "packed") rfl)
  d_ones_in := c.def_ 6 (d := dd_ones_in) rfl
  g_ones_in := He.glo_ok X G (c.fact 5 (f := .glo "ones_in") rfl)
  d_ones_table := c.def_ 7 (d := dd_ones_table) rfl
  g_ones_table := He.glo_ok X G (c.fact 6 (f := .glo "ones_table") rfl)
  d_kept_row := c.def_ 8 (d := dd_kept_row) rfl
  g_kept_row := He.glo_ok X G (c.fact 7 (f := .glo "kept_row") rfl)
  d_is_tree := c.def_ 9 (d := dd_is_tree) rfl
  g_is_tree := He.glo_ok X G (c.fact 8 (f := .glo "is_tree") rfl)
  d_begin_height := c.def_ 10 (d := dd_begin_height) rfl
  g_begin_height := He.glo_ok X G (c.fact 9 (f := .glo "begin_height") rfl)
  d_kept_brackets := c.def_ 11 (d := dd_kept_brackets) rfl
  g_kept_brackets := He.glo_ok X G (c.fact 10 (f := .glo "kept_brackets") rfl)
  d_brackets_of := c.def_ 12 (d := dd_brackets_of) rfl
  g_brackets_of := He.glo_ok X G (c.fact 11 (f := .glo "brackets_of") rfl)
  d_kept_tree := c.def_ 13 (d := dd_kept_tree) rfl
  g_kept_tree := He.glo_ok X G (c.fact 12 (f := .glo "kept_tree") rfl)
  d_law_depths := c.def_ 14 (d := dd_law_depths) rfl
  g_law_depths := He.glo_ok X G (c.fact 13 (f := .glo "_law_depths") rfl)
  d_law_brackets := c.def_ 15 (d := dd_law_brackets) rfl
  g_law_brackets := He.glo_ok X G (c.fact 14 (f := .glo "_law_brackets") rfl)
  d_law_look := c.def_ 16 (d := dd_law_look) rfl
  g_law_look := He.glo_ok X G (c.fact 15 (f := .glo "_law_look") rfl)
  d_law_there := c.def_ 17 (d := dd_law_there) rfl
  g_law_there := He.glo_ok X G (c.fact 16 (f := .glo "_law_there") rfl)
  d_bit_at := c.def_ 18 (d := dd_bit_at) rfl
  g_bit_at := He.glo_ok X G (c.fact 17 (f := .glo "bit_at") rfl)
  d_Hand_is_opening := c.def_ 19 (d := dd_Hand_is_opening) rfl
  d_ones_at := c.def_ 20 (d := dd_ones_at) rfl
  g_ones_at := He.glo_ok X G (c.fact 18 (f := .glo "ones_at") rfl)
  d_height := c.def_ 21 (d := dd_height) rfl
  g_height := He.glo_ok X G (c.fact 19 (f := .glo "height") rfl)
  d_cover := c.def_ 22 (d := dd_cover) rfl
  g_cover := He.glo_ok X G (c.fact 20 (f := .glo "cover") rfl)
  d_within_goal := c.def_ 23 (d := dd_within_goal) rfl
  g_within_goal := He.glo_ok X G (c.fact 21 (f := .glo "within_goal") rfl)
  d_last_at_most := c.def_ 24 (d := dd_last_at_most) rfl
  g_last_at_most := He.glo_ok X G (c.fact 22 (f := .glo "last_at_most") rfl)
  d_node_look := c.def_ 25 (d := dd_node_look) rfl
  g_node_look := He.glo_ok X G (c.fact 23 (f := .glo "node_look") rfl)
  d_check_place := c.def_ 26 (d := dd_check_place) rfl
  g_check_place := He.glo_ok X G (c.fact 24 (f := .glo "check_place") rfl)
  d_last_low_in := c.def_ 27 (d := dd_last_low_in) rfl
  g_last_low_in := He.glo_ok X G (c.fact 25 (f := .glo "last_low_in") rfl)
  d_last_part := c.def_ 28 (d := dd_last_part) rfl
  g_last_part := He.glo_ok X G (c.fact 26 (f := .glo "last_part") rfl)
  d_low_ahead := c.def_ 29 (d := dd_low_ahead) rfl
  g_low_ahead := He.glo_ok X G (c.fact 27 (f := .glo "low_ahead") rfl)
  d_opening := c.def_ 30 (d := dd_opening) rfl
  g_opening := He.glo_ok X G (c.fact 28 (f := .glo "opening") rfl)
  d_Hand_node := c.def_ 31 (d := dd_Hand_node) rfl
  d_Hand_stand := c.def_ 32 (d := dd_Hand_stand) rfl
  d_Hand_step := c.def_ 33 (d := dd_Hand_step) rfl
  d_Hand_step_back := c.def_ 34 (d := dd_Hand_step_back) rfl
  d_first_at_most := c.def_ 35 (d := dd_first_at_most) rfl
  g_first_at_most := He.glo_ok X G (c.fact 29 (f := .glo "first_at_most") rfl)
  d_first_low_in := c.def_ 36 (d := dd_first_low_in) rfl
  g_first_low_in := He.glo_ok X G (c.fact 30 (f := .glo "first_low_in") rfl)
  d_first_part := c.def_ 37 (d := dd_first_part) rfl
  g_first_part := He.glo_ok X G (c.fact 31 (f := .glo "first_part") rfl)
  d_low_behind := c.def_ 38 (d := dd_low_behind) rfl
  g_low_behind := He.glo_ok X G (c.fact 32 (f := .glo "low_behind") rfl)
  d_closing := c.def_ 39 (d := dd_closing) rfl
  g_closing := He.glo_ok X G (c.fact 33 (f := .glo "closing") rfl)
  d_Hand_turn := c.def_ 40 (d := dd_Hand_turn) rfl
  d_one_in := c.def_ 41 (d := dd_one_in) rfl
  g_one_in := He.glo_ok X G (c.fact 34 (f := .glo "one_in") rfl)
  d_bits_ahead := c.def_ 42 (d := dd_bits_ahead) rfl
  g_bits_ahead := He.glo_ok X G (c.fact 35 (f := .glo "bits_ahead") rfl)
  d_block_by := c.def_ 43 (d := dd_block_by) rfl
  g_block_by := He.glo_ok X G (c.fact 36 (f := .glo "block_by") rfl)
  d_one_place := c.def_ 44 (d := dd_one_place) rfl
  g_one_place := He.glo_ok X G (c.fact 37 (f := .glo "one_place") rfl)
  d_sought := c.def_ 45 (d := dd_sought) rfl
  g_sought := He.glo_ok X G (c.fact 38 (f := .glo "sought") rfl)
  d_place_of := c.def_ 46 (d := dd_place_of) rfl
  g_place_of := He.glo_ok X G (c.fact 39 (f := .glo "place_of") rfl)
  d_Hand_go := c.def_ 47 (d := dd_Hand_go) rfl
  d_Hand_to_node := c.def_ 48 (d := dd_Hand_to_node) rfl
  d_law_refused := c.def_ 49 (d := dd_law_refused) rfl
  g_law_refused := He.glo_ok X G (c.fact 40 (f := .glo "_law_refused") rfl)
  d_law_done := c.def_ 50 (d := dd_law_done) rfl
  g_law_done := He.glo_ok X G (c.fact 41 (f := .glo "_law_done") rfl)
  d_law_stand := c.def_ 51 (d := dd_law_stand) rfl
  g_law_stand := He.glo_ok X G (c.fact 42 (f := .glo "_law_stand") rfl)
  d_law := c.def_ 52 (d := dd_law) rfl
  g_law := He.glo_ok X G (c.fact 43 (f := .glo "law") rfl)
  c_Hand := He.cls_ok (c.fact 79 (f := .cls "Hand") rfl)
  g_Hand := He.glo_ok X G (c.fact 80 (f := .glo "Hand") rfl)
  mk_Hand := He.mkr_ok (c.fact 81 (f := .mkr "Hand") rfl)
  na_Hand_look := He.noat_ok (c.fact 82 (f := .noat "Hand" "look") rfl)
  na_Hand_spot := He.noat_ok (c.fact 83 (f := .noat "Hand" "spot") rfl)
  na_Hand_tables := He.noat_ok (c.fact 84 (f := .noat "Hand" "tables") rfl)
  m_Hand_init := He.meth_ok (c.fact 85 (f := .meth "Hand" "__init__") rfl)
  m_Hand_is_opening := He.meth_ok (c.fact 86 (f := .meth "Hand" "is_opening") rfl)
  m_Hand_node := He.meth_ok (c.fact 87 (f := .meth "Hand" "node") rfl)
  m_Hand_stand := He.meth_ok (c.fact 88 (f := .meth "Hand" "stand") rfl)
  m_Hand_step := He.meth_ok (c.fact 89 (f := .meth "Hand" "step") rfl)
  m_Hand_step_back := He.meth_ok (c.fact 90 (f := .meth "Hand" "step_back") rfl)
  m_Hand_turn := He.meth_ok (c.fact 91 (f := .meth "Hand" "turn") rfl)
  m_Hand_go := He.meth_ok (c.fact 92 (f := .meth "Hand" "go") rfl)
  m_Hand_to_node := He.meth_ok (c.fact 93 (f := .meth "Hand" "to_node") rfl)
  b_ValueError := He.free_ok X G (c.fact 44 (f := .free "ValueError") rfl)
  b_bool := He.free_ok X G (c.fact 45 (f := .free "bool") rfl)
  b_enumerate := He.free_ok X G (c.fact 46 (f := .free "enumerate") rfl)
  b_int := He.free_ok X G (c.fact 47 (f := .free "int") rfl)
  b_isinstance := He.free_ok X G (c.fact 48 (f := .free "isinstance") rfl)
  b_len := He.free_ok X G (c.fact 49 (f := .free "len") rfl)
  b_list := He.free_ok X G (c.fact 50 (f := .free "list") rfl)
  b_min := He.free_ok X G (c.fact 51 (f := .free "min") rfl)
  b_range := He.free_ok X G (c.fact 52 (f := .free "range") rfl)
  b_reversed := He.free_ok X G (c.fact 53 (f := .free "reversed") rfl)
  b_sum := He.free_ok X G (c.fact 54 (f := .free "sum") rfl)
  b_tuple := He.free_ok X G (c.fact 55 (f := .free "tuple") rfl)
  b_zip := He.free_ok X G (c.fact 56 (f := .free "zip") rfl)
  i_MOST := He.int_ok X G (c.fact 57 (f := .int "MOST" 4096) rfl)
  i_WIDE := He.int_ok X G (c.fact 58 (f := .int "WIDE" 32) rfl)
  x_NoBit := (fun q => ⟨He.glo_ok X G (c.fact 69 (f := .glo "NoBit") rfl), q.1, q.2.1, q.2.2.1, q.2.2.2⟩) (He.exc_ok (c.fact 59 (f := .exc "NoBit") rfl))
  g_NoBit := He.glo_ok X G (c.fact 69 (f := .glo "NoBit") rfl)
  x_NoNode := (fun q => ⟨He.glo_ok X G (c.fact 70 (f := .glo "NoNode") rfl), q.1, q.2.1, q.2.2.1, q.2.2.2⟩) (He.exc_ok (c.fact 60 (f := .exc "NoNode") rfl))
  g_NoNode := He.glo_ok X G (c.fact 70 (f := .glo "NoNode") rfl)
  x_NoOctets := (fun q => ⟨He.glo_ok X G (c.fact 71 (f := .glo "NoOctets") rfl), q.1, q.2.1, q.2.2.1, q.2.2.2⟩) (He.exc_ok (c.fact 61 (f := .exc "NoOctets") rfl))
  g_NoOctets := He.glo_ok X G (c.fact 71 (f := .glo "NoOctets") rfl)
  x_NoPlace := (fun q => ⟨He.glo_ok X G (c.fact 72 (f := .glo "NoPlace") rfl), q.1, q.2.1, q.2.2.1, q.2.2.2⟩) (He.exc_ok (c.fact 62 (f := .exc "NoPlace") rfl))
  g_NoPlace := He.glo_ok X G (c.fact 72 (f := .glo "NoPlace") rfl)
  x_NoSign := (fun q => ⟨He.glo_ok X G (c.fact 73 (f := .glo "NoSign") rfl), q.1, q.2.1, q.2.2.1, q.2.2.2⟩) (He.exc_ok (c.fact 63 (f := .exc "NoSign") rfl))
  g_NoSign := He.glo_ok X G (c.fact 73 (f := .glo "NoSign") rfl)
  x_NoTree := (fun q => ⟨He.glo_ok X G (c.fact 74 (f := .glo "NoTree") rfl), q.1, q.2.1, q.2.2.1, q.2.2.2⟩) (He.exc_ok (c.fact 64 (f := .exc "NoTree") rfl))
  g_NoTree := He.glo_ok X G (c.fact 74 (f := .glo "NoTree") rfl)
  x_NoWord := (fun q => ⟨He.glo_ok X G (c.fact 75 (f := .glo "NoWord") rfl), q.1, q.2.1, q.2.2.1, q.2.2.2⟩) (He.exc_ok (c.fact 65 (f := .exc "NoWord") rfl))
  g_NoWord := He.glo_ok X G (c.fact 75 (f := .glo "NoWord") rfl)
  x_TooMany := (fun q => ⟨He.glo_ok X G (c.fact 76 (f := .glo "TooMany") rfl), q.1, q.2.1, q.2.2.1, q.2.2.2⟩) (He.exc_ok (c.fact 66 (f := .exc "TooMany") rfl))
  g_TooMany := He.glo_ok X G (c.fact 76 (f := .glo "TooMany") rfl)
  x_Twice := (fun q => ⟨He.glo_ok X G (c.fact 77 (f := .glo "Twice") rfl), q.1, q.2.1, q.2.2.1, q.2.2.2⟩) (He.exc_ok (c.fact 67 (f := .exc "Twice") rfl))
  g_Twice := He.glo_ok X G (c.fact 77 (f := .glo "Twice") rfl)
  x_WoodError := (fun q => ⟨He.glo_ok X G (c.fact 78 (f := .glo "WoodError") rfl), q.1, q.2.1, q.2.2.1, q.2.2.2⟩) (He.exc_ok (c.fact 68 (f := .exc "WoodError") rfl))
  g_WoodError := He.glo_ok X G (c.fact 78 (f := .glo "WoodError") rfl)
  fx := {
    ec_NoBit := Fx.excC_ok (List.all_eq_true.mp cx (.excC "NoBit") (List.mem_of_getElem? (i := 0) rfl))
    kt_NoBit := Fx.kitT_ok (List.all_eq_true.mp cx (.kitT "NoBit" "ValueError" true) (List.mem_of_getElem? (i := 1) rfl))
    k_NoBit_NoBit := Fx.kit_ok (List.all_eq_true.mp cx (.kit "NoBit" "NoBit" true) (List.mem_of_getElem? (i := 2) rfl))
    e_NoBit_NoBit := Fx.exm_ok (List.all_eq_true.mp cx (.exm "NoBit" "NoBit" true) (List.mem_of_getElem? (i := 3) rfl))
    k_NoBit_NoNode := Fx.kit_ok (List.all_eq_true.mp cx (.kit "NoBit" "NoNode" false) (List.mem_of_getElem? (i := 4) rfl))
    e_NoBit_NoNode := Fx.exm_ok (List.all_eq_true.mp cx (.exm "NoBit" "NoNode" false) (List.mem_of_getElem? (i := 5) rfl))
    k_NoBit_NoOctets := Fx.kit_ok (List.all_eq_true.mp cx (.kit "NoBit" "NoOctets" false) (List.mem_of_getElem? (i := 6) rfl))
    e_NoBit_NoOctets := Fx.exm_ok (List.all_eq_true.mp cx (.exm "NoBit" "NoOctets" false) (List.mem_of_getElem? (i := 7) rfl))
    k_NoBit_NoPlace := Fx.kit_ok (List.all_eq_true.mp cx (.kit "NoBit" "NoPlace" false) (List.mem_of_getElem? (i := 8) rfl))
    e_NoBit_NoPlace := Fx.exm_ok (List.all_eq_true.mp cx (.exm "NoBit" "NoPlace" false) (List.mem_of_getElem? (i := 9) rfl))
    k_NoBit_NoSign := Fx.kit_ok (List.all_eq_true.mp cx (.kit "NoBit" "NoSign" false) (List.mem_of_getElem? (i := 10) rfl))
    e_NoBit_NoSign := Fx.exm_ok (List.all_eq_true.mp cx (.exm "NoBit" "NoSign" false) (List.mem_of_getElem? (i := 11) rfl))
    k_NoBit_NoTree := Fx.kit_ok (List.all_eq_true.mp cx (.kit "NoBit" "NoTree" false) (List.mem_of_getElem? (i := 12) rfl))
    e_NoBit_NoTree := Fx.exm_ok (List.all_eq_true.mp cx (.exm "NoBit" "NoTree" false) (List.mem_of_getElem? (i := 13) rfl))
    k_NoBit_NoWord := Fx.kit_ok (List.all_eq_true.mp cx (.kit "NoBit" "NoWord" false) (List.mem_of_getElem? (i := 14) rfl))
    e_NoBit_NoWord := Fx.exm_ok (List.all_eq_true.mp cx (.exm "NoBit" "NoWord" false) (List.mem_of_getElem? (i := 15) rfl))
    k_NoBit_TooMany := Fx.kit_ok (List.all_eq_true.mp cx (.kit "NoBit" "TooMany" false) (List.mem_of_getElem? (i := 16) rfl))
    e_NoBit_TooMany := Fx.exm_ok (List.all_eq_true.mp cx (.exm "NoBit" "TooMany" false) (List.mem_of_getElem? (i := 17) rfl))
    k_NoBit_Twice := Fx.kit_ok (List.all_eq_true.mp cx (.kit "NoBit" "Twice" false) (List.mem_of_getElem? (i := 18) rfl))
    e_NoBit_Twice := Fx.exm_ok (List.all_eq_true.mp cx (.exm "NoBit" "Twice" false) (List.mem_of_getElem? (i := 19) rfl))
    k_NoBit_WoodError := Fx.kit_ok (List.all_eq_true.mp cx (.kit "NoBit" "WoodError" true) (List.mem_of_getElem? (i := 20) rfl))
    e_NoBit_WoodError := Fx.exm_ok (List.all_eq_true.mp cx (.exm "NoBit" "WoodError" true) (List.mem_of_getElem? (i := 21) rfl))
    ec_NoNode := Fx.excC_ok (List.all_eq_true.mp cx (.excC "NoNode") (List.mem_of_getElem? (i := 22) rfl))
    kt_NoNode := Fx.kitT_ok (List.all_eq_true.mp cx (.kitT "NoNode" "ValueError" true) (List.mem_of_getElem? (i := 23) rfl))
    k_NoNode_NoBit := Fx.kit_ok (List.all_eq_true.mp cx (.kit "NoNode" "NoBit" false) (List.mem_of_getElem? (i := 24) rfl))
    e_NoNode_NoBit := Fx.exm_ok (List.all_eq_true.mp cx (.exm "NoNode" "NoBit" false) (List.mem_of_getElem? (i := 25) rfl))
    k_NoNode_NoNode := Fx.kit_ok (List.all_eq_true.mp cx (.kit "NoNode" "NoNode" true) (List.mem_of_getElem? (i := 26) rfl))
    e_NoNode_NoNode := Fx.exm_ok (List.all_eq_true.mp cx (.exm "NoNode" "NoNode" true) (List.mem_of_getElem? (i := 27) rfl))
    k_NoNode_NoOctets := Fx.kit_ok (List.all_eq_true.mp cx (.kit "NoNode" "NoOctets" false) (List.mem_of_getElem? (i := 28) rfl))
    e_NoNode_NoOctets := Fx.exm_ok (List.all_eq_true.mp cx (.exm "NoNode" "NoOctets" false) (List.mem_of_getElem? (i := 29) rfl))
    k_NoNode_NoPlace := Fx.kit_ok (List.all_eq_true.mp cx (.kit "NoNode" "NoPlace" false) (List.mem_of_getElem? (i := 30) rfl))
    e_NoNode_NoPlace := Fx.exm_ok (List.all_eq_true.mp cx (.exm "NoNode" "NoPlace" false) (List.mem_of_getElem? (i := 31) rfl))
    k_NoNode_NoSign := Fx.kit_ok (List.all_eq_true.mp cx (.kit "NoNode" "NoSign" false) (List.mem_of_getElem? (i := 32) rfl))
    e_NoNode_NoSign := Fx.exm_ok (List.all_eq_true.mp cx (.exm "NoNode" "NoSign" false) (List.mem_of_getElem? (i := 33) rfl))
    k_NoNode_NoTree := Fx.kit_ok (List.all_eq_true.mp cx (.kit "NoNode" "NoTree" false) (List.mem_of_getElem? (i := 34) rfl))
    e_NoNode_NoTree := Fx.exm_ok (List.all_eq_true.mp cx (.exm "NoNode" "NoTree" false) (List.mem_of_getElem? (i := 35) rfl))
    k_NoNode_NoWord := Fx.kit_ok (List.all_eq_true.mp cx (.kit "NoNode" "NoWord" false) (List.mem_of_getElem? (i := 36) rfl))
    e_NoNode_NoWord := Fx.exm_ok (List.all_eq_true.mp cx (.exm "NoNode" "NoWord" false) (List.mem_of_getElem? (i := 37) rfl))
    k_NoNode_TooMany := Fx.kit_ok (List.all_eq_true.mp cx (.kit "NoNode" "TooMany" false) (List.mem_of_getElem? (i := 38) rfl))
    e_NoNode_TooMany := Fx.exm_ok (List.all_eq_true.mp cx (.exm "NoNode" "TooMany" false) (List.mem_of_getElem? (i := 39) rfl))
    k_NoNode_Twice := Fx.kit_ok (List.all_eq_true.mp cx (.kit "NoNode" "Twice" false) (List.mem_of_getElem? (i := 40) rfl))
    e_NoNode_Twice := Fx.exm_ok (List.all_eq_true.mp cx (.exm "NoNode" "Twice" false) (List.mem_of_getElem? (i := 41) rfl))
    k_NoNode_WoodError := Fx.kit_ok (List.all_eq_true.mp cx (.kit "NoNode" "WoodError" true) (List.mem_of_getElem? (i := 42) rfl))
    e_NoNode_WoodError := Fx.exm_ok (List.all_eq_true.mp cx (.exm "NoNode" "WoodError" true) (List.mem_of_getElem? (i := 43) rfl))
    ec_NoOctets := Fx.excC_ok (List.all_eq_true.mp cx (.excC "NoOctets") (List.mem_of_getElem? (i := 44) rfl))
    kt_NoOctets := Fx.kitT_ok (List.all_eq_true.mp cx (.kitT "NoOctets" "ValueError" true) (List.mem_of_getElem? (i := 45) rfl))
    k_NoOctets_NoBit := Fx.kit_ok (List.all_eq_true.mp cx (.kit "NoOctets" "NoBit" false) (List.mem_of_getElem? (i := 46) rfl))
    e_NoOctets_NoBit := Fx.exm_ok (List.all_eq_true.mp cx (.exm "NoOctets" "NoBit" false) (List.mem_of_getElem? (i := 47) rfl))
    k_NoOctets_NoNode := Fx.kit_ok (List.all_eq_true.mp cx (.kit "NoOctets" "NoNode" false) (List.mem_of_getElem? (i := 48) rfl))
    e_NoOctets_NoNode := Fx.exm_ok (List.all_eq_true.mp cx (.exm "NoOctets" "NoNode" false) (List.mem_of_getElem? (i := 49) rfl))
    k_NoOctets_NoOctets := Fx.kit_ok (List.all_eq_true.mp cx (.kit "NoOctets" "NoOctets" true) (List.mem_of_getElem? (i := 50) rfl))
    e_NoOctets_NoOctets := Fx.exm_ok (List.all_eq_true.mp cx (.exm "NoOctets" "NoOctets" true) (List.mem_of_getElem? (i := 51) rfl))
    k_NoOctets_NoPlace := Fx.kit_ok (List.all_eq_true.mp cx (.kit "NoOctets" "NoPlace" false) (List.mem_of_getElem? (i := 52) rfl))
    e_NoOctets_NoPlace := Fx.exm_ok (List.all_eq_true.mp cx (.exm "NoOctets" "NoPlace" false) (List.mem_of_getElem? (i := 53) rfl))
    k_NoOctets_NoSign := Fx.kit_ok (List.all_eq_true.mp cx (.kit "NoOctets" "NoSign" false) (List.mem_of_getElem? (i := 54) rfl))
    e_NoOctets_NoSign := Fx.exm_ok (List.all_eq_true.mp cx (.exm "NoOctets" "NoSign" false) (List.mem_of_getElem? (i := 55) rfl))
    k_NoOctets_NoTree := Fx.kit_ok (List.all_eq_true.mp cx (.kit "NoOctets" "NoTree" false) (List.mem_of_getElem? (i := 56) rfl))
    e_NoOctets_NoTree := Fx.exm_ok (List.all_eq_true.mp cx (.exm "NoOctets" "NoTree" false) (List.mem_of_getElem? (i := 57) rfl))
    k_NoOctets_NoWord := Fx.kit_ok (List.all_eq_true.mp cx (.kit "NoOctets" "NoWord" false) (List.mem_of_getElem? (i := 58) rfl))
    e_NoOctets_NoWord := Fx.exm_ok (List.all_eq_true.mp cx (.exm "NoOctets" "NoWord" false) (List.mem_of_getElem? (i := 59) rfl))
    k_NoOctets_TooMany := Fx.kit_ok (List.all_eq_true.mp cx (.kit "NoOctets" "TooMany" false) (List.mem_of_getElem? (i := 60) rfl))
    e_NoOctets_TooMany := Fx.exm_ok (List.all_eq_true.mp cx (.exm "NoOctets" "TooMany" false) (List.mem_of_getElem? (i := 61) rfl))
    k_NoOctets_Twice := Fx.kit_ok (List.all_eq_true.mp cx (.kit "NoOctets" "Twice" false) (List.mem_of_getElem? (i := 62) rfl))
    e_NoOctets_Twice := Fx.exm_ok (List.all_eq_true.mp cx (.exm "NoOctets" "Twice" false) (List.mem_of_getElem? (i := 63) rfl))
    k_NoOctets_WoodError := Fx.kit_ok (List.all_eq_true.mp cx (.kit "NoOctets" "WoodError" true) (List.mem_of_getElem? (i := 64) rfl))
    e_NoOctets_WoodError := Fx.exm_ok (List.all_eq_true.mp cx (.exm "NoOctets" "WoodError" true) (List.mem_of_getElem? (i := 65) rfl))
    ec_NoPlace := Fx.excC_ok (List.all_eq_true.mp cx (.excC "NoPlace") (List.mem_of_getElem? (i := 66) rfl))
    kt_NoPlace := Fx.kitT_ok (List.all_eq_true.mp cx (.kitT "NoPlace" "ValueError" true) (List.mem_of_getElem? (i := 67) rfl))
    k_NoPlace_NoBit := Fx.kit_ok (List.all_eq_true.mp cx (.kit "NoPlace" "NoBit" false) (List.mem_of_getElem? (i := 68) rfl))
    e_NoPlace_NoBit := Fx.exm_ok (List.all_eq_true.mp cx (.exm "NoPlace" "NoBit" false) (List.mem_of_getElem? (i := 69) rfl))
    k_NoPlace_NoNode := Fx.kit_ok (List.all_eq_true.mp cx (.kit "NoPlace" "NoNode" false) (List.mem_of_getElem? (i := 70) rfl))
    e_NoPlace_NoNode := Fx.exm_ok (List.all_eq_true.mp cx (.exm "NoPlace" "NoNode" false) (List.mem_of_getElem? (i := 71) rfl))
    k_NoPlace_NoOctets := Fx.kit_ok (List.all_eq_true.mp cx (.kit "NoPlace" "NoOctets" false) (List.mem_of_getElem? (i := 72) rfl))
    e_NoPlace_NoOctets := Fx.exm_ok (List.all_eq_true.mp cx (.exm "NoPlace" "NoOctets" false) (List.mem_of_getElem? (i := 73) rfl))
    k_NoPlace_NoPlace := Fx.kit_ok (List.all_eq_true.mp cx (.kit "NoPlace" "NoPlace" true) (List.mem_of_getElem? (i := 74) rfl))
    e_NoPlace_NoPlace := Fx.exm_ok (List.all_eq_true.mp cx (.exm "NoPlace" "NoPlace" true) (List.mem_of_getElem? (i := 75) rfl))
    k_NoPlace_NoSign := Fx.kit_ok (List.all_eq_true.mp cx (.kit "NoPlace" "NoSign" false) (List.mem_of_getElem? (i := 76) rfl))
    e_NoPlace_NoSign := Fx.exm_ok (List.all_eq_true.mp cx (.exm "NoPlace" "NoSign" false) (List.mem_of_getElem? (i := 77) rfl))
    k_NoPlace_NoTree := Fx.kit_ok (List.all_eq_true.mp cx (.kit "NoPlace" "NoTree" false) (List.mem_of_getElem? (i := 78) rfl))
    e_NoPlace_NoTree := Fx.exm_ok (List.all_eq_true.mp cx (.exm "NoPlace" "NoTree" false) (List.mem_of_getElem? (i := 79) rfl))
    k_NoPlace_NoWord := Fx.kit_ok (List.all_eq_true.mp cx (.kit "NoPlace" "NoWord" false) (List.mem_of_getElem? (i := 80) rfl))
    e_NoPlace_NoWord := Fx.exm_ok (List.all_eq_true.mp cx (.exm "NoPlace" "NoWord" false) (List.mem_of_getElem? (i := 81) rfl))
    k_NoPlace_TooMany := Fx.kit_ok (List.all_eq_true.mp cx (.kit "NoPlace" "TooMany" false) (List.mem_of_getElem? (i := 82) rfl))
    e_NoPlace_TooMany := Fx.exm_ok (List.all_eq_true.mp cx (.exm "NoPlace" "TooMany" false) (List.mem_of_getElem? (i := 83) rfl))
    k_NoPlace_Twice := Fx.kit_ok (List.all_eq_true.mp cx (.kit "NoPlace" "Twice" false) (List.mem_of_getElem? (i := 84) rfl))
    e_NoPlace_Twice := Fx.exm_ok (List.all_eq_true.mp cx (.exm "NoPlace" "Twice" false) (List.mem_of_getElem? (i := 85) rfl))
    k_NoPlace_WoodError := Fx.kit_ok (List.all_eq_true.mp cx (.kit "NoPlace" "WoodError" true) (List.mem_of_getElem? (i := 86) rfl))
    e_NoPlace_WoodError := Fx.exm_ok (List.all_eq_true.mp cx (.exm "NoPlace" "WoodError" true) (List.mem_of_getElem? (i := 87) rfl))
    ec_NoSign := Fx.excC_ok (List.all_eq_true.mp cx (.excC "NoSign") (List.mem_of_getElem? (i := 88) rfl))
    kt_NoSign := Fx.kitT_ok (List.all_eq_true.mp cx (.kitT "NoSign" "ValueError" true) (List.mem_of_getElem? (i := 89) rfl))
    k_NoSign_NoBit := Fx.kit_ok (List.all_eq_true.mp cx (.kit "NoSign" "NoBit" false) (List.mem_of_getElem? (i := 90) rfl))
    e_NoSign_NoBit := Fx.exm_ok (List.all_eq_true.mp cx (.exm "NoSign" "NoBit" false) (List.mem_of_getElem? (i := 91) rfl))
    k_NoSign_NoNode := Fx.kit_ok (List.all_eq_true.mp cx (.kit "NoSign" "NoNode" false) (List.mem_of_getElem? (i := 92) rfl))
    e_NoSign_NoNode := Fx.exm_ok (List.all_eq_true.mp cx (.exm "NoSign" "NoNode" false) (List.mem_of_getElem? (i := 93) rfl))
    k_NoSign_NoOctets := Fx.kit_ok (List.all_eq_true.mp cx (.kit "NoSign" "NoOctets" false) (List.mem_of_getElem? (i := 94) rfl))
    e_NoSign_NoOctets := Fx.exm_ok (List.all_eq_true.mp cx (.exm "NoSign" "NoOctets" false) (List.mem_of_getElem? (i := 95) rfl))
    k_NoSign_NoPlace := Fx.kit_ok (List.all_eq_true.mp cx (.kit "NoSign" "NoPlace" false) (List.mem_of_getElem? (i := 96) rfl))
    e_NoSign_NoPlace := Fx.exm_ok (List.all_eq_true.mp cx (.exm "NoSign" "NoPlace" false) (List.mem_of_getElem? (i := 97) rfl))
    k_NoSign_NoSign := Fx.kit_ok (List.all_eq_true.mp cx (.kit "NoSign" "NoSign" true) (List.mem_of_getElem? (i := 98) rfl))
    e_NoSign_NoSign := Fx.exm_ok (List.all_eq_true.mp cx (.exm "NoSign" "NoSign" true) (List.mem_of_getElem? (i := 99) rfl))
    k_NoSign_NoTree := Fx.kit_ok (List.all_eq_true.mp cx (.kit "NoSign" "NoTree" false) (List.mem_of_getElem? (i := 100) rfl))
    e_NoSign_NoTree := Fx.exm_ok (List.all_eq_true.mp cx (.exm "NoSign" "NoTree" false) (List.mem_of_getElem? (i := 101) rfl))
    k_NoSign_NoWord := Fx.kit_ok (List.all_eq_true.mp cx (.kit "NoSign" "NoWord" false) (List.mem_of_getElem? (i := 102) rfl))
    e_NoSign_NoWord := Fx.exm_ok (List.all_eq_true.mp cx (.exm "NoSign" "NoWord" false) (List.mem_of_getElem? (i := 103) rfl))
    k_NoSign_TooMany := Fx.kit_ok (List.all_eq_true.mp cx (.kit "NoSign" "TooMany" false) (List.mem_of_getElem? (i := 104) rfl))
    e_NoSign_TooMany := Fx.exm_ok (List.all_eq_true.mp cx (.exm "NoSign" "TooMany" false) (List.mem_of_getElem? (i := 105) rfl))
    k_NoSign_Twice := Fx.kit_ok (List.all_eq_true.mp cx (.kit "NoSign" "Twice" false) (List.mem_of_getElem? (i := 106) rfl))
    e_NoSign_Twice := Fx.exm_ok (List.all_eq_true.mp cx (.exm "NoSign" "Twice" false) (List.mem_of_getElem? (i := 107) rfl))
    k_NoSign_WoodError := Fx.kit_ok (List.all_eq_true.mp cx (.kit "NoSign" "WoodError" true) (List.mem_of_getElem? (i := 108) rfl))
    e_NoSign_WoodError := Fx.exm_ok (List.all_eq_true.mp cx (.exm "NoSign" "WoodError" true) (List.mem_of_getElem? (i := 109) rfl))
    ec_NoTree := Fx.excC_ok (List.all_eq_true.mp cx (.excC "NoTree") (List.mem_of_getElem? (i := 110) rfl))
    kt_NoTree := Fx.kitT_ok (List.all_eq_true.mp cx (.kitT "NoTree" "ValueError" true) (List.mem_of_getElem? (i := 111) rfl))
    k_NoTree_NoBit := Fx.kit_ok (List.all_eq_true.mp cx (.kit "NoTree" "NoBit" false) (List.mem_of_getElem? (i := 112) rfl))
    e_NoTree_NoBit := Fx.exm_ok (List.all_eq_true.mp cx (.exm "NoTree" "NoBit" false) (List.mem_of_getElem? (i := 113) rfl))
    k_NoTree_NoNode := Fx.kit_ok (List.all_eq_true.mp cx (.kit "NoTree" "NoNode" false) (List.mem_of_getElem? (i := 114) rfl))
    e_NoTree_NoNode := Fx.exm_ok (List.all_eq_true.mp cx (.exm "NoTree" "NoNode" false) (List.mem_of_getElem? (i := 115) rfl))
    k_NoTree_NoOctets := Fx.kit_ok (List.all_eq_true.mp cx (.kit "NoTree" "NoOctets" false) (List.mem_of_getElem? (i := 116) rfl))
    e_NoTree_NoOctets := Fx.exm_ok (List.all_eq_true.mp cx (.exm "NoTree" "NoOctets" false) (List.mem_of_getElem? (i := 117) rfl))
    k_NoTree_NoPlace := Fx.kit_ok (List.all_eq_true.mp cx (.kit "NoTree" "NoPlace" false) (List.mem_of_getElem? (i := 118) rfl))
    e_NoTree_NoPlace := Fx.exm_ok (List.all_eq_true.mp cx (.exm "NoTree" "NoPlace" false) (List.mem_of_getElem? (i := 119) rfl))
    k_NoTree_NoSign := Fx.kit_ok (List.all_eq_true.mp cx (.kit "NoTree" "NoSign" false) (List.mem_of_getElem? (i := 120) rfl))
    e_NoTree_NoSign := Fx.exm_ok (List.all_eq_true.mp cx (.exm "NoTree" "NoSign" false) (List.mem_of_getElem? (i := 121) rfl))
    k_NoTree_NoTree := Fx.kit_ok (List.all_eq_true.mp cx (.kit "NoTree" "NoTree" true) (List.mem_of_getElem? (i := 122) rfl))
    e_NoTree_NoTree := Fx.exm_ok (List.all_eq_true.mp cx (.exm "NoTree" "NoTree" true) (List.mem_of_getElem? (i := 123) rfl))
    k_NoTree_NoWord := Fx.kit_ok (List.all_eq_true.mp cx (.kit "NoTree" "NoWord" false) (List.mem_of_getElem? (i := 124) rfl))
    e_NoTree_NoWord := Fx.exm_ok (List.all_eq_true.mp cx (.exm "NoTree" "NoWord" false) (List.mem_of_getElem? (i := 125) rfl))
    k_NoTree_TooMany := Fx.kit_ok (List.all_eq_true.mp cx (.kit "NoTree" "TooMany" false) (List.mem_of_getElem? (i := 126) rfl))
    e_NoTree_TooMany := Fx.exm_ok (List.all_eq_true.mp cx (.exm "NoTree" "TooMany" false) (List.mem_of_getElem? (i := 127) rfl))
    k_NoTree_Twice := Fx.kit_ok (List.all_eq_true.mp cx (.kit "NoTree" "Twice" false) (List.mem_of_getElem? (i := 128) rfl))
    e_NoTree_Twice := Fx.exm_ok (List.all_eq_true.mp cx (.exm "NoTree" "Twice" false) (List.mem_of_getElem? (i := 129) rfl))
    k_NoTree_WoodError := Fx.kit_ok (List.all_eq_true.mp cx (.kit "NoTree" "WoodError" true) (List.mem_of_getElem? (i := 130) rfl))
    e_NoTree_WoodError := Fx.exm_ok (List.all_eq_true.mp cx (.exm "NoTree" "WoodError" true) (List.mem_of_getElem? (i := 131) rfl))
    ec_NoWord := Fx.excC_ok (List.all_eq_true.mp cx (.excC "NoWord") (List.mem_of_getElem? (i := 132) rfl))
    kt_NoWord := Fx.kitT_ok (List.all_eq_true.mp cx (.kitT "NoWord" "ValueError" true) (List.mem_of_getElem? (i := 133) rfl))
    k_NoWord_NoBit := Fx.kit_ok (List.all_eq_true.mp cx (.kit "NoWord" "NoBit" false) (List.mem_of_getElem? (i := 134) rfl))
    e_NoWord_NoBit := Fx.exm_ok (List.all_eq_true.mp cx (.exm "NoWord" "NoBit" false) (List.mem_of_getElem? (i := 135) rfl))
    k_NoWord_NoNode := Fx.kit_ok (List.all_eq_true.mp cx (.kit "NoWord" "NoNode" false) (List.mem_of_getElem? (i := 136) rfl))
    e_NoWord_NoNode := Fx.exm_ok (List.all_eq_true.mp cx (.exm "NoWord" "NoNode" false) (List.mem_of_getElem? (i := 137) rfl))
    k_NoWord_NoOctets := Fx.kit_ok (List.all_eq_true.mp cx (.kit "NoWord" "NoOctets" false) (List.mem_of_getElem? (i := 138) rfl))
    e_NoWord_NoOctets := Fx.exm_ok (List.all_eq_true.mp cx (.exm "NoWord" "NoOctets" false) (List.mem_of_getElem? (i := 139) rfl))
    k_NoWord_NoPlace := Fx.kit_ok (List.all_eq_true.mp cx (.kit "NoWord" "NoPlace" false) (List.mem_of_getElem? (i := 140) rfl))
    e_NoWord_NoPlace := Fx.exm_ok (List.all_eq_true.mp cx (.exm "NoWord" "NoPlace" false) (List.mem_of_getElem? (i := 141) rfl))
    k_NoWord_NoSign := Fx.kit_ok (List.all_eq_true.mp cx (.kit "NoWord" "NoSign" false) (List.mem_of_getElem? (i := 142) rfl))
    e_NoWord_NoSign := Fx.exm_ok (List.all_eq_true.mp cx (.exm "NoWord" "NoSign" false) (List.mem_of_getElem? (i := 143) rfl))
    k_NoWord_NoTree := Fx.kit_ok (List.all_eq_true.mp cx (.kit "NoWord" "NoTree" false) (List.mem_of_getElem? (i := 144) rfl))
    e_NoWord_NoTree := Fx.exm_ok (List.all_eq_true.mp cx (.exm "NoWord" "NoTree" false) (List.mem_of_getElem? (i := 145) rfl))
    k_NoWord_NoWord := Fx.kit_ok (List.all_eq_true.mp cx (.kit "NoWord" "NoWord" true) (List.mem_of_getElem? (i := 146) rfl))
    e_NoWord_NoWord := Fx.exm_ok (List.all_eq_true.mp cx (.exm "NoWord" "NoWord" true) (List.mem_of_getElem? (i := 147) rfl))
    k_NoWord_TooMany := Fx.kit_ok (List.all_eq_true.mp cx (.kit "NoWord" "TooMany" false) (List.mem_of_getElem? (i := 148) rfl))
    e_NoWord_TooMany := Fx.exm_ok (List.all_eq_true.mp cx (.exm "NoWord" "TooMany" false) (List.mem_of_getElem? (i := 149) rfl))
    k_NoWord_Twice := Fx.kit_ok (List.all_eq_true.mp cx (.kit "NoWord" "Twice" false) (List.mem_of_getElem? (i := 150) rfl))
    e_NoWord_Twice := Fx.exm_ok (List.all_eq_true.mp cx (.exm "NoWord" "Twice" false) (List.mem_of_getElem? (i := 151) rfl))
    k_NoWord_WoodError := Fx.kit_ok (List.all_eq_true.mp cx (.kit "NoWord" "WoodError" true) (List.mem_of_getElem? (i := 152) rfl))
    e_NoWord_WoodError := Fx.exm_ok (List.all_eq_true.mp cx (.exm "NoWord" "WoodError" true) (List.mem_of_getElem? (i := 153) rfl))
    ec_TooMany := Fx.excC_ok (List.all_eq_true.mp cx (.excC "TooMany") (List.mem_of_getElem? (i := 154) rfl))
    kt_TooMany := Fx.kitT_ok (List.all_eq_true.mp cx (.kitT "TooMany" "ValueError" true) (List.mem_of_getElem? (i := 155) rfl))
    k_TooMany_NoBit := Fx.kit_ok (List.all_eq_true.mp cx (.kit "TooMany" "NoBit" false) (List.mem_of_getElem? (i := 156) rfl))
    e_TooMany_NoBit := Fx.exm_ok (List.all_eq_true.mp cx (.exm "TooMany" "NoBit" false) (List.mem_of_getElem? (i := 157) rfl))
    k_TooMany_NoNode := Fx.kit_ok (List.all_eq_true.mp cx (.kit "TooMany" "NoNode" false) (List.mem_of_getElem? (i := 158) rfl))
    e_TooMany_NoNode := Fx.exm_ok (List.all_eq_true.mp cx (.exm "TooMany" "NoNode" false) (List.mem_of_getElem? (i := 159) rfl))
    k_TooMany_NoOctets := Fx.kit_ok (List.all_eq_true.mp cx (.kit "TooMany" "NoOctets" false) (List.mem_of_getElem? (i := 160) rfl))
    e_TooMany_NoOctets := Fx.exm_ok (List.all_eq_true.mp cx (.exm "TooMany" "NoOctets" false) (List.mem_of_getElem? (i := 161) rfl))
    k_TooMany_NoPlace := Fx.kit_ok (List.all_eq_true.mp cx (.kit "TooMany" "NoPlace" false) (List.mem_of_getElem? (i := 162) rfl))
    e_TooMany_NoPlace := Fx.exm_ok (List.all_eq_true.mp cx (.exm "TooMany" "NoPlace" false) (List.mem_of_getElem? (i := 163) rfl))
    k_TooMany_NoSign := Fx.kit_ok (List.all_eq_true.mp cx (.kit "TooMany" "NoSign" false) (List.mem_of_getElem? (i := 164) rfl))
    e_TooMany_NoSign := Fx.exm_ok (List.all_eq_true.mp cx (.exm "TooMany" "NoSign" false) (List.mem_of_getElem? (i := 165) rfl))
    k_TooMany_NoTree := Fx.kit_ok (List.all_eq_true.mp cx (.kit "TooMany" "NoTree" false) (List.mem_of_getElem? (i := 166) rfl))
    e_TooMany_NoTree := Fx.exm_ok (List.all_eq_true.mp cx (.exm "TooMany" "NoTree" false) (List.mem_of_getElem? (i := 167) rfl))
    k_TooMany_NoWord := Fx.kit_ok (List.all_eq_true.mp cx (.kit "TooMany" "NoWord" false) (List.mem_of_getElem? (i := 168) rfl))
    e_TooMany_NoWord := Fx.exm_ok (List.all_eq_true.mp cx (.exm "TooMany" "NoWord" false) (List.mem_of_getElem? (i := 169) rfl))
    k_TooMany_TooMany := Fx.kit_ok (List.all_eq_true.mp cx (.kit "TooMany" "TooMany" true) (List.mem_of_getElem? (i := 170) rfl))
    e_TooMany_TooMany := Fx.exm_ok (List.all_eq_true.mp cx (.exm "TooMany" "TooMany" true) (List.mem_of_getElem? (i := 171) rfl))
    k_TooMany_Twice := Fx.kit_ok (List.all_eq_true.mp cx (.kit "TooMany" "Twice" false) (List.mem_of_getElem? (i := 172) rfl))
    e_TooMany_Twice := Fx.exm_ok (List.all_eq_true.mp cx (.exm "TooMany" "Twice" false) (List.mem_of_getElem? (i := 173) rfl))
    k_TooMany_WoodError := Fx.kit_ok (List.all_eq_true.mp cx (.kit "TooMany" "WoodError" true) (List.mem_of_getElem? (i := 174) rfl))
    e_TooMany_WoodError := Fx.exm_ok (List.all_eq_true.mp cx (.exm "TooMany" "WoodError" true) (List.mem_of_getElem? (i := 175) rfl))
    ec_Twice := Fx.excC_ok (List.all_eq_true.mp cx (.excC "Twice") (List.mem_of_getElem? (i := 176) rfl))
    kt_Twice := Fx.kitT_ok (List.all_eq_true.mp cx (.kitT "Twice" "ValueError" true) (List.mem_of_getElem? (i := 177) rfl))
    k_Twice_NoBit := Fx.kit_ok (List.all_eq_true.mp cx (.kit "Twice" "NoBit" false) (List.mem_of_getElem? (i := 178) rfl))
    e_Twice_NoBit := Fx.exm_ok (List.all_eq_true.mp cx (.exm "Twice" "NoBit" false) (List.mem_of_getElem? (i := 179) rfl))
    k_Twice_NoNode := Fx.kit_ok (List.all_eq_true.mp cx (.kit "Twice" "NoNode" false) (List.mem_of_getElem? (i := 180) rfl))
    e_Twice_NoNode := Fx.exm_ok (List.all_eq_true.mp cx (.exm "Twice" "NoNode" false) (List.mem_of_getElem? (i := 181) rfl))
    k_Twice_NoOctets := Fx.kit_ok (List.all_eq_true.mp cx (.kit "Twice" "NoOctets" false) (List.mem_of_getElem? (i := 182) rfl))
    e_Twice_NoOctets := Fx.exm_ok (List.all_eq_true.mp cx (.exm "Twice" "NoOctets" false) (List.mem_of_getElem? (i := 183) rfl))
    k_Twice_NoPlace := Fx.kit_ok (List.all_eq_true.mp cx (.kit "Twice" "NoPlace" false) (List.mem_of_getElem? (i := 184) rfl))
    e_Twice_NoPlace := Fx.exm_ok (List.all_eq_true.mp cx (.exm "Twice" "NoPlace" false) (List.mem_of_getElem? (i := 185) rfl))
    k_Twice_NoSign := Fx.kit_ok (List.all_eq_true.mp cx (.kit "Twice" "NoSign" false) (List.mem_of_getElem? (i := 186) rfl))
    e_Twice_NoSign := Fx.exm_ok (List.all_eq_true.mp cx (.exm "Twice" "NoSign" false) (List.mem_of_getElem? (i := 187) rfl))
    k_Twice_NoTree := Fx.kit_ok (List.all_eq_true.mp cx (.kit "Twice" "NoTree" false) (List.mem_of_getElem? (i := 188) rfl))
    e_Twice_NoTree := Fx.exm_ok (List.all_eq_true.mp cx (.exm "Twice" "NoTree" false) (List.mem_of_getElem? (i := 189) rfl))
    k_Twice_NoWord := Fx.kit_ok (List.all_eq_true.mp cx (.kit "Twice" "NoWord" false) (List.mem_of_getElem? (i := 190) rfl))
    e_Twice_NoWord := Fx.exm_ok (List.all_eq_true.mp cx (.exm "Twice" "NoWord" false) (List.mem_of_getElem? (i := 191) rfl))
    k_Twice_TooMany := Fx.kit_ok (List.all_eq_true.mp cx (.kit "Twice" "TooMany" false) (List.mem_of_getElem? (i := 192) rfl))
    e_Twice_TooMany := Fx.exm_ok (List.all_eq_true.mp cx (.exm "Twice" "TooMany" false) (List.mem_of_getElem? (i := 193) rfl))
    k_Twice_Twice := Fx.kit_ok (List.all_eq_true.mp cx (.kit "Twice" "Twice" true) (List.mem_of_getElem? (i := 194) rfl))
    e_Twice_Twice := Fx.exm_ok (List.all_eq_true.mp cx (.exm "Twice" "Twice" true) (List.mem_of_getElem? (i := 195) rfl))
    k_Twice_WoodError := Fx.kit_ok (List.all_eq_true.mp cx (.kit "Twice" "WoodError" true) (List.mem_of_getElem? (i := 196) rfl))
    e_Twice_WoodError := Fx.exm_ok (List.all_eq_true.mp cx (.exm "Twice" "WoodError" true) (List.mem_of_getElem? (i := 197) rfl))
    ec_WoodError := Fx.excC_ok (List.all_eq_true.mp cx (.excC "WoodError") (List.mem_of_getElem? (i := 198) rfl))
    kt_WoodError := Fx.kitT_ok (List.all_eq_true.mp cx (.kitT "WoodError" "ValueError" true) (List.mem_of_getElem? (i := 199) rfl))
    k_WoodError_NoBit := Fx.kit_ok (List.all_eq_true.mp cx (.kit "WoodError" "NoBit" false) (List.mem_of_getElem? (i := 200) rfl))
    e_WoodError_NoBit := Fx.exm_ok (List.all_eq_true.mp cx (.exm "WoodError" "NoBit" false) (List.mem_of_getElem? (i := 201) rfl))
    k_WoodError_NoNode := Fx.kit_ok (List.all_eq_true.mp cx (.kit "WoodError" "NoNode" false) (List.mem_of_getElem? (i := 202) rfl))
    e_WoodError_NoNode := Fx.exm_ok (List.all_eq_true.mp cx (.exm "WoodError" "NoNode" false) (List.mem_of_getElem? (i := 203) rfl))
    k_WoodError_NoOctets := Fx.kit_ok (List.all_eq_true.mp cx (.kit "WoodError" "NoOctets" false) (List.mem_of_getElem? (i := 204) rfl))
    e_WoodError_NoOctets := Fx.exm_ok (List.all_eq_true.mp cx (.exm "WoodError" "NoOctets" false) (List.mem_of_getElem? (i := 205) rfl))
    k_WoodError_NoPlace := Fx.kit_ok (List.all_eq_true.mp cx (.kit "WoodError" "NoPlace" false) (List.mem_of_getElem? (i := 206) rfl))
    e_WoodError_NoPlace := Fx.exm_ok (List.all_eq_true.mp cx (.exm "WoodError" "NoPlace" false) (List.mem_of_getElem? (i := 207) rfl))
    k_WoodError_NoSign := Fx.kit_ok (List.all_eq_true.mp cx (.kit "WoodError" "NoSign" false) (List.mem_of_getElem? (i := 208) rfl))
    e_WoodError_NoSign := Fx.exm_ok (List.all_eq_true.mp cx (.exm "WoodError" "NoSign" false) (List.mem_of_getElem? (i := 209) rfl))
    k_WoodError_NoTree := Fx.kit_ok (List.all_eq_true.mp cx (.kit "WoodError" "NoTree" false) (List.mem_of_getElem? (i := 210) rfl))
    e_WoodError_NoTree := Fx.exm_ok (List.all_eq_true.mp cx (.exm "WoodError" "NoTree" false) (List.mem_of_getElem? (i := 211) rfl))
    k_WoodError_NoWord := Fx.kit_ok (List.all_eq_true.mp cx (.kit "WoodError" "NoWord" false) (List.mem_of_getElem? (i := 212) rfl))
    e_WoodError_NoWord := Fx.exm_ok (List.all_eq_true.mp cx (.exm "WoodError" "NoWord" false) (List.mem_of_getElem? (i := 213) rfl))
    k_WoodError_TooMany := Fx.kit_ok (List.all_eq_true.mp cx (.kit "WoodError" "TooMany" false) (List.mem_of_getElem? (i := 214) rfl))
    e_WoodError_TooMany := Fx.exm_ok (List.all_eq_true.mp cx (.exm "WoodError" "TooMany" false) (List.mem_of_getElem? (i := 215) rfl))
    k_WoodError_Twice := Fx.kit_ok (List.all_eq_true.mp cx (.kit "WoodError" "Twice" false) (List.mem_of_getElem? (i := 216) rfl))
    e_WoodError_Twice := Fx.exm_ok (List.all_eq_true.mp cx (.exm "WoodError" "Twice" false) (List.mem_of_getElem? (i := 217) rfl))
    k_WoodError_WoodError := Fx.kit_ok (List.all_eq_true.mp cx (.kit "WoodError" "WoodError" true) (List.mem_of_getElem? (i := 218) rfl))
    e_WoodError_WoodError := Fx.exm_ok (List.all_eq_true.mp cx (.exm "WoodError" "WoodError" true) (List.mem_of_getElem? (i := 219) rfl))
  }
  tb_law_look := TB _ (List.mem_map_of_mem (f := He.cT K) (by decide : ((("_law_look", none) : He.Defn) ∈ tfL)))
  tb_node_look := TB _ (List.mem_map_of_mem (f := He.cT K) (by decide : ((("node_look", none) : He.Defn) ∈ tfL)))
  }
theorem facts {P : Program} {w : World} {K : PySem.W.Frag} {h : Heap} {mg : Str → Option Value} (X : K.In h) (G : h.Ns mainGlobals mg) (c : He.SaysD faL fnL K) (cx : exB K = true) (base : Heap) (TB : ∀ p ∈ tfL.map (He.cT K), LamX.TabB base mg p.1 p.2) :
    Okf P w K mg base CX0 23 "law" ["_law_script"] (sp_law K) := by
  have T : Tx P w K mg base := tx_of X G c cx base TB
  have o_Hand_init := ok_Hand_init (P := P) (w := w) T 
  have o_low_in := ok_low_in (P := P) (w := w) T 
  have o_size_of := ok_size_of (P := P) (w := w) T 
  have o_lesser_of := ok_lesser_of (P := P) (w := w) T 
  have o_heap_of := ok_heap_of (P := P) (w := w) T o_size_of o_lesser_of
  have o_packed := ok_packed (P := P) (w := w) T 
  have o_ones_in := ok_ones_in (P := P) (w := w) T 
  have o_ones_table := ok_ones_table (P := P) (w := w) T o_ones_in
  have o_kept_row := ok_kept_row (P := P) (w := w) T o_packed o_ones_table
  have o_is_tree := ok_is_tree (P := P) (w := w) T 
  have o_begin_height := ok_begin_height (P := P) (w := w) T 
  have o_kept_brackets := ok_kept_brackets (P := P) (w := w) T o_kept_row o_is_tree o_begin_height o_low_in o_heap_of
  have o_brackets_of := ok_brackets_of (P := P) (w := w) T 
  have o_kept_tree := ok_kept_tree (P := P) (w := w) T o_kept_brackets o_brackets_of
  have o_law_depths := ok_law_depths (P := P) (w := w) T 
  have o_law_brackets := ok_law_brackets (P := P) (w := w) T 
  have o_law_look := ok_law_look (P := P) (w := w) T 
  have o_law_there := ok_law_there (P := P) (w := w) T 
  have o_bit_at := ok_bit_at (P := P) (w := w) T 
  have o_Hand_is_opening := ok_Hand_is_opening (P := P) (w := w) T o_bit_at
  have o_ones_at := ok_ones_at (P := P) (w := w) T o_ones_in
  have o_height := ok_height (P := P) (w := w) T o_ones_at
  have o_cover := ok_cover (P := P) (w := w) T o_size_of
  have o_within_goal := ok_within_goal (P := P) (w := w) T 
  have o_last_at_most := ok_last_at_most (P := P) (w := w) T o_size_of o_cover o_within_goal
  have o_node_look := ok_node_look (P := P) (w := w) T 
  have o_check_place := ok_check_place (P := P) (w := w) T 
  have o_last_low_in := ok_last_low_in (P := P) (w := w) T o_ones_in
  have o_last_part := ok_last_part (P := P) (w := w) T o_last_low_in o_begin_height
  have o_low_ahead := ok_low_ahead (P := P) (w := w) T o_check_place o_last_part o_last_at_most o_node_look
  have o_opening := ok_opening (P := P) (w := w) T o_bit_at o_low_ahead o_height
  have o_Hand_node := ok_Hand_node (P := P) (w := w) T o_Hand_is_opening o_opening o_ones_at
  have o_Hand_stand := ok_Hand_stand (P := P) (w := w) T o_Hand_node o_Hand_is_opening
  have o_Hand_step := ok_Hand_step (P := P) (w := w) T o_Hand_stand
  have o_Hand_step_back := ok_Hand_step_back (P := P) (w := w) T o_Hand_stand
  have o_first_at_most := ok_first_at_most (P := P) (w := w) T o_size_of o_cover o_within_goal
  have o_first_low_in := ok_first_low_in (P := P) (w := w) T o_ones_in
  have o_first_part := ok_first_part (P := P) (w := w) T o_first_low_in o_begin_height
  have o_low_behind := ok_low_behind (P := P) (w := w) T o_check_place o_first_part o_first_at_most o_node_look
  have o_closing := ok_closing (P := P) (w := w) T o_bit_at o_low_behind o_height
  have o_Hand_turn := ok_Hand_turn (P := P) (w := w) T o_Hand_is_opening o_closing o_opening o_Hand_stand
  have o_one_in := ok_one_in (P := P) (w := w) T 
  have o_bits_ahead := ok_bits_ahead (P := P) (w := w) T 
  have o_block_by := ok_block_by (P := P) (w := w) T o_bits_ahead
  have o_one_place := ok_one_place (P := P) (w := w) T o_block_by o_one_in o_bits_ahead
  have o_sought := ok_sought (P := P) (w := w) T 
  have o_place_of := ok_place_of (P := P) (w := w) T o_one_place o_sought
  have o_Hand_go := ok_Hand_go (P := P) (w := w) T o_place_of
  have o_Hand_to_node := ok_Hand_to_node (P := P) (w := w) T o_Hand_go
  have o_law_refused := ok_law_refused (P := P) (w := w) T o_Hand_to_node
  have o_law_done := ok_law_done (P := P) (w := w) T o_Hand_step o_Hand_step_back o_Hand_turn o_Hand_to_node o_law_refused o_Hand_node o_Hand_is_opening
  have o_law_stand := ok_law_stand (P := P) (w := w) T o_Hand_node o_Hand_is_opening
  have o_law := ok_law (P := P) (w := w) T o_law_depths o_law_brackets o_kept_tree o_Hand_init o_law_look o_law_done o_law_stand o_law_there
  exact o_law
theorem binds_law {K : PySem.W.Frag} (c : He.SaysD faL fnL K) : ∃ fd : FuncData, FunD K "law" "law" (defArgs s_law) (defBody s_law) (defScope s_law) [] [] (He.ga K "law") fd := c.def_ 52 (d := dd_law) rfl
theorem tab_sp {K : PySem.W.Frag} {H : Hp} (h : ∀ p ∈ tfL.map (He.cT K), H p.2 = some (.tbl #[])) : ∀ x ∈ tabL, NdefX.TabN H (tabP K x) nmL := fun x hx =>
  NdefX.TabN.nil (h (He.cT K (x, none)) (List.mem_map_of_mem (f := He.cT K) (show ((x, none) : He.Defn) ∈ tfL from by
    have e : tfL = tabL.map fun x => ((x, none) : He.Defn) := rfl
    rw [e]; exact List.mem_map_of_mem (f := fun x => ((x, none) : He.Defn)) hx)))
end Tw
open PySem PySem.W PySem.Calls PyProof.Rows
set_option maxHeartbeats 0 in
theorem PySem.Challenge.cw_thinwood_k52_hands_apart_holds : PySem.Challenge.rw_thinwood_k52_hands_apart.Holds := by
  w_on; o_law
  refine HandSHeadRun.head_any (r := OpenLaw.row PySem.Challenge.rw_thinwood_k52_hands_apart) (q := view (OpenLaw.row PySem.Challenge.rw_thinwood_k52_hands_apart).prog [66]) (H := Tw.hk) (ob := Tw.ob) (M := 20000) (loose := Tw.looseL) (d := HandSHeadRun.topDef (OpenLaw.row PySem.Challenge.rw_thinwood_k52_hands_apart).prog 66) (kwd := []) Tw.ob_eq
    Tw.z_e Tw.z_f Tw.run Tw.z_def Tw.z_hp Tw.z_hk (by rfl) (by first | assumption | decide +kernel) Tw.z_ok Tw.z_bare Tw.z_w ?hc
  case hc =>
    refine LamX.walk_ofTsE (l := PySem.Challenge.rw_thinwood_k52_hands_apart) (n := 63) (k := 23) (x := "_law_script") (CX := fun _ => L2.CX0) rfl (by decide) (by as_aux_lemma => kernel_rfl) ⟨rfl, by decide, by decide⟩ ?F (fun _ _ _ _ _ z => z)
    intro w mg fa h Y G hmg0
    obtain ⟨K, KX, c⟩ := Y
    have cd := c.t.d
    have hmg : mg ("law" : PySem.Str) = some (.ref fa) := by
      have e : (HandSHeadRun.topDef (OpenLaw.row PySem.Challenge.rw_thinwood_k52_hands_apart).prog 66).name = ("law" : PySem.Str) := by kernel_rfl
      rw [← e]
      exact hmg0
    have e : fa = He.ga K "law" := by
      have z := hmg.symm.trans (He.glo_ok KX G (cd.fact 43 (f := .glo "law") rfl))
      exact Value.ref.inj (Option.some.inj z)
    subst e
    obtain ⟨fd, FD⟩ := Tw.binds_law cd
    refine ⟨K, KX, fd, Tw.tfL.map (He.cT K), Tw.sp_law K, fun p hp => ?_, fun p hp => ?_, fun p hp => ?_, fun s u => FunD.bindsA (ps := ["_law_script"]) FD (fun _ _ _ _ _ _ us hl => match us, hl with | [_], _ => rfl) s [u] rfl, fun H a ns hl _ hH hS => ⟨a, ns, rfl, hS, hl, Tw.tab_sp hH, fun _ => rfl⟩, fun base KB GB TB => ?_⟩
    · obtain ⟨q, hq, e⟩ := List.mem_map.mp hp
      rw [← e]; exact c.empty q hq
    · obtain ⟨q, hq, e⟩ := List.mem_map.mp hp
      rw [← e]; exact c.out q hq
    · obtain ⟨q, hq, e⟩ := List.mem_map.mp hp
      rw [← e]; exact PySem.W.codeHd_of_K KX (c.hd q hq)
    · exact Tw.okf_fn (Tw.facts KB GB cd c.more base TB) FD
#print axioms PySem.Challenge.cw_thinwood_k52_hands_apart_holds
