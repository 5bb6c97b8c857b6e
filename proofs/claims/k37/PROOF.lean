import PyProof.Rows.All
import HandS.ExcValue
import Wide.All
import OpenK.AllK
import Wide.FinOn
import KE.KStateDown
import Lean
import HandS.ForMost
import HandS.ForExc
import HandS.Steps
import HandS.IsInst
import HandS.Wide
import HandS.WideBits
import HandS.Defaults
import HandS.Flow
import HandS.Style
import HandS.ExcIs
import HandS.TryMany
import HandS.Evl
import HandS.Walk
import HandS.Rev
import HandS.Conv
import HandS.RevRange
import HandS.SortInts
import HandS.Head0
import HandS.Head1
import HandS.Head2
import HandS.HeadEnd
import HandS.HeadHook1
import HandS.HeadHook2
import HandS.Deep
import HandS.Lambda
import HandS.HeadHook4
import HandS.HeadWalk
import HandS.Nested
import PySem.Challenge.RW_thinwood_k37_no_such_brackets
set_option Elab.async false
set_option linter.all false
set_option maxRecDepth 100000
set_option maxHeartbeats 4000000
open PySem PySem.W PySem.Calls PyProof.Rows in
section
namespace Tw
abbrev R0 : PySem.W.OpenRow := PySem.W.OpenLaw.row PySem.Challenge.rw_thinwood_k37_no_such_brackets
abbrev q0 : PySem.Program := PySem.W.view R0.prog [60]
abbrev d0 : PySem.DefRec := HandSHeadRun.topDef R0.prog 60
open PySem PySem.W PySem.Calls PyProof.Rows
theorem z_e : opening R0.prog = plainProg R0.prog.main.scope.names := by kernel_rfl
theorem z_f : ∀ s, fenceModules? R0.prog s = some s := fun s => by kernel_rfl
theorem z_def : defOf q0 R0.name = some (d0, []) := by kernel_rfl
theorem z_hp : R0.prog.theDef R0.name = some (d0.params, d0.body, d0.scope) := by kernel_rfl
theorem z_hk : kwWritten? d0.params.kwonlyargs d0.params.kw_defaults = some [] := by kernel_rfl
theorem z_ok : (chainsOk q0 && opensWell R0.prog && (frees R0.toRowW && R0.within.isEmpty)) = true := by decide +kernel
theorem z_bare : R0.prog.bare := ⟨rfl, rfl, rfl, rfl, rfl, by decide +kernel⟩
set_option maxHeartbeats 0 in
theorem z_w : R0.toRowW.promised := by w_witness2
end Tw
end
set_option Elab.async false
set_option linter.all false
set_option maxRecDepth 100000
set_option maxHeartbeats 4000000
namespace Tw
open PySem PySem.Spec PyProof.Rows L2
def nmL (l _c : Nat) : Str := if l = 166 then (("node_look" ++ ".<locals>.") ++ "<lambda>") else if l = 266 then (("_law_look_of" ++ ".<locals>.") ++ "_law_look") else ""
def tabL : List Str := ["node_look", "_law_look_of"]
/-! ### heaps: all that was tracked is as it was, but for code tables, which may have grown -/
class NT (o : HO) : Prop where
  ne : ∀ ps, o ≠ .tbl ps
instance {xs : List V} : NT (.lst xs) := ⟨fun _ z => nomatch z⟩
instance {xs : List V} : NT (.tup xs) := ⟨fun _ z => nomatch z⟩
instance {o : Obj} {u : HO} : NT (.frz o u) := ⟨fun _ z => nomatch z⟩
instance {φ : Heap → Prop} : NT (.ext φ) := ⟨fun _ z => nomatch z⟩
instance {S : Int → Bool} {n : Nat} : NT (.set S n) := ⟨fun _ z => nomatch z⟩
instance {kvs : List (Key × V)} : NT (.dK kvs) := ⟨fun _ z => nomatch z⟩
instance {C dx : Addr} {fs : List (Str × V)} : NT (.ins C dx fs) := ⟨fun _ z => nomatch z⟩
instance {x : Addr} : NT (.own x) := ⟨fun _ z => nomatch z⟩
structure Same (H H' : Hp) : Prop where
  keep : ∀ b o, H b = some o → (∀ ps, o ≠ .tbl ps) → H' b = some o
  gone : ∀ b, H' b = none → H b = none
  tabs : ∀ P, NdefX.TabN H P nmL → NdefX.TabN H' P nmL
theorem Same.get {H H' : Hp} (s : Same H H') {b : Addr} {o : HO} [NT o] (e : H b = some o) : H' b = some o := s.keep b o e NT.ne
theorem Same.of {H H' : Hp} (e : ∀ b o, H b = some o → H' b = some o) : Same H H' := by
  refine ⟨fun b o h _ => e b o h, fun b h => ?_, fun P t => NdefX.TabN.ext t e⟩
  cases q : H b with
  | none => rfl
  | some o => rw [e b o q] at h; cases h
theorem Same.refl (H : Hp) : Same H H := .of fun _ _ h => h
theorem Same.trans {H H1 H2 : Hp} (a : Same H H1) (b : Same H1 H2) : Same H H2 := ⟨fun c o h n => b.keep c o (a.keep c o h n) n, fun c h => a.gone c (b.gone c h), fun P t => b.tabs P (a.tabs P t)⟩
theorem Same.free {H H' : Hp} (e : Same H H') {l : Addr} (h : H' l = Option.none) : H l = Option.none := e.gone l h
theorem Same.seq {K : PySem.W.Frag} {H H' : Hp} {a : Addr} {xs : List V} (e : Same H H') (h : SqL K H a xs) : SqL K H' a xs := by
  rcases h with (h | ⟨o, h⟩) | h
  · exact .inl (.inl (e.get h))
  · exact .inl (.inr ⟨o, e.get h⟩)
  · exact .inr h
theorem same_new {H : Hp} {p : Addr} {o : HO} (h : H p = none) : Same H (upd H p o) := .of fun b x e => by
  rw [upd_ne (ne_of_none e h)]; exact e
/-- an object that H does not know may change -/
theorem Same.mut {H H' : Hp} {p : Addr} {o : HO} (e : Same H H') (h : H p = none) (hl : ∃ xs, H' p = some (.lst xs) := by exact ⟨_, by assumption⟩) : Same H (upd H' p o) := by
  obtain ⟨xs, hl⟩ := hl
  refine ⟨fun b x hb n => by rw [upd_ne (ne_of_none hb h)]; exact e.keep b x hb n, fun b hb => e.gone b (NdefX.upd_none hb), fun P t => ?_⟩
  obtain ⟨ps, h1, ht, hc⟩ := e.tabs P t
  have np : ∀ {b : Addr} {u : HO}, H' b = some u → (∀ xs, u ≠ .lst xs) → b ≠ p := fun {b u} q d z => by
    subst z; rw [hl] at q; cases q; exact d _ rfl
  refine ⟨ps, by rw [upd_ne (np h1 fun _ z => nomatch z)]; exact h1, ht, fun pos cv q => ?_⟩
  obtain ⟨c, e1, e2⟩ := hc pos cv q
  exact ⟨c, e1, by rw [upd_ne (np e2 fun _ z => by unfold LamX.CodeO at z; cases z)]; exact e2⟩
theorem Same.seqT {K : PySem.W.Frag} {H H' : Hp} {a : Addr} {xs : List V} (e : Same H H') (h : SqT K H a xs) : SqT K H' a xs := by
  rcases h with (h | ⟨o, h⟩) | h
  · exact .inl (.inl (e.get h))
  · exact .inl (.inr ⟨o, e.get h⟩)
  · exact .inr h
theorem Same.ne {H : Hp} {a p : Addr} {o : HO} (h : H p = none) (e : H a = some o) : a ≠ p := ne_of_none e h
/-! ### a def by its global name, and its call -/
/-- the def named x keeps the promise sp -/
structure Okf (P : Program) (w : World) (K : PySem.W.Frag) (mg : Str → Option Value) (base : Heap) (CX : CXT) (k : Nat) (x : Str) (ps : List Str) (sp : Sp) : Prop where
  ex : ∃ fd : FuncData, (∃ (oc : Value) (od : Option Addr) (osl : Array (Option Value)), K.lookup (He.ga K x) = some ⟨oc, od, .func fd, osl⟩) ∧ Binds K fd ps [] ∧ FnOk P w K mg base CX k (He.ga K x) fd ps sp
  kp : PySem.W.keepIn K (.ref (He.ga K x)) = true
  gl : mg x = some (.ref (He.ga K x))
theorem FunD.look {K : PySem.W.Frag} {x qual : Str} {params : Arguments} {body : List Stmt} {scope : Scope} {dvs : List V} {kws : List (Str × V)} {f : Addr} {fd : FuncData} (F : FunD K x qual params body scope dvs kws f fd) :
    ∃ (oc : Value) (od : Option Addr) (osl : Array (Option Value)), K.lookup f = some ⟨oc, od, .func fd, osl⟩ := by
  obtain ⟨oc, od, dV, kV, doc, pm, an, cdv, ct, osl, e, lk, _⟩ := F.ex
  exact ⟨oc, od, osl, lk⟩
section
variable {X : Cx} {CX : CXT} {k j : Nat} {ps : List Str} {sp : Sp} {E : XK} {x : Str} {p pos : Pos} {e : Expr} {es : List Expr} {t : TA}
theorem pe_callF (F : Okf X.prog X.w X.K X.mg X.base CX k x ps sp) (hr : Room j X.A) (hk : k ≤ j) (hg : Gl X x) (hx : Passes CX X E)
    (ha : PA X (e :: es) t) (hdb : (x == ("__debug__" : Str)) = false := by decide) (he : starEach (e :: es) X.env = (false, eval e X.env) :: starEach es X.env := by rfl) (hpl : (backTo pos (starEach es X.env)).any (·.1) = false := by rfl) :
    PE X (.Call (.Name x p) (e :: es) [] pos) (tCall sp [] E t) := by
  obtain ⟨fd, _, hb, ok⟩ := F.ex
  exact pe_call ok (hr.mono hk) hg F.gl F.kp hb .nil hx ha hdb he hpl
theorem pe_callF0 (F : Okf X.prog X.w X.K X.mg X.base CX k x ps sp) (hr : Room j X.A) (hk : k ≤ j) (hg : Gl X x) (hx : Passes CX X E)
    (hdb : (x == ("__debug__" : Str)) = false := by decide) : PE X (.Call (.Name x p) [] [] pos) (tCall sp [] E tNil) := by
  obtain ⟨fd, _, hb, ok⟩ := F.ex
  exact pe_call0 ok (hr.mono hk) hg F.gl F.kp hb .nil hx hdb
theorem Okf.imp {P : Program} {w : World} {K : PySem.W.Frag} {mg : Str → Option Value} {base : Heap} {sp' : Sp} (F : Okf P w K mg base CX k x ps sp)
    (h : ∀ vs H Q E, sp' vs H Q E → sp vs H Q E) : Okf P w K mg base CX k x ps sp' := by
  obtain ⟨⟨fd, lk, hb, ok⟩, kp, gl⟩ := F
  exact ⟨⟨fd, lk, hb, ok.imp h⟩, kp, gl⟩
theorem okf_fn {P : Program} {w : World} {K : PySem.W.Frag} {mg : Str → Option Value} {base : Heap} {params : Arguments} {body : List Stmt} {scope : Scope} {qual y : Str} {fd : FuncData} {dvs : List V} {kws : List (Str × V)} (F : Okf P w K mg base CX k x ps sp)
    (FD : FunD K y qual params body scope dvs kws (He.ga K x) fd) : FnOk P w K mg base CX k (He.ga K x) fd ps sp := by
  obtain ⟨⟨fd', ⟨_, _, _, lk'⟩, hb, ok⟩, kp, gl⟩ := F
  obtain ⟨_, _, _, lk⟩ := FunD.look FD
  rw [lk] at lk'
  injection lk' with e
  injection e with _ _ e
  injection e with e
  subst e
  exact ok
/-- a global int, as a constant -/
theorem pe_gint {i : Int} (h : ∃ t, X.mg x = some (.int i t)) (hg : Gl X x) (hd : (x == ("__debug__" : Str)) = false := by decide) : PE X (.Name x pos) (tC (.int i)) := by
  obtain ⟨t, h⟩ := h
  exact pe_glob hg h ⟨_, rfl⟩ hd
/-- a constant that the text reckons -/
theorem pe_cst {v : Int} {te : TE} (h : PE X e te) (hi : ∀ (σ : L2.St) (H : Hp) (Q : VK), Q (.int v) H → te σ H Q) : PE X e (tC (.int v)) :=
  ⟨fun pins s σ H Q I q => h.run pins s σ H Q I (hi σ H Q q)⟩
/-- e & 1 -/
def rAnd1 : R2 := fun x y H Q => ∃ i : Int, x = .int i ∧ y = .int 1 ∧ Q (.int (i % 2)) H
theorem op_and1 : OpR X (binaryOp .BitAnd) rAnd1 := by
  intro pins s σ H x y v u Q I rx ry h
  obtain ⟨i, rfl, rfl, q⟩ := h
  exact op_andM pins s σ H (.int i) (.int (2 ^ 1 - 1)) v u Q I rx ry ⟨i, 1, rfl, rfl, q⟩
/-- isinstance(x, T), T a built-in type's name -/
def rIsB : List V → Hp → VK → Prop := fun xs H Q => ∃ (x : V) (n : String), xs = [x, .ty n] ∧ ∃ (t : String) (b : Bool), (∀ K : PySem.W.Frag, TyX K H x (.type t)) ∧ kitB t n = some b ∧ Q (.bl b) H
theorem call_isB : CallR X (.builtin "isinstance") rIsB := by
  intro pins s σ H xs us Q I r h
  obtain ⟨x, n, rfl, t, b, ty, e, q⟩ := h
  exact call_isi pins s σ H [x, .ty n] us Q I r ⟨x, .ty n, .type t, .type n, b, rfl, .ty n, ty _, kit_ty e, q⟩
end
/-! ### names of the operators' readings -/
abbrev rPlus : R2 := rI0 fun i j => .int (i + j)
abbrev rMinus : R2 := rI0 fun i j => .int (i - j)
abbrev rTimes : R2 := rI CMul fun i j => .int (i * j)
abbrev rDiv : R2 := rI CDiv fun i j => .int (i / j)
abbrev rDivW : R2 := rI CDivW fun i j => .int (i / j)
abbrev rMod : R2 := rI (fun _ j => 0 < j) fun i j => .int (i % j)
abbrev rPow : R2 := rI CPow fun i j => .int (i ^ j.toNat)
abbrev rShl : R2 := rI CPow fun i j => .int (i * 2 ^ j.toNat)
abbrev rShr : R2 := rI (fun _ j => 0 ≤ j) fun i j => .int (i / 2 ^ j.toNat)
abbrev rBitAnd : R2 := rI0 fun i j => .int (Builtin.bitAnd i j)
abbrev rBitOr : R2 := rI0 fun i j => .int (Builtin.bitOr i j)
abbrev rBitXor : R2 := rI0 fun i j => .int (Builtin.bitXor i j)
abbrev rLt : R2 := rI0 fun i j => .bl (decide (i < j))
abbrev rLe : R2 := rI0 fun i j => .bl (decide (i ≤ j))
abbrev rGtI : R2 := rI0 fun i j => .bl (decide (j < i))
abbrev rGeI : R2 := rI0 fun i j => .bl (decide (j ≤ i))
abbrev rShlW : R2 := rI CShl fun i j => .int (i * 2 ^ j.toNat)
def rDivmod : List V → Hp → VK → Prop := fun xs H Q => ∃ i j, xs = [.int i, .int j] ∧ CDivP i j ∧ ∀ p, H p = none → Q (.ref p) (upd H p (.tup [.int (i / j), .int (i % j)]))
abbrev rNeg : V → Hp → VK → Prop := rU fun i => .int (-i)
/-! ### steps of a reading -/
section
variable {D : Ends} {σ : L2.St} {H : Hp} {Q : VK} {Qb : Bool → Hp → Prop} {ta tb te : TE} {t u v : TS} {c d : TT} {i : Nat} {x y z : V} {r : R2} {K : PySem.W.Frag}
theorem k_seq (h : t { D with nx := u D } σ H) : tSeq t u D σ H := h
theorem k_next (h : D.nx σ H) : tNext D σ H := h
theorem k_asg (h : te σ H fun x H1 => D.nx (σ.set i (some x)) H1) : tAsg te (gName i) D σ H := h
theorem k_drop (h : te σ H fun _ H1 => D.nx σ H1) : tDrop te D σ H := h
theorem k_ret (h : te σ H D.rt) : tRet te D σ H := h
theorem k_retN (h : D.rt .non H) : tRetN D σ H := h
theorem k_if (h : c σ H fun b H1 => if b = true then t D σ H1 else u D σ H1) : tIfS c t u D σ H := h
theorem k_var (h : σ[i]? = some (some x)) (q : Q x H) : tVar i σ H Q := ⟨x, h, q⟩
theorem k_c (q : Q x H) : tC x σ H Q := q
theorem k_op (h : ta σ H fun x H1 => tb σ H1 fun y H2 => r x y H2 Q) : tOp r ta tb σ H Q := h
theorem k_un {r : V → Hp → VK → Prop} (h : ta σ H fun x H1 => r x H1 Q) : tUn r ta σ H Q := h
theorem k_I0 {g : Int → Int → V} {a b : Int} (q : Q (g a b) H) : rI0 g (.int a) (.int b) H Q := ⟨a, b, rfl, rfl, q⟩
theorem k_I {C : Int → Int → Prop} {g : Int → Int → V} {a b : Int} (hc : C a b) (q : Q (g a b) H) : rI C g (.int a) (.int b) H Q := ⟨a, b, rfl, rfl, hc, q⟩
theorem k_U {g : Int → V} {a : Int} (q : Q (g a) H) : rU g (.int a) H Q := ⟨a, rfl, q⟩
theorem k_and1 {a : Int} (q : Q (.int (a % 2)) H) : rAnd1 (.int a) (.int 1) H Q := ⟨a, rfl, rfl, q⟩
theorem k_eqI {a b : Int} (q : Q (.bl (decide (a = b))) H) : rEq (.int a) (.int b) H Q := ⟨rfl, by
  have e : decide ((V.int a : V) = V.int b) = decide (a = b) := by simp
  rw [e]; exact q⟩
theorem k_neI {a b : Int} (q : Q (.bl (!decide (a = b))) H) : rNe (.int a) (.int b) H Q := ⟨rfl, by
  have e : decide ((V.int a : V) = V.int b) = decide (a = b) := by simp
  rw [e]; exact q⟩
theorem k_eq (hs : scal x y = true) (q : Q (.bl (decide (x = y))) H) : rEq x y H Q := ⟨hs, q⟩
theorem k_ne (hs : scal x y = true) (q : Q (.bl (!decide (x = y))) H) : rNe x y H Q := ⟨hs, q⟩
theorem k_isN (q : Q (.bl (decide (x = .non))) H) : rIsN x .non H Q := ⟨rfl, q⟩
theorem k_notN (q : Q (.bl (!decide (x = .non))) H) : rNotN x .non H Q := ⟨rfl, q⟩
def BlK (Qb : Bool → Hp → Prop) (x : V) (H : Hp) : Prop := ∃ k, x = .bl k ∧ Qb k H
theorem k_test (h : te σ H (BlK Qb)) : tTest te σ H Qb := h
theorem k_tB (h : te σ H (BlK Qb)) : tB te σ H Qb := h
theorem k_bl {b : Bool} (q : Qb b H) : BlK Qb (V.bl b) H := ⟨b, rfl, q⟩
theorem k_and (h : c σ H fun b H1 => if b = true then d σ H1 Qb else Qb false H1) : tAnd c d σ H Qb := h
theorem k_or (h : c σ H fun b H1 => if b = true then Qb true H1 else d σ H1 Qb) : tOr c d σ H Qb := h
theorem k_not (h : c σ H fun b H1 => Qb (!b) H1) : tNot c σ H Qb := h
def ChainK (Q : VK) (u : Hp → Prop) (z : V) (H : Hp) : Prop := ∃ k, z = .bl k ∧ (if k = true then u H else Q (.bl false) H)
theorem k_chain {r' : R2} {tc : TE} (h : ta σ H fun x H1 => tb σ H1 fun y H2 => r x y H2 (ChainK Q fun H3 => tc σ H3 fun w H4 => r' y w H4 Q)) : tChain r r' ta tb tc σ H Q := h
theorem k_chainE {u : Hp → Prop} {b : Bool} (h : if b = true then u H else Q (.bl false) H) : ChainK Q u (.bl b) H := ⟨b, rfl, h⟩
theorem k_andV (h : ta σ H (BlK fun k H1 => if k = true then tb σ H1 Q else Q (.bl false) H1)) : tAndV ta tb σ H Q := h
theorem k_orV (h : ta σ H (BlK fun k H1 => if k = true then Q (.bl true) H1 else tb σ H1 Q)) : tOrV ta tb σ H Q := h
theorem k_notV (h : ta σ H (BlK fun k H1 => Q (.bl (!k)) H1)) : tNotV ta σ H Q := h
theorem k_ifE (h : c σ H fun b H1 => if b = true then ta σ H1 Q else tb σ H1 Q) : tIf c ta tb σ H Q := h
theorem k_cons {Qv : List V → Hp → Prop} {tr : TA} (h : ta σ H fun x H1 => tr σ H1 fun xs H2 => Qv (x :: xs) H2) : tCons ta tr σ H Qv := h
theorem k_nil {Qv : List V → Hp → Prop} (h : Qv [] H) : tNil σ H Qv := h
theorem k_call {sp : Sp} {dvs : List V} {E : XK} {tr : TA} (h : tr σ H fun vs H1 => sp (vs ++ dvs) H1 Q E) : tCall sp dvs E tr σ H Q := h
theorem k_cb {rc : List V → Hp → VK → Prop} {tr : TA} (h : tr σ H fun vs H1 => rc vs H1 Q) : tCB rc tr σ H Q := h
theorem k_tup {tr : TA} (h : tr σ H fun xs H1 => xs.length ≤ sizeLine ∧ ∀ p, H1 p = none → Q (.ref p) (upd H1 p (.tup xs))) : tTup tr σ H Q := h
theorem k_lst {tr : TA} (h : tr σ H fun xs H1 => xs.length ≤ sizeLine ∧ ∀ p, H1 p = none → Q (.ref p) (upd H1 p (.lst xs))) : tLst tr σ H Q := h
theorem k_disp {A : Prop} {xs : List V} (h : xs.length ≤ 1000) (q : A) : xs.length ≤ sizeLine ∧ A := ⟨Nat.le_trans h (by decide), q⟩
theorem k_aug {ti : TIp} (hx : σ[i]? = some (some x)) (h : te σ H fun y H1 => ti x y H1 fun z H2 => D.nx (σ.set i (some z)) H2) : tAug i te ti D σ H := ⟨x, hx, h⟩
theorem k_ipI {f : Int → Int → Int} {a b : Int} (q : Q (.int (f a b)) H) : ipI f (.int a) (.int b) H Q := ⟨a, b, rfl, rfl, q⟩
theorem k_sl {rs : V → Option Int → Option Int → Hp → VK → Prop} {tl th : TO} (h : te σ H fun x H1 => tl σ H1 fun l H2 => th σ H2 fun u H3 => rs x l u H3 Q) : tSl rs te tl th σ H Q := h
def PartK (Qo : Option Int → Hp → Prop) (x : V) (H : Hp) : Prop := ∃ j, x = .int j ∧ Qo (some j) H
theorem k_part {Qo : Option Int → Hp → Prop} (h : te σ H (PartK Qo)) : tPart te σ H Qo := h
theorem k_partE {Qo : Option Int → Hp → Prop} {a : Int} (h : Qo (some a) H) : PartK Qo (.int a) H := ⟨a, rfl, h⟩
theorem k_noPart {Qo : Option Int → Hp → Prop} (h : Qo none H) : tNoPart σ H Qo := h
theorem k_bm {T : String} {rm : V → List V → Hp → VK → Prop} {tr : TA} (h : te σ H fun x H1 => tyV K T x H1 ∧ tr σ H1 fun xs H2 => rm x xs H2 Q) : tBM K T rm te tr σ H Q := h
theorem k_bm0 {T : String} {rm : V → List V → Hp → VK → Prop} (h : te σ H fun x H1 => tyV K T x H1 ∧ rm x [] H1 Q) : tBM0 K T rm te σ H Q := h
theorem k_app {l : Addr} {xs : List V} (h : H l = some (.lst xs)) (hl : xs.length < 100000) (q : Q .non (upd H l (.lst (xs ++ [y])))) : rAppend (.ref l) [y] H Q := ⟨l, xs, y, rfl, rfl, h, Nat.lt_of_lt_of_le hl (by decide), q⟩
theorem k_tyL {l : Addr} {xs : List V} {A : Prop} (h : SqL K H l xs) (q : A) : tyV K "list" (.ref l) H ∧ A := ⟨.inl ⟨rfl, _, h⟩, q⟩
theorem k_ixL {p : Addr} {xs : List V} {a : Int} (h : SqL K H p xs) (e : atI xs a = some x) (q : Q x H) : rIxL K (.ref p) (.int a) H Q := ⟨p, xs, a, x, rfl, rfl, h, e, q⟩
theorem k_ixT {p : Addr} {xs : List V} {a : Int} (h : SqT K H p xs) (e : atI xs a = some x) (q : Q x H) : rIxT K (.ref p) (.int a) H Q := ⟨p, xs, a, x, rfl, rfl, h, e, q⟩
theorem k_slL {p : Addr} {xs : List V} {lo hi : Option Int} (h : SqL K H p xs) (q : ∀ l, H l = none → Q (.ref l) (upd H l (.lst (cutV xs lo hi)))) : rSlL K (.ref p) lo hi H Q := ⟨p, xs, rfl, h, q⟩
def rLen (K : PySem.W.Frag) : List V → Hp → VK → Prop := fun xs H Q => ∃ p ys, xs = [.ref p] ∧ (SqL K H p ys ∨ SqT K H p ys) ∧ Q (.int ys.length) H
theorem call_lenK {X : Cx} : CallR X (.builtin "len") (rLen X.K) := call_len_seq
theorem k_lenL {p : Addr} {xs : List V} (h : SqL K H p xs) (q : Q (.int (xs.length : Int)) H) : rLen K [.ref p] H Q := ⟨p, xs, rfl, .inl h, q⟩
theorem k_lenT {p : Addr} {xs : List V} (h : SqT K H p xs) (q : Q (.int (xs.length : Int)) H) : rLen K [.ref p] H Q := ⟨p, xs, rfl, .inr h, q⟩
def rInsert : V → List V → Hp → VK → Prop := fun x vs H Q => ∃ (l : Addr) (xs : List V) (i : Int) (y : V), x = .ref l ∧ vs = [.int i, y] ∧ H l = some (.lst xs) ∧ xs.length < sizeLine ∧ 0 ≤ i ∧ i < 2 ^ 63 ∧ Q .non (upd H l (.lst (xs.take i.toNat ++ [y] ++ xs.drop i.toNat)))
theorem k_insert {l : Addr} {xs : List V} {i : Nat} (h : H l = some (.lst xs)) (hz : xs.length ≤ 100000) (hi : i ≤ 100000) (q : Q .non (upd H l (.lst (xs.take i ++ [y] ++ xs.drop i)))) : rInsert (.ref l) [.int (i : Int), y] H Q := ⟨l, xs, i, y, rfl, rfl, h, Nat.lt_of_le_of_lt hz (by decide), by omega, by omega, by rw [Int.toNat_natCast]; exact q⟩
theorem k_popAt {l : Addr} {xs : List V} {i : Nat} (h : H l = some (.lst xs)) (hi : i < xs.length) (hz : xs.length ≤ 100000) (e : xs[i]? = some y) (q : Q y (upd H l (.lst (xs.eraseIdx i)))) : rPopAt (.ref l) [.int (i : Int)] H Q := ⟨l, xs, i, i, y, rfl, rfl, h, by omega, by omega, by unfold PySem.seqIndex?; simp; omega, e, q⟩
theorem k_clear {l : Addr} {xs : List V} (h : H l = some (.lst xs)) (q : Q .non (upd H l (.lst []))) : rClear (.ref l) [] H Q := ⟨l, xs, rfl, rfl, h, q⟩
theorem k_extend {l b : Addr} {xs zs : List V} (h : H l = some (.lst xs)) (h2 : H b = some (.lst zs)) (hn : xs.length + zs.length ≤ 1000000) (q : Q .non (upd H l (.lst (xs ++ zs)))) : rExtend (.ref l) [.ref b] H Q := ⟨l, b, xs, zs, rfl, rfl, h, h2, Nat.le_trans hn (by decide), q⟩
theorem k_pop {l : Addr} {xs : List V} (h : H l = some (.lst (xs ++ [y]))) (q : Q y (upd H l (.lst xs))) : rPop (.ref l) [] H Q := ⟨l, xs ++ [y], y, rfl, rfl, h, by simp, by rw [List.dropLast_concat]; exact q⟩
def rInt1 : List V → Hp → VK → Prop := fun xs H Q => (∃ i, xs = [.int i] ∧ Q (.int i) H) ∨ ∃ k : Bool, xs = [.bl k] ∧ Q (.int (if k then 1 else 0)) H
theorem k_intB {k : Bool} (q : Q (.int (if k then 1 else 0)) H) : rInt1 [.bl k] H Q := .inr ⟨k, rfl, q⟩
def rTupOf (K : PySem.W.Frag) : List V → Hp → VK → Prop := fun xs H Q => ∃ p ys, xs = [.ref p] ∧ ((SqL K H p ys ∧ ∀ l, H l = none → Q (.ref l) (upd H l (.tup ys))) ∨ (SqT K H p ys ∧ Q (.ref p) H))
theorem call_tupK {X : Cx} : CallR X (.type "tuple") (rTupOf X.K) := call_tuple_of
theorem k_tupL {p : Addr} {xs : List V} (h : SqL K H p xs) (q : ∀ l, H l = none → Q (.ref l) (upd H l (.tup xs))) : rTupOf K [.ref p] H Q := ⟨p, xs, rfl, .inl ⟨h, q⟩⟩
def rLenStr : List V → Hp → VK → Prop := fun xs H Q => ∃ z : Str, xs = [.str z] ∧ z.length ≤ sizeLine ∧ Q (.int z.length) H
def rAddStr : R2 := fun x y H Q => ∃ i j : Str, x = .str i ∧ y = .str j ∧ i.length + j.length ≤ sizeLine ∧ Q (.str (i ++ j)) H
def rAbs : List V → Hp → VK → Prop := fun xs H Q => ∃ i, xs = [.int i] ∧ Q (.int (if i < 0 then -i else i)) H
theorem k_abs {a : Int} (q : Q (.int (if a < 0 then -a else a)) H) : rAbs [.int a] H Q := ⟨a, rfl, q⟩
def rMin2 : List V → Hp → VK → Prop := fun xs H Q => ∃ i j, xs = [.int i, .int j] ∧ Q (.int (if j < i then j else i)) H
def rMax2 : List V → Hp → VK → Prop := fun xs H Q => ∃ i j, xs = [.int i, .int j] ∧ Q (.int (if j > i then j else i)) H
theorem call_min2K {X : Cx} (hc : X.calm = true) : CallR X (.builtin "min") rMin2 := call_min2 hc
theorem call_max2K {X : Cx} (hc : X.calm = true) : CallR X (.builtin "max") rMax2 := call_max2 hc
theorem k_min2 {a b : Int} (q : Q (.int (if b < a then b else a)) H) : rMin2 [.int a, .int b] H Q := ⟨a, b, rfl, q⟩
theorem k_max2 {a b : Int} (q : Q (.int (if b > a then b else a)) H) : rMax2 [.int a, .int b] H Q := ⟨a, b, rfl, q⟩
def rListOf (K : PySem.W.Frag) : List V → Hp → VK → Prop := fun xs H Q => ∃ p ys, xs = [.ref p] ∧ (SqL K H p ys ∨ SqT K H p ys) ∧ ∀ l, H l = none → Q (.ref l) (upd H l (.lst ys))
theorem call_listK {X : Cx} : CallR X (.type "list") (rListOf X.K) := call_list_of
theorem k_listL {p : Addr} {xs : List V} (h : SqL K H p xs) (q : ∀ l, H l = none → Q (.ref l) (upd H l (.lst xs))) : rListOf K [.ref p] H Q := ⟨p, xs, rfl, .inl h, q⟩
theorem k_sum {p : Addr} {ns : List Int} (h : SqL K H p (ns.map V.int)) (q : Q (.int ns.sum) H) : rSum K [.ref p] H Q := ⟨p, ns, rfl, h, q⟩
theorem k_isInt {a : Int} (q : Q (.bl true) H) : rIsB [.int a, .ty "int"] H Q := ⟨.int a, "int", rfl, "int", true, fun _ => .base (.int a), by decide +kernel, q⟩
theorem k_isBool {a : Int} (q : Q (.bl false) H) : rIsB [.int a, .ty "bool"] H Q := ⟨.int a, "bool", rfl, "int", false, fun _ => .base (.int a), by decide +kernel, q⟩
theorem k_isBoolB {b : Bool} (q : Q (.bl true) H) : rIsB [.bl b, .ty "bool"] H Q := ⟨.bl b, "bool", rfl, "bool", true, fun _ => .base (.bl b), by decide +kernel, q⟩
theorem k_isIntB {b : Bool} (q : Q (.bl true) H) : rIsB [.bl b, .ty "int"] H Q := ⟨.bl b, "int", rfl, "bool", true, fun _ => .base (.bl b), by decide +kernel, q⟩
theorem k_isIntN (q : Q (.bl false) H) : rIsB [.non, .ty "int"] H Q := ⟨.non, "int", rfl, "NoneType", false, fun _ => .base .non, by decide +kernel, q⟩
theorem k_isList {a : Addr} {xs : List V} (h : H a = some (.lst xs)) (q : Q (.bl true) H) : rIsB [.ref a, .ty "list"] H Q := ⟨.ref a, "list", rfl, "list", true, fun _ => .base (.lst h), by decide +kernel, q⟩
theorem k_isTup {a : Addr} {xs : List V} (h : H a = some (.tup xs)) (q : Q (.bl true) H) : rIsB [.ref a, .ty "tuple"] H Q := ⟨.ref a, "tuple", rfl, "tuple", true, fun _ => .base (.tup h), by decide +kernel, q⟩
/-! ends -/
theorem k_nx {nx : L2.St → Hp → Prop} {rt : VK} {bk ct : L2.St → Hp → Prop} (h : nx σ H) : (Ends.mk nx rt bk ct).nx σ H := h
theorem k_rt {nx : L2.St → Hp → Prop} {rt : VK} {bk ct : L2.St → Hp → Prop} (h : rt x H) : (Ends.mk nx rt bk ct).rt x H := h
/-! ifs -/
theorem k_dec {p A B : Prop} [Decidable p] (h1 : p → A) (h2 : ¬ p → B) : if decide p = true then A else B := by
  by_cases h : p
  · rw [if_pos (decide_eq_true h)]; exact h1 h
  · rw [if_neg (fun z => h (of_decide_eq_true z))]; exact h2 h
theorem k_ndec {p A B : Prop} [Decidable p] (h1 : ¬ p → A) (h2 : p → B) : if (!decide p) = true then A else B := by
  by_cases h : p
  · rw [if_neg (by rw [decide_eq_true h]; decide)]; exact h2 h
  · rw [if_pos (by rw [decide_eq_false h]; decide)]; exact h1 h
theorem k_decT {p A B : Prop} [Decidable p] (h : p) (q : A) : if decide p = true then A else B := k_dec (fun _ => q) (fun z => absurd h z)
theorem k_decF {p A B : Prop} [Decidable p] (h : ¬ p) (q : B) : if decide p = true then A else B := k_dec (fun z => absurd z h) (fun _ => q)
theorem k_ndecT {p A B : Prop} [Decidable p] (h : p) (q : B) : if (!decide p) = true then A else B := k_ndec (fun z => absurd h z) (fun _ => q)
theorem k_ndecF {p A B : Prop} [Decidable p] (h : ¬ p) (q : A) : if (!decide p) = true then A else B := k_ndec (fun _ => q) (fun z => absurd z h)
theorem k_yes (h : Qb true H) : tYes σ H Qb := h
theorem k_T {A B : Prop} (q : A) : if true = true then A else B := iteT q
theorem k_F {A B : Prop} (q : B) : if false = true then A else B := iteF q
theorem k_nT {A B : Prop} (q : B) : if (!true) = true then A else B := iteF q
theorem k_nF {A B : Prop} (q : A) : if (!false) = true then A else B := iteT q
end
/-! ### items -/
theorem at_nat {α : Type} {xs : List α} {i : Nat} {x : α} (h : xs[i]? = some x) : atI xs (i : Int) = some x := atI_nat h
theorem at_int {α : Type} {xs : List α} {i : Int} {x : α} (h0 : 0 ≤ i) (h : xs[i.toNat]? = some x) : atI xs i = some x := by
  have e : i = ((i.toNat : Nat) : Int) := by omega
  rw [e]; exact atI_nat h
theorem mapint {ns : List Int} {i : Nat} {n : Int} (h : ns[i]? = some n) : (ns.map V.int)[i]? = some (.int n) := by
  rw [List.getElem?_map, h]; rfl
theorem of_mapint {ns : List Int} {i : Nat} {v : V} (h : (ns.map V.int)[i]? = some v) : ∃ n, ns[i]? = some n ∧ v = .int n := by
  rw [List.getElem?_map] at h
  cases e : ns[i]? with
  | none => rw [e] at h; cases h
  | some n => rw [e] at h; exact ⟨n, rfl, (Option.some.inj h).symm⟩
theorem cutTake (xs : List V) (n : Nat) : cutV xs none (some (n : Int)) = xs.take n := by
  unfold cutV
  rw [HT.sIx_none, HT.sIx_nat, List.drop_zero, Nat.sub_zero]
  rcases Nat.le_total n xs.length with h | h
  · rw [Nat.min_eq_left h]
  · rw [Nat.min_eq_right h, List.take_length, List.take_of_length_le h]
/-! ### steps on ends that are written out; loops -/
section
variable {σ : L2.St} {H : Hp} {Q rt : VK} {nx bk ct : L2.St → Hp → Prop} {t u tb : TS} {g : TG} {wi : TI} {c : TT} {i : Nat} {x : V} {K : PySem.W.Frag}
theorem m_seq (h : t (Ends.mk (u (Ends.mk nx rt bk ct)) rt bk ct) σ H) : tSeq t u (Ends.mk nx rt bk ct) σ H := h
theorem m_cut (Mid : L2.St → Hp → Prop) (h : t (Ends.mk Mid rt bk ct) σ H) (k : ∀ σ' H', Mid σ' H' → u (Ends.mk nx rt bk ct) σ' H') : Evl.tCut t u (Ends.mk nx rt bk ct) σ H := ⟨Mid, h, k⟩
theorem m_cut0 (h : t (Ends.mk (u (Ends.mk nx rt bk ct)) rt bk ct) σ H) : Evl.tCut t u (Ends.mk nx rt bk ct) σ H := ⟨_, h, fun _ _ x => x⟩
theorem m_bk (h : bk σ H) : tBreak (Ends.mk nx rt bk ct) σ H := h
theorem m_ct (h : ct σ H) : tCont (Ends.mk nx rt bk ct) σ H := h
theorem m_next (h : nx σ H) : tNext (Ends.mk nx rt bk ct) σ H := h
theorem m_gName {Qs : L2.St → Hp → Prop} (h : Qs (σ.set i (some x)) H) : gName i x σ H Qs := h
theorem m_call {sp : Sp} {E : XK} {tr : TA} (h : tr σ H fun vs H1 => sp vs H1 Q E) : tCall sp [] E tr σ H Q := by
  have e : (fun (vs : List V) (H1 : Hp) => sp (vs ++ []) H1 Q E) = fun vs H1 => sp vs H1 Q E := by
    funext vs H1; rw [List.append_nil]
  show tr σ H fun vs H1 => sp (vs ++ []) H1 Q E
  rw [e]; exact h
/-- a for loop over what J yields -/
def LoopOk (J : It) (g : TG) (tb : TS) (nx : L2.St → Hp → Prop) (rt : VK) (σ : L2.St) (H : Hp) : Prop :=
  ∃ W : Nat → Nat → L2.St → Hp → Prop, (∃ m, W 0 m σ H) ∧ ∀ i m σ H, W i m σ H →
  (J.stop i H ∧ nx σ H) ∨ (J.go i H ∧ ∃ N : L2.St → Hp → Prop, (∀ σ' H', N σ' H' → ∃ m', m' < m ∧ W (i + 1) m' σ' H') ∧ ∀ x H', J.yld i H x H' → g x σ H' fun σ2 H2 => tb (Ends.mk N rt nx N) σ2 H2)
theorem m_for (h : wi σ H fun J H1 => LoopOk J g tb nx rt σ H1) : tFor wi g tb (Ends.mk nx rt bk ct) σ H := h
def Rng1K (R : It → Hp → Prop) (vs : List V) (H : Hp) : Prop := ∃ j : Int, vs = [.int j] ∧ -(2 ^ 62) ≤ j ∧ j < 2 ^ 62 ∧ R (Itr 0 j.toNat) H
theorem m_rng1 {ta : TA} {R : It → Hp → Prop} (h : ta σ H (Rng1K R)) : iRng1 ta σ H R := h
theorem m_rng1e {R : It → Hp → Prop} {a : Int} (h1 : -(2 ^ 62) ≤ a ∧ a < 2 ^ 62) (h : R (Itr 0 a.toNat) H) : Rng1K R [V.int a] H := ⟨a, rfl, h1.1, h1.2, h⟩
theorem m_rng1n {R : It → Hp → Prop} {a : Nat} (h1 : (a : Int) < 2 ^ 62) (h : R (Itr 0 a) H) : Rng1K R [V.int (a : Int)] H := ⟨a, rfl, by omega, h1, by rw [Int.toNat_natCast]; exact h⟩
def Rng2K (R : It → Hp → Prop) (vs : List V) (H : Hp) : Prop := ∃ i j : Int, vs = [.int i, .int j] ∧ (-(2 ^ 62) ≤ i ∧ i < 2 ^ 62 ∧ -(2 ^ 62) ≤ j ∧ j < 2 ^ 62) ∧ R (Itr i (j - i).toNat) H
theorem m_rng2 {ta : TA} {R : It → Hp → Prop} (h : ta σ H (Rng2K R)) : iRng2 ta σ H R := h
theorem m_rng2e {R : It → Hp → Prop} {a b : Int} (h1 : -(2 ^ 62) ≤ a ∧ a < 2 ^ 62 ∧ -(2 ^ 62) ≤ b ∧ b < 2 ^ 62) (h : R (Itr a (b - a).toNat) H) : Rng2K R [V.int a, V.int b] H := ⟨a, b, rfl, h1, h⟩
def ListK (K : PySem.W.Frag) (R : It → Hp → Prop) (x : V) (H : Hp) : Prop := ∃ a, x = .ref a ∧ (∃ xs, SqL K H a xs) ∧ R (Itl K a) H
theorem m_iL {tl : TE} {R : It → Hp → Prop} (h : tl σ H (ListK K R)) : iList K tl σ H R := h
theorem m_iLe {R : It → Hp → Prop} {a : Addr} {xs : List V} (hx : SqL K H a xs) (h : R (Itl K a) H) : ListK K R (V.ref a) H := ⟨a, rfl, ⟨xs, hx⟩, h⟩
def TupK (K : PySem.W.Frag) (R : It → Hp → Prop) (x : V) (H : Hp) : Prop := ∃ a, x = .ref a ∧ (∃ xs, SqT K H a xs) ∧ R (Itt K a) H
theorem m_iT {tl : TE} {R : It → Hp → Prop} (h : tl σ H (TupK K R)) : iTup K tl σ H R := h
theorem m_iTe {R : It → Hp → Prop} {a : Addr} {xs : List V} (hx : SqT K H a xs) (h : R (Itt K a) H) : TupK K R (V.ref a) H := ⟨a, rfl, ⟨xs, hx⟩, h⟩
def iSeq (K : PySem.W.Frag) (tl : TE) : TI := fun σ H R => iList K tl σ H R ∨ iTup K tl σ H R
theorem m_seqL {tl : TE} {R : It → Hp → Prop} (h : tl σ H (ListK K R)) : iSeq K tl σ H R := .inl h
theorem m_seqT {tl : TE} {R : It → Hp → Prop} (h : tl σ H (TupK K R)) : iSeq K tl σ H R := .inr h
theorem pi_seq {X : Cx} {tg l : Expr} {tl : TE} (hl : PE X l tl) : PI X tg l (iSeq X.K tl) := ⟨fun pins s σ H R I h => h.elim (fun h => (pi_list hl).run pins s σ H R I h) fun h => (pi_tup hl).run pins s σ H R I h⟩
theorem loop_range {lo : Int} {n : Nat} (Pv : Nat → L2.St → Hp → Prop) (h0 : Pv 0 σ H)
    (hs : ∀ i σ H, i < n → Pv i σ H → g (.int (lo + i)) σ H fun σ2 H2 => tb (Ends.mk (Pv (i + 1)) rt nx (Pv (i + 1))) σ2 H2) (hd : ∀ σ H, Pv n σ H → nx σ H) : LoopOk (Itr lo n) g tb nx rt σ H :=
  for_range (D := Ends.mk nx rt nx nx) Pv h0 hs hd
theorem loop_range0 {n : Nat} (Pv : Nat → L2.St → Hp → Prop) (h0 : Pv 0 σ H)
    (hs : ∀ (i : Nat) σ H, i < n → Pv i σ H → g (.int (i : Int)) σ H fun σ2 H2 => tb (Ends.mk (Pv (i + 1)) rt nx (Pv (i + 1))) σ2 H2) (hd : ∀ σ H, Pv n σ H → nx σ H) : LoopOk (Itr 0 n) g tb nx rt σ H :=
  loop_range Pv h0 (fun i σ H hi p => by rw [Int.zero_add]; exact hs i σ H hi p) hd
theorem loop_list {a : Addr} {xs : List V} (Pv : Nat → L2.St → Hp → Prop) (h0 : Pv 0 σ H) (hl : ∀ i σ H, i ≤ xs.length → Pv i σ H → SqL K H a xs)
    (hs : ∀ i x σ H, xs[i]? = some x → Pv i σ H → g x σ H fun σ2 H2 => tb (Ends.mk (Pv (i + 1)) rt nx (Pv (i + 1))) σ2 H2) (hd : ∀ σ H, Pv xs.length σ H → nx σ H) : LoopOk (Itl K a) g tb nx rt σ H :=
  for_list (D := Ends.mk nx rt nx nx) Pv h0 hl hs hd
/-- over a list of ints -/
theorem loop_ints {a : Addr} {ns : List Int} (Pv : Nat → L2.St → Hp → Prop) (h0 : Pv 0 σ H) (hl : ∀ i σ H, Pv i σ H → SqL K H a (ns.map V.int))
    (hs : ∀ i n σ H, ns[i]? = some n → Pv i σ H → g (.int n) σ H fun σ2 H2 => tb (Ends.mk (Pv (i + 1)) rt nx (Pv (i + 1))) σ2 H2) (hd : ∀ σ H, Pv ns.length σ H → nx σ H) : LoopOk (Itl K a) g tb nx rt σ H :=
  loop_list (xs := ns.map V.int) Pv h0 (fun i σ H _ p => hl i σ H p) (fun i x σ H hx p => by
    obtain ⟨n, hn, rfl⟩ := of_mapint hx
    exact hs i n σ H hn p) (fun σ H p => hd σ H (by rw [List.length_map] at p; exact p))
theorem loop_tup {a : Addr} {xs : List V} (Pv : Nat → L2.St → Hp → Prop) (h0 : Pv 0 σ H) (hl : ∀ i σ H, i ≤ xs.length → Pv i σ H → SqT K H a xs)
    (hs : ∀ i x σ H, xs[i]? = some x → Pv i σ H → g x σ H fun σ2 H2 => tb (Ends.mk (Pv (i + 1)) rt nx (Pv (i + 1))) σ2 H2) (hd : ∀ σ H, Pv xs.length σ H → nx σ H) : LoopOk (Itt K a) g tb nx rt σ H :=
  for_tup (D := Ends.mk nx rt nx nx) Pv h0 hl hs hd
def WBody (W : Nat → L2.St → Hp → Prop) (m : Nat) (tb : TS) (rt : VK) (nx : L2.St → Hp → Prop) (σ : L2.St) (H : Hp) : Prop :=
  ∃ N : L2.St → Hp → Prop, (∀ σ' H', N σ' H' → ∃ m', m' < m ∧ W m' σ' H') ∧ tb (Ends.mk N rt nx N) σ H
theorem m_wbody {W : Nat → L2.St → Hp → Prop} {m : Nat} (h : tb (Ends.mk (fun σ' H' => ∃ m', m' < m ∧ W m' σ' H') rt nx (fun σ' H' => ∃ m', m' < m ∧ W m' σ' H')) σ H) : WBody W m tb rt nx σ H := ⟨_, fun _ _ h => h, h⟩
theorem loop_while (W : Nat → L2.St → Hp → Prop) (m : Nat) (h0 : W m σ H)
    (hs : ∀ m σ H, W m σ H → c σ H fun b H1 => if b = true then WBody W m tb rt nx σ H1 else nx σ H1) : tWhile c tb (Ends.mk nx rt bk ct) σ H := ⟨W, ⟨m, h0⟩, hs⟩
/-- a comprehension over what J yields -/
def CompOk (J : It) (g : TG) (tt : TT) (te : TE) (vs : List Nat) (σ : L2.St) (H1 : Hp) (Q : VK) : Prop :=
  ∀ D, H1 D = none → ∃ W : Nat → Nat → Hp → Prop, (∃ m, W 0 m (upd H1 D (.lst []))) ∧ ∀ i m H, W i m H →
  (J.stop i H ∧ Q (.ref D) H) ∨ (J.go i H ∧ ∃ Nx : Hp → Prop, (∀ H', Nx H' → ∃ m', m' < m ∧ W (i + 1) m' H') ∧ ∀ x H', J.yld i H x H' → g x (wipe σ vs) H' fun σ2 H2 => wipe σ2 vs = wipe σ vs ∧ tt σ2 H2 fun b H3 =>
    if b = true then te σ2 H3 fun y H4 => ∃ acc, H4 D = some (.lst acc) ∧ acc.length < sizeLine ∧ Nx (upd H4 D (.lst (acc ++ [y]))) else Nx H3)
theorem m_lc {tt : TT} {te : TE} {vs : List Nat} (h : wi σ H fun J H1 => CompOk J g tt te vs σ H1 Q) : tLc wi g tt te vs σ H Q := h
/-- over a range, no test, pure elements f i: the list made -/
theorem comp_rangeV {n : Nat} {te : TE} {j : Nat} {f : Nat → V} (hn : n ≤ 100000)
    (he : ∀ (k : Nat) (H2 : Hp) (Q2 : VK), k < n → Same H H2 → (∀ H3, Same H2 H3 → Q2 (f k) H3) → te ((wipe σ [j]).set j (some (.int (k : Int)))) H2 Q2)
    (q : ∀ p H', H p = none → Same H H' → H' p = some (.lst ((List.range n).map f)) → Q (.ref p) H') (hw : ∀ x, wipe ((wipe σ [j]).set j (some x)) [j] = wipe σ [j] := by intro _; rfl) : CompOk (Itr 0 n) (gName j) tYes te [j] σ H Q := by
  intro Dl hD
  refine lc_range (lo := 0) (n := n) (fun i H' => Same H H' ∧ H' Dl = some (.lst ((List.range i).map f))) ⟨same_new hD, upd_same⟩ (fun i H' hi p => ?_) (fun H' p => q Dl H' hD p.1 p.2)
  obtain ⟨p1, p2⟩ := p
  refine ⟨hw _, ?_⟩
  refine k_yes (iteT ?_)
  rw [Int.zero_add]
  refine he i H' _ hi p1 (fun H3 s3 => ⟨_, s3.get p2, ?_, Same.mut (p1.trans s3) hD ⟨_, s3.get p2⟩, ?_⟩)
  · rw [List.length_map, List.length_range]; exact Nat.lt_of_lt_of_le (Nat.lt_of_lt_of_le hi hn) (by decide)
  · rw [upd_same, List.range_succ, List.map_append]; rfl
/-- over a list, no test, pure elements -/
theorem comp_listV {a : Addr} {xs ys : List V} {te : TE} {j : Nat} (hl : SqL K H a xs) (hn : xs.length ≤ 100000) (hy : ys.length = xs.length)
    (he : ∀ (k : Nat) (x y : V) (H2 : Hp) (Q2 : VK), xs[k]? = some x → ys[k]? = some y → Same H H2 → (∀ H3, Same H2 H3 → Q2 y H3) → te ((wipe σ [j]).set j (some x)) H2 Q2)
    (q : ∀ p H', H p = none → Same H H' → H' p = some (.lst ys) → Q (.ref p) H') (hw : ∀ x, wipe ((wipe σ [j]).set j (some x)) [j] = wipe σ [j] := by intro _; rfl) : CompOk (Itl K a) (gName j) tYes te [j] σ H Q := by
  intro Dl hD
  refine lc_list (xs := xs) (fun i H' => Same H H' ∧ H' Dl = some (.lst (ys.take i))) ⟨same_new hD, upd_same⟩ (fun i H' _ p => p.1.seq hl) (fun i x H' hi p => ?_) (fun H' p => q Dl H' hD p.1 (by rw [p.2, ← hy, List.take_length]))
  obtain ⟨p1, p2⟩ := p
  refine ⟨hw _, ?_⟩
  refine k_yes (iteT ?_)
  have hlt : i < xs.length := (List.getElem?_eq_some_iff.mp hi).1
  obtain ⟨y, ey⟩ : ∃ y, ys[i]? = some y := ⟨ys[i]'(by omega), List.getElem?_eq_getElem (by omega)⟩
  refine he i x y H' _ hi ey p1 (fun H3 s3 => ⟨_, s3.get p2, ?_, Same.mut (p1.trans s3) hD ⟨_, s3.get p2⟩, ?_⟩)
  · rw [List.length_take]; exact Nat.lt_of_le_of_lt (Nat.min_le_right _ _) (Nat.lt_of_lt_of_le (show ys.length < 100001 by omega) (by decide))
  · rw [upd_same, List.take_add_one, ey]; rfl
/-- over a list, no test, elements of which something is known -/
theorem comp_listP {a : Addr} {xs : List V} {te : TE} {j : Nat} (P : Nat → V → Prop) (hl : SqL K H a xs) (hn : xs.length ≤ 100000)
    (he : ∀ (k : Nat) (x : V) (H2 : Hp) (Q2 : VK), xs[k]? = some x → Same H H2 → (∀ y H3, P k y → Same H2 H3 → Q2 y H3) → te ((wipe σ [j]).set j (some x)) H2 Q2)
    (q : ∀ p H' ys, H p = none → Same H H' → H' p = some (.lst ys) → ys.length = xs.length → (∀ k y, ys[k]? = some y → P k y) → Q (.ref p) H') (hw : ∀ x, wipe ((wipe σ [j]).set j (some x)) [j] = wipe σ [j] := by intro _; rfl) : CompOk (Itl K a) (gName j) tYes te [j] σ H Q := by
  intro Dl hD
  refine lc_list (xs := xs) (fun i H' => Same H H' ∧ ∃ ys, H' Dl = some (.lst ys) ∧ ys.length = i ∧ ∀ k y, ys[k]? = some y → P k y) ⟨same_new hD, [], upd_same, rfl, fun k y e => by simp at e⟩ (fun i H' _ p => p.1.seq hl) (fun i x H' hi p => ?_) (fun H' p => ?_)
  · obtain ⟨p1, ys, p2, p3, p4⟩ := p
    refine ⟨hw _, ?_⟩
    refine k_yes (iteT ?_)
    have hlt : i < xs.length := (List.getElem?_eq_some_iff.mp hi).1
    refine he i x H' _ hi p1 (fun y H3 hy s3 => ⟨_, s3.get p2, by rw [p3]; exact Nat.lt_of_lt_of_le (Nat.lt_of_lt_of_le hlt hn) (by decide), Same.mut (p1.trans s3) hD ⟨_, s3.get p2⟩, ys ++ [y], upd_same, by rw [List.length_append, p3]; rfl, fun k z e => ?_⟩)
    rcases Nat.lt_or_ge k ys.length with w | w
    · rw [List.getElem?_append_left w] at e; exact p4 k z e
    · rw [List.getElem?_append_right w] at e
      obtain ⟨h1, h2⟩ := List.getElem?_eq_some_iff.mp e
      rw [List.length_singleton] at h1
      have hk : k = i := by omega
      have e2 : z = y := by
        rw [show k - ys.length = 0 by omega] at e
        exact (Option.some.inj e).symm
      rw [hk, e2]; exact hy
  · obtain ⟨p1, ys, p2, p3, p4⟩ := p
    exact q Dl H' ys hD p1 p2 p3 p4
end
/-! ### loops over any walk -/
section
variable {σ : L2.St} {H : Hp} {Q rt : VK} {nx bk ct : L2.St → Hp → Prop} {t u tb : TS} {g : TG} {i : Nat} {x : V} {K : PySem.W.Frag} {J : It} {n : Nat} {G : Hp → Prop} {Y : Nat → Hp → V → Hp → Prop}
theorem loop_walk (w : Walk J n G Y) (Pv : Nat → L2.St → Hp → Prop) (h0 : Pv 0 σ H) (hG : ∀ i σ H, Pv i σ H → G H)
    (hs : ∀ i x σ H H', i < n → Pv i σ H → Y i H x H' → g x σ H' fun σ2 H2 => tb (Ends.mk (Pv (i + 1)) rt nx (Pv (i + 1))) σ2 H2) (hd : ∀ σ H, Pv n σ H → nx σ H) : LoopOk J g tb nx rt σ H :=
  for_it (D := Ends.mk nx rt nx nx) w Pv h0 (fun i σ H _ p => hG i σ H p) hs hd
/-- a comprehension with a test: at each turn the item is dropped, or f i is kept -/
theorem comp_walkV {te : TE} {tt : TT} {j : Nat} {f : Nat → Option V} (w : Walk J n G Y) (hn : n ≤ 100000) (hG : ∀ H', Same H H' → G H')
    (he : ∀ (k : Nat) (x : V) (H1 H2 : Hp) (Qb : Bool → Hp → Prop), k < n → Same H H1 → Y k H1 x H2 → (∀ b H3, Same H1 H3 → (b = true → ∀ Q2 : VK, ∀ H4, Same H3 H4 → ∃ y, f k = some y ∧ ((∀ H5, Same H4 H5 → Q2 y H5) → te ((wipe σ [j]).set j (some x)) H4 Q2)) → (b = false → f k = none) → Qb b H3) → tt ((wipe σ [j]).set j (some x)) H2 Qb)
    (q : ∀ p H', H p = none → Same H H' → H' p = some (.lst ((List.range n).filterMap f)) → Q (.ref p) H') (hw : ∀ x, wipe ((wipe σ [j]).set j (some x)) [j] = wipe σ [j] := by intro _; rfl) : CompOk J (gName j) tt te [j] σ H Q := by
  intro Dl hD
  refine lc_it w (fun i H' => Same H H' ∧ H' Dl = some (.lst ((List.range i).filterMap f))) ⟨same_new hD, upd_same⟩ (fun i H' _ p => hG H' p.1) (fun i x H' H'' hi p hy => ?_) (fun H' p => q Dl H' hD p.1 p.2)
  obtain ⟨p1, p2⟩ := p
  refine ⟨hw _, he i x H' H'' _ hi p1 hy (fun b H3 s3 hb1 hb0 => ?_)⟩
  have hl : ((List.range i).filterMap f).length < sizeLine := Nat.lt_of_le_of_lt (List.length_filterMap_le f (List.range i)) (by rw [List.length_range]; exact Nat.lt_of_lt_of_le (Nat.lt_of_lt_of_le hi hn) (by decide))
  cases b with
  | true =>
    refine iteT ?_
    obtain ⟨y, ey, go⟩ := hb1 rfl (fun y H4 => ∃ acc, H4 Dl = some (.lst acc) ∧ acc.length < sizeLine ∧ Same H (upd H4 Dl (.lst (acc ++ [y]))) ∧ upd H4 Dl (.lst (acc ++ [y])) Dl = some (.lst ((List.range (i + 1)).filterMap f))) H3 (Same.refl _)
    refine go fun H5 s5 => ⟨_, s5.get (s3.get p2), hl, Same.mut ((p1.trans s3).trans s5) hD ⟨_, s5.get (s3.get p2)⟩, ?_⟩
    rw [upd_same, List.range_succ, List.filterMap_append]
    show _ = some (HO.lst (_ ++ List.filterMap f [i]))
    rw [List.filterMap_cons, ey]; rfl
  | false =>
    refine iteF ⟨p1.trans s3, ?_⟩
    rw [List.range_succ, List.filterMap_append]
    rw [show List.filterMap f [i] = [] by rw [List.filterMap_cons, hb0 rfl]; rfl, List.append_nil]
    exact s3.get p2
theorem k_rev {a : Addr} {xs : List V} {ta : TA} {R : It → Hp → Prop} (h : ta σ H fun vs H1 => ∃ (a : Addr) (xs : List V), vs = [.ref a] ∧ SqL K H1 a xs ∧ R (Itv K a xs.length) H1) : iRev K ta σ H R := h
def RevK (K : PySem.W.Frag) (R : It → Hp → Prop) (vs : List V) (H : Hp) : Prop := ∃ (a : Addr) (xs : List V), vs = [.ref a] ∧ SqL K H a xs ∧ R (Itv K a xs.length) H
theorem m_rev {ta : TA} {R : It → Hp → Prop} (h : ta σ H (RevK K R)) : iRev K ta σ H R := h
theorem m_revE {a : Addr} {xs : List V} {R : It → Hp → Prop} (hx : SqL K H a xs) (h : R (Itv K a xs.length) H) : RevK K R [.ref a] H := ⟨a, xs, rfl, hx, h⟩
def EnumK (K : PySem.W.Frag) (R : It → Hp → Prop) (vs : List V) (H : Hp) : Prop := ∃ (a : Addr) (xs : List V), vs = [.ref a] ∧ SqL K H a xs ∧ R (Ite K a) H
theorem m_enum {ta : TA} {R : It → Hp → Prop} (h : ta σ H (EnumK K R)) : iEnum K ta σ H R := h
theorem m_enumE {a : Addr} {xs : List V} {R : It → Hp → Prop} (hx : SqL K H a xs) (h : R (Ite K a) H) : EnumK K R [.ref a] H := ⟨a, xs, rfl, hx, h⟩
def ZipK (K : PySem.W.Frag) (R : It → Hp → Prop) (vs : List V) (H : Hp) : Prop := ∃ a b xs ys, vs = [.ref a, .ref b] ∧ SqL K H a xs ∧ SqL K H b ys ∧ R (Itz K a b) H
theorem m_zip {ta : TA} {R : It → Hp → Prop} (h : ta σ H (ZipK K R)) : iZip K ta σ H R := h
theorem m_zipE {a b : Addr} {xs ys : List V} {R : It → Hp → Prop} (hx : SqL K H a xs) (hy : SqL K H b ys) (h : R (Itz K a b) H) : ZipK K R [.ref a, .ref b] H := ⟨a, b, xs, ys, rfl, hx, hy, h⟩
def RevLK (K : PySem.W.Frag) (Q : VK) (x : V) (H : Hp) : Prop := ∃ a xs, x = .ref a ∧ SqL K H a xs ∧ ∀ p, H p = none → Q (.ref p) (upd H p (.lst xs.reverse))
theorem m_revL {te : TE} (h : te σ H (RevLK K Q)) : tRevL K te σ H Q := h
theorem m_revLE {a : Addr} {xs : List V} (hx : SqL K H a xs) (q : ∀ p, H p = none → Q (.ref p) (upd H p (.lst xs.reverse))) : RevLK K Q (.ref a) H := ⟨a, xs, rfl, hx, q⟩
def Rng3K (R : It → Hp → Prop) (vs : List V) (H : Hp) : Prop := ∃ i j c n, vs = [.int i, .int j, .int c] ∧ RgC i j c n ∧ R (Itc i c n) H
theorem m_rng3 {ta : TA} {R : It → Hp → Prop} (h : ta σ H (Rng3K R)) : iRng3 ta σ H R := h
theorem m_rng3e {R : It → Hp → Prop} {a b c : Int} {n : Nat} (h1 : RgC a b c n) (h : R (Itc a c n) H) : Rng3K R [V.int a, V.int b, V.int c] H := ⟨a, b, c, n, rfl, h1, h⟩
/-- targets that are pairs -/
def GTupK (K : PySem.W.Frag) (n : Nat) (tg : TGs) (Qs : L2.St → Hp → Prop) (x : V) (σ : L2.St) (H : Hp) : Prop := ∃ a xs, x = .ref a ∧ SqT K H a xs ∧ xs.length = n ∧ tg xs σ H Qs
theorem m_gTup {tg : TGs} {Qs : L2.St → Hp → Prop} {a : Addr} {xs : List V} (hx : SqT K H a xs) (hn : xs.length = n) (h : tg xs σ H Qs) : gTup K n tg (.ref a) σ H Qs := ⟨a, xs, rfl, hx, hn, h⟩
theorem m_gCons {t1 : TG} {ts : TGs} {Qs : L2.St → Hp → Prop} {xs : List V} (h : t1 x σ H fun σ' H' => ts xs σ' H' Qs) : gCons t1 ts (x :: xs) σ H Qs := ⟨x, xs, rfl, h⟩
theorem m_gNil {Qs : L2.St → Hp → Prop} (h : Qs σ H) : gNil [] σ H Qs := ⟨rfl, h⟩
theorem m_asg {te : TE} (h : te σ H fun x H1 => g x σ H1 nx) : tAsg te g (Ends.mk nx rt bk ct) σ H := h
theorem k_rep {Q : VK} {l : Addr} {xs : List V} {n : Nat} (h : H l = some (.lst xs)) (hn : xs.length * n ≤ 1000000) (hn2 : n ≤ 1000000) (q : ∀ p, H p = none → Q (.ref p) (upd H p (.lst (List.replicate n xs).flatten))) : rRep (.ref l) (.int (n : Int)) H Q :=
  ⟨l, n, xs, rfl, rfl, h, by omega, by omega, by rw [Int.toNat_natCast]; exact Nat.le_trans hn (by decide), by rw [Int.toNat_natCast]; exact q⟩
theorem k_cat {Q : VK} {l b : Addr} {xs zs : List V} (h1 : H l = some (.lst xs)) (h2 : H b = some (.lst zs)) (hn : xs.length + zs.length ≤ 1000000) (q : ∀ p, H p = none → Q (.ref p) (upd H p (.lst (xs ++ zs)))) : rCat (.ref l) (.ref b) H Q :=
  ⟨l, b, xs, zs, rfl, rfl, h1, h2, Nat.le_trans hn (by decide), q⟩
theorem rep_one (x : V) (n : Nat) : (List.replicate n [x]).flatten = List.replicate n x := by
  induction n with
  | zero => rfl
  | succ n ih => rw [List.replicate_succ, List.flatten_cons, ih]; rfl
theorem m_gSub {to ti : TE} {ts : TSet} {Qs : L2.St → Hp → Prop} (h : to σ H fun o H1 => ti σ H1 fun i H2 => ts o i x H2 fun H3 => Qs σ H3) : gSub to ti ts x σ H Qs := h
theorem m_setL {p : Addr} {xs : List V} {k : Int} {j : Nat} {y : V} {Qh : Hp → Prop} (h : H p = some (.lst xs)) (hj : ixN xs.length k = some j) (q : Qh (upd H p (.lst (xs.set j y)))) : rSetL (.ref p) (.int k) y H Qh := ⟨p, xs, k, j, rfl, rfl, h, hj, q⟩
theorem ixN_nat {n : Nat} {k : Int} (h0 : 0 ≤ k) (h1 : k < n) : ixN n k = some k.toNat := by
  unfold ixN; rw [if_pos h0, if_pos h1]
def ParK (nx : L2.St → Hp → Prop) (i j : Nat) (σ : L2.St) (vs : List V) (H : Hp) : Prop := ∃ v w, vs = [v, w] ∧ nx ((σ.set i (some v)).set j (some w)) H
theorem m_par {i j : Nat} {ta : TA} (h : ta σ H (ParK nx i j σ)) : tPar i j ta (Ends.mk nx rt bk ct) σ H := h
theorem m_parE {i j : Nat} {a b : V} (h : nx ((σ.set i (some a)).set j (some b)) H) : ParK nx i j σ [a, b] H := ⟨a, b, rfl, h⟩
theorem k_divmod {Q : VK} {a b : Int} (h : CDivP a b) (q : ∀ p, H p = none → Q (.ref p) (upd H p (.tup [.int (a / b), .int (a % b)]))) : rDivmod [.int a, .int b] H Q := ⟨a, b, rfl, h, q⟩
end
/-! ### what a comprehension with a test leaves -/
theorem fm_head {α : Type} {f : Nat → Option α} : ∀ {n : Nat} {y : α}, ((List.range n).filterMap f)[0]? = some y → ∃ i, i < n ∧ f i = some y ∧ ∀ j, j < i → f j = none
  | 0, y, h => by simp at h
  | n + 1, y, h => by
    rw [List.range_succ, List.filterMap_append] at h
    cases e : (List.range n).filterMap f with
    | cons z zs =>
      rw [e] at h
      have h' : ((List.range n).filterMap f)[0]? = some y := by rw [e]; simpa using h
      obtain ⟨i, h1, h2, h3⟩ := fm_head h'
      exact ⟨i, by omega, h2, h3⟩
    | nil =>
      rw [e, List.nil_append] at h
      have none_all : ∀ j, j < n → f j = none := fun j hj => List.filterMap_eq_nil_iff.mp e j (List.mem_range.mpr hj)
      cases q : f n with
      | none => rw [List.filterMap_cons, q] at h; simp at h
      | some z =>
        rw [List.filterMap_cons, q] at h
        have : z = y := by simpa using h
        subst this
        exact ⟨n, by omega, q, none_all⟩
theorem fm_last {α : Type} {f : Nat → Option α} : ∀ {n : Nat} {y : α} {ys : List α}, (List.range n).filterMap f = ys ++ [y] → ∃ i, i < n ∧ f i = some y ∧ ∀ j, i < j → j < n → f j = none
  | 0, y, ys, h => by simp at h
  | n + 1, y, ys, h => by
    rw [List.range_succ, List.filterMap_append] at h
    cases q : f n with
    | none =>
      rw [show List.filterMap f [n] = [] by rw [List.filterMap_cons, q]; rfl, List.append_nil] at h
      obtain ⟨i, h1, h2, h3⟩ := fm_last h
      refine ⟨i, by omega, h2, fun j h4 h5 => ?_⟩
      rcases Nat.lt_or_ge j n with h6 | h6
      · exact h3 j h4 h6
      · have : j = n := by omega
        subst this; exact q
    | some z =>
      rw [show List.filterMap f [n] = [z] by rw [List.filterMap_cons, q]; rfl] at h
      have e := List.append_inj_right' h rfl
      injection e with e
      subst e
      exact ⟨n, by omega, q, fun j h4 h5 => by omega⟩
theorem fm_nil {α : Type} {f : Nat → Option α} {n : Nat} (h : (List.range n).filterMap f = []) : ∀ j, j < n → f j = none := fun j hj => List.filterMap_eq_nil_iff.mp h j (List.mem_range.mpr hj)
theorem fm_id {α : Type} (l : List α) {n : Nat} (hn : n = l.length) : (List.range n).filterMap (fun k => l[k]?) = l := by
  subst hn
  have h : ∀ n, n ≤ l.length → (List.range n).filterMap (fun k => l[k]?) = l.take n := by
    intro n
    induction n with
    | zero => intro _; rfl
    | succ n ih =>
      intro hn
      rw [List.range_succ, List.filterMap_append, ih (by omega), List.take_add_one, List.getElem?_eq_getElem (show n < l.length by omega)]
      congr 1
      rw [List.filterMap_cons, List.getElem?_eq_getElem (show n < l.length by omega)]; rfl
  rw [h _ (Nat.le_refl _), List.take_length]
theorem snoc_of {α : Type} : ∀ {l : List α}, l ≠ [] → ∃ ys y, l = ys ++ [y]
  | [], h => absurd rfl h
  | a :: l, _ => ⟨(a :: l).dropLast, (a :: l).getLast (List.cons_ne_nil _ _), (List.dropLast_concat_getLast _).symm⟩
theorem cutPart (xs : List V) (a b : Nat) : cutV xs (some (a : Int)) (some (b : Int)) = (xs.take b).drop a := by
  unfold cutV
  rw [HT.sIx_nat, HT.sIx_nat, List.drop_take]
  rcases Nat.le_total a xs.length with h | h
  · rw [Nat.min_eq_left h]
    rcases Nat.le_total b xs.length with h2 | h2
    · rw [Nat.min_eq_left h2]
    · rw [Nat.min_eq_right h2, List.take_of_length_le (by rw [List.length_drop]; omega), List.take_of_length_le (by rw [List.length_drop]; omega)]
  · rw [Nat.min_eq_right h, List.drop_of_length_le (Nat.le_refl _), List.drop_of_length_le h]
    simp
/-- a part of a list of ints -/
theorem cut_ints (ns : List Int) (lo hi : Option Int) : ∃ cs : List Int, cutV (ns.map V.int) lo hi = cs.map V.int ∧ (∀ x ∈ cs, x ∈ ns) ∧ cs.length ≤ ns.length := by
  unfold cutV
  refine ⟨_, by rw [← List.map_drop, ← List.map_take], fun x h => List.mem_of_mem_drop (List.mem_of_mem_take h), by rw [List.length_take, List.length_drop]; omega⟩
theorem cutDrop (xs : List V) (a : Nat) : cutV xs (some (a : Int)) none = xs.drop a := by
  unfold cutV
  rw [HT.sIx_nat, HT.sIx_none]
  rcases Nat.le_total a xs.length with h | h
  · rw [Nat.min_eq_left h, List.take_of_length_le (by rw [List.length_drop]; omega)]
  · rw [Nat.min_eq_right h, List.drop_of_length_le (Nat.le_refl _), List.drop_of_length_le h]
    simp
/-! ### data at any depth -/
section
variable {H H' : Hp} {K : PySem.W.Frag}
theorem dpAll_ints : ∀ ns : List Int, DpAll K H (ns.map V.int) (ns.map PyData.int)
  | [] => .nil
  | n :: ns => .cons (.int n) (dpAll_ints ns)
theorem dpAll_bools : ∀ bs : List Bool, DpAll K H (bs.map V.bl) (bs.map PyData.bool)
  | [] => .nil
  | b :: bs => .cons (.bl b) (dpAll_bools bs)
theorem dp_ints {a : Addr} {ns : List Int} (h : SqL K H a (ns.map V.int)) : Dp K H (.ref a) (.list (ns.map PyData.int)) := .lst h (dpAll_ints ns)
theorem dp_intsT {a : Addr} {ns : List Int} (h : SqT K H a (ns.map V.int)) : Dp K H (.ref a) (.tuple (ns.map PyData.int)) := .tup h (dpAll_ints ns)
theorem eqvAll_ints : ∀ as bs : List Int, PyData.eqvAll (as.map PyData.int) (bs.map PyData.int) = decide (as = bs)
  | [], [] => by rw [List.map_nil]; unfold PyData.eqvAll; rfl
  | [], b :: bs => by rw [List.map_nil, List.map_cons]; unfold PyData.eqvAll; simp
  | a :: as, [] => by rw [List.map_nil, List.map_cons]; unfold PyData.eqvAll; simp
  | a :: as, b :: bs => by
    rw [List.map_cons, List.map_cons]; unfold PyData.eqvAll
    rw [eqvAll_ints as bs]
    unfold PyData.eqv
    by_cases h : a = b
    · subst h; by_cases h2 : as = bs
      · subst h2; simp
      · simp [h2]
    · simp [h]
theorem eqv_ints (as bs : List Int) : PyData.eqv (.list (as.map PyData.int)) (.list (bs.map PyData.int)) = decide (as = bs) := by
  unfold PyData.eqv; exact eqvAll_ints as bs
theorem eqv_intsT (as bs : List Int) : PyData.eqv (.tuple (as.map PyData.int)) (.tuple (bs.map PyData.int)) = decide (as = bs) := by
  unfold PyData.eqv; exact eqvAll_ints as bs
/-- laid: no dict, texts in order, at most so deep -/
def laid (n : Nat) (d : PyData) : Prop := d.canLay0 = true ∧ d.depth ≤ n
theorem laid_int {n : Nat} (i : Int) : laid n (.int i) := ⟨by simp [PyData.canLay0], by simp [PyData.depth]⟩
theorem laid_bool {n : Nat} (i : Bool) : laid n (.bool i) := ⟨by simp [PyData.canLay0], by simp [PyData.depth]⟩
theorem laid_none {n : Nat} : laid n .none := ⟨by simp [PyData.canLay0], by simp [PyData.depth]⟩
theorem laid_all {n : Nat} : ∀ ds : List PyData, (∀ d ∈ ds, laid n d) → PyData.canLayAll0 ds = true ∧ PyData.depthAll ds ≤ n
  | [], _ => ⟨by simp [PyData.canLayAll0], by simp [PyData.depthAll]⟩
  | d :: ds, h => by
    obtain ⟨h1, h2⟩ := h d List.mem_cons_self
    obtain ⟨h3, h4⟩ := laid_all ds fun x hx => h x (List.mem_cons_of_mem _ hx)
    exact ⟨by simp [PyData.canLayAll0, h1, h3], by simp only [PyData.depthAll]; omega⟩
theorem laid_list {n : Nat} {ds : List PyData} (h : ∀ d ∈ ds, laid n d) : laid (n + 1) (.list ds) := by
  obtain ⟨h1, h2⟩ := laid_all ds h
  exact ⟨by simp [PyData.canLay0, h1], by simp only [PyData.depth]; omega⟩
theorem laid_tup {n : Nat} {ds : List PyData} (h : ∀ d ∈ ds, laid n d) : laid (n + 1) (.tuple ds) := by
  obtain ⟨h1, h2⟩ := laid_all ds h
  exact ⟨by simp [PyData.canLay0, h1], by simp only [PyData.depth]; omega⟩
theorem laid_ints {n : Nat} (ns : List Int) : laid (n + 1) (.list (ns.map PyData.int)) := laid_list fun d hd => by
  obtain ⟨i, _, rfl⟩ := List.mem_map.mp hd
  exact laid_int i
theorem laid_intsT {n : Nat} (ns : List Int) : laid (n + 1) (.tuple (ns.map PyData.int)) := laid_tup fun d hd => by
  obtain ⟨i, _, rfl⟩ := List.mem_map.mp hd
  exact laid_int i
theorem laid_bools {n : Nat} (bs : List Bool) : laid (n + 1) (.list (bs.map PyData.bool)) := laid_list fun d hd => by
  obtain ⟨i, _, rfl⟩ := List.mem_map.mp hd
  exact laid_bool i
theorem laid_shaped {d : PyData} (h : laid 64 d) : SeqAt.shaped d = true := by
  obtain ⟨h1, h2⟩ := h
  unfold SeqAt.shaped
  rw [h1, decide_eq_true h2]; rfl
theorem k_eqD {Q : VK} {x y : V} {d e : PyData} (h1 : Dp K H x d) (h2 : Dp K H y e) (l1 : laid 64 d) (l2 : laid 64 e) (q : Q (.bl (PyData.eqv d e)) H) : rEqD K x y H Q :=
  ⟨d, e, h1, h2, laid_shaped l1, laid_shaped l2, q⟩
theorem k_neD {Q : VK} {x y : V} {d e : PyData} (h1 : Dp K H x d) (h2 : Dp K H y e) (l1 : laid 64 d) (l2 : laid 64 e) (q : Q (.bl (!PyData.eqv d e)) H) : rNeD K x y H Q :=
  ⟨d, e, h1, h2, laid_shaped l1, laid_shaped l2, q⟩
theorem k_eqL {Q : VK} {a b : Addr} {ns ms : List Int} (h1 : SqL K H a (ns.map V.int)) (h2 : SqL K H b (ms.map V.int)) (q : Q (.bl (decide (ns = ms))) H) : rEqD K (.ref a) (.ref b) H Q :=
  k_eqD (dp_ints h1) (dp_ints h2) (laid_ints ns) (laid_ints ms) (by rw [eqv_ints]; exact q)
theorem k_neL {Q : VK} {a b : Addr} {ns ms : List Int} (h1 : SqL K H a (ns.map V.int)) (h2 : SqL K H b (ms.map V.int)) (q : Q (.bl (!decide (ns = ms))) H) : rNeD K (.ref a) (.ref b) H Q :=
  k_neD (dp_ints h1) (dp_ints h2) (laid_ints ns) (laid_ints ms) (by rw [eqv_ints]; exact q)
end
/-- a row's tables: a number and a tuple of numbers -/
theorem eqv_row (n : Int) (as : List Int) : PyData.eqv (.tuple [.int n, .tuple (as.map PyData.int)]) (.tuple [.int n, .tuple (as.map PyData.int)]) = true := by
  unfold PyData.eqv PyData.eqvAll; unfold PyData.eqv PyData.eqvAll
  simp [eqv_intsT, PyData.eqvAll]
theorem dp_row {K : PySem.W.Frag} {H : Hp} {t a : Addr} {n : Int} {as : List Int} (h1 : SqT K H t [.int n, .ref a]) (h2 : SqT K H a (as.map V.int)) : Dp K H (.ref t) (.tuple [.int n, .tuple (as.map PyData.int)]) :=
  .tup h1 (.cons (.int n) (.cons (dp_intsT h2) .nil))
theorem laid_row (n : Int) (as : List Int) : laid 64 (.tuple [.int n, .tuple (as.map PyData.int)]) := laid_tup (n := 63) fun d hd => by
  simp only [List.mem_cons, List.not_mem_nil, or_false] at hd
  rcases hd with rfl | rfl
  · exact laid_int _
  · exact laid_intsT _
theorem k_eqRow {K : PySem.W.Frag} {H : Hp} {Q : VK} {t u a b : Addr} {n : Int} {as : List Int} (h1 : SqT K H t [.int n, .ref a]) (h2 : SqT K H a (as.map V.int)) (h3 : SqT K H u [.int n, .ref b]) (h4 : SqT K H b (as.map V.int)) (q : Q (.bl true) H) : rEqD K (.ref t) (.ref u) H Q :=
  k_eqD (dp_row h1 h2) (dp_row h3 h4) (laid_row n as) (laid_row n as) (by rw [eqv_row]; exact q)
theorem any_int (i : Int) : ∀ ns : List Int, ((ns.map PyData.int).any fun z => PyData.eqv z (.int i)) = decide (i ∈ ns)
  | [] => by simp
  | n :: ns => by
    rw [List.map_cons, List.any_cons, any_int i ns]
    unfold PyData.eqv
    by_cases h : n = i
    · subst h; simp
    · have h' : ¬ i = n := fun z => h z.symm
      simp [h, h']
theorem k_inL {K : PySem.W.Frag} {H : Hp} {Q : VK} {i : Int} {a : Addr} {ns : List Int} (h : SqL K H a (ns.map V.int)) (q : Q (.bl (decide (i ∈ ns))) H) : rInD K (.int i) (.ref a) H Q :=
  ⟨.int i, _, .int i, dp_ints h, laid_shaped (laid_int i), laid_shaped (laid_ints ns), by rw [any_int]; exact q⟩
theorem k_notInL {K : PySem.W.Frag} {H : Hp} {Q : VK} {i : Int} {a : Addr} {ns : List Int} (h : SqL K H a (ns.map V.int)) (q : Q (.bl (!decide (i ∈ ns))) H) : rNotInD K (.int i) (.ref a) H Q :=
  ⟨.int i, _, .int i, dp_ints h, laid_shaped (laid_int i), laid_shaped (laid_ints ns), by rw [any_int]; exact q⟩
section
variable {H : Hp} {K : PySem.W.Frag}
theorem eqvAll_bools : ∀ as bs : List Bool, PyData.eqvAll (as.map PyData.bool) (bs.map PyData.bool) = decide (as = bs)
  | [], [] => by rw [List.map_nil]; unfold PyData.eqvAll; rfl
  | [], b :: bs => by rw [List.map_nil, List.map_cons]; unfold PyData.eqvAll; simp
  | a :: as, [] => by rw [List.map_nil, List.map_cons]; unfold PyData.eqvAll; simp
  | a :: as, b :: bs => by
    rw [List.map_cons, List.map_cons]; unfold PyData.eqvAll
    rw [eqvAll_bools as bs]
    unfold PyData.eqv
    by_cases h : a = b
    · subst h; by_cases h2 : as = bs
      · subst h2; simp
      · simp [h2]
    · simp [h]
theorem eqv_bools (as bs : List Bool) : PyData.eqv (.list (as.map PyData.bool)) (.list (bs.map PyData.bool)) = decide (as = bs) := by
  unfold PyData.eqv; exact eqvAll_bools as bs
theorem dp_bools {a : Addr} {bs : List Bool} (h : SqL K H a (bs.map V.bl)) : Dp K H (.ref a) (.list (bs.map PyData.bool)) := .lst h (dpAll_bools bs)
theorem k_eqB {Q : VK} {a b : Addr} (ns ms : List Bool) (h1 : SqL K H a (ns.map V.bl)) (h2 : SqL K H b (ms.map V.bl)) (q : Q (.bl (decide (ns = ms))) H) : rEqD K (.ref a) (.ref b) H Q :=
  k_eqD (dp_bools h1) (dp_bools h2) (laid_bools ns) (laid_bools ms) (by rw [eqv_bools]; exact q)
end
theorem m_neB {H : Hp} {K : PySem.W.Frag} {Q : VK} {a b : Addr} (ns ms : List Bool) (h1 : SqL K H a (ns.map V.bl)) (h2 : SqL K H b (ms.map V.bl)) (q : Q (.bl (!decide (ns = ms))) H) : rNeD K (.ref a) (.ref b) H Q :=
  k_neD (dp_bools h1) (dp_bools h2) (laid_bools ns) (laid_bools ms) (by rw [eqv_bools]; exact q)
theorem room65 {k : Nat} {A : Around} (r : Room k A) : A.units + 65 < cLine := by have := r.un; omega
/-- list + list, whichever way they are known -/
def rCatK (K : PySem.W.Frag) : R2 := fun x y H Q => ∃ l b xs zs, x = .ref l ∧ y = .ref b ∧ SqL K H l xs ∧ SqL K H b zs ∧ xs.length + zs.length ≤ sizeLine ∧ ∀ p, H p = none → Q (.ref p) (upd H p (.lst (xs ++ zs)))
theorem op_catK {X : Cx} : OpR X (binaryOp .Add) (rCatK X.K) := by
  intro pins s σ H x y v u Q I rx ry h
  obtain ⟨l, b, xs, zs, rfl, rfl, hH, hB, hz, q⟩ := h
  cases rx
  cases ry
  obtain ⟨its, r, ⟨⟨cls, dd, data, sl⟩, n, ho, hc, hdd, hd⟩, hl⟩ := I.list hH
  obtain ⟨its2, r2, ⟨⟨cls2, dd2, data2, sl2⟩, n2, ho2, hc2, hdd2, hd2⟩, hl2⟩ := I.list hB
  simp only at hc hdd hd hc2 hdd2 hd2
  subst hc hdd hd hc2 hdd2 hd2
  have h1 := r.length
  have h2 := r2.length
  refine concat_meets ⟨_, ho, rfl⟩ ⟨_, ho2, rfl⟩ noFill_list_add seq_list_add PySem.F.slot_list_add PySem.F.entry_list_add (PySem.F.args_list_add_2 _ _) (list_addW l b its.toArray its2.toArray n n2 none none sl sl2 (by rw [List.size_toArray, List.size_toArray]; omega)) ⟨ho, ho2, ?_⟩
  have ea : its.toArray ++ its2.toArray = (its ++ its2).toArray := by simp
  rw [ea]
  exact ⟨.ref _, _, I.lnew (t' := s.toks) (r.append r2) (by rw [List.length_append]; omega), rfl, q _ I.fresh⟩
theorem k_catK {H : Hp} {K : PySem.W.Frag} {Q : VK} {l b : Addr} {xs zs : List V} (h1 : SqL K H l xs) (h2 : SqL K H b zs) (hn : xs.length + zs.length ≤ 1000000) (q : ∀ p, H p = none → Q (.ref p) (upd H p (.lst (xs ++ zs)))) : rCatK K (.ref l) (.ref b) H Q :=
  ⟨l, b, xs, zs, rfl, rfl, h1, h2, Nat.le_trans hn (by decide), q⟩
/-! ### len(set(xs)) -/
/-- how many unlike numbers -/
def unlike (ns : List Int) : Nat := (PyProof.Rows.firstMet (fun i => ns.getD i 0) ns.length).length
theorem unlike_le (ns : List Int) : unlike ns ≤ ns.length := PyProof.Rows.firstMet_length_le _ _
def tLenSet (K : PySem.W.Frag) (ta : TE) : TE := fun σ H Q => ta σ H fun x H1 => ∃ (l : Addr) (ns : List Int), x = .ref l ∧ SqL K H1 l (ns.map V.int) ∧ ns.length ≤ 4000 ∧ Q (.int (unlike ns : Nat)) H1
theorem intsAre_vals : ∀ {ns : List Int} {us : List Value}, Vals (ns.map V.int) us → PyProof.Rows.IntsAre us ns
  | [], _, .nil => .nil
  | n :: ns, _, .cons r t => by
    obtain ⟨k, rfl⟩ := r
    exact .cons n k (intsAre_vals t)
theorem pe_lenSet {X : Cx} {a : Expr} {ta : TE} {p p2 q pos : Pos} (hg : Gl X "len") (hm : X.mg "len" = none) (hg2 : Gl X "set") (hm2 : X.mg "set" = none) (ha : PE X a ta) (hc : X.calm = true := by rfl)
    (na : starEach [a] X.env = (false, eval a X.env) :: starEach [] X.env := by rfl) : PE X (.Call (.Name "len" p) [.Call (.Name "set" p2) [a] [] q] [] pos) (tLenSet X.K ta) := by
  refine ⟨fun pins s σ H Q I h => ?_⟩
  refine Call_ (ld_blt I hg hm boot_len ?_)
  refine PyProof.Rows.callWith_builtin1 (PyProof.Rows.args_cons ?_ rfl) rfl rfl
  refine Call_ (ld_blt I hg2 hm2 boot_set ?_)
  refine PyProof.Rows.callWith_type1 (PyProof.Rows.args_cons (thn (ha.run pins s σ H _ I h) fun v s1 ⟨x, H1, I1, r1, q1⟩ => PyProof.Rows.args_nil ?_) na) na rfl
  obtain ⟨l, ns, rfl, hq, hl, q1⟩ := q1
  cases r1
  obtain ⟨its, r, pl, hz⟩ := I1.list hq
  have hlen : its.toArray.size = ns.length := by rw [List.size_toArray, ← r.length, List.length_map]
  refine call_set_list (I1.ok.hd hc) pl.isList (by simpa using intsAre_vals r) (by rw [hlen]; unfold scanBound; omega) fun h' tk hS hk => ?_
  refine PyProof.Rows.args_nil ?_
  rw [hlen] at hS
  obtain ⟨o, es, ep, t, ho, hex, hd, _, _, _, hf, hn⟩ := hS
  have I2 : Inv X pins σ H1 { s1 with heap := h', toks := tk } := I1.kept fun b o e => hk b o (Heap.lt_size e) e
  have hu := unlike_le ns
  unfold unlike at hu q1
  exact call_len_set ho hex hd hf (by rw [hn] <;> omega) ⟨.int ((PyProof.Rows.firstMet (fun i => ns.getD i 0) ns.length).length : Nat), H1, I2.tok _, ⟨_, by rw [hn]⟩, q1⟩
section
variable {σ : L2.St} {H : Hp} {Q : VK} {K : PySem.W.Frag} {te : TE}
def LenSetK (K : PySem.W.Frag) (Q : VK) (x : V) (H : Hp) : Prop := ∃ (l : Addr) (ns : List Int), x = .ref l ∧ SqL K H l (ns.map V.int) ∧ ns.length ≤ 4000 ∧ Q (.int (unlike ns : Nat)) H
theorem m_lenSet (h : te σ H (LenSetK K Q)) : tLenSet K te σ H Q := h
theorem m_lenSetE {l : Addr} {ns : List Int} (hS : SqL K H l (ns.map V.int)) (hl : ns.length ≤ 4000) (q : Q (.int (unlike ns : Nat)) H) : LenSetK K Q (.ref l) H := ⟨l, ns, rfl, hS, hl, q⟩
end
/-! ### errors: raised, let through, caught -/
section
variable {X : Cx} {E : XK} {W : WX} {k j : Nat} {ps : List Str} {sp : Sp} {x : Str} {p pos : Pos} {e : Expr} {es : List Expr} {t : TA}
theorem passX (tk : Takes X (fun cls d _ H => E cls d H)) : Passes (L2.CX X.prog X.w) X E := passes_call tk fun _ _ _ _ h => h
/-- raise C('..') -/
def tRz (W : WX) (C : Addr) : TS := fun _ σ H => W (.ref C) none σ H
/-- what stands of the class x: it can be raised -/
structure ExF (K : PySem.W.Frag) (mg : Str → Option Value) (x : Str) : Prop where
  gl : mg x = some (.ref (He.ga K x))
  ex : PySem.W.excIn K (He.ga K x) He.veBase "ValueError.__new__" = true
  kp : PySem.W.keepIn K (.ref (He.ga K x)) = true
  sb : PySem.W.subIn K (.ref (He.ga K x)) (.type "BaseException") = some true
  ty : PySem.W.typeIn K (.ref (He.ga K x)) = some (.type "type")
theorem ps_rz {m : Str} {j : Nat} {p2 pos2 : Pos} (F : ExF X.K X.mg x) (tk : Takes X W) (hc : X.calm = true := by rfl) (hg : Gl X x := by rfl) (hdb : (x == ("__debug__" : Str)) = false := by decide) :
    PS X (.Raise (some (.Call (.Name x p) [.Constant (.str m) j p2] [] pos)) none pos2) (tRz W (He.ga X.K x)) :=
  ps_raise hc tk (pmk_own PySem.F.excBase_ValueError F.ex F.gl F.kp (raises_own F.sb F.ty) hg hdb)
theorem k_rz {D : Ends} {C : Addr} {σ : L2.St} {H : Hp} (h : W (.ref C) none σ H) : tRz W C D σ H := h
/-- a call within a try's body -/
theorem pe_callFS (F : Okf X.prog X.w X.K X.mg X.base (L2.CX X.prog X.w) k x ps sp) (hr : Room j X.A) (hk : k ≤ j) (hg : Gl X x) (tk : Takes X W)
    (ha : PA X (e :: es) t) (hdb : (x == ("__debug__" : Str)) = false := by decide) (he : starEach (e :: es) X.env = (false, eval e X.env) :: starEach es X.env := by rfl) (hpl : (backTo pos (starEach es X.env)).any (·.1) = false := by rfl) :
    PE X (.Call (.Name x p) (e :: es) [] pos) (tCallS sp (WE W) t) := by
  obtain ⟨fd, _, hb, ok⟩ := F.ex
  exact pe_callS ok (hr.mono hk) hg F.gl F.kp hb (fun σ => passAt tk σ) ha hdb he hpl
theorem m_callS {E : L2.St → XK} {σ : L2.St} {H : Hp} {Q : VK} (h : t σ H fun vs H1 => sp vs H1 Q (E σ)) : tCallS sp E t σ H Q := h
/-- try: .. except C as n | except C -/
def tTryAs (K : PySem.W.Frag) (c : Value) (i : Nat) (tb : WX → TS) (ts : Addr → Value → Option Addr → TS) (Wout : WX) : TS := fun D σ H => tb (wAs K c i ts Wout D) D σ H
def tTryOnly (K : PySem.W.Frag) (c : Value) (tb : WX → TS) (ts : Addr → Value → Option Addr → TS) (Wout : WX) : TS := fun D σ H => tb (wOnly K c ts Wout D) D σ H
section
variable {K : PySem.W.Frag} {c cls : Value} {d : Option Addr} {i : Nat} {tb : WX → TS} {ts : Addr → Value → Option Addr → TS} {Wout : WX} {σ : L2.St} {H : Hp} {rt : VK} {nx bk ct : L2.St → Hp → Prop}
theorem m_tryAs (h : tb (wAs K c i ts Wout (Ends.mk nx rt bk ct)) (Ends.mk nx rt bk ct) σ H) : tTryAs K c i tb ts Wout (Ends.mk nx rt bk ct) σ H := h
theorem m_tryOnly (h : tb (wOnly K c ts Wout (Ends.mk nx rt bk ct)) (Ends.mk nx rt bk ct) σ H) : tTryOnly K c tb ts Wout (Ends.mk nx rt bk ct) σ H := h
theorem m_caught (he : PySem.W.exmOne K cls c = some true) (h : ∀ a, H a = none → ts a cls d (Ends.mk (fun σ' H' => nx (σ'.set i none) H') rt (fun σ' H' => bk (σ'.set i none) H') (fun σ' H' => ct (σ'.set i none) H')) (σ.set i (some (.ref a))) H) :
    WE (wAs K c i ts Wout (Ends.mk nx rt bk ct)) σ cls d H := ⟨true, he, fun _ => h, fun z => Bool.noConfusion z⟩
theorem m_passed (he : PySem.W.exmOne K cls c = some false) (h : Wout cls d σ H) : WE (wAs K c i ts Wout (Ends.mk nx rt bk ct)) σ cls d H := ⟨false, he, fun z => Bool.noConfusion z, fun _ => h⟩
theorem m_caughtO (he : PySem.W.exmOne K cls c = some true) (h : ∀ a, H a = none → ts a cls d (Ends.mk nx rt bk ct) σ H) :
    WE (wOnly K c ts Wout (Ends.mk nx rt bk ct)) σ cls d H := ⟨true, he, fun _ => h, fun z => Bool.noConfusion z⟩
theorem m_passedO (he : PySem.W.exmOne K cls c = some false) (h : Wout cls d σ H) : WE (wOnly K c ts Wout (Ends.mk nx rt bk ct)) σ cls d H := ⟨false, he, fun z => Bool.noConfusion z, fun _ => h⟩
end
/-! ### several except clauses, each with a name -/
def endN (i : Nat) (D : Ends) : Ends := Ends.mk (fun τ G => D.nx (τ.set i none) G) D.rt (fun τ G => D.bk (τ.set i none) G) (fun τ G => D.ct (τ.set i none) G)
def wManyA (K : PySem.W.Frag) (Wout : WX) (D : Ends) : List (Value × Nat × (Addr → Value → Option Addr → TS)) → WX
  | [] => Wout
  | (c, i, ts) :: l => fun cls d τ G => ∃ b, PySem.W.exmOne K cls c = some b ∧ (b = true → ∀ x, G x = none → ts x cls d (endN i D) (τ.set i (some (.ref x))) G) ∧ (b = false → wManyA K Wout D l cls d τ G)
inductive HdsA (X : Cx) : List ExceptHandler → List (Value × Nat × (Addr → Value → Option Addr → TS)) → Prop
  | nil : HdsA X [] []
  | cons {y n : Str} {c : Value} {i : Nat} {ts : Addr → Value → Option Addr → TS} {st : Stmt} {sts : List Stmt} {q1 q2 : Pos} {hs : List ExceptHandler} {l : List (Value × Nat × (Addr → Value → Option Addr → TS))} (hi : X.N[i]? = some n) (hl : X.env.kindOf n = some .local) (hc : Names X y c)
      (hb : ∀ (x : Addr) (ob : Obj) (cls : Value) (d : Option Addr) (pn : List (Addr × Obj)), Zc cls d ob → (∃ vs, ob.data = .fields vs) → X.base.get? x = none → PSs (X.suite x ((x, ob) :: pn)) (st :: sts) (ts x cls d)) (r : HdsA X hs l) : HdsA X (.ExceptHandler (some (.Name y q1)) (some n) (st :: sts) q2 :: hs) ((c, i, ts) :: l)
theorem ps_tryManyA {X : Cx} {body : List Stmt} {h₀ : ExceptHandler} {hds : List ExceptHandler} {l : List (Value × Nat × (Addr → Value → Option Addr → TS))} {pos : Pos} {tb : WX → TS} {Wout : WX} (stk : X.stack = X.env :: X.outer) (lf : X.env.frame = some X.env.locals) (nd : X.N.Nodup) (tk : Takes X Wout)
    (hb : ∀ (W : WX) (pn : List (Addr × Obj)) (xe : Value → Shared → Prop), Takes (X.tr pn xe) W → PassesOwn (model X.prog X.w) X.A X.env xe → PSs (X.tr pn xe) body (tb W)) (hh : HdsA X (h₀ :: hds) l) : PS X (.Try body (h₀ :: hds) [] [] pos) (fun D τ G => tb (wManyA X.K Wout D l) D τ G) := by
  refine ⟨fun pins s τ G D I h => ?_⟩
  have ok0 := I.ok
  have fr0 : X.A.frames = some (X.env :: X.outer) := by rw [ok0.frames, stk]
  refine wpAny_Try_except (wpAny_mono ((hb (wManyA X.K Wout D l) (X.pn ++ pins) (fun e s₁ => wpAny (model X.prog X.w) X.A (noteFrame e X.env) (fun _ s₂ => wpAny (model X.prog X.w) X.A (setFlight e none) (fun _ s₃ => wpAny (model X.prog X.w) X.A (handleBy e X.env (h₀ :: hds)) (SP X pins D) X.xe s₃) X.xe s₂) X.xe s₁) (fun u s' xx => ?_) PassesOwn.looking).run [] s τ G D (I.toTry _) h) (fun f s1 hq => ?_) (fun e s1 he => he))
  · obtain ⟨x, B, si, pins2, τ1, G1, cls, d, rfl, j1, nb, up1, sk1, nx, eos, eag, wish⟩ := xx
    have j0 : Inv X pins τ1 G1 si := j1.ofTry ok0
    have sk2 : Sky B (X.env :: X.outer) x (Zc cls d) X.env.locals s'.heap := by rw [← stk]; exact sk1
    show wpAny (model X.prog X.w) X.A (noteFrame (.ref x) X.env) _ _ _; refine Sky.land Zc.steady fr0 lf sk2 fun h3 fl3 up3 => ?_
    have j3 : Inv X pins τ1 G1 { s' with heap := h3 } := j0.landed nb fl3.1 (up1.trans up3) eos eag
    obtain ⟨o3, vs3, ho3, hz3, hd3⟩ := fl3.there
    have nfr : x ∉ frs (X.env :: X.outer) := fun hm => by
      obtain ⟨_, o2, e2, hnf⟩ := fl3.2.2.1.mem hm; rw [ho3] at e2; cases e2; exact hnf _ hd3
    have nL : x ≠ X.env.locals := fun z => nfr (List.mem_filterMap.mpr ⟨X.env, List.mem_cons_self, by rw [lf, z]⟩)
    have nF : x ∉ X.fs := fun hm => by
      obtain ⟨e, he, q⟩ := List.mem_filterMap.mp hm; exact nfr (List.mem_filterMap.mpr ⟨e, List.mem_cons_of_mem _ he, q⟩)
    have suite3 := j3.suite ho3 hd3 nx nL nF
    have hbn : X.base.get? x = none := by
      cases e : X.base.get? x with
      | none => rfl
      | some ob =>
        have h1 := (j0.bs x ob e).1
        have h2 := nb x ob h1 (by rw [stk]; exact nfr)
        rw [fl3.2.1] at h2; cases h2
    have go : ∀ {hs' : List ExceptHandler} {l' : List (Value × Nat × (Addr → Value → Option Addr → TS))}, HdsA X hs' l' → wManyA X.K Wout D l' cls d τ1 G1 → wpAny (model X.prog X.w) X.A (handleBy (.ref x) X.env hs') (SP X pins D) X.xe { s' with heap := h3 } := by
      intro hs' l' hk
      induction hk with
      | nil =>
        intro wish
        refine wpAny_handleBy_nil ?_; obtain ⟨k1, k2, k3, oe, vs, tt, oT, ts', he, hz, hd, h1, hr⟩ := id fl3
        unfold PySem.passOn; refine wpAny_bind (wpAny_field he hd h1 ?_)
        rw [if_neg (show ¬ ((Value.ref tt == Value.none) = true) from by simp)]
        have fin : wpAny (model X.prog X.w) X.A (setFlight (.ref x) X.env.frame) (fun _ s4 => wpAny (model X.prog X.w) X.A (throw (.ref x) : Sem Flow) (SP X pins D) X.xe s4) X.xe { s' with heap := h3 } := by
          rw [lf]; refine HandSPX.setFlight_upZ fl3 fun h4 hh4 up4 => wpAny_throw (tk _ _ ?_)
          exact ⟨x, B, si, pins, τ1, G1, cls, d, rfl, j0, nb, (up1.trans up3).trans up4, .inr (.inr (by rw [stk]; exact hh4)), nx, eos, eag, wish⟩
        first | exact wpAny_bind (wpAny_pure (wpAny_bind fin)) | exact wpAny_bind fin
      | @cons y n c i ts st sts q1 q2 hs2 l2 hi hl hc hsu r ih =>
        intro wish
        obtain ⟨b, hb1, yes, no⟩ := wish
        refine wpAny_handleBy_cons (codeAny_handlers_test ?_) (by intro q; cases q); have lt : PySem.W.Looks (model X.prog X.w) h3 (typeOf (.ref x)) cls := fun A Q E s k q => wpAny_typeOf_ref (k _ _ ho3) (by rw [hz3.1]; exact q)
        have lm := PySem.W.exm_one (M := model X.prog X.w) (j3.kIn) lt hb1
        have test : ∀ {Q : Value → Shared → Prop} {E : Value → Shared → Prop}, Q c { s' with heap := h3 } → wpAny (model X.prog X.w) (X.A.mark (some (.ref x))) (eval (.Name y q1) X.env) Q E { s' with heap := h3 } := fun {Q E} q => by
          obtain ⟨hg, hdbg, hm | ⟨hm, hv, hnn⟩⟩ := hc
          · exact ld_glob (X := X.suite x ((x, o3) :: (X.pn ++ pins))) suite3 hg hm q hdbg
          · exact ld_blt (X := X.suite x ((x, o3) :: (X.pn ++ pins))) suite3 hg hm hv q hnn hdbg
        refine test (lm.here ?_)
        cases b with
        | true =>
          refine codeAny_handlers_suite_as (HandSPX.lands_againZ fl3 fun h4 fl4 up4 => ?_)
          have j4 : Inv X pins τ1 G1 { s' with heap := h4 } := j0.landed nb fl4.1 ((up1.trans up3).trans up4) eos eag
          obtain ⟨o4, vs4, ho4, hz4, hd4⟩ := fl4.there
          refine store_ok (X := X.suite x ((x, o4) :: (X.pn ++ pins))) (v := .ref x) (j4.suite ho4 hd4 nx nL nF) nd hi (.inl hl) rfl (fun s5 S5 => ?_) (.inr hl)
          refine wpAny_mono ((hsu x o4 cls d (X.pn ++ pins) hz4 ⟨_, hd4⟩ hbn).run [] s5 _ G1 _ S5 (yes rfl x nx)) (fun f s6 hq => ?_) (fun _ _ z => False.elim z)
          have fin : ∀ {τ6 : L2.St} {G6 : Hp} {Q : Shared → Prop}, Inv (X.suite x ((x, o4) :: (X.pn ++ pins))) [] τ6 G6 s6 → (∀ s7, Inv X pins (τ6.set i none) G6 s7 → Q s7) → wpAny (model X.prog X.w) X.A (do bindName X.env n .none; unbindBehindTheSuite X.env n q2) (fun _ s7 => Q s7) X.xe s6 := fun {τ6 G6 Q} S6 hq => gone_ok (S6.unsuite ok0) nd hi hl hq
          cases f with
          | next => obtain ⟨τ6, G6, S6, q6⟩ := hq; exact fin S6 fun s7 J7 => ⟨_, _, J7, q6⟩
          | brk => obtain ⟨τ6, G6, S6, q6⟩ := hq; exact fin S6 fun s7 J7 => ⟨_, _, J7, q6⟩
          | cont => obtain ⟨τ6, G6, S6, q6⟩ := hq; exact fin S6 fun s7 J7 => ⟨_, _, J7, q6⟩
          | ret u => obtain ⟨v6, τ6, G6, S6, r6, q6⟩ := hq; exact fin S6 fun s7 J7 => ⟨_, _, _, J7, r6, q6⟩
        | false => exact ih (no rfl)
    exact go hh wish
  · cases f with
    | next => obtain ⟨τ1, G1, j1, q⟩ := hq; exact wpAny_execs_nil ⟨τ1, G1, j1.ofTry ok0, q⟩
    | brk => obtain ⟨τ1, G1, j1, q⟩ := hq; exact ⟨τ1, G1, j1.ofTry ok0, q⟩
    | cont => obtain ⟨τ1, G1, j1, q⟩ := hq; exact ⟨τ1, G1, j1.ofTry ok0, q⟩
    | ret u => obtain ⟨v, τ1, G1, j1, r, q⟩ := hq; exact ⟨v, τ1, G1, j1.ofTry ok0, r, q⟩
def tTryM (K : PySem.W.Frag) (tb : WX → TS) (l : List (Value × Nat × (Addr → Value → Option Addr → TS))) (Wout : WX) : TS := fun D τ G => tb (wManyA K Wout D l) D τ G
section
variable {K : PySem.W.Frag} {c cls : Value} {d : Option Addr} {i : Nat} {tb : WX → TS} {ts : Addr → Value → Option Addr → TS} {Wout : WX} {σ : L2.St} {H : Hp} {rt : VK} {nx bk ct : L2.St → Hp → Prop} {l : List (Value × Nat × (Addr → Value → Option Addr → TS))}
theorem m_tryM (h : tb (wManyA K Wout (Ends.mk nx rt bk ct) l) (Ends.mk nx rt bk ct) σ H) : tTryM K tb l Wout (Ends.mk nx rt bk ct) σ H := h
theorem m_caughtM (he : PySem.W.exmOne K cls c = some true) (h : ∀ a, H a = none → ts a cls d (Ends.mk (fun σ' H' => nx (σ'.set i none) H') rt (fun σ' H' => bk (σ'.set i none) H') (fun σ' H' => ct (σ'.set i none) H')) (σ.set i (some (.ref a))) H) :
    WE (wManyA K Wout (Ends.mk nx rt bk ct) ((c, i, ts) :: l)) σ cls d H := ⟨true, he, fun _ => h, fun z => Bool.noConfusion z⟩
theorem m_nextM (he : PySem.W.exmOne K cls c = some false) (h : WE (wManyA K Wout (Ends.mk nx rt bk ct) l) σ cls d H) : WE (wManyA K Wout (Ends.mk nx rt bk ct) ((c, i, ts) :: l)) σ cls d H := ⟨false, he, fun z => Bool.noConfusion z, fun _ => h⟩
end
/-- isinstance(e, c), e the error that the suite holds -/
def rIsX (K : PySem.W.Frag) (cls : Value) (d : Option Addr) (a : Addr) : List V → Hp → VK → Prop := fun xs H Q => ∃ D, cls = .ref D ∧ d = none ∧ ExcC K D ∧ rIsE K D a xs H Q
theorem call_isX {a : Addr} {oe : Obj} {cls : Value} {d : Option Addr} {pn : List (Addr × Obj)} (hz : Zc cls d oe) (hf : ∃ vs, oe.data = .fields vs) : CallR (X.suite a ((a, oe) :: pn)) (.builtin "isinstance") (rIsX X.K cls d a) := by
  intro pins s σ H xs us Q I r h
  obtain ⟨D, rfl, rfl, C, h⟩ := h
  exact call_isE C hz hf pins s σ H xs us Q I r h
theorem k_isX {K : PySem.W.Frag} {D C a : Addr} {b : Bool} {H : Hp} {Q : VK} (h : ExcC K D) (e : PySem.W.kitOne K (.ref D) (.ref C) = some b) (q : Q (.bl b) H) : rIsX K (.ref D) none a [.ref a, .ref C] H Q :=
  ⟨D, rfl, rfl, h, .ref C, .ref C, b, rfl, fun _ r => r, e, q⟩
theorem k_isXty {K : PySem.W.Frag} {D a : Addr} {n : String} {b : Bool} {H : Hp} {Q : VK} (h : ExcC K D) (e : PySem.W.kitOne K (.ref D) (.type n) = some b) (q : Q (.bl b) H) : rIsX K (.ref D) none a [.ref a, .ty n] H Q :=
  ⟨D, rfl, rfl, h, .ty n, .type n, b, rfl, fun _ r => r, e, q⟩
end
/-- isinstance(e, (c1, c2, ..)), all of them own classes -/
def rIsXT (K : PySem.W.Frag) (cls : Value) (d : Option Addr) (a : Addr) : List V → Hp → VK → Prop := fun xs H Q => ∃ (D tp : Addr) (cs : List Addr) (b : Bool), cls = .ref D ∧ d = none ∧ ExcC K D ∧ xs = [.ref a, .ref tp] ∧ H tp = some (.tup (cs.map V.ref)) ∧ PySem.W.kitAny K (.ref D) (cs.map Value.ref) = some b ∧ Q (.bl b) H
theorem clsV_all : ∀ cs : List Addr, Paired ClsV (cs.map V.ref) (cs.map Value.ref)
  | [] => .nil
  | c :: cs => .cons (.own c) (clsV_all cs)
theorem call_isXT {X : Cx} {a : Addr} {oe : Obj} {cls : Value} {d : Option Addr} {pn : List (Addr × Obj)} (hz : Zc cls d oe) (hf : ∃ vs, oe.data = .fields vs) : CallR (X.suite a ((a, oe) :: pn)) (.builtin "isinstance") (rIsXT X.K cls d a) := by
  intro pins s σ H xs us Q I r h
  obtain ⟨D, tp, cs, b, rfl, rfl, C, rfl, hT, e, q⟩ := h
  obtain ⟨u1, u2, rfl, r1, r2⟩ := vals2 r
  cases (show u1 = Value.ref a from r1)
  cases (show u2 = Value.ref tp from r2)
  obtain ⟨hget, _⟩ := I.pin (a, oe) (List.mem_append.mpr (.inl List.mem_cons_self))
  obtain ⟨vs, hv⟩ := hf
  have J : PySem.W.InstAt s.heap a oe D none := by
    obtain ⟨oc, od, oda, osl⟩ := oe
    obtain ⟨h1, h2⟩ := hz
    dsimp only at h1 h2 hv
    subst h1 h2 hv
    exact ⟨hget, rfl, rfl, trivial⟩
  obtain ⟨_, its, rv, o, h1, h2, n, h3⟩ := (show ObjOk X.prog X.w H s.heap tp (.tup (cs.map V.ref)) from I.hok tp _ hT)
  have e3 := ClsV.all (clsV_all cs) rv
  subst e3
  obtain ⟨oc, od, dt, sl⟩ := o
  simp only at h2 h3
  subst h2 h3
  exact PySem.W.kia_tup (PySem.W.handS_kitx_exc C.hg C.hk C.hs C.hd C.ha C.hn C.ht C.hm) I.kIn J h1 e (fun z => nomatch z) fun tk => ⟨.bl b, H, I.kept (t' := tk) fun _ _ z => z, rfl, q⟩
theorem kitAny_no {K : PySem.W.Frag} {t : Value} : ∀ us : List Value, (∀ u ∈ us, PySem.W.kitOne K t u = some false) → PySem.W.kitAny K t us = some false
  | [], _ => rfl
  | u :: us, h => kitAny_cons (h u List.mem_cons_self) (fun _ => kitAny_no us fun x hx => h x (List.mem_cons_of_mem _ hx)) (fun z => Bool.noConfusion z)
theorem k_isXT {K : PySem.W.Frag} {D a tp : Addr} {b : Bool} {H : Hp} {Q : VK} (cs : List Addr) (hT : H tp = some (.tup (cs.map V.ref))) (h : ExcC K D) (e : PySem.W.kitAny K (.ref D) (cs.map Value.ref) = some b) (q : Q (.bl b) H) : rIsXT K (.ref D) none a [.ref a, .ref tp] H Q :=
  ⟨D, tp, cs, b, rfl, rfl, h, rfl, hT, e, q⟩
/-! ### the head's facts, with what is asked of errors -/
inductive Fx where
  | excC (x : Str)
  | insC (x : Str)
  | kit (x y : Str) (b : Bool)
  | kitT (x : Str) (t : String) (b : Bool)
  | exm (x y : Str) (b : Bool)
/-- an own class of which isinstance tells -/
structure InsC (K : PySem.W.Frag) (C : Addr) : Prop where
  cl : Cls K C
  ha : PySem.W.findIn K (.ref C) "__class__" = some (some (.builtin "object.__class__"))
  hn : PySem.W.specialIn K (.builtin "object.__class__") "__get__" = some (some (.builtin "getset_descriptor.__get__"))
  ht : PySem.W.takesIn K (.builtin "object.__class__") = some true
  hm : PySem.W.mroIn K C (.type "object") = some true
def Fx.ok (K : PySem.W.Frag) : Fx → Bool
  | .insC x => (He.Fa.cls x).ok K && (He.eqO (PySem.W.findIn K (.ref (He.ga K x)) "__class__") (some (some (.builtin "object.__class__"))) &&
      (He.eqO (PySem.W.specialIn K (.builtin "object.__class__") "__get__") (some (some (.builtin "getset_descriptor.__get__"))) && (decide (PySem.W.takesIn K (.builtin "object.__class__") = some true) && decide (PySem.W.mroIn K (He.ga K x) (.type "object") = some true))))
  | .excC x => He.eqO (PySem.W.findIn K (.ref (He.ga K x)) "__getattribute__") (some (some (.builtin "BaseException.__getattribute__"))) && (He.eqO (PySem.W.findIn K (.ref (He.ga K x)) "__getattr__") (some none) &&
      (decide (PySem.W.subIn K (.ref (He.ga K x)) (.type "BaseException") = some true) && (PySem.W.hasDictIn K (He.ga K x) && (He.eqO (PySem.W.findIn K (.ref (He.ga K x)) "__class__") (some (some (.builtin "object.__class__"))) &&
      (He.eqO (PySem.W.specialIn K (.builtin "object.__class__") "__get__") (some (some (.builtin "getset_descriptor.__get__"))) && (decide (PySem.W.takesIn K (.builtin "object.__class__") = some true) && decide (PySem.W.mroIn K (He.ga K x) (.type "object") = some true)))))))
  | .kit x y b => decide (PySem.W.kitOne K (.ref (He.ga K x)) (.ref (He.ga K y)) = some b)
  | .kitT x t b => decide (PySem.W.kitOne K (.ref (He.ga K x)) (.type t) = some b)
  | .exm x y b => decide (PySem.W.exmOne K (.ref (He.ga K x)) (.ref (He.ga K y)) = some b)
theorem Fx.excC_ok {K : PySem.W.Frag} {x : Str} (c : (Fx.excC x).ok K = true) : ExcC K (He.ga K x) := by
  obtain ⟨c1, c⟩ := He.ba c
  obtain ⟨c2, c⟩ := He.ba c
  obtain ⟨c3, c⟩ := He.ba c
  obtain ⟨c4, c⟩ := He.ba c
  obtain ⟨c5, c⟩ := He.ba c
  obtain ⟨c6, c⟩ := He.ba c
  obtain ⟨c7, c8⟩ := He.ba c
  exact ⟨He.eqO_ok c1, He.eqO_ok c2, of_decide_eq_true c3, c4, He.eqO_ok c5, He.eqO_ok c6, of_decide_eq_true c7, of_decide_eq_true c8⟩
theorem Fx.insC_ok {K : PySem.W.Frag} {x : Str} (c : (Fx.insC x).ok K = true) : InsC K (He.ga K x) := by
  obtain ⟨c1, c⟩ := He.ba c
  obtain ⟨c2, c⟩ := He.ba c
  obtain ⟨c3, c⟩ := He.ba c
  obtain ⟨c4, c5⟩ := He.ba c
  exact ⟨He.cls_ok c1, He.eqO_ok c2, He.eqO_ok c3, of_decide_eq_true c4, of_decide_eq_true c5⟩
theorem k_isOwn {K : PySem.W.Frag} {C D a d : Addr} {fs : List (Str × V)} {b : Bool} {H : Hp} {Q : VK} (i : InsC K C) (e : H a = some (.ins C d fs)) (k : PySem.W.kitOne K (.ref C) (.ref D) = some b) (q : Q (.bl b) H) : rIsi K [.ref a, .ref D] H Q :=
  ⟨.ref a, .ref D, .ref C, .ref D, b, rfl, .own D, .base (.ins e i.cl i.ha i.hn i.ht i.hm), k, q⟩
theorem Fx.kit_ok {K : PySem.W.Frag} {x y : Str} {b : Bool} (c : (Fx.kit x y b).ok K = true) : PySem.W.kitOne K (.ref (He.ga K x)) (.ref (He.ga K y)) = some b := of_decide_eq_true c
theorem Fx.kitT_ok {K : PySem.W.Frag} {x : Str} {t : String} {b : Bool} (c : (Fx.kitT x t b).ok K = true) : PySem.W.kitOne K (.ref (He.ga K x)) (.type t) = some b := of_decide_eq_true c
theorem Fx.exm_ok {K : PySem.W.Frag} {x y : Str} {b : Bool} (c : (Fx.exm x y b).ok K = true) : PySem.W.exmOne K (.ref (He.ga K x)) (.ref (He.ga K y)) = some b := of_decide_eq_true c
abbrev AlF : Type := He.AlD × Bool
def obsF (fa : List He.Fa) (fn : List He.DefD) (fx : List Fx) (K : PySem.W.Frag) : AlF := (He.obsD fa fn K, fx.all fun f => f.ok K)
def SaysF (fa : List He.Fa) (fn : List He.DefD) (fx : List Fx) (K : PySem.W.Frag) : Prop := obsF fa fn fx K = (He.valD fn, true)
def obsFG (n : Nat) (fa : List He.Fa) (fn : List He.DefD) (fx : List Fx) (g : Addr → Option Obj) : AlF := obsF fa fn fx (He.frG g (He.asD g n))
def hookF (n : Nat) (fa : List He.Fa) (fn : List He.DefD) (fx : List Fx) : PySem.W.Hook where
  α := AlF
  obs := fun s => obsFG n fa fn fx s.heap.get?
  val := fun _ => (He.valD fn, true)
  says := fun _ h => ∃ K : PySem.W.Frag, K.In h ∧ SaysF fa fn fx K
  of := fun _ _ e => ⟨_, He.frG_in, e⟩
  keeps := fun _ _ _ ⟨K, hK, c⟩ k => ⟨K, PySem.W.Frag.In.keeps hK k, c⟩
theorem obsFG_eq {n : Nat} {fa : List He.Fa} {fn : List He.DefD} {fx : List Fx} {g : Addr → Option Obj} {s : Shared} (h : ∀ a, g a = s.heap.get? a) : obsFG n fa fn fx g = (hookF n fa fn fx).obs s := by
  have e : g = s.heap.get? := funext h
  rw [e] <;> rfl
theorem SaysF.d {fa : List He.Fa} {fn : List He.DefD} {fx : List Fx} {K : PySem.W.Frag} (c : SaysF fa fn fx K) : He.SaysD fa fn K := congrArg (fun z : AlF => z.1) c
theorem SaysF.fx {fa : List He.Fa} {fn : List He.DefD} {fx : List Fx} {K : PySem.W.Frag} (c : SaysF fa fn fx K) (i : Nat) {f : Fx} (h : fx[i]? = some f := by rfl) : f.ok K = true := by
  have c1 : (fx.all fun f => f.ok K) = true := congrArg (fun z : AlF => z.2) c
  exact List.all_eq_true.mp c1 f (List.mem_of_getElem? h)
end Tw
namespace Tw
open PySem PySem.Spec PyProof.Rows L2 NdefX LamX
/-! ### closures: captured cells, tracked once the maker has returned -/
theorem relV_fun : ∀ {v v' : V} {u : Value}, L2.RelV v u → L2.RelV v' u → v = v' := by
  intro v v' u a b
  cases v <;> cases v' <;> simp only [L2.RelV] at a b <;> first | rfl | (subst a; obtain ⟨_, b⟩ := b; cases b; done) | (subst a; cases b; rfl) | (subst a; cases b; done) | (obtain ⟨_, rfl⟩ := a; obtain ⟨_, b⟩ := b; cases b; rfl) | (obtain ⟨_, rfl⟩ := a; obtain ⟨_, b⟩ := b; cases b; done) | (obtain ⟨_, rfl⟩ := a; cases b; done)
def CellO (c : Addr) (v : V) : HO := .ext fun h => ∃ u, L2.RelV v u ∧ h.IsCell c (some u)
def hide (C : Addr → Prop) [DecidablePred C] (H : Hp) : Hp := fun b => if C b then none else H b
def unhide (C : Addr → Prop) [DecidablePred C] (H H' : Hp) : Hp := fun b => if C b then H b else H' b
section
variable {P : Program} {w : World} {K : PySem.W.Frag} {mg : Str → Option Value} {base : Heap} {A : Around} {outer : List Env} {s s' : Shared} {H H' H3 : Hp} {C : Addr → Prop} [DecidablePred C]
theorem hide_in {b : Addr} (h : C b) : hide C H b = none := if_pos h
theorem hide_out {b : Addr} (h : ¬ C b) : hide C H b = H b := if_neg h
theorem unhide_in {b : Addr} (h : C b) : unhide C H H' b = H b := if_pos h
theorem unhide_out {b : Addr} (h : ¬ C b) : unhide C H H' b = H' b := if_neg h
/-- all that is hidden are cells -/
def Cells (C : Addr → Prop) (H : Hp) : Prop := ∀ b, C b → ∃ v, H b = some (CellO b v)
theorem Cells.not (hC : Cells C H) {b : Addr} {o : HO} (e : H b = some o) (n : ∀ φ, o ≠ .ext φ) : ¬ C b := fun z => by
  obtain ⟨v, q⟩ := hC b z
  rw [e] at q
  exact n _ (Option.some.inj q)
theorem hok_hide (ok : HOk P w H s.heap) (hC : Cells C H) : HOk P w (hide C H) s.heap := fun a o e => by
  by_cases ha : C a
  · rw [hide_in ha] at e; cases e
  · rw [hide_out ha] at e
    exact (ok a o e).stay (fun _ _ _ q => q) (fun b q => (hide_out (hC.not q fun _ z => nomatch z)).trans q) fun b xs q => (hide_out (hC.not q fun _ z => nomatch z)).trans q
theorem env0_hide (e0 : Env0 P w K mg base A outer s H) (hC : Cells C H) : Env0 P w K mg base A outer s (hide C H) := by
  have hn : ∀ {b}, H b = none → hide C H b = none := fun {b} q => by
    by_cases hb : C b
    · exact hide_in hb
    · exact (hide_out hb).trans q
  exact ⟨e0.frames, e0.mod, fun b o e => ⟨(e0.bs b o e).1, hn (e0.bs b o e).2⟩, e0.bsz, e0.funs, fun b hb => hn (e0.frf b hb), hok_hide e0.hok hC, e0.bare⟩
theorem cellO_get {c : Addr} {v : V} (ok : HOk P w H s.heap) (e : H c = some (CellO c v)) : ∃ u, L2.RelV v u ∧ s.heap.IsCell c (some u) := (ok c _ e).1
theorem ce_unhide {Q : VK} {u : Value} (ok : HOk P w H s.heap) (hC : Cells C H) (h : CE outer P w (hide C H) s (fun v H' => Q v (unhide C H H')) u s') : CE outer P w H s Q u s' := by
  obtain ⟨v, H', os, bare, un, ok', r, q⟩ := h
  have some_out : ∀ {b}, H b = none → ¬ C b := fun {b} n z => by
    obtain ⟨v, e⟩ := hC b z
    rw [n] at e; cases e
  have hn : ∀ {b}, H b = none → hide C H b = none := fun {b} n => (hide_out (some_out n)).trans n
  have gone : ∀ {b}, C b → H' b = none := fun {b} z => by
    obtain ⟨v, e⟩ := hC b z
    obtain ⟨_, _, o, ho, _⟩ := cellO_get ok e
    exact un.free b o ho (hide_in z) (by simp)
  refine ⟨v, unhide C H H', os, bare, ⟨fun b o e n => un.keep b o e (hn n), fun b o e n => un.slot b o e (hn n), fun b o e n hx => ?_, un.there, fun b xs e => ?_, fun b o u e => ?_, fun b ps e => ?_⟩, fun a o e => ?_, r, q⟩
  · rw [unhide_out (some_out n)]; exact un.free b o e (hn n) hx
  · have hb : ¬ C b := hC.not e fun _ z => nomatch z
    rw [unhide_out hb]; exact un.tups b xs (by rw [hide_out hb]; exact e)
  · have hb : ¬ C b := hC.not e fun _ z => nomatch z
    rw [unhide_out hb]; exact un.frzs b o u (by rw [hide_out hb]; exact e)
  · have hb : ¬ C b := hC.not e fun _ z => nomatch z
    rw [unhide_out hb]; exact un.tbls b ps (by rw [hide_out hb]; exact e)
  · by_cases ha : C a
    · rw [unhide_in ha] at e
      obtain ⟨v, q⟩ := hC a ha
      rw [e] at q; cases q
      obtain ⟨⟨u, ru, ob, ho, hd⟩, _, st⟩ := ok a _ e
      obtain ⟨sl, h2⟩ := un.any ho (hide_in ha) (by simp)
      exact ⟨⟨u, ru, _, h2, hd⟩, ⟨_, h2⟩, st⟩
    · rw [unhide_out ha] at e
      refine (ok' a o e).stay (fun _ _ _ q => q) (fun b q => ?_) fun b xs q => ?_
      · by_cases hb : C b
        · rw [gone hb] at q; cases q
        · rw [unhide_out hb]; exact q
      · by_cases hb : C b
        · rw [gone hb] at q; cases q
        · rw [unhide_out hb]; exact q
end
/-! ### functions that are called by a value -/
def IsFn (H : Hp) (f : Addr) : Prop := ∃ φ, H f = some (.ext φ) ∧ ∀ h, φ h → PySem.W.FnAt f h
theorem IsFn.same {H H' : Hp} {f : Addr} (h : IsFn H f) (s : Same H H') : IsFn H' f := by
  obtain ⟨φ, e, q⟩ := h
  exact ⟨φ, s.get e, q⟩
theorem isFn_fno {H : Hp} {f : Addr} {F : NF} (e : H f = some (FnO f F)) : IsFn H f := ⟨_, e, fun h ⟨od, sl, doc, pm, ctv, q⟩ => ⟨_, _, _, _, q⟩⟩
/-- what a lambda's object is -/
def LamO (body : Expr) (f : Addr) (F : NF) : HO := .ext fun h => ∃ pm ctv, h.get? f = some (PySem.W.kla_obj F.name F.qual F.params body F.scope F.cl pm F.c ctv)
theorem isFn_lam {H : Hp} {f : Addr} {F : NF} {b : Expr} (e : H f = some (LamO b f F)) : IsFn H f := ⟨_, e, fun h ⟨pm, ctv, q⟩ => ⟨_, _, _, _, q⟩⟩
/-- calls by value: at levels -/
structure CLs where
  run : Nat → Addr → List V → Hp → VK → Prop
  mono : ∀ {j k f vs H Q}, j ≤ k → run j f vs H Q → run k f vs H Q
  imp : ∀ {j f vs H} {Q Q' : VK}, (∀ v H', Q v H' → Q' v H') → run j f vs H Q → run j f vs H Q'
def Cal (P : Program) (w : World) (K : PySem.W.Frag) (mg : Str → Option Value) (base : Heap) : CLs where
  run := fun k f vs H Q => IsFn H f ∧ ∀ (A : Around) (outer : List Env) (s : Shared) (us : List Value), Room k A → Env0 P w K mg base A outer s H → Vals vs us →
    codeAny (model P w) A (.call (.ref f) ⟨us, []⟩) (CR CX0 outer P w H s Q (fun _ _ _ => False)) s
  mono := fun h ⟨a, b⟩ => ⟨a, fun A outer s us hr => b A outer s us (hr.mono h)⟩
  imp := fun h ⟨a, b⟩ => ⟨a, fun A outer s us hr e0 r => codeAny_mono (b A outer s us hr e0 r) fun r s' q => by
    cases r with
    | error e => exact q
    | ok fl =>
      cases fl with
      | ret u =>
        obtain ⟨v, H', q1, q2, q3, q4, q5, q6⟩ := q
        exact ⟨v, H', q1, q2, q3, q4, q5, h _ _ q6⟩
      | next => exact q
      | brk => exact q
      | cont => exact q⟩
/-- a local name's value is called -/
def tCallV (CL : CLs) (j : Nat) (i : Nat) (t : TA) : TE := fun σ H Q => ∃ f, σ[i]? = some (some (.ref f)) ∧ IsFn H f ∧ t σ H fun vs H1 => CL.run j f vs H1 Q
section
variable {X : Cx} {k j i : Nat} {x : Str} {p pos : Pos} {e : Expr} {es : List Expr} {t : TA}
theorem isFn_at {pins : List (Addr × Obj)} {σ : L2.St} {H : Hp} {s : Shared} {f : Addr} (I : Inv X pins σ H s) (h : IsFn H f) : PySem.W.FnAt f s.heap := by
  obtain ⟨φ, e, q⟩ := h
  exact q _ (I.hok f _ e).1
theorem pe_callV (hr : Room j X.A) (hk : k ≤ j) (hN : X.N[i]? = some x) (hv : Vis X.env.scope x) (ha : PA X (e :: es) t)
    (hdb : (x == ("__debug__" : Str)) = false := by decide) (hcd : (x == ("__classdict__" : Str)) = false := by decide)
    (he : starEach (e :: es) X.env = (false, eval e X.env) :: starEach es X.env := by rfl) (hpl : (backTo pos (starEach es X.env)).any (·.1) = false := by rfl) :
    PE X (.Call (.Name x p) (e :: es) [] pos) (tCallV (Cal X.prog X.w X.K X.mg X.base) k i t) := by
  refine ⟨fun pins s σ H Q I h => ?_⟩
  obtain ⟨f, hs, hf, ht⟩ := h
  refine wpAny_Call_Name_kw (thn ((pe_var (pos := p) hN hv hdb hcd).run pins s σ H (fun v H1 => v = .ref f ∧ H1 = H) I ⟨.ref f, hs, rfl, rfl⟩) fun u s1 ⟨v, H1, I1, r1, q1⟩ => ?_)
  obtain ⟨rfl, rfl⟩ := q1
  cases r1
  refine PySem.W.callWith_F (first := []) (isFn_at I1 hf) (thn (ha.run pos pins s1 σ _ _ I1 ht) fun us s2 ⟨vs, H2, I2, r, q⟩ => ⟨isFn_at I2 q.1, ?_⟩) he hpl
  refine wpAny_call (codeAny_mono (q.2 X.A X.stack s2 us (hr.mono hk) I2.env0 r) fun r s' hq => ?_)
  cases r with
  | error e => exact hq.elim
  | ok fl =>
    cases fl with
    | ret u => exact I2.after hq
    | next => exact False.elim hq
    | brk => exact False.elim hq
    | cont => exact False.elim hq
end
/-! ### what a closure promises -/
structure COk (O : Addr → NF → HO) (P : Program) (w : World) (K : PySem.W.Frag) (mg : Str → Option Value) (base : Heap) (k : Nat) (f : Addr) (F : NF) (ps fr : List Str) (sp : List V → List V → Hp → VK → Prop) : Prop where
  run : ∀ (A : Around) (outer : List Env) (s : Shared) (H : Hp) (us : List Value) (vs ws : List V) (Q : VK), Room k A → Env0 P w K mg base A outer s H → H f = some (O f F) → H F.c = some (CodeO F.c F.qual) →
    CellsAt F.cl fr (ws.map some) s.heap H → Vals vs us → sp ws vs H Q → codeAny (model P w) A (.call (.ref f) ⟨us, []⟩) (CR CX0 outer P w H s Q (fun _ _ _ => False)) s
section
variable {P : Program} {w : World} {K : PySem.W.Frag} {mg : Str → Option Value} {base : Heap} {N ps fr : List Str} {F : NF} {f : Addr} {k : Nat} {sp : List V → List V → Hp → VK → Prop}
theorem cok_def (S : NScope N ps fr F.scope) (hb : ∀ (doc pm ctv : Value) (us : List Value), us.length = ps.length → bindArgs (F.fd doc pm ctv) ⟨us, []⟩ = pure (ps.zip us)) (len : ∀ ws vs H Q, sp ws vs H Q → vs.length = ps.length)
    (hbody : ∀ (A : Around) (outer : List Env) (s : Shared) (H : Hp) (vs ws : List V) (Q : VK), Room k (A.deeper (envF F f s.heap.objs.size)) → ws.length = fr.length → sp ws vs H Q →
      ∃ t, PSs (ncx CX0 P w K mg base N F f A outer s H (fun _ _ _ => False)) F.body t ∧ t { nx := fun _ H' => Q .non H', rt := Q } (startF N vs (ws.map some)) H) :
    COk FnO P w K mg base (k + 1) f F ps fr sp := by
  have n : NOk P w K mg base CX0 (k + 1) f F ps fr (fun ws' vs H Q E => ∃ ws, ws' = ws.map some ∧ sp ws vs H Q ∧ E = fun _ _ _ => False) :=
    nok_of S hb (fun ws vs H Q E ⟨_, _, h, _⟩ => len _ _ _ _ h) fun A outer s H vs ws' Q E hr _ _ hl ⟨ws, e, h, eE⟩ => by
      subst e; subst eE
      exact hbody A outer s H vs ws Q hr (by rw [← hl, List.length_map]) h
  exact ⟨fun A outer s H us vs ws Q hr e0 hf hc C r h => n.run A outer s H us vs _ Q _ hr e0 hf hc C r ⟨ws, rfl, h, rfl⟩⟩
/-- a lambda by its expression -/
theorem cok_lam {body : Expr} (S : NScope N ps fr F.scope) (hb : ∀ (pm cd ctv : Value) (us : List Value), us.length = ps.length → bindArgs (PySem.W.kla_fn F.name F.qual F.params body F.scope F.cl pm cd ctv) ⟨us, []⟩ = pure (ps.zip us)) (len : ∀ ws vs H Q, sp ws vs H Q → vs.length = ps.length)
    (hbody : ∀ (A : Around) (outer : List Env) (s : Shared) (H : Hp) (vs ws : List V) (Q : VK), Room k (A.deeper (envF F f s.heap.objs.size)) → ws.length = fr.length → sp ws vs H Q →
      ∃ t, PE (ncx CX0 P w K mg base N F f A outer s H (fun _ _ _ => False)) body t ∧ t (startF N vs (ws.map some)) H Q) :
    COk (LamO body) P w K mg base (k + 1) f F ps fr sp := by
  refine ⟨fun A outer s H us vs ws Q hr e0 hf hc C r hsp => ?_⟩
  have hl := len _ _ _ _ hsp
  have lim : s.heap.NoLimit := e0.mod.nolimit.keeps fun b o e => (e0.bs b o e).1
  obtain ⟨⟨pm, ctv, ho⟩, _, _⟩ := e0.hok f _ hf
  refine PySem.W.kla_callFunE hr.depth ho rfl S.co S.gen rfl (codeO_at e0.hok hc) ?_
  rw [hb pm (.ref F.c) ctv us (by rw [← r.length]; exact hl)]
  refine wpAny_pure (wpAny_newFunctionEnv S.nocell (fun ⟨n, _⟩ hy => S.par n (List.of_mem_zip hy).1) (fun h₁ hns hsb => ⟨lim.fresh _ hsb, ?_⟩) S.kind)
  show codeAny _ _ (.expr body (envF F f s.heap.objs.size)) _ _
  have kp : ∀ b o, s.heap.get? b = some o → h₁.get? b = some o := fun b o e => hsb.extBut b o (Nat.ne_of_lt (Heap.lt_size e)) (Heap.get?_push_of_some _ e)
  obtain ⟨t, ht, hq⟩ := hbody A outer s H vs ws Q (hr.deeper _) (by rw [← C.len, List.length_map]) hsp
  have I : Inv (ncx CX0 P w K mg base N F f A outer s H (fun _ _ _ => False)) [] (startF N vs (ws.map some)) H { s with heap := h₁, toks := s.toks + (ps.zip us).length } := inv_startN S hr.hd e0 hl r C hns kp
  refine PySem.W.kla_codeExpr (wpAny_mono (ht.run [] _ _ H Q I hq) (fun v s' hq => ?_) fun e s' hq => hq)
  obtain ⟨w', H', J, rv, q⟩ := hq
  exact ⟨w', H', J.os, J.bare, J.base, J.hok, rv, q⟩
/-- a closure called from outside its maker: its cells are tracked -/
theorem cal_of {O : Addr → NF → HO} {ws vs : List V} {H : Hp} {Q : VK} {C : Addr → Prop} [DecidablePred C] (n : COk O P w K mg base k f F ps fr sp) (hfn : IsFn H f) (hf : H f = some (O f F)) (hc : H F.c = some (CodeO F.c F.qual)) (hC : Cells C H) (hlen : ws.length = fr.length)
    (hall : ∀ y c, F.cl.lookup y = some c → C c) (hinj : ∀ x y c, F.cl.lookup x = some c → F.cl.lookup y = some c → x = y) (hhas : ∀ (i : Nat) (y : Str), fr[i]? = some y → ∃ c, F.cl.lookup y = some c ∧ ∀ v, ws[i]? = some v → H c = some (CellO c v))
    (nf : ¬ C f) (nc : ¬ C F.c) (hsp : sp ws vs (hide C H) fun v H' => Q v (unhide C H H')) : (Cal P w K mg base).run k f vs H Q := by
  refine ⟨hfn, fun A outer s us hr e0 r => ?_⟩
  have CA : CellsAt F.cl fr (ws.map some) s.heap (hide C H) := by
    refine ⟨by rw [List.length_map]; exact hlen, fun y c e => ⟨hide_in (hall y c e), ?_⟩, hinj, fun i y e => ?_⟩
    · obtain ⟨v, q⟩ := hC c (hall y c e)
      obtain ⟨u, _, z⟩ := cellO_get e0.hok q
      exact ⟨_, z⟩
    · obtain ⟨c, h1, h2⟩ := hhas i y e
      refine ⟨c, h1, fun v ev => ?_⟩
      rw [List.getElem?_map] at ev
      cases q : ws[i]? with
      | none => rw [q] at ev; cases ev
      | some v' =>
        rw [q] at ev
        cases ev
        exact cellO_get e0.hok (h2 v q)
  refine codeAny_mono (n.run A outer s (hide C H) us vs ws _ hr (env0_hide e0 hC) ((hide_out nf).trans hf) ((hide_out nc).trans hc) CA r hsp) fun r s' q => ?_
  cases r with
  | error e => exact q
  | ok fl =>
    cases fl with
    | ret u => exact ce_unhide e0.hok hC q
    | next => exact q
    | brk => exact q
    | cont => exact q
end
/-! ### the making of closures -/
section
variable {X : Cx} {pins : List (Addr × Obj)} {σ : L2.St} {H : Hp} {s : Shared}
theorem tabN_grow {H : Hp} {P c' : Addr} {pos : Pos} {ps : Array Value} (nC : H c' = none) (hP : H P = some (.tbl ps)) (ht : TriplesOk ps.toList) (hq : ∀ P', H P' = some (.tbl ps) → True) : ∀ P', TabN H P' nmL →
    TabN (upd (upd H P (.tbl (ps ++ #[rawInt pos.line, rawInt pos.col, .ref c']))) c' (CodeO c' (nmL pos.line pos.col))) P' nmL := fun P' t => by
  obtain ⟨ps', h1, h2, h3⟩ := t
  have eL : (ps ++ #[rawInt pos.line, rawInt pos.col, .ref c']).toList = ps.toList ++ [rawInt pos.line, rawInt pos.col, .ref c'] := by simp
  have old : ∀ {b : Addr} {q : Str}, H b = some (CodeO b q) → upd (upd H P (.tbl (ps ++ #[rawInt pos.line, rawInt pos.col, .ref c']))) c' (CodeO c' (nmL pos.line pos.col)) b = some (CodeO b q) := fun {b q} e => by
    rw [upd_ne (ne_of_none e nC), upd_ne (fun z => by rw [z, hP] at e; exact codeO_ne ps (Option.some.inj e).symm)]
    exact e
  by_cases hb : P' = P
  · subst hb
    rw [hP] at h1; cases h1
    refine ⟨_, by rw [upd_ne (ne_of_none hP nC), upd_same], by rw [eL]; exact PySem.TriplesOk_snoc _ _ _ _ ht, fun p' cv hcv => ?_⟩
    rw [eL] at hcv
    rcases among_app2 _ ht hcv with z | ⟨z, z1, z2⟩
    · obtain ⟨c0, e1, e2⟩ := h3 p' cv z
      exact ⟨c0, e1, old e2⟩
    · refine ⟨c', z, ?_⟩
      rw [← z1, ← z2]
      exact upd_same
  · refine ⟨ps', by rw [upd_ne (ne_of_none h1 nC), upd_ne hb]; exact h1, h2, fun p' cv hcv => ?_⟩
    obtain ⟨c0, e1, e2⟩ := h3 p' cv hcv
    exact ⟨c0, e1, old e2⟩
theorem same_grow {H : Hp} {P c' : Addr} {pos : Pos} {ps : Array Value} (nC : H c' = none) (hP : H P = some (.tbl ps)) (ht : TriplesOk ps.toList) :
    Same H (upd (upd H P (.tbl (ps ++ #[rawInt pos.line, rawInt pos.col, .ref c']))) c' (CodeO c' (nmL pos.line pos.col))) := by
  refine ⟨fun b o e n => ?_, fun b e => upd_none (upd_none e), tabN_grow nC hP ht fun _ _ => trivial⟩
  rw [upd_ne (ne_of_none e nC), upd_ne (fun z => n ps (Option.some.inj (e.symm.trans (by rw [z]; exact hP))))]
  exact e
/-- the def's object is made -/
theorem ndef_makeC {c P : Addr} {name : Str} {params : Arguments} {body : List Stmt} {scope : Scope} {pos : Pos} {E : Value → Shared → Prop} {Q : Value → Shared → Prop} (I : Inv X pins σ H s) (TB : TabB X.base X.mg c P) (hcode : X.env.code = .ref c)
    (hn : nmL pos.line pos.col = X.env.qual ++ name) (hT : TabN H P nmL) (hfree : ∀ y ∈ scope.names, y.2 = .free → ∃ c, X.env.cells.lookup y.1 = some c)
    (h : ∀ (f c' : Addr) (H1 : Hp) (s' : Shared), Inv X pins σ H1 s' → Same H H1 → H f = none → H1 f = some (FnO f ⟨name, X.env.qual ++ name, params, body, scope, cloFrom X.env.cells scope.names [], c'⟩) → H1 c' = some (CodeO c' (X.env.qual ++ name)) → Q (.ref f) s') :
    wpAny (model X.prog X.w) X.A (makeFunction name (X.env.qual ++ name) params (.stmts body) scope X.env [] [] [] pos pos.line) Q E s := by
  obtain ⟨ps, hP, ht, ha⟩ := hT
  have bP : s.heap.BuiltinsAt X.mg P := TB.bm.keeps I.bk
  have hP' : s.heap.get? P = some { cls := .none, data := .fields ps } := I.hok P _ hP
  cases hc : codeAmong pos ps.toList with
  | none =>
    refine PySem.W.makeFunction_K (mg := X.mg) (c := c) (P := P) (ps := ps) (closure_ok hfree) I.ok.glob (I.mod.glob.keeps I.bk) hcode (TB.code.keeps I.bk) hP' ht hc TB.gP bP fun c' ctv doc h' tk hx hge hlt hrec htb => ?_
    obtain ⟨c2, oc, vs, t, e2, hoc, hd, hv⟩ := hrec
    cases e2
    have nC : H c' = none := I.hok.fresh hge
    have I1 := inv_table (t' := tk) (more := #[rawInt pos.line, rawInt pos.col, .ref c']) (h' := h') I hP (fun b o hb e => hx b o hb e) htb hge ⟨oc, vs, t, hoc, hd, hv⟩
    have S1 : Same H (upd (upd H P (.tbl (ps ++ #[rawInt pos.line, rawInt pos.col, .ref c']))) c' (CodeO c' (X.env.qual ++ name))) := hn ▸ same_grow (pos := pos) nC hP ht
    have nF := I1.hok.fresh (Nat.le_refl _)
    have I2 := inv_fn (F := ⟨name, X.env.qual ++ name, params, body, scope, cloFrom X.env.cells scope.names [], c'⟩) (t' := tk) (doc := doc) (pm := (X.mg "__name__").getD .none) (ctv := ctv) I1 rfl
    exact h h'.objs.size c' _ _ I2 (S1.trans (same_new nF)) (I.hok.fresh (Nat.le_trans hge (Nat.le_of_lt hlt))) upd_same ((upd_ne (Nat.ne_of_lt hlt)).trans upd_same)
  | some cv =>
    obtain ⟨c', e, hco⟩ := ha pos cv hc
    subst e
    rw [hn] at hco
    refine PySem.W.makeFunction_hit (mg := X.mg) (c := c) (P := P) (ps := ps) (closure_ok hfree) I.ok.glob (I.mod.glob.keeps I.bk) hcode (TB.code.keeps I.bk) hP' ht hc bP fun ctv doc h' tk hx hsz => ?_
    have I1 : Inv X pins σ H { s with heap := h', toks := tk } := I.kept hx
    have nF : H h'.objs.size = none := I1.hok.fresh (Nat.le_refl _)
    have I2 := inv_fn (F := ⟨name, X.env.qual ++ name, params, body, scope, cloFrom X.env.cells scope.names [], c'⟩) (t' := tk) (doc := doc) (pm := (X.mg "__name__").getD .none) (ctv := ctv) I1 rfl
    exact h h'.objs.size c' _ _ I2 (same_new nF) nF upd_same ((upd_ne (ne_of_none hco nF)).trans hco)
theorem lam_makeC {c P : Addr} {params : Arguments} {body : Expr} {scope : Scope} {pos : Pos} {E : Value → Shared → Prop} {Q : Value → Shared → Prop} (I : Inv X pins σ H s) (TB : TabB X.base X.mg c P) (hcode : X.env.code = .ref c)
    (hn : nmL pos.line pos.col = X.env.qual ++ "<lambda>") (hT : TabN H P nmL) (hdef : defaultsOf params X.env = ([], [])) (hfree : ∀ y ∈ scope.names, y.2 = .free → ∃ c, X.env.cells.lookup y.1 = some c)
    (h : ∀ (f c' : Addr) (H1 : Hp) (s' : Shared), Inv X pins σ H1 s' → Same H H1 → H f = none → H1 f = some (LamO body f ⟨"<lambda>", X.env.qual ++ "<lambda>", params, [], scope, cloFrom X.env.cells scope.names [], c'⟩) → H1 c' = some (CodeO c' (X.env.qual ++ "<lambda>")) → Q (.ref f) s') :
    wpAny (model X.prog X.w) X.A (eval (.Lambda params body scope pos) X.env) Q E s := by
  obtain ⟨ps, hP, ht, ha⟩ := hT
  refine PySem.W.kla_eval hdef ?_
  have bP : s.heap.BuiltinsAt X.mg P := TB.bm.keeps I.bk
  have hP' : s.heap.get? P = some { cls := .none, data := .fields ps } := I.hok P _ hP
  have lamI : ∀ {H1 : Hp} {s1 : Shared} {c' : Addr} {pm ctv : Value} {tk : Nat}, Inv X pins σ H1 s1 → Inv X pins σ (upd H1 s1.heap.objs.size (LamO body s1.heap.objs.size ⟨"<lambda>", X.env.qual ++ "<lambda>", params, [], scope, cloFrom X.env.cells scope.names [], c'⟩))
      { s1 with heap := s1.heap.push (PySem.W.kla_obj "<lambda>" (X.env.qual ++ "<lambda>") params body scope (cloFrom X.env.cells scope.names []) pm c' ctv), toks := tk } := fun {H1 s1 c' pm ctv tk} I1 => by
    have e := Heap.get?_push_size s1.heap (o := PySem.W.kla_obj "<lambda>" (X.env.qual ++ "<lambda>") params body scope (cloFrom X.env.cells scope.names []) pm c' ctv) rfl
    exact I1.laid (fun b u e => Heap.get?_push_of_some _ e) (Nat.le_refl _) ⟨⟨pm, ctv, e⟩, ⟨_, e⟩, fun h1 h2 ⟨p, t, z⟩ st => ⟨p, t, st _ z⟩⟩
  cases hc : codeAmong pos ps.toList with
  | none =>
    refine PySem.W.kla_makeFunction (mg := X.mg) (c := c) (P := P) (ps := ps) (closure_ok hfree) I.ok.glob (I.mod.glob.keeps I.bk) hcode (TB.code.keeps I.bk) hP' ht hc TB.gP bP fun c' ctv h' tk hx hge hlt hrec htb => ?_
    obtain ⟨c2, oc, vs, t, e2, hoc, hd, hv⟩ := hrec
    cases e2
    have nC : H c' = none := I.hok.fresh hge
    have I1 := inv_table (t' := tk) (more := #[rawInt pos.line, rawInt pos.col, .ref c']) (h' := h') I hP (fun b o hb e => hx b o hb e) htb hge ⟨oc, vs, t, hoc, hd, hv⟩
    have S1 : Same H (upd (upd H P (.tbl (ps ++ #[rawInt pos.line, rawInt pos.col, .ref c']))) c' (CodeO c' (X.env.qual ++ "<lambda>"))) := hn ▸ same_grow (pos := pos) nC hP ht
    have nF := I1.hok.fresh (Nat.le_refl _)
    exact h h'.objs.size c' _ _ (lamI I1) (S1.trans (same_new nF)) (I.hok.fresh (Nat.le_trans hge (Nat.le_of_lt hlt))) upd_same ((upd_ne (Nat.ne_of_lt hlt)).trans upd_same)
  | some cv =>
    obtain ⟨c', e, hco⟩ := ha pos cv hc
    subst e
    rw [hn] at hco
    refine PySem.W.kla_makeFunctionHit (mg := X.mg) (c := c) (P := P) (ps := ps) (closure_ok hfree) I.ok.glob (I.mod.glob.keeps I.bk) hcode (TB.code.keeps I.bk) hP' ht hc bP fun ctv h' tk hx hsz => ?_
    have I1 : Inv X pins σ H { s with heap := h', toks := tk } := I.kept hx
    have nF : H h'.objs.size = none := I1.hok.fresh (Nat.le_refl _)
    exact h h'.objs.size c' _ _ (lamI I1) (same_new nF) nF upd_same ((upd_ne (ne_of_none hco nF)).trans hco)
end
/-- the readings: P the maker's table -/
def tNdefC (P : Addr) (i : Nat) (mk : Addr → NF) : TS := fun D σ H => TabN H P nmL ∧ ∀ (f c' : Addr) (H1 : Hp), Same H H1 → H f = none → H1 f = some (FnO f (mk c')) → H1 (mk c').c = some (CodeO (mk c').c (mk c').qual) → D.nx (σ.set i (some (.ref f))) H1
def tLamC (P : Addr) (body : Expr) (mk : Addr → NF) : TE := fun σ H Q => TabN H P nmL ∧ ∀ (f c' : Addr) (H1 : Hp), Same H H1 → H f = none → H1 f = some (LamO body f (mk c')) → H1 (mk c').c = some (CodeO (mk c').c (mk c').qual) → Q (.ref f) H1
/-- a lambda's words -/
def lamNF (e : Expr) (qual : Str) (cl : List (Str × Addr)) (c : Addr) : NF := match e with
  | .Lambda ps _ sc _ => ⟨"<lambda>", qual, ps, [], sc, cl, c⟩
  | _ => ⟨"", "", { posonlyargs := [], args := [], vararg := none, kwonlyargs := [], kw_defaults := [], kwarg := none, defaults := [] }, [], default, [], c⟩
section
variable {X : Cx}
theorem ps_ndefC {st : Stmt} {c P : Addr} {name : Str} {pos : Pos} {i : Nat} (hst : st = .FunctionDef name (C8.fnArgs st) (C8.fnBody st) [] none [] (C8.fnScope st) none name pos) (TB : TabB X.base X.mg c P) (hcode : X.env.code = .ref c) (hn : nmL pos.line pos.col = X.env.qual ++ name)
    (hfree : ∀ y ∈ (C8.fnScope st).names, y.2 = .free → X.env.scope.names.lookup y.1 = some .cell ∨ X.env.scope.names.lookup y.1 = some .free) (hd0 : (C8.fnArgs st).defaults = []) (hk0 : (C8.fnArgs st).kw_defaults = []) (ha : annTrees (C8.fnArgs st) none X.env = [])
    (hN : X.N.Nodup) (hi : X.N[i]? = some name) (hx : Loc X.env.scope name) (hf : X.fn name = true ∨ X.env.scope.names.lookup name = some .local) :
    PS X st (tNdefC P i (NF.of st name (X.env.qual ++ name) (cloFrom X.env.cells (C8.fnScope st).names []))) := by
  have main : PS X (.FunctionDef name (C8.fnArgs st) (C8.fnBody st) [] none [] (C8.fnScope st) none name pos) (tNdefC P i (NF.of st name (X.env.qual ++ name) (cloFrom X.env.cells (C8.fnScope st).names []))) := by
    refine ⟨fun pins s σ H D I h => ?_⟩
    obtain ⟨hT, h⟩ := h
    have hq : qualnameIn X.env name name = X.env.qual ++ name := by
      have hk : X.env.kindOf name = some .local ∨ X.env.kindOf name = some .cell := hx
      unfold qualnameIn
      rcases hk with k | k <;> rw [k] <;> first | rfl | exact if_neg (by decide)
    refine PySem.W.nestDef_K hd0 hk0 ha ?_
    rw [hq]
    have hfr : ∀ y ∈ (C8.fnScope st).names, y.2 = .free → ∃ c, X.env.cells.lookup y.1 = some c := fun y hy e => (hfree y hy e).elim (fun z => I.ok.has _ (.inl z)) fun z => I.ok.has _ (.inr z)
    refine ndef_makeC I TB hcode hn hT hfr fun f c' H1 s' I1 S1 f0 f1 c1 => ?_
    exact store_ok I1 hN hi hx (v := .ref f) rfl (fun s'' J => ⟨_, H1, J, h f c' H1 S1 f0 f1 c1⟩) hf
  rw [← hst] at main
  exact main
theorem pe_lamC {params : Arguments} {body : Expr} {scope : Scope} {pos : Pos} {c P : Addr} (TB : TabB X.base X.mg c P) (hcode : X.env.code = .ref c) (hn : nmL pos.line pos.col = X.env.qual ++ "<lambda>")
    (hfree : ∀ y ∈ scope.names, y.2 = .free → X.env.scope.names.lookup y.1 = some .cell ∨ X.env.scope.names.lookup y.1 = some .free) (hdef : defaultsOf params X.env = ([], [])) :
    PE X (.Lambda params body scope pos) (tLamC P body (lamNF (.Lambda params body scope pos) (X.env.qual ++ "<lambda>") (cloFrom X.env.cells scope.names []))) := by
  refine ⟨fun pins s σ H Q I h => ?_⟩
  obtain ⟨hT, h⟩ := h
  have hfr : ∀ y ∈ scope.names, y.2 = .free → ∃ c, X.env.cells.lookup y.1 = some c := fun y hy e => (hfree y hy e).elim (fun z => I.ok.has _ (.inl z)) fun z => I.ok.has _ (.inr z)
  exact lam_makeC I TB hcode hn hT hdef hfr fun f c' H1 s' I1 S1 f0 f1 c1 => ⟨.ref f, H1, I1, rfl, h f c' H1 S1 f0 f1 c1⟩
end
def lamBody : Expr → Expr
  | .Lambda _ b _ _ => b
  | e => e
def lamF : Expr → Expr
  | .Tuple es _ _ => es.getLast?.getD (.Constant .none 0 ⟨0, 0, 0, 0⟩)
  | e => e
def lamIn (b : List Stmt) : Expr := match b.getLast? with
  | some (.Return (some e) _) => lamF e
  | _ => .Constant .none 0 ⟨0, 0, 0, 0⟩
/-- the table of the def x -/
abbrev tabP (K : PySem.W.Frag) (x : Str) : Addr := (He.cT K (x, none)).2
/-! ### the maker returns: its captured cells are tracked from now on -/
/-- what is known of a closure that its maker gives out -/
structure Upg (CL : CLs) (lv : Nat) (O : Addr → NF → HO) (mk : Addr → NF) (js : List Nat) (spn : Nat → List V → List V → Hp → VK → Prop) (C : Addr → Prop) (dC : DecidablePred C) (σ : L2.St) (H Hp' : Hp) : Prop where
  hid : ∀ b, C b → H b = none
  same : ∀ b, ¬ C b → Hp' b = H b
  ext : ∀ b, C b → ∃ φ, Hp' b = some (.ext φ)
  law : ∀ f c', H f = some (O f (mk c')) → H (mk c').c = some (CodeO (mk c').c (mk c').qual) → ∀ ws : List V, js.map (slotAt σ) = ws.map some → ∀ (j : Nat) (H3 : Hp) (vs : List V) (Q3 : VK), (∀ b φ, Hp' b = some (.ext φ) → H3 b = some (.ext φ)) →
    spn j ws vs (hide C H3) (fun v H4 => Q3 v (unhide C H3 H4)) → CL.run (max j lv + 1) f vs H3 Q3
theorem Upg.up {CL : CLs} {lv : Nat} {O : Addr → NF → HO} {mk : Addr → NF} {js : List Nat} {spn : Nat → List V → List V → Hp → VK → Prop} {C : Addr → Prop} {dC : DecidablePred C} {σ : L2.St} {H H' : Hp} (u : Upg CL lv O mk js spn C dC σ H H') : Same H H' :=
  .of fun b o e => by rw [u.same b fun z => by rw [u.hid b z] at e; cases e]; exact e
theorem execs_app (a b : List Stmt) (env : Env) : execs (a ++ b) env = (execs a env >>= fun f => match f with | .next => execs b env | f => pure f) := by
  induction a with
  | nil => show execs b env = (pure Flow.next >>= _); rw [pure_bind]
  | cons x r ih =>
    show execs (x :: (r ++ b)) env = _
    rw [execs_cons, execs_cons, bind_assoc]
    congr 1
    funext f
    cases f with
    | next => exact ih
    | ret v => rw [pure_bind]
    | brk => rw [pure_bind]
    | cont => rw [pure_bind]
theorem wpAny_execs_app {M : Model} {A : Around} {E : Value → Shared → Prop} {s : Shared} {a b : List Stmt} {env : Env} {Q : Flow → Shared → Prop}
    (h : wpAny M A (execs a env) (fun f s' => match f with | .next => wpAny M A (execs b env) Q E s' | f => Q f s') E s) : wpAny M A (execs (a ++ b) env) Q E s := by
  rw [execs_app]
  refine wpAny_bind (wpAny_mono h (fun f s' q => ?_) fun _ _ q => q)
  cases f with
  | next => exact q
  | ret v => exact wpAny_pure q
  | brk => exact wpAny_pure q
  | cont => exact wpAny_pure q
def CellN (c : Addr) : HO := .ext fun h => ∃ v, h.IsCell c v
open Classical in
noncomputable def cellH (C : Addr → Prop) (h : Heap) (H : Hp) : Hp := fun b => if C b then some (if z : ∃ v, ∃ u, L2.RelV v u ∧ h.IsCell b (some u) then CellO b (Classical.choose z) else CellN b) else H b
theorem isCell_fun {h : Heap} {c : Addr} {v v' : Option Value} (a : h.IsCell c v) (b : h.IsCell c v') : v = v' := by
  obtain ⟨o, h1, h2⟩ := a
  obtain ⟨o', h3, h4⟩ := b
  rw [h1] at h3; cases h3
  rw [h2] at h4; cases h4; rfl
theorem cellH_in {C : Addr → Prop} {h : Heap} {H : Hp} {b : Addr} {v : V} {u : Value} (hb : C b) (r : L2.RelV v u) (z : h.IsCell b (some u)) : cellH C h H b = some (CellO b v) := by
  unfold cellH
  have ex : ∃ v, ∃ u, L2.RelV v u ∧ h.IsCell b (some u) := ⟨v, u, r, z⟩
  rw [if_pos hb, dif_pos ex]
  obtain ⟨u', r', z'⟩ := Classical.choose_spec ex
  have e := isCell_fun z z'
  cases e
  rw [relV_fun r' r]
theorem cellH_out {C : Addr → Prop} {h : Heap} {H : Hp} {b : Addr} (hb : ¬ C b) : cellH C h H b = H b := if_neg hb
theorem cellH_ext {C : Addr → Prop} {h : Heap} {H : Hp} {b : Addr} (hb : C b) : ∃ φ, cellH C h H b = some (.ext φ) := by
  unfold cellH
  rw [if_pos hb]
  split
  · exact ⟨_, rfl⟩
  · exact ⟨_, rfl⟩
theorem cellH_ok {P : Program} {w : World} {C : Addr → Prop} {h : Heap} {H : Hp} (ok : HOk P w H h) (hC : ∀ b, C b → H b = none ∧ ∃ v, h.IsCell b v) : HOk P w (cellH C h H) h := fun a o e => by
  by_cases ha : C a
  · obtain ⟨_, v, ob, ho, hd⟩ := hC a ha
    unfold cellH at e
    rw [if_pos ha] at e
    split at e
    · rename_i z
      cases e
      exact ⟨Classical.choose_spec z, ⟨ob, ho⟩, fun h1 h2 ⟨u, r, o, q1, q2⟩ st => ⟨u, r, o, st o q1, q2⟩⟩
    · cases e
      exact ⟨⟨v, ob, ho, hd⟩, ⟨ob, ho⟩, fun h1 h2 ⟨v, o, q1, q2⟩ st => ⟨v, o, st o q1, q2⟩⟩
  · rw [cellH_out ha] at e
    have out : ∀ {b u}, H b = some u → cellH C h H b = some u := fun {b u} q => (cellH_out fun z => by rw [(hC b z).1] at q; cases q).trans q
    exact (ok a o e).stay (fun _ _ _ q => q) (fun b q => out q) fun b xs q => out q
/-- the rule: a def that gives out a closure -/
theorem FunD.okC {P : Program} {w : World} {K : PySem.W.Frag} {mg : Str → Option Value} {base : Heap} {x : Str} {qual : Str} {params : Arguments} {body pre : List Stmt} {e : Expr} {pos : Pos} {scope nsc : Scope} {f : Addr} {fd : FuncData} {N ps fr psn : List Str} {js : List Nat} {k lv : Nat} {sp : Sp}
    {O : Addr → NF → HO} {mkF : List (Str × Addr) → Addr → NF} {spn : Nat → List V → List V → Hp → VK → Prop}
    (F : FunD K x qual params body scope [] [] f fd) (hbd : body = pre ++ [.Return (some e) pos]) (S : FnScope N ps scope) (len : ∀ vs H Q E, sp vs H Q E → vs.length = ps.length) (hO : ∀ {f : Addr} {F : NF}, ∃ φ, O f F = .ext φ ∧ ∀ h, φ h → PySem.W.FnAt f h)
    (hcl : ∀ cl c', (mkF cl c').cl = cl) (hsc : ∀ y ∈ nsc.names, y.2 = .free → y.1 ∈ fr) (hnd : ndefB scope nsc fr = true) (hjs : js.map (fun j => N[j]?) = fr.map some)
    (nok : ∀ j f cl c', COk O P w K mg base (max j lv + 1) f (mkF cl c') psn fr (spn j))
    (hbody : ∀ (c : Addr) (A : Around) (outer : List Env) (s : Shared) (H : Hp) (vs : List V) (Q : VK) (E : XK), He.codeOf K (x, none) = c → Room k (A.deeper (envOfC qual scope s.heap.objs.size f (.ref c))) → sp vs H Q E →
      ∃ (t : TS) (te : TE), PSs (cxOf CX0 P w K mg base N qual scope f (.ref c) A outer s H E) pre t ∧ PE (cxOf CX0 P w K mg base N qual scope f (.ref c) A outer s H E) e te ∧
        ∀ G : V → L2.St → Hp → Prop, (∀ v σ' H'', (∀ C dC H', Upg (Cal P w K mg base) lv O (mkF (cloFrom (envOfC qual scope s.heap.objs.size f (.ref c)).cells nsc.names [])) js spn C dC σ' H'' H' → Q v H') → G v σ' H'') →
          t { nx := fun σ' H' => te σ' H' fun v H'' => G v σ' H'', rt := fun _ _ => False } (start N vs) H)
    (hat : f = He.fAd K (x, none)) : FnOk P w K mg base CX0 (k + 1) f fd ps sp := by
  obtain ⟨oc, od, dV, kV, doc, pm, an, cdv, ct, osl, rfl, lk, hcd, _, _⟩ := F.ex
  obtain ⟨c, rfl⟩ := He.codeIn_ref hcd
  have ec : He.codeOf K (x, none) = c := He.codeOf_eq (p := (x, none)) (by rw [← hat]; exact lk) rfl
  refine ⟨len, fun A outer s H args us vs Q E hr e0 hb r hsp => ?_⟩
  have hl := len _ _ _ _ hsp
  have KX : K.In s.heap := e0.mod.kin.keeps fun b o e => (e0.bs b o e).1
  have lim : s.heap.NoLimit := e0.mod.nolimit.keeps fun b o e => (e0.bs b o e).1
  have hkind : ∀ y ∈ ps.zip us, scope.names.lookup y.1 = some .local ∨ (scope.names.lookup y.1 = some .cell ∧ ((cellsFrom (s.heap.objs.size + 1) scope.names []).lookup y.1).isSome = true) := fun ⟨n, v⟩ hy => by
    rcases S.par n (List.of_mem_zip hy).1 with q | q
    · exact .inl q
    · exact .inr ⟨q, PySem.W.cellsFrom_some _ _ _ (.inl q)⟩
  refine codeAny_call_function hr.depth (KX _ _ lk) rfl S.co S.gen rfl (PySem.W.codeRec_of KX hcd) (hb _ _ _ _ ?_)
  refine wpAny_newFunctionEnv_cells S.kind hkind fun env he s1 x1 => ?_
  subst he
  refine ⟨lim.keeps x1.toInCall.keep, codeAny_func ?_⟩
  obtain ⟨t, te, ht, hte, hq⟩ := hbody c A outer s H vs Q E ec (hr.deeper _) hsp
  have I : Inv (cxOf CX0 P w K mg base N qual scope f (.ref c) A outer s H E) [] (start N vs) H s1 := inv_start S hr.hd e0 hl r x1
  have hq := hq (fun v σ' H'' => ∀ C dC H', Upg (Cal P w K mg base) lv O (mkF (cloFrom (envOfC qual scope s.heap.objs.size f (.ref c)).cells nsc.names [])) js spn C dC σ' H'' H' → Q v H') fun v σ' H'' z => z
  subst hbd
  refine wpAny_execs_app ?_
  refine wpAny_mono (ht.run [] s1 (start N vs) H _ I hq) (fun fl s2 hs => ?_) fun e s' hs => hs
  cases fl with
  | ret v =>
    obtain ⟨_, _, _, _, _, q⟩ := hs
    exact False.elim q
  | brk =>
    obtain ⟨_, _, _, q⟩ := hs
    exact False.elim q
  | cont =>
    obtain ⟨_, _, _, q⟩ := hs
    exact False.elim q
  | next =>
  obtain ⟨σ', H', J, q⟩ := hs
  refine wpAny_execs_cons (wpAny_Return_some (thn (hte.run [] s2 σ' H' _ J q) fun u s3 ⟨v, H'', J3, rv, g⟩ => ?_))
  show CE outer P w H s Q u s3
  have hfr := ndef_fr hnd
  have hfree := ndef_free hnd
  have hf2 : ∀ y ∈ nsc.names, y.2 = .free → ∃ c', (envOfC qual scope s.heap.objs.size f (.ref c)).cells.lookup y.1 = some c' := fun y hy e => (hfree y hy e).elim (fun z => J3.ok.has _ (.inl z)) fun z => J3.ok.has _ (.inr z)
  have CA : CellsAt (cloFrom (envOfC qual scope s.heap.objs.size f (.ref c)).cells nsc.names []) fr (js.map (slotAt σ')) s3.heap H'' := cells_of J3 (Caps.made J3.ok hfree hfr hjs)
  generalize hcl0 : cloFrom (envOfC qual scope s.heap.objs.size f (.ref c)).cells nsc.names [] = cl at CA g
  have hC : ∀ b, (∃ y, cl.lookup y = some b) → H'' b = none ∧ ∃ v, s3.heap.IsCell b v := fun b ⟨y, e⟩ => CA.all y b e
  have old : ∀ b o, s.heap.get? b = some o → ¬ ∃ y, cl.lookup y = some b := fun b o ho ⟨y, e⟩ => by
    rw [← hcl0] at e
    have z := J3.ok.cab y b rfl (clo_cm hf2 e)
    exact Nat.lt_irrefl _ (Nat.lt_of_lt_of_le (Heap.lt_size ho) z)
  have out : ∀ {b o}, H'' b = some o → ¬ ∃ y, cl.lookup y = some b := fun {b o} e z => by rw [(hC b z).1] at e; cases e
  have un := J3.base
  refine ⟨v, cellH (fun b => ∃ y, cl.lookup y = some b) s3.heap H'', J3.os, J3.bare, ⟨un.keep, un.slot, fun b o e n hx => ?_, un.there, fun b xs e => ?_, fun b o u e => ?_, fun b ps e => ?_⟩, cellH_ok J3.hok hC, rv, g (fun b => ∃ y, cl.lookup y = some b) (fun b => Classical.propDecidable _) _ ?_⟩
  · rw [cellH_out (old b o e)]; exact un.free b o e n hx
  · have z := un.tups b xs e
    rw [cellH_out (out z)]; exact z
  · have z := un.frzs b o u e
    rw [cellH_out (out z)]; exact z
  · obtain ⟨more, z⟩ := un.tbls b ps e
    exact ⟨more, by rw [cellH_out (out z)]; exact z⟩
  · refine ⟨fun b z => (hC b z).1, fun b z => cellH_out z, fun b z => cellH_ext z, fun f' c' e1 e2 ws hws j H3 vs3 Q3 hx hsp3 => ?_⟩
    have key : ∀ (i : Nat) (y : Str), fr[i]? = some y → ∃ c, cl.lookup y = some c ∧ ∀ v, ws[i]? = some v → H3 c = some (CellO c v) := fun i y ey => by
      obtain ⟨c1, h1, h2⟩ := CA.has i y ey
      refine ⟨c1, h1, fun v0 ev => ?_⟩
      obtain ⟨u0, r0, z0⟩ := h2 v0 (by rw [hws, List.getElem?_map, ev]; rfl)
      exact hx c1 _ (cellH_in ⟨y, h1⟩ r0 z0)
    have hlen : ws.length = fr.length := by
      have q := CA.len
      rw [hws, List.length_map] at q
      exact q
    have cells : Cells (fun b => ∃ y, cl.lookup y = some b) H3 := fun b ⟨y, e⟩ => by
      have hy : y ∈ fr := by
        have e' := e
        rw [← hcl0] at e'
        rcases cloFrom_mem (PySem.mem_of_lookup e') with hm | ⟨hm1, hm2⟩
        · cases hm
        · exact hsc _ hm1 rfl
      obtain ⟨i, hi⟩ := List.mem_iff_getElem?.mp hy
      obtain ⟨c1, h1, h2⟩ := key i y hi
      rw [h1] at e; cases e
      have hlt : i < ws.length := by rw [hlen]; exact (List.getElem?_eq_some_iff.mp hi).1
      exact ⟨_, h2 (ws[i]) (List.getElem?_eq_getElem hlt)⟩
    obtain ⟨φ, eO, hφ⟩ := hO (f := f') (F := mkF cl c')
    have e3 : H3 f' = some (O f' (mkF cl c')) := by
      rw [eO] at e1 ⊢
      exact hx _ _ (by rw [cellH_out (out e1)]; exact e1)
    have e4 : H3 (mkF cl c').c = some (CodeO (mkF cl c').c (mkF cl c').qual) := hx _ _ (by rw [cellH_out (out e2)]; exact e2)
    letI : DecidablePred (fun b => ∃ y, cl.lookup y = some b) := fun b => Classical.propDecidable _
    refine cal_of (C := fun b => ∃ y, cl.lookup y = some b) (nok j f' cl c') ⟨φ, by rw [e3, eO], hφ⟩ e3 e4 cells hlen (fun y c e => ⟨y, by rw [hcl] at e; exact e⟩) ?_ ?_ (out e1) (out e2) hsp3
    · rw [hcl]; exact CA.inj
    · rw [hcl]; exact key
/-! ### walking with closures -/
section
variable {P : Addr} {i : Nat} {mk : Addr → NF} {b : Expr} {σ : L2.St} {H H' H3 H4 : Hp} {Q : VK} {nx bk ct : L2.St → Hp → Prop} {rt : VK} {CL : CLs} {j : Nat} {ta : TA} {f : Addr}
theorem m_ndefC (hT : TabN H P nmL) (h : ∀ (f c' : Addr) (H1 : Hp), Same H H1 → H f = none → H1 f = some (FnO f (mk c')) → H1 (mk c').c = some (CodeO (mk c').c (mk c').qual) → nx (σ.set i (some (.ref f))) H1) : tNdefC P i mk (Ends.mk nx rt bk ct) σ H := ⟨hT, h⟩
theorem m_lamC (hT : TabN H P nmL) (h : ∀ (f c' : Addr) (H1 : Hp), Same H H1 → H f = none → H1 f = some (LamO b f (mk c')) → H1 (mk c').c = some (CodeO (mk c').c (mk c').qual) → Q (.ref f) H1) : tLamC P b mk σ H Q := ⟨hT, h⟩
theorem m_callV (hs : σ[i]? = some (some (.ref f))) (hf : IsFn H f) (h : ta σ H fun vs H1 => CL.run j f vs H1 Q) : tCallV CL j i ta σ H Q := ⟨f, hs, hf, h⟩
abbrev All (H H' : Hp) : Prop := L2.Same H H'
theorem All.same (h : All H H') : Same H H' := .of h
theorem Same.extN (s : Same H H') : ExtN H H' := s.keep
theorem IsFn.ext (h : IsFn H f) (s : ExtN H H') : IsFn H' f := by
  obtain ⟨φ, e, q⟩ := h
  exact ⟨φ, s _ _ e (fun _ z => nomatch z), q⟩
theorem unhide_hide {C : Addr → Prop} [DecidablePred C] : unhide C H (hide C H) = H := by
  funext b
  unfold unhide hide
  split <;> rfl
theorem unhide_upd {C : Addr → Prop} [DecidablePred C] {p : Addr} {o : HO} (h : ¬ C p) : unhide C H (upd (hide C H) p o) = upd H p o := by
  funext b
  by_cases hb : C b
  · rw [unhide_in hb, upd_ne fun z => h (by rw [← z]; exact hb)]
  · rw [unhide_out hb]
    by_cases e : b = p
    · subst e; rw [upd_same, upd_same]
    · rw [upd_ne e, upd_ne e, hide_out hb]
theorem all_unhide {C : Addr → Prop} [DecidablePred C] (s : All (hide C H3) H4) : All H3 (unhide C H3 H4) := fun b o e => by
  by_cases hb : C b
  · rw [unhide_in hb]; exact e
  · rw [unhide_out hb]; exact s b o ((hide_out hb).trans e)
theorem upg_out {lv : Nat} {O : Addr → NF → HO} {js : List Nat} {spn : Nat → List V → List V → Hp → VK → Prop} {C : Addr → Prop} {dC : DecidablePred C} (u : Upg CL lv O mk js spn C dC σ H H') {b : Addr} {o : HO} (e : H b = some o) : ¬ C b := fun z => by
  rw [u.hid b z] at e; cases e
theorem upg_ext {lv : Nat} {O : Addr → NF → HO} {js : List Nat} {spn : Nat → List V → List V → Hp → VK → Prop} {C : Addr → Prop} {dC : DecidablePred C} (u : Upg CL lv O mk js spn C dC σ H H') (s : ExtN H' H3) : ExtN H (hide C H3) := fun b o e n => by
  have hb := upg_out u e
  rw [hide_out hb]
  exact s b o (by rw [u.same b hb]; exact e) n
theorem upg_get {lv : Nat} {O : Addr → NF → HO} {js : List Nat} {spn : Nat → List V → List V → Hp → VK → Prop} {C : Addr → Prop} {dC : DecidablePred C} (u : Upg CL lv O mk js spn C dC σ H H') (s : ExtN H' H3) {b : Addr} {o : HO} [n : NT o] (e : H b = some o) : hide C H3 b = some o := upg_ext u s b o e n.ne
theorem ext_ext (s : ExtN H H') : ∀ b φ, H b = some (.ext φ) → H' b = some (.ext φ) := fun b φ e => s b _ e fun _ z => nomatch z
theorem fnO_ext {f : Addr} {F : NF} : ∀ ps, FnO f F ≠ .tbl ps := fnO_ne
end
/-- a look whose list stays as it was -/
def PureLook (CL : CLs) (j : Nat) (g : Addr) (xs : List V) (H : Hp) : Prop :=
  ∀ H', ExtN H H' → IsFn H' g ∧ ∀ (i : Nat) (x : V) (Q : VK), xs[i]? = some x → (∀ H'', All H' H'' → Q x H'') → CL.run j g [.int (i : Int)] H' Q
theorem PureLook.ext {CL : CLs} {j : Nat} {g : Addr} {xs : List V} {H H' : Hp} (p : PureLook CL j g xs H) (s : ExtN H H') : PureLook CL j g xs H' := fun H'' s2 => p H'' (s.trans s2)
theorem PureLook.ask {CL : CLs} {j k : Nat} {g : Addr} {xs : List V} {H H' : Hp} (p : PureLook CL j g xs H) (hj : j ≤ k) (s : ExtN H H') {i : Int} {x : V} {Q : VK} (h0 : 0 ≤ i) (hx : xs[i.toNat]? = some x) (q : ∀ H'', All H' H'' → Q x H'') : CL.run k g [.int i] H' Q := by
  have e : i = ((i.toNat : Nat) : Int) := by omega
  rw [e]
  exact CL.mono hj ((p H' s).2 _ x Q hx q)
theorem PureLook.askN {CL : CLs} {j k : Nat} {g : Addr} {xs : List V} {H H' : Hp} (p : PureLook CL j g xs H) (hj : j ≤ k) (s : ExtN H H') {i : Nat} {x : V} {Q : VK} (hx : xs[i]? = some x) (q : ∀ H'', All H' H'' → Q x H'') : CL.run k g [.int (i : Int)] H' Q :=
  CL.mono hj ((p H' s).2 _ x Q hx q)
open Classical in
/-- what is new in H', and what never changes -/
noncomputable def newOf (H H' : Hp) : Hp := fun b => if H b = none ∨ ∃ φ, H' b = some (.ext φ) then H' b else none
section
variable {H H' H3 : Hp} {b : Addr} {o : HO} {φ : Heap → Prop}
theorem newOf_new (h : H b = none) : newOf H H' b = H' b := if_pos (.inl h)
theorem newOf_ext (h : H' b = some (.ext φ)) : newOf H H' b = some (.ext φ) := (if_pos (.inr ⟨φ, h⟩)).trans h
theorem newOf_sub (h : newOf H H' b = some o) : H' b = some o := by
  unfold newOf at h
  split at h
  · exact h
  · cases h
theorem newOf_old (h : newOf H H' b = some o) (n : H b ≠ none) : ∃ φ, o = .ext φ := by
  unfold newOf at h
  split at h
  · rename_i z
    rcases z with z | ⟨φ, z⟩
    · exact absurd z n
    · rw [z] at h; cases h; exact ⟨φ, rfl⟩
  · cases h
theorem newOf_extN (s : ExtN H' H3) : ExtN (newOf H H') H3 := fun b o e n => s b o (newOf_sub e) n
/-- an object that was there and is no closure's may change -/
theorem newOf_upd {p : Addr} {xs : List V} (s : ExtN (newOf H H') H3) (hp : H p = some (.lst xs)) (s0 : ExtN H H') : ExtN (newOf H H') (upd H3 p o) := fun b u e n => by
  have nb : b ≠ p := fun z => by
    subst z
    obtain ⟨φ, q⟩ := newOf_old e (by rw [hp]; simp)
    have e2 := newOf_sub e
    rw [s0 _ _ hp fun _ z => nomatch z] at e2
    rw [q] at e2; cases e2
  rw [upd_ne nb]; exact s b u e n
end
/-! ### looks, as the program's defs use them -/
/-- H' is H, but for the list at q and for what is new -/
structure SameX (q : Option Addr) (H H' : Hp) : Prop where
  keep : ∀ b o, q ≠ some b → H b = some o → (∀ ps, o ≠ .tbl ps) → H' b = some o
  gone : ∀ b, H' b = none → H b = none
  tabs : ∀ P, TabN H P nmL → TabN H' P nmL
  isl : ∀ p, q = some p → ∃ xs, H p = some (.lst xs)
  isl' : ∀ p, q = some p → ∃ xs, H' p = some (.lst xs)
section
variable {q : Option Addr} {H H' H1 H2 : Hp} {a b : Addr} {o : HO} {xs : List V} {K : PySem.W.Frag}
theorem SameX.of (hq : ∀ p, q = some p → ∃ xs, H p = some (.lst xs)) (hq' : ∀ p, q = some p → ∃ xs, H' p = some (.lst xs)) (h : ∀ b o, q ≠ some b → H b = some o → H' b = some o) : SameX q H H' := by
  refine ⟨fun b o n e _ => h b o n e, fun b e => ?_, fun P ⟨ps, h1, ht, hc⟩ => ?_, hq, hq'⟩
  · cases z : H b with
    | none => rfl
    | some o =>
      by_cases hb : q = some b
      · obtain ⟨xs, q'⟩ := hq' b hb
        rw [e] at q'; cases q'
      · rw [h b o hb z] at e; cases e
  · have np : ∀ {b : Addr} {u : HO}, H b = some u → (∀ xs, u ≠ .lst xs) → q ≠ some b := fun {b u} e d z => by
      obtain ⟨xs, q'⟩ := hq b z
      rw [q'] at e; cases e; exact d _ rfl
    refine ⟨ps, h P _ (np h1 fun _ z => nomatch z) h1, ht, fun pos cv z => ?_⟩
    obtain ⟨c, e1, e2⟩ := hc pos cv z
    exact ⟨c, e1, h c _ (np e2 fun _ z => by unfold CodeO at z; cases z) e2⟩
theorem Same.toX (s : Same H H') (hq : ∀ p, q = some p → ∃ xs, H p = some (.lst xs)) : SameX q H H' := ⟨fun b o _ e n => s.keep b o e n, s.gone, s.tabs, hq, fun p z => let ⟨xs, e⟩ := hq p z; ⟨xs, s.get e⟩⟩
theorem SameX.trans (a : SameX q H H1) (b : SameX q H1 H2) : SameX q H H2 := ⟨fun c o n e z => b.keep c o n (a.keep c o n e z) z, fun c e => a.gone c (b.gone c e), fun P t => b.tabs P (a.tabs P t), a.isl, b.isl'⟩
theorem SameX.andS (a : SameX q H H1) (b : Same H1 H2) : SameX q H H2 := a.trans (b.toX a.isl')
theorem SameX.get (s : SameX q H H') (n : q ≠ some b) [NT o] (e : H b = some o) : H' b = some o := s.keep b o n e NT.ne
theorem SameX.ne (s : SameX q H H') (e : H b = some o) (d : ∀ xs, o ≠ .lst xs) : q ≠ some b := fun z => by
  obtain ⟨xs, q'⟩ := s.isl b z
  rw [q'] at e; cases e; exact d _ rfl
theorem SameX.neN (s : SameX q H H') (e : H b = none) : q ≠ some b := fun z => by
  obtain ⟨xs, q'⟩ := s.isl b z
  rw [q'] at e; cases e
theorem SameX.tup (s : SameX q H H') (e : H b = some (.tup xs)) : H' b = some (.tup xs) := s.get (s.ne e fun _ z => nomatch z) e
theorem SameX.seqT (s : SameX q H H') (h : SqT K H a xs) : SqT K H' a xs := by
  rcases h with (h | ⟨o, h⟩) | h
  · exact .inl (.inl (s.tup h))
  · exact .inl (.inr ⟨o, s.get (s.ne h fun _ z => nomatch z) h⟩)
  · exact .inr h
theorem SameX.pure (s : SameX Option.none H H') : Same H H' := ⟨fun b o e n => s.keep b o (fun z => nomatch z) e n, s.gone, s.tabs⟩
end
/-- a look of n answers; what has been asked for is L -/
structure LookR (CL : CLs) (g : Addr) (n : Nat) (val : Nat → V) (q : Option Addr) (I : List Nat → Hp → Prop) : Prop where
  fn : ∀ {L H}, I L H → IsFn H g
  isq : ∀ {L H}, I L H → ∀ p, q = some p → ∃ xs, H p = some (.lst xs)
  ext : ∀ {L H H'}, I L H → Same H H' → I L H'
  ask : ∀ {L H} {k : Nat} {Q : VK}, I L H → L.length < 9000 → k < n → (∀ H', I (L ++ [k]) H' → SameX q H H' → Q (val k) H') → CL.run 9 g [.int (k : Int)] H Q
theorem LookR.askI {CL : CLs} {g : Addr} {n : Nat} {val : Nat → V} {q : Option Addr} {I : List Nat → Hp → Prop} (R : LookR CL g n val q I) {L : List Nat} {H : Hp} {i : Int} {Q : VK} (h : I L H) (hl : L.length < 9000) (h0 : 0 ≤ i) (hn : i < n)
    (hq : ∀ H', I (L ++ [i.toNat]) H' → SameX q H H' → Q (val i.toNat) H') : CL.run 9 g [.int i] H Q := by
  have e : i = ((i.toNat : Nat) : Int) := by omega
  rw [e]
  exact R.ask h hl (by omega) hq
/-- a pure look, as such a look -/
theorem PureLook.lookR {CL : CLs} {j : Nat} {g : Addr} {xs : List V} {B : Hp} (p : PureLook CL j g xs B) (hj : j ≤ 9) : LookR CL g xs.length (fun k => xs.getD k .non) none (fun _ H => ExtN B H) where
  fn := fun h => (p _ h).1
  isq := fun _ _ z => nomatch z
  ext := fun h s => h.trans s.extN
  ask := fun {L H k Q} h _ hk q => p.askN hj h (show xs[k]? = some (xs.getD k .non) by rw [List.getD_eq_getElem?_getD, List.getElem?_eq_getElem hk]; rfl) fun H' s => q H' (h.trans (All.same s).extN) (((All.same s)).toX fun _ z => nomatch z)
/-- a look that writes down what it is asked for, in the list at ps -/
def LogLook (CL : CLs) (j : Nat) (g ps pb : Addr) (val : List V) (dft : V) (B : Hp) : Prop :=
  ∀ H', ExtN B H' → IsFn H' g ∧ ∀ (L : List Int) (k : Int) (Q : VK), H' ps = some (.lst (L.map V.int)) → L.length < 100000 → H' pb = some (.lst val) → Q (if 0 ≤ k ∧ k < val.length then val.getD k.toNat .non else dft) (upd H' ps (.lst ((L ++ [k]).map V.int))) → CL.run j g [.int k] H' Q
theorem LogLook.ext {CL : CLs} {j : Nat} {g ps pb : Addr} {val : List V} {dft : V} {B B' : Hp} (p : LogLook CL j g ps pb val dft B) (s : ExtN B B') : LogLook CL j g ps pb val dft B' := fun H' s2 => p H' (s.trans s2)
/-- .. between the calls: nothing but ps has changed -/
def LogI (B : Hp) (ps pb : Addr) (val : List V) (L0 : List Int) (L : List Nat) (H : Hp) : Prop := ExtN B H ∧ H ps = some (.lst ((L0 ++ L.map Int.ofNat).map V.int)) ∧ H pb = some (.lst val)
theorem LogLook.lookR {CL : CLs} {j : Nat} {g ps pb : Addr} {val : List V} {dft : V} {B : Hp} {L0 : List Int} (p : LogLook CL j g ps pb val dft B) (hj : j ≤ 9) (hB : ∀ o, B ps = some o → ∃ φ, o = .ext φ) (nb : ps ≠ pb) (hl : L0.length ≤ 90000) :
    LookR CL g val.length (fun k => val.getD k .non) (some ps) (LogI B ps pb val L0) where
  fn := fun h => (p _ h.1).1
  isq := fun h p z => by cases z; exact ⟨_, h.2.1⟩
  ext := fun h s => ⟨h.1.trans s.extN, s.get h.2.1, s.get h.2.2⟩
  ask := fun {L H k Q} h hL hk q => by
    refine CL.mono hj ((p _ h.1).2 _ _ Q h.2.1 (by rw [List.length_append, List.length_map]; omega) h.2.2 ?_)
    rw [if_pos ⟨by omega, by omega⟩, Int.toNat_natCast]
    have ne : ∀ {b : Addr} {o : HO}, B b = some o → b ≠ ps := fun {b o} e z => by
      subst z
      obtain ⟨φ, rfl⟩ := hB o e
      have z2 := h.1 _ _ e fun _ z => nomatch z
      rw [h.2.1] at z2; cases z2
    refine q _ ⟨fun b o e n => ?_, ?_, ?_⟩ (SameX.of (fun p z => by cases z; exact ⟨_, h.2.1⟩) (fun p z => by cases z; exact ⟨_, upd_same⟩) fun b o n e => ?_)
    · rw [upd_ne (ne e)]; exact h.1 b o e n
    · rw [upd_same, List.map_append (f := Int.ofNat), ← List.append_assoc]; rfl
    · rw [upd_ne nb.symm]; exact h.2.2
    · rw [upd_ne fun z => n (by rw [z])]; exact e
theorem LookR.congr {CL : CLs} {g : Addr} {n : Nat} {val val' : Nat → V} {q : Option Addr} {I : List Nat → Hp → Prop} (R : LookR CL g n val q I) (h : ∀ k, k < n → val k = val' k) : LookR CL g n val' q I :=
  ⟨R.fn, R.isq, R.ext, fun {L H k Q} i l hk q => R.ask i l hk (by rw [h k hk]; exact q)⟩
theorem getD_map_int (bl : List Int) {k : Nat} (h : k < bl.length) : (bl.map V.int).getD k .non = .int (bl.getD k 0) := by
  rw [List.getD_eq_getElem?_getD, List.getD_eq_getElem?_getD, mapint (List.getElem?_eq_getElem h), List.getElem?_eq_getElem h]; rfl
theorem LogLook.lookI {CL : CLs} {j : Nat} {g ps pb : Addr} {bl : List Int} {dft : V} {B : Hp} {L0 : List Int} (p : LogLook CL j g ps pb (bl.map V.int) dft B) (hj : j ≤ 9) (hB : ∀ o, B ps = some o → ∃ φ, o = .ext φ) (nb : ps ≠ pb) (hl : L0.length ≤ 90000) :
    LookR CL g bl.length (fun k => .int (bl.getD k 0)) (some ps) (LogI B ps pb (bl.map V.int) L0) := by
  have R := (p.lookR hj hB nb hl).congr (val' := fun k => .int (bl.getD k 0)) fun k hk => getD_map_int bl (by rw [List.length_map] at hk; exact hk)
  rw [List.length_map] at R
  exact R
theorem PureLook.lookI {CL : CLs} {j : Nat} {g : Addr} {bl : List Int} {B : Hp} (p : PureLook CL j g (bl.map V.int) B) (hj : j ≤ 9) : LookR CL g bl.length (fun k => .int (bl.getD k 0)) none (fun _ H => ExtN B H) := by
  have R := (p.lookR hj).congr (val' := fun k => .int (bl.getD k 0)) fun k hk => getD_map_int bl (by rw [List.length_map] at hk; exact hk)
  rw [List.length_map] at R
  exact R
section
variable {B H H0 H' : Hp} {ps pb a : Addr} {val : List V} {L0 : List Int} {L : List Nat} {xs : List V} {K : PySem.W.Frag} {q : Option Addr} {o : HO}
theorem extN_upd (s : ExtN B H) (hB : ∀ o, B ps = some o → ∃ φ, o = .ext φ) (e : H ps = some (.lst xs)) : ExtN B (upd H ps o) := fun b u z n => by
  have nb : b ≠ ps := fun y => by
    subst y
    obtain ⟨φ, rfl⟩ := hB u z
    have z2 := s _ _ z fun _ z => nomatch z
    rw [e] at z2; cases z2
  rw [upd_ne nb]; exact s b u z n
theorem LogI.clear (h : LogI B ps pb val L0 L H) (hB : ∀ o, B ps = some o → ∃ φ, o = .ext φ) (nb : ps ≠ pb) : LogI B ps pb val [] [] (upd H ps (.lst [])) :=
  ⟨extN_upd h.1 hB h.2.1, upd_same, by rw [upd_ne nb.symm]; exact h.2.2⟩
/-- what was asked for is the start of what follows -/
theorem LogI.again (h : LogI B ps pb val L0 L H) : LogI B ps pb val (L0 ++ L.map Int.ofNat) [] H := ⟨h.1, by simpa using h.2.1, h.2.2⟩
theorem SameX.upd (s : SameX (some ps) H H') : SameX (some ps) H (upd H' ps (.lst xs)) := by
  obtain ⟨ys, e⟩ := s.isl' ps rfl
  refine s.trans (SameX.of s.isl' (fun p z => by cases z; exact ⟨_, upd_same⟩) fun b o n e => ?_)
  rw [upd_ne fun z => n (by rw [z])]; exact e
theorem SameX.seqO (h : SqL K H a xs) (s0 : Same H H0) (hps : H ps = none) (s : SameX (some ps) H0 H') : SqL K H' a xs := by
  have ne : ∀ {o}, H a = some o → (some ps : Option Addr) ≠ some a := fun {o} e z => by cases z; rw [hps] at e; cases e
  rcases h with (z | ⟨o, z⟩) | z
  · exact .inl (.inl (s.get (ne z) (s0.get z)))
  · exact .inl (.inr ⟨o, s.get (ne z) (s0.get z)⟩)
  · exact .inr z
end
/-- the list that changes is new -/
theorem SameX.fresh {H H1 H' : Hp} {ps : Addr} (s : Same H H1) (h : H ps = none) (x : SameX (some ps) H1 H') : Same H H' :=
  ⟨fun b o e n => x.keep b o (fun z => by cases z; rw [h] at e; cases e) (s.keep b o e n) n, fun b e => s.gone b (x.gone b e), fun P t => x.tabs P (s.tabs P t)⟩
theorem LogI.start {H H1 : Hp} {ps pb : Addr} {val : List V} {L0 : List Int} (e : H1 ps = some (.lst (L0.map V.int))) (b : H1 pb = some (.lst val)) : LogI (newOf H H1) ps pb val L0 [] H1 :=
  ⟨newOf_extN (ExtN.refl _), by simpa using e, b⟩
/-- the same, of places that are there alone -/
def LogLookN (CL : CLs) (j : Nat) (g ps pb : Addr) (val : List V) (B : Hp) : Prop :=
  ∀ H', ExtN B H' → IsFn H' g ∧ ∀ (L : List Int) (k : Nat) (x : V) (Q : VK), H' ps = some (.lst (L.map V.int)) → L.length < 100000 → H' pb = some (.lst val) → val[k]? = some x → Q x (upd H' ps (.lst ((L ++ [(k : Int)]).map V.int))) → CL.run j g [.int (k : Int)] H' Q
theorem LogLookN.ext {CL : CLs} {j : Nat} {g ps pb : Addr} {val : List V} {B B' : Hp} (p : LogLookN CL j g ps pb val B) (s : ExtN B B') : LogLookN CL j g ps pb val B' := fun H' s2 => p H' (s.trans s2)
theorem LogLookN.lookR {CL : CLs} {j : Nat} {g ps pb : Addr} {val : List V} {B : Hp} {L0 : List Int} (p : LogLookN CL j g ps pb val B) (hj : j ≤ 9) (hB : ∀ o, B ps = some o → ∃ φ, o = .ext φ) (nb : ps ≠ pb) (hl : L0.length ≤ 90000) :
    LookR CL g val.length (fun k => val.getD k .non) (some ps) (LogI B ps pb val L0) where
  fn := fun h => (p _ h.1).1
  isq := fun h p z => by cases z; exact ⟨_, h.2.1⟩
  ext := fun h s => ⟨h.1.trans s.extN, s.get h.2.1, s.get h.2.2⟩
  ask := fun {L H k Q} h hL hk q => by
    refine CL.mono hj ((p _ h.1).2 _ k (val.getD k .non) Q h.2.1 (by rw [List.length_append, List.length_map]; omega) h.2.2 (by rw [List.getD_eq_getElem?_getD, List.getElem?_eq_getElem hk]; rfl) ?_)
    refine q _ ⟨extN_upd h.1 hB h.2.1, ?_, ?_⟩ (SameX.of (fun p z => by cases z; exact ⟨_, h.2.1⟩) (fun p z => by cases z; exact ⟨_, upd_same⟩) fun b o n e => ?_)
    · rw [upd_same, List.map_append (f := Int.ofNat), ← List.append_assoc]; rfl
    · rw [upd_ne nb.symm]; exact h.2.2
    · rw [upd_ne fun z => n (by rw [z])]; exact e
end Tw
/-! ### a caught exception handed to another def -/
namespace Tw
open PySem PySem.Spec PyProof.Rows L2
/-- the exception object at a, as it stands -/
def ExcO (a : Addr) (oe : Obj) : HO := .ext fun h => h.get? a = some oe
instance {a : Addr} {oe : Obj} : NT (ExcO a oe) := ⟨fun _ z => by unfold ExcO at z; cases z⟩
theorem excO_ok {P : Program} {w : World} {H : Hp} {h : Heap} {a : Addr} {oe : Obj} (e : h.get? a = some oe) : ObjOk P w H h a (ExcO a oe) :=
  ⟨e, ⟨oe, e⟩, fun _ _ q k => k oe q⟩
def tCallH (sp : Sp) (a : Addr) (cls : Value) (d : Option Addr) (t : TA) : TE := fun σ H Q => t σ H fun vs H1 => ∀ oe, Zc cls d oe → (∃ vs, oe.data = .fields vs) → H1 a = none → sp vs (upd H1 a (ExcO a oe)) (fun v H' => H' a = some (ExcO a oe) ∧ Q v (delH H' a)) E0
section
variable {P : Program} {w : World} {K : PySem.W.Frag} {mg : Str → Option Value} {base : Heap} {A : Around} {outer : List Env} {s s' : Shared} {H : Hp} {a : Addr} {oe : Obj} {Q : VK} {u : Value}
theorem env0_track (e0 : Env0 P w K mg base A outer s H) (hg : s.heap.get? a = some oe) (hn : H a = none) (hf : ∃ vs, oe.data = .fields vs) (hbn : base.get? a = none) : Env0 P w K mg base A outer s (upd H a (ExcO a oe)) := by
  refine ⟨e0.frames, e0.mod, fun b o e => ⟨(e0.bs b o e).1, ?_⟩, e0.bsz, e0.funs, fun b hb => ?_, e0.hok.laidN (fun _ _ q => q) hn (excO_ok hg), e0.bare⟩
  · rw [upd_ne (fun z => by rw [z, hbn] at e; cases e)]; exact (e0.bs b o e).2
  · rw [upd_ne (fun z => ?_)]
    · exact e0.frf b hb
    · subst z
      obtain ⟨vs, hv⟩ := hf
      obtain ⟨_, o2, e2, hnf⟩ := e0.funs.mem hb
      rw [hg] at e2; cases e2
      exact hnf _ hv
theorem ce_untrack (hg : s.heap.get? a = some oe) (hn : H a = none) (h : CE outer P w (upd H a (ExcO a oe)) s (fun v H' => H' a = some (ExcO a oe) ∧ Q v (delH H' a)) u s') (hfr : a ∉ frs outer) : CE outer P w H s Q u s' := by
  obtain ⟨v, H', os, bare, un, ok', r, q0, q⟩ := h
  have hne : ∀ {b}, b ≠ a → H b = none → (upd H a (ExcO a oe)) b = none := fun {b} n z => (upd_ne n).trans z
  refine ⟨v, delH H' a, os, bare, ⟨fun b o e n hb hx => ?_, fun b o e n hb hx => ?_, fun b o e n hx => ?_, un.there, fun b xs e => ?_, fun b o u e => ?_, fun b ps e => ?_⟩, fun b o e => ?_, r, q⟩
  · by_cases z : b = a
    · subst z
      rw [hg] at e; cases e
      exact (ok' b _ q0).1
    · exact un.keep b o e (hne z n) hb hx
  · have z : b ≠ a := fun z => hfr (z ▸ hb)
    exact un.slot b o e (hne z n) hb hx
  · by_cases z : b = a
    · rw [z]; exact delH_same
    · rw [delH_ne z]; exact un.free b o e (hne z n) hx
  · have z : b ≠ a := fun z => by rw [z, hn] at e; cases e
    rw [delH_ne z]; exact un.tups b xs (by rw [upd_ne z]; exact e)
  · have z : b ≠ a := fun z => by rw [z, hn] at e; cases e
    rw [delH_ne z]; exact un.frzs b o u (by rw [upd_ne z]; exact e)
  · have z : b ≠ a := fun z => by rw [z, hn] at e; cases e
    rw [delH_ne z]; exact un.tbls b ps (by rw [upd_ne z]; exact e)
  · have z : b ≠ a := fun z => by rw [z, delH_same] at e; cases e
    rw [delH_ne z] at e
    refine (ok' b o e).stay (fun _ _ _ q => q) (fun c q => ?_) fun c xs q => ?_
    · rw [delH_ne (fun y => by rw [y, q0] at q; cases q)]; exact q
    · rw [delH_ne (fun y => by rw [y, q0] at q; cases q)]; exact q
end
/-! a def that is called where an exception is handled, that neither raises nor walks -/
structure RoomN (k : Nat) (A : Around) : Prop where
  dp : A.depth + 3 * k + 5 < recursionLimit
  un : A.units + 16 * k + 200 < cLine
theorem RoomN.of {k : Nat} {A : Around} (r : Room k A) (v : Option Value) : RoomN k (A.mark v) := ⟨r.dp, r.un⟩
structure FnN (P : Program) (w : World) (K : PySem.W.Frag) (mg : Str → Option Value) (base : Heap) (k : Nat) (f : Addr) (fd : FuncData) (ps : List Str) (sp : Sp) : Prop where
  len : ∀ vs H Q E, sp vs H Q E → vs.length = ps.length
  run : ∀ (A : Around) (outer : List Env) (s : Shared) (H : Hp) (args : Args) (us : List Value) (vs : List V) (Q : VK), RoomN k A → Env0 P w K mg base A outer s H → BindsTo s fd args (ps.zip us) → Vals vs us → sp vs H Q E0 →
    codeAny (model P w) A (.call (.ref f) args) (CR CX0 outer P w H s Q E0) s
def cxN (P : Program) (w : World) (K : PySem.W.Frag) (mg : Str → Option Value) (base : Heap) (N : List Str) (qual : Str) (scope : Scope) (f : Addr) (cd : Value) (A : Around) (outer : List Env) (s : Shared) (H : Hp) : Cx :=
  { (cxOf CX0 P w K mg base N qual scope f cd A outer s H E0).nox with calm := false }
theorem FunD.okN {P : Program} {w : World} {K : PySem.W.Frag} {mg : Str → Option Value} {base : Heap} {x qual : Str} {params : Arguments} {body : List Stmt} {scope : Scope} {dvs : List V} {kws : List (Str × V)} {f : Addr} {fd : FuncData} {N ps : List Str} {k : Nat} {sp : Sp} (F : FunD K x qual params body scope dvs kws f fd) (S : FnScope N ps scope) (len : ∀ vs H Q E, sp vs H Q E → vs.length = ps.length)
    (hbody : ∀ (cdv : Value) (A : Around) (outer : List Env) (s : Shared) (H : Hp) (vs : List V) (Q : VK), RoomN k (A.deeper (envOfC qual scope s.heap.objs.size f cdv)) → sp vs H Q E0 →
      ∃ t, PSs (cxN P w K mg base N qual scope f cdv A outer s H) body t ∧ t { nx := fun _ H' => Q .non H', rt := Q } (start N vs) H) : FnN P w K mg base (k + 1) f fd ps sp := by
  obtain ⟨oc, od, dV, kV, doc, pm, an, cdv, ct, osl, rfl, lk, hcd, _, _⟩ := F.ex
  refine ⟨len, fun A outer s0 H args us vs Q hrm env0 hbd rv hspec => ?_⟩
  have hlen := len _ _ _ _ hspec
  have KXn : K.In s0.heap := env0.mod.kin.keeps fun b o e => (env0.bs b o e).1
  have limN : s0.heap.NoLimit := env0.mod.nolimit.keeps fun b o e => (env0.bs b o e).1
  have kinds : ∀ y ∈ ps.zip us, scope.names.lookup y.1 = some .local ∨ (scope.names.lookup y.1 = some .cell ∧ ((cellsFrom (s0.heap.objs.size + 1) scope.names []).lookup y.1).isSome = true) := fun ⟨n, v⟩ hy =>
    (S.par n (List.of_mem_zip hy).1).imp id fun q => ⟨q, PySem.W.cellsFrom_some _ _ _ (.inl q)⟩
  have dpt : A.depth < recursionLimit := by have := hrm.dp; omega
  refine codeAny_call_function dpt (KXn _ _ lk) rfl S.co S.gen rfl (PySem.W.codeRec_of KXn hcd) (hbd _ _ _ _ ?_)
  refine wpAny_newFunctionEnv_cells S.kind kinds fun env he s2 xin => ?_
  subst he
  refine ⟨limN.keeps xin.toInCall.keep, codeAny_func ?_⟩
  obtain ⟨t, ht, hq⟩ := hbody cdv A outer s0 H vs Q ⟨by have := hrm.dp; show A.depth + 1 + 3 * k + 5 < _; omega, by have := hrm.un; show A.units + 3 + 16 * k + 200 < _; omega⟩ hspec
  have J : Inv (cxOf CX0 P w K mg base N qual scope f cdv { A with handled := none } outer s0 H E0) [] (start N vs) H s2 := inv_start S rfl ⟨env0.frames, env0.mod, env0.bs, env0.bsz, env0.funs, env0.frf, env0.hok, env0.bare⟩ hlen rv xin
  have I : Inv (cxN P w K mg base N qual scope f cdv A outer s0 H) [] (start N vs) H s2 :=
    ⟨⟨J.ok.mod, J.ok.kind, J.ok.glob, J.ok.blt, J.ok.above, J.ok.inj, J.ok.has, J.ok.cab, (fun z => Bool.noConfusion (show false = true from z)), Around.frames_deeper env0.frames, J.ok.stk, J.ok.exf, J.ok.bs, J.ok.bsz, J.ok.noex, J.ok.exfs, J.ok.funs, J.ok.frf⟩, J.os, J.bare, J.base, J.loc, J.cell, J.free, J.freeC, J.pin, J.hok, J.len⟩
  refine wpAny_mono (ht.run [] s2 (start N vs) H _ I hq) (fun fl s' hs => ?_) fun e s' hs => False.elim hs
  cases fl with
  | ret u => obtain ⟨v, σ', H', J, r1, q⟩ := hs; exact ⟨v, H', J.os, J.bare, J.base, J.hok, r1, q⟩
  | next => obtain ⟨σ', H', J, q⟩ := hs; exact ⟨V.non, H', J.os, J.bare, J.base, J.hok, rfl, q⟩
  | brk => obtain ⟨_, _, _, q⟩ := hs; exact False.elim q
  | cont => obtain ⟨_, _, _, q⟩ := hs; exact False.elim q
structure Okn (P : Program) (w : World) (K : PySem.W.Frag) (mg : Str → Option Value) (base : Heap) (k : Nat) (x : Str) (ps : List Str) (sp : Sp) : Prop where
  ex : ∃ fd : FuncData, (∃ (oc : Value) (od : Option Addr) (osl : Array (Option Value)), K.lookup (He.ga K x) = some ⟨oc, od, .func fd, osl⟩) ∧ Binds K fd ps [] ∧ FnN P w K mg base k (He.ga K x) fd ps sp
  kp : PySem.W.keepIn K (.ref (He.ga K x)) = true
  gl : mg x = some (.ref (He.ga K x))
theorem pe_callH {X : Cx} {k j : Nat} {ps : List Str} {sp : Sp} {x : Str} {p pos : Pos} {e : Expr} {es : List Expr} {t : TA} {a : Addr} {oe : Obj} {cls : Value} {d : Option Addr} (hm : (a, oe) ∈ X.pn) (hz : Zc cls d oe) (hf : ∃ vs, oe.data = .fields vs) (hbn : X.base.get? a = none)
    (F : Okn X.prog X.w X.K X.mg X.base k x ps sp) (hr : RoomN j X.A) (hk : k ≤ j) (hg : Gl X x) (ha : PA X (e :: es) t)
    (hdb : (x == ("__debug__" : Str)) = false := by decide) (he : starEach (e :: es) X.env = (false, eval e X.env) :: starEach es X.env := by rfl) (hpl : (backTo pos (starEach es X.env)).any (·.1) = false := by rfl) :
    PE X (.Call (.Name x p) (e :: es) [] pos) (tCallH sp a cls d t) := by
  obtain ⟨fd, _, hb, ok⟩ := F.ex
  refine ⟨fun pins s σ H Q I h => ?_⟩
  refine wpAny_Call_Name_kw (ld_glob I hg F.gl ?_ hdb)
  refine PySem.W.callWith_K (h₀ := X.base) I.ok.mod.kin F.kp (thn (ha.run pos pins s σ H _ I h) fun us s1 ⟨vs, H1, I1, r, q⟩ => ⟨I1.kIn, ?_⟩) he hpl
  obtain ⟨hget, hn, nL, nF, nc⟩ := I1.pin (a, oe) (List.mem_append.mpr (.inl hm))
  have q' := q oe hz hf hn
  have hl : us.length = ps.length := by rw [← r.length]; exact ok.len _ _ _ _ q'
  have E1 := env0_track I1.env0 hget hn hf hbn
  have hfr : a ∉ frs X.stack := fun hb => by
    obtain ⟨vs, hv⟩ := hf
    obtain ⟨_, o2, e2, hnf⟩ := I1.stack.mem hb
    rw [hget] at e2; cases e2
    exact hnf _ hv
  have hB := hb s1 us I1.kIn (by rw [List.append_nil]; exact hl)
  rw [List.append_nil] at hB
  refine wpAny_call (codeAny_mono (ok.run X.A X.stack s1 _ ⟨us, []⟩ us vs _ ⟨by have := hr.dp; omega, by have := hr.un; omega⟩ E1 hB r q') fun r s' hq => ?_)
  cases r with
  | error e => exact False.elim hq
  | ok fl =>
    cases fl with
    | ret u => exact I1.after (ce_untrack hget hn hq hfr)
    | next => exact False.elim hq
    | brk => exact False.elim hq
    | cont => exact False.elim hq
/-- isinstance(e, c), isinstance(e, (c1, c2, ..)): e an exception that was handed on -/
def rIsH (K : PySem.W.Frag) : List V → Hp → VK → Prop := fun xs H Q => ∃ (a D : Addr) (oe : Obj) (c : V), xs = [.ref a, c] ∧ H a = some (ExcO a oe) ∧ Zc (.ref D) none oe ∧ (∃ vs, oe.data = .fields vs) ∧ ExcC K D ∧
  ((∃ (cv : Value) (b : Bool), (∀ u, RelV c u → u = cv) ∧ PySem.W.kitOne K (.ref D) cv = some b ∧ Q (.bl b) H) ∨
   (∃ (tp : Addr) (cs : List Addr) (b : Bool), c = .ref tp ∧ H tp = some (.tup (cs.map V.ref)) ∧ PySem.W.kitAny K (.ref D) (cs.map Value.ref) = some b ∧ Q (.bl b) H))
theorem call_isH {X : Cx} : CallR X (.builtin "isinstance") (rIsH X.K) := by
  intro pins s σ H xs us Q I r h
  obtain ⟨a, D, oe, c, rfl, hH, hz, hf, C, h⟩ := h
  obtain ⟨u1, u2, rfl, r1, r2⟩ := vals2 r
  cases (show u1 = Value.ref a from r1)
  obtain ⟨hget, _, _⟩ := (show ObjOk X.prog X.w H s.heap a (ExcO a oe) from I.hok a _ hH)
  obtain ⟨vs, hv⟩ := hf
  have J : PySem.W.InstAt s.heap a oe D none := by
    obtain ⟨oc, od, oda, osl⟩ := oe
    obtain ⟨h1, h2⟩ := hz
    dsimp only at h1 h2 hv
    subst h1 h2 hv
    exact ⟨hget, rfl, rfl, trivial⟩
  rcases h with ⟨cv, b, hcv, e, q⟩ | ⟨tp, cs, b, rfl, hT, e, q⟩
  · have ec := hcv _ r2
    subst ec
    exact PySem.W.kia_one (PySem.W.handS_kitx_exc C.hg C.hk C.hs C.hd C.ha C.hn C.ht C.hm) I.kIn J e (fun z => nomatch z) fun tk => ⟨.bl b, H, I.kept (t' := tk) fun _ _ z => z, rfl, q⟩
  · cases (show u2 = Value.ref tp from r2)
    obtain ⟨_, its, rv, o, h1, h2, n, h3⟩ := (show ObjOk X.prog X.w H s.heap tp (.tup (cs.map V.ref)) from I.hok tp _ hT)
    have e3 := ClsV.all (clsV_all cs) rv
    subst e3
    obtain ⟨oc, od, dt, sl⟩ := o
    simp only at h2 h3
    subst h2 h3
    exact PySem.W.kia_tup (PySem.W.handS_kitx_exc C.hg C.hk C.hs C.hd C.ha C.hn C.ht C.hm) I.kIn J h1 e (fun z => nomatch z) fun tk => ⟨.bl b, H, I.kept (t' := tk) fun _ _ z => z, rfl, q⟩
section
variable {K : PySem.W.Frag} {H : Hp} {Q : VK} {a D C tp : Addr} {b : Bool} {oe : Obj}
/-- an exception of the class D stands at a -/
def ExcAt (K : PySem.W.Frag) (H : Hp) (a D : Addr) : Prop := ExcC K D ∧ ∃ oe, H a = some (ExcO a oe) ∧ Zc (.ref D) none oe ∧ ∃ vs, oe.data = .fields vs
theorem ExcAt.same {H' : Hp} (h : ExcAt K H a D) (s : Same H H') : ExcAt K H' a D := let ⟨c, oe, e, z, f⟩ := h; ⟨c, oe, s.get e, z, f⟩
theorem k_isH (h : ExcAt K H a D) (e : PySem.W.kitOne K (.ref D) (.ref C) = some b) (q : Q (.bl b) H) : rIsH K [.ref a, .ref C] H Q :=
  let ⟨c, oe, h1, z, f⟩ := h; ⟨a, D, oe, _, rfl, h1, z, f, c, .inl ⟨.ref C, b, fun _ r => r, e, q⟩⟩
theorem k_isHty {n : String} (h : ExcAt K H a D) (e : PySem.W.kitOne K (.ref D) (.type n) = some b) (q : Q (.bl b) H) : rIsH K [.ref a, .ty n] H Q :=
  let ⟨c, oe, h1, z, f⟩ := h; ⟨a, D, oe, _, rfl, h1, z, f, c, .inl ⟨.type n, b, fun _ r => r, e, q⟩⟩
theorem k_isHT (cs : List Addr) (hT : H tp = some (.tup (cs.map V.ref))) (h : ExcAt K H a D) (e : PySem.W.kitAny K (.ref D) (cs.map Value.ref) = some b) (q : Q (.bl b) H) : rIsH K [.ref a, .ref tp] H Q :=
  let ⟨c, oe, h1, z, f⟩ := h; ⟨a, D, oe, _, rfl, h1, z, f, c, .inr ⟨tp, cs, b, rfl, hT, e, q⟩⟩
def CallHK (sp : Sp) (a : Addr) (cls : Value) (d : Option Addr) (Q : VK) (vs : List V) (H1 : Hp) : Prop := ∀ oe, Zc cls d oe → (∃ vs, oe.data = .fields vs) → H1 a = none → sp vs (upd H1 a (ExcO a oe)) (fun v H' => H' a = some (ExcO a oe) ∧ Q v (delH H' a)) E0
theorem m_callH {sp : Sp} {cls : Value} {d : Option Addr} {t : TA} {σ : L2.St} (h : t σ H (CallHK sp a cls d Q)) : tCallH sp a cls d t σ H Q := h
theorem delH_id (h : H a = none) : delH (upd H a (ExcO a oe)) a = H := delH_new h
/-- what stood with the exception stands without it -/
theorem same_del {H' : Hp} (s : L2.Same (upd H a (ExcO a oe)) H') (hn : H a = none) : Same H (delH H' a) := .of fun b o e => by
  have z : b ≠ a := fun z => by rw [z, hn] at e; cases e
  rw [delH_ne z]; exact s b o ((upd_ne z).trans e)
theorem all_new {p : Addr} {o : HO} (h : H p = none) : L2.Same H (upd H p o) := fun b x e => by rw [upd_ne (ne_of_none e h)]; exact e
theorem all_trans {H1 H2 : Hp} (a : L2.Same H H1) (b : L2.Same H1 H2) : L2.Same H H2 := fun c o e => b c o (a c o e)
end
end Tw
open PySem PySem.Spec PyProof.Rows L2 Tw
set_option hygiene false in
local macro_rules | `(tactic| walk_at "s1") => `(tactic| first
  | with_reducible refine m_seq ?_
  | with_reducible refine k_asg ?_
  | with_reducible refine m_asg ?_
  | ((with_reducible refine' k_var ?kv ?_); case kv => walk_at "look")
  | with_reducible refine k_c ?_
  | with_reducible refine k_op ?_
  | with_reducible refine k_I0 ?_
  | ((with_reducible refine k_I ?kv ?_); case kv => walk_at "cond")
  | with_reducible refine k_and1 ?_
  | with_reducible refine k_eqI ?_
  | with_reducible refine k_neI ?_
  | ((with_reducible refine k_eq ?kv ?_); case kv => exact rfl)
  | ((with_reducible refine k_ne ?kv ?_); case kv => exact rfl)
  | with_reducible refine k_isN ?_
  | with_reducible refine k_notN ?_
  | with_reducible refine k_nx ?_
  | with_reducible refine k_rt ?_
  | with_reducible refine m_next ?_
  | with_reducible refine m_bk ?_
  | with_reducible refine m_ct ?_
  | with_reducible refine k_if ?_
  | with_reducible refine k_test ?_
  | with_reducible refine k_tB ?_
  | with_reducible refine k_bl ?_
  | with_reducible refine k_chain ?_
  | with_reducible refine k_chainE ?_
  | with_reducible refine k_not ?_
  | with_reducible refine k_and ?_
  | with_reducible refine k_or ?_
  | with_reducible refine k_andV ?_
  | with_reducible refine k_orV ?_
  | with_reducible refine k_notV ?_
  | with_reducible refine k_ifE ?_
  | with_reducible refine k_ret ?_
  | with_reducible refine k_retN ?_
  | with_reducible refine k_drop ?_
  | with_reducible refine k_cons ?_
  | with_reducible refine k_nil ?_
  | with_reducible refine m_call ?_
  | with_reducible refine m_callS ?_
  | with_reducible refine k_rz ?_
  | with_reducible refine m_tryAs ?_
  | with_reducible refine m_tryOnly ?_
  | with_reducible refine m_tryM ?_
  | with_reducible refine k_cb ?_
  | with_reducible refine k_tup ?_
  | with_reducible refine k_lst ?_
  | ((with_reducible refine' k_aug ?kv ?_); case kv => exact rfl)
  | with_reducible refine k_ipI ?_
  | with_reducible refine k_un ?_
  | with_reducible refine k_U ?_
  | with_reducible refine k_sl ?_
  | with_reducible refine k_part ?_
  | with_reducible refine k_noPart ?_
  | with_reducible refine k_partE ?_
  | with_reducible refine k_bm ?_
  | with_reducible refine k_bm0 ?_
  | with_reducible refine k_isInt ?_
  | with_reducible refine k_isBool ?_
  | with_reducible refine k_min2 ?_
  | with_reducible refine k_max2 ?_
  | with_reducible refine m_gName ?_
  | with_reducible refine m_for ?_
  | with_reducible refine m_rng1 ?_
  | ((with_reducible refine m_rng1n ?kv ?_); case kv => walk_at "arith")
  | ((with_reducible refine m_rng1e ?kv ?_); case kv => walk_at "arith")
  | with_reducible refine m_rng2 ?_
  | ((with_reducible refine m_rng2e ?kv ?_); case kv => walk_at "arith")
  | with_reducible refine m_iL ?_
  | with_reducible refine m_iT ?_
  | with_reducible refine m_lc ?_
  | ((with_reducible refine k_disp ?kv ?_); case kv => (first | decide | (simp only [List.length_cons, List.length_nil]; omega)))
  | with_reducible refine m_rev ?_
  | with_reducible refine m_revL ?_
  | with_reducible refine m_enum ?_
  | with_reducible refine m_zip ?_
  | with_reducible refine m_rng3 ?_
  | with_reducible refine m_gCons ?_
  | with_reducible refine m_gNil ?_
  | with_reducible refine m_gSub ?_
  | with_reducible refine m_par ?_
  | with_reducible refine m_parE ?_
  | with_reducible refine m_wbody ?_
  | with_reducible refine m_lenSet ?_
  | with_reducible refine m_minD ?_
  | ((with_reducible refine' m_callV ?kv ?kf ?_); (case kv => walk_at "look"); (case kf => walk_at "isfn"))
  | with_reducible refine k_yes ?_
  | with_reducible refine k_T ?_
  | with_reducible refine k_F ?_
  | with_reducible refine k_nT ?_
  | with_reducible refine k_nF ?_)
local macro_rules | `(tactic| walk_at "cond") => `(tactic| first | exact ⟨by decide, by decide⟩ | omega | decide | exact ⟨by omega, by omega⟩ | exact ⟨by omega, by omega, by decide⟩ | exact Or.inr (by omega) | exact Or.inr (by decide) | exact Or.inl (by omega) | exact Or.inl (by decide) | assumption)
local macro_rules | `(tactic| walk_at "st") => `(tactic| repeat (walk_at "s1"))
local macro_rules | `(tactic| walk_at "look") => `(tactic| first | exact rfl | (simp only [List.getElem?_set, List.getElem?_cons_zero, List.getElem?_cons_succ]; exact rfl))
local macro_rules | `(tactic| walk_at "if") => `(tactic| first | with_reducible apply k_dec | with_reducible apply k_ndec)
local macro_rules | `(tactic| walk_at "arith") => `(tactic| first | decide | omega | (simp only [List.length_map, List.length_take, List.length_drop, List.length_append, List.length_cons, List.length_nil] at *; first | omega | (split <;> omega) | (split <;> split <;> omega)))
local macro_rules | `(tactic| walk_at "isfn") => `(tactic| assumption)
namespace Tw
structure KFx (K : PySem.W.Frag) : Prop where
  ec_NoBit : ExcC K (He.ga K "NoBit")
  kt_NoBit : PySem.W.kitOne K (.ref (He.ga K "NoBit")) (.type "ValueError") = some true
  k_NoBit_NoBit : PySem.W.kitOne K (.ref (He.ga K "NoBit")) (.ref (He.ga K "NoBit")) = some true
  e_NoBit_NoBit : PySem.W.exmOne K (.ref (He.ga K "NoBit")) (.ref (He.ga K "NoBit")) = some true
  k_NoBit_NoNode : PySem.W.kitOne K (.ref (He.ga K "NoBit")) (.ref (He.ga K "NoNode")) = some false
  e_NoBit_NoNode : PySem.W.exmOne K (.ref (He.ga K "NoBit")) (.ref (He.ga K "NoNode")) = some false
  k_NoBit_NoOctets : PySem.W.kitOne K (.ref (He.ga K "NoBit")) (.ref (He.ga K "NoOctets")) = some false
  e_NoBit_NoOctets : PySem.W.exmOne K (.ref (He.ga K "NoBit")) (.ref (He.ga K "NoOctets")) = some false
  k_NoBit_NoPlace : PySem.W.kitOne K (.ref (He.ga K "NoBit")) (.ref (He.ga K "NoPlace")) = some false
  e_NoBit_NoPlace : PySem.W.exmOne K (.ref (He.ga K "NoBit")) (.ref (He.ga K "NoPlace")) = some false
  k_NoBit_NoSign : PySem.W.kitOne K (.ref (He.ga K "NoBit")) (.ref (He.ga K "NoSign")) = some false
  e_NoBit_NoSign : PySem.W.exmOne K (.ref (He.ga K "NoBit")) (.ref (He.ga K "NoSign")) = some false
  k_NoBit_NoTree : PySem.W.kitOne K (.ref (He.ga K "NoBit")) (.ref (He.ga K "NoTree")) = some false
  e_NoBit_NoTree : PySem.W.exmOne K (.ref (He.ga K "NoBit")) (.ref (He.ga K "NoTree")) = some false
  k_NoBit_NoWord : PySem.W.kitOne K (.ref (He.ga K "NoBit")) (.ref (He.ga K "NoWord")) = some false
  e_NoBit_NoWord : PySem.W.exmOne K (.ref (He.ga K "NoBit")) (.ref (He.ga K "NoWord")) = some false
  k_NoBit_TooMany : PySem.W.kitOne K (.ref (He.ga K "NoBit")) (.ref (He.ga K "TooMany")) = some false
  e_NoBit_TooMany : PySem.W.exmOne K (.ref (He.ga K "NoBit")) (.ref (He.ga K "TooMany")) = some false
  k_NoBit_Twice : PySem.W.kitOne K (.ref (He.ga K "NoBit")) (.ref (He.ga K "Twice")) = some false
  e_NoBit_Twice : PySem.W.exmOne K (.ref (He.ga K "NoBit")) (.ref (He.ga K "Twice")) = some false
  k_NoBit_WoodError : PySem.W.kitOne K (.ref (He.ga K "NoBit")) (.ref (He.ga K "WoodError")) = some true
  e_NoBit_WoodError : PySem.W.exmOne K (.ref (He.ga K "NoBit")) (.ref (He.ga K "WoodError")) = some true
  ec_NoNode : ExcC K (He.ga K "NoNode")
  kt_NoNode : PySem.W.kitOne K (.ref (He.ga K "NoNode")) (.type "ValueError") = some true
  k_NoNode_NoBit : PySem.W.kitOne K (.ref (He.ga K "NoNode")) (.ref (He.ga K "NoBit")) = some false
  e_NoNode_NoBit : PySem.W.exmOne K (.ref (He.ga K "NoNode")) (.ref (He.ga K "NoBit")) = some false
  k_NoNode_NoNode : PySem.W.kitOne K (.ref (He.ga K "NoNode")) (.ref (He.ga K "NoNode")) = some true
  e_NoNode_NoNode : PySem.W.exmOne K (.ref (He.ga K "NoNode")) (.ref (He.ga K "NoNode")) = some true
  k_NoNode_NoOctets : PySem.W.kitOne K (.ref (He.ga K "NoNode")) (.ref (He.ga K "NoOctets")) = some false
  e_NoNode_NoOctets : PySem.W.exmOne K (.ref (He.ga K "NoNode")) (.ref (He.ga K "NoOctets")) = some false
  k_NoNode_NoPlace : PySem.W.kitOne K (.ref (He.ga K "NoNode")) (.ref (He.ga K "NoPlace")) = some false
  e_NoNode_NoPlace : PySem.W.exmOne K (.ref (He.ga K "NoNode")) (.ref (He.ga K "NoPlace")) = some false
  k_NoNode_NoSign : PySem.W.kitOne K (.ref (He.ga K "NoNode")) (.ref (He.ga K "NoSign")) = some false
  e_NoNode_NoSign : PySem.W.exmOne K (.ref (He.ga K "NoNode")) (.ref (He.ga K "NoSign")) = some false
  k_NoNode_NoTree : PySem.W.kitOne K (.ref (He.ga K "NoNode")) (.ref (He.ga K "NoTree")) = some false
  e_NoNode_NoTree : PySem.W.exmOne K (.ref (He.ga K "NoNode")) (.ref (He.ga K "NoTree")) = some false
  k_NoNode_NoWord : PySem.W.kitOne K (.ref (He.ga K "NoNode")) (.ref (He.ga K "NoWord")) = some false
  e_NoNode_NoWord : PySem.W.exmOne K (.ref (He.ga K "NoNode")) (.ref (He.ga K "NoWord")) = some false
  k_NoNode_TooMany : PySem.W.kitOne K (.ref (He.ga K "NoNode")) (.ref (He.ga K "TooMany")) = some false
  e_NoNode_TooMany : PySem.W.exmOne K (.ref (He.ga K "NoNode")) (.ref (He.ga K "TooMany")) = some false
  k_NoNode_Twice : PySem.W.kitOne K (.ref (He.ga K "NoNode")) (.ref (He.ga K "Twice")) = some false
  e_NoNode_Twice : PySem.W.exmOne K (.ref (He.ga K "NoNode")) (.ref (He.ga K "Twice")) = some false
  k_NoNode_WoodError : PySem.W.kitOne K (.ref (He.ga K "NoNode")) (.ref (He.ga K "WoodError")) = some true
  e_NoNode_WoodError : PySem.W.exmOne K (.ref (He.ga K "NoNode")) (.ref (He.ga K "WoodError")) = some true
  ec_NoOctets : ExcC K (He.ga K "NoOctets")
  kt_NoOctets : PySem.W.kitOne K (.ref (He.ga K "NoOctets")) (.type "ValueError") = some true
  k_NoOctets_NoBit : PySem.W.kitOne K (.ref (He.ga K "NoOctets")) (.ref (He.ga K "NoBit")) = some false
  e_NoOctets_NoBit : PySem.W.exmOne K (.ref (He.ga K "NoOctets")) (.ref (He.ga K "NoBit")) = some false
  k_NoOctets_NoNode : PySem.W.kitOne K (.ref (He.ga K "NoOctets")) (.ref (He.ga K "NoNode")) = some false
  e_NoOctets_NoNode : PySem.W.exmOne K (.ref (He.ga K "NoOctets")) (.ref (He.ga K "NoNode")) = some false
  k_NoOctets_NoOctets : PySem.W.kitOne K (.ref (He.ga K "NoOctets")) (.ref (He.ga K "NoOctets")) = some true
  e_NoOctets_NoOctets : PySem.W.exmOne K (.ref (He.ga K "NoOctets")) (.ref (He.ga K "NoOctets")) = some true
  k_NoOctets_NoPlace : PySem.W.kitOne K (.ref (He.ga K "NoOctets")) (.ref (He.ga K "NoPlace")) = some false
  e_NoOctets_NoPlace : PySem.W.exmOne K (.ref (He.ga K "NoOctets")) (.ref (He.ga K "NoPlace")) = some false
  k_NoOctets_NoSign : PySem.W.kitOne K (.ref (He.ga K "NoOctets")) (.ref (He.ga K "NoSign")) = some false
  e_NoOctets_NoSign : PySem.W.exmOne K (.ref (He.ga K "NoOctets")) (.ref (He.ga K "NoSign")) = some false
  k_NoOctets_NoTree : PySem.W.kitOne K (.ref (He.ga K "NoOctets")) (.ref (He.ga K "NoTree")) = some false
  e_NoOctets_NoTree : PySem.W.exmOne K (.ref (He.ga K "NoOctets")) (.ref (He.ga K "NoTree")) = some false
  k_NoOctets_NoWord : PySem.W.kitOne K (.ref (He.ga K "NoOctets")) (.ref (He.ga K "NoWord")) = some false
  e_NoOctets_NoWord : PySem.W.exmOne K (.ref (He.ga K "NoOctets")) (.ref (He.ga K "NoWord")) = some false
  k_NoOctets_TooMany : PySem.W.kitOne K (.ref (He.ga K "NoOctets")) (.ref (He.ga K "TooMany")) = some false
  e_NoOctets_TooMany : PySem.W.exmOne K (.ref (He.ga K "NoOctets")) (.ref (He.ga K "TooMany")) = some false
  k_NoOctets_Twice : PySem.W.kitOne K (.ref (He.ga K "NoOctets")) (.ref (He.ga K "Twice")) = some false
  e_NoOctets_Twice : PySem.W.exmOne K (.ref (He.ga K "NoOctets")) (.ref (He.ga K "Twice")) = some false
  k_NoOctets_WoodError : PySem.W.kitOne K (.ref (He.ga K "NoOctets")) (.ref (He.ga K "WoodError")) = some true
  e_NoOctets_WoodError : PySem.W.exmOne K (.ref (He.ga K "NoOctets")) (.ref (He.ga K "WoodError")) = some true
  ec_NoPlace : ExcC K (He.ga K "NoPlace")
  kt_NoPlace : PySem.W.kitOne K (.ref (He.ga K "NoPlace")) (.type "ValueError") = some true
  k_NoPlace_NoBit : PySem.W.kitOne K (.ref (He.ga K "NoPlace")) (.ref (He.ga K "NoBit")) = some false
  e_NoPlace_NoBit : PySem.W.exmOne K (.ref (He.ga K "NoPlace")) (.ref (He.ga K "NoBit")) = some false
  k_NoPlace_NoNode : PySem.W.kitOne K (.ref (He.ga K "NoPlace")) (.ref (He.ga K "NoNode")) = some false
  e_NoPlace_NoNode : PySem.W.exmOne K (.ref (He.ga K "NoPlace")) (.ref (He.ga K "NoNode")) = some false
  k_NoPlace_NoOctets : PySem.W.kitOne K (.ref (He.ga K "NoPlace")) (.ref (He.ga K "NoOctets")) = some false
  e_NoPlace_NoOctets : PySem.W.exmOne K (.ref (He.ga K "NoPlace")) (.ref (He.ga K "NoOctets")) = some false
  k_NoPlace_NoPlace : PySem.W.kitOne K (.ref (He.ga K "NoPlace")) (.ref (He.ga K "NoPlace")) = some true
  e_NoPlace_NoPlace : PySem.W.exmOne K (.ref (He.ga K "NoPlace")) (.ref (He.ga K "NoPlace")) = some true
  k_NoPlace_NoSign : PySem.W.kitOne K (.ref (He.ga K "NoPlace")) (.ref (He.ga K "NoSign")) = some false
  e_NoPlace_NoSign : PySem.W.exmOne K (.ref (He.ga K "NoPlace")) (.ref (He.ga K "NoSign")) = some false
  k_NoPlace_NoTree : PySem.W.kitOne K (.ref (He.ga K "NoPlace")) (.ref (He.ga K "NoTree")) = some false
  e_NoPlace_NoTree : PySem.W.exmOne K (.ref (He.ga K "NoPlace")) (.ref (He.ga K "NoTree")) = some false
  k_NoPlace_NoWord : PySem.W.kitOne K (.ref (He.ga K "NoPlace")) (.ref (He.ga K "NoWord")) = some false
  e_NoPlace_NoWord : PySem.W.exmOne K (.ref (He.ga K "NoPlace")) (.ref (He.ga K "NoWord")) = some false
  k_NoPlace_TooMany : PySem.W.kitOne K (.ref (He.ga K "NoPlace")) (.ref (He.ga K "TooMany")) = some false
  e_NoPlace_TooMany : PySem.W.exmOne K (.ref (He.ga K "NoPlace")) (.ref (He.ga K "TooMany")) = some false
  k_NoPlace_Twice : PySem.W.kitOne K (.ref (He.ga K "NoPlace")) (.ref (He.ga K "Twice")) = some false
  e_NoPlace_Twice : PySem.W.exmOne K (.ref (He.ga K "NoPlace")) (.ref (He.ga K "Twice")) = some false
  k_NoPlace_WoodError : PySem.W.kitOne K (.ref (He.ga K "NoPlace")) (.ref (He.ga K "WoodError")) = some true
  e_NoPlace_WoodError : PySem.W.exmOne K (.ref (He.ga K "NoPlace")) (.ref (He.ga K "WoodError")) = some true
  ec_NoSign : ExcC K (He.ga K "NoSign")
  kt_NoSign : PySem.W.kitOne K (.ref (He.ga K "NoSign")) (.type "ValueError") = some true
  k_NoSign_NoBit : PySem.W.kitOne K (.ref (He.ga K "NoSign")) (.ref (He.ga K "NoBit")) = some false
  e_NoSign_NoBit : PySem.W.exmOne K (.ref (He.ga K "NoSign")) (.ref (He.ga K "NoBit")) = some false
  k_NoSign_NoNode : PySem.W.kitOne K (.ref (He.ga K "NoSign")) (.ref (He.ga K "NoNode")) = some false
  e_NoSign_NoNode : PySem.W.exmOne K (.ref (He.ga K "NoSign")) (.ref (He.ga K "NoNode")) = some false
  k_NoSign_NoOctets : PySem.W.kitOne K (.ref (He.ga K "NoSign")) (.ref (He.ga K "NoOctets")) = some false
  e_NoSign_NoOctets : PySem.W.exmOne K (.ref (He.ga K "NoSign")) (.ref (He.ga K "NoOctets")) = some false
  k_NoSign_NoPlace : PySem.W.kitOne K (.ref (He.ga K "NoSign")) (.ref (He.ga K "NoPlace")) = some false
  e_NoSign_NoPlace : PySem.W.exmOne K (.ref (He.ga K "NoSign")) (.ref (He.ga K "NoPlace")) = some false
  k_NoSign_NoSign : PySem.W.kitOne K (.ref (He.ga K "NoSign")) (.ref (He.ga K "NoSign")) = some true
  e_NoSign_NoSign : PySem.W.exmOne K (.ref (He.ga K "NoSign")) (.ref (He.ga K "NoSign")) = some true
  k_NoSign_NoTree : PySem.W.kitOne K (.ref (He.ga K "NoSign")) (.ref (He.ga K "NoTree")) = some false
  e_NoSign_NoTree : PySem.W.exmOne K (.ref (He.ga K "NoSign")) (.ref (He.ga K "NoTree")) = some false
  k_NoSign_NoWord : PySem.W.kitOne K (.ref (He.ga K "NoSign")) (.ref (He.ga K "NoWord")) = some false
  e_NoSign_NoWord : PySem.W.exmOne K (.ref (He.ga K "NoSign")) (.ref (He.ga K "NoWord")) = some false
  k_NoSign_TooMany : PySem.W.kitOne K (.ref (He.ga K "NoSign")) (.ref (He.ga K "TooMany")) = some false
  e_NoSign_TooMany : PySem.W.exmOne K (.ref (He.ga K "NoSign")) (.ref (He.ga K "TooMany")) = some false
  k_NoSign_Twice : PySem.W.kitOne K (.ref (He.ga K "NoSign")) (.ref (He.ga K "Twice")) = some false
  e_NoSign_Twice : PySem.W.exmOne K (.ref (He.ga K "NoSign")) (.ref (He.ga K "Twice")) = some false
  k_NoSign_WoodError : PySem.W.kitOne K (.ref (He.ga K "NoSign")) (.ref (He.ga K "WoodError")) = some true
  e_NoSign_WoodError : PySem.W.exmOne K (.ref (He.ga K "NoSign")) (.ref (He.ga K "WoodError")) = some true
  ec_NoTree : ExcC K (He.ga K "NoTree")
  kt_NoTree : PySem.W.kitOne K (.ref (He.ga K "NoTree")) (.type "ValueError") = some true
  k_NoTree_NoBit : PySem.W.kitOne K (.ref (He.ga K "NoTree")) (.ref (He.ga K "NoBit")) = some false
  e_NoTree_NoBit : PySem.W.exmOne K (.ref (He.ga K "NoTree")) (.ref (He.ga K "NoBit")) = some false
  k_NoTree_NoNode : PySem.W.kitOne K (.ref (He.ga K "NoTree")) (.ref (He.ga K "NoNode")) = some false
  e_NoTree_NoNode : PySem.W.exmOne K (.ref (He.ga K "NoTree")) (.ref (He.ga K "NoNode")) = some false
  k_NoTree_NoOctets : PySem.W.kitOne K (.ref (He.ga K "NoTree")) (.ref (He.ga K "NoOctets")) = some false
  e_NoTree_NoOctets : PySem.W.exmOne K (.ref (He.ga K "NoTree")) (.ref (He.ga K "NoOctets")) = some false
  k_NoTree_NoPlace : PySem.W.kitOne K (.ref (He.ga K "NoTree")) (.ref (He.ga K "NoPlace")) = some false
  e_NoTree_NoPlace : PySem.W.exmOne K (.ref (He.ga K "NoTree")) (.ref (He.ga K "NoPlace")) = some false
  k_NoTree_NoSign : PySem.W.kitOne K (.ref (He.ga K "NoTree")) (.ref (He.ga K "NoSign")) = some false
  e_NoTree_NoSign : PySem.W.exmOne K (.ref (He.ga K "NoTree")) (.ref (He.ga K "NoSign")) = some false
  k_NoTree_NoTree : PySem.W.kitOne K (.ref (He.ga K "NoTree")) (.ref (He.ga K "NoTree")) = some true
  e_NoTree_NoTree : PySem.W.exmOne K (.ref (He.ga K "NoTree")) (.ref (He.ga K "NoTree")) = some true
  k_NoTree_NoWord : PySem.W.kitOne K (.ref (He.ga K "NoTree")) (.ref (He.ga K "NoWord")) = some false
  e_NoTree_NoWord : PySem.W.exmOne K (.ref (He.ga K "NoTree")) (.ref (He.ga K "NoWord")) = some false
  k_NoTree_TooMany : PySem.W.kitOne K (.ref (He.ga K "NoTree")) (.ref (He.ga K "TooMany")) = some false
  e_NoTree_TooMany : PySem.W.exmOne K (.ref (He.ga K "NoTree")) (.ref (He.ga K "TooMany")) = some false
  k_NoTree_Twice : PySem.W.kitOne K (.ref (He.ga K "NoTree")) (.ref (He.ga K "Twice")) = some false
  e_NoTree_Twice : PySem.W.exmOne K (.ref (He.ga K "NoTree")) (.ref (He.ga K "Twice")) = some false
  k_NoTree_WoodError : PySem.W.kitOne K (.ref (He.ga K "NoTree")) (.ref (He.ga K "WoodError")) = some true
  e_NoTree_WoodError : PySem.W.exmOne K (.ref (He.ga K "NoTree")) (.ref (He.ga K "WoodError")) = some true
  ec_NoWord : ExcC K (He.ga K "NoWord")
  kt_NoWord : PySem.W.kitOne K (.ref (He.ga K "NoWord")) (.type "ValueError") = some true
  k_NoWord_NoBit : PySem.W.kitOne K (.ref (He.ga K "NoWord")) (.ref (He.ga K "NoBit")) = some false
  e_NoWord_NoBit : PySem.W.exmOne K (.ref (He.ga K "NoWord")) (.ref (He.ga K "NoBit")) = some false
  k_NoWord_NoNode : PySem.W.kitOne K (.ref (He.ga K "NoWord")) (.ref (He.ga K "NoNode")) = some false
  e_NoWord_NoNode : PySem.W.exmOne K (.ref (He.ga K "NoWord")) (.ref (He.ga K "NoNode")) = some false
  k_NoWord_NoOctets : PySem.W.kitOne K (.ref (He.ga K "NoWord")) (.ref (He.ga K "NoOctets")) = some false
  e_NoWord_NoOctets : PySem.W.exmOne K (.ref (He.ga K "NoWord")) (.ref (He.ga K "NoOctets")) = some false
  k_NoWord_NoPlace : PySem.W.kitOne K (.ref (He.ga K "NoWord")) (.ref (He.ga K "NoPlace")) = some false
  e_NoWord_NoPlace : PySem.W.exmOne K (.ref (He.ga K "NoWord")) (.ref (He.ga K "NoPlace")) = some false
  k_NoWord_NoSign : PySem.W.kitOne K (.ref (He.ga K "NoWord")) (.ref (He.ga K "NoSign")) = some false
  e_NoWord_NoSign : PySem.W.exmOne K (.ref (He.ga K "NoWord")) (.ref (He.ga K "NoSign")) = some false
  k_NoWord_NoTree : PySem.W.kitOne K (.ref (He.ga K "NoWord")) (.ref (He.ga K "NoTree")) = some false
  e_NoWord_NoTree : PySem.W.exmOne K (.ref (He.ga K "NoWord")) (.ref (He.ga K "NoTree")) = some false
  k_NoWord_NoWord : PySem.W.kitOne K (.ref (He.ga K "NoWord")) (.ref (He.ga K "NoWord")) = some true
  e_NoWord_NoWord : PySem.W.exmOne K (.ref (He.ga K "NoWord")) (.ref (He.ga K "NoWord")) = some true
  k_NoWord_TooMany : PySem.W.kitOne K (.ref (He.ga K "NoWord")) (.ref (He.ga K "TooMany")) = some false
  e_NoWord_TooMany : PySem.W.exmOne K (.ref (He.ga K "NoWord")) (.ref (He.ga K "TooMany")) = some false
  k_NoWord_Twice : PySem.W.kitOne K (.ref (He.ga K "NoWord")) (.ref (He.ga K "Twice")) = some false
  e_NoWord_Twice : PySem.W.exmOne K (.ref (He.ga K "NoWord")) (.ref (He.ga K "Twice")) = some false
  k_NoWord_WoodError : PySem.W.kitOne K (.ref (He.ga K "NoWord")) (.ref (He.ga K "WoodError")) = some true
  e_NoWord_WoodError : PySem.W.exmOne K (.ref (He.ga K "NoWord")) (.ref (He.ga K "WoodError")) = some true
  ec_TooMany : ExcC K (He.ga K "TooMany")
  kt_TooMany : PySem.W.kitOne K (.ref (He.ga K "TooMany")) (.type "ValueError") = some true
  k_TooMany_NoBit : PySem.W.kitOne K (.ref (He.ga K "TooMany")) (.ref (He.ga K "NoBit")) = some false
  e_TooMany_NoBit : PySem.W.exmOne K (.ref (He.ga K "TooMany")) (.ref (He.ga K "NoBit")) = some false
  k_TooMany_NoNode : PySem.W.kitOne K (.ref (He.ga K "TooMany")) (.ref (He.ga K "NoNode")) = some false
  e_TooMany_NoNode : PySem.W.exmOne K (.ref (He.ga K "TooMany")) (.ref (He.ga K "NoNode")) = some false
  k_TooMany_NoOctets : PySem.W.kitOne K (.ref (He.ga K "TooMany")) (.ref (He.ga K "NoOctets")) = some false
  e_TooMany_NoOctets : PySem.W.exmOne K (.ref (He.ga K "TooMany")) (.ref (He.ga K "NoOctets")) = some false
  k_TooMany_NoPlace : PySem.W.kitOne K (.ref (He.ga K "TooMany")) (.ref (He.ga K "NoPlace")) = some false
  e_TooMany_NoPlace : PySem.W.exmOne K (.ref (He.ga K "TooMany")) (.ref (He.ga K "NoPlace")) = some false
  k_TooMany_NoSign : PySem.W.kitOne K (.ref (He.ga K "TooMany")) (.ref (He.ga K "NoSign")) = some false
  e_TooMany_NoSign : PySem.W.exmOne K (.ref (He.ga K "TooMany")) (.ref (He.ga K "NoSign")) = some false
  k_TooMany_NoTree : PySem.W.kitOne K (.ref (He.ga K "TooMany")) (.ref (He.ga K "NoTree")) = some false
  e_TooMany_NoTree : PySem.W.exmOne K (.ref (He.ga K "TooMany")) (.ref (He.ga K "NoTree")) = some false
  k_TooMany_NoWord : PySem.W.kitOne K (.ref (He.ga K "TooMany")) (.ref (He.ga K "NoWord")) = some false
  e_TooMany_NoWord : PySem.W.exmOne K (.ref (He.ga K "TooMany")) (.ref (He.ga K "NoWord")) = some false
  k_TooMany_TooMany : PySem.W.kitOne K (.ref (He.ga K "TooMany")) (.ref (He.ga K "TooMany")) = some true
  e_TooMany_TooMany : PySem.W.exmOne K (.ref (He.ga K "TooMany")) (.ref (He.ga K "TooMany")) = some true
  k_TooMany_Twice : PySem.W.kitOne K (.ref (He.ga K "TooMany")) (.ref (He.ga K "Twice")) = some false
  e_TooMany_Twice : PySem.W.exmOne K (.ref (He.ga K "TooMany")) (.ref (He.ga K "Twice")) = some false
  k_TooMany_WoodError : PySem.W.kitOne K (.ref (He.ga K "TooMany")) (.ref (He.ga K "WoodError")) = some true
  e_TooMany_WoodError : PySem.W.exmOne K (.ref (He.ga K "TooMany")) (.ref (He.ga K "WoodError")) = some true
  ec_Twice : ExcC K (He.ga K "Twice")
  kt_Twice : PySem.W.kitOne K (.ref (He.ga K "Twice")) (.type "ValueError") = some true
  k_Twice_NoBit : PySem.W.kitOne K (.ref (He.ga K "Twice")) (.ref (He.ga K "NoBit")) = some false
  e_Twice_NoBit : PySem.W.exmOne K (.ref (He.ga K "Twice")) (.ref (He.ga K "NoBit")) = some false
  k_Twice_NoNode : PySem.W.kitOne K (.ref (He.ga K "Twice")) (.ref (He.ga K "NoNode")) = some false
  e_Twice_NoNode : PySem.W.exmOne K (.ref (He.ga K "Twice")) (.ref (He.ga K "NoNode")) = some false
  k_Twice_NoOctets : PySem.W.kitOne K (.ref (He.ga K "Twice")) (.ref (He.ga K "NoOctets")) = some false
  e_Twice_NoOctets : PySem.W.exmOne K (.ref (He.ga K "Twice")) (.ref (He.ga K "NoOctets")) = some false
  k_Twice_NoPlace : PySem.W.kitOne K (.ref (He.ga K "Twice")) (.ref (He.ga K "NoPlace")) = some false
  e_Twice_NoPlace : PySem.W.exmOne K (.ref (He.ga K "Twice")) (.ref (He.ga K "NoPlace")) = some false
  k_Twice_NoSign : PySem.W.kitOne K (.ref (He.ga K "Twice")) (.ref (He.ga K "NoSign")) = some false
  e_Twice_NoSign : PySem.W.exmOne K (.ref (He.ga K "Twice")) (.ref (He.ga K "NoSign")) = some false
  k_Twice_NoTree : PySem.W.kitOne K (.ref (He.ga K "Twice")) (.ref (He.ga K "NoTree")) = some false
  e_Twice_NoTree : PySem.W.exmOne K (.ref (He.ga K "Twice")) (.ref (He.ga K "NoTree")) = some false
  k_Twice_NoWord : PySem.W.kitOne K (.ref (He.ga K "Twice")) (.ref (He.ga K "NoWord")) = some false
  e_Twice_NoWord : PySem.W.exmOne K (.ref (He.ga K "Twice")) (.ref (He.ga K "NoWord")) = some false
  k_Twice_TooMany : PySem.W.kitOne K (.ref (He.ga K "Twice")) (.ref (He.ga K "TooMany")) = some false
  e_Twice_TooMany : PySem.W.exmOne K (.ref (He.ga K "Twice")) (.ref (He.ga K "TooMany")) = some false
  k_Twice_Twice : PySem.W.kitOne K (.ref (He.ga K "Twice")) (.ref (He.ga K "Twice")) = some true
  e_Twice_Twice : PySem.W.exmOne K (.ref (He.ga K "Twice")) (.ref (He.ga K "Twice")) = some true
  k_Twice_WoodError : PySem.W.kitOne K (.ref (He.ga K "Twice")) (.ref (He.ga K "WoodError")) = some true
  e_Twice_WoodError : PySem.W.exmOne K (.ref (He.ga K "Twice")) (.ref (He.ga K "WoodError")) = some true
  ec_WoodError : ExcC K (He.ga K "WoodError")
  kt_WoodError : PySem.W.kitOne K (.ref (He.ga K "WoodError")) (.type "ValueError") = some true
  k_WoodError_NoBit : PySem.W.kitOne K (.ref (He.ga K "WoodError")) (.ref (He.ga K "NoBit")) = some false
  e_WoodError_NoBit : PySem.W.exmOne K (.ref (He.ga K "WoodError")) (.ref (He.ga K "NoBit")) = some false
  k_WoodError_NoNode : PySem.W.kitOne K (.ref (He.ga K "WoodError")) (.ref (He.ga K "NoNode")) = some false
  e_WoodError_NoNode : PySem.W.exmOne K (.ref (He.ga K "WoodError")) (.ref (He.ga K "NoNode")) = some false
  k_WoodError_NoOctets : PySem.W.kitOne K (.ref (He.ga K "WoodError")) (.ref (He.ga K "NoOctets")) = some false
  e_WoodError_NoOctets : PySem.W.exmOne K (.ref (He.ga K "WoodError")) (.ref (He.ga K "NoOctets")) = some false
  k_WoodError_NoPlace : PySem.W.kitOne K (.ref (He.ga K "WoodError")) (.ref (He.ga K "NoPlace")) = some false
  e_WoodError_NoPlace : PySem.W.exmOne K (.ref (He.ga K "WoodError")) (.ref (He.ga K "NoPlace")) = some false
  k_WoodError_NoSign : PySem.W.kitOne K (.ref (He.ga K "WoodError")) (.ref (He.ga K "NoSign")) = some false
  e_WoodError_NoSign : PySem.W.exmOne K (.ref (He.ga K "WoodError")) (.ref (He.ga K "NoSign")) = some false
  k_WoodError_NoTree : PySem.W.kitOne K (.ref (He.ga K "WoodError")) (.ref (He.ga K "NoTree")) = some false
  e_WoodError_NoTree : PySem.W.exmOne K (.ref (He.ga K "WoodError")) (.ref (He.ga K "NoTree")) = some false
  k_WoodError_NoWord : PySem.W.kitOne K (.ref (He.ga K "WoodError")) (.ref (He.ga K "NoWord")) = some false
  e_WoodError_NoWord : PySem.W.exmOne K (.ref (He.ga K "WoodError")) (.ref (He.ga K "NoWord")) = some false
  k_WoodError_TooMany : PySem.W.kitOne K (.ref (He.ga K "WoodError")) (.ref (He.ga K "TooMany")) = some false
  e_WoodError_TooMany : PySem.W.exmOne K (.ref (He.ga K "WoodError")) (.ref (He.ga K "TooMany")) = some false
  k_WoodError_Twice : PySem.W.kitOne K (.ref (He.ga K "WoodError")) (.ref (He.ga K "Twice")) = some false
  e_WoodError_Twice : PySem.W.exmOne K (.ref (He.ga K "WoodError")) (.ref (He.ga K "Twice")) = some false
  k_WoodError_WoodError : PySem.W.kitOne K (.ref (He.ga K "WoodError")) (.ref (He.ga K "WoodError")) = some true
  e_WoodError_WoodError : PySem.W.exmOne K (.ref (He.ga K "WoodError")) (.ref (He.ga K "WoodError")) = some true

/-- _law_cell_at(script, k) -/
def sp_law_cell_at (K : PySem.W.Frag) : Sp := fun vs H Q _ => ∃ (a : Addr) (ns : List Int) (k : Int), vs = [.ref a, .int k] ∧ SqL K H a (ns.map V.int) ∧ 0 ≤ k ∧ ∀ c : Int, c = ns.getD k.toNat 0 → Q (.int c) H
theorem len_law_cell_at (K : PySem.W.Frag) : ∀ vs H Q E, sp_law_cell_at K vs H Q E → vs.length = 2 := by
  rintro vs H Q E ⟨x, y, z, rfl, _⟩; rfl
def t_law_cell_at (K : PySem.W.Frag) : TS :=
  (tSeq (tIfS (tTest (tOp rLt (tVar 1) (tCB (rLen K) (tCons (tVar 0) tNil))))
  (tRet (tOp (rIxL K) (tVar 0) (tVar 1)))
  tNext)
  (tRet (tC (.int 0))))
abbrev n_law_cell_at : List Str := ["_law_script", "_law_k"]

theorem rd_law_cell_at (K : PySem.W.Frag) (vs : List V) (H : Hp) (Q : VK) (E : XK) (h : sp_law_cell_at K vs H Q E) : t_law_cell_at K { nx := fun _ H' => Q .non H', rt := Q } (start n_law_cell_at vs) H := by
  obtain ⟨a, ns, k, rfl, hS, hk, q⟩ := h
  unfold t_law_cell_at
  walk_at "st"
  refine k_lenL hS ?_
  walk_at "st"
  rw [List.length_map]
  walk_at "if" <;> intro c
  · walk_at "st"
    have hlt : k.toNat < ns.length := by omega
    refine k_ixL hS (at_int hk (mapint (List.getElem?_eq_getElem hlt))) ?_
    walk_at "st"
    exact q _ (by rw [List.getD_eq_getElem?_getD, List.getElem?_eq_getElem hlt]; rfl)
  · walk_at "st"
    exact q _ (by rw [List.getD_eq_getElem?_getD, List.getElem?_eq_none (by omega)]; rfl)
theorem call_cell_at {K : PySem.W.Frag} {H : Hp} {Q : VK} {E : XK} {a : Addr} {ns : List Int} {k : Int} (hS : SqL K H a (ns.map V.int)) (hk : 0 ≤ k) (q : ∀ c : Int, c = ns.getD k.toNat 0 → Q (.int c) H) : sp_law_cell_at K [.ref a, .int k] H Q E :=
  ⟨a, ns, k, rfl, hS, hk, q⟩

/-- list(range(n)) -/
def ints0 (n : Nat) : List Int := (List.range n).map fun i : Nat => (i : Int)
theorem ints0_len (n : Nat) : (ints0 n).length = n := by unfold ints0; rw [List.length_map, List.length_range]
def Rg1K (Q : VK) (x : V) (H : Hp) : Prop := ∃ n, x = .int n ∧ RgOk 0 n ∧ ∀ q, H q = none → Q (.ref q) (upd H q (.lst (rgV 0 n)))
theorem k_lstRg {ta : TE} {σ : L2.St} {H : Hp} {Q : VK} (h : ta σ H (Rg1K Q)) : tLstRg (tRg1 ta) σ H Q := h
theorem k_lstRgE {H : Hp} {Q : VK} {n : Int} (h0 : 0 ≤ n ∧ n ≤ 1000000) (q : ∀ l H', H l = none → Same H H' → H' l = some (.lst ((ints0 n.toNat).map V.int)) → Q (.ref l) H') : Rg1K Q (.int n) H := by
  refine ⟨n, rfl, RgOk.of_le (by omega) (by omega) (by omega) (by omega), fun p hp => ?_⟩
  have e : rgV 0 n = (ints0 n.toNat).map V.int := by
    unfold rgV ints0
    rw [Int.sub_zero, List.map_map]
    congr 1
    funext i
    show V.int (0 + (i : Int)) = V.int (i : Int)
    rw [Int.zero_add]
  rw [e]
  exact q p _ hp (same_new hp) upd_same

/-- cuts, joins and repeats of lists of ints -/
theorem k_slTake {K : PySem.W.Frag} {H : Hp} {Q : VK} {p : Addr} {bs : List Int} {k : Nat} (h : SqL K H p (bs.map V.int)) (q : ∀ l H', H l = none → Same H H' → H' l = some (.lst ((bs.take k).map V.int)) → Q (.ref l) H') : rSlL K (.ref p) none (some (k : Int)) H Q := by
  refine k_slL h fun l hl => ?_
  rw [cutTake, ← List.map_take]
  exact q l _ hl (same_new hl) upd_same
theorem k_slDrop {K : PySem.W.Frag} {H : Hp} {Q : VK} {p : Addr} {bs : List Int} {k : Nat} (h : SqL K H p (bs.map V.int)) (q : ∀ l H', H l = none → Same H H' → H' l = some (.lst ((bs.drop k).map V.int)) → Q (.ref l) H') : rSlL K (.ref p) (some (k : Int)) none H Q := by
  refine k_slL h fun l hl => ?_
  rw [cutDrop, ← List.map_drop]
  exact q l _ hl (same_new hl) upd_same
theorem new_both {H : Hp} {p : Addr} {o : HO} (h : H p = none) : Same H (upd H p o) ∧ (upd H p o) p = some o := ⟨same_new h, upd_same⟩
theorem k_catI {H : Hp} {Q : VK} {a b : Addr} {xs ys : List Int} (h1 : H a = some (.lst (xs.map V.int))) (h2 : H b = some (.lst (ys.map V.int))) (hn : xs.length + ys.length ≤ 1000000) (q : ∀ l H', H l = none → Same H H' → H' l = some (.lst ((xs ++ ys).map V.int)) → Q (.ref l) H') : rCat (.ref a) (.ref b) H Q := by
  refine k_cat h1 h2 (by rw [List.length_map, List.length_map]; exact hn) fun p hp => ?_
  rw [← List.map_append]
  exact q p _ hp (same_new hp) upd_same
theorem k_catKI {K : PySem.W.Frag} {H : Hp} {Q : VK} {a b : Addr} {xs ys : List Int} (h1 : SqL K H a (xs.map V.int)) (h2 : SqL K H b (ys.map V.int)) (hn : xs.length + ys.length ≤ 1000000) (q : ∀ l H', H l = none → Same H H' → H' l = some (.lst ((xs ++ ys).map V.int)) → Q (.ref l) H') : rCatK K (.ref a) (.ref b) H Q := by
  refine k_catK h1 h2 (by rw [List.length_map, List.length_map]; exact hn) fun p hp => ?_
  rw [← List.map_append]
  exact q p _ hp (same_new hp) upd_same
theorem k_repI {H : Hp} {Q : VK} {a : Addr} {xs : List Int} {n : Int} (h : H a = some (.lst (xs.map V.int))) (h0 : 0 ≤ n ∧ n ≤ 1000000) (hn : xs.length * n.toNat ≤ 1000000) (q : ∀ l H' (cs : List Int), H l = none → Same H H' → cs = (List.replicate n.toNat xs).flatten → cs.length = n.toNat * xs.length → H' l = some (.lst (cs.map V.int)) → Q (.ref l) H') : rRep (.ref a) (.int n) H Q := by
  obtain ⟨m, rfl⟩ := Int.eq_ofNat_of_zero_le h0.1
  rw [Int.toNat_natCast] at hn q
  refine k_rep h (by rw [List.length_map]; exact hn) (by omega) fun p hp => ?_
  have e : (List.replicate m (xs.map V.int)).flatten = ((List.replicate m xs).flatten).map V.int := by
    rw [List.map_flatten, List.map_replicate]
  rw [e]
  refine q p _ _ hp (same_new hp) rfl ?_ upd_same
  rw [List.length_flatten, List.map_replicate, List.sum_replicate_nat]
/-- a number in a tuple of numbers -/
theorem k_inT {K : PySem.W.Frag} {H : Hp} {Q : VK} {p : Addr} {x : Int} {xs : List V} (h : H p = some (.tup xs)) (hf : xs.all flatV = true) (q : ∀ b, Q (.bl b) H) : rIn K false (.int x) (.ref p) H Q := ⟨p, xs, rfl, .inr (.of h), rfl, hf, q _⟩

/-! ### bits of a number -/
/-- the bit k of b -/
def bit (b : Int) (k : Nat) : Int := b / 2 ^ k % 2
theorem bit_cases (b : Int) (k : Nat) : bit b k = 0 ∨ bit b k = 1 := by unfold bit; omega
/-- the ones among the first n bits -/
def onesIn (b : Int) : Nat → Int
  | 0 => 0
  | n + 1 => onesIn b n + bit b n
theorem onesIn_mono1 (b : Int) (n : Nat) : onesIn b n ≤ onesIn b (n + 1) ∧ onesIn b (n + 1) ≤ onesIn b n + 1 := by
  show onesIn b n ≤ onesIn b n + bit b n ∧ onesIn b n + bit b n ≤ _
  have := bit_cases b n; omega
theorem onesIn_mono (b : Int) (n m : Nat) (h : n ≤ m) : onesIn b n ≤ onesIn b m := by
  induction m with
  | zero => have : n = 0 := by omega
            subst this; exact Int.le_refl _
  | succ m ih =>
    rcases Nat.lt_or_ge m n with q | q
    · have : n = m + 1 := by omega
      subst this; exact Int.le_refl _
    · have := ih q; have := onesIn_mono1 b m; omega
theorem onesIn_range (b : Int) (n : Nat) : 0 ≤ onesIn b n ∧ onesIn b n ≤ n := by
  induction n with
  | zero => exact ⟨Int.le_refl _, Int.le_refl _⟩
  | succ n ih => have := onesIn_mono1 b n; omega
theorem sum_range_succ (f : Nat → Int) (n : Nat) : ((List.range (n + 1)).map f).sum = ((List.range n).map f).sum + f n := by
  rw [List.range_succ, List.map_append, List.sum_append]; simp
theorem onesIn_sum (b : Int) (n : Nat) : ((List.range n).map fun k => bit b k).sum = onesIn b n := by
  induction n with
  | zero => rfl
  | succ n ih => rw [sum_range_succ, ih]; rfl
theorem halve (b : Int) (k : Nat) : b / 2 ^ k / 2 = b / 2 ^ (k + 1) := by
  rw [Int.pow_succ, Int.ediv_ediv_of_nonneg]
  exact Int.le_of_lt (Int.pow_pos (by decide))

/-! ### rows and blocks -/
/-- all items are bits -/
def Bits (bs : List Int) : Prop := ∀ b ∈ bs, b = 0 ∨ b = 1
/-- the block of some bits (the first one counting 1) -/
def blk : List Int → Int
  | [] => 0
  | b :: bs => b + 2 * blk bs
/-- the row of bits bs as blocks, so many -/
def blksN (bs : List Int) : Nat → List Int
  | 0 => []
  | n + 1 => blk (bs.take 32) :: blksN (bs.drop 32) n
/-- the blocks of a row -/
def blks (bs : List Int) : List Int := blksN bs ((bs.length + 31) / 32)
theorem blksN_len (bs : List Int) (n : Nat) : (blksN bs n).length = n := by
  induction n generalizing bs with
  | zero => rfl
  | succ n ih => show (blksN (bs.drop 32) n).length + 1 = n + 1; rw [ih]
theorem blks_len (bs : List Int) : (blks bs).length = (bs.length + 31) / 32 := blksN_len _ _
theorem blksN_get (bs : List Int) (n j : Nat) (h : j < n) : (blksN bs n)[j]? = some (blk ((bs.drop (32 * j)).take 32)) := by
  induction n generalizing bs j with
  | zero => omega
  | succ n ih =>
    cases j with
    | zero => rfl
    | succ j =>
      show (blksN (bs.drop 32) n)[j]? = _
      rw [ih (bs.drop 32) j (by omega), List.drop_drop, show 32 + 32 * j = 32 * (j + 1) by omega]
theorem blks_get (bs : List Int) (j : Nat) (h : j < (bs.length + 31) / 32) : (blks bs)[j]? = some (blk ((bs.drop (32 * j)).take 32)) := blksN_get _ _ _ h
theorem blk_range : ∀ bs : List Int, Bits bs → 0 ≤ blk bs ∧ blk bs < 2 ^ bs.length
  | [], _ => ⟨Int.le_refl _, by decide⟩
  | b :: bs, h => by
    obtain ⟨h1, h2⟩ := blk_range bs fun x hx => h x (List.mem_cons_of_mem _ hx)
    have h3 := h b List.mem_cons_self
    have e : (2 : Int) ^ (bs.length + 1) = 2 ^ bs.length * 2 := Int.pow_succ ..
    show 0 ≤ b + 2 * blk bs ∧ b + 2 * blk bs < 2 ^ (bs.length + 1)
    omega
/-- a bit of a block -/
theorem bit_blk : ∀ (bs : List Int) (k : Nat), Bits bs → bit (blk bs) k = bs.getD k 0
  | [], k, _ => by
    show (0 : Int) / 2 ^ k % 2 = _
    rw [Int.zero_ediv]; rfl
  | b :: bs, 0, h => by
    have h3 := h b List.mem_cons_self
    show (b + 2 * blk bs) / 2 ^ 0 % 2 = b
    simp; omega
  | b :: bs, k + 1, h => by
    have h3 := h b List.mem_cons_self
    have ih := bit_blk bs k fun x hx => h x (List.mem_cons_of_mem _ hx)
    show (b + 2 * blk bs) / 2 ^ (k + 1) % 2 = (b :: bs).getD (k + 1) 0
    rw [List.getD_cons_succ, ← ih]
    show _ = blk bs / 2 ^ k % 2
    have e : (b + 2 * blk bs) / 2 = blk bs := by omega
    rw [show (2 : Int) ^ (k + 1) = 2 * 2 ^ k by rw [Int.pow_succ, Int.mul_comm], ← Int.ediv_ediv_of_nonneg (by decide), e]
theorem Bits.sub {bs cs : List Int} (h : Bits bs) (s : ∀ x ∈ cs, x ∈ bs) : Bits cs := fun x hx => h x (s x hx)
theorem Bits.take {bs : List Int} (h : Bits bs) (n : Nat) : Bits (bs.take n) := h.sub fun _ hx => List.mem_of_mem_take hx
theorem Bits.drop {bs : List Int} (h : Bits bs) (n : Nat) : Bits (bs.drop n) := h.sub fun _ hx => List.mem_of_mem_drop hx
/-- a row's blocks: each below 2 ^ 32 -/
theorem blks_range {bs : List Int} (h : Bits bs) {j : Nat} {b : Int} (e : (blks bs)[j]? = some b) : 0 ≤ b ∧ b < 4294967296 := by
  have hj : j < (bs.length + 31) / 32 := by
    have := (List.getElem?_eq_some_iff.mp e).1
    rw [blks_len] at this; exact this
  rw [blks_get bs j hj] at e
  obtain rfl := Option.some.inj e
  obtain ⟨h1, h2⟩ := blk_range _ ((h.drop (32 * j)).take 32)
  refine ⟨h1, Int.lt_of_lt_of_le h2 ?_⟩
  have : ((bs.drop (32 * j)).take 32).length ≤ 32 := by rw [List.length_take]; omega
  show (2 : Int) ^ _ ≤ 2 ^ 32
  exact_mod_cast Nat.pow_le_pow_right (show 0 < 2 by decide) this
/-- bit k of block j is bit 32 * j + k of the row -/
theorem bit_blks {bs : List Int} (h : Bits bs) {j : Nat} {b : Int} (e : (blks bs)[j]? = some b) {k : Nat} (hk : k < 32) : bit b k = bs.getD (32 * j + k) 0 := by
  have hj : j < (bs.length + 31) / 32 := by
    have := (List.getElem?_eq_some_iff.mp e).1
    rw [blks_len] at this; exact this
  rw [blks_get bs j hj] at e
  obtain rfl := Option.some.inj e
  rw [bit_blk _ _ ((h.drop (32 * j)).take 32), List.getD_eq_getElem?_getD, List.getD_eq_getElem?_getD, List.getElem?_take, if_pos hk, List.getElem?_drop]
/-- blocks are alike where their bits are -/
theorem blk_ext {x y : Int} (hx : 0 ≤ x ∧ x < 4294967296) (hy : 0 ≤ y ∧ y < 4294967296) (h : ∀ k, k < 32 → bit x k = bit y k) : x = y := by
  have key : ∀ n : Nat, n ≤ 32 → x / 2 ^ (32 - n) = y / 2 ^ (32 - n) := by
    intro n
    induction n with
    | zero =>
      intro _
      rw [Int.ediv_eq_zero_of_lt hx.1 (by exact hx.2), Int.ediv_eq_zero_of_lt hy.1 (by exact hy.2)]
    | succ n ih =>
      intro hn
      have h1 := ih (by omega)
      have h2 := h (32 - (n + 1)) (by omega)
      unfold bit at h2
      have e : 32 - n = (32 - (n + 1)) + 1 := by omega
      rw [e, ← halve, ← halve] at h1
      omega
  have := key 32 (Nat.le_refl _)
  rw [Nat.sub_self, Int.pow_zero, Int.ediv_one, Int.ediv_one] at this
  exact this

/-- blocks filled with the first i bits, zeroes behind -/
def part (bs : List Int) (n i : Nat) : List Int := blksN (bs.take i) n
theorem blk_nil : blk [] = 0 := rfl
theorem blk_snoc : ∀ (bs : List Int) (b : Int), blk (bs ++ [b]) = blk bs + b * 2 ^ bs.length
  | [], b => by show b + 2 * 0 = 0 + b * 2 ^ 0; simp
  | c :: bs, b => by
    show c + 2 * blk (bs ++ [b]) = c + 2 * blk bs + b * 2 ^ (bs.length + 1)
    rw [blk_snoc bs b, Int.pow_succ, Int.mul_add, ← Int.mul_assoc 2 b, Int.mul_comm 2 b, Int.mul_assoc b, Int.mul_comm 2 (2 ^ bs.length), Int.add_assoc]
theorem part_zero (bs : List Int) (n : Nat) : part bs n 0 = List.replicate n 0 := by
  unfold part
  rw [List.take_zero]
  induction n with
  | zero => rfl
  | succ n ih => show blk [] :: blksN [] n = _; rw [ih]; rfl
theorem part_full (bs : List Int) : part bs ((bs.length + 31) / 32) bs.length = blks bs := by
  unfold part blks; rw [List.take_length]
theorem part_len (bs : List Int) (n i : Nat) : (part bs n i).length = n := blksN_len _ _
theorem part_get (bs : List Int) (n i j : Nat) (h : j < n) : (part bs n i)[j]? = some (blk (((bs.take i).drop (32 * j)).take 32)) := blksN_get _ _ _ h
/-- one bit more: only its own block turns -/
theorem part_succ {bs : List Int} {n i : Nat} {b : Int} (hb : bs[i]? = some b) (hn : i / 32 < n) :
    part bs n (i + 1) = (part bs n i).set (i / 32) ((part bs n i).getD (i / 32) 0 + b * 2 ^ (i % 32)) := by
  have hi : i < bs.length := (List.getElem?_eq_some_iff.mp hb).1
  apply List.ext_getElem?
  intro j
  rw [List.getElem?_set, part_len]
  rcases Nat.lt_or_ge j n with hj | hj
  · rw [part_get _ _ _ _ hj]
    have et : bs.take (i + 1) = bs.take i ++ [b] := by rw [List.take_add_one, hb]; rfl
    have hl : (bs.take i).length = i := by rw [List.length_take]; omega
    rw [et]
    by_cases h : i / 32 = j
    · subst h
      rw [if_pos rfl, if_pos hn, List.getD_eq_getElem?_getD, part_get _ _ _ _ hn]
      have hd : ((bs.take i).drop (32 * (i / 32))).length = i % 32 := by rw [List.length_drop, hl]; omega
      have e2 : ((bs.take i).drop (32 * (i / 32))).take 32 = (bs.take i).drop (32 * (i / 32)) := List.take_of_length_le (by rw [hd]; omega)
      have e1 : ((bs.take i).drop (32 * (i / 32)) ++ [b]).take 32 = (bs.take i).drop (32 * (i / 32)) ++ [b] := List.take_of_length_le (by rw [List.length_append, hd]; simp; omega)
      rw [List.drop_append_of_le_length (by rw [hl]; omega), e1, e2, blk_snoc, hd]
      rfl
    · rw [if_neg h, part_get _ _ _ _ hj]
      congr 2
      rcases Nat.lt_or_ge j (i / 32) with l | l
      · rw [List.drop_append_of_le_length (by rw [hl]; omega), List.take_append_of_le_length (by rw [List.length_drop, hl]; omega)]
      · rw [List.drop_of_length_le (by rw [List.length_append, hl]; simp; omega), List.drop_of_length_le (by rw [hl]; omega)]
  · rw [List.getElem?_eq_none (by rw [part_len]; exact hj), if_neg (by omega), List.getElem?_eq_none (by rw [part_len]; exact hj)]
theorem part_range_take {bs : List Int} {i : Nat} (h : Bits (bs.take i)) {n j : Nat} (hj : j < n) (hi : i % 32 = i - 32 * j) (hij : 32 * j ≤ i) : 0 ≤ (part bs n i).getD j 0 ∧ (part bs n i).getD j 0 < 2 ^ (i % 32) := by
  rw [List.getD_eq_getElem?_getD, part_get _ _ _ _ hj]
  obtain ⟨h1, h2⟩ := blk_range _ ((h.drop (32 * j)).take 32)
  refine ⟨h1, Int.lt_of_lt_of_le h2 ?_⟩
  have : (((bs.take i).drop (32 * j)).take 32).length ≤ i % 32 := by rw [List.length_take, List.length_drop, List.length_take]; omega
  exact_mod_cast Nat.pow_le_pow_right (show 0 < 2 by decide) this
/-- a bit above a number -/
theorem or_high {x : Int} {k : Nat} (h0 : 0 ≤ x) (h1 : x < 2 ^ k) : Builtin.bitOr x (1 * 2 ^ k) = x + 1 * 2 ^ k := by
  have e := or_low (q := 1) (r := x) (k := k) (by decide) h0 h1
  rw [bitOr_nn h0 (by rw [Int.one_mul]; exact Int.le_of_lt (Int.pow_pos (by decide))), Nat.or_comm, ← bitOr_nn (by rw [Int.one_mul]; exact Int.le_of_lt (Int.pow_pos (by decide))) h0, e, Int.add_comm]

/-- packed(bits) -/
def sp_packed (K : PySem.W.Frag) : Sp := fun vs H Q E => ∃ (a : Addr) (bs : List Int), vs = [.ref a] ∧ SqL K H a (bs.map V.int) ∧ bs.length ≤ 100000 ∧
  (bs.length > 4096 → E (.ref (He.ga K "TooMany")) none H) ∧
  (bs.length ≤ 4096 → ¬ Bits bs → ∀ H', Same H H' → E (.ref (He.ga K "NoBit")) none H') ∧
  (bs.length ≤ 4096 → Bits bs → ∀ p H', H p = none → Same H H' → H' p = some (.lst ((blks bs).map V.int)) → Q (.ref p) H')
theorem len_packed (K : PySem.W.Frag) : ∀ vs H Q E, sp_packed K vs H Q E → vs.length = 1 := by
  rintro vs H Q E ⟨x, y, rfl, _⟩; rfl
def t_packed (K : PySem.W.Frag) (E : XK) : TS :=
  (tSeq (tIfS (tTest (tOp rGtI (tCB (rLen K) (tCons (tVar 0) tNil)) (tC (.int 4096))))
  (tRz (fun cls d _ H => E cls d H) (He.ga K "TooMany"))
  tNext)
  (tSeq (tAsg (tOp rRep (tLst (tCons (tC (.int 0)) tNil)) (tOp rDiv (tOp rMinus (tOp rPlus (tCB (rLen K) (tCons (tVar 0) tNil)) (tC (.int 32))) (tC (.int 1))) (tC (.int 32)))) (gName 1))
  (tSeq (tFor (iEnum K (tCons (tVar 0) tNil)) (gTup K 2 (gCons (gName 2) (gCons (gName 3) gNil)))
  (tSeq (tIfS (tAnd (tTest (tOp rNe (tVar 3) (tC (.int 0)))) (tTest (tOp rNe (tVar 3) (tC (.int 1)))))
  (tRz (fun cls d _ H => E cls d H) (He.ga K "NoBit"))
  tNext)
  (tIfS (tTest (tOp rEq (tVar 3) (tC (.int 1))))
  (tAsg (tOp rBitOr (tOp (rIxL K) (tVar 1) (tOp rDiv (tVar 2) (tC (.int 32)))) (tOp rShlW (tC (.int 1)) (tOp rMod (tVar 2) (tC (.int 32))))) (gSub (tVar 1) (tOp rDiv (tVar 2) (tC (.int 32))) rSetL))
  tNext)))
  (tRet (tVar 1)))))
abbrev n_packed : List Str := ["bits", "blocks", "at", "bit"]

theorem rd_packed (K : PySem.W.Frag) (vs : List V) (H : Hp) (Q : VK) (E : XK) (h : sp_packed K vs H Q E) : t_packed K E { nx := fun _ H' => Q .non H', rt := Q } (start n_packed vs) H := by
  obtain ⟨a, bs, rfl, hS, hl, q1, q2, q3⟩ := h
  unfold t_packed
  walk_at "st"
  refine k_lenL hS ?_
  walk_at "st"
  rw [List.length_map]
  walk_at "if" <;> intro c1
  · walk_at "st"
    exact q1 (by omega)
  have hm : bs.length ≤ 4096 := by omega
  walk_at "st"
  intro p0 hp0
  walk_at "st"
  refine k_lenL ((same_new hp0).seq hS) ?_
  walk_at "st"
  rw [List.length_map]
  have en : ((bs.length : Int) + 32 - 1) / 32 = (((bs.length + 31) / 32 : Nat) : Int) := by omega
  rw [en]
  refine k_rep (xs := [.int 0]) upd_same (by simp only [List.length_cons, List.length_nil]; omega) (by omega) fun p hp => ?_
  have hp' : H p = none := (same_new hp0).free hp
  have s0 := (same_new hp0).trans (same_new (o := .lst (List.replicate ((bs.length + 31) / 32) [V.int 0]).flatten) hp)
  walk_at "st"
  refine m_enumE (s0.seq hS) ?_
  refine loop_walk walk_enum (fun i σ H' => ∃ y z, σ = [some (.ref a), some (.ref p), y, z] ∧ i ≤ bs.length ∧ Same H H' ∧ H' p = some (.lst ((part bs ((bs.length + 31) / 32) i).map V.int)) ∧ Bits (bs.take i)) ⟨none, none, rfl, Nat.zero_le _, s0, ?_, fun x hx => by simp at hx⟩ (fun i σ H' ⟨y, z, _, _, s, _⟩ => s.seq hS) ?_ ?_
  · rw [upd_same, part_zero, List.map_replicate, rep_one]
  · rintro i v σ H1 H2 hi ⟨y, z, rfl, _, s, e, hb⟩ ⟨T, x, w, rfl, hT, rfl, ex, ew⟩
    rw [List.length_map] at hi
    obtain ⟨b, hbi, rfl⟩ := of_mapint ew
    obtain rfl : x = .int (i : Nat) := (Option.some.inj ex).symm
    have npT : p ≠ T := ne_of_none e hT
    have s2 : Same H (upd H1 T (.tup [.int (i : Nat), .int b])) := s.trans (same_new hT)
    have e2 : (upd H1 T (.tup [.int (i : Nat), .int b])) p = some (.lst ((part bs ((bs.length + 31) / 32) i).map V.int)) := by rw [upd_ne npT]; exact e
    refine m_gTup (.of upd_same) rfl ?_
    walk_at "st"
    have nobit : ∀ (c : ¬ (b = 0 ∨ b = 1)), ¬ Bits bs := fun c hB => c (hB b (List.mem_of_getElem? hbi))
    have go : (b = 0 ∨ b = 1) → Bits (bs.take (i + 1)) := by
      intro hb1 q hq
      rw [List.take_add_one, hbi] at hq
      rcases List.mem_append.mp hq with h | h
      · exact hb q h
      · have : q = b := by simpa using h
        subst this; exact hb1
    have hin : i / 32 < (bs.length + 31) / 32 := by omega
    walk_at "if" <;> intro c0
    · walk_at "st"
      walk_at "if" <;> intro c1
      · walk_at "st"
        exact q2 hm (nobit fun z => z.elim c0 c1) _ s2
      · walk_at "st"
        refine k_decT c1 ?_
        obtain rfl : b = 1 := c1
        walk_at "st"
        have hlt : i / 32 < ((part bs ((bs.length + 31) / 32) i)).length := by rw [part_len]; exact hin
        refine k_ixL (.of e2) (at_int (by omega) (i := ((i : Nat) : Int) / 32) (x := .int ((part bs ((bs.length + 31) / 32) i).getD (i / 32) 0)) ?_) ?_
        · rw [show (((i : Nat) : Int) / 32).toNat = i / 32 by omega, List.getD_eq_getElem?_getD, List.getElem?_eq_getElem hlt]
          exact mapint (List.getElem?_eq_getElem hlt)
        walk_at "st"
        have hsh : CShl 1 (((i : Nat) : Int) % 32) := by
          rw [show ((i : Nat) : Int) % 32 = ((i % 32 : Nat) : Int) by omega]
          exact shl_ok (n := 1) (by decide) (by omega)
        refine k_I hsh ?_
        walk_at "st"
        have hr := part_range_take hb (n := (bs.length + 31) / 32) (j := i / 32) hin (by omega) (by omega)
        have eor : Builtin.bitOr ((part bs ((bs.length + 31) / 32) i).getD (i / 32) 0) (1 * 2 ^ (((i : Nat) : Int) % 32).toNat) = (part bs ((bs.length + 31) / 32) i).getD (i / 32) 0 + 1 * 2 ^ (i % 32) := by
          rw [show (((i : Nat) : Int) % 32).toNat = i % 32 by omega]
          exact or_high hr.1 hr.2
        rw [eor]
        refine m_setL e2 (ixN_nat (by omega) (by rw [List.length_map, part_len]; omega)) ?_
        walk_at "st"
        refine ⟨_, _, rfl, hi, Same.mut s2 hp', ?_, go (.inr rfl)⟩
        rw [upd_same, show (((i : Nat) : Int) / 32).toNat = i / 32 by omega, part_succ hbi hin, List.map_set]
    · walk_at "st"
      obtain rfl : b = 0 := c0
      refine k_decF (by decide) ?_
      walk_at "st"
      refine ⟨_, _, rfl, hi, s2, ?_, go (.inl rfl)⟩
      rw [e2, part_succ hbi hin, Int.zero_mul, Int.add_zero]
      congr 2
      have hlt : i / 32 < ((part bs ((bs.length + 31) / 32) i)).length := by rw [part_len]; exact hin
      rw [List.getD_eq_getElem?_getD, List.getElem?_eq_getElem hlt]
      show _ = List.map V.int ((part bs ((bs.length + 31) / 32) i).set (i / 32) ((part bs ((bs.length + 31) / 32) i)[i / 32]))
      rw [List.set_getElem_self]
  · rintro σ H' ⟨y, z, rfl, _, s, e, hb⟩
    rw [List.length_map] at e hb
    walk_at "st"
    rw [List.take_length] at hb
    rw [part_full] at e
    exact q3 hm hb p H' hp' s e

/-- the ones among the first n bits of a row -/
def sumTo (bs : List Int) (n : Nat) : Int := (bs.take n).sum
theorem sumTo_succ (bs : List Int) (n : Nat) : sumTo bs (n + 1) = sumTo bs n + bs.getD n 0 := by
  unfold sumTo
  rw [List.take_add_one, List.sum_append, List.getD_eq_getElem?_getD]
  cases bs[n]? <;> simp
theorem sumTo_all (bs : List Int) {n : Nat} (h : bs.length ≤ n) : sumTo bs n = bs.sum := by
  unfold sumTo; rw [List.take_of_length_le h]
theorem sumTo_zero (bs : List Int) : sumTo bs 0 = 0 := rfl
/-- the ones of a block's first bits -/
theorem onesIn_blks {bs : List Int} (h : Bits bs) {j : Nat} {b : Int} (e : (blks bs)[j]? = some b) : ∀ k, k ≤ 32 → onesIn b k = sumTo bs (32 * j + k) - sumTo bs (32 * j)
  | 0, _ => by rw [Nat.add_zero]; show (0 : Int) = _; omega
  | k + 1, hk => by
    show onesIn b k + bit b k = _
    rw [onesIn_blks h e k (by omega), bit_blks h e (by omega), show 32 * j + (k + 1) = (32 * j + k) + 1 by omega, sumTo_succ]; omega

/-- the ones ahead of the first n blocks -/
def aheadN (bs : List Int) (n : Nat) : List Int := (List.range n).map fun j => sumTo bs (32 * j)
theorem aheadN_len (bs : List Int) (n : Nat) : (aheadN bs n).length = n := by unfold aheadN; simp
theorem aheadN_get (bs : List Int) {n j : Nat} (h : j < n) : (aheadN bs n)[j]? = some (sumTo bs (32 * j)) := by unfold aheadN; simp [h]
theorem aheadN_succ (bs : List Int) (n : Nat) : aheadN bs (n + 1) = aheadN bs n ++ [sumTo bs (32 * n)] := by unfold aheadN; rw [List.range_succ, List.map_append]; rfl
/-- the table of a row: the ones ahead of each block, and all -/
def aheadT (bs : List Int) : List Int := aheadN bs ((bs.length + 31) / 32 + 1)
theorem aheadT_len (bs : List Int) : (aheadT bs).length = (bs.length + 31) / 32 + 1 := aheadN_len _ _
theorem aheadT_get (bs : List Int) {j : Nat} (h : j ≤ (bs.length + 31) / 32) : (aheadT bs)[j]? = some (sumTo bs (32 * j)) := aheadN_get bs (by omega)
theorem sumTo_add (bs : List Int) (n m : Nat) : sumTo bs (n + m) = sumTo bs n + ((bs.drop n).take m).sum := by
  unfold sumTo; rw [List.take_add, List.sum_append]
theorem getD_bit {bs : List Int} (h : Bits bs) (k : Nat) : bs.getD k 0 = 0 ∨ bs.getD k 0 = 1 := by
  rw [List.getD_eq_getElem?_getD]
  cases e : bs[k]? with
  | none => exact .inl rfl
  | some b => exact h b (List.mem_of_getElem? e)
theorem sumTo_mono1 {bs : List Int} (h : Bits bs) (n : Nat) : sumTo bs n ≤ sumTo bs (n + 1) ∧ sumTo bs (n + 1) ≤ sumTo bs n + 1 := by
  rw [sumTo_succ]; have := getD_bit h n; omega
theorem sumTo_mono {bs : List Int} (h : Bits bs) {n m : Nat} (l : n ≤ m) : sumTo bs n ≤ sumTo bs m := by
  induction m with
  | zero => rw [show n = 0 by omega]; exact Int.le_refl _
  | succ m ih =>
    rcases Nat.lt_or_ge m n with z | z
    · rw [show n = m + 1 by omega]; exact Int.le_refl _
    · have := ih z; have := sumTo_mono1 h m; omega
theorem sumTo_range {bs : List Int} (h : Bits bs) (n : Nat) : 0 ≤ sumTo bs n ∧ sumTo bs n ≤ n := by
  induction n with
  | zero => exact ⟨Int.le_refl _, Int.le_refl _⟩
  | succ n ih => have := sumTo_mono1 h n; omega
theorem blks_getD {bs : List Int} {j : Nat} (h : j < (bs.length + 31) / 32) : (blks bs)[j]? = some ((blks bs).getD j 0) := by
  rw [List.getD_eq_getElem?_getD, List.getElem?_eq_getElem (by rw [blks_len]; exact h)]; rfl

/-! ### promises -/
/-- ones_in(b, u) -/
def sp_ones_in (_ : PySem.W.Frag) : Sp := fun vs H Q _ => ∃ (b : Int) (u : Nat), vs = [.int b, .int (u : Int)] ∧ u ≤ 1000 ∧ ∀ H', Same H H' → Q (.int (onesIn b u)) H'
theorem len_ones_in (K : PySem.W.Frag) : ∀ vs H Q E, sp_ones_in K vs H Q E → vs.length = 2 := by
  rintro vs H Q E ⟨b, u, rfl, _⟩; rfl
def t_ones_in (K : PySem.W.Frag) : TS :=
  (tRet (tCB (rSum K) (tCons (tLc (iRng1 (tCons (tVar 1) tNil)) (gName 2) tYes (tOp rAnd1 (tOp rShr (tVar 0) (tVar 2)) (tC (.int 1))) [2]) tNil)))
abbrev n_ones_in : List Str := ["block", "upto", "k"]

theorem rd_ones_in (K : PySem.W.Frag) (vs : List V) (H : Hp) (Q : VK) (E : XK) (h : sp_ones_in K vs H Q E) : t_ones_in K { nx := fun _ H' => Q .non H', rt := Q } (start n_ones_in vs) H := by
  obtain ⟨b, u, rfl, hu, q⟩ := h
  unfold t_ones_in
  walk_at "st"
  refine comp_rangeV (n := u) (f := fun k => .int (bit b k)) (by omega) (fun k H2 Q2 _ _ q2 => ?_) (fun p H' _ s e => ?_)
  · walk_at "st"
    exact q2 _ (Same.refl _)
  · walk_at "st"
    refine k_sum (ns := (List.range u).map fun k => bit b k) (.of ?_) ?_
    · rw [e, List.map_map]; rfl
    · rw [onesIn_sum]; walk_at "st"; exact q _ s

/-- ones_table(blocks), the blocks of a row -/
def sp_ones_table (K : PySem.W.Frag) : Sp := fun vs H Q _ => ∃ (a : Addr) (bs : List Int), vs = [.ref a] ∧ H a = some (.lst ((blks bs).map V.int)) ∧ bs.length ≤ 5000 ∧ Bits bs ∧ ∀ p H', H p = none → Same H H' → H' p = some (.tup ((aheadT bs).map V.int)) → Q (.ref p) H'
theorem len_ones_table (K : PySem.W.Frag) : ∀ vs H Q E, sp_ones_table K vs H Q E → vs.length = 1 := by
  rintro vs H Q E ⟨a, bs, rfl, _⟩; rfl
def t_ones_table (K : PySem.W.Frag) : TS :=
  (tSeq (tAsg (tLst (tCons (tC (.int 0)) tNil)) (gName 1))
  (tSeq (tFor (iList K (tVar 0)) (gName 2)
  (tDrop (tBM K "list" rAppend (tVar 1) (tCons (tOp rPlus (tOp (rIxL K) (tVar 1) (tUn rNeg (tC (.int 1)))) (tCall (sp_ones_in K) [] E0 (tCons (tVar 2) (tCons (tC (.int 32)) tNil)))) tNil))))
  (tRet (tCB (rTupOf K) (tCons (tVar 1) tNil)))))
abbrev n_ones_table : List Str := ["blocks", "ahead", "block"]

theorem rd_ones_table (K : PySem.W.Frag) (vs : List V) (H : Hp) (Q : VK) (E : XK) (h : sp_ones_table K vs H Q E) : t_ones_table K { nx := fun _ H' => Q .non H', rt := Q } (start n_ones_table vs) H := by
  obtain ⟨a, bs, rfl, hS, hl, hB, q⟩ := h
  unfold t_ones_table
  walk_at "st"
  intro p hp
  walk_at "st"
  refine m_iLe (.of ((same_new hp).get hS)) ?_
  refine loop_ints (ns := blks bs) (fun i σ H' => ∃ y, σ = [some (.ref a), some (.ref p), y] ∧ i ≤ (blks bs).length ∧ Same H H' ∧ H' p = some (.lst ((aheadN bs (i + 1)).map V.int))) ⟨none, rfl, Nat.zero_le _, same_new hp, by rw [upd_same]; rfl⟩ (fun i σ H' ⟨_, _, _, s, _⟩ => .of (s.get hS)) ?_ ?_
  · rintro i x σ H' hx ⟨y, rfl, hi, s, e⟩
    have hlt : i < (blks bs).length := (List.getElem?_eq_some_iff.mp hx).1
    have hlt2 := hlt
    rw [blks_len] at hlt2
    walk_at "st"
    refine k_tyL (.of e) ?_
    walk_at "st"
    refine k_ixL (.of e) (x := .int (sumTo bs (32 * i))) (by rw [aheadN_succ, List.map_append]; exact atI_last _ _) ?_
    walk_at "st"
    refine ⟨x, 32, rfl, by decide, fun H2 s2 => ?_⟩
    walk_at "st"
    refine k_app (s2.get e) (by rw [List.length_map, aheadN_len]; omega) ?_
    walk_at "st"
    have e2 := s2.get e
    refine ⟨_, rfl, hlt, Same.mut (s.trans s2) hp, ?_⟩
    rw [upd_same, aheadN_succ bs (i + 1), List.map_append, onesIn_blks hB hx 32 (Nat.le_refl _), show 32 * i + 32 = 32 * (i + 1) by omega, show sumTo bs (32 * i) + (sumTo bs (32 * (i + 1)) - sumTo bs (32 * i)) = sumTo bs (32 * (i + 1)) by omega]; rfl
  · rintro σ H' ⟨y, rfl, hi, s, e⟩
    walk_at "st"
    refine k_tupL (.of e) fun t ht => ?_
    walk_at "st"
    refine q t _ (s.gone _ ht) (s.trans (same_new ht)) ?_
    rw [upd_same, blks_len]; rfl
/-- kept_row(bits) -/
def sp_kept_row (K : PySem.W.Frag) : Sp := fun vs H Q E => ∃ (a : Addr) (bs : List Int), vs = [.ref a] ∧ SqL K H a (bs.map V.int) ∧ bs.length ≤ 100000 ∧
  (bs.length > 4096 → E (.ref (He.ga K "TooMany")) none H) ∧
  (bs.length ≤ 4096 → ¬ Bits bs → ∀ H', Same H H' → E (.ref (He.ga K "NoBit")) none H') ∧
  (bs.length ≤ 4096 → Bits bs → ∀ p t pa pb H', H p = none → H t = none → H pa = none → H pb = none → Same H H' → H' p = some (.tup [.ref t, .ref pb]) → H' t = some (.tup [.int (bs.length : Int), .ref pa]) → H' pa = some (.tup ((aheadT bs).map V.int)) → H' pb = some (.lst ((blks bs).map V.int)) → Q (.ref p) H')
theorem len_kept_row (K : PySem.W.Frag) : ∀ vs H Q E, sp_kept_row K vs H Q E → vs.length = 1 := by
  rintro vs H Q E ⟨a, bs, rfl, _⟩; rfl
def t_kept_row (K : PySem.W.Frag) (E : XK) : TS :=
  (tSeq (tAsg (tCall (sp_packed K) [] E (tCons (tVar 0) tNil)) (gName 1))
  (tRet (tTup (tCons (tTup (tCons (tCB (rLen K) (tCons (tVar 0) tNil)) (tCons (tCall (sp_ones_table K) [] E0 (tCons (tVar 1) tNil)) tNil))) (tCons (tVar 1) tNil)))))
abbrev n_kept_row : List Str := ["bits", "blocks"]

theorem rd_kept_row (K : PySem.W.Frag) (vs : List V) (H : Hp) (Q : VK) (E : XK) (h : sp_kept_row K vs H Q E) : t_kept_row K E { nx := fun _ H' => Q .non H', rt := Q } (start n_kept_row vs) H := by
  obtain ⟨a, bs, rfl, hS, hl, q1, q2, q3⟩ := h
  unfold t_kept_row
  walk_at "st"
  refine ⟨a, bs, rfl, hS, hl, q1, q2, fun hm hB pb H1 hpb s1 e1 => ?_⟩
  walk_at "st"
  refine k_lenL (s1.seq hS) ?_
  walk_at "st"
  rw [List.length_map]
  refine ⟨pb, bs, rfl, e1, by omega, hB, fun pa H2 hpa s2 e2 => ?_⟩
  walk_at "st"
  intro t ht
  walk_at "st"
  intro p hp
  walk_at "st"
  have s3 := same_new (o := .tup [.int (bs.length : Int), .ref pa]) ht
  have s4 := same_new (o := .tup [.ref t, .ref pb]) hp
  exact q3 hm hB p t pa pb _ ((s1.trans (s2.trans s3)).gone _ hp) ((s1.trans s2).gone _ ht) (s1.gone _ hpa) hpb (s1.trans (s2.trans (s3.trans s4))) upd_same (s4.get upd_same) (s4.get (s3.get e2)) (s4.get (s3.get (s2.get e1)))

/-- the net of the first k bits -/
def net (b : Int) (k : Nat) : Int := 2 * onesIn b k - k
theorem net_succ (b : Int) (k : Nat) : net b (k + 1) = net b k + (2 * bit b k - 1) := by
  unfold net; show 2 * (onesIn b k + bit b k) - ((k + 1 : Nat) : Int) = _
  push_cast; omega
theorem net_zero (b : Int) : net b 0 = 0 := rfl
/-- the least net of the first 1 .. n bits, 1 at none -/
def lowIn (b : Int) : Nat → Int
  | 0 => 1
  | n + 1 => if net b (n + 1) < lowIn b n then net b (n + 1) else lowIn b n
theorem lowIn_le (b : Int) (n : Nat) : ∀ k, 1 ≤ k → k ≤ n → lowIn b n ≤ net b k := by
  induction n with
  | zero => intro k h1 h2; omega
  | succ n ih =>
    intro k h1 h2
    unfold lowIn
    rcases Nat.lt_or_ge k (n + 1) with h | h
    · have := ih k h1 (by omega); split <;> omega
    · have : k = n + 1 := by omega
      subst this; split <;> omega
theorem net_one (b : Int) : net b 1 ≤ 1 := by
  rw [net_succ, net_zero]; have := bit_cases b 0; omega
theorem lowIn_mem (b : Int) (n : Nat) (hn : 1 ≤ n) : ∃ k, 1 ≤ k ∧ k ≤ n ∧ lowIn b n = net b k := by
  induction n with
  | zero => omega
  | succ n ih =>
    unfold lowIn
    rcases Nat.eq_zero_or_pos n with h | h
    · subst h
      refine ⟨1, by omega, by omega, ?_⟩
      have := net_one b
      show (if net b 1 < 1 then net b 1 else 1) = net b 1
      split <;> omega
    · obtain ⟨k, h1, h2, h3⟩ := ih h
      split
      · exact ⟨n + 1, by omega, by omega, rfl⟩
      · exact ⟨k, h1, by omega, h3⟩

/-- the height at a place -/
def hgt (bs : List Int) (n : Nat) : Int := 2 * sumTo bs n - n
theorem hgt_zero (bs : List Int) : hgt bs 0 = 0 := rfl
theorem hgt_succ (bs : List Int) (n : Nat) : hgt bs (n + 1) = hgt bs n + (2 * bs.getD n 0 - 1) := by
  unfold hgt; rw [sumTo_succ]; push_cast; omega
theorem net_blks {bs : List Int} (h : Bits bs) {j : Nat} {b : Int} (e : (blks bs)[j]? = some b) (k : Nat) (hk : k ≤ 32) : net b k = hgt bs (32 * j + k) - hgt bs (32 * j) := by
  unfold net hgt; rw [onesIn_blks h e k hk]; push_cast; omega
/-- the least of 1 and the heights at 1 .. n -/
def lowTo (bs : List Int) : Nat → Int
  | 0 => 1
  | n + 1 => if hgt bs (n + 1) < lowTo bs n then hgt bs (n + 1) else lowTo bs n
theorem lowTo_le (bs : List Int) (n : Nat) : lowTo bs n ≤ 1 ∧ ∀ k, 1 ≤ k → k ≤ n → lowTo bs n ≤ hgt bs k := by
  induction n with
  | zero => exact ⟨Int.le_refl _, fun k h1 h2 => by omega⟩
  | succ n ih =>
    unfold lowTo
    refine ⟨by have := ih.1; split <;> omega, fun k h1 h2 => ?_⟩
    rcases Nat.lt_or_ge k (n + 1) with h | h
    · have := ih.2 k h1 (by omega); split <;> omega
    · have : k = n + 1 := by omega
      subst this; split <;> omega
theorem lowTo_mem (bs : List Int) (n : Nat) : lowTo bs n = 1 ∨ ∃ k, 1 ≤ k ∧ k ≤ n ∧ lowTo bs n = hgt bs k := by
  induction n with
  | zero => exact .inl rfl
  | succ n ih =>
    unfold lowTo
    split
    · exact .inr ⟨n + 1, by omega, by omega, rfl⟩
    · rcases ih with h | ⟨k, h1, h2, h3⟩
      · exact .inl h
      · exact .inr ⟨k, h1, by omega, h3⟩
/-- a block more -/
theorem lowTo_block {bs : List Int} (h : Bits bs) {j : Nat} {b : Int} (e : (blks bs)[j]? = some b) {k : Nat} (h1 : 1 ≤ k) (hk : k ≤ 32) :
    (if hgt bs (32 * j) + lowIn b k < lowTo bs (32 * j) then hgt bs (32 * j) + lowIn b k else lowTo bs (32 * j)) = lowTo bs (32 * j + k) := by
  have a1 := lowTo_le bs (32 * j)
  have a2 := lowTo_mem bs (32 * j)
  have b1 := lowTo_le bs (32 * j + k)
  have b2 := lowTo_mem bs (32 * j + k)
  have c1 := lowIn_le b k
  obtain ⟨i, i1, i2, i3⟩ := lowIn_mem b k h1
  have d1 := net_blks h e i (by omega)
  have d2 := b1.2 (32 * j + i) (by omega) (by omega)
  have d3 : ∀ m, 1 ≤ m → m ≤ 32 * j + k → (lowTo bs (32 * j) ≤ hgt bs m ∨ hgt bs (32 * j) + lowIn b k ≤ hgt bs m) := by
    intro m m1 m2
    rcases Nat.lt_or_ge (32 * j) m with l | l
    · have g := c1 (m - 32 * j) (by omega) (by omega)
      rw [net_blks h e (m - 32 * j) (by omega), show 32 * j + (m - 32 * j) = m by omega] at g
      exact .inr (by omega)
    · exact .inl (a1.2 m m1 l)
  have d4 : lowTo bs (32 * j + k) ≤ lowTo bs (32 * j) := by
    rcases a2 with g | ⟨m, m1, m2, m3⟩
    · have := b1.1; omega
    · have := b1.2 m m1 (by omega); omega
  have d5 : lowTo bs (32 * j) ≤ lowTo bs (32 * j + k) ∨ hgt bs (32 * j) + lowIn b k ≤ lowTo bs (32 * j + k) := by
    rcases b2 with g | ⟨m, m1, m2, m3⟩
    · have := a1.1; exact .inl (by omega)
    · rcases d3 m m1 m2 with g | g
      · exact .inl (by omega)
      · exact .inr (by omega)
  split <;> omega

/-- a row that is a tree's: its height is nought at both ends alone -/
def IsTree (bs : List Int) : Prop := 2 ≤ bs.length ∧ hgt bs bs.length = 0 ∧ ∀ k, 0 < k → k < bs.length → 0 < hgt bs k
theorem hgt_cons (b : Int) (bs : List Int) (n : Nat) : hgt (b :: bs) (n + 1) = (2 * b - 1) + hgt bs n := by
  unfold hgt sumTo
  rw [List.take_succ_cons, List.sum_cons]; push_cast; omega
theorem hgt_left {as bs : List Int} {n : Nat} (h : n ≤ as.length) : hgt (as ++ bs) n = hgt as n := by
  unfold hgt sumTo
  rw [List.take_append_of_le_length h]
/-- from height h on bs goes, never below 1, to h' -/
def Up : Int → List Int → Int → Prop
  | h, [], h' => h = h'
  | h, b :: bs, h' => (b = 0 ∨ b = 1) ∧ 1 ≤ h + (2 * b - 1) ∧ Up (h + (2 * b - 1)) bs h'
theorem Up.app : ∀ {as bs : List Int} {h m h' : Int}, Up h as m → Up m bs h' → Up h (as ++ bs) h'
  | [], _, _, _, _, h1, h2 => by cases (show _ = _ from h1); exact h2
  | _ :: _, _, _, _, _, ⟨a1, a2, a3⟩, h2 => ⟨a1, a2, Up.app a3 h2⟩
theorem Up.bits : ∀ {bs : List Int} {h h' : Int}, Up h bs h' → Bits bs
  | [], _, _, _ => fun x hx => by cases hx
  | b :: bs, _, _, ⟨a1, _, a3⟩ => fun x hx => by
    rcases List.mem_cons.mp hx with rfl | z
    · exact a1
    · exact Up.bits a3 x z
theorem Up.hgt : ∀ {bs : List Int} {h h' : Int}, Up h bs h' → h + hgt bs bs.length = h' ∧ ∀ k, 0 < k → k ≤ bs.length → 1 ≤ h + Tw.hgt bs k
  | [], h, h', e => by
    have e : h = h' := e
    refine ⟨by show h + Tw.hgt [] 0 = h'; rw [hgt_zero]; omega, fun k h1 h2 => ?_⟩
    rw [List.length_nil] at h2; omega
  | b :: bs, h, h', ⟨a1, a2, a3⟩ => by
    obtain ⟨r1, r2⟩ := Up.hgt a3
    refine ⟨by rw [List.length_cons, hgt_cons]; omega, fun k h1 h2 => ?_⟩
    obtain ⟨k, rfl⟩ : ∃ j, k = j + 1 := ⟨k - 1, by omega⟩
    rw [hgt_cons]
    rcases Nat.eq_zero_or_pos k with rfl | hk
    · rw [hgt_zero]; omega
    · have := r2 k hk (by rw [List.length_cons] at h2; omega); omega
theorem up_ones : ∀ (n : Nat) {h : Int}, 0 ≤ h → Up h (List.replicate n 1) (h + n)
  | 0, h, _ => by show h = _; omega
  | n + 1, h, hh => ⟨.inr rfl, by omega, by
    have := up_ones n (h := h + (2 * 1 - 1)) (by omega)
    rw [show h + ((n + 1 : Nat) : Int) = h + (2 * 1 - 1) + (n : Int) by omega]; exact this⟩
theorem up_noughts : ∀ (n : Nat) {h : Int}, (n : Int) ≤ h - 1 → Up h (List.replicate n 0) (h - n)
  | 0, h, _ => by show h = _; omega
  | n + 1, h, hh => ⟨.inl rfl, by omega, by
    have := up_noughts n (h := h + (2 * 0 - 1)) (by omega)
    rw [show h - ((n + 1 : Nat) : Int) = h + (2 * 0 - 1) - (n : Int) by omega]; exact this⟩
theorem up_flat : ∀ (n : Nat) {h : Int}, 1 ≤ h → Up h (List.replicate n ([1, 0] : List Int)).flatten h
  | 0, h, _ => rfl
  | n + 1, h, hh => by
    rw [List.replicate_succ, List.flatten_cons]
    refine Up.app (m := h) ⟨.inr rfl, by omega, .inl rfl, by omega, ?_⟩ (up_flat n hh)
    show _ = h; omega
theorem tree_of_up {bs : List Int} {h : Int} (u : Up 0 bs h) (h1 : 1 ≤ h) : IsTree (bs ++ List.replicate h.toNat 0) := by
  have u2 := u.app (up_noughts (h.toNat - 1) (h := h) (by omega))
  rw [show h - ((h.toNat - 1 : Nat) : Int) = 1 by omega] at u2
  have e : bs ++ List.replicate h.toNat 0 = (bs ++ List.replicate (h.toNat - 1) 0) ++ [0] := by
    rw [List.append_assoc]
    congr 1
    rw [show ([0] : List Int) = List.replicate 1 0 from rfl, List.replicate_append_replicate]
    congr 1; omega
  rw [e]
  generalize bs ++ List.replicate (h.toNat - 1) 0 = cs at u2
  obtain ⟨g1, g2⟩ := u2.hgt
  have hc : 0 < cs.length := by
    rcases Nat.eq_zero_or_pos cs.length with z | z
    · rw [z, hgt_zero] at g1; omega
    · exact z
  refine ⟨by rw [List.length_append, List.length_singleton]; omega, ?_, fun k k1 k2 => ?_⟩
  · rw [List.length_append, List.length_singleton, hgt_succ, hgt_left (Nat.le_refl _)]
    rw [List.getD_eq_getElem?_getD, List.getElem?_append_right (Nat.le_refl _), Nat.sub_self]
    show _ + (2 * 0 - 1) = _
    omega
  · rw [List.length_append, List.length_singleton] at k2
    rw [hgt_left (by omega)]
    have := g2 k k1 (by omega); omega

/-- is_tree(bits) -/
def sp_is_tree (K : PySem.W.Frag) : Sp := fun vs H Q _ => ∃ (a : Addr) (bs : List Int), vs = [.ref a] ∧ SqL K H a (bs.map V.int) ∧ bs.length ≤ 100000 ∧ ∀ (b : Bool) H', (b = true ↔ IsTree bs) → Same H H' → Q (.bl b) H'
theorem len_is_tree (K : PySem.W.Frag) : ∀ vs H Q E, sp_is_tree K vs H Q E → vs.length = 1 := by
  rintro vs H Q E ⟨x, y, rfl, _⟩; rfl
def t_is_tree (K : PySem.W.Frag) : TS :=
  (tSeq (tAsg (tC (.int 0)) (gName 1))
  (tSeq (tFor (iEnum K (tCons (tVar 0) tNil)) (gTup K 2 (gCons (gName 2) (gCons (gName 3) gNil)))
  (tSeq (tAug 1 (tOp rMinus (tOp rTimes (tC (.int 2)) (tVar 3)) (tC (.int 1))) (ipI fun i j => i + j))
  (tIfS (tAnd (tTest (tOp rLe (tVar 1) (tC (.int 0)))) (tTest (tOp rLt (tOp rPlus (tVar 2) (tC (.int 1))) (tCB (rLen K) (tCons (tVar 0) tNil)))))
  (tRet (tC (.bl false)))
  tNext)))
  (tRet (tAndV (tOp rGtI (tCB (rLen K) (tCons (tVar 0) tNil)) (tC (.int 1))) (tOp rEq (tVar 1) (tC (.int 0)))))))
abbrev n_is_tree : List Str := ["bits", "high", "at", "bit"]

theorem rd_is_tree (K : PySem.W.Frag) (vs : List V) (H : Hp) (Q : VK) (E : XK) (h : sp_is_tree K vs H Q E) : t_is_tree K { nx := fun _ H' => Q .non H', rt := Q } (start n_is_tree vs) H := by
  obtain ⟨a, bs, rfl, hS, hl, q⟩ := h
  unfold t_is_tree
  walk_at "st"
  refine m_enumE hS ?_
  refine loop_walk walk_enum (fun i σ H' => ∃ y z, σ = [some (.ref a), some (.int (hgt bs i)), y, z] ∧ i ≤ bs.length ∧ Same H H' ∧ ∀ k, 0 < k → k ≤ i → k < bs.length → 0 < hgt bs k) ⟨none, none, rfl, Nat.zero_le _, Same.refl _, fun k h1 h2 => by omega⟩ (fun i σ H' ⟨y, z, _, _, s, _⟩ => s.seq hS) ?_ ?_
  · rintro i v σ H1 H2 hi ⟨y, z, rfl, _, s, hb⟩ ⟨T, x, w, rfl, hT, rfl, ex, ew⟩
    rw [List.length_map] at hi
    obtain ⟨b, hbi, rfl⟩ := of_mapint ew
    obtain rfl : x = .int (i : Nat) := (Option.some.inj ex).symm
    have s2 := s.trans (same_new (o := .tup [.int (i : Nat), .int b]) hT)
    refine m_gTup (.of upd_same) rfl ?_
    generalize upd H1 T (.tup [.int (i : Nat), .int b]) = H3 at s2 ⊢
    walk_at "st"
    have eh : hgt bs i + (2 * b - 1) = hgt bs (i + 1) := by rw [hgt_succ, List.getD_eq_getElem?_getD, hbi]; rfl
    rw [eh]
    walk_at "if" <;> intro c0
    · walk_at "st"
      refine k_lenL (s2.seq hS) ?_
      walk_at "st"
      rw [List.length_map]
      walk_at "if" <;> intro c1
      · walk_at "st"
        exact q false _ ⟨fun z => Bool.noConfusion z, fun z => by have := z.2.2 (i + 1) (by omega) (by omega); omega⟩ s2
      · walk_at "st"
        exact ⟨_, _, rfl, by omega, s2, fun k h1 h2 h3 => hb k h1 (by omega) h3⟩
    · walk_at "st"
      refine ⟨_, _, rfl, by omega, s2, fun k h1 h2 h3 => ?_⟩
      rcases Nat.lt_or_ge k (i + 1) with w | w
      · exact hb k h1 (by omega) h3
      · rw [show k = i + 1 by omega]; omega
  rintro σ H1 ⟨y, z, rfl, _, s, hb⟩
  rw [List.length_map] at hb
  walk_at "st"
  refine k_lenL (s.seq hS) ?_
  walk_at "st"
  rw [List.length_map]
  walk_at "if" <;> intro c1
  · walk_at "st"
    refine q _ _ ?_ s
    rw [decide_eq_true_iff]
    exact ⟨fun z => ⟨by omega, z, fun k h1 h2 => hb k h1 (by omega) h2⟩, fun z => z.2.1⟩
  · walk_at "st"
    exact q false _ ⟨fun z => Bool.noConfusion z, fun z => by have := z.1; omega⟩ s

/-! ### the heap over places: the least power of two -/
/-- the doublings from 1 until many are reached -/
def hOf (many : Nat) : Nat := if many ≤ 1 then 0 else (many - 1).log2 + 1
theorem hOf_le (many : Nat) : many ≤ 2 ^ hOf many := by
  unfold hOf
  split
  · rw [Nat.pow_zero]; omega
  · have := Nat.lt_log2_self (n := many - 1)
    omega
theorem hOf_lt {many k : Nat} (h : k < hOf many) : 2 ^ k < many := by
  unfold hOf at h
  split at h
  · omega
  · have h1 : 2 ^ k ≤ 2 ^ (many - 1).log2 := Nat.pow_le_pow_right (by decide) (by omega)
    have h2 := Nat.log2_self_le (n := many - 1) (by omega)
    omega
theorem hOf_small {many : Nat} (h : many ≤ 4096) : hOf many ≤ 12 := by
  rcases Nat.lt_or_ge 12 (hOf many) with z | z
  · have := hOf_lt z; omega
  · exact z
/-- size_of(many) -/
def sp_size_of (_ : PySem.W.Frag) : Sp := fun vs H Q _ => ∃ many : Nat, vs = [.int (many : Int)] ∧ many ≤ 100000 ∧ Q (.int ((2 ^ hOf many : Nat) : Int)) H
theorem len_size_of (K : PySem.W.Frag) : ∀ vs H Q E, sp_size_of K vs H Q E → vs.length = 1 := by
  rintro vs H Q E ⟨x, rfl, _⟩; rfl
def t_size_of (K : PySem.W.Frag) : TS :=
  (tSeq (tAsg (tC (.int 1)) (gName 1))
  (tSeq (tWhile (tTest (tOp rLt (tVar 1) (tVar 0)))
  (tAug 1 (tC (.int 2)) rTimes))
  (tRet (tVar 1))))
abbrev n_size_of : List Str := ["many", "size"]

theorem rd_size_of (K : PySem.W.Frag) (vs : List V) (H : Hp) (Q : VK) (E : XK) (h : sp_size_of K vs H Q E) : t_size_of K { nx := fun _ H' => Q .non H', rt := Q } (start n_size_of vs) H := by
  obtain ⟨many, rfl, hm, q⟩ := h
  unfold t_size_of
  walk_at "st"
  refine loop_while (fun m σ H' => ∃ k : Nat, m = hOf many - k ∧ k ≤ hOf many ∧ σ = [some (.int (many : Int)), some (.int ((2 ^ k : Nat) : Int))] ∧ H' = H) (hOf many) ⟨0, rfl, Nat.zero_le _, rfl, rfl⟩ ?_
  rintro m σ H' ⟨k, rfl, hk, rfl, rfl⟩
  walk_at "st"
  walk_at "if" <;> intro c
  · have c2 : 2 ^ k < many := by exact_mod_cast c
    have hk2 : k < hOf many := by
      rcases Nat.lt_or_ge k (hOf many) with z | z
      · exact z
      · have : k = hOf many := by omega
        subst this
        have := hOf_le many
        omega
    walk_at "st"
    refine ⟨hOf many - (k + 1), by omega, k + 1, rfl, hk2, ?_, rfl⟩
    rw [show ((2 ^ (k + 1) : Nat) : Int) = ((2 ^ k : Nat) : Int) * 2 by rw [Nat.pow_succ]; push_cast; rfl]; rfl
  · have c2 : ¬ 2 ^ k < many := by exact_mod_cast c
    have : k = hOf many := by
      rcases Nat.lt_or_ge k (hOf many) with z | z
      · exact absurd (hOf_lt z) c2
      · omega
    subst this
    walk_at "st"
    exact q

/-! ### what the nodes bear -/
def NV : Option Int → V
  | none => .non
  | some i => .int i
def minO : Option Int → Option Int → Option Int
  | none, b => b
  | a, none => a
  | some a, some b => some (if b < a then b else a)
def bearF (ns : List Int) (S : Nat) : Nat → Nat → Option Int
  | 0, n => if S ≤ n then ns[n - S]? else none
  | f + 1, n => if S ≤ n then ns[n - S]? else if n = 0 then none else minO (bearF ns S f (2 * n)) (bearF ns S f (2 * n + 1))
/-- what the node n bears, of 2 ^ h places -/
def bear (ns : List Int) (h n : Nat) : Option Int := bearF ns (2 ^ h) h n
theorem bearF_more {ns : List Int} {S : Nat} : ∀ {f n : Nat}, 1 ≤ n → S ≤ n * 2 ^ f → bearF ns S (f + 1) n = bearF ns S f n
  | 0, n, h1, h2 => by
    have h2 : S ≤ n := by simpa using h2
    show (if S ≤ n then _ else _) = (if S ≤ n then _ else _)
    rw [if_pos h2, if_pos h2]
  | f + 1, n, h1, h2 => by
    show (if S ≤ n then _ else _) = (if S ≤ n then _ else _)
    have e : n * 2 ^ (f + 1) = 2 * n * 2 ^ f := by rw [Nat.pow_succ, ← Nat.mul_assoc, Nat.mul_comm, ← Nat.mul_assoc]
    rw [e] at h2
    have h3 : S ≤ (2 * n + 1) * 2 ^ f := Nat.le_trans h2 (Nat.mul_le_mul_right _ (by omega))
    rw [bearF_more (f := f) (n := 2 * n) (by omega) h2, bearF_more (f := f) (n := 2 * n + 1) (by omega) h3]
theorem bear_leaf {ns : List Int} {h n : Nat} (l : 2 ^ h ≤ n) : bear ns h n = ns[n - 2 ^ h]? := by
  unfold bear
  cases h with
  | zero => exact if_pos l
  | succ h => exact if_pos l
theorem bear_zero (ns : List Int) (h : Nat) : bear ns h 0 = none := by
  unfold bear
  have := Nat.two_pow_pos h
  cases h with
  | zero => exact if_neg (by omega)
  | succ h => exact (if_neg (by omega)).trans (if_pos rfl)
theorem bear_node {ns : List Int} {h n : Nat} (h1 : 1 ≤ n) (h2 : n < 2 ^ h) : bear ns h n = minO (bear ns h (2 * n)) (bear ns h (2 * n + 1)) := by
  unfold bear
  cases h with
  | zero => simp at h2; omega
  | succ h =>
    have hx : 2 ^ (h + 1) ≤ 2 * n * 2 ^ h := by
      rw [Nat.pow_succ, Nat.mul_comm, Nat.mul_assoc]
      exact Nat.mul_le_mul_left 2 (Nat.le_mul_of_pos_left _ h1)
    have hy : 2 ^ (h + 1) ≤ (2 * n + 1) * 2 ^ h := Nat.le_trans hx (Nat.mul_le_mul_right _ (by omega))
    rw [bearF_more (f := h) (n := 2 * n) (by omega) hx, bearF_more (f := h) (n := 2 * n + 1) (by omega) hy]
    exact (if_neg (by omega)).trans (if_neg (by omega))
/-- the list of nodes, those from k on reckoned -/
def nodesFrom (ns : List Int) (h k : Nat) : List V := (List.range (2 * 2 ^ h)).map fun n => if k ≤ n then NV (bear ns h n) else .non
theorem nodesFrom_len (ns : List Int) (h k : Nat) : (nodesFrom ns h k).length = 2 * 2 ^ h := by unfold nodesFrom; simp
theorem nodesFrom_get {ns : List Int} {h k n : Nat} (hn : n < 2 * 2 ^ h) : (nodesFrom ns h k)[n]? = some (if k ≤ n then NV (bear ns h n) else .non) := by unfold nodesFrom; simp [hn]
theorem nodesFrom_start {ns : List Int} {h : Nat} (l : ns.length ≤ 2 ^ h) : List.replicate (2 ^ h) V.non ++ ns.map V.int ++ List.replicate (2 ^ h - ns.length) V.non = nodesFrom ns h (2 ^ h) := by
  apply List.ext_getElem?
  intro i
  rcases Nat.lt_or_ge i (2 * 2 ^ h) with hi | hi
  · rw [nodesFrom_get hi]
    rcases Nat.lt_or_ge i (2 ^ h) with z | z
    · rw [if_neg (by omega), List.append_assoc, List.getElem?_append_left (by rw [List.length_replicate]; exact z), List.getElem?_replicate, if_pos z]
    · rw [if_pos z, List.append_assoc, List.getElem?_append_right (by rw [List.length_replicate]; exact z), List.length_replicate, bear_leaf z]
      rcases Nat.lt_or_ge (i - 2 ^ h) ns.length with w | w
      · rw [List.getElem?_append_left (by rw [List.length_map]; exact w), List.getElem?_map, List.getElem?_eq_getElem w]; rfl
      · rw [List.getElem?_append_right (by rw [List.length_map]; exact w), List.getElem?_replicate, if_pos (by rw [List.length_map]; omega), List.getElem?_eq_none w]; rfl
  · rw [List.getElem?_eq_none (by simp; omega), List.getElem?_eq_none (by rw [nodesFrom_len]; exact hi)]
theorem nodesFrom_step {ns : List Int} {h k : Nat} (h1 : 1 ≤ k) (h2 : k < 2 ^ h) : (nodesFrom ns h (k + 1)).set k (NV (minO (bear ns h (2 * k)) (bear ns h (2 * k + 1)))) = nodesFrom ns h k := by
  apply List.ext_getElem?
  intro i
  rw [List.getElem?_set, nodesFrom_len]
  rcases Nat.lt_or_ge i (2 * 2 ^ h) with hi | hi
  · rw [nodesFrom_get hi, nodesFrom_get hi]
    by_cases e : k = i
    · subst e
      rw [if_pos rfl, if_pos (by omega), if_pos (Nat.le_refl _), bear_node h1 h2]
    · rw [if_neg e]
      by_cases g : k ≤ i
      · rw [if_pos g, if_pos (by omega)]
      · rw [if_neg g, if_neg (by omega)]
  · rw [List.getElem?_eq_none (by rw [nodesFrom_len]; exact hi), List.getElem?_eq_none (by rw [nodesFrom_len]; exact hi), if_neg (by omega)]
theorem nodesFrom_one (ns : List Int) (h : Nat) : nodesFrom ns h 1 = (List.range (2 * 2 ^ h)).map fun n => NV (bear ns h n) := by
  unfold nodesFrom
  apply List.map_congr_left
  intro n _
  split
  · rfl
  · rw [show n = 0 by omega, bear_zero]; rfl
/-- the heap of a row -/
def heapL (ns : List Int) : List V := (List.range (2 * 2 ^ hOf ns.length)).map fun n => NV (bear ns (hOf ns.length) n)
theorem heapL_len (ns : List Int) : (heapL ns).length = 2 * 2 ^ hOf ns.length := by unfold heapL; simp
theorem heapL_get {ns : List Int} {n : Nat} (hn : n < 2 * 2 ^ hOf ns.length) : (heapL ns)[n]? = some (NV (bear ns (hOf ns.length) n)) := by unfold heapL; simp [hn]

/-- lesser_of(one, other) -/
def sp_lesser_of (_ : PySem.W.Frag) : Sp := fun vs H Q _ => ∃ a b : Option Int, vs = [NV a, NV b] ∧ Q (NV (minO a b)) H
theorem len_lesser_of (K : PySem.W.Frag) : ∀ vs H Q E, sp_lesser_of K vs H Q E → vs.length = 2 := by
  rintro vs H Q E ⟨a, b, rfl, _⟩; rfl
def t_lesser_of (K : PySem.W.Frag) : TS :=
  (tSeq (tIfS (tTest (tOp rIsN (tVar 0) (tC .non)))
  (tRet (tVar 1))
  tNext)
  (tSeq (tIfS (tTest (tOp rIsN (tVar 1) (tC .non)))
  (tRet (tVar 0))
  tNext)
  (tRet (tCB rMin2 (tCons (tVar 0) (tCons (tVar 1) tNil))))))
abbrev n_lesser_of : List Str := ["one", "other"]

theorem rd_lesser_of (K : PySem.W.Frag) (vs : List V) (H : Hp) (Q : VK) (E : XK) (h : sp_lesser_of K vs H Q E) : t_lesser_of K { nx := fun _ H' => Q .non H', rt := Q } (start n_lesser_of vs) H := by
  obtain ⟨a, b, rfl, q⟩ := h
  unfold t_lesser_of
  cases a with
  | none =>
    rw [show NV none = V.non from rfl]
    walk_at "st"
    refine k_decT rfl ?_
    walk_at "st"
    exact q
  | some a =>
    rw [show NV (some a) = V.int a from rfl]
    walk_at "st"
    refine k_decF (fun z => nomatch z) ?_
    cases b with
    | none =>
      rw [show NV none = V.non from rfl]
      walk_at "st"
      refine k_decT rfl ?_
      walk_at "st"
      exact q
    | some b =>
      rw [show NV (some b) = V.int b from rfl]
      walk_at "st"
      refine k_decF (fun z => nomatch z) ?_
      walk_at "st"
      exact q

/-- heap_of(numbers) -/
def sp_heap_of (K : PySem.W.Frag) : Sp := fun vs H Q E => ∃ (a : Addr) (ns : List Int), vs = [.ref a] ∧ SqL K H a (ns.map V.int) ∧ ns.length ≤ 10000 ∧
  (4096 < ns.length → E (.ref (He.ga K "TooMany")) none H) ∧
  (ns.length ≤ 4096 → ∀ p H', H p = none → Same H H' → H' p = some (.lst (heapL ns)) → Q (.ref p) H')
theorem len_heap_of (K : PySem.W.Frag) : ∀ vs H Q E, sp_heap_of K vs H Q E → vs.length = 1 := by
  rintro vs H Q E ⟨a, ns, rfl, _⟩; rfl
def t_heap_of (K : PySem.W.Frag) (E : XK) : TS :=
  (tSeq (tIfS (tTest (tOp rGtI (tCB (rLen K) (tCons (tVar 0) tNil)) (tC (.int 4096))))
  (tRz (fun cls d _ H => E cls d H) (He.ga K "TooMany"))
  tNext)
  (tSeq (tAsg (tCall (sp_size_of K) [] E0 (tCons (tCB (rLen K) (tCons (tVar 0) tNil)) tNil)) (gName 1))
  (tSeq (tAsg (tOp rCat (tOp rCat (tOp rRep (tLst (tCons (tC .non) tNil)) (tVar 1)) (tCB (rListOf K) (tCons (tVar 0) tNil))) (tOp rRep (tLst (tCons (tC .non) tNil)) (tOp rMinus (tVar 1) (tCB (rLen K) (tCons (tVar 0) tNil))))) (gName 2))
  (tSeq (tFor (iRng3 (tCons (tOp rMinus (tVar 1) (tC (.int 1))) (tCons (tC (.int 0)) (tCons (tUn rNeg (tC (.int 1))) tNil)))) (gName 3)
  (tAsg (tCall (sp_lesser_of K) [] E0 (tCons (tOp (rIxL K) (tVar 2) (tOp rTimes (tC (.int 2)) (tVar 3))) (tCons (tOp (rIxL K) (tVar 2) (tOp rPlus (tOp rTimes (tC (.int 2)) (tVar 3)) (tC (.int 1)))) tNil))) (gSub (tVar 2) (tVar 3) rSetL)))
  (tRet (tVar 2))))))
abbrev n_heap_of : List Str := ["numbers", "size", "nodes", "node"]

theorem rd_heap_of (K : PySem.W.Frag) (vs : List V) (H : Hp) (Q : VK) (E : XK) (h : sp_heap_of K vs H Q E) : t_heap_of K E { nx := fun _ H' => Q .non H', rt := Q } (start n_heap_of vs) H := by
  obtain ⟨a, ns, rfl, hS, hl, q1, q2⟩ := h
  unfold t_heap_of
  walk_at "st"
  refine k_lenL hS ?_
  walk_at "st"
  rw [List.length_map]
  walk_at "if" <;> intro c
  · walk_at "st"
    exact q1 (by omega)
  walk_at "st"
  refine k_lenL hS ?_
  walk_at "st"
  rw [List.length_map]
  refine ⟨ns.length, rfl, by omega, ?_⟩
  have hle := hOf_le ns.length
  have hh := hOf_small (many := ns.length) (by omega)
  have hp12 := Nat.pow_le_pow_right (show 0 < 2 by decide) hh
  have hS0 := Nat.two_pow_pos (hOf ns.length)
  have q2 := q2 (by omega)
  unfold heapL at q2
  generalize hOf ns.length = h at q2 hle hh hp12 hS0 ⊢
  walk_at "st"
  intro p1 hp1
  walk_at "st"
  refine k_rep (xs := [.non]) upd_same (by simp only [List.length_cons, List.length_nil]; omega) (by omega) fun p2 hp2 => ?_
  rw [rep_one]
  have s2 := (same_new (o := .lst [.non]) hp1).trans (same_new (o := .lst (List.replicate (2 ^ h) V.non)) hp2)
  walk_at "st"
  refine k_listL (s2.seq hS) fun p3 hp3 => ?_
  refine k_cat ((same_new hp3).get upd_same) upd_same (by rw [List.length_replicate, List.length_map]; omega) fun p4 hp4 => ?_
  have s4 := s2.trans ((same_new (o := .lst (ns.map V.int)) hp3).trans (same_new (o := .lst (List.replicate (2 ^ h) V.non ++ ns.map V.int)) hp4))
  have e4 := upd_same (H := upd (upd (upd H p1 (.lst [.non])) p2 (.lst (List.replicate (2 ^ h) V.non))) p3 (.lst (ns.map V.int))) (a := p4) (o := .lst (List.replicate (2 ^ h) V.non ++ ns.map V.int))
  generalize upd (upd (upd (upd H p1 (.lst [.non])) p2 (.lst (List.replicate (2 ^ h) V.non))) p3 (.lst (ns.map V.int))) p4 (.lst (List.replicate (2 ^ h) V.non ++ ns.map V.int)) = H4 at s4 e4 ⊢
  walk_at "st"
  intro p5 hp5
  walk_at "st"
  refine k_lenL ((s4.trans (same_new hp5)).seq hS) ?_
  walk_at "st"
  rw [List.length_map, show ((2 ^ h : Nat) : Int) - (ns.length : Int) = ((2 ^ h - ns.length : Nat) : Int) by omega]
  refine k_rep (xs := [.non]) upd_same (by simp only [List.length_cons, List.length_nil]; omega) (by omega) fun p6 hp6 => ?_
  rw [rep_one]
  refine k_cat ((same_new hp6).get ((same_new hp5).get e4)) upd_same (by rw [List.length_append, List.length_replicate, List.length_map, List.length_replicate]; omega) fun p7 hp7 => ?_
  rw [nodesFrom_start hle]
  have hp7' : H p7 = none := (s4.trans ((same_new hp5).trans (same_new hp6))).gone _ hp7
  have s7 := s4.trans ((same_new (o := .lst [.non]) hp5).trans ((same_new (o := .lst (List.replicate (2 ^ h - ns.length) V.non)) hp6).trans (same_new (o := .lst (nodesFrom ns h (2 ^ h))) hp7)))
  have e7 := upd_same (H := upd (upd H4 p5 (.lst [.non])) p6 (.lst (List.replicate (2 ^ h - ns.length) V.non))) (a := p7) (o := .lst (nodesFrom ns h (2 ^ h)))
  generalize upd (upd (upd H4 p5 (.lst [.non])) p6 (.lst (List.replicate (2 ^ h - ns.length) V.non))) p7 (.lst (nodesFrom ns h (2 ^ h))) = H7 at s7 e7 ⊢
  walk_at "st"
  refine m_rng3e (RgC.neg (by omega) (by omega) (by decide) (by decide)) ?_
  rw [show (((2 ^ h : Nat) : Int) - 1 - 0).toNat = 2 ^ h - 1 by omega]
  refine loop_walk walk_rangeC (fun i σ H' => ∃ z, σ = [some (.ref a), some (.int ((2 ^ h : Nat) : Int)), some (.ref p7), z] ∧ i ≤ 2 ^ h - 1 ∧ Same H H' ∧ H' p7 = some (.lst (nodesFrom ns h (2 ^ h - i)))) ⟨none, rfl, Nat.zero_le _, s7, e7⟩ (fun _ _ _ _ => trivial) ?_ ?_
  · rintro i x σ H' H'' hi ⟨z, rfl, hi2, s, e⟩ ⟨rfl, ex⟩
    obtain ⟨k, hk1, hk2, hk3⟩ : ∃ k : Nat, 1 ≤ k ∧ k < 2 ^ h ∧ k = 2 ^ h - 1 - i := ⟨2 ^ h - 1 - i, by omega, by omega, rfl⟩
    obtain rfl : x = .int (k : Int) := by rw [ex]; show V.int _ = V.int _; congr 1; omega
    rw [show 2 ^ h - i = k + 1 by omega] at e
    walk_at "st"
    refine k_ixL (.of e) (at_int (x := NV (bear ns h (2 * k))) (by omega) (by rw [show ((2 : Int) * (k : Int)).toNat = 2 * k by omega, nodesFrom_get (by omega), if_pos (by omega)])) ?_
    walk_at "st"
    refine k_ixL (.of e) (at_int (x := NV (bear ns h (2 * k + 1))) (by omega) (by rw [show ((2 : Int) * (k : Int) + 1).toNat = 2 * k + 1 by omega, nodesFrom_get (by omega), if_pos (by omega)])) ?_
    walk_at "st"
    refine ⟨_, _, rfl, ?_⟩
    walk_at "st"
    refine m_setL e (ixN_nat (by omega) (by rw [nodesFrom_len]; omega)) ?_
    refine ⟨_, rfl, by omega, Same.mut s hp7', ?_⟩
    rw [upd_same, Int.toNat_natCast, nodesFrom_step hk1 hk2, show 2 ^ h - (i + 1) = k by omega]
  · rintro σ H' ⟨z, rfl, _, s, e⟩
    walk_at "st"
    rw [show 2 ^ h - (2 ^ h - 1) = 1 by omega, nodesFrom_one] at e
    exact q2 p7 H' hp7' s e

/-- low_in(b, u) -/
def sp_low_in (_ : PySem.W.Frag) : Sp := fun vs H Q _ => ∃ (b : Int) (u : Nat), vs = [.int b, .int (u : Int)] ∧ u ≤ 1000 ∧ Q (.int (lowIn b u)) H
theorem len_low_in (K : PySem.W.Frag) : ∀ vs H Q E, sp_low_in K vs H Q E → vs.length = 2 := by
  rintro vs H Q E ⟨x, y, rfl, _⟩; rfl
def t_low_in (K : PySem.W.Frag) : TS :=
  (tSeq (tAsg (tC (.int 0)) (gName 2))
  (tSeq (tAsg (tC (.int 1)) (gName 3))
  (tSeq (tFor (iRng1 (tCons (tVar 1) tNil)) (gName 4)
  (tSeq (tAug 2 (tOp rMinus (tOp rTimes (tC (.int 2)) (tOp rAnd1 (tOp rShr (tVar 0) (tVar 4)) (tC (.int 1)))) (tC (.int 1))) (ipI fun i j => i + j))
  (tAsg (tCB rMin2 (tCons (tVar 3) (tCons (tVar 2) tNil))) (gName 3))))
  (tRet (tVar 3)))))
abbrev n_low_in : List Str := ["block", "upto", "net", "least", "k"]

theorem rd_low_in (K : PySem.W.Frag) (vs : List V) (H : Hp) (Q : VK) (E : XK) (h : sp_low_in K vs H Q E) : t_low_in K { nx := fun _ H' => Q .non H', rt := Q } (start n_low_in vs) H := by
  obtain ⟨b, u, rfl, hu, q⟩ := h
  unfold t_low_in
  walk_at "st"
  refine loop_range0 (fun i σ H' => ∃ y, σ = [some (.int b), some (.int (u : Int)), some (.int (net b i)), some (.int (lowIn b i)), y] ∧ H' = H) ⟨none, rfl, rfl⟩ ?_ ?_
  · rintro i σ H' hi ⟨y, rfl, rfl⟩
    walk_at "st"
    refine ⟨some (.int (i : Int)), ?_, rfl⟩
    have e : net b i + (2 * (b / 2 ^ i % 2) - 1) = net b (i + 1) := (net_succ b i).symm
    rw [show b / 2 ^ (i : Int).toNat % 2 = b / 2 ^ i % 2 from rfl, e]; rfl
  · rintro σ H' ⟨y, rfl, rfl⟩
    walk_at "st"
    exact q

/-- the lowest heights of the blocks -/
def lowOf (bs : List Int) (j : Nat) : Int := hgt bs (32 * j) + lowIn ((blks bs).getD j 0) (min 32 (bs.length - 32 * j))
def lowsOf (bs : List Int) : List Int := (List.range ((bs.length + 31) / 32)).map (lowOf bs)
theorem lowsOf_len (bs : List Int) : (lowsOf bs).length = (bs.length + 31) / 32 := by unfold lowsOf; simp
theorem lowsOf_get (bs : List Int) {j : Nat} (h : j < (bs.length + 31) / 32) : (lowsOf bs)[j]? = some (lowOf bs j) := by unfold lowsOf; simp [h]
theorem lowOf_is {bs : List Int} (h : Bits bs) {j : Nat} (hj : j < (bs.length + 31) / 32) : (∃ k, 32 * j < k ∧ k ≤ 32 * j + 32 ∧ k ≤ bs.length ∧ lowOf bs j = hgt bs k) ∧ ∀ k, 32 * j < k → k ≤ 32 * j + 32 → k ≤ bs.length → lowOf bs j ≤ hgt bs k := by
  have e : (blks bs)[j]? = some ((blks bs).getD j 0) := by
    rw [List.getD_eq_getElem?_getD, List.getElem?_eq_getElem (by rw [blks_len]; exact hj)]; rfl
  have hu : 1 ≤ min 32 (bs.length - 32 * j) := by omega
  refine ⟨?_, fun k k1 k2 k3 => ?_⟩
  · obtain ⟨k, h1, h2, h3⟩ := lowIn_mem ((blks bs).getD j 0) _ hu
    rw [net_blks h e k (by omega)] at h3
    exact ⟨32 * j + k, by omega, by omega, by omega, by unfold lowOf; omega⟩
  · have := lowIn_le ((blks bs).getD j 0) (min 32 (bs.length - 32 * j)) (k - 32 * j) (by omega) (by omega)
    rw [net_blks h e (k - 32 * j) (by omega), show 32 * j + (k - 32 * j) = k by omega] at this
    unfold lowOf; omega

/-- begin_height(ahead, number) -/
def sp_begin_height (K : PySem.W.Frag) : Sp := fun vs H Q _ => ∃ (pa : Addr) (bs : List Int) (j : Nat), vs = [.ref pa, .int (j : Int)] ∧ SqT K H pa ((aheadT bs).map V.int) ∧ j ≤ (bs.length + 31) / 32 ∧ Q (.int (hgt bs (32 * j))) H
theorem len_begin_height (K : PySem.W.Frag) : ∀ vs H Q E, sp_begin_height K vs H Q E → vs.length = 2 := by
  rintro vs H Q E ⟨x, y, z, rfl, _⟩; rfl
def t_begin_height (K : PySem.W.Frag) : TS :=
  (tRet (tOp rMinus (tOp rTimes (tC (.int 2)) (tOp (rIxT K) (tVar 0) (tVar 1))) (tOp rTimes (tC (.int 32)) (tVar 1))))
abbrev n_begin_height : List Str := ["ahead", "number"]

theorem rd_begin_height (K : PySem.W.Frag) (vs : List V) (H : Hp) (Q : VK) (E : XK) (h : sp_begin_height K vs H Q E) : t_begin_height K { nx := fun _ H' => Q .non H', rt := Q } (start n_begin_height vs) H := by
  obtain ⟨pa, bs, j, rfl, hS, hj, q⟩ := h
  unfold t_begin_height
  walk_at "st"
  refine k_ixT hS (at_nat (mapint (aheadT_get bs hj))) ?_
  walk_at "st"
  rw [show (2 : Int) * sumTo bs (32 * j) - 32 * (j : Int) = hgt bs (32 * j) by unfold hgt; push_cast; rfl]
  exact q
/-- kept_brackets(bits) -/
def sp_kept_brackets (K : PySem.W.Frag) : Sp := fun vs H Q E => ∃ (a : Addr) (bs : List Int), vs = [.ref a] ∧ SqL K H a (bs.map V.int) ∧ bs.length ≤ 100000 ∧
  (bs.length > 4096 → E (.ref (He.ga K "TooMany")) none H) ∧
  (bs.length ≤ 4096 → ¬ Bits bs → ∀ H', Same H H' → E (.ref (He.ga K "NoBit")) none H') ∧
  (bs.length ≤ 4096 → Bits bs → ¬ IsTree bs → ∀ H', Same H H' → E (.ref (He.ga K "NoTree")) none H') ∧
  (bs.length ≤ 4096 → Bits bs → IsTree bs → ∀ p t pa ph pb H', H p = none → H pb = none → Same H H' → H' p = some (.tup [.ref t, .ref pb]) → H' t = some (.tup [.int (bs.length : Int), .ref pa, .ref ph]) → H' pa = some (.tup ((aheadT bs).map V.int)) → H' ph = some (.tup (heapL (lowsOf bs))) → H' pb = some (.lst ((blks bs).map V.int)) → Q (.ref p) H')
theorem len_kept_brackets (K : PySem.W.Frag) : ∀ vs H Q E, sp_kept_brackets K vs H Q E → vs.length = 1 := by
  rintro vs H Q E ⟨a, bs, rfl, _⟩; rfl
def t_kept_brackets (K : PySem.W.Frag) (E : XK) : TS :=
  (tSeq (tAsg (tCall (sp_kept_row K) [] E (tCons (tVar 0) tNil)) (gTup K 2 (gCons (gName 1) (gCons (gName 2) gNil))))
  (tSeq (tIfS (tNot (tB (tCall (sp_is_tree K) [] E0 (tCons (tVar 0) tNil))))
  (tRz (fun cls d _ H => E cls d H) (He.ga K "NoTree"))
  tNext)
  (tSeq (tAsg (tVar 1) (gTup K 2 (gCons (gName 3) (gCons (gName 4) gNil))))
  (tSeq (tAsg (tLst tNil) (gName 5))
  (tSeq (tFor (iEnum K (tCons (tVar 2) tNil)) (gTup K 2 (gCons (gName 6) (gCons (gName 7) gNil)))
  (tDrop (tBM K "list" rAppend (tVar 5) (tCons (tOp rPlus (tCall (sp_begin_height K) [] E0 (tCons (tVar 4) (tCons (tVar 6) tNil))) (tCall (sp_low_in K) [] E0 (tCons (tVar 7) (tCons (tCB rMin2 (tCons (tC (.int 32)) (tCons (tOp rMinus (tVar 3) (tOp rTimes (tC (.int 32)) (tVar 6))) tNil))) tNil)))) tNil))))
  (tRet (tTup (tCons (tTup (tCons (tVar 3) (tCons (tVar 4) (tCons (tCB (rTupOf K) (tCons (tCall (sp_heap_of K) [] E (tCons (tVar 5) tNil)) tNil)) tNil)))) (tCons (tVar 2) tNil)))))))))
abbrev n_kept_brackets : List Str := ["bits", "tables", "blocks", "many", "ahead", "lows", "number", "block"]

theorem rd_kept_brackets (K : PySem.W.Frag) (vs : List V) (H : Hp) (Q : VK) (E : XK) (h : sp_kept_brackets K vs H Q E) : t_kept_brackets K E { nx := fun _ H' => Q .non H', rt := Q } (start n_kept_brackets vs) H := by
  obtain ⟨a, bs, rfl, hS, hl, q1, q2, q3, q4⟩ := h
  unfold t_kept_brackets
  walk_at "st"
  refine ⟨a, bs, rfl, hS, hl, q1, q2, fun hm hB p t pa pb H1 hp ht hpa hpb s1 ep et ea eb => ?_⟩
  walk_at "st"
  refine m_gTup (.of ep) rfl ?_
  walk_at "st"
  refine ⟨a, bs, rfl, s1.seq hS, by omega, fun b H2 hb s2 => ?_⟩
  have s12 := s1.trans s2
  cases b with
  | false =>
    walk_at "st"
    exact q3 hm hB (fun z => Bool.noConfusion (hb.mpr z)) _ s12
  | true =>
  have hI := hb.mp rfl
  walk_at "st"
  refine m_gTup (.of (s2.get et)) rfl ?_
  walk_at "st"
  intro pl hpl
  have s3 := same_new (o := .lst []) hpl
  have e3 := upd_same (H := H2) (a := pl) (o := .lst [])
  generalize upd H2 pl (.lst []) = H3 at s3 e3 ⊢
  have s23 := s2.trans s3
  have s03 := s1.trans s23
  have hplH : H pl = none := s12.gone _ hpl
  have hpl1 : H1 pl = none := s2.gone _ hpl
  walk_at "st"
  refine m_enumE (.of (s23.get eb)) ?_
  have hbl := blks_len bs
  refine loop_walk walk_enum (fun i σ H' => ∃ y z, σ = [some (.ref a), some (.ref t), some (.ref pb), some (.int (bs.length : Int)), some (.ref pa), some (.ref pl), y, z] ∧ i ≤ (bs.length + 31) / 32 ∧ Same H1 H' ∧ H' pl = some (.lst (((List.range i).map (lowOf bs)).map V.int))) ⟨none, none, rfl, Nat.zero_le _, s23, e3⟩ (fun i σ H' ⟨y, z, _, _, s, _⟩ => .of (s.get eb)) ?_ ?_
  · rintro i v σ H4 H5 hi ⟨y, z, rfl, _, s, e⟩ ⟨T, x, w, rfl, hT, rfl, ex, ew⟩
    rw [List.length_map, hbl] at hi
    obtain ⟨b, hbi, rfl⟩ := of_mapint ew
    obtain rfl : x = .int (i : Nat) := (Option.some.inj ex).symm
    have sT := same_new (o := .tup [.int (i : Nat), .int b]) hT
    refine m_gTup (.of upd_same) rfl ?_
    generalize upd H4 T (.tup [.int (i : Nat), .int b]) = H6 at sT ⊢
    have s6 := s.trans sT
    walk_at "st"
    refine k_tyL (.of (sT.get e)) ?_
    walk_at "st"
    refine ⟨pa, bs, i, rfl, .of (s6.get ea), by omega, ?_⟩
    walk_at "st"
    have hu : (if (bs.length : Int) - 32 * (i : Int) < 32 then (bs.length : Int) - 32 * (i : Int) else 32) = ((min 32 (bs.length - 32 * i) : Nat) : Int) := by
      split <;> omega
    rw [hu]
    refine ⟨b, min 32 (bs.length - 32 * i), rfl, by omega, ?_⟩
    walk_at "st"
    refine k_app (sT.get e) (by rw [List.length_map, List.length_map, List.length_range]; omega) ?_
    walk_at "st"
    refine ⟨some (.int (i : Nat)), some (.int b), rfl, by omega, Same.mut s6 hpl1 ⟨_, sT.get e⟩, ?_⟩
    have elo : hgt bs (32 * i) + lowIn b (min 32 (bs.length - 32 * i)) = lowOf bs i := by
      unfold lowOf
      rw [List.getD_eq_getElem?_getD, hbi]; rfl
    rw [upd_same, elo, List.range_succ, List.map_append, List.map_append]; rfl
  rintro σ H4 ⟨y, z, rfl, _, s, e⟩
  rw [List.length_map, hbl] at e
  have e : H4 pl = some (.lst ((lowsOf bs).map V.int)) := e
  have hll := lowsOf_len bs
  walk_at "st"
  refine ⟨pl, lowsOf bs, rfl, .of e, by omega, fun z => by omega, fun _ ph0 H5 hph0 s5 e5 => ?_⟩
  walk_at "st"
  refine k_tupL (.of e5) fun ph hph => ?_
  have s6 := same_new (o := .tup (heapL (lowsOf bs))) hph
  have e6 := upd_same (H := H5) (a := ph) (o := .tup (heapL (lowsOf bs)))
  generalize upd H5 ph (.tup (heapL (lowsOf bs))) = H6 at s6 e6 ⊢
  walk_at "st"
  intro t2 ht2
  have s7 := same_new (o := .tup [.int (bs.length : Int), .ref pa, .ref ph]) ht2
  have e7 := upd_same (H := H6) (a := t2) (o := .tup [.int (bs.length : Int), .ref pa, .ref ph])
  generalize upd H6 t2 (.tup [.int (bs.length : Int), .ref pa, .ref ph]) = H7 at s7 e7 ⊢
  walk_at "st"
  intro p2 hp2
  have s8 := same_new (o := .tup [.ref t2, .ref pb]) hp2
  have s18 := s.trans ((s5.trans s6).trans s7)
  exact q4 hm hB hI p2 t2 pa ph pb _ ((s1.trans s18).gone _ hp2) hpb ((s1.trans s18).trans s8) upd_same (s8.get e7) (s8.get (s18.get ea)) (s8.get (s7.get e6)) (s8.get (s18.get eb))

/-- _law_tree_bits(script) -/
def sp_law_tree_bits (K : PySem.W.Frag) : Sp := fun vs H Q _ => ∃ (a : Addr) (ns : List Int), vs = [.ref a] ∧ SqL K H a (ns.map V.int) ∧ ∀ (bs : List Int) p H', IsTree bs → Bits bs → bs.length ≤ 1055 → H p = none → Same H H' → H' p = some (.lst (bs.map V.int)) → Q (.ref p) H'
theorem len_law_tree_bits (K : PySem.W.Frag) : ∀ vs H Q E, sp_law_tree_bits K vs H Q E → vs.length = 1 := by
  rintro vs H Q E ⟨a, ns, rfl, _⟩; rfl
def t_law_tree_bits (K : PySem.W.Frag) : TS :=
  (tSeq (tAsg (tLst (tCons (tC (.int 1)) tNil)) (gName 1))
  (tSeq (tAsg (tC (.int 1)) (gName 2))
  (tSeq (tFor (iList K (tSl (rSlL K) (tVar 0) tNoPart (tPart (tC (.int 63))))) (gName 3)
  (tSeq (tAsg (tOp rDiv (tVar 3) (tC (.int 4))) (gName 4))
  (tSeq (tAsg (tOp rMod (tVar 4) (tC (.int 6))) (gName 5))
  (tSeq (tAsg (tOp rMod (tOp rDiv (tVar 4) (tC (.int 6))) (tC (.int 4))) (gName 6))
  (tSeq (tAsg (tOp rMod (tOp rDiv (tVar 4) (tC (.int 24))) (tC (.int 9))) (gName 7))
  (Evl.tCut (tIfS (tTest (tOp rEq (tOp rMod (tVar 3) (tC (.int 4))) (tC (.int 2))))
  (tAsg (tC (.int 900)) (gName 7))
  tNext)
  (Evl.tCut (tIfS (tTest (tOp rEq (tOp rMod (tVar 3) (tC (.int 4))) (tC (.int 3))))
  (tSeq (tAsg (tOp rMod (tVar 4) (tC (.int 50))) (gName 5))
  (tSeq (tAsg (tOp rMod (tOp rDiv (tVar 4) (tC (.int 50))) (tC (.int 30))) (gName 6))
  (tAsg (tOp rMod (tOp rDiv (tVar 4) (tC (.int 1500))) (tC (.int 60))) (gName 7))))
  tNext)
  (tSeq (tAsg (tCB rMin2 (tCons (tVar 7) (tCons (tOp rMinus (tOp rPlus (tVar 2) (tVar 5)) (tC (.int 1))) tNil))) (gName 7))
  (tIfS (tTest (tOp rLt (tOp rPlus (tCB (rLen K) (tCons (tVar 1) tNil)) (tVar 2)) (tC (.int 900))))
  (tSeq (tDrop (tBM K "list" rExtend (tVar 1) (tCons (tOp rCat (tOp rCat (tOp rRep (tLst (tCons (tC (.int 1)) tNil)) (tVar 5)) (tOp rRep (tLst (tCons (tC (.int 1)) (tCons (tC (.int 0)) tNil))) (tVar 6))) (tOp rRep (tLst (tCons (tC (.int 0)) tNil)) (tVar 7))) tNil)))
  (tAsg (tOp rMinus (tOp rPlus (tVar 2) (tVar 5)) (tVar 7)) (gName 2)))
  tNext)))))))))
  (tRet (tOp rCat (tVar 1) (tOp rRep (tLst (tCons (tC (.int 0)) tNil)) (tVar 2)))))))
abbrev n_law_tree_bits : List Str := ["_law_script", "_law_bits", "_law_high", "_law_cell", "_law_rest", "_law_ups", "_law_flat", "_law_downs"]

theorem rd_law_tree_bits (K : PySem.W.Frag) (vs : List V) (H : Hp) (Q : VK) (E : XK) (h : sp_law_tree_bits K vs H Q E) : t_law_tree_bits K { nx := fun _ H' => Q .non H', rt := Q } (start n_law_tree_bits vs) H := by
  obtain ⟨a, ns, rfl, hS, q⟩ := h
  unfold t_law_tree_bits
  walk_at "st"
  intro p hp
  have s0 := same_new (o := .lst [.int 1]) hp
  have e0 := upd_same (H := H) (a := p) (o := .lst [.int 1])
  generalize upd H p (.lst [.int 1]) = H1 at s0 e0 ⊢
  walk_at "st"
  refine k_slL (s0.seq hS) fun p2 hp2 => ?_
  rw [show cutV (ns.map V.int) none (some 63) = (ns.take 63).map V.int by rw [show (63 : Int) = ((63 : Nat) : Int) from rfl, cutTake, List.map_take]]
  have s2 := same_new (o := .lst ((ns.take 63).map V.int)) hp2
  have e2 := upd_same (H := H1) (a := p2) (o := .lst ((ns.take 63).map V.int))
  have np : p2 ≠ p := Ne.symm (ne_of_none e0 hp2)
  generalize upd H1 p2 (.lst ((ns.take 63).map V.int)) = H2 at s2 e2 ⊢
  have s02 := s0.trans s2
  walk_at "st"
  refine m_iLe (.of e2) ?_
  refine loop_ints (ns := ns.take 63) (fun i σ' H' => ∃ (v3 v4 v5 v6 v7 : Option V) (bs : List Int) (hi : Int), Same H H' ∧ H' p2 = some (.lst ((ns.take 63).map V.int)) ∧ H' p = some (.lst (bs.map V.int)) ∧ Up 0 bs hi ∧ 1 ≤ hi ∧ (bs.length : Int) + hi ≤ 1055 ∧ σ' = [some (.ref a), some (.ref p), some (.int hi), v3, v4, v5, v6, v7]) ⟨none, none, none, none, none, [1], 1, s02, e2, s2.get e0, ⟨.inr rfl, by omega, rfl⟩, by omega, by simp, rfl⟩ (fun i σ' H' ⟨_, _, _, _, _, _, _, _, e, _⟩ => .of e) (fun i n σ' H' hn ⟨v3, v4, v5, v6, v7, bs, hi, s, e3, e, hu, h1, hl, es⟩ => ?_) (fun σ' H' ⟨v3, v4, v5, v6, v7, bs, hi, s, e3, e, hu, h1, hl, es⟩ => ?_)
  · subst es
    walk_at "st"
    refine m_cut (fun σ' H'' => H' = H'' ∧ ∃ d : Int, 0 ≤ d ∧ σ' = [some (.ref a), some (.ref p), some (.int hi), some (.int n), some (.int (n / 4)), some (.int (n / 4 % 6)), some (.int (n / 4 / 6 % 4)), some (.int d)]) ?_ ?_
    · walk_at "st"
      walk_at "if" <;> intro _
      · walk_at "st"
        exact ⟨rfl, _, by decide, rfl⟩
      · walk_at "st"
        exact ⟨rfl, _, by omega, rfl⟩
    rintro σ' H'' ⟨rfl, d0, hd0, rfl⟩
    refine m_cut (fun σ' H'' => H' = H'' ∧ ∃ u f d : Int, 0 ≤ u ∧ u ≤ 49 ∧ 0 ≤ f ∧ f ≤ 29 ∧ 0 ≤ d ∧ σ' = [some (.ref a), some (.ref p), some (.int hi), some (.int n), some (.int (n / 4)), some (.int u), some (.int f), some (.int d)]) ?_ ?_
    · walk_at "st"
      walk_at "if" <;> intro _
      · walk_at "st"
        exact ⟨rfl, _, _, _, by omega, by omega, by omega, by omega, by omega, rfl⟩
      · walk_at "st"
        exact ⟨rfl, _, _, _, by omega, by omega, by omega, by omega, hd0, rfl⟩
    rintro σ' H'' ⟨rfl, u, f, d1, hu0, hu1, hf0, hf1, hd1, rfl⟩
    walk_at "st"
    obtain ⟨d, ed, hd2, hd3⟩ : ∃ d : Int, (if hi + u - 1 < d1 then hi + u - 1 else d1) = d ∧ 0 ≤ d ∧ d ≤ hi + u - 1 := ⟨_, rfl, by split <;> omega, by split <;> omega⟩
    rw [ed]
    refine k_lenL (.of e) ?_
    walk_at "st"
    rw [List.length_map]
    walk_at "if" <;> intro c
    · walk_at "st"
      refine k_tyL (.of e) ?_
      walk_at "st"
      intro p3 hp3
      have s3 := same_new (o := .lst [.int 1]) hp3
      have e30 := upd_same (H := H') (a := p3) (o := .lst [.int 1])
      generalize upd H' p3 (.lst [.int 1]) = H3 at s3 e30 ⊢
      walk_at "st"
      rw [show u = ((u.toNat : Nat) : Int) by omega]
      refine k_rep (xs := [.int 1]) e30 (by simp only [List.length_cons, List.length_nil]; omega) (by omega) fun p4 hp4 => ?_
      rw [rep_one]
      have s4 := same_new (o := .lst (List.replicate u.toNat (V.int 1))) hp4
      have e4 := upd_same (H := H3) (a := p4) (o := .lst (List.replicate u.toNat (V.int 1)))
      generalize upd H3 p4 (.lst (List.replicate u.toNat (V.int 1))) = H4 at s4 e4 ⊢
      walk_at "st"
      intro p5 hp5
      have s5 := same_new (o := .lst [.int 1, .int 0]) hp5
      have e50 := upd_same (H := H4) (a := p5) (o := .lst [.int 1, .int 0])
      generalize upd H4 p5 (.lst [.int 1, .int 0]) = H5 at s5 e50 ⊢
      walk_at "st"
      rw [show f = ((f.toNat : Nat) : Int) by omega]
      refine k_rep (xs := [.int 1, .int 0]) e50 (by simp only [List.length_cons, List.length_nil]; omega) (by omega) fun p6 hp6 => ?_
      have er : (List.replicate f.toNat [V.int 1, V.int 0]).flatten = (List.replicate f.toNat ([1, 0] : List Int)).flatten.map V.int := by
        rw [List.map_flatten, List.map_replicate]; rfl
      have erl : (List.replicate f.toNat ([1, 0] : List Int)).flatten.length = f.toNat * 2 := by
        rw [List.length_flatten, List.map_replicate, List.sum_replicate_nat]; rfl
      rw [er]
      have s6 := same_new (o := .lst ((List.replicate f.toNat ([1, 0] : List Int)).flatten.map V.int)) hp6
      have e6 := upd_same (H := H5) (a := p6) (o := .lst ((List.replicate f.toNat ([1, 0] : List Int)).flatten.map V.int))
      generalize upd H5 p6 (.lst ((List.replicate f.toNat ([1, 0] : List Int)).flatten.map V.int)) = H6 at s6 e6 ⊢
      refine k_cat ((s5.trans s6).get e4) e6 (by rw [List.length_replicate, List.length_map, erl]; omega) fun p7 hp7 => ?_
      have s7 := same_new (o := .lst (List.replicate u.toNat (V.int 1) ++ (List.replicate f.toNat ([1, 0] : List Int)).flatten.map V.int)) hp7
      have e7 := upd_same (H := H6) (a := p7) (o := .lst (List.replicate u.toNat (V.int 1) ++ (List.replicate f.toNat ([1, 0] : List Int)).flatten.map V.int))
      generalize upd H6 p7 (.lst (List.replicate u.toNat (V.int 1) ++ (List.replicate f.toNat ([1, 0] : List Int)).flatten.map V.int)) = H7 at s7 e7 ⊢
      walk_at "st"
      intro p8 hp8
      have s8 := same_new (o := .lst [.int 0]) hp8
      have e80 := upd_same (H := H7) (a := p8) (o := .lst [.int 0])
      generalize upd H7 p8 (.lst [.int 0]) = H8 at s8 e80 ⊢
      walk_at "st"
      rw [show d = ((d.toNat : Nat) : Int) by omega]
      refine k_rep (xs := [.int 0]) e80 (by simp only [List.length_cons, List.length_nil]; omega) (by omega) fun p9 hp9 => ?_
      rw [rep_one]
      have s9 := same_new (o := .lst (List.replicate d.toNat (V.int 0))) hp9
      have e9 := upd_same (H := H8) (a := p9) (o := .lst (List.replicate d.toNat (V.int 0)))
      generalize upd H8 p9 (.lst (List.replicate d.toNat (V.int 0))) = H9 at s9 e9 ⊢
      refine k_cat ((s8.trans s9).get e7) e9 (by rw [List.length_append, List.length_replicate, List.length_map, erl, List.length_replicate]; omega) fun p10 hp10 => ?_
      have ecat : List.replicate u.toNat (V.int 1) ++ (List.replicate f.toNat ([1, 0] : List Int)).flatten.map V.int ++ List.replicate d.toNat (V.int 0) = (List.replicate u.toNat 1 ++ (List.replicate f.toNat ([1, 0] : List Int)).flatten ++ List.replicate d.toNat 0).map V.int := by
        simp only [List.map_append, List.map_replicate]
      rw [ecat]
      have hup : Up 0 (bs ++ (List.replicate u.toNat 1 ++ (List.replicate f.toNat ([1, 0] : List Int)).flatten ++ List.replicate d.toNat 0)) (hi + u - d) := by
        have h3 := up_noughts d.toNat (h := hi + u) (by omega)
        have h2 := (up_ones u.toNat (h := hi) (by omega)).app (up_flat f.toNat (h := hi + u.toNat) (by omega))
        rw [show hi + (u.toNat : Int) = hi + u by omega] at h2
        rw [show hi + u - (d.toNat : Int) = hi + u - d by omega] at h3
        exact hu.app (h2.app h3)
      have hlen : (List.replicate u.toNat (1 : Int) ++ (List.replicate f.toNat ([1, 0] : List Int)).flatten ++ List.replicate d.toNat 0).length = u.toNat + f.toNat * 2 + d.toNat := by
        rw [List.length_append, List.length_append, erl, List.length_replicate, List.length_replicate]
      generalize List.replicate u.toNat (1 : Int) ++ (List.replicate f.toNat ([1, 0] : List Int)).flatten ++ List.replicate d.toNat 0 = cs at hup hlen ⊢
      have s10 := ((s3.trans s4).trans ((s5.trans s6).trans s7)).trans ((s8.trans s9).trans (same_new (o := .lst (cs.map V.int)) hp10))
      have e10 := upd_same (H := H9) (a := p10) (o := .lst (cs.map V.int))
      generalize upd H9 p10 (.lst (cs.map V.int)) = H10 at s10 e10 ⊢
      walk_at "st"
      refine k_extend (s10.get e) e10 (by rw [List.length_map, List.length_map]; omega) ?_
      walk_at "st"
      rw [show hi + u - d = hi + ((u.toNat : Nat) : Int) - ((d.toNat : Nat) : Int) by omega] at hup
      exact ⟨_, _, _, _, _, bs ++ cs, _, Same.mut (s.trans s10) hp ⟨_, s10.get e⟩, by rw [upd_ne np]; exact s10.get e3, by rw [upd_same, List.map_append], hup, by omega, by rw [List.length_append]; omega, rfl⟩
    · walk_at "st"
      exact ⟨_, _, _, _, _, bs, hi, s, e3, e, hu, h1, hl, rfl⟩
  subst es
  walk_at "st"
  intro p3 hp3
  have s3 := same_new (o := .lst [.int 0]) hp3
  have e30 := upd_same (H := H') (a := p3) (o := .lst [.int 0])
  generalize upd H' p3 (.lst [.int 0]) = H3 at s3 e30 ⊢
  walk_at "st"
  rw [show hi = ((hi.toNat : Nat) : Int) by omega]
  refine k_rep (xs := [.int 0]) e30 (by simp only [List.length_cons, List.length_nil]; omega) (by omega) fun p4 hp4 => ?_
  rw [rep_one]
  have s4 := same_new (o := .lst (List.replicate hi.toNat (V.int 0))) hp4
  have e4 := upd_same (H := H3) (a := p4) (o := .lst (List.replicate hi.toNat (V.int 0)))
  generalize upd H3 p4 (.lst (List.replicate hi.toNat (V.int 0))) = H4 at s4 e4 ⊢
  refine k_cat ((s3.trans s4).get e) e4 (by rw [List.length_map, List.length_replicate]; omega) fun p5 hp5 => ?_
  have s34 := (s.trans s3).trans s4
  refine q (bs ++ List.replicate hi.toNat 0) p5 _ (tree_of_up hu h1) (fun x hx => ?_) (by rw [List.length_append, List.length_replicate]; omega) (s34.gone _ hp5) (s34.trans (same_new hp5)) (by rw [upd_same, List.map_append, List.map_replicate])
  rcases List.mem_append.mp hx with z | z
  · exact hu.bits x z
  · exact .inl (List.eq_of_mem_replicate z)

/-- a row's tables at t, a look at its blocks -/
structure RowAt (K : PySem.W.Frag) (CL : CLs) (H : Hp) (t g : Addr) (bs : List Int) (q : Option Addr) (I : List Nat → Hp → Prop) : Prop where
  tab : ∃ pa, SqT K H t [.int (bs.length : Int), .ref pa] ∧ SqT K H pa ((aheadT bs).map V.int)
  look : LookR CL g (blks bs).length (fun k => .int ((blks bs).getD k 0)) q I
  bits : Bits bs
  len : bs.length ≤ 5000
theorem RowAt.moveX {K : PySem.W.Frag} {CL : CLs} {H H' : Hp} {t g : Addr} {bs : List Int} {q : Option Addr} {I : List Nat → Hp → Prop} (r : RowAt K CL H t g bs q I) (s : SameX q H H') : RowAt K CL H' t g bs q I :=
  ⟨let ⟨pa, h1, h2⟩ := r.tab; ⟨pa, s.seqT h1, s.seqT h2⟩, r.look, r.bits, r.len⟩
theorem RowAt.move {K : PySem.W.Frag} {CL : CLs} {H H' : Hp} {t g : Addr} {bs : List Int} {q : Option Addr} {I : List Nat → Hp → Prop} (r : RowAt K CL H t g bs q I) (s : Same H H') : RowAt K CL H' t g bs q I :=
  ⟨let ⟨pa, h1, h2⟩ := r.tab; ⟨pa, s.seqT h1, s.seqT h2⟩, r.look, r.bits, r.len⟩

/-- a tree's tables at t, a look at its blocks -/
structure BrAt (K : PySem.W.Frag) (CL : CLs) (H : Hp) (t g : Addr) (bs : List Int) (q : Option Addr) (I : List Nat → Hp → Prop) : Prop where
  tab : ∃ pa ph, SqT K H t [.int (bs.length : Int), .ref pa, .ref ph] ∧ SqT K H pa ((aheadT bs).map V.int) ∧ SqT K H ph (heapL (lowsOf bs))
  look : LookR CL g (blks bs).length (fun k => .int ((blks bs).getD k 0)) q I
  bits : Bits bs
  tree : IsTree bs
  len : bs.length ≤ 4096
theorem BrAt.moveX {K : PySem.W.Frag} {CL : CLs} {H H' : Hp} {t g : Addr} {bs : List Int} {q : Option Addr} {I : List Nat → Hp → Prop} (r : BrAt K CL H t g bs q I) (s : SameX q H H') : BrAt K CL H' t g bs q I :=
  ⟨let ⟨pa, ph, h1, h2, h3⟩ := r.tab; ⟨pa, ph, s.seqT h1, s.seqT h2, s.seqT h3⟩, r.look, r.bits, r.tree, r.len⟩
theorem BrAt.move {K : PySem.W.Frag} {CL : CLs} {H H' : Hp} {t g : Addr} {bs : List Int} {q : Option Addr} {I : List Nat → Hp → Prop} (r : BrAt K CL H t g bs q I) (s : Same H H') : BrAt K CL H' t g bs q I :=
  ⟨let ⟨pa, ph, h1, h2, h3⟩ := r.tab; ⟨pa, ph, s.seqT h1, s.seqT h2, s.seqT h3⟩, r.look, r.bits, r.tree, r.len⟩

/-- node_look(tables) -/
def sp_node_look_lam (K : PySem.W.Frag) (_ : CLs) (_ : Nat) (ws vs : List V) (H : Hp) (Q : VK) : Prop := ∃ (p : Addr) (xs : List V) (i : Int) (x : V), ws = [.ref p] ∧ vs = [.int i] ∧ SqT K H p xs ∧ atI xs i = some x ∧ Q x H
theorem len_node_look_lam (K : PySem.W.Frag) (CL : CLs) (j : Nat) : ∀ ws vs H Q, sp_node_look_lam K CL j ws vs H Q → vs.length = 1 := by
  rintro ws vs H Q ⟨p, xs, i, x, rfl, rfl, _⟩; rfl
def sp_node_look (K : PySem.W.Frag) (CL : CLs) : Sp := fun vs H Q _ => ∃ (t pn : Addr) (x y : V) (r xs : List V), vs = [.ref t] ∧ SqT K H t (x :: y :: .ref pn :: r) ∧ SqT K H pn xs ∧ NdefX.TabN H (tabP K "node_look") nmL ∧ ∀ g H', H g = none → Same H H' → PureLook CL 1 g xs H' → Q (.ref g) H'
theorem len_node_look (K : PySem.W.Frag) (CL : CLs) : ∀ vs H Q E, sp_node_look K CL vs H Q E → vs.length = 1 := by
  rintro vs H Q E ⟨a, _, _, _, _, xs, rfl, _⟩; rfl
def t_node_look_lam (K : PySem.W.Frag) (CL : CLs) (j : Nat) : TE :=
  (tOp (rIxT K) (tVar 1) (tVar 0))
abbrev n_node_look_lam : List Str := ["number", "nodes"]
def tp_node_look (K : PySem.W.Frag) (P : Addr) (b : Expr) (mk : Addr → NdefX.NF) : TS :=
  (tAsg (tOp (rIxT K) (tVar 0) (tC (.int 2))) (gName 1))
def te_node_look (K : PySem.W.Frag) (P : Addr) (b : Expr) (mk : Addr → NdefX.NF) : TE :=
  (tLamC P b mk)
def t_node_look (K : PySem.W.Frag) (P : Addr) (b : Expr) (mk : Addr → NdefX.NF) (G : V → L2.St → Hp → Prop) : L2.St → Hp → Prop := tp_node_look K P b mk (Ends.mk (fun σ' H' => te_node_look K P b mk σ' H' fun v H'' => G v σ' H'') (fun _ _ => False) (fun _ _ => False) (fun _ _ => False))
abbrev n_node_look : List Str := ["tables", "nodes"]

theorem rd_node_look_lam (K : PySem.W.Frag) (CL : CLs) (j : Nat) (vs ws : List V) (H : Hp) (Q : VK) (h : sp_node_look_lam K CL j ws vs H Q) : t_node_look_lam K CL j (NdefX.startF n_node_look_lam vs (ws.map some)) H Q := by
  obtain ⟨p, xs, i, x, rfl, rfl, e, hx, q⟩ := h
  unfold t_node_look_lam
  walk_at "st"
  exact k_ixT e hx q
theorem lamO_ne {b : Expr} {f : Addr} {F : NdefX.NF} : ∀ ps, LamO b f F ≠ .tbl ps := fun ps z => by unfold LamO at z; cases z
theorem rd_node_look (K : PySem.W.Frag) (CL : CLs) (P : Addr) (hP : P = tabP K "node_look") (b : Expr) (mk : Addr → NdefX.NF) (vs : List V) (H : Hp) (Q : VK) (E : XK) (h : sp_node_look K CL vs H Q E) (G : V → L2.St → Hp → Prop)
(hG : ∀ v σ' H'', (∀ C dC H', Upg CL 0 (LamO b) mk [1] (sp_node_look_lam K CL) C dC σ' H'' H' → Q v H') → G v σ' H'')
    : t_node_look K P b mk G (start n_node_look vs) H := by
  subst hP
  obtain ⟨t, pn, x, y, r, xs, rfl, hT, hN, hTb, q⟩ := h
  unfold t_node_look tp_node_look te_node_look
  walk_at "st"
  refine k_ixT hT (at_int (by decide) rfl) ?_
  walk_at "st"
  refine m_lamC hTb fun f c' H1 s1 f0 f1 c1 => ?_
  refine hG _ _ _ fun C dC H' u => ?_
  have e1 : SqT K H1 pn xs := s1.seqT hN
  refine q f H' f0 (s1.trans u.up) fun H3 s3 => ⟨?_, fun i x Q3 hx q3 => ?_⟩
  · exact (isFn_lam (u.up.keep _ _ f1 lamO_ne)).ext s3
  · have hx3 : ∀ b φ, H' b = some (.ext φ) → H3 b = some (.ext φ) := fun b φ e => s3 b _ e fun _ z => nomatch z
    have e3 : SqT K (hide C H3) pn xs := by
      rcases e1 with (z | ⟨o, z⟩) | z
      · exact .inl (.inl ((hide_out (upg_out u z)).trans (s3 pn _ (u.up.get z) fun _ z => nomatch z)))
      · exact .inl (.inr ⟨o, (hide_out (upg_out u z)).trans (s3 pn _ (u.up.get z) fun _ z => nomatch z)⟩)
      · exact .inr z
    refine u.law f c' f1 c1 [.ref pn] rfl 0 H3 _ Q3 hx3 ⟨pn, xs, i, x, rfl, rfl, e3, at_nat hx, ?_⟩
    show Q3 x (unhide C H3 (hide C H3))
    rw [unhide_hide]
    exact q3 _ (L2.Same.refl _)

/-- check_place(tables, at) -/
def sp_check_place (K : PySem.W.Frag) : Sp := fun vs H Q E => ∃ (t : Addr) (n : Nat) (r : List V) (at_ : Int), vs = [.ref t, .int at_] ∧ SqT K H t (.int (n : Int) :: r) ∧ ((at_ < 0 ∨ (n : Int) < at_) → E (.ref (He.ga K "NoPlace")) none H) ∧ (0 ≤ at_ → at_ ≤ (n : Int) → Q .non H)
theorem len_check_place (K : PySem.W.Frag) : ∀ vs H Q E, sp_check_place K vs H Q E → vs.length = 2 := by
  rintro vs H Q E ⟨a, _, _, b, rfl, _⟩; rfl
def t_check_place (K : PySem.W.Frag) (E : XK) : TS :=
  (tIfS (tOr (tTest (tOp rLt (tVar 1) (tC (.int 0)))) (tTest (tOp rGtI (tVar 1) (tOp (rIxT K) (tVar 0) (tC (.int 0))))))
  (tRz (fun cls d _ H => E cls d H) (He.ga K "NoPlace"))
  tNext)
abbrev n_check_place : List Str := ["tables", "at"]

theorem rd_check_place (K : PySem.W.Frag) (vs : List V) (H : Hp) (Q : VK) (E : XK) (h : sp_check_place K vs H Q E) : t_check_place K E { nx := fun _ H' => Q .non H', rt := Q } (start n_check_place vs) H := by
  obtain ⟨t, n, r, at_, rfl, hT, q1, q2⟩ := h
  unfold t_check_place
  walk_at "st"
  walk_at "if" <;> intro c
  · walk_at "st"
    exact q1 (.inl c)
  walk_at "st"
  refine k_ixT hT (at_int (by decide) rfl) ?_
  walk_at "st"
  walk_at "if" <;> intro c1
  · walk_at "st"
    exact q1 (.inr c1)
  walk_at "st"
  exact q2 (by omega) (by omega)

/-! ### nodes that cover a stretch -/
/-- ps (node, height) lie end to end from x to y -/
def covP : List (Nat × Nat) → Nat → Nat → Prop
  | [], x, y => x = y
  | p :: ps, x, y => p.1 * 2 ^ p.2 = x ∧ covP ps ((p.1 + 1) * 2 ^ p.2) y
theorem covP_app : ∀ {ps qs : List (Nat × Nat)} {x y z : Nat}, covP ps x y → covP qs y z → covP (ps ++ qs) x z
  | [], _, _, _, _, h, h2 => by cases h; exact h2
  | _ :: _, _, _, _, _, h, h2 => ⟨h.1, covP_app h.2 h2⟩
theorem covP_one {n e x y : Nat} (h1 : n * 2 ^ e = x) (h2 : (n + 1) * 2 ^ e = y) : covP [(n, e)] x y := ⟨h1, h2⟩
structure NodeOk (S a b : Nat) (p : Nat × Nat) : Prop where
  ge : S ≤ p.1 * 2 ^ p.2
  le : (p.1 + 1) * 2 ^ p.2 ≤ 2 * S
  max : p.1 / 2 * 2 ^ (p.2 + 1) < a ∨ b < (p.1 / 2 + 1) * 2 ^ (p.2 + 1)
/-- the walk's state at the height e -/
structure CovSt (S a b e low high : Nat) (L R : List (Nat × Nat)) : Prop where
  low1 : low * 2 ^ e < a + 2 ^ e
  low2 : a ≤ low * 2 ^ e
  high1 : high * 2 ^ e ≤ b
  high2 : b < (high + 1) * 2 ^ e
  le : low ≤ high
  covL : covP L a (low * 2 ^ e)
  covR : covP R.reverse (high * 2 ^ e) b
  ok : ∀ p, p ∈ L ∨ p ∈ R → NodeOk S a b p
theorem pow2_succ (e : Nat) : 2 ^ (e + 1) = 2 * 2 ^ e := by rw [Nat.pow_succ, Nat.mul_comm]
theorem CovSt.lowStep {S a b e low high : Nat} {L R : List (Nat × Nat)} (c : CovSt S a b e low high L R) (hS : S ≤ a) (hb : b ≤ 2 * S) (h : low < high) (ho : low % 2 = 1) :
    covP (L ++ [(low, e)]) a ((low + 1) * 2 ^ e) ∧ NodeOk S a b (low, e) := by
  have e1 : (low + 1) * 2 ^ e = low * 2 ^ e + 2 ^ e := Nat.succ_mul _ _
  have h1 : (low + 1) * 2 ^ e ≤ high * 2 ^ e := Nat.mul_le_mul_right _ h
  have c1 := c.low1; have c2 := c.low2; have c3 := c.high1
  refine ⟨covP_app c.covL (covP_one rfl rfl), ⟨?_, ?_, .inl ?_⟩⟩
  · show S ≤ low * 2 ^ e; omega
  · show (low + 1) * 2 ^ e ≤ 2 * S; omega
  · show low / 2 * 2 ^ (e + 1) < a
    obtain ⟨u, rfl⟩ : ∃ u, low = 2 * u + 1 := ⟨low / 2, by omega⟩
    rw [show (2 * u + 1) / 2 = u by omega, pow2_succ]
    rw [Nat.add_mul, Nat.mul_assoc, Nat.one_mul] at c1
    rw [Nat.mul_left_comm]
    omega
theorem CovSt.highStep {S a b e low high : Nat} {L R : List (Nat × Nat)} (c : CovSt S a b e low high L R) (hS : S ≤ a) (hb : b ≤ 2 * S) (h : low < high) (ho : high % 2 = 1) :
    covP (R ++ [(high - 1, e)]).reverse ((high - 1) * 2 ^ e) b ∧ NodeOk S a b (high - 1, e) := by
  obtain ⟨u, rfl⟩ : ∃ u, high = 2 * u + 1 := ⟨high / 2, by omega⟩
  have c1 := c.low1; have c2 := c.low2; have c3 := c.high1; have c4 := c.high2; have c5 := c.covR
  have h1 : low * 2 ^ e ≤ (2 * u) * 2 ^ e := Nat.mul_le_mul_right _ (by omega)
  rw [show 2 * u + 1 - 1 = 2 * u by omega]
  refine ⟨?_, ⟨?_, ?_, .inr ?_⟩⟩
  · rw [List.reverse_append]
    exact ⟨rfl, c5⟩
  · show S ≤ 2 * u * 2 ^ e; omega
  · show (2 * u + 1) * 2 ^ e ≤ 2 * S; omega
  · show b < (2 * u / 2 + 1) * 2 ^ (e + 1)
    rw [show 2 * u / 2 = u by omega, pow2_succ, Nat.mul_left_comm, ← Nat.mul_assoc, Nat.mul_add]
    exact c4
/-- halving both -/
theorem CovSt.halve {S a b e low high low' high' : Nat} {L R L' R' : List (Nat × Nat)} (c : CovSt S a b e low high L R) (h : low < high) (hl : low' = low ∧ low % 2 = 0 ∧ L' = L ∨ low' = low + 1 ∧ low % 2 = 1 ∧ L' = L ++ [(low, e)]) (hh : high' = high ∧ high % 2 = 0 ∧ R' = R ∨ high' = high - 1 ∧ high % 2 = 1 ∧ R' = R ++ [(high - 1, e)]) (hS : S ≤ a) (hb : b ≤ 2 * S) :
    CovSt S a b (e + 1) (low' / 2) (high' / 2) L' R' := by
  have cov1 : covP L' a (low' * 2 ^ e) := by
    rcases hl with ⟨rfl, _, rfl⟩ | ⟨rfl, ho, rfl⟩
    · exact c.covL
    · exact (c.lowStep hS hb h ho).1
  have cov2 : covP R'.reverse (high' * 2 ^ e) b := by
    rcases hh with ⟨rfl, _, rfl⟩ | ⟨rfl, ho, rfl⟩
    · exact c.covR
    · exact (c.highStep hS hb h ho).1
  obtain ⟨u, hu⟩ : ∃ u, low' = 2 * u := ⟨low' / 2, by omega⟩
  obtain ⟨v, hv⟩ : ∃ v, high' = 2 * v := ⟨high' / 2, by omega⟩
  have c1 := c.low1; have c2 := c.low2; have c3 := c.high1; have c4 := c.high2; have c5 := c.le
  have hm1 : low * 2 ^ e ≤ low' * 2 ^ e := Nat.mul_le_mul_right _ (by omega)
  have hm2 : low' * 2 ^ e ≤ low * 2 ^ e + 2 ^ e := by rw [← Nat.succ_mul]; exact Nat.mul_le_mul_right _ (by omega)
  have hm3 : high' * 2 ^ e ≤ high * 2 ^ e := Nat.mul_le_mul_right _ (by omega)
  have hm4 : (high + 1) * 2 ^ e ≤ (high' + 2) * 2 ^ e := Nat.mul_le_mul_right _ (by omega)
  have hx : u * 2 ^ (e + 1) = low' * 2 ^ e := by rw [hu, pow2_succ, Nat.mul_left_comm, Nat.mul_assoc]
  have hy : v * 2 ^ (e + 1) = high' * 2 ^ e := by rw [hv, pow2_succ, Nat.mul_left_comm, Nat.mul_assoc]
  have hy1 : (v + 1) * 2 ^ (e + 1) = (high' + 2) * 2 ^ e := by rw [hv, pow2_succ, Nat.mul_left_comm, ← Nat.mul_assoc, Nat.mul_add]
  rw [show low' / 2 = u by omega, show high' / 2 = v by omega]
  refine ⟨?_, ?_, ?_, ?_, ?_, ?_, ?_, fun p hp => ?_⟩
  · rw [hx, pow2_succ]; omega
  · rw [hx]; omega
  · rw [hy]; omega
  · rw [hy1]; omega
  · rcases hl with ⟨h1, h2, _⟩ | ⟨h1, h2, _⟩ <;> rcases hh with ⟨h3, h4, _⟩ | ⟨h3, h4, _⟩ <;> omega
  · rw [hx]; exact cov1
  · rw [hy]; exact cov2
  · rcases hp with hp | hp
    · rcases hl with ⟨_, _, rfl⟩ | ⟨_, ho, rfl⟩
      · exact c.ok p (.inl hp)
      · rcases List.mem_append.mp hp with z | z
        · exact c.ok p (.inl z)
        · have : p = (low, e) := by simpa using z
          rw [this]; exact (c.lowStep hS hb h ho).2
    · rcases hh with ⟨_, _, rfl⟩ | ⟨_, ho, rfl⟩
      · exact c.ok p (.inr hp)
      · rcases List.mem_append.mp hp with z | z
        · exact c.ok p (.inr z)
        · have : p = (high - 1, e) := by simpa using z
          rw [this]; exact (c.highStep hS hb h ho).2
theorem CovSt.room {S a b e low high : Nat} {L R : List (Nat × Nat)} (c : CovSt S a b e low high L R) (hS : S ≤ a) (hb : b ≤ 2 * S) (h : low < high) : 2 ^ e ≤ S := by
  have h1 : (low + 1) * 2 ^ e ≤ high * 2 ^ e := Nat.mul_le_mul_right _ h
  rw [Nat.succ_mul] at h1
  have c2 := c.low2; have c3 := c.high1
  omega
/-- the list that the walk makes -/
def covLoop : Nat → Nat → Nat → Nat → List (Nat × Nat) → List (Nat × Nat) → List (Nat × Nat)
  | 0, _, _, _, L, R => L ++ R.reverse
  | f + 1, e, low, high, L, R => if low < high then covLoop f (e + 1) ((if low % 2 = 1 then low + 1 else low) / 2) ((if high % 2 = 1 then high - 1 else high) / 2) (if low % 2 = 1 then L ++ [(low, e)] else L) (if high % 2 = 1 then R ++ [(high - 1, e)] else R) else L ++ R.reverse
def coverF (S a b : Nat) : List (Nat × Nat) := covLoop (S + b + 1) 0 (S + a) (S + b) [] []
theorem covLoop_step {f e low high low' high' : Nat} {L R L' R' : List (Nat × Nat)} (h : low < high) (hl : low' = low ∧ low % 2 = 0 ∧ L' = L ∨ low' = low + 1 ∧ low % 2 = 1 ∧ L' = L ++ [(low, e)]) (hh : high' = high ∧ high % 2 = 0 ∧ R' = R ∨ high' = high - 1 ∧ high % 2 = 1 ∧ R' = R ++ [(high - 1, e)]) :
    covLoop (f + 1) e low high L R = covLoop f (e + 1) (low' / 2) (high' / 2) L' R' := by
  show (if low < high then _ else _) = _
  rw [if_pos h]
  rcases hl with ⟨rfl, h1, rfl⟩ | ⟨rfl, h1, rfl⟩ <;> rcases hh with ⟨rfl, h2, rfl⟩ | ⟨rfl, h2, rfl⟩ <;> simp [h1, h2]
theorem covLoop_end {f e low high : Nat} {L R : List (Nat × Nat)} (h : ¬ low < high) : covLoop f e low high L R = L ++ R.reverse := by
  cases f with
  | zero => rfl
  | succ f => exact if_neg h
def ndV (p : Nat × Nat) : V := .int (p.1 : Int)
/-- cover(many, start, stop) -/
def sp_cover (K : PySem.W.Frag) : Sp := fun vs H Q E => ∃ (many : Nat) (i j : Int), vs = [.int (many : Int), .int i, .int j] ∧ many ≤ 5000 ∧
  ((i < 0 ∨ j < i ∨ (many : Int) < j) → E (.ref (He.ga K "NoPlace")) none H) ∧
  (∀ a b : Nat, i = (a : Int) → j = (b : Int) → a ≤ b → b ≤ many → ∀ ps p H', ps = coverF (2 ^ hOf many) a b → covP ps (2 ^ hOf many + a) (2 ^ hOf many + b) → (∀ x ∈ ps, NodeOk (2 ^ hOf many) (2 ^ hOf many + a) (2 ^ hOf many + b) x) → ps.length ≤ 2 * hOf many + 2 → H p = none → Same H H' → H' p = some (.lst (ps.map ndV)) → Q (.ref p) H')
theorem len_cover (K : PySem.W.Frag) : ∀ vs H Q E, sp_cover K vs H Q E → vs.length = 3 := by
  rintro vs H Q E ⟨m, i, j, rfl, _⟩; rfl
def t_cover (K : PySem.W.Frag) (E : XK) : TS :=
  (tSeq (tIfS (tOr (tTest (tOp rLt (tVar 1) (tC (.int 0)))) (tOr (tTest (tOp rGtI (tVar 1) (tVar 2))) (tTest (tOp rGtI (tVar 2) (tVar 0)))))
  (tRz (fun cls d _ H => E cls d H) (He.ga K "NoPlace"))
  tNext)
  (tSeq (tAsg (tOp rPlus (tCall (sp_size_of K) [] E0 (tCons (tVar 0) tNil)) (tVar 1)) (gName 3))
  (tSeq (tAsg (tOp rPlus (tCall (sp_size_of K) [] E0 (tCons (tVar 0) tNil)) (tVar 2)) (gName 4))
  (tSeq (tAsg (tLst tNil) (gName 5))
  (tSeq (tAsg (tLst tNil) (gName 6))
  (tSeq (tWhile (tTest (tOp rLt (tVar 3) (tVar 4)))
  (Evl.tCut (tIfS (tTest (tOp rEq (tOp rMod (tVar 3) (tC (.int 2))) (tC (.int 1))))
  (tSeq (tDrop (tBM K "list" rAppend (tVar 5) (tCons (tVar 3) tNil)))
  (tAug 3 (tC (.int 1)) (ipI fun i j => i + j)))
  tNext)
  (Evl.tCut (tIfS (tTest (tOp rEq (tOp rMod (tVar 4) (tC (.int 2))) (tC (.int 1))))
  (tSeq (tAug 4 (tC (.int 1)) (ipI fun i j => i - j))
  (tDrop (tBM K "list" rAppend (tVar 6) (tCons (tVar 4) tNil))))
  tNext)
  (tSeq (tAsg (tOp rDiv (tVar 3) (tC (.int 2))) (gName 3))
  (tAsg (tOp rDiv (tVar 4) (tC (.int 2))) (gName 4))))))
  (tRet (tOp rCat (tVar 5) (tRevL K (tVar 6))))))))))
abbrev n_cover : List Str := ["many", "start", "stop", "low", "high", "left", "right"]

theorem rd_cover (K : PySem.W.Frag) (vs : List V) (H : Hp) (Q : VK) (E : XK) (h : sp_cover K vs H Q E) : t_cover K E { nx := fun _ H' => Q .non H', rt := Q } (start n_cover vs) H := by
  obtain ⟨many, i, j, rfl, hm, q1, q2⟩ := h
  unfold t_cover
  walk_at "st"
  walk_at "if" <;> intro c1
  · walk_at "st"; exact q1 (.inl c1)
  walk_at "st"
  walk_at "if" <;> intro c2
  · walk_at "st"; exact q1 (.inr (.inl c2))
  walk_at "st"
  walk_at "if" <;> intro c3
  · walk_at "st"; exact q1 (.inr (.inr c3))
  obtain ⟨a, rfl⟩ : ∃ a : Nat, i = (a : Int) := ⟨i.toNat, by omega⟩
  obtain ⟨b, rfl⟩ : ∃ b : Nat, j = (b : Int) := ⟨j.toNat, by omega⟩
  have hab : a ≤ b := by omega
  have hbm : b ≤ many := by omega
  have q2 := q2 a b rfl rfl hab hbm
  have hle := hOf_le many
  generalize hS : 2 ^ hOf many = S at q2 hle
  walk_at "st"
  refine ⟨many, rfl, by omega, ?_⟩
  rw [hS]
  walk_at "st"
  refine ⟨many, rfl, by omega, ?_⟩
  rw [hS]
  walk_at "st"
  intro p1 hp1
  walk_at "st"
  intro p2 hp2
  walk_at "st"
  have hp2' : H p2 = none := (same_new hp1).gone _ hp2
  have n12 : p1 ≠ p2 := ne_of_none upd_same hp2
  refine loop_while (fun m σ H' => ∃ (e low high : Nat) (L R : List (Nat × Nat)), m = high ∧ e ≤ hOf many + 1 ∧ L.length ≤ e ∧ R.length ≤ e ∧ (∃ f, high < f ∧ covLoop f e low high L R = coverF S a b) ∧ CovSt S (S + a) (S + b) e low high L R ∧ σ = [some (.int (many : Int)), some (.int (a : Int)), some (.int (b : Int)), some (.int (low : Int)), some (.int (high : Int)), some (.ref p1), some (.ref p2)] ∧ Same H H' ∧ H' p1 = some (.lst (L.map ndV)) ∧ H' p2 = some (.lst (R.map ndV))) (S + b) ⟨0, S + a, S + b, [], [], rfl, Nat.zero_le _, Nat.le_refl _, Nat.le_refl _, ⟨S + b + 1, by omega, rfl⟩, ⟨by simp, by simp, by simp, by simp, by omega, by simp [covP], by simp [covP], fun p hp => by simp at hp⟩, ?_, (same_new hp1).trans (same_new hp2), by rw [upd_ne n12, upd_same]; rfl, by rw [upd_same]; rfl⟩ ?_
  · rw [show ((S + a : Nat) : Int) = (S : Int) + (a : Int) by push_cast; rfl, show ((S + b : Nat) : Int) = (S : Int) + (b : Int) by push_cast; rfl]; rfl
  rintro m σ H' ⟨e, low, high, L, R, rfl, he, hL, hR, ⟨f, hf, ef⟩, cs, rfl, s, e1, e2⟩
  have hS1 : S ≤ S + a := by omega
  have hb2 : S + b ≤ 2 * S := by omega
  have hsm := hOf_small (many := many)
  have hh : hOf many ≤ 13 := by
    rcases Nat.lt_or_ge 13 (hOf many) with z | z
    · have := hOf_lt z; omega
    · exact z
  walk_at "st"
  walk_at "if" <;> intro c
  · have hlt : low < m := by omega
    have hroom := cs.room hS1 hb2 hlt
    have heh : e ≤ hOf many := by
      rcases Nat.lt_or_ge (hOf many) e with z | z
      · have := Nat.pow_lt_pow_right (show 1 < 2 by decide) z; omega
      · exact z
    walk_at "st"
    refine m_cut (fun σ' H'' => ∃ (low' : Nat) (L' : List (Nat × Nat)), (low' = low ∧ low % 2 = 0 ∧ L' = L ∨ low' = low + 1 ∧ low % 2 = 1 ∧ L' = L ++ [(low, e)]) ∧ σ' = [some (.int (many : Int)), some (.int (a : Int)), some (.int (b : Int)), some (.int (low' : Int)), some (.int (m : Int)), some (.ref p1), some (.ref p2)] ∧ Same H H'' ∧ H'' p1 = some (.lst (L'.map ndV)) ∧ H'' p2 = some (.lst (R.map ndV))) ?_ ?_
    · walk_at "st"
      walk_at "if" <;> intro d
      · walk_at "st"
        refine k_tyL (.of e1) ?_
        walk_at "st"
        refine k_app e1 (by rw [List.length_map]; omega) ?_
        walk_at "st"
        exact ⟨low + 1, L ++ [(low, e)], .inr ⟨rfl, by omega, rfl⟩, by push_cast; rfl, Same.mut s hp1, by rw [upd_same, List.map_append]; rfl, by rw [upd_ne n12.symm]; exact e2⟩
      · walk_at "st"
        exact ⟨low, L, .inl ⟨rfl, by omega, rfl⟩, rfl, s, e1, e2⟩
    rintro σ' H1 ⟨low', L', hl', rfl, s1, e1', e2'⟩
    refine m_cut (fun σ' H'' => ∃ (high' : Nat) (R' : List (Nat × Nat)), (high' = m ∧ m % 2 = 0 ∧ R' = R ∨ high' = m - 1 ∧ m % 2 = 1 ∧ R' = R ++ [(m - 1, e)]) ∧ σ' = [some (.int (many : Int)), some (.int (a : Int)), some (.int (b : Int)), some (.int (low' : Int)), some (.int (high' : Int)), some (.ref p1), some (.ref p2)] ∧ Same H H'' ∧ H'' p1 = some (.lst (L'.map ndV)) ∧ H'' p2 = some (.lst (R'.map ndV))) ?_ ?_
    · walk_at "st"
      walk_at "if" <;> intro d
      · walk_at "st"
        refine k_tyL (.of e2') ?_
        walk_at "st"
        refine k_app e2' (by rw [List.length_map]; omega) ?_
        walk_at "st"
        have hm1 : ((m : Int) - 1) = ((m - 1 : Nat) : Int) := by omega
        rw [hm1]
        exact ⟨m - 1, R ++ [(m - 1, e)], .inr ⟨rfl, by omega, rfl⟩, rfl, Same.mut s1 hp2', by rw [upd_ne n12]; exact e1', by rw [upd_same, List.map_append]; rfl⟩
      · walk_at "st"
        exact ⟨m, R, .inl ⟨rfl, by omega, rfl⟩, rfl, s1, e1', e2'⟩
    rintro σ' H2 ⟨high', R', hr', rfl, s2, e1'', e2''⟩
    walk_at "st"
    have hmd : high' / 2 < m := by rcases hr' with ⟨z, _, _⟩ | ⟨z, _, _⟩ <;> omega
    refine ⟨high' / 2, hmd, e + 1, low' / 2, high' / 2, L', R', rfl, by omega, ?_, ?_, ?_, cs.halve hlt hl' hr' hS1 hb2, ?_, s2, e1'', e2''⟩
    · rcases hl' with ⟨_, _, rfl⟩ | ⟨_, _, rfl⟩
      · omega
      · rw [List.length_append]; simp only [List.length_cons, List.length_nil]; omega
    · rcases hr' with ⟨_, _, rfl⟩ | ⟨_, _, rfl⟩
      · omega
      · rw [List.length_append]; simp only [List.length_cons, List.length_nil]; omega
    · obtain ⟨f, rfl⟩ : ∃ f', f = f' + 1 := ⟨f - 1, by omega⟩
      exact ⟨f, by omega, by rw [← ef, covLoop_step hlt hl' hr']⟩
    · rw [show ((low' / 2 : Nat) : Int) = (low' : Int) / 2 by omega, show ((high' / 2 : Nat) : Int) = (high' : Int) / 2 by omega]; rfl
  · have hlm : low = m := by have := cs.le; omega
    subst hlm
    walk_at "st"
    refine m_revLE (.of e2) fun p3 hp3 => ?_
    rw [← List.map_reverse]
    refine k_cat ((same_new hp3).get e1) upd_same (by rw [List.length_map, List.length_map, List.length_reverse]; omega) fun p4 hp4 => ?_
    walk_at "st"
    have s4 := s.trans ((same_new (o := .lst (R.reverse.map ndV)) hp3).trans (same_new (o := .lst (L.map ndV ++ R.reverse.map ndV)) hp4))
    refine q2 (L ++ R.reverse) p4 _ (by rw [← ef, covLoop_end (by omega)]) (covP_app cs.covL cs.covR) (fun x hx => ?_) (by rw [List.length_append, List.length_reverse]; omega) ((s.trans (same_new hp3)).gone _ hp4) s4 (by rw [upd_same, List.map_append])
    rcases List.mem_append.mp hx with z | z
    · exact cs.ok x (.inl z)
    · exact cs.ok x (.inr (List.mem_reverse.mp z))

/-- the least of n numbers from place a on (None where there are none) -/
def rmin (ns : List Int) (a : Nat) : Nat → Option Int
  | 0 => none
  | n + 1 => minO (rmin ns a n) ns[a + n]?
theorem minO_none (a : Option Int) : minO a none = a := by cases a <;> rfl
theorem minO_assoc (a b c : Option Int) : minO (minO a b) c = minO a (minO b c) := by
  cases a with
  | none => rfl
  | some a =>
    cases b with
    | none => rfl
    | some b =>
      cases c with
      | none => rfl
      | some c =>
        show some (if c < (if b < a then b else a) then c else (if b < a then b else a)) = some (if (if c < b then c else b) < a then (if c < b then c else b) else a)
        congr 1
        (repeat' split) <;> omega
theorem rmin_add (ns : List Int) (a m : Nat) : ∀ n, rmin ns a (m + n) = minO (rmin ns a m) (rmin ns (a + m) n)
  | 0 => (minO_none _).symm
  | n + 1 => by
    show minO (rmin ns a (m + n)) ns[a + (m + n)]? = minO (rmin ns a m) (minO (rmin ns (a + m) n) ns[a + m + n]?)
    rw [rmin_add ns a m n, minO_assoc, Nat.add_assoc]
/-- a node bears the least of its stretch -/
theorem bear_span {ns : List Int} {h : Nat} : ∀ {e n : Nat}, 2 ^ h ≤ n * 2 ^ e → (n + 1) * 2 ^ e ≤ 2 * 2 ^ h → bear ns h n = rmin ns (n * 2 ^ e - 2 ^ h) (2 ^ e)
  | 0, n, h1, h2 => by
    rw [Nat.pow_zero, Nat.mul_one] at h1 ⊢
    rw [bear_leaf h1]
    show _ = minO none ns[n - 2 ^ h + 0]?
    rfl
  | e + 1, n, h1, h2 => by
    have p1 := Nat.two_pow_pos h
    have p2 := Nat.two_pow_pos e
    have e1 : n * 2 ^ (e + 1) = 2 * n * 2 ^ e := by rw [pow2_succ, Nat.mul_left_comm, Nat.mul_assoc]
    have e2 : (n + 1) * 2 ^ (e + 1) = (2 * n + 1 + 1) * 2 ^ e := by rw [pow2_succ, Nat.mul_left_comm, ← Nat.mul_assoc, Nat.mul_add]
    have e3 : (2 * n + 1) * 2 ^ e = 2 * n * 2 ^ e + 2 ^ e := Nat.succ_mul _ _
    have e4 : (2 * n + 1 + 1) * 2 ^ e = (2 * n + 1) * 2 ^ e + 2 ^ e := Nat.succ_mul _ _
    rw [e1] at h1
    rw [e2] at h2
    have n1 : 1 ≤ n := by
      rcases Nat.eq_zero_or_pos n with z | z
      · rw [z] at h1; simp at h1
      · exact z
    have n2 : n < 2 ^ h := by
      have := Nat.le_mul_of_pos_right (2 * n + 1 + 1) p2
      omega
    rw [bear_node n1 n2, bear_span (e := e) (n := 2 * n) h1 (by omega), bear_span (e := e) (n := 2 * n + 1) (by omega) h2, e1, pow2_succ, show 2 * 2 ^ e = 2 ^ e + 2 ^ e by omega, rmin_add]
    rw [show (2 * n + 1) * 2 ^ e - 2 ^ h = 2 * n * 2 ^ e - 2 ^ h + 2 ^ e by omega]
/-- the least over nodes that lie end to end -/
theorem rmin_cov {ns : List Int} {h a b : Nat} : ∀ {ps : List (Nat × Nat)} {x y : Nat}, 2 ^ h ≤ x → covP ps x y → (∀ p ∈ ps, NodeOk (2 ^ h) a b p) → ∀ m0, ps.foldl (fun m p => minO m (bear ns h p.1)) m0 = minO m0 (rmin ns (x - 2 ^ h) (y - x))
  | [], x, y, _, hc, _, m0 => by
    have hc : x = y := hc
    subst hc
    rw [Nat.sub_self]; exact (minO_none _).symm
  | p :: ps, x, y, hx, hc, hok, m0 => by
    have h1 : p.1 * 2 ^ p.2 = x := hc.1
    have ok := hok p List.mem_cons_self
    have p2 := Nat.two_pow_pos p.2
    have e3 : (p.1 + 1) * 2 ^ p.2 = p.1 * 2 ^ p.2 + 2 ^ p.2 := Nat.succ_mul _ _
    have hle : (p.1 + 1) * 2 ^ p.2 ≤ y := by
      have aux : ∀ {qs : List (Nat × Nat)} {u v : Nat}, covP qs u v → u ≤ v := by
        intro qs
        induction qs with
        | nil => intro u v h; exact Nat.le_of_eq h
        | cons q qs ih =>
          intro u v h
          have g1 := ih h.2
          have g2 : q.1 * 2 ^ q.2 = u := h.1
          have g3 : q.1 * 2 ^ q.2 ≤ (q.1 + 1) * 2 ^ q.2 := Nat.mul_le_mul_right _ (by omega)
          rw [← g2]; exact Nat.le_trans g3 g1
      exact aux hc.2
    rw [List.foldl_cons, rmin_cov (by omega) hc.2 (fun q hq => hok q (List.mem_cons_of_mem _ hq)), bear_span ok.ge ok.le, minO_assoc, h1]
    congr 1
    rw [show y - x = 2 ^ p.2 + (y - (p.1 + 1) * 2 ^ p.2) by omega, rmin_add, show (p.1 + 1) * 2 ^ p.2 - 2 ^ h = x - 2 ^ h + 2 ^ p.2 by omega]

/-- a number is there, and no greater than the goal -/
def lowB (x : Option Int) (g : Int) : Bool :=
  match x with
  | none => false
  | some v => decide (v ≤ g)
theorem lowB_min (x y : Option Int) (g : Int) : lowB (minO x y) g = (lowB x g || lowB y g) := by
  cases x with
  | none => cases y <;> rfl
  | some a =>
    cases y with
    | none => show decide (a ≤ g) = (decide (a ≤ g) || false); rw [Bool.or_false]
    | some b =>
      show decide ((if b < a then b else a) ≤ g) = (decide (a ≤ g) || decide (b ≤ g))
      split <;> by_cases h1 : a ≤ g <;> by_cases h2 : b ≤ g <;> simp [h1, h2] <;> omega
/-- none of the places x .. y is low -/
def NL (ns : List Int) (g : Int) (x y : Nat) : Prop := ∀ j v, x ≤ j → j < y → ns[j]? = some v → g < v
theorem NL.join {ns : List Int} {g : Int} {x y z : Nat} (a : NL ns g x y) (b : NL ns g y z) : NL ns g x z := fun j v h1 h2 e => by
  rcases Nat.lt_or_ge j y with h | h
  · exact a j v h1 h e
  · exact b j v h h2 e
theorem NL.nil (ns : List Int) (g : Int) (x : Nat) : NL ns g x x := fun j v h1 h2 _ => by omega
theorem lowB_rmin {ns : List Int} {g : Int} {a : Nat} : ∀ {n : Nat}, lowB (rmin ns a n) g = false → NL ns g a (a + n)
  | 0, _ => by rw [Nat.add_zero]; exact NL.nil _ _ _
  | n + 1, h => by
    have h : lowB (minO (rmin ns a n) ns[a + n]?) g = false := h
    rw [lowB_min, Bool.or_eq_false_iff] at h
    refine NL.join (lowB_rmin h.1) fun j v h1 h2 e => ?_
    have : j = a + n := by omega
    subst this
    have h3 := h.2
    rw [e] at h3
    have h3 : decide (v ≤ g) = false := h3
    have := of_decide_eq_false h3; omega
theorem lowB_node {ns : List Int} {g : Int} {h e n : Nat} (h1 : 2 ^ h ≤ n * 2 ^ e) (h2 : (n + 1) * 2 ^ e ≤ 2 * 2 ^ h) (hl : lowB (bear ns h n) g = false) : NL ns g (n * 2 ^ e - 2 ^ h) ((n + 1) * 2 ^ e - 2 ^ h) := by
  have p2 := Nat.two_pow_pos e
  rw [bear_span h1 h2] at hl
  have := lowB_rmin hl
  rw [show n * 2 ^ e - 2 ^ h + 2 ^ e = (n + 1) * 2 ^ e - 2 ^ h by rw [Nat.succ_mul]; omega] at this
  exact this
theorem lowB_leaf {ns : List Int} {g : Int} {h n : Nat} (h1 : 2 ^ h ≤ n) (hl : lowB (bear ns h n) g = true) : ∃ x, ns[n - 2 ^ h]? = some x ∧ x ≤ g := by
  rw [bear_leaf h1] at hl
  cases e : ns[n - 2 ^ h]? with
  | none => rw [e] at hl; cases hl
  | some x => rw [e] at hl; exact ⟨x, rfl, of_decide_eq_true hl⟩
theorem covP_split : ∀ {ps qs : List (Nat × Nat)} {p : Nat × Nat} {x y : Nat}, covP (ps ++ p :: qs) x y → covP ps x (p.1 * 2 ^ p.2) ∧ covP qs ((p.1 + 1) * 2 ^ p.2) y
  | [], _, _, _, _, h => ⟨h.1.symm, h.2⟩
  | _ :: _, _, _, _, _, h => ⟨⟨h.1, (covP_split h.2).1⟩, (covP_split h.2).2⟩
theorem covP_mono : ∀ {qs : List (Nat × Nat)} {u v : Nat}, covP qs u v → u ≤ v
  | [], _, _, h => Nat.le_of_eq h
  | q :: qs, u, v, h => by
    have g1 := covP_mono h.2
    have g2 : q.1 * 2 ^ q.2 = u := h.1
    have g3 : q.1 * 2 ^ q.2 ≤ (q.1 + 1) * 2 ^ q.2 := Nat.mul_le_mul_right _ (by omega)
    rw [← g2]; exact Nat.le_trans g3 g1
theorem covP_NL {ns : List Int} {g : Int} {h a b : Nat} : ∀ {ps : List (Nat × Nat)} {x y : Nat}, 2 ^ h ≤ x → covP ps x y → (∀ p ∈ ps, NodeOk (2 ^ h) a b p) → (∀ p ∈ ps, lowB (bear ns h p.1) g = false) → NL ns g (x - 2 ^ h) (y - 2 ^ h)
  | [], x, y, _, hc, _, _ => by
    have hc : x = y := hc
    subst hc; exact NL.nil _ _ _
  | p :: ps, x, y, hx, hc, hok, hl => by
    have ok := hok p List.mem_cons_self
    have e : p.1 * 2 ^ p.2 = x := hc.1
    have e3 : (p.1 + 1) * 2 ^ p.2 = p.1 * 2 ^ p.2 + 2 ^ p.2 := Nat.succ_mul _ _
    have p2 := Nat.two_pow_pos p.2
    have n1 := lowB_node ok.ge ok.le (hl p List.mem_cons_self)
    rw [e] at n1
    exact n1.join (covP_NL (by omega) hc.2 (fun q hq => hok q (List.mem_cons_of_mem _ hq)) fun q hq => hl q (List.mem_cons_of_mem _ hq))
/-- a place, or None -/
def PV : Option Nat → V
  | none => .non
  | some k => .int (k : Int)
/-- the first low place of a .. b -/
def FirstLow (ns : List Int) (a b : Nat) (g : Int) : Option Nat → Prop
  | none => NL ns g a b
  | some i => a ≤ i ∧ i < b ∧ (∃ x, ns[i]? = some x ∧ x ≤ g) ∧ NL ns g a i
/-- the last one -/
def LastLow (ns : List Int) (a b : Nat) (g : Int) : Option Nat → Prop
  | none => NL ns g a b
  | some i => a ≤ i ∧ i < b ∧ (∃ x, ns[i]? = some x ∧ x ≤ g) ∧ NL ns g (i + 1) b

/-- none of the places behind a, up to b, is low -/
def HN (bs : List Int) (g : Int) (a b : Nat) : Prop := ∀ k, a < k → k ≤ b → g < hgt bs k
theorem HN.join {bs : List Int} {g : Int} {a b c : Nat} (h1 : HN bs g a b) (h2 : HN bs g b c) : HN bs g a c := fun k k1 k2 => by
  rcases Nat.lt_or_ge b k with z | z
  · exact h2 k z k2
  · exact h1 k k1 z
theorem HN.less {bs : List Int} {g : Int} {a b c : Nat} (h : HN bs g a b) (hc : c ≤ b) : HN bs g a c := fun k k1 k2 => h k k1 (by omega)
/-- the first low place behind a, up to b -/
def FirstH (bs : List Int) (g : Int) (a b : Nat) : Option Nat → Prop
  | none => HN bs g a b
  | some k => a < k ∧ k ≤ b ∧ hgt bs k ≤ g ∧ HN bs g a (k - 1)
/-- the last one -/
def LastH (bs : List Int) (g : Int) (a b : Nat) : Option Nat → Prop
  | none => HN bs g a b
  | some k => a < k ∧ k ≤ b ∧ hgt bs k ≤ g ∧ HN bs g k b

/-- blocks that bear no low height -/
theorem hn_blocks {bs : List Int} (hB : Bits bs) {g : Int} {i j : Nat} (h : NL (lowsOf bs) g i j) (hj : j ≤ (bs.length + 31) / 32) : HN bs g (32 * i) (min (32 * j) bs.length) := fun k k1 k2 => by
  have hlt : (k - 1) / 32 < (bs.length + 31) / 32 := by omega
  have g1 := h ((k - 1) / 32) _ (by omega) (by omega) (lowsOf_get bs hlt)
  have g2 := (lowOf_is hB hlt).2 k (by omega) (by omega) (by omega)
  omega
theorem low_block {bs : List Int} (hB : Bits bs) {g : Int} {j : Nat} (hj : j < (bs.length + 31) / 32) {x : Int} (e : (lowsOf bs)[j]? = some x) (hx : x ≤ g) : ¬ HN bs g (32 * j) (min (32 * j + 32) bs.length) := fun h => by
  rw [lowsOf_get bs hj] at e
  obtain ⟨⟨k, k1, k2, k3, ek⟩, _⟩ := lowOf_is hB hj
  have := h k k1 (by omega)
  have e : lowOf bs j = x := Option.some.inj e
  omega
/-- the look at the heap of a tree's tables -/
theorem nodesLook {CL : CLs} {gn : Addr} {bs : List Int} {H3 : Hp} (lk : PureLook CL 1 gn (heapL (lowsOf bs)) H3) : LookR CL gn (heapL (lowsOf bs)).length (fun k => NV (bear (lowsOf bs) (hOf ((bs.length + 31) / 32)) k)) none (fun _ H' => LamX.ExtN H3 H') :=
  (lk.lookR (by decide)).congr (val' := fun k => NV (bear (lowsOf bs) (hOf ((bs.length + 31) / 32)) k)) fun k hk => by
    rw [List.getD_eq_getElem?_getD, heapL_get (by rw [heapL_len] at hk; exact hk), lowsOf_len]; rfl

/-- first_low_in(b, start, stop, goal) -/
def sp_first_low_in (_ : PySem.W.Frag) : Sp := fun vs H Q _ => ∃ (b g : Int) (s u : Nat), vs = [.int b, .int (s : Int), .int (u : Int), .int g] ∧ s ≤ u ∧ u ≤ 1000 ∧
  ∀ H', Same H H' → ((∀ k : Nat, s < k → k ≤ u → net b k ≤ g → (∀ j : Nat, s < j → j < k → g < net b j) → Q (.int (k : Int)) H') ∧ ((∀ k : Nat, s < k → k ≤ u → g < net b k) → Q .non H'))
theorem len_first_low_in (K : PySem.W.Frag) : ∀ vs H Q E, sp_first_low_in K vs H Q E → vs.length = 4 := by
  rintro vs H Q E ⟨x, y, z, w, rfl, _⟩; rfl
def t_first_low_in (K : PySem.W.Frag) : TS :=
  (tSeq (tAsg (tOp rMinus (tOp rTimes (tC (.int 2)) (tCall (sp_ones_in K) [] E0 (tCons (tVar 0) (tCons (tVar 1) tNil)))) (tVar 1)) (gName 4))
  (tSeq (tFor (iRng2 (tCons (tVar 1) (tCons (tVar 2) tNil))) (gName 5)
  (tSeq (tAug 4 (tOp rMinus (tOp rTimes (tC (.int 2)) (tOp rAnd1 (tOp rShr (tVar 0) (tVar 5)) (tC (.int 1)))) (tC (.int 1))) (ipI fun i j => i + j))
  (tIfS (tTest (tOp rLe (tVar 4) (tVar 3)))
  (tRet (tOp rPlus (tVar 5) (tC (.int 1))))
  tNext)))
  (tRet (tC .non))))
abbrev n_first_low_in : List Str := ["block", "start", "stop", "goal", "net", "k"]

theorem rd_first_low_in (K : PySem.W.Frag) (vs : List V) (H : Hp) (Q : VK) (E : XK) (h : sp_first_low_in K vs H Q E) : t_first_low_in K { nx := fun _ H' => Q .non H', rt := Q } (start n_first_low_in vs) H := by
  obtain ⟨b, g, s, u, rfl, hs, hu, q⟩ := h
  unfold t_first_low_in
  walk_at "st"
  refine ⟨b, s, rfl, by omega, fun H1 s1 => ?_⟩
  obtain ⟨q1, q2⟩ := q H1 s1
  walk_at "st"
  refine loop_range (fun i σ H' => ∃ y, σ = [some (.int b), some (.int (s : Int)), some (.int (u : Int)), some (.int g), some (.int (net b (s + i))), y] ∧ H' = H1 ∧ ∀ k : Nat, s < k → k ≤ s + i → g < net b k) ⟨none, rfl, rfl, fun k h1 h2 => by omega⟩ ?_ ?_
  · rintro i σ H' hi ⟨y, rfl, rfl, hall⟩
    have hi : s + i < u := by omega
    rw [show ((s : Int) + (i : Int)) = ((s + i : Nat) : Int) by push_cast; rfl]
    walk_at "st"
    have e : net b (s + i) + (2 * (b / 2 ^ (((s + i : Nat) : Int)).toNat % 2) - 1) = net b (s + (i + 1)) := (net_succ b (s + i)).symm
    rw [e]
    walk_at "if" <;> intro c
    · walk_at "st"
      exact q1 (s + i + 1) (by omega) (by omega) c fun j h1 h2 => hall j h1 (by omega)
    · walk_at "st"
      refine ⟨_, rfl, rfl, fun k h1 h2 => ?_⟩
      rcases Nat.lt_or_ge k (s + i + 1) with h | h
      · exact hall k h1 (by omega)
      · have : k = s + (i + 1) := by omega
        subst this; omega
  · rintro σ H' ⟨y, rfl, rfl, hall⟩
    walk_at "st"
    exact q2 fun k h1 h2 => hall k h1 (by omega)

/-- within_goal(number, goal) -/
def sp_within_goal (_ : PySem.W.Frag) : Sp := fun vs H Q _ => ∃ (x : Option Int) (g : Int), vs = [NV x, .int g] ∧ Q (.bl (lowB x g)) H
theorem len_within_goal (K : PySem.W.Frag) : ∀ vs H Q E, sp_within_goal K vs H Q E → vs.length = 2 := by
  rintro vs H Q E ⟨a, b, rfl, _⟩; rfl
def t_within_goal (K : PySem.W.Frag) : TS :=
  (tRet (tAndV (tOp rNotN (tVar 0) (tC .non)) (tOp rLe (tVar 0) (tVar 1))))
abbrev n_within_goal : List Str := ["number", "goal"]

theorem rd_within_goal (K : PySem.W.Frag) (vs : List V) (H : Hp) (Q : VK) (E : XK) (h : sp_within_goal K vs H Q E) : t_within_goal K { nx := fun _ H' => Q .non H', rt := Q } (start n_within_goal vs) H := by
  obtain ⟨x, g, rfl, q⟩ := h
  unfold t_within_goal
  cases x with
  | none =>
    rw [show NV none = V.non from rfl]
    walk_at "st"
    refine k_ndecT rfl ?_
    walk_at "st"
    exact q
  | some a =>
    rw [show NV (some a) = V.int a from rfl]
    walk_at "st"
    refine k_ndecF (fun z => nomatch z) ?_
    walk_at "st"
    exact q

/-- first_at_most(many, look, start, goal) -/
def sp_first_at_most (K : PySem.W.Frag) (CL : CLs) : Sp := fun vs H Q E => ∃ (many : Nat) (g : Addr) (i gl : Int) (ns : List Int) (n : Nat) (q : Option Addr) (I : List Nat → Hp → Prop) (L : List Nat), vs = [.int (many : Int), .ref g, .int i, .int gl] ∧ many ≤ 4096 ∧ ns.length ≤ many ∧
  LookR CL g n (fun k => NV (bear ns (hOf many) k)) q I ∧ 2 * 2 ^ hOf many ≤ n ∧ I L H ∧ L.length < 900 ∧
  ((i < 0 ∨ (many : Int) < i) → E (.ref (He.ga K "NoPlace")) none H) ∧
  (∀ a : Nat, i = (a : Int) → a ≤ many → ∀ (r : Option Nat) (L2 : List Nat) H', FirstLow ns a many gl r → L2.length ≤ 3 * hOf many + 2 → (∀ k ∈ L2, 1 ≤ k ∧ k < 2 * 2 ^ hOf many) → I (L ++ L2) H' → SameX q H H' → Q (PV r) H')
theorem len_first_at_most (K : PySem.W.Frag) (CL : CLs) : ∀ vs H Q E, sp_first_at_most K CL vs H Q E → vs.length = 4 := by
  rintro vs H Q E ⟨m, g, i, j, ns, n, q, I, L, rfl, _⟩; rfl
def t_first_at_most (K : PySem.W.Frag) (CL : CLs) (E : XK) : TS :=
  (tSeq (tAsg (tCall (sp_size_of K) [] E0 (tCons (tVar 0) tNil)) (gName 4))
  (tSeq (tFor (iList K (tCall (sp_cover K) [] E (tCons (tVar 0) (tCons (tVar 2) (tCons (tVar 0) tNil))))) (gName 5)
  (tIfS (tB (tCall (sp_within_goal K) [] E0 (tCons (tCallV CL 9 1 (tCons (tVar 5) tNil)) (tCons (tVar 3) tNil))))
  (tSeq (tAsg (tVar 5) (gName 6))
  (tSeq (tWhile (tTest (tOp rLt (tVar 6) (tVar 4)))
  (tSeq (tAsg (tOp rTimes (tC (.int 2)) (tVar 6)) (gName 6))
  (tIfS (tNot (tB (tCall (sp_within_goal K) [] E0 (tCons (tCallV CL 9 1 (tCons (tVar 6) tNil)) (tCons (tVar 3) tNil)))))
  (tAug 6 (tC (.int 1)) (ipI fun i j => i + j))
  tNext)))
  (tRet (tOp rMinus (tVar 6) (tVar 4)))))
  tNext))
  (tRet (tC .non))))
abbrev n_first_at_most : List Str := ["many", "look", "start", "goal", "size", "node", "here"]

theorem rd_first_at_most (K : PySem.W.Frag) (CL : CLs) (vs : List V) (H : Hp) (Q : VK) (E : XK) (h : sp_first_at_most K CL vs H Q E) : t_first_at_most K CL E { nx := fun _ H' => Q .non H', rt := Q } (start n_first_at_most vs) H := by
  obtain ⟨many, g, i, gl, ns, n, q, I, L, rfl, hm, hnm, R, hn, hI, hL, q1, q2⟩ := h
  unfold t_first_at_most
  walk_at "st"
  refine ⟨many, rfl, by omega, ?_⟩
  walk_at "st"
  refine ⟨many, i, (many : Int), rfl, by omega, fun z => q1 (by omega), fun a b ea eb hab hbm ps p H1 _ hcv hok hln hp s1 e1 => ?_⟩
  obtain rfl : many = b := by omega
  have hS0 := Nat.two_pow_pos (hOf many)
  have hh := hOf_small hm
  have i1 := R.ext hI s1
  have nq : q ≠ some p := fun z => by
    obtain ⟨xs, e⟩ := R.isq hI p z
    rw [hp] at e; cases e
  have hpos : ∀ nd ∈ ps, 1 ≤ nd.1 ∧ nd.1 < 2 * 2 ^ hOf many := fun nd hnd => by
    have ok := hok nd hnd
    have p2 := Nat.two_pow_pos nd.2
    have hb := Nat.le_mul_of_pos_right (nd.1 + 1) p2
    have hle := ok.le
    have hge := ok.ge
    refine ⟨?_, by omega⟩
    rcases Nat.eq_zero_or_pos nd.1 with z | z
    · rw [z, Nat.zero_mul] at hge; omega
    · exact z
  refine m_iLe (.of e1) ?_
  refine loop_list (xs := ps.map ndV) (fun k σ H' => ∃ y z, σ = [some (.int (many : Int)), some (.ref g), some (.int i), some (.int gl), some (.int ((2 ^ hOf many : Nat) : Int)), y, z] ∧ I (L ++ (ps.take k).map Prod.fst) H' ∧ SameX q H1 H' ∧ ∀ p ∈ ps.take k, lowB (bear ns (hOf many) p.1) gl = false) ⟨none, none, rfl, by simpa using i1, (Same.refl _).toX (R.isq i1), fun _ z => by simp at z⟩ (fun k σ H' _ ⟨_, _, _, _, X, _⟩ => .of (X.get nq e1)) ?_ ?_
  · rintro k v σ H' hv ⟨y, z, rfl, hi, X, hno⟩
    rw [List.getElem?_map] at hv
    cases hnd : ps[k]? with
    | none => rw [hnd] at hv; cases hv
    | some nd =>
    rw [hnd] at hv
    cases hv
    have hlt : k < ps.length := (List.getElem?_eq_some_iff.mp hnd).1
    have ok := hok nd (List.mem_of_getElem? hnd)
    have hps := hpos nd (List.mem_of_getElem? hnd)
    have hf := R.fn hi
    have et : ps.take (k + 1) = ps.take k ++ [nd] := by rw [List.take_add_one, hnd]; rfl
    rw [show ndV nd = V.int (nd.1 : Int) from rfl]
    walk_at "st"
    refine R.ask hi (by rw [List.length_append, List.length_map, List.length_take]; omega) (by omega) fun H2 i2 X2 => ?_
    rw [List.append_assoc, show (ps.take k).map Prod.fst ++ [nd.1] = (ps.take (k + 1)).map Prod.fst by rw [et, List.map_append]; rfl] at i2
    walk_at "st"
    refine ⟨_, _, rfl, ?_⟩
    refine k_bl ?_
    cases hlo : lowB (bear ns (hOf many) nd.1) gl with
    | false =>
      walk_at "st"
      refine ⟨_, _, rfl, i2, X.trans X2, fun p hp => ?_⟩
      rw [et] at hp
      rcases List.mem_append.mp hp with h | h
      · exact hno p h
      · rw [List.mem_singleton.mp h]; exact hlo
    | true =>
      walk_at "st"
      have esp : ps = ps.take k ++ nd :: ps.drop (k + 1) := by
        have := List.getElem?_eq_some_iff.mp hnd
        rw [← this.2, ← List.drop_eq_getElem_cons hlt, List.take_append_drop]
      have hcs := hcv
      rw [esp] at hcs
      have nl0 := covP_NL (by omega) (covP_split hcs).1 (fun p hp => hok p (List.mem_of_mem_take hp)) hno
      rw [show 2 ^ hOf many + a - 2 ^ hOf many = a by omega] at nl0
      have X12 := X.trans X2
      refine loop_while (fun m σ H3 => ∃ (x : Nat) (L3 : List Nat), σ = [some (.int (many : Int)), some (.ref g), some (.int i), some (.int gl), some (.int ((2 ^ hOf many : Nat) : Int)), some (.int (nd.1 : Int)), some (.int (x : Int))] ∧ 2 ^ hOf many + a ≤ x * 2 ^ m ∧ (x + 1) * 2 ^ m ≤ 2 * 2 ^ hOf many ∧ lowB (bear ns (hOf many) x) gl = true ∧ NL ns gl a (x * 2 ^ m - 2 ^ hOf many) ∧ L3.length + m ≤ k + 1 + nd.2 ∧ (∀ k ∈ L3, 1 ≤ k ∧ k < 2 * 2 ^ hOf many) ∧ I (L ++ L3) H3 ∧ SameX q H1 H3) nd.2 ⟨nd.1, (ps.take (k + 1)).map Prod.fst, rfl, covP_mono (covP_split hcs).1, ok.le, hlo, nl0, by rw [List.length_map, List.length_take]; omega, fun k hk => ?_, i2, X12⟩ ?_
      · obtain ⟨nd, hnd, rfl⟩ := List.mem_map.mp hk
        exact hpos nd (List.mem_of_mem_take hnd)
      have hnd2 : nd.2 ≤ hOf many := by
        have h1 : 2 * 2 ^ nd.2 ≤ 2 * 2 ^ hOf many := Nat.le_trans (Nat.mul_le_mul_right _ (show 2 ≤ nd.1 + 1 by omega)) ok.le
        exact (Nat.pow_le_pow_iff_right (a := 2) (by decide)).mp (by omega)
      rintro m σ H3 ⟨x, L3, rfl, hx1, hx2, hlw, hnl, hl3, hr3, i3, X3⟩
      have p2 := Nat.two_pow_pos m
      walk_at "st"
      walk_at "if" <;> intro c
      · obtain ⟨m, rfl⟩ : ∃ m', m = m' + 1 := by
          cases m with
          | zero => rw [Nat.pow_zero, Nat.mul_one] at hx1; omega
          | succ m => exact ⟨m, rfl⟩
        have q2 := Nat.two_pow_pos m
        have hx0 : 1 ≤ x := by
          rcases Nat.eq_zero_or_pos x with z | z
          · rw [z, Nat.zero_mul] at hx1; omega
          · exact z
        rw [pow2_succ] at hx1 hx2 hnl
        have a1 : x * (2 * 2 ^ m) = 2 * x * 2 ^ m := by rw [Nat.mul_left_comm, Nat.mul_assoc]
        have a2 : (x + 1) * (2 * 2 ^ m) = (2 * x + 1 + 1) * 2 ^ m := by rw [Nat.mul_left_comm, ← Nat.mul_assoc, Nat.mul_add]
        have a3 : (2 * x + 1) * 2 ^ m = 2 * x * 2 ^ m + 2 ^ m := Nat.succ_mul _ _
        have a4 : (2 * x + 1 + 1) * 2 ^ m = (2 * x + 1) * 2 ^ m + 2 ^ m := Nat.succ_mul _ _
        rw [a1] at hx1 hnl
        rw [a2] at hx2
        have hf3 := R.fn i3
        have hbn := bear_node (ns := ns) hx0 (show x < 2 ^ hOf many by omega)
        refine m_wbody ?_
        walk_at "st"
        rw [show (2 : Int) * (x : Int) = ((2 * x : Nat) : Int) by omega]
        walk_at "st"
        refine R.ask i3 (by rw [List.length_append]; omega) (by omega) fun H4 i4 X4 => ?_
        rw [List.append_assoc] at i4
        walk_at "st"
        refine ⟨_, _, rfl, ?_⟩
        have hr4 : ∀ k ∈ L3 ++ [2 * x], 1 ≤ k ∧ k < 2 * 2 ^ hOf many := fun k hk => by
          rcases List.mem_append.mp hk with h | h
          · exact hr3 k h
          · rw [List.mem_singleton.mp h]; omega
        refine k_bl ?_
        cases hlo2 : lowB (bear ns (hOf many) (2 * x)) gl with
        | true =>
          walk_at "st"
          exact ⟨m, by omega, 2 * x, L3 ++ [2 * x], rfl, hx1, by omega, hlo2, hnl, by rw [List.length_append, List.length_singleton]; omega, hr4, i4, X3.trans X4⟩
        | false =>
          walk_at "st"
          rw [hbn, lowB_min, hlo2, Bool.false_or] at hlw
          have nl2 := lowB_node (e := m) (by omega) (by omega) hlo2
          exact ⟨m, by omega, 2 * x + 1, L3 ++ [2 * x], rfl, by omega, hx2, hlw, hnl.join nl2, by rw [List.length_append, List.length_singleton]; omega, hr4, i4, X3.trans X4⟩
      · have hx3 : 2 ^ hOf many ≤ x := by omega
        have hm0 : m = 0 := by
          rcases Nat.eq_zero_or_pos m with z | z
          · exact z
          · exfalso
            obtain ⟨m, rfl⟩ : ∃ m', m = m' + 1 := ⟨m - 1, by omega⟩
            have q2 := Nat.two_pow_pos m
            rw [pow2_succ] at hx2
            have := Nat.le_trans (Nat.mul_le_mul_left (x + 1) (show 2 * 1 ≤ 2 * 2 ^ m by omega)) hx2
            omega
        subst hm0
        rw [Nat.pow_zero, Nat.mul_one] at hnl
        walk_at "st"
        obtain ⟨v, ev, hv⟩ := lowB_leaf hx3 hlw
        have hvl := (List.getElem?_eq_some_iff.mp ev).1
        have ea2 : a ≤ x - 2 ^ hOf many := by rw [Nat.pow_zero, Nat.mul_one] at hx1; omega
        have := q2 a ea hab (some (x - 2 ^ hOf many)) L3 H3 ⟨ea2, by omega, ⟨v, ev, hv⟩, hnl⟩ (by omega) hr3 i3 ((s1.toX (R.isq hI)).trans X3)
        rw [show (x : Int) - ((2 ^ hOf many : Nat) : Int) = ((x - 2 ^ hOf many : Nat) : Int) by omega]
        exact this
  · rintro σ H' ⟨y, z, rfl, hi, X, hno⟩
    walk_at "st"
    rw [List.length_map, List.take_length] at hi
    rw [List.length_map, List.take_length] at hno
    have nl0 := covP_NL (by omega) hcv hok hno
    rw [show 2 ^ hOf many + a - 2 ^ hOf many = a by omega, show 2 ^ hOf many + many - 2 ^ hOf many = many by omega] at nl0
    refine q2 a ea hab none (ps.map Prod.fst) H' nl0 (by rw [List.length_map]; omega) (fun k hk => ?_) hi ((s1.toX (R.isq hI)).trans X)
    obtain ⟨nd, hnd, rfl⟩ := List.mem_map.mp hk
    exact hpos nd hnd

/-- first_part(tables, look, number, start, goal) -/
def sp_first_part (K : PySem.W.Frag) (CL : CLs) : Sp := fun vs H Q _ => ∃ (t g : Addr) (j s : Nat) (gl : Int) (bs : List Int) (q : Option Addr) (I : List Nat → Hp → Prop) (L : List Nat), vs = [.ref t, .ref g, .int (j : Int), .int (s : Int), .int gl] ∧ BrAt K CL H t g bs q I ∧ I L H ∧ L.length < 985 ∧ j < (bs.length + 31) / 32 ∧ s ≤ 32 ∧ 32 * j + s ≤ bs.length ∧
  ∀ (r : Option Nat) H', FirstH bs gl (32 * j + s) (min (32 * j + 32) bs.length) r → I (L ++ [j]) H' → SameX q H H' → Q (PV r) H'
theorem len_first_part (K : PySem.W.Frag) (CL : CLs) : ∀ vs H Q E, sp_first_part K CL vs H Q E → vs.length = 5 := by
  rintro vs H Q E ⟨t, g, a, s, u, _, _, _, _, rfl, _⟩; rfl
def t_first_part (K : PySem.W.Frag) (CL : CLs) : TS :=
  (tSeq (tAsg (tCB rMin2 (tCons (tC (.int 32)) (tCons (tOp rMinus (tOp (rIxT K) (tVar 0) (tC (.int 0))) (tOp rTimes (tC (.int 32)) (tVar 2))) tNil))) (gName 5))
  (tSeq (tAsg (tCall (sp_first_low_in K) [] E0 (tCons (tCallV CL 9 1 (tCons (tVar 2) tNil)) (tCons (tVar 3) (tCons (tVar 5) (tCons (tOp rMinus (tVar 4) (tCall (sp_begin_height K) [] E0 (tCons (tOp (rIxT K) (tVar 0) (tC (.int 1))) (tCons (tVar 2) tNil)))) tNil))))) (gName 6))
  (tSeq (tIfS (tTest (tOp rIsN (tVar 6) (tC .non)))
  (tRet (tC .non))
  tNext)
  (tRet (tOp rPlus (tOp rTimes (tC (.int 32)) (tVar 2)) (tVar 6))))))
abbrev n_first_part : List Str := ["tables", "look", "number", "start", "goal", "stop", "found"]

theorem rd_first_part (K : PySem.W.Frag) (CL : CLs) (vs : List V) (H : Hp) (Q : VK) (E : XK) (h : sp_first_part K CL vs H Q E) : t_first_part K CL { nx := fun _ H' => Q .non H', rt := Q } (start n_first_part vs) H := by
  obtain ⟨t, g, j, s, gl, bs, q, I, L, rfl, R, hI, hL, hj, hs, hsn, qq⟩ := h
  obtain ⟨pa, ph, hT, hA, hP⟩ := R.tab
  have hf := R.look.fn hI
  have hg := blks_getD hj
  unfold t_first_part
  walk_at "st"
  refine k_ixT hT (at_int (by decide) rfl) ?_
  walk_at "st"
  have hu : (if (bs.length : Int) - 32 * (j : Int) < 32 then (bs.length : Int) - 32 * (j : Int) else 32) = ((min 32 (bs.length - 32 * j) : Nat) : Int) := by
    split <;> omega
  rw [hu]
  refine R.look.ask hI (by omega) (by rw [blks_len]; exact hj) fun H1 i1 s1 => ?_
  obtain ⟨pa, ph, hT, hA, hP⟩ := (R.moveX s1).tab
  walk_at "st"
  refine k_ixT hT (at_int (by decide) rfl) ?_
  walk_at "st"
  refine ⟨pa, bs, j, rfl, hA, by omega, ?_⟩
  walk_at "st"
  refine ⟨_, _, s, min 32 (bs.length - 32 * j), rfl, by omega, by omega, fun H2 s2 => ⟨fun k k1 k2 k3 k4 => ?_, fun hn => ?_⟩⟩
  · have hk := net_blks R.bits hg k (by omega)
    have := qq (some (32 * j + k)) H2 ⟨by omega, by omega, by omega, fun i i1 i2 => by
      have h1 := k4 (i - 32 * j) (by omega) (by omega)
      have h2 := net_blks R.bits hg (i - 32 * j) (by omega)
      rw [show 32 * j + (i - 32 * j) = i by omega] at h2
      omega⟩ (R.look.ext i1 s2) (s1.andS s2)
    walk_at "st"
    refine k_decF (fun z => nomatch z) ?_
    walk_at "st"
    rw [show (32 : Int) * (j : Int) + (k : Int) = ((32 * j + k : Nat) : Int) by omega]
    exact this
  · have := qq none H2 (fun i i1 i2 => by
      have h1 := hn (i - 32 * j) (by omega) (by omega)
      have h2 := net_blks R.bits hg (i - 32 * j) (by omega)
      rw [show 32 * j + (i - 32 * j) = i by omega] at h2
      omega) (R.look.ext i1 s2) (s1.andS s2)
    walk_at "st"
    refine k_decT rfl ?_
    walk_at "st"
    exact this
/-- low_behind(tables, look, at, goal) -/
def sp_low_behind (K : PySem.W.Frag) (CL : CLs) : Sp := fun vs H Q E => ∃ (t g : Addr) (x gl : Int) (bs : List Int) (q : Option Addr) (I : List Nat → Hp → Prop) (L : List Nat), vs = [.ref t, .ref g, .int x, .int gl] ∧ BrAt K CL H t g bs q I ∧ I L H ∧ L.length < 980 ∧ NdefX.TabN H (tabP K "node_look") nmL ∧
  ((x < 0 ∨ (bs.length : Int) < x) → E (.ref (He.ga K "NoPlace")) none H) ∧
  (∀ a : Nat, x = (a : Int) → a ≤ bs.length → ∀ (r : Option Nat) (L2 : List Nat) H', FirstH bs gl a bs.length r → L2.length ≤ 2 → (∀ j ∈ L2, j < (blks bs).length) → I (L ++ L2) H' → SameX q H H' → Q (PV r) H')
theorem len_low_behind (K : PySem.W.Frag) (CL : CLs) : ∀ vs H Q E, sp_low_behind K CL vs H Q E → vs.length = 4 := by
  rintro vs H Q E ⟨t, g, x, y, _, _, _, _, rfl, _⟩; rfl
def t_low_behind (K : PySem.W.Frag) (CL : CLs) (E : XK) : TS :=
  (tSeq (tDrop (tCall (sp_check_place K) [] E (tCons (tVar 0) (tCons (tVar 2) tNil))))
  (tSeq (tIfS (tTest (tOp rEq (tVar 2) (tOp (rIxT K) (tVar 0) (tC (.int 0)))))
  (tRet (tC .non))
  tNext)
  (tSeq (tAsg (tOp rDiv (tVar 2) (tC (.int 32))) (gName 4))
  (tSeq (tAsg (tCall (sp_first_part K CL) [] E0 (tCons (tVar 0) (tCons (tVar 1) (tCons (tVar 4) (tCons (tOp rMinus (tVar 2) (tOp rTimes (tC (.int 32)) (tVar 4))) (tCons (tVar 3) tNil)))))) (gName 5))
  (Evl.tCut (tIfS (tTest (tOp rIsN (tVar 5) (tC .non)))
  (tSeq (tAsg (tCall (sp_first_at_most K CL) [] E (tCons (tOp rMinus (tCB (rLen K) (tCons (tOp (rIxT K) (tVar 0) (tC (.int 1))) tNil)) (tC (.int 1))) (tCons (tCall (sp_node_look K CL) [] E0 (tCons (tVar 0) tNil)) (tCons (tOp rPlus (tVar 4) (tC (.int 1))) (tCons (tVar 3) tNil))))) (gName 4))
  (tIfS (tTest (tOp rNotN (tVar 4) (tC .non)))
  (tAsg (tCall (sp_first_part K CL) [] E0 (tCons (tVar 0) (tCons (tVar 1) (tCons (tVar 4) (tCons (tC (.int 0)) (tCons (tVar 3) tNil)))))) (gName 5))
  tNext))
  tNext)
  (tRet (tVar 5)))))))
abbrev n_low_behind : List Str := ["tables", "look", "at", "goal", "number", "found"]

theorem rd_low_behind (K : PySem.W.Frag) (CL : CLs) (vs : List V) (H : Hp) (Q : VK) (E : XK) (h : sp_low_behind K CL vs H Q E) : t_low_behind K CL E { nx := fun _ H' => Q .non H', rt := Q } (start n_low_behind vs) H := by
  obtain ⟨t, g, x, gl, bs, q, I, L, rfl, R, hI, hL, hTb, q1, q2⟩ := h
  obtain ⟨pa, ph, hT, hA, hP⟩ := R.tab
  have hlen := R.len
  have hbl := blks_len bs
  unfold t_low_behind
  walk_at "st"
  refine ⟨t, bs.length, _, x, rfl, hT, q1, fun hx0 hx1 => ?_⟩
  obtain ⟨a, rfl⟩ := Int.eq_ofNat_of_zero_le hx0
  have han : a ≤ bs.length := by omega
  replace q2 := q2 a rfl han
  walk_at "st"
  refine k_ixT hT (at_int (by decide) rfl) ?_
  walk_at "st"
  walk_at "if" <;> intro c
  · walk_at "st"
    have hae : a = bs.length := by omega
    exact q2 none [] H (fun k k1 k2 => by omega) (by simp) (fun j hj => by cases hj) (by rw [List.append_nil]; exact hI) ((Same.refl _).toX (R.look.isq hI))
  have hlt : a < bs.length := by omega
  walk_at "st"
  rw [show (a : Int) / 32 = ((a / 32 : Nat) : Int) by omega]
  obtain ⟨i, hi⟩ : ∃ i, i = a / 32 := ⟨_, rfl⟩
  rw [← hi]
  walk_at "st"
  refine ⟨t, g, i, a - 32 * i, gl, bs, q, I, L, by rw [show (a : Int) - 32 * (i : Int) = ((a - 32 * i : Nat) : Int) by omega], R, hI, by omega, by omega, by omega, by omega, fun r1 H1 hr1 i1 X1 => ?_⟩
  rw [show 32 * i + (a - 32 * i) = a by omega] at hr1
  have in1 : ∀ j ∈ [i], j < (blks bs).length := fun j hj => by rw [List.mem_singleton.mp hj]; omega
  cases r1 with
  | some k =>
    rw [show PV (some k) = V.int (k : Int) from rfl]
    walk_at "st"
    refine m_cut0 ?_
    walk_at "st"
    refine k_decF (fun z => nomatch z) ?_
    walk_at "st"
    exact q2 (some k) [i] H1 ⟨hr1.1, by have := hr1.2.1; omega, hr1.2.2.1, hr1.2.2.2⟩ (by simp) in1 i1 X1
  | none =>
    have hr1 : HN bs gl a (min (32 * i + 32) bs.length) := hr1
    obtain ⟨pa2, ph2, hT2, hA2, hP2⟩ := (R.moveX X1).tab
    rw [show PV none = V.non from rfl]
    walk_at "st"
    refine m_cut0 ?_
    walk_at "st"
    refine k_decT rfl ?_
    walk_at "st"
    refine k_ixT hT2 (at_int (by decide) rfl) ?_
    walk_at "st"
    refine k_lenT hA2 ?_
    walk_at "st"
    rw [List.length_map, aheadT_len, show (((bs.length + 31) / 32 + 1 : Nat) : Int) - 1 = (((bs.length + 31) / 32 : Nat) : Int) by omega]
    refine ⟨t, ph2, _, _, [], heapL (lowsOf bs), rfl, hT2, hP2, X1.tabs _ hTb, fun gn H3 hgn s3 lk => ?_⟩
    have hll := lowsOf_len bs
    have Rn := nodesLook lk
    walk_at "st"
    refine ⟨(bs.length + 31) / 32, gn, (i : Int) + 1, gl, lowsOf bs, _, none, _, [], rfl, by omega, by rw [hll]; exact Nat.le_refl _, Rn, by rw [heapL_len, hll]; exact Nat.le_refl _, LamX.ExtN.refl _, by decide, fun z => by omega, fun a' ea ha' r2 L3 H4 hr2 _ _ i4 X4 => ?_⟩
    obtain rfl : a' = i + 1 := by omega
    have s34 : Same H1 H4 := s3.trans X4.pure
    have i5 := R.look.ext i1 s34
    have X5 : SameX q H H4 := X1.andS s34
    cases r2 with
    | none =>
      rw [show PV none = V.non from rfl]
      walk_at "st"
      refine k_ndecT rfl ?_
      walk_at "st"
      have h2 := hn_blocks R.bits (show NL (lowsOf bs) gl (i + 1) ((bs.length + 31) / 32) from hr2) (Nat.le_refl _)
      refine q2 none [i] H4 (fun k k1 k2 => ?_) (by simp) in1 i5 X5
      rcases Nat.lt_or_ge (32 * i + 32) k with z | z
      · exact h2 k (by omega) (by omega)
      · exact hr1 k k1 (by omega)
    | some j =>
      obtain ⟨j1, j2, ⟨v, ev, hv⟩, j4⟩ := hr2
      rw [show PV (some j) = V.int (j : Int) from rfl]
      walk_at "st"
      refine k_ndecF (fun z => nomatch z) ?_
      walk_at "st"
      refine ⟨t, g, j, 0, gl, bs, q, I, L ++ [i], rfl, R.moveX X5, i5, by rw [List.length_append, List.length_singleton]; omega, j2, by omega, by omega, fun r3 H5 hr3 i6 X6 => ?_⟩
      rw [Nat.add_zero] at hr3
      rw [List.append_assoc] at i6
      have h2 := hn_blocks R.bits j4 (by omega)
      have h3 : HN bs gl a (32 * j) := fun k k1 k2 => by
        rcases Nat.lt_or_ge (32 * i + 32) k with z | z
        · exact h2 k (by omega) (by omega)
        · exact hr1 k k1 (by omega)
      have in2 : ∀ m ∈ [i, j], m < (blks bs).length := fun m hm => by
        simp only [List.mem_cons, List.not_mem_nil, or_false] at hm
        rcases hm with rfl | rfl <;> omega
      cases r3 with
      | none => exact absurd hr3 (low_block R.bits j2 ev hv)
      | some k =>
        obtain ⟨k1, k2, k3, k4⟩ := hr3
        walk_at "st"
        exact q2 (some k) [i, j] H5 ⟨by omega, by omega, k3, h3.join k4⟩ (by simp) in2 i6 (X5.trans X6)

/-- last_low_in(b, start, stop, goal) -/
def sp_last_low_in (_ : PySem.W.Frag) : Sp := fun vs H Q _ => ∃ (b g : Int) (s u : Nat), vs = [.int b, .int (s : Int), .int (u : Int), .int g] ∧ s ≤ u ∧ u ≤ 1000 ∧
  ∀ H', Same H H' → ((∀ k : Nat, s < k → k ≤ u → net b k ≤ g → (∀ j : Nat, k < j → j ≤ u → g < net b j) → Q (.int (k : Int)) H') ∧ ((∀ k : Nat, s < k → k ≤ u → g < net b k) → Q .non H'))
theorem len_last_low_in (K : PySem.W.Frag) : ∀ vs H Q E, sp_last_low_in K vs H Q E → vs.length = 4 := by
  rintro vs H Q E ⟨x, y, z, w, rfl, _⟩; rfl
theorem rgC_down {s u : Nat} (h : s ≤ u) (hu : u ≤ 100000) : RgC (u : Int) (s : Int) (-1) (u - s) := by
  have e := RgC.neg (i := (u : Int)) (j := (s : Int)) (by omega) (by omega) (by omega) (by omega)
  rw [show ((u : Int) - (s : Int)).toNat = u - s by omega] at e
  exact e
def t_last_low_in (K : PySem.W.Frag) : TS :=
  (tSeq (tAsg (tOp rMinus (tOp rTimes (tC (.int 2)) (tCall (sp_ones_in K) [] E0 (tCons (tVar 0) (tCons (tVar 2) tNil)))) (tVar 2)) (gName 4))
  (tSeq (tFor (iRng3 (tCons (tVar 2) (tCons (tVar 1) (tCons (tUn rNeg (tC (.int 1))) tNil)))) (gName 5)
  (tSeq (tIfS (tTest (tOp rLe (tVar 4) (tVar 3)))
  (tRet (tVar 5))
  tNext)
  (tAug 4 (tOp rMinus (tOp rTimes (tC (.int 2)) (tOp rAnd1 (tOp rShr (tVar 0) (tOp rMinus (tVar 5) (tC (.int 1)))) (tC (.int 1)))) (tC (.int 1))) (ipI fun i j => i - j))))
  (tRet (tC .non))))
abbrev n_last_low_in : List Str := ["block", "start", "stop", "goal", "net", "k"]

theorem rd_last_low_in (K : PySem.W.Frag) (vs : List V) (H : Hp) (Q : VK) (E : XK) (h : sp_last_low_in K vs H Q E) : t_last_low_in K { nx := fun _ H' => Q .non H', rt := Q } (start n_last_low_in vs) H := by
  obtain ⟨b, g, s, u, rfl, hs, hu, q⟩ := h
  unfold t_last_low_in
  walk_at "st"
  refine ⟨b, u, rfl, by omega, fun H1 s1 => ?_⟩
  obtain ⟨q1, q2⟩ := q H1 s1
  walk_at "st"
  refine m_rng3e (n := u - s) (rgC_down hs (by omega)) ?_
  refine loop_walk walk_rangeC (fun i σ H' => ∃ y, σ = [some (.int b), some (.int (s : Int)), some (.int (u : Int)), some (.int g), some (.int (net b (u - i))), y] ∧ H' = H1 ∧ i ≤ u - s ∧ ∀ k : Nat, u - i < k → k ≤ u → g < net b k) ⟨none, rfl, rfl, Nat.zero_le _, fun k h1 h2 => by omega⟩ (fun _ _ _ _ => trivial) ?_ ?_
  · rintro i x σ H' H'' hi ⟨y, rfl, rfl, _, hall⟩ ⟨rfl, rfl⟩
    dsimp only
    rw [show ((u : Int) + ((i : Nat) : Int) * -1) = ((u - i : Nat) : Int) by omega]
    walk_at "st"
    walk_at "if" <;> intro c
    · walk_at "st"
      exact q1 (u - i) (by omega) (by omega) c fun j h1 h2 => hall j h1 h2
    · walk_at "st"
      obtain ⟨r, hr⟩ : ∃ r, u - i = r + 1 := ⟨u - i - 1, by omega⟩
      refine ⟨some (.int ((u - i : Nat) : Int)), ?_, rfl, by omega, fun k h1 h2 => ?_⟩
      · have e : net b (u - i) - (2 * (b / 2 ^ (((u - i : Nat) : Int) - 1).toNat % 2) - 1) = net b (u - (i + 1)) := by
          rw [show u - (i + 1) = r by omega, hr, net_succ, show ((((r + 1 : Nat) : Int)) - 1).toNat = r by omega]
          show net b r + (2 * bit b r - 1) - (2 * bit b r - 1) = _
          omega
        rw [e]; rfl
      · rcases Nat.lt_or_ge (u - i) k with h | h
        · exact hall k h h2
        · have : k = u - i := by omega
          subst this; omega
  · rintro σ H' ⟨y, rfl, rfl, _, hall⟩
    walk_at "st"
    exact q2 fun k h1 h2 => hall k (by omega) h2

/-- last_at_most(many, look, stop, goal) -/
def sp_last_at_most (K : PySem.W.Frag) (CL : CLs) : Sp := fun vs H Q E => ∃ (many : Nat) (g : Addr) (i gl : Int) (ns : List Int) (n : Nat) (q : Option Addr) (I : List Nat → Hp → Prop) (L : List Nat), vs = [.int (many : Int), .ref g, .int i, .int gl] ∧ many ≤ 4096 ∧ ns.length ≤ many ∧
  LookR CL g n (fun k => NV (bear ns (hOf many) k)) q I ∧ 2 * 2 ^ hOf many ≤ n ∧ I L H ∧ L.length < 900 ∧
  ((i < 0 ∨ (many : Int) < i) → E (.ref (He.ga K "NoPlace")) none H) ∧
  (∀ a : Nat, i = (a : Int) → a ≤ many → ∀ (r : Option Nat) (L2 : List Nat) H', LastLow ns 0 a gl r → L2.length ≤ 3 * hOf many + 2 → (∀ k ∈ L2, 1 ≤ k ∧ k < 2 * 2 ^ hOf many) → I (L ++ L2) H' → SameX q H H' → Q (PV r) H')
theorem len_last_at_most (K : PySem.W.Frag) (CL : CLs) : ∀ vs H Q E, sp_last_at_most K CL vs H Q E → vs.length = 4 := by
  rintro vs H Q E ⟨m, g, i, j, ns, n, q, I, L, rfl, _⟩; rfl
def t_last_at_most (K : PySem.W.Frag) (CL : CLs) (E : XK) : TS :=
  (tSeq (tAsg (tCall (sp_size_of K) [] E0 (tCons (tVar 0) tNil)) (gName 4))
  (tSeq (tFor (iRev K (tCons (tCall (sp_cover K) [] E (tCons (tVar 0) (tCons (tC (.int 0)) (tCons (tVar 2) tNil)))) tNil)) (gName 5)
  (tIfS (tB (tCall (sp_within_goal K) [] E0 (tCons (tCallV CL 9 1 (tCons (tVar 5) tNil)) (tCons (tVar 3) tNil))))
  (tSeq (tAsg (tVar 5) (gName 6))
  (tSeq (tWhile (tTest (tOp rLt (tVar 6) (tVar 4)))
  (tSeq (tAsg (tOp rPlus (tOp rTimes (tC (.int 2)) (tVar 6)) (tC (.int 1))) (gName 6))
  (tIfS (tNot (tB (tCall (sp_within_goal K) [] E0 (tCons (tCallV CL 9 1 (tCons (tVar 6) tNil)) (tCons (tVar 3) tNil)))))
  (tAug 6 (tC (.int 1)) (ipI fun i j => i - j))
  tNext)))
  (tRet (tOp rMinus (tVar 6) (tVar 4)))))
  tNext))
  (tRet (tC .non))))
abbrev n_last_at_most : List Str := ["many", "look", "stop", "goal", "size", "node", "here"]

theorem rd_last_at_most (K : PySem.W.Frag) (CL : CLs) (vs : List V) (H : Hp) (Q : VK) (E : XK) (h : sp_last_at_most K CL vs H Q E) : t_last_at_most K CL E { nx := fun _ H' => Q .non H', rt := Q } (start n_last_at_most vs) H := by
  obtain ⟨many, g, i, gl, ns, n, q, I, L, rfl, hm, hnm, R, hn, hI, hL, q1, q2⟩ := h
  unfold t_last_at_most
  walk_at "st"
  refine ⟨many, rfl, by omega, ?_⟩
  walk_at "st"
  refine ⟨many, 0, i, rfl, by omega, fun z => q1 (by omega), fun z a ez ea hza hab ps p H1 _ hcv hok hln hp s1 e1 => ?_⟩
  obtain rfl : 0 = z := by omega
  rw [Nat.add_zero] at hcv
  have hS0 := Nat.two_pow_pos (hOf many)
  have hh := hOf_small hm
  have hle0 := hOf_le many
  have i1 := R.ext hI s1
  have nq : q ≠ some p := fun z => by
    obtain ⟨xs, e⟩ := R.isq hI p z
    rw [hp] at e; cases e
  have hpos : ∀ nd ∈ ps, 1 ≤ nd.1 ∧ nd.1 < 2 * 2 ^ hOf many := fun nd hnd => by
    have ok := hok nd hnd
    have p2 := Nat.two_pow_pos nd.2
    have hb := Nat.le_mul_of_pos_right (nd.1 + 1) p2
    have hle := ok.le
    have hge := ok.ge
    refine ⟨?_, by omega⟩
    rcases Nat.eq_zero_or_pos nd.1 with z | z
    · rw [z, Nat.zero_mul] at hge; omega
    · exact z
  walk_at "st"
  refine m_revE (.of e1) ?_
  have hprs : ∀ {nd}, nd ∈ ps.reverse → nd ∈ ps := fun h => List.mem_reverse.mp h
  rw [List.length_map]
  refine loop_walk (n := ps.length) (by have := walk_rev (K := K) (a := p) (xs := ps.map ndV); rw [List.length_map] at this; exact this) (fun k σ H' => ∃ y z, σ = [some (.int (many : Int)), some (.ref g), some (.int i), some (.int gl), some (.int ((2 ^ hOf many : Nat) : Int)), y, z] ∧ I (L ++ (ps.reverse.take k).map Prod.fst) H' ∧ SameX q H1 H' ∧ ∀ p ∈ ps.reverse.take k, lowB (bear ns (hOf many) p.1) gl = false) ⟨none, none, rfl, by simpa using i1, (Same.refl _).toX (R.isq i1), fun _ z => by simp at z⟩ (fun k σ H' ⟨_, _, _, _, X, _⟩ => SqL.of (X.get nq e1)) ?_ ?_
  · rintro k v σ H' H'' hlt ⟨y, z, rfl, hi, X, hno⟩ ⟨rfl, hv⟩
    rw [← List.length_map (f := ndV), ← List.getElem?_reverse (by rw [List.length_map]; exact hlt), ← List.map_reverse, List.getElem?_map] at hv
    cases hnd : ps.reverse[k]? with
    | none => rw [hnd] at hv; cases hv
    | some nd =>
    rw [hnd] at hv
    cases hv
    have ok := hok nd (hprs (List.mem_of_getElem? hnd))
    have hps := hpos nd (hprs (List.mem_of_getElem? hnd))
    have hf := R.fn hi
    have et : ps.reverse.take (k + 1) = ps.reverse.take k ++ [nd] := by rw [List.take_add_one, hnd]; rfl
    rw [show ndV nd = V.int (nd.1 : Int) from rfl]
    walk_at "st"
    refine R.ask hi (by rw [List.length_append, List.length_map, List.length_take, List.length_reverse]; omega) (by omega) fun H2 i2 X2 => ?_
    rw [List.append_assoc, show (ps.reverse.take k).map Prod.fst ++ [nd.1] = (ps.reverse.take (k + 1)).map Prod.fst by rw [et, List.map_append]; rfl] at i2
    walk_at "st"
    refine ⟨_, _, rfl, ?_⟩
    refine k_bl ?_
    cases hlo : lowB (bear ns (hOf many) nd.1) gl with
    | false =>
      walk_at "st"
      refine ⟨_, _, rfl, i2, X.trans X2, fun p hp => ?_⟩
      rw [et] at hp
      rcases List.mem_append.mp hp with h | h
      · exact hno p h
      · rw [List.mem_singleton.mp h]; exact hlo
    | true =>
      walk_at "st"
      have esp : ps = (ps.reverse.drop (k + 1)).reverse ++ nd :: (ps.reverse.take k).reverse := by
        have hlr : k < ps.reverse.length := (List.getElem?_eq_some_iff.mp hnd).1
        have h1 : ps.reverse = ps.reverse.take k ++ nd :: ps.reverse.drop (k + 1) := by
          have := List.getElem?_eq_some_iff.mp hnd
          rw [← this.2, ← List.drop_eq_getElem_cons hlr, List.take_append_drop]
        have h2 := congrArg List.reverse h1
        rw [List.reverse_reverse, List.reverse_append, List.reverse_cons, List.append_assoc] at h2
        exact h2
      have hcs := hcv
      rw [esp] at hcs
      have hge := ok.ge
      have p20 := Nat.two_pow_pos nd.2
      have e30 : (nd.1 + 1) * 2 ^ nd.2 = nd.1 * 2 ^ nd.2 + 2 ^ nd.2 := Nat.succ_mul _ _
      have nl0 := covP_NL (by omega) (covP_split hcs).2 (fun p hp => hok p (hprs (List.mem_of_mem_take (List.mem_reverse.mp hp)))) fun p hp => hno p (List.mem_reverse.mp hp)
      rw [show 2 ^ hOf many + a - 2 ^ hOf many = a by omega] at nl0
      have X12 := X.trans X2
      refine loop_while (fun m σ H3 => ∃ (x : Nat) (L3 : List Nat), σ = [some (.int (many : Int)), some (.ref g), some (.int i), some (.int gl), some (.int ((2 ^ hOf many : Nat) : Int)), some (.int (nd.1 : Int)), some (.int (x : Int))] ∧ 2 ^ hOf many ≤ x * 2 ^ m ∧ (x + 1) * 2 ^ m ≤ 2 ^ hOf many + a ∧ lowB (bear ns (hOf many) x) gl = true ∧ NL ns gl ((x + 1) * 2 ^ m - 2 ^ hOf many) a ∧ L3.length + m ≤ k + 1 + nd.2 ∧ (∀ k ∈ L3, 1 ≤ k ∧ k < 2 * 2 ^ hOf many) ∧ I (L ++ L3) H3 ∧ SameX q H1 H3) nd.2 ⟨nd.1, (ps.reverse.take (k + 1)).map Prod.fst, rfl, ok.ge, covP_mono (covP_split hcs).2, hlo, nl0, by rw [List.length_map, List.length_take, List.length_reverse]; omega, fun k hk => ?_, i2, X12⟩ ?_
      · obtain ⟨nd, hnd, rfl⟩ := List.mem_map.mp hk
        exact hpos nd (hprs (List.mem_of_mem_take hnd))
      have hnd2 : nd.2 ≤ hOf many := by
        have h1 : 2 * 2 ^ nd.2 ≤ 2 * 2 ^ hOf many := Nat.le_trans (Nat.mul_le_mul_right _ (show 2 ≤ nd.1 + 1 by omega)) ok.le
        exact (Nat.pow_le_pow_iff_right (a := 2) (by decide)).mp (by omega)
      rintro m σ H3 ⟨x, L3, rfl, hx1, hx2, hlw, hnl, hl3, hr3, i3, X3⟩
      have p2 := Nat.two_pow_pos m
      walk_at "st"
      walk_at "if" <;> intro c
      · obtain ⟨m, rfl⟩ : ∃ m', m = m' + 1 := by
          cases m with
          | zero => rw [Nat.pow_zero, Nat.mul_one] at hx1; omega
          | succ m => exact ⟨m, rfl⟩
        have q2 := Nat.two_pow_pos m
        have hx0 : 1 ≤ x := by
          rcases Nat.eq_zero_or_pos x with z | z
          · rw [z, Nat.zero_mul] at hx1; omega
          · exact z
        rw [pow2_succ] at hx1 hx2 hnl
        have a1 : x * (2 * 2 ^ m) = 2 * x * 2 ^ m := by rw [Nat.mul_left_comm, Nat.mul_assoc]
        have a2 : (x + 1) * (2 * 2 ^ m) = (2 * x + 1 + 1) * 2 ^ m := by rw [Nat.mul_left_comm, ← Nat.mul_assoc, Nat.mul_add]
        have a3 : (2 * x + 1) * 2 ^ m = 2 * x * 2 ^ m + 2 ^ m := Nat.succ_mul _ _
        have a4 : (2 * x + 1 + 1) * 2 ^ m = (2 * x + 1) * 2 ^ m + 2 ^ m := Nat.succ_mul _ _
        rw [a1] at hx1
        rw [a2] at hx2 hnl
        have hf3 := R.fn i3
        have hbn := bear_node (ns := ns) hx0 (show x < 2 ^ hOf many by omega)
        refine m_wbody ?_
        walk_at "st"
        rw [show (2 : Int) * (x : Int) + 1 = ((2 * x + 1 : Nat) : Int) by omega]
        walk_at "st"
        refine R.ask i3 (by rw [List.length_append]; omega) (by omega) fun H4 i4 X4 => ?_
        rw [List.append_assoc] at i4
        walk_at "st"
        refine ⟨_, _, rfl, ?_⟩
        have hr4 : ∀ k ∈ L3 ++ [2 * x + 1], 1 ≤ k ∧ k < 2 * 2 ^ hOf many := fun k hk => by
          rcases List.mem_append.mp hk with h | h
          · exact hr3 k h
          · rw [List.mem_singleton.mp h]; omega
        refine k_bl ?_
        cases hlo2 : lowB (bear ns (hOf many) (2 * x + 1)) gl with
        | true =>
          walk_at "st"
          exact ⟨m, by omega, 2 * x + 1, L3 ++ [2 * x + 1], rfl, by omega, hx2, hlo2, hnl, by rw [List.length_append, List.length_singleton]; omega, hr4, i4, X3.trans X4⟩
        | false =>
          walk_at "st"
          rw [hbn, lowB_min, hlo2, Bool.or_false] at hlw
          have nl2 := lowB_node (e := m) (by omega) (by omega) hlo2
          exact ⟨m, by omega, 2 * x, L3 ++ [2 * x + 1], by rw [show ((2 * x : Nat) : Int) = ((2 * x + 1 : Nat) : Int) - 1 by omega]; rfl, hx1, by omega, hlw, nl2.join hnl, by rw [List.length_append, List.length_singleton]; omega, hr4, i4, X3.trans X4⟩
      · have hx3 : 2 ^ hOf many ≤ x := by omega
        have hm0 : m = 0 := by
          rcases Nat.eq_zero_or_pos m with z | z
          · exact z
          · exfalso
            obtain ⟨m, rfl⟩ : ∃ m', m = m' + 1 := ⟨m - 1, by omega⟩
            have q2 := Nat.two_pow_pos m
            rw [pow2_succ] at hx2
            have := Nat.le_trans (Nat.mul_le_mul_left (x + 1) (show 2 * 1 ≤ 2 * 2 ^ m by omega)) hx2
            omega
        subst hm0
        rw [Nat.pow_zero, Nat.mul_one] at hnl hx2
        walk_at "st"
        obtain ⟨v, ev, hv⟩ := lowB_leaf hx3 hlw
        rw [show x + 1 - 2 ^ hOf many = x - 2 ^ hOf many + 1 by omega] at hnl
        have := q2 a ea hab (some (x - 2 ^ hOf many)) L3 H3 ⟨Nat.zero_le _, by omega, ⟨v, ev, hv⟩, hnl⟩ (by omega) hr3 i3 ((s1.toX (R.isq hI)).trans X3)
        rw [show (x : Int) - ((2 ^ hOf many : Nat) : Int) = ((x - 2 ^ hOf many : Nat) : Int) by omega]
        exact this
  · rintro σ H' ⟨y, z, rfl, hi, X, hno⟩
    walk_at "st"
    rw [← List.length_reverse, List.take_length] at hi
    rw [← List.length_reverse, List.take_length] at hno
    have nl0 := covP_NL (by omega) hcv hok fun p hp => hno p (List.mem_reverse.mpr hp)
    rw [show 2 ^ hOf many + a - 2 ^ hOf many = a by omega, Nat.sub_self] at nl0
    refine q2 a ea hab none (ps.reverse.map Prod.fst) H' nl0 (by rw [List.length_map, List.length_reverse]; omega) (fun k hk => ?_) hi ((s1.toX (R.isq hI)).trans X)
    obtain ⟨nd, hnd, rfl⟩ := List.mem_map.mp hk
    exact hpos nd (hprs hnd)

/-- last_part(tables, look, number, stop, goal) -/
def sp_last_part (K : PySem.W.Frag) (CL : CLs) : Sp := fun vs H Q _ => ∃ (t g : Addr) (j u : Nat) (gl : Int) (bs : List Int) (q : Option Addr) (I : List Nat → Hp → Prop) (L : List Nat), vs = [.ref t, .ref g, .int (j : Int), .int (u : Int), .int gl] ∧ BrAt K CL H t g bs q I ∧ I L H ∧ L.length < 985 ∧ j < (bs.length + 31) / 32 ∧ u ≤ 32 ∧ 32 * j + u ≤ bs.length ∧
  ∀ (r : Option Nat) H', LastH bs gl (32 * j) (32 * j + u) r → I (L ++ [j]) H' → SameX q H H' → Q (PV r) H'
theorem len_last_part (K : PySem.W.Frag) (CL : CLs) : ∀ vs H Q E, sp_last_part K CL vs H Q E → vs.length = 5 := by
  rintro vs H Q E ⟨t, g, a, s, u, _, _, _, _, rfl, _⟩; rfl
def t_last_part (K : PySem.W.Frag) (CL : CLs) : TS :=
  (tSeq (tAsg (tCall (sp_last_low_in K) [] E0 (tCons (tCallV CL 9 1 (tCons (tVar 2) tNil)) (tCons (tC (.int 0)) (tCons (tVar 3) (tCons (tOp rMinus (tVar 4) (tCall (sp_begin_height K) [] E0 (tCons (tOp (rIxT K) (tVar 0) (tC (.int 1))) (tCons (tVar 2) tNil)))) tNil))))) (gName 5))
  (tSeq (tIfS (tTest (tOp rIsN (tVar 5) (tC .non)))
  (tRet (tC .non))
  tNext)
  (tRet (tOp rPlus (tOp rTimes (tC (.int 32)) (tVar 2)) (tVar 5)))))
abbrev n_last_part : List Str := ["tables", "look", "number", "stop", "goal", "found"]

theorem rd_last_part (K : PySem.W.Frag) (CL : CLs) (vs : List V) (H : Hp) (Q : VK) (E : XK) (h : sp_last_part K CL vs H Q E) : t_last_part K CL { nx := fun _ H' => Q .non H', rt := Q } (start n_last_part vs) H := by
  obtain ⟨t, g, j, u, gl, bs, q, I, L, rfl, R, hI, hL, hj, hu, hun, qq⟩ := h
  have hf := R.look.fn hI
  have hg := blks_getD hj
  unfold t_last_part
  walk_at "st"
  refine R.look.ask hI (by omega) (by rw [blks_len]; exact hj) fun H1 i1 s1 => ?_
  obtain ⟨pa, ph, hT, hA, hP⟩ := (R.moveX s1).tab
  walk_at "st"
  refine k_ixT hT (at_int (by decide) rfl) ?_
  walk_at "st"
  refine ⟨pa, bs, j, rfl, hA, by omega, ?_⟩
  walk_at "st"
  refine ⟨_, _, 0, u, rfl, by omega, by omega, fun H2 s2 => ⟨fun k k1 k2 k3 k4 => ?_, fun hn => ?_⟩⟩
  · have hk := net_blks R.bits hg k (by omega)
    have := qq (some (32 * j + k)) H2 ⟨by omega, by omega, by omega, fun i i1 i2 => by
      have h1 := k4 (i - 32 * j) (by omega) (by omega)
      have h2 := net_blks R.bits hg (i - 32 * j) (by omega)
      rw [show 32 * j + (i - 32 * j) = i by omega] at h2
      omega⟩ (R.look.ext i1 s2) (s1.andS s2)
    walk_at "st"
    refine k_decF (fun z => nomatch z) ?_
    walk_at "st"
    rw [show (32 : Int) * (j : Int) + (k : Int) = ((32 * j + k : Nat) : Int) by omega]
    exact this
  · have := qq none H2 (fun i i1 i2 => by
      have h1 := hn (i - 32 * j) (by omega) (by omega)
      have h2 := net_blks R.bits hg (i - 32 * j) (by omega)
      rw [show 32 * j + (i - 32 * j) = i by omega] at h2
      omega) (R.look.ext i1 s2) (s1.andS s2)
    walk_at "st"
    refine k_decT rfl ?_
    walk_at "st"
    exact this
/-- the last low place ahead of one -/
def LastA (bs : List Int) (g : Int) (a : Nat) : Option Nat → Prop
  | none => ∀ k, k < a → g < hgt bs k
  | some k => k < a ∧ hgt bs k ≤ g ∧ ∀ j, k < j → j < a → g < hgt bs j

/-- low_ahead(tables, look, at, goal) -/
def sp_low_ahead (K : PySem.W.Frag) (CL : CLs) : Sp := fun vs H Q E => ∃ (t g : Addr) (x gl : Int) (bs : List Int) (q : Option Addr) (I : List Nat → Hp → Prop) (L : List Nat), vs = [.ref t, .ref g, .int x, .int gl] ∧ BrAt K CL H t g bs q I ∧ I L H ∧ L.length < 980 ∧ NdefX.TabN H (tabP K "node_look") nmL ∧
  ((x < 0 ∨ (bs.length : Int) < x) → E (.ref (He.ga K "NoPlace")) none H) ∧
  (∀ a : Nat, x = (a : Int) → a ≤ bs.length → ∀ (r : Option Nat) (L2 : List Nat) H', LastA bs gl a r → L2.length ≤ 2 → (∀ j ∈ L2, j < (blks bs).length) → I (L ++ L2) H' → SameX q H H' → Q (PV r) H')
theorem len_low_ahead (K : PySem.W.Frag) (CL : CLs) : ∀ vs H Q E, sp_low_ahead K CL vs H Q E → vs.length = 4 := by
  rintro vs H Q E ⟨t, g, x, y, _, _, _, _, rfl, _⟩; rfl
def t_low_ahead (K : PySem.W.Frag) (CL : CLs) (E : XK) : TS :=
  (tSeq (tDrop (tCall (sp_check_place K) [] E (tCons (tVar 0) (tCons (tVar 2) tNil))))
  (tSeq (tAsg (tC .non) (gName 4))
  (Evl.tCut (tIfS (tTest (tOp rGtI (tVar 2) (tC (.int 1))))
  (tSeq (tAsg (tOp rDiv (tOp rMinus (tVar 2) (tC (.int 2))) (tC (.int 32))) (gName 5))
  (tSeq (tAsg (tCall (sp_last_part K CL) [] E0 (tCons (tVar 0) (tCons (tVar 1) (tCons (tVar 5) (tCons (tOp rMinus (tOp rMinus (tVar 2) (tC (.int 1))) (tOp rTimes (tC (.int 32)) (tVar 5))) (tCons (tVar 3) tNil)))))) (gName 4))
  (tIfS (tTest (tOp rIsN (tVar 4) (tC .non)))
  (tSeq (tAsg (tCall (sp_last_at_most K CL) [] E (tCons (tOp rMinus (tCB (rLen K) (tCons (tOp (rIxT K) (tVar 0) (tC (.int 1))) tNil)) (tC (.int 1))) (tCons (tCall (sp_node_look K CL) [] E0 (tCons (tVar 0) tNil)) (tCons (tVar 5) (tCons (tVar 3) tNil))))) (gName 5))
  (tIfS (tTest (tOp rNotN (tVar 5) (tC .non)))
  (tAsg (tCall (sp_last_part K CL) [] E0 (tCons (tVar 0) (tCons (tVar 1) (tCons (tVar 5) (tCons (tC (.int 32)) (tCons (tVar 3) tNil)))))) (gName 4))
  tNext))
  tNext)))
  tNext)
  (tSeq (tIfS (tAnd (tTest (tOp rIsN (tVar 4) (tC .non))) (tAnd (tTest (tOp rGtI (tVar 2) (tC (.int 0)))) (tTest (tOp rGeI (tVar 3) (tC (.int 0))))))
  (tRet (tC (.int 0)))
  tNext)
  (tRet (tVar 4))))))
abbrev n_low_ahead : List Str := ["tables", "look", "at", "goal", "found", "number"]

theorem rd_low_ahead (K : PySem.W.Frag) (CL : CLs) (vs : List V) (H : Hp) (Q : VK) (E : XK) (h : sp_low_ahead K CL vs H Q E) : t_low_ahead K CL E { nx := fun _ H' => Q .non H', rt := Q } (start n_low_ahead vs) H := by
  obtain ⟨t, g, x, gl, bs, q, I, L, rfl, R, hI, hL, hTb, q1, q2⟩ := h
  obtain ⟨pa, ph, hT, hA, hP⟩ := R.tab
  have hlen := R.len
  have hbl := blks_len bs
  unfold t_low_ahead
  walk_at "st"
  refine ⟨t, bs.length, _, x, rfl, hT, q1, fun hx0 hx1 => ?_⟩
  obtain ⟨a, rfl⟩ := Int.eq_ofNat_of_zero_le hx0
  have han : a ≤ bs.length := by omega
  replace q2 := q2 a rfl han
  walk_at "st"
  refine m_cut (fun σ' H' => ∃ (r : Option Nat) (L2 : List Nat) (v : Option V), LastH bs gl 0 (a - 1) r ∧ L2.length ≤ 2 ∧ (∀ j ∈ L2, j < (blks bs).length) ∧ I (L ++ L2) H' ∧ SameX q H H' ∧ σ' = [some (.ref t), some (.ref g), some (.int (a : Int)), some (.int gl), some (PV r), v]) ?_ ?_
  · walk_at "st"
    walk_at "if" <;> intro c
    · walk_at "st"
      rw [show ((a : Int) - 2) / 32 = (((a - 2) / 32 : Nat) : Int) by omega]
      obtain ⟨i, hi⟩ : ∃ i, i = (a - 2) / 32 := ⟨_, rfl⟩
      rw [← hi]
      walk_at "st"
      have in1 : ∀ j ∈ [i], j < (blks bs).length := fun j hj => by rw [List.mem_singleton.mp hj]; omega
      refine ⟨t, g, i, a - 1 - 32 * i, gl, bs, q, I, L, by rw [show (a : Int) - 1 - 32 * (i : Int) = ((a - 1 - 32 * i : Nat) : Int) by omega], R, hI, by omega, by omega, by omega, by omega, fun r1 H1 hr1 i1 X1 => ?_⟩
      rw [show 32 * i + (a - 1 - 32 * i) = a - 1 by omega] at hr1
      cases r1 with
      | some k =>
        rw [show PV (some k) = V.int (k : Int) from rfl]
        walk_at "st"
        refine k_decF (fun z => nomatch z) ?_
        walk_at "st"
        exact ⟨some k, [i], _, ⟨by have := hr1.1; omega, hr1.2.1, hr1.2.2.1, hr1.2.2.2⟩, by simp, in1, i1, X1, rfl⟩
      | none =>
        have hr1 : HN bs gl (32 * i) (a - 1) := hr1
        obtain ⟨pa2, ph2, hT2, hA2, hP2⟩ := (R.moveX X1).tab
        rw [show PV none = V.non from rfl]
        walk_at "st"
        refine k_decT rfl ?_
        walk_at "st"
        refine k_ixT hT2 (at_int (by decide) rfl) ?_
        walk_at "st"
        refine k_lenT hA2 ?_
        walk_at "st"
        rw [List.length_map, aheadT_len, show (((bs.length + 31) / 32 + 1 : Nat) : Int) - 1 = (((bs.length + 31) / 32 : Nat) : Int) by omega]
        refine ⟨t, ph2, _, _, [], heapL (lowsOf bs), rfl, hT2, hP2, X1.tabs _ hTb, fun gn H3 hgn s3 lk => ?_⟩
        have hll := lowsOf_len bs
        have Rn := nodesLook lk
        walk_at "st"
        refine ⟨(bs.length + 31) / 32, gn, (i : Int), gl, lowsOf bs, _, none, _, [], rfl, by omega, by rw [hll]; exact Nat.le_refl _, Rn, by rw [heapL_len, hll]; exact Nat.le_refl _, LamX.ExtN.refl _, by decide, fun z => by omega, fun a' ea ha' r2 L3 H4 hr2 _ _ i4 X4 => ?_⟩
        obtain rfl : i = a' := by omega
        have s34 : Same H1 H4 := s3.trans X4.pure
        have i5 := R.look.ext i1 s34
        have X5 : SameX q H H4 := X1.andS s34
        cases r2 with
        | none =>
          rw [show PV none = V.non from rfl]
          walk_at "st"
          refine k_ndecT rfl ?_
          walk_at "st"
          have h2 := hn_blocks R.bits (show NL (lowsOf bs) gl 0 i from hr2) (by omega)
          refine ⟨none, [i], _, fun k k1 k2 => ?_, by simp, in1, i5, X5, rfl⟩
          rcases Nat.lt_or_ge (32 * i) k with z | z
          · exact hr1 k z k2
          · exact h2 k (by omega) (by omega)
        | some j =>
          obtain ⟨j1, j2, ⟨v, ev, hv⟩, j4⟩ := hr2
          rw [show PV (some j) = V.int (j : Int) from rfl]
          walk_at "st"
          refine k_ndecF (fun z => nomatch z) ?_
          walk_at "st"
          refine ⟨t, g, j, 32, gl, bs, q, I, L ++ [i], rfl, R.moveX X5, i5, by rw [List.length_append, List.length_singleton]; omega, by omega, by omega, by omega, fun r3 H5 hr3 i6 X6 => ?_⟩
          rw [List.append_assoc] at i6
          have h2 := hn_blocks R.bits j4 (by omega)
          have h3 : HN bs gl (32 * j + 32) (a - 1) := fun k k1 k2 => by
            rcases Nat.lt_or_ge (32 * i) k with z | z
            · exact hr1 k z k2
            · exact h2 k (by omega) (by omega)
          have in2 : ∀ m ∈ [i, j], m < (blks bs).length := fun m hm => by
            simp only [List.mem_cons, List.not_mem_nil, or_false] at hm
            rcases hm with rfl | rfl <;> omega
          cases r3 with
          | none => exact absurd (show HN bs gl (32 * j) (min (32 * j + 32) bs.length) from HN.less hr3 (by omega)) (low_block R.bits (by omega) ev hv)
          | some k =>
            obtain ⟨k1, k2, k3, k4⟩ := hr3
            walk_at "st"
            exact ⟨some k, [i, j], _, ⟨by omega, by omega, k3, k4.join h3⟩, by simp, in2, i6, X5.trans X6, rfl⟩
    · walk_at "st"
      exact ⟨none, [], _, fun k k1 k2 => by omega, by simp, (fun j hj => by cases hj), by rw [List.append_nil]; exact hI, (Same.refl _).toX (R.look.isq hI), rfl⟩
  rintro σ' H' ⟨r, L2, v, hr, hL2, hin, i1, X1, rfl⟩
  cases r with
  | some k =>
    obtain ⟨k1, k2, k3, k4⟩ := hr
    rw [show PV (some k) = V.int (k : Int) from rfl]
    walk_at "st"
    refine k_decF (fun z => nomatch z) ?_
    walk_at "st"
    exact q2 (some k) L2 H' ⟨by omega, k3, fun j j1 j2 => k4 j j1 (by omega)⟩ hL2 hin i1 X1
  | none =>
    have hr : HN bs gl 0 (a - 1) := hr
    rw [show PV none = V.non from rfl]
    walk_at "st"
    refine k_decT rfl ?_
    walk_at "st"
    walk_at "if" <;> intro c1
    · walk_at "st"
      walk_at "if" <;> intro c2
      · walk_at "st"
        exact q2 (some 0) L2 H' ⟨by omega, by rw [hgt_zero]; omega, fun j j1 j2 => hr j j1 (by omega)⟩ hL2 hin i1 X1
      · walk_at "st"
        refine q2 none L2 H' (fun k k1 => ?_) hL2 hin i1 X1
        rcases Nat.eq_zero_or_pos k with rfl | hk
        · rw [hgt_zero]; omega
        · exact hr k hk (by omega)
    · walk_at "st"
      exact q2 none L2 H' (fun k k1 => by omega) hL2 hin i1 X1

--#base
/-- the lowest height of a < k <= b -/
def LowIs (bs : List Int) (a b : Nat) (v : Int) : Prop := (∃ k, a < k ∧ k ≤ b ∧ v = hgt bs k) ∧ ∀ k, a < k → k ≤ b → v ≤ hgt bs k
theorem LowIs.join {bs : List Int} {a b c : Nat} {v w : Int} (h1 : LowIs bs a b v) (h2 : LowIs bs b c w) : LowIs bs a c (if w < v then w else v) := by
  obtain ⟨⟨k, k1, k2, ek⟩, hk⟩ := h1
  obtain ⟨⟨j, j1, j2, ej⟩, hj⟩ := h2
  refine ⟨?_, fun i i1 i2 => ?_⟩
  · split
    · exact ⟨j, by omega, by omega, ej⟩
    · exact ⟨k, by omega, by omega, ek⟩
  · rcases Nat.lt_or_ge b i with z | z
    · have := hj i z i2; split <;> omega
    · have := hk i i1 z; split <;> omega
theorem LowIs.uniq {bs : List Int} {a b : Nat} {v w : Int} (h1 : LowIs bs a b v) (h2 : LowIs bs a b w) : v = w := by
  obtain ⟨⟨k, k1, k2, ek⟩, hk⟩ := h1
  obtain ⟨⟨j, j1, j2, ej⟩, hj⟩ := h2
  have := hk j j1 j2
  have := hj k k1 k2
  omega
theorem bit_shift (b : Int) (s k : Nat) : bit (b / 2 ^ s) k = bit b (s + k) := by
  unfold bit
  rw [Int.ediv_ediv_of_nonneg (Int.le_of_lt (Int.pow_pos (by decide))), ← Int.pow_add]
theorem ones_shift (b : Int) (s : Nat) : ∀ k, onesIn (b / 2 ^ s) k = onesIn b (s + k) - onesIn b s
  | 0 => by rw [Nat.add_zero]; show (0 : Int) = _; omega
  | k + 1 => by
    show onesIn (b / 2 ^ s) k + bit (b / 2 ^ s) k = onesIn b (s + k) + bit b (s + k) - onesIn b s
    rw [ones_shift b s k, bit_shift]; omega
theorem net_shift (b : Int) (s k : Nat) : net (b / 2 ^ s) k = net b (s + k) - net b s := by
  unfold net; rw [ones_shift]; push_cast; omega
theorem lowPart_is {bs : List Int} (h : Bits bs) {j : Nat} {b : Int} (e : (blks bs)[j]? = some b) {s u : Nat} (h1 : s < u) (h2 : u ≤ 32) : LowIs bs (32 * j + s) (32 * j + u) (hgt bs (32 * j + s) + lowIn (b / 2 ^ s) (u - s)) := by
  have ns := net_blks h e s (by omega)
  refine ⟨?_, fun k k1 k2 => ?_⟩
  · obtain ⟨k, k1, k2, k3⟩ := lowIn_mem (b / 2 ^ s) (u - s) (by omega)
    have := net_blks h e (s + k) (by omega)
    rw [net_shift] at k3
    exact ⟨32 * j + (s + k), by omega, by omega, by omega⟩
  · have g := lowIn_le (b / 2 ^ s) (u - s) (k - (32 * j + s)) (by omega) (by omega)
    have := net_blks h e (s + (k - (32 * j + s))) (by omega)
    rw [show 32 * j + (s + (k - (32 * j + s))) = k by omega] at this
    rw [net_shift] at g
    omega
/-- low_part(tables, look, number, start, stop) -/
def sp_low_part (K : PySem.W.Frag) (CL : CLs) : Sp := fun vs H Q _ => ∃ (t g : Addr) (j s u : Nat) (bs : List Int) (q : Option Addr) (I : List Nat → Hp → Prop) (L : List Nat), vs = [.ref t, .ref g, .int (j : Int), .int (s : Int), .int (u : Int)] ∧ BrAt K CL H t g bs q I ∧ I L H ∧ L.length < 990 ∧ j < (bs.length + 31) / 32 ∧ s < u ∧ u ≤ 32 ∧
  ∀ (v : Int) H', LowIs bs (32 * j + s) (32 * j + u) v → I (L ++ [j]) H' → SameX q H H' → Q (.int v) H'
theorem len_low_part (K : PySem.W.Frag) (CL : CLs) : ∀ vs H Q E, sp_low_part K CL vs H Q E → vs.length = 5 := by
  rintro vs H Q E ⟨t, g, a, s, u, _, _, _, _, rfl, _⟩; rfl
def t_low_part (K : PySem.W.Frag) (CL : CLs) : TS :=
  (tSeq (tAsg (tCallV CL 9 1 (tCons (tVar 2) tNil)) (gName 5))
  (tSeq (tAsg (tOp rMinus (tOp rPlus (tCall (sp_begin_height K) [] E0 (tCons (tOp (rIxT K) (tVar 0) (tC (.int 1))) (tCons (tVar 2) tNil))) (tOp rTimes (tC (.int 2)) (tCall (sp_ones_in K) [] E0 (tCons (tVar 5) (tCons (tVar 3) tNil))))) (tVar 3)) (gName 6))
  (tRet (tOp rPlus (tVar 6) (tCall (sp_low_in K) [] E0 (tCons (tOp rShr (tVar 5) (tVar 3)) (tCons (tOp rMinus (tVar 4) (tVar 3)) tNil)))))))
abbrev n_low_part : List Str := ["tables", "look", "number", "start", "stop", "block", "high"]

theorem rd_low_part (K : PySem.W.Frag) (CL : CLs) (vs : List V) (H : Hp) (Q : VK) (E : XK) (h : sp_low_part K CL vs H Q E) : t_low_part K CL { nx := fun _ H' => Q .non H', rt := Q } (start n_low_part vs) H := by
  obtain ⟨t, g, j, s, u, bs, q, I, L, rfl, R, hI, hL, hj, hsu, hu, qq⟩ := h
  have hf := R.look.fn hI
  have hg := blks_getD hj
  unfold t_low_part
  walk_at "st"
  refine R.look.ask hI (by omega) (by rw [blks_len]; exact hj) fun H1 i1 s1 => ?_
  obtain ⟨pa, ph, hT, hA, hP⟩ := (R.moveX s1).tab
  walk_at "st"
  refine k_ixT hT (at_int (by decide) rfl) ?_
  walk_at "st"
  refine ⟨pa, bs, j, rfl, hA, by omega, ?_⟩
  walk_at "st"
  refine ⟨_, s, rfl, by omega, fun H2 s2 => ?_⟩
  walk_at "st"
  refine ⟨_, u - s, by rw [show (u : Int) - (s : Int) = ((u - s : Nat) : Int) by omega], by omega, ?_⟩
  walk_at "st"
  have hn := net_blks R.bits hg s (by omega)
  have e := lowPart_is R.bits hg hsu hu
  rw [show hgt bs (32 * j) + 2 * onesIn ((blks bs).getD j 0) s - (s : Int) = hgt bs (32 * j + s) by unfold net at hn; omega]
  exact qq _ H2 e (R.look.ext i1 s2) (s1.andS s2)

/-- least_of(many, look, start, stop) -/
def sp_least_of (K : PySem.W.Frag) (CL : CLs) : Sp := fun vs H Q E => ∃ (many : Nat) (g : Addr) (i j : Int) (ns : List Int) (n : Nat) (q : Option Addr) (I : List Nat → Hp → Prop) (L : List Nat), vs = [.int (many : Int), .ref g, .int i, .int j] ∧ many ≤ 4096 ∧
  LookR CL g n (fun k => NV (bear ns (hOf many) k)) q I ∧ 2 * 2 ^ hOf many ≤ n ∧ I L H ∧ L.length < 900 ∧
  ((i < 0 ∨ j < i ∨ (many : Int) < j) → E (.ref (He.ga K "NoPlace")) none H) ∧
  (∀ a b : Nat, i = (a : Int) → j = (b : Int) → a ≤ b → b ≤ many → ∀ (L2 : List Nat) H', L2.length ≤ 2 * hOf many + 2 → (∀ k ∈ L2, 1 ≤ k ∧ k < 2 * 2 ^ hOf many) → I (L ++ L2) H' → SameX q H H' → Q (NV (rmin ns a (b - a))) H')
theorem len_least_of (K : PySem.W.Frag) (CL : CLs) : ∀ vs H Q E, sp_least_of K CL vs H Q E → vs.length = 4 := by
  rintro vs H Q E ⟨m, g, i, j, ns, n, q, I, L, rfl, _⟩; rfl
def t_least_of (K : PySem.W.Frag) (CL : CLs) (E : XK) : TS :=
  (tSeq (tAsg (tC .non) (gName 4))
  (tSeq (tFor (iList K (tCall (sp_cover K) [] E (tCons (tVar 0) (tCons (tVar 2) (tCons (tVar 3) tNil))))) (gName 5)
  (tAsg (tCall (sp_lesser_of K) [] E0 (tCons (tVar 4) (tCons (tCallV CL 9 1 (tCons (tVar 5) tNil)) tNil))) (gName 4)))
  (tRet (tVar 4))))
abbrev n_least_of : List Str := ["many", "look", "start", "stop", "least", "node"]

theorem rd_least_of (K : PySem.W.Frag) (CL : CLs) (vs : List V) (H : Hp) (Q : VK) (E : XK) (h : sp_least_of K CL vs H Q E) : t_least_of K CL E { nx := fun _ H' => Q .non H', rt := Q } (start n_least_of vs) H := by
  obtain ⟨many, g, i, j, ns, n, q, I, L, rfl, hm, R, hn, hI, hL, q1, q2⟩ := h
  unfold t_least_of
  walk_at "st"
  refine ⟨many, i, j, rfl, by omega, q1, fun a b ea eb hab hbm ps p H1 _ hcv hok hln hp s1 e1 => ?_⟩
  walk_at "st"
  have hS0 := Nat.two_pow_pos (hOf many)
  have hh := hOf_small hm
  have i1 := R.ext hI s1
  have nq : q ≠ some p := fun z => by
    obtain ⟨xs, e⟩ := R.isq hI p z
    rw [hp] at e; cases e
  refine m_iLe (.of e1) ?_
  refine loop_list (xs := ps.map ndV) (fun k σ H' => ∃ y, σ = [some (.int (many : Int)), some (.ref g), some (.int i), some (.int j), some (NV ((ps.take k).foldl (fun m p => minO m (bear ns (hOf many) p.1)) none)), y] ∧ I (L ++ (ps.take k).map Prod.fst) H' ∧ SameX q H1 H') ⟨none, rfl, by simpa using i1, (Same.refl _).toX (R.isq i1)⟩ (fun k σ H' _ ⟨_, _, _, X⟩ => .of (X.get nq e1)) ?_ ?_
  · rintro k v σ H' hv ⟨y, rfl, hi, X⟩
    rw [List.getElem?_map] at hv
    cases hnd : ps[k]? with
    | none => rw [hnd] at hv; cases hv
    | some nd =>
    rw [hnd] at hv
    cases hv
    have hlt : k < ps.length := (List.getElem?_eq_some_iff.mp hnd).1
    have ok := hok nd (List.mem_of_getElem? hnd)
    have p2 := Nat.two_pow_pos nd.2
    have hb := Nat.le_mul_of_pos_right (nd.1 + 1) p2
    have hle := ok.le
    have hf := R.fn hi
    rw [show ndV nd = V.int (nd.1 : Int) from rfl]
    walk_at "st"
    refine R.ask hi (by rw [List.length_append, List.length_map, List.length_take]; omega) (by omega) fun H2 i2 X2 => ?_
    walk_at "st"
    refine ⟨_, _, rfl, ?_⟩
    walk_at "st"
    have et : ps.take (k + 1) = ps.take k ++ [nd] := by rw [List.take_add_one, hnd]; rfl
    refine ⟨some (.int (nd.1 : Int)), ?_, ?_, X.trans X2⟩
    · rw [et, List.foldl_append]; rfl
    · rw [et, List.map_append, ← List.append_assoc]; exact i2
  · rintro σ H' ⟨y, rfl, hi, X⟩
    walk_at "st"
    rw [List.length_map, List.take_length] at hi ⊢
    have e := rmin_cov (ns := ns) (h := hOf many) (by omega) hcv hok none
    rw [e, show 2 ^ hOf many + a - 2 ^ hOf many = a by omega, show 2 ^ hOf many + b - (2 ^ hOf many + a) = b - a by omega]
    refine q2 a b ea eb hab hbm (ps.map Prod.fst) H' (by rw [List.length_map]; exact hln) (fun k hk => ?_) hi ((s1.toX (R.isq hI)).trans X)
    obtain ⟨nd, hnd, rfl⟩ := List.mem_map.mp hk
    have ok := hok nd hnd
    have p2 := Nat.two_pow_pos nd.2
    have hb := Nat.le_mul_of_pos_right (nd.1 + 1) p2
    have hle := ok.le
    have hge := ok.ge
    refine ⟨?_, by omega⟩
    rcases Nat.eq_zero_or_pos nd.1 with z | z
    · rw [z, Nat.zero_mul] at hge; omega
    · exact z

theorem rmin_spec (ns : List Int) (a : Nat) : ∀ n, 0 < n → a + n ≤ ns.length → ∃ r i, rmin ns a n = some r ∧ a ≤ i ∧ i < a + n ∧ ns[i]? = some r ∧ ∀ j y, a ≤ j → j < a + n → ns[j]? = some y → r ≤ y
  | 0, h, _ => absurd h (by decide)
  | 1, _, hl => by
    have hlt : a < ns.length := by omega
    refine ⟨ns[a], a, ?_, Nat.le_refl _, by omega, List.getElem?_eq_getElem hlt, fun j y h1 h2 e => ?_⟩
    · show minO none ns[a + 0]? = _
      rw [Nat.add_zero, List.getElem?_eq_getElem hlt]; rfl
    · have : j = a := by omega
      subst this
      rw [List.getElem?_eq_getElem hlt] at e
      cases e; exact Int.le_refl _
  | n + 2, _, hl => by
    obtain ⟨r, i, e1, h1, h2, e2, hm⟩ := rmin_spec ns a (n + 1) (by omega) (by omega)
    have hlt : a + (n + 1) < ns.length := by omega
    have en : rmin ns a (n + 2) = minO (rmin ns a (n + 1)) ns[a + (n + 1)]? := rfl
    rw [en, e1, List.getElem?_eq_getElem hlt]
    by_cases c : ns[a + (n + 1)] < r
    · refine ⟨ns[a + (n + 1)], a + (n + 1), ?_, by omega, by omega, List.getElem?_eq_getElem hlt, fun j y g1 g2 e => ?_⟩
      · show some (if ns[a + (n + 1)] < r then ns[a + (n + 1)] else r) = _
        rw [if_pos c]
      · rcases Nat.lt_or_ge j (a + (n + 1)) with z | z
        · have := hm j y g1 z e; omega
        · have : j = a + (n + 1) := by omega
          subst this
          rw [List.getElem?_eq_getElem hlt] at e
          cases e; exact Int.le_refl _
    · refine ⟨r, i, ?_, h1, by omega, e2, fun j y g1 g2 e => ?_⟩
      · show some (if ns[a + (n + 1)] < r then ns[a + (n + 1)] else r) = _
        rw [if_neg c]
      · rcases Nat.lt_or_ge j (a + (n + 1)) with z | z
        · exact hm j y g1 z e
        · have : j = a + (n + 1) := by omega
          subst this
          rw [List.getElem?_eq_getElem hlt] at e
          cases e; omega
theorem mem_cut {ns : List Int} {a b : Nat} {x : Int} : x ∈ (ns.take b).drop a ↔ ∃ i, a ≤ i ∧ i < b ∧ ns[i]? = some x := by
  constructor
  · intro h
    obtain ⟨i, hi⟩ := List.mem_iff_getElem?.mp h
    rw [List.getElem?_drop, List.getElem?_take] at hi
    split at hi
    · exact ⟨a + i, by omega, by assumption, hi⟩
    · cases hi
  · rintro ⟨i, h1, h2, e⟩
    refine List.mem_iff_getElem?.mpr ⟨i - a, ?_⟩
    rw [List.getElem?_drop, List.getElem?_take, show a + (i - a) = i by omega, if_pos h2]
    exact e

/-- the least of a stretch, by its items -/
theorem rmin_min {ns : List Int} {a b : Nat} {m : Int} (h : a < b) (hb : b ≤ ns.length) (hm : m ∈ (ns.take b).drop a) (hl : ∀ y, y ∈ (ns.take b).drop a → m ≤ y) : rmin ns a (b - a) = some m := by
  obtain ⟨r, i, e1, h1, h2, e2, h3⟩ := rmin_spec ns a (b - a) (by omega) (by omega)
  obtain ⟨j, j1, j2, je⟩ := mem_cut.mp hm
  have g1 := h3 j m j1 (by omega) je
  have g2 := hl r (mem_cut.mpr ⟨i, h1, by omega, e2⟩)
  rw [e1, show r = m by omega]

/-- the least of whole blocks -/
theorem lows_amid {bs : List Int} (hB : Bits bs) {a b : Nat} (hab : a ≤ b) (hb : b ≤ (bs.length + 31) / 32) (hn : 32 * b ≤ bs.length) :
    (a = b ∧ rmin (lowsOf bs) a (b - a) = none) ∨ (∃ v, rmin (lowsOf bs) a (b - a) = some v ∧ LowIs bs (32 * a) (32 * b) v) := by
  rcases Nat.lt_or_ge a b with h | h
  · obtain ⟨r, i, er, i1, i2, i3, i4⟩ := rmin_spec (lowsOf bs) a (b - a) (by omega) (by rw [lowsOf_len]; omega)
    refine .inr ⟨r, er, ?_, fun k k1 k2 => ?_⟩
    · rw [lowsOf_get bs (by omega)] at i3
      obtain ⟨⟨k, k1, k2, k3, ek⟩, _⟩ := lowOf_is hB (show i < (bs.length + 31) / 32 by omega)
      have e : lowOf bs i = r := Option.some.inj i3
      exact ⟨k, by omega, by omega, by omega⟩
    · have hj : (k - 1) / 32 < (bs.length + 31) / 32 := by omega
      have g1 := i4 ((k - 1) / 32) _ (by omega) (by omega) (lowsOf_get bs hj)
      have g2 := (lowOf_is hB hj).2 k (by omega) (by omega) (by omega)
      omega
  · have : a = b := by omega
    subst this
    exact .inl ⟨rfl, by rw [Nat.sub_self]; rfl⟩
/-- lowest(tables, look, at, upto) -/
def sp_lowest (K : PySem.W.Frag) (CL : CLs) : Sp := fun vs H Q E => ∃ (t g : Addr) (x y : Int) (bs : List Int) (q : Option Addr) (I : List Nat → Hp → Prop) (L : List Nat), vs = [.ref t, .ref g, .int x, .int y] ∧ BrAt K CL H t g bs q I ∧ I L H ∧ L.length < 980 ∧ NdefX.TabN H (tabP K "node_look") nmL ∧
  ((x < 0 ∨ (bs.length : Int) < x ∨ y < 0 ∨ (bs.length : Int) < y ∨ y ≤ x) → E (.ref (He.ga K "NoPlace")) none H) ∧
  (∀ a b : Nat, x = (a : Int) → y = (b : Int) → a < b → b ≤ bs.length → ∀ (v : Int) (L2 : List Nat) H', LowIs bs a b v → L2.length ≤ 2 → (∀ j ∈ L2, j < (blks bs).length) → I (L ++ L2) H' → SameX q H H' → Q (.int v) H')
theorem len_lowest (K : PySem.W.Frag) (CL : CLs) : ∀ vs H Q E, sp_lowest K CL vs H Q E → vs.length = 4 := by
  rintro vs H Q E ⟨t, g, x, y, _, _, _, _, rfl, _⟩; rfl
def t_lowest (K : PySem.W.Frag) (CL : CLs) (E : XK) : TS :=
  (tSeq (tDrop (tCall (sp_check_place K) [] E (tCons (tVar 0) (tCons (tVar 2) tNil))))
  (tSeq (tDrop (tCall (sp_check_place K) [] E (tCons (tVar 0) (tCons (tVar 3) tNil))))
  (tSeq (tIfS (tTest (tOp rGeI (tVar 2) (tVar 3)))
  (tRz (fun cls d _ H => E cls d H) (He.ga K "NoPlace"))
  tNext)
  (tSeq (tAsg (tOp rDiv (tVar 2) (tC (.int 32))) (gName 4))
  (tSeq (tAsg (tOp rDiv (tOp rMinus (tVar 3) (tC (.int 1))) (tC (.int 32))) (gName 5))
  (tSeq (tIfS (tTest (tOp rEq (tVar 4) (tVar 5)))
  (tRet (tCall (sp_low_part K CL) [] E0 (tCons (tVar 0) (tCons (tVar 1) (tCons (tVar 4) (tCons (tOp rMinus (tVar 2) (tOp rTimes (tC (.int 32)) (tVar 4))) (tCons (tOp rMinus (tVar 3) (tOp rTimes (tC (.int 32)) (tVar 4))) tNil)))))))
  tNext)
  (tSeq (tAsg (tCall (sp_low_part K CL) [] E0 (tCons (tVar 0) (tCons (tVar 1) (tCons (tVar 4) (tCons (tOp rMinus (tVar 2) (tOp rTimes (tC (.int 32)) (tVar 4))) (tCons (tC (.int 32)) tNil)))))) (gName 6))
  (tSeq (tAsg (tCB rMin2 (tCons (tVar 6) (tCons (tCall (sp_low_part K CL) [] E0 (tCons (tVar 0) (tCons (tVar 1) (tCons (tVar 5) (tCons (tC (.int 0)) (tCons (tOp rMinus (tVar 3) (tOp rTimes (tC (.int 32)) (tVar 5))) tNil)))))) tNil))) (gName 6))
  (tSeq (tAsg (tCall (sp_least_of K CL) [] E (tCons (tOp rMinus (tCB (rLen K) (tCons (tOp (rIxT K) (tVar 0) (tC (.int 1))) tNil)) (tC (.int 1))) (tCons (tCall (sp_node_look K CL) [] E0 (tCons (tVar 0) tNil)) (tCons (tOp rPlus (tVar 4) (tC (.int 1))) (tCons (tVar 5) tNil))))) (gName 7))
  (Evl.tCut (tIfS (tTest (tOp rNotN (tVar 7) (tC .non)))
  (tAsg (tCB rMin2 (tCons (tVar 6) (tCons (tVar 7) tNil))) (gName 6))
  tNext)
  (tRet (tVar 6))))))))))))
abbrev n_lowest : List Str := ["tables", "look", "at", "upto", "first", "last", "least", "amid"]

theorem rd_lowest (K : PySem.W.Frag) (CL : CLs) (vs : List V) (H : Hp) (Q : VK) (E : XK) (h : sp_lowest K CL vs H Q E) : t_lowest K CL E { nx := fun _ H' => Q .non H', rt := Q } (start n_lowest vs) H := by
  obtain ⟨t, g, x, y, bs, q, I, L, rfl, R, hI, hL, hTb, q1, q2⟩ := h
  obtain ⟨pa, ph, hT, hA, hP⟩ := R.tab
  have hlen := R.len
  unfold t_lowest
  walk_at "st"
  refine ⟨t, bs.length, _, x, rfl, hT, fun z => q1 (by omega), fun hx0 hx1 => ?_⟩
  walk_at "st"
  refine ⟨t, bs.length, _, y, rfl, hT, fun z => q1 (by omega), fun hy0 hy1 => ?_⟩
  walk_at "st"
  walk_at "if" <;> intro c
  · walk_at "st"
    exact q1 (by omega)
  obtain ⟨a, rfl⟩ := Int.eq_ofNat_of_zero_le hx0
  obtain ⟨b, rfl⟩ := Int.eq_ofNat_of_zero_le hy0
  have hab : a < b := by omega
  have hbn : b ≤ bs.length := by omega
  replace q2 := q2 a b rfl rfl hab hbn
  have hbl := blks_len bs
  walk_at "st"
  rw [show (a : Int) / 32 = ((a / 32 : Nat) : Int) by omega, show ((b : Int) - 1) / 32 = (((b - 1) / 32 : Nat) : Int) by omega]
  obtain ⟨i, hi⟩ : ∃ i, i = a / 32 := ⟨_, rfl⟩
  obtain ⟨j, hj⟩ : ∃ j, j = (b - 1) / 32 := ⟨_, rfl⟩
  rw [← hi, ← hj]
  walk_at "st"
  walk_at "if" <;> intro c1
  · have hij : i = j := by omega
    walk_at "st"
    refine ⟨t, g, i, a - 32 * i, b - 32 * i, bs, q, I, L, by rw [show (a : Int) - 32 * (i : Int) = ((a - 32 * i : Nat) : Int) by omega, show (b : Int) - 32 * (i : Int) = ((b - 32 * i : Nat) : Int) by omega], R, hI, by omega, by omega, by omega, by omega, fun v H1 hv i1 X1 => ?_⟩
    rw [show 32 * i + (a - 32 * i) = a by omega, show 32 * i + (b - 32 * i) = b by omega] at hv
    exact q2 v [i] H1 hv (by simp) (fun k hk => by rw [List.mem_singleton.mp hk]; omega) i1 X1
  have hij : i < j := by omega
  walk_at "st"
  refine ⟨t, g, i, a - 32 * i, 32, bs, q, I, L, by rw [show (a : Int) - 32 * (i : Int) = ((a - 32 * i : Nat) : Int) by omega]; rfl, R, hI, by omega, by omega, by omega, by omega, fun v1 H1 hv1 i1 X1 => ?_⟩
  rw [show 32 * i + (a - 32 * i) = a by omega, show 32 * i + 32 = 32 * (i + 1) by omega] at hv1
  walk_at "st"
  refine ⟨t, g, j, 0, b - 32 * j, bs, q, I, L ++ [i], by rw [show (b : Int) - 32 * (j : Int) = ((b - 32 * j : Nat) : Int) by omega]; rfl, R.moveX X1, i1, by rw [List.length_append, List.length_singleton]; omega, by omega, by omega, by omega, fun v2 H2 hv2 i2 X2 => ?_⟩
  rw [show 32 * j + 0 = 32 * j by omega, show 32 * j + (b - 32 * j) = b by omega] at hv2
  rw [List.append_assoc] at i2
  have X12 := X1.trans X2
  have R2 := R.moveX X12
  obtain ⟨pa2, ph2, hT2, hA2, hP2⟩ := R2.tab
  walk_at "st"
  refine k_ixT hT2 (at_int (by decide) rfl) ?_
  walk_at "st"
  refine k_lenT hA2 ?_
  walk_at "st"
  rw [List.length_map, aheadT_len, show (((bs.length + 31) / 32 + 1 : Nat) : Int) - 1 = (((bs.length + 31) / 32 : Nat) : Int) by omega]
  refine ⟨t, ph2, _, _, [], heapL (lowsOf bs), rfl, hT2, hP2, X12.tabs _ hTb, fun gn H3 hgn s3 lk => ?_⟩
  have hll := lowsOf_len bs
  have Rn : LookR CL gn (heapL (lowsOf bs)).length (fun k => NV (bear (lowsOf bs) (hOf ((bs.length + 31) / 32)) k)) none (fun _ H' => LamX.ExtN H3 H') :=
    (lk.lookR (by decide)).congr (val' := fun k => NV (bear (lowsOf bs) (hOf ((bs.length + 31) / 32)) k)) fun k hk => by
      rw [List.getD_eq_getElem?_getD, heapL_get (by rw [heapL_len] at hk; exact hk), hll]; rfl
  walk_at "st"
  refine ⟨(bs.length + 31) / 32, gn, (i : Int) + 1, (j : Int), lowsOf bs, _, none, _, [], rfl, by omega, Rn, by rw [heapL_len, hll]; exact Nat.le_refl _, LamX.ExtN.refl _, by decide, fun z => by omega, fun a' b' ea eb hab' hbm L3 H4 _ _ i4 X4 => ?_⟩
  obtain rfl : a' = i + 1 := by omega
  obtain rfl : b' = j := by omega
  have s34 : Same H2 H4 := s3.trans X4.pure
  have i5 := R.look.ext i2 s34
  have X5 : SameX q H H4 := X12.andS s34
  have hjoin : ∀ w, LowIs bs (32 * (i + 1)) (32 * b') w → LowIs bs a b (if w < (if v2 < v1 then v2 else v1) then w else (if v2 < v1 then v2 else v1)) := fun w hw => by
    have g := (hv1.join hw).join hv2
    have e : (if v2 < (if w < v1 then w else v1) then v2 else (if w < v1 then w else v1)) = (if w < (if v2 < v1 then v2 else v1) then w else (if v2 < v1 then v2 else v1)) := by
      (repeat' split) <;> omega
    rw [e] at g; exact g
  have fin : ∀ v, LowIs bs a b v → Q (.int v) H4 := fun v hv => q2 v [i, b'] H4 hv (by simp) (fun k hk => by simp only [List.mem_cons, List.not_mem_nil, or_false] at hk; rcases hk with rfl | rfl <;> omega) i5 X5
  rcases lows_amid R.bits (a := i + 1) (b := b') (by omega) (by omega) (by omega) with ⟨he, en⟩ | ⟨w, ew, hw⟩
  · rw [en, show NV none = V.non from rfl]
    walk_at "st"
    refine m_cut0 ?_
    walk_at "st"
    refine k_ndecT rfl ?_
    walk_at "st"
    rw [he] at hv1
    exact fin _ (hv1.join hv2)
  · rw [ew, show NV (some w) = V.int w from rfl]
    walk_at "st"
    refine m_cut0 ?_
    walk_at "st"
    refine k_ndecF (fun z => nomatch z) ?_
    walk_at "st"
    exact fin _ (hjoin w hw)

theorem hgt_nonneg {bs : List Int} (hI : IsTree bs) {k : Nat} (h : k ≤ bs.length) : 0 ≤ hgt bs k := by
  rcases Nat.eq_zero_or_pos k with z | z
  · rw [z, hgt_zero]; omega
  · rcases Nat.lt_or_ge k bs.length with w | w
    · have := hI.2.2 k z w; omega
    · rw [show k = bs.length by omega, hI.2.1]; omega

/-- a bracket and the one that closes it -/
structure Pair (bs : List Int) (a c : Nat) : Prop where
  lt : a < c
  cn : c < bs.length
  up : bs.getD a 0 = 1
  dn : bs.getD c 0 = 0
  eq : hgt bs (c + 1) = hgt bs a
  hi : ∀ j, a < j → j ≤ c → hgt bs a < hgt bs j
theorem Pair.uc {bs : List Int} {a c c' : Nat} (p : Pair bs a c) (p' : Pair bs a c') : c = c' := by
  rcases Nat.lt_trichotomy c c' with h | h | h
  · have := p'.hi (c + 1) (by have := p.lt; omega) (by omega); have := p.eq; omega
  · exact h
  · have := p.hi (c' + 1) (by have := p'.lt; omega) (by omega); have := p'.eq; omega
theorem Pair.ua {bs : List Int} {a a' c : Nat} (p : Pair bs a c) (p' : Pair bs a' c) : a = a' := by
  have e1 := p.eq
  have e2 := p'.eq
  rcases Nat.lt_trichotomy a a' with h | h | h
  · have := p.hi a' h (by have := p'.lt; omega); omega
  · exact h
  · have := p'.hi a h (by have := p.lt; omega); omega
theorem closing_pair {bs : List Int} (hB : Bits bs) (hI : IsTree bs) {a : Nat} (ha : a < bs.length) (h1 : bs.getD a 0 = 1) {r : Option Nat} (hr : FirstH bs (hgt bs a) a bs.length r) : ∃ c, r = some (c + 1) ∧ Pair bs a c := by
  have h0 := hgt_nonneg hI (Nat.le_of_lt ha)
  have hup := hgt_succ bs a
  rw [h1] at hup
  cases r with
  | none =>
    have hr : HN bs (hgt bs a) a bs.length := hr
    have := hr bs.length ha (Nat.le_refl _)
    rw [hI.2.1] at this; omega
  | some k =>
    obtain ⟨k1, k2, k3, k4⟩ := hr
    obtain ⟨c, rfl⟩ : ∃ c, k = c + 1 := ⟨k - 1, by omega⟩
    have hca : a < c := by
      rcases Nat.lt_or_ge a c with z | z
      · exact z
      · have : c = a := by omega
        subst this; omega
    have hc := k4 c hca (by omega)
    have hs := hgt_succ bs c
    have hb := getD_bit hB c
    refine ⟨c, rfl, hca, by omega, h1, by omega, by omega, fun j j1 j2 => k4 j j1 (by omega)⟩
theorem opening_pair {bs : List Int} (hB : Bits bs) (hI : IsTree bs) {c : Nat} (hc : c < bs.length) (h1 : bs.getD c 0 = 0) {r : Option Nat} (hr : LastA bs (hgt bs (c + 1)) (c + 1) r) : ∃ a, r = some a ∧ Pair bs a c := by
  have h0 := hgt_nonneg hI (show c + 1 ≤ bs.length by omega)
  have hdn := hgt_succ bs c
  rw [h1] at hdn
  cases r with
  | none =>
    have := hr 0 (by omega)
    rw [hgt_zero] at this; omega
  | some k =>
    obtain ⟨k1, k2, k3⟩ := hr
    have hkc : k < c := by
      rcases Nat.lt_or_ge k c with z | z
      · exact z
      · have : k = c := by omega
        subst this; omega
    have hk := k3 (k + 1) (by omega) (by omega)
    have hs := hgt_succ bs k
    have hb := getD_bit hB k
    exact ⟨k, rfl, hkc, hc, by omega, h1, by omega, fun j j1 j2 => by have := k3 j j1 (by omega); omega⟩

/-- bit_at(tables, look, at) -/
def sp_bit_at (K : PySem.W.Frag) (CL : CLs) : Sp := fun vs H Q E => ∃ (t g : Addr) (at_ : Int) (many : Nat) (rest : List V) (n : Nat) (val : Nat → Int) (q : Option Addr) (I : List Nat → Hp → Prop) (L : List Nat), vs = [.ref t, .ref g, .int at_] ∧ SqT K H t (.int (many : Int) :: rest) ∧ LookR CL g n (fun k => .int (val k)) q I ∧ I L H ∧ L.length < 8999 ∧
  ((at_ < 0 ∨ (many : Int) ≤ at_) → E (.ref (He.ga K "NoPlace")) none H) ∧
  (∀ k : Nat, at_ = (k : Int) → k < many → k / 32 < n ∧ ∀ H', I (L ++ [k / 32]) H' → SameX q H H' → Q (.int (bit (val (k / 32)) (k % 32))) H')
theorem len_bit_at (K : PySem.W.Frag) (CL : CLs) : ∀ vs H Q E, sp_bit_at K CL vs H Q E → vs.length = 3 := by
  rintro vs H Q E ⟨t, g, a, _, _, _, _, _, _, _, rfl, _⟩; rfl
def t_bit_at (K : PySem.W.Frag) (CL : CLs) (E : XK) : TS :=
  (tSeq (tIfS (tOr (tTest (tOp rLt (tVar 2) (tC (.int 0)))) (tTest (tOp rGeI (tVar 2) (tOp (rIxT K) (tVar 0) (tC (.int 0))))))
  (tRz (fun cls d _ H => E cls d H) (He.ga K "NoPlace"))
  tNext)
  (tRet (tOp rAnd1 (tOp rShr (tCallV CL 9 1 (tCons (tOp rDiv (tVar 2) (tC (.int 32))) tNil)) (tOp rMod (tVar 2) (tC (.int 32)))) (tC (.int 1)))))
abbrev n_bit_at : List Str := ["tables", "look", "at"]

theorem rd_bit_at (K : PySem.W.Frag) (CL : CLs) (vs : List V) (H : Hp) (Q : VK) (E : XK) (h : sp_bit_at K CL vs H Q E) : t_bit_at K CL E { nx := fun _ H' => Q .non H', rt := Q } (start n_bit_at vs) H := by
  obtain ⟨t, g, at_, many, rest, n, val, q, I, L, rfl, hT, R, hI, hL, q1, q2⟩ := h
  unfold t_bit_at
  have hf := R.fn hI
  walk_at "st"
  walk_at "if" <;> intro c
  · walk_at "st"
    exact q1 (.inl c)
  · walk_at "st"
    refine k_ixT hT (x := .int (many : Int)) (at_int (Int.le_refl 0) rfl) ?_
    walk_at "st"
    walk_at "if" <;> intro c1
    · walk_at "st"
      exact q1 (.inr (by omega))
    · walk_at "st"
      obtain ⟨k, rfl⟩ : ∃ k : Nat, at_ = (k : Int) := ⟨at_.toNat, by omega⟩
      obtain ⟨h1, h2⟩ := q2 k rfl (by omega)
      rw [show (k : Int) / 32 = ((k / 32 : Nat) : Int) by omega]
      refine R.ask hI (by omega) h1 fun H' i' s' => ?_
      walk_at "st"
      have := h2 H' i' s'
      unfold bit at this
      rw [show ((k : Int) % 32).toNat = k % 32 by omega]
      exact this

/-- ones_at(tables, look, at) -/
def sp_ones_at (K : PySem.W.Frag) (CL : CLs) : Sp := fun vs H Q E => ∃ (t g : Addr) (at_ : Int) (bs : List Int) (q : Option Addr) (I : List Nat → Hp → Prop) (L : List Nat), vs = [.ref t, .ref g, .int at_] ∧ RowAt K CL H t g bs q I ∧ I L H ∧ L.length < 8999 ∧
  ((at_ < 0 ∨ (bs.length : Int) < at_) → ∀ H', Same H H' → E (.ref (He.ga K "NoPlace")) none H') ∧
  (∀ k : Nat, at_ = (k : Int) → k ≤ bs.length → ∀ H' L', (L' = L ∨ L' = L ++ [k / 32] ∧ k / 32 < (blks bs).length) → I L' H' → SameX q H H' → Q (.int (sumTo bs k)) H')
theorem len_ones_at (K : PySem.W.Frag) (CL : CLs) : ∀ vs H Q E, sp_ones_at K CL vs H Q E → vs.length = 3 := by
  rintro vs H Q E ⟨t, g, a, _, _, _, _, rfl, _⟩; rfl
def t_ones_at (K : PySem.W.Frag) (CL : CLs) (E : XK) : TS :=
  (tSeq (tAsg (tVar 0) (gTup K 2 (gCons (gName 3) (gCons (gName 4) gNil))))
  (tSeq (tIfS (tOr (tTest (tOp rLt (tVar 2) (tC (.int 0)))) (tTest (tOp rGtI (tVar 2) (tVar 3))))
  (tRz (fun cls d _ H => E cls d H) (He.ga K "NoPlace"))
  tNext)
  (tSeq (tAsg (tOp (rIxT K) (tVar 4) (tOp rDiv (tVar 2) (tC (.int 32)))) (gName 5))
  (Evl.tCut (tIfS (tTest (tOp rGtI (tOp rMod (tVar 2) (tC (.int 32))) (tC (.int 0))))
  (tAug 5 (tCall (sp_ones_in K) [] E0 (tCons (tCallV CL 9 1 (tCons (tOp rDiv (tVar 2) (tC (.int 32))) tNil)) (tCons (tOp rMod (tVar 2) (tC (.int 32))) tNil))) (ipI fun i j => i + j))
  tNext)
  (tRet (tVar 5))))))
abbrev n_ones_at : List Str := ["tables", "look", "at", "many", "ahead", "found"]

theorem rd_ones_at (K : PySem.W.Frag) (CL : CLs) (vs : List V) (H : Hp) (Q : VK) (E : XK) (h : sp_ones_at K CL vs H Q E) : t_ones_at K CL E { nx := fun _ H' => Q .non H', rt := Q } (start n_ones_at vs) H := by
  obtain ⟨t, g, at_, bs, q, I, L, rfl, R, hI, hL, q1, q2⟩ := h
  obtain ⟨pa, hT, hA⟩ := R.tab
  unfold t_ones_at
  have hf := R.look.fn hI
  walk_at "st"
  refine m_gTup hT rfl ?_
  walk_at "st"
  walk_at "if" <;> intro c
  · walk_at "st"
    exact q1 (.inl c) _ (Same.refl _)
  · walk_at "st"
    walk_at "if" <;> intro c1
    · walk_at "st"
      exact q1 (.inr (by omega)) _ (Same.refl _)
    · walk_at "st"
      obtain ⟨k, rfl⟩ : ∃ k : Nat, at_ = (k : Int) := ⟨at_.toNat, by omega⟩
      have hk : k ≤ bs.length := by omega
      rw [show (k : Int) / 32 = ((k / 32 : Nat) : Int) by omega]
      refine k_ixT hA (at_nat (mapint (aheadT_get bs (show k / 32 ≤ (bs.length + 31) / 32 by omega)))) ?_
      walk_at "st"
      refine m_cut0 ?_
      walk_at "st"
      walk_at "if" <;> intro c2
      · have hj : k / 32 < (bs.length + 31) / 32 := by omega
        walk_at "st"
        rw [show (k : Int) / 32 = ((k / 32 : Nat) : Int) by omega]
        refine R.look.ask hI (by omega) (by rw [blks_len]; exact hj) fun H1 i1 s1 => ?_
        walk_at "st"
        refine ⟨_, k % 32, by rw [show (k : Int) % 32 = ((k % 32 : Nat) : Int) by omega], by omega, fun H2 s2 => ?_⟩
        walk_at "st"
        have e := onesIn_blks R.bits (blks_getD hj) (k % 32) (by omega)
        rw [show 32 * (k / 32) + k % 32 = k by omega] at e
        rw [show sumTo bs (32 * (k / 32)) + onesIn ((blks bs).getD (k / 32) 0) (k % 32) = sumTo bs k by omega]
        exact q2 k rfl hk H2 _ (.inr ⟨rfl, by rw [blks_len]; exact hj⟩) (R.look.ext i1 s2) (s1.andS s2)
      · walk_at "st"
        rw [show 32 * (k / 32) = k by omega]
        exact q2 k rfl hk H L (.inl rfl) hI ((Same.refl H).toX (R.look.isq hI))

/-- height(tables, look, at) -/
def sp_height (K : PySem.W.Frag) (CL : CLs) : Sp := fun vs H Q E => ∃ (t g : Addr) (at_ : Int) (bs : List Int) (q : Option Addr) (I : List Nat → Hp → Prop) (L : List Nat), vs = [.ref t, .ref g, .int at_] ∧ BrAt K CL H t g bs q I ∧ I L H ∧ L.length < 990 ∧
  ((at_ < 0 ∨ (bs.length : Int) < at_) → ∀ H', Same H H' → E (.ref (He.ga K "NoPlace")) none H') ∧
  (∀ k : Nat, at_ = (k : Int) → k ≤ bs.length → ∀ H' L', (L' = L ∨ L' = L ++ [k / 32] ∧ k / 32 < (blks bs).length) → I L' H' → SameX q H H' → Q (.int (hgt bs k)) H')
theorem len_height (K : PySem.W.Frag) (CL : CLs) : ∀ vs H Q E, sp_height K CL vs H Q E → vs.length = 3 := by
  rintro vs H Q E ⟨t, g, a, _, _, _, _, rfl, _⟩; rfl
def t_height (K : PySem.W.Frag) (CL : CLs) (E : XK) : TS :=
  (tRet (tOp rMinus (tOp rTimes (tC (.int 2)) (tCall (sp_ones_at K CL) [] E (tCons (tSl (rSlT K) (tVar 0) tNoPart (tPart (tC (.int 2)))) (tCons (tVar 1) (tCons (tVar 2) tNil))))) (tVar 2)))
abbrev n_height : List Str := ["tables", "look", "at"]

theorem rd_height (K : PySem.W.Frag) (CL : CLs) (vs : List V) (H : Hp) (Q : VK) (E : XK) (h : sp_height K CL vs H Q E) : t_height K CL E { nx := fun _ H' => Q .non H', rt := Q } (start n_height vs) H := by
  obtain ⟨t, g, at_, bs, q, I, L, rfl, R, hI, hL, q1, q2⟩ := h
  obtain ⟨pa, ph, hT, hA, hP⟩ := R.tab
  unfold t_height
  walk_at "st"
  refine ⟨t, _, rfl, hT, (show ¬ (HT.sIx 3 0 none = 0 ∧ HT.sIx 3 3 (some 2) = 3) by decide), fun t2 ht2 => ?_⟩
  have s2 := same_new (o := .tup [.int (bs.length : Int), .ref pa]) ht2
  have e2 := upd_same (H := H) (a := t2) (o := .tup [.int (bs.length : Int), .ref pa])
  rw [show cutV [V.int (bs.length : Int), V.ref pa, V.ref ph] none (some 2) = [V.int (bs.length : Int), V.ref pa] from rfl]
  generalize upd H t2 (.tup [.int (bs.length : Int), .ref pa]) = H1 at s2 e2 ⊢
  walk_at "st"
  refine ⟨t2, g, at_, bs, q, I, L, rfl, ⟨⟨pa, .of e2, s2.seqT hA⟩, R.look, R.bits, by have := R.len; omega⟩, R.look.ext hI s2, by omega, fun z H' s => q1 z H' (s2.trans s), fun k ek hk H' L' hL' i' X => ?_⟩
  walk_at "st"
  rw [show (2 : Int) * sumTo bs k - at_ = hgt bs k by unfold hgt; omega]
  exact q2 k ek hk H' L' hL' i' ((s2.toX (R.look.isq hI)).trans X)

/-- closing(tables, look, at) -/
def sp_closing (K : PySem.W.Frag) (CL : CLs) : Sp := fun vs H Q E => ∃ (t g : Addr) (x : Int) (bs : List Int) (q : Option Addr) (I : List Nat → Hp → Prop) (L : List Nat), vs = [.ref t, .ref g, .int x] ∧ BrAt K CL H t g bs q I ∧ I L H ∧ L.length < 970 ∧ NdefX.TabN H (tabP K "node_look") nmL ∧
  ((x < 0 ∨ (bs.length : Int) ≤ x) → E (.ref (He.ga K "NoPlace")) none H) ∧
  (∀ a : Nat, x = (a : Int) → a < bs.length → bs.getD a 0 = 0 → ∀ H' L2, L2.length ≤ 1 → (∀ j ∈ L2, j < (blks bs).length) → I (L ++ L2) H' → SameX q H H' → E (.ref (He.ga K "NoNode")) none H') ∧
  (∀ a : Nat, x = (a : Int) → a < bs.length → ∀ (c : Nat) (L2 : List Nat) H', Pair bs a c → L2.length ≤ 4 → (∀ j ∈ L2, j < (blks bs).length) → I (L ++ L2) H' → SameX q H H' → Q (.int (c : Int)) H')
theorem len_closing (K : PySem.W.Frag) (CL : CLs) : ∀ vs H Q E, sp_closing K CL vs H Q E → vs.length = 3 := by
  rintro vs H Q E ⟨t, g, x, _, _, _, _, rfl, _⟩; rfl
def t_closing (K : PySem.W.Frag) (CL : CLs) (E : XK) : TS :=
  (tSeq (tIfS (tTest (tOp rNe (tCall (sp_bit_at K CL) [] E (tCons (tVar 0) (tCons (tVar 1) (tCons (tVar 2) tNil)))) (tC (.int 1))))
  (tRz (fun cls d _ H => E cls d H) (He.ga K "NoNode"))
  tNext)
  (tRet (tOp rMinus (tCall (sp_low_behind K CL) [] E (tCons (tVar 0) (tCons (tVar 1) (tCons (tVar 2) (tCons (tCall (sp_height K CL) [] E (tCons (tVar 0) (tCons (tVar 1) (tCons (tVar 2) tNil)))) tNil))))) (tC (.int 1)))))
abbrev n_closing : List Str := ["tables", "look", "at"]

theorem rd_closing (K : PySem.W.Frag) (CL : CLs) (vs : List V) (H : Hp) (Q : VK) (E : XK) (h : sp_closing K CL vs H Q E) : t_closing K CL E { nx := fun _ H' => Q .non H', rt := Q } (start n_closing vs) H := by
  obtain ⟨t, g, x, bs, q, I, L, rfl, R, hI, hL, hTb, q1, q2, q3⟩ := h
  obtain ⟨pa, ph, hT, hA, hP⟩ := R.tab
  have hlen := R.len
  have hbl := blks_len bs
  unfold t_closing
  walk_at "st"
  refine ⟨t, g, x, bs.length, _, _, _, q, I, L, rfl, hT, R.look, hI, by omega, q1, fun k ek hk => ?_⟩
  subst ek
  have hj : k / 32 < (blks bs).length := by omega
  refine ⟨hj, fun H1 i1 X1 => ?_⟩
  have eb : bit ((blks bs).getD (k / 32) 0) (k % 32) = bs.getD k 0 := by
    rw [bit_blks R.bits (blks_getD (by omega)) (by omega), show 32 * (k / 32) + k % 32 = k by omega]
  have in1 : ∀ j ∈ [k / 32], j < (blks bs).length := fun j hj2 => by rw [List.mem_singleton.mp hj2]; exact hj
  rw [eb]
  walk_at "st"
  walk_at "if" <;> intro c
  · walk_at "st"
    have hz : bs.getD k 0 = 0 := (getD_bit R.bits k).resolve_right c
    exact q2 k rfl hk hz H1 [k / 32] (by simp) in1 i1 X1
  have h1 : bs.getD k 0 = 1 := c
  have R1 := R.moveX X1
  walk_at "st"
  refine ⟨t, g, (k : Int), bs, q, I, L ++ [k / 32], rfl, R1, i1, by rw [List.length_append, List.length_singleton]; omega, fun z => by omega, fun k' ek hk' H2 L' hL' i2 X2 => ?_⟩
  obtain rfl : k = k' := by omega
  have X12 := X1.trans X2
  obtain ⟨L2, e2, l2, in2⟩ : ∃ L2, L' = L ++ L2 ∧ L2.length ≤ 2 ∧ ∀ j ∈ L2, j < (blks bs).length := by
    rcases hL' with rfl | ⟨rfl, hh⟩
    · exact ⟨[k / 32], rfl, by simp, in1⟩
    · exact ⟨[k / 32, k / 32], by rw [List.append_assoc]; rfl, by simp, fun j hj2 => by simp only [List.mem_cons, List.not_mem_nil, or_false] at hj2; rcases hj2 with rfl | rfl <;> exact hj⟩
  subst e2
  walk_at "st"
  refine ⟨t, g, (k : Int), hgt bs k, bs, q, I, L ++ L2, rfl, R.moveX X12, i2, by rw [List.length_append]; omega, X12.tabs _ hTb, fun z => by omega, fun k' ek _ r L3 H3 hr hL3 in3 i3 X3 => ?_⟩
  obtain rfl : k = k' := by omega
  obtain ⟨c, rfl, hp⟩ := closing_pair R.bits R.tree hk h1 hr
  rw [show PV (some (c + 1)) = V.int ((c + 1 : Nat) : Int) from rfl]
  walk_at "st"
  rw [show ((c + 1 : Nat) : Int) - 1 = (c : Int) by omega]
  rw [List.append_assoc] at i3
  exact q3 k rfl hk c (L2 ++ L3) H3 hp (by rw [List.length_append]; omega) (fun j hj2 => by
    rcases List.mem_append.mp hj2 with z | z
    · exact in2 j z
    · exact in3 j z) i3 (X12.trans X3)

/-- opening(tables, look, at) -/
def sp_opening (K : PySem.W.Frag) (CL : CLs) : Sp := fun vs H Q E => ∃ (t g : Addr) (x : Int) (bs : List Int) (q : Option Addr) (I : List Nat → Hp → Prop) (L : List Nat), vs = [.ref t, .ref g, .int x] ∧ BrAt K CL H t g bs q I ∧ I L H ∧ L.length < 970 ∧ NdefX.TabN H (tabP K "node_look") nmL ∧
  ((x < 0 ∨ (bs.length : Int) ≤ x) → E (.ref (He.ga K "NoPlace")) none H) ∧
  (∀ a : Nat, x = (a : Int) → a < bs.length → bs.getD a 0 = 1 → ∀ H' L2, L2.length ≤ 1 → (∀ j ∈ L2, j < (blks bs).length) → I (L ++ L2) H' → SameX q H H' → E (.ref (He.ga K "NoNode")) none H') ∧
  (∀ a : Nat, x = (a : Int) → a < bs.length → ∀ (c : Nat) (L2 : List Nat) H', Pair bs c a → L2.length ≤ 4 → (∀ j ∈ L2, j < (blks bs).length) → I (L ++ L2) H' → SameX q H H' → Q (.int (c : Int)) H')
theorem len_opening (K : PySem.W.Frag) (CL : CLs) : ∀ vs H Q E, sp_opening K CL vs H Q E → vs.length = 3 := by
  rintro vs H Q E ⟨t, g, x, _, _, _, _, rfl, _⟩; rfl
def t_opening (K : PySem.W.Frag) (CL : CLs) (E : XK) : TS :=
  (tSeq (tIfS (tTest (tOp rNe (tCall (sp_bit_at K CL) [] E (tCons (tVar 0) (tCons (tVar 1) (tCons (tVar 2) tNil)))) (tC (.int 0))))
  (tRz (fun cls d _ H => E cls d H) (He.ga K "NoNode"))
  tNext)
  (tRet (tCall (sp_low_ahead K CL) [] E (tCons (tVar 0) (tCons (tVar 1) (tCons (tOp rPlus (tVar 2) (tC (.int 1))) (tCons (tCall (sp_height K CL) [] E (tCons (tVar 0) (tCons (tVar 1) (tCons (tOp rPlus (tVar 2) (tC (.int 1))) tNil)))) tNil)))))))
abbrev n_opening : List Str := ["tables", "look", "at"]

theorem rd_opening (K : PySem.W.Frag) (CL : CLs) (vs : List V) (H : Hp) (Q : VK) (E : XK) (h : sp_opening K CL vs H Q E) : t_opening K CL E { nx := fun _ H' => Q .non H', rt := Q } (start n_opening vs) H := by
  obtain ⟨t, g, x, bs, q, I, L, rfl, R, hI, hL, hTb, q1, q2, q3⟩ := h
  obtain ⟨pa, ph, hT, hA, hP⟩ := R.tab
  have hlen := R.len
  have hbl := blks_len bs
  unfold t_opening
  walk_at "st"
  refine ⟨t, g, x, bs.length, _, _, _, q, I, L, rfl, hT, R.look, hI, by omega, q1, fun k ek hk => ?_⟩
  subst ek
  have hj : k / 32 < (blks bs).length := by omega
  refine ⟨hj, fun H1 i1 X1 => ?_⟩
  have eb : bit ((blks bs).getD (k / 32) 0) (k % 32) = bs.getD k 0 := by
    rw [bit_blks R.bits (blks_getD (by omega)) (by omega), show 32 * (k / 32) + k % 32 = k by omega]
  have in1 : ∀ j ∈ [k / 32], j < (blks bs).length := fun j hj2 => by rw [List.mem_singleton.mp hj2]; exact hj
  rw [eb]
  walk_at "st"
  walk_at "if" <;> intro c
  · walk_at "st"
    have hz : bs.getD k 0 = 1 := (getD_bit R.bits k).resolve_left c
    exact q2 k rfl hk hz H1 [k / 32] (by simp) in1 i1 X1
  have h1 : bs.getD k 0 = 0 := c
  have R1 := R.moveX X1
  walk_at "st"
  refine ⟨t, g, (k : Int) + 1, bs, q, I, L ++ [k / 32], rfl, R1, i1, by rw [List.length_append, List.length_singleton]; omega, fun z => by omega, fun k' ek hk' H2 L' hL' i2 X2 => ?_⟩
  obtain rfl : k' = k + 1 := by omega
  have X12 := X1.trans X2
  obtain ⟨L2, e2, l2, in2⟩ : ∃ L2, L' = L ++ L2 ∧ L2.length ≤ 2 ∧ ∀ j ∈ L2, j < (blks bs).length := by
    rcases hL' with rfl | ⟨rfl, hh⟩
    · exact ⟨[k / 32], rfl, by simp, in1⟩
    · exact ⟨[k / 32, (k + 1) / 32], by rw [List.append_assoc]; rfl, by simp, fun j hj2 => by simp only [List.mem_cons, List.not_mem_nil, or_false] at hj2; rcases hj2 with rfl | rfl <;> assumption⟩
  subst e2
  walk_at "st"
  refine ⟨t, g, (k : Int) + 1, hgt bs (k + 1), bs, q, I, L ++ L2, rfl, R.moveX X12, i2, by rw [List.length_append]; omega, X12.tabs _ hTb, fun z => by omega, fun k' ek _ r L3 H3 hr hL3 in3 i3 X3 => ?_⟩
  obtain rfl : k' = k + 1 := by omega
  obtain ⟨c, rfl, hp⟩ := opening_pair R.bits R.tree hk h1 hr
  rw [show PV (some c) = V.int (c : Int) from rfl]
  rw [List.append_assoc] at i3
  exact q3 k rfl hk c (L2 ++ L3) H3 hp (by rw [List.length_append]; omega) (fun j hj2 => by
    rcases List.mem_append.mp hj2 with z | z
    · exact in2 j z
    · exact in3 j z) i3 (X12.trans X3)

/-- the node so many pairs further out of the one at a -/
def FurO (bs : List Int) (a : Nat) (p : Int) : Option Nat → Prop
  | none => hgt bs a < p
  | some k => (k = a ∧ p = 0) ∨ (k < a ∧ 0 < p ∧ bs.getD k 0 = 1 ∧ hgt bs k = hgt bs a - p ∧ ∀ j, k < j → j ≤ a → hgt bs k < hgt bs j)
theorem furO_of {bs : List Int} (hB : Bits bs) (hI : IsTree bs) {a : Nat} (ha : a < bs.length) {p : Int} (hp : 0 < p) {r : Option Nat} (hr : LastA bs (hgt bs a - p) a r) : FurO bs a p r := by
  cases r with
  | none =>
    show hgt bs a < p
    rcases Nat.eq_zero_or_pos a with z | z
    · rw [z, hgt_zero]; omega
    · have := hr 0 z
      rw [hgt_zero] at this; omega
  | some k =>
    obtain ⟨k1, k2, k3⟩ := hr
    have hs := hgt_succ bs k
    have hb := getD_bit hB k
    have hn : hgt bs a - p < hgt bs (k + 1) := by
      rcases Nat.lt_or_ge (k + 1) a with w | w
      · exact k3 (k + 1) (by omega) w
      · rw [show k + 1 = a by omega]; omega
    refine .inr ⟨k1, hp, by omega, by omega, fun j j1 j2 => ?_⟩
    rcases Nat.lt_or_ge j a with w | w
    · have := k3 j j1 w; omega
    · rw [show j = a by omega]; omega

/-- further_out(tables, look, at, pairs) -/
def sp_further_out (K : PySem.W.Frag) (CL : CLs) : Sp := fun vs H Q E => ∃ (t g : Addr) (x p : Int) (bs : List Int) (q : Option Addr) (I : List Nat → Hp → Prop) (L : List Nat), vs = [.ref t, .ref g, .int x, .int p] ∧ BrAt K CL H t g bs q I ∧ I L H ∧ L.length < 970 ∧ NdefX.TabN H (tabP K "node_look") nmL ∧ 0 ≤ p ∧
  ((x < 0 ∨ (bs.length : Int) ≤ x) → E (.ref (He.ga K "NoPlace")) none H) ∧
  (∀ a : Nat, x = (a : Int) → a < bs.length → bs.getD a 0 = 0 → ∀ H' L2, L2.length ≤ 1 → (∀ j ∈ L2, j < (blks bs).length) → I (L ++ L2) H' → SameX q H H' → E (.ref (He.ga K "NoNode")) none H') ∧
  (∀ a : Nat, x = (a : Int) → a < bs.length → bs.getD a 0 = 1 → ∀ (r : Option Nat) (L2 : List Nat) H', FurO bs a p r → L2.length ≤ 4 → (∀ j ∈ L2, j < (blks bs).length) → I (L ++ L2) H' → SameX q H H' → Q (PV r) H')
theorem len_further_out (K : PySem.W.Frag) (CL : CLs) : ∀ vs H Q E, sp_further_out K CL vs H Q E → vs.length = 4 := by
  rintro vs H Q E ⟨t, g, x, _, _, _, _, _, rfl, _⟩; rfl
def t_further_out (K : PySem.W.Frag) (CL : CLs) (E : XK) : TS :=
  (tSeq (tIfS (tTest (tOp rNe (tCall (sp_bit_at K CL) [] E (tCons (tVar 0) (tCons (tVar 1) (tCons (tVar 2) tNil)))) (tC (.int 1))))
  (tRz (fun cls d _ H => E cls d H) (He.ga K "NoNode"))
  tNext)
  (tSeq (tIfS (tTest (tOp rEq (tVar 3) (tC (.int 0))))
  (tRet (tVar 2))
  tNext)
  (tRet (tCall (sp_low_ahead K CL) [] E (tCons (tVar 0) (tCons (tVar 1) (tCons (tVar 2) (tCons (tOp rMinus (tCall (sp_height K CL) [] E (tCons (tVar 0) (tCons (tVar 1) (tCons (tVar 2) tNil)))) (tVar 3)) tNil))))))))
abbrev n_further_out : List Str := ["tables", "look", "at", "pairs"]

theorem rd_further_out (K : PySem.W.Frag) (CL : CLs) (vs : List V) (H : Hp) (Q : VK) (E : XK) (h : sp_further_out K CL vs H Q E) : t_further_out K CL E { nx := fun _ H' => Q .non H', rt := Q } (start n_further_out vs) H := by
  obtain ⟨t, g, x, p, bs, q, I, L, rfl, R, hI, hL, hTb, hp0, q1, q2, q3⟩ := h
  obtain ⟨pa, ph, hT, hA, hP⟩ := R.tab
  have hlen := R.len
  have hbl := blks_len bs
  unfold t_further_out
  walk_at "st"
  refine ⟨t, g, x, bs.length, _, _, _, q, I, L, rfl, hT, R.look, hI, by omega, q1, fun k ek hk => ?_⟩
  subst ek
  have hj : k / 32 < (blks bs).length := by omega
  refine ⟨hj, fun H1 i1 X1 => ?_⟩
  have eb : bit ((blks bs).getD (k / 32) 0) (k % 32) = bs.getD k 0 := by
    rw [bit_blks R.bits (blks_getD (by omega)) (by omega), show 32 * (k / 32) + k % 32 = k by omega]
  have in1 : ∀ j ∈ [k / 32], j < (blks bs).length := fun j hj2 => by rw [List.mem_singleton.mp hj2]; exact hj
  rw [eb]
  walk_at "st"
  walk_at "if" <;> intro c
  · walk_at "st"
    have hz : bs.getD k 0 = 0 := (getD_bit R.bits k).resolve_right c
    exact q2 k rfl hk hz H1 [k / 32] (by simp) in1 i1 X1
  have h1 : bs.getD k 0 = 1 := c
  have R1 := R.moveX X1
  walk_at "st"
  walk_at "if" <;> intro c0
  · walk_at "st"
    exact q3 k rfl hk h1 (some k) [k / 32] H1 (.inl ⟨rfl, c0⟩) (by simp) in1 i1 X1
  walk_at "st"
  refine ⟨t, g, (k : Int), bs, q, I, L ++ [k / 32], rfl, R1, i1, by rw [List.length_append, List.length_singleton]; omega, fun z => by omega, fun k' ek hk' H2 L' hL' i2 X2 => ?_⟩
  obtain rfl : k = k' := by omega
  have X12 := X1.trans X2
  obtain ⟨L2, e2, l2, in2⟩ : ∃ L2, L' = L ++ L2 ∧ L2.length ≤ 2 ∧ ∀ j ∈ L2, j < (blks bs).length := by
    rcases hL' with rfl | ⟨rfl, hh⟩
    · exact ⟨[k / 32], rfl, by simp, in1⟩
    · exact ⟨[k / 32, k / 32], by rw [List.append_assoc]; rfl, by simp, fun j hj2 => by simp only [List.mem_cons, List.not_mem_nil, or_false] at hj2; rcases hj2 with rfl | rfl <;> exact hj⟩
  subst e2
  walk_at "st"
  refine ⟨t, g, (k : Int), hgt bs k - p, bs, q, I, L ++ L2, rfl, R.moveX X12, i2, by rw [List.length_append]; omega, X12.tabs _ hTb, fun z => by omega, fun k' ek _ r L3 H3 hr hL3 in3 i3 X3 => ?_⟩
  obtain rfl : k = k' := by omega
  have hf := furO_of R.bits R.tree hk (show 0 < p by omega) hr
  rw [List.append_assoc] at i3
  exact q3 k rfl hk h1 r (L2 ++ L3) H3 hf (by rw [List.length_append]; omega) (fun j hj2 => by
    rcases List.mem_append.mp hj2 with z | z
    · exact in2 j z
    · exact in3 j z) i3 (X12.trans X3)

/-- _law_look_of(blocks): a look at a list that stays -/
def sp_law_look_of_law_look (_ : PySem.W.Frag) (_ : CLs) (_ : Nat) (ws vs : List V) (H : Hp) (Q : VK) : Prop := ∃ (p : Addr) (xs : List V) (i : Int) (x : V), ws = [.ref p] ∧ vs = [.int i] ∧ H p = some (.lst xs) ∧ atI xs i = some x ∧ Q x H
theorem len_law_look_of_law_look (K : PySem.W.Frag) (CL : CLs) (j : Nat) : ∀ ws vs H Q, sp_law_look_of_law_look K CL j ws vs H Q → vs.length = 1 := by
  rintro ws vs H Q ⟨p, xs, i, x, rfl, rfl, _⟩; rfl
def sp_law_look_of (K : PySem.W.Frag) (CL : CLs) : Sp := fun vs H Q _ => ∃ (a : Addr) (xs : List V), vs = [.ref a] ∧ H a = some (.lst xs) ∧ NdefX.TabN H (tabP K "_law_look_of") nmL ∧ ∀ g H', Same H H' → PureLook CL 1 g xs H' → Q (.ref g) H'
theorem len_law_look_of (K : PySem.W.Frag) (CL : CLs) : ∀ vs H Q E, sp_law_look_of K CL vs H Q E → vs.length = 1 := by
  rintro vs H Q E ⟨a, xs, rfl, _⟩; rfl
def t_law_look_of_law_look (K : PySem.W.Frag) (CL : CLs) (j : Nat) : TS :=
  (tRet (tOp (rIxL K) (tVar 1) (tVar 0)))
abbrev n_law_look_of_law_look : List Str := ["_law_number", "_law_blocks"]
def tp_law_look_of (K : PySem.W.Frag) (P : Addr) (mk : Addr → NdefX.NF) : TS :=
  (tNdefC P 1 mk)
def te_law_look_of (K : PySem.W.Frag) (P : Addr) (mk : Addr → NdefX.NF) : TE :=
  (tVar 1)
def t_law_look_of (K : PySem.W.Frag) (P : Addr) (mk : Addr → NdefX.NF) (G : V → L2.St → Hp → Prop) : L2.St → Hp → Prop := tp_law_look_of K P mk (Ends.mk (fun σ' H' => te_law_look_of K P mk σ' H' fun v H'' => G v σ' H'') (fun _ _ => False) (fun _ _ => False) (fun _ _ => False))
abbrev n_law_look_of : List Str := ["_law_blocks", "_law_look"]

theorem rd_law_look_of_law_look (K : PySem.W.Frag) (CL : CLs) (j : Nat) (vs ws : List V) (H : Hp) (Q : VK) (h : sp_law_look_of_law_look K CL j ws vs H Q) : t_law_look_of_law_look K CL j { nx := fun _ H' => Q .non H', rt := Q } (NdefX.startF n_law_look_of_law_look vs (ws.map some)) H := by
  obtain ⟨p, xs, i, x, rfl, rfl, e, hx, q⟩ := h
  unfold t_law_look_of_law_look
  walk_at "st"
  refine k_ixL (.of e) hx ?_
  walk_at "st"
  exact q
theorem rd_law_look_of (K : PySem.W.Frag) (CL : CLs) (P : Addr) (hP : P = tabP K "_law_look_of") (mk : Addr → NdefX.NF) (vs : List V) (H : Hp) (Q : VK) (E : XK) (h : sp_law_look_of K CL vs H Q E) (G : V → L2.St → Hp → Prop)
(hG : ∀ v σ' H'', (∀ C dC H', Upg CL 0 NdefX.FnO mk [0] (sp_law_look_of_law_look K CL) C dC σ' H'' H' → Q v H') → G v σ' H'')
    : t_law_look_of K P mk G (start n_law_look_of vs) H := by
  subst hP
  obtain ⟨p, xs, rfl, hS, hT, q⟩ := h
  unfold t_law_look_of tp_law_look_of te_law_look_of
  walk_at "st"
  refine m_ndefC hT fun f c' H1 s1 f0 f1 c1 => ?_
  walk_at "st"
  refine hG _ _ _ fun C dC H' u => ?_
  have e1 : H1 p = some (.lst xs) := s1.get hS
  refine q f H' (s1.trans u.up) fun H3 s3 => ⟨?_, fun i x Q3 hx q3 => ?_⟩
  · exact (isFn_fno (u.up.keep _ _ f1 fnO_ext)).ext s3
  · have hx3 : ∀ b φ, H' b = some (.ext φ) → H3 b = some (.ext φ) := ext_ext s3
    have e3 : hide C H3 p = some (.lst xs) := (hide_out (upg_out u e1)).trans (s3 p _ (u.up.get e1) fun _ z => nomatch z)
    refine u.law f c' f1 c1 [.ref p] rfl 0 H3 _ Q3 hx3 ⟨p, xs, i, x, rfl, rfl, e3, at_nat hx, ?_⟩
    show Q3 x (unhide C H3 (hide C H3))
    rw [unhide_hide]
    exact q3 _ (L2.Same.refl _)

--#base
/-- a tree's tables and a look that leans on nothing that changes -/
def PuAt (K : PySem.W.Frag) (CL : CLs) (H : Hp) (t g : Addr) (bs : List Int) : Prop := ∃ B, BrAt K CL H t g bs none (fun _ H => LamX.ExtN B H) ∧ LamX.ExtN B H
theorem PuAt.move {K : PySem.W.Frag} {CL : CLs} {H H' : Hp} {t g : Addr} {bs : List Int} (h : PuAt K CL H t g bs) (s : Same H H') : PuAt K CL H' t g bs := let ⟨B, h1, h2⟩ := h; ⟨B, h1.move s, h2.trans s.extN⟩
/-- what is refused -/
def PlaceD (bs : List Int) (w x y : Int) : Prop := (w ≤ 2 ∧ (x < 0 ∨ (bs.length : Int) < x)) ∨ (w = 3 ∧ (x < 0 ∨ (bs.length : Int) < x ∨ y < 0 ∨ (bs.length : Int) < y ∨ y ≤ x)) ∨ (4 ≤ w ∧ (x < 0 ∨ (bs.length : Int) ≤ x))
def NodeD (bs : List Int) (w x : Int) : Prop := ∃ a : Nat, x = (a : Int) ∧ a < bs.length ∧ (((w = 4 ∨ w = 6) ∧ bs.getD a 0 = 0) ∨ (w = 5 ∧ bs.getD a 0 = 1))
/-- _law_told(way, tables, look, at, more) -/
def sp_law_told (K : PySem.W.Frag) (CL : CLs) : Sp := fun vs H Q E => ∃ (t g : Addr) (w x y : Int) (bs : List Int), vs = [.int w, .ref t, .ref g, .int x, .int y] ∧ PuAt K CL H t g bs ∧ NdefX.TabN H (tabP K "node_look") nmL ∧ 0 ≤ w ∧ w ≤ 6 ∧ (w = 6 → 0 ≤ y) ∧
  ((PlaceD bs w x y ∧ ∀ H', Same H H' → E (.ref (He.ga K "NoPlace")) none H') ∨ (NodeD bs w x ∧ ∀ H', Same H H' → E (.ref (He.ga K "NoNode")) none H') ∨
   (∃ a : Nat, x = (a : Int) ∧ a < bs.length ∧ ((w = 4 ∧ bs.getD a 0 = 1) ∨ (w = 5 ∧ bs.getD a 0 = 0)) ∧ ∀ (c : Nat) H', c ≠ a → Same H H' → Q (.int (c : Int)) H'))
theorem len_law_told (K : PySem.W.Frag) (CL : CLs) : ∀ vs H Q E, sp_law_told K CL vs H Q E → vs.length = 5 := by
  rintro vs H Q E ⟨_, _, _, _, _, _, rfl, _⟩; rfl
def t_law_told (K : PySem.W.Frag) (CL : CLs) (E : XK) : TS :=
  (tSeq (tIfS (tTest (tOp rEq (tVar 0) (tC (.int 0))))
  (tRet (tCall (sp_height K CL) [] E (tCons (tVar 1) (tCons (tVar 2) (tCons (tVar 3) tNil)))))
  tNext)
  (tSeq (tIfS (tTest (tOp rEq (tVar 0) (tC (.int 1))))
  (tRet (tCall (sp_low_behind K CL) [] E (tCons (tVar 1) (tCons (tVar 2) (tCons (tVar 3) (tCons (tVar 4) tNil))))))
  tNext)
  (tSeq (tIfS (tTest (tOp rEq (tVar 0) (tC (.int 2))))
  (tRet (tCall (sp_low_ahead K CL) [] E (tCons (tVar 1) (tCons (tVar 2) (tCons (tVar 3) (tCons (tVar 4) tNil))))))
  tNext)
  (tSeq (tIfS (tTest (tOp rEq (tVar 0) (tC (.int 3))))
  (tRet (tCall (sp_lowest K CL) [] E (tCons (tVar 1) (tCons (tVar 2) (tCons (tVar 3) (tCons (tVar 4) tNil))))))
  tNext)
  (tSeq (tIfS (tTest (tOp rEq (tVar 0) (tC (.int 4))))
  (tRet (tCall (sp_closing K CL) [] E (tCons (tVar 1) (tCons (tVar 2) (tCons (tVar 3) tNil)))))
  tNext)
  (tSeq (tIfS (tTest (tOp rEq (tVar 0) (tC (.int 5))))
  (tRet (tCall (sp_opening K CL) [] E (tCons (tVar 1) (tCons (tVar 2) (tCons (tVar 3) tNil)))))
  tNext)
  (tRet (tCall (sp_further_out K CL) [] E (tCons (tVar 1) (tCons (tVar 2) (tCons (tVar 3) (tCons (tVar 4) tNil))))))))))))
abbrev n_law_told : List Str := ["_law_way", "_law_tables", "_law_look_here", "_law_at", "_law_more"]

theorem rd_law_told (K : PySem.W.Frag) (CL : CLs) (vs : List V) (H : Hp) (Q : VK) (E : XK) (h : sp_law_told K CL vs H Q E) : t_law_told K CL E { nx := fun _ H' => Q .non H', rt := Q } (start n_law_told vs) H := by
  obtain ⟨t, g, w, x, y, bs, rfl, ⟨B, A, hB⟩, hT, hw0, hw6, hy, hd⟩ := h
  unfold PlaceD NodeD at hd
  unfold t_law_told
  walk_at "st"
  walk_at "if" <;> intro c0
  · subst c0
    walk_at "st"
    refine ⟨t, g, x, bs, none, _, [], rfl, A, hB, by decide, fun hx H' s => ?_, fun k e hk H' L' _ i X => ?_⟩
    · rcases hd with ⟨hd, q⟩ | ⟨⟨a, ea, ha, hd⟩, q⟩ | ⟨a, ea, ha, hd, q⟩
      · exact q _ s
      · exfalso; omega
      · exfalso; omega
    · rcases hd with ⟨hd, q⟩ | ⟨⟨a, ea, ha, hd⟩, q⟩ | ⟨a, ea, ha, hd, q⟩ <;> (exfalso; omega)
  walk_at "st"
  walk_at "if" <;> intro c1
  · subst c1
    walk_at "st"
    refine ⟨t, g, x, y, bs, none, _, [], rfl, A, hB, by decide, hT, fun hx => ?_, fun k e hk r L' H' _ _ _ i X => ?_⟩
    · rcases hd with ⟨hd, q⟩ | ⟨⟨a, ea, ha, hd⟩, q⟩ | ⟨a, ea, ha, hd, q⟩
      · exact q _ (Same.refl _)
      · exfalso; omega
      · exfalso; omega
    · rcases hd with ⟨hd, q⟩ | ⟨⟨a, ea, ha, hd⟩, q⟩ | ⟨a, ea, ha, hd, q⟩ <;> (exfalso; omega)
  walk_at "st"
  walk_at "if" <;> intro c2
  · subst c2
    walk_at "st"
    refine ⟨t, g, x, y, bs, none, _, [], rfl, A, hB, by decide, hT, fun hx => ?_, fun k e hk r L' H' _ _ _ i X => ?_⟩
    · rcases hd with ⟨hd, q⟩ | ⟨⟨a, ea, ha, hd⟩, q⟩ | ⟨a, ea, ha, hd, q⟩
      · exact q _ (Same.refl _)
      · exfalso; omega
      · exfalso; omega
    · rcases hd with ⟨hd, q⟩ | ⟨⟨a, ea, ha, hd⟩, q⟩ | ⟨a, ea, ha, hd, q⟩ <;> (exfalso; omega)
  walk_at "st"
  walk_at "if" <;> intro c3
  · subst c3
    walk_at "st"
    refine ⟨t, g, x, y, bs, none, _, [], rfl, A, hB, by decide, hT, fun hx => ?_, fun k1 k2 e1 e2 h1 h2 r L' H' _ _ _ i X => ?_⟩
    · rcases hd with ⟨hd, q⟩ | ⟨⟨a, ea, ha, hd⟩, q⟩ | ⟨a, ea, ha, hd, q⟩
      · exact q _ (Same.refl _)
      · exfalso; omega
      · exfalso; omega
    · rcases hd with ⟨hd, q⟩ | ⟨⟨a, ea, ha, hd⟩, q⟩ | ⟨a, ea, ha, hd, q⟩ <;> (exfalso; omega)
  walk_at "st"
  walk_at "if" <;> intro c4
  · subst c4
    walk_at "st"
    refine ⟨t, g, x, bs, none, _, [], rfl, A, hB, by decide, hT, fun hx => ?_, fun k e hk hk0 H' L' _ _ i X => ?_, fun k e hk c L' H' hP _ _ i X => ?_⟩
    · rcases hd with ⟨hd, q⟩ | ⟨⟨a, ea, ha, hd⟩, q⟩ | ⟨a, ea, ha, hd, q⟩
      · exact q _ (Same.refl _)
      · exfalso; omega
      · exfalso; omega
    · rcases hd with ⟨hd, q⟩ | ⟨⟨a, ea, ha, hd⟩, q⟩ | ⟨a, ea, ha, hd, q⟩
      · exfalso; omega
      · exact q _ X.pure
      · obtain rfl : k = a := by omega
        exfalso; omega
    · have hlt := hP.lt
      have hup := hP.up
      rcases hd with ⟨hd, q⟩ | ⟨⟨a, ea, ha, hd⟩, q⟩ | ⟨a, ea, ha, hd, q⟩
      · exfalso; omega
      · obtain rfl : k = a := by omega
        exfalso; omega
      · obtain rfl : k = a := by omega
        exact q c _ (by omega) X.pure
  walk_at "st"
  walk_at "if" <;> intro c5
  · subst c5
    walk_at "st"
    refine ⟨t, g, x, bs, none, _, [], rfl, A, hB, by decide, hT, fun hx => ?_, fun k e hk hk0 H' L' _ _ i X => ?_, fun k e hk c L' H' hP _ _ i X => ?_⟩
    · rcases hd with ⟨hd, q⟩ | ⟨⟨a, ea, ha, hd⟩, q⟩ | ⟨a, ea, ha, hd, q⟩
      · exact q _ (Same.refl _)
      · exfalso; omega
      · exfalso; omega
    · rcases hd with ⟨hd, q⟩ | ⟨⟨a, ea, ha, hd⟩, q⟩ | ⟨a, ea, ha, hd, q⟩
      · exfalso; omega
      · exact q _ X.pure
      · obtain rfl : k = a := by omega
        exfalso; omega
    · have hlt := hP.lt
      have hdn := hP.dn
      rcases hd with ⟨hd, q⟩ | ⟨⟨a, ea, ha, hd⟩, q⟩ | ⟨a, ea, ha, hd, q⟩
      · exfalso; omega
      · obtain rfl : k = a := by omega
        exfalso; omega
      · obtain rfl : k = a := by omega
        exact q c _ (by omega) X.pure
  walk_at "st"
  refine ⟨t, g, x, y, bs, none, _, [], rfl, A, hB, by decide, hT, hy (by omega), fun hx => ?_, fun k e hk hk0 H' L' _ _ i X => ?_, fun k e hk hk1 r L' H' _ _ _ i X => ?_⟩
  · rcases hd with ⟨hd, q⟩ | ⟨⟨a, ea, ha, hd⟩, q⟩ | ⟨a, ea, ha, hd, q⟩
    · exact q _ (Same.refl _)
    · exfalso; omega
    · exfalso; omega
  · rcases hd with ⟨hd, q⟩ | ⟨⟨a, ea, ha, hd⟩, q⟩ | ⟨a, ea, ha, hd, q⟩
    · exfalso; omega
    · exact q _ X.pure
    · exfalso; omega
  · rcases hd with ⟨hd, q⟩ | ⟨⟨a, ea, ha, hd⟩, q⟩ | ⟨a, ea, ha, hd, q⟩
    · exfalso; omega
    · obtain rfl : k = a := by omega
      exfalso; omega
    · exfalso; omega
/-- the class of a kind -/
structure KindN (K : PySem.W.Frag) (D : Addr) (n : Nat) : Prop where
  a : PySem.W.kitOne K (.ref D) (.ref (He.ga K "TooMany")) = some (decide (0 = n))
  b : PySem.W.kitOne K (.ref D) (.ref (He.ga K "NoBit")) = some (decide (1 = n))
  c : PySem.W.kitOne K (.ref D) (.ref (He.ga K "NoTree")) = some (decide (2 = n))
  d : PySem.W.kitOne K (.ref D) (.ref (He.ga K "NoPlace")) = some (decide (3 = n))
  e : PySem.W.kitOne K (.ref D) (.ref (He.ga K "NoNode")) = some (decide (4 = n))
  f : PySem.W.kitAny K (.ref D) ([He.ga K "NoSign", He.ga K "NoWord", He.ga K "Twice", He.ga K "NoOctets"].map Value.ref) = some false
def kindL (n : Nat) : List Bool := [decide (0 = n), decide (1 = n), decide (2 = n), decide (3 = n), decide (4 = n), false]
theorem any4 {K : PySem.W.Frag} {D : Addr} (h1 : PySem.W.kitOne K (.ref D) (.ref (He.ga K "NoSign")) = some false) (h2 : PySem.W.kitOne K (.ref D) (.ref (He.ga K "NoWord")) = some false) (h3 : PySem.W.kitOne K (.ref D) (.ref (He.ga K "Twice")) = some false) (h4 : PySem.W.kitOne K (.ref D) (.ref (He.ga K "NoOctets")) = some false) :
    PySem.W.kitAny K (.ref D) ([He.ga K "NoSign", He.ga K "NoWord", He.ga K "Twice", He.ga K "NoOctets"].map Value.ref) = some false := kitAny_no _ fun u hu => by
  simp only [List.map_cons, List.map_nil, List.mem_cons, List.not_mem_nil, or_false] at hu
  rcases hu with rfl | rfl | rfl | rfl <;> assumption
/-- _law_kinds(e) -/
def sp_law_kinds (K : PySem.W.Frag) : Sp := fun vs H Q _ => ∃ (a D : Addr) (n : Nat), vs = [.ref a] ∧ ExcAt K H a D ∧ KindN K D n ∧ ∀ p H', H p = none → L2.Same H H' → H' p = some (.lst ((kindL n).map V.bl)) → Q (.ref p) H'
theorem len_law_kinds (K : PySem.W.Frag) : ∀ vs H Q E, sp_law_kinds K vs H Q E → vs.length = 1 := by
  rintro vs H Q E ⟨a, D, _, rfl, _⟩; rfl
theorem none_all {H H' : Hp} (s : L2.Same H H') {p : Addr} (h : H' p = none) : H p = none := by
  cases e : H p with
  | none => rfl
  | some o => rw [s p o e] at h; cases h
def t_law_kinds (K : PySem.W.Frag) : TS :=
  (tSeq (tAsg (tLst (tCons (tCB (rIsH K) (tCons (tVar 0) (tCons (tC (.ref (He.ga K "TooMany"))) tNil))) (tCons (tCB (rIsH K) (tCons (tVar 0) (tCons (tC (.ref (He.ga K "NoBit"))) tNil))) (tCons (tCB (rIsH K) (tCons (tVar 0) (tCons (tC (.ref (He.ga K "NoTree"))) tNil))) (tCons (tCB (rIsH K) (tCons (tVar 0) (tCons (tC (.ref (He.ga K "NoPlace"))) tNil))) tNil))))) (gName 1))
  (tRet (tOp rCat (tVar 1) (tLst (tCons (tCB (rIsH K) (tCons (tVar 0) (tCons (tC (.ref (He.ga K "NoNode"))) tNil))) (tCons (tCB (rIsH K) (tCons (tVar 0) (tCons (tTup (tCons (tC (.ref (He.ga K "NoSign"))) (tCons (tC (.ref (He.ga K "NoWord"))) (tCons (tC (.ref (He.ga K "Twice"))) (tCons (tC (.ref (He.ga K "NoOctets"))) tNil))))) tNil))) tNil))))))
abbrev n_law_kinds : List Str := ["_law_e", "_law_kinds_here"]

theorem rd_law_kinds (K : PySem.W.Frag) (F : KFx K) (vs : List V) (H : Hp) (Q : VK) (E : XK) (h : sp_law_kinds K vs H Q E) : t_law_kinds K { nx := fun _ H' => Q .non H', rt := Q } (start n_law_kinds vs) H := by
  obtain ⟨a, D, n, rfl, hA, hN, q⟩ := h
  unfold t_law_kinds
  walk_at "st"
  refine k_isH hA hN.a ?_
  walk_at "st"
  refine k_isH hA hN.b ?_
  walk_at "st"
  refine k_isH hA hN.c ?_
  walk_at "st"
  refine k_isH hA hN.d ?_
  walk_at "st"
  intro p1 hp1
  have s1 := all_new (o := .lst [.bl (decide (0 = n)), .bl (decide (1 = n)), .bl (decide (2 = n)), .bl (decide (3 = n))]) hp1
  have e1 := upd_same (H := H) (a := p1) (o := .lst [.bl (decide (0 = n)), .bl (decide (1 = n)), .bl (decide (2 = n)), .bl (decide (3 = n))])
  generalize upd H p1 (.lst [.bl (decide (0 = n)), .bl (decide (1 = n)), .bl (decide (2 = n)), .bl (decide (3 = n))]) = H1 at s1 e1 ⊢
  walk_at "st"
  refine k_isH (hA.same (.of s1)) hN.e ?_
  walk_at "st"
  intro p2 hp2
  have s2 := all_new (o := .tup ([He.ga K "NoSign", He.ga K "NoWord", He.ga K "Twice", He.ga K "NoOctets"].map V.ref)) hp2
  have t2 := all_trans s1 s2
  walk_at "st"
  refine k_isHT _ (H := upd H1 p2 (.tup ([He.ga K "NoSign", He.ga K "NoWord", He.ga K "Twice", He.ga K "NoOctets"].map V.ref))) upd_same (hA.same (.of t2)) hN.f ?_
  replace e1 := s2 _ _ e1
  generalize upd H1 p2 (.tup ([He.ga K "NoSign", He.ga K "NoWord", He.ga K "Twice", He.ga K "NoOctets"].map V.ref)) = H2 at s2 t2 e1 ⊢
  walk_at "st"
  intro p3 hp3
  have s3 := all_new (o := .lst [.bl (decide (4 = n)), .bl false]) hp3
  have e3 := upd_same (H := H2) (a := p3) (o := .lst [.bl (decide (4 = n)), .bl false])
  have t3 := all_trans t2 s3
  replace e1 := s3 _ _ e1
  generalize upd H2 p3 (.lst [.bl (decide (4 = n)), .bl false]) = H3 at s3 e3 t3 e1 ⊢
  refine k_cat e1 e3 (by simp only [List.length_cons, List.length_nil]; omega) fun p4 hp4 => ?_
  exact q p4 _ (none_all t3 hp4) (all_trans t3 (all_new hp4)) upd_same
--#base
theorem kind_many {K : PySem.W.Frag} (F : KFx K) : KindN K (He.ga K "TooMany") 0 := ⟨F.k_TooMany_TooMany, F.k_TooMany_NoBit, F.k_TooMany_NoTree, F.k_TooMany_NoPlace, F.k_TooMany_NoNode, any4 F.k_TooMany_NoSign F.k_TooMany_NoWord F.k_TooMany_Twice F.k_TooMany_NoOctets⟩
theorem kind_bit {K : PySem.W.Frag} (F : KFx K) : KindN K (He.ga K "NoBit") 1 := ⟨F.k_NoBit_TooMany, F.k_NoBit_NoBit, F.k_NoBit_NoTree, F.k_NoBit_NoPlace, F.k_NoBit_NoNode, any4 F.k_NoBit_NoSign F.k_NoBit_NoWord F.k_NoBit_Twice F.k_NoBit_NoOctets⟩
theorem kind_tree {K : PySem.W.Frag} (F : KFx K) : KindN K (He.ga K "NoTree") 2 := ⟨F.k_NoTree_TooMany, F.k_NoTree_NoBit, F.k_NoTree_NoTree, F.k_NoTree_NoPlace, F.k_NoTree_NoNode, any4 F.k_NoTree_NoSign F.k_NoTree_NoWord F.k_NoTree_Twice F.k_NoTree_NoOctets⟩
theorem kind_place {K : PySem.W.Frag} (F : KFx K) : KindN K (He.ga K "NoPlace") 3 := ⟨F.k_NoPlace_TooMany, F.k_NoPlace_NoBit, F.k_NoPlace_NoTree, F.k_NoPlace_NoPlace, F.k_NoPlace_NoNode, any4 F.k_NoPlace_NoSign F.k_NoPlace_NoWord F.k_NoPlace_Twice F.k_NoPlace_NoOctets⟩
theorem kind_node {K : PySem.W.Frag} (F : KFx K) : KindN K (He.ga K "NoNode") 4 := ⟨F.k_NoNode_TooMany, F.k_NoNode_NoBit, F.k_NoNode_NoTree, F.k_NoNode_NoPlace, F.k_NoNode_NoNode, any4 F.k_NoNode_NoSign F.k_NoNode_NoWord F.k_NoNode_Twice F.k_NoNode_NoOctets⟩
/-- what is due of a kind -/
def dueL (n : Nat) : List Bool := (List.range 6).map (fun k : Nat => decide ((k : Int) = (n : Int))) ++ [true]
theorem due_kind {n : Nat} (h : n < 5) : kindL n ++ [true] = dueL n := by
  have h5 : n = 0 ∨ n = 1 ∨ n = 2 ∨ n = 3 ∨ n = 4 := by omega
  rcases h5 with rfl | rfl | rfl | rfl | rfl <;> decide
theorem suite_kinds {K : PySem.W.Frag} {x D : Addr} {n : Nat} {H0 H : Hp} {Q : VK} (hx : H x = none) (eC : ExcC K D) (kN : KindN K D n) (s0 : Same H0 H) (q : ∀ p H', H p = none → H' p = some (.lst ((kindL n).map V.bl)) → Same H0 H' → Q (.ref p) H') : CallHK (sp_law_kinds K) x (.ref D) none Q [.ref x] H := by
  intro oe hz hf hn
  refine ⟨x, D, n, rfl, ⟨eC, oe, upd_same, hz, hf⟩, kN, fun p H3 hp a3 e3 => ⟨a3 _ _ upd_same, ?_⟩⟩
  have nx : p ≠ x := fun z => by rw [z, upd_same] at hp; cases hp
  exact q p _ (by rw [upd_ne nx] at hp; exact hp) (by rw [delH_ne nx]; exact e3) (s0.trans (same_del a3 hn))
/-- _law_refused(way, tables, look, at, more, kind) -/
def sp_law_refused (K : PySem.W.Frag) (CL : CLs) : Sp := fun vs H Q _ => ∃ (t g : Addr) (w x y : Int) (n : Nat) (bs : List Int), vs = [.int w, .ref t, .ref g, .int x, .int y, .int (n : Int)] ∧ PuAt K CL H t g bs ∧ NdefX.TabN H (tabP K "node_look") nmL ∧ 0 ≤ w ∧ w ≤ 6 ∧ (w = 6 → 0 ≤ y) ∧ ((PlaceD bs w x y ∧ n = 3) ∨ (NodeD bs w x ∧ n = 4)) ∧ ∀ H', Same H H' → Q (.bl true) H'
theorem len_law_refused (K : PySem.W.Frag) (CL : CLs) : ∀ vs H Q E, sp_law_refused K CL vs H Q E → vs.length = 6 := by
  rintro vs H Q E ⟨_, _, _, _, _, _, _, rfl, _⟩; rfl
theorem due_eq {K : PySem.W.Frag} {H : Hp} {Q : VK} {a b : Addr} {n : Nat} (h : n < 5) (h1 : H a = some (.lst ((kindL n).map V.bl ++ [V.bl true]))) (h2 : H b = some (.lst ((List.range 6).map (fun k : Nat => V.bl (decide ((k : Int) = (n : Int)))) ++ [V.bl true]))) (q : Q (.bl true) H) : rEqD K (.ref a) (.ref b) H Q := by
  refine k_eqB (kindL n ++ [true]) (dueL n) (.of (by rw [h1, List.map_append]; rfl)) (.of (by rw [h2]; unfold dueL; rw [List.map_append, List.map_map]; rfl)) ?_
  rw [due_kind h, decide_eq_true rfl]; exact q
def t_law_refused (K : PySem.W.Frag) (CL : CLs) : TS :=
  (tSeq (tAsg (tLst tNil) (gName 6))
  (tSeq (tTryM K (fun W => (tDrop (tCallS (sp_law_told K CL) (WE W) (tCons (tVar 0) (tCons (tVar 1) (tCons (tVar 2) (tCons (tVar 3) (tCons (tVar 4) tNil)))))))) [(.ref (He.ga K "WoodError"), 7, fun a cls d => (tAsg (tOp rCat (tCallH (sp_law_kinds K) a cls d (tCons (tVar 7) tNil)) (tLst (tCons (tCB (rIsX K cls d a) (tCons (tVar 7) (tCons (tC (.ty "ValueError")) tNil))) tNil))) (gName 6)))] (fun _ _ _ _ => False))
  (tRet (tOp (rEqD K) (tVar 6) (tOp rCat (tLc (iRng1 (tCons (tC (.int 6)) tNil)) (gName 8) tYes (tOp rEq (tVar 8) (tVar 5)) [8]) (tLst (tCons (tC (.bl true)) tNil)))))))
abbrev n_law_refused : List Str := ["_law_way", "_law_tables", "_law_look_here", "_law_at", "_law_more", "_law_kind", "_law_kept", "_law_e", "_law_k"]

theorem rd_law_refused (K : PySem.W.Frag) (CL : CLs) (F : KFx K) (vs : List V) (H : Hp) (Q : VK) (E : XK) (h : sp_law_refused K CL vs H Q E) : t_law_refused K CL { nx := fun _ H' => Q .non H', rt := Q } (start n_law_refused vs) H := by
  obtain ⟨t, g, w, x, y, n, bs, rfl, A, hT, hw0, hw6, hy, hd, q⟩ := h
  unfold t_law_refused
  walk_at "st"
  intro p1 hp1
  have s1 := same_new (o := .lst []) hp1
  generalize upd H p1 (.lst []) = H1 at s1 ⊢
  walk_at "st"
  refine ⟨t, g, w, x, y, bs, rfl, A.move s1, s1.tabs _ hT, hw0, hw6, hy, ?_⟩
  rcases hd with ⟨hd, hn⟩ | ⟨hd, hn⟩
  · refine .inl ⟨hd, fun H2 s2 => ?_⟩
    refine m_caughtM F.e_NoPlace_WoodError fun x hx => ?_
    walk_at "st"
    refine m_callH ?_
    walk_at "st"
    refine suite_kinds hx F.ec_NoPlace (kind_place F) (s1.trans s2) fun p H3 _ e3 s3 => ?_
    walk_at "st"
    refine k_isXty F.ec_NoPlace F.kt_NoPlace ?_
    walk_at "st"
    intro p4 hp4
    have s4 := same_new (o := .lst [.bl true]) hp4
    refine k_cat (s4.get e3) upd_same (by simp [kindL]) fun p5 hp5 => ?_
    walk_at "st"
    have s5 := s3.trans (s4.trans (same_new (o := .lst ((kindL 3).map V.bl ++ [V.bl true])) hp5))
    subst hn
    have e5 := upd_same (H := upd H3 p4 (.lst [.bl true])) (a := p5) (o := .lst ((kindL 3).map V.bl ++ [V.bl true]))
    generalize upd (upd H3 p4 (.lst [.bl true])) p5 (.lst ((kindL 3).map V.bl ++ [V.bl true])) = H5 at s5 e5 ⊢
    refine comp_rangeV (f := fun k : Nat => V.bl (decide ((k : Int) = ((3 : Nat) : Int)))) (by decide) (fun k Ha Q2 hk sk q2 => ?_) fun p6 H6 hp6 s6 e6 => ?_
    · walk_at "st"
      exact q2 _ (Same.refl _)
    walk_at "st"
    intro p7 hp7
    have s7 := same_new (o := .lst [.bl true]) hp7
    refine k_cat (s7.get e6) upd_same (by simp) fun p8 hp8 => ?_
    have s8 := same_new (o := .lst ((List.range 6).map (fun k : Nat => V.bl (decide ((k : Int) = ((3 : Nat) : Int)))) ++ [V.bl true])) hp8
    exact due_eq (n := 3) (by decide) (s8.get (s7.get (s6.get e5))) upd_same (q _ ((s5.trans s6).trans (s7.trans s8)))
  · refine .inr (.inl ⟨hd, fun H2 s2 => ?_⟩)
    refine m_caughtM F.e_NoNode_WoodError fun x hx => ?_
    walk_at "st"
    refine m_callH ?_
    walk_at "st"
    refine suite_kinds hx F.ec_NoNode (kind_node F) (s1.trans s2) fun p H3 _ e3 s3 => ?_
    walk_at "st"
    refine k_isXty F.ec_NoNode F.kt_NoNode ?_
    walk_at "st"
    intro p4 hp4
    have s4 := same_new (o := .lst [.bl true]) hp4
    refine k_cat (s4.get e3) upd_same (by simp [kindL]) fun p5 hp5 => ?_
    walk_at "st"
    have s5 := s3.trans (s4.trans (same_new (o := .lst ((kindL 4).map V.bl ++ [V.bl true])) hp5))
    subst hn
    have e5 := upd_same (H := upd H3 p4 (.lst [.bl true])) (a := p5) (o := .lst ((kindL 4).map V.bl ++ [V.bl true]))
    generalize upd (upd H3 p4 (.lst [.bl true])) p5 (.lst ((kindL 4).map V.bl ++ [V.bl true])) = H5 at s5 e5 ⊢
    refine comp_rangeV (f := fun k : Nat => V.bl (decide ((k : Int) = ((4 : Nat) : Int)))) (by decide) (fun k Ha Q2 hk sk q2 => ?_) fun p6 H6 hp6 s6 e6 => ?_
    · walk_at "st"
      exact q2 _ (Same.refl _)
    walk_at "st"
    intro p7 hp7
    have s7 := same_new (o := .lst [.bl true]) hp7
    refine k_cat (s7.get e6) upd_same (by simp) fun p8 hp8 => ?_
    have s8 := same_new (o := .lst ((List.range 6).map (fun k : Nat => V.bl (decide ((k : Int) = ((4 : Nat) : Int)))) ++ [V.bl true])) hp8
    exact due_eq (n := 4) (by decide) (s8.get (s7.get (s6.get e5))) upd_same (q _ ((s5.trans s6).trans (s7.trans s8)))
--#base
/-- _law_not_kept(bits, kind) -/
def sp_law_not_kept (K : PySem.W.Frag) : Sp := fun vs H Q _ => ∃ (a : Addr) (n : Nat) (bs : List Int), vs = [.ref a, .int (n : Int)] ∧ H a = some (.lst (bs.map V.int)) ∧ bs.length ≤ 5000 ∧ ((bs.length > 4096 ∧ n = 0) ∨ (bs.length ≤ 4096 ∧ ¬ Bits bs ∧ n = 1) ∨ (bs.length ≤ 4096 ∧ Bits bs ∧ ¬ IsTree bs ∧ n = 2)) ∧ ∀ H', Same H H' → Q (.bl true) H'
theorem len_law_not_kept (K : PySem.W.Frag) : ∀ vs H Q E, sp_law_not_kept K vs H Q E → vs.length = 2 := by
  rintro vs H Q E ⟨_, _, _, rfl, _⟩; rfl
def t_law_not_kept (K : PySem.W.Frag) : TS :=
  (tSeq (tAsg (tCB (rListOf K) (tCons (tVar 0) tNil)) (gName 2))
  (tSeq (tAsg (tLst tNil) (gName 3))
  (tSeq (tTryM K (fun W => (tDrop (tCallS (sp_kept_brackets K) (WE W) (tCons (tVar 2) tNil)))) [(.ref (He.ga K "WoodError"), 4, fun a cls d => (tAsg (tOp rCat (tCallH (sp_law_kinds K) a cls d (tCons (tVar 4) tNil)) (tLst (tCons (tCB (rIsX K cls d a) (tCons (tVar 4) (tCons (tC (.ty "ValueError")) tNil))) tNil))) (gName 3)))] (fun _ _ _ _ => False))
  (tRet (tAndV (tOp (rEqD K) (tVar 3) (tOp rCat (tLc (iRng1 (tCons (tC (.int 6)) tNil)) (gName 5) tYes (tOp rEq (tVar 5) (tVar 1)) [5]) (tLst (tCons (tC (.bl true)) tNil)))) (tOp (rEqD K) (tVar 2) (tVar 0)))))))
abbrev n_law_not_kept : List Str := ["_law_bits", "_law_kind", "_law_handed", "_law_kept", "_law_e", "_law_k"]

theorem rd_law_not_kept (K : PySem.W.Frag) (F : KFx K) (vs : List V) (H : Hp) (Q : VK) (E : XK) (h : sp_law_not_kept K vs H Q E) : t_law_not_kept K { nx := fun _ H' => Q .non H', rt := Q } (start n_law_not_kept vs) H := by
  obtain ⟨a, n, bs, rfl, ha, hl, hd, q⟩ := h
  unfold t_law_not_kept
  walk_at "st"
  refine k_listL (.of ha) fun pc hpc => ?_
  have s0 := same_new (o := .lst (bs.map V.int)) hpc
  have ec := upd_same (H := H) (a := pc) (o := .lst (bs.map V.int))
  generalize upd H pc (.lst (bs.map V.int)) = H0 at s0 ec ⊢
  walk_at "st"
  intro p1 hp1
  have s1 := s0.trans (same_new (o := .lst []) hp1)
  have hc := (same_new (o := .lst []) hp1).get ec
  generalize upd H0 p1 (.lst []) = H1 at s1 hc ⊢
  walk_at "st"
  refine ⟨pc, bs, rfl, .of hc, by omega, fun hm => ?_, fun hm nB H2 s2 => ?_, fun hm hB nT H2 s2 => ?_, fun hm hB hT => ?_⟩
  · have hn : n = 0 := by omega
    have s2 := Same.refl H1
    refine m_caughtM F.e_TooMany_WoodError fun x hx => ?_
    walk_at "st"
    refine m_callH ?_
    walk_at "st"
    refine suite_kinds hx F.ec_TooMany (kind_many F) s2 fun p H3 _ e3 s3 => ?_
    walk_at "st"
    refine k_isXty F.ec_TooMany F.kt_TooMany ?_
    walk_at "st"
    intro p4 hp4
    have s4 := same_new (o := .lst [.bl true]) hp4
    refine k_cat (s4.get e3) upd_same (by simp [kindL]) fun p5 hp5 => ?_
    walk_at "st"
    subst hn
    have s5 := s3.trans (s4.trans (same_new (o := .lst ((kindL 0).map V.bl ++ [V.bl true])) hp5))
    have e5 := upd_same (H := upd H3 p4 (.lst [.bl true])) (a := p5) (o := .lst ((kindL 0).map V.bl ++ [V.bl true]))
    generalize upd (upd H3 p4 (.lst [.bl true])) p5 (.lst ((kindL 0).map V.bl ++ [V.bl true])) = H5 at s5 e5 ⊢
    refine comp_rangeV (f := fun k : Nat => V.bl (decide ((k : Int) = ((0 : Nat) : Int)))) (by decide) (fun k Ha Q2 hk sk q2 => ?_) fun p6 H6 hp6 s6 e6 => ?_
    · walk_at "st"
      exact q2 _ (Same.refl _)
    walk_at "st"
    intro p7 hp7
    have s7 := same_new (o := .lst [.bl true]) hp7
    refine k_cat (s7.get e6) upd_same (by simp) fun p8 hp8 => ?_
    have s8 := same_new (o := .lst ((List.range 6).map (fun k : Nat => V.bl (decide ((k : Int) = ((0 : Nat) : Int)))) ++ [V.bl true])) hp8
    refine due_eq (n := 0) (by decide) (s8.get (s7.get (s6.get e5))) upd_same ?_
    have st := (s5.trans s6).trans (s7.trans s8)
    walk_at "st"
    refine k_eqL (ns := bs) (ms := bs) (.of (st.get hc)) (.of ((s1.trans st).get ha)) ?_
    rw [decide_eq_true rfl]
    exact q _ (s1.trans st)
  · have hn : n = 1 := by
      rcases hd with h | ⟨_, _, h⟩ | ⟨_, h, _⟩
      · omega
      · exact h
      · exact absurd h nB
    refine m_caughtM F.e_NoBit_WoodError fun x hx => ?_
    walk_at "st"
    refine m_callH ?_
    walk_at "st"
    refine suite_kinds hx F.ec_NoBit (kind_bit F) s2 fun p H3 _ e3 s3 => ?_
    walk_at "st"
    refine k_isXty F.ec_NoBit F.kt_NoBit ?_
    walk_at "st"
    intro p4 hp4
    have s4 := same_new (o := .lst [.bl true]) hp4
    refine k_cat (s4.get e3) upd_same (by simp [kindL]) fun p5 hp5 => ?_
    walk_at "st"
    subst hn
    have s5 := s3.trans (s4.trans (same_new (o := .lst ((kindL 1).map V.bl ++ [V.bl true])) hp5))
    have e5 := upd_same (H := upd H3 p4 (.lst [.bl true])) (a := p5) (o := .lst ((kindL 1).map V.bl ++ [V.bl true]))
    generalize upd (upd H3 p4 (.lst [.bl true])) p5 (.lst ((kindL 1).map V.bl ++ [V.bl true])) = H5 at s5 e5 ⊢
    refine comp_rangeV (f := fun k : Nat => V.bl (decide ((k : Int) = ((1 : Nat) : Int)))) (by decide) (fun k Ha Q2 hk sk q2 => ?_) fun p6 H6 hp6 s6 e6 => ?_
    · walk_at "st"
      exact q2 _ (Same.refl _)
    walk_at "st"
    intro p7 hp7
    have s7 := same_new (o := .lst [.bl true]) hp7
    refine k_cat (s7.get e6) upd_same (by simp) fun p8 hp8 => ?_
    have s8 := same_new (o := .lst ((List.range 6).map (fun k : Nat => V.bl (decide ((k : Int) = ((1 : Nat) : Int)))) ++ [V.bl true])) hp8
    refine due_eq (n := 1) (by decide) (s8.get (s7.get (s6.get e5))) upd_same ?_
    have st := (s5.trans s6).trans (s7.trans s8)
    walk_at "st"
    refine k_eqL (ns := bs) (ms := bs) (.of (st.get hc)) (.of ((s1.trans st).get ha)) ?_
    rw [decide_eq_true rfl]
    exact q _ (s1.trans st)
  · have hn : n = 2 := by
      rcases hd with h | ⟨_, h, _⟩ | ⟨_, _, _, h⟩
      · omega
      · exact absurd hB h
      · exact h
    refine m_caughtM F.e_NoTree_WoodError fun x hx => ?_
    walk_at "st"
    refine m_callH ?_
    walk_at "st"
    refine suite_kinds hx F.ec_NoTree (kind_tree F) s2 fun p H3 _ e3 s3 => ?_
    walk_at "st"
    refine k_isXty F.ec_NoTree F.kt_NoTree ?_
    walk_at "st"
    intro p4 hp4
    have s4 := same_new (o := .lst [.bl true]) hp4
    refine k_cat (s4.get e3) upd_same (by simp [kindL]) fun p5 hp5 => ?_
    walk_at "st"
    subst hn
    have s5 := s3.trans (s4.trans (same_new (o := .lst ((kindL 2).map V.bl ++ [V.bl true])) hp5))
    have e5 := upd_same (H := upd H3 p4 (.lst [.bl true])) (a := p5) (o := .lst ((kindL 2).map V.bl ++ [V.bl true]))
    generalize upd (upd H3 p4 (.lst [.bl true])) p5 (.lst ((kindL 2).map V.bl ++ [V.bl true])) = H5 at s5 e5 ⊢
    refine comp_rangeV (f := fun k : Nat => V.bl (decide ((k : Int) = ((2 : Nat) : Int)))) (by decide) (fun k Ha Q2 hk sk q2 => ?_) fun p6 H6 hp6 s6 e6 => ?_
    · walk_at "st"
      exact q2 _ (Same.refl _)
    walk_at "st"
    intro p7 hp7
    have s7 := same_new (o := .lst [.bl true]) hp7
    refine k_cat (s7.get e6) upd_same (by simp) fun p8 hp8 => ?_
    have s8 := same_new (o := .lst ((List.range 6).map (fun k : Nat => V.bl (decide ((k : Int) = ((2 : Nat) : Int)))) ++ [V.bl true])) hp8
    refine due_eq (n := 2) (by decide) (s8.get (s7.get (s6.get e5))) upd_same ?_
    have st := (s5.trans s6).trans (s7.trans s8)
    walk_at "st"
    refine k_eqL (ns := bs) (ms := bs) (.of (st.get hc)) (.of ((s1.trans st).get ha)) ?_
    rw [decide_eq_true rfl]
    exact q _ (s1.trans st)
  · exfalso
    rcases hd with h | ⟨_, h, _⟩ | ⟨_, _, h, _⟩
    · omega
    · exact h hB
    · exact h hT
--#base
/-- _law_places_refused(tables, look, far, goal) -/
def sp_law_places_refused (K : PySem.W.Frag) (CL : CLs) : Sp := fun vs H Q _ => ∃ (t g : Addr) (far goal : Int) (bs : List Int), vs = [.ref t, .ref g, .int far, .int goal] ∧ PuAt K CL H t g bs ∧ NdefX.TabN H (tabP K "node_look") nmL ∧ 1 ≤ far ∧ ∀ H', Same H H' → Q (.bl true) H'
theorem len_law_places_refused (K : PySem.W.Frag) (CL : CLs) : ∀ vs H Q E, sp_law_places_refused K CL vs H Q E → vs.length = 4 := by
  rintro vs H Q E ⟨_, _, _, _, _, rfl, _⟩; rfl
def t_law_places_refused (K : PySem.W.Frag) (CL : CLs) : TS :=
  (tSeq (tAsg (tOp (rIxT K) (tVar 0) (tC (.int 0))) (gName 4))
  (tSeq (tFor (iList K (tLst (tCons (tC (.int 0)) (tCons (tC (.int 1)) (tCons (tC (.int 2)) tNil))))) (gName 5)
  (tFor (iList K (tLst (tCons (tOp rMinus (tC (.int 0)) (tVar 2)) (tCons (tOp rPlus (tVar 4) (tVar 2)) tNil)))) (gName 6)
  (tIfS (tNot (tB (tCall (sp_law_refused K CL) [] E0 (tCons (tVar 5) (tCons (tVar 0) (tCons (tVar 1) (tCons (tVar 6) (tCons (tVar 3) (tCons (tC (.int 3)) tNil)))))))))
  (tRet (tC (.bl false)))
  tNext)))
  (tSeq (tFor (iList K (tLst (tCons (tOp rMinus (tC (.int 0)) (tVar 2)) (tCons (tOp rPlus (tOp rMinus (tVar 4) (tC (.int 1))) (tVar 2)) tNil)))) (gName 6)
  (tFor (iList K (tLst (tCons (tC (.int 4)) (tCons (tC (.int 5)) (tCons (tC (.int 6)) tNil))))) (gName 5)
  (tIfS (tNot (tB (tCall (sp_law_refused K CL) [] E0 (tCons (tVar 5) (tCons (tVar 0) (tCons (tVar 1) (tCons (tVar 6) (tCons (tVar 2) (tCons (tC (.int 3)) tNil)))))))))
  (tRet (tC (.bl false)))
  tNext)))
  (tSeq (tAsg (tOp rMod (tVar 2) (tOp rPlus (tVar 4) (tC (.int 1)))) (gName 7))
  (tSeq (tFor (iList K (tLst (tCons (tTup (tCons (tOp rMinus (tC (.int 0)) (tVar 2)) (tCons (tVar 4) tNil))) (tCons (tTup (tCons (tC (.int 0)) (tCons (tOp rPlus (tVar 4) (tVar 2)) tNil))) (tCons (tTup (tCons (tVar 7) (tCons (tVar 7) tNil))) (tCons (tTup (tCons (tVar 4) (tCons (tVar 7) tNil))) (tCons (tTup (tCons (tVar 4) (tCons (tOp rPlus (tVar 4) (tVar 2)) tNil))) tNil))))))) (gTup K 2 (gCons (gName 6) (gCons (gName 8) gNil)))
  (tIfS (tNot (tB (tCall (sp_law_refused K CL) [] E0 (tCons (tC (.int 3)) (tCons (tVar 0) (tCons (tVar 1) (tCons (tVar 6) (tCons (tVar 8) (tCons (tC (.int 3)) tNil)))))))))
  (tRet (tC (.bl false)))
  tNext))
  (tRet (tC (.bl true))))))))
abbrev n_law_places_refused : List Str := ["_law_tables", "_law_look_here", "_law_far", "_law_goal", "_law_many", "_law_way", "_law_at", "_law_spot", "_law_upto"]

theorem rd_law_places_refused (K : PySem.W.Frag) (CL : CLs) (vs : List V) (H : Hp) (Q : VK) (E : XK) (h : sp_law_places_refused K CL vs H Q E) : t_law_places_refused K CL { nx := fun _ H' => Q .non H', rt := Q } (start n_law_places_refused vs) H := by
  obtain ⟨t, g, far, goal, bs, rfl, A, hT, hfar, q⟩ := h
  obtain ⟨B, A0, _⟩ := id A
  obtain ⟨pa, ph, h1, _, _⟩ := A0.tab
  unfold t_law_places_refused
  walk_at "st"
  refine k_ixT h1 (x := .int (bs.length : Int)) rfl ?_
  walk_at "st"
  intro p1 hp1
  have s1 := same_new (o := .lst [.int 0, .int 1, .int 2]) hp1
  have e1 : (upd H p1 (.lst [.int 0, .int 1, .int 2])) p1 = some (.lst (([0, 1, 2] : List Int).map V.int)) := upd_same
  generalize upd H p1 (.lst [.int 0, .int 1, .int 2]) = H1 at s1 e1 ⊢
  walk_at "st"
  refine m_iLe (.of e1) ?_
  refine loop_ints (ns := ([0, 1, 2] : List Int)) (fun i σ' H' => ∃ (v5 v6 : Option V), Same H1 H' ∧ σ' = [some (.ref t), some (.ref g), some (.int far), some (.int goal), some (.int (bs.length : Int)), v5, v6, none, none]) ⟨none, none, Same.refl _, rfl⟩ (fun i σ' H' ⟨_, _, s, _⟩ => .of (s.get e1)) (fun i w σ' H' hw ⟨v5, v6, s, es⟩ => ?_) (fun σ' H' ⟨v5, v6, s, es⟩ => ?_)
  · subst es
    have hw2 : w = 0 ∨ w = 1 ∨ w = 2 := by have := List.mem_of_getElem? hw; simpa using this
    walk_at "st"
    intro p2 hp2
    have s2 := s.trans (same_new (o := .lst [.int (0 - far), .int ((bs.length : Int) + far)]) hp2)
    have e2 : (upd H' p2 (.lst [.int (0 - far), .int ((bs.length : Int) + far)])) p2 = some (.lst (([0 - far, (bs.length : Int) + far] : List Int).map V.int)) := upd_same
    generalize upd H' p2 (.lst [.int (0 - far), .int ((bs.length : Int) + far)]) = H2 at s2 e2 ⊢
    walk_at "st"
    refine m_iLe (.of e2) ?_
    refine loop_ints (ns := ([0 - far, (bs.length : Int) + far] : List Int)) (fun i σ' H' => ∃ (v6 : Option V), Same H2 H' ∧ σ' = [some (.ref t), some (.ref g), some (.int far), some (.int goal), some (.int (bs.length : Int)), some (.int w), v6, none, none]) ⟨v6, Same.refl _, rfl⟩ (fun i σ' H' ⟨_, s, _⟩ => .of (s.get e2)) (fun i x σ' H' hx ⟨v6, s, es⟩ => ?_) (fun σ' H' ⟨v6, s, es⟩ => ?_)
    · subst es
      have hx2 : x = 0 - far ∨ x = (bs.length : Int) + far := by have := List.mem_of_getElem? hx; simpa using this
      have sx := s1.trans (s2.trans s)
      walk_at "st"
      refine ⟨t, g, w, x, goal, 3, bs, rfl, A.move sx, sx.tabs _ hT, by omega, by omega, fun z => by omega, .inl ⟨.inl ⟨by omega, by omega⟩, rfl⟩, fun H3 s3 => ?_⟩
      walk_at "st"
      exact ⟨_, s.trans s3, rfl⟩
    · subst es
      exact ⟨_, _, s2.trans s, rfl⟩
  subst es
  walk_at "st"
  have sb := s1.trans s
  clear e1 s1 s hp1
  intro p1 hp1
  have s1 := sb.trans (same_new (o := .lst [.int (0 - far), .int ((bs.length : Int) - 1 + far)]) hp1)
  have e1 : (upd H' p1 (.lst [.int (0 - far), .int ((bs.length : Int) - 1 + far)])) p1 = some (.lst (([0 - far, (bs.length : Int) - 1 + far] : List Int).map V.int)) := upd_same
  generalize upd H' p1 (.lst [.int (0 - far), .int ((bs.length : Int) - 1 + far)]) = H1 at s1 e1 ⊢
  walk_at "st"
  refine m_iLe (.of e1) ?_
  refine loop_ints (ns := ([0 - far, (bs.length : Int) - 1 + far] : List Int)) (fun i σ' H' => ∃ (v5 v6 : Option V), Same H1 H' ∧ σ' = [some (.ref t), some (.ref g), some (.int far), some (.int goal), some (.int (bs.length : Int)), v5, v6, none, none]) ⟨v5, v6, Same.refl _, rfl⟩ (fun i σ' H' ⟨_, _, s, _⟩ => .of (s.get e1)) (fun i x σ' H' hx ⟨v5, v6, s, es⟩ => ?_) (fun σ' H' ⟨v5, v6, s, es⟩ => ?_)
  · subst es
    have hx2 : x = 0 - far ∨ x = (bs.length : Int) - 1 + far := by have := List.mem_of_getElem? hx; simpa using this
    walk_at "st"
    intro p2 hp2
    have s2 := s.trans (same_new (o := .lst [.int 4, .int 5, .int 6]) hp2)
    have e2 : (upd H' p2 (.lst [.int 4, .int 5, .int 6])) p2 = some (.lst (([4, 5, 6] : List Int).map V.int)) := upd_same
    generalize upd H' p2 (.lst [.int 4, .int 5, .int 6]) = H2 at s2 e2 ⊢
    walk_at "st"
    refine m_iLe (.of e2) ?_
    refine loop_ints (ns := ([4, 5, 6] : List Int)) (fun i σ' H' => ∃ (v5 : Option V), Same H2 H' ∧ σ' = [some (.ref t), some (.ref g), some (.int far), some (.int goal), some (.int (bs.length : Int)), v5, some (.int x), none, none]) ⟨v5, Same.refl _, rfl⟩ (fun i σ' H' ⟨_, s, _⟩ => .of (s.get e2)) (fun i w σ' H' hw ⟨v5, s, es⟩ => ?_) (fun σ' H' ⟨v5, s, es⟩ => ?_)
    · subst es
      have hw2 : w = 4 ∨ w = 5 ∨ w = 6 := by have := List.mem_of_getElem? hw; simpa using this
      have sx := s1.trans (s2.trans s)
      walk_at "st"
      refine ⟨t, g, w, x, far, 3, bs, rfl, A.move sx, sx.tabs _ hT, by omega, by omega, fun z => by omega, .inl ⟨.inr (.inr ⟨by omega, by omega⟩), rfl⟩, fun H3 s3 => ?_⟩
      walk_at "st"
      exact ⟨_, s.trans s3, rfl⟩
    · subst es
      exact ⟨_, _, s2.trans s, rfl⟩
  subst es
  have hpos : (0 : Int) < (bs.length : Int) + 1 := by omega
  walk_at "st"
  obtain ⟨sp, hsp⟩ : ∃ sp, sp = far % ((bs.length : Int) + 1) := ⟨_, rfl⟩
  have b1 := Int.emod_nonneg far (show (bs.length : Int) + 1 ≠ 0 by omega)
  have b2 := Int.emod_lt_of_pos far hpos
  rw [← hsp] at b1 b2 ⊢
  clear hsp
  have sb2 := s1.trans s
  clear e1 s1 s hp1 sb
  have tup5 : ∀ (x y : Int) (p : Addr) (Ha : Hp), Ha p = none → Same Ha (upd Ha p (.tup [.int x, .int y])) ∧ (upd Ha p (.tup [.int x, .int y])) p = some (.tup [.int x, .int y]) := fun x y p Ha hp => ⟨same_new hp, upd_same⟩
  intro q1 hq1
  obtain ⟨u1, f1⟩ := tup5 (0 - far) bs.length q1 _ hq1
  generalize upd H' q1 (.tup [.int (0 - far), .int (bs.length : Int)]) = G1 at u1 f1 ⊢
  walk_at "st"
  intro q2 hq2
  obtain ⟨u2, f2⟩ := tup5 0 ((bs.length : Int) + far) q2 _ hq2
  generalize upd G1 q2 (.tup [.int 0, .int ((bs.length : Int) + far)]) = G2 at u2 f2 ⊢
  walk_at "st"
  intro q3 hq3
  obtain ⟨u3, f3⟩ := tup5 sp sp q3 _ hq3
  generalize upd G2 q3 (.tup [.int sp, .int sp]) = G3 at u3 f3 ⊢
  walk_at "st"
  intro q4 hq4
  obtain ⟨u4, f4⟩ := tup5 bs.length sp q4 _ hq4
  generalize upd G3 q4 (.tup [.int (bs.length : Int), .int sp]) = G4 at u4 f4 ⊢
  walk_at "st"
  intro q5 hq5
  obtain ⟨u5, f5⟩ := tup5 bs.length ((bs.length : Int) + far) q5 _ hq5
  generalize upd G4 q5 (.tup [.int (bs.length : Int), .int ((bs.length : Int) + far)]) = G5 at u5 f5 ⊢
  walk_at "st"
  intro p1 hp1
  have s1 := same_new (o := .lst [.ref q1, .ref q2, .ref q3, .ref q4, .ref q5]) hp1
  have e1 := upd_same (H := G5) (a := p1) (o := .lst [.ref q1, .ref q2, .ref q3, .ref q4, .ref q5])
  have u := sb2.trans (u1.trans (u2.trans (u3.trans (u4.trans (u5.trans s1)))))
  replace f5 := s1.get f5
  replace f4 := s1.get (u5.get f4)
  replace f3 := s1.get (u5.get (u4.get f3))
  replace f2 := s1.get (u5.get (u4.get (u3.get f2)))
  replace f1 := s1.get (u5.get (u4.get (u3.get (u2.get f1))))
  generalize upd G5 p1 (.lst [.ref q1, .ref q2, .ref q3, .ref q4, .ref q5]) = H1 at s1 e1 u f1 f2 f3 f4 f5 ⊢
  walk_at "st"
  refine m_iLe (.of e1) ?_
  refine loop_list (xs := [V.ref q1, .ref q2, .ref q3, .ref q4, .ref q5]) (fun i σ' H' => ∃ (v6 v8 : Option V), Same H1 H' ∧ σ' = [some (.ref t), some (.ref g), some (.int far), some (.int goal), some (.int (bs.length : Int)), v5, v6, some (.int sp), v8]) ⟨v6, none, Same.refl _, rfl⟩ (fun i σ' H' _ ⟨_, _, s, _⟩ => .of (s.get e1)) (fun i v σ' H' hv ⟨v6, v8, s, es⟩ => ?_) (fun σ' H' ⟨v6, v8, s, es⟩ => ?_)
  · subst es
    have hv2 := List.mem_of_getElem? hv
    obtain ⟨q0, x, y, rfl, f0, hd⟩ : ∃ (q0 : Addr) (x y : Int), v = .ref q0 ∧ H1 q0 = some (.tup [.int x, .int y]) ∧ (x < 0 ∨ (bs.length : Int) < x ∨ y < 0 ∨ (bs.length : Int) < y ∨ y ≤ x) := by
      simp only [List.mem_cons, List.not_mem_nil, or_false] at hv2
      rcases hv2 with rfl | rfl | rfl | rfl | rfl
      · exact ⟨q1, _, _, rfl, f1, by omega⟩
      · exact ⟨q2, _, _, rfl, f2, by omega⟩
      · exact ⟨q3, _, _, rfl, f3, by omega⟩
      · exact ⟨q4, _, _, rfl, f4, by omega⟩
      · exact ⟨q5, _, _, rfl, f5, by omega⟩
    refine m_gTup (.of (s.get f0)) rfl ?_
    walk_at "st"
    have sx := u.trans s
    refine ⟨t, g, 3, x, y, 3, bs, rfl, A.move sx, sx.tabs _ hT, by decide, by decide, fun z => by omega, .inl ⟨.inr (.inl ⟨rfl, hd⟩), rfl⟩, fun H3 s3 => ?_⟩
    walk_at "st"
    exact ⟨_, _, s.trans s3, rfl⟩
  subst es
  walk_at "st"
  exact q _ (u.trans s)
--#base
theorem sum_set : ∀ (xs : List Int) (k : Nat) (v : Int), k < xs.length → (xs.set k v).sum = xs.sum - xs.getD k 0 + v
  | [], k, v, h => by simp at h
  | x :: xs, 0, v, _ => by simp; omega
  | x :: xs, k + 1, v, h => by
    have ih := sum_set xs k v (by simpa using h)
    rw [List.set_cons_succ, List.sum_cons, List.sum_cons, ih, List.getD_cons_succ]; omega
theorem turn_no {bs : List Int} (hB : Bits bs) (hI : IsTree bs) {k : Nat} (hk : k < bs.length) : ¬ IsTree (bs.set k (1 - bs.getD k 0)) := fun z => by
  have h1 := hI.2.1
  have h2 := z.2.1
  have hb := getD_bit hB k
  unfold hgt at h1 h2
  rw [sumTo_all _ (Nat.le_refl _)] at h1 h2
  rw [sum_set _ _ _ hk, List.length_set] at h2
  omega
theorem turn_bits {bs : List Int} (hB : Bits bs) (k : Nat) : Bits (bs.set k (1 - bs.getD k 0)) := fun x hx => by
  rcases List.mem_or_eq_of_mem_set hx with h | h
  · exact hB x h
  · have := getD_bit hB k; omega
theorem odd_no {xs : List Int} {k : Nat} {v : Int} (hk : k < xs.length) (hv : v < 0 ∨ 1 < v) : ¬ Bits (xs.set k v) := fun z => by
  have := z v (List.mem_of_getElem? (i := k) (by rw [List.getElem?_set_self hk]))
  omega
theorem root_pair {bs : List Int} (hB : Bits bs) (hI : IsTree bs) : Pair bs 0 (bs.length - 1) ∧ hgt bs (bs.length - 1) = 1 := by
  obtain ⟨h2, h0, hp⟩ := hI
  have a1 := hgt_succ bs (bs.length - 1)
  rw [show bs.length - 1 + 1 = bs.length by omega, h0] at a1
  have b1 := getD_bit hB (bs.length - 1)
  have p1 := hp (bs.length - 1) (by omega) (by omega)
  have a0 := hgt_succ bs 0
  rw [hgt_zero] at a0
  have b0 := getD_bit hB 0
  have p0 := hp 1 (by omega) (by omega)
  have e1 : hgt bs (0 + 1) = hgt bs 1 := rfl
  refine ⟨⟨by omega, by omega, by omega, by omega, ?_, fun j j1 j2 => ?_⟩, by omega⟩
  · rw [show bs.length - 1 + 1 = bs.length by omega, h0, hgt_zero]
  · rw [hgt_zero]; exact hp j j1 (by omega)
/-- 2048 pairs one within the other -/
def deepB : List Int := List.replicate 2048 1 ++ List.replicate 2048 0
theorem deepB_len : deepB.length = 4096 := by unfold deepB; rw [List.length_append, List.length_replicate, List.length_replicate]
theorem sum_rep (n : Nat) (x : Int) : (List.replicate n x).sum = n * x := by
  induction n with
  | zero => simp
  | succ n ih => rw [List.replicate_succ, List.sum_cons, ih]; push_cast; rw [Int.add_mul]; omega
theorem deepB_hgt {k : Nat} (h : k ≤ 4096) : hgt deepB k = if k ≤ 2048 then (k : Int) else 4096 - k := by
  have e : sumTo deepB k = ((min k 2048 : Nat) : Int) := by
    unfold sumTo deepB
    rw [List.take_append, List.sum_append, List.take_replicate, List.take_replicate, sum_rep, sum_rep, List.length_replicate]; omega
  unfold hgt
  rw [e]
  split <;> omega
theorem deepB_get {k : Nat} (h : k < 4096) : deepB.getD k 0 = if k < 2048 then 1 else 0 := by
  have a := hgt_succ deepB k
  rw [deepB_hgt (by omega), deepB_hgt (by omega)] at a
  split at a <;> split at a <;> split <;> omega
theorem deepB_bits : Bits deepB := fun x hx => by
  unfold deepB at hx
  rcases List.mem_append.mp hx with h | h
  · exact .inr (List.mem_replicate.mp h).2
  · exact .inl (List.mem_replicate.mp h).2
theorem deepB_tree : IsTree deepB := by
  refine ⟨by rw [deepB_len]; decide, by rw [deepB_len, deepB_hgt (by decide)]; decide, fun k h1 h2 => ?_⟩
  rw [deepB_len] at h2
  rw [deepB_hgt (by omega)]; split <;> omega
theorem deepB_pair {a : Nat} (h : a < 2048) : Pair deepB a (4095 - a) := by
  refine ⟨by omega, by rw [deepB_len]; omega, by rw [deepB_get (by omega), if_pos h], by rw [deepB_get (by omega), if_neg (by omega)], ?_, fun j j1 j2 => ?_⟩
  · rw [deepB_hgt (by omega), deepB_hgt (by omega)]; split <;> split <;> omega
  · rw [deepB_hgt (by omega), deepB_hgt (by omega)]; split <;> split <;> omega
theorem puAt_of {K : PySem.W.Frag} {CL : CLs} {H : Hp} {t g pa ph : Addr} {bs : List Int} (lk : PureLook CL 1 g ((blks bs).map V.int) H) (ht : H t = some (.tup [.int (bs.length : Int), .ref pa, .ref ph])) (ha : H pa = some (.tup ((aheadT bs).map V.int))) (hh : H ph = some (.tup (heapL (lowsOf bs)))) (hB : Bits bs) (hI : IsTree bs) (hl : bs.length ≤ 4096) : PuAt K CL H t g bs :=
  ⟨H, ⟨⟨pa, ph, .of ht, .of ha, .of hh⟩, lk.lookI (by decide), hB, hI, hl⟩, LamX.ExtN.refl _⟩
theorem nil_bits : Bits [] := fun x hx => (by cases hx)
theorem nil_no : ¬ IsTree [] := fun z => (by have := z.1; simp at this)
/-- _law_rows_refused(bits, script) -/
def sp_law_rows_refused (K : PySem.W.Frag) : Sp := fun vs H Q _ => ∃ (a sc : Addr) (bs ns : List Int), vs = [.ref a, .ref sc] ∧ H a = some (.lst (bs.map V.int)) ∧ SqL K H sc (ns.map V.int) ∧ IsTree bs ∧ Bits bs ∧ bs.length ≤ 1055 ∧ ∀ H', Same H H' → Q (.bl true) H'
theorem len_law_rows_refused (K : PySem.W.Frag) : ∀ vs H Q E, sp_law_rows_refused K vs H Q E → vs.length = 2 := by
  rintro vs H Q E ⟨_, _, _, _, rfl, _⟩; rfl
def t_law_rows_refused (K : PySem.W.Frag) : TS :=
  (tSeq (tAsg (tCB (rListOf K) (tCons (tVar 0) tNil)) (gName 2))
  (tSeq (tAsg (tOp rMod (tOp rMod (tOp rTimes (tCall (sp_law_cell_at K) [] E0 (tCons (tVar 1) (tCons (tC (.int 1)) tNil))) (tC (.int 69621))) (tC (.int 65521))) (tCB (rLen K) (tCons (tVar 0) tNil))) (gName 3))
  (tSeq (tAsg (tOp rMinus (tC (.int 1)) (tOp (rIxL K) (tVar 2) (tVar 3))) (gSub (tVar 2) (tVar 3) rSetL))
  (tSeq (tAsg (tCall (sp_law_cell_at K) [] E0 (tCons (tVar 1) (tCons (tC (.int 2)) tNil))) (gName 4))
  (tSeq (tAsg (tCB (rListOf K) (tCons (tOp (rIxL K) (tLst (tCons (tVar 0) (tCons (tVar 2) tNil))) (tOp rMod (tOp rDiv (tVar 4) (tC (.int 2))) (tC (.int 2)))) tNil)) (gName 5))
  (tSeq (tAsg (tOp rMod (tOp rMod (tOp rTimes (tCall (sp_law_cell_at K) [] E0 (tCons (tVar 1) (tCons (tC (.int 3)) tNil))) (tC (.int 40692))) (tC (.int 65519))) (tCB (rLen K) (tCons (tVar 0) tNil))) (gName 6))
  (tSeq (tAsg (tOp (rIxL K) (tLst (tCons (tOp rPlus (tC (.int 2)) (tOp rMod (tOp rDiv (tVar 4) (tC (.int 4))) (tC (.int 1000000000000000000000000000000000000000000000000000000000000)))) (tCons (tOp rMinus (tUn rNeg (tC (.int 1))) (tOp rMod (tOp rDiv (tVar 4) (tC (.int 4))) (tC (.int 1000000000000000000000000000000000000000000000000000000000000)))) tNil))) (tOp rMod (tVar 4) (tC (.int 2)))) (gSub (tVar 5) (tVar 6) rSetL))
  (tSeq (tAsg (tSl (rSlL K) (tOp rCat (tVar 5) (tOp rRep (tLst (tCons (tC (.int 1)) tNil)) (tC (.int 4097)))) tNoPart (tPart (tC (.int 4097)))) (gName 7))
  (tSeq (tIfS (tOr (tNot (tB (tCall (sp_law_not_kept K) [] E0 (tCons (tVar 2) (tCons (tC (.int 2)) tNil))))) (tNot (tB (tCall (sp_law_not_kept K) [] E0 (tCons (tVar 5) (tCons (tC (.int 1)) tNil))))))
  (tRet (tC (.bl false)))
  tNext)
  (tRet (tAndV (tCall (sp_law_not_kept K) [] E0 (tCons (tVar 7) (tCons (tC (.int 0)) tNil))) (tCall (sp_law_not_kept K) [] E0 (tCons (tLst tNil) (tCons (tC (.int 2)) tNil))))))))))))))
abbrev n_law_rows_refused : List Str := ["_law_bits", "_law_script", "_law_turned", "_law_at", "_law_cell", "_law_odd", "_law_spot", "_law_long"]

theorem rd_law_rows_refused (K : PySem.W.Frag) (vs : List V) (H : Hp) (Q : VK) (E : XK) (h : sp_law_rows_refused K vs H Q E) : t_law_rows_refused K { nx := fun _ H' => Q .non H', rt := Q } (start n_law_rows_refused vs) H := by
  obtain ⟨a, sc, bs, ns, rfl, ha, hS, hI, hB, hl, q⟩ := h
  have h2 := hI.1
  have hpos : (0 : Int) < (bs.length : Int) := by omega
  have pick : ∀ z : Int, ∃ k : Nat, z % (bs.length : Int) = (k : Int) ∧ k < bs.length := fun z => by
    have m0 := Int.emod_nonneg z (show (bs.length : Int) ≠ 0 by omega)
    have m1 := Int.emod_lt_of_pos z hpos
    obtain ⟨k, hk⟩ := Int.eq_ofNat_of_zero_le m0
    exact ⟨k, hk, by omega⟩
  unfold t_law_rows_refused
  walk_at "st"
  refine k_listL (.of ha) fun p1 hp1 => ?_
  have s1 := same_new (o := .lst (bs.map V.int)) hp1
  have e1 := upd_same (H := H) (a := p1) (o := .lst (bs.map V.int))
  have na1 : a ≠ p1 := ne_of_none ha hp1
  generalize upd H p1 (.lst (bs.map V.int)) = H1 at s1 e1 ⊢
  walk_at "st"
  refine call_cell_at (s1.seq hS) (by decide) fun c1 hc1 => ?_
  walk_at "st"
  refine k_lenL (.of (s1.get ha)) ?_
  rw [List.length_map]
  walk_at "st"
  obtain ⟨k1, ek1, hk1⟩ := pick (c1 * 69621 % 65521)
  rw [ek1]
  refine k_ixL (.of e1) (x := .int (bs.getD k1 0)) (at_nat (by rw [List.getElem?_map, List.getD_eq_getElem?_getD, List.getElem?_eq_getElem hk1]; rfl)) ?_
  walk_at "st"
  refine m_setL e1 (j := k1) (ixN_nat (k := (k1 : Int)) (by omega) (by rw [List.length_map]; omega)) ?_
  rw [← List.map_set]
  obtain ⟨tn, htn⟩ : ∃ tn, tn = bs.set k1 (1 - bs.getD k1 0) := ⟨_, rfl⟩
  have htl : tn.length = bs.length := by rw [htn, List.length_set]
  have htB : Bits tn := by rw [htn]; exact turn_bits hB k1
  have htI : ¬ IsTree tn := by rw [htn]; exact turn_no hB hI hk1
  rw [← htn]
  clear htn ek1 hk1
  have s2 : Same H (upd H1 p1 (.lst (tn.map V.int))) := s1.mut hp1 ⟨_, e1⟩
  have e2 := upd_same (H := H1) (a := p1) (o := .lst (tn.map V.int))
  generalize upd H1 p1 (.lst (tn.map V.int)) = H2 at s2 e2 ⊢
  walk_at "st"
  refine call_cell_at (s2.seq hS) (by decide) fun c2 hc2 => ?_
  walk_at "st"
  intro p3 hp3
  have s3 := same_new (o := .lst [.ref a, .ref p1]) hp3
  have e3 := upd_same (H := H2) (a := p3) (o := .lst [.ref a, .ref p1])
  generalize upd H2 p3 (.lst [.ref a, .ref p1]) = H3 at s3 e3 ⊢
  have t3 := s2.trans s3
  obtain ⟨r, xs, hr, er, hxl⟩ : ∃ (r : Addr) (xs : List Int), atI [V.ref a, .ref p1] (c2 / 2 % 2) = some (.ref r) ∧ H3 r = some (.lst (xs.map V.int)) ∧ xs.length = bs.length := by
    have h3 : c2 / 2 % 2 = 0 ∨ c2 / 2 % 2 = 1 := by omega
    rcases h3 with z | z <;> rw [z]
    · exact ⟨a, bs, rfl, t3.get ha, rfl⟩
    · exact ⟨p1, tn, rfl, s3.get e2, htl⟩
  walk_at "st"
  refine k_ixL (.of e3) hr ?_
  walk_at "st"
  refine k_listL (.of er) fun p4 hp4 => ?_
  have s4 := same_new (o := .lst (xs.map V.int)) hp4
  have e4 := upd_same (H := H3) (a := p4) (o := .lst (xs.map V.int))
  have e24 := s4.get (s3.get e2)
  have n14 : p1 ≠ p4 := ne_of_none (s3.get e2) hp4
  generalize upd H3 p4 (.lst (xs.map V.int)) = H4 at s4 e4 e24 ⊢
  have t4 := t3.trans s4
  walk_at "st"
  refine call_cell_at (t4.seq hS) (by decide) fun c3 hc3 => ?_
  walk_at "st"
  refine k_lenL (.of (t4.get ha)) ?_
  rw [List.length_map]
  walk_at "st"
  obtain ⟨k3, ek3, hk3⟩ := pick (c3 * 40692 % 65519)
  rw [ek3]
  intro p5 hp5
  obtain ⟨w, hw⟩ : ∃ w, w = c2 / 4 % 1000000000000000000000000000000000000000000000000000000000000 := ⟨_, rfl⟩
  have hw0 : 0 ≤ w := by omega
  rw [← hw]
  have s5 := same_new (o := .lst [.int (2 + w), .int (-1 - w)]) hp5
  have e5 := upd_same (H := H4) (a := p5) (o := .lst [.int (2 + w), .int (-1 - w)])
  generalize upd H4 p5 (.lst [.int (2 + w), .int (-1 - w)]) = H5 at s5 e5 ⊢
  obtain ⟨v, hv, hvo⟩ : ∃ v : Int, atI [V.int (2 + w), .int (-1 - w)] (c2 % 2) = some (.int v) ∧ (v < 0 ∨ 1 < v) := by
    have h3 : c2 % 2 = 0 ∨ c2 % 2 = 1 := by omega
    rcases h3 with z | z <;> rw [z]
    · exact ⟨_, rfl, by omega⟩
    · exact ⟨_, rfl, by omega⟩
  walk_at "st"
  refine k_ixL (.of e5) hv ?_
  walk_at "st"
  refine m_setL (s5.get e4) (j := k3) (ixN_nat (k := (k3 : Int)) (by omega) (by rw [List.length_map]; omega)) ?_
  rw [← List.map_set]
  have t5 := t4.trans s5
  have hp4H : H p4 = none := t3.gone _ hp4
  obtain ⟨od, hod⟩ : ∃ od, od = xs.set k3 v := ⟨_, rfl⟩
  have hol : od.length = bs.length := by rw [hod, List.length_set]; exact hxl
  have hoB : ¬ Bits od := by rw [hod]; exact odd_no (by omega) hvo
  rw [← hod]
  clear hod
  have s6 : Same H (upd H5 p4 (.lst (od.map V.int))) := t5.mut hp4H ⟨_, s5.get e4⟩
  have e6 := upd_same (H := H5) (a := p4) (o := .lst (od.map V.int))
  have e26 := (upd_ne (o := .lst (od.map V.int)) n14).trans (s5.get e24)
  generalize upd H5 p4 (.lst (od.map V.int)) = H6 at s6 e6 e26 ⊢
  walk_at "st"
  intro p7 hp7
  have s7 := same_new (o := .lst [.int 1]) hp7
  have e7 := upd_same (H := H6) (a := p7) (o := .lst [.int 1])
  generalize upd H6 p7 (.lst [.int 1]) = H7 at s7 e7 ⊢
  walk_at "st"
  refine k_repI (xs := [1]) e7 (by decide) (by decide) fun p8 H8 cs hp8 s8 ecs lcs e8 => ?_
  have lcs2 : cs.length = 4097 := by rw [lcs]; rfl
  refine k_catI ((s7.trans s8).get e6) e8 (by omega) fun p9 H9 hp9 s9 e9 => ?_
  walk_at "st"
  refine k_slTake (k := 4097) (.of e9) fun p10 H10 hp10 s10 e10 => ?_
  have u := s7.trans (s8.trans (s9.trans s10))
  have hll : ((od ++ cs).take 4097).length = 4097 := by rw [List.length_take, List.length_append, lcs2]; omega
  generalize (od ++ cs).take 4097 = lg at e10 hll
  walk_at "st"
  refine ⟨p1, 2, tn, rfl, u.get e26, by omega, .inr (.inr ⟨by omega, htB, htI, rfl⟩), fun H11 s11 => ?_⟩
  walk_at "st"
  refine ⟨p4, 1, od, rfl, (u.trans s11).get e6, by omega, .inr (.inl ⟨by omega, hoB, rfl⟩), fun H12 s12 => ?_⟩
  walk_at "st"
  have s1112 := s11.trans s12
  refine ⟨p10, 0, lg, rfl, s1112.get e10, by omega, .inl ⟨by omega, rfl⟩, fun H13 s13 => ?_⟩
  walk_at "st"
  intro p14 hp14
  have s14 := same_new (o := .lst []) hp14
  refine ⟨p14, 2, [], rfl, upd_same, by decide, .inr (.inr ⟨by decide, nil_bits, nil_no, rfl⟩), fun H15 s15 => ?_⟩
  exact q _ (s6.trans ((u.trans s1112).trans (s13.trans (s14.trans s15))))
/-- _law_greatest() -/
def sp_law_greatest (K : PySem.W.Frag) (CL : CLs) : Sp := fun vs H Q _ => vs = [] ∧ NdefX.TabN H (tabP K "node_look") nmL ∧ NdefX.TabN H (tabP K "_law_look_of") nmL ∧ ∀ H', Same H H' → Q (.bl true) H'
theorem len_law_greatest (K : PySem.W.Frag) (CL : CLs) : ∀ vs H Q E, sp_law_greatest K CL vs H Q E → vs.length = 0 := by
  rintro vs H Q E ⟨rfl, _⟩; rfl
def t_law_greatest (K : PySem.W.Frag) (CL : CLs) : TS :=
  (tSeq (tAsg (tCall (sp_kept_brackets K) [] E0 (tCons (tOp rCat (tOp rRep (tLst (tCons (tC (.int 1)) tNil)) (tC (.int 2048))) (tOp rRep (tLst (tCons (tC (.int 0)) tNil)) (tC (.int 2048)))) tNil)) (gTup K 2 (gCons (gName 0) (gCons (gName 1) gNil))))
  (tSeq (tAsg (tCall (sp_law_look_of K CL) [] E0 (tCons (tVar 1) tNil)) (gName 2))
  (tSeq (tIfS (tOr (tTest (tOp rNe (tCall (sp_closing K CL) [] E0 (tCons (tVar 0) (tCons (tVar 2) (tCons (tC (.int 0)) tNil)))) (tC (.int 4095)))) (tOr (tTest (tOp rNe (tCall (sp_closing K CL) [] E0 (tCons (tVar 0) (tCons (tVar 2) (tCons (tC (.int 2047)) tNil)))) (tC (.int 2048)))) (tTest (tOp rNe (tCall (sp_opening K CL) [] E0 (tCons (tVar 0) (tCons (tVar 2) (tCons (tC (.int 4095)) tNil)))) (tC (.int 0))))))
  (tRet (tC (.bl false)))
  tNext)
  (tRet (tAndV (tOp rEq (tCall (sp_height K CL) [] E0 (tCons (tVar 0) (tCons (tVar 2) (tCons (tC (.int 2048)) tNil)))) (tC (.int 2048))) (tCall (sp_law_not_kept K) [] E0 (tCons (tOp rCat (tOp rRep (tLst (tCons (tC (.int 1)) tNil)) (tC (.int 2049))) (tOp rRep (tLst (tCons (tC (.int 0)) tNil)) (tC (.int 2048)))) (tCons (tC (.int 0)) tNil))))))))
abbrev n_law_greatest : List Str := ["_law_tables", "_law_blocks", "_law_look_here"]

theorem rd_law_greatest (K : PySem.W.Frag) (CL : CLs) (vs : List V) (H : Hp) (Q : VK) (E : XK) (h : sp_law_greatest K CL vs H Q E) : t_law_greatest K CL { nx := fun _ H' => Q .non H', rt := Q } (start n_law_greatest vs) H := by
  obtain ⟨rfl, hT, hTl, q⟩ := h
  have hdl := deepB_len
  unfold t_law_greatest
  walk_at "st"
  intro p1 hp1
  have s1 := same_new (o := .lst [.int 1]) hp1
  have e1 := upd_same (H := H) (a := p1) (o := .lst [.int 1])
  generalize upd H p1 (.lst [.int 1]) = H1 at s1 e1 ⊢
  walk_at "st"
  refine k_repI (xs := [1]) e1 (by decide) (by decide) fun p2 H2 cs hp2 s2 ecs lcs e2 => ?_
  rw [List.flatten_replicate_singleton] at ecs
  walk_at "st"
  intro p3 hp3
  have s3 := same_new (o := .lst [.int 0]) hp3
  have e3 := upd_same (H := H2) (a := p3) (o := .lst [.int 0])
  generalize upd H2 p3 (.lst [.int 0]) = H3 at s3 e3 ⊢
  walk_at "st"
  refine k_repI (xs := [0]) e3 (by decide) (by decide) fun p4 H4 ds hp4 s4 eds lds e4 => ?_
  rw [List.flatten_replicate_singleton] at eds
  refine k_catI ((s3.trans s4).get e2) e4 (by rw [lcs, lds]; decide) fun p5 H5 hp5 s5 e5 => ?_
  have eD : cs ++ ds = deepB := by rw [ecs, eds]; rfl
  rw [eD] at e5
  have t5 := s1.trans (s2.trans (s3.trans (s4.trans s5)))
  walk_at "st"
  refine ⟨p5, deepB, rfl, .of e5, by omega, fun z => by omega, fun _ z => absurd deepB_bits z, fun _ _ z => absurd deepB_tree z, fun _ _ _ pf t pa ph pb H6 hpf hpb s6 ef et ea eh eb => ?_⟩
  have t6 := t5.trans s6
  walk_at "st"
  refine m_gTup (.of ef) rfl ?_
  walk_at "st"
  refine ⟨pb, _, rfl, eb, t6.tabs _ hTl, fun g H7 s7 lk => ?_⟩
  have A := puAt_of (K := K) lk (s7.get et) (s7.get ea) (s7.get eh) deepB_bits deepB_tree (by omega)
  have t7 := t6.trans s7
  have hT7 := t7.tabs _ hT
  obtain ⟨B, A0, hB0⟩ := id A
  walk_at "st"
  refine ⟨t, g, 0, deepB, none, _, [], rfl, A0, hB0, by decide, hT7, fun z => by omega, fun k e hk hk0 => ?_, fun k e hk c L' H8 hP _ _ i8 X8 => ?_⟩
  · obtain rfl : k = 0 := by omega
    rw [deepB_get (by decide)] at hk0; cases hk0
  obtain rfl : k = 0 := by omega
  obtain rfl := hP.uc (deepB_pair (by decide))
  walk_at "st"
  refine k_ndecT rfl ?_
  have hT8 := X8.pure.tabs _ hT7
  have A8 := A0.move X8.pure
  walk_at "st"
  refine ⟨t, g, 2047, deepB, none, _, [], rfl, A8, i8, by decide, hT8, fun z => by omega, fun k e hk hk0 => ?_, fun k e hk c L' H9 hP _ _ i9 X9 => ?_⟩
  · obtain rfl : k = 2047 := by omega
    rw [deepB_get (by decide)] at hk0; cases hk0
  obtain rfl : k = 2047 := by omega
  obtain rfl := hP.uc (deepB_pair (by decide))
  walk_at "st"
  refine k_ndecT rfl ?_
  have hT9 := X9.pure.tabs _ hT8
  have A9 := A8.move X9.pure
  walk_at "st"
  refine ⟨t, g, 4095, deepB, none, _, [], rfl, A9, i9, by decide, hT9, fun z => by omega, fun k e hk hk0 => ?_, fun k e hk c L' H10 hP _ _ i10 X10 => ?_⟩
  · obtain rfl : k = 4095 := by omega
    rw [deepB_get (by decide)] at hk0; cases hk0
  obtain rfl : k = 4095 := by omega
  obtain rfl := hP.ua (deepB_pair (a := 0) (by decide))
  walk_at "st"
  refine k_ndecT rfl ?_
  have A10 := A9.move X10.pure
  walk_at "st"
  refine ⟨t, g, 2048, deepB, none, _, [], rfl, A10, i10, by decide, fun z => by omega, fun k e hk H11 L' _ i11 X11 => ?_⟩
  obtain rfl : k = 2048 := by omega
  rw [deepB_hgt (by decide), if_pos (by decide)]
  walk_at "st"
  have t11 := t7.trans (X8.pure.trans (X9.pure.trans (X10.pure.trans X11.pure)))
  refine k_decT rfl ?_
  walk_at "st"
  intro p12 hp12
  have s12 := same_new (o := .lst [.int 1]) hp12
  have e12 := upd_same (H := H11) (a := p12) (o := .lst [.int 1])
  generalize upd H11 p12 (.lst [.int 1]) = H12 at s12 e12 ⊢
  walk_at "st"
  refine k_repI (xs := [1]) e12 (by decide) (by decide) fun p13 H13 xs hp13 s13 exs lxs e13 => ?_
  walk_at "st"
  intro p14 hp14
  have s14 := same_new (o := .lst [.int 0]) hp14
  have e14 := upd_same (H := H13) (a := p14) (o := .lst [.int 0])
  generalize upd H13 p14 (.lst [.int 0]) = H14 at s14 e14 ⊢
  walk_at "st"
  refine k_repI (xs := [0]) e14 (by decide) (by decide) fun p15 H15 ys hp15 s15 eys lys e15 => ?_
  have l1 : xs.length = 2049 := by rw [lxs]; rfl
  have l2 : ys.length = 2048 := by rw [lys]; rfl
  refine k_catI ((s14.trans s15).get e13) e15 (by omega) fun p16 H16 hp16 s16 e16 => ?_
  walk_at "st"
  refine ⟨p16, 0, _, rfl, e16, by rw [List.length_append]; omega, .inl ⟨by rw [List.length_append]; omega, rfl⟩, fun H17 s17 => ?_⟩
  exact q _ (t11.trans (s12.trans (s13.trans (s14.trans (s15.trans (s16.trans s17))))))
def sp_law (K : PySem.W.Frag) : Sp := fun vs H Q _ => ∃ (a : Addr) (ns : List Int), vs = [.ref a] ∧ SqL K H a (ns.map V.int) ∧ ns.length ≤ 63 ∧ (∀ x ∈ tabL, NdefX.TabN H (tabP K x) nmL) ∧ ∀ H', Q (.bl true) H'
theorem len_law (K : PySem.W.Frag) : ∀ vs H Q E, sp_law K vs H Q E → vs.length = 1 := by
  rintro vs H Q E ⟨a, ns, rfl, _⟩; rfl

def t_law (K : PySem.W.Frag) (CL : CLs) : TS :=
  (tSeq (tAsg (tCall (sp_law_tree_bits K) [] E0 (tCons (tVar 0) tNil)) (gName 1))
  (tSeq (tIfS (tNot (tB (tCall (sp_law_rows_refused K) [] E0 (tCons (tVar 1) (tCons (tVar 0) tNil)))))
  (tRet (tC (.bl false)))
  tNext)
  (Evl.tCut (tIfS (tAnd (tTest (tOp rEq (tOp rMod (tCall (sp_law_cell_at K) [] E0 (tCons (tVar 0) (tCons (tC (.int 0)) tNil))) (tC (.int 16))) (tC (.int 5)))) (tNot (tB (tCall (sp_law_greatest K CL) [] E0 tNil))))
  (tRet (tC (.bl false)))
  tNext)
  (tSeq (tAsg (tCall (sp_kept_brackets K) [] E0 (tCons (tCB (rListOf K) (tCons (tVar 1) tNil)) tNil)) (gTup K 2 (gCons (gName 2) (gCons (gName 3) gNil))))
  (tSeq (tAsg (tCall (sp_law_look_of K CL) [] E0 (tCons (tVar 3) tNil)) (gName 4))
  (tSeq (tAsg (tOp rPlus (tC (.int 1)) (tOp rMod (tOp rDiv (tCall (sp_law_cell_at K) [] E0 (tCons (tVar 0) (tCons (tC (.int 0)) tNil))) (tC (.int 3))) (tOp (rIxL K) (tLst (tCons (tC (.int 10)) (tCons (tC (.int 2000)) (tCons (tC (.int 1000000000000000000000000000000000000000000000000000000000000)) tNil)))) (tOp rMod (tCall (sp_law_cell_at K) [] E0 (tCons (tVar 0) (tCons (tC (.int 0)) tNil))) (tC (.int 3)))))) (gName 5))
  (tSeq (tIfS (tNot (tB (tCall (sp_law_places_refused K CL) [] E0 (tCons (tVar 2) (tCons (tVar 4) (tCons (tVar 5) (tCons (tOp rMod (tCall (sp_law_cell_at K) [] E0 (tCons (tVar 0) (tCons (tC (.int 1)) tNil))) (tC (.int 1000000000000000000000000000000000000000000000000000000000000))) tNil)))))))
  (tRet (tC (.bl false)))
  tNext)
  (tSeq (tFor (iList K (tSl (rSlL K) (tVar 0) tNoPart (tPart (tC (.int 10))))) (gName 6)
  (tSeq (tAsg (tOp rMod (tOp rMod (tOp rTimes (tVar 6) (tC (.int 48271))) (tC (.int 65537))) (tCB (rLen K) (tCons (tVar 1) tNil))) (gName 7))
  (tSeq (tFor (iList K (tOp (rIxL K) (tLst (tCons (tLst (tCons (tC (.int 5)) tNil)) (tCons (tLst (tCons (tC (.int 4)) (tCons (tC (.int 6)) tNil))) tNil))) (tOp rMinus (tC (.int 1)) (tOp (rIxL K) (tVar 1) (tVar 7))))) (gName 8)
  (tIfS (tNot (tB (tCall (sp_law_refused K CL) [] E0 (tCons (tVar 8) (tCons (tVar 2) (tCons (tVar 4) (tCons (tVar 7) (tCons (tOp rMod (tVar 6) (tC (.int 3))) (tCons (tC (.int 4)) tNil)))))))))
  (tRet (tC (.bl false)))
  tNext))
  (tIfS (tTest (tOp rEq (tCall (sp_law_told K CL) [] E0 (tCons (tOp rMinus (tC (.int 5)) (tOp (rIxL K) (tVar 1) (tVar 7))) (tCons (tVar 2) (tCons (tVar 4) (tCons (tVar 7) (tCons (tC (.int 0)) tNil)))))) (tVar 7)))
  (tRet (tC (.bl false)))
  tNext))))
  (tSeq (tAsg (tOp rMinus (tCB (rLen K) (tCons (tVar 1) tNil)) (tC (.int 1))) (gName 9))
  (tSeq (tIfS (tOr (tTest (tOp rNe (tCall (sp_closing K CL) [] E0 (tCons (tVar 2) (tCons (tVar 4) (tCons (tC (.int 0)) tNil)))) (tVar 9))) (tTest (tOp rNe (tCall (sp_opening K CL) [] E0 (tCons (tVar 2) (tCons (tVar 4) (tCons (tVar 9) tNil)))) (tC (.int 0)))))
  (tRet (tC (.bl false)))
  tNext)
  (tRet (tAndV (tOp rEq (tCall (sp_further_out K CL) [] E0 (tCons (tVar 2) (tCons (tVar 4) (tCons (tC (.int 0)) (tCons (tC (.int 0)) tNil))))) (tC (.int 0))) (tOp rEq (tCall (sp_height K CL) [] E0 (tCons (tVar 2) (tCons (tVar 4) (tCons (tVar 9) tNil)))) (tC (.int 1)))))))))))))))
abbrev n_law : List Str := ["_law_script", "_law_bits", "_law_tables", "_law_blocks", "_law_look_here", "_law_far", "_law_cell", "_law_at", "_law_way", "_law_last"]

theorem rd_law (K : PySem.W.Frag) (CL : CLs) (vs : List V) (H : Hp) (Q : VK) (E : XK) (h : sp_law K vs H Q E) : t_law K CL { nx := fun _ H' => Q .non H', rt := Q } (start n_law vs) H := by
  obtain ⟨a, ns, rfl, hS, hl, hT, q⟩ := h
  have hTl := hT "_law_look_of" (by decide)
  have hTn := hT "node_look" (by decide)
  clear hT
  unfold t_law
  walk_at "st"
  refine ⟨a, ns, rfl, hS, fun bs p H1 hI hB hbl hp s1 e1 => ?_⟩
  have h2 := hI.1
  have hpos : (0 : Int) < (bs.length : Int) := by omega
  obtain ⟨hP, hh1⟩ := root_pair hB hI
  walk_at "st"
  refine ⟨p, a, bs, ns, rfl, e1, s1.seq hS, hI, hB, hbl, fun H2 s2 => ?_⟩
  have t2 := s1.trans s2
  walk_at "st"
  refine m_cut (fun σ' H' => Same H H' ∧ H' p = some (.lst (bs.map V.int)) ∧ σ' = [some (.ref a), some (.ref p), none, none, none, none, none, none, none, none]) ?_ ?_
  · walk_at "st"
    refine call_cell_at (t2.seq hS) (by decide) fun c0 hc0 => ?_
    walk_at "st"
    walk_at "if" <;> intro z0
    · walk_at "st"
      refine ⟨rfl, t2.tabs _ hTn, t2.tabs _ hTl, fun H3 s3 => ?_⟩
      walk_at "st"
      exact ⟨t2.trans s3, s3.get (s2.get e1), rfl⟩
    · walk_at "st"
      exact ⟨t2, s2.get e1, rfl⟩
  clear e1 s1 s2 t2
  rintro σ' H2 ⟨t2, e2, rfl⟩
  walk_at "st"
  refine k_listL (.of e2) fun pc hpc => ?_
  have s3 := same_new (o := .lst (bs.map V.int)) hpc
  have ec := upd_same (H := H2) (a := pc) (o := .lst (bs.map V.int))
  replace e2 := s3.get e2
  generalize upd H2 pc (.lst (bs.map V.int)) = H3 at s3 ec e2 ⊢
  walk_at "st"
  refine ⟨pc, bs, rfl, .of ec, by omega, fun z => by omega, fun _ z => absurd hB z, fun _ _ z => absurd hI z, fun _ _ _ pf t pa ph pb H4 hpf hpb s4 ef et ea eh eb => ?_⟩
  have t4 := t2.trans (s3.trans s4)
  walk_at "st"
  refine m_gTup (.of ef) rfl ?_
  walk_at "st"
  refine ⟨pb, _, rfl, eb, t4.tabs _ hTl, fun g H5 s5 lk => ?_⟩
  have A := puAt_of (K := K) lk (s5.get et) (s5.get ea) (s5.get eh) hB hI (by omega)
  have t5 := t4.trans s5
  have e5 := s5.get (s4.get e2)
  have hT5 := t5.tabs _ hTn
  have hS5 := t5.seq hS
  clear lk et ea eh eb ef ec e2 s3 s4 s5 t4 t2 hTl hTn hS
  walk_at "st"
  refine call_cell_at hS5 (by decide) fun c0 hc0 => ?_
  walk_at "st"
  intro p6 hp6
  have s6 := same_new (o := .lst [.int 10, .int 2000, .int 1000000000000000000000000000000000000000000000000000000000000]) hp6
  have e6 := upd_same (H := H5) (a := p6) (o := .lst [.int 10, .int 2000, .int 1000000000000000000000000000000000000000000000000000000000000])
  generalize upd H5 p6 (.lst [.int 10, .int 2000, .int 1000000000000000000000000000000000000000000000000000000000000]) = H6 at s6 e6 ⊢
  walk_at "st"
  refine call_cell_at (s6.seq hS5) (by decide) fun c0' hc0' => ?_
  walk_at "st"
  obtain ⟨m, hm, hmp⟩ : ∃ m : Int, atI [V.int 10, .int 2000, .int 1000000000000000000000000000000000000000000000000000000000000] (c0' % 3) = some (.int m) ∧ 0 < m := by
    have h3 : c0' % 3 = 0 ∨ c0' % 3 = 1 ∨ c0' % 3 = 2 := by omega
    rcases h3 with z | z | z <;> rw [z]
    · exact ⟨_, rfl, by decide⟩
    · exact ⟨_, rfl, by decide⟩
    · exact ⟨_, rfl, by decide⟩
  refine k_ixL (.of e6) hm ?_
  walk_at "st"
  obtain ⟨far, hfar⟩ : ∃ far, far = 1 + c0 / 3 % m := ⟨_, rfl⟩
  have hf1 : 1 ≤ far := by have := Int.emod_nonneg (c0 / 3) (show m ≠ 0 by omega); omega
  rw [← hfar]
  refine call_cell_at (s6.seq hS5) (by decide) fun c1 hc1 => ?_
  walk_at "st"
  refine ⟨t, g, far, _, bs, rfl, A.move s6, s6.tabs _ hT5, hf1, fun H7 s7 => ?_⟩
  have u7 := s6.trans s7
  walk_at "st"
  refine k_slTake (k := 10) (u7.seq hS5) fun p8 H8 hp8 s8 e8 => ?_
  have u8 := u7.trans s8
  walk_at "st"
  refine m_iLe (.of e8) ?_
  refine loop_ints (ns := ns.take 10) (fun i σ' H' => ∃ (v6 v7 v8 : Option V), Same H8 H' ∧ σ' = [some (.ref a), some (.ref p), some (.ref t), some (.ref pb), some (.ref g), some (.int far), v6, v7, v8, none]) ⟨none, none, none, Same.refl _, rfl⟩ (fun i σ' H' ⟨_, _, _, s, _⟩ => .of (s.get e8)) (fun i c σ' H' hc ⟨v6, v7, v8, s, es⟩ => ?_) (fun σ' H' ⟨v6, v7, v8, s, es⟩ => ?_)
  · subst es
    have u := u8.trans s
    walk_at "st"
    refine k_lenL (.of (u.get e5)) ?_
    rw [List.length_map]
    walk_at "st"
    have m0 := Int.emod_nonneg (c * 48271 % 65537) (show (bs.length : Int) ≠ 0 by omega)
    have m1 := Int.emod_lt_of_pos (c * 48271 % 65537) hpos
    obtain ⟨k, hk⟩ := Int.eq_ofNat_of_zero_le m0
    rw [hk] at m1 ⊢
    have hkl : k < bs.length := by omega
    have hxk : atI (bs.map V.int) (k : Int) = some (.int (bs.getD k 0)) := at_nat (by rw [List.getElem?_map, List.getD_eq_getElem?_getD, List.getElem?_eq_getElem hkl]; rfl)
    have hb := getD_bit hB k
    intro p9 hp9
    have s9 := same_new (o := .lst [.int 5]) hp9
    have e9 := upd_same (H := H') (a := p9) (o := .lst [.int 5])
    generalize upd H' p9 (.lst [.int 5]) = H9 at s9 e9 ⊢
    walk_at "st"
    intro p10 hp10
    have s10 := same_new (o := .lst [.int 4, .int 6]) hp10
    have e10 := upd_same (H := H9) (a := p10) (o := .lst [.int 4, .int 6])
    generalize upd H9 p10 (.lst [.int 4, .int 6]) = H10 at s10 e10 ⊢
    walk_at "st"
    intro p11 hp11
    have s11 := same_new (o := .lst [.ref p9, .ref p10]) hp11
    have e11 := upd_same (H := H10) (a := p11) (o := .lst [.ref p9, .ref p10])
    have e9' := s11.get (s10.get e9)
    have e10' := s11.get e10
    generalize upd H10 p11 (.lst [.ref p9, .ref p10]) = H11 at s11 e11 e9' e10' ⊢
    have w11 := s9.trans (s10.trans s11)
    have u11 := u.trans w11
    walk_at "st"
    refine k_ixL (.of (u11.get e5)) hxk ?_
    walk_at "st"
    obtain ⟨r, ws, hr, er, hws⟩ : ∃ (r : Addr) (ws : List Int), atI [V.ref p9, .ref p10] (1 - bs.getD k 0) = some (.ref r) ∧ H11 r = some (.lst (ws.map V.int)) ∧ ∀ w ∈ ws, ((w = 4 ∨ w = 6) ∧ bs.getD k 0 = 0) ∨ (w = 5 ∧ bs.getD k 0 = 1) := by
      rcases hb with z | z <;> rw [z]
      · exact ⟨p10, [4, 6], rfl, e10', fun w hw => .inl ⟨by simpa using hw, rfl⟩⟩
      · exact ⟨p9, [5], rfl, e9', fun w hw => .inr ⟨by simpa using hw, rfl⟩⟩
    refine k_ixL (.of e11) hr ?_
    walk_at "st"
    refine m_iLe (.of er) ?_
    refine loop_ints (ns := ws) (fun i σ' H' => ∃ (v8 : Option V), Same H11 H' ∧ σ' = [some (.ref a), some (.ref p), some (.ref t), some (.ref pb), some (.ref g), some (.int far), some (.int c), some (.int (k : Int)), v8, none]) ⟨v8, Same.refl _, rfl⟩ (fun i σ' H' ⟨_, s, _⟩ => .of (s.get er)) (fun i w σ' H' hw ⟨v8, s', es⟩ => ?_) (fun σ' H' ⟨v8, s', es⟩ => ?_)
    · subst es
      have hw2 := hws w (List.mem_of_getElem? hw)
      have ux := u11.trans s'
      walk_at "st"
      refine ⟨t, g, w, (k : Int), c % 3, 4, bs, rfl, A.move ux, ux.tabs _ hT5, by omega, by omega, fun z => by omega, .inr ⟨⟨k, rfl, hkl, hw2⟩, rfl⟩, fun H12 s12 => ?_⟩
      walk_at "st"
      exact ⟨_, s'.trans s12, rfl⟩
    subst es
    have ux := u11.trans s'
    walk_at "st"
    refine k_ixL (.of (ux.get e5)) hxk ?_
    walk_at "st"
    refine ⟨t, g, 5 - bs.getD k 0, (k : Int), 0, bs, rfl, A.move ux, ux.tabs _ hT5, by omega, by omega, fun z => by omega, .inr (.inr ⟨k, rfl, hkl, by omega, fun d H12 hd s12 => ?_⟩)⟩
    walk_at "st"
    refine k_decF (by omega) ?_
    walk_at "st"
    exact ⟨_, _, _, s.trans (w11.trans (s'.trans s12)), rfl⟩
  subst es
  have u := u8.trans s
  walk_at "st"
  refine k_lenL (.of (u.get e5)) ?_
  rw [List.length_map]
  walk_at "st"
  rw [show (bs.length : Int) - 1 = ((bs.length - 1 : Nat) : Int) by omega]
  obtain ⟨B, A0, hB0⟩ := A.move u
  have hTu := u.tabs _ hT5
  refine ⟨t, g, 0, bs, none, _, [], rfl, A0, hB0, by decide, hTu, fun z => by omega, fun k e hk hk0 => ?_, fun k e hk d L' H9 hP' _ _ i9 X9 => ?_⟩
  · obtain rfl : k = 0 := by omega
    rw [hP.up] at hk0; cases hk0
  obtain rfl : k = 0 := by omega
  obtain rfl := hP'.uc hP
  walk_at "st"
  refine k_ndecT rfl ?_
  have hT9 := X9.pure.tabs _ hTu
  have A9 := A0.move X9.pure
  walk_at "st"
  refine ⟨t, g, _, bs, none, _, [], rfl, A9, i9, by decide, hT9, fun z => by omega, fun k e hk hk0 => ?_, fun k e hk d L' H10 hP' _ _ i10 X10 => ?_⟩
  · obtain rfl : k = bs.length - 1 := by omega
    rw [hP.dn] at hk0; cases hk0
  obtain rfl : k = bs.length - 1 := by omega
  obtain rfl := hP'.ua hP
  walk_at "st"
  refine k_ndecT rfl ?_
  have hT10 := X10.pure.tabs _ hT9
  have A10 := A9.move X10.pure
  walk_at "st"
  refine ⟨t, g, 0, 0, bs, none, _, [], rfl, A10, i10, by decide, hT10, by decide, fun z => by omega, fun k e hk hk0 => ?_, fun k e hk hk1 r L' H11 hr _ _ i11 X11 => ?_⟩
  · obtain rfl : k = 0 := by omega
    rw [hP.up] at hk0; cases hk0
  obtain rfl : k = 0 := by omega
  have er : r = some 0 := by
    cases r with
    | none => have h : hgt bs 0 < 0 := hr; rw [hgt_zero] at h; omega
    | some j =>
      rcases hr with ⟨h, _⟩ | ⟨h, _⟩
      · rw [h]
      · omega
  subst er
  rw [show PV (some 0) = V.int ((0 : Nat) : Int) from rfl]
  walk_at "st"
  refine k_decT rfl ?_
  have A11 := A10.move X11.pure
  walk_at "st"
  refine ⟨t, g, _, bs, none, _, [], rfl, A11, i11, by decide, fun z => by omega, fun k e hk H12 L' _ i12 X12 => ?_⟩
  obtain rfl : k = bs.length - 1 := by omega
  rw [hh1]
  walk_at "st"
  exact q _

end Tw
namespace Tw
open PySem PySem.Spec PyProof.Rows L2
/-! the text -/
def topS (i : Nat) : Stmt := PySem.Challenge.pw_thinwood_k37_no_such_brackets.main.body.getD i (.Pass ⟨0, 0, 0, 0⟩)
abbrev s_packed : Stmt := topS 14
theorem sc_packed : FnScope n_packed ["bits"] (defScope s_packed) := ⟨rfl, rfl, rfl, by decide +kernel, rfl, by decide +kernel, by decide +kernel⟩

abbrev s_ones_in : Stmt := topS 15
theorem sc_ones_in : FnScope n_ones_in ["block", "upto"] (defScope s_ones_in) := ⟨rfl, rfl, rfl, by decide +kernel, rfl, by decide +kernel, by decide +kernel⟩

abbrev s_low_in : Stmt := topS 16
theorem sc_low_in : FnScope n_low_in ["block", "upto"] (defScope s_low_in) := ⟨rfl, rfl, rfl, by decide +kernel, rfl, by decide +kernel, by decide +kernel⟩

abbrev s_first_low_in : Stmt := topS 17
theorem sc_first_low_in : FnScope n_first_low_in ["block", "start", "stop", "goal"] (defScope s_first_low_in) := ⟨rfl, rfl, rfl, by decide +kernel, rfl, by decide +kernel, by decide +kernel⟩

abbrev s_last_low_in : Stmt := topS 18
theorem sc_last_low_in : FnScope n_last_low_in ["block", "start", "stop", "goal"] (defScope s_last_low_in) := ⟨rfl, rfl, rfl, by decide +kernel, rfl, by decide +kernel, by decide +kernel⟩

abbrev s_size_of : Stmt := topS 20
theorem sc_size_of : FnScope n_size_of ["many"] (defScope s_size_of) := ⟨rfl, rfl, rfl, by decide +kernel, rfl, by decide +kernel, by decide +kernel⟩

abbrev s_lesser_of : Stmt := topS 21
theorem sc_lesser_of : FnScope n_lesser_of ["one", "other"] (defScope s_lesser_of) := ⟨rfl, rfl, rfl, by decide +kernel, rfl, by decide +kernel, by decide +kernel⟩

abbrev s_heap_of : Stmt := topS 22
theorem sc_heap_of : FnScope n_heap_of ["numbers"] (defScope s_heap_of) := ⟨rfl, rfl, rfl, by decide +kernel, rfl, by decide +kernel, by decide +kernel⟩

abbrev s_cover : Stmt := topS 23
theorem sc_cover : FnScope n_cover ["many", "start", "stop"] (defScope s_cover) := ⟨rfl, rfl, rfl, by decide +kernel, rfl, by decide +kernel, by decide +kernel⟩

abbrev s_least_of : Stmt := topS 24
theorem sc_least_of : FnScope n_least_of ["many", "look", "start", "stop"] (defScope s_least_of) := ⟨rfl, rfl, rfl, by decide +kernel, rfl, by decide +kernel, by decide +kernel⟩

abbrev s_within_goal : Stmt := topS 25
theorem sc_within_goal : FnScope n_within_goal ["number", "goal"] (defScope s_within_goal) := ⟨rfl, rfl, rfl, by decide +kernel, rfl, by decide +kernel, by decide +kernel⟩

abbrev s_first_at_most : Stmt := topS 26
theorem sc_first_at_most : FnScope n_first_at_most ["many", "look", "start", "goal"] (defScope s_first_at_most) := ⟨rfl, rfl, rfl, by decide +kernel, rfl, by decide +kernel, by decide +kernel⟩

abbrev s_last_at_most : Stmt := topS 27
theorem sc_last_at_most : FnScope n_last_at_most ["many", "look", "stop", "goal"] (defScope s_last_at_most) := ⟨rfl, rfl, rfl, by decide +kernel, rfl, by decide +kernel, by decide +kernel⟩

abbrev s_ones_table : Stmt := topS 29
theorem sc_ones_table : FnScope n_ones_table ["blocks"] (defScope s_ones_table) := ⟨rfl, rfl, rfl, by decide +kernel, rfl, by decide +kernel, by decide +kernel⟩

abbrev s_kept_row : Stmt := topS 30
theorem sc_kept_row : FnScope n_kept_row ["bits"] (defScope s_kept_row) := ⟨rfl, rfl, rfl, by decide +kernel, rfl, by decide +kernel, by decide +kernel⟩

abbrev s_bit_at : Stmt := topS 31
theorem sc_bit_at : FnScope n_bit_at ["tables", "look", "at"] (defScope s_bit_at) := ⟨rfl, rfl, rfl, by decide +kernel, rfl, by decide +kernel, by decide +kernel⟩

abbrev s_ones_at : Stmt := topS 32
theorem sc_ones_at : FnScope n_ones_at ["tables", "look", "at"] (defScope s_ones_at) := ⟨rfl, rfl, rfl, by decide +kernel, rfl, by decide +kernel, by decide +kernel⟩

abbrev s_is_tree : Stmt := topS 34
theorem sc_is_tree : FnScope n_is_tree ["bits"] (defScope s_is_tree) := ⟨rfl, rfl, rfl, by decide +kernel, rfl, by decide +kernel, by decide +kernel⟩

abbrev s_begin_height : Stmt := topS 35
theorem sc_begin_height : FnScope n_begin_height ["ahead", "number"] (defScope s_begin_height) := ⟨rfl, rfl, rfl, by decide +kernel, rfl, by decide +kernel, by decide +kernel⟩

abbrev s_kept_brackets : Stmt := topS 36
theorem sc_kept_brackets : FnScope n_kept_brackets ["bits"] (defScope s_kept_brackets) := ⟨rfl, rfl, rfl, by decide +kernel, rfl, by decide +kernel, by decide +kernel⟩

abbrev s_node_look : Stmt := topS 37
theorem sc_node_look : FnScope n_node_look ["tables"] (defScope s_node_look) := ⟨rfl, rfl, rfl, by decide +kernel, rfl, by decide +kernel, by decide +kernel⟩
abbrev st_node_look_lam : Expr := lamIn (defBody s_node_look)
theorem sc_node_look_lam : NdefX.NScope n_node_look_lam ["number"] ["nodes"] (lamNF st_node_look_lam "" [] 0).scope := NdefX.nscope_by (by decide +kernel)

abbrev s_check_place : Stmt := topS 38
theorem sc_check_place : FnScope n_check_place ["tables", "at"] (defScope s_check_place) := ⟨rfl, rfl, rfl, by decide +kernel, rfl, by decide +kernel, by decide +kernel⟩

abbrev s_height : Stmt := topS 39
theorem sc_height : FnScope n_height ["tables", "look", "at"] (defScope s_height) := ⟨rfl, rfl, rfl, by decide +kernel, rfl, by decide +kernel, by decide +kernel⟩

abbrev s_low_part : Stmt := topS 40
theorem sc_low_part : FnScope n_low_part ["tables", "look", "number", "start", "stop"] (defScope s_low_part) := ⟨rfl, rfl, rfl, by decide +kernel, rfl, by decide +kernel, by decide +kernel⟩

abbrev s_lowest : Stmt := topS 41
theorem sc_lowest : FnScope n_lowest ["tables", "look", "at", "upto"] (defScope s_lowest) := ⟨rfl, rfl, rfl, by decide +kernel, rfl, by decide +kernel, by decide +kernel⟩

abbrev s_first_part : Stmt := topS 42
theorem sc_first_part : FnScope n_first_part ["tables", "look", "number", "start", "goal"] (defScope s_first_part) := ⟨rfl, rfl, rfl, by decide +kernel, rfl, by decide +kernel, by decide +kernel⟩

abbrev s_last_part : Stmt := topS 43
theorem sc_last_part : FnScope n_last_part ["tables", "look", "number", "stop", "goal"] (defScope s_last_part) := ⟨rfl, rfl, rfl, by decide +kernel, rfl, by decide +kernel, by decide +kernel⟩

abbrev s_low_behind : Stmt := topS 44
theorem sc_low_behind : FnScope n_low_behind ["tables", "look", "at", "goal"] (defScope s_low_behind) := ⟨rfl, rfl, rfl, by decide +kernel, rfl, by decide +kernel, by decide +kernel⟩

abbrev s_low_ahead : Stmt := topS 45
theorem sc_low_ahead : FnScope n_low_ahead ["tables", "look", "at", "goal"] (defScope s_low_ahead) := ⟨rfl, rfl, rfl, by decide +kernel, rfl, by decide +kernel, by decide +kernel⟩

abbrev s_closing : Stmt := topS 46
theorem sc_closing : FnScope n_closing ["tables", "look", "at"] (defScope s_closing) := ⟨rfl, rfl, rfl, by decide +kernel, rfl, by decide +kernel, by decide +kernel⟩

abbrev s_opening : Stmt := topS 47
theorem sc_opening : FnScope n_opening ["tables", "look", "at"] (defScope s_opening) := ⟨rfl, rfl, rfl, by decide +kernel, rfl, by decide +kernel, by decide +kernel⟩

abbrev s_further_out : Stmt := topS 48
theorem sc_further_out : FnScope n_further_out ["tables", "look", "at", "pairs"] (defScope s_further_out) := ⟨rfl, rfl, rfl, by decide +kernel, rfl, by decide +kernel, by decide +kernel⟩

abbrev s_law_cell_at : Stmt := topS 50
theorem sc_law_cell_at : FnScope n_law_cell_at ["_law_script", "_law_k"] (defScope s_law_cell_at) := ⟨rfl, rfl, rfl, by decide +kernel, rfl, by decide +kernel, by decide +kernel⟩

abbrev s_law_tree_bits : Stmt := topS 51
theorem sc_law_tree_bits : FnScope n_law_tree_bits ["_law_script"] (defScope s_law_tree_bits) := ⟨rfl, rfl, rfl, by decide +kernel, rfl, by decide +kernel, by decide +kernel⟩

abbrev s_law_look_of : Stmt := topS 52
theorem sc_law_look_of : FnScope n_law_look_of ["_law_blocks"] (defScope s_law_look_of) := ⟨rfl, rfl, rfl, by decide +kernel, rfl, by decide +kernel, by decide +kernel⟩
abbrev st_law_look_of_law_look : Stmt := (defBody s_law_look_of).getD 0 (.Pass ⟨0, 0, 0, 0⟩)
theorem sc_law_look_of_law_look : NdefX.NScope n_law_look_of_law_look ["_law_number"] ["_law_blocks"] (C8.fnScope st_law_look_of_law_look) := NdefX.nscope_by (by decide +kernel)

abbrev s_law_told : Stmt := topS 53
theorem sc_law_told : FnScope n_law_told ["_law_way", "_law_tables", "_law_look_here", "_law_at", "_law_more"] (defScope s_law_told) := ⟨rfl, rfl, rfl, by decide +kernel, rfl, by decide +kernel, by decide +kernel⟩

abbrev s_law_kinds : Stmt := topS 54
theorem sc_law_kinds : FnScope n_law_kinds ["_law_e"] (defScope s_law_kinds) := ⟨rfl, rfl, rfl, by decide +kernel, rfl, by decide +kernel, by decide +kernel⟩

abbrev s_law_refused : Stmt := topS 55
theorem sc_law_refused : FnScope n_law_refused ["_law_way", "_law_tables", "_law_look_here", "_law_at", "_law_more", "_law_kind"] (defScope s_law_refused) := ⟨rfl, rfl, rfl, by decide +kernel, rfl, by decide +kernel, by decide +kernel⟩

abbrev s_law_not_kept : Stmt := topS 56
theorem sc_law_not_kept : FnScope n_law_not_kept ["_law_bits", "_law_kind"] (defScope s_law_not_kept) := ⟨rfl, rfl, rfl, by decide +kernel, rfl, by decide +kernel, by decide +kernel⟩

abbrev s_law_places_refused : Stmt := topS 57
theorem sc_law_places_refused : FnScope n_law_places_refused ["_law_tables", "_law_look_here", "_law_far", "_law_goal"] (defScope s_law_places_refused) := ⟨rfl, rfl, rfl, by decide +kernel, rfl, by decide +kernel, by decide +kernel⟩

abbrev s_law_rows_refused : Stmt := topS 58
theorem sc_law_rows_refused : FnScope n_law_rows_refused ["_law_bits", "_law_script"] (defScope s_law_rows_refused) := ⟨rfl, rfl, rfl, by decide +kernel, rfl, by decide +kernel, by decide +kernel⟩

abbrev s_law_greatest : Stmt := topS 59
theorem sc_law_greatest : FnScope n_law_greatest [] (defScope s_law_greatest) := ⟨rfl, rfl, rfl, by decide +kernel, rfl, by decide +kernel, by decide +kernel⟩

abbrev s_law : Stmt := topS 60
theorem sc_law : FnScope n_law ["_law_script"] (defScope s_law) := ⟨rfl, rfl, rfl, by decide +kernel, rfl, by decide +kernel, by decide +kernel⟩

structure Tx (P : Program) (w : World) (K : PySem.W.Frag) (mg : Str → Option Value) (base : Heap) : Prop where
  d_packed : ∃ fd, FunD K "packed" "packed" (defArgs s_packed) (defBody s_packed) (defScope s_packed) [] [] (He.ga K "packed") fd
  g_packed : mg "packed" = some (.ref (He.ga K "packed"))
  d_ones_in : ∃ fd, FunD K "ones_in" "ones_in" (defArgs s_ones_in) (defBody s_ones_in) (defScope s_ones_in) [] [] (He.ga K "ones_in") fd
  g_ones_in : mg "ones_in" = some (.ref (He.ga K "ones_in"))
  d_low_in : ∃ fd, FunD K "low_in" "low_in" (defArgs s_low_in) (defBody s_low_in) (defScope s_low_in) [] [] (He.ga K "low_in") fd
  g_low_in : mg "low_in" = some (.ref (He.ga K "low_in"))
  d_first_low_in : ∃ fd, FunD K "first_low_in" "first_low_in" (defArgs s_first_low_in) (defBody s_first_low_in) (defScope s_first_low_in) [] [] (He.ga K "first_low_in") fd
  g_first_low_in : mg "first_low_in" = some (.ref (He.ga K "first_low_in"))
  d_last_low_in : ∃ fd, FunD K "last_low_in" "last_low_in" (defArgs s_last_low_in) (defBody s_last_low_in) (defScope s_last_low_in) [] [] (He.ga K "last_low_in") fd
  g_last_low_in : mg "last_low_in" = some (.ref (He.ga K "last_low_in"))
  d_size_of : ∃ fd, FunD K "size_of" "size_of" (defArgs s_size_of) (defBody s_size_of) (defScope s_size_of) [] [] (He.ga K "size_of") fd
  g_size_of : mg "size_of" = some (.ref (He.ga K "size_of"))
  d_lesser_of : ∃ fd, FunD K "lesser_of" "lesser_of" (defArgs s_lesser_of) (defBody s_lesser_of) (defScope s_lesser_of) [] [] (He.ga K "lesser_of") fd
  g_lesser_of : mg "lesser_of" = some (.ref (He.ga K "lesser_of"))
  d_heap_of : ∃ fd, FunD K "heap_of" "heap_of" (defArgs s_heap_of) (defBody s_heap_of) (defScope s_heap_of) [] [] (He.ga K "heap_of") fd
  g_heap_of : mg "heap_of" = some (.ref (He.ga K "heap_of"))
  d_cover : ∃ fd, FunD K "cover" "cover" (defArgs s_cover) (defBody s_cover) (defScope s_cover) [] [] (He.ga K "cover") fd
  g_cover : mg "cover" = some (.ref (He.ga K "cover"))
  d_least_of : ∃ fd, FunD K "least_of" "least_of" (defArgs s_least_of) (defBody s_least_of) (defScope s_least_of) [] [] (He.ga K "least_of") fd
  g_least_of : mg "least_of" = some (.ref (He.ga K "least_of"))
  d_within_goal : ∃ fd, FunD K "within_goal" "within_goal" (defArgs s_within_goal) (defBody s_within_goal) (defScope s_within_goal) [] [] (He.ga K "within_goal") fd
  g_within_goal : mg "within_goal" = some (.ref (He.ga K "within_goal"))
  d_first_at_most : ∃ fd, FunD K "first_at_most" "first_at_most" (defArgs s_first_at_most) (defBody s_first_at_most) (defScope s_first_at_most) [] [] (He.ga K "first_at_most") fd
  g_first_at_most : mg "first_at_most" = some (.ref (He.ga K "first_at_most"))
  d_last_at_most : ∃ fd, FunD K "last_at_most" "last_at_most" (defArgs s_last_at_most) (defBody s_last_at_most) (defScope s_last_at_most) [] [] (He.ga K "last_at_most") fd
  g_last_at_most : mg "last_at_most" = some (.ref (He.ga K "last_at_most"))
  d_ones_table : ∃ fd, FunD K "ones_table" "ones_table" (defArgs s_ones_table) (defBody s_ones_table) (defScope s_ones_table) [] [] (He.ga K "ones_table") fd
  g_ones_table : mg "ones_table" = some (.ref (He.ga K "ones_table"))
  d_kept_row : ∃ fd, FunD K "kept_row" "kept_row" (defArgs s_kept_row) (defBody s_kept_row) (defScope s_kept_row) [] [] (He.ga K "kept_row") fd
  g_kept_row : mg "kept_row" = some (.ref (He.ga K "kept_row"))
  d_bit_at : ∃ fd, FunD K "bit_at" "bit_at" (defArgs s_bit_at) (defBody s_bit_at) (defScope s_bit_at) [] [] (He.ga K "bit_at") fd
  g_bit_at : mg "bit_at" = some (.ref (He.ga K "bit_at"))
  d_ones_at : ∃ fd, FunD K "ones_at" "ones_at" (defArgs s_ones_at) (defBody s_ones_at) (defScope s_ones_at) [] [] (He.ga K "ones_at") fd
  g_ones_at : mg "ones_at" = some (.ref (He.ga K "ones_at"))
  d_is_tree : ∃ fd, FunD K "is_tree" "is_tree" (defArgs s_is_tree) (defBody s_is_tree) (defScope s_is_tree) [] [] (He.ga K "is_tree") fd
  g_is_tree : mg "is_tree" = some (.ref (He.ga K "is_tree"))
  d_begin_height : ∃ fd, FunD K "begin_height" "begin_height" (defArgs s_begin_height) (defBody s_begin_height) (defScope s_begin_height) [] [] (He.ga K "begin_height") fd
  g_begin_height : mg "begin_height" = some (.ref (He.ga K "begin_height"))
  d_kept_brackets : ∃ fd, FunD K "kept_brackets" "kept_brackets" (defArgs s_kept_brackets) (defBody s_kept_brackets) (defScope s_kept_brackets) [] [] (He.ga K "kept_brackets") fd
  g_kept_brackets : mg "kept_brackets" = some (.ref (He.ga K "kept_brackets"))
  d_node_look : ∃ fd, FunD K "node_look" "node_look" (defArgs s_node_look) (defBody s_node_look) (defScope s_node_look) [] [] (He.ga K "node_look") fd
  g_node_look : mg "node_look" = some (.ref (He.ga K "node_look"))
  d_check_place : ∃ fd, FunD K "check_place" "check_place" (defArgs s_check_place) (defBody s_check_place) (defScope s_check_place) [] [] (He.ga K "check_place") fd
  g_check_place : mg "check_place" = some (.ref (He.ga K "check_place"))
  d_height : ∃ fd, FunD K "height" "height" (defArgs s_height) (defBody s_height) (defScope s_height) [] [] (He.ga K "height") fd
  g_height : mg "height" = some (.ref (He.ga K "height"))
  d_low_part : ∃ fd, FunD K "low_part" "low_part" (defArgs s_low_part) (defBody s_low_part) (defScope s_low_part) [] [] (He.ga K "low_part") fd
  g_low_part : mg "low_part" = some (.ref (He.ga K "low_part"))
  d_lowest : ∃ fd, FunD K "lowest" "lowest" (defArgs s_lowest) (defBody s_lowest) (defScope s_lowest) [] [] (He.ga K "lowest") fd
  g_lowest : mg "lowest" = some (.ref (He.ga K "lowest"))
  d_first_part : ∃ fd, FunD K "first_part" "first_part" (defArgs s_first_part) (defBody s_first_part) (defScope s_first_part) [] [] (He.ga K "first_part") fd
  g_first_part : mg "first_part" = some (.ref (He.ga K "first_part"))
  d_last_part : ∃ fd, FunD K "last_part" "last_part" (defArgs s_last_part) (defBody s_last_part) (defScope s_last_part) [] [] (He.ga K "last_part") fd
  g_last_part : mg "last_part" = some (.ref (He.ga K "last_part"))
  d_low_behind : ∃ fd, FunD K "low_behind" "low_behind" (defArgs s_low_behind) (defBody s_low_behind) (defScope s_low_behind) [] [] (He.ga K "low_behind") fd
  g_low_behind : mg "low_behind" = some (.ref (He.ga K "low_behind"))
  d_low_ahead : ∃ fd, FunD K "low_ahead" "low_ahead" (defArgs s_low_ahead) (defBody s_low_ahead) (defScope s_low_ahead) [] [] (He.ga K "low_ahead") fd
  g_low_ahead : mg "low_ahead" = some (.ref (He.ga K "low_ahead"))
  d_closing : ∃ fd, FunD K "closing" "closing" (defArgs s_closing) (defBody s_closing) (defScope s_closing) [] [] (He.ga K "closing") fd
  g_closing : mg "closing" = some (.ref (He.ga K "closing"))
  d_opening : ∃ fd, FunD K "opening" "opening" (defArgs s_opening) (defBody s_opening) (defScope s_opening) [] [] (He.ga K "opening") fd
  g_opening : mg "opening" = some (.ref (He.ga K "opening"))
  d_further_out : ∃ fd, FunD K "further_out" "further_out" (defArgs s_further_out) (defBody s_further_out) (defScope s_further_out) [] [] (He.ga K "further_out") fd
  g_further_out : mg "further_out" = some (.ref (He.ga K "further_out"))
  d_law_cell_at : ∃ fd, FunD K "_law_cell_at" "_law_cell_at" (defArgs s_law_cell_at) (defBody s_law_cell_at) (defScope s_law_cell_at) [] [] (He.ga K "_law_cell_at") fd
  g_law_cell_at : mg "_law_cell_at" = some (.ref (He.ga K "_law_cell_at"))
  d_law_tree_bits : ∃ fd, FunD K "_law_tree_bits" "_law_tree_bits" (defArgs s_law_tree_bits) (defBody s_law_tree_bits) (defScope s_law_tree_bits) [] [] (He.ga K "_law_tree_bits") fd
  g_law_tree_bits : mg "_law_tree_bits" = some (.ref (He.ga K "_law_tree_bits"))
  d_law_look_of : ∃ fd, FunD K "_law_look_of" "_law_look_of" (defArgs s_law_look_of) (defBody s_law_look_of) (defScope s_law_look_of) [] [] (He.ga K "_law_look_of") fd
  g_law_look_of : mg "_law_look_of" = some (.ref (He.ga K "_law_look_of"))
  d_law_told : ∃ fd, FunD K "_law_told" "_law_told" (defArgs s_law_told) (defBody s_law_told) (defScope s_law_told) [] [] (He.ga K "_law_told") fd
  g_law_told : mg "_law_told" = some (.ref (He.ga K "_law_told"))
  d_law_kinds : ∃ fd, FunD K "_law_kinds" "_law_kinds" (defArgs s_law_kinds) (defBody s_law_kinds) (defScope s_law_kinds) [] [] (He.ga K "_law_kinds") fd
  g_law_kinds : mg "_law_kinds" = some (.ref (He.ga K "_law_kinds"))
  d_law_refused : ∃ fd, FunD K "_law_refused" "_law_refused" (defArgs s_law_refused) (defBody s_law_refused) (defScope s_law_refused) [] [] (He.ga K "_law_refused") fd
  g_law_refused : mg "_law_refused" = some (.ref (He.ga K "_law_refused"))
  d_law_not_kept : ∃ fd, FunD K "_law_not_kept" "_law_not_kept" (defArgs s_law_not_kept) (defBody s_law_not_kept) (defScope s_law_not_kept) [] [] (He.ga K "_law_not_kept") fd
  g_law_not_kept : mg "_law_not_kept" = some (.ref (He.ga K "_law_not_kept"))
  d_law_places_refused : ∃ fd, FunD K "_law_places_refused" "_law_places_refused" (defArgs s_law_places_refused) (defBody s_law_places_refused) (defScope s_law_places_refused) [] [] (He.ga K "_law_places_refused") fd
  g_law_places_refused : mg "_law_places_refused" = some (.ref (He.ga K "_law_places_refused"))
  d_law_rows_refused : ∃ fd, FunD K "_law_rows_refused" "_law_rows_refused" (defArgs s_law_rows_refused) (defBody s_law_rows_refused) (defScope s_law_rows_refused) [] [] (He.ga K "_law_rows_refused") fd
  g_law_rows_refused : mg "_law_rows_refused" = some (.ref (He.ga K "_law_rows_refused"))
  d_law_greatest : ∃ fd, FunD K "_law_greatest" "_law_greatest" (defArgs s_law_greatest) (defBody s_law_greatest) (defScope s_law_greatest) [] [] (He.ga K "_law_greatest") fd
  g_law_greatest : mg "_law_greatest" = some (.ref (He.ga K "_law_greatest"))
  d_law : ∃ fd, FunD K "law" "law" (defArgs s_law) (defBody s_law) (defScope s_law) [] [] (He.ga K "law") fd
  g_law : mg "law" = some (.ref (He.ga K "law"))
  b_ValueError : mg "ValueError" = none
  b_enumerate : mg "enumerate" = none
  b_isinstance : mg "isinstance" = none
  b_len : mg "len" = none
  b_list : mg "list" = none
  b_min : mg "min" = none
  b_range : mg "range" = none
  b_reversed : mg "reversed" = none
  b_sum : mg "sum" = none
  b_tuple : mg "tuple" = none
  x_NoBit : ExF K mg "NoBit"
  x_NoNode : ExF K mg "NoNode"
  x_NoOctets : ExF K mg "NoOctets"
  x_NoPlace : ExF K mg "NoPlace"
  x_NoSign : ExF K mg "NoSign"
  x_NoTree : ExF K mg "NoTree"
  x_NoWord : ExF K mg "NoWord"
  x_TooMany : ExF K mg "TooMany"
  x_Twice : ExF K mg "Twice"
  x_WoodError : ExF K mg "WoodError"
  g_NoBit : mg "NoBit" = some (.ref (He.ga K "NoBit"))
  g_NoNode : mg "NoNode" = some (.ref (He.ga K "NoNode"))
  g_NoOctets : mg "NoOctets" = some (.ref (He.ga K "NoOctets"))
  g_NoPlace : mg "NoPlace" = some (.ref (He.ga K "NoPlace"))
  g_NoSign : mg "NoSign" = some (.ref (He.ga K "NoSign"))
  g_NoTree : mg "NoTree" = some (.ref (He.ga K "NoTree"))
  g_NoWord : mg "NoWord" = some (.ref (He.ga K "NoWord"))
  g_TooMany : mg "TooMany" = some (.ref (He.ga K "TooMany"))
  g_Twice : mg "Twice" = some (.ref (He.ga K "Twice"))
  g_WoodError : mg "WoodError" = some (.ref (He.ga K "WoodError"))
  fx : KFx K
  i_MOST : ∃ t, mg "MOST" = some (.int 4096 t)
  i_WIDE : ∃ t, mg "WIDE" = some (.int 32 t)
  tb_node_look : LamX.TabB base mg (He.cT K ("node_look", none)).1 (He.cT K ("node_look", none)).2
  tb_law_look_of : LamX.TabB base mg (He.cT K ("_law_look_of", none)).1 (He.cT K ("_law_look_of", none)).2
section
variable {P : Program} {w : World} {K : PySem.W.Frag} {mg : Str → Option Value} {base : Heap}
theorem ok_packed (T : Tx P w K mg base) : Okf P w K mg base (L2.CX P w) 2 "packed" ["bits"] (sp_packed K) := by
  obtain ⟨fd, FD⟩ := T.d_packed
  refine ⟨⟨fd, FunD.look FD, FD.bindsN fun _ _ _ _ _ _ us hl => match us, hl with | [_], _ => rfl, ?_⟩, FD.kp, T.g_packed⟩
  refine FunD.ok (CX := (L2.CX P w)) FD sc_packed (len_packed K) (fun cdv A outer s H vs Q E hr h => ⟨t_packed K E, ?_, rd_packed K vs H Q E h⟩)
  exact (pss_cons (ps_if (pt_cmpR op_gt (pe_callB call_lenK (by rfl) T.b_len (by decide +kernel) (pa_cons (pv 0) pa_nil)) (pe_gint T.i_MOST (by rfl)) (nomark _))
  (pss_one (ps_rz T.x_TooMany (takes_of rfl rfl rfl rfl)))
  pss_nil)
  (pss_cons (ps_set (i := 1) sc_packed.nd rfl (.inl rfl) (pe_op op_rep (pe_lst (pa_cons pe_int pa_nil)) (pe_op op_fdiv (pe_op op_sub (pe_op op_add (pe_callB call_lenK (by rfl) T.b_len (by decide +kernel) (pa_cons (pv 0) pa_nil)) (pe_gint T.i_WIDE (by rfl))) pe_int) (pe_gint T.i_WIDE (by rfl)))))
  (pss_cons (ps_for (passes_of rfl) rfl (pi_enum (by rfl) T.b_enumerate (pa_cons (pv 0) pa_nil)) (pg_tup rfl (pgs_cons (pg_name (i := 2) sc_packed.nd rfl (.inl rfl)) (pgs_cons (pg_name (i := 3) sc_packed.nd rfl (.inl rfl)) pgs_nil)))
  (pss_cons (ps_if (PW.pt (pw_and (pt_cmpR op_ne (pv 3) pe_int (nomark _)) (pw_and1 (pt_cmpR op_ne (pv 3) pe_int (nomark _)))))
  (pss_one (ps_rz T.x_NoBit (takes_of rfl rfl rfl rfl)))
  pss_nil)
  (pss_one (ps_if (pt_cmpR op_eq (pv 3) pe_int (nomark _))
  (pss_one (ps_asg (pe_op op_or (pe_ix ix_list (pv 1) (pe_op op_fdiv (pv 2) (pe_gint T.i_WIDE (by rfl))) (fun _ _ => rfl)) (pe_op op_shlW pe_int (pe_op op_mod (pv 2) (pe_gint T.i_WIDE (by rfl))))) (pg_sub (pv 1) (pe_op op_fdiv (pv 2) (pe_gint T.i_WIDE (by rfl))) set_list)))
  pss_nil))))
  (pss_one (ps_ret (pv 1))))))

theorem ok_ones_in (T : Tx P w K mg base) : Okf P w K mg base CX0 1 "ones_in" ["block", "upto"] (sp_ones_in K) := by
  obtain ⟨fd, FD⟩ := T.d_ones_in
  refine ⟨⟨fd, FunD.look FD, FD.bindsN fun _ _ _ _ _ _ us hl => match us, hl with | [_, _], _ => rfl, ?_⟩, FD.kp, T.g_ones_in⟩
  refine FunD.ok (CX := CX0) FD sc_ones_in (len_ones_in K) (fun cdv A outer s H vs Q E hr h => ⟨t_ones_in K, PSs.nox ?_, rd_ones_in K vs H Q E h⟩)
  exact (pss_one (ps_ret (pe_callB (cr_sum rfl) (by rfl) T.b_sum (by decide +kernel) (pa_cons (pe_lc (own := [("k", 2)]) (g := (gName 2)) (tt := tYes) rfl sc_ones_in.nd (pi_range1 (by rfl) T.b_range (pa_cons (pv 1) pa_nil)) (blkOk_by (N := ["block", "upto", "k"]) (sc := defScope s_ones_in) (own := [("k", 2)]) (by decide +kernel)) (fun _ _ _ _ _ => (pg_name (i := 2) sc_ones_in.nd rfl (.inl rfl))) (fun _ _ _ _ _ => pts_nil) (fun _ _ _ _ _ => (pe_op op_and1 (pe_op op_shr (pv 0) (pv 2)) pe_int))) pa_nil))))

theorem ok_low_in (T : Tx P w K mg base) : Okf P w K mg base CX0 1 "low_in" ["block", "upto"] (sp_low_in K) := by
  obtain ⟨fd, FD⟩ := T.d_low_in
  refine ⟨⟨fd, FunD.look FD, FD.bindsN fun _ _ _ _ _ _ us hl => match us, hl with | [_, _], _ => rfl, ?_⟩, FD.kp, T.g_low_in⟩
  refine FunD.ok (CX := CX0) FD sc_low_in (len_low_in K) (fun cdv A outer s H vs Q E hr h => ⟨t_low_in K, PSs.nox ?_, rd_low_in K vs H Q E h⟩)
  exact (pss_cons (ps_set (i := 2) sc_low_in.nd rfl (.inl rfl) pe_int)
  (pss_cons (ps_set (i := 3) sc_low_in.nd rfl (.inl rfl) pe_int)
  (pss_cons (ps_for PassesOwn.never rfl (pi_range1 (by rfl) T.b_range (pa_cons (pv 1) pa_nil)) (pg_name (i := 4) sc_low_in.nd rfl (.inl rfl))
  (pss_cons (ps_aug (i := 2) sc_low_in.nd rfl (.inl rfl) (pe_op op_sub (pe_op op_mul pe_int (pe_op op_and1 (pe_op op_shr (pv 0) (pv 4)) pe_int)) pe_int) ip_add)
  (pss_one (ps_set (i := 3) sc_low_in.nd rfl (.inl rfl) (pe_callB (call_min2K rfl) (by rfl) T.b_min (by decide +kernel) (pa_cons (pv 3) (pa_cons (pv 2) pa_nil)))))))
  (pss_one (ps_ret (pv 3))))))

theorem ok_first_low_in (T : Tx P w K mg base) (o_ones_in : Okf P w K mg base CX0 1 "ones_in" ["block", "upto"] (sp_ones_in K)) : Okf P w K mg base CX0 2 "first_low_in" ["block", "start", "stop", "goal"] (sp_first_low_in K) := by
  obtain ⟨fd, FD⟩ := T.d_first_low_in
  refine ⟨⟨fd, FunD.look FD, FD.bindsN fun _ _ _ _ _ _ us hl => match us, hl with | [_, _, _, _], _ => rfl, ?_⟩, FD.kp, T.g_first_low_in⟩
  refine FunD.ok (CX := CX0) FD sc_first_low_in (len_first_low_in K) (fun cdv A outer s H vs Q E hr h => ⟨t_first_low_in K, PSs.nox ?_, rd_first_low_in K vs H Q E h⟩)
  exact (pss_cons (ps_set (i := 4) sc_first_low_in.nd rfl (.inl rfl) (pe_op op_sub (pe_op op_mul pe_int (pe_callF o_ones_in hr (by decide) (by rfl) pass0 (pa_cons (pv 0) (pa_cons (pv 1) pa_nil)))) (pv 1)))
  (pss_cons (ps_for PassesOwn.never rfl (pi_range2 (by rfl) T.b_range (pa_cons (pv 1) (pa_cons (pv 2) pa_nil))) (pg_name (i := 5) sc_first_low_in.nd rfl (.inl rfl))
  (pss_cons (ps_aug (i := 4) sc_first_low_in.nd rfl (.inl rfl) (pe_op op_sub (pe_op op_mul pe_int (pe_op op_and1 (pe_op op_shr (pv 0) (pv 5)) pe_int)) pe_int) ip_add)
  (pss_one (ps_if (pt_cmpR op_le (pv 4) (pv 3) (nomark _))
  (pss_one (ps_ret (pe_op op_add (pv 5) pe_int)))
  pss_nil))))
  (pss_one (ps_ret pe_non))))

theorem ok_last_low_in (T : Tx P w K mg base) (o_ones_in : Okf P w K mg base CX0 1 "ones_in" ["block", "upto"] (sp_ones_in K)) : Okf P w K mg base CX0 2 "last_low_in" ["block", "start", "stop", "goal"] (sp_last_low_in K) := by
  obtain ⟨fd, FD⟩ := T.d_last_low_in
  refine ⟨⟨fd, FunD.look FD, FD.bindsN fun _ _ _ _ _ _ us hl => match us, hl with | [_, _, _, _], _ => rfl, ?_⟩, FD.kp, T.g_last_low_in⟩
  refine FunD.ok (CX := CX0) FD sc_last_low_in (len_last_low_in K) (fun cdv A outer s H vs Q E hr h => ⟨t_last_low_in K, PSs.nox ?_, rd_last_low_in K vs H Q E h⟩)
  exact (pss_cons (ps_set (i := 4) sc_last_low_in.nd rfl (.inl rfl) (pe_op op_sub (pe_op op_mul pe_int (pe_callF o_ones_in hr (by decide) (by rfl) pass0 (pa_cons (pv 0) (pa_cons (pv 2) pa_nil)))) (pv 2)))
  (pss_cons (ps_for PassesOwn.never rfl (pi_range3 (by rfl) T.b_range (pa_cons (pv 2) (pa_cons (pv 1) (pa_cons (pe_un un_neg pe_int) pa_nil)))) (pg_name (i := 5) sc_last_low_in.nd rfl (.inl rfl))
  (pss_cons (ps_if (pt_cmpR op_le (pv 4) (pv 3) (nomark _))
  (pss_one (ps_ret (pv 5)))
  pss_nil)
  (pss_one (ps_aug (i := 4) sc_last_low_in.nd rfl (.inl rfl) (pe_op op_sub (pe_op op_mul pe_int (pe_op op_and1 (pe_op op_shr (pv 0) (pe_op op_sub (pv 5) pe_int)) pe_int)) pe_int) ip_sub))))
  (pss_one (ps_ret pe_non))))

theorem ok_size_of (T : Tx P w K mg base) : Okf P w K mg base CX0 1 "size_of" ["many"] (sp_size_of K) := by
  obtain ⟨fd, FD⟩ := T.d_size_of
  refine ⟨⟨fd, FunD.look FD, FD.bindsN fun _ _ _ _ _ _ us hl => match us, hl with | [_], _ => rfl, ?_⟩, FD.kp, T.g_size_of⟩
  refine FunD.ok (CX := CX0) FD sc_size_of (len_size_of K) (fun cdv A outer s H vs Q E hr h => ⟨t_size_of K, PSs.nox ?_, rd_size_of K vs H Q E h⟩)
  exact (pss_cons (ps_set (i := 1) sc_size_of.nd rfl (.inl rfl) pe_int)
  (pss_cons (ps_while PassesOwn.never (pt_cmpR op_lt (pv 1) (pv 0) (nomark _))
  (pss_one (ps_aug (i := 1) sc_size_of.nd rfl (.inl rfl) pe_int iop_mul)))
  (pss_one (ps_ret (pv 1)))))

theorem ok_lesser_of (T : Tx P w K mg base) : Okf P w K mg base CX0 1 "lesser_of" ["one", "other"] (sp_lesser_of K) := by
  obtain ⟨fd, FD⟩ := T.d_lesser_of
  refine ⟨⟨fd, FunD.look FD, FD.bindsN fun _ _ _ _ _ _ us hl => match us, hl with | [_, _], _ => rfl, ?_⟩, FD.kp, T.g_lesser_of⟩
  refine FunD.ok (CX := CX0) FD sc_lesser_of (len_lesser_of K) (fun cdv A outer s H vs Q E hr h => ⟨t_lesser_of K, PSs.nox ?_, rd_lesser_of K vs H Q E h⟩)
  exact (pss_cons (ps_if (pt_cmpR op_isN1 (pv 0) pe_non (nomark _))
  (pss_one (ps_ret (pv 1)))
  pss_nil)
  (pss_cons (ps_if (pt_cmpR op_isN1 (pv 1) pe_non (nomark _))
  (pss_one (ps_ret (pv 0)))
  pss_nil)
  (pss_one (ps_ret (pe_callB (call_min2K rfl) (by rfl) T.b_min (by decide +kernel) (pa_cons (pv 0) (pa_cons (pv 1) pa_nil)))))))

theorem ok_heap_of (T : Tx P w K mg base) (o_size_of : Okf P w K mg base CX0 1 "size_of" ["many"] (sp_size_of K)) (o_lesser_of : Okf P w K mg base CX0 1 "lesser_of" ["one", "other"] (sp_lesser_of K)) : Okf P w K mg base (L2.CX P w) 3 "heap_of" ["numbers"] (sp_heap_of K) := by
  obtain ⟨fd, FD⟩ := T.d_heap_of
  refine ⟨⟨fd, FunD.look FD, FD.bindsN fun _ _ _ _ _ _ us hl => match us, hl with | [_], _ => rfl, ?_⟩, FD.kp, T.g_heap_of⟩
  refine FunD.ok (CX := (L2.CX P w)) FD sc_heap_of (len_heap_of K) (fun cdv A outer s H vs Q E hr h => ⟨t_heap_of K E, ?_, rd_heap_of K vs H Q E h⟩)
  exact (pss_cons (ps_if (pt_cmpR op_gt (pe_callB call_lenK (by rfl) T.b_len (by decide +kernel) (pa_cons (pv 0) pa_nil)) (pe_gint T.i_MOST (by rfl)) (nomark _))
  (pss_one (ps_rz T.x_TooMany (takes_of rfl rfl rfl rfl)))
  pss_nil)
  (pss_cons (ps_set (i := 1) sc_heap_of.nd rfl (.inl rfl) (pe_callF o_size_of hr (by decide) (by rfl) pass0 (pa_cons (pe_callB call_lenK (by rfl) T.b_len (by decide +kernel) (pa_cons (pv 0) pa_nil)) pa_nil)))
  (pss_cons (ps_set (i := 2) sc_heap_of.nd rfl (.inl rfl) (pe_op op_cat (pe_op op_cat (pe_op op_rep (pe_lst (pa_cons pe_non pa_nil)) (pv 1)) (pe_callTy call_listK (by rfl) T.b_list (by decide +kernel) (pa_cons (pv 0) pa_nil))) (pe_op op_rep (pe_lst (pa_cons pe_non pa_nil)) (pe_op op_sub (pv 1) (pe_callB call_lenK (by rfl) T.b_len (by decide +kernel) (pa_cons (pv 0) pa_nil))))))
  (pss_cons (ps_for (passes_of rfl) rfl (pi_range3 (by rfl) T.b_range (pa_cons (pe_op op_sub (pv 1) pe_int) (pa_cons pe_int (pa_cons (pe_un un_neg pe_int) pa_nil)))) (pg_name (i := 3) sc_heap_of.nd rfl (.inl rfl))
  (pss_one (ps_asg (pe_callF o_lesser_of hr (by decide) (by rfl) pass0 (pa_cons (pe_ix ix_list (pv 2) (pe_op op_mul pe_int (pv 3)) (fun _ _ => rfl)) (pa_cons (pe_ix ix_list (pv 2) (pe_op op_add (pe_op op_mul pe_int (pv 3)) pe_int) (fun _ _ => rfl)) pa_nil))) (pg_sub (pv 2) (pv 3) set_list))))
  (pss_one (ps_ret (pv 2)))))))

theorem ok_cover (T : Tx P w K mg base) (o_size_of : Okf P w K mg base CX0 1 "size_of" ["many"] (sp_size_of K)) : Okf P w K mg base (L2.CX P w) 3 "cover" ["many", "start", "stop"] (sp_cover K) := by
  obtain ⟨fd, FD⟩ := T.d_cover
  refine ⟨⟨fd, FunD.look FD, FD.bindsN fun _ _ _ _ _ _ us hl => match us, hl with | [_, _, _], _ => rfl, ?_⟩, FD.kp, T.g_cover⟩
  refine FunD.ok (CX := (L2.CX P w)) FD sc_cover (len_cover K) (fun cdv A outer s H vs Q E hr h => ⟨t_cover K E, ?_, rd_cover K vs H Q E h⟩)
  exact (pss_cons (ps_if (PW.pt (pw_or (pt_cmpR op_lt (pv 1) pe_int (nomark _)) (pw_or (pt_cmpR op_gt (pv 1) (pv 2) (nomark _)) (pw_or1 (pt_cmpR op_gt (pv 2) (pv 0) (nomark _))))))
  (pss_one (ps_rz T.x_NoPlace (takes_of rfl rfl rfl rfl)))
  pss_nil)
  (pss_cons (ps_set (i := 3) sc_cover.nd rfl (.inl rfl) (pe_op op_add (pe_callF o_size_of hr (by decide) (by rfl) pass0 (pa_cons (pv 0) pa_nil)) (pv 1)))
  (pss_cons (ps_set (i := 4) sc_cover.nd rfl (.inl rfl) (pe_op op_add (pe_callF o_size_of hr (by decide) (by rfl) pass0 (pa_cons (pv 0) pa_nil)) (pv 2)))
  (pss_cons (ps_set (i := 5) sc_cover.nd rfl (.inl rfl) (pe_lst pa_nil))
  (pss_cons (ps_set (i := 6) sc_cover.nd rfl (.inl rfl) (pe_lst pa_nil))
  (pss_cons (ps_while (passes_of rfl) (pt_cmpR op_lt (pv 3) (pv 4) (nomark _))
  (Evl.pss_cut (ps_if (pt_cmpR op_eq (pe_op op_mod (pv 3) pe_int) pe_int (nomark _))
  (pss_cons (ps_expr (pe_bm PySem.F.plainAttrs_list PySem.F.slot_list_append PySem.F.type_list_append mt_append (pv 5) (pa_cons (pv 3) pa_nil)))
  (pss_one (ps_aug (i := 3) sc_cover.nd rfl (.inl rfl) pe_int ip_add)))
  pss_nil)
  (Evl.pss_cut (ps_if (pt_cmpR op_eq (pe_op op_mod (pv 4) pe_int) pe_int (nomark _))
  (pss_cons (ps_aug (i := 4) sc_cover.nd rfl (.inl rfl) pe_int ip_sub)
  (pss_one (ps_expr (pe_bm PySem.F.plainAttrs_list PySem.F.slot_list_append PySem.F.type_list_append mt_append (pv 6) (pa_cons (pv 4) pa_nil)))))
  pss_nil)
  (pss_cons (ps_set (i := 3) sc_cover.nd rfl (.inl rfl) (pe_op op_fdiv (pv 3) pe_int))
  (pss_one (ps_set (i := 4) sc_cover.nd rfl (.inl rfl) (pe_op op_fdiv (pv 4) pe_int)))))))
  (pss_one (ps_ret (pe_op op_cat (pv 5) (pe_revL (pv 6)))))))))))

theorem ok_least_of (T : Tx P w K mg base) (o_cover : Okf P w K mg base (L2.CX P w) 3 "cover" ["many", "start", "stop"] (sp_cover K)) (o_lesser_of : Okf P w K mg base CX0 1 "lesser_of" ["one", "other"] (sp_lesser_of K)) : Okf P w K mg base (L2.CX P w) 11 "least_of" ["many", "look", "start", "stop"] (sp_least_of K (Cal P w K mg base)) := by
  obtain ⟨fd, FD⟩ := T.d_least_of
  refine ⟨⟨fd, FunD.look FD, FD.bindsN fun _ _ _ _ _ _ us hl => match us, hl with | [_, _, _, _], _ => rfl, ?_⟩, FD.kp, T.g_least_of⟩
  refine FunD.ok (CX := (L2.CX P w)) FD sc_least_of (len_least_of K (Cal P w K mg base)) (fun cdv A outer s H vs Q E hr h => ⟨t_least_of K (Cal P w K mg base) E, ?_, rd_least_of K (Cal P w K mg base) vs H Q E h⟩)
  exact (pss_cons (ps_set (i := 4) sc_least_of.nd rfl (.inl rfl) pe_non)
  (pss_cons (ps_for (passes_of rfl) rfl (pi_list (pe_callF o_cover hr (by decide) (by rfl) (passX (takes_of rfl rfl rfl rfl)) (pa_cons (pv 0) (pa_cons (pv 2) (pa_cons (pv 3) pa_nil))))) (pg_name (i := 5) sc_least_of.nd rfl (.inl rfl))
  (pss_one (ps_set (i := 4) sc_least_of.nd rfl (.inl rfl) (pe_callF o_lesser_of hr (by decide) (by rfl) pass0 (pa_cons (pv 4) (pa_cons (pe_callV (k := 9) (i := 1) hr (by decide) rfl (.inl rfl) (pa_cons (pv 5) pa_nil)) pa_nil))))))
  (pss_one (ps_ret (pv 4)))))

theorem ok_within_goal (T : Tx P w K mg base) : Okf P w K mg base CX0 1 "within_goal" ["number", "goal"] (sp_within_goal K) := by
  obtain ⟨fd, FD⟩ := T.d_within_goal
  refine ⟨⟨fd, FunD.look FD, FD.bindsN fun _ _ _ _ _ _ us hl => match us, hl with | [_, _], _ => rfl, ?_⟩, FD.kp, T.g_within_goal⟩
  refine FunD.ok (CX := CX0) FD sc_within_goal (len_within_goal K) (fun cdv A outer s H vs Q E hr h => ⟨t_within_goal K, PSs.nox ?_, rd_within_goal K vs H Q E h⟩)
  exact (pss_one (ps_ret (pe_and (pe_cmpR op_notN1 (pv 0) pe_non (nomark _)) (pe_one (pe_cmpR op_le (pv 0) (pv 1) (nomark _))))))

theorem ok_first_at_most (T : Tx P w K mg base) (o_size_of : Okf P w K mg base CX0 1 "size_of" ["many"] (sp_size_of K)) (o_cover : Okf P w K mg base (L2.CX P w) 3 "cover" ["many", "start", "stop"] (sp_cover K)) (o_within_goal : Okf P w K mg base CX0 1 "within_goal" ["number", "goal"] (sp_within_goal K)) : Okf P w K mg base (L2.CX P w) 11 "first_at_most" ["many", "look", "start", "goal"] (sp_first_at_most K (Cal P w K mg base)) := by
  obtain ⟨fd, FD⟩ := T.d_first_at_most
  refine ⟨⟨fd, FunD.look FD, FD.bindsN fun _ _ _ _ _ _ us hl => match us, hl with | [_, _, _, _], _ => rfl, ?_⟩, FD.kp, T.g_first_at_most⟩
  refine FunD.ok (CX := (L2.CX P w)) FD sc_first_at_most (len_first_at_most K (Cal P w K mg base)) (fun cdv A outer s H vs Q E hr h => ⟨t_first_at_most K (Cal P w K mg base) E, ?_, rd_first_at_most K (Cal P w K mg base) vs H Q E h⟩)
  exact (pss_cons (ps_set (i := 4) sc_first_at_most.nd rfl (.inl rfl) (pe_callF o_size_of hr (by decide) (by rfl) pass0 (pa_cons (pv 0) pa_nil)))
  (pss_cons (ps_for (passes_of rfl) rfl (pi_list (pe_callF o_cover hr (by decide) (by rfl) (passX (takes_of rfl rfl rfl rfl)) (pa_cons (pv 0) (pa_cons (pv 2) (pa_cons (pv 0) pa_nil))))) (pg_name (i := 5) sc_first_at_most.nd rfl (.inl rfl))
  (pss_one (ps_if (pt_val (pe_callF o_within_goal hr (by decide) (by rfl) pass0 (pa_cons (pe_callV (k := 9) (i := 1) hr (by decide) rfl (.inl rfl) (pa_cons (pv 5) pa_nil)) (pa_cons (pv 3) pa_nil))))
  (pss_cons (ps_set (i := 6) sc_first_at_most.nd rfl (.inl rfl) (pv 5))
  (pss_cons (ps_while (passes_of rfl) (pt_cmpR op_lt (pv 6) (pv 4) (nomark _))
  (pss_cons (ps_set (i := 6) sc_first_at_most.nd rfl (.inl rfl) (pe_op op_mul pe_int (pv 6)))
  (pss_one (ps_if (pt_not (pt_val (pe_callF o_within_goal hr (by decide) (by rfl) pass0 (pa_cons (pe_callV (k := 9) (i := 1) hr (by decide) rfl (.inl rfl) (pa_cons (pv 6) pa_nil)) (pa_cons (pv 3) pa_nil)))))
  (pss_one (ps_aug (i := 6) sc_first_at_most.nd rfl (.inl rfl) pe_int ip_add))
  pss_nil))))
  (pss_one (ps_ret (pe_op op_sub (pv 6) (pv 4))))))
  pss_nil)))
  (pss_one (ps_ret pe_non))))

theorem ok_last_at_most (T : Tx P w K mg base) (o_size_of : Okf P w K mg base CX0 1 "size_of" ["many"] (sp_size_of K)) (o_cover : Okf P w K mg base (L2.CX P w) 3 "cover" ["many", "start", "stop"] (sp_cover K)) (o_within_goal : Okf P w K mg base CX0 1 "within_goal" ["number", "goal"] (sp_within_goal K)) : Okf P w K mg base (L2.CX P w) 11 "last_at_most" ["many", "look", "stop", "goal"] (sp_last_at_most K (Cal P w K mg base)) := by
  obtain ⟨fd, FD⟩ := T.d_last_at_most
  refine ⟨⟨fd, FunD.look FD, FD.bindsN fun _ _ _ _ _ _ us hl => match us, hl with | [_, _, _, _], _ => rfl, ?_⟩, FD.kp, T.g_last_at_most⟩
  refine FunD.ok (CX := (L2.CX P w)) FD sc_last_at_most (len_last_at_most K (Cal P w K mg base)) (fun cdv A outer s H vs Q E hr h => ⟨t_last_at_most K (Cal P w K mg base) E, ?_, rd_last_at_most K (Cal P w K mg base) vs H Q E h⟩)
  exact (pss_cons (ps_set (i := 4) sc_last_at_most.nd rfl (.inl rfl) (pe_callF o_size_of hr (by decide) (by rfl) pass0 (pa_cons (pv 0) pa_nil)))
  (pss_cons (ps_for (passes_of rfl) rfl (pi_reversed (by rfl) T.b_reversed (pa_cons (pe_callF o_cover hr (by decide) (by rfl) (passX (takes_of rfl rfl rfl rfl)) (pa_cons (pv 0) (pa_cons pe_int (pa_cons (pv 2) pa_nil)))) pa_nil)) (pg_name (i := 5) sc_last_at_most.nd rfl (.inl rfl))
  (pss_one (ps_if (pt_val (pe_callF o_within_goal hr (by decide) (by rfl) pass0 (pa_cons (pe_callV (k := 9) (i := 1) hr (by decide) rfl (.inl rfl) (pa_cons (pv 5) pa_nil)) (pa_cons (pv 3) pa_nil))))
  (pss_cons (ps_set (i := 6) sc_last_at_most.nd rfl (.inl rfl) (pv 5))
  (pss_cons (ps_while (passes_of rfl) (pt_cmpR op_lt (pv 6) (pv 4) (nomark _))
  (pss_cons (ps_set (i := 6) sc_last_at_most.nd rfl (.inl rfl) (pe_op op_add (pe_op op_mul pe_int (pv 6)) pe_int))
  (pss_one (ps_if (pt_not (pt_val (pe_callF o_within_goal hr (by decide) (by rfl) pass0 (pa_cons (pe_callV (k := 9) (i := 1) hr (by decide) rfl (.inl rfl) (pa_cons (pv 6) pa_nil)) (pa_cons (pv 3) pa_nil)))))
  (pss_one (ps_aug (i := 6) sc_last_at_most.nd rfl (.inl rfl) pe_int ip_sub))
  pss_nil))))
  (pss_one (ps_ret (pe_op op_sub (pv 6) (pv 4))))))
  pss_nil)))
  (pss_one (ps_ret pe_non))))

theorem ok_ones_table (T : Tx P w K mg base) (o_ones_in : Okf P w K mg base CX0 1 "ones_in" ["block", "upto"] (sp_ones_in K)) : Okf P w K mg base CX0 2 "ones_table" ["blocks"] (sp_ones_table K) := by
  obtain ⟨fd, FD⟩ := T.d_ones_table
  refine ⟨⟨fd, FunD.look FD, FD.bindsN fun _ _ _ _ _ _ us hl => match us, hl with | [_], _ => rfl, ?_⟩, FD.kp, T.g_ones_table⟩
  refine FunD.ok (CX := CX0) FD sc_ones_table (len_ones_table K) (fun cdv A outer s H vs Q E hr h => ⟨t_ones_table K, PSs.nox ?_, rd_ones_table K vs H Q E h⟩)
  exact (pss_cons (ps_set (i := 1) sc_ones_table.nd rfl (.inl rfl) (pe_lst (pa_cons pe_int pa_nil)))
  (pss_cons (ps_for PassesOwn.never rfl (pi_list (pv 0)) (pg_name (i := 2) sc_ones_table.nd rfl (.inl rfl))
  (pss_one (ps_expr (pe_bm PySem.F.plainAttrs_list PySem.F.slot_list_append PySem.F.type_list_append mt_append (pv 1) (pa_cons (pe_op op_add (pe_ix ix_list (pv 1) (pe_un un_neg pe_int) (fun _ _ => rfl)) (pe_callF o_ones_in hr (by decide) (by rfl) pass0 (pa_cons (pv 2) (pa_cons (pe_gint T.i_WIDE (by rfl)) pa_nil)))) pa_nil)))))
  (pss_one (ps_ret (pe_callTy call_tupK (by rfl) T.b_tuple (by decide +kernel) (pa_cons (pv 1) pa_nil))))))

theorem ok_kept_row (T : Tx P w K mg base) (o_packed : Okf P w K mg base (L2.CX P w) 2 "packed" ["bits"] (sp_packed K)) (o_ones_table : Okf P w K mg base CX0 2 "ones_table" ["blocks"] (sp_ones_table K)) : Okf P w K mg base (L2.CX P w) 4 "kept_row" ["bits"] (sp_kept_row K) := by
  obtain ⟨fd, FD⟩ := T.d_kept_row
  refine ⟨⟨fd, FunD.look FD, FD.bindsN fun _ _ _ _ _ _ us hl => match us, hl with | [_], _ => rfl, ?_⟩, FD.kp, T.g_kept_row⟩
  refine FunD.ok (CX := (L2.CX P w)) FD sc_kept_row (len_kept_row K) (fun cdv A outer s H vs Q E hr h => ⟨t_kept_row K E, ?_, rd_kept_row K vs H Q E h⟩)
  exact (pss_cons (ps_set (i := 1) sc_kept_row.nd rfl (.inl rfl) (pe_callF o_packed hr (by decide) (by rfl) (passX (takes_of rfl rfl rfl rfl)) (pa_cons (pv 0) pa_nil)))
  (pss_one (ps_ret (pe_tup (pa_cons (pe_tup (pa_cons (pe_callB call_lenK (by rfl) T.b_len (by decide +kernel) (pa_cons (pv 0) pa_nil)) (pa_cons (pe_callF o_ones_table hr (by decide) (by rfl) pass0 (pa_cons (pv 1) pa_nil)) pa_nil))) (pa_cons (pv 1) pa_nil))))))

theorem ok_bit_at (T : Tx P w K mg base) : Okf P w K mg base (L2.CX P w) 11 "bit_at" ["tables", "look", "at"] (sp_bit_at K (Cal P w K mg base)) := by
  obtain ⟨fd, FD⟩ := T.d_bit_at
  refine ⟨⟨fd, FunD.look FD, FD.bindsN fun _ _ _ _ _ _ us hl => match us, hl with | [_, _, _], _ => rfl, ?_⟩, FD.kp, T.g_bit_at⟩
  refine FunD.ok (CX := (L2.CX P w)) FD sc_bit_at (len_bit_at K (Cal P w K mg base)) (fun cdv A outer s H vs Q E hr h => ⟨t_bit_at K (Cal P w K mg base) E, ?_, rd_bit_at K (Cal P w K mg base) vs H Q E h⟩)
  exact (pss_cons (ps_if (PW.pt (pw_or (pt_cmpR op_lt (pv 2) pe_int (nomark _)) (pw_or1 (pt_cmpR op_ge (pv 2) (pe_ix ix_tup (pv 0) pe_int (fun _ _ => rfl)) (nomark _)))))
  (pss_one (ps_rz T.x_NoPlace (takes_of rfl rfl rfl rfl)))
  pss_nil)
  (pss_one (ps_ret (pe_op op_and1 (pe_op op_shr (pe_callV (k := 9) (i := 1) hr (by decide) rfl (.inl rfl) (pa_cons (pe_op op_fdiv (pv 2) (pe_gint T.i_WIDE (by rfl))) pa_nil)) (pe_op op_mod (pv 2) (pe_gint T.i_WIDE (by rfl)))) pe_int))))

theorem ok_ones_at (T : Tx P w K mg base) (o_ones_in : Okf P w K mg base CX0 1 "ones_in" ["block", "upto"] (sp_ones_in K)) : Okf P w K mg base (L2.CX P w) 11 "ones_at" ["tables", "look", "at"] (sp_ones_at K (Cal P w K mg base)) := by
  obtain ⟨fd, FD⟩ := T.d_ones_at
  refine ⟨⟨fd, FunD.look FD, FD.bindsN fun _ _ _ _ _ _ us hl => match us, hl with | [_, _, _], _ => rfl, ?_⟩, FD.kp, T.g_ones_at⟩
  refine FunD.ok (CX := (L2.CX P w)) FD sc_ones_at (len_ones_at K (Cal P w K mg base)) (fun cdv A outer s H vs Q E hr h => ⟨t_ones_at K (Cal P w K mg base) E, ?_, rd_ones_at K (Cal P w K mg base) vs H Q E h⟩)
  exact (pss_cons (ps_asg (pv 0) (pg_tup rfl (pgs_cons (pg_name (i := 3) sc_ones_at.nd rfl (.inl rfl)) (pgs_cons (pg_name (i := 4) sc_ones_at.nd rfl (.inl rfl)) pgs_nil))))
  (pss_cons (ps_if (PW.pt (pw_or (pt_cmpR op_lt (pv 2) pe_int (nomark _)) (pw_or1 (pt_cmpR op_gt (pv 2) (pv 3) (nomark _)))))
  (pss_one (ps_rz T.x_NoPlace (takes_of rfl rfl rfl rfl)))
  pss_nil)
  (pss_cons (ps_set (i := 5) sc_ones_at.nd rfl (.inl rfl) (pe_ix ix_tup (pv 4) (pe_op op_fdiv (pv 2) (pe_gint T.i_WIDE (by rfl))) (fun _ _ => rfl)))
  (Evl.pss_cut (ps_if (pt_cmpR op_gt (pe_op op_mod (pv 2) (pe_gint T.i_WIDE (by rfl))) pe_int (nomark _))
  (pss_one (ps_aug (i := 5) sc_ones_at.nd rfl (.inl rfl) (pe_callF o_ones_in hr (by decide) (by rfl) pass0 (pa_cons (pe_callV (k := 9) (i := 1) hr (by decide) rfl (.inl rfl) (pa_cons (pe_op op_fdiv (pv 2) (pe_gint T.i_WIDE (by rfl))) pa_nil)) (pa_cons (pe_op op_mod (pv 2) (pe_gint T.i_WIDE (by rfl))) pa_nil))) ip_add))
  pss_nil)
  (pss_one (ps_ret (pv 5)))))))

theorem ok_is_tree (T : Tx P w K mg base) : Okf P w K mg base CX0 1 "is_tree" ["bits"] (sp_is_tree K) := by
  obtain ⟨fd, FD⟩ := T.d_is_tree
  refine ⟨⟨fd, FunD.look FD, FD.bindsN fun _ _ _ _ _ _ us hl => match us, hl with | [_], _ => rfl, ?_⟩, FD.kp, T.g_is_tree⟩
  refine FunD.ok (CX := CX0) FD sc_is_tree (len_is_tree K) (fun cdv A outer s H vs Q E hr h => ⟨t_is_tree K, PSs.nox ?_, rd_is_tree K vs H Q E h⟩)
  exact (pss_cons (ps_set (i := 1) sc_is_tree.nd rfl (.inl rfl) pe_int)
  (pss_cons (ps_for PassesOwn.never rfl (pi_enum (by rfl) T.b_enumerate (pa_cons (pv 0) pa_nil)) (pg_tup rfl (pgs_cons (pg_name (i := 2) sc_is_tree.nd rfl (.inl rfl)) (pgs_cons (pg_name (i := 3) sc_is_tree.nd rfl (.inl rfl)) pgs_nil)))
  (pss_cons (ps_aug (i := 1) sc_is_tree.nd rfl (.inl rfl) (pe_op op_sub (pe_op op_mul pe_int (pv 3)) pe_int) ip_add)
  (pss_one (ps_if (PW.pt (pw_and (pt_cmpR op_le (pv 1) pe_int (nomark _)) (pw_and1 (pt_cmpR op_lt (pe_op op_add (pv 2) pe_int) (pe_callB call_lenK (by rfl) T.b_len (by decide +kernel) (pa_cons (pv 0) pa_nil)) (nomark _)))))
  (pss_one (ps_ret pe_bl))
  pss_nil))))
  (pss_one (ps_ret (pe_and (pe_cmpR op_gt (pe_callB call_lenK (by rfl) T.b_len (by decide +kernel) (pa_cons (pv 0) pa_nil)) pe_int (nomark _)) (pe_one (pe_cmpR op_eq (pv 1) pe_int (nomark _))))))))

theorem ok_begin_height (T : Tx P w K mg base) : Okf P w K mg base CX0 1 "begin_height" ["ahead", "number"] (sp_begin_height K) := by
  obtain ⟨fd, FD⟩ := T.d_begin_height
  refine ⟨⟨fd, FunD.look FD, FD.bindsN fun _ _ _ _ _ _ us hl => match us, hl with | [_, _], _ => rfl, ?_⟩, FD.kp, T.g_begin_height⟩
  refine FunD.ok (CX := CX0) FD sc_begin_height (len_begin_height K) (fun cdv A outer s H vs Q E hr h => ⟨t_begin_height K, PSs.nox ?_, rd_begin_height K vs H Q E h⟩)
  exact (pss_one (ps_ret (pe_op op_sub (pe_op op_mul pe_int (pe_ix ix_tup (pv 0) (pv 1) (fun _ _ => rfl))) (pe_op op_mul (pe_gint T.i_WIDE (by rfl)) (pv 1)))))

theorem ok_kept_brackets (T : Tx P w K mg base) (o_kept_row : Okf P w K mg base (L2.CX P w) 4 "kept_row" ["bits"] (sp_kept_row K)) (o_is_tree : Okf P w K mg base CX0 1 "is_tree" ["bits"] (sp_is_tree K)) (o_begin_height : Okf P w K mg base CX0 1 "begin_height" ["ahead", "number"] (sp_begin_height K)) (o_low_in : Okf P w K mg base CX0 1 "low_in" ["block", "upto"] (sp_low_in K)) (o_heap_of : Okf P w K mg base (L2.CX P w) 3 "heap_of" ["numbers"] (sp_heap_of K)) : Okf P w K mg base (L2.CX P w) 6 "kept_brackets" ["bits"] (sp_kept_brackets K) := by
  obtain ⟨fd, FD⟩ := T.d_kept_brackets
  refine ⟨⟨fd, FunD.look FD, FD.bindsN fun _ _ _ _ _ _ us hl => match us, hl with | [_], _ => rfl, ?_⟩, FD.kp, T.g_kept_brackets⟩
  refine FunD.ok (CX := (L2.CX P w)) FD sc_kept_brackets (len_kept_brackets K) (fun cdv A outer s H vs Q E hr h => ⟨t_kept_brackets K E, ?_, rd_kept_brackets K vs H Q E h⟩)
  exact (pss_cons (ps_asg (pe_callF o_kept_row hr (by decide) (by rfl) (passX (takes_of rfl rfl rfl rfl)) (pa_cons (pv 0) pa_nil)) (pg_tup rfl (pgs_cons (pg_name (i := 1) sc_kept_brackets.nd rfl (.inl rfl)) (pgs_cons (pg_name (i := 2) sc_kept_brackets.nd rfl (.inl rfl)) pgs_nil))))
  (pss_cons (ps_if (pt_not (pt_val (pe_callF o_is_tree hr (by decide) (by rfl) pass0 (pa_cons (pv 0) pa_nil))))
  (pss_one (ps_rz T.x_NoTree (takes_of rfl rfl rfl rfl)))
  pss_nil)
  (pss_cons (ps_asg (pv 1) (pg_tup rfl (pgs_cons (pg_name (i := 3) sc_kept_brackets.nd rfl (.inl rfl)) (pgs_cons (pg_name (i := 4) sc_kept_brackets.nd rfl (.inl rfl)) pgs_nil))))
  (pss_cons (ps_set (i := 5) sc_kept_brackets.nd rfl (.inl rfl) (pe_lst pa_nil))
  (pss_cons (ps_for (passes_of rfl) rfl (pi_enum (by rfl) T.b_enumerate (pa_cons (pv 2) pa_nil)) (pg_tup rfl (pgs_cons (pg_name (i := 6) sc_kept_brackets.nd rfl (.inl rfl)) (pgs_cons (pg_name (i := 7) sc_kept_brackets.nd rfl (.inl rfl)) pgs_nil)))
  (pss_one (ps_expr (pe_bm PySem.F.plainAttrs_list PySem.F.slot_list_append PySem.F.type_list_append mt_append (pv 5) (pa_cons (pe_op op_add (pe_callF o_begin_height hr (by decide) (by rfl) pass0 (pa_cons (pv 4) (pa_cons (pv 6) pa_nil))) (pe_callF o_low_in hr (by decide) (by rfl) pass0 (pa_cons (pv 7) (pa_cons (pe_callB (call_min2K rfl) (by rfl) T.b_min (by decide +kernel) (pa_cons (pe_gint T.i_WIDE (by rfl)) (pa_cons (pe_op op_sub (pv 3) (pe_op op_mul (pe_gint T.i_WIDE (by rfl)) (pv 6))) pa_nil))) pa_nil)))) pa_nil)))))
  (pss_one (ps_ret (pe_tup (pa_cons (pe_tup (pa_cons (pv 3) (pa_cons (pv 4) (pa_cons (pe_callTy call_tupK (by rfl) T.b_tuple (by decide +kernel) (pa_cons (pe_callF o_heap_of hr (by decide) (by rfl) (passX (takes_of rfl rfl rfl rfl)) (pa_cons (pv 5) pa_nil)) pa_nil)) pa_nil)))) (pa_cons (pv 2) pa_nil))))))))))

theorem ok_node_look_lam (T : Tx P w K mg base) : ∀ (j : Nat) (f : Addr) (cl : List (Str × Addr)) (c' : Addr), COk (LamO (lamBody st_node_look_lam)) P w K mg base (max j 0 + 1) f (lamNF st_node_look_lam (("node_look" ++ ".<locals>.") ++ "<lambda>") cl c') ["number"] ["nodes"] (sp_node_look_lam K (Cal P w K mg base) j) := by
  intro j f cl c'
  refine cok_lam (N := n_node_look_lam) sc_node_look_lam (fun _ _ _ us hl => match us, hl with | [_], _ => rfl) (len_node_look_lam K (Cal P w K mg base) j) (fun A outer s H vs ws Q hr hl h => ⟨t_node_look_lam K (Cal P w K mg base) j, PE.nox ?_, rd_node_look_lam K (Cal P w K mg base) j vs ws H Q h⟩)
  exact (pe_ix ix_tup (pv 1) (pv 0) (fun _ _ => rfl))
theorem ok_node_look (T : Tx P w K mg base) : Okf P w K mg base CX0 1 "node_look" ["tables"] (sp_node_look K (Cal P w K mg base)) := by
  obtain ⟨fd, FD⟩ := T.d_node_look
  refine ⟨⟨fd, FunD.look FD, FD.bindsN fun _ _ _ _ _ _ us hl => match us, hl with | [_], _ => rfl, ?_⟩, FD.kp, T.g_node_look⟩
  refine FunD.okC (pre := (defBody s_node_look).dropLast) (O := (LamO (lamBody st_node_look_lam))) (mkF := lamNF st_node_look_lam (("node_look" ++ ".<locals>.") ++ "<lambda>")) (nsc := (lamNF st_node_look_lam "" [] 0).scope) (js := [1]) (fr := ["nodes"]) (psn := ["number"]) (lv := 0) (N := n_node_look) FD rfl sc_node_look (len_node_look K (Cal P w K mg base)) (fun {f F} => ⟨_, rfl, fun h ⟨pm, ctv, q⟩ => ⟨_, _, _, _, q⟩⟩) (fun _ _ => rfl) sc_node_look_lam.free (by decide +kernel) (by decide +kernel) (ok_node_look_lam T)
    (fun c A outer s H vs Q E ec hr h => ?_) rfl
  subst ec
  refine ⟨tp_node_look K (tabP K "node_look") (lamBody st_node_look_lam) _, te_node_look K (tabP K "node_look") (lamBody st_node_look_lam) _, PSs.nox ?_, PE.nox ?_, fun G hG => rd_node_look K (Cal P w K mg base) (tabP K "node_look") rfl (lamBody st_node_look_lam) _ vs H Q E h G hG⟩
  · exact (pss_one (ps_set (i := 1) sc_node_look.nd rfl (.inr rfl) (pe_ix ix_tup (pv 0) pe_int (fun _ _ => rfl))))
  · exact (pe_lamC T.tb_node_look rfl (by rfl) (NdefX.ndef_free (sc := defScope s_node_look) (nsc := (lamNF st_node_look_lam "" [] 0).scope) (fr := ["nodes"]) (by decide +kernel)) rfl)

theorem ok_check_place (T : Tx P w K mg base) : Okf P w K mg base (L2.CX P w) 2 "check_place" ["tables", "at"] (sp_check_place K) := by
  obtain ⟨fd, FD⟩ := T.d_check_place
  refine ⟨⟨fd, FunD.look FD, FD.bindsN fun _ _ _ _ _ _ us hl => match us, hl with | [_, _], _ => rfl, ?_⟩, FD.kp, T.g_check_place⟩
  refine FunD.ok (CX := (L2.CX P w)) FD sc_check_place (len_check_place K) (fun cdv A outer s H vs Q E hr h => ⟨t_check_place K E, ?_, rd_check_place K vs H Q E h⟩)
  exact (pss_one (ps_if (PW.pt (pw_or (pt_cmpR op_lt (pv 1) pe_int (nomark _)) (pw_or1 (pt_cmpR op_gt (pv 1) (pe_ix ix_tup (pv 0) pe_int (fun _ _ => rfl)) (nomark _)))))
  (pss_one (ps_rz T.x_NoPlace (takes_of rfl rfl rfl rfl)))
  pss_nil))

theorem ok_height (T : Tx P w K mg base) (o_ones_at : Okf P w K mg base (L2.CX P w) 11 "ones_at" ["tables", "look", "at"] (sp_ones_at K (Cal P w K mg base))) : Okf P w K mg base (L2.CX P w) 13 "height" ["tables", "look", "at"] (sp_height K (Cal P w K mg base)) := by
  obtain ⟨fd, FD⟩ := T.d_height
  refine ⟨⟨fd, FunD.look FD, FD.bindsN fun _ _ _ _ _ _ us hl => match us, hl with | [_, _, _], _ => rfl, ?_⟩, FD.kp, T.g_height⟩
  refine FunD.ok (CX := (L2.CX P w)) FD sc_height (len_height K (Cal P w K mg base)) (fun cdv A outer s H vs Q E hr h => ⟨t_height K (Cal P w K mg base) E, ?_, rd_height K (Cal P w K mg base) vs H Q E h⟩)
  exact (pss_one (ps_ret (pe_op op_sub (pe_op op_mul pe_int (pe_callF o_ones_at hr (by decide) (by rfl) (passX (takes_of rfl rfl rfl rfl)) (pa_cons (pe_slice sl_tup (pv 0) po_none (po_some pe_int)) (pa_cons (pv 1) (pa_cons (pv 2) pa_nil))))) (pv 2))))

theorem ok_low_part (T : Tx P w K mg base) (o_begin_height : Okf P w K mg base CX0 1 "begin_height" ["ahead", "number"] (sp_begin_height K)) (o_ones_in : Okf P w K mg base CX0 1 "ones_in" ["block", "upto"] (sp_ones_in K)) (o_low_in : Okf P w K mg base CX0 1 "low_in" ["block", "upto"] (sp_low_in K)) : Okf P w K mg base CX0 10 "low_part" ["tables", "look", "number", "start", "stop"] (sp_low_part K (Cal P w K mg base)) := by
  obtain ⟨fd, FD⟩ := T.d_low_part
  refine ⟨⟨fd, FunD.look FD, FD.bindsN fun _ _ _ _ _ _ us hl => match us, hl with | [_, _, _, _, _], _ => rfl, ?_⟩, FD.kp, T.g_low_part⟩
  refine FunD.ok (CX := CX0) FD sc_low_part (len_low_part K (Cal P w K mg base)) (fun cdv A outer s H vs Q E hr h => ⟨t_low_part K (Cal P w K mg base), PSs.nox ?_, rd_low_part K (Cal P w K mg base) vs H Q E h⟩)
  exact (pss_cons (ps_set (i := 5) sc_low_part.nd rfl (.inl rfl) (pe_callV (k := 9) (i := 1) hr (by decide) rfl (.inl rfl) (pa_cons (pv 2) pa_nil)))
  (pss_cons (ps_set (i := 6) sc_low_part.nd rfl (.inl rfl) (pe_op op_sub (pe_op op_add (pe_callF o_begin_height hr (by decide) (by rfl) pass0 (pa_cons (pe_ix ix_tup (pv 0) pe_int (fun _ _ => rfl)) (pa_cons (pv 2) pa_nil))) (pe_op op_mul pe_int (pe_callF o_ones_in hr (by decide) (by rfl) pass0 (pa_cons (pv 5) (pa_cons (pv 3) pa_nil))))) (pv 3)))
  (pss_one (ps_ret (pe_op op_add (pv 6) (pe_callF o_low_in hr (by decide) (by rfl) pass0 (pa_cons (pe_op op_shr (pv 5) (pv 3)) (pa_cons (pe_op op_sub (pv 4) (pv 3)) pa_nil))))))))

theorem ok_lowest (T : Tx P w K mg base) (o_check_place : Okf P w K mg base (L2.CX P w) 2 "check_place" ["tables", "at"] (sp_check_place K)) (o_low_part : Okf P w K mg base CX0 10 "low_part" ["tables", "look", "number", "start", "stop"] (sp_low_part K (Cal P w K mg base))) (o_least_of : Okf P w K mg base (L2.CX P w) 11 "least_of" ["many", "look", "start", "stop"] (sp_least_of K (Cal P w K mg base))) (o_node_look : Okf P w K mg base CX0 1 "node_look" ["tables"] (sp_node_look K (Cal P w K mg base))) : Okf P w K mg base (L2.CX P w) 13 "lowest" ["tables", "look", "at", "upto"] (sp_lowest K (Cal P w K mg base)) := by
  obtain ⟨fd, FD⟩ := T.d_lowest
  refine ⟨⟨fd, FunD.look FD, FD.bindsN fun _ _ _ _ _ _ us hl => match us, hl with | [_, _, _, _], _ => rfl, ?_⟩, FD.kp, T.g_lowest⟩
  refine FunD.ok (CX := (L2.CX P w)) FD sc_lowest (len_lowest K (Cal P w K mg base)) (fun cdv A outer s H vs Q E hr h => ⟨t_lowest K (Cal P w K mg base) E, ?_, rd_lowest K (Cal P w K mg base) vs H Q E h⟩)
  exact (pss_cons (ps_expr (pe_callF o_check_place hr (by decide) (by rfl) (passX (takes_of rfl rfl rfl rfl)) (pa_cons (pv 0) (pa_cons (pv 2) pa_nil))))
  (pss_cons (ps_expr (pe_callF o_check_place hr (by decide) (by rfl) (passX (takes_of rfl rfl rfl rfl)) (pa_cons (pv 0) (pa_cons (pv 3) pa_nil))))
  (pss_cons (ps_if (pt_cmpR op_ge (pv 2) (pv 3) (nomark _))
  (pss_one (ps_rz T.x_NoPlace (takes_of rfl rfl rfl rfl)))
  pss_nil)
  (pss_cons (ps_set (i := 4) sc_lowest.nd rfl (.inl rfl) (pe_op op_fdiv (pv 2) (pe_gint T.i_WIDE (by rfl))))
  (pss_cons (ps_set (i := 5) sc_lowest.nd rfl (.inl rfl) (pe_op op_fdiv (pe_op op_sub (pv 3) pe_int) (pe_gint T.i_WIDE (by rfl))))
  (pss_cons (ps_if (pt_cmpR op_eq (pv 4) (pv 5) (nomark _))
  (pss_one (ps_ret (pe_callF o_low_part hr (by decide) (by rfl) pass0 (pa_cons (pv 0) (pa_cons (pv 1) (pa_cons (pv 4) (pa_cons (pe_op op_sub (pv 2) (pe_op op_mul (pe_gint T.i_WIDE (by rfl)) (pv 4))) (pa_cons (pe_op op_sub (pv 3) (pe_op op_mul (pe_gint T.i_WIDE (by rfl)) (pv 4))) pa_nil))))))))
  pss_nil)
  (pss_cons (ps_set (i := 6) sc_lowest.nd rfl (.inl rfl) (pe_callF o_low_part hr (by decide) (by rfl) pass0 (pa_cons (pv 0) (pa_cons (pv 1) (pa_cons (pv 4) (pa_cons (pe_op op_sub (pv 2) (pe_op op_mul (pe_gint T.i_WIDE (by rfl)) (pv 4))) (pa_cons (pe_gint T.i_WIDE (by rfl)) pa_nil)))))))
  (pss_cons (ps_set (i := 6) sc_lowest.nd rfl (.inl rfl) (pe_callB (call_min2K rfl) (by rfl) T.b_min (by decide +kernel) (pa_cons (pv 6) (pa_cons (pe_callF o_low_part hr (by decide) (by rfl) pass0 (pa_cons (pv 0) (pa_cons (pv 1) (pa_cons (pv 5) (pa_cons pe_int (pa_cons (pe_op op_sub (pv 3) (pe_op op_mul (pe_gint T.i_WIDE (by rfl)) (pv 5))) pa_nil)))))) pa_nil))))
  (pss_cons (ps_set (i := 7) sc_lowest.nd rfl (.inl rfl) (pe_callF o_least_of hr (by decide) (by rfl) (passX (takes_of rfl rfl rfl rfl)) (pa_cons (pe_op op_sub (pe_callB call_lenK (by rfl) T.b_len (by decide +kernel) (pa_cons (pe_ix ix_tup (pv 0) pe_int (fun _ _ => rfl)) pa_nil)) pe_int) (pa_cons (pe_callF o_node_look hr (by decide) (by rfl) pass0 (pa_cons (pv 0) pa_nil)) (pa_cons (pe_op op_add (pv 4) pe_int) (pa_cons (pv 5) pa_nil))))))
  (Evl.pss_cut (ps_if (pt_cmpR op_notN1 (pv 7) pe_non (nomark _))
  (pss_one (ps_set (i := 6) sc_lowest.nd rfl (.inl rfl) (pe_callB (call_min2K rfl) (by rfl) T.b_min (by decide +kernel) (pa_cons (pv 6) (pa_cons (pv 7) pa_nil)))))
  pss_nil)
  (pss_one (ps_ret (pv 6)))))))))))))

theorem ok_first_part (T : Tx P w K mg base) (o_first_low_in : Okf P w K mg base CX0 2 "first_low_in" ["block", "start", "stop", "goal"] (sp_first_low_in K)) (o_begin_height : Okf P w K mg base CX0 1 "begin_height" ["ahead", "number"] (sp_begin_height K)) : Okf P w K mg base CX0 10 "first_part" ["tables", "look", "number", "start", "goal"] (sp_first_part K (Cal P w K mg base)) := by
  obtain ⟨fd, FD⟩ := T.d_first_part
  refine ⟨⟨fd, FunD.look FD, FD.bindsN fun _ _ _ _ _ _ us hl => match us, hl with | [_, _, _, _, _], _ => rfl, ?_⟩, FD.kp, T.g_first_part⟩
  refine FunD.ok (CX := CX0) FD sc_first_part (len_first_part K (Cal P w K mg base)) (fun cdv A outer s H vs Q E hr h => ⟨t_first_part K (Cal P w K mg base), PSs.nox ?_, rd_first_part K (Cal P w K mg base) vs H Q E h⟩)
  exact (pss_cons (ps_set (i := 5) sc_first_part.nd rfl (.inl rfl) (pe_callB (call_min2K rfl) (by rfl) T.b_min (by decide +kernel) (pa_cons (pe_gint T.i_WIDE (by rfl)) (pa_cons (pe_op op_sub (pe_ix ix_tup (pv 0) pe_int (fun _ _ => rfl)) (pe_op op_mul (pe_gint T.i_WIDE (by rfl)) (pv 2))) pa_nil))))
  (pss_cons (ps_set (i := 6) sc_first_part.nd rfl (.inl rfl) (pe_callF o_first_low_in hr (by decide) (by rfl) pass0 (pa_cons (pe_callV (k := 9) (i := 1) hr (by decide) rfl (.inl rfl) (pa_cons (pv 2) pa_nil)) (pa_cons (pv 3) (pa_cons (pv 5) (pa_cons (pe_op op_sub (pv 4) (pe_callF o_begin_height hr (by decide) (by rfl) pass0 (pa_cons (pe_ix ix_tup (pv 0) pe_int (fun _ _ => rfl)) (pa_cons (pv 2) pa_nil)))) pa_nil))))))
  (pss_cons (ps_if (pt_cmpR op_isN1 (pv 6) pe_non (nomark _))
  (pss_one (ps_ret pe_non))
  pss_nil)
  (pss_one (ps_ret (pe_op op_add (pe_op op_mul (pe_gint T.i_WIDE (by rfl)) (pv 2)) (pv 6)))))))

theorem ok_last_part (T : Tx P w K mg base) (o_last_low_in : Okf P w K mg base CX0 2 "last_low_in" ["block", "start", "stop", "goal"] (sp_last_low_in K)) (o_begin_height : Okf P w K mg base CX0 1 "begin_height" ["ahead", "number"] (sp_begin_height K)) : Okf P w K mg base CX0 10 "last_part" ["tables", "look", "number", "stop", "goal"] (sp_last_part K (Cal P w K mg base)) := by
  obtain ⟨fd, FD⟩ := T.d_last_part
  refine ⟨⟨fd, FunD.look FD, FD.bindsN fun _ _ _ _ _ _ us hl => match us, hl with | [_, _, _, _, _], _ => rfl, ?_⟩, FD.kp, T.g_last_part⟩
  refine FunD.ok (CX := CX0) FD sc_last_part (len_last_part K (Cal P w K mg base)) (fun cdv A outer s H vs Q E hr h => ⟨t_last_part K (Cal P w K mg base), PSs.nox ?_, rd_last_part K (Cal P w K mg base) vs H Q E h⟩)
  exact (pss_cons (ps_set (i := 5) sc_last_part.nd rfl (.inl rfl) (pe_callF o_last_low_in hr (by decide) (by rfl) pass0 (pa_cons (pe_callV (k := 9) (i := 1) hr (by decide) rfl (.inl rfl) (pa_cons (pv 2) pa_nil)) (pa_cons pe_int (pa_cons (pv 3) (pa_cons (pe_op op_sub (pv 4) (pe_callF o_begin_height hr (by decide) (by rfl) pass0 (pa_cons (pe_ix ix_tup (pv 0) pe_int (fun _ _ => rfl)) (pa_cons (pv 2) pa_nil)))) pa_nil))))))
  (pss_cons (ps_if (pt_cmpR op_isN1 (pv 5) pe_non (nomark _))
  (pss_one (ps_ret pe_non))
  pss_nil)
  (pss_one (ps_ret (pe_op op_add (pe_op op_mul (pe_gint T.i_WIDE (by rfl)) (pv 2)) (pv 5))))))

theorem ok_low_behind (T : Tx P w K mg base) (o_check_place : Okf P w K mg base (L2.CX P w) 2 "check_place" ["tables", "at"] (sp_check_place K)) (o_first_part : Okf P w K mg base CX0 10 "first_part" ["tables", "look", "number", "start", "goal"] (sp_first_part K (Cal P w K mg base))) (o_first_at_most : Okf P w K mg base (L2.CX P w) 11 "first_at_most" ["many", "look", "start", "goal"] (sp_first_at_most K (Cal P w K mg base))) (o_node_look : Okf P w K mg base CX0 1 "node_look" ["tables"] (sp_node_look K (Cal P w K mg base))) : Okf P w K mg base (L2.CX P w) 13 "low_behind" ["tables", "look", "at", "goal"] (sp_low_behind K (Cal P w K mg base)) := by
  obtain ⟨fd, FD⟩ := T.d_low_behind
  refine ⟨⟨fd, FunD.look FD, FD.bindsN fun _ _ _ _ _ _ us hl => match us, hl with | [_, _, _, _], _ => rfl, ?_⟩, FD.kp, T.g_low_behind⟩
  refine FunD.ok (CX := (L2.CX P w)) FD sc_low_behind (len_low_behind K (Cal P w K mg base)) (fun cdv A outer s H vs Q E hr h => ⟨t_low_behind K (Cal P w K mg base) E, ?_, rd_low_behind K (Cal P w K mg base) vs H Q E h⟩)
  exact (pss_cons (ps_expr (pe_callF o_check_place hr (by decide) (by rfl) (passX (takes_of rfl rfl rfl rfl)) (pa_cons (pv 0) (pa_cons (pv 2) pa_nil))))
  (pss_cons (ps_if (pt_cmpR op_eq (pv 2) (pe_ix ix_tup (pv 0) pe_int (fun _ _ => rfl)) (nomark _))
  (pss_one (ps_ret pe_non))
  pss_nil)
  (pss_cons (ps_set (i := 4) sc_low_behind.nd rfl (.inl rfl) (pe_op op_fdiv (pv 2) (pe_gint T.i_WIDE (by rfl))))
  (pss_cons (ps_set (i := 5) sc_low_behind.nd rfl (.inl rfl) (pe_callF o_first_part hr (by decide) (by rfl) pass0 (pa_cons (pv 0) (pa_cons (pv 1) (pa_cons (pv 4) (pa_cons (pe_op op_sub (pv 2) (pe_op op_mul (pe_gint T.i_WIDE (by rfl)) (pv 4))) (pa_cons (pv 3) pa_nil)))))))
  (Evl.pss_cut (ps_if (pt_cmpR op_isN1 (pv 5) pe_non (nomark _))
  (pss_cons (ps_set (i := 4) sc_low_behind.nd rfl (.inl rfl) (pe_callF o_first_at_most hr (by decide) (by rfl) (passX (takes_of rfl rfl rfl rfl)) (pa_cons (pe_op op_sub (pe_callB call_lenK (by rfl) T.b_len (by decide +kernel) (pa_cons (pe_ix ix_tup (pv 0) pe_int (fun _ _ => rfl)) pa_nil)) pe_int) (pa_cons (pe_callF o_node_look hr (by decide) (by rfl) pass0 (pa_cons (pv 0) pa_nil)) (pa_cons (pe_op op_add (pv 4) pe_int) (pa_cons (pv 3) pa_nil))))))
  (pss_one (ps_if (pt_cmpR op_notN1 (pv 4) pe_non (nomark _))
  (pss_one (ps_set (i := 5) sc_low_behind.nd rfl (.inl rfl) (pe_callF o_first_part hr (by decide) (by rfl) pass0 (pa_cons (pv 0) (pa_cons (pv 1) (pa_cons (pv 4) (pa_cons pe_int (pa_cons (pv 3) pa_nil))))))))
  pss_nil)))
  pss_nil)
  (pss_one (ps_ret (pv 5))))))))

theorem ok_low_ahead (T : Tx P w K mg base) (o_check_place : Okf P w K mg base (L2.CX P w) 2 "check_place" ["tables", "at"] (sp_check_place K)) (o_last_part : Okf P w K mg base CX0 10 "last_part" ["tables", "look", "number", "stop", "goal"] (sp_last_part K (Cal P w K mg base))) (o_last_at_most : Okf P w K mg base (L2.CX P w) 11 "last_at_most" ["many", "look", "stop", "goal"] (sp_last_at_most K (Cal P w K mg base))) (o_node_look : Okf P w K mg base CX0 1 "node_look" ["tables"] (sp_node_look K (Cal P w K mg base))) : Okf P w K mg base (L2.CX P w) 13 "low_ahead" ["tables", "look", "at", "goal"] (sp_low_ahead K (Cal P w K mg base)) := by
  obtain ⟨fd, FD⟩ := T.d_low_ahead
  refine ⟨⟨fd, FunD.look FD, FD.bindsN fun _ _ _ _ _ _ us hl => match us, hl with | [_, _, _, _], _ => rfl, ?_⟩, FD.kp, T.g_low_ahead⟩
  refine FunD.ok (CX := (L2.CX P w)) FD sc_low_ahead (len_low_ahead K (Cal P w K mg base)) (fun cdv A outer s H vs Q E hr h => ⟨t_low_ahead K (Cal P w K mg base) E, ?_, rd_low_ahead K (Cal P w K mg base) vs H Q E h⟩)
  exact (pss_cons (ps_expr (pe_callF o_check_place hr (by decide) (by rfl) (passX (takes_of rfl rfl rfl rfl)) (pa_cons (pv 0) (pa_cons (pv 2) pa_nil))))
  (pss_cons (ps_set (i := 4) sc_low_ahead.nd rfl (.inl rfl) pe_non)
  (Evl.pss_cut (ps_if (pt_cmpR op_gt (pv 2) pe_int (nomark _))
  (pss_cons (ps_set (i := 5) sc_low_ahead.nd rfl (.inl rfl) (pe_op op_fdiv (pe_op op_sub (pv 2) pe_int) (pe_gint T.i_WIDE (by rfl))))
  (pss_cons (ps_set (i := 4) sc_low_ahead.nd rfl (.inl rfl) (pe_callF o_last_part hr (by decide) (by rfl) pass0 (pa_cons (pv 0) (pa_cons (pv 1) (pa_cons (pv 5) (pa_cons (pe_op op_sub (pe_op op_sub (pv 2) pe_int) (pe_op op_mul (pe_gint T.i_WIDE (by rfl)) (pv 5))) (pa_cons (pv 3) pa_nil)))))))
  (pss_one (ps_if (pt_cmpR op_isN1 (pv 4) pe_non (nomark _))
  (pss_cons (ps_set (i := 5) sc_low_ahead.nd rfl (.inl rfl) (pe_callF o_last_at_most hr (by decide) (by rfl) (passX (takes_of rfl rfl rfl rfl)) (pa_cons (pe_op op_sub (pe_callB call_lenK (by rfl) T.b_len (by decide +kernel) (pa_cons (pe_ix ix_tup (pv 0) pe_int (fun _ _ => rfl)) pa_nil)) pe_int) (pa_cons (pe_callF o_node_look hr (by decide) (by rfl) pass0 (pa_cons (pv 0) pa_nil)) (pa_cons (pv 5) (pa_cons (pv 3) pa_nil))))))
  (pss_one (ps_if (pt_cmpR op_notN1 (pv 5) pe_non (nomark _))
  (pss_one (ps_set (i := 4) sc_low_ahead.nd rfl (.inl rfl) (pe_callF o_last_part hr (by decide) (by rfl) pass0 (pa_cons (pv 0) (pa_cons (pv 1) (pa_cons (pv 5) (pa_cons (pe_gint T.i_WIDE (by rfl)) (pa_cons (pv 3) pa_nil))))))))
  pss_nil)))
  pss_nil))))
  pss_nil)
  (pss_cons (ps_if (PW.pt (pw_and (pt_cmpR op_isN1 (pv 4) pe_non (nomark _)) (pw_and (pt_cmpR op_gt (pv 2) pe_int (nomark _)) (pw_and1 (pt_cmpR op_ge (pv 3) pe_int (nomark _))))))
  (pss_one (ps_ret pe_int))
  pss_nil)
  (pss_one (ps_ret (pv 4)))))))

theorem ok_closing (T : Tx P w K mg base) (o_bit_at : Okf P w K mg base (L2.CX P w) 11 "bit_at" ["tables", "look", "at"] (sp_bit_at K (Cal P w K mg base))) (o_low_behind : Okf P w K mg base (L2.CX P w) 13 "low_behind" ["tables", "look", "at", "goal"] (sp_low_behind K (Cal P w K mg base))) (o_height : Okf P w K mg base (L2.CX P w) 13 "height" ["tables", "look", "at"] (sp_height K (Cal P w K mg base))) : Okf P w K mg base (L2.CX P w) 15 "closing" ["tables", "look", "at"] (sp_closing K (Cal P w K mg base)) := by
  obtain ⟨fd, FD⟩ := T.d_closing
  refine ⟨⟨fd, FunD.look FD, FD.bindsN fun _ _ _ _ _ _ us hl => match us, hl with | [_, _, _], _ => rfl, ?_⟩, FD.kp, T.g_closing⟩
  refine FunD.ok (CX := (L2.CX P w)) FD sc_closing (len_closing K (Cal P w K mg base)) (fun cdv A outer s H vs Q E hr h => ⟨t_closing K (Cal P w K mg base) E, ?_, rd_closing K (Cal P w K mg base) vs H Q E h⟩)
  exact (pss_cons (ps_if (pt_cmpR op_ne (pe_callF o_bit_at hr (by decide) (by rfl) (passX (takes_of rfl rfl rfl rfl)) (pa_cons (pv 0) (pa_cons (pv 1) (pa_cons (pv 2) pa_nil)))) pe_int (nomark _))
  (pss_one (ps_rz T.x_NoNode (takes_of rfl rfl rfl rfl)))
  pss_nil)
  (pss_one (ps_ret (pe_op op_sub (pe_callF o_low_behind hr (by decide) (by rfl) (passX (takes_of rfl rfl rfl rfl)) (pa_cons (pv 0) (pa_cons (pv 1) (pa_cons (pv 2) (pa_cons (pe_callF o_height hr (by decide) (by rfl) (passX (takes_of rfl rfl rfl rfl)) (pa_cons (pv 0) (pa_cons (pv 1) (pa_cons (pv 2) pa_nil)))) pa_nil))))) pe_int))))

theorem ok_opening (T : Tx P w K mg base) (o_bit_at : Okf P w K mg base (L2.CX P w) 11 "bit_at" ["tables", "look", "at"] (sp_bit_at K (Cal P w K mg base))) (o_low_ahead : Okf P w K mg base (L2.CX P w) 13 "low_ahead" ["tables", "look", "at", "goal"] (sp_low_ahead K (Cal P w K mg base))) (o_height : Okf P w K mg base (L2.CX P w) 13 "height" ["tables", "look", "at"] (sp_height K (Cal P w K mg base))) : Okf P w K mg base (L2.CX P w) 15 "opening" ["tables", "look", "at"] (sp_opening K (Cal P w K mg base)) := by
  obtain ⟨fd, FD⟩ := T.d_opening
  refine ⟨⟨fd, FunD.look FD, FD.bindsN fun _ _ _ _ _ _ us hl => match us, hl with | [_, _, _], _ => rfl, ?_⟩, FD.kp, T.g_opening⟩
  refine FunD.ok (CX := (L2.CX P w)) FD sc_opening (len_opening K (Cal P w K mg base)) (fun cdv A outer s H vs Q E hr h => ⟨t_opening K (Cal P w K mg base) E, ?_, rd_opening K (Cal P w K mg base) vs H Q E h⟩)
  exact (pss_cons (ps_if (pt_cmpR op_ne (pe_callF o_bit_at hr (by decide) (by rfl) (passX (takes_of rfl rfl rfl rfl)) (pa_cons (pv 0) (pa_cons (pv 1) (pa_cons (pv 2) pa_nil)))) pe_int (nomark _))
  (pss_one (ps_rz T.x_NoNode (takes_of rfl rfl rfl rfl)))
  pss_nil)
  (pss_one (ps_ret (pe_callF o_low_ahead hr (by decide) (by rfl) (passX (takes_of rfl rfl rfl rfl)) (pa_cons (pv 0) (pa_cons (pv 1) (pa_cons (pe_op op_add (pv 2) pe_int) (pa_cons (pe_callF o_height hr (by decide) (by rfl) (passX (takes_of rfl rfl rfl rfl)) (pa_cons (pv 0) (pa_cons (pv 1) (pa_cons (pe_op op_add (pv 2) pe_int) pa_nil)))) pa_nil))))))))

theorem ok_further_out (T : Tx P w K mg base) (o_bit_at : Okf P w K mg base (L2.CX P w) 11 "bit_at" ["tables", "look", "at"] (sp_bit_at K (Cal P w K mg base))) (o_low_ahead : Okf P w K mg base (L2.CX P w) 13 "low_ahead" ["tables", "look", "at", "goal"] (sp_low_ahead K (Cal P w K mg base))) (o_height : Okf P w K mg base (L2.CX P w) 13 "height" ["tables", "look", "at"] (sp_height K (Cal P w K mg base))) : Okf P w K mg base (L2.CX P w) 15 "further_out" ["tables", "look", "at", "pairs"] (sp_further_out K (Cal P w K mg base)) := by
  obtain ⟨fd, FD⟩ := T.d_further_out
  refine ⟨⟨fd, FunD.look FD, FD.bindsN fun _ _ _ _ _ _ us hl => match us, hl with | [_, _, _, _], _ => rfl, ?_⟩, FD.kp, T.g_further_out⟩
  refine FunD.ok (CX := (L2.CX P w)) FD sc_further_out (len_further_out K (Cal P w K mg base)) (fun cdv A outer s H vs Q E hr h => ⟨t_further_out K (Cal P w K mg base) E, ?_, rd_further_out K (Cal P w K mg base) vs H Q E h⟩)
  exact (pss_cons (ps_if (pt_cmpR op_ne (pe_callF o_bit_at hr (by decide) (by rfl) (passX (takes_of rfl rfl rfl rfl)) (pa_cons (pv 0) (pa_cons (pv 1) (pa_cons (pv 2) pa_nil)))) pe_int (nomark _))
  (pss_one (ps_rz T.x_NoNode (takes_of rfl rfl rfl rfl)))
  pss_nil)
  (pss_cons (ps_if (pt_cmpR op_eq (pv 3) pe_int (nomark _))
  (pss_one (ps_ret (pv 2)))
  pss_nil)
  (pss_one (ps_ret (pe_callF o_low_ahead hr (by decide) (by rfl) (passX (takes_of rfl rfl rfl rfl)) (pa_cons (pv 0) (pa_cons (pv 1) (pa_cons (pv 2) (pa_cons (pe_op op_sub (pe_callF o_height hr (by decide) (by rfl) (passX (takes_of rfl rfl rfl rfl)) (pa_cons (pv 0) (pa_cons (pv 1) (pa_cons (pv 2) pa_nil)))) (pv 3)) pa_nil)))))))))

theorem ok_law_cell_at (T : Tx P w K mg base) : Okf P w K mg base CX0 1 "_law_cell_at" ["_law_script", "_law_k"] (sp_law_cell_at K) := by
  obtain ⟨fd, FD⟩ := T.d_law_cell_at
  refine ⟨⟨fd, FunD.look FD, FD.bindsN fun _ _ _ _ _ _ us hl => match us, hl with | [_, _], _ => rfl, ?_⟩, FD.kp, T.g_law_cell_at⟩
  refine FunD.ok (CX := CX0) FD sc_law_cell_at (len_law_cell_at K) (fun cdv A outer s H vs Q E hr h => ⟨t_law_cell_at K, PSs.nox ?_, rd_law_cell_at K vs H Q E h⟩)
  exact (pss_cons (ps_if (pt_cmpR op_lt (pv 1) (pe_callB call_lenK (by rfl) T.b_len (by decide +kernel) (pa_cons (pv 0) pa_nil)) (nomark _))
  (pss_one (ps_ret (pe_ix ix_list (pv 0) (pv 1) (fun _ _ => rfl))))
  pss_nil)
  (pss_one (ps_ret pe_int)))

theorem ok_law_tree_bits (T : Tx P w K mg base) : Okf P w K mg base CX0 1 "_law_tree_bits" ["_law_script"] (sp_law_tree_bits K) := by
  obtain ⟨fd, FD⟩ := T.d_law_tree_bits
  refine ⟨⟨fd, FunD.look FD, FD.bindsN fun _ _ _ _ _ _ us hl => match us, hl with | [_], _ => rfl, ?_⟩, FD.kp, T.g_law_tree_bits⟩
  refine FunD.ok (CX := CX0) FD sc_law_tree_bits (len_law_tree_bits K) (fun cdv A outer s H vs Q E hr h => ⟨t_law_tree_bits K, PSs.nox ?_, rd_law_tree_bits K vs H Q E h⟩)
  exact (pss_cons (ps_set (i := 1) sc_law_tree_bits.nd rfl (.inl rfl) (pe_lst (pa_cons pe_int pa_nil)))
  (pss_cons (ps_set (i := 2) sc_law_tree_bits.nd rfl (.inl rfl) pe_int)
  (pss_cons (ps_for PassesOwn.never rfl (pi_list (pe_slice sl_list (pv 0) po_none (po_some pe_int))) (pg_name (i := 3) sc_law_tree_bits.nd rfl (.inl rfl))
  (pss_cons (ps_set (i := 4) sc_law_tree_bits.nd rfl (.inl rfl) (pe_op op_fdiv (pv 3) pe_int))
  (pss_cons (ps_set (i := 5) sc_law_tree_bits.nd rfl (.inl rfl) (pe_op op_mod (pv 4) pe_int))
  (pss_cons (ps_set (i := 6) sc_law_tree_bits.nd rfl (.inl rfl) (pe_op op_mod (pe_op op_fdiv (pv 4) pe_int) pe_int))
  (pss_cons (ps_set (i := 7) sc_law_tree_bits.nd rfl (.inl rfl) (pe_op op_mod (pe_op op_fdiv (pv 4) pe_int) pe_int))
  (Evl.pss_cut (ps_if (pt_cmpR op_eq (pe_op op_mod (pv 3) pe_int) pe_int (nomark _))
  (pss_one (ps_set (i := 7) sc_law_tree_bits.nd rfl (.inl rfl) pe_int))
  pss_nil)
  (Evl.pss_cut (ps_if (pt_cmpR op_eq (pe_op op_mod (pv 3) pe_int) pe_int (nomark _))
  (pss_cons (ps_set (i := 5) sc_law_tree_bits.nd rfl (.inl rfl) (pe_op op_mod (pv 4) pe_int))
  (pss_cons (ps_set (i := 6) sc_law_tree_bits.nd rfl (.inl rfl) (pe_op op_mod (pe_op op_fdiv (pv 4) pe_int) pe_int))
  (pss_one (ps_set (i := 7) sc_law_tree_bits.nd rfl (.inl rfl) (pe_op op_mod (pe_op op_fdiv (pv 4) pe_int) pe_int)))))
  pss_nil)
  (pss_cons (ps_set (i := 7) sc_law_tree_bits.nd rfl (.inl rfl) (pe_callB (call_min2K rfl) (by rfl) T.b_min (by decide +kernel) (pa_cons (pv 7) (pa_cons (pe_op op_sub (pe_op op_add (pv 2) (pv 5)) pe_int) pa_nil))))
  (pss_one (ps_if (pt_cmpR op_lt (pe_op op_add (pe_callB call_lenK (by rfl) T.b_len (by decide +kernel) (pa_cons (pv 1) pa_nil)) (pv 2)) pe_int (nomark _))
  (pss_cons (ps_expr (pe_bm PySem.F.plainAttrs_list PySem.F.slot_list_extend PySem.F.type_list_extend mt_extend (pv 1) (pa_cons (pe_op op_cat (pe_op op_cat (pe_op op_rep (pe_lst (pa_cons pe_int pa_nil)) (pv 5)) (pe_op op_rep (pe_lst (pa_cons pe_int (pa_cons pe_int pa_nil))) (pv 6))) (pe_op op_rep (pe_lst (pa_cons pe_int pa_nil)) (pv 7))) pa_nil)))
  (pss_one (ps_set (i := 2) sc_law_tree_bits.nd rfl (.inl rfl) (pe_op op_sub (pe_op op_add (pv 2) (pv 5)) (pv 7)))))
  pss_nil))))))))))
  (pss_one (ps_ret (pe_op op_cat (pv 1) (pe_op op_rep (pe_lst (pa_cons pe_int pa_nil)) (pv 2))))))))

theorem ok_law_look_of_law_look (T : Tx P w K mg base) : ∀ (j : Nat) (f : Addr) (cl : List (Str × Addr)) (c' : Addr), COk NdefX.FnO P w K mg base (max j 0 + 1) f (NdefX.NF.of st_law_look_of_law_look "_law_look" (("_law_look_of" ++ ".<locals>.") ++ "_law_look") cl c') ["_law_number"] ["_law_blocks"] (sp_law_look_of_law_look K (Cal P w K mg base) j) := by
  intro j f cl c'
  refine cok_def (N := n_law_look_of_law_look) sc_law_look_of_law_look (fun _ _ _ us hl => match us, hl with | [_], _ => rfl) (len_law_look_of_law_look K (Cal P w K mg base) j) (fun A outer s H vs ws Q hr hl h => ⟨t_law_look_of_law_look K (Cal P w K mg base) j, PSs.nox ?_, rd_law_look_of_law_look K (Cal P w K mg base) j vs ws H Q h⟩)
  exact (pss_one (ps_ret (pe_ix ix_list (pv 1) (pv 0) (fun _ _ => rfl))))
theorem ok_law_look_of (T : Tx P w K mg base) : Okf P w K mg base CX0 1 "_law_look_of" ["_law_blocks"] (sp_law_look_of K (Cal P w K mg base)) := by
  obtain ⟨fd, FD⟩ := T.d_law_look_of
  refine ⟨⟨fd, FunD.look FD, FD.bindsN fun _ _ _ _ _ _ us hl => match us, hl with | [_], _ => rfl, ?_⟩, FD.kp, T.g_law_look_of⟩
  refine FunD.okC (pre := (defBody s_law_look_of).dropLast) (O := NdefX.FnO) (mkF := NdefX.NF.of st_law_look_of_law_look "_law_look" (("_law_look_of" ++ ".<locals>.") ++ "_law_look")) (nsc := C8.fnScope st_law_look_of_law_look) (js := [0]) (fr := ["_law_blocks"]) (psn := ["_law_number"]) (lv := 0) (N := n_law_look_of) FD rfl sc_law_look_of (len_law_look_of K (Cal P w K mg base)) (fun {f F} => ⟨_, rfl, fun h ⟨od, sl, doc, pm, ctv, q⟩ => ⟨_, _, _, _, q⟩⟩) (fun _ _ => rfl) sc_law_look_of_law_look.free (by decide +kernel) (by decide +kernel) (ok_law_look_of_law_look T)
    (fun c A outer s H vs Q E ec hr h => ?_) rfl
  subst ec
  refine ⟨tp_law_look_of K (tabP K "_law_look_of") _, te_law_look_of K (tabP K "_law_look_of") _, PSs.nox ?_, PE.nox ?_, fun G hG => rd_law_look_of K (Cal P w K mg base) (tabP K "_law_look_of") rfl _ vs H Q E h G hG⟩
  · exact (pss_one (ps_ndefC (st := st_law_look_of_law_look) (name := "_law_look") (i := 1) rfl T.tb_law_look_of rfl (by rfl) (NdefX.ndef_free (sc := defScope s_law_look_of) (nsc := C8.fnScope st_law_look_of_law_look) (fr := ["_law_blocks"]) (by decide +kernel)) rfl rfl rfl sc_law_look_of.nd rfl (.inl rfl) (.inl rfl)))
  · exact (pv 1)

theorem ok_law_told (T : Tx P w K mg base) (o_height : Okf P w K mg base (L2.CX P w) 13 "height" ["tables", "look", "at"] (sp_height K (Cal P w K mg base))) (o_low_behind : Okf P w K mg base (L2.CX P w) 13 "low_behind" ["tables", "look", "at", "goal"] (sp_low_behind K (Cal P w K mg base))) (o_low_ahead : Okf P w K mg base (L2.CX P w) 13 "low_ahead" ["tables", "look", "at", "goal"] (sp_low_ahead K (Cal P w K mg base))) (o_lowest : Okf P w K mg base (L2.CX P w) 13 "lowest" ["tables", "look", "at", "upto"] (sp_lowest K (Cal P w K mg base))) (o_closing : Okf P w K mg base (L2.CX P w) 15 "closing" ["tables", "look", "at"] (sp_closing K (Cal P w K mg base))) (o_opening : Okf P w K mg base (L2.CX P w) 15 "opening" ["tables", "look", "at"] (sp_opening K (Cal P w K mg base))) (o_further_out : Okf P w K mg base (L2.CX P w) 15 "further_out" ["tables", "look", "at", "pairs"] (sp_further_out K (Cal P w K mg base))) : Okf P w K mg base (L2.CX P w) 17 "_law_told" ["_law_way", "_law_tables", "_law_look_here", "_law_at", "_law_more"] (sp_law_told K (Cal P w K mg base)) := by
  obtain ⟨fd, FD⟩ := T.d_law_told
  refine ⟨⟨fd, FunD.look FD, FD.bindsN fun _ _ _ _ _ _ us hl => match us, hl with | [_, _, _, _, _], _ => rfl, ?_⟩, FD.kp, T.g_law_told⟩
  refine FunD.ok (CX := (L2.CX P w)) FD sc_law_told (len_law_told K (Cal P w K mg base)) (fun cdv A outer s H vs Q E hr h => ⟨t_law_told K (Cal P w K mg base) E, ?_, rd_law_told K (Cal P w K mg base) vs H Q E h⟩)
  exact (pss_cons (ps_if (pt_cmpR op_eq (pv 0) pe_int (nomark _))
  (pss_one (ps_ret (pe_callF o_height hr (by decide) (by rfl) (passX (takes_of rfl rfl rfl rfl)) (pa_cons (pv 1) (pa_cons (pv 2) (pa_cons (pv 3) pa_nil))))))
  pss_nil)
  (pss_cons (ps_if (pt_cmpR op_eq (pv 0) pe_int (nomark _))
  (pss_one (ps_ret (pe_callF o_low_behind hr (by decide) (by rfl) (passX (takes_of rfl rfl rfl rfl)) (pa_cons (pv 1) (pa_cons (pv 2) (pa_cons (pv 3) (pa_cons (pv 4) pa_nil)))))))
  pss_nil)
  (pss_cons (ps_if (pt_cmpR op_eq (pv 0) pe_int (nomark _))
  (pss_one (ps_ret (pe_callF o_low_ahead hr (by decide) (by rfl) (passX (takes_of rfl rfl rfl rfl)) (pa_cons (pv 1) (pa_cons (pv 2) (pa_cons (pv 3) (pa_cons (pv 4) pa_nil)))))))
  pss_nil)
  (pss_cons (ps_if (pt_cmpR op_eq (pv 0) pe_int (nomark _))
  (pss_one (ps_ret (pe_callF o_lowest hr (by decide) (by rfl) (passX (takes_of rfl rfl rfl rfl)) (pa_cons (pv 1) (pa_cons (pv 2) (pa_cons (pv 3) (pa_cons (pv 4) pa_nil)))))))
  pss_nil)
  (pss_cons (ps_if (pt_cmpR op_eq (pv 0) pe_int (nomark _))
  (pss_one (ps_ret (pe_callF o_closing hr (by decide) (by rfl) (passX (takes_of rfl rfl rfl rfl)) (pa_cons (pv 1) (pa_cons (pv 2) (pa_cons (pv 3) pa_nil))))))
  pss_nil)
  (pss_cons (ps_if (pt_cmpR op_eq (pv 0) pe_int (nomark _))
  (pss_one (ps_ret (pe_callF o_opening hr (by decide) (by rfl) (passX (takes_of rfl rfl rfl rfl)) (pa_cons (pv 1) (pa_cons (pv 2) (pa_cons (pv 3) pa_nil))))))
  pss_nil)
  (pss_one (ps_ret (pe_callF o_further_out hr (by decide) (by rfl) (passX (takes_of rfl rfl rfl rfl)) (pa_cons (pv 1) (pa_cons (pv 2) (pa_cons (pv 3) (pa_cons (pv 4) pa_nil)))))))))))))

theorem ok_law_kinds (T : Tx P w K mg base) : Okn P w K mg base 1 "_law_kinds" ["_law_e"] (sp_law_kinds K) := by
  obtain ⟨fd, FD⟩ := T.d_law_kinds
  refine ⟨⟨fd, FunD.look FD, FD.bindsN fun _ _ _ _ _ _ us hl => match us, hl with | [_], _ => rfl, ?_⟩, FD.kp, T.g_law_kinds⟩
  refine FunD.okN FD sc_law_kinds (len_law_kinds K) (fun cdv A outer s H vs Q hr h => ⟨t_law_kinds K, ?_, rd_law_kinds K T.fx vs H Q E0 h⟩)
  exact (pss_cons (ps_set (i := 1) sc_law_kinds.nd rfl (.inl rfl) (pe_lst (pa_cons (pe_callB call_isH (by rfl) T.b_isinstance (by decide +kernel) (pa_cons (pv 0) (pa_cons (pe_glob (by rfl) T.g_TooMany rfl) pa_nil))) (pa_cons (pe_callB call_isH (by rfl) T.b_isinstance (by decide +kernel) (pa_cons (pv 0) (pa_cons (pe_glob (by rfl) T.g_NoBit rfl) pa_nil))) (pa_cons (pe_callB call_isH (by rfl) T.b_isinstance (by decide +kernel) (pa_cons (pv 0) (pa_cons (pe_glob (by rfl) T.g_NoTree rfl) pa_nil))) (pa_cons (pe_callB call_isH (by rfl) T.b_isinstance (by decide +kernel) (pa_cons (pv 0) (pa_cons (pe_glob (by rfl) T.g_NoPlace rfl) pa_nil))) pa_nil))))))
  (pss_one (ps_ret (pe_op op_cat (pv 1) (pe_lst (pa_cons (pe_callB call_isH (by rfl) T.b_isinstance (by decide +kernel) (pa_cons (pv 0) (pa_cons (pe_glob (by rfl) T.g_NoNode rfl) pa_nil))) (pa_cons (pe_callB call_isH (by rfl) T.b_isinstance (by decide +kernel) (pa_cons (pv 0) (pa_cons (pe_tup (pa_cons (pe_glob (by rfl) T.g_NoSign rfl) (pa_cons (pe_glob (by rfl) T.g_NoWord rfl) (pa_cons (pe_glob (by rfl) T.g_Twice rfl) (pa_cons (pe_glob (by rfl) T.g_NoOctets rfl) pa_nil))))) pa_nil))) pa_nil)))))))

theorem ok_law_refused (T : Tx P w K mg base) (o_law_told : Okf P w K mg base (L2.CX P w) 17 "_law_told" ["_law_way", "_law_tables", "_law_look_here", "_law_at", "_law_more"] (sp_law_told K (Cal P w K mg base))) (o_law_kinds : Okn P w K mg base  1 "_law_kinds" ["_law_e"] (sp_law_kinds K)) : Okf P w K mg base CX0 18 "_law_refused" ["_law_way", "_law_tables", "_law_look_here", "_law_at", "_law_more", "_law_kind"] (sp_law_refused K (Cal P w K mg base)) := by
  obtain ⟨fd, FD⟩ := T.d_law_refused
  refine ⟨⟨fd, FunD.look FD, FD.bindsN fun _ _ _ _ _ _ us hl => match us, hl with | [_, _, _, _, _, _], _ => rfl, ?_⟩, FD.kp, T.g_law_refused⟩
  refine FunD.ok (CX := CX0) FD sc_law_refused (len_law_refused K (Cal P w K mg base)) (fun cdv A outer s H vs Q E hr h => ⟨t_law_refused K (Cal P w K mg base), PSs.nox ?_, rd_law_refused K (Cal P w K mg base) T.fx vs H Q E h⟩)
  exact (pss_cons (ps_set (i := 6) sc_law_refused.nd rfl (.inl rfl) (pe_lst pa_nil))
  (pss_cons (ps_tryManyA (tb := fun W => (tDrop (tCallS (sp_law_told K (Cal P w K mg base)) (WE W) (tCons (tVar 0) (tCons (tVar 1) (tCons (tVar 2) (tCons (tVar 3) (tCons (tVar 4) tNil)))))))) (l := [(.ref (He.ga K "WoodError"), 7, fun a cls d => (tAsg (tOp rCat (tCallH (sp_law_kinds K) a cls d (tCons (tVar 7) tNil)) (tLst (tCons (tCB (rIsX K cls d a) (tCons (tVar 7) (tCons (tC (.ty "ValueError")) tNil))) tNil))) (gName 6)))]) (Wout := (fun _ _ _ _ => False)) rfl rfl sc_law_refused.nd takes0 (fun W pn xe tk po => (pss_one (ps_expr (pe_callFS o_law_told hr (by decide) (by rfl) tk (pa_cons (pv 0) (pa_cons (pv 1) (pa_cons (pv 2) (pa_cons (pv 3) (pa_cons (pv 4) pa_nil))))))))) (HdsA.cons (i := 7) (ts := fun a cls d => (tAsg (tOp rCat (tCallH (sp_law_kinds K) a cls d (tCons (tVar 7) tNil)) (tLst (tCons (tCB (rIsX K cls d a) (tCons (tVar 7) (tCons (tC (.ty "ValueError")) tNil))) tNil))) (gName 6))) rfl rfl ⟨rfl, by decide, .inl T.g_WoodError⟩ (fun a oe cls d pn hz hf hbn => (pss_one (ps_set (i := 6) sc_law_refused.nd rfl (.inl rfl) (pe_op op_cat (pe_callH (j := 17) List.mem_cons_self hz hf hbn o_law_kinds (RoomN.of hr _) (by decide) (by rfl) (pa_cons (pv 7) pa_nil)) (pe_lst (pa_cons (pe_callB (call_isX hz hf) (by rfl) T.b_isinstance (by decide +kernel) (pa_cons (pv 7) (pa_cons (pe_bltn (v := .ty "ValueError") (by rfl) T.b_ValueError (by decide +kernel) rfl) pa_nil))) pa_nil)))))) HdsA.nil))
  (pss_one (ps_ret (pe_cmpR (op_eqD hr.units) (pv 6) (pe_op op_cat (pe_lc (own := [("_law_k", 8)]) (g := (gName 8)) (tt := tYes) rfl sc_law_refused.nd (pi_range1 (by rfl) T.b_range (pa_cons pe_int pa_nil)) (blkOk_by (N := ["_law_way", "_law_tables", "_law_look_here", "_law_at", "_law_more", "_law_kind", "_law_kept", "_law_e", "_law_k"]) (sc := defScope s_law_refused) (own := [("_law_k", 8)]) (by decide +kernel)) (fun _ _ _ _ _ => (pg_name (i := 8) sc_law_refused.nd rfl (.inl rfl))) (fun _ _ _ _ _ => pts_nil) (fun _ _ _ _ _ => (pe_cmpR op_eq (pv 8) (pv 5) (nomark _)))) (pe_lst (pa_cons pe_bl pa_nil))) (nomark _))))))

theorem ok_law_not_kept (T : Tx P w K mg base) (o_kept_brackets : Okf P w K mg base (L2.CX P w) 6 "kept_brackets" ["bits"] (sp_kept_brackets K)) (o_law_kinds : Okn P w K mg base  1 "_law_kinds" ["_law_e"] (sp_law_kinds K)) : Okf P w K mg base CX0 7 "_law_not_kept" ["_law_bits", "_law_kind"] (sp_law_not_kept K) := by
  obtain ⟨fd, FD⟩ := T.d_law_not_kept
  refine ⟨⟨fd, FunD.look FD, FD.bindsN fun _ _ _ _ _ _ us hl => match us, hl with | [_, _], _ => rfl, ?_⟩, FD.kp, T.g_law_not_kept⟩
  refine FunD.ok (CX := CX0) FD sc_law_not_kept (len_law_not_kept K) (fun cdv A outer s H vs Q E hr h => ⟨t_law_not_kept K, PSs.nox ?_, rd_law_not_kept K T.fx vs H Q E h⟩)
  exact (pss_cons (ps_set (i := 2) sc_law_not_kept.nd rfl (.inl rfl) (pe_callTy call_listK (by rfl) T.b_list (by decide +kernel) (pa_cons (pv 0) pa_nil)))
  (pss_cons (ps_set (i := 3) sc_law_not_kept.nd rfl (.inl rfl) (pe_lst pa_nil))
  (pss_cons (ps_tryManyA (tb := fun W => (tDrop (tCallS (sp_kept_brackets K) (WE W) (tCons (tVar 2) tNil)))) (l := [(.ref (He.ga K "WoodError"), 4, fun a cls d => (tAsg (tOp rCat (tCallH (sp_law_kinds K) a cls d (tCons (tVar 4) tNil)) (tLst (tCons (tCB (rIsX K cls d a) (tCons (tVar 4) (tCons (tC (.ty "ValueError")) tNil))) tNil))) (gName 3)))]) (Wout := (fun _ _ _ _ => False)) rfl rfl sc_law_not_kept.nd takes0 (fun W pn xe tk po => (pss_one (ps_expr (pe_callFS o_kept_brackets hr (by decide) (by rfl) tk (pa_cons (pv 2) pa_nil))))) (HdsA.cons (i := 4) (ts := fun a cls d => (tAsg (tOp rCat (tCallH (sp_law_kinds K) a cls d (tCons (tVar 4) tNil)) (tLst (tCons (tCB (rIsX K cls d a) (tCons (tVar 4) (tCons (tC (.ty "ValueError")) tNil))) tNil))) (gName 3))) rfl rfl ⟨rfl, by decide, .inl T.g_WoodError⟩ (fun a oe cls d pn hz hf hbn => (pss_one (ps_set (i := 3) sc_law_not_kept.nd rfl (.inl rfl) (pe_op op_cat (pe_callH (j := 6) List.mem_cons_self hz hf hbn o_law_kinds (RoomN.of hr _) (by decide) (by rfl) (pa_cons (pv 4) pa_nil)) (pe_lst (pa_cons (pe_callB (call_isX hz hf) (by rfl) T.b_isinstance (by decide +kernel) (pa_cons (pv 4) (pa_cons (pe_bltn (v := .ty "ValueError") (by rfl) T.b_ValueError (by decide +kernel) rfl) pa_nil))) pa_nil)))))) HdsA.nil))
  (pss_one (ps_ret (pe_and (pe_cmpR (op_eqD hr.units) (pv 3) (pe_op op_cat (pe_lc (own := [("_law_k", 5)]) (g := (gName 5)) (tt := tYes) rfl sc_law_not_kept.nd (pi_range1 (by rfl) T.b_range (pa_cons pe_int pa_nil)) (blkOk_by (N := ["_law_bits", "_law_kind", "_law_handed", "_law_kept", "_law_e", "_law_k"]) (sc := defScope s_law_not_kept) (own := [("_law_k", 5)]) (by decide +kernel)) (fun _ _ _ _ _ => (pg_name (i := 5) sc_law_not_kept.nd rfl (.inl rfl))) (fun _ _ _ _ _ => pts_nil) (fun _ _ _ _ _ => (pe_cmpR op_eq (pv 5) (pv 1) (nomark _)))) (pe_lst (pa_cons pe_bl pa_nil))) (nomark _)) (pe_one (pe_cmpR (op_eqD hr.units) (pv 2) (pv 0) (nomark _)))))))))

theorem ok_law_places_refused (T : Tx P w K mg base) (o_law_refused : Okf P w K mg base CX0 18 "_law_refused" ["_law_way", "_law_tables", "_law_look_here", "_law_at", "_law_more", "_law_kind"] (sp_law_refused K (Cal P w K mg base))) : Okf P w K mg base CX0 19 "_law_places_refused" ["_law_tables", "_law_look_here", "_law_far", "_law_goal"] (sp_law_places_refused K (Cal P w K mg base)) := by
  obtain ⟨fd, FD⟩ := T.d_law_places_refused
  refine ⟨⟨fd, FunD.look FD, FD.bindsN fun _ _ _ _ _ _ us hl => match us, hl with | [_, _, _, _], _ => rfl, ?_⟩, FD.kp, T.g_law_places_refused⟩
  refine FunD.ok (CX := CX0) FD sc_law_places_refused (len_law_places_refused K (Cal P w K mg base)) (fun cdv A outer s H vs Q E hr h => ⟨t_law_places_refused K (Cal P w K mg base), PSs.nox ?_, rd_law_places_refused K (Cal P w K mg base) vs H Q E h⟩)
  exact (pss_cons (ps_set (i := 4) sc_law_places_refused.nd rfl (.inl rfl) (pe_ix ix_tup (pv 0) pe_int (fun _ _ => rfl)))
  (pss_cons (ps_for PassesOwn.never rfl (pi_list (pe_lst (pa_cons pe_int (pa_cons pe_int (pa_cons pe_int pa_nil))))) (pg_name (i := 5) sc_law_places_refused.nd rfl (.inl rfl))
  (pss_one (ps_for PassesOwn.never rfl (pi_list (pe_lst (pa_cons (pe_op op_sub pe_int (pv 2)) (pa_cons (pe_op op_add (pv 4) (pv 2)) pa_nil)))) (pg_name (i := 6) sc_law_places_refused.nd rfl (.inl rfl))
  (pss_one (ps_if (pt_not (pt_val (pe_callF o_law_refused hr (by decide) (by rfl) pass0 (pa_cons (pv 5) (pa_cons (pv 0) (pa_cons (pv 1) (pa_cons (pv 6) (pa_cons (pv 3) (pa_cons pe_int pa_nil)))))))))
  (pss_one (ps_ret pe_bl))
  pss_nil)))))
  (pss_cons (ps_for PassesOwn.never rfl (pi_list (pe_lst (pa_cons (pe_op op_sub pe_int (pv 2)) (pa_cons (pe_op op_add (pe_op op_sub (pv 4) pe_int) (pv 2)) pa_nil)))) (pg_name (i := 6) sc_law_places_refused.nd rfl (.inl rfl))
  (pss_one (ps_for PassesOwn.never rfl (pi_list (pe_lst (pa_cons pe_int (pa_cons pe_int (pa_cons pe_int pa_nil))))) (pg_name (i := 5) sc_law_places_refused.nd rfl (.inl rfl))
  (pss_one (ps_if (pt_not (pt_val (pe_callF o_law_refused hr (by decide) (by rfl) pass0 (pa_cons (pv 5) (pa_cons (pv 0) (pa_cons (pv 1) (pa_cons (pv 6) (pa_cons (pv 2) (pa_cons pe_int pa_nil)))))))))
  (pss_one (ps_ret pe_bl))
  pss_nil)))))
  (pss_cons (ps_set (i := 7) sc_law_places_refused.nd rfl (.inl rfl) (pe_op op_mod (pv 2) (pe_op op_add (pv 4) pe_int)))
  (pss_cons (ps_for PassesOwn.never rfl (pi_list (pe_lst (pa_cons (pe_tup (pa_cons (pe_op op_sub pe_int (pv 2)) (pa_cons (pv 4) pa_nil))) (pa_cons (pe_tup (pa_cons pe_int (pa_cons (pe_op op_add (pv 4) (pv 2)) pa_nil))) (pa_cons (pe_tup (pa_cons (pv 7) (pa_cons (pv 7) pa_nil))) (pa_cons (pe_tup (pa_cons (pv 4) (pa_cons (pv 7) pa_nil))) (pa_cons (pe_tup (pa_cons (pv 4) (pa_cons (pe_op op_add (pv 4) (pv 2)) pa_nil))) pa_nil))))))) (pg_tup rfl (pgs_cons (pg_name (i := 6) sc_law_places_refused.nd rfl (.inl rfl)) (pgs_cons (pg_name (i := 8) sc_law_places_refused.nd rfl (.inl rfl)) pgs_nil)))
  (pss_one (ps_if (pt_not (pt_val (pe_callF o_law_refused hr (by decide) (by rfl) pass0 (pa_cons pe_int (pa_cons (pv 0) (pa_cons (pv 1) (pa_cons (pv 6) (pa_cons (pv 8) (pa_cons pe_int pa_nil)))))))))
  (pss_one (ps_ret pe_bl))
  pss_nil)))
  (pss_one (ps_ret pe_bl)))))))

theorem ok_law_rows_refused (T : Tx P w K mg base) (o_law_cell_at : Okf P w K mg base CX0 1 "_law_cell_at" ["_law_script", "_law_k"] (sp_law_cell_at K)) (o_law_not_kept : Okf P w K mg base CX0 7 "_law_not_kept" ["_law_bits", "_law_kind"] (sp_law_not_kept K)) : Okf P w K mg base CX0 8 "_law_rows_refused" ["_law_bits", "_law_script"] (sp_law_rows_refused K) := by
  obtain ⟨fd, FD⟩ := T.d_law_rows_refused
  refine ⟨⟨fd, FunD.look FD, FD.bindsN fun _ _ _ _ _ _ us hl => match us, hl with | [_, _], _ => rfl, ?_⟩, FD.kp, T.g_law_rows_refused⟩
  refine FunD.ok (CX := CX0) FD sc_law_rows_refused (len_law_rows_refused K) (fun cdv A outer s H vs Q E hr h => ⟨t_law_rows_refused K, PSs.nox ?_, rd_law_rows_refused K vs H Q E h⟩)
  exact (pss_cons (ps_set (i := 2) sc_law_rows_refused.nd rfl (.inl rfl) (pe_callTy call_listK (by rfl) T.b_list (by decide +kernel) (pa_cons (pv 0) pa_nil)))
  (pss_cons (ps_set (i := 3) sc_law_rows_refused.nd rfl (.inl rfl) (pe_op op_mod (pe_op op_mod (pe_op op_mul (pe_callF o_law_cell_at hr (by decide) (by rfl) pass0 (pa_cons (pv 1) (pa_cons pe_int pa_nil))) pe_int) pe_int) (pe_callB call_lenK (by rfl) T.b_len (by decide +kernel) (pa_cons (pv 0) pa_nil))))
  (pss_cons (ps_asg (pe_op op_sub pe_int (pe_ix ix_list (pv 2) (pv 3) (fun _ _ => rfl))) (pg_sub (pv 2) (pv 3) set_list))
  (pss_cons (ps_set (i := 4) sc_law_rows_refused.nd rfl (.inl rfl) (pe_callF o_law_cell_at hr (by decide) (by rfl) pass0 (pa_cons (pv 1) (pa_cons pe_int pa_nil))))
  (pss_cons (ps_set (i := 5) sc_law_rows_refused.nd rfl (.inl rfl) (pe_callTy call_listK (by rfl) T.b_list (by decide +kernel) (pa_cons (pe_ix ix_list (pe_lst (pa_cons (pv 0) (pa_cons (pv 2) pa_nil))) (pe_op op_mod (pe_op op_fdiv (pv 4) pe_int) pe_int) (fun _ _ => rfl)) pa_nil)))
  (pss_cons (ps_set (i := 6) sc_law_rows_refused.nd rfl (.inl rfl) (pe_op op_mod (pe_op op_mod (pe_op op_mul (pe_callF o_law_cell_at hr (by decide) (by rfl) pass0 (pa_cons (pv 1) (pa_cons pe_int pa_nil))) pe_int) pe_int) (pe_callB call_lenK (by rfl) T.b_len (by decide +kernel) (pa_cons (pv 0) pa_nil))))
  (pss_cons (ps_asg (pe_ix ix_list (pe_lst (pa_cons (pe_op op_add pe_int (pe_op op_mod (pe_op op_fdiv (pv 4) pe_int) (pe_cst (pe_op op_pow pe_int pe_int) fun _ _ _ h => ⟨_, _, rfl, rfl, ⟨by decide, by decide, by decide⟩, h⟩))) (pa_cons (pe_op op_sub (pe_un un_neg pe_int) (pe_op op_mod (pe_op op_fdiv (pv 4) pe_int) (pe_cst (pe_op op_pow pe_int pe_int) fun _ _ _ h => ⟨_, _, rfl, rfl, ⟨by decide, by decide, by decide⟩, h⟩))) pa_nil))) (pe_op op_mod (pv 4) pe_int) (fun _ _ => rfl)) (pg_sub (pv 5) (pv 6) set_list))
  (pss_cons (ps_set (i := 7) sc_law_rows_refused.nd rfl (.inl rfl) (pe_slice sl_list (pe_op op_cat (pv 5) (pe_op op_rep (pe_lst (pa_cons pe_int pa_nil)) pe_int)) po_none (po_some pe_int)))
  (pss_cons (ps_if (PW.pt (pw_or (pt_not (pt_val (pe_callF o_law_not_kept hr (by decide) (by rfl) pass0 (pa_cons (pv 2) (pa_cons pe_int pa_nil))))) (pw_or1 (pt_not (pt_val (pe_callF o_law_not_kept hr (by decide) (by rfl) pass0 (pa_cons (pv 5) (pa_cons pe_int pa_nil))))))))
  (pss_one (ps_ret pe_bl))
  pss_nil)
  (pss_one (ps_ret (pe_and (pe_callF o_law_not_kept hr (by decide) (by rfl) pass0 (pa_cons (pv 7) (pa_cons pe_int pa_nil))) (pe_one (pe_callF o_law_not_kept hr (by decide) (by rfl) pass0 (pa_cons (pe_lst pa_nil) (pa_cons pe_int pa_nil))))))))))))))))

theorem ok_law_greatest (T : Tx P w K mg base) (o_kept_brackets : Okf P w K mg base (L2.CX P w) 6 "kept_brackets" ["bits"] (sp_kept_brackets K)) (o_law_look_of : Okf P w K mg base CX0 1 "_law_look_of" ["_law_blocks"] (sp_law_look_of K (Cal P w K mg base))) (o_closing : Okf P w K mg base (L2.CX P w) 15 "closing" ["tables", "look", "at"] (sp_closing K (Cal P w K mg base))) (o_opening : Okf P w K mg base (L2.CX P w) 15 "opening" ["tables", "look", "at"] (sp_opening K (Cal P w K mg base))) (o_height : Okf P w K mg base (L2.CX P w) 13 "height" ["tables", "look", "at"] (sp_height K (Cal P w K mg base))) (o_law_not_kept : Okf P w K mg base CX0 7 "_law_not_kept" ["_law_bits", "_law_kind"] (sp_law_not_kept K)) : Okf P w K mg base CX0 16 "_law_greatest" [] (sp_law_greatest K (Cal P w K mg base)) := by
  obtain ⟨fd, FD⟩ := T.d_law_greatest
  refine ⟨⟨fd, FunD.look FD, FD.bindsN fun _ _ _ _ _ _ us hl => match us, hl with | [], _ => rfl, ?_⟩, FD.kp, T.g_law_greatest⟩
  refine FunD.ok (CX := CX0) FD sc_law_greatest (len_law_greatest K (Cal P w K mg base)) (fun cdv A outer s H vs Q E hr h => ⟨t_law_greatest K (Cal P w K mg base), PSs.nox ?_, rd_law_greatest K (Cal P w K mg base) vs H Q E h⟩)
  exact (pss_cons (ps_asg (pe_callF o_kept_brackets hr (by decide) (by rfl) passL (pa_cons (pe_op op_cat (pe_op op_rep (pe_lst (pa_cons pe_int pa_nil)) pe_int) (pe_op op_rep (pe_lst (pa_cons pe_int pa_nil)) pe_int)) pa_nil)) (pg_tup rfl (pgs_cons (pg_name (i := 0) sc_law_greatest.nd rfl (.inl rfl)) (pgs_cons (pg_name (i := 1) sc_law_greatest.nd rfl (.inl rfl)) pgs_nil))))
  (pss_cons (ps_set (i := 2) sc_law_greatest.nd rfl (.inl rfl) (pe_callF o_law_look_of hr (by decide) (by rfl) pass0 (pa_cons (pv 1) pa_nil)))
  (pss_cons (ps_if (PW.pt (pw_or (pt_cmpR op_ne (pe_callF o_closing hr (by decide) (by rfl) passL (pa_cons (pv 0) (pa_cons (pv 2) (pa_cons pe_int pa_nil)))) pe_int (nomark _)) (pw_or (pt_cmpR op_ne (pe_callF o_closing hr (by decide) (by rfl) passL (pa_cons (pv 0) (pa_cons (pv 2) (pa_cons pe_int pa_nil)))) pe_int (nomark _)) (pw_or1 (pt_cmpR op_ne (pe_callF o_opening hr (by decide) (by rfl) passL (pa_cons (pv 0) (pa_cons (pv 2) (pa_cons pe_int pa_nil)))) pe_int (nomark _))))))
  (pss_one (ps_ret pe_bl))
  pss_nil)
  (pss_one (ps_ret (pe_and (pe_cmpR op_eq (pe_callF o_height hr (by decide) (by rfl) passL (pa_cons (pv 0) (pa_cons (pv 2) (pa_cons pe_int pa_nil)))) pe_int (nomark _)) (pe_one (pe_callF o_law_not_kept hr (by decide) (by rfl) pass0 (pa_cons (pe_op op_cat (pe_op op_rep (pe_lst (pa_cons pe_int pa_nil)) pe_int) (pe_op op_rep (pe_lst (pa_cons pe_int pa_nil)) pe_int)) (pa_cons pe_int pa_nil))))))))))

theorem ok_law (T : Tx P w K mg base) (o_law_tree_bits : Okf P w K mg base CX0 1 "_law_tree_bits" ["_law_script"] (sp_law_tree_bits K)) (o_law_rows_refused : Okf P w K mg base CX0 8 "_law_rows_refused" ["_law_bits", "_law_script"] (sp_law_rows_refused K)) (o_law_cell_at : Okf P w K mg base CX0 1 "_law_cell_at" ["_law_script", "_law_k"] (sp_law_cell_at K)) (o_law_greatest : Okf P w K mg base CX0 16 "_law_greatest" [] (sp_law_greatest K (Cal P w K mg base))) (o_kept_brackets : Okf P w K mg base (L2.CX P w) 6 "kept_brackets" ["bits"] (sp_kept_brackets K)) (o_law_look_of : Okf P w K mg base CX0 1 "_law_look_of" ["_law_blocks"] (sp_law_look_of K (Cal P w K mg base))) (o_law_places_refused : Okf P w K mg base CX0 19 "_law_places_refused" ["_law_tables", "_law_look_here", "_law_far", "_law_goal"] (sp_law_places_refused K (Cal P w K mg base))) (o_law_refused : Okf P w K mg base CX0 18 "_law_refused" ["_law_way", "_law_tables", "_law_look_here", "_law_at", "_law_more", "_law_kind"] (sp_law_refused K (Cal P w K mg base))) (o_law_told : Okf P w K mg base (L2.CX P w) 17 "_law_told" ["_law_way", "_law_tables", "_law_look_here", "_law_at", "_law_more"] (sp_law_told K (Cal P w K mg base))) (o_closing : Okf P w K mg base (L2.CX P w) 15 "closing" ["tables", "look", "at"] (sp_closing K (Cal P w K mg base))) (o_opening : Okf P w K mg base (L2.CX P w) 15 "opening" ["tables", "look", "at"] (sp_opening K (Cal P w K mg base))) (o_further_out : Okf P w K mg base (L2.CX P w) 15 "further_out" ["tables", "look", "at", "pairs"] (sp_further_out K (Cal P w K mg base))) (o_height : Okf P w K mg base (L2.CX P w) 13 "height" ["tables", "look", "at"] (sp_height K (Cal P w K mg base))) : Okf P w K mg base CX0 20 "law" ["_law_script"] (sp_law K) := by
  obtain ⟨fd, FD⟩ := T.d_law
  refine ⟨⟨fd, FunD.look FD, FD.bindsN fun _ _ _ _ _ _ us hl => match us, hl with | [_], _ => rfl, ?_⟩, FD.kp, T.g_law⟩
  refine FunD.ok (CX := CX0) FD sc_law (len_law K) (fun cdv A outer s H vs Q E hr h => ⟨t_law K (Cal P w K mg base), PSs.nox ?_, rd_law K (Cal P w K mg base) vs H Q E h⟩)
  exact (pss_cons (ps_set (i := 1) sc_law.nd rfl (.inl rfl) (pe_callF o_law_tree_bits hr (by decide) (by rfl) pass0 (pa_cons (pv 0) pa_nil)))
  (pss_cons (ps_if (pt_not (pt_val (pe_callF o_law_rows_refused hr (by decide) (by rfl) pass0 (pa_cons (pv 1) (pa_cons (pv 0) pa_nil)))))
  (pss_one (ps_ret pe_bl))
  pss_nil)
  (Evl.pss_cut (ps_if (PW.pt (pw_and (pt_cmpR op_eq (pe_op op_mod (pe_callF o_law_cell_at hr (by decide) (by rfl) pass0 (pa_cons (pv 0) (pa_cons pe_int pa_nil))) pe_int) pe_int (nomark _)) (pw_and1 (pt_not (pt_val (pe_callF0 o_law_greatest hr (by decide) (by rfl) pass0 ))))))
  (pss_one (ps_ret pe_bl))
  pss_nil)
  (pss_cons (ps_asg (pe_callF o_kept_brackets hr (by decide) (by rfl) passL (pa_cons (pe_callTy call_listK (by rfl) T.b_list (by decide +kernel) (pa_cons (pv 1) pa_nil)) pa_nil)) (pg_tup rfl (pgs_cons (pg_name (i := 2) sc_law.nd rfl (.inl rfl)) (pgs_cons (pg_name (i := 3) sc_law.nd rfl (.inl rfl)) pgs_nil))))
  (pss_cons (ps_set (i := 4) sc_law.nd rfl (.inl rfl) (pe_callF o_law_look_of hr (by decide) (by rfl) pass0 (pa_cons (pv 3) pa_nil)))
  (pss_cons (ps_set (i := 5) sc_law.nd rfl (.inl rfl) (pe_op op_add pe_int (pe_op op_mod (pe_op op_fdiv (pe_callF o_law_cell_at hr (by decide) (by rfl) pass0 (pa_cons (pv 0) (pa_cons pe_int pa_nil))) pe_int) (pe_ix ix_list (pe_lst (pa_cons pe_int (pa_cons pe_int (pa_cons (pe_cst (pe_op op_pow pe_int pe_int) fun _ _ _ h => ⟨_, _, rfl, rfl, ⟨by decide, by decide, by decide⟩, h⟩) pa_nil)))) (pe_op op_mod (pe_callF o_law_cell_at hr (by decide) (by rfl) pass0 (pa_cons (pv 0) (pa_cons pe_int pa_nil))) pe_int) (fun _ _ => rfl)))))
  (pss_cons (ps_if (pt_not (pt_val (pe_callF o_law_places_refused hr (by decide) (by rfl) pass0 (pa_cons (pv 2) (pa_cons (pv 4) (pa_cons (pv 5) (pa_cons (pe_op op_mod (pe_callF o_law_cell_at hr (by decide) (by rfl) pass0 (pa_cons (pv 0) (pa_cons pe_int pa_nil))) (pe_cst (pe_op op_pow pe_int pe_int) fun _ _ _ h => ⟨_, _, rfl, rfl, ⟨by decide, by decide, by decide⟩, h⟩)) pa_nil)))))))
  (pss_one (ps_ret pe_bl))
  pss_nil)
  (pss_cons (ps_for PassesOwn.never rfl (pi_list (pe_slice sl_list (pv 0) po_none (po_some pe_int))) (pg_name (i := 6) sc_law.nd rfl (.inl rfl))
  (pss_cons (ps_set (i := 7) sc_law.nd rfl (.inl rfl) (pe_op op_mod (pe_op op_mod (pe_op op_mul (pv 6) pe_int) pe_int) (pe_callB call_lenK (by rfl) T.b_len (by decide +kernel) (pa_cons (pv 1) pa_nil))))
  (pss_cons (ps_for PassesOwn.never rfl (pi_list (pe_ix ix_list (pe_lst (pa_cons (pe_lst (pa_cons pe_int pa_nil)) (pa_cons (pe_lst (pa_cons pe_int (pa_cons pe_int pa_nil))) pa_nil))) (pe_op op_sub pe_int (pe_ix ix_list (pv 1) (pv 7) (fun _ _ => rfl))) (fun _ _ => rfl))) (pg_name (i := 8) sc_law.nd rfl (.inl rfl))
  (pss_one (ps_if (pt_not (pt_val (pe_callF o_law_refused hr (by decide) (by rfl) pass0 (pa_cons (pv 8) (pa_cons (pv 2) (pa_cons (pv 4) (pa_cons (pv 7) (pa_cons (pe_op op_mod (pv 6) pe_int) (pa_cons pe_int pa_nil)))))))))
  (pss_one (ps_ret pe_bl))
  pss_nil)))
  (pss_one (ps_if (pt_cmpR op_eq (pe_callF o_law_told hr (by decide) (by rfl) passL (pa_cons (pe_op op_sub pe_int (pe_ix ix_list (pv 1) (pv 7) (fun _ _ => rfl))) (pa_cons (pv 2) (pa_cons (pv 4) (pa_cons (pv 7) (pa_cons pe_int pa_nil)))))) (pv 7) (nomark _))
  (pss_one (ps_ret pe_bl))
  pss_nil)))))
  (pss_cons (ps_set (i := 9) sc_law.nd rfl (.inl rfl) (pe_op op_sub (pe_callB call_lenK (by rfl) T.b_len (by decide +kernel) (pa_cons (pv 1) pa_nil)) pe_int))
  (pss_cons (ps_if (PW.pt (pw_or (pt_cmpR op_ne (pe_callF o_closing hr (by decide) (by rfl) passL (pa_cons (pv 2) (pa_cons (pv 4) (pa_cons pe_int pa_nil)))) (pv 9) (nomark _)) (pw_or1 (pt_cmpR op_ne (pe_callF o_opening hr (by decide) (by rfl) passL (pa_cons (pv 2) (pa_cons (pv 4) (pa_cons (pv 9) pa_nil)))) pe_int (nomark _)))))
  (pss_one (ps_ret pe_bl))
  pss_nil)
  (pss_one (ps_ret (pe_and (pe_cmpR op_eq (pe_callF o_further_out hr (by decide) (by rfl) passL (pa_cons (pv 2) (pa_cons (pv 4) (pa_cons pe_int (pa_cons pe_int pa_nil))))) pe_int (nomark _)) (pe_one (pe_cmpR op_eq (pe_callF o_height hr (by decide) (by rfl) passL (pa_cons (pv 2) (pa_cons (pv 4) (pa_cons (pv 9) pa_nil)))) pe_int (nomark _))))))))))))))))
end
def dd_packed : He.DefD := ⟨("packed", none), "packed", "packed", defArgs s_packed, defBody s_packed, defScope s_packed, [], []⟩
def dd_ones_in : He.DefD := ⟨("ones_in", none), "ones_in", "ones_in", defArgs s_ones_in, defBody s_ones_in, defScope s_ones_in, [], []⟩
def dd_low_in : He.DefD := ⟨("low_in", none), "low_in", "low_in", defArgs s_low_in, defBody s_low_in, defScope s_low_in, [], []⟩
def dd_first_low_in : He.DefD := ⟨("first_low_in", none), "first_low_in", "first_low_in", defArgs s_first_low_in, defBody s_first_low_in, defScope s_first_low_in, [], []⟩
def dd_last_low_in : He.DefD := ⟨("last_low_in", none), "last_low_in", "last_low_in", defArgs s_last_low_in, defBody s_last_low_in, defScope s_last_low_in, [], []⟩
def dd_size_of : He.DefD := ⟨("size_of", none), "size_of", "size_of", defArgs s_size_of, defBody s_size_of, defScope s_size_of, [], []⟩
def dd_lesser_of : He.DefD := ⟨("lesser_of", none), "lesser_of", "lesser_of", defArgs s_lesser_of, defBody s_lesser_of, defScope s_lesser_of, [], []⟩
def dd_heap_of : He.DefD := ⟨("heap_of", none), "heap_of", "heap_of", defArgs s_heap_of, defBody s_heap_of, defScope s_heap_of, [], []⟩
def dd_cover : He.DefD := ⟨("cover", none), "cover", "cover", defArgs s_cover, defBody s_cover, defScope s_cover, [], []⟩
def dd_least_of : He.DefD := ⟨("least_of", none), "least_of", "least_of", defArgs s_least_of, defBody s_least_of, defScope s_least_of, [], []⟩
def dd_within_goal : He.DefD := ⟨("within_goal", none), "within_goal", "within_goal", defArgs s_within_goal, defBody s_within_goal, defScope s_within_goal, [], []⟩
def dd_first_at_most : He.DefD := ⟨("first_at_most", none), "first_at_most", "first_at_most", defArgs s_first_at_most, defBody s_first_at_most, defScope s_first_at_most, [], []⟩
def dd_last_at_most : He.DefD := ⟨("last_at_most", none), "last_at_most", "last_at_most", defArgs s_last_at_most, defBody s_last_at_most, defScope s_last_at_most, [], []⟩
def dd_ones_table : He.DefD := ⟨("ones_table", none), "ones_table", "ones_table", defArgs s_ones_table, defBody s_ones_table, defScope s_ones_table, [], []⟩
def dd_kept_row : He.DefD := ⟨("kept_row", none), "kept_row", "kept_row", defArgs s_kept_row, defBody s_kept_row, defScope s_kept_row, [], []⟩
def dd_bit_at : He.DefD := ⟨("bit_at", none), "bit_at", "bit_at", defArgs s_bit_at, defBody s_bit_at, defScope s_bit_at, [], []⟩
def dd_ones_at : He.DefD := ⟨("ones_at", none), "ones_at", "ones_at", defArgs s_ones_at, defBody s_ones_at, defScope s_ones_at, [], []⟩
def dd_is_tree : He.DefD := ⟨("is_tree", none), "is_tree", "is_tree", defArgs s_is_tree, defBody s_is_tree, defScope s_is_tree, [], []⟩
def dd_begin_height : He.DefD := ⟨("begin_height", none), "begin_height", "begin_height", defArgs s_begin_height, defBody s_begin_height, defScope s_begin_height, [], []⟩
def dd_kept_brackets : He.DefD := ⟨("kept_brackets", none), "kept_brackets", "kept_brackets", defArgs s_kept_brackets, defBody s_kept_brackets, defScope s_kept_brackets, [], []⟩
def dd_node_look : He.DefD := ⟨("node_look", none), "node_look", "node_look", defArgs s_node_look, defBody s_node_look, defScope s_node_look, [], []⟩
def dd_check_place : He.DefD := ⟨("check_place", none), "check_place", "check_place", defArgs s_check_place, defBody s_check_place, defScope s_check_place, [], []⟩
def dd_height : He.DefD := ⟨("height", none), "height", "height", defArgs s_height, defBody s_height, defScope s_height, [], []⟩
def dd_low_part : He.DefD := ⟨("low_part", none), "low_part", "low_part", defArgs s_low_part, defBody s_low_part, defScope s_low_part, [], []⟩
def dd_lowest : He.DefD := ⟨("lowest", none), "lowest", "lowest", defArgs s_lowest, defBody s_lowest, defScope s_lowest, [], []⟩
def dd_first_part : He.DefD := ⟨("first_part", none), "first_part", "first_part", defArgs s_first_part, defBody s_first_part, defScope s_first_part, [], []⟩
def dd_last_part : He.DefD := ⟨("last_part", none), "last_part", "last_part", defArgs s_last_part, defBody s_last_part, defScope s_last_part, [], []⟩
def dd_low_behind : He.DefD := ⟨("low_behind", none), "low_behind", "low_behind", defArgs s_low_behind, defBody s_low_behind, defScope s_low_behind, [], []⟩
def dd_low_ahead : He.DefD := ⟨("low_ahead", none), "low_ahead", "low_ahead", defArgs s_low_ahead, defBody s_low_ahead, defScope s_low_ahead, [], []⟩
def dd_closing : He.DefD := ⟨("closing", none), "closing", "closing", defArgs s_closing, defBody s_closing, defScope s_closing, [], []⟩
def dd_opening : He.DefD := ⟨("opening", none), "opening", "opening", defArgs s_opening, defBody s_opening, defScope s_opening, [], []⟩
def dd_further_out : He.DefD := ⟨("further_out", none), "further_out", "further_out", defArgs s_further_out, defBody s_further_out, defScope s_further_out, [], []⟩
def dd_law_cell_at : He.DefD := ⟨("_law_cell_at", none), "_law_cell_at", "_law_cell_at", defArgs s_law_cell_at, defBody s_law_cell_at, defScope s_law_cell_at, [], []⟩
def dd_law_tree_bits : He.DefD := ⟨("_law_tree_bits", none), "_law_tree_bits", "_law_tree_bits", defArgs s_law_tree_bits, defBody s_law_tree_bits, defScope s_law_tree_bits, [], []⟩
def dd_law_look_of : He.DefD := ⟨("_law_look_of", none), "_law_look_of", "_law_look_of", defArgs s_law_look_of, defBody s_law_look_of, defScope s_law_look_of, [], []⟩
def dd_law_told : He.DefD := ⟨("_law_told", none), "_law_told", "_law_told", defArgs s_law_told, defBody s_law_told, defScope s_law_told, [], []⟩
def dd_law_kinds : He.DefD := ⟨("_law_kinds", none), "_law_kinds", "_law_kinds", defArgs s_law_kinds, defBody s_law_kinds, defScope s_law_kinds, [], []⟩
def dd_law_refused : He.DefD := ⟨("_law_refused", none), "_law_refused", "_law_refused", defArgs s_law_refused, defBody s_law_refused, defScope s_law_refused, [], []⟩
def dd_law_not_kept : He.DefD := ⟨("_law_not_kept", none), "_law_not_kept", "_law_not_kept", defArgs s_law_not_kept, defBody s_law_not_kept, defScope s_law_not_kept, [], []⟩
def dd_law_places_refused : He.DefD := ⟨("_law_places_refused", none), "_law_places_refused", "_law_places_refused", defArgs s_law_places_refused, defBody s_law_places_refused, defScope s_law_places_refused, [], []⟩
def dd_law_rows_refused : He.DefD := ⟨("_law_rows_refused", none), "_law_rows_refused", "_law_rows_refused", defArgs s_law_rows_refused, defBody s_law_rows_refused, defScope s_law_rows_refused, [], []⟩
def dd_law_greatest : He.DefD := ⟨("_law_greatest", none), "_law_greatest", "_law_greatest", defArgs s_law_greatest, defBody s_law_greatest, defScope s_law_greatest, [], []⟩
def dd_law : He.DefD := ⟨("law", none), "law", "law", defArgs s_law, defBody s_law, defScope s_law, [], []⟩
def fnL : List He.DefD := [dd_packed, dd_ones_in, dd_low_in, dd_first_low_in, dd_last_low_in, dd_size_of, dd_lesser_of, dd_heap_of, dd_cover, dd_least_of, dd_within_goal, dd_first_at_most, dd_last_at_most, dd_ones_table, dd_kept_row, dd_bit_at, dd_ones_at, dd_is_tree, dd_begin_height, dd_kept_brackets, dd_node_look, dd_check_place, dd_height, dd_low_part, dd_lowest, dd_first_part, dd_last_part, dd_low_behind, dd_low_ahead, dd_closing, dd_opening, dd_further_out, dd_law_cell_at, dd_law_tree_bits, dd_law_look_of, dd_law_told, dd_law_kinds, dd_law_refused, dd_law_not_kept, dd_law_places_refused, dd_law_rows_refused, dd_law_greatest, dd_law]
def fxL : List Fx := [.excC "NoBit", .kitT "NoBit" "ValueError" true, .kit "NoBit" "NoBit" true, .exm "NoBit" "NoBit" true, .kit "NoBit" "NoNode" false, .exm "NoBit" "NoNode" false, .kit "NoBit" "NoOctets" false, .exm "NoBit" "NoOctets" false, .kit "NoBit" "NoPlace" false, .exm "NoBit" "NoPlace" false, .kit "NoBit" "NoSign" false, .exm "NoBit" "NoSign" false, .kit "NoBit" "NoTree" false, .exm "NoBit" "NoTree" false, .kit "NoBit" "NoWord" false, .exm "NoBit" "NoWord" false, .kit "NoBit" "TooMany" false, .exm "NoBit" "TooMany" false, .kit "NoBit" "Twice" false, .exm "NoBit" "Twice" false, .kit "NoBit" "WoodError" true, .exm "NoBit" "WoodError" true, .excC "NoNode", .kitT "NoNode" "ValueError" true, .kit "NoNode" "NoBit" false, .exm "NoNode" "NoBit" false, .kit "NoNode" "NoNode" true, .exm "NoNode" "NoNode" true, .kit "NoNode" "NoOctets" false, .exm "NoNode" "NoOctets" false, .kit "NoNode" "NoPlace" false, .exm "NoNode" "NoPlace" false, .kit "NoNode" "NoSign" false, .exm "NoNode" "NoSign" false, .kit "NoNode" "NoTree" false, .exm "NoNode" "NoTree" false, .kit "NoNode" "NoWord" false, .exm "NoNode" "NoWord" false, .kit "NoNode" "TooMany" false, .exm "NoNode" "TooMany" false, .kit "NoNode" "Twice" false, .exm "NoNode" "Twice" false, .kit "NoNode" "WoodError" true, .exm "NoNode" "WoodError" true, .excC "NoOctets", .kitT "NoOctets" "ValueError" true, .kit "NoOctets" "NoBit" false, .exm "NoOctets" "NoBit" false, .kit "NoOctets" "NoNode" false, .exm "NoOctets" "NoNode" false, .kit "NoOctets" "NoOctets" true, .exm "NoOctets" "NoOctets" true, .kit "NoOctets" "NoPlace" false, .exm "NoOctets" "NoPlace" false, .kit "NoOctets" "NoSign" false, .exm "NoOctets" "NoSign" false, .kit "NoOctets" "NoTree" false, .exm "NoOctets" "NoTree" false, .kit "NoOctets" "NoWord" false, .exm "NoOctets" "NoWord" false, .kit "NoOctets" "TooMany" false, .exm "NoOctets" "TooMany" false, .kit "NoOctets" "Twice" false, .exm "NoOctets" "Twice" false, .kit "NoOctets" "WoodError" true, .exm "NoOctets" "WoodError" true, .excC "NoPlace", .kitT "NoPlace" "ValueError" true, .kit "NoPlace" "NoBit" false, .exm "NoPlace" "NoBit" false, .kit "NoPlace" "NoNode" false, .exm "NoPlace" "NoNode" false, .kit "NoPlace" "NoOctets" false, .exm "NoPlace" "NoOctets" false, .kit "NoPlace" "NoPlace" true, .exm "NoPlace" "NoPlace" true, .kit "NoPlace" "NoSign" false, .exm "NoPlace" "NoSign" false, .kit "NoPlace" "NoTree" false, .exm "NoPlace" "NoTree" false, .kit "NoPlace" "NoWord" false, .exm "NoPlace" "NoWord" false, .kit "NoPlace" "TooMany" false, .exm "NoPlace" "TooMany" false, .kit "NoPlace" "Twice" false, .exm "NoPlace" "Twice" false, .kit "NoPlace" "WoodError" true, .exm "NoPlace" "WoodError" true, .excC "NoSign", .kitT "NoSign" "ValueError" true, .kit "NoSign" "NoBit" false, .exm "NoSign" "NoBit" false, .kit "NoSign" "NoNode" false, .exm "NoSign" "NoNode" false, .kit "NoSign" "NoOctets" false, .exm "NoSign" "NoOctets" false, .kit "NoSign" "NoPlace" false, .exm "NoSign" "NoPlace" false, .kit "NoSign" "NoSign" true, .exm "NoSign" "NoSign" true, .kit "NoSign" "NoTree" false, .exm "NoSign" "NoTree" false, .kit "NoSign" "NoWord" false, .exm "NoSign" "NoWord" false, .kit "NoSign" "TooMany" false, .exm "NoSign" "TooMany" false, .kit "NoSign" "Twice" false, .exm "NoSign" "Twice" false, .kit "NoSign" "WoodError" true, .exm "NoSign" "WoodError" true, .excC "NoTree", .kitT "NoTree" "ValueError" true, .kit "NoTree" "NoBit" false, .exm "NoTree" "NoBit" false, .kit "NoTree" "NoNode" false, .exm "NoTree" "NoNode" false, .kit "NoTree" "NoOctets" false, .exm "NoTree" "NoOctets" false, .kit "NoTree" "NoPlace" false, .exm "NoTree" "NoPlace" false, .kit "NoTree" "NoSign" false, .exm "NoTree" "NoSign" false, .kit "NoTree" "NoTree" true, .exm "NoTree" "NoTree" true, .kit "NoTree" "NoWord" false, .exm "NoTree" "NoWord" false, .kit "NoTree" "TooMany" false, .exm "NoTree" "TooMany" false, .kit "NoTree" "Twice" false, .exm "NoTree" "Twice" false, .kit "NoTree" "WoodError" true, .exm "NoTree" "WoodError" true, .excC "NoWord", .kitT "NoWord" "ValueError" true, .kit "NoWord" "NoBit" false, .exm "NoWord" "NoBit" false, .kit "NoWord" "NoNode" false, .exm "NoWord" "NoNode" false, .kit "NoWord" "NoOctets" false, .exm "NoWord" "NoOctets" false, .kit "NoWord" "NoPlace" false, .exm "NoWord" "NoPlace" false, .kit "NoWord" "NoSign" false, .exm "NoWord" "NoSign" false, .kit "NoWord" "NoTree" false, .exm "NoWord" "NoTree" false, .kit "NoWord" "NoWord" true, .exm "NoWord" "NoWord" true, .kit "NoWord" "TooMany" false, .exm "NoWord" "TooMany" false, .kit "NoWord" "Twice" false, .exm "NoWord" "Twice" false, .kit "NoWord" "WoodError" true, .exm "NoWord" "WoodError" true, .excC "TooMany", .kitT "TooMany" "ValueError" true, .kit "TooMany" "NoBit" false, .exm "TooMany" "NoBit" false, .kit "TooMany" "NoNode" false, .exm "TooMany" "NoNode" false, .kit "TooMany" "NoOctets" false, .exm "TooMany" "NoOctets" false, .kit "TooMany" "NoPlace" false, .exm "TooMany" "NoPlace" false, .kit "TooMany" "NoSign" false, .exm "TooMany" "NoSign" false, .kit "TooMany" "NoTree" false, .exm "TooMany" "NoTree" false, .kit "TooMany" "NoWord" false, .exm "TooMany" "NoWord" false, .kit "TooMany" "TooMany" true, .exm "TooMany" "TooMany" true, .kit "TooMany" "Twice" false, .exm "TooMany" "Twice" false, .kit "TooMany" "WoodError" true, .exm "TooMany" "WoodError" true, .excC "Twice", .kitT "Twice" "ValueError" true, .kit "Twice" "NoBit" false, .exm "Twice" "NoBit" false, .kit "Twice" "NoNode" false, .exm "Twice" "NoNode" false, .kit "Twice" "NoOctets" false, .exm "Twice" "NoOctets" false, .kit "Twice" "NoPlace" false, .exm "Twice" "NoPlace" false, .kit "Twice" "NoSign" false, .exm "Twice" "NoSign" false, .kit "Twice" "NoTree" false, .exm "Twice" "NoTree" false, .kit "Twice" "NoWord" false, .exm "Twice" "NoWord" false, .kit "Twice" "TooMany" false, .exm "Twice" "TooMany" false, .kit "Twice" "Twice" true, .exm "Twice" "Twice" true, .kit "Twice" "WoodError" true, .exm "Twice" "WoodError" true, .excC "WoodError", .kitT "WoodError" "ValueError" true, .kit "WoodError" "NoBit" false, .exm "WoodError" "NoBit" false, .kit "WoodError" "NoNode" false, .exm "WoodError" "NoNode" false, .kit "WoodError" "NoOctets" false, .exm "WoodError" "NoOctets" false, .kit "WoodError" "NoPlace" false, .exm "WoodError" "NoPlace" false, .kit "WoodError" "NoSign" false, .exm "WoodError" "NoSign" false, .kit "WoodError" "NoTree" false, .exm "WoodError" "NoTree" false, .kit "WoodError" "NoWord" false, .exm "WoodError" "NoWord" false, .kit "WoodError" "TooMany" false, .exm "WoodError" "TooMany" false, .kit "WoodError" "Twice" false, .exm "WoodError" "Twice" false, .kit "WoodError" "WoodError" true, .exm "WoodError" "WoodError" true]
def faL : List He.Fa := [.glo "packed", .glo "ones_in", .glo "low_in", .glo "first_low_in", .glo "last_low_in", .glo "size_of", .glo "lesser_of", .glo "heap_of", .glo "cover", .glo "least_of", .glo "within_goal", .glo "first_at_most", .glo "last_at_most", .glo "ones_table", .glo "kept_row", .glo "bit_at", .glo "ones_at", .glo "is_tree", .glo "begin_height", .glo "kept_brackets", .glo "node_look", .glo "check_place", .glo "height", .glo "low_part", .glo "lowest", .glo "first_part", .glo "last_part", .glo "low_behind", .glo "low_ahead", .glo "closing", .glo "opening", .glo "further_out", .glo "_law_cell_at", .glo "_law_tree_bits", .glo "_law_look_of", .glo "_law_told", .glo "_law_kinds", .glo "_law_refused", .glo "_law_not_kept", .glo "_law_places_refused", .glo "_law_rows_refused", .glo "_law_greatest", .glo "law", .free "ValueError", .free "enumerate", .free "isinstance", .free "len", .free "list", .free "min", .free "range", .free "reversed", .free "sum", .free "tuple", .int "MOST" 4096, .int "WIDE" 32, .exc "NoBit", .exc "NoNode", .exc "NoOctets", .exc "NoPlace", .exc "NoSign", .exc "NoTree", .exc "NoWord", .exc "TooMany", .exc "Twice", .exc "WoodError", .glo "NoBit", .glo "NoNode", .glo "NoOctets", .glo "NoPlace", .glo "NoSign", .glo "NoTree", .glo "NoWord", .glo "TooMany", .glo "Twice", .glo "WoodError"]
abbrev R : PySem.W.OpenRow := PySem.W.OpenLaw.row PySem.Challenge.rw_thinwood_k37_no_such_brackets
def tfL : List He.Defn := [("node_look", none), ("_law_look_of", none)]
def exB (K : PySem.W.Frag) : Bool := fxL.all fun f => f.ok K
abbrev hk : PySem.W.Hook := He.hookX 2 faL fnL [] tfL exB
def ob (s : PySem.W.SharedT) : He.AlX := He.obsX 2 faL fnL [] tfL exB (HandSHeadRun.getT s)
theorem ob_eq (s : PySem.W.SharedT) : ob s = hk.obs s.abs := He.obsX_eq (HandSHeadRun.getT_eq s)
def looseL : List PySem.Str := (["WoodError", "TooMany", "NoBit", "NoPlace", "NoNode", "NoTree", "NoSign", "NoWord", "Twice", "NoOctets", "WIDE", "MOST", "packed", "ones_in", "low_in", "first_low_in", "last_low_in", "size_of", "lesser_of", "heap_of", "cover", "least_of", "within_goal", "first_at_most", "last_at_most", "ones_table", "kept_row", "bit_at", "ones_at", "is_tree"] : List PySem.Str) ++ (["begin_height", "kept_brackets", "node_look", "check_place", "height", "low_part", "lowest", "first_part", "last_part", "low_behind", "low_ahead", "closing", "opening", "further_out", "_law_cell_at", "_law_tree_bits", "_law_look_of", "_law_told", "_law_kinds", "_law_refused", "_law_not_kept", "_law_places_refused", "_law_rows_refused", "_law_greatest"] : List PySem.Str)
theorem run (w : World) : HandSHeadRun.RunEq R (PySem.W.view R.prog [60]) hk ob 20000 looseL w := by
  intro os
  kernel_rfl
theorem tx_of {P : Program} {w : World} {K : PySem.W.Frag} {h : Heap} {mg : Str → Option Value} (X : K.In h) (G : h.Ns mainGlobals mg) (c : He.SaysD faL fnL K) (cx : exB K = true) (base : Heap) (TB : ∀ p ∈ tfL.map (He.cT K), LamX.TabB base mg p.1 p.2) : Tx P w K mg base :=
  {
  d_packed := c.def_ 0 (d := dd_packed) rfl
  g_packed := He.glo_ok X G (c.fact 0 (f := .glo "packed") rfl)
  d_ones_in := c.def_ 1 (d := dd_ones_in) rfl
  g_ones_in := He.glo_ok X G (c.fact 1 (f := .glo "ones_in") rfl)
  d_low_in := c.def_ 2 (d := dd_low_in) rfl
  g_low_in := He.glo_ok X G (c.fact 2 (f := .glo "low_in") rfl)
  d_first_low_in := c.def_ 3 (d := dd_first_low_in) rfl
  g_first_low_in := He.glo_ok X G (c.fact 3 (f := .glo "first_low_in") rfl)
  d_last_low_in := c.def_ 4 (d := dd_last_low_in) rfl
  g_last_low_in := He.glo_ok X G (c.fact 4 (f := .glo "last_low_in") rfl)
  d_size_of := c.def_ 5 (d := dd_size_of) rfl
  g_size_of := He.glo_ok X G (c.fact 5 (f := .glo "size_of") rfl)
  d_lesser_of := c.def_ 6 (d := dd_lesser_of) rfl
  g_lesser_of := He.glo_ok X G (c.fact 6 (f := .glo "lesser_of") rfl)
  d_heap_of := c.def_ 7 (d := dd_heap_of) rfl
  g_heap_of := He.glo_ok X G (c.fact 7 (f := .glo "heap_of") rfl)
  d_cover := c.def_ 8 (d := dd_cover) rfl
  g_cover := He.glo_ok X G (c.fact 8 (f := .glo "cover") rfl)
  d_least_of := c.def_ 9 (d := dd_least_of) rfl
  g_least_of := He.glo_ok X G (c.fact 9 (f := .glo "least_of") rfl)
  d_within_goal := c.def_ 10 (d := dd_within_goal) rfl
  g_within_goal := He.glo_ok X G (c.fact 10 (f := .glo "within_goal") rfl)
  d_first_at_most := c.def_ 11 (d := dd_first_at_most) rfl
  g_first_at_most := He.glo_ok X G (c.fact 11 (f := .glo "first_at_most") rfl)
  d_last_at_most := c.def_ 12 (d := dd_last_at_most) rfl
  g_last_at_most := He.glo_ok X G (c.fact 12 (f := .glo "last_at_most") rfl)
  d_ones_table := c.def_ 13 (d := dd_ones_table) rfl
  g_ones_table := He.glo_ok X G (c.fact 13 (f := .glo "ones_table") rfl)
  d_kept_row := c.def_ 14 (d := dd_kept_row) rfl
  g_kept_row := He.glo_ok X G (c.fact 14 (f := .glo "kept_row") rfl)
  d_bit_at := c.def_ 15 (d := dd_bit_at) rfl
  g_bit_at := He.glo_ok X G (c.fact 15 (f := .glo "bit_at") rfl)
  d_ones_at := c.def_ 16 (d := dd_ones_at) rfl
  g_ones_at := He.glo_ok X G (c.fact 16 (f := .glo "ones_at") rfl)
  d_is_tree := c.def_ 17 (d := dd_is_tree) rfl
  g_is_tree := He.glo_ok X G (c.fact 17 (f := .glo "is_tree") rfl)
  d_begin_height := c.def_ 18 (d := dd_begin_height) rfl
  g_begin_height := He.glo_ok X G (c.fact 18 (f := .glo "begin_height") rfl)
  d_kept_brackets := c.def_ 19 (d := dd_kept_brackets) rfl
  g_kept_brackets := He.glo_ok X G (c.fact 19 (f := .glo "kept_brackets") rfl)
  d_node_look := c.def_ 20 (d := dd_node_look) rfl
  g_node_look := He.glo_ok X G (c.fact 20 (f := .glo "node_look") rfl)
  d_check_place := c.def_ 21 (d := dd_check_place) rfl
  g_check_place := He.glo_ok X G (c.fact 21 (f := .glo "check_place") rfl)
  d_height := c.def_ 22 (d := dd_height) rfl
  g_height := He.glo_ok X G (c.fact 22 (f := .glo "height") rfl)
  d_low_part := c.def_ 23 (d := dd_low_part) rfl
  g_low_part := He.glo_ok X G (c.fact 23 (f := .glo "low_part") rfl)
  d_lowest := c.def_ 24 (d := dd_lowest) rfl
  g_lowest := He.glo_ok X G (c.fact 24 (f := .glo "lowest") rfl)
  d_first_part := c.def_ 25 (d := dd_first_part) rfl
  g_first_part := He.glo_ok X G (c.fact 25 (f := .glo "first_part") rfl)
  d_last_part := c.def_ 26 (d := dd_last_part) rfl
  g_last_part := He.glo_ok X G (c.fact 26 (f := .glo "last_part") rfl)
  d_low_behind := c.def_ 27 (d := dd_low_behind) rfl
  g_low_behind := He.glo_ok X G (c.fact 27 (f := .glo "low_behind") rfl)
  d_low_ahead := c.def_ 28 (d := dd_low_ahead) rfl
  g_low_ahead := He.glo_ok X G (c.fact 28 (f := .glo "low_ahead") rfl)
  d_closing := c.def_ 29 (d := dd_closing) rfl
  g_closing := He.glo_ok X G (c.fact 29 (f := .glo "closing") rfl)
  d_opening := c.def_ 30 (d := dd_opening) rfl
  g_opening := He.glo_ok X G (c.fact 30 (f := .glo "opening") rfl)
  d_further_out := c.def_ 31 (d := dd_further_out) rfl
  g_further_out := He.glo_ok X G (c.fact 31 (f := .glo "further_out") rfl)
  d_law_cell_at := c.def_ 32 (d := dd_law_cell_at) rfl
  g_law_cell_at := He.glo_ok X G (c.fact 32 (f := .glo "_law_cell_at") rfl)
  d_law_tree_bits := c.def_ 33 (d := dd_law_tree_bits) rfl
  g_law_tree_bits := He.glo_ok X G (c.fact 33 (f := .glo "_law_tree_bits") rfl)
  d_law_look_of := c.def_ 34 (d := dd_law_look_of) rfl
  g_law_look_of := He.glo_ok X G (c.fact 34 (f := .glo "_law_look_of") rfl)
  d_law_told := c.def_ 35 (d := dd_law_told) rfl
  g_law_told := He.glo_ok X G (c.fact 35 (f := .glo "_law_told") rfl)
  d_law_kinds := c.def_ 36 (d := dd_law_kinds) rfl
  g_law_kinds := He.glo_ok X G (c.fact 36 (f := .glo "_law_kinds") rfl)
  d_law_refused := c.def_ 37 (d := dd_law_refused) rfl
  g_law_refused := He.glo_ok X G (c.fact 37 (f := .glo "_law_refused") rfl)
  d_law_not_kept := c.def_ 38 (d := dd_law_not_kept) rfl
  g_law_not_kept := He.glo_ok X G (c.fact 38 (f := .glo "_law_not_kept") rfl)
  d_law_places_refused := c.def_ 39 (d := dd_law_places_refused) rfl
  g_law_places_refused := He.glo_ok X G (c.fact 39 (f := .glo "_law_places_refused") rfl)
  d_law_rows_refused := c.def_ 40 (d := dd_law_rows_refused) rfl
  g_law_rows_refused := He.glo_ok X G (c.fact 40 (f := .glo "_law_rows_refused") rfl)
  d_law_greatest := c.def_ 41 (d := dd_law_greatest) rfl
  g_law_greatest := He.glo_ok X G (c.fact 41 (f := .glo "_law_greatest") rfl)
  d_law := c.def_ 42 (d := dd_law) rfl
  g_law := He.glo_ok X G (c.fact 42 (f := .glo "law") rfl)
  b_ValueError := He.free_ok X G (c.fact 43 (f := .free "ValueError") rfl)
  b_enumerate := He.free_ok X G (c.fact 44 (f := .free "enumerate") rfl)
  b_isinstance := He.free_ok X G (c.fact 45 (f := .free "isinstance") rfl)
  b_len := He.free_ok X G (c.fact 46 (f := .free "len") rfl)
  b_list := He.free_ok X G (c.fact 47 (f := .free "list") rfl)
  b_min := He.free_ok X G (c.fact 48 (f := .free "min") rfl)
  b_range := He.free_ok X G (c.fact 49 (f := .free "range") rfl)
  b_reversed := He.free_ok X G (c.fact 50 (f := .free "reversed") rfl)
  b_sum := He.free_ok X G (c.fact 51 (f := .free "sum") rfl)
  b_tuple := He.free_ok X G (c.fact 52 (f := .free "tuple") rfl)
  i_MOST := He.int_ok X G (c.fact 53 (f := .int "MOST" 4096) rfl)
  i_WIDE := He.int_ok X G (c.fact 54 (f := .int "WIDE" 32) rfl)
  x_NoBit := (fun q => ⟨He.glo_ok X G (c.fact 65 (f := .glo "NoBit") rfl), q.1, q.2.1, q.2.2.1, q.2.2.2⟩) (He.exc_ok (c.fact 55 (f := .exc "NoBit") rfl))
  g_NoBit := He.glo_ok X G (c.fact 65 (f := .glo "NoBit") rfl)
  x_NoNode := (fun q => ⟨He.glo_ok X G (c.fact 66 (f := .glo "NoNode") rfl), q.1, q.2.1, q.2.2.1, q.2.2.2⟩) (He.exc_ok (c.fact 56 (f := .exc "NoNode") rfl))
  g_NoNode := He.glo_ok X G (c.fact 66 (f := .glo "NoNode") rfl)
  x_NoOctets := (fun q => ⟨He.glo_ok X G (c.fact 67 (f := .glo "NoOctets") rfl), q.1, q.2.1, q.2.2.1, q.2.2.2⟩) (He.exc_ok (c.fact 57 (f := .exc "NoOctets") rfl))
  g_NoOctets := He.glo_ok X G (c.fact 67 (f := .glo "NoOctets") rfl)
  x_NoPlace := (fun q => ⟨He.glo_ok X G (c.fact 68 (f := .glo "NoPlace") rfl), q.1, q.2.1, q.2.2.1, q.2.2.2⟩) (He.exc_ok (c.fact 58 (f := .exc "NoPlace") rfl))
  g_NoPlace := He.glo_ok X G (c.fact 68 (f := .glo "NoPlace") rfl)
  x_NoSign := (fun q => ⟨He.glo_ok X G (c.fact 69 (f := .glo "NoSign") rfl), q.1, q.2.1, q.2.2.1, q.2.2.2⟩) (He.exc_ok (c.fact 59 (f := .exc "NoSign") rfl))
  g_NoSign := He.glo_ok X G (c.fact 69 (f := .glo "NoSign") rfl)
  x_NoTree := (fun q => ⟨He.glo_ok X G (c.fact 70 (f := .glo "NoTree") rfl), q.1, q.2.1, q.2.2.1, q.2.2.2⟩) (He.exc_ok (c.fact 60 (f := .exc "NoTree") rfl))
  g_NoTree := He.glo_ok X G (c.fact 70 (f := .glo "NoTree") rfl)
  x_NoWord := (fun q => ⟨He.glo_ok X G (c.fact 71 (f := .glo "NoWord") rfl), q.1, q.2.1, q.2.2.1, q.2.2.2⟩) (He.exc_ok (c.fact 61 (f := .exc "NoWord") rfl))
  g_NoWord := He.glo_ok X G (c.fact 71 (f := .glo "NoWord") rfl)
  x_TooMany := (fun q => ⟨He.glo_ok X G (c.fact 72 (f := .glo "TooMany") rfl), q.1, q.2.1, q.2.2.1, q.2.2.2⟩) (He.exc_ok (c.fact 62 (f := .exc "TooMany") rfl))
  g_TooMany := He.glo_ok X G (c.fact 72 (f := .glo "TooMany") rfl)
  x_Twice := (fun q => ⟨He.glo_ok X G (c.fact 73 (f := .glo "Twice") rfl), q.1, q.2.1, q.2.2.1, q.2.2.2⟩) (He.exc_ok (c.fact 63 (f := .exc "Twice") rfl))
  g_Twice := He.glo_ok X G (c.fact 73 (f := .glo "Twice") rfl)
  x_WoodError := (fun q => ⟨He.glo_ok X G (c.fact 74 (f := .glo "WoodError") rfl), q.1, q.2.1, q.2.2.1, q.2.2.2⟩) (He.exc_ok (c.fact 64 (f := .exc "WoodError") rfl))
  g_WoodError := He.glo_ok X G (c.fact 74 (f := .glo "WoodError") rfl)
  fx := {
    ec_NoBit := Fx.excC_ok (List.all_eq_true.mp cx (.excC "NoBit") (List.mem_of_getElem? (i := 0) rfl))
    kt_NoBit := Fx.kitT_ok (List.all_eq_true.mp cx (.kitT "NoBit" "ValueError" true) (List.mem_of_getElem? (i := 1) rfl))
    k_NoBit_NoBit := Fx.kit_ok (List.all_eq_true.mp cx (.kit "NoBit" "NoBit" true) (List.mem_of_getElem? (i := 2) rfl))
    e_NoBit_NoBit := Fx.exm_ok (List.all_eq_true.mp cx (.exm "NoBit" "NoBit" true) (List.mem_of_getElem? (i := 3) rfl))
    k_NoBit_NoNode := Fx.kit_ok (List.all_eq_true.mp cx (.kit "NoBit" "NoNode" false) (List.mem_of_getElem? (i := 4) rfl))
    e_NoBit_NoNode := Fx.exm_ok (List.all_eq_true.mp cx (.exm "NoBit" "NoNode" false) (List.mem_of_getElem? (i := 5) rfl))
    k_NoBit_NoOctets := Fx.kit_ok (List.all_eq_true.mp cx (.kit "NoBit" "NoOctets" false) (List.mem_of_getElem? (i := 6) rfl))
    e_NoBit_NoOctets := Fx.exm_ok (List.all_eq_true.mp cx (.exm "NoBit" "NoOctets" false) (List.mem_of_getElem? (i := 7) rfl))
    k_NoBit_NoPlace := Fx.kit_ok (List.all_eq_true.mp cx (.kit "NoBit" "NoPlace" false) (List.mem_of_getElem? (i := 8) rfl))
    e_NoBit_NoPlace := Fx.exm_ok (List.all_eq_true.mp cx (.exm "NoBit" "NoPlace" false) (List.mem_of_getElem? (i := 9) rfl))
    k_NoBit_NoSign := Fx.kit_ok (List.all_eq_true.mp cx (.kit "NoBit" "NoSign" false) (List.mem_of_getElem? (i := 10) rfl))
    e_NoBit_NoSign := Fx.exm_ok (List.all_eq_true.mp cx (.exm "NoBit" "NoSign" false) (List.mem_of_getElem? (i := 11) rfl))
    k_NoBit_NoTree := Fx.kit_ok (List.all_eq_true.mp cx (.kit "NoBit" "NoTree" false) (List.mem_of_getElem? (i := 12) rfl))
    e_NoBit_NoTree := Fx.exm_ok (List.all_eq_true.mp cx (.exm "NoBit" "NoTree" false) (List.mem_of_getElem? (i := 13) rfl))
    k_NoBit_NoWord := Fx.kit_ok (List.all_eq_true.mp cx (.kit "NoBit" "NoWord" false) (List.mem_of_getElem? (i := 14) rfl))
    e_NoBit_NoWord := Fx.exm_ok (List.all_eq_true.mp cx (.exm "NoBit" "NoWord" false) (List.mem_of_getElem? (i := 15) rfl))
    k_NoBit_TooMany := Fx.kit_ok (List.all_eq_true.mp cx (.kit "NoBit" "TooMany" false) (List.mem_of_getElem? (i := 16) rfl))
    e_NoBit_TooMany := Fx.exm_ok (List.all_eq_true.mp cx (.exm "NoBit" "TooMany" false) (List.mem_of_getElem? (i := 17) rfl))
    k_NoBit_Twice := Fx.kit_ok (List.all_eq_true.mp cx (.kit "NoBit" "Twice" false) (List.mem_of_getElem? (i := 18) rfl))
    e_NoBit_Twice := Fx.exm_ok (List.all_eq_true.mp cx (.exm "NoBit" "Twice" false) (List.mem_of_getElem? (i := 19) rfl))
    k_NoBit_WoodError := Fx.kit_ok (List.all_eq_true.mp cx (.kit "NoBit" "WoodError" true) (List.mem_of_getElem? (i := 20) rfl))
    e_NoBit_WoodError := Fx.exm_ok (List.all_eq_true.mp cx (.exm "NoBit" "WoodError" true) (List.mem_of_getElem? (i := 21) rfl))
    ec_NoNode := Fx.excC_ok (List.all_eq_true.mp cx (.excC "NoNode") (List.mem_of_getElem? (i := 22) rfl))
    kt_NoNode := Fx.kitT_ok (List.all_eq_true.mp cx (.kitT "NoNode" "ValueError" true) (List.mem_of_getElem? (i := 23) rfl))
    k_NoNode_NoBit := Fx.kit_ok (List.all_eq_true.mp cx (.kit "NoNode" "NoBit" false) (List.mem_of_getElem? (i := 24) rfl))
    e_NoNode_NoBit := Fx.exm_ok (List.all_eq_true.mp cx (.exm "NoNode" "NoBit" false) (List.mem_of_getElem? (i := 25) rfl))
    k_NoNode_NoNode := Fx.kit_ok (List.all_eq_true.mp cx (.kit "NoNode" "NoNode" true) (List.mem_of_getElem? (i := 26) rfl))
    e_NoNode_NoNode := Fx.exm_ok (List.all_eq_true.mp cx (.exm "NoNode" "NoNode" true) (List.mem_of_getElem? (i := 27) rfl))
    k_NoNode_NoOctets := Fx.kit_ok (List.all_eq_true.mp cx (.kit "NoNode" "NoOctets" false) (List.mem_of_getElem? (i := 28) rfl))
    e_NoNode_NoOctets := Fx.exm_ok (List.all_eq_true.mp cx (.exm "NoNode" "NoOctets" false) (List.mem_of_getElem? (i := 29) rfl))
    k_NoNode_NoPlace := Fx.kit_ok (List.all_eq_true.mp cx (.kit "NoNode" "NoPlace" false) (List.mem_of_getElem? (i := 30) rfl))
    e_NoNode_NoPlace := Fx.exm_ok (List.all_eq_true.mp cx (.exm "NoNode" "NoPlace" false) (List.mem_of_getElem? (i := 31) rfl))
    k_NoNode_NoSign := Fx.kit_ok (List.all_eq_true.mp cx (.kit "NoNode" "NoSign" false) (List.mem_of_getElem? (i := 32) rfl))
    e_NoNode_NoSign := Fx.exm_ok (List.all_eq_true.mp cx (.exm "NoNode" "NoSign" false) (List.mem_of_getElem? (i := 33) rfl))
    k_NoNode_NoTree := Fx.kit_ok (List.all_eq_true.mp cx (.kit "NoNode" "NoTree" false) (List.mem_of_getElem? (i := 34) rfl))
    e_NoNode_NoTree := Fx.exm_ok (List.all_eq_true.mp cx (.exm "NoNode" "NoTree" false) (List.mem_of_getElem? (i := 35) rfl))
    k_NoNode_NoWord := Fx.kit_ok (List.all_eq_true.mp cx (.kit "NoNode" "NoWord" false) (List.mem_of_getElem? (i := 36) rfl))
    e_NoNode_NoWord := Fx.exm_ok (List.all_eq_true.mp cx (.exm "NoNode" "NoWord" false) (List.mem_of_getElem? (i := 37) rfl))
    k_NoNode_TooMany := Fx.kit_ok (List.all_eq_true.mp cx (.kit "NoNode" "TooMany" false) (List.mem_of_getElem? (i := 38) rfl))
    e_NoNode_TooMany := Fx.exm_ok (List.all_eq_true.mp cx (.exm "NoNode" "TooMany" false) (List.mem_of_getElem? (i := 39) rfl))
    k_NoNode_Twice := Fx.kit_ok (List.all_eq_true.mp cx (.kit "NoNode" "Twice" false) (List.mem_of_getElem? (i := 40) rfl))
    e_NoNode_Twice := Fx.exm_ok (List.all_eq_true.mp cx (.exm "NoNode" "Twice" false) (List.mem_of_getElem? (i := 41) rfl))
    k_NoNode_WoodError := Fx.kit_ok (List.all_eq_true.mp cx (.kit "NoNode" "WoodError" true) (List.mem_of_getElem? (i := 42) rfl))
    e_NoNode_WoodError := Fx.exm_ok (List.all_eq_true.mp cx (.exm "NoNode" "WoodError" true) (List.mem_of_getElem? (i := 43) rfl))
    ec_NoOctets := Fx.excC_ok (List.all_eq_true.mp cx (.excC "NoOctets") (List.mem_of_getElem? (i := 44) rfl))
    kt_NoOctets := Fx.kitT_ok (List.all_eq_true.mp cx (.kitT "NoOctets" "ValueError" true) (List.mem_of_getElem? (i := 45) rfl))
    k_NoOctets_NoBit := Fx.kit_ok (List.all_eq_true.mp cx (.kit "NoOctets" "NoBit" false) (List.mem_of_getElem? (i := 46) rfl))
    e_NoOctets_NoBit := Fx.exm_ok (List.all_eq_true.mp cx (.exm "NoOctets" "NoBit" false) (List.mem_of_getElem? (i := 47) rfl))
    k_NoOctets_NoNode := Fx.kit_ok (List.all_eq_true.mp cx (.kit "NoOctets" "NoNode" false) (List.mem_of_getElem? (i := 48) rfl))
    e_NoOctets_NoNode := Fx.exm_ok (List.all_eq_true.mp cx (.exm "NoOctets" "NoNode" false) (List.mem_of_getElem? (i := 49) rfl))
    k_NoOctets_NoOctets := Fx.kit_ok (List.all_eq_true.mp cx (.kit "NoOctets" "NoOctets" true) (List.mem_of_getElem? (i := 50) rfl))
    e_NoOctets_NoOctets := Fx.exm_ok (List.all_eq_true.mp cx (.exm "NoOctets" "NoOctets" true) (List.mem_of_getElem? (i := 51) rfl))
    k_NoOctets_NoPlace := Fx.kit_ok (List.all_eq_true.mp cx (.kit "NoOctets" "NoPlace" false) (List.mem_of_getElem? (i := 52) rfl))
    e_NoOctets_NoPlace := Fx.exm_ok (List.all_eq_true.mp cx (.exm "NoOctets" "NoPlace" false) (List.mem_of_getElem? (i := 53) rfl))
    k_NoOctets_NoSign := Fx.kit_ok (List.all_eq_true.mp cx (.kit "NoOctets" "NoSign" false) (List.mem_of_getElem? (i := 54) rfl))
    e_NoOctets_NoSign := Fx.exm_ok (List.all_eq_true.mp cx (.exm "NoOctets" "NoSign" false) (List.mem_of_getElem? (i := 55) rfl))
    k_NoOctets_NoTree := Fx.kit_ok (List.all_eq_true.mp cx (.kit "NoOctets" "NoTree" false) (List.mem_of_getElem? (i := 56) rfl))
    e_NoOctets_NoTree := Fx.exm_ok (List.all_eq_true.mp cx (.exm "NoOctets" "NoTree" false) (List.mem_of_getElem? (i := 57) rfl))
    k_NoOctets_NoWord := Fx.kit_ok (List.all_eq_true.mp cx (.kit "NoOctets" "NoWord" false) (List.mem_of_getElem? (i := 58) rfl))
    e_NoOctets_NoWord := Fx.exm_ok (List.all_eq_true.mp cx (.exm "NoOctets" "NoWord" false) (List.mem_of_getElem? (i := 59) rfl))
    k_NoOctets_TooMany := Fx.kit_ok (List.all_eq_true.mp cx (.kit "NoOctets" "TooMany" false) (List.mem_of_getElem? (i := 60) rfl))
    e_NoOctets_TooMany := Fx.exm_ok (List.all_eq_true.mp cx (.exm "NoOctets" "TooMany" false) (List.mem_of_getElem? (i := 61) rfl))
    k_NoOctets_Twice := Fx.kit_ok (List.all_eq_true.mp cx (.kit "NoOctets" "Twice" false) (List.mem_of_getElem? (i := 62) rfl))
    e_NoOctets_Twice := Fx.exm_ok (List.all_eq_true.mp cx (.exm "NoOctets" "Twice" false) (List.mem_of_getElem? (i := 63) rfl))
    k_NoOctets_WoodError := Fx.kit_ok (List.all_eq_true.mp cx (.kit "NoOctets" "WoodError" true) (List.mem_of_getElem? (i := 64) rfl))
    e_NoOctets_WoodError := Fx.exm_ok (List.all_eq_true.mp cx (.exm "NoOctets" "WoodError" true) (List.mem_of_getElem? (i := 65) rfl))
    ec_NoPlace := Fx.excC_ok (List.all_eq_true.mp cx (.excC "NoPlace") (List.mem_of_getElem? (i := 66) rfl))
    kt_NoPlace := Fx.kitT_ok (List.all_eq_true.mp cx (.kitT "NoPlace" "ValueError" true) (List.mem_of_getElem? (i := 67) rfl))
    k_NoPlace_NoBit := Fx.kit_ok (List.all_eq_true.mp cx (.kit "NoPlace" "NoBit" false) (List.mem_of_getElem? (i := 68) rfl))
    e_NoPlace_NoBit := Fx.exm_ok (List.all_eq_true.mp cx (.exm "NoPlace" "NoBit" false) (List.mem_of_getElem? (i := 69) rfl))
    k_NoPlace_NoNode := Fx.kit_ok (List.all_eq_true.mp cx (.kit "NoPlace" "NoNode" false) (List.mem_of_getElem? (i := 70) rfl))
    e_NoPlace_NoNode := Fx.exm_ok (List.all_eq_true.mp cx (.exm "NoPlace" "NoNode" false) (List.mem_of_getElem? (i := 71) rfl))
    k_NoPlace_NoOctets := Fx.kit_ok (List.all_eq_true.mp cx (.kit "NoPlace" "NoOctets" false) (List.mem_of_getElem? (i := 72) rfl))
    e_NoPlace_NoOctets := Fx.exm_ok (List.all_eq_true.mp cx (.exm "NoPlace" "NoOctets" false) (List.mem_of_getElem? (i := 73) rfl))
    k_NoPlace_NoPlace := Fx.kit_ok (List.all_eq_true.mp cx (.kit "NoPlace" "NoPlace" true) (List.mem_of_getElem? (i := 74) rfl))
    e_NoPlace_NoPlace := Fx.exm_ok (List.all_eq_true.mp cx (.exm "NoPlace" "NoPlace" true) (List.mem_of_getElem? (i := 75) rfl))
    k_NoPlace_NoSign := Fx.kit_ok (List.all_eq_true.mp cx (.kit "NoPlace" "NoSign" false) (List.mem_of_getElem? (i := 76) rfl))
    e_NoPlace_NoSign := Fx.exm_ok (List.all_eq_true.mp cx (.exm "NoPlace" "NoSign" false) (List.mem_of_getElem? (i := 77) rfl))
    k_NoPlace_NoTree := Fx.kit_ok (List.all_eq_true.mp cx (.kit "NoPlace" "NoTree" false) (List.mem_of_getElem? (i := 78) rfl))
    e_NoPlace_NoTree := Fx.exm_ok (List.all_eq_true.mp cx (.exm "NoPlace" "NoTree" false) (List.mem_of_getElem? (i := 79) rfl))
    k_NoPlace_NoWord := Fx.kit_ok (List.all_eq_true.mp cx (.kit "NoPlace" "NoWord" false) (List.mem_of_getElem? (i := 80) rfl))
    e_NoPlace_NoWord := Fx.exm_ok (List.all_eq_true.mp cx (.exm "NoPlace" "NoWord" false) (List.mem_of_getElem? (i := 81) rfl))
    k_NoPlace_TooMany := Fx.kit_ok (List.all_eq_true.mp cx (.kit "NoPlace" "TooMany" false) (List.mem_of_getElem? (i := 82) rfl))
    e_NoPlace_TooMany := Fx.exm_ok (List.all_eq_true.mp cx (.exm "NoPlace" "TooMany" false) (List.mem_of_getElem? (i := 83) rfl))
    k_NoPlace_Twice := Fx.kit_ok (List.all_eq_true.mp cx (.kit "NoPlace" "Twice" false) (List.mem_of_getElem? (i := 84) rfl))
    e_NoPlace_Twice := Fx.exm_ok (List.all_eq_true.mp cx (.exm "NoPlace" "Twice" false) (List.mem_of_getElem? (i := 85) rfl))
    k_NoPlace_WoodError := Fx.kit_ok (List.all_eq_true.mp cx (.kit "NoPlace" "WoodError" true) (List.mem_of_getElem? (i := 86) rfl))
    e_NoPlace_WoodError := Fx.exm_ok (List.all_eq_true.mp cx (.exm "NoPlace" "WoodError" true) (List.mem_of_getElem? (i := 87) rfl))
    ec_NoSign := Fx.excC_ok (List.all_eq_true.mp cx (.excC "NoSign") (List.mem_of_getElem? (i := 88) rfl))
    kt_NoSign := Fx.kitT_ok (List.all_eq_true.mp cx (.kitT "NoSign" "ValueError" true) (List.mem_of_getElem? (i := 89) rfl))
    k_NoSign_NoBit := Fx.kit_ok (List.all_eq_true.mp cx (.kit "NoSign" "NoBit" false) (List.mem_of_getElem? (i := 90) rfl))
    e_NoSign_NoBit := Fx.exm_ok (List.all_eq_true.mp cx (.exm "NoSign" "NoBit" false) (List.mem_of_getElem? (i := 91) rfl))
    k_NoSign_NoNode := Fx.kit_ok (List.all_eq_true.mp cx (.kit "NoSign" "NoNode" false) (List.mem_of_getElem? (i := 92) rfl))
    e_NoSign_NoNode := Fx.exm_ok (List.all_eq_true.mp cx (.exm "NoSign" "NoNode" false) (List.mem_of_getElem? (i := 93) rfl))
    k_NoSign_NoOctets := Fx.kit_ok (List.all_eq_true.mp cx (.kit "NoSign" "NoOctets" false) (List.mem_of_getElem? (i := 94) rfl))
    e_NoSign_NoOctets := Fx.exm_ok (List.all_eq_true.mp cx (.exm "NoSign" "NoOctets" false) (List.mem_of_getElem? (i := 95) rfl))
    k_NoSign_NoPlace := Fx.kit_ok (List.all_eq_true.mp cx (.kit "NoSign" "NoPlace" false) (List.mem_of_getElem? (i := 96) rfl))
    e_NoSign_NoPlace := Fx.exm_ok (List.all_eq_true.mp cx (.exm "NoSign" "NoPlace" false) (List.mem_of_getElem? (i := 97) rfl))
    k_NoSign_NoSign := Fx.kit_ok (List.all_eq_true.mp cx (.kit "NoSign" "NoSign" true) (List.mem_of_getElem? (i := 98) rfl))
    e_NoSign_NoSign := Fx.exm_ok (List.all_eq_true.mp cx (.exm "NoSign" "NoSign" true) (List.mem_of_getElem? (i := 99) rfl))
    k_NoSign_NoTree := Fx.kit_ok (List.all_eq_true.mp cx (.kit "NoSign" "NoTree" false) (List.mem_of_getElem? (i := 100) rfl))
    e_NoSign_NoTree := Fx.exm_ok (List.all_eq_true.mp cx (.exm "NoSign" "NoTree" false) (List.mem_of_getElem? (i := 101) rfl))
    k_NoSign_NoWord := Fx.kit_ok (List.all_eq_true.mp cx (.kit "NoSign" "NoWord" false) (List.mem_of_getElem? (i := 102) rfl))
    e_NoSign_NoWord := Fx.exm_ok (List.all_eq_true.mp cx (.exm "NoSign" "NoWord" false) (List.mem_of_getElem? (i := 103) rfl))
    k_NoSign_TooMany := Fx.kit_ok (List.all_eq_true.mp cx (.kit "NoSign" "TooMany" false) (List.mem_of_getElem? (i := 104) rfl))
    e_NoSign_TooMany := Fx.exm_ok (List.all_eq_true.mp cx (.exm "NoSign" "TooMany" false) (List.mem_of_getElem? (i := 105) rfl))
    k_NoSign_Twice := Fx.kit_ok (List.all_eq_true.mp cx (.kit "NoSign" "Twice" false) (List.mem_of_getElem? (i := 106) rfl))
    e_NoSign_Twice := Fx.exm_ok (List.all_eq_true.mp cx (.exm "NoSign" "Twice" false) (List.mem_of_getElem? (i := 107) rfl))
    k_NoSign_WoodError := Fx.kit_ok (List.all_eq_true.mp cx (.kit "NoSign" "WoodError" true) (List.mem_of_getElem? (i := 108) rfl))
    e_NoSign_WoodError := Fx.exm_ok (List.all_eq_true.mp cx (.exm "NoSign" "WoodError" true) (List.mem_of_getElem? (i := 109) rfl))
    ec_NoTree := Fx.excC_ok (List.all_eq_true.mp cx (.excC "NoTree") (List.mem_of_getElem? (i := 110) rfl))
    kt_NoTree := Fx.kitT_ok (List.all_eq_true.mp cx (.kitT "NoTree" "ValueError" true) (List.mem_of_getElem? (i := 111) rfl))
    k_NoTree_NoBit := Fx.kit_ok (List.all_eq_true.mp cx (.kit "NoTree" "NoBit" false) (List.mem_of_getElem? (i := 112) rfl))
    e_NoTree_NoBit := Fx.exm_ok (List.all_eq_true.mp cx (.exm "NoTree" "NoBit" false) (List.mem_of_getElem? (i := 113) rfl))
    k_NoTree_NoNode := Fx.kit_ok (List.all_eq_true.mp cx (.kit "NoTree" "NoNode" false) (List.mem_of_getElem? (i := 114) rfl))
    e_NoTree_NoNode := Fx.exm_ok (List.all_eq_true.mp cx (.exm "NoTree" "NoNode" false) (List.mem_of_getElem? (i := 115) rfl))
    k_NoTree_NoOctets := Fx.kit_ok (List.all_eq_true.mp cx (.kit "NoTree" "NoOctets" false) (List.mem_of_getElem? (i := 116) rfl))
    e_NoTree_NoOctets := Fx.exm_ok (List.all_eq_true.mp cx (.exm "NoTree" "NoOctets" false) (List.mem_of_getElem? (i := 117) rfl))
    k_NoTree_NoPlace := Fx.kit_ok (List.all_eq_true.mp cx (.kit "NoTree" "NoPlace" false) (List.mem_of_getElem? (i := 118) rfl))
    e_NoTree_NoPlace := Fx.exm_ok (List.all_eq_true.mp cx (.exm "NoTree" "NoPlace" false) (List.mem_of_getElem? (i := 119) rfl))
    k_NoTree_NoSign := Fx.kit_ok (List.all_eq_true.mp cx (.kit "NoTree" "NoSign" false) (List.mem_of_getElem? (i := 120) rfl))
    e_NoTree_NoSign := Fx.exm_ok (List.all_eq_true.mp cx (.exm "NoTree" "NoSign" false) (List.mem_of_getElem? (i := 121) rfl))
    k_NoTree_NoTree := Fx.kit_ok (List.all_eq_true.mp cx (.kit "NoTree" "NoTree" true) (List.mem_of_getElem? (i := 122) rfl))
    e_NoTree_NoTree := Fx.exm_ok (List.all_eq_true.mp cx (.exm "NoTree" "NoTree" true) (List.mem_of_getElem? (i := 123) rfl))
    k_NoTree_NoWord := Fx.kit_ok (List.all_eq_true.mp cx (.kit "NoTree" "NoWord" false) (List.mem_of_getElem? (i := 124) rfl))
    e_NoTree_NoWord := Fx.exm_ok (List.all_eq_true.mp cx (.exm "NoTree" "NoWord" false) (List.mem_of_getElem? (i := 125) rfl))
    k_NoTree_TooMany := Fx.kit_ok (List.all_eq_true.mp cx (.kit "NoTree" "TooMany" false) (List.mem_of_getElem? (i := 126) rfl))
    e_NoTree_TooMany := Fx.exm_ok (List.all_eq_true.mp cx (.exm "NoTree" "TooMany" false) (List.mem_of_getElem? (i := 127) rfl))
    k_NoTree_Twice := Fx.kit_ok (List.all_eq_true.mp cx (.kit "NoTree" "Twice" false) (List.mem_of_getElem? (i := 128) rfl))
    e_NoTree_Twice := Fx.exm_ok (List.all_eq_true.mp cx (.exm "NoTree" "Twice" false) (List.mem_of_getElem? (i := 129) rfl))
    k_NoTree_WoodError := Fx.kit_ok (List.all_eq_true.mp cx (.kit "NoTree" "WoodError" true) (List.mem_of_getElem? (i := 130) rfl))
    e_NoTree_WoodError := Fx.exm_ok (List.all_eq_true.mp cx (.exm "NoTree" "WoodError" true) (List.mem_of_getElem? (i := 131) rfl))
    ec_NoWord := Fx.excC_ok (List.all_eq_true.mp cx (.excC "NoWord") (List.mem_of_getElem? (i := 132) rfl))
    kt_NoWord := Fx.kitT_ok (List.all_eq_true.mp cx (.kitT "NoWord" "ValueError" true) (List.mem_of_getElem? (i := 133) rfl))
    k_NoWord_NoBit := Fx.kit_ok (List.all_eq_true.mp cx (.kit "NoWord" "NoBit" false) (List.mem_of_getElem? (i := 134) rfl))
    e_NoWord_NoBit := Fx.exm_ok (List.all_eq_true.mp cx (.exm "NoWord" "NoBit" false) (List.mem_of_getElem? (i := 135) rfl))
    k_NoWord_NoNode := Fx.kit_ok (List.all_eq_true.mp cx (.kit "NoWord" "NoNode" false) (List.mem_of_getElem? (i := 136) rfl))
    e_NoWord_NoNode := Fx.exm_ok (List.all_eq_true.mp cx (.exm "NoWord" "NoNode" false) (List.mem_of_getElem? (i := 137) rfl))
    k_NoWord_NoOctets := Fx.kit_ok (List.all_eq_true.mp cx (.kit "NoWord" "NoOctets" false) (List.mem_of_getElem? (i := 138) rfl))
    e_NoWord_NoOctets := Fx.exm_ok (List.all_eq_true.mp cx (.exm "NoWord" "NoOctets" false) (List.mem_of_getElem? (i := 139) rfl))
    k_NoWord_NoPlace := Fx.kit_ok (List.all_eq_true.mp cx (.kit "NoWord" "NoPlace" false) (List.mem_of_getElem? (i := 140) rfl))
    e_NoWord_NoPlace := Fx.exm_ok (List.all_eq_true.mp cx (.exm "NoWord" "NoPlace" false) (List.mem_of_getElem? (i := 141) rfl))
    k_NoWord_NoSign := Fx.kit_ok (List.all_eq_true.mp cx (.kit "NoWord" "NoSign" false) (List.mem_of_getElem? (i := 142) rfl))
    e_NoWord_NoSign := Fx.exm_ok (List.all_eq_true.mp cx (.exm "NoWord" "NoSign" false) (List.mem_of_getElem? (i := 143) rfl))
    k_NoWord_NoTree := Fx.kit_ok (List.all_eq_true.mp cx (.kit "NoWord" "NoTree" false) (List.mem_of_getElem? (i := 144) rfl))
    e_NoWord_NoTree := Fx.exm_ok (List.all_eq_true.mp cx (.exm "NoWord" "NoTree" false) (List.mem_of_getElem? (i := 145) rfl))
    k_NoWord_NoWord := Fx.kit_ok (List.all_eq_true.mp cx (.kit "NoWord" "NoWord" true) (List.mem_of_getElem? (i := 146) rfl))
    e_NoWord_NoWord := Fx.exm_ok (List.all_eq_true.mp cx (.exm "NoWord" "NoWord" true) (List.mem_of_getElem? (i := 147) rfl))
    k_NoWord_TooMany := Fx.kit_ok (List.all_eq_true.mp cx (.kit "NoWord" "TooMany" false) (List.mem_of_getElem? (i := 148) rfl))
    e_NoWord_TooMany := Fx.exm_ok (List.all_eq_true.mp cx (.exm "NoWord" "TooMany" false) (List.mem_of_getElem? (i := 149) rfl))
    k_NoWord_Twice := Fx.kit_ok (List.all_eq_true.mp cx (.kit "NoWord" "Twice" false) (List.mem_of_getElem? (i := 150) rfl))
    e_NoWord_Twice := Fx.exm_ok (List.all_eq_true.mp cx (.exm "NoWord" "Twice" false) (List.mem_of_getElem? (i := 151) rfl))
    k_NoWord_WoodError := Fx.kit_ok (List.all_eq_true.mp cx (.kit "NoWord" "WoodError" true) (List.mem_of_getElem? (i := 152) rfl))
    e_NoWord_WoodError := Fx.exm_ok (List.all_eq_true.mp cx (.exm "NoWord" "WoodError" true) (List.mem_of_getElem? (i := 153) rfl))
    ec_TooMany := Fx.excC_ok (List.all_eq_true.mp cx (.excC "TooMany") (List.mem_of_getElem? (i := 154) rfl))
    kt_TooMany := Fx.kitT_ok (List.all_eq_true.mp cx (.kitT "TooMany" "ValueError" true) (List.mem_of_getElem? (i := 155) rfl))
    k_TooMany_NoBit := Fx.kit_ok (List.all_eq_true.mp cx (.kit "TooMany" "NoBit" false) (List.mem_of_getElem? (i := 156) rfl))
    e_TooMany_NoBit := Fx.exm_ok (List.all_eq_true.mp cx (.exm "TooMany" "NoBit" false) (List.mem_of_getElem? (i := 157) rfl))
    k_TooMany_NoNode := Fx.kit_ok (List.all_eq_true.mp cx (.kit "TooMany" "NoNode" false) (List.mem_of_getElem? (i := 158) rfl))
    e_TooMany_NoNode := Fx.exm_ok (List.all_eq_true.mp cx (.exm "TooMany" "NoNode" false) (List.mem_of_getElem? (i := 159) rfl))
    k_TooMany_NoOctets := Fx.kit_ok (List.all_eq_true.mp cx (.kit "TooMany" "NoOctets" false) (List.mem_of_getElem? (i := 160) rfl))
    e_TooMany_NoOctets := Fx.exm_ok (List.all_eq_true.mp cx (.exm "TooMany" "NoOctets" false) (List.mem_of_getElem? (i := 161) rfl))
    k_TooMany_NoPlace := Fx.kit_ok (List.all_eq_true.mp cx (.kit "TooMany" "NoPlace" false) (List.mem_of_getElem? (i := 162) rfl))
    e_TooMany_NoPlace := Fx.exm_ok (List.all_eq_true.mp cx (.exm "TooMany" "NoPlace" false) (List.mem_of_getElem? (i := 163) rfl))
    k_TooMany_NoSign := Fx.kit_ok (List.all_eq_true.mp cx (.kit "TooMany" "NoSign" false) (List.mem_of_getElem? (i := 164) rfl))
    e_TooMany_NoSign := Fx.exm_ok (List.all_eq_true.mp cx (.exm "TooMany" "NoSign" false) (List.mem_of_getElem? (i := 165) rfl))
    k_TooMany_NoTree := Fx.kit_ok (List.all_eq_true.mp cx (.kit "TooMany" "NoTree" false) (List.mem_of_getElem? (i := 166) rfl))
    e_TooMany_NoTree := Fx.exm_ok (List.all_eq_true.mp cx (.exm "TooMany" "NoTree" false) (List.mem_of_getElem? (i := 167) rfl))
    k_TooMany_NoWord := Fx.kit_ok (List.all_eq_true.mp cx (.kit "TooMany" "NoWord" false) (List.mem_of_getElem? (i := 168) rfl))
    e_TooMany_NoWord := Fx.exm_ok (List.all_eq_true.mp cx (.exm "TooMany" "NoWord" false) (List.mem_of_getElem? (i := 169) rfl))
    k_TooMany_TooMany := Fx.kit_ok (List.all_eq_true.mp cx (.kit "TooMany" "TooMany" true) (List.mem_of_getElem? (i := 170) rfl))
    e_TooMany_TooMany := Fx.exm_ok (List.all_eq_true.mp cx (.exm "TooMany" "TooMany" true) (List.mem_of_getElem? (i := 171) rfl))
    k_TooMany_Twice := Fx.kit_ok (List.all_eq_true.mp cx (.kit "TooMany" "Twice" false) (List.mem_of_getElem? (i := 172) rfl))
    e_TooMany_Twice := Fx.exm_ok (List.all_eq_true.mp cx (.exm "TooMany" "Twice" false) (List.mem_of_getElem? (i := 173) rfl))
    k_TooMany_WoodError := Fx.kit_ok (List.all_eq_true.mp cx (.kit "TooMany" "WoodError" true) (List.mem_of_getElem? (i := 174) rfl))
    e_TooMany_WoodError := Fx.exm_ok (List.all_eq_true.mp cx (.exm "TooMany" "WoodError" true) (List.mem_of_getElem? (i := 175) rfl))
    ec_Twice := Fx.excC_ok (List.all_eq_true.mp cx (.excC "Twice") (List.mem_of_getElem? (i := 176) rfl))
    kt_Twice := Fx.kitT_ok (List.all_eq_true.mp cx (.kitT "Twice" "ValueError" true) (List.mem_of_getElem? (i := 177) rfl))
    k_Twice_NoBit := Fx.kit_ok (List.all_eq_true.mp cx (.kit "Twice" "NoBit" false) (List.mem_of_getElem? (i := 178) rfl))
    e_Twice_NoBit := Fx.exm_ok (List.all_eq_true.mp cx (.exm "Twice" "NoBit" false) (List.mem_of_getElem? (i := 179) rfl))
    k_Twice_NoNode := Fx.kit_ok (List.all_eq_true.mp cx (.kit "Twice" "NoNode" false) (List.mem_of_getElem? (i := 180) rfl))
    e_Twice_NoNode := Fx.exm_ok (List.all_eq_true.mp cx (.exm "Twice" "NoNode" false) (List.mem_of_getElem? (i := 181) rfl))
    k_Twice_NoOctets := Fx.kit_ok (List.all_eq_true.mp cx (.kit "Twice" "NoOctets" false) (List.mem_of_getElem? (i := 182) rfl))
    e_Twice_NoOctets := Fx.exm_ok (List.all_eq_true.mp cx (.exm "Twice" "NoOctets" false) (List.mem_of_getElem? (i := 183) rfl))
    k_Twice_NoPlace := Fx.kit_ok (List.all_eq_true.mp cx (.kit "Twice" "NoPlace" false) (List.mem_of_getElem? (i := 184) rfl))
    e_Twice_NoPlace := Fx.exm_ok (List.all_eq_true.mp cx (.exm "Twice" "NoPlace" false) (List.mem_of_getElem? (i := 185) rfl))
    k_Twice_NoSign := Fx.kit_ok (List.all_eq_true.mp cx (.kit "Twice" "NoSign" false) (List.mem_of_getElem? (i := 186) rfl))
    e_Twice_NoSign := Fx.exm_ok (List.all_eq_true.mp cx (.exm "Twice" "NoSign" false) (List.mem_of_getElem? (i := 187) rfl))
    k_Twice_NoTree := Fx.kit_ok (List.all_eq_true.mp cx (.kit "Twice" "NoTree" false) (List.mem_of_getElem? (i := 188) rfl))
    e_Twice_NoTree := Fx.exm_ok (List.all_eq_true.mp cx (.exm "Twice" "NoTree" false) (List.mem_of_getElem? (i := 189) rfl))
    k_Twice_NoWord := Fx.kit_ok (List.all_eq_true.mp cx (.kit "Twice" "NoWord" false) (List.mem_of_getElem? (i := 190) rfl))
    e_Twice_NoWord := Fx.exm_ok (List.all_eq_true.mp cx (.exm "Twice" "NoWord" false) (List.mem_of_getElem? (i := 191) rfl))
    k_Twice_TooMany := Fx.kit_ok (List.all_eq_true.mp cx (.kit "Twice" "TooMany" false) (List.mem_of_getElem? (i := 192) rfl))
    e_Twice_TooMany := Fx.exm_ok (List.all_eq_true.mp cx (.exm "Twice" "TooMany" false) (List.mem_of_getElem? (i := 193) rfl))
    k_Twice_Twice := Fx.kit_ok (List.all_eq_true.mp cx (.kit "Twice" "Twice" true) (List.mem_of_getElem? (i := 194) rfl))
    e_Twice_Twice := Fx.exm_ok (List.all_eq_true.mp cx (.exm "Twice" "Twice" true) (List.mem_of_getElem? (i := 195) rfl))
    k_Twice_WoodError := Fx.kit_ok (List.all_eq_true.mp cx (.kit "Twice" "WoodError" true) (List.mem_of_getElem? (i := 196) rfl))
    e_Twice_WoodError := Fx.exm_ok (List.all_eq_true.mp cx (.exm "Twice" "WoodError" true) (List.mem_of_getElem? (i := 197) rfl))
    ec_WoodError := Fx.excC_ok (List.all_eq_true.mp cx (.excC "WoodError") (List.mem_of_getElem? (i := 198) rfl))
    kt_WoodError := Fx.kitT_ok (List.all_eq_true.mp cx (.kitT "WoodError" "ValueError" true) (List.mem_of_getElem? (i := 199) rfl))
    k_WoodError_NoBit := Fx.kit_ok (List.all_eq_true.mp cx (.kit "WoodError" "NoBit" false) (List.mem_of_getElem? (i := 200) rfl))
    e_WoodError_NoBit := Fx.exm_ok (List.all_eq_true.mp cx (.exm "WoodError" "NoBit" false) (List.mem_of_getElem? (i := 201) rfl))
    k_WoodError_NoNode := Fx.kit_ok (List.all_eq_true.mp cx (.kit "WoodError" "NoNode" false) (List.mem_of_getElem? (i := 202) rfl))
    e_WoodError_NoNode := Fx.exm_ok (List.all_eq_true.mp cx (.exm "WoodError" "NoNode" false) (List.mem_of_getElem? (i := 203) rfl))
    k_WoodError_NoOctets := Fx.kit_ok (List.all_eq_true.mp cx (.kit "WoodError" "NoOctets" false) (List.mem_of_getElem? (i := 204) rfl))
    e_WoodError_NoOctets := Fx.exm_ok (List.all_eq_true.mp cx (.exm "WoodError" "NoOctets" false) (List.mem_of_getElem? (i := 205) rfl))
    k_WoodError_NoPlace := Fx.kit_ok (List.all_eq_true.mp cx (.kit "WoodError" "NoPlace" false) (List.mem_of_getElem? (i := 206) rfl))
    e_WoodError_NoPlace := Fx.exm_ok (List.all_eq_true.mp cx (.exm "WoodError" "NoPlace" false) (List.mem_of_getElem? (i := 207) rfl))
    k_WoodError_NoSign := Fx.kit_ok (List.all_eq_true.mp cx (.kit "WoodError" "NoSign" false) (List.mem_of_getElem? (i := 208) rfl))
    e_WoodError_NoSign := Fx.exm_ok (List.all_eq_true.mp cx (.exm "WoodError" "NoSign" false) (List.mem_of_getElem? (i := 209) rfl))
    k_WoodError_NoTree := Fx.kit_ok (List.all_eq_true.mp cx (.kit "WoodError" "NoTree" false) (List.mem_of_getElem? (i := 210) rfl))
    e_WoodError_NoTree := Fx.exm_ok (List.all_eq_true.mp cx (.exm "WoodError" "NoTree" false) (List.mem_of_getElem? (i := 211) rfl))
    k_WoodError_NoWord := Fx.kit_ok (List.all_eq_true.mp cx (.kit "WoodError" "NoWord" false) (List.mem_of_getElem? (i := 212) rfl))
    e_WoodError_NoWord := Fx.exm_ok (List.all_eq_true.mp cx (.exm "WoodError" "NoWord" false) (List.mem_of_getElem? (i := 213) rfl))
    k_WoodError_TooMany := Fx.kit_ok (List.all_eq_true.mp cx (.kit "WoodError" "TooMany" false) (List.mem_of_getElem? (i := 214) rfl))
    e_WoodError_TooMany := Fx.exm_ok (List.all_eq_true.mp cx (.exm "WoodError" "TooMany" false) (List.mem_of_getElem? (i := 215) rfl))
    k_WoodError_Twice := Fx.kit_ok (List.all_eq_true.mp cx (.kit "WoodError" "Twice" false) (List.mem_of_getElem? (i := 216) rfl))
    e_WoodError_Twice := Fx.exm_ok (List.all_eq_true.mp cx (.exm "WoodError" "Twice" false) (List.mem_of_getElem? (i := 217) rfl))
    k_WoodError_WoodError := Fx.kit_ok (List.all_eq_true.mp cx (.kit "WoodError" "WoodError" true) (List.mem_of_getElem? (i := 218) rfl))
    e_WoodError_WoodError := Fx.exm_ok (List.all_eq_true.mp cx (.exm "WoodError" "WoodError" true) (List.mem_of_getElem? (i := 219) rfl))
  }
  tb_node_look := TB _ (List.mem_map_of_mem (f := He.cT K) (by decide : ((("node_look", none) : He.Defn) ∈ tfL)))
  tb_law_look_of := TB _ (List.mem_map_of_mem (f := He.cT K) (by decide : ((("_law_look_of", none) : He.Defn) ∈ tfL)))
  }
theorem facts {P : Program} {w : World} {K : PySem.W.Frag} {h : Heap} {mg : Str → Option Value} (X : K.In h) (G : h.Ns mainGlobals mg) (c : He.SaysD faL fnL K) (cx : exB K = true) (base : Heap) (TB : ∀ p ∈ tfL.map (He.cT K), LamX.TabB base mg p.1 p.2) :
    Okf P w K mg base CX0 20 "law" ["_law_script"] (sp_law K) := by
  have T : Tx P w K mg base := tx_of X G c cx base TB
  have o_packed := ok_packed (P := P) (w := w) T 
  have o_ones_in := ok_ones_in (P := P) (w := w) T 
  have o_low_in := ok_low_in (P := P) (w := w) T 
  have o_first_low_in := ok_first_low_in (P := P) (w := w) T o_ones_in
  have o_last_low_in := ok_last_low_in (P := P) (w := w) T o_ones_in
  have o_size_of := ok_size_of (P := P) (w := w) T 
  have o_lesser_of := ok_lesser_of (P := P) (w := w) T 
  have o_heap_of := ok_heap_of (P := P) (w := w) T o_size_of o_lesser_of
  have o_cover := ok_cover (P := P) (w := w) T o_size_of
  have o_least_of := ok_least_of (P := P) (w := w) T o_cover o_lesser_of
  have o_within_goal := ok_within_goal (P := P) (w := w) T 
  have o_first_at_most := ok_first_at_most (P := P) (w := w) T o_size_of o_cover o_within_goal
  have o_last_at_most := ok_last_at_most (P := P) (w := w) T o_size_of o_cover o_within_goal
  have o_ones_table := ok_ones_table (P := P) (w := w) T o_ones_in
  have o_kept_row := ok_kept_row (P := P) (w := w) T o_packed o_ones_table
  have o_bit_at := ok_bit_at (P := P) (w := w) T 
  have o_ones_at := ok_ones_at (P := P) (w := w) T o_ones_in
  have o_is_tree := ok_is_tree (P := P) (w := w) T 
  have o_begin_height := ok_begin_height (P := P) (w := w) T 
  have o_kept_brackets := ok_kept_brackets (P := P) (w := w) T o_kept_row o_is_tree o_begin_height o_low_in o_heap_of
  have o_node_look := ok_node_look (P := P) (w := w) T 
  have o_check_place := ok_check_place (P := P) (w := w) T 
  have o_height := ok_height (P := P) (w := w) T o_ones_at
  have o_low_part := ok_low_part (P := P) (w := w) T o_begin_height o_ones_in o_low_in
  have o_lowest := ok_lowest (P := P) (w := w) T o_check_place o_low_part o_least_of o_node_look
  have o_first_part := ok_first_part (P := P) (w := w) T o_first_low_in o_begin_height
  have o_last_part := ok_last_part (P := P) (w := w) T o_last_low_in o_begin_height
  have o_low_behind := ok_low_behind (P := P) (w := w) T o_check_place o_first_part o_first_at_most o_node_look
  have o_low_ahead := ok_low_ahead (P := P) (w := w) T o_check_place o_last_part o_last_at_most o_node_look
  have o_closing := ok_closing (P := P) (w := w) T o_bit_at o_low_behind o_height
  have o_opening := ok_opening (P := P) (w := w) T o_bit_at o_low_ahead o_height
  have o_further_out := ok_further_out (P := P) (w := w) T o_bit_at o_low_ahead o_height
  have o_law_cell_at := ok_law_cell_at (P := P) (w := w) T 
  have o_law_tree_bits := ok_law_tree_bits (P := P) (w := w) T 
  have o_law_look_of := ok_law_look_of (P := P) (w := w) T 
  have o_law_told := ok_law_told (P := P) (w := w) T o_height o_low_behind o_low_ahead o_lowest o_closing o_opening o_further_out
  have o_law_kinds := ok_law_kinds (P := P) (w := w) T 
  have o_law_refused := ok_law_refused (P := P) (w := w) T o_law_told o_law_kinds
  have o_law_not_kept := ok_law_not_kept (P := P) (w := w) T o_kept_brackets o_law_kinds
  have o_law_places_refused := ok_law_places_refused (P := P) (w := w) T o_law_refused
  have o_law_rows_refused := ok_law_rows_refused (P := P) (w := w) T o_law_cell_at o_law_not_kept
  have o_law_greatest := ok_law_greatest (P := P) (w := w) T o_kept_brackets o_law_look_of o_closing o_opening o_height o_law_not_kept
  have o_law := ok_law (P := P) (w := w) T o_law_tree_bits o_law_rows_refused o_law_cell_at o_law_greatest o_kept_brackets o_law_look_of o_law_places_refused o_law_refused o_law_told o_closing o_opening o_further_out o_height
  exact o_law
theorem binds_law {K : PySem.W.Frag} (c : He.SaysD faL fnL K) : ∃ fd : FuncData, FunD K "law" "law" (defArgs s_law) (defBody s_law) (defScope s_law) [] [] (He.ga K "law") fd := c.def_ 42 (d := dd_law) rfl
theorem tab_sp {K : PySem.W.Frag} {H : Hp} (h : ∀ p ∈ tfL.map (He.cT K), H p.2 = some (.tbl #[])) : ∀ x ∈ tabL, NdefX.TabN H (tabP K x) nmL := fun x hx =>
  NdefX.TabN.nil (h (He.cT K (x, none)) (List.mem_map_of_mem (f := He.cT K) (show ((x, none) : He.Defn) ∈ tfL from by
    have e : tfL = tabL.map fun x => ((x, none) : He.Defn) := rfl
    rw [e]; exact List.mem_map_of_mem (f := fun x => ((x, none) : He.Defn)) hx)))
end Tw
open PySem PySem.W PySem.Calls PyProof.Rows
set_option maxHeartbeats 0 in
theorem PySem.Challenge.cw_thinwood_k37_no_such_brackets_holds : PySem.Challenge.rw_thinwood_k37_no_such_brackets.Holds := by
  w_on; o_law
  refine HandSHeadRun.head_any (r := OpenLaw.row PySem.Challenge.rw_thinwood_k37_no_such_brackets) (q := view (OpenLaw.row PySem.Challenge.rw_thinwood_k37_no_such_brackets).prog [60]) (H := Tw.hk) (ob := Tw.ob) (M := 20000) (loose := Tw.looseL) (d := HandSHeadRun.topDef (OpenLaw.row PySem.Challenge.rw_thinwood_k37_no_such_brackets).prog 60) (kwd := []) Tw.ob_eq
    Tw.z_e Tw.z_f Tw.run Tw.z_def Tw.z_hp Tw.z_hk (by rfl) (by first | assumption | decide +kernel) Tw.z_ok Tw.z_bare Tw.z_w ?hc
  case hc =>
    refine LamX.walk_ofTsE (l := PySem.Challenge.rw_thinwood_k37_no_such_brackets) (n := 63) (k := 20) (x := "_law_script") (CX := fun _ => L2.CX0) rfl (by decide) (by as_aux_lemma => kernel_rfl) ⟨rfl, by decide, by decide⟩ ?F (fun _ _ _ _ _ z => z)
    intro w mg fa h Y G hmg0
    obtain ⟨K, KX, c⟩ := Y
    have cd := c.t.d
    have hmg : mg ("law" : PySem.Str) = some (.ref fa) := by
      have e : (HandSHeadRun.topDef (OpenLaw.row PySem.Challenge.rw_thinwood_k37_no_such_brackets).prog 60).name = ("law" : PySem.Str) := by kernel_rfl
      rw [← e]
      exact hmg0
    have e : fa = He.ga K "law" := by
      have z := hmg.symm.trans (He.glo_ok KX G (cd.fact 42 (f := .glo "law") rfl))
      exact Value.ref.inj (Option.some.inj z)
    subst e
    obtain ⟨fd, FD⟩ := Tw.binds_law cd
    refine ⟨K, KX, fd, Tw.tfL.map (He.cT K), Tw.sp_law K, fun p hp => ?_, fun p hp => ?_, fun p hp => ?_, fun s u => FunD.bindsA (ps := ["_law_script"]) FD (fun _ _ _ _ _ _ us hl => match us, hl with | [_], _ => rfl) s [u] rfl, fun H a ns hl _ hH hS => ⟨a, ns, rfl, hS, hl, Tw.tab_sp hH, fun _ => rfl⟩, fun base KB GB TB => ?_⟩
    · obtain ⟨q, hq, e⟩ := List.mem_map.mp hp
      rw [← e]; exact c.empty q hq
    · obtain ⟨q, hq, e⟩ := List.mem_map.mp hp
      rw [← e]; exact c.out q hq
    · obtain ⟨q, hq, e⟩ := List.mem_map.mp hp
      rw [← e]; exact PySem.W.codeHd_of_K KX (c.hd q hq)
    · exact Tw.okf_fn (Tw.facts KB GB cd c.more base TB) FD
#print axioms PySem.Challenge.cw_thinwood_k37_no_such_brackets_holds
