import PyProof.Rows.All
import Wide.All
import OpenK.AllK
import Wide.FinOn
import KE.KStateDown
import Lean
import HandS.ForMost
import HandS.ForExc
import HandS.Steps
import HandS.IsInst
import HandS.Wide
import HandS.WideBits
import HandS.Defaults
import HandS.Flow
import HandS.Style
import HandS.ExcIs
import HandS.TryMany
import HandS.Evl
import HandS.Walk
import HandS.Rev
import HandS.Conv
import HandS.RevRange
import HandS.SortInts
import HandS.Head0
import HandS.Head1
import HandS.Head2
import HandS.HeadEnd
import HandS.HeadHook1
import HandS.HeadHook2
import HandS.Deep
import HandS.Lambda
import HandS.HeadHook4
import HandS.HeadWalk
import HandS.Nested
import PySem.Challenge.RW_thinwood_k86_trees_read
set_option Elab.async false
set_option linter.all false
set_option maxRecDepth 100000
set_option maxHeartbeats 4000000
open PySem PySem.W PySem.Calls PyProof.Rows in
section
namespace Tw
abbrev R0 : PySem.W.OpenRow := PySem.W.OpenLaw.row PySem.Challenge.rw_thinwood_k86_trees_read
abbrev q0 : PySem.Program := PySem.W.view R0.prog [58]
abbrev d0 : PySem.DefRec := HandSHeadRun.topDef R0.prog 58
open PySem PySem.W PySem.Calls PyProof.Rows
theorem z_e : opening R0.prog = plainProg R0.prog.main.scope.names := by kernel_rfl
theorem z_f : ∀ s, fenceModules? R0.prog s = some s := fun s => by kernel_rfl
theorem z_def : defOf q0 R0.name = some (d0, []) := by kernel_rfl
theorem z_hp : R0.prog.theDef R0.name = some (d0.params, d0.body, d0.scope) := by kernel_rfl
theorem z_hk : kwWritten? d0.params.kwonlyargs d0.params.kw_defaults = some [] := by kernel_rfl
theorem z_ok : (chainsOk q0 && opensWell R0.prog && (frees R0.toRowW && R0.within.isEmpty)) = true := by decide +kernel
theorem z_bare : R0.prog.bare := ⟨rfl, rfl, rfl, rfl, rfl, by decide +kernel⟩
set_option maxHeartbeats 0 in
theorem z_w : R0.toRowW.promised := by w_witness2
end Tw
end
set_option Elab.async false
set_option linter.all false
set_option maxRecDepth 100000
set_option maxHeartbeats 4000000
namespace Tw
open PySem PySem.Spec PyProof.Rows L2
def nmL (l _c : Nat) : Str := if l = 34 then (("look_of" ++ ".<locals>.") ++ "look") else ""
def tabL : List Str := ["look_of"]
/-! ### heaps: all that was tracked is as it was, but for code tables, which may have grown -/
class NT (o : HO) : Prop where
  ne : ∀ ps, o ≠ .tbl ps
instance {xs : List V} : NT (.lst xs) := ⟨fun _ z => nomatch z⟩
instance {xs : List V} : NT (.tup xs) := ⟨fun _ z => nomatch z⟩
instance {o : Obj} {u : HO} : NT (.frz o u) := ⟨fun _ z => nomatch z⟩
instance {φ : Heap → Prop} : NT (.ext φ) := ⟨fun _ z => nomatch z⟩
instance {S : Int → Bool} {n : Nat} : NT (.set S n) := ⟨fun _ z => nomatch z⟩
instance {kvs : List (Key × V)} : NT (.dK kvs) := ⟨fun _ z => nomatch z⟩
instance {C dx : Addr} {fs : List (Str × V)} : NT (.ins C dx fs) := ⟨fun _ z => nomatch z⟩
instance {x : Addr} : NT (.own x) := ⟨fun _ z => nomatch z⟩
structure Same (H H' : Hp) : Prop where
  keep : ∀ b o, H b = some o → (∀ ps, o ≠ .tbl ps) → H' b = some o
  gone : ∀ b, H' b = none → H b = none
  tabs : ∀ P, NdefX.TabN H P nmL → NdefX.TabN H' P nmL
theorem Same.get {H H' : Hp} (s : Same H H') {b : Addr} {o : HO} [NT o] (e : H b = some o) : H' b = some o := s.keep b o e NT.ne
theorem Same.of {H H' : Hp} (e : ∀ b o, H b = some o → H' b = some o) : Same H H' := by
  refine ⟨fun b o h _ => e b o h, fun b h => ?_, fun P t => NdefX.TabN.ext t e⟩
  cases q : H b with
  | none => rfl
  | some o => rw [e b o q] at h; cases h
theorem Same.refl (H : Hp) : Same H H := .of fun _ _ h => h
theorem Same.trans {H H1 H2 : Hp} (a : Same H H1) (b : Same H1 H2) : Same H H2 := ⟨fun c o h n => b.keep c o (a.keep c o h n) n, fun c h => a.gone c (b.gone c h), fun P t => b.tabs P (a.tabs P t)⟩
theorem Same.free {H H' : Hp} (e : Same H H') {l : Addr} (h : H' l = Option.none) : H l = Option.none := e.gone l h
theorem Same.seq {K : PySem.W.Frag} {H H' : Hp} {a : Addr} {xs : List V} (e : Same H H') (h : SqL K H a xs) : SqL K H' a xs := by
  rcases h with (h | ⟨o, h⟩) | h
  · exact .inl (.inl (e.get h))
  · exact .inl (.inr ⟨o, e.get h⟩)
  · exact .inr h
theorem same_new {H : Hp} {p : Addr} {o : HO} (h : H p = none) : Same H (upd H p o) := .of fun b x e => by
  rw [upd_ne (ne_of_none e h)]; exact e
/-- an object that H does not know may change -/
theorem Same.mut {H H' : Hp} {p : Addr} {o : HO} (e : Same H H') (h : H p = none) (hl : ∃ xs, H' p = some (.lst xs) := by exact ⟨_, by assumption⟩) : Same H (upd H' p o) := by
  obtain ⟨xs, hl⟩ := hl
  refine ⟨fun b x hb n => by rw [upd_ne (ne_of_none hb h)]; exact e.keep b x hb n, fun b hb => e.gone b (NdefX.upd_none hb), fun P t => ?_⟩
  obtain ⟨ps, h1, ht, hc⟩ := e.tabs P t
  have np : ∀ {b : Addr} {u : HO}, H' b = some u → (∀ xs, u ≠ .lst xs) → b ≠ p := fun {b u} q d z => by
    subst z; rw [hl] at q; cases q; exact d _ rfl
  refine ⟨ps, by rw [upd_ne (np h1 fun _ z => nomatch z)]; exact h1, ht, fun pos cv q => ?_⟩
  obtain ⟨c, e1, e2⟩ := hc pos cv q
  exact ⟨c, e1, by rw [upd_ne (np e2 fun _ z => by unfold LamX.CodeO at z; cases z)]; exact e2⟩
theorem Same.seqT {K : PySem.W.Frag} {H H' : Hp} {a : Addr} {xs : List V} (e : Same H H') (h : SqT K H a xs) : SqT K H' a xs := by
  rcases h with (h | ⟨o, h⟩) | h
  · exact .inl (.inl (e.get h))
  · exact .inl (.inr ⟨o, e.get h⟩)
  · exact .inr h
theorem Same.ne {H : Hp} {a p : Addr} {o : HO} (h : H p = none) (e : H a = some o) : a ≠ p := ne_of_none e h
/-! ### a def by its global name, and its call -/
/-- the def named x keeps the promise sp -/
structure Okf (P : Program) (w : World) (K : PySem.W.Frag) (mg : Str → Option Value) (base : Heap) (CX : CXT) (k : Nat) (x : Str) (ps : List Str) (sp : Sp) : Prop where
  ex : ∃ fd : FuncData, (∃ (oc : Value) (od : Option Addr) (osl : Array (Option Value)), K.lookup (He.ga K x) = some ⟨oc, od, .func fd, osl⟩) ∧ Binds K fd ps [] ∧ FnOk P w K mg base CX k (He.ga K x) fd ps sp
  kp : PySem.W.keepIn K (.ref (He.ga K x)) = true
  gl : mg x = some (.ref (He.ga K x))
theorem FunD.look {K : PySem.W.Frag} {x qual : Str} {params : Arguments} {body : List Stmt} {scope : Scope} {dvs : List V} {kws : List (Str × V)} {f : Addr} {fd : FuncData} (F : FunD K x qual params body scope dvs kws f fd) :
    ∃ (oc : Value) (od : Option Addr) (osl : Array (Option Value)), K.lookup f = some ⟨oc, od, .func fd, osl⟩ := by
  obtain ⟨oc, od, dV, kV, doc, pm, an, cdv, ct, osl, e, lk, _⟩ := F.ex
  exact ⟨oc, od, osl, lk⟩
section
variable {X : Cx} {CX : CXT} {k j : Nat} {ps : List Str} {sp : Sp} {E : XK} {x : Str} {p pos : Pos} {e : Expr} {es : List Expr} {t : TA}
theorem pe_callF (F : Okf X.prog X.w X.K X.mg X.base CX k x ps sp) (hr : Room j X.A) (hk : k ≤ j) (hg : Gl X x) (hx : Passes CX X E)
    (ha : PA X (e :: es) t) (hdb : (x == ("__debug__" : Str)) = false := by decide) (he : starEach (e :: es) X.env = (false, eval e X.env) :: starEach es X.env := by rfl) (hpl : (backTo pos (starEach es X.env)).any (·.1) = false := by rfl) :
    PE X (.Call (.Name x p) (e :: es) [] pos) (tCall sp [] E t) := by
  obtain ⟨fd, _, hb, ok⟩ := F.ex
  exact pe_call ok (hr.mono hk) hg F.gl F.kp hb .nil hx ha hdb he hpl
theorem pe_callF0 (F : Okf X.prog X.w X.K X.mg X.base CX k x ps sp) (hr : Room j X.A) (hk : k ≤ j) (hg : Gl X x) (hx : Passes CX X E)
    (hdb : (x == ("__debug__" : Str)) = false := by decide) : PE X (.Call (.Name x p) [] [] pos) (tCall sp [] E tNil) := by
  obtain ⟨fd, _, hb, ok⟩ := F.ex
  exact pe_call0 ok (hr.mono hk) hg F.gl F.kp hb .nil hx hdb
theorem Okf.imp {P : Program} {w : World} {K : PySem.W.Frag} {mg : Str → Option Value} {base : Heap} {sp' : Sp} (F : Okf P w K mg base CX k x ps sp)
    (h : ∀ vs H Q E, sp' vs H Q E → sp vs H Q E) : Okf P w K mg base CX k x ps sp' := by
  obtain ⟨⟨fd, lk, hb, ok⟩, kp, gl⟩ := F
  exact ⟨⟨fd, lk, hb, ok.imp h⟩, kp, gl⟩
theorem okf_fn {P : Program} {w : World} {K : PySem.W.Frag} {mg : Str → Option Value} {base : Heap} {params : Arguments} {body : List Stmt} {scope : Scope} {qual y : Str} {fd : FuncData} {dvs : List V} {kws : List (Str × V)} (F : Okf P w K mg base CX k x ps sp)
    (FD : FunD K y qual params body scope dvs kws (He.ga K x) fd) : FnOk P w K mg base CX k (He.ga K x) fd ps sp := by
  obtain ⟨⟨fd', ⟨_, _, _, lk'⟩, hb, ok⟩, kp, gl⟩ := F
  obtain ⟨_, _, _, lk⟩ := FunD.look FD
  rw [lk] at lk'
  injection lk' with e
  injection e with _ _ e
  injection e with e
  subst e
  exact ok
/-- a global int, as a constant -/
theorem pe_gint {i : Int} (h : ∃ t, X.mg x = some (.int i t)) (hg : Gl X x) (hd : (x == ("__debug__" : Str)) = false := by decide) : PE X (.Name x pos) (tC (.int i)) := by
  obtain ⟨t, h⟩ := h
  exact pe_glob hg h ⟨_, rfl⟩ hd
/-- a constant that the text reckons -/
theorem pe_cst {v : Int} {te : TE} (h : PE X e te) (hi : ∀ (σ : L2.St) (H : Hp) (Q : VK), Q (.int v) H → te σ H Q) : PE X e (tC (.int v)) :=
  ⟨fun pins s σ H Q I q => h.run pins s σ H Q I (hi σ H Q q)⟩
/-- e & 1 -/
def rAnd1 : R2 := fun x y H Q => ∃ i : Int, x = .int i ∧ y = .int 1 ∧ Q (.int (i % 2)) H
theorem op_and1 : OpR X (binaryOp .BitAnd) rAnd1 := by
  intro pins s σ H x y v u Q I rx ry h
  obtain ⟨i, rfl, rfl, q⟩ := h
  exact op_andM pins s σ H (.int i) (.int (2 ^ 1 - 1)) v u Q I rx ry ⟨i, 1, rfl, rfl, q⟩
/-- isinstance(x, T), T a built-in type's name -/
def rIsB : List V → Hp → VK → Prop := fun xs H Q => ∃ (x : V) (n : String), xs = [x, .ty n] ∧ ∃ (t : String) (b : Bool), (∀ K : PySem.W.Frag, TyX K H x (.type t)) ∧ kitB t n = some b ∧ Q (.bl b) H
theorem call_isB : CallR X (.builtin "isinstance") rIsB := by
  intro pins s σ H xs us Q I r h
  obtain ⟨x, n, rfl, t, b, ty, e, q⟩ := h
  exact call_isi pins s σ H [x, .ty n] us Q I r ⟨x, .ty n, .type t, .type n, b, rfl, .ty n, ty _, kit_ty e, q⟩
end
/-! ### names of the operators' readings -/
abbrev rPlus : R2 := rI0 fun i j => .int (i + j)
abbrev rMinus : R2 := rI0 fun i j => .int (i - j)
abbrev rTimes : R2 := rI CMul fun i j => .int (i * j)
abbrev rDiv : R2 := rI CDiv fun i j => .int (i / j)
abbrev rDivW : R2 := rI CDivW fun i j => .int (i / j)
abbrev rMod : R2 := rI (fun _ j => 0 < j) fun i j => .int (i % j)
abbrev rPow : R2 := rI CPow fun i j => .int (i ^ j.toNat)
abbrev rShl : R2 := rI CPow fun i j => .int (i * 2 ^ j.toNat)
abbrev rShr : R2 := rI (fun _ j => 0 ≤ j) fun i j => .int (i / 2 ^ j.toNat)
abbrev rBitAnd : R2 := rI0 fun i j => .int (Builtin.bitAnd i j)
abbrev rBitOr : R2 := rI0 fun i j => .int (Builtin.bitOr i j)
abbrev rBitXor : R2 := rI0 fun i j => .int (Builtin.bitXor i j)
abbrev rLt : R2 := rI0 fun i j => .bl (decide (i < j))
abbrev rLe : R2 := rI0 fun i j => .bl (decide (i ≤ j))
abbrev rGtI : R2 := rI0 fun i j => .bl (decide (j < i))
abbrev rGeI : R2 := rI0 fun i j => .bl (decide (j ≤ i))
abbrev rShlW : R2 := rI CShl fun i j => .int (i * 2 ^ j.toNat)
def rDivmod : List V → Hp → VK → Prop := fun xs H Q => ∃ i j, xs = [.int i, .int j] ∧ CDivP i j ∧ ∀ p, H p = none → Q (.ref p) (upd H p (.tup [.int (i / j), .int (i % j)]))
abbrev rNeg : V → Hp → VK → Prop := rU fun i => .int (-i)
/-! ### steps of a reading -/
section
variable {D : Ends} {σ : L2.St} {H : Hp} {Q : VK} {Qb : Bool → Hp → Prop} {ta tb te : TE} {t u v : TS} {c d : TT} {i : Nat} {x y z : V} {r : R2} {K : PySem.W.Frag}
theorem k_seq (h : t { D with nx := u D } σ H) : tSeq t u D σ H := h
theorem k_next (h : D.nx σ H) : tNext D σ H := h
theorem k_asg (h : te σ H fun x H1 => D.nx (σ.set i (some x)) H1) : tAsg te (gName i) D σ H := h
theorem k_drop (h : te σ H fun _ H1 => D.nx σ H1) : tDrop te D σ H := h
theorem k_ret (h : te σ H D.rt) : tRet te D σ H := h
theorem k_retN (h : D.rt .non H) : tRetN D σ H := h
theorem k_if (h : c σ H fun b H1 => if b = true then t D σ H1 else u D σ H1) : tIfS c t u D σ H := h
theorem k_var (h : σ[i]? = some (some x)) (q : Q x H) : tVar i σ H Q := ⟨x, h, q⟩
theorem k_c (q : Q x H) : tC x σ H Q := q
theorem k_op (h : ta σ H fun x H1 => tb σ H1 fun y H2 => r x y H2 Q) : tOp r ta tb σ H Q := h
theorem k_un {r : V → Hp → VK → Prop} (h : ta σ H fun x H1 => r x H1 Q) : tUn r ta σ H Q := h
theorem k_I0 {g : Int → Int → V} {a b : Int} (q : Q (g a b) H) : rI0 g (.int a) (.int b) H Q := ⟨a, b, rfl, rfl, q⟩
theorem k_I {C : Int → Int → Prop} {g : Int → Int → V} {a b : Int} (hc : C a b) (q : Q (g a b) H) : rI C g (.int a) (.int b) H Q := ⟨a, b, rfl, rfl, hc, q⟩
theorem k_U {g : Int → V} {a : Int} (q : Q (g a) H) : rU g (.int a) H Q := ⟨a, rfl, q⟩
theorem k_and1 {a : Int} (q : Q (.int (a % 2)) H) : rAnd1 (.int a) (.int 1) H Q := ⟨a, rfl, rfl, q⟩
theorem k_eqI {a b : Int} (q : Q (.bl (decide (a = b))) H) : rEq (.int a) (.int b) H Q := ⟨rfl, by
  have e : decide ((V.int a : V) = V.int b) = decide (a = b) := by simp
  rw [e]; exact q⟩
theorem k_neI {a b : Int} (q : Q (.bl (!decide (a = b))) H) : rNe (.int a) (.int b) H Q := ⟨rfl, by
  have e : decide ((V.int a : V) = V.int b) = decide (a = b) := by simp
  rw [e]; exact q⟩
theorem k_eq (hs : scal x y = true) (q : Q (.bl (decide (x = y))) H) : rEq x y H Q := ⟨hs, q⟩
theorem k_ne (hs : scal x y = true) (q : Q (.bl (!decide (x = y))) H) : rNe x y H Q := ⟨hs, q⟩
theorem k_isN (q : Q (.bl (decide (x = .non))) H) : rIsN x .non H Q := ⟨rfl, q⟩
theorem k_notN (q : Q (.bl (!decide (x = .non))) H) : rNotN x .non H Q := ⟨rfl, q⟩
def BlK (Qb : Bool → Hp → Prop) (x : V) (H : Hp) : Prop := ∃ k, x = .bl k ∧ Qb k H
theorem k_test (h : te σ H (BlK Qb)) : tTest te σ H Qb := h
theorem k_tB (h : te σ H (BlK Qb)) : tB te σ H Qb := h
theorem k_bl {b : Bool} (q : Qb b H) : BlK Qb (V.bl b) H := ⟨b, rfl, q⟩
theorem k_and (h : c σ H fun b H1 => if b = true then d σ H1 Qb else Qb false H1) : tAnd c d σ H Qb := h
theorem k_or (h : c σ H fun b H1 => if b = true then Qb true H1 else d σ H1 Qb) : tOr c d σ H Qb := h
theorem k_not (h : c σ H fun b H1 => Qb (!b) H1) : tNot c σ H Qb := h
def ChainK (Q : VK) (u : Hp → Prop) (z : V) (H : Hp) : Prop := ∃ k, z = .bl k ∧ (if k = true then u H else Q (.bl false) H)
theorem k_chain {r' : R2} {tc : TE} (h : ta σ H fun x H1 => tb σ H1 fun y H2 => r x y H2 (ChainK Q fun H3 => tc σ H3 fun w H4 => r' y w H4 Q)) : tChain r r' ta tb tc σ H Q := h
theorem k_chainE {u : Hp → Prop} {b : Bool} (h : if b = true then u H else Q (.bl false) H) : ChainK Q u (.bl b) H := ⟨b, rfl, h⟩
theorem k_andV (h : ta σ H (BlK fun k H1 => if k = true then tb σ H1 Q else Q (.bl false) H1)) : tAndV ta tb σ H Q := h
theorem k_orV (h : ta σ H (BlK fun k H1 => if k = true then Q (.bl true) H1 else tb σ H1 Q)) : tOrV ta tb σ H Q := h
theorem k_notV (h : ta σ H (BlK fun k H1 => Q (.bl (!k)) H1)) : tNotV ta σ H Q := h
theorem k_ifE (h : c σ H fun b H1 => if b = true then ta σ H1 Q else tb σ H1 Q) : tIf c ta tb σ H Q := h
theorem k_cons {Qv : List V → Hp → Prop} {tr : TA} (h : ta σ H fun x H1 => tr σ H1 fun xs H2 => Qv (x :: xs) H2) : tCons ta tr σ H Qv := h
theorem k_nil {Qv : List V → Hp → Prop} (h : Qv [] H) : tNil σ H Qv := h
theorem k_call {sp : Sp} {dvs : List V} {E : XK} {tr : TA} (h : tr σ H fun vs H1 => sp (vs ++ dvs) H1 Q E) : tCall sp dvs E tr σ H Q := h
theorem k_cb {rc : List V → Hp → VK → Prop} {tr : TA} (h : tr σ H fun vs H1 => rc vs H1 Q) : tCB rc tr σ H Q := h
theorem k_tup {tr : TA} (h : tr σ H fun xs H1 => xs.length ≤ sizeLine ∧ ∀ p, H1 p = none → Q (.ref p) (upd H1 p (.tup xs))) : tTup tr σ H Q := h
theorem k_lst {tr : TA} (h : tr σ H fun xs H1 => xs.length ≤ sizeLine ∧ ∀ p, H1 p = none → Q (.ref p) (upd H1 p (.lst xs))) : tLst tr σ H Q := h
theorem k_disp {A : Prop} {xs : List V} (h : xs.length ≤ 1000) (q : A) : xs.length ≤ sizeLine ∧ A := ⟨Nat.le_trans h (by decide), q⟩
theorem k_aug {ti : TIp} (hx : σ[i]? = some (some x)) (h : te σ H fun y H1 => ti x y H1 fun z H2 => D.nx (σ.set i (some z)) H2) : tAug i te ti D σ H := ⟨x, hx, h⟩
theorem k_ipI {f : Int → Int → Int} {a b : Int} (q : Q (.int (f a b)) H) : ipI f (.int a) (.int b) H Q := ⟨a, b, rfl, rfl, q⟩
theorem k_sl {rs : V → Option Int → Option Int → Hp → VK → Prop} {tl th : TO} (h : te σ H fun x H1 => tl σ H1 fun l H2 => th σ H2 fun u H3 => rs x l u H3 Q) : tSl rs te tl th σ H Q := h
def PartK (Qo : Option Int → Hp → Prop) (x : V) (H : Hp) : Prop := ∃ j, x = .int j ∧ Qo (some j) H
theorem k_part {Qo : Option Int → Hp → Prop} (h : te σ H (PartK Qo)) : tPart te σ H Qo := h
theorem k_partE {Qo : Option Int → Hp → Prop} {a : Int} (h : Qo (some a) H) : PartK Qo (.int a) H := ⟨a, rfl, h⟩
theorem k_noPart {Qo : Option Int → Hp → Prop} (h : Qo none H) : tNoPart σ H Qo := h
theorem k_bm {T : String} {rm : V → List V → Hp → VK → Prop} {tr : TA} (h : te σ H fun x H1 => tyV K T x H1 ∧ tr σ H1 fun xs H2 => rm x xs H2 Q) : tBM K T rm te tr σ H Q := h
theorem k_bm0 {T : String} {rm : V → List V → Hp → VK → Prop} (h : te σ H fun x H1 => tyV K T x H1 ∧ rm x [] H1 Q) : tBM0 K T rm te σ H Q := h
theorem k_app {l : Addr} {xs : List V} (h : H l = some (.lst xs)) (hl : xs.length < 100000) (q : Q .non (upd H l (.lst (xs ++ [y])))) : rAppend (.ref l) [y] H Q := ⟨l, xs, y, rfl, rfl, h, Nat.lt_of_lt_of_le hl (by decide), q⟩
theorem k_tyL {l : Addr} {xs : List V} {A : Prop} (h : SqL K H l xs) (q : A) : tyV K "list" (.ref l) H ∧ A := ⟨.inl ⟨rfl, _, h⟩, q⟩
theorem k_ixL {p : Addr} {xs : List V} {a : Int} (h : SqL K H p xs) (e : atI xs a = some x) (q : Q x H) : rIxL K (.ref p) (.int a) H Q := ⟨p, xs, a, x, rfl, rfl, h, e, q⟩
theorem k_ixT {p : Addr} {xs : List V} {a : Int} (h : SqT K H p xs) (e : atI xs a = some x) (q : Q x H) : rIxT K (.ref p) (.int a) H Q := ⟨p, xs, a, x, rfl, rfl, h, e, q⟩
theorem k_slL {p : Addr} {xs : List V} {lo hi : Option Int} (h : SqL K H p xs) (q : ∀ l, H l = none → Q (.ref l) (upd H l (.lst (cutV xs lo hi)))) : rSlL K (.ref p) lo hi H Q := ⟨p, xs, rfl, h, q⟩
def rLen (K : PySem.W.Frag) : List V → Hp → VK → Prop := fun xs H Q => ∃ p ys, xs = [.ref p] ∧ (SqL K H p ys ∨ SqT K H p ys) ∧ Q (.int ys.length) H
theorem call_lenK {X : Cx} : CallR X (.builtin "len") (rLen X.K) := call_len_seq
theorem k_lenL {p : Addr} {xs : List V} (h : SqL K H p xs) (q : Q (.int (xs.length : Int)) H) : rLen K [.ref p] H Q := ⟨p, xs, rfl, .inl h, q⟩
theorem k_lenT {p : Addr} {xs : List V} (h : SqT K H p xs) (q : Q (.int (xs.length : Int)) H) : rLen K [.ref p] H Q := ⟨p, xs, rfl, .inr h, q⟩
def rInsert : V → List V → Hp → VK → Prop := fun x vs H Q => ∃ (l : Addr) (xs : List V) (i : Int) (y : V), x = .ref l ∧ vs = [.int i, y] ∧ H l = some (.lst xs) ∧ xs.length < sizeLine ∧ 0 ≤ i ∧ i < 2 ^ 63 ∧ Q .non (upd H l (.lst (xs.take i.toNat ++ [y] ++ xs.drop i.toNat)))
theorem k_insert {l : Addr} {xs : List V} {i : Nat} (h : H l = some (.lst xs)) (hz : xs.length ≤ 100000) (hi : i ≤ 100000) (q : Q .non (upd H l (.lst (xs.take i ++ [y] ++ xs.drop i)))) : rInsert (.ref l) [.int (i : Int), y] H Q := ⟨l, xs, i, y, rfl, rfl, h, Nat.lt_of_le_of_lt hz (by decide), by omega, by omega, by rw [Int.toNat_natCast]; exact q⟩
theorem k_popAt {l : Addr} {xs : List V} {i : Nat} (h : H l = some (.lst xs)) (hi : i < xs.length) (hz : xs.length ≤ 100000) (e : xs[i]? = some y) (q : Q y (upd H l (.lst (xs.eraseIdx i)))) : rPopAt (.ref l) [.int (i : Int)] H Q := ⟨l, xs, i, i, y, rfl, rfl, h, by omega, by omega, by unfold PySem.seqIndex?; simp; omega, e, q⟩
theorem k_clear {l : Addr} {xs : List V} (h : H l = some (.lst xs)) (q : Q .non (upd H l (.lst []))) : rClear (.ref l) [] H Q := ⟨l, xs, rfl, rfl, h, q⟩
theorem k_extend {l b : Addr} {xs zs : List V} (h : H l = some (.lst xs)) (h2 : H b = some (.lst zs)) (hn : xs.length + zs.length ≤ 1000000) (q : Q .non (upd H l (.lst (xs ++ zs)))) : rExtend (.ref l) [.ref b] H Q := ⟨l, b, xs, zs, rfl, rfl, h, h2, Nat.le_trans hn (by decide), q⟩
theorem k_pop {l : Addr} {xs : List V} (h : H l = some (.lst (xs ++ [y]))) (q : Q y (upd H l (.lst xs))) : rPop (.ref l) [] H Q := ⟨l, xs ++ [y], y, rfl, rfl, h, by simp, by rw [List.dropLast_concat]; exact q⟩
def rInt1 : List V → Hp → VK → Prop := fun xs H Q => (∃ i, xs = [.int i] ∧ Q (.int i) H) ∨ ∃ k : Bool, xs = [.bl k] ∧ Q (.int (if k then 1 else 0)) H
theorem k_intB {k : Bool} (q : Q (.int (if k then 1 else 0)) H) : rInt1 [.bl k] H Q := .inr ⟨k, rfl, q⟩
def rTupOf (K : PySem.W.Frag) : List V → Hp → VK → Prop := fun xs H Q => ∃ p ys, xs = [.ref p] ∧ ((SqL K H p ys ∧ ∀ l, H l = none → Q (.ref l) (upd H l (.tup ys))) ∨ (SqT K H p ys ∧ Q (.ref p) H))
theorem call_tupK {X : Cx} : CallR X (.type "tuple") (rTupOf X.K) := call_tuple_of
theorem k_tupL {p : Addr} {xs : List V} (h : SqL K H p xs) (q : ∀ l, H l = none → Q (.ref l) (upd H l (.tup xs))) : rTupOf K [.ref p] H Q := ⟨p, xs, rfl, .inl ⟨h, q⟩⟩
def rLenStr : List V → Hp → VK → Prop := fun xs H Q => ∃ z : Str, xs = [.str z] ∧ z.length ≤ sizeLine ∧ Q (.int z.length) H
def rAddStr : R2 := fun x y H Q => ∃ i j : Str, x = .str i ∧ y = .str j ∧ i.length + j.length ≤ sizeLine ∧ Q (.str (i ++ j)) H
def rMin2 : List V → Hp → VK → Prop := fun xs H Q => ∃ i j, xs = [.int i, .int j] ∧ Q (.int (if j < i then j else i)) H
def rMax2 : List V → Hp → VK → Prop := fun xs H Q => ∃ i j, xs = [.int i, .int j] ∧ Q (.int (if j > i then j else i)) H
theorem call_min2K {X : Cx} (hc : X.calm = true) : CallR X (.builtin "min") rMin2 := call_min2 hc
theorem call_max2K {X : Cx} (hc : X.calm = true) : CallR X (.builtin "max") rMax2 := call_max2 hc
theorem k_min2 {a b : Int} (q : Q (.int (if b < a then b else a)) H) : rMin2 [.int a, .int b] H Q := ⟨a, b, rfl, q⟩
theorem k_max2 {a b : Int} (q : Q (.int (if b > a then b else a)) H) : rMax2 [.int a, .int b] H Q := ⟨a, b, rfl, q⟩
def rListOf (K : PySem.W.Frag) : List V → Hp → VK → Prop := fun xs H Q => ∃ p ys, xs = [.ref p] ∧ (SqL K H p ys ∨ SqT K H p ys) ∧ ∀ l, H l = none → Q (.ref l) (upd H l (.lst ys))
theorem call_listK {X : Cx} : CallR X (.type "list") (rListOf X.K) := call_list_of
theorem k_listL {p : Addr} {xs : List V} (h : SqL K H p xs) (q : ∀ l, H l = none → Q (.ref l) (upd H l (.lst xs))) : rListOf K [.ref p] H Q := ⟨p, xs, rfl, .inl h, q⟩
theorem k_sum {p : Addr} {ns : List Int} (h : SqL K H p (ns.map V.int)) (q : Q (.int ns.sum) H) : rSum K [.ref p] H Q := ⟨p, ns, rfl, h, q⟩
theorem k_isInt {a : Int} (q : Q (.bl true) H) : rIsB [.int a, .ty "int"] H Q := ⟨.int a, "int", rfl, "int", true, fun _ => .base (.int a), by decide +kernel, q⟩
theorem k_isBool {a : Int} (q : Q (.bl false) H) : rIsB [.int a, .ty "bool"] H Q := ⟨.int a, "bool", rfl, "int", false, fun _ => .base (.int a), by decide +kernel, q⟩
theorem k_isBoolB {b : Bool} (q : Q (.bl true) H) : rIsB [.bl b, .ty "bool"] H Q := ⟨.bl b, "bool", rfl, "bool", true, fun _ => .base (.bl b), by decide +kernel, q⟩
theorem k_isIntB {b : Bool} (q : Q (.bl true) H) : rIsB [.bl b, .ty "int"] H Q := ⟨.bl b, "int", rfl, "bool", true, fun _ => .base (.bl b), by decide +kernel, q⟩
theorem k_isIntN (q : Q (.bl false) H) : rIsB [.non, .ty "int"] H Q := ⟨.non, "int", rfl, "NoneType", false, fun _ => .base .non, by decide +kernel, q⟩
theorem k_isList {a : Addr} {xs : List V} (h : H a = some (.lst xs)) (q : Q (.bl true) H) : rIsB [.ref a, .ty "list"] H Q := ⟨.ref a, "list", rfl, "list", true, fun _ => .base (.lst h), by decide +kernel, q⟩
theorem k_isTup {a : Addr} {xs : List V} (h : H a = some (.tup xs)) (q : Q (.bl true) H) : rIsB [.ref a, .ty "tuple"] H Q := ⟨.ref a, "tuple", rfl, "tuple", true, fun _ => .base (.tup h), by decide +kernel, q⟩
/-! ends -/
theorem k_nx {nx : L2.St → Hp → Prop} {rt : VK} {bk ct : L2.St → Hp → Prop} (h : nx σ H) : (Ends.mk nx rt bk ct).nx σ H := h
theorem k_rt {nx : L2.St → Hp → Prop} {rt : VK} {bk ct : L2.St → Hp → Prop} (h : rt x H) : (Ends.mk nx rt bk ct).rt x H := h
/-! ifs -/
theorem k_dec {p A B : Prop} [Decidable p] (h1 : p → A) (h2 : ¬ p → B) : if decide p = true then A else B := by
  by_cases h : p
  · rw [if_pos (decide_eq_true h)]; exact h1 h
  · rw [if_neg (fun z => h (of_decide_eq_true z))]; exact h2 h
theorem k_ndec {p A B : Prop} [Decidable p] (h1 : ¬ p → A) (h2 : p → B) : if (!decide p) = true then A else B := by
  by_cases h : p
  · rw [if_neg (by rw [decide_eq_true h]; decide)]; exact h2 h
  · rw [if_pos (by rw [decide_eq_false h]; decide)]; exact h1 h
theorem k_decT {p A B : Prop} [Decidable p] (h : p) (q : A) : if decide p = true then A else B := k_dec (fun _ => q) (fun z => absurd h z)
theorem k_decF {p A B : Prop} [Decidable p] (h : ¬ p) (q : B) : if decide p = true then A else B := k_dec (fun z => absurd z h) (fun _ => q)
theorem k_ndecT {p A B : Prop} [Decidable p] (h : p) (q : B) : if (!decide p) = true then A else B := k_ndec (fun z => absurd h z) (fun _ => q)
theorem k_ndecF {p A B : Prop} [Decidable p] (h : ¬ p) (q : A) : if (!decide p) = true then A else B := k_ndec (fun _ => q) (fun z => absurd z h)
theorem k_yes (h : Qb true H) : tYes σ H Qb := h
theorem k_T {A B : Prop} (q : A) : if true = true then A else B := iteT q
theorem k_F {A B : Prop} (q : B) : if false = true then A else B := iteF q
theorem k_nT {A B : Prop} (q : B) : if (!true) = true then A else B := iteF q
theorem k_nF {A B : Prop} (q : A) : if (!false) = true then A else B := iteT q
end
/-! ### items -/
theorem at_nat {α : Type} {xs : List α} {i : Nat} {x : α} (h : xs[i]? = some x) : atI xs (i : Int) = some x := atI_nat h
theorem at_int {α : Type} {xs : List α} {i : Int} {x : α} (h0 : 0 ≤ i) (h : xs[i.toNat]? = some x) : atI xs i = some x := by
  have e : i = ((i.toNat : Nat) : Int) := by omega
  rw [e]; exact atI_nat h
theorem mapint {ns : List Int} {i : Nat} {n : Int} (h : ns[i]? = some n) : (ns.map V.int)[i]? = some (.int n) := by
  rw [List.getElem?_map, h]; rfl
theorem of_mapint {ns : List Int} {i : Nat} {v : V} (h : (ns.map V.int)[i]? = some v) : ∃ n, ns[i]? = some n ∧ v = .int n := by
  rw [List.getElem?_map] at h
  cases e : ns[i]? with
  | none => rw [e] at h; cases h
  | some n => rw [e] at h; exact ⟨n, rfl, (Option.some.inj h).symm⟩
theorem cutTake (xs : List V) (n : Nat) : cutV xs none (some (n : Int)) = xs.take n := by
  unfold cutV
  rw [HT.sIx_none, HT.sIx_nat, List.drop_zero, Nat.sub_zero]
  rcases Nat.le_total n xs.length with h | h
  · rw [Nat.min_eq_left h]
  · rw [Nat.min_eq_right h, List.take_length, List.take_of_length_le h]
/-! ### steps on ends that are written out; loops -/
section
variable {σ : L2.St} {H : Hp} {Q rt : VK} {nx bk ct : L2.St → Hp → Prop} {t u tb : TS} {g : TG} {wi : TI} {c : TT} {i : Nat} {x : V} {K : PySem.W.Frag}
theorem m_seq (h : t (Ends.mk (u (Ends.mk nx rt bk ct)) rt bk ct) σ H) : tSeq t u (Ends.mk nx rt bk ct) σ H := h
theorem m_cut (Mid : L2.St → Hp → Prop) (h : t (Ends.mk Mid rt bk ct) σ H) (k : ∀ σ' H', Mid σ' H' → u (Ends.mk nx rt bk ct) σ' H') : Evl.tCut t u (Ends.mk nx rt bk ct) σ H := ⟨Mid, h, k⟩
theorem m_cut0 (h : t (Ends.mk (u (Ends.mk nx rt bk ct)) rt bk ct) σ H) : Evl.tCut t u (Ends.mk nx rt bk ct) σ H := ⟨_, h, fun _ _ x => x⟩
theorem m_bk (h : bk σ H) : tBreak (Ends.mk nx rt bk ct) σ H := h
theorem m_ct (h : ct σ H) : tCont (Ends.mk nx rt bk ct) σ H := h
theorem m_next (h : nx σ H) : tNext (Ends.mk nx rt bk ct) σ H := h
theorem m_gName {Qs : L2.St → Hp → Prop} (h : Qs (σ.set i (some x)) H) : gName i x σ H Qs := h
theorem m_call {sp : Sp} {E : XK} {tr : TA} (h : tr σ H fun vs H1 => sp vs H1 Q E) : tCall sp [] E tr σ H Q := by
  have e : (fun (vs : List V) (H1 : Hp) => sp (vs ++ []) H1 Q E) = fun vs H1 => sp vs H1 Q E := by
    funext vs H1; rw [List.append_nil]
  show tr σ H fun vs H1 => sp (vs ++ []) H1 Q E
  rw [e]; exact h
/-- a for loop over what J yields -/
def LoopOk (J : It) (g : TG) (tb : TS) (nx : L2.St → Hp → Prop) (rt : VK) (σ : L2.St) (H : Hp) : Prop :=
  ∃ W : Nat → Nat → L2.St → Hp → Prop, (∃ m, W 0 m σ H) ∧ ∀ i m σ H, W i m σ H →
  (J.stop i H ∧ nx σ H) ∨ (J.go i H ∧ ∃ N : L2.St → Hp → Prop, (∀ σ' H', N σ' H' → ∃ m', m' < m ∧ W (i + 1) m' σ' H') ∧ ∀ x H', J.yld i H x H' → g x σ H' fun σ2 H2 => tb (Ends.mk N rt nx N) σ2 H2)
theorem m_for (h : wi σ H fun J H1 => LoopOk J g tb nx rt σ H1) : tFor wi g tb (Ends.mk nx rt bk ct) σ H := h
def Rng1K (R : It → Hp → Prop) (vs : List V) (H : Hp) : Prop := ∃ j : Int, vs = [.int j] ∧ -(2 ^ 62) ≤ j ∧ j < 2 ^ 62 ∧ R (Itr 0 j.toNat) H
theorem m_rng1 {ta : TA} {R : It → Hp → Prop} (h : ta σ H (Rng1K R)) : iRng1 ta σ H R := h
theorem m_rng1e {R : It → Hp → Prop} {a : Int} (h1 : -(2 ^ 62) ≤ a ∧ a < 2 ^ 62) (h : R (Itr 0 a.toNat) H) : Rng1K R [V.int a] H := ⟨a, rfl, h1.1, h1.2, h⟩
theorem m_rng1n {R : It → Hp → Prop} {a : Nat} (h1 : (a : Int) < 2 ^ 62) (h : R (Itr 0 a) H) : Rng1K R [V.int (a : Int)] H := ⟨a, rfl, by omega, h1, by rw [Int.toNat_natCast]; exact h⟩
def Rng2K (R : It → Hp → Prop) (vs : List V) (H : Hp) : Prop := ∃ i j : Int, vs = [.int i, .int j] ∧ (-(2 ^ 62) ≤ i ∧ i < 2 ^ 62 ∧ -(2 ^ 62) ≤ j ∧ j < 2 ^ 62) ∧ R (Itr i (j - i).toNat) H
theorem m_rng2 {ta : TA} {R : It → Hp → Prop} (h : ta σ H (Rng2K R)) : iRng2 ta σ H R := h
theorem m_rng2e {R : It → Hp → Prop} {a b : Int} (h1 : -(2 ^ 62) ≤ a ∧ a < 2 ^ 62 ∧ -(2 ^ 62) ≤ b ∧ b < 2 ^ 62) (h : R (Itr a (b - a).toNat) H) : Rng2K R [V.int a, V.int b] H := ⟨a, b, rfl, h1, h⟩
def ListK (K : PySem.W.Frag) (R : It → Hp → Prop) (x : V) (H : Hp) : Prop := ∃ a, x = .ref a ∧ (∃ xs, SqL K H a xs) ∧ R (Itl K a) H
theorem m_iL {tl : TE} {R : It → Hp → Prop} (h : tl σ H (ListK K R)) : iList K tl σ H R := h
theorem m_iLe {R : It → Hp → Prop} {a : Addr} {xs : List V} (hx : SqL K H a xs) (h : R (Itl K a) H) : ListK K R (V.ref a) H := ⟨a, rfl, ⟨xs, hx⟩, h⟩
def TupK (K : PySem.W.Frag) (R : It → Hp → Prop) (x : V) (H : Hp) : Prop := ∃ a, x = .ref a ∧ (∃ xs, SqT K H a xs) ∧ R (Itt K a) H
theorem m_iT {tl : TE} {R : It → Hp → Prop} (h : tl σ H (TupK K R)) : iTup K tl σ H R := h
theorem m_iTe {R : It → Hp → Prop} {a : Addr} {xs : List V} (hx : SqT K H a xs) (h : R (Itt K a) H) : TupK K R (V.ref a) H := ⟨a, rfl, ⟨xs, hx⟩, h⟩
def iSeq (K : PySem.W.Frag) (tl : TE) : TI := fun σ H R => iList K tl σ H R ∨ iTup K tl σ H R
theorem m_seqL {tl : TE} {R : It → Hp → Prop} (h : tl σ H (ListK K R)) : iSeq K tl σ H R := .inl h
theorem m_seqT {tl : TE} {R : It → Hp → Prop} (h : tl σ H (TupK K R)) : iSeq K tl σ H R := .inr h
theorem pi_seq {X : Cx} {tg l : Expr} {tl : TE} (hl : PE X l tl) : PI X tg l (iSeq X.K tl) := ⟨fun pins s σ H R I h => h.elim (fun h => (pi_list hl).run pins s σ H R I h) fun h => (pi_tup hl).run pins s σ H R I h⟩
theorem loop_range {lo : Int} {n : Nat} (Pv : Nat → L2.St → Hp → Prop) (h0 : Pv 0 σ H)
    (hs : ∀ i σ H, i < n → Pv i σ H → g (.int (lo + i)) σ H fun σ2 H2 => tb (Ends.mk (Pv (i + 1)) rt nx (Pv (i + 1))) σ2 H2) (hd : ∀ σ H, Pv n σ H → nx σ H) : LoopOk (Itr lo n) g tb nx rt σ H :=
  for_range (D := Ends.mk nx rt nx nx) Pv h0 hs hd
theorem loop_range0 {n : Nat} (Pv : Nat → L2.St → Hp → Prop) (h0 : Pv 0 σ H)
    (hs : ∀ (i : Nat) σ H, i < n → Pv i σ H → g (.int (i : Int)) σ H fun σ2 H2 => tb (Ends.mk (Pv (i + 1)) rt nx (Pv (i + 1))) σ2 H2) (hd : ∀ σ H, Pv n σ H → nx σ H) : LoopOk (Itr 0 n) g tb nx rt σ H :=
  loop_range Pv h0 (fun i σ H hi p => by rw [Int.zero_add]; exact hs i σ H hi p) hd
theorem loop_list {a : Addr} {xs : List V} (Pv : Nat → L2.St → Hp → Prop) (h0 : Pv 0 σ H) (hl : ∀ i σ H, i ≤ xs.length → Pv i σ H → SqL K H a xs)
    (hs : ∀ i x σ H, xs[i]? = some x → Pv i σ H → g x σ H fun σ2 H2 => tb (Ends.mk (Pv (i + 1)) rt nx (Pv (i + 1))) σ2 H2) (hd : ∀ σ H, Pv xs.length σ H → nx σ H) : LoopOk (Itl K a) g tb nx rt σ H :=
  for_list (D := Ends.mk nx rt nx nx) Pv h0 hl hs hd
/-- over a list of ints -/
theorem loop_ints {a : Addr} {ns : List Int} (Pv : Nat → L2.St → Hp → Prop) (h0 : Pv 0 σ H) (hl : ∀ i σ H, Pv i σ H → SqL K H a (ns.map V.int))
    (hs : ∀ i n σ H, ns[i]? = some n → Pv i σ H → g (.int n) σ H fun σ2 H2 => tb (Ends.mk (Pv (i + 1)) rt nx (Pv (i + 1))) σ2 H2) (hd : ∀ σ H, Pv ns.length σ H → nx σ H) : LoopOk (Itl K a) g tb nx rt σ H :=
  loop_list (xs := ns.map V.int) Pv h0 (fun i σ H _ p => hl i σ H p) (fun i x σ H hx p => by
    obtain ⟨n, hn, rfl⟩ := of_mapint hx
    exact hs i n σ H hn p) (fun σ H p => hd σ H (by rw [List.length_map] at p; exact p))
theorem loop_tup {a : Addr} {xs : List V} (Pv : Nat → L2.St → Hp → Prop) (h0 : Pv 0 σ H) (hl : ∀ i σ H, i ≤ xs.length → Pv i σ H → SqT K H a xs)
    (hs : ∀ i x σ H, xs[i]? = some x → Pv i σ H → g x σ H fun σ2 H2 => tb (Ends.mk (Pv (i + 1)) rt nx (Pv (i + 1))) σ2 H2) (hd : ∀ σ H, Pv xs.length σ H → nx σ H) : LoopOk (Itt K a) g tb nx rt σ H :=
  for_tup (D := Ends.mk nx rt nx nx) Pv h0 hl hs hd
def WBody (W : Nat → L2.St → Hp → Prop) (m : Nat) (tb : TS) (rt : VK) (nx : L2.St → Hp → Prop) (σ : L2.St) (H : Hp) : Prop :=
  ∃ N : L2.St → Hp → Prop, (∀ σ' H', N σ' H' → ∃ m', m' < m ∧ W m' σ' H') ∧ tb (Ends.mk N rt nx N) σ H
theorem m_wbody {W : Nat → L2.St → Hp → Prop} {m : Nat} (h : tb (Ends.mk (fun σ' H' => ∃ m', m' < m ∧ W m' σ' H') rt nx (fun σ' H' => ∃ m', m' < m ∧ W m' σ' H')) σ H) : WBody W m tb rt nx σ H := ⟨_, fun _ _ h => h, h⟩
theorem loop_while (W : Nat → L2.St → Hp → Prop) (m : Nat) (h0 : W m σ H)
    (hs : ∀ m σ H, W m σ H → c σ H fun b H1 => if b = true then WBody W m tb rt nx σ H1 else nx σ H1) : tWhile c tb (Ends.mk nx rt bk ct) σ H := ⟨W, ⟨m, h0⟩, hs⟩
/-- a comprehension over what J yields -/
def CompOk (J : It) (g : TG) (tt : TT) (te : TE) (vs : List Nat) (σ : L2.St) (H1 : Hp) (Q : VK) : Prop :=
  ∀ D, H1 D = none → ∃ W : Nat → Nat → Hp → Prop, (∃ m, W 0 m (upd H1 D (.lst []))) ∧ ∀ i m H, W i m H →
  (J.stop i H ∧ Q (.ref D) H) ∨ (J.go i H ∧ ∃ Nx : Hp → Prop, (∀ H', Nx H' → ∃ m', m' < m ∧ W (i + 1) m' H') ∧ ∀ x H', J.yld i H x H' → g x (wipe σ vs) H' fun σ2 H2 => wipe σ2 vs = wipe σ vs ∧ tt σ2 H2 fun b H3 =>
    if b = true then te σ2 H3 fun y H4 => ∃ acc, H4 D = some (.lst acc) ∧ acc.length < sizeLine ∧ Nx (upd H4 D (.lst (acc ++ [y]))) else Nx H3)
theorem m_lc {tt : TT} {te : TE} {vs : List Nat} (h : wi σ H fun J H1 => CompOk J g tt te vs σ H1 Q) : tLc wi g tt te vs σ H Q := h
/-- over a range, no test, pure elements f i: the list made -/
theorem comp_rangeV {n : Nat} {te : TE} {j : Nat} {f : Nat → V} (hn : n ≤ 100000)
    (he : ∀ (k : Nat) (H2 : Hp) (Q2 : VK), k < n → Same H H2 → (∀ H3, Same H2 H3 → Q2 (f k) H3) → te ((wipe σ [j]).set j (some (.int (k : Int)))) H2 Q2)
    (q : ∀ p H', H p = none → Same H H' → H' p = some (.lst ((List.range n).map f)) → Q (.ref p) H') (hw : ∀ x, wipe ((wipe σ [j]).set j (some x)) [j] = wipe σ [j] := by intro _; rfl) : CompOk (Itr 0 n) (gName j) tYes te [j] σ H Q := by
  intro Dl hD
  refine lc_range (lo := 0) (n := n) (fun i H' => Same H H' ∧ H' Dl = some (.lst ((List.range i).map f))) ⟨same_new hD, upd_same⟩ (fun i H' hi p => ?_) (fun H' p => q Dl H' hD p.1 p.2)
  obtain ⟨p1, p2⟩ := p
  refine ⟨hw _, ?_⟩
  refine k_yes (iteT ?_)
  rw [Int.zero_add]
  refine he i H' _ hi p1 (fun H3 s3 => ⟨_, s3.get p2, ?_, Same.mut (p1.trans s3) hD ⟨_, s3.get p2⟩, ?_⟩)
  · rw [List.length_map, List.length_range]; exact Nat.lt_of_lt_of_le (Nat.lt_of_lt_of_le hi hn) (by decide)
  · rw [upd_same, List.range_succ, List.map_append]; rfl
/-- over a list, no test, pure elements -/
theorem comp_listV {a : Addr} {xs ys : List V} {te : TE} {j : Nat} (hl : SqL K H a xs) (hn : xs.length ≤ 100000) (hy : ys.length = xs.length)
    (he : ∀ (k : Nat) (x y : V) (H2 : Hp) (Q2 : VK), xs[k]? = some x → ys[k]? = some y → Same H H2 → (∀ H3, Same H2 H3 → Q2 y H3) → te ((wipe σ [j]).set j (some x)) H2 Q2)
    (q : ∀ p H', H p = none → Same H H' → H' p = some (.lst ys) → Q (.ref p) H') (hw : ∀ x, wipe ((wipe σ [j]).set j (some x)) [j] = wipe σ [j] := by intro _; rfl) : CompOk (Itl K a) (gName j) tYes te [j] σ H Q := by
  intro Dl hD
  refine lc_list (xs := xs) (fun i H' => Same H H' ∧ H' Dl = some (.lst (ys.take i))) ⟨same_new hD, upd_same⟩ (fun i H' _ p => p.1.seq hl) (fun i x H' hi p => ?_) (fun H' p => q Dl H' hD p.1 (by rw [p.2, ← hy, List.take_length]))
  obtain ⟨p1, p2⟩ := p
  refine ⟨hw _, ?_⟩
  refine k_yes (iteT ?_)
  have hlt : i < xs.length := (List.getElem?_eq_some_iff.mp hi).1
  obtain ⟨y, ey⟩ : ∃ y, ys[i]? = some y := ⟨ys[i]'(by omega), List.getElem?_eq_getElem (by omega)⟩
  refine he i x y H' _ hi ey p1 (fun H3 s3 => ⟨_, s3.get p2, ?_, Same.mut (p1.trans s3) hD ⟨_, s3.get p2⟩, ?_⟩)
  · rw [List.length_take]; exact Nat.lt_of_le_of_lt (Nat.min_le_right _ _) (Nat.lt_of_lt_of_le (show ys.length < 100001 by omega) (by decide))
  · rw [upd_same, List.take_add_one, ey]; rfl
/-- over a list, no test, elements of which something is known -/
theorem comp_listP {a : Addr} {xs : List V} {te : TE} {j : Nat} (P : Nat → V → Prop) (hl : SqL K H a xs) (hn : xs.length ≤ 100000)
    (he : ∀ (k : Nat) (x : V) (H2 : Hp) (Q2 : VK), xs[k]? = some x → Same H H2 → (∀ y H3, P k y → Same H2 H3 → Q2 y H3) → te ((wipe σ [j]).set j (some x)) H2 Q2)
    (q : ∀ p H' ys, H p = none → Same H H' → H' p = some (.lst ys) → ys.length = xs.length → (∀ k y, ys[k]? = some y → P k y) → Q (.ref p) H') (hw : ∀ x, wipe ((wipe σ [j]).set j (some x)) [j] = wipe σ [j] := by intro _; rfl) : CompOk (Itl K a) (gName j) tYes te [j] σ H Q := by
  intro Dl hD
  refine lc_list (xs := xs) (fun i H' => Same H H' ∧ ∃ ys, H' Dl = some (.lst ys) ∧ ys.length = i ∧ ∀ k y, ys[k]? = some y → P k y) ⟨same_new hD, [], upd_same, rfl, fun k y e => by simp at e⟩ (fun i H' _ p => p.1.seq hl) (fun i x H' hi p => ?_) (fun H' p => ?_)
  · obtain ⟨p1, ys, p2, p3, p4⟩ := p
    refine ⟨hw _, ?_⟩
    refine k_yes (iteT ?_)
    have hlt : i < xs.length := (List.getElem?_eq_some_iff.mp hi).1
    refine he i x H' _ hi p1 (fun y H3 hy s3 => ⟨_, s3.get p2, by rw [p3]; exact Nat.lt_of_lt_of_le (Nat.lt_of_lt_of_le hlt hn) (by decide), Same.mut (p1.trans s3) hD ⟨_, s3.get p2⟩, ys ++ [y], upd_same, by rw [List.length_append, p3]; rfl, fun k z e => ?_⟩)
    rcases Nat.lt_or_ge k ys.length with w | w
    · rw [List.getElem?_append_left w] at e; exact p4 k z e
    · rw [List.getElem?_append_right w] at e
      obtain ⟨h1, h2⟩ := List.getElem?_eq_some_iff.mp e
      rw [List.length_singleton] at h1
      have hk : k = i := by omega
      have e2 : z = y := by
        rw [show k - ys.length = 0 by omega] at e
        exact (Option.some.inj e).symm
      rw [hk, e2]; exact hy
  · obtain ⟨p1, ys, p2, p3, p4⟩ := p
    exact q Dl H' ys hD p1 p2 p3 p4
end
/-! ### loops over any walk -/
section
variable {σ : L2.St} {H : Hp} {Q rt : VK} {nx bk ct : L2.St → Hp → Prop} {t u tb : TS} {g : TG} {i : Nat} {x : V} {K : PySem.W.Frag} {J : It} {n : Nat} {G : Hp → Prop} {Y : Nat → Hp → V → Hp → Prop}
theorem loop_walk (w : Walk J n G Y) (Pv : Nat → L2.St → Hp → Prop) (h0 : Pv 0 σ H) (hG : ∀ i σ H, Pv i σ H → G H)
    (hs : ∀ i x σ H H', i < n → Pv i σ H → Y i H x H' → g x σ H' fun σ2 H2 => tb (Ends.mk (Pv (i + 1)) rt nx (Pv (i + 1))) σ2 H2) (hd : ∀ σ H, Pv n σ H → nx σ H) : LoopOk J g tb nx rt σ H :=
  for_it (D := Ends.mk nx rt nx nx) w Pv h0 (fun i σ H _ p => hG i σ H p) hs hd
/-- a comprehension with a test: at each turn the item is dropped, or f i is kept -/
theorem comp_walkV {te : TE} {tt : TT} {j : Nat} {f : Nat → Option V} (w : Walk J n G Y) (hn : n ≤ 100000) (hG : ∀ H', Same H H' → G H')
    (he : ∀ (k : Nat) (x : V) (H1 H2 : Hp) (Qb : Bool → Hp → Prop), k < n → Same H H1 → Y k H1 x H2 → (∀ b H3, Same H1 H3 → (b = true → ∀ Q2 : VK, ∀ H4, Same H3 H4 → ∃ y, f k = some y ∧ ((∀ H5, Same H4 H5 → Q2 y H5) → te ((wipe σ [j]).set j (some x)) H4 Q2)) → (b = false → f k = none) → Qb b H3) → tt ((wipe σ [j]).set j (some x)) H2 Qb)
    (q : ∀ p H', H p = none → Same H H' → H' p = some (.lst ((List.range n).filterMap f)) → Q (.ref p) H') (hw : ∀ x, wipe ((wipe σ [j]).set j (some x)) [j] = wipe σ [j] := by intro _; rfl) : CompOk J (gName j) tt te [j] σ H Q := by
  intro Dl hD
  refine lc_it w (fun i H' => Same H H' ∧ H' Dl = some (.lst ((List.range i).filterMap f))) ⟨same_new hD, upd_same⟩ (fun i H' _ p => hG H' p.1) (fun i x H' H'' hi p hy => ?_) (fun H' p => q Dl H' hD p.1 p.2)
  obtain ⟨p1, p2⟩ := p
  refine ⟨hw _, he i x H' H'' _ hi p1 hy (fun b H3 s3 hb1 hb0 => ?_)⟩
  have hl : ((List.range i).filterMap f).length < sizeLine := Nat.lt_of_le_of_lt (List.length_filterMap_le f (List.range i)) (by rw [List.length_range]; exact Nat.lt_of_lt_of_le (Nat.lt_of_lt_of_le hi hn) (by decide))
  cases b with
  | true =>
    refine iteT ?_
    obtain ⟨y, ey, go⟩ := hb1 rfl (fun y H4 => ∃ acc, H4 Dl = some (.lst acc) ∧ acc.length < sizeLine ∧ Same H (upd H4 Dl (.lst (acc ++ [y]))) ∧ upd H4 Dl (.lst (acc ++ [y])) Dl = some (.lst ((List.range (i + 1)).filterMap f))) H3 (Same.refl _)
    refine go fun H5 s5 => ⟨_, s5.get (s3.get p2), hl, Same.mut ((p1.trans s3).trans s5) hD ⟨_, s5.get (s3.get p2)⟩, ?_⟩
    rw [upd_same, List.range_succ, List.filterMap_append]
    show _ = some (HO.lst (_ ++ List.filterMap f [i]))
    rw [List.filterMap_cons, ey]; rfl
  | false =>
    refine iteF ⟨p1.trans s3, ?_⟩
    rw [List.range_succ, List.filterMap_append]
    rw [show List.filterMap f [i] = [] by rw [List.filterMap_cons, hb0 rfl]; rfl, List.append_nil]
    exact s3.get p2
theorem k_rev {a : Addr} {xs : List V} {ta : TA} {R : It → Hp → Prop} (h : ta σ H fun vs H1 => ∃ (a : Addr) (xs : List V), vs = [.ref a] ∧ SqL K H1 a xs ∧ R (Itv K a xs.length) H1) : iRev K ta σ H R := h
def RevK (K : PySem.W.Frag) (R : It → Hp → Prop) (vs : List V) (H : Hp) : Prop := ∃ (a : Addr) (xs : List V), vs = [.ref a] ∧ SqL K H a xs ∧ R (Itv K a xs.length) H
theorem m_rev {ta : TA} {R : It → Hp → Prop} (h : ta σ H (RevK K R)) : iRev K ta σ H R := h
theorem m_revE {a : Addr} {xs : List V} {R : It → Hp → Prop} (hx : SqL K H a xs) (h : R (Itv K a xs.length) H) : RevK K R [.ref a] H := ⟨a, xs, rfl, hx, h⟩
def EnumK (K : PySem.W.Frag) (R : It → Hp → Prop) (vs : List V) (H : Hp) : Prop := ∃ (a : Addr) (xs : List V), vs = [.ref a] ∧ SqL K H a xs ∧ R (Ite K a) H
theorem m_enum {ta : TA} {R : It → Hp → Prop} (h : ta σ H (EnumK K R)) : iEnum K ta σ H R := h
theorem m_enumE {a : Addr} {xs : List V} {R : It → Hp → Prop} (hx : SqL K H a xs) (h : R (Ite K a) H) : EnumK K R [.ref a] H := ⟨a, xs, rfl, hx, h⟩
def ZipK (K : PySem.W.Frag) (R : It → Hp → Prop) (vs : List V) (H : Hp) : Prop := ∃ a b xs ys, vs = [.ref a, .ref b] ∧ SqL K H a xs ∧ SqL K H b ys ∧ R (Itz K a b) H
theorem m_zip {ta : TA} {R : It → Hp → Prop} (h : ta σ H (ZipK K R)) : iZip K ta σ H R := h
theorem m_zipE {a b : Addr} {xs ys : List V} {R : It → Hp → Prop} (hx : SqL K H a xs) (hy : SqL K H b ys) (h : R (Itz K a b) H) : ZipK K R [.ref a, .ref b] H := ⟨a, b, xs, ys, rfl, hx, hy, h⟩
def RevLK (K : PySem.W.Frag) (Q : VK) (x : V) (H : Hp) : Prop := ∃ a xs, x = .ref a ∧ SqL K H a xs ∧ ∀ p, H p = none → Q (.ref p) (upd H p (.lst xs.reverse))
theorem m_revL {te : TE} (h : te σ H (RevLK K Q)) : tRevL K te σ H Q := h
theorem m_revLE {a : Addr} {xs : List V} (hx : SqL K H a xs) (q : ∀ p, H p = none → Q (.ref p) (upd H p (.lst xs.reverse))) : RevLK K Q (.ref a) H := ⟨a, xs, rfl, hx, q⟩
def Rng3K (R : It → Hp → Prop) (vs : List V) (H : Hp) : Prop := ∃ i j c n, vs = [.int i, .int j, .int c] ∧ RgC i j c n ∧ R (Itc i c n) H
theorem m_rng3 {ta : TA} {R : It → Hp → Prop} (h : ta σ H (Rng3K R)) : iRng3 ta σ H R := h
theorem m_rng3e {R : It → Hp → Prop} {a b c : Int} {n : Nat} (h1 : RgC a b c n) (h : R (Itc a c n) H) : Rng3K R [V.int a, V.int b, V.int c] H := ⟨a, b, c, n, rfl, h1, h⟩
/-- targets that are pairs -/
def GTupK (K : PySem.W.Frag) (n : Nat) (tg : TGs) (Qs : L2.St → Hp → Prop) (x : V) (σ : L2.St) (H : Hp) : Prop := ∃ a xs, x = .ref a ∧ SqT K H a xs ∧ xs.length = n ∧ tg xs σ H Qs
theorem m_gTup {tg : TGs} {Qs : L2.St → Hp → Prop} {a : Addr} {xs : List V} (hx : SqT K H a xs) (hn : xs.length = n) (h : tg xs σ H Qs) : gTup K n tg (.ref a) σ H Qs := ⟨a, xs, rfl, hx, hn, h⟩
theorem m_gCons {t1 : TG} {ts : TGs} {Qs : L2.St → Hp → Prop} {xs : List V} (h : t1 x σ H fun σ' H' => ts xs σ' H' Qs) : gCons t1 ts (x :: xs) σ H Qs := ⟨x, xs, rfl, h⟩
theorem m_gNil {Qs : L2.St → Hp → Prop} (h : Qs σ H) : gNil [] σ H Qs := ⟨rfl, h⟩
theorem m_asg {te : TE} (h : te σ H fun x H1 => g x σ H1 nx) : tAsg te g (Ends.mk nx rt bk ct) σ H := h
theorem k_rep {Q : VK} {l : Addr} {xs : List V} {n : Nat} (h : H l = some (.lst xs)) (hn : xs.length * n ≤ 1000000) (hn2 : n ≤ 1000000) (q : ∀ p, H p = none → Q (.ref p) (upd H p (.lst (List.replicate n xs).flatten))) : rRep (.ref l) (.int (n : Int)) H Q :=
  ⟨l, n, xs, rfl, rfl, h, by omega, by omega, by rw [Int.toNat_natCast]; exact Nat.le_trans hn (by decide), by rw [Int.toNat_natCast]; exact q⟩
theorem k_cat {Q : VK} {l b : Addr} {xs zs : List V} (h1 : H l = some (.lst xs)) (h2 : H b = some (.lst zs)) (hn : xs.length + zs.length ≤ 1000000) (q : ∀ p, H p = none → Q (.ref p) (upd H p (.lst (xs ++ zs)))) : rCat (.ref l) (.ref b) H Q :=
  ⟨l, b, xs, zs, rfl, rfl, h1, h2, Nat.le_trans hn (by decide), q⟩
theorem rep_one (x : V) (n : Nat) : (List.replicate n [x]).flatten = List.replicate n x := by
  induction n with
  | zero => rfl
  | succ n ih => rw [List.replicate_succ, List.flatten_cons, ih]; rfl
theorem m_gSub {to ti : TE} {ts : TSet} {Qs : L2.St → Hp → Prop} (h : to σ H fun o H1 => ti σ H1 fun i H2 => ts o i x H2 fun H3 => Qs σ H3) : gSub to ti ts x σ H Qs := h
theorem m_setL {p : Addr} {xs : List V} {k : Int} {j : Nat} {y : V} {Qh : Hp → Prop} (h : H p = some (.lst xs)) (hj : ixN xs.length k = some j) (q : Qh (upd H p (.lst (xs.set j y)))) : rSetL (.ref p) (.int k) y H Qh := ⟨p, xs, k, j, rfl, rfl, h, hj, q⟩
theorem ixN_nat {n : Nat} {k : Int} (h0 : 0 ≤ k) (h1 : k < n) : ixN n k = some k.toNat := by
  unfold ixN; rw [if_pos h0, if_pos h1]
def ParK (nx : L2.St → Hp → Prop) (i j : Nat) (σ : L2.St) (vs : List V) (H : Hp) : Prop := ∃ v w, vs = [v, w] ∧ nx ((σ.set i (some v)).set j (some w)) H
theorem m_par {i j : Nat} {ta : TA} (h : ta σ H (ParK nx i j σ)) : tPar i j ta (Ends.mk nx rt bk ct) σ H := h
theorem m_parE {i j : Nat} {a b : V} (h : nx ((σ.set i (some a)).set j (some b)) H) : ParK nx i j σ [a, b] H := ⟨a, b, rfl, h⟩
theorem k_divmod {Q : VK} {a b : Int} (h : CDivP a b) (q : ∀ p, H p = none → Q (.ref p) (upd H p (.tup [.int (a / b), .int (a % b)]))) : rDivmod [.int a, .int b] H Q := ⟨a, b, rfl, h, q⟩
end
/-! ### what a comprehension with a test leaves -/
theorem fm_head {α : Type} {f : Nat → Option α} : ∀ {n : Nat} {y : α}, ((List.range n).filterMap f)[0]? = some y → ∃ i, i < n ∧ f i = some y ∧ ∀ j, j < i → f j = none
  | 0, y, h => by simp at h
  | n + 1, y, h => by
    rw [List.range_succ, List.filterMap_append] at h
    cases e : (List.range n).filterMap f with
    | cons z zs =>
      rw [e] at h
      have h' : ((List.range n).filterMap f)[0]? = some y := by rw [e]; simpa using h
      obtain ⟨i, h1, h2, h3⟩ := fm_head h'
      exact ⟨i, by omega, h2, h3⟩
    | nil =>
      rw [e, List.nil_append] at h
      have none_all : ∀ j, j < n → f j = none := fun j hj => List.filterMap_eq_nil_iff.mp e j (List.mem_range.mpr hj)
      cases q : f n with
      | none => rw [List.filterMap_cons, q] at h; simp at h
      | some z =>
        rw [List.filterMap_cons, q] at h
        have : z = y := by simpa using h
        subst this
        exact ⟨n, by omega, q, none_all⟩
theorem fm_last {α : Type} {f : Nat → Option α} : ∀ {n : Nat} {y : α} {ys : List α}, (List.range n).filterMap f = ys ++ [y] → ∃ i, i < n ∧ f i = some y ∧ ∀ j, i < j → j < n → f j = none
  | 0, y, ys, h => by simp at h
  | n + 1, y, ys, h => by
    rw [List.range_succ, List.filterMap_append] at h
    cases q : f n with
    | none =>
      rw [show List.filterMap f [n] = [] by rw [List.filterMap_cons, q]; rfl, List.append_nil] at h
      obtain ⟨i, h1, h2, h3⟩ := fm_last h
      refine ⟨i, by omega, h2, fun j h4 h5 => ?_⟩
      rcases Nat.lt_or_ge j n with h6 | h6
      · exact h3 j h4 h6
      · have : j = n := by omega
        subst this; exact q
    | some z =>
      rw [show List.filterMap f [n] = [z] by rw [List.filterMap_cons, q]; rfl] at h
      have e := List.append_inj_right' h rfl
      injection e with e
      subst e
      exact ⟨n, by omega, q, fun j h4 h5 => by omega⟩
theorem fm_nil {α : Type} {f : Nat → Option α} {n : Nat} (h : (List.range n).filterMap f = []) : ∀ j, j < n → f j = none := fun j hj => List.filterMap_eq_nil_iff.mp h j (List.mem_range.mpr hj)
theorem fm_id {α : Type} (l : List α) {n : Nat} (hn : n = l.length) : (List.range n).filterMap (fun k => l[k]?) = l := by
  subst hn
  have h : ∀ n, n ≤ l.length → (List.range n).filterMap (fun k => l[k]?) = l.take n := by
    intro n
    induction n with
    | zero => intro _; rfl
    | succ n ih =>
      intro hn
      rw [List.range_succ, List.filterMap_append, ih (by omega), List.take_add_one, List.getElem?_eq_getElem (show n < l.length by omega)]
      congr 1
      rw [List.filterMap_cons, List.getElem?_eq_getElem (show n < l.length by omega)]; rfl
  rw [h _ (Nat.le_refl _), List.take_length]
theorem snoc_of {α : Type} : ∀ {l : List α}, l ≠ [] → ∃ ys y, l = ys ++ [y]
  | [], h => absurd rfl h
  | a :: l, _ => ⟨(a :: l).dropLast, (a :: l).getLast (List.cons_ne_nil _ _), (List.dropLast_concat_getLast _).symm⟩
theorem cutPart (xs : List V) (a b : Nat) : cutV xs (some (a : Int)) (some (b : Int)) = (xs.take b).drop a := by
  unfold cutV
  rw [HT.sIx_nat, HT.sIx_nat, List.drop_take]
  rcases Nat.le_total a xs.length with h | h
  · rw [Nat.min_eq_left h]
    rcases Nat.le_total b xs.length with h2 | h2
    · rw [Nat.min_eq_left h2]
    · rw [Nat.min_eq_right h2, List.take_of_length_le (by rw [List.length_drop]; omega), List.take_of_length_le (by rw [List.length_drop]; omega)]
  · rw [Nat.min_eq_right h, List.drop_of_length_le (Nat.le_refl _), List.drop_of_length_le h]
    simp
/-- a part of a list of ints -/
theorem cut_ints (ns : List Int) (lo hi : Option Int) : ∃ cs : List Int, cutV (ns.map V.int) lo hi = cs.map V.int ∧ (∀ x ∈ cs, x ∈ ns) ∧ cs.length ≤ ns.length := by
  unfold cutV
  refine ⟨_, by rw [← List.map_drop, ← List.map_take], fun x h => List.mem_of_mem_drop (List.mem_of_mem_take h), by rw [List.length_take, List.length_drop]; omega⟩
theorem cutDrop (xs : List V) (a : Nat) : cutV xs (some (a : Int)) none = xs.drop a := by
  unfold cutV
  rw [HT.sIx_nat, HT.sIx_none]
  rcases Nat.le_total a xs.length with h | h
  · rw [Nat.min_eq_left h, List.take_of_length_le (by rw [List.length_drop]; omega)]
  · rw [Nat.min_eq_right h, List.drop_of_length_le (Nat.le_refl _), List.drop_of_length_le h]
    simp
/-! ### data at any depth -/
section
variable {H H' : Hp} {K : PySem.W.Frag}
theorem dpAll_ints : ∀ ns : List Int, DpAll K H (ns.map V.int) (ns.map PyData.int)
  | [] => .nil
  | n :: ns => .cons (.int n) (dpAll_ints ns)
theorem dpAll_bools : ∀ bs : List Bool, DpAll K H (bs.map V.bl) (bs.map PyData.bool)
  | [] => .nil
  | b :: bs => .cons (.bl b) (dpAll_bools bs)
theorem dp_ints {a : Addr} {ns : List Int} (h : SqL K H a (ns.map V.int)) : Dp K H (.ref a) (.list (ns.map PyData.int)) := .lst h (dpAll_ints ns)
theorem dp_intsT {a : Addr} {ns : List Int} (h : SqT K H a (ns.map V.int)) : Dp K H (.ref a) (.tuple (ns.map PyData.int)) := .tup h (dpAll_ints ns)
theorem eqvAll_ints : ∀ as bs : List Int, PyData.eqvAll (as.map PyData.int) (bs.map PyData.int) = decide (as = bs)
  | [], [] => by rw [List.map_nil]; unfold PyData.eqvAll; rfl
  | [], b :: bs => by rw [List.map_nil, List.map_cons]; unfold PyData.eqvAll; simp
  | a :: as, [] => by rw [List.map_nil, List.map_cons]; unfold PyData.eqvAll; simp
  | a :: as, b :: bs => by
    rw [List.map_cons, List.map_cons]; unfold PyData.eqvAll
    rw [eqvAll_ints as bs]
    unfold PyData.eqv
    by_cases h : a = b
    · subst h; by_cases h2 : as = bs
      · subst h2; simp
      · simp [h2]
    · simp [h]
theorem eqv_ints (as bs : List Int) : PyData.eqv (.list (as.map PyData.int)) (.list (bs.map PyData.int)) = decide (as = bs) := by
  unfold PyData.eqv; exact eqvAll_ints as bs
theorem eqv_intsT (as bs : List Int) : PyData.eqv (.tuple (as.map PyData.int)) (.tuple (bs.map PyData.int)) = decide (as = bs) := by
  unfold PyData.eqv; exact eqvAll_ints as bs
/-- laid: no dict, texts in order, at most so deep -/
def laid (n : Nat) (d : PyData) : Prop := d.canLay0 = true ∧ d.depth ≤ n
theorem laid_int {n : Nat} (i : Int) : laid n (.int i) := ⟨by simp [PyData.canLay0], by simp [PyData.depth]⟩
theorem laid_bool {n : Nat} (i : Bool) : laid n (.bool i) := ⟨by simp [PyData.canLay0], by simp [PyData.depth]⟩
theorem laid_none {n : Nat} : laid n .none := ⟨by simp [PyData.canLay0], by simp [PyData.depth]⟩
theorem laid_all {n : Nat} : ∀ ds : List PyData, (∀ d ∈ ds, laid n d) → PyData.canLayAll0 ds = true ∧ PyData.depthAll ds ≤ n
  | [], _ => ⟨by simp [PyData.canLayAll0], by simp [PyData.depthAll]⟩
  | d :: ds, h => by
    obtain ⟨h1, h2⟩ := h d List.mem_cons_self
    obtain ⟨h3, h4⟩ := laid_all ds fun x hx => h x (List.mem_cons_of_mem _ hx)
    exact ⟨by simp [PyData.canLayAll0, h1, h3], by simp only [PyData.depthAll]; omega⟩
theorem laid_list {n : Nat} {ds : List PyData} (h : ∀ d ∈ ds, laid n d) : laid (n + 1) (.list ds) := by
  obtain ⟨h1, h2⟩ := laid_all ds h
  exact ⟨by simp [PyData.canLay0, h1], by simp only [PyData.depth]; omega⟩
theorem laid_tup {n : Nat} {ds : List PyData} (h : ∀ d ∈ ds, laid n d) : laid (n + 1) (.tuple ds) := by
  obtain ⟨h1, h2⟩ := laid_all ds h
  exact ⟨by simp [PyData.canLay0, h1], by simp only [PyData.depth]; omega⟩
theorem laid_ints {n : Nat} (ns : List Int) : laid (n + 1) (.list (ns.map PyData.int)) := laid_list fun d hd => by
  obtain ⟨i, _, rfl⟩ := List.mem_map.mp hd
  exact laid_int i
theorem laid_intsT {n : Nat} (ns : List Int) : laid (n + 1) (.tuple (ns.map PyData.int)) := laid_tup fun d hd => by
  obtain ⟨i, _, rfl⟩ := List.mem_map.mp hd
  exact laid_int i
theorem laid_bools {n : Nat} (bs : List Bool) : laid (n + 1) (.list (bs.map PyData.bool)) := laid_list fun d hd => by
  obtain ⟨i, _, rfl⟩ := List.mem_map.mp hd
  exact laid_bool i
theorem laid_shaped {d : PyData} (h : laid 64 d) : SeqAt.shaped d = true := by
  obtain ⟨h1, h2⟩ := h
  unfold SeqAt.shaped
  rw [h1, decide_eq_true h2]; rfl
theorem k_eqD {Q : VK} {x y : V} {d e : PyData} (h1 : Dp K H x d) (h2 : Dp K H y e) (l1 : laid 64 d) (l2 : laid 64 e) (q : Q (.bl (PyData.eqv d e)) H) : rEqD K x y H Q :=
  ⟨d, e, h1, h2, laid_shaped l1, laid_shaped l2, q⟩
theorem k_neD {Q : VK} {x y : V} {d e : PyData} (h1 : Dp K H x d) (h2 : Dp K H y e) (l1 : laid 64 d) (l2 : laid 64 e) (q : Q (.bl (!PyData.eqv d e)) H) : rNeD K x y H Q :=
  ⟨d, e, h1, h2, laid_shaped l1, laid_shaped l2, q⟩
theorem k_eqL {Q : VK} {a b : Addr} {ns ms : List Int} (h1 : SqL K H a (ns.map V.int)) (h2 : SqL K H b (ms.map V.int)) (q : Q (.bl (decide (ns = ms))) H) : rEqD K (.ref a) (.ref b) H Q :=
  k_eqD (dp_ints h1) (dp_ints h2) (laid_ints ns) (laid_ints ms) (by rw [eqv_ints]; exact q)
theorem k_neL {Q : VK} {a b : Addr} {ns ms : List Int} (h1 : SqL K H a (ns.map V.int)) (h2 : SqL K H b (ms.map V.int)) (q : Q (.bl (!decide (ns = ms))) H) : rNeD K (.ref a) (.ref b) H Q :=
  k_neD (dp_ints h1) (dp_ints h2) (laid_ints ns) (laid_ints ms) (by rw [eqv_ints]; exact q)
end
/-- a row's tables: a number and a tuple of numbers -/
theorem eqv_row (n : Int) (as : List Int) : PyData.eqv (.tuple [.int n, .tuple (as.map PyData.int)]) (.tuple [.int n, .tuple (as.map PyData.int)]) = true := by
  unfold PyData.eqv PyData.eqvAll; unfold PyData.eqv PyData.eqvAll
  simp [eqv_intsT, PyData.eqvAll]
theorem dp_row {K : PySem.W.Frag} {H : Hp} {t a : Addr} {n : Int} {as : List Int} (h1 : SqT K H t [.int n, .ref a]) (h2 : SqT K H a (as.map V.int)) : Dp K H (.ref t) (.tuple [.int n, .tuple (as.map PyData.int)]) :=
  .tup h1 (.cons (.int n) (.cons (dp_intsT h2) .nil))
theorem laid_row (n : Int) (as : List Int) : laid 64 (.tuple [.int n, .tuple (as.map PyData.int)]) := laid_tup (n := 63) fun d hd => by
  simp only [List.mem_cons, List.not_mem_nil, or_false] at hd
  rcases hd with rfl | rfl
  · exact laid_int _
  · exact laid_intsT _
theorem k_eqRow {K : PySem.W.Frag} {H : Hp} {Q : VK} {t u a b : Addr} {n : Int} {as : List Int} (h1 : SqT K H t [.int n, .ref a]) (h2 : SqT K H a (as.map V.int)) (h3 : SqT K H u [.int n, .ref b]) (h4 : SqT K H b (as.map V.int)) (q : Q (.bl true) H) : rEqD K (.ref t) (.ref u) H Q :=
  k_eqD (dp_row h1 h2) (dp_row h3 h4) (laid_row n as) (laid_row n as) (by rw [eqv_row]; exact q)
theorem any_int (i : Int) : ∀ ns : List Int, ((ns.map PyData.int).any fun z => PyData.eqv z (.int i)) = decide (i ∈ ns)
  | [] => by simp
  | n :: ns => by
    rw [List.map_cons, List.any_cons, any_int i ns]
    unfold PyData.eqv
    by_cases h : n = i
    · subst h; simp
    · have h' : ¬ i = n := fun z => h z.symm
      simp [h, h']
theorem k_inL {K : PySem.W.Frag} {H : Hp} {Q : VK} {i : Int} {a : Addr} {ns : List Int} (h : SqL K H a (ns.map V.int)) (q : Q (.bl (decide (i ∈ ns))) H) : rInD K (.int i) (.ref a) H Q :=
  ⟨.int i, _, .int i, dp_ints h, laid_shaped (laid_int i), laid_shaped (laid_ints ns), by rw [any_int]; exact q⟩
theorem k_notInL {K : PySem.W.Frag} {H : Hp} {Q : VK} {i : Int} {a : Addr} {ns : List Int} (h : SqL K H a (ns.map V.int)) (q : Q (.bl (!decide (i ∈ ns))) H) : rNotInD K (.int i) (.ref a) H Q :=
  ⟨.int i, _, .int i, dp_ints h, laid_shaped (laid_int i), laid_shaped (laid_ints ns), by rw [any_int]; exact q⟩
section
variable {H : Hp} {K : PySem.W.Frag}
theorem eqvAll_bools : ∀ as bs : List Bool, PyData.eqvAll (as.map PyData.bool) (bs.map PyData.bool) = decide (as = bs)
  | [], [] => by rw [List.map_nil]; unfold PyData.eqvAll; rfl
  | [], b :: bs => by rw [List.map_nil, List.map_cons]; unfold PyData.eqvAll; simp
  | a :: as, [] => by rw [List.map_nil, List.map_cons]; unfold PyData.eqvAll; simp
  | a :: as, b :: bs => by
    rw [List.map_cons, List.map_cons]; unfold PyData.eqvAll
    rw [eqvAll_bools as bs]
    unfold PyData.eqv
    by_cases h : a = b
    · subst h; by_cases h2 : as = bs
      · subst h2; simp
      · simp [h2]
    · simp [h]
theorem eqv_bools (as bs : List Bool) : PyData.eqv (.list (as.map PyData.bool)) (.list (bs.map PyData.bool)) = decide (as = bs) := by
  unfold PyData.eqv; exact eqvAll_bools as bs
theorem dp_bools {a : Addr} {bs : List Bool} (h : SqL K H a (bs.map V.bl)) : Dp K H (.ref a) (.list (bs.map PyData.bool)) := .lst h (dpAll_bools bs)
theorem k_eqB {Q : VK} {a b : Addr} (ns ms : List Bool) (h1 : SqL K H a (ns.map V.bl)) (h2 : SqL K H b (ms.map V.bl)) (q : Q (.bl (decide (ns = ms))) H) : rEqD K (.ref a) (.ref b) H Q :=
  k_eqD (dp_bools h1) (dp_bools h2) (laid_bools ns) (laid_bools ms) (by rw [eqv_bools]; exact q)
end
theorem m_neB {H : Hp} {K : PySem.W.Frag} {Q : VK} {a b : Addr} (ns ms : List Bool) (h1 : SqL K H a (ns.map V.bl)) (h2 : SqL K H b (ms.map V.bl)) (q : Q (.bl (!decide (ns = ms))) H) : rNeD K (.ref a) (.ref b) H Q :=
  k_neD (dp_bools h1) (dp_bools h2) (laid_bools ns) (laid_bools ms) (by rw [eqv_bools]; exact q)
theorem room65 {k : Nat} {A : Around} (r : Room k A) : A.units + 65 < cLine := by have := r.un; omega
/-- list + list, whichever way they are known -/
def rCatK (K : PySem.W.Frag) : R2 := fun x y H Q => ∃ l b xs zs, x = .ref l ∧ y = .ref b ∧ SqL K H l xs ∧ SqL K H b zs ∧ xs.length + zs.length ≤ sizeLine ∧ ∀ p, H p = none → Q (.ref p) (upd H p (.lst (xs ++ zs)))
theorem op_catK {X : Cx} : OpR X (binaryOp .Add) (rCatK X.K) := by
  intro pins s σ H x y v u Q I rx ry h
  obtain ⟨l, b, xs, zs, rfl, rfl, hH, hB, hz, q⟩ := h
  cases rx
  cases ry
  obtain ⟨its, r, ⟨⟨cls, dd, data, sl⟩, n, ho, hc, hdd, hd⟩, hl⟩ := I.list hH
  obtain ⟨its2, r2, ⟨⟨cls2, dd2, data2, sl2⟩, n2, ho2, hc2, hdd2, hd2⟩, hl2⟩ := I.list hB
  simp only at hc hdd hd hc2 hdd2 hd2
  subst hc hdd hd hc2 hdd2 hd2
  have h1 := r.length
  have h2 := r2.length
  refine concat_meets ⟨_, ho, rfl⟩ ⟨_, ho2, rfl⟩ noFill_list_add seq_list_add PySem.F.slot_list_add PySem.F.entry_list_add (PySem.F.args_list_add_2 _ _) (list_addW l b its.toArray its2.toArray n n2 none none sl sl2 (by rw [List.size_toArray, List.size_toArray]; omega)) ⟨ho, ho2, ?_⟩
  have ea : its.toArray ++ its2.toArray = (its ++ its2).toArray := by simp
  rw [ea]
  exact ⟨.ref _, _, I.lnew (t' := s.toks) (r.append r2) (by rw [List.length_append]; omega), rfl, q _ I.fresh⟩
theorem k_catK {H : Hp} {K : PySem.W.Frag} {Q : VK} {l b : Addr} {xs zs : List V} (h1 : SqL K H l xs) (h2 : SqL K H b zs) (hn : xs.length + zs.length ≤ 1000000) (q : ∀ p, H p = none → Q (.ref p) (upd H p (.lst (xs ++ zs)))) : rCatK K (.ref l) (.ref b) H Q :=
  ⟨l, b, xs, zs, rfl, rfl, h1, h2, Nat.le_trans hn (by decide), q⟩
/-! ### len(set(xs)) -/
/-- how many unlike numbers -/
def unlike (ns : List Int) : Nat := (PyProof.Rows.firstMet (fun i => ns.getD i 0) ns.length).length
theorem unlike_le (ns : List Int) : unlike ns ≤ ns.length := PyProof.Rows.firstMet_length_le _ _
def tLenSet (K : PySem.W.Frag) (ta : TE) : TE := fun σ H Q => ta σ H fun x H1 => ∃ (l : Addr) (ns : List Int), x = .ref l ∧ SqL K H1 l (ns.map V.int) ∧ ns.length ≤ 4000 ∧ Q (.int (unlike ns : Nat)) H1
theorem intsAre_vals : ∀ {ns : List Int} {us : List Value}, Vals (ns.map V.int) us → PyProof.Rows.IntsAre us ns
  | [], _, .nil => .nil
  | n :: ns, _, .cons r t => by
    obtain ⟨k, rfl⟩ := r
    exact .cons n k (intsAre_vals t)
theorem pe_lenSet {X : Cx} {a : Expr} {ta : TE} {p p2 q pos : Pos} (hg : Gl X "len") (hm : X.mg "len" = none) (hg2 : Gl X "set") (hm2 : X.mg "set" = none) (ha : PE X a ta) (hc : X.calm = true := by rfl)
    (na : starEach [a] X.env = (false, eval a X.env) :: starEach [] X.env := by rfl) : PE X (.Call (.Name "len" p) [.Call (.Name "set" p2) [a] [] q] [] pos) (tLenSet X.K ta) := by
  refine ⟨fun pins s σ H Q I h => ?_⟩
  refine Call_ (ld_blt I hg hm boot_len ?_)
  refine PyProof.Rows.callWith_builtin1 (PyProof.Rows.args_cons ?_ rfl) rfl rfl
  refine Call_ (ld_blt I hg2 hm2 boot_set ?_)
  refine PyProof.Rows.callWith_type1 (PyProof.Rows.args_cons (thn (ha.run pins s σ H _ I h) fun v s1 ⟨x, H1, I1, r1, q1⟩ => PyProof.Rows.args_nil ?_) na) na rfl
  obtain ⟨l, ns, rfl, hq, hl, q1⟩ := q1
  cases r1
  obtain ⟨its, r, pl, hz⟩ := I1.list hq
  have hlen : its.toArray.size = ns.length := by rw [List.size_toArray, ← r.length, List.length_map]
  refine call_set_list (I1.ok.hd hc) pl.isList (by simpa using intsAre_vals r) (by rw [hlen]; unfold scanBound; omega) fun h' tk hS hk => ?_
  refine PyProof.Rows.args_nil ?_
  rw [hlen] at hS
  obtain ⟨o, es, ep, t, ho, hex, hd, _, _, _, hf, hn⟩ := hS
  have I2 : Inv X pins σ H1 { s1 with heap := h', toks := tk } := I1.kept fun b o e => hk b o (Heap.lt_size e) e
  have hu := unlike_le ns
  unfold unlike at hu q1
  exact call_len_set ho hex hd hf (by rw [hn] <;> omega) ⟨.int ((PyProof.Rows.firstMet (fun i => ns.getD i 0) ns.length).length : Nat), H1, I2.tok _, ⟨_, by rw [hn]⟩, q1⟩
section
variable {σ : L2.St} {H : Hp} {Q : VK} {K : PySem.W.Frag} {te : TE}
def LenSetK (K : PySem.W.Frag) (Q : VK) (x : V) (H : Hp) : Prop := ∃ (l : Addr) (ns : List Int), x = .ref l ∧ SqL K H l (ns.map V.int) ∧ ns.length ≤ 4000 ∧ Q (.int (unlike ns : Nat)) H
theorem m_lenSet (h : te σ H (LenSetK K Q)) : tLenSet K te σ H Q := h
theorem m_lenSetE {l : Addr} {ns : List Int} (hS : SqL K H l (ns.map V.int)) (hl : ns.length ≤ 4000) (q : Q (.int (unlike ns : Nat)) H) : LenSetK K Q (.ref l) H := ⟨l, ns, rfl, hS, hl, q⟩
end
/-! ### errors: raised, let through, caught -/
section
variable {X : Cx} {E : XK} {W : WX} {k j : Nat} {ps : List Str} {sp : Sp} {x : Str} {p pos : Pos} {e : Expr} {es : List Expr} {t : TA}
theorem passX (tk : Takes X (fun cls d _ H => E cls d H)) : Passes (L2.CX X.prog X.w) X E := passes_call tk fun _ _ _ _ h => h
/-- raise C('..') -/
def tRz (W : WX) (C : Addr) : TS := fun _ σ H => W (.ref C) none σ H
/-- what stands of the class x: it can be raised -/
structure ExF (K : PySem.W.Frag) (mg : Str → Option Value) (x : Str) : Prop where
  gl : mg x = some (.ref (He.ga K x))
  ex : PySem.W.excIn K (He.ga K x) He.veBase "ValueError.__new__" = true
  kp : PySem.W.keepIn K (.ref (He.ga K x)) = true
  sb : PySem.W.subIn K (.ref (He.ga K x)) (.type "BaseException") = some true
  ty : PySem.W.typeIn K (.ref (He.ga K x)) = some (.type "type")
theorem ps_rz {m : Str} {j : Nat} {p2 pos2 : Pos} (F : ExF X.K X.mg x) (tk : Takes X W) (hc : X.calm = true := by rfl) (hg : Gl X x := by rfl) (hdb : (x == ("__debug__" : Str)) = false := by decide) :
    PS X (.Raise (some (.Call (.Name x p) [.Constant (.str m) j p2] [] pos)) none pos2) (tRz W (He.ga X.K x)) :=
  ps_raise hc tk (pmk_own PySem.F.excBase_ValueError F.ex F.gl F.kp (raises_own F.sb F.ty) hg hdb)
theorem k_rz {D : Ends} {C : Addr} {σ : L2.St} {H : Hp} (h : W (.ref C) none σ H) : tRz W C D σ H := h
/-- a call within a try's body -/
theorem pe_callFS (F : Okf X.prog X.w X.K X.mg X.base (L2.CX X.prog X.w) k x ps sp) (hr : Room j X.A) (hk : k ≤ j) (hg : Gl X x) (tk : Takes X W)
    (ha : PA X (e :: es) t) (hdb : (x == ("__debug__" : Str)) = false := by decide) (he : starEach (e :: es) X.env = (false, eval e X.env) :: starEach es X.env := by rfl) (hpl : (backTo pos (starEach es X.env)).any (·.1) = false := by rfl) :
    PE X (.Call (.Name x p) (e :: es) [] pos) (tCallS sp (WE W) t) := by
  obtain ⟨fd, _, hb, ok⟩ := F.ex
  exact pe_callS ok (hr.mono hk) hg F.gl F.kp hb (fun σ => passAt tk σ) ha hdb he hpl
theorem m_callS {E : L2.St → XK} {σ : L2.St} {H : Hp} {Q : VK} (h : t σ H fun vs H1 => sp vs H1 Q (E σ)) : tCallS sp E t σ H Q := h
/-- try: .. except C as n | except C -/
def tTryAs (K : PySem.W.Frag) (c : Value) (i : Nat) (tb : WX → TS) (ts : Addr → Value → Option Addr → TS) (Wout : WX) : TS := fun D σ H => tb (wAs K c i ts Wout D) D σ H
def tTryOnly (K : PySem.W.Frag) (c : Value) (tb : WX → TS) (ts : Addr → Value → Option Addr → TS) (Wout : WX) : TS := fun D σ H => tb (wOnly K c ts Wout D) D σ H
section
variable {K : PySem.W.Frag} {c cls : Value} {d : Option Addr} {i : Nat} {tb : WX → TS} {ts : Addr → Value → Option Addr → TS} {Wout : WX} {σ : L2.St} {H : Hp} {rt : VK} {nx bk ct : L2.St → Hp → Prop}
theorem m_tryAs (h : tb (wAs K c i ts Wout (Ends.mk nx rt bk ct)) (Ends.mk nx rt bk ct) σ H) : tTryAs K c i tb ts Wout (Ends.mk nx rt bk ct) σ H := h
theorem m_tryOnly (h : tb (wOnly K c ts Wout (Ends.mk nx rt bk ct)) (Ends.mk nx rt bk ct) σ H) : tTryOnly K c tb ts Wout (Ends.mk nx rt bk ct) σ H := h
theorem m_caught (he : PySem.W.exmOne K cls c = some true) (h : ∀ a, H a = none → ts a cls d (Ends.mk (fun σ' H' => nx (σ'.set i none) H') rt (fun σ' H' => bk (σ'.set i none) H') (fun σ' H' => ct (σ'.set i none) H')) (σ.set i (some (.ref a))) H) :
    WE (wAs K c i ts Wout (Ends.mk nx rt bk ct)) σ cls d H := ⟨true, he, fun _ => h, fun z => Bool.noConfusion z⟩
theorem m_passed (he : PySem.W.exmOne K cls c = some false) (h : Wout cls d σ H) : WE (wAs K c i ts Wout (Ends.mk nx rt bk ct)) σ cls d H := ⟨false, he, fun z => Bool.noConfusion z, fun _ => h⟩
theorem m_caughtO (he : PySem.W.exmOne K cls c = some true) (h : ∀ a, H a = none → ts a cls d (Ends.mk nx rt bk ct) σ H) :
    WE (wOnly K c ts Wout (Ends.mk nx rt bk ct)) σ cls d H := ⟨true, he, fun _ => h, fun z => Bool.noConfusion z⟩
theorem m_passedO (he : PySem.W.exmOne K cls c = some false) (h : Wout cls d σ H) : WE (wOnly K c ts Wout (Ends.mk nx rt bk ct)) σ cls d H := ⟨false, he, fun z => Bool.noConfusion z, fun _ => h⟩
end
/-! ### several except clauses, each with a name -/
def endN (i : Nat) (D : Ends) : Ends := Ends.mk (fun τ G => D.nx (τ.set i none) G) D.rt (fun τ G => D.bk (τ.set i none) G) (fun τ G => D.ct (τ.set i none) G)
def wManyA (K : PySem.W.Frag) (Wout : WX) (D : Ends) : List (Value × Nat × (Addr → Value → Option Addr → TS)) → WX
  | [] => Wout
  | (c, i, ts) :: l => fun cls d τ G => ∃ b, PySem.W.exmOne K cls c = some b ∧ (b = true → ∀ x, G x = none → ts x cls d (endN i D) (τ.set i (some (.ref x))) G) ∧ (b = false → wManyA K Wout D l cls d τ G)
inductive HdsA (X : Cx) : List ExceptHandler → List (Value × Nat × (Addr → Value → Option Addr → TS)) → Prop
  | nil : HdsA X [] []
  | cons {y n : Str} {c : Value} {i : Nat} {ts : Addr → Value → Option Addr → TS} {st : Stmt} {sts : List Stmt} {q1 q2 : Pos} {hs : List ExceptHandler} {l : List (Value × Nat × (Addr → Value → Option Addr → TS))} (hi : X.N[i]? = some n) (hl : X.env.kindOf n = some .local) (hc : Names X y c)
      (hb : ∀ (x : Addr) (ob : Obj) (cls : Value) (d : Option Addr) (pn : List (Addr × Obj)), Zc cls d ob → (∃ vs, ob.data = .fields vs) → PSs (X.suite x ((x, ob) :: pn)) (st :: sts) (ts x cls d)) (r : HdsA X hs l) : HdsA X (.ExceptHandler (some (.Name y q1)) (some n) (st :: sts) q2 :: hs) ((c, i, ts) :: l)
theorem ps_tryManyA {X : Cx} {body : List Stmt} {h₀ : ExceptHandler} {hds : List ExceptHandler} {l : List (Value × Nat × (Addr → Value → Option Addr → TS))} {pos : Pos} {tb : WX → TS} {Wout : WX} (stk : X.stack = X.env :: X.outer) (lf : X.env.frame = some X.env.locals) (nd : X.N.Nodup) (tk : Takes X Wout)
    (hb : ∀ (W : WX) (pn : List (Addr × Obj)) (xe : Value → Shared → Prop), Takes (X.tr pn xe) W → PassesOwn (model X.prog X.w) X.A X.env xe → PSs (X.tr pn xe) body (tb W)) (hh : HdsA X (h₀ :: hds) l) : PS X (.Try body (h₀ :: hds) [] [] pos) (fun D τ G => tb (wManyA X.K Wout D l) D τ G) := by
  refine ⟨fun pins s τ G D I h => ?_⟩
  have ok0 := I.ok
  have fr0 : X.A.frames = some (X.env :: X.outer) := by rw [ok0.frames, stk]
  refine wpAny_Try_except (wpAny_mono ((hb (wManyA X.K Wout D l) (X.pn ++ pins) (fun e s₁ => wpAny (model X.prog X.w) X.A (noteFrame e X.env) (fun _ s₂ => wpAny (model X.prog X.w) X.A (setFlight e none) (fun _ s₃ => wpAny (model X.prog X.w) X.A (handleBy e X.env (h₀ :: hds)) (SP X pins D) X.xe s₃) X.xe s₂) X.xe s₁) (fun u s' xx => ?_) PassesOwn.looking).run [] s τ G D (I.toTry _) h) (fun f s1 hq => ?_) (fun e s1 he => he))
  · obtain ⟨x, B, si, pins2, τ1, G1, cls, d, rfl, j1, nb, up1, sk1, nx, eos, eag, wish⟩ := xx
    have j0 : Inv X pins τ1 G1 si := j1.ofTry ok0
    have sk2 : Sky B (X.env :: X.outer) x (Zc cls d) X.env.locals s'.heap := by rw [← stk]; exact sk1
    show wpAny (model X.prog X.w) X.A (noteFrame (.ref x) X.env) _ _ _; refine Sky.land Zc.steady fr0 lf sk2 fun h3 fl3 up3 => ?_
    have j3 : Inv X pins τ1 G1 { s' with heap := h3 } := j0.landed nb fl3.1 (up1.trans up3) eos eag
    obtain ⟨o3, vs3, ho3, hz3, hd3⟩ := fl3.there
    have nfr : x ∉ frs (X.env :: X.outer) := fun hm => by
      obtain ⟨_, o2, e2, hnf⟩ := fl3.2.2.1.mem hm; rw [ho3] at e2; cases e2; exact hnf _ hd3
    have nL : x ≠ X.env.locals := fun z => nfr (List.mem_filterMap.mpr ⟨X.env, List.mem_cons_self, by rw [lf, z]⟩)
    have nF : x ∉ X.fs := fun hm => by
      obtain ⟨e, he, q⟩ := List.mem_filterMap.mp hm; exact nfr (List.mem_filterMap.mpr ⟨e, List.mem_cons_of_mem _ he, q⟩)
    have suite3 := j3.suite ho3 hd3 nx nL nF
    have go : ∀ {hs' : List ExceptHandler} {l' : List (Value × Nat × (Addr → Value → Option Addr → TS))}, HdsA X hs' l' → wManyA X.K Wout D l' cls d τ1 G1 → wpAny (model X.prog X.w) X.A (handleBy (.ref x) X.env hs') (SP X pins D) X.xe { s' with heap := h3 } := by
      intro hs' l' hk
      induction hk with
      | nil =>
        intro wish
        refine wpAny_handleBy_nil ?_; obtain ⟨k1, k2, k3, oe, vs, tt, oT, ts', he, hz, hd, h1, hr⟩ := id fl3
        unfold PySem.passOn; refine wpAny_bind (wpAny_field he hd h1 ?_)
        rw [if_neg (show ¬ ((Value.ref tt == Value.none) = true) from by simp)]
        have fin : wpAny (model X.prog X.w) X.A (setFlight (.ref x) X.env.frame) (fun _ s4 => wpAny (model X.prog X.w) X.A (throw (.ref x) : Sem Flow) (SP X pins D) X.xe s4) X.xe { s' with heap := h3 } := by
          rw [lf]; refine HandSPX.setFlight_upZ fl3 fun h4 hh4 up4 => wpAny_throw (tk _ _ ?_)
          exact ⟨x, B, si, pins, τ1, G1, cls, d, rfl, j0, nb, (up1.trans up3).trans up4, .inr (.inr (by rw [stk]; exact hh4)), nx, eos, eag, wish⟩
        first | exact wpAny_bind (wpAny_pure (wpAny_bind fin)) | exact wpAny_bind fin
      | @cons y n c i ts st sts q1 q2 hs2 l2 hi hl hc hsu r ih =>
        intro wish
        obtain ⟨b, hb1, yes, no⟩ := wish
        refine wpAny_handleBy_cons (codeAny_handlers_test ?_) (by intro q; cases q); have lt : PySem.W.Looks (model X.prog X.w) h3 (typeOf (.ref x)) cls := fun A Q E s k q => wpAny_typeOf_ref (k _ _ ho3) (by rw [hz3.1]; exact q)
        have lm := PySem.W.exm_one (M := model X.prog X.w) (j3.kIn) lt hb1
        have test : ∀ {Q : Value → Shared → Prop} {E : Value → Shared → Prop}, Q c { s' with heap := h3 } → wpAny (model X.prog X.w) (X.A.mark (some (.ref x))) (eval (.Name y q1) X.env) Q E { s' with heap := h3 } := fun {Q E} q => by
          obtain ⟨hg, hdbg, hm | ⟨hm, hv, hnn⟩⟩ := hc
          · exact ld_glob (X := X.suite x ((x, o3) :: (X.pn ++ pins))) suite3 hg hm q hdbg
          · exact ld_blt (X := X.suite x ((x, o3) :: (X.pn ++ pins))) suite3 hg hm hv q hnn hdbg
        refine test (lm.here ?_)
        cases b with
        | true =>
          refine codeAny_handlers_suite_as (HandSPX.lands_againZ fl3 fun h4 fl4 up4 => ?_)
          have j4 : Inv X pins τ1 G1 { s' with heap := h4 } := j0.landed nb fl4.1 ((up1.trans up3).trans up4) eos eag
          obtain ⟨o4, vs4, ho4, hz4, hd4⟩ := fl4.there
          refine store_ok (X := X.suite x ((x, o4) :: (X.pn ++ pins))) (v := .ref x) (j4.suite ho4 hd4 nx nL nF) nd hi (.inl hl) rfl (fun s5 S5 => ?_) (.inr hl)
          refine wpAny_mono ((hsu x o4 cls d (X.pn ++ pins) hz4 ⟨_, hd4⟩).run [] s5 _ G1 _ S5 (yes rfl x nx)) (fun f s6 hq => ?_) (fun _ _ z => False.elim z)
          have fin : ∀ {τ6 : L2.St} {G6 : Hp} {Q : Shared → Prop}, Inv (X.suite x ((x, o4) :: (X.pn ++ pins))) [] τ6 G6 s6 → (∀ s7, Inv X pins (τ6.set i none) G6 s7 → Q s7) → wpAny (model X.prog X.w) X.A (do bindName X.env n .none; unbindBehindTheSuite X.env n q2) (fun _ s7 => Q s7) X.xe s6 := fun {τ6 G6 Q} S6 hq => gone_ok (S6.unsuite ok0) nd hi hl hq
          cases f with
          | next => obtain ⟨τ6, G6, S6, q6⟩ := hq; exact fin S6 fun s7 J7 => ⟨_, _, J7, q6⟩
          | brk => obtain ⟨τ6, G6, S6, q6⟩ := hq; exact fin S6 fun s7 J7 => ⟨_, _, J7, q6⟩
          | cont => obtain ⟨τ6, G6, S6, q6⟩ := hq; exact fin S6 fun s7 J7 => ⟨_, _, J7, q6⟩
          | ret u => obtain ⟨v6, τ6, G6, S6, r6, q6⟩ := hq; exact fin S6 fun s7 J7 => ⟨_, _, _, J7, r6, q6⟩
        | false => exact ih (no rfl)
    exact go hh wish
  · cases f with
    | next => obtain ⟨τ1, G1, j1, q⟩ := hq; exact wpAny_execs_nil ⟨τ1, G1, j1.ofTry ok0, q⟩
    | brk => obtain ⟨τ1, G1, j1, q⟩ := hq; exact ⟨τ1, G1, j1.ofTry ok0, q⟩
    | cont => obtain ⟨τ1, G1, j1, q⟩ := hq; exact ⟨τ1, G1, j1.ofTry ok0, q⟩
    | ret u => obtain ⟨v, τ1, G1, j1, r, q⟩ := hq; exact ⟨v, τ1, G1, j1.ofTry ok0, r, q⟩
def tTryM (K : PySem.W.Frag) (tb : WX → TS) (l : List (Value × Nat × (Addr → Value → Option Addr → TS))) (Wout : WX) : TS := fun D τ G => tb (wManyA K Wout D l) D τ G
section
variable {K : PySem.W.Frag} {c cls : Value} {d : Option Addr} {i : Nat} {tb : WX → TS} {ts : Addr → Value → Option Addr → TS} {Wout : WX} {σ : L2.St} {H : Hp} {rt : VK} {nx bk ct : L2.St → Hp → Prop} {l : List (Value × Nat × (Addr → Value → Option Addr → TS))}
theorem m_tryM (h : tb (wManyA K Wout (Ends.mk nx rt bk ct) l) (Ends.mk nx rt bk ct) σ H) : tTryM K tb l Wout (Ends.mk nx rt bk ct) σ H := h
theorem m_caughtM (he : PySem.W.exmOne K cls c = some true) (h : ∀ a, H a = none → ts a cls d (Ends.mk (fun σ' H' => nx (σ'.set i none) H') rt (fun σ' H' => bk (σ'.set i none) H') (fun σ' H' => ct (σ'.set i none) H')) (σ.set i (some (.ref a))) H) :
    WE (wManyA K Wout (Ends.mk nx rt bk ct) ((c, i, ts) :: l)) σ cls d H := ⟨true, he, fun _ => h, fun z => Bool.noConfusion z⟩
theorem m_nextM (he : PySem.W.exmOne K cls c = some false) (h : WE (wManyA K Wout (Ends.mk nx rt bk ct) l) σ cls d H) : WE (wManyA K Wout (Ends.mk nx rt bk ct) ((c, i, ts) :: l)) σ cls d H := ⟨false, he, fun z => Bool.noConfusion z, fun _ => h⟩
end
/-- isinstance(e, c), e the error that the suite holds -/
def rIsX (K : PySem.W.Frag) (cls : Value) (d : Option Addr) (a : Addr) : List V → Hp → VK → Prop := fun xs H Q => ∃ D, cls = .ref D ∧ d = none ∧ ExcC K D ∧ rIsE K D a xs H Q
theorem call_isX {a : Addr} {oe : Obj} {cls : Value} {d : Option Addr} {pn : List (Addr × Obj)} (hz : Zc cls d oe) (hf : ∃ vs, oe.data = .fields vs) : CallR (X.suite a ((a, oe) :: pn)) (.builtin "isinstance") (rIsX X.K cls d a) := by
  intro pins s σ H xs us Q I r h
  obtain ⟨D, rfl, rfl, C, h⟩ := h
  exact call_isE C hz hf pins s σ H xs us Q I r h
theorem k_isX {K : PySem.W.Frag} {D C a : Addr} {b : Bool} {H : Hp} {Q : VK} (h : ExcC K D) (e : PySem.W.kitOne K (.ref D) (.ref C) = some b) (q : Q (.bl b) H) : rIsX K (.ref D) none a [.ref a, .ref C] H Q :=
  ⟨D, rfl, rfl, h, .ref C, .ref C, b, rfl, fun _ r => r, e, q⟩
theorem k_isXty {K : PySem.W.Frag} {D a : Addr} {n : String} {b : Bool} {H : Hp} {Q : VK} (h : ExcC K D) (e : PySem.W.kitOne K (.ref D) (.type n) = some b) (q : Q (.bl b) H) : rIsX K (.ref D) none a [.ref a, .ty n] H Q :=
  ⟨D, rfl, rfl, h, .ty n, .type n, b, rfl, fun _ r => r, e, q⟩
end
/-- isinstance(e, (c1, c2, ..)), all of them own classes -/
def rIsXT (K : PySem.W.Frag) (cls : Value) (d : Option Addr) (a : Addr) : List V → Hp → VK → Prop := fun xs H Q => ∃ (D tp : Addr) (cs : List Addr) (b : Bool), cls = .ref D ∧ d = none ∧ ExcC K D ∧ xs = [.ref a, .ref tp] ∧ H tp = some (.tup (cs.map V.ref)) ∧ PySem.W.kitAny K (.ref D) (cs.map Value.ref) = some b ∧ Q (.bl b) H
theorem clsV_all : ∀ cs : List Addr, Paired ClsV (cs.map V.ref) (cs.map Value.ref)
  | [] => .nil
  | c :: cs => .cons (.own c) (clsV_all cs)
theorem call_isXT {X : Cx} {a : Addr} {oe : Obj} {cls : Value} {d : Option Addr} {pn : List (Addr × Obj)} (hz : Zc cls d oe) (hf : ∃ vs, oe.data = .fields vs) : CallR (X.suite a ((a, oe) :: pn)) (.builtin "isinstance") (rIsXT X.K cls d a) := by
  intro pins s σ H xs us Q I r h
  obtain ⟨D, tp, cs, b, rfl, rfl, C, rfl, hT, e, q⟩ := h
  obtain ⟨u1, u2, rfl, r1, r2⟩ := vals2 r
  cases (show u1 = Value.ref a from r1)
  cases (show u2 = Value.ref tp from r2)
  obtain ⟨hget, _⟩ := I.pin (a, oe) (List.mem_append.mpr (.inl List.mem_cons_self))
  obtain ⟨vs, hv⟩ := hf
  have J : PySem.W.InstAt s.heap a oe D none := by
    obtain ⟨oc, od, oda, osl⟩ := oe
    obtain ⟨h1, h2⟩ := hz
    dsimp only at h1 h2 hv
    subst h1 h2 hv
    exact ⟨hget, rfl, rfl, trivial⟩
  obtain ⟨_, its, rv, o, h1, h2, n, h3⟩ := (show ObjOk X.prog X.w H s.heap tp (.tup (cs.map V.ref)) from I.hok tp _ hT)
  have e3 := ClsV.all (clsV_all cs) rv
  subst e3
  obtain ⟨oc, od, dt, sl⟩ := o
  simp only at h2 h3
  subst h2 h3
  exact PySem.W.kia_tup (PySem.W.handS_kitx_exc C.hg C.hk C.hs C.hd C.ha C.hn C.ht C.hm) I.kIn J h1 e (fun z => nomatch z) fun tk => ⟨.bl b, H, I.kept (t' := tk) fun _ _ z => z, rfl, q⟩
theorem kitAny_no {K : PySem.W.Frag} {t : Value} : ∀ us : List Value, (∀ u ∈ us, PySem.W.kitOne K t u = some false) → PySem.W.kitAny K t us = some false
  | [], _ => rfl
  | u :: us, h => kitAny_cons (h u List.mem_cons_self) (fun _ => kitAny_no us fun x hx => h x (List.mem_cons_of_mem _ hx)) (fun z => Bool.noConfusion z)
theorem k_isXT {K : PySem.W.Frag} {D a tp : Addr} {b : Bool} {H : Hp} {Q : VK} (cs : List Addr) (hT : H tp = some (.tup (cs.map V.ref))) (h : ExcC K D) (e : PySem.W.kitAny K (.ref D) (cs.map Value.ref) = some b) (q : Q (.bl b) H) : rIsXT K (.ref D) none a [.ref a, .ref tp] H Q :=
  ⟨D, tp, cs, b, rfl, rfl, h, rfl, hT, e, q⟩
/-! ### the head's facts, with what is asked of errors -/
inductive Fx where
  | excC (x : Str)
  | kit (x y : Str) (b : Bool)
  | kitT (x : Str) (t : String) (b : Bool)
  | exm (x y : Str) (b : Bool)
def Fx.ok (K : PySem.W.Frag) : Fx → Bool
  | .excC x => He.eqO (PySem.W.findIn K (.ref (He.ga K x)) "__getattribute__") (some (some (.builtin "BaseException.__getattribute__"))) && (He.eqO (PySem.W.findIn K (.ref (He.ga K x)) "__getattr__") (some none) &&
      (decide (PySem.W.subIn K (.ref (He.ga K x)) (.type "BaseException") = some true) && (PySem.W.hasDictIn K (He.ga K x) && (He.eqO (PySem.W.findIn K (.ref (He.ga K x)) "__class__") (some (some (.builtin "object.__class__"))) &&
      (He.eqO (PySem.W.specialIn K (.builtin "object.__class__") "__get__") (some (some (.builtin "getset_descriptor.__get__"))) && (decide (PySem.W.takesIn K (.builtin "object.__class__") = some true) && decide (PySem.W.mroIn K (He.ga K x) (.type "object") = some true)))))))
  | .kit x y b => decide (PySem.W.kitOne K (.ref (He.ga K x)) (.ref (He.ga K y)) = some b)
  | .kitT x t b => decide (PySem.W.kitOne K (.ref (He.ga K x)) (.type t) = some b)
  | .exm x y b => decide (PySem.W.exmOne K (.ref (He.ga K x)) (.ref (He.ga K y)) = some b)
theorem Fx.excC_ok {K : PySem.W.Frag} {x : Str} (c : (Fx.excC x).ok K = true) : ExcC K (He.ga K x) := by
  obtain ⟨c1, c⟩ := He.ba c
  obtain ⟨c2, c⟩ := He.ba c
  obtain ⟨c3, c⟩ := He.ba c
  obtain ⟨c4, c⟩ := He.ba c
  obtain ⟨c5, c⟩ := He.ba c
  obtain ⟨c6, c⟩ := He.ba c
  obtain ⟨c7, c8⟩ := He.ba c
  exact ⟨He.eqO_ok c1, He.eqO_ok c2, of_decide_eq_true c3, c4, He.eqO_ok c5, He.eqO_ok c6, of_decide_eq_true c7, of_decide_eq_true c8⟩
theorem Fx.kit_ok {K : PySem.W.Frag} {x y : Str} {b : Bool} (c : (Fx.kit x y b).ok K = true) : PySem.W.kitOne K (.ref (He.ga K x)) (.ref (He.ga K y)) = some b := of_decide_eq_true c
theorem Fx.kitT_ok {K : PySem.W.Frag} {x : Str} {t : String} {b : Bool} (c : (Fx.kitT x t b).ok K = true) : PySem.W.kitOne K (.ref (He.ga K x)) (.type t) = some b := of_decide_eq_true c
theorem Fx.exm_ok {K : PySem.W.Frag} {x y : Str} {b : Bool} (c : (Fx.exm x y b).ok K = true) : PySem.W.exmOne K (.ref (He.ga K x)) (.ref (He.ga K y)) = some b := of_decide_eq_true c
abbrev AlF : Type := He.AlD × Bool
def obsF (fa : List He.Fa) (fn : List He.DefD) (fx : List Fx) (K : PySem.W.Frag) : AlF := (He.obsD fa fn K, fx.all fun f => f.ok K)
def SaysF (fa : List He.Fa) (fn : List He.DefD) (fx : List Fx) (K : PySem.W.Frag) : Prop := obsF fa fn fx K = (He.valD fn, true)
def obsFG (n : Nat) (fa : List He.Fa) (fn : List He.DefD) (fx : List Fx) (g : Addr → Option Obj) : AlF := obsF fa fn fx (He.frG g (He.asD g n))
def hookF (n : Nat) (fa : List He.Fa) (fn : List He.DefD) (fx : List Fx) : PySem.W.Hook where
  α := AlF
  obs := fun s => obsFG n fa fn fx s.heap.get?
  val := fun _ => (He.valD fn, true)
  says := fun _ h => ∃ K : PySem.W.Frag, K.In h ∧ SaysF fa fn fx K
  of := fun _ _ e => ⟨_, He.frG_in, e⟩
  keeps := fun _ _ _ ⟨K, hK, c⟩ k => ⟨K, PySem.W.Frag.In.keeps hK k, c⟩
theorem obsFG_eq {n : Nat} {fa : List He.Fa} {fn : List He.DefD} {fx : List Fx} {g : Addr → Option Obj} {s : Shared} (h : ∀ a, g a = s.heap.get? a) : obsFG n fa fn fx g = (hookF n fa fn fx).obs s := by
  have e : g = s.heap.get? := funext h
  rw [e] <;> rfl
theorem SaysF.d {fa : List He.Fa} {fn : List He.DefD} {fx : List Fx} {K : PySem.W.Frag} (c : SaysF fa fn fx K) : He.SaysD fa fn K := congrArg (fun z : AlF => z.1) c
theorem SaysF.fx {fa : List He.Fa} {fn : List He.DefD} {fx : List Fx} {K : PySem.W.Frag} (c : SaysF fa fn fx K) (i : Nat) {f : Fx} (h : fx[i]? = some f := by rfl) : f.ok K = true := by
  have c1 : (fx.all fun f => f.ok K) = true := congrArg (fun z : AlF => z.2) c
  exact List.all_eq_true.mp c1 f (List.mem_of_getElem? h)
end Tw
namespace Tw
open PySem PySem.Spec PyProof.Rows L2 NdefX LamX
/-! ### closures: captured cells, tracked once the maker has returned -/
theorem relV_fun : ∀ {v v' : V} {u : Value}, L2.RelV v u → L2.RelV v' u → v = v' := by
  intro v v' u a b
  cases v <;> cases v' <;> simp only [L2.RelV] at a b <;> first | rfl | (subst a; obtain ⟨_, b⟩ := b; cases b; done) | (subst a; cases b; rfl) | (subst a; cases b; done) | (obtain ⟨_, rfl⟩ := a; obtain ⟨_, b⟩ := b; cases b; rfl) | (obtain ⟨_, rfl⟩ := a; obtain ⟨_, b⟩ := b; cases b; done) | (obtain ⟨_, rfl⟩ := a; cases b; done)
def CellO (c : Addr) (v : V) : HO := .ext fun h => ∃ u, L2.RelV v u ∧ h.IsCell c (some u)
def hide (C : Addr → Prop) [DecidablePred C] (H : Hp) : Hp := fun b => if C b then none else H b
def unhide (C : Addr → Prop) [DecidablePred C] (H H' : Hp) : Hp := fun b => if C b then H b else H' b
section
variable {P : Program} {w : World} {K : PySem.W.Frag} {mg : Str → Option Value} {base : Heap} {A : Around} {outer : List Env} {s s' : Shared} {H H' H3 : Hp} {C : Addr → Prop} [DecidablePred C]
theorem hide_in {b : Addr} (h : C b) : hide C H b = none := if_pos h
theorem hide_out {b : Addr} (h : ¬ C b) : hide C H b = H b := if_neg h
theorem unhide_in {b : Addr} (h : C b) : unhide C H H' b = H b := if_pos h
theorem unhide_out {b : Addr} (h : ¬ C b) : unhide C H H' b = H' b := if_neg h
/-- all that is hidden are cells -/
def Cells (C : Addr → Prop) (H : Hp) : Prop := ∀ b, C b → ∃ v, H b = some (CellO b v)
theorem Cells.not (hC : Cells C H) {b : Addr} {o : HO} (e : H b = some o) (n : ∀ φ, o ≠ .ext φ) : ¬ C b := fun z => by
  obtain ⟨v, q⟩ := hC b z
  rw [e] at q
  exact n _ (Option.some.inj q)
theorem hok_hide (ok : HOk P w H s.heap) (hC : Cells C H) : HOk P w (hide C H) s.heap := fun a o e => by
  by_cases ha : C a
  · rw [hide_in ha] at e; cases e
  · rw [hide_out ha] at e
    exact (ok a o e).stay (fun _ _ _ q => q) (fun b q => (hide_out (hC.not q fun _ z => nomatch z)).trans q) fun b xs q => (hide_out (hC.not q fun _ z => nomatch z)).trans q
theorem env0_hide (e0 : Env0 P w K mg base A outer s H) (hC : Cells C H) : Env0 P w K mg base A outer s (hide C H) := by
  have hn : ∀ {b}, H b = none → hide C H b = none := fun {b} q => by
    by_cases hb : C b
    · exact hide_in hb
    · exact (hide_out hb).trans q
  exact ⟨e0.frames, e0.mod, fun b o e => ⟨(e0.bs b o e).1, hn (e0.bs b o e).2⟩, e0.bsz, e0.funs, fun b hb => hn (e0.frf b hb), hok_hide e0.hok hC, e0.bare⟩
theorem cellO_get {c : Addr} {v : V} (ok : HOk P w H s.heap) (e : H c = some (CellO c v)) : ∃ u, L2.RelV v u ∧ s.heap.IsCell c (some u) := (ok c _ e).1
theorem ce_unhide {Q : VK} {u : Value} (ok : HOk P w H s.heap) (hC : Cells C H) (h : CE outer P w (hide C H) s (fun v H' => Q v (unhide C H H')) u s') : CE outer P w H s Q u s' := by
  obtain ⟨v, H', os, bare, un, ok', r, q⟩ := h
  have some_out : ∀ {b}, H b = none → ¬ C b := fun {b} n z => by
    obtain ⟨v, e⟩ := hC b z
    rw [n] at e; cases e
  have hn : ∀ {b}, H b = none → hide C H b = none := fun {b} n => (hide_out (some_out n)).trans n
  have gone : ∀ {b}, C b → H' b = none := fun {b} z => by
    obtain ⟨v, e⟩ := hC b z
    obtain ⟨_, _, o, ho, _⟩ := cellO_get ok e
    exact un.free b o ho (hide_in z) (by simp)
  refine ⟨v, unhide C H H', os, bare, ⟨fun b o e n => un.keep b o e (hn n), fun b o e n => un.slot b o e (hn n), fun b o e n hx => ?_, un.there, fun b xs e => ?_, fun b o u e => ?_, fun b ps e => ?_⟩, fun a o e => ?_, r, q⟩
  · rw [unhide_out (some_out n)]; exact un.free b o e (hn n) hx
  · have hb : ¬ C b := hC.not e fun _ z => nomatch z
    rw [unhide_out hb]; exact un.tups b xs (by rw [hide_out hb]; exact e)
  · have hb : ¬ C b := hC.not e fun _ z => nomatch z
    rw [unhide_out hb]; exact un.frzs b o u (by rw [hide_out hb]; exact e)
  · have hb : ¬ C b := hC.not e fun _ z => nomatch z
    rw [unhide_out hb]; exact un.tbls b ps (by rw [hide_out hb]; exact e)
  · by_cases ha : C a
    · rw [unhide_in ha] at e
      obtain ⟨v, q⟩ := hC a ha
      rw [e] at q; cases q
      obtain ⟨⟨u, ru, ob, ho, hd⟩, _, st⟩ := ok a _ e
      obtain ⟨sl, h2⟩ := un.any ho (hide_in ha) (by simp)
      exact ⟨⟨u, ru, _, h2, hd⟩, ⟨_, h2⟩, st⟩
    · rw [unhide_out ha] at e
      refine (ok' a o e).stay (fun _ _ _ q => q) (fun b q => ?_) fun b xs q => ?_
      · by_cases hb : C b
        · rw [gone hb] at q; cases q
        · rw [unhide_out hb]; exact q
      · by_cases hb : C b
        · rw [gone hb] at q; cases q
        · rw [unhide_out hb]; exact q
end
/-! ### functions that are called by a value -/
def IsFn (H : Hp) (f : Addr) : Prop := ∃ φ, H f = some (.ext φ) ∧ ∀ h, φ h → PySem.W.FnAt f h
theorem IsFn.same {H H' : Hp} {f : Addr} (h : IsFn H f) (s : Same H H') : IsFn H' f := by
  obtain ⟨φ, e, q⟩ := h
  exact ⟨φ, s.get e, q⟩
theorem isFn_fno {H : Hp} {f : Addr} {F : NF} (e : H f = some (FnO f F)) : IsFn H f := ⟨_, e, fun h ⟨od, sl, doc, pm, ctv, q⟩ => ⟨_, _, _, _, q⟩⟩
/-- what a lambda's object is -/
def LamO (body : Expr) (f : Addr) (F : NF) : HO := .ext fun h => ∃ pm ctv, h.get? f = some (PySem.W.kla_obj F.name F.qual F.params body F.scope F.cl pm F.c ctv)
theorem isFn_lam {H : Hp} {f : Addr} {F : NF} {b : Expr} (e : H f = some (LamO b f F)) : IsFn H f := ⟨_, e, fun h ⟨pm, ctv, q⟩ => ⟨_, _, _, _, q⟩⟩
/-- calls by value: at levels -/
structure CLs where
  run : Nat → Addr → List V → Hp → VK → Prop
  mono : ∀ {j k f vs H Q}, j ≤ k → run j f vs H Q → run k f vs H Q
  imp : ∀ {j f vs H} {Q Q' : VK}, (∀ v H', Q v H' → Q' v H') → run j f vs H Q → run j f vs H Q'
def Cal (P : Program) (w : World) (K : PySem.W.Frag) (mg : Str → Option Value) (base : Heap) : CLs where
  run := fun k f vs H Q => IsFn H f ∧ ∀ (A : Around) (outer : List Env) (s : Shared) (us : List Value), Room k A → Env0 P w K mg base A outer s H → Vals vs us →
    codeAny (model P w) A (.call (.ref f) ⟨us, []⟩) (CR CX0 outer P w H s Q (fun _ _ _ => False)) s
  mono := fun h ⟨a, b⟩ => ⟨a, fun A outer s us hr => b A outer s us (hr.mono h)⟩
  imp := fun h ⟨a, b⟩ => ⟨a, fun A outer s us hr e0 r => codeAny_mono (b A outer s us hr e0 r) fun r s' q => by
    cases r with
    | error e => exact q
    | ok fl =>
      cases fl with
      | ret u =>
        obtain ⟨v, H', q1, q2, q3, q4, q5, q6⟩ := q
        exact ⟨v, H', q1, q2, q3, q4, q5, h _ _ q6⟩
      | next => exact q
      | brk => exact q
      | cont => exact q⟩
/-- a local name's value is called -/
def tCallV (CL : CLs) (j : Nat) (i : Nat) (t : TA) : TE := fun σ H Q => ∃ f, σ[i]? = some (some (.ref f)) ∧ IsFn H f ∧ t σ H fun vs H1 => CL.run j f vs H1 Q
section
variable {X : Cx} {k j i : Nat} {x : Str} {p pos : Pos} {e : Expr} {es : List Expr} {t : TA}
theorem isFn_at {pins : List (Addr × Obj)} {σ : L2.St} {H : Hp} {s : Shared} {f : Addr} (I : Inv X pins σ H s) (h : IsFn H f) : PySem.W.FnAt f s.heap := by
  obtain ⟨φ, e, q⟩ := h
  exact q _ (I.hok f _ e).1
theorem pe_callV (hr : Room j X.A) (hk : k ≤ j) (hN : X.N[i]? = some x) (hv : Vis X.env.scope x) (ha : PA X (e :: es) t)
    (hdb : (x == ("__debug__" : Str)) = false := by decide) (hcd : (x == ("__classdict__" : Str)) = false := by decide)
    (he : starEach (e :: es) X.env = (false, eval e X.env) :: starEach es X.env := by rfl) (hpl : (backTo pos (starEach es X.env)).any (·.1) = false := by rfl) :
    PE X (.Call (.Name x p) (e :: es) [] pos) (tCallV (Cal X.prog X.w X.K X.mg X.base) k i t) := by
  refine ⟨fun pins s σ H Q I h => ?_⟩
  obtain ⟨f, hs, hf, ht⟩ := h
  refine wpAny_Call_Name_kw (thn ((pe_var (pos := p) hN hv hdb hcd).run pins s σ H (fun v H1 => v = .ref f ∧ H1 = H) I ⟨.ref f, hs, rfl, rfl⟩) fun u s1 ⟨v, H1, I1, r1, q1⟩ => ?_)
  obtain ⟨rfl, rfl⟩ := q1
  cases r1
  refine PySem.W.callWith_F (first := []) (isFn_at I1 hf) (thn (ha.run pos pins s1 σ _ _ I1 ht) fun us s2 ⟨vs, H2, I2, r, q⟩ => ⟨isFn_at I2 q.1, ?_⟩) he hpl
  refine wpAny_call (codeAny_mono (q.2 X.A X.stack s2 us (hr.mono hk) I2.env0 r) fun r s' hq => ?_)
  cases r with
  | error e => exact hq.elim
  | ok fl =>
    cases fl with
    | ret u => exact I2.after hq
    | next => exact False.elim hq
    | brk => exact False.elim hq
    | cont => exact False.elim hq
end
/-! ### what a closure promises -/
structure COk (O : Addr → NF → HO) (P : Program) (w : World) (K : PySem.W.Frag) (mg : Str → Option Value) (base : Heap) (k : Nat) (f : Addr) (F : NF) (ps fr : List Str) (sp : List V → List V → Hp → VK → Prop) : Prop where
  run : ∀ (A : Around) (outer : List Env) (s : Shared) (H : Hp) (us : List Value) (vs ws : List V) (Q : VK), Room k A → Env0 P w K mg base A outer s H → H f = some (O f F) → H F.c = some (CodeO F.c F.qual) →
    CellsAt F.cl fr (ws.map some) s.heap H → Vals vs us → sp ws vs H Q → codeAny (model P w) A (.call (.ref f) ⟨us, []⟩) (CR CX0 outer P w H s Q (fun _ _ _ => False)) s
section
variable {P : Program} {w : World} {K : PySem.W.Frag} {mg : Str → Option Value} {base : Heap} {N ps fr : List Str} {F : NF} {f : Addr} {k : Nat} {sp : List V → List V → Hp → VK → Prop}
theorem cok_def (S : NScope N ps fr F.scope) (hb : ∀ (doc pm ctv : Value) (us : List Value), us.length = ps.length → bindArgs (F.fd doc pm ctv) ⟨us, []⟩ = pure (ps.zip us)) (len : ∀ ws vs H Q, sp ws vs H Q → vs.length = ps.length)
    (hbody : ∀ (A : Around) (outer : List Env) (s : Shared) (H : Hp) (vs ws : List V) (Q : VK), Room k (A.deeper (envF F f s.heap.objs.size)) → ws.length = fr.length → sp ws vs H Q →
      ∃ t, PSs (ncx CX0 P w K mg base N F f A outer s H (fun _ _ _ => False)) F.body t ∧ t { nx := fun _ H' => Q .non H', rt := Q } (startF N vs (ws.map some)) H) :
    COk FnO P w K mg base (k + 1) f F ps fr sp := by
  have n : NOk P w K mg base CX0 (k + 1) f F ps fr (fun ws' vs H Q E => ∃ ws, ws' = ws.map some ∧ sp ws vs H Q ∧ E = fun _ _ _ => False) :=
    nok_of S hb (fun ws vs H Q E ⟨_, _, h, _⟩ => len _ _ _ _ h) fun A outer s H vs ws' Q E hr _ _ hl ⟨ws, e, h, eE⟩ => by
      subst e; subst eE
      exact hbody A outer s H vs ws Q hr (by rw [← hl, List.length_map]) h
  exact ⟨fun A outer s H us vs ws Q hr e0 hf hc C r h => n.run A outer s H us vs _ Q _ hr e0 hf hc C r ⟨ws, rfl, h, rfl⟩⟩
/-- a lambda by its expression -/
theorem cok_lam {body : Expr} (S : NScope N ps fr F.scope) (hb : ∀ (pm cd ctv : Value) (us : List Value), us.length = ps.length → bindArgs (PySem.W.kla_fn F.name F.qual F.params body F.scope F.cl pm cd ctv) ⟨us, []⟩ = pure (ps.zip us)) (len : ∀ ws vs H Q, sp ws vs H Q → vs.length = ps.length)
    (hbody : ∀ (A : Around) (outer : List Env) (s : Shared) (H : Hp) (vs ws : List V) (Q : VK), Room k (A.deeper (envF F f s.heap.objs.size)) → ws.length = fr.length → sp ws vs H Q →
      ∃ t, PE (ncx CX0 P w K mg base N F f A outer s H (fun _ _ _ => False)) body t ∧ t (startF N vs (ws.map some)) H Q) :
    COk (LamO body) P w K mg base (k + 1) f F ps fr sp := by
  refine ⟨fun A outer s H us vs ws Q hr e0 hf hc C r hsp => ?_⟩
  have hl := len _ _ _ _ hsp
  have lim : s.heap.NoLimit := e0.mod.nolimit.keeps fun b o e => (e0.bs b o e).1
  obtain ⟨⟨pm, ctv, ho⟩, _, _⟩ := e0.hok f _ hf
  refine PySem.W.kla_callFunE hr.depth ho rfl S.co S.gen rfl (codeO_at e0.hok hc) ?_
  rw [hb pm (.ref F.c) ctv us (by rw [← r.length]; exact hl)]
  refine wpAny_pure (wpAny_newFunctionEnv S.nocell (fun ⟨n, _⟩ hy => S.par n (List.of_mem_zip hy).1) (fun h₁ hns hsb => ⟨lim.fresh _ hsb, ?_⟩) S.kind)
  show codeAny _ _ (.expr body (envF F f s.heap.objs.size)) _ _
  have kp : ∀ b o, s.heap.get? b = some o → h₁.get? b = some o := fun b o e => hsb.extBut b o (Nat.ne_of_lt (Heap.lt_size e)) (Heap.get?_push_of_some _ e)
  obtain ⟨t, ht, hq⟩ := hbody A outer s H vs ws Q (hr.deeper _) (by rw [← C.len, List.length_map]) hsp
  have I : Inv (ncx CX0 P w K mg base N F f A outer s H (fun _ _ _ => False)) [] (startF N vs (ws.map some)) H { s with heap := h₁, toks := s.toks + (ps.zip us).length } := inv_startN S hr.hd e0 hl r C hns kp
  refine PySem.W.kla_codeExpr (wpAny_mono (ht.run [] _ _ H Q I hq) (fun v s' hq => ?_) fun e s' hq => hq)
  obtain ⟨w', H', J, rv, q⟩ := hq
  exact ⟨w', H', J.os, J.bare, J.base, J.hok, rv, q⟩
/-- a closure called from outside its maker: its cells are tracked -/
theorem cal_of {O : Addr → NF → HO} {ws vs : List V} {H : Hp} {Q : VK} {C : Addr → Prop} [DecidablePred C] (n : COk O P w K mg base k f F ps fr sp) (hfn : IsFn H f) (hf : H f = some (O f F)) (hc : H F.c = some (CodeO F.c F.qual)) (hC : Cells C H) (hlen : ws.length = fr.length)
    (hall : ∀ y c, F.cl.lookup y = some c → C c) (hinj : ∀ x y c, F.cl.lookup x = some c → F.cl.lookup y = some c → x = y) (hhas : ∀ (i : Nat) (y : Str), fr[i]? = some y → ∃ c, F.cl.lookup y = some c ∧ ∀ v, ws[i]? = some v → H c = some (CellO c v))
    (nf : ¬ C f) (nc : ¬ C F.c) (hsp : sp ws vs (hide C H) fun v H' => Q v (unhide C H H')) : (Cal P w K mg base).run k f vs H Q := by
  refine ⟨hfn, fun A outer s us hr e0 r => ?_⟩
  have CA : CellsAt F.cl fr (ws.map some) s.heap (hide C H) := by
    refine ⟨by rw [List.length_map]; exact hlen, fun y c e => ⟨hide_in (hall y c e), ?_⟩, hinj, fun i y e => ?_⟩
    · obtain ⟨v, q⟩ := hC c (hall y c e)
      obtain ⟨u, _, z⟩ := cellO_get e0.hok q
      exact ⟨_, z⟩
    · obtain ⟨c, h1, h2⟩ := hhas i y e
      refine ⟨c, h1, fun v ev => ?_⟩
      rw [List.getElem?_map] at ev
      cases q : ws[i]? with
      | none => rw [q] at ev; cases ev
      | some v' =>
        rw [q] at ev
        cases ev
        exact cellO_get e0.hok (h2 v q)
  refine codeAny_mono (n.run A outer s (hide C H) us vs ws _ hr (env0_hide e0 hC) ((hide_out nf).trans hf) ((hide_out nc).trans hc) CA r hsp) fun r s' q => ?_
  cases r with
  | error e => exact q
  | ok fl =>
    cases fl with
    | ret u => exact ce_unhide e0.hok hC q
    | next => exact q
    | brk => exact q
    | cont => exact q
end
/-! ### the making of closures -/
section
variable {X : Cx} {pins : List (Addr × Obj)} {σ : L2.St} {H : Hp} {s : Shared}
theorem tabN_grow {H : Hp} {P c' : Addr} {pos : Pos} {ps : Array Value} (nC : H c' = none) (hP : H P = some (.tbl ps)) (ht : TriplesOk ps.toList) (hq : ∀ P', H P' = some (.tbl ps) → True) : ∀ P', TabN H P' nmL →
    TabN (upd (upd H P (.tbl (ps ++ #[rawInt pos.line, rawInt pos.col, .ref c']))) c' (CodeO c' (nmL pos.line pos.col))) P' nmL := fun P' t => by
  obtain ⟨ps', h1, h2, h3⟩ := t
  have eL : (ps ++ #[rawInt pos.line, rawInt pos.col, .ref c']).toList = ps.toList ++ [rawInt pos.line, rawInt pos.col, .ref c'] := by simp
  have old : ∀ {b : Addr} {q : Str}, H b = some (CodeO b q) → upd (upd H P (.tbl (ps ++ #[rawInt pos.line, rawInt pos.col, .ref c']))) c' (CodeO c' (nmL pos.line pos.col)) b = some (CodeO b q) := fun {b q} e => by
    rw [upd_ne (ne_of_none e nC), upd_ne (fun z => by rw [z, hP] at e; exact codeO_ne ps (Option.some.inj e).symm)]
    exact e
  by_cases hb : P' = P
  · subst hb
    rw [hP] at h1; cases h1
    refine ⟨_, by rw [upd_ne (ne_of_none hP nC), upd_same], by rw [eL]; exact PySem.TriplesOk_snoc _ _ _ _ ht, fun p' cv hcv => ?_⟩
    rw [eL] at hcv
    rcases among_app2 _ ht hcv with z | ⟨z, z1, z2⟩
    · obtain ⟨c0, e1, e2⟩ := h3 p' cv z
      exact ⟨c0, e1, old e2⟩
    · refine ⟨c', z, ?_⟩
      rw [← z1, ← z2]
      exact upd_same
  · refine ⟨ps', by rw [upd_ne (ne_of_none h1 nC), upd_ne hb]; exact h1, h2, fun p' cv hcv => ?_⟩
    obtain ⟨c0, e1, e2⟩ := h3 p' cv hcv
    exact ⟨c0, e1, old e2⟩
theorem same_grow {H : Hp} {P c' : Addr} {pos : Pos} {ps : Array Value} (nC : H c' = none) (hP : H P = some (.tbl ps)) (ht : TriplesOk ps.toList) :
    Same H (upd (upd H P (.tbl (ps ++ #[rawInt pos.line, rawInt pos.col, .ref c']))) c' (CodeO c' (nmL pos.line pos.col))) := by
  refine ⟨fun b o e n => ?_, fun b e => upd_none (upd_none e), tabN_grow nC hP ht fun _ _ => trivial⟩
  rw [upd_ne (ne_of_none e nC), upd_ne (fun z => n ps (Option.some.inj (e.symm.trans (by rw [z]; exact hP))))]
  exact e
/-- the def's object is made -/
theorem ndef_makeC {c P : Addr} {name : Str} {params : Arguments} {body : List Stmt} {scope : Scope} {pos : Pos} {E : Value → Shared → Prop} {Q : Value → Shared → Prop} (I : Inv X pins σ H s) (TB : TabB X.base X.mg c P) (hcode : X.env.code = .ref c)
    (hn : nmL pos.line pos.col = X.env.qual ++ name) (hT : TabN H P nmL) (hfree : ∀ y ∈ scope.names, y.2 = .free → ∃ c, X.env.cells.lookup y.1 = some c)
    (h : ∀ (f c' : Addr) (H1 : Hp) (s' : Shared), Inv X pins σ H1 s' → Same H H1 → H f = none → H1 f = some (FnO f ⟨name, X.env.qual ++ name, params, body, scope, cloFrom X.env.cells scope.names [], c'⟩) → H1 c' = some (CodeO c' (X.env.qual ++ name)) → Q (.ref f) s') :
    wpAny (model X.prog X.w) X.A (makeFunction name (X.env.qual ++ name) params (.stmts body) scope X.env [] [] [] pos pos.line) Q E s := by
  obtain ⟨ps, hP, ht, ha⟩ := hT
  have bP : s.heap.BuiltinsAt X.mg P := TB.bm.keeps I.bk
  have hP' : s.heap.get? P = some { cls := .none, data := .fields ps } := I.hok P _ hP
  cases hc : codeAmong pos ps.toList with
  | none =>
    refine PySem.W.makeFunction_K (mg := X.mg) (c := c) (P := P) (ps := ps) (closure_ok hfree) I.ok.glob (I.mod.glob.keeps I.bk) hcode (TB.code.keeps I.bk) hP' ht hc TB.gP bP fun c' ctv doc h' tk hx hge hlt hrec htb => ?_
    obtain ⟨c2, oc, vs, t, e2, hoc, hd, hv⟩ := hrec
    cases e2
    have nC : H c' = none := I.hok.fresh hge
    have I1 := inv_table (t' := tk) (more := #[rawInt pos.line, rawInt pos.col, .ref c']) (h' := h') I hP (fun b o hb e => hx b o hb e) htb hge ⟨oc, vs, t, hoc, hd, hv⟩
    have S1 : Same H (upd (upd H P (.tbl (ps ++ #[rawInt pos.line, rawInt pos.col, .ref c']))) c' (CodeO c' (X.env.qual ++ name))) := hn ▸ same_grow (pos := pos) nC hP ht
    have nF := I1.hok.fresh (Nat.le_refl _)
    have I2 := inv_fn (F := ⟨name, X.env.qual ++ name, params, body, scope, cloFrom X.env.cells scope.names [], c'⟩) (t' := tk) (doc := doc) (pm := (X.mg "__name__").getD .none) (ctv := ctv) I1 rfl
    exact h h'.objs.size c' _ _ I2 (S1.trans (same_new nF)) (I.hok.fresh (Nat.le_trans hge (Nat.le_of_lt hlt))) upd_same ((upd_ne (Nat.ne_of_lt hlt)).trans upd_same)
  | some cv =>
    obtain ⟨c', e, hco⟩ := ha pos cv hc
    subst e
    rw [hn] at hco
    refine PySem.W.makeFunction_hit (mg := X.mg) (c := c) (P := P) (ps := ps) (closure_ok hfree) I.ok.glob (I.mod.glob.keeps I.bk) hcode (TB.code.keeps I.bk) hP' ht hc bP fun ctv doc h' tk hx hsz => ?_
    have I1 : Inv X pins σ H { s with heap := h', toks := tk } := I.kept hx
    have nF : H h'.objs.size = none := I1.hok.fresh (Nat.le_refl _)
    have I2 := inv_fn (F := ⟨name, X.env.qual ++ name, params, body, scope, cloFrom X.env.cells scope.names [], c'⟩) (t' := tk) (doc := doc) (pm := (X.mg "__name__").getD .none) (ctv := ctv) I1 rfl
    exact h h'.objs.size c' _ _ I2 (same_new nF) nF upd_same ((upd_ne (ne_of_none hco nF)).trans hco)
theorem lam_makeC {c P : Addr} {params : Arguments} {body : Expr} {scope : Scope} {pos : Pos} {E : Value → Shared → Prop} {Q : Value → Shared → Prop} (I : Inv X pins σ H s) (TB : TabB X.base X.mg c P) (hcode : X.env.code = .ref c)
    (hn : nmL pos.line pos.col = X.env.qual ++ "<lambda>") (hT : TabN H P nmL) (hdef : defaultsOf params X.env = ([], [])) (hfree : ∀ y ∈ scope.names, y.2 = .free → ∃ c, X.env.cells.lookup y.1 = some c)
    (h : ∀ (f c' : Addr) (H1 : Hp) (s' : Shared), Inv X pins σ H1 s' → Same H H1 → H f = none → H1 f = some (LamO body f ⟨"<lambda>", X.env.qual ++ "<lambda>", params, [], scope, cloFrom X.env.cells scope.names [], c'⟩) → H1 c' = some (CodeO c' (X.env.qual ++ "<lambda>")) → Q (.ref f) s') :
    wpAny (model X.prog X.w) X.A (eval (.Lambda params body scope pos) X.env) Q E s := by
  obtain ⟨ps, hP, ht, ha⟩ := hT
  refine PySem.W.kla_eval hdef ?_
  have bP : s.heap.BuiltinsAt X.mg P := TB.bm.keeps I.bk
  have hP' : s.heap.get? P = some { cls := .none, data := .fields ps } := I.hok P _ hP
  have lamI : ∀ {H1 : Hp} {s1 : Shared} {c' : Addr} {pm ctv : Value} {tk : Nat}, Inv X pins σ H1 s1 → Inv X pins σ (upd H1 s1.heap.objs.size (LamO body s1.heap.objs.size ⟨"<lambda>", X.env.qual ++ "<lambda>", params, [], scope, cloFrom X.env.cells scope.names [], c'⟩))
      { s1 with heap := s1.heap.push (PySem.W.kla_obj "<lambda>" (X.env.qual ++ "<lambda>") params body scope (cloFrom X.env.cells scope.names []) pm c' ctv), toks := tk } := fun {H1 s1 c' pm ctv tk} I1 => by
    have e := Heap.get?_push_size s1.heap (o := PySem.W.kla_obj "<lambda>" (X.env.qual ++ "<lambda>") params body scope (cloFrom X.env.cells scope.names []) pm c' ctv) rfl
    exact I1.laid (fun b u e => Heap.get?_push_of_some _ e) (Nat.le_refl _) ⟨⟨pm, ctv, e⟩, ⟨_, e⟩, fun h1 h2 ⟨p, t, z⟩ st => ⟨p, t, st _ z⟩⟩
  cases hc : codeAmong pos ps.toList with
  | none =>
    refine PySem.W.kla_makeFunction (mg := X.mg) (c := c) (P := P) (ps := ps) (closure_ok hfree) I.ok.glob (I.mod.glob.keeps I.bk) hcode (TB.code.keeps I.bk) hP' ht hc TB.gP bP fun c' ctv h' tk hx hge hlt hrec htb => ?_
    obtain ⟨c2, oc, vs, t, e2, hoc, hd, hv⟩ := hrec
    cases e2
    have nC : H c' = none := I.hok.fresh hge
    have I1 := inv_table (t' := tk) (more := #[rawInt pos.line, rawInt pos.col, .ref c']) (h' := h') I hP (fun b o hb e => hx b o hb e) htb hge ⟨oc, vs, t, hoc, hd, hv⟩
    have S1 : Same H (upd (upd H P (.tbl (ps ++ #[rawInt pos.line, rawInt pos.col, .ref c']))) c' (CodeO c' (X.env.qual ++ "<lambda>"))) := hn ▸ same_grow (pos := pos) nC hP ht
    have nF := I1.hok.fresh (Nat.le_refl _)
    exact h h'.objs.size c' _ _ (lamI I1) (S1.trans (same_new nF)) (I.hok.fresh (Nat.le_trans hge (Nat.le_of_lt hlt))) upd_same ((upd_ne (Nat.ne_of_lt hlt)).trans upd_same)
  | some cv =>
    obtain ⟨c', e, hco⟩ := ha pos cv hc
    subst e
    rw [hn] at hco
    refine PySem.W.kla_makeFunctionHit (mg := X.mg) (c := c) (P := P) (ps := ps) (closure_ok hfree) I.ok.glob (I.mod.glob.keeps I.bk) hcode (TB.code.keeps I.bk) hP' ht hc bP fun ctv h' tk hx hsz => ?_
    have I1 : Inv X pins σ H { s with heap := h', toks := tk } := I.kept hx
    have nF : H h'.objs.size = none := I1.hok.fresh (Nat.le_refl _)
    exact h h'.objs.size c' _ _ (lamI I1) (same_new nF) nF upd_same ((upd_ne (ne_of_none hco nF)).trans hco)
end
/-- the readings: P the maker's table -/
def tNdefC (P : Addr) (i : Nat) (mk : Addr → NF) : TS := fun D σ H => TabN H P nmL ∧ ∀ (f c' : Addr) (H1 : Hp), Same H H1 → H f = none → H1 f = some (FnO f (mk c')) → H1 (mk c').c = some (CodeO (mk c').c (mk c').qual) → D.nx (σ.set i (some (.ref f))) H1
def tLamC (P : Addr) (body : Expr) (mk : Addr → NF) : TE := fun σ H Q => TabN H P nmL ∧ ∀ (f c' : Addr) (H1 : Hp), Same H H1 → H f = none → H1 f = some (LamO body f (mk c')) → H1 (mk c').c = some (CodeO (mk c').c (mk c').qual) → Q (.ref f) H1
/-- a lambda's words -/
def lamNF (e : Expr) (qual : Str) (cl : List (Str × Addr)) (c : Addr) : NF := match e with
  | .Lambda ps _ sc _ => ⟨"<lambda>", qual, ps, [], sc, cl, c⟩
  | _ => ⟨"", "", { posonlyargs := [], args := [], vararg := none, kwonlyargs := [], kw_defaults := [], kwarg := none, defaults := [] }, [], default, [], c⟩
section
variable {X : Cx}
theorem ps_ndefC {st : Stmt} {c P : Addr} {name : Str} {pos : Pos} {i : Nat} (hst : st = .FunctionDef name (C8.fnArgs st) (C8.fnBody st) [] none [] (C8.fnScope st) none name pos) (TB : TabB X.base X.mg c P) (hcode : X.env.code = .ref c) (hn : nmL pos.line pos.col = X.env.qual ++ name)
    (hfree : ∀ y ∈ (C8.fnScope st).names, y.2 = .free → X.env.scope.names.lookup y.1 = some .cell ∨ X.env.scope.names.lookup y.1 = some .free) (hd0 : (C8.fnArgs st).defaults = []) (hk0 : (C8.fnArgs st).kw_defaults = []) (ha : annTrees (C8.fnArgs st) none X.env = [])
    (hN : X.N.Nodup) (hi : X.N[i]? = some name) (hx : Loc X.env.scope name) (hf : X.fn name = true ∨ X.env.scope.names.lookup name = some .local) :
    PS X st (tNdefC P i (NF.of st name (X.env.qual ++ name) (cloFrom X.env.cells (C8.fnScope st).names []))) := by
  have main : PS X (.FunctionDef name (C8.fnArgs st) (C8.fnBody st) [] none [] (C8.fnScope st) none name pos) (tNdefC P i (NF.of st name (X.env.qual ++ name) (cloFrom X.env.cells (C8.fnScope st).names []))) := by
    refine ⟨fun pins s σ H D I h => ?_⟩
    obtain ⟨hT, h⟩ := h
    have hq : qualnameIn X.env name name = X.env.qual ++ name := by
      have hk : X.env.kindOf name = some .local ∨ X.env.kindOf name = some .cell := hx
      unfold qualnameIn
      rcases hk with k | k <;> rw [k] <;> first | rfl | exact if_neg (by decide)
    refine PySem.W.nestDef_K hd0 hk0 ha ?_
    rw [hq]
    have hfr : ∀ y ∈ (C8.fnScope st).names, y.2 = .free → ∃ c, X.env.cells.lookup y.1 = some c := fun y hy e => (hfree y hy e).elim (fun z => I.ok.has _ (.inl z)) fun z => I.ok.has _ (.inr z)
    refine ndef_makeC I TB hcode hn hT hfr fun f c' H1 s' I1 S1 f0 f1 c1 => ?_
    exact store_ok I1 hN hi hx (v := .ref f) rfl (fun s'' J => ⟨_, H1, J, h f c' H1 S1 f0 f1 c1⟩) hf
  rw [← hst] at main
  exact main
theorem pe_lamC {params : Arguments} {body : Expr} {scope : Scope} {pos : Pos} {c P : Addr} (TB : TabB X.base X.mg c P) (hcode : X.env.code = .ref c) (hn : nmL pos.line pos.col = X.env.qual ++ "<lambda>")
    (hfree : ∀ y ∈ scope.names, y.2 = .free → X.env.scope.names.lookup y.1 = some .cell ∨ X.env.scope.names.lookup y.1 = some .free) (hdef : defaultsOf params X.env = ([], [])) :
    PE X (.Lambda params body scope pos) (tLamC P body (lamNF (.Lambda params body scope pos) (X.env.qual ++ "<lambda>") (cloFrom X.env.cells scope.names []))) := by
  refine ⟨fun pins s σ H Q I h => ?_⟩
  obtain ⟨hT, h⟩ := h
  have hfr : ∀ y ∈ scope.names, y.2 = .free → ∃ c, X.env.cells.lookup y.1 = some c := fun y hy e => (hfree y hy e).elim (fun z => I.ok.has _ (.inl z)) fun z => I.ok.has _ (.inr z)
  exact lam_makeC I TB hcode hn hT hdef hfr fun f c' H1 s' I1 S1 f0 f1 c1 => ⟨.ref f, H1, I1, rfl, h f c' H1 S1 f0 f1 c1⟩
end
def lamBody : Expr → Expr
  | .Lambda _ b _ _ => b
  | e => e
def lamF : Expr → Expr
  | .Tuple es _ _ => es.getLast?.getD (.Constant .none 0 ⟨0, 0, 0, 0⟩)
  | e => e
def lamIn (b : List Stmt) : Expr := match b.getLast? with
  | some (.Return (some e) _) => lamF e
  | _ => .Constant .none 0 ⟨0, 0, 0, 0⟩
/-- the table of the def x -/
abbrev tabP (K : PySem.W.Frag) (x : Str) : Addr := (He.cT K (x, none)).2
/-! ### the maker returns: its captured cells are tracked from now on -/
/-- what is known of a closure that its maker gives out -/
structure Upg (CL : CLs) (lv : Nat) (O : Addr → NF → HO) (mk : Addr → NF) (js : List Nat) (spn : Nat → List V → List V → Hp → VK → Prop) (C : Addr → Prop) (dC : DecidablePred C) (σ : L2.St) (H Hp' : Hp) : Prop where
  hid : ∀ b, C b → H b = none
  same : ∀ b, ¬ C b → Hp' b = H b
  ext : ∀ b, C b → ∃ φ, Hp' b = some (.ext φ)
  law : ∀ f c', H f = some (O f (mk c')) → H (mk c').c = some (CodeO (mk c').c (mk c').qual) → ∀ ws : List V, js.map (slotAt σ) = ws.map some → ∀ (j : Nat) (H3 : Hp) (vs : List V) (Q3 : VK), (∀ b φ, Hp' b = some (.ext φ) → H3 b = some (.ext φ)) →
    spn j ws vs (hide C H3) (fun v H4 => Q3 v (unhide C H3 H4)) → CL.run (max j lv + 1) f vs H3 Q3
theorem Upg.up {CL : CLs} {lv : Nat} {O : Addr → NF → HO} {mk : Addr → NF} {js : List Nat} {spn : Nat → List V → List V → Hp → VK → Prop} {C : Addr → Prop} {dC : DecidablePred C} {σ : L2.St} {H H' : Hp} (u : Upg CL lv O mk js spn C dC σ H H') : Same H H' :=
  .of fun b o e => by rw [u.same b fun z => by rw [u.hid b z] at e; cases e]; exact e
theorem execs_app (a b : List Stmt) (env : Env) : execs (a ++ b) env = (execs a env >>= fun f => match f with | .next => execs b env | f => pure f) := by
  induction a with
  | nil => show execs b env = (pure Flow.next >>= _); rw [pure_bind]
  | cons x r ih =>
    show execs (x :: (r ++ b)) env = _
    rw [execs_cons, execs_cons, bind_assoc]
    congr 1
    funext f
    cases f with
    | next => exact ih
    | ret v => rw [pure_bind]
    | brk => rw [pure_bind]
    | cont => rw [pure_bind]
theorem wpAny_execs_app {M : Model} {A : Around} {E : Value → Shared → Prop} {s : Shared} {a b : List Stmt} {env : Env} {Q : Flow → Shared → Prop}
    (h : wpAny M A (execs a env) (fun f s' => match f with | .next => wpAny M A (execs b env) Q E s' | f => Q f s') E s) : wpAny M A (execs (a ++ b) env) Q E s := by
  rw [execs_app]
  refine wpAny_bind (wpAny_mono h (fun f s' q => ?_) fun _ _ q => q)
  cases f with
  | next => exact q
  | ret v => exact wpAny_pure q
  | brk => exact wpAny_pure q
  | cont => exact wpAny_pure q
def CellN (c : Addr) : HO := .ext fun h => ∃ v, h.IsCell c v
open Classical in
noncomputable def cellH (C : Addr → Prop) (h : Heap) (H : Hp) : Hp := fun b => if C b then some (if z : ∃ v, ∃ u, L2.RelV v u ∧ h.IsCell b (some u) then CellO b (Classical.choose z) else CellN b) else H b
theorem isCell_fun {h : Heap} {c : Addr} {v v' : Option Value} (a : h.IsCell c v) (b : h.IsCell c v') : v = v' := by
  obtain ⟨o, h1, h2⟩ := a
  obtain ⟨o', h3, h4⟩ := b
  rw [h1] at h3; cases h3
  rw [h2] at h4; cases h4; rfl
theorem cellH_in {C : Addr → Prop} {h : Heap} {H : Hp} {b : Addr} {v : V} {u : Value} (hb : C b) (r : L2.RelV v u) (z : h.IsCell b (some u)) : cellH C h H b = some (CellO b v) := by
  unfold cellH
  have ex : ∃ v, ∃ u, L2.RelV v u ∧ h.IsCell b (some u) := ⟨v, u, r, z⟩
  rw [if_pos hb, dif_pos ex]
  obtain ⟨u', r', z'⟩ := Classical.choose_spec ex
  have e := isCell_fun z z'
  cases e
  rw [relV_fun r' r]
theorem cellH_out {C : Addr → Prop} {h : Heap} {H : Hp} {b : Addr} (hb : ¬ C b) : cellH C h H b = H b := if_neg hb
theorem cellH_ext {C : Addr → Prop} {h : Heap} {H : Hp} {b : Addr} (hb : C b) : ∃ φ, cellH C h H b = some (.ext φ) := by
  unfold cellH
  rw [if_pos hb]
  split
  · exact ⟨_, rfl⟩
  · exact ⟨_, rfl⟩
theorem cellH_ok {P : Program} {w : World} {C : Addr → Prop} {h : Heap} {H : Hp} (ok : HOk P w H h) (hC : ∀ b, C b → H b = none ∧ ∃ v, h.IsCell b v) : HOk P w (cellH C h H) h := fun a o e => by
  by_cases ha : C a
  · obtain ⟨_, v, ob, ho, hd⟩ := hC a ha
    unfold cellH at e
    rw [if_pos ha] at e
    split at e
    · rename_i z
      cases e
      exact ⟨Classical.choose_spec z, ⟨ob, ho⟩, fun h1 h2 ⟨u, r, o, q1, q2⟩ st => ⟨u, r, o, st o q1, q2⟩⟩
    · cases e
      exact ⟨⟨v, ob, ho, hd⟩, ⟨ob, ho⟩, fun h1 h2 ⟨v, o, q1, q2⟩ st => ⟨v, o, st o q1, q2⟩⟩
  · rw [cellH_out ha] at e
    have out : ∀ {b u}, H b = some u → cellH C h H b = some u := fun {b u} q => (cellH_out fun z => by rw [(hC b z).1] at q; cases q).trans q
    exact (ok a o e).stay (fun _ _ _ q => q) (fun b q => out q) fun b xs q => out q
/-- the rule: a def that gives out a closure -/
theorem FunD.okC {P : Program} {w : World} {K : PySem.W.Frag} {mg : Str → Option Value} {base : Heap} {x : Str} {qual : Str} {params : Arguments} {body pre : List Stmt} {e : Expr} {pos : Pos} {scope nsc : Scope} {f : Addr} {fd : FuncData} {N ps fr psn : List Str} {js : List Nat} {k lv : Nat} {sp : Sp}
    {O : Addr → NF → HO} {mkF : List (Str × Addr) → Addr → NF} {spn : Nat → List V → List V → Hp → VK → Prop}
    (F : FunD K x qual params body scope [] [] f fd) (hbd : body = pre ++ [.Return (some e) pos]) (S : FnScope N ps scope) (len : ∀ vs H Q E, sp vs H Q E → vs.length = ps.length) (hO : ∀ {f : Addr} {F : NF}, ∃ φ, O f F = .ext φ ∧ ∀ h, φ h → PySem.W.FnAt f h)
    (hcl : ∀ cl c', (mkF cl c').cl = cl) (hsc : ∀ y ∈ nsc.names, y.2 = .free → y.1 ∈ fr) (hnd : ndefB scope nsc fr = true) (hjs : js.map (fun j => N[j]?) = fr.map some)
    (nok : ∀ j f cl c', COk O P w K mg base (max j lv + 1) f (mkF cl c') psn fr (spn j))
    (hbody : ∀ (c : Addr) (A : Around) (outer : List Env) (s : Shared) (H : Hp) (vs : List V) (Q : VK) (E : XK), He.codeOf K (x, none) = c → Room k (A.deeper (envOfC qual scope s.heap.objs.size f (.ref c))) → sp vs H Q E →
      ∃ (t : TS) (te : TE), PSs (cxOf CX0 P w K mg base N qual scope f (.ref c) A outer s H E) pre t ∧ PE (cxOf CX0 P w K mg base N qual scope f (.ref c) A outer s H E) e te ∧
        ∀ G : V → L2.St → Hp → Prop, (∀ v σ' H'', (∀ C dC H', Upg (Cal P w K mg base) lv O (mkF (cloFrom (envOfC qual scope s.heap.objs.size f (.ref c)).cells nsc.names [])) js spn C dC σ' H'' H' → Q v H') → G v σ' H'') →
          t { nx := fun σ' H' => te σ' H' fun v H'' => G v σ' H'', rt := fun _ _ => False } (start N vs) H)
    (hat : f = He.fAd K (x, none)) : FnOk P w K mg base CX0 (k + 1) f fd ps sp := by
  obtain ⟨oc, od, dV, kV, doc, pm, an, cdv, ct, osl, rfl, lk, hcd, _, _⟩ := F.ex
  obtain ⟨c, rfl⟩ := He.codeIn_ref hcd
  have ec : He.codeOf K (x, none) = c := He.codeOf_eq (p := (x, none)) (by rw [← hat]; exact lk) rfl
  refine ⟨len, fun A outer s H args us vs Q E hr e0 hb r hsp => ?_⟩
  have hl := len _ _ _ _ hsp
  have KX : K.In s.heap := e0.mod.kin.keeps fun b o e => (e0.bs b o e).1
  have lim : s.heap.NoLimit := e0.mod.nolimit.keeps fun b o e => (e0.bs b o e).1
  have hkind : ∀ y ∈ ps.zip us, scope.names.lookup y.1 = some .local ∨ (scope.names.lookup y.1 = some .cell ∧ ((cellsFrom (s.heap.objs.size + 1) scope.names []).lookup y.1).isSome = true) := fun ⟨n, v⟩ hy => by
    rcases S.par n (List.of_mem_zip hy).1 with q | q
    · exact .inl q
    · exact .inr ⟨q, PySem.W.cellsFrom_some _ _ _ (.inl q)⟩
  refine codeAny_call_function hr.depth (KX _ _ lk) rfl S.co S.gen rfl (PySem.W.codeRec_of KX hcd) (hb _ _ _ _ ?_)
  refine wpAny_newFunctionEnv_cells S.kind hkind fun env he s1 x1 => ?_
  subst he
  refine ⟨lim.keeps x1.toInCall.keep, codeAny_func ?_⟩
  obtain ⟨t, te, ht, hte, hq⟩ := hbody c A outer s H vs Q E ec (hr.deeper _) hsp
  have I : Inv (cxOf CX0 P w K mg base N qual scope f (.ref c) A outer s H E) [] (start N vs) H s1 := inv_start S hr.hd e0 hl r x1
  have hq := hq (fun v σ' H'' => ∀ C dC H', Upg (Cal P w K mg base) lv O (mkF (cloFrom (envOfC qual scope s.heap.objs.size f (.ref c)).cells nsc.names [])) js spn C dC σ' H'' H' → Q v H') fun v σ' H'' z => z
  subst hbd
  refine wpAny_execs_app ?_
  refine wpAny_mono (ht.run [] s1 (start N vs) H _ I hq) (fun fl s2 hs => ?_) fun e s' hs => hs
  cases fl with
  | ret v =>
    obtain ⟨_, _, _, _, _, q⟩ := hs
    exact False.elim q
  | brk =>
    obtain ⟨_, _, _, q⟩ := hs
    exact False.elim q
  | cont =>
    obtain ⟨_, _, _, q⟩ := hs
    exact False.elim q
  | next =>
  obtain ⟨σ', H', J, q⟩ := hs
  refine wpAny_execs_cons (wpAny_Return_some (thn (hte.run [] s2 σ' H' _ J q) fun u s3 ⟨v, H'', J3, rv, g⟩ => ?_))
  show CE outer P w H s Q u s3
  have hfr := ndef_fr hnd
  have hfree := ndef_free hnd
  have hf2 : ∀ y ∈ nsc.names, y.2 = .free → ∃ c', (envOfC qual scope s.heap.objs.size f (.ref c)).cells.lookup y.1 = some c' := fun y hy e => (hfree y hy e).elim (fun z => J3.ok.has _ (.inl z)) fun z => J3.ok.has _ (.inr z)
  have CA : CellsAt (cloFrom (envOfC qual scope s.heap.objs.size f (.ref c)).cells nsc.names []) fr (js.map (slotAt σ')) s3.heap H'' := cells_of J3 (Caps.made J3.ok hfree hfr hjs)
  generalize hcl0 : cloFrom (envOfC qual scope s.heap.objs.size f (.ref c)).cells nsc.names [] = cl at CA g
  have hC : ∀ b, (∃ y, cl.lookup y = some b) → H'' b = none ∧ ∃ v, s3.heap.IsCell b v := fun b ⟨y, e⟩ => CA.all y b e
  have old : ∀ b o, s.heap.get? b = some o → ¬ ∃ y, cl.lookup y = some b := fun b o ho ⟨y, e⟩ => by
    rw [← hcl0] at e
    have z := J3.ok.cab y b rfl (clo_cm hf2 e)
    exact Nat.lt_irrefl _ (Nat.lt_of_lt_of_le (Heap.lt_size ho) z)
  have out : ∀ {b o}, H'' b = some o → ¬ ∃ y, cl.lookup y = some b := fun {b o} e z => by rw [(hC b z).1] at e; cases e
  have un := J3.base
  refine ⟨v, cellH (fun b => ∃ y, cl.lookup y = some b) s3.heap H'', J3.os, J3.bare, ⟨un.keep, un.slot, fun b o e n hx => ?_, un.there, fun b xs e => ?_, fun b o u e => ?_, fun b ps e => ?_⟩, cellH_ok J3.hok hC, rv, g (fun b => ∃ y, cl.lookup y = some b) (fun b => Classical.propDecidable _) _ ?_⟩
  · rw [cellH_out (old b o e)]; exact un.free b o e n hx
  · have z := un.tups b xs e
    rw [cellH_out (out z)]; exact z
  · have z := un.frzs b o u e
    rw [cellH_out (out z)]; exact z
  · obtain ⟨more, z⟩ := un.tbls b ps e
    exact ⟨more, by rw [cellH_out (out z)]; exact z⟩
  · refine ⟨fun b z => (hC b z).1, fun b z => cellH_out z, fun b z => cellH_ext z, fun f' c' e1 e2 ws hws j H3 vs3 Q3 hx hsp3 => ?_⟩
    have key : ∀ (i : Nat) (y : Str), fr[i]? = some y → ∃ c, cl.lookup y = some c ∧ ∀ v, ws[i]? = some v → H3 c = some (CellO c v) := fun i y ey => by
      obtain ⟨c1, h1, h2⟩ := CA.has i y ey
      refine ⟨c1, h1, fun v0 ev => ?_⟩
      obtain ⟨u0, r0, z0⟩ := h2 v0 (by rw [hws, List.getElem?_map, ev]; rfl)
      exact hx c1 _ (cellH_in ⟨y, h1⟩ r0 z0)
    have hlen : ws.length = fr.length := by
      have q := CA.len
      rw [hws, List.length_map] at q
      exact q
    have cells : Cells (fun b => ∃ y, cl.lookup y = some b) H3 := fun b ⟨y, e⟩ => by
      have hy : y ∈ fr := by
        have e' := e
        rw [← hcl0] at e'
        rcases cloFrom_mem (PySem.mem_of_lookup e') with hm | ⟨hm1, hm2⟩
        · cases hm
        · exact hsc _ hm1 rfl
      obtain ⟨i, hi⟩ := List.mem_iff_getElem?.mp hy
      obtain ⟨c1, h1, h2⟩ := key i y hi
      rw [h1] at e; cases e
      have hlt : i < ws.length := by rw [hlen]; exact (List.getElem?_eq_some_iff.mp hi).1
      exact ⟨_, h2 (ws[i]) (List.getElem?_eq_getElem hlt)⟩
    obtain ⟨φ, eO, hφ⟩ := hO (f := f') (F := mkF cl c')
    have e3 : H3 f' = some (O f' (mkF cl c')) := by
      rw [eO] at e1 ⊢
      exact hx _ _ (by rw [cellH_out (out e1)]; exact e1)
    have e4 : H3 (mkF cl c').c = some (CodeO (mkF cl c').c (mkF cl c').qual) := hx _ _ (by rw [cellH_out (out e2)]; exact e2)
    letI : DecidablePred (fun b => ∃ y, cl.lookup y = some b) := fun b => Classical.propDecidable _
    refine cal_of (C := fun b => ∃ y, cl.lookup y = some b) (nok j f' cl c') ⟨φ, by rw [e3, eO], hφ⟩ e3 e4 cells hlen (fun y c e => ⟨y, by rw [hcl] at e; exact e⟩) ?_ ?_ (out e1) (out e2) hsp3
    · rw [hcl]; exact CA.inj
    · rw [hcl]; exact key
/-! ### walking with closures -/
section
variable {P : Addr} {i : Nat} {mk : Addr → NF} {b : Expr} {σ : L2.St} {H H' H3 H4 : Hp} {Q : VK} {nx bk ct : L2.St → Hp → Prop} {rt : VK} {CL : CLs} {j : Nat} {ta : TA} {f : Addr}
theorem m_ndefC (hT : TabN H P nmL) (h : ∀ (f c' : Addr) (H1 : Hp), Same H H1 → H f = none → H1 f = some (FnO f (mk c')) → H1 (mk c').c = some (CodeO (mk c').c (mk c').qual) → nx (σ.set i (some (.ref f))) H1) : tNdefC P i mk (Ends.mk nx rt bk ct) σ H := ⟨hT, h⟩
theorem m_lamC (hT : TabN H P nmL) (h : ∀ (f c' : Addr) (H1 : Hp), Same H H1 → H f = none → H1 f = some (LamO b f (mk c')) → H1 (mk c').c = some (CodeO (mk c').c (mk c').qual) → Q (.ref f) H1) : tLamC P b mk σ H Q := ⟨hT, h⟩
theorem m_callV (hs : σ[i]? = some (some (.ref f))) (hf : IsFn H f) (h : ta σ H fun vs H1 => CL.run j f vs H1 Q) : tCallV CL j i ta σ H Q := ⟨f, hs, hf, h⟩
abbrev All (H H' : Hp) : Prop := L2.Same H H'
theorem All.same (h : All H H') : Same H H' := .of h
theorem Same.extN (s : Same H H') : ExtN H H' := s.keep
theorem IsFn.ext (h : IsFn H f) (s : ExtN H H') : IsFn H' f := by
  obtain ⟨φ, e, q⟩ := h
  exact ⟨φ, s _ _ e (fun _ z => nomatch z), q⟩
theorem unhide_hide {C : Addr → Prop} [DecidablePred C] : unhide C H (hide C H) = H := by
  funext b
  unfold unhide hide
  split <;> rfl
theorem unhide_upd {C : Addr → Prop} [DecidablePred C] {p : Addr} {o : HO} (h : ¬ C p) : unhide C H (upd (hide C H) p o) = upd H p o := by
  funext b
  by_cases hb : C b
  · rw [unhide_in hb, upd_ne fun z => h (by rw [← z]; exact hb)]
  · rw [unhide_out hb]
    by_cases e : b = p
    · subst e; rw [upd_same, upd_same]
    · rw [upd_ne e, upd_ne e, hide_out hb]
theorem all_unhide {C : Addr → Prop} [DecidablePred C] (s : All (hide C H3) H4) : All H3 (unhide C H3 H4) := fun b o e => by
  by_cases hb : C b
  · rw [unhide_in hb]; exact e
  · rw [unhide_out hb]; exact s b o ((hide_out hb).trans e)
theorem upg_out {lv : Nat} {O : Addr → NF → HO} {js : List Nat} {spn : Nat → List V → List V → Hp → VK → Prop} {C : Addr → Prop} {dC : DecidablePred C} (u : Upg CL lv O mk js spn C dC σ H H') {b : Addr} {o : HO} (e : H b = some o) : ¬ C b := fun z => by
  rw [u.hid b z] at e; cases e
theorem upg_ext {lv : Nat} {O : Addr → NF → HO} {js : List Nat} {spn : Nat → List V → List V → Hp → VK → Prop} {C : Addr → Prop} {dC : DecidablePred C} (u : Upg CL lv O mk js spn C dC σ H H') (s : ExtN H' H3) : ExtN H (hide C H3) := fun b o e n => by
  have hb := upg_out u e
  rw [hide_out hb]
  exact s b o (by rw [u.same b hb]; exact e) n
theorem upg_get {lv : Nat} {O : Addr → NF → HO} {js : List Nat} {spn : Nat → List V → List V → Hp → VK → Prop} {C : Addr → Prop} {dC : DecidablePred C} (u : Upg CL lv O mk js spn C dC σ H H') (s : ExtN H' H3) {b : Addr} {o : HO} [n : NT o] (e : H b = some o) : hide C H3 b = some o := upg_ext u s b o e n.ne
theorem ext_ext (s : ExtN H H') : ∀ b φ, H b = some (.ext φ) → H' b = some (.ext φ) := fun b φ e => s b _ e fun _ z => nomatch z
theorem fnO_ext {f : Addr} {F : NF} : ∀ ps, FnO f F ≠ .tbl ps := fnO_ne
end
/-- a look whose list stays as it was -/
def PureLook (CL : CLs) (j : Nat) (g : Addr) (xs : List V) (H : Hp) : Prop :=
  ∀ H', ExtN H H' → IsFn H' g ∧ ∀ (i : Nat) (x : V) (Q : VK), xs[i]? = some x → (∀ H'', All H' H'' → Q x H'') → CL.run j g [.int (i : Int)] H' Q
theorem PureLook.ext {CL : CLs} {j : Nat} {g : Addr} {xs : List V} {H H' : Hp} (p : PureLook CL j g xs H) (s : ExtN H H') : PureLook CL j g xs H' := fun H'' s2 => p H'' (s.trans s2)
theorem PureLook.ask {CL : CLs} {j k : Nat} {g : Addr} {xs : List V} {H H' : Hp} (p : PureLook CL j g xs H) (hj : j ≤ k) (s : ExtN H H') {i : Int} {x : V} {Q : VK} (h0 : 0 ≤ i) (hx : xs[i.toNat]? = some x) (q : ∀ H'', All H' H'' → Q x H'') : CL.run k g [.int i] H' Q := by
  have e : i = ((i.toNat : Nat) : Int) := by omega
  rw [e]
  exact CL.mono hj ((p H' s).2 _ x Q hx q)
theorem PureLook.askN {CL : CLs} {j k : Nat} {g : Addr} {xs : List V} {H H' : Hp} (p : PureLook CL j g xs H) (hj : j ≤ k) (s : ExtN H H') {i : Nat} {x : V} {Q : VK} (hx : xs[i]? = some x) (q : ∀ H'', All H' H'' → Q x H'') : CL.run k g [.int (i : Int)] H' Q :=
  CL.mono hj ((p H' s).2 _ x Q hx q)
open Classical in
/-- what is new in H', and what never changes -/
noncomputable def newOf (H H' : Hp) : Hp := fun b => if H b = none ∨ ∃ φ, H' b = some (.ext φ) then H' b else none
section
variable {H H' H3 : Hp} {b : Addr} {o : HO} {φ : Heap → Prop}
theorem newOf_new (h : H b = none) : newOf H H' b = H' b := if_pos (.inl h)
theorem newOf_ext (h : H' b = some (.ext φ)) : newOf H H' b = some (.ext φ) := (if_pos (.inr ⟨φ, h⟩)).trans h
theorem newOf_sub (h : newOf H H' b = some o) : H' b = some o := by
  unfold newOf at h
  split at h
  · exact h
  · cases h
theorem newOf_old (h : newOf H H' b = some o) (n : H b ≠ none) : ∃ φ, o = .ext φ := by
  unfold newOf at h
  split at h
  · rename_i z
    rcases z with z | ⟨φ, z⟩
    · exact absurd z n
    · rw [z] at h; cases h; exact ⟨φ, rfl⟩
  · cases h
theorem newOf_extN (s : ExtN H' H3) : ExtN (newOf H H') H3 := fun b o e n => s b o (newOf_sub e) n
/-- an object that was there and is no closure's may change -/
theorem newOf_upd {p : Addr} {xs : List V} (s : ExtN (newOf H H') H3) (hp : H p = some (.lst xs)) (s0 : ExtN H H') : ExtN (newOf H H') (upd H3 p o) := fun b u e n => by
  have nb : b ≠ p := fun z => by
    subst z
    obtain ⟨φ, q⟩ := newOf_old e (by rw [hp]; simp)
    have e2 := newOf_sub e
    rw [s0 _ _ hp fun _ z => nomatch z] at e2
    rw [q] at e2; cases e2
  rw [upd_ne nb]; exact s b u e n
end
/-! ### looks, as the program's defs use them -/
/-- H' is H, but for the list at q and for what is new -/
structure SameX (q : Option Addr) (H H' : Hp) : Prop where
  keep : ∀ b o, q ≠ some b → H b = some o → (∀ ps, o ≠ .tbl ps) → H' b = some o
  gone : ∀ b, H' b = none → H b = none
  tabs : ∀ P, TabN H P nmL → TabN H' P nmL
  isl : ∀ p, q = some p → ∃ xs, H p = some (.lst xs)
  isl' : ∀ p, q = some p → ∃ xs, H' p = some (.lst xs)
section
variable {q : Option Addr} {H H' H1 H2 : Hp} {a b : Addr} {o : HO} {xs : List V} {K : PySem.W.Frag}
theorem SameX.of (hq : ∀ p, q = some p → ∃ xs, H p = some (.lst xs)) (hq' : ∀ p, q = some p → ∃ xs, H' p = some (.lst xs)) (h : ∀ b o, q ≠ some b → H b = some o → H' b = some o) : SameX q H H' := by
  refine ⟨fun b o n e _ => h b o n e, fun b e => ?_, fun P ⟨ps, h1, ht, hc⟩ => ?_, hq, hq'⟩
  · cases z : H b with
    | none => rfl
    | some o =>
      by_cases hb : q = some b
      · obtain ⟨xs, q'⟩ := hq' b hb
        rw [e] at q'; cases q'
      · rw [h b o hb z] at e; cases e
  · have np : ∀ {b : Addr} {u : HO}, H b = some u → (∀ xs, u ≠ .lst xs) → q ≠ some b := fun {b u} e d z => by
      obtain ⟨xs, q'⟩ := hq b z
      rw [q'] at e; cases e; exact d _ rfl
    refine ⟨ps, h P _ (np h1 fun _ z => nomatch z) h1, ht, fun pos cv z => ?_⟩
    obtain ⟨c, e1, e2⟩ := hc pos cv z
    exact ⟨c, e1, h c _ (np e2 fun _ z => by unfold CodeO at z; cases z) e2⟩
theorem Same.toX (s : Same H H') (hq : ∀ p, q = some p → ∃ xs, H p = some (.lst xs)) : SameX q H H' := ⟨fun b o _ e n => s.keep b o e n, s.gone, s.tabs, hq, fun p z => let ⟨xs, e⟩ := hq p z; ⟨xs, s.get e⟩⟩
theorem SameX.trans (a : SameX q H H1) (b : SameX q H1 H2) : SameX q H H2 := ⟨fun c o n e z => b.keep c o n (a.keep c o n e z) z, fun c e => a.gone c (b.gone c e), fun P t => b.tabs P (a.tabs P t), a.isl, b.isl'⟩
theorem SameX.andS (a : SameX q H H1) (b : Same H1 H2) : SameX q H H2 := a.trans (b.toX a.isl')
theorem SameX.get (s : SameX q H H') (n : q ≠ some b) [NT o] (e : H b = some o) : H' b = some o := s.keep b o n e NT.ne
theorem SameX.ne (s : SameX q H H') (e : H b = some o) (d : ∀ xs, o ≠ .lst xs) : q ≠ some b := fun z => by
  obtain ⟨xs, q'⟩ := s.isl b z
  rw [q'] at e; cases e; exact d _ rfl
theorem SameX.neN (s : SameX q H H') (e : H b = none) : q ≠ some b := fun z => by
  obtain ⟨xs, q'⟩ := s.isl b z
  rw [q'] at e; cases e
theorem SameX.tup (s : SameX q H H') (e : H b = some (.tup xs)) : H' b = some (.tup xs) := s.get (s.ne e fun _ z => nomatch z) e
theorem SameX.seqT (s : SameX q H H') (h : SqT K H a xs) : SqT K H' a xs := by
  rcases h with (h | ⟨o, h⟩) | h
  · exact .inl (.inl (s.tup h))
  · exact .inl (.inr ⟨o, s.get (s.ne h fun _ z => nomatch z) h⟩)
  · exact .inr h
theorem SameX.pure (s : SameX Option.none H H') : Same H H' := ⟨fun b o e n => s.keep b o (fun z => nomatch z) e n, s.gone, s.tabs⟩
end
/-- a look of n answers; what has been asked for is L -/
structure LookR (CL : CLs) (g : Addr) (n : Nat) (val : Nat → V) (q : Option Addr) (I : List Nat → Hp → Prop) : Prop where
  fn : ∀ {L H}, I L H → IsFn H g
  isq : ∀ {L H}, I L H → ∀ p, q = some p → ∃ xs, H p = some (.lst xs)
  ext : ∀ {L H H'}, I L H → Same H H' → I L H'
  ask : ∀ {L H} {k : Nat} {Q : VK}, I L H → L.length < 1000 → k < n → (∀ H', I (L ++ [k]) H' → SameX q H H' → Q (val k) H') → CL.run 9 g [.int (k : Int)] H Q
theorem LookR.askI {CL : CLs} {g : Addr} {n : Nat} {val : Nat → V} {q : Option Addr} {I : List Nat → Hp → Prop} (R : LookR CL g n val q I) {L : List Nat} {H : Hp} {i : Int} {Q : VK} (h : I L H) (hl : L.length < 1000) (h0 : 0 ≤ i) (hn : i < n)
    (hq : ∀ H', I (L ++ [i.toNat]) H' → SameX q H H' → Q (val i.toNat) H') : CL.run 9 g [.int i] H Q := by
  have e : i = ((i.toNat : Nat) : Int) := by omega
  rw [e]
  exact R.ask h hl (by omega) hq
/-- a pure look, as such a look -/
theorem PureLook.lookR {CL : CLs} {j : Nat} {g : Addr} {xs : List V} {B : Hp} (p : PureLook CL j g xs B) (hj : j ≤ 9) : LookR CL g xs.length (fun k => xs.getD k .non) none (fun _ H => ExtN B H) where
  fn := fun h => (p _ h).1
  isq := fun _ _ z => nomatch z
  ext := fun h s => h.trans s.extN
  ask := fun {L H k Q} h _ hk q => p.askN hj h (show xs[k]? = some (xs.getD k .non) by rw [List.getD_eq_getElem?_getD, List.getElem?_eq_getElem hk]; rfl) fun H' s => q H' (h.trans (All.same s).extN) (((All.same s)).toX fun _ z => nomatch z)
/-- a look that writes down what it is asked for, in the list at ps -/
def LogLook (CL : CLs) (j : Nat) (g ps pb : Addr) (val : List V) (dft : V) (B : Hp) : Prop :=
  ∀ H', ExtN B H' → IsFn H' g ∧ ∀ (L : List Int) (k : Int) (Q : VK), H' ps = some (.lst (L.map V.int)) → L.length < 100000 → H' pb = some (.lst val) → Q (if 0 ≤ k ∧ k < val.length then val.getD k.toNat .non else dft) (upd H' ps (.lst ((L ++ [k]).map V.int))) → CL.run j g [.int k] H' Q
theorem LogLook.ext {CL : CLs} {j : Nat} {g ps pb : Addr} {val : List V} {dft : V} {B B' : Hp} (p : LogLook CL j g ps pb val dft B) (s : ExtN B B') : LogLook CL j g ps pb val dft B' := fun H' s2 => p H' (s.trans s2)
/-- .. between the calls: nothing but ps has changed -/
def LogI (B : Hp) (ps pb : Addr) (val : List V) (L0 : List Int) (L : List Nat) (H : Hp) : Prop := ExtN B H ∧ H ps = some (.lst ((L0 ++ L.map Int.ofNat).map V.int)) ∧ H pb = some (.lst val)
theorem LogLook.lookR {CL : CLs} {j : Nat} {g ps pb : Addr} {val : List V} {dft : V} {B : Hp} {L0 : List Int} (p : LogLook CL j g ps pb val dft B) (hj : j ≤ 9) (hB : ∀ o, B ps = some o → ∃ φ, o = .ext φ) (nb : ps ≠ pb) (hl : L0.length ≤ 90000) :
    LookR CL g val.length (fun k => val.getD k .non) (some ps) (LogI B ps pb val L0) where
  fn := fun h => (p _ h.1).1
  isq := fun h p z => by cases z; exact ⟨_, h.2.1⟩
  ext := fun h s => ⟨h.1.trans s.extN, s.get h.2.1, s.get h.2.2⟩
  ask := fun {L H k Q} h hL hk q => by
    refine CL.mono hj ((p _ h.1).2 _ _ Q h.2.1 (by rw [List.length_append, List.length_map]; omega) h.2.2 ?_)
    rw [if_pos ⟨by omega, by omega⟩, Int.toNat_natCast]
    have ne : ∀ {b : Addr} {o : HO}, B b = some o → b ≠ ps := fun {b o} e z => by
      subst z
      obtain ⟨φ, rfl⟩ := hB o e
      have z2 := h.1 _ _ e fun _ z => nomatch z
      rw [h.2.1] at z2; cases z2
    refine q _ ⟨fun b o e n => ?_, ?_, ?_⟩ (SameX.of (fun p z => by cases z; exact ⟨_, h.2.1⟩) (fun p z => by cases z; exact ⟨_, upd_same⟩) fun b o n e => ?_)
    · rw [upd_ne (ne e)]; exact h.1 b o e n
    · rw [upd_same, List.map_append (f := Int.ofNat), ← List.append_assoc]; rfl
    · rw [upd_ne nb.symm]; exact h.2.2
    · rw [upd_ne fun z => n (by rw [z])]; exact e
theorem LookR.congr {CL : CLs} {g : Addr} {n : Nat} {val val' : Nat → V} {q : Option Addr} {I : List Nat → Hp → Prop} (R : LookR CL g n val q I) (h : ∀ k, k < n → val k = val' k) : LookR CL g n val' q I :=
  ⟨R.fn, R.isq, R.ext, fun {L H k Q} i l hk q => R.ask i l hk (by rw [h k hk]; exact q)⟩
theorem getD_map_int (bl : List Int) {k : Nat} (h : k < bl.length) : (bl.map V.int).getD k .non = .int (bl.getD k 0) := by
  rw [List.getD_eq_getElem?_getD, List.getD_eq_getElem?_getD, mapint (List.getElem?_eq_getElem h), List.getElem?_eq_getElem h]; rfl
theorem LogLook.lookI {CL : CLs} {j : Nat} {g ps pb : Addr} {bl : List Int} {dft : V} {B : Hp} {L0 : List Int} (p : LogLook CL j g ps pb (bl.map V.int) dft B) (hj : j ≤ 9) (hB : ∀ o, B ps = some o → ∃ φ, o = .ext φ) (nb : ps ≠ pb) (hl : L0.length ≤ 90000) :
    LookR CL g bl.length (fun k => .int (bl.getD k 0)) (some ps) (LogI B ps pb (bl.map V.int) L0) := by
  have R := (p.lookR hj hB nb hl).congr (val' := fun k => .int (bl.getD k 0)) fun k hk => getD_map_int bl (by rw [List.length_map] at hk; exact hk)
  rw [List.length_map] at R
  exact R
theorem PureLook.lookI {CL : CLs} {j : Nat} {g : Addr} {bl : List Int} {B : Hp} (p : PureLook CL j g (bl.map V.int) B) (hj : j ≤ 9) : LookR CL g bl.length (fun k => .int (bl.getD k 0)) none (fun _ H => ExtN B H) := by
  have R := (p.lookR hj).congr (val' := fun k => .int (bl.getD k 0)) fun k hk => getD_map_int bl (by rw [List.length_map] at hk; exact hk)
  rw [List.length_map] at R
  exact R
section
variable {B H H0 H' : Hp} {ps pb a : Addr} {val : List V} {L0 : List Int} {L : List Nat} {xs : List V} {K : PySem.W.Frag} {q : Option Addr} {o : HO}
theorem extN_upd (s : ExtN B H) (hB : ∀ o, B ps = some o → ∃ φ, o = .ext φ) (e : H ps = some (.lst xs)) : ExtN B (upd H ps o) := fun b u z n => by
  have nb : b ≠ ps := fun y => by
    subst y
    obtain ⟨φ, rfl⟩ := hB u z
    have z2 := s _ _ z fun _ z => nomatch z
    rw [e] at z2; cases z2
  rw [upd_ne nb]; exact s b u z n
theorem LogI.clear (h : LogI B ps pb val L0 L H) (hB : ∀ o, B ps = some o → ∃ φ, o = .ext φ) (nb : ps ≠ pb) : LogI B ps pb val [] [] (upd H ps (.lst [])) :=
  ⟨extN_upd h.1 hB h.2.1, upd_same, by rw [upd_ne nb.symm]; exact h.2.2⟩
/-- what was asked for is the start of what follows -/
theorem LogI.again (h : LogI B ps pb val L0 L H) : LogI B ps pb val (L0 ++ L.map Int.ofNat) [] H := ⟨h.1, by simpa using h.2.1, h.2.2⟩
theorem SameX.upd (s : SameX (some ps) H H') : SameX (some ps) H (upd H' ps (.lst xs)) := by
  obtain ⟨ys, e⟩ := s.isl' ps rfl
  refine s.trans (SameX.of s.isl' (fun p z => by cases z; exact ⟨_, upd_same⟩) fun b o n e => ?_)
  rw [upd_ne fun z => n (by rw [z])]; exact e
theorem SameX.seqO (h : SqL K H a xs) (s0 : Same H H0) (hps : H ps = none) (s : SameX (some ps) H0 H') : SqL K H' a xs := by
  have ne : ∀ {o}, H a = some o → (some ps : Option Addr) ≠ some a := fun {o} e z => by cases z; rw [hps] at e; cases e
  rcases h with (z | ⟨o, z⟩) | z
  · exact .inl (.inl (s.get (ne z) (s0.get z)))
  · exact .inl (.inr ⟨o, s.get (ne z) (s0.get z)⟩)
  · exact .inr z
end
/-- the list that changes is new -/
theorem SameX.fresh {H H1 H' : Hp} {ps : Addr} (s : Same H H1) (h : H ps = none) (x : SameX (some ps) H1 H') : Same H H' :=
  ⟨fun b o e n => x.keep b o (fun z => by cases z; rw [h] at e; cases e) (s.keep b o e n) n, fun b e => s.gone b (x.gone b e), fun P t => x.tabs P (s.tabs P t)⟩
theorem LogI.start {H H1 : Hp} {ps pb : Addr} {val : List V} {L0 : List Int} (e : H1 ps = some (.lst (L0.map V.int))) (b : H1 pb = some (.lst val)) : LogI (newOf H H1) ps pb val L0 [] H1 :=
  ⟨newOf_extN (ExtN.refl _), by simpa using e, b⟩
/-- the same, of places that are there alone -/
def LogLookN (CL : CLs) (j : Nat) (g ps pb : Addr) (val : List V) (B : Hp) : Prop :=
  ∀ H', ExtN B H' → IsFn H' g ∧ ∀ (L : List Int) (k : Nat) (x : V) (Q : VK), H' ps = some (.lst (L.map V.int)) → L.length < 100000 → H' pb = some (.lst val) → val[k]? = some x → Q x (upd H' ps (.lst ((L ++ [(k : Int)]).map V.int))) → CL.run j g [.int (k : Int)] H' Q
theorem LogLookN.ext {CL : CLs} {j : Nat} {g ps pb : Addr} {val : List V} {B B' : Hp} (p : LogLookN CL j g ps pb val B) (s : ExtN B B') : LogLookN CL j g ps pb val B' := fun H' s2 => p H' (s.trans s2)
theorem LogLookN.lookR {CL : CLs} {j : Nat} {g ps pb : Addr} {val : List V} {B : Hp} {L0 : List Int} (p : LogLookN CL j g ps pb val B) (hj : j ≤ 9) (hB : ∀ o, B ps = some o → ∃ φ, o = .ext φ) (nb : ps ≠ pb) (hl : L0.length ≤ 90000) :
    LookR CL g val.length (fun k => val.getD k .non) (some ps) (LogI B ps pb val L0) where
  fn := fun h => (p _ h.1).1
  isq := fun h p z => by cases z; exact ⟨_, h.2.1⟩
  ext := fun h s => ⟨h.1.trans s.extN, s.get h.2.1, s.get h.2.2⟩
  ask := fun {L H k Q} h hL hk q => by
    refine CL.mono hj ((p _ h.1).2 _ k (val.getD k .non) Q h.2.1 (by rw [List.length_append, List.length_map]; omega) h.2.2 (by rw [List.getD_eq_getElem?_getD, List.getElem?_eq_getElem hk]; rfl) ?_)
    refine q _ ⟨extN_upd h.1 hB h.2.1, ?_, ?_⟩ (SameX.of (fun p z => by cases z; exact ⟨_, h.2.1⟩) (fun p z => by cases z; exact ⟨_, upd_same⟩) fun b o n e => ?_)
    · rw [upd_same, List.map_append (f := Int.ofNat), ← List.append_assoc]; rfl
    · rw [upd_ne nb.symm]; exact h.2.2
    · rw [upd_ne fun z => n (by rw [z])]; exact e
end Tw
open PySem PySem.Spec PyProof.Rows L2 Tw
set_option hygiene false in
local macro_rules | `(tactic| walk_at "s1") => `(tactic| first
  | with_reducible refine m_seq ?_
  | with_reducible refine k_asg ?_
  | with_reducible refine m_asg ?_
  | ((with_reducible refine' k_var ?kv ?_); case kv => walk_at "look")
  | with_reducible refine k_c ?_
  | with_reducible refine k_op ?_
  | with_reducible refine k_I0 ?_
  | ((with_reducible refine k_I ?kv ?_); case kv => walk_at "cond")
  | with_reducible refine k_and1 ?_
  | with_reducible refine k_eqI ?_
  | with_reducible refine k_neI ?_
  | ((with_reducible refine k_eq ?kv ?_); case kv => exact rfl)
  | ((with_reducible refine k_ne ?kv ?_); case kv => exact rfl)
  | with_reducible refine k_isN ?_
  | with_reducible refine k_notN ?_
  | with_reducible refine k_nx ?_
  | with_reducible refine k_rt ?_
  | with_reducible refine m_next ?_
  | with_reducible refine m_bk ?_
  | with_reducible refine m_ct ?_
  | with_reducible refine k_if ?_
  | with_reducible refine k_test ?_
  | with_reducible refine k_tB ?_
  | with_reducible refine k_bl ?_
  | with_reducible refine k_chain ?_
  | with_reducible refine k_chainE ?_
  | with_reducible refine k_not ?_
  | with_reducible refine k_and ?_
  | with_reducible refine k_or ?_
  | with_reducible refine k_andV ?_
  | with_reducible refine k_orV ?_
  | with_reducible refine k_notV ?_
  | with_reducible refine k_ifE ?_
  | with_reducible refine k_ret ?_
  | with_reducible refine k_retN ?_
  | with_reducible refine k_drop ?_
  | with_reducible refine k_cons ?_
  | with_reducible refine k_nil ?_
  | with_reducible refine m_call ?_
  | with_reducible refine m_callS ?_
  | with_reducible refine k_rz ?_
  | with_reducible refine m_tryAs ?_
  | with_reducible refine m_tryOnly ?_
  | with_reducible refine m_tryM ?_
  | with_reducible refine k_cb ?_
  | with_reducible refine k_tup ?_
  | with_reducible refine k_lst ?_
  | ((with_reducible refine' k_aug ?kv ?_); case kv => exact rfl)
  | with_reducible refine k_ipI ?_
  | with_reducible refine k_un ?_
  | with_reducible refine k_U ?_
  | with_reducible refine k_sl ?_
  | with_reducible refine k_part ?_
  | with_reducible refine k_noPart ?_
  | with_reducible refine k_partE ?_
  | with_reducible refine k_bm ?_
  | with_reducible refine k_bm0 ?_
  | with_reducible refine k_isInt ?_
  | with_reducible refine k_isBool ?_
  | with_reducible refine k_min2 ?_
  | with_reducible refine k_max2 ?_
  | with_reducible refine m_gName ?_
  | with_reducible refine m_for ?_
  | with_reducible refine m_rng1 ?_
  | ((with_reducible refine m_rng1n ?kv ?_); case kv => walk_at "arith")
  | ((with_reducible refine m_rng1e ?kv ?_); case kv => walk_at "arith")
  | with_reducible refine m_rng2 ?_
  | ((with_reducible refine m_rng2e ?kv ?_); case kv => walk_at "arith")
  | with_reducible refine m_iL ?_
  | with_reducible refine m_iT ?_
  | with_reducible refine m_lc ?_
  | ((with_reducible refine k_disp ?kv ?_); case kv => (first | decide | (simp only [List.length_cons, List.length_nil]; omega)))
  | with_reducible refine m_rev ?_
  | with_reducible refine m_revL ?_
  | with_reducible refine m_enum ?_
  | with_reducible refine m_zip ?_
  | with_reducible refine m_rng3 ?_
  | with_reducible refine m_gCons ?_
  | with_reducible refine m_gNil ?_
  | with_reducible refine m_gSub ?_
  | with_reducible refine m_par ?_
  | with_reducible refine m_parE ?_
  | with_reducible refine m_wbody ?_
  | with_reducible refine m_lenSet ?_
  | with_reducible refine m_minD ?_
  | ((with_reducible refine' m_callV ?kv ?kf ?_); (case kv => walk_at "look"); (case kf => walk_at "isfn"))
  | with_reducible refine k_yes ?_
  | with_reducible refine k_T ?_
  | with_reducible refine k_F ?_
  | with_reducible refine k_nT ?_
  | with_reducible refine k_nF ?_)
local macro_rules | `(tactic| walk_at "cond") => `(tactic| first | exact ⟨by decide, by decide⟩ | omega | decide | exact ⟨by omega, by omega⟩ | exact ⟨by omega, by omega, by decide⟩ | exact Or.inr (by omega) | exact Or.inr (by decide) | exact Or.inl (by omega) | exact Or.inl (by decide) | assumption)
local macro_rules | `(tactic| walk_at "st") => `(tactic| repeat (walk_at "s1"))
local macro_rules | `(tactic| walk_at "look") => `(tactic| first | exact rfl | (simp only [List.getElem?_set, List.getElem?_cons_zero, List.getElem?_cons_succ]; exact rfl))
local macro_rules | `(tactic| walk_at "if") => `(tactic| first | with_reducible apply k_dec | with_reducible apply k_ndec)
local macro_rules | `(tactic| walk_at "arith") => `(tactic| first | decide | omega | (simp only [List.length_map, List.length_take, List.length_drop, List.length_append, List.length_cons, List.length_nil] at *; first | omega | (split <;> omega) | (split <;> split <;> omega)))
local macro_rules | `(tactic| walk_at "isfn") => `(tactic| assumption)
namespace Tw
structure KFx (K : PySem.W.Frag) : Prop where
  ec_NoBit : ExcC K (He.ga K "NoBit")
  kt_NoBit : PySem.W.kitOne K (.ref (He.ga K "NoBit")) (.type "ValueError") = some true
  k_NoBit_NoBit : PySem.W.kitOne K (.ref (He.ga K "NoBit")) (.ref (He.ga K "NoBit")) = some true
  e_NoBit_NoBit : PySem.W.exmOne K (.ref (He.ga K "NoBit")) (.ref (He.ga K "NoBit")) = some true
  k_NoBit_NoOctets : PySem.W.kitOne K (.ref (He.ga K "NoBit")) (.ref (He.ga K "NoOctets")) = some false
  e_NoBit_NoOctets : PySem.W.exmOne K (.ref (He.ga K "NoBit")) (.ref (He.ga K "NoOctets")) = some false
  k_NoBit_NoPlace : PySem.W.kitOne K (.ref (He.ga K "NoBit")) (.ref (He.ga K "NoPlace")) = some false
  e_NoBit_NoPlace : PySem.W.exmOne K (.ref (He.ga K "NoBit")) (.ref (He.ga K "NoPlace")) = some false
  k_NoBit_NoTree : PySem.W.kitOne K (.ref (He.ga K "NoBit")) (.ref (He.ga K "NoTree")) = some false
  e_NoBit_NoTree : PySem.W.exmOne K (.ref (He.ga K "NoBit")) (.ref (He.ga K "NoTree")) = some false
  k_NoBit_TooMany : PySem.W.kitOne K (.ref (He.ga K "NoBit")) (.ref (He.ga K "TooMany")) = some false
  e_NoBit_TooMany : PySem.W.exmOne K (.ref (He.ga K "NoBit")) (.ref (He.ga K "TooMany")) = some false
  k_NoBit_WoodError : PySem.W.kitOne K (.ref (He.ga K "NoBit")) (.ref (He.ga K "WoodError")) = some true
  e_NoBit_WoodError : PySem.W.exmOne K (.ref (He.ga K "NoBit")) (.ref (He.ga K "WoodError")) = some true
  ec_NoOctets : ExcC K (He.ga K "NoOctets")
  kt_NoOctets : PySem.W.kitOne K (.ref (He.ga K "NoOctets")) (.type "ValueError") = some true
  k_NoOctets_NoBit : PySem.W.kitOne K (.ref (He.ga K "NoOctets")) (.ref (He.ga K "NoBit")) = some false
  e_NoOctets_NoBit : PySem.W.exmOne K (.ref (He.ga K "NoOctets")) (.ref (He.ga K "NoBit")) = some false
  k_NoOctets_NoOctets : PySem.W.kitOne K (.ref (He.ga K "NoOctets")) (.ref (He.ga K "NoOctets")) = some true
  e_NoOctets_NoOctets : PySem.W.exmOne K (.ref (He.ga K "NoOctets")) (.ref (He.ga K "NoOctets")) = some true
  k_NoOctets_NoPlace : PySem.W.kitOne K (.ref (He.ga K "NoOctets")) (.ref (He.ga K "NoPlace")) = some false
  e_NoOctets_NoPlace : PySem.W.exmOne K (.ref (He.ga K "NoOctets")) (.ref (He.ga K "NoPlace")) = some false
  k_NoOctets_NoTree : PySem.W.kitOne K (.ref (He.ga K "NoOctets")) (.ref (He.ga K "NoTree")) = some false
  e_NoOctets_NoTree : PySem.W.exmOne K (.ref (He.ga K "NoOctets")) (.ref (He.ga K "NoTree")) = some false
  k_NoOctets_TooMany : PySem.W.kitOne K (.ref (He.ga K "NoOctets")) (.ref (He.ga K "TooMany")) = some false
  e_NoOctets_TooMany : PySem.W.exmOne K (.ref (He.ga K "NoOctets")) (.ref (He.ga K "TooMany")) = some false
  k_NoOctets_WoodError : PySem.W.kitOne K (.ref (He.ga K "NoOctets")) (.ref (He.ga K "WoodError")) = some true
  e_NoOctets_WoodError : PySem.W.exmOne K (.ref (He.ga K "NoOctets")) (.ref (He.ga K "WoodError")) = some true
  ec_NoPlace : ExcC K (He.ga K "NoPlace")
  kt_NoPlace : PySem.W.kitOne K (.ref (He.ga K "NoPlace")) (.type "ValueError") = some true
  k_NoPlace_NoBit : PySem.W.kitOne K (.ref (He.ga K "NoPlace")) (.ref (He.ga K "NoBit")) = some false
  e_NoPlace_NoBit : PySem.W.exmOne K (.ref (He.ga K "NoPlace")) (.ref (He.ga K "NoBit")) = some false
  k_NoPlace_NoOctets : PySem.W.kitOne K (.ref (He.ga K "NoPlace")) (.ref (He.ga K "NoOctets")) = some false
  e_NoPlace_NoOctets : PySem.W.exmOne K (.ref (He.ga K "NoPlace")) (.ref (He.ga K "NoOctets")) = some false
  k_NoPlace_NoPlace : PySem.W.kitOne K (.ref (He.ga K "NoPlace")) (.ref (He.ga K "NoPlace")) = some true
  e_NoPlace_NoPlace : PySem.W.exmOne K (.ref (He.ga K "NoPlace")) (.ref (He.ga K "NoPlace")) = some true
  k_NoPlace_NoTree : PySem.W.kitOne K (.ref (He.ga K "NoPlace")) (.ref (He.ga K "NoTree")) = some false
  e_NoPlace_NoTree : PySem.W.exmOne K (.ref (He.ga K "NoPlace")) (.ref (He.ga K "NoTree")) = some false
  k_NoPlace_TooMany : PySem.W.kitOne K (.ref (He.ga K "NoPlace")) (.ref (He.ga K "TooMany")) = some false
  e_NoPlace_TooMany : PySem.W.exmOne K (.ref (He.ga K "NoPlace")) (.ref (He.ga K "TooMany")) = some false
  k_NoPlace_WoodError : PySem.W.kitOne K (.ref (He.ga K "NoPlace")) (.ref (He.ga K "WoodError")) = some true
  e_NoPlace_WoodError : PySem.W.exmOne K (.ref (He.ga K "NoPlace")) (.ref (He.ga K "WoodError")) = some true
  ec_NoTree : ExcC K (He.ga K "NoTree")
  kt_NoTree : PySem.W.kitOne K (.ref (He.ga K "NoTree")) (.type "ValueError") = some true
  k_NoTree_NoBit : PySem.W.kitOne K (.ref (He.ga K "NoTree")) (.ref (He.ga K "NoBit")) = some false
  e_NoTree_NoBit : PySem.W.exmOne K (.ref (He.ga K "NoTree")) (.ref (He.ga K "NoBit")) = some false
  k_NoTree_NoOctets : PySem.W.kitOne K (.ref (He.ga K "NoTree")) (.ref (He.ga K "NoOctets")) = some false
  e_NoTree_NoOctets : PySem.W.exmOne K (.ref (He.ga K "NoTree")) (.ref (He.ga K "NoOctets")) = some false
  k_NoTree_NoPlace : PySem.W.kitOne K (.ref (He.ga K "NoTree")) (.ref (He.ga K "NoPlace")) = some false
  e_NoTree_NoPlace : PySem.W.exmOne K (.ref (He.ga K "NoTree")) (.ref (He.ga K "NoPlace")) = some false
  k_NoTree_NoTree : PySem.W.kitOne K (.ref (He.ga K "NoTree")) (.ref (He.ga K "NoTree")) = some true
  e_NoTree_NoTree : PySem.W.exmOne K (.ref (He.ga K "NoTree")) (.ref (He.ga K "NoTree")) = some true
  k_NoTree_TooMany : PySem.W.kitOne K (.ref (He.ga K "NoTree")) (.ref (He.ga K "TooMany")) = some false
  e_NoTree_TooMany : PySem.W.exmOne K (.ref (He.ga K "NoTree")) (.ref (He.ga K "TooMany")) = some false
  k_NoTree_WoodError : PySem.W.kitOne K (.ref (He.ga K "NoTree")) (.ref (He.ga K "WoodError")) = some true
  e_NoTree_WoodError : PySem.W.exmOne K (.ref (He.ga K "NoTree")) (.ref (He.ga K "WoodError")) = some true
  ec_TooMany : ExcC K (He.ga K "TooMany")
  kt_TooMany : PySem.W.kitOne K (.ref (He.ga K "TooMany")) (.type "ValueError") = some true
  k_TooMany_NoBit : PySem.W.kitOne K (.ref (He.ga K "TooMany")) (.ref (He.ga K "NoBit")) = some false
  e_TooMany_NoBit : PySem.W.exmOne K (.ref (He.ga K "TooMany")) (.ref (He.ga K "NoBit")) = some false
  k_TooMany_NoOctets : PySem.W.kitOne K (.ref (He.ga K "TooMany")) (.ref (He.ga K "NoOctets")) = some false
  e_TooMany_NoOctets : PySem.W.exmOne K (.ref (He.ga K "TooMany")) (.ref (He.ga K "NoOctets")) = some false
  k_TooMany_NoPlace : PySem.W.kitOne K (.ref (He.ga K "TooMany")) (.ref (He.ga K "NoPlace")) = some false
  e_TooMany_NoPlace : PySem.W.exmOne K (.ref (He.ga K "TooMany")) (.ref (He.ga K "NoPlace")) = some false
  k_TooMany_NoTree : PySem.W.kitOne K (.ref (He.ga K "TooMany")) (.ref (He.ga K "NoTree")) = some false
  e_TooMany_NoTree : PySem.W.exmOne K (.ref (He.ga K "TooMany")) (.ref (He.ga K "NoTree")) = some false
  k_TooMany_TooMany : PySem.W.kitOne K (.ref (He.ga K "TooMany")) (.ref (He.ga K "TooMany")) = some true
  e_TooMany_TooMany : PySem.W.exmOne K (.ref (He.ga K "TooMany")) (.ref (He.ga K "TooMany")) = some true
  k_TooMany_WoodError : PySem.W.kitOne K (.ref (He.ga K "TooMany")) (.ref (He.ga K "WoodError")) = some true
  e_TooMany_WoodError : PySem.W.exmOne K (.ref (He.ga K "TooMany")) (.ref (He.ga K "WoodError")) = some true
  ec_WoodError : ExcC K (He.ga K "WoodError")
  kt_WoodError : PySem.W.kitOne K (.ref (He.ga K "WoodError")) (.type "ValueError") = some true
  k_WoodError_NoBit : PySem.W.kitOne K (.ref (He.ga K "WoodError")) (.ref (He.ga K "NoBit")) = some false
  e_WoodError_NoBit : PySem.W.exmOne K (.ref (He.ga K "WoodError")) (.ref (He.ga K "NoBit")) = some false
  k_WoodError_NoOctets : PySem.W.kitOne K (.ref (He.ga K "WoodError")) (.ref (He.ga K "NoOctets")) = some false
  e_WoodError_NoOctets : PySem.W.exmOne K (.ref (He.ga K "WoodError")) (.ref (He.ga K "NoOctets")) = some false
  k_WoodError_NoPlace : PySem.W.kitOne K (.ref (He.ga K "WoodError")) (.ref (He.ga K "NoPlace")) = some false
  e_WoodError_NoPlace : PySem.W.exmOne K (.ref (He.ga K "WoodError")) (.ref (He.ga K "NoPlace")) = some false
  k_WoodError_NoTree : PySem.W.kitOne K (.ref (He.ga K "WoodError")) (.ref (He.ga K "NoTree")) = some false
  e_WoodError_NoTree : PySem.W.exmOne K (.ref (He.ga K "WoodError")) (.ref (He.ga K "NoTree")) = some false
  k_WoodError_TooMany : PySem.W.kitOne K (.ref (He.ga K "WoodError")) (.ref (He.ga K "TooMany")) = some false
  e_WoodError_TooMany : PySem.W.exmOne K (.ref (He.ga K "WoodError")) (.ref (He.ga K "TooMany")) = some false
  k_WoodError_WoodError : PySem.W.kitOne K (.ref (He.ga K "WoodError")) (.ref (He.ga K "WoodError")) = some true
  e_WoodError_WoodError : PySem.W.exmOne K (.ref (He.ga K "WoodError")) (.ref (He.ga K "WoodError")) = some true

/-- _law_whole(x) -/
def sp_law_whole (_ : PySem.W.Frag) : Sp := fun vs H Q _ => ∃ x : V, vs = [x] ∧ ((∃ n : Int, x = .int n ∧ Q (.bl true) H) ∨ (x = .non ∧ Q (.bl false) H))
theorem whole_int {K : PySem.W.Frag} {H : Hp} {Q : VK} {E : XK} {n : Int} (q : Q (.bl true) H) : sp_law_whole K [.int n] H Q E := ⟨_, rfl, .inl ⟨n, rfl, q⟩⟩
theorem whole_non {K : PySem.W.Frag} {H : Hp} {Q : VK} {E : XK} (q : Q (.bl false) H) : sp_law_whole K [.non] H Q E := ⟨_, rfl, .inr ⟨rfl, q⟩⟩
theorem len_law_whole (K : PySem.W.Frag) : ∀ vs H Q E, sp_law_whole K vs H Q E → vs.length = 1 := by
  rintro vs H Q E ⟨x, rfl, _⟩; rfl
def t_law_whole (K : PySem.W.Frag) : TS :=
  (tRet (tAndV (tCB rIsB (tCons (tVar 0) (tCons (tC (.ty "int")) tNil))) (tNotV (tCB rIsB (tCons (tVar 0) (tCons (tC (.ty "bool")) tNil))))))
abbrev n_law_whole : List Str := ["_law_found"]

theorem rd_law_whole (K : PySem.W.Frag) (vs : List V) (H : Hp) (Q : VK) (E : XK) (h : sp_law_whole K vs H Q E) : t_law_whole K { nx := fun _ H' => Q .non H', rt := Q } (start n_law_whole vs) H := by
  obtain ⟨x, rfl, (⟨n, rfl, q⟩ | ⟨rfl, q⟩)⟩ := h
  · unfold t_law_whole
    walk_at "st"
    exact q
  · unfold t_law_whole
    walk_at "st"
    refine k_isIntN ?_
    walk_at "st"
    exact q

/-- _law_cell_at(script, k) -/
def sp_law_cell_at (K : PySem.W.Frag) : Sp := fun vs H Q _ => ∃ (a : Addr) (ns : List Int) (k : Int), vs = [.ref a, .int k] ∧ SqL K H a (ns.map V.int) ∧ 0 ≤ k ∧ ∀ c : Int, c = ns.getD k.toNat 0 → Q (.int c) H
theorem len_law_cell_at (K : PySem.W.Frag) : ∀ vs H Q E, sp_law_cell_at K vs H Q E → vs.length = 2 := by
  rintro vs H Q E ⟨x, y, z, rfl, _⟩; rfl
def t_law_cell_at (K : PySem.W.Frag) : TS :=
  (tSeq (tIfS (tTest (tOp rLt (tVar 1) (tCB (rLen K) (tCons (tVar 0) tNil))))
  (tRet (tOp (rIxL K) (tVar 0) (tVar 1)))
  tNext)
  (tRet (tC (.int 0))))
abbrev n_law_cell_at : List Str := ["_law_script", "_law_k"]

theorem rd_law_cell_at (K : PySem.W.Frag) (vs : List V) (H : Hp) (Q : VK) (E : XK) (h : sp_law_cell_at K vs H Q E) : t_law_cell_at K { nx := fun _ H' => Q .non H', rt := Q } (start n_law_cell_at vs) H := by
  obtain ⟨a, ns, k, rfl, hS, hk, q⟩ := h
  unfold t_law_cell_at
  walk_at "st"
  refine k_lenL hS ?_
  walk_at "st"
  rw [List.length_map]
  walk_at "if" <;> intro c
  · walk_at "st"
    have hlt : k.toNat < ns.length := by omega
    refine k_ixL hS (at_int hk (mapint (List.getElem?_eq_getElem hlt))) ?_
    walk_at "st"
    exact q _ (by rw [List.getD_eq_getElem?_getD, List.getElem?_eq_getElem hlt]; rfl)
  · walk_at "st"
    exact q _ (by rw [List.getD_eq_getElem?_getD, List.getElem?_eq_none (by omega)]; rfl)
theorem call_cell_at {K : PySem.W.Frag} {H : Hp} {Q : VK} {E : XK} {a : Addr} {ns : List Int} {k : Int} (hS : SqL K H a (ns.map V.int)) (hk : 0 ≤ k) (q : ∀ c : Int, c = ns.getD k.toNat 0 → Q (.int c) H) : sp_law_cell_at K [.ref a, .int k] H Q E :=
  ⟨a, ns, k, rfl, hS, hk, q⟩

/-- cuts, joins and repeats of lists of ints -/
theorem k_slTake {K : PySem.W.Frag} {H : Hp} {Q : VK} {p : Addr} {bs : List Int} {k : Nat} (h : SqL K H p (bs.map V.int)) (q : ∀ l H', H l = none → Same H H' → H' l = some (.lst ((bs.take k).map V.int)) → Q (.ref l) H') : rSlL K (.ref p) none (some (k : Int)) H Q := by
  refine k_slL h fun l hl => ?_
  rw [cutTake, ← List.map_take]
  exact q l _ hl (same_new hl) upd_same
theorem k_slDrop {K : PySem.W.Frag} {H : Hp} {Q : VK} {p : Addr} {bs : List Int} {k : Nat} (h : SqL K H p (bs.map V.int)) (q : ∀ l H', H l = none → Same H H' → H' l = some (.lst ((bs.drop k).map V.int)) → Q (.ref l) H') : rSlL K (.ref p) (some (k : Int)) none H Q := by
  refine k_slL h fun l hl => ?_
  rw [cutDrop, ← List.map_drop]
  exact q l _ hl (same_new hl) upd_same
theorem new_both {H : Hp} {p : Addr} {o : HO} (h : H p = none) : Same H (upd H p o) ∧ (upd H p o) p = some o := ⟨same_new h, upd_same⟩
theorem k_catI {H : Hp} {Q : VK} {a b : Addr} {xs ys : List Int} (h1 : H a = some (.lst (xs.map V.int))) (h2 : H b = some (.lst (ys.map V.int))) (hn : xs.length + ys.length ≤ 1000000) (q : ∀ l H', H l = none → Same H H' → H' l = some (.lst ((xs ++ ys).map V.int)) → Q (.ref l) H') : rCat (.ref a) (.ref b) H Q := by
  refine k_cat h1 h2 (by rw [List.length_map, List.length_map]; exact hn) fun p hp => ?_
  rw [← List.map_append]
  exact q p _ hp (same_new hp) upd_same
theorem k_catKI {K : PySem.W.Frag} {H : Hp} {Q : VK} {a b : Addr} {xs ys : List Int} (h1 : SqL K H a (xs.map V.int)) (h2 : SqL K H b (ys.map V.int)) (hn : xs.length + ys.length ≤ 1000000) (q : ∀ l H', H l = none → Same H H' → H' l = some (.lst ((xs ++ ys).map V.int)) → Q (.ref l) H') : rCatK K (.ref a) (.ref b) H Q := by
  refine k_catK h1 h2 (by rw [List.length_map, List.length_map]; exact hn) fun p hp => ?_
  rw [← List.map_append]
  exact q p _ hp (same_new hp) upd_same
theorem k_repI {H : Hp} {Q : VK} {a : Addr} {xs : List Int} {n : Int} (h : H a = some (.lst (xs.map V.int))) (h0 : 0 ≤ n ∧ n ≤ 1000000) (hn : xs.length * n.toNat ≤ 1000000) (q : ∀ l H' (cs : List Int), H l = none → Same H H' → cs = (List.replicate n.toNat xs).flatten → cs.length = n.toNat * xs.length → H' l = some (.lst (cs.map V.int)) → Q (.ref l) H') : rRep (.ref a) (.int n) H Q := by
  obtain ⟨m, rfl⟩ := Int.eq_ofNat_of_zero_le h0.1
  rw [Int.toNat_natCast] at hn q
  refine k_rep h (by rw [List.length_map]; exact hn) (by omega) fun p hp => ?_
  have e : (List.replicate m (xs.map V.int)).flatten = ((List.replicate m xs).flatten).map V.int := by
    rw [List.map_flatten, List.map_replicate]
  rw [e]
  refine q p _ _ hp (same_new hp) rfl ?_ upd_same
  rw [List.length_flatten, List.map_replicate, List.sum_replicate_nat]
/-- a number in a tuple of numbers -/
theorem k_inT {K : PySem.W.Frag} {H : Hp} {Q : VK} {p : Addr} {x : Int} {xs : List V} (h : H p = some (.tup xs)) (hf : xs.all flatV = true) (q : ∀ b, Q (.bl b) H) : rIn K false (.int x) (.ref p) H Q := ⟨p, xs, rfl, .inr (.of h), rfl, hf, q _⟩

/-! ### bits of a number -/
/-- the bit k of b -/
def bit (b : Int) (k : Nat) : Int := b / 2 ^ k % 2
theorem bit_cases (b : Int) (k : Nat) : bit b k = 0 ∨ bit b k = 1 := by unfold bit; omega
/-- the ones among the first n bits -/
def onesIn (b : Int) : Nat → Int
  | 0 => 0
  | n + 1 => onesIn b n + bit b n
theorem onesIn_mono1 (b : Int) (n : Nat) : onesIn b n ≤ onesIn b (n + 1) ∧ onesIn b (n + 1) ≤ onesIn b n + 1 := by
  show onesIn b n ≤ onesIn b n + bit b n ∧ onesIn b n + bit b n ≤ _
  have := bit_cases b n; omega
theorem onesIn_mono (b : Int) (n m : Nat) (h : n ≤ m) : onesIn b n ≤ onesIn b m := by
  induction m with
  | zero => have : n = 0 := by omega
            subst this; exact Int.le_refl _
  | succ m ih =>
    rcases Nat.lt_or_ge m n with q | q
    · have : n = m + 1 := by omega
      subst this; exact Int.le_refl _
    · have := ih q; have := onesIn_mono1 b m; omega
theorem onesIn_range (b : Int) (n : Nat) : 0 ≤ onesIn b n ∧ onesIn b n ≤ n := by
  induction n with
  | zero => exact ⟨Int.le_refl _, Int.le_refl _⟩
  | succ n ih => have := onesIn_mono1 b n; omega
theorem sum_range_succ (f : Nat → Int) (n : Nat) : ((List.range (n + 1)).map f).sum = ((List.range n).map f).sum + f n := by
  rw [List.range_succ, List.map_append, List.sum_append]; simp
theorem onesIn_sum (b : Int) (n : Nat) : ((List.range n).map fun k => bit b k).sum = onesIn b n := by
  induction n with
  | zero => rfl
  | succ n ih => rw [sum_range_succ, ih]; rfl
theorem halve (b : Int) (k : Nat) : b / 2 ^ k / 2 = b / 2 ^ (k + 1) := by
  rw [Int.pow_succ, Int.ediv_ediv_of_nonneg]
  exact Int.le_of_lt (Int.pow_pos (by decide))

/-! ### rows and blocks -/
/-- all items are bits -/
def Bits (bs : List Int) : Prop := ∀ b ∈ bs, b = 0 ∨ b = 1
/-- the block of some bits (the first one counting 1) -/
def blk : List Int → Int
  | [] => 0
  | b :: bs => b + 2 * blk bs
/-- the row of bits bs as blocks, so many -/
def blksN (bs : List Int) : Nat → List Int
  | 0 => []
  | n + 1 => blk (bs.take 32) :: blksN (bs.drop 32) n
/-- the blocks of a row -/
def blks (bs : List Int) : List Int := blksN bs ((bs.length + 31) / 32)
theorem blksN_len (bs : List Int) (n : Nat) : (blksN bs n).length = n := by
  induction n generalizing bs with
  | zero => rfl
  | succ n ih => show (blksN (bs.drop 32) n).length + 1 = n + 1; rw [ih]
theorem blks_len (bs : List Int) : (blks bs).length = (bs.length + 31) / 32 := blksN_len _ _
theorem blksN_get (bs : List Int) (n j : Nat) (h : j < n) : (blksN bs n)[j]? = some (blk ((bs.drop (32 * j)).take 32)) := by
  induction n generalizing bs j with
  | zero => omega
  | succ n ih =>
    cases j with
    | zero => rfl
    | succ j =>
      show (blksN (bs.drop 32) n)[j]? = _
      rw [ih (bs.drop 32) j (by omega), List.drop_drop, show 32 + 32 * j = 32 * (j + 1) by omega]
theorem blks_get (bs : List Int) (j : Nat) (h : j < (bs.length + 31) / 32) : (blks bs)[j]? = some (blk ((bs.drop (32 * j)).take 32)) := blksN_get _ _ _ h
theorem blk_range : ∀ bs : List Int, Bits bs → 0 ≤ blk bs ∧ blk bs < 2 ^ bs.length
  | [], _ => ⟨Int.le_refl _, by decide⟩
  | b :: bs, h => by
    obtain ⟨h1, h2⟩ := blk_range bs fun x hx => h x (List.mem_cons_of_mem _ hx)
    have h3 := h b List.mem_cons_self
    have e : (2 : Int) ^ (bs.length + 1) = 2 ^ bs.length * 2 := Int.pow_succ ..
    show 0 ≤ b + 2 * blk bs ∧ b + 2 * blk bs < 2 ^ (bs.length + 1)
    omega
/-- a bit of a block -/
theorem bit_blk : ∀ (bs : List Int) (k : Nat), Bits bs → bit (blk bs) k = bs.getD k 0
  | [], k, _ => by
    show (0 : Int) / 2 ^ k % 2 = _
    rw [Int.zero_ediv]; rfl
  | b :: bs, 0, h => by
    have h3 := h b List.mem_cons_self
    show (b + 2 * blk bs) / 2 ^ 0 % 2 = b
    simp; omega
  | b :: bs, k + 1, h => by
    have h3 := h b List.mem_cons_self
    have ih := bit_blk bs k fun x hx => h x (List.mem_cons_of_mem _ hx)
    show (b + 2 * blk bs) / 2 ^ (k + 1) % 2 = (b :: bs).getD (k + 1) 0
    rw [List.getD_cons_succ, ← ih]
    show _ = blk bs / 2 ^ k % 2
    have e : (b + 2 * blk bs) / 2 = blk bs := by omega
    rw [show (2 : Int) ^ (k + 1) = 2 * 2 ^ k by rw [Int.pow_succ, Int.mul_comm], ← Int.ediv_ediv_of_nonneg (by decide), e]
theorem Bits.sub {bs cs : List Int} (h : Bits bs) (s : ∀ x ∈ cs, x ∈ bs) : Bits cs := fun x hx => h x (s x hx)
theorem Bits.take {bs : List Int} (h : Bits bs) (n : Nat) : Bits (bs.take n) := h.sub fun _ hx => List.mem_of_mem_take hx
theorem Bits.drop {bs : List Int} (h : Bits bs) (n : Nat) : Bits (bs.drop n) := h.sub fun _ hx => List.mem_of_mem_drop hx
/-- a row's blocks: each below 2 ^ 32 -/
theorem blks_range {bs : List Int} (h : Bits bs) {j : Nat} {b : Int} (e : (blks bs)[j]? = some b) : 0 ≤ b ∧ b < 4294967296 := by
  have hj : j < (bs.length + 31) / 32 := by
    have := (List.getElem?_eq_some_iff.mp e).1
    rw [blks_len] at this; exact this
  rw [blks_get bs j hj] at e
  obtain rfl := Option.some.inj e
  obtain ⟨h1, h2⟩ := blk_range _ ((h.drop (32 * j)).take 32)
  refine ⟨h1, Int.lt_of_lt_of_le h2 ?_⟩
  have : ((bs.drop (32 * j)).take 32).length ≤ 32 := by rw [List.length_take]; omega
  show (2 : Int) ^ _ ≤ 2 ^ 32
  exact_mod_cast Nat.pow_le_pow_right (show 0 < 2 by decide) this
/-- bit k of block j is bit 32 * j + k of the row -/
theorem bit_blks {bs : List Int} (h : Bits bs) {j : Nat} {b : Int} (e : (blks bs)[j]? = some b) {k : Nat} (hk : k < 32) : bit b k = bs.getD (32 * j + k) 0 := by
  have hj : j < (bs.length + 31) / 32 := by
    have := (List.getElem?_eq_some_iff.mp e).1
    rw [blks_len] at this; exact this
  rw [blks_get bs j hj] at e
  obtain rfl := Option.some.inj e
  rw [bit_blk _ _ ((h.drop (32 * j)).take 32), List.getD_eq_getElem?_getD, List.getD_eq_getElem?_getD, List.getElem?_take, if_pos hk, List.getElem?_drop]
/-- blocks are alike where their bits are -/
theorem blk_ext {x y : Int} (hx : 0 ≤ x ∧ x < 4294967296) (hy : 0 ≤ y ∧ y < 4294967296) (h : ∀ k, k < 32 → bit x k = bit y k) : x = y := by
  have key : ∀ n : Nat, n ≤ 32 → x / 2 ^ (32 - n) = y / 2 ^ (32 - n) := by
    intro n
    induction n with
    | zero =>
      intro _
      rw [Int.ediv_eq_zero_of_lt hx.1 (by exact hx.2), Int.ediv_eq_zero_of_lt hy.1 (by exact hy.2)]
    | succ n ih =>
      intro hn
      have h1 := ih (by omega)
      have h2 := h (32 - (n + 1)) (by omega)
      unfold bit at h2
      have e : 32 - n = (32 - (n + 1)) + 1 := by omega
      rw [e, ← halve, ← halve] at h1
      omega
  have := key 32 (Nat.le_refl _)
  rw [Nat.sub_self, Int.pow_zero, Int.ediv_one, Int.ediv_one] at this
  exact this

/-- blocks filled with the first i bits, zeroes behind -/
def part (bs : List Int) (n i : Nat) : List Int := blksN (bs.take i) n
theorem blk_nil : blk [] = 0 := rfl
theorem blk_snoc : ∀ (bs : List Int) (b : Int), blk (bs ++ [b]) = blk bs + b * 2 ^ bs.length
  | [], b => by show b + 2 * 0 = 0 + b * 2 ^ 0; simp
  | c :: bs, b => by
    show c + 2 * blk (bs ++ [b]) = c + 2 * blk bs + b * 2 ^ (bs.length + 1)
    rw [blk_snoc bs b, Int.pow_succ, Int.mul_add, ← Int.mul_assoc 2 b, Int.mul_comm 2 b, Int.mul_assoc b, Int.mul_comm 2 (2 ^ bs.length), Int.add_assoc]
theorem part_zero (bs : List Int) (n : Nat) : part bs n 0 = List.replicate n 0 := by
  unfold part
  rw [List.take_zero]
  induction n with
  | zero => rfl
  | succ n ih => show blk [] :: blksN [] n = _; rw [ih]; rfl
theorem part_full (bs : List Int) : part bs ((bs.length + 31) / 32) bs.length = blks bs := by
  unfold part blks; rw [List.take_length]
theorem part_len (bs : List Int) (n i : Nat) : (part bs n i).length = n := blksN_len _ _
theorem part_get (bs : List Int) (n i j : Nat) (h : j < n) : (part bs n i)[j]? = some (blk (((bs.take i).drop (32 * j)).take 32)) := blksN_get _ _ _ h
/-- one bit more: only its own block turns -/
theorem part_succ {bs : List Int} {n i : Nat} {b : Int} (hb : bs[i]? = some b) (hn : i / 32 < n) :
    part bs n (i + 1) = (part bs n i).set (i / 32) ((part bs n i).getD (i / 32) 0 + b * 2 ^ (i % 32)) := by
  have hi : i < bs.length := (List.getElem?_eq_some_iff.mp hb).1
  apply List.ext_getElem?
  intro j
  rw [List.getElem?_set, part_len]
  rcases Nat.lt_or_ge j n with hj | hj
  · rw [part_get _ _ _ _ hj]
    have et : bs.take (i + 1) = bs.take i ++ [b] := by rw [List.take_add_one, hb]; rfl
    have hl : (bs.take i).length = i := by rw [List.length_take]; omega
    rw [et]
    by_cases h : i / 32 = j
    · subst h
      rw [if_pos rfl, if_pos hn, List.getD_eq_getElem?_getD, part_get _ _ _ _ hn]
      have hd : ((bs.take i).drop (32 * (i / 32))).length = i % 32 := by rw [List.length_drop, hl]; omega
      have e2 : ((bs.take i).drop (32 * (i / 32))).take 32 = (bs.take i).drop (32 * (i / 32)) := List.take_of_length_le (by rw [hd]; omega)
      have e1 : ((bs.take i).drop (32 * (i / 32)) ++ [b]).take 32 = (bs.take i).drop (32 * (i / 32)) ++ [b] := List.take_of_length_le (by rw [List.length_append, hd]; simp; omega)
      rw [List.drop_append_of_le_length (by rw [hl]; omega), e1, e2, blk_snoc, hd]
      rfl
    · rw [if_neg h, part_get _ _ _ _ hj]
      congr 2
      rcases Nat.lt_or_ge j (i / 32) with l | l
      · rw [List.drop_append_of_le_length (by rw [hl]; omega), List.take_append_of_le_length (by rw [List.length_drop, hl]; omega)]
      · rw [List.drop_of_length_le (by rw [List.length_append, hl]; simp; omega), List.drop_of_length_le (by rw [hl]; omega)]
  · rw [List.getElem?_eq_none (by rw [part_len]; exact hj), if_neg (by omega), List.getElem?_eq_none (by rw [part_len]; exact hj)]
theorem part_range_take {bs : List Int} {i : Nat} (h : Bits (bs.take i)) {n j : Nat} (hj : j < n) (hi : i % 32 = i - 32 * j) (hij : 32 * j ≤ i) : 0 ≤ (part bs n i).getD j 0 ∧ (part bs n i).getD j 0 < 2 ^ (i % 32) := by
  rw [List.getD_eq_getElem?_getD, part_get _ _ _ _ hj]
  obtain ⟨h1, h2⟩ := blk_range _ ((h.drop (32 * j)).take 32)
  refine ⟨h1, Int.lt_of_lt_of_le h2 ?_⟩
  have : (((bs.take i).drop (32 * j)).take 32).length ≤ i % 32 := by rw [List.length_take, List.length_drop, List.length_take]; omega
  exact_mod_cast Nat.pow_le_pow_right (show 0 < 2 by decide) this
/-- a bit above a number -/
theorem or_high {x : Int} {k : Nat} (h0 : 0 ≤ x) (h1 : x < 2 ^ k) : Builtin.bitOr x (1 * 2 ^ k) = x + 1 * 2 ^ k := by
  have e := or_low (q := 1) (r := x) (k := k) (by decide) h0 h1
  rw [bitOr_nn h0 (by rw [Int.one_mul]; exact Int.le_of_lt (Int.pow_pos (by decide))), Nat.or_comm, ← bitOr_nn (by rw [Int.one_mul]; exact Int.le_of_lt (Int.pow_pos (by decide))) h0, e, Int.add_comm]

/-- packed(bits) -/
def sp_packed (K : PySem.W.Frag) : Sp := fun vs H Q E => ∃ (a : Addr) (bs : List Int), vs = [.ref a] ∧ SqL K H a (bs.map V.int) ∧ bs.length ≤ 100000 ∧
  (bs.length > 4096 → E (.ref (He.ga K "TooMany")) none H) ∧
  (bs.length ≤ 4096 → ¬ Bits bs → ∀ H', Same H H' → E (.ref (He.ga K "NoBit")) none H') ∧
  (bs.length ≤ 4096 → Bits bs → ∀ p H', H p = none → Same H H' → H' p = some (.lst ((blks bs).map V.int)) → Q (.ref p) H')
theorem len_packed (K : PySem.W.Frag) : ∀ vs H Q E, sp_packed K vs H Q E → vs.length = 1 := by
  rintro vs H Q E ⟨x, y, rfl, _⟩; rfl
def t_packed (K : PySem.W.Frag) (E : XK) : TS :=
  (tSeq (tIfS (tTest (tOp rGtI (tCB (rLen K) (tCons (tVar 0) tNil)) (tC (.int 4096))))
  (tRz (fun cls d _ H => E cls d H) (He.ga K "TooMany"))
  tNext)
  (tSeq (tAsg (tOp rRep (tLst (tCons (tC (.int 0)) tNil)) (tOp rDiv (tOp rMinus (tOp rPlus (tCB (rLen K) (tCons (tVar 0) tNil)) (tC (.int 32))) (tC (.int 1))) (tC (.int 32)))) (gName 1))
  (tSeq (tFor (iEnum K (tCons (tVar 0) tNil)) (gTup K 2 (gCons (gName 2) (gCons (gName 3) gNil)))
  (tSeq (tIfS (tAnd (tTest (tOp rNe (tVar 3) (tC (.int 0)))) (tTest (tOp rNe (tVar 3) (tC (.int 1)))))
  (tRz (fun cls d _ H => E cls d H) (He.ga K "NoBit"))
  tNext)
  (tIfS (tTest (tOp rEq (tVar 3) (tC (.int 1))))
  (tAsg (tOp rBitOr (tOp (rIxL K) (tVar 1) (tOp rDiv (tVar 2) (tC (.int 32)))) (tOp rShlW (tC (.int 1)) (tOp rMod (tVar 2) (tC (.int 32))))) (gSub (tVar 1) (tOp rDiv (tVar 2) (tC (.int 32))) rSetL))
  tNext)))
  (tRet (tVar 1)))))
abbrev n_packed : List Str := ["bits", "blocks", "at", "bit"]

theorem rd_packed (K : PySem.W.Frag) (vs : List V) (H : Hp) (Q : VK) (E : XK) (h : sp_packed K vs H Q E) : t_packed K E { nx := fun _ H' => Q .non H', rt := Q } (start n_packed vs) H := by
  obtain ⟨a, bs, rfl, hS, hl, q1, q2, q3⟩ := h
  unfold t_packed
  walk_at "st"
  refine k_lenL hS ?_
  walk_at "st"
  rw [List.length_map]
  walk_at "if" <;> intro c1
  · walk_at "st"
    exact q1 (by omega)
  have hm : bs.length ≤ 4096 := by omega
  walk_at "st"
  intro p0 hp0
  walk_at "st"
  refine k_lenL ((same_new hp0).seq hS) ?_
  walk_at "st"
  rw [List.length_map]
  have en : ((bs.length : Int) + 32 - 1) / 32 = (((bs.length + 31) / 32 : Nat) : Int) := by omega
  rw [en]
  refine k_rep (xs := [.int 0]) upd_same (by simp only [List.length_cons, List.length_nil]; omega) (by omega) fun p hp => ?_
  have hp' : H p = none := (same_new hp0).free hp
  have s0 := (same_new hp0).trans (same_new (o := .lst (List.replicate ((bs.length + 31) / 32) [V.int 0]).flatten) hp)
  walk_at "st"
  refine m_enumE (s0.seq hS) ?_
  refine loop_walk walk_enum (fun i σ H' => ∃ y z, σ = [some (.ref a), some (.ref p), y, z] ∧ i ≤ bs.length ∧ Same H H' ∧ H' p = some (.lst ((part bs ((bs.length + 31) / 32) i).map V.int)) ∧ Bits (bs.take i)) ⟨none, none, rfl, Nat.zero_le _, s0, ?_, fun x hx => by simp at hx⟩ (fun i σ H' ⟨y, z, _, _, s, _⟩ => s.seq hS) ?_ ?_
  · rw [upd_same, part_zero, List.map_replicate, rep_one]
  · rintro i v σ H1 H2 hi ⟨y, z, rfl, _, s, e, hb⟩ ⟨T, x, w, rfl, hT, rfl, ex, ew⟩
    rw [List.length_map] at hi
    obtain ⟨b, hbi, rfl⟩ := of_mapint ew
    obtain rfl : x = .int (i : Nat) := (Option.some.inj ex).symm
    have npT : p ≠ T := ne_of_none e hT
    have s2 : Same H (upd H1 T (.tup [.int (i : Nat), .int b])) := s.trans (same_new hT)
    have e2 : (upd H1 T (.tup [.int (i : Nat), .int b])) p = some (.lst ((part bs ((bs.length + 31) / 32) i).map V.int)) := by rw [upd_ne npT]; exact e
    refine m_gTup (.of upd_same) rfl ?_
    walk_at "st"
    have nobit : ∀ (c : ¬ (b = 0 ∨ b = 1)), ¬ Bits bs := fun c hB => c (hB b (List.mem_of_getElem? hbi))
    have go : (b = 0 ∨ b = 1) → Bits (bs.take (i + 1)) := by
      intro hb1 q hq
      rw [List.take_add_one, hbi] at hq
      rcases List.mem_append.mp hq with h | h
      · exact hb q h
      · have : q = b := by simpa using h
        subst this; exact hb1
    have hin : i / 32 < (bs.length + 31) / 32 := by omega
    walk_at "if" <;> intro c0
    · walk_at "st"
      walk_at "if" <;> intro c1
      · walk_at "st"
        exact q2 hm (nobit fun z => z.elim c0 c1) _ s2
      · walk_at "st"
        refine k_decT c1 ?_
        obtain rfl : b = 1 := c1
        walk_at "st"
        have hlt : i / 32 < ((part bs ((bs.length + 31) / 32) i)).length := by rw [part_len]; exact hin
        refine k_ixL (.of e2) (at_int (by omega) (i := ((i : Nat) : Int) / 32) (x := .int ((part bs ((bs.length + 31) / 32) i).getD (i / 32) 0)) ?_) ?_
        · rw [show (((i : Nat) : Int) / 32).toNat = i / 32 by omega, List.getD_eq_getElem?_getD, List.getElem?_eq_getElem hlt]
          exact mapint (List.getElem?_eq_getElem hlt)
        walk_at "st"
        have hsh : CShl 1 (((i : Nat) : Int) % 32) := by
          rw [show ((i : Nat) : Int) % 32 = ((i % 32 : Nat) : Int) by omega]
          exact shl_ok (n := 1) (by decide) (by omega)
        refine k_I hsh ?_
        walk_at "st"
        have hr := part_range_take hb (n := (bs.length + 31) / 32) (j := i / 32) hin (by omega) (by omega)
        have eor : Builtin.bitOr ((part bs ((bs.length + 31) / 32) i).getD (i / 32) 0) (1 * 2 ^ (((i : Nat) : Int) % 32).toNat) = (part bs ((bs.length + 31) / 32) i).getD (i / 32) 0 + 1 * 2 ^ (i % 32) := by
          rw [show (((i : Nat) : Int) % 32).toNat = i % 32 by omega]
          exact or_high hr.1 hr.2
        rw [eor]
        refine m_setL e2 (ixN_nat (by omega) (by rw [List.length_map, part_len]; omega)) ?_
        walk_at "st"
        refine ⟨_, _, rfl, hi, Same.mut s2 hp', ?_, go (.inr rfl)⟩
        rw [upd_same, show (((i : Nat) : Int) / 32).toNat = i / 32 by omega, part_succ hbi hin, List.map_set]
    · walk_at "st"
      obtain rfl : b = 0 := c0
      refine k_decF (by decide) ?_
      walk_at "st"
      refine ⟨_, _, rfl, hi, s2, ?_, go (.inl rfl)⟩
      rw [e2, part_succ hbi hin, Int.zero_mul, Int.add_zero]
      congr 2
      have hlt : i / 32 < ((part bs ((bs.length + 31) / 32) i)).length := by rw [part_len]; exact hin
      rw [List.getD_eq_getElem?_getD, List.getElem?_eq_getElem hlt]
      show _ = List.map V.int ((part bs ((bs.length + 31) / 32) i).set (i / 32) ((part bs ((bs.length + 31) / 32) i)[i / 32]))
      rw [List.set_getElem_self]
  · rintro σ H' ⟨y, z, rfl, _, s, e, hb⟩
    rw [List.length_map] at e hb
    walk_at "st"
    rw [List.take_length] at hb
    rw [part_full] at e
    exact q3 hm hb p H' hp' s e

/-- the ones among the first n bits of a row -/
def sumTo (bs : List Int) (n : Nat) : Int := (bs.take n).sum
theorem sumTo_succ (bs : List Int) (n : Nat) : sumTo bs (n + 1) = sumTo bs n + bs.getD n 0 := by
  unfold sumTo
  rw [List.take_add_one, List.sum_append, List.getD_eq_getElem?_getD]
  cases bs[n]? <;> simp
theorem sumTo_all (bs : List Int) {n : Nat} (h : bs.length ≤ n) : sumTo bs n = bs.sum := by
  unfold sumTo; rw [List.take_of_length_le h]
theorem sumTo_zero (bs : List Int) : sumTo bs 0 = 0 := rfl
/-- the ones of a block's first bits -/
theorem onesIn_blks {bs : List Int} (h : Bits bs) {j : Nat} {b : Int} (e : (blks bs)[j]? = some b) : ∀ k, k ≤ 32 → onesIn b k = sumTo bs (32 * j + k) - sumTo bs (32 * j)
  | 0, _ => by rw [Nat.add_zero]; show (0 : Int) = _; omega
  | k + 1, hk => by
    show onesIn b k + bit b k = _
    rw [onesIn_blks h e k (by omega), bit_blks h e (by omega), show 32 * j + (k + 1) = (32 * j + k) + 1 by omega, sumTo_succ]; omega

/-- the ones ahead of the first n blocks -/
def aheadN (bs : List Int) (n : Nat) : List Int := (List.range n).map fun j => sumTo bs (32 * j)
theorem aheadN_len (bs : List Int) (n : Nat) : (aheadN bs n).length = n := by unfold aheadN; simp
theorem aheadN_get (bs : List Int) {n j : Nat} (h : j < n) : (aheadN bs n)[j]? = some (sumTo bs (32 * j)) := by unfold aheadN; simp [h]
theorem aheadN_succ (bs : List Int) (n : Nat) : aheadN bs (n + 1) = aheadN bs n ++ [sumTo bs (32 * n)] := by unfold aheadN; rw [List.range_succ, List.map_append]; rfl
/-- the table of a row: the ones ahead of each block, and all -/
def aheadT (bs : List Int) : List Int := aheadN bs ((bs.length + 31) / 32 + 1)
theorem aheadT_len (bs : List Int) : (aheadT bs).length = (bs.length + 31) / 32 + 1 := aheadN_len _ _
theorem aheadT_get (bs : List Int) {j : Nat} (h : j ≤ (bs.length + 31) / 32) : (aheadT bs)[j]? = some (sumTo bs (32 * j)) := aheadN_get bs (by omega)
theorem sumTo_add (bs : List Int) (n m : Nat) : sumTo bs (n + m) = sumTo bs n + ((bs.drop n).take m).sum := by
  unfold sumTo; rw [List.take_add, List.sum_append]
theorem getD_bit {bs : List Int} (h : Bits bs) (k : Nat) : bs.getD k 0 = 0 ∨ bs.getD k 0 = 1 := by
  rw [List.getD_eq_getElem?_getD]
  cases e : bs[k]? with
  | none => exact .inl rfl
  | some b => exact h b (List.mem_of_getElem? e)
theorem sumTo_mono1 {bs : List Int} (h : Bits bs) (n : Nat) : sumTo bs n ≤ sumTo bs (n + 1) ∧ sumTo bs (n + 1) ≤ sumTo bs n + 1 := by
  rw [sumTo_succ]; have := getD_bit h n; omega
theorem sumTo_mono {bs : List Int} (h : Bits bs) {n m : Nat} (l : n ≤ m) : sumTo bs n ≤ sumTo bs m := by
  induction m with
  | zero => rw [show n = 0 by omega]; exact Int.le_refl _
  | succ m ih =>
    rcases Nat.lt_or_ge m n with z | z
    · rw [show n = m + 1 by omega]; exact Int.le_refl _
    · have := ih z; have := sumTo_mono1 h m; omega
theorem sumTo_range {bs : List Int} (h : Bits bs) (n : Nat) : 0 ≤ sumTo bs n ∧ sumTo bs n ≤ n := by
  induction n with
  | zero => exact ⟨Int.le_refl _, Int.le_refl _⟩
  | succ n ih => have := sumTo_mono1 h n; omega
theorem blks_getD {bs : List Int} {j : Nat} (h : j < (bs.length + 31) / 32) : (blks bs)[j]? = some ((blks bs).getD j 0) := by
  rw [List.getD_eq_getElem?_getD, List.getElem?_eq_getElem (by rw [blks_len]; exact h)]; rfl

/-! ### promises -/
/-- ones_in(b, u) -/
def sp_ones_in (_ : PySem.W.Frag) : Sp := fun vs H Q _ => ∃ (b : Int) (u : Nat), vs = [.int b, .int (u : Int)] ∧ u ≤ 1000 ∧ ∀ H', Same H H' → Q (.int (onesIn b u)) H'
theorem len_ones_in (K : PySem.W.Frag) : ∀ vs H Q E, sp_ones_in K vs H Q E → vs.length = 2 := by
  rintro vs H Q E ⟨b, u, rfl, _⟩; rfl
def t_ones_in (K : PySem.W.Frag) : TS :=
  (tRet (tCB (rSum K) (tCons (tLc (iRng1 (tCons (tVar 1) tNil)) (gName 2) tYes (tOp rAnd1 (tOp rShr (tVar 0) (tVar 2)) (tC (.int 1))) [2]) tNil)))
abbrev n_ones_in : List Str := ["block", "upto", "k"]

theorem rd_ones_in (K : PySem.W.Frag) (vs : List V) (H : Hp) (Q : VK) (E : XK) (h : sp_ones_in K vs H Q E) : t_ones_in K { nx := fun _ H' => Q .non H', rt := Q } (start n_ones_in vs) H := by
  obtain ⟨b, u, rfl, hu, q⟩ := h
  unfold t_ones_in
  walk_at "st"
  refine comp_rangeV (n := u) (f := fun k => .int (bit b k)) (by omega) (fun k H2 Q2 _ _ q2 => ?_) (fun p H' _ s e => ?_)
  · walk_at "st"
    exact q2 _ (Same.refl _)
  · walk_at "st"
    refine k_sum (ns := (List.range u).map fun k => bit b k) (.of ?_) ?_
    · rw [e, List.map_map]; rfl
    · rw [onesIn_sum]; walk_at "st"; exact q _ s

/-- ones_table(blocks), the blocks of a row -/
def sp_ones_table (K : PySem.W.Frag) : Sp := fun vs H Q _ => ∃ (a : Addr) (bs : List Int), vs = [.ref a] ∧ H a = some (.lst ((blks bs).map V.int)) ∧ bs.length ≤ 5000 ∧ Bits bs ∧ ∀ p H', H p = none → Same H H' → H' p = some (.tup ((aheadT bs).map V.int)) → Q (.ref p) H'
theorem len_ones_table (K : PySem.W.Frag) : ∀ vs H Q E, sp_ones_table K vs H Q E → vs.length = 1 := by
  rintro vs H Q E ⟨a, bs, rfl, _⟩; rfl
def t_ones_table (K : PySem.W.Frag) : TS :=
  (tSeq (tAsg (tLst (tCons (tC (.int 0)) tNil)) (gName 1))
  (tSeq (tFor (iList K (tVar 0)) (gName 2)
  (tDrop (tBM K "list" rAppend (tVar 1) (tCons (tOp rPlus (tOp (rIxL K) (tVar 1) (tUn rNeg (tC (.int 1)))) (tCall (sp_ones_in K) [] E0 (tCons (tVar 2) (tCons (tC (.int 32)) tNil)))) tNil))))
  (tRet (tCB (rTupOf K) (tCons (tVar 1) tNil)))))
abbrev n_ones_table : List Str := ["blocks", "ahead", "block"]

theorem rd_ones_table (K : PySem.W.Frag) (vs : List V) (H : Hp) (Q : VK) (E : XK) (h : sp_ones_table K vs H Q E) : t_ones_table K { nx := fun _ H' => Q .non H', rt := Q } (start n_ones_table vs) H := by
  obtain ⟨a, bs, rfl, hS, hl, hB, q⟩ := h
  unfold t_ones_table
  walk_at "st"
  intro p hp
  walk_at "st"
  refine m_iLe (.of ((same_new hp).get hS)) ?_
  refine loop_ints (ns := blks bs) (fun i σ H' => ∃ y, σ = [some (.ref a), some (.ref p), y] ∧ i ≤ (blks bs).length ∧ Same H H' ∧ H' p = some (.lst ((aheadN bs (i + 1)).map V.int))) ⟨none, rfl, Nat.zero_le _, same_new hp, by rw [upd_same]; rfl⟩ (fun i σ H' ⟨_, _, _, s, _⟩ => .of (s.get hS)) ?_ ?_
  · rintro i x σ H' hx ⟨y, rfl, hi, s, e⟩
    have hlt : i < (blks bs).length := (List.getElem?_eq_some_iff.mp hx).1
    have hlt2 := hlt
    rw [blks_len] at hlt2
    walk_at "st"
    refine k_tyL (.of e) ?_
    walk_at "st"
    refine k_ixL (.of e) (x := .int (sumTo bs (32 * i))) (by rw [aheadN_succ, List.map_append]; exact atI_last _ _) ?_
    walk_at "st"
    refine ⟨x, 32, rfl, by decide, fun H2 s2 => ?_⟩
    walk_at "st"
    refine k_app (s2.get e) (by rw [List.length_map, aheadN_len]; omega) ?_
    walk_at "st"
    have e2 := s2.get e
    refine ⟨_, rfl, hlt, Same.mut (s.trans s2) hp, ?_⟩
    rw [upd_same, aheadN_succ bs (i + 1), List.map_append, onesIn_blks hB hx 32 (Nat.le_refl _), show 32 * i + 32 = 32 * (i + 1) by omega, show sumTo bs (32 * i) + (sumTo bs (32 * (i + 1)) - sumTo bs (32 * i)) = sumTo bs (32 * (i + 1)) by omega]; rfl
  · rintro σ H' ⟨y, rfl, hi, s, e⟩
    walk_at "st"
    refine k_tupL (.of e) fun t ht => ?_
    walk_at "st"
    refine q t _ (s.gone _ ht) (s.trans (same_new ht)) ?_
    rw [upd_same, blks_len]; rfl
/-- kept_row(bits) -/
def sp_kept_row (K : PySem.W.Frag) : Sp := fun vs H Q E => ∃ (a : Addr) (bs : List Int), vs = [.ref a] ∧ SqL K H a (bs.map V.int) ∧ bs.length ≤ 100000 ∧
  (bs.length > 4096 → E (.ref (He.ga K "TooMany")) none H) ∧
  (bs.length ≤ 4096 → ¬ Bits bs → ∀ H', Same H H' → E (.ref (He.ga K "NoBit")) none H') ∧
  (bs.length ≤ 4096 → Bits bs → ∀ p t pa pb H', H p = none → H t = none → H pa = none → H pb = none → Same H H' → H' p = some (.tup [.ref t, .ref pb]) → H' t = some (.tup [.int (bs.length : Int), .ref pa]) → H' pa = some (.tup ((aheadT bs).map V.int)) → H' pb = some (.lst ((blks bs).map V.int)) → Q (.ref p) H')
theorem len_kept_row (K : PySem.W.Frag) : ∀ vs H Q E, sp_kept_row K vs H Q E → vs.length = 1 := by
  rintro vs H Q E ⟨a, bs, rfl, _⟩; rfl
def t_kept_row (K : PySem.W.Frag) (E : XK) : TS :=
  (tSeq (tAsg (tCall (sp_packed K) [] E (tCons (tVar 0) tNil)) (gName 1))
  (tRet (tTup (tCons (tTup (tCons (tCB (rLen K) (tCons (tVar 0) tNil)) (tCons (tCall (sp_ones_table K) [] E0 (tCons (tVar 1) tNil)) tNil))) (tCons (tVar 1) tNil)))))
abbrev n_kept_row : List Str := ["bits", "blocks"]

theorem rd_kept_row (K : PySem.W.Frag) (vs : List V) (H : Hp) (Q : VK) (E : XK) (h : sp_kept_row K vs H Q E) : t_kept_row K E { nx := fun _ H' => Q .non H', rt := Q } (start n_kept_row vs) H := by
  obtain ⟨a, bs, rfl, hS, hl, q1, q2, q3⟩ := h
  unfold t_kept_row
  walk_at "st"
  refine ⟨a, bs, rfl, hS, hl, q1, q2, fun hm hB pb H1 hpb s1 e1 => ?_⟩
  walk_at "st"
  refine k_lenL (s1.seq hS) ?_
  walk_at "st"
  rw [List.length_map]
  refine ⟨pb, bs, rfl, e1, by omega, hB, fun pa H2 hpa s2 e2 => ?_⟩
  walk_at "st"
  intro t ht
  walk_at "st"
  intro p hp
  walk_at "st"
  have s3 := same_new (o := .tup [.int (bs.length : Int), .ref pa]) ht
  have s4 := same_new (o := .tup [.ref t, .ref pb]) hp
  exact q3 hm hB p t pa pb _ ((s1.trans (s2.trans s3)).gone _ hp) ((s1.trans s2).gone _ ht) (s1.gone _ hpa) hpb (s1.trans (s2.trans (s3.trans s4))) upd_same (s4.get upd_same) (s4.get (s3.get e2)) (s4.get (s3.get (s2.get e1)))

/-- the net of the first k bits -/
def net (b : Int) (k : Nat) : Int := 2 * onesIn b k - k
theorem net_succ (b : Int) (k : Nat) : net b (k + 1) = net b k + (2 * bit b k - 1) := by
  unfold net; show 2 * (onesIn b k + bit b k) - ((k + 1 : Nat) : Int) = _
  push_cast; omega
theorem net_zero (b : Int) : net b 0 = 0 := rfl
/-- the least net of the first 1 .. n bits, 1 at none -/
def lowIn (b : Int) : Nat → Int
  | 0 => 1
  | n + 1 => if net b (n + 1) < lowIn b n then net b (n + 1) else lowIn b n
theorem lowIn_le (b : Int) (n : Nat) : ∀ k, 1 ≤ k → k ≤ n → lowIn b n ≤ net b k := by
  induction n with
  | zero => intro k h1 h2; omega
  | succ n ih =>
    intro k h1 h2
    unfold lowIn
    rcases Nat.lt_or_ge k (n + 1) with h | h
    · have := ih k h1 (by omega); split <;> omega
    · have : k = n + 1 := by omega
      subst this; split <;> omega
theorem net_one (b : Int) : net b 1 ≤ 1 := by
  rw [net_succ, net_zero]; have := bit_cases b 0; omega
theorem lowIn_mem (b : Int) (n : Nat) (hn : 1 ≤ n) : ∃ k, 1 ≤ k ∧ k ≤ n ∧ lowIn b n = net b k := by
  induction n with
  | zero => omega
  | succ n ih =>
    unfold lowIn
    rcases Nat.eq_zero_or_pos n with h | h
    · subst h
      refine ⟨1, by omega, by omega, ?_⟩
      have := net_one b
      show (if net b 1 < 1 then net b 1 else 1) = net b 1
      split <;> omega
    · obtain ⟨k, h1, h2, h3⟩ := ih h
      split
      · exact ⟨n + 1, by omega, by omega, rfl⟩
      · exact ⟨k, h1, by omega, h3⟩

/-- the height at a place -/
def hgt (bs : List Int) (n : Nat) : Int := 2 * sumTo bs n - n
theorem hgt_zero (bs : List Int) : hgt bs 0 = 0 := rfl
theorem hgt_succ (bs : List Int) (n : Nat) : hgt bs (n + 1) = hgt bs n + (2 * bs.getD n 0 - 1) := by
  unfold hgt; rw [sumTo_succ]; push_cast; omega
theorem net_blks {bs : List Int} (h : Bits bs) {j : Nat} {b : Int} (e : (blks bs)[j]? = some b) (k : Nat) (hk : k ≤ 32) : net b k = hgt bs (32 * j + k) - hgt bs (32 * j) := by
  unfold net hgt; rw [onesIn_blks h e k hk]; push_cast; omega
/-- the least of 1 and the heights at 1 .. n -/
def lowTo (bs : List Int) : Nat → Int
  | 0 => 1
  | n + 1 => if hgt bs (n + 1) < lowTo bs n then hgt bs (n + 1) else lowTo bs n
theorem lowTo_le (bs : List Int) (n : Nat) : lowTo bs n ≤ 1 ∧ ∀ k, 1 ≤ k → k ≤ n → lowTo bs n ≤ hgt bs k := by
  induction n with
  | zero => exact ⟨Int.le_refl _, fun k h1 h2 => by omega⟩
  | succ n ih =>
    unfold lowTo
    refine ⟨by have := ih.1; split <;> omega, fun k h1 h2 => ?_⟩
    rcases Nat.lt_or_ge k (n + 1) with h | h
    · have := ih.2 k h1 (by omega); split <;> omega
    · have : k = n + 1 := by omega
      subst this; split <;> omega
theorem lowTo_mem (bs : List Int) (n : Nat) : lowTo bs n = 1 ∨ ∃ k, 1 ≤ k ∧ k ≤ n ∧ lowTo bs n = hgt bs k := by
  induction n with
  | zero => exact .inl rfl
  | succ n ih =>
    unfold lowTo
    split
    · exact .inr ⟨n + 1, by omega, by omega, rfl⟩
    · rcases ih with h | ⟨k, h1, h2, h3⟩
      · exact .inl h
      · exact .inr ⟨k, h1, by omega, h3⟩
/-- a block more -/
theorem lowTo_block {bs : List Int} (h : Bits bs) {j : Nat} {b : Int} (e : (blks bs)[j]? = some b) {k : Nat} (h1 : 1 ≤ k) (hk : k ≤ 32) :
    (if hgt bs (32 * j) + lowIn b k < lowTo bs (32 * j) then hgt bs (32 * j) + lowIn b k else lowTo bs (32 * j)) = lowTo bs (32 * j + k) := by
  have a1 := lowTo_le bs (32 * j)
  have a2 := lowTo_mem bs (32 * j)
  have b1 := lowTo_le bs (32 * j + k)
  have b2 := lowTo_mem bs (32 * j + k)
  have c1 := lowIn_le b k
  obtain ⟨i, i1, i2, i3⟩ := lowIn_mem b k h1
  have d1 := net_blks h e i (by omega)
  have d2 := b1.2 (32 * j + i) (by omega) (by omega)
  have d3 : ∀ m, 1 ≤ m → m ≤ 32 * j + k → (lowTo bs (32 * j) ≤ hgt bs m ∨ hgt bs (32 * j) + lowIn b k ≤ hgt bs m) := by
    intro m m1 m2
    rcases Nat.lt_or_ge (32 * j) m with l | l
    · have g := c1 (m - 32 * j) (by omega) (by omega)
      rw [net_blks h e (m - 32 * j) (by omega), show 32 * j + (m - 32 * j) = m by omega] at g
      exact .inr (by omega)
    · exact .inl (a1.2 m m1 l)
  have d4 : lowTo bs (32 * j + k) ≤ lowTo bs (32 * j) := by
    rcases a2 with g | ⟨m, m1, m2, m3⟩
    · have := b1.1; omega
    · have := b1.2 m m1 (by omega); omega
  have d5 : lowTo bs (32 * j) ≤ lowTo bs (32 * j + k) ∨ hgt bs (32 * j) + lowIn b k ≤ lowTo bs (32 * j + k) := by
    rcases b2 with g | ⟨m, m1, m2, m3⟩
    · have := a1.1; exact .inl (by omega)
    · rcases d3 m m1 m2 with g | g
      · exact .inl (by omega)
      · exact .inr (by omega)
  split <;> omega

/-- a row that is a tree's: its height is nought at both ends alone -/
def IsTree (bs : List Int) : Prop := 2 ≤ bs.length ∧ hgt bs bs.length = 0 ∧ ∀ k, 0 < k → k < bs.length → 0 < hgt bs k
theorem hgt_cons (b : Int) (bs : List Int) (n : Nat) : hgt (b :: bs) (n + 1) = (2 * b - 1) + hgt bs n := by
  unfold hgt sumTo
  rw [List.take_succ_cons, List.sum_cons]; push_cast; omega
theorem hgt_left {as bs : List Int} {n : Nat} (h : n ≤ as.length) : hgt (as ++ bs) n = hgt as n := by
  unfold hgt sumTo
  rw [List.take_append_of_le_length h]
/-- from height h on bs goes, never below 1, to h' -/
def Up : Int → List Int → Int → Prop
  | h, [], h' => h = h'
  | h, b :: bs, h' => (b = 0 ∨ b = 1) ∧ 1 ≤ h + (2 * b - 1) ∧ Up (h + (2 * b - 1)) bs h'
theorem Up.app : ∀ {as bs : List Int} {h m h' : Int}, Up h as m → Up m bs h' → Up h (as ++ bs) h'
  | [], _, _, _, _, h1, h2 => by cases (show _ = _ from h1); exact h2
  | _ :: _, _, _, _, _, ⟨a1, a2, a3⟩, h2 => ⟨a1, a2, Up.app a3 h2⟩
theorem Up.bits : ∀ {bs : List Int} {h h' : Int}, Up h bs h' → Bits bs
  | [], _, _, _ => fun x hx => by cases hx
  | b :: bs, _, _, ⟨a1, _, a3⟩ => fun x hx => by
    rcases List.mem_cons.mp hx with rfl | z
    · exact a1
    · exact Up.bits a3 x z
theorem Up.hgt : ∀ {bs : List Int} {h h' : Int}, Up h bs h' → h + hgt bs bs.length = h' ∧ ∀ k, 0 < k → k ≤ bs.length → 1 ≤ h + Tw.hgt bs k
  | [], h, h', e => by
    have e : h = h' := e
    refine ⟨by show h + Tw.hgt [] 0 = h'; rw [hgt_zero]; omega, fun k h1 h2 => ?_⟩
    rw [List.length_nil] at h2; omega
  | b :: bs, h, h', ⟨a1, a2, a3⟩ => by
    obtain ⟨r1, r2⟩ := Up.hgt a3
    refine ⟨by rw [List.length_cons, hgt_cons]; omega, fun k h1 h2 => ?_⟩
    obtain ⟨k, rfl⟩ : ∃ j, k = j + 1 := ⟨k - 1, by omega⟩
    rw [hgt_cons]
    rcases Nat.eq_zero_or_pos k with rfl | hk
    · rw [hgt_zero]; omega
    · have := r2 k hk (by rw [List.length_cons] at h2; omega); omega
theorem up_ones : ∀ (n : Nat) {h : Int}, 0 ≤ h → Up h (List.replicate n 1) (h + n)
  | 0, h, _ => by show h = _; omega
  | n + 1, h, hh => ⟨.inr rfl, by omega, by
    have := up_ones n (h := h + (2 * 1 - 1)) (by omega)
    rw [show h + ((n + 1 : Nat) : Int) = h + (2 * 1 - 1) + (n : Int) by omega]; exact this⟩
theorem up_noughts : ∀ (n : Nat) {h : Int}, (n : Int) ≤ h - 1 → Up h (List.replicate n 0) (h - n)
  | 0, h, _ => by show h = _; omega
  | n + 1, h, hh => ⟨.inl rfl, by omega, by
    have := up_noughts n (h := h + (2 * 0 - 1)) (by omega)
    rw [show h - ((n + 1 : Nat) : Int) = h + (2 * 0 - 1) - (n : Int) by omega]; exact this⟩
theorem up_flat : ∀ (n : Nat) {h : Int}, 1 ≤ h → Up h (List.replicate n ([1, 0] : List Int)).flatten h
  | 0, h, _ => rfl
  | n + 1, h, hh => by
    rw [List.replicate_succ, List.flatten_cons]
    refine Up.app (m := h) ⟨.inr rfl, by omega, .inl rfl, by omega, ?_⟩ (up_flat n hh)
    show _ = h; omega
theorem tree_of_up {bs : List Int} {h : Int} (u : Up 0 bs h) (h1 : 1 ≤ h) : IsTree (bs ++ List.replicate h.toNat 0) := by
  have u2 := u.app (up_noughts (h.toNat - 1) (h := h) (by omega))
  rw [show h - ((h.toNat - 1 : Nat) : Int) = 1 by omega] at u2
  have e : bs ++ List.replicate h.toNat 0 = (bs ++ List.replicate (h.toNat - 1) 0) ++ [0] := by
    rw [List.append_assoc]
    congr 1
    rw [show ([0] : List Int) = List.replicate 1 0 from rfl, List.replicate_append_replicate]
    congr 1; omega
  rw [e]
  generalize bs ++ List.replicate (h.toNat - 1) 0 = cs at u2
  obtain ⟨g1, g2⟩ := u2.hgt
  have hc : 0 < cs.length := by
    rcases Nat.eq_zero_or_pos cs.length with z | z
    · rw [z, hgt_zero] at g1; omega
    · exact z
  refine ⟨by rw [List.length_append, List.length_singleton]; omega, ?_, fun k k1 k2 => ?_⟩
  · rw [List.length_append, List.length_singleton, hgt_succ, hgt_left (Nat.le_refl _)]
    rw [List.getD_eq_getElem?_getD, List.getElem?_append_right (Nat.le_refl _), Nat.sub_self]
    show _ + (2 * 0 - 1) = _
    omega
  · rw [List.length_append, List.length_singleton] at k2
    rw [hgt_left (by omega)]
    have := g2 k k1 (by omega); omega

/-- is_tree(bits) -/
def sp_is_tree (K : PySem.W.Frag) : Sp := fun vs H Q _ => ∃ (a : Addr) (bs : List Int), vs = [.ref a] ∧ SqL K H a (bs.map V.int) ∧ bs.length ≤ 100000 ∧ ∀ (b : Bool) H', (b = true ↔ IsTree bs) → Same H H' → Q (.bl b) H'
theorem len_is_tree (K : PySem.W.Frag) : ∀ vs H Q E, sp_is_tree K vs H Q E → vs.length = 1 := by
  rintro vs H Q E ⟨x, y, rfl, _⟩; rfl
def t_is_tree (K : PySem.W.Frag) : TS :=
  (tSeq (tAsg (tC (.int 0)) (gName 1))
  (tSeq (tFor (iEnum K (tCons (tVar 0) tNil)) (gTup K 2 (gCons (gName 2) (gCons (gName 3) gNil)))
  (tSeq (tAug 1 (tOp rMinus (tOp rTimes (tC (.int 2)) (tVar 3)) (tC (.int 1))) (ipI fun i j => i + j))
  (tIfS (tAnd (tTest (tOp rLe (tVar 1) (tC (.int 0)))) (tTest (tOp rLt (tOp rPlus (tVar 2) (tC (.int 1))) (tCB (rLen K) (tCons (tVar 0) tNil)))))
  (tRet (tC (.bl false)))
  tNext)))
  (tRet (tAndV (tOp rGtI (tCB (rLen K) (tCons (tVar 0) tNil)) (tC (.int 1))) (tOp rEq (tVar 1) (tC (.int 0)))))))
abbrev n_is_tree : List Str := ["bits", "high", "at", "bit"]

theorem rd_is_tree (K : PySem.W.Frag) (vs : List V) (H : Hp) (Q : VK) (E : XK) (h : sp_is_tree K vs H Q E) : t_is_tree K { nx := fun _ H' => Q .non H', rt := Q } (start n_is_tree vs) H := by
  obtain ⟨a, bs, rfl, hS, hl, q⟩ := h
  unfold t_is_tree
  walk_at "st"
  refine m_enumE hS ?_
  refine loop_walk walk_enum (fun i σ H' => ∃ y z, σ = [some (.ref a), some (.int (hgt bs i)), y, z] ∧ i ≤ bs.length ∧ Same H H' ∧ ∀ k, 0 < k → k ≤ i → k < bs.length → 0 < hgt bs k) ⟨none, none, rfl, Nat.zero_le _, Same.refl _, fun k h1 h2 => by omega⟩ (fun i σ H' ⟨y, z, _, _, s, _⟩ => s.seq hS) ?_ ?_
  · rintro i v σ H1 H2 hi ⟨y, z, rfl, _, s, hb⟩ ⟨T, x, w, rfl, hT, rfl, ex, ew⟩
    rw [List.length_map] at hi
    obtain ⟨b, hbi, rfl⟩ := of_mapint ew
    obtain rfl : x = .int (i : Nat) := (Option.some.inj ex).symm
    have s2 := s.trans (same_new (o := .tup [.int (i : Nat), .int b]) hT)
    refine m_gTup (.of upd_same) rfl ?_
    generalize upd H1 T (.tup [.int (i : Nat), .int b]) = H3 at s2 ⊢
    walk_at "st"
    have eh : hgt bs i + (2 * b - 1) = hgt bs (i + 1) := by rw [hgt_succ, List.getD_eq_getElem?_getD, hbi]; rfl
    rw [eh]
    walk_at "if" <;> intro c0
    · walk_at "st"
      refine k_lenL (s2.seq hS) ?_
      walk_at "st"
      rw [List.length_map]
      walk_at "if" <;> intro c1
      · walk_at "st"
        exact q false _ ⟨fun z => Bool.noConfusion z, fun z => by have := z.2.2 (i + 1) (by omega) (by omega); omega⟩ s2
      · walk_at "st"
        exact ⟨_, _, rfl, by omega, s2, fun k h1 h2 h3 => hb k h1 (by omega) h3⟩
    · walk_at "st"
      refine ⟨_, _, rfl, by omega, s2, fun k h1 h2 h3 => ?_⟩
      rcases Nat.lt_or_ge k (i + 1) with w | w
      · exact hb k h1 (by omega) h3
      · rw [show k = i + 1 by omega]; omega
  rintro σ H1 ⟨y, z, rfl, _, s, hb⟩
  rw [List.length_map] at hb
  walk_at "st"
  refine k_lenL (s.seq hS) ?_
  walk_at "st"
  rw [List.length_map]
  walk_at "if" <;> intro c1
  · walk_at "st"
    refine q _ _ ?_ s
    rw [decide_eq_true_iff]
    exact ⟨fun z => ⟨by omega, z, fun k h1 h2 => hb k h1 (by omega) h2⟩, fun z => z.2.1⟩
  · walk_at "st"
    exact q false _ ⟨fun z => Bool.noConfusion z, fun z => by have := z.1; omega⟩ s

/-! ### the heap over places: the least power of two -/
/-- the doublings from 1 until many are reached -/
def hOf (many : Nat) : Nat := if many ≤ 1 then 0 else (many - 1).log2 + 1
theorem hOf_le (many : Nat) : many ≤ 2 ^ hOf many := by
  unfold hOf
  split
  · rw [Nat.pow_zero]; omega
  · have := Nat.lt_log2_self (n := many - 1)
    omega
theorem hOf_lt {many k : Nat} (h : k < hOf many) : 2 ^ k < many := by
  unfold hOf at h
  split at h
  · omega
  · have h1 : 2 ^ k ≤ 2 ^ (many - 1).log2 := Nat.pow_le_pow_right (by decide) (by omega)
    have h2 := Nat.log2_self_le (n := many - 1) (by omega)
    omega
theorem hOf_small {many : Nat} (h : many ≤ 4096) : hOf many ≤ 12 := by
  rcases Nat.lt_or_ge 12 (hOf many) with z | z
  · have := hOf_lt z; omega
  · exact z
/-- size_of(many) -/
def sp_size_of (_ : PySem.W.Frag) : Sp := fun vs H Q _ => ∃ many : Nat, vs = [.int (many : Int)] ∧ many ≤ 100000 ∧ Q (.int ((2 ^ hOf many : Nat) : Int)) H
theorem len_size_of (K : PySem.W.Frag) : ∀ vs H Q E, sp_size_of K vs H Q E → vs.length = 1 := by
  rintro vs H Q E ⟨x, rfl, _⟩; rfl
def t_size_of (K : PySem.W.Frag) : TS :=
  (tSeq (tAsg (tC (.int 1)) (gName 1))
  (tSeq (tWhile (tTest (tOp rLt (tVar 1) (tVar 0)))
  (tAug 1 (tC (.int 2)) rTimes))
  (tRet (tVar 1))))
abbrev n_size_of : List Str := ["many", "size"]

theorem rd_size_of (K : PySem.W.Frag) (vs : List V) (H : Hp) (Q : VK) (E : XK) (h : sp_size_of K vs H Q E) : t_size_of K { nx := fun _ H' => Q .non H', rt := Q } (start n_size_of vs) H := by
  obtain ⟨many, rfl, hm, q⟩ := h
  unfold t_size_of
  walk_at "st"
  refine loop_while (fun m σ H' => ∃ k : Nat, m = hOf many - k ∧ k ≤ hOf many ∧ σ = [some (.int (many : Int)), some (.int ((2 ^ k : Nat) : Int))] ∧ H' = H) (hOf many) ⟨0, rfl, Nat.zero_le _, rfl, rfl⟩ ?_
  rintro m σ H' ⟨k, rfl, hk, rfl, rfl⟩
  walk_at "st"
  walk_at "if" <;> intro c
  · have c2 : 2 ^ k < many := by exact_mod_cast c
    have hk2 : k < hOf many := by
      rcases Nat.lt_or_ge k (hOf many) with z | z
      · exact z
      · have : k = hOf many := by omega
        subst this
        have := hOf_le many
        omega
    walk_at "st"
    refine ⟨hOf many - (k + 1), by omega, k + 1, rfl, hk2, ?_, rfl⟩
    rw [show ((2 ^ (k + 1) : Nat) : Int) = ((2 ^ k : Nat) : Int) * 2 by rw [Nat.pow_succ]; push_cast; rfl]; rfl
  · have c2 : ¬ 2 ^ k < many := by exact_mod_cast c
    have : k = hOf many := by
      rcases Nat.lt_or_ge k (hOf many) with z | z
      · exact absurd (hOf_lt z) c2
      · omega
    subst this
    walk_at "st"
    exact q

/-! ### what the nodes bear -/
def NV : Option Int → V
  | none => .non
  | some i => .int i
def minO : Option Int → Option Int → Option Int
  | none, b => b
  | a, none => a
  | some a, some b => some (if b < a then b else a)
def bearF (ns : List Int) (S : Nat) : Nat → Nat → Option Int
  | 0, n => if S ≤ n then ns[n - S]? else none
  | f + 1, n => if S ≤ n then ns[n - S]? else if n = 0 then none else minO (bearF ns S f (2 * n)) (bearF ns S f (2 * n + 1))
/-- what the node n bears, of 2 ^ h places -/
def bear (ns : List Int) (h n : Nat) : Option Int := bearF ns (2 ^ h) h n
theorem bearF_more {ns : List Int} {S : Nat} : ∀ {f n : Nat}, 1 ≤ n → S ≤ n * 2 ^ f → bearF ns S (f + 1) n = bearF ns S f n
  | 0, n, h1, h2 => by
    have h2 : S ≤ n := by simpa using h2
    show (if S ≤ n then _ else _) = (if S ≤ n then _ else _)
    rw [if_pos h2, if_pos h2]
  | f + 1, n, h1, h2 => by
    show (if S ≤ n then _ else _) = (if S ≤ n then _ else _)
    have e : n * 2 ^ (f + 1) = 2 * n * 2 ^ f := by rw [Nat.pow_succ, ← Nat.mul_assoc, Nat.mul_comm, ← Nat.mul_assoc]
    rw [e] at h2
    have h3 : S ≤ (2 * n + 1) * 2 ^ f := Nat.le_trans h2 (Nat.mul_le_mul_right _ (by omega))
    rw [bearF_more (f := f) (n := 2 * n) (by omega) h2, bearF_more (f := f) (n := 2 * n + 1) (by omega) h3]
theorem bear_leaf {ns : List Int} {h n : Nat} (l : 2 ^ h ≤ n) : bear ns h n = ns[n - 2 ^ h]? := by
  unfold bear
  cases h with
  | zero => exact if_pos l
  | succ h => exact if_pos l
theorem bear_zero (ns : List Int) (h : Nat) : bear ns h 0 = none := by
  unfold bear
  have := Nat.two_pow_pos h
  cases h with
  | zero => exact if_neg (by omega)
  | succ h => exact (if_neg (by omega)).trans (if_pos rfl)
theorem bear_node {ns : List Int} {h n : Nat} (h1 : 1 ≤ n) (h2 : n < 2 ^ h) : bear ns h n = minO (bear ns h (2 * n)) (bear ns h (2 * n + 1)) := by
  unfold bear
  cases h with
  | zero => simp at h2; omega
  | succ h =>
    have hx : 2 ^ (h + 1) ≤ 2 * n * 2 ^ h := by
      rw [Nat.pow_succ, Nat.mul_comm, Nat.mul_assoc]
      exact Nat.mul_le_mul_left 2 (Nat.le_mul_of_pos_left _ h1)
    have hy : 2 ^ (h + 1) ≤ (2 * n + 1) * 2 ^ h := Nat.le_trans hx (Nat.mul_le_mul_right _ (by omega))
    rw [bearF_more (f := h) (n := 2 * n) (by omega) hx, bearF_more (f := h) (n := 2 * n + 1) (by omega) hy]
    exact (if_neg (by omega)).trans (if_neg (by omega))
/-- the list of nodes, those from k on reckoned -/
def nodesFrom (ns : List Int) (h k : Nat) : List V := (List.range (2 * 2 ^ h)).map fun n => if k ≤ n then NV (bear ns h n) else .non
theorem nodesFrom_len (ns : List Int) (h k : Nat) : (nodesFrom ns h k).length = 2 * 2 ^ h := by unfold nodesFrom; simp
theorem nodesFrom_get {ns : List Int} {h k n : Nat} (hn : n < 2 * 2 ^ h) : (nodesFrom ns h k)[n]? = some (if k ≤ n then NV (bear ns h n) else .non) := by unfold nodesFrom; simp [hn]
theorem nodesFrom_start {ns : List Int} {h : Nat} (l : ns.length ≤ 2 ^ h) : List.replicate (2 ^ h) V.non ++ ns.map V.int ++ List.replicate (2 ^ h - ns.length) V.non = nodesFrom ns h (2 ^ h) := by
  apply List.ext_getElem?
  intro i
  rcases Nat.lt_or_ge i (2 * 2 ^ h) with hi | hi
  · rw [nodesFrom_get hi]
    rcases Nat.lt_or_ge i (2 ^ h) with z | z
    · rw [if_neg (by omega), List.append_assoc, List.getElem?_append_left (by rw [List.length_replicate]; exact z), List.getElem?_replicate, if_pos z]
    · rw [if_pos z, List.append_assoc, List.getElem?_append_right (by rw [List.length_replicate]; exact z), List.length_replicate, bear_leaf z]
      rcases Nat.lt_or_ge (i - 2 ^ h) ns.length with w | w
      · rw [List.getElem?_append_left (by rw [List.length_map]; exact w), List.getElem?_map, List.getElem?_eq_getElem w]; rfl
      · rw [List.getElem?_append_right (by rw [List.length_map]; exact w), List.getElem?_replicate, if_pos (by rw [List.length_map]; omega), List.getElem?_eq_none w]; rfl
  · rw [List.getElem?_eq_none (by simp; omega), List.getElem?_eq_none (by rw [nodesFrom_len]; exact hi)]
theorem nodesFrom_step {ns : List Int} {h k : Nat} (h1 : 1 ≤ k) (h2 : k < 2 ^ h) : (nodesFrom ns h (k + 1)).set k (NV (minO (bear ns h (2 * k)) (bear ns h (2 * k + 1)))) = nodesFrom ns h k := by
  apply List.ext_getElem?
  intro i
  rw [List.getElem?_set, nodesFrom_len]
  rcases Nat.lt_or_ge i (2 * 2 ^ h) with hi | hi
  · rw [nodesFrom_get hi, nodesFrom_get hi]
    by_cases e : k = i
    · subst e
      rw [if_pos rfl, if_pos (by omega), if_pos (Nat.le_refl _), bear_node h1 h2]
    · rw [if_neg e]
      by_cases g : k ≤ i
      · rw [if_pos g, if_pos (by omega)]
      · rw [if_neg g, if_neg (by omega)]
  · rw [List.getElem?_eq_none (by rw [nodesFrom_len]; exact hi), List.getElem?_eq_none (by rw [nodesFrom_len]; exact hi), if_neg (by omega)]
theorem nodesFrom_one (ns : List Int) (h : Nat) : nodesFrom ns h 1 = (List.range (2 * 2 ^ h)).map fun n => NV (bear ns h n) := by
  unfold nodesFrom
  apply List.map_congr_left
  intro n _
  split
  · rfl
  · rw [show n = 0 by omega, bear_zero]; rfl
/-- the heap of a row -/
def heapL (ns : List Int) : List V := (List.range (2 * 2 ^ hOf ns.length)).map fun n => NV (bear ns (hOf ns.length) n)
theorem heapL_len (ns : List Int) : (heapL ns).length = 2 * 2 ^ hOf ns.length := by unfold heapL; simp
theorem heapL_get {ns : List Int} {n : Nat} (hn : n < 2 * 2 ^ hOf ns.length) : (heapL ns)[n]? = some (NV (bear ns (hOf ns.length) n)) := by unfold heapL; simp [hn]

/-- lesser_of(one, other) -/
def sp_lesser_of (_ : PySem.W.Frag) : Sp := fun vs H Q _ => ∃ a b : Option Int, vs = [NV a, NV b] ∧ Q (NV (minO a b)) H
theorem len_lesser_of (K : PySem.W.Frag) : ∀ vs H Q E, sp_lesser_of K vs H Q E → vs.length = 2 := by
  rintro vs H Q E ⟨a, b, rfl, _⟩; rfl
def t_lesser_of (K : PySem.W.Frag) : TS :=
  (tSeq (tIfS (tTest (tOp rIsN (tVar 0) (tC .non)))
  (tRet (tVar 1))
  tNext)
  (tSeq (tIfS (tTest (tOp rIsN (tVar 1) (tC .non)))
  (tRet (tVar 0))
  tNext)
  (tRet (tCB rMin2 (tCons (tVar 0) (tCons (tVar 1) tNil))))))
abbrev n_lesser_of : List Str := ["one", "other"]

theorem rd_lesser_of (K : PySem.W.Frag) (vs : List V) (H : Hp) (Q : VK) (E : XK) (h : sp_lesser_of K vs H Q E) : t_lesser_of K { nx := fun _ H' => Q .non H', rt := Q } (start n_lesser_of vs) H := by
  obtain ⟨a, b, rfl, q⟩ := h
  unfold t_lesser_of
  cases a with
  | none =>
    rw [show NV none = V.non from rfl]
    walk_at "st"
    refine k_decT rfl ?_
    walk_at "st"
    exact q
  | some a =>
    rw [show NV (some a) = V.int a from rfl]
    walk_at "st"
    refine k_decF (fun z => nomatch z) ?_
    cases b with
    | none =>
      rw [show NV none = V.non from rfl]
      walk_at "st"
      refine k_decT rfl ?_
      walk_at "st"
      exact q
    | some b =>
      rw [show NV (some b) = V.int b from rfl]
      walk_at "st"
      refine k_decF (fun z => nomatch z) ?_
      walk_at "st"
      exact q

/-- heap_of(numbers) -/
def sp_heap_of (K : PySem.W.Frag) : Sp := fun vs H Q E => ∃ (a : Addr) (ns : List Int), vs = [.ref a] ∧ SqL K H a (ns.map V.int) ∧ ns.length ≤ 10000 ∧
  (4096 < ns.length → E (.ref (He.ga K "TooMany")) none H) ∧
  (ns.length ≤ 4096 → ∀ p H', H p = none → Same H H' → H' p = some (.lst (heapL ns)) → Q (.ref p) H')
theorem len_heap_of (K : PySem.W.Frag) : ∀ vs H Q E, sp_heap_of K vs H Q E → vs.length = 1 := by
  rintro vs H Q E ⟨a, ns, rfl, _⟩; rfl
def t_heap_of (K : PySem.W.Frag) (E : XK) : TS :=
  (tSeq (tIfS (tTest (tOp rGtI (tCB (rLen K) (tCons (tVar 0) tNil)) (tC (.int 4096))))
  (tRz (fun cls d _ H => E cls d H) (He.ga K "TooMany"))
  tNext)
  (tSeq (tAsg (tCall (sp_size_of K) [] E0 (tCons (tCB (rLen K) (tCons (tVar 0) tNil)) tNil)) (gName 1))
  (tSeq (tAsg (tOp rCat (tOp rCat (tOp rRep (tLst (tCons (tC .non) tNil)) (tVar 1)) (tCB (rListOf K) (tCons (tVar 0) tNil))) (tOp rRep (tLst (tCons (tC .non) tNil)) (tOp rMinus (tVar 1) (tCB (rLen K) (tCons (tVar 0) tNil))))) (gName 2))
  (tSeq (tFor (iRng3 (tCons (tOp rMinus (tVar 1) (tC (.int 1))) (tCons (tC (.int 0)) (tCons (tUn rNeg (tC (.int 1))) tNil)))) (gName 3)
  (tAsg (tCall (sp_lesser_of K) [] E0 (tCons (tOp (rIxL K) (tVar 2) (tOp rTimes (tC (.int 2)) (tVar 3))) (tCons (tOp (rIxL K) (tVar 2) (tOp rPlus (tOp rTimes (tC (.int 2)) (tVar 3)) (tC (.int 1)))) tNil))) (gSub (tVar 2) (tVar 3) rSetL)))
  (tRet (tVar 2))))))
abbrev n_heap_of : List Str := ["numbers", "size", "nodes", "node"]

theorem rd_heap_of (K : PySem.W.Frag) (vs : List V) (H : Hp) (Q : VK) (E : XK) (h : sp_heap_of K vs H Q E) : t_heap_of K E { nx := fun _ H' => Q .non H', rt := Q } (start n_heap_of vs) H := by
  obtain ⟨a, ns, rfl, hS, hl, q1, q2⟩ := h
  unfold t_heap_of
  walk_at "st"
  refine k_lenL hS ?_
  walk_at "st"
  rw [List.length_map]
  walk_at "if" <;> intro c
  · walk_at "st"
    exact q1 (by omega)
  walk_at "st"
  refine k_lenL hS ?_
  walk_at "st"
  rw [List.length_map]
  refine ⟨ns.length, rfl, by omega, ?_⟩
  have hle := hOf_le ns.length
  have hh := hOf_small (many := ns.length) (by omega)
  have hp12 := Nat.pow_le_pow_right (show 0 < 2 by decide) hh
  have hS0 := Nat.two_pow_pos (hOf ns.length)
  have q2 := q2 (by omega)
  unfold heapL at q2
  generalize hOf ns.length = h at q2 hle hh hp12 hS0 ⊢
  walk_at "st"
  intro p1 hp1
  walk_at "st"
  refine k_rep (xs := [.non]) upd_same (by simp only [List.length_cons, List.length_nil]; omega) (by omega) fun p2 hp2 => ?_
  rw [rep_one]
  have s2 := (same_new (o := .lst [.non]) hp1).trans (same_new (o := .lst (List.replicate (2 ^ h) V.non)) hp2)
  walk_at "st"
  refine k_listL (s2.seq hS) fun p3 hp3 => ?_
  refine k_cat ((same_new hp3).get upd_same) upd_same (by rw [List.length_replicate, List.length_map]; omega) fun p4 hp4 => ?_
  have s4 := s2.trans ((same_new (o := .lst (ns.map V.int)) hp3).trans (same_new (o := .lst (List.replicate (2 ^ h) V.non ++ ns.map V.int)) hp4))
  have e4 := upd_same (H := upd (upd (upd H p1 (.lst [.non])) p2 (.lst (List.replicate (2 ^ h) V.non))) p3 (.lst (ns.map V.int))) (a := p4) (o := .lst (List.replicate (2 ^ h) V.non ++ ns.map V.int))
  generalize upd (upd (upd (upd H p1 (.lst [.non])) p2 (.lst (List.replicate (2 ^ h) V.non))) p3 (.lst (ns.map V.int))) p4 (.lst (List.replicate (2 ^ h) V.non ++ ns.map V.int)) = H4 at s4 e4 ⊢
  walk_at "st"
  intro p5 hp5
  walk_at "st"
  refine k_lenL ((s4.trans (same_new hp5)).seq hS) ?_
  walk_at "st"
  rw [List.length_map, show ((2 ^ h : Nat) : Int) - (ns.length : Int) = ((2 ^ h - ns.length : Nat) : Int) by omega]
  refine k_rep (xs := [.non]) upd_same (by simp only [List.length_cons, List.length_nil]; omega) (by omega) fun p6 hp6 => ?_
  rw [rep_one]
  refine k_cat ((same_new hp6).get ((same_new hp5).get e4)) upd_same (by rw [List.length_append, List.length_replicate, List.length_map, List.length_replicate]; omega) fun p7 hp7 => ?_
  rw [nodesFrom_start hle]
  have hp7' : H p7 = none := (s4.trans ((same_new hp5).trans (same_new hp6))).gone _ hp7
  have s7 := s4.trans ((same_new (o := .lst [.non]) hp5).trans ((same_new (o := .lst (List.replicate (2 ^ h - ns.length) V.non)) hp6).trans (same_new (o := .lst (nodesFrom ns h (2 ^ h))) hp7)))
  have e7 := upd_same (H := upd (upd H4 p5 (.lst [.non])) p6 (.lst (List.replicate (2 ^ h - ns.length) V.non))) (a := p7) (o := .lst (nodesFrom ns h (2 ^ h)))
  generalize upd (upd (upd H4 p5 (.lst [.non])) p6 (.lst (List.replicate (2 ^ h - ns.length) V.non))) p7 (.lst (nodesFrom ns h (2 ^ h))) = H7 at s7 e7 ⊢
  walk_at "st"
  refine m_rng3e (RgC.neg (by omega) (by omega) (by decide) (by decide)) ?_
  rw [show (((2 ^ h : Nat) : Int) - 1 - 0).toNat = 2 ^ h - 1 by omega]
  refine loop_walk walk_rangeC (fun i σ H' => ∃ z, σ = [some (.ref a), some (.int ((2 ^ h : Nat) : Int)), some (.ref p7), z] ∧ i ≤ 2 ^ h - 1 ∧ Same H H' ∧ H' p7 = some (.lst (nodesFrom ns h (2 ^ h - i)))) ⟨none, rfl, Nat.zero_le _, s7, e7⟩ (fun _ _ _ _ => trivial) ?_ ?_
  · rintro i x σ H' H'' hi ⟨z, rfl, hi2, s, e⟩ ⟨rfl, ex⟩
    obtain ⟨k, hk1, hk2, hk3⟩ : ∃ k : Nat, 1 ≤ k ∧ k < 2 ^ h ∧ k = 2 ^ h - 1 - i := ⟨2 ^ h - 1 - i, by omega, by omega, rfl⟩
    obtain rfl : x = .int (k : Int) := by rw [ex]; show V.int _ = V.int _; congr 1; omega
    rw [show 2 ^ h - i = k + 1 by omega] at e
    walk_at "st"
    refine k_ixL (.of e) (at_int (x := NV (bear ns h (2 * k))) (by omega) (by rw [show ((2 : Int) * (k : Int)).toNat = 2 * k by omega, nodesFrom_get (by omega), if_pos (by omega)])) ?_
    walk_at "st"
    refine k_ixL (.of e) (at_int (x := NV (bear ns h (2 * k + 1))) (by omega) (by rw [show ((2 : Int) * (k : Int) + 1).toNat = 2 * k + 1 by omega, nodesFrom_get (by omega), if_pos (by omega)])) ?_
    walk_at "st"
    refine ⟨_, _, rfl, ?_⟩
    walk_at "st"
    refine m_setL e (ixN_nat (by omega) (by rw [nodesFrom_len]; omega)) ?_
    refine ⟨_, rfl, by omega, Same.mut s hp7', ?_⟩
    rw [upd_same, Int.toNat_natCast, nodesFrom_step hk1 hk2, show 2 ^ h - (i + 1) = k by omega]
  · rintro σ H' ⟨z, rfl, _, s, e⟩
    walk_at "st"
    rw [show 2 ^ h - (2 ^ h - 1) = 1 by omega, nodesFrom_one] at e
    exact q2 p7 H' hp7' s e

/-- low_in(b, u) -/
def sp_low_in (_ : PySem.W.Frag) : Sp := fun vs H Q _ => ∃ (b : Int) (u : Nat), vs = [.int b, .int (u : Int)] ∧ u ≤ 1000 ∧ Q (.int (lowIn b u)) H
theorem len_low_in (K : PySem.W.Frag) : ∀ vs H Q E, sp_low_in K vs H Q E → vs.length = 2 := by
  rintro vs H Q E ⟨x, y, rfl, _⟩; rfl
def t_low_in (K : PySem.W.Frag) : TS :=
  (tSeq (tAsg (tC (.int 0)) (gName 2))
  (tSeq (tAsg (tC (.int 1)) (gName 3))
  (tSeq (tFor (iRng1 (tCons (tVar 1) tNil)) (gName 4)
  (tSeq (tAug 2 (tOp rMinus (tOp rTimes (tC (.int 2)) (tOp rAnd1 (tOp rShr (tVar 0) (tVar 4)) (tC (.int 1)))) (tC (.int 1))) (ipI fun i j => i + j))
  (tAsg (tCB rMin2 (tCons (tVar 3) (tCons (tVar 2) tNil))) (gName 3))))
  (tRet (tVar 3)))))
abbrev n_low_in : List Str := ["block", "upto", "net", "least", "k"]

theorem rd_low_in (K : PySem.W.Frag) (vs : List V) (H : Hp) (Q : VK) (E : XK) (h : sp_low_in K vs H Q E) : t_low_in K { nx := fun _ H' => Q .non H', rt := Q } (start n_low_in vs) H := by
  obtain ⟨b, u, rfl, hu, q⟩ := h
  unfold t_low_in
  walk_at "st"
  refine loop_range0 (fun i σ H' => ∃ y, σ = [some (.int b), some (.int (u : Int)), some (.int (net b i)), some (.int (lowIn b i)), y] ∧ H' = H) ⟨none, rfl, rfl⟩ ?_ ?_
  · rintro i σ H' hi ⟨y, rfl, rfl⟩
    walk_at "st"
    refine ⟨some (.int (i : Int)), ?_, rfl⟩
    have e : net b i + (2 * (b / 2 ^ i % 2) - 1) = net b (i + 1) := (net_succ b i).symm
    rw [show b / 2 ^ (i : Int).toNat % 2 = b / 2 ^ i % 2 from rfl, e]; rfl
  · rintro σ H' ⟨y, rfl, rfl⟩
    walk_at "st"
    exact q

/-- the lowest heights of the blocks -/
def lowOf (bs : List Int) (j : Nat) : Int := hgt bs (32 * j) + lowIn ((blks bs).getD j 0) (min 32 (bs.length - 32 * j))
def lowsOf (bs : List Int) : List Int := (List.range ((bs.length + 31) / 32)).map (lowOf bs)
theorem lowsOf_len (bs : List Int) : (lowsOf bs).length = (bs.length + 31) / 32 := by unfold lowsOf; simp
theorem lowsOf_get (bs : List Int) {j : Nat} (h : j < (bs.length + 31) / 32) : (lowsOf bs)[j]? = some (lowOf bs j) := by unfold lowsOf; simp [h]
theorem lowOf_is {bs : List Int} (h : Bits bs) {j : Nat} (hj : j < (bs.length + 31) / 32) : (∃ k, 32 * j < k ∧ k ≤ 32 * j + 32 ∧ k ≤ bs.length ∧ lowOf bs j = hgt bs k) ∧ ∀ k, 32 * j < k → k ≤ 32 * j + 32 → k ≤ bs.length → lowOf bs j ≤ hgt bs k := by
  have e : (blks bs)[j]? = some ((blks bs).getD j 0) := by
    rw [List.getD_eq_getElem?_getD, List.getElem?_eq_getElem (by rw [blks_len]; exact hj)]; rfl
  have hu : 1 ≤ min 32 (bs.length - 32 * j) := by omega
  refine ⟨?_, fun k k1 k2 k3 => ?_⟩
  · obtain ⟨k, h1, h2, h3⟩ := lowIn_mem ((blks bs).getD j 0) _ hu
    rw [net_blks h e k (by omega)] at h3
    exact ⟨32 * j + k, by omega, by omega, by omega, by unfold lowOf; omega⟩
  · have := lowIn_le ((blks bs).getD j 0) (min 32 (bs.length - 32 * j)) (k - 32 * j) (by omega) (by omega)
    rw [net_blks h e (k - 32 * j) (by omega), show 32 * j + (k - 32 * j) = k by omega] at this
    unfold lowOf; omega

/-- begin_height(ahead, number) -/
def sp_begin_height (K : PySem.W.Frag) : Sp := fun vs H Q _ => ∃ (pa : Addr) (bs : List Int) (j : Nat), vs = [.ref pa, .int (j : Int)] ∧ SqT K H pa ((aheadT bs).map V.int) ∧ j ≤ (bs.length + 31) / 32 ∧ Q (.int (hgt bs (32 * j))) H
theorem len_begin_height (K : PySem.W.Frag) : ∀ vs H Q E, sp_begin_height K vs H Q E → vs.length = 2 := by
  rintro vs H Q E ⟨x, y, z, rfl, _⟩; rfl
def t_begin_height (K : PySem.W.Frag) : TS :=
  (tRet (tOp rMinus (tOp rTimes (tC (.int 2)) (tOp (rIxT K) (tVar 0) (tVar 1))) (tOp rTimes (tC (.int 32)) (tVar 1))))
abbrev n_begin_height : List Str := ["ahead", "number"]

theorem rd_begin_height (K : PySem.W.Frag) (vs : List V) (H : Hp) (Q : VK) (E : XK) (h : sp_begin_height K vs H Q E) : t_begin_height K { nx := fun _ H' => Q .non H', rt := Q } (start n_begin_height vs) H := by
  obtain ⟨pa, bs, j, rfl, hS, hj, q⟩ := h
  unfold t_begin_height
  walk_at "st"
  refine k_ixT hS (at_nat (mapint (aheadT_get bs hj))) ?_
  walk_at "st"
  rw [show (2 : Int) * sumTo bs (32 * j) - 32 * (j : Int) = hgt bs (32 * j) by unfold hgt; push_cast; rfl]
  exact q
/-- kept_brackets(bits) -/
def sp_kept_brackets (K : PySem.W.Frag) : Sp := fun vs H Q E => ∃ (a : Addr) (bs : List Int), vs = [.ref a] ∧ SqL K H a (bs.map V.int) ∧ bs.length ≤ 100000 ∧
  (bs.length > 4096 → E (.ref (He.ga K "TooMany")) none H) ∧
  (bs.length ≤ 4096 → ¬ Bits bs → ∀ H', Same H H' → E (.ref (He.ga K "NoBit")) none H') ∧
  (bs.length ≤ 4096 → Bits bs → ¬ IsTree bs → ∀ H', Same H H' → E (.ref (He.ga K "NoTree")) none H') ∧
  (bs.length ≤ 4096 → Bits bs → IsTree bs → ∀ p t pa ph pb H', H p = none → H pb = none → Same H H' → H' p = some (.tup [.ref t, .ref pb]) → H' t = some (.tup [.int (bs.length : Int), .ref pa, .ref ph]) → H' pa = some (.tup ((aheadT bs).map V.int)) → H' ph = some (.tup (heapL (lowsOf bs))) → H' pb = some (.lst ((blks bs).map V.int)) → Q (.ref p) H')
theorem len_kept_brackets (K : PySem.W.Frag) : ∀ vs H Q E, sp_kept_brackets K vs H Q E → vs.length = 1 := by
  rintro vs H Q E ⟨a, bs, rfl, _⟩; rfl
def t_kept_brackets (K : PySem.W.Frag) (E : XK) : TS :=
  (tSeq (tAsg (tCall (sp_kept_row K) [] E (tCons (tVar 0) tNil)) (gTup K 2 (gCons (gName 1) (gCons (gName 2) gNil))))
  (tSeq (tIfS (tNot (tB (tCall (sp_is_tree K) [] E0 (tCons (tVar 0) tNil))))
  (tRz (fun cls d _ H => E cls d H) (He.ga K "NoTree"))
  tNext)
  (tSeq (tAsg (tVar 1) (gTup K 2 (gCons (gName 3) (gCons (gName 4) gNil))))
  (tSeq (tAsg (tLst tNil) (gName 5))
  (tSeq (tFor (iEnum K (tCons (tVar 2) tNil)) (gTup K 2 (gCons (gName 6) (gCons (gName 7) gNil)))
  (tDrop (tBM K "list" rAppend (tVar 5) (tCons (tOp rPlus (tCall (sp_begin_height K) [] E0 (tCons (tVar 4) (tCons (tVar 6) tNil))) (tCall (sp_low_in K) [] E0 (tCons (tVar 7) (tCons (tCB rMin2 (tCons (tC (.int 32)) (tCons (tOp rMinus (tVar 3) (tOp rTimes (tC (.int 32)) (tVar 6))) tNil))) tNil)))) tNil))))
  (tRet (tTup (tCons (tTup (tCons (tVar 3) (tCons (tVar 4) (tCons (tCB (rTupOf K) (tCons (tCall (sp_heap_of K) [] E (tCons (tVar 5) tNil)) tNil)) tNil)))) (tCons (tVar 2) tNil)))))))))
abbrev n_kept_brackets : List Str := ["bits", "tables", "blocks", "many", "ahead", "lows", "number", "block"]

theorem rd_kept_brackets (K : PySem.W.Frag) (vs : List V) (H : Hp) (Q : VK) (E : XK) (h : sp_kept_brackets K vs H Q E) : t_kept_brackets K E { nx := fun _ H' => Q .non H', rt := Q } (start n_kept_brackets vs) H := by
  obtain ⟨a, bs, rfl, hS, hl, q1, q2, q3, q4⟩ := h
  unfold t_kept_brackets
  walk_at "st"
  refine ⟨a, bs, rfl, hS, hl, q1, q2, fun hm hB p t pa pb H1 hp ht hpa hpb s1 ep et ea eb => ?_⟩
  walk_at "st"
  refine m_gTup (.of ep) rfl ?_
  walk_at "st"
  refine ⟨a, bs, rfl, s1.seq hS, by omega, fun b H2 hb s2 => ?_⟩
  have s12 := s1.trans s2
  cases b with
  | false =>
    walk_at "st"
    exact q3 hm hB (fun z => Bool.noConfusion (hb.mpr z)) _ s12
  | true =>
  have hI := hb.mp rfl
  walk_at "st"
  refine m_gTup (.of (s2.get et)) rfl ?_
  walk_at "st"
  intro pl hpl
  have s3 := same_new (o := .lst []) hpl
  have e3 := upd_same (H := H2) (a := pl) (o := .lst [])
  generalize upd H2 pl (.lst []) = H3 at s3 e3 ⊢
  have s23 := s2.trans s3
  have s03 := s1.trans s23
  have hplH : H pl = none := s12.gone _ hpl
  have hpl1 : H1 pl = none := s2.gone _ hpl
  walk_at "st"
  refine m_enumE (.of (s23.get eb)) ?_
  have hbl := blks_len bs
  refine loop_walk walk_enum (fun i σ H' => ∃ y z, σ = [some (.ref a), some (.ref t), some (.ref pb), some (.int (bs.length : Int)), some (.ref pa), some (.ref pl), y, z] ∧ i ≤ (bs.length + 31) / 32 ∧ Same H1 H' ∧ H' pl = some (.lst (((List.range i).map (lowOf bs)).map V.int))) ⟨none, none, rfl, Nat.zero_le _, s23, e3⟩ (fun i σ H' ⟨y, z, _, _, s, _⟩ => .of (s.get eb)) ?_ ?_
  · rintro i v σ H4 H5 hi ⟨y, z, rfl, _, s, e⟩ ⟨T, x, w, rfl, hT, rfl, ex, ew⟩
    rw [List.length_map, hbl] at hi
    obtain ⟨b, hbi, rfl⟩ := of_mapint ew
    obtain rfl : x = .int (i : Nat) := (Option.some.inj ex).symm
    have sT := same_new (o := .tup [.int (i : Nat), .int b]) hT
    refine m_gTup (.of upd_same) rfl ?_
    generalize upd H4 T (.tup [.int (i : Nat), .int b]) = H6 at sT ⊢
    have s6 := s.trans sT
    walk_at "st"
    refine k_tyL (.of (sT.get e)) ?_
    walk_at "st"
    refine ⟨pa, bs, i, rfl, .of (s6.get ea), by omega, ?_⟩
    walk_at "st"
    have hu : (if (bs.length : Int) - 32 * (i : Int) < 32 then (bs.length : Int) - 32 * (i : Int) else 32) = ((min 32 (bs.length - 32 * i) : Nat) : Int) := by
      split <;> omega
    rw [hu]
    refine ⟨b, min 32 (bs.length - 32 * i), rfl, by omega, ?_⟩
    walk_at "st"
    refine k_app (sT.get e) (by rw [List.length_map, List.length_map, List.length_range]; omega) ?_
    walk_at "st"
    refine ⟨some (.int (i : Nat)), some (.int b), rfl, by omega, Same.mut s6 hpl1 ⟨_, sT.get e⟩, ?_⟩
    have elo : hgt bs (32 * i) + lowIn b (min 32 (bs.length - 32 * i)) = lowOf bs i := by
      unfold lowOf
      rw [List.getD_eq_getElem?_getD, hbi]; rfl
    rw [upd_same, elo, List.range_succ, List.map_append, List.map_append]; rfl
  rintro σ H4 ⟨y, z, rfl, _, s, e⟩
  rw [List.length_map, hbl] at e
  have e : H4 pl = some (.lst ((lowsOf bs).map V.int)) := e
  have hll := lowsOf_len bs
  walk_at "st"
  refine ⟨pl, lowsOf bs, rfl, .of e, by omega, fun z => by omega, fun _ ph0 H5 hph0 s5 e5 => ?_⟩
  walk_at "st"
  refine k_tupL (.of e5) fun ph hph => ?_
  have s6 := same_new (o := .tup (heapL (lowsOf bs))) hph
  have e6 := upd_same (H := H5) (a := ph) (o := .tup (heapL (lowsOf bs)))
  generalize upd H5 ph (.tup (heapL (lowsOf bs))) = H6 at s6 e6 ⊢
  walk_at "st"
  intro t2 ht2
  have s7 := same_new (o := .tup [.int (bs.length : Int), .ref pa, .ref ph]) ht2
  have e7 := upd_same (H := H6) (a := t2) (o := .tup [.int (bs.length : Int), .ref pa, .ref ph])
  generalize upd H6 t2 (.tup [.int (bs.length : Int), .ref pa, .ref ph]) = H7 at s7 e7 ⊢
  walk_at "st"
  intro p2 hp2
  have s8 := same_new (o := .tup [.ref t2, .ref pb]) hp2
  have s18 := s.trans ((s5.trans s6).trans s7)
  exact q4 hm hB hI p2 t2 pa ph pb _ ((s1.trans s18).gone _ hp2) hpb ((s1.trans s18).trans s8) upd_same (s8.get e7) (s8.get (s18.get ea)) (s8.get (s7.get e6)) (s8.get (s18.get eb))

/-- each depth behind the first is one of its place; a is the depth ahead -/
def DeepT (a : Int) : List Int → Prop
  | [] => True
  | d :: ds => 1 ≤ d ∧ d ≤ a + 1 ∧ DeepT d ds
/-- the depths of a tree -/
def Deep : List Int → Prop
  | [] => False
  | d :: ds => d = 0 ∧ DeepT 0 ds
/-- the last of a and what follows -/
def lastD (a : Int) : List Int → Int
  | [] => a
  | d :: ds => lastD d ds
theorem lastD_snoc (a : Int) : ∀ (ds : List Int) (x : Int), lastD a (ds ++ [x]) = x
  | [], _ => rfl
  | d :: ds, x => lastD_snoc d ds x
theorem deepT_snoc : ∀ {a : Int} {ds : List Int} {x : Int}, DeepT a ds → 1 ≤ x → x ≤ lastD a ds + 1 → DeepT a (ds ++ [x])
  | _, [], _, _, h1, h2 => ⟨h1, h2, trivial⟩
  | _, _ :: _, _, ⟨a1, a2, a3⟩, h1, h2 => ⟨a1, a2, deepT_snoc a3 h1 h2⟩
theorem lastD_nonneg : ∀ {a : Int} {ds : List Int}, 0 ≤ a → DeepT a ds → 0 ≤ lastD a ds
  | _, [], h, _ => h
  | _, d :: ds, _, ⟨a1, _, a3⟩ => (lastD_nonneg (a := d) (ds := ds) (by omega) a3 : 0 ≤ lastD d ds)
theorem lastD_get : ∀ (a : Int) (ds : List Int), (a :: ds)[ds.length]? = some (lastD a ds)
  | _, [] => rfl
  | a, d :: ds => by
    rw [show (d :: ds).length = ds.length + 1 from rfl, List.getElem?_cons_succ]
    exact lastD_get d ds
theorem deepT_get : ∀ {ds : List Int} {a : Int}, DeepT a ds → ∀ {i : Nat} {x y : Int}, (a :: ds)[i]? = some x → ds[i]? = some y → 1 ≤ y ∧ y ≤ x + 1
  | [], _, _, _, _, _, _, h => by simp at h
  | d :: ds, a, ⟨a1, a2, a3⟩, 0, x, y, h1, h2 => by
    simp only [List.getElem?_cons_zero, Option.some.injEq] at h1 h2
    subst h1 h2; exact ⟨a1, a2⟩
  | d :: ds, a, ⟨a1, a2, a3⟩, i + 1, x, y, h1, h2 => by
    rw [List.getElem?_cons_succ] at h1 h2
    exact deepT_get a3 h1 h2
theorem Deep.cons {ds : List Int} (h : Deep ds) : ∃ r, ds = 0 :: r ∧ DeepT 0 r := by
  cases ds with
  | nil => exact h.elim
  | cons d r => obtain ⟨rfl, h⟩ := h; exact ⟨r, rfl, h⟩
/-- the brackets behind the one of a node of depth a -/
def brkT (a : Int) : List Int → List Int
  | [] => List.replicate (a + 1).toNat 0
  | d :: ds => List.replicate (a + 1 - d).toNat 0 ++ 1 :: brkT d ds
/-- the brackets of depths -/
def brk : List Int → List Int
  | [] => []
  | d :: ds => 1 :: brkT d ds
theorem brkT_len : ∀ {a : Int} {ds : List Int}, 0 ≤ a → DeepT a ds → ((brkT a ds).length : Int) = a + 1 + 2 * ds.length
  | a, [], h, _ => by simp only [brkT, List.length_replicate, List.length_nil]; omega
  | a, d :: ds, h, ⟨a1, a2, a3⟩ => by
    have := brkT_len (by omega) a3
    simp only [brkT, List.length_append, List.length_replicate, List.length_cons]; omega
theorem brk_len {ds : List Int} (h : Deep ds) : (brk ds).length = 2 * ds.length := by
  obtain ⟨r, rfl, h2⟩ := h.cons
  have := brkT_len (by decide) h2
  simp only [brk, List.length_cons]; omega
theorem at_lastD (r : List Int) : atI (((0 : Int) :: r).map V.int) (-1) = some (.int (lastD 0 r)) := by
  unfold atI ixN
  rw [List.length_map, List.length_cons, if_neg (by decide), if_pos (by omega)]
  show ((((0 : Int) :: r).map V.int))[_]? = _
  rw [show (-1 + ((r.length + 1 : Nat) : Int)).toNat = r.length by omega]
  exact mapint (lastD_get 0 r)
/-- 1 + k % n, k = 0, 1, .. -/
theorem deepT_saw {n : Int} (hn : 0 < n) : ∀ m : Nat, DeepT 0 ((List.range m).map fun k : Nat => 1 + (k : Int) % n) ∧ (0 < m → lastD 0 ((List.range m).map fun k : Nat => 1 + (k : Int) % n) = 1 + ((m : Int) - 1) % n)
  | 0 => ⟨trivial, fun h => by omega⟩
  | m + 1 => by
    obtain ⟨h1, h2⟩ := deepT_saw hn m
    rw [List.range_succ, List.map_append]
    refine ⟨deepT_snoc h1 (by have := Int.emod_nonneg (m : Int) (show n ≠ 0 by omega); show 1 ≤ 1 + (m : Int) % n; omega) ?_, fun _ => ?_⟩
    · show 1 + (m : Int) % n ≤ _
      rcases Nat.eq_zero_or_pos m with rfl | hm
      · simp [lastD]
      · rw [h2 hm]
        have e := Int.emod_add_mul_ediv ((m : Int) - 1) n
        have p := Int.emod_nonneg ((m : Int) - 1) (show n ≠ 0 by omega)
        have l := Int.emod_lt_of_pos ((m : Int) - 1) hn
        have e2 : (m : Int) = (((m : Int) - 1) % n + 1) + n * (((m : Int) - 1) / n) := by omega
        have e3 : (m : Int) % n = (((m : Int) - 1) % n + 1) % n := by
          have := Int.add_mul_emod_self_left ((((m : Int) - 1) % n + 1)) n (((m : Int) - 1) / n)
          rw [← e2] at this; exact this
        rw [e3]
        by_cases h : ((m : Int) - 1) % n + 1 < n
        · rw [Int.emod_eq_of_lt (by omega) h]; omega
        · rw [show ((m : Int) - 1) % n + 1 = n by omega, Int.emod_self]; omega
    · show lastD 0 (_ ++ [1 + (m : Int) % n]) = _
      rw [lastD_snoc]
      congr 2; omega

/-- what is laid ahead of the last closing brackets -/
def brkF (a : Int) : List Int → List Int
  | [] => []
  | d :: ds => List.replicate (a + 1 - d).toNat 0 ++ 1 :: brkF d ds
theorem brkF_all : ∀ (a : Int) (ds : List Int), brkT a ds = brkF a ds ++ List.replicate (lastD a ds + 1).toNat 0
  | a, [] => rfl
  | a, d :: ds => by
    show _ ++ 1 :: brkT d ds = (_ ++ 1 :: brkF d ds) ++ List.replicate (lastD d ds + 1).toNat 0
    rw [brkF_all d ds]; simp
theorem brkF_snoc : ∀ (a : Int) (ds : List Int) (x : Int), brkF a (ds ++ [x]) = brkF a ds ++ List.replicate (lastD a ds + 1 - x).toNat 0 ++ [1]
  | a, [], x => by simp [brkF, lastD]
  | a, d :: ds, x => by
    show _ ++ 1 :: brkF d (ds ++ [x]) = (_ ++ 1 :: brkF d ds) ++ List.replicate (lastD d ds + 1 - x).toNat 0 ++ [1]
    rw [brkF_snoc d ds x]; simp
theorem brkF_le : ∀ {a : Int} {ds : List Int}, 0 ≤ a → DeepT a ds → ((brkF a ds).length : Int) ≤ a + 2 * ds.length
  | _, [], h, _ => by simp only [brkF, List.length_nil]; omega
  | a, d :: ds, h, ⟨a1, a2, a3⟩ => by
    have := brkF_le (by omega) a3
    simp only [brkF, List.length_append, List.length_replicate, List.length_cons]; omega
theorem deepT_take : ∀ {a : Int} {ds : List Int} (n : Nat), DeepT a ds → DeepT a (ds.take n)
  | _, [], n, _ => by rw [List.take_nil]; trivial
  | _, _ :: _, 0, _ => trivial
  | _, _ :: _, n + 1, ⟨a1, a2, a3⟩ => ⟨a1, a2, deepT_take n a3⟩
theorem lastD_take {x : Int} (ds : List Int) : ∀ {a : Int} {i : Nat}, (a :: ds)[i]? = some x → lastD a (ds.take i) = x := by
  induction ds with
  | nil =>
    intro a i h
    cases i with
    | zero => simpa [lastD] using h
    | succ i => simp at h
  | cons d ds ih =>
    intro a i h
    cases i with
    | zero => simpa [lastD] using h
    | succ i =>
      rw [List.getElem?_cons_succ] at h
      exact ih h
theorem lastD_le : ∀ {a : Int} {ds : List Int}, DeepT a ds → lastD a ds ≤ a + ds.length
  | _, [], _ => by simp [lastD]
  | a, d :: ds, ⟨a1, a2, a3⟩ => by
    have := lastD_le a3
    simp only [lastD, List.length_cons]; omega
/-- brackets_of(depths) -/
def sp_brackets_of (K : PySem.W.Frag) : Sp := fun vs H Q E => ∃ (a : Addr) (ds : List Int), vs = [.ref a] ∧ SqL K H a (ds.map V.int) ∧ ds.length ≤ 100000 ∧
  (2048 < ds.length → E (.ref (He.ga K "TooMany")) none H) ∧
  (ds.length ≤ 2048 → ¬ Deep ds → ∀ H', Same H H' → E (.ref (He.ga K "NoTree")) none H') ∧
  (ds.length ≤ 2048 → Deep ds → ∀ p H', H p = none → Same H H' → H' p = some (.lst ((brk ds).map V.int)) → Q (.ref p) H')
theorem len_brackets_of (K : PySem.W.Frag) : ∀ vs H Q E, sp_brackets_of K vs H Q E → vs.length = 1 := by
  rintro vs H Q E ⟨a, ds, rfl, _⟩; rfl
def t_brackets_of (K : PySem.W.Frag) (E : XK) : TS :=
  (tSeq (tIfS (tTest (tOp rGtI (tOp rTimes (tC (.int 2)) (tCB (rLen K) (tCons (tVar 0) tNil))) (tC (.int 4096))))
  (tRz (fun cls d _ H => E cls d H) (He.ga K "TooMany"))
  tNext)
  (tSeq (tIfS (tOr (tTest (tOp rEq (tCB (rLen K) (tCons (tVar 0) tNil)) (tC (.int 0)))) (tTest (tOp rNe (tOp (rIxL K) (tVar 0) (tC (.int 0))) (tC (.int 0)))))
  (tRz (fun cls d _ H => E cls d H) (He.ga K "NoTree"))
  tNext)
  (tSeq (tAsg (tLst (tCons (tC (.int 1)) tNil)) (gName 1))
  (tSeq (tFor (iZip K (tCons (tVar 0) (tCons (tSl (rSlL K) (tVar 0) (tPart (tC (.int 1))) tNoPart) tNil))) (gTup K 2 (gCons (gName 2) (gCons (gName 3) gNil)))
  (tSeq (tIfS (tOr (tTest (tOp rLt (tVar 3) (tC (.int 1)))) (tTest (tOp rGtI (tVar 3) (tOp rPlus (tVar 2) (tC (.int 1))))))
  (tRz (fun cls d _ H => E cls d H) (He.ga K "NoTree"))
  tNext)
  (tSeq (tDrop (tBM K "list" rExtend (tVar 1) (tCons (tOp rRep (tLst (tCons (tC (.int 0)) tNil)) (tOp rMinus (tOp rPlus (tVar 2) (tC (.int 1))) (tVar 3))) tNil)))
  (tDrop (tBM K "list" rAppend (tVar 1) (tCons (tC (.int 1)) tNil))))))
  (tSeq (tDrop (tBM K "list" rExtend (tVar 1) (tCons (tOp rRep (tLst (tCons (tC (.int 0)) tNil)) (tOp rPlus (tOp (rIxL K) (tVar 0) (tUn rNeg (tC (.int 1)))) (tC (.int 1)))) tNil)))
  (tRet (tVar 1)))))))
abbrev n_brackets_of : List Str := ["depths", "bits", "ahead", "deep"]

theorem rd_brackets_of (K : PySem.W.Frag) (vs : List V) (H : Hp) (Q : VK) (E : XK) (h : sp_brackets_of K vs H Q E) : t_brackets_of K E { nx := fun _ H' => Q .non H', rt := Q } (start n_brackets_of vs) H := by
  obtain ⟨a, ds, rfl, hS, hl0, q1, q2, q⟩ := h
  unfold t_brackets_of
  walk_at "st"
  refine k_lenL hS ?_
  walk_at "st"
  rw [List.length_map]
  walk_at "if" <;> intro c0
  · walk_at "st"
    exact q1 (by omega)
  have hl : ds.length ≤ 2048 := by omega
  walk_at "st"
  refine k_lenL hS ?_
  walk_at "st"
  rw [List.length_map]
  walk_at "if" <;> intro c1
  · walk_at "st"
    refine q2 hl (fun z => ?_) H (Same.refl H)
    obtain ⟨r, rfl, _⟩ := z.cons
    rw [List.length_cons] at c1; omega
  obtain ⟨d0, r, rfl⟩ : ∃ d0 r, ds = d0 :: r := by
    cases ds with
    | nil => exact absurd rfl c1
    | cons x xs => exact ⟨x, xs, rfl⟩
  walk_at "st"
  refine k_ixL hS (x := .int d0) (at_int (by decide) rfl) ?_
  walk_at "st"
  walk_at "if" <;> intro c2
  · walk_at "st"
    refine q2 hl (fun z => c2 z.1) H (Same.refl H)
  subst c2
  have hrl : r.length ≤ 2047 := by rw [List.length_cons] at hl; omega
  walk_at "st"
  intro p hp
  have s0 := same_new (o := .lst [.int 1]) hp
  have e0 := upd_same (H := H) (a := p) (o := .lst [.int 1])
  generalize upd H p (.lst [.int 1]) = H1 at s0 e0 ⊢
  walk_at "st"
  refine k_slL (s0.seq hS) fun p2 hp2 => ?_
  have ec : cutV (((0 : Int) :: r).map V.int) (some 1) none = r.map V.int := by simpa using cutDrop (((0 : Int) :: r).map V.int) 1
  rw [ec]
  have s1 := same_new (o := .lst (r.map V.int)) hp2
  have e1 := upd_same (H := H1) (a := p2) (o := .lst (r.map V.int))
  have np : p2 ≠ p := Ne.symm (ne_of_none e0 hp2)
  generalize upd H1 p2 (.lst (r.map V.int)) = H2 at s1 e1 ⊢
  have s02 := s0.trans s1
  walk_at "st"
  refine m_zipE (s02.seq hS) (.of e1) ?_
  refine loop_walk (walk_zip (n := r.length) (by simp)) (fun i σ H' => ∃ x y, σ = [some (.ref a), some (.ref p), x, y] ∧ i ≤ r.length ∧ Same H H' ∧ H' p2 = some (.lst (r.map V.int)) ∧ H' p = some (.lst ((1 :: brkF 0 (r.take i)).map V.int)) ∧ DeepT 0 (r.take i)) ⟨none, none, rfl, Nat.zero_le _, s02, e1, ?_, ?_⟩ (fun i σ H' ⟨_, _, _, _, s, e, _⟩ => ⟨s.seq hS, .of e⟩) ?_ ?_
  · rw [List.take_zero]; exact s1.get e0
  · rw [List.take_zero]; trivial
  · rintro i v σ H3 H4 hi ⟨y, z, rfl, _, s, e2, e, hD⟩ ⟨T, x, w, rfl, hT, rfl, ex, ew⟩
    obtain ⟨dp, hdp, rfl⟩ := of_mapint ew
    obtain ⟨ah, hah, rfl⟩ := of_mapint ex
    have sT := same_new (o := .tup [.int ah, .int dp]) hT
    have eT := upd_same (H := H3) (a := T) (o := .tup [.int ah, .int dp])
    generalize upd H3 T (.tup [.int ah, .int dp]) = H5 at sT eT ⊢
    have sH5 := s.trans sT
    refine m_gTup (.of eT) rfl ?_
    have hla := lastD_take r hah
    have hub := lastD_le hD
    have hnn := lastD_nonneg (by decide) hD
    rw [hla] at hub hnn
    rw [List.length_take] at hub
    walk_at "st"
    have bad : ¬ (1 ≤ dp ∧ dp ≤ ah + 1) → ¬ Deep (0 :: r) := fun c z => c (deepT_get z.2 hah hdp)
    walk_at "if" <;> intro c3
    · walk_at "st"
      exact q2 hl (bad fun z => by omega) _ sH5
    walk_at "st"
    walk_at "if" <;> intro c4
    · walk_at "st"
      exact q2 hl (bad fun z => by omega) _ sH5
    walk_at "st"
    refine k_tyL (.of (sT.get e)) ?_
    walk_at "st"
    intro p3 hp3
    walk_at "st"
    rw [show ah + 1 - dp = (((ah + 1 - dp).toNat : Nat) : Int) by omega]
    refine k_rep (xs := [.int 0]) upd_same (by simp only [List.length_cons, List.length_nil]; omega) (by omega) fun p4 hp4 => ?_
    rw [rep_one]
    have s4 := (same_new (o := .lst [.int 0]) hp3).trans (same_new (o := .lst (List.replicate (ah + 1 - dp).toNat (V.int 0))) hp4)
    have e4 := upd_same (H := upd H5 p3 (.lst [.int 0])) (a := p4) (o := .lst (List.replicate (ah + 1 - dp).toNat (V.int 0)))
    generalize upd (upd H5 p3 (.lst [.int 0])) p4 (.lst (List.replicate (ah + 1 - dp).toNat (V.int 0))) = H6 at s4 e4 ⊢
    walk_at "st"
    have hfl := brkF_le (by decide) hD
    rw [List.length_take] at hfl
    have e6 := s4.get (sT.get e)
    refine k_extend e6 e4 (by rw [List.length_map, List.length_replicate, List.length_cons]; omega) ?_
    have s7 : Same H (upd H6 p (.lst ((1 :: brkF 0 (r.take i)).map V.int ++ List.replicate (ah + 1 - dp).toNat (V.int 0)))) := Same.mut (sH5.trans s4) hp ⟨_, e6⟩
    have e7 := upd_same (H := H6) (a := p) (o := .lst ((1 :: brkF 0 (r.take i)).map V.int ++ List.replicate (ah + 1 - dp).toNat (V.int 0)))
    have e72 : upd H6 p (.lst ((1 :: brkF 0 (r.take i)).map V.int ++ List.replicate (ah + 1 - dp).toNat (V.int 0))) p2 = some (.lst (r.map V.int)) := by rw [upd_ne np]; exact s4.get (sT.get e2)
    generalize upd H6 p (.lst ((1 :: brkF 0 (r.take i)).map V.int ++ List.replicate (ah + 1 - dp).toNat (V.int 0))) = H7 at s7 e7 e72 ⊢
    walk_at "st"
    refine k_tyL (.of e7) ?_
    walk_at "st"
    refine k_app e7 (by rw [List.length_append, List.length_map, List.length_replicate, List.length_cons]; omega) ?_
    refine ⟨_, _, rfl, by omega, Same.mut s7 hp ⟨_, e7⟩, by rw [upd_ne np]; exact e72, ?_, ?_⟩
    · rw [upd_same, List.take_add_one, hdp]
      show _ = some (HO.lst ((1 :: brkF 0 (r.take i ++ [dp])).map V.int))
      rw [brkF_snoc, hla]
      simp [List.map_replicate]
    · rw [List.take_add_one, hdp]
      exact deepT_snoc hD (by omega) (by rw [hla]; omega)
  rintro σ H3 ⟨y, z, rfl, _, s, e2, e, hD⟩
  rw [List.take_length] at e hD
  have hnn := lastD_nonneg (by decide) hD
  have hub := lastD_le hD
  have hfl := brkF_le (by decide) hD
  walk_at "st"
  refine k_tyL (.of e) ?_
  walk_at "st"
  intro p3 hp3
  walk_at "st"
  have s3 := same_new (o := .lst [.int 0]) hp3
  refine k_ixL ((s.trans s3).seq hS) (at_lastD r) ?_
  walk_at "st"
  rw [show lastD 0 r + 1 = (((lastD 0 r + 1).toNat : Nat) : Int) by omega]
  refine k_rep (xs := [.int 0]) upd_same (by simp only [List.length_cons, List.length_nil]; omega) (by omega) fun p4 hp4 => ?_
  rw [rep_one]
  have s4 := s3.trans (same_new (o := .lst (List.replicate (lastD 0 r + 1).toNat (V.int 0))) hp4)
  have e4 := upd_same (H := upd H3 p3 (.lst [.int 0])) (a := p4) (o := .lst (List.replicate (lastD 0 r + 1).toNat (V.int 0)))
  generalize upd (upd H3 p3 (.lst [.int 0])) p4 (.lst (List.replicate (lastD 0 r + 1).toNat (V.int 0))) = H6 at s4 e4 ⊢
  walk_at "st"
  refine k_extend (s4.get e) e4 (by rw [List.length_map, List.length_replicate, List.length_cons]; omega) ?_
  walk_at "st"
  refine q hl ⟨rfl, hD⟩ p _ hp (Same.mut (s.trans s4) hp ⟨_, s4.get e⟩) ?_
  rw [upd_same]
  show _ = some (HO.lst ((1 :: brkT 0 r).map V.int))
  rw [brkF_all]
  simp [List.map_replicate]

theorem up_brkF : ∀ {a : Int} {ds : List Int}, 0 ≤ a → DeepT a ds → Up (a + 1) (brkF a ds) (lastD a ds + 1)
  | _, [], _, _ => rfl
  | a, d :: ds, h, ⟨a1, a2, a3⟩ => by
    have h1 := up_noughts (a + 1 - d).toNat (h := a + 1) (by omega)
    rw [show a + 1 - ((a + 1 - d).toNat : Int) = d by omega] at h1
    exact h1.app ⟨.inr rfl, by omega, (show d + (2 * 1 - 1) = d + 1 by omega) ▸ up_brkF (by omega) a3⟩
theorem brk_tree {ds : List Int} (h : Deep ds) : IsTree (brk ds) ∧ Bits (brk ds) := by
  obtain ⟨r, rfl, h2⟩ := h.cons
  have u : Up 0 (1 :: brkF 0 r) (lastD 0 r + 1) := ⟨.inr rfl, by omega, up_brkF (Int.le_refl _) h2⟩
  have e : brk (0 :: r) = (1 :: brkF 0 r) ++ List.replicate (lastD 0 r + 1).toNat 0 := by
    show 1 :: brkT 0 r = _
    rw [brkF_all]; rfl
  have hn := lastD_nonneg (Int.le_refl _) h2
  rw [e]
  refine ⟨tree_of_up u (by omega), fun b hb => ?_⟩
  rcases List.mem_append.mp hb with z | z
  · exact u.bits b z
  · exact .inl (List.eq_of_mem_replicate z)

/-- kept_tree(depths) -/
def sp_kept_tree (K : PySem.W.Frag) : Sp := fun vs H Q E => ∃ (a : Addr) (ds : List Int), vs = [.ref a] ∧ SqL K H a (ds.map V.int) ∧ ds.length ≤ 100000 ∧
  (2048 < ds.length → E (.ref (He.ga K "TooMany")) none H) ∧
  (ds.length ≤ 2048 → ¬ Deep ds → ∀ H', Same H H' → E (.ref (He.ga K "NoTree")) none H') ∧
  (ds.length ≤ 2048 → Deep ds → ∀ p t pa ph pb H', H p = none → H pb = none → Same H H' → H' p = some (.tup [.ref t, .ref pb]) → H' t = some (.tup [.int ((brk ds).length : Int), .ref pa, .ref ph]) → H' pa = some (.tup ((aheadT (brk ds)).map V.int)) → H' ph = some (.tup (heapL (lowsOf (brk ds)))) → H' pb = some (.lst ((blks (brk ds)).map V.int)) → Q (.ref p) H')
theorem len_kept_tree (K : PySem.W.Frag) : ∀ vs H Q E, sp_kept_tree K vs H Q E → vs.length = 1 := by
  rintro vs H Q E ⟨a, ds, rfl, _⟩; rfl
def t_kept_tree (K : PySem.W.Frag) (E : XK) : TS :=
  (tRet (tCall (sp_kept_brackets K) [] E (tCons (tCall (sp_brackets_of K) [] E (tCons (tVar 0) tNil)) tNil)))
abbrev n_kept_tree : List Str := ["depths"]

theorem rd_kept_tree (K : PySem.W.Frag) (vs : List V) (H : Hp) (Q : VK) (E : XK) (h : sp_kept_tree K vs H Q E) : t_kept_tree K E { nx := fun _ H' => Q .non H', rt := Q } (start n_kept_tree vs) H := by
  obtain ⟨a, ds, rfl, hS, hl, q1, q2, q3⟩ := h
  unfold t_kept_tree
  walk_at "st"
  refine ⟨a, ds, rfl, hS, hl, q1, q2, fun hm hD p0 H1 hp0 s1 e1 => ?_⟩
  obtain ⟨hT, hB⟩ := brk_tree hD
  have hb := brk_len hD
  walk_at "st"
  refine ⟨p0, brk ds, rfl, .of e1, by omega, fun z => absurd z (by omega), fun _ z => absurd hB z, fun _ _ z => absurd hT z, fun _ _ _ p t pa ph pb H2 hp hpb s2 ep et ea eh eb => ?_⟩
  exact q3 hm hD p t pa ph pb H2 (s1.gone _ hp) (s1.gone _ hpb) (s1.trans s2) ep et ea eh eb

theorem big_of {n m : Int} (h0 : 0 ≤ n) (h : n < 4294967296) : 0 ≤ n ∧ n < 2 ^ 4000 := ⟨h0, Int.lt_of_lt_of_le h (by decide +kernel)⟩
theorem blks_big {bs : List Int} (h : Bits bs) : ∀ n ∈ blks bs, 0 ≤ n ∧ n < 2 ^ 4000 := fun n hn => by
  obtain ⟨j, hj⟩ := List.mem_iff_getElem?.mp hn
  obtain ⟨h1, h2⟩ := blks_range h hj
  exact big_of (m := 0) h1 h2
theorem ahead_big {bs : List Int} (h : Bits bs) (hl : bs.length ≤ 4096) : ∀ n ∈ aheadT bs, 0 ≤ n ∧ n < 2 ^ 4000 := fun n hn => by
  obtain ⟨j, hj⟩ := List.mem_iff_getElem?.mp hn
  have hlt := (List.getElem?_eq_some_iff.mp hj).1
  rw [aheadT_len] at hlt
  rw [aheadT_get bs (by omega)] at hj
  have e : sumTo bs (32 * j) = n := Option.some.inj hj
  obtain ⟨h1, h2⟩ := sumTo_range h (32 * j)
  exact big_of (m := 0) (by omega) (by omega)

/-! ### octets -/
/-- the octets of n, so many -/
def octs (n : Int) (m : Nat) : List Int := (List.range m).map fun i => n / 256 ^ i % 256
/-- the number that octets write -/
def num : List Int → Int
  | [] => 0
  | o :: os => o + 256 * num os
def Octs (ns : List Int) : Prop := ∀ n ∈ ns, 0 ≤ n ∧ n < 256
theorem octs_len (n : Int) (m : Nat) : (octs n m).length = m := by unfold octs; rw [List.length_map, List.length_range]
theorem octs_oct (n : Int) (m : Nat) : Octs (octs n m) := by
  intro x hx
  obtain ⟨i, _, rfl⟩ := List.mem_map.mp hx
  omega
theorem octs_cons (n : Int) (m : Nat) : octs n (m + 1) = n % 256 :: octs (n / 256) m := by
  unfold octs
  rw [List.range_succ_eq_map, List.map_cons, List.map_map]
  congr 1
  · simp
  · apply List.map_congr_left
    intro i _
    show n / 256 ^ (i + 1) % 256 = n / 256 / 256 ^ i % 256
    rw [Int.ediv_ediv_of_nonneg (by decide), Int.pow_succ, Int.mul_comm]
theorem pow256 (m : Nat) : (256 : Int) ^ m = 2 ^ (8 * m) := by rw [Int.pow_mul]; rfl
theorem num_octs : ∀ (m : Nat) (n : Int), 0 ≤ n → n < 256 ^ m → num (octs n m) = n
  | 0, n, h0, h1 => by
    have : n = 0 := by simp at h1; omega
    subst this; rfl
  | m + 1, n, h0, h1 => by
    rw [octs_cons]
    show n % 256 + 256 * num (octs (n / 256) m) = n
    have e : (256 : Int) ^ (m + 1) = 256 ^ m * 256 := Int.pow_succ ..
    rw [num_octs m (n / 256) (by omega) (by rw [e] at h1; exact Int.ediv_lt_of_lt_mul (by decide) h1)]
    omega
theorem num_range : ∀ ns : List Int, Octs ns → 0 ≤ num ns ∧ num ns < 256 ^ ns.length
  | [], _ => ⟨Int.le_refl _, by show (0 : Int) < 256 ^ 0; decide⟩
  | o :: os, h => by
    obtain ⟨h1, h2⟩ := num_range os fun x hx => h x (List.mem_cons_of_mem _ hx)
    obtain ⟨h3, h4⟩ := h o List.mem_cons_self
    have e : (256 : Int) ^ (os.length + 1) = 256 ^ os.length * 256 := Int.pow_succ ..
    show 0 ≤ o + 256 * num os ∧ o + 256 * num os < 256 ^ (os.length + 1)
    omega
theorem num_snoc : ∀ (ns : List Int) (o : Int), num (ns ++ [o]) = num ns + o * 256 ^ ns.length
  | [], o => by show o + 256 * 0 = 0 + o * 256 ^ 0; simp
  | n :: ns, o => by
    show n + 256 * num (ns ++ [o]) = n + 256 * num ns + o * 256 ^ (ns.length + 1)
    rw [num_snoc ns o, Int.pow_succ, Int.mul_add, ← Int.mul_assoc 256 o, Int.mul_comm 256 o, Int.mul_assoc o, Int.mul_comm 256 (256 ^ ns.length), Int.add_assoc]
theorem octs_snoc (n : Int) (m : Nat) : octs n (m + 1) = octs n m ++ [n / 256 ^ m % 256] := by
  unfold octs; rw [List.range_succ, List.map_append]; rfl
theorem natAbs_lt_of {n : Int} {k : Nat} (h0 : 0 ≤ n) (h : n < 2 ^ k) : n.natAbs < 2 ^ k := by
  have e : ((n.natAbs : Nat) : Int) = n := Int.natAbs_of_nonneg h0
  have : ((n.natAbs : Nat) : Int) < ((2 ^ k : Nat) : Int) := by rw [e]; push_cast; exact h
  exact_mod_cast this

/-- octets_of(n, m): a new list -/
def sp_octets_of (_ : PySem.W.Frag) : Sp := fun vs H Q _ => ∃ (n : Int) (m : Nat), vs = [.int n, .int (m : Int)] ∧ m ≤ 1000 ∧ 0 ≤ n ∧ n < 2 ^ 4000 ∧
  ∀ p H', H p = none → Same H H' → H' p = some (.lst ((octs n m).map V.int)) → Q (.ref p) H'
theorem len_octets_of (K : PySem.W.Frag) : ∀ vs H Q E, sp_octets_of K vs H Q E → vs.length = 2 := by
  rintro vs H Q E ⟨x, y, rfl, _⟩; rfl
theorem divp256 {n : Int} (h0 : 0 ≤ n) (h : n < 2 ^ 4000) : CDivP n 256 := by
  refine divp_ok (by decide) ?_
  have e : Builtin.Int.intBits 256 = 9 := by decide
  rw [e]
  have := intBits_le (natAbs_lt_of h0 h)
  omega
def t_octets_of (K : PySem.W.Frag) : TS :=
  (tSeq (tAsg (tLst tNil) (gName 2))
  (tSeq (tWhile (tTest (tOp rLt (tCB (rLen K) (tCons (tVar 2) tNil)) (tVar 1)))
  (tSeq (tAsg (tCB rDivmod (tCons (tVar 0) (tCons (tC (.int 256)) tNil))) (gTup K 2 (gCons (gName 0) (gCons (gName 3) gNil))))
  (tDrop (tBM K "list" rAppend (tVar 2) (tCons (tVar 3) tNil)))))
  (tRet (tVar 2))))
abbrev n_octets_of : List Str := ["number", "many", "octets", "octet"]

theorem rd_octets_of (K : PySem.W.Frag) (vs : List V) (H : Hp) (Q : VK) (E : XK) (h : sp_octets_of K vs H Q E) : t_octets_of K { nx := fun _ H' => Q .non H', rt := Q } (start n_octets_of vs) H := by
  obtain ⟨n, m, rfl, hm, h0, h1, q⟩ := h
  unfold t_octets_of
  walk_at "st"
  intro p hp
  walk_at "st"
  refine loop_while (fun k σ H' => ∃ (i : Nat) (x : Option V), i + k = m ∧ σ = [some (.int (n / 256 ^ i)), some (.int (m : Int)), some (.ref p), x] ∧ Same H H' ∧ H' p = some (.lst ((octs n i).map V.int))) m ⟨0, none, by omega, ?_, same_new hp, ?_⟩ ?_
  · rw [show n / 256 ^ 0 = n by simp]; rfl
  · rw [upd_same]; rfl
  · rintro k σ H' ⟨i, x, ek, rfl, s, e⟩
    walk_at "st"
    refine k_lenL (.of e) ?_
    walk_at "st"
    rw [List.length_map, octs_len]
    walk_at "if" <;> intro c
    · have hi : i < m := by omega
      walk_at "st"
      have g0 : 0 ≤ n / 256 ^ i := Int.ediv_nonneg h0 (Int.pow_nonneg (by decide))
      have g1 : n / 256 ^ i < 2 ^ 4000 := Int.lt_of_le_of_lt (Int.ediv_le_self _ h0) h1
      refine k_divmod (divp256 g0 g1) fun t ht => ?_
      walk_at "st"
      refine m_gTup (.of upd_same) rfl ?_
      walk_at "st"
      have npt : p ≠ t := ne_of_none e ht
      have ep : (upd H' t (.tup [.int (n / 256 ^ i / 256), .int (n / 256 ^ i % 256)])) p = some (.lst ((octs n i).map V.int)) := by rw [upd_ne npt]; exact e
      refine k_tyL (.of ep) ?_
      walk_at "st"
      refine k_app ep ?_ ?_
      · rw [List.length_map, octs_len]; omega
      · walk_at "st"
        refine ⟨k - 1, by omega, i + 1, some (.int (n / 256 ^ i % 256)), by omega, ?_, Same.mut (s.trans (same_new ht)) hp, ?_⟩
        · rw [show n / 256 ^ (i + 1) = n / 256 ^ i / 256 by rw [Int.pow_succ, Int.ediv_ediv_of_nonneg (Int.pow_nonneg (by decide))]]; rfl
        · rw [upd_same, octs_snoc, List.map_append]; rfl
    · have hi : i = m := by omega
      subst hi
      walk_at "st"
      exact q p H' hp s e

/-- numbers as octets, so many each -/
def fldO (ns : List Int) (w : Nat) : List Int := (ns.map fun n => octs n w).flatten
theorem fldO_snoc (ns : List Int) (n : Int) (w : Nat) : fldO (ns ++ [n]) w = fldO ns w ++ octs n w := by
  unfold fldO; rw [List.map_append, List.flatten_append]; simp
theorem fldO_len (ns : List Int) (w : Nat) : (fldO ns w).length = ns.length * w := by
  induction ns with
  | nil => simp [fldO]
  | cons n ns ih =>
    show (octs n w ++ fldO ns w).length = (ns.length + 1) * w
    rw [List.length_append, ih, octs_len, Nat.succ_mul]; omega
/-- fields_of(numbers, wide) -/
def sp_fields_of (K : PySem.W.Frag) : Sp := fun vs H Q _ => ∃ (a : Addr) (ns : List Int) (w : Nat), vs = [.ref a, .int (w : Int)] ∧ (SqL K H a (ns.map V.int) ∨ SqT K H a (ns.map V.int)) ∧ w ≤ 30 ∧ ns.length ≤ 5000 ∧ (∀ n ∈ ns, 0 ≤ n ∧ n < 2 ^ 4000) ∧ ∀ p H', H p = none → Same H H' → H' p = some (.lst ((fldO ns w).map V.int)) → Q (.ref p) H'
theorem len_fields_of (K : PySem.W.Frag) : ∀ vs H Q E, sp_fields_of K vs H Q E → vs.length = 2 := by
  rintro vs H Q E ⟨x, y, z, rfl, _⟩; rfl
def t_fields_of (K : PySem.W.Frag) : TS :=
  (tSeq (tAsg (tLst tNil) (gName 2))
  (tSeq (tFor (iSeq K (tVar 0)) (gName 3)
  (tDrop (tBM K "list" rExtend (tVar 2) (tCons (tCall (sp_octets_of K) [] E0 (tCons (tVar 3) (tCons (tVar 1) tNil))) tNil))))
  (tRet (tVar 2))))
abbrev n_fields_of : List Str := ["numbers", "wide", "octets", "number"]

theorem rd_fields_of (K : PySem.W.Frag) (vs : List V) (H : Hp) (Q : VK) (E : XK) (h : sp_fields_of K vs H Q E) : t_fields_of K { nx := fun _ H' => Q .non H', rt := Q } (start n_fields_of vs) H := by
  obtain ⟨a, ns, w, rfl, hS, hw, hl, hr, q⟩ := h
  unfold t_fields_of
  walk_at "st"
  intro p hp
  have s0 := same_new (o := .lst []) hp
  have e0 := upd_same (H := H) (a := p) (o := .lst [])
  generalize upd H p (.lst []) = H1 at s0 e0 ⊢
  have step : ∀ (i : Nat) (x : V) (σ' : L2.St) (H2 : Hp), (ns.map V.int)[i]? = some x → (∃ y, Same H H2 ∧ H2 p = some (.lst ((fldO (ns.take i) w).map V.int)) ∧ σ' = [some (.ref a), some (.int (w : Int)), some (.ref p), y]) → ∃ n, x = V.int n ∧ ns[i]? = some n ∧ i < ns.length ∧ 0 ≤ n ∧ n < 2 ^ 4000 := fun i x σ' H2 hx _ => by
    obtain ⟨n, hn, rfl⟩ := of_mapint hx
    exact ⟨n, rfl, hn, (List.getElem?_eq_some_iff.mp hn).1, hr n (List.mem_of_getElem? hn)⟩
  walk_at "st"
  rcases hS with hS | hS
  · refine m_seqL ?_
    walk_at "st"
    refine m_iLe (s0.seq hS) ?_
    refine loop_list (xs := ns.map V.int) (fun i σ' H2 => ∃ y, Same H H2 ∧ H2 p = some (.lst ((fldO (ns.take i) w).map V.int)) ∧ σ' = [some (.ref a), some (.int (w : Int)), some (.ref p), y]) ⟨none, s0, e0, rfl⟩ (fun i σ' H2 _ ⟨_, s, _⟩ => s.seq hS) (fun i x σ' H2 hx hP => ?_) (fun σ' H2 ⟨_, s, e, es⟩ => ?_)
    · obtain ⟨n, rfl, hn, hi, n0, n1⟩ := step i x σ' H2 hx hP
      obtain ⟨y, s, e, rfl⟩ := hP
      walk_at "st"
      refine k_tyL (.of e) ?_
      walk_at "st"
      refine ⟨n, w, rfl, by omega, n0, n1, fun p3 H3 hp3 s3 e3 => ?_⟩
      walk_at "st"
      refine k_extend (s3.get e) e3 (by rw [List.length_map, List.length_map, fldO_len, octs_len, List.length_take]; have := Nat.mul_le_mul (show min i ns.length ≤ 5000 by omega) hw; omega) ?_
      walk_at "st"
      exact ⟨_, Same.mut (s.trans s3) hp ⟨_, s3.get e⟩, by rw [upd_same, List.take_add_one, hn]; show _ = some (HO.lst ((fldO (ns.take i ++ [n]) w).map V.int)); rw [fldO_snoc, List.map_append], rfl⟩
    · subst es
      walk_at "st"
      rw [List.length_map, List.take_length] at e
      exact q p H2 hp s e
  · refine m_seqT ?_
    walk_at "st"
    refine m_iTe (s0.seqT hS) ?_
    refine loop_tup (xs := ns.map V.int) (fun i σ' H2 => ∃ y, Same H H2 ∧ H2 p = some (.lst ((fldO (ns.take i) w).map V.int)) ∧ σ' = [some (.ref a), some (.int (w : Int)), some (.ref p), y]) ⟨none, s0, e0, rfl⟩ (fun i σ' H2 _ ⟨_, s, _⟩ => s.seqT hS) (fun i x σ' H2 hx hP => ?_) (fun σ' H2 ⟨_, s, e, es⟩ => ?_)
    · obtain ⟨n, rfl, hn, hi, n0, n1⟩ := step i x σ' H2 hx hP
      obtain ⟨y, s, e, rfl⟩ := hP
      walk_at "st"
      refine k_tyL (.of e) ?_
      walk_at "st"
      refine ⟨n, w, rfl, by omega, n0, n1, fun p3 H3 hp3 s3 e3 => ?_⟩
      walk_at "st"
      refine k_extend (s3.get e) e3 (by rw [List.length_map, List.length_map, fldO_len, octs_len, List.length_take]; have := Nat.mul_le_mul (show min i ns.length ≤ 5000 by omega) hw; omega) ?_
      walk_at "st"
      exact ⟨_, Same.mut (s.trans s3) hp ⟨_, s3.get e⟩, by rw [upd_same, List.take_add_one, hn]; show _ = some (HO.lst ((fldO (ns.take i ++ [n]) w).map V.int)); rw [fldO_snoc, List.map_append], rfl⟩
    · subst es
      walk_at "st"
      rw [List.length_map, List.take_length] at e
      exact q p H2 hp s e

/-- row_laid(tables, blocks), of a row -/
def sp_row_laid (K : PySem.W.Frag) : Sp := fun vs H Q _ => ∃ (t pa pb ph : Addr) (bs : List Int), vs = [.ref t, .ref pb] ∧ H t = some (.tup [.int (bs.length : Int), .ref pa, .ref ph]) ∧ H pa = some (.tup ((aheadT bs).map V.int)) ∧ H pb = some (.lst ((blks bs).map V.int)) ∧ Bits bs ∧ bs.length ≤ 4096 ∧ ∀ p H', H p = none → Same H H' → H' p = some (.lst ((fldO [(bs.length : Int)] 2 ++ fldO (blks bs) 4 ++ fldO (aheadT bs) 2).map V.int)) → Q (.ref p) H'
theorem len_row_laid (K : PySem.W.Frag) : ∀ vs H Q E, sp_row_laid K vs H Q E → vs.length = 2 := by
  rintro vs H Q E ⟨x, y, z, _, _, rfl, _⟩; rfl
def t_row_laid (K : PySem.W.Frag) : TS :=
  (tRet (tOp rCat (tOp rCat (tCall (sp_fields_of K) [] E0 (tCons (tSl (rSlT K) (tVar 0) tNoPart (tPart (tC (.int 1)))) (tCons (tC (.int 2)) tNil))) (tCall (sp_fields_of K) [] E0 (tCons (tVar 1) (tCons (tC (.int 4)) tNil)))) (tCall (sp_fields_of K) [] E0 (tCons (tOp (rIxT K) (tVar 0) (tC (.int 1))) (tCons (tC (.int 2)) tNil)))))
abbrev n_row_laid : List Str := ["tables", "blocks"]

theorem rd_row_laid (K : PySem.W.Frag) (vs : List V) (H : Hp) (Q : VK) (E : XK) (h : sp_row_laid K vs H Q E) : t_row_laid K { nx := fun _ H' => Q .non H', rt := Q } (start n_row_laid vs) H := by
  obtain ⟨t, pa, pb, ph, bs, rfl, ht, ha, hb, hB, hl, q⟩ := h
  unfold t_row_laid
  walk_at "st"
  refine ⟨t, _, rfl, .of ht, (show ¬ (HT.sIx 3 0 none = 0 ∧ HT.sIx 3 3 (some 1) = 3) by decide), fun t2 ht2 => ?_⟩
  rw [show cutV [V.int (bs.length : Int), V.ref pa, V.ref ph] none (some 1) = [V.int (bs.length : Int)] from rfl]
  have s1 := same_new (o := .tup [.int (bs.length : Int)]) ht2
  have e1 := upd_same (H := H) (a := t2) (o := .tup [.int (bs.length : Int)])
  generalize upd H t2 (.tup [.int (bs.length : Int)]) = H1 at s1 e1 ⊢
  walk_at "st"
  refine ⟨t2, [(bs.length : Int)], 2, rfl, .inr (.of e1), by decide, by simp, fun n hn => by rw [List.mem_singleton.mp hn]; exact big_of (m := 0) (by omega) (by omega), fun p2 H2 hp2 s2 e2 => ?_⟩
  walk_at "st"
  refine ⟨pb, blks bs, 4, rfl, .inl (.of ((s1.trans s2).get hb)), by decide, by rw [blks_len]; omega, blks_big hB, fun p3 H3 hp3 s3 e3 => ?_⟩
  have hl1 := fldO_len [(bs.length : Int)] 2
  have hl2 := fldO_len (blks bs) 4
  have hl3 := fldO_len (aheadT bs) 2
  rw [blks_len] at hl2
  rw [aheadT_len] at hl3
  rw [List.length_singleton] at hl1
  refine k_cat (s3.get e2) e3 (by rw [List.length_map, List.length_map]; omega) fun p4 hp4 => ?_
  have s4 := same_new (o := .lst ((fldO [(bs.length : Int)] 2).map V.int ++ (fldO (blks bs) 4).map V.int)) hp4
  have e4 := upd_same (H := H3) (a := p4) (o := .lst ((fldO [(bs.length : Int)] 2).map V.int ++ (fldO (blks bs) 4).map V.int))
  generalize upd H3 p4 (.lst ((fldO [(bs.length : Int)] 2).map V.int ++ (fldO (blks bs) 4).map V.int)) = H4 at s4 e4 ⊢
  have s14 := ((s1.trans s2).trans s3).trans s4
  walk_at "st"
  refine k_ixT (.of (s14.get ht)) (at_int (by decide) rfl) ?_
  walk_at "st"
  refine ⟨pa, aheadT bs, 2, rfl, .inr (.of (s14.get ha)), by decide, by rw [aheadT_len]; omega, ahead_big hB hl, fun p5 H5 hp5 s5 e5 => ?_⟩
  refine k_cat (s5.get e4) e5 (by rw [List.length_append, List.length_map, List.length_map, List.length_map]; omega) fun p6 hp6 => ?_
  exact q p6 _ ((s14.trans s5).gone _ hp6) ((s14.trans s5).trans (same_new hp6)) (by rw [upd_same, List.map_append, List.map_append])
theorem heapL_leaves (ns : List Int) : ((heapL ns).take (2 ^ hOf ns.length + ns.length)).drop (2 ^ hOf ns.length) = ns.map V.int := by
  have hle := hOf_le ns.length
  refine List.ext_getElem? fun i => ?_
  rw [List.getElem?_drop, List.getElem?_map]
  rcases Nat.lt_or_ge i ns.length with h | h
  · rw [List.getElem?_take_of_lt (by omega), heapL_get (by omega), bear_leaf (by omega), Nat.add_sub_cancel_left, List.getElem?_eq_getElem h]; rfl
  · rw [List.getElem?_eq_none (by rw [List.length_take]; omega), List.getElem?_eq_none h]; rfl
theorem lows_big {bs : List Int} (h : Bits bs) (hT : IsTree bs) (hl : bs.length ≤ 4096) : ∀ n ∈ lowsOf bs, 0 ≤ n ∧ n < 2 ^ 4000 := fun n hn => by
  obtain ⟨j, hj⟩ := List.mem_iff_getElem?.mp hn
  have hlt := (List.getElem?_eq_some_iff.mp hj).1
  rw [lowsOf_len] at hlt
  rw [lowsOf_get bs hlt] at hj
  have e : lowOf bs j = n := Option.some.inj hj
  obtain ⟨⟨k, k1, k2, k3, k4⟩, _⟩ := lowOf_is h hlt
  have hk : 0 ≤ hgt bs k := by
    rcases Nat.lt_or_ge k bs.length with z | z
    · exact Int.le_of_lt (hT.2.2 k (by omega) z)
    · rw [show k = bs.length by omega, hT.2.1]; exact Int.le_refl _
  have hk2 : hgt bs k ≤ k := by
    have := sumTo_range h k
    unfold hgt; omega
  exact big_of (m := 0) (by omega) (by omega)
/-- a tree's brackets as octets -/
def treeO (bs : List Int) : List Int := 2 :: (fldO [(bs.length : Int)] 2 ++ fldO (blks bs) 4 ++ fldO (aheadT bs) 2 ++ fldO (lowsOf bs) 2)
theorem treeO_len (bs : List Int) : (treeO bs).length ≤ 20 + bs.length * 4 := by
  have hl1 := fldO_len [(bs.length : Int)] 2
  have hl2 := fldO_len (blks bs) 4
  have hl3 := fldO_len (aheadT bs) 2
  have hl4 := fldO_len (lowsOf bs) 2
  rw [blks_len] at hl2
  rw [aheadT_len] at hl3
  rw [lowsOf_len] at hl4
  rw [List.length_singleton] at hl1
  unfold treeO
  rw [List.length_cons, List.length_append, List.length_append, List.length_append]; omega
/-- tree_laid(tables, blocks) -/
def sp_tree_laid (K : PySem.W.Frag) : Sp := fun vs H Q _ => ∃ (t pa pb ph : Addr) (bs : List Int), vs = [.ref t, .ref pb] ∧ H t = some (.tup [.int (bs.length : Int), .ref pa, .ref ph]) ∧ H pa = some (.tup ((aheadT bs).map V.int)) ∧ H ph = some (.tup (heapL (lowsOf bs))) ∧ H pb = some (.lst ((blks bs).map V.int)) ∧ Bits bs ∧ IsTree bs ∧ bs.length ≤ 4096 ∧ ∀ p H', H p = none → Same H H' → H' p = some (.lst ((treeO bs).map V.int)) → Q (.ref p) H'
theorem len_tree_laid (K : PySem.W.Frag) : ∀ vs H Q E, sp_tree_laid K vs H Q E → vs.length = 2 := by
  rintro vs H Q E ⟨x, y, z, _, _, rfl, _⟩; rfl
def t_tree_laid (K : PySem.W.Frag) : TS :=
  (tSeq (tAsg (tOp rDiv (tCB (rLen K) (tCons (tOp (rIxT K) (tVar 0) (tC (.int 2))) tNil)) (tC (.int 2))) (gName 2))
  (tRet (tOp rCat (tOp rCat (tLst (tCons (tC (.int 2)) tNil)) (tCall (sp_row_laid K) [] E0 (tCons (tVar 0) (tCons (tVar 1) tNil)))) (tCall (sp_fields_of K) [] E0 (tCons (tSl (rSlT K) (tOp (rIxT K) (tVar 0) (tC (.int 2))) (tPart (tVar 2)) (tPart (tOp rPlus (tVar 2) (tCB (rLen K) (tCons (tVar 1) tNil))))) (tCons (tC (.int 2)) tNil))))))
abbrev n_tree_laid : List Str := ["tables", "blocks", "size"]

theorem rd_tree_laid (K : PySem.W.Frag) (vs : List V) (H : Hp) (Q : VK) (E : XK) (h : sp_tree_laid K vs H Q E) : t_tree_laid K { nx := fun _ H' => Q .non H', rt := Q } (start n_tree_laid vs) H := by
  obtain ⟨t, pa, pb, ph, bs, rfl, ht, ha, hh, hb, hB, hT, hl, q⟩ := h
  unfold t_tree_laid
  walk_at "st"
  refine k_ixT (.of ht) (at_int (by decide) rfl) ?_
  walk_at "st"
  refine k_lenT (.of hh) ?_
  walk_at "st"
  have hle := hOf_le (lowsOf bs).length
  have hsm := hOf_small (many := (lowsOf bs).length) (by rw [lowsOf_len]; omega)
  have hS : 2 ^ hOf (lowsOf bs).length ≤ 4096 := Nat.le_trans (Nat.pow_le_pow_right (by decide) hsm) (by decide)
  have hS1 : 1 ≤ 2 ^ hOf (lowsOf bs).length := Nat.two_pow_pos _
  have lv := heapL_leaves (lowsOf bs)
  have hhl := heapL_len (lowsOf bs)
  rw [show ((heapL (lowsOf bs)).length : Int) / 2 = ((2 ^ hOf (lowsOf bs).length : Nat) : Int) by rw [hhl]; omega]
  generalize 2 ^ hOf (lowsOf bs).length = S at hle hS hS1 lv hhl ⊢
  intro p0 hp0
  obtain ⟨s0, e0⟩ := new_both (o := .lst [.int 2]) hp0
  generalize upd _ p0 (.lst [.int 2]) = H1 at s0 e0 ⊢
  have e0 : H1 p0 = some (.lst (([2] : List Int).map V.int)) := e0
  walk_at "st"
  refine ⟨t, pa, pb, ph, bs, rfl, s0.get ht, s0.get ha, s0.get hb, hB, hl, fun p2 H2 hp2 s2 e2 => ?_⟩
  have hl1 := fldO_len [(bs.length : Int)] 2
  have hl2 := fldO_len (blks bs) 4
  have hl3 := fldO_len (aheadT bs) 2
  have hl4 := fldO_len (lowsOf bs) 2
  have hbl := blks_len bs
  have hll := lowsOf_len bs
  rw [blks_len] at hl2
  rw [aheadT_len] at hl3
  rw [lowsOf_len] at hl4
  rw [List.length_singleton] at hl1
  refine k_catI (s2.get e0) e2 (by rw [List.length_append, List.length_append, List.length_singleton]; omega) fun p3 H3 hp3 s3 e3 => ?_
  have s03 := s0.trans (s2.trans s3)
  walk_at "st"
  refine k_ixT (.of (s03.get ht)) (at_int (by decide) rfl) ?_
  walk_at "st"
  refine k_lenL (.of (s03.get hb)) ?_
  walk_at "st"
  rw [List.length_map, hbl, ← hll, show (S : Int) + ((lowsOf bs).length : Int) = ((S + (lowsOf bs).length : Nat) : Int) by omega]
  refine ⟨ph, _, rfl, .of (s03.get hh), fun z => ?_, fun t2 ht2 => ?_⟩
  · have := z.1
    rw [HT.sIx_nat, hhl] at this
    omega
  rw [cutPart, lv]
  obtain ⟨s4, e4⟩ := new_both (o := .tup ((lowsOf bs).map V.int)) ht2
  generalize upd _ t2 (.tup ((lowsOf bs).map V.int)) = H4 at s4 e4 ⊢
  walk_at "st"
  refine ⟨t2, lowsOf bs, 2, rfl, .inr (.of e4), by decide, by omega, lows_big hB hT hl, fun p5 H5 hp5 s5 e5 => ?_⟩
  refine k_catI ((s4.trans s5).get e3) e5 (by rw [List.length_append, List.length_append, List.length_append, List.length_singleton]; omega) fun p6 H6 hp6 s6 e6 => ?_
  have s06 := s03.trans ((s4.trans s5).trans s6)
  exact q p6 H6 ((s03.trans (s4.trans s5)).gone _ hp6) s06 e6
/-- tree_octets(depths) -/
def sp_tree_octets (K : PySem.W.Frag) : Sp := fun vs H Q E => ∃ (a : Addr) (ds : List Int), vs = [.ref a] ∧ SqL K H a (ds.map V.int) ∧ ds.length ≤ 100000 ∧
  (2048 < ds.length → E (.ref (He.ga K "TooMany")) none H) ∧
  (ds.length ≤ 2048 → ¬ Deep ds → ∀ H', Same H H' → E (.ref (He.ga K "NoTree")) none H') ∧
  (ds.length ≤ 2048 → Deep ds → ∀ p H', H p = none → Same H H' → H' p = some (.lst ((treeO (brk ds)).map V.int)) → Q (.ref p) H')
theorem len_tree_octets (K : PySem.W.Frag) : ∀ vs H Q E, sp_tree_octets K vs H Q E → vs.length = 1 := by
  rintro vs H Q E ⟨x, y, rfl, _⟩; rfl
def t_tree_octets (K : PySem.W.Frag) (E : XK) : TS :=
  (tSeq (tAsg (tCall (sp_kept_tree K) [] E (tCons (tVar 0) tNil)) (gTup K 2 (gCons (gName 1) (gCons (gName 2) gNil))))
  (tRet (tCall (sp_tree_laid K) [] E0 (tCons (tVar 1) (tCons (tVar 2) tNil)))))
abbrev n_tree_octets : List Str := ["depths", "tables", "blocks"]

theorem rd_tree_octets (K : PySem.W.Frag) (vs : List V) (H : Hp) (Q : VK) (E : XK) (h : sp_tree_octets K vs H Q E) : t_tree_octets K E { nx := fun _ H' => Q .non H', rt := Q } (start n_tree_octets vs) H := by
  obtain ⟨a, ds, rfl, hS, hl, q1, q2, q3⟩ := h
  unfold t_tree_octets
  walk_at "st"
  refine ⟨a, ds, rfl, hS, hl, q1, q2, fun hm hD p t pa ph pb H1 hp hpb s1 ep et ea eh eb => ?_⟩
  obtain ⟨hT, hB⟩ := brk_tree hD
  have hb := brk_len hD
  walk_at "st"
  refine m_gTup (.of ep) rfl ?_
  walk_at "st"
  refine ⟨t, pa, pb, ph, brk ds, rfl, et, ea, eh, eb, hB, hT, by omega, fun p2 H2 hp2 s2 e2 => ?_⟩
  exact q3 hm hD p2 H2 (s1.gone _ hp2) (s1.trans s2) e2

theorem fm_some {α β : Type} (f : α → β) : ∀ l : List α, l.filterMap (fun x => some (f x)) = l.map f
  | [] => rfl
  | x :: l => by
    show f x :: l.filterMap (fun x => some (f x)) = f x :: l.map f
    rw [fm_some f l]
theorem cut_two {α : Type} {L : List α} {n : Nat} {x y : α} (h1 : L[n]? = some x) (h2 : L[n + 1]? = some y) : (L.take (n + 2)).drop n = [x, y] := by
  obtain ⟨l1, e1⟩ := List.getElem?_eq_some_iff.mp h1
  obtain ⟨l2, e2⟩ := List.getElem?_eq_some_iff.mp h2
  rw [List.drop_take, show n + 2 - n = 2 by omega, List.drop_eq_getElem_cons l1, List.drop_eq_getElem_cons l2, e1, e2]; rfl

/-- number_of(octets) -/
def sp_number_of (K : PySem.W.Frag) : Sp := fun vs H Q _ => ∃ (a : Addr) (ns : List Int), vs = [.ref a] ∧ SqL K H a (ns.map V.int) ∧ ns.length ≤ 100000 ∧ Octs ns ∧ Q (.int (num ns)) H
theorem len_number_of (K : PySem.W.Frag) : ∀ vs H Q E, sp_number_of K vs H Q E → vs.length = 1 := by
  rintro vs H Q E ⟨x, y, rfl, _⟩; rfl
def t_number_of (K : PySem.W.Frag) : TS :=
  (tSeq (tAsg (tC (.int 0)) (gName 1))
  (tSeq (tFor (iRev K (tCons (tVar 0) tNil)) (gName 2)
  (tAsg (tOp rBitOr (tOp rShlW (tVar 1) (tC (.int 8))) (tVar 2)) (gName 1)))
  (tRet (tVar 1))))
abbrev n_number_of : List Str := ["octets", "number", "octet"]

theorem rd_number_of (K : PySem.W.Frag) (vs : List V) (H : Hp) (Q : VK) (E : XK) (h : sp_number_of K vs H Q E) : t_number_of K { nx := fun _ H' => Q .non H', rt := Q } (start n_number_of vs) H := by
  obtain ⟨a, ns, rfl, hS, hl, ho, q⟩ := h
  unfold t_number_of
  walk_at "st"
  refine m_revE hS ?_
  refine loop_walk walk_rev (fun i σ H' => ∃ y, σ = [some (.ref a), some (.int (num (ns.drop (ns.length - i)))), y] ∧ H' = H) ⟨none, ?_, rfl⟩ (fun i σ H' ⟨_, _, e⟩ => e ▸ hS) ?_ ?_
  · rw [Nat.sub_zero, List.drop_length]; rfl
  · rintro i x σ H' H'' hi ⟨y, rfl, rfl⟩ ⟨rfl, hx⟩
    rw [List.length_map] at hi hx
    obtain ⟨n, hn, rfl⟩ := of_mapint hx
    have hlt : ns.length - 1 - i < ns.length := by omega
    have hdrop : ns.drop (ns.length - (i + 1)) = n :: ns.drop (ns.length - i) := by
      rw [show ns.length - (i + 1) = ns.length - 1 - i by omega, List.drop_eq_getElem_cons hlt, show ns.length - 1 - i + 1 = ns.length - i by omega]
      rw [List.getElem?_eq_getElem hlt] at hn
      rw [Option.some.inj hn]
    have hsub : Octs (ns.drop (ns.length - i)) := fun z hz => ho z (List.mem_of_mem_drop hz)
    obtain ⟨r0, r1⟩ := num_range _ hsub
    have hb : 0 ≤ n ∧ n < 256 := ho n (List.mem_of_getElem? hn)
    have hc : CShl (num (ns.drop (ns.length - i))) 8 := by
      refine shl_ok (j := 8) (n := 8 * (ns.drop (ns.length - i)).length) (natAbs_lt_of r0 ?_) ?_
      · rw [← pow256]; exact r1
      · rw [List.length_drop]; omega
    walk_at "st"
    refine ⟨some (.int n), ?_, rfl⟩
    rw [hdrop]
    have e : Builtin.bitOr (num (ns.drop (ns.length - i)) * 2 ^ (8 : Int).toNat) n = num (n :: ns.drop (ns.length - i)) := by
      rw [show (8 : Int).toNat = 8 from rfl, or_low r0 hb.1 (by omega)]
      show _ = n + 256 * num (ns.drop (ns.length - i))
      omega
    rw [← e]; rfl
  · rintro σ H' ⟨y, rfl, rfl⟩
    rw [List.length_map, Nat.sub_self, List.drop_zero]
    walk_at "st"
    exact q

/-- the numbers that octets write, so many octets each -/
def numsO (os : List Int) (w n : Nat) : List Int := (List.range n).map fun i => num ((os.drop (w * i)).take w)
theorem numsO_len (os : List Int) (w n : Nat) : (numsO os w n).length = n := by unfold numsO; rw [List.length_map, List.length_range]
theorem numsO_succ (os : List Int) (w n : Nat) : numsO os w (n + 1) = num (os.take w) :: numsO (os.drop w) w n := by
  unfold numsO
  rw [List.range_succ_eq_map, List.map_cons, List.map_map]
  congr 1
  refine List.map_congr_left fun i _ => ?_
  show num ((os.drop (w * (i + 1))).take w) = _
  rw [List.drop_drop, Nat.mul_succ, Nat.add_comm]
theorem rgC_w {w n : Nat} (hw : w = 2 ∨ w = 4 ∨ w = 26) (hn : n ≤ 10000) : RgC 0 ((w * n : Nat) : Int) w n := by
  have e : Builtin.Range.rangeSize 0 ((w * n : Nat) : Int) w = (n : Int) := by
    rw [PyProof.Rows.rangeSize_pos (by omega) (by omega)]
    rcases hw with rfl | rfl | rfl <;> omega
  have hp : ((w * n : Nat) : Int) < 1000000 := by rcases hw with rfl | rfl | rfl <;> omega
  refine ⟨by omega, by omega, ?_, e⟩
  unfold Builtin.Range.small
  rw [e]
  have f : ∀ i : Int, 0 ≤ i → i < 1000000 → Builtin.Range.rangeFitsLong i = true := fun i h0 h1 => by
    unfold Builtin.Range.rangeFitsLong
    rw [Bool.and_eq_true]
    exact ⟨decide_eq_true (by omega), decide_eq_true (by omega)⟩
  have hw0 : (0 : Int) < w := by omega
  rw [f 0 (by decide) (by decide), f _ (by omega) hp, f w (by omega) (by omega), f _ (by omega) (by omega), if_pos hw0, f _ (by omega) (by rcases hw with rfl | rfl | rfl <;> omega)]
  simp
/-- numbers_of(octets, wide) -/
def sp_numbers_of (K : PySem.W.Frag) : Sp := fun vs H Q _ => ∃ (a : Addr) (os : List Int) (w n : Nat), vs = [.ref a, .int (w : Int)] ∧ SqL K H a (os.map V.int) ∧ (w = 2 ∨ w = 4 ∨ w = 26) ∧ os.length = w * n ∧ n ≤ 5000 ∧ Octs os ∧ ∀ p H', H p = none → Same H H' → H' p = some (.lst ((numsO os w n).map V.int)) → Q (.ref p) H'
theorem len_numbers_of (K : PySem.W.Frag) : ∀ vs H Q E, sp_numbers_of K vs H Q E → vs.length = 2 := by
  rintro vs H Q E ⟨x, y, z, _, rfl, _⟩; rfl
def t_numbers_of (K : PySem.W.Frag) : TS :=
  (tRet (tLc (iRng3 (tCons (tC (.int 0)) (tCons (tCB (rLen K) (tCons (tVar 0) tNil)) (tCons (tVar 1) tNil)))) (gName 2) tYes (tCall (sp_number_of K) [] E0 (tCons (tSl (rSlL K) (tVar 0) (tPart (tVar 2)) (tPart (tOp rPlus (tVar 2) (tVar 1)))) tNil)) [2]))
abbrev n_numbers_of : List Str := ["octets", "wide", "at"]

theorem rd_numbers_of (K : PySem.W.Frag) (vs : List V) (H : Hp) (Q : VK) (E : XK) (h : sp_numbers_of K vs H Q E) : t_numbers_of K { nx := fun _ H' => Q .non H', rt := Q } (start n_numbers_of vs) H := by
  obtain ⟨a, os, w, n, rfl, hS, hw, hl, hn, ho, q⟩ := h
  unfold t_numbers_of
  walk_at "st"
  refine k_lenL hS ?_
  walk_at "st"
  rw [List.length_map, hl]
  refine m_rng3e (rgC_w hw (by omega)) ?_
  refine comp_walkV (f := fun k => some (V.int (num ((os.drop (w * k)).take w)))) walk_rangeC (by omega) (fun _ _ => trivial) (fun k x H2 H3 Qb hk s2 hy qb => ?_) (fun pl H2 hpl s2 e2 => ?_)
  · obtain ⟨rfl, rfl⟩ := hy
    refine k_yes ?_
    refine qb true _ (Same.refl _) (fun _ Q2 H4 s4 => ⟨_, rfl, fun q2 => ?_⟩) (fun z => nomatch z)
    dsimp only
    rw [show (0 : Int) + (k : Int) * (w : Int) = ((w * k : Nat) : Int) by rw [Int.zero_add, Int.mul_comm, Int.natCast_mul]]
    walk_at "st"
    refine k_slL ((s2.trans s4).seq hS) fun p1 hp1 => ?_
    rw [show ((w * k : Nat) : Int) + (w : Int) = ((w * k + w : Nat) : Int) from rfl, cutPart, ← List.map_take, ← List.map_drop, show (os.take (w * k + w)).drop (w * k) = (os.drop (w * k)).take w by rw [List.drop_take]; congr 1; omega]
    have hsub : Octs ((os.drop (w * k)).take w) := fun z hz => ho z (List.mem_of_mem_drop (List.mem_of_mem_take hz))
    have hll : ((os.drop (w * k)).take w).length ≤ 26 := by rw [List.length_take]; omega
    refine ⟨p1, _, rfl, .of upd_same, by omega, hsub, ?_⟩
    exact q2 _ (same_new hp1)
  rw [fm_some] at e2
  refine q pl H2 hpl s2 ?_
  rw [e2]; unfold numsO; rw [List.map_map]; rfl

/-- the first m bits of blocks -/
def unp (bl : List Int) (m : Nat) : List Int := (List.range m).map fun i => bit (bl.getD (i / 32) 0) (i % 32)
theorem unp_len (bl : List Int) (m : Nat) : (unp bl m).length = m := by unfold unp; simp
theorem unp_get (bl : List Int) {m i : Nat} (h : i < m) : (unp bl m)[i]? = some (bit (bl.getD (i / 32) 0) (i % 32)) := by unfold unp; simp [h]
theorem unp_bits (bl : List Int) (m : Nat) : Bits (unp bl m) := by
  intro x hx
  obtain ⟨i, _, rfl⟩ := List.mem_map.mp hx
  exact bit_cases _ _
/-- unpacked(blocks, many) -/
def sp_unpacked (K : PySem.W.Frag) : Sp := fun vs H Q E => ∃ (a : Addr) (bl : List Int) (m : Int), vs = [.ref a, .int m] ∧ SqL K H a (bl.map V.int) ∧ bl.length ≤ 3000 ∧
  ((m < 0 ∨ m > 32 * bl.length) → E (.ref (He.ga K "NoPlace")) none H) ∧
  (0 ≤ m → m ≤ 32 * bl.length → ∀ p H', H p = none → Same H H' → H' p = some (.lst ((unp bl m.toNat).map V.int)) → Q (.ref p) H')
theorem len_unpacked (K : PySem.W.Frag) : ∀ vs H Q E, sp_unpacked K vs H Q E → vs.length = 2 := by
  rintro vs H Q E ⟨x, y, z, rfl, _⟩; rfl
def t_unpacked (K : PySem.W.Frag) (E : XK) : TS :=
  (tSeq (tIfS (tOr (tTest (tOp rLt (tVar 1) (tC (.int 0)))) (tTest (tOp rGtI (tVar 1) (tOp rTimes (tC (.int 32)) (tCB (rLen K) (tCons (tVar 0) tNil))))))
  (tRz (fun cls d _ H => E cls d H) (He.ga K "NoPlace"))
  tNext)
  (tRet (tLc (iRng1 (tCons (tVar 1) tNil)) (gName 2) tYes (tOp rAnd1 (tOp rShr (tOp (rIxL K) (tVar 0) (tOp rDiv (tVar 2) (tC (.int 32)))) (tOp rMod (tVar 2) (tC (.int 32)))) (tC (.int 1))) [2])))
abbrev n_unpacked : List Str := ["blocks", "many", "at"]

theorem rd_unpacked (K : PySem.W.Frag) (vs : List V) (H : Hp) (Q : VK) (E : XK) (h : sp_unpacked K vs H Q E) : t_unpacked K E { nx := fun _ H' => Q .non H', rt := Q } (start n_unpacked vs) H := by
  obtain ⟨a, bl, m, rfl, hS, hl, q1, q2⟩ := h
  unfold t_unpacked
  walk_at "st"
  walk_at "if" <;> intro c1
  · walk_at "st"
    walk_at "st"
    exact q1 (.inl c1)
  · walk_at "st"
    refine k_lenL hS ?_
    walk_at "st"
    rw [List.length_map]
    walk_at "if" <;> intro c2
    · walk_at "st"
      exact q1 (.inr c2)
    · walk_at "st"
      have hm : 0 ≤ m := by omega
      have hm2 : m ≤ 32 * bl.length := by omega
      refine comp_rangeV (n := m.toNat) (f := fun i => .int (bit (bl.getD (i / 32) 0) (i % 32))) (by omega) (fun k H2 Q2 hk s2 qq => ?_) (fun p H' hp s e => ?_)
      · walk_at "st"
        have hlt : k / 32 < bl.length := by omega
        refine k_ixL (s2.seq hS) (at_int (by omega) (i := (k : Int) / 32) (x := .int (bl.getD (k / 32) 0)) ?_) ?_
        · rw [show ((k : Int) / 32).toNat = k / 32 by omega, List.getD_eq_getElem?_getD, List.getElem?_eq_getElem hlt]
          exact mapint (List.getElem?_eq_getElem hlt)
        walk_at "st"
        have e : (k : Int) % 32 = ((k % 32 : Nat) : Int) := by omega
        rw [e]
        exact qq _ (Same.refl _)
      · walk_at "st"
        refine q2 hm hm2 p H' hp s ?_
        rw [e]; unfold unp; rw [List.map_map]; rfl

theorem unp_blks {bs : List Int} (hB : Bits bs) : unp (blks bs) bs.length = bs := by
  apply List.ext_getElem?
  intro i
  rcases Nat.lt_or_ge i bs.length with hi | hi
  · have hj : i / 32 < (bs.length + 31) / 32 := by omega
    rw [unp_get _ hi, List.getD_eq_getElem?_getD, blks_get _ _ hj, List.getElem?_eq_getElem hi]
    have := bit_blks hB (blks_get bs _ hj) (show i % 32 < 32 by omega)
    rw [show 32 * (i / 32) + i % 32 = i by omega, List.getD_eq_getElem?_getD, List.getElem?_eq_getElem hi] at this
    rw [Option.getD_some, this]; rfl
  · rw [List.getElem?_eq_none (by rw [unp_len]; exact hi), List.getElem?_eq_none hi]

/-- blocks_for(many) -/
def sp_blocks_for (_ : PySem.W.Frag) : Sp := fun vs H Q _ => ∃ m : Int, vs = [.int m] ∧ Q (.int ((m + 31) / 32)) H
theorem len_blocks_for (K : PySem.W.Frag) : ∀ vs H Q E, sp_blocks_for K vs H Q E → vs.length = 1 := by
  rintro vs H Q E ⟨x, rfl, _⟩; rfl
def t_blocks_for (K : PySem.W.Frag) : TS :=
  (tRet (tOp rDiv (tOp rMinus (tOp rPlus (tVar 0) (tC (.int 32))) (tC (.int 1))) (tC (.int 32))))
abbrev n_blocks_for : List Str := ["many"]

theorem rd_blocks_for (K : PySem.W.Frag) (vs : List V) (H : Hp) (Q : VK) (E : XK) (h : sp_blocks_for K vs H Q E) : t_blocks_for K { nx := fun _ H' => Q .non H', rt := Q } (start n_blocks_for vs) H := by
  obtain ⟨m, rfl, q⟩ := h
  unfold t_blocks_for
  walk_at "st"
  rw [show m + 32 - 1 = m + 31 by omega]
  walk_at "st"
  exact q

/-- row_long(many) -/
def sp_row_long (_ : PySem.W.Frag) : Sp := fun vs H Q _ => ∃ m : Int, vs = [.int m] ∧ Q (.int (6 * ((m + 31) / 32) + 2)) H
theorem len_row_long (K : PySem.W.Frag) : ∀ vs H Q E, sp_row_long K vs H Q E → vs.length = 1 := by
  rintro vs H Q E ⟨x, rfl, _⟩; rfl
def t_row_long (K : PySem.W.Frag) : TS :=
  (tRet (tOp rPlus (tOp rTimes (tC (.int 6)) (tCall (sp_blocks_for K) [] E0 (tCons (tVar 0) tNil))) (tC (.int 2))))
abbrev n_row_long : List Str := ["many"]

theorem rd_row_long (K : PySem.W.Frag) (vs : List V) (H : Hp) (Q : VK) (E : XK) (h : sp_row_long K vs H Q E) : t_row_long K { nx := fun _ H' => Q .non H', rt := Q } (start n_row_long vs) H := by
  obtain ⟨m, rfl, q⟩ := h
  unfold t_row_long
  walk_at "st"
  refine ⟨m, rfl, ?_⟩
  walk_at "st"
  exact q

/-- same_again(octets, again) -/
def sp_same_again (K : PySem.W.Frag) : Sp := fun vs H Q E => ∃ (a b : Addr) (os rs : List Int), vs = [.ref a, .ref b] ∧ SqL K H a (os.map V.int) ∧ SqL K H b (rs.map V.int) ∧
  (os ≠ rs → E (.ref (He.ga K "NoOctets")) none H) ∧ (os = rs → Q .non H)
theorem len_same_again (K : PySem.W.Frag) : ∀ vs H Q E, sp_same_again K vs H Q E → vs.length = 2 := by
  rintro vs H Q E ⟨x, y, z, _, rfl, _⟩; rfl
def t_same_again (K : PySem.W.Frag) (E : XK) : TS :=
  (tIfS (tTest (tOp (rNeD K) (tVar 0) (tVar 1)))
  (tRz (fun cls d _ H => E cls d H) (He.ga K "NoOctets"))
  tNext)
abbrev n_same_again : List Str := ["octets", "again"]

theorem rd_same_again (K : PySem.W.Frag) (vs : List V) (H : Hp) (Q : VK) (E : XK) (h : sp_same_again K vs H Q E) : t_same_again K E { nx := fun _ H' => Q .non H', rt := Q } (start n_same_again vs) H := by
  obtain ⟨a, b, os, rs, rfl, hS, hR, q1, q2⟩ := h
  unfold t_same_again
  walk_at "st"
  refine k_neL hS hR ?_
  by_cases c : os = rs
  · rw [decide_eq_true c]
    walk_at "st"
    exact q2 c
  · rw [decide_eq_false c]
    walk_at "st"
    exact q1 c

theorem fm_con {α β : Type} {f : α → Option β} {g : α → β} : ∀ {l : List α}, (∀ i ∈ l, f i = some (g i)) → l.filterMap f = l.map g
  | [], _ => rfl
  | x :: l, h => by
    rw [List.filterMap_cons_some (h x List.mem_cons_self), List.map_cons, fm_con fun i hi => h i (List.mem_cons_of_mem _ hi)]
theorem fm_opt {α : Type} (os : List Int) (g : Int → α) : (List.range os.length).filterMap (fun i => os[i]?.map g) = os.map g := by
  rw [fm_con (g := fun i => g (os.getD i 0)) fun i hi => by
    rw [List.getD_eq_getElem?_getD, List.getElem?_eq_getElem (List.mem_range.mp hi)]; rfl]
  refine List.ext_getElem? fun i => ?_
  rcases Nat.lt_or_ge i os.length with hi | hi
  · rw [List.getElem?_map, List.getElem?_range hi, List.getElem?_map, List.getElem?_eq_getElem hi, Option.map_some, Option.map_some, List.getD_eq_getElem?_getD, List.getElem?_eq_getElem hi]; rfl
  · rw [List.getElem?_eq_none (by rw [List.length_map, List.length_range]; exact hi), List.getElem?_eq_none (by rw [List.length_map]; exact hi)]
/-- head_of(octets, kind, wide) -/
def sp_head_of (K : PySem.W.Frag) : Sp := fun vs H Q E => ∃ (a : Addr) (os : List Int) (k : Int) (w : Nat), vs = [.ref a, .int k, .int (w : Int)] ∧ SqL K H a (os.map V.int) ∧ 3 ≤ w ∧ w ≤ 100 ∧ os.length ≤ 100000 ∧
  (∀ H', Same H H' → (os.length < w ∨ ¬ Octs os ∨ os.getD 0 0 ≠ k ∨ 4096 < num ((os.take 3).drop 1)) → E (.ref (He.ga K "NoOctets")) none H') ∧
  (w ≤ os.length → Octs os → os.getD 0 0 = k → num ((os.take 3).drop 1) ≤ 4096 → ∀ p H', H p = none → Same H H' → H' p = some (.tup [.int (num ((os.take 3).drop 1)), .int (num ((os.take w).drop 3))]) → Q (.ref p) H')
theorem len_head_of (K : PySem.W.Frag) : ∀ vs H Q E, sp_head_of K vs H Q E → vs.length = 3 := by
  rintro vs H Q E ⟨x, y, z, _, rfl, _⟩; rfl
def t_head_of (K : PySem.W.Frag) (E : XK) : TS :=
  (tSeq (tIfS (tOr (tTest (tOp rLt (tCB (rLen K) (tCons (tVar 0) tNil)) (tVar 2))) (tOr (tNot (tB (tCB (rAll K) (tCons (tLc (iList K (tVar 0)) (gName 3) tYes (tChain rLe rLt (tC (.int 0)) (tVar 3) (tC (.int 256))) [3]) tNil)))) (tTest (tOp rNe (tOp (rIxL K) (tVar 0) (tC (.int 0))) (tVar 1)))))
  (tRz (fun cls d _ H => E cls d H) (He.ga K "NoOctets"))
  tNext)
  (tSeq (tAsg (tCall (sp_number_of K) [] E0 (tCons (tSl (rSlL K) (tVar 0) (tPart (tC (.int 1))) (tPart (tC (.int 3)))) tNil)) (gName 4))
  (tSeq (tIfS (tTest (tOp rGtI (tVar 4) (tC (.int 4096))))
  (tRz (fun cls d _ H => E cls d H) (He.ga K "NoOctets"))
  tNext)
  (tRet (tTup (tCons (tVar 4) (tCons (tCall (sp_number_of K) [] E0 (tCons (tSl (rSlL K) (tVar 0) (tPart (tC (.int 3))) (tPart (tVar 2))) tNil)) tNil)))))))
abbrev n_head_of : List Str := ["octets", "kind", "wide", "octet", "many"]

theorem rd_head_of (K : PySem.W.Frag) (vs : List V) (H : Hp) (Q : VK) (E : XK) (h : sp_head_of K vs H Q E) : t_head_of K E { nx := fun _ H' => Q .non H', rt := Q } (start n_head_of vs) H := by
  obtain ⟨a, os, k, w, rfl, hS, hw, hw2, hl, q1, q2⟩ := h
  unfold t_head_of
  walk_at "st"
  refine k_lenL hS ?_
  walk_at "st"
  rw [List.length_map]
  walk_at "if" <;> intro c1
  · walk_at "st"
    exact q1 H (Same.refl _) (.inl (by omega))
  walk_at "st"
  refine m_iLe hS ?_
  refine comp_walkV (f := fun i => os[i]?.map fun o => V.bl (decide (0 ≤ o ∧ o < 256))) (walk_list (K := K) (xs := os.map V.int)) (by rw [List.length_map]; omega) (fun H' s' => s'.seq hS) (fun i v Hb Hc Qb hk sk hy qb => ?_) (fun pm Hb hpm sb eb => ?_)
  · obtain ⟨rfl, ev⟩ := hy
    obtain ⟨o, ho, rfl⟩ := of_mapint ev
    refine k_yes ?_
    refine qb true _ (Same.refl _) (fun _ Q2 H4 s4 => ⟨_, by rw [ho]; rfl, fun q2 => ?_⟩) (fun z => nomatch z)
    walk_at "st"
    by_cases z0 : 0 ≤ o
    · rw [if_pos (decide_eq_true z0)]
      walk_at "st"
      by_cases z1 : o < 256
      · rw [decide_eq_true z1]
        have := q2 _ (Same.refl _)
        dsimp only at this
        rw [decide_eq_true (show 0 ≤ o ∧ o < 256 from ⟨z0, z1⟩)] at this
        exact this
      · rw [decide_eq_false z1]
        have := q2 _ (Same.refl _)
        dsimp only at this
        rw [decide_eq_false (show ¬ (0 ≤ o ∧ o < 256) from fun z => z1 z.2)] at this
        exact this
    · rw [if_neg (by simpa using z0)]
      have := q2 _ (Same.refl _)
      dsimp only at this
      rw [decide_eq_false (show ¬ (0 ≤ o ∧ o < 256) from fun z => z0 z.1)] at this
      exact this
  rw [List.length_map, fm_opt] at eb
  have eb : Hb pm = some (.lst ((os.map fun o => decide (0 ≤ o ∧ o < 256)).map V.bl)) := by rw [eb, List.map_map]; rfl
  have hall : (os.map fun o => decide (0 ≤ o ∧ o < 256)).all id = true ↔ Octs os := by
    rw [List.all_map, List.all_eq_true]
    exact ⟨fun h x hx => of_decide_eq_true (h x hx), fun h x hx => decide_eq_true (h x hx)⟩
  refine ⟨pm, _, rfl, .of eb, ?_⟩
  generalize (os.map fun o => decide (0 ≤ o ∧ o < 256)).all id = bb at hall ⊢
  cases bb with
  | false =>
    walk_at "st"
    exact q1 Hb sb (.inr (.inl fun z => by have := hall.mpr z; cases this))
  | true =>
    have ho : Octs os := hall.mp rfl
    walk_at "st"
    have h0 : 0 < os.length := by omega
    refine k_ixL (sb.seq hS) (at_int (i := 0) (by decide) (mapint (List.getElem?_eq_getElem h0))) ?_
    walk_at "st"
    have e0 : os.getD 0 0 = os[0] := by rw [List.getD_eq_getElem?_getD, List.getElem?_eq_getElem h0]; rfl
    walk_at "if" <;> intro c2
    · walk_at "st"
      exact q1 Hb sb (.inr (.inr (.inl (by rw [e0]; exact c2))))
    walk_at "st"
    refine k_slL (sb.seq hS) fun l1 hl1 => ?_
    rw [show (1 : Int) = ((1 : Nat) : Int) from rfl, show (3 : Int) = ((3 : Nat) : Int) from rfl, cutPart, ← List.map_take, ← List.map_drop]
    have o1 : Octs ((os.take 3).drop 1) := fun z hz => ho z (List.mem_of_mem_take (List.mem_of_mem_drop hz))
    have o2 : Octs ((os.take w).drop 3) := fun z hz => ho z (List.mem_of_mem_take (List.mem_of_mem_drop hz))
    have s1 := sb.trans (same_new (o := .lst (((os.take 3).drop 1).map V.int)) hl1)
    refine ⟨l1, _, rfl, .of upd_same, by rw [List.length_drop, List.length_take]; omega, o1, ?_⟩
    generalize upd Hb l1 (.lst (((os.take 3).drop 1).map V.int)) = H1 at s1 ⊢
    walk_at "st"
    walk_at "if" <;> intro c3
    · walk_at "st"
      exact q1 H1 s1 (.inr (.inr (.inr (by omega))))
    walk_at "st"
    refine k_slL (s1.seq hS) fun l2 hl2 => ?_
    rw [cutPart, ← List.map_take, ← List.map_drop]
    have s2 := s1.trans (same_new (o := .lst (((os.take w).drop 3).map V.int)) hl2)
    refine ⟨l2, _, rfl, .of upd_same, by rw [List.length_drop, List.length_take]; omega, o2, ?_⟩
    generalize upd H1 l2 (.lst (((os.take w).drop 3).map V.int)) = H2 at s2 ⊢
    walk_at "st"
    intro p hp
    exact q2 (by omega) ho (by rw [e0]; exact c2) (by omega) p _ (s2.gone _ hp) (s2.trans (same_new hp)) upd_same

/-- the depths that the first n brackets tell -/
def depTo (bs : List Int) : Nat → List Int
  | 0 => []
  | n + 1 => if bs.getD n 0 = 1 then depTo bs n ++ [hgt bs n] else depTo bs n
theorem depTo_len (bs : List Int) : ∀ n, (depTo bs n).length ≤ n
  | 0 => Nat.le_refl _
  | n + 1 => by
    have := depTo_len bs n
    unfold depTo; split
    · rw [List.length_append]; simp only [List.length_cons, List.length_nil]; omega
    · omega
/-- depths_of(bits) -/
def sp_depths_of (K : PySem.W.Frag) : Sp := fun vs H Q E => ∃ (a : Addr) (bs : List Int), vs = [.ref a] ∧ SqL K H a (bs.map V.int) ∧ bs.length ≤ 100000 ∧
  (bs.length > 4096 → E (.ref (He.ga K "TooMany")) none H) ∧
  (bs.length ≤ 4096 → ¬ Bits bs → ∀ H', Same H H' → E (.ref (He.ga K "NoBit")) none H') ∧
  (bs.length ≤ 4096 → Bits bs → ¬ IsTree bs → ∀ H', Same H H' → E (.ref (He.ga K "NoTree")) none H') ∧
  (bs.length ≤ 4096 → Bits bs → IsTree bs → ∀ p H', H p = none → Same H H' → H' p = some (.lst ((depTo bs bs.length).map V.int)) → Q (.ref p) H')
theorem len_depths_of (K : PySem.W.Frag) : ∀ vs H Q E, sp_depths_of K vs H Q E → vs.length = 1 := by
  rintro vs H Q E ⟨x, y, rfl, _⟩; rfl
def t_depths_of (K : PySem.W.Frag) (E : XK) : TS :=
  (tSeq (tDrop (tCall (sp_packed K) [] E (tCons (tVar 0) tNil)))
  (tSeq (tIfS (tNot (tB (tCall (sp_is_tree K) [] E0 (tCons (tVar 0) tNil))))
  (tRz (fun cls d _ H => E cls d H) (He.ga K "NoTree"))
  tNext)
  (tSeq (tAsg (tLst tNil) (gName 1))
  (tSeq (tAsg (tC (.int 0)) (gName 2))
  (tSeq (tFor (iList K (tVar 0)) (gName 3)
  (tIfS (tTest (tOp rEq (tVar 3) (tC (.int 1))))
  (tSeq (tDrop (tBM K "list" rAppend (tVar 1) (tCons (tVar 2) tNil)))
  (tAug 2 (tC (.int 1)) (ipI fun i j => i + j)))
  (tAug 2 (tC (.int 1)) (ipI fun i j => i - j))))
  (tRet (tVar 1)))))))
abbrev n_depths_of : List Str := ["bits", "depths", "deep", "bit"]

theorem rd_depths_of (K : PySem.W.Frag) (vs : List V) (H : Hp) (Q : VK) (E : XK) (h : sp_depths_of K vs H Q E) : t_depths_of K E { nx := fun _ H' => Q .non H', rt := Q } (start n_depths_of vs) H := by
  obtain ⟨a, bs, rfl, hS, hl, q1, q2, q3, q4⟩ := h
  unfold t_depths_of
  walk_at "st"
  refine ⟨a, bs, rfl, hS, hl, q1, q2, fun hm hB p0 H1 hp0 s1 e1 => ?_⟩
  walk_at "st"
  refine ⟨a, bs, rfl, s1.seq hS, hl, fun b H2 hb s2 => ?_⟩
  have s12 := s1.trans s2
  walk_at "st"
  cases b with
  | false =>
    walk_at "st"
    exact q3 hm hB (fun z => by have := hb.mpr z; cases this) H2 s12
  | true =>
  walk_at "st"
  intro p hp
  have s3 := s12.trans (same_new (o := .lst []) hp)
  have e3 := upd_same (H := H2) (a := p) (o := .lst [])
  have hpH : H p = none := s12.gone _ hp
  generalize upd H2 p (.lst []) = H3 at s3 e3 ⊢
  walk_at "st"
  refine m_iLe (s3.seq hS) ?_
  refine loop_ints (ns := bs) (fun i σ' H' => ∃ v : Option V, Same H H' ∧ H' p = some (.lst ((depTo bs i).map V.int)) ∧ σ' = [some (.ref a), some (.ref p), some (.int (hgt bs i)), v]) ⟨none, s3, e3, rfl⟩ (fun i σ' H' ⟨_, s, _⟩ => s.seq hS) (fun i n σ' H' hn ⟨v, s, e, es⟩ => ?_) (fun σ' H' ⟨v, s, e, es⟩ => ?_)
  · subst es
    have hlt : i < bs.length := (List.getElem?_eq_some_iff.mp hn).1
    have eg : bs.getD i 0 = n := by rw [List.getD_eq_getElem?_getD, hn]; rfl
    walk_at "st"
    walk_at "if" <;> intro c
    · walk_at "st"
      refine k_tyL (.of e) ?_
      walk_at "st"
      refine k_app e (by have := depTo_len bs i; rw [List.length_map]; omega) ?_
      walk_at "st"
      refine ⟨some (.int n), Same.mut s hpH ⟨_, e⟩, ?_, ?_⟩
      · rw [upd_same]
        show _ = some (HO.lst ((if bs.getD i 0 = 1 then depTo bs i ++ [hgt bs i] else depTo bs i).map V.int))
        rw [if_pos (eg.trans c), List.map_append]; rfl
      · rw [hgt_succ, eg, c]; rfl
    · walk_at "st"
      refine ⟨some (.int n), s, ?_, ?_⟩
      · show _ = some (HO.lst ((if bs.getD i 0 = 1 then depTo bs i ++ [hgt bs i] else depTo bs i).map V.int))
        rw [if_neg (fun z => c (eg.symm.trans z))]; exact e
      · rw [hgt_succ, eg]
        have : n = 0 := (hB n (List.mem_of_getElem? hn)).resolve_right c
        rw [this]; rfl
  subst es
  walk_at "st"
  exact q4 hm hB (hb.mp rfl) p H' hpH s e

--#base
/-- a walk over brackets meets the depths -/
def Tells : List Int → Int → List Int → Prop
  | ds, deep, [] => ds = [] ∧ deep = 0
  | ds, deep, b :: bs => 1 ≤ deep ∧ ((b = 0 ∧ Tells ds (deep - 1) bs) ∨ (b = 1 ∧ ∃ r, ds = deep :: r ∧ Tells r (deep + 1) bs))
theorem tells_noughts {ds : List Int} {bs : List Int} : ∀ (n : Nat) {deep : Int}, (n : Int) ≤ deep → Tells ds (deep - n) bs → Tells ds deep (List.replicate n 0 ++ bs)
  | 0, deep, _, h => by simpa using h
  | n + 1, deep, h1, h => by
    rw [List.replicate_succ, List.cons_append]
    refine ⟨by omega, .inl ⟨rfl, tells_noughts n (by omega) ?_⟩⟩
    rw [show deep - 1 - (n : Int) = deep - ((n + 1 : Nat) : Int) by omega]; exact h
theorem tells_brkT : ∀ {ds : List Int} {a : Int}, 0 ≤ a → DeepT a ds → Tells ds (a + 1) (brkT a ds)
  | [], a, h, _ => by
    have := tells_noughts (ds := []) (bs := []) (a + 1).toNat (deep := a + 1) (by omega) ⟨rfl, by omega⟩
    rw [List.append_nil] at this; exact this
  | d :: ds, a, h, ⟨a1, a2, a3⟩ => by
    refine tells_noughts (a + 1 - d).toNat (by omega) ?_
    rw [show a + 1 - (((a + 1 - d).toNat : Nat) : Int) = d by omega]
    exact ⟨a1, .inr ⟨rfl, ds, rfl, tells_brkT (by omega) a3⟩⟩
/-- where the walk stands behind i brackets -/
def TellAt (ds : List Int) (i node : Nat) (deep : Int) : Prop := (i = 0 ∧ node = 0 ∧ deep = 0 ∧ Deep ds) ∨ (0 < node ∧ Tells (ds.drop node) deep ((brk ds).drop i))
theorem tellAt_zero {ds : List Int} (h : Deep ds) : TellAt ds 0 0 0 := .inl ⟨rfl, rfl, rfl, h⟩
theorem tellAt_step {ds : List Int} {i node : Nat} {deep n : Int} (h : TellAt ds i node deep) (hn : (brk ds)[i]? = some n) :
    (n = 0 ∧ 0 < node ∧ 1 ≤ deep ∧ TellAt ds (i + 1) node (deep - 1)) ∨ (n = 1 ∧ (0 < node → 1 ≤ deep) ∧ ds[node]? = some deep ∧ TellAt ds (i + 1) (node + 1) (deep + 1)) := by
  rcases h with ⟨rfl, rfl, rfl, h⟩ | ⟨h1, h2⟩
  · obtain ⟨r, rfl, h3⟩ := h.cons
    have : n = 1 := by simpa [brk] using hn.symm
    subst this
    exact .inr ⟨rfl, fun z => by omega, rfl, .inr ⟨by omega, tells_brkT (by decide) h3⟩⟩
  · have hlt := (List.getElem?_eq_some_iff.mp hn).1
    have ed : (brk ds).drop i = n :: (brk ds).drop (i + 1) := by
      rw [List.drop_eq_getElem_cons hlt]
      congr 1
      exact (List.getElem?_eq_some_iff.mp hn).2
    rw [ed] at h2
    obtain ⟨h3, ⟨rfl, h4⟩ | ⟨rfl, r, h4, h5⟩⟩ := h2
    · exact .inl ⟨rfl, h1, h3, .inr ⟨h1, h4⟩⟩
    · refine .inr ⟨rfl, fun _ => h3, ?_, .inr ⟨by omega, ?_⟩⟩
      · have := congrArg (fun l => l[0]?) h4
        simpa using this
      · have : ds.drop (node + 1) = r := by
          rw [← List.drop_drop, h4]; rfl
        rw [this]; exact h5
theorem tellAt_end {ds : List Int} {node : Nat} {deep : Int} (hD : Deep ds) (h : TellAt ds (brk ds).length node deep) (hle : node ≤ ds.length) : node = ds.length ∧ deep = 0 := by
  rcases h with ⟨h, _⟩ | ⟨_, h⟩
  · rw [brk_len hD] at h
    obtain ⟨r, rfl, _⟩ := hD.cons
    rw [List.length_cons] at h; omega
  · rw [List.drop_length] at h
    obtain ⟨h1, h2⟩ := h
    exact ⟨by have := List.drop_eq_nil_iff.mp h1; omega, h2⟩

/-! brackets of a tree and its depths, there and back -/
theorem dep_inv {bs : List Int} (hB : Bits bs) (hT : IsTree bs) : ∀ i, i + 1 ≤ bs.length → ∃ r : List Int, depTo bs (i + 1) = 0 :: r ∧ DeepT 0 r ∧ hgt bs (i + 1) ≤ lastD 0 r + 1 ∧ 1 :: (brkF 0 r ++ List.replicate (lastD 0 r + 1 - hgt bs (i + 1)).toNat 0) = bs.take (i + 1)
  | 0, h => by
    have h1 := hT.2.2 1 (by decide) (by have := hT.1; omega)
    have hb := hB _ (List.getElem_mem (show 0 < bs.length by omega))
    have e0 : bs.getD 0 0 = bs[0] := by rw [List.getD_eq_getElem?_getD, List.getElem?_eq_getElem (show 0 < bs.length by omega)]; rfl
    have e1 : hgt bs 1 = 2 * bs[0] - 1 := by
      have this : hgt bs 1 = hgt bs 0 + (2 * bs.getD 0 0 - 1) := hgt_succ bs 0
      rw [hgt_zero, e0] at this; omega
    have eb : bs[0] = 1 := by omega
    refine ⟨[], ?_, trivial, ?_, ?_⟩
    · show (if bs.getD 0 0 = 1 then depTo bs 0 ++ [hgt bs 0] else depTo bs 0) = [0]
      rw [if_pos (e0.trans eb), hgt_zero]; rfl
    · rw [e1, eb]; decide
    · rw [e1, eb]
      rw [List.take_succ, List.getElem?_eq_getElem (show 0 < bs.length by omega), eb]; rfl
  | i + 1, h => by
    obtain ⟨r, h1, h2, h3, h4⟩ := dep_inv hB hT i (by omega)
    have hp := hT.2.2 (i + 1) (by omega) (by omega)
    have hlt : i + 1 < bs.length := by omega
    have hb := hB _ (List.getElem_mem hlt)
    have e0 : bs.getD (i + 1) 0 = bs[i + 1] := by rw [List.getD_eq_getElem?_getD, List.getElem?_eq_getElem hlt]; rfl
    have e1 : hgt bs (i + 1 + 1) = hgt bs (i + 1) + (2 * bs[i + 1] - 1) := by
      have := hgt_succ bs (i + 1)
      rw [e0] at this; omega
    have et : bs.take (i + 1 + 1) = bs.take (i + 1) ++ [bs[i + 1]] := by rw [List.take_succ, List.getElem?_eq_getElem hlt]; rfl
    have ed : depTo bs (i + 1 + 1) = if bs.getD (i + 1) 0 = 1 then depTo bs (i + 1) ++ [hgt bs (i + 1)] else depTo bs (i + 1) := rfl
    rcases hb with hb | hb
    · rw [e0, hb, if_neg (by decide)] at ed
      refine ⟨r, ed.trans h1, h2, by omega, ?_⟩
      rw [et, ← h4, e1, hb, show (lastD 0 r + 1 - (hgt bs (i + 1) + (2 * 0 - 1))).toNat = (lastD 0 r + 1 - hgt bs (i + 1)).toNat + 1 by omega, List.replicate_succ', List.cons_append, List.append_assoc]
    · rw [e0, hb, if_pos rfl] at ed
      refine ⟨r ++ [hgt bs (i + 1)], ?_, deepT_snoc h2 (by omega) h3, ?_, ?_⟩
      · rw [ed, h1]; rfl
      · rw [lastD_snoc, e1, hb]; omega
      · rw [et, ← h4, lastD_snoc, brkF_snoc, e1, hb, show (hgt bs (i + 1) + 1 - (hgt bs (i + 1) + (2 * 1 - 1))).toNat = 0 by omega]
        simp
theorem dep_back {bs : List Int} (hB : Bits bs) (hT : IsTree bs) : Deep (depTo bs bs.length) ∧ brk (depTo bs bs.length) = bs := by
  have h2 := hT.1
  obtain ⟨r, h1, h3, h4, h5⟩ := dep_inv hB hT (bs.length - 1) (by omega)
  rw [show bs.length - 1 + 1 = bs.length by omega] at h1 h4 h5
  rw [hT.2.1, List.take_length] at h5
  rw [h1]
  refine ⟨⟨rfl, h3⟩, ?_⟩
  show 1 :: brkT 0 r = bs
  rw [brkF_all, ← h5]
  simp
theorem tells_uniq : ∀ {bs ds es : List Int} {a : Int}, Tells ds a bs → Tells es a bs → ds = es
  | [], _, _, _, h, g => h.1.trans g.1.symm
  | b :: bs, ds, es, a, ⟨_, h⟩, ⟨_, g⟩ => by
    rcases h with ⟨h1, h2⟩ | ⟨h1, r, rfl, h2⟩ <;> rcases g with ⟨g1, g2⟩ | ⟨g1, s, rfl, g2⟩
    · exact tells_uniq h2 g2
    · omega
    · omega
    · rw [tells_uniq h2 g2]
theorem brk_inj {ds es : List Int} (h : Deep ds) (g : Deep es) (e : brk ds = brk es) : ds = es := by
  obtain ⟨r, rfl, h2⟩ := h.cons
  obtain ⟨s, rfl, g2⟩ := g.cons
  have e2 : brkT 0 r = brkT 0 s := List.cons.inj e |>.2
  have t1 := tells_brkT (Int.le_refl 0) h2
  have t2 := tells_brkT (Int.le_refl 0) g2
  rw [← e2] at t2
  rw [tells_uniq t1 t2]
theorem dep_of_brk {ds : List Int} (h : Deep ds) : depTo (brk ds) (brk ds).length = ds := by
  obtain ⟨hT, hB⟩ := brk_tree h
  obtain ⟨h1, h2⟩ := dep_back hB hT
  exact brk_inj h1 h h2

theorem octs_append {a b : List Int} (h1 : Octs a) (h2 : Octs b) : Octs (a ++ b) := fun x hx => (List.mem_append.mp hx).elim (h1 x) (h2 x)
theorem fldO_oct (ns : List Int) (w : Nat) : Octs (fldO ns w) := fun x hx => by
  obtain ⟨l, hl, hx⟩ := List.mem_flatten.mp hx
  obtain ⟨n, _, rfl⟩ := List.mem_map.mp hl
  exact octs_oct n w x hx
theorem fldO_one (n : Int) (w : Nat) : fldO [n] w = octs n w := by unfold fldO; simp
theorem numsO_fldO (w : Nat) : ∀ ns : List Int, (∀ n ∈ ns, 0 ≤ n ∧ n < 256 ^ w) → numsO (fldO ns w) w ns.length = ns
  | [], _ => rfl
  | n :: ns, h => by
    obtain ⟨h1, h2⟩ := h n List.mem_cons_self
    have e : fldO (n :: ns) w = octs n w ++ fldO ns w := by unfold fldO; rw [List.map_cons, List.flatten_cons]
    have el := octs_len n w
    rw [List.length_cons, numsO_succ, e]
    have e1 : (octs n w ++ fldO ns w).take w = octs n w := by
      rw [List.take_append_of_le_length (by rw [el]; exact Nat.le_refl _), List.take_of_length_le (by rw [el]; exact Nat.le_refl _)]
    have e2 : (octs n w ++ fldO ns w).drop w = fldO ns w := by
      rw [List.drop_append_of_le_length (by rw [el]; exact Nat.le_refl _), List.drop_of_length_le (by rw [el]; exact Nat.le_refl _), List.nil_append]
    rw [e1, e2, num_octs w n h1 h2, numsO_fldO w ns fun x hx => h x (List.mem_cons_of_mem _ hx)]
theorem blks_lt {bs : List Int} (hB : Bits bs) : ∀ n ∈ blks bs, 0 ≤ n ∧ n < 256 ^ 4 := fun n hn => by
  obtain ⟨j, hj⟩ := List.mem_iff_getElem?.mp hn
  obtain ⟨h1, h2⟩ := blks_range hB hj
  exact ⟨h1, h2⟩
/-- some octets: a kind, a row's number of bits, its blocks, and more -/
def lay (k : Int) (bs T : List Int) : List Int := k :: (octs (bs.length : Int) 2 ++ (fldO (blks bs) 4 ++ T))
theorem lay_len (k : Int) (bs T : List Int) : (lay k bs T).length = 3 + 4 * ((bs.length + 31) / 32) + T.length := by
  unfold lay
  rw [List.length_cons, List.length_append, List.length_append, fldO_len, blks_len, octs_len]; omega
theorem lay_oct {k : Int} {bs T : List Int} (hk : 0 ≤ k ∧ k < 256) (hT : Octs T) : Octs (lay k bs T) := fun x hx => by
  unfold lay at hx
  rcases List.mem_cons.mp hx with rfl | hx
  · exact hk
  · exact octs_append (octs_oct _ _) (octs_append (fldO_oct _ _) hT) x hx
theorem lay_many {k : Int} {bs T : List Int} (h : bs.length ≤ 4096) : num (((lay k bs T).take 3).drop 1) = (bs.length : Int) := by
  unfold lay
  rw [List.take_succ_cons, List.drop_succ_cons, List.drop_zero, List.take_append_of_le_length (by rw [octs_len]; exact Nat.le_refl _), List.take_of_length_le (by rw [octs_len]; exact Nat.le_refl _)]
  exact num_octs 2 _ (by omega) (by show ((bs.length : Nat) : Int) < 256 ^ 2; omega)
theorem lay_mid (k : Int) (bs T : List Int) : ((lay k bs T).take (3 + 4 * ((bs.length + 31) / 32))).drop 3 = fldO (blks bs) 4 := by
  have l1 : (k :: octs (bs.length : Int) 2).length = 3 := by rw [List.length_cons, octs_len]
  have l2 : (fldO (blks bs) 4).length = 4 * ((bs.length + 31) / 32) := by rw [fldO_len, blks_len, Nat.mul_comm]
  rw [show lay k bs T = (k :: octs (bs.length : Int) 2) ++ (fldO (blks bs) 4 ++ T) from rfl]
  rw [← l1, List.take_length_add_append, List.drop_left, ← l2, List.take_left]
/-- the octets tell the bits -/
theorem lay_bits {k : Int} {bs T : List Int} (hB : Bits bs) : unp (numsO (((lay k bs T).take (3 + 4 * ((bs.length + 31) / 32))).drop 3) 4 ((bs.length + 31) / 32)) bs.length = bs := by
  have e := numsO_fldO 4 (blks bs) (blks_lt hB)
  rw [blks_len] at e
  rw [lay_mid, e, unp_blks hB]

theorem treeO_lay (bs : List Int) : treeO bs = lay 2 bs (fldO (aheadT bs) 2 ++ fldO (lowsOf bs) 2) := by
  unfold treeO lay
  rw [fldO_one, List.append_assoc, List.append_assoc]
theorem treeO_tail (bs : List Int) : (fldO (aheadT bs) 2 ++ fldO (lowsOf bs) 2).length = 4 * ((bs.length + 31) / 32) + 2 := by
  rw [List.length_append, fldO_len, fldO_len, aheadT_len, lowsOf_len]; omega
theorem treeO_oct (bs : List Int) : Octs (treeO bs) := by
  rw [treeO_lay]
  exact lay_oct (by decide) (octs_append (fldO_oct _ _) (fldO_oct _ _))
theorem treeO_len' (bs : List Int) : (treeO bs).length = 5 + 8 * ((bs.length + 31) / 32) := by
  rw [treeO_lay, lay_len, treeO_tail]; omega
/-- os are the octets of some tree -/
def IsTr (os ds : List Int) : Prop := Deep ds ∧ ds.length ≤ 2048 ∧ os = treeO (brk ds)
theorem IsTr.inj {os ds es : List Int} (h : IsTr os ds) (g : IsTr os es) : ds = es := by
  obtain ⟨h1, h2, h3⟩ := h
  obtain ⟨g1, g2, g3⟩ := g
  have hb := brk_len h1
  have gb := brk_len g1
  obtain ⟨hT, hB⟩ := brk_tree h1
  obtain ⟨gT, gB⟩ := brk_tree g1
  have e : treeO (brk ds) = treeO (brk es) := h3.symm.trans g3
  rw [treeO_lay, treeO_lay] at e
  have e1 := lay_many (k := 2) (bs := brk ds) (T := fldO (aheadT (brk ds)) 2 ++ fldO (lowsOf (brk ds)) 2) (by omega)
  have e2 := lay_many (k := 2) (bs := brk es) (T := fldO (aheadT (brk es)) 2 ++ fldO (lowsOf (brk es)) 2) (by omega)
  have e3 := lay_bits (k := 2) (T := fldO (aheadT (brk ds)) 2 ++ fldO (lowsOf (brk ds)) 2) hB
  rw [e] at e1 e3
  have el : (brk ds).length = (brk es).length := by omega
  rw [el, lay_bits gB] at e3
  exact brk_inj h1 g1 e3.symm

/-- look_of(blocks) -/
def sp_look_of_look (_ : PySem.W.Frag) (_ : CLs) (_ : Nat) (ws vs : List V) (H : Hp) (Q : VK) : Prop := ∃ (p : Addr) (xs : List V) (i : Int) (x : V), ws = [.ref p] ∧ vs = [.int i] ∧ H p = some (.lst xs) ∧ atI xs i = some x ∧ Q x H
theorem len_look_of_look (K : PySem.W.Frag) (CL : CLs) (j : Nat) : ∀ ws vs H Q, sp_look_of_look K CL j ws vs H Q → vs.length = 1 := by
  rintro ws vs H Q ⟨p, xs, i, x, rfl, rfl, _⟩; rfl
def sp_look_of (K : PySem.W.Frag) (CL : CLs) : Sp := fun vs H Q _ => ∃ (a : Addr) (xs : List V), vs = [.ref a] ∧ SqL K H a xs ∧ NdefX.TabN H (tabP K "look_of") nmL ∧ ∀ g H', H g = none → Same H H' → PureLook CL 1 g xs (newOf H H') → Q (.ref g) H'
theorem len_look_of (K : PySem.W.Frag) (CL : CLs) : ∀ vs H Q E, sp_look_of K CL vs H Q E → vs.length = 1 := by
  rintro vs H Q E ⟨a, xs, rfl, _⟩; rfl
def t_look_of_look (K : PySem.W.Frag) (CL : CLs) (j : Nat) : TS :=
  (tRet (tOp (rIxL K) (tVar 1) (tVar 0)))
abbrev n_look_of_look : List Str := ["number", "kept"]
def tp_look_of (K : PySem.W.Frag) (P : Addr) (mk : Addr → NdefX.NF) : TS :=
  (tSeq (tAsg (tCB (rListOf K) (tCons (tVar 0) tNil)) (gName 1))
  (tNdefC P 2 mk))
def te_look_of (K : PySem.W.Frag) (P : Addr) (mk : Addr → NdefX.NF) : TE :=
  (tVar 2)
def t_look_of (K : PySem.W.Frag) (P : Addr) (mk : Addr → NdefX.NF) (G : V → L2.St → Hp → Prop) : L2.St → Hp → Prop := tp_look_of K P mk (Ends.mk (fun σ' H' => te_look_of K P mk σ' H' fun v H'' => G v σ' H'') (fun _ _ => False) (fun _ _ => False) (fun _ _ => False))
abbrev n_look_of : List Str := ["blocks", "kept", "look"]

theorem rd_look_of_look (K : PySem.W.Frag) (CL : CLs) (j : Nat) (vs ws : List V) (H : Hp) (Q : VK) (h : sp_look_of_look K CL j ws vs H Q) : t_look_of_look K CL j { nx := fun _ H' => Q .non H', rt := Q } (NdefX.startF n_look_of_look vs (ws.map some)) H := by
  obtain ⟨p, xs, i, x, rfl, rfl, e, hx, q⟩ := h
  unfold t_look_of_look
  walk_at "st"
  refine k_ixL (.of e) hx ?_
  walk_at "st"
  exact q
theorem rd_look_of (K : PySem.W.Frag) (CL : CLs) (P : Addr) (hP : P = tabP K "look_of") (mk : Addr → NdefX.NF) (vs : List V) (H : Hp) (Q : VK) (E : XK) (h : sp_look_of K CL vs H Q E) (G : V → L2.St → Hp → Prop)
(hG : ∀ v σ' H'', (∀ C dC H', Upg CL 0 NdefX.FnO mk [1] (sp_look_of_look K CL) C dC σ' H'' H' → Q v H') → G v σ' H'')
    : t_look_of K P mk G (start n_look_of vs) H := by
  subst hP
  obtain ⟨a, xs, rfl, hS, hT, q⟩ := h
  unfold t_look_of tp_look_of te_look_of
  walk_at "st"
  refine k_listL hS fun p hp => ?_
  walk_at "st"
  refine m_ndefC ((same_new hp).tabs _ hT) fun f c' H1 s1 f0 f1 c1 => ?_
  walk_at "st"
  refine hG _ _ _ fun C dC H' u => ?_
  have e1 : H1 p = some (.lst xs) := s1.get upd_same
  refine q f H' ((same_new hp).gone _ f0) ((same_new hp).trans (s1.trans u.up)) fun H3 s3 => ⟨?_, fun i x Q3 hx q3 => ?_⟩
  · exact (isFn_fno ((newOf_ext (u.up.get f1)) : _)).ext s3
  · have hx3 : ∀ b φ, H' b = some (.ext φ) → H3 b = some (.ext φ) := fun b φ e => s3 b _ (newOf_ext e) fun _ z => nomatch z
    have e3 : hide C H3 p = some (.lst xs) := (hide_out (upg_out u e1)).trans (s3 p _ ((newOf_new hp).trans (u.up.get e1)) fun _ z => nomatch z)
    refine u.law f c' f1 c1 [.ref p] rfl 0 H3 _ Q3 hx3 ⟨p, xs, i, x, rfl, rfl, e3, at_nat hx, ?_⟩
    show Q3 x (unhide C H3 (hide C H3))
    rw [unhide_hide]
    exact q3 _ (L2.Same.refl _)

/-- read_tree(octets) -/
def sp_read_tree (K : PySem.W.Frag) : Sp := fun vs H Q E => ∃ (a : Addr) (os : List Int), vs = [.ref a] ∧ SqL K H a (os.map V.int) ∧ os.length ≤ 100000 ∧
  (∀ H', Same H H' → (∀ ds, ¬ IsTr os ds) → E (.ref (He.ga K "NoOctets")) none H') ∧
  (∀ ds, IsTr os ds → ∀ p H', H p = none → Same H H' → H' p = some (.lst (ds.map V.int)) → Q (.ref p) H')
theorem len_read_tree (K : PySem.W.Frag) : ∀ vs H Q E, sp_read_tree K vs H Q E → vs.length = 1 := by
  rintro vs H Q E ⟨x, y, rfl, _⟩; rfl
def t_read_tree (K : PySem.W.Frag) (E : XK) : TS :=
  (tSeq (tAsg (tOp (rIxT K) (tCall (sp_head_of K) [] E (tCons (tVar 0) (tCons (tC (.int 2)) (tCons (tC (.int 3)) tNil)))) (tC (.int 0))) (gName 1))
  (tSeq (tIfS (tTest (tOp rNe (tCB (rLen K) (tCons (tVar 0) tNil)) (tOp rPlus (tOp rPlus (tC (.int 3)) (tCall (sp_row_long K) [] E0 (tCons (tVar 1) tNil))) (tOp rTimes (tC (.int 2)) (tCall (sp_blocks_for K) [] E0 (tCons (tVar 1) tNil))))))
  (tRz (fun cls d _ H => E cls d H) (He.ga K "NoOctets"))
  tNext)
  (tSeq (tAsg (tCall (sp_unpacked K) [] E (tCons (tCall (sp_numbers_of K) [] E0 (tCons (tSl (rSlL K) (tVar 0) (tPart (tC (.int 3))) (tPart (tOp rPlus (tC (.int 3)) (tOp rTimes (tC (.int 4)) (tCall (sp_blocks_for K) [] E0 (tCons (tVar 1) tNil)))))) (tCons (tC (.int 4)) tNil))) (tCons (tVar 1) tNil))) (gName 2))
  (tSeq (tIfS (tNot (tB (tCall (sp_is_tree K) [] E0 (tCons (tVar 2) tNil))))
  (tRz (fun cls d _ H => E cls d H) (He.ga K "NoOctets"))
  tNext)
  (tSeq (tAsg (tCall (sp_depths_of K) [] E (tCons (tVar 2) tNil)) (gName 3))
  (tSeq (tDrop (tCall (sp_same_again K) [] E (tCons (tVar 0) (tCons (tCall (sp_tree_octets K) [] E (tCons (tVar 3) tNil)) tNil))))
  (tRet (tVar 3))))))))
abbrev n_read_tree : List Str := ["octets", "many", "bits", "depths"]

theorem rd_read_tree (K : PySem.W.Frag) (vs : List V) (H : Hp) (Q : VK) (E : XK) (h : sp_read_tree K vs H Q E) : t_read_tree K E { nx := fun _ H' => Q .non H', rt := Q } (start n_read_tree vs) H := by
  obtain ⟨a, os, rfl, hS, hl, q1, q2⟩ := h
  unfold t_read_tree
  walk_at "st"
  have known : ∀ ds, IsTr os ds → (brk ds).length ≤ 4096 ∧ Bits (brk ds) ∧ os.length = 5 + 8 * (((brk ds).length + 31) / 32) ∧ Octs os ∧ os.getD 0 0 = 2 ∧ num ((os.take 3).drop 1) = ((brk ds).length : Int) := by
    rintro ds ⟨hD, hd, rfl⟩
    have hb := brk_len hD
    refine ⟨by omega, (brk_tree hD).2, treeO_len' _, treeO_oct _, rfl, ?_⟩
    rw [treeO_lay]; exact lay_many (by omega)
  refine ⟨a, os, 2, 3, rfl, hS, by decide, by decide, hl, fun H' s' c => q1 H' s' ?_, fun h1 h2 h3 h4 pt H1 hpt s1 e1 => ?_⟩
  · intro ds hR
    obtain ⟨k1, k2, k3, k4, k5, k6⟩ := known ds hR
    rcases c with c | c | c | c
    · omega
    · exact c k4
    · exact c k5
    · omega
  walk_at "st"
  refine k_ixT (.of e1) (at_int (by decide) rfl) ?_
  have o1 : Octs ((os.take 3).drop 1) := fun z hz => h2 z (List.mem_of_mem_take (List.mem_of_mem_drop hz))
  obtain ⟨r0, _⟩ := num_range _ o1
  obtain ⟨m, hm⟩ := Int.eq_ofNat_of_zero_le r0
  have hmany : ∀ ds, IsTr os ds → (brk ds).length = m := fun ds hR => by
    have := (known ds hR).2.2.2.2.2
    omega
  rw [hm] at h4
  rw [hm]
  clear r0 o1
  walk_at "st"
  refine k_lenL (s1.seq hS) ?_
  walk_at "st"
  refine ⟨_, rfl, ?_⟩
  walk_at "st"
  refine ⟨_, rfl, ?_⟩
  walk_at "st"
  rw [List.length_map]
  walk_at "if" <;> intro c1
  · walk_at "st"
    refine q1 H1 s1 ?_
    intro ds hR
    have := hmany ds hR
    have e := (known ds hR).2.2.1
    rw [this] at e
    omega
  have hlen : os.length = 5 + 8 * ((m + 31) / 32) := by omega
  walk_at "st"
  refine ⟨_, rfl, ?_⟩
  walk_at "st"
  refine k_slL (s1.seq hS) fun l1 hl1 => ?_
  rw [show (3 : Int) + 4 * ((((m : Nat) : Int) + 31) / 32) = ((3 + 4 * ((m + 31) / 32) : Nat) : Int) by omega, show (3 : Int) = ((3 : Nat) : Int) from rfl, cutPart, ← List.map_take, ← List.map_drop]
  have oB : Octs ((os.take (3 + 4 * ((m + 31) / 32))).drop 3) := fun z hz => h2 z (List.mem_of_mem_take (List.mem_of_mem_drop hz))
  have lB : ((os.take (3 + 4 * ((m + 31) / 32))).drop 3).length = 4 * ((m + 31) / 32) := by rw [List.length_drop, List.length_take]; omega
  have hbits : ∀ ds, IsTr os ds → unp (numsO ((os.take (3 + 4 * ((m + 31) / 32))).drop 3) 4 ((m + 31) / 32)) m = brk ds := fun ds hR => by
    have e := hmany ds hR
    have kB := (known ds hR).2.1
    obtain ⟨hD, hd, rfl⟩ := hR
    rw [← e, treeO_lay]; exact lay_bits kB
  generalize (os.take (3 + 4 * ((m + 31) / 32))).drop 3 = mid at oB lB hbits ⊢
  have s2 := s1.trans (same_new (o := .lst (mid.map V.int)) hl1)
  have e2 := upd_same (H := H1) (a := l1) (o := .lst (mid.map V.int))
  generalize upd H1 l1 (.lst (mid.map V.int)) = H2 at s2 e2 ⊢
  walk_at "st"
  refine ⟨l1, mid, 4, (m + 31) / 32, rfl, .of e2, .inr (.inl rfl), lB, by omega, oB, fun p3 H3 hp3 s3 e3 => ?_⟩
  walk_at "st"
  refine ⟨p3, _, m, rfl, .of e3, by rw [numsO_len]; omega, fun c => ?_, fun _ _ p4 H4 hp4 s4 e4 => ?_⟩
  · rw [numsO_len] at c; omega
  rw [Int.toNat_natCast] at e4
  have hub := unp_bits (numsO mid 4 ((m + 31) / 32)) m
  have hul := unp_len (numsO mid 4 ((m + 31) / 32)) m
  generalize unp (numsO mid 4 ((m + 31) / 32)) m = bs at e4 hub hul hbits
  have s14 := (s2.trans s3).trans s4
  walk_at "st"
  refine ⟨p4, bs, rfl, .of e4, by omega, fun b H5 hb s5 => ?_⟩
  have s15 := s14.trans s5
  cases b with
  | false =>
    walk_at "st"
    refine q1 H5 s15 fun ds hR => ?_
    have hT := (brk_tree hR.1).1
    rw [← hbits ds hR] at hT
    have := hb.mpr hT
    cases this
  | true =>
  have hT := hb.mp rfl
  walk_at "st"
  refine ⟨p4, bs, rfl, .of (s5.get e4), by omega, fun c => by omega, fun _ c => absurd hub c, fun _ _ c => absurd hT c, fun _ _ _ p6 H6 hp6 s6 e6 => ?_⟩
  obtain ⟨hD, hbb⟩ := dep_back hub hT
  have hp6H := s15.gone _ hp6
  have hds : ∀ ds, IsTr os ds → depTo bs bs.length = ds := fun ds hR => by
    rw [hbits ds hR]; exact dep_of_brk hR.1
  generalize depTo bs bs.length = ds at e6 hD hbb hds
  have hdl := brk_len hD
  rw [hbb] at hdl
  walk_at "st"
  refine ⟨p6, ds, rfl, .of e6, by omega, fun c => by omega, fun _ c => absurd hD c, fun _ _ p7 H7 hp7 s7 e7 => ?_⟩
  walk_at "st"
  have s17 := (s15.trans s6).trans s7
  refine ⟨a, p7, os, treeO (brk ds), rfl, s17.seq hS, .of e7, fun c => q1 H7 s17 fun es hR => c ?_, fun c => ?_⟩
  · rw [hds es hR]; exact hR.2.2
  walk_at "st"
  exact q2 ds ⟨hD, by omega, c⟩ p6 H7 hp6H s17 (s7.get e6)

theorem newOf_mono {H Ha Hb H' : Hp} (s : Same H Ha) (s2 : Same Hb H') : LamX.ExtN (newOf Ha Hb) (newOf H H') := fun b o e n => by
  have e2 : H' b = some o := s2.extN b o (newOf_sub e) n
  by_cases h : Ha b = none
  · rw [newOf_new (s.gone _ h)]; exact e2
  · obtain ⟨φ, rfl⟩ := newOf_old e h
    exact newOf_ext e2
/-- opened_tree(octets) -/
def sp_opened_tree (K : PySem.W.Frag) (CL : CLs) : Sp := fun vs H Q E => ∃ (a : Addr) (os : List Int), vs = [.ref a] ∧ SqL K H a (os.map V.int) ∧ os.length ≤ 100000 ∧ NdefX.TabN H (tabP K "look_of") nmL ∧
  (∀ H', Same H H' → (∀ ds, ¬ IsTr os ds) → E (.ref (He.ga K "NoOctets")) none H') ∧
  (∀ ds, IsTr os ds → ∀ p t g pa ph H', H p = none → Same H H' → H' p = some (.tup [.ref t, .ref g]) → H' t = some (.tup [.int ((brk ds).length : Int), .ref pa, .ref ph]) → H' pa = some (.tup ((aheadT (brk ds)).map V.int)) → H' ph = some (.tup (heapL (lowsOf (brk ds)))) → PureLook CL 1 g ((blks (brk ds)).map V.int) (newOf H H') → Q (.ref p) H')
theorem len_opened_tree (K : PySem.W.Frag) (CL : CLs) : ∀ vs H Q E, sp_opened_tree K CL vs H Q E → vs.length = 1 := by
  rintro vs H Q E ⟨x, y, rfl, _⟩; rfl
def t_opened_tree (K : PySem.W.Frag) (CL : CLs) (E : XK) : TS :=
  (tSeq (tAsg (tCall (sp_kept_tree K) [] E (tCons (tCall (sp_read_tree K) [] E (tCons (tVar 0) tNil)) tNil)) (gTup K 2 (gCons (gName 1) (gCons (gName 2) gNil))))
  (tRet (tTup (tCons (tVar 1) (tCons (tCall (sp_look_of K CL) [] E0 (tCons (tVar 2) tNil)) tNil)))))
abbrev n_opened_tree : List Str := ["octets", "tables", "blocks"]

theorem rd_opened_tree (K : PySem.W.Frag) (CL : CLs) (vs : List V) (H : Hp) (Q : VK) (E : XK) (h : sp_opened_tree K CL vs H Q E) : t_opened_tree K CL E { nx := fun _ H' => Q .non H', rt := Q } (start n_opened_tree vs) H := by
  obtain ⟨a, os, rfl, hS, hl, hT, q1, q2⟩ := h
  unfold t_opened_tree
  walk_at "st"
  refine ⟨a, os, rfl, hS, hl, q1, fun ds hR p1 H1 hp1 s1 e1 => ?_⟩
  have hdl := hR.2.1
  walk_at "st"
  refine ⟨p1, ds, rfl, .of e1, by omega, fun c => by omega, fun _ c => absurd hR.1 c, fun _ _ p2 t pa ph pb H2 hp2 hpb s2 e2 et ea eh eb => ?_⟩
  walk_at "st"
  refine m_gTup (.of e2) rfl ?_
  have s12 := s1.trans s2
  walk_at "st"
  refine ⟨pb, _, rfl, .of eb, s12.tabs _ hT, fun g H3 hg s3 lk => ?_⟩
  walk_at "st"
  intro p hp
  have s4 := same_new (o := .tup [.ref t, .ref g]) hp
  have s13 := s12.trans s3
  exact q2 ds hR p t g pa ph _ (s13.gone _ hp) (s13.trans s4) upd_same ((s3.trans s4).get et) ((s3.trans s4).get ea) ((s3.trans s4).get eh) (lk.ext (newOf_mono s12 s4))

/-! a block as octets -/
theorem blk_split : ∀ {bs : List Int} (k : Nat), Bits bs → blk bs / 2 ^ k = blk (bs.drop k) ∧ blk bs % 2 ^ k = blk (bs.take k)
  | bs, 0, _ => ⟨by rw [List.drop_zero]; simp, by rw [List.take_zero]; simp [blk]⟩
  | [], k + 1, _ => ⟨by rw [List.drop_nil]; simp [blk], by rw [List.take_nil]; simp [blk]⟩
  | b :: bs, k + 1, h => by
    have hb := h b List.mem_cons_self
    obtain ⟨h1, h2⟩ := blk_split (bs := bs) k fun x hx => h x (List.mem_cons_of_mem _ hx)
    have e : blk (b :: bs) = b + 2 * blk bs := rfl
    have p : (0 : Int) < 2 ^ k := Int.pow_pos (by decide)
    have d := Int.emod_add_mul_ediv (blk bs) (2 ^ k)
    have l := Int.emod_lt_of_pos (blk bs) p
    have n := Int.emod_nonneg (blk bs) (show (2 : Int) ^ k ≠ 0 by omega)
    rw [List.drop_succ_cons, List.take_succ_cons, ← h1, show blk (b :: bs.take k) = b + 2 * blk (bs.take k) from rfl, ← h2, e]
    generalize blk bs = x at d l n ⊢
    generalize x / 2 ^ k = u at d ⊢
    generalize x % 2 ^ k = v at d l n ⊢
    have hp : (2 : Int) ^ (k + 1) = 2 * 2 ^ k := by rw [Int.pow_succ, Int.mul_comm]
    rw [hp]
    generalize (2 : Int) ^ k = m at *
    have e2 : b + 2 * x = (b + 2 * v) + (2 * m) * u := by rw [← d, Int.mul_assoc]; omega
    rw [e2]
    constructor
    · rw [Int.add_mul_ediv_left _ _ (by omega), Int.ediv_eq_zero_of_lt (by omega) (by omega)]; omega
    · rw [Int.add_mul_emod_self_left, Int.emod_eq_of_lt (by omega) (by omega)]
/-- the octet i of a row's bits -/
def octAt (bs : List Int) (i : Nat) : Int := blk ((bs.drop (8 * i)).take 8)
theorem octs_blk {bs : List Int} (h : Bits bs) (m : Nat) : octs (blk bs) m = (List.range m).map (octAt bs) := by
  unfold octs
  refine List.map_congr_left fun i _ => ?_
  rw [pow256, (blk_split (8 * i) h).1, show (256 : Int) = 2 ^ 8 by decide, (blk_split 8 (h.drop _)).2]; rfl
theorem octAt_drop (bs : List Int) (n i : Nat) : octAt (bs.drop (8 * n)) i = octAt bs (n + i) := by
  unfold octAt
  rw [List.drop_drop]; congr 3; omega
theorem octAt_take32 (bs : List Int) {i : Nat} (hi : i < 4) : octAt (bs.take 32) i = octAt bs i := by
  unfold octAt
  rw [List.drop_take, List.take_take]; congr 2; omega
theorem octAt_nil {bs : List Int} {i : Nat} (h : bs.length ≤ 8 * i) : octAt bs i = 0 := by
  unfold octAt; rw [List.drop_of_length_le h]; rfl
/-- the blocks' octets are the row's bits, by eight -/
theorem fldO_blks {bs : List Int} (h : Bits bs) : ∀ n : Nat, fldO (blksN bs n) 4 = (List.range (4 * n)).map (octAt bs) := by
  intro n
  induction n generalizing bs with
  | zero => rfl
  | succ n ih =>
    show octs (blk (bs.take 32)) 4 ++ fldO (blksN (bs.drop 32) n) 4 = _
    rw [octs_blk (h.take 32), ih (h.drop 32), show 4 * (n + 1) = 4 + 4 * n by omega, List.range_add, List.map_append]
    congr 1
    · refine List.map_congr_left fun i hi => ?_
      exact octAt_take32 bs (List.mem_range.mp hi)
    · rw [List.map_map]
      refine List.map_congr_left fun i _ => ?_
      rw [show (32 : Nat) = 8 * 4 from rfl, octAt_drop]; rfl
theorem fldO_two (ns : List Int) : fldO ns 2 = (ns.map fun n => ([n % 256, n / 256 % 256] : List Int)).flatten := by
  unfold fldO
  congr 1
  refine List.map_congr_left fun n _ => ?_
  show [n / 256 ^ 0 % 256, n / 256 ^ 1 % 256] = _
  simp

theorem rgC_32 {n : Nat} (hn : n ≤ 100000) : RgC 0 (n : Int) 32 ((n + 31) / 32) := by
  have e : Builtin.Range.rangeSize 0 (n : Int) 32 = (((n + 31) / 32 : Nat) : Int) := by
    rw [PyProof.Rows.rangeSize_pos (by decide) (by omega)]; omega
  refine ⟨by decide, by decide, ?_, e⟩
  unfold Builtin.Range.small
  rw [e]
  have f : ∀ i : Int, 0 ≤ i → i < 1000000 → Builtin.Range.rangeFitsLong i = true := fun i h0 h1 => by
    unfold Builtin.Range.rangeFitsLong
    rw [Bool.and_eq_true]
    exact ⟨decide_eq_true (by omega), decide_eq_true (by omega)⟩
  rw [f 0 (by decide) (by decide), f n (by omega) (by omega), f 32 (by decide) (by decide), f _ (by omega) (by omega), if_pos (by decide), f _ (by omega) (by omega)]
  simp

/-- _law_two(number), of any number -/
def sp_law_two (_ : PySem.W.Frag) : Sp := fun vs H Q _ => ∃ n : Int, vs = [.int n] ∧ ∀ p H', H p = none → Same H H' → H' p = some (.lst ((octs n 2).map V.int)) → Q (.ref p) H'
theorem len_law_two (K : PySem.W.Frag) : ∀ vs H Q E, sp_law_two K vs H Q E → vs.length = 1 := by
  rintro vs H Q E ⟨x, rfl, _⟩; rfl
def t_law_two (K : PySem.W.Frag) : TS :=
  (tRet (tLst (tCons (tOp rMod (tVar 0) (tC (.int 256))) (tCons (tOp rMod (tOp rDiv (tVar 0) (tC (.int 256))) (tC (.int 256))) tNil))))
abbrev n_law_two : List Str := ["_law_number"]

theorem rd_law_two (K : PySem.W.Frag) (vs : List V) (H : Hp) (Q : VK) (E : XK) (h : sp_law_two K vs H Q E) : t_law_two K { nx := fun _ H' => Q .non H', rt := Q } (start n_law_two vs) H := by
  obtain ⟨n, rfl, q⟩ := h
  unfold t_law_two
  walk_at "st"
  intro p hp
  refine q p _ hp (same_new hp) ?_
  rw [upd_same]
  show _ = some (HO.lst (([n / 256 ^ 0 % 256, n / 256 ^ 1 % 256] : List Int).map V.int))
  rw [show n / 256 ^ 0 % 256 = n % 256 by simp, show n / 256 ^ 1 % 256 = n / 256 % 256 by rw [Int.pow_succ, Int.pow_zero, Int.one_mul]]; rfl
theorem rgC_8 {n : Nat} (hn : n ≤ 100000) : RgC 0 (n : Int) 8 ((n + 7) / 8) := by
  have e : Builtin.Range.rangeSize 0 (n : Int) 8 = (((n + 7) / 8 : Nat) : Int) := by
    rw [PyProof.Rows.rangeSize_pos (by decide) (by omega)]; omega
  refine ⟨by decide, by decide, ?_, e⟩
  unfold Builtin.Range.small
  rw [e]
  have f : ∀ i : Int, 0 ≤ i → i < 1000000 → Builtin.Range.rangeFitsLong i = true := fun i h0 h1 => by
    unfold Builtin.Range.rangeFitsLong
    rw [Bool.and_eq_true]
    exact ⟨decide_eq_true (by omega), decide_eq_true (by omega)⟩
  rw [f 0 (by decide) (by decide), f n (by omega) (by omega), f 8 (by decide) (by decide), f _ (by omega) (by omega), if_pos (by decide), f _ (by omega) (by omega)]
  simp

/-- the least height of a block, 4096 at most -/
def lowC (bs : List Int) (i : Nat) : Int := if 4096 < lowOf bs i then 4096 else lowOf bs i
def lowsC (bs : List Int) : List Int := (List.range ((bs.length + 31) / 32)).map (lowC bs)
theorem lowsC_len (bs : List Int) : (lowsC bs).length = (bs.length + 31) / 32 := by unfold lowsC; simp
theorem lowsC_get (bs : List Int) {i : Nat} (h : i < (bs.length + 31) / 32) : (lowsC bs)[i]? = some (lowC bs i) := by
  unfold lowsC; rw [List.getElem?_map, List.getElem?_range h]; rfl
theorem low_isC {bs : List Int} {i c : Nat} {lo : Int} (hB : Bits bs) (hi : i < (bs.length + 31) / 32) (hc : c = min 32 (bs.length - 32 * i)) (l1 : lo ≤ 4096) (l2 : ∀ m, 32 * i < m → m ≤ 32 * i + c → lo ≤ hgt bs m) (l3 : lo = 4096 ∨ ∃ m, 32 * i < m ∧ m ≤ 32 * i + c ∧ lo = hgt bs m) : lo = lowC bs i := by
  obtain ⟨⟨kk, k1, k2, k3, k4⟩, k5⟩ := lowOf_is hB hi
  have h1 : kk ≤ 32 * i + c := by rw [hc]; clear l3 l2 k5; omega
  have q1 := l2 kk k1 h1
  unfold lowC
  rcases l3 with l3 | ⟨m, m1, m2, m3⟩
  · clear k5 l2; split <;> omega
  · have h2 : m ≤ 32 * i + 32 ∧ m ≤ bs.length := by rw [hc] at m2; clear l2 k5; omega
    have := k5 m m1 h2.1 h2.2
    clear k5 l2; split <;> omega
/-- brackets as octets -/
def treeC (bs : List Int) : List Int := 2 :: (fldO [(bs.length : Int)] 2 ++ fldO (blks bs) 4 ++ fldO (aheadT bs) 2 ++ fldO (lowsC bs) 2)
theorem lowOf_most {bs : List Int} {i : Nat} (hB : Bits bs) (hi : i < (bs.length + 31) / 32) (hl : bs.length ≤ 4096) : lowOf bs i ≤ 4096 := by
  obtain ⟨⟨kk, k1, k2, k3, k4⟩, _⟩ := lowOf_is hB hi
  have := sumTo_range hB kk
  rw [k4]; unfold hgt; omega
theorem treeC_O {bs : List Int} (hB : Bits bs) (hl : bs.length ≤ 4096) : treeC bs = treeO bs := by
  unfold treeC treeO
  congr 3
  refine List.ext_getElem? fun i => ?_
  rcases Nat.lt_or_ge i ((bs.length + 31) / 32) with h | h
  · rw [lowsC_get bs h, lowsOf_get bs h]
    unfold lowC
    rw [if_neg (by have := lowOf_most hB h hl; omega)]
  · rw [List.getElem?_eq_none (by rw [lowsC_len]; exact h), List.getElem?_eq_none (by rw [lowsOf_len]; exact h)]
theorem treeC_len (bs : List Int) : (treeC bs).length = 5 + 8 * ((bs.length + 31) / 32) := by
  unfold treeC
  rw [List.length_cons, List.length_append, List.length_append, List.length_append, fldO_len, fldO_len, fldO_len, fldO_len, blks_len, aheadT_len, lowsC_len, List.length_singleton]; omega
/-- _law_written(bits) -/
def sp_law_written (K : PySem.W.Frag) : Sp := fun vs H Q _ => ∃ (a : Addr) (bs : List Int), vs = [.ref a] ∧ H a = some (.lst (bs.map V.int)) ∧ Bits bs ∧ bs.length ≤ 5000 ∧ ∀ p H', H p = none → Same H H' → H' p = some (.lst ((treeC bs).map V.int)) → Q (.ref p) H'
theorem len_law_written (K : PySem.W.Frag) : ∀ vs H Q E, sp_law_written K vs H Q E → vs.length = 1 := by
  rintro vs H Q E ⟨x, y, rfl, _⟩; rfl
def t_law_written (K : PySem.W.Frag) : TS :=
  (tSeq (tAsg (tLst tNil) (gName 1))
  (tSeq (tFor (iRng3 (tCons (tC (.int 0)) (tCons (tCB (rLen K) (tCons (tVar 0) tNil)) (tCons (tC (.int 8)) tNil)))) (gName 2)
  (tSeq (tAsg (tC (.int 0)) (gName 3))
  (tSeq (tFor (iRev K (tCons (tSl (rSlL K) (tVar 0) (tPart (tVar 2)) (tPart (tOp rPlus (tVar 2) (tC (.int 8))))) tNil)) (gName 4)
  (tAsg (tOp rPlus (tOp rTimes (tC (.int 2)) (tVar 3)) (tVar 4)) (gName 3)))
  (tDrop (tBM K "list" rAppend (tVar 1) (tCons (tVar 3) tNil))))))
  (tSeq (tWhile (tTest (tOp rNe (tOp rMod (tCB (rLen K) (tCons (tVar 1) tNil)) (tC (.int 4))) (tC (.int 0))))
  (tDrop (tBM K "list" rAppend (tVar 1) (tCons (tC (.int 0)) tNil))))
  (tSeq (tDrop (tBM K "list" rExtend (tVar 1) (tCons (tLst (tCons (tC (.int 0)) (tCons (tC (.int 0)) tNil))) tNil)))
  (tSeq (tAsg (tC (.int 0)) (gName 5))
  (tSeq (tAsg (tLst tNil) (gName 6))
  (tSeq (tFor (iRng3 (tCons (tC (.int 0)) (tCons (tCB (rLen K) (tCons (tVar 0) tNil)) (tCons (tC (.int 32)) tNil)))) (gName 2)
  (tSeq (tAsg (tC (.int 4096)) (gName 7))
  (tSeq (tAsg (tVar 2) (gName 8))
  (tSeq (tFor (iList K (tSl (rSlL K) (tVar 0) (tPart (tVar 2)) (tPart (tOp rPlus (tVar 2) (tC (.int 32)))))) (gName 4)
  (tSeq (tAsg (tOp rPlus (tVar 5) (tVar 4)) (gName 5))
  (tSeq (tAsg (tOp rPlus (tVar 8) (tC (.int 1))) (gName 8))
  (tAsg (tCB rMin2 (tCons (tVar 7) (tCons (tOp rMinus (tOp rTimes (tC (.int 2)) (tVar 5)) (tVar 8)) tNil))) (gName 7)))))
  (tSeq (tDrop (tBM K "list" rExtend (tVar 1) (tCons (tCall (sp_law_two K) [] E0 (tCons (tVar 5) tNil)) tNil)))
  (tDrop (tBM K "list" rExtend (tVar 6) (tCons (tCall (sp_law_two K) [] E0 (tCons (tVar 7) tNil)) tNil))))))))
  (tRet (tOp rCat (tOp rCat (tOp rCat (tLst (tCons (tC (.int 2)) tNil)) (tCall (sp_law_two K) [] E0 (tCons (tCB (rLen K) (tCons (tVar 0) tNil)) tNil))) (tVar 1)) (tVar 6))))))))))
abbrev n_law_written : List Str := ["_law_bits_here", "_law_octets_here", "_law_start", "_law_octet", "_law_bit", "_law_ones", "_law_lows", "_law_low", "_law_at"]

theorem rd_law_written (K : PySem.W.Frag) (vs : List V) (H : Hp) (Q : VK) (E : XK) (h : sp_law_written K vs H Q E) : t_law_written K { nx := fun _ H' => Q .non H', rt := Q } (start n_law_written vs) H := by
  obtain ⟨a, bs, rfl, ha, hB, hl, q⟩ := h
  unfold t_law_written
  walk_at "st"
  intro p hp
  have s0 := same_new (o := .lst []) hp
  have e0 := upd_same (H := H) (a := p) (o := .lst [])
  generalize upd H p (.lst []) = H1 at s0 e0 ⊢
  walk_at "st"
  refine k_lenL (.of (s0.get ha)) ?_
  walk_at "st"
  rw [List.length_map]
  refine m_rng3e (rgC_8 (by omega)) ?_
  refine loop_walk walk_rangeC (fun i σ H2 => ∃ v2 v3 v4, i ≤ (bs.length + 7) / 8 ∧ Same H H2 ∧ H2 p = some (.lst (((List.range i).map (octAt bs)).map V.int)) ∧ σ = [some (.ref a), some (.ref p), v2, v3, v4, none, none, none, none]) ⟨none, none, none, Nat.zero_le _, s0, e0, rfl⟩ (fun _ _ _ _ => trivial) ?_ ?_
  · rintro i x σ H2 H3 hi ⟨v2, v3, v4, _, s, e, rfl⟩ ⟨hH, rfl⟩
    subst hH
    dsimp only
    rw [show (0 : Int) + ((i : Nat) : Int) * 8 = ((8 * i : Nat) : Int) by omega]
    walk_at "st"
    refine k_slL (.of (s.get ha)) fun p1 hp1 => ?_
    rw [show ((8 * i : Nat) : Int) + 8 = ((8 * i + 8 : Nat) : Int) by omega, cutPart, ← List.map_take, ← List.map_drop, show (bs.take (8 * i + 8)).drop (8 * i) = (bs.drop (8 * i)).take 8 by rw [List.drop_take]; congr 1; omega]
    obtain ⟨cs, ecs⟩ : ∃ cs, cs = (bs.drop (8 * i)).take 8 := ⟨_, rfl⟩
    have eo : octAt bs i = blk cs := by rw [ecs]; rfl
    rw [← ecs]
    have s1 := same_new (o := .lst (cs.map V.int)) hp1
    have e1 := upd_same (H := H3) (a := p1) (o := .lst (cs.map V.int))
    have ex := s1.get e
    generalize upd H3 p1 (.lst (cs.map V.int)) = H4 at s1 e1 ex ⊢
    walk_at "st"
    refine m_revE (.of e1) ?_
    rw [List.length_map]
    refine loop_walk (n := cs.length) (by have := walk_rev (K := K) (a := p1) (xs := cs.map V.int); rw [List.length_map] at this; exact this) (fun k σ H5 => ∃ y, H4 = H5 ∧ k ≤ cs.length ∧ σ = [some (.ref a), some (.ref p), some (.int ((8 * i : Nat) : Int)), some (.int (blk (cs.drop (cs.length - k)))), y, none, none, none, none]) ⟨_, rfl, Nat.zero_le _, by rw [Nat.sub_zero, List.drop_length]; rfl⟩ (fun k σ H5 ⟨_, e, _⟩ => by rw [← e]; exact SqL.of e1) ?_ ?_
    · rintro k v σ H5 H6 hlt ⟨y, rfl, hk, rfl⟩ ⟨rfl, hv⟩
      obtain ⟨b, hb, rfl⟩ := of_mapint hv
      have hk2 : cs.length - 1 - k < cs.length := by omega
      have ed : cs.drop (cs.length - (k + 1)) = b :: cs.drop (cs.length - k) := by
        rw [show cs.length - (k + 1) = cs.length - 1 - k by omega, List.drop_eq_getElem_cons hk2, show cs.length - 1 - k + 1 = cs.length - k by omega]
        congr 1
        exact (List.getElem?_eq_some_iff.mp hb).2
      walk_at "st"
      refine ⟨some (.int b), rfl, by omega, ?_⟩
      rw [ed, show blk (b :: cs.drop (cs.length - k)) = 2 * blk (cs.drop (cs.length - k)) + b by show b + 2 * _ = _; omega]; rfl
    · rintro σ H5 ⟨y, rfl, _, rfl⟩
      rw [Nat.sub_self, List.drop_zero]
      walk_at "st"
      refine k_tyL (.of ex) ?_
      walk_at "st"
      refine k_app ex (by rw [List.length_map, List.length_map, List.length_range]; omega) ?_
      refine ⟨_, _, _, hi, Same.mut (s.trans s1) hp ⟨_, ex⟩, ?_, rfl⟩
      rw [upd_same, ← eo, List.range_succ, List.map_append, List.map_append]; rfl
  rintro σ H2 ⟨v2, v3, v4, _, s, e, rfl⟩
  walk_at "st"
  refine loop_while (fun m σ H3 => ∃ k : Nat, m = 4 * ((bs.length + 31) / 32) - k ∧ (bs.length + 7) / 8 ≤ k ∧ k ≤ 4 * ((bs.length + 31) / 32) ∧ Same H H3 ∧ H3 p = some (.lst (((List.range k).map (octAt bs)).map V.int)) ∧ σ = [some (.ref a), some (.ref p), v2, v3, v4, none, none, none, none]) (4 * ((bs.length + 31) / 32) - (bs.length + 7) / 8) ⟨(bs.length + 7) / 8, rfl, Nat.le_refl _, by omega, s, e, rfl⟩ ?_
  rintro m σ H3 ⟨k, rfl, hk1, hk2, s, e, rfl⟩
  walk_at "st"
  refine k_lenL (.of e) ?_
  walk_at "st"
  rw [List.length_map, List.length_map, List.length_range]
  walk_at "if" <;> intro c
  · refine m_wbody ?_
    walk_at "st"
    refine k_tyL (.of e) ?_
    walk_at "st"
    refine k_app e (by rw [List.length_map, List.length_map, List.length_range]; omega) ?_
    refine ⟨4 * ((bs.length + 31) / 32) - (k + 1), by omega, k + 1, rfl, by omega, by omega, Same.mut s hp ⟨_, e⟩, ?_, rfl⟩
    rw [upd_same, List.range_succ, List.map_append, List.map_append]
    show _ = some (HO.lst (_ ++ [V.int (octAt bs k)]))
    rw [octAt_nil (show bs.length ≤ 8 * k by omega)]
  obtain rfl : k = 4 * ((bs.length + 31) / 32) := by omega
  obtain ⟨E, eE⟩ : ∃ E, E = (List.range (4 * ((bs.length + 31) / 32))).map (octAt bs) := ⟨_, rfl⟩
  have eEl : E.length = 4 * ((bs.length + 31) / 32) := by rw [eE, List.length_map, List.length_range]
  have eEb : fldO (blks bs) 4 = E := by rw [eE]; exact fldO_blks hB _
  rw [← eE] at e
  walk_at "st"
  refine k_tyL (.of e) ?_
  walk_at "st"
  intro p4 hp4
  have s4 := same_new (o := .lst [.int 0, .int 0]) hp4
  have e4 := upd_same (H := H3) (a := p4) (o := .lst [.int 0, .int 0])
  have ex := s4.get e
  generalize upd H3 p4 (.lst [.int 0, .int 0]) = H4 at s4 e4 ex ⊢
  walk_at "st"
  refine k_extend ex e4 (by rw [List.length_map]; simp only [List.length_cons, List.length_nil]; omega) ?_
  have s5 : Same H (upd H4 p (.lst (E.map V.int ++ [V.int 0, V.int 0]))) := Same.mut (s.trans s4) hp ⟨_, ex⟩
  have e5 := upd_same (H := H4) (a := p) (o := .lst (E.map V.int ++ [V.int 0, V.int 0]))
  rw [show E.map V.int ++ [V.int 0, V.int 0] = (E ++ fldO (aheadN bs 1) 2).map V.int by rw [List.map_append]; rfl] at s5 e5 ⊢
  generalize upd H4 p (.lst ((E ++ fldO (aheadN bs 1) 2).map V.int)) = H5 at s5 e5 ⊢
  walk_at "st"
  intro pw hpw
  obtain ⟨s6, e6⟩ := new_both (o := .lst []) hpw
  have npw : p ≠ pw := ne_of_none e5 hpw
  have e56 := s6.get e5
  have hpwb : H pw = none := s5.gone _ hpw
  generalize upd H5 pw (.lst []) = H6 at s6 e6 e56 ⊢
  have s56 := s5.trans s6
  walk_at "st"
  refine k_lenL (.of (s56.get ha)) ?_
  walk_at "st"
  rw [List.length_map]
  refine m_rng3e (rgC_32 (by omega)) ?_
  refine loop_walk walk_rangeC (fun i σ H6 => ∃ (w4 w6 w9 w10 : Option V), i ≤ (bs.length + 31) / 32 ∧ Same H H6 ∧ H6 p = some (.lst ((E ++ fldO (aheadN bs (i + 1)) 2).map V.int)) ∧ H6 pw = some (.lst ((fldO ((lowsC bs).take i) 2).map V.int)) ∧ σ = [some (.ref a), some (.ref p), w4, v3, w6, some (.int (sumTo bs (32 * i))), some (.ref pw), w9, w10]) ⟨_, _, _, _, Nat.zero_le _, s56, e56, e6, rfl⟩ (fun _ _ _ _ => trivial) ?_ ?_
  · rintro i x σ H6 H7 hi ⟨w4, w6, w9, w10, _, s, e, ew, rfl⟩ ⟨hH, rfl⟩
    subst hH
    dsimp only
    rw [show (0 : Int) + ((i : Nat) : Int) * 32 = ((32 * i : Nat) : Int) by omega]
    walk_at "st"
    refine k_slL (.of (s.get ha)) fun p1 hp1 => ?_
    rw [show ((32 * i : Nat) : Int) + 32 = ((32 * i + 32 : Nat) : Int) by omega, cutPart, ← List.map_take, ← List.map_drop, show (bs.take (32 * i + 32)).drop (32 * i) = (bs.drop (32 * i)).take 32 by rw [List.drop_take]; congr 1; omega]
    obtain ⟨cs, ecs⟩ : ∃ cs, cs = (bs.drop (32 * i)).take 32 := ⟨_, rfl⟩
    have hcl : cs.length = min 32 (bs.length - 32 * i) := by rw [ecs, List.length_take, List.length_drop]
    have hcg : ∀ k b, cs[k]? = some b → bs.getD (32 * i + k) 0 = b := fun k b hb => by
      have hk : k < cs.length := (List.getElem?_eq_some_iff.mp hb).1
      rw [ecs, List.getElem?_take_of_lt (by omega), List.getElem?_drop] at hb
      rw [List.getD_eq_getElem?_getD, hb]; rfl
    rw [← ecs]
    have s1 := same_new (o := .lst (cs.map V.int)) hp1
    have e1 := upd_same (H := H7) (a := p1) (o := .lst (cs.map V.int))
    have ex := s1.get e
    have exw := s1.get ew
    generalize upd H7 p1 (.lst (cs.map V.int)) = H8 at s1 e1 ex exw ⊢
    walk_at "st"
    refine m_iLe (.of e1) ?_
    refine loop_ints (ns := cs) (fun k σ' H9 => ∃ (v6 : Option V) (lo : Int), H8 = H9 ∧ lo ≤ 4096 ∧ (∀ m, 32 * i < m → m ≤ 32 * i + k → lo ≤ hgt bs m) ∧ (lo = 4096 ∨ ∃ m, 32 * i < m ∧ m ≤ 32 * i + k ∧ lo = hgt bs m) ∧ σ' = [some (.ref a), some (.ref p), some (.int ((32 * i : Nat) : Int)), v3, v6, some (.int (sumTo bs (32 * i + k))), some (.ref pw), some (.int lo), some (.int ((32 * i + k : Nat) : Int))]) ⟨_, 4096, rfl, by omega, fun m h1 h2 => by omega, .inl rfl, rfl⟩ (fun k σ' H9 ⟨_, _, z, _⟩ => by rw [← z]; exact .of e1) (fun k n σ' H9 hn ⟨v6, lo, z, l1, l2, l3, es⟩ => ?_) (fun σ' H9 ⟨v6, lo, z, l1, l2, l3, es⟩ => ?_)
    · subst z
      subst es
      walk_at "st"
      have eh : 2 * (sumTo bs (32 * i + k) + n) - (((32 * i + k : Nat) : Int) + 1) = hgt bs (32 * i + (k + 1)) := by
        rw [show 32 * i + (k + 1) = (32 * i + k) + 1 by omega, hgt_succ, hcg k n hn]; unfold hgt; omega
      rw [eh]
      refine ⟨some (.int n), (if hgt bs (32 * i + (k + 1)) < lo then hgt bs (32 * i + (k + 1)) else lo), rfl, ?_, ?_, ?_, ?_⟩
      rotate_right
      · rw [show 32 * i + (k + 1) = (32 * i + k) + 1 by omega, sumTo_succ, hcg k n hn]; rfl
      · split <;> omega
      · intro m h1 h2
        rcases Nat.lt_or_ge m (32 * i + (k + 1)) with h | h
        · have := l2 m h1 (by omega); split <;> omega
        · rw [show m = 32 * i + (k + 1) by omega]; split <;> omega
      · split
        · exact .inr ⟨_, by omega, Nat.le_refl _, rfl⟩
        · rcases l3 with l3 | ⟨m, m1, m2, m3⟩
          · exact .inl l3
          · exact .inr ⟨m, m1, by omega, m3⟩
    · subst z
      subst es
      have hlo := low_isC hB hi hcl l1 l2 l3
      clear l2 l3
      have hsum : sumTo bs (32 * i + cs.length) = sumTo bs (32 * (i + 1)) := by
        rcases Nat.lt_or_ge cs.length 32 with h | h
        · unfold sumTo
          rw [List.take_of_length_le (show bs.length ≤ 32 * i + cs.length by omega), List.take_of_length_le (show bs.length ≤ 32 * (i + 1) by omega)]
        · rw [show 32 * i + cs.length = 32 * (i + 1) by omega]
      rw [hlo, hsum]
      walk_at "st"
      refine k_tyL (.of ex) ?_
      walk_at "st"
      obtain ⟨r1, r2⟩ := sumTo_range hB (32 * (i + 1))
      refine ⟨_, rfl, fun p9 H9 hp9 s9 e9 => ?_⟩
      walk_at "st"
      have hal := fldO_len (aheadN bs (i + 1)) 2
      rw [aheadN_len] at hal
      refine k_extend (s9.get ex) e9 (by rw [List.length_map, List.length_map, List.length_append, octs_len]; omega) ?_
      have sA : Same H (upd H9 p (.lst ((E ++ fldO (aheadN bs (i + 1)) 2).map V.int ++ (octs (sumTo bs (32 * (i + 1))) 2).map V.int))) := Same.mut (s.trans (s1.trans s9)) hp ⟨_, s9.get ex⟩
      have eA := upd_same (H := H9) (a := p) (o := .lst ((E ++ fldO (aheadN bs (i + 1)) 2).map V.int ++ (octs (sumTo bs (32 * (i + 1))) 2).map V.int))
      rw [show (E ++ fldO (aheadN bs (i + 1)) 2).map V.int ++ (octs (sumTo bs (32 * (i + 1))) 2).map V.int = (E ++ fldO (aheadN bs (i + 1 + 1)) 2).map V.int by
        rw [aheadN_succ bs (i + 1), fldO_snoc]
        simp only [List.map_append, List.append_assoc]] at sA eA ⊢
      have eW : (upd H9 p (.lst ((E ++ fldO (aheadN bs (i + 1 + 1)) 2).map V.int))) pw = some (.lst ((fldO ((lowsC bs).take i) 2).map V.int)) := (upd_ne npw.symm).trans (s9.get exw)
      generalize upd H9 p (.lst ((E ++ fldO (aheadN bs (i + 1 + 1)) 2).map V.int)) = HA at sA eA eW ⊢
      walk_at "st"
      refine k_tyL (.of eW) ?_
      walk_at "st"
      refine ⟨_, rfl, fun p10 H10 hp10 s10 e10 => ?_⟩
      walk_at "st"
      have hal2 := fldO_len ((lowsC bs).take i) 2
      rw [List.length_take] at hal2
      refine k_extend (s10.get eW) e10 (by rw [List.length_map, List.length_map, octs_len]; omega) ?_
      refine ⟨_, _, _, _, hi, Same.mut (sA.trans s10) hpwb ⟨_, s10.get eW⟩, (upd_ne npw).trans (s10.get eA), ?_, rfl⟩
      rw [upd_same, List.take_succ, lowsC_get bs hi]
      show _ = some (HO.lst ((fldO ((lowsC bs).take i ++ [lowC bs i]) 2).map V.int))
      rw [fldO_snoc, List.map_append]
  rintro σ H6 ⟨w4, w6, w9, w10, _, s, e, ew, rfl⟩
  rw [List.take_of_length_le (by rw [lowsC_len]; omega)] at ew
  have hal := fldO_len (aheadN bs ((bs.length + 31) / 32 + 1)) 2
  rw [aheadN_len] at hal
  have hal2 := fldO_len (lowsC bs) 2
  rw [lowsC_len] at hal2
  walk_at "st"
  intro p7 hp7
  obtain ⟨s7, e7⟩ := new_both (o := .lst [.int 2]) hp7
  generalize upd _ p7 (.lst [.int 2]) = H7 at s7 e7 ⊢
  have e7 : H7 p7 = some (.lst (([2] : List Int).map V.int)) := e7
  walk_at "st"
  refine k_lenL (.of ((s.trans s7).get ha)) ?_
  walk_at "st"
  rw [List.length_map]
  refine ⟨_, rfl, fun p8 H8 hp8 s8 e8 => ?_⟩
  walk_at "st"
  refine k_catI (s8.get e7) e8 (by rw [octs_len, List.length_singleton]; omega) fun p9 H9 hp9 s9 e9 => ?_
  walk_at "st"
  have s79 := (s7.trans s8).trans s9
  refine k_catI e9 (s79.get e) (by rw [List.length_append, List.length_append, octs_len, List.length_singleton]; omega) fun p10 H10 hp10 s10 e10 => ?_
  walk_at "st"
  refine k_catI e10 ((s79.trans s10).get ew) (by rw [List.length_append, List.length_append, List.length_append, octs_len, List.length_singleton]; omega) fun p11 H11 hp11 s11 e11 => ?_
  have sz := s.trans (s79.trans s10)
  refine q p11 H11 (sz.gone _ hp11) (sz.trans s11) ?_
  rw [e11]
  unfold treeC
  rw [eEb, show fldO [(bs.length : Int)] 2 = octs (bs.length : Int) 2 by unfold fldO; simp]
  simp only [List.append_assoc, List.cons_append, List.nil_append]
  rfl

--#base
/-- an octet's bits -/
def b8 (o : Int) : List Int := (List.range 8).map (bit o)
def dec8 (L : List Int) : List Int := (L.map b8).flatten
theorem b8_len (o : Int) : (b8 o).length = 8 := by unfold b8; simp
theorem b8_bits (o : Int) : Bits (b8 o) := fun x hx => by
  obtain ⟨k, _, rfl⟩ := List.mem_map.mp hx
  exact bit_cases o k
theorem dec8_bits (L : List Int) : Bits (dec8 L) := fun x hx => by
  obtain ⟨l, hl, hx⟩ := List.mem_flatten.mp hx
  obtain ⟨o, _, rfl⟩ := List.mem_map.mp hl
  exact b8_bits o x hx
theorem dec8_len (L : List Int) : (dec8 L).length = 8 * L.length := by
  induction L with
  | nil => rfl
  | cons o L ih =>
    show (b8 o ++ dec8 L).length = 8 * (L.length + 1)
    rw [List.length_append, b8_len, ih]; omega
theorem dec8_snoc (L : List Int) (o : Int) : dec8 (L ++ [o]) = dec8 L ++ b8 o := by
  unfold dec8; rw [List.map_append, List.flatten_append]; simp
theorem b8_blk {bs : List Int} (hB : Bits bs) (h : bs.length ≤ 8) : (b8 (blk bs)).take bs.length = bs := by
  refine List.ext_getElem? fun i => ?_
  rcases Nat.lt_or_ge i bs.length with hi | hi
  · rw [List.getElem?_take_of_lt hi]
    unfold b8
    rw [List.getElem?_map, List.getElem?_range (by omega), Option.map_some, bit_blk bs i hB, List.getD_eq_getElem?_getD, List.getElem?_eq_getElem hi]; rfl
  · rw [List.getElem?_eq_none (by rw [List.length_take]; omega), List.getElem?_eq_none hi]
theorem dec8_octs : ∀ (k : Nat) (bs : List Int), Bits bs → bs.length ≤ 8 * k → (dec8 ((List.range k).map (octAt bs))).take bs.length = bs
  | 0, bs, _, h => by
    have : bs = [] := List.length_eq_zero_iff.mp (by omega)
    subst this; rfl
  | k + 1, bs, hB, h => by
    have e : dec8 ((List.range (k + 1)).map (octAt bs)) = b8 (blk (bs.take 8)) ++ dec8 ((List.range k).map (octAt (bs.drop 8))) := by
      rw [List.range_succ_eq_map, List.map_cons, List.map_map]
      show b8 (octAt bs 0) ++ dec8 ((List.range k).map (octAt bs ∘ Nat.succ)) = _
      congr 2
      refine List.map_congr_left fun i _ => ?_
      show octAt bs (i + 1) = octAt (bs.drop 8) i
      rw [show bs.drop 8 = bs.drop (8 * 1) from rfl, octAt_drop, Nat.add_comm]
    rw [e]
    rcases Nat.lt_or_ge bs.length 9 with hb | hb
    · rw [List.take_append_of_le_length (by rw [b8_len]; omega), List.take_of_length_le (show bs.length ≤ 8 by omega)]
      exact b8_blk hB (by omega)
    · have e8 : b8 (blk (bs.take 8)) = bs.take 8 := by
        have := b8_blk (hB.take 8) (by rw [List.length_take]; omega)
        rw [show (bs.take 8).length = 8 by rw [List.length_take]; omega, List.take_of_length_le (by rw [b8_len]; exact Nat.le_refl _)] at this
        exact this
      have ih := dec8_octs k (bs.drop 8) (hB.drop 8) (by rw [List.length_drop]; omega)
      rw [e8, List.take_append, List.take_of_length_le (show (bs.take 8).length ≤ bs.length by rw [List.length_take]; omega), show bs.length - (bs.take 8).length = (bs.drop 8).length by rw [List.length_take, List.length_drop]; omega, ih, List.take_append_drop]
/-- the octets tell the bits, eight by eight -/
theorem lay_dec {k : Int} {bs T : List Int} (hB : Bits bs) : (dec8 (((lay k bs T).take (3 + (bs.length + 7) / 8)).drop 3)).take bs.length = bs := by
  have e : ((lay k bs T).take (3 + (bs.length + 7) / 8)).drop 3 = (List.range ((bs.length + 7) / 8)).map (octAt bs) := by
    have h := lay_mid k bs T
    have h2 : ((lay k bs T).take (3 + (bs.length + 7) / 8)).drop 3 = (((lay k bs T).take (3 + 4 * ((bs.length + 31) / 32))).drop 3).take ((bs.length + 7) / 8) := by
      rw [List.take_drop, List.take_take]
      congr 2; omega
    rw [h2, h, show fldO (blks bs) 4 = (List.range (4 * ((bs.length + 31) / 32))).map (octAt bs) from fldO_blks hB _, ← List.map_take, List.take_range]
    congr 2; omega
  rw [e]
  exact dec8_octs _ bs hB (by omega)


/-- a refusal told -/
def tk1 : List V := [.int 1, .bl true, .bl true, .bl false]
/-- what is told of octets: the tree, or a refusal -/
def ResT (H : Hp) (p : Addr) (os : List Int) : Prop := ((∀ ds, ¬ IsTr os ds) ∧ H p = some (.tup tk1)) ∨ (∃ ds, IsTr os ds ∧ H p = some (.lst (ds.map V.int)))
theorem ResT.same {H H' : Hp} {p : Addr} {os : List Int} (h : ResT H p os) (s : Same H H') : ResT H' p os := by
  rcases h with ⟨h1, h2⟩ | ⟨bs, h1, h2⟩
  · exact .inl ⟨h1, s.get h2⟩
  · exact .inr ⟨bs, h1, s.get h2⟩
/-- _law_due(octets) -/
def sp_law_due (K : PySem.W.Frag) : Sp := fun vs H Q _ => ∃ (a : Addr) (os : List Int), vs = [.ref a] ∧ H a = some (.lst (os.map V.int)) ∧ os.length ≤ 50000 ∧ ∀ p H', H p = none → Same H H' → ResT H' p os → Q (.ref p) H'
theorem len_law_due (K : PySem.W.Frag) : ∀ vs H Q E, sp_law_due K vs H Q E → vs.length = 1 := by
  rintro vs H Q E ⟨a, bs, rfl, _⟩; rfl
def t_law_due (K : PySem.W.Frag) : TS :=
  (tSeq (tIfS (tOr (tTest (tOp rLt (tCB (rLen K) (tCons (tVar 0) tNil)) (tC (.int 3)))) (tTest (tOp (rNeD K) (tLc (iList K (tVar 0)) (gName 1) (tOr (tTest (tOp rLt (tVar 1) (tC (.int 0)))) (tTest (tOp rGtI (tVar 1) (tC (.int 255))))) (tVar 1) [1]) (tLst tNil))))
  (tRet (tTup (tCons (tC (.int 1)) (tCons (tC (.bl true)) (tCons (tC (.bl true)) (tCons (tC (.bl false)) tNil))))))
  tNext)
  (tSeq (tAsg (tOp rPlus (tOp (rIxL K) (tVar 0) (tC (.int 1))) (tOp rTimes (tC (.int 256)) (tOp (rIxL K) (tVar 0) (tC (.int 2))))) (gName 2))
  (tSeq (tAsg (tLst tNil) (gName 3))
  (tSeq (tFor (iList K (tSl (rSlL K) (tVar 0) (tPart (tC (.int 3))) (tPart (tOp rPlus (tC (.int 3)) (tOp rDiv (tOp rPlus (tCB rMin2 (tCons (tVar 2) (tCons (tC (.int 4096)) tNil))) (tC (.int 7))) (tC (.int 8))))))) (gName 1)
  (tFor (iRng1 (tCons (tC (.int 8)) tNil)) (gName 4)
  (tSeq (tDrop (tBM K "list" rAppend (tVar 3) (tCons (tOp rMod (tVar 1) (tC (.int 2))) tNil)))
  (tAsg (tOp rDiv (tVar 1) (tC (.int 2))) (gName 1)))))
  (tSeq (tAsg (tSl (rSlL K) (tVar 3) tNoPart (tPart (tVar 2))) (gName 3))
  (tSeq (tAsg (tLst tNil) (gName 5))
  (tSeq (tAsg (tC (.int 0)) (gName 6))
  (tSeq (tFor (iRng1 (tCons (tCB (rLen K) (tCons (tVar 3) tNil)) tNil)) (gName 7)
  (tSeq (tIfS (tAnd (tTest (tOp rGtI (tVar 7) (tC (.int 0)))) (tTest (tOp rLt (tVar 6) (tC (.int 1)))))
  (tRet (tTup (tCons (tC (.int 1)) (tCons (tC (.bl true)) (tCons (tC (.bl true)) (tCons (tC (.bl false)) tNil))))))
  tNext)
  (Evl.tCut (tIfS (tTest (tOp rEq (tOp (rIxL K) (tVar 3) (tVar 7)) (tC (.int 1))))
  (tDrop (tBM K "list" rAppend (tVar 5) (tCons (tVar 6) tNil)))
  tNext)
  (tAsg (tOp rMinus (tOp rPlus (tVar 6) (tOp rTimes (tC (.int 2)) (tOp (rIxL K) (tVar 3) (tVar 7)))) (tC (.int 1))) (gName 6)))))
  (tSeq (tIfS (tOr (tTest (tOp (rEqD K) (tVar 5) (tLst tNil))) (tOr (tTest (tOp rNe (tVar 6) (tC (.int 0)))) (tTest (tOp (rNeD K) (tCall (sp_law_written K) [] E0 (tCons (tVar 3) tNil)) (tVar 0)))))
  (tRet (tTup (tCons (tC (.int 1)) (tCons (tC (.bl true)) (tCons (tC (.bl true)) (tCons (tC (.bl false)) tNil))))))
  tNext)
  (tRet (tVar 5)))))))))))
abbrev n_law_due : List Str := ["_law_octets_here", "_law_octet", "_law_many", "_law_bits_here", "_law_k", "_law_depths", "_law_deep", "_law_at"]

theorem rd_law_due (K : PySem.W.Frag) (vs : List V) (H : Hp) (Q : VK) (E : XK) (h : sp_law_due K vs H Q E) : t_law_due K { nx := fun _ H' => Q .non H', rt := Q } (start n_law_due vs) H := by
  obtain ⟨a, os, rfl, hS, hl, q⟩ := h
  unfold t_law_due
  walk_at "st"
  refine k_lenL (.of hS) ?_
  walk_at "st"
  rw [List.length_map]
  walk_at "if" <;> intro c0
  · walk_at "st"
    intro p hp
    refine q p _ hp (same_new hp) (.inl ⟨?_, upd_same⟩)
    rintro ds ⟨_, _, rfl⟩
    rw [treeO_len'] at c0; omega
  walk_at "st"
  refine m_iLe (.of hS) ?_
  refine comp_walkV (f := fun k => (os[k]?).bind fun b => if b < 0 ∨ 255 < b then some (V.int b) else none) (walk_list (K := K) (xs := os.map V.int)) (by rw [List.length_map]; omega) (fun H' s' => .of (s'.get hS)) (fun k v Hb Hc Qb hk sk hy qb => ?_) (fun pm Hb hpm sb eb => ?_)
  · obtain ⟨rfl, ev⟩ := hy
    obtain ⟨b, hb, rfl⟩ := of_mapint ev
    have go : ∀ cc : Bool, (cc = true ↔ (b < 0 ∨ 255 < b)) → Qb cc Hc := fun cc hcc => by
      refine qb _ _ (Same.refl _) (fun hc Q2 H4 s4 => ⟨V.int b, ?_, fun q2 => ?_⟩) (fun hc => ?_)
      · show (os[k]?).bind _ = _
        rw [hb]
        exact if_pos (hcc.mp hc)
      · walk_at "st"
        exact q2 _ (Same.refl _)
      · show (os[k]?).bind _ = _
        rw [hb]
        exact if_neg fun z => by rw [hcc.mpr z] at hc; cases hc
    walk_at "st"
    by_cases d1 : b < 0
    · rw [if_pos (decide_eq_true d1)]
      exact go true ⟨fun _ => .inl d1, fun _ => rfl⟩
    · rw [if_neg (by simpa using d1)]
      walk_at "st"
      refine go _ ⟨fun z => .inr (of_decide_eq_true z), fun z => decide_eq_true (by omega)⟩
  rw [List.length_map] at eb
  obtain ⟨L, eL, hLB⟩ : ∃ L : List Int, (List.range os.length).filterMap (fun k => (os[k]?).bind fun b => if b < 0 ∨ 255 < b then some (V.int b) else none) = L.map V.int ∧ (L = [] ↔ Octs os) := by
    refine ⟨(List.range os.length).filterMap (fun k => (os[k]?).bind fun b => if b < 0 ∨ 255 < b then some b else none), ?_, fun z b hb => ?_, fun z => ?_⟩
    · rw [List.map_filterMap]
      congr 1
      funext k
      cases os[k]? with
      | none => rfl
      | some b =>
        show (if b < 0 ∨ 255 < b then some (V.int b) else none) = Option.map V.int (if b < 0 ∨ 255 < b then some b else none)
        split <;> rfl
    · obtain ⟨k, hk⟩ := List.mem_iff_getElem?.mp hb
      have := List.filterMap_eq_nil_iff.mp z k (List.mem_range.mpr (List.getElem?_eq_some_iff.mp hk).1)
      rw [hk] at this
      have this : (if b < 0 ∨ 255 < b then some b else none) = none := this
      by_cases c1 : b < 0 ∨ 255 < b
      · rw [if_pos c1] at this; cases this
      · omega
    · refine List.filterMap_eq_nil_iff.mpr fun k hk => ?_
      cases e : os[k]? with
      | none => rfl
      | some b =>
        show (if b < 0 ∨ 255 < b then some b else none) = none
        exact if_neg fun w => by have := z b (List.mem_of_getElem? e); omega
  rw [eL] at eb
  walk_at "st"
  intro pz hpz
  have s1 := sb.trans (same_new (o := .lst []) hpz)
  refine k_neL (ns := L) (ms := []) (.of ((same_new (o := .lst []) hpz).get eb)) (.of upd_same) ?_
  generalize upd Hb pz (.lst []) = H1 at s1 ⊢
  walk_at "st"
  by_cases cB : Octs os
  case neg =>
    rw [@decide_eq_false _ _ (fun z => cB (hLB.mp z))]
    walk_at "st"
    intro p hp
    refine q p _ (s1.gone _ hp) (s1.trans (same_new hp)) (.inl ⟨?_, upd_same⟩)
    rintro ds ⟨_, _, rfl⟩
    exact cB (treeO_oct _)
  rw [@decide_eq_true _ _ (hLB.mpr cB)]
  walk_at "st"
  have l1 : 1 < os.length := by omega
  have l2 : 2 < os.length := by omega
  refine k_ixL (.of (s1.get hS)) (at_int (i := 1) (by decide) (mapint (List.getElem?_eq_getElem l1))) ?_
  walk_at "st"
  refine k_ixL (.of (s1.get hS)) (at_int (i := 2) (by decide) (mapint (List.getElem?_eq_getElem l2))) ?_
  walk_at "st"
  obtain ⟨m, hm⟩ : ∃ m : Nat, (os[1] + (256 : Int) * os[2] : Int) = (m : Int) := by
    have b1 := cB _ (List.getElem_mem l1)
    have b2 := cB _ (List.getElem_mem l2)
    exact ⟨(os[1] + (256 : Int) * os[2]).toNat, by omega⟩
  rw [hm]
  have hmany : ∀ cs, IsTr os cs → (brk cs).length = m := fun cs hR => by
    have e := cut_two (L := os) (n := 1) (List.getElem?_eq_getElem l1) (List.getElem?_eq_getElem l2)
    have e2 : num ((os.take 3).drop 1) = (m : Int) := by
      rw [show os.take 3 = os.take (1 + 2) from rfl, e, ← hm]
      show os[1] + (256 : Int) * (os[2] + 256 * 0) = _
      omega
    obtain ⟨hD, hb, rfl⟩ := hR
    have hb2 := brk_len hD
    rw [treeO_lay, lay_many (by omega)] at e2; omega
  intro p hp
  have s2 := s1.trans (same_new (o := .lst []) hp)
  have e2 := upd_same (H := H1) (a := p) (o := .lst [])
  have hpH : H p = none := s1.gone _ hp
  generalize upd H1 p (.lst []) = H2 at s2 e2 ⊢
  walk_at "st"
  obtain ⟨w, hw, hw2, hw3⟩ : ∃ w : Nat, ((w : Nat) : Int) = ((if (4096 : Int) < (m : Int) then 4096 else (m : Int)) + 7) / 8 ∧ w ≤ 512 ∧ (m ≤ 4096 → w = (m + 7) / 8) := by
    by_cases c : (4096 : Int) < (m : Int)
    · rw [if_pos c]; exact ⟨512, by decide, by decide, fun z => by omega⟩
    · rw [if_neg c]; exact ⟨(m + 7) / 8, by omega, by omega, fun _ => rfl⟩
  refine k_slL (.of (s2.get hS)) fun l hl0 => ?_
  rw [← hw, show (3 : Int) + ((w : Nat) : Int) = ((3 + w : Nat) : Int) by omega, show (3 : Int) = ((3 : Nat) : Int) from rfl, cutPart, ← List.map_take, ← List.map_drop]
  obtain ⟨M, eM⟩ : ∃ M, M = (os.take (3 + w)).drop 3 := ⟨_, rfl⟩
  have hMl : M.length ≤ 512 := by rw [eM, List.length_drop, List.length_take]; omega
  rw [← eM]
  have npl : p ≠ l := ne_of_none e2 hl0
  have s3 := s2.trans (same_new (o := .lst (M.map V.int)) hl0)
  have e3 := upd_same (H := H2) (a := l) (o := .lst (M.map V.int))
  have ex := (same_new (o := .lst (M.map V.int)) hl0).get e2
  generalize upd H2 l (.lst (M.map V.int)) = H3 at s3 e3 ex ⊢
  refine m_iLe (.of e3) ?_
  refine loop_ints (ns := M) (fun i σ H' => ∃ y1 y4, σ = [some (.ref a), y1, some (.int (m : Int)), some (.ref p), y4, none, none, none] ∧ Same H H' ∧ H' l = some (.lst (M.map V.int)) ∧ i ≤ M.length ∧ H' p = some (.lst ((dec8 (M.take i)).map V.int))) ⟨_, none, rfl, s3, e3, Nat.zero_le _, ex⟩ (fun i σ H' ⟨_, _, _, _, e, _⟩ => .of e) ?_ ?_
  · rintro i o σ H' hn ⟨y1, y4, rfl, s, el, hi, ep⟩
    have hlt : i < M.length := (List.getElem?_eq_some_iff.mp hn).1
    walk_at "st"
    refine loop_range0 (fun k σ H'' => ∃ y4, σ = [some (.ref a), some (.int (o / 2 ^ k)), some (.int (m : Int)), some (.ref p), y4, none, none, none] ∧ Same H H'' ∧ H'' l = some (.lst (M.map V.int)) ∧ k ≤ 8 ∧ H'' p = some (.lst ((dec8 (M.take i) ++ (List.range k).map (bit o)).map V.int))) ⟨_, by rw [Int.pow_zero, Int.ediv_one]; rfl, s, el, Nat.zero_le _, by rw [List.range_zero, List.map_nil, List.append_nil]; exact ep⟩ ?_ ?_
    · rintro k σ H'' hk ⟨y4, rfl, s, el, _, ep⟩
      walk_at "st"
      refine k_tyL (.of ep) ?_
      walk_at "st"
      refine k_app ep (by rw [List.length_map, List.length_append, dec8_len, List.length_map, List.length_range, List.length_take]; omega) ?_
      walk_at "st"
      refine ⟨some (.int (k : Int)), ?_, Same.mut s hpH ⟨_, ep⟩, by rw [upd_ne npl.symm]; exact el, by omega, ?_⟩
      · rw [show o / 2 ^ (k + 1) = o / 2 ^ k / 2 by rw [Int.pow_succ, Int.ediv_ediv_of_nonneg (Int.le_of_lt (Int.pow_pos (by decide)))]]; rfl
      · rw [upd_same, List.range_succ, List.map_append, List.map_append, List.map_append, List.map_append, List.append_assoc]; rfl
    · rintro σ H'' ⟨y4, rfl, s, el, _, ep⟩
      refine ⟨_, _, rfl, s, el, hlt, ?_⟩
      rw [ep, List.take_succ, hn, show (some o).toList = [o] from rfl, dec8_snoc]; rfl
  rintro σ H' ⟨y1, y4, rfl, s, el, _, ep⟩
  rw [List.take_length] at ep
  walk_at "st"
  refine k_slL (.of ep) fun p5 hp5 => ?_
  rw [cutTake, ← List.map_take]
  have hbl : ((dec8 M).take m).length ≤ 4096 := by rw [List.length_take, dec8_len]; omega
  have hbB : Bits ((dec8 M).take m) := (dec8_bits M).take m
  have hdec : ∀ cs, IsTr os cs → (dec8 M).take m = brk cs := fun cs hR => by
    have e := hmany cs hR
    obtain ⟨hD, hb, rfl⟩ := hR
    have hb2 := brk_len hD
    rw [eM, hw3 (by omega), ← e, treeO_lay]; exact lay_dec (brk_tree hD).2
  generalize (dec8 M).take m = bs at hbl hbB hdec ⊢
  have hp5H := s.gone _ hp5
  have s5 := s.trans (same_new (o := .lst (bs.map V.int)) hp5)
  have e5 := upd_same (H := H') (a := p5) (o := .lst (bs.map V.int))
  generalize upd H' p5 (.lst (bs.map V.int)) = H5 at s5 e5 ⊢
  clear hMl npl eM hw3 hw2
  have bad : ∀ H', ¬ IsTree bs → Same H H' → ∀ r, H' r = none → Q (.ref r) (upd H' r (.tup tk1)) := fun H' nT s r hr => q r _ (s.gone _ hr) (s.trans (same_new hr)) (.inl ⟨fun cs hR => nT (by rw [hdec cs hR]; exact (brk_tree hR.1).1), upd_same⟩)
  walk_at "st"
  intro p hp
  have hpH : H p = none := s5.gone _ hp
  have s2 := s5.trans (same_new (o := .lst []) hp)
  have e2 := upd_same (H := H5) (a := p) (o := .lst [])
  have e5 := (same_new (o := .lst []) hp).get e5
  have npq : p5 ≠ p := ne_of_none (by assumption) hp
  generalize upd H5 p (.lst []) = H6 at s2 e2 e5 ⊢
  walk_at "st"
  refine k_lenL (.of e5) ?_
  walk_at "st"
  rw [List.length_map]
  refine loop_range0 (fun i σ' H' => ∃ (w : Option V), i ≤ bs.length ∧ Same H H' ∧ H' p5 = some (.lst (bs.map V.int)) ∧ H' p = some (.lst ((depTo bs i).map V.int)) ∧ (∀ k, 0 < k → k < i → 0 < hgt bs k) ∧ σ' = [some (.ref a), y1, some (.int (m : Int)), some (.ref p5), y4, some (.ref p), some (.int (hgt bs i)), w]) ⟨none, Nat.zero_le _, s2, e5, e2, fun k h1 h2 => by omega, rfl⟩ (fun i σ' H' hi ⟨w, _, s, e5, e, hk, es⟩ => ?_) (fun σ' H' ⟨w, _, s, e5, e, hk, es⟩ => ?_)
  · subst es
    obtain ⟨n, hn⟩ : ∃ n, bs[i]? = some n := ⟨_, List.getElem?_eq_getElem hi⟩
    have eg : bs.getD i 0 = n := by rw [List.getD_eq_getElem?_getD, hn]; rfl
    have good : ∀ H3, (0 < i → 0 < hgt bs i) → Same H H3 → H3 p5 = some (.lst (bs.map V.int)) → H3 p = some (.lst ((depTo bs (i + 1)).map V.int)) → ∃ (w' : Option V), i + 1 ≤ bs.length ∧ Same H H3 ∧ H3 p5 = some (.lst (bs.map V.int)) ∧ H3 p = some (.lst ((depTo bs (i + 1)).map V.int)) ∧ (∀ k, 0 < k → k < i + 1 → 0 < hgt bs k) ∧ [some (.ref a), y1, some (.int (m : Int)), some (.ref p5), y4, some (.ref p), some (.int (hgt bs i + 2 * n - 1)), some (.int (i : Int))] = [some (.ref a), y1, some (.int (m : Int)), some (.ref p5), y4, some (.ref p), some (.int (hgt bs (i + 1))), w'] := fun H3 hp s3 e5 e3 => by
      refine ⟨some (.int (i : Int)), hi, s3, e5, e3, fun k h1 h2 => ?_, ?_⟩
      · rcases Nat.lt_or_ge k i with z | z
        · exact hk k h1 z
        · rw [show k = i by omega] at h1 ⊢; exact hp h1
      · rw [hgt_succ, eg, show hgt bs i + 2 * n - 1 = hgt bs i + (2 * n - 1) by omega]
    walk_at "st"
    walk_at "if" <;> intro c1
    all_goals first
      | have c2 : ¬ 0 < i := by omega
      | walk_at "st"
        walk_at "if" <;> intro c2
    · walk_at "st"
      exact bad H' (fun z => by have := z.2.2 i (by omega) hi; omega) s
    all_goals
      have hp1 : 0 < i → 0 < hgt bs i := fun _ => by omega
      walk_at "st"
      refine m_cut (fun σ' H3 => Same H H3 ∧ H3 p5 = some (.lst (bs.map V.int)) ∧ H3 p = some (.lst ((depTo bs (i + 1)).map V.int)) ∧ σ' = [some (.ref a), y1, some (.int (m : Int)), some (.ref p5), y4, some (.ref p), some (.int (hgt bs i)), some (.int (i : Int))]) ?_ ?_
      · walk_at "st"
        refine k_ixL (.of e5) (at_int (by omega) (mapint hn)) ?_
        walk_at "st"
        walk_at "if" <;> intro c1
        · walk_at "st"
          refine k_tyL (.of e) ?_
          walk_at "st"
          refine k_app e (by have := depTo_len bs i; rw [List.length_map]; omega) ?_
          walk_at "st"
          refine ⟨Same.mut s hpH ⟨_, e⟩, (upd_ne npq).trans e5, ?_, rfl⟩
          rw [upd_same]
          show _ = some (HO.lst ((if bs.getD i 0 = 1 then depTo bs i ++ [hgt bs i] else depTo bs i).map V.int))
          rw [if_pos (eg.trans c1), List.map_append]; rfl
        · walk_at "st"
          refine ⟨s, e5, ?_, rfl⟩
          show _ = some (HO.lst ((if bs.getD i 0 = 1 then depTo bs i ++ [hgt bs i] else depTo bs i).map V.int))
          rw [if_neg (fun z => c1 (eg.symm.trans z))]; exact e
      rintro σ' H3 ⟨s3, e5, e3, rfl⟩
      walk_at "st"
      refine k_ixL (.of e5) (at_int (by omega) (mapint hn)) ?_
      walk_at "st"
      exact good _ hp1 s3 e5 e3
  · subst es
    walk_at "st"
    intro pe hpe
    have se := s.trans (same_new (o := .lst []) hpe)
    have ee := (same_new (o := .lst []) hpe).get e
    have e5 := (same_new (o := .lst []) hpe).get e5
    refine k_eqL (ns := depTo bs bs.length) (ms := []) (.of ee) (.of upd_same) ?_
    generalize upd H' pe (.lst []) = H6 at se ee e5 ⊢
    by_cases cD : depTo bs bs.length = []
    · rw [decide_eq_true cD]
      walk_at "st"
      refine bad H6 (fun z => ?_) se
      have := (dep_back hbB z).1
      rw [cD] at this
      exact this
    rw [decide_eq_false cD]
    walk_at "st"
    walk_at "if" <;> intro c2
    · walk_at "st"
      exact bad H6 (fun z => c2 z.2.1) se
    have h2 : hgt bs bs.length = 0 := by omega
    have hT : IsTree bs := by
      refine ⟨?_, h2, hk⟩
      rcases Nat.lt_or_ge bs.length 2 with z | z
      · rcases (show bs.length = 0 ∨ bs.length = 1 by omega) with z | z
        · rw [z] at cD; exact absurd rfl cD
        · have z1 := hgt_succ bs 0
          have := hbB _ (List.getElem_mem (show 0 < bs.length by omega))
          have e0 : bs.getD 0 0 = bs[0] := by rw [List.getD_eq_getElem?_getD, List.getElem?_eq_getElem (show 0 < bs.length by omega)]; rfl
          rw [e0, hgt_zero] at z1
          rw [z] at h2
          have z1 : hgt bs 1 = 0 + (2 * bs[0] - 1) := z1
          omega
      · exact z
    clear c2 bad
    walk_at "st"
    refine ⟨p5, bs, rfl, e5, hbB, by omega, fun p6 H7 hp6 s6 e6 => ?_⟩
    rw [treeC_O hbB hbl] at e6
    walk_at "st"
    refine k_neL (ns := treeO bs) (ms := os) (.of e6) (.of ((se.trans s6).get hS)) ?_
    obtain ⟨hD, hbb⟩ := dep_back hbB hT
    have hdl := brk_len hD
    rw [hbb] at hdl
    have ee7 := s6.get ee
    by_cases c : treeO bs = os
    · rw [decide_eq_true c]
      walk_at "st"
      exact q p H7 hpH (se.trans s6) (.inr ⟨depTo bs bs.length, ⟨hD, by omega, by rw [hbb]; exact c.symm⟩, ee7⟩)
    · rw [decide_eq_false c]
      walk_at "st"
      intro p7 hp7
      refine q p7 _ ((se.trans s6).gone _ hp7) ((se.trans s6).trans (same_new hp7)) (.inl ⟨fun cs hR => c ?_, upd_same⟩)
      rw [hdec cs hR]; exact hR.2.2.symm

/-- what opened_tree tells: a tuple of tables and a look -/
def OpenT (CL : CLs) (H0 H' : Hp) (p : Addr) (ds : List Int) : Prop := ∃ t g pa ph, H' p = some (.tup [.ref t, .ref g]) ∧ H' t = some (.tup [.int ((brk ds).length : Int), .ref pa, .ref ph]) ∧ H' pa = some (.tup ((aheadT (brk ds)).map V.int)) ∧ H' ph = some (.tup (heapL (lowsOf (brk ds)))) ∧ PureLook CL 1 g ((blks (brk ds)).map V.int) (newOf H0 H')
theorem OpenT.move {CL : CLs} {H0 H1 H' H2 : Hp} {p : Addr} {ds : List Int} (h : OpenT CL H1 H' p ds) (s : Same H0 H1) (s2 : Same H' H2) : OpenT CL H0 H2 p ds := by
  obtain ⟨t, g, pa, ph, h1, h2, h3, h4, h5⟩ := h
  exact ⟨t, g, pa, ph, s2.get h1, s2.get h2, s2.get h3, s2.get h4, h5.ext (newOf_mono s s2)⟩
/-- _law_asked(way, octets) -/
def sp_law_asked (K : PySem.W.Frag) (CL : CLs) : Sp := fun vs H Q E => ∃ (w : Int) (a : Addr) (os : List Int), vs = [.int w, .ref a] ∧ SqL K H a (os.map V.int) ∧ os.length ≤ 100000 ∧ NdefX.TabN H (tabP K "look_of") nmL ∧
  (∀ H', Same H H' → (∀ ds, ¬ IsTr os ds) → E (.ref (He.ga K "NoOctets")) none H') ∧
  (∀ ds, IsTr os ds → ∀ p H', H p = none → Same H H' → (w = 0 → H' p = some (.lst (ds.map V.int))) → (w ≠ 0 → OpenT CL H H' p ds) → Q (.ref p) H')
theorem len_law_asked (K : PySem.W.Frag) (CL : CLs) : ∀ vs H Q E, sp_law_asked K CL vs H Q E → vs.length = 2 := by
  rintro vs H Q E ⟨x, y, z, rfl, _⟩; rfl
def t_law_asked (K : PySem.W.Frag) (CL : CLs) (E : XK) : TS :=
  (tSeq (tIfS (tTest (tOp rEq (tVar 0) (tC (.int 0))))
  (tRet (tCall (sp_read_tree K) [] E (tCons (tVar 1) tNil)))
  tNext)
  (tRet (tCall (sp_opened_tree K CL) [] E (tCons (tVar 1) tNil))))
abbrev n_law_asked : List Str := ["_law_way", "_law_octets_here"]

theorem rd_law_asked (K : PySem.W.Frag) (CL : CLs) (F : KFx K) (vs : List V) (H : Hp) (Q : VK) (E : XK) (h : sp_law_asked K CL vs H Q E) : t_law_asked K CL E { nx := fun _ H' => Q .non H', rt := Q } (start n_law_asked vs) H := by
  obtain ⟨w, a, os, rfl, hS, hl, hT, q1, q2⟩ := h
  unfold t_law_asked
  walk_at "st"
  walk_at "if" <;> intro c
  · walk_at "st"
    exact ⟨a, os, rfl, hS, hl, q1, fun ds hR p H' hp s e => q2 ds hR p H' hp s (fun _ => e) fun z => absurd c z⟩
  · walk_at "st"
    exact ⟨a, os, rfl, hS, hl, hT, q1, fun ds hR p t g pa ph H' hp s e1 e2 e3 e4 lk => q2 ds hR p H' hp s (fun z => absurd z c) fun _ => ⟨t, g, pa, ph, e1, e2, e3, e4, lk⟩⟩
/-- _law_told(way, octets) -/
def sp_law_told (K : PySem.W.Frag) (CL : CLs) : Sp := fun vs H Q _ => ∃ (w : Int) (a : Addr) (os : List Int), vs = [.int w, .ref a] ∧ H a = some (.lst (os.map V.int)) ∧ os.length ≤ 50000 ∧ NdefX.TabN H (tabP K "look_of") nmL ∧
  (∀ p H', H p = none → Same H H' → (∀ ds, ¬ IsTr os ds) → H' p = some (.tup tk1) → Q (.ref p) H') ∧
  (∀ ds, IsTr os ds → ∀ p H', H p = none → Same H H' → (w = 0 → H' p = some (.lst (ds.map V.int))) → (w ≠ 0 → OpenT CL H H' p ds) → Q (.ref p) H')
theorem len_law_told (K : PySem.W.Frag) (CL : CLs) : ∀ vs H Q E, sp_law_told K CL vs H Q E → vs.length = 2 := by
  rintro vs H Q E ⟨x, y, z, rfl, _⟩; rfl
def t_law_told (K : PySem.W.Frag) (CL : CLs) : TS :=
  (tSeq (tAsg (tTup (tCons (tC (.int 0)) (tCons (tC (.bl false)) (tCons (tC (.bl false)) (tCons (tC (.bl false)) tNil))))) (gName 2))
  (tSeq (tAsg (tLst tNil) (gName 3))
  (tSeq (tTryAs K (.ref (He.ga K "NoOctets")) 4 (fun W => (tAsg (tCallS (sp_law_asked K CL) (WE W) (tCons (tVar 0) (tCons (tVar 1) tNil))) (gName 3))) (fun a cls d => (tSeq (tAsg (tOrV (tCB (rIsX K cls d a) (tCons (tVar 4) (tCons (tC (.ref (He.ga K "NoBit"))) tNil))) (tOrV (tCB (rIsX K cls d a) (tCons (tVar 4) (tCons (tC (.ref (He.ga K "TooMany"))) tNil))) (tCB (rIsX K cls d a) (tCons (tVar 4) (tCons (tC (.ref (He.ga K "NoTree"))) tNil))))) (gName 5))
  (tAsg (tTup (tCons (tC (.int 1)) (tCons (tCB (rIsX K cls d a) (tCons (tVar 4) (tCons (tC (.ref (He.ga K "WoodError"))) tNil))) (tCons (tCB (rIsX K cls d a) (tCons (tVar 4) (tCons (tC (.ty "ValueError")) tNil))) (tCons (tVar 5) tNil))))) (gName 2)))) (fun _ _ _ _ => False))
  (tSeq (tIfS (tTest (tOp rGtI (tOp (rIxT K) (tVar 2) (tC (.int 0))) (tC (.int 0))))
  (tRet (tVar 2))
  tNext)
  (tSeq (tIfS (tAnd (tTest (tOp rEq (tVar 0) (tC (.int 0)))) (tNot (tB (tCB rIsB (tCons (tVar 3) (tCons (tC (.ty "list")) tNil))))))
  (tRet (tTup (tCons (tC (.int 0)) (tCons (tC (.bl false)) (tCons (tC (.bl false)) (tCons (tC (.bl true)) tNil))))))
  tNext)
  (tSeq (tIfS (tAnd (tTest (tOp rEq (tVar 0) (tC (.int 0)))) (tTest (tOp (rNeD K) (tLc (iList K (tVar 3)) (gName 6) (tNot (tB (tCall (sp_law_whole K) [] E0 (tCons (tVar 6) tNil)))) (tVar 6) [6]) (tLst tNil))))
  (tRet (tTup (tCons (tC (.int 0)) (tCons (tC (.bl false)) (tCons (tC (.bl false)) (tCons (tC (.bl true)) tNil))))))
  tNext)
  (tRet (tVar 3))))))))
abbrev n_law_told : List Str := ["_law_way", "_law_octets_here", "_law_told_here", "_law_found", "e", "_law_others", "_law_deep"]

theorem rd_law_told (K : PySem.W.Frag) (CL : CLs) (F : KFx K) (vs : List V) (H : Hp) (Q : VK) (E : XK) (h : sp_law_told K CL vs H Q E) : t_law_told K CL { nx := fun _ H' => Q .non H', rt := Q } (start n_law_told vs) H := by
  obtain ⟨w, a, os, rfl, hS, hl, hT, q1, q2⟩ := h
  unfold t_law_told
  walk_at "st"
  intro p1 hp1
  have s1 := same_new (o := .tup [.int 0, .bl false, .bl false, .bl false]) hp1
  have e1 := upd_same (H := H) (a := p1) (o := .tup [.int 0, .bl false, .bl false, .bl false])
  generalize upd H p1 (.tup [.int 0, .bl false, .bl false, .bl false]) = H1 at s1 e1 ⊢
  walk_at "st"
  intro p2 hp2
  have s2 := s1.trans (same_new (o := .lst []) hp2)
  have e12 := (same_new (o := .lst []) hp2).get e1
  generalize upd H1 p2 (.lst []) = H2 at s2 e12 ⊢
  walk_at "st"
  refine ⟨w, a, os, rfl, .of (s2.get hS), by omega, s2.tabs _ hT, fun H3 s3 nR => ?_, fun ds hR p3 H3 hp3 s3 z0 z1 => ?_⟩
  · refine m_caught F.e_NoOctets_NoOctets fun x hx => ?_
    have s13 := s2.trans s3
    walk_at "st"
    refine k_isX F.ec_NoOctets F.k_NoOctets_NoBit ?_
    walk_at "st"
    refine k_isX F.ec_NoOctets F.k_NoOctets_TooMany ?_
    walk_at "st"
    refine k_isX F.ec_NoOctets F.k_NoOctets_NoTree ?_
    walk_at "st"
    refine k_isX F.ec_NoOctets F.k_NoOctets_WoodError ?_
    walk_at "st"
    refine k_isXty F.ec_NoOctets F.kt_NoOctets ?_
    walk_at "st"
    intro p4 hp4
    walk_at "st"
    refine k_ixT (.of upd_same) (x := .int 1) (at_int (by decide) rfl) ?_
    walk_at "st"
    refine k_decT (by decide) ?_
    walk_at "st"
    exact q1 p4 _ (s13.gone _ hp4) (s13.trans (same_new hp4)) nR upd_same
  · have s13 := s2.trans s3
    have hp3H : H p3 = none := s2.gone _ hp3
    walk_at "st"
    refine k_ixT (.of (s3.get e12)) (x := .int 0) (at_int (by decide) rfl) ?_
    walk_at "st"
    refine k_decF (by decide) ?_
    walk_at "st"
    have hbl : ds.length ≤ 2048 := hR.2.1
    walk_at "if" <;> intro c
    · have e3 := z0 c
      walk_at "st"
      refine k_isList e3 ?_
      walk_at "st"
      rw [if_pos (decide_eq_true c)]
      walk_at "st"
      refine m_iLe (.of e3) ?_
      refine comp_walkV (f := fun _ => none) (walk_list (K := K) (xs := ds.map V.int)) (by rw [List.length_map]; omega) (fun H' s' => .of (s'.get e3)) (fun k v Hb Hc Qb hk sk hy qb => ?_) (fun pm Hb hpm sb eb => ?_)
      · obtain ⟨rfl, ev⟩ := hy
        obtain ⟨b, hb, rfl⟩ := of_mapint ev
        walk_at "st"
        refine whole_int ?_
        walk_at "st"
        exact qb _ _ (Same.refl _) (fun hc => by cases hc) (fun _ => rfl)
      have eb : Hb pm = some (.lst (([] : List Int).map V.int)) := by
        rw [eb]
        congr 2
        exact List.filterMap_eq_nil_iff.mpr fun _ _ => rfl
      walk_at "st"
      intro pz hpz
      have sz := same_new (o := .lst []) hpz
      refine k_neL (ns := []) (ms := []) (.of (sz.get eb)) (.of upd_same) ?_
      rw [decide_eq_true rfl]
      walk_at "st"
      exact q2 ds hR p3 _ hp3H ((s13.trans sb).trans sz) (fun _ => sz.get (sb.get e3)) fun z => absurd c z
    · walk_at "st"
      rw [if_neg (by rw [decide_eq_true_eq]; exact c)]
      walk_at "st"
      exact q2 ds hR p3 H3 hp3H s13 (fun z => absurd z c) fun z => (z1 z).move s2 (Same.refl _)
/-- _law_changed(octets, cell): some other octets, or the same -/
def sp_law_changed (K : PySem.W.Frag) : Sp := fun vs H Q _ => ∃ (a : Addr) (os : List Int) (c : Int), vs = [.ref a, .int c] ∧ H a = some (.lst (os.map V.int)) ∧ os.length ≤ 10000 ∧ ∀ p (ns : List Int) H', Same H H' → H' p = some (.lst (ns.map V.int)) → ns.length ≤ 3 * os.length + 3 → Q (.ref p) H'
theorem len_law_changed (K : PySem.W.Frag) : ∀ vs H Q E, sp_law_changed K vs H Q E → vs.length = 2 := by
  rintro vs H Q E ⟨x, y, z, rfl, _⟩; rfl
theorem k_slI {K : PySem.W.Frag} {H : Hp} {Q : VK} {a : Addr} {ns : List Int} {lo hi : Option Int} (h : H a = some (.lst (ns.map V.int))) (q : ∀ (cs : List Int) l H', cs.length ≤ ns.length → H l = none → Same H H' → H' l = some (.lst (cs.map V.int)) → Q (.ref l) H') : rSlL K (.ref a) lo hi H Q := by
  obtain ⟨cs, e, _, hl⟩ := cut_ints ns lo hi
  refine k_slL (.of h) fun l hl0 => ?_
  rw [e]
  exact q cs l _ hl hl0 (same_new hl0) upd_same
def t_law_changed (K : PySem.W.Frag) : TS :=
  (tSeq (tAsg (tOp rMod (tVar 1) (tC (.int 1000000000000000000000000000000000000000000000000000000000000))) (gName 2))
  (tSeq (tAsg (tOp rMod (tOp rDiv (tVar 2) (tC (.int 7))) (tOp rPlus (tCB (rLen K) (tCons (tVar 0) tNil)) (tC (.int 1)))) (gName 3))
  (tSeq (tAsg (tOp rMod (tOp rMod (tOp rTimes (tVar 2) (tC (.int 69621))) (tC (.int 2147483629))) (tC (.int 256))) (gName 4))
  (tSeq (tIfS (tAnd (tTest (tOp rEq (tOp rMod (tVar 2) (tC (.int 7))) (tC (.int 0)))) (tTest (tOp rLt (tVar 3) (tCB (rLen K) (tCons (tVar 0) tNil)))))
  (tSeq (tAsg (tOp rShlW (tC (.int 1)) (tOp rMod (tVar 4) (tC (.int 8)))) (gName 5))
  (tRet (tOp rCat (tOp rCat (tSl (rSlL K) (tVar 0) tNoPart (tPart (tVar 3))) (tLst (tCons (tOp rBitXor (tOp (rIxL K) (tVar 0) (tVar 3)) (tVar 5)) tNil))) (tSl (rSlL K) (tVar 0) (tPart (tOp rPlus (tVar 3) (tC (.int 1)))) tNoPart))))
  tNext)
  (tSeq (tIfS (tAnd (tTest (tOp rEq (tOp rMod (tVar 2) (tC (.int 7))) (tC (.int 1)))) (tTest (tOp rLt (tVar 3) (tCB (rLen K) (tCons (tVar 0) tNil)))))
  (tRet (tOp rCat (tOp rCat (tSl (rSlL K) (tVar 0) tNoPart (tPart (tVar 3))) (tLst (tCons (tOp (rIxL K) (tLst (tCons (tVar 4) (tCons (tOp rPlus (tC (.int 256)) (tVar 2)) (tCons (tOp rMinus (tC (.int (-1))) (tVar 2)) tNil)))) (tOp rMod (tVar 4) (tC (.int 3)))) tNil))) (tSl (rSlL K) (tVar 0) (tPart (tOp rPlus (tVar 3) (tC (.int 1)))) tNoPart)))
  tNext)
  (tSeq (tIfS (tTest (tOp rEq (tOp rMod (tVar 2) (tC (.int 7))) (tC (.int 2))))
  (tRet (tOp rCat (tOp rCat (tSl (rSlL K) (tVar 0) tNoPart (tPart (tVar 3))) (tLst (tCons (tVar 4) tNil))) (tSl (rSlL K) (tVar 0) (tPart (tVar 3)) tNoPart)))
  tNext)
  (tSeq (tIfS (tTest (tOp rEq (tOp rMod (tVar 2) (tC (.int 7))) (tC (.int 3))))
  (tRet (tOp rCat (tSl (rSlL K) (tVar 0) tNoPart (tPart (tVar 3))) (tSl (rSlL K) (tVar 0) (tPart (tOp rPlus (tVar 3) (tC (.int 1)))) tNoPart)))
  tNext)
  (tSeq (tIfS (tAnd (tTest (tOp rEq (tOp rMod (tVar 2) (tC (.int 7))) (tC (.int 4)))) (tTest (tOp rLt (tVar 3) (tCB (rLen K) (tCons (tVar 0) tNil)))))
  (tRet (tOp rCat (tOp rCat (tSl (rSlL K) (tVar 0) tNoPart (tPart (tVar 3))) (tRevL K (tSl (rSlL K) (tVar 0) (tPart (tVar 3)) (tPart (tOp rPlus (tVar 3) (tC (.int 2))))))) (tSl (rSlL K) (tVar 0) (tPart (tOp rPlus (tVar 3) (tC (.int 2)))) tNoPart)))
  tNext)
  (tSeq (tIfS (tTest (tOp rEq (tOp rMod (tVar 2) (tC (.int 7))) (tC (.int 5))))
  (tRet (tOp (rCatK K) (tVar 0) (tLst (tCons (tC (.int 0)) tNil))))
  tNext)
  (tRet (tVar 0)))))))))))
abbrev n_law_changed : List Str := ["_law_octets_here", "_law_cell", "_law_number", "_law_at", "_law_drawn", "_law_bit"]

theorem rd_law_changed (K : PySem.W.Frag) (vs : List V) (H : Hp) (Q : VK) (E : XK) (h : sp_law_changed K vs H Q E) : t_law_changed K { nx := fun _ H' => Q .non H', rt := Q } (start n_law_changed vs) H := by
  obtain ⟨a, os, c, rfl, hS, hl, q⟩ := h
  unfold t_law_changed
  walk_at "st"
  refine k_lenL (.of hS) ?_
  walk_at "st"
  rw [List.length_map]
  generalize c % 1000000000000000000000000000000000000000000000000000000000000 = n
  obtain ⟨k, hk, hkl⟩ : ∃ k : Nat, (n / 7 % ((os.length : Int) + 1)) = (k : Int) ∧ k ≤ os.length := by
    have m0 := Int.emod_nonneg (n / 7) (show ((os.length : Int) + 1) ≠ 0 by omega)
    have m1 := Int.emod_lt_of_pos (n / 7) (show (0 : Int) < (os.length : Int) + 1 by omega)
    exact ⟨(n / 7 % ((os.length : Int) + 1)).toNat, by omega, by omega⟩
  rw [hk]
  obtain ⟨d, hd, hd0, hd1⟩ : ∃ d : Int, n * 69621 % 2147483629 % 256 = d ∧ 0 ≤ d ∧ d < 256 := ⟨_, rfl, by omega, by omega⟩
  rw [hd]
  clear hd hk
  by_cases c0 : n % 7 = 0
  · rw [if_pos (decide_eq_true c0)]
    walk_at "st"
    refine k_lenL (.of hS) ?_
    walk_at "st"
    rw [List.length_map]
    by_cases c0' : (k : Int) < (os.length : Int)
    · rw [if_pos (decide_eq_true c0')]
      have hlt : k < os.length := by omega
      walk_at "st"
      have hsh : CShl 1 (d % 8) := by
        obtain ⟨j, hj, hj2⟩ : ∃ j : Nat, d % 8 = (j : Int) ∧ j ≤ 8 := ⟨(d % 8).toNat, by omega, by omega⟩
        rw [hj]
        exact shl_ok (n := 1) (by decide) (by omega)
      refine k_I hsh ?_
      walk_at "st"
      generalize (1 * 2 ^ (d % 8).toNat : Int) = sh
      refine k_slI hS fun A a1 H1 hA h1 s1 e1 => ?_
      walk_at "st"
      refine k_ixL (.of (s1.get hS)) (at_int (by omega) (i := (k : Int)) (by rw [Int.toNat_natCast]; exact mapint (List.getElem?_eq_getElem hlt))) ?_
      walk_at "st"
      generalize Builtin.bitXor os[k] sh = x
      intro a2 h2
      have e2 := upd_same (H := H1) (a := a2) (o := .lst [.int (x)])
      have s2 := same_new (o := .lst [.int (x)]) h2
      generalize upd H1 a2 (.lst [.int (x)]) = H2 at e2 s2 ⊢
      walk_at "st"
      refine k_catI (xs := A) (ys := [x]) (s2.get e1) e2 (by simp only [List.length_cons, List.length_nil]; omega) fun a3 H3 h3 s3 e3 => ?_
      walk_at "st"
      refine k_slI (((s1.trans s2).trans s3).get hS) fun B a4 H4 hB h4 s4 e4 => ?_
      walk_at "st"
      refine k_catI (s4.get e3) e4 (by rw [List.length_append]; simp only [List.length_cons, List.length_nil]; omega) fun a5 H5 h5 s5 e5 => ?_
      exact q a5 _ H5 (((s1.trans s2).trans (s3.trans s4)).trans s5) e5 (by rw [List.length_append, List.length_append]; simp only [List.length_cons, List.length_nil]; omega)
    · rw [if_neg (by rw [decide_eq_true_eq]; exact c0')]
      walk_at "st"
      rw [if_neg (by rw [decide_eq_true_eq]; omega)]
      walk_at "st"
      rw [if_neg (by rw [decide_eq_true_eq]; omega)]
      walk_at "st"
      rw [if_neg (by rw [decide_eq_true_eq]; omega)]
      walk_at "st"
      rw [if_neg (by rw [decide_eq_true_eq]; omega)]
      walk_at "st"
      rw [if_neg (by rw [decide_eq_true_eq]; omega)]
      walk_at "st"
      exact q a os H (Same.refl _) hS (by omega)
  rw [if_neg (by rw [decide_eq_true_eq]; exact c0)]
  walk_at "st"
  by_cases c1 : n % 7 = 1
  · rw [if_pos (decide_eq_true c1)]
    walk_at "st"
    refine k_lenL (.of hS) ?_
    walk_at "st"
    rw [List.length_map]
    by_cases c1' : (k : Int) < (os.length : Int)
    · rw [if_pos (decide_eq_true c1')]
      have hlt : k < os.length := by omega
      walk_at "st"
      refine k_slI hS fun A a1 H1 hA h1 s1 e1 => ?_
      walk_at "st"
      intro b1 hb1
      have sb1 := same_new (o := .lst [.int d, .int (256 + n), .int (-1 - n)]) hb1
      have e1b := sb1.get e1
      have s1b := s1.trans sb1
      walk_at "st"
      obtain ⟨y, hy⟩ : ∃ y : Int, atI [V.int d, V.int (256 + n), V.int (-1 - n)] (d % 3) = some (V.int y) := by
        obtain ⟨j, hj, hj2⟩ : ∃ j : Nat, d % 3 = (j : Int) ∧ j < 3 := ⟨(d % 3).toNat, by omega, by omega⟩
        rw [hj]
        match j, hj2 with
        | 0, _ => exact ⟨_, at_int (by decide) rfl⟩
        | 1, _ => exact ⟨_, at_int (by decide) rfl⟩
        | 2, _ => exact ⟨_, at_int (by decide) rfl⟩
      refine k_ixL (.of upd_same) hy ?_
      generalize upd H1 b1 (.lst [.int d, .int (256 + n), .int (-1 - n)]) = H1c at e1b s1b ⊢
      walk_at "st"
      intro a2 h2
      have e2 := upd_same (H := H1c) (a := a2) (o := .lst [.int (y)])
      have s2 := same_new (o := .lst [.int (y)]) h2
      generalize upd H1c a2 (.lst [.int (y)]) = H2 at e2 s2 ⊢
      walk_at "st"
      refine k_catI (xs := A) (ys := [y]) (s2.get e1b) e2 (by simp only [List.length_cons, List.length_nil]; omega) fun a3 H3 h3 s3 e3 => ?_
      walk_at "st"
      refine k_slI (((s1b.trans s2).trans s3).get hS) fun B a4 H4 hB h4 s4 e4 => ?_
      walk_at "st"
      refine k_catI (s4.get e3) e4 (by rw [List.length_append]; simp only [List.length_cons, List.length_nil]; omega) fun a5 H5 h5 s5 e5 => ?_
      exact q a5 _ H5 (((s1b.trans s2).trans (s3.trans s4)).trans s5) e5 (by rw [List.length_append, List.length_append]; simp only [List.length_cons, List.length_nil]; omega)
    · rw [if_neg (by rw [decide_eq_true_eq]; exact c1')]
      walk_at "st"
      rw [if_neg (by rw [decide_eq_true_eq]; omega)]
      walk_at "st"
      rw [if_neg (by rw [decide_eq_true_eq]; omega)]
      walk_at "st"
      rw [if_neg (by rw [decide_eq_true_eq]; omega)]
      walk_at "st"
      rw [if_neg (by rw [decide_eq_true_eq]; omega)]
      walk_at "st"
      exact q a os H (Same.refl _) hS (by omega)
  rw [if_neg (by rw [decide_eq_true_eq]; exact c1)]
  walk_at "st"
  by_cases c2 : n % 7 = 2
  · rw [if_pos (decide_eq_true c2)]
    walk_at "st"
    refine k_slI hS fun A a1 H1 hA h1 s1 e1 => ?_
    walk_at "st"
    intro a2 h2
    have e2 := upd_same (H := H1) (a := a2) (o := .lst [.int (d)])
    have s2 := same_new (o := .lst [.int (d)]) h2
    generalize upd H1 a2 (.lst [.int (d)]) = H2 at e2 s2 ⊢
    walk_at "st"
    refine k_catI (xs := A) (ys := [d]) (s2.get e1) e2 (by simp only [List.length_cons, List.length_nil]; omega) fun a3 H3 h3 s3 e3 => ?_
    walk_at "st"
    refine k_slI (((s1.trans s2).trans s3).get hS) fun B a4 H4 hB h4 s4 e4 => ?_
    walk_at "st"
    refine k_catI (s4.get e3) e4 (by rw [List.length_append]; simp only [List.length_cons, List.length_nil]; omega) fun a5 H5 h5 s5 e5 => ?_
    exact q a5 _ H5 (((s1.trans s2).trans (s3.trans s4)).trans s5) e5 (by rw [List.length_append, List.length_append]; simp only [List.length_cons, List.length_nil]; omega)
  rw [if_neg (by rw [decide_eq_true_eq]; exact c2)]
  walk_at "st"
  by_cases c3 : n % 7 = 3
  · rw [if_pos (decide_eq_true c3)]
    walk_at "st"
    refine k_slI hS fun A a1 H1 hA h1 s1 e1 => ?_
    walk_at "st"
    refine k_slI (s1.get hS) fun B a4 H4 hB h4 s4 e4 => ?_
    walk_at "st"
    refine k_catI (s4.get e1) e4 (by omega) fun a5 H5 h5 s5 e5 => ?_
    exact q a5 _ H5 ((s1.trans s4).trans s5) e5 (by rw [List.length_append]; omega)
  rw [if_neg (by rw [decide_eq_true_eq]; exact c3)]
  walk_at "st"
  by_cases c4 : n % 7 = 4
  · rw [if_pos (decide_eq_true c4)]
    walk_at "st"
    refine k_lenL (.of hS) ?_
    walk_at "st"
    rw [List.length_map]
    by_cases c4' : (k : Int) < (os.length : Int)
    · rw [if_pos (decide_eq_true c4')]
      have hlt : k < os.length := by omega
      walk_at "st"
      refine k_slI hS fun A a1 H1 hA h1 s1 e1 => ?_
      walk_at "st"
      refine k_slI (s1.get hS) fun M a2 H2 hM h2 s2 e2 => ?_
      refine ⟨a2, _, rfl, .of e2, fun a3 h3 => ?_⟩
      rw [← List.map_reverse]
      have s3 := same_new (o := .lst (M.reverse.map V.int)) h3
      have e3 := upd_same (H := H2) (a := a3) (o := .lst (M.reverse.map V.int))
      generalize upd H2 a3 (.lst (M.reverse.map V.int)) = H3 at s3 e3 ⊢
      refine k_catI ((s2.trans s3).get e1) e3 (by rw [List.length_reverse]; omega) fun a4 H4 h4 s4 e4 => ?_
      walk_at "st"
      refine k_slI (((s1.trans s2).trans (s3.trans s4)).get hS) fun B a5 H5 hB h5 s5 e5 => ?_
      walk_at "st"
      refine k_catI (s5.get e4) e5 (by rw [List.length_append, List.length_reverse]; omega) fun a6 H6 h6 s6 e6 => ?_
      exact q a6 _ H6 (((s1.trans s2).trans (s3.trans s4)).trans (s5.trans s6)) e6 (by rw [List.length_append, List.length_append, List.length_reverse]; omega)
    · rw [if_neg (by rw [decide_eq_true_eq]; exact c4')]
      walk_at "st"
      rw [if_neg (by rw [decide_eq_true_eq]; omega)]
      walk_at "st"
      exact q a os H (Same.refl _) hS (by omega)
  rw [if_neg (by rw [decide_eq_true_eq]; exact c4)]
  walk_at "st"
  by_cases c5 : n % 7 = 5
  · rw [if_pos (decide_eq_true c5)]
    walk_at "st"
    intro a1 h1
    have s1 := same_new (o := .lst [.int 0]) h1
    have e1 := upd_same (H := H) (a := a1) (o := .lst [.int 0])
    generalize upd H a1 (.lst [.int 0]) = H1 at s1 e1 ⊢
    refine k_catK (xs := os.map V.int) (zs := ([0] : List Int).map V.int) (.of (s1.get hS)) (.of e1) (by rw [List.length_map, List.length_map]; simp only [List.length_cons, List.length_nil]; omega) fun p hp => ?_
    exact q p (os ++ [0]) _ (s1.trans (same_new hp)) (by rw [upd_same, List.map_append]) (by rw [List.length_append]; simp only [List.length_cons, List.length_nil]; omega)
  rw [if_neg (by rw [decide_eq_true_eq]; exact c5)]
  walk_at "st"
  walk_at "st"
  exact q a os H (Same.refl _) hS (by omega)

--#base
/-- the depth of the k-th young, by the way that r tells (of any but 3) -/
def dk1 (r up k : Int) : Int := if r = 1 then up + 1 + k else up + 1
def dk2 (r up k : Int) : Int := if r = 2 then up + 1 + k % 2 else dk1 r up k
/-- how deep the node ahead of it has to be -/
def dkN (r up k : Int) : Int := if r = 1 then up + k else if r = 2 then up + k % 2 else if r = 0 then up else 0
theorem dkN_zero {r up l : Int} (h : 0 ≤ up) (h2 : up ≤ l) : dkN r up ((0 : Nat) : Int) ≤ l := by
  unfold dkN
  split
  · omega
  · split
    · omega
    · split <;> omega
theorem dk2_ok {r up k l : Int} (h : 0 ≤ up) (hr : 0 ≤ r ∧ r < 4 ∧ 0 ≤ k) (h2 : dkN r up k ≤ l) (h3 : r ≠ 3) : 1 ≤ dk2 r up k ∧ dk2 r up k ≤ l + 1 := by
  unfold dk2 dk1
  unfold dkN at h2
  by_cases c2 : r = 2
  · rw [if_pos c2]
    rw [if_neg (by omega), if_pos c2] at h2
    omega
  · rw [if_neg c2]
    by_cases c1 : r = 1
    · rw [if_pos c1]; rw [if_pos c1] at h2; omega
    · rw [if_neg c1]; rw [if_neg c1, if_neg c2, if_pos (by omega)] at h2; omega
theorem dkN_next {r up k d : Int} (h : 0 ≤ up) (hr : 0 ≤ r ∧ r < 4) (hk : 0 ≤ k) (hd : 1 ≤ d) (h3 : r ≠ 3 → d = dk2 r up k) : dkN r up (k + 1) ≤ d := by
  unfold dkN
  by_cases c3 : r = 3
  · rw [if_neg (by omega), if_neg (by omega), if_neg (by omega)]; omega
  · rw [h3 c3]; unfold dk2 dk1
    by_cases c1 : r = 1
    · rw [if_pos c1, if_neg (by omega), if_pos c1]; omega
    · rw [if_neg c1]
      by_cases c2 : r = 2
      · rw [if_pos c2, if_pos c2]; omega
      · rw [if_neg c2, if_pos (by omega), if_neg c2, if_neg c1]; omega

/-- _law_bits(script): a tree's brackets -/
def sp_law_bits (K : PySem.W.Frag) : Sp := fun vs H Q _ => ∃ (a : Addr) (ns : List Int), vs = [.ref a] ∧ SqL K H a (ns.map V.int) ∧ ∀ (ds : List Int) p H', Deep ds → ds.length ≤ 300 → H p = none → Same H H' → H' p = some (.lst ((brk ds).map V.int)) → Q (.ref p) H'
theorem len_law_bits (K : PySem.W.Frag) : ∀ vs H Q E, sp_law_bits K vs H Q E → vs.length = 1 := by
  rintro vs H Q E ⟨a, ns, rfl, _⟩; rfl
def t_law_bits (K : PySem.W.Frag) : TS :=
  (tSeq (tAsg (tLst (tCons (tC (.int 1)) tNil)) (gName 1))
  (tSeq (tAsg (tLst (tCons (tC (.int 0)) tNil)) (gName 2))
  (tSeq (tFor (iList K (tSl (rSlL K) (tVar 0) tNoPart (tPart (tC (.int 63))))) (gName 3)
  (tSeq (tAsg (tOp rMod (tOp rTimes (tVar 3) (tC (.int 48271))) (tC (.int 2147483647))) (gName 4))
  (tSeq (tAsg (tOp rPlus (tC (.int 1)) (tOp rMod (tOp rDiv (tVar 4) (tC (.int 32))) (tC (.int 6)))) (gName 5))
  (Evl.tCut (tIfS (tTest (tOp rEq (tOp rMod (tOp rDiv (tVar 4) (tC (.int 4))) (tC (.int 8))) (tC (.int 0))))
  (tAsg (tOp rPlus (tC (.int 1)) (tOp rMod (tOp rDiv (tVar 4) (tC (.int 32))) (tC (.int 40)))) (gName 5))
  tNext)
  (tSeq (tAsg (tOp rMod (tOp rDiv (tVar 4) (tC (.int 1280))) (tOp rPlus (tOp (rIxL K) (tVar 2) (tUn rNeg (tC (.int 1)))) (tC (.int 1)))) (gName 6))
  (tFor (iRng1 (tCons (tCB rMin2 (tCons (tVar 5) (tCons (tOp rMinus (tC (.int 300)) (tCB (rLen K) (tCons (tVar 2) tNil))) tNil))) tNil)) (gName 7)
  (tSeq (tAsg (tOp rPlus (tVar 6) (tC (.int 1))) (gName 8))
  (Evl.tCut (tIfS (tTest (tOp rEq (tOp rMod (tVar 4) (tC (.int 4))) (tC (.int 1))))
  (tAsg (tOp rPlus (tOp rPlus (tVar 6) (tC (.int 1))) (tVar 7)) (gName 8))
  tNext)
  (Evl.tCut (tIfS (tTest (tOp rEq (tOp rMod (tVar 4) (tC (.int 4))) (tC (.int 2))))
  (tAsg (tOp rPlus (tOp rPlus (tVar 6) (tC (.int 1))) (tOp rMod (tVar 7) (tC (.int 2)))) (gName 8))
  tNext)
  (Evl.tCut (tIfS (tTest (tOp rEq (tOp rMod (tVar 4) (tC (.int 4))) (tC (.int 3))))
  (tAsg (tOp rPlus (tC (.int 1)) (tOp rMod (tOp rMod (tOp rTimes (tOp rTimes (tVar 4) (tOp rPlus (tOp rTimes (tC (.int 2)) (tVar 7)) (tC (.int 3)))) (tC (.int 69621))) (tC (.int 2147483629))) (tOp rPlus (tOp (rIxL K) (tVar 2) (tUn rNeg (tC (.int 1)))) (tC (.int 1))))) (gName 8))
  tNext)
  (tSeq (tDrop (tBM K "list" rExtend (tVar 1) (tCons (tOp rRep (tLst (tCons (tC (.int 0)) tNil)) (tOp rMinus (tOp rPlus (tOp (rIxL K) (tVar 2) (tUn rNeg (tC (.int 1)))) (tC (.int 1))) (tVar 8))) tNil)))
  (tSeq (tDrop (tBM K "list" rAppend (tVar 1) (tCons (tC (.int 1)) tNil)))
  (tDrop (tBM K "list" rAppend (tVar 2) (tCons (tVar 8) tNil)))))))))))))))
  (tRet (tOp rCat (tVar 1) (tOp rRep (tLst (tCons (tC (.int 0)) tNil)) (tOp rPlus (tOp (rIxL K) (tVar 2) (tUn rNeg (tC (.int 1)))) (tC (.int 1)))))))))
abbrev n_law_bits : List Str := ["_law_script", "_law_bits_here", "_law_depths", "_law_cell", "_law_number", "_law_many", "_law_up", "_law_k", "_law_deep"]

theorem rd_law_bits (K : PySem.W.Frag) (vs : List V) (H : Hp) (Q : VK) (E : XK) (h : sp_law_bits K vs H Q E) : t_law_bits K { nx := fun _ H' => Q .non H', rt := Q } (start n_law_bits vs) H := by
  obtain ⟨a, ns, rfl, hS, q⟩ := h
  unfold t_law_bits
  walk_at "st"
  intro pb hpb
  have sb := same_new (o := .lst [.int 1]) hpb
  have eb := upd_same (H := H) (a := pb) (o := .lst [.int 1])
  generalize upd H pb (.lst [.int 1]) = Hb at sb eb ⊢
  walk_at "st"
  intro p hp
  have hpH := sb.gone _ hp
  have nbp : pb ≠ p := ne_of_none eb hp
  have s0 := sb.trans (same_new (o := .lst [.int 0]) hp)
  have e0 := upd_same (H := Hb) (a := p) (o := .lst [.int 0])
  have eb := (same_new (o := .lst [.int 0]) hp).get eb
  generalize upd Hb p (.lst [.int 0]) = H1 at s0 e0 eb ⊢
  walk_at "st"
  refine k_slTake (k := 63) (s0.seq hS) fun p2 H2 hp2 s2 e2 => ?_
  have np : p2 ≠ p := Ne.symm (ne_of_none e0 hp2)
  have np' : p2 ≠ pb := Ne.symm (ne_of_none eb hp2)
  have s02 := s0.trans s2
  refine m_iLe (.of e2) ?_
  refine loop_ints (ns := ns.take 63) (fun i σ' H' => ∃ (v3 v4 v5 v6 v7 v8 : Option V) (r : List Int), Same H H' ∧ H' p2 = some (.lst ((ns.take 63).map V.int)) ∧ H' p = some (.lst ((0 :: r).map V.int)) ∧ H' pb = some (.lst ((1 :: brkF 0 r).map V.int)) ∧ DeepT 0 r ∧ r.length ≤ 299 ∧ σ' = [some (.ref a), some (.ref pb), some (.ref p), v3, v4, v5, v6, v7, v8]) ⟨none, none, none, none, none, none, [], s02, e2, s2.get e0, s2.get eb, trivial, by simp, rfl⟩ (fun i σ' H' ⟨_, _, _, _, _, _, _, _, e, _⟩ => .of e) (fun i n σ' H' hn ⟨v3, v4, v5, v6, v7, v8, r, s, e3, e, eb, hD, hl, es⟩ => ?_) (fun σ' H' ⟨v3, v4, v5, v6, v7, v8, r, s, e3, e, eb, hD, hl, es⟩ => ?_)
  · subst es
    walk_at "st"
    generalize hm : n * 48271 % 2147483647 = m
    have hm1 : 0 ≤ m ∧ m < 2147483647 := by omega
    clear hm
    refine m_cut (fun σ' H'' => H' = H'' ∧ ∃ k : Int, 1 ≤ k ∧ k ≤ 40 ∧ σ' = [some (.ref a), some (.ref pb), some (.ref p), some (.int n), some (.int m), some (.int k), v6, v7, v8]) ?_ ?_
    · walk_at "st"
      walk_at "if" <;> intro _
      · walk_at "st"
        exact ⟨rfl, _, by omega, by omega, rfl⟩
      · walk_at "st"
        exact ⟨rfl, _, by omega, by omega, rfl⟩
    rintro σ' H'' ⟨rfl, mk, hk1, hk2, rfl⟩
    have hnn := lastD_nonneg (by decide) hD
    walk_at "st"
    refine k_ixL (.of e) (at_lastD r) ?_
    walk_at "st"
    have hu1 := Int.emod_nonneg (m / 1280) (show lastD 0 r + 1 ≠ 0 by omega)
    have hu2 := Int.emod_lt_of_pos (m / 1280) (show 0 < lastD 0 r + 1 by omega)
    generalize m / 1280 % (lastD 0 r + 1) = up at hu1 hu2 ⊢
    refine k_lenL (.of e) ?_
    walk_at "st"
    rw [List.length_map, List.length_cons]
    have hcnt : (if (300 : Int) - ((r.length + 1 : Nat) : Int) < mk then (300 : Int) - ((r.length + 1 : Nat) : Int) else mk).toNat + r.length ≤ 299 := by split <;> omega
    generalize (if (300 : Int) - ((r.length + 1 : Nat) : Int) < mk then (300 : Int) - ((r.length + 1 : Nat) : Int) else mk).toNat = cnt at hcnt ⊢
    refine loop_range0 (fun k σ' H3 => ∃ (v7 v8 : Option V) (t : List Int), Same H H3 ∧ H3 p2 = some (.lst ((ns.take 63).map V.int)) ∧ H3 p = some (.lst ((0 :: t).map V.int)) ∧ H3 pb = some (.lst ((1 :: brkF 0 t).map V.int)) ∧ DeepT 0 t ∧ t.length = r.length + k ∧ dkN (m % 4) up k ≤ lastD 0 t ∧ σ' = [some (.ref a), some (.ref pb), some (.ref p), some (.int n), some (.int m), some (.int mk), some (.int up), v7, v8]) ⟨v7, v8, r, s, e3, e, eb, hD, rfl, dkN_zero hu1 (by omega), rfl⟩ (fun k σ' H3 hk ⟨v7, v8, t, s3, e5, e4, eb4, hD4, hl4, c1, es⟩ => ?_) (fun σ' H3 ⟨v7, v8, t, s3, e5, e4, eb4, hD4, hl4, c1, es⟩ => ?_)
    · subst es
      have hn4 := lastD_nonneg (by decide) hD4
      have hx4 := lastD_le hD4
      have hdk := dk2_ok (r := m % 4) (k := (k : Int)) hu1 (by omega) c1
      walk_at "st"
      refine m_cut (fun σ' H'' => H3 = H'' ∧ σ' = [some (.ref a), some (.ref pb), some (.ref p), some (.int n), some (.int m), some (.int mk), some (.int up), some (.int (k : Int)), some (.int (dk1 (m % 4) up k))]) ?_ ?_
      · walk_at "st"
        walk_at "if" <;> intro c
        · walk_at "st"
          exact ⟨rfl, by unfold dk1; rw [if_pos c]; rfl⟩
        · walk_at "st"
          exact ⟨rfl, by unfold dk1; rw [if_neg c]; rfl⟩
      rintro σ' H'' ⟨rfl, rfl⟩
      refine m_cut (fun σ' H'' => H3 = H'' ∧ σ' = [some (.ref a), some (.ref pb), some (.ref p), some (.int n), some (.int m), some (.int mk), some (.int up), some (.int (k : Int)), some (.int (dk2 (m % 4) up k))]) ?_ ?_
      · walk_at "st"
        walk_at "if" <;> intro c
        · walk_at "st"
          exact ⟨rfl, by unfold dk2; rw [if_pos c]; rfl⟩
        · walk_at "st"
          exact ⟨rfl, by unfold dk2; rw [if_neg c]⟩
      rintro σ' H'' ⟨rfl, rfl⟩
      refine m_cut (fun σ' H'' => H3 = H'' ∧ ∃ d : Int, (m % 4 ≠ 3 → d = dk2 (m % 4) up k) ∧ 1 ≤ d ∧ d ≤ lastD 0 t + 1 ∧ σ' = [some (.ref a), some (.ref pb), some (.ref p), some (.int n), some (.int m), some (.int mk), some (.int up), some (.int (k : Int)), some (.int d)]) ?_ ?_
      · walk_at "st"
        walk_at "if" <;> intro c
        · walk_at "st"
          refine k_ixL (.of e4) (at_lastD t) ?_
          walk_at "st"
          have hx1 := Int.emod_nonneg (m * (2 * (k : Int) + 3) * 69621 % 2147483629) (show lastD 0 t + 1 ≠ 0 by omega)
          have hx2 := Int.emod_lt_of_pos (m * (2 * (k : Int) + 3) * 69621 % 2147483629) (show 0 < lastD 0 t + 1 by omega)
          generalize m * (2 * (k : Int) + 3) * 69621 % 2147483629 % (lastD 0 t + 1) = xx at hx1 hx2 ⊢
          clear hdk c1
          exact ⟨rfl, 1 + xx, fun z => absurd c z, by omega, by omega, rfl⟩
        · walk_at "st"
          exact ⟨rfl, _, fun _ => rfl, (hdk c).1, (hdk c).2, rfl⟩
      rintro σ' H'' ⟨rfl, d, d1, d4, d5, rfl⟩
      have hnx := dkN_next (k := (k : Int)) hu1 (by omega) (by omega) d4 d1
      clear d1 c1 hdk hm1
      have hFl := brkF_le (a := 0) (Int.le_refl _) hD4
      have hlast := lastD_snoc 0 t d
      have htl : t.length ≤ 299 := by omega
      walk_at "st"
      refine k_tyL (.of eb4) ?_
      walk_at "st"
      intro p3 hp3
      obtain ⟨s4, e6⟩ := new_both (o := .lst [.int 0]) hp3
      generalize upd _ p3 (.lst [.int 0]) = H4 at s4 e6 ⊢
      have e6 : H4 p3 = some (.lst (([0] : List Int).map V.int)) := e6
      walk_at "st"
      refine k_ixL (.of (s4.get e4)) (at_lastD t) ?_
      walk_at "st"
      refine k_repI e6 (by omega) (by simp only [List.length_cons, List.length_nil]; omega) fun p5 H5 c5 hp5 s5 ec5 l5 e7 => ?_
      rw [List.length_singleton] at l5
      have s45 := s4.trans s5
      have eb5 := s45.get eb4
      walk_at "st"
      refine k_extend eb5 e7 (by rw [List.length_map, List.length_map, List.length_cons]; omega) ?_
      have sx : Same H (upd H5 pb (.lst ((1 :: brkF 0 t).map V.int ++ c5.map V.int))) := Same.mut (s3.trans s45) hpb ⟨_, eb5⟩
      have ex := upd_same (H := H5) (a := pb) (o := .lst ((1 :: brkF 0 t).map V.int ++ c5.map V.int))
      have ep : (upd H5 pb (.lst ((1 :: brkF 0 t).map V.int ++ c5.map V.int))) p = some (.lst ((0 :: t).map V.int)) := (upd_ne nbp.symm).trans (s45.get e4)
      have ep2 : (upd H5 pb (.lst ((1 :: brkF 0 t).map V.int ++ c5.map V.int))) p2 = some (.lst ((ns.take 63).map V.int)) := (upd_ne np').trans (s45.get e5)
      rw [← List.map_append] at sx ex ep ep2 ⊢
      have hcl : (1 :: brkF 0 t ++ c5).length ≤ 2000 := by rw [List.length_append, List.length_cons]; omega
      have hsn : (1 :: brkF 0 t ++ c5) ++ [1] = 1 :: brkF 0 (t ++ [d]) := by
        rw [brkF_snoc, ec5, List.flatten_replicate_singleton]; rfl
      generalize (1 :: brkF 0 t ++ c5) = cs at sx ex ep ep2 hcl hsn ⊢
      generalize upd H5 pb (.lst (cs.map V.int)) = H6 at sx ex ep ep2 ⊢
      walk_at "st"
      refine k_tyL (.of ex) ?_
      walk_at "st"
      refine k_app ex (by rw [List.length_map]; omega) ?_
      have sy : Same H (upd H6 pb (.lst (cs.map V.int ++ [V.int 1]))) := Same.mut sx hpb ⟨_, ex⟩
      have ey := upd_same (H := H6) (a := pb) (o := .lst (cs.map V.int ++ [V.int 1]))
      have ep : (upd H6 pb (.lst (cs.map V.int ++ [V.int 1]))) p = some (.lst ((0 :: t).map V.int)) := (upd_ne nbp.symm).trans ep
      have ep2 : (upd H6 pb (.lst (cs.map V.int ++ [V.int 1]))) p2 = some (.lst ((ns.take 63).map V.int)) := (upd_ne np').trans ep2
      rw [show cs.map V.int ++ [V.int 1] = (1 :: brkF 0 (t ++ [d])).map V.int by rw [← hsn, List.map_append]; rfl] at sy ey ep ep2 ⊢
      generalize upd H6 pb (.lst ((1 :: brkF 0 (t ++ [d])).map V.int)) = H7 at sy ey ep ep2 ⊢
      walk_at "st"
      refine k_tyL (.of ep) ?_
      walk_at "st"
      refine k_app ep (by rw [List.length_map, List.length_cons]; omega) ?_
      refine ⟨_, _, t ++ [d], Same.mut sy hpH ⟨_, ep⟩, (upd_ne np).trans ep2, ?_, (upd_ne nbp).trans ey, deepT_snoc hD4 d4 d5, by rw [List.length_append, List.length_singleton]; omega, by rw [hlast]; exact hnx, rfl⟩
      rw [upd_same, ← List.cons_append, List.map_append]; rfl
    subst es
    exact ⟨_, _, _, _, _, _, t, s3, e5, e4, eb4, hD4, by omega, rfl⟩
  subst es
  have hFl := brkF_le (a := 0) (Int.le_refl _) hD
  have hx0 := lastD_nonneg (Int.le_refl _) hD
  have hx1 := lastD_le hD
  walk_at "st"
  intro p3 hp3
  obtain ⟨s4, e6⟩ := new_both (o := .lst [.int 0]) hp3
  generalize upd _ p3 (.lst [.int 0]) = H4 at s4 e6 ⊢
  have e6 : H4 p3 = some (.lst (([0] : List Int).map V.int)) := e6
  walk_at "st"
  refine k_ixL (.of (s4.get e)) (at_lastD r) ?_
  walk_at "st"
  refine k_repI e6 (by omega) (by simp only [List.length_cons, List.length_nil]; omega) fun p5 H5 c5 hp5 s5 ec5 l5 e7 => ?_
  rw [List.length_singleton] at l5
  have s45 := s4.trans s5
  refine k_catI (s45.get eb) e7 (by rw [List.length_cons]; omega) fun p6 H6 hp6 s6 e8 => ?_
  refine q (0 :: r) p6 H6 ⟨rfl, hD⟩ (by rw [List.length_cons]; omega) ((s.trans s45).gone _ hp6) ((s.trans s45).trans s6) ?_
  rw [e8, ec5, List.flatten_replicate_singleton]
  show _ = some (HO.lst ((1 :: brkT 0 r).map V.int))
  rw [brkF_all]; rfl

/-- what stands while octets are made -/
def OcT (H : Hp) (a : Addr) (B : Nat) (σ' : L2.St) (H' : Hp) : Prop := ∃ (p : Addr) (os : List Int) (v1 v2 v3 v5 v6 v7 : Option V), σ' = [some (.ref a), v1, v2, v3, some (.ref p), v5, v6, v7] ∧ Same H H' ∧ H' p = some (.lst (os.map V.int)) ∧ os.length ≤ B
def BtI (H : Hp) (a : Addr) (k L : Nat) (σ' : L2.St) (H' : Hp) : Prop := ∃ (p : Addr) (bs : List Int) (v3 : Option V), σ' = [some (.ref a), some (.ref p), some (.int (k : Int)), v3, none, none, none, none] ∧ Same H H' ∧ H' p = some (.lst (bs.map V.int)) ∧ Bits bs ∧ bs.length = L
/-- _law_octets(script): some octets -/
def sp_law_octets (K : PySem.W.Frag) : Sp := fun vs H Q _ => ∃ (a : Addr) (ns : List Int), vs = [.ref a] ∧ SqL K H a (ns.map V.int) ∧
  ∀ (os : List Int) p H', os.length ≤ 50000 → Same H H' → H' p = some (.lst (os.map V.int)) → Q (.ref p) H'
theorem len_law_octets (K : PySem.W.Frag) : ∀ vs H Q E, sp_law_octets K vs H Q E → vs.length = 1 := by
  rintro vs H Q E ⟨x, y, rfl, _⟩; rfl
def t_law_octets (K : PySem.W.Frag) : TS :=
  (tSeq (tAsg (tCall (sp_law_bits K) [] E0 (tCons (tVar 0) tNil)) (gName 1))
  (tSeq (tAsg (tOp rMod (tCall (sp_law_cell_at K) [] E0 (tCons (tVar 0) (tCons (tC (.int 1)) tNil))) (tCB (rLen K) (tCons (tVar 1) tNil))) (gName 2))
  (Evl.tCut (tIfS (tTest (tOp rEq (tOp rMod (tCall (sp_law_cell_at K) [] E0 (tCons (tVar 0) (tCons (tC (.int 2)) tNil))) (tC (.int 5))) (tC (.int 1))))
  (tSeq (tAsg (tSl (rSlL K) (tVar 1) (tPart (tVar 2)) (tPart (tOp rPlus (tVar 2) (tC (.int 2))))) (gName 3))
  (tAsg (tOp rCat (tOp rCat (tSl (rSlL K) (tVar 1) tNoPart (tPart (tVar 2))) (tRevL K (tVar 3))) (tSl (rSlL K) (tVar 1) (tPart (tOp rPlus (tVar 2) (tC (.int 2)))) tNoPart)) (gName 1)))
  tNext)
  (Evl.tCut (tIfS (tTest (tOp rEq (tOp rMod (tCall (sp_law_cell_at K) [] E0 (tCons (tVar 0) (tCons (tC (.int 2)) tNil))) (tC (.int 15))) (tC (.int 4))))
  (tAsg (tOp rCat (tOp rCat (tSl (rSlL K) (tVar 1) tNoPart (tPart (tVar 2))) (tLst (tCons (tOp rMinus (tC (.int 1)) (tOp (rIxL K) (tVar 1) (tVar 2))) tNil))) (tSl (rSlL K) (tVar 1) (tPart (tOp rPlus (tVar 2) (tC (.int 1)))) tNoPart)) (gName 1))
  tNext)
  (tSeq (tAsg (tCall (sp_law_written K) [] E0 (tCons (tVar 1) tNil)) (gName 4))
  (Evl.tCut (tIfS (tTest (tOp rEq (tOp rMod (tCall (sp_law_cell_at K) [] E0 (tCons (tVar 0) (tCons (tC (.int 0)) tNil))) (tC (.int 3))) (tC (.int 1))))
  (tFor (iRng1 (tCons (tOp rPlus (tC (.int 1)) (tOp rMod (tCall (sp_law_cell_at K) [] E0 (tCons (tVar 0) (tCons (tC (.int 3)) tNil))) (tC (.int 3)))) tNil)) (gName 5)
  (tAsg (tCall (sp_law_changed K) [] E0 (tCons (tVar 4) (tCons (tCall (sp_law_cell_at K) [] E0 (tCons (tVar 0) (tCons (tOp rPlus (tC (.int 4)) (tVar 5)) tNil))) tNil))) (gName 4)))
  tNext)
  (Evl.tCut (tIfS (tTest (tOp rEq (tOp rMod (tCall (sp_law_cell_at K) [] E0 (tCons (tVar 0) (tCons (tC (.int 0)) tNil))) (tC (.int 9))) (tC (.int 2))))
  (tAsg (tOp rCat (tLst (tCons (tC (.int 2)) tNil)) (tLc (iList K (tSl (rSlL K) (tVar 0) tNoPart (tPart (tC (.int 63))))) (gName 6) tYes (tOp rMod (tVar 6) (tC (.int 256))) [6])) (gName 4))
  tNext)
  (Evl.tCut (tIfS (tTest (tOp rEq (tOp rMod (tCall (sp_law_cell_at K) [] E0 (tCons (tVar 0) (tCons (tC (.int 0)) tNil))) (tC (.int 27))) (tC (.int 6))))
  (tSeq (tAsg (tOp rMod (tOp rDiv (tCall (sp_law_cell_at K) [] E0 (tCons (tVar 0) (tCons (tC (.int 0)) tNil))) (tC (.int 27))) (tC (.int 3))) (gName 7))
  (tSeq (tAsg (tOp rCat (tOp rCat (tLst (tCons (tC (.int 1)) tNil)) (tOp rRep (tLst (tCons (tC (.int 1)) (tCons (tC (.int 0)) tNil))) (tOp rPlus (tC (.int 2046)) (tVar 7)))) (tLst (tCons (tC (.int 0)) tNil))) (gName 1))
  (Evl.tCut (tIfS (tTest (tOp rEq (tVar 7) (tC (.int 0))))
  (tAsg (tOp rCat (tOp rRep (tLst (tCons (tC (.int 1)) tNil)) (tC (.int 2048))) (tOp rRep (tLst (tCons (tC (.int 0)) tNil)) (tC (.int 2048)))) (gName 1))
  tNext)
  (tAsg (tCall (sp_law_written K) [] E0 (tCons (tVar 1) tNil)) (gName 4)))))
  tNext)
  (tRet (tVar 4))))))))))
abbrev n_law_octets : List Str := ["_law_script", "_law_bits_here", "_law_at", "_law_two_here", "_law_octets_here", "_law_k", "_law_cell", "_law_way"]

theorem rd_law_octets (K : PySem.W.Frag) (vs : List V) (H : Hp) (Q : VK) (E : XK) (h : sp_law_octets K vs H Q E) : t_law_octets K { nx := fun _ H' => Q .non H', rt := Q } (start n_law_octets vs) H := by
  obtain ⟨a, ns, rfl, hS, q⟩ := h
  unfold t_law_octets
  walk_at "st"
  refine ⟨a, ns, rfl, hS, fun ds p1 H1 hD hdl hp1 s1 e1 => ?_⟩
  have hbl := brk_len hD
  have hB := (brk_tree hD).2
  have hds : 0 < ds.length := by
    obtain ⟨r, rfl, _⟩ := hD.cons
    rw [List.length_cons]; omega
  generalize brk ds = bs at e1 hbl hB
  walk_at "st"
  refine call_cell_at (s1.seq hS) (by decide) fun c1 hc1 => ?_
  walk_at "st"
  refine k_lenL (.of e1) ?_
  walk_at "st"
  rw [List.length_map]
  have hbp : 0 < bs.length := by omega
  walk_at "st"
  obtain ⟨k, hk, hkl⟩ : ∃ k : Nat, (c1 % ((bs.length : Nat) : Int)) = (k : Int) ∧ k < bs.length := by
    have m0 := Int.emod_nonneg c1 (show ((bs.length : Nat) : Int) ≠ 0 by omega)
    have m1 := Int.emod_lt_of_pos c1 (show (0 : Int) < ((bs.length : Nat) : Int) by omega)
    exact ⟨(c1 % ((bs.length : Nat) : Int)).toNat, by omega, by omega⟩
  rw [hk]
  clear hk
  obtain ⟨L, hL⟩ : ∃ L, L = bs.length := ⟨_, rfl⟩
  rw [← hL] at hkl hbl
  refine m_cut (fun σ' H' => BtI H a k L σ' H') ?_ ?_
  · walk_at "st"
    refine call_cell_at (s1.seq hS) (by decide) fun c2 hc2 => ?_
    walk_at "st"
    walk_at "if" <;> intro z1
    · walk_at "st"
      refine k_slL (.of e1) fun q1 hq1 => ?_
      rw [show ((k : Nat) : Int) + 2 = ((k + 2 : Nat) : Int) by omega, cutPart, ← List.map_take, ← List.map_drop]
      have tBits : Bits ((bs.take (k + 2)).drop k) := fun x hx => hB x (List.mem_of_mem_take (List.mem_of_mem_drop hx))
      have tl : ((bs.take (k + 2)).drop k).length = min (k + 2) bs.length - k := by rw [List.length_drop, List.length_take]
      generalize (bs.take (k + 2)).drop k = tw at tBits tl ⊢
      have t1 := same_new (o := .lst (tw.map V.int)) hq1
      have f1 := upd_same (H := H1) (a := q1) (o := .lst (tw.map V.int))
      generalize upd H1 q1 (.lst (tw.map V.int)) = H2 at t1 f1 ⊢
      walk_at "st"
      refine k_slTake (k := k) (.of (t1.get e1)) fun q2 H3 hq2 t2 f2 => ?_
      walk_at "st"
      refine ⟨q1, _, rfl, .of (t2.get f1), fun q3 hq3 => ?_⟩
      rw [← List.map_reverse]
      have t3 := same_new (o := .lst (tw.reverse.map V.int)) hq3
      have f3 := upd_same (H := H3) (a := q3) (o := .lst (tw.reverse.map V.int))
      generalize upd H3 q3 (.lst (tw.reverse.map V.int)) = H4 at t3 f3 ⊢
      refine k_catI (t3.get f2) f3 (by rw [List.length_take, List.length_reverse]; omega) fun q4 H5 hq4 t4 f4 => ?_
      walk_at "st"
      rw [show ((k : Nat) : Int) + 2 = ((k + 2 : Nat) : Int) by omega]
      have t14 := ((t1.trans t2).trans t3).trans t4
      refine k_slDrop (k := k + 2) (.of (t14.get e1)) fun q5 H6 hq5 t5 f5 => ?_
      refine k_catI (t5.get f4) f5 (by rw [List.length_append, List.length_take, List.length_reverse, List.length_drop]; omega) fun q6 H7 hq6 t6 f6 => ?_
      refine ⟨q6, _, _, rfl, s1.trans (t14.trans (t5.trans t6)), f6, fun x hx => ?_, by rw [List.length_append, List.length_append, List.length_take, List.length_reverse, List.length_drop]; omega⟩
      rcases List.mem_append.mp hx with hx | hx
      · rcases List.mem_append.mp hx with hx | hx
        · exact hB x (List.mem_of_mem_take hx)
        · exact tBits x (List.mem_reverse.mp hx)
      · exact hB x (List.mem_of_mem_drop hx)
    · walk_at "st"
      exact ⟨p1, bs, _, rfl, s1, e1, hB, hL.symm⟩
  clear hB hL e1 s1 hp1 hD
  rintro σ' H1 ⟨p1, bs, v3, rfl, s1, e1, hB, hL⟩
  refine m_cut (fun σ' H' => BtI H a k L σ' H') ?_ ?_
  · walk_at "st"
    refine call_cell_at (s1.seq hS) (by decide) fun c2 hc2 => ?_
    walk_at "st"
    walk_at "if" <;> intro z1
    · walk_at "st"
      refine k_slTake (k := k) (.of e1) fun q2 H3 hq2 t2 f2 => ?_
      walk_at "st"
      have hkb : k < bs.length := by omega
      refine k_ixL (.of (t2.get e1)) (at_int (i := (k : Int)) (by omega) (by rw [Int.toNat_natCast]; exact mapint (List.getElem?_eq_getElem hkb))) ?_
      walk_at "st"
      have hbk := hB _ (List.getElem_mem hkb)
      generalize bs[k] = b at hbk
      intro q3 hq3
      have t3 := same_new (o := .lst [.int (1 - b)]) hq3
      have f3 : upd H3 q3 (.lst [.int (1 - b)]) q3 = some (.lst (([1 - b] : List Int).map V.int)) := upd_same
      generalize upd H3 q3 (.lst [.int (1 - b)]) = H4 at t3 f3 ⊢
      walk_at "st"
      refine k_catI (t3.get f2) f3 (by rw [List.length_take]; simp only [List.length_cons, List.length_nil]; omega) fun q4 H5 hq4 t4 f4 => ?_
      walk_at "st"
      rw [show ((k : Nat) : Int) + 1 = ((k + 1 : Nat) : Int) by omega]
      have t14 := (t2.trans t3).trans t4
      refine k_slDrop (k := k + 1) (.of (t14.get e1)) fun q5 H6 hq5 t5 f5 => ?_
      refine k_catI (t5.get f4) f5 (by rw [List.length_append, List.length_take, List.length_drop]; simp only [List.length_cons, List.length_nil]; omega) fun q6 H7 hq6 t6 f6 => ?_
      refine ⟨q6, _, _, rfl, s1.trans (t14.trans (t5.trans t6)), f6, fun x hx => ?_, by rw [List.length_append, List.length_append, List.length_take, List.length_drop]; simp only [List.length_cons, List.length_nil]; omega⟩
      rcases List.mem_append.mp hx with hx | hx
      · rcases List.mem_append.mp hx with hx | hx
        · exact hB x (List.mem_of_mem_take hx)
        · rw [List.mem_singleton.mp hx]; omega
      · exact hB x (List.mem_of_mem_drop hx)
    · walk_at "st"
      exact ⟨p1, bs, _, rfl, s1, e1, hB, hL⟩
  clear hB hL e1 s1
  rintro σ' H1 ⟨p1, bs, v3, rfl, s1, e1, hB, hL⟩
  walk_at "st"
  refine ⟨p1, bs, rfl, e1, hB, by omega, fun p2 H2 hp2 s2 e2 => ?_⟩
  have hol := treeC_len bs
  generalize treeC bs = os at e2 hol
  replace s2 := s1.trans s2
  walk_at "st"
  refine m_cut (fun σ' H' => OcT H a 31000 σ' H') ?_ ?_
  · walk_at "st"
    refine call_cell_at (s2.seq hS) (by decide) fun c2 hc2 => ?_
    walk_at "st"
    walk_at "if" <;> intro z1
    · walk_at "st"
      refine call_cell_at (s2.seq hS) (by decide) fun c2 hc2 => ?_
      walk_at "st"
      obtain ⟨m, hm, hm2⟩ : ∃ m : Nat, (1 + c2 % 3).toNat = m ∧ m ≤ 3 := ⟨_, rfl, by omega⟩
      rw [hm]
      refine loop_range0 (fun i σ H' => ∃ p os v1 v2 v3 v5 v6 v7, σ = [some (.ref a), v1, v2, v3, some (.ref p), v5, v6, v7] ∧ Same H H' ∧ H' p = some (.lst (os.map V.int)) ∧ i ≤ 3 ∧ (i = 0 → os.length ≤ 1100) ∧ (i = 1 → os.length ≤ 3303) ∧ (i = 2 → os.length ≤ 9912) ∧ (i = 3 → os.length ≤ 29739)) ⟨p2, os, _, _, _, _, _, _, rfl, s2, e2, by omega, fun _ => by omega, fun z => by omega, fun z => by omega, fun z => by omega⟩ ?_ ?_
      · rintro i σ H' hi ⟨p, os, v1, v2, v3, v5, v6, v7, rfl, s1, e1, hi3, i0, i1, i2, i3⟩
        walk_at "st"
        refine call_cell_at (s1.seq hS) (by omega) fun c3 hc3 => ?_
        walk_at "st"
        refine ⟨p, os, c3, rfl, e1, by omega, fun p2 os2 H2 s2 e2 hl2 => ?_⟩
        exact ⟨p2, os2, _, _, _, _, _, _, rfl, s1.trans s2, e2, by omega, fun z => by omega, fun z => by omega, fun z => by omega, fun z => by omega⟩
      · rintro σ H' ⟨p, os, v1, v2, v3, v5, v6, v7, rfl, s1, e1, hi3, i0, i1, i2, i3⟩
        exact ⟨p, os, _, _, _, _, _, _, rfl, s1, e1, by omega⟩
    · walk_at "st"
      exact ⟨p2, os, _, _, _, _, _, _, rfl, s2, e2, by omega⟩
  clear e2 s2 hol e1 s1
  rintro σ' H1 ⟨p, os, v1, v2, v3, v5, v6, v7, rfl, s1, e1, hol⟩
  refine m_cut (fun σ' H' => OcT H a 31000 σ' H') ?_ ?_
  · walk_at "st"
    refine call_cell_at (s1.seq hS) (by decide) fun c2 hc2 => ?_
    walk_at "st"
    walk_at "if" <;> intro z1
    · walk_at "st"
      intro q1 hq1
      have t1 := same_new (o := .lst [.int 2]) hq1
      have f1 : upd H1 q1 (.lst [.int 2]) q1 = some (.lst (([2] : List Int).map V.int)) := upd_same
      generalize upd H1 q1 (.lst [.int 2]) = H2 at t1 f1 ⊢
      walk_at "st"
      refine k_slTake (k := 63) ((s1.trans t1).seq hS) fun l1 H3 hl1 t2 f2 => ?_
      refine m_iLe (.of f2) ?_
      have hl63 : (ns.take 63).length ≤ 63 := by rw [List.length_take]; omega
      generalize ns.take 63 = fs at f2 hl63 ⊢
      refine comp_walkV (f := fun i => fs[i]?.map fun n => V.int (n % 256)) (walk_list (K := K) (xs := fs.map V.int)) (by rw [List.length_map]; omega) (fun H' s' => .of (s'.get f2)) (fun i v Hb Hc Qb hk sk hy qb => ?_) (fun pm Hb hpm sb eb => ?_)
      · obtain ⟨rfl, ev⟩ := hy
        obtain ⟨n, hn, rfl⟩ := of_mapint ev
        refine k_yes ?_
        refine qb true _ (Same.refl _) (fun _ Q2 H4 s4 => ⟨_, by rw [hn]; rfl, fun q2 => ?_⟩) (fun z => nomatch z)
        walk_at "st"
        exact q2 _ (Same.refl _)
      rw [List.length_map, fm_opt] at eb
      have eb : Hb pm = some (.lst ((fs.map fun n => n % 256).map V.int)) := by rw [eb, List.map_map]; rfl
      refine k_catI ((t2.trans sb).get f1) eb (by rw [List.length_map]; simp only [List.length_cons, List.length_nil]; omega) fun p3 H3 hp3 t3 e3 => ?_
      exact ⟨p3, _, _, _, _, _, _, _, rfl, (s1.trans t1).trans ((t2.trans sb).trans t3), e3, by rw [List.length_append, List.length_map]; simp only [List.length_cons, List.length_nil]; omega⟩
    · walk_at "st"
      exact ⟨p, os, _, _, _, _, _, _, rfl, s1, e1, hol⟩
  clear e1 s1 hol
  rintro σ' H1 ⟨p, os, v1, v2, v3, v5, v6, v7, rfl, s1, e1, hol⟩
  refine m_cut (fun σ' H' => OcT H a 31000 σ' H') ?_ ?_
  · walk_at "st"
    refine call_cell_at (s1.seq hS) (by decide) fun c2 hc2 => ?_
    walk_at "st"
    walk_at "if" <;> intro z1
    · walk_at "st"
      refine call_cell_at (s1.seq hS) (by decide) fun c3 hc3 => ?_
      walk_at "st"
      obtain ⟨w, hw, hw0, hw2⟩ : ∃ w : Int, c3 / 27 % 3 = w ∧ 0 ≤ w ∧ w ≤ 2 := ⟨_, rfl, by omega, by omega⟩
      rw [hw]
      clear hw
      intro q1 hq1
      have t1 := same_new (o := .lst [.int 1]) hq1
      have f1 : upd H1 q1 (.lst [.int 1]) q1 = some (.lst (([1] : List Int).map V.int)) := upd_same
      generalize upd H1 q1 (.lst [.int 1]) = H2 at t1 f1 ⊢
      walk_at "st"
      intro q2 hq2
      have t2 := same_new (o := .lst [.int 1, .int 0]) hq2
      have f2 : upd H2 q2 (.lst [.int 1, .int 0]) q2 = some (.lst (([1, 0] : List Int).map V.int)) := upd_same
      generalize upd H2 q2 (.lst [.int 1, .int 0]) = H3 at t2 f2 ⊢
      walk_at "st"
      refine k_repI f2 (by omega) (by simp only [List.length_cons, List.length_nil]; omega) fun q3 H4 rs hq3 t3 ers hrl f3 => ?_
      have hrB : Bits rs := fun x hx => by
        rw [ers] at hx
        obtain ⟨l, hl, hx⟩ := List.mem_flatten.mp hx
        rw [List.eq_of_mem_replicate hl] at hx
        simp only [List.mem_cons, List.not_mem_nil, or_false] at hx
        omega
      have hrl : rs.length ≤ 4096 := by rw [hrl]; simp only [List.length_cons, List.length_nil]; omega
      clear ers
      refine k_catI ((t2.trans t3).get f1) f3 (by simp only [List.length_cons, List.length_nil]; omega) fun q4 H5 hq4 t4 f4 => ?_
      walk_at "st"
      intro q5 hq5
      have t5 := same_new (o := .lst [.int 0]) hq5
      have f5 : upd H5 q5 (.lst [.int 0]) q5 = some (.lst (([0] : List Int).map V.int)) := upd_same
      generalize upd H5 q5 (.lst [.int 0]) = H6 at t5 f5 ⊢
      walk_at "st"
      refine k_catI (t5.get f4) f5 (by rw [List.length_append]; simp only [List.length_cons, List.length_nil]; omega) fun q6 H7 hq6 t6 f6 => ?_
      have s7 := (s1.trans ((t1.trans t2).trans (t3.trans t4))).trans (t5.trans t6)
      have hB6 : Bits ([1] ++ rs ++ [0]) := fun x hx => by
        rcases List.mem_append.mp hx with hx | hx
        · rcases List.mem_append.mp hx with hx | hx
          · rw [List.mem_singleton.mp hx]; exact .inr rfl
          · exact hrB x hx
        · rw [List.mem_singleton.mp hx]; exact .inl rfl
      have hl6 : ([1] ++ rs ++ [0]).length ≤ 4098 := by rw [List.length_append, List.length_append]; simp only [List.length_cons, List.length_nil]; omega
      generalize [1] ++ rs ++ [0] = bs at f6 hB6 hl6
      walk_at "st"
      refine m_cut (fun σ' H' => ∃ (pb : Addr) (bs : List Int), Same H H' ∧ H' pb = some (.lst (bs.map V.int)) ∧ Bits bs ∧ bs.length ≤ 4098 ∧ σ' = [some (.ref a), some (.ref pb), v2, v3, some (.ref p), v5, v6, some (.int w)]) ?_ ?_
      · walk_at "st"
        walk_at "if" <;> intro z2
        · walk_at "st"
          intro u1 hu1
          have r1 := same_new (o := .lst [.int 1]) hu1
          have g1 : upd H7 u1 (.lst [.int 1]) u1 = some (.lst (([1] : List Int).map V.int)) := upd_same
          generalize upd H7 u1 (.lst [.int 1]) = H8 at r1 g1 ⊢
          walk_at "st"
          refine k_repI g1 (by decide) (by decide) fun u2 H9 as hu2 r2 eas hal g2 => ?_
          walk_at "st"
          intro u3 hu3
          have r3 := same_new (o := .lst [.int 0]) hu3
          have g3 : upd H9 u3 (.lst [.int 0]) u3 = some (.lst (([0] : List Int).map V.int)) := upd_same
          generalize upd H9 u3 (.lst [.int 0]) = H10 at r3 g3 ⊢
          walk_at "st"
          refine k_repI g3 (by decide) (by decide) fun u4 H11 zs hu4 r4 ezs hzl g4 => ?_
          have hal : as.length = 2048 := by rw [hal]; rfl
          have hzl : zs.length = 2048 := by rw [hzl]; rfl
          have haB : Bits as := fun x hx => by
            rw [eas] at hx
            obtain ⟨l, hl, hx⟩ := List.mem_flatten.mp hx
            rw [List.eq_of_mem_replicate hl] at hx
            rw [List.mem_singleton.mp hx]; exact .inr rfl
          have hzB : Bits zs := fun x hx => by
            rw [ezs] at hx
            obtain ⟨l, hl, hx⟩ := List.mem_flatten.mp hx
            rw [List.eq_of_mem_replicate hl] at hx
            rw [List.mem_singleton.mp hx]; exact .inl rfl
          clear eas ezs
          refine k_catI ((r3.trans r4).get g2) g4 (by omega) fun u5 H12 hu5 r5 g5 => ?_
          exact ⟨u5, _, s7.trans (((r1.trans r2).trans (r3.trans r4)).trans r5), g5, fun x hx => (List.mem_append.mp hx).elim (haB x) (hzB x), by rw [List.length_append]; omega, rfl⟩
        · walk_at "st"
          exact ⟨q6, bs, s7, f6, hB6, hl6, rfl⟩
      clear f6 hB6 hl6 s7
      rintro σ' H8 ⟨pb, bs, s8, e8, hB8, hl8, rfl⟩
      walk_at "st"
      refine ⟨pb, bs, rfl, e8, hB8, by omega, fun p9 H9 hp9 s9 e9 => ?_⟩
      exact ⟨p9, _, _, _, _, _, _, _, rfl, s8.trans s9, e9, by rw [treeC_len]; omega⟩
    · walk_at "st"
      exact ⟨p, os, _, _, _, _, _, _, rfl, s1, e1, hol⟩
  clear e1 s1 hol
  rintro σ' H1 ⟨p, os, v1, v2, v3, v5, v6, v7, rfl, s1, e1, hol⟩
  walk_at "st"
  exact q os p H1 (by omega) s1 e1

--#base
/-! numbers of two and of four octets -/
theorem drop_cons4 {os : List Int} {k : Nat} (h : k < os.length) : os.drop k = os.getD k 0 :: os.drop (k + 1) := by
  rw [List.drop_eq_getElem_cons h, List.getD_eq_getElem?_getD, List.getElem?_eq_getElem h]; rfl
def w4 (os : List Int) (k : Nat) : Int := os.getD k 0 + 256 * os.getD (k + 1) 0 + 65536 * (os.getD (k + 2) 0 + 256 * os.getD (k + 3) 0)
def w2 (os : List Int) (k : Nat) : Int := os.getD k 0 + 256 * os.getD (k + 1) 0
theorem num4 {os : List Int} {k : Nat} (h : k + 4 ≤ os.length) : num ((os.drop k).take 4) = w4 os k := by
  rw [drop_cons4 (k := k) (by omega), drop_cons4 (k := k + 1) (by omega), drop_cons4 (k := k + 1 + 1) (by omega), drop_cons4 (k := k + 1 + 1 + 1) (by omega)]
  show os.getD k 0 + 256 * (os.getD (k + 1) 0 + 256 * (os.getD (k + 2) 0 + 256 * (os.getD (k + 3) 0 + 256 * num (List.take 0 _)))) = _
  rw [List.take_zero]
  unfold w4
  show _ + 256 * (_ + 256 * (_ + 256 * (_ + 256 * 0))) = _
  omega
theorem num2 {os : List Int} {k : Nat} (h : k + 2 ≤ os.length) : num ((os.drop k).take 2) = w2 os k := by
  rw [drop_cons4 (k := k) (by omega), drop_cons4 (k := k + 1) (by omega)]
  show os.getD k 0 + 256 * (os.getD (k + 1) 0 + 256 * num (List.take 0 _)) = _
  rw [List.take_zero]
  unfold w2
  show _ + 256 * (_ + 256 * 0) = _
  omega
/-- the numbers that a tree's octets tell -/
theorem tree_words {ds : List Int} (hD : Deep ds) (hl : ds.length ≤ 2048) {n : Nat} (hn : n = ((brk ds).length + 31) / 32) :
    (List.range n).map (fun i => w4 (treeO (brk ds)) (3 + 4 * i)) = blks (brk ds) ∧ (List.range (2 * n + 1)).map (fun i => w2 (treeO (brk ds)) (3 + 4 * n + 2 * i)) = aheadT (brk ds) ++ lowsOf (brk ds) := by
  obtain ⟨hT, hB⟩ := brk_tree hD
  have hb := brk_len hD
  have hlen := treeO_len' (brk ds)
  rw [← hn] at hlen
  generalize brk ds = bs at hT hB hb hlen hn ⊢
  have e1 := numsO_fldO 4 (blks bs) (blks_lt hB)
  rw [blks_len, ← hn, ← lay_mid 2 bs (fldO (aheadT bs) 2 ++ fldO (lowsOf bs) 2), ← treeO_lay, ← hn] at e1
  have e2 := numsO_fldO 2 (aheadT bs ++ lowsOf bs) (fun x hx => by
    rcases List.mem_append.mp hx with hx | hx
    · obtain ⟨j, hj⟩ := List.mem_iff_getElem?.mp hx
      have hlt := (List.getElem?_eq_some_iff.mp hj).1
      rw [aheadT_len] at hlt
      rw [aheadT_get bs (by omega)] at hj
      have e : sumTo bs (32 * j) = x := Option.some.inj hj
      obtain ⟨h1, h2⟩ := sumTo_range hB (32 * j)
      exact ⟨by omega, by show x < 65536; have : sumTo bs (32 * j) ≤ 4200 := by omega
                          omega⟩
    · have h0 := (lows_big hB hT (by omega) x hx).1
      obtain ⟨j, hj⟩ := List.mem_iff_getElem?.mp hx
      have hlt := (List.getElem?_eq_some_iff.mp hj).1
      rw [lowsOf_len] at hlt
      rw [lowsOf_get bs hlt] at hj
      have e : lowOf bs j = x := Option.some.inj hj
      have := lowOf_most hB hlt (by omega)
      exact ⟨h0, by show x < 65536; omega⟩)
  have et : fldO (aheadT bs ++ lowsOf bs) 2 = (treeO bs).drop (3 + 4 * n) := by
    rw [treeO_lay]
    have l1 : (2 :: (octs (bs.length : Int) 2 ++ fldO (blks bs) 4)).length = 3 + 4 * n := by rw [List.length_cons, List.length_append, octs_len, fldO_len, blks_len]; omega
    rw [show lay 2 bs (fldO (aheadT bs) 2 ++ fldO (lowsOf bs) 2) = (2 :: (octs (bs.length : Int) 2 ++ fldO (blks bs) 4)) ++ (fldO (aheadT bs) 2 ++ fldO (lowsOf bs) 2) by
      unfold lay; rw [List.cons_append, List.append_assoc]]
    rw [← l1, List.drop_left]
    unfold fldO
    rw [List.map_append, List.flatten_append]
  rw [et, List.length_append, aheadT_len, lowsOf_len, ← hn] at e2
  generalize treeO bs = os at e1 e2 hlen ⊢
  constructor
  · rw [← e1]
    unfold numsO
    refine List.map_congr_left fun i hi => ?_
    have hi := List.mem_range.mp hi
    rw [← num4 (by omega), List.drop_drop, List.drop_take, List.take_take]
    congr 2; omega
  · rw [← e2]
    unfold numsO
    rw [show n + 1 + n = 2 * n + 1 by omega]
    refine List.map_congr_left fun i hi => ?_
    have hi := List.mem_range.mp hi
    rw [← num2 (by omega), List.drop_drop]
theorem k_listT' {K : PySem.W.Frag} {H : Hp} {Q : VK} {p : Addr} {xs : List V} (h : SqT K H p xs) (q : ∀ l, H l = none → Q (.ref l) (upd H l (.lst xs))) : rListOf K [.ref p] H Q := ⟨p, xs, rfl, .inr h, q⟩
theorem rgC_4 {a n : Nat} (hn : a + 4 * n ≤ 100000) : RgC (a : Int) ((a + 4 * n : Nat) : Int) 4 n := by
  have e : Builtin.Range.rangeSize (a : Int) ((a + 4 * n : Nat) : Int) 4 = (n : Int) := by
    unfold Builtin.Range.rangeSize
    rw [if_pos (by decide)]
    split <;> omega
  refine ⟨by decide, by decide, ?_, e⟩
  unfold Builtin.Range.small
  rw [e]
  have f : ∀ i : Int, 0 ≤ i → i < 1000000 → Builtin.Range.rangeFitsLong i = true := fun i h0 h1 => by
    unfold Builtin.Range.rangeFitsLong
    rw [Bool.and_eq_true]
    exact ⟨decide_eq_true (by omega), decide_eq_true (by omega)⟩
  rw [f a (by omega) (by omega), f _ (by omega) (by omega), f 4 (by decide) (by decide), f _ (by omega) (by omega), if_pos (by decide), f _ (by omega) (by omega)]
  simp
theorem rgC_2 {a n : Nat} (hn : a + 2 * n ≤ 100000) : RgC (a : Int) ((a + 2 * n : Nat) : Int) 2 n := by
  have e : Builtin.Range.rangeSize (a : Int) ((a + 2 * n : Nat) : Int) 2 = (n : Int) := by
    unfold Builtin.Range.rangeSize
    rw [if_pos (by decide)]
    split <;> omega
  refine ⟨by decide, by decide, ?_, e⟩
  unfold Builtin.Range.small
  rw [e]
  have f : ∀ i : Int, 0 ≤ i → i < 1000000 → Builtin.Range.rangeFitsLong i = true := fun i h0 h1 => by
    unfold Builtin.Range.rangeFitsLong
    rw [Bool.and_eq_true]
    exact ⟨decide_eq_true (by omega), decide_eq_true (by omega)⟩
  rw [f a (by omega) (by omega), f _ (by omega) (by omega), f 2 (by decide) (by decide), f _ (by omega) (by omega), if_pos (by decide), f _ (by omega) (by omega)]
  simp
theorem at_getD {os : List Int} {i : Int} {k : Nat} (e : i = (k : Int)) (h : k < os.length) : atI (os.map V.int) i = some (.int (os.getD k 0)) := by
  subst e
  refine at_int (by omega) ?_
  rw [Int.toNat_natCast, List.getD_eq_getElem?_getD, List.getElem?_eq_getElem h]
  exact mapint (List.getElem?_eq_getElem h)
/-- _law_opened(octets, depths) -/
def sp_law_opened (K : PySem.W.Frag) (CL : CLs) : Sp := fun vs H Q _ => ∃ (a d : Addr) (os ds : List Int), vs = [.ref a, .ref d] ∧ H a = some (.lst (os.map V.int)) ∧ H d = some (.lst (ds.map V.int)) ∧ IsTr os ds ∧ NdefX.TabN H (tabP K "look_of") nmL ∧ ∀ H', Same H H' → Q (.bl true) H'
theorem len_law_opened (K : PySem.W.Frag) (CL : CLs) : ∀ vs H Q E, sp_law_opened K CL vs H Q E → vs.length = 2 := by
  rintro vs H Q E ⟨x, y, z, _, rfl, _⟩; rfl
def t_law_opened (K : PySem.W.Frag) (CL : CLs) : TS :=
  (tSeq (tAsg (tCB (rListOf K) (tCons (tVar 0) tNil)) (gName 2))
  (tSeq (tAsg (tCall (sp_law_told K CL) [] E0 (tCons (tC (.int 1)) (tCons (tVar 2) tNil))) (gName 3))
  (tSeq (tIfS (tTest (tOp (rNeD K) (tVar 2) (tVar 0)))
  (tRet (tC (.bl false)))
  tNext)
  (tSeq (tAsg (tOp rMinus (tC (.int 255)) (tOp (rIxL K) (tVar 2) (tC (.int 3)))) (gSub (tVar 2) (tC (.int 3)) rSetL))
  (tSeq (tIfS (tOr (tNot (tB (tCB rIsB (tCons (tVar 3) (tCons (tC (.ty "tuple")) tNil))))) (tTest (tOp rNe (tCB (rLen K) (tCons (tVar 3) tNil)) (tC (.int 2)))))
  (tRet (tC (.bl false)))
  tNext)
  (tSeq (tAsg (tVar 3) (gTup K 2 (gCons (gName 4) (gCons (gName 5) gNil))))
  (tSeq (tIfS (tOr (tNot (tB (tCB rIsB (tCons (tVar 4) (tCons (tC (.ty "tuple")) tNil))))) (tTest (tOp rNe (tCB (rLen K) (tCons (tVar 4) tNil)) (tC (.int 3)))))
  (tRet (tC (.bl false)))
  tNext)
  (tSeq (tAsg (tOp rDiv (tOp rPlus (tOp rTimes (tC (.int 2)) (tCB (rLen K) (tCons (tVar 1) tNil))) (tC (.int 31))) (tC (.int 32))) (gName 6))
  (tSeq (tAsg (tOp rDiv (tCB (rLen K) (tCons (tOp (rIxT K) (tVar 4) (tC (.int 2))) tNil)) (tC (.int 2))) (gName 7))
  (tSeq (tAsg (tOp rCat (tLst (tCons (tOp (rIxT K) (tVar 4) (tC (.int 0))) tNil)) (tLc (iRng1 (tCons (tVar 6) tNil)) (gName 9) tYes (tCallV CL 9 5 (tCons (tVar 9) tNil)) [9])) (gName 8))
  (tSeq (tAsg (tOp rCat (tOp rCat (tVar 8) (tCB (rListOf K) (tCons (tOp (rIxT K) (tVar 4) (tC (.int 1))) tNil))) (tCB (rListOf K) (tCons (tSl (rSlT K) (tOp (rIxT K) (tVar 4) (tC (.int 2))) (tPart (tVar 7)) (tPart (tOp rPlus (tVar 7) (tVar 6)))) tNil))) (gName 8))
  (tSeq (tAsg (tLst (tCons (tOp rTimes (tC (.int 2)) (tCB (rLen K) (tCons (tVar 1) tNil))) tNil)) (gName 10))
  (tSeq (tFor (iRng3 (tCons (tC (.int 3)) (tCons (tOp rPlus (tC (.int 3)) (tOp rTimes (tC (.int 4)) (tVar 6))) (tCons (tC (.int 4)) tNil)))) (gName 11)
  (tSeq (tAsg (tOp rPlus (tOp (rIxL K) (tVar 0) (tOp rPlus (tVar 11) (tC (.int 2)))) (tOp rTimes (tC (.int 256)) (tOp (rIxL K) (tVar 0) (tOp rPlus (tVar 11) (tC (.int 3)))))) (gName 12))
  (tDrop (tBM K "list" rAppend (tVar 10) (tCons (tOp rPlus (tOp rPlus (tOp (rIxL K) (tVar 0) (tVar 11)) (tOp rTimes (tC (.int 256)) (tOp (rIxL K) (tVar 0) (tOp rPlus (tVar 11) (tC (.int 1)))))) (tOp rTimes (tC (.int 65536)) (tVar 12))) tNil)))))
  (tSeq (tAsg (tOp rCat (tVar 10) (tLc (iRng3 (tCons (tOp rPlus (tC (.int 3)) (tOp rTimes (tC (.int 4)) (tVar 6))) (tCons (tCB (rLen K) (tCons (tVar 0) tNil)) (tCons (tC (.int 2)) tNil)))) (gName 11) tYes (tOp rPlus (tOp (rIxL K) (tVar 0) (tVar 11)) (tOp rTimes (tC (.int 256)) (tOp (rIxL K) (tVar 0) (tOp rPlus (tVar 11) (tC (.int 1)))))) [11])) (gName 10))
  (tRet (tAndV (tOp (rEqD K) (tLc (iList K (tVar 8)) (gName 13) (tNot (tB (tCall (sp_law_whole K) [] E0 (tCons (tVar 13) tNil)))) (tVar 13) [13]) (tLst tNil)) (tOp (rEqD K) (tVar 8) (tVar 10))))))))))))))))))
abbrev n_law_opened : List Str := ["_law_octets_here", "_law_depths", "_law_handed", "_law_found", "_law_tables", "_law_look", "_law_many", "_law_size", "_law_told_here", "_law_k", "_law_due_here", "_law_at", "_law_high", "_law_number"]

theorem rd_law_opened (K : PySem.W.Frag) (CL : CLs) (F : KFx K) (vs : List V) (H : Hp) (Q : VK) (E : XK) (h : sp_law_opened K CL vs H Q E) : t_law_opened K CL { nx := fun _ H' => Q .non H', rt := Q } (start n_law_opened vs) H := by
  obtain ⟨a, pd, os, ds, rfl, hS, hd, hR, hT, q⟩ := h
  unfold t_law_opened
  obtain ⟨n, hn⟩ : ∃ n, n = ((brk ds).length + 31) / 32 := ⟨_, rfl⟩
  have hlen : os.length = 5 + 8 * n := by rw [hR.2.2, treeO_len', hn]
  have hb := brk_len hR.1
  have hdl := hR.2.1
  have hbl := blks_len (brk ds)
  have hal := aheadT_len (brk ds)
  have hll := lowsOf_len (brk ds)
  obtain ⟨W1, W2⟩ := tree_words hR.1 hR.2.1 hn
  rw [← hR.2.2] at W1 W2
  rw [← hn] at hbl hal hll
  have lv := heapL_leaves (lowsOf (brk ds))
  have hhl := heapL_len (lowsOf (brk ds))
  have hle := hOf_le (lowsOf (brk ds)).length
  have hsm := hOf_small (many := (lowsOf (brk ds)).length) (by rw [hll]; omega)
  have hS2 : 2 ^ hOf (lowsOf (brk ds)).length ≤ 4096 := Nat.le_trans (Nat.pow_le_pow_right (by decide) hsm) (by decide)
  have hS1 : 1 ≤ 2 ^ hOf (lowsOf (brk ds)).length := Nat.two_pow_pos _
  walk_at "st"
  refine k_listL (.of hS) fun pc hpc => ?_
  have npc : a ≠ pc := ne_of_none hS hpc
  have npd : pd ≠ pc := ne_of_none hd hpc
  have s1 := same_new (o := .lst (os.map V.int)) hpc
  have e1 := upd_same (H := H) (a := pc) (o := .lst (os.map V.int))
  generalize upd H pc (.lst (os.map V.int)) = H1 at s1 e1 ⊢
  walk_at "st"
  refine ⟨1, pc, os, rfl, e1, by omega, s1.tabs _ hT, fun _ _ _ _ nR => absurd hR (nR ds), fun ds' hR' p H2 hp s2 _ zo => ?_⟩
  obtain rfl := hR'.inj hR
  obtain ⟨t, g, pa, ph, o1, o2, o3, o4, lk⟩ := zo (by decide)
  walk_at "st"
  refine k_neL (ns := os) (ms := os) (.of (s2.get e1)) (.of ((s1.trans s2).get hS)) ?_
  rw [decide_eq_true rfl]
  walk_at "st"
  refine k_ixL (.of (s2.get e1)) (at_getD (k := 3) rfl (by omega)) ?_
  walk_at "st"
  refine m_setL (s2.get e1) (j := 3) (ixN_nat (k := 3) (by omega) (by rw [List.length_map]; omega)) ?_
  have lk2 : PureLook CL 1 g ((blks (brk ds')).map V.int) (upd H2 pc (.lst ((os.map V.int).set 3 (.int (255 - os.getD 3 0))))) := lk.ext (newOf_upd (newOf_extN (LamX.ExtN.refl _)) e1 s2.extN)
  have fr : ∀ {b : Addr} {xs : List V}, H2 b = some (.tup xs) → (upd H2 pc (.lst ((os.map V.int).set 3 (.int (255 - os.getD 3 0))))) b = some (.tup xs) := fun {b xs} e => by
    rw [upd_ne (fun z => by rw [z, s2.get e1] at e; cases e)]; exact e
  replace o1 := fr o1
  replace o2 := fr o2
  replace o3 := fr o3
  replace o4 := fr o4
  clear fr
  have sH : Same H (upd H2 pc (.lst ((os.map V.int).set 3 (.int (255 - os.getD 3 0))))) := Same.mut (s1.trans s2) hpc ⟨_, s2.get e1⟩
  generalize upd H2 pc (.lst ((os.map V.int).set 3 (.int (255 - os.getD 3 0)))) = H3 at lk2 o1 o2 o3 o4 sH ⊢
  clear lk
  walk_at "st"
  refine k_isTup o1 ?_
  walk_at "st"
  refine k_lenT (.of o1) ?_
  walk_at "st"
  refine k_ndecT rfl ?_
  walk_at "st"
  refine m_gTup (.of o1) rfl ?_
  walk_at "st"
  refine k_isTup o2 ?_
  walk_at "st"
  refine k_lenT (.of o2) ?_
  walk_at "st"
  refine k_ndecT rfl ?_
  walk_at "st"
  refine k_lenL (.of (sH.get hd)) ?_
  walk_at "st"
  rw [List.length_map]
  walk_at "st"
  rw [show (2 * (ds'.length : Int) + 31) / 32 = (n : Int) by omega]
  refine k_ixT (.of o2) (at_int (by decide) rfl) ?_
  walk_at "st"
  refine k_lenT (.of o4) ?_
  walk_at "st"
  rw [show ((heapL (lowsOf (brk ds'))).length : Int) / 2 = ((2 ^ hOf (lowsOf (brk ds')).length : Nat) : Int) by rw [hhl]; omega]
  generalize 2 ^ hOf (lowsOf (brk ds')).length = S at hle hS2 hS1 lv hhl ⊢
  refine k_ixT (.of o2) (at_int (by decide) rfl) ?_
  walk_at "st"
  intro q1 hq1
  have t1 := same_new (o := .lst [.int ((brk ds').length : Int)]) hq1
  have f1 : upd H3 q1 (.lst [.int ((brk ds').length : Int)]) q1 = some (.lst (([((brk ds').length : Int)] : List Int).map V.int)) := upd_same
  generalize upd H3 q1 (.lst [.int ((brk ds').length : Int)]) = H4 at t1 f1 ⊢
  walk_at "st"
  refine comp_rangeV (n := n) (f := fun k => .int ((blks (brk ds')).getD k 0)) (by omega) (fun k H5 Q2 hk s5 q5 => ?_) (fun q2 H5 hq2 t2 f2 => ?_)
  · have hkb : k < (blks (brk ds')).length := by omega
    have ff := (lk2 H5 (t1.trans s5).extN).1
    walk_at "st"
    refine lk2.askN (by decide) (t1.trans s5).extN (x := .int ((blks (brk ds')).getD k 0)) (by rw [List.getD_eq_getElem?_getD, List.getElem?_eq_getElem hkb]; exact mapint (List.getElem?_eq_getElem hkb)) fun H6 s6 => ?_
    exact q5 H6 (All.same s6)
  have f2 : H5 q2 = some (.lst ((blks (brk ds')).map V.int)) := by
    rw [f2]
    congr 2
    refine List.ext_getElem? fun i => ?_
    rcases Nat.lt_or_ge i n with hi | hi
    · have hib : i < (blks (brk ds')).length := by omega
      rw [List.getElem?_map, List.getElem?_range hi, List.getElem?_map, List.getElem?_eq_getElem hib, Option.map_some, Option.map_some, List.getD_eq_getElem?_getD, List.getElem?_eq_getElem hib]; rfl
    · rw [List.getElem?_eq_none (by rw [List.length_map, List.length_range]; exact hi), List.getElem?_eq_none (by rw [List.length_map]; omega)]
  refine k_catI (t2.get f1) f2 (by simp only [List.length_cons, List.length_nil]; omega) fun q3 H6 hq3 t3 f3 => ?_
  have t13 := (t1.trans t2).trans t3
  walk_at "st"
  refine k_ixT (.of (t13.get o2)) (at_int (by decide) rfl) ?_
  walk_at "st"
  refine k_listT' (.of (t13.get o3)) fun q4 hq4 => ?_
  have t4 := same_new (o := .lst ((aheadT (brk ds')).map V.int)) hq4
  have f4 := upd_same (H := H6) (a := q4) (o := .lst ((aheadT (brk ds')).map V.int))
  generalize upd H6 q4 (.lst ((aheadT (brk ds')).map V.int)) = H7 at t4 f4 ⊢
  refine k_catI (t4.get f3) f4 (by rw [List.length_append]; simp only [List.length_cons, List.length_nil]; omega) fun q5 H8 hq5 t5 f5 => ?_
  have t15 := (t13.trans t4).trans t5
  walk_at "st"
  refine k_ixT (.of (t15.get o2)) (at_int (by decide) rfl) ?_
  walk_at "st"
  rw [show (S : Int) + (n : Int) = ((S + (lowsOf (brk ds')).length : Nat) : Int) by omega]
  refine ⟨ph, _, rfl, .of (t15.get o4), fun z => ?_, fun q6 hq6 => ?_⟩
  · have := z.1
    rw [HT.sIx_nat, hhl] at this
    omega
  rw [cutPart, lv]
  obtain ⟨t6, f6⟩ := new_both (o := .tup ((lowsOf (brk ds')).map V.int)) hq6
  generalize upd _ q6 (.tup ((lowsOf (brk ds')).map V.int)) = H9 at t6 f6 ⊢
  walk_at "st"
  refine k_listT' (.of f6) fun q7 hq7 => ?_
  have t7 := same_new (o := .lst ((lowsOf (brk ds')).map V.int)) hq7
  have f7 := upd_same (H := H9) (a := q7) (o := .lst ((lowsOf (brk ds')).map V.int))
  generalize upd H9 q7 (.lst ((lowsOf (brk ds')).map V.int)) = H10 at t7 f7 ⊢
  refine k_catI ((t6.trans t7).get f5) f7 (by rw [List.length_append, List.length_append]; simp only [List.length_cons, List.length_nil]; omega) fun q8 H11 hq8 t8 f8 => ?_
  have t18 := (t15.trans t6).trans (t7.trans t8)
  have sH2 := sH.trans t18
  have eTold : [((brk ds').length : Int)] ++ blks (brk ds') ++ aheadT (brk ds') ++ lowsOf (brk ds') = [2 * (ds'.length : Int)] ++ (List.range n).map (fun i => w4 os (3 + 4 * i)) ++ (List.range (2 * n + 1)).map (fun i => w2 os (3 + 4 * n + 2 * i)) := by
    rw [W1, W2, show ((brk ds').length : Int) = 2 * (ds'.length : Int) by omega]
    simp only [List.append_assoc]
  rw [eTold] at f8
  clear eTold W1 W2 lv hhl hle hS2 hS1 hbl hal hll f1 f2 f3 f4 f5 f6 f7 o1 o2 o3 o4 lk2
  walk_at "st"
  refine k_lenL (.of (sH2.get hd)) ?_
  walk_at "st"
  rw [List.length_map]
  intro u1 hu1
  have hu1H := sH2.gone _ hu1
  have nq : q8 ≠ u1 := ne_of_none f8 hu1
  have r1 := same_new (o := .lst [.int (2 * (ds'.length : Int))]) hu1
  have g1 : upd H11 u1 (.lst [.int (2 * (ds'.length : Int))]) u1 = some (.lst (([2 * (ds'.length : Int)] : List Int).map V.int)) := upd_same
  generalize upd H11 u1 (.lst [.int (2 * (ds'.length : Int))]) = H12 at r1 g1 ⊢
  have f8 := r1.get f8
  replace sH2 := sH2.trans r1
  clear t18 r1 hu1
  walk_at "st"
  have hr4 : RgC 3 (3 + 4 * (n : Int)) 4 n := by
    have h := rgC_4 (a := 3) (n := n) (by omega)
    rw [show (((3 + 4 * n : Nat)) : Int) = 3 + 4 * (n : Int) by omega] at h
    exact h
  have hr2 : RgC (3 + 4 * (n : Int)) (os.length : Int) 2 (2 * n + 1) := by
    have h := rgC_2 (a := 3 + 4 * n) (n := 2 * n + 1) (by omega)
    rw [show (((3 + 4 * n : Nat)) : Int) = 3 + 4 * (n : Int) by omega, show 3 + 4 * n + 2 * (2 * n + 1) = os.length by omega] at h
    exact h
  refine m_rng3e hr4 ?_
  refine loop_walk walk_rangeC (fun i σ H' => ∃ v11 v12, i ≤ n ∧ Same H H' ∧ H' q8 = H12 q8 ∧ H' u1 = some (.lst (([2 * (ds'.length : Int)] ++ (List.range i).map (fun i => w4 os (3 + 4 * i))).map V.int)) ∧ σ = [some (.ref a), some (.ref pd), some (.ref pc), some (.ref p), some (.ref t), some (.ref g), some (.int (n : Int)), some (.int (S : Int)), some (.ref q8), none, some (.ref u1), v11, v12, none]) ⟨none, none, Nat.zero_le _, sH2, rfl, by rw [List.range_zero, List.map_nil, List.append_nil]; exact g1, rfl⟩ (fun _ _ _ _ => trivial) ?_ ?_
  · rintro i x σ H13 H14 hi ⟨v11, v12, _, s, e8, e, rfl⟩ ⟨hH, rfl⟩
    subst hH
    dsimp only
    rw [show (3 : Int) + ((i : Nat) : Int) * 4 = ((3 + 4 * i : Nat) : Int) by omega]
    walk_at "st"
    refine k_ixL (.of (s.get hS)) (at_getD (k := 3 + 4 * i + 2) (by omega) (by omega)) ?_
    walk_at "st"
    refine k_ixL (.of (s.get hS)) (at_getD (k := 3 + 4 * i + 3) (by omega) (by omega)) ?_
    walk_at "st"
    refine k_tyL (.of e) ?_
    walk_at "st"
    refine k_ixL (.of (s.get hS)) (at_getD (k := 3 + 4 * i) (by omega) (by omega)) ?_
    walk_at "st"
    refine k_ixL (.of (s.get hS)) (at_getD (k := 3 + 4 * i + 1) (by omega) (by omega)) ?_
    walk_at "st"
    refine k_app e (by rw [List.length_map, List.length_append, List.length_map, List.length_range]; simp only [List.length_cons, List.length_nil]; omega) ?_
    refine ⟨_, _, hi, Same.mut s hu1H ⟨_, e⟩, (upd_ne nq).trans e8, ?_, rfl⟩
    rw [upd_same, List.range_succ, List.map_append (l₁ := List.range i), ← List.append_assoc, List.map_append (l₂ := List.map _ [i])]; rfl
  rintro σ H13 ⟨v11, v12, _, s, e8, e, rfl⟩
  replace f8 := e8.trans f8
  clear e8 sH2 g1
  walk_at "st"
  refine k_lenL (.of (s.get hS)) ?_
  walk_at "st"
  rw [List.length_map]
  refine m_rng3e hr2 ?_
  refine comp_walkV (f := fun k => some (V.int (w2 os (3 + 4 * n + 2 * k)))) walk_rangeC (by omega) (fun _ _ => trivial) (fun k x H2 H3 Qb hk s2 hy qb => ?_) (fun pl H14 hpl s2 e2 => ?_)
  · obtain ⟨rfl, rfl⟩ := hy
    refine k_yes ?_
    refine qb true _ (Same.refl _) (fun _ Q2 H4 s4 => ⟨_, rfl, fun q2 => ?_⟩) (fun z => nomatch z)
    dsimp only
    rw [show (3 : Int) + 4 * (n : Int) + (k : Int) * 2 = ((3 + 4 * n + 2 * k : Nat) : Int) by omega]
    have sx := (s.trans (s2.trans s4)).get hS
    walk_at "st"
    refine k_ixL (.of sx) (at_getD (k := 3 + 4 * n + 2 * k) (by omega) (by omega)) ?_
    walk_at "st"
    refine k_ixL (.of sx) (at_getD (k := 3 + 4 * n + 2 * k + 1) (by omega) (by omega)) ?_
    walk_at "st"
    exact q2 _ (Same.refl _)
  rw [fm_some] at e2
  have e2 : H14 pl = some (.lst (((List.range (2 * n + 1)).map (fun i => w2 os (3 + 4 * n + 2 * i))).map V.int)) := by rw [e2, List.map_map]; rfl
  refine k_catI (s2.get e) e2 (by rw [List.length_append, List.length_map, List.length_range, List.length_map, List.length_range]; simp only [List.length_cons, List.length_nil]; omega) fun u3 H15 hu3 r3 g3 => ?_
  have f9 := (s2.trans r3).get f8
  have s15 := s.trans (s2.trans r3)
  have hTl : ([2 * (ds'.length : Int)] ++ (List.range n).map (fun i => w4 os (3 + 4 * i)) ++ (List.range (2 * n + 1)).map (fun i => w2 os (3 + 4 * n + 2 * i))).length ≤ 1000 := by
    rw [List.length_append, List.length_append, List.length_map, List.length_range, List.length_map, List.length_range]; simp only [List.length_cons, List.length_nil]; omega
  generalize [2 * (ds'.length : Int)] ++ (List.range n).map (fun i => w4 os (3 + 4 * i)) ++ (List.range (2 * n + 1)).map (fun i => w2 os (3 + 4 * n + 2 * i)) = T at f9 g3 hTl
  clear f8 e e2
  walk_at "st"
  refine m_iLe (.of f9) ?_
  refine comp_walkV (f := fun _ => none) (walk_list (K := K) (xs := T.map V.int)) (by rw [List.length_map]; omega) (fun H' s' => .of (s'.get f9)) (fun k v Hb Hc Qb hk sk hy qb => ?_) (fun pm H16 hpm s16 eb => ?_)
  · obtain ⟨rfl, ev⟩ := hy
    obtain ⟨b, hb, rfl⟩ := of_mapint ev
    walk_at "st"
    refine whole_int ?_
    walk_at "st"
    exact qb _ _ (Same.refl _) (fun hc => by cases hc) (fun _ => rfl)
  have eb : H16 pm = some (.lst (([] : List Int).map V.int)) := by
    rw [eb]
    congr 2
    exact List.filterMap_eq_nil_iff.mpr fun _ _ => rfl
  walk_at "st"
  intro pz hpz
  have sz := same_new (o := .lst []) hpz
  refine k_eqL (ns := []) (ms := []) (.of (sz.get eb)) (.of upd_same) ?_
  rw [decide_eq_true rfl]
  walk_at "st"
  refine k_eqL (ns := T) (ms := T) (.of (sz.get (s16.get f9))) (.of (sz.get (s16.get g3))) ?_
  rw [decide_eq_true rfl]
  exact q _ ((s15.trans s16).trans sz)

theorem dp_tk1 {K : PySem.W.Frag} {H : Hp} {a : Addr} (h : H a = some (.tup tk1)) : Dp K H (.ref a) (.tuple [.int 1, .bool true, .bool true, .bool false]) := .tup (.of h) (.cons (.int 1) (.cons (.bl true) (.cons (.bl true) (.cons (.bl false) .nil))))
theorem laid_tk1 : laid 64 (.tuple [.int 1, .bool true, .bool true, .bool false]) := laid_tup (n := 63) fun d hd => by
  simp only [List.mem_cons, List.not_mem_nil, or_false] at hd
  rcases hd with rfl | rfl | rfl | rfl
  · exact laid_int _
  · exact laid_bool _
  · exact laid_bool _
  · exact laid_bool _
theorem eqv_tk1 : PyData.eqv (.tuple [.int 1, .bool true, .bool true, .bool false]) (.tuple [.int 1, .bool true, .bool true, .bool false]) = true := by
  simp [PyData.eqv, PyData.eqvAll]
theorem k_isListT {H : Hp} {Q : VK} {a : Addr} {xs : List V} (h : H a = some (.tup xs)) (q : Q (.bl false) H) : rIsB [.ref a, .ty "list"] H Q := ⟨.ref a, "list", rfl, "tuple", false, fun _ => .base (.tup h), by decide +kernel, q⟩

theorem eqT {K : PySem.W.Frag} {H : Hp} {p r : Addr} {os : List Int} (h1 : ResT H p os) (h2 : ResT H r os) : ∃ d, Dp K H (.ref p) d ∧ Dp K H (.ref r) d ∧ laid 64 d ∧ PyData.eqv d d = true := by
  rcases h1 with ⟨a1, a2⟩ | ⟨bs, a1, a2⟩ <;> rcases h2 with ⟨b1, b2⟩ | ⟨cs, b1, b2⟩
  · exact ⟨_, dp_tk1 a2, dp_tk1 b2, laid_tk1, eqv_tk1⟩
  · exact absurd b1 (a1 cs)
  · exact absurd a1 (b1 bs)
  · obtain rfl := a1.inj b1
    exact ⟨_, dp_ints (.of a2), dp_ints (.of b2), laid_ints _, by rw [eqv_ints]; exact decide_eq_true rfl⟩
theorem k_neRes {K : PySem.W.Frag} {H : Hp} {Q : VK} {p r : Addr} {os : List Int} (h1 : ResT H p os) (h2 : ResT H r os) (q : Q (.bl false) H) : rNeD K (.ref p) (.ref r) H Q := by
  obtain ⟨d, d1, d2, l, e⟩ := eqT (K := K) h1 h2
  exact k_neD d1 d2 l l (by rw [e]; exact q)
theorem k_eqRes {K : PySem.W.Frag} {H : Hp} {Q : VK} {p r : Addr} {os : List Int} (h1 : ResT H p os) (h2 : ResT H r os) (q : Q (.bl true) H) : rEqD K (.ref p) (.ref r) H Q := by
  obtain ⟨d, d1, d2, l, e⟩ := eqT (K := K) h1 h2
  exact k_eqD d1 d2 l l (by rw [e]; exact q)
def sp_law (K : PySem.W.Frag) : Sp := fun vs H Q _ => ∃ (a : Addr) (ns : List Int), vs = [.ref a] ∧ SqL K H a (ns.map V.int) ∧ ns.length ≤ 63 ∧ (∀ x ∈ tabL, NdefX.TabN H (tabP K x) nmL) ∧ ∀ H', Q (.bl true) H'
theorem len_law (K : PySem.W.Frag) : ∀ vs H Q E, sp_law K vs H Q E → vs.length = 1 := by
  rintro vs H Q E ⟨a, ns, rfl, _⟩; rfl

def t_law (K : PySem.W.Frag) (CL : CLs) : TS :=
  (tSeq (tAsg (tCall (sp_law_octets K) [] E0 (tCons (tVar 0) tNil)) (gName 1))
  (tSeq (tAsg (tCB (rListOf K) (tCons (tVar 1) tNil)) (gName 2))
  (tSeq (tAsg (tCall (sp_law_due K) [] E0 (tCons (tVar 1) tNil)) (gName 3))
  (tSeq (tAsg (tCall (sp_law_told K CL) [] E0 (tCons (tC (.int 0)) (tCons (tVar 2) tNil))) (gName 4))
  (tSeq (tIfS (tOr (tTest (tOp (rNeD K) (tVar 4) (tVar 3))) (tTest (tOp (rNeD K) (tVar 2) (tVar 1))))
  (tRet (tC (.bl false)))
  tNext)
  (tSeq (tIfS (tNot (tB (tCB rIsB (tCons (tVar 4) (tCons (tC (.ty "list")) tNil)))))
  (tRet (tAndV (tOp (rEqD K) (tCall (sp_law_told K CL) [] E0 (tCons (tC (.int 1)) (tCons (tVar 2) tNil))) (tVar 3)) (tOp (rEqD K) (tVar 2) (tVar 1))))
  tNext)
  (tSeq (tIfS (tOr (tTest (tOp (rNeD K) (tCall (sp_tree_octets K) [] E0 (tCons (tCB (rListOf K) (tCons (tVar 4) tNil)) tNil)) (tVar 1))) (tNot (tB (tCall (sp_law_opened K CL) [] E0 (tCons (tVar 1) (tCons (tVar 3) tNil))))))
  (tRet (tC (.bl false)))
  tNext)
  (tSeq (tDrop (tBM K "list" rAppend (tVar 4) (tCons (tC (.int 1)) tNil)))
  (tRet (tOp (rEqD K) (tCall (sp_law_told K CL) [] E0 (tCons (tC (.int 0)) (tCons (tVar 2) tNil))) (tVar 3)))))))))))
abbrev n_law : List Str := ["_law_script", "_law_octets_here", "_law_handed", "_law_due_here", "_law_found"]

theorem rd_law (K : PySem.W.Frag) (CL : CLs) (F : KFx K) (vs : List V) (H : Hp) (Q : VK) (E : XK) (h : sp_law K vs H Q E) : t_law K CL { nx := fun _ H' => Q .non H', rt := Q } (start n_law vs) H := by
  obtain ⟨a, ns, rfl, hS, hl, hT, q⟩ := h
  have hT := hT "look_of" (by decide)
  unfold t_law
  walk_at "st"
  refine ⟨a, ns, rfl, hS, fun os p H1 hol s1 e1 => ?_⟩
  walk_at "st"
  refine k_listL (.of e1) fun pc hpc => ?_
  have npc : p ≠ pc := ne_of_none e1 hpc
  have s2 := s1.trans (same_new (o := .lst (os.map V.int)) hpc)
  have e2 := upd_same (H := H1) (a := pc) (o := .lst (os.map V.int))
  replace e1 := (same_new (o := .lst (os.map V.int)) hpc).get e1
  generalize upd H1 pc (.lst (os.map V.int)) = H2 at s2 e2 e1 ⊢
  walk_at "st"
  refine ⟨p, os, rfl, e1, hol, fun pd H3 hpd s3 r3 => ?_⟩
  have s23 := s2.trans s3
  walk_at "st"
  refine ⟨0, pc, os, rfl, s3.get e2, hol, s23.tabs _ hT, fun pf H4 hpf s4 nR w => ?_, fun ds hR pf H4 hpf s4 w _ => ?_⟩
  · have r3 := r3.same s4
    have r4 : ResT H4 pf os := .inl ⟨nR, w⟩
    replace e1 := (s3.trans s4).get e1
    replace e2 := (s3.trans s4).get e2
    walk_at "st"
    refine k_neRes r4 r3 ?_
    walk_at "st"
    refine k_neL (ns := os) (ms := os) (.of e2) (.of e1) ?_
    rw [decide_eq_true rfl]
    walk_at "st"
    refine k_isListT w ?_
    walk_at "st"
    refine ⟨1, pc, os, rfl, e2, hol, (s23.trans s4).tabs _ hT, fun pg H5 hpg s5 _ w5 => ?_, fun ds hR => absurd hR (nR ds)⟩
    walk_at "st"
    refine k_eqRes (.inl ⟨nR, w5⟩) (r3.same s5) ?_
    walk_at "st"
    refine k_eqL (ns := os) (ms := os) (.of (s5.get e2)) (.of (s5.get e1)) ?_
    rw [decide_eq_true rfl]
    exact q _
  · have w := w rfl
    have r3 := r3.same s4
    have r4 : ResT H4 pf os := .inr ⟨ds, hR, w⟩
    have npc2 : pf ≠ pc := fun z => by rw [z, s3.get e2] at hpf; cases hpf
    have ed : H3 pd = some (.lst (ds.map V.int)) := by
      rcases ‹ResT H3 pd os› with ⟨nR, _⟩ | ⟨es, hR', w'⟩
      · exact absurd hR (nR ds)
      · rw [hR.inj hR']; exact w'
    have npf : pf ≠ pd := fun z => by rw [z, ed] at hpf; cases hpf
    replace ed := s4.get ed
    replace e1 := (s3.trans s4).get e1
    replace e2 := (s3.trans s4).get e2
    have hdl := hR.2.1
    walk_at "st"
    refine k_neRes r4 r3 ?_
    walk_at "st"
    refine k_neL (ns := os) (ms := os) (.of e2) (.of e1) ?_
    rw [decide_eq_true rfl]
    walk_at "st"
    refine k_isList w ?_
    walk_at "st"
    refine k_listL (.of w) fun q1 hq1 => ?_
    have t1 := same_new (o := .lst (ds.map V.int)) hq1
    have f1 := upd_same (H := H4) (a := q1) (o := .lst (ds.map V.int))
    generalize upd H4 q1 (.lst (ds.map V.int)) = H5 at t1 f1 ⊢
    walk_at "st"
    refine ⟨q1, ds, rfl, .of f1, by omega, fun z => by omega, fun _ z => absurd hR.1 z, fun _ _ q2 H6 hq2 t2 f2 => ?_⟩
    have t12 := t1.trans t2
    walk_at "st"
    refine k_neL (ns := treeO (brk ds)) (ms := os) (.of f2) (.of (t12.get e1)) ?_
    rw [decide_eq_true hR.2.2.symm]
    walk_at "st"
    refine ⟨p, pd, os, ds, rfl, t12.get e1, t12.get ed, hR, ((s23.trans s4).trans t12).tabs _ hT, fun H7 t7 => ?_⟩
    have t17 := t12.trans t7
    walk_at "st"
    refine k_tyL (.of (t17.get w)) ?_
    walk_at "st"
    refine k_app (t17.get w) (by rw [List.length_map]; omega) ?_
    have sx : Same H (upd H7 pf (.lst (ds.map V.int ++ [V.int 1]))) := Same.mut ((s23.trans s4).trans t17) (s23.gone _ hpf) ⟨_, t17.get w⟩
    have e2x : (upd H7 pf (.lst (ds.map V.int ++ [V.int 1]))) pc = some (.lst (os.map V.int)) := (upd_ne npc2.symm).trans (t17.get e2)
    have edx : (upd H7 pf (.lst (ds.map V.int ++ [V.int 1]))) pd = some (.lst (ds.map V.int)) := (upd_ne npf.symm).trans (t17.get ed)
    generalize upd H7 pf (.lst (ds.map V.int ++ [V.int 1])) = H8 at sx e2x edx ⊢
    walk_at "st"
    refine ⟨0, pc, os, rfl, e2x, hol, sx.tabs _ hT, fun pg H9 hpg s9 nR => absurd hR (nR ds), fun ds' hR' pg H9 hpg s9 w9 _ => ?_⟩
    walk_at "st"
    refine k_eqRes (.inr ⟨ds', hR', w9 rfl⟩) (.inr ⟨ds, hR, s9.get edx⟩) ?_
    walk_at "st"
    exact q _


end Tw
namespace Tw
open PySem PySem.Spec PyProof.Rows L2
/-! the text -/
def topS (i : Nat) : Stmt := PySem.Challenge.pw_thinwood_k86_trees_read.main.body.getD i (.Pass ⟨0, 0, 0, 0⟩)
abbrev s_packed : Stmt := topS 10
theorem sc_packed : FnScope n_packed ["bits"] (defScope s_packed) := ⟨rfl, rfl, rfl, by decide +kernel, rfl, by decide +kernel, by decide +kernel⟩

abbrev s_unpacked : Stmt := topS 11
theorem sc_unpacked : FnScope n_unpacked ["blocks", "many"] (defScope s_unpacked) := ⟨rfl, rfl, rfl, by decide +kernel, rfl, by decide +kernel, by decide +kernel⟩

abbrev s_look_of : Stmt := topS 12
theorem sc_look_of : FnScope n_look_of ["blocks"] (defScope s_look_of) := ⟨rfl, rfl, rfl, by decide +kernel, rfl, by decide +kernel, by decide +kernel⟩
abbrev st_look_of_look : Stmt := (defBody s_look_of).getD 1 (.Pass ⟨0, 0, 0, 0⟩)
theorem sc_look_of_look : NdefX.NScope n_look_of_look ["number"] ["kept"] (C8.fnScope st_look_of_look) := NdefX.nscope_by (by decide +kernel)

abbrev s_ones_in : Stmt := topS 13
theorem sc_ones_in : FnScope n_ones_in ["block", "upto"] (defScope s_ones_in) := ⟨rfl, rfl, rfl, by decide +kernel, rfl, by decide +kernel, by decide +kernel⟩

abbrev s_low_in : Stmt := topS 14
theorem sc_low_in : FnScope n_low_in ["block", "upto"] (defScope s_low_in) := ⟨rfl, rfl, rfl, by decide +kernel, rfl, by decide +kernel, by decide +kernel⟩

abbrev s_size_of : Stmt := topS 16
theorem sc_size_of : FnScope n_size_of ["many"] (defScope s_size_of) := ⟨rfl, rfl, rfl, by decide +kernel, rfl, by decide +kernel, by decide +kernel⟩

abbrev s_lesser_of : Stmt := topS 17
theorem sc_lesser_of : FnScope n_lesser_of ["one", "other"] (defScope s_lesser_of) := ⟨rfl, rfl, rfl, by decide +kernel, rfl, by decide +kernel, by decide +kernel⟩

abbrev s_heap_of : Stmt := topS 18
theorem sc_heap_of : FnScope n_heap_of ["numbers"] (defScope s_heap_of) := ⟨rfl, rfl, rfl, by decide +kernel, rfl, by decide +kernel, by decide +kernel⟩

abbrev s_ones_table : Stmt := topS 20
theorem sc_ones_table : FnScope n_ones_table ["blocks"] (defScope s_ones_table) := ⟨rfl, rfl, rfl, by decide +kernel, rfl, by decide +kernel, by decide +kernel⟩

abbrev s_kept_row : Stmt := topS 21
theorem sc_kept_row : FnScope n_kept_row ["bits"] (defScope s_kept_row) := ⟨rfl, rfl, rfl, by decide +kernel, rfl, by decide +kernel, by decide +kernel⟩

abbrev s_is_tree : Stmt := topS 23
theorem sc_is_tree : FnScope n_is_tree ["bits"] (defScope s_is_tree) := ⟨rfl, rfl, rfl, by decide +kernel, rfl, by decide +kernel, by decide +kernel⟩

abbrev s_begin_height : Stmt := topS 24
theorem sc_begin_height : FnScope n_begin_height ["ahead", "number"] (defScope s_begin_height) := ⟨rfl, rfl, rfl, by decide +kernel, rfl, by decide +kernel, by decide +kernel⟩

abbrev s_kept_brackets : Stmt := topS 25
theorem sc_kept_brackets : FnScope n_kept_brackets ["bits"] (defScope s_kept_brackets) := ⟨rfl, rfl, rfl, by decide +kernel, rfl, by decide +kernel, by decide +kernel⟩

abbrev s_octets_of : Stmt := topS 27
theorem sc_octets_of : FnScope n_octets_of ["number", "many"] (defScope s_octets_of) := ⟨rfl, rfl, rfl, by decide +kernel, rfl, by decide +kernel, by decide +kernel⟩

abbrev s_number_of : Stmt := topS 28
theorem sc_number_of : FnScope n_number_of ["octets"] (defScope s_number_of) := ⟨rfl, rfl, rfl, by decide +kernel, rfl, by decide +kernel, by decide +kernel⟩

abbrev s_fields_of : Stmt := topS 29
theorem sc_fields_of : FnScope n_fields_of ["numbers", "wide"] (defScope s_fields_of) := ⟨rfl, rfl, rfl, by decide +kernel, rfl, by decide +kernel, by decide +kernel⟩

abbrev s_numbers_of : Stmt := topS 30
theorem sc_numbers_of : FnScope n_numbers_of ["octets", "wide"] (defScope s_numbers_of) := ⟨rfl, rfl, rfl, by decide +kernel, rfl, by decide +kernel, by decide +kernel⟩

abbrev s_brackets_of : Stmt := topS 32
theorem sc_brackets_of : FnScope n_brackets_of ["depths"] (defScope s_brackets_of) := ⟨rfl, rfl, rfl, by decide +kernel, rfl, by decide +kernel, by decide +kernel⟩

abbrev s_depths_of : Stmt := topS 33
theorem sc_depths_of : FnScope n_depths_of ["bits"] (defScope s_depths_of) := ⟨rfl, rfl, rfl, by decide +kernel, rfl, by decide +kernel, by decide +kernel⟩

abbrev s_kept_tree : Stmt := topS 34
theorem sc_kept_tree : FnScope n_kept_tree ["depths"] (defScope s_kept_tree) := ⟨rfl, rfl, rfl, by decide +kernel, rfl, by decide +kernel, by decide +kernel⟩

abbrev s_blocks_for : Stmt := topS 36
theorem sc_blocks_for : FnScope n_blocks_for ["many"] (defScope s_blocks_for) := ⟨rfl, rfl, rfl, by decide +kernel, rfl, by decide +kernel, by decide +kernel⟩

abbrev s_row_laid : Stmt := topS 38
theorem sc_row_laid : FnScope n_row_laid ["tables", "blocks"] (defScope s_row_laid) := ⟨rfl, rfl, rfl, by decide +kernel, rfl, by decide +kernel, by decide +kernel⟩

abbrev s_tree_laid : Stmt := topS 39
theorem sc_tree_laid : FnScope n_tree_laid ["tables", "blocks"] (defScope s_tree_laid) := ⟨rfl, rfl, rfl, by decide +kernel, rfl, by decide +kernel, by decide +kernel⟩

abbrev s_tree_octets : Stmt := topS 40
theorem sc_tree_octets : FnScope n_tree_octets ["depths"] (defScope s_tree_octets) := ⟨rfl, rfl, rfl, by decide +kernel, rfl, by decide +kernel, by decide +kernel⟩

abbrev s_head_of : Stmt := topS 41
theorem sc_head_of : FnScope n_head_of ["octets", "kind", "wide"] (defScope s_head_of) := ⟨rfl, rfl, rfl, by decide +kernel, rfl, by decide +kernel, by decide +kernel⟩

abbrev s_row_long : Stmt := topS 42
theorem sc_row_long : FnScope n_row_long ["many"] (defScope s_row_long) := ⟨rfl, rfl, rfl, by decide +kernel, rfl, by decide +kernel, by decide +kernel⟩

abbrev s_same_again : Stmt := topS 43
theorem sc_same_again : FnScope n_same_again ["octets", "again"] (defScope s_same_again) := ⟨rfl, rfl, rfl, by decide +kernel, rfl, by decide +kernel, by decide +kernel⟩

abbrev s_read_tree : Stmt := topS 44
theorem sc_read_tree : FnScope n_read_tree ["octets"] (defScope s_read_tree) := ⟨rfl, rfl, rfl, by decide +kernel, rfl, by decide +kernel, by decide +kernel⟩

abbrev s_opened_tree : Stmt := topS 45
theorem sc_opened_tree : FnScope n_opened_tree ["octets"] (defScope s_opened_tree) := ⟨rfl, rfl, rfl, by decide +kernel, rfl, by decide +kernel, by decide +kernel⟩

abbrev s_law_cell_at : Stmt := topS 47
theorem sc_law_cell_at : FnScope n_law_cell_at ["_law_script", "_law_k"] (defScope s_law_cell_at) := ⟨rfl, rfl, rfl, by decide +kernel, rfl, by decide +kernel, by decide +kernel⟩

abbrev s_law_whole : Stmt := topS 48
theorem sc_law_whole : FnScope n_law_whole ["_law_found"] (defScope s_law_whole) := ⟨rfl, rfl, rfl, by decide +kernel, rfl, by decide +kernel, by decide +kernel⟩

abbrev s_law_bits : Stmt := topS 49
theorem sc_law_bits : FnScope n_law_bits ["_law_script"] (defScope s_law_bits) := ⟨rfl, rfl, rfl, by decide +kernel, rfl, by decide +kernel, by decide +kernel⟩

abbrev s_law_two : Stmt := topS 50
theorem sc_law_two : FnScope n_law_two ["_law_number"] (defScope s_law_two) := ⟨rfl, rfl, rfl, by decide +kernel, rfl, by decide +kernel, by decide +kernel⟩

abbrev s_law_written : Stmt := topS 51
theorem sc_law_written : FnScope n_law_written ["_law_bits_here"] (defScope s_law_written) := ⟨rfl, rfl, rfl, by decide +kernel, rfl, by decide +kernel, by decide +kernel⟩

abbrev s_law_due : Stmt := topS 52
theorem sc_law_due : FnScope n_law_due ["_law_octets_here"] (defScope s_law_due) := ⟨rfl, rfl, rfl, by decide +kernel, rfl, by decide +kernel, by decide +kernel⟩

abbrev s_law_asked : Stmt := topS 53
theorem sc_law_asked : FnScope n_law_asked ["_law_way", "_law_octets_here"] (defScope s_law_asked) := ⟨rfl, rfl, rfl, by decide +kernel, rfl, by decide +kernel, by decide +kernel⟩

abbrev s_law_told : Stmt := topS 54
theorem sc_law_told : FnScope n_law_told ["_law_way", "_law_octets_here"] (defScope s_law_told) := ⟨rfl, rfl, rfl, by decide +kernel, rfl, by decide +kernel, by decide +kernel⟩

abbrev s_law_changed : Stmt := topS 55
theorem sc_law_changed : FnScope n_law_changed ["_law_octets_here", "_law_cell"] (defScope s_law_changed) := ⟨rfl, rfl, rfl, by decide +kernel, rfl, by decide +kernel, by decide +kernel⟩

abbrev s_law_octets : Stmt := topS 56
theorem sc_law_octets : FnScope n_law_octets ["_law_script"] (defScope s_law_octets) := ⟨rfl, rfl, rfl, by decide +kernel, rfl, by decide +kernel, by decide +kernel⟩

abbrev s_law_opened : Stmt := topS 57
theorem sc_law_opened : FnScope n_law_opened ["_law_octets_here", "_law_depths"] (defScope s_law_opened) := ⟨rfl, rfl, rfl, by decide +kernel, rfl, by decide +kernel, by decide +kernel⟩

abbrev s_law : Stmt := topS 58
theorem sc_law : FnScope n_law ["_law_script"] (defScope s_law) := ⟨rfl, rfl, rfl, by decide +kernel, rfl, by decide +kernel, by decide +kernel⟩

structure Tx (P : Program) (w : World) (K : PySem.W.Frag) (mg : Str → Option Value) (base : Heap) : Prop where
  d_packed : ∃ fd, FunD K "packed" "packed" (defArgs s_packed) (defBody s_packed) (defScope s_packed) [] [] (He.ga K "packed") fd
  g_packed : mg "packed" = some (.ref (He.ga K "packed"))
  d_unpacked : ∃ fd, FunD K "unpacked" "unpacked" (defArgs s_unpacked) (defBody s_unpacked) (defScope s_unpacked) [] [] (He.ga K "unpacked") fd
  g_unpacked : mg "unpacked" = some (.ref (He.ga K "unpacked"))
  d_look_of : ∃ fd, FunD K "look_of" "look_of" (defArgs s_look_of) (defBody s_look_of) (defScope s_look_of) [] [] (He.ga K "look_of") fd
  g_look_of : mg "look_of" = some (.ref (He.ga K "look_of"))
  d_ones_in : ∃ fd, FunD K "ones_in" "ones_in" (defArgs s_ones_in) (defBody s_ones_in) (defScope s_ones_in) [] [] (He.ga K "ones_in") fd
  g_ones_in : mg "ones_in" = some (.ref (He.ga K "ones_in"))
  d_low_in : ∃ fd, FunD K "low_in" "low_in" (defArgs s_low_in) (defBody s_low_in) (defScope s_low_in) [] [] (He.ga K "low_in") fd
  g_low_in : mg "low_in" = some (.ref (He.ga K "low_in"))
  d_size_of : ∃ fd, FunD K "size_of" "size_of" (defArgs s_size_of) (defBody s_size_of) (defScope s_size_of) [] [] (He.ga K "size_of") fd
  g_size_of : mg "size_of" = some (.ref (He.ga K "size_of"))
  d_lesser_of : ∃ fd, FunD K "lesser_of" "lesser_of" (defArgs s_lesser_of) (defBody s_lesser_of) (defScope s_lesser_of) [] [] (He.ga K "lesser_of") fd
  g_lesser_of : mg "lesser_of" = some (.ref (He.ga K "lesser_of"))
  d_heap_of : ∃ fd, FunD K "heap_of" "heap_of" (defArgs s_heap_of) (defBody s_heap_of) (defScope s_heap_of) [] [] (He.ga K "heap_of") fd
  g_heap_of : mg "heap_of" = some (.ref (He.ga K "heap_of"))
  d_ones_table : ∃ fd, FunD K "ones_table" "ones_table" (defArgs s_ones_table) (defBody s_ones_table) (defScope s_ones_table) [] [] (He.ga K "ones_table") fd
  g_ones_table : mg "ones_table" = some (.ref (He.ga K "ones_table"))
  d_kept_row : ∃ fd, FunD K "kept_row" "kept_row" (defArgs s_kept_row) (defBody s_kept_row) (defScope s_kept_row) [] [] (He.ga K "kept_row") fd
  g_kept_row : mg "kept_row" = some (.ref (He.ga K "kept_row"))
  d_is_tree : ∃ fd, FunD K "is_tree" "is_tree" (defArgs s_is_tree) (defBody s_is_tree) (defScope s_is_tree) [] [] (He.ga K "is_tree") fd
  g_is_tree : mg "is_tree" = some (.ref (He.ga K "is_tree"))
  d_begin_height : ∃ fd, FunD K "begin_height" "begin_height" (defArgs s_begin_height) (defBody s_begin_height) (defScope s_begin_height) [] [] (He.ga K "begin_height") fd
  g_begin_height : mg "begin_height" = some (.ref (He.ga K "begin_height"))
  d_kept_brackets : ∃ fd, FunD K "kept_brackets" "kept_brackets" (defArgs s_kept_brackets) (defBody s_kept_brackets) (defScope s_kept_brackets) [] [] (He.ga K "kept_brackets") fd
  g_kept_brackets : mg "kept_brackets" = some (.ref (He.ga K "kept_brackets"))
  d_octets_of : ∃ fd, FunD K "octets_of" "octets_of" (defArgs s_octets_of) (defBody s_octets_of) (defScope s_octets_of) [] [] (He.ga K "octets_of") fd
  g_octets_of : mg "octets_of" = some (.ref (He.ga K "octets_of"))
  d_number_of : ∃ fd, FunD K "number_of" "number_of" (defArgs s_number_of) (defBody s_number_of) (defScope s_number_of) [] [] (He.ga K "number_of") fd
  g_number_of : mg "number_of" = some (.ref (He.ga K "number_of"))
  d_fields_of : ∃ fd, FunD K "fields_of" "fields_of" (defArgs s_fields_of) (defBody s_fields_of) (defScope s_fields_of) [] [] (He.ga K "fields_of") fd
  g_fields_of : mg "fields_of" = some (.ref (He.ga K "fields_of"))
  d_numbers_of : ∃ fd, FunD K "numbers_of" "numbers_of" (defArgs s_numbers_of) (defBody s_numbers_of) (defScope s_numbers_of) [] [] (He.ga K "numbers_of") fd
  g_numbers_of : mg "numbers_of" = some (.ref (He.ga K "numbers_of"))
  d_brackets_of : ∃ fd, FunD K "brackets_of" "brackets_of" (defArgs s_brackets_of) (defBody s_brackets_of) (defScope s_brackets_of) [] [] (He.ga K "brackets_of") fd
  g_brackets_of : mg "brackets_of" = some (.ref (He.ga K "brackets_of"))
  d_depths_of : ∃ fd, FunD K "depths_of" "depths_of" (defArgs s_depths_of) (defBody s_depths_of) (defScope s_depths_of) [] [] (He.ga K "depths_of") fd
  g_depths_of : mg "depths_of" = some (.ref (He.ga K "depths_of"))
  d_kept_tree : ∃ fd, FunD K "kept_tree" "kept_tree" (defArgs s_kept_tree) (defBody s_kept_tree) (defScope s_kept_tree) [] [] (He.ga K "kept_tree") fd
  g_kept_tree : mg "kept_tree" = some (.ref (He.ga K "kept_tree"))
  d_blocks_for : ∃ fd, FunD K "blocks_for" "blocks_for" (defArgs s_blocks_for) (defBody s_blocks_for) (defScope s_blocks_for) [] [] (He.ga K "blocks_for") fd
  g_blocks_for : mg "blocks_for" = some (.ref (He.ga K "blocks_for"))
  d_row_laid : ∃ fd, FunD K "row_laid" "row_laid" (defArgs s_row_laid) (defBody s_row_laid) (defScope s_row_laid) [] [] (He.ga K "row_laid") fd
  g_row_laid : mg "row_laid" = some (.ref (He.ga K "row_laid"))
  d_tree_laid : ∃ fd, FunD K "tree_laid" "tree_laid" (defArgs s_tree_laid) (defBody s_tree_laid) (defScope s_tree_laid) [] [] (He.ga K "tree_laid") fd
  g_tree_laid : mg "tree_laid" = some (.ref (He.ga K "tree_laid"))
  d_tree_octets : ∃ fd, FunD K "tree_octets" "tree_octets" (defArgs s_tree_octets) (defBody s_tree_octets) (defScope s_tree_octets) [] [] (He.ga K "tree_octets") fd
  g_tree_octets : mg "tree_octets" = some (.ref (He.ga K "tree_octets"))
  d_head_of : ∃ fd, FunD K "head_of" "head_of" (defArgs s_head_of) (defBody s_head_of) (defScope s_head_of) [] [] (He.ga K "head_of") fd
  g_head_of : mg "head_of" = some (.ref (He.ga K "head_of"))
  d_row_long : ∃ fd, FunD K "row_long" "row_long" (defArgs s_row_long) (defBody s_row_long) (defScope s_row_long) [] [] (He.ga K "row_long") fd
  g_row_long : mg "row_long" = some (.ref (He.ga K "row_long"))
  d_same_again : ∃ fd, FunD K "same_again" "same_again" (defArgs s_same_again) (defBody s_same_again) (defScope s_same_again) [] [] (He.ga K "same_again") fd
  g_same_again : mg "same_again" = some (.ref (He.ga K "same_again"))
  d_read_tree : ∃ fd, FunD K "read_tree" "read_tree" (defArgs s_read_tree) (defBody s_read_tree) (defScope s_read_tree) [] [] (He.ga K "read_tree") fd
  g_read_tree : mg "read_tree" = some (.ref (He.ga K "read_tree"))
  d_opened_tree : ∃ fd, FunD K "opened_tree" "opened_tree" (defArgs s_opened_tree) (defBody s_opened_tree) (defScope s_opened_tree) [] [] (He.ga K "opened_tree") fd
  g_opened_tree : mg "opened_tree" = some (.ref (He.ga K "opened_tree"))
  d_law_cell_at : ∃ fd, FunD K "_law_cell_at" "_law_cell_at" (defArgs s_law_cell_at) (defBody s_law_cell_at) (defScope s_law_cell_at) [] [] (He.ga K "_law_cell_at") fd
  g_law_cell_at : mg "_law_cell_at" = some (.ref (He.ga K "_law_cell_at"))
  d_law_whole : ∃ fd, FunD K "_law_whole" "_law_whole" (defArgs s_law_whole) (defBody s_law_whole) (defScope s_law_whole) [] [] (He.ga K "_law_whole") fd
  g_law_whole : mg "_law_whole" = some (.ref (He.ga K "_law_whole"))
  d_law_bits : ∃ fd, FunD K "_law_bits" "_law_bits" (defArgs s_law_bits) (defBody s_law_bits) (defScope s_law_bits) [] [] (He.ga K "_law_bits") fd
  g_law_bits : mg "_law_bits" = some (.ref (He.ga K "_law_bits"))
  d_law_two : ∃ fd, FunD K "_law_two" "_law_two" (defArgs s_law_two) (defBody s_law_two) (defScope s_law_two) [] [] (He.ga K "_law_two") fd
  g_law_two : mg "_law_two" = some (.ref (He.ga K "_law_two"))
  d_law_written : ∃ fd, FunD K "_law_written" "_law_written" (defArgs s_law_written) (defBody s_law_written) (defScope s_law_written) [] [] (He.ga K "_law_written") fd
  g_law_written : mg "_law_written" = some (.ref (He.ga K "_law_written"))
  d_law_due : ∃ fd, FunD K "_law_due" "_law_due" (defArgs s_law_due) (defBody s_law_due) (defScope s_law_due) [] [] (He.ga K "_law_due") fd
  g_law_due : mg "_law_due" = some (.ref (He.ga K "_law_due"))
  d_law_asked : ∃ fd, FunD K "_law_asked" "_law_asked" (defArgs s_law_asked) (defBody s_law_asked) (defScope s_law_asked) [] [] (He.ga K "_law_asked") fd
  g_law_asked : mg "_law_asked" = some (.ref (He.ga K "_law_asked"))
  d_law_told : ∃ fd, FunD K "_law_told" "_law_told" (defArgs s_law_told) (defBody s_law_told) (defScope s_law_told) [] [] (He.ga K "_law_told") fd
  g_law_told : mg "_law_told" = some (.ref (He.ga K "_law_told"))
  d_law_changed : ∃ fd, FunD K "_law_changed" "_law_changed" (defArgs s_law_changed) (defBody s_law_changed) (defScope s_law_changed) [] [] (He.ga K "_law_changed") fd
  g_law_changed : mg "_law_changed" = some (.ref (He.ga K "_law_changed"))
  d_law_octets : ∃ fd, FunD K "_law_octets" "_law_octets" (defArgs s_law_octets) (defBody s_law_octets) (defScope s_law_octets) [] [] (He.ga K "_law_octets") fd
  g_law_octets : mg "_law_octets" = some (.ref (He.ga K "_law_octets"))
  d_law_opened : ∃ fd, FunD K "_law_opened" "_law_opened" (defArgs s_law_opened) (defBody s_law_opened) (defScope s_law_opened) [] [] (He.ga K "_law_opened") fd
  g_law_opened : mg "_law_opened" = some (.ref (He.ga K "_law_opened"))
  d_law : ∃ fd, FunD K "law" "law" (defArgs s_law) (defBody s_law) (defScope s_law) [] [] (He.ga K "law") fd
  g_law : mg "law" = some (.ref (He.ga K "law"))
  b_ValueError : mg "ValueError" = none
  b_all : mg "all" = none
  b_bool : mg "bool" = none
  b_divmod : mg "divmod" = none
  b_enumerate : mg "enumerate" = none
  b_int : mg "int" = none
  b_isinstance : mg "isinstance" = none
  b_len : mg "len" = none
  b_list : mg "list" = none
  b_min : mg "min" = none
  b_range : mg "range" = none
  b_reversed : mg "reversed" = none
  b_sum : mg "sum" = none
  b_tuple : mg "tuple" = none
  b_zip : mg "zip" = none
  x_NoBit : ExF K mg "NoBit"
  x_NoOctets : ExF K mg "NoOctets"
  x_NoPlace : ExF K mg "NoPlace"
  x_NoTree : ExF K mg "NoTree"
  x_TooMany : ExF K mg "TooMany"
  x_WoodError : ExF K mg "WoodError"
  g_NoBit : mg "NoBit" = some (.ref (He.ga K "NoBit"))
  g_NoOctets : mg "NoOctets" = some (.ref (He.ga K "NoOctets"))
  g_NoPlace : mg "NoPlace" = some (.ref (He.ga K "NoPlace"))
  g_NoTree : mg "NoTree" = some (.ref (He.ga K "NoTree"))
  g_TooMany : mg "TooMany" = some (.ref (He.ga K "TooMany"))
  g_WoodError : mg "WoodError" = some (.ref (He.ga K "WoodError"))
  fx : KFx K
  i_MOST : ∃ t, mg "MOST" = some (.int 4096 t)
  i_WIDE : ∃ t, mg "WIDE" = some (.int 32 t)
  tb_look_of : LamX.TabB base mg (He.cT K ("look_of", none)).1 (He.cT K ("look_of", none)).2
section
variable {P : Program} {w : World} {K : PySem.W.Frag} {mg : Str → Option Value} {base : Heap}
theorem ok_packed (T : Tx P w K mg base) : Okf P w K mg base (L2.CX P w) 2 "packed" ["bits"] (sp_packed K) := by
  obtain ⟨fd, FD⟩ := T.d_packed
  refine ⟨⟨fd, FunD.look FD, FD.bindsN fun _ _ _ _ _ _ us hl => match us, hl with | [_], _ => rfl, ?_⟩, FD.kp, T.g_packed⟩
  refine FunD.ok (CX := (L2.CX P w)) FD sc_packed (len_packed K) (fun cdv A outer s H vs Q E hr h => ⟨t_packed K E, ?_, rd_packed K vs H Q E h⟩)
  exact (pss_cons (ps_if (pt_cmpR op_gt (pe_callB call_lenK (by rfl) T.b_len (by decide +kernel) (pa_cons (pv 0) pa_nil)) (pe_gint T.i_MOST (by rfl)) (nomark _))
  (pss_one (ps_rz T.x_TooMany (takes_of rfl rfl rfl rfl)))
  pss_nil)
  (pss_cons (ps_set (i := 1) sc_packed.nd rfl (.inl rfl) (pe_op op_rep (pe_lst (pa_cons pe_int pa_nil)) (pe_op op_fdiv (pe_op op_sub (pe_op op_add (pe_callB call_lenK (by rfl) T.b_len (by decide +kernel) (pa_cons (pv 0) pa_nil)) (pe_gint T.i_WIDE (by rfl))) pe_int) (pe_gint T.i_WIDE (by rfl)))))
  (pss_cons (ps_for (passes_of rfl) rfl (pi_enum (by rfl) T.b_enumerate (pa_cons (pv 0) pa_nil)) (pg_tup rfl (pgs_cons (pg_name (i := 2) sc_packed.nd rfl (.inl rfl)) (pgs_cons (pg_name (i := 3) sc_packed.nd rfl (.inl rfl)) pgs_nil)))
  (pss_cons (ps_if (PW.pt (pw_and (pt_cmpR op_ne (pv 3) pe_int (nomark _)) (pw_and1 (pt_cmpR op_ne (pv 3) pe_int (nomark _)))))
  (pss_one (ps_rz T.x_NoBit (takes_of rfl rfl rfl rfl)))
  pss_nil)
  (pss_one (ps_if (pt_cmpR op_eq (pv 3) pe_int (nomark _))
  (pss_one (ps_asg (pe_op op_or (pe_ix ix_list (pv 1) (pe_op op_fdiv (pv 2) (pe_gint T.i_WIDE (by rfl))) (fun _ _ => rfl)) (pe_op op_shlW pe_int (pe_op op_mod (pv 2) (pe_gint T.i_WIDE (by rfl))))) (pg_sub (pv 1) (pe_op op_fdiv (pv 2) (pe_gint T.i_WIDE (by rfl))) set_list)))
  pss_nil))))
  (pss_one (ps_ret (pv 1))))))

theorem ok_unpacked (T : Tx P w K mg base) : Okf P w K mg base (L2.CX P w) 2 "unpacked" ["blocks", "many"] (sp_unpacked K) := by
  obtain ⟨fd, FD⟩ := T.d_unpacked
  refine ⟨⟨fd, FunD.look FD, FD.bindsN fun _ _ _ _ _ _ us hl => match us, hl with | [_, _], _ => rfl, ?_⟩, FD.kp, T.g_unpacked⟩
  refine FunD.ok (CX := (L2.CX P w)) FD sc_unpacked (len_unpacked K) (fun cdv A outer s H vs Q E hr h => ⟨t_unpacked K E, ?_, rd_unpacked K vs H Q E h⟩)
  exact (pss_cons (ps_if (PW.pt (pw_or (pt_cmpR op_lt (pv 1) pe_int (nomark _)) (pw_or1 (pt_cmpR op_gt (pv 1) (pe_op op_mul (pe_gint T.i_WIDE (by rfl)) (pe_callB call_lenK (by rfl) T.b_len (by decide +kernel) (pa_cons (pv 0) pa_nil))) (nomark _)))))
  (pss_one (ps_rz T.x_NoPlace (takes_of rfl rfl rfl rfl)))
  pss_nil)
  (pss_one (ps_ret (pe_lc (own := [("at", 2)]) (g := (gName 2)) (tt := tYes) rfl sc_unpacked.nd (pi_range1 (by rfl) T.b_range (pa_cons (pv 1) pa_nil)) (blkOk_by (N := ["blocks", "many", "at"]) (sc := defScope s_unpacked) (own := [("at", 2)]) (by decide +kernel)) (fun _ _ _ _ _ => (pg_name (i := 2) sc_unpacked.nd rfl (.inl rfl))) (fun _ _ _ _ _ => pts_nil) (fun _ _ _ _ _ => (pe_op op_and1 (pe_op op_shr (pe_ix ix_list (pv 0) (pe_op op_fdiv (pv 2) (pe_gint T.i_WIDE (by rfl))) (fun _ _ => rfl)) (pe_op op_mod (pv 2) (pe_gint T.i_WIDE (by rfl)))) pe_int))))))

theorem ok_look_of_look (T : Tx P w K mg base) : ∀ (j : Nat) (f : Addr) (cl : List (Str × Addr)) (c' : Addr), COk NdefX.FnO P w K mg base (max j 0 + 1) f (NdefX.NF.of st_look_of_look "look" (("look_of" ++ ".<locals>.") ++ "look") cl c') ["number"] ["kept"] (sp_look_of_look K (Cal P w K mg base) j) := by
  intro j f cl c'
  refine cok_def (N := n_look_of_look) sc_look_of_look (fun _ _ _ us hl => match us, hl with | [_], _ => rfl) (len_look_of_look K (Cal P w K mg base) j) (fun A outer s H vs ws Q hr hl h => ⟨t_look_of_look K (Cal P w K mg base) j, PSs.nox ?_, rd_look_of_look K (Cal P w K mg base) j vs ws H Q h⟩)
  exact (pss_one (ps_ret (pe_ix ix_list (pv 1) (pv 0) (fun _ _ => rfl))))
theorem ok_look_of (T : Tx P w K mg base) : Okf P w K mg base CX0 1 "look_of" ["blocks"] (sp_look_of K (Cal P w K mg base)) := by
  obtain ⟨fd, FD⟩ := T.d_look_of
  refine ⟨⟨fd, FunD.look FD, FD.bindsN fun _ _ _ _ _ _ us hl => match us, hl with | [_], _ => rfl, ?_⟩, FD.kp, T.g_look_of⟩
  refine FunD.okC (pre := (defBody s_look_of).dropLast) (O := NdefX.FnO) (mkF := NdefX.NF.of st_look_of_look "look" (("look_of" ++ ".<locals>.") ++ "look")) (nsc := C8.fnScope st_look_of_look) (js := [1]) (fr := ["kept"]) (psn := ["number"]) (lv := 0) (N := n_look_of) FD rfl sc_look_of (len_look_of K (Cal P w K mg base)) (fun {f F} => ⟨_, rfl, fun h ⟨od, sl, doc, pm, ctv, q⟩ => ⟨_, _, _, _, q⟩⟩) (fun _ _ => rfl) sc_look_of_look.free (by decide +kernel) (by decide +kernel) (ok_look_of_look T)
    (fun c A outer s H vs Q E ec hr h => ?_) rfl
  subst ec
  refine ⟨tp_look_of K (tabP K "look_of") _, te_look_of K (tabP K "look_of") _, PSs.nox ?_, PE.nox ?_, fun G hG => rd_look_of K (Cal P w K mg base) (tabP K "look_of") rfl _ vs H Q E h G hG⟩
  · exact (pss_cons (ps_set (i := 1) sc_look_of.nd rfl (.inr rfl) (pe_callTy call_listK (by rfl) T.b_list (by decide +kernel) (pa_cons (pv 0) pa_nil)))
  (pss_one (ps_ndefC (st := st_look_of_look) (name := "look") (i := 2) rfl T.tb_look_of rfl (by rfl) (NdefX.ndef_free (sc := defScope s_look_of) (nsc := C8.fnScope st_look_of_look) (fr := ["kept"]) (by decide +kernel)) rfl rfl rfl sc_look_of.nd rfl (.inl rfl) (.inl rfl))))
  · exact (pv 2)

theorem ok_ones_in (T : Tx P w K mg base) : Okf P w K mg base CX0 1 "ones_in" ["block", "upto"] (sp_ones_in K) := by
  obtain ⟨fd, FD⟩ := T.d_ones_in
  refine ⟨⟨fd, FunD.look FD, FD.bindsN fun _ _ _ _ _ _ us hl => match us, hl with | [_, _], _ => rfl, ?_⟩, FD.kp, T.g_ones_in⟩
  refine FunD.ok (CX := CX0) FD sc_ones_in (len_ones_in K) (fun cdv A outer s H vs Q E hr h => ⟨t_ones_in K, PSs.nox ?_, rd_ones_in K vs H Q E h⟩)
  exact (pss_one (ps_ret (pe_callB (cr_sum rfl) (by rfl) T.b_sum (by decide +kernel) (pa_cons (pe_lc (own := [("k", 2)]) (g := (gName 2)) (tt := tYes) rfl sc_ones_in.nd (pi_range1 (by rfl) T.b_range (pa_cons (pv 1) pa_nil)) (blkOk_by (N := ["block", "upto", "k"]) (sc := defScope s_ones_in) (own := [("k", 2)]) (by decide +kernel)) (fun _ _ _ _ _ => (pg_name (i := 2) sc_ones_in.nd rfl (.inl rfl))) (fun _ _ _ _ _ => pts_nil) (fun _ _ _ _ _ => (pe_op op_and1 (pe_op op_shr (pv 0) (pv 2)) pe_int))) pa_nil))))

theorem ok_low_in (T : Tx P w K mg base) : Okf P w K mg base CX0 1 "low_in" ["block", "upto"] (sp_low_in K) := by
  obtain ⟨fd, FD⟩ := T.d_low_in
  refine ⟨⟨fd, FunD.look FD, FD.bindsN fun _ _ _ _ _ _ us hl => match us, hl with | [_, _], _ => rfl, ?_⟩, FD.kp, T.g_low_in⟩
  refine FunD.ok (CX := CX0) FD sc_low_in (len_low_in K) (fun cdv A outer s H vs Q E hr h => ⟨t_low_in K, PSs.nox ?_, rd_low_in K vs H Q E h⟩)
  exact (pss_cons (ps_set (i := 2) sc_low_in.nd rfl (.inl rfl) pe_int)
  (pss_cons (ps_set (i := 3) sc_low_in.nd rfl (.inl rfl) pe_int)
  (pss_cons (ps_for PassesOwn.never rfl (pi_range1 (by rfl) T.b_range (pa_cons (pv 1) pa_nil)) (pg_name (i := 4) sc_low_in.nd rfl (.inl rfl))
  (pss_cons (ps_aug (i := 2) sc_low_in.nd rfl (.inl rfl) (pe_op op_sub (pe_op op_mul pe_int (pe_op op_and1 (pe_op op_shr (pv 0) (pv 4)) pe_int)) pe_int) ip_add)
  (pss_one (ps_set (i := 3) sc_low_in.nd rfl (.inl rfl) (pe_callB (call_min2K rfl) (by rfl) T.b_min (by decide +kernel) (pa_cons (pv 3) (pa_cons (pv 2) pa_nil)))))))
  (pss_one (ps_ret (pv 3))))))

theorem ok_size_of (T : Tx P w K mg base) : Okf P w K mg base CX0 1 "size_of" ["many"] (sp_size_of K) := by
  obtain ⟨fd, FD⟩ := T.d_size_of
  refine ⟨⟨fd, FunD.look FD, FD.bindsN fun _ _ _ _ _ _ us hl => match us, hl with | [_], _ => rfl, ?_⟩, FD.kp, T.g_size_of⟩
  refine FunD.ok (CX := CX0) FD sc_size_of (len_size_of K) (fun cdv A outer s H vs Q E hr h => ⟨t_size_of K, PSs.nox ?_, rd_size_of K vs H Q E h⟩)
  exact (pss_cons (ps_set (i := 1) sc_size_of.nd rfl (.inl rfl) pe_int)
  (pss_cons (ps_while PassesOwn.never (pt_cmpR op_lt (pv 1) (pv 0) (nomark _))
  (pss_one (ps_aug (i := 1) sc_size_of.nd rfl (.inl rfl) pe_int iop_mul)))
  (pss_one (ps_ret (pv 1)))))

theorem ok_lesser_of (T : Tx P w K mg base) : Okf P w K mg base CX0 1 "lesser_of" ["one", "other"] (sp_lesser_of K) := by
  obtain ⟨fd, FD⟩ := T.d_lesser_of
  refine ⟨⟨fd, FunD.look FD, FD.bindsN fun _ _ _ _ _ _ us hl => match us, hl with | [_, _], _ => rfl, ?_⟩, FD.kp, T.g_lesser_of⟩
  refine FunD.ok (CX := CX0) FD sc_lesser_of (len_lesser_of K) (fun cdv A outer s H vs Q E hr h => ⟨t_lesser_of K, PSs.nox ?_, rd_lesser_of K vs H Q E h⟩)
  exact (pss_cons (ps_if (pt_cmpR op_isN1 (pv 0) pe_non (nomark _))
  (pss_one (ps_ret (pv 1)))
  pss_nil)
  (pss_cons (ps_if (pt_cmpR op_isN1 (pv 1) pe_non (nomark _))
  (pss_one (ps_ret (pv 0)))
  pss_nil)
  (pss_one (ps_ret (pe_callB (call_min2K rfl) (by rfl) T.b_min (by decide +kernel) (pa_cons (pv 0) (pa_cons (pv 1) pa_nil)))))))

theorem ok_heap_of (T : Tx P w K mg base) (o_size_of : Okf P w K mg base CX0 1 "size_of" ["many"] (sp_size_of K)) (o_lesser_of : Okf P w K mg base CX0 1 "lesser_of" ["one", "other"] (sp_lesser_of K)) : Okf P w K mg base (L2.CX P w) 3 "heap_of" ["numbers"] (sp_heap_of K) := by
  obtain ⟨fd, FD⟩ := T.d_heap_of
  refine ⟨⟨fd, FunD.look FD, FD.bindsN fun _ _ _ _ _ _ us hl => match us, hl with | [_], _ => rfl, ?_⟩, FD.kp, T.g_heap_of⟩
  refine FunD.ok (CX := (L2.CX P w)) FD sc_heap_of (len_heap_of K) (fun cdv A outer s H vs Q E hr h => ⟨t_heap_of K E, ?_, rd_heap_of K vs H Q E h⟩)
  exact (pss_cons (ps_if (pt_cmpR op_gt (pe_callB call_lenK (by rfl) T.b_len (by decide +kernel) (pa_cons (pv 0) pa_nil)) (pe_gint T.i_MOST (by rfl)) (nomark _))
  (pss_one (ps_rz T.x_TooMany (takes_of rfl rfl rfl rfl)))
  pss_nil)
  (pss_cons (ps_set (i := 1) sc_heap_of.nd rfl (.inl rfl) (pe_callF o_size_of hr (by decide) (by rfl) pass0 (pa_cons (pe_callB call_lenK (by rfl) T.b_len (by decide +kernel) (pa_cons (pv 0) pa_nil)) pa_nil)))
  (pss_cons (ps_set (i := 2) sc_heap_of.nd rfl (.inl rfl) (pe_op op_cat (pe_op op_cat (pe_op op_rep (pe_lst (pa_cons pe_non pa_nil)) (pv 1)) (pe_callTy call_listK (by rfl) T.b_list (by decide +kernel) (pa_cons (pv 0) pa_nil))) (pe_op op_rep (pe_lst (pa_cons pe_non pa_nil)) (pe_op op_sub (pv 1) (pe_callB call_lenK (by rfl) T.b_len (by decide +kernel) (pa_cons (pv 0) pa_nil))))))
  (pss_cons (ps_for (passes_of rfl) rfl (pi_range3 (by rfl) T.b_range (pa_cons (pe_op op_sub (pv 1) pe_int) (pa_cons pe_int (pa_cons (pe_un un_neg pe_int) pa_nil)))) (pg_name (i := 3) sc_heap_of.nd rfl (.inl rfl))
  (pss_one (ps_asg (pe_callF o_lesser_of hr (by decide) (by rfl) pass0 (pa_cons (pe_ix ix_list (pv 2) (pe_op op_mul pe_int (pv 3)) (fun _ _ => rfl)) (pa_cons (pe_ix ix_list (pv 2) (pe_op op_add (pe_op op_mul pe_int (pv 3)) pe_int) (fun _ _ => rfl)) pa_nil))) (pg_sub (pv 2) (pv 3) set_list))))
  (pss_one (ps_ret (pv 2)))))))

theorem ok_ones_table (T : Tx P w K mg base) (o_ones_in : Okf P w K mg base CX0 1 "ones_in" ["block", "upto"] (sp_ones_in K)) : Okf P w K mg base CX0 2 "ones_table" ["blocks"] (sp_ones_table K) := by
  obtain ⟨fd, FD⟩ := T.d_ones_table
  refine ⟨⟨fd, FunD.look FD, FD.bindsN fun _ _ _ _ _ _ us hl => match us, hl with | [_], _ => rfl, ?_⟩, FD.kp, T.g_ones_table⟩
  refine FunD.ok (CX := CX0) FD sc_ones_table (len_ones_table K) (fun cdv A outer s H vs Q E hr h => ⟨t_ones_table K, PSs.nox ?_, rd_ones_table K vs H Q E h⟩)
  exact (pss_cons (ps_set (i := 1) sc_ones_table.nd rfl (.inl rfl) (pe_lst (pa_cons pe_int pa_nil)))
  (pss_cons (ps_for PassesOwn.never rfl (pi_list (pv 0)) (pg_name (i := 2) sc_ones_table.nd rfl (.inl rfl))
  (pss_one (ps_expr (pe_bm PySem.F.plainAttrs_list PySem.F.slot_list_append PySem.F.type_list_append mt_append (pv 1) (pa_cons (pe_op op_add (pe_ix ix_list (pv 1) (pe_un un_neg pe_int) (fun _ _ => rfl)) (pe_callF o_ones_in hr (by decide) (by rfl) pass0 (pa_cons (pv 2) (pa_cons (pe_gint T.i_WIDE (by rfl)) pa_nil)))) pa_nil)))))
  (pss_one (ps_ret (pe_callTy call_tupK (by rfl) T.b_tuple (by decide +kernel) (pa_cons (pv 1) pa_nil))))))

theorem ok_kept_row (T : Tx P w K mg base) (o_packed : Okf P w K mg base (L2.CX P w) 2 "packed" ["bits"] (sp_packed K)) (o_ones_table : Okf P w K mg base CX0 2 "ones_table" ["blocks"] (sp_ones_table K)) : Okf P w K mg base (L2.CX P w) 4 "kept_row" ["bits"] (sp_kept_row K) := by
  obtain ⟨fd, FD⟩ := T.d_kept_row
  refine ⟨⟨fd, FunD.look FD, FD.bindsN fun _ _ _ _ _ _ us hl => match us, hl with | [_], _ => rfl, ?_⟩, FD.kp, T.g_kept_row⟩
  refine FunD.ok (CX := (L2.CX P w)) FD sc_kept_row (len_kept_row K) (fun cdv A outer s H vs Q E hr h => ⟨t_kept_row K E, ?_, rd_kept_row K vs H Q E h⟩)
  exact (pss_cons (ps_set (i := 1) sc_kept_row.nd rfl (.inl rfl) (pe_callF o_packed hr (by decide) (by rfl) (passX (takes_of rfl rfl rfl rfl)) (pa_cons (pv 0) pa_nil)))
  (pss_one (ps_ret (pe_tup (pa_cons (pe_tup (pa_cons (pe_callB call_lenK (by rfl) T.b_len (by decide +kernel) (pa_cons (pv 0) pa_nil)) (pa_cons (pe_callF o_ones_table hr (by decide) (by rfl) pass0 (pa_cons (pv 1) pa_nil)) pa_nil))) (pa_cons (pv 1) pa_nil))))))

theorem ok_is_tree (T : Tx P w K mg base) : Okf P w K mg base CX0 1 "is_tree" ["bits"] (sp_is_tree K) := by
  obtain ⟨fd, FD⟩ := T.d_is_tree
  refine ⟨⟨fd, FunD.look FD, FD.bindsN fun _ _ _ _ _ _ us hl => match us, hl with | [_], _ => rfl, ?_⟩, FD.kp, T.g_is_tree⟩
  refine FunD.ok (CX := CX0) FD sc_is_tree (len_is_tree K) (fun cdv A outer s H vs Q E hr h => ⟨t_is_tree K, PSs.nox ?_, rd_is_tree K vs H Q E h⟩)
  exact (pss_cons (ps_set (i := 1) sc_is_tree.nd rfl (.inl rfl) pe_int)
  (pss_cons (ps_for PassesOwn.never rfl (pi_enum (by rfl) T.b_enumerate (pa_cons (pv 0) pa_nil)) (pg_tup rfl (pgs_cons (pg_name (i := 2) sc_is_tree.nd rfl (.inl rfl)) (pgs_cons (pg_name (i := 3) sc_is_tree.nd rfl (.inl rfl)) pgs_nil)))
  (pss_cons (ps_aug (i := 1) sc_is_tree.nd rfl (.inl rfl) (pe_op op_sub (pe_op op_mul pe_int (pv 3)) pe_int) ip_add)
  (pss_one (ps_if (PW.pt (pw_and (pt_cmpR op_le (pv 1) pe_int (nomark _)) (pw_and1 (pt_cmpR op_lt (pe_op op_add (pv 2) pe_int) (pe_callB call_lenK (by rfl) T.b_len (by decide +kernel) (pa_cons (pv 0) pa_nil)) (nomark _)))))
  (pss_one (ps_ret pe_bl))
  pss_nil))))
  (pss_one (ps_ret (pe_and (pe_cmpR op_gt (pe_callB call_lenK (by rfl) T.b_len (by decide +kernel) (pa_cons (pv 0) pa_nil)) pe_int (nomark _)) (pe_one (pe_cmpR op_eq (pv 1) pe_int (nomark _))))))))

theorem ok_begin_height (T : Tx P w K mg base) : Okf P w K mg base CX0 1 "begin_height" ["ahead", "number"] (sp_begin_height K) := by
  obtain ⟨fd, FD⟩ := T.d_begin_height
  refine ⟨⟨fd, FunD.look FD, FD.bindsN fun _ _ _ _ _ _ us hl => match us, hl with | [_, _], _ => rfl, ?_⟩, FD.kp, T.g_begin_height⟩
  refine FunD.ok (CX := CX0) FD sc_begin_height (len_begin_height K) (fun cdv A outer s H vs Q E hr h => ⟨t_begin_height K, PSs.nox ?_, rd_begin_height K vs H Q E h⟩)
  exact (pss_one (ps_ret (pe_op op_sub (pe_op op_mul pe_int (pe_ix ix_tup (pv 0) (pv 1) (fun _ _ => rfl))) (pe_op op_mul (pe_gint T.i_WIDE (by rfl)) (pv 1)))))

theorem ok_kept_brackets (T : Tx P w K mg base) (o_kept_row : Okf P w K mg base (L2.CX P w) 4 "kept_row" ["bits"] (sp_kept_row K)) (o_is_tree : Okf P w K mg base CX0 1 "is_tree" ["bits"] (sp_is_tree K)) (o_begin_height : Okf P w K mg base CX0 1 "begin_height" ["ahead", "number"] (sp_begin_height K)) (o_low_in : Okf P w K mg base CX0 1 "low_in" ["block", "upto"] (sp_low_in K)) (o_heap_of : Okf P w K mg base (L2.CX P w) 3 "heap_of" ["numbers"] (sp_heap_of K)) : Okf P w K mg base (L2.CX P w) 6 "kept_brackets" ["bits"] (sp_kept_brackets K) := by
  obtain ⟨fd, FD⟩ := T.d_kept_brackets
  refine ⟨⟨fd, FunD.look FD, FD.bindsN fun _ _ _ _ _ _ us hl => match us, hl with | [_], _ => rfl, ?_⟩, FD.kp, T.g_kept_brackets⟩
  refine FunD.ok (CX := (L2.CX P w)) FD sc_kept_brackets (len_kept_brackets K) (fun cdv A outer s H vs Q E hr h => ⟨t_kept_brackets K E, ?_, rd_kept_brackets K vs H Q E h⟩)
  exact (pss_cons (ps_asg (pe_callF o_kept_row hr (by decide) (by rfl) (passX (takes_of rfl rfl rfl rfl)) (pa_cons (pv 0) pa_nil)) (pg_tup rfl (pgs_cons (pg_name (i := 1) sc_kept_brackets.nd rfl (.inl rfl)) (pgs_cons (pg_name (i := 2) sc_kept_brackets.nd rfl (.inl rfl)) pgs_nil))))
  (pss_cons (ps_if (pt_not (pt_val (pe_callF o_is_tree hr (by decide) (by rfl) pass0 (pa_cons (pv 0) pa_nil))))
  (pss_one (ps_rz T.x_NoTree (takes_of rfl rfl rfl rfl)))
  pss_nil)
  (pss_cons (ps_asg (pv 1) (pg_tup rfl (pgs_cons (pg_name (i := 3) sc_kept_brackets.nd rfl (.inl rfl)) (pgs_cons (pg_name (i := 4) sc_kept_brackets.nd rfl (.inl rfl)) pgs_nil))))
  (pss_cons (ps_set (i := 5) sc_kept_brackets.nd rfl (.inl rfl) (pe_lst pa_nil))
  (pss_cons (ps_for (passes_of rfl) rfl (pi_enum (by rfl) T.b_enumerate (pa_cons (pv 2) pa_nil)) (pg_tup rfl (pgs_cons (pg_name (i := 6) sc_kept_brackets.nd rfl (.inl rfl)) (pgs_cons (pg_name (i := 7) sc_kept_brackets.nd rfl (.inl rfl)) pgs_nil)))
  (pss_one (ps_expr (pe_bm PySem.F.plainAttrs_list PySem.F.slot_list_append PySem.F.type_list_append mt_append (pv 5) (pa_cons (pe_op op_add (pe_callF o_begin_height hr (by decide) (by rfl) pass0 (pa_cons (pv 4) (pa_cons (pv 6) pa_nil))) (pe_callF o_low_in hr (by decide) (by rfl) pass0 (pa_cons (pv 7) (pa_cons (pe_callB (call_min2K rfl) (by rfl) T.b_min (by decide +kernel) (pa_cons (pe_gint T.i_WIDE (by rfl)) (pa_cons (pe_op op_sub (pv 3) (pe_op op_mul (pe_gint T.i_WIDE (by rfl)) (pv 6))) pa_nil))) pa_nil)))) pa_nil)))))
  (pss_one (ps_ret (pe_tup (pa_cons (pe_tup (pa_cons (pv 3) (pa_cons (pv 4) (pa_cons (pe_callTy call_tupK (by rfl) T.b_tuple (by decide +kernel) (pa_cons (pe_callF o_heap_of hr (by decide) (by rfl) (passX (takes_of rfl rfl rfl rfl)) (pa_cons (pv 5) pa_nil)) pa_nil)) pa_nil)))) (pa_cons (pv 2) pa_nil))))))))))

theorem ok_octets_of (T : Tx P w K mg base) : Okf P w K mg base CX0 1 "octets_of" ["number", "many"] (sp_octets_of K) := by
  obtain ⟨fd, FD⟩ := T.d_octets_of
  refine ⟨⟨fd, FunD.look FD, FD.bindsN fun _ _ _ _ _ _ us hl => match us, hl with | [_, _], _ => rfl, ?_⟩, FD.kp, T.g_octets_of⟩
  refine FunD.ok (CX := CX0) FD sc_octets_of (len_octets_of K) (fun cdv A outer s H vs Q E hr h => ⟨t_octets_of K, PSs.nox ?_, rd_octets_of K vs H Q E h⟩)
  exact (pss_cons (ps_set (i := 2) sc_octets_of.nd rfl (.inl rfl) (pe_lst pa_nil))
  (pss_cons (ps_while PassesOwn.never (pt_cmpR op_lt (pe_callB call_lenK (by rfl) T.b_len (by decide +kernel) (pa_cons (pv 2) pa_nil)) (pv 1) (nomark _))
  (pss_cons (ps_asg (pe_callB call_divmodW (by rfl) T.b_divmod (by decide +kernel) (pa_cons (pv 0) (pa_cons pe_int pa_nil))) (pg_tup rfl (pgs_cons (pg_name (i := 0) sc_octets_of.nd rfl (.inl rfl)) (pgs_cons (pg_name (i := 3) sc_octets_of.nd rfl (.inl rfl)) pgs_nil))))
  (pss_one (ps_expr (pe_bm PySem.F.plainAttrs_list PySem.F.slot_list_append PySem.F.type_list_append mt_append (pv 2) (pa_cons (pv 3) pa_nil))))))
  (pss_one (ps_ret (pv 2)))))

theorem ok_number_of (T : Tx P w K mg base) : Okf P w K mg base CX0 1 "number_of" ["octets"] (sp_number_of K) := by
  obtain ⟨fd, FD⟩ := T.d_number_of
  refine ⟨⟨fd, FunD.look FD, FD.bindsN fun _ _ _ _ _ _ us hl => match us, hl with | [_], _ => rfl, ?_⟩, FD.kp, T.g_number_of⟩
  refine FunD.ok (CX := CX0) FD sc_number_of (len_number_of K) (fun cdv A outer s H vs Q E hr h => ⟨t_number_of K, PSs.nox ?_, rd_number_of K vs H Q E h⟩)
  exact (pss_cons (ps_set (i := 1) sc_number_of.nd rfl (.inl rfl) pe_int)
  (pss_cons (ps_for PassesOwn.never rfl (pi_reversed (by rfl) T.b_reversed (pa_cons (pv 0) pa_nil)) (pg_name (i := 2) sc_number_of.nd rfl (.inl rfl))
  (pss_one (ps_set (i := 1) sc_number_of.nd rfl (.inl rfl) (pe_op op_or (pe_op op_shlW (pv 1) pe_int) (pv 2)))))
  (pss_one (ps_ret (pv 1)))))

theorem ok_fields_of (T : Tx P w K mg base) (o_octets_of : Okf P w K mg base CX0 1 "octets_of" ["number", "many"] (sp_octets_of K)) : Okf P w K mg base CX0 2 "fields_of" ["numbers", "wide"] (sp_fields_of K) := by
  obtain ⟨fd, FD⟩ := T.d_fields_of
  refine ⟨⟨fd, FunD.look FD, FD.bindsN fun _ _ _ _ _ _ us hl => match us, hl with | [_, _], _ => rfl, ?_⟩, FD.kp, T.g_fields_of⟩
  refine FunD.ok (CX := CX0) FD sc_fields_of (len_fields_of K) (fun cdv A outer s H vs Q E hr h => ⟨t_fields_of K, PSs.nox ?_, rd_fields_of K vs H Q E h⟩)
  exact (pss_cons (ps_set (i := 2) sc_fields_of.nd rfl (.inl rfl) (pe_lst pa_nil))
  (pss_cons (ps_for PassesOwn.never rfl (pi_seq (pv 0)) (pg_name (i := 3) sc_fields_of.nd rfl (.inl rfl))
  (pss_one (ps_expr (pe_bm PySem.F.plainAttrs_list PySem.F.slot_list_extend PySem.F.type_list_extend mt_extend (pv 2) (pa_cons (pe_callF o_octets_of hr (by decide) (by rfl) pass0 (pa_cons (pv 3) (pa_cons (pv 1) pa_nil))) pa_nil)))))
  (pss_one (ps_ret (pv 2)))))

theorem ok_numbers_of (T : Tx P w K mg base) (o_number_of : Okf P w K mg base CX0 1 "number_of" ["octets"] (sp_number_of K)) : Okf P w K mg base CX0 2 "numbers_of" ["octets", "wide"] (sp_numbers_of K) := by
  obtain ⟨fd, FD⟩ := T.d_numbers_of
  refine ⟨⟨fd, FunD.look FD, FD.bindsN fun _ _ _ _ _ _ us hl => match us, hl with | [_, _], _ => rfl, ?_⟩, FD.kp, T.g_numbers_of⟩
  refine FunD.ok (CX := CX0) FD sc_numbers_of (len_numbers_of K) (fun cdv A outer s H vs Q E hr h => ⟨t_numbers_of K, PSs.nox ?_, rd_numbers_of K vs H Q E h⟩)
  exact (pss_one (ps_ret (pe_lc (own := [("at", 2)]) (g := (gName 2)) (tt := tYes) rfl sc_numbers_of.nd (pi_range3 (by rfl) T.b_range (pa_cons pe_int (pa_cons (pe_callB call_lenK (by rfl) T.b_len (by decide +kernel) (pa_cons (pv 0) pa_nil)) (pa_cons (pv 1) pa_nil)))) (blkOk_by (N := ["octets", "wide", "at"]) (sc := defScope s_numbers_of) (own := [("at", 2)]) (by decide +kernel)) (fun _ _ _ _ _ => (pg_name (i := 2) sc_numbers_of.nd rfl (.inl rfl))) (fun _ _ _ _ _ => pts_nil) (fun _ _ _ _ _ => (pe_callF o_number_of hr (by decide) (by rfl) pass0 (pa_cons (pe_slice sl_list (pv 0) (po_some (pv 2)) (po_some (pe_op op_add (pv 2) (pv 1)))) pa_nil))))))

theorem ok_brackets_of (T : Tx P w K mg base) : Okf P w K mg base (L2.CX P w) 2 "brackets_of" ["depths"] (sp_brackets_of K) := by
  obtain ⟨fd, FD⟩ := T.d_brackets_of
  refine ⟨⟨fd, FunD.look FD, FD.bindsN fun _ _ _ _ _ _ us hl => match us, hl with | [_], _ => rfl, ?_⟩, FD.kp, T.g_brackets_of⟩
  refine FunD.ok (CX := (L2.CX P w)) FD sc_brackets_of (len_brackets_of K) (fun cdv A outer s H vs Q E hr h => ⟨t_brackets_of K E, ?_, rd_brackets_of K vs H Q E h⟩)
  exact (pss_cons (ps_if (pt_cmpR op_gt (pe_op op_mul pe_int (pe_callB call_lenK (by rfl) T.b_len (by decide +kernel) (pa_cons (pv 0) pa_nil))) (pe_gint T.i_MOST (by rfl)) (nomark _))
  (pss_one (ps_rz T.x_TooMany (takes_of rfl rfl rfl rfl)))
  pss_nil)
  (pss_cons (ps_if (PW.pt (pw_or (pt_cmpR op_eq (pe_callB call_lenK (by rfl) T.b_len (by decide +kernel) (pa_cons (pv 0) pa_nil)) pe_int (nomark _)) (pw_or1 (pt_cmpR op_ne (pe_ix ix_list (pv 0) pe_int (fun _ _ => rfl)) pe_int (nomark _)))))
  (pss_one (ps_rz T.x_NoTree (takes_of rfl rfl rfl rfl)))
  pss_nil)
  (pss_cons (ps_set (i := 1) sc_brackets_of.nd rfl (.inl rfl) (pe_lst (pa_cons pe_int pa_nil)))
  (pss_cons (ps_for (passes_of rfl) rfl (pi_zip (by rfl) T.b_zip (pa_cons (pv 0) (pa_cons (pe_slice sl_list (pv 0) (po_some pe_int) po_none) pa_nil))) (pg_tup rfl (pgs_cons (pg_name (i := 2) sc_brackets_of.nd rfl (.inl rfl)) (pgs_cons (pg_name (i := 3) sc_brackets_of.nd rfl (.inl rfl)) pgs_nil)))
  (pss_cons (ps_if (PW.pt (pw_or (pt_cmpR op_lt (pv 3) pe_int (nomark _)) (pw_or1 (pt_cmpR op_gt (pv 3) (pe_op op_add (pv 2) pe_int) (nomark _)))))
  (pss_one (ps_rz T.x_NoTree (takes_of rfl rfl rfl rfl)))
  pss_nil)
  (pss_cons (ps_expr (pe_bm PySem.F.plainAttrs_list PySem.F.slot_list_extend PySem.F.type_list_extend mt_extend (pv 1) (pa_cons (pe_op op_rep (pe_lst (pa_cons pe_int pa_nil)) (pe_op op_sub (pe_op op_add (pv 2) pe_int) (pv 3))) pa_nil)))
  (pss_one (ps_expr (pe_bm PySem.F.plainAttrs_list PySem.F.slot_list_append PySem.F.type_list_append mt_append (pv 1) (pa_cons pe_int pa_nil)))))))
  (pss_cons (ps_expr (pe_bm PySem.F.plainAttrs_list PySem.F.slot_list_extend PySem.F.type_list_extend mt_extend (pv 1) (pa_cons (pe_op op_rep (pe_lst (pa_cons pe_int pa_nil)) (pe_op op_add (pe_ix ix_list (pv 0) (pe_un un_neg pe_int) (fun _ _ => rfl)) pe_int)) pa_nil)))
  (pss_one (ps_ret (pv 1))))))))

theorem ok_depths_of (T : Tx P w K mg base) (o_packed : Okf P w K mg base (L2.CX P w) 2 "packed" ["bits"] (sp_packed K)) (o_is_tree : Okf P w K mg base CX0 1 "is_tree" ["bits"] (sp_is_tree K)) : Okf P w K mg base (L2.CX P w) 4 "depths_of" ["bits"] (sp_depths_of K) := by
  obtain ⟨fd, FD⟩ := T.d_depths_of
  refine ⟨⟨fd, FunD.look FD, FD.bindsN fun _ _ _ _ _ _ us hl => match us, hl with | [_], _ => rfl, ?_⟩, FD.kp, T.g_depths_of⟩
  refine FunD.ok (CX := (L2.CX P w)) FD sc_depths_of (len_depths_of K) (fun cdv A outer s H vs Q E hr h => ⟨t_depths_of K E, ?_, rd_depths_of K vs H Q E h⟩)
  exact (pss_cons (ps_expr (pe_callF o_packed hr (by decide) (by rfl) (passX (takes_of rfl rfl rfl rfl)) (pa_cons (pv 0) pa_nil)))
  (pss_cons (ps_if (pt_not (pt_val (pe_callF o_is_tree hr (by decide) (by rfl) pass0 (pa_cons (pv 0) pa_nil))))
  (pss_one (ps_rz T.x_NoTree (takes_of rfl rfl rfl rfl)))
  pss_nil)
  (pss_cons (ps_set (i := 1) sc_depths_of.nd rfl (.inl rfl) (pe_lst pa_nil))
  (pss_cons (ps_set (i := 2) sc_depths_of.nd rfl (.inl rfl) pe_int)
  (pss_cons (ps_for (passes_of rfl) rfl (pi_list (pv 0)) (pg_name (i := 3) sc_depths_of.nd rfl (.inl rfl))
  (pss_one (ps_if (pt_cmpR op_eq (pv 3) pe_int (nomark _))
  (pss_cons (ps_expr (pe_bm PySem.F.plainAttrs_list PySem.F.slot_list_append PySem.F.type_list_append mt_append (pv 1) (pa_cons (pv 2) pa_nil)))
  (pss_one (ps_aug (i := 2) sc_depths_of.nd rfl (.inl rfl) pe_int ip_add)))
  (pss_one (ps_aug (i := 2) sc_depths_of.nd rfl (.inl rfl) pe_int ip_sub)))))
  (pss_one (ps_ret (pv 1))))))))

theorem ok_kept_tree (T : Tx P w K mg base) (o_kept_brackets : Okf P w K mg base (L2.CX P w) 6 "kept_brackets" ["bits"] (sp_kept_brackets K)) (o_brackets_of : Okf P w K mg base (L2.CX P w) 2 "brackets_of" ["depths"] (sp_brackets_of K)) : Okf P w K mg base (L2.CX P w) 8 "kept_tree" ["depths"] (sp_kept_tree K) := by
  obtain ⟨fd, FD⟩ := T.d_kept_tree
  refine ⟨⟨fd, FunD.look FD, FD.bindsN fun _ _ _ _ _ _ us hl => match us, hl with | [_], _ => rfl, ?_⟩, FD.kp, T.g_kept_tree⟩
  refine FunD.ok (CX := (L2.CX P w)) FD sc_kept_tree (len_kept_tree K) (fun cdv A outer s H vs Q E hr h => ⟨t_kept_tree K E, ?_, rd_kept_tree K vs H Q E h⟩)
  exact (pss_one (ps_ret (pe_callF o_kept_brackets hr (by decide) (by rfl) (passX (takes_of rfl rfl rfl rfl)) (pa_cons (pe_callF o_brackets_of hr (by decide) (by rfl) (passX (takes_of rfl rfl rfl rfl)) (pa_cons (pv 0) pa_nil)) pa_nil))))

theorem ok_blocks_for (T : Tx P w K mg base) : Okf P w K mg base CX0 1 "blocks_for" ["many"] (sp_blocks_for K) := by
  obtain ⟨fd, FD⟩ := T.d_blocks_for
  refine ⟨⟨fd, FunD.look FD, FD.bindsN fun _ _ _ _ _ _ us hl => match us, hl with | [_], _ => rfl, ?_⟩, FD.kp, T.g_blocks_for⟩
  refine FunD.ok (CX := CX0) FD sc_blocks_for (len_blocks_for K) (fun cdv A outer s H vs Q E hr h => ⟨t_blocks_for K, PSs.nox ?_, rd_blocks_for K vs H Q E h⟩)
  exact (pss_one (ps_ret (pe_op op_fdiv (pe_op op_sub (pe_op op_add (pv 0) (pe_gint T.i_WIDE (by rfl))) pe_int) (pe_gint T.i_WIDE (by rfl)))))

theorem ok_row_laid (T : Tx P w K mg base) (o_fields_of : Okf P w K mg base CX0 2 "fields_of" ["numbers", "wide"] (sp_fields_of K)) : Okf P w K mg base CX0 3 "row_laid" ["tables", "blocks"] (sp_row_laid K) := by
  obtain ⟨fd, FD⟩ := T.d_row_laid
  refine ⟨⟨fd, FunD.look FD, FD.bindsN fun _ _ _ _ _ _ us hl => match us, hl with | [_, _], _ => rfl, ?_⟩, FD.kp, T.g_row_laid⟩
  refine FunD.ok (CX := CX0) FD sc_row_laid (len_row_laid K) (fun cdv A outer s H vs Q E hr h => ⟨t_row_laid K, PSs.nox ?_, rd_row_laid K vs H Q E h⟩)
  exact (pss_one (ps_ret (pe_op op_cat (pe_op op_cat (pe_callF o_fields_of hr (by decide) (by rfl) pass0 (pa_cons (pe_slice sl_tup (pv 0) po_none (po_some pe_int)) (pa_cons pe_int pa_nil))) (pe_callF o_fields_of hr (by decide) (by rfl) pass0 (pa_cons (pv 1) (pa_cons pe_int pa_nil)))) (pe_callF o_fields_of hr (by decide) (by rfl) pass0 (pa_cons (pe_ix ix_tup (pv 0) pe_int (fun _ _ => rfl)) (pa_cons pe_int pa_nil))))))

theorem ok_tree_laid (T : Tx P w K mg base) (o_row_laid : Okf P w K mg base CX0 3 "row_laid" ["tables", "blocks"] (sp_row_laid K)) (o_fields_of : Okf P w K mg base CX0 2 "fields_of" ["numbers", "wide"] (sp_fields_of K)) : Okf P w K mg base CX0 4 "tree_laid" ["tables", "blocks"] (sp_tree_laid K) := by
  obtain ⟨fd, FD⟩ := T.d_tree_laid
  refine ⟨⟨fd, FunD.look FD, FD.bindsN fun _ _ _ _ _ _ us hl => match us, hl with | [_, _], _ => rfl, ?_⟩, FD.kp, T.g_tree_laid⟩
  refine FunD.ok (CX := CX0) FD sc_tree_laid (len_tree_laid K) (fun cdv A outer s H vs Q E hr h => ⟨t_tree_laid K, PSs.nox ?_, rd_tree_laid K vs H Q E h⟩)
  exact (pss_cons (ps_set (i := 2) sc_tree_laid.nd rfl (.inl rfl) (pe_op op_fdiv (pe_callB call_lenK (by rfl) T.b_len (by decide +kernel) (pa_cons (pe_ix ix_tup (pv 0) pe_int (fun _ _ => rfl)) pa_nil)) pe_int))
  (pss_one (ps_ret (pe_op op_cat (pe_op op_cat (pe_lst (pa_cons pe_int pa_nil)) (pe_callF o_row_laid hr (by decide) (by rfl) pass0 (pa_cons (pv 0) (pa_cons (pv 1) pa_nil)))) (pe_callF o_fields_of hr (by decide) (by rfl) pass0 (pa_cons (pe_slice sl_tup (pe_ix ix_tup (pv 0) pe_int (fun _ _ => rfl)) (po_some (pv 2)) (po_some (pe_op op_add (pv 2) (pe_callB call_lenK (by rfl) T.b_len (by decide +kernel) (pa_cons (pv 1) pa_nil))))) (pa_cons pe_int pa_nil)))))))

theorem ok_tree_octets (T : Tx P w K mg base) (o_kept_tree : Okf P w K mg base (L2.CX P w) 8 "kept_tree" ["depths"] (sp_kept_tree K)) (o_tree_laid : Okf P w K mg base CX0 4 "tree_laid" ["tables", "blocks"] (sp_tree_laid K)) : Okf P w K mg base (L2.CX P w) 10 "tree_octets" ["depths"] (sp_tree_octets K) := by
  obtain ⟨fd, FD⟩ := T.d_tree_octets
  refine ⟨⟨fd, FunD.look FD, FD.bindsN fun _ _ _ _ _ _ us hl => match us, hl with | [_], _ => rfl, ?_⟩, FD.kp, T.g_tree_octets⟩
  refine FunD.ok (CX := (L2.CX P w)) FD sc_tree_octets (len_tree_octets K) (fun cdv A outer s H vs Q E hr h => ⟨t_tree_octets K E, ?_, rd_tree_octets K vs H Q E h⟩)
  exact (pss_cons (ps_asg (pe_callF o_kept_tree hr (by decide) (by rfl) (passX (takes_of rfl rfl rfl rfl)) (pa_cons (pv 0) pa_nil)) (pg_tup rfl (pgs_cons (pg_name (i := 1) sc_tree_octets.nd rfl (.inl rfl)) (pgs_cons (pg_name (i := 2) sc_tree_octets.nd rfl (.inl rfl)) pgs_nil))))
  (pss_one (ps_ret (pe_callF o_tree_laid hr (by decide) (by rfl) pass0 (pa_cons (pv 1) (pa_cons (pv 2) pa_nil))))))

theorem ok_head_of (T : Tx P w K mg base) (o_number_of : Okf P w K mg base CX0 1 "number_of" ["octets"] (sp_number_of K)) : Okf P w K mg base (L2.CX P w) 3 "head_of" ["octets", "kind", "wide"] (sp_head_of K) := by
  obtain ⟨fd, FD⟩ := T.d_head_of
  refine ⟨⟨fd, FunD.look FD, FD.bindsN fun _ _ _ _ _ _ us hl => match us, hl with | [_, _, _], _ => rfl, ?_⟩, FD.kp, T.g_head_of⟩
  refine FunD.ok (CX := (L2.CX P w)) FD sc_head_of (len_head_of K) (fun cdv A outer s H vs Q E hr h => ⟨t_head_of K E, ?_, rd_head_of K vs H Q E h⟩)
  exact (pss_cons (ps_if (PW.pt (pw_or (pt_cmpR op_lt (pe_callB call_lenK (by rfl) T.b_len (by decide +kernel) (pa_cons (pv 0) pa_nil)) (pv 2) (nomark _)) (pw_or (pt_not (pt_val (pe_callB (cr_all rfl) (by rfl) T.b_all (by decide +kernel) (pa_cons (pe_lc (own := [("octet", 3)]) (g := (gName 3)) (tt := tYes) rfl sc_head_of.nd (pi_list (pv 0)) (blkOk_by (N := ["octets", "kind", "wide", "octet", "many"]) (sc := defScope s_head_of) (own := [("octet", 3)]) (by decide +kernel)) (fun _ _ _ _ _ => (pg_name (i := 3) sc_head_of.nd rfl (.inl rfl))) (fun _ _ _ _ _ => pts_nil) (fun _ _ _ _ _ => (pe_chain op_le op_lt pe_int (pv 3) pe_int))) pa_nil)))) (pw_or1 (pt_cmpR op_ne (pe_ix ix_list (pv 0) pe_int (fun _ _ => rfl)) (pv 1) (nomark _))))))
  (pss_one (ps_rz T.x_NoOctets (takes_of rfl rfl rfl rfl)))
  pss_nil)
  (pss_cons (ps_set (i := 4) sc_head_of.nd rfl (.inl rfl) (pe_callF o_number_of hr (by decide) (by rfl) pass0 (pa_cons (pe_slice sl_list (pv 0) (po_some pe_int) (po_some pe_int)) pa_nil)))
  (pss_cons (ps_if (pt_cmpR op_gt (pv 4) (pe_gint T.i_MOST (by rfl)) (nomark _))
  (pss_one (ps_rz T.x_NoOctets (takes_of rfl rfl rfl rfl)))
  pss_nil)
  (pss_one (ps_ret (pe_tup (pa_cons (pv 4) (pa_cons (pe_callF o_number_of hr (by decide) (by rfl) pass0 (pa_cons (pe_slice sl_list (pv 0) (po_some pe_int) (po_some (pv 2))) pa_nil)) pa_nil))))))))

theorem ok_row_long (T : Tx P w K mg base) (o_blocks_for : Okf P w K mg base CX0 1 "blocks_for" ["many"] (sp_blocks_for K)) : Okf P w K mg base CX0 2 "row_long" ["many"] (sp_row_long K) := by
  obtain ⟨fd, FD⟩ := T.d_row_long
  refine ⟨⟨fd, FunD.look FD, FD.bindsN fun _ _ _ _ _ _ us hl => match us, hl with | [_], _ => rfl, ?_⟩, FD.kp, T.g_row_long⟩
  refine FunD.ok (CX := CX0) FD sc_row_long (len_row_long K) (fun cdv A outer s H vs Q E hr h => ⟨t_row_long K, PSs.nox ?_, rd_row_long K vs H Q E h⟩)
  exact (pss_one (ps_ret (pe_op op_add (pe_op op_mul pe_int (pe_callF o_blocks_for hr (by decide) (by rfl) pass0 (pa_cons (pv 0) pa_nil))) pe_int)))

theorem ok_same_again (T : Tx P w K mg base) : Okf P w K mg base (L2.CX P w) 2 "same_again" ["octets", "again"] (sp_same_again K) := by
  obtain ⟨fd, FD⟩ := T.d_same_again
  refine ⟨⟨fd, FunD.look FD, FD.bindsN fun _ _ _ _ _ _ us hl => match us, hl with | [_, _], _ => rfl, ?_⟩, FD.kp, T.g_same_again⟩
  refine FunD.ok (CX := (L2.CX P w)) FD sc_same_again (len_same_again K) (fun cdv A outer s H vs Q E hr h => ⟨t_same_again K E, ?_, rd_same_again K vs H Q E h⟩)
  exact (pss_one (ps_if (pt_cmpR (op_neD hr.units) (pv 0) (pv 1) (nomark _))
  (pss_one (ps_rz T.x_NoOctets (takes_of rfl rfl rfl rfl)))
  pss_nil))

theorem ok_read_tree (T : Tx P w K mg base) (o_head_of : Okf P w K mg base (L2.CX P w) 3 "head_of" ["octets", "kind", "wide"] (sp_head_of K)) (o_row_long : Okf P w K mg base CX0 2 "row_long" ["many"] (sp_row_long K)) (o_blocks_for : Okf P w K mg base CX0 1 "blocks_for" ["many"] (sp_blocks_for K)) (o_unpacked : Okf P w K mg base (L2.CX P w) 2 "unpacked" ["blocks", "many"] (sp_unpacked K)) (o_numbers_of : Okf P w K mg base CX0 2 "numbers_of" ["octets", "wide"] (sp_numbers_of K)) (o_is_tree : Okf P w K mg base CX0 1 "is_tree" ["bits"] (sp_is_tree K)) (o_depths_of : Okf P w K mg base (L2.CX P w) 4 "depths_of" ["bits"] (sp_depths_of K)) (o_same_again : Okf P w K mg base (L2.CX P w) 2 "same_again" ["octets", "again"] (sp_same_again K)) (o_tree_octets : Okf P w K mg base (L2.CX P w) 10 "tree_octets" ["depths"] (sp_tree_octets K)) : Okf P w K mg base (L2.CX P w) 12 "read_tree" ["octets"] (sp_read_tree K) := by
  obtain ⟨fd, FD⟩ := T.d_read_tree
  refine ⟨⟨fd, FunD.look FD, FD.bindsN fun _ _ _ _ _ _ us hl => match us, hl with | [_], _ => rfl, ?_⟩, FD.kp, T.g_read_tree⟩
  refine FunD.ok (CX := (L2.CX P w)) FD sc_read_tree (len_read_tree K) (fun cdv A outer s H vs Q E hr h => ⟨t_read_tree K E, ?_, rd_read_tree K vs H Q E h⟩)
  exact (pss_cons (ps_set (i := 1) sc_read_tree.nd rfl (.inl rfl) (pe_ix ix_tup (pe_callF o_head_of hr (by decide) (by rfl) (passX (takes_of rfl rfl rfl rfl)) (pa_cons (pv 0) (pa_cons pe_int (pa_cons pe_int pa_nil)))) pe_int (fun _ _ => rfl)))
  (pss_cons (ps_if (pt_cmpR op_ne (pe_callB call_lenK (by rfl) T.b_len (by decide +kernel) (pa_cons (pv 0) pa_nil)) (pe_op op_add (pe_op op_add pe_int (pe_callF o_row_long hr (by decide) (by rfl) pass0 (pa_cons (pv 1) pa_nil))) (pe_op op_mul pe_int (pe_callF o_blocks_for hr (by decide) (by rfl) pass0 (pa_cons (pv 1) pa_nil)))) (nomark _))
  (pss_one (ps_rz T.x_NoOctets (takes_of rfl rfl rfl rfl)))
  pss_nil)
  (pss_cons (ps_set (i := 2) sc_read_tree.nd rfl (.inl rfl) (pe_callF o_unpacked hr (by decide) (by rfl) (passX (takes_of rfl rfl rfl rfl)) (pa_cons (pe_callF o_numbers_of hr (by decide) (by rfl) pass0 (pa_cons (pe_slice sl_list (pv 0) (po_some pe_int) (po_some (pe_op op_add pe_int (pe_op op_mul pe_int (pe_callF o_blocks_for hr (by decide) (by rfl) pass0 (pa_cons (pv 1) pa_nil)))))) (pa_cons pe_int pa_nil))) (pa_cons (pv 1) pa_nil))))
  (pss_cons (ps_if (pt_not (pt_val (pe_callF o_is_tree hr (by decide) (by rfl) pass0 (pa_cons (pv 2) pa_nil))))
  (pss_one (ps_rz T.x_NoOctets (takes_of rfl rfl rfl rfl)))
  pss_nil)
  (pss_cons (ps_set (i := 3) sc_read_tree.nd rfl (.inl rfl) (pe_callF o_depths_of hr (by decide) (by rfl) (passX (takes_of rfl rfl rfl rfl)) (pa_cons (pv 2) pa_nil)))
  (pss_cons (ps_expr (pe_callF o_same_again hr (by decide) (by rfl) (passX (takes_of rfl rfl rfl rfl)) (pa_cons (pv 0) (pa_cons (pe_callF o_tree_octets hr (by decide) (by rfl) (passX (takes_of rfl rfl rfl rfl)) (pa_cons (pv 3) pa_nil)) pa_nil))))
  (pss_one (ps_ret (pv 3)))))))))

theorem ok_opened_tree (T : Tx P w K mg base) (o_kept_tree : Okf P w K mg base (L2.CX P w) 8 "kept_tree" ["depths"] (sp_kept_tree K)) (o_read_tree : Okf P w K mg base (L2.CX P w) 12 "read_tree" ["octets"] (sp_read_tree K)) (o_look_of : Okf P w K mg base CX0 1 "look_of" ["blocks"] (sp_look_of K (Cal P w K mg base))) : Okf P w K mg base (L2.CX P w) 14 "opened_tree" ["octets"] (sp_opened_tree K (Cal P w K mg base)) := by
  obtain ⟨fd, FD⟩ := T.d_opened_tree
  refine ⟨⟨fd, FunD.look FD, FD.bindsN fun _ _ _ _ _ _ us hl => match us, hl with | [_], _ => rfl, ?_⟩, FD.kp, T.g_opened_tree⟩
  refine FunD.ok (CX := (L2.CX P w)) FD sc_opened_tree (len_opened_tree K (Cal P w K mg base)) (fun cdv A outer s H vs Q E hr h => ⟨t_opened_tree K (Cal P w K mg base) E, ?_, rd_opened_tree K (Cal P w K mg base) vs H Q E h⟩)
  exact (pss_cons (ps_asg (pe_callF o_kept_tree hr (by decide) (by rfl) (passX (takes_of rfl rfl rfl rfl)) (pa_cons (pe_callF o_read_tree hr (by decide) (by rfl) (passX (takes_of rfl rfl rfl rfl)) (pa_cons (pv 0) pa_nil)) pa_nil)) (pg_tup rfl (pgs_cons (pg_name (i := 1) sc_opened_tree.nd rfl (.inl rfl)) (pgs_cons (pg_name (i := 2) sc_opened_tree.nd rfl (.inl rfl)) pgs_nil))))
  (pss_one (ps_ret (pe_tup (pa_cons (pv 1) (pa_cons (pe_callF o_look_of hr (by decide) (by rfl) pass0 (pa_cons (pv 2) pa_nil)) pa_nil))))))

theorem ok_law_cell_at (T : Tx P w K mg base) : Okf P w K mg base CX0 1 "_law_cell_at" ["_law_script", "_law_k"] (sp_law_cell_at K) := by
  obtain ⟨fd, FD⟩ := T.d_law_cell_at
  refine ⟨⟨fd, FunD.look FD, FD.bindsN fun _ _ _ _ _ _ us hl => match us, hl with | [_, _], _ => rfl, ?_⟩, FD.kp, T.g_law_cell_at⟩
  refine FunD.ok (CX := CX0) FD sc_law_cell_at (len_law_cell_at K) (fun cdv A outer s H vs Q E hr h => ⟨t_law_cell_at K, PSs.nox ?_, rd_law_cell_at K vs H Q E h⟩)
  exact (pss_cons (ps_if (pt_cmpR op_lt (pv 1) (pe_callB call_lenK (by rfl) T.b_len (by decide +kernel) (pa_cons (pv 0) pa_nil)) (nomark _))
  (pss_one (ps_ret (pe_ix ix_list (pv 0) (pv 1) (fun _ _ => rfl))))
  pss_nil)
  (pss_one (ps_ret pe_int)))

theorem ok_law_whole (T : Tx P w K mg base) : Okf P w K mg base CX0 1 "_law_whole" ["_law_found"] (sp_law_whole K) := by
  obtain ⟨fd, FD⟩ := T.d_law_whole
  refine ⟨⟨fd, FunD.look FD, FD.bindsN fun _ _ _ _ _ _ us hl => match us, hl with | [_], _ => rfl, ?_⟩, FD.kp, T.g_law_whole⟩
  refine FunD.ok (CX := CX0) FD sc_law_whole (len_law_whole K) (fun cdv A outer s H vs Q E hr h => ⟨t_law_whole K, PSs.nox ?_, rd_law_whole K vs H Q E h⟩)
  exact (pss_one (ps_ret (pe_and (pe_callB call_isB (by rfl) T.b_isinstance (by decide +kernel) (pa_cons (pv 0) (pa_cons (pe_bltn (v := .ty "int") (by rfl) T.b_int (by decide +kernel) rfl) pa_nil))) (pe_one (pe_not (pe_callB call_isB (by rfl) T.b_isinstance (by decide +kernel) (pa_cons (pv 0) (pa_cons (pe_bltn (v := .ty "bool") (by rfl) T.b_bool (by decide +kernel) rfl) pa_nil))))))))

theorem ok_law_bits (T : Tx P w K mg base) : Okf P w K mg base CX0 1 "_law_bits" ["_law_script"] (sp_law_bits K) := by
  obtain ⟨fd, FD⟩ := T.d_law_bits
  refine ⟨⟨fd, FunD.look FD, FD.bindsN fun _ _ _ _ _ _ us hl => match us, hl with | [_], _ => rfl, ?_⟩, FD.kp, T.g_law_bits⟩
  refine FunD.ok (CX := CX0) FD sc_law_bits (len_law_bits K) (fun cdv A outer s H vs Q E hr h => ⟨t_law_bits K, PSs.nox ?_, rd_law_bits K vs H Q E h⟩)
  exact (pss_cons (ps_set (i := 1) sc_law_bits.nd rfl (.inl rfl) (pe_lst (pa_cons pe_int pa_nil)))
  (pss_cons (ps_set (i := 2) sc_law_bits.nd rfl (.inl rfl) (pe_lst (pa_cons pe_int pa_nil)))
  (pss_cons (ps_for PassesOwn.never rfl (pi_list (pe_slice sl_list (pv 0) po_none (po_some pe_int))) (pg_name (i := 3) sc_law_bits.nd rfl (.inl rfl))
  (pss_cons (ps_set (i := 4) sc_law_bits.nd rfl (.inl rfl) (pe_op op_mod (pe_op op_mul (pv 3) pe_int) pe_int))
  (pss_cons (ps_set (i := 5) sc_law_bits.nd rfl (.inl rfl) (pe_op op_add pe_int (pe_op op_mod (pe_op op_fdiv (pv 4) pe_int) pe_int)))
  (Evl.pss_cut (ps_if (pt_cmpR op_eq (pe_op op_mod (pe_op op_fdiv (pv 4) pe_int) pe_int) pe_int (nomark _))
  (pss_one (ps_set (i := 5) sc_law_bits.nd rfl (.inl rfl) (pe_op op_add pe_int (pe_op op_mod (pe_op op_fdiv (pv 4) pe_int) pe_int))))
  pss_nil)
  (pss_cons (ps_set (i := 6) sc_law_bits.nd rfl (.inl rfl) (pe_op op_mod (pe_op op_fdiv (pv 4) pe_int) (pe_op op_add (pe_ix ix_list (pv 2) (pe_un un_neg pe_int) (fun _ _ => rfl)) pe_int)))
  (pss_one (ps_for PassesOwn.never rfl (pi_range1 (by rfl) T.b_range (pa_cons (pe_callB (call_min2K rfl) (by rfl) T.b_min (by decide +kernel) (pa_cons (pv 5) (pa_cons (pe_op op_sub pe_int (pe_callB call_lenK (by rfl) T.b_len (by decide +kernel) (pa_cons (pv 2) pa_nil))) pa_nil))) pa_nil)) (pg_name (i := 7) sc_law_bits.nd rfl (.inl rfl))
  (pss_cons (ps_set (i := 8) sc_law_bits.nd rfl (.inl rfl) (pe_op op_add (pv 6) pe_int))
  (Evl.pss_cut (ps_if (pt_cmpR op_eq (pe_op op_mod (pv 4) pe_int) pe_int (nomark _))
  (pss_one (ps_set (i := 8) sc_law_bits.nd rfl (.inl rfl) (pe_op op_add (pe_op op_add (pv 6) pe_int) (pv 7))))
  pss_nil)
  (Evl.pss_cut (ps_if (pt_cmpR op_eq (pe_op op_mod (pv 4) pe_int) pe_int (nomark _))
  (pss_one (ps_set (i := 8) sc_law_bits.nd rfl (.inl rfl) (pe_op op_add (pe_op op_add (pv 6) pe_int) (pe_op op_mod (pv 7) pe_int))))
  pss_nil)
  (Evl.pss_cut (ps_if (pt_cmpR op_eq (pe_op op_mod (pv 4) pe_int) pe_int (nomark _))
  (pss_one (ps_set (i := 8) sc_law_bits.nd rfl (.inl rfl) (pe_op op_add pe_int (pe_op op_mod (pe_op op_mod (pe_op op_mul (pe_op op_mul (pv 4) (pe_op op_add (pe_op op_mul pe_int (pv 7)) pe_int)) pe_int) pe_int) (pe_op op_add (pe_ix ix_list (pv 2) (pe_un un_neg pe_int) (fun _ _ => rfl)) pe_int)))))
  pss_nil)
  (pss_cons (ps_expr (pe_bm PySem.F.plainAttrs_list PySem.F.slot_list_extend PySem.F.type_list_extend mt_extend (pv 1) (pa_cons (pe_op op_rep (pe_lst (pa_cons pe_int pa_nil)) (pe_op op_sub (pe_op op_add (pe_ix ix_list (pv 2) (pe_un un_neg pe_int) (fun _ _ => rfl)) pe_int) (pv 8))) pa_nil)))
  (pss_cons (ps_expr (pe_bm PySem.F.plainAttrs_list PySem.F.slot_list_append PySem.F.type_list_append mt_append (pv 1) (pa_cons pe_int pa_nil)))
  (pss_one (ps_expr (pe_bm PySem.F.plainAttrs_list PySem.F.slot_list_append PySem.F.type_list_append mt_append (pv 2) (pa_cons (pv 8) pa_nil)))))))))))))))))
  (pss_one (ps_ret (pe_op op_cat (pv 1) (pe_op op_rep (pe_lst (pa_cons pe_int pa_nil)) (pe_op op_add (pe_ix ix_list (pv 2) (pe_un un_neg pe_int) (fun _ _ => rfl)) pe_int))))))))

theorem ok_law_two (T : Tx P w K mg base) : Okf P w K mg base CX0 1 "_law_two" ["_law_number"] (sp_law_two K) := by
  obtain ⟨fd, FD⟩ := T.d_law_two
  refine ⟨⟨fd, FunD.look FD, FD.bindsN fun _ _ _ _ _ _ us hl => match us, hl with | [_], _ => rfl, ?_⟩, FD.kp, T.g_law_two⟩
  refine FunD.ok (CX := CX0) FD sc_law_two (len_law_two K) (fun cdv A outer s H vs Q E hr h => ⟨t_law_two K, PSs.nox ?_, rd_law_two K vs H Q E h⟩)
  exact (pss_one (ps_ret (pe_lst (pa_cons (pe_op op_mod (pv 0) pe_int) (pa_cons (pe_op op_mod (pe_op op_fdiv (pv 0) pe_int) pe_int) pa_nil)))))

theorem ok_law_written (T : Tx P w K mg base) (o_law_two : Okf P w K mg base CX0 1 "_law_two" ["_law_number"] (sp_law_two K)) : Okf P w K mg base CX0 2 "_law_written" ["_law_bits_here"] (sp_law_written K) := by
  obtain ⟨fd, FD⟩ := T.d_law_written
  refine ⟨⟨fd, FunD.look FD, FD.bindsN fun _ _ _ _ _ _ us hl => match us, hl with | [_], _ => rfl, ?_⟩, FD.kp, T.g_law_written⟩
  refine FunD.ok (CX := CX0) FD sc_law_written (len_law_written K) (fun cdv A outer s H vs Q E hr h => ⟨t_law_written K, PSs.nox ?_, rd_law_written K vs H Q E h⟩)
  exact (pss_cons (ps_set (i := 1) sc_law_written.nd rfl (.inl rfl) (pe_lst pa_nil))
  (pss_cons (ps_for PassesOwn.never rfl (pi_range3 (by rfl) T.b_range (pa_cons pe_int (pa_cons (pe_callB call_lenK (by rfl) T.b_len (by decide +kernel) (pa_cons (pv 0) pa_nil)) (pa_cons pe_int pa_nil)))) (pg_name (i := 2) sc_law_written.nd rfl (.inl rfl))
  (pss_cons (ps_set (i := 3) sc_law_written.nd rfl (.inl rfl) pe_int)
  (pss_cons (ps_for PassesOwn.never rfl (pi_reversed (by rfl) T.b_reversed (pa_cons (pe_slice sl_list (pv 0) (po_some (pv 2)) (po_some (pe_op op_add (pv 2) pe_int))) pa_nil)) (pg_name (i := 4) sc_law_written.nd rfl (.inl rfl))
  (pss_one (ps_set (i := 3) sc_law_written.nd rfl (.inl rfl) (pe_op op_add (pe_op op_mul pe_int (pv 3)) (pv 4)))))
  (pss_one (ps_expr (pe_bm PySem.F.plainAttrs_list PySem.F.slot_list_append PySem.F.type_list_append mt_append (pv 1) (pa_cons (pv 3) pa_nil)))))))
  (pss_cons (ps_while PassesOwn.never (pt_cmpR op_ne (pe_op op_mod (pe_callB call_lenK (by rfl) T.b_len (by decide +kernel) (pa_cons (pv 1) pa_nil)) pe_int) pe_int (nomark _))
  (pss_one (ps_expr (pe_bm PySem.F.plainAttrs_list PySem.F.slot_list_append PySem.F.type_list_append mt_append (pv 1) (pa_cons pe_int pa_nil)))))
  (pss_cons (ps_expr (pe_bm PySem.F.plainAttrs_list PySem.F.slot_list_extend PySem.F.type_list_extend mt_extend (pv 1) (pa_cons (pe_lst (pa_cons pe_int (pa_cons pe_int pa_nil))) pa_nil)))
  (pss_cons (ps_set (i := 5) sc_law_written.nd rfl (.inl rfl) pe_int)
  (pss_cons (ps_set (i := 6) sc_law_written.nd rfl (.inl rfl) (pe_lst pa_nil))
  (pss_cons (ps_for PassesOwn.never rfl (pi_range3 (by rfl) T.b_range (pa_cons pe_int (pa_cons (pe_callB call_lenK (by rfl) T.b_len (by decide +kernel) (pa_cons (pv 0) pa_nil)) (pa_cons pe_int pa_nil)))) (pg_name (i := 2) sc_law_written.nd rfl (.inl rfl))
  (pss_cons (ps_set (i := 7) sc_law_written.nd rfl (.inl rfl) pe_int)
  (pss_cons (ps_set (i := 8) sc_law_written.nd rfl (.inl rfl) (pv 2))
  (pss_cons (ps_for PassesOwn.never rfl (pi_list (pe_slice sl_list (pv 0) (po_some (pv 2)) (po_some (pe_op op_add (pv 2) pe_int)))) (pg_name (i := 4) sc_law_written.nd rfl (.inl rfl))
  (pss_cons (ps_set (i := 5) sc_law_written.nd rfl (.inl rfl) (pe_op op_add (pv 5) (pv 4)))
  (pss_cons (ps_set (i := 8) sc_law_written.nd rfl (.inl rfl) (pe_op op_add (pv 8) pe_int))
  (pss_one (ps_set (i := 7) sc_law_written.nd rfl (.inl rfl) (pe_callB (call_min2K rfl) (by rfl) T.b_min (by decide +kernel) (pa_cons (pv 7) (pa_cons (pe_op op_sub (pe_op op_mul pe_int (pv 5)) (pv 8)) pa_nil))))))))
  (pss_cons (ps_expr (pe_bm PySem.F.plainAttrs_list PySem.F.slot_list_extend PySem.F.type_list_extend mt_extend (pv 1) (pa_cons (pe_callF o_law_two hr (by decide) (by rfl) pass0 (pa_cons (pv 5) pa_nil)) pa_nil)))
  (pss_one (ps_expr (pe_bm PySem.F.plainAttrs_list PySem.F.slot_list_extend PySem.F.type_list_extend mt_extend (pv 6) (pa_cons (pe_callF o_law_two hr (by decide) (by rfl) pass0 (pa_cons (pv 7) pa_nil)) pa_nil)))))))))
  (pss_one (ps_ret (pe_op op_cat (pe_op op_cat (pe_op op_cat (pe_lst (pa_cons pe_int pa_nil)) (pe_callF o_law_two hr (by decide) (by rfl) pass0 (pa_cons (pe_callB call_lenK (by rfl) T.b_len (by decide +kernel) (pa_cons (pv 0) pa_nil)) pa_nil))) (pv 1)) (pv 6)))))))))))

theorem ok_law_due (T : Tx P w K mg base) (o_law_written : Okf P w K mg base CX0 2 "_law_written" ["_law_bits_here"] (sp_law_written K)) : Okf P w K mg base CX0 3 "_law_due" ["_law_octets_here"] (sp_law_due K) := by
  obtain ⟨fd, FD⟩ := T.d_law_due
  refine ⟨⟨fd, FunD.look FD, FD.bindsN fun _ _ _ _ _ _ us hl => match us, hl with | [_], _ => rfl, ?_⟩, FD.kp, T.g_law_due⟩
  refine FunD.ok (CX := CX0) FD sc_law_due (len_law_due K) (fun cdv A outer s H vs Q E hr h => ⟨t_law_due K, PSs.nox ?_, rd_law_due K vs H Q E h⟩)
  exact (pss_cons (ps_if (PW.pt (pw_or (pt_cmpR op_lt (pe_callB call_lenK (by rfl) T.b_len (by decide +kernel) (pa_cons (pv 0) pa_nil)) pe_int (nomark _)) (pw_or1 (pt_cmpR (op_neD hr.units) (pe_lc (own := [("_law_octet", 1)]) (g := (gName 1)) (tt := (tOr (tTest (tOp rLt (tVar 1) (tC (.int 0)))) (tTest (tOp rGtI (tVar 1) (tC (.int 255)))))) rfl sc_law_due.nd (pi_list (pv 0)) (blkOk_by (N := ["_law_octets_here", "_law_octet", "_law_many", "_law_bits_here", "_law_k", "_law_depths", "_law_deep", "_law_at"]) (sc := defScope s_law_due) (own := [("_law_octet", 1)]) (by decide +kernel)) (fun _ _ _ _ _ => (pg_name (i := 1) sc_law_due.nd rfl (.inl rfl))) (fun _ _ _ _ _ => (pts_one (PW.pt (pw_or (pt_cmpR op_lt (pv 1) pe_int (nomark _)) (pw_or1 (pt_cmpR op_gt (pv 1) pe_int (nomark _))))))) (fun _ _ _ _ _ => (pv 1))) (pe_lst pa_nil) (nomark _)))))
  (pss_one (ps_ret (pe_tup (pa_cons pe_int (pa_cons pe_bl (pa_cons pe_bl (pa_cons pe_bl pa_nil)))))))
  pss_nil)
  (pss_cons (ps_set (i := 2) sc_law_due.nd rfl (.inl rfl) (pe_op op_add (pe_ix ix_list (pv 0) pe_int (fun _ _ => rfl)) (pe_op op_mul pe_int (pe_ix ix_list (pv 0) pe_int (fun _ _ => rfl)))))
  (pss_cons (ps_set (i := 3) sc_law_due.nd rfl (.inl rfl) (pe_lst pa_nil))
  (pss_cons (ps_for PassesOwn.never rfl (pi_list (pe_slice sl_list (pv 0) (po_some pe_int) (po_some (pe_op op_add pe_int (pe_op op_fdiv (pe_op op_add (pe_callB (call_min2K rfl) (by rfl) T.b_min (by decide +kernel) (pa_cons (pv 2) (pa_cons pe_int pa_nil))) pe_int) pe_int))))) (pg_name (i := 1) sc_law_due.nd rfl (.inl rfl))
  (pss_one (ps_for PassesOwn.never rfl (pi_range1 (by rfl) T.b_range (pa_cons pe_int pa_nil)) (pg_name (i := 4) sc_law_due.nd rfl (.inl rfl))
  (pss_cons (ps_expr (pe_bm PySem.F.plainAttrs_list PySem.F.slot_list_append PySem.F.type_list_append mt_append (pv 3) (pa_cons (pe_op op_mod (pv 1) pe_int) pa_nil)))
  (pss_one (ps_set (i := 1) sc_law_due.nd rfl (.inl rfl) (pe_op op_fdiv (pv 1) pe_int)))))))
  (pss_cons (ps_set (i := 3) sc_law_due.nd rfl (.inl rfl) (pe_slice sl_list (pv 3) po_none (po_some (pv 2))))
  (pss_cons (ps_set (i := 5) sc_law_due.nd rfl (.inl rfl) (pe_lst pa_nil))
  (pss_cons (ps_set (i := 6) sc_law_due.nd rfl (.inl rfl) pe_int)
  (pss_cons (ps_for PassesOwn.never rfl (pi_range1 (by rfl) T.b_range (pa_cons (pe_callB call_lenK (by rfl) T.b_len (by decide +kernel) (pa_cons (pv 3) pa_nil)) pa_nil)) (pg_name (i := 7) sc_law_due.nd rfl (.inl rfl))
  (pss_cons (ps_if (PW.pt (pw_and (pt_cmpR op_gt (pv 7) pe_int (nomark _)) (pw_and1 (pt_cmpR op_lt (pv 6) pe_int (nomark _)))))
  (pss_one (ps_ret (pe_tup (pa_cons pe_int (pa_cons pe_bl (pa_cons pe_bl (pa_cons pe_bl pa_nil)))))))
  pss_nil)
  (Evl.pss_cut (ps_if (pt_cmpR op_eq (pe_ix ix_list (pv 3) (pv 7) (fun _ _ => rfl)) pe_int (nomark _))
  (pss_one (ps_expr (pe_bm PySem.F.plainAttrs_list PySem.F.slot_list_append PySem.F.type_list_append mt_append (pv 5) (pa_cons (pv 6) pa_nil))))
  pss_nil)
  (pss_one (ps_set (i := 6) sc_law_due.nd rfl (.inl rfl) (pe_op op_sub (pe_op op_add (pv 6) (pe_op op_mul pe_int (pe_ix ix_list (pv 3) (pv 7) (fun _ _ => rfl)))) pe_int))))))
  (pss_cons (ps_if (PW.pt (pw_or (pt_cmpR (op_eqD hr.units) (pv 5) (pe_lst pa_nil) (nomark _)) (pw_or (pt_cmpR op_ne (pv 6) pe_int (nomark _)) (pw_or1 (pt_cmpR (op_neD hr.units) (pe_callF o_law_written hr (by decide) (by rfl) pass0 (pa_cons (pv 3) pa_nil)) (pv 0) (nomark _))))))
  (pss_one (ps_ret (pe_tup (pa_cons pe_int (pa_cons pe_bl (pa_cons pe_bl (pa_cons pe_bl pa_nil)))))))
  pss_nil)
  (pss_one (ps_ret (pv 5))))))))))))

theorem ok_law_asked (T : Tx P w K mg base) (o_read_tree : Okf P w K mg base (L2.CX P w) 12 "read_tree" ["octets"] (sp_read_tree K)) (o_opened_tree : Okf P w K mg base (L2.CX P w) 14 "opened_tree" ["octets"] (sp_opened_tree K (Cal P w K mg base))) : Okf P w K mg base (L2.CX P w) 16 "_law_asked" ["_law_way", "_law_octets_here"] (sp_law_asked K (Cal P w K mg base)) := by
  obtain ⟨fd, FD⟩ := T.d_law_asked
  refine ⟨⟨fd, FunD.look FD, FD.bindsN fun _ _ _ _ _ _ us hl => match us, hl with | [_, _], _ => rfl, ?_⟩, FD.kp, T.g_law_asked⟩
  refine FunD.ok (CX := (L2.CX P w)) FD sc_law_asked (len_law_asked K (Cal P w K mg base)) (fun cdv A outer s H vs Q E hr h => ⟨t_law_asked K (Cal P w K mg base) E, ?_, rd_law_asked K (Cal P w K mg base) T.fx vs H Q E h⟩)
  exact (pss_cons (ps_if (pt_cmpR op_eq (pv 0) pe_int (nomark _))
  (pss_one (ps_ret (pe_callF o_read_tree hr (by decide) (by rfl) (passX (takes_of rfl rfl rfl rfl)) (pa_cons (pv 1) pa_nil))))
  pss_nil)
  (pss_one (ps_ret (pe_callF o_opened_tree hr (by decide) (by rfl) (passX (takes_of rfl rfl rfl rfl)) (pa_cons (pv 1) pa_nil)))))

theorem ok_law_told (T : Tx P w K mg base) (o_law_asked : Okf P w K mg base (L2.CX P w) 16 "_law_asked" ["_law_way", "_law_octets_here"] (sp_law_asked K (Cal P w K mg base))) (o_law_whole : Okf P w K mg base CX0 1 "_law_whole" ["_law_found"] (sp_law_whole K)) : Okf P w K mg base CX0 17 "_law_told" ["_law_way", "_law_octets_here"] (sp_law_told K (Cal P w K mg base)) := by
  obtain ⟨fd, FD⟩ := T.d_law_told
  refine ⟨⟨fd, FunD.look FD, FD.bindsN fun _ _ _ _ _ _ us hl => match us, hl with | [_, _], _ => rfl, ?_⟩, FD.kp, T.g_law_told⟩
  refine FunD.ok (CX := CX0) FD sc_law_told (len_law_told K (Cal P w K mg base)) (fun cdv A outer s H vs Q E hr h => ⟨t_law_told K (Cal P w K mg base), PSs.nox ?_, rd_law_told K (Cal P w K mg base) T.fx vs H Q E h⟩)
  exact (pss_cons (ps_set (i := 2) sc_law_told.nd rfl (.inl rfl) (pe_tup (pa_cons pe_int (pa_cons pe_bl (pa_cons pe_bl (pa_cons pe_bl pa_nil))))))
  (pss_cons (ps_set (i := 3) sc_law_told.nd rfl (.inl rfl) (pe_lst pa_nil))
  (pss_cons (ps_try_as (i := 4) (tb := fun W => (tAsg (tCallS (sp_law_asked K (Cal P w K mg base)) (WE W) (tCons (tVar 0) (tCons (tVar 1) tNil))) (gName 3))) (ts := fun a cls d => (tSeq (tAsg (tOrV (tCB (rIsX K cls d a) (tCons (tVar 4) (tCons (tC (.ref (He.ga K "NoBit"))) tNil))) (tOrV (tCB (rIsX K cls d a) (tCons (tVar 4) (tCons (tC (.ref (He.ga K "TooMany"))) tNil))) (tCB (rIsX K cls d a) (tCons (tVar 4) (tCons (tC (.ref (He.ga K "NoTree"))) tNil))))) (gName 5))
  (tAsg (tTup (tCons (tC (.int 1)) (tCons (tCB (rIsX K cls d a) (tCons (tVar 4) (tCons (tC (.ref (He.ga K "WoodError"))) tNil))) (tCons (tCB (rIsX K cls d a) (tCons (tVar 4) (tCons (tC (.ty "ValueError")) tNil))) (tCons (tVar 5) tNil))))) (gName 2)))) (Wout := (fun _ _ _ _ => False)) rfl rfl sc_law_told.nd rfl rfl ⟨rfl, by decide, .inl T.g_NoOctets⟩ takes0 (fun W pn xe tk po => (pss_one (ps_set (i := 3) sc_law_told.nd rfl (.inl rfl) (pe_callFS o_law_asked hr (by decide) (by rfl) tk (pa_cons (pv 0) (pa_cons (pv 1) pa_nil)))))) (fun a oe cls d pn hz hf => (pss_cons (ps_set (i := 5) sc_law_told.nd rfl (.inl rfl) (pe_or (pe_callB (call_isX hz hf) (by rfl) T.b_isinstance (by decide +kernel) (pa_cons (pv 4) (pa_cons (pe_glob (by rfl) T.g_NoBit rfl) pa_nil))) (pe_or (pe_callB (call_isX hz hf) (by rfl) T.b_isinstance (by decide +kernel) (pa_cons (pv 4) (pa_cons (pe_glob (by rfl) T.g_TooMany rfl) pa_nil))) (pe_one (pe_callB (call_isX hz hf) (by rfl) T.b_isinstance (by decide +kernel) (pa_cons (pv 4) (pa_cons (pe_glob (by rfl) T.g_NoTree rfl) pa_nil)))))))
  (pss_one (ps_set (i := 2) sc_law_told.nd rfl (.inl rfl) (pe_tup (pa_cons pe_int (pa_cons (pe_callB (call_isX hz hf) (by rfl) T.b_isinstance (by decide +kernel) (pa_cons (pv 4) (pa_cons (pe_glob (by rfl) T.g_WoodError rfl) pa_nil))) (pa_cons (pe_callB (call_isX hz hf) (by rfl) T.b_isinstance (by decide +kernel) (pa_cons (pv 4) (pa_cons (pe_bltn (v := .ty "ValueError") (by rfl) T.b_ValueError (by decide +kernel) rfl) pa_nil))) (pa_cons (pv 5) pa_nil))))))))))
  (pss_cons (ps_if (pt_cmpR op_gt (pe_ix ix_tup (pv 2) pe_int (fun _ _ => rfl)) pe_int (nomark _))
  (pss_one (ps_ret (pv 2)))
  pss_nil)
  (pss_cons (ps_if (PW.pt (pw_and (pt_cmpR op_eq (pv 0) pe_int (nomark _)) (pw_and1 (pt_not (pt_val (pe_callB call_isB (by rfl) T.b_isinstance (by decide +kernel) (pa_cons (pv 3) (pa_cons (pe_bltn (v := .ty "list") (by rfl) T.b_list (by decide +kernel) rfl) pa_nil))))))))
  (pss_one (ps_ret (pe_tup (pa_cons pe_int (pa_cons pe_bl (pa_cons pe_bl (pa_cons pe_bl pa_nil)))))))
  pss_nil)
  (pss_cons (ps_if (PW.pt (pw_and (pt_cmpR op_eq (pv 0) pe_int (nomark _)) (pw_and1 (pt_cmpR (op_neD hr.units) (pe_lc (own := [("_law_deep", 6)]) (g := (gName 6)) (tt := (tNot (tB (tCall (sp_law_whole K) [] E0 (tCons (tVar 6) tNil))))) rfl sc_law_told.nd (pi_list (pv 3)) (blkOk_by (N := ["_law_way", "_law_octets_here", "_law_told_here", "_law_found", "e", "_law_others", "_law_deep"]) (sc := defScope s_law_told) (own := [("_law_deep", 6)]) (by decide +kernel)) (fun _ _ _ _ _ => (pg_name (i := 6) sc_law_told.nd rfl (.inl rfl))) (fun _ _ _ _ _ => (pts_one (pt_not (pt_val (pe_callF o_law_whole hr (by decide) (by rfl) pass0 (pa_cons (pv 6) pa_nil)))))) (fun _ _ _ _ _ => (pv 6))) (pe_lst pa_nil) (nomark _)))))
  (pss_one (ps_ret (pe_tup (pa_cons pe_int (pa_cons pe_bl (pa_cons pe_bl (pa_cons pe_bl pa_nil)))))))
  pss_nil)
  (pss_one (ps_ret (pv 3)))))))))

theorem ok_law_changed (T : Tx P w K mg base) : Okf P w K mg base CX0 1 "_law_changed" ["_law_octets_here", "_law_cell"] (sp_law_changed K) := by
  obtain ⟨fd, FD⟩ := T.d_law_changed
  refine ⟨⟨fd, FunD.look FD, FD.bindsN fun _ _ _ _ _ _ us hl => match us, hl with | [_, _], _ => rfl, ?_⟩, FD.kp, T.g_law_changed⟩
  refine FunD.ok (CX := CX0) FD sc_law_changed (len_law_changed K) (fun cdv A outer s H vs Q E hr h => ⟨t_law_changed K, PSs.nox ?_, rd_law_changed K vs H Q E h⟩)
  exact (pss_cons (ps_set (i := 2) sc_law_changed.nd rfl (.inl rfl) (pe_op op_mod (pv 1) (pe_cst (pe_op op_pow pe_int pe_int) fun _ _ _ h => ⟨_, _, rfl, rfl, ⟨by decide, by decide, by decide⟩, h⟩)))
  (pss_cons (ps_set (i := 3) sc_law_changed.nd rfl (.inl rfl) (pe_op op_mod (pe_op op_fdiv (pv 2) pe_int) (pe_op op_add (pe_callB call_lenK (by rfl) T.b_len (by decide +kernel) (pa_cons (pv 0) pa_nil)) pe_int)))
  (pss_cons (ps_set (i := 4) sc_law_changed.nd rfl (.inl rfl) (pe_op op_mod (pe_op op_mod (pe_op op_mul (pv 2) pe_int) pe_int) pe_int))
  (pss_cons (ps_if (PW.pt (pw_and (pt_cmpR op_eq (pe_op op_mod (pv 2) pe_int) pe_int (nomark _)) (pw_and1 (pt_cmpR op_lt (pv 3) (pe_callB call_lenK (by rfl) T.b_len (by decide +kernel) (pa_cons (pv 0) pa_nil)) (nomark _)))))
  (pss_cons (ps_set (i := 5) sc_law_changed.nd rfl (.inl rfl) (pe_op op_shlW pe_int (pe_op op_mod (pv 4) pe_int)))
  (pss_one (ps_ret (pe_op op_cat (pe_op op_cat (pe_slice sl_list (pv 0) po_none (po_some (pv 3))) (pe_lst (pa_cons (pe_op op_xor (pe_ix ix_list (pv 0) (pv 3) (fun _ _ => rfl)) (pv 5)) pa_nil))) (pe_slice sl_list (pv 0) (po_some (pe_op op_add (pv 3) pe_int)) po_none)))))
  pss_nil)
  (pss_cons (ps_if (PW.pt (pw_and (pt_cmpR op_eq (pe_op op_mod (pv 2) pe_int) pe_int (nomark _)) (pw_and1 (pt_cmpR op_lt (pv 3) (pe_callB call_lenK (by rfl) T.b_len (by decide +kernel) (pa_cons (pv 0) pa_nil)) (nomark _)))))
  (pss_one (ps_ret (pe_op op_cat (pe_op op_cat (pe_slice sl_list (pv 0) po_none (po_some (pv 3))) (pe_lst (pa_cons (pe_ix ix_list (pe_lst (pa_cons (pv 4) (pa_cons (pe_op op_add pe_int (pv 2)) (pa_cons (pe_op op_sub (pe_cst (pe_op op_sub pe_int pe_int) fun _ _ _ h => ⟨_, _, rfl, rfl, h⟩) (pv 2)) pa_nil)))) (pe_op op_mod (pv 4) pe_int) (fun _ _ => rfl)) pa_nil))) (pe_slice sl_list (pv 0) (po_some (pe_op op_add (pv 3) pe_int)) po_none))))
  pss_nil)
  (pss_cons (ps_if (pt_cmpR op_eq (pe_op op_mod (pv 2) pe_int) pe_int (nomark _))
  (pss_one (ps_ret (pe_op op_cat (pe_op op_cat (pe_slice sl_list (pv 0) po_none (po_some (pv 3))) (pe_lst (pa_cons (pv 4) pa_nil))) (pe_slice sl_list (pv 0) (po_some (pv 3)) po_none))))
  pss_nil)
  (pss_cons (ps_if (pt_cmpR op_eq (pe_op op_mod (pv 2) pe_int) pe_int (nomark _))
  (pss_one (ps_ret (pe_op op_cat (pe_slice sl_list (pv 0) po_none (po_some (pv 3))) (pe_slice sl_list (pv 0) (po_some (pe_op op_add (pv 3) pe_int)) po_none))))
  pss_nil)
  (pss_cons (ps_if (PW.pt (pw_and (pt_cmpR op_eq (pe_op op_mod (pv 2) pe_int) pe_int (nomark _)) (pw_and1 (pt_cmpR op_lt (pv 3) (pe_callB call_lenK (by rfl) T.b_len (by decide +kernel) (pa_cons (pv 0) pa_nil)) (nomark _)))))
  (pss_one (ps_ret (pe_op op_cat (pe_op op_cat (pe_slice sl_list (pv 0) po_none (po_some (pv 3))) (pe_revL (pe_slice sl_list (pv 0) (po_some (pv 3)) (po_some (pe_op op_add (pv 3) pe_int))))) (pe_slice sl_list (pv 0) (po_some (pe_op op_add (pv 3) pe_int)) po_none))))
  pss_nil)
  (pss_cons (ps_if (pt_cmpR op_eq (pe_op op_mod (pv 2) pe_int) pe_int (nomark _))
  (pss_one (ps_ret (pe_op op_catK (pv 0) (pe_lst (pa_cons pe_int pa_nil)))))
  pss_nil)
  (pss_one (ps_ret (pv 0))))))))))))

theorem ok_law_octets (T : Tx P w K mg base) (o_law_bits : Okf P w K mg base CX0 1 "_law_bits" ["_law_script"] (sp_law_bits K)) (o_law_cell_at : Okf P w K mg base CX0 1 "_law_cell_at" ["_law_script", "_law_k"] (sp_law_cell_at K)) (o_law_written : Okf P w K mg base CX0 2 "_law_written" ["_law_bits_here"] (sp_law_written K)) (o_law_changed : Okf P w K mg base CX0 1 "_law_changed" ["_law_octets_here", "_law_cell"] (sp_law_changed K)) : Okf P w K mg base CX0 3 "_law_octets" ["_law_script"] (sp_law_octets K) := by
  obtain ⟨fd, FD⟩ := T.d_law_octets
  refine ⟨⟨fd, FunD.look FD, FD.bindsN fun _ _ _ _ _ _ us hl => match us, hl with | [_], _ => rfl, ?_⟩, FD.kp, T.g_law_octets⟩
  refine FunD.ok (CX := CX0) FD sc_law_octets (len_law_octets K) (fun cdv A outer s H vs Q E hr h => ⟨t_law_octets K, PSs.nox ?_, rd_law_octets K vs H Q E h⟩)
  exact (pss_cons (ps_set (i := 1) sc_law_octets.nd rfl (.inl rfl) (pe_callF o_law_bits hr (by decide) (by rfl) pass0 (pa_cons (pv 0) pa_nil)))
  (pss_cons (ps_set (i := 2) sc_law_octets.nd rfl (.inl rfl) (pe_op op_mod (pe_callF o_law_cell_at hr (by decide) (by rfl) pass0 (pa_cons (pv 0) (pa_cons pe_int pa_nil))) (pe_callB call_lenK (by rfl) T.b_len (by decide +kernel) (pa_cons (pv 1) pa_nil))))
  (Evl.pss_cut (ps_if (pt_cmpR op_eq (pe_op op_mod (pe_callF o_law_cell_at hr (by decide) (by rfl) pass0 (pa_cons (pv 0) (pa_cons pe_int pa_nil))) pe_int) pe_int (nomark _))
  (pss_cons (ps_set (i := 3) sc_law_octets.nd rfl (.inl rfl) (pe_slice sl_list (pv 1) (po_some (pv 2)) (po_some (pe_op op_add (pv 2) pe_int))))
  (pss_one (ps_set (i := 1) sc_law_octets.nd rfl (.inl rfl) (pe_op op_cat (pe_op op_cat (pe_slice sl_list (pv 1) po_none (po_some (pv 2))) (pe_revL (pv 3))) (pe_slice sl_list (pv 1) (po_some (pe_op op_add (pv 2) pe_int)) po_none)))))
  pss_nil)
  (Evl.pss_cut (ps_if (pt_cmpR op_eq (pe_op op_mod (pe_callF o_law_cell_at hr (by decide) (by rfl) pass0 (pa_cons (pv 0) (pa_cons pe_int pa_nil))) pe_int) pe_int (nomark _))
  (pss_one (ps_set (i := 1) sc_law_octets.nd rfl (.inl rfl) (pe_op op_cat (pe_op op_cat (pe_slice sl_list (pv 1) po_none (po_some (pv 2))) (pe_lst (pa_cons (pe_op op_sub pe_int (pe_ix ix_list (pv 1) (pv 2) (fun _ _ => rfl))) pa_nil))) (pe_slice sl_list (pv 1) (po_some (pe_op op_add (pv 2) pe_int)) po_none))))
  pss_nil)
  (pss_cons (ps_set (i := 4) sc_law_octets.nd rfl (.inl rfl) (pe_callF o_law_written hr (by decide) (by rfl) pass0 (pa_cons (pv 1) pa_nil)))
  (Evl.pss_cut (ps_if (pt_cmpR op_eq (pe_op op_mod (pe_callF o_law_cell_at hr (by decide) (by rfl) pass0 (pa_cons (pv 0) (pa_cons pe_int pa_nil))) pe_int) pe_int (nomark _))
  (pss_one (ps_for PassesOwn.never rfl (pi_range1 (by rfl) T.b_range (pa_cons (pe_op op_add pe_int (pe_op op_mod (pe_callF o_law_cell_at hr (by decide) (by rfl) pass0 (pa_cons (pv 0) (pa_cons pe_int pa_nil))) pe_int)) pa_nil)) (pg_name (i := 5) sc_law_octets.nd rfl (.inl rfl))
  (pss_one (ps_set (i := 4) sc_law_octets.nd rfl (.inl rfl) (pe_callF o_law_changed hr (by decide) (by rfl) pass0 (pa_cons (pv 4) (pa_cons (pe_callF o_law_cell_at hr (by decide) (by rfl) pass0 (pa_cons (pv 0) (pa_cons (pe_op op_add pe_int (pv 5)) pa_nil))) pa_nil)))))))
  pss_nil)
  (Evl.pss_cut (ps_if (pt_cmpR op_eq (pe_op op_mod (pe_callF o_law_cell_at hr (by decide) (by rfl) pass0 (pa_cons (pv 0) (pa_cons pe_int pa_nil))) pe_int) pe_int (nomark _))
  (pss_one (ps_set (i := 4) sc_law_octets.nd rfl (.inl rfl) (pe_op op_cat (pe_lst (pa_cons pe_int pa_nil)) (pe_lc (own := [("_law_cell", 6)]) (g := (gName 6)) (tt := tYes) rfl sc_law_octets.nd (pi_list (pe_slice sl_list (pv 0) po_none (po_some pe_int))) (blkOk_by (N := ["_law_script", "_law_bits_here", "_law_at", "_law_two_here", "_law_octets_here", "_law_k", "_law_cell", "_law_way"]) (sc := defScope s_law_octets) (own := [("_law_cell", 6)]) (by decide +kernel)) (fun _ _ _ _ _ => (pg_name (i := 6) sc_law_octets.nd rfl (.inl rfl))) (fun _ _ _ _ _ => pts_nil) (fun _ _ _ _ _ => (pe_op op_mod (pv 6) pe_int))))))
  pss_nil)
  (Evl.pss_cut (ps_if (pt_cmpR op_eq (pe_op op_mod (pe_callF o_law_cell_at hr (by decide) (by rfl) pass0 (pa_cons (pv 0) (pa_cons pe_int pa_nil))) pe_int) pe_int (nomark _))
  (pss_cons (ps_set (i := 7) sc_law_octets.nd rfl (.inl rfl) (pe_op op_mod (pe_op op_fdiv (pe_callF o_law_cell_at hr (by decide) (by rfl) pass0 (pa_cons (pv 0) (pa_cons pe_int pa_nil))) pe_int) pe_int))
  (pss_cons (ps_set (i := 1) sc_law_octets.nd rfl (.inl rfl) (pe_op op_cat (pe_op op_cat (pe_lst (pa_cons pe_int pa_nil)) (pe_op op_rep (pe_lst (pa_cons pe_int (pa_cons pe_int pa_nil))) (pe_op op_add pe_int (pv 7)))) (pe_lst (pa_cons pe_int pa_nil))))
  (Evl.pss_cut (ps_if (pt_cmpR op_eq (pv 7) pe_int (nomark _))
  (pss_one (ps_set (i := 1) sc_law_octets.nd rfl (.inl rfl) (pe_op op_cat (pe_op op_rep (pe_lst (pa_cons pe_int pa_nil)) pe_int) (pe_op op_rep (pe_lst (pa_cons pe_int pa_nil)) pe_int))))
  pss_nil)
  (pss_one (ps_set (i := 4) sc_law_octets.nd rfl (.inl rfl) (pe_callF o_law_written hr (by decide) (by rfl) pass0 (pa_cons (pv 1) pa_nil)))))))
  pss_nil)
  (pss_one (ps_ret (pv 4)))))))))))

theorem ok_law_opened (T : Tx P w K mg base) (o_law_told : Okf P w K mg base CX0 17 "_law_told" ["_law_way", "_law_octets_here"] (sp_law_told K (Cal P w K mg base))) (o_law_whole : Okf P w K mg base CX0 1 "_law_whole" ["_law_found"] (sp_law_whole K)) : Okf P w K mg base CX0 18 "_law_opened" ["_law_octets_here", "_law_depths"] (sp_law_opened K (Cal P w K mg base)) := by
  obtain ⟨fd, FD⟩ := T.d_law_opened
  refine ⟨⟨fd, FunD.look FD, FD.bindsN fun _ _ _ _ _ _ us hl => match us, hl with | [_, _], _ => rfl, ?_⟩, FD.kp, T.g_law_opened⟩
  refine FunD.ok (CX := CX0) FD sc_law_opened (len_law_opened K (Cal P w K mg base)) (fun cdv A outer s H vs Q E hr h => ⟨t_law_opened K (Cal P w K mg base), PSs.nox ?_, rd_law_opened K (Cal P w K mg base) T.fx vs H Q E h⟩)
  exact (pss_cons (ps_set (i := 2) sc_law_opened.nd rfl (.inl rfl) (pe_callTy call_listK (by rfl) T.b_list (by decide +kernel) (pa_cons (pv 0) pa_nil)))
  (pss_cons (ps_set (i := 3) sc_law_opened.nd rfl (.inl rfl) (pe_callF o_law_told hr (by decide) (by rfl) pass0 (pa_cons pe_int (pa_cons (pv 2) pa_nil))))
  (pss_cons (ps_if (pt_cmpR (op_neD hr.units) (pv 2) (pv 0) (nomark _))
  (pss_one (ps_ret pe_bl))
  pss_nil)
  (pss_cons (ps_asg (pe_op op_sub pe_int (pe_ix ix_list (pv 2) pe_int (fun _ _ => rfl))) (pg_sub (pv 2) pe_int set_list))
  (pss_cons (ps_if (PW.pt (pw_or (pt_not (pt_val (pe_callB call_isB (by rfl) T.b_isinstance (by decide +kernel) (pa_cons (pv 3) (pa_cons (pe_bltn (v := .ty "tuple") (by rfl) T.b_tuple (by decide +kernel) rfl) pa_nil))))) (pw_or1 (pt_cmpR op_ne (pe_callB call_lenK (by rfl) T.b_len (by decide +kernel) (pa_cons (pv 3) pa_nil)) pe_int (nomark _)))))
  (pss_one (ps_ret pe_bl))
  pss_nil)
  (pss_cons (ps_asg (pv 3) (pg_tup rfl (pgs_cons (pg_name (i := 4) sc_law_opened.nd rfl (.inl rfl)) (pgs_cons (pg_name (i := 5) sc_law_opened.nd rfl (.inr rfl)) pgs_nil))))
  (pss_cons (ps_if (PW.pt (pw_or (pt_not (pt_val (pe_callB call_isB (by rfl) T.b_isinstance (by decide +kernel) (pa_cons (pv 4) (pa_cons (pe_bltn (v := .ty "tuple") (by rfl) T.b_tuple (by decide +kernel) rfl) pa_nil))))) (pw_or1 (pt_cmpR op_ne (pe_callB call_lenK (by rfl) T.b_len (by decide +kernel) (pa_cons (pv 4) pa_nil)) pe_int (nomark _)))))
  (pss_one (ps_ret pe_bl))
  pss_nil)
  (pss_cons (ps_set (i := 6) sc_law_opened.nd rfl (.inl rfl) (pe_op op_fdiv (pe_op op_add (pe_op op_mul pe_int (pe_callB call_lenK (by rfl) T.b_len (by decide +kernel) (pa_cons (pv 1) pa_nil))) pe_int) pe_int))
  (pss_cons (ps_set (i := 7) sc_law_opened.nd rfl (.inl rfl) (pe_op op_fdiv (pe_callB call_lenK (by rfl) T.b_len (by decide +kernel) (pa_cons (pe_ix ix_tup (pv 4) pe_int (fun _ _ => rfl)) pa_nil)) pe_int))
  (pss_cons (ps_set (i := 8) sc_law_opened.nd rfl (.inl rfl) (pe_op op_cat (pe_lst (pa_cons (pe_ix ix_tup (pv 4) pe_int (fun _ _ => rfl)) pa_nil)) (pe_lc (own := [("_law_k", 9)]) (g := (gName 9)) (tt := tYes) rfl sc_law_opened.nd (pi_range1 (by rfl) T.b_range (pa_cons (pv 6) pa_nil)) (blkOk_by (N := ["_law_octets_here", "_law_depths", "_law_handed", "_law_found", "_law_tables", "_law_look", "_law_many", "_law_size", "_law_told_here", "_law_k", "_law_due_here", "_law_at", "_law_high", "_law_number"]) (sc := defScope s_law_opened) (own := [("_law_k", 9)]) (by decide +kernel)) (fun _ _ _ _ _ => (pg_name (i := 9) sc_law_opened.nd rfl (.inl rfl))) (fun _ _ _ _ _ => pts_nil) (fun _ _ _ _ _ => (pe_callV (k := 9) (i := 5) hr (by decide) rfl (.inr (.inl rfl)) (pa_cons (pv 9) pa_nil))))))
  (pss_cons (ps_set (i := 8) sc_law_opened.nd rfl (.inl rfl) (pe_op op_cat (pe_op op_cat (pv 8) (pe_callTy call_listK (by rfl) T.b_list (by decide +kernel) (pa_cons (pe_ix ix_tup (pv 4) pe_int (fun _ _ => rfl)) pa_nil))) (pe_callTy call_listK (by rfl) T.b_list (by decide +kernel) (pa_cons (pe_slice sl_tup (pe_ix ix_tup (pv 4) pe_int (fun _ _ => rfl)) (po_some (pv 7)) (po_some (pe_op op_add (pv 7) (pv 6)))) pa_nil))))
  (pss_cons (ps_set (i := 10) sc_law_opened.nd rfl (.inl rfl) (pe_lst (pa_cons (pe_op op_mul pe_int (pe_callB call_lenK (by rfl) T.b_len (by decide +kernel) (pa_cons (pv 1) pa_nil))) pa_nil)))
  (pss_cons (ps_for PassesOwn.never rfl (pi_range3 (by rfl) T.b_range (pa_cons pe_int (pa_cons (pe_op op_add pe_int (pe_op op_mul pe_int (pv 6))) (pa_cons pe_int pa_nil)))) (pg_name (i := 11) sc_law_opened.nd rfl (.inl rfl))
  (pss_cons (ps_set (i := 12) sc_law_opened.nd rfl (.inl rfl) (pe_op op_add (pe_ix ix_list (pv 0) (pe_op op_add (pv 11) pe_int) (fun _ _ => rfl)) (pe_op op_mul pe_int (pe_ix ix_list (pv 0) (pe_op op_add (pv 11) pe_int) (fun _ _ => rfl)))))
  (pss_one (ps_expr (pe_bm PySem.F.plainAttrs_list PySem.F.slot_list_append PySem.F.type_list_append mt_append (pv 10) (pa_cons (pe_op op_add (pe_op op_add (pe_ix ix_list (pv 0) (pv 11) (fun _ _ => rfl)) (pe_op op_mul pe_int (pe_ix ix_list (pv 0) (pe_op op_add (pv 11) pe_int) (fun _ _ => rfl)))) (pe_op op_mul pe_int (pv 12))) pa_nil))))))
  (pss_cons (ps_set (i := 10) sc_law_opened.nd rfl (.inl rfl) (pe_op op_cat (pv 10) (pe_lc (own := [("_law_at", 11)]) (g := (gName 11)) (tt := tYes) rfl sc_law_opened.nd (pi_range3 (by rfl) T.b_range (pa_cons (pe_op op_add pe_int (pe_op op_mul pe_int (pv 6))) (pa_cons (pe_callB call_lenK (by rfl) T.b_len (by decide +kernel) (pa_cons (pv 0) pa_nil)) (pa_cons pe_int pa_nil)))) (blkOk_by (N := ["_law_octets_here", "_law_depths", "_law_handed", "_law_found", "_law_tables", "_law_look", "_law_many", "_law_size", "_law_told_here", "_law_k", "_law_due_here", "_law_at", "_law_high", "_law_number"]) (sc := defScope s_law_opened) (own := [("_law_at", 11)]) (by decide +kernel)) (fun _ _ _ _ _ => (pg_name (i := 11) sc_law_opened.nd rfl (.inl rfl))) (fun _ _ _ _ _ => pts_nil) (fun _ _ _ _ _ => (pe_op op_add (pe_ix ix_list (pv 0) (pv 11) (fun _ _ => rfl)) (pe_op op_mul pe_int (pe_ix ix_list (pv 0) (pe_op op_add (pv 11) pe_int) (fun _ _ => rfl))))))))
  (pss_one (ps_ret (pe_and (pe_cmpR (op_eqD hr.units) (pe_lc (own := [("_law_number", 13)]) (g := (gName 13)) (tt := (tNot (tB (tCall (sp_law_whole K) [] E0 (tCons (tVar 13) tNil))))) rfl sc_law_opened.nd (pi_list (pv 8)) (blkOk_by (N := ["_law_octets_here", "_law_depths", "_law_handed", "_law_found", "_law_tables", "_law_look", "_law_many", "_law_size", "_law_told_here", "_law_k", "_law_due_here", "_law_at", "_law_high", "_law_number"]) (sc := defScope s_law_opened) (own := [("_law_number", 13)]) (by decide +kernel)) (fun _ _ _ _ _ => (pg_name (i := 13) sc_law_opened.nd rfl (.inl rfl))) (fun _ _ _ _ _ => (pts_one (pt_not (pt_val (pe_callF o_law_whole hr (by decide) (by rfl) pass0 (pa_cons (pv 13) pa_nil)))))) (fun _ _ _ _ _ => (pv 13))) (pe_lst pa_nil) (nomark _)) (pe_one (pe_cmpR (op_eqD hr.units) (pv 8) (pv 10) (nomark _))))))))))))))))))))

theorem ok_law (T : Tx P w K mg base) (o_law_octets : Okf P w K mg base CX0 3 "_law_octets" ["_law_script"] (sp_law_octets K)) (o_law_due : Okf P w K mg base CX0 3 "_law_due" ["_law_octets_here"] (sp_law_due K)) (o_law_told : Okf P w K mg base CX0 17 "_law_told" ["_law_way", "_law_octets_here"] (sp_law_told K (Cal P w K mg base))) (o_tree_octets : Okf P w K mg base (L2.CX P w) 10 "tree_octets" ["depths"] (sp_tree_octets K)) (o_law_opened : Okf P w K mg base CX0 18 "_law_opened" ["_law_octets_here", "_law_depths"] (sp_law_opened K (Cal P w K mg base))) : Okf P w K mg base CX0 19 "law" ["_law_script"] (sp_law K) := by
  obtain ⟨fd, FD⟩ := T.d_law
  refine ⟨⟨fd, FunD.look FD, FD.bindsN fun _ _ _ _ _ _ us hl => match us, hl with | [_], _ => rfl, ?_⟩, FD.kp, T.g_law⟩
  refine FunD.ok (CX := CX0) FD sc_law (len_law K) (fun cdv A outer s H vs Q E hr h => ⟨t_law K (Cal P w K mg base), PSs.nox ?_, rd_law K (Cal P w K mg base) T.fx vs H Q E h⟩)
  exact (pss_cons (ps_set (i := 1) sc_law.nd rfl (.inl rfl) (pe_callF o_law_octets hr (by decide) (by rfl) pass0 (pa_cons (pv 0) pa_nil)))
  (pss_cons (ps_set (i := 2) sc_law.nd rfl (.inl rfl) (pe_callTy call_listK (by rfl) T.b_list (by decide +kernel) (pa_cons (pv 1) pa_nil)))
  (pss_cons (ps_set (i := 3) sc_law.nd rfl (.inl rfl) (pe_callF o_law_due hr (by decide) (by rfl) pass0 (pa_cons (pv 1) pa_nil)))
  (pss_cons (ps_set (i := 4) sc_law.nd rfl (.inl rfl) (pe_callF o_law_told hr (by decide) (by rfl) pass0 (pa_cons pe_int (pa_cons (pv 2) pa_nil))))
  (pss_cons (ps_if (PW.pt (pw_or (pt_cmpR (op_neD hr.units) (pv 4) (pv 3) (nomark _)) (pw_or1 (pt_cmpR (op_neD hr.units) (pv 2) (pv 1) (nomark _)))))
  (pss_one (ps_ret pe_bl))
  pss_nil)
  (pss_cons (ps_if (pt_not (pt_val (pe_callB call_isB (by rfl) T.b_isinstance (by decide +kernel) (pa_cons (pv 4) (pa_cons (pe_bltn (v := .ty "list") (by rfl) T.b_list (by decide +kernel) rfl) pa_nil)))))
  (pss_one (ps_ret (pe_and (pe_cmpR (op_eqD hr.units) (pe_callF o_law_told hr (by decide) (by rfl) pass0 (pa_cons pe_int (pa_cons (pv 2) pa_nil))) (pv 3) (nomark _)) (pe_one (pe_cmpR (op_eqD hr.units) (pv 2) (pv 1) (nomark _))))))
  pss_nil)
  (pss_cons (ps_if (PW.pt (pw_or (pt_cmpR (op_neD hr.units) (pe_callF o_tree_octets hr (by decide) (by rfl) passL (pa_cons (pe_callTy call_listK (by rfl) T.b_list (by decide +kernel) (pa_cons (pv 4) pa_nil)) pa_nil)) (pv 1) (nomark _)) (pw_or1 (pt_not (pt_val (pe_callF o_law_opened hr (by decide) (by rfl) pass0 (pa_cons (pv 1) (pa_cons (pv 3) pa_nil))))))))
  (pss_one (ps_ret pe_bl))
  pss_nil)
  (pss_cons (ps_expr (pe_bm PySem.F.plainAttrs_list PySem.F.slot_list_append PySem.F.type_list_append mt_append (pv 4) (pa_cons pe_int pa_nil)))
  (pss_one (ps_ret (pe_cmpR (op_eqD hr.units) (pe_callF o_law_told hr (by decide) (by rfl) pass0 (pa_cons pe_int (pa_cons (pv 2) pa_nil))) (pv 3) (nomark _))))))))))))
end
def dd_packed : He.DefD := ⟨("packed", none), "packed", "packed", defArgs s_packed, defBody s_packed, defScope s_packed, [], []⟩
def dd_unpacked : He.DefD := ⟨("unpacked", none), "unpacked", "unpacked", defArgs s_unpacked, defBody s_unpacked, defScope s_unpacked, [], []⟩
def dd_look_of : He.DefD := ⟨("look_of", none), "look_of", "look_of", defArgs s_look_of, defBody s_look_of, defScope s_look_of, [], []⟩
def dd_ones_in : He.DefD := ⟨("ones_in", none), "ones_in", "ones_in", defArgs s_ones_in, defBody s_ones_in, defScope s_ones_in, [], []⟩
def dd_low_in : He.DefD := ⟨("low_in", none), "low_in", "low_in", defArgs s_low_in, defBody s_low_in, defScope s_low_in, [], []⟩
def dd_size_of : He.DefD := ⟨("size_of", none), "size_of", "size_of", defArgs s_size_of, defBody s_size_of, defScope s_size_of, [], []⟩
def dd_lesser_of : He.DefD := ⟨("lesser_of", none), "lesser_of", "lesser_of", defArgs s_lesser_of, defBody s_lesser_of, defScope s_lesser_of, [], []⟩
def dd_heap_of : He.DefD := ⟨("heap_of", none), "heap_of", "heap_of", defArgs s_heap_of, defBody s_heap_of, defScope s_heap_of, [], []⟩
def dd_ones_table : He.DefD := ⟨("ones_table", none), "ones_table", "ones_table", defArgs s_ones_table, defBody s_ones_table, defScope s_ones_table, [], []⟩
def dd_kept_row : He.DefD := ⟨("kept_row", none), "kept_row", "kept_row", defArgs s_kept_row, defBody s_kept_row, defScope s_kept_row, [], []⟩
def dd_is_tree : He.DefD := ⟨("is_tree", none), "is_tree", "is_tree", defArgs s_is_tree, defBody s_is_tree, defScope s_is_tree, [], []⟩
def dd_begin_height : He.DefD := ⟨("begin_height", none), "begin_height", "begin_height", defArgs s_begin_height, defBody s_begin_height, defScope s_begin_height, [], []⟩
def dd_kept_brackets : He.DefD := ⟨("kept_brackets", none), "kept_brackets", "kept_brackets", defArgs s_kept_brackets, defBody s_kept_brackets, defScope s_kept_brackets, [], []⟩
def dd_octets_of : He.DefD := ⟨("octets_of", none), "octets_of", "octets_of", defArgs s_octets_of, defBody s_octets_of, defScope s_octets_of, [], []⟩
def dd_number_of : He.DefD := ⟨("number_of", none), "number_of", "number_of", defArgs s_number_of, defBody s_number_of, defScope s_number_of, [], []⟩
def dd_fields_of : He.DefD := ⟨("fields_of", none), "fields_of", "fields_of", defArgs s_fields_of, defBody s_fields_of, defScope s_fields_of, [], []⟩
def dd_numbers_of : He.DefD := ⟨("numbers_of", none), "numbers_of", "numbers_of", defArgs s_numbers_of, defBody s_numbers_of, defScope s_numbers_of, [], []⟩
def dd_brackets_of : He.DefD := ⟨("brackets_of", none), "brackets_of", "brackets_of", defArgs s_brackets_of, defBody s_brackets_of, defScope s_brackets_of, [], []⟩
def dd_depths_of : He.DefD := ⟨("depths_of", none), "depths_of", "depths_of", defArgs s_depths_of, defBody s_depths_of, defScope s_depths_of, [], []⟩
def dd_kept_tree : He.DefD := ⟨("kept_tree", none), "kept_tree", "kept_tree", defArgs s_kept_tree, defBody s_kept_tree, defScope s_kept_tree, [], []⟩
def dd_blocks_for : He.DefD := ⟨("blocks_for", none), "blocks_for", "blocks_for", defArgs s_blocks_for, defBody s_blocks_for, defScope s_blocks_for, [], []⟩
def dd_row_laid : He.DefD := ⟨("row_laid", none), "row_laid", "row_laid", defArgs s_row_laid, defBody s_row_laid, defScope s_row_laid, [], []⟩
def dd_tree_laid : He.DefD := ⟨("tree_laid", none), "tree_laid", "tree_laid", defArgs s_tree_laid, defBody s_tree_laid, defScope s_tree_laid, [], []⟩
def dd_tree_octets : He.DefD := ⟨("tree_octets", none), "tree_octets", "tree_octets", defArgs s_tree_octets, defBody s_tree_octets, defScope s_tree_octets, [], []⟩
def dd_head_of : He.DefD := ⟨("head_of", none), "head_of", "head_of", defArgs s_head_of, defBody s_head_of, defScope s_head_of, [], []⟩
def dd_row_long : He.DefD := ⟨("row_long", none), "row_long", "row_long", defArgs s_row_long, defBody s_row_long, defScope s_row_long, [], []⟩
def dd_same_again : He.DefD := ⟨("same_again", none), "same_again", "same_again", defArgs s_same_again, defBody s_same_again, defScope s_same_again, [], []⟩
def dd_read_tree : He.DefD := ⟨("read_tree", none), "read_tree", "read_tree", defArgs s_read_tree, defBody s_read_tree, defScope s_read_tree, [], []⟩
def dd_opened_tree : He.DefD := ⟨("opened_tree", none), "opened_tree", "opened_tree", defArgs s_opened_tree, defBody s_opened_tree, defScope s_opened_tree, [], []⟩
def dd_law_cell_at : He.DefD := ⟨("_law_cell_at", none), "_law_cell_at", "_law_cell_at", defArgs s_law_cell_at, defBody s_law_cell_at, defScope s_law_cell_at, [], []⟩
def dd_law_whole : He.DefD := ⟨("_law_whole", none), "_law_whole", "_law_whole", defArgs s_law_whole, defBody s_law_whole, defScope s_law_whole, [], []⟩
def dd_law_bits : He.DefD := ⟨("_law_bits", none), "_law_bits", "_law_bits", defArgs s_law_bits, defBody s_law_bits, defScope s_law_bits, [], []⟩
def dd_law_two : He.DefD := ⟨("_law_two", none), "_law_two", "_law_two", defArgs s_law_two, defBody s_law_two, defScope s_law_two, [], []⟩
def dd_law_written : He.DefD := ⟨("_law_written", none), "_law_written", "_law_written", defArgs s_law_written, defBody s_law_written, defScope s_law_written, [], []⟩
def dd_law_due : He.DefD := ⟨("_law_due", none), "_law_due", "_law_due", defArgs s_law_due, defBody s_law_due, defScope s_law_due, [], []⟩
def dd_law_asked : He.DefD := ⟨("_law_asked", none), "_law_asked", "_law_asked", defArgs s_law_asked, defBody s_law_asked, defScope s_law_asked, [], []⟩
def dd_law_told : He.DefD := ⟨("_law_told", none), "_law_told", "_law_told", defArgs s_law_told, defBody s_law_told, defScope s_law_told, [], []⟩
def dd_law_changed : He.DefD := ⟨("_law_changed", none), "_law_changed", "_law_changed", defArgs s_law_changed, defBody s_law_changed, defScope s_law_changed, [], []⟩
def dd_law_octets : He.DefD := ⟨("_law_octets", none), "_law_octets", "_law_octets", defArgs s_law_octets, defBody s_law_octets, defScope s_law_octets, [], []⟩
def dd_law_opened : He.DefD := ⟨("_law_opened", none), "_law_opened", "_law_opened", defArgs s_law_opened, defBody s_law_opened, defScope s_law_opened, [], []⟩
def dd_law : He.DefD := ⟨("law", none), "law", "law", defArgs s_law, defBody s_law, defScope s_law, [], []⟩
def fnL : List He.DefD := [dd_packed, dd_unpacked, dd_look_of, dd_ones_in, dd_low_in, dd_size_of, dd_lesser_of, dd_heap_of, dd_ones_table, dd_kept_row, dd_is_tree, dd_begin_height, dd_kept_brackets, dd_octets_of, dd_number_of, dd_fields_of, dd_numbers_of, dd_brackets_of, dd_depths_of, dd_kept_tree, dd_blocks_for, dd_row_laid, dd_tree_laid, dd_tree_octets, dd_head_of, dd_row_long, dd_same_again, dd_read_tree, dd_opened_tree, dd_law_cell_at, dd_law_whole, dd_law_bits, dd_law_two, dd_law_written, dd_law_due, dd_law_asked, dd_law_told, dd_law_changed, dd_law_octets, dd_law_opened, dd_law]
def fxL : List Fx := [.excC "NoBit", .kitT "NoBit" "ValueError" true, .kit "NoBit" "NoBit" true, .exm "NoBit" "NoBit" true, .kit "NoBit" "NoOctets" false, .exm "NoBit" "NoOctets" false, .kit "NoBit" "NoPlace" false, .exm "NoBit" "NoPlace" false, .kit "NoBit" "NoTree" false, .exm "NoBit" "NoTree" false, .kit "NoBit" "TooMany" false, .exm "NoBit" "TooMany" false, .kit "NoBit" "WoodError" true, .exm "NoBit" "WoodError" true, .excC "NoOctets", .kitT "NoOctets" "ValueError" true, .kit "NoOctets" "NoBit" false, .exm "NoOctets" "NoBit" false, .kit "NoOctets" "NoOctets" true, .exm "NoOctets" "NoOctets" true, .kit "NoOctets" "NoPlace" false, .exm "NoOctets" "NoPlace" false, .kit "NoOctets" "NoTree" false, .exm "NoOctets" "NoTree" false, .kit "NoOctets" "TooMany" false, .exm "NoOctets" "TooMany" false, .kit "NoOctets" "WoodError" true, .exm "NoOctets" "WoodError" true, .excC "NoPlace", .kitT "NoPlace" "ValueError" true, .kit "NoPlace" "NoBit" false, .exm "NoPlace" "NoBit" false, .kit "NoPlace" "NoOctets" false, .exm "NoPlace" "NoOctets" false, .kit "NoPlace" "NoPlace" true, .exm "NoPlace" "NoPlace" true, .kit "NoPlace" "NoTree" false, .exm "NoPlace" "NoTree" false, .kit "NoPlace" "TooMany" false, .exm "NoPlace" "TooMany" false, .kit "NoPlace" "WoodError" true, .exm "NoPlace" "WoodError" true, .excC "NoTree", .kitT "NoTree" "ValueError" true, .kit "NoTree" "NoBit" false, .exm "NoTree" "NoBit" false, .kit "NoTree" "NoOctets" false, .exm "NoTree" "NoOctets" false, .kit "NoTree" "NoPlace" false, .exm "NoTree" "NoPlace" false, .kit "NoTree" "NoTree" true, .exm "NoTree" "NoTree" true, .kit "NoTree" "TooMany" false, .exm "NoTree" "TooMany" false, .kit "NoTree" "WoodError" true, .exm "NoTree" "WoodError" true, .excC "TooMany", .kitT "TooMany" "ValueError" true, .kit "TooMany" "NoBit" false, .exm "TooMany" "NoBit" false, .kit "TooMany" "NoOctets" false, .exm "TooMany" "NoOctets" false, .kit "TooMany" "NoPlace" false, .exm "TooMany" "NoPlace" false, .kit "TooMany" "NoTree" false, .exm "TooMany" "NoTree" false, .kit "TooMany" "TooMany" true, .exm "TooMany" "TooMany" true, .kit "TooMany" "WoodError" true, .exm "TooMany" "WoodError" true, .excC "WoodError", .kitT "WoodError" "ValueError" true, .kit "WoodError" "NoBit" false, .exm "WoodError" "NoBit" false, .kit "WoodError" "NoOctets" false, .exm "WoodError" "NoOctets" false, .kit "WoodError" "NoPlace" false, .exm "WoodError" "NoPlace" false, .kit "WoodError" "NoTree" false, .exm "WoodError" "NoTree" false, .kit "WoodError" "TooMany" false, .exm "WoodError" "TooMany" false, .kit "WoodError" "WoodError" true, .exm "WoodError" "WoodError" true]
def faL : List He.Fa := [.glo "packed", .glo "unpacked", .glo "look_of", .glo "ones_in", .glo "low_in", .glo "size_of", .glo "lesser_of", .glo "heap_of", .glo "ones_table", .glo "kept_row", .glo "is_tree", .glo "begin_height", .glo "kept_brackets", .glo "octets_of", .glo "number_of", .glo "fields_of", .glo "numbers_of", .glo "brackets_of", .glo "depths_of", .glo "kept_tree", .glo "blocks_for", .glo "row_laid", .glo "tree_laid", .glo "tree_octets", .glo "head_of", .glo "row_long", .glo "same_again", .glo "read_tree", .glo "opened_tree", .glo "_law_cell_at", .glo "_law_whole", .glo "_law_bits", .glo "_law_two", .glo "_law_written", .glo "_law_due", .glo "_law_asked", .glo "_law_told", .glo "_law_changed", .glo "_law_octets", .glo "_law_opened", .glo "law", .free "ValueError", .free "all", .free "bool", .free "divmod", .free "enumerate", .free "int", .free "isinstance", .free "len", .free "list", .free "min", .free "range", .free "reversed", .free "sum", .free "tuple", .free "zip", .int "MOST" 4096, .int "WIDE" 32, .exc "NoBit", .exc "NoOctets", .exc "NoPlace", .exc "NoTree", .exc "TooMany", .exc "WoodError", .glo "NoBit", .glo "NoOctets", .glo "NoPlace", .glo "NoTree", .glo "TooMany", .glo "WoodError"]
abbrev R : PySem.W.OpenRow := PySem.W.OpenLaw.row PySem.Challenge.rw_thinwood_k86_trees_read
def tfL : List He.Defn := [("look_of", none)]
def exB (K : PySem.W.Frag) : Bool := fxL.all fun f => f.ok K
abbrev hk : PySem.W.Hook := He.hookX 4 faL fnL [] tfL exB
def ob (s : PySem.W.SharedT) : He.AlX := He.obsX 4 faL fnL [] tfL exB (HandSHeadRun.getT s)
theorem ob_eq (s : PySem.W.SharedT) : ob s = hk.obs s.abs := He.obsX_eq (HandSHeadRun.getT_eq s)
def looseL : List PySem.Str := (["WoodError", "TooMany", "NoBit", "NoPlace", "NoTree", "NoOctets", "WIDE", "MOST", "packed", "unpacked", "look_of", "ones_in", "low_in", "size_of", "lesser_of", "heap_of", "ones_table", "kept_row", "is_tree", "begin_height", "kept_brackets", "octets_of", "number_of", "fields_of", "numbers_of", "brackets_of", "depths_of", "kept_tree", "blocks_for", "row_laid"] : List PySem.Str) ++ (["tree_laid", "tree_octets", "head_of", "row_long", "same_again", "read_tree", "opened_tree", "_law_cell_at", "_law_whole", "_law_bits", "_law_two", "_law_written", "_law_due", "_law_asked", "_law_told", "_law_changed", "_law_octets", "_law_opened"] : List PySem.Str)
theorem run (w : World) : HandSHeadRun.RunEq R (PySem.W.view R.prog [58]) hk ob 20000 looseL w := by
  intro os
  kernel_rfl
theorem tx_of {P : Program} {w : World} {K : PySem.W.Frag} {h : Heap} {mg : Str → Option Value} (X : K.In h) (G : h.Ns mainGlobals mg) (c : He.SaysD faL fnL K) (cx : exB K = true) (base : Heap) (TB : ∀ p ∈ tfL.map (He.cT K), LamX.TabB base mg p.1 p.2) : Tx P w K mg base :=
  {
  d_packed := c.def_ 0 (d := dd_packed) rfl
  g_packed := He.glo_ok X G (c.fact 0 (f := .glo "packed") rfl)
  d_unpacked := c.def_ 1 (d := dd_unpacked) rfl
  g_unpacked := He.glo_ok X G (c.fact 1 (f := .glo "unpacked") rfl)
  d_look_of := c.def_ 2 (d := dd_look_of) rfl
  g_look_of := He.glo_ok X G (c.fact 2 (f := .glo "look_of") rfl)
  d_ones_in := c.def_ 3 (d := dd_ones_in) rfl
  g_ones_in := He.glo_ok X G (c.fact 3 (f := .glo "ones_in") rfl)
  d_low_in := c.def_ 4 (d := dd_low_in) rfl
  g_low_in := He.glo_ok X G (c.fact 4 (f := .glo "low_in") rfl)
  d_size_of := c.def_ 5 (d := dd_size_of) rfl
  g_size_of := He.glo_ok X G (c.fact 5 (f := .glo "size_of") rfl)
  d_lesser_of := c.def_ 6 (d := dd_lesser_of) rfl
  g_lesser_of := He.glo_ok X G (c.fact 6 (f := .glo "lesser_of") rfl)
  d_heap_of := c.def_ 7 (d := dd_heap_of) rfl
  g_heap_of := He.glo_ok X G (c.fact 7 (f := .glo "heap_of") rfl)
  d_ones_table := c.def_ 8 (d := dd_ones_table) rfl
  g_ones_table := He.glo_ok X G (c.fact 8 (f := .glo "ones_table") rfl)
  d_kept_row := c.def_ 9 (d := dd_kept_row) rfl
  g_kept_row := He.glo_ok X G (c.fact 9 (f := .glo "kept_row") rfl)
  d_is_tree := c.def_ 10 (d := dd_is_tree) rfl
  g_is_tree := He.glo_ok X G (c.fact 10 (f := .glo "is_tree") rfl)
  d_begin_height := c.def_ 11 (d := dd_begin_height) rfl
  g_begin_height := He.glo_ok X G (c.fact 11 (f := .glo "begin_height") rfl)
  d_kept_brackets := c.def_ 12 (d := dd_kept_brackets) rfl
  g_kept_brackets := He.glo_ok X G (c.fact 12 (f := .glo "kept_brackets") rfl)
  d_octets_of := c.def_ 13 (d := dd_octets_of) rfl
  g_octets_of := He.glo_ok X G (c.fact 13 (f := .glo "octets_of") rfl)
  d_number_of := c.def_ 14 (d := dd_number_of) rfl
  g_number_of := He.glo_ok X G (c.fact 14 (f := .glo "number_of") rfl)
  d_fields_of := c.def_ 15 (d := dd_fields_of) rfl
  g_fields_of := He.glo_ok X G (c.fact 15 (f := .glo "fields_of") rfl)
  d_numbers_of := c.def_ 16 (d := dd_numbers_of) rfl
  g_numbers_of := He.glo_ok X G (c.fact 16 (f := .glo "numbers_of") rfl)
  d_brackets_of := c.def_ 17 (d := dd_brackets_of) rfl
  g_brackets_of := He.glo_ok X G (c.fact 17 (f := .glo "brackets_of") rfl)
  d_depths_of := c.def_ 18 (d := dd_depths_of) rfl
  g_depths_of := He.glo_ok X G (c.fact 18 (f := .glo "depths_of") rfl)
  d_kept_tree := c.def_ 19 (d := dd_kept_tree) rfl
  g_kept_tree := He.glo_ok X G (c.fact 19 (f := .glo "kept_tree") rfl)
  d_blocks_for := c.def_ 20 (d := dd_blocks_for) rfl
  g_blocks_for := He.glo_ok X G (c.fact 20 (f := .glo "blocks_for") rfl)
  d_row_laid := c.def_ 21 (d := dd_row_laid) rfl
  g_row_laid := He.glo_ok X G (c.fact 21 (f := .glo "row_laid") rfl)
  d_tree_laid := c.def_ 22 (d := dd_tree_laid) rfl
  g_tree_laid := He.glo_ok X G (c.fact 22 (f := .glo "tree_laid") rfl)
  d_tree_octets := c.def_ 23 (d := dd_tree_octets) rfl
  g_tree_octets := He.glo_ok X G (c.fact 23 (f := .glo "tree_octets") rfl)
  d_head_of := c.def_ 24 (d := dd_head_of) rfl
  g_head_of := He.glo_ok X G (c.fact 24 (f := .glo "head_of") rfl)
  d_row_long := c.def_ 25 (d := dd_row_long) rfl
  g_row_long := He.glo_ok X G (c.fact 25 (f := .glo "row_long") rfl)
  d_same_again := c.def_ 26 (d := dd_same_again) rfl
  g_same_again := He.glo_ok X G (c.fact 26 (f := .glo "same_again") rfl)
  d_read_tree := c.def_ 27 (d := dd_read_tree) rfl
  g_read_tree := He.glo_ok X G (c.fact 27 (f := .glo "read_tree") rfl)
  d_opened_tree := c.def_ 28 (d := dd_opened_tree) rfl
  g_opened_tree := He.glo_ok X G (c.fact 28 (f := .glo "opened_tree") rfl)
  d_law_cell_at := c.def_ 29 (d := dd_law_cell_at) rfl
  g_law_cell_at := He.glo_ok X G (c.fact 29 (f := .glo "_law_cell_at") rfl)
  d_law_whole := c.def_ 30 (d := dd_law_whole) rfl
  g_law_whole := He.glo_ok X G (c.fact 30 (f := .glo "_law_whole") rfl)
  d_law_bits := c.def_ 31 (d := dd_law_bits) rfl
  g_law_bits := He.glo_ok X G (c.fact 31 (f := .glo "_law_bits") rfl)
  d_law_two := c.def_ 32 (d := dd_law_two) rfl
  g_law_two := He.glo_ok X G (c.fact 32 (f := .glo "_law_two") rfl)
  d_law_written := c.def_ 33 (d := dd_law_written) rfl
  g_law_written := He.glo_ok X G (c.fact 33 (f := .glo "_law_written") rfl)
  d_law_due := c.def_ 34 (d := dd_law_due) rfl
  g_law_due := He.glo_ok X G (c.fact 34 (f := .glo "_law_due") rfl)
  d_law_asked := c.def_ 35 (d := dd_law_asked) rfl
  g_law_asked := He.glo_ok X G (c.fact 35 (f := .glo "_law_asked") rfl)
  d_law_told := c.def_ 36 (d := dd_law_told) rfl
  g_law_told := He.glo_ok X G (c.fact 36 (f := .glo "_law_told") rfl)
  d_law_changed := c.def_ 37 (d := dd_law_changed) rfl
  g_law_changed := He.glo_ok X G (c.fact 37 (f := .glo "_law_changed") rfl)
  d_law_octets := c.def_ 38 (d := dd_law_octets) rfl
  g_law_octets := He.glo_ok X G (c.fact 38 (f := .glo "_law_octets") rfl)
  d_law_opened := c.def_ 39 (d := dd_law_opened) rfl
  g_law_opened := He.glo_ok X G (c.fact 39 (f := .glo "_law_opened") rfl)
  d_law := c.def_ 40 (d := dd_law) rfl
  g_law := He.glo_ok X G (c.fact 40 (f := .glo "law") rfl)
  b_ValueError := He.free_ok X G (c.fact 41 (f := .free "ValueError") rfl)
  b_all := He.free_ok X G (c.fact 42 (f := .free "all") rfl)
  b_bool := He.free_ok X G (c.fact 43 (f := .free "bool") rfl)
  b_divmod := He.free_ok X G (c.fact 44 (f := .free "divmod") rfl)
  b_enumerate := He.free_ok X G (c.fact 45 (f := .free "enumerate") rfl)
  b_int := He.free_ok X G (c.fact 46 (f := .free "int") rfl)
  b_isinstance := He.free_ok X G (c.fact 47 (f := .free "isinstance") rfl)
  b_len := He.free_ok X G (c.fact 48 (f := .free "len") rfl)
  b_list := He.free_ok X G (c.fact 49 (f := .free "list") rfl)
  b_min := He.free_ok X G (c.fact 50 (f := .free "min") rfl)
  b_range := He.free_ok X G (c.fact 51 (f := .free "range") rfl)
  b_reversed := He.free_ok X G (c.fact 52 (f := .free "reversed") rfl)
  b_sum := He.free_ok X G (c.fact 53 (f := .free "sum") rfl)
  b_tuple := He.free_ok X G (c.fact 54 (f := .free "tuple") rfl)
  b_zip := He.free_ok X G (c.fact 55 (f := .free "zip") rfl)
  i_MOST := He.int_ok X G (c.fact 56 (f := .int "MOST" 4096) rfl)
  i_WIDE := He.int_ok X G (c.fact 57 (f := .int "WIDE" 32) rfl)
  x_NoBit := (fun q => ⟨He.glo_ok X G (c.fact 64 (f := .glo "NoBit") rfl), q.1, q.2.1, q.2.2.1, q.2.2.2⟩) (He.exc_ok (c.fact 58 (f := .exc "NoBit") rfl))
  g_NoBit := He.glo_ok X G (c.fact 64 (f := .glo "NoBit") rfl)
  x_NoOctets := (fun q => ⟨He.glo_ok X G (c.fact 65 (f := .glo "NoOctets") rfl), q.1, q.2.1, q.2.2.1, q.2.2.2⟩) (He.exc_ok (c.fact 59 (f := .exc "NoOctets") rfl))
  g_NoOctets := He.glo_ok X G (c.fact 65 (f := .glo "NoOctets") rfl)
  x_NoPlace := (fun q => ⟨He.glo_ok X G (c.fact 66 (f := .glo "NoPlace") rfl), q.1, q.2.1, q.2.2.1, q.2.2.2⟩) (He.exc_ok (c.fact 60 (f := .exc "NoPlace") rfl))
  g_NoPlace := He.glo_ok X G (c.fact 66 (f := .glo "NoPlace") rfl)
  x_NoTree := (fun q => ⟨He.glo_ok X G (c.fact 67 (f := .glo "NoTree") rfl), q.1, q.2.1, q.2.2.1, q.2.2.2⟩) (He.exc_ok (c.fact 61 (f := .exc "NoTree") rfl))
  g_NoTree := He.glo_ok X G (c.fact 67 (f := .glo "NoTree") rfl)
  x_TooMany := (fun q => ⟨He.glo_ok X G (c.fact 68 (f := .glo "TooMany") rfl), q.1, q.2.1, q.2.2.1, q.2.2.2⟩) (He.exc_ok (c.fact 62 (f := .exc "TooMany") rfl))
  g_TooMany := He.glo_ok X G (c.fact 68 (f := .glo "TooMany") rfl)
  x_WoodError := (fun q => ⟨He.glo_ok X G (c.fact 69 (f := .glo "WoodError") rfl), q.1, q.2.1, q.2.2.1, q.2.2.2⟩) (He.exc_ok (c.fact 63 (f := .exc "WoodError") rfl))
  g_WoodError := He.glo_ok X G (c.fact 69 (f := .glo "WoodError") rfl)
  fx := {
    ec_NoBit := Fx.excC_ok (List.all_eq_true.mp cx (.excC "NoBit") (List.mem_of_getElem? (i := 0) rfl))
    kt_NoBit := Fx.kitT_ok (List.all_eq_true.mp cx (.kitT "NoBit" "ValueError" true) (List.mem_of_getElem? (i := 1) rfl))
    k_NoBit_NoBit := Fx.kit_ok (List.all_eq_true.mp cx (.kit "NoBit" "NoBit" true) (List.mem_of_getElem? (i := 2) rfl))
    e_NoBit_NoBit := Fx.exm_ok (List.all_eq_true.mp cx (.exm "NoBit" "NoBit" true) (List.mem_of_getElem? (i := 3) rfl))
    k_NoBit_NoOctets := Fx.kit_ok (List.all_eq_true.mp cx (.kit "NoBit" "NoOctets" false) (List.mem_of_getElem? (i := 4) rfl))
    e_NoBit_NoOctets := Fx.exm_ok (List.all_eq_true.mp cx (.exm "NoBit" "NoOctets" false) (List.mem_of_getElem? (i := 5) rfl))
    k_NoBit_NoPlace := Fx.kit_ok (List.all_eq_true.mp cx (.kit "NoBit" "NoPlace" false) (List.mem_of_getElem? (i := 6) rfl))
    e_NoBit_NoPlace := Fx.exm_ok (List.all_eq_true.mp cx (.exm "NoBit" "NoPlace" false) (List.mem_of_getElem? (i := 7) rfl))
    k_NoBit_NoTree := Fx.kit_ok (List.all_eq_true.mp cx (.kit "NoBit" "NoTree" false) (List.mem_of_getElem? (i := 8) rfl))
    e_NoBit_NoTree := Fx.exm_ok (List.all_eq_true.mp cx (.exm "NoBit" "NoTree" false) (List.mem_of_getElem? (i := 9) rfl))
    k_NoBit_TooMany := Fx.kit_ok (List.all_eq_true.mp cx (.kit "NoBit" "TooMany" false) (List.mem_of_getElem? (i := 10) rfl))
    e_NoBit_TooMany := Fx.exm_ok (List.all_eq_true.mp cx (.exm "NoBit" "TooMany" false) (List.mem_of_getElem? (i := 11) rfl))
    k_NoBit_WoodError := Fx.kit_ok (List.all_eq_true.mp cx (.kit "NoBit" "WoodError" true) (List.mem_of_getElem? (i := 12) rfl))
    e_NoBit_WoodError := Fx.exm_ok (List.all_eq_true.mp cx (.exm "NoBit" "WoodError" true) (List.mem_of_getElem? (i := 13) rfl))
    ec_NoOctets := Fx.excC_ok (List.all_eq_true.mp cx (.excC "NoOctets") (List.mem_of_getElem? (i := 14) rfl))
    kt_NoOctets := Fx.kitT_ok (List.all_eq_true.mp cx (.kitT "NoOctets" "ValueError" true) (List.mem_of_getElem? (i := 15) rfl))
    k_NoOctets_NoBit := Fx.kit_ok (List.all_eq_true.mp cx (.kit "NoOctets" "NoBit" false) (List.mem_of_getElem? (i := 16) rfl))
    e_NoOctets_NoBit := Fx.exm_ok (List.all_eq_true.mp cx (.exm "NoOctets" "NoBit" false) (List.mem_of_getElem? (i := 17) rfl))
    k_NoOctets_NoOctets := Fx.kit_ok (List.all_eq_true.mp cx (.kit "NoOctets" "NoOctets" true) (List.mem_of_getElem? (i := 18) rfl))
    e_NoOctets_NoOctets := Fx.exm_ok (List.all_eq_true.mp cx (.exm "NoOctets" "NoOctets" true) (List.mem_of_getElem? (i := 19) rfl))
    k_NoOctets_NoPlace := Fx.kit_ok (List.all_eq_true.mp cx (.kit "NoOctets" "NoPlace" false) (List.mem_of_getElem? (i := 20) rfl))
    e_NoOctets_NoPlace := Fx.exm_ok (List.all_eq_true.mp cx (.exm "NoOctets" "NoPlace" false) (List.mem_of_getElem? (i := 21) rfl))
    k_NoOctets_NoTree := Fx.kit_ok (List.all_eq_true.mp cx (.kit "NoOctets" "NoTree" false) (List.mem_of_getElem? (i := 22) rfl))
    e_NoOctets_NoTree := Fx.exm_ok (List.all_eq_true.mp cx (.exm "NoOctets" "NoTree" false) (List.mem_of_getElem? (i := 23) rfl))
    k_NoOctets_TooMany := Fx.kit_ok (List.all_eq_true.mp cx (.kit "NoOctets" "TooMany" false) (List.mem_of_getElem? (i := 24) rfl))
    e_NoOctets_TooMany := Fx.exm_ok (List.all_eq_true.mp cx (.exm "NoOctets" "TooMany" false) (List.mem_of_getElem? (i := 25) rfl))
    k_NoOctets_WoodError := Fx.kit_ok (List.all_eq_true.mp cx (.kit "NoOctets" "WoodError" true) (List.mem_of_getElem? (i := 26) rfl))
    e_NoOctets_WoodError := Fx.exm_ok (List.all_eq_true.mp cx (.exm "NoOctets" "WoodError" true) (List.mem_of_getElem? (i := 27) rfl))
    ec_NoPlace := Fx.excC_ok (List.all_eq_true.mp cx (.excC "NoPlace") (List.mem_of_getElem? (i := 28) rfl))
    kt_NoPlace := Fx.kitT_ok (List.all_eq_true.mp cx (.kitT "NoPlace" "ValueError" true) (List.mem_of_getElem? (i := 29) rfl))
    k_NoPlace_NoBit := Fx.kit_ok (List.all_eq_true.mp cx (.kit "NoPlace" "NoBit" false) (List.mem_of_getElem? (i := 30) rfl))
    e_NoPlace_NoBit := Fx.exm_ok (List.all_eq_true.mp cx (.exm "NoPlace" "NoBit" false) (List.mem_of_getElem? (i := 31) rfl))
    k_NoPlace_NoOctets := Fx.kit_ok (List.all_eq_true.mp cx (.kit "NoPlace" "NoOctets" false) (List.mem_of_getElem? (i := 32) rfl))
    e_NoPlace_NoOctets := Fx.exm_ok (List.all_eq_true.mp cx (.exm "NoPlace" "NoOctets" false) (List.mem_of_getElem? (i := 33) rfl))
    k_NoPlace_NoPlace := Fx.kit_ok (List.all_eq_true.mp cx (.kit "NoPlace" "NoPlace" true) (List.mem_of_getElem? (i := 34) rfl))
    e_NoPlace_NoPlace := Fx.exm_ok (List.all_eq_true.mp cx (.exm "NoPlace" "NoPlace" true) (List.mem_of_getElem? (i := 35) rfl))
    k_NoPlace_NoTree := Fx.kit_ok (List.all_eq_true.mp cx (.kit "NoPlace" "NoTree" false) (List.mem_of_getElem? (i := 36) rfl))
    e_NoPlace_NoTree := Fx.exm_ok (List.all_eq_true.mp cx (.exm "NoPlace" "NoTree" false) (List.mem_of_getElem? (i := 37) rfl))
    k_NoPlace_TooMany := Fx.kit_ok (List.all_eq_true.mp cx (.kit "NoPlace" "TooMany" false) (List.mem_of_getElem? (i := 38) rfl))
    e_NoPlace_TooMany := Fx.exm_ok (List.all_eq_true.mp cx (.exm "NoPlace" "TooMany" false) (List.mem_of_getElem? (i := 39) rfl))
    k_NoPlace_WoodError := Fx.kit_ok (List.all_eq_true.mp cx (.kit "NoPlace" "WoodError" true) (List.mem_of_getElem? (i := 40) rfl))
    e_NoPlace_WoodError := Fx.exm_ok (List.all_eq_true.mp cx (.exm "NoPlace" "WoodError" true) (List.mem_of_getElem? (i := 41) rfl))
    ec_NoTree := Fx.excC_ok (List.all_eq_true.mp cx (.excC "NoTree") (List.mem_of_getElem? (i := 42) rfl))
    kt_NoTree := Fx.kitT_ok (List.all_eq_true.mp cx (.kitT "NoTree" "ValueError" true) (List.mem_of_getElem? (i := 43) rfl))
    k_NoTree_NoBit := Fx.kit_ok (List.all_eq_true.mp cx (.kit "NoTree" "NoBit" false) (List.mem_of_getElem? (i := 44) rfl))
    e_NoTree_NoBit := Fx.exm_ok (List.all_eq_true.mp cx (.exm "NoTree" "NoBit" false) (List.mem_of_getElem? (i := 45) rfl))
    k_NoTree_NoOctets := Fx.kit_ok (List.all_eq_true.mp cx (.kit "NoTree" "NoOctets" false) (List.mem_of_getElem? (i := 46) rfl))
    e_NoTree_NoOctets := Fx.exm_ok (List.all_eq_true.mp cx (.exm "NoTree" "NoOctets" false) (List.mem_of_getElem? (i := 47) rfl))
    k_NoTree_NoPlace := Fx.kit_ok (List.all_eq_true.mp cx (.kit "NoTree" "NoPlace" false) (List.mem_of_getElem? (i := 48) rfl))
    e_NoTree_NoPlace := Fx.exm_ok (List.all_eq_true.mp cx (.exm "NoTree" "NoPlace" false) (List.mem_of_getElem? (i := 49) rfl))
    k_NoTree_NoTree := Fx.kit_ok (List.all_eq_true.mp cx (.kit "NoTree" "NoTree" true) (List.mem_of_getElem? (i := 50) rfl))
    e_NoTree_NoTree := Fx.exm_ok (List.all_eq_true.mp cx (.exm "NoTree" "NoTree" true) (List.mem_of_getElem? (i := 51) rfl))
    k_NoTree_TooMany := Fx.kit_ok (List.all_eq_true.mp cx (.kit "NoTree" "TooMany" false) (List.mem_of_getElem? (i := 52) rfl))
    e_NoTree_TooMany := Fx.exm_ok (List.all_eq_true.mp cx (.exm "NoTree" "TooMany" false) (List.mem_of_getElem? (i := 53) rfl))
    k_NoTree_WoodError := Fx.kit_ok (List.all_eq_true.mp cx (.kit "NoTree" "WoodError" true) (List.mem_of_getElem? (i := 54) rfl))
    e_NoTree_WoodError := Fx.exm_ok (List.all_eq_true.mp cx (.exm "NoTree" "WoodError" true) (List.mem_of_getElem? (i := 55) rfl))
    ec_TooMany := Fx.excC_ok (List.all_eq_true.mp cx (.excC "TooMany") (List.mem_of_getElem? (i := 56) rfl))
    kt_TooMany := Fx.kitT_ok (List.all_eq_true.mp cx (.kitT "TooMany" "ValueError" true) (List.mem_of_getElem? (i := 57) rfl))
    k_TooMany_NoBit := Fx.kit_ok (List.all_eq_true.mp cx (.kit "TooMany" "NoBit" false) (List.mem_of_getElem? (i := 58) rfl))
    e_TooMany_NoBit := Fx.exm_ok (List.all_eq_true.mp cx (.exm "TooMany" "NoBit" false) (List.mem_of_getElem? (i := 59) rfl))
    k_TooMany_NoOctets := Fx.kit_ok (List.all_eq_true.mp cx (.kit "TooMany" "NoOctets" false) (List.mem_of_getElem? (i := 60) rfl))
    e_TooMany_NoOctets := Fx.exm_ok (List.all_eq_true.mp cx (.exm "TooMany" "NoOctets" false) (List.mem_of_getElem? (i := 61) rfl))
    k_TooMany_NoPlace := Fx.kit_ok (List.all_eq_true.mp cx (.kit "TooMany" "NoPlace" false) (List.mem_of_getElem? (i := 62) rfl))
    e_TooMany_NoPlace := Fx.exm_ok (List.all_eq_true.mp cx (.exm "TooMany" "NoPlace" false) (List.mem_of_getElem? (i := 63) rfl))
    k_TooMany_NoTree := Fx.kit_ok (List.all_eq_true.mp cx (.kit "TooMany" "NoTree" false) (List.mem_of_getElem? (i := 64) rfl))
    e_TooMany_NoTree := Fx.exm_ok (List.all_eq_true.mp cx (.exm "TooMany" "NoTree" false) (List.mem_of_getElem? (i := 65) rfl))
    k_TooMany_TooMany := Fx.kit_ok (List.all_eq_true.mp cx (.kit "TooMany" "TooMany" true) (List.mem_of_getElem? (i := 66) rfl))
    e_TooMany_TooMany := Fx.exm_ok (List.all_eq_true.mp cx (.exm "TooMany" "TooMany" true) (List.mem_of_getElem? (i := 67) rfl))
    k_TooMany_WoodError := Fx.kit_ok (List.all_eq_true.mp cx (.kit "TooMany" "WoodError" true) (List.mem_of_getElem? (i := 68) rfl))
    e_TooMany_WoodError := Fx.exm_ok (List.all_eq_true.mp cx (.exm "TooMany" "WoodError" true) (List.mem_of_getElem? (i := 69) rfl))
    ec_WoodError := Fx.excC_ok (List.all_eq_true.mp cx (.excC "WoodError") (List.mem_of_getElem? (i := 70) rfl))
    kt_WoodError := Fx.kitT_ok (List.all_eq_true.mp cx (.kitT "WoodError" "ValueError" true) (List.mem_of_getElem? (i := 71) rfl))
    k_WoodError_NoBit := Fx.kit_ok (List.all_eq_true.mp cx (.kit "WoodError" "NoBit" false) (List.mem_of_getElem? (i := 72) rfl))
    e_WoodError_NoBit := Fx.exm_ok (List.all_eq_true.mp cx (.exm "WoodError" "NoBit" false) (List.mem_of_getElem? (i := 73) rfl))
    k_WoodError_NoOctets := Fx.kit_ok (List.all_eq_true.mp cx (.kit "WoodError" "NoOctets" false) (List.mem_of_getElem? (i := 74) rfl))
    e_WoodError_NoOctets := Fx.exm_ok (List.all_eq_true.mp cx (.exm "WoodError" "NoOctets" false) (List.mem_of_getElem? (i := 75) rfl))
    k_WoodError_NoPlace := Fx.kit_ok (List.all_eq_true.mp cx (.kit "WoodError" "NoPlace" false) (List.mem_of_getElem? (i := 76) rfl))
    e_WoodError_NoPlace := Fx.exm_ok (List.all_eq_true.mp cx (.exm "WoodError" "NoPlace" false) (List.mem_of_getElem? (i := 77) rfl))
    k_WoodError_NoTree := Fx.kit_ok (List.all_eq_true.mp cx (.kit "WoodError" "NoTree" false) (List.mem_of_getElem? (i := 78) rfl))
    e_WoodError_NoTree := Fx.exm_ok (List.all_eq_true.mp cx (.exm "WoodError" "NoTree" false) (List.mem_of_getElem? (i := 79) rfl))
    k_WoodError_TooMany := Fx.kit_ok (List.all_eq_true.mp cx (.kit "WoodError" "TooMany" false) (List.mem_of_getElem? (i := 80) rfl))
    e_WoodError_TooMany := Fx.exm_ok (List.all_eq_true.mp cx (.exm "WoodError" "TooMany" false) (List.mem_of_getElem? (i := 81) rfl))
    k_WoodError_WoodError := Fx.kit_ok (List.all_eq_true.mp cx (.kit "WoodError" "WoodError" true) (List.mem_of_getElem? (i := 82) rfl))
    e_WoodError_WoodError := Fx.exm_ok (List.all_eq_true.mp cx (.exm "WoodError" "WoodError" true) (List.mem_of_getElem? (i := 83) rfl))
  }
  tb_look_of := TB _ (List.mem_map_of_mem (f := He.cT K) (by decide : ((("look_of", none) : He.Defn) ∈ tfL)))
  }
theorem facts {P : Program} {w : World} {K : PySem.W.Frag} {h : Heap} {mg : Str → Option Value} (X : K.In h) (G : h.Ns mainGlobals mg) (c : He.SaysD faL fnL K) (cx : exB K = true) (base : Heap) (TB : ∀ p ∈ tfL.map (He.cT K), LamX.TabB base mg p.1 p.2) :
    Okf P w K mg base CX0 19 "law" ["_law_script"] (sp_law K) := by
  have T : Tx P w K mg base := tx_of X G c cx base TB
  have o_packed := ok_packed (P := P) (w := w) T 
  have o_unpacked := ok_unpacked (P := P) (w := w) T 
  have o_look_of := ok_look_of (P := P) (w := w) T 
  have o_ones_in := ok_ones_in (P := P) (w := w) T 
  have o_low_in := ok_low_in (P := P) (w := w) T 
  have o_size_of := ok_size_of (P := P) (w := w) T 
  have o_lesser_of := ok_lesser_of (P := P) (w := w) T 
  have o_heap_of := ok_heap_of (P := P) (w := w) T o_size_of o_lesser_of
  have o_ones_table := ok_ones_table (P := P) (w := w) T o_ones_in
  have o_kept_row := ok_kept_row (P := P) (w := w) T o_packed o_ones_table
  have o_is_tree := ok_is_tree (P := P) (w := w) T 
  have o_begin_height := ok_begin_height (P := P) (w := w) T 
  have o_kept_brackets := ok_kept_brackets (P := P) (w := w) T o_kept_row o_is_tree o_begin_height o_low_in o_heap_of
  have o_octets_of := ok_octets_of (P := P) (w := w) T 
  have o_number_of := ok_number_of (P := P) (w := w) T 
  have o_fields_of := ok_fields_of (P := P) (w := w) T o_octets_of
  have o_numbers_of := ok_numbers_of (P := P) (w := w) T o_number_of
  have o_brackets_of := ok_brackets_of (P := P) (w := w) T 
  have o_depths_of := ok_depths_of (P := P) (w := w) T o_packed o_is_tree
  have o_kept_tree := ok_kept_tree (P := P) (w := w) T o_kept_brackets o_brackets_of
  have o_blocks_for := ok_blocks_for (P := P) (w := w) T 
  have o_row_laid := ok_row_laid (P := P) (w := w) T o_fields_of
  have o_tree_laid := ok_tree_laid (P := P) (w := w) T o_row_laid o_fields_of
  have o_tree_octets := ok_tree_octets (P := P) (w := w) T o_kept_tree o_tree_laid
  have o_head_of := ok_head_of (P := P) (w := w) T o_number_of
  have o_row_long := ok_row_long (P := P) (w := w) T o_blocks_for
  have o_same_again := ok_same_again (P := P) (w := w) T 
  have o_read_tree := ok_read_tree (P := P) (w := w) T o_head_of o_row_long o_blocks_for o_unpacked o_numbers_of o_is_tree o_depths_of o_same_again o_tree_octets
  have o_opened_tree := ok_opened_tree (P := P) (w := w) T o_kept_tree o_read_tree o_look_of
  have o_law_cell_at := ok_law_cell_at (P := P) (w := w) T 
  have o_law_whole := ok_law_whole (P := P) (w := w) T 
  have o_law_bits := ok_law_bits (P := P) (w := w) T 
  have o_law_two := ok_law_two (P := P) (w := w) T 
  have o_law_written := ok_law_written (P := P) (w := w) T o_law_two
  have o_law_due := ok_law_due (P := P) (w := w) T o_law_written
  have o_law_asked := ok_law_asked (P := P) (w := w) T o_read_tree o_opened_tree
  have o_law_told := ok_law_told (P := P) (w := w) T o_law_asked o_law_whole
  have o_law_changed := ok_law_changed (P := P) (w := w) T 
  have o_law_octets := ok_law_octets (P := P) (w := w) T o_law_bits o_law_cell_at o_law_written o_law_changed
  have o_law_opened := ok_law_opened (P := P) (w := w) T o_law_told o_law_whole
  have o_law := ok_law (P := P) (w := w) T o_law_octets o_law_due o_law_told o_tree_octets o_law_opened
  exact o_law
theorem binds_law {K : PySem.W.Frag} (c : He.SaysD faL fnL K) : ∃ fd : FuncData, FunD K "law" "law" (defArgs s_law) (defBody s_law) (defScope s_law) [] [] (He.ga K "law") fd := c.def_ 40 (d := dd_law) rfl
theorem tab_sp {K : PySem.W.Frag} {H : Hp} (h : ∀ p ∈ tfL.map (He.cT K), H p.2 = some (.tbl #[])) : ∀ x ∈ tabL, NdefX.TabN H (tabP K x) nmL := fun x hx =>
  NdefX.TabN.nil (h (He.cT K (x, none)) (List.mem_map_of_mem (f := He.cT K) (show ((x, none) : He.Defn) ∈ tfL from by
    have e : tfL = tabL.map fun x => ((x, none) : He.Defn) := rfl
    rw [e]; exact List.mem_map_of_mem (f := fun x => ((x, none) : He.Defn)) hx)))
end Tw
open PySem PySem.W PySem.Calls PyProof.Rows
set_option maxHeartbeats 0 in
theorem PySem.Challenge.cw_thinwood_k86_trees_read_holds : PySem.Challenge.rw_thinwood_k86_trees_read.Holds := by
  w_on; o_law
  refine HandSHeadRun.head_any (r := OpenLaw.row PySem.Challenge.rw_thinwood_k86_trees_read) (q := view (OpenLaw.row PySem.Challenge.rw_thinwood_k86_trees_read).prog [58]) (H := Tw.hk) (ob := Tw.ob) (M := 20000) (loose := Tw.looseL) (d := HandSHeadRun.topDef (OpenLaw.row PySem.Challenge.rw_thinwood_k86_trees_read).prog 58) (kwd := []) Tw.ob_eq
    Tw.z_e Tw.z_f Tw.run Tw.z_def Tw.z_hp Tw.z_hk (by rfl) (by first | assumption | decide +kernel) Tw.z_ok Tw.z_bare Tw.z_w ?hc
  case hc =>
    refine LamX.walk_ofTsE (l := PySem.Challenge.rw_thinwood_k86_trees_read) (n := 63) (k := 19) (x := "_law_script") (CX := fun _ => L2.CX0) rfl (by decide) (by as_aux_lemma => kernel_rfl) ⟨rfl, by decide, by decide⟩ ?F (fun _ _ _ _ _ z => z)
    intro w mg fa h Y G hmg0
    obtain ⟨K, KX, c⟩ := Y
    have cd := c.t.d
    have hmg : mg ("law" : PySem.Str) = some (.ref fa) := by
      have e : (HandSHeadRun.topDef (OpenLaw.row PySem.Challenge.rw_thinwood_k86_trees_read).prog 58).name = ("law" : PySem.Str) := by kernel_rfl
      rw [← e]
      exact hmg0
    have e : fa = He.ga K "law" := by
      have z := hmg.symm.trans (He.glo_ok KX G (cd.fact 40 (f := .glo "law") rfl))
      exact Value.ref.inj (Option.some.inj z)
    subst e
    obtain ⟨fd, FD⟩ := Tw.binds_law cd
    refine ⟨K, KX, fd, Tw.tfL.map (He.cT K), Tw.sp_law K, fun p hp => ?_, fun p hp => ?_, fun p hp => ?_, fun s u => FunD.bindsA (ps := ["_law_script"]) FD (fun _ _ _ _ _ _ us hl => match us, hl with | [_], _ => rfl) s [u] rfl, fun H a ns hl _ hH hS => ⟨a, ns, rfl, hS, hl, Tw.tab_sp hH, fun _ => rfl⟩, fun base KB GB TB => ?_⟩
    · obtain ⟨q, hq, e⟩ := List.mem_map.mp hp
      rw [← e]; exact c.empty q hq
    · obtain ⟨q, hq, e⟩ := List.mem_map.mp hp
      rw [← e]; exact c.out q hq
    · obtain ⟨q, hq, e⟩ := List.mem_map.mp hp
      rw [← e]; exact PySem.W.codeHd_of_K KX (c.hd q hq)
    · exact Tw.okf_fn (Tw.facts KB GB cd c.more base TB) FD
#print axioms PySem.Challenge.cw_thinwood_k86_trees_read_holds
