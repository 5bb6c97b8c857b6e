import PyProof.Rows.All
import Wide.All
import OpenK.AllK
import Wide.FinOn
import KE.KStateDown
import Lean
import HandS.ForMost
import HandS.ForExc
import HandS.Steps
import HandS.IsInst
import HandS.Wide
import HandS.WideBits
import HandS.Defaults
import HandS.Flow
import HandS.Style
import HandS.ExcIs
import HandS.TryMany
import HandS.Evl
import HandS.Walk
import HandS.Rev
import HandS.Conv
import HandS.RevRange
import HandS.SortInts
import HandS.More
import HandS.Head0
import HandS.Head1
import HandS.Head2
import HandS.HeadEnd
import HandS.HeadHook1
import HandS.HeadHook2
import HandS.Deep
import HandS.Lambda
import HandS.HeadHook4
import HandS.HeadWalk
import HandS.Nested
import PySem.Challenge.RW_thinwood_k43_a_tree_kept
set_option Elab.async false
set_option linter.all false
set_option maxRecDepth 100000
set_option maxHeartbeats 4000000
open PySem PySem.W PySem.Calls PyProof.Rows in
section
namespace Tw
abbrev R0 : PySem.W.OpenRow := PySem.W.OpenLaw.row PySem.Challenge.rw_thinwood_k43_a_tree_kept
abbrev q0 : PySem.Program := PySem.W.view R0.prog [34]
abbrev d0 : PySem.DefRec := HandSHeadRun.topDef R0.prog 34
open PySem PySem.W PySem.Calls PyProof.Rows
theorem z_e : opening R0.prog = plainProg R0.prog.main.scope.names := by kernel_rfl
theorem z_f : ∀ s, fenceModules? R0.prog s = some s := fun s => by kernel_rfl
theorem z_def : defOf q0 R0.name = some (d0, []) := by kernel_rfl
theorem z_hp : R0.prog.theDef R0.name = some (d0.params, d0.body, d0.scope) := by kernel_rfl
theorem z_hk : kwWritten? d0.params.kwonlyargs d0.params.kw_defaults = some [] := by kernel_rfl
theorem z_ok : (chainsOk q0 && opensWell R0.prog && (frees R0.toRowW && R0.within.isEmpty)) = true := by decide +kernel
theorem z_bare : R0.prog.bare := ⟨rfl, rfl, rfl, rfl, rfl, by decide +kernel⟩
set_option maxHeartbeats 0 in
theorem z_w : R0.toRowW.promised := by w_witness2
end Tw
end
set_option Elab.async false
set_option linter.all false
set_option maxRecDepth 100000
set_option maxHeartbeats 4000000
namespace Tw
open PySem PySem.Spec PyProof.Rows L2
def nmL (l _c : Nat) : Str := ""
def tabL : List Str := []
/-! ### heaps: all that was tracked is as it was, but for code tables, which may have grown -/
class NT (o : HO) : Prop where
  ne : ∀ ps, o ≠ .tbl ps
instance {xs : List V} : NT (.lst xs) := ⟨fun _ z => nomatch z⟩
instance {xs : List V} : NT (.tup xs) := ⟨fun _ z => nomatch z⟩
instance {o : Obj} {u : HO} : NT (.frz o u) := ⟨fun _ z => nomatch z⟩
instance {φ : Heap → Prop} : NT (.ext φ) := ⟨fun _ z => nomatch z⟩
instance {S : Int → Bool} {n : Nat} : NT (.set S n) := ⟨fun _ z => nomatch z⟩
instance {kvs : List (Key × V)} : NT (.dK kvs) := ⟨fun _ z => nomatch z⟩
instance {C dx : Addr} {fs : List (Str × V)} : NT (.ins C dx fs) := ⟨fun _ z => nomatch z⟩
instance {x : Addr} : NT (.own x) := ⟨fun _ z => nomatch z⟩
structure Same (H H' : Hp) : Prop where
  keep : ∀ b o, H b = some o → (∀ ps, o ≠ .tbl ps) → H' b = some o
  gone : ∀ b, H' b = none → H b = none
  tabs : ∀ P, NdefX.TabN H P nmL → NdefX.TabN H' P nmL
theorem Same.get {H H' : Hp} (s : Same H H') {b : Addr} {o : HO} [NT o] (e : H b = some o) : H' b = some o := s.keep b o e NT.ne
theorem Same.of {H H' : Hp} (e : ∀ b o, H b = some o → H' b = some o) : Same H H' := by
  refine ⟨fun b o h _ => e b o h, fun b h => ?_, fun P t => NdefX.TabN.ext t e⟩
  cases q : H b with
  | none => rfl
  | some o => rw [e b o q] at h; cases h
theorem Same.refl (H : Hp) : Same H H := .of fun _ _ h => h
theorem Same.trans {H H1 H2 : Hp} (a : Same H H1) (b : Same H1 H2) : Same H H2 := ⟨fun c o h n => b.keep c o (a.keep c o h n) n, fun c h => a.gone c (b.gone c h), fun P t => b.tabs P (a.tabs P t)⟩
theorem Same.free {H H' : Hp} (e : Same H H') {l : Addr} (h : H' l = Option.none) : H l = Option.none := e.gone l h
theorem Same.seq {K : PySem.W.Frag} {H H' : Hp} {a : Addr} {xs : List V} (e : Same H H') (h : SqL K H a xs) : SqL K H' a xs := by
  rcases h with (h | ⟨o, h⟩) | h
  · exact .inl (.inl (e.get h))
  · exact .inl (.inr ⟨o, e.get h⟩)
  · exact .inr h
theorem same_new {H : Hp} {p : Addr} {o : HO} (h : H p = none) : Same H (upd H p o) := .of fun b x e => by
  rw [upd_ne (ne_of_none e h)]; exact e
/-- an object that H does not know may change -/
theorem Same.mut {H H' : Hp} {p : Addr} {o : HO} (e : Same H H') (h : H p = none) (hl : ∃ xs, H' p = some (.lst xs) := by exact ⟨_, by assumption⟩) : Same H (upd H' p o) := by
  obtain ⟨xs, hl⟩ := hl
  refine ⟨fun b x hb n => by rw [upd_ne (ne_of_none hb h)]; exact e.keep b x hb n, fun b hb => e.gone b (NdefX.upd_none hb), fun P t => ?_⟩
  obtain ⟨ps, h1, ht, hc⟩ := e.tabs P t
  have np : ∀ {b : Addr} {u : HO}, H' b = some u → (∀ xs, u ≠ .lst xs) → b ≠ p := fun {b u} q d z => by
    subst z; rw [hl] at q; cases q; exact d _ rfl
  refine ⟨ps, by rw [upd_ne (np h1 fun _ z => nomatch z)]; exact h1, ht, fun pos cv q => ?_⟩
  obtain ⟨c, e1, e2⟩ := hc pos cv q
  exact ⟨c, e1, by rw [upd_ne (np e2 fun _ z => by unfold LamX.CodeO at z; cases z)]; exact e2⟩
theorem Same.seqT {K : PySem.W.Frag} {H H' : Hp} {a : Addr} {xs : List V} (e : Same H H') (h : SqT K H a xs) : SqT K H' a xs := by
  rcases h with (h | ⟨o, h⟩) | h
  · exact .inl (.inl (e.get h))
  · exact .inl (.inr ⟨o, e.get h⟩)
  · exact .inr h
theorem Same.ne {H : Hp} {a p : Addr} {o : HO} (h : H p = none) (e : H a = some o) : a ≠ p := ne_of_none e h
/-! ### a def by its global name, and its call -/
/-- the def named x keeps the promise sp -/
structure Okf (P : Program) (w : World) (K : PySem.W.Frag) (mg : Str → Option Value) (base : Heap) (CX : CXT) (k : Nat) (x : Str) (ps : List Str) (sp : Sp) : Prop where
  ex : ∃ fd : FuncData, (∃ (oc : Value) (od : Option Addr) (osl : Array (Option Value)), K.lookup (He.ga K x) = some ⟨oc, od, .func fd, osl⟩) ∧ Binds K fd ps [] ∧ FnOk P w K mg base CX k (He.ga K x) fd ps sp
  kp : PySem.W.keepIn K (.ref (He.ga K x)) = true
  gl : mg x = some (.ref (He.ga K x))
theorem FunD.look {K : PySem.W.Frag} {x qual : Str} {params : Arguments} {body : List Stmt} {scope : Scope} {dvs : List V} {kws : List (Str × V)} {f : Addr} {fd : FuncData} (F : FunD K x qual params body scope dvs kws f fd) :
    ∃ (oc : Value) (od : Option Addr) (osl : Array (Option Value)), K.lookup f = some ⟨oc, od, .func fd, osl⟩ := by
  obtain ⟨oc, od, dV, kV, doc, pm, an, cdv, ct, osl, e, lk, _⟩ := F.ex
  exact ⟨oc, od, osl, lk⟩
section
variable {X : Cx} {CX : CXT} {k j : Nat} {ps : List Str} {sp : Sp} {E : XK} {x : Str} {p pos : Pos} {e : Expr} {es : List Expr} {t : TA}
theorem pe_callF (F : Okf X.prog X.w X.K X.mg X.base CX k x ps sp) (hr : Room j X.A) (hk : k ≤ j) (hg : Gl X x) (hx : Passes CX X E)
    (ha : PA X (e :: es) t) (hdb : (x == ("__debug__" : Str)) = false := by decide) (he : starEach (e :: es) X.env = (false, eval e X.env) :: starEach es X.env := by rfl) (hpl : (backTo pos (starEach es X.env)).any (·.1) = false := by rfl) :
    PE X (.Call (.Name x p) (e :: es) [] pos) (tCall sp [] E t) := by
  obtain ⟨fd, _, hb, ok⟩ := F.ex
  exact pe_call ok (hr.mono hk) hg F.gl F.kp hb .nil hx ha hdb he hpl
theorem pe_callF0 (F : Okf X.prog X.w X.K X.mg X.base CX k x ps sp) (hr : Room j X.A) (hk : k ≤ j) (hg : Gl X x) (hx : Passes CX X E)
    (hdb : (x == ("__debug__" : Str)) = false := by decide) : PE X (.Call (.Name x p) [] [] pos) (tCall sp [] E tNil) := by
  obtain ⟨fd, _, hb, ok⟩ := F.ex
  exact pe_call0 ok (hr.mono hk) hg F.gl F.kp hb .nil hx hdb
theorem Okf.imp {P : Program} {w : World} {K : PySem.W.Frag} {mg : Str → Option Value} {base : Heap} {sp' : Sp} (F : Okf P w K mg base CX k x ps sp)
    (h : ∀ vs H Q E, sp' vs H Q E → sp vs H Q E) : Okf P w K mg base CX k x ps sp' := by
  obtain ⟨⟨fd, lk, hb, ok⟩, kp, gl⟩ := F
  exact ⟨⟨fd, lk, hb, ok.imp h⟩, kp, gl⟩
theorem okf_fn {P : Program} {w : World} {K : PySem.W.Frag} {mg : Str → Option Value} {base : Heap} {params : Arguments} {body : List Stmt} {scope : Scope} {qual y : Str} {fd : FuncData} {dvs : List V} {kws : List (Str × V)} (F : Okf P w K mg base CX k x ps sp)
    (FD : FunD K y qual params body scope dvs kws (He.ga K x) fd) : FnOk P w K mg base CX k (He.ga K x) fd ps sp := by
  obtain ⟨⟨fd', ⟨_, _, _, lk'⟩, hb, ok⟩, kp, gl⟩ := F
  obtain ⟨_, _, _, lk⟩ := FunD.look FD
  rw [lk] at lk'
  injection lk' with e
  injection e with _ _ e
  injection e with e
  subst e
  exact ok
/-- a global int, as a constant -/
theorem pe_gint {i : Int} (h : ∃ t, X.mg x = some (.int i t)) (hg : Gl X x) (hd : (x == ("__debug__" : Str)) = false := by decide) : PE X (.Name x pos) (tC (.int i)) := by
  obtain ⟨t, h⟩ := h
  exact pe_glob hg h ⟨_, rfl⟩ hd
/-- a constant that the text reckons -/
theorem pe_cst {v : Int} {te : TE} (h : PE X e te) (hi : ∀ (σ : L2.St) (H : Hp) (Q : VK), Q (.int v) H → te σ H Q) : PE X e (tC (.int v)) :=
  ⟨fun pins s σ H Q I q => h.run pins s σ H Q I (hi σ H Q q)⟩
/-- e & 1 -/
def rAnd1 : R2 := fun x y H Q => ∃ i : Int, x = .int i ∧ y = .int 1 ∧ Q (.int (i % 2)) H
theorem op_and1 : OpR X (binaryOp .BitAnd) rAnd1 := by
  intro pins s σ H x y v u Q I rx ry h
  obtain ⟨i, rfl, rfl, q⟩ := h
  exact op_andM pins s σ H (.int i) (.int (2 ^ 1 - 1)) v u Q I rx ry ⟨i, 1, rfl, rfl, q⟩
/-- isinstance(x, T), T a built-in type's name -/
def rIsB : List V → Hp → VK → Prop := fun xs H Q => ∃ (x : V) (n : String), xs = [x, .ty n] ∧ ∃ (t : String) (b : Bool), (∀ K : PySem.W.Frag, TyX K H x (.type t)) ∧ kitB t n = some b ∧ Q (.bl b) H
theorem call_isB : CallR X (.builtin "isinstance") rIsB := by
  intro pins s σ H xs us Q I r h
  obtain ⟨x, n, rfl, t, b, ty, e, q⟩ := h
  exact call_isi pins s σ H [x, .ty n] us Q I r ⟨x, .ty n, .type t, .type n, b, rfl, .ty n, ty _, kit_ty e, q⟩
end
/-! ### names of the operators' readings -/
abbrev rPlus : R2 := rI0 fun i j => .int (i + j)
abbrev rMinus : R2 := rI0 fun i j => .int (i - j)
abbrev rTimes : R2 := rI CMul fun i j => .int (i * j)
abbrev rDiv : R2 := rI CDiv fun i j => .int (i / j)
abbrev rDivW : R2 := rI CDivW fun i j => .int (i / j)
abbrev rMod : R2 := rI (fun _ j => 0 < j) fun i j => .int (i % j)
abbrev rPow : R2 := rI CPow fun i j => .int (i ^ j.toNat)
abbrev rShl : R2 := rI CPow fun i j => .int (i * 2 ^ j.toNat)
abbrev rShr : R2 := rI (fun _ j => 0 ≤ j) fun i j => .int (i / 2 ^ j.toNat)
abbrev rBitAnd : R2 := rI0 fun i j => .int (Builtin.bitAnd i j)
abbrev rBitOr : R2 := rI0 fun i j => .int (Builtin.bitOr i j)
abbrev rBitXor : R2 := rI0 fun i j => .int (Builtin.bitXor i j)
abbrev rLt : R2 := rI0 fun i j => .bl (decide (i < j))
abbrev rLe : R2 := rI0 fun i j => .bl (decide (i ≤ j))
abbrev rGtI : R2 := rI0 fun i j => .bl (decide (j < i))
abbrev rGeI : R2 := rI0 fun i j => .bl (decide (j ≤ i))
abbrev rShlW : R2 := rI CShl fun i j => .int (i * 2 ^ j.toNat)
def rDivmod : List V → Hp → VK → Prop := fun xs H Q => ∃ i j, xs = [.int i, .int j] ∧ CDivP i j ∧ ∀ p, H p = none → Q (.ref p) (upd H p (.tup [.int (i / j), .int (i % j)]))
abbrev rNeg : V → Hp → VK → Prop := rU fun i => .int (-i)
/-! ### steps of a reading -/
section
variable {D : Ends} {σ : L2.St} {H : Hp} {Q : VK} {Qb : Bool → Hp → Prop} {ta tb te : TE} {t u v : TS} {c d : TT} {i : Nat} {x y z : V} {r : R2} {K : PySem.W.Frag}
theorem k_seq (h : t { D with nx := u D } σ H) : tSeq t u D σ H := h
theorem k_next (h : D.nx σ H) : tNext D σ H := h
theorem k_asg (h : te σ H fun x H1 => D.nx (σ.set i (some x)) H1) : tAsg te (gName i) D σ H := h
theorem k_drop (h : te σ H fun _ H1 => D.nx σ H1) : tDrop te D σ H := h
theorem k_ret (h : te σ H D.rt) : tRet te D σ H := h
theorem k_retN (h : D.rt .non H) : tRetN D σ H := h
theorem k_if (h : c σ H fun b H1 => if b = true then t D σ H1 else u D σ H1) : tIfS c t u D σ H := h
theorem k_var (h : σ[i]? = some (some x)) (q : Q x H) : tVar i σ H Q := ⟨x, h, q⟩
theorem k_c (q : Q x H) : tC x σ H Q := q
theorem k_op (h : ta σ H fun x H1 => tb σ H1 fun y H2 => r x y H2 Q) : tOp r ta tb σ H Q := h
theorem k_un {r : V → Hp → VK → Prop} (h : ta σ H fun x H1 => r x H1 Q) : tUn r ta σ H Q := h
theorem k_I0 {g : Int → Int → V} {a b : Int} (q : Q (g a b) H) : rI0 g (.int a) (.int b) H Q := ⟨a, b, rfl, rfl, q⟩
theorem k_I {C : Int → Int → Prop} {g : Int → Int → V} {a b : Int} (hc : C a b) (q : Q (g a b) H) : rI C g (.int a) (.int b) H Q := ⟨a, b, rfl, rfl, hc, q⟩
theorem k_U {g : Int → V} {a : Int} (q : Q (g a) H) : rU g (.int a) H Q := ⟨a, rfl, q⟩
theorem k_and1 {a : Int} (q : Q (.int (a % 2)) H) : rAnd1 (.int a) (.int 1) H Q := ⟨a, rfl, rfl, q⟩
theorem k_eqI {a b : Int} (q : Q (.bl (decide (a = b))) H) : rEq (.int a) (.int b) H Q := ⟨rfl, by
  have e : decide ((V.int a : V) = V.int b) = decide (a = b) := by simp
  rw [e]; exact q⟩
theorem k_neI {a b : Int} (q : Q (.bl (!decide (a = b))) H) : rNe (.int a) (.int b) H Q := ⟨rfl, by
  have e : decide ((V.int a : V) = V.int b) = decide (a = b) := by simp
  rw [e]; exact q⟩
theorem k_eq (hs : scal x y = true) (q : Q (.bl (decide (x = y))) H) : rEq x y H Q := ⟨hs, q⟩
theorem k_ne (hs : scal x y = true) (q : Q (.bl (!decide (x = y))) H) : rNe x y H Q := ⟨hs, q⟩
theorem k_isN (q : Q (.bl (decide (x = .non))) H) : rIsN x .non H Q := ⟨rfl, q⟩
theorem k_notN (q : Q (.bl (!decide (x = .non))) H) : rNotN x .non H Q := ⟨rfl, q⟩
def BlK (Qb : Bool → Hp → Prop) (x : V) (H : Hp) : Prop := ∃ k, x = .bl k ∧ Qb k H
theorem k_test (h : te σ H (BlK Qb)) : tTest te σ H Qb := h
theorem k_tB (h : te σ H (BlK Qb)) : tB te σ H Qb := h
theorem k_bl {b : Bool} (q : Qb b H) : BlK Qb (V.bl b) H := ⟨b, rfl, q⟩
theorem k_and (h : c σ H fun b H1 => if b = true then d σ H1 Qb else Qb false H1) : tAnd c d σ H Qb := h
theorem k_or (h : c σ H fun b H1 => if b = true then Qb true H1 else d σ H1 Qb) : tOr c d σ H Qb := h
theorem k_not (h : c σ H fun b H1 => Qb (!b) H1) : tNot c σ H Qb := h
def ChainK (Q : VK) (u : Hp → Prop) (z : V) (H : Hp) : Prop := ∃ k, z = .bl k ∧ (if k = true then u H else Q (.bl false) H)
theorem k_chain {r' : R2} {tc : TE} (h : ta σ H fun x H1 => tb σ H1 fun y H2 => r x y H2 (ChainK Q fun H3 => tc σ H3 fun w H4 => r' y w H4 Q)) : tChain r r' ta tb tc σ H Q := h
theorem k_chainE {u : Hp → Prop} {b : Bool} (h : if b = true then u H else Q (.bl false) H) : ChainK Q u (.bl b) H := ⟨b, rfl, h⟩
theorem k_andV (h : ta σ H (BlK fun k H1 => if k = true then tb σ H1 Q else Q (.bl false) H1)) : tAndV ta tb σ H Q := h
theorem k_orV (h : ta σ H (BlK fun k H1 => if k = true then Q (.bl true) H1 else tb σ H1 Q)) : tOrV ta tb σ H Q := h
theorem k_notV (h : ta σ H (BlK fun k H1 => Q (.bl (!k)) H1)) : tNotV ta σ H Q := h
theorem k_ifE (h : c σ H fun b H1 => if b = true then ta σ H1 Q else tb σ H1 Q) : tIf c ta tb σ H Q := h
theorem k_cons {Qv : List V → Hp → Prop} {tr : TA} (h : ta σ H fun x H1 => tr σ H1 fun xs H2 => Qv (x :: xs) H2) : tCons ta tr σ H Qv := h
theorem k_nil {Qv : List V → Hp → Prop} (h : Qv [] H) : tNil σ H Qv := h
theorem k_call {sp : Sp} {dvs : List V} {E : XK} {tr : TA} (h : tr σ H fun vs H1 => sp (vs ++ dvs) H1 Q E) : tCall sp dvs E tr σ H Q := h
theorem k_cb {rc : List V → Hp → VK → Prop} {tr : TA} (h : tr σ H fun vs H1 => rc vs H1 Q) : tCB rc tr σ H Q := h
theorem k_tup {tr : TA} (h : tr σ H fun xs H1 => xs.length ≤ sizeLine ∧ ∀ p, H1 p = none → Q (.ref p) (upd H1 p (.tup xs))) : tTup tr σ H Q := h
theorem k_lst {tr : TA} (h : tr σ H fun xs H1 => xs.length ≤ sizeLine ∧ ∀ p, H1 p = none → Q (.ref p) (upd H1 p (.lst xs))) : tLst tr σ H Q := h
theorem k_disp {A : Prop} {xs : List V} (h : xs.length ≤ 1000) (q : A) : xs.length ≤ sizeLine ∧ A := ⟨Nat.le_trans h (by decide), q⟩
theorem k_aug {ti : TIp} (hx : σ[i]? = some (some x)) (h : te σ H fun y H1 => ti x y H1 fun z H2 => D.nx (σ.set i (some z)) H2) : tAug i te ti D σ H := ⟨x, hx, h⟩
theorem k_ipI {f : Int → Int → Int} {a b : Int} (q : Q (.int (f a b)) H) : ipI f (.int a) (.int b) H Q := ⟨a, b, rfl, rfl, q⟩
theorem k_sl {rs : V → Option Int → Option Int → Hp → VK → Prop} {tl th : TO} (h : te σ H fun x H1 => tl σ H1 fun l H2 => th σ H2 fun u H3 => rs x l u H3 Q) : tSl rs te tl th σ H Q := h
def PartK (Qo : Option Int → Hp → Prop) (x : V) (H : Hp) : Prop := ∃ j, x = .int j ∧ Qo (some j) H
theorem k_part {Qo : Option Int → Hp → Prop} (h : te σ H (PartK Qo)) : tPart te σ H Qo := h
theorem k_partE {Qo : Option Int → Hp → Prop} {a : Int} (h : Qo (some a) H) : PartK Qo (.int a) H := ⟨a, rfl, h⟩
theorem k_noPart {Qo : Option Int → Hp → Prop} (h : Qo none H) : tNoPart σ H Qo := h
theorem k_bm {T : String} {rm : V → List V → Hp → VK → Prop} {tr : TA} (h : te σ H fun x H1 => tyV K T x H1 ∧ tr σ H1 fun xs H2 => rm x xs H2 Q) : tBM K T rm te tr σ H Q := h
theorem k_bm0 {T : String} {rm : V → List V → Hp → VK → Prop} (h : te σ H fun x H1 => tyV K T x H1 ∧ rm x [] H1 Q) : tBM0 K T rm te σ H Q := h
theorem k_app {l : Addr} {xs : List V} (h : H l = some (.lst xs)) (hl : xs.length < 100000) (q : Q .non (upd H l (.lst (xs ++ [y])))) : rAppend (.ref l) [y] H Q := ⟨l, xs, y, rfl, rfl, h, Nat.lt_of_lt_of_le hl (by decide), q⟩
theorem k_tyL {l : Addr} {xs : List V} {A : Prop} (h : SqL K H l xs) (q : A) : tyV K "list" (.ref l) H ∧ A := ⟨.inl ⟨rfl, _, h⟩, q⟩
theorem k_ixL {p : Addr} {xs : List V} {a : Int} (h : SqL K H p xs) (e : atI xs a = some x) (q : Q x H) : rIxL K (.ref p) (.int a) H Q := ⟨p, xs, a, x, rfl, rfl, h, e, q⟩
theorem k_ixT {p : Addr} {xs : List V} {a : Int} (h : SqT K H p xs) (e : atI xs a = some x) (q : Q x H) : rIxT K (.ref p) (.int a) H Q := ⟨p, xs, a, x, rfl, rfl, h, e, q⟩
theorem k_slL {p : Addr} {xs : List V} {lo hi : Option Int} (h : SqL K H p xs) (q : ∀ l, H l = none → Q (.ref l) (upd H l (.lst (cutV xs lo hi)))) : rSlL K (.ref p) lo hi H Q := ⟨p, xs, rfl, h, q⟩
def rLen (K : PySem.W.Frag) : List V → Hp → VK → Prop := fun xs H Q => ∃ p ys, xs = [.ref p] ∧ (SqL K H p ys ∨ SqT K H p ys) ∧ Q (.int ys.length) H
theorem call_lenK {X : Cx} : CallR X (.builtin "len") (rLen X.K) := call_len_seq
theorem k_lenL {p : Addr} {xs : List V} (h : SqL K H p xs) (q : Q (.int (xs.length : Int)) H) : rLen K [.ref p] H Q := ⟨p, xs, rfl, .inl h, q⟩
theorem k_lenT {p : Addr} {xs : List V} (h : SqT K H p xs) (q : Q (.int (xs.length : Int)) H) : rLen K [.ref p] H Q := ⟨p, xs, rfl, .inr h, q⟩
def rInsert : V → List V → Hp → VK → Prop := fun x vs H Q => ∃ (l : Addr) (xs : List V) (i : Int) (y : V), x = .ref l ∧ vs = [.int i, y] ∧ H l = some (.lst xs) ∧ xs.length < sizeLine ∧ 0 ≤ i ∧ i < 2 ^ 63 ∧ Q .non (upd H l (.lst (xs.take i.toNat ++ [y] ++ xs.drop i.toNat)))
theorem mt_insertK {X : Cx} : MtR X "list.insert" rInsert := mt_insert
theorem k_insert {l : Addr} {xs : List V} {i : Nat} (h : H l = some (.lst xs)) (hz : xs.length ≤ 100000) (hi : i ≤ 100000) (q : Q .non (upd H l (.lst (xs.take i ++ [y] ++ xs.drop i)))) : rInsert (.ref l) [.int (i : Int), y] H Q := ⟨l, xs, i, y, rfl, rfl, h, Nat.lt_of_le_of_lt hz (by decide), by omega, by omega, by rw [Int.toNat_natCast]; exact q⟩
theorem k_popAt {l : Addr} {xs : List V} {i : Nat} (h : H l = some (.lst xs)) (hi : i < xs.length) (hz : xs.length ≤ 100000) (e : xs[i]? = some y) (q : Q y (upd H l (.lst (xs.eraseIdx i)))) : rPopAt (.ref l) [.int (i : Int)] H Q := ⟨l, xs, i, i, y, rfl, rfl, h, by omega, by omega, by unfold PySem.seqIndex?; simp; omega, e, q⟩
theorem k_clear {l : Addr} {xs : List V} (h : H l = some (.lst xs)) (q : Q .non (upd H l (.lst []))) : rClear (.ref l) [] H Q := ⟨l, xs, rfl, rfl, h, q⟩
theorem k_extend {l b : Addr} {xs zs : List V} (h : H l = some (.lst xs)) (h2 : H b = some (.lst zs)) (hn : xs.length + zs.length ≤ 1000000) (q : Q .non (upd H l (.lst (xs ++ zs)))) : rExtend (.ref l) [.ref b] H Q := ⟨l, b, xs, zs, rfl, rfl, h, h2, Nat.le_trans hn (by decide), q⟩
theorem k_pop {l : Addr} {xs : List V} (h : H l = some (.lst (xs ++ [y]))) (q : Q y (upd H l (.lst xs))) : rPop (.ref l) [] H Q := ⟨l, xs ++ [y], y, rfl, rfl, h, by simp, by rw [List.dropLast_concat]; exact q⟩
def rInt1 : List V → Hp → VK → Prop := fun xs H Q => (∃ i, xs = [.int i] ∧ Q (.int i) H) ∨ ∃ k : Bool, xs = [.bl k] ∧ Q (.int (if k then 1 else 0)) H
theorem k_intB {k : Bool} (q : Q (.int (if k then 1 else 0)) H) : rInt1 [.bl k] H Q := .inr ⟨k, rfl, q⟩
def rTupOf (K : PySem.W.Frag) : List V → Hp → VK → Prop := fun xs H Q => ∃ p ys, xs = [.ref p] ∧ ((SqL K H p ys ∧ ∀ l, H l = none → Q (.ref l) (upd H l (.tup ys))) ∨ (SqT K H p ys ∧ Q (.ref p) H))
theorem call_tupK {X : Cx} : CallR X (.type "tuple") (rTupOf X.K) := call_tuple_of
theorem k_tupL {p : Addr} {xs : List V} (h : SqL K H p xs) (q : ∀ l, H l = none → Q (.ref l) (upd H l (.tup xs))) : rTupOf K [.ref p] H Q := ⟨p, xs, rfl, .inl ⟨h, q⟩⟩
def rLenStr : List V → Hp → VK → Prop := fun xs H Q => ∃ z : Str, xs = [.str z] ∧ z.length ≤ sizeLine ∧ Q (.int z.length) H
def rAddStr : R2 := fun x y H Q => ∃ i j : Str, x = .str i ∧ y = .str j ∧ i.length + j.length ≤ sizeLine ∧ Q (.str (i ++ j)) H
def rMin2 : List V → Hp → VK → Prop := fun xs H Q => ∃ i j, xs = [.int i, .int j] ∧ Q (.int (if j < i then j else i)) H
def rMax2 : List V → Hp → VK → Prop := fun xs H Q => ∃ i j, xs = [.int i, .int j] ∧ Q (.int (if j > i then j else i)) H
theorem call_min2K {X : Cx} (hc : X.calm = true) : CallR X (.builtin "min") rMin2 := call_min2 hc
theorem call_max2K {X : Cx} (hc : X.calm = true) : CallR X (.builtin "max") rMax2 := call_max2 hc
theorem k_min2 {a b : Int} (q : Q (.int (if b < a then b else a)) H) : rMin2 [.int a, .int b] H Q := ⟨a, b, rfl, q⟩
theorem k_max2 {a b : Int} (q : Q (.int (if b > a then b else a)) H) : rMax2 [.int a, .int b] H Q := ⟨a, b, rfl, q⟩
def rListOf (K : PySem.W.Frag) : List V → Hp → VK → Prop := fun xs H Q => ∃ p ys, xs = [.ref p] ∧ (SqL K H p ys ∨ SqT K H p ys) ∧ ∀ l, H l = none → Q (.ref l) (upd H l (.lst ys))
theorem call_listK {X : Cx} : CallR X (.type "list") (rListOf X.K) := call_list_of
theorem k_listL {p : Addr} {xs : List V} (h : SqL K H p xs) (q : ∀ l, H l = none → Q (.ref l) (upd H l (.lst xs))) : rListOf K [.ref p] H Q := ⟨p, xs, rfl, .inl h, q⟩
theorem k_sum {p : Addr} {ns : List Int} (h : SqL K H p (ns.map V.int)) (q : Q (.int ns.sum) H) : rSum K [.ref p] H Q := ⟨p, ns, rfl, h, q⟩
theorem k_isInt {a : Int} (q : Q (.bl true) H) : rIsB [.int a, .ty "int"] H Q := ⟨.int a, "int", rfl, "int", true, fun _ => .base (.int a), by decide +kernel, q⟩
theorem k_isBool {a : Int} (q : Q (.bl false) H) : rIsB [.int a, .ty "bool"] H Q := ⟨.int a, "bool", rfl, "int", false, fun _ => .base (.int a), by decide +kernel, q⟩
theorem k_isBoolB {b : Bool} (q : Q (.bl true) H) : rIsB [.bl b, .ty "bool"] H Q := ⟨.bl b, "bool", rfl, "bool", true, fun _ => .base (.bl b), by decide +kernel, q⟩
theorem k_isIntB {b : Bool} (q : Q (.bl true) H) : rIsB [.bl b, .ty "int"] H Q := ⟨.bl b, "int", rfl, "bool", true, fun _ => .base (.bl b), by decide +kernel, q⟩
theorem k_isIntN (q : Q (.bl false) H) : rIsB [.non, .ty "int"] H Q := ⟨.non, "int", rfl, "NoneType", false, fun _ => .base .non, by decide +kernel, q⟩
theorem k_isList {a : Addr} {xs : List V} (h : H a = some (.lst xs)) (q : Q (.bl true) H) : rIsB [.ref a, .ty "list"] H Q := ⟨.ref a, "list", rfl, "list", true, fun _ => .base (.lst h), by decide +kernel, q⟩
theorem k_isTup {a : Addr} {xs : List V} (h : H a = some (.tup xs)) (q : Q (.bl true) H) : rIsB [.ref a, .ty "tuple"] H Q := ⟨.ref a, "tuple", rfl, "tuple", true, fun _ => .base (.tup h), by decide +kernel, q⟩
/-! ends -/
theorem k_nx {nx : L2.St → Hp → Prop} {rt : VK} {bk ct : L2.St → Hp → Prop} (h : nx σ H) : (Ends.mk nx rt bk ct).nx σ H := h
theorem k_rt {nx : L2.St → Hp → Prop} {rt : VK} {bk ct : L2.St → Hp → Prop} (h : rt x H) : (Ends.mk nx rt bk ct).rt x H := h
/-! ifs -/
theorem k_dec {p A B : Prop} [Decidable p] (h1 : p → A) (h2 : ¬ p → B) : if decide p = true then A else B := by
  by_cases h : p
  · rw [if_pos (decide_eq_true h)]; exact h1 h
  · rw [if_neg (fun z => h (of_decide_eq_true z))]; exact h2 h
theorem k_ndec {p A B : Prop} [Decidable p] (h1 : ¬ p → A) (h2 : p → B) : if (!decide p) = true then A else B := by
  by_cases h : p
  · rw [if_neg (by rw [decide_eq_true h]; decide)]; exact h2 h
  · rw [if_pos (by rw [decide_eq_false h]; decide)]; exact h1 h
theorem k_decT {p A B : Prop} [Decidable p] (h : p) (q : A) : if decide p = true then A else B := k_dec (fun _ => q) (fun z => absurd h z)
theorem k_decF {p A B : Prop} [Decidable p] (h : ¬ p) (q : B) : if decide p = true then A else B := k_dec (fun z => absurd z h) (fun _ => q)
theorem k_ndecT {p A B : Prop} [Decidable p] (h : p) (q : B) : if (!decide p) = true then A else B := k_ndec (fun z => absurd h z) (fun _ => q)
theorem k_ndecF {p A B : Prop} [Decidable p] (h : ¬ p) (q : A) : if (!decide p) = true then A else B := k_ndec (fun _ => q) (fun z => absurd z h)
theorem k_yes (h : Qb true H) : tYes σ H Qb := h
theorem k_T {A B : Prop} (q : A) : if true = true then A else B := iteT q
theorem k_F {A B : Prop} (q : B) : if false = true then A else B := iteF q
theorem k_nT {A B : Prop} (q : B) : if (!true) = true then A else B := iteF q
theorem k_nF {A B : Prop} (q : A) : if (!false) = true then A else B := iteT q
end
/-! ### items -/
theorem at_nat {α : Type} {xs : List α} {i : Nat} {x : α} (h : xs[i]? = some x) : atI xs (i : Int) = some x := atI_nat h
theorem at_int {α : Type} {xs : List α} {i : Int} {x : α} (h0 : 0 ≤ i) (h : xs[i.toNat]? = some x) : atI xs i = some x := by
  have e : i = ((i.toNat : Nat) : Int) := by omega
  rw [e]; exact atI_nat h
theorem mapint {ns : List Int} {i : Nat} {n : Int} (h : ns[i]? = some n) : (ns.map V.int)[i]? = some (.int n) := by
  rw [List.getElem?_map, h]; rfl
theorem of_mapint {ns : List Int} {i : Nat} {v : V} (h : (ns.map V.int)[i]? = some v) : ∃ n, ns[i]? = some n ∧ v = .int n := by
  rw [List.getElem?_map] at h
  cases e : ns[i]? with
  | none => rw [e] at h; cases h
  | some n => rw [e] at h; exact ⟨n, rfl, (Option.some.inj h).symm⟩
theorem cutTake (xs : List V) (n : Nat) : cutV xs none (some (n : Int)) = xs.take n := by
  unfold cutV
  rw [HT.sIx_none, HT.sIx_nat, List.drop_zero, Nat.sub_zero]
  rcases Nat.le_total n xs.length with h | h
  · rw [Nat.min_eq_left h]
  · rw [Nat.min_eq_right h, List.take_length, List.take_of_length_le h]
/-! ### steps on ends that are written out; loops -/
section
variable {σ : L2.St} {H : Hp} {Q rt : VK} {nx bk ct : L2.St → Hp → Prop} {t u tb : TS} {g : TG} {wi : TI} {c : TT} {i : Nat} {x : V} {K : PySem.W.Frag}
theorem m_seq (h : t (Ends.mk (u (Ends.mk nx rt bk ct)) rt bk ct) σ H) : tSeq t u (Ends.mk nx rt bk ct) σ H := h
theorem m_cut (Mid : L2.St → Hp → Prop) (h : t (Ends.mk Mid rt bk ct) σ H) (k : ∀ σ' H', Mid σ' H' → u (Ends.mk nx rt bk ct) σ' H') : Evl.tCut t u (Ends.mk nx rt bk ct) σ H := ⟨Mid, h, k⟩
theorem m_cut0 (h : t (Ends.mk (u (Ends.mk nx rt bk ct)) rt bk ct) σ H) : Evl.tCut t u (Ends.mk nx rt bk ct) σ H := ⟨_, h, fun _ _ x => x⟩
theorem m_bk (h : bk σ H) : tBreak (Ends.mk nx rt bk ct) σ H := h
theorem m_ct (h : ct σ H) : tCont (Ends.mk nx rt bk ct) σ H := h
theorem m_next (h : nx σ H) : tNext (Ends.mk nx rt bk ct) σ H := h
theorem m_gName {Qs : L2.St → Hp → Prop} (h : Qs (σ.set i (some x)) H) : gName i x σ H Qs := h
theorem m_call {sp : Sp} {E : XK} {tr : TA} (h : tr σ H fun vs H1 => sp vs H1 Q E) : tCall sp [] E tr σ H Q := by
  have e : (fun (vs : List V) (H1 : Hp) => sp (vs ++ []) H1 Q E) = fun vs H1 => sp vs H1 Q E := by
    funext vs H1; rw [List.append_nil]
  show tr σ H fun vs H1 => sp (vs ++ []) H1 Q E
  rw [e]; exact h
/-- a for loop over what J yields -/
def LoopOk (J : It) (g : TG) (tb : TS) (nx : L2.St → Hp → Prop) (rt : VK) (σ : L2.St) (H : Hp) : Prop :=
  ∃ W : Nat → Nat → L2.St → Hp → Prop, (∃ m, W 0 m σ H) ∧ ∀ i m σ H, W i m σ H →
  (J.stop i H ∧ nx σ H) ∨ (J.go i H ∧ ∃ N : L2.St → Hp → Prop, (∀ σ' H', N σ' H' → ∃ m', m' < m ∧ W (i + 1) m' σ' H') ∧ ∀ x H', J.yld i H x H' → g x σ H' fun σ2 H2 => tb (Ends.mk N rt nx N) σ2 H2)
theorem m_for (h : wi σ H fun J H1 => LoopOk J g tb nx rt σ H1) : tFor wi g tb (Ends.mk nx rt bk ct) σ H := h
def Rng1K (R : It → Hp → Prop) (vs : List V) (H : Hp) : Prop := ∃ j : Int, vs = [.int j] ∧ -(2 ^ 62) ≤ j ∧ j < 2 ^ 62 ∧ R (Itr 0 j.toNat) H
theorem m_rng1 {ta : TA} {R : It → Hp → Prop} (h : ta σ H (Rng1K R)) : iRng1 ta σ H R := h
theorem m_rng1e {R : It → Hp → Prop} {a : Int} (h1 : -(2 ^ 62) ≤ a ∧ a < 2 ^ 62) (h : R (Itr 0 a.toNat) H) : Rng1K R [V.int a] H := ⟨a, rfl, h1.1, h1.2, h⟩
theorem m_rng1n {R : It → Hp → Prop} {a : Nat} (h1 : (a : Int) < 2 ^ 62) (h : R (Itr 0 a) H) : Rng1K R [V.int (a : Int)] H := ⟨a, rfl, by omega, h1, by rw [Int.toNat_natCast]; exact h⟩
def Rng2K (R : It → Hp → Prop) (vs : List V) (H : Hp) : Prop := ∃ i j : Int, vs = [.int i, .int j] ∧ (-(2 ^ 62) ≤ i ∧ i < 2 ^ 62 ∧ -(2 ^ 62) ≤ j ∧ j < 2 ^ 62) ∧ R (Itr i (j - i).toNat) H
theorem m_rng2 {ta : TA} {R : It → Hp → Prop} (h : ta σ H (Rng2K R)) : iRng2 ta σ H R := h
theorem m_rng2e {R : It → Hp → Prop} {a b : Int} (h1 : -(2 ^ 62) ≤ a ∧ a < 2 ^ 62 ∧ -(2 ^ 62) ≤ b ∧ b < 2 ^ 62) (h : R (Itr a (b - a).toNat) H) : Rng2K R [V.int a, V.int b] H := ⟨a, b, rfl, h1, h⟩
def ListK (K : PySem.W.Frag) (R : It → Hp → Prop) (x : V) (H : Hp) : Prop := ∃ a, x = .ref a ∧ (∃ xs, SqL K H a xs) ∧ R (Itl K a) H
theorem m_iL {tl : TE} {R : It → Hp → Prop} (h : tl σ H (ListK K R)) : iList K tl σ H R := h
theorem m_iLe {R : It → Hp → Prop} {a : Addr} {xs : List V} (hx : SqL K H a xs) (h : R (Itl K a) H) : ListK K R (V.ref a) H := ⟨a, rfl, ⟨xs, hx⟩, h⟩
def TupK (K : PySem.W.Frag) (R : It → Hp → Prop) (x : V) (H : Hp) : Prop := ∃ a, x = .ref a ∧ (∃ xs, SqT K H a xs) ∧ R (Itt K a) H
theorem m_iT {tl : TE} {R : It → Hp → Prop} (h : tl σ H (TupK K R)) : iTup K tl σ H R := h
theorem m_iTe {R : It → Hp → Prop} {a : Addr} {xs : List V} (hx : SqT K H a xs) (h : R (Itt K a) H) : TupK K R (V.ref a) H := ⟨a, rfl, ⟨xs, hx⟩, h⟩
def iSeq (K : PySem.W.Frag) (tl : TE) : TI := fun σ H R => iList K tl σ H R ∨ iTup K tl σ H R
theorem m_seqL {tl : TE} {R : It → Hp → Prop} (h : tl σ H (ListK K R)) : iSeq K tl σ H R := .inl h
theorem m_seqT {tl : TE} {R : It → Hp → Prop} (h : tl σ H (TupK K R)) : iSeq K tl σ H R := .inr h
theorem pi_seq {X : Cx} {tg l : Expr} {tl : TE} (hl : PE X l tl) : PI X tg l (iSeq X.K tl) := ⟨fun pins s σ H R I h => h.elim (fun h => (pi_list hl).run pins s σ H R I h) fun h => (pi_tup hl).run pins s σ H R I h⟩
theorem loop_range {lo : Int} {n : Nat} (Pv : Nat → L2.St → Hp → Prop) (h0 : Pv 0 σ H)
    (hs : ∀ i σ H, i < n → Pv i σ H → g (.int (lo + i)) σ H fun σ2 H2 => tb (Ends.mk (Pv (i + 1)) rt nx (Pv (i + 1))) σ2 H2) (hd : ∀ σ H, Pv n σ H → nx σ H) : LoopOk (Itr lo n) g tb nx rt σ H :=
  for_range (D := Ends.mk nx rt nx nx) Pv h0 hs hd
theorem loop_range0 {n : Nat} (Pv : Nat → L2.St → Hp → Prop) (h0 : Pv 0 σ H)
    (hs : ∀ (i : Nat) σ H, i < n → Pv i σ H → g (.int (i : Int)) σ H fun σ2 H2 => tb (Ends.mk (Pv (i + 1)) rt nx (Pv (i + 1))) σ2 H2) (hd : ∀ σ H, Pv n σ H → nx σ H) : LoopOk (Itr 0 n) g tb nx rt σ H :=
  loop_range Pv h0 (fun i σ H hi p => by rw [Int.zero_add]; exact hs i σ H hi p) hd
theorem loop_list {a : Addr} {xs : List V} (Pv : Nat → L2.St → Hp → Prop) (h0 : Pv 0 σ H) (hl : ∀ i σ H, i ≤ xs.length → Pv i σ H → SqL K H a xs)
    (hs : ∀ i x σ H, xs[i]? = some x → Pv i σ H → g x σ H fun σ2 H2 => tb (Ends.mk (Pv (i + 1)) rt nx (Pv (i + 1))) σ2 H2) (hd : ∀ σ H, Pv xs.length σ H → nx σ H) : LoopOk (Itl K a) g tb nx rt σ H :=
  for_list (D := Ends.mk nx rt nx nx) Pv h0 hl hs hd
/-- over a list of ints -/
theorem loop_ints {a : Addr} {ns : List Int} (Pv : Nat → L2.St → Hp → Prop) (h0 : Pv 0 σ H) (hl : ∀ i σ H, Pv i σ H → SqL K H a (ns.map V.int))
    (hs : ∀ i n σ H, ns[i]? = some n → Pv i σ H → g (.int n) σ H fun σ2 H2 => tb (Ends.mk (Pv (i + 1)) rt nx (Pv (i + 1))) σ2 H2) (hd : ∀ σ H, Pv ns.length σ H → nx σ H) : LoopOk (Itl K a) g tb nx rt σ H :=
  loop_list (xs := ns.map V.int) Pv h0 (fun i σ H _ p => hl i σ H p) (fun i x σ H hx p => by
    obtain ⟨n, hn, rfl⟩ := of_mapint hx
    exact hs i n σ H hn p) (fun σ H p => hd σ H (by rw [List.length_map] at p; exact p))
theorem loop_tup {a : Addr} {xs : List V} (Pv : Nat → L2.St → Hp → Prop) (h0 : Pv 0 σ H) (hl : ∀ i σ H, i ≤ xs.length → Pv i σ H → SqT K H a xs)
    (hs : ∀ i x σ H, xs[i]? = some x → Pv i σ H → g x σ H fun σ2 H2 => tb (Ends.mk (Pv (i + 1)) rt nx (Pv (i + 1))) σ2 H2) (hd : ∀ σ H, Pv xs.length σ H → nx σ H) : LoopOk (Itt K a) g tb nx rt σ H :=
  for_tup (D := Ends.mk nx rt nx nx) Pv h0 hl hs hd
def WBody (W : Nat → L2.St → Hp → Prop) (m : Nat) (tb : TS) (rt : VK) (nx : L2.St → Hp → Prop) (σ : L2.St) (H : Hp) : Prop :=
  ∃ N : L2.St → Hp → Prop, (∀ σ' H', N σ' H' → ∃ m', m' < m ∧ W m' σ' H') ∧ tb (Ends.mk N rt nx N) σ H
theorem m_wbody {W : Nat → L2.St → Hp → Prop} {m : Nat} (h : tb (Ends.mk (fun σ' H' => ∃ m', m' < m ∧ W m' σ' H') rt nx (fun σ' H' => ∃ m', m' < m ∧ W m' σ' H')) σ H) : WBody W m tb rt nx σ H := ⟨_, fun _ _ h => h, h⟩
theorem loop_while (W : Nat → L2.St → Hp → Prop) (m : Nat) (h0 : W m σ H)
    (hs : ∀ m σ H, W m σ H → c σ H fun b H1 => if b = true then WBody W m tb rt nx σ H1 else nx σ H1) : tWhile c tb (Ends.mk nx rt bk ct) σ H := ⟨W, ⟨m, h0⟩, hs⟩
/-- a comprehension over what J yields -/
def CompOk (J : It) (g : TG) (tt : TT) (te : TE) (vs : List Nat) (σ : L2.St) (H1 : Hp) (Q : VK) : Prop :=
  ∀ D, H1 D = none → ∃ W : Nat → Nat → Hp → Prop, (∃ m, W 0 m (upd H1 D (.lst []))) ∧ ∀ i m H, W i m H →
  (J.stop i H ∧ Q (.ref D) H) ∨ (J.go i H ∧ ∃ Nx : Hp → Prop, (∀ H', Nx H' → ∃ m', m' < m ∧ W (i + 1) m' H') ∧ ∀ x H', J.yld i H x H' → g x (wipe σ vs) H' fun σ2 H2 => wipe σ2 vs = wipe σ vs ∧ tt σ2 H2 fun b H3 =>
    if b = true then te σ2 H3 fun y H4 => ∃ acc, H4 D = some (.lst acc) ∧ acc.length < sizeLine ∧ Nx (upd H4 D (.lst (acc ++ [y]))) else Nx H3)
theorem m_lc {tt : TT} {te : TE} {vs : List Nat} (h : wi σ H fun J H1 => CompOk J g tt te vs σ H1 Q) : tLc wi g tt te vs σ H Q := h
/-- over a range, no test, pure elements f i: the list made -/
theorem comp_rangeV {n : Nat} {te : TE} {j : Nat} {f : Nat → V} (hn : n ≤ 100000)
    (he : ∀ (k : Nat) (H2 : Hp) (Q2 : VK), k < n → Same H H2 → (∀ H3, Same H2 H3 → Q2 (f k) H3) → te ((wipe σ [j]).set j (some (.int (k : Int)))) H2 Q2)
    (q : ∀ p H', H p = none → Same H H' → H' p = some (.lst ((List.range n).map f)) → Q (.ref p) H') (hw : ∀ x, wipe ((wipe σ [j]).set j (some x)) [j] = wipe σ [j] := by intro _; rfl) : CompOk (Itr 0 n) (gName j) tYes te [j] σ H Q := by
  intro Dl hD
  refine lc_range (lo := 0) (n := n) (fun i H' => Same H H' ∧ H' Dl = some (.lst ((List.range i).map f))) ⟨same_new hD, upd_same⟩ (fun i H' hi p => ?_) (fun H' p => q Dl H' hD p.1 p.2)
  obtain ⟨p1, p2⟩ := p
  refine ⟨hw _, ?_⟩
  refine k_yes (iteT ?_)
  rw [Int.zero_add]
  refine he i H' _ hi p1 (fun H3 s3 => ⟨_, s3.get p2, ?_, Same.mut (p1.trans s3) hD ⟨_, s3.get p2⟩, ?_⟩)
  · rw [List.length_map, List.length_range]; exact Nat.lt_of_lt_of_le (Nat.lt_of_lt_of_le hi hn) (by decide)
  · rw [upd_same, List.range_succ, List.map_append]; rfl
/-- over a list, no test, pure elements -/
theorem comp_listV {a : Addr} {xs ys : List V} {te : TE} {j : Nat} (hl : SqL K H a xs) (hn : xs.length ≤ 100000) (hy : ys.length = xs.length)
    (he : ∀ (k : Nat) (x y : V) (H2 : Hp) (Q2 : VK), xs[k]? = some x → ys[k]? = some y → Same H H2 → (∀ H3, Same H2 H3 → Q2 y H3) → te ((wipe σ [j]).set j (some x)) H2 Q2)
    (q : ∀ p H', H p = none → Same H H' → H' p = some (.lst ys) → Q (.ref p) H') (hw : ∀ x, wipe ((wipe σ [j]).set j (some x)) [j] = wipe σ [j] := by intro _; rfl) : CompOk (Itl K a) (gName j) tYes te [j] σ H Q := by
  intro Dl hD
  refine lc_list (xs := xs) (fun i H' => Same H H' ∧ H' Dl = some (.lst (ys.take i))) ⟨same_new hD, upd_same⟩ (fun i H' _ p => p.1.seq hl) (fun i x H' hi p => ?_) (fun H' p => q Dl H' hD p.1 (by rw [p.2, ← hy, List.take_length]))
  obtain ⟨p1, p2⟩ := p
  refine ⟨hw _, ?_⟩
  refine k_yes (iteT ?_)
  have hlt : i < xs.length := (List.getElem?_eq_some_iff.mp hi).1
  obtain ⟨y, ey⟩ : ∃ y, ys[i]? = some y := ⟨ys[i]'(by omega), List.getElem?_eq_getElem (by omega)⟩
  refine he i x y H' _ hi ey p1 (fun H3 s3 => ⟨_, s3.get p2, ?_, Same.mut (p1.trans s3) hD ⟨_, s3.get p2⟩, ?_⟩)
  · rw [List.length_take]; exact Nat.lt_of_le_of_lt (Nat.min_le_right _ _) (Nat.lt_of_lt_of_le (show ys.length < 100001 by omega) (by decide))
  · rw [upd_same, List.take_add_one, ey]; rfl
/-- over a list, no test, elements of which something is known -/
theorem comp_listP {a : Addr} {xs : List V} {te : TE} {j : Nat} (P : Nat → V → Prop) (hl : SqL K H a xs) (hn : xs.length ≤ 100000)
    (he : ∀ (k : Nat) (x : V) (H2 : Hp) (Q2 : VK), xs[k]? = some x → Same H H2 → (∀ y H3, P k y → Same H2 H3 → Q2 y H3) → te ((wipe σ [j]).set j (some x)) H2 Q2)
    (q : ∀ p H' ys, H p = none → Same H H' → H' p = some (.lst ys) → ys.length = xs.length → (∀ k y, ys[k]? = some y → P k y) → Q (.ref p) H') (hw : ∀ x, wipe ((wipe σ [j]).set j (some x)) [j] = wipe σ [j] := by intro _; rfl) : CompOk (Itl K a) (gName j) tYes te [j] σ H Q := by
  intro Dl hD
  refine lc_list (xs := xs) (fun i H' => Same H H' ∧ ∃ ys, H' Dl = some (.lst ys) ∧ ys.length = i ∧ ∀ k y, ys[k]? = some y → P k y) ⟨same_new hD, [], upd_same, rfl, fun k y e => by simp at e⟩ (fun i H' _ p => p.1.seq hl) (fun i x H' hi p => ?_) (fun H' p => ?_)
  · obtain ⟨p1, ys, p2, p3, p4⟩ := p
    refine ⟨hw _, ?_⟩
    refine k_yes (iteT ?_)
    have hlt : i < xs.length := (List.getElem?_eq_some_iff.mp hi).1
    refine he i x H' _ hi p1 (fun y H3 hy s3 => ⟨_, s3.get p2, by rw [p3]; exact Nat.lt_of_lt_of_le (Nat.lt_of_lt_of_le hlt hn) (by decide), Same.mut (p1.trans s3) hD ⟨_, s3.get p2⟩, ys ++ [y], upd_same, by rw [List.length_append, p3]; rfl, fun k z e => ?_⟩)
    rcases Nat.lt_or_ge k ys.length with w | w
    · rw [List.getElem?_append_left w] at e; exact p4 k z e
    · rw [List.getElem?_append_right w] at e
      obtain ⟨h1, h2⟩ := List.getElem?_eq_some_iff.mp e
      rw [List.length_singleton] at h1
      have hk : k = i := by omega
      have e2 : z = y := by
        rw [show k - ys.length = 0 by omega] at e
        exact (Option.some.inj e).symm
      rw [hk, e2]; exact hy
  · obtain ⟨p1, ys, p2, p3, p4⟩ := p
    exact q Dl H' ys hD p1 p2 p3 p4
end
/-! ### loops over any walk -/
section
variable {σ : L2.St} {H : Hp} {Q rt : VK} {nx bk ct : L2.St → Hp → Prop} {t u tb : TS} {g : TG} {i : Nat} {x : V} {K : PySem.W.Frag} {J : It} {n : Nat} {G : Hp → Prop} {Y : Nat → Hp → V → Hp → Prop}
theorem loop_walk (w : Walk J n G Y) (Pv : Nat → L2.St → Hp → Prop) (h0 : Pv 0 σ H) (hG : ∀ i σ H, Pv i σ H → G H)
    (hs : ∀ i x σ H H', i < n → Pv i σ H → Y i H x H' → g x σ H' fun σ2 H2 => tb (Ends.mk (Pv (i + 1)) rt nx (Pv (i + 1))) σ2 H2) (hd : ∀ σ H, Pv n σ H → nx σ H) : LoopOk J g tb nx rt σ H :=
  for_it (D := Ends.mk nx rt nx nx) w Pv h0 (fun i σ H _ p => hG i σ H p) hs hd
/-- a comprehension with a test: at each turn the item is dropped, or f i is kept -/
theorem comp_walkV {te : TE} {tt : TT} {j : Nat} {f : Nat → Option V} (w : Walk J n G Y) (hn : n ≤ 100000) (hG : ∀ H', Same H H' → G H')
    (he : ∀ (k : Nat) (x : V) (H1 H2 : Hp) (Qb : Bool → Hp → Prop), k < n → Same H H1 → Y k H1 x H2 → (∀ b H3, Same H1 H3 → (b = true → ∀ Q2 : VK, ∀ H4, Same H3 H4 → ∃ y, f k = some y ∧ ((∀ H5, Same H4 H5 → Q2 y H5) → te ((wipe σ [j]).set j (some x)) H4 Q2)) → (b = false → f k = none) → Qb b H3) → tt ((wipe σ [j]).set j (some x)) H2 Qb)
    (q : ∀ p H', H p = none → Same H H' → H' p = some (.lst ((List.range n).filterMap f)) → Q (.ref p) H') (hw : ∀ x, wipe ((wipe σ [j]).set j (some x)) [j] = wipe σ [j] := by intro _; rfl) : CompOk J (gName j) tt te [j] σ H Q := by
  intro Dl hD
  refine lc_it w (fun i H' => Same H H' ∧ H' Dl = some (.lst ((List.range i).filterMap f))) ⟨same_new hD, upd_same⟩ (fun i H' _ p => hG H' p.1) (fun i x H' H'' hi p hy => ?_) (fun H' p => q Dl H' hD p.1 p.2)
  obtain ⟨p1, p2⟩ := p
  refine ⟨hw _, he i x H' H'' _ hi p1 hy (fun b H3 s3 hb1 hb0 => ?_)⟩
  have hl : ((List.range i).filterMap f).length < sizeLine := Nat.lt_of_le_of_lt (List.length_filterMap_le f (List.range i)) (by rw [List.length_range]; exact Nat.lt_of_lt_of_le (Nat.lt_of_lt_of_le hi hn) (by decide))
  cases b with
  | true =>
    refine iteT ?_
    obtain ⟨y, ey, go⟩ := hb1 rfl (fun y H4 => ∃ acc, H4 Dl = some (.lst acc) ∧ acc.length < sizeLine ∧ Same H (upd H4 Dl (.lst (acc ++ [y]))) ∧ upd H4 Dl (.lst (acc ++ [y])) Dl = some (.lst ((List.range (i + 1)).filterMap f))) H3 (Same.refl _)
    refine go fun H5 s5 => ⟨_, s5.get (s3.get p2), hl, Same.mut ((p1.trans s3).trans s5) hD ⟨_, s5.get (s3.get p2)⟩, ?_⟩
    rw [upd_same, List.range_succ, List.filterMap_append]
    show _ = some (HO.lst (_ ++ List.filterMap f [i]))
    rw [List.filterMap_cons, ey]; rfl
  | false =>
    refine iteF ⟨p1.trans s3, ?_⟩
    rw [List.range_succ, List.filterMap_append]
    rw [show List.filterMap f [i] = [] by rw [List.filterMap_cons, hb0 rfl]; rfl, List.append_nil]
    exact s3.get p2
theorem k_rev {a : Addr} {xs : List V} {ta : TA} {R : It → Hp → Prop} (h : ta σ H fun vs H1 => ∃ (a : Addr) (xs : List V), vs = [.ref a] ∧ SqL K H1 a xs ∧ R (Itv K a xs.length) H1) : iRev K ta σ H R := h
def RevK (K : PySem.W.Frag) (R : It → Hp → Prop) (vs : List V) (H : Hp) : Prop := ∃ (a : Addr) (xs : List V), vs = [.ref a] ∧ SqL K H a xs ∧ R (Itv K a xs.length) H
theorem m_rev {ta : TA} {R : It → Hp → Prop} (h : ta σ H (RevK K R)) : iRev K ta σ H R := h
theorem m_revE {a : Addr} {xs : List V} {R : It → Hp → Prop} (hx : SqL K H a xs) (h : R (Itv K a xs.length) H) : RevK K R [.ref a] H := ⟨a, xs, rfl, hx, h⟩
def EnumK (K : PySem.W.Frag) (R : It → Hp → Prop) (vs : List V) (H : Hp) : Prop := ∃ (a : Addr) (xs : List V), vs = [.ref a] ∧ SqL K H a xs ∧ R (Ite K a) H
theorem m_enum {ta : TA} {R : It → Hp → Prop} (h : ta σ H (EnumK K R)) : iEnum K ta σ H R := h
theorem m_enumE {a : Addr} {xs : List V} {R : It → Hp → Prop} (hx : SqL K H a xs) (h : R (Ite K a) H) : EnumK K R [.ref a] H := ⟨a, xs, rfl, hx, h⟩
def ZipK (K : PySem.W.Frag) (R : It → Hp → Prop) (vs : List V) (H : Hp) : Prop := ∃ a b xs ys, vs = [.ref a, .ref b] ∧ SqL K H a xs ∧ SqL K H b ys ∧ R (Itz K a b) H
theorem m_zip {ta : TA} {R : It → Hp → Prop} (h : ta σ H (ZipK K R)) : iZip K ta σ H R := h
theorem m_zipE {a b : Addr} {xs ys : List V} {R : It → Hp → Prop} (hx : SqL K H a xs) (hy : SqL K H b ys) (h : R (Itz K a b) H) : ZipK K R [.ref a, .ref b] H := ⟨a, b, xs, ys, rfl, hx, hy, h⟩
def RevLK (K : PySem.W.Frag) (Q : VK) (x : V) (H : Hp) : Prop := ∃ a xs, x = .ref a ∧ SqL K H a xs ∧ ∀ p, H p = none → Q (.ref p) (upd H p (.lst xs.reverse))
theorem m_revL {te : TE} (h : te σ H (RevLK K Q)) : tRevL K te σ H Q := h
theorem m_revLE {a : Addr} {xs : List V} (hx : SqL K H a xs) (q : ∀ p, H p = none → Q (.ref p) (upd H p (.lst xs.reverse))) : RevLK K Q (.ref a) H := ⟨a, xs, rfl, hx, q⟩
def Rng3K (R : It → Hp → Prop) (vs : List V) (H : Hp) : Prop := ∃ i j c n, vs = [.int i, .int j, .int c] ∧ RgC i j c n ∧ R (Itc i c n) H
theorem m_rng3 {ta : TA} {R : It → Hp → Prop} (h : ta σ H (Rng3K R)) : iRng3 ta σ H R := h
theorem m_rng3e {R : It → Hp → Prop} {a b c : Int} {n : Nat} (h1 : RgC a b c n) (h : R (Itc a c n) H) : Rng3K R [V.int a, V.int b, V.int c] H := ⟨a, b, c, n, rfl, h1, h⟩
/-- targets that are pairs -/
def GTupK (K : PySem.W.Frag) (n : Nat) (tg : TGs) (Qs : L2.St → Hp → Prop) (x : V) (σ : L2.St) (H : Hp) : Prop := ∃ a xs, x = .ref a ∧ SqT K H a xs ∧ xs.length = n ∧ tg xs σ H Qs
theorem m_gTup {tg : TGs} {Qs : L2.St → Hp → Prop} {a : Addr} {xs : List V} (hx : SqT K H a xs) (hn : xs.length = n) (h : tg xs σ H Qs) : gTup K n tg (.ref a) σ H Qs := ⟨a, xs, rfl, hx, hn, h⟩
theorem m_gCons {t1 : TG} {ts : TGs} {Qs : L2.St → Hp → Prop} {xs : List V} (h : t1 x σ H fun σ' H' => ts xs σ' H' Qs) : gCons t1 ts (x :: xs) σ H Qs := ⟨x, xs, rfl, h⟩
theorem m_gNil {Qs : L2.St → Hp → Prop} (h : Qs σ H) : gNil [] σ H Qs := ⟨rfl, h⟩
theorem m_asg {te : TE} (h : te σ H fun x H1 => g x σ H1 nx) : tAsg te g (Ends.mk nx rt bk ct) σ H := h
theorem k_rep {Q : VK} {l : Addr} {xs : List V} {n : Nat} (h : H l = some (.lst xs)) (hn : xs.length * n ≤ 1000000) (hn2 : n ≤ 1000000) (q : ∀ p, H p = none → Q (.ref p) (upd H p (.lst (List.replicate n xs).flatten))) : rRep (.ref l) (.int (n : Int)) H Q :=
  ⟨l, n, xs, rfl, rfl, h, by omega, by omega, by rw [Int.toNat_natCast]; exact Nat.le_trans hn (by decide), by rw [Int.toNat_natCast]; exact q⟩
theorem k_cat {Q : VK} {l b : Addr} {xs zs : List V} (h1 : H l = some (.lst xs)) (h2 : H b = some (.lst zs)) (hn : xs.length + zs.length ≤ 1000000) (q : ∀ p, H p = none → Q (.ref p) (upd H p (.lst (xs ++ zs)))) : rCat (.ref l) (.ref b) H Q :=
  ⟨l, b, xs, zs, rfl, rfl, h1, h2, Nat.le_trans hn (by decide), q⟩
theorem rep_one (x : V) (n : Nat) : (List.replicate n [x]).flatten = List.replicate n x := by
  induction n with
  | zero => rfl
  | succ n ih => rw [List.replicate_succ, List.flatten_cons, ih]; rfl
theorem m_gSub {to ti : TE} {ts : TSet} {Qs : L2.St → Hp → Prop} (h : to σ H fun o H1 => ti σ H1 fun i H2 => ts o i x H2 fun H3 => Qs σ H3) : gSub to ti ts x σ H Qs := h
theorem m_setL {p : Addr} {xs : List V} {k : Int} {j : Nat} {y : V} {Qh : Hp → Prop} (h : H p = some (.lst xs)) (hj : ixN xs.length k = some j) (q : Qh (upd H p (.lst (xs.set j y)))) : rSetL (.ref p) (.int k) y H Qh := ⟨p, xs, k, j, rfl, rfl, h, hj, q⟩
theorem ixN_nat {n : Nat} {k : Int} (h0 : 0 ≤ k) (h1 : k < n) : ixN n k = some k.toNat := by
  unfold ixN; rw [if_pos h0, if_pos h1]
def ParK (nx : L2.St → Hp → Prop) (i j : Nat) (σ : L2.St) (vs : List V) (H : Hp) : Prop := ∃ v w, vs = [v, w] ∧ nx ((σ.set i (some v)).set j (some w)) H
theorem m_par {i j : Nat} {ta : TA} (h : ta σ H (ParK nx i j σ)) : tPar i j ta (Ends.mk nx rt bk ct) σ H := h
theorem m_parE {i j : Nat} {a b : V} (h : nx ((σ.set i (some a)).set j (some b)) H) : ParK nx i j σ [a, b] H := ⟨a, b, rfl, h⟩
theorem k_divmod {Q : VK} {a b : Int} (h : CDivP a b) (q : ∀ p, H p = none → Q (.ref p) (upd H p (.tup [.int (a / b), .int (a % b)]))) : rDivmod [.int a, .int b] H Q := ⟨a, b, rfl, h, q⟩
end
/-! ### what a comprehension with a test leaves -/
theorem fm_head {α : Type} {f : Nat → Option α} : ∀ {n : Nat} {y : α}, ((List.range n).filterMap f)[0]? = some y → ∃ i, i < n ∧ f i = some y ∧ ∀ j, j < i → f j = none
  | 0, y, h => by simp at h
  | n + 1, y, h => by
    rw [List.range_succ, List.filterMap_append] at h
    cases e : (List.range n).filterMap f with
    | cons z zs =>
      rw [e] at h
      have h' : ((List.range n).filterMap f)[0]? = some y := by rw [e]; simpa using h
      obtain ⟨i, h1, h2, h3⟩ := fm_head h'
      exact ⟨i, by omega, h2, h3⟩
    | nil =>
      rw [e, List.nil_append] at h
      have none_all : ∀ j, j < n → f j = none := fun j hj => List.filterMap_eq_nil_iff.mp e j (List.mem_range.mpr hj)
      cases q : f n with
      | none => rw [List.filterMap_cons, q] at h; simp at h
      | some z =>
        rw [List.filterMap_cons, q] at h
        have : z = y := by simpa using h
        subst this
        exact ⟨n, by omega, q, none_all⟩
theorem fm_last {α : Type} {f : Nat → Option α} : ∀ {n : Nat} {y : α} {ys : List α}, (List.range n).filterMap f = ys ++ [y] → ∃ i, i < n ∧ f i = some y ∧ ∀ j, i < j → j < n → f j = none
  | 0, y, ys, h => by simp at h
  | n + 1, y, ys, h => by
    rw [List.range_succ, List.filterMap_append] at h
    cases q : f n with
    | none =>
      rw [show List.filterMap f [n] = [] by rw [List.filterMap_cons, q]; rfl, List.append_nil] at h
      obtain ⟨i, h1, h2, h3⟩ := fm_last h
      refine ⟨i, by omega, h2, fun j h4 h5 => ?_⟩
      rcases Nat.lt_or_ge j n with h6 | h6
      · exact h3 j h4 h6
      · have : j = n := by omega
        subst this; exact q
    | some z =>
      rw [show List.filterMap f [n] = [z] by rw [List.filterMap_cons, q]; rfl] at h
      have e := List.append_inj_right' h rfl
      injection e with e
      subst e
      exact ⟨n, by omega, q, fun j h4 h5 => by omega⟩
theorem fm_nil {α : Type} {f : Nat → Option α} {n : Nat} (h : (List.range n).filterMap f = []) : ∀ j, j < n → f j = none := fun j hj => List.filterMap_eq_nil_iff.mp h j (List.mem_range.mpr hj)
theorem fm_id {α : Type} (l : List α) {n : Nat} (hn : n = l.length) : (List.range n).filterMap (fun k => l[k]?) = l := by
  subst hn
  have h : ∀ n, n ≤ l.length → (List.range n).filterMap (fun k => l[k]?) = l.take n := by
    intro n
    induction n with
    | zero => intro _; rfl
    | succ n ih =>
      intro hn
      rw [List.range_succ, List.filterMap_append, ih (by omega), List.take_add_one, List.getElem?_eq_getElem (show n < l.length by omega)]
      congr 1
      rw [List.filterMap_cons, List.getElem?_eq_getElem (show n < l.length by omega)]; rfl
  rw [h _ (Nat.le_refl _), List.take_length]
theorem snoc_of {α : Type} : ∀ {l : List α}, l ≠ [] → ∃ ys y, l = ys ++ [y]
  | [], h => absurd rfl h
  | a :: l, _ => ⟨(a :: l).dropLast, (a :: l).getLast (List.cons_ne_nil _ _), (List.dropLast_concat_getLast _).symm⟩
theorem cutPart (xs : List V) (a b : Nat) : cutV xs (some (a : Int)) (some (b : Int)) = (xs.take b).drop a := by
  unfold cutV
  rw [HT.sIx_nat, HT.sIx_nat, List.drop_take]
  rcases Nat.le_total a xs.length with h | h
  · rw [Nat.min_eq_left h]
    rcases Nat.le_total b xs.length with h2 | h2
    · rw [Nat.min_eq_left h2]
    · rw [Nat.min_eq_right h2, List.take_of_length_le (by rw [List.length_drop]; omega), List.take_of_length_le (by rw [List.length_drop]; omega)]
  · rw [Nat.min_eq_right h, List.drop_of_length_le (Nat.le_refl _), List.drop_of_length_le h]
    simp
/-- a part of a list of ints -/
theorem cut_ints (ns : List Int) (lo hi : Option Int) : ∃ cs : List Int, cutV (ns.map V.int) lo hi = cs.map V.int ∧ (∀ x ∈ cs, x ∈ ns) ∧ cs.length ≤ ns.length := by
  unfold cutV
  refine ⟨_, by rw [← List.map_drop, ← List.map_take], fun x h => List.mem_of_mem_drop (List.mem_of_mem_take h), by rw [List.length_take, List.length_drop]; omega⟩
theorem cutDrop (xs : List V) (a : Nat) : cutV xs (some (a : Int)) none = xs.drop a := by
  unfold cutV
  rw [HT.sIx_nat, HT.sIx_none]
  rcases Nat.le_total a xs.length with h | h
  · rw [Nat.min_eq_left h, List.take_of_length_le (by rw [List.length_drop]; omega)]
  · rw [Nat.min_eq_right h, List.drop_of_length_le (Nat.le_refl _), List.drop_of_length_le h]
    simp
/-! ### data at any depth -/
section
variable {H H' : Hp} {K : PySem.W.Frag}
theorem dpAll_ints : ∀ ns : List Int, DpAll K H (ns.map V.int) (ns.map PyData.int)
  | [] => .nil
  | n :: ns => .cons (.int n) (dpAll_ints ns)
theorem dpAll_bools : ∀ bs : List Bool, DpAll K H (bs.map V.bl) (bs.map PyData.bool)
  | [] => .nil
  | b :: bs => .cons (.bl b) (dpAll_bools bs)
theorem dp_ints {a : Addr} {ns : List Int} (h : SqL K H a (ns.map V.int)) : Dp K H (.ref a) (.list (ns.map PyData.int)) := .lst h (dpAll_ints ns)
theorem dp_intsT {a : Addr} {ns : List Int} (h : SqT K H a (ns.map V.int)) : Dp K H (.ref a) (.tuple (ns.map PyData.int)) := .tup h (dpAll_ints ns)
theorem eqvAll_ints : ∀ as bs : List Int, PyData.eqvAll (as.map PyData.int) (bs.map PyData.int) = decide (as = bs)
  | [], [] => by rw [List.map_nil]; unfold PyData.eqvAll; rfl
  | [], b :: bs => by rw [List.map_nil, List.map_cons]; unfold PyData.eqvAll; simp
  | a :: as, [] => by rw [List.map_nil, List.map_cons]; unfold PyData.eqvAll; simp
  | a :: as, b :: bs => by
    rw [List.map_cons, List.map_cons]; unfold PyData.eqvAll
    rw [eqvAll_ints as bs]
    unfold PyData.eqv
    by_cases h : a = b
    · subst h; by_cases h2 : as = bs
      · subst h2; simp
      · simp [h2]
    · simp [h]
theorem eqv_ints (as bs : List Int) : PyData.eqv (.list (as.map PyData.int)) (.list (bs.map PyData.int)) = decide (as = bs) := by
  unfold PyData.eqv; exact eqvAll_ints as bs
theorem eqv_intsT (as bs : List Int) : PyData.eqv (.tuple (as.map PyData.int)) (.tuple (bs.map PyData.int)) = decide (as = bs) := by
  unfold PyData.eqv; exact eqvAll_ints as bs
/-- laid: no dict, texts in order, at most so deep -/
def laid (n : Nat) (d : PyData) : Prop := d.canLay0 = true ∧ d.depth ≤ n
theorem laid_int {n : Nat} (i : Int) : laid n (.int i) := ⟨by simp [PyData.canLay0], by simp [PyData.depth]⟩
theorem laid_bool {n : Nat} (i : Bool) : laid n (.bool i) := ⟨by simp [PyData.canLay0], by simp [PyData.depth]⟩
theorem laid_none {n : Nat} : laid n .none := ⟨by simp [PyData.canLay0], by simp [PyData.depth]⟩
theorem laid_all {n : Nat} : ∀ ds : List PyData, (∀ d ∈ ds, laid n d) → PyData.canLayAll0 ds = true ∧ PyData.depthAll ds ≤ n
  | [], _ => ⟨by simp [PyData.canLayAll0], by simp [PyData.depthAll]⟩
  | d :: ds, h => by
    obtain ⟨h1, h2⟩ := h d List.mem_cons_self
    obtain ⟨h3, h4⟩ := laid_all ds fun x hx => h x (List.mem_cons_of_mem _ hx)
    exact ⟨by simp [PyData.canLayAll0, h1, h3], by simp only [PyData.depthAll]; omega⟩
theorem laid_list {n : Nat} {ds : List PyData} (h : ∀ d ∈ ds, laid n d) : laid (n + 1) (.list ds) := by
  obtain ⟨h1, h2⟩ := laid_all ds h
  exact ⟨by simp [PyData.canLay0, h1], by simp only [PyData.depth]; omega⟩
theorem laid_tup {n : Nat} {ds : List PyData} (h : ∀ d ∈ ds, laid n d) : laid (n + 1) (.tuple ds) := by
  obtain ⟨h1, h2⟩ := laid_all ds h
  exact ⟨by simp [PyData.canLay0, h1], by simp only [PyData.depth]; omega⟩
theorem laid_ints {n : Nat} (ns : List Int) : laid (n + 1) (.list (ns.map PyData.int)) := laid_list fun d hd => by
  obtain ⟨i, _, rfl⟩ := List.mem_map.mp hd
  exact laid_int i
theorem laid_intsT {n : Nat} (ns : List Int) : laid (n + 1) (.tuple (ns.map PyData.int)) := laid_tup fun d hd => by
  obtain ⟨i, _, rfl⟩ := List.mem_map.mp hd
  exact laid_int i
theorem laid_bools {n : Nat} (bs : List Bool) : laid (n + 1) (.list (bs.map PyData.bool)) := laid_list fun d hd => by
  obtain ⟨i, _, rfl⟩ := List.mem_map.mp hd
  exact laid_bool i
theorem laid_shaped {d : PyData} (h : laid 64 d) : SeqAt.shaped d = true := by
  obtain ⟨h1, h2⟩ := h
  unfold SeqAt.shaped
  rw [h1, decide_eq_true h2]; rfl
theorem k_eqD {Q : VK} {x y : V} {d e : PyData} (h1 : Dp K H x d) (h2 : Dp K H y e) (l1 : laid 64 d) (l2 : laid 64 e) (q : Q (.bl (PyData.eqv d e)) H) : rEqD K x y H Q :=
  ⟨d, e, h1, h2, laid_shaped l1, laid_shaped l2, q⟩
theorem k_neD {Q : VK} {x y : V} {d e : PyData} (h1 : Dp K H x d) (h2 : Dp K H y e) (l1 : laid 64 d) (l2 : laid 64 e) (q : Q (.bl (!PyData.eqv d e)) H) : rNeD K x y H Q :=
  ⟨d, e, h1, h2, laid_shaped l1, laid_shaped l2, q⟩
theorem k_eqL {Q : VK} {a b : Addr} {ns ms : List Int} (h1 : SqL K H a (ns.map V.int)) (h2 : SqL K H b (ms.map V.int)) (q : Q (.bl (decide (ns = ms))) H) : rEqD K (.ref a) (.ref b) H Q :=
  k_eqD (dp_ints h1) (dp_ints h2) (laid_ints ns) (laid_ints ms) (by rw [eqv_ints]; exact q)
theorem k_neL {Q : VK} {a b : Addr} {ns ms : List Int} (h1 : SqL K H a (ns.map V.int)) (h2 : SqL K H b (ms.map V.int)) (q : Q (.bl (!decide (ns = ms))) H) : rNeD K (.ref a) (.ref b) H Q :=
  k_neD (dp_ints h1) (dp_ints h2) (laid_ints ns) (laid_ints ms) (by rw [eqv_ints]; exact q)
end
/-- a row's tables: a number and a tuple of numbers -/
theorem eqv_row (n : Int) (as : List Int) : PyData.eqv (.tuple [.int n, .tuple (as.map PyData.int)]) (.tuple [.int n, .tuple (as.map PyData.int)]) = true := by
  unfold PyData.eqv PyData.eqvAll; unfold PyData.eqv PyData.eqvAll
  simp [eqv_intsT, PyData.eqvAll]
theorem dp_row {K : PySem.W.Frag} {H : Hp} {t a : Addr} {n : Int} {as : List Int} (h1 : SqT K H t [.int n, .ref a]) (h2 : SqT K H a (as.map V.int)) : Dp K H (.ref t) (.tuple [.int n, .tuple (as.map PyData.int)]) :=
  .tup h1 (.cons (.int n) (.cons (dp_intsT h2) .nil))
theorem laid_row (n : Int) (as : List Int) : laid 64 (.tuple [.int n, .tuple (as.map PyData.int)]) := laid_tup (n := 63) fun d hd => by
  simp only [List.mem_cons, List.not_mem_nil, or_false] at hd
  rcases hd with rfl | rfl
  · exact laid_int _
  · exact laid_intsT _
theorem k_eqRow {K : PySem.W.Frag} {H : Hp} {Q : VK} {t u a b : Addr} {n : Int} {as : List Int} (h1 : SqT K H t [.int n, .ref a]) (h2 : SqT K H a (as.map V.int)) (h3 : SqT K H u [.int n, .ref b]) (h4 : SqT K H b (as.map V.int)) (q : Q (.bl true) H) : rEqD K (.ref t) (.ref u) H Q :=
  k_eqD (dp_row h1 h2) (dp_row h3 h4) (laid_row n as) (laid_row n as) (by rw [eqv_row]; exact q)
theorem any_int (i : Int) : ∀ ns : List Int, ((ns.map PyData.int).any fun z => PyData.eqv z (.int i)) = decide (i ∈ ns)
  | [] => by simp
  | n :: ns => by
    rw [List.map_cons, List.any_cons, any_int i ns]
    unfold PyData.eqv
    by_cases h : n = i
    · subst h; simp
    · have h' : ¬ i = n := fun z => h z.symm
      simp [h, h']
theorem k_inL {K : PySem.W.Frag} {H : Hp} {Q : VK} {i : Int} {a : Addr} {ns : List Int} (h : SqL K H a (ns.map V.int)) (q : Q (.bl (decide (i ∈ ns))) H) : rInD K (.int i) (.ref a) H Q :=
  ⟨.int i, _, .int i, dp_ints h, laid_shaped (laid_int i), laid_shaped (laid_ints ns), by rw [any_int]; exact q⟩
theorem k_notInL {K : PySem.W.Frag} {H : Hp} {Q : VK} {i : Int} {a : Addr} {ns : List Int} (h : SqL K H a (ns.map V.int)) (q : Q (.bl (!decide (i ∈ ns))) H) : rNotInD K (.int i) (.ref a) H Q :=
  ⟨.int i, _, .int i, dp_ints h, laid_shaped (laid_int i), laid_shaped (laid_ints ns), by rw [any_int]; exact q⟩
section
variable {H : Hp} {K : PySem.W.Frag}
theorem eqvAll_bools : ∀ as bs : List Bool, PyData.eqvAll (as.map PyData.bool) (bs.map PyData.bool) = decide (as = bs)
  | [], [] => by rw [List.map_nil]; unfold PyData.eqvAll; rfl
  | [], b :: bs => by rw [List.map_nil, List.map_cons]; unfold PyData.eqvAll; simp
  | a :: as, [] => by rw [List.map_nil, List.map_cons]; unfold PyData.eqvAll; simp
  | a :: as, b :: bs => by
    rw [List.map_cons, List.map_cons]; unfold PyData.eqvAll
    rw [eqvAll_bools as bs]
    unfold PyData.eqv
    by_cases h : a = b
    · subst h; by_cases h2 : as = bs
      · subst h2; simp
      · simp [h2]
    · simp [h]
theorem eqv_bools (as bs : List Bool) : PyData.eqv (.list (as.map PyData.bool)) (.list (bs.map PyData.bool)) = decide (as = bs) := by
  unfold PyData.eqv; exact eqvAll_bools as bs
theorem dp_bools {a : Addr} {bs : List Bool} (h : SqL K H a (bs.map V.bl)) : Dp K H (.ref a) (.list (bs.map PyData.bool)) := .lst h (dpAll_bools bs)
theorem k_eqB {Q : VK} {a b : Addr} (ns ms : List Bool) (h1 : SqL K H a (ns.map V.bl)) (h2 : SqL K H b (ms.map V.bl)) (q : Q (.bl (decide (ns = ms))) H) : rEqD K (.ref a) (.ref b) H Q :=
  k_eqD (dp_bools h1) (dp_bools h2) (laid_bools ns) (laid_bools ms) (by rw [eqv_bools]; exact q)
end
theorem m_neB {H : Hp} {K : PySem.W.Frag} {Q : VK} {a b : Addr} (ns ms : List Bool) (h1 : SqL K H a (ns.map V.bl)) (h2 : SqL K H b (ms.map V.bl)) (q : Q (.bl (!decide (ns = ms))) H) : rNeD K (.ref a) (.ref b) H Q :=
  k_neD (dp_bools h1) (dp_bools h2) (laid_bools ns) (laid_bools ms) (by rw [eqv_bools]; exact q)
theorem room65 {k : Nat} {A : Around} (r : Room k A) : A.units + 65 < cLine := by have := r.un; omega
/-- list + list, whichever way they are known -/
def rCatK (K : PySem.W.Frag) : R2 := fun x y H Q => ∃ l b xs zs, x = .ref l ∧ y = .ref b ∧ SqL K H l xs ∧ SqL K H b zs ∧ xs.length + zs.length ≤ sizeLine ∧ ∀ p, H p = none → Q (.ref p) (upd H p (.lst (xs ++ zs)))
theorem op_catK {X : Cx} : OpR X (binaryOp .Add) (rCatK X.K) := by
  intro pins s σ H x y v u Q I rx ry h
  obtain ⟨l, b, xs, zs, rfl, rfl, hH, hB, hz, q⟩ := h
  cases rx
  cases ry
  obtain ⟨its, r, ⟨⟨cls, dd, data, sl⟩, n, ho, hc, hdd, hd⟩, hl⟩ := I.list hH
  obtain ⟨its2, r2, ⟨⟨cls2, dd2, data2, sl2⟩, n2, ho2, hc2, hdd2, hd2⟩, hl2⟩ := I.list hB
  simp only at hc hdd hd hc2 hdd2 hd2
  subst hc hdd hd hc2 hdd2 hd2
  have h1 := r.length
  have h2 := r2.length
  refine concat_meets ⟨_, ho, rfl⟩ ⟨_, ho2, rfl⟩ noFill_list_add seq_list_add PySem.F.slot_list_add PySem.F.entry_list_add (PySem.F.args_list_add_2 _ _) (list_addW l b its.toArray its2.toArray n n2 none none sl sl2 (by rw [List.size_toArray, List.size_toArray]; omega)) ⟨ho, ho2, ?_⟩
  have ea : its.toArray ++ its2.toArray = (its ++ its2).toArray := by simp
  rw [ea]
  exact ⟨.ref _, _, I.lnew (t' := s.toks) (r.append r2) (by rw [List.length_append]; omega), rfl, q _ I.fresh⟩
theorem k_catK {H : Hp} {K : PySem.W.Frag} {Q : VK} {l b : Addr} {xs zs : List V} (h1 : SqL K H l xs) (h2 : SqL K H b zs) (hn : xs.length + zs.length ≤ 1000000) (q : ∀ p, H p = none → Q (.ref p) (upd H p (.lst (xs ++ zs)))) : rCatK K (.ref l) (.ref b) H Q :=
  ⟨l, b, xs, zs, rfl, rfl, h1, h2, Nat.le_trans hn (by decide), q⟩
/-! ### len(set(xs)) -/
/-- how many unlike numbers -/
def unlike (ns : List Int) : Nat := (PyProof.Rows.firstMet (fun i => ns.getD i 0) ns.length).length
theorem unlike_le (ns : List Int) : unlike ns ≤ ns.length := PyProof.Rows.firstMet_length_le _ _
def tLenSet (K : PySem.W.Frag) (ta : TE) : TE := fun σ H Q => ta σ H fun x H1 => ∃ (l : Addr) (ns : List Int), x = .ref l ∧ SqL K H1 l (ns.map V.int) ∧ ns.length ≤ 4000 ∧ Q (.int (unlike ns : Nat)) H1
theorem intsAre_vals : ∀ {ns : List Int} {us : List Value}, Vals (ns.map V.int) us → PyProof.Rows.IntsAre us ns
  | [], _, .nil => .nil
  | n :: ns, _, .cons r t => by
    obtain ⟨k, rfl⟩ := r
    exact .cons n k (intsAre_vals t)
theorem pe_lenSet {X : Cx} {a : Expr} {ta : TE} {p p2 q pos : Pos} (hg : Gl X "len") (hm : X.mg "len" = none) (hg2 : Gl X "set") (hm2 : X.mg "set" = none) (ha : PE X a ta) (hc : X.calm = true := by rfl)
    (na : starEach [a] X.env = (false, eval a X.env) :: starEach [] X.env := by rfl) : PE X (.Call (.Name "len" p) [.Call (.Name "set" p2) [a] [] q] [] pos) (tLenSet X.K ta) := by
  refine ⟨fun pins s σ H Q I h => ?_⟩
  refine Call_ (ld_blt I hg hm boot_len ?_)
  refine PyProof.Rows.callWith_builtin1 (PyProof.Rows.args_cons ?_ rfl) rfl rfl
  refine Call_ (ld_blt I hg2 hm2 boot_set ?_)
  refine PyProof.Rows.callWith_type1 (PyProof.Rows.args_cons (thn (ha.run pins s σ H _ I h) fun v s1 ⟨x, H1, I1, r1, q1⟩ => PyProof.Rows.args_nil ?_) na) na rfl
  obtain ⟨l, ns, rfl, hq, hl, q1⟩ := q1
  cases r1
  obtain ⟨its, r, pl, hz⟩ := I1.list hq
  have hlen : its.toArray.size = ns.length := by rw [List.size_toArray, ← r.length, List.length_map]
  refine call_set_list (I1.ok.hd hc) pl.isList (by simpa using intsAre_vals r) (by rw [hlen]; unfold scanBound; omega) fun h' tk hS hk => ?_
  refine PyProof.Rows.args_nil ?_
  rw [hlen] at hS
  obtain ⟨o, es, ep, t, ho, hex, hd, _, _, _, hf, hn⟩ := hS
  have I2 : Inv X pins σ H1 { s1 with heap := h', toks := tk } := I1.kept fun b o e => hk b o (Heap.lt_size e) e
  have hu := unlike_le ns
  unfold unlike at hu q1
  exact call_len_set ho hex hd hf (by rw [hn] <;> omega) ⟨.int ((PyProof.Rows.firstMet (fun i => ns.getD i 0) ns.length).length : Nat), H1, I2.tok _, ⟨_, by rw [hn]⟩, q1⟩
section
variable {σ : L2.St} {H : Hp} {Q : VK} {K : PySem.W.Frag} {te : TE}
def LenSetK (K : PySem.W.Frag) (Q : VK) (x : V) (H : Hp) : Prop := ∃ (l : Addr) (ns : List Int), x = .ref l ∧ SqL K H l (ns.map V.int) ∧ ns.length ≤ 4000 ∧ Q (.int (unlike ns : Nat)) H
theorem m_lenSet (h : te σ H (LenSetK K Q)) : tLenSet K te σ H Q := h
theorem m_lenSetE {l : Addr} {ns : List Int} (hS : SqL K H l (ns.map V.int)) (hl : ns.length ≤ 4000) (q : Q (.int (unlike ns : Nat)) H) : LenSetK K Q (.ref l) H := ⟨l, ns, rfl, hS, hl, q⟩
end
/-! ### errors: raised, let through, caught -/
section
variable {X : Cx} {E : XK} {W : WX} {k j : Nat} {ps : List Str} {sp : Sp} {x : Str} {p pos : Pos} {e : Expr} {es : List Expr} {t : TA}
theorem passX (tk : Takes X (fun cls d _ H => E cls d H)) : Passes (L2.CX X.prog X.w) X E := passes_call tk fun _ _ _ _ h => h
/-- raise C('..') -/
def tRz (W : WX) (C : Addr) : TS := fun _ σ H => W (.ref C) none σ H
/-- what stands of the class x: it can be raised -/
structure ExF (K : PySem.W.Frag) (mg : Str → Option Value) (x : Str) : Prop where
  gl : mg x = some (.ref (He.ga K x))
  ex : PySem.W.excIn K (He.ga K x) He.veBase "ValueError.__new__" = true
  kp : PySem.W.keepIn K (.ref (He.ga K x)) = true
  sb : PySem.W.subIn K (.ref (He.ga K x)) (.type "BaseException") = some true
  ty : PySem.W.typeIn K (.ref (He.ga K x)) = some (.type "type")
theorem ps_rz {m : Str} {j : Nat} {p2 pos2 : Pos} (F : ExF X.K X.mg x) (tk : Takes X W) (hc : X.calm = true := by rfl) (hg : Gl X x := by rfl) (hdb : (x == ("__debug__" : Str)) = false := by decide) :
    PS X (.Raise (some (.Call (.Name x p) [.Constant (.str m) j p2] [] pos)) none pos2) (tRz W (He.ga X.K x)) :=
  ps_raise hc tk (pmk_own PySem.F.excBase_ValueError F.ex F.gl F.kp (raises_own F.sb F.ty) hg hdb)
theorem k_rz {D : Ends} {C : Addr} {σ : L2.St} {H : Hp} (h : W (.ref C) none σ H) : tRz W C D σ H := h
/-- a call within a try's body -/
theorem pe_callFS (F : Okf X.prog X.w X.K X.mg X.base (L2.CX X.prog X.w) k x ps sp) (hr : Room j X.A) (hk : k ≤ j) (hg : Gl X x) (tk : Takes X W)
    (ha : PA X (e :: es) t) (hdb : (x == ("__debug__" : Str)) = false := by decide) (he : starEach (e :: es) X.env = (false, eval e X.env) :: starEach es X.env := by rfl) (hpl : (backTo pos (starEach es X.env)).any (·.1) = false := by rfl) :
    PE X (.Call (.Name x p) (e :: es) [] pos) (tCallS sp (WE W) t) := by
  obtain ⟨fd, _, hb, ok⟩ := F.ex
  exact pe_callS ok (hr.mono hk) hg F.gl F.kp hb (fun σ => passAt tk σ) ha hdb he hpl
theorem m_callS {E : L2.St → XK} {σ : L2.St} {H : Hp} {Q : VK} (h : t σ H fun vs H1 => sp vs H1 Q (E σ)) : tCallS sp E t σ H Q := h
/-- try: .. except C as n | except C -/
def tTryAs (K : PySem.W.Frag) (c : Value) (i : Nat) (tb : WX → TS) (ts : Addr → Value → Option Addr → TS) (Wout : WX) : TS := fun D σ H => tb (wAs K c i ts Wout D) D σ H
def tTryOnly (K : PySem.W.Frag) (c : Value) (tb : WX → TS) (ts : Addr → Value → Option Addr → TS) (Wout : WX) : TS := fun D σ H => tb (wOnly K c ts Wout D) D σ H
section
variable {K : PySem.W.Frag} {c cls : Value} {d : Option Addr} {i : Nat} {tb : WX → TS} {ts : Addr → Value → Option Addr → TS} {Wout : WX} {σ : L2.St} {H : Hp} {rt : VK} {nx bk ct : L2.St → Hp → Prop}
theorem m_tryAs (h : tb (wAs K c i ts Wout (Ends.mk nx rt bk ct)) (Ends.mk nx rt bk ct) σ H) : tTryAs K c i tb ts Wout (Ends.mk nx rt bk ct) σ H := h
theorem m_tryOnly (h : tb (wOnly K c ts Wout (Ends.mk nx rt bk ct)) (Ends.mk nx rt bk ct) σ H) : tTryOnly K c tb ts Wout (Ends.mk nx rt bk ct) σ H := h
theorem m_caught (he : PySem.W.exmOne K cls c = some true) (h : ∀ a, H a = none → ts a cls d (Ends.mk (fun σ' H' => nx (σ'.set i none) H') rt (fun σ' H' => bk (σ'.set i none) H') (fun σ' H' => ct (σ'.set i none) H')) (σ.set i (some (.ref a))) H) :
    WE (wAs K c i ts Wout (Ends.mk nx rt bk ct)) σ cls d H := ⟨true, he, fun _ => h, fun z => Bool.noConfusion z⟩
theorem m_passed (he : PySem.W.exmOne K cls c = some false) (h : Wout cls d σ H) : WE (wAs K c i ts Wout (Ends.mk nx rt bk ct)) σ cls d H := ⟨false, he, fun z => Bool.noConfusion z, fun _ => h⟩
theorem m_caughtO (he : PySem.W.exmOne K cls c = some true) (h : ∀ a, H a = none → ts a cls d (Ends.mk nx rt bk ct) σ H) :
    WE (wOnly K c ts Wout (Ends.mk nx rt bk ct)) σ cls d H := ⟨true, he, fun _ => h, fun z => Bool.noConfusion z⟩
theorem m_passedO (he : PySem.W.exmOne K cls c = some false) (h : Wout cls d σ H) : WE (wOnly K c ts Wout (Ends.mk nx rt bk ct)) σ cls d H := ⟨false, he, fun z => Bool.noConfusion z, fun _ => h⟩
end
/-! ### several except clauses, each with a name -/
def endN (i : Nat) (D : Ends) : Ends := Ends.mk (fun τ G => D.nx (τ.set i none) G) D.rt (fun τ G => D.bk (τ.set i none) G) (fun τ G => D.ct (τ.set i none) G)
def wManyA (K : PySem.W.Frag) (Wout : WX) (D : Ends) : List (Value × Nat × (Addr → Value → Option Addr → TS)) → WX
  | [] => Wout
  | (c, i, ts) :: l => fun cls d τ G => ∃ b, PySem.W.exmOne K cls c = some b ∧ (b = true → ∀ x, G x = none → ts x cls d (endN i D) (τ.set i (some (.ref x))) G) ∧ (b = false → wManyA K Wout D l cls d τ G)
inductive HdsA (X : Cx) : List ExceptHandler → List (Value × Nat × (Addr → Value → Option Addr → TS)) → Prop
  | nil : HdsA X [] []
  | cons {y n : Str} {c : Value} {i : Nat} {ts : Addr → Value → Option Addr → TS} {st : Stmt} {sts : List Stmt} {q1 q2 : Pos} {hs : List ExceptHandler} {l : List (Value × Nat × (Addr → Value → Option Addr → TS))} (hi : X.N[i]? = some n) (hl : X.env.kindOf n = some .local) (hc : Names X y c)
      (hb : ∀ (x : Addr) (ob : Obj) (cls : Value) (d : Option Addr) (pn : List (Addr × Obj)), Zc cls d ob → (∃ vs, ob.data = .fields vs) → PSs (X.suite x ((x, ob) :: pn)) (st :: sts) (ts x cls d)) (r : HdsA X hs l) : HdsA X (.ExceptHandler (some (.Name y q1)) (some n) (st :: sts) q2 :: hs) ((c, i, ts) :: l)
theorem ps_tryManyA {X : Cx} {body : List Stmt} {h₀ : ExceptHandler} {hds : List ExceptHandler} {l : List (Value × Nat × (Addr → Value → Option Addr → TS))} {pos : Pos} {tb : WX → TS} {Wout : WX} (stk : X.stack = X.env :: X.outer) (lf : X.env.frame = some X.env.locals) (nd : X.N.Nodup) (tk : Takes X Wout)
    (hb : ∀ (W : WX) (pn : List (Addr × Obj)) (xe : Value → Shared → Prop), Takes (X.tr pn xe) W → PassesOwn (model X.prog X.w) X.A X.env xe → PSs (X.tr pn xe) body (tb W)) (hh : HdsA X (h₀ :: hds) l) : PS X (.Try body (h₀ :: hds) [] [] pos) (fun D τ G => tb (wManyA X.K Wout D l) D τ G) := by
  refine ⟨fun pins s τ G D I h => ?_⟩
  have ok0 := I.ok
  have fr0 : X.A.frames = some (X.env :: X.outer) := by rw [ok0.frames, stk]
  refine wpAny_Try_except (wpAny_mono ((hb (wManyA X.K Wout D l) (X.pn ++ pins) (fun e s₁ => wpAny (model X.prog X.w) X.A (noteFrame e X.env) (fun _ s₂ => wpAny (model X.prog X.w) X.A (setFlight e none) (fun _ s₃ => wpAny (model X.prog X.w) X.A (handleBy e X.env (h₀ :: hds)) (SP X pins D) X.xe s₃) X.xe s₂) X.xe s₁) (fun u s' xx => ?_) PassesOwn.looking).run [] s τ G D (I.toTry _) h) (fun f s1 hq => ?_) (fun e s1 he => he))
  · obtain ⟨x, B, si, pins2, τ1, G1, cls, d, rfl, j1, nb, up1, sk1, nx, eos, eag, wish⟩ := xx
    have j0 : Inv X pins τ1 G1 si := j1.ofTry ok0
    have sk2 : Sky B (X.env :: X.outer) x (Zc cls d) X.env.locals s'.heap := by rw [← stk]; exact sk1
    show wpAny (model X.prog X.w) X.A (noteFrame (.ref x) X.env) _ _ _; refine Sky.land Zc.steady fr0 lf sk2 fun h3 fl3 up3 => ?_
    have j3 : Inv X pins τ1 G1 { s' with heap := h3 } := j0.landed nb fl3.1 (up1.trans up3) eos eag
    obtain ⟨o3, vs3, ho3, hz3, hd3⟩ := fl3.there
    have nfr : x ∉ frs (X.env :: X.outer) := fun hm => by
      obtain ⟨_, o2, e2, hnf⟩ := fl3.2.2.1.mem hm; rw [ho3] at e2; cases e2; exact hnf _ hd3
    have nL : x ≠ X.env.locals := fun z => nfr (List.mem_filterMap.mpr ⟨X.env, List.mem_cons_self, by rw [lf, z]⟩)
    have nF : x ∉ X.fs := fun hm => by
      obtain ⟨e, he, q⟩ := List.mem_filterMap.mp hm; exact nfr (List.mem_filterMap.mpr ⟨e, List.mem_cons_of_mem _ he, q⟩)
    have suite3 := j3.suite ho3 hd3 nx nL nF
    have go : ∀ {hs' : List ExceptHandler} {l' : List (Value × Nat × (Addr → Value → Option Addr → TS))}, HdsA X hs' l' → wManyA X.K Wout D l' cls d τ1 G1 → wpAny (model X.prog X.w) X.A (handleBy (.ref x) X.env hs') (SP X pins D) X.xe { s' with heap := h3 } := by
      intro hs' l' hk
      induction hk with
      | nil =>
        intro wish
        refine wpAny_handleBy_nil ?_; obtain ⟨k1, k2, k3, oe, vs, tt, oT, ts', he, hz, hd, h1, hr⟩ := id fl3
        unfold PySem.passOn; refine wpAny_bind (wpAny_field he hd h1 ?_)
        rw [if_neg (show ¬ ((Value.ref tt == Value.none) = true) from by simp)]
        have fin : wpAny (model X.prog X.w) X.A (setFlight (.ref x) X.env.frame) (fun _ s4 => wpAny (model X.prog X.w) X.A (throw (.ref x) : Sem Flow) (SP X pins D) X.xe s4) X.xe { s' with heap := h3 } := by
          rw [lf]; refine HandSPX.setFlight_upZ fl3 fun h4 hh4 up4 => wpAny_throw (tk _ _ ?_)
          exact ⟨x, B, si, pins, τ1, G1, cls, d, rfl, j0, nb, (up1.trans up3).trans up4, .inr (.inr (by rw [stk]; exact hh4)), nx, eos, eag, wish⟩
        first | exact wpAny_bind (wpAny_pure (wpAny_bind fin)) | exact wpAny_bind fin
      | @cons y n c i ts st sts q1 q2 hs2 l2 hi hl hc hsu r ih =>
        intro wish
        obtain ⟨b, hb1, yes, no⟩ := wish
        refine wpAny_handleBy_cons (codeAny_handlers_test ?_) (by intro q; cases q); have lt : PySem.W.Looks (model X.prog X.w) h3 (typeOf (.ref x)) cls := fun A Q E s k q => wpAny_typeOf_ref (k _ _ ho3) (by rw [hz3.1]; exact q)
        have lm := PySem.W.exm_one (M := model X.prog X.w) (j3.kIn) lt hb1
        have test : ∀ {Q : Value → Shared → Prop} {E : Value → Shared → Prop}, Q c { s' with heap := h3 } → wpAny (model X.prog X.w) (X.A.mark (some (.ref x))) (eval (.Name y q1) X.env) Q E { s' with heap := h3 } := fun {Q E} q => by
          obtain ⟨hg, hdbg, hm | ⟨hm, hv, hnn⟩⟩ := hc
          · exact ld_glob (X := X.suite x ((x, o3) :: (X.pn ++ pins))) suite3 hg hm q hdbg
          · exact ld_blt (X := X.suite x ((x, o3) :: (X.pn ++ pins))) suite3 hg hm hv q hnn hdbg
        refine test (lm.here ?_)
        cases b with
        | true =>
          refine codeAny_handlers_suite_as (HandSPX.lands_againZ fl3 fun h4 fl4 up4 => ?_)
          have j4 : Inv X pins τ1 G1 { s' with heap := h4 } := j0.landed nb fl4.1 ((up1.trans up3).trans up4) eos eag
          obtain ⟨o4, vs4, ho4, hz4, hd4⟩ := fl4.there
          refine store_ok (X := X.suite x ((x, o4) :: (X.pn ++ pins))) (v := .ref x) (j4.suite ho4 hd4 nx nL nF) nd hi (.inl hl) rfl (fun s5 S5 => ?_) (.inr hl)
          refine wpAny_mono ((hsu x o4 cls d (X.pn ++ pins) hz4 ⟨_, hd4⟩).run [] s5 _ G1 _ S5 (yes rfl x nx)) (fun f s6 hq => ?_) (fun _ _ z => False.elim z)
          have fin : ∀ {τ6 : L2.St} {G6 : Hp} {Q : Shared → Prop}, Inv (X.suite x ((x, o4) :: (X.pn ++ pins))) [] τ6 G6 s6 → (∀ s7, Inv X pins (τ6.set i none) G6 s7 → Q s7) → wpAny (model X.prog X.w) X.A (do bindName X.env n .none; unbindBehindTheSuite X.env n q2) (fun _ s7 => Q s7) X.xe s6 := fun {τ6 G6 Q} S6 hq => gone_ok (S6.unsuite ok0) nd hi hl hq
          cases f with
          | next => obtain ⟨τ6, G6, S6, q6⟩ := hq; exact fin S6 fun s7 J7 => ⟨_, _, J7, q6⟩
          | brk => obtain ⟨τ6, G6, S6, q6⟩ := hq; exact fin S6 fun s7 J7 => ⟨_, _, J7, q6⟩
          | cont => obtain ⟨τ6, G6, S6, q6⟩ := hq; exact fin S6 fun s7 J7 => ⟨_, _, J7, q6⟩
          | ret u => obtain ⟨v6, τ6, G6, S6, r6, q6⟩ := hq; exact fin S6 fun s7 J7 => ⟨_, _, _, J7, r6, q6⟩
        | false => exact ih (no rfl)
    exact go hh wish
  · cases f with
    | next => obtain ⟨τ1, G1, j1, q⟩ := hq; exact wpAny_execs_nil ⟨τ1, G1, j1.ofTry ok0, q⟩
    | brk => obtain ⟨τ1, G1, j1, q⟩ := hq; exact ⟨τ1, G1, j1.ofTry ok0, q⟩
    | cont => obtain ⟨τ1, G1, j1, q⟩ := hq; exact ⟨τ1, G1, j1.ofTry ok0, q⟩
    | ret u => obtain ⟨v, τ1, G1, j1, r, q⟩ := hq; exact ⟨v, τ1, G1, j1.ofTry ok0, r, q⟩
def tTryM (K : PySem.W.Frag) (tb : WX → TS) (l : List (Value × Nat × (Addr → Value → Option Addr → TS))) (Wout : WX) : TS := fun D τ G => tb (wManyA K Wout D l) D τ G
section
variable {K : PySem.W.Frag} {c cls : Value} {d : Option Addr} {i : Nat} {tb : WX → TS} {ts : Addr → Value → Option Addr → TS} {Wout : WX} {σ : L2.St} {H : Hp} {rt : VK} {nx bk ct : L2.St → Hp → Prop} {l : List (Value × Nat × (Addr → Value → Option Addr → TS))}
theorem m_tryM (h : tb (wManyA K Wout (Ends.mk nx rt bk ct) l) (Ends.mk nx rt bk ct) σ H) : tTryM K tb l Wout (Ends.mk nx rt bk ct) σ H := h
theorem m_caughtM (he : PySem.W.exmOne K cls c = some true) (h : ∀ a, H a = none → ts a cls d (Ends.mk (fun σ' H' => nx (σ'.set i none) H') rt (fun σ' H' => bk (σ'.set i none) H') (fun σ' H' => ct (σ'.set i none) H')) (σ.set i (some (.ref a))) H) :
    WE (wManyA K Wout (Ends.mk nx rt bk ct) ((c, i, ts) :: l)) σ cls d H := ⟨true, he, fun _ => h, fun z => Bool.noConfusion z⟩
theorem m_nextM (he : PySem.W.exmOne K cls c = some false) (h : WE (wManyA K Wout (Ends.mk nx rt bk ct) l) σ cls d H) : WE (wManyA K Wout (Ends.mk nx rt bk ct) ((c, i, ts) :: l)) σ cls d H := ⟨false, he, fun z => Bool.noConfusion z, fun _ => h⟩
end
/-- isinstance(e, c), e the error that the suite holds -/
def rIsX (K : PySem.W.Frag) (cls : Value) (d : Option Addr) (a : Addr) : List V → Hp → VK → Prop := fun xs H Q => ∃ D, cls = .ref D ∧ d = none ∧ ExcC K D ∧ rIsE K D a xs H Q
theorem call_isX {a : Addr} {oe : Obj} {cls : Value} {d : Option Addr} {pn : List (Addr × Obj)} (hz : Zc cls d oe) (hf : ∃ vs, oe.data = .fields vs) : CallR (X.suite a ((a, oe) :: pn)) (.builtin "isinstance") (rIsX X.K cls d a) := by
  intro pins s σ H xs us Q I r h
  obtain ⟨D, rfl, rfl, C, h⟩ := h
  exact call_isE C hz hf pins s σ H xs us Q I r h
theorem k_isX {K : PySem.W.Frag} {D C a : Addr} {b : Bool} {H : Hp} {Q : VK} (h : ExcC K D) (e : PySem.W.kitOne K (.ref D) (.ref C) = some b) (q : Q (.bl b) H) : rIsX K (.ref D) none a [.ref a, .ref C] H Q :=
  ⟨D, rfl, rfl, h, .ref C, .ref C, b, rfl, fun _ r => r, e, q⟩
theorem k_isXty {K : PySem.W.Frag} {D a : Addr} {n : String} {b : Bool} {H : Hp} {Q : VK} (h : ExcC K D) (e : PySem.W.kitOne K (.ref D) (.type n) = some b) (q : Q (.bl b) H) : rIsX K (.ref D) none a [.ref a, .ty n] H Q :=
  ⟨D, rfl, rfl, h, .ty n, .type n, b, rfl, fun _ r => r, e, q⟩
end
/-- isinstance(e, (c1, c2, ..)), all of them own classes -/
def rIsXT (K : PySem.W.Frag) (cls : Value) (d : Option Addr) (a : Addr) : List V → Hp → VK → Prop := fun xs H Q => ∃ (D tp : Addr) (cs : List Addr) (b : Bool), cls = .ref D ∧ d = none ∧ ExcC K D ∧ xs = [.ref a, .ref tp] ∧ H tp = some (.tup (cs.map V.ref)) ∧ PySem.W.kitAny K (.ref D) (cs.map Value.ref) = some b ∧ Q (.bl b) H
theorem clsV_all : ∀ cs : List Addr, Paired ClsV (cs.map V.ref) (cs.map Value.ref)
  | [] => .nil
  | c :: cs => .cons (.own c) (clsV_all cs)
theorem call_isXT {X : Cx} {a : Addr} {oe : Obj} {cls : Value} {d : Option Addr} {pn : List (Addr × Obj)} (hz : Zc cls d oe) (hf : ∃ vs, oe.data = .fields vs) : CallR (X.suite a ((a, oe) :: pn)) (.builtin "isinstance") (rIsXT X.K cls d a) := by
  intro pins s σ H xs us Q I r h
  obtain ⟨D, tp, cs, b, rfl, rfl, C, rfl, hT, e, q⟩ := h
  obtain ⟨u1, u2, rfl, r1, r2⟩ := vals2 r
  cases (show u1 = Value.ref a from r1)
  cases (show u2 = Value.ref tp from r2)
  obtain ⟨hget, _⟩ := I.pin (a, oe) (List.mem_append.mpr (.inl List.mem_cons_self))
  obtain ⟨vs, hv⟩ := hf
  have J : PySem.W.InstAt s.heap a oe D none := by
    obtain ⟨oc, od, oda, osl⟩ := oe
    obtain ⟨h1, h2⟩ := hz
    dsimp only at h1 h2 hv
    subst h1 h2 hv
    exact ⟨hget, rfl, rfl, trivial⟩
  obtain ⟨_, its, rv, o, h1, h2, n, h3⟩ := (show ObjOk X.prog X.w H s.heap tp (.tup (cs.map V.ref)) from I.hok tp _ hT)
  have e3 := ClsV.all (clsV_all cs) rv
  subst e3
  obtain ⟨oc, od, dt, sl⟩ := o
  simp only at h2 h3
  subst h2 h3
  exact PySem.W.kia_tup (PySem.W.handS_kitx_exc C.hg C.hk C.hs C.hd C.ha C.hn C.ht C.hm) I.kIn J h1 e (fun z => nomatch z) fun tk => ⟨.bl b, H, I.kept (t' := tk) fun _ _ z => z, rfl, q⟩
theorem kitAny_no {K : PySem.W.Frag} {t : Value} : ∀ us : List Value, (∀ u ∈ us, PySem.W.kitOne K t u = some false) → PySem.W.kitAny K t us = some false
  | [], _ => rfl
  | u :: us, h => kitAny_cons (h u List.mem_cons_self) (fun _ => kitAny_no us fun x hx => h x (List.mem_cons_of_mem _ hx)) (fun z => Bool.noConfusion z)
theorem k_isXT {K : PySem.W.Frag} {D a tp : Addr} {b : Bool} {H : Hp} {Q : VK} (cs : List Addr) (hT : H tp = some (.tup (cs.map V.ref))) (h : ExcC K D) (e : PySem.W.kitAny K (.ref D) (cs.map Value.ref) = some b) (q : Q (.bl b) H) : rIsXT K (.ref D) none a [.ref a, .ref tp] H Q :=
  ⟨D, tp, cs, b, rfl, rfl, h, rfl, hT, e, q⟩
/-! ### the head's facts, with what is asked of errors -/
inductive Fx where
  | excC (x : Str)
  | kit (x y : Str) (b : Bool)
  | kitT (x : Str) (t : String) (b : Bool)
  | exm (x y : Str) (b : Bool)
def Fx.ok (K : PySem.W.Frag) : Fx → Bool
  | .excC x => He.eqO (PySem.W.findIn K (.ref (He.ga K x)) "__getattribute__") (some (some (.builtin "BaseException.__getattribute__"))) && (He.eqO (PySem.W.findIn K (.ref (He.ga K x)) "__getattr__") (some none) &&
      (decide (PySem.W.subIn K (.ref (He.ga K x)) (.type "BaseException") = some true) && (PySem.W.hasDictIn K (He.ga K x) && (He.eqO (PySem.W.findIn K (.ref (He.ga K x)) "__class__") (some (some (.builtin "object.__class__"))) &&
      (He.eqO (PySem.W.specialIn K (.builtin "object.__class__") "__get__") (some (some (.builtin "getset_descriptor.__get__"))) && (decide (PySem.W.takesIn K (.builtin "object.__class__") = some true) && decide (PySem.W.mroIn K (He.ga K x) (.type "object") = some true)))))))
  | .kit x y b => decide (PySem.W.kitOne K (.ref (He.ga K x)) (.ref (He.ga K y)) = some b)
  | .kitT x t b => decide (PySem.W.kitOne K (.ref (He.ga K x)) (.type t) = some b)
  | .exm x y b => decide (PySem.W.exmOne K (.ref (He.ga K x)) (.ref (He.ga K y)) = some b)
theorem Fx.excC_ok {K : PySem.W.Frag} {x : Str} (c : (Fx.excC x).ok K = true) : ExcC K (He.ga K x) := by
  obtain ⟨c1, c⟩ := He.ba c
  obtain ⟨c2, c⟩ := He.ba c
  obtain ⟨c3, c⟩ := He.ba c
  obtain ⟨c4, c⟩ := He.ba c
  obtain ⟨c5, c⟩ := He.ba c
  obtain ⟨c6, c⟩ := He.ba c
  obtain ⟨c7, c8⟩ := He.ba c
  exact ⟨He.eqO_ok c1, He.eqO_ok c2, of_decide_eq_true c3, c4, He.eqO_ok c5, He.eqO_ok c6, of_decide_eq_true c7, of_decide_eq_true c8⟩
theorem Fx.kit_ok {K : PySem.W.Frag} {x y : Str} {b : Bool} (c : (Fx.kit x y b).ok K = true) : PySem.W.kitOne K (.ref (He.ga K x)) (.ref (He.ga K y)) = some b := of_decide_eq_true c
theorem Fx.kitT_ok {K : PySem.W.Frag} {x : Str} {t : String} {b : Bool} (c : (Fx.kitT x t b).ok K = true) : PySem.W.kitOne K (.ref (He.ga K x)) (.type t) = some b := of_decide_eq_true c
theorem Fx.exm_ok {K : PySem.W.Frag} {x y : Str} {b : Bool} (c : (Fx.exm x y b).ok K = true) : PySem.W.exmOne K (.ref (He.ga K x)) (.ref (He.ga K y)) = some b := of_decide_eq_true c
abbrev AlF : Type := He.AlD × Bool
def obsF (fa : List He.Fa) (fn : List He.DefD) (fx : List Fx) (K : PySem.W.Frag) : AlF := (He.obsD fa fn K, fx.all fun f => f.ok K)
def SaysF (fa : List He.Fa) (fn : List He.DefD) (fx : List Fx) (K : PySem.W.Frag) : Prop := obsF fa fn fx K = (He.valD fn, true)
def obsFG (n : Nat) (fa : List He.Fa) (fn : List He.DefD) (fx : List Fx) (g : Addr → Option Obj) : AlF := obsF fa fn fx (He.frG g (He.asD g n))
def hookF (n : Nat) (fa : List He.Fa) (fn : List He.DefD) (fx : List Fx) : PySem.W.Hook where
  α := AlF
  obs := fun s => obsFG n fa fn fx s.heap.get?
  val := fun _ => (He.valD fn, true)
  says := fun _ h => ∃ K : PySem.W.Frag, K.In h ∧ SaysF fa fn fx K
  of := fun _ _ e => ⟨_, He.frG_in, e⟩
  keeps := fun _ _ _ ⟨K, hK, c⟩ k => ⟨K, PySem.W.Frag.In.keeps hK k, c⟩
theorem obsFG_eq {n : Nat} {fa : List He.Fa} {fn : List He.DefD} {fx : List Fx} {g : Addr → Option Obj} {s : Shared} (h : ∀ a, g a = s.heap.get? a) : obsFG n fa fn fx g = (hookF n fa fn fx).obs s := by
  have e : g = s.heap.get? := funext h
  rw [e] <;> rfl
theorem SaysF.d {fa : List He.Fa} {fn : List He.DefD} {fx : List Fx} {K : PySem.W.Frag} (c : SaysF fa fn fx K) : He.SaysD fa fn K := congrArg (fun z : AlF => z.1) c
theorem SaysF.fx {fa : List He.Fa} {fn : List He.DefD} {fx : List Fx} {K : PySem.W.Frag} (c : SaysF fa fn fx K) (i : Nat) {f : Fx} (h : fx[i]? = some f := by rfl) : f.ok K = true := by
  have c1 : (fx.all fun f => f.ok K) = true := congrArg (fun z : AlF => z.2) c
  exact List.all_eq_true.mp c1 f (List.mem_of_getElem? h)
end Tw
open PySem PySem.Spec PyProof.Rows L2 Tw
set_option hygiene false in
local macro_rules | `(tactic| walk_at "s1") => `(tactic| first
  | with_reducible refine m_seq ?_
  | with_reducible refine k_asg ?_
  | with_reducible refine m_asg ?_
  | ((with_reducible refine' k_var ?kv ?_); case kv => walk_at "look")
  | with_reducible refine k_c ?_
  | with_reducible refine k_op ?_
  | with_reducible refine k_I0 ?_
  | ((with_reducible refine k_I ?kv ?_); case kv => walk_at "cond")
  | with_reducible refine k_and1 ?_
  | with_reducible refine k_eqI ?_
  | with_reducible refine k_neI ?_
  | ((with_reducible refine k_eq ?kv ?_); case kv => exact rfl)
  | ((with_reducible refine k_ne ?kv ?_); case kv => exact rfl)
  | with_reducible refine k_isN ?_
  | with_reducible refine k_notN ?_
  | with_reducible refine k_nx ?_
  | with_reducible refine k_rt ?_
  | with_reducible refine m_next ?_
  | with_reducible refine m_bk ?_
  | with_reducible refine m_ct ?_
  | with_reducible refine k_if ?_
  | with_reducible refine k_test ?_
  | with_reducible refine k_tB ?_
  | with_reducible refine k_bl ?_
  | with_reducible refine k_chain ?_
  | with_reducible refine k_chainE ?_
  | with_reducible refine k_not ?_
  | with_reducible refine k_and ?_
  | with_reducible refine k_or ?_
  | with_reducible refine k_andV ?_
  | with_reducible refine k_orV ?_
  | with_reducible refine k_notV ?_
  | with_reducible refine k_ifE ?_
  | with_reducible refine k_ret ?_
  | with_reducible refine k_retN ?_
  | with_reducible refine k_drop ?_
  | with_reducible refine k_cons ?_
  | with_reducible refine k_nil ?_
  | with_reducible refine m_call ?_
  | with_reducible refine m_callS ?_
  | with_reducible refine k_rz ?_
  | with_reducible refine m_tryAs ?_
  | with_reducible refine m_tryOnly ?_
  | with_reducible refine m_tryM ?_
  | with_reducible refine k_cb ?_
  | with_reducible refine k_tup ?_
  | with_reducible refine k_lst ?_
  | ((with_reducible refine' k_aug ?kv ?_); case kv => exact rfl)
  | with_reducible refine k_ipI ?_
  | with_reducible refine k_un ?_
  | with_reducible refine k_U ?_
  | with_reducible refine k_sl ?_
  | with_reducible refine k_part ?_
  | with_reducible refine k_noPart ?_
  | with_reducible refine k_partE ?_
  | with_reducible refine k_bm ?_
  | with_reducible refine k_bm0 ?_
  | with_reducible refine k_isInt ?_
  | with_reducible refine k_isBool ?_
  | with_reducible refine k_min2 ?_
  | with_reducible refine k_max2 ?_
  | with_reducible refine m_gName ?_
  | with_reducible refine m_for ?_
  | with_reducible refine m_rng1 ?_
  | ((with_reducible refine m_rng1n ?kv ?_); case kv => walk_at "arith")
  | ((with_reducible refine m_rng1e ?kv ?_); case kv => walk_at "arith")
  | with_reducible refine m_rng2 ?_
  | ((with_reducible refine m_rng2e ?kv ?_); case kv => walk_at "arith")
  | with_reducible refine m_iL ?_
  | with_reducible refine m_iT ?_
  | with_reducible refine m_lc ?_
  | ((with_reducible refine k_disp ?kv ?_); case kv => (first | decide | (simp only [List.length_cons, List.length_nil]; omega)))
  | with_reducible refine m_rev ?_
  | with_reducible refine m_revL ?_
  | with_reducible refine m_enum ?_
  | with_reducible refine m_zip ?_
  | with_reducible refine m_rng3 ?_
  | with_reducible refine m_gCons ?_
  | with_reducible refine m_gNil ?_
  | with_reducible refine m_gSub ?_
  | with_reducible refine m_par ?_
  | with_reducible refine m_parE ?_
  | with_reducible refine m_wbody ?_
  | with_reducible refine m_lenSet ?_
  | with_reducible refine m_minD ?_
  | ((with_reducible refine' m_callV ?kv ?kf ?_); (case kv => walk_at "look"); (case kf => walk_at "isfn"))
  | with_reducible refine k_yes ?_
  | with_reducible refine k_T ?_
  | with_reducible refine k_F ?_
  | with_reducible refine k_nT ?_
  | with_reducible refine k_nF ?_)
local macro_rules | `(tactic| walk_at "cond") => `(tactic| first | exact ⟨by decide, by decide⟩ | omega | decide | exact ⟨by omega, by omega⟩ | exact ⟨by omega, by omega, by decide⟩ | exact Or.inr (by omega) | exact Or.inr (by decide) | exact Or.inl (by omega) | exact Or.inl (by decide) | assumption)
local macro_rules | `(tactic| walk_at "st") => `(tactic| repeat (walk_at "s1"))
local macro_rules | `(tactic| walk_at "look") => `(tactic| first | exact rfl | (simp only [List.getElem?_set, List.getElem?_cons_zero, List.getElem?_cons_succ]; exact rfl))
local macro_rules | `(tactic| walk_at "if") => `(tactic| first | with_reducible apply k_dec | with_reducible apply k_ndec)
local macro_rules | `(tactic| walk_at "arith") => `(tactic| first | decide | omega | (simp only [List.length_map, List.length_take, List.length_drop, List.length_append, List.length_cons, List.length_nil] at *; first | omega | (split <;> omega) | (split <;> split <;> omega)))
local macro_rules | `(tactic| walk_at "isfn") => `(tactic| assumption)
namespace Tw
structure KFx (K : PySem.W.Frag) : Prop where
  ec_NoBit : ExcC K (He.ga K "NoBit")
  kt_NoBit : PySem.W.kitOne K (.ref (He.ga K "NoBit")) (.type "ValueError") = some true
  k_NoBit_NoBit : PySem.W.kitOne K (.ref (He.ga K "NoBit")) (.ref (He.ga K "NoBit")) = some true
  e_NoBit_NoBit : PySem.W.exmOne K (.ref (He.ga K "NoBit")) (.ref (He.ga K "NoBit")) = some true
  k_NoBit_NoTree : PySem.W.kitOne K (.ref (He.ga K "NoBit")) (.ref (He.ga K "NoTree")) = some false
  e_NoBit_NoTree : PySem.W.exmOne K (.ref (He.ga K "NoBit")) (.ref (He.ga K "NoTree")) = some false
  k_NoBit_TooMany : PySem.W.kitOne K (.ref (He.ga K "NoBit")) (.ref (He.ga K "TooMany")) = some false
  e_NoBit_TooMany : PySem.W.exmOne K (.ref (He.ga K "NoBit")) (.ref (He.ga K "TooMany")) = some false
  k_NoBit_WoodError : PySem.W.kitOne K (.ref (He.ga K "NoBit")) (.ref (He.ga K "WoodError")) = some true
  e_NoBit_WoodError : PySem.W.exmOne K (.ref (He.ga K "NoBit")) (.ref (He.ga K "WoodError")) = some true
  ec_NoTree : ExcC K (He.ga K "NoTree")
  kt_NoTree : PySem.W.kitOne K (.ref (He.ga K "NoTree")) (.type "ValueError") = some true
  k_NoTree_NoBit : PySem.W.kitOne K (.ref (He.ga K "NoTree")) (.ref (He.ga K "NoBit")) = some false
  e_NoTree_NoBit : PySem.W.exmOne K (.ref (He.ga K "NoTree")) (.ref (He.ga K "NoBit")) = some false
  k_NoTree_NoTree : PySem.W.kitOne K (.ref (He.ga K "NoTree")) (.ref (He.ga K "NoTree")) = some true
  e_NoTree_NoTree : PySem.W.exmOne K (.ref (He.ga K "NoTree")) (.ref (He.ga K "NoTree")) = some true
  k_NoTree_TooMany : PySem.W.kitOne K (.ref (He.ga K "NoTree")) (.ref (He.ga K "TooMany")) = some false
  e_NoTree_TooMany : PySem.W.exmOne K (.ref (He.ga K "NoTree")) (.ref (He.ga K "TooMany")) = some false
  k_NoTree_WoodError : PySem.W.kitOne K (.ref (He.ga K "NoTree")) (.ref (He.ga K "WoodError")) = some true
  e_NoTree_WoodError : PySem.W.exmOne K (.ref (He.ga K "NoTree")) (.ref (He.ga K "WoodError")) = some true
  ec_TooMany : ExcC K (He.ga K "TooMany")
  kt_TooMany : PySem.W.kitOne K (.ref (He.ga K "TooMany")) (.type "ValueError") = some true
  k_TooMany_NoBit : PySem.W.kitOne K (.ref (He.ga K "TooMany")) (.ref (He.ga K "NoBit")) = some false
  e_TooMany_NoBit : PySem.W.exmOne K (.ref (He.ga K "TooMany")) (.ref (He.ga K "NoBit")) = some false
  k_TooMany_NoTree : PySem.W.kitOne K (.ref (He.ga K "TooMany")) (.ref (He.ga K "NoTree")) = some false
  e_TooMany_NoTree : PySem.W.exmOne K (.ref (He.ga K "TooMany")) (.ref (He.ga K "NoTree")) = some false
  k_TooMany_TooMany : PySem.W.kitOne K (.ref (He.ga K "TooMany")) (.ref (He.ga K "TooMany")) = some true
  e_TooMany_TooMany : PySem.W.exmOne K (.ref (He.ga K "TooMany")) (.ref (He.ga K "TooMany")) = some true
  k_TooMany_WoodError : PySem.W.kitOne K (.ref (He.ga K "TooMany")) (.ref (He.ga K "WoodError")) = some true
  e_TooMany_WoodError : PySem.W.exmOne K (.ref (He.ga K "TooMany")) (.ref (He.ga K "WoodError")) = some true
  ec_WoodError : ExcC K (He.ga K "WoodError")
  kt_WoodError : PySem.W.kitOne K (.ref (He.ga K "WoodError")) (.type "ValueError") = some true
  k_WoodError_NoBit : PySem.W.kitOne K (.ref (He.ga K "WoodError")) (.ref (He.ga K "NoBit")) = some false
  e_WoodError_NoBit : PySem.W.exmOne K (.ref (He.ga K "WoodError")) (.ref (He.ga K "NoBit")) = some false
  k_WoodError_NoTree : PySem.W.kitOne K (.ref (He.ga K "WoodError")) (.ref (He.ga K "NoTree")) = some false
  e_WoodError_NoTree : PySem.W.exmOne K (.ref (He.ga K "WoodError")) (.ref (He.ga K "NoTree")) = some false
  k_WoodError_TooMany : PySem.W.kitOne K (.ref (He.ga K "WoodError")) (.ref (He.ga K "TooMany")) = some false
  e_WoodError_TooMany : PySem.W.exmOne K (.ref (He.ga K "WoodError")) (.ref (He.ga K "TooMany")) = some false
  k_WoodError_WoodError : PySem.W.kitOne K (.ref (He.ga K "WoodError")) (.ref (He.ga K "WoodError")) = some true
  e_WoodError_WoodError : PySem.W.exmOne K (.ref (He.ga K "WoodError")) (.ref (He.ga K "WoodError")) = some true

/-- _law_whole(x) -/
def sp_law_whole (_ : PySem.W.Frag) : Sp := fun vs H Q _ => ∃ x : V, vs = [x] ∧ ((∃ n : Int, x = .int n ∧ Q (.bl true) H) ∨ (x = .non ∧ Q (.bl false) H))
theorem whole_int {K : PySem.W.Frag} {H : Hp} {Q : VK} {E : XK} {n : Int} (q : Q (.bl true) H) : sp_law_whole K [.int n] H Q E := ⟨_, rfl, .inl ⟨n, rfl, q⟩⟩
theorem whole_non {K : PySem.W.Frag} {H : Hp} {Q : VK} {E : XK} (q : Q (.bl false) H) : sp_law_whole K [.non] H Q E := ⟨_, rfl, .inr ⟨rfl, q⟩⟩
theorem len_law_whole (K : PySem.W.Frag) : ∀ vs H Q E, sp_law_whole K vs H Q E → vs.length = 1 := by
  rintro vs H Q E ⟨x, rfl, _⟩; rfl
def t_law_whole (K : PySem.W.Frag) : TS :=
  (tRet (tAndV (tCB rIsB (tCons (tVar 0) (tCons (tC (.ty "int")) tNil))) (tNotV (tCB rIsB (tCons (tVar 0) (tCons (tC (.ty "bool")) tNil))))))
abbrev n_law_whole : List Str := ["_law_found"]

theorem rd_law_whole (K : PySem.W.Frag) (vs : List V) (H : Hp) (Q : VK) (E : XK) (h : sp_law_whole K vs H Q E) : t_law_whole K { nx := fun _ H' => Q .non H', rt := Q } (start n_law_whole vs) H := by
  obtain ⟨x, rfl, (⟨n, rfl, q⟩ | ⟨rfl, q⟩)⟩ := h
  · unfold t_law_whole
    walk_at "st"
    exact q
  · unfold t_law_whole
    walk_at "st"
    refine k_isIntN ?_
    walk_at "st"
    exact q

/-- _law_cell_at(script, k) -/
def sp_law_cell_at (K : PySem.W.Frag) : Sp := fun vs H Q _ => ∃ (a : Addr) (ns : List Int) (k : Int), vs = [.ref a, .int k] ∧ SqL K H a (ns.map V.int) ∧ 0 ≤ k ∧ ∀ c : Int, c = ns.getD k.toNat 0 → Q (.int c) H
theorem len_law_cell_at (K : PySem.W.Frag) : ∀ vs H Q E, sp_law_cell_at K vs H Q E → vs.length = 2 := by
  rintro vs H Q E ⟨x, y, z, rfl, _⟩; rfl
def t_law_cell_at (K : PySem.W.Frag) : TS :=
  (tSeq (tIfS (tTest (tOp rLt (tVar 1) (tCB (rLen K) (tCons (tVar 0) tNil))))
  (tRet (tOp (rIxL K) (tVar 0) (tVar 1)))
  tNext)
  (tRet (tC (.int 0))))
abbrev n_law_cell_at : List Str := ["_law_script", "_law_k"]

theorem rd_law_cell_at (K : PySem.W.Frag) (vs : List V) (H : Hp) (Q : VK) (E : XK) (h : sp_law_cell_at K vs H Q E) : t_law_cell_at K { nx := fun _ H' => Q .non H', rt := Q } (start n_law_cell_at vs) H := by
  obtain ⟨a, ns, k, rfl, hS, hk, q⟩ := h
  unfold t_law_cell_at
  walk_at "st"
  refine k_lenL hS ?_
  walk_at "st"
  rw [List.length_map]
  walk_at "if" <;> intro c
  · walk_at "st"
    have hlt : k.toNat < ns.length := by omega
    refine k_ixL hS (at_int hk (mapint (List.getElem?_eq_getElem hlt))) ?_
    walk_at "st"
    exact q _ (by rw [List.getD_eq_getElem?_getD, List.getElem?_eq_getElem hlt]; rfl)
  · walk_at "st"
    exact q _ (by rw [List.getD_eq_getElem?_getD, List.getElem?_eq_none (by omega)]; rfl)
theorem call_cell_at {K : PySem.W.Frag} {H : Hp} {Q : VK} {E : XK} {a : Addr} {ns : List Int} {k : Int} (hS : SqL K H a (ns.map V.int)) (hk : 0 ≤ k) (q : ∀ c : Int, c = ns.getD k.toNat 0 → Q (.int c) H) : sp_law_cell_at K [.ref a, .int k] H Q E :=
  ⟨a, ns, k, rfl, hS, hk, q⟩

/-- list(range(n)) -/
def ints0 (n : Nat) : List Int := (List.range n).map fun i : Nat => (i : Int)
theorem ints0_len (n : Nat) : (ints0 n).length = n := by unfold ints0; rw [List.length_map, List.length_range]
def Rg1K (Q : VK) (x : V) (H : Hp) : Prop := ∃ n, x = .int n ∧ RgOk 0 n ∧ ∀ q, H q = none → Q (.ref q) (upd H q (.lst (rgV 0 n)))
theorem k_lstRg {ta : TE} {σ : L2.St} {H : Hp} {Q : VK} (h : ta σ H (Rg1K Q)) : tLstRg (tRg1 ta) σ H Q := h
theorem k_lstRgE {H : Hp} {Q : VK} {n : Int} (h0 : 0 ≤ n ∧ n ≤ 1000000) (q : ∀ l H', H l = none → Same H H' → H' l = some (.lst ((ints0 n.toNat).map V.int)) → Q (.ref l) H') : Rg1K Q (.int n) H := by
  refine ⟨n, rfl, RgOk.of_le (by omega) (by omega) (by omega) (by omega), fun p hp => ?_⟩
  have e : rgV 0 n = (ints0 n.toNat).map V.int := by
    unfold rgV ints0
    rw [Int.sub_zero, List.map_map]
    congr 1
    funext i
    show V.int (0 + (i : Int)) = V.int (i : Int)
    rw [Int.zero_add]
  rw [e]
  exact q p _ hp (same_new hp) upd_same

/-- cuts, joins and repeats of lists of ints -/
theorem k_slTake {K : PySem.W.Frag} {H : Hp} {Q : VK} {p : Addr} {bs : List Int} {k : Nat} (h : SqL K H p (bs.map V.int)) (q : ∀ l H', H l = none → Same H H' → H' l = some (.lst ((bs.take k).map V.int)) → Q (.ref l) H') : rSlL K (.ref p) none (some (k : Int)) H Q := by
  refine k_slL h fun l hl => ?_
  rw [cutTake, ← List.map_take]
  exact q l _ hl (same_new hl) upd_same
theorem k_slDrop {K : PySem.W.Frag} {H : Hp} {Q : VK} {p : Addr} {bs : List Int} {k : Nat} (h : SqL K H p (bs.map V.int)) (q : ∀ l H', H l = none → Same H H' → H' l = some (.lst ((bs.drop k).map V.int)) → Q (.ref l) H') : rSlL K (.ref p) (some (k : Int)) none H Q := by
  refine k_slL h fun l hl => ?_
  rw [cutDrop, ← List.map_drop]
  exact q l _ hl (same_new hl) upd_same
theorem new_both {H : Hp} {p : Addr} {o : HO} (h : H p = none) : Same H (upd H p o) ∧ (upd H p o) p = some o := ⟨same_new h, upd_same⟩
theorem k_catI {H : Hp} {Q : VK} {a b : Addr} {xs ys : List Int} (h1 : H a = some (.lst (xs.map V.int))) (h2 : H b = some (.lst (ys.map V.int))) (hn : xs.length + ys.length ≤ 1000000) (q : ∀ l H', H l = none → Same H H' → H' l = some (.lst ((xs ++ ys).map V.int)) → Q (.ref l) H') : rCat (.ref a) (.ref b) H Q := by
  refine k_cat h1 h2 (by rw [List.length_map, List.length_map]; exact hn) fun p hp => ?_
  rw [← List.map_append]
  exact q p _ hp (same_new hp) upd_same
theorem k_catKI {K : PySem.W.Frag} {H : Hp} {Q : VK} {a b : Addr} {xs ys : List Int} (h1 : SqL K H a (xs.map V.int)) (h2 : SqL K H b (ys.map V.int)) (hn : xs.length + ys.length ≤ 1000000) (q : ∀ l H', H l = none → Same H H' → H' l = some (.lst ((xs ++ ys).map V.int)) → Q (.ref l) H') : rCatK K (.ref a) (.ref b) H Q := by
  refine k_catK h1 h2 (by rw [List.length_map, List.length_map]; exact hn) fun p hp => ?_
  rw [← List.map_append]
  exact q p _ hp (same_new hp) upd_same
theorem k_repI {H : Hp} {Q : VK} {a : Addr} {xs : List Int} {n : Int} (h : H a = some (.lst (xs.map V.int))) (h0 : 0 ≤ n ∧ n ≤ 1000000) (hn : xs.length * n.toNat ≤ 1000000) (q : ∀ l H' (cs : List Int), H l = none → Same H H' → cs = (List.replicate n.toNat xs).flatten → cs.length = n.toNat * xs.length → H' l = some (.lst (cs.map V.int)) → Q (.ref l) H') : rRep (.ref a) (.int n) H Q := by
  obtain ⟨m, rfl⟩ := Int.eq_ofNat_of_zero_le h0.1
  rw [Int.toNat_natCast] at hn q
  refine k_rep h (by rw [List.length_map]; exact hn) (by omega) fun p hp => ?_
  have e : (List.replicate m (xs.map V.int)).flatten = ((List.replicate m xs).flatten).map V.int := by
    rw [List.map_flatten, List.map_replicate]
  rw [e]
  refine q p _ _ hp (same_new hp) rfl ?_ upd_same
  rw [List.length_flatten, List.map_replicate, List.sum_replicate_nat]
/-- a number in a tuple of numbers -/
theorem k_inT {K : PySem.W.Frag} {H : Hp} {Q : VK} {p : Addr} {x : Int} {xs : List V} (h : H p = some (.tup xs)) (hf : xs.all flatV = true) (q : ∀ b, Q (.bl b) H) : rIn K false (.int x) (.ref p) H Q := ⟨p, xs, rfl, .inr (.of h), rfl, hf, q _⟩

/-! ### bits of a number -/
/-- the bit k of b -/
def bit (b : Int) (k : Nat) : Int := b / 2 ^ k % 2
theorem bit_cases (b : Int) (k : Nat) : bit b k = 0 ∨ bit b k = 1 := by unfold bit; omega
/-- the ones among the first n bits -/
def onesIn (b : Int) : Nat → Int
  | 0 => 0
  | n + 1 => onesIn b n + bit b n
theorem onesIn_mono1 (b : Int) (n : Nat) : onesIn b n ≤ onesIn b (n + 1) ∧ onesIn b (n + 1) ≤ onesIn b n + 1 := by
  show onesIn b n ≤ onesIn b n + bit b n ∧ onesIn b n + bit b n ≤ _
  have := bit_cases b n; omega
theorem onesIn_mono (b : Int) (n m : Nat) (h : n ≤ m) : onesIn b n ≤ onesIn b m := by
  induction m with
  | zero => have : n = 0 := by omega
            subst this; exact Int.le_refl _
  | succ m ih =>
    rcases Nat.lt_or_ge m n with q | q
    · have : n = m + 1 := by omega
      subst this; exact Int.le_refl _
    · have := ih q; have := onesIn_mono1 b m; omega
theorem onesIn_range (b : Int) (n : Nat) : 0 ≤ onesIn b n ∧ onesIn b n ≤ n := by
  induction n with
  | zero => exact ⟨Int.le_refl _, Int.le_refl _⟩
  | succ n ih => have := onesIn_mono1 b n; omega
theorem sum_range_succ (f : Nat → Int) (n : Nat) : ((List.range (n + 1)).map f).sum = ((List.range n).map f).sum + f n := by
  rw [List.range_succ, List.map_append, List.sum_append]; simp
theorem onesIn_sum (b : Int) (n : Nat) : ((List.range n).map fun k => bit b k).sum = onesIn b n := by
  induction n with
  | zero => rfl
  | succ n ih => rw [sum_range_succ, ih]; rfl
theorem halve (b : Int) (k : Nat) : b / 2 ^ k / 2 = b / 2 ^ (k + 1) := by
  rw [Int.pow_succ, Int.ediv_ediv_of_nonneg]
  exact Int.le_of_lt (Int.pow_pos (by decide))

/-! ### rows and blocks -/
/-- all items are bits -/
def Bits (bs : List Int) : Prop := ∀ b ∈ bs, b = 0 ∨ b = 1
/-- the block of some bits (the first one counting 1) -/
def blk : List Int → Int
  | [] => 0
  | b :: bs => b + 2 * blk bs
/-- the row of bits bs as blocks, so many -/
def blksN (bs : List Int) : Nat → List Int
  | 0 => []
  | n + 1 => blk (bs.take 32) :: blksN (bs.drop 32) n
/-- the blocks of a row -/
def blks (bs : List Int) : List Int := blksN bs ((bs.length + 31) / 32)
theorem blksN_len (bs : List Int) (n : Nat) : (blksN bs n).length = n := by
  induction n generalizing bs with
  | zero => rfl
  | succ n ih => show (blksN (bs.drop 32) n).length + 1 = n + 1; rw [ih]
theorem blks_len (bs : List Int) : (blks bs).length = (bs.length + 31) / 32 := blksN_len _ _
theorem blksN_get (bs : List Int) (n j : Nat) (h : j < n) : (blksN bs n)[j]? = some (blk ((bs.drop (32 * j)).take 32)) := by
  induction n generalizing bs j with
  | zero => omega
  | succ n ih =>
    cases j with
    | zero => rfl
    | succ j =>
      show (blksN (bs.drop 32) n)[j]? = _
      rw [ih (bs.drop 32) j (by omega), List.drop_drop, show 32 + 32 * j = 32 * (j + 1) by omega]
theorem blks_get (bs : List Int) (j : Nat) (h : j < (bs.length + 31) / 32) : (blks bs)[j]? = some (blk ((bs.drop (32 * j)).take 32)) := blksN_get _ _ _ h
theorem blk_range : ∀ bs : List Int, Bits bs → 0 ≤ blk bs ∧ blk bs < 2 ^ bs.length
  | [], _ => ⟨Int.le_refl _, by decide⟩
  | b :: bs, h => by
    obtain ⟨h1, h2⟩ := blk_range bs fun x hx => h x (List.mem_cons_of_mem _ hx)
    have h3 := h b List.mem_cons_self
    have e : (2 : Int) ^ (bs.length + 1) = 2 ^ bs.length * 2 := Int.pow_succ ..
    show 0 ≤ b + 2 * blk bs ∧ b + 2 * blk bs < 2 ^ (bs.length + 1)
    omega
/-- a bit of a block -/
theorem bit_blk : ∀ (bs : List Int) (k : Nat), Bits bs → bit (blk bs) k = bs.getD k 0
  | [], k, _ => by
    show (0 : Int) / 2 ^ k % 2 = _
    rw [Int.zero_ediv]; rfl
  | b :: bs, 0, h => by
    have h3 := h b List.mem_cons_self
    show (b + 2 * blk bs) / 2 ^ 0 % 2 = b
    simp; omega
  | b :: bs, k + 1, h => by
    have h3 := h b List.mem_cons_self
    have ih := bit_blk bs k fun x hx => h x (List.mem_cons_of_mem _ hx)
    show (b + 2 * blk bs) / 2 ^ (k + 1) % 2 = (b :: bs).getD (k + 1) 0
    rw [List.getD_cons_succ, ← ih]
    show _ = blk bs / 2 ^ k % 2
    have e : (b + 2 * blk bs) / 2 = blk bs := by omega
    rw [show (2 : Int) ^ (k + 1) = 2 * 2 ^ k by rw [Int.pow_succ, Int.mul_comm], ← Int.ediv_ediv_of_nonneg (by decide), e]
theorem Bits.sub {bs cs : List Int} (h : Bits bs) (s : ∀ x ∈ cs, x ∈ bs) : Bits cs := fun x hx => h x (s x hx)
theorem Bits.take {bs : List Int} (h : Bits bs) (n : Nat) : Bits (bs.take n) := h.sub fun _ hx => List.mem_of_mem_take hx
theorem Bits.drop {bs : List Int} (h : Bits bs) (n : Nat) : Bits (bs.drop n) := h.sub fun _ hx => List.mem_of_mem_drop hx
/-- a row's blocks: each below 2 ^ 32 -/
theorem blks_range {bs : List Int} (h : Bits bs) {j : Nat} {b : Int} (e : (blks bs)[j]? = some b) : 0 ≤ b ∧ b < 4294967296 := by
  have hj : j < (bs.length + 31) / 32 := by
    have := (List.getElem?_eq_some_iff.mp e).1
    rw [blks_len] at this; exact this
  rw [blks_get bs j hj] at e
  obtain rfl := Option.some.inj e
  obtain ⟨h1, h2⟩ := blk_range _ ((h.drop (32 * j)).take 32)
  refine ⟨h1, Int.lt_of_lt_of_le h2 ?_⟩
  have : ((bs.drop (32 * j)).take 32).length ≤ 32 := by rw [List.length_take]; omega
  show (2 : Int) ^ _ ≤ 2 ^ 32
  exact_mod_cast Nat.pow_le_pow_right (show 0 < 2 by decide) this
/-- bit k of block j is bit 32 * j + k of the row -/
theorem bit_blks {bs : List Int} (h : Bits bs) {j : Nat} {b : Int} (e : (blks bs)[j]? = some b) {k : Nat} (hk : k < 32) : bit b k = bs.getD (32 * j + k) 0 := by
  have hj : j < (bs.length + 31) / 32 := by
    have := (List.getElem?_eq_some_iff.mp e).1
    rw [blks_len] at this; exact this
  rw [blks_get bs j hj] at e
  obtain rfl := Option.some.inj e
  rw [bit_blk _ _ ((h.drop (32 * j)).take 32), List.getD_eq_getElem?_getD, List.getD_eq_getElem?_getD, List.getElem?_take, if_pos hk, List.getElem?_drop]
/-- blocks are alike where their bits are -/
theorem blk_ext {x y : Int} (hx : 0 ≤ x ∧ x < 4294967296) (hy : 0 ≤ y ∧ y < 4294967296) (h : ∀ k, k < 32 → bit x k = bit y k) : x = y := by
  have key : ∀ n : Nat, n ≤ 32 → x / 2 ^ (32 - n) = y / 2 ^ (32 - n) := by
    intro n
    induction n with
    | zero =>
      intro _
      rw [Int.ediv_eq_zero_of_lt hx.1 (by exact hx.2), Int.ediv_eq_zero_of_lt hy.1 (by exact hy.2)]
    | succ n ih =>
      intro hn
      have h1 := ih (by omega)
      have h2 := h (32 - (n + 1)) (by omega)
      unfold bit at h2
      have e : 32 - n = (32 - (n + 1)) + 1 := by omega
      rw [e, ← halve, ← halve] at h1
      omega
  have := key 32 (Nat.le_refl _)
  rw [Nat.sub_self, Int.pow_zero, Int.ediv_one, Int.ediv_one] at this
  exact this

/-- blocks filled with the first i bits, zeroes behind -/
def part (bs : List Int) (n i : Nat) : List Int := blksN (bs.take i) n
theorem blk_nil : blk [] = 0 := rfl
theorem blk_snoc : ∀ (bs : List Int) (b : Int), blk (bs ++ [b]) = blk bs + b * 2 ^ bs.length
  | [], b => by show b + 2 * 0 = 0 + b * 2 ^ 0; simp
  | c :: bs, b => by
    show c + 2 * blk (bs ++ [b]) = c + 2 * blk bs + b * 2 ^ (bs.length + 1)
    rw [blk_snoc bs b, Int.pow_succ, Int.mul_add, ← Int.mul_assoc 2 b, Int.mul_comm 2 b, Int.mul_assoc b, Int.mul_comm 2 (2 ^ bs.length), Int.add_assoc]
theorem part_zero (bs : List Int) (n : Nat) : part bs n 0 = List.replicate n 0 := by
  unfold part
  rw [List.take_zero]
  induction n with
  | zero => rfl
  | succ n ih => show blk [] :: blksN [] n = _; rw [ih]; rfl
theorem part_full (bs : List Int) : part bs ((bs.length + 31) / 32) bs.length = blks bs := by
  unfold part blks; rw [List.take_length]
theorem part_len (bs : List Int) (n i : Nat) : (part bs n i).length = n := blksN_len _ _
theorem part_get (bs : List Int) (n i j : Nat) (h : j < n) : (part bs n i)[j]? = some (blk (((bs.take i).drop (32 * j)).take 32)) := blksN_get _ _ _ h
/-- one bit more: only its own block turns -/
theorem part_succ {bs : List Int} {n i : Nat} {b : Int} (hb : bs[i]? = some b) (hn : i / 32 < n) :
    part bs n (i + 1) = (part bs n i).set (i / 32) ((part bs n i).getD (i / 32) 0 + b * 2 ^ (i % 32)) := by
  have hi : i < bs.length := (List.getElem?_eq_some_iff.mp hb).1
  apply List.ext_getElem?
  intro j
  rw [List.getElem?_set, part_len]
  rcases Nat.lt_or_ge j n with hj | hj
  · rw [part_get _ _ _ _ hj]
    have et : bs.take (i + 1) = bs.take i ++ [b] := by rw [List.take_add_one, hb]; rfl
    have hl : (bs.take i).length = i := by rw [List.length_take]; omega
    rw [et]
    by_cases h : i / 32 = j
    · subst h
      rw [if_pos rfl, if_pos hn, List.getD_eq_getElem?_getD, part_get _ _ _ _ hn]
      have hd : ((bs.take i).drop (32 * (i / 32))).length = i % 32 := by rw [List.length_drop, hl]; omega
      have e2 : ((bs.take i).drop (32 * (i / 32))).take 32 = (bs.take i).drop (32 * (i / 32)) := List.take_of_length_le (by rw [hd]; omega)
      have e1 : ((bs.take i).drop (32 * (i / 32)) ++ [b]).take 32 = (bs.take i).drop (32 * (i / 32)) ++ [b] := List.take_of_length_le (by rw [List.length_append, hd]; simp; omega)
      rw [List.drop_append_of_le_length (by rw [hl]; omega), e1, e2, blk_snoc, hd]
      rfl
    · rw [if_neg h, part_get _ _ _ _ hj]
      congr 2
      rcases Nat.lt_or_ge j (i / 32) with l | l
      · rw [List.drop_append_of_le_length (by rw [hl]; omega), List.take_append_of_le_length (by rw [List.length_drop, hl]; omega)]
      · rw [List.drop_of_length_le (by rw [List.length_append, hl]; simp; omega), List.drop_of_length_le (by rw [hl]; omega)]
  · rw [List.getElem?_eq_none (by rw [part_len]; exact hj), if_neg (by omega), List.getElem?_eq_none (by rw [part_len]; exact hj)]
theorem part_range_take {bs : List Int} {i : Nat} (h : Bits (bs.take i)) {n j : Nat} (hj : j < n) (hi : i % 32 = i - 32 * j) (hij : 32 * j ≤ i) : 0 ≤ (part bs n i).getD j 0 ∧ (part bs n i).getD j 0 < 2 ^ (i % 32) := by
  rw [List.getD_eq_getElem?_getD, part_get _ _ _ _ hj]
  obtain ⟨h1, h2⟩ := blk_range _ ((h.drop (32 * j)).take 32)
  refine ⟨h1, Int.lt_of_lt_of_le h2 ?_⟩
  have : (((bs.take i).drop (32 * j)).take 32).length ≤ i % 32 := by rw [List.length_take, List.length_drop, List.length_take]; omega
  exact_mod_cast Nat.pow_le_pow_right (show 0 < 2 by decide) this
/-- a bit above a number -/
theorem or_high {x : Int} {k : Nat} (h0 : 0 ≤ x) (h1 : x < 2 ^ k) : Builtin.bitOr x (1 * 2 ^ k) = x + 1 * 2 ^ k := by
  have e := or_low (q := 1) (r := x) (k := k) (by decide) h0 h1
  rw [bitOr_nn h0 (by rw [Int.one_mul]; exact Int.le_of_lt (Int.pow_pos (by decide))), Nat.or_comm, ← bitOr_nn (by rw [Int.one_mul]; exact Int.le_of_lt (Int.pow_pos (by decide))) h0, e, Int.add_comm]

/-- packed(bits) -/
def sp_packed (K : PySem.W.Frag) : Sp := fun vs H Q E => ∃ (a : Addr) (bs : List Int), vs = [.ref a] ∧ SqL K H a (bs.map V.int) ∧ bs.length ≤ 100000 ∧
  (bs.length > 4096 → E (.ref (He.ga K "TooMany")) none H) ∧
  (bs.length ≤ 4096 → ¬ Bits bs → ∀ H', Same H H' → E (.ref (He.ga K "NoBit")) none H') ∧
  (bs.length ≤ 4096 → Bits bs → ∀ p H', H p = none → Same H H' → H' p = some (.lst ((blks bs).map V.int)) → Q (.ref p) H')
theorem len_packed (K : PySem.W.Frag) : ∀ vs H Q E, sp_packed K vs H Q E → vs.length = 1 := by
  rintro vs H Q E ⟨x, y, rfl, _⟩; rfl
def t_packed (K : PySem.W.Frag) (E : XK) : TS :=
  (tSeq (tIfS (tTest (tOp rGtI (tCB (rLen K) (tCons (tVar 0) tNil)) (tC (.int 4096))))
  (tRz (fun cls d _ H => E cls d H) (He.ga K "TooMany"))
  tNext)
  (tSeq (tAsg (tOp rRep (tLst (tCons (tC (.int 0)) tNil)) (tOp rDiv (tOp rMinus (tOp rPlus (tCB (rLen K) (tCons (tVar 0) tNil)) (tC (.int 32))) (tC (.int 1))) (tC (.int 32)))) (gName 1))
  (tSeq (tFor (iEnum K (tCons (tVar 0) tNil)) (gTup K 2 (gCons (gName 2) (gCons (gName 3) gNil)))
  (tSeq (tIfS (tAnd (tTest (tOp rNe (tVar 3) (tC (.int 0)))) (tTest (tOp rNe (tVar 3) (tC (.int 1)))))
  (tRz (fun cls d _ H => E cls d H) (He.ga K "NoBit"))
  tNext)
  (tIfS (tTest (tOp rEq (tVar 3) (tC (.int 1))))
  (tAsg (tOp rBitOr (tOp (rIxL K) (tVar 1) (tOp rDiv (tVar 2) (tC (.int 32)))) (tOp rShlW (tC (.int 1)) (tOp rMod (tVar 2) (tC (.int 32))))) (gSub (tVar 1) (tOp rDiv (tVar 2) (tC (.int 32))) rSetL))
  tNext)))
  (tRet (tVar 1)))))
abbrev n_packed : List Str := ["bits", "blocks", "at", "bit"]

theorem rd_packed (K : PySem.W.Frag) (vs : List V) (H : Hp) (Q : VK) (E : XK) (h : sp_packed K vs H Q E) : t_packed K E { nx := fun _ H' => Q .non H', rt := Q } (start n_packed vs) H := by
  obtain ⟨a, bs, rfl, hS, hl, q1, q2, q3⟩ := h
  unfold t_packed
  walk_at "st"
  refine k_lenL hS ?_
  walk_at "st"
  rw [List.length_map]
  walk_at "if" <;> intro c1
  · walk_at "st"
    exact q1 (by omega)
  have hm : bs.length ≤ 4096 := by omega
  walk_at "st"
  intro p0 hp0
  walk_at "st"
  refine k_lenL ((same_new hp0).seq hS) ?_
  walk_at "st"
  rw [List.length_map]
  have en : ((bs.length : Int) + 32 - 1) / 32 = (((bs.length + 31) / 32 : Nat) : Int) := by omega
  rw [en]
  refine k_rep (xs := [.int 0]) upd_same (by simp only [List.length_cons, List.length_nil]; omega) (by omega) fun p hp => ?_
  have hp' : H p = none := (same_new hp0).free hp
  have s0 := (same_new hp0).trans (same_new (o := .lst (List.replicate ((bs.length + 31) / 32) [V.int 0]).flatten) hp)
  walk_at "st"
  refine m_enumE (s0.seq hS) ?_
  refine loop_walk walk_enum (fun i σ H' => ∃ y z, σ = [some (.ref a), some (.ref p), y, z] ∧ i ≤ bs.length ∧ Same H H' ∧ H' p = some (.lst ((part bs ((bs.length + 31) / 32) i).map V.int)) ∧ Bits (bs.take i)) ⟨none, none, rfl, Nat.zero_le _, s0, ?_, fun x hx => by simp at hx⟩ (fun i σ H' ⟨y, z, _, _, s, _⟩ => s.seq hS) ?_ ?_
  · rw [upd_same, part_zero, List.map_replicate, rep_one]
  · rintro i v σ H1 H2 hi ⟨y, z, rfl, _, s, e, hb⟩ ⟨T, x, w, rfl, hT, rfl, ex, ew⟩
    rw [List.length_map] at hi
    obtain ⟨b, hbi, rfl⟩ := of_mapint ew
    obtain rfl : x = .int (i : Nat) := (Option.some.inj ex).symm
    have npT : p ≠ T := ne_of_none e hT
    have s2 : Same H (upd H1 T (.tup [.int (i : Nat), .int b])) := s.trans (same_new hT)
    have e2 : (upd H1 T (.tup [.int (i : Nat), .int b])) p = some (.lst ((part bs ((bs.length + 31) / 32) i).map V.int)) := by rw [upd_ne npT]; exact e
    refine m_gTup (.of upd_same) rfl ?_
    walk_at "st"
    have nobit : ∀ (c : ¬ (b = 0 ∨ b = 1)), ¬ Bits bs := fun c hB => c (hB b (List.mem_of_getElem? hbi))
    have go : (b = 0 ∨ b = 1) → Bits (bs.take (i + 1)) := by
      intro hb1 q hq
      rw [List.take_add_one, hbi] at hq
      rcases List.mem_append.mp hq with h | h
      · exact hb q h
      · have : q = b := by simpa using h
        subst this; exact hb1
    have hin : i / 32 < (bs.length + 31) / 32 := by omega
    walk_at "if" <;> intro c0
    · walk_at "st"
      walk_at "if" <;> intro c1
      · walk_at "st"
        exact q2 hm (nobit fun z => z.elim c0 c1) _ s2
      · walk_at "st"
        refine k_decT c1 ?_
        obtain rfl : b = 1 := c1
        walk_at "st"
        have hlt : i / 32 < ((part bs ((bs.length + 31) / 32) i)).length := by rw [part_len]; exact hin
        refine k_ixL (.of e2) (at_int (by omega) (i := ((i : Nat) : Int) / 32) (x := .int ((part bs ((bs.length + 31) / 32) i).getD (i / 32) 0)) ?_) ?_
        · rw [show (((i : Nat) : Int) / 32).toNat = i / 32 by omega, List.getD_eq_getElem?_getD, List.getElem?_eq_getElem hlt]
          exact mapint (List.getElem?_eq_getElem hlt)
        walk_at "st"
        have hsh : CShl 1 (((i : Nat) : Int) % 32) := by
          rw [show ((i : Nat) : Int) % 32 = ((i % 32 : Nat) : Int) by omega]
          exact shl_ok (n := 1) (by decide) (by omega)
        refine k_I hsh ?_
        walk_at "st"
        have hr := part_range_take hb (n := (bs.length + 31) / 32) (j := i / 32) hin (by omega) (by omega)
        have eor : Builtin.bitOr ((part bs ((bs.length + 31) / 32) i).getD (i / 32) 0) (1 * 2 ^ (((i : Nat) : Int) % 32).toNat) = (part bs ((bs.length + 31) / 32) i).getD (i / 32) 0 + 1 * 2 ^ (i % 32) := by
          rw [show (((i : Nat) : Int) % 32).toNat = i % 32 by omega]
          exact or_high hr.1 hr.2
        rw [eor]
        refine m_setL e2 (ixN_nat (by omega) (by rw [List.length_map, part_len]; omega)) ?_
        walk_at "st"
        refine ⟨_, _, rfl, hi, Same.mut s2 hp', ?_, go (.inr rfl)⟩
        rw [upd_same, show (((i : Nat) : Int) / 32).toNat = i / 32 by omega, part_succ hbi hin, List.map_set]
    · walk_at "st"
      obtain rfl : b = 0 := c0
      refine k_decF (by decide) ?_
      walk_at "st"
      refine ⟨_, _, rfl, hi, s2, ?_, go (.inl rfl)⟩
      rw [e2, part_succ hbi hin, Int.zero_mul, Int.add_zero]
      congr 2
      have hlt : i / 32 < ((part bs ((bs.length + 31) / 32) i)).length := by rw [part_len]; exact hin
      rw [List.getD_eq_getElem?_getD, List.getElem?_eq_getElem hlt]
      show _ = List.map V.int ((part bs ((bs.length + 31) / 32) i).set (i / 32) ((part bs ((bs.length + 31) / 32) i)[i / 32]))
      rw [List.set_getElem_self]
  · rintro σ H' ⟨y, z, rfl, _, s, e, hb⟩
    rw [List.length_map] at e hb
    walk_at "st"
    rw [List.take_length] at hb
    rw [part_full] at e
    exact q3 hm hb p H' hp' s e

/-- the ones among the first n bits of a row -/
def sumTo (bs : List Int) (n : Nat) : Int := (bs.take n).sum
theorem sumTo_succ (bs : List Int) (n : Nat) : sumTo bs (n + 1) = sumTo bs n + bs.getD n 0 := by
  unfold sumTo
  rw [List.take_add_one, List.sum_append, List.getD_eq_getElem?_getD]
  cases bs[n]? <;> simp
theorem sumTo_all (bs : List Int) {n : Nat} (h : bs.length ≤ n) : sumTo bs n = bs.sum := by
  unfold sumTo; rw [List.take_of_length_le h]
theorem sumTo_zero (bs : List Int) : sumTo bs 0 = 0 := rfl
/-- the ones of a block's first bits -/
theorem onesIn_blks {bs : List Int} (h : Bits bs) {j : Nat} {b : Int} (e : (blks bs)[j]? = some b) : ∀ k, k ≤ 32 → onesIn b k = sumTo bs (32 * j + k) - sumTo bs (32 * j)
  | 0, _ => by rw [Nat.add_zero]; show (0 : Int) = _; omega
  | k + 1, hk => by
    show onesIn b k + bit b k = _
    rw [onesIn_blks h e k (by omega), bit_blks h e (by omega), show 32 * j + (k + 1) = (32 * j + k) + 1 by omega, sumTo_succ]; omega

/-- the ones ahead of the first n blocks -/
def aheadN (bs : List Int) (n : Nat) : List Int := (List.range n).map fun j => sumTo bs (32 * j)
theorem aheadN_len (bs : List Int) (n : Nat) : (aheadN bs n).length = n := by unfold aheadN; simp
theorem aheadN_get (bs : List Int) {n j : Nat} (h : j < n) : (aheadN bs n)[j]? = some (sumTo bs (32 * j)) := by unfold aheadN; simp [h]
theorem aheadN_succ (bs : List Int) (n : Nat) : aheadN bs (n + 1) = aheadN bs n ++ [sumTo bs (32 * n)] := by unfold aheadN; rw [List.range_succ, List.map_append]; rfl
/-- the table of a row: the ones ahead of each block, and all -/
def aheadT (bs : List Int) : List Int := aheadN bs ((bs.length + 31) / 32 + 1)
theorem aheadT_len (bs : List Int) : (aheadT bs).length = (bs.length + 31) / 32 + 1 := aheadN_len _ _
theorem aheadT_get (bs : List Int) {j : Nat} (h : j ≤ (bs.length + 31) / 32) : (aheadT bs)[j]? = some (sumTo bs (32 * j)) := aheadN_get bs (by omega)
theorem sumTo_add (bs : List Int) (n m : Nat) : sumTo bs (n + m) = sumTo bs n + ((bs.drop n).take m).sum := by
  unfold sumTo; rw [List.take_add, List.sum_append]
theorem getD_bit {bs : List Int} (h : Bits bs) (k : Nat) : bs.getD k 0 = 0 ∨ bs.getD k 0 = 1 := by
  rw [List.getD_eq_getElem?_getD]
  cases e : bs[k]? with
  | none => exact .inl rfl
  | some b => exact h b (List.mem_of_getElem? e)
theorem sumTo_mono1 {bs : List Int} (h : Bits bs) (n : Nat) : sumTo bs n ≤ sumTo bs (n + 1) ∧ sumTo bs (n + 1) ≤ sumTo bs n + 1 := by
  rw [sumTo_succ]; have := getD_bit h n; omega
theorem sumTo_mono {bs : List Int} (h : Bits bs) {n m : Nat} (l : n ≤ m) : sumTo bs n ≤ sumTo bs m := by
  induction m with
  | zero => rw [show n = 0 by omega]; exact Int.le_refl _
  | succ m ih =>
    rcases Nat.lt_or_ge m n with z | z
    · rw [show n = m + 1 by omega]; exact Int.le_refl _
    · have := ih z; have := sumTo_mono1 h m; omega
theorem sumTo_range {bs : List Int} (h : Bits bs) (n : Nat) : 0 ≤ sumTo bs n ∧ sumTo bs n ≤ n := by
  induction n with
  | zero => exact ⟨Int.le_refl _, Int.le_refl _⟩
  | succ n ih => have := sumTo_mono1 h n; omega
theorem blks_getD {bs : List Int} {j : Nat} (h : j < (bs.length + 31) / 32) : (blks bs)[j]? = some ((blks bs).getD j 0) := by
  rw [List.getD_eq_getElem?_getD, List.getElem?_eq_getElem (by rw [blks_len]; exact h)]; rfl

/-! ### promises -/
/-- ones_in(b, u) -/
def sp_ones_in (_ : PySem.W.Frag) : Sp := fun vs H Q _ => ∃ (b : Int) (u : Nat), vs = [.int b, .int (u : Int)] ∧ u ≤ 1000 ∧ ∀ H', Same H H' → Q (.int (onesIn b u)) H'
theorem len_ones_in (K : PySem.W.Frag) : ∀ vs H Q E, sp_ones_in K vs H Q E → vs.length = 2 := by
  rintro vs H Q E ⟨b, u, rfl, _⟩; rfl
def t_ones_in (K : PySem.W.Frag) : TS :=
  (tRet (tCB (rSum K) (tCons (tLc (iRng1 (tCons (tVar 1) tNil)) (gName 2) tYes (tOp rAnd1 (tOp rShr (tVar 0) (tVar 2)) (tC (.int 1))) [2]) tNil)))
abbrev n_ones_in : List Str := ["block", "upto", "k"]

theorem rd_ones_in (K : PySem.W.Frag) (vs : List V) (H : Hp) (Q : VK) (E : XK) (h : sp_ones_in K vs H Q E) : t_ones_in K { nx := fun _ H' => Q .non H', rt := Q } (start n_ones_in vs) H := by
  obtain ⟨b, u, rfl, hu, q⟩ := h
  unfold t_ones_in
  walk_at "st"
  refine comp_rangeV (n := u) (f := fun k => .int (bit b k)) (by omega) (fun k H2 Q2 _ _ q2 => ?_) (fun p H' _ s e => ?_)
  · walk_at "st"
    exact q2 _ (Same.refl _)
  · walk_at "st"
    refine k_sum (ns := (List.range u).map fun k => bit b k) (.of ?_) ?_
    · rw [e, List.map_map]; rfl
    · rw [onesIn_sum]; walk_at "st"; exact q _ s

/-- ones_table(blocks), the blocks of a row -/
def sp_ones_table (K : PySem.W.Frag) : Sp := fun vs H Q _ => ∃ (a : Addr) (bs : List Int), vs = [.ref a] ∧ H a = some (.lst ((blks bs).map V.int)) ∧ bs.length ≤ 5000 ∧ Bits bs ∧ ∀ p H', H p = none → Same H H' → H' p = some (.tup ((aheadT bs).map V.int)) → Q (.ref p) H'
theorem len_ones_table (K : PySem.W.Frag) : ∀ vs H Q E, sp_ones_table K vs H Q E → vs.length = 1 := by
  rintro vs H Q E ⟨a, bs, rfl, _⟩; rfl
def t_ones_table (K : PySem.W.Frag) : TS :=
  (tSeq (tAsg (tLst (tCons (tC (.int 0)) tNil)) (gName 1))
  (tSeq (tFor (iList K (tVar 0)) (gName 2)
  (tDrop (tBM K "list" rAppend (tVar 1) (tCons (tOp rPlus (tOp (rIxL K) (tVar 1) (tUn rNeg (tC (.int 1)))) (tCall (sp_ones_in K) [] E0 (tCons (tVar 2) (tCons (tC (.int 32)) tNil)))) tNil))))
  (tRet (tCB (rTupOf K) (tCons (tVar 1) tNil)))))
abbrev n_ones_table : List Str := ["blocks", "ahead", "block"]

theorem rd_ones_table (K : PySem.W.Frag) (vs : List V) (H : Hp) (Q : VK) (E : XK) (h : sp_ones_table K vs H Q E) : t_ones_table K { nx := fun _ H' => Q .non H', rt := Q } (start n_ones_table vs) H := by
  obtain ⟨a, bs, rfl, hS, hl, hB, q⟩ := h
  unfold t_ones_table
  walk_at "st"
  intro p hp
  walk_at "st"
  refine m_iLe (.of ((same_new hp).get hS)) ?_
  refine loop_ints (ns := blks bs) (fun i σ H' => ∃ y, σ = [some (.ref a), some (.ref p), y] ∧ i ≤ (blks bs).length ∧ Same H H' ∧ H' p = some (.lst ((aheadN bs (i + 1)).map V.int))) ⟨none, rfl, Nat.zero_le _, same_new hp, by rw [upd_same]; rfl⟩ (fun i σ H' ⟨_, _, _, s, _⟩ => .of (s.get hS)) ?_ ?_
  · rintro i x σ H' hx ⟨y, rfl, hi, s, e⟩
    have hlt : i < (blks bs).length := (List.getElem?_eq_some_iff.mp hx).1
    have hlt2 := hlt
    rw [blks_len] at hlt2
    walk_at "st"
    refine k_tyL (.of e) ?_
    walk_at "st"
    refine k_ixL (.of e) (x := .int (sumTo bs (32 * i))) (by rw [aheadN_succ, List.map_append]; exact atI_last _ _) ?_
    walk_at "st"
    refine ⟨x, 32, rfl, by decide, fun H2 s2 => ?_⟩
    walk_at "st"
    refine k_app (s2.get e) (by rw [List.length_map, aheadN_len]; omega) ?_
    walk_at "st"
    have e2 := s2.get e
    refine ⟨_, rfl, hlt, Same.mut (s.trans s2) hp, ?_⟩
    rw [upd_same, aheadN_succ bs (i + 1), List.map_append, onesIn_blks hB hx 32 (Nat.le_refl _), show 32 * i + 32 = 32 * (i + 1) by omega, show sumTo bs (32 * i) + (sumTo bs (32 * (i + 1)) - sumTo bs (32 * i)) = sumTo bs (32 * (i + 1)) by omega]; rfl
  · rintro σ H' ⟨y, rfl, hi, s, e⟩
    walk_at "st"
    refine k_tupL (.of e) fun t ht => ?_
    walk_at "st"
    refine q t _ (s.gone _ ht) (s.trans (same_new ht)) ?_
    rw [upd_same, blks_len]; rfl
/-- kept_row(bits) -/
def sp_kept_row (K : PySem.W.Frag) : Sp := fun vs H Q E => ∃ (a : Addr) (bs : List Int), vs = [.ref a] ∧ SqL K H a (bs.map V.int) ∧ bs.length ≤ 100000 ∧
  (bs.length > 4096 → E (.ref (He.ga K "TooMany")) none H) ∧
  (bs.length ≤ 4096 → ¬ Bits bs → ∀ H', Same H H' → E (.ref (He.ga K "NoBit")) none H') ∧
  (bs.length ≤ 4096 → Bits bs → ∀ p t pa pb H', H p = none → H t = none → H pa = none → H pb = none → Same H H' → H' p = some (.tup [.ref t, .ref pb]) → H' t = some (.tup [.int (bs.length : Int), .ref pa]) → H' pa = some (.tup ((aheadT bs).map V.int)) → H' pb = some (.lst ((blks bs).map V.int)) → Q (.ref p) H')
theorem len_kept_row (K : PySem.W.Frag) : ∀ vs H Q E, sp_kept_row K vs H Q E → vs.length = 1 := by
  rintro vs H Q E ⟨a, bs, rfl, _⟩; rfl
def t_kept_row (K : PySem.W.Frag) (E : XK) : TS :=
  (tSeq (tAsg (tCall (sp_packed K) [] E (tCons (tVar 0) tNil)) (gName 1))
  (tRet (tTup (tCons (tTup (tCons (tCB (rLen K) (tCons (tVar 0) tNil)) (tCons (tCall (sp_ones_table K) [] E0 (tCons (tVar 1) tNil)) tNil))) (tCons (tVar 1) tNil)))))
abbrev n_kept_row : List Str := ["bits", "blocks"]

theorem rd_kept_row (K : PySem.W.Frag) (vs : List V) (H : Hp) (Q : VK) (E : XK) (h : sp_kept_row K vs H Q E) : t_kept_row K E { nx := fun _ H' => Q .non H', rt := Q } (start n_kept_row vs) H := by
  obtain ⟨a, bs, rfl, hS, hl, q1, q2, q3⟩ := h
  unfold t_kept_row
  walk_at "st"
  refine ⟨a, bs, rfl, hS, hl, q1, q2, fun hm hB pb H1 hpb s1 e1 => ?_⟩
  walk_at "st"
  refine k_lenL (s1.seq hS) ?_
  walk_at "st"
  rw [List.length_map]
  refine ⟨pb, bs, rfl, e1, by omega, hB, fun pa H2 hpa s2 e2 => ?_⟩
  walk_at "st"
  intro t ht
  walk_at "st"
  intro p hp
  walk_at "st"
  have s3 := same_new (o := .tup [.int (bs.length : Int), .ref pa]) ht
  have s4 := same_new (o := .tup [.ref t, .ref pb]) hp
  exact q3 hm hB p t pa pb _ ((s1.trans (s2.trans s3)).gone _ hp) ((s1.trans s2).gone _ ht) (s1.gone _ hpa) hpb (s1.trans (s2.trans (s3.trans s4))) upd_same (s4.get upd_same) (s4.get (s3.get e2)) (s4.get (s3.get (s2.get e1)))

/-- the net of the first k bits -/
def net (b : Int) (k : Nat) : Int := 2 * onesIn b k - k
theorem net_succ (b : Int) (k : Nat) : net b (k + 1) = net b k + (2 * bit b k - 1) := by
  unfold net; show 2 * (onesIn b k + bit b k) - ((k + 1 : Nat) : Int) = _
  push_cast; omega
theorem net_zero (b : Int) : net b 0 = 0 := rfl
/-- the least net of the first 1 .. n bits, 1 at none -/
def lowIn (b : Int) : Nat → Int
  | 0 => 1
  | n + 1 => if net b (n + 1) < lowIn b n then net b (n + 1) else lowIn b n
theorem lowIn_le (b : Int) (n : Nat) : ∀ k, 1 ≤ k → k ≤ n → lowIn b n ≤ net b k := by
  induction n with
  | zero => intro k h1 h2; omega
  | succ n ih =>
    intro k h1 h2
    unfold lowIn
    rcases Nat.lt_or_ge k (n + 1) with h | h
    · have := ih k h1 (by omega); split <;> omega
    · have : k = n + 1 := by omega
      subst this; split <;> omega
theorem net_one (b : Int) : net b 1 ≤ 1 := by
  rw [net_succ, net_zero]; have := bit_cases b 0; omega
theorem lowIn_mem (b : Int) (n : Nat) (hn : 1 ≤ n) : ∃ k, 1 ≤ k ∧ k ≤ n ∧ lowIn b n = net b k := by
  induction n with
  | zero => omega
  | succ n ih =>
    unfold lowIn
    rcases Nat.eq_zero_or_pos n with h | h
    · subst h
      refine ⟨1, by omega, by omega, ?_⟩
      have := net_one b
      show (if net b 1 < 1 then net b 1 else 1) = net b 1
      split <;> omega
    · obtain ⟨k, h1, h2, h3⟩ := ih h
      split
      · exact ⟨n + 1, by omega, by omega, rfl⟩
      · exact ⟨k, h1, by omega, h3⟩

/-- the height at a place -/
def hgt (bs : List Int) (n : Nat) : Int := 2 * sumTo bs n - n
theorem hgt_zero (bs : List Int) : hgt bs 0 = 0 := rfl
theorem hgt_succ (bs : List Int) (n : Nat) : hgt bs (n + 1) = hgt bs n + (2 * bs.getD n 0 - 1) := by
  unfold hgt; rw [sumTo_succ]; push_cast; omega
theorem net_blks {bs : List Int} (h : Bits bs) {j : Nat} {b : Int} (e : (blks bs)[j]? = some b) (k : Nat) (hk : k ≤ 32) : net b k = hgt bs (32 * j + k) - hgt bs (32 * j) := by
  unfold net hgt; rw [onesIn_blks h e k hk]; push_cast; omega
/-- the least of 1 and the heights at 1 .. n -/
def lowTo (bs : List Int) : Nat → Int
  | 0 => 1
  | n + 1 => if hgt bs (n + 1) < lowTo bs n then hgt bs (n + 1) else lowTo bs n
theorem lowTo_le (bs : List Int) (n : Nat) : lowTo bs n ≤ 1 ∧ ∀ k, 1 ≤ k → k ≤ n → lowTo bs n ≤ hgt bs k := by
  induction n with
  | zero => exact ⟨Int.le_refl _, fun k h1 h2 => by omega⟩
  | succ n ih =>
    unfold lowTo
    refine ⟨by have := ih.1; split <;> omega, fun k h1 h2 => ?_⟩
    rcases Nat.lt_or_ge k (n + 1) with h | h
    · have := ih.2 k h1 (by omega); split <;> omega
    · have : k = n + 1 := by omega
      subst this; split <;> omega
theorem lowTo_mem (bs : List Int) (n : Nat) : lowTo bs n = 1 ∨ ∃ k, 1 ≤ k ∧ k ≤ n ∧ lowTo bs n = hgt bs k := by
  induction n with
  | zero => exact .inl rfl
  | succ n ih =>
    unfold lowTo
    split
    · exact .inr ⟨n + 1, by omega, by omega, rfl⟩
    · rcases ih with h | ⟨k, h1, h2, h3⟩
      · exact .inl h
      · exact .inr ⟨k, h1, by omega, h3⟩
/-- a block more -/
theorem lowTo_block {bs : List Int} (h : Bits bs) {j : Nat} {b : Int} (e : (blks bs)[j]? = some b) {k : Nat} (h1 : 1 ≤ k) (hk : k ≤ 32) :
    (if hgt bs (32 * j) + lowIn b k < lowTo bs (32 * j) then hgt bs (32 * j) + lowIn b k else lowTo bs (32 * j)) = lowTo bs (32 * j + k) := by
  have a1 := lowTo_le bs (32 * j)
  have a2 := lowTo_mem bs (32 * j)
  have b1 := lowTo_le bs (32 * j + k)
  have b2 := lowTo_mem bs (32 * j + k)
  have c1 := lowIn_le b k
  obtain ⟨i, i1, i2, i3⟩ := lowIn_mem b k h1
  have d1 := net_blks h e i (by omega)
  have d2 := b1.2 (32 * j + i) (by omega) (by omega)
  have d3 : ∀ m, 1 ≤ m → m ≤ 32 * j + k → (lowTo bs (32 * j) ≤ hgt bs m ∨ hgt bs (32 * j) + lowIn b k ≤ hgt bs m) := by
    intro m m1 m2
    rcases Nat.lt_or_ge (32 * j) m with l | l
    · have g := c1 (m - 32 * j) (by omega) (by omega)
      rw [net_blks h e (m - 32 * j) (by omega), show 32 * j + (m - 32 * j) = m by omega] at g
      exact .inr (by omega)
    · exact .inl (a1.2 m m1 l)
  have d4 : lowTo bs (32 * j + k) ≤ lowTo bs (32 * j) := by
    rcases a2 with g | ⟨m, m1, m2, m3⟩
    · have := b1.1; omega
    · have := b1.2 m m1 (by omega); omega
  have d5 : lowTo bs (32 * j) ≤ lowTo bs (32 * j + k) ∨ hgt bs (32 * j) + lowIn b k ≤ lowTo bs (32 * j + k) := by
    rcases b2 with g | ⟨m, m1, m2, m3⟩
    · have := a1.1; exact .inl (by omega)
    · rcases d3 m m1 m2 with g | g
      · exact .inl (by omega)
      · exact .inr (by omega)
  split <;> omega

/-- a row that is a tree's: its height is nought at both ends alone -/
def IsTree (bs : List Int) : Prop := 2 ≤ bs.length ∧ hgt bs bs.length = 0 ∧ ∀ k, 0 < k → k < bs.length → 0 < hgt bs k
theorem hgt_cons (b : Int) (bs : List Int) (n : Nat) : hgt (b :: bs) (n + 1) = (2 * b - 1) + hgt bs n := by
  unfold hgt sumTo
  rw [List.take_succ_cons, List.sum_cons]; push_cast; omega
theorem hgt_left {as bs : List Int} {n : Nat} (h : n ≤ as.length) : hgt (as ++ bs) n = hgt as n := by
  unfold hgt sumTo
  rw [List.take_append_of_le_length h]
/-- from height h on bs goes, never below 1, to h' -/
def Up : Int → List Int → Int → Prop
  | h, [], h' => h = h'
  | h, b :: bs, h' => (b = 0 ∨ b = 1) ∧ 1 ≤ h + (2 * b - 1) ∧ Up (h + (2 * b - 1)) bs h'
theorem Up.app : ∀ {as bs : List Int} {h m h' : Int}, Up h as m → Up m bs h' → Up h (as ++ bs) h'
  | [], _, _, _, _, h1, h2 => by cases (show _ = _ from h1); exact h2
  | _ :: _, _, _, _, _, ⟨a1, a2, a3⟩, h2 => ⟨a1, a2, Up.app a3 h2⟩
theorem Up.bits : ∀ {bs : List Int} {h h' : Int}, Up h bs h' → Bits bs
  | [], _, _, _ => fun x hx => by cases hx
  | b :: bs, _, _, ⟨a1, _, a3⟩ => fun x hx => by
    rcases List.mem_cons.mp hx with rfl | z
    · exact a1
    · exact Up.bits a3 x z
theorem Up.hgt : ∀ {bs : List Int} {h h' : Int}, Up h bs h' → h + hgt bs bs.length = h' ∧ ∀ k, 0 < k → k ≤ bs.length → 1 ≤ h + Tw.hgt bs k
  | [], h, h', e => by
    have e : h = h' := e
    refine ⟨by show h + Tw.hgt [] 0 = h'; rw [hgt_zero]; omega, fun k h1 h2 => ?_⟩
    rw [List.length_nil] at h2; omega
  | b :: bs, h, h', ⟨a1, a2, a3⟩ => by
    obtain ⟨r1, r2⟩ := Up.hgt a3
    refine ⟨by rw [List.length_cons, hgt_cons]; omega, fun k h1 h2 => ?_⟩
    obtain ⟨k, rfl⟩ : ∃ j, k = j + 1 := ⟨k - 1, by omega⟩
    rw [hgt_cons]
    rcases Nat.eq_zero_or_pos k with rfl | hk
    · rw [hgt_zero]; omega
    · have := r2 k hk (by rw [List.length_cons] at h2; omega); omega
theorem up_ones : ∀ (n : Nat) {h : Int}, 0 ≤ h → Up h (List.replicate n 1) (h + n)
  | 0, h, _ => by show h = _; omega
  | n + 1, h, hh => ⟨.inr rfl, by omega, by
    have := up_ones n (h := h + (2 * 1 - 1)) (by omega)
    rw [show h + ((n + 1 : Nat) : Int) = h + (2 * 1 - 1) + (n : Int) by omega]; exact this⟩
theorem up_noughts : ∀ (n : Nat) {h : Int}, (n : Int) ≤ h - 1 → Up h (List.replicate n 0) (h - n)
  | 0, h, _ => by show h = _; omega
  | n + 1, h, hh => ⟨.inl rfl, by omega, by
    have := up_noughts n (h := h + (2 * 0 - 1)) (by omega)
    rw [show h - ((n + 1 : Nat) : Int) = h + (2 * 0 - 1) - (n : Int) by omega]; exact this⟩
theorem up_flat : ∀ (n : Nat) {h : Int}, 1 ≤ h → Up h (List.replicate n ([1, 0] : List Int)).flatten h
  | 0, h, _ => rfl
  | n + 1, h, hh => by
    rw [List.replicate_succ, List.flatten_cons]
    refine Up.app (m := h) ⟨.inr rfl, by omega, .inl rfl, by omega, ?_⟩ (up_flat n hh)
    show _ = h; omega
theorem tree_of_up {bs : List Int} {h : Int} (u : Up 0 bs h) (h1 : 1 ≤ h) : IsTree (bs ++ List.replicate h.toNat 0) := by
  have u2 := u.app (up_noughts (h.toNat - 1) (h := h) (by omega))
  rw [show h - ((h.toNat - 1 : Nat) : Int) = 1 by omega] at u2
  have e : bs ++ List.replicate h.toNat 0 = (bs ++ List.replicate (h.toNat - 1) 0) ++ [0] := by
    rw [List.append_assoc]
    congr 1
    rw [show ([0] : List Int) = List.replicate 1 0 from rfl, List.replicate_append_replicate]
    congr 1; omega
  rw [e]
  generalize bs ++ List.replicate (h.toNat - 1) 0 = cs at u2
  obtain ⟨g1, g2⟩ := u2.hgt
  have hc : 0 < cs.length := by
    rcases Nat.eq_zero_or_pos cs.length with z | z
    · rw [z, hgt_zero] at g1; omega
    · exact z
  refine ⟨by rw [List.length_append, List.length_singleton]; omega, ?_, fun k k1 k2 => ?_⟩
  · rw [List.length_append, List.length_singleton, hgt_succ, hgt_left (Nat.le_refl _)]
    rw [List.getD_eq_getElem?_getD, List.getElem?_append_right (Nat.le_refl _), Nat.sub_self]
    show _ + (2 * 0 - 1) = _
    omega
  · rw [List.length_append, List.length_singleton] at k2
    rw [hgt_left (by omega)]
    have := g2 k k1 (by omega); omega

/-- is_tree(bits) -/
def sp_is_tree (K : PySem.W.Frag) : Sp := fun vs H Q _ => ∃ (a : Addr) (bs : List Int), vs = [.ref a] ∧ SqL K H a (bs.map V.int) ∧ bs.length ≤ 100000 ∧ ∀ (b : Bool) H', (b = true ↔ IsTree bs) → Same H H' → Q (.bl b) H'
theorem len_is_tree (K : PySem.W.Frag) : ∀ vs H Q E, sp_is_tree K vs H Q E → vs.length = 1 := by
  rintro vs H Q E ⟨x, y, rfl, _⟩; rfl
def t_is_tree (K : PySem.W.Frag) : TS :=
  (tSeq (tAsg (tC (.int 0)) (gName 1))
  (tSeq (tFor (iEnum K (tCons (tVar 0) tNil)) (gTup K 2 (gCons (gName 2) (gCons (gName 3) gNil)))
  (tSeq (tAug 1 (tOp rMinus (tOp rTimes (tC (.int 2)) (tVar 3)) (tC (.int 1))) (ipI fun i j => i + j))
  (tIfS (tAnd (tTest (tOp rLe (tVar 1) (tC (.int 0)))) (tTest (tOp rLt (tOp rPlus (tVar 2) (tC (.int 1))) (tCB (rLen K) (tCons (tVar 0) tNil)))))
  (tRet (tC (.bl false)))
  tNext)))
  (tRet (tAndV (tOp rGtI (tCB (rLen K) (tCons (tVar 0) tNil)) (tC (.int 1))) (tOp rEq (tVar 1) (tC (.int 0)))))))
abbrev n_is_tree : List Str := ["bits", "high", "at", "bit"]

theorem rd_is_tree (K : PySem.W.Frag) (vs : List V) (H : Hp) (Q : VK) (E : XK) (h : sp_is_tree K vs H Q E) : t_is_tree K { nx := fun _ H' => Q .non H', rt := Q } (start n_is_tree vs) H := by
  obtain ⟨a, bs, rfl, hS, hl, q⟩ := h
  unfold t_is_tree
  walk_at "st"
  refine m_enumE hS ?_
  refine loop_walk walk_enum (fun i σ H' => ∃ y z, σ = [some (.ref a), some (.int (hgt bs i)), y, z] ∧ i ≤ bs.length ∧ Same H H' ∧ ∀ k, 0 < k → k ≤ i → k < bs.length → 0 < hgt bs k) ⟨none, none, rfl, Nat.zero_le _, Same.refl _, fun k h1 h2 => by omega⟩ (fun i σ H' ⟨y, z, _, _, s, _⟩ => s.seq hS) ?_ ?_
  · rintro i v σ H1 H2 hi ⟨y, z, rfl, _, s, hb⟩ ⟨T, x, w, rfl, hT, rfl, ex, ew⟩
    rw [List.length_map] at hi
    obtain ⟨b, hbi, rfl⟩ := of_mapint ew
    obtain rfl : x = .int (i : Nat) := (Option.some.inj ex).symm
    have s2 := s.trans (same_new (o := .tup [.int (i : Nat), .int b]) hT)
    refine m_gTup (.of upd_same) rfl ?_
    generalize upd H1 T (.tup [.int (i : Nat), .int b]) = H3 at s2 ⊢
    walk_at "st"
    have eh : hgt bs i + (2 * b - 1) = hgt bs (i + 1) := by rw [hgt_succ, List.getD_eq_getElem?_getD, hbi]; rfl
    rw [eh]
    walk_at "if" <;> intro c0
    · walk_at "st"
      refine k_lenL (s2.seq hS) ?_
      walk_at "st"
      rw [List.length_map]
      walk_at "if" <;> intro c1
      · walk_at "st"
        exact q false _ ⟨fun z => Bool.noConfusion z, fun z => by have := z.2.2 (i + 1) (by omega) (by omega); omega⟩ s2
      · walk_at "st"
        exact ⟨_, _, rfl, by omega, s2, fun k h1 h2 h3 => hb k h1 (by omega) h3⟩
    · walk_at "st"
      refine ⟨_, _, rfl, by omega, s2, fun k h1 h2 h3 => ?_⟩
      rcases Nat.lt_or_ge k (i + 1) with w | w
      · exact hb k h1 (by omega) h3
      · rw [show k = i + 1 by omega]; omega
  rintro σ H1 ⟨y, z, rfl, _, s, hb⟩
  rw [List.length_map] at hb
  walk_at "st"
  refine k_lenL (s.seq hS) ?_
  walk_at "st"
  rw [List.length_map]
  walk_at "if" <;> intro c1
  · walk_at "st"
    refine q _ _ ?_ s
    rw [decide_eq_true_iff]
    exact ⟨fun z => ⟨by omega, z, fun k h1 h2 => hb k h1 (by omega) h2⟩, fun z => z.2.1⟩
  · walk_at "st"
    exact q false _ ⟨fun z => Bool.noConfusion z, fun z => by have := z.1; omega⟩ s

/-! ### the heap over places: the least power of two -/
/-- the doublings from 1 until many are reached -/
def hOf (many : Nat) : Nat := if many ≤ 1 then 0 else (many - 1).log2 + 1
theorem hOf_le (many : Nat) : many ≤ 2 ^ hOf many := by
  unfold hOf
  split
  · rw [Nat.pow_zero]; omega
  · have := Nat.lt_log2_self (n := many - 1)
    omega
theorem hOf_lt {many k : Nat} (h : k < hOf many) : 2 ^ k < many := by
  unfold hOf at h
  split at h
  · omega
  · have h1 : 2 ^ k ≤ 2 ^ (many - 1).log2 := Nat.pow_le_pow_right (by decide) (by omega)
    have h2 := Nat.log2_self_le (n := many - 1) (by omega)
    omega
theorem hOf_small {many : Nat} (h : many ≤ 4096) : hOf many ≤ 12 := by
  rcases Nat.lt_or_ge 12 (hOf many) with z | z
  · have := hOf_lt z; omega
  · exact z
/-- size_of(many) -/
def sp_size_of (_ : PySem.W.Frag) : Sp := fun vs H Q _ => ∃ many : Nat, vs = [.int (many : Int)] ∧ many ≤ 100000 ∧ Q (.int ((2 ^ hOf many : Nat) : Int)) H
theorem len_size_of (K : PySem.W.Frag) : ∀ vs H Q E, sp_size_of K vs H Q E → vs.length = 1 := by
  rintro vs H Q E ⟨x, rfl, _⟩; rfl
def t_size_of (K : PySem.W.Frag) : TS :=
  (tSeq (tAsg (tC (.int 1)) (gName 1))
  (tSeq (tWhile (tTest (tOp rLt (tVar 1) (tVar 0)))
  (tAug 1 (tC (.int 2)) rTimes))
  (tRet (tVar 1))))
abbrev n_size_of : List Str := ["many", "size"]

theorem rd_size_of (K : PySem.W.Frag) (vs : List V) (H : Hp) (Q : VK) (E : XK) (h : sp_size_of K vs H Q E) : t_size_of K { nx := fun _ H' => Q .non H', rt := Q } (start n_size_of vs) H := by
  obtain ⟨many, rfl, hm, q⟩ := h
  unfold t_size_of
  walk_at "st"
  refine loop_while (fun m σ H' => ∃ k : Nat, m = hOf many - k ∧ k ≤ hOf many ∧ σ = [some (.int (many : Int)), some (.int ((2 ^ k : Nat) : Int))] ∧ H' = H) (hOf many) ⟨0, rfl, Nat.zero_le _, rfl, rfl⟩ ?_
  rintro m σ H' ⟨k, rfl, hk, rfl, rfl⟩
  walk_at "st"
  walk_at "if" <;> intro c
  · have c2 : 2 ^ k < many := by exact_mod_cast c
    have hk2 : k < hOf many := by
      rcases Nat.lt_or_ge k (hOf many) with z | z
      · exact z
      · have : k = hOf many := by omega
        subst this
        have := hOf_le many
        omega
    walk_at "st"
    refine ⟨hOf many - (k + 1), by omega, k + 1, rfl, hk2, ?_, rfl⟩
    rw [show ((2 ^ (k + 1) : Nat) : Int) = ((2 ^ k : Nat) : Int) * 2 by rw [Nat.pow_succ]; push_cast; rfl]; rfl
  · have c2 : ¬ 2 ^ k < many := by exact_mod_cast c
    have : k = hOf many := by
      rcases Nat.lt_or_ge k (hOf many) with z | z
      · exact absurd (hOf_lt z) c2
      · omega
    subst this
    walk_at "st"
    exact q

/-! ### what the nodes bear -/
def NV : Option Int → V
  | none => .non
  | some i => .int i
def minO : Option Int → Option Int → Option Int
  | none, b => b
  | a, none => a
  | some a, some b => some (if b < a then b else a)
def bearF (ns : List Int) (S : Nat) : Nat → Nat → Option Int
  | 0, n => if S ≤ n then ns[n - S]? else none
  | f + 1, n => if S ≤ n then ns[n - S]? else if n = 0 then none else minO (bearF ns S f (2 * n)) (bearF ns S f (2 * n + 1))
/-- what the node n bears, of 2 ^ h places -/
def bear (ns : List Int) (h n : Nat) : Option Int := bearF ns (2 ^ h) h n
theorem bearF_more {ns : List Int} {S : Nat} : ∀ {f n : Nat}, 1 ≤ n → S ≤ n * 2 ^ f → bearF ns S (f + 1) n = bearF ns S f n
  | 0, n, h1, h2 => by
    have h2 : S ≤ n := by simpa using h2
    show (if S ≤ n then _ else _) = (if S ≤ n then _ else _)
    rw [if_pos h2, if_pos h2]
  | f + 1, n, h1, h2 => by
    show (if S ≤ n then _ else _) = (if S ≤ n then _ else _)
    have e : n * 2 ^ (f + 1) = 2 * n * 2 ^ f := by rw [Nat.pow_succ, ← Nat.mul_assoc, Nat.mul_comm, ← Nat.mul_assoc]
    rw [e] at h2
    have h3 : S ≤ (2 * n + 1) * 2 ^ f := Nat.le_trans h2 (Nat.mul_le_mul_right _ (by omega))
    rw [bearF_more (f := f) (n := 2 * n) (by omega) h2, bearF_more (f := f) (n := 2 * n + 1) (by omega) h3]
theorem bear_leaf {ns : List Int} {h n : Nat} (l : 2 ^ h ≤ n) : bear ns h n = ns[n - 2 ^ h]? := by
  unfold bear
  cases h with
  | zero => exact if_pos l
  | succ h => exact if_pos l
theorem bear_zero (ns : List Int) (h : Nat) : bear ns h 0 = none := by
  unfold bear
  have := Nat.two_pow_pos h
  cases h with
  | zero => exact if_neg (by omega)
  | succ h => exact (if_neg (by omega)).trans (if_pos rfl)
theorem bear_node {ns : List Int} {h n : Nat} (h1 : 1 ≤ n) (h2 : n < 2 ^ h) : bear ns h n = minO (bear ns h (2 * n)) (bear ns h (2 * n + 1)) := by
  unfold bear
  cases h with
  | zero => simp at h2; omega
  | succ h =>
    have hx : 2 ^ (h + 1) ≤ 2 * n * 2 ^ h := by
      rw [Nat.pow_succ, Nat.mul_comm, Nat.mul_assoc]
      exact Nat.mul_le_mul_left 2 (Nat.le_mul_of_pos_left _ h1)
    have hy : 2 ^ (h + 1) ≤ (2 * n + 1) * 2 ^ h := Nat.le_trans hx (Nat.mul_le_mul_right _ (by omega))
    rw [bearF_more (f := h) (n := 2 * n) (by omega) hx, bearF_more (f := h) (n := 2 * n + 1) (by omega) hy]
    exact (if_neg (by omega)).trans (if_neg (by omega))
/-- the list of nodes, those from k on reckoned -/
def nodesFrom (ns : List Int) (h k : Nat) : List V := (List.range (2 * 2 ^ h)).map fun n => if k ≤ n then NV (bear ns h n) else .non
theorem nodesFrom_len (ns : List Int) (h k : Nat) : (nodesFrom ns h k).length = 2 * 2 ^ h := by unfold nodesFrom; simp
theorem nodesFrom_get {ns : List Int} {h k n : Nat} (hn : n < 2 * 2 ^ h) : (nodesFrom ns h k)[n]? = some (if k ≤ n then NV (bear ns h n) else .non) := by unfold nodesFrom; simp [hn]
theorem nodesFrom_start {ns : List Int} {h : Nat} (l : ns.length ≤ 2 ^ h) : List.replicate (2 ^ h) V.non ++ ns.map V.int ++ List.replicate (2 ^ h - ns.length) V.non = nodesFrom ns h (2 ^ h) := by
  apply List.ext_getElem?
  intro i
  rcases Nat.lt_or_ge i (2 * 2 ^ h) with hi | hi
  · rw [nodesFrom_get hi]
    rcases Nat.lt_or_ge i (2 ^ h) with z | z
    · rw [if_neg (by omega), List.append_assoc, List.getElem?_append_left (by rw [List.length_replicate]; exact z), List.getElem?_replicate, if_pos z]
    · rw [if_pos z, List.append_assoc, List.getElem?_append_right (by rw [List.length_replicate]; exact z), List.length_replicate, bear_leaf z]
      rcases Nat.lt_or_ge (i - 2 ^ h) ns.length with w | w
      · rw [List.getElem?_append_left (by rw [List.length_map]; exact w), List.getElem?_map, List.getElem?_eq_getElem w]; rfl
      · rw [List.getElem?_append_right (by rw [List.length_map]; exact w), List.getElem?_replicate, if_pos (by rw [List.length_map]; omega), List.getElem?_eq_none w]; rfl
  · rw [List.getElem?_eq_none (by simp; omega), List.getElem?_eq_none (by rw [nodesFrom_len]; exact hi)]
theorem nodesFrom_step {ns : List Int} {h k : Nat} (h1 : 1 ≤ k) (h2 : k < 2 ^ h) : (nodesFrom ns h (k + 1)).set k (NV (minO (bear ns h (2 * k)) (bear ns h (2 * k + 1)))) = nodesFrom ns h k := by
  apply List.ext_getElem?
  intro i
  rw [List.getElem?_set, nodesFrom_len]
  rcases Nat.lt_or_ge i (2 * 2 ^ h) with hi | hi
  · rw [nodesFrom_get hi, nodesFrom_get hi]
    by_cases e : k = i
    · subst e
      rw [if_pos rfl, if_pos (by omega), if_pos (Nat.le_refl _), bear_node h1 h2]
    · rw [if_neg e]
      by_cases g : k ≤ i
      · rw [if_pos g, if_pos (by omega)]
      · rw [if_neg g, if_neg (by omega)]
  · rw [List.getElem?_eq_none (by rw [nodesFrom_len]; exact hi), List.getElem?_eq_none (by rw [nodesFrom_len]; exact hi), if_neg (by omega)]
theorem nodesFrom_one (ns : List Int) (h : Nat) : nodesFrom ns h 1 = (List.range (2 * 2 ^ h)).map fun n => NV (bear ns h n) := by
  unfold nodesFrom
  apply List.map_congr_left
  intro n _
  split
  · rfl
  · rw [show n = 0 by omega, bear_zero]; rfl
/-- the heap of a row -/
def heapL (ns : List Int) : List V := (List.range (2 * 2 ^ hOf ns.length)).map fun n => NV (bear ns (hOf ns.length) n)
theorem heapL_len (ns : List Int) : (heapL ns).length = 2 * 2 ^ hOf ns.length := by unfold heapL; simp
theorem heapL_get {ns : List Int} {n : Nat} (hn : n < 2 * 2 ^ hOf ns.length) : (heapL ns)[n]? = some (NV (bear ns (hOf ns.length) n)) := by unfold heapL; simp [hn]

/-- lesser_of(one, other) -/
def sp_lesser_of (_ : PySem.W.Frag) : Sp := fun vs H Q _ => ∃ a b : Option Int, vs = [NV a, NV b] ∧ Q (NV (minO a b)) H
theorem len_lesser_of (K : PySem.W.Frag) : ∀ vs H Q E, sp_lesser_of K vs H Q E → vs.length = 2 := by
  rintro vs H Q E ⟨a, b, rfl, _⟩; rfl
def t_lesser_of (K : PySem.W.Frag) : TS :=
  (tSeq (tIfS (tTest (tOp rIsN (tVar 0) (tC .non)))
  (tRet (tVar 1))
  tNext)
  (tSeq (tIfS (tTest (tOp rIsN (tVar 1) (tC .non)))
  (tRet (tVar 0))
  tNext)
  (tRet (tCB rMin2 (tCons (tVar 0) (tCons (tVar 1) tNil))))))
abbrev n_lesser_of : List Str := ["one", "other"]

theorem rd_lesser_of (K : PySem.W.Frag) (vs : List V) (H : Hp) (Q : VK) (E : XK) (h : sp_lesser_of K vs H Q E) : t_lesser_of K { nx := fun _ H' => Q .non H', rt := Q } (start n_lesser_of vs) H := by
  obtain ⟨a, b, rfl, q⟩ := h
  unfold t_lesser_of
  cases a with
  | none =>
    rw [show NV none = V.non from rfl]
    walk_at "st"
    refine k_decT rfl ?_
    walk_at "st"
    exact q
  | some a =>
    rw [show NV (some a) = V.int a from rfl]
    walk_at "st"
    refine k_decF (fun z => nomatch z) ?_
    cases b with
    | none =>
      rw [show NV none = V.non from rfl]
      walk_at "st"
      refine k_decT rfl ?_
      walk_at "st"
      exact q
    | some b =>
      rw [show NV (some b) = V.int b from rfl]
      walk_at "st"
      refine k_decF (fun z => nomatch z) ?_
      walk_at "st"
      exact q

/-- heap_of(numbers) -/
def sp_heap_of (K : PySem.W.Frag) : Sp := fun vs H Q E => ∃ (a : Addr) (ns : List Int), vs = [.ref a] ∧ SqL K H a (ns.map V.int) ∧ ns.length ≤ 10000 ∧
  (4096 < ns.length → E (.ref (He.ga K "TooMany")) none H) ∧
  (ns.length ≤ 4096 → ∀ p H', H p = none → Same H H' → H' p = some (.lst (heapL ns)) → Q (.ref p) H')
theorem len_heap_of (K : PySem.W.Frag) : ∀ vs H Q E, sp_heap_of K vs H Q E → vs.length = 1 := by
  rintro vs H Q E ⟨a, ns, rfl, _⟩; rfl
def t_heap_of (K : PySem.W.Frag) (E : XK) : TS :=
  (tSeq (tIfS (tTest (tOp rGtI (tCB (rLen K) (tCons (tVar 0) tNil)) (tC (.int 4096))))
  (tRz (fun cls d _ H => E cls d H) (He.ga K "TooMany"))
  tNext)
  (tSeq (tAsg (tCall (sp_size_of K) [] E0 (tCons (tCB (rLen K) (tCons (tVar 0) tNil)) tNil)) (gName 1))
  (tSeq (tAsg (tOp rCat (tOp rCat (tOp rRep (tLst (tCons (tC .non) tNil)) (tVar 1)) (tCB (rListOf K) (tCons (tVar 0) tNil))) (tOp rRep (tLst (tCons (tC .non) tNil)) (tOp rMinus (tVar 1) (tCB (rLen K) (tCons (tVar 0) tNil))))) (gName 2))
  (tSeq (tFor (iRng3 (tCons (tOp rMinus (tVar 1) (tC (.int 1))) (tCons (tC (.int 0)) (tCons (tUn rNeg (tC (.int 1))) tNil)))) (gName 3)
  (tAsg (tCall (sp_lesser_of K) [] E0 (tCons (tOp (rIxL K) (tVar 2) (tOp rTimes (tC (.int 2)) (tVar 3))) (tCons (tOp (rIxL K) (tVar 2) (tOp rPlus (tOp rTimes (tC (.int 2)) (tVar 3)) (tC (.int 1)))) tNil))) (gSub (tVar 2) (tVar 3) rSetL)))
  (tRet (tVar 2))))))
abbrev n_heap_of : List Str := ["numbers", "size", "nodes", "node"]

theorem rd_heap_of (K : PySem.W.Frag) (vs : List V) (H : Hp) (Q : VK) (E : XK) (h : sp_heap_of K vs H Q E) : t_heap_of K E { nx := fun _ H' => Q .non H', rt := Q } (start n_heap_of vs) H := by
  obtain ⟨a, ns, rfl, hS, hl, q1, q2⟩ := h
  unfold t_heap_of
  walk_at "st"
  refine k_lenL hS ?_
  walk_at "st"
  rw [List.length_map]
  walk_at "if" <;> intro c
  · walk_at "st"
    exact q1 (by omega)
  walk_at "st"
  refine k_lenL hS ?_
  walk_at "st"
  rw [List.length_map]
  refine ⟨ns.length, rfl, by omega, ?_⟩
  have hle := hOf_le ns.length
  have hh := hOf_small (many := ns.length) (by omega)
  have hp12 := Nat.pow_le_pow_right (show 0 < 2 by decide) hh
  have hS0 := Nat.two_pow_pos (hOf ns.length)
  have q2 := q2 (by omega)
  unfold heapL at q2
  generalize hOf ns.length = h at q2 hle hh hp12 hS0 ⊢
  walk_at "st"
  intro p1 hp1
  walk_at "st"
  refine k_rep (xs := [.non]) upd_same (by simp only [List.length_cons, List.length_nil]; omega) (by omega) fun p2 hp2 => ?_
  rw [rep_one]
  have s2 := (same_new (o := .lst [.non]) hp1).trans (same_new (o := .lst (List.replicate (2 ^ h) V.non)) hp2)
  walk_at "st"
  refine k_listL (s2.seq hS) fun p3 hp3 => ?_
  refine k_cat ((same_new hp3).get upd_same) upd_same (by rw [List.length_replicate, List.length_map]; omega) fun p4 hp4 => ?_
  have s4 := s2.trans ((same_new (o := .lst (ns.map V.int)) hp3).trans (same_new (o := .lst (List.replicate (2 ^ h) V.non ++ ns.map V.int)) hp4))
  have e4 := upd_same (H := upd (upd (upd H p1 (.lst [.non])) p2 (.lst (List.replicate (2 ^ h) V.non))) p3 (.lst (ns.map V.int))) (a := p4) (o := .lst (List.replicate (2 ^ h) V.non ++ ns.map V.int))
  generalize upd (upd (upd (upd H p1 (.lst [.non])) p2 (.lst (List.replicate (2 ^ h) V.non))) p3 (.lst (ns.map V.int))) p4 (.lst (List.replicate (2 ^ h) V.non ++ ns.map V.int)) = H4 at s4 e4 ⊢
  walk_at "st"
  intro p5 hp5
  walk_at "st"
  refine k_lenL ((s4.trans (same_new hp5)).seq hS) ?_
  walk_at "st"
  rw [List.length_map, show ((2 ^ h : Nat) : Int) - (ns.length : Int) = ((2 ^ h - ns.length : Nat) : Int) by omega]
  refine k_rep (xs := [.non]) upd_same (by simp only [List.length_cons, List.length_nil]; omega) (by omega) fun p6 hp6 => ?_
  rw [rep_one]
  refine k_cat ((same_new hp6).get ((same_new hp5).get e4)) upd_same (by rw [List.length_append, List.length_replicate, List.length_map, List.length_replicate]; omega) fun p7 hp7 => ?_
  rw [nodesFrom_start hle]
  have hp7' : H p7 = none := (s4.trans ((same_new hp5).trans (same_new hp6))).gone _ hp7
  have s7 := s4.trans ((same_new (o := .lst [.non]) hp5).trans ((same_new (o := .lst (List.replicate (2 ^ h - ns.length) V.non)) hp6).trans (same_new (o := .lst (nodesFrom ns h (2 ^ h))) hp7)))
  have e7 := upd_same (H := upd (upd H4 p5 (.lst [.non])) p6 (.lst (List.replicate (2 ^ h - ns.length) V.non))) (a := p7) (o := .lst (nodesFrom ns h (2 ^ h)))
  generalize upd (upd (upd H4 p5 (.lst [.non])) p6 (.lst (List.replicate (2 ^ h - ns.length) V.non))) p7 (.lst (nodesFrom ns h (2 ^ h))) = H7 at s7 e7 ⊢
  walk_at "st"
  refine m_rng3e (RgC.neg (by omega) (by omega) (by decide) (by decide)) ?_
  rw [show (((2 ^ h : Nat) : Int) - 1 - 0).toNat = 2 ^ h - 1 by omega]
  refine loop_walk walk_rangeC (fun i σ H' => ∃ z, σ = [some (.ref a), some (.int ((2 ^ h : Nat) : Int)), some (.ref p7), z] ∧ i ≤ 2 ^ h - 1 ∧ Same H H' ∧ H' p7 = some (.lst (nodesFrom ns h (2 ^ h - i)))) ⟨none, rfl, Nat.zero_le _, s7, e7⟩ (fun _ _ _ _ => trivial) ?_ ?_
  · rintro i x σ H' H'' hi ⟨z, rfl, hi2, s, e⟩ ⟨rfl, ex⟩
    obtain ⟨k, hk1, hk2, hk3⟩ : ∃ k : Nat, 1 ≤ k ∧ k < 2 ^ h ∧ k = 2 ^ h - 1 - i := ⟨2 ^ h - 1 - i, by omega, by omega, rfl⟩
    obtain rfl : x = .int (k : Int) := by rw [ex]; show V.int _ = V.int _; congr 1; omega
    rw [show 2 ^ h - i = k + 1 by omega] at e
    walk_at "st"
    refine k_ixL (.of e) (at_int (x := NV (bear ns h (2 * k))) (by omega) (by rw [show ((2 : Int) * (k : Int)).toNat = 2 * k by omega, nodesFrom_get (by omega), if_pos (by omega)])) ?_
    walk_at "st"
    refine k_ixL (.of e) (at_int (x := NV (bear ns h (2 * k + 1))) (by omega) (by rw [show ((2 : Int) * (k : Int) + 1).toNat = 2 * k + 1 by omega, nodesFrom_get (by omega), if_pos (by omega)])) ?_
    walk_at "st"
    refine ⟨_, _, rfl, ?_⟩
    walk_at "st"
    refine m_setL e (ixN_nat (by omega) (by rw [nodesFrom_len]; omega)) ?_
    refine ⟨_, rfl, by omega, Same.mut s hp7', ?_⟩
    rw [upd_same, Int.toNat_natCast, nodesFrom_step hk1 hk2, show 2 ^ h - (i + 1) = k by omega]
  · rintro σ H' ⟨z, rfl, _, s, e⟩
    walk_at "st"
    rw [show 2 ^ h - (2 ^ h - 1) = 1 by omega, nodesFrom_one] at e
    exact q2 p7 H' hp7' s e

/-- low_in(b, u) -/
def sp_low_in (_ : PySem.W.Frag) : Sp := fun vs H Q _ => ∃ (b : Int) (u : Nat), vs = [.int b, .int (u : Int)] ∧ u ≤ 1000 ∧ Q (.int (lowIn b u)) H
theorem len_low_in (K : PySem.W.Frag) : ∀ vs H Q E, sp_low_in K vs H Q E → vs.length = 2 := by
  rintro vs H Q E ⟨x, y, rfl, _⟩; rfl
def t_low_in (K : PySem.W.Frag) : TS :=
  (tSeq (tAsg (tC (.int 0)) (gName 2))
  (tSeq (tAsg (tC (.int 1)) (gName 3))
  (tSeq (tFor (iRng1 (tCons (tVar 1) tNil)) (gName 4)
  (tSeq (tAug 2 (tOp rMinus (tOp rTimes (tC (.int 2)) (tOp rAnd1 (tOp rShr (tVar 0) (tVar 4)) (tC (.int 1)))) (tC (.int 1))) (ipI fun i j => i + j))
  (tAsg (tCB rMin2 (tCons (tVar 3) (tCons (tVar 2) tNil))) (gName 3))))
  (tRet (tVar 3)))))
abbrev n_low_in : List Str := ["block", "upto", "net", "least", "k"]

theorem rd_low_in (K : PySem.W.Frag) (vs : List V) (H : Hp) (Q : VK) (E : XK) (h : sp_low_in K vs H Q E) : t_low_in K { nx := fun _ H' => Q .non H', rt := Q } (start n_low_in vs) H := by
  obtain ⟨b, u, rfl, hu, q⟩ := h
  unfold t_low_in
  walk_at "st"
  refine loop_range0 (fun i σ H' => ∃ y, σ = [some (.int b), some (.int (u : Int)), some (.int (net b i)), some (.int (lowIn b i)), y] ∧ H' = H) ⟨none, rfl, rfl⟩ ?_ ?_
  · rintro i σ H' hi ⟨y, rfl, rfl⟩
    walk_at "st"
    refine ⟨some (.int (i : Int)), ?_, rfl⟩
    have e : net b i + (2 * (b / 2 ^ i % 2) - 1) = net b (i + 1) := (net_succ b i).symm
    rw [show b / 2 ^ (i : Int).toNat % 2 = b / 2 ^ i % 2 from rfl, e]; rfl
  · rintro σ H' ⟨y, rfl, rfl⟩
    walk_at "st"
    exact q

/-- the lowest heights of the blocks -/
def lowOf (bs : List Int) (j : Nat) : Int := hgt bs (32 * j) + lowIn ((blks bs).getD j 0) (min 32 (bs.length - 32 * j))
def lowsOf (bs : List Int) : List Int := (List.range ((bs.length + 31) / 32)).map (lowOf bs)
theorem lowsOf_len (bs : List Int) : (lowsOf bs).length = (bs.length + 31) / 32 := by unfold lowsOf; simp
theorem lowsOf_get (bs : List Int) {j : Nat} (h : j < (bs.length + 31) / 32) : (lowsOf bs)[j]? = some (lowOf bs j) := by unfold lowsOf; simp [h]
theorem lowOf_is {bs : List Int} (h : Bits bs) {j : Nat} (hj : j < (bs.length + 31) / 32) : (∃ k, 32 * j < k ∧ k ≤ 32 * j + 32 ∧ k ≤ bs.length ∧ lowOf bs j = hgt bs k) ∧ ∀ k, 32 * j < k → k ≤ 32 * j + 32 → k ≤ bs.length → lowOf bs j ≤ hgt bs k := by
  have e : (blks bs)[j]? = some ((blks bs).getD j 0) := by
    rw [List.getD_eq_getElem?_getD, List.getElem?_eq_getElem (by rw [blks_len]; exact hj)]; rfl
  have hu : 1 ≤ min 32 (bs.length - 32 * j) := by omega
  refine ⟨?_, fun k k1 k2 k3 => ?_⟩
  · obtain ⟨k, h1, h2, h3⟩ := lowIn_mem ((blks bs).getD j 0) _ hu
    rw [net_blks h e k (by omega)] at h3
    exact ⟨32 * j + k, by omega, by omega, by omega, by unfold lowOf; omega⟩
  · have := lowIn_le ((blks bs).getD j 0) (min 32 (bs.length - 32 * j)) (k - 32 * j) (by omega) (by omega)
    rw [net_blks h e (k - 32 * j) (by omega), show 32 * j + (k - 32 * j) = k by omega] at this
    unfold lowOf; omega

/-- begin_height(ahead, number) -/
def sp_begin_height (K : PySem.W.Frag) : Sp := fun vs H Q _ => ∃ (pa : Addr) (bs : List Int) (j : Nat), vs = [.ref pa, .int (j : Int)] ∧ SqT K H pa ((aheadT bs).map V.int) ∧ j ≤ (bs.length + 31) / 32 ∧ Q (.int (hgt bs (32 * j))) H
theorem len_begin_height (K : PySem.W.Frag) : ∀ vs H Q E, sp_begin_height K vs H Q E → vs.length = 2 := by
  rintro vs H Q E ⟨x, y, z, rfl, _⟩; rfl
def t_begin_height (K : PySem.W.Frag) : TS :=
  (tRet (tOp rMinus (tOp rTimes (tC (.int 2)) (tOp (rIxT K) (tVar 0) (tVar 1))) (tOp rTimes (tC (.int 32)) (tVar 1))))
abbrev n_begin_height : List Str := ["ahead", "number"]

theorem rd_begin_height (K : PySem.W.Frag) (vs : List V) (H : Hp) (Q : VK) (E : XK) (h : sp_begin_height K vs H Q E) : t_begin_height K { nx := fun _ H' => Q .non H', rt := Q } (start n_begin_height vs) H := by
  obtain ⟨pa, bs, j, rfl, hS, hj, q⟩ := h
  unfold t_begin_height
  walk_at "st"
  refine k_ixT hS (at_nat (mapint (aheadT_get bs hj))) ?_
  walk_at "st"
  rw [show (2 : Int) * sumTo bs (32 * j) - 32 * (j : Int) = hgt bs (32 * j) by unfold hgt; push_cast; rfl]
  exact q
/-- kept_brackets(bits) -/
def sp_kept_brackets (K : PySem.W.Frag) : Sp := fun vs H Q E => ∃ (a : Addr) (bs : List Int), vs = [.ref a] ∧ SqL K H a (bs.map V.int) ∧ bs.length ≤ 100000 ∧
  (bs.length > 4096 → E (.ref (He.ga K "TooMany")) none H) ∧
  (bs.length ≤ 4096 → ¬ Bits bs → ∀ H', Same H H' → E (.ref (He.ga K "NoBit")) none H') ∧
  (bs.length ≤ 4096 → Bits bs → ¬ IsTree bs → ∀ H', Same H H' → E (.ref (He.ga K "NoTree")) none H') ∧
  (bs.length ≤ 4096 → Bits bs → IsTree bs → ∀ p t pa ph pb H', H p = none → H pb = none → Same H H' → H' p = some (.tup [.ref t, .ref pb]) → H' t = some (.tup [.int (bs.length : Int), .ref pa, .ref ph]) → H' pa = some (.tup ((aheadT bs).map V.int)) → H' ph = some (.tup (heapL (lowsOf bs))) → H' pb = some (.lst ((blks bs).map V.int)) → Q (.ref p) H')
theorem len_kept_brackets (K : PySem.W.Frag) : ∀ vs H Q E, sp_kept_brackets K vs H Q E → vs.length = 1 := by
  rintro vs H Q E ⟨a, bs, rfl, _⟩; rfl
def t_kept_brackets (K : PySem.W.Frag) (E : XK) : TS :=
  (tSeq (tAsg (tCall (sp_kept_row K) [] E (tCons (tVar 0) tNil)) (gTup K 2 (gCons (gName 1) (gCons (gName 2) gNil))))
  (tSeq (tIfS (tNot (tB (tCall (sp_is_tree K) [] E0 (tCons (tVar 0) tNil))))
  (tRz (fun cls d _ H => E cls d H) (He.ga K "NoTree"))
  tNext)
  (tSeq (tAsg (tVar 1) (gTup K 2 (gCons (gName 3) (gCons (gName 4) gNil))))
  (tSeq (tAsg (tLst tNil) (gName 5))
  (tSeq (tFor (iEnum K (tCons (tVar 2) tNil)) (gTup K 2 (gCons (gName 6) (gCons (gName 7) gNil)))
  (tDrop (tBM K "list" rAppend (tVar 5) (tCons (tOp rPlus (tCall (sp_begin_height K) [] E0 (tCons (tVar 4) (tCons (tVar 6) tNil))) (tCall (sp_low_in K) [] E0 (tCons (tVar 7) (tCons (tCB rMin2 (tCons (tC (.int 32)) (tCons (tOp rMinus (tVar 3) (tOp rTimes (tC (.int 32)) (tVar 6))) tNil))) tNil)))) tNil))))
  (tRet (tTup (tCons (tTup (tCons (tVar 3) (tCons (tVar 4) (tCons (tCB (rTupOf K) (tCons (tCall (sp_heap_of K) [] E (tCons (tVar 5) tNil)) tNil)) tNil)))) (tCons (tVar 2) tNil)))))))))
abbrev n_kept_brackets : List Str := ["bits", "tables", "blocks", "many", "ahead", "lows", "number", "block"]

theorem rd_kept_brackets (K : PySem.W.Frag) (vs : List V) (H : Hp) (Q : VK) (E : XK) (h : sp_kept_brackets K vs H Q E) : t_kept_brackets K E { nx := fun _ H' => Q .non H', rt := Q } (start n_kept_brackets vs) H := by
  obtain ⟨a, bs, rfl, hS, hl, q1, q2, q3, q4⟩ := h
  unfold t_kept_brackets
  walk_at "st"
  refine ⟨a, bs, rfl, hS, hl, q1, q2, fun hm hB p t pa pb H1 hp ht hpa hpb s1 ep et ea eb => ?_⟩
  walk_at "st"
  refine m_gTup (.of ep) rfl ?_
  walk_at "st"
  refine ⟨a, bs, rfl, s1.seq hS, by omega, fun b H2 hb s2 => ?_⟩
  have s12 := s1.trans s2
  cases b with
  | false =>
    walk_at "st"
    exact q3 hm hB (fun z => Bool.noConfusion (hb.mpr z)) _ s12
  | true =>
  have hI := hb.mp rfl
  walk_at "st"
  refine m_gTup (.of (s2.get et)) rfl ?_
  walk_at "st"
  intro pl hpl
  have s3 := same_new (o := .lst []) hpl
  have e3 := upd_same (H := H2) (a := pl) (o := .lst [])
  generalize upd H2 pl (.lst []) = H3 at s3 e3 ⊢
  have s23 := s2.trans s3
  have s03 := s1.trans s23
  have hplH : H pl = none := s12.gone _ hpl
  have hpl1 : H1 pl = none := s2.gone _ hpl
  walk_at "st"
  refine m_enumE (.of (s23.get eb)) ?_
  have hbl := blks_len bs
  refine loop_walk walk_enum (fun i σ H' => ∃ y z, σ = [some (.ref a), some (.ref t), some (.ref pb), some (.int (bs.length : Int)), some (.ref pa), some (.ref pl), y, z] ∧ i ≤ (bs.length + 31) / 32 ∧ Same H1 H' ∧ H' pl = some (.lst (((List.range i).map (lowOf bs)).map V.int))) ⟨none, none, rfl, Nat.zero_le _, s23, e3⟩ (fun i σ H' ⟨y, z, _, _, s, _⟩ => .of (s.get eb)) ?_ ?_
  · rintro i v σ H4 H5 hi ⟨y, z, rfl, _, s, e⟩ ⟨T, x, w, rfl, hT, rfl, ex, ew⟩
    rw [List.length_map, hbl] at hi
    obtain ⟨b, hbi, rfl⟩ := of_mapint ew
    obtain rfl : x = .int (i : Nat) := (Option.some.inj ex).symm
    have sT := same_new (o := .tup [.int (i : Nat), .int b]) hT
    refine m_gTup (.of upd_same) rfl ?_
    generalize upd H4 T (.tup [.int (i : Nat), .int b]) = H6 at sT ⊢
    have s6 := s.trans sT
    walk_at "st"
    refine k_tyL (.of (sT.get e)) ?_
    walk_at "st"
    refine ⟨pa, bs, i, rfl, .of (s6.get ea), by omega, ?_⟩
    walk_at "st"
    have hu : (if (bs.length : Int) - 32 * (i : Int) < 32 then (bs.length : Int) - 32 * (i : Int) else 32) = ((min 32 (bs.length - 32 * i) : Nat) : Int) := by
      split <;> omega
    rw [hu]
    refine ⟨b, min 32 (bs.length - 32 * i), rfl, by omega, ?_⟩
    walk_at "st"
    refine k_app (sT.get e) (by rw [List.length_map, List.length_map, List.length_range]; omega) ?_
    walk_at "st"
    refine ⟨some (.int (i : Nat)), some (.int b), rfl, by omega, Same.mut s6 hpl1 ⟨_, sT.get e⟩, ?_⟩
    have elo : hgt bs (32 * i) + lowIn b (min 32 (bs.length - 32 * i)) = lowOf bs i := by
      unfold lowOf
      rw [List.getD_eq_getElem?_getD, hbi]; rfl
    rw [upd_same, elo, List.range_succ, List.map_append, List.map_append]; rfl
  rintro σ H4 ⟨y, z, rfl, _, s, e⟩
  rw [List.length_map, hbl] at e
  have e : H4 pl = some (.lst ((lowsOf bs).map V.int)) := e
  have hll := lowsOf_len bs
  walk_at "st"
  refine ⟨pl, lowsOf bs, rfl, .of e, by omega, fun z => by omega, fun _ ph0 H5 hph0 s5 e5 => ?_⟩
  walk_at "st"
  refine k_tupL (.of e5) fun ph hph => ?_
  have s6 := same_new (o := .tup (heapL (lowsOf bs))) hph
  have e6 := upd_same (H := H5) (a := ph) (o := .tup (heapL (lowsOf bs)))
  generalize upd H5 ph (.tup (heapL (lowsOf bs))) = H6 at s6 e6 ⊢
  walk_at "st"
  intro t2 ht2
  have s7 := same_new (o := .tup [.int (bs.length : Int), .ref pa, .ref ph]) ht2
  have e7 := upd_same (H := H6) (a := t2) (o := .tup [.int (bs.length : Int), .ref pa, .ref ph])
  generalize upd H6 t2 (.tup [.int (bs.length : Int), .ref pa, .ref ph]) = H7 at s7 e7 ⊢
  walk_at "st"
  intro p2 hp2
  have s8 := same_new (o := .tup [.ref t2, .ref pb]) hp2
  have s18 := s.trans ((s5.trans s6).trans s7)
  exact q4 hm hB hI p2 t2 pa ph pb _ ((s1.trans s18).gone _ hp2) hpb ((s1.trans s18).trans s8) upd_same (s8.get e7) (s8.get (s18.get ea)) (s8.get (s7.get e6)) (s8.get (s18.get eb))

/-- each depth behind the first is one of its place; a is the depth ahead -/
def DeepT (a : Int) : List Int → Prop
  | [] => True
  | d :: ds => 1 ≤ d ∧ d ≤ a + 1 ∧ DeepT d ds
/-- the depths of a tree -/
def Deep : List Int → Prop
  | [] => False
  | d :: ds => d = 0 ∧ DeepT 0 ds
/-- the last of a and what follows -/
def lastD (a : Int) : List Int → Int
  | [] => a
  | d :: ds => lastD d ds
theorem lastD_snoc (a : Int) : ∀ (ds : List Int) (x : Int), lastD a (ds ++ [x]) = x
  | [], _ => rfl
  | d :: ds, x => lastD_snoc d ds x
theorem deepT_snoc : ∀ {a : Int} {ds : List Int} {x : Int}, DeepT a ds → 1 ≤ x → x ≤ lastD a ds + 1 → DeepT a (ds ++ [x])
  | _, [], _, _, h1, h2 => ⟨h1, h2, trivial⟩
  | _, _ :: _, _, ⟨a1, a2, a3⟩, h1, h2 => ⟨a1, a2, deepT_snoc a3 h1 h2⟩
theorem lastD_nonneg : ∀ {a : Int} {ds : List Int}, 0 ≤ a → DeepT a ds → 0 ≤ lastD a ds
  | _, [], h, _ => h
  | _, d :: ds, _, ⟨a1, _, a3⟩ => (lastD_nonneg (a := d) (ds := ds) (by omega) a3 : 0 ≤ lastD d ds)
theorem lastD_get : ∀ (a : Int) (ds : List Int), (a :: ds)[ds.length]? = some (lastD a ds)
  | _, [] => rfl
  | a, d :: ds => by
    rw [show (d :: ds).length = ds.length + 1 from rfl, List.getElem?_cons_succ]
    exact lastD_get d ds
theorem deepT_get : ∀ {ds : List Int} {a : Int}, DeepT a ds → ∀ {i : Nat} {x y : Int}, (a :: ds)[i]? = some x → ds[i]? = some y → 1 ≤ y ∧ y ≤ x + 1
  | [], _, _, _, _, _, _, h => by simp at h
  | d :: ds, a, ⟨a1, a2, a3⟩, 0, x, y, h1, h2 => by
    simp only [List.getElem?_cons_zero, Option.some.injEq] at h1 h2
    subst h1 h2; exact ⟨a1, a2⟩
  | d :: ds, a, ⟨a1, a2, a3⟩, i + 1, x, y, h1, h2 => by
    rw [List.getElem?_cons_succ] at h1 h2
    exact deepT_get a3 h1 h2
theorem Deep.cons {ds : List Int} (h : Deep ds) : ∃ r, ds = 0 :: r ∧ DeepT 0 r := by
  cases ds with
  | nil => exact h.elim
  | cons d r => obtain ⟨rfl, h⟩ := h; exact ⟨r, rfl, h⟩
/-- the brackets behind the one of a node of depth a -/
def brkT (a : Int) : List Int → List Int
  | [] => List.replicate (a + 1).toNat 0
  | d :: ds => List.replicate (a + 1 - d).toNat 0 ++ 1 :: brkT d ds
/-- the brackets of depths -/
def brk : List Int → List Int
  | [] => []
  | d :: ds => 1 :: brkT d ds
theorem brkT_len : ∀ {a : Int} {ds : List Int}, 0 ≤ a → DeepT a ds → ((brkT a ds).length : Int) = a + 1 + 2 * ds.length
  | a, [], h, _ => by simp only [brkT, List.length_replicate, List.length_nil]; omega
  | a, d :: ds, h, ⟨a1, a2, a3⟩ => by
    have := brkT_len (by omega) a3
    simp only [brkT, List.length_append, List.length_replicate, List.length_cons]; omega
theorem brk_len {ds : List Int} (h : Deep ds) : (brk ds).length = 2 * ds.length := by
  obtain ⟨r, rfl, h2⟩ := h.cons
  have := brkT_len (by decide) h2
  simp only [brk, List.length_cons]; omega
theorem at_lastD (r : List Int) : atI (((0 : Int) :: r).map V.int) (-1) = some (.int (lastD 0 r)) := by
  unfold atI ixN
  rw [List.length_map, List.length_cons, if_neg (by decide), if_pos (by omega)]
  show ((((0 : Int) :: r).map V.int))[_]? = _
  rw [show (-1 + ((r.length + 1 : Nat) : Int)).toNat = r.length by omega]
  exact mapint (lastD_get 0 r)
/-- 1 + k % n, k = 0, 1, .. -/
theorem deepT_saw {n : Int} (hn : 0 < n) : ∀ m : Nat, DeepT 0 ((List.range m).map fun k : Nat => 1 + (k : Int) % n) ∧ (0 < m → lastD 0 ((List.range m).map fun k : Nat => 1 + (k : Int) % n) = 1 + ((m : Int) - 1) % n)
  | 0 => ⟨trivial, fun h => by omega⟩
  | m + 1 => by
    obtain ⟨h1, h2⟩ := deepT_saw hn m
    rw [List.range_succ, List.map_append]
    refine ⟨deepT_snoc h1 (by have := Int.emod_nonneg (m : Int) (show n ≠ 0 by omega); show 1 ≤ 1 + (m : Int) % n; omega) ?_, fun _ => ?_⟩
    · show 1 + (m : Int) % n ≤ _
      rcases Nat.eq_zero_or_pos m with rfl | hm
      · simp [lastD]
      · rw [h2 hm]
        have e := Int.emod_add_mul_ediv ((m : Int) - 1) n
        have p := Int.emod_nonneg ((m : Int) - 1) (show n ≠ 0 by omega)
        have l := Int.emod_lt_of_pos ((m : Int) - 1) hn
        have e2 : (m : Int) = (((m : Int) - 1) % n + 1) + n * (((m : Int) - 1) / n) := by omega
        have e3 : (m : Int) % n = (((m : Int) - 1) % n + 1) % n := by
          have := Int.add_mul_emod_self_left ((((m : Int) - 1) % n + 1)) n (((m : Int) - 1) / n)
          rw [← e2] at this; exact this
        rw [e3]
        by_cases h : ((m : Int) - 1) % n + 1 < n
        · rw [Int.emod_eq_of_lt (by omega) h]; omega
        · rw [show ((m : Int) - 1) % n + 1 = n by omega, Int.emod_self]; omega
    · show lastD 0 (_ ++ [1 + (m : Int) % n]) = _
      rw [lastD_snoc]
      congr 2; omega

/-- what is laid ahead of the last closing brackets -/
def brkF (a : Int) : List Int → List Int
  | [] => []
  | d :: ds => List.replicate (a + 1 - d).toNat 0 ++ 1 :: brkF d ds
theorem brkF_all : ∀ (a : Int) (ds : List Int), brkT a ds = brkF a ds ++ List.replicate (lastD a ds + 1).toNat 0
  | a, [] => rfl
  | a, d :: ds => by
    show _ ++ 1 :: brkT d ds = (_ ++ 1 :: brkF d ds) ++ List.replicate (lastD d ds + 1).toNat 0
    rw [brkF_all d ds]; simp
theorem brkF_snoc : ∀ (a : Int) (ds : List Int) (x : Int), brkF a (ds ++ [x]) = brkF a ds ++ List.replicate (lastD a ds + 1 - x).toNat 0 ++ [1]
  | a, [], x => by simp [brkF, lastD]
  | a, d :: ds, x => by
    show _ ++ 1 :: brkF d (ds ++ [x]) = (_ ++ 1 :: brkF d ds) ++ List.replicate (lastD d ds + 1 - x).toNat 0 ++ [1]
    rw [brkF_snoc d ds x]; simp
theorem brkF_le : ∀ {a : Int} {ds : List Int}, 0 ≤ a → DeepT a ds → ((brkF a ds).length : Int) ≤ a + 2 * ds.length
  | _, [], h, _ => by simp only [brkF, List.length_nil]; omega
  | a, d :: ds, h, ⟨a1, a2, a3⟩ => by
    have := brkF_le (by omega) a3
    simp only [brkF, List.length_append, List.length_replicate, List.length_cons]; omega
theorem deepT_take : ∀ {a : Int} {ds : List Int} (n : Nat), DeepT a ds → DeepT a (ds.take n)
  | _, [], n, _ => by rw [List.take_nil]; trivial
  | _, _ :: _, 0, _ => trivial
  | _, _ :: _, n + 1, ⟨a1, a2, a3⟩ => ⟨a1, a2, deepT_take n a3⟩
theorem lastD_take {x : Int} (ds : List Int) : ∀ {a : Int} {i : Nat}, (a :: ds)[i]? = some x → lastD a (ds.take i) = x := by
  induction ds with
  | nil =>
    intro a i h
    cases i with
    | zero => simpa [lastD] using h
    | succ i => simp at h
  | cons d ds ih =>
    intro a i h
    cases i with
    | zero => simpa [lastD] using h
    | succ i =>
      rw [List.getElem?_cons_succ] at h
      exact ih h
theorem lastD_le : ∀ {a : Int} {ds : List Int}, DeepT a ds → lastD a ds ≤ a + ds.length
  | _, [], _ => by simp [lastD]
  | a, d :: ds, ⟨a1, a2, a3⟩ => by
    have := lastD_le a3
    simp only [lastD, List.length_cons]; omega
/-- brackets_of(depths) -/
def sp_brackets_of (K : PySem.W.Frag) : Sp := fun vs H Q E => ∃ (a : Addr) (ds : List Int), vs = [.ref a] ∧ SqL K H a (ds.map V.int) ∧ ds.length ≤ 100000 ∧
  (2048 < ds.length → E (.ref (He.ga K "TooMany")) none H) ∧
  (ds.length ≤ 2048 → ¬ Deep ds → ∀ H', Same H H' → E (.ref (He.ga K "NoTree")) none H') ∧
  (ds.length ≤ 2048 → Deep ds → ∀ p H', H p = none → Same H H' → H' p = some (.lst ((brk ds).map V.int)) → Q (.ref p) H')
theorem len_brackets_of (K : PySem.W.Frag) : ∀ vs H Q E, sp_brackets_of K vs H Q E → vs.length = 1 := by
  rintro vs H Q E ⟨a, ds, rfl, _⟩; rfl
def t_brackets_of (K : PySem.W.Frag) (E : XK) : TS :=
  (tSeq (tIfS (tTest (tOp rGtI (tOp rTimes (tC (.int 2)) (tCB (rLen K) (tCons (tVar 0) tNil))) (tC (.int 4096))))
  (tRz (fun cls d _ H => E cls d H) (He.ga K "TooMany"))
  tNext)
  (tSeq (tIfS (tOr (tTest (tOp rEq (tCB (rLen K) (tCons (tVar 0) tNil)) (tC (.int 0)))) (tTest (tOp rNe (tOp (rIxL K) (tVar 0) (tC (.int 0))) (tC (.int 0)))))
  (tRz (fun cls d _ H => E cls d H) (He.ga K "NoTree"))
  tNext)
  (tSeq (tAsg (tLst (tCons (tC (.int 1)) tNil)) (gName 1))
  (tSeq (tFor (iZip K (tCons (tVar 0) (tCons (tSl (rSlL K) (tVar 0) (tPart (tC (.int 1))) tNoPart) tNil))) (gTup K 2 (gCons (gName 2) (gCons (gName 3) gNil)))
  (tSeq (tIfS (tOr (tTest (tOp rLt (tVar 3) (tC (.int 1)))) (tTest (tOp rGtI (tVar 3) (tOp rPlus (tVar 2) (tC (.int 1))))))
  (tRz (fun cls d _ H => E cls d H) (He.ga K "NoTree"))
  tNext)
  (tSeq (tDrop (tBM K "list" rExtend (tVar 1) (tCons (tOp rRep (tLst (tCons (tC (.int 0)) tNil)) (tOp rMinus (tOp rPlus (tVar 2) (tC (.int 1))) (tVar 3))) tNil)))
  (tDrop (tBM K "list" rAppend (tVar 1) (tCons (tC (.int 1)) tNil))))))
  (tSeq (tDrop (tBM K "list" rExtend (tVar 1) (tCons (tOp rRep (tLst (tCons (tC (.int 0)) tNil)) (tOp rPlus (tOp (rIxL K) (tVar 0) (tUn rNeg (tC (.int 1)))) (tC (.int 1)))) tNil)))
  (tRet (tVar 1)))))))
abbrev n_brackets_of : List Str := ["depths", "bits", "ahead", "deep"]

theorem rd_brackets_of (K : PySem.W.Frag) (vs : List V) (H : Hp) (Q : VK) (E : XK) (h : sp_brackets_of K vs H Q E) : t_brackets_of K E { nx := fun _ H' => Q .non H', rt := Q } (start n_brackets_of vs) H := by
  obtain ⟨a, ds, rfl, hS, hl0, q1, q2, q⟩ := h
  unfold t_brackets_of
  walk_at "st"
  refine k_lenL hS ?_
  walk_at "st"
  rw [List.length_map]
  walk_at "if" <;> intro c0
  · walk_at "st"
    exact q1 (by omega)
  have hl : ds.length ≤ 2048 := by omega
  walk_at "st"
  refine k_lenL hS ?_
  walk_at "st"
  rw [List.length_map]
  walk_at "if" <;> intro c1
  · walk_at "st"
    refine q2 hl (fun z => ?_) H (Same.refl H)
    obtain ⟨r, rfl, _⟩ := z.cons
    rw [List.length_cons] at c1; omega
  obtain ⟨d0, r, rfl⟩ : ∃ d0 r, ds = d0 :: r := by
    cases ds with
    | nil => exact absurd rfl c1
    | cons x xs => exact ⟨x, xs, rfl⟩
  walk_at "st"
  refine k_ixL hS (x := .int d0) (at_int (by decide) rfl) ?_
  walk_at "st"
  walk_at "if" <;> intro c2
  · walk_at "st"
    refine q2 hl (fun z => c2 z.1) H (Same.refl H)
  subst c2
  have hrl : r.length ≤ 2047 := by rw [List.length_cons] at hl; omega
  walk_at "st"
  intro p hp
  have s0 := same_new (o := .lst [.int 1]) hp
  have e0 := upd_same (H := H) (a := p) (o := .lst [.int 1])
  generalize upd H p (.lst [.int 1]) = H1 at s0 e0 ⊢
  walk_at "st"
  refine k_slL (s0.seq hS) fun p2 hp2 => ?_
  have ec : cutV (((0 : Int) :: r).map V.int) (some 1) none = r.map V.int := by simpa using cutDrop (((0 : Int) :: r).map V.int) 1
  rw [ec]
  have s1 := same_new (o := .lst (r.map V.int)) hp2
  have e1 := upd_same (H := H1) (a := p2) (o := .lst (r.map V.int))
  have np : p2 ≠ p := Ne.symm (ne_of_none e0 hp2)
  generalize upd H1 p2 (.lst (r.map V.int)) = H2 at s1 e1 ⊢
  have s02 := s0.trans s1
  walk_at "st"
  refine m_zipE (s02.seq hS) (.of e1) ?_
  refine loop_walk (walk_zip (n := r.length) (by simp)) (fun i σ H' => ∃ x y, σ = [some (.ref a), some (.ref p), x, y] ∧ i ≤ r.length ∧ Same H H' ∧ H' p2 = some (.lst (r.map V.int)) ∧ H' p = some (.lst ((1 :: brkF 0 (r.take i)).map V.int)) ∧ DeepT 0 (r.take i)) ⟨none, none, rfl, Nat.zero_le _, s02, e1, ?_, ?_⟩ (fun i σ H' ⟨_, _, _, _, s, e, _⟩ => ⟨s.seq hS, .of e⟩) ?_ ?_
  · rw [List.take_zero]; exact s1.get e0
  · rw [List.take_zero]; trivial
  · rintro i v σ H3 H4 hi ⟨y, z, rfl, _, s, e2, e, hD⟩ ⟨T, x, w, rfl, hT, rfl, ex, ew⟩
    obtain ⟨dp, hdp, rfl⟩ := of_mapint ew
    obtain ⟨ah, hah, rfl⟩ := of_mapint ex
    have sT := same_new (o := .tup [.int ah, .int dp]) hT
    have eT := upd_same (H := H3) (a := T) (o := .tup [.int ah, .int dp])
    generalize upd H3 T (.tup [.int ah, .int dp]) = H5 at sT eT ⊢
    have sH5 := s.trans sT
    refine m_gTup (.of eT) rfl ?_
    have hla := lastD_take r hah
    have hub := lastD_le hD
    have hnn := lastD_nonneg (by decide) hD
    rw [hla] at hub hnn
    rw [List.length_take] at hub
    walk_at "st"
    have bad : ¬ (1 ≤ dp ∧ dp ≤ ah + 1) → ¬ Deep (0 :: r) := fun c z => c (deepT_get z.2 hah hdp)
    walk_at "if" <;> intro c3
    · walk_at "st"
      exact q2 hl (bad fun z => by omega) _ sH5
    walk_at "st"
    walk_at "if" <;> intro c4
    · walk_at "st"
      exact q2 hl (bad fun z => by omega) _ sH5
    walk_at "st"
    refine k_tyL (.of (sT.get e)) ?_
    walk_at "st"
    intro p3 hp3
    walk_at "st"
    rw [show ah + 1 - dp = (((ah + 1 - dp).toNat : Nat) : Int) by omega]
    refine k_rep (xs := [.int 0]) upd_same (by simp only [List.length_cons, List.length_nil]; omega) (by omega) fun p4 hp4 => ?_
    rw [rep_one]
    have s4 := (same_new (o := .lst [.int 0]) hp3).trans (same_new (o := .lst (List.replicate (ah + 1 - dp).toNat (V.int 0))) hp4)
    have e4 := upd_same (H := upd H5 p3 (.lst [.int 0])) (a := p4) (o := .lst (List.replicate (ah + 1 - dp).toNat (V.int 0)))
    generalize upd (upd H5 p3 (.lst [.int 0])) p4 (.lst (List.replicate (ah + 1 - dp).toNat (V.int 0))) = H6 at s4 e4 ⊢
    walk_at "st"
    have hfl := brkF_le (by decide) hD
    rw [List.length_take] at hfl
    have e6 := s4.get (sT.get e)
    refine k_extend e6 e4 (by rw [List.length_map, List.length_replicate, List.length_cons]; omega) ?_
    have s7 : Same H (upd H6 p (.lst ((1 :: brkF 0 (r.take i)).map V.int ++ List.replicate (ah + 1 - dp).toNat (V.int 0)))) := Same.mut (sH5.trans s4) hp ⟨_, e6⟩
    have e7 := upd_same (H := H6) (a := p) (o := .lst ((1 :: brkF 0 (r.take i)).map V.int ++ List.replicate (ah + 1 - dp).toNat (V.int 0)))
    have e72 : upd H6 p (.lst ((1 :: brkF 0 (r.take i)).map V.int ++ List.replicate (ah + 1 - dp).toNat (V.int 0))) p2 = some (.lst (r.map V.int)) := by rw [upd_ne np]; exact s4.get (sT.get e2)
    generalize upd H6 p (.lst ((1 :: brkF 0 (r.take i)).map V.int ++ List.replicate (ah + 1 - dp).toNat (V.int 0))) = H7 at s7 e7 e72 ⊢
    walk_at "st"
    refine k_tyL (.of e7) ?_
    walk_at "st"
    refine k_app e7 (by rw [List.length_append, List.length_map, List.length_replicate, List.length_cons]; omega) ?_
    refine ⟨_, _, rfl, by omega, Same.mut s7 hp ⟨_, e7⟩, by rw [upd_ne np]; exact e72, ?_, ?_⟩
    · rw [upd_same, List.take_add_one, hdp]
      show _ = some (HO.lst ((1 :: brkF 0 (r.take i ++ [dp])).map V.int))
      rw [brkF_snoc, hla]
      simp [List.map_replicate]
    · rw [List.take_add_one, hdp]
      exact deepT_snoc hD (by omega) (by rw [hla]; omega)
  rintro σ H3 ⟨y, z, rfl, _, s, e2, e, hD⟩
  rw [List.take_length] at e hD
  have hnn := lastD_nonneg (by decide) hD
  have hub := lastD_le hD
  have hfl := brkF_le (by decide) hD
  walk_at "st"
  refine k_tyL (.of e) ?_
  walk_at "st"
  intro p3 hp3
  walk_at "st"
  have s3 := same_new (o := .lst [.int 0]) hp3
  refine k_ixL ((s.trans s3).seq hS) (at_lastD r) ?_
  walk_at "st"
  rw [show lastD 0 r + 1 = (((lastD 0 r + 1).toNat : Nat) : Int) by omega]
  refine k_rep (xs := [.int 0]) upd_same (by simp only [List.length_cons, List.length_nil]; omega) (by omega) fun p4 hp4 => ?_
  rw [rep_one]
  have s4 := s3.trans (same_new (o := .lst (List.replicate (lastD 0 r + 1).toNat (V.int 0))) hp4)
  have e4 := upd_same (H := upd H3 p3 (.lst [.int 0])) (a := p4) (o := .lst (List.replicate (lastD 0 r + 1).toNat (V.int 0)))
  generalize upd (upd H3 p3 (.lst [.int 0])) p4 (.lst (List.replicate (lastD 0 r + 1).toNat (V.int 0))) = H6 at s4 e4 ⊢
  walk_at "st"
  refine k_extend (s4.get e) e4 (by rw [List.length_map, List.length_replicate, List.length_cons]; omega) ?_
  walk_at "st"
  refine q hl ⟨rfl, hD⟩ p _ hp (Same.mut (s.trans s4) hp ⟨_, s4.get e⟩) ?_
  rw [upd_same]
  show _ = some (HO.lst ((1 :: brkT 0 r).map V.int))
  rw [brkF_all]
  simp [List.map_replicate]

theorem up_brkF : ∀ {a : Int} {ds : List Int}, 0 ≤ a → DeepT a ds → Up (a + 1) (brkF a ds) (lastD a ds + 1)
  | _, [], _, _ => rfl
  | a, d :: ds, h, ⟨a1, a2, a3⟩ => by
    have h1 := up_noughts (a + 1 - d).toNat (h := a + 1) (by omega)
    rw [show a + 1 - ((a + 1 - d).toNat : Int) = d by omega] at h1
    exact h1.app ⟨.inr rfl, by omega, (show d + (2 * 1 - 1) = d + 1 by omega) ▸ up_brkF (by omega) a3⟩
theorem brk_tree {ds : List Int} (h : Deep ds) : IsTree (brk ds) ∧ Bits (brk ds) := by
  obtain ⟨r, rfl, h2⟩ := h.cons
  have u : Up 0 (1 :: brkF 0 r) (lastD 0 r + 1) := ⟨.inr rfl, by omega, up_brkF (Int.le_refl _) h2⟩
  have e : brk (0 :: r) = (1 :: brkF 0 r) ++ List.replicate (lastD 0 r + 1).toNat 0 := by
    show 1 :: brkT 0 r = _
    rw [brkF_all]; rfl
  have hn := lastD_nonneg (Int.le_refl _) h2
  rw [e]
  refine ⟨tree_of_up u (by omega), fun b hb => ?_⟩
  rcases List.mem_append.mp hb with z | z
  · exact u.bits b z
  · exact .inl (List.eq_of_mem_replicate z)

/-- kept_tree(depths) -/
def sp_kept_tree (K : PySem.W.Frag) : Sp := fun vs H Q E => ∃ (a : Addr) (ds : List Int), vs = [.ref a] ∧ SqL K H a (ds.map V.int) ∧ ds.length ≤ 100000 ∧
  (2048 < ds.length → E (.ref (He.ga K "TooMany")) none H) ∧
  (ds.length ≤ 2048 → ¬ Deep ds → ∀ H', Same H H' → E (.ref (He.ga K "NoTree")) none H') ∧
  (ds.length ≤ 2048 → Deep ds → ∀ p t pa ph pb H', H p = none → H pb = none → Same H H' → H' p = some (.tup [.ref t, .ref pb]) → H' t = some (.tup [.int ((brk ds).length : Int), .ref pa, .ref ph]) → H' pa = some (.tup ((aheadT (brk ds)).map V.int)) → H' ph = some (.tup (heapL (lowsOf (brk ds)))) → H' pb = some (.lst ((blks (brk ds)).map V.int)) → Q (.ref p) H')
theorem len_kept_tree (K : PySem.W.Frag) : ∀ vs H Q E, sp_kept_tree K vs H Q E → vs.length = 1 := by
  rintro vs H Q E ⟨a, ds, rfl, _⟩; rfl
def t_kept_tree (K : PySem.W.Frag) (E : XK) : TS :=
  (tRet (tCall (sp_kept_brackets K) [] E (tCons (tCall (sp_brackets_of K) [] E (tCons (tVar 0) tNil)) tNil)))
abbrev n_kept_tree : List Str := ["depths"]

theorem rd_kept_tree (K : PySem.W.Frag) (vs : List V) (H : Hp) (Q : VK) (E : XK) (h : sp_kept_tree K vs H Q E) : t_kept_tree K E { nx := fun _ H' => Q .non H', rt := Q } (start n_kept_tree vs) H := by
  obtain ⟨a, ds, rfl, hS, hl, q1, q2, q3⟩ := h
  unfold t_kept_tree
  walk_at "st"
  refine ⟨a, ds, rfl, hS, hl, q1, q2, fun hm hD p0 H1 hp0 s1 e1 => ?_⟩
  obtain ⟨hT, hB⟩ := brk_tree hD
  have hb := brk_len hD
  walk_at "st"
  refine ⟨p0, brk ds, rfl, .of e1, by omega, fun z => absurd z (by omega), fun _ z => absurd hB z, fun _ _ z => absurd hT z, fun _ _ _ p t pa ph pb H2 hp hpb s2 ep et ea eh eb => ?_⟩
  exact q3 hm hD p t pa ph pb H2 (s1.gone _ hp) (s1.gone _ hpb) (s1.trans s2) ep et ea eh eb

/-- the depth of the k-th young, by the way that r tells (of any but 3) -/
def dk1 (r up k : Int) : Int := if r = 1 then up + 1 + k else up + 1
def dk2 (r up k : Int) : Int := if r = 2 then up + 1 + k % 2 else dk1 r up k
/-- how deep the node ahead of it has to be -/
def dkN (r up k : Int) : Int := if r = 1 then up + k else if r = 2 then up + k % 2 else if r = 0 then up else 0
theorem dkN_zero {r up l : Int} (h : 0 ≤ up) (h2 : up ≤ l) : dkN r up ((0 : Nat) : Int) ≤ l := by
  unfold dkN
  split
  · omega
  · split
    · omega
    · split <;> omega
theorem dk2_ok {r up k l : Int} (h : 0 ≤ up) (hr : 0 ≤ r ∧ r < 4 ∧ 0 ≤ k) (h2 : dkN r up k ≤ l) (h3 : r ≠ 3) : 1 ≤ dk2 r up k ∧ dk2 r up k ≤ l + 1 := by
  unfold dk2 dk1
  unfold dkN at h2
  by_cases c2 : r = 2
  · rw [if_pos c2]
    rw [if_neg (by omega), if_pos c2] at h2
    omega
  · rw [if_neg c2]
    by_cases c1 : r = 1
    · rw [if_pos c1]; rw [if_pos c1] at h2; omega
    · rw [if_neg c1]; rw [if_neg c1, if_neg c2, if_pos (by omega)] at h2; omega
theorem dkN_next {r up k d : Int} (h : 0 ≤ up) (hr : 0 ≤ r ∧ r < 4) (hk : 0 ≤ k) (hd : 1 ≤ d) (h3 : r ≠ 3 → d = dk2 r up k) : dkN r up (k + 1) ≤ d := by
  unfold dkN
  by_cases c3 : r = 3
  · rw [if_neg (by omega), if_neg (by omega), if_neg (by omega)]; omega
  · rw [h3 c3]; unfold dk2 dk1
    by_cases c1 : r = 1
    · rw [if_pos c1, if_neg (by omega), if_pos c1]; omega
    · rw [if_neg c1]
      by_cases c2 : r = 2
      · rw [if_pos c2, if_pos c2]; omega
      · rw [if_neg c2, if_pos (by omega), if_neg c2, if_neg c1]; omega
/-- _law_depths(script), of up to 640 nodes -/
def sp_law_depths (K : PySem.W.Frag) : Sp := fun vs H Q _ => ∃ (a : Addr) (ns : List Int), vs = [.ref a] ∧ SqL K H a (ns.map V.int) ∧ ∀ (ds : List Int) p H', Deep ds → ds.length ≤ 640 → H p = none → Same H H' → H' p = some (.lst (ds.map V.int)) → Q (.ref p) H'
theorem len_law_depths (K : PySem.W.Frag) : ∀ vs H Q E, sp_law_depths K vs H Q E → vs.length = 1 := by
  rintro vs H Q E ⟨a, ns, rfl, _⟩; rfl
def t_law_depths (K : PySem.W.Frag) : TS :=
  (tSeq (tAsg (tLst (tCons (tC (.int 0)) tNil)) (gName 1))
  (tSeq (tFor (iList K (tSl (rSlL K) (tVar 0) tNoPart (tPart (tC (.int 63))))) (gName 2)
  (tSeq (tAsg (tOp rMod (tOp rTimes (tVar 2) (tC (.int 48271))) (tC (.int 2147483647))) (gName 3))
  (tSeq (tAsg (tOp rPlus (tC (.int 1)) (tOp rMod (tOp rDiv (tVar 3) (tC (.int 32))) (tC (.int 10)))) (gName 4))
  (Evl.tCut (tIfS (tTest (tOp rEq (tOp rMod (tOp rDiv (tVar 3) (tC (.int 4))) (tC (.int 8))) (tC (.int 0))))
  (tAsg (tOp rPlus (tC (.int 1)) (tOp rMod (tOp rDiv (tVar 3) (tC (.int 32))) (tC (.int 90)))) (gName 4))
  tNext)
  (tSeq (tAsg (tOp rMod (tOp rDiv (tVar 3) (tC (.int 2880))) (tOp rPlus (tOp (rIxL K) (tVar 1) (tUn rNeg (tC (.int 1)))) (tC (.int 1)))) (gName 5))
  (tFor (iRng1 (tCons (tCB rMin2 (tCons (tVar 4) (tCons (tOp rMinus (tC (.int 640)) (tCB (rLen K) (tCons (tVar 1) tNil))) tNil))) tNil)) (gName 6)
  (tSeq (tAsg (tOp rPlus (tVar 5) (tC (.int 1))) (gName 7))
  (Evl.tCut (tIfS (tTest (tOp rEq (tOp rMod (tVar 3) (tC (.int 4))) (tC (.int 1))))
  (tAsg (tOp rPlus (tOp rPlus (tVar 5) (tC (.int 1))) (tVar 6)) (gName 7))
  tNext)
  (Evl.tCut (tIfS (tTest (tOp rEq (tOp rMod (tVar 3) (tC (.int 4))) (tC (.int 2))))
  (tAsg (tOp rPlus (tOp rPlus (tVar 5) (tC (.int 1))) (tOp rMod (tVar 6) (tC (.int 2)))) (gName 7))
  tNext)
  (Evl.tCut (tIfS (tTest (tOp rEq (tOp rMod (tVar 3) (tC (.int 4))) (tC (.int 3))))
  (tAsg (tOp rPlus (tC (.int 1)) (tOp rMod (tOp rMod (tOp rTimes (tOp rTimes (tVar 3) (tOp rPlus (tOp rTimes (tC (.int 2)) (tVar 6)) (tC (.int 3)))) (tC (.int 69621))) (tC (.int 2147483629))) (tOp rPlus (tOp (rIxL K) (tVar 1) (tUn rNeg (tC (.int 1)))) (tC (.int 1))))) (gName 7))
  tNext)
  (tDrop (tBM K "list" rAppend (tVar 1) (tCons (tVar 7) tNil)))))))))))))
  (tRet (tVar 1))))
abbrev n_law_depths : List Str := ["_law_script", "_law_depths_here", "_law_cell", "_law_number", "_law_many", "_law_up", "_law_k", "_law_deep"]

theorem rd_law_depths (K : PySem.W.Frag) (vs : List V) (H : Hp) (Q : VK) (E : XK) (h : sp_law_depths K vs H Q E) : t_law_depths K { nx := fun _ H' => Q .non H', rt := Q } (start n_law_depths vs) H := by
  obtain ⟨a, ns, rfl, hS, q⟩ := h
  unfold t_law_depths
  walk_at "st"
  intro p hp
  have s0 := same_new (o := .lst [.int 0]) hp
  have e0 := upd_same (H := H) (a := p) (o := .lst [.int 0])
  generalize upd H p (.lst [.int 0]) = H1 at s0 e0 ⊢
  walk_at "st"
  refine k_slL (s0.seq hS) fun p2 hp2 => ?_
  have ec : cutV (ns.map V.int) none (some 63) = (ns.take 63).map V.int := by
    rw [show (63 : Int) = ((63 : Nat) : Int) from rfl, cutTake, List.map_take]
  rw [ec]
  have s2 := same_new (o := .lst ((ns.take 63).map V.int)) hp2
  have e2 := upd_same (H := H1) (a := p2) (o := .lst ((ns.take 63).map V.int))
  have np : p2 ≠ p := Ne.symm (ne_of_none e0 hp2)
  generalize upd H1 p2 (.lst ((ns.take 63).map V.int)) = H2 at s2 e2 ⊢
  have s02 := s0.trans s2
  walk_at "st"
  refine m_iLe (.of e2) ?_
  refine loop_ints (ns := ns.take 63) (fun i σ' H' => ∃ (v2 v3 v4 v5 v6 v7 v8 : Option V) (r : List Int), Same H H' ∧ H' p2 = some (.lst ((ns.take 63).map V.int)) ∧ H' p = some (.lst ((0 :: r).map V.int)) ∧ DeepT 0 r ∧ r.length ≤ 639 ∧ σ' = [some (.ref a), some (.ref p), v2, v5, v6, v7, v4, v8]) ⟨none, none, none, none, none, none, none, [], s02, e2, s2.get e0, trivial, by simp, rfl⟩ (fun i σ' H' ⟨_, _, _, _, _, _, _, _, _, e, _⟩ => .of e) (fun i n σ' H' hn ⟨v2, v3, v4, v5, v6, v7, v8, r, s, e3, e, hD, hl, es⟩ => ?_) (fun σ' H' ⟨v2, v3, v4, v5, v6, v7, v8, r, s, e3, e, hD, hl, es⟩ => ?_)
  · subst es
    walk_at "st"
    generalize hm : n * 48271 % 2147483647 = m
    have hm1 : 0 ≤ m ∧ m < 2147483647 := by omega
    refine m_cut (fun σ' H'' => H' = H'' ∧ ∃ k : Int, 1 ≤ k ∧ k ≤ 90 ∧ σ' = [some (.ref a), some (.ref p), some (.int n), some (.int m), some (.int k), v7, v4, v8]) ?_ ?_
    · walk_at "st"
      walk_at "if" <;> intro _
      · walk_at "st"
        exact ⟨rfl, _, by omega, by omega, rfl⟩
      · walk_at "st"
        exact ⟨rfl, _, by omega, by omega, rfl⟩
    rintro σ' H'' ⟨rfl, mk, hk1, hk2, rfl⟩
    have hnn := lastD_nonneg (by decide) hD
    walk_at "st"
    refine k_ixL (.of e) (at_lastD r) ?_
    walk_at "st"
    have hu1 := Int.emod_nonneg (m / 2880) (show lastD 0 r + 1 ≠ 0 by omega)
    have hu2 := Int.emod_lt_of_pos (m / 2880) (show 0 < lastD 0 r + 1 by omega)
    generalize m / 2880 % (lastD 0 r + 1) = up at hu1 hu2 ⊢
    refine k_lenL (.of e) ?_
    walk_at "st"
    rw [List.length_map, List.length_cons]
    have hcnt : (if (640 : Int) - ((r.length + 1 : Nat) : Int) < mk then (640 : Int) - ((r.length + 1 : Nat) : Int) else mk).toNat + r.length ≤ 639 := by split <;> omega
    generalize (if (640 : Int) - ((r.length + 1 : Nat) : Int) < mk then (640 : Int) - ((r.length + 1 : Nat) : Int) else mk).toNat = cnt at hcnt ⊢
    refine loop_range0 (fun k σ' H3 => ∃ (v4 v8 : Option V) (t : List Int), Same H H3 ∧ H3 p2 = some (.lst ((ns.take 63).map V.int)) ∧ H3 p = some (.lst ((0 :: t).map V.int)) ∧ DeepT 0 t ∧ t.length = r.length + k ∧ dkN (m % 4) up k ≤ lastD 0 t ∧ σ' = [some (.ref a), some (.ref p), some (.int n), some (.int m), some (.int mk), some (.int up), v4, v8]) ⟨v4, v8, r, s, e3, e, hD, rfl, dkN_zero hu1 (by omega), rfl⟩ (fun k σ' H3 hk ⟨v4, v8, t, s3, e5, e4, hD4, hl4, c1, es⟩ => ?_) (fun σ' H3 ⟨v4, v8, t, s3, e5, e4, hD4, hl4, c1, es⟩ => ?_)
    · subst es
      have hn4 := lastD_nonneg (by decide) hD4
      have hdk := dk2_ok (r := m % 4) (k := (k : Int)) hu1 (by omega) c1
      walk_at "st"
      refine m_cut (fun σ' H'' => H3 = H'' ∧ σ' = [some (.ref a), some (.ref p), some (.int n), some (.int m), some (.int mk), some (.int up), some (.int (k : Int)), some (.int (dk1 (m % 4) up k))]) ?_ ?_
      · walk_at "st"
        walk_at "if" <;> intro c
        · walk_at "st"
          exact ⟨rfl, by unfold dk1; rw [if_pos c]; rfl⟩
        · walk_at "st"
          exact ⟨rfl, by unfold dk1; rw [if_neg c]; rfl⟩
      rintro σ' H'' ⟨rfl, rfl⟩
      refine m_cut (fun σ' H'' => H3 = H'' ∧ σ' = [some (.ref a), some (.ref p), some (.int n), some (.int m), some (.int mk), some (.int up), some (.int (k : Int)), some (.int (dk2 (m % 4) up k))]) ?_ ?_
      · walk_at "st"
        walk_at "if" <;> intro c
        · walk_at "st"
          exact ⟨rfl, by unfold dk2; rw [if_pos c]; rfl⟩
        · walk_at "st"
          exact ⟨rfl, by unfold dk2; rw [if_neg c]⟩
      rintro σ' H'' ⟨rfl, rfl⟩
      refine m_cut (fun σ' H'' => H3 = H'' ∧ ∃ d : Int, (m % 4 ≠ 3 → d = dk2 (m % 4) up k) ∧ 1 ≤ d ∧ d ≤ lastD 0 t + 1 ∧ σ' = [some (.ref a), some (.ref p), some (.int n), some (.int m), some (.int mk), some (.int up), some (.int (k : Int)), some (.int d)]) ?_ ?_
      · walk_at "st"
        walk_at "if" <;> intro c
        · walk_at "st"
          refine k_ixL (.of e4) (at_lastD t) ?_
          walk_at "st"
          have hx1 := Int.emod_nonneg (m * (2 * (k : Int) + 3) * 69621 % 2147483629) (show lastD 0 t + 1 ≠ 0 by omega)
          have hx2 := Int.emod_lt_of_pos (m * (2 * (k : Int) + 3) * 69621 % 2147483629) (show 0 < lastD 0 t + 1 by omega)
          generalize m * (2 * (k : Int) + 3) * 69621 % 2147483629 % (lastD 0 t + 1) = xx at hx1 hx2 ⊢
          clear hdk c1
          exact ⟨rfl, 1 + xx, fun z => absurd c z, by omega, by omega, rfl⟩
        · walk_at "st"
          exact ⟨rfl, _, fun _ => rfl, (hdk c).1, (hdk c).2, rfl⟩
      rintro σ' H'' ⟨rfl, d, d1, d4, d5, rfl⟩
      have hnx := dkN_next (k := (k : Int)) hu1 (by omega) (by omega) d4 d1
      clear d1 c1 hdk
      walk_at "st"
      refine k_tyL (.of e4) ?_
      walk_at "st"
      refine k_app e4 (by rw [List.length_map, List.length_cons]; omega) ?_
      walk_at "st"
      have hlast := lastD_snoc 0 t d
      refine ⟨_, _, t ++ [d], Same.mut s3 hp ⟨_, e4⟩, by rw [upd_ne np]; exact e5, ?_, deepT_snoc hD4 d4 d5, by rw [List.length_append, List.length_singleton]; omega, by rw [hlast]; exact hnx, rfl⟩
      rw [upd_same, ← List.cons_append, List.map_append]; rfl
    subst es
    exact ⟨_, none, _, _, _, _, _, t, s3, e5, e4, hD4, by omega, rfl⟩
  subst es
  walk_at "st"
  exact q (0 :: r) p H' ⟨rfl, hD⟩ (by simp; omega) hp s e

--#base
theorem brkF_app : ∀ (a : Int) (xs ys : List Int), brkF a (xs ++ ys) = brkF a xs ++ brkF (lastD a xs) ys
  | _, [], _ => rfl
  | a, d :: xs, ys => by
    show List.replicate _ 0 ++ 1 :: brkF d (xs ++ ys) = (List.replicate _ 0 ++ 1 :: brkF d xs) ++ brkF (lastD d xs) ys
    rw [brkF_app d xs ys]; simp
theorem brkF_len : ∀ {a : Int} {ds : List Int}, DeepT a ds → ((brkF a ds).length : Int) = a + 2 * ds.length - lastD a ds
  | a, [], _ => by simp only [brkF, lastD, List.length_nil]; omega
  | a, d :: ds, ⟨a1, a2, a3⟩ => by
    have := brkF_len a3
    simp only [brkF, lastD, List.length_append, List.length_replicate, List.length_cons]; omega
theorem sum_rep0 : ∀ n : Nat, (List.replicate n (0 : Int)).sum = 0
  | 0 => rfl
  | n + 1 => by rw [List.replicate_succ, List.sum_cons, sum_rep0 n]; rfl
theorem brkF_sum : ∀ (a : Int) (ds : List Int), (brkF a ds).sum = ds.length
  | _, [] => rfl
  | a, d :: ds => by
    have := brkF_sum d ds
    simp only [brkF, List.sum_append, sum_rep0, List.sum_cons, List.length_cons]
    rw [this]; push_cast; omega
/-- the place of a node's opening bracket: twice its number, less its depth -/
theorem node_place {ds : List Int} (h : Deep ds) {n : Nat} {d : Int} (e : ds[n]? = some d) : ∃ k : Nat, (k : Int) = 2 * n - d ∧ k < (brk ds).length ∧ (brk ds).getD k 0 = 1 ∧ sumTo (brk ds) k = n := by
  obtain ⟨r, rfl, h2⟩ := h.cons
  have hb : brk (0 :: r) = 1 :: (brkF 0 r ++ List.replicate (lastD 0 r + 1).toNat 0) := by
    show 1 :: brkT 0 r = _
    rw [brkF_all]
  cases n with
  | zero =>
    cases e
    exact ⟨0, by omega, by rw [hb]; exact Nat.succ_pos _, by rw [hb]; rfl, rfl⟩
  | succ m =>
    rw [List.getElem?_cons_succ] at e
    have hm : m < r.length := (List.getElem?_eq_some_iff.mp e).1
    have hd := deepT_take m h2
    have hl := brkF_len hd
    have hs := brkF_sum 0 (r.take m)
    rw [List.length_take, Nat.min_eq_left (by omega)] at hl hs
    obtain ⟨x, hx⟩ : ∃ x, (0 :: r)[m]? = some x := ⟨_, List.getElem?_eq_getElem (show m < (0 :: r).length by rw [List.length_cons]; omega)⟩
    have hlx := lastD_take r hx
    obtain ⟨d1, d2⟩ := deepT_get h2 hx e
    rw [hlx] at hl
    have hsp : r = r.take m ++ d :: r.drop (m + 1) := by
      rw [← List.getElem_eq_iff (h := hm) |>.mpr e, ← List.drop_eq_getElem_cons hm, List.take_append_drop]
    have hF : brkF 0 r = brkF 0 (r.take m) ++ (List.replicate (x + 1 - d).toNat 0 ++ 1 :: brkF d (r.drop (m + 1))) := by
      conv => lhs; rw [hsp, brkF_app, hlx]
      rfl
    have hx0 : 0 ≤ x := by rw [← hlx]; exact lastD_nonneg (Int.le_refl _) hd
    obtain ⟨P, eP⟩ : ∃ P, P = 1 :: (brkF 0 (r.take m) ++ List.replicate (x + 1 - d).toNat 0) := ⟨_, rfl⟩
    have hP : brk (0 :: r) = P ++ 1 :: (brkF d (r.drop (m + 1)) ++ List.replicate (lastD 0 r + 1).toNat 0) := by
      rw [hb, hF, eP]; simp
    have hPl : (P.length : Int) = 2 * ((m + 1 : Nat) : Int) - d := by
      rw [eP, List.length_cons, List.length_append, List.length_replicate]; omega
    refine ⟨P.length, hPl, by rw [hP, List.length_append, List.length_cons]; omega, ?_, ?_⟩
    · rw [hP, List.getD_eq_getElem?_getD, List.getElem?_append_right (Nat.le_refl _), Nat.sub_self]; rfl
    · unfold sumTo
      rw [hP, List.take_left', eP, List.sum_cons, List.sum_append, sum_rep0, hs]
      · push_cast; omega
      · rfl
/-- the ones' places are told by the ones ahead -/
theorem one_uniq {bs : List Int} (hB : Bits bs) {n m : Nat} (e : bs.getD n 0 = 1) (e' : bs.getD m 0 = 1) (h : sumTo bs n = sumTo bs m) : n = m := by
  rcases Nat.lt_trichotomy n m with z | z | z
  · have h1 := sumTo_succ bs n
    have h2 := sumTo_mono hB (show n + 1 ≤ m by omega)
    omega
  · exact z
  · have h1 := sumTo_succ bs m
    have h2 := sumTo_mono hB (show m + 1 ≤ n by omega)
    omega
theorem brk_sum {ds : List Int} (h : Deep ds) : (brk ds).sum = ds.length := by
  obtain ⟨r, rfl, h2⟩ := h.cons
  show (1 :: brkT 0 r).sum = _
  rw [brkF_all, List.sum_cons, List.sum_append, sum_rep0, brkF_sum, List.length_cons]; push_cast; omega

/-- the nodes' depths, as told at opening brackets -/
theorem sumTo_le_all {bs : List Int} (hB : Bits bs) (k : Nat) : sumTo bs k ≤ bs.sum := by
  rcases Nat.le_total k bs.length with z | z
  · rw [← sumTo_all bs (Nat.le_refl _)]; exact sumTo_mono hB z
  · rw [sumTo_all bs z]; exact Int.le_refl _
theorem place_node {ds : List Int} (h : Deep ds) {k : Nat} (h1 : (brk ds).getD k 0 = 1) : ∃ (m : Nat) (d : Int), ds[m]? = some d ∧ sumTo (brk ds) k = m ∧ hgt (brk ds) k = d ∧ (k : Int) = 2 * m - d := by
  have hB := (brk_tree h).2
  have h0 : 0 ≤ sumTo (brk ds) k := by
    have := sumTo_mono hB (Nat.zero_le k); rw [sumTo_zero] at this; exact this
  have hs := sumTo_succ (brk ds) k
  have hle := sumTo_le_all hB (k + 1)
  rw [brk_sum h] at hle
  obtain ⟨m, em⟩ := Int.eq_ofNat_of_zero_le h0
  have hm : m < ds.length := by omega
  obtain ⟨k2, a1, a2, a3, a4⟩ := node_place h (List.getElem?_eq_getElem hm)
  obtain rfl := one_uniq hB h1 a3 (by rw [em, a4])
  exact ⟨m, _, List.getElem?_eq_getElem hm, a4, by unfold hgt; omega, a1⟩
theorem one_lt {bs : List Int} (hB : Bits bs) {k a : Nat} (h : sumTo bs k < sumTo bs a) : k < a := by
  rcases Nat.lt_or_ge k a with z | z
  · exact z
  · have := sumTo_mono hB z; omega
theorem one_le {bs : List Int} (hB : Bits bs) {k a : Nat} (h1 : bs.getD a 0 = 1) (h : sumTo bs k ≤ sumTo bs a) : k ≤ a := by
  rcases Nat.lt_or_ge a k with z | z
  · have := sumTo_mono hB (show a + 1 ≤ k by omega)
    have := sumTo_succ bs a
    omega
  · exact z
theorem getD_of {ds : List Int} {m : Nat} {d : Int} (e : ds[m]? = some d) : ds.getD m 0 = d := by rw [List.getD_eq_getElem?_getD, e]; rfl
/-- a node's place -/
structure PlaceOf (ds : List Int) (n a : Nat) : Prop where
  lt : a < (brk ds).length
  up : (brk ds).getD a 0 = 1
  sum : sumTo (brk ds) a = n
  hg : hgt (brk ds) a = ds.getD n 0
  eq : (a : Int) = 2 * n - ds.getD n 0
theorem placeOf {ds : List Int} (h : Deep ds) {n : Nat} (hn : n < ds.length) : ∃ a, PlaceOf ds n a := by
  obtain ⟨k, a1, a2, a3, a4⟩ := node_place h (List.getElem?_eq_getElem hn)
  have e := getD_of (List.getElem?_eq_getElem hn)
  exact ⟨k, a2, a3, a4, by unfold hgt; omega, by omega⟩
theorem placeAt {ds : List Int} (h : Deep ds) {k : Nat} (h1 : (brk ds).getD k 0 = 1) : ∃ m, m < ds.length ∧ PlaceOf ds m k := by
  obtain ⟨m, d, e, a1, a2, a3⟩ := place_node h h1
  have hm := (List.getElem?_eq_some_iff.mp e).1
  have hk : k < (brk ds).length := by
    rcases Nat.lt_or_ge k (brk ds).length with z | z
    · exact z
    · rw [List.getD_eq_getElem?_getD, List.getElem?_eq_none z] at h1; simp at h1
  exact ⟨m, hm, hk, h1, a1, by rw [getD_of e]; exact a2, by rw [getD_of e]; exact a3⟩
theorem PlaceOf.u {ds : List Int} (h : Deep ds) {n a b : Nat} (p : PlaceOf ds n a) (p' : PlaceOf ds n b) : a = b := one_uniq (brk_tree h).2 p.up p'.up (by rw [p.sum, p'.sum])
theorem PlaceOf.lt_of {ds : List Int} (h : Deep ds) {n m a b : Nat} (p : PlaceOf ds n a) (p' : PlaceOf ds m b) (hl : n < m) : a < b := one_lt (brk_tree h).2 (by rw [p.sum, p'.sum]; omega)
theorem PlaceOf.le_of {ds : List Int} (h : Deep ds) {n m a b : Nat} (p : PlaceOf ds n a) (p' : PlaceOf ds m b) (hl : n ≤ m) : a ≤ b := one_le (brk_tree h).2 p'.up (by rw [p.sum, p'.sum]; omega)
theorem PlaceOf.node_lt {ds : List Int} (h : Deep ds) {n m a b : Nat} (p : PlaceOf ds n a) (p' : PlaceOf ds m b) (hl : a < b) : n < m := by
  rcases Nat.lt_or_ge n m with z | z
  · exact z
  · have := p'.le_of h p z; omega
theorem depth_nonneg {ds : List Int} (h : Deep ds) (n : Nat) : 0 ≤ ds.getD n 0 := by
  obtain ⟨r, rfl, h2⟩ := h.cons
  cases n with
  | zero => exact Int.le_refl _
  | succ m =>
    rcases Nat.lt_or_ge m r.length with z | z
    · have hx : ((0 : Int) :: r)[m]? = some ((((0 : Int) :: r))[m]'(by rw [List.length_cons]; omega)) := List.getElem?_eq_getElem _
      have := deepT_get h2 hx (List.getElem?_eq_getElem z)
      rw [List.getD_cons_succ, List.getD_eq_getElem?_getD, List.getElem?_eq_getElem z]
      show 0 ≤ r[m]
      omega
    · rw [List.getD_eq_getElem?_getD, List.getElem?_eq_none (by rw [List.length_cons]; omega)]; exact Int.le_refl _
theorem PlaceOf.nlt {ds : List Int} (h : Deep ds) {n a : Nat} (P : PlaceOf ds n a) : n < ds.length := by
  have := P.sum
  have hs := sumTo_succ (brk ds) a
  have hle := sumTo_le_all (brk_tree h).2 (a + 1)
  rw [brk_sum h] at hle
  have := P.up
  omega
/-- the first one of the young -/
theorem young_of {ds : List Int} (h : Deep ds) {n a : Nat} (P : PlaceOf ds n a) : ((brk ds).getD (a + 1) 0 = 1 ↔ n + 1 < ds.length ∧ ds.getD (n + 1) 0 = ds.getD n 0 + 1) := by
  have hs := sumTo_succ (brk ds) a
  rw [P.sum, P.up] at hs
  constructor
  · intro h1
    obtain ⟨m, hm, Pm⟩ := placeAt h h1
    have e := Pm.sum
    obtain rfl : m = n + 1 := by omega
    have e1 := Pm.eq
    have e2 := P.eq
    exact ⟨hm, by push_cast at e1; omega⟩
  · rintro ⟨hm, hd⟩
    obtain ⟨b, Pb⟩ := placeOf h hm
    have e1 := Pb.eq
    have e2 := P.eq
    obtain rfl : b = a + 1 := by push_cast at e1; omega
    exact Pb.up
theorem younger_at {ds : List Int} (h : Deep ds) {k m : Nat} (hs : sumTo (brk ds) k = m) {d : Int} (hk : (k : Int) = 2 * m - d) (hm : m < ds.length) : ((brk ds).getD k 0 = 1 ↔ ds.getD m 0 = d) := by
  obtain ⟨b, Pb⟩ := placeOf h hm
  have e := Pb.eq
  constructor
  · intro h1
    obtain rfl := one_uniq (brk_tree h).2 h1 Pb.up (by rw [hs, Pb.sum])
    omega
  · intro hd
    obtain rfl : b = k := by omega
    exact Pb.up
theorem none_at {ds : List Int} (h : Deep ds) {k : Nat} (hs : sumTo (brk ds) k = ds.length) : (brk ds).getD k 0 = 0 := by
  have hB := (brk_tree h).2
  have h1 := sumTo_succ (brk ds) k
  have h2 := sumTo_le_all hB (k + 1)
  rw [brk_sum h] at h2
  have := getD_bit hB k
  omega

theorem blk_end {bs : List Int} (hB : Bits bs) {j c : Nat} (hj : j < (bs.length + 31) / 32) (hc : c = min 32 (bs.length - 32 * j)) : (blks bs).getD j 0 / 2 ^ c = 0 := by
  have e := blks_get bs j hj
  rw [List.getD_eq_getElem?_getD, e]
  show blk ((bs.drop (32 * j)).take 32) / 2 ^ c = 0
  obtain ⟨h1, h2⟩ := blk_range _ ((hB.drop (32 * j)).take 32)
  rw [List.length_take, List.length_drop] at h2
  rw [hc]
  exact Int.ediv_eq_zero_of_lt h1 h2
theorem hgt_le {ds : List Int} (h : Deep ds) (k : Nat) : hgt (brk ds) k ≤ ds.length := by
  have hB := (brk_tree h).2
  have h1 := sumTo_le_all hB k
  rw [brk_sum h] at h1
  have h2 := (sumTo_range hB k).2
  unfold hgt; omega
/-- the least height met, or n -/
def LowM (bs : List Int) (n low : Int) (a b : Nat) : Prop := low = n ∨ ∃ k, a < k ∧ k ≤ b ∧ low = hgt bs k
/-- _law_walked(blocks, depths) -/
def sp_law_walked (K : PySem.W.Frag) : Sp := fun vs H Q _ => ∃ (b a : Addr) (ds : List Int), vs = [.ref b, .ref a] ∧ H b = some (.lst ((blks (brk ds)).map V.int)) ∧ H a = some (.lst (ds.map V.int)) ∧ Deep ds ∧ ds.length ≤ 2048 ∧
  ∀ t po pl H', H t = none → Same H H' → H' t = some (.tup [.ref po, .ref pl]) → H' po = some (.lst ((aheadT (brk ds)).map V.int)) → H' pl = some (.lst ((lowsOf (brk ds)).map V.int)) → Q (.ref t) H'
theorem len_law_walked (K : PySem.W.Frag) : ∀ vs H Q E, sp_law_walked K vs H Q E → vs.length = 2 := by
  rintro vs H Q E ⟨a, b, ds, rfl, _⟩; rfl
def t_law_walked (K : PySem.W.Frag) : TS :=
  (tSeq (tAsg (tLst (tCons (tC (.int 0)) tNil)) (gName 2))
  (tSeq (tAsg (tLst tNil) (gName 3))
  (tSeq (tAsg (tC (.int 0)) (gName 4))
  (tSeq (tAsg (tC (.int 0)) (gName 5))
  (tSeq (tFor (iRng1 (tCons (tCB (rLen K) (tCons (tVar 0) tNil)) tNil)) (gName 6)
  (tSeq (tAsg (tOp (rIxL K) (tVar 0) (tVar 6)) (gName 7))
  (tSeq (tAsg (tCB (rLen K) (tCons (tVar 1) tNil)) (gName 8))
  (tSeq (tFor (iRng2 (tCons (tOp rTimes (tC (.int 32)) (tVar 6)) (tCons (tCB rMin2 (tCons (tOp rPlus (tOp rTimes (tC (.int 32)) (tVar 6)) (tC (.int 32))) (tCons (tOp rTimes (tC (.int 2)) (tCB (rLen K) (tCons (tVar 1) tNil))) tNil))) tNil))) (gName 9)
  (Evl.tCut (tIfS (tTest (tOp rEq (tOp rMod (tVar 7) (tC (.int 2))) (tC (.int 1))))
  (tSeq (tIfS (tOr (tTest (tOp rEq (tVar 5) (tCB (rLen K) (tCons (tVar 1) tNil)))) (tTest (tOp rNe (tOp (rIxL K) (tVar 1) (tVar 5)) (tVar 4))))
  (tRet (tTup (tCons (tLst tNil) (tCons (tLst tNil) tNil))))
  tNext)
  (tAsg (tOp rPlus (tVar 5) (tC (.int 1))) (gName 5)))
  tNext)
  (tSeq (tAsg (tOp rMinus (tOp rPlus (tVar 4) (tOp rTimes (tC (.int 2)) (tOp rMod (tVar 7) (tC (.int 2))))) (tC (.int 1))) (gName 4))
  (tSeq (tAsg (tCB rMin2 (tCons (tVar 8) (tCons (tVar 4) tNil))) (gName 8))
  (tAsg (tOp rDiv (tVar 7) (tC (.int 2))) (gName 7))))))
  (tSeq (tIfS (tTest (tOp rNe (tVar 7) (tC (.int 0))))
  (tRet (tTup (tCons (tLst tNil) (tCons (tLst tNil) tNil))))
  tNext)
  (tSeq (tDrop (tBM K "list" rAppend (tVar 2) (tCons (tVar 5) tNil)))
  (tDrop (tBM K "list" rAppend (tVar 3) (tCons (tVar 8) tNil)))))))))
  (tRet (tTup (tCons (tVar 2) (tCons (tVar 3) tNil)))))))))
abbrev n_law_walked : List Str := ["_law_blocks", "_law_depths_here", "_law_ones", "_law_lows", "_law_deep", "_law_node", "_law_j", "_law_rest", "_law_low", "_law_at"]

theorem rd_law_walked (K : PySem.W.Frag) (vs : List V) (H : Hp) (Q : VK) (E : XK) (h : sp_law_walked K vs H Q E) : t_law_walked K { nx := fun _ H' => Q .non H', rt := Q } (start n_law_walked vs) H := by
  obtain ⟨b, a, ds, rfl, hb, hS, hD, hl, q⟩ := h
  have hB := (brk_tree hD).2
  have hbl := brk_len hD
  have hnb := blks_len (brk ds)
  obtain ⟨bs, ebs⟩ : ∃ bs, bs = brk ds := ⟨_, rfl⟩
  unfold t_law_walked
  walk_at "st"
  intro po hpo
  obtain ⟨s0, e0⟩ := new_both (o := .lst [.int 0]) hpo
  generalize upd H po (.lst [.int 0]) = H0 at s0 e0 ⊢
  walk_at "st"
  intro pl hpl
  obtain ⟨s1, e1⟩ := new_both (o := .lst []) hpl
  have e01 := s1.get e0
  have npl : po ≠ pl := ne_of_none e0 hpl
  generalize upd H0 pl (.lst []) = H1 at s1 e1 e01 ⊢
  have s01 := s0.trans s1
  have hplH := s0.gone _ hpl
  walk_at "st"
  refine k_lenL (.of (s01.get hb)) ?_
  walk_at "st"
  rw [List.length_map]
  refine loop_range0 (fun j σ' H' => ∃ (v6 v7 v8 v9 : Option V), Same H H' ∧ j ≤ (blks (brk ds)).length ∧ H' po = some (.lst ((aheadN (brk ds) (j + 1)).map V.int)) ∧ H' pl = some (.lst (((lowsOf (brk ds)).take j).map V.int)) ∧ σ' = [some (.ref b), some (.ref a), some (.ref po), some (.ref pl), some (.int (hgt (brk ds) (min (32 * j) (brk ds).length))), some (.int (sumTo (brk ds) (32 * j))), v6, v7, v8, v9]) ⟨none, none, none, none, s01, Nat.zero_le _, e01, by rw [List.take_zero]; exact e1, ?_⟩ (fun j σ' H' hj ⟨v6, v7, v8, v9, s, _, eo, el, es⟩ => ?_) (fun σ' H' ⟨v6, v7, v8, v9, s, _, eo, el, es⟩ => ?_)
  · rw [Nat.mul_zero, Nat.zero_min, hgt_zero]; rfl
  · subst es
    have hj2 : j < ((brk ds).length + 31) / 32 := by omega
    have h32 : 32 * j < (brk ds).length := by omega
    rw [Nat.min_eq_left (Nat.le_of_lt h32)]
    have gb := blks_getD (bs := brk ds) hj2
    walk_at "st"
    refine k_ixL (.of (s.get hb)) (at_nat (mapint gb)) ?_
    walk_at "st"
    refine k_lenL (.of (s.get hS)) ?_
    walk_at "st"
    refine k_lenL (.of (s.get hS)) ?_
    walk_at "st"
    rw [List.length_map]
    obtain ⟨cnt, hcnt, hct⟩ : ∃ cnt : Nat, cnt = min 32 ((brk ds).length - 32 * j) ∧ (if (2 : Int) * (ds.length : Int) < 32 * (j : Int) + 32 then (2 : Int) * (ds.length : Int) else 32 * (j : Int) + 32) = ((32 * j + cnt : Nat) : Int) := ⟨_, rfl, by split <;> omega⟩
    rw [hct]
    rw [show (((32 * j + cnt : Nat) : Int) - 32 * (j : Int)).toNat = cnt by omega]
    have hc1 : 1 ≤ cnt ∧ cnt ≤ 32 ∧ 32 * j + cnt ≤ (brk ds).length := by omega
    refine loop_range (fun i σ' H'' => ∃ (low : Int) (v9 : Option V), H' = H'' ∧ i ≤ cnt ∧ low ≤ ds.length ∧ (∀ k, 32 * j < k → k ≤ 32 * j + i → low ≤ hgt (brk ds) k) ∧ LowM (brk ds) ds.length low (32 * j) (32 * j + i) ∧ σ' = [some (.ref b), some (.ref a), some (.ref po), some (.ref pl), some (.int (hgt (brk ds) (32 * j + i))), some (.int (sumTo (brk ds) (32 * j + i))), some (.int (j : Int)), some (.int ((blks (brk ds)).getD j 0 / 2 ^ i)), some (.int low), v9]) ⟨(ds.length : Int), v9, rfl, Nat.zero_le _, Int.le_refl _, fun k k1 k2 => by omega, .inl rfl, by rw [Nat.add_zero, Int.pow_zero, Int.ediv_one]; rfl⟩ (fun i σ' H'' hi ⟨low, v9, eH, _, l1, l2, l3, es⟩ => ?_) (fun σ' H'' ⟨low, v9, eH, _, l1, l2, l3, es⟩ => ?_)
    · subst es
      subst eH
      have eb : (blks (brk ds)).getD j 0 / 2 ^ i % 2 = (brk ds).getD (32 * j + i) 0 := bit_blks hB gb (by omega)
      have hbc := getD_bit hB (32 * j + i)
      have hsu := sumTo_succ (brk ds) (32 * j + i)
      have hhu := hgt_succ (brk ds) (32 * j + i)
      walk_at "st"
      refine m_cut (fun σ' H'' => H' = H'' ∧ σ' = [some (.ref b), some (.ref a), some (.ref po), some (.ref pl), some (.int (hgt (brk ds) (32 * j + i))), some (.int (sumTo (brk ds) (32 * j + (i + 1)))), some (.int (j : Int)), some (.int ((blks (brk ds)).getD j 0 / 2 ^ i)), some (.int low), some (.int (32 * (j : Int) + (i : Int)))]) ?_ ?_
      · walk_at "st"
        rw [eb]
        walk_at "if" <;> intro c
        · obtain ⟨m, hm, P⟩ := placeAt hD c
          rw [show 32 * j + (i + 1) = 32 * j + i + 1 by omega, hsu, c, P.sum]
          walk_at "st"
          refine k_lenL (.of (s.get hS)) ?_
          walk_at "st"
          rw [List.length_map]
          refine k_decF (by omega) ?_
          walk_at "st"
          refine k_ixL (.of (s.get hS)) (at_nat (mapint (List.getElem?_eq_getElem hm))) ?_
          walk_at "st"
          refine k_ndecT (by rw [P.hg]; exact (getD_of (List.getElem?_eq_getElem hm)).symm) ?_
          walk_at "st"
          exact ⟨rfl, rfl⟩
        · walk_at "st"
          rw [show 32 * j + (i + 1) = 32 * j + i + 1 by omega, hsu, show (brk ds).getD (32 * j + i) 0 = 0 by omega, Int.add_zero]
          exact ⟨rfl, rfl⟩
      rintro σ' H'' ⟨rfl, rfl⟩
      walk_at "st"
      rw [eb, show hgt (brk ds) (32 * j + i) + 2 * (brk ds).getD (32 * j + i) 0 - 1 = hgt (brk ds) (32 * j + (i + 1)) by rw [show 32 * j + (i + 1) = 32 * j + i + 1 by omega, hhu]; omega, halve]
      refine ⟨_, _, rfl, by omega, ?_, fun k k1 k2 => ?_, ?_, rfl⟩
      · split <;> omega
      · rcases Nat.lt_or_ge (32 * j + i) k with z | z
        · rw [show k = 32 * j + (i + 1) by omega]; split <;> omega
        · have := l2 k k1 z; split <;> omega
      · split
        · exact .inr ⟨32 * j + (i + 1), by omega, by omega, rfl⟩
        · rcases l3 with z | ⟨k, k1, k2, k3⟩
          · exact .inl z
          · exact .inr ⟨k, k1, by omega, k3⟩
    · subst es
      subst eH
      rw [blk_end hB hj2 hcnt]
      have hlow : low = lowOf (brk ds) j := by
        clear hct
        rcases l3 with z | ⟨k', c1, c2, c3⟩
        · obtain ⟨⟨k, k1, k2, k3, k4⟩, la⟩ := lowOf_is hB hj2
          have hk : k ≤ 32 * j + cnt := by omega
          have g1 := l2 k k1 hk
          have := hgt_le hD k; omega
        · obtain ⟨⟨k, k1, k2, k3, k4⟩, la⟩ := lowOf_is hB hj2
          have hk : k ≤ 32 * j + cnt := by omega
          have g1 := l2 k k1 hk
          have hk1 : k' ≤ 32 * j + 32 := by omega
          have hk2 : k' ≤ (brk ds).length := by omega
          have := la k' c1 hk1 hk2; omega
      clear l3 hct
      rw [hlow]
      walk_at "st"
      refine k_ndecT rfl ?_
      walk_at "st"
      refine k_tyL (.of eo) ?_
      walk_at "st"
      refine k_app eo (by rw [List.length_map, aheadN_len]; omega) ?_
      have s2 := Same.mut s hpo ⟨_, eo⟩ (o := .lst ((aheadN (brk ds) (j + 1)).map V.int ++ [V.int (sumTo (brk ds) (32 * j + cnt))]))
      have el2 : upd H' po (.lst ((aheadN (brk ds) (j + 1)).map V.int ++ [V.int (sumTo (brk ds) (32 * j + cnt))])) pl = some (.lst (((lowsOf (brk ds)).take j).map V.int)) := by rw [upd_ne (Ne.symm npl)]; exact el
      have eo2 := upd_same (H := H') (a := po) (o := .lst ((aheadN (brk ds) (j + 1)).map V.int ++ [V.int (sumTo (brk ds) (32 * j + cnt))]))
      generalize upd H' po (.lst ((aheadN (brk ds) (j + 1)).map V.int ++ [V.int (sumTo (brk ds) (32 * j + cnt))])) = H2 at s2 el2 eo2 ⊢
      walk_at "st"
      refine k_tyL (.of el2) ?_
      walk_at "st"
      refine k_app el2 (by rw [List.length_map, List.length_take, lowsOf_len]; omega) ?_
      have esum : sumTo (brk ds) (32 * j + cnt) = sumTo (brk ds) (32 * (j + 1)) := by
        rcases Nat.lt_or_ge cnt 32 with z | z
        · rw [sumTo_all _ (by omega), sumTo_all _ (by omega)]
        · congr 1; omega
      refine ⟨some (.int (j : Int)), some (.int 0), some (.int (lowOf (brk ds) j)), v9, Same.mut s2 hplH ⟨_, el2⟩, by omega, ?_, ?_, ?_⟩
      · rw [upd_ne npl, eo2, esum, aheadN_succ _ (j + 1), List.map_append]; rfl
      · rw [upd_same, List.take_add_one, lowsOf_get _ hj2, List.map_append]; rfl
      · rw [← esum, show min (32 * (j + 1)) (brk ds).length = 32 * j + cnt by omega]
  · subst es
    walk_at "st"
    intro t ht
    have n1 : po ≠ t := ne_of_none eo ht
    have n2 : pl ≠ t := ne_of_none el ht
    refine q t po pl _ (s.gone _ ht) (s.trans (same_new ht)) upd_same ?_ ?_
    · rw [upd_ne n1, eo]; unfold aheadT; rw [hnb]
    · rw [upd_ne n2, el, List.take_of_length_le (by rw [lowsOf_len, hnb]; exact Nat.le_refl _)]

/-- a list of numbers and None, the numbers alone -/
def numsO : Option Int → Option Int → List Int
  | none, none => []
  | some x, none => [x]
  | none, some y => [y]
  | some x, some y => [x, y]
def intO : Option V → Option V
  | some (V.int x) => some (V.int x)
  | _ => none
theorem numsO_fm (a b : Option Int) : (List.range 2).filterMap (fun k => intO ([NV a, NV b] : List V)[k]?) = (numsO a b).map V.int := by
  cases a <;> cases b <;> rfl
/-- _law_heap(nodes, lows) -/
def sp_law_heap (K : PySem.W.Frag) : Sp := fun vs H Q _ => ∃ (p l : Addr) (ns : List Int), vs = [.ref p, .ref l] ∧ H p = some (.tup (heapL ns)) ∧ H l = some (.lst (ns.map V.int)) ∧ ns.length ≤ 4096 ∧ ∀ H', Same H H' → Q (.bl true) H'
theorem len_law_heap (K : PySem.W.Frag) : ∀ vs H Q E, sp_law_heap K vs H Q E → vs.length = 2 := by
  rintro vs H Q E ⟨a, b, ds, rfl, _⟩; rfl
def t_law_heap (K : PySem.W.Frag) : TS :=
  (tSeq (tAsg (tC (.int 1)) (gName 2))
  (tSeq (tWhile (tTest (tOp rLt (tVar 2) (tCB (rLen K) (tCons (tVar 1) tNil))))
  (tAsg (tOp rTimes (tC (.int 2)) (tVar 2)) (gName 2)))
  (tSeq (tIfS (tOr (tNot (tB (tCB rIsB (tCons (tVar 0) (tCons (tC (.ty "tuple")) tNil))))) (tOr (tTest (tOp rNe (tCB (rLen K) (tCons (tVar 0) tNil)) (tOp rTimes (tC (.int 2)) (tVar 2)))) (tTest (tOp rNotN (tOp (rIxT K) (tVar 0) (tC (.int 0))) (tC .non)))))
  (tRet (tC (.bl false)))
  tNext)
  (tSeq (tFor (iRng1 (tCons (tVar 2) tNil)) (gName 3)
  (tSeq (tAsg (tOp (rIxT K) (tVar 0) (tOp rPlus (tVar 2) (tVar 3))) (gName 4))
  (tSeq (tIfS (tAnd (tTest (tOp rLt (tVar 3) (tCB (rLen K) (tCons (tVar 1) tNil)))) (tOr (tNot (tB (tCall (sp_law_whole K) [] E0 (tCons (tVar 4) tNil)))) (tTest (tOp rNe (tVar 4) (tOp (rIxL K) (tVar 1) (tVar 3))))))
  (tRet (tC (.bl false)))
  tNext)
  (tIfS (tAnd (tTest (tOp rGeI (tVar 3) (tCB (rLen K) (tCons (tVar 1) tNil)))) (tTest (tOp rNotN (tVar 4) (tC .non))))
  (tRet (tC (.bl false)))
  tNext))))
  (tSeq (tFor (iRng2 (tCons (tC (.int 1)) (tCons (tVar 2) tNil))) (gName 3)
  (tSeq (tAsg (tLc (iTup K (tSl (rSlT K) (tVar 0) (tPart (tOp rTimes (tC (.int 2)) (tVar 3))) (tPart (tOp rPlus (tOp rTimes (tC (.int 2)) (tVar 3)) (tC (.int 2)))))) (gName 4) (tTest (tOp rNotN (tVar 4) (tC .non))) (tVar 4) [4]) (gName 5))
  (tSeq (tIfS (tAnd (tTest (tOp (rEqD K) (tVar 5) (tLst tNil))) (tTest (tOp rNotN (tOp (rIxT K) (tVar 0) (tVar 3)) (tC .non))))
  (tRet (tC (.bl false)))
  tNext)
  (tIfS (tAnd (tTest (tOp (rNeD K) (tVar 5) (tLst tNil))) (tOr (tNot (tB (tCall (sp_law_whole K) [] E0 (tCons (tOp (rIxT K) (tVar 0) (tVar 3)) tNil)))) (tTest (tOp rNe (tOp (rIxT K) (tVar 0) (tVar 3)) (tCB (rMin K) (tCons (tVar 5) tNil))))))
  (tRet (tC (.bl false)))
  tNext))))
  (tRet (tC (.bl true))))))))
abbrev n_law_heap : List Str := ["_law_nodes", "_law_lows", "_law_size", "_law_i", "_law_told", "_law_some"]

theorem rd_law_heap (K : PySem.W.Frag) (vs : List V) (H : Hp) (Q : VK) (E : XK) (h : sp_law_heap K vs H Q E) : t_law_heap K { nx := fun _ H' => Q .non H', rt := Q } (start n_law_heap vs) H := by
  obtain ⟨p, l, ns, rfl, hp, hL, hl, q⟩ := h
  have hlen := heapL_len ns
  have hget := fun {n} => heapL_get (ns := ns) (n := n)
  have hS12 := hOf_small hl
  have hle := hOf_le ns.length
  have hp12 : 2 ^ hOf ns.length ≤ 4096 := Nat.le_trans (Nat.pow_le_pow_right (by decide) hS12) (by decide)
  have hS0 : 0 < 2 ^ hOf ns.length := Nat.pow_pos (by decide)
  unfold t_law_heap
  walk_at "st"
  refine loop_while (fun m σ H' => ∃ k : Nat, m = hOf ns.length - k ∧ k ≤ hOf ns.length ∧ σ = [some (.ref p), some (.ref l), some (.int ((2 ^ k : Nat) : Int)), none, none, none] ∧ H' = H) (hOf ns.length) ⟨0, rfl, Nat.zero_le _, rfl, rfl⟩ ?_
  rintro m σ H' ⟨k, rfl, hk, rfl, rfl⟩
  walk_at "st"
  refine k_lenL (.of hL) ?_
  walk_at "st"
  rw [List.length_map]
  walk_at "if" <;> intro c
  · have c2 : 2 ^ k < ns.length := by exact_mod_cast c
    have hk2 : k < hOf ns.length := by
      rcases Nat.lt_or_ge k (hOf ns.length) with z | z
      · exact z
      · have : k = hOf ns.length := by omega
        subst this
        omega
    walk_at "st"
    refine ⟨hOf ns.length - (k + 1), by omega, k + 1, rfl, hk2, ?_, rfl⟩
    rw [show ((2 ^ (k + 1) : Nat) : Int) = 2 * ((2 ^ k : Nat) : Int) by rw [Nat.pow_succ, Nat.mul_comm]; push_cast; rfl]; rfl
  have c2 : ¬ 2 ^ k < ns.length := by exact_mod_cast c
  have : k = hOf ns.length := by
    rcases Nat.lt_or_ge k (hOf ns.length) with z | z
    · exact absurd (hOf_lt z) c2
    · omega
  subst this
  generalize hOf ns.length = h at *
  walk_at "st"
  refine k_isTup hp ?_
  walk_at "st"
  refine k_lenT (.of hp) ?_
  walk_at "st"
  refine k_ndecT (by rw [hlen]; push_cast; rfl) ?_
  walk_at "st"
  refine k_ixT (.of hp) (x := .non) (at_int (by omega) (by rw [show (0 : Int).toNat = 0 from rfl, hget (by omega), bear_zero]; rfl)) ?_
  walk_at "st"
  refine k_ndecT rfl ?_
  walk_at "st"
  refine loop_range0 (fun i σ H2 => ∃ v4 v5, H' = H2 ∧ σ = [some (.ref p), some (.ref l), some (.int ((2 ^ h : Nat) : Int)), v4, v5, none]) ⟨none, none, rfl, rfl⟩ (fun i σ H2 hi ⟨v4, v5, eH, es⟩ => ?_) (fun σ H2 ⟨v4, v5, eH, es⟩ => ?_)
  · subst es
    subst eH
    walk_at "st"
    refine k_ixT (.of hp) (x := NV ns[i]?) (at_int (by omega) (by rw [show (((2 ^ h : Nat) : Int) + (i : Int)).toNat = 2 ^ h + i by omega, hget (by omega), bear_leaf (by omega), Nat.add_sub_cancel_left])) ?_
    walk_at "st"
    refine k_lenL (.of hL) ?_
    walk_at "st"
    rw [List.length_map]
    by_cases c : i < ns.length
    · have ei := List.getElem?_eq_getElem c
      generalize ns[i] = x at ei
      rw [ei, show NV (some x) = V.int x from rfl]
      refine k_decT (by omega) ?_
      walk_at "st"
      refine whole_int ?_
      walk_at "st"
      refine k_ixL (.of hL) (at_nat (mapint ei)) ?_
      walk_at "st"
      refine k_ndecT rfl ?_
      walk_at "st"
      refine k_lenL (.of hL) ?_
      walk_at "st"
      rw [List.length_map]
      refine k_decF (by omega) ?_
      walk_at "st"
      exact ⟨_, _, rfl, rfl⟩
    · rw [List.getElem?_eq_none (by omega), show NV none = V.non from rfl]
      refine k_decF (by omega) ?_
      walk_at "st"
      refine k_lenL (.of hL) ?_
      walk_at "st"
      rw [List.length_map]
      refine k_decT (by omega) ?_
      walk_at "st"
      refine k_ndecT rfl ?_
      walk_at "st"
      exact ⟨_, _, rfl, rfl⟩
  subst es
  subst eH
  walk_at "st"
  rw [show (((2 ^ h : Nat) : Int) - 1).toNat = 2 ^ h - 1 by omega]
  refine loop_range (fun i σ H2 => ∃ v4 v5 v6, Same H' H2 ∧ σ = [some (.ref p), some (.ref l), some (.int ((2 ^ h : Nat) : Int)), v4, v5, v6]) ⟨_, _, _, Same.refl _, rfl⟩ (fun i σ H2 hi ⟨v4, v5, v6, s, es⟩ => ?_) (fun σ H2 ⟨v4, v5, v6, s, es⟩ => ?_)
  · subst es
    obtain ⟨j, hj1, hj2, ej⟩ : ∃ j : Nat, 1 ≤ j ∧ j < 2 ^ h ∧ (1 : Int) + (i : Int) = (j : Int) := ⟨i + 1, by omega, by omega, by omega⟩
    rw [ej]
    have hp2 := s.get hp
    walk_at "st"
    refine ⟨p, _, rfl, .of hp2, ?_, fun t ht => ?_⟩
    · rw [show (2 : Int) * (j : Int) = ((2 * j : Nat) : Int) by omega, HT.sIx_nat, hlen]
      intro z; omega
    have hcut : cutV (heapL ns) (some (2 * (j : Int))) (some (2 * (j : Int) + 2)) = [NV (bear ns h (2 * j)), NV (bear ns h (2 * j + 1))] := by
      rw [show (2 : Int) * (j : Int) = ((2 * j : Nat) : Int) by omega, show ((2 * j : Nat) : Int) + 2 = ((2 * j + 2 : Nat) : Int) by omega, cutPart]
      refine List.ext_getElem? fun k => ?_
      rw [List.getElem?_drop, List.getElem?_take]
      rcases Nat.lt_or_ge k 2 with z | z
      · rw [if_pos (by omega), hget (by omega)]
        rcases (show k = 0 ∨ k = 1 by omega) with rfl | rfl <;> rfl
      · rw [if_neg (by omega), List.getElem?_eq_none (by simp only [List.length_cons, List.length_nil]; omega)]
    rw [hcut]
    have hx := hget (n := j) (by omega)
    rw [bear_node hj1 hj2] at hx
    generalize bear ns h (2 * j) = x at hx ⊢
    generalize bear ns h (2 * j + 1) = y at hx ⊢
    obtain ⟨s3, e3⟩ := new_both (o := .tup [NV x, NV y]) ht
    generalize upd H2 t (.tup [NV x, NV y]) = H3 at s3 e3 ⊢
    walk_at "st"
    refine m_iTe (.of e3) ?_
    refine comp_walkV (f := fun k => intO ([NV x, NV y] : List V)[k]?) (walk_tup (K := K) (xs := [NV x, NV y])) (by simp) (fun H' s' => .of (s'.get e3)) (fun k v Hb Hc Qb hk sk hy qb => ?_) (fun pm H4 hpm s4 e4 => ?_)
    · obtain ⟨rfl, ev⟩ := hy
      have hv : v = .non ∨ ∃ z, v = .int z := by
        have := List.mem_of_getElem? ev
        simp only [List.mem_cons, List.not_mem_nil, or_false] at this
        rcases this with rfl | rfl
        · cases x
          · exact .inl rfl
          · exact .inr ⟨_, rfl⟩
        · cases y
          · exact .inl rfl
          · exact .inr ⟨_, rfl⟩
      rcases hv with rfl | ⟨z, rfl⟩
      · walk_at "st"
        exact qb _ _ (Same.refl _) (fun hc => by simp at hc) (fun _ => by rw [ev]; rfl)
      · walk_at "st"
        refine qb _ _ (Same.refl _) (fun _ Q2 H6 s6 => ⟨.int z, by rw [ev]; rfl, fun q2 => ?_⟩) (fun hc => by simp at hc)
        walk_at "st"
        exact q2 _ (Same.refl _)
    rw [show ([NV x, NV y] : List V).length = 2 from rfl, numsO_fm] at e4
    have s24 := s3.trans s4
    have hp4 := s24.get hp2
    walk_at "st"
    intro pn hpn
    obtain ⟨s5, e5⟩ := new_both (o := .lst []) hpn
    have e5 : (upd H4 pn (.lst [])) pn = some (.lst (([] : List Int).map V.int)) := e5
    have e45 := s5.get e4
    have hp5 := s5.get hp4
    generalize upd H4 pn (.lst []) = H5 at s5 e5 e45 hp5 ⊢
    have S5 := s.trans (s24.trans s5)
    cases x with
    | none =>
      cases y with
      | none =>
        refine k_eqL (ns := numsO none none) (ms := []) (.of e45) (.of e5) ?_
        rw [decide_eq_true (show numsO none none = [] from rfl)]
        walk_at "st"
        refine k_ixT (.of hp5) (at_nat hx) ?_
        rw [show NV (minO none none) = V.non from rfl]
        walk_at "st"
        refine k_ndecT rfl ?_
        walk_at "st"
        intro pn2 hpn2
        obtain ⟨s6, e6⟩ := new_both (o := .lst []) hpn2
        have e6 : (upd H5 pn2 (.lst [])) pn2 = some (.lst (([] : List Int).map V.int)) := e6
        refine k_neL (ns := numsO none none) (ms := []) (.of (s6.get e45)) (.of e6) ?_
        rw [decide_eq_true (show numsO none none = [] from rfl)]
        walk_at "st"
        exact ⟨_, _, _, S5.trans s6, rfl⟩
      | some b =>
        refine k_eqL (ns := numsO none (some b)) (ms := []) (.of e45) (.of e5) ?_
        rw [decide_eq_false (show ¬ numsO none (some b) = [] from fun z => by cases z)]
        walk_at "st"
        intro pn2 hpn2
        obtain ⟨s6, e6⟩ := new_both (o := .lst []) hpn2
        have e6 : (upd H5 pn2 (.lst [])) pn2 = some (.lst (([] : List Int).map V.int)) := e6
        have e46 := s6.get e45
        have hp6 := s6.get hp5
        generalize upd H5 pn2 (.lst []) = H6 at s6 e6 e46 hp6 ⊢
        refine k_neL (ns := numsO none (some b)) (ms := []) (.of e46) (.of e6) ?_
        rw [decide_eq_false (show ¬ numsO none (some b) = [] from fun z => by cases z)]
        walk_at "st"
        have hx : (heapL ns)[j]? = some (V.int b) := hx
        refine k_ixT (.of hp6) (at_nat hx) ?_
        walk_at "st"
        refine whole_int ?_
        walk_at "st"
        refine k_ixT (.of hp6) (at_nat hx) ?_
        walk_at "st"
        refine ⟨pm, numsO none (some b), rfl, .of e46, by simp [numsO], fun mn hmn hall => ?_⟩
        walk_at "st"
        have hmn2 : mn = b := by
          simp only [numsO, List.mem_cons, List.not_mem_nil, or_false] at hmn hall
          exact hmn
        refine k_ndecT hmn2.symm ?_
        walk_at "st"
        exact ⟨_, _, _, S5.trans s6, rfl⟩
    | some a =>
      cases y with
      | none =>
        refine k_eqL (ns := numsO (some a) none) (ms := []) (.of e45) (.of e5) ?_
        rw [decide_eq_false (show ¬ numsO (some a) none = [] from fun z => by cases z)]
        walk_at "st"
        intro pn2 hpn2
        obtain ⟨s6, e6⟩ := new_both (o := .lst []) hpn2
        have e6 : (upd H5 pn2 (.lst [])) pn2 = some (.lst (([] : List Int).map V.int)) := e6
        have e46 := s6.get e45
        have hp6 := s6.get hp5
        generalize upd H5 pn2 (.lst []) = H6 at s6 e6 e46 hp6 ⊢
        refine k_neL (ns := numsO (some a) none) (ms := []) (.of e46) (.of e6) ?_
        rw [decide_eq_false (show ¬ numsO (some a) none = [] from fun z => by cases z)]
        walk_at "st"
        have hx : (heapL ns)[j]? = some (V.int a) := hx
        refine k_ixT (.of hp6) (at_nat hx) ?_
        walk_at "st"
        refine whole_int ?_
        walk_at "st"
        refine k_ixT (.of hp6) (at_nat hx) ?_
        walk_at "st"
        refine ⟨pm, numsO (some a) none, rfl, .of e46, by simp [numsO], fun mn hmn hall => ?_⟩
        walk_at "st"
        have hmn2 : mn = a := by
          simp only [numsO, List.mem_cons, List.not_mem_nil, or_false] at hmn hall
          exact hmn
        refine k_ndecT hmn2.symm ?_
        walk_at "st"
        exact ⟨_, _, _, S5.trans s6, rfl⟩
      | some b =>
        refine k_eqL (ns := numsO (some a) (some b)) (ms := []) (.of e45) (.of e5) ?_
        rw [decide_eq_false (show ¬ numsO (some a) (some b) = [] from fun z => by cases z)]
        walk_at "st"
        intro pn2 hpn2
        obtain ⟨s6, e6⟩ := new_both (o := .lst []) hpn2
        have e6 : (upd H5 pn2 (.lst [])) pn2 = some (.lst (([] : List Int).map V.int)) := e6
        have e46 := s6.get e45
        have hp6 := s6.get hp5
        generalize upd H5 pn2 (.lst []) = H6 at s6 e6 e46 hp6 ⊢
        refine k_neL (ns := numsO (some a) (some b)) (ms := []) (.of e46) (.of e6) ?_
        rw [decide_eq_false (show ¬ numsO (some a) (some b) = [] from fun z => by cases z)]
        walk_at "st"
        have hx : (heapL ns)[j]? = some (V.int (if b < a then b else a)) := hx
        refine k_ixT (.of hp6) (at_nat hx) ?_
        walk_at "st"
        refine whole_int ?_
        walk_at "st"
        refine k_ixT (.of hp6) (at_nat hx) ?_
        walk_at "st"
        refine ⟨pm, numsO (some a) (some b), rfl, .of e46, by simp [numsO], fun mn hmn hall => ?_⟩
        walk_at "st"
        have hmn2 : mn = (if b < a then b else a) := by
          simp only [numsO, List.mem_cons, List.not_mem_nil, or_false] at hmn hall
          have h1 := hall a (.inl rfl); have h2 := hall b (.inr rfl); split <;> omega
        refine k_ndecT hmn2.symm ?_
        walk_at "st"
        exact ⟨_, _, _, S5.trans s6, rfl⟩
  · subst es
    walk_at "st"
    exact q _ s

theorem aheadT_last (bs : List Int) : atI ((aheadT bs).map V.int) (-1) = some (.int bs.sum) := by
  unfold aheadT
  rw [aheadN_succ, List.map_append, ← sumTo_all bs (show bs.length ≤ 32 * ((bs.length + 31) / 32) by omega)]
  exact atI_last _ _

/-- _law_no_tree(depths) -/
def sp_law_no_tree (K : PySem.W.Frag) : Sp := fun vs H Q _ => ∃ (a : Addr) (ds : List Int), vs = [.ref a] ∧ H a = some (.lst (ds.map V.int)) ∧ ds.length ≤ 100000 ∧ (ds.length ≤ 2048 ∧ ¬ Deep ds) ∧ ∀ H', Same H H' → Q (.bl true) H'
theorem len_law_no_tree (K : PySem.W.Frag) : ∀ vs H Q E, sp_law_no_tree K vs H Q E → vs.length = 1 := by
  rintro vs H Q E ⟨a, ds, rfl, _⟩; rfl
def t_law_no_tree (K : PySem.W.Frag) : TS :=
  (tSeq (tAsg (tLst tNil) (gName 1))
  (tSeq (tTryAs K (.ref (He.ga K "NoTree")) 2 (fun W => (tDrop (tCallS (sp_kept_tree K) (WE W) (tCons (tVar 0) tNil)))) (fun a cls d => (tAsg (tLst (tCons (tCB (rIsX K cls d a) (tCons (tVar 2) (tCons (tC (.ref (He.ga K "WoodError"))) tNil))) (tCons (tCB (rIsX K cls d a) (tCons (tVar 2) (tCons (tC (.ty "ValueError")) tNil))) (tCons (tCB (rIsX K cls d a) (tCons (tVar 2) (tCons (tC (.ref (He.ga K "TooMany"))) tNil))) tNil)))) (gName 1))) (fun _ _ _ _ => False))
  (tRet (tOp (rEqD K) (tVar 1) (tLst (tCons (tC (.bl true)) (tCons (tC (.bl true)) (tCons (tC (.bl false)) tNil))))))))
abbrev n_law_no_tree : List Str := ["_law_depths_here", "_law_told", "e"]

theorem rd_law_no_tree (K : PySem.W.Frag) (F : KFx K) (vs : List V) (H : Hp) (Q : VK) (E : XK) (h : sp_law_no_tree K vs H Q E) : t_law_no_tree K { nx := fun _ H' => Q .non H', rt := Q } (start n_law_no_tree vs) H := by
  obtain ⟨a, ds, rfl, hS, hl, hx, q⟩ := h
  unfold t_law_no_tree
  walk_at "st"
  intro p1 hp1
  obtain ⟨s1, e1⟩ := new_both (o := .lst []) hp1
  generalize upd H p1 (.lst []) = H1 at s1 e1 ⊢
  walk_at "st"
  refine ⟨a, ds, rfl, .of (s1.get hS), hl, fun z => by omega, fun _ _ H2 s2 => ?_, fun _ z => absurd z hx.2⟩


  refine m_caught F.e_NoTree_NoTree fun x hx => ?_
  walk_at "st"
  refine k_isX F.ec_NoTree F.k_NoTree_WoodError ?_
  walk_at "st"
  refine k_isXty F.ec_NoTree F.kt_NoTree ?_
  walk_at "st"
  refine k_isX F.ec_NoTree F.k_NoTree_TooMany ?_
  walk_at "st"
  intro p3 hp3
  obtain ⟨s3, e3⟩ := new_both (o := .lst [.bl true, .bl true, .bl false]) hp3
  generalize upd H2 p3 (.lst [.bl true, .bl true, .bl false]) = H3 at s3 e3 ⊢
  walk_at "st"
  intro p4 hp4
  obtain ⟨s4, e4⟩ := new_both (o := .lst [.bl true, .bl true, .bl false]) hp4
  generalize upd H3 p4 (.lst [.bl true, .bl true, .bl false]) = H4 at s4 e4 ⊢
  walk_at "st"
  refine k_eqB [true, true, false] [true, true, false] (.of (s4.get e3)) (.of e4) ?_
  rw [decide_eq_true rfl]
  walk_at "st"
  exact q _ ((s1.trans s2).trans (s3.trans s4))
/-- _law_too_many(depths) -/
def sp_law_too_many (K : PySem.W.Frag) : Sp := fun vs H Q _ => ∃ (a : Addr) (ds : List Int), vs = [.ref a] ∧ H a = some (.lst (ds.map V.int)) ∧ ds.length ≤ 100000 ∧ (2048 < ds.length) ∧ ∀ H', Same H H' → Q (.bl true) H'
theorem len_law_too_many (K : PySem.W.Frag) : ∀ vs H Q E, sp_law_too_many K vs H Q E → vs.length = 1 := by
  rintro vs H Q E ⟨a, ds, rfl, _⟩; rfl
def t_law_too_many (K : PySem.W.Frag) : TS :=
  (tSeq (tAsg (tLst tNil) (gName 1))
  (tSeq (tTryAs K (.ref (He.ga K "TooMany")) 2 (fun W => (tDrop (tCallS (sp_kept_tree K) (WE W) (tCons (tVar 0) tNil)))) (fun a cls d => (tAsg (tLst (tCons (tCB (rIsX K cls d a) (tCons (tVar 2) (tCons (tC (.ref (He.ga K "WoodError"))) tNil))) (tCons (tCB (rIsX K cls d a) (tCons (tVar 2) (tCons (tC (.ty "ValueError")) tNil))) (tCons (tCB (rIsX K cls d a) (tCons (tVar 2) (tCons (tC (.ref (He.ga K "NoTree"))) tNil))) tNil)))) (gName 1))) (fun _ _ _ _ => False))
  (tRet (tOp (rEqD K) (tVar 1) (tLst (tCons (tC (.bl true)) (tCons (tC (.bl true)) (tCons (tC (.bl false)) tNil))))))))
abbrev n_law_too_many : List Str := ["_law_depths_here", "_law_told", "e"]

theorem rd_law_too_many (K : PySem.W.Frag) (F : KFx K) (vs : List V) (H : Hp) (Q : VK) (E : XK) (h : sp_law_too_many K vs H Q E) : t_law_too_many K { nx := fun _ H' => Q .non H', rt := Q } (start n_law_too_many vs) H := by
  obtain ⟨a, ds, rfl, hS, hl, hx, q⟩ := h
  unfold t_law_too_many
  walk_at "st"
  intro p1 hp1
  obtain ⟨s1, e1⟩ := new_both (o := .lst []) hp1
  generalize upd H p1 (.lst []) = H1 at s1 e1 ⊢
  walk_at "st"
  refine ⟨a, ds, rfl, .of (s1.get hS), hl, fun _ => ?_, fun z => by omega, fun z => by omega⟩
  obtain ⟨H2, s2, eH⟩ : ∃ H2, Same H1 H2 ∧ H1 = H2 := ⟨_, Same.refl _, rfl⟩
  rw [eH]
  refine m_caught F.e_TooMany_TooMany fun x hx => ?_
  walk_at "st"
  refine k_isX F.ec_TooMany F.k_TooMany_WoodError ?_
  walk_at "st"
  refine k_isXty F.ec_TooMany F.kt_TooMany ?_
  walk_at "st"
  refine k_isX F.ec_TooMany F.k_TooMany_NoTree ?_
  walk_at "st"
  intro p3 hp3
  obtain ⟨s3, e3⟩ := new_both (o := .lst [.bl true, .bl true, .bl false]) hp3
  generalize upd H2 p3 (.lst [.bl true, .bl true, .bl false]) = H3 at s3 e3 ⊢
  walk_at "st"
  intro p4 hp4
  obtain ⟨s4, e4⟩ := new_both (o := .lst [.bl true, .bl true, .bl false]) hp4
  generalize upd H3 p4 (.lst [.bl true, .bl true, .bl false]) = H4 at s4 e4 ⊢
  walk_at "st"
  refine k_eqB [true, true, false] [true, true, false] (.of (s4.get e3)) (.of e4) ?_
  rw [decide_eq_true rfl]
  walk_at "st"
  exact q _ ((s1.trans s2).trans (s3.trans s4))
/-- what is kept -/
structure KeptT (H : Hp) (f t pb : Addr) (ds : List Int) : Prop where
  f : H f = some (.tup [.ref t, .ref pb])
  t : ∃ pa ph, H t = some (.tup [.int ((brk ds).length : Int), .ref pa, .ref ph]) ∧ H pa = some (.tup ((aheadT (brk ds)).map V.int)) ∧ H ph = some (.tup (heapL (lowsOf (brk ds))))
theorem KeptT.same {H H' : Hp} {f t pb : Addr} {ds : List Int} (k : KeptT H f t pb ds) (s : Same H H') : KeptT H' f t pb ds := ⟨s.get k.f, let ⟨pa, ph, a, b, c⟩ := k.t; ⟨pa, ph, s.get a, s.get b, s.get c⟩⟩
/-- _law_good(found, depths) -/
def sp_law_good (K : PySem.W.Frag) : Sp := fun vs H Q _ => ∃ (f t pb a : Addr) (ds : List Int), vs = [.ref f, .ref a] ∧ KeptT H f t pb ds ∧ H pb = some (.lst ((blks (brk ds)).map V.int)) ∧ H a = some (.lst (ds.map V.int)) ∧ Deep ds ∧ ds.length ≤ 2048 ∧ ∀ H', Same H H' → Q (.bl true) H'
theorem len_law_good (K : PySem.W.Frag) : ∀ vs H Q E, sp_law_good K vs H Q E → vs.length = 2 := by
  rintro vs H Q E ⟨f, t, pb, a, ds, rfl, _⟩; rfl
def t_law_good (K : PySem.W.Frag) : TS :=
  (tSeq (tIfS (tOr (tNot (tB (tCB rIsB (tCons (tVar 0) (tCons (tC (.ty "tuple")) tNil))))) (tOr (tTest (tOp rNe (tCB (rLen K) (tCons (tVar 0) tNil)) (tC (.int 2)))) (tNot (tB (tCB rIsB (tCons (tOp (rIxT K) (tVar 0) (tC (.int 1))) (tCons (tC (.ty "list")) tNil)))))))
  (tRet (tC (.bl false)))
  tNext)
  (tSeq (tAsg (tVar 0) (gTup K 2 (gCons (gName 2) (gCons (gName 3) gNil))))
  (tSeq (tIfS (tOr (tTest (tOp rNe (tCB (rLen K) (tCons (tVar 3) tNil)) (tOp rDiv (tOp rPlus (tOp rTimes (tC (.int 2)) (tCB (rLen K) (tCons (tVar 1) tNil))) (tC (.int 31))) (tC (.int 32))))) (tOr (tNot (tB (tCB rIsB (tCons (tVar 2) (tCons (tC (.ty "tuple")) tNil))))) (tTest (tOp rNe (tCB (rLen K) (tCons (tVar 2) tNil)) (tC (.int 3))))))
  (tRet (tC (.bl false)))
  tNext)
  (tSeq (tIfS (tTest (tOp rGtI (tCB (rLen K) (tCons (tLc (iList K (tVar 3)) (gName 4) (tOr (tNot (tB (tCall (sp_law_whole K) [] E0 (tCons (tVar 4) tNil)))) (tTest (tOp rLt (tVar 4) (tC (.int 0))))) (tVar 4) [4]) tNil)) (tC (.int 0))))
  (tRet (tC (.bl false)))
  tNext)
  (tSeq (tAsg (tCall (sp_law_walked K) [] E0 (tCons (tVar 3) (tCons (tVar 1) tNil))) (gTup K 2 (gCons (gName 5) (gCons (gName 6) gNil))))
  (tSeq (tIfS (tOr (tTest (tOp (rEqD K) (tVar 5) (tLst tNil))) (tOr (tTest (tOp rNe (tOp (rIxL K) (tVar 5) (tUn rNeg (tC (.int 1)))) (tCB (rLen K) (tCons (tVar 1) tNil)))) (tNot (tB (tCB rIsB (tCons (tOp (rIxT K) (tVar 2) (tC (.int 1))) (tCons (tC (.ty "tuple")) tNil)))))))
  (tRet (tC (.bl false)))
  tNext)
  (tSeq (tIfS (tOr (tTest (tOp rGtI (tCB (rLen K) (tCons (tLc (iTup K (tOp (rIxT K) (tVar 2) (tC (.int 1)))) (gName 7) (tNot (tB (tCall (sp_law_whole K) [] E0 (tCons (tVar 7) tNil)))) (tVar 7) [7]) tNil)) (tC (.int 0)))) (tTest (tOp (rNeD K) (tCB (rListOf K) (tCons (tOp (rIxT K) (tVar 2) (tC (.int 1))) tNil)) (tVar 5))))
  (tRet (tC (.bl false)))
  tNext)
  (tRet (tAndV (tCall (sp_law_whole K) [] E0 (tCons (tOp (rIxT K) (tVar 2) (tC (.int 0))) tNil)) (tAndV (tOp rEq (tOp (rIxT K) (tVar 2) (tC (.int 0))) (tOp rTimes (tC (.int 2)) (tCB (rLen K) (tCons (tVar 1) tNil)))) (tCall (sp_law_heap K) [] E0 (tCons (tOp (rIxT K) (tVar 2) (tC (.int 2))) (tCons (tVar 6) tNil)))))))))))))
abbrev n_law_good : List Str := ["_law_found", "_law_depths_here", "_law_tables", "_law_blocks", "_law_block", "_law_ones", "_law_lows", "_law_count"]

theorem rd_law_good (K : PySem.W.Frag) (vs : List V) (H : Hp) (Q : VK) (E : XK) (h : sp_law_good K vs H Q E) : t_law_good K { nx := fun _ H' => Q .non H', rt := Q } (start n_law_good vs) H := by
  obtain ⟨f, t, pb, a, ds, rfl, ⟨ef, pa, ph, et, ea, eh⟩, eb, hS, hD, hl, q⟩ := h
  have hB := (brk_tree hD).2
  have hbl := brk_len hD
  have hnb := blks_len (brk ds)
  unfold t_law_good
  walk_at "st"
  refine k_isTup ef ?_
  walk_at "st"
  refine k_lenT (.of ef) ?_
  walk_at "st"
  refine k_ndecT rfl ?_
  walk_at "st"
  refine k_ixT (.of ef) (x := .ref pb) rfl ?_
  walk_at "st"
  refine k_isList eb ?_
  walk_at "st"
  refine m_gTup (.of ef) rfl ?_
  walk_at "st"
  refine k_lenL (.of eb) ?_
  walk_at "st"
  refine k_lenL (.of hS) ?_
  walk_at "st"
  rw [List.length_map, List.length_map]
  refine k_ndecT (by omega) ?_
  walk_at "st"
  refine k_isTup et ?_
  walk_at "st"
  refine k_lenT (.of et) ?_
  walk_at "st"
  refine k_ndecT rfl ?_
  walk_at "st"
  refine m_iLe (.of eb) ?_
  refine comp_walkV (f := fun _ => none) (walk_list (K := K) (xs := (blks (brk ds)).map V.int)) (by rw [List.length_map]; omega) (fun H' s' => .of (s'.get eb)) (fun k v Hb Hc Qb hk sk hy qb => ?_) (fun pm H1 hpm s1 e1 => ?_)
  · obtain ⟨rfl, ev⟩ := hy
    obtain ⟨b, hb, rfl⟩ := of_mapint ev
    have := (blks_range hB hb).1
    walk_at "st"
    refine whole_int ?_
    walk_at "st"
    exact qb _ _ (Same.refl _) (fun hc => by have := of_decide_eq_true hc; omega) (fun _ => rfl)
  have e1 : H1 pm = some (.lst []) := by
    rw [e1]; congr 2
    exact List.filterMap_eq_nil_iff.mpr fun _ _ => rfl
  walk_at "st"
  refine k_lenL (.of e1) ?_
  walk_at "st"
  refine k_decF (by simp) ?_
  walk_at "st"
  refine ⟨pb, a, ds, rfl, s1.get eb, s1.get hS, hD, hl, fun t2 po pl H2 ht2 s2 et2 eo el => ?_⟩
  have s12 := s1.trans s2
  walk_at "st"
  refine m_gTup (.of et2) rfl ?_
  walk_at "st"
  intro pn hpn
  obtain ⟨s3, e3⟩ := new_both (o := .lst []) hpn
  have e3 : (upd H2 pn (.lst [])) pn = some (.lst (([] : List Int).map V.int)) := e3
  have eo3 := s3.get eo
  have el3 := s3.get el
  have s13 := s12.trans s3
  refine k_eqL (ns := aheadT (brk ds)) (ms := []) (.of eo3) (.of e3) ?_
  rw [decide_eq_false (show ¬ aheadT (brk ds) = [] from fun z => by have := aheadT_len (brk ds); rw [z] at this; simp at this)]
  generalize upd H2 pn (.lst []) = H3 at s3 e3 eo3 el3 s13 ⊢
  walk_at "st"
  refine k_ixL (.of eo3) (aheadT_last (brk ds)) ?_
  walk_at "st"
  refine k_lenL (.of (s13.get hS)) ?_
  walk_at "st"
  rw [List.length_map]
  refine k_ndecT (brk_sum hD) ?_
  walk_at "st"
  refine k_ixT (.of (s13.get et)) (x := .ref pa) rfl ?_
  walk_at "st"
  refine k_isTup (s13.get ea) ?_
  walk_at "st"
  refine k_ixT (.of (s13.get et)) (x := .ref pa) rfl ?_
  walk_at "st"
  have ea3 := s13.get ea
  refine m_iTe (.of ea3) ?_
  refine comp_walkV (f := fun _ => none) (walk_tup (K := K) (xs := (aheadT (brk ds)).map V.int)) (by rw [List.length_map, aheadT_len]; omega) (fun H' s' => .of (s'.get ea3)) (fun k v Hb Hc Qb hk sk hy qb => ?_) (fun pm2 H4 hpm2 s4 e4 => ?_)
  · obtain ⟨rfl, ev⟩ := hy
    obtain ⟨b, hb, rfl⟩ := of_mapint ev
    walk_at "st"
    refine whole_int ?_
    walk_at "st"
    exact qb _ _ (Same.refl _) (fun hc => by cases hc) (fun _ => rfl)
  have e4 : H4 pm2 = some (.lst []) := by
    rw [e4]; congr 2
    exact List.filterMap_eq_nil_iff.mpr fun _ _ => rfl
  have s14 := s13.trans s4
  walk_at "st"
  refine k_lenL (.of e4) ?_
  walk_at "st"
  refine k_decF (by simp) ?_
  walk_at "st"
  refine k_ixT (.of (s14.get et)) (x := .ref pa) rfl ?_
  walk_at "st"
  refine ⟨pa, _, rfl, .inr (.of (s14.get ea)), fun lc hlc => ?_⟩
  obtain ⟨s5, e5⟩ := new_both (o := .lst ((aheadT (brk ds)).map V.int)) hlc
  have s15 := s14.trans s5
  have eo5 := s5.get (s4.get eo3)
  have el5 := s5.get (s4.get el3)
  generalize upd H4 lc (.lst ((aheadT (brk ds)).map V.int)) = H5 at s5 e5 s15 eo5 el5 ⊢
  walk_at "st"
  refine k_neL (ns := aheadT (brk ds)) (ms := aheadT (brk ds)) (.of e5) (.of eo5) ?_
  rw [decide_eq_true rfl]
  walk_at "st"
  refine k_ixT (.of (s15.get et)) (x := .int ((brk ds).length : Int)) rfl ?_
  walk_at "st"
  refine whole_int ?_
  walk_at "st"
  refine k_ixT (.of (s15.get et)) (x := .int ((brk ds).length : Int)) rfl ?_
  walk_at "st"
  refine k_lenL (.of (s15.get hS)) ?_
  walk_at "st"
  rw [List.length_map, decide_eq_true (show ((brk ds).length : Int) = 2 * (ds.length : Int) by omega)]
  walk_at "st"
  refine k_ixT (.of (s15.get et)) (x := .ref ph) rfl ?_
  walk_at "st"
  refine ⟨ph, pl, _, rfl, s15.get eh, el5, by rw [lowsOf_len]; omega, fun H6 s6 => ?_⟩
  exact q _ (s15.trans s6)
--#base
/-- law(script) -/
def sp_law (K : PySem.W.Frag) : Sp := fun vs H Q _ => ∃ (a : Addr) (ns : List Int), vs = [.ref a] ∧ SqL K H a (ns.map V.int) ∧ ns.length ≤ 63 ∧ ∀ H', Q (.bl true) H'
theorem len_law (K : PySem.W.Frag) : ∀ vs H Q E, sp_law K vs H Q E → vs.length = 1 := by
  rintro vs H Q E ⟨x, y, rfl, _⟩; rfl

theorem not_deep_put {ds : List Int} (h : Deep ds) {k : Nat} {o a : Int} (hk : 0 < k) (hl : k ≤ ds.length) (ea : ds[k - 1]? = some a) (ho : o < 1 ∨ a + 1 < o) : ¬ Deep (ds.take k ++ [o] ++ ds.drop k) := by
  obtain ⟨r, rfl, h2⟩ := h.cons
  intro z
  have e1 : ((0 : Int) :: r).take k ++ [o] ++ ((0 : Int) :: r).drop k = 0 :: (r.take (k - 1) ++ [o] ++ ((0 : Int) :: r).drop k) := by
    rw [show k = (k - 1) + 1 by omega, List.take_succ_cons, Nat.add_sub_cancel]
    simp
  rw [e1] at z
  have hkl : k - 1 ≤ r.length := by rw [List.length_cons] at hl; omega
  have hy : (r.take (k - 1) ++ [o] ++ ((0 : Int) :: r).drop k)[k - 1]? = some o := by
    rw [List.append_assoc, List.getElem?_append_right (by rw [List.length_take]; omega), List.length_take, Nat.min_eq_left hkl, Nat.sub_self]; rfl
  have hx : ((0 : Int) :: (r.take (k - 1) ++ [o] ++ ((0 : Int) :: r).drop k))[k - 1]? = some a := by
    rw [← e1, List.append_assoc, List.getElem?_append_left (by rw [List.length_take]; omega), List.getElem?_take, if_pos (by omega)]
    exact ea
  have := deepT_get z.2 hx hy
  omega
def t_law (K : PySem.W.Frag) : TS :=
  (tSeq (tAsg (tCall (sp_law_depths K) [] E0 (tCons (tVar 0) tNil)) (gName 1))
  (tSeq (tAsg (tCB (rListOf K) (tCons (tVar 1) tNil)) (gName 2))
  (Evl.tCut (tIfS (tTest (tOp rEq (tOp rMod (tCall (sp_law_cell_at K) [] E0 (tCons (tVar 0) (tCons (tC (.int 1)) tNil))) (tC (.int 5))) (tC (.int 2))))
  (tSeq (tAsg (tOp rPlus (tC (.int 1)) (tOp rMod (tCall (sp_law_cell_at K) [] E0 (tCons (tVar 0) (tCons (tC (.int 2)) tNil))) (tCB (rLen K) (tCons (tVar 1) tNil)))) (gName 3))
  (tSeq (tAsg (tOp (rIxL K) (tLst (tCons (tC (.int 0)) (tCons (tOp rMinus (tC (.int (-1))) (tOp rMod (tCall (sp_law_cell_at K) [] E0 (tCons (tVar 0) (tCons (tC (.int 3)) tNil))) (tC (.int 1000000000000000000000000000000000000000000000000000000000000)))) (tCons (tOp rPlus (tOp (rIxL K) (tVar 1) (tOp rMinus (tVar 3) (tC (.int 1)))) (tC (.int 2))) tNil)))) (tOp rMod (tCall (sp_law_cell_at K) [] E0 (tCons (tVar 0) (tCons (tC (.int 4)) tNil))) (tC (.int 3)))) (gName 4))
  (tSeq (tDrop (tBM K "list" rInsert (tVar 2) (tCons (tVar 3) (tCons (tVar 4) tNil))))
  (tSeq (tIfS (tNot (tB (tCall (sp_law_no_tree K) [] E0 (tCons (tVar 2) tNil))))
  (tRet (tC (.bl false)))
  tNext)
  (tDrop (tBM K "list" rPopAt (tVar 2) (tCons (tVar 3) tNil)))))))
  tNext)
  (Evl.tCut (tIfS (tTest (tOp rEq (tOp rMod (tCall (sp_law_cell_at K) [] E0 (tCons (tVar 0) (tCons (tC (.int 1)) tNil))) (tC (.int 9))) (tC (.int 7))))
  (tSeq (tAsg (tOp rPlus (tC (.int 1)) (tOp rMod (tCall (sp_law_cell_at K) [] E0 (tCons (tVar 0) (tCons (tC (.int 2)) tNil))) (tC (.int 3)))) (gName 4))
  (tIfS (tNot (tB (tCall (sp_law_too_many K) [] E0 (tCons (tOp rCat (tLst (tCons (tC (.int 0)) tNil)) (tOp rRep (tLst (tCons (tVar 4) tNil)) (tC (.int 2048)))) tNil))))
  (tRet (tC (.bl false)))
  tNext))
  tNext)
  (tSeq (tAsg (tCall (sp_kept_tree K) [] E0 (tCons (tVar 2) tNil)) (gName 5))
  (tSeq (tIfS (tOr (tNot (tB (tCall (sp_law_good K) [] E0 (tCons (tVar 5) (tCons (tVar 1) tNil))))) (tTest (tOp (rNeD K) (tVar 2) (tVar 1))))
  (tRet (tC (.bl false)))
  tNext)
  (tSeq (tAsg (tC (.int 0)) (gSub (tOp (rIxT K) (tVar 5) (tC (.int 1))) (tC (.int 0)) rSetL))
  (tSeq (tDrop (tBM K "list" rAppend (tVar 2) (tCons (tC (.int 1)) tNil)))
  (tRet (tAndV (tCall (sp_law_good K) [] E0 (tCons (tCall (sp_kept_tree K) [] E0 (tCons (tVar 1) tNil)) (tCons (tVar 1) tNil))) (tOp rEq (tOp (rIxL K) (tOp (rIxT K) (tVar 5) (tC (.int 1))) (tC (.int 0))) (tC (.int 0)))))))))))))
abbrev n_law : List Str := ["_law_script", "_law_depths_here", "_law_handed", "_law_at", "_law_odd", "_law_found"]

theorem rd_law (K : PySem.W.Frag) (F : KFx K) (vs : List V) (H : Hp) (Q : VK) (E : XK) (h : sp_law K vs H Q E) : t_law K { nx := fun _ H' => Q .non H', rt := Q } (start n_law vs) H := by
  obtain ⟨a, ns, rfl, hS, hl, q⟩ := h
  unfold t_law
  walk_at "st"
  refine ⟨a, ns, rfl, hS, fun ds pd H1 hD hdl hpd s1 e1 => ?_⟩
  have hd0 : 0 < ds.length := by obtain ⟨r, rfl, _⟩ := hD.cons; exact Nat.succ_pos _
  walk_at "st"
  refine k_listL (.of e1) fun pc hpc => ?_
  obtain ⟨s2, e2⟩ := new_both (o := .lst (ds.map V.int)) hpc
  generalize upd H1 pc (.lst (ds.map V.int)) = H2 at s2 e2 ⊢
  have hpcH := s1.gone _ hpc
  have npc : pd ≠ pc := ne_of_none e1 hpc
  walk_at "st"
  refine m_cut (fun σ' H' => ∃ (v3 v4 : Option V), Same H H' ∧ H' pd = some (.lst (ds.map V.int)) ∧ H' pc = some (.lst (ds.map V.int)) ∧ σ' = [some (.ref a), some (.ref pd), some (.ref pc), v3, v4, none]) ?_ ?_
  · walk_at "st"
    refine call_cell_at ((s1.trans s2).seq hS) (by decide) fun c1 _ => ?_
    walk_at "st"
    walk_at "if" <;> intro z1
    · walk_at "st"
      refine call_cell_at ((s1.trans s2).seq hS) (by decide) fun c2 _ => ?_
      walk_at "st"
      refine k_lenL (.of (s2.get e1)) ?_
      walk_at "st"
      rw [List.length_map]
      refine k_I (show (0 : Int) < (ds.length : Int) by omega) ?_
      have m0 := Int.emod_nonneg c2 (show (ds.length : Int) ≠ 0 by omega)
      have m1 := Int.emod_lt_of_pos c2 (show (0 : Int) < (ds.length : Int) by omega)
      obtain ⟨k, hk⟩ := Int.eq_ofNat_of_zero_le m0
      rw [hk] at m1 ⊢
      walk_at "st"
      rw [show (1 : Int) + (k : Int) = ((k + 1 : Nat) : Int) by omega]
      have hkl : k < ds.length := by omega
      have ek := List.getElem?_eq_getElem hkl
      generalize ds[k] = d at ek
      refine call_cell_at ((s1.trans s2).seq hS) (by decide) fun c3 _ => ?_
      walk_at "st"
      refine k_ixL (.of (s2.get e1)) (at_int (by omega) (mapint (show ds[(((k + 1 : Nat) : Int) - 1).toNat]? = some d by rw [show (((k + 1 : Nat) : Int) - 1).toNat = k by omega]; exact ek))) ?_
      walk_at "st"
      intro po hpo
      obtain ⟨s3, e3⟩ := new_both (o := .lst [.int 0, .int (-1 - c3 % 1000000000000000000000000000000000000000000000000000000000000), .int (d + 2)]) hpo
      generalize upd H2 po (.lst [.int 0, .int (-1 - c3 % 1000000000000000000000000000000000000000000000000000000000000), .int (d + 2)]) = H3 at s3 e3 ⊢
      have s13 := (s1.trans s2).trans s3
      walk_at "st"
      refine call_cell_at (s13.seq hS) (by decide) fun c4 _ => ?_
      walk_at "st"
      obtain ⟨o, eo⟩ : ∃ o : Int, ([0, -1 - c3 % 1000000000000000000000000000000000000000000000000000000000000, d + 2] : List Int)[(c4 % 3).toNat]? = some o := ⟨_, List.getElem?_eq_getElem (by simp only [List.length_cons, List.length_nil]; omega)⟩
      have ho : o < 1 ∨ d + 1 < o := by
        have := List.mem_of_getElem? eo
        simp only [List.mem_cons, List.not_mem_nil, or_false] at this
        omega
      refine k_ixL (xs := ([0, -1 - c3 % 1000000000000000000000000000000000000000000000000000000000000, d + 2] : List Int).map V.int) (.of e3) (at_int (by omega) (mapint eo)) ?_
      walk_at "st"
      have e23 := s3.get e2
      refine k_tyL (.of e23) ?_
      walk_at "st"
      refine k_insert e23 (by rw [List.length_map]; omega) (by omega) ?_
      have eL : (ds.map V.int).take (k + 1) ++ [V.int o] ++ (ds.map V.int).drop (k + 1) = (ds.take (k + 1) ++ [o] ++ ds.drop (k + 1)).map V.int := by
        rw [List.map_append, List.map_append, List.map_take, List.map_drop]; rfl
      rw [eL]
      have s4 := Same.mut (s13) hpcH ⟨_, e23⟩ (o := .lst ((ds.take (k + 1) ++ [o] ++ ds.drop (k + 1)).map V.int))
      have e4 := upd_same (H := H3) (a := pc) (o := .lst ((ds.take (k + 1) ++ [o] ++ ds.drop (k + 1)).map V.int))
      have d4 : upd H3 pc (.lst ((ds.take (k + 1) ++ [o] ++ ds.drop (k + 1)).map V.int)) pd = some (.lst (ds.map V.int)) := by rw [upd_ne npc]; exact (s2.trans s3).get e1
      generalize upd H3 pc (.lst ((ds.take (k + 1) ++ [o] ++ ds.drop (k + 1)).map V.int)) = H4 at s4 e4 d4 ⊢
      have hLl : (ds.take (k + 1) ++ [o] ++ ds.drop (k + 1)).length = ds.length + 1 := by rw [List.length_append, List.length_append, List.length_take, List.length_drop]; simp only [List.length_cons, List.length_nil]; omega
      walk_at "st"
      refine ⟨pc, _, rfl, e4, by omega, ⟨by omega, not_deep_put hD (by omega) (by omega) (by rw [Nat.add_sub_cancel]; exact ek) ho⟩, fun H5 s5 => ?_⟩
      have e45 := s5.get e4
      walk_at "st"
      refine k_tyL (.of e45) ?_
      walk_at "st"
      refine k_popAt e45 (i := k + 1) (y := .int o) (by rw [List.length_map]; omega) (by rw [List.length_map]; omega) (mapint (by
        rw [List.append_assoc, List.getElem?_append_right (by rw [List.length_take]; omega), List.length_take, Nat.min_eq_left (by omega), Nat.sub_self]; rfl)) ?_
      have eE : ((ds.take (k + 1) ++ [o] ++ ds.drop (k + 1)).map V.int).eraseIdx (k + 1) = ds.map V.int := by
        rw [List.append_assoc, List.map_append, List.eraseIdx_append_of_length_le (by rw [List.length_map, List.length_take]; omega), List.length_map, List.length_take, Nat.min_eq_left (by omega), Nat.sub_self]
        show (ds.take (k + 1)).map V.int ++ (ds.drop (k + 1)).map V.int = _
        rw [← List.map_append, List.take_append_drop]
      rw [eE]
      walk_at "st"
      exact ⟨_, _, Same.mut (s4.trans s5) hpcH ⟨_, e45⟩, by rw [upd_ne npc]; exact s5.get d4, upd_same, rfl⟩
    · walk_at "st"
      exact ⟨_, _, s1.trans s2, s2.get e1, e2, rfl⟩
  rintro σ' H3 ⟨v3, v4, s3, d3, c3, rfl⟩
  walk_at "st"
  refine m_cut (fun σ' H' => ∃ (v4 : Option V), Same H3 H' ∧ σ' = [some (.ref a), some (.ref pd), some (.ref pc), v3, v4, none]) ?_ ?_
  · walk_at "st"
    refine call_cell_at (s3.seq hS) (by decide) fun c1 _ => ?_
    walk_at "st"
    walk_at "if" <;> intro z1
    · walk_at "st"
      refine call_cell_at (s3.seq hS) (by decide) fun c2 _ => ?_
      walk_at "st"
      intro p1 hp1
      obtain ⟨r1, f1⟩ := new_both (o := .lst [.int 0]) hp1
      generalize upd H3 p1 (.lst [.int 0]) = H4 at r1 f1 ⊢
      have f1 : H4 p1 = some (.lst (([0] : List Int).map V.int)) := f1
      walk_at "st"
      intro p2 hp2
      obtain ⟨r2, f2⟩ := new_both (o := .lst [.int (1 + c2 % 3)]) hp2
      generalize upd H4 p2 (.lst [.int (1 + c2 % 3)]) = H5 at r2 f2 ⊢
      have f2 : H5 p2 = some (.lst (([1 + c2 % 3] : List Int).map V.int)) := f2
      walk_at "st"
      refine k_repI f2 (by omega) (by simp) fun p6 H6 cs hp6 r6 ecs hcs f6 => ?_
      rw [List.length_singleton] at hcs
      walk_at "st"
      refine k_catI ((r2.trans r6).get f1) f6 (by rw [List.length_singleton]; omega) fun p7 H7 hp7 r7 f7 => ?_
      walk_at "st"
      refine ⟨p7, _, rfl, f7, by rw [List.length_append, List.length_singleton]; omega, by rw [List.length_append, List.length_singleton]; omega, fun H8 r8 => ?_⟩
      walk_at "st"
      exact ⟨_, ((r1.trans r2).trans (r6.trans r7)).trans r8, rfl⟩
    · walk_at "st"
      exact ⟨_, Same.refl _, rfl⟩
  rintro σ' H4 ⟨v4, s4, rfl⟩
  have d4 := s4.get d3
  have c4 := s4.get c3
  have S4 := s3.trans s4
  walk_at "st"
  refine ⟨pc, ds, rfl, .of c4, by omega, fun z => by omega, fun _ z => absurd hD z, fun _ _ f t pa ph pb H5 hf hpb s5 ef et ea eh eb => ?_⟩
  have k5 : KeptT H5 f t pb ds := ⟨ef, pa, ph, et, ea, eh⟩
  walk_at "st"
  refine ⟨f, t, pb, pd, ds, rfl, k5, eb, s5.get d4, hD, by omega, fun H6 s6 => ?_⟩
  have s56 := s5.trans s6
  walk_at "st"
  refine k_neL (ns := ds) (ms := ds) (.of (s56.get c4)) (.of (s56.get d4)) ?_
  rw [decide_eq_true rfl]
  walk_at "st"
  refine k_ixT (.of (s6.get ef)) (x := .ref pb) rfl ?_
  walk_at "st"
  have b6 := s6.get eb
  have hb0 : 0 < (blks (brk ds)).length := by
    have := blks_len (brk ds)
    have := brk_len hD
    omega
  refine m_setL b6 (ixN_nat (k := 0) (by omega) (by rw [List.length_map]; omega)) ?_
  have npb : pc ≠ pb := ne_of_none c4 hpb
  have npbd : pd ≠ pb := ne_of_none d4 hpb
  have hpbH := S4.gone _ hpb
  have s7 := Same.mut (S4.trans s56) hpbH ⟨_, b6⟩ (o := .lst (((blks (brk ds)).map V.int).set (0 : Int).toNat (.int 0)))
  have c7 : upd H6 pb (.lst (((blks (brk ds)).map V.int).set (0 : Int).toNat (.int 0))) pc = some (.lst (ds.map V.int)) := by rw [upd_ne npb]; exact s56.get c4
  have d7 : upd H6 pb (.lst (((blks (brk ds)).map V.int).set (0 : Int).toNat (.int 0))) pd = some (.lst (ds.map V.int)) := by rw [upd_ne npbd]; exact s56.get d4
  have f7 : upd H6 pb (.lst (((blks (brk ds)).map V.int).set (0 : Int).toNat (.int 0))) f = some (.tup [.ref t, .ref pb]) := by
    have ef6 := s6.get ef
    rw [upd_ne (fun z => by rw [z, b6] at ef6; cases ef6)]; exact ef6
  have b7 := upd_same (H := H6) (a := pb) (o := .lst (((blks (brk ds)).map V.int).set (0 : Int).toNat (.int 0)))
  generalize upd H6 pb (.lst (((blks (brk ds)).map V.int).set (0 : Int).toNat (.int 0))) = H7 at s7 c7 d7 f7 b7 ⊢
  walk_at "st"
  refine k_tyL (.of c7) ?_
  walk_at "st"
  refine k_app c7 (by rw [List.length_map]; omega) ?_
  have d8 : upd H7 pc (.lst (ds.map V.int ++ [.int 1])) pd = some (.lst (ds.map V.int)) := by rw [upd_ne npc]; exact d7
  have f8 : upd H7 pc (.lst (ds.map V.int ++ [.int 1])) f = some (.tup [.ref t, .ref pb]) := by rw [upd_ne (fun z => by rw [z, c7] at f7; cases f7)]; exact f7
  have b8 : upd H7 pc (.lst (ds.map V.int ++ [.int 1])) pb = some (.lst (((blks (brk ds)).map V.int).set (0 : Int).toNat (.int 0))) := by rw [upd_ne (Ne.symm npb)]; exact b7
  generalize upd H7 pc (.lst (ds.map V.int ++ [.int 1])) = H8 at d8 f8 b8 ⊢
  walk_at "st"
  refine ⟨pd, ds, rfl, .of d8, by omega, fun z => by omega, fun _ z => absurd hD z, fun _ _ f2 t2 pa2 ph2 pb2 H9 hf2 hpb2 s9 ef2 et2 ea2 eh2 eb2 => ?_⟩
  walk_at "st"
  refine ⟨f2, t2, pb2, pd, ds, rfl, ⟨ef2, pa2, ph2, et2, ea2, eh2⟩, eb2, s9.get d8, hD, by omega, fun H10 s10 => ?_⟩
  walk_at "st"
  refine k_ixT (.of ((s9.trans s10).get f8)) (x := .ref pb) rfl ?_
  walk_at "st"
  refine k_ixL (.of ((s9.trans s10).get b8)) (x := .int 0) (at_int (by omega) (by rw [List.getElem?_set, if_pos rfl, if_pos (by rw [List.length_map]; exact hb0)])) ?_
  walk_at "st"
  exact q _

end Tw
namespace Tw
open PySem PySem.Spec PyProof.Rows L2
/-! the text -/
def topS (i : Nat) : Stmt := PySem.Challenge.pw_thinwood_k43_a_tree_kept.main.body.getD i (.Pass ⟨0, 0, 0, 0⟩)
abbrev s_packed : Stmt := topS 8
theorem sc_packed : FnScope n_packed ["bits"] (defScope s_packed) := ⟨rfl, rfl, rfl, by decide +kernel, rfl, by decide +kernel, by decide +kernel⟩

abbrev s_ones_in : Stmt := topS 9
theorem sc_ones_in : FnScope n_ones_in ["block", "upto"] (defScope s_ones_in) := ⟨rfl, rfl, rfl, by decide +kernel, rfl, by decide +kernel, by decide +kernel⟩

abbrev s_low_in : Stmt := topS 10
theorem sc_low_in : FnScope n_low_in ["block", "upto"] (defScope s_low_in) := ⟨rfl, rfl, rfl, by decide +kernel, rfl, by decide +kernel, by decide +kernel⟩

abbrev s_size_of : Stmt := topS 12
theorem sc_size_of : FnScope n_size_of ["many"] (defScope s_size_of) := ⟨rfl, rfl, rfl, by decide +kernel, rfl, by decide +kernel, by decide +kernel⟩

abbrev s_lesser_of : Stmt := topS 13
theorem sc_lesser_of : FnScope n_lesser_of ["one", "other"] (defScope s_lesser_of) := ⟨rfl, rfl, rfl, by decide +kernel, rfl, by decide +kernel, by decide +kernel⟩

abbrev s_heap_of : Stmt := topS 14
theorem sc_heap_of : FnScope n_heap_of ["numbers"] (defScope s_heap_of) := ⟨rfl, rfl, rfl, by decide +kernel, rfl, by decide +kernel, by decide +kernel⟩

abbrev s_ones_table : Stmt := topS 16
theorem sc_ones_table : FnScope n_ones_table ["blocks"] (defScope s_ones_table) := ⟨rfl, rfl, rfl, by decide +kernel, rfl, by decide +kernel, by decide +kernel⟩

abbrev s_kept_row : Stmt := topS 17
theorem sc_kept_row : FnScope n_kept_row ["bits"] (defScope s_kept_row) := ⟨rfl, rfl, rfl, by decide +kernel, rfl, by decide +kernel, by decide +kernel⟩

abbrev s_is_tree : Stmt := topS 19
theorem sc_is_tree : FnScope n_is_tree ["bits"] (defScope s_is_tree) := ⟨rfl, rfl, rfl, by decide +kernel, rfl, by decide +kernel, by decide +kernel⟩

abbrev s_begin_height : Stmt := topS 20
theorem sc_begin_height : FnScope n_begin_height ["ahead", "number"] (defScope s_begin_height) := ⟨rfl, rfl, rfl, by decide +kernel, rfl, by decide +kernel, by decide +kernel⟩

abbrev s_kept_brackets : Stmt := topS 21
theorem sc_kept_brackets : FnScope n_kept_brackets ["bits"] (defScope s_kept_brackets) := ⟨rfl, rfl, rfl, by decide +kernel, rfl, by decide +kernel, by decide +kernel⟩

abbrev s_brackets_of : Stmt := topS 23
theorem sc_brackets_of : FnScope n_brackets_of ["depths"] (defScope s_brackets_of) := ⟨rfl, rfl, rfl, by decide +kernel, rfl, by decide +kernel, by decide +kernel⟩

abbrev s_kept_tree : Stmt := topS 24
theorem sc_kept_tree : FnScope n_kept_tree ["depths"] (defScope s_kept_tree) := ⟨rfl, rfl, rfl, by decide +kernel, rfl, by decide +kernel, by decide +kernel⟩

abbrev s_law_cell_at : Stmt := topS 26
theorem sc_law_cell_at : FnScope n_law_cell_at ["_law_script", "_law_k"] (defScope s_law_cell_at) := ⟨rfl, rfl, rfl, by decide +kernel, rfl, by decide +kernel, by decide +kernel⟩

abbrev s_law_whole : Stmt := topS 27
theorem sc_law_whole : FnScope n_law_whole ["_law_found"] (defScope s_law_whole) := ⟨rfl, rfl, rfl, by decide +kernel, rfl, by decide +kernel, by decide +kernel⟩

abbrev s_law_depths : Stmt := topS 28
theorem sc_law_depths : FnScope n_law_depths ["_law_script"] (defScope s_law_depths) := ⟨rfl, rfl, rfl, by decide +kernel, rfl, by decide +kernel, by decide +kernel⟩

abbrev s_law_walked : Stmt := topS 29
theorem sc_law_walked : FnScope n_law_walked ["_law_blocks", "_law_depths_here"] (defScope s_law_walked) := ⟨rfl, rfl, rfl, by decide +kernel, rfl, by decide +kernel, by decide +kernel⟩

abbrev s_law_heap : Stmt := topS 30
theorem sc_law_heap : FnScope n_law_heap ["_law_nodes", "_law_lows"] (defScope s_law_heap) := ⟨rfl, rfl, rfl, by decide +kernel, rfl, by decide +kernel, by decide +kernel⟩

abbrev s_law_good : Stmt := topS 31
theorem sc_law_good : FnScope n_law_good ["_law_found", "_law_depths_here"] (defScope s_law_good) := ⟨rfl, rfl, rfl, by decide +kernel, rfl, by decide +kernel, by decide +kernel⟩

abbrev s_law_no_tree : Stmt := topS 32
theorem sc_law_no_tree : FnScope n_law_no_tree ["_law_depths_here"] (defScope s_law_no_tree) := ⟨rfl, rfl, rfl, by decide +kernel, rfl, by decide +kernel, by decide +kernel⟩

abbrev s_law_too_many : Stmt := topS 33
theorem sc_law_too_many : FnScope n_law_too_many ["_law_depths_here"] (defScope s_law_too_many) := ⟨rfl, rfl, rfl, by decide +kernel, rfl, by decide +kernel, by decide +kernel⟩

abbrev s_law : Stmt := topS 34
theorem sc_law : FnScope n_law ["_law_script"] (defScope s_law) := ⟨rfl, rfl, rfl, by decide +kernel, rfl, by decide +kernel, by decide +kernel⟩

structure Tx (P : Program) (w : World) (K : PySem.W.Frag) (mg : Str → Option Value) (base : Heap) : Prop where
  d_packed : ∃ fd, FunD K "packed" "packed" (defArgs s_packed) (defBody s_packed) (defScope s_packed) [] [] (He.ga K "packed") fd
  g_packed : mg "packed" = some (.ref (He.ga K "packed"))
  d_ones_in : ∃ fd, FunD K "ones_in" "ones_in" (defArgs s_ones_in) (defBody s_ones_in) (defScope s_ones_in) [] [] (He.ga K "ones_in") fd
  g_ones_in : mg "ones_in" = some (.ref (He.ga K "ones_in"))
  d_low_in : ∃ fd, FunD K "low_in" "low_in" (defArgs s_low_in) (defBody s_low_in) (defScope s_low_in) [] [] (He.ga K "low_in") fd
  g_low_in : mg "low_in" = some (.ref (He.ga K "low_in"))
  d_size_of : ∃ fd, FunD K "size_of" "size_of" (defArgs s_size_of) (defBody s_size_of) (defScope s_size_of) [] [] (He.ga K "size_of") fd
  g_size_of : mg "size_of" = some (.ref (He.ga K "size_of"))
  d_lesser_of : ∃ fd, FunD K "lesser_of" "lesser_of" (defArgs s_lesser_of) (defBody s_lesser_of) (defScope s_lesser_of) [] [] (He.ga K "lesser_of") fd
  g_lesser_of : mg "lesser_of" = some (.ref (He.ga K "lesser_of"))
  d_heap_of : ∃ fd, FunD K "heap_of" "heap_of" (defArgs s_heap_of) (defBody s_heap_of) (defScope s_heap_of) [] [] (He.ga K "heap_of") fd
  g_heap_of : mg "heap_of" = some (.ref (He.ga K "heap_of"))
  d_ones_table : ∃ fd, FunD K "ones_table" "ones_table" (defArgs s_ones_table) (defBody s_ones_table) (defScope s_ones_table) [] [] (He.ga K "ones_table") fd
  g_ones_table : mg "ones_table" = some (.ref (He.ga K "ones_table"))
  d_kept_row : ∃ fd, FunD K "kept_row" "kept_row" (defArgs s_kept_row) (defBody s_kept_row) (defScope s_kept_row) [] [] (He.ga K "kept_row") fd
  g_kept_row : mg "kept_row" = some (.ref (He.ga K "kept_row"))
  d_is_tree : ∃ fd, FunD K "is_tree" "is_tree" (defArgs s_is_tree) (defBody s_is_tree) (defScope s_is_tree) [] [] (He.ga K "is_tree") fd
  g_is_tree : mg "is_tree" = some (.ref (He.ga K "is_tree"))
  d_begin_height : ∃ fd, FunD K "begin_height" "begin_height" (defArgs s_begin_height) (defBody s_begin_height) (defScope s_begin_height) [] [] (He.ga K "begin_height") fd
  g_begin_height : mg "begin_height" = some (.ref (He.ga K "begin_height"))
  d_kept_brackets : ∃ fd, FunD K "kept_brackets" "kept_brackets" (defArgs s_kept_brackets) (defBody s_kept_brackets) (defScope s_kept_brackets) [] [] (He.ga K "kept_brackets") fd
  g_kept_brackets : mg "kept_brackets" = some (.ref (He.ga K "kept_brackets"))
  d_brackets_of : ∃ fd, FunD K "brackets_of" "brackets_of" (defArgs s_brackets_of) (defBody s_brackets_of) (defScope s_brackets_of) [] [] (He.ga K "brackets_of") fd
  g_brackets_of : mg "brackets_of" = some (.ref (He.ga K "brackets_of"))
  d_kept_tree : ∃ fd, FunD K "kept_tree" "kept_tree" (defArgs s_kept_tree) (defBody s_kept_tree) (defScope s_kept_tree) [] [] (He.ga K "kept_tree") fd
  g_kept_tree : mg "kept_tree" = some (.ref (He.ga K "kept_tree"))
  d_law_cell_at : ∃ fd, FunD K "_law_cell_at" "_law_cell_at" (defArgs s_law_cell_at) (defBody s_law_cell_at) (defScope s_law_cell_at) [] [] (He.ga K "_law_cell_at") fd
  g_law_cell_at : mg "_law_cell_at" = some (.ref (He.ga K "_law_cell_at"))
  d_law_whole : ∃ fd, FunD K "_law_whole" "_law_whole" (defArgs s_law_whole) (defBody s_law_whole) (defScope s_law_whole) [] [] (He.ga K "_law_whole") fd
  g_law_whole : mg "_law_whole" = some (.ref (He.ga K "_law_whole"))
  d_law_depths : ∃ fd, FunD K "_law_depths" "_law_depths" (defArgs s_law_depths) (defBody s_law_depths) (defScope s_law_depths) [] [] (He.ga K "_law_depths") fd
  g_law_depths : mg "_law_depths" = some (.ref (He.ga K "_law_depths"))
  d_law_walked : ∃ fd, FunD K "_law_walked" "_law_walked" (defArgs s_law_walked) (defBody s_law_walked) (defScope s_law_walked) [] [] (He.ga K "_law_walked") fd
  g_law_walked : mg "_law_walked" = some (.ref (He.ga K "_law_walked"))
  d_law_heap : ∃ fd, FunD K "_law_heap" "_law_heap" (defArgs s_law_heap) (defBody s_law_heap) (defScope s_law_heap) [] [] (He.ga K "_law_heap") fd
  g_law_heap : mg "_law_heap" = some (.ref (He.ga K "_law_heap"))
  d_law_good : ∃ fd, FunD K "_law_good" "_law_good" (defArgs s_law_good) (defBody s_law_good) (defScope s_law_good) [] [] (He.ga K "_law_good") fd
  g_law_good : mg "_law_good" = some (.ref (He.ga K "_law_good"))
  d_law_no_tree : ∃ fd, FunD K "_law_no_tree" "_law_no_tree" (defArgs s_law_no_tree) (defBody s_law_no_tree) (defScope s_law_no_tree) [] [] (He.ga K "_law_no_tree") fd
  g_law_no_tree : mg "_law_no_tree" = some (.ref (He.ga K "_law_no_tree"))
  d_law_too_many : ∃ fd, FunD K "_law_too_many" "_law_too_many" (defArgs s_law_too_many) (defBody s_law_too_many) (defScope s_law_too_many) [] [] (He.ga K "_law_too_many") fd
  g_law_too_many : mg "_law_too_many" = some (.ref (He.ga K "_law_too_many"))
  d_law : ∃ fd, FunD K "law" "law" (defArgs s_law) (defBody s_law) (defScope s_law) [] [] (He.ga K "law") fd
  g_law : mg "law" = some (.ref (He.ga K "law"))
  b_ValueError : mg "ValueError" = none
  b_bool : mg "bool" = none
  b_enumerate : mg "enumerate" = none
  b_int : mg "int" = none
  b_isinstance : mg "isinstance" = none
  b_len : mg "len" = none
  b_list : mg "list" = none
  b_min : mg "min" = none
  b_range : mg "range" = none
  b_sum : mg "sum" = none
  b_tuple : mg "tuple" = none
  b_zip : mg "zip" = none
  x_NoBit : ExF K mg "NoBit"
  x_NoTree : ExF K mg "NoTree"
  x_TooMany : ExF K mg "TooMany"
  x_WoodError : ExF K mg "WoodError"
  g_NoBit : mg "NoBit" = some (.ref (He.ga K "NoBit"))
  g_NoTree : mg "NoTree" = some (.ref (He.ga K "NoTree"))
  g_TooMany : mg "TooMany" = some (.ref (He.ga K "TooMany"))
  g_WoodError : mg "WoodError" = some (.ref (He.ga K "WoodError"))
  fx : KFx K
  i_MOST : ∃ t, mg "MOST" = some (.int 4096 t)
  i_WIDE : ∃ t, mg "WIDE" = some (.int 32 t)
section
variable {P : Program} {w : World} {K : PySem.W.Frag} {mg : Str → Option Value} {base : Heap}
theorem ok_packed (T : Tx P w K mg base) : Okf P w K mg base (L2.CX P w) 2 "packed" ["bits"] (sp_packed K) := by
  obtain ⟨fd, FD⟩ := T.d_packed
  refine ⟨⟨fd, FunD.look FD, FD.bindsN fun _ _ _ _ _ _ us hl => match us, hl with | [_], _ => rfl, ?_⟩, FD.kp, T.g_packed⟩
  refine FunD.ok (CX := (L2.CX P w)) FD sc_packed (len_packed K) (fun cdv A outer s H vs Q E hr h => ⟨t_packed K E, ?_, rd_packed K vs H Q E h⟩)
  exact (pss_cons (ps_if (pt_cmpR op_gt (pe_callB call_lenK (by rfl) T.b_len (by decide +kernel) (pa_cons (pv 0) pa_nil)) (pe_gint T.i_MOST (by rfl)) (nomark _))
  (pss_one (ps_rz T.x_TooMany (takes_of rfl rfl rfl rfl)))
  pss_nil)
  (pss_cons (ps_set (i := 1) sc_packed.nd rfl (.inl rfl) (pe_op op_rep (pe_lst (pa_cons pe_int pa_nil)) (pe_op op_fdiv (pe_op op_sub (pe_op op_add (pe_callB call_lenK (by rfl) T.b_len (by decide +kernel) (pa_cons (pv 0) pa_nil)) (pe_gint T.i_WIDE (by rfl))) pe_int) (pe_gint T.i_WIDE (by rfl)))))
  (pss_cons (ps_for (passes_of rfl) rfl (pi_enum (by rfl) T.b_enumerate (pa_cons (pv 0) pa_nil)) (pg_tup rfl (pgs_cons (pg_name (i := 2) sc_packed.nd rfl (.inl rfl)) (pgs_cons (pg_name (i := 3) sc_packed.nd rfl (.inl rfl)) pgs_nil)))
  (pss_cons (ps_if (PW.pt (pw_and (pt_cmpR op_ne (pv 3) pe_int (nomark _)) (pw_and1 (pt_cmpR op_ne (pv 3) pe_int (nomark _)))))
  (pss_one (ps_rz T.x_NoBit (takes_of rfl rfl rfl rfl)))
  pss_nil)
  (pss_one (ps_if (pt_cmpR op_eq (pv 3) pe_int (nomark _))
  (pss_one (ps_asg (pe_op op_or (pe_ix ix_list (pv 1) (pe_op op_fdiv (pv 2) (pe_gint T.i_WIDE (by rfl))) (fun _ _ => rfl)) (pe_op op_shlW pe_int (pe_op op_mod (pv 2) (pe_gint T.i_WIDE (by rfl))))) (pg_sub (pv 1) (pe_op op_fdiv (pv 2) (pe_gint T.i_WIDE (by rfl))) set_list)))
  pss_nil))))
  (pss_one (ps_ret (pv 1))))))

theorem ok_ones_in (T : Tx P w K mg base) : Okf P w K mg base CX0 1 "ones_in" ["block", "upto"] (sp_ones_in K) := by
  obtain ⟨fd, FD⟩ := T.d_ones_in
  refine ⟨⟨fd, FunD.look FD, FD.bindsN fun _ _ _ _ _ _ us hl => match us, hl with | [_, _], _ => rfl, ?_⟩, FD.kp, T.g_ones_in⟩
  refine FunD.ok (CX := CX0) FD sc_ones_in (len_ones_in K) (fun cdv A outer s H vs Q E hr h => ⟨t_ones_in K, PSs.nox ?_, rd_ones_in K vs H Q E h⟩)
  exact (pss_one (ps_ret (pe_callB (cr_sum rfl) (by rfl) T.b_sum (by decide +kernel) (pa_cons (pe_lc (own := [("k", 2)]) (g := (gName 2)) (tt := tYes) rfl sc_ones_in.nd (pi_range1 (by rfl) T.b_range (pa_cons (pv 1) pa_nil)) (blkOk_by (N := ["block", "upto", "k"]) (sc := defScope s_ones_in) (own := [("k", 2)]) (by decide +kernel)) (fun _ _ _ _ _ => (pg_name (i := 2) sc_ones_in.nd rfl (.inl rfl))) (fun _ _ _ _ _ => pts_nil) (fun _ _ _ _ _ => (pe_op op_and1 (pe_op op_shr (pv 0) (pv 2)) pe_int))) pa_nil))))

theorem ok_low_in (T : Tx P w K mg base) : Okf P w K mg base CX0 1 "low_in" ["block", "upto"] (sp_low_in K) := by
  obtain ⟨fd, FD⟩ := T.d_low_in
  refine ⟨⟨fd, FunD.look FD, FD.bindsN fun _ _ _ _ _ _ us hl => match us, hl with | [_, _], _ => rfl, ?_⟩, FD.kp, T.g_low_in⟩
  refine FunD.ok (CX := CX0) FD sc_low_in (len_low_in K) (fun cdv A outer s H vs Q E hr h => ⟨t_low_in K, PSs.nox ?_, rd_low_in K vs H Q E h⟩)
  exact (pss_cons (ps_set (i := 2) sc_low_in.nd rfl (.inl rfl) pe_int)
  (pss_cons (ps_set (i := 3) sc_low_in.nd rfl (.inl rfl) pe_int)
  (pss_cons (ps_for PassesOwn.never rfl (pi_range1 (by rfl) T.b_range (pa_cons (pv 1) pa_nil)) (pg_name (i := 4) sc_low_in.nd rfl (.inl rfl))
  (pss_cons (ps_aug (i := 2) sc_low_in.nd rfl (.inl rfl) (pe_op op_sub (pe_op op_mul pe_int (pe_op op_and1 (pe_op op_shr (pv 0) (pv 4)) pe_int)) pe_int) ip_add)
  (pss_one (ps_set (i := 3) sc_low_in.nd rfl (.inl rfl) (pe_callB (call_min2K rfl) (by rfl) T.b_min (by decide +kernel) (pa_cons (pv 3) (pa_cons (pv 2) pa_nil)))))))
  (pss_one (ps_ret (pv 3))))))

theorem ok_size_of (T : Tx P w K mg base) : Okf P w K mg base CX0 1 "size_of" ["many"] (sp_size_of K) := by
  obtain ⟨fd, FD⟩ := T.d_size_of
  refine ⟨⟨fd, FunD.look FD, FD.bindsN fun _ _ _ _ _ _ us hl => match us, hl with | [_], _ => rfl, ?_⟩, FD.kp, T.g_size_of⟩
  refine FunD.ok (CX := CX0) FD sc_size_of (len_size_of K) (fun cdv A outer s H vs Q E hr h => ⟨t_size_of K, PSs.nox ?_, rd_size_of K vs H Q E h⟩)
  exact (pss_cons (ps_set (i := 1) sc_size_of.nd rfl (.inl rfl) pe_int)
  (pss_cons (ps_while PassesOwn.never (pt_cmpR op_lt (pv 1) (pv 0) (nomark _))
  (pss_one (ps_aug (i := 1) sc_size_of.nd rfl (.inl rfl) pe_int iop_mul)))
  (pss_one (ps_ret (pv 1)))))

theorem ok_lesser_of (T : Tx P w K mg base) : Okf P w K mg base CX0 1 "lesser_of" ["one", "other"] (sp_lesser_of K) := by
  obtain ⟨fd, FD⟩ := T.d_lesser_of
  refine ⟨⟨fd, FunD.look FD, FD.bindsN fun _ _ _ _ _ _ us hl => match us, hl with | [_, _], _ => rfl, ?_⟩, FD.kp, T.g_lesser_of⟩
  refine FunD.ok (CX := CX0) FD sc_lesser_of (len_lesser_of K) (fun cdv A outer s H vs Q E hr h => ⟨t_lesser_of K, PSs.nox ?_, rd_lesser_of K vs H Q E h⟩)
  exact (pss_cons (ps_if (pt_cmpR op_isN1 (pv 0) pe_non (nomark _))
  (pss_one (ps_ret (pv 1)))
  pss_nil)
  (pss_cons (ps_if (pt_cmpR op_isN1 (pv 1) pe_non (nomark _))
  (pss_one (ps_ret (pv 0)))
  pss_nil)
  (pss_one (ps_ret (pe_callB (call_min2K rfl) (by rfl) T.b_min (by decide +kernel) (pa_cons (pv 0) (pa_cons (pv 1) pa_nil)))))))

theorem ok_heap_of (T : Tx P w K mg base) (o_size_of : Okf P w K mg base CX0 1 "size_of" ["many"] (sp_size_of K)) (o_lesser_of : Okf P w K mg base CX0 1 "lesser_of" ["one", "other"] (sp_lesser_of K)) : Okf P w K mg base (L2.CX P w) 3 "heap_of" ["numbers"] (sp_heap_of K) := by
  obtain ⟨fd, FD⟩ := T.d_heap_of
  refine ⟨⟨fd, FunD.look FD, FD.bindsN fun _ _ _ _ _ _ us hl => match us, hl with | [_], _ => rfl, ?_⟩, FD.kp, T.g_heap_of⟩
  refine FunD.ok (CX := (L2.CX P w)) FD sc_heap_of (len_heap_of K) (fun cdv A outer s H vs Q E hr h => ⟨t_heap_of K E, ?_, rd_heap_of K vs H Q E h⟩)
  exact (pss_cons (ps_if (pt_cmpR op_gt (pe_callB call_lenK (by rfl) T.b_len (by decide +kernel) (pa_cons (pv 0) pa_nil)) (pe_gint T.i_MOST (by rfl)) (nomark _))
  (pss_one (ps_rz T.x_TooMany (takes_of rfl rfl rfl rfl)))
  pss_nil)
  (pss_cons (ps_set (i := 1) sc_heap_of.nd rfl (.inl rfl) (pe_callF o_size_of hr (by decide) (by rfl) pass0 (pa_cons (pe_callB call_lenK (by rfl) T.b_len (by decide +kernel) (pa_cons (pv 0) pa_nil)) pa_nil)))
  (pss_cons (ps_set (i := 2) sc_heap_of.nd rfl (.inl rfl) (pe_op op_cat (pe_op op_cat (pe_op op_rep (pe_lst (pa_cons pe_non pa_nil)) (pv 1)) (pe_callTy call_listK (by rfl) T.b_list (by decide +kernel) (pa_cons (pv 0) pa_nil))) (pe_op op_rep (pe_lst (pa_cons pe_non pa_nil)) (pe_op op_sub (pv 1) (pe_callB call_lenK (by rfl) T.b_len (by decide +kernel) (pa_cons (pv 0) pa_nil))))))
  (pss_cons (ps_for (passes_of rfl) rfl (pi_range3 (by rfl) T.b_range (pa_cons (pe_op op_sub (pv 1) pe_int) (pa_cons pe_int (pa_cons (pe_un un_neg pe_int) pa_nil)))) (pg_name (i := 3) sc_heap_of.nd rfl (.inl rfl))
  (pss_one (ps_asg (pe_callF o_lesser_of hr (by decide) (by rfl) pass0 (pa_cons (pe_ix ix_list (pv 2) (pe_op op_mul pe_int (pv 3)) (fun _ _ => rfl)) (pa_cons (pe_ix ix_list (pv 2) (pe_op op_add (pe_op op_mul pe_int (pv 3)) pe_int) (fun _ _ => rfl)) pa_nil))) (pg_sub (pv 2) (pv 3) set_list))))
  (pss_one (ps_ret (pv 2)))))))

theorem ok_ones_table (T : Tx P w K mg base) (o_ones_in : Okf P w K mg base CX0 1 "ones_in" ["block", "upto"] (sp_ones_in K)) : Okf P w K mg base CX0 2 "ones_table" ["blocks"] (sp_ones_table K) := by
  obtain ⟨fd, FD⟩ := T.d_ones_table
  refine ⟨⟨fd, FunD.look FD, FD.bindsN fun _ _ _ _ _ _ us hl => match us, hl with | [_], _ => rfl, ?_⟩, FD.kp, T.g_ones_table⟩
  refine FunD.ok (CX := CX0) FD sc_ones_table (len_ones_table K) (fun cdv A outer s H vs Q E hr h => ⟨t_ones_table K, PSs.nox ?_, rd_ones_table K vs H Q E h⟩)
  exact (pss_cons (ps_set (i := 1) sc_ones_table.nd rfl (.inl rfl) (pe_lst (pa_cons pe_int pa_nil)))
  (pss_cons (ps_for PassesOwn.never rfl (pi_list (pv 0)) (pg_name (i := 2) sc_ones_table.nd rfl (.inl rfl))
  (pss_one (ps_expr (pe_bm PySem.F.plainAttrs_list PySem.F.slot_list_append PySem.F.type_list_append mt_append (pv 1) (pa_cons (pe_op op_add (pe_ix ix_list (pv 1) (pe_un un_neg pe_int) (fun _ _ => rfl)) (pe_callF o_ones_in hr (by decide) (by rfl) pass0 (pa_cons (pv 2) (pa_cons (pe_gint T.i_WIDE (by rfl)) pa_nil)))) pa_nil)))))
  (pss_one (ps_ret (pe_callTy call_tupK (by rfl) T.b_tuple (by decide +kernel) (pa_cons (pv 1) pa_nil))))))

theorem ok_kept_row (T : Tx P w K mg base) (o_packed : Okf P w K mg base (L2.CX P w) 2 "packed" ["bits"] (sp_packed K)) (o_ones_table : Okf P w K mg base CX0 2 "ones_table" ["blocks"] (sp_ones_table K)) : Okf P w K mg base (L2.CX P w) 4 "kept_row" ["bits"] (sp_kept_row K) := by
  obtain ⟨fd, FD⟩ := T.d_kept_row
  refine ⟨⟨fd, FunD.look FD, FD.bindsN fun _ _ _ _ _ _ us hl => match us, hl with | [_], _ => rfl, ?_⟩, FD.kp, T.g_kept_row⟩
  refine FunD.ok (CX := (L2.CX P w)) FD sc_kept_row (len_kept_row K) (fun cdv A outer s H vs Q E hr h => ⟨t_kept_row K E, ?_, rd_kept_row K vs H Q E h⟩)
  exact (pss_cons (ps_set (i := 1) sc_kept_row.nd rfl (.inl rfl) (pe_callF o_packed hr (by decide) (by rfl) (passX (takes_of rfl rfl rfl rfl)) (pa_cons (pv 0) pa_nil)))
  (pss_one (ps_ret (pe_tup (pa_cons (pe_tup (pa_cons (pe_callB call_lenK (by rfl) T.b_len (by decide +kernel) (pa_cons (pv 0) pa_nil)) (pa_cons (pe_callF o_ones_table hr (by decide) (by rfl) pass0 (pa_cons (pv 1) pa_nil)) pa_nil))) (pa_cons (pv 1) pa_nil))))))

theorem ok_is_tree (T : Tx P w K mg base) : Okf P w K mg base CX0 1 "is_tree" ["bits"] (sp_is_tree K) := by
  obtain ⟨fd, FD⟩ := T.d_is_tree
  refine ⟨⟨fd, FunD.look FD, FD.bindsN fun _ _ _ _ _ _ us hl => match us, hl with | [_], _ => rfl, ?_⟩, FD.kp, T.g_is_tree⟩
  refine FunD.ok (CX := CX0) FD sc_is_tree (len_is_tree K) (fun cdv A outer s H vs Q E hr h => ⟨t_is_tree K, PSs.nox ?_, rd_is_tree K vs H Q E h⟩)
  exact (pss_cons (ps_set (i := 1) sc_is_tree.nd rfl (.inl rfl) pe_int)
  (pss_cons (ps_for PassesOwn.never rfl (pi_enum (by rfl) T.b_enumerate (pa_cons (pv 0) pa_nil)) (pg_tup rfl (pgs_cons (pg_name (i := 2) sc_is_tree.nd rfl (.inl rfl)) (pgs_cons (pg_name (i := 3) sc_is_tree.nd rfl (.inl rfl)) pgs_nil)))
  (pss_cons (ps_aug (i := 1) sc_is_tree.nd rfl (.inl rfl) (pe_op op_sub (pe_op op_mul pe_int (pv 3)) pe_int) ip_add)
  (pss_one (ps_if (PW.pt (pw_and (pt_cmpR op_le (pv 1) pe_int (nomark _)) (pw_and1 (pt_cmpR op_lt (pe_op op_add (pv 2) pe_int) (pe_callB call_lenK (by rfl) T.b_len (by decide +kernel) (pa_cons (pv 0) pa_nil)) (nomark _)))))
  (pss_one (ps_ret pe_bl))
  pss_nil))))
  (pss_one (ps_ret (pe_and (pe_cmpR op_gt (pe_callB call_lenK (by rfl) T.b_len (by decide +kernel) (pa_cons (pv 0) pa_nil)) pe_int (nomark _)) (pe_one (pe_cmpR op_eq (pv 1) pe_int (nomark _))))))))

theorem ok_begin_height (T : Tx P w K mg base) : Okf P w K mg base CX0 1 "begin_height" ["ahead", "number"] (sp_begin_height K) := by
  obtain ⟨fd, FD⟩ := T.d_begin_height
  refine ⟨⟨fd, FunD.look FD, FD.bindsN fun _ _ _ _ _ _ us hl => match us, hl with | [_, _], _ => rfl, ?_⟩, FD.kp, T.g_begin_height⟩
  refine FunD.ok (CX := CX0) FD sc_begin_height (len_begin_height K) (fun cdv A outer s H vs Q E hr h => ⟨t_begin_height K, PSs.nox ?_, rd_begin_height K vs H Q E h⟩)
  exact (pss_one (ps_ret (pe_op op_sub (pe_op op_mul pe_int (pe_ix ix_tup (pv 0) (pv 1) (fun _ _ => rfl))) (pe_op op_mul (pe_gint T.i_WIDE (by rfl)) (pv 1)))))

theorem ok_kept_brackets (T : Tx P w K mg base) (o_kept_row : Okf P w K mg base (L2.CX P w) 4 "kept_row" ["bits"] (sp_kept_row K)) (o_is_tree : Okf P w K mg base CX0 1 "is_tree" ["bits"] (sp_is_tree K)) (o_begin_height : Okf P w K mg base CX0 1 "begin_height" ["ahead", "number"] (sp_begin_height K)) (o_low_in : Okf P w K mg base CX0 1 "low_in" ["block", "upto"] (sp_low_in K)) (o_heap_of : Okf P w K mg base (L2.CX P w) 3 "heap_of" ["numbers"] (sp_heap_of K)) : Okf P w K mg base (L2.CX P w) 6 "kept_brackets" ["bits"] (sp_kept_brackets K) := by
  obtain ⟨fd, FD⟩ := T.d_kept_brackets
  refine ⟨⟨fd, FunD.look FD, FD.bindsN fun _ _ _ _ _ _ us hl => match us, hl with | [_], _ => rfl, ?_⟩, FD.kp, T.g_kept_brackets⟩
  refine FunD.ok (CX := (L2.CX P w)) FD sc_kept_brackets (len_kept_brackets K) (fun cdv A outer s H vs Q E hr h => ⟨t_kept_brackets K E, ?_, rd_kept_brackets K vs H Q E h⟩)
  exact (pss_cons (ps_asg (pe_callF o_kept_row hr (by decide) (by rfl) (passX (takes_of rfl rfl rfl rfl)) (pa_cons (pv 0) pa_nil)) (pg_tup rfl (pgs_cons (pg_name (i := 1) sc_kept_brackets.nd rfl (.inl rfl)) (pgs_cons (pg_name (i := 2) sc_kept_brackets.nd rfl (.inl rfl)) pgs_nil))))
  (pss_cons (ps_if (pt_not (pt_val (pe_callF o_is_tree hr (by decide) (by rfl) pass0 (pa_cons (pv 0) pa_nil))))
  (pss_one (ps_rz T.x_NoTree (takes_of rfl rfl rfl rfl)))
  pss_nil)
  (pss_cons (ps_asg (pv 1) (pg_tup rfl (pgs_cons (pg_name (i := 3) sc_kept_brackets.nd rfl (.inl rfl)) (pgs_cons (pg_name (i := 4) sc_kept_brackets.nd rfl (.inl rfl)) pgs_nil))))
  (pss_cons (ps_set (i := 5) sc_kept_brackets.nd rfl (.inl rfl) (pe_lst pa_nil))
  (pss_cons (ps_for (passes_of rfl) rfl (pi_enum (by rfl) T.b_enumerate (pa_cons (pv 2) pa_nil)) (pg_tup rfl (pgs_cons (pg_name (i := 6) sc_kept_brackets.nd rfl (.inl rfl)) (pgs_cons (pg_name (i := 7) sc_kept_brackets.nd rfl (.inl rfl)) pgs_nil)))
  (pss_one (ps_expr (pe_bm PySem.F.plainAttrs_list PySem.F.slot_list_append PySem.F.type_list_append mt_append (pv 5) (pa_cons (pe_op op_add (pe_callF o_begin_height hr (by decide) (by rfl) pass0 (pa_cons (pv 4) (pa_cons (pv 6) pa_nil))) (pe_callF o_low_in hr (by decide) (by rfl) pass0 (pa_cons (pv 7) (pa_cons (pe_callB (call_min2K rfl) (by rfl) T.b_min (by decide +kernel) (pa_cons (pe_gint T.i_WIDE (by rfl)) (pa_cons (pe_op op_sub (pv 3) (pe_op op_mul (pe_gint T.i_WIDE (by rfl)) (pv 6))) pa_nil))) pa_nil)))) pa_nil)))))
  (pss_one (ps_ret (pe_tup (pa_cons (pe_tup (pa_cons (pv 3) (pa_cons (pv 4) (pa_cons (pe_callTy call_tupK (by rfl) T.b_tuple (by decide +kernel) (pa_cons (pe_callF o_heap_of hr (by decide) (by rfl) (passX (takes_of rfl rfl rfl rfl)) (pa_cons (pv 5) pa_nil)) pa_nil)) pa_nil)))) (pa_cons (pv 2) pa_nil))))))))))

theorem ok_brackets_of (T : Tx P w K mg base) : Okf P w K mg base (L2.CX P w) 2 "brackets_of" ["depths"] (sp_brackets_of K) := by
  obtain ⟨fd, FD⟩ := T.d_brackets_of
  refine ⟨⟨fd, FunD.look FD, FD.bindsN fun _ _ _ _ _ _ us hl => match us, hl with | [_], _ => rfl, ?_⟩, FD.kp, T.g_brackets_of⟩
  refine FunD.ok (CX := (L2.CX P w)) FD sc_brackets_of (len_brackets_of K) (fun cdv A outer s H vs Q E hr h => ⟨t_brackets_of K E, ?_, rd_brackets_of K vs H Q E h⟩)
  exact (pss_cons (ps_if (pt_cmpR op_gt (pe_op op_mul pe_int (pe_callB call_lenK (by rfl) T.b_len (by decide +kernel) (pa_cons (pv 0) pa_nil))) (pe_gint T.i_MOST (by rfl)) (nomark _))
  (pss_one (ps_rz T.x_TooMany (takes_of rfl rfl rfl rfl)))
  pss_nil)
  (pss_cons (ps_if (PW.pt (pw_or (pt_cmpR op_eq (pe_callB call_lenK (by rfl) T.b_len (by decide +kernel) (pa_cons (pv 0) pa_nil)) pe_int (nomark _)) (pw_or1 (pt_cmpR op_ne (pe_ix ix_list (pv 0) pe_int (fun _ _ => rfl)) pe_int (nomark _)))))
  (pss_one (ps_rz T.x_NoTree (takes_of rfl rfl rfl rfl)))
  pss_nil)
  (pss_cons (ps_set (i := 1) sc_brackets_of.nd rfl (.inl rfl) (pe_lst (pa_cons pe_int pa_nil)))
  (pss_cons (ps_for (passes_of rfl) rfl (pi_zip (by rfl) T.b_zip (pa_cons (pv 0) (pa_cons (pe_slice sl_list (pv 0) (po_some pe_int) po_none) pa_nil))) (pg_tup rfl (pgs_cons (pg_name (i := 2) sc_brackets_of.nd rfl (.inl rfl)) (pgs_cons (pg_name (i := 3) sc_brackets_of.nd rfl (.inl rfl)) pgs_nil)))
  (pss_cons (ps_if (PW.pt (pw_or (pt_cmpR op_lt (pv 3) pe_int (nomark _)) (pw_or1 (pt_cmpR op_gt (pv 3) (pe_op op_add (pv 2) pe_int) (nomark _)))))
  (pss_one (ps_rz T.x_NoTree (takes_of rfl rfl rfl rfl)))
  pss_nil)
  (pss_cons (ps_expr (pe_bm PySem.F.plainAttrs_list PySem.F.slot_list_extend PySem.F.type_list_extend mt_extend (pv 1) (pa_cons (pe_op op_rep (pe_lst (pa_cons pe_int pa_nil)) (pe_op op_sub (pe_op op_add (pv 2) pe_int) (pv 3))) pa_nil)))
  (pss_one (ps_expr (pe_bm PySem.F.plainAttrs_list PySem.F.slot_list_append PySem.F.type_list_append mt_append (pv 1) (pa_cons pe_int pa_nil)))))))
  (pss_cons (ps_expr (pe_bm PySem.F.plainAttrs_list PySem.F.slot_list_extend PySem.F.type_list_extend mt_extend (pv 1) (pa_cons (pe_op op_rep (pe_lst (pa_cons pe_int pa_nil)) (pe_op op_add (pe_ix ix_list (pv 0) (pe_un un_neg pe_int) (fun _ _ => rfl)) pe_int)) pa_nil)))
  (pss_one (ps_ret (pv 1))))))))

theorem ok_kept_tree (T : Tx P w K mg base) (o_kept_brackets : Okf P w K mg base (L2.CX P w) 6 "kept_brackets" ["bits"] (sp_kept_brackets K)) (o_brackets_of : Okf P w K mg base (L2.CX P w) 2 "brackets_of" ["depths"] (sp_brackets_of K)) : Okf P w K mg base (L2.CX P w) 8 "kept_tree" ["depths"] (sp_kept_tree K) := by
  obtain ⟨fd, FD⟩ := T.d_kept_tree
  refine ⟨⟨fd, FunD.look FD, FD.bindsN fun _ _ _ _ _ _ us hl => match us, hl with | [_], _ => rfl, ?_⟩, FD.kp, T.g_kept_tree⟩
  refine FunD.ok (CX := (L2.CX P w)) FD sc_kept_tree (len_kept_tree K) (fun cdv A outer s H vs Q E hr h => ⟨t_kept_tree K E, ?_, rd_kept_tree K vs H Q E h⟩)
  exact (pss_one (ps_ret (pe_callF o_kept_brackets hr (by decide) (by rfl) (passX (takes_of rfl rfl rfl rfl)) (pa_cons (pe_callF o_brackets_of hr (by decide) (by rfl) (passX (takes_of rfl rfl rfl rfl)) (pa_cons (pv 0) pa_nil)) pa_nil))))

theorem ok_law_cell_at (T : Tx P w K mg base) : Okf P w K mg base CX0 1 "_law_cell_at" ["_law_script", "_law_k"] (sp_law_cell_at K) := by
  obtain ⟨fd, FD⟩ := T.d_law_cell_at
  refine ⟨⟨fd, FunD.look FD, FD.bindsN fun _ _ _ _ _ _ us hl => match us, hl with | [_, _], _ => rfl, ?_⟩, FD.kp, T.g_law_cell_at⟩
  refine FunD.ok (CX := CX0) FD sc_law_cell_at (len_law_cell_at K) (fun cdv A outer s H vs Q E hr h => ⟨t_law_cell_at K, PSs.nox ?_, rd_law_cell_at K vs H Q E h⟩)
  exact (pss_cons (ps_if (pt_cmpR op_lt (pv 1) (pe_callB call_lenK (by rfl) T.b_len (by decide +kernel) (pa_cons (pv 0) pa_nil)) (nomark _))
  (pss_one (ps_ret (pe_ix ix_list (pv 0) (pv 1) (fun _ _ => rfl))))
  pss_nil)
  (pss_one (ps_ret pe_int)))

theorem ok_law_whole (T : Tx P w K mg base) : Okf P w K mg base CX0 1 "_law_whole" ["_law_found"] (sp_law_whole K) := by
  obtain ⟨fd, FD⟩ := T.d_law_whole
  refine ⟨⟨fd, FunD.look FD, FD.bindsN fun _ _ _ _ _ _ us hl => match us, hl with | [_], _ => rfl, ?_⟩, FD.kp, T.g_law_whole⟩
  refine FunD.ok (CX := CX0) FD sc_law_whole (len_law_whole K) (fun cdv A outer s H vs Q E hr h => ⟨t_law_whole K, PSs.nox ?_, rd_law_whole K vs H Q E h⟩)
  exact (pss_one (ps_ret (pe_and (pe_callB call_isB (by rfl) T.b_isinstance (by decide +kernel) (pa_cons (pv 0) (pa_cons (pe_bltn (v := .ty "int") (by rfl) T.b_int (by decide +kernel) rfl) pa_nil))) (pe_one (pe_not (pe_callB call_isB (by rfl) T.b_isinstance (by decide +kernel) (pa_cons (pv 0) (pa_cons (pe_bltn (v := .ty "bool") (by rfl) T.b_bool (by decide +kernel) rfl) pa_nil))))))))

theorem ok_law_depths (T : Tx P w K mg base) : Okf P w K mg base CX0 1 "_law_depths" ["_law_script"] (sp_law_depths K) := by
  obtain ⟨fd, FD⟩ := T.d_law_depths
  refine ⟨⟨fd, FunD.look FD, FD.bindsN fun _ _ _ _ _ _ us hl => match us, hl with | [_], _ => rfl, ?_⟩, FD.kp, T.g_law_depths⟩
  refine FunD.ok (CX := CX0) FD sc_law_depths (len_law_depths K) (fun cdv A outer s H vs Q E hr h => ⟨t_law_depths K, PSs.nox ?_, rd_law_depths K vs H Q E h⟩)
  exact (pss_cons (ps_set (i := 1) sc_law_depths.nd rfl (.inl rfl) (pe_lst (pa_cons pe_int pa_nil)))
  (pss_cons (ps_for PassesOwn.never rfl (pi_list (pe_slice sl_list (pv 0) po_none (po_some pe_int))) (pg_name (i := 2) sc_law_depths.nd rfl (.inl rfl))
  (pss_cons (ps_set (i := 3) sc_law_depths.nd rfl (.inl rfl) (pe_op op_mod (pe_op op_mul (pv 2) pe_int) pe_int))
  (pss_cons (ps_set (i := 4) sc_law_depths.nd rfl (.inl rfl) (pe_op op_add pe_int (pe_op op_mod (pe_op op_fdiv (pv 3) pe_int) pe_int)))
  (Evl.pss_cut (ps_if (pt_cmpR op_eq (pe_op op_mod (pe_op op_fdiv (pv 3) pe_int) pe_int) pe_int (nomark _))
  (pss_one (ps_set (i := 4) sc_law_depths.nd rfl (.inl rfl) (pe_op op_add pe_int (pe_op op_mod (pe_op op_fdiv (pv 3) pe_int) pe_int))))
  pss_nil)
  (pss_cons (ps_set (i := 5) sc_law_depths.nd rfl (.inl rfl) (pe_op op_mod (pe_op op_fdiv (pv 3) pe_int) (pe_op op_add (pe_ix ix_list (pv 1) (pe_un un_neg pe_int) (fun _ _ => rfl)) pe_int)))
  (pss_one (ps_for PassesOwn.never rfl (pi_range1 (by rfl) T.b_range (pa_cons (pe_callB (call_min2K rfl) (by rfl) T.b_min (by decide +kernel) (pa_cons (pv 4) (pa_cons (pe_op op_sub pe_int (pe_callB call_lenK (by rfl) T.b_len (by decide +kernel) (pa_cons (pv 1) pa_nil))) pa_nil))) pa_nil)) (pg_name (i := 6) sc_law_depths.nd rfl (.inl rfl))
  (pss_cons (ps_set (i := 7) sc_law_depths.nd rfl (.inl rfl) (pe_op op_add (pv 5) pe_int))
  (Evl.pss_cut (ps_if (pt_cmpR op_eq (pe_op op_mod (pv 3) pe_int) pe_int (nomark _))
  (pss_one (ps_set (i := 7) sc_law_depths.nd rfl (.inl rfl) (pe_op op_add (pe_op op_add (pv 5) pe_int) (pv 6))))
  pss_nil)
  (Evl.pss_cut (ps_if (pt_cmpR op_eq (pe_op op_mod (pv 3) pe_int) pe_int (nomark _))
  (pss_one (ps_set (i := 7) sc_law_depths.nd rfl (.inl rfl) (pe_op op_add (pe_op op_add (pv 5) pe_int) (pe_op op_mod (pv 6) pe_int))))
  pss_nil)
  (Evl.pss_cut (ps_if (pt_cmpR op_eq (pe_op op_mod (pv 3) pe_int) pe_int (nomark _))
  (pss_one (ps_set (i := 7) sc_law_depths.nd rfl (.inl rfl) (pe_op op_add pe_int (pe_op op_mod (pe_op op_mod (pe_op op_mul (pe_op op_mul (pv 3) (pe_op op_add (pe_op op_mul pe_int (pv 6)) pe_int)) pe_int) pe_int) (pe_op op_add (pe_ix ix_list (pv 1) (pe_un un_neg pe_int) (fun _ _ => rfl)) pe_int)))))
  pss_nil)
  (pss_one (ps_expr (pe_bm PySem.F.plainAttrs_list PySem.F.slot_list_append PySem.F.type_list_append mt_append (pv 1) (pa_cons (pv 7) pa_nil)))))))))))))))
  (pss_one (ps_ret (pv 1)))))

theorem ok_law_walked (T : Tx P w K mg base) : Okf P w K mg base CX0 1 "_law_walked" ["_law_blocks", "_law_depths_here"] (sp_law_walked K) := by
  obtain ⟨fd, FD⟩ := T.d_law_walked
  refine ⟨⟨fd, FunD.look FD, FD.bindsN fun _ _ _ _ _ _ us hl => match us, hl with | [_, _], _ => rfl, ?_⟩, FD.kp, T.g_law_walked⟩
  refine FunD.ok (CX := CX0) FD sc_law_walked (len_law_walked K) (fun cdv A outer s H vs Q E hr h => ⟨t_law_walked K, PSs.nox ?_, rd_law_walked K vs H Q E h⟩)
  exact (pss_cons (ps_set (i := 2) sc_law_walked.nd rfl (.inl rfl) (pe_lst (pa_cons pe_int pa_nil)))
  (pss_cons (ps_set (i := 3) sc_law_walked.nd rfl (.inl rfl) (pe_lst pa_nil))
  (pss_cons (ps_set (i := 4) sc_law_walked.nd rfl (.inl rfl) pe_int)
  (pss_cons (ps_set (i := 5) sc_law_walked.nd rfl (.inl rfl) pe_int)
  (pss_cons (ps_for PassesOwn.never rfl (pi_range1 (by rfl) T.b_range (pa_cons (pe_callB call_lenK (by rfl) T.b_len (by decide +kernel) (pa_cons (pv 0) pa_nil)) pa_nil)) (pg_name (i := 6) sc_law_walked.nd rfl (.inl rfl))
  (pss_cons (ps_set (i := 7) sc_law_walked.nd rfl (.inl rfl) (pe_ix ix_list (pv 0) (pv 6) (fun _ _ => rfl)))
  (pss_cons (ps_set (i := 8) sc_law_walked.nd rfl (.inl rfl) (pe_callB call_lenK (by rfl) T.b_len (by decide +kernel) (pa_cons (pv 1) pa_nil)))
  (pss_cons (ps_for PassesOwn.never rfl (pi_range2 (by rfl) T.b_range (pa_cons (pe_op op_mul pe_int (pv 6)) (pa_cons (pe_callB (call_min2K rfl) (by rfl) T.b_min (by decide +kernel) (pa_cons (pe_op op_add (pe_op op_mul pe_int (pv 6)) pe_int) (pa_cons (pe_op op_mul pe_int (pe_callB call_lenK (by rfl) T.b_len (by decide +kernel) (pa_cons (pv 1) pa_nil))) pa_nil))) pa_nil))) (pg_name (i := 9) sc_law_walked.nd rfl (.inl rfl))
  (Evl.pss_cut (ps_if (pt_cmpR op_eq (pe_op op_mod (pv 7) pe_int) pe_int (nomark _))
  (pss_cons (ps_if (PW.pt (pw_or (pt_cmpR op_eq (pv 5) (pe_callB call_lenK (by rfl) T.b_len (by decide +kernel) (pa_cons (pv 1) pa_nil)) (nomark _)) (pw_or1 (pt_cmpR op_ne (pe_ix ix_list (pv 1) (pv 5) (fun _ _ => rfl)) (pv 4) (nomark _)))))
  (pss_one (ps_ret (pe_tup (pa_cons (pe_lst pa_nil) (pa_cons (pe_lst pa_nil) pa_nil)))))
  pss_nil)
  (pss_one (ps_set (i := 5) sc_law_walked.nd rfl (.inl rfl) (pe_op op_add (pv 5) pe_int))))
  pss_nil)
  (pss_cons (ps_set (i := 4) sc_law_walked.nd rfl (.inl rfl) (pe_op op_sub (pe_op op_add (pv 4) (pe_op op_mul pe_int (pe_op op_mod (pv 7) pe_int))) pe_int))
  (pss_cons (ps_set (i := 8) sc_law_walked.nd rfl (.inl rfl) (pe_callB (call_min2K rfl) (by rfl) T.b_min (by decide +kernel) (pa_cons (pv 8) (pa_cons (pv 4) pa_nil))))
  (pss_one (ps_set (i := 7) sc_law_walked.nd rfl (.inl rfl) (pe_op op_fdiv (pv 7) pe_int)))))))
  (pss_cons (ps_if (pt_cmpR op_ne (pv 7) pe_int (nomark _))
  (pss_one (ps_ret (pe_tup (pa_cons (pe_lst pa_nil) (pa_cons (pe_lst pa_nil) pa_nil)))))
  pss_nil)
  (pss_cons (ps_expr (pe_bm PySem.F.plainAttrs_list PySem.F.slot_list_append PySem.F.type_list_append mt_append (pv 2) (pa_cons (pv 5) pa_nil)))
  (pss_one (ps_expr (pe_bm PySem.F.plainAttrs_list PySem.F.slot_list_append PySem.F.type_list_append mt_append (pv 3) (pa_cons (pv 8) pa_nil))))))))))
  (pss_one (ps_ret (pe_tup (pa_cons (pv 2) (pa_cons (pv 3) pa_nil))))))))))

theorem ok_law_heap (T : Tx P w K mg base) (o_law_whole : Okf P w K mg base CX0 1 "_law_whole" ["_law_found"] (sp_law_whole K)) : Okf P w K mg base CX0 2 "_law_heap" ["_law_nodes", "_law_lows"] (sp_law_heap K) := by
  obtain ⟨fd, FD⟩ := T.d_law_heap
  refine ⟨⟨fd, FunD.look FD, FD.bindsN fun _ _ _ _ _ _ us hl => match us, hl with | [_, _], _ => rfl, ?_⟩, FD.kp, T.g_law_heap⟩
  refine FunD.ok (CX := CX0) FD sc_law_heap (len_law_heap K) (fun cdv A outer s H vs Q E hr h => ⟨t_law_heap K, PSs.nox ?_, rd_law_heap K vs H Q E h⟩)
  exact (pss_cons (ps_set (i := 2) sc_law_heap.nd rfl (.inl rfl) pe_int)
  (pss_cons (ps_while PassesOwn.never (pt_cmpR op_lt (pv 2) (pe_callB call_lenK (by rfl) T.b_len (by decide +kernel) (pa_cons (pv 1) pa_nil)) (nomark _))
  (pss_one (ps_set (i := 2) sc_law_heap.nd rfl (.inl rfl) (pe_op op_mul pe_int (pv 2)))))
  (pss_cons (ps_if (PW.pt (pw_or (pt_not (pt_val (pe_callB call_isB (by rfl) T.b_isinstance (by decide +kernel) (pa_cons (pv 0) (pa_cons (pe_bltn (v := .ty "tuple") (by rfl) T.b_tuple (by decide +kernel) rfl) pa_nil))))) (pw_or (pt_cmpR op_ne (pe_callB call_lenK (by rfl) T.b_len (by decide +kernel) (pa_cons (pv 0) pa_nil)) (pe_op op_mul pe_int (pv 2)) (nomark _)) (pw_or1 (pt_cmpR op_notN1 (pe_ix ix_tup (pv 0) pe_int (fun _ _ => rfl)) pe_non (nomark _))))))
  (pss_one (ps_ret pe_bl))
  pss_nil)
  (pss_cons (ps_for PassesOwn.never rfl (pi_range1 (by rfl) T.b_range (pa_cons (pv 2) pa_nil)) (pg_name (i := 3) sc_law_heap.nd rfl (.inl rfl))
  (pss_cons (ps_set (i := 4) sc_law_heap.nd rfl (.inl rfl) (pe_ix ix_tup (pv 0) (pe_op op_add (pv 2) (pv 3)) (fun _ _ => rfl)))
  (pss_cons (ps_if (PW.pt (pw_and (pt_cmpR op_lt (pv 3) (pe_callB call_lenK (by rfl) T.b_len (by decide +kernel) (pa_cons (pv 1) pa_nil)) (nomark _)) (pw_and1 (PW.pt (pw_or (pt_not (pt_val (pe_callF o_law_whole hr (by decide) (by rfl) pass0 (pa_cons (pv 4) pa_nil)))) (pw_or1 (pt_cmpR op_ne (pv 4) (pe_ix ix_list (pv 1) (pv 3) (fun _ _ => rfl)) (nomark _))))))))
  (pss_one (ps_ret pe_bl))
  pss_nil)
  (pss_one (ps_if (PW.pt (pw_and (pt_cmpR op_ge (pv 3) (pe_callB call_lenK (by rfl) T.b_len (by decide +kernel) (pa_cons (pv 1) pa_nil)) (nomark _)) (pw_and1 (pt_cmpR op_notN1 (pv 4) pe_non (nomark _)))))
  (pss_one (ps_ret pe_bl))
  pss_nil)))))
  (pss_cons (ps_for PassesOwn.never rfl (pi_range2 (by rfl) T.b_range (pa_cons pe_int (pa_cons (pv 2) pa_nil))) (pg_name (i := 3) sc_law_heap.nd rfl (.inl rfl))
  (pss_cons (ps_setLc (i := 5) (own := [("_law_told", 4)]) (g := (gName 4)) (tt := (tTest (tOp rNotN (tVar 4) (tC .non)))) rfl sc_law_heap.nd rfl rfl (sw_true rfl rfl rfl (by decide +kernel)) (pi_tup (pe_slice sl_tup (pv 0) (po_some (pe_op op_mul pe_int (pv 3))) (po_some (pe_op op_add (pe_op op_mul pe_int (pv 3)) pe_int)))) (blkOk_by (N := ["_law_nodes", "_law_lows", "_law_size", "_law_i", "_law_told", "_law_some"]) (sc := defScope s_law_heap) (own := [("_law_told", 4)]) (by decide +kernel)) (fun _ _ _ _ _ => (pg_name (i := 4) sc_law_heap.nd rfl (.inl rfl))) (fun _ _ _ _ _ => (pts_one (pt_cmpR op_notN1 (pv 4) pe_non (nomark _)))) (fun _ _ _ _ _ => (pv 4)))
  (pss_cons (ps_if (PW.pt (pw_and (pt_cmpR (op_eqD hr.units) (pv 5) (pe_lst pa_nil) (nomark _)) (pw_and1 (pt_cmpR op_notN1 (pe_ix ix_tup (pv 0) (pv 3) (fun _ _ => rfl)) pe_non (nomark _)))))
  (pss_one (ps_ret pe_bl))
  pss_nil)
  (pss_one (ps_if (PW.pt (pw_and (pt_cmpR (op_neD hr.units) (pv 5) (pe_lst pa_nil) (nomark _)) (pw_and1 (PW.pt (pw_or (pt_not (pt_val (pe_callF o_law_whole hr (by decide) (by rfl) pass0 (pa_cons (pe_ix ix_tup (pv 0) (pv 3) (fun _ _ => rfl)) pa_nil)))) (pw_or1 (pt_cmpR op_ne (pe_ix ix_tup (pv 0) (pv 3) (fun _ _ => rfl)) (pe_callB (cr_min rfl) (by rfl) T.b_min (by decide +kernel) (pa_cons (pv 5) pa_nil)) (nomark _))))))))
  (pss_one (ps_ret pe_bl))
  pss_nil)))))
  (pss_one (ps_ret pe_bl)))))))

theorem ok_law_good (T : Tx P w K mg base) (o_law_whole : Okf P w K mg base CX0 1 "_law_whole" ["_law_found"] (sp_law_whole K)) (o_law_walked : Okf P w K mg base CX0 1 "_law_walked" ["_law_blocks", "_law_depths_here"] (sp_law_walked K)) (o_law_heap : Okf P w K mg base CX0 2 "_law_heap" ["_law_nodes", "_law_lows"] (sp_law_heap K)) : Okf P w K mg base CX0 3 "_law_good" ["_law_found", "_law_depths_here"] (sp_law_good K) := by
  obtain ⟨fd, FD⟩ := T.d_law_good
  refine ⟨⟨fd, FunD.look FD, FD.bindsN fun _ _ _ _ _ _ us hl => match us, hl with | [_, _], _ => rfl, ?_⟩, FD.kp, T.g_law_good⟩
  refine FunD.ok (CX := CX0) FD sc_law_good (len_law_good K) (fun cdv A outer s H vs Q E hr h => ⟨t_law_good K, PSs.nox ?_, rd_law_good K vs H Q E h⟩)
  exact (pss_cons (ps_if (PW.pt (pw_or (pt_not (pt_val (pe_callB call_isB (by rfl) T.b_isinstance (by decide +kernel) (pa_cons (pv 0) (pa_cons (pe_bltn (v := .ty "tuple") (by rfl) T.b_tuple (by decide +kernel) rfl) pa_nil))))) (pw_or (pt_cmpR op_ne (pe_callB call_lenK (by rfl) T.b_len (by decide +kernel) (pa_cons (pv 0) pa_nil)) pe_int (nomark _)) (pw_or1 (pt_not (pt_val (pe_callB call_isB (by rfl) T.b_isinstance (by decide +kernel) (pa_cons (pe_ix ix_tup (pv 0) pe_int (fun _ _ => rfl)) (pa_cons (pe_bltn (v := .ty "list") (by rfl) T.b_list (by decide +kernel) rfl) pa_nil)))))))))
  (pss_one (ps_ret pe_bl))
  pss_nil)
  (pss_cons (ps_asg (pv 0) (pg_tup rfl (pgs_cons (pg_name (i := 2) sc_law_good.nd rfl (.inl rfl)) (pgs_cons (pg_name (i := 3) sc_law_good.nd rfl (.inl rfl)) pgs_nil))))
  (pss_cons (ps_if (PW.pt (pw_or (pt_cmpR op_ne (pe_callB call_lenK (by rfl) T.b_len (by decide +kernel) (pa_cons (pv 3) pa_nil)) (pe_op op_fdiv (pe_op op_add (pe_op op_mul pe_int (pe_callB call_lenK (by rfl) T.b_len (by decide +kernel) (pa_cons (pv 1) pa_nil))) pe_int) pe_int) (nomark _)) (pw_or (pt_not (pt_val (pe_callB call_isB (by rfl) T.b_isinstance (by decide +kernel) (pa_cons (pv 2) (pa_cons (pe_bltn (v := .ty "tuple") (by rfl) T.b_tuple (by decide +kernel) rfl) pa_nil))))) (pw_or1 (pt_cmpR op_ne (pe_callB call_lenK (by rfl) T.b_len (by decide +kernel) (pa_cons (pv 2) pa_nil)) pe_int (nomark _))))))
  (pss_one (ps_ret pe_bl))
  pss_nil)
  (pss_cons (ps_if (pt_cmpR op_gt (pe_callB call_lenK (by rfl) T.b_len (by decide +kernel) (pa_cons (pe_lc (own := [("_law_block", 4)]) (g := (gName 4)) (tt := (tOr (tNot (tB (tCall (sp_law_whole K) [] E0 (tCons (tVar 4) tNil)))) (tTest (tOp rLt (tVar 4) (tC (.int 0)))))) rfl sc_law_good.nd (pi_list (pv 3)) (blkOk_by (N := ["_law_found", "_law_depths_here", "_law_tables", "_law_blocks", "_law_block", "_law_ones", "_law_lows", "_law_count"]) (sc := defScope s_law_good) (own := [("_law_block", 4)]) (by decide +kernel)) (fun _ _ _ _ _ => (pg_name (i := 4) sc_law_good.nd rfl (.inl rfl))) (fun _ _ _ _ _ => (pts_one (PW.pt (pw_or (pt_not (pt_val (pe_callF o_law_whole hr (by decide) (by rfl) pass0 (pa_cons (pv 4) pa_nil)))) (pw_or1 (pt_cmpR op_lt (pv 4) pe_int (nomark _))))))) (fun _ _ _ _ _ => (pv 4))) pa_nil)) pe_int (nomark _))
  (pss_one (ps_ret pe_bl))
  pss_nil)
  (pss_cons (ps_asg (pe_callF o_law_walked hr (by decide) (by rfl) pass0 (pa_cons (pv 3) (pa_cons (pv 1) pa_nil))) (pg_tup rfl (pgs_cons (pg_name (i := 5) sc_law_good.nd rfl (.inl rfl)) (pgs_cons (pg_name (i := 6) sc_law_good.nd rfl (.inl rfl)) pgs_nil))))
  (pss_cons (ps_if (PW.pt (pw_or (pt_cmpR (op_eqD hr.units) (pv 5) (pe_lst pa_nil) (nomark _)) (pw_or (pt_cmpR op_ne (pe_ix ix_list (pv 5) (pe_un un_neg pe_int) (fun _ _ => rfl)) (pe_callB call_lenK (by rfl) T.b_len (by decide +kernel) (pa_cons (pv 1) pa_nil)) (nomark _)) (pw_or1 (pt_not (pt_val (pe_callB call_isB (by rfl) T.b_isinstance (by decide +kernel) (pa_cons (pe_ix ix_tup (pv 2) pe_int (fun _ _ => rfl)) (pa_cons (pe_bltn (v := .ty "tuple") (by rfl) T.b_tuple (by decide +kernel) rfl) pa_nil)))))))))
  (pss_one (ps_ret pe_bl))
  pss_nil)
  (pss_cons (ps_if (PW.pt (pw_or (pt_cmpR op_gt (pe_callB call_lenK (by rfl) T.b_len (by decide +kernel) (pa_cons (pe_lc (own := [("_law_count", 7)]) (g := (gName 7)) (tt := (tNot (tB (tCall (sp_law_whole K) [] E0 (tCons (tVar 7) tNil))))) rfl sc_law_good.nd (pi_tup (pe_ix ix_tup (pv 2) pe_int (fun _ _ => rfl))) (blkOk_by (N := ["_law_found", "_law_depths_here", "_law_tables", "_law_blocks", "_law_block", "_law_ones", "_law_lows", "_law_count"]) (sc := defScope s_law_good) (own := [("_law_count", 7)]) (by decide +kernel)) (fun _ _ _ _ _ => (pg_name (i := 7) sc_law_good.nd rfl (.inl rfl))) (fun _ _ _ _ _ => (pts_one (pt_not (pt_val (pe_callF o_law_whole hr (by decide) (by rfl) pass0 (pa_cons (pv 7) pa_nil)))))) (fun _ _ _ _ _ => (pv 7))) pa_nil)) pe_int (nomark _)) (pw_or1 (pt_cmpR (op_neD hr.units) (pe_callTy call_listK (by rfl) T.b_list (by decide +kernel) (pa_cons (pe_ix ix_tup (pv 2) pe_int (fun _ _ => rfl)) pa_nil)) (pv 5) (nomark _)))))
  (pss_one (ps_ret pe_bl))
  pss_nil)
  (pss_one (ps_ret (pe_and (pe_callF o_law_whole hr (by decide) (by rfl) pass0 (pa_cons (pe_ix ix_tup (pv 2) pe_int (fun _ _ => rfl)) pa_nil)) (pe_and (pe_cmpR op_eq (pe_ix ix_tup (pv 2) pe_int (fun _ _ => rfl)) (pe_op op_mul pe_int (pe_callB call_lenK (by rfl) T.b_len (by decide +kernel) (pa_cons (pv 1) pa_nil))) (nomark _)) (pe_one (pe_callF o_law_heap hr (by decide) (by rfl) pass0 (pa_cons (pe_ix ix_tup (pv 2) pe_int (fun _ _ => rfl)) (pa_cons (pv 6) pa_nil)))))))))))))))

theorem ok_law_no_tree (T : Tx P w K mg base) (o_kept_tree : Okf P w K mg base (L2.CX P w) 8 "kept_tree" ["depths"] (sp_kept_tree K)) : Okf P w K mg base CX0 9 "_law_no_tree" ["_law_depths_here"] (sp_law_no_tree K) := by
  obtain ⟨fd, FD⟩ := T.d_law_no_tree
  refine ⟨⟨fd, FunD.look FD, FD.bindsN fun _ _ _ _ _ _ us hl => match us, hl with | [_], _ => rfl, ?_⟩, FD.kp, T.g_law_no_tree⟩
  refine FunD.ok (CX := CX0) FD sc_law_no_tree (len_law_no_tree K) (fun cdv A outer s H vs Q E hr h => ⟨t_law_no_tree K, PSs.nox ?_, rd_law_no_tree K T.fx vs H Q E h⟩)
  exact (pss_cons (ps_set (i := 1) sc_law_no_tree.nd rfl (.inl rfl) (pe_lst pa_nil))
  (pss_cons (ps_try_as (i := 2) (tb := fun W => (tDrop (tCallS (sp_kept_tree K) (WE W) (tCons (tVar 0) tNil)))) (ts := fun a cls d => (tAsg (tLst (tCons (tCB (rIsX K cls d a) (tCons (tVar 2) (tCons (tC (.ref (He.ga K "WoodError"))) tNil))) (tCons (tCB (rIsX K cls d a) (tCons (tVar 2) (tCons (tC (.ty "ValueError")) tNil))) (tCons (tCB (rIsX K cls d a) (tCons (tVar 2) (tCons (tC (.ref (He.ga K "TooMany"))) tNil))) tNil)))) (gName 1))) (Wout := (fun _ _ _ _ => False)) rfl rfl sc_law_no_tree.nd rfl rfl ⟨rfl, by decide, .inl T.g_NoTree⟩ takes0 (fun W pn xe tk po => (pss_one (ps_expr (pe_callFS o_kept_tree hr (by decide) (by rfl) tk (pa_cons (pv 0) pa_nil))))) (fun a oe cls d pn hz hf => (pss_one (ps_set (i := 1) sc_law_no_tree.nd rfl (.inl rfl) (pe_lst (pa_cons (pe_callB (call_isX hz hf) (by rfl) T.b_isinstance (by decide +kernel) (pa_cons (pv 2) (pa_cons (pe_glob (by rfl) T.g_WoodError rfl) pa_nil))) (pa_cons (pe_callB (call_isX hz hf) (by rfl) T.b_isinstance (by decide +kernel) (pa_cons (pv 2) (pa_cons (pe_bltn (v := .ty "ValueError") (by rfl) T.b_ValueError (by decide +kernel) rfl) pa_nil))) (pa_cons (pe_callB (call_isX hz hf) (by rfl) T.b_isinstance (by decide +kernel) (pa_cons (pv 2) (pa_cons (pe_glob (by rfl) T.g_TooMany rfl) pa_nil))) pa_nil))))))))
  (pss_one (ps_ret (pe_cmpR (op_eqD hr.units) (pv 1) (pe_lst (pa_cons pe_bl (pa_cons pe_bl (pa_cons pe_bl pa_nil)))) (nomark _))))))

theorem ok_law_too_many (T : Tx P w K mg base) (o_kept_tree : Okf P w K mg base (L2.CX P w) 8 "kept_tree" ["depths"] (sp_kept_tree K)) : Okf P w K mg base CX0 9 "_law_too_many" ["_law_depths_here"] (sp_law_too_many K) := by
  obtain ⟨fd, FD⟩ := T.d_law_too_many
  refine ⟨⟨fd, FunD.look FD, FD.bindsN fun _ _ _ _ _ _ us hl => match us, hl with | [_], _ => rfl, ?_⟩, FD.kp, T.g_law_too_many⟩
  refine FunD.ok (CX := CX0) FD sc_law_too_many (len_law_too_many K) (fun cdv A outer s H vs Q E hr h => ⟨t_law_too_many K, PSs.nox ?_, rd_law_too_many K T.fx vs H Q E h⟩)
  exact (pss_cons (ps_set (i := 1) sc_law_too_many.nd rfl (.inl rfl) (pe_lst pa_nil))
  (pss_cons (ps_try_as (i := 2) (tb := fun W => (tDrop (tCallS (sp_kept_tree K) (WE W) (tCons (tVar 0) tNil)))) (ts := fun a cls d => (tAsg (tLst (tCons (tCB (rIsX K cls d a) (tCons (tVar 2) (tCons (tC (.ref (He.ga K "WoodError"))) tNil))) (tCons (tCB (rIsX K cls d a) (tCons (tVar 2) (tCons (tC (.ty "ValueError")) tNil))) (tCons (tCB (rIsX K cls d a) (tCons (tVar 2) (tCons (tC (.ref (He.ga K "NoTree"))) tNil))) tNil)))) (gName 1))) (Wout := (fun _ _ _ _ => False)) rfl rfl sc_law_too_many.nd rfl rfl ⟨rfl, by decide, .inl T.g_TooMany⟩ takes0 (fun W pn xe tk po => (pss_one (ps_expr (pe_callFS o_kept_tree hr (by decide) (by rfl) tk (pa_cons (pv 0) pa_nil))))) (fun a oe cls d pn hz hf => (pss_one (ps_set (i := 1) sc_law_too_many.nd rfl (.inl rfl) (pe_lst (pa_cons (pe_callB (call_isX hz hf) (by rfl) T.b_isinstance (by decide +kernel) (pa_cons (pv 2) (pa_cons (pe_glob (by rfl) T.g_WoodError rfl) pa_nil))) (pa_cons (pe_callB (call_isX hz hf) (by rfl) T.b_isinstance (by decide +kernel) (pa_cons (pv 2) (pa_cons (pe_bltn (v := .ty "ValueError") (by rfl) T.b_ValueError (by decide +kernel) rfl) pa_nil))) (pa_cons (pe_callB (call_isX hz hf) (by rfl) T.b_isinstance (by decide +kernel) (pa_cons (pv 2) (pa_cons (pe_glob (by rfl) T.g_NoTree rfl) pa_nil))) pa_nil))))))))
  (pss_one (ps_ret (pe_cmpR (op_eqD hr.units) (pv 1) (pe_lst (pa_cons pe_bl (pa_cons pe_bl (pa_cons pe_bl pa_nil)))) (nomark _))))))

theorem ok_law (T : Tx P w K mg base) (o_law_depths : Okf P w K mg base CX0 1 "_law_depths" ["_law_script"] (sp_law_depths K)) (o_law_cell_at : Okf P w K mg base CX0 1 "_law_cell_at" ["_law_script", "_law_k"] (sp_law_cell_at K)) (o_law_no_tree : Okf P w K mg base CX0 9 "_law_no_tree" ["_law_depths_here"] (sp_law_no_tree K)) (o_law_too_many : Okf P w K mg base CX0 9 "_law_too_many" ["_law_depths_here"] (sp_law_too_many K)) (o_kept_tree : Okf P w K mg base (L2.CX P w) 8 "kept_tree" ["depths"] (sp_kept_tree K)) (o_law_good : Okf P w K mg base CX0 3 "_law_good" ["_law_found", "_law_depths_here"] (sp_law_good K)) : Okf P w K mg base CX0 10 "law" ["_law_script"] (sp_law K) := by
  obtain ⟨fd, FD⟩ := T.d_law
  refine ⟨⟨fd, FunD.look FD, FD.bindsN fun _ _ _ _ _ _ us hl => match us, hl with | [_], _ => rfl, ?_⟩, FD.kp, T.g_law⟩
  refine FunD.ok (CX := CX0) FD sc_law (len_law K) (fun cdv A outer s H vs Q E hr h => ⟨t_law K, PSs.nox ?_, rd_law K T.fx vs H Q E h⟩)
  exact (pss_cons (ps_set (i := 1) sc_law.nd rfl (.inl rfl) (pe_callF o_law_depths hr (by decide) (by rfl) pass0 (pa_cons (pv 0) pa_nil)))
  (pss_cons (ps_set (i := 2) sc_law.nd rfl (.inl rfl) (pe_callTy call_listK (by rfl) T.b_list (by decide +kernel) (pa_cons (pv 1) pa_nil)))
  (Evl.pss_cut (ps_if (pt_cmpR op_eq (pe_op op_mod (pe_callF o_law_cell_at hr (by decide) (by rfl) pass0 (pa_cons (pv 0) (pa_cons pe_int pa_nil))) pe_int) pe_int (nomark _))
  (pss_cons (ps_set (i := 3) sc_law.nd rfl (.inl rfl) (pe_op op_add pe_int (pe_op op_mod (pe_callF o_law_cell_at hr (by decide) (by rfl) pass0 (pa_cons (pv 0) (pa_cons pe_int pa_nil))) (pe_callB call_lenK (by rfl) T.b_len (by decide +kernel) (pa_cons (pv 1) pa_nil)))))
  (pss_cons (ps_set (i := 4) sc_law.nd rfl (.inl rfl) (pe_ix ix_list (pe_lst (pa_cons pe_int (pa_cons (pe_op op_sub (pe_cst (pe_op op_sub pe_int pe_int) fun _ _ _ h => ⟨_, _, rfl, rfl, h⟩) (pe_op op_mod (pe_callF o_law_cell_at hr (by decide) (by rfl) pass0 (pa_cons (pv 0) (pa_cons pe_int pa_nil))) (pe_cst (pe_op op_pow pe_int pe_int) fun _ _ _ h => ⟨_, _, rfl, rfl, ⟨by decide, by decide, by decide⟩, h⟩))) (pa_cons (pe_op op_add (pe_ix ix_list (pv 1) (pe_op op_sub (pv 3) pe_int) (fun _ _ => rfl)) pe_int) pa_nil)))) (pe_op op_mod (pe_callF o_law_cell_at hr (by decide) (by rfl) pass0 (pa_cons (pv 0) (pa_cons pe_int pa_nil))) pe_int) (fun _ _ => rfl)))
  (pss_cons (ps_expr (pe_bm PySem.F.plainAttrs_list PySem.F.slot_list_insert PySem.F.type_list_insert mt_insertK (pv 2) (pa_cons (pv 3) (pa_cons (pv 4) pa_nil))))
  (pss_cons (ps_if (pt_not (pt_val (pe_callF o_law_no_tree hr (by decide) (by rfl) pass0 (pa_cons (pv 2) pa_nil))))
  (pss_one (ps_ret pe_bl))
  pss_nil)
  (pss_one (ps_expr (pe_bm PySem.F.plainAttrs_list PySem.F.slot_list_pop PySem.F.type_list_pop mt_popAt (pv 2) (pa_cons (pv 3) pa_nil))))))))
  pss_nil)
  (Evl.pss_cut (ps_if (pt_cmpR op_eq (pe_op op_mod (pe_callF o_law_cell_at hr (by decide) (by rfl) pass0 (pa_cons (pv 0) (pa_cons pe_int pa_nil))) pe_int) pe_int (nomark _))
  (pss_cons (ps_set (i := 4) sc_law.nd rfl (.inl rfl) (pe_op op_add pe_int (pe_op op_mod (pe_callF o_law_cell_at hr (by decide) (by rfl) pass0 (pa_cons (pv 0) (pa_cons pe_int pa_nil))) pe_int)))
  (pss_one (ps_if (pt_not (pt_val (pe_callF o_law_too_many hr (by decide) (by rfl) pass0 (pa_cons (pe_op op_cat (pe_lst (pa_cons pe_int pa_nil)) (pe_op op_rep (pe_lst (pa_cons (pv 4) pa_nil)) pe_int)) pa_nil))))
  (pss_one (ps_ret pe_bl))
  pss_nil)))
  pss_nil)
  (pss_cons (ps_set (i := 5) sc_law.nd rfl (.inl rfl) (pe_callF o_kept_tree hr (by decide) (by rfl) passL (pa_cons (pv 2) pa_nil)))
  (pss_cons (ps_if (PW.pt (pw_or (pt_not (pt_val (pe_callF o_law_good hr (by decide) (by rfl) pass0 (pa_cons (pv 5) (pa_cons (pv 1) pa_nil))))) (pw_or1 (pt_cmpR (op_neD hr.units) (pv 2) (pv 1) (nomark _)))))
  (pss_one (ps_ret pe_bl))
  pss_nil)
  (pss_cons (ps_asg pe_int (pg_sub (pe_ix ix_tup (pv 5) pe_int (fun _ _ => rfl)) pe_int set_list))
  (pss_cons (ps_expr (pe_bm PySem.F.plainAttrs_list PySem.F.slot_list_append PySem.F.type_list_append mt_append (pv 2) (pa_cons pe_int pa_nil)))
  (pss_one (ps_ret (pe_and (pe_callF o_law_good hr (by decide) (by rfl) pass0 (pa_cons (pe_callF o_kept_tree hr (by decide) (by rfl) passL (pa_cons (pv 1) pa_nil)) (pa_cons (pv 1) pa_nil))) (pe_one (pe_cmpR op_eq (pe_ix ix_list (pe_ix ix_tup (pv 5) pe_int (fun _ _ => rfl)) pe_int (fun _ _ => rfl)) pe_int (nomark _))))))))))))))
end
def dd_packed : He.DefD := ⟨("packed", none), "packed", "packed", defArgs s_packed, defBody s_packed, defScope s_packed, [], []⟩
def dd_ones_in : He.DefD := ⟨("ones_in", none), "ones_in", "ones_in", defArgs s_ones_in, defBody s_ones_in, defScope s_ones_in, [], []⟩
def dd_low_in : He.DefD := ⟨("low_in", none), "low_in", "low_in", defArgs s_low_in, defBody s_low_in, defScope s_low_in, [], []⟩
def dd_size_of : He.DefD := ⟨("size_of", none), "size_of", "size_of", defArgs s_size_of, defBody s_size_of, defScope s_size_of, [], []⟩
def dd_lesser_of : He.DefD := ⟨("lesser_of", none), "lesser_of", "lesser_of", defArgs s_lesser_of, defBody s_lesser_of, defScope s_lesser_of, [], []⟩
def dd_heap_of : He.DefD := ⟨("heap_of", none), "heap_of", "heap_of", defArgs s_heap_of, defBody s_heap_of, defScope s_heap_of, [], []⟩
def dd_ones_table : He.DefD := ⟨("ones_table", none), "ones_table", "ones_table", defArgs s_ones_table, defBody s_ones_table, defScope s_ones_table, [], []⟩
def dd_kept_row : He.DefD := ⟨("kept_row", none), "kept_row", "kept_row", defArgs s_kept_row, defBody s_kept_row, defScope s_kept_row, [], []⟩
def dd_is_tree : He.DefD := ⟨("is_tree", none), "is_tree", "is_tree", defArgs s_is_tree, defBody s_is_tree, defScope s_is_tree, [], []⟩
def dd_begin_height : He.DefD := ⟨("begin_height", none), "begin_height", "begin_height", defArgs s_begin_height, defBody s_begin_height, defScope s_begin_height, [], []⟩
def dd_kept_brackets : He.DefD := ⟨("kept_brackets", none), "kept_brackets", "kept_brackets", defArgs s_kept_brackets, defBody s_kept_brackets, defScope s_kept_brackets, [], []⟩
def dd_brackets_of : He.DefD := ⟨("brackets_of", none), "brackets_of", "brackets_of", defArgs s_brackets_of, defBody s_brackets_of, defScope s_brackets_of, [], []⟩
def dd_kept_tree : He.DefD := ⟨("kept_tree", none), "kept_tree", "kept_tree", defArgs s_kept_tree, defBody s_kept_tree, defScope s_kept_tree, [], []⟩
def dd_law_cell_at : He.DefD := ⟨("_law_cell_at", none), "_law_cell_at", "_law_cell_at", defArgs s_law_cell_at, defBody s_law_cell_at, defScope s_law_cell_at, [], []⟩
def dd_law_whole : He.DefD := ⟨("_law_whole", none), "_law_whole", "_law_whole", defArgs s_law_whole, defBody s_law_whole, defScope s_law_whole, [], []⟩
def dd_law_depths : He.DefD := ⟨("_law_depths", none), "_law_depths", "_law_depths", defArgs s_law_depths, defBody s_law_depths, defScope s_law_depths, [], []⟩
def dd_law_walked : He.DefD := ⟨("_law_walked", none), "_law_walked", "_law_walked", defArgs s_law_walked, defBody s_law_walked, defScope s_law_walked, [], []⟩
def dd_law_heap : He.DefD := ⟨("_law_heap", none), "_law_heap", "_law_heap", defArgs s_law_heap, defBody s_law_heap, defScope s_law_heap, [], []⟩
def dd_law_good : He.DefD := ⟨("_law_good", none), "_law_good", "_law_good", defArgs s_law_good, defBody s_law_good, defScope s_law_good, [], []⟩
def dd_law_no_tree : He.DefD := ⟨("_law_no_tree", none), "_law_no_tree", "_law_no_tree", defArgs s_law_no_tree, defBody s_law_no_tree, defScope s_law_no_tree, [], []⟩
def dd_law_too_many : He.DefD := ⟨("_law_too_many", none), "_law_too_many", "_law_too_many", defArgs s_law_too_many, defBody s_law_too_many, defScope s_law_too_many, [], []⟩
def dd_law : He.DefD := ⟨("law", none), "law", "law", defArgs s_law, defBody s_law, defScope s_law, [], []⟩
def fnL : List He.DefD := [dd_packed, dd_ones_in, dd_low_in, dd_size_of, dd_lesser_of, dd_heap_of, dd_ones_table, dd_kept_row, dd_is_tree, dd_begin_height, dd_kept_brackets, dd_brackets_of, dd_kept_tree, dd_law_cell_at, dd_law_whole, dd_law_depths, dd_law_walked, dd_law_heap, dd_law_good, dd_law_no_tree, dd_law_too_many, dd_law]
def fxL : List Fx := [.excC "NoBit", .kitT "NoBit" "ValueError" true, .kit "NoBit" "NoBit" true, .exm "NoBit" "NoBit" true, .kit "NoBit" "NoTree" false, .exm "NoBit" "NoTree" false, .kit "NoBit" "TooMany" false, .exm "NoBit" "TooMany" false, .kit "NoBit" "WoodError" true, .exm "NoBit" "WoodError" true, .excC "NoTree", .kitT "NoTree" "ValueError" true, .kit "NoTree" "NoBit" false, .exm "NoTree" "NoBit" false, .kit "NoTree" "NoTree" true, .exm "NoTree" "NoTree" true, .kit "NoTree" "TooMany" false, .exm "NoTree" "TooMany" false, .kit "NoTree" "WoodError" true, .exm "NoTree" "WoodError" true, .excC "TooMany", .kitT "TooMany" "ValueError" true, .kit "TooMany" "NoBit" false, .exm "TooMany" "NoBit" false, .kit "TooMany" "NoTree" false, .exm "TooMany" "NoTree" false, .kit "TooMany" "TooMany" true, .exm "TooMany" "TooMany" true, .kit "TooMany" "WoodError" true, .exm "TooMany" "WoodError" true, .excC "WoodError", .kitT "WoodError" "ValueError" true, .kit "WoodError" "NoBit" false, .exm "WoodError" "NoBit" false, .kit "WoodError" "NoTree" false, .exm "WoodError" "NoTree" false, .kit "WoodError" "TooMany" false, .exm "WoodError" "TooMany" false, .kit "WoodError" "WoodError" true, .exm "WoodError" "WoodError" true]
def faL : List He.Fa := [.glo "packed", .glo "ones_in", .glo "low_in", .glo "size_of", .glo "lesser_of", .glo "heap_of", .glo "ones_table", .glo "kept_row", .glo "is_tree", .glo "begin_height", .glo "kept_brackets", .glo "brackets_of", .glo "kept_tree", .glo "_law_cell_at", .glo "_law_whole", .glo "_law_depths", .glo "_law_walked", .glo "_law_heap", .glo "_law_good", .glo "_law_no_tree", .glo "_law_too_many", .glo "law", .free "ValueError", .free "bool", .free "enumerate", .free "int", .free "isinstance", .free "len", .free "list", .free "min", .free "range", .free "sum", .free "tuple", .free "zip", .int "MOST" 4096, .int "WIDE" 32, .exc "NoBit", .exc "NoTree", .exc "TooMany", .exc "WoodError", .glo "NoBit", .glo "NoTree", .glo "TooMany", .glo "WoodError"]
abbrev R : PySem.W.OpenRow := PySem.W.OpenLaw.row PySem.Challenge.rw_thinwood_k43_a_tree_kept
abbrev hk : PySem.W.Hook := hookF 4 faL fnL fxL
def ob (s : PySem.W.SharedT) : AlF := obsFG 4 faL fnL fxL (HandSHeadRun.getT s)
theorem ob_eq (s : PySem.W.SharedT) : ob s = hk.obs s.abs := obsFG_eq (HandSHeadRun.getT_eq s)
def looseL : List PySem.Str := (["WoodError", "TooMany", "NoBit", "NoTree", "WIDE", "MOST", "packed", "ones_in", "low_in", "size_of", "lesser_of", "heap_of", "ones_table", "kept_row", "is_tree", "begin_height", "kept_brackets", "brackets_of", "kept_tree", "_law_cell_at", "_law_whole", "_law_depths", "_law_walked", "_law_heap", "_law_good", "_law_no_tree", "_law_too_many"] : List PySem.Str)
theorem run (w : World) : HandSHeadRun.RunEq R (PySem.W.view R.prog [34]) hk ob 20000 looseL w := by
  intro os
  kernel_rfl
theorem tx_of {P : Program} {w : World} {K : PySem.W.Frag} {h : Heap} {mg : Str → Option Value} (X : K.In h) (G : h.Ns mainGlobals mg) (c2 : SaysF faL fnL fxL K) (base : Heap) : Tx P w K mg base :=
  have c := SaysF.d c2
  {
  d_packed := c.def_ 0 (d := dd_packed) rfl
  g_packed := He.glo_ok X G (c.fact 0 (f := .glo "packed") rfl)
  d_ones_in := c.def_ 1 (d := dd_ones_in) rfl
  g_ones_in := He.glo_ok X G (c.fact 1 (f := .glo "ones_in") rfl)
  d_low_in := c.def_ 2 (d := dd_low_in) rfl
  g_low_in := He.glo_ok X G (c.fact 2 (f := .glo "low_in") rfl)
  d_size_of := c.def_ 3 (d := dd_size_of) rfl
  g_size_of := He.glo_ok X G (c.fact 3 (f := .glo "size_of") rfl)
  d_lesser_of := c.def_ 4 (d := dd_lesser_of) rfl
  g_lesser_of := He.glo_ok X G (c.fact 4 (f := .glo "lesser_of") rfl)
  d_heap_of := c.def_ 5 (d := dd_heap_of) rfl
  g_heap_of := He.glo_ok X G (c.fact 5 (f := .glo "heap_of") rfl)
  d_ones_table := c.def_ 6 (d := dd_ones_table) rfl
  g_ones_table := He.glo_ok X G (c.fact 6 (f := .glo "ones_table") rfl)
  d_kept_row := c.def_ 7 (d := dd_kept_row) rfl
  g_kept_row := He.glo_ok X G (c.fact 7 (f := .glo "kept_row") rfl)
  d_is_tree := c.def_ 8 (d := dd_is_tree) rfl
  g_is_tree := He.glo_ok X G (c.fact 8 (f := .glo "is_tree") rfl)
  d_begin_height := c.def_ 9 (d := dd_begin_height) rfl
  g_begin_height := He.glo_ok X G (c.fact 9 (f := .glo "begin_height") rfl)
  d_kept_brackets := c.def_ 10 (d := dd_kept_brackets) rfl
  g_kept_brackets := He.glo_ok X G (c.fact 10 (f := .glo "kept_brackets") rfl)
  d_brackets_of := c.def_ 11 (d := dd_brackets_of) rfl
  g_brackets_of := He.glo_ok X G (c.fact 11 (f := .glo "brackets_of") rfl)
  d_kept_tree := c.def_ 12 (d := dd_kept_tree) rfl
  g_kept_tree := He.glo_ok X G (c.fact 12 (f := .glo "kept_tree") rfl)
  d_law_cell_at := c.def_ 13 (d := dd_law_cell_at) rfl
  g_law_cell_at := He.glo_ok X G (c.fact 13 (f := .glo "_law_cell_at") rfl)
  d_law_whole := c.def_ 14 (d := dd_law_whole) rfl
  g_law_whole := He.glo_ok X G (c.fact 14 (f := .glo "_law_whole") rfl)
  d_law_depths := c.def_ 15 (d := dd_law_depths) rfl
  g_law_depths := He.glo_ok X G (c.fact 15 (f := .glo "_law_depths") rfl)
  d_law_walked := c.def_ 16 (d := dd_law_walked) rfl
  g_law_walked := He.glo_ok X G (c.fact 16 (f := .glo "_law_walked") rfl)
  d_law_heap := c.def_ 17 (d := dd_law_heap) rfl
  g_law_heap := He.glo_ok X G (c.fact 17 (f := .glo "_law_heap") rfl)
  d_law_good := c.def_ 18 (d := dd_law_good) rfl
  g_law_good := He.glo_ok X G (c.fact 18 (f := .glo "_law_good") rfl)
  d_law_no_tree := c.def_ 19 (d := dd_law_no_tree) rfl
  g_law_no_tree := He.glo_ok X G (c.fact 19 (f := .glo "_law_no_tree") rfl)
  d_law_too_many := c.def_ 20 (d := dd_law_too_many) rfl
  g_law_too_many := He.glo_ok X G (c.fact 20 (f := .glo "_law_too_many") rfl)
  d_law := c.def_ 21 (d := dd_law) rfl
  g_law := He.glo_ok X G (c.fact 21 (f := .glo "law") rfl)
  b_ValueError := He.free_ok X G (c.fact 22 (f := .free "ValueError") rfl)
  b_bool := He.free_ok X G (c.fact 23 (f := .free "bool") rfl)
  b_enumerate := He.free_ok X G (c.fact 24 (f := .free "enumerate") rfl)
  b_int := He.free_ok X G (c.fact 25 (f := .free "int") rfl)
  b_isinstance := He.free_ok X G (c.fact 26 (f := .free "isinstance") rfl)
  b_len := He.free_ok X G (c.fact 27 (f := .free "len") rfl)
  b_list := He.free_ok X G (c.fact 28 (f := .free "list") rfl)
  b_min := He.free_ok X G (c.fact 29 (f := .free "min") rfl)
  b_range := He.free_ok X G (c.fact 30 (f := .free "range") rfl)
  b_sum := He.free_ok X G (c.fact 31 (f := .free "sum") rfl)
  b_tuple := He.free_ok X G (c.fact 32 (f := .free "tuple") rfl)
  b_zip := He.free_ok X G (c.fact 33 (f := .free "zip") rfl)
  i_MOST := He.int_ok X G (c.fact 34 (f := .int "MOST" 4096) rfl)
  i_WIDE := He.int_ok X G (c.fact 35 (f := .int "WIDE" 32) rfl)
  x_NoBit := (fun q => ⟨He.glo_ok X G (c.fact 40 (f := .glo "NoBit") rfl), q.1, q.2.1, q.2.2.1, q.2.2.2⟩) (He.exc_ok (c.fact 36 (f := .exc "NoBit") rfl))
  g_NoBit := He.glo_ok X G (c.fact 40 (f := .glo "NoBit") rfl)
  x_NoTree := (fun q => ⟨He.glo_ok X G (c.fact 41 (f := .glo "NoTree") rfl), q.1, q.2.1, q.2.2.1, q.2.2.2⟩) (He.exc_ok (c.fact 37 (f := .exc "NoTree") rfl))
  g_NoTree := He.glo_ok X G (c.fact 41 (f := .glo "NoTree") rfl)
  x_TooMany := (fun q => ⟨He.glo_ok X G (c.fact 42 (f := .glo "TooMany") rfl), q.1, q.2.1, q.2.2.1, q.2.2.2⟩) (He.exc_ok (c.fact 38 (f := .exc "TooMany") rfl))
  g_TooMany := He.glo_ok X G (c.fact 42 (f := .glo "TooMany") rfl)
  x_WoodError := (fun q => ⟨He.glo_ok X G (c.fact 43 (f := .glo "WoodError") rfl), q.1, q.2.1, q.2.2.1, q.2.2.2⟩) (He.exc_ok (c.fact 39 (f := .exc "WoodError") rfl))
  g_WoodError := He.glo_ok X G (c.fact 43 (f := .glo "WoodError") rfl)
  fx := {
    ec_NoBit := Fx.excC_ok (SaysF.fx c2 0 (f := .excC "NoBit") rfl)
    kt_NoBit := Fx.kitT_ok (SaysF.fx c2 1 (f := .kitT "NoBit" "ValueError" true) rfl)
    k_NoBit_NoBit := Fx.kit_ok (SaysF.fx c2 2 (f := .kit "NoBit" "NoBit" true) rfl)
    e_NoBit_NoBit := Fx.exm_ok (SaysF.fx c2 3 (f := .exm "NoBit" "NoBit" true) rfl)
    k_NoBit_NoTree := Fx.kit_ok (SaysF.fx c2 4 (f := .kit "NoBit" "NoTree" false) rfl)
    e_NoBit_NoTree := Fx.exm_ok (SaysF.fx c2 5 (f := .exm "NoBit" "NoTree" false) rfl)
    k_NoBit_TooMany := Fx.kit_ok (SaysF.fx c2 6 (f := .kit "NoBit" "TooMany" false) rfl)
    e_NoBit_TooMany := Fx.exm_ok (SaysF.fx c2 7 (f := .exm "NoBit" "TooMany" false) rfl)
    k_NoBit_WoodError := Fx.kit_ok (SaysF.fx c2 8 (f := .kit "NoBit" "WoodError" true) rfl)
    e_NoBit_WoodError := Fx.exm_ok (SaysF.fx c2 9 (f := .exm "NoBit" "WoodError" true) rfl)
    ec_NoTree := Fx.excC_ok (SaysF.fx c2 10 (f := .excC "NoTree") rfl)
    kt_NoTree := Fx.kitT_ok (SaysF.fx c2 11 (f := .kitT "NoTree" "ValueError" true) rfl)
    k_NoTree_NoBit := Fx.kit_ok (SaysF.fx c2 12 (f := .kit "NoTree" "NoBit" false) rfl)
    e_NoTree_NoBit := Fx.exm_ok (SaysF.fx c2 13 (f := .exm "NoTree" "NoBit" false) rfl)
    k_NoTree_NoTree := Fx.kit_ok (SaysF.fx c2 14 (f := .kit "NoTree" "NoTree" true) rfl)
    e_NoTree_NoTree := Fx.exm_ok (SaysF.fx c2 15 (f := .exm "NoTree" "NoTree" true) rfl)
    k_NoTree_TooMany := Fx.kit_ok (SaysF.fx c2 16 (f := .kit "NoTree" "TooMany" false) rfl)
    e_NoTree_TooMany := Fx.exm_ok (SaysF.fx c2 17 (f := .exm "NoTree" "TooMany" false) rfl)
    k_NoTree_WoodError := Fx.kit_ok (SaysF.fx c2 18 (f := .kit "NoTree" "WoodError" true) rfl)
    e_NoTree_WoodError := Fx.exm_ok (SaysF.fx c2 19 (f := .exm "NoTree" "WoodError" true) rfl)
    ec_TooMany := Fx.excC_ok (SaysF.fx c2 20 (f := .excC "TooMany") rfl)
    kt_TooMany := Fx.kitT_ok (SaysF.fx c2 21 (f := .kitT "TooMany" "ValueError" true) rfl)
    k_TooMany_NoBit := Fx.kit_ok (SaysF.fx c2 22 (f := .kit "TooMany" "NoBit" false) rfl)
    e_TooMany_NoBit := Fx.exm_ok (SaysF.fx c2 23 (f := .exm "TooMany" "NoBit" false) rfl)
    k_TooMany_NoTree := Fx.kit_ok (SaysF.fx c2 24 (f := .kit "TooMany" "NoTree" false) rfl)
    e_TooMany_NoTree := Fx.exm_ok (SaysF.fx c2 25 (f := .exm "TooMany" "NoTree" false) rfl)
    k_TooMany_TooMany := Fx.kit_ok (SaysF.fx c2 26 (f := .kit "TooMany" "TooMany" true) rfl)
    e_TooMany_TooMany := Fx.exm_ok (SaysF.fx c2 27 (f := .exm "TooMany" "TooMany" true) rfl)
    k_TooMany_WoodError := Fx.kit_ok (SaysF.fx c2 28 (f := .kit "TooMany" "WoodError" true) rfl)
    e_TooMany_WoodError := Fx.exm_ok (SaysF.fx c2 29 (f := .exm "TooMany" "WoodError" true) rfl)
    ec_WoodError := Fx.excC_ok (SaysF.fx c2 30 (f := .excC "WoodError") rfl)
    kt_WoodError := Fx.kitT_ok (SaysF.fx c2 31 (f := .kitT "WoodError" "ValueError" true) rfl)
    k_WoodError_NoBit := Fx.kit_ok (SaysF.fx c2 32 (f := .kit "WoodError" "NoBit" false) rfl)
    e_WoodError_NoBit := Fx.exm_ok (SaysF.fx c2 33 (f := .exm "WoodError" "NoBit" false) rfl)
    k_WoodError_NoTree := Fx.kit_ok (SaysF.fx c2 34 (f := .kit "WoodError" "NoTree" false) rfl)
    e_WoodError_NoTree := Fx.exm_ok (SaysF.fx c2 35 (f := .exm "WoodError" "NoTree" false) rfl)
    k_WoodError_TooMany := Fx.kit_ok (SaysF.fx c2 36 (f := .kit "WoodError" "TooMany" false) rfl)
    e_WoodError_TooMany := Fx.exm_ok (SaysF.fx c2 37 (f := .exm "WoodError" "TooMany" false) rfl)
    k_WoodError_WoodError := Fx.kit_ok (SaysF.fx c2 38 (f := .kit "WoodError" "WoodError" true) rfl)
    e_WoodError_WoodError := Fx.exm_ok (SaysF.fx c2 39 (f := .exm "WoodError" "WoodError" true) rfl)
  }
  }
theorem facts {P : Program} {w : World} {K : PySem.W.Frag} {h : Heap} {mg : Str → Option Value} (X : K.In h) (G : h.Ns mainGlobals mg) (c : SaysF faL fnL fxL K) (base : Heap) :
    Okf P w K mg base CX0 10 "law" ["_law_script"] (sp_law K) := by
  have T : Tx P w K mg base := tx_of X G c base
  have o_packed := ok_packed (P := P) (w := w) T 
  have o_ones_in := ok_ones_in (P := P) (w := w) T 
  have o_low_in := ok_low_in (P := P) (w := w) T 
  have o_size_of := ok_size_of (P := P) (w := w) T 
  have o_lesser_of := ok_lesser_of (P := P) (w := w) T 
  have o_heap_of := ok_heap_of (P := P) (w := w) T o_size_of o_lesser_of
  have o_ones_table := ok_ones_table (P := P) (w := w) T o_ones_in
  have o_kept_row := ok_kept_row (P := P) (w := w) T o_packed o_ones_table
  have o_is_tree := ok_is_tree (P := P) (w := w) T 
  have o_begin_height := ok_begin_height (P := P) (w := w) T 
  have o_kept_brackets := ok_kept_brackets (P := P) (w := w) T o_kept_row o_is_tree o_begin_height o_low_in o_heap_of
  have o_brackets_of := ok_brackets_of (P := P) (w := w) T 
  have o_kept_tree := ok_kept_tree (P := P) (w := w) T o_kept_brackets o_brackets_of
  have o_law_cell_at := ok_law_cell_at (P := P) (w := w) T 
  have o_law_whole := ok_law_whole (P := P) (w := w) T 
  have o_law_depths := ok_law_depths (P := P) (w := w) T 
  have o_law_walked := ok_law_walked (P := P) (w := w) T 
  have o_law_heap := ok_law_heap (P := P) (w := w) T o_law_whole
  have o_law_good := ok_law_good (P := P) (w := w) T o_law_whole o_law_walked o_law_heap
  have o_law_no_tree := ok_law_no_tree (P := P) (w := w) T o_kept_tree
  have o_law_too_many := ok_law_too_many (P := P) (w := w) T o_kept_tree
  have o_law := ok_law (P := P) (w := w) T o_law_depths o_law_cell_at o_law_no_tree o_law_too_many o_kept_tree o_law_good
  exact o_law
theorem binds_law {K : PySem.W.Frag} (c : SaysF faL fnL fxL K) : ∃ fd : FuncData, FunD K "law" "law" (defArgs s_law) (defBody s_law) (defScope s_law) [] [] (He.ga K "law") fd := (SaysF.d c).def_ 21 (d := dd_law) rfl
end Tw
open PySem PySem.W PySem.Calls PyProof.Rows
set_option maxHeartbeats 0 in
theorem PySem.Challenge.cw_thinwood_k43_a_tree_kept_holds : PySem.Challenge.rw_thinwood_k43_a_tree_kept.Holds := by
  w_on; o_law
  refine HandSHeadRun.head_any (r := OpenLaw.row PySem.Challenge.rw_thinwood_k43_a_tree_kept) (q := view (OpenLaw.row PySem.Challenge.rw_thinwood_k43_a_tree_kept).prog [34]) (H := Tw.hk) (ob := Tw.ob) (M := 20000) (loose := Tw.looseL) (d := HandSHeadRun.topDef (OpenLaw.row PySem.Challenge.rw_thinwood_k43_a_tree_kept).prog 34) (kwd := []) Tw.ob_eq
    Tw.z_e Tw.z_f Tw.run Tw.z_def Tw.z_hp Tw.z_hk (by rfl) (by first | assumption | decide +kernel) Tw.z_ok Tw.z_bare Tw.z_w ?hc
  case hc =>
    refine L2.walk_ofE (l := PySem.Challenge.rw_thinwood_k43_a_tree_kept) (n := 63) (k := 10) (x := "_law_script") (CX := L2.CX0) rfl (by decide) (by as_aux_lemma => kernel_rfl) ⟨rfl, by decide, by decide⟩ ?F (fun _ _ _ _ z => z)
    intro w mg fa h Y G hmg0
    obtain ⟨K, KX, c⟩ := Y
    have hmg : mg ("law" : PySem.Str) = some (.ref fa) := by
      have e : (HandSHeadRun.topDef (OpenLaw.row PySem.Challenge.rw_thinwood_k43_a_tree_kept).prog 34).name = ("law" : PySem.Str) := by kernel_rfl
      rw [← e]
      exact hmg0
    have e : fa = He.ga K "law" := by
      have z := hmg.symm.trans (Tw.facts (P := (PySem.Challenge.rw_thinwood_k43_a_tree_kept).prog) (w := w) KX G c h).gl
      exact Value.ref.inj (Option.some.inj z)
    subst e
    obtain ⟨fd, FD⟩ := Tw.binds_law c
    refine ⟨K, fd, Tw.sp_law K, KX, fun s v => FunD.bindsA (ps := ["_law_script"]) FD (fun _ _ _ _ _ _ us hl => match us, hl with | [_], _ => rfl) s [v] rfl, fun H a ns hl _ hS => ⟨a, ns, rfl, hS, hl, fun _ => rfl⟩, fun base KB GB => ?_⟩
    exact Tw.okf_fn (Tw.facts KB GB c base) FD
#print axioms PySem.Challenge.cw_thinwood_k43_a_tree_kept_holds
