import PyProof.Rows.All
import HandS.TupAny
import HandS.SetFor
import Wide.All
import OpenK.AllK
import Wide.FinOn
import KE.KStateDown
import Lean
import HandS.ForMost
import HandS.ForExc
import HandS.Steps
import HandS.IsInst
import HandS.Wide
import HandS.WideBits
import HandS.Defaults
import HandS.Flow
import HandS.Style
import HandS.ExcIs
import HandS.TryMany
import HandS.Evl
import HandS.Walk
import HandS.Rev
import HandS.Conv
import HandS.RevRange
import HandS.SortInts
import HandS.Head0
import HandS.Head1
import HandS.Head2
import HandS.HeadEnd
import HandS.HeadHook1
import HandS.HeadHook2
import HandS.Deep
import HandS.Lambda
import HandS.HeadHook4
import HandS.HeadWalk
import HandS.Nested
import PySem.Challenge.RW_thinwood_k69_whole_signs
set_option Elab.async false
set_option linter.all false
set_option maxRecDepth 100000
set_option maxHeartbeats 4000000
open PySem PySem.W PySem.Calls PyProof.Rows in
section
namespace Tw
abbrev R0 : PySem.W.OpenRow := PySem.W.OpenLaw.row PySem.Challenge.rw_thinwood_k69_whole_signs
abbrev q0 : PySem.Program := PySem.W.view R0.prog [53]
abbrev d0 : PySem.DefRec := HandSHeadRun.topDef R0.prog 53
open PySem PySem.W PySem.Calls PyProof.Rows
theorem z_e : opening R0.prog = plainProg R0.prog.main.scope.names := by kernel_rfl
theorem z_f : ∀ s, fenceModules? R0.prog s = some s := fun s => by kernel_rfl
theorem z_def : defOf q0 R0.name = some (d0, []) := by kernel_rfl
theorem z_hp : R0.prog.theDef R0.name = some (d0.params, d0.body, d0.scope) := by kernel_rfl
theorem z_hk : kwWritten? d0.params.kwonlyargs d0.params.kw_defaults = some [] := by kernel_rfl
theorem z_ok : (chainsOk q0 && opensWell R0.prog && (frees R0.toRowW && R0.within.isEmpty)) = true := by decide +kernel
theorem z_bare : R0.prog.bare := ⟨rfl, rfl, rfl, rfl, rfl, by decide +kernel⟩
set_option maxHeartbeats 0 in
theorem z_w : R0.toRowW.promised := by w_witness2
end Tw
end
set_option Elab.async false
set_option linter.all false
set_option maxRecDepth 100000
set_option maxHeartbeats 4000000
namespace Tw
open PySem PySem.Spec PyProof.Rows L2
def nmL (l _c : Nat) : Str := if l = 125 then (("level_row" ++ ".<locals>.") ++ "<lambda>") else if l = 254 then (("_law_look" ++ ".<locals>.") ++ "_law_told") else ""
def tabL : List Str := ["level_row", "_law_look"]
/-! ### heaps: all that was tracked is as it was, but for code tables, which may have grown -/
class NT (o : HO) : Prop where
  ne : ∀ ps, o ≠ .tbl ps
instance {xs : List V} : NT (.lst xs) := ⟨fun _ z => nomatch z⟩
instance {xs : List V} : NT (.tup xs) := ⟨fun _ z => nomatch z⟩
instance {o : Obj} {u : HO} : NT (.frz o u) := ⟨fun _ z => nomatch z⟩
instance {φ : Heap → Prop} : NT (.ext φ) := ⟨fun _ z => nomatch z⟩
instance {S : Int → Bool} {n : Nat} : NT (.set S n) := ⟨fun _ z => nomatch z⟩
instance {kvs : List (Key × V)} : NT (.dK kvs) := ⟨fun _ z => nomatch z⟩
instance {C dx : Addr} {fs : List (Str × V)} : NT (.ins C dx fs) := ⟨fun _ z => nomatch z⟩
instance {x : Addr} : NT (.own x) := ⟨fun _ z => nomatch z⟩
structure Same (H H' : Hp) : Prop where
  keep : ∀ b o, H b = some o → (∀ ps, o ≠ .tbl ps) → H' b = some o
  gone : ∀ b, H' b = none → H b = none
  tabs : ∀ P, NdefX.TabN H P nmL → NdefX.TabN H' P nmL
theorem Same.get {H H' : Hp} (s : Same H H') {b : Addr} {o : HO} [NT o] (e : H b = some o) : H' b = some o := s.keep b o e NT.ne
theorem Same.of {H H' : Hp} (e : ∀ b o, H b = some o → H' b = some o) : Same H H' := by
  refine ⟨fun b o h _ => e b o h, fun b h => ?_, fun P t => NdefX.TabN.ext t e⟩
  cases q : H b with
  | none => rfl
  | some o => rw [e b o q] at h; cases h
theorem Same.refl (H : Hp) : Same H H := .of fun _ _ h => h
theorem Same.trans {H H1 H2 : Hp} (a : Same H H1) (b : Same H1 H2) : Same H H2 := ⟨fun c o h n => b.keep c o (a.keep c o h n) n, fun c h => a.gone c (b.gone c h), fun P t => b.tabs P (a.tabs P t)⟩
theorem Same.free {H H' : Hp} (e : Same H H') {l : Addr} (h : H' l = Option.none) : H l = Option.none := e.gone l h
theorem Same.seq {K : PySem.W.Frag} {H H' : Hp} {a : Addr} {xs : List V} (e : Same H H') (h : SqL K H a xs) : SqL K H' a xs := by
  rcases h with (h | ⟨o, h⟩) | h
  · exact .inl (.inl (e.get h))
  · exact .inl (.inr ⟨o, e.get h⟩)
  · exact .inr h
theorem same_new {H : Hp} {p : Addr} {o : HO} (h : H p = none) : Same H (upd H p o) := .of fun b x e => by
  rw [upd_ne (ne_of_none e h)]; exact e
/-- an object that H does not know may change -/
theorem Same.mut {H H' : Hp} {p : Addr} {o : HO} (e : Same H H') (h : H p = none) (hl : ∃ xs, H' p = some (.lst xs) := by exact ⟨_, by assumption⟩) : Same H (upd H' p o) := by
  obtain ⟨xs, hl⟩ := hl
  refine ⟨fun b x hb n => by rw [upd_ne (ne_of_none hb h)]; exact e.keep b x hb n, fun b hb => e.gone b (NdefX.upd_none hb), fun P t => ?_⟩
  obtain ⟨ps, h1, ht, hc⟩ := e.tabs P t
  have np : ∀ {b : Addr} {u : HO}, H' b = some u → (∀ xs, u ≠ .lst xs) → b ≠ p := fun {b u} q d z => by
    subst z; rw [hl] at q; cases q; exact d _ rfl
  refine ⟨ps, by rw [upd_ne (np h1 fun _ z => nomatch z)]; exact h1, ht, fun pos cv q => ?_⟩
  obtain ⟨c, e1, e2⟩ := hc pos cv q
  exact ⟨c, e1, by rw [upd_ne (np e2 fun _ z => by unfold LamX.CodeO at z; cases z)]; exact e2⟩
theorem Same.seqT {K : PySem.W.Frag} {H H' : Hp} {a : Addr} {xs : List V} (e : Same H H') (h : SqT K H a xs) : SqT K H' a xs := by
  rcases h with (h | ⟨o, h⟩) | h
  · exact .inl (.inl (e.get h))
  · exact .inl (.inr ⟨o, e.get h⟩)
  · exact .inr h
theorem Same.ne {H : Hp} {a p : Addr} {o : HO} (h : H p = none) (e : H a = some o) : a ≠ p := ne_of_none e h
/-! ### a def by its global name, and its call -/
/-- the def named x keeps the promise sp -/
structure Okf (P : Program) (w : World) (K : PySem.W.Frag) (mg : Str → Option Value) (base : Heap) (CX : CXT) (k : Nat) (x : Str) (ps : List Str) (sp : Sp) : Prop where
  ex : ∃ fd : FuncData, (∃ (oc : Value) (od : Option Addr) (osl : Array (Option Value)), K.lookup (He.ga K x) = some ⟨oc, od, .func fd, osl⟩) ∧ Binds K fd ps [] ∧ FnOk P w K mg base CX k (He.ga K x) fd ps sp
  kp : PySem.W.keepIn K (.ref (He.ga K x)) = true
  gl : mg x = some (.ref (He.ga K x))
theorem FunD.look {K : PySem.W.Frag} {x qual : Str} {params : Arguments} {body : List Stmt} {scope : Scope} {dvs : List V} {kws : List (Str × V)} {f : Addr} {fd : FuncData} (F : FunD K x qual params body scope dvs kws f fd) :
    ∃ (oc : Value) (od : Option Addr) (osl : Array (Option Value)), K.lookup f = some ⟨oc, od, .func fd, osl⟩ := by
  obtain ⟨oc, od, dV, kV, doc, pm, an, cdv, ct, osl, e, lk, _⟩ := F.ex
  exact ⟨oc, od, osl, lk⟩
section
variable {X : Cx} {CX : CXT} {k j : Nat} {ps : List Str} {sp : Sp} {E : XK} {x : Str} {p pos : Pos} {e : Expr} {es : List Expr} {t : TA}
theorem pe_callF (F : Okf X.prog X.w X.K X.mg X.base CX k x ps sp) (hr : Room j X.A) (hk : k ≤ j) (hg : Gl X x) (hx : Passes CX X E)
    (ha : PA X (e :: es) t) (hdb : (x == ("__debug__" : Str)) = false := by decide) (he : starEach (e :: es) X.env = (false, eval e X.env) :: starEach es X.env := by rfl) (hpl : (backTo pos (starEach es X.env)).any (·.1) = false := by rfl) :
    PE X (.Call (.Name x p) (e :: es) [] pos) (tCall sp [] E t) := by
  obtain ⟨fd, _, hb, ok⟩ := F.ex
  exact pe_call ok (hr.mono hk) hg F.gl F.kp hb .nil hx ha hdb he hpl
theorem pe_callF0 (F : Okf X.prog X.w X.K X.mg X.base CX k x ps sp) (hr : Room j X.A) (hk : k ≤ j) (hg : Gl X x) (hx : Passes CX X E)
    (hdb : (x == ("__debug__" : Str)) = false := by decide) : PE X (.Call (.Name x p) [] [] pos) (tCall sp [] E tNil) := by
  obtain ⟨fd, _, hb, ok⟩ := F.ex
  exact pe_call0 ok (hr.mono hk) hg F.gl F.kp hb .nil hx hdb
theorem Okf.imp {P : Program} {w : World} {K : PySem.W.Frag} {mg : Str → Option Value} {base : Heap} {sp' : Sp} (F : Okf P w K mg base CX k x ps sp)
    (h : ∀ vs H Q E, sp' vs H Q E → sp vs H Q E) : Okf P w K mg base CX k x ps sp' := by
  obtain ⟨⟨fd, lk, hb, ok⟩, kp, gl⟩ := F
  exact ⟨⟨fd, lk, hb, ok.imp h⟩, kp, gl⟩
theorem okf_fn {P : Program} {w : World} {K : PySem.W.Frag} {mg : Str → Option Value} {base : Heap} {params : Arguments} {body : List Stmt} {scope : Scope} {qual y : Str} {fd : FuncData} {dvs : List V} {kws : List (Str × V)} (F : Okf P w K mg base CX k x ps sp)
    (FD : FunD K y qual params body scope dvs kws (He.ga K x) fd) : FnOk P w K mg base CX k (He.ga K x) fd ps sp := by
  obtain ⟨⟨fd', ⟨_, _, _, lk'⟩, hb, ok⟩, kp, gl⟩ := F
  obtain ⟨_, _, _, lk⟩ := FunD.look FD
  rw [lk] at lk'
  injection lk' with e
  injection e with _ _ e
  injection e with e
  subst e
  exact ok
/-- a global int, as a constant -/
theorem pe_gint {i : Int} (h : ∃ t, X.mg x = some (.int i t)) (hg : Gl X x) (hd : (x == ("__debug__" : Str)) = false := by decide) : PE X (.Name x pos) (tC (.int i)) := by
  obtain ⟨t, h⟩ := h
  exact pe_glob hg h ⟨_, rfl⟩ hd
/-- a constant that the text reckons -/
theorem pe_cst {v : Int} {te : TE} (h : PE X e te) (hi : ∀ (σ : L2.St) (H : Hp) (Q : VK), Q (.int v) H → te σ H Q) : PE X e (tC (.int v)) :=
  ⟨fun pins s σ H Q I q => h.run pins s σ H Q I (hi σ H Q q)⟩
/-- e & 1 -/
def rAnd1 : R2 := fun x y H Q => ∃ i : Int, x = .int i ∧ y = .int 1 ∧ Q (.int (i % 2)) H
theorem op_and1 : OpR X (binaryOp .BitAnd) rAnd1 := by
  intro pins s σ H x y v u Q I rx ry h
  obtain ⟨i, rfl, rfl, q⟩ := h
  exact op_andM pins s σ H (.int i) (.int (2 ^ 1 - 1)) v u Q I rx ry ⟨i, 1, rfl, rfl, q⟩
/-- isinstance(x, T), T a built-in type's name -/
def rIsB : List V → Hp → VK → Prop := fun xs H Q => ∃ (x : V) (n : String), xs = [x, .ty n] ∧ ∃ (t : String) (b : Bool), (∀ K : PySem.W.Frag, TyX K H x (.type t)) ∧ kitB t n = some b ∧ Q (.bl b) H
theorem call_isB : CallR X (.builtin "isinstance") rIsB := by
  intro pins s σ H xs us Q I r h
  obtain ⟨x, n, rfl, t, b, ty, e, q⟩ := h
  exact call_isi pins s σ H [x, .ty n] us Q I r ⟨x, .ty n, .type t, .type n, b, rfl, .ty n, ty _, kit_ty e, q⟩
end
/-! ### names of the operators' readings -/
abbrev rPlus : R2 := rI0 fun i j => .int (i + j)
abbrev rMinus : R2 := rI0 fun i j => .int (i - j)
abbrev rTimes : R2 := rI CMul fun i j => .int (i * j)
abbrev rDiv : R2 := rI CDiv fun i j => .int (i / j)
abbrev rDivW : R2 := rI CDivW fun i j => .int (i / j)
abbrev rMod : R2 := rI (fun _ j => 0 < j) fun i j => .int (i % j)
abbrev rPow : R2 := rI CPow fun i j => .int (i ^ j.toNat)
abbrev rShl : R2 := rI CPow fun i j => .int (i * 2 ^ j.toNat)
abbrev rShr : R2 := rI (fun _ j => 0 ≤ j) fun i j => .int (i / 2 ^ j.toNat)
abbrev rBitAnd : R2 := rI0 fun i j => .int (Builtin.bitAnd i j)
abbrev rBitOr : R2 := rI0 fun i j => .int (Builtin.bitOr i j)
abbrev rBitXor : R2 := rI0 fun i j => .int (Builtin.bitXor i j)
abbrev rLt : R2 := rI0 fun i j => .bl (decide (i < j))
abbrev rLe : R2 := rI0 fun i j => .bl (decide (i ≤ j))
abbrev rGtI : R2 := rI0 fun i j => .bl (decide (j < i))
abbrev rGeI : R2 := rI0 fun i j => .bl (decide (j ≤ i))
abbrev rShlW : R2 := rI CShl fun i j => .int (i * 2 ^ j.toNat)
def rDivmod : List V → Hp → VK → Prop := fun xs H Q => ∃ i j, xs = [.int i, .int j] ∧ CDivP i j ∧ ∀ p, H p = none → Q (.ref p) (upd H p (.tup [.int (i / j), .int (i % j)]))
abbrev rNeg : V → Hp → VK → Prop := rU fun i => .int (-i)
/-! ### steps of a reading -/
section
variable {D : Ends} {σ : L2.St} {H : Hp} {Q : VK} {Qb : Bool → Hp → Prop} {ta tb te : TE} {t u v : TS} {c d : TT} {i : Nat} {x y z : V} {r : R2} {K : PySem.W.Frag}
theorem k_seq (h : t { D with nx := u D } σ H) : tSeq t u D σ H := h
theorem k_next (h : D.nx σ H) : tNext D σ H := h
theorem k_asg (h : te σ H fun x H1 => D.nx (σ.set i (some x)) H1) : tAsg te (gName i) D σ H := h
theorem k_drop (h : te σ H fun _ H1 => D.nx σ H1) : tDrop te D σ H := h
theorem k_ret (h : te σ H D.rt) : tRet te D σ H := h
theorem k_retN (h : D.rt .non H) : tRetN D σ H := h
theorem k_if (h : c σ H fun b H1 => if b = true then t D σ H1 else u D σ H1) : tIfS c t u D σ H := h
theorem k_var (h : σ[i]? = some (some x)) (q : Q x H) : tVar i σ H Q := ⟨x, h, q⟩
theorem k_c (q : Q x H) : tC x σ H Q := q
theorem k_op (h : ta σ H fun x H1 => tb σ H1 fun y H2 => r x y H2 Q) : tOp r ta tb σ H Q := h
theorem k_un {r : V → Hp → VK → Prop} (h : ta σ H fun x H1 => r x H1 Q) : tUn r ta σ H Q := h
theorem k_I0 {g : Int → Int → V} {a b : Int} (q : Q (g a b) H) : rI0 g (.int a) (.int b) H Q := ⟨a, b, rfl, rfl, q⟩
theorem k_I {C : Int → Int → Prop} {g : Int → Int → V} {a b : Int} (hc : C a b) (q : Q (g a b) H) : rI C g (.int a) (.int b) H Q := ⟨a, b, rfl, rfl, hc, q⟩
theorem k_U {g : Int → V} {a : Int} (q : Q (g a) H) : rU g (.int a) H Q := ⟨a, rfl, q⟩
theorem k_and1 {a : Int} (q : Q (.int (a % 2)) H) : rAnd1 (.int a) (.int 1) H Q := ⟨a, rfl, rfl, q⟩
theorem k_eqI {a b : Int} (q : Q (.bl (decide (a = b))) H) : rEq (.int a) (.int b) H Q := ⟨rfl, by
  have e : decide ((V.int a : V) = V.int b) = decide (a = b) := by simp
  rw [e]; exact q⟩
theorem k_neI {a b : Int} (q : Q (.bl (!decide (a = b))) H) : rNe (.int a) (.int b) H Q := ⟨rfl, by
  have e : decide ((V.int a : V) = V.int b) = decide (a = b) := by simp
  rw [e]; exact q⟩
theorem k_eq (hs : scal x y = true) (q : Q (.bl (decide (x = y))) H) : rEq x y H Q := ⟨hs, q⟩
theorem k_ne (hs : scal x y = true) (q : Q (.bl (!decide (x = y))) H) : rNe x y H Q := ⟨hs, q⟩
theorem k_isN (q : Q (.bl (decide (x = .non))) H) : rIsN x .non H Q := ⟨rfl, q⟩
theorem k_notN (q : Q (.bl (!decide (x = .non))) H) : rNotN x .non H Q := ⟨rfl, q⟩
def BlK (Qb : Bool → Hp → Prop) (x : V) (H : Hp) : Prop := ∃ k, x = .bl k ∧ Qb k H
theorem k_test (h : te σ H (BlK Qb)) : tTest te σ H Qb := h
theorem k_tB (h : te σ H (BlK Qb)) : tB te σ H Qb := h
theorem k_bl {b : Bool} (q : Qb b H) : BlK Qb (V.bl b) H := ⟨b, rfl, q⟩
theorem k_and (h : c σ H fun b H1 => if b = true then d σ H1 Qb else Qb false H1) : tAnd c d σ H Qb := h
theorem k_or (h : c σ H fun b H1 => if b = true then Qb true H1 else d σ H1 Qb) : tOr c d σ H Qb := h
theorem k_not (h : c σ H fun b H1 => Qb (!b) H1) : tNot c σ H Qb := h
def ChainK (Q : VK) (u : Hp → Prop) (z : V) (H : Hp) : Prop := ∃ k, z = .bl k ∧ (if k = true then u H else Q (.bl false) H)
theorem k_chain {r' : R2} {tc : TE} (h : ta σ H fun x H1 => tb σ H1 fun y H2 => r x y H2 (ChainK Q fun H3 => tc σ H3 fun w H4 => r' y w H4 Q)) : tChain r r' ta tb tc σ H Q := h
theorem k_chainE {u : Hp → Prop} {b : Bool} (h : if b = true then u H else Q (.bl false) H) : ChainK Q u (.bl b) H := ⟨b, rfl, h⟩
theorem k_andV (h : ta σ H (BlK fun k H1 => if k = true then tb σ H1 Q else Q (.bl false) H1)) : tAndV ta tb σ H Q := h
theorem k_orV (h : ta σ H (BlK fun k H1 => if k = true then Q (.bl true) H1 else tb σ H1 Q)) : tOrV ta tb σ H Q := h
theorem k_notV (h : ta σ H (BlK fun k H1 => Q (.bl (!k)) H1)) : tNotV ta σ H Q := h
theorem k_ifE (h : c σ H fun b H1 => if b = true then ta σ H1 Q else tb σ H1 Q) : tIf c ta tb σ H Q := h
theorem k_cons {Qv : List V → Hp → Prop} {tr : TA} (h : ta σ H fun x H1 => tr σ H1 fun xs H2 => Qv (x :: xs) H2) : tCons ta tr σ H Qv := h
theorem k_nil {Qv : List V → Hp → Prop} (h : Qv [] H) : tNil σ H Qv := h
theorem k_call {sp : Sp} {dvs : List V} {E : XK} {tr : TA} (h : tr σ H fun vs H1 => sp (vs ++ dvs) H1 Q E) : tCall sp dvs E tr σ H Q := h
theorem k_cb {rc : List V → Hp → VK → Prop} {tr : TA} (h : tr σ H fun vs H1 => rc vs H1 Q) : tCB rc tr σ H Q := h
theorem k_tup {tr : TA} (h : tr σ H fun xs H1 => xs.length ≤ sizeLine ∧ ∀ p, H1 p = none → Q (.ref p) (upd H1 p (.tup xs))) : tTup tr σ H Q := h
theorem k_lst {tr : TA} (h : tr σ H fun xs H1 => xs.length ≤ sizeLine ∧ ∀ p, H1 p = none → Q (.ref p) (upd H1 p (.lst xs))) : tLst tr σ H Q := h
theorem k_disp {A : Prop} {xs : List V} (h : xs.length ≤ 1000) (q : A) : xs.length ≤ sizeLine ∧ A := ⟨Nat.le_trans h (by decide), q⟩
theorem k_aug {ti : TIp} (hx : σ[i]? = some (some x)) (h : te σ H fun y H1 => ti x y H1 fun z H2 => D.nx (σ.set i (some z)) H2) : tAug i te ti D σ H := ⟨x, hx, h⟩
theorem k_ipI {f : Int → Int → Int} {a b : Int} (q : Q (.int (f a b)) H) : ipI f (.int a) (.int b) H Q := ⟨a, b, rfl, rfl, q⟩
theorem k_sl {rs : V → Option Int → Option Int → Hp → VK → Prop} {tl th : TO} (h : te σ H fun x H1 => tl σ H1 fun l H2 => th σ H2 fun u H3 => rs x l u H3 Q) : tSl rs te tl th σ H Q := h
def PartK (Qo : Option Int → Hp → Prop) (x : V) (H : Hp) : Prop := ∃ j, x = .int j ∧ Qo (some j) H
theorem k_part {Qo : Option Int → Hp → Prop} (h : te σ H (PartK Qo)) : tPart te σ H Qo := h
theorem k_partE {Qo : Option Int → Hp → Prop} {a : Int} (h : Qo (some a) H) : PartK Qo (.int a) H := ⟨a, rfl, h⟩
theorem k_noPart {Qo : Option Int → Hp → Prop} (h : Qo none H) : tNoPart σ H Qo := h
theorem k_bm {T : String} {rm : V → List V → Hp → VK → Prop} {tr : TA} (h : te σ H fun x H1 => tyV K T x H1 ∧ tr σ H1 fun xs H2 => rm x xs H2 Q) : tBM K T rm te tr σ H Q := h
theorem k_bm0 {T : String} {rm : V → List V → Hp → VK → Prop} (h : te σ H fun x H1 => tyV K T x H1 ∧ rm x [] H1 Q) : tBM0 K T rm te σ H Q := h
theorem k_app {l : Addr} {xs : List V} (h : H l = some (.lst xs)) (hl : xs.length < 100000) (q : Q .non (upd H l (.lst (xs ++ [y])))) : rAppend (.ref l) [y] H Q := ⟨l, xs, y, rfl, rfl, h, Nat.lt_of_lt_of_le hl (by decide), q⟩
theorem k_tyL {l : Addr} {xs : List V} {A : Prop} (h : SqL K H l xs) (q : A) : tyV K "list" (.ref l) H ∧ A := ⟨.inl ⟨rfl, _, h⟩, q⟩
theorem k_ixL {p : Addr} {xs : List V} {a : Int} (h : SqL K H p xs) (e : atI xs a = some x) (q : Q x H) : rIxL K (.ref p) (.int a) H Q := ⟨p, xs, a, x, rfl, rfl, h, e, q⟩
theorem k_ixT {p : Addr} {xs : List V} {a : Int} (h : SqT K H p xs) (e : atI xs a = some x) (q : Q x H) : rIxT K (.ref p) (.int a) H Q := ⟨p, xs, a, x, rfl, rfl, h, e, q⟩
theorem k_slL {p : Addr} {xs : List V} {lo hi : Option Int} (h : SqL K H p xs) (q : ∀ l, H l = none → Q (.ref l) (upd H l (.lst (cutV xs lo hi)))) : rSlL K (.ref p) lo hi H Q := ⟨p, xs, rfl, h, q⟩
def rLen (K : PySem.W.Frag) : List V → Hp → VK → Prop := fun xs H Q => ∃ p ys, xs = [.ref p] ∧ (SqL K H p ys ∨ SqT K H p ys) ∧ Q (.int ys.length) H
theorem call_lenK {X : Cx} : CallR X (.builtin "len") (rLen X.K) := call_len_seq
theorem k_lenL {p : Addr} {xs : List V} (h : SqL K H p xs) (q : Q (.int (xs.length : Int)) H) : rLen K [.ref p] H Q := ⟨p, xs, rfl, .inl h, q⟩
theorem k_lenT {p : Addr} {xs : List V} (h : SqT K H p xs) (q : Q (.int (xs.length : Int)) H) : rLen K [.ref p] H Q := ⟨p, xs, rfl, .inr h, q⟩
def rInsert : V → List V → Hp → VK → Prop := fun x vs H Q => ∃ (l : Addr) (xs : List V) (i : Int) (y : V), x = .ref l ∧ vs = [.int i, y] ∧ H l = some (.lst xs) ∧ xs.length < sizeLine ∧ 0 ≤ i ∧ i < 2 ^ 63 ∧ Q .non (upd H l (.lst (xs.take i.toNat ++ [y] ++ xs.drop i.toNat)))
theorem k_insert {l : Addr} {xs : List V} {i : Nat} (h : H l = some (.lst xs)) (hz : xs.length ≤ 100000) (hi : i ≤ 100000) (q : Q .non (upd H l (.lst (xs.take i ++ [y] ++ xs.drop i)))) : rInsert (.ref l) [.int (i : Int), y] H Q := ⟨l, xs, i, y, rfl, rfl, h, Nat.lt_of_le_of_lt hz (by decide), by omega, by omega, by rw [Int.toNat_natCast]; exact q⟩
theorem k_popAt {l : Addr} {xs : List V} {i : Nat} (h : H l = some (.lst xs)) (hi : i < xs.length) (hz : xs.length ≤ 100000) (e : xs[i]? = some y) (q : Q y (upd H l (.lst (xs.eraseIdx i)))) : rPopAt (.ref l) [.int (i : Int)] H Q := ⟨l, xs, i, i, y, rfl, rfl, h, by omega, by omega, by unfold PySem.seqIndex?; simp; omega, e, q⟩
theorem k_clear {l : Addr} {xs : List V} (h : H l = some (.lst xs)) (q : Q .non (upd H l (.lst []))) : rClear (.ref l) [] H Q := ⟨l, xs, rfl, rfl, h, q⟩
theorem k_extend {l b : Addr} {xs zs : List V} (h : H l = some (.lst xs)) (h2 : H b = some (.lst zs)) (hn : xs.length + zs.length ≤ 1000000) (q : Q .non (upd H l (.lst (xs ++ zs)))) : rExtend (.ref l) [.ref b] H Q := ⟨l, b, xs, zs, rfl, rfl, h, h2, Nat.le_trans hn (by decide), q⟩
theorem k_pop {l : Addr} {xs : List V} (h : H l = some (.lst (xs ++ [y]))) (q : Q y (upd H l (.lst xs))) : rPop (.ref l) [] H Q := ⟨l, xs ++ [y], y, rfl, rfl, h, by simp, by rw [List.dropLast_concat]; exact q⟩
def rInt1 : List V → Hp → VK → Prop := fun xs H Q => (∃ i, xs = [.int i] ∧ Q (.int i) H) ∨ ∃ k : Bool, xs = [.bl k] ∧ Q (.int (if k then 1 else 0)) H
theorem k_intB {k : Bool} (q : Q (.int (if k then 1 else 0)) H) : rInt1 [.bl k] H Q := .inr ⟨k, rfl, q⟩
def rTupOf (K : PySem.W.Frag) : List V → Hp → VK → Prop := fun xs H Q => ∃ p ys, xs = [.ref p] ∧ ((SqL K H p ys ∧ ∀ l, H l = none → Q (.ref l) (upd H l (.tup ys))) ∨ (SqT K H p ys ∧ Q (.ref p) H))
theorem call_tupK {X : Cx} : CallR X (.type "tuple") (rTupOf X.K) := call_tuple_of
theorem k_tupL {p : Addr} {xs : List V} (h : SqL K H p xs) (q : ∀ l, H l = none → Q (.ref l) (upd H l (.tup xs))) : rTupOf K [.ref p] H Q := ⟨p, xs, rfl, .inl ⟨h, q⟩⟩
def rLenStr : List V → Hp → VK → Prop := fun xs H Q => ∃ z : Str, xs = [.str z] ∧ z.length ≤ sizeLine ∧ Q (.int z.length) H
def rAddStr : R2 := fun x y H Q => ∃ i j : Str, x = .str i ∧ y = .str j ∧ i.length + j.length ≤ sizeLine ∧ Q (.str (i ++ j)) H
def rAbs : List V → Hp → VK → Prop := fun xs H Q => ∃ i, xs = [.int i] ∧ Q (.int (if i < 0 then -i else i)) H
theorem k_abs {a : Int} (q : Q (.int (if a < 0 then -a else a)) H) : rAbs [.int a] H Q := ⟨a, rfl, q⟩
def rMin2 : List V → Hp → VK → Prop := fun xs H Q => ∃ i j, xs = [.int i, .int j] ∧ Q (.int (if j < i then j else i)) H
def rMax2 : List V → Hp → VK → Prop := fun xs H Q => ∃ i j, xs = [.int i, .int j] ∧ Q (.int (if j > i then j else i)) H
theorem call_min2K {X : Cx} (hc : X.calm = true) : CallR X (.builtin "min") rMin2 := call_min2 hc
theorem call_max2K {X : Cx} (hc : X.calm = true) : CallR X (.builtin "max") rMax2 := call_max2 hc
theorem k_min2 {a b : Int} (q : Q (.int (if b < a then b else a)) H) : rMin2 [.int a, .int b] H Q := ⟨a, b, rfl, q⟩
theorem k_max2 {a b : Int} (q : Q (.int (if b > a then b else a)) H) : rMax2 [.int a, .int b] H Q := ⟨a, b, rfl, q⟩
def rListOf (K : PySem.W.Frag) : List V → Hp → VK → Prop := fun xs H Q => ∃ p ys, xs = [.ref p] ∧ (SqL K H p ys ∨ SqT K H p ys) ∧ ∀ l, H l = none → Q (.ref l) (upd H l (.lst ys))
theorem call_listK {X : Cx} : CallR X (.type "list") (rListOf X.K) := call_list_of
theorem k_listL {p : Addr} {xs : List V} (h : SqL K H p xs) (q : ∀ l, H l = none → Q (.ref l) (upd H l (.lst xs))) : rListOf K [.ref p] H Q := ⟨p, xs, rfl, .inl h, q⟩
theorem k_sum {p : Addr} {ns : List Int} (h : SqL K H p (ns.map V.int)) (q : Q (.int ns.sum) H) : rSum K [.ref p] H Q := ⟨p, ns, rfl, h, q⟩
theorem k_isInt {a : Int} (q : Q (.bl true) H) : rIsB [.int a, .ty "int"] H Q := ⟨.int a, "int", rfl, "int", true, fun _ => .base (.int a), by decide +kernel, q⟩
theorem k_isBool {a : Int} (q : Q (.bl false) H) : rIsB [.int a, .ty "bool"] H Q := ⟨.int a, "bool", rfl, "int", false, fun _ => .base (.int a), by decide +kernel, q⟩
theorem k_isBoolB {b : Bool} (q : Q (.bl true) H) : rIsB [.bl b, .ty "bool"] H Q := ⟨.bl b, "bool", rfl, "bool", true, fun _ => .base (.bl b), by decide +kernel, q⟩
theorem k_isIntB {b : Bool} (q : Q (.bl true) H) : rIsB [.bl b, .ty "int"] H Q := ⟨.bl b, "int", rfl, "bool", true, fun _ => .base (.bl b), by decide +kernel, q⟩
theorem k_isIntN (q : Q (.bl false) H) : rIsB [.non, .ty "int"] H Q := ⟨.non, "int", rfl, "NoneType", false, fun _ => .base .non, by decide +kernel, q⟩
theorem k_isList {a : Addr} {xs : List V} (h : H a = some (.lst xs)) (q : Q (.bl true) H) : rIsB [.ref a, .ty "list"] H Q := ⟨.ref a, "list", rfl, "list", true, fun _ => .base (.lst h), by decide +kernel, q⟩
theorem k_isTup {a : Addr} {xs : List V} (h : H a = some (.tup xs)) (q : Q (.bl true) H) : rIsB [.ref a, .ty "tuple"] H Q := ⟨.ref a, "tuple", rfl, "tuple", true, fun _ => .base (.tup h), by decide +kernel, q⟩
/-! ends -/
theorem k_nx {nx : L2.St → Hp → Prop} {rt : VK} {bk ct : L2.St → Hp → Prop} (h : nx σ H) : (Ends.mk nx rt bk ct).nx σ H := h
theorem k_rt {nx : L2.St → Hp → Prop} {rt : VK} {bk ct : L2.St → Hp → Prop} (h : rt x H) : (Ends.mk nx rt bk ct).rt x H := h
/-! ifs -/
theorem k_dec {p A B : Prop} [Decidable p] (h1 : p → A) (h2 : ¬ p → B) : if decide p = true then A else B := by
  by_cases h : p
  · rw [if_pos (decide_eq_true h)]; exact h1 h
  · rw [if_neg (fun z => h (of_decide_eq_true z))]; exact h2 h
theorem k_ndec {p A B : Prop} [Decidable p] (h1 : ¬ p → A) (h2 : p → B) : if (!decide p) = true then A else B := by
  by_cases h : p
  · rw [if_neg (by rw [decide_eq_true h]; decide)]; exact h2 h
  · rw [if_pos (by rw [decide_eq_false h]; decide)]; exact h1 h
theorem k_decT {p A B : Prop} [Decidable p] (h : p) (q : A) : if decide p = true then A else B := k_dec (fun _ => q) (fun z => absurd h z)
theorem k_decF {p A B : Prop} [Decidable p] (h : ¬ p) (q : B) : if decide p = true then A else B := k_dec (fun z => absurd z h) (fun _ => q)
theorem k_ndecT {p A B : Prop} [Decidable p] (h : p) (q : B) : if (!decide p) = true then A else B := k_ndec (fun z => absurd h z) (fun _ => q)
theorem k_ndecF {p A B : Prop} [Decidable p] (h : ¬ p) (q : A) : if (!decide p) = true then A else B := k_ndec (fun _ => q) (fun z => absurd z h)
theorem k_yes (h : Qb true H) : tYes σ H Qb := h
theorem k_T {A B : Prop} (q : A) : if true = true then A else B := iteT q
theorem k_F {A B : Prop} (q : B) : if false = true then A else B := iteF q
theorem k_nT {A B : Prop} (q : B) : if (!true) = true then A else B := iteF q
theorem k_nF {A B : Prop} (q : A) : if (!false) = true then A else B := iteT q
end
/-! ### items -/
theorem at_nat {α : Type} {xs : List α} {i : Nat} {x : α} (h : xs[i]? = some x) : atI xs (i : Int) = some x := atI_nat h
theorem at_int {α : Type} {xs : List α} {i : Int} {x : α} (h0 : 0 ≤ i) (h : xs[i.toNat]? = some x) : atI xs i = some x := by
  have e : i = ((i.toNat : Nat) : Int) := by omega
  rw [e]; exact atI_nat h
theorem mapint {ns : List Int} {i : Nat} {n : Int} (h : ns[i]? = some n) : (ns.map V.int)[i]? = some (.int n) := by
  rw [List.getElem?_map, h]; rfl
theorem of_mapint {ns : List Int} {i : Nat} {v : V} (h : (ns.map V.int)[i]? = some v) : ∃ n, ns[i]? = some n ∧ v = .int n := by
  rw [List.getElem?_map] at h
  cases e : ns[i]? with
  | none => rw [e] at h; cases h
  | some n => rw [e] at h; exact ⟨n, rfl, (Option.some.inj h).symm⟩
theorem cutTake (xs : List V) (n : Nat) : cutV xs none (some (n : Int)) = xs.take n := by
  unfold cutV
  rw [HT.sIx_none, HT.sIx_nat, List.drop_zero, Nat.sub_zero]
  rcases Nat.le_total n xs.length with h | h
  · rw [Nat.min_eq_left h]
  · rw [Nat.min_eq_right h, List.take_length, List.take_of_length_le h]
/-! ### steps on ends that are written out; loops -/
section
variable {σ : L2.St} {H : Hp} {Q rt : VK} {nx bk ct : L2.St → Hp → Prop} {t u tb : TS} {g : TG} {wi : TI} {c : TT} {i : Nat} {x : V} {K : PySem.W.Frag}
theorem m_seq (h : t (Ends.mk (u (Ends.mk nx rt bk ct)) rt bk ct) σ H) : tSeq t u (Ends.mk nx rt bk ct) σ H := h
theorem m_cut (Mid : L2.St → Hp → Prop) (h : t (Ends.mk Mid rt bk ct) σ H) (k : ∀ σ' H', Mid σ' H' → u (Ends.mk nx rt bk ct) σ' H') : Evl.tCut t u (Ends.mk nx rt bk ct) σ H := ⟨Mid, h, k⟩
theorem m_cut0 (h : t (Ends.mk (u (Ends.mk nx rt bk ct)) rt bk ct) σ H) : Evl.tCut t u (Ends.mk nx rt bk ct) σ H := ⟨_, h, fun _ _ x => x⟩
theorem m_bk (h : bk σ H) : tBreak (Ends.mk nx rt bk ct) σ H := h
theorem m_ct (h : ct σ H) : tCont (Ends.mk nx rt bk ct) σ H := h
theorem m_next (h : nx σ H) : tNext (Ends.mk nx rt bk ct) σ H := h
theorem m_gName {Qs : L2.St → Hp → Prop} (h : Qs (σ.set i (some x)) H) : gName i x σ H Qs := h
theorem m_call {sp : Sp} {E : XK} {tr : TA} (h : tr σ H fun vs H1 => sp vs H1 Q E) : tCall sp [] E tr σ H Q := by
  have e : (fun (vs : List V) (H1 : Hp) => sp (vs ++ []) H1 Q E) = fun vs H1 => sp vs H1 Q E := by
    funext vs H1; rw [List.append_nil]
  show tr σ H fun vs H1 => sp (vs ++ []) H1 Q E
  rw [e]; exact h
/-- a for loop over what J yields -/
def LoopOk (J : It) (g : TG) (tb : TS) (nx : L2.St → Hp → Prop) (rt : VK) (σ : L2.St) (H : Hp) : Prop :=
  ∃ W : Nat → Nat → L2.St → Hp → Prop, (∃ m, W 0 m σ H) ∧ ∀ i m σ H, W i m σ H →
  (J.stop i H ∧ nx σ H) ∨ (J.go i H ∧ ∃ N : L2.St → Hp → Prop, (∀ σ' H', N σ' H' → ∃ m', m' < m ∧ W (i + 1) m' σ' H') ∧ ∀ x H', J.yld i H x H' → g x σ H' fun σ2 H2 => tb (Ends.mk N rt nx N) σ2 H2)
theorem m_for (h : wi σ H fun J H1 => LoopOk J g tb nx rt σ H1) : tFor wi g tb (Ends.mk nx rt bk ct) σ H := h
def Rng1K (R : It → Hp → Prop) (vs : List V) (H : Hp) : Prop := ∃ j : Int, vs = [.int j] ∧ -(2 ^ 62) ≤ j ∧ j < 2 ^ 62 ∧ R (Itr 0 j.toNat) H
theorem m_rng1 {ta : TA} {R : It → Hp → Prop} (h : ta σ H (Rng1K R)) : iRng1 ta σ H R := h
theorem m_rng1e {R : It → Hp → Prop} {a : Int} (h1 : -(2 ^ 62) ≤ a ∧ a < 2 ^ 62) (h : R (Itr 0 a.toNat) H) : Rng1K R [V.int a] H := ⟨a, rfl, h1.1, h1.2, h⟩
theorem m_rng1n {R : It → Hp → Prop} {a : Nat} (h1 : (a : Int) < 2 ^ 62) (h : R (Itr 0 a) H) : Rng1K R [V.int (a : Int)] H := ⟨a, rfl, by omega, h1, by rw [Int.toNat_natCast]; exact h⟩
def Rng2K (R : It → Hp → Prop) (vs : List V) (H : Hp) : Prop := ∃ i j : Int, vs = [.int i, .int j] ∧ (-(2 ^ 62) ≤ i ∧ i < 2 ^ 62 ∧ -(2 ^ 62) ≤ j ∧ j < 2 ^ 62) ∧ R (Itr i (j - i).toNat) H
theorem m_rng2 {ta : TA} {R : It → Hp → Prop} (h : ta σ H (Rng2K R)) : iRng2 ta σ H R := h
theorem m_rng2e {R : It → Hp → Prop} {a b : Int} (h1 : -(2 ^ 62) ≤ a ∧ a < 2 ^ 62 ∧ -(2 ^ 62) ≤ b ∧ b < 2 ^ 62) (h : R (Itr a (b - a).toNat) H) : Rng2K R [V.int a, V.int b] H := ⟨a, b, rfl, h1, h⟩
def ListK (K : PySem.W.Frag) (R : It → Hp → Prop) (x : V) (H : Hp) : Prop := ∃ a, x = .ref a ∧ (∃ xs, SqL K H a xs) ∧ R (Itl K a) H
theorem m_iL {tl : TE} {R : It → Hp → Prop} (h : tl σ H (ListK K R)) : iList K tl σ H R := h
theorem m_iLe {R : It → Hp → Prop} {a : Addr} {xs : List V} (hx : SqL K H a xs) (h : R (Itl K a) H) : ListK K R (V.ref a) H := ⟨a, rfl, ⟨xs, hx⟩, h⟩
def TupK (K : PySem.W.Frag) (R : It → Hp → Prop) (x : V) (H : Hp) : Prop := ∃ a, x = .ref a ∧ (∃ xs, SqT K H a xs) ∧ R (Itt K a) H
theorem m_iT {tl : TE} {R : It → Hp → Prop} (h : tl σ H (TupK K R)) : iTup K tl σ H R := h
theorem m_iTe {R : It → Hp → Prop} {a : Addr} {xs : List V} (hx : SqT K H a xs) (h : R (Itt K a) H) : TupK K R (V.ref a) H := ⟨a, rfl, ⟨xs, hx⟩, h⟩
def iSeq (K : PySem.W.Frag) (tl : TE) : TI := fun σ H R => iList K tl σ H R ∨ iTup K tl σ H R
theorem m_seqL {tl : TE} {R : It → Hp → Prop} (h : tl σ H (ListK K R)) : iSeq K tl σ H R := .inl h
theorem m_seqT {tl : TE} {R : It → Hp → Prop} (h : tl σ H (TupK K R)) : iSeq K tl σ H R := .inr h
theorem pi_seq {X : Cx} {tg l : Expr} {tl : TE} (hl : PE X l tl) : PI X tg l (iSeq X.K tl) := ⟨fun pins s σ H R I h => h.elim (fun h => (pi_list hl).run pins s σ H R I h) fun h => (pi_tup hl).run pins s σ H R I h⟩
theorem loop_range {lo : Int} {n : Nat} (Pv : Nat → L2.St → Hp → Prop) (h0 : Pv 0 σ H)
    (hs : ∀ i σ H, i < n → Pv i σ H → g (.int (lo + i)) σ H fun σ2 H2 => tb (Ends.mk (Pv (i + 1)) rt nx (Pv (i + 1))) σ2 H2) (hd : ∀ σ H, Pv n σ H → nx σ H) : LoopOk (Itr lo n) g tb nx rt σ H :=
  for_range (D := Ends.mk nx rt nx nx) Pv h0 hs hd
theorem loop_range0 {n : Nat} (Pv : Nat → L2.St → Hp → Prop) (h0 : Pv 0 σ H)
    (hs : ∀ (i : Nat) σ H, i < n → Pv i σ H → g (.int (i : Int)) σ H fun σ2 H2 => tb (Ends.mk (Pv (i + 1)) rt nx (Pv (i + 1))) σ2 H2) (hd : ∀ σ H, Pv n σ H → nx σ H) : LoopOk (Itr 0 n) g tb nx rt σ H :=
  loop_range Pv h0 (fun i σ H hi p => by rw [Int.zero_add]; exact hs i σ H hi p) hd
theorem loop_list {a : Addr} {xs : List V} (Pv : Nat → L2.St → Hp → Prop) (h0 : Pv 0 σ H) (hl : ∀ i σ H, i ≤ xs.length → Pv i σ H → SqL K H a xs)
    (hs : ∀ i x σ H, xs[i]? = some x → Pv i σ H → g x σ H fun σ2 H2 => tb (Ends.mk (Pv (i + 1)) rt nx (Pv (i + 1))) σ2 H2) (hd : ∀ σ H, Pv xs.length σ H → nx σ H) : LoopOk (Itl K a) g tb nx rt σ H :=
  for_list (D := Ends.mk nx rt nx nx) Pv h0 hl hs hd
/-- over a list of ints -/
theorem loop_ints {a : Addr} {ns : List Int} (Pv : Nat → L2.St → Hp → Prop) (h0 : Pv 0 σ H) (hl : ∀ i σ H, Pv i σ H → SqL K H a (ns.map V.int))
    (hs : ∀ i n σ H, ns[i]? = some n → Pv i σ H → g (.int n) σ H fun σ2 H2 => tb (Ends.mk (Pv (i + 1)) rt nx (Pv (i + 1))) σ2 H2) (hd : ∀ σ H, Pv ns.length σ H → nx σ H) : LoopOk (Itl K a) g tb nx rt σ H :=
  loop_list (xs := ns.map V.int) Pv h0 (fun i σ H _ p => hl i σ H p) (fun i x σ H hx p => by
    obtain ⟨n, hn, rfl⟩ := of_mapint hx
    exact hs i n σ H hn p) (fun σ H p => hd σ H (by rw [List.length_map] at p; exact p))
theorem loop_tup {a : Addr} {xs : List V} (Pv : Nat → L2.St → Hp → Prop) (h0 : Pv 0 σ H) (hl : ∀ i σ H, i ≤ xs.length → Pv i σ H → SqT K H a xs)
    (hs : ∀ i x σ H, xs[i]? = some x → Pv i σ H → g x σ H fun σ2 H2 => tb (Ends.mk (Pv (i + 1)) rt nx (Pv (i + 1))) σ2 H2) (hd : ∀ σ H, Pv xs.length σ H → nx σ H) : LoopOk (Itt K a) g tb nx rt σ H :=
  for_tup (D := Ends.mk nx rt nx nx) Pv h0 hl hs hd
def WBody (W : Nat → L2.St → Hp → Prop) (m : Nat) (tb : TS) (rt : VK) (nx : L2.St → Hp → Prop) (σ : L2.St) (H : Hp) : Prop :=
  ∃ N : L2.St → Hp → Prop, (∀ σ' H', N σ' H' → ∃ m', m' < m ∧ W m' σ' H') ∧ tb (Ends.mk N rt nx N) σ H
theorem m_wbody {W : Nat → L2.St → Hp → Prop} {m : Nat} (h : tb (Ends.mk (fun σ' H' => ∃ m', m' < m ∧ W m' σ' H') rt nx (fun σ' H' => ∃ m', m' < m ∧ W m' σ' H')) σ H) : WBody W m tb rt nx σ H := ⟨_, fun _ _ h => h, h⟩
theorem loop_while (W : Nat → L2.St → Hp → Prop) (m : Nat) (h0 : W m σ H)
    (hs : ∀ m σ H, W m σ H → c σ H fun b H1 => if b = true then WBody W m tb rt nx σ H1 else nx σ H1) : tWhile c tb (Ends.mk nx rt bk ct) σ H := ⟨W, ⟨m, h0⟩, hs⟩
/-- a comprehension over what J yields -/
def CompOk (J : It) (g : TG) (tt : TT) (te : TE) (vs : List Nat) (σ : L2.St) (H1 : Hp) (Q : VK) : Prop :=
  ∀ D, H1 D = none → ∃ W : Nat → Nat → Hp → Prop, (∃ m, W 0 m (upd H1 D (.lst []))) ∧ ∀ i m H, W i m H →
  (J.stop i H ∧ Q (.ref D) H) ∨ (J.go i H ∧ ∃ Nx : Hp → Prop, (∀ H', Nx H' → ∃ m', m' < m ∧ W (i + 1) m' H') ∧ ∀ x H', J.yld i H x H' → g x (wipe σ vs) H' fun σ2 H2 => wipe σ2 vs = wipe σ vs ∧ tt σ2 H2 fun b H3 =>
    if b = true then te σ2 H3 fun y H4 => ∃ acc, H4 D = some (.lst acc) ∧ acc.length < sizeLine ∧ Nx (upd H4 D (.lst (acc ++ [y]))) else Nx H3)
theorem m_lc {tt : TT} {te : TE} {vs : List Nat} (h : wi σ H fun J H1 => CompOk J g tt te vs σ H1 Q) : tLc wi g tt te vs σ H Q := h
/-- over a range, no test, pure elements f i: the list made -/
theorem comp_rangeV {n : Nat} {te : TE} {j : Nat} {f : Nat → V} (hn : n ≤ 100000)
    (he : ∀ (k : Nat) (H2 : Hp) (Q2 : VK), k < n → Same H H2 → (∀ H3, Same H2 H3 → Q2 (f k) H3) → te ((wipe σ [j]).set j (some (.int (k : Int)))) H2 Q2)
    (q : ∀ p H', H p = none → Same H H' → H' p = some (.lst ((List.range n).map f)) → Q (.ref p) H') (hw : ∀ x, wipe ((wipe σ [j]).set j (some x)) [j] = wipe σ [j] := by intro _; rfl) : CompOk (Itr 0 n) (gName j) tYes te [j] σ H Q := by
  intro Dl hD
  refine lc_range (lo := 0) (n := n) (fun i H' => Same H H' ∧ H' Dl = some (.lst ((List.range i).map f))) ⟨same_new hD, upd_same⟩ (fun i H' hi p => ?_) (fun H' p => q Dl H' hD p.1 p.2)
  obtain ⟨p1, p2⟩ := p
  refine ⟨hw _, ?_⟩
  refine k_yes (iteT ?_)
  rw [Int.zero_add]
  refine he i H' _ hi p1 (fun H3 s3 => ⟨_, s3.get p2, ?_, Same.mut (p1.trans s3) hD ⟨_, s3.get p2⟩, ?_⟩)
  · rw [List.length_map, List.length_range]; exact Nat.lt_of_lt_of_le (Nat.lt_of_lt_of_le hi hn) (by decide)
  · rw [upd_same, List.range_succ, List.map_append]; rfl
/-- over a list, no test, pure elements -/
theorem comp_listV {a : Addr} {xs ys : List V} {te : TE} {j : Nat} (hl : SqL K H a xs) (hn : xs.length ≤ 100000) (hy : ys.length = xs.length)
    (he : ∀ (k : Nat) (x y : V) (H2 : Hp) (Q2 : VK), xs[k]? = some x → ys[k]? = some y → Same H H2 → (∀ H3, Same H2 H3 → Q2 y H3) → te ((wipe σ [j]).set j (some x)) H2 Q2)
    (q : ∀ p H', H p = none → Same H H' → H' p = some (.lst ys) → Q (.ref p) H') (hw : ∀ x, wipe ((wipe σ [j]).set j (some x)) [j] = wipe σ [j] := by intro _; rfl) : CompOk (Itl K a) (gName j) tYes te [j] σ H Q := by
  intro Dl hD
  refine lc_list (xs := xs) (fun i H' => Same H H' ∧ H' Dl = some (.lst (ys.take i))) ⟨same_new hD, upd_same⟩ (fun i H' _ p => p.1.seq hl) (fun i x H' hi p => ?_) (fun H' p => q Dl H' hD p.1 (by rw [p.2, ← hy, List.take_length]))
  obtain ⟨p1, p2⟩ := p
  refine ⟨hw _, ?_⟩
  refine k_yes (iteT ?_)
  have hlt : i < xs.length := (List.getElem?_eq_some_iff.mp hi).1
  obtain ⟨y, ey⟩ : ∃ y, ys[i]? = some y := ⟨ys[i]'(by omega), List.getElem?_eq_getElem (by omega)⟩
  refine he i x y H' _ hi ey p1 (fun H3 s3 => ⟨_, s3.get p2, ?_, Same.mut (p1.trans s3) hD ⟨_, s3.get p2⟩, ?_⟩)
  · rw [List.length_take]; exact Nat.lt_of_le_of_lt (Nat.min_le_right _ _) (Nat.lt_of_lt_of_le (show ys.length < 100001 by omega) (by decide))
  · rw [upd_same, List.take_add_one, ey]; rfl
/-- over a list, no test, elements of which something is known -/
theorem comp_listP {a : Addr} {xs : List V} {te : TE} {j : Nat} (P : Nat → V → Prop) (hl : SqL K H a xs) (hn : xs.length ≤ 100000)
    (he : ∀ (k : Nat) (x : V) (H2 : Hp) (Q2 : VK), xs[k]? = some x → Same H H2 → (∀ y H3, P k y → Same H2 H3 → Q2 y H3) → te ((wipe σ [j]).set j (some x)) H2 Q2)
    (q : ∀ p H' ys, H p = none → Same H H' → H' p = some (.lst ys) → ys.length = xs.length → (∀ k y, ys[k]? = some y → P k y) → Q (.ref p) H') (hw : ∀ x, wipe ((wipe σ [j]).set j (some x)) [j] = wipe σ [j] := by intro _; rfl) : CompOk (Itl K a) (gName j) tYes te [j] σ H Q := by
  intro Dl hD
  refine lc_list (xs := xs) (fun i H' => Same H H' ∧ ∃ ys, H' Dl = some (.lst ys) ∧ ys.length = i ∧ ∀ k y, ys[k]? = some y → P k y) ⟨same_new hD, [], upd_same, rfl, fun k y e => by simp at e⟩ (fun i H' _ p => p.1.seq hl) (fun i x H' hi p => ?_) (fun H' p => ?_)
  · obtain ⟨p1, ys, p2, p3, p4⟩ := p
    refine ⟨hw _, ?_⟩
    refine k_yes (iteT ?_)
    have hlt : i < xs.length := (List.getElem?_eq_some_iff.mp hi).1
    refine he i x H' _ hi p1 (fun y H3 hy s3 => ⟨_, s3.get p2, by rw [p3]; exact Nat.lt_of_lt_of_le (Nat.lt_of_lt_of_le hlt hn) (by decide), Same.mut (p1.trans s3) hD ⟨_, s3.get p2⟩, ys ++ [y], upd_same, by rw [List.length_append, p3]; rfl, fun k z e => ?_⟩)
    rcases Nat.lt_or_ge k ys.length with w | w
    · rw [List.getElem?_append_left w] at e; exact p4 k z e
    · rw [List.getElem?_append_right w] at e
      obtain ⟨h1, h2⟩ := List.getElem?_eq_some_iff.mp e
      rw [List.length_singleton] at h1
      have hk : k = i := by omega
      have e2 : z = y := by
        rw [show k - ys.length = 0 by omega] at e
        exact (Option.some.inj e).symm
      rw [hk, e2]; exact hy
  · obtain ⟨p1, ys, p2, p3, p4⟩ := p
    exact q Dl H' ys hD p1 p2 p3 p4
end
/-! ### loops over any walk -/
section
variable {σ : L2.St} {H : Hp} {Q rt : VK} {nx bk ct : L2.St → Hp → Prop} {t u tb : TS} {g : TG} {i : Nat} {x : V} {K : PySem.W.Frag} {J : It} {n : Nat} {G : Hp → Prop} {Y : Nat → Hp → V → Hp → Prop}
theorem loop_walk (w : Walk J n G Y) (Pv : Nat → L2.St → Hp → Prop) (h0 : Pv 0 σ H) (hG : ∀ i σ H, Pv i σ H → G H)
    (hs : ∀ i x σ H H', i < n → Pv i σ H → Y i H x H' → g x σ H' fun σ2 H2 => tb (Ends.mk (Pv (i + 1)) rt nx (Pv (i + 1))) σ2 H2) (hd : ∀ σ H, Pv n σ H → nx σ H) : LoopOk J g tb nx rt σ H :=
  for_it (D := Ends.mk nx rt nx nx) w Pv h0 (fun i σ H _ p => hG i σ H p) hs hd
/-- a comprehension with a test: at each turn the item is dropped, or f i is kept -/
theorem comp_walkV {te : TE} {tt : TT} {j : Nat} {f : Nat → Option V} (w : Walk J n G Y) (hn : n ≤ 100000) (hG : ∀ H', Same H H' → G H')
    (he : ∀ (k : Nat) (x : V) (H1 H2 : Hp) (Qb : Bool → Hp → Prop), k < n → Same H H1 → Y k H1 x H2 → (∀ b H3, Same H1 H3 → (b = true → ∀ Q2 : VK, ∀ H4, Same H3 H4 → ∃ y, f k = some y ∧ ((∀ H5, Same H4 H5 → Q2 y H5) → te ((wipe σ [j]).set j (some x)) H4 Q2)) → (b = false → f k = none) → Qb b H3) → tt ((wipe σ [j]).set j (some x)) H2 Qb)
    (q : ∀ p H', H p = none → Same H H' → H' p = some (.lst ((List.range n).filterMap f)) → Q (.ref p) H') (hw : ∀ x, wipe ((wipe σ [j]).set j (some x)) [j] = wipe σ [j] := by intro _; rfl) : CompOk J (gName j) tt te [j] σ H Q := by
  intro Dl hD
  refine lc_it w (fun i H' => Same H H' ∧ H' Dl = some (.lst ((List.range i).filterMap f))) ⟨same_new hD, upd_same⟩ (fun i H' _ p => hG H' p.1) (fun i x H' H'' hi p hy => ?_) (fun H' p => q Dl H' hD p.1 p.2)
  obtain ⟨p1, p2⟩ := p
  refine ⟨hw _, he i x H' H'' _ hi p1 hy (fun b H3 s3 hb1 hb0 => ?_)⟩
  have hl : ((List.range i).filterMap f).length < sizeLine := Nat.lt_of_le_of_lt (List.length_filterMap_le f (List.range i)) (by rw [List.length_range]; exact Nat.lt_of_lt_of_le (Nat.lt_of_lt_of_le hi hn) (by decide))
  cases b with
  | true =>
    refine iteT ?_
    obtain ⟨y, ey, go⟩ := hb1 rfl (fun y H4 => ∃ acc, H4 Dl = some (.lst acc) ∧ acc.length < sizeLine ∧ Same H (upd H4 Dl (.lst (acc ++ [y]))) ∧ upd H4 Dl (.lst (acc ++ [y])) Dl = some (.lst ((List.range (i + 1)).filterMap f))) H3 (Same.refl _)
    refine go fun H5 s5 => ⟨_, s5.get (s3.get p2), hl, Same.mut ((p1.trans s3).trans s5) hD ⟨_, s5.get (s3.get p2)⟩, ?_⟩
    rw [upd_same, List.range_succ, List.filterMap_append]
    show _ = some (HO.lst (_ ++ List.filterMap f [i]))
    rw [List.filterMap_cons, ey]; rfl
  | false =>
    refine iteF ⟨p1.trans s3, ?_⟩
    rw [List.range_succ, List.filterMap_append]
    rw [show List.filterMap f [i] = [] by rw [List.filterMap_cons, hb0 rfl]; rfl, List.append_nil]
    exact s3.get p2
theorem k_rev {a : Addr} {xs : List V} {ta : TA} {R : It → Hp → Prop} (h : ta σ H fun vs H1 => ∃ (a : Addr) (xs : List V), vs = [.ref a] ∧ SqL K H1 a xs ∧ R (Itv K a xs.length) H1) : iRev K ta σ H R := h
def RevK (K : PySem.W.Frag) (R : It → Hp → Prop) (vs : List V) (H : Hp) : Prop := ∃ (a : Addr) (xs : List V), vs = [.ref a] ∧ SqL K H a xs ∧ R (Itv K a xs.length) H
theorem m_rev {ta : TA} {R : It → Hp → Prop} (h : ta σ H (RevK K R)) : iRev K ta σ H R := h
theorem m_revE {a : Addr} {xs : List V} {R : It → Hp → Prop} (hx : SqL K H a xs) (h : R (Itv K a xs.length) H) : RevK K R [.ref a] H := ⟨a, xs, rfl, hx, h⟩
def EnumK (K : PySem.W.Frag) (R : It → Hp → Prop) (vs : List V) (H : Hp) : Prop := ∃ (a : Addr) (xs : List V), vs = [.ref a] ∧ SqL K H a xs ∧ R (Ite K a) H
theorem m_enum {ta : TA} {R : It → Hp → Prop} (h : ta σ H (EnumK K R)) : iEnum K ta σ H R := h
theorem m_enumE {a : Addr} {xs : List V} {R : It → Hp → Prop} (hx : SqL K H a xs) (h : R (Ite K a) H) : EnumK K R [.ref a] H := ⟨a, xs, rfl, hx, h⟩
def ZipK (K : PySem.W.Frag) (R : It → Hp → Prop) (vs : List V) (H : Hp) : Prop := ∃ a b xs ys, vs = [.ref a, .ref b] ∧ SqL K H a xs ∧ SqL K H b ys ∧ R (Itz K a b) H
theorem m_zip {ta : TA} {R : It → Hp → Prop} (h : ta σ H (ZipK K R)) : iZip K ta σ H R := h
theorem m_zipE {a b : Addr} {xs ys : List V} {R : It → Hp → Prop} (hx : SqL K H a xs) (hy : SqL K H b ys) (h : R (Itz K a b) H) : ZipK K R [.ref a, .ref b] H := ⟨a, b, xs, ys, rfl, hx, hy, h⟩
def RevLK (K : PySem.W.Frag) (Q : VK) (x : V) (H : Hp) : Prop := ∃ a xs, x = .ref a ∧ SqL K H a xs ∧ ∀ p, H p = none → Q (.ref p) (upd H p (.lst xs.reverse))
theorem m_revL {te : TE} (h : te σ H (RevLK K Q)) : tRevL K te σ H Q := h
theorem m_revLE {a : Addr} {xs : List V} (hx : SqL K H a xs) (q : ∀ p, H p = none → Q (.ref p) (upd H p (.lst xs.reverse))) : RevLK K Q (.ref a) H := ⟨a, xs, rfl, hx, q⟩
def Rng3K (R : It → Hp → Prop) (vs : List V) (H : Hp) : Prop := ∃ i j c n, vs = [.int i, .int j, .int c] ∧ RgC i j c n ∧ R (Itc i c n) H
theorem m_rng3 {ta : TA} {R : It → Hp → Prop} (h : ta σ H (Rng3K R)) : iRng3 ta σ H R := h
theorem m_rng3e {R : It → Hp → Prop} {a b c : Int} {n : Nat} (h1 : RgC a b c n) (h : R (Itc a c n) H) : Rng3K R [V.int a, V.int b, V.int c] H := ⟨a, b, c, n, rfl, h1, h⟩
/-- targets that are pairs -/
def GTupK (K : PySem.W.Frag) (n : Nat) (tg : TGs) (Qs : L2.St → Hp → Prop) (x : V) (σ : L2.St) (H : Hp) : Prop := ∃ a xs, x = .ref a ∧ SqT K H a xs ∧ xs.length = n ∧ tg xs σ H Qs
theorem m_gTup {tg : TGs} {Qs : L2.St → Hp → Prop} {a : Addr} {xs : List V} (hx : SqT K H a xs) (hn : xs.length = n) (h : tg xs σ H Qs) : gTup K n tg (.ref a) σ H Qs := ⟨a, xs, rfl, hx, hn, h⟩
theorem m_gCons {t1 : TG} {ts : TGs} {Qs : L2.St → Hp → Prop} {xs : List V} (h : t1 x σ H fun σ' H' => ts xs σ' H' Qs) : gCons t1 ts (x :: xs) σ H Qs := ⟨x, xs, rfl, h⟩
theorem m_gNil {Qs : L2.St → Hp → Prop} (h : Qs σ H) : gNil [] σ H Qs := ⟨rfl, h⟩
theorem m_asg {te : TE} (h : te σ H fun x H1 => g x σ H1 nx) : tAsg te g (Ends.mk nx rt bk ct) σ H := h
theorem k_rep {Q : VK} {l : Addr} {xs : List V} {n : Nat} (h : H l = some (.lst xs)) (hn : xs.length * n ≤ 1000000) (hn2 : n ≤ 1000000) (q : ∀ p, H p = none → Q (.ref p) (upd H p (.lst (List.replicate n xs).flatten))) : rRep (.ref l) (.int (n : Int)) H Q :=
  ⟨l, n, xs, rfl, rfl, h, by omega, by omega, by rw [Int.toNat_natCast]; exact Nat.le_trans hn (by decide), by rw [Int.toNat_natCast]; exact q⟩
theorem k_cat {Q : VK} {l b : Addr} {xs zs : List V} (h1 : H l = some (.lst xs)) (h2 : H b = some (.lst zs)) (hn : xs.length + zs.length ≤ 1000000) (q : ∀ p, H p = none → Q (.ref p) (upd H p (.lst (xs ++ zs)))) : rCat (.ref l) (.ref b) H Q :=
  ⟨l, b, xs, zs, rfl, rfl, h1, h2, Nat.le_trans hn (by decide), q⟩
theorem rep_one (x : V) (n : Nat) : (List.replicate n [x]).flatten = List.replicate n x := by
  induction n with
  | zero => rfl
  | succ n ih => rw [List.replicate_succ, List.flatten_cons, ih]; rfl
theorem m_gSub {to ti : TE} {ts : TSet} {Qs : L2.St → Hp → Prop} (h : to σ H fun o H1 => ti σ H1 fun i H2 => ts o i x H2 fun H3 => Qs σ H3) : gSub to ti ts x σ H Qs := h
theorem m_setL {p : Addr} {xs : List V} {k : Int} {j : Nat} {y : V} {Qh : Hp → Prop} (h : H p = some (.lst xs)) (hj : ixN xs.length k = some j) (q : Qh (upd H p (.lst (xs.set j y)))) : rSetL (.ref p) (.int k) y H Qh := ⟨p, xs, k, j, rfl, rfl, h, hj, q⟩
theorem ixN_nat {n : Nat} {k : Int} (h0 : 0 ≤ k) (h1 : k < n) : ixN n k = some k.toNat := by
  unfold ixN; rw [if_pos h0, if_pos h1]
def ParK (nx : L2.St → Hp → Prop) (i j : Nat) (σ : L2.St) (vs : List V) (H : Hp) : Prop := ∃ v w, vs = [v, w] ∧ nx ((σ.set i (some v)).set j (some w)) H
theorem m_par {i j : Nat} {ta : TA} (h : ta σ H (ParK nx i j σ)) : tPar i j ta (Ends.mk nx rt bk ct) σ H := h
theorem m_parE {i j : Nat} {a b : V} (h : nx ((σ.set i (some a)).set j (some b)) H) : ParK nx i j σ [a, b] H := ⟨a, b, rfl, h⟩
theorem k_divmod {Q : VK} {a b : Int} (h : CDivP a b) (q : ∀ p, H p = none → Q (.ref p) (upd H p (.tup [.int (a / b), .int (a % b)]))) : rDivmod [.int a, .int b] H Q := ⟨a, b, rfl, h, q⟩
end
/-! ### what a comprehension with a test leaves -/
theorem fm_head {α : Type} {f : Nat → Option α} : ∀ {n : Nat} {y : α}, ((List.range n).filterMap f)[0]? = some y → ∃ i, i < n ∧ f i = some y ∧ ∀ j, j < i → f j = none
  | 0, y, h => by simp at h
  | n + 1, y, h => by
    rw [List.range_succ, List.filterMap_append] at h
    cases e : (List.range n).filterMap f with
    | cons z zs =>
      rw [e] at h
      have h' : ((List.range n).filterMap f)[0]? = some y := by rw [e]; simpa using h
      obtain ⟨i, h1, h2, h3⟩ := fm_head h'
      exact ⟨i, by omega, h2, h3⟩
    | nil =>
      rw [e, List.nil_append] at h
      have none_all : ∀ j, j < n → f j = none := fun j hj => List.filterMap_eq_nil_iff.mp e j (List.mem_range.mpr hj)
      cases q : f n with
      | none => rw [List.filterMap_cons, q] at h; simp at h
      | some z =>
        rw [List.filterMap_cons, q] at h
        have : z = y := by simpa using h
        subst this
        exact ⟨n, by omega, q, none_all⟩
theorem fm_last {α : Type} {f : Nat → Option α} : ∀ {n : Nat} {y : α} {ys : List α}, (List.range n).filterMap f = ys ++ [y] → ∃ i, i < n ∧ f i = some y ∧ ∀ j, i < j → j < n → f j = none
  | 0, y, ys, h => by simp at h
  | n + 1, y, ys, h => by
    rw [List.range_succ, List.filterMap_append] at h
    cases q : f n with
    | none =>
      rw [show List.filterMap f [n] = [] by rw [List.filterMap_cons, q]; rfl, List.append_nil] at h
      obtain ⟨i, h1, h2, h3⟩ := fm_last h
      refine ⟨i, by omega, h2, fun j h4 h5 => ?_⟩
      rcases Nat.lt_or_ge j n with h6 | h6
      · exact h3 j h4 h6
      · have : j = n := by omega
        subst this; exact q
    | some z =>
      rw [show List.filterMap f [n] = [z] by rw [List.filterMap_cons, q]; rfl] at h
      have e := List.append_inj_right' h rfl
      injection e with e
      subst e
      exact ⟨n, by omega, q, fun j h4 h5 => by omega⟩
theorem fm_nil {α : Type} {f : Nat → Option α} {n : Nat} (h : (List.range n).filterMap f = []) : ∀ j, j < n → f j = none := fun j hj => List.filterMap_eq_nil_iff.mp h j (List.mem_range.mpr hj)
theorem fm_id {α : Type} (l : List α) {n : Nat} (hn : n = l.length) : (List.range n).filterMap (fun k => l[k]?) = l := by
  subst hn
  have h : ∀ n, n ≤ l.length → (List.range n).filterMap (fun k => l[k]?) = l.take n := by
    intro n
    induction n with
    | zero => intro _; rfl
    | succ n ih =>
      intro hn
      rw [List.range_succ, List.filterMap_append, ih (by omega), List.take_add_one, List.getElem?_eq_getElem (show n < l.length by omega)]
      congr 1
      rw [List.filterMap_cons, List.getElem?_eq_getElem (show n < l.length by omega)]; rfl
  rw [h _ (Nat.le_refl _), List.take_length]
theorem snoc_of {α : Type} : ∀ {l : List α}, l ≠ [] → ∃ ys y, l = ys ++ [y]
  | [], h => absurd rfl h
  | a :: l, _ => ⟨(a :: l).dropLast, (a :: l).getLast (List.cons_ne_nil _ _), (List.dropLast_concat_getLast _).symm⟩
theorem cutPart (xs : List V) (a b : Nat) : cutV xs (some (a : Int)) (some (b : Int)) = (xs.take b).drop a := by
  unfold cutV
  rw [HT.sIx_nat, HT.sIx_nat, List.drop_take]
  rcases Nat.le_total a xs.length with h | h
  · rw [Nat.min_eq_left h]
    rcases Nat.le_total b xs.length with h2 | h2
    · rw [Nat.min_eq_left h2]
    · rw [Nat.min_eq_right h2, List.take_of_length_le (by rw [List.length_drop]; omega), List.take_of_length_le (by rw [List.length_drop]; omega)]
  · rw [Nat.min_eq_right h, List.drop_of_length_le (Nat.le_refl _), List.drop_of_length_le h]
    simp
/-- a part of a list of ints -/
theorem cut_ints (ns : List Int) (lo hi : Option Int) : ∃ cs : List Int, cutV (ns.map V.int) lo hi = cs.map V.int ∧ (∀ x ∈ cs, x ∈ ns) ∧ cs.length ≤ ns.length := by
  unfold cutV
  refine ⟨_, by rw [← List.map_drop, ← List.map_take], fun x h => List.mem_of_mem_drop (List.mem_of_mem_take h), by rw [List.length_take, List.length_drop]; omega⟩
theorem cutDrop (xs : List V) (a : Nat) : cutV xs (some (a : Int)) none = xs.drop a := by
  unfold cutV
  rw [HT.sIx_nat, HT.sIx_none]
  rcases Nat.le_total a xs.length with h | h
  · rw [Nat.min_eq_left h, List.take_of_length_le (by rw [List.length_drop]; omega)]
  · rw [Nat.min_eq_right h, List.drop_of_length_le (Nat.le_refl _), List.drop_of_length_le h]
    simp
/-! ### data at any depth -/
section
variable {H H' : Hp} {K : PySem.W.Frag}
theorem dpAll_ints : ∀ ns : List Int, DpAll K H (ns.map V.int) (ns.map PyData.int)
  | [] => .nil
  | n :: ns => .cons (.int n) (dpAll_ints ns)
theorem dpAll_bools : ∀ bs : List Bool, DpAll K H (bs.map V.bl) (bs.map PyData.bool)
  | [] => .nil
  | b :: bs => .cons (.bl b) (dpAll_bools bs)
theorem dp_ints {a : Addr} {ns : List Int} (h : SqL K H a (ns.map V.int)) : Dp K H (.ref a) (.list (ns.map PyData.int)) := .lst h (dpAll_ints ns)
theorem dp_intsT {a : Addr} {ns : List Int} (h : SqT K H a (ns.map V.int)) : Dp K H (.ref a) (.tuple (ns.map PyData.int)) := .tup h (dpAll_ints ns)
theorem eqvAll_ints : ∀ as bs : List Int, PyData.eqvAll (as.map PyData.int) (bs.map PyData.int) = decide (as = bs)
  | [], [] => by rw [List.map_nil]; unfold PyData.eqvAll; rfl
  | [], b :: bs => by rw [List.map_nil, List.map_cons]; unfold PyData.eqvAll; simp
  | a :: as, [] => by rw [List.map_nil, List.map_cons]; unfold PyData.eqvAll; simp
  | a :: as, b :: bs => by
    rw [List.map_cons, List.map_cons]; unfold PyData.eqvAll
    rw [eqvAll_ints as bs]
    unfold PyData.eqv
    by_cases h : a = b
    · subst h; by_cases h2 : as = bs
      · subst h2; simp
      · simp [h2]
    · simp [h]
theorem eqv_ints (as bs : List Int) : PyData.eqv (.list (as.map PyData.int)) (.list (bs.map PyData.int)) = decide (as = bs) := by
  unfold PyData.eqv; exact eqvAll_ints as bs
theorem eqv_intsT (as bs : List Int) : PyData.eqv (.tuple (as.map PyData.int)) (.tuple (bs.map PyData.int)) = decide (as = bs) := by
  unfold PyData.eqv; exact eqvAll_ints as bs
/-- laid: no dict, texts in order, at most so deep -/
def laid (n : Nat) (d : PyData) : Prop := d.canLay0 = true ∧ d.depth ≤ n
theorem laid_int {n : Nat} (i : Int) : laid n (.int i) := ⟨by simp [PyData.canLay0], by simp [PyData.depth]⟩
theorem laid_bool {n : Nat} (i : Bool) : laid n (.bool i) := ⟨by simp [PyData.canLay0], by simp [PyData.depth]⟩
theorem laid_none {n : Nat} : laid n .none := ⟨by simp [PyData.canLay0], by simp [PyData.depth]⟩
theorem laid_all {n : Nat} : ∀ ds : List PyData, (∀ d ∈ ds, laid n d) → PyData.canLayAll0 ds = true ∧ PyData.depthAll ds ≤ n
  | [], _ => ⟨by simp [PyData.canLayAll0], by simp [PyData.depthAll]⟩
  | d :: ds, h => by
    obtain ⟨h1, h2⟩ := h d List.mem_cons_self
    obtain ⟨h3, h4⟩ := laid_all ds fun x hx => h x (List.mem_cons_of_mem _ hx)
    exact ⟨by simp [PyData.canLayAll0, h1, h3], by simp only [PyData.depthAll]; omega⟩
theorem laid_list {n : Nat} {ds : List PyData} (h : ∀ d ∈ ds, laid n d) : laid (n + 1) (.list ds) := by
  obtain ⟨h1, h2⟩ := laid_all ds h
  exact ⟨by simp [PyData.canLay0, h1], by simp only [PyData.depth]; omega⟩
theorem laid_tup {n : Nat} {ds : List PyData} (h : ∀ d ∈ ds, laid n d) : laid (n + 1) (.tuple ds) := by
  obtain ⟨h1, h2⟩ := laid_all ds h
  exact ⟨by simp [PyData.canLay0, h1], by simp only [PyData.depth]; omega⟩
theorem laid_ints {n : Nat} (ns : List Int) : laid (n + 1) (.list (ns.map PyData.int)) := laid_list fun d hd => by
  obtain ⟨i, _, rfl⟩ := List.mem_map.mp hd
  exact laid_int i
theorem laid_intsT {n : Nat} (ns : List Int) : laid (n + 1) (.tuple (ns.map PyData.int)) := laid_tup fun d hd => by
  obtain ⟨i, _, rfl⟩ := List.mem_map.mp hd
  exact laid_int i
theorem laid_bools {n : Nat} (bs : List Bool) : laid (n + 1) (.list (bs.map PyData.bool)) := laid_list fun d hd => by
  obtain ⟨i, _, rfl⟩ := List.mem_map.mp hd
  exact laid_bool i
theorem laid_shaped {d : PyData} (h : laid 64 d) : SeqAt.shaped d = true := by
  obtain ⟨h1, h2⟩ := h
  unfold SeqAt.shaped
  rw [h1, decide_eq_true h2]; rfl
theorem k_eqD {Q : VK} {x y : V} {d e : PyData} (h1 : Dp K H x d) (h2 : Dp K H y e) (l1 : laid 64 d) (l2 : laid 64 e) (q : Q (.bl (PyData.eqv d e)) H) : rEqD K x y H Q :=
  ⟨d, e, h1, h2, laid_shaped l1, laid_shaped l2, q⟩
theorem k_neD {Q : VK} {x y : V} {d e : PyData} (h1 : Dp K H x d) (h2 : Dp K H y e) (l1 : laid 64 d) (l2 : laid 64 e) (q : Q (.bl (!PyData.eqv d e)) H) : rNeD K x y H Q :=
  ⟨d, e, h1, h2, laid_shaped l1, laid_shaped l2, q⟩
theorem k_eqL {Q : VK} {a b : Addr} {ns ms : List Int} (h1 : SqL K H a (ns.map V.int)) (h2 : SqL K H b (ms.map V.int)) (q : Q (.bl (decide (ns = ms))) H) : rEqD K (.ref a) (.ref b) H Q :=
  k_eqD (dp_ints h1) (dp_ints h2) (laid_ints ns) (laid_ints ms) (by rw [eqv_ints]; exact q)
theorem k_neL {Q : VK} {a b : Addr} {ns ms : List Int} (h1 : SqL K H a (ns.map V.int)) (h2 : SqL K H b (ms.map V.int)) (q : Q (.bl (!decide (ns = ms))) H) : rNeD K (.ref a) (.ref b) H Q :=
  k_neD (dp_ints h1) (dp_ints h2) (laid_ints ns) (laid_ints ms) (by rw [eqv_ints]; exact q)
end
/-- a row's tables: a number and a tuple of numbers -/
theorem eqv_row (n : Int) (as : List Int) : PyData.eqv (.tuple [.int n, .tuple (as.map PyData.int)]) (.tuple [.int n, .tuple (as.map PyData.int)]) = true := by
  unfold PyData.eqv PyData.eqvAll; unfold PyData.eqv PyData.eqvAll
  simp [eqv_intsT, PyData.eqvAll]
theorem dp_row {K : PySem.W.Frag} {H : Hp} {t a : Addr} {n : Int} {as : List Int} (h1 : SqT K H t [.int n, .ref a]) (h2 : SqT K H a (as.map V.int)) : Dp K H (.ref t) (.tuple [.int n, .tuple (as.map PyData.int)]) :=
  .tup h1 (.cons (.int n) (.cons (dp_intsT h2) .nil))
theorem laid_row (n : Int) (as : List Int) : laid 64 (.tuple [.int n, .tuple (as.map PyData.int)]) := laid_tup (n := 63) fun d hd => by
  simp only [List.mem_cons, List.not_mem_nil, or_false] at hd
  rcases hd with rfl | rfl
  · exact laid_int _
  · exact laid_intsT _
theorem k_eqRow {K : PySem.W.Frag} {H : Hp} {Q : VK} {t u a b : Addr} {n : Int} {as : List Int} (h1 : SqT K H t [.int n, .ref a]) (h2 : SqT K H a (as.map V.int)) (h3 : SqT K H u [.int n, .ref b]) (h4 : SqT K H b (as.map V.int)) (q : Q (.bl true) H) : rEqD K (.ref t) (.ref u) H Q :=
  k_eqD (dp_row h1 h2) (dp_row h3 h4) (laid_row n as) (laid_row n as) (by rw [eqv_row]; exact q)
theorem any_int (i : Int) : ∀ ns : List Int, ((ns.map PyData.int).any fun z => PyData.eqv z (.int i)) = decide (i ∈ ns)
  | [] => by simp
  | n :: ns => by
    rw [List.map_cons, List.any_cons, any_int i ns]
    unfold PyData.eqv
    by_cases h : n = i
    · subst h; simp
    · have h' : ¬ i = n := fun z => h z.symm
      simp [h, h']
theorem k_inL {K : PySem.W.Frag} {H : Hp} {Q : VK} {i : Int} {a : Addr} {ns : List Int} (h : SqL K H a (ns.map V.int)) (q : Q (.bl (decide (i ∈ ns))) H) : rInD K (.int i) (.ref a) H Q :=
  ⟨.int i, _, .int i, dp_ints h, laid_shaped (laid_int i), laid_shaped (laid_ints ns), by rw [any_int]; exact q⟩
theorem k_notInL {K : PySem.W.Frag} {H : Hp} {Q : VK} {i : Int} {a : Addr} {ns : List Int} (h : SqL K H a (ns.map V.int)) (q : Q (.bl (!decide (i ∈ ns))) H) : rNotInD K (.int i) (.ref a) H Q :=
  ⟨.int i, _, .int i, dp_ints h, laid_shaped (laid_int i), laid_shaped (laid_ints ns), by rw [any_int]; exact q⟩
section
variable {H : Hp} {K : PySem.W.Frag}
theorem eqvAll_bools : ∀ as bs : List Bool, PyData.eqvAll (as.map PyData.bool) (bs.map PyData.bool) = decide (as = bs)
  | [], [] => by rw [List.map_nil]; unfold PyData.eqvAll; rfl
  | [], b :: bs => by rw [List.map_nil, List.map_cons]; unfold PyData.eqvAll; simp
  | a :: as, [] => by rw [List.map_nil, List.map_cons]; unfold PyData.eqvAll; simp
  | a :: as, b :: bs => by
    rw [List.map_cons, List.map_cons]; unfold PyData.eqvAll
    rw [eqvAll_bools as bs]
    unfold PyData.eqv
    by_cases h : a = b
    · subst h; by_cases h2 : as = bs
      · subst h2; simp
      · simp [h2]
    · simp [h]
theorem eqv_bools (as bs : List Bool) : PyData.eqv (.list (as.map PyData.bool)) (.list (bs.map PyData.bool)) = decide (as = bs) := by
  unfold PyData.eqv; exact eqvAll_bools as bs
theorem dp_bools {a : Addr} {bs : List Bool} (h : SqL K H a (bs.map V.bl)) : Dp K H (.ref a) (.list (bs.map PyData.bool)) := .lst h (dpAll_bools bs)
theorem k_eqB {Q : VK} {a b : Addr} (ns ms : List Bool) (h1 : SqL K H a (ns.map V.bl)) (h2 : SqL K H b (ms.map V.bl)) (q : Q (.bl (decide (ns = ms))) H) : rEqD K (.ref a) (.ref b) H Q :=
  k_eqD (dp_bools h1) (dp_bools h2) (laid_bools ns) (laid_bools ms) (by rw [eqv_bools]; exact q)
end
theorem m_neB {H : Hp} {K : PySem.W.Frag} {Q : VK} {a b : Addr} (ns ms : List Bool) (h1 : SqL K H a (ns.map V.bl)) (h2 : SqL K H b (ms.map V.bl)) (q : Q (.bl (!decide (ns = ms))) H) : rNeD K (.ref a) (.ref b) H Q :=
  k_neD (dp_bools h1) (dp_bools h2) (laid_bools ns) (laid_bools ms) (by rw [eqv_bools]; exact q)
theorem room65 {k : Nat} {A : Around} (r : Room k A) : A.units + 65 < cLine := by have := r.un; omega
/-- list + list, whichever way they are known -/
def rCatK (K : PySem.W.Frag) : R2 := fun x y H Q => ∃ l b xs zs, x = .ref l ∧ y = .ref b ∧ SqL K H l xs ∧ SqL K H b zs ∧ xs.length + zs.length ≤ sizeLine ∧ ∀ p, H p = none → Q (.ref p) (upd H p (.lst (xs ++ zs)))
theorem op_catK {X : Cx} : OpR X (binaryOp .Add) (rCatK X.K) := by
  intro pins s σ H x y v u Q I rx ry h
  obtain ⟨l, b, xs, zs, rfl, rfl, hH, hB, hz, q⟩ := h
  cases rx
  cases ry
  obtain ⟨its, r, ⟨⟨cls, dd, data, sl⟩, n, ho, hc, hdd, hd⟩, hl⟩ := I.list hH
  obtain ⟨its2, r2, ⟨⟨cls2, dd2, data2, sl2⟩, n2, ho2, hc2, hdd2, hd2⟩, hl2⟩ := I.list hB
  simp only at hc hdd hd hc2 hdd2 hd2
  subst hc hdd hd hc2 hdd2 hd2
  have h1 := r.length
  have h2 := r2.length
  refine concat_meets ⟨_, ho, rfl⟩ ⟨_, ho2, rfl⟩ noFill_list_add seq_list_add PySem.F.slot_list_add PySem.F.entry_list_add (PySem.F.args_list_add_2 _ _) (list_addW l b its.toArray its2.toArray n n2 none none sl sl2 (by rw [List.size_toArray, List.size_toArray]; omega)) ⟨ho, ho2, ?_⟩
  have ea : its.toArray ++ its2.toArray = (its ++ its2).toArray := by simp
  rw [ea]
  exact ⟨.ref _, _, I.lnew (t' := s.toks) (r.append r2) (by rw [List.length_append]; omega), rfl, q _ I.fresh⟩
theorem k_catK {H : Hp} {K : PySem.W.Frag} {Q : VK} {l b : Addr} {xs zs : List V} (h1 : SqL K H l xs) (h2 : SqL K H b zs) (hn : xs.length + zs.length ≤ 1000000) (q : ∀ p, H p = none → Q (.ref p) (upd H p (.lst (xs ++ zs)))) : rCatK K (.ref l) (.ref b) H Q :=
  ⟨l, b, xs, zs, rfl, rfl, h1, h2, Nat.le_trans hn (by decide), q⟩
/-! ### len(set(xs)) -/
/-- how many unlike numbers -/
def unlike (ns : List Int) : Nat := (PyProof.Rows.firstMet (fun i => ns.getD i 0) ns.length).length
theorem unlike_le (ns : List Int) : unlike ns ≤ ns.length := PyProof.Rows.firstMet_length_le _ _
def tLenSet (K : PySem.W.Frag) (ta : TE) : TE := fun σ H Q => ta σ H fun x H1 => ∃ (l : Addr) (ns : List Int), x = .ref l ∧ SqL K H1 l (ns.map V.int) ∧ ns.length ≤ 4000 ∧ Q (.int (unlike ns : Nat)) H1
theorem intsAre_vals : ∀ {ns : List Int} {us : List Value}, Vals (ns.map V.int) us → PyProof.Rows.IntsAre us ns
  | [], _, .nil => .nil
  | n :: ns, _, .cons r t => by
    obtain ⟨k, rfl⟩ := r
    exact .cons n k (intsAre_vals t)
theorem pe_lenSet {X : Cx} {a : Expr} {ta : TE} {p p2 q pos : Pos} (hg : Gl X "len") (hm : X.mg "len" = none) (hg2 : Gl X "set") (hm2 : X.mg "set" = none) (ha : PE X a ta) (hc : X.calm = true := by rfl)
    (na : starEach [a] X.env = (false, eval a X.env) :: starEach [] X.env := by rfl) : PE X (.Call (.Name "len" p) [.Call (.Name "set" p2) [a] [] q] [] pos) (tLenSet X.K ta) := by
  refine ⟨fun pins s σ H Q I h => ?_⟩
  refine Call_ (ld_blt I hg hm boot_len ?_)
  refine PyProof.Rows.callWith_builtin1 (PyProof.Rows.args_cons ?_ rfl) rfl rfl
  refine Call_ (ld_blt I hg2 hm2 boot_set ?_)
  refine PyProof.Rows.callWith_type1 (PyProof.Rows.args_cons (thn (ha.run pins s σ H _ I h) fun v s1 ⟨x, H1, I1, r1, q1⟩ => PyProof.Rows.args_nil ?_) na) na rfl
  obtain ⟨l, ns, rfl, hq, hl, q1⟩ := q1
  cases r1
  obtain ⟨its, r, pl, hz⟩ := I1.list hq
  have hlen : its.toArray.size = ns.length := by rw [List.size_toArray, ← r.length, List.length_map]
  refine call_set_list (I1.ok.hd hc) pl.isList (by simpa using intsAre_vals r) (by rw [hlen]; unfold scanBound; omega) fun h' tk hS hk => ?_
  refine PyProof.Rows.args_nil ?_
  rw [hlen] at hS
  obtain ⟨o, es, ep, t, ho, hex, hd, _, _, _, hf, hn⟩ := hS
  have I2 : Inv X pins σ H1 { s1 with heap := h', toks := tk } := I1.kept fun b o e => hk b o (Heap.lt_size e) e
  have hu := unlike_le ns
  unfold unlike at hu q1
  exact call_len_set ho hex hd hf (by rw [hn] <;> omega) ⟨.int ((PyProof.Rows.firstMet (fun i => ns.getD i 0) ns.length).length : Nat), H1, I2.tok _, ⟨_, by rw [hn]⟩, q1⟩
section
variable {σ : L2.St} {H : Hp} {Q : VK} {K : PySem.W.Frag} {te : TE}
def LenSetK (K : PySem.W.Frag) (Q : VK) (x : V) (H : Hp) : Prop := ∃ (l : Addr) (ns : List Int), x = .ref l ∧ SqL K H l (ns.map V.int) ∧ ns.length ≤ 4000 ∧ Q (.int (unlike ns : Nat)) H
theorem m_lenSet (h : te σ H (LenSetK K Q)) : tLenSet K te σ H Q := h
theorem m_lenSetE {l : Addr} {ns : List Int} (hS : SqL K H l (ns.map V.int)) (hl : ns.length ≤ 4000) (q : Q (.int (unlike ns : Nat)) H) : LenSetK K Q (.ref l) H := ⟨l, ns, rfl, hS, hl, q⟩
end
/-! ### errors: raised, let through, caught -/
section
variable {X : Cx} {E : XK} {W : WX} {k j : Nat} {ps : List Str} {sp : Sp} {x : Str} {p pos : Pos} {e : Expr} {es : List Expr} {t : TA}
theorem passX (tk : Takes X (fun cls d _ H => E cls d H)) : Passes (L2.CX X.prog X.w) X E := passes_call tk fun _ _ _ _ h => h
/-- raise C('..') -/
def tRz (W : WX) (C : Addr) : TS := fun _ σ H => W (.ref C) none σ H
/-- what stands of the class x: it can be raised -/
structure ExF (K : PySem.W.Frag) (mg : Str → Option Value) (x : Str) : Prop where
  gl : mg x = some (.ref (He.ga K x))
  ex : PySem.W.excIn K (He.ga K x) He.veBase "ValueError.__new__" = true
  kp : PySem.W.keepIn K (.ref (He.ga K x)) = true
  sb : PySem.W.subIn K (.ref (He.ga K x)) (.type "BaseException") = some true
  ty : PySem.W.typeIn K (.ref (He.ga K x)) = some (.type "type")
theorem ps_rz {m : Str} {j : Nat} {p2 pos2 : Pos} (F : ExF X.K X.mg x) (tk : Takes X W) (hc : X.calm = true := by rfl) (hg : Gl X x := by rfl) (hdb : (x == ("__debug__" : Str)) = false := by decide) :
    PS X (.Raise (some (.Call (.Name x p) [.Constant (.str m) j p2] [] pos)) none pos2) (tRz W (He.ga X.K x)) :=
  ps_raise hc tk (pmk_own PySem.F.excBase_ValueError F.ex F.gl F.kp (raises_own F.sb F.ty) hg hdb)
theorem k_rz {D : Ends} {C : Addr} {σ : L2.St} {H : Hp} (h : W (.ref C) none σ H) : tRz W C D σ H := h
/-- a call within a try's body -/
theorem pe_callFS (F : Okf X.prog X.w X.K X.mg X.base (L2.CX X.prog X.w) k x ps sp) (hr : Room j X.A) (hk : k ≤ j) (hg : Gl X x) (tk : Takes X W)
    (ha : PA X (e :: es) t) (hdb : (x == ("__debug__" : Str)) = false := by decide) (he : starEach (e :: es) X.env = (false, eval e X.env) :: starEach es X.env := by rfl) (hpl : (backTo pos (starEach es X.env)).any (·.1) = false := by rfl) :
    PE X (.Call (.Name x p) (e :: es) [] pos) (tCallS sp (WE W) t) := by
  obtain ⟨fd, _, hb, ok⟩ := F.ex
  exact pe_callS ok (hr.mono hk) hg F.gl F.kp hb (fun σ => passAt tk σ) ha hdb he hpl
theorem m_callS {E : L2.St → XK} {σ : L2.St} {H : Hp} {Q : VK} (h : t σ H fun vs H1 => sp vs H1 Q (E σ)) : tCallS sp E t σ H Q := h
/-- try: .. except C as n | except C -/
def tTryAs (K : PySem.W.Frag) (c : Value) (i : Nat) (tb : WX → TS) (ts : Addr → Value → Option Addr → TS) (Wout : WX) : TS := fun D σ H => tb (wAs K c i ts Wout D) D σ H
def tTryOnly (K : PySem.W.Frag) (c : Value) (tb : WX → TS) (ts : Addr → Value → Option Addr → TS) (Wout : WX) : TS := fun D σ H => tb (wOnly K c ts Wout D) D σ H
section
variable {K : PySem.W.Frag} {c cls : Value} {d : Option Addr} {i : Nat} {tb : WX → TS} {ts : Addr → Value → Option Addr → TS} {Wout : WX} {σ : L2.St} {H : Hp} {rt : VK} {nx bk ct : L2.St → Hp → Prop}
theorem m_tryAs (h : tb (wAs K c i ts Wout (Ends.mk nx rt bk ct)) (Ends.mk nx rt bk ct) σ H) : tTryAs K c i tb ts Wout (Ends.mk nx rt bk ct) σ H := h
theorem m_tryOnly (h : tb (wOnly K c ts Wout (Ends.mk nx rt bk ct)) (Ends.mk nx rt bk ct) σ H) : tTryOnly K c tb ts Wout (Ends.mk nx rt bk ct) σ H := h
theorem m_caught (he : PySem.W.exmOne K cls c = some true) (h : ∀ a, H a = none → ts a cls d (Ends.mk (fun σ' H' => nx (σ'.set i none) H') rt (fun σ' H' => bk (σ'.set i none) H') (fun σ' H' => ct (σ'.set i none) H')) (σ.set i (some (.ref a))) H) :
    WE (wAs K c i ts Wout (Ends.mk nx rt bk ct)) σ cls d H := ⟨true, he, fun _ => h, fun z => Bool.noConfusion z⟩
theorem m_passed (he : PySem.W.exmOne K cls c = some false) (h : Wout cls d σ H) : WE (wAs K c i ts Wout (Ends.mk nx rt bk ct)) σ cls d H := ⟨false, he, fun z => Bool.noConfusion z, fun _ => h⟩
theorem m_caughtO (he : PySem.W.exmOne K cls c = some true) (h : ∀ a, H a = none → ts a cls d (Ends.mk nx rt bk ct) σ H) :
    WE (wOnly K c ts Wout (Ends.mk nx rt bk ct)) σ cls d H := ⟨true, he, fun _ => h, fun z => Bool.noConfusion z⟩
theorem m_passedO (he : PySem.W.exmOne K cls c = some false) (h : Wout cls d σ H) : WE (wOnly K c ts Wout (Ends.mk nx rt bk ct)) σ cls d H := ⟨false, he, fun z => Bool.noConfusion z, fun _ => h⟩
end
/-! ### several except clauses, each with a name -/
def endN (i : Nat) (D : Ends) : Ends := Ends.mk (fun τ G => D.nx (τ.set i none) G) D.rt (fun τ G => D.bk (τ.set i none) G) (fun τ G => D.ct (τ.set i none) G)
def wManyA (K : PySem.W.Frag) (Wout : WX) (D : Ends) : List (Value × Nat × (Addr → Value → Option Addr → TS)) → WX
  | [] => Wout
  | (c, i, ts) :: l => fun cls d τ G => ∃ b, PySem.W.exmOne K cls c = some b ∧ (b = true → ∀ x, G x = none → ts x cls d (endN i D) (τ.set i (some (.ref x))) G) ∧ (b = false → wManyA K Wout D l cls d τ G)
inductive HdsA (X : Cx) : List ExceptHandler → List (Value × Nat × (Addr → Value → Option Addr → TS)) → Prop
  | nil : HdsA X [] []
  | cons {y n : Str} {c : Value} {i : Nat} {ts : Addr → Value → Option Addr → TS} {st : Stmt} {sts : List Stmt} {q1 q2 : Pos} {hs : List ExceptHandler} {l : List (Value × Nat × (Addr → Value → Option Addr → TS))} (hi : X.N[i]? = some n) (hl : X.env.kindOf n = some .local) (hc : Names X y c)
      (hb : ∀ (x : Addr) (ob : Obj) (cls : Value) (d : Option Addr) (pn : List (Addr × Obj)), Zc cls d ob → (∃ vs, ob.data = .fields vs) → PSs (X.suite x ((x, ob) :: pn)) (st :: sts) (ts x cls d)) (r : HdsA X hs l) : HdsA X (.ExceptHandler (some (.Name y q1)) (some n) (st :: sts) q2 :: hs) ((c, i, ts) :: l)
theorem ps_tryManyA {X : Cx} {body : List Stmt} {h₀ : ExceptHandler} {hds : List ExceptHandler} {l : List (Value × Nat × (Addr → Value → Option Addr → TS))} {pos : Pos} {tb : WX → TS} {Wout : WX} (stk : X.stack = X.env :: X.outer) (lf : X.env.frame = some X.env.locals) (nd : X.N.Nodup) (tk : Takes X Wout)
    (hb : ∀ (W : WX) (pn : List (Addr × Obj)) (xe : Value → Shared → Prop), Takes (X.tr pn xe) W → PassesOwn (model X.prog X.w) X.A X.env xe → PSs (X.tr pn xe) body (tb W)) (hh : HdsA X (h₀ :: hds) l) : PS X (.Try body (h₀ :: hds) [] [] pos) (fun D τ G => tb (wManyA X.K Wout D l) D τ G) := by
  refine ⟨fun pins s τ G D I h => ?_⟩
  have ok0 := I.ok
  have fr0 : X.A.frames = some (X.env :: X.outer) := by rw [ok0.frames, stk]
  refine wpAny_Try_except (wpAny_mono ((hb (wManyA X.K Wout D l) (X.pn ++ pins) (fun e s₁ => wpAny (model X.prog X.w) X.A (noteFrame e X.env) (fun _ s₂ => wpAny (model X.prog X.w) X.A (setFlight e none) (fun _ s₃ => wpAny (model X.prog X.w) X.A (handleBy e X.env (h₀ :: hds)) (SP X pins D) X.xe s₃) X.xe s₂) X.xe s₁) (fun u s' xx => ?_) PassesOwn.looking).run [] s τ G D (I.toTry _) h) (fun f s1 hq => ?_) (fun e s1 he => he))
  · obtain ⟨x, B, si, pins2, τ1, G1, cls, d, rfl, j1, nb, up1, sk1, nx, eos, eag, wish⟩ := xx
    have j0 : Inv X pins τ1 G1 si := j1.ofTry ok0
    have sk2 : Sky B (X.env :: X.outer) x (Zc cls d) X.env.locals s'.heap := by rw [← stk]; exact sk1
    show wpAny (model X.prog X.w) X.A (noteFrame (.ref x) X.env) _ _ _; refine Sky.land Zc.steady fr0 lf sk2 fun h3 fl3 up3 => ?_
    have j3 : Inv X pins τ1 G1 { s' with heap := h3 } := j0.landed nb fl3.1 (up1.trans up3) eos eag
    obtain ⟨o3, vs3, ho3, hz3, hd3⟩ := fl3.there
    have nfr : x ∉ frs (X.env :: X.outer) := fun hm => by
      obtain ⟨_, o2, e2, hnf⟩ := fl3.2.2.1.mem hm; rw [ho3] at e2; cases e2; exact hnf _ hd3
    have nL : x ≠ X.env.locals := fun z => nfr (List.mem_filterMap.mpr ⟨X.env, List.mem_cons_self, by rw [lf, z]⟩)
    have nF : x ∉ X.fs := fun hm => by
      obtain ⟨e, he, q⟩ := List.mem_filterMap.mp hm; exact nfr (List.mem_filterMap.mpr ⟨e, List.mem_cons_of_mem _ he, q⟩)
    have suite3 := j3.suite ho3 hd3 nx nL nF
    have go : ∀ {hs' : List ExceptHandler} {l' : List (Value × Nat × (Addr → Value → Option Addr → TS))}, HdsA X hs' l' → wManyA X.K Wout D l' cls d τ1 G1 → wpAny (model X.prog X.w) X.A (handleBy (.ref x) X.env hs') (SP X pins D) X.xe { s' with heap := h3 } := by
      intro hs' l' hk
      induction hk with
      | nil =>
        intro wish
        refine wpAny_handleBy_nil ?_; obtain ⟨k1, k2, k3, oe, vs, tt, oT, ts', he, hz, hd, h1, hr⟩ := id fl3
        unfold PySem.passOn; refine wpAny_bind (wpAny_field he hd h1 ?_)
        rw [if_neg (show ¬ ((Value.ref tt == Value.none) = true) from by simp)]
        have fin : wpAny (model X.prog X.w) X.A (setFlight (.ref x) X.env.frame) (fun _ s4 => wpAny (model X.prog X.w) X.A (throw (.ref x) : Sem Flow) (SP X pins D) X.xe s4) X.xe { s' with heap := h3 } := by
          rw [lf]; refine HandSPX.setFlight_upZ fl3 fun h4 hh4 up4 => wpAny_throw (tk _ _ ?_)
          exact ⟨x, B, si, pins, τ1, G1, cls, d, rfl, j0, nb, (up1.trans up3).trans up4, .inr (.inr (by rw [stk]; exact hh4)), nx, eos, eag, wish⟩
        first | exact wpAny_bind (wpAny_pure (wpAny_bind fin)) | exact wpAny_bind fin
      | @cons y n c i ts st sts q1 q2 hs2 l2 hi hl hc hsu r ih =>
        intro wish
        obtain ⟨b, hb1, yes, no⟩ := wish
        refine wpAny_handleBy_cons (codeAny_handlers_test ?_) (by intro q; cases q); have lt : PySem.W.Looks (model X.prog X.w) h3 (typeOf (.ref x)) cls := fun A Q E s k q => wpAny_typeOf_ref (k _ _ ho3) (by rw [hz3.1]; exact q)
        have lm := PySem.W.exm_one (M := model X.prog X.w) (j3.kIn) lt hb1
        have test : ∀ {Q : Value → Shared → Prop} {E : Value → Shared → Prop}, Q c { s' with heap := h3 } → wpAny (model X.prog X.w) (X.A.mark (some (.ref x))) (eval (.Name y q1) X.env) Q E { s' with heap := h3 } := fun {Q E} q => by
          obtain ⟨hg, hdbg, hm | ⟨hm, hv, hnn⟩⟩ := hc
          · exact ld_glob (X := X.suite x ((x, o3) :: (X.pn ++ pins))) suite3 hg hm q hdbg
          · exact ld_blt (X := X.suite x ((x, o3) :: (X.pn ++ pins))) suite3 hg hm hv q hnn hdbg
        refine test (lm.here ?_)
        cases b with
        | true =>
          refine codeAny_handlers_suite_as (HandSPX.lands_againZ fl3 fun h4 fl4 up4 => ?_)
          have j4 : Inv X pins τ1 G1 { s' with heap := h4 } := j0.landed nb fl4.1 ((up1.trans up3).trans up4) eos eag
          obtain ⟨o4, vs4, ho4, hz4, hd4⟩ := fl4.there
          refine store_ok (X := X.suite x ((x, o4) :: (X.pn ++ pins))) (v := .ref x) (j4.suite ho4 hd4 nx nL nF) nd hi (.inl hl) rfl (fun s5 S5 => ?_) (.inr hl)
          refine wpAny_mono ((hsu x o4 cls d (X.pn ++ pins) hz4 ⟨_, hd4⟩).run [] s5 _ G1 _ S5 (yes rfl x nx)) (fun f s6 hq => ?_) (fun _ _ z => False.elim z)
          have fin : ∀ {τ6 : L2.St} {G6 : Hp} {Q : Shared → Prop}, Inv (X.suite x ((x, o4) :: (X.pn ++ pins))) [] τ6 G6 s6 → (∀ s7, Inv X pins (τ6.set i none) G6 s7 → Q s7) → wpAny (model X.prog X.w) X.A (do bindName X.env n .none; unbindBehindTheSuite X.env n q2) (fun _ s7 => Q s7) X.xe s6 := fun {τ6 G6 Q} S6 hq => gone_ok (S6.unsuite ok0) nd hi hl hq
          cases f with
          | next => obtain ⟨τ6, G6, S6, q6⟩ := hq; exact fin S6 fun s7 J7 => ⟨_, _, J7, q6⟩
          | brk => obtain ⟨τ6, G6, S6, q6⟩ := hq; exact fin S6 fun s7 J7 => ⟨_, _, J7, q6⟩
          | cont => obtain ⟨τ6, G6, S6, q6⟩ := hq; exact fin S6 fun s7 J7 => ⟨_, _, J7, q6⟩
          | ret u => obtain ⟨v6, τ6, G6, S6, r6, q6⟩ := hq; exact fin S6 fun s7 J7 => ⟨_, _, _, J7, r6, q6⟩
        | false => exact ih (no rfl)
    exact go hh wish
  · cases f with
    | next => obtain ⟨τ1, G1, j1, q⟩ := hq; exact wpAny_execs_nil ⟨τ1, G1, j1.ofTry ok0, q⟩
    | brk => obtain ⟨τ1, G1, j1, q⟩ := hq; exact ⟨τ1, G1, j1.ofTry ok0, q⟩
    | cont => obtain ⟨τ1, G1, j1, q⟩ := hq; exact ⟨τ1, G1, j1.ofTry ok0, q⟩
    | ret u => obtain ⟨v, τ1, G1, j1, r, q⟩ := hq; exact ⟨v, τ1, G1, j1.ofTry ok0, r, q⟩
def tTryM (K : PySem.W.Frag) (tb : WX → TS) (l : List (Value × Nat × (Addr → Value → Option Addr → TS))) (Wout : WX) : TS := fun D τ G => tb (wManyA K Wout D l) D τ G
section
variable {K : PySem.W.Frag} {c cls : Value} {d : Option Addr} {i : Nat} {tb : WX → TS} {ts : Addr → Value → Option Addr → TS} {Wout : WX} {σ : L2.St} {H : Hp} {rt : VK} {nx bk ct : L2.St → Hp → Prop} {l : List (Value × Nat × (Addr → Value → Option Addr → TS))}
theorem m_tryM (h : tb (wManyA K Wout (Ends.mk nx rt bk ct) l) (Ends.mk nx rt bk ct) σ H) : tTryM K tb l Wout (Ends.mk nx rt bk ct) σ H := h
theorem m_caughtM (he : PySem.W.exmOne K cls c = some true) (h : ∀ a, H a = none → ts a cls d (Ends.mk (fun σ' H' => nx (σ'.set i none) H') rt (fun σ' H' => bk (σ'.set i none) H') (fun σ' H' => ct (σ'.set i none) H')) (σ.set i (some (.ref a))) H) :
    WE (wManyA K Wout (Ends.mk nx rt bk ct) ((c, i, ts) :: l)) σ cls d H := ⟨true, he, fun _ => h, fun z => Bool.noConfusion z⟩
theorem m_nextM (he : PySem.W.exmOne K cls c = some false) (h : WE (wManyA K Wout (Ends.mk nx rt bk ct) l) σ cls d H) : WE (wManyA K Wout (Ends.mk nx rt bk ct) ((c, i, ts) :: l)) σ cls d H := ⟨false, he, fun z => Bool.noConfusion z, fun _ => h⟩
end
/-- isinstance(e, c), e the error that the suite holds -/
def rIsX (K : PySem.W.Frag) (cls : Value) (d : Option Addr) (a : Addr) : List V → Hp → VK → Prop := fun xs H Q => ∃ D, cls = .ref D ∧ d = none ∧ ExcC K D ∧ rIsE K D a xs H Q
theorem call_isX {a : Addr} {oe : Obj} {cls : Value} {d : Option Addr} {pn : List (Addr × Obj)} (hz : Zc cls d oe) (hf : ∃ vs, oe.data = .fields vs) : CallR (X.suite a ((a, oe) :: pn)) (.builtin "isinstance") (rIsX X.K cls d a) := by
  intro pins s σ H xs us Q I r h
  obtain ⟨D, rfl, rfl, C, h⟩ := h
  exact call_isE C hz hf pins s σ H xs us Q I r h
theorem k_isX {K : PySem.W.Frag} {D C a : Addr} {b : Bool} {H : Hp} {Q : VK} (h : ExcC K D) (e : PySem.W.kitOne K (.ref D) (.ref C) = some b) (q : Q (.bl b) H) : rIsX K (.ref D) none a [.ref a, .ref C] H Q :=
  ⟨D, rfl, rfl, h, .ref C, .ref C, b, rfl, fun _ r => r, e, q⟩
theorem k_isXty {K : PySem.W.Frag} {D a : Addr} {n : String} {b : Bool} {H : Hp} {Q : VK} (h : ExcC K D) (e : PySem.W.kitOne K (.ref D) (.type n) = some b) (q : Q (.bl b) H) : rIsX K (.ref D) none a [.ref a, .ty n] H Q :=
  ⟨D, rfl, rfl, h, .ty n, .type n, b, rfl, fun _ r => r, e, q⟩
end
/-- isinstance(e, (c1, c2, ..)), all of them own classes -/
def rIsXT (K : PySem.W.Frag) (cls : Value) (d : Option Addr) (a : Addr) : List V → Hp → VK → Prop := fun xs H Q => ∃ (D tp : Addr) (cs : List Addr) (b : Bool), cls = .ref D ∧ d = none ∧ ExcC K D ∧ xs = [.ref a, .ref tp] ∧ H tp = some (.tup (cs.map V.ref)) ∧ PySem.W.kitAny K (.ref D) (cs.map Value.ref) = some b ∧ Q (.bl b) H
theorem clsV_all : ∀ cs : List Addr, Paired ClsV (cs.map V.ref) (cs.map Value.ref)
  | [] => .nil
  | c :: cs => .cons (.own c) (clsV_all cs)
theorem call_isXT {X : Cx} {a : Addr} {oe : Obj} {cls : Value} {d : Option Addr} {pn : List (Addr × Obj)} (hz : Zc cls d oe) (hf : ∃ vs, oe.data = .fields vs) : CallR (X.suite a ((a, oe) :: pn)) (.builtin "isinstance") (rIsXT X.K cls d a) := by
  intro pins s σ H xs us Q I r h
  obtain ⟨D, tp, cs, b, rfl, rfl, C, rfl, hT, e, q⟩ := h
  obtain ⟨u1, u2, rfl, r1, r2⟩ := vals2 r
  cases (show u1 = Value.ref a from r1)
  cases (show u2 = Value.ref tp from r2)
  obtain ⟨hget, _⟩ := I.pin (a, oe) (List.mem_append.mpr (.inl List.mem_cons_self))
  obtain ⟨vs, hv⟩ := hf
  have J : PySem.W.InstAt s.heap a oe D none := by
    obtain ⟨oc, od, oda, osl⟩ := oe
    obtain ⟨h1, h2⟩ := hz
    dsimp only at h1 h2 hv
    subst h1 h2 hv
    exact ⟨hget, rfl, rfl, trivial⟩
  obtain ⟨_, its, rv, o, h1, h2, n, h3⟩ := (show ObjOk X.prog X.w H s.heap tp (.tup (cs.map V.ref)) from I.hok tp _ hT)
  have e3 := ClsV.all (clsV_all cs) rv
  subst e3
  obtain ⟨oc, od, dt, sl⟩ := o
  simp only at h2 h3
  subst h2 h3
  exact PySem.W.kia_tup (PySem.W.handS_kitx_exc C.hg C.hk C.hs C.hd C.ha C.hn C.ht C.hm) I.kIn J h1 e (fun z => nomatch z) fun tk => ⟨.bl b, H, I.kept (t' := tk) fun _ _ z => z, rfl, q⟩
theorem kitAny_no {K : PySem.W.Frag} {t : Value} : ∀ us : List Value, (∀ u ∈ us, PySem.W.kitOne K t u = some false) → PySem.W.kitAny K t us = some false
  | [], _ => rfl
  | u :: us, h => kitAny_cons (h u List.mem_cons_self) (fun _ => kitAny_no us fun x hx => h x (List.mem_cons_of_mem _ hx)) (fun z => Bool.noConfusion z)
theorem k_isXT {K : PySem.W.Frag} {D a tp : Addr} {b : Bool} {H : Hp} {Q : VK} (cs : List Addr) (hT : H tp = some (.tup (cs.map V.ref))) (h : ExcC K D) (e : PySem.W.kitAny K (.ref D) (cs.map Value.ref) = some b) (q : Q (.bl b) H) : rIsXT K (.ref D) none a [.ref a, .ref tp] H Q :=
  ⟨D, tp, cs, b, rfl, rfl, h, rfl, hT, e, q⟩
/-! ### the head's facts, with what is asked of errors -/
inductive Fx where
  | excC (x : Str)
  | kit (x y : Str) (b : Bool)
  | kitT (x : Str) (t : String) (b : Bool)
  | exm (x y : Str) (b : Bool)
def Fx.ok (K : PySem.W.Frag) : Fx → Bool
  | .excC x => He.eqO (PySem.W.findIn K (.ref (He.ga K x)) "__getattribute__") (some (some (.builtin "BaseException.__getattribute__"))) && (He.eqO (PySem.W.findIn K (.ref (He.ga K x)) "__getattr__") (some none) &&
      (decide (PySem.W.subIn K (.ref (He.ga K x)) (.type "BaseException") = some true) && (PySem.W.hasDictIn K (He.ga K x) && (He.eqO (PySem.W.findIn K (.ref (He.ga K x)) "__class__") (some (some (.builtin "object.__class__"))) &&
      (He.eqO (PySem.W.specialIn K (.builtin "object.__class__") "__get__") (some (some (.builtin "getset_descriptor.__get__"))) && (decide (PySem.W.takesIn K (.builtin "object.__class__") = some true) && decide (PySem.W.mroIn K (He.ga K x) (.type "object") = some true)))))))
  | .kit x y b => decide (PySem.W.kitOne K (.ref (He.ga K x)) (.ref (He.ga K y)) = some b)
  | .kitT x t b => decide (PySem.W.kitOne K (.ref (He.ga K x)) (.type t) = some b)
  | .exm x y b => decide (PySem.W.exmOne K (.ref (He.ga K x)) (.ref (He.ga K y)) = some b)
theorem Fx.excC_ok {K : PySem.W.Frag} {x : Str} (c : (Fx.excC x).ok K = true) : ExcC K (He.ga K x) := by
  obtain ⟨c1, c⟩ := He.ba c
  obtain ⟨c2, c⟩ := He.ba c
  obtain ⟨c3, c⟩ := He.ba c
  obtain ⟨c4, c⟩ := He.ba c
  obtain ⟨c5, c⟩ := He.ba c
  obtain ⟨c6, c⟩ := He.ba c
  obtain ⟨c7, c8⟩ := He.ba c
  exact ⟨He.eqO_ok c1, He.eqO_ok c2, of_decide_eq_true c3, c4, He.eqO_ok c5, He.eqO_ok c6, of_decide_eq_true c7, of_decide_eq_true c8⟩
theorem Fx.kit_ok {K : PySem.W.Frag} {x y : Str} {b : Bool} (c : (Fx.kit x y b).ok K = true) : PySem.W.kitOne K (.ref (He.ga K x)) (.ref (He.ga K y)) = some b := of_decide_eq_true c
theorem Fx.kitT_ok {K : PySem.W.Frag} {x : Str} {t : String} {b : Bool} (c : (Fx.kitT x t b).ok K = true) : PySem.W.kitOne K (.ref (He.ga K x)) (.type t) = some b := of_decide_eq_true c
theorem Fx.exm_ok {K : PySem.W.Frag} {x y : Str} {b : Bool} (c : (Fx.exm x y b).ok K = true) : PySem.W.exmOne K (.ref (He.ga K x)) (.ref (He.ga K y)) = some b := of_decide_eq_true c
abbrev AlF : Type := He.AlD × Bool
def obsF (fa : List He.Fa) (fn : List He.DefD) (fx : List Fx) (K : PySem.W.Frag) : AlF := (He.obsD fa fn K, fx.all fun f => f.ok K)
def SaysF (fa : List He.Fa) (fn : List He.DefD) (fx : List Fx) (K : PySem.W.Frag) : Prop := obsF fa fn fx K = (He.valD fn, true)
def obsFG (n : Nat) (fa : List He.Fa) (fn : List He.DefD) (fx : List Fx) (g : Addr → Option Obj) : AlF := obsF fa fn fx (He.frG g (He.asD g n))
def hookF (n : Nat) (fa : List He.Fa) (fn : List He.DefD) (fx : List Fx) : PySem.W.Hook where
  α := AlF
  obs := fun s => obsFG n fa fn fx s.heap.get?
  val := fun _ => (He.valD fn, true)
  says := fun _ h => ∃ K : PySem.W.Frag, K.In h ∧ SaysF fa fn fx K
  of := fun _ _ e => ⟨_, He.frG_in, e⟩
  keeps := fun _ _ _ ⟨K, hK, c⟩ k => ⟨K, PySem.W.Frag.In.keeps hK k, c⟩
theorem obsFG_eq {n : Nat} {fa : List He.Fa} {fn : List He.DefD} {fx : List Fx} {g : Addr → Option Obj} {s : Shared} (h : ∀ a, g a = s.heap.get? a) : obsFG n fa fn fx g = (hookF n fa fn fx).obs s := by
  have e : g = s.heap.get? := funext h
  rw [e] <;> rfl
theorem SaysF.d {fa : List He.Fa} {fn : List He.DefD} {fx : List Fx} {K : PySem.W.Frag} (c : SaysF fa fn fx K) : He.SaysD fa fn K := congrArg (fun z : AlF => z.1) c
theorem SaysF.fx {fa : List He.Fa} {fn : List He.DefD} {fx : List Fx} {K : PySem.W.Frag} (c : SaysF fa fn fx K) (i : Nat) {f : Fx} (h : fx[i]? = some f := by rfl) : f.ok K = true := by
  have c1 : (fx.all fun f => f.ok K) = true := congrArg (fun z : AlF => z.2) c
  exact List.all_eq_true.mp c1 f (List.mem_of_getElem? h)
end Tw
namespace Tw
open PySem PySem.Spec PyProof.Rows L2 NdefX LamX
/-! ### closures: captured cells, tracked once the maker has returned -/
theorem relV_fun : ∀ {v v' : V} {u : Value}, L2.RelV v u → L2.RelV v' u → v = v' := by
  intro v v' u a b
  cases v <;> cases v' <;> simp only [L2.RelV] at a b <;> first | rfl | (subst a; obtain ⟨_, b⟩ := b; cases b; done) | (subst a; cases b; rfl) | (subst a; cases b; done) | (obtain ⟨_, rfl⟩ := a; obtain ⟨_, b⟩ := b; cases b; rfl) | (obtain ⟨_, rfl⟩ := a; obtain ⟨_, b⟩ := b; cases b; done) | (obtain ⟨_, rfl⟩ := a; cases b; done)
def CellO (c : Addr) (v : V) : HO := .ext fun h => ∃ u, L2.RelV v u ∧ h.IsCell c (some u)
def hide (C : Addr → Prop) [DecidablePred C] (H : Hp) : Hp := fun b => if C b then none else H b
def unhide (C : Addr → Prop) [DecidablePred C] (H H' : Hp) : Hp := fun b => if C b then H b else H' b
section
variable {P : Program} {w : World} {K : PySem.W.Frag} {mg : Str → Option Value} {base : Heap} {A : Around} {outer : List Env} {s s' : Shared} {H H' H3 : Hp} {C : Addr → Prop} [DecidablePred C]
theorem hide_in {b : Addr} (h : C b) : hide C H b = none := if_pos h
theorem hide_out {b : Addr} (h : ¬ C b) : hide C H b = H b := if_neg h
theorem unhide_in {b : Addr} (h : C b) : unhide C H H' b = H b := if_pos h
theorem unhide_out {b : Addr} (h : ¬ C b) : unhide C H H' b = H' b := if_neg h
/-- all that is hidden are cells -/
def Cells (C : Addr → Prop) (H : Hp) : Prop := ∀ b, C b → ∃ v, H b = some (CellO b v)
theorem Cells.not (hC : Cells C H) {b : Addr} {o : HO} (e : H b = some o) (n : ∀ φ, o ≠ .ext φ) : ¬ C b := fun z => by
  obtain ⟨v, q⟩ := hC b z
  rw [e] at q
  exact n _ (Option.some.inj q)
theorem hok_hide (ok : HOk P w H s.heap) (hC : Cells C H) : HOk P w (hide C H) s.heap := fun a o e => by
  by_cases ha : C a
  · rw [hide_in ha] at e; cases e
  · rw [hide_out ha] at e
    exact (ok a o e).stay (fun _ _ _ q => q) (fun b q => (hide_out (hC.not q fun _ z => nomatch z)).trans q) fun b xs q => (hide_out (hC.not q fun _ z => nomatch z)).trans q
theorem env0_hide (e0 : Env0 P w K mg base A outer s H) (hC : Cells C H) : Env0 P w K mg base A outer s (hide C H) := by
  have hn : ∀ {b}, H b = none → hide C H b = none := fun {b} q => by
    by_cases hb : C b
    · exact hide_in hb
    · exact (hide_out hb).trans q
  exact ⟨e0.frames, e0.mod, fun b o e => ⟨(e0.bs b o e).1, hn (e0.bs b o e).2⟩, e0.bsz, e0.funs, fun b hb => hn (e0.frf b hb), hok_hide e0.hok hC, e0.bare⟩
theorem cellO_get {c : Addr} {v : V} (ok : HOk P w H s.heap) (e : H c = some (CellO c v)) : ∃ u, L2.RelV v u ∧ s.heap.IsCell c (some u) := (ok c _ e).1
theorem ce_unhide {Q : VK} {u : Value} (ok : HOk P w H s.heap) (hC : Cells C H) (h : CE outer P w (hide C H) s (fun v H' => Q v (unhide C H H')) u s') : CE outer P w H s Q u s' := by
  obtain ⟨v, H', os, bare, un, ok', r, q⟩ := h
  have some_out : ∀ {b}, H b = none → ¬ C b := fun {b} n z => by
    obtain ⟨v, e⟩ := hC b z
    rw [n] at e; cases e
  have hn : ∀ {b}, H b = none → hide C H b = none := fun {b} n => (hide_out (some_out n)).trans n
  have gone : ∀ {b}, C b → H' b = none := fun {b} z => by
    obtain ⟨v, e⟩ := hC b z
    obtain ⟨_, _, o, ho, _⟩ := cellO_get ok e
    exact un.free b o ho (hide_in z) (by simp)
  refine ⟨v, unhide C H H', os, bare, ⟨fun b o e n => un.keep b o e (hn n), fun b o e n => un.slot b o e (hn n), fun b o e n hx => ?_, un.there, fun b xs e => ?_, fun b o u e => ?_, fun b ps e => ?_⟩, fun a o e => ?_, r, q⟩
  · rw [unhide_out (some_out n)]; exact un.free b o e (hn n) hx
  · have hb : ¬ C b := hC.not e fun _ z => nomatch z
    rw [unhide_out hb]; exact un.tups b xs (by rw [hide_out hb]; exact e)
  · have hb : ¬ C b := hC.not e fun _ z => nomatch z
    rw [unhide_out hb]; exact un.frzs b o u (by rw [hide_out hb]; exact e)
  · have hb : ¬ C b := hC.not e fun _ z => nomatch z
    rw [unhide_out hb]; exact un.tbls b ps (by rw [hide_out hb]; exact e)
  · by_cases ha : C a
    · rw [unhide_in ha] at e
      obtain ⟨v, q⟩ := hC a ha
      rw [e] at q; cases q
      obtain ⟨⟨u, ru, ob, ho, hd⟩, _, st⟩ := ok a _ e
      obtain ⟨sl, h2⟩ := un.any ho (hide_in ha) (by simp)
      exact ⟨⟨u, ru, _, h2, hd⟩, ⟨_, h2⟩, st⟩
    · rw [unhide_out ha] at e
      refine (ok' a o e).stay (fun _ _ _ q => q) (fun b q => ?_) fun b xs q => ?_
      · by_cases hb : C b
        · rw [gone hb] at q; cases q
        · rw [unhide_out hb]; exact q
      · by_cases hb : C b
        · rw [gone hb] at q; cases q
        · rw [unhide_out hb]; exact q
end
/-! ### functions that are called by a value -/
def IsFn (H : Hp) (f : Addr) : Prop := ∃ φ, H f = some (.ext φ) ∧ ∀ h, φ h → PySem.W.FnAt f h
theorem IsFn.same {H H' : Hp} {f : Addr} (h : IsFn H f) (s : Same H H') : IsFn H' f := by
  obtain ⟨φ, e, q⟩ := h
  exact ⟨φ, s.get e, q⟩
theorem isFn_fno {H : Hp} {f : Addr} {F : NF} (e : H f = some (FnO f F)) : IsFn H f := ⟨_, e, fun h ⟨od, sl, doc, pm, ctv, q⟩ => ⟨_, _, _, _, q⟩⟩
/-- what a lambda's object is -/
def LamO (body : Expr) (f : Addr) (F : NF) : HO := .ext fun h => ∃ pm ctv, h.get? f = some (PySem.W.kla_obj F.name F.qual F.params body F.scope F.cl pm F.c ctv)
theorem isFn_lam {H : Hp} {f : Addr} {F : NF} {b : Expr} (e : H f = some (LamO b f F)) : IsFn H f := ⟨_, e, fun h ⟨pm, ctv, q⟩ => ⟨_, _, _, _, q⟩⟩
/-- calls by value: at levels -/
structure CLs where
  run : Nat → Addr → List V → Hp → VK → Prop
  mono : ∀ {j k f vs H Q}, j ≤ k → run j f vs H Q → run k f vs H Q
  imp : ∀ {j f vs H} {Q Q' : VK}, (∀ v H', Q v H' → Q' v H') → run j f vs H Q → run j f vs H Q'
def Cal (P : Program) (w : World) (K : PySem.W.Frag) (mg : Str → Option Value) (base : Heap) : CLs where
  run := fun k f vs H Q => IsFn H f ∧ ∀ (A : Around) (outer : List Env) (s : Shared) (us : List Value), Room k A → Env0 P w K mg base A outer s H → Vals vs us →
    codeAny (model P w) A (.call (.ref f) ⟨us, []⟩) (CR CX0 outer P w H s Q (fun _ _ _ => False)) s
  mono := fun h ⟨a, b⟩ => ⟨a, fun A outer s us hr => b A outer s us (hr.mono h)⟩
  imp := fun h ⟨a, b⟩ => ⟨a, fun A outer s us hr e0 r => codeAny_mono (b A outer s us hr e0 r) fun r s' q => by
    cases r with
    | error e => exact q
    | ok fl =>
      cases fl with
      | ret u =>
        obtain ⟨v, H', q1, q2, q3, q4, q5, q6⟩ := q
        exact ⟨v, H', q1, q2, q3, q4, q5, h _ _ q6⟩
      | next => exact q
      | brk => exact q
      | cont => exact q⟩
/-- a local name's value is called -/
def tCallV (CL : CLs) (j : Nat) (i : Nat) (t : TA) : TE := fun σ H Q => ∃ f, σ[i]? = some (some (.ref f)) ∧ IsFn H f ∧ t σ H fun vs H1 => CL.run j f vs H1 Q
section
variable {X : Cx} {k j i : Nat} {x : Str} {p pos : Pos} {e : Expr} {es : List Expr} {t : TA}
theorem isFn_at {pins : List (Addr × Obj)} {σ : L2.St} {H : Hp} {s : Shared} {f : Addr} (I : Inv X pins σ H s) (h : IsFn H f) : PySem.W.FnAt f s.heap := by
  obtain ⟨φ, e, q⟩ := h
  exact q _ (I.hok f _ e).1
theorem pe_callV (hr : Room j X.A) (hk : k ≤ j) (hN : X.N[i]? = some x) (hv : Vis X.env.scope x) (ha : PA X (e :: es) t)
    (hdb : (x == ("__debug__" : Str)) = false := by decide) (hcd : (x == ("__classdict__" : Str)) = false := by decide)
    (he : starEach (e :: es) X.env = (false, eval e X.env) :: starEach es X.env := by rfl) (hpl : (backTo pos (starEach es X.env)).any (·.1) = false := by rfl) :
    PE X (.Call (.Name x p) (e :: es) [] pos) (tCallV (Cal X.prog X.w X.K X.mg X.base) k i t) := by
  refine ⟨fun pins s σ H Q I h => ?_⟩
  obtain ⟨f, hs, hf, ht⟩ := h
  refine wpAny_Call_Name_kw (thn ((pe_var (pos := p) hN hv hdb hcd).run pins s σ H (fun v H1 => v = .ref f ∧ H1 = H) I ⟨.ref f, hs, rfl, rfl⟩) fun u s1 ⟨v, H1, I1, r1, q1⟩ => ?_)
  obtain ⟨rfl, rfl⟩ := q1
  cases r1
  refine PySem.W.callWith_F (first := []) (isFn_at I1 hf) (thn (ha.run pos pins s1 σ _ _ I1 ht) fun us s2 ⟨vs, H2, I2, r, q⟩ => ⟨isFn_at I2 q.1, ?_⟩) he hpl
  refine wpAny_call (codeAny_mono (q.2 X.A X.stack s2 us (hr.mono hk) I2.env0 r) fun r s' hq => ?_)
  cases r with
  | error e => exact hq.elim
  | ok fl =>
    cases fl with
    | ret u => exact I2.after hq
    | next => exact False.elim hq
    | brk => exact False.elim hq
    | cont => exact False.elim hq
end
/-! ### what a closure promises -/
structure COk (O : Addr → NF → HO) (P : Program) (w : World) (K : PySem.W.Frag) (mg : Str → Option Value) (base : Heap) (k : Nat) (f : Addr) (F : NF) (ps fr : List Str) (sp : List V → List V → Hp → VK → Prop) : Prop where
  run : ∀ (A : Around) (outer : List Env) (s : Shared) (H : Hp) (us : List Value) (vs ws : List V) (Q : VK), Room k A → Env0 P w K mg base A outer s H → H f = some (O f F) → H F.c = some (CodeO F.c F.qual) →
    CellsAt F.cl fr (ws.map some) s.heap H → Vals vs us → sp ws vs H Q → codeAny (model P w) A (.call (.ref f) ⟨us, []⟩) (CR CX0 outer P w H s Q (fun _ _ _ => False)) s
section
variable {P : Program} {w : World} {K : PySem.W.Frag} {mg : Str → Option Value} {base : Heap} {N ps fr : List Str} {F : NF} {f : Addr} {k : Nat} {sp : List V → List V → Hp → VK → Prop}
theorem cok_def (S : NScope N ps fr F.scope) (hb : ∀ (doc pm ctv : Value) (us : List Value), us.length = ps.length → bindArgs (F.fd doc pm ctv) ⟨us, []⟩ = pure (ps.zip us)) (len : ∀ ws vs H Q, sp ws vs H Q → vs.length = ps.length)
    (hbody : ∀ (A : Around) (outer : List Env) (s : Shared) (H : Hp) (vs ws : List V) (Q : VK), Room k (A.deeper (envF F f s.heap.objs.size)) → ws.length = fr.length → sp ws vs H Q →
      ∃ t, PSs (ncx CX0 P w K mg base N F f A outer s H (fun _ _ _ => False)) F.body t ∧ t { nx := fun _ H' => Q .non H', rt := Q } (startF N vs (ws.map some)) H) :
    COk FnO P w K mg base (k + 1) f F ps fr sp := by
  have n : NOk P w K mg base CX0 (k + 1) f F ps fr (fun ws' vs H Q E => ∃ ws, ws' = ws.map some ∧ sp ws vs H Q ∧ E = fun _ _ _ => False) :=
    nok_of S hb (fun ws vs H Q E ⟨_, _, h, _⟩ => len _ _ _ _ h) fun A outer s H vs ws' Q E hr _ _ hl ⟨ws, e, h, eE⟩ => by
      subst e; subst eE
      exact hbody A outer s H vs ws Q hr (by rw [← hl, List.length_map]) h
  exact ⟨fun A outer s H us vs ws Q hr e0 hf hc C r h => n.run A outer s H us vs _ Q _ hr e0 hf hc C r ⟨ws, rfl, h, rfl⟩⟩
/-- a lambda by its expression -/
theorem cok_lam {body : Expr} (S : NScope N ps fr F.scope) (hb : ∀ (pm cd ctv : Value) (us : List Value), us.length = ps.length → bindArgs (PySem.W.kla_fn F.name F.qual F.params body F.scope F.cl pm cd ctv) ⟨us, []⟩ = pure (ps.zip us)) (len : ∀ ws vs H Q, sp ws vs H Q → vs.length = ps.length)
    (hbody : ∀ (A : Around) (outer : List Env) (s : Shared) (H : Hp) (vs ws : List V) (Q : VK), Room k (A.deeper (envF F f s.heap.objs.size)) → ws.length = fr.length → sp ws vs H Q →
      ∃ t, PE (ncx CX0 P w K mg base N F f A outer s H (fun _ _ _ => False)) body t ∧ t (startF N vs (ws.map some)) H Q) :
    COk (LamO body) P w K mg base (k + 1) f F ps fr sp := by
  refine ⟨fun A outer s H us vs ws Q hr e0 hf hc C r hsp => ?_⟩
  have hl := len _ _ _ _ hsp
  have lim : s.heap.NoLimit := e0.mod.nolimit.keeps fun b o e => (e0.bs b o e).1
  obtain ⟨⟨pm, ctv, ho⟩, _, _⟩ := e0.hok f _ hf
  refine PySem.W.kla_callFunE hr.depth ho rfl S.co S.gen rfl (codeO_at e0.hok hc) ?_
  rw [hb pm (.ref F.c) ctv us (by rw [← r.length]; exact hl)]
  refine wpAny_pure (wpAny_newFunctionEnv S.nocell (fun ⟨n, _⟩ hy => S.par n (List.of_mem_zip hy).1) (fun h₁ hns hsb => ⟨lim.fresh _ hsb, ?_⟩) S.kind)
  show codeAny _ _ (.expr body (envF F f s.heap.objs.size)) _ _
  have kp : ∀ b o, s.heap.get? b = some o → h₁.get? b = some o := fun b o e => hsb.extBut b o (Nat.ne_of_lt (Heap.lt_size e)) (Heap.get?_push_of_some _ e)
  obtain ⟨t, ht, hq⟩ := hbody A outer s H vs ws Q (hr.deeper _) (by rw [← C.len, List.length_map]) hsp
  have I : Inv (ncx CX0 P w K mg base N F f A outer s H (fun _ _ _ => False)) [] (startF N vs (ws.map some)) H { s with heap := h₁, toks := s.toks + (ps.zip us).length } := inv_startN S hr.hd e0 hl r C hns kp
  refine PySem.W.kla_codeExpr (wpAny_mono (ht.run [] _ _ H Q I hq) (fun v s' hq => ?_) fun e s' hq => hq)
  obtain ⟨w', H', J, rv, q⟩ := hq
  exact ⟨w', H', J.os, J.bare, J.base, J.hok, rv, q⟩
/-- a closure called from outside its maker: its cells are tracked -/
theorem cal_of {O : Addr → NF → HO} {ws vs : List V} {H : Hp} {Q : VK} {C : Addr → Prop} [DecidablePred C] (n : COk O P w K mg base k f F ps fr sp) (hfn : IsFn H f) (hf : H f = some (O f F)) (hc : H F.c = some (CodeO F.c F.qual)) (hC : Cells C H) (hlen : ws.length = fr.length)
    (hall : ∀ y c, F.cl.lookup y = some c → C c) (hinj : ∀ x y c, F.cl.lookup x = some c → F.cl.lookup y = some c → x = y) (hhas : ∀ (i : Nat) (y : Str), fr[i]? = some y → ∃ c, F.cl.lookup y = some c ∧ ∀ v, ws[i]? = some v → H c = some (CellO c v))
    (nf : ¬ C f) (nc : ¬ C F.c) (hsp : sp ws vs (hide C H) fun v H' => Q v (unhide C H H')) : (Cal P w K mg base).run k f vs H Q := by
  refine ⟨hfn, fun A outer s us hr e0 r => ?_⟩
  have CA : CellsAt F.cl fr (ws.map some) s.heap (hide C H) := by
    refine ⟨by rw [List.length_map]; exact hlen, fun y c e => ⟨hide_in (hall y c e), ?_⟩, hinj, fun i y e => ?_⟩
    · obtain ⟨v, q⟩ := hC c (hall y c e)
      obtain ⟨u, _, z⟩ := cellO_get e0.hok q
      exact ⟨_, z⟩
    · obtain ⟨c, h1, h2⟩ := hhas i y e
      refine ⟨c, h1, fun v ev => ?_⟩
      rw [List.getElem?_map] at ev
      cases q : ws[i]? with
      | none => rw [q] at ev; cases ev
      | some v' =>
        rw [q] at ev
        cases ev
        exact cellO_get e0.hok (h2 v q)
  refine codeAny_mono (n.run A outer s (hide C H) us vs ws _ hr (env0_hide e0 hC) ((hide_out nf).trans hf) ((hide_out nc).trans hc) CA r hsp) fun r s' q => ?_
  cases r with
  | error e => exact q
  | ok fl =>
    cases fl with
    | ret u => exact ce_unhide e0.hok hC q
    | next => exact q
    | brk => exact q
    | cont => exact q
end
/-! ### the making of closures -/
section
variable {X : Cx} {pins : List (Addr × Obj)} {σ : L2.St} {H : Hp} {s : Shared}
theorem tabN_grow {H : Hp} {P c' : Addr} {pos : Pos} {ps : Array Value} (nC : H c' = none) (hP : H P = some (.tbl ps)) (ht : TriplesOk ps.toList) (hq : ∀ P', H P' = some (.tbl ps) → True) : ∀ P', TabN H P' nmL →
    TabN (upd (upd H P (.tbl (ps ++ #[rawInt pos.line, rawInt pos.col, .ref c']))) c' (CodeO c' (nmL pos.line pos.col))) P' nmL := fun P' t => by
  obtain ⟨ps', h1, h2, h3⟩ := t
  have eL : (ps ++ #[rawInt pos.line, rawInt pos.col, .ref c']).toList = ps.toList ++ [rawInt pos.line, rawInt pos.col, .ref c'] := by simp
  have old : ∀ {b : Addr} {q : Str}, H b = some (CodeO b q) → upd (upd H P (.tbl (ps ++ #[rawInt pos.line, rawInt pos.col, .ref c']))) c' (CodeO c' (nmL pos.line pos.col)) b = some (CodeO b q) := fun {b q} e => by
    rw [upd_ne (ne_of_none e nC), upd_ne (fun z => by rw [z, hP] at e; exact codeO_ne ps (Option.some.inj e).symm)]
    exact e
  by_cases hb : P' = P
  · subst hb
    rw [hP] at h1; cases h1
    refine ⟨_, by rw [upd_ne (ne_of_none hP nC), upd_same], by rw [eL]; exact PySem.TriplesOk_snoc _ _ _ _ ht, fun p' cv hcv => ?_⟩
    rw [eL] at hcv
    rcases among_app2 _ ht hcv with z | ⟨z, z1, z2⟩
    · obtain ⟨c0, e1, e2⟩ := h3 p' cv z
      exact ⟨c0, e1, old e2⟩
    · refine ⟨c', z, ?_⟩
      rw [← z1, ← z2]
      exact upd_same
  · refine ⟨ps', by rw [upd_ne (ne_of_none h1 nC), upd_ne hb]; exact h1, h2, fun p' cv hcv => ?_⟩
    obtain ⟨c0, e1, e2⟩ := h3 p' cv hcv
    exact ⟨c0, e1, old e2⟩
theorem same_grow {H : Hp} {P c' : Addr} {pos : Pos} {ps : Array Value} (nC : H c' = none) (hP : H P = some (.tbl ps)) (ht : TriplesOk ps.toList) :
    Same H (upd (upd H P (.tbl (ps ++ #[rawInt pos.line, rawInt pos.col, .ref c']))) c' (CodeO c' (nmL pos.line pos.col))) := by
  refine ⟨fun b o e n => ?_, fun b e => upd_none (upd_none e), tabN_grow nC hP ht fun _ _ => trivial⟩
  rw [upd_ne (ne_of_none e nC), upd_ne (fun z => n ps (Option.some.inj (e.symm.trans (by rw [z]; exact hP))))]
  exact e
/-- the def's object is made -/
theorem ndef_makeC {c P : Addr} {name : Str} {params : Arguments} {body : List Stmt} {scope : Scope} {pos : Pos} {E : Value → Shared → Prop} {Q : Value → Shared → Prop} (I : Inv X pins σ H s) (TB : TabB X.base X.mg c P) (hcode : X.env.code = .ref c)
    (hn : nmL pos.line pos.col = X.env.qual ++ name) (hT : TabN H P nmL) (hfree : ∀ y ∈ scope.names, y.2 = .free → ∃ c, X.env.cells.lookup y.1 = some c)
    (h : ∀ (f c' : Addr) (H1 : Hp) (s' : Shared), Inv X pins σ H1 s' → Same H H1 → H f = none → H1 f = some (FnO f ⟨name, X.env.qual ++ name, params, body, scope, cloFrom X.env.cells scope.names [], c'⟩) → H1 c' = some (CodeO c' (X.env.qual ++ name)) → Q (.ref f) s') :
    wpAny (model X.prog X.w) X.A (makeFunction name (X.env.qual ++ name) params (.stmts body) scope X.env [] [] [] pos pos.line) Q E s := by
  obtain ⟨ps, hP, ht, ha⟩ := hT
  have bP : s.heap.BuiltinsAt X.mg P := TB.bm.keeps I.bk
  have hP' : s.heap.get? P = some { cls := .none, data := .fields ps } := I.hok P _ hP
  cases hc : codeAmong pos ps.toList with
  | none =>
    refine PySem.W.makeFunction_K (mg := X.mg) (c := c) (P := P) (ps := ps) (closure_ok hfree) I.ok.glob (I.mod.glob.keeps I.bk) hcode (TB.code.keeps I.bk) hP' ht hc TB.gP bP fun c' ctv doc h' tk hx hge hlt hrec htb => ?_
    obtain ⟨c2, oc, vs, t, e2, hoc, hd, hv⟩ := hrec
    cases e2
    have nC : H c' = none := I.hok.fresh hge
    have I1 := inv_table (t' := tk) (more := #[rawInt pos.line, rawInt pos.col, .ref c']) (h' := h') I hP (fun b o hb e => hx b o hb e) htb hge ⟨oc, vs, t, hoc, hd, hv⟩
    have S1 : Same H (upd (upd H P (.tbl (ps ++ #[rawInt pos.line, rawInt pos.col, .ref c']))) c' (CodeO c' (X.env.qual ++ name))) := hn ▸ same_grow (pos := pos) nC hP ht
    have nF := I1.hok.fresh (Nat.le_refl _)
    have I2 := inv_fn (F := ⟨name, X.env.qual ++ name, params, body, scope, cloFrom X.env.cells scope.names [], c'⟩) (t' := tk) (doc := doc) (pm := (X.mg "__name__").getD .none) (ctv := ctv) I1 rfl
    exact h h'.objs.size c' _ _ I2 (S1.trans (same_new nF)) (I.hok.fresh (Nat.le_trans hge (Nat.le_of_lt hlt))) upd_same ((upd_ne (Nat.ne_of_lt hlt)).trans upd_same)
  | some cv =>
    obtain ⟨c', e, hco⟩ := ha pos cv hc
    subst e
    rw [hn] at hco
    refine PySem.W.makeFunction_hit (mg := X.mg) (c := c) (P := P) (ps := ps) (closure_ok hfree) I.ok.glob (I.mod.glob.keeps I.bk) hcode (TB.code.keeps I.bk) hP' ht hc bP fun ctv doc h' tk hx hsz => ?_
    have I1 : Inv X pins σ H { s with heap := h', toks := tk } := I.kept hx
    have nF : H h'.objs.size = none := I1.hok.fresh (Nat.le_refl _)
    have I2 := inv_fn (F := ⟨name, X.env.qual ++ name, params, body, scope, cloFrom X.env.cells scope.names [], c'⟩) (t' := tk) (doc := doc) (pm := (X.mg "__name__").getD .none) (ctv := ctv) I1 rfl
    exact h h'.objs.size c' _ _ I2 (same_new nF) nF upd_same ((upd_ne (ne_of_none hco nF)).trans hco)
theorem lam_makeC {c P : Addr} {params : Arguments} {body : Expr} {scope : Scope} {pos : Pos} {E : Value → Shared → Prop} {Q : Value → Shared → Prop} (I : Inv X pins σ H s) (TB : TabB X.base X.mg c P) (hcode : X.env.code = .ref c)
    (hn : nmL pos.line pos.col = X.env.qual ++ "<lambda>") (hT : TabN H P nmL) (hdef : defaultsOf params X.env = ([], [])) (hfree : ∀ y ∈ scope.names, y.2 = .free → ∃ c, X.env.cells.lookup y.1 = some c)
    (h : ∀ (f c' : Addr) (H1 : Hp) (s' : Shared), Inv X pins σ H1 s' → Same H H1 → H f = none → H1 f = some (LamO body f ⟨"<lambda>", X.env.qual ++ "<lambda>", params, [], scope, cloFrom X.env.cells scope.names [], c'⟩) → H1 c' = some (CodeO c' (X.env.qual ++ "<lambda>")) → Q (.ref f) s') :
    wpAny (model X.prog X.w) X.A (eval (.Lambda params body scope pos) X.env) Q E s := by
  obtain ⟨ps, hP, ht, ha⟩ := hT
  refine PySem.W.kla_eval hdef ?_
  have bP : s.heap.BuiltinsAt X.mg P := TB.bm.keeps I.bk
  have hP' : s.heap.get? P = some { cls := .none, data := .fields ps } := I.hok P _ hP
  have lamI : ∀ {H1 : Hp} {s1 : Shared} {c' : Addr} {pm ctv : Value} {tk : Nat}, Inv X pins σ H1 s1 → Inv X pins σ (upd H1 s1.heap.objs.size (LamO body s1.heap.objs.size ⟨"<lambda>", X.env.qual ++ "<lambda>", params, [], scope, cloFrom X.env.cells scope.names [], c'⟩))
      { s1 with heap := s1.heap.push (PySem.W.kla_obj "<lambda>" (X.env.qual ++ "<lambda>") params body scope (cloFrom X.env.cells scope.names []) pm c' ctv), toks := tk } := fun {H1 s1 c' pm ctv tk} I1 => by
    have e := Heap.get?_push_size s1.heap (o := PySem.W.kla_obj "<lambda>" (X.env.qual ++ "<lambda>") params body scope (cloFrom X.env.cells scope.names []) pm c' ctv) rfl
    exact I1.laid (fun b u e => Heap.get?_push_of_some _ e) (Nat.le_refl _) ⟨⟨pm, ctv, e⟩, ⟨_, e⟩, fun h1 h2 ⟨p, t, z⟩ st => ⟨p, t, st _ z⟩⟩
  cases hc : codeAmong pos ps.toList with
  | none =>
    refine PySem.W.kla_makeFunction (mg := X.mg) (c := c) (P := P) (ps := ps) (closure_ok hfree) I.ok.glob (I.mod.glob.keeps I.bk) hcode (TB.code.keeps I.bk) hP' ht hc TB.gP bP fun c' ctv h' tk hx hge hlt hrec htb => ?_
    obtain ⟨c2, oc, vs, t, e2, hoc, hd, hv⟩ := hrec
    cases e2
    have nC : H c' = none := I.hok.fresh hge
    have I1 := inv_table (t' := tk) (more := #[rawInt pos.line, rawInt pos.col, .ref c']) (h' := h') I hP (fun b o hb e => hx b o hb e) htb hge ⟨oc, vs, t, hoc, hd, hv⟩
    have S1 : Same H (upd (upd H P (.tbl (ps ++ #[rawInt pos.line, rawInt pos.col, .ref c']))) c' (CodeO c' (X.env.qual ++ "<lambda>"))) := hn ▸ same_grow (pos := pos) nC hP ht
    have nF := I1.hok.fresh (Nat.le_refl _)
    exact h h'.objs.size c' _ _ (lamI I1) (S1.trans (same_new nF)) (I.hok.fresh (Nat.le_trans hge (Nat.le_of_lt hlt))) upd_same ((upd_ne (Nat.ne_of_lt hlt)).trans upd_same)
  | some cv =>
    obtain ⟨c', e, hco⟩ := ha pos cv hc
    subst e
    rw [hn] at hco
    refine PySem.W.kla_makeFunctionHit (mg := X.mg) (c := c) (P := P) (ps := ps) (closure_ok hfree) I.ok.glob (I.mod.glob.keeps I.bk) hcode (TB.code.keeps I.bk) hP' ht hc bP fun ctv h' tk hx hsz => ?_
    have I1 : Inv X pins σ H { s with heap := h', toks := tk } := I.kept hx
    have nF : H h'.objs.size = none := I1.hok.fresh (Nat.le_refl _)
    exact h h'.objs.size c' _ _ (lamI I1) (same_new nF) nF upd_same ((upd_ne (ne_of_none hco nF)).trans hco)
end
/-- the readings: P the maker's table -/
def tNdefC (P : Addr) (i : Nat) (mk : Addr → NF) : TS := fun D σ H => TabN H P nmL ∧ ∀ (f c' : Addr) (H1 : Hp), Same H H1 → H f = none → H1 f = some (FnO f (mk c')) → H1 (mk c').c = some (CodeO (mk c').c (mk c').qual) → D.nx (σ.set i (some (.ref f))) H1
def tLamC (P : Addr) (body : Expr) (mk : Addr → NF) : TE := fun σ H Q => TabN H P nmL ∧ ∀ (f c' : Addr) (H1 : Hp), Same H H1 → H f = none → H1 f = some (LamO body f (mk c')) → H1 (mk c').c = some (CodeO (mk c').c (mk c').qual) → Q (.ref f) H1
/-- a lambda's words -/
def lamNF (e : Expr) (qual : Str) (cl : List (Str × Addr)) (c : Addr) : NF := match e with
  | .Lambda ps _ sc _ => ⟨"<lambda>", qual, ps, [], sc, cl, c⟩
  | _ => ⟨"", "", { posonlyargs := [], args := [], vararg := none, kwonlyargs := [], kw_defaults := [], kwarg := none, defaults := [] }, [], default, [], c⟩
section
variable {X : Cx}
theorem ps_ndefC {st : Stmt} {c P : Addr} {name : Str} {pos : Pos} {i : Nat} (hst : st = .FunctionDef name (C8.fnArgs st) (C8.fnBody st) [] none [] (C8.fnScope st) none name pos) (TB : TabB X.base X.mg c P) (hcode : X.env.code = .ref c) (hn : nmL pos.line pos.col = X.env.qual ++ name)
    (hfree : ∀ y ∈ (C8.fnScope st).names, y.2 = .free → X.env.scope.names.lookup y.1 = some .cell ∨ X.env.scope.names.lookup y.1 = some .free) (hd0 : (C8.fnArgs st).defaults = []) (hk0 : (C8.fnArgs st).kw_defaults = []) (ha : annTrees (C8.fnArgs st) none X.env = [])
    (hN : X.N.Nodup) (hi : X.N[i]? = some name) (hx : Loc X.env.scope name) (hf : X.fn name = true ∨ X.env.scope.names.lookup name = some .local) :
    PS X st (tNdefC P i (NF.of st name (X.env.qual ++ name) (cloFrom X.env.cells (C8.fnScope st).names []))) := by
  have main : PS X (.FunctionDef name (C8.fnArgs st) (C8.fnBody st) [] none [] (C8.fnScope st) none name pos) (tNdefC P i (NF.of st name (X.env.qual ++ name) (cloFrom X.env.cells (C8.fnScope st).names []))) := by
    refine ⟨fun pins s σ H D I h => ?_⟩
    obtain ⟨hT, h⟩ := h
    have hq : qualnameIn X.env name name = X.env.qual ++ name := by
      have hk : X.env.kindOf name = some .local ∨ X.env.kindOf name = some .cell := hx
      unfold qualnameIn
      rcases hk with k | k <;> rw [k] <;> first | rfl | exact if_neg (by decide)
    refine PySem.W.nestDef_K hd0 hk0 ha ?_
    rw [hq]
    have hfr : ∀ y ∈ (C8.fnScope st).names, y.2 = .free → ∃ c, X.env.cells.lookup y.1 = some c := fun y hy e => (hfree y hy e).elim (fun z => I.ok.has _ (.inl z)) fun z => I.ok.has _ (.inr z)
    refine ndef_makeC I TB hcode hn hT hfr fun f c' H1 s' I1 S1 f0 f1 c1 => ?_
    exact store_ok I1 hN hi hx (v := .ref f) rfl (fun s'' J => ⟨_, H1, J, h f c' H1 S1 f0 f1 c1⟩) hf
  rw [← hst] at main
  exact main
theorem pe_lamC {params : Arguments} {body : Expr} {scope : Scope} {pos : Pos} {c P : Addr} (TB : TabB X.base X.mg c P) (hcode : X.env.code = .ref c) (hn : nmL pos.line pos.col = X.env.qual ++ "<lambda>")
    (hfree : ∀ y ∈ scope.names, y.2 = .free → X.env.scope.names.lookup y.1 = some .cell ∨ X.env.scope.names.lookup y.1 = some .free) (hdef : defaultsOf params X.env = ([], [])) :
    PE X (.Lambda params body scope pos) (tLamC P body (lamNF (.Lambda params body scope pos) (X.env.qual ++ "<lambda>") (cloFrom X.env.cells scope.names []))) := by
  refine ⟨fun pins s σ H Q I h => ?_⟩
  obtain ⟨hT, h⟩ := h
  have hfr : ∀ y ∈ scope.names, y.2 = .free → ∃ c, X.env.cells.lookup y.1 = some c := fun y hy e => (hfree y hy e).elim (fun z => I.ok.has _ (.inl z)) fun z => I.ok.has _ (.inr z)
  exact lam_makeC I TB hcode hn hT hdef hfr fun f c' H1 s' I1 S1 f0 f1 c1 => ⟨.ref f, H1, I1, rfl, h f c' H1 S1 f0 f1 c1⟩
end
def lamBody : Expr → Expr
  | .Lambda _ b _ _ => b
  | e => e
def lamF : Expr → Expr
  | .Tuple es _ _ => es.getLast?.getD (.Constant .none 0 ⟨0, 0, 0, 0⟩)
  | e => e
def lamIn (b : List Stmt) : Expr := match b.getLast? with
  | some (.Return (some e) _) => lamF e
  | _ => .Constant .none 0 ⟨0, 0, 0, 0⟩
/-- the table of the def x -/
abbrev tabP (K : PySem.W.Frag) (x : Str) : Addr := (He.cT K (x, none)).2
/-! ### the maker returns: its captured cells are tracked from now on -/
/-- what is known of a closure that its maker gives out -/
structure Upg (CL : CLs) (lv : Nat) (O : Addr → NF → HO) (mk : Addr → NF) (js : List Nat) (spn : Nat → List V → List V → Hp → VK → Prop) (C : Addr → Prop) (dC : DecidablePred C) (σ : L2.St) (H Hp' : Hp) : Prop where
  hid : ∀ b, C b → H b = none
  same : ∀ b, ¬ C b → Hp' b = H b
  ext : ∀ b, C b → ∃ φ, Hp' b = some (.ext φ)
  law : ∀ f c', H f = some (O f (mk c')) → H (mk c').c = some (CodeO (mk c').c (mk c').qual) → ∀ ws : List V, js.map (slotAt σ) = ws.map some → ∀ (j : Nat) (H3 : Hp) (vs : List V) (Q3 : VK), (∀ b φ, Hp' b = some (.ext φ) → H3 b = some (.ext φ)) →
    spn j ws vs (hide C H3) (fun v H4 => Q3 v (unhide C H3 H4)) → CL.run (max j lv + 1) f vs H3 Q3
theorem Upg.up {CL : CLs} {lv : Nat} {O : Addr → NF → HO} {mk : Addr → NF} {js : List Nat} {spn : Nat → List V → List V → Hp → VK → Prop} {C : Addr → Prop} {dC : DecidablePred C} {σ : L2.St} {H H' : Hp} (u : Upg CL lv O mk js spn C dC σ H H') : Same H H' :=
  .of fun b o e => by rw [u.same b fun z => by rw [u.hid b z] at e; cases e]; exact e
theorem execs_app (a b : List Stmt) (env : Env) : execs (a ++ b) env = (execs a env >>= fun f => match f with | .next => execs b env | f => pure f) := by
  induction a with
  | nil => show execs b env = (pure Flow.next >>= _); rw [pure_bind]
  | cons x r ih =>
    show execs (x :: (r ++ b)) env = _
    rw [execs_cons, execs_cons, bind_assoc]
    congr 1
    funext f
    cases f with
    | next => exact ih
    | ret v => rw [pure_bind]
    | brk => rw [pure_bind]
    | cont => rw [pure_bind]
theorem wpAny_execs_app {M : Model} {A : Around} {E : Value → Shared → Prop} {s : Shared} {a b : List Stmt} {env : Env} {Q : Flow → Shared → Prop}
    (h : wpAny M A (execs a env) (fun f s' => match f with | .next => wpAny M A (execs b env) Q E s' | f => Q f s') E s) : wpAny M A (execs (a ++ b) env) Q E s := by
  rw [execs_app]
  refine wpAny_bind (wpAny_mono h (fun f s' q => ?_) fun _ _ q => q)
  cases f with
  | next => exact q
  | ret v => exact wpAny_pure q
  | brk => exact wpAny_pure q
  | cont => exact wpAny_pure q
def CellN (c : Addr) : HO := .ext fun h => ∃ v, h.IsCell c v
open Classical in
noncomputable def cellH (C : Addr → Prop) (h : Heap) (H : Hp) : Hp := fun b => if C b then some (if z : ∃ v, ∃ u, L2.RelV v u ∧ h.IsCell b (some u) then CellO b (Classical.choose z) else CellN b) else H b
theorem isCell_fun {h : Heap} {c : Addr} {v v' : Option Value} (a : h.IsCell c v) (b : h.IsCell c v') : v = v' := by
  obtain ⟨o, h1, h2⟩ := a
  obtain ⟨o', h3, h4⟩ := b
  rw [h1] at h3; cases h3
  rw [h2] at h4; cases h4; rfl
theorem cellH_in {C : Addr → Prop} {h : Heap} {H : Hp} {b : Addr} {v : V} {u : Value} (hb : C b) (r : L2.RelV v u) (z : h.IsCell b (some u)) : cellH C h H b = some (CellO b v) := by
  unfold cellH
  have ex : ∃ v, ∃ u, L2.RelV v u ∧ h.IsCell b (some u) := ⟨v, u, r, z⟩
  rw [if_pos hb, dif_pos ex]
  obtain ⟨u', r', z'⟩ := Classical.choose_spec ex
  have e := isCell_fun z z'
  cases e
  rw [relV_fun r' r]
theorem cellH_out {C : Addr → Prop} {h : Heap} {H : Hp} {b : Addr} (hb : ¬ C b) : cellH C h H b = H b := if_neg hb
theorem cellH_ext {C : Addr → Prop} {h : Heap} {H : Hp} {b : Addr} (hb : C b) : ∃ φ, cellH C h H b = some (.ext φ) := by
  unfold cellH
  rw [if_pos hb]
  split
  · exact ⟨_, rfl⟩
  · exact ⟨_, rfl⟩
theorem cellH_ok {P : Program} {w : World} {C : Addr → Prop} {h : Heap} {H : Hp} (ok : HOk P w H h) (hC : ∀ b, C b → H b = none ∧ ∃ v, h.IsCell b v) : HOk P w (cellH C h H) h := fun a o e => by
  by_cases ha : C a
  · obtain ⟨_, v, ob, ho, hd⟩ := hC a ha
    unfold cellH at e
    rw [if_pos ha] at e
    split at e
    · rename_i z
      cases e
      exact ⟨Classical.choose_spec z, ⟨ob, ho⟩, fun h1 h2 ⟨u, r, o, q1, q2⟩ st => ⟨u, r, o, st o q1, q2⟩⟩
    · cases e
      exact ⟨⟨v, ob, ho, hd⟩, ⟨ob, ho⟩, fun h1 h2 ⟨v, o, q1, q2⟩ st => ⟨v, o, st o q1, q2⟩⟩
  · rw [cellH_out ha] at e
    have out : ∀ {b u}, H b = some u → cellH C h H b = some u := fun {b u} q => (cellH_out fun z => by rw [(hC b z).1] at q; cases q).trans q
    exact (ok a o e).stay (fun _ _ _ q => q) (fun b q => out q) fun b xs q => out q
/-- the rule: a def that gives out a closure -/
theorem FunD.okC {P : Program} {w : World} {K : PySem.W.Frag} {mg : Str → Option Value} {base : Heap} {x : Str} {qual : Str} {params : Arguments} {body pre : List Stmt} {e : Expr} {pos : Pos} {scope nsc : Scope} {f : Addr} {fd : FuncData} {N ps fr psn : List Str} {js : List Nat} {k lv : Nat} {sp : Sp}
    {O : Addr → NF → HO} {mkF : List (Str × Addr) → Addr → NF} {spn : Nat → List V → List V → Hp → VK → Prop}
    (F : FunD K x qual params body scope [] [] f fd) (hbd : body = pre ++ [.Return (some e) pos]) (S : FnScope N ps scope) (len : ∀ vs H Q E, sp vs H Q E → vs.length = ps.length) (hO : ∀ {f : Addr} {F : NF}, ∃ φ, O f F = .ext φ ∧ ∀ h, φ h → PySem.W.FnAt f h)
    (hcl : ∀ cl c', (mkF cl c').cl = cl) (hsc : ∀ y ∈ nsc.names, y.2 = .free → y.1 ∈ fr) (hnd : ndefB scope nsc fr = true) (hjs : js.map (fun j => N[j]?) = fr.map some)
    (nok : ∀ j f cl c', COk O P w K mg base (max j lv + 1) f (mkF cl c') psn fr (spn j))
    (hbody : ∀ (c : Addr) (A : Around) (outer : List Env) (s : Shared) (H : Hp) (vs : List V) (Q : VK) (E : XK), He.codeOf K (x, none) = c → Room k (A.deeper (envOfC qual scope s.heap.objs.size f (.ref c))) → sp vs H Q E →
      ∃ (t : TS) (te : TE), PSs (cxOf CX0 P w K mg base N qual scope f (.ref c) A outer s H E) pre t ∧ PE (cxOf CX0 P w K mg base N qual scope f (.ref c) A outer s H E) e te ∧
        ∀ G : V → L2.St → Hp → Prop, (∀ v σ' H'', (∀ C dC H', Upg (Cal P w K mg base) lv O (mkF (cloFrom (envOfC qual scope s.heap.objs.size f (.ref c)).cells nsc.names [])) js spn C dC σ' H'' H' → Q v H') → G v σ' H'') →
          t { nx := fun σ' H' => te σ' H' fun v H'' => G v σ' H'', rt := fun _ _ => False } (start N vs) H)
    (hat : f = He.fAd K (x, none)) : FnOk P w K mg base CX0 (k + 1) f fd ps sp := by
  obtain ⟨oc, od, dV, kV, doc, pm, an, cdv, ct, osl, rfl, lk, hcd, _, _⟩ := F.ex
  obtain ⟨c, rfl⟩ := He.codeIn_ref hcd
  have ec : He.codeOf K (x, none) = c := He.codeOf_eq (p := (x, none)) (by rw [← hat]; exact lk) rfl
  refine ⟨len, fun A outer s H args us vs Q E hr e0 hb r hsp => ?_⟩
  have hl := len _ _ _ _ hsp
  have KX : K.In s.heap := e0.mod.kin.keeps fun b o e => (e0.bs b o e).1
  have lim : s.heap.NoLimit := e0.mod.nolimit.keeps fun b o e => (e0.bs b o e).1
  have hkind : ∀ y ∈ ps.zip us, scope.names.lookup y.1 = some .local ∨ (scope.names.lookup y.1 = some .cell ∧ ((cellsFrom (s.heap.objs.size + 1) scope.names []).lookup y.1).isSome = true) := fun ⟨n, v⟩ hy => by
    rcases S.par n (List.of_mem_zip hy).1 with q | q
    · exact .inl q
    · exact .inr ⟨q, PySem.W.cellsFrom_some _ _ _ (.inl q)⟩
  refine codeAny_call_function hr.depth (KX _ _ lk) rfl S.co S.gen rfl (PySem.W.codeRec_of KX hcd) (hb _ _ _ _ ?_)
  refine wpAny_newFunctionEnv_cells S.kind hkind fun env he s1 x1 => ?_
  subst he
  refine ⟨lim.keeps x1.toInCall.keep, codeAny_func ?_⟩
  obtain ⟨t, te, ht, hte, hq⟩ := hbody c A outer s H vs Q E ec (hr.deeper _) hsp
  have I : Inv (cxOf CX0 P w K mg base N qual scope f (.ref c) A outer s H E) [] (start N vs) H s1 := inv_start S hr.hd e0 hl r x1
  have hq := hq (fun v σ' H'' => ∀ C dC H', Upg (Cal P w K mg base) lv O (mkF (cloFrom (envOfC qual scope s.heap.objs.size f (.ref c)).cells nsc.names [])) js spn C dC σ' H'' H' → Q v H') fun v σ' H'' z => z
  subst hbd
  refine wpAny_execs_app ?_
  refine wpAny_mono (ht.run [] s1 (start N vs) H _ I hq) (fun fl s2 hs => ?_) fun e s' hs => hs
  cases fl with
  | ret v =>
    obtain ⟨_, _, _, _, _, q⟩ := hs
    exact False.elim q
  | brk =>
    obtain ⟨_, _, _, q⟩ := hs
    exact False.elim q
  | cont =>
    obtain ⟨_, _, _, q⟩ := hs
    exact False.elim q
  | next =>
  obtain ⟨σ', H', J, q⟩ := hs
  refine wpAny_execs_cons (wpAny_Return_some (thn (hte.run [] s2 σ' H' _ J q) fun u s3 ⟨v, H'', J3, rv, g⟩ => ?_))
  show CE outer P w H s Q u s3
  have hfr := ndef_fr hnd
  have hfree := ndef_free hnd
  have hf2 : ∀ y ∈ nsc.names, y.2 = .free → ∃ c', (envOfC qual scope s.heap.objs.size f (.ref c)).cells.lookup y.1 = some c' := fun y hy e => (hfree y hy e).elim (fun z => J3.ok.has _ (.inl z)) fun z => J3.ok.has _ (.inr z)
  have CA : CellsAt (cloFrom (envOfC qual scope s.heap.objs.size f (.ref c)).cells nsc.names []) fr (js.map (slotAt σ')) s3.heap H'' := cells_of J3 (Caps.made J3.ok hfree hfr hjs)
  generalize hcl0 : cloFrom (envOfC qual scope s.heap.objs.size f (.ref c)).cells nsc.names [] = cl at CA g
  have hC : ∀ b, (∃ y, cl.lookup y = some b) → H'' b = none ∧ ∃ v, s3.heap.IsCell b v := fun b ⟨y, e⟩ => CA.all y b e
  have old : ∀ b o, s.heap.get? b = some o → ¬ ∃ y, cl.lookup y = some b := fun b o ho ⟨y, e⟩ => by
    rw [← hcl0] at e
    have z := J3.ok.cab y b rfl (clo_cm hf2 e)
    exact Nat.lt_irrefl _ (Nat.lt_of_lt_of_le (Heap.lt_size ho) z)
  have out : ∀ {b o}, H'' b = some o → ¬ ∃ y, cl.lookup y = some b := fun {b o} e z => by rw [(hC b z).1] at e; cases e
  have un := J3.base
  refine ⟨v, cellH (fun b => ∃ y, cl.lookup y = some b) s3.heap H'', J3.os, J3.bare, ⟨un.keep, un.slot, fun b o e n hx => ?_, un.there, fun b xs e => ?_, fun b o u e => ?_, fun b ps e => ?_⟩, cellH_ok J3.hok hC, rv, g (fun b => ∃ y, cl.lookup y = some b) (fun b => Classical.propDecidable _) _ ?_⟩
  · rw [cellH_out (old b o e)]; exact un.free b o e n hx
  · have z := un.tups b xs e
    rw [cellH_out (out z)]; exact z
  · have z := un.frzs b o u e
    rw [cellH_out (out z)]; exact z
  · obtain ⟨more, z⟩ := un.tbls b ps e
    exact ⟨more, by rw [cellH_out (out z)]; exact z⟩
  · refine ⟨fun b z => (hC b z).1, fun b z => cellH_out z, fun b z => cellH_ext z, fun f' c' e1 e2 ws hws j H3 vs3 Q3 hx hsp3 => ?_⟩
    have key : ∀ (i : Nat) (y : Str), fr[i]? = some y → ∃ c, cl.lookup y = some c ∧ ∀ v, ws[i]? = some v → H3 c = some (CellO c v) := fun i y ey => by
      obtain ⟨c1, h1, h2⟩ := CA.has i y ey
      refine ⟨c1, h1, fun v0 ev => ?_⟩
      obtain ⟨u0, r0, z0⟩ := h2 v0 (by rw [hws, List.getElem?_map, ev]; rfl)
      exact hx c1 _ (cellH_in ⟨y, h1⟩ r0 z0)
    have hlen : ws.length = fr.length := by
      have q := CA.len
      rw [hws, List.length_map] at q
      exact q
    have cells : Cells (fun b => ∃ y, cl.lookup y = some b) H3 := fun b ⟨y, e⟩ => by
      have hy : y ∈ fr := by
        have e' := e
        rw [← hcl0] at e'
        rcases cloFrom_mem (PySem.mem_of_lookup e') with hm | ⟨hm1, hm2⟩
        · cases hm
        · exact hsc _ hm1 rfl
      obtain ⟨i, hi⟩ := List.mem_iff_getElem?.mp hy
      obtain ⟨c1, h1, h2⟩ := key i y hi
      rw [h1] at e; cases e
      have hlt : i < ws.length := by rw [hlen]; exact (List.getElem?_eq_some_iff.mp hi).1
      exact ⟨_, h2 (ws[i]) (List.getElem?_eq_getElem hlt)⟩
    obtain ⟨φ, eO, hφ⟩ := hO (f := f') (F := mkF cl c')
    have e3 : H3 f' = some (O f' (mkF cl c')) := by
      rw [eO] at e1 ⊢
      exact hx _ _ (by rw [cellH_out (out e1)]; exact e1)
    have e4 : H3 (mkF cl c').c = some (CodeO (mkF cl c').c (mkF cl c').qual) := hx _ _ (by rw [cellH_out (out e2)]; exact e2)
    letI : DecidablePred (fun b => ∃ y, cl.lookup y = some b) := fun b => Classical.propDecidable _
    refine cal_of (C := fun b => ∃ y, cl.lookup y = some b) (nok j f' cl c') ⟨φ, by rw [e3, eO], hφ⟩ e3 e4 cells hlen (fun y c e => ⟨y, by rw [hcl] at e; exact e⟩) ?_ ?_ (out e1) (out e2) hsp3
    · rw [hcl]; exact CA.inj
    · rw [hcl]; exact key
/-! ### walking with closures -/
section
variable {P : Addr} {i : Nat} {mk : Addr → NF} {b : Expr} {σ : L2.St} {H H' H3 H4 : Hp} {Q : VK} {nx bk ct : L2.St → Hp → Prop} {rt : VK} {CL : CLs} {j : Nat} {ta : TA} {f : Addr}
theorem m_ndefC (hT : TabN H P nmL) (h : ∀ (f c' : Addr) (H1 : Hp), Same H H1 → H f = none → H1 f = some (FnO f (mk c')) → H1 (mk c').c = some (CodeO (mk c').c (mk c').qual) → nx (σ.set i (some (.ref f))) H1) : tNdefC P i mk (Ends.mk nx rt bk ct) σ H := ⟨hT, h⟩
theorem m_lamC (hT : TabN H P nmL) (h : ∀ (f c' : Addr) (H1 : Hp), Same H H1 → H f = none → H1 f = some (LamO b f (mk c')) → H1 (mk c').c = some (CodeO (mk c').c (mk c').qual) → Q (.ref f) H1) : tLamC P b mk σ H Q := ⟨hT, h⟩
theorem m_callV (hs : σ[i]? = some (some (.ref f))) (hf : IsFn H f) (h : ta σ H fun vs H1 => CL.run j f vs H1 Q) : tCallV CL j i ta σ H Q := ⟨f, hs, hf, h⟩
abbrev All (H H' : Hp) : Prop := L2.Same H H'
theorem All.same (h : All H H') : Same H H' := .of h
theorem Same.extN (s : Same H H') : ExtN H H' := s.keep
theorem IsFn.ext (h : IsFn H f) (s : ExtN H H') : IsFn H' f := by
  obtain ⟨φ, e, q⟩ := h
  exact ⟨φ, s _ _ e (fun _ z => nomatch z), q⟩
theorem unhide_hide {C : Addr → Prop} [DecidablePred C] : unhide C H (hide C H) = H := by
  funext b
  unfold unhide hide
  split <;> rfl
theorem unhide_upd {C : Addr → Prop} [DecidablePred C] {p : Addr} {o : HO} (h : ¬ C p) : unhide C H (upd (hide C H) p o) = upd H p o := by
  funext b
  by_cases hb : C b
  · rw [unhide_in hb, upd_ne fun z => h (by rw [← z]; exact hb)]
  · rw [unhide_out hb]
    by_cases e : b = p
    · subst e; rw [upd_same, upd_same]
    · rw [upd_ne e, upd_ne e, hide_out hb]
theorem all_unhide {C : Addr → Prop} [DecidablePred C] (s : All (hide C H3) H4) : All H3 (unhide C H3 H4) := fun b o e => by
  by_cases hb : C b
  · rw [unhide_in hb]; exact e
  · rw [unhide_out hb]; exact s b o ((hide_out hb).trans e)
theorem upg_out {lv : Nat} {O : Addr → NF → HO} {js : List Nat} {spn : Nat → List V → List V → Hp → VK → Prop} {C : Addr → Prop} {dC : DecidablePred C} (u : Upg CL lv O mk js spn C dC σ H H') {b : Addr} {o : HO} (e : H b = some o) : ¬ C b := fun z => by
  rw [u.hid b z] at e; cases e
theorem upg_ext {lv : Nat} {O : Addr → NF → HO} {js : List Nat} {spn : Nat → List V → List V → Hp → VK → Prop} {C : Addr → Prop} {dC : DecidablePred C} (u : Upg CL lv O mk js spn C dC σ H H') (s : ExtN H' H3) : ExtN H (hide C H3) := fun b o e n => by
  have hb := upg_out u e
  rw [hide_out hb]
  exact s b o (by rw [u.same b hb]; exact e) n
theorem upg_get {lv : Nat} {O : Addr → NF → HO} {js : List Nat} {spn : Nat → List V → List V → Hp → VK → Prop} {C : Addr → Prop} {dC : DecidablePred C} (u : Upg CL lv O mk js spn C dC σ H H') (s : ExtN H' H3) {b : Addr} {o : HO} [n : NT o] (e : H b = some o) : hide C H3 b = some o := upg_ext u s b o e n.ne
theorem ext_ext (s : ExtN H H') : ∀ b φ, H b = some (.ext φ) → H' b = some (.ext φ) := fun b φ e => s b _ e fun _ z => nomatch z
theorem fnO_ext {f : Addr} {F : NF} : ∀ ps, FnO f F ≠ .tbl ps := fnO_ne
end
/-- a look whose list stays as it was -/
def PureLook (CL : CLs) (j : Nat) (g : Addr) (xs : List V) (H : Hp) : Prop :=
  ∀ H', ExtN H H' → IsFn H' g ∧ ∀ (i : Nat) (x : V) (Q : VK), xs[i]? = some x → (∀ H'', All H' H'' → Q x H'') → CL.run j g [.int (i : Int)] H' Q
theorem PureLook.ext {CL : CLs} {j : Nat} {g : Addr} {xs : List V} {H H' : Hp} (p : PureLook CL j g xs H) (s : ExtN H H') : PureLook CL j g xs H' := fun H'' s2 => p H'' (s.trans s2)
theorem PureLook.ask {CL : CLs} {j k : Nat} {g : Addr} {xs : List V} {H H' : Hp} (p : PureLook CL j g xs H) (hj : j ≤ k) (s : ExtN H H') {i : Int} {x : V} {Q : VK} (h0 : 0 ≤ i) (hx : xs[i.toNat]? = some x) (q : ∀ H'', All H' H'' → Q x H'') : CL.run k g [.int i] H' Q := by
  have e : i = ((i.toNat : Nat) : Int) := by omega
  rw [e]
  exact CL.mono hj ((p H' s).2 _ x Q hx q)
theorem PureLook.askN {CL : CLs} {j k : Nat} {g : Addr} {xs : List V} {H H' : Hp} (p : PureLook CL j g xs H) (hj : j ≤ k) (s : ExtN H H') {i : Nat} {x : V} {Q : VK} (hx : xs[i]? = some x) (q : ∀ H'', All H' H'' → Q x H'') : CL.run k g [.int (i : Int)] H' Q :=
  CL.mono hj ((p H' s).2 _ x Q hx q)
open Classical in
/-- what is new in H', and what never changes -/
noncomputable def newOf (H H' : Hp) : Hp := fun b => if H b = none ∨ ∃ φ, H' b = some (.ext φ) then H' b else none
section
variable {H H' H3 : Hp} {b : Addr} {o : HO} {φ : Heap → Prop}
theorem newOf_new (h : H b = none) : newOf H H' b = H' b := if_pos (.inl h)
theorem newOf_ext (h : H' b = some (.ext φ)) : newOf H H' b = some (.ext φ) := (if_pos (.inr ⟨φ, h⟩)).trans h
theorem newOf_sub (h : newOf H H' b = some o) : H' b = some o := by
  unfold newOf at h
  split at h
  · exact h
  · cases h
theorem newOf_old (h : newOf H H' b = some o) (n : H b ≠ none) : ∃ φ, o = .ext φ := by
  unfold newOf at h
  split at h
  · rename_i z
    rcases z with z | ⟨φ, z⟩
    · exact absurd z n
    · rw [z] at h; cases h; exact ⟨φ, rfl⟩
  · cases h
theorem newOf_extN (s : ExtN H' H3) : ExtN (newOf H H') H3 := fun b o e n => s b o (newOf_sub e) n
/-- an object that was there and is no closure's may change -/
theorem newOf_upd {p : Addr} {xs : List V} (s : ExtN (newOf H H') H3) (hp : H p = some (.lst xs)) (s0 : ExtN H H') : ExtN (newOf H H') (upd H3 p o) := fun b u e n => by
  have nb : b ≠ p := fun z => by
    subst z
    obtain ⟨φ, q⟩ := newOf_old e (by rw [hp]; simp)
    have e2 := newOf_sub e
    rw [s0 _ _ hp fun _ z => nomatch z] at e2
    rw [q] at e2; cases e2
  rw [upd_ne nb]; exact s b u e n
end
/-! ### looks, as the program's defs use them -/
/-- H' is H, but for the list at q and for what is new -/
structure SameX (q : Option Addr) (H H' : Hp) : Prop where
  keep : ∀ b o, q ≠ some b → H b = some o → (∀ ps, o ≠ .tbl ps) → H' b = some o
  gone : ∀ b, H' b = none → H b = none
  tabs : ∀ P, TabN H P nmL → TabN H' P nmL
  isl : ∀ p, q = some p → ∃ xs, H p = some (.lst xs)
  isl' : ∀ p, q = some p → ∃ xs, H' p = some (.lst xs)
section
variable {q : Option Addr} {H H' H1 H2 : Hp} {a b : Addr} {o : HO} {xs : List V} {K : PySem.W.Frag}
theorem SameX.of (hq : ∀ p, q = some p → ∃ xs, H p = some (.lst xs)) (hq' : ∀ p, q = some p → ∃ xs, H' p = some (.lst xs)) (h : ∀ b o, q ≠ some b → H b = some o → H' b = some o) : SameX q H H' := by
  refine ⟨fun b o n e _ => h b o n e, fun b e => ?_, fun P ⟨ps, h1, ht, hc⟩ => ?_, hq, hq'⟩
  · cases z : H b with
    | none => rfl
    | some o =>
      by_cases hb : q = some b
      · obtain ⟨xs, q'⟩ := hq' b hb
        rw [e] at q'; cases q'
      · rw [h b o hb z] at e; cases e
  · have np : ∀ {b : Addr} {u : HO}, H b = some u → (∀ xs, u ≠ .lst xs) → q ≠ some b := fun {b u} e d z => by
      obtain ⟨xs, q'⟩ := hq b z
      rw [q'] at e; cases e; exact d _ rfl
    refine ⟨ps, h P _ (np h1 fun _ z => nomatch z) h1, ht, fun pos cv z => ?_⟩
    obtain ⟨c, e1, e2⟩ := hc pos cv z
    exact ⟨c, e1, h c _ (np e2 fun _ z => by unfold CodeO at z; cases z) e2⟩
theorem Same.toX (s : Same H H') (hq : ∀ p, q = some p → ∃ xs, H p = some (.lst xs)) : SameX q H H' := ⟨fun b o _ e n => s.keep b o e n, s.gone, s.tabs, hq, fun p z => let ⟨xs, e⟩ := hq p z; ⟨xs, s.get e⟩⟩
theorem SameX.trans (a : SameX q H H1) (b : SameX q H1 H2) : SameX q H H2 := ⟨fun c o n e z => b.keep c o n (a.keep c o n e z) z, fun c e => a.gone c (b.gone c e), fun P t => b.tabs P (a.tabs P t), a.isl, b.isl'⟩
theorem SameX.andS (a : SameX q H H1) (b : Same H1 H2) : SameX q H H2 := a.trans (b.toX a.isl')
theorem SameX.get (s : SameX q H H') (n : q ≠ some b) [NT o] (e : H b = some o) : H' b = some o := s.keep b o n e NT.ne
theorem SameX.ne (s : SameX q H H') (e : H b = some o) (d : ∀ xs, o ≠ .lst xs) : q ≠ some b := fun z => by
  obtain ⟨xs, q'⟩ := s.isl b z
  rw [q'] at e; cases e; exact d _ rfl
theorem SameX.neN (s : SameX q H H') (e : H b = none) : q ≠ some b := fun z => by
  obtain ⟨xs, q'⟩ := s.isl b z
  rw [q'] at e; cases e
theorem SameX.tup (s : SameX q H H') (e : H b = some (.tup xs)) : H' b = some (.tup xs) := s.get (s.ne e fun _ z => nomatch z) e
theorem SameX.seqT (s : SameX q H H') (h : SqT K H a xs) : SqT K H' a xs := by
  rcases h with (h | ⟨o, h⟩) | h
  · exact .inl (.inl (s.tup h))
  · exact .inl (.inr ⟨o, s.get (s.ne h fun _ z => nomatch z) h⟩)
  · exact .inr h
theorem SameX.pure (s : SameX Option.none H H') : Same H H' := ⟨fun b o e n => s.keep b o (fun z => nomatch z) e n, s.gone, s.tabs⟩
end
/-- a look of n answers; what has been asked for is L -/
structure LookR (CL : CLs) (g : Addr) (n : Nat) (val : Nat → V) (q : Option Addr) (I : List Nat → Hp → Prop) : Prop where
  fn : ∀ {L H}, I L H → IsFn H g
  isq : ∀ {L H}, I L H → ∀ p, q = some p → ∃ xs, H p = some (.lst xs)
  ext : ∀ {L H H'}, I L H → Same H H' → I L H'
  ask : ∀ {L H} {k : Nat} {Q : VK}, I L H → L.length < 9000 → k < n → (∀ H', I (L ++ [k]) H' → SameX q H H' → Q (val k) H') → CL.run 9 g [.int (k : Int)] H Q
theorem LookR.askI {CL : CLs} {g : Addr} {n : Nat} {val : Nat → V} {q : Option Addr} {I : List Nat → Hp → Prop} (R : LookR CL g n val q I) {L : List Nat} {H : Hp} {i : Int} {Q : VK} (h : I L H) (hl : L.length < 9000) (h0 : 0 ≤ i) (hn : i < n)
    (hq : ∀ H', I (L ++ [i.toNat]) H' → SameX q H H' → Q (val i.toNat) H') : CL.run 9 g [.int i] H Q := by
  have e : i = ((i.toNat : Nat) : Int) := by omega
  rw [e]
  exact R.ask h hl (by omega) hq
/-- a pure look, as such a look -/
theorem PureLook.lookR {CL : CLs} {j : Nat} {g : Addr} {xs : List V} {B : Hp} (p : PureLook CL j g xs B) (hj : j ≤ 9) : LookR CL g xs.length (fun k => xs.getD k .non) none (fun _ H => ExtN B H) where
  fn := fun h => (p _ h).1
  isq := fun _ _ z => nomatch z
  ext := fun h s => h.trans s.extN
  ask := fun {L H k Q} h _ hk q => p.askN hj h (show xs[k]? = some (xs.getD k .non) by rw [List.getD_eq_getElem?_getD, List.getElem?_eq_getElem hk]; rfl) fun H' s => q H' (h.trans (All.same s).extN) (((All.same s)).toX fun _ z => nomatch z)
/-- a look that writes down what it is asked for, in the list at ps -/
def LogLook (CL : CLs) (j : Nat) (g ps pb : Addr) (val : List V) (dft : V) (B : Hp) : Prop :=
  ∀ H', ExtN B H' → IsFn H' g ∧ ∀ (L : List Int) (k : Int) (Q : VK), H' ps = some (.lst (L.map V.int)) → L.length < 100000 → H' pb = some (.lst val) → Q (if 0 ≤ k ∧ k < val.length then val.getD k.toNat .non else dft) (upd H' ps (.lst ((L ++ [k]).map V.int))) → CL.run j g [.int k] H' Q
theorem LogLook.ext {CL : CLs} {j : Nat} {g ps pb : Addr} {val : List V} {dft : V} {B B' : Hp} (p : LogLook CL j g ps pb val dft B) (s : ExtN B B') : LogLook CL j g ps pb val dft B' := fun H' s2 => p H' (s.trans s2)
/-- .. between the calls: nothing but ps has changed -/
def LogI (B : Hp) (ps pb : Addr) (val : List V) (L0 : List Int) (L : List Nat) (H : Hp) : Prop := ExtN B H ∧ H ps = some (.lst ((L0 ++ L.map Int.ofNat).map V.int)) ∧ H pb = some (.lst val)
theorem LogLook.lookR {CL : CLs} {j : Nat} {g ps pb : Addr} {val : List V} {dft : V} {B : Hp} {L0 : List Int} (p : LogLook CL j g ps pb val dft B) (hj : j ≤ 9) (hB : ∀ o, B ps = some o → ∃ φ, o = .ext φ) (nb : ps ≠ pb) (hl : L0.length ≤ 90000) :
    LookR CL g val.length (fun k => val.getD k .non) (some ps) (LogI B ps pb val L0) where
  fn := fun h => (p _ h.1).1
  isq := fun h p z => by cases z; exact ⟨_, h.2.1⟩
  ext := fun h s => ⟨h.1.trans s.extN, s.get h.2.1, s.get h.2.2⟩
  ask := fun {L H k Q} h hL hk q => by
    refine CL.mono hj ((p _ h.1).2 _ _ Q h.2.1 (by rw [List.length_append, List.length_map]; omega) h.2.2 ?_)
    rw [if_pos ⟨by omega, by omega⟩, Int.toNat_natCast]
    have ne : ∀ {b : Addr} {o : HO}, B b = some o → b ≠ ps := fun {b o} e z => by
      subst z
      obtain ⟨φ, rfl⟩ := hB o e
      have z2 := h.1 _ _ e fun _ z => nomatch z
      rw [h.2.1] at z2; cases z2
    refine q _ ⟨fun b o e n => ?_, ?_, ?_⟩ (SameX.of (fun p z => by cases z; exact ⟨_, h.2.1⟩) (fun p z => by cases z; exact ⟨_, upd_same⟩) fun b o n e => ?_)
    · rw [upd_ne (ne e)]; exact h.1 b o e n
    · rw [upd_same, List.map_append (f := Int.ofNat), ← List.append_assoc]; rfl
    · rw [upd_ne nb.symm]; exact h.2.2
    · rw [upd_ne fun z => n (by rw [z])]; exact e
theorem LookR.congr {CL : CLs} {g : Addr} {n : Nat} {val val' : Nat → V} {q : Option Addr} {I : List Nat → Hp → Prop} (R : LookR CL g n val q I) (h : ∀ k, k < n → val k = val' k) : LookR CL g n val' q I :=
  ⟨R.fn, R.isq, R.ext, fun {L H k Q} i l hk q => R.ask i l hk (by rw [h k hk]; exact q)⟩
theorem getD_map_int (bl : List Int) {k : Nat} (h : k < bl.length) : (bl.map V.int).getD k .non = .int (bl.getD k 0) := by
  rw [List.getD_eq_getElem?_getD, List.getD_eq_getElem?_getD, mapint (List.getElem?_eq_getElem h), List.getElem?_eq_getElem h]; rfl
theorem LogLook.lookI {CL : CLs} {j : Nat} {g ps pb : Addr} {bl : List Int} {dft : V} {B : Hp} {L0 : List Int} (p : LogLook CL j g ps pb (bl.map V.int) dft B) (hj : j ≤ 9) (hB : ∀ o, B ps = some o → ∃ φ, o = .ext φ) (nb : ps ≠ pb) (hl : L0.length ≤ 90000) :
    LookR CL g bl.length (fun k => .int (bl.getD k 0)) (some ps) (LogI B ps pb (bl.map V.int) L0) := by
  have R := (p.lookR hj hB nb hl).congr (val' := fun k => .int (bl.getD k 0)) fun k hk => getD_map_int bl (by rw [List.length_map] at hk; exact hk)
  rw [List.length_map] at R
  exact R
theorem PureLook.lookI {CL : CLs} {j : Nat} {g : Addr} {bl : List Int} {B : Hp} (p : PureLook CL j g (bl.map V.int) B) (hj : j ≤ 9) : LookR CL g bl.length (fun k => .int (bl.getD k 0)) none (fun _ H => ExtN B H) := by
  have R := (p.lookR hj).congr (val' := fun k => .int (bl.getD k 0)) fun k hk => getD_map_int bl (by rw [List.length_map] at hk; exact hk)
  rw [List.length_map] at R
  exact R
section
variable {B H H0 H' : Hp} {ps pb a : Addr} {val : List V} {L0 : List Int} {L : List Nat} {xs : List V} {K : PySem.W.Frag} {q : Option Addr} {o : HO}
theorem extN_upd (s : ExtN B H) (hB : ∀ o, B ps = some o → ∃ φ, o = .ext φ) (e : H ps = some (.lst xs)) : ExtN B (upd H ps o) := fun b u z n => by
  have nb : b ≠ ps := fun y => by
    subst y
    obtain ⟨φ, rfl⟩ := hB u z
    have z2 := s _ _ z fun _ z => nomatch z
    rw [e] at z2; cases z2
  rw [upd_ne nb]; exact s b u z n
theorem LogI.clear (h : LogI B ps pb val L0 L H) (hB : ∀ o, B ps = some o → ∃ φ, o = .ext φ) (nb : ps ≠ pb) : LogI B ps pb val [] [] (upd H ps (.lst [])) :=
  ⟨extN_upd h.1 hB h.2.1, upd_same, by rw [upd_ne nb.symm]; exact h.2.2⟩
/-- what was asked for is the start of what follows -/
theorem LogI.again (h : LogI B ps pb val L0 L H) : LogI B ps pb val (L0 ++ L.map Int.ofNat) [] H := ⟨h.1, by simpa using h.2.1, h.2.2⟩
theorem SameX.upd (s : SameX (some ps) H H') : SameX (some ps) H (upd H' ps (.lst xs)) := by
  obtain ⟨ys, e⟩ := s.isl' ps rfl
  refine s.trans (SameX.of s.isl' (fun p z => by cases z; exact ⟨_, upd_same⟩) fun b o n e => ?_)
  rw [upd_ne fun z => n (by rw [z])]; exact e
theorem SameX.seqO (h : SqL K H a xs) (s0 : Same H H0) (hps : H ps = none) (s : SameX (some ps) H0 H') : SqL K H' a xs := by
  have ne : ∀ {o}, H a = some o → (some ps : Option Addr) ≠ some a := fun {o} e z => by cases z; rw [hps] at e; cases e
  rcases h with (z | ⟨o, z⟩) | z
  · exact .inl (.inl (s.get (ne z) (s0.get z)))
  · exact .inl (.inr ⟨o, s.get (ne z) (s0.get z)⟩)
  · exact .inr z
end
/-- the list that changes is new -/
theorem SameX.fresh {H H1 H' : Hp} {ps : Addr} (s : Same H H1) (h : H ps = none) (x : SameX (some ps) H1 H') : Same H H' :=
  ⟨fun b o e n => x.keep b o (fun z => by cases z; rw [h] at e; cases e) (s.keep b o e n) n, fun b e => s.gone b (x.gone b e), fun P t => x.tabs P (s.tabs P t)⟩
theorem LogI.start {H H1 : Hp} {ps pb : Addr} {val : List V} {L0 : List Int} (e : H1 ps = some (.lst (L0.map V.int))) (b : H1 pb = some (.lst val)) : LogI (newOf H H1) ps pb val L0 [] H1 :=
  ⟨newOf_extN (ExtN.refl _), by simpa using e, b⟩
/-- the same, of places that are there alone -/
def LogLookN (CL : CLs) (j : Nat) (g ps pb : Addr) (val : List V) (B : Hp) : Prop :=
  ∀ H', ExtN B H' → IsFn H' g ∧ ∀ (L : List Int) (k : Nat) (x : V) (Q : VK), H' ps = some (.lst (L.map V.int)) → L.length < 100000 → H' pb = some (.lst val) → val[k]? = some x → Q x (upd H' ps (.lst ((L ++ [(k : Int)]).map V.int))) → CL.run j g [.int (k : Int)] H' Q
theorem LogLookN.ext {CL : CLs} {j : Nat} {g ps pb : Addr} {val : List V} {B B' : Hp} (p : LogLookN CL j g ps pb val B) (s : ExtN B B') : LogLookN CL j g ps pb val B' := fun H' s2 => p H' (s.trans s2)
theorem LogLookN.lookR {CL : CLs} {j : Nat} {g ps pb : Addr} {val : List V} {B : Hp} {L0 : List Int} (p : LogLookN CL j g ps pb val B) (hj : j ≤ 9) (hB : ∀ o, B ps = some o → ∃ φ, o = .ext φ) (nb : ps ≠ pb) (hl : L0.length ≤ 90000) :
    LookR CL g val.length (fun k => val.getD k .non) (some ps) (LogI B ps pb val L0) where
  fn := fun h => (p _ h.1).1
  isq := fun h p z => by cases z; exact ⟨_, h.2.1⟩
  ext := fun h s => ⟨h.1.trans s.extN, s.get h.2.1, s.get h.2.2⟩
  ask := fun {L H k Q} h hL hk q => by
    refine CL.mono hj ((p _ h.1).2 _ k (val.getD k .non) Q h.2.1 (by rw [List.length_append, List.length_map]; omega) h.2.2 (by rw [List.getD_eq_getElem?_getD, List.getElem?_eq_getElem hk]; rfl) ?_)
    refine q _ ⟨extN_upd h.1 hB h.2.1, ?_, ?_⟩ (SameX.of (fun p z => by cases z; exact ⟨_, h.2.1⟩) (fun p z => by cases z; exact ⟨_, upd_same⟩) fun b o n e => ?_)
    · rw [upd_same, List.map_append (f := Int.ofNat), ← List.append_assoc]; rfl
    · rw [upd_ne nb.symm]; exact h.2.2
    · rw [upd_ne fun z => n (by rw [z])]; exact e
end Tw
/-! ### xs[c::k]: some of a list's items -/
namespace Tw
open PySem PySem.Spec PyProof.Rows L2
theorem vals_pick {xs : List V} {us : List Value} (r : Vals xs us) : ∀ ix : List Nat, Vals (ix.filterMap (xs[·]?)) (ix.filterMap (us[·]?))
  | [] => .nil
  | i :: ix => by
    have ih := vals_pick r ix
    rw [List.filterMap_cons, List.filterMap_cons]
    have hl := r.length
    cases hx : xs[i]? with
    | none =>
      have : us[i]? = none := List.getElem?_eq_none (by rw [← hl]; exact List.getElem?_eq_none_iff.mp hx)
      rw [this]; exact ih
    | some x =>
      obtain ⟨u, hu, ru⟩ := r.get hx
      rw [hu]
      exact .cons ru ih
/-- some of a list's items, no more than there are -/
def SlStepK (K : PySem.W.Frag) (Q : VK) (x : V) (H1 : Hp) : Prop := ∃ a xs, x = .ref a ∧ SqL K H1 a xs ∧ ∀ p zs, H1 p = none → (∀ z ∈ zs, z ∈ xs) → zs.length ≤ xs.length → Q (.ref p) (upd H1 p (.lst zs))
def tSlStep (K : PySem.W.Frag) (te : TE) : TE := fun σ H Q => te σ H (SlStepK K Q)
theorem m_slStep {K : PySem.W.Frag} {te : TE} {σ : L2.St} {H : Hp} {Q : VK} (h : te σ H (SlStepK K Q)) : tSlStep K te σ H Q := h
theorem m_slStepE {K : PySem.W.Frag} {H : Hp} {Q : VK} {a : Addr} {xs : List V} (h : SqL K H a xs) (q : ∀ p zs, H p = none → (∀ z ∈ zs, z ∈ xs) → zs.length ≤ xs.length → Q (.ref p) (upd H p (.lst zs))) : SlStepK K Q (.ref a) H := ⟨a, xs, rfl, h, q⟩
theorem pe_slStep {X : Cx} {e : Expr} {te : TE} {k0 k1 : Nat} {p0 p1 p3 pos : Pos} {c d : Int} (hd : 0 < d) (hc : 0 ≤ c) (he : PE X e te) : PE X (.Subscript e (.Slice (some (.Constant (.int c) k0 p0)) none (some (.Constant (.int d) k1 p1)) p3) pos) (tSlStep X.K te) := by
  refine ⟨fun pins s σ H Q I h => ?_⟩
  refine Subscript_ (thn (he.run pins s σ H _ I h) fun v s1 ⟨x, H1, I1, r1, q1⟩ => ?_)
  obtain ⟨a, xs, ex, hx, q⟩ := q1
  subst ex
  cases r1
  have hsl : PO X (some (.Constant (.int c) k0 p0)) (tPart (tC (.int c))) := po_some pe_int
  have hst : PO X (some (.Constant (.int d) k1 p1)) (tPart (tC (.int d))) := po_some pe_int
  refine wpAny_Slice (thn (hsl.run pins s1 σ H1 (fun o H2 => o = some c ∧ H2 = H1) I1 ⟨c, rfl, rfl, rfl⟩) fun vl s2 ⟨l, H2, I2, pl, el, e2⟩ => ?_)
  subst el e2
  refine thn (po_none.run pins s2 σ H2 (fun o H3 => o = none ∧ H3 = H2) I2 ⟨rfl, rfl⟩) fun vu s3 ⟨u, H3, I3, pu, eu, e3⟩ => ?_
  subst eu e3
  refine thn (hst.run pins s3 σ H3 (fun o H4 => o = some d ∧ H4 = H3) I3 ⟨d, rfl, rfl, rfl⟩) fun vs s4 ⟨o, H4, I4, ps, eo, e4⟩ => ?_
  subst eo e4
  have I5 : Inv X pins σ H4 { s4 with heap := s4.heap.push { cls := .type "slice", data := .fields #[vl, vu, vs] } } := I4.kept (t' := s4.toks) fun b ob q => Heap.get?_push_of_some _ q
  obtain ⟨its, r, ht, hz⟩ := I5.list hx
  have hlen := r.length
  show wpAny (model X.prog X.w) X.A (subscriptTail e (.Slice (some (.Constant (.int c) k0 p0)) none (some (.Constant (.int d) k1 p1)) p3) (.ref a) (.ref s4.heap.objs.size)) (EP X pins σ Q) X.xe { s4 with heap := s4.heap.push { cls := .type "slice", data := .fields #[vl, vu, vs] } }
  refine tail_any (ops := [.ref a, .ref s4.heap.objs.size]) ht.isList.typeIs (PySem.slot_list_getitem.lookup) ?_ (by with_unfolding_all rfl)
  refine wpAny_getItem_list_slice ht.isList (Heap.IsSliceOf.new _ vl vu vs) pl pu ps (by intro z; have := Option.some.inj z; omega) ?_ (by rw [List.size_toArray]; omega)
  obtain ⟨ix, hix⟩ : ∃ ix, ix = sliceRange (sliceBounds (some c) none (some d) its.length).1 (sliceBounds (some c) none (some d) its.length).2.1 (sliceBounds (some c) none (some d) its.length).2.2 := ⟨_, rfl⟩
  have hp : slicePick its.toArray (some c) none (some d) = (ix.filterMap (its[·]?)).toArray := by
    unfold slicePick
    rw [List.size_toArray, ← hix]
    simp
  have hil : ix.length ≤ its.length := by
    rw [hix]
    refine sliceRange_length_le _ _ _ _ (fun _ => ?_) fun z => ?_
    · simp only [sliceBounds, Option.getD_some]
      rw [if_pos (show d > 0 from hd), if_pos (show d > 0 from hd)]
      split <;> omega
    · exact absurd hd z
  have hzl : (ix.filterMap (xs[·]?)).length ≤ xs.length := Nat.le_trans (List.length_filterMap_le _ _) (by omega)
  rw [hp]
  refine ⟨.ref _, _, I5.laid (t' := s4.toks) (o := .lst (ix.filterMap (xs[·]?))) (fun b ob q => Heap.get?_push_of_some _ q) (Nat.le_refl _) ?_, rfl, q _ _ (I5.hok.fresh (Nat.le_refl _)) (fun z hz => ?_) hzl⟩
  · exact ⟨Nat.le_trans hzl hz, _, 0, vals_pick r ix, Heap.get?_push_size _ rfl⟩
  · obtain ⟨i, _, hi⟩ := List.mem_filterMap.mp hz
    exact List.mem_of_getElem? hi
end Tw
/-! ### sorted(set(a list of ints)) -/
namespace SS
open PySem PySem.Spec PyProof.Rows L2
section
variable {P : Program} {w : World} {A : Around} {E : Value → Shared → Prop} {s : Shared}
theorem setR_few {h : Heap} {a : Addr} {S : Int → Bool} {n : Nat} (R : SetR w h a S n) {U : List Int} (hU : ∀ k, S k = true → k ∈ U) : n ≤ U.length := by
  obtain ⟨o, es, ep, t, ho, hex, hd, g, nd, hm, hb, hf, hn, _⟩ := R
  have hs : es.toList.map keyOf ⊆ U := fun k hk => hU k ((hm k).2 hk)
  have := List.Nodup.length_le_of_subset nd hs
  rw [List.length_map, Array.length_toList, hn] at this
  exact this
theorem set_update_few {I : Addr} {fp wr : List Addr} {G : Array GenState → Array GenState → Prop} {n : Nat} {Pv : Nat → Value → Prop} {St : Nat → Shared → Prop} {R : Result → Shared → Prop}
    (W : WalksS P w A.in1 I fp wr G n Pv St) (S : Addr) (hSf : S ∉ fp) (ns U : List Int) (hn : n = ns.length) (hb : U.length + 1 < scanBound) (hU : ∀ k ∈ ns, k ∈ U) (hval : ∀ i v, Pv i v → ∃ k t, ns[i]? = some k ∧ v = .int k t) :
    ∀ (k i : Nat) (s : Shared), n - i = k → i ≤ n → St i s → (∃ c, SetR w s.heap S (fun j => decide (j ∈ ns.take i)) c) →
      (∀ s' c, Moved (S :: wr) G s s' → SetR w s'.heap S (fun j => decide (j ∈ ns)) c → R (.ok (.ret .none)) s') →
      codeAny (model P w) A (.builtin "set.update.loop" ⟨[.ref S, .ref I], []⟩) R s := by
  have hSw : S ∉ wr := fun h => hSf (W.sub _ h)
  have hsub : ∀ b ∈ wr, b ∈ S :: wr := fun b hb => List.mem_cons_of_mem _ hb
  intro k
  induction k with
  | zero =>
    intro i s hk' hi hst ⟨c, hS⟩ hR
    have hin : i = n := by omega
    subst hin
    refine codeAny_builtin F.entry_set_update_loop ?_
    rw [Around.under_plainId F.plain_set_update_loop _]
    show wpAny _ A.in1 (pyNext (.ref I) >>= _) _ _ s
    refine wpAny_bind (W.done s _ _ hst fun s' hm => ?_)
    show wpAny _ A.in1 (ret Value.none) _ _ s'
    have e : ns.take i = ns := List.take_of_length_le (by omega)
    rw [e] at hS
    exact wpAny_pure (hR s' c (hm.mono hsub) (hS.at fun o e => hm.heap S o hSw e))
  | succ k ih =>
    intro i s hk' hi hst ⟨c, hS⟩ hR
    have hlt : i < n := by omega
    refine codeAny_builtin F.entry_set_update_loop ?_
    rw [Around.under_plainId F.plain_set_update_loop _]
    show wpAny _ A.in1 (pyNext (.ref I) >>= _) _ _ s
    refine wpAny_bind (W.item i s _ _ hlt hst fun v s' hP hst' hm => ?_)
    obtain ⟨z, t, hz, rfl⟩ := hval i v hP
    have hS' : SetR w s'.heap S (fun j => decide (j ∈ ns.take i)) c := hS.at fun o e => hm.heap S o hSw e
    have hcU : c ≤ U.length := setR_few hS' fun k hk => hU k (List.mem_of_mem_take (of_decide_eq_true hk))
    show wpAny _ A.in1 (holding [Value.int z t] (setAdd S (.int z t)) >>= _) _ _ s'
    refine wpAny_bind (wpAny_holding ?_)
    unfold setAdd
    refine wpAny_holding ?_
    refine wpAny_bind ((intKind P w).pyHash (k := z) (intKind_is _ _ _ _) ?_)
    refine setR_add_hashed (s := { s' with toks := s'.toks + 1 }) hS' (by omega) fun h' hsb hS2 => ?_
    have hS3 : SetR w h' S (fun j => decide (j ∈ ns.take (i + 1))) (if decide (z ∈ ns.take i) = true then c else c + 1) := hS2.congr fun j => by
      rw [List.take_add_one, hz]
      simp [List.mem_append]
    refine wpAny_pure ⟨plainId_quiet F.plain_set_update_loop _, ih (i + 1) _ (by omega) hlt (W.frame _ s' _ _ hst' (Nat.le_succ _) fun b hb o e => ?_) ⟨_, hS3⟩ fun s'' c2 hm'' hS'' => ?_⟩
    · rw [hsb.2 b (fun h : b = S => hSf (by rw [← h]; exact hb))]; exact e
    · refine hR s'' c2 (Moved.trans W.gtrans ((hm.mono hsub).then_heap (Nat.le_succ _) fun b o hb e => ?_) hm'') hS''
      rw [hsb.2 b (fun h : b = S => hb (by rw [h]; exact List.mem_cons_self))]; exact e
set_option maxRecDepth 100000 in
set_option maxHeartbeats 3200000 in
theorem call_set_listI {l : Addr} {items : Array Value} (ns U : List Int) {Q : Value → Shared → Prop} (hh : A.handled = none) (hl : s.heap.IsList l items) (hit : IntsAre items.toList ns) (hb : U.length + 1 < scanBound) (hU : ∀ k ∈ ns, k ∈ U)
    (h : ∀ (h' : Heap) (tk c : Nat), SetR w h' s.heap.objs.size (fun j => decide (j ∈ ns)) c → (∀ b o, s.heap.get? b = some o → h'.get? b = some o) → Q (.ref s.heap.objs.size) { s with heap := h', toks := tk }) :
    wpAny (model P w) A (call (.type "set") [.ref l]) Q E s := by
  have hisz : items.size = ns.length := by
    have q := IntsAre.length hit
    rw [Array.length_toList] at q
    exact q
  obtain ⟨c, tl, hmro⟩ := F.called_set.mro
  have hmade := F.called_set.made
  have hsub := F.called_set.sub
  refine wpAny_call (codeAny_of_tree ?_)
  show wpAny _ _ (callAny (.type "set") _) _ _ _
  refine wpAny_pure ⟨Code.quiet_builtin _ (by decide +kernel), codeAny_builtin F.entry_type_call ?_⟩
  rw [Around.under_plain (weight_type_call_type "set" [.ref l] []) rfl]
  have h1 := F.called_set.notType
  have h2 := F.called_set.canCreate
  have hct := F.typeCall_set_1 (.ref l)
  repeat (any_goals (first | assumption | wp_step))

  refine codeAny_mono (code_set_led1 (.ref l) (E := E) (Q₁ := fun obj s₁ => obj = .ref s.heap.objs.size ∧ s₁ = { s with heap := s.heap.push { cls := .type "set", dict := none, data := .set #[] 0 (.fresh 0 0 (!w.params.followText "set-order")) } }) ⟨rfl, rfl⟩) fun r s₁ hr => ?_
  cases r with
  | error e => exact hr
  | ok fl =>
    cases fl with
    | ret obj =>
      obtain ⟨rfl, rfl⟩ := hr
      have hS : (s.heap.push { cls := .type "set", dict := none, data := .set #[] 0 (.fresh 0 0 (!w.params.followText "set-order")) }).get? s.heap.objs.size = some { cls := .type "set", dict := none, data := .set #[] 0 (.fresh 0 0 (!w.params.followText "set-order")) } := Heap.get?_push_size _ rfl
      have hT : Shared.TypeIs { s with heap := s.heap.push { cls := .type "set", dict := none, data := .set #[] 0 (.fresh 0 0 (!w.params.followText "set-order")) } } (.ref s.heap.objs.size) "set" := ⟨_, hS, rfl⟩
      have hli := F.called_set.init.lookup
      have hbi := F.called_set.init.bind (.ref s.heap.objs.size)
      repeat (any_goals (first | assumption | wp_step))

      refine codeAny_mono (codeAny_call_builtin (R := wants (fun r s₂ => r = .none ∧ ∃ h' tk c, s₂ = { s with heap := h', toks := tk } ∧ SetR w h' s.heap.objs.size (fun j => decide (j ∈ ns)) c ∧
          (∀ b o, s.heap.get? b = some o → h'.get? b = some o)) E) F.called_set.init.plain F.entry_set_init (check_set_init_1 hT ?_)) fun r₂ s₂ hr₂ => ?_
      · obtain ⟨ol, hol, hcl, nl, hdl⟩ := hl
        obtain ⟨ocls, odict, odata, oslots⟩ := ol
        simp only at hcl hdl
        subst hcl; subst hdl
        have hol' : (s.heap.push { cls := .type "set", dict := none, data := .set #[] 0 (.fresh 0 0 (!w.params.followText "set-order")) }).get? l = some { cls := .type "list", dict := odict, data := .seq items nl, slots := oslots } := Heap.get?_push_of_some _ hol
        have hsls := F.sub_list_set
        have hslf := F.sub_list_frozenset
        have hne : (Value.type "list" == Value.type "dict") = false := by decide
        have hl1 : (s.heap.push { cls := .type "set", dict := none, data := .set #[] 0 (.fresh 0 0 (!w.params.followText "set-order")) }).IsList l items := ⟨_, hol', rfl, nl, rfl⟩
        unfold Builtin.«set.__init__» noKeywords Builtin.Frozenset.updateFrom
        generalize hPI : pyIter = PI
        wp_walk
        subst hPI

        refine wpAny_pyIter_list hl1 ?_
        refine wpAny_bind (wpAny_runValue ?_)
        have hlS : l < s.heap.objs.size := Heap.lt_size hol
        have hh3 : A.in1.in1.in1.handled = none := by simp [hh]
        have hz1 : (s.heap.push { cls := .type "set", dict := none, data := .set #[] 0 (.fresh 0 0 (!w.params.followText "set-order")) }).objs.size = s.heap.objs.size + 1 := Heap.size_push ..
        have hneI : l ≠ (s.heap.push { cls := .type "set", dict := none, data := .set #[] 0 (.fresh 0 0 (!w.params.followText "set-order")) }).objs.size := by
          rw [Heap.size_push]; exact Nat.ne_of_lt (Nat.lt_succ_of_lt hlS)
        have hSf : s.heap.objs.size ∉ [(s.heap.push { cls := .type "set", dict := none, data := .set #[] 0 (.fresh 0 0 (!w.params.followText "set-order")) }).objs.size, l] := by
          rw [Heap.size_push]; simp only [List.mem_cons, List.mem_singleton, List.not_mem_nil, or_false, not_or]
          exact ⟨Nat.ne_of_lt (Nat.lt_succ_self _), Nat.ne_of_gt hlS⟩
        have hval : ∀ (i : Nat) (v : Value), items[i]? = some v → ∃ k t, ns[i]? = some k ∧ v = .int k t := fun i v hv => by
          have hi : i < ns.length := by rw [← hisz]; exact (Array.getElem?_eq_some_iff.mp hv).1
          obtain ⟨t, e⟩ := PyProof.Rows.IntsAre.int_at hit i v (by rw [Array.getElem?_toList]; exact hv)
          refine ⟨ns[i], t, List.getElem?_eq_getElem hi, ?_⟩
          rw [e, List.getD_eq_getElem?_getD, List.getElem?_eq_getElem hi] <;> rfl
        refine set_update_few ((Walks.list hh3 _ l hneI items).toS) s.heap.objs.size
          hSf ns U hisz hb hU hval (items.size - 0) 0 _ (by omega) (Nat.zero_le _)
          ⟨⟨_, Heap.get?_push_size _ rfl, rfl, rfl⟩, (hl1.push _)⟩ ?hS0 ?hR
        case hS0 =>
          have hget : ((s.heap.push { cls := .type "set", dict := none, data := .set #[] 0 (.fresh 0 0 (!w.params.followText "set-order")) }).push { cls := .type "list_iterator", data := .fields #[.ref l, .int 0 0] }).get? s.heap.objs.size
              = some { cls := .type "set", dict := none, data := .set #[] 0 (.fresh 0 0 (!w.params.followText "set-order")) } := Heap.get?_push_of_some _ hS
          exact ⟨0, setR_new_at hget⟩
        case hR =>
          intro s' c' hm hS'
          obtain ⟨h', g2, d', tk', os'⟩ := s'
          have eg : g2 = s.gens := hm.gens
          have ed : d' = s.drawn := hm.drawn
          have eo : os' = s.os := hm.os
          subst eg; subst ed; subst eo
          show wpAny _ _ _ _ _ _
          refine wpAny_pure ?_
          show wpAny _ _ (ret Value.none) _ _ _
          refine wpAny_pure ⟨rfl, h', tk', c', rfl, hS', fun b o e => ?_⟩
          have hb0 : b < s.heap.objs.size := Heap.lt_size e
          have hb1 : b ≠ s.heap.objs.size := Nat.ne_of_lt hb0
          have hb2 : b ≠ (s.heap.push { cls := .type "set", dict := none, data := .set #[] 0 (.fresh 0 0 (!w.params.followText "set-order")) }).objs.size := by
            rw [Heap.size_push]; exact Nat.ne_of_lt (Nat.lt_succ_of_lt hb0)
          exact hm.heap b o (by simp only [List.mem_cons, List.mem_singleton, List.not_mem_nil, or_false, not_or]; exact ⟨hb1, hb2⟩) (Heap.get?_push_of_some _ (Heap.get?_push_of_some _ e))

      · cases r₂ with
        | error e => exact hr₂
        | ok fl₂ =>
          cases fl₂ with
          | ret r =>
            obtain ⟨rfl, h', tk, c', rfl, hS', hk'⟩ := hr₂
            repeat (any_goals (first | assumption | wp_step))
            exact h _ _ _ hS' hk'
          | _ => exact hr₂.elim
    | _ => exact hr.elim
theorem sorted_setU {a : Addr} {S : Int → Bool} {n : Nat} {Q : Value → Shared → Prop} (R : SetR w s.heap a S n) (hh : A.handled = none)
    (hQ : ∀ s' p (out : Array Value) (c : Nat) (ns : List Int), (∀ b o, s.heap.get? b = some o → s'.heap.get? b = some o) → s'.gens = s.gens → s'.os = s.os → s.heap.objs.size ≤ p →
      s'.heap.get? p = some (seqObj "list" out c) → IntsAre out.toList ns → ns.Pairwise (· < ·) → (∀ k, k ∈ ns ↔ S k = true) → ns.length = n → n < scanBound → Q (.ref p) s') :
    wpAny (model P w) A (call (.builtin "sorted") [.ref a]) Q E s := by
  obtain ⟨o, es, ep, t, ho, hex, hd, g, nd, hm, hb, hf, hn, hr, hl⟩ := R
  refine Calls.call_function_entry kind_sorted plain_sorted entry_sorted (args_sorted1 _) ?_
  unfold Builtin.«sorted»
  refine wpAny_bind (m := checkCount "sorted" 1 1 _) (wpAny_pure ?_)
  refine wpAny_bind (collect_set (A := A.in1) hh ⟨o, ho, hex.1, hd⟩ hf hb hr hl fun s1 vs k1 hz g1 o1 pm => ?_)
  have hvl : vs.length = n := by rw [pm.length_eq, List.length_map, Array.length_toList]; exact hn
  have hzl : vs.length ≤ sizeLine := by rw [hvl, sizeLine_eq]; unfold scanBound at hb; omega
  have hI : IntsAre vs (vs.map Builtin.Re.reRawOf) := ints_of vs fun v hv => by
    obtain ⟨e, he, q⟩ := List.mem_map.mp (pm.mem_iff.mp hv)
    obtain ⟨k, tk, h1, _⟩ := g e he
    exact ⟨k, tk, by rw [← q]; exact h1⟩
  have pk : (vs.map Builtin.Re.reRawOf).Perm (es.toList.map keyOf) := by
    have q := pm.map Builtin.Re.reRawOf
    rw [List.map_map] at q
    exact q
  refine wpAny_bind (wpAny_newList ?_ hzl)
  have hoL : (s1.heap.push (seqObj "list" vs.toArray 0)).get? s1.heap.objs.size = some (seqObj "list" vs.toArray 0) := Heap.get?_push_size _ rfl
  refine wpAny_bind (wpAny_holding (wpAny_call_entry slot_list_sort ⟨_, hoL, rfl⟩ entry_list_sort (SrtO.list_sort_ord SrtO.swo_int hoL hzl (fun h2 => SrtO.ints_sortable hI h2) fun out h1 h2 => ⟨_, rfl, ?_⟩) (args_list_sort _)))
  obtain ⟨a1, a2, a3⟩ := SrtO.ints_out hI h1 h2
  obtain ⟨c, hc⟩ := sortedHeap_at (vs := vs) (out := out.toArray) hoL
  have pn : (out.map SrtO.iv).Perm (es.toList.map keyOf) := a2.trans pk
  refine wpAny_pure ⟨_, rfl, hQ _ s1.heap.objs.size out.toArray c (out.map SrtO.iv) (fun b u e => ?_) g1 o1 hz hc (by rw [List.toList_toArray]; exact a1) (lt_of_le_nodup _ a3 (pn.nodup_iff.mpr nd)) (fun k => by rw [pn.mem_iff, ← hm k]) ?_ (by rw [← hn]; exact hb)⟩
  · have q := k1 b u e
    have hlt := Heap.lt_size q
    show (sortedHeap (s1.heap.push (seqObj "list" vs.toArray 0)) s1.heap.objs.size vs out.toArray).get? b = some u
    rw [sortedHeap_old (Nat.ne_of_lt hlt) (by rw [size_push']; exact Nat.lt_succ_of_lt hlt)]
    exact Heap.get?_push_of_some _ q
  · rw [pn.length_eq, List.length_map, Array.length_toList]; exact hn
end
end SS
namespace Tw
open PySem PySem.Spec PyProof.Rows L2
/-- sorted(set(xs)) -/
def SortSetK (K : PySem.W.Frag) (Q : VK) (x : V) (H : Hp) : Prop := ∃ (l : Addr) (ns U : List Int), x = .ref l ∧ SqL K H l (ns.map V.int) ∧ U.length ≤ 4090 ∧ (∀ k ∈ ns, k ∈ U) ∧ ∀ (ks : List Int) (p : Addr), ks.Pairwise (· < ·) → (∀ k, k ∈ ks ↔ k ∈ ns) → H p = none → Q (.ref p) (upd H p (.lst (ks.map V.int)))
def tSortSet (K : PySem.W.Frag) (ta : TE) : TE := fun σ H Q => ta σ H (SortSetK K Q)
theorem m_sortSet {K : PySem.W.Frag} {ta : TE} {σ : L2.St} {H : Hp} {Q : VK} (h : ta σ H (SortSetK K Q)) : tSortSet K ta σ H Q := h
theorem m_sortSetE {K : PySem.W.Frag} {H : Hp} {Q : VK} {l : Addr} {ns : List Int} (hS : SqL K H l (ns.map V.int)) (hn : ns.length ≤ 4090) (q : ∀ (ks : List Int) (p : Addr), ks.Pairwise (· < ·) → (∀ k, k ∈ ks ↔ k ∈ ns) → H p = none → Q (.ref p) (upd H p (.lst (ks.map V.int)))) : SortSetK K Q (.ref l) H := ⟨l, ns, ns, rfl, hS, hn, fun _ h => h, q⟩
theorem sort_step {X : Cx} {pins : List (Addr × Obj)} {σ : L2.St} {H : Hp} {s1 : Shared} {a : Addr} {S : Int → Bool} {c : Nat} {Q : VK} (I2 : Inv X pins σ H s1) (hh : X.A.handled = none) (hS : SetR X.w s1.heap a S c)
    (q1 : ∀ (ks : List Int) (p : Addr), ks.Pairwise (· < ·) → (∀ k, k ∈ ks ↔ S k = true) → H p = none → Q (.ref p) (upd H p (.lst (ks.map V.int)))) : wpAny (model X.prog X.w) X.A (call (.builtin "sorted") [.ref a]) (EP X pins σ Q) X.xe s1 := by
  refine SS.sorted_setU hS hh fun s' p out c ks k g o hp hg' hi hsrt hmem hlen hb => ?_
  have hzl : (ks.map V.int).length ≤ sizeLine := by rw [List.length_map, hlen, sizeLine_eq]; unfold scanBound at hb; omega
  have hn : H p = none := I2.hok.fresh hp
  have J : Inv X pins σ (upd H p (.lst (ks.map V.int))) { s1 with heap := s'.heap, gens := s'.gens, drawn := s'.drawn, toks := s'.toks } :=
    I2.call (ch := []) (Un.laid k hp hn) (I2.hok.laid k hp ⟨hzl, out.toList, c, vals_of_ints hi, hg'⟩) (by rw [g]; exact I2.bare) (fun _ z => nomatch z)
  have e : s' = { s1 with heap := s'.heap, gens := s'.gens, drawn := s'.drawn, toks := s'.toks } := by
    cases s'
    cases s1
    cases o
    rfl
  rw [e]
  exact ⟨.ref p, _, J, rfl, q1 ks p hsrt hmem hn⟩
theorem pe_sortSet {X : Cx} {a : Expr} {ta : TE} {p p2 q pos : Pos} (hg : Gl X "sorted") (hm : X.mg "sorted" = none) (hg2 : Gl X "set") (hm2 : X.mg "set" = none) (ha : PE X a ta) (hc : X.calm = true := by rfl)
    (na : starEach [a] X.env = (false, eval a X.env) :: starEach [] X.env := by rfl) : PE X (.Call (.Name "sorted" p) [.Call (.Name "set" p2) [a] [] q] [] pos) (tSortSet X.K ta) := by
  refine ⟨fun pins s σ H Q I h => ?_⟩
  refine Call_ (ld_blt I hg hm boot_sorted ?_)
  refine PyProof.Rows.callWith_builtin1 (PyProof.Rows.args_cons ?_ rfl) rfl rfl
  refine Call_ (ld_blt I hg2 hm2 boot_set ?_)
  refine PyProof.Rows.callWith_type1 (PyProof.Rows.args_cons (thn (ha.run pins s σ H _ I h) fun v s1 ⟨x, H1, I1, r1, q1⟩ => PyProof.Rows.args_nil ?_) na) na rfl
  obtain ⟨l, ns, U, rfl, hq, hU, hs, q1⟩ := q1
  cases r1
  obtain ⟨its, r, pl, hz⟩ := I1.list hq
  refine SS.call_set_listI ns U (I1.ok.hd hc) pl.isList (by simpa using intsAre_vals r) (by unfold scanBound; omega) hs fun h' tk c hS hk => ?_
  refine PyProof.Rows.args_nil ?_
  have I2 : Inv X pins σ H1 { s1 with heap := h', toks := tk } := I1.kept hk
  exact sort_step I2 (I1.ok.hd hc) hS fun ks p h1 h2 h3 => q1 ks p h1 (fun k => by rw [h2 k]; exact decide_eq_true_iff) h3
end Tw
/-! ### slices and sums of tuples, empty or whole -/
namespace Tw
open PySem PySem.Spec PyProof.Rows L2
section
variable {K : PySem.W.Frag} {H : Hp} {Q : VK}
/-- a slice, new or the tuple itself: a tuple that holds the stretch -/
theorem k_slA {a : Addr} {xs : List V} {lo hi : Option Int} (h : SqT K H a xs) (q : ∀ p H', Same H H' → SqT K H' p (cutV xs lo hi) → Q (.ref p) H') : rSlA K (.ref a) lo hi H Q := by
  refine ⟨a, xs, rfl, h, fun hw => ?_, fun _ p hp => ?_⟩
  · refine q a H (Same.refl H) ?_
    unfold cutV
    rw [hw.1, hw.2, List.drop_zero, Nat.sub_zero, List.take_length]
    exact h
  · exact q p _ (same_new hp) (.of upd_same)
theorem k_catA {a b : Addr} {xs ys : List V} (h1 : SqT K H a xs) (h2 : SqT K H b ys) (hz : xs.length + ys.length ≤ 100000) (q : ∀ p H', Same H H' → SqT K H' p (xs ++ ys) → Q (.ref p) H') : rCatA K (.ref a) (.ref b) H Q := by
  refine ⟨a, b, xs, ys, rfl, rfl, h1, h2, Nat.le_trans hz (by decide), fun e => ?_, fun _ e => ?_, fun _ _ p hp => ?_⟩
  · exact q b H (Same.refl H) (by rw [e]; exact h2)
  · exact q a H (Same.refl H) (by rw [e, List.append_nil]; exact h1)
  · exact q p _ (same_new hp) (.of upd_same)
end
end Tw
open PySem PySem.Spec PyProof.Rows L2 Tw
set_option hygiene false in
local macro_rules | `(tactic| walk_at "s1") => `(tactic| first
  | with_reducible refine m_seq ?_
  | with_reducible refine k_asg ?_
  | with_reducible refine m_asg ?_
  | ((with_reducible refine' k_var ?kv ?_); case kv => walk_at "look")
  | with_reducible refine k_c ?_
  | with_reducible refine k_op ?_
  | with_reducible refine k_I0 ?_
  | ((with_reducible refine k_I ?kv ?_); case kv => walk_at "cond")
  | with_reducible refine k_and1 ?_
  | with_reducible refine k_eqI ?_
  | with_reducible refine k_neI ?_
  | ((with_reducible refine k_eq ?kv ?_); case kv => exact rfl)
  | ((with_reducible refine k_ne ?kv ?_); case kv => exact rfl)
  | with_reducible refine k_isN ?_
  | with_reducible refine k_notN ?_
  | with_reducible refine k_nx ?_
  | with_reducible refine k_rt ?_
  | with_reducible refine m_next ?_
  | with_reducible refine m_bk ?_
  | with_reducible refine m_ct ?_
  | with_reducible refine k_if ?_
  | with_reducible refine k_test ?_
  | with_reducible refine k_tB ?_
  | with_reducible refine k_bl ?_
  | with_reducible refine k_chain ?_
  | with_reducible refine k_chainE ?_
  | with_reducible refine k_not ?_
  | with_reducible refine k_and ?_
  | with_reducible refine k_or ?_
  | with_reducible refine k_andV ?_
  | with_reducible refine k_orV ?_
  | with_reducible refine k_notV ?_
  | with_reducible refine k_ifE ?_
  | with_reducible refine k_ret ?_
  | with_reducible refine k_retN ?_
  | with_reducible refine k_drop ?_
  | with_reducible refine k_cons ?_
  | with_reducible refine k_nil ?_
  | with_reducible refine m_call ?_
  | with_reducible refine m_callS ?_
  | with_reducible refine k_rz ?_
  | with_reducible refine m_tryAs ?_
  | with_reducible refine m_tryOnly ?_
  | with_reducible refine m_tryM ?_
  | with_reducible refine k_cb ?_
  | with_reducible refine k_tup ?_
  | with_reducible refine k_lst ?_
  | ((with_reducible refine' k_aug ?kv ?_); case kv => exact rfl)
  | with_reducible refine k_ipI ?_
  | with_reducible refine k_un ?_
  | with_reducible refine k_U ?_
  | with_reducible refine k_sl ?_
  | with_reducible refine k_part ?_
  | with_reducible refine k_noPart ?_
  | with_reducible refine k_partE ?_
  | with_reducible refine k_bm ?_
  | with_reducible refine k_bm0 ?_
  | with_reducible refine k_isInt ?_
  | with_reducible refine k_isBool ?_
  | with_reducible refine k_min2 ?_
  | with_reducible refine k_max2 ?_
  | with_reducible refine m_gName ?_
  | with_reducible refine m_for ?_
  | with_reducible refine m_rng1 ?_
  | ((with_reducible refine m_rng1n ?kv ?_); case kv => walk_at "arith")
  | ((with_reducible refine m_rng1e ?kv ?_); case kv => walk_at "arith")
  | with_reducible refine m_rng2 ?_
  | ((with_reducible refine m_rng2e ?kv ?_); case kv => walk_at "arith")
  | with_reducible refine m_iL ?_
  | with_reducible refine m_iT ?_
  | with_reducible refine m_lc ?_
  | ((with_reducible refine k_disp ?kv ?_); case kv => (first | decide | (simp only [List.length_cons, List.length_nil]; omega)))
  | with_reducible refine m_rev ?_
  | with_reducible refine m_revL ?_
  | with_reducible refine m_enum ?_
  | with_reducible refine m_zip ?_
  | with_reducible refine m_rng3 ?_
  | with_reducible refine m_gCons ?_
  | with_reducible refine m_gNil ?_
  | with_reducible refine m_gSub ?_
  | with_reducible refine m_par ?_
  | with_reducible refine m_parE ?_
  | with_reducible refine m_wbody ?_
  | with_reducible refine m_lenSet ?_
  | with_reducible refine m_minD ?_
  | ((with_reducible refine' m_callV ?kv ?kf ?_); (case kv => walk_at "look"); (case kf => walk_at "isfn"))
  | with_reducible refine k_yes ?_
  | with_reducible refine k_T ?_
  | with_reducible refine k_F ?_
  | with_reducible refine k_nT ?_
  | with_reducible refine k_nF ?_)
local macro_rules | `(tactic| walk_at "cond") => `(tactic| first | exact ⟨by decide, by decide⟩ | omega | decide | exact ⟨by omega, by omega⟩ | exact ⟨by omega, by omega, by decide⟩ | exact Or.inr (by omega) | exact Or.inr (by decide) | exact Or.inl (by omega) | exact Or.inl (by decide) | assumption)
local macro_rules | `(tactic| walk_at "st") => `(tactic| repeat (walk_at "s1"))
local macro_rules | `(tactic| walk_at "look") => `(tactic| first | exact rfl | (simp only [List.getElem?_set, List.getElem?_cons_zero, List.getElem?_cons_succ]; exact rfl))
local macro_rules | `(tactic| walk_at "if") => `(tactic| first | with_reducible apply k_dec | with_reducible apply k_ndec)
local macro_rules | `(tactic| walk_at "arith") => `(tactic| first | decide | omega | (simp only [List.length_map, List.length_take, List.length_drop, List.length_append, List.length_cons, List.length_nil] at *; first | omega | (split <;> omega) | (split <;> split <;> omega)))
local macro_rules | `(tactic| walk_at "isfn") => `(tactic| assumption)
namespace Tw
/-- _law_whole(x) -/
def sp_law_whole (_ : PySem.W.Frag) : Sp := fun vs H Q _ => ∃ x : V, vs = [x] ∧ ((∃ n : Int, x = .int n ∧ Q (.bl true) H) ∨ (x = .non ∧ Q (.bl false) H))
theorem whole_int {K : PySem.W.Frag} {H : Hp} {Q : VK} {E : XK} {n : Int} (q : Q (.bl true) H) : sp_law_whole K [.int n] H Q E := ⟨_, rfl, .inl ⟨n, rfl, q⟩⟩
theorem whole_non {K : PySem.W.Frag} {H : Hp} {Q : VK} {E : XK} (q : Q (.bl false) H) : sp_law_whole K [.non] H Q E := ⟨_, rfl, .inr ⟨rfl, q⟩⟩
theorem len_law_whole (K : PySem.W.Frag) : ∀ vs H Q E, sp_law_whole K vs H Q E → vs.length = 1 := by
  rintro vs H Q E ⟨x, rfl, _⟩; rfl
def t_law_whole (K : PySem.W.Frag) : TS :=
  (tRet (tAndV (tCB rIsB (tCons (tVar 0) (tCons (tC (.ty "int")) tNil))) (tNotV (tCB rIsB (tCons (tVar 0) (tCons (tC (.ty "bool")) tNil))))))
abbrev n_law_whole : List Str := ["_law_found"]

theorem rd_law_whole (K : PySem.W.Frag) (vs : List V) (H : Hp) (Q : VK) (E : XK) (h : sp_law_whole K vs H Q E) : t_law_whole K { nx := fun _ H' => Q .non H', rt := Q } (start n_law_whole vs) H := by
  obtain ⟨x, rfl, (⟨n, rfl, q⟩ | ⟨rfl, q⟩)⟩ := h
  · unfold t_law_whole
    walk_at "st"
    exact q
  · unfold t_law_whole
    walk_at "st"
    refine k_isIntN ?_
    walk_at "st"
    exact q

/-- list(range(n)) -/
def ints0 (n : Nat) : List Int := (List.range n).map fun i : Nat => (i : Int)
theorem ints0_len (n : Nat) : (ints0 n).length = n := by unfold ints0; rw [List.length_map, List.length_range]
def Rg1K (Q : VK) (x : V) (H : Hp) : Prop := ∃ n, x = .int n ∧ RgOk 0 n ∧ ∀ q, H q = none → Q (.ref q) (upd H q (.lst (rgV 0 n)))
theorem k_lstRg {ta : TE} {σ : L2.St} {H : Hp} {Q : VK} (h : ta σ H (Rg1K Q)) : tLstRg (tRg1 ta) σ H Q := h
theorem k_lstRgE {H : Hp} {Q : VK} {n : Int} (h0 : 0 ≤ n ∧ n ≤ 1000000) (q : ∀ l H', H l = none → Same H H' → H' l = some (.lst ((ints0 n.toNat).map V.int)) → Q (.ref l) H') : Rg1K Q (.int n) H := by
  refine ⟨n, rfl, RgOk.of_le (by omega) (by omega) (by omega) (by omega), fun p hp => ?_⟩
  have e : rgV 0 n = (ints0 n.toNat).map V.int := by
    unfold rgV ints0
    rw [Int.sub_zero, List.map_map]
    congr 1
    funext i
    show V.int (0 + (i : Int)) = V.int (i : Int)
    rw [Int.zero_add]
  rw [e]
  exact q p _ hp (same_new hp) upd_same

/-- cuts, joins and repeats of lists of ints -/
theorem k_slTake {K : PySem.W.Frag} {H : Hp} {Q : VK} {p : Addr} {bs : List Int} {k : Nat} (h : SqL K H p (bs.map V.int)) (q : ∀ l H', H l = none → Same H H' → H' l = some (.lst ((bs.take k).map V.int)) → Q (.ref l) H') : rSlL K (.ref p) none (some (k : Int)) H Q := by
  refine k_slL h fun l hl => ?_
  rw [cutTake, ← List.map_take]
  exact q l _ hl (same_new hl) upd_same
theorem k_slDrop {K : PySem.W.Frag} {H : Hp} {Q : VK} {p : Addr} {bs : List Int} {k : Nat} (h : SqL K H p (bs.map V.int)) (q : ∀ l H', H l = none → Same H H' → H' l = some (.lst ((bs.drop k).map V.int)) → Q (.ref l) H') : rSlL K (.ref p) (some (k : Int)) none H Q := by
  refine k_slL h fun l hl => ?_
  rw [cutDrop, ← List.map_drop]
  exact q l _ hl (same_new hl) upd_same
theorem new_both {H : Hp} {p : Addr} {o : HO} (h : H p = none) : Same H (upd H p o) ∧ (upd H p o) p = some o := ⟨same_new h, upd_same⟩
theorem k_catI {H : Hp} {Q : VK} {a b : Addr} {xs ys : List Int} (h1 : H a = some (.lst (xs.map V.int))) (h2 : H b = some (.lst (ys.map V.int))) (hn : xs.length + ys.length ≤ 1000000) (q : ∀ l H', H l = none → Same H H' → H' l = some (.lst ((xs ++ ys).map V.int)) → Q (.ref l) H') : rCat (.ref a) (.ref b) H Q := by
  refine k_cat h1 h2 (by rw [List.length_map, List.length_map]; exact hn) fun p hp => ?_
  rw [← List.map_append]
  exact q p _ hp (same_new hp) upd_same
theorem k_catKI {K : PySem.W.Frag} {H : Hp} {Q : VK} {a b : Addr} {xs ys : List Int} (h1 : SqL K H a (xs.map V.int)) (h2 : SqL K H b (ys.map V.int)) (hn : xs.length + ys.length ≤ 1000000) (q : ∀ l H', H l = none → Same H H' → H' l = some (.lst ((xs ++ ys).map V.int)) → Q (.ref l) H') : rCatK K (.ref a) (.ref b) H Q := by
  refine k_catK h1 h2 (by rw [List.length_map, List.length_map]; exact hn) fun p hp => ?_
  rw [← List.map_append]
  exact q p _ hp (same_new hp) upd_same
theorem k_repI {H : Hp} {Q : VK} {a : Addr} {xs : List Int} {n : Int} (h : H a = some (.lst (xs.map V.int))) (h0 : 0 ≤ n ∧ n ≤ 1000000) (hn : xs.length * n.toNat ≤ 1000000) (q : ∀ l H' (cs : List Int), H l = none → Same H H' → cs = (List.replicate n.toNat xs).flatten → cs.length = n.toNat * xs.length → H' l = some (.lst (cs.map V.int)) → Q (.ref l) H') : rRep (.ref a) (.int n) H Q := by
  obtain ⟨m, rfl⟩ := Int.eq_ofNat_of_zero_le h0.1
  rw [Int.toNat_natCast] at hn q
  refine k_rep h (by rw [List.length_map]; exact hn) (by omega) fun p hp => ?_
  have e : (List.replicate m (xs.map V.int)).flatten = ((List.replicate m xs).flatten).map V.int := by
    rw [List.map_flatten, List.map_replicate]
  rw [e]
  refine q p _ _ hp (same_new hp) rfl ?_ upd_same
  rw [List.length_flatten, List.map_replicate, List.sum_replicate_nat]
/-- a number in a tuple of numbers -/
theorem k_inT {K : PySem.W.Frag} {H : Hp} {Q : VK} {p : Addr} {x : Int} {xs : List V} (h : H p = some (.tup xs)) (hf : xs.all flatV = true) (q : ∀ b, Q (.bl b) H) : rIn K false (.int x) (.ref p) H Q := ⟨p, xs, rfl, .inr (.of h), rfl, hf, q _⟩

/-! ### bits of a number -/
/-- the bit k of b -/
def bit (b : Int) (k : Nat) : Int := b / 2 ^ k % 2
theorem bit_cases (b : Int) (k : Nat) : bit b k = 0 ∨ bit b k = 1 := by unfold bit; omega
/-- the ones among the first n bits -/
def onesIn (b : Int) : Nat → Int
  | 0 => 0
  | n + 1 => onesIn b n + bit b n
theorem onesIn_mono1 (b : Int) (n : Nat) : onesIn b n ≤ onesIn b (n + 1) ∧ onesIn b (n + 1) ≤ onesIn b n + 1 := by
  show onesIn b n ≤ onesIn b n + bit b n ∧ onesIn b n + bit b n ≤ _
  have := bit_cases b n; omega
theorem onesIn_mono (b : Int) (n m : Nat) (h : n ≤ m) : onesIn b n ≤ onesIn b m := by
  induction m with
  | zero => have : n = 0 := by omega
            subst this; exact Int.le_refl _
  | succ m ih =>
    rcases Nat.lt_or_ge m n with q | q
    · have : n = m + 1 := by omega
      subst this; exact Int.le_refl _
    · have := ih q; have := onesIn_mono1 b m; omega
theorem onesIn_range (b : Int) (n : Nat) : 0 ≤ onesIn b n ∧ onesIn b n ≤ n := by
  induction n with
  | zero => exact ⟨Int.le_refl _, Int.le_refl _⟩
  | succ n ih => have := onesIn_mono1 b n; omega
theorem sum_range_succ (f : Nat → Int) (n : Nat) : ((List.range (n + 1)).map f).sum = ((List.range n).map f).sum + f n := by
  rw [List.range_succ, List.map_append, List.sum_append]; simp
theorem onesIn_sum (b : Int) (n : Nat) : ((List.range n).map fun k => bit b k).sum = onesIn b n := by
  induction n with
  | zero => rfl
  | succ n ih => rw [sum_range_succ, ih]; rfl
theorem halve (b : Int) (k : Nat) : b / 2 ^ k / 2 = b / 2 ^ (k + 1) := by
  rw [Int.pow_succ, Int.ediv_ediv_of_nonneg]
  exact Int.le_of_lt (Int.pow_pos (by decide))

/-! ### rows and blocks -/
/-- all items are bits -/
def Bits (bs : List Int) : Prop := ∀ b ∈ bs, b = 0 ∨ b = 1
/-- the block of some bits (the first one counting 1) -/
def blk : List Int → Int
  | [] => 0
  | b :: bs => b + 2 * blk bs
/-- the row of bits bs as blocks, so many -/
def blksN (bs : List Int) : Nat → List Int
  | 0 => []
  | n + 1 => blk (bs.take 32) :: blksN (bs.drop 32) n
/-- the blocks of a row -/
def blks (bs : List Int) : List Int := blksN bs ((bs.length + 31) / 32)
theorem blksN_len (bs : List Int) (n : Nat) : (blksN bs n).length = n := by
  induction n generalizing bs with
  | zero => rfl
  | succ n ih => show (blksN (bs.drop 32) n).length + 1 = n + 1; rw [ih]
theorem blks_len (bs : List Int) : (blks bs).length = (bs.length + 31) / 32 := blksN_len _ _
theorem blksN_get (bs : List Int) (n j : Nat) (h : j < n) : (blksN bs n)[j]? = some (blk ((bs.drop (32 * j)).take 32)) := by
  induction n generalizing bs j with
  | zero => omega
  | succ n ih =>
    cases j with
    | zero => rfl
    | succ j =>
      show (blksN (bs.drop 32) n)[j]? = _
      rw [ih (bs.drop 32) j (by omega), List.drop_drop, show 32 + 32 * j = 32 * (j + 1) by omega]
theorem blks_get (bs : List Int) (j : Nat) (h : j < (bs.length + 31) / 32) : (blks bs)[j]? = some (blk ((bs.drop (32 * j)).take 32)) := blksN_get _ _ _ h
theorem blk_range : ∀ bs : List Int, Bits bs → 0 ≤ blk bs ∧ blk bs < 2 ^ bs.length
  | [], _ => ⟨Int.le_refl _, by decide⟩
  | b :: bs, h => by
    obtain ⟨h1, h2⟩ := blk_range bs fun x hx => h x (List.mem_cons_of_mem _ hx)
    have h3 := h b List.mem_cons_self
    have e : (2 : Int) ^ (bs.length + 1) = 2 ^ bs.length * 2 := Int.pow_succ ..
    show 0 ≤ b + 2 * blk bs ∧ b + 2 * blk bs < 2 ^ (bs.length + 1)
    omega
/-- a bit of a block -/
theorem bit_blk : ∀ (bs : List Int) (k : Nat), Bits bs → bit (blk bs) k = bs.getD k 0
  | [], k, _ => by
    show (0 : Int) / 2 ^ k % 2 = _
    rw [Int.zero_ediv]; rfl
  | b :: bs, 0, h => by
    have h3 := h b List.mem_cons_self
    show (b + 2 * blk bs) / 2 ^ 0 % 2 = b
    simp; omega
  | b :: bs, k + 1, h => by
    have h3 := h b List.mem_cons_self
    have ih := bit_blk bs k fun x hx => h x (List.mem_cons_of_mem _ hx)
    show (b + 2 * blk bs) / 2 ^ (k + 1) % 2 = (b :: bs).getD (k + 1) 0
    rw [List.getD_cons_succ, ← ih]
    show _ = blk bs / 2 ^ k % 2
    have e : (b + 2 * blk bs) / 2 = blk bs := by omega
    rw [show (2 : Int) ^ (k + 1) = 2 * 2 ^ k by rw [Int.pow_succ, Int.mul_comm], ← Int.ediv_ediv_of_nonneg (by decide), e]
theorem Bits.sub {bs cs : List Int} (h : Bits bs) (s : ∀ x ∈ cs, x ∈ bs) : Bits cs := fun x hx => h x (s x hx)
theorem Bits.take {bs : List Int} (h : Bits bs) (n : Nat) : Bits (bs.take n) := h.sub fun _ hx => List.mem_of_mem_take hx
theorem Bits.drop {bs : List Int} (h : Bits bs) (n : Nat) : Bits (bs.drop n) := h.sub fun _ hx => List.mem_of_mem_drop hx
/-- a row's blocks: each below 2 ^ 32 -/
theorem blks_range {bs : List Int} (h : Bits bs) {j : Nat} {b : Int} (e : (blks bs)[j]? = some b) : 0 ≤ b ∧ b < 4294967296 := by
  have hj : j < (bs.length + 31) / 32 := by
    have := (List.getElem?_eq_some_iff.mp e).1
    rw [blks_len] at this; exact this
  rw [blks_get bs j hj] at e
  obtain rfl := Option.some.inj e
  obtain ⟨h1, h2⟩ := blk_range _ ((h.drop (32 * j)).take 32)
  refine ⟨h1, Int.lt_of_lt_of_le h2 ?_⟩
  have : ((bs.drop (32 * j)).take 32).length ≤ 32 := by rw [List.length_take]; omega
  show (2 : Int) ^ _ ≤ 2 ^ 32
  exact_mod_cast Nat.pow_le_pow_right (show 0 < 2 by decide) this
/-- bit k of block j is bit 32 * j + k of the row -/
theorem bit_blks {bs : List Int} (h : Bits bs) {j : Nat} {b : Int} (e : (blks bs)[j]? = some b) {k : Nat} (hk : k < 32) : bit b k = bs.getD (32 * j + k) 0 := by
  have hj : j < (bs.length + 31) / 32 := by
    have := (List.getElem?_eq_some_iff.mp e).1
    rw [blks_len] at this; exact this
  rw [blks_get bs j hj] at e
  obtain rfl := Option.some.inj e
  rw [bit_blk _ _ ((h.drop (32 * j)).take 32), List.getD_eq_getElem?_getD, List.getD_eq_getElem?_getD, List.getElem?_take, if_pos hk, List.getElem?_drop]
/-- blocks are alike where their bits are -/
theorem blk_ext {x y : Int} (hx : 0 ≤ x ∧ x < 4294967296) (hy : 0 ≤ y ∧ y < 4294967296) (h : ∀ k, k < 32 → bit x k = bit y k) : x = y := by
  have key : ∀ n : Nat, n ≤ 32 → x / 2 ^ (32 - n) = y / 2 ^ (32 - n) := by
    intro n
    induction n with
    | zero =>
      intro _
      rw [Int.ediv_eq_zero_of_lt hx.1 (by exact hx.2), Int.ediv_eq_zero_of_lt hy.1 (by exact hy.2)]
    | succ n ih =>
      intro hn
      have h1 := ih (by omega)
      have h2 := h (32 - (n + 1)) (by omega)
      unfold bit at h2
      have e : 32 - n = (32 - (n + 1)) + 1 := by omega
      rw [e, ← halve, ← halve] at h1
      omega
  have := key 32 (Nat.le_refl _)
  rw [Nat.sub_self, Int.pow_zero, Int.ediv_one, Int.ediv_one] at this
  exact this

/-- blocks filled with the first i bits, zeroes behind -/
def part (bs : List Int) (n i : Nat) : List Int := blksN (bs.take i) n
theorem blk_nil : blk [] = 0 := rfl
theorem blk_snoc : ∀ (bs : List Int) (b : Int), blk (bs ++ [b]) = blk bs + b * 2 ^ bs.length
  | [], b => by show b + 2 * 0 = 0 + b * 2 ^ 0; simp
  | c :: bs, b => by
    show c + 2 * blk (bs ++ [b]) = c + 2 * blk bs + b * 2 ^ (bs.length + 1)
    rw [blk_snoc bs b, Int.pow_succ, Int.mul_add, ← Int.mul_assoc 2 b, Int.mul_comm 2 b, Int.mul_assoc b, Int.mul_comm 2 (2 ^ bs.length), Int.add_assoc]
theorem part_zero (bs : List Int) (n : Nat) : part bs n 0 = List.replicate n 0 := by
  unfold part
  rw [List.take_zero]
  induction n with
  | zero => rfl
  | succ n ih => show blk [] :: blksN [] n = _; rw [ih]; rfl
theorem part_full (bs : List Int) : part bs ((bs.length + 31) / 32) bs.length = blks bs := by
  unfold part blks; rw [List.take_length]
theorem part_len (bs : List Int) (n i : Nat) : (part bs n i).length = n := blksN_len _ _
theorem part_get (bs : List Int) (n i j : Nat) (h : j < n) : (part bs n i)[j]? = some (blk (((bs.take i).drop (32 * j)).take 32)) := blksN_get _ _ _ h
/-- one bit more: only its own block turns -/
theorem part_succ {bs : List Int} {n i : Nat} {b : Int} (hb : bs[i]? = some b) (hn : i / 32 < n) :
    part bs n (i + 1) = (part bs n i).set (i / 32) ((part bs n i).getD (i / 32) 0 + b * 2 ^ (i % 32)) := by
  have hi : i < bs.length := (List.getElem?_eq_some_iff.mp hb).1
  apply List.ext_getElem?
  intro j
  rw [List.getElem?_set, part_len]
  rcases Nat.lt_or_ge j n with hj | hj
  · rw [part_get _ _ _ _ hj]
    have et : bs.take (i + 1) = bs.take i ++ [b] := by rw [List.take_add_one, hb]; rfl
    have hl : (bs.take i).length = i := by rw [List.length_take]; omega
    rw [et]
    by_cases h : i / 32 = j
    · subst h
      rw [if_pos rfl, if_pos hn, List.getD_eq_getElem?_getD, part_get _ _ _ _ hn]
      have hd : ((bs.take i).drop (32 * (i / 32))).length = i % 32 := by rw [List.length_drop, hl]; omega
      have e2 : ((bs.take i).drop (32 * (i / 32))).take 32 = (bs.take i).drop (32 * (i / 32)) := List.take_of_length_le (by rw [hd]; omega)
      have e1 : ((bs.take i).drop (32 * (i / 32)) ++ [b]).take 32 = (bs.take i).drop (32 * (i / 32)) ++ [b] := List.take_of_length_le (by rw [List.length_append, hd]; simp; omega)
      rw [List.drop_append_of_le_length (by rw [hl]; omega), e1, e2, blk_snoc, hd]
      rfl
    · rw [if_neg h, part_get _ _ _ _ hj]
      congr 2
      rcases Nat.lt_or_ge j (i / 32) with l | l
      · rw [List.drop_append_of_le_length (by rw [hl]; omega), List.take_append_of_le_length (by rw [List.length_drop, hl]; omega)]
      · rw [List.drop_of_length_le (by rw [List.length_append, hl]; simp; omega), List.drop_of_length_le (by rw [hl]; omega)]
  · rw [List.getElem?_eq_none (by rw [part_len]; exact hj), if_neg (by omega), List.getElem?_eq_none (by rw [part_len]; exact hj)]
theorem part_range_take {bs : List Int} {i : Nat} (h : Bits (bs.take i)) {n j : Nat} (hj : j < n) (hi : i % 32 = i - 32 * j) (hij : 32 * j ≤ i) : 0 ≤ (part bs n i).getD j 0 ∧ (part bs n i).getD j 0 < 2 ^ (i % 32) := by
  rw [List.getD_eq_getElem?_getD, part_get _ _ _ _ hj]
  obtain ⟨h1, h2⟩ := blk_range _ ((h.drop (32 * j)).take 32)
  refine ⟨h1, Int.lt_of_lt_of_le h2 ?_⟩
  have : (((bs.take i).drop (32 * j)).take 32).length ≤ i % 32 := by rw [List.length_take, List.length_drop, List.length_take]; omega
  exact_mod_cast Nat.pow_le_pow_right (show 0 < 2 by decide) this
/-- a bit above a number -/
theorem or_high {x : Int} {k : Nat} (h0 : 0 ≤ x) (h1 : x < 2 ^ k) : Builtin.bitOr x (1 * 2 ^ k) = x + 1 * 2 ^ k := by
  have e := or_low (q := 1) (r := x) (k := k) (by decide) h0 h1
  rw [bitOr_nn h0 (by rw [Int.one_mul]; exact Int.le_of_lt (Int.pow_pos (by decide))), Nat.or_comm, ← bitOr_nn (by rw [Int.one_mul]; exact Int.le_of_lt (Int.pow_pos (by decide))) h0, e, Int.add_comm]

/-- packed(bits) -/
def sp_packed (K : PySem.W.Frag) : Sp := fun vs H Q E => ∃ (a : Addr) (bs : List Int), vs = [.ref a] ∧ SqL K H a (bs.map V.int) ∧ bs.length ≤ 100000 ∧
  (bs.length > 4096 → E (.ref (He.ga K "TooMany")) none H) ∧
  (bs.length ≤ 4096 → ¬ Bits bs → ∀ H', Same H H' → E (.ref (He.ga K "NoBit")) none H') ∧
  (bs.length ≤ 4096 → Bits bs → ∀ p H', H p = none → Same H H' → H' p = some (.lst ((blks bs).map V.int)) → Q (.ref p) H')
theorem len_packed (K : PySem.W.Frag) : ∀ vs H Q E, sp_packed K vs H Q E → vs.length = 1 := by
  rintro vs H Q E ⟨x, y, rfl, _⟩; rfl
def t_packed (K : PySem.W.Frag) (E : XK) : TS :=
  (tSeq (tIfS (tTest (tOp rGtI (tCB (rLen K) (tCons (tVar 0) tNil)) (tC (.int 4096))))
  (tRz (fun cls d _ H => E cls d H) (He.ga K "TooMany"))
  tNext)
  (tSeq (tAsg (tOp rRep (tLst (tCons (tC (.int 0)) tNil)) (tOp rDiv (tOp rMinus (tOp rPlus (tCB (rLen K) (tCons (tVar 0) tNil)) (tC (.int 32))) (tC (.int 1))) (tC (.int 32)))) (gName 1))
  (tSeq (tFor (iEnum K (tCons (tVar 0) tNil)) (gTup K 2 (gCons (gName 2) (gCons (gName 3) gNil)))
  (tSeq (tIfS (tAnd (tTest (tOp rNe (tVar 3) (tC (.int 0)))) (tTest (tOp rNe (tVar 3) (tC (.int 1)))))
  (tRz (fun cls d _ H => E cls d H) (He.ga K "NoBit"))
  tNext)
  (tIfS (tTest (tOp rEq (tVar 3) (tC (.int 1))))
  (tAsg (tOp rBitOr (tOp (rIxL K) (tVar 1) (tOp rDiv (tVar 2) (tC (.int 32)))) (tOp rShlW (tC (.int 1)) (tOp rMod (tVar 2) (tC (.int 32))))) (gSub (tVar 1) (tOp rDiv (tVar 2) (tC (.int 32))) rSetL))
  tNext)))
  (tRet (tVar 1)))))
abbrev n_packed : List Str := ["bits", "blocks", "at", "bit"]

theorem rd_packed (K : PySem.W.Frag) (vs : List V) (H : Hp) (Q : VK) (E : XK) (h : sp_packed K vs H Q E) : t_packed K E { nx := fun _ H' => Q .non H', rt := Q } (start n_packed vs) H := by
  obtain ⟨a, bs, rfl, hS, hl, q1, q2, q3⟩ := h
  unfold t_packed
  walk_at "st"
  refine k_lenL hS ?_
  walk_at "st"
  rw [List.length_map]
  walk_at "if" <;> intro c1
  · walk_at "st"
    exact q1 (by omega)
  have hm : bs.length ≤ 4096 := by omega
  walk_at "st"
  intro p0 hp0
  walk_at "st"
  refine k_lenL ((same_new hp0).seq hS) ?_
  walk_at "st"
  rw [List.length_map]
  have en : ((bs.length : Int) + 32 - 1) / 32 = (((bs.length + 31) / 32 : Nat) : Int) := by omega
  rw [en]
  refine k_rep (xs := [.int 0]) upd_same (by simp only [List.length_cons, List.length_nil]; omega) (by omega) fun p hp => ?_
  have hp' : H p = none := (same_new hp0).free hp
  have s0 := (same_new hp0).trans (same_new (o := .lst (List.replicate ((bs.length + 31) / 32) [V.int 0]).flatten) hp)
  walk_at "st"
  refine m_enumE (s0.seq hS) ?_
  refine loop_walk walk_enum (fun i σ H' => ∃ y z, σ = [some (.ref a), some (.ref p), y, z] ∧ i ≤ bs.length ∧ Same H H' ∧ H' p = some (.lst ((part bs ((bs.length + 31) / 32) i).map V.int)) ∧ Bits (bs.take i)) ⟨none, none, rfl, Nat.zero_le _, s0, ?_, fun x hx => by simp at hx⟩ (fun i σ H' ⟨y, z, _, _, s, _⟩ => s.seq hS) ?_ ?_
  · rw [upd_same, part_zero, List.map_replicate, rep_one]
  · rintro i v σ H1 H2 hi ⟨y, z, rfl, _, s, e, hb⟩ ⟨T, x, w, rfl, hT, rfl, ex, ew⟩
    rw [List.length_map] at hi
    obtain ⟨b, hbi, rfl⟩ := of_mapint ew
    obtain rfl : x = .int (i : Nat) := (Option.some.inj ex).symm
    have npT : p ≠ T := ne_of_none e hT
    have s2 : Same H (upd H1 T (.tup [.int (i : Nat), .int b])) := s.trans (same_new hT)
    have e2 : (upd H1 T (.tup [.int (i : Nat), .int b])) p = some (.lst ((part bs ((bs.length + 31) / 32) i).map V.int)) := by rw [upd_ne npT]; exact e
    refine m_gTup (.of upd_same) rfl ?_
    walk_at "st"
    have nobit : ∀ (c : ¬ (b = 0 ∨ b = 1)), ¬ Bits bs := fun c hB => c (hB b (List.mem_of_getElem? hbi))
    have go : (b = 0 ∨ b = 1) → Bits (bs.take (i + 1)) := by
      intro hb1 q hq
      rw [List.take_add_one, hbi] at hq
      rcases List.mem_append.mp hq with h | h
      · exact hb q h
      · have : q = b := by simpa using h
        subst this; exact hb1
    have hin : i / 32 < (bs.length + 31) / 32 := by omega
    walk_at "if" <;> intro c0
    · walk_at "st"
      walk_at "if" <;> intro c1
      · walk_at "st"
        exact q2 hm (nobit fun z => z.elim c0 c1) _ s2
      · walk_at "st"
        refine k_decT c1 ?_
        obtain rfl : b = 1 := c1
        walk_at "st"
        have hlt : i / 32 < ((part bs ((bs.length + 31) / 32) i)).length := by rw [part_len]; exact hin
        refine k_ixL (.of e2) (at_int (by omega) (i := ((i : Nat) : Int) / 32) (x := .int ((part bs ((bs.length + 31) / 32) i).getD (i / 32) 0)) ?_) ?_
        · rw [show (((i : Nat) : Int) / 32).toNat = i / 32 by omega, List.getD_eq_getElem?_getD, List.getElem?_eq_getElem hlt]
          exact mapint (List.getElem?_eq_getElem hlt)
        walk_at "st"
        have hsh : CShl 1 (((i : Nat) : Int) % 32) := by
          rw [show ((i : Nat) : Int) % 32 = ((i % 32 : Nat) : Int) by omega]
          exact shl_ok (n := 1) (by decide) (by omega)
        refine k_I hsh ?_
        walk_at "st"
        have hr := part_range_take hb (n := (bs.length + 31) / 32) (j := i / 32) hin (by omega) (by omega)
        have eor : Builtin.bitOr ((part bs ((bs.length + 31) / 32) i).getD (i / 32) 0) (1 * 2 ^ (((i : Nat) : Int) % 32).toNat) = (part bs ((bs.length + 31) / 32) i).getD (i / 32) 0 + 1 * 2 ^ (i % 32) := by
          rw [show (((i : Nat) : Int) % 32).toNat = i % 32 by omega]
          exact or_high hr.1 hr.2
        rw [eor]
        refine m_setL e2 (ixN_nat (by omega) (by rw [List.length_map, part_len]; omega)) ?_
        walk_at "st"
        refine ⟨_, _, rfl, hi, Same.mut s2 hp', ?_, go (.inr rfl)⟩
        rw [upd_same, show (((i : Nat) : Int) / 32).toNat = i / 32 by omega, part_succ hbi hin, List.map_set]
    · walk_at "st"
      obtain rfl : b = 0 := c0
      refine k_decF (by decide) ?_
      walk_at "st"
      refine ⟨_, _, rfl, hi, s2, ?_, go (.inl rfl)⟩
      rw [e2, part_succ hbi hin, Int.zero_mul, Int.add_zero]
      congr 2
      have hlt : i / 32 < ((part bs ((bs.length + 31) / 32) i)).length := by rw [part_len]; exact hin
      rw [List.getD_eq_getElem?_getD, List.getElem?_eq_getElem hlt]
      show _ = List.map V.int ((part bs ((bs.length + 31) / 32) i).set (i / 32) ((part bs ((bs.length + 31) / 32) i)[i / 32]))
      rw [List.set_getElem_self]
  · rintro σ H' ⟨y, z, rfl, _, s, e, hb⟩
    rw [List.length_map] at e hb
    walk_at "st"
    rw [List.take_length] at hb
    rw [part_full] at e
    exact q3 hm hb p H' hp' s e

/-- the ones among the first n bits of a row -/
def sumTo (bs : List Int) (n : Nat) : Int := (bs.take n).sum
theorem sumTo_succ (bs : List Int) (n : Nat) : sumTo bs (n + 1) = sumTo bs n + bs.getD n 0 := by
  unfold sumTo
  rw [List.take_add_one, List.sum_append, List.getD_eq_getElem?_getD]
  cases bs[n]? <;> simp
theorem sumTo_all (bs : List Int) {n : Nat} (h : bs.length ≤ n) : sumTo bs n = bs.sum := by
  unfold sumTo; rw [List.take_of_length_le h]
theorem sumTo_zero (bs : List Int) : sumTo bs 0 = 0 := rfl
/-- the ones of a block's first bits -/
theorem onesIn_blks {bs : List Int} (h : Bits bs) {j : Nat} {b : Int} (e : (blks bs)[j]? = some b) : ∀ k, k ≤ 32 → onesIn b k = sumTo bs (32 * j + k) - sumTo bs (32 * j)
  | 0, _ => by rw [Nat.add_zero]; show (0 : Int) = _; omega
  | k + 1, hk => by
    show onesIn b k + bit b k = _
    rw [onesIn_blks h e k (by omega), bit_blks h e (by omega), show 32 * j + (k + 1) = (32 * j + k) + 1 by omega, sumTo_succ]; omega

/-- the ones ahead of the first n blocks -/
def aheadN (bs : List Int) (n : Nat) : List Int := (List.range n).map fun j => sumTo bs (32 * j)
theorem aheadN_len (bs : List Int) (n : Nat) : (aheadN bs n).length = n := by unfold aheadN; simp
theorem aheadN_get (bs : List Int) {n j : Nat} (h : j < n) : (aheadN bs n)[j]? = some (sumTo bs (32 * j)) := by unfold aheadN; simp [h]
theorem aheadN_succ (bs : List Int) (n : Nat) : aheadN bs (n + 1) = aheadN bs n ++ [sumTo bs (32 * n)] := by unfold aheadN; rw [List.range_succ, List.map_append]; rfl
/-- the table of a row: the ones ahead of each block, and all -/
def aheadT (bs : List Int) : List Int := aheadN bs ((bs.length + 31) / 32 + 1)
theorem aheadT_len (bs : List Int) : (aheadT bs).length = (bs.length + 31) / 32 + 1 := aheadN_len _ _
theorem aheadT_get (bs : List Int) {j : Nat} (h : j ≤ (bs.length + 31) / 32) : (aheadT bs)[j]? = some (sumTo bs (32 * j)) := aheadN_get bs (by omega)
theorem sumTo_add (bs : List Int) (n m : Nat) : sumTo bs (n + m) = sumTo bs n + ((bs.drop n).take m).sum := by
  unfold sumTo; rw [List.take_add, List.sum_append]
theorem getD_bit {bs : List Int} (h : Bits bs) (k : Nat) : bs.getD k 0 = 0 ∨ bs.getD k 0 = 1 := by
  rw [List.getD_eq_getElem?_getD]
  cases e : bs[k]? with
  | none => exact .inl rfl
  | some b => exact h b (List.mem_of_getElem? e)
theorem sumTo_mono1 {bs : List Int} (h : Bits bs) (n : Nat) : sumTo bs n ≤ sumTo bs (n + 1) ∧ sumTo bs (n + 1) ≤ sumTo bs n + 1 := by
  rw [sumTo_succ]; have := getD_bit h n; omega
theorem sumTo_mono {bs : List Int} (h : Bits bs) {n m : Nat} (l : n ≤ m) : sumTo bs n ≤ sumTo bs m := by
  induction m with
  | zero => rw [show n = 0 by omega]; exact Int.le_refl _
  | succ m ih =>
    rcases Nat.lt_or_ge m n with z | z
    · rw [show n = m + 1 by omega]; exact Int.le_refl _
    · have := ih z; have := sumTo_mono1 h m; omega
theorem sumTo_range {bs : List Int} (h : Bits bs) (n : Nat) : 0 ≤ sumTo bs n ∧ sumTo bs n ≤ n := by
  induction n with
  | zero => exact ⟨Int.le_refl _, Int.le_refl _⟩
  | succ n ih => have := sumTo_mono1 h n; omega
theorem blks_getD {bs : List Int} {j : Nat} (h : j < (bs.length + 31) / 32) : (blks bs)[j]? = some ((blks bs).getD j 0) := by
  rw [List.getD_eq_getElem?_getD, List.getElem?_eq_getElem (by rw [blks_len]; exact h)]; rfl

/-! ### promises -/
/-- ones_in(b, u) -/
def sp_ones_in (_ : PySem.W.Frag) : Sp := fun vs H Q _ => ∃ (b : Int) (u : Nat), vs = [.int b, .int (u : Int)] ∧ u ≤ 1000 ∧ ∀ H', Same H H' → Q (.int (onesIn b u)) H'
theorem len_ones_in (K : PySem.W.Frag) : ∀ vs H Q E, sp_ones_in K vs H Q E → vs.length = 2 := by
  rintro vs H Q E ⟨b, u, rfl, _⟩; rfl
def t_ones_in (K : PySem.W.Frag) : TS :=
  (tRet (tCB (rSum K) (tCons (tLc (iRng1 (tCons (tVar 1) tNil)) (gName 2) tYes (tOp rAnd1 (tOp rShr (tVar 0) (tVar 2)) (tC (.int 1))) [2]) tNil)))
abbrev n_ones_in : List Str := ["block", "upto", "k"]

theorem rd_ones_in (K : PySem.W.Frag) (vs : List V) (H : Hp) (Q : VK) (E : XK) (h : sp_ones_in K vs H Q E) : t_ones_in K { nx := fun _ H' => Q .non H', rt := Q } (start n_ones_in vs) H := by
  obtain ⟨b, u, rfl, hu, q⟩ := h
  unfold t_ones_in
  walk_at "st"
  refine comp_rangeV (n := u) (f := fun k => .int (bit b k)) (by omega) (fun k H2 Q2 _ _ q2 => ?_) (fun p H' _ s e => ?_)
  · walk_at "st"
    exact q2 _ (Same.refl _)
  · walk_at "st"
    refine k_sum (ns := (List.range u).map fun k => bit b k) (.of ?_) ?_
    · rw [e, List.map_map]; rfl
    · rw [onesIn_sum]; walk_at "st"; exact q _ s

/-- ones_table(blocks), the blocks of a row -/
def sp_ones_table (K : PySem.W.Frag) : Sp := fun vs H Q _ => ∃ (a : Addr) (bs : List Int), vs = [.ref a] ∧ H a = some (.lst ((blks bs).map V.int)) ∧ bs.length ≤ 5000 ∧ Bits bs ∧ ∀ p H', H p = none → Same H H' → H' p = some (.tup ((aheadT bs).map V.int)) → Q (.ref p) H'
theorem len_ones_table (K : PySem.W.Frag) : ∀ vs H Q E, sp_ones_table K vs H Q E → vs.length = 1 := by
  rintro vs H Q E ⟨a, bs, rfl, _⟩; rfl
def t_ones_table (K : PySem.W.Frag) : TS :=
  (tSeq (tAsg (tLst (tCons (tC (.int 0)) tNil)) (gName 1))
  (tSeq (tFor (iList K (tVar 0)) (gName 2)
  (tDrop (tBM K "list" rAppend (tVar 1) (tCons (tOp rPlus (tOp (rIxL K) (tVar 1) (tUn rNeg (tC (.int 1)))) (tCall (sp_ones_in K) [] E0 (tCons (tVar 2) (tCons (tC (.int 32)) tNil)))) tNil))))
  (tRet (tCB (rTupOf K) (tCons (tVar 1) tNil)))))
abbrev n_ones_table : List Str := ["blocks", "ahead", "block"]

theorem rd_ones_table (K : PySem.W.Frag) (vs : List V) (H : Hp) (Q : VK) (E : XK) (h : sp_ones_table K vs H Q E) : t_ones_table K { nx := fun _ H' => Q .non H', rt := Q } (start n_ones_table vs) H := by
  obtain ⟨a, bs, rfl, hS, hl, hB, q⟩ := h
  unfold t_ones_table
  walk_at "st"
  intro p hp
  walk_at "st"
  refine m_iLe (.of ((same_new hp).get hS)) ?_
  refine loop_ints (ns := blks bs) (fun i σ H' => ∃ y, σ = [some (.ref a), some (.ref p), y] ∧ i ≤ (blks bs).length ∧ Same H H' ∧ H' p = some (.lst ((aheadN bs (i + 1)).map V.int))) ⟨none, rfl, Nat.zero_le _, same_new hp, by rw [upd_same]; rfl⟩ (fun i σ H' ⟨_, _, _, s, _⟩ => .of (s.get hS)) ?_ ?_
  · rintro i x σ H' hx ⟨y, rfl, hi, s, e⟩
    have hlt : i < (blks bs).length := (List.getElem?_eq_some_iff.mp hx).1
    have hlt2 := hlt
    rw [blks_len] at hlt2
    walk_at "st"
    refine k_tyL (.of e) ?_
    walk_at "st"
    refine k_ixL (.of e) (x := .int (sumTo bs (32 * i))) (by rw [aheadN_succ, List.map_append]; exact atI_last _ _) ?_
    walk_at "st"
    refine ⟨x, 32, rfl, by decide, fun H2 s2 => ?_⟩
    walk_at "st"
    refine k_app (s2.get e) (by rw [List.length_map, aheadN_len]; omega) ?_
    walk_at "st"
    have e2 := s2.get e
    refine ⟨_, rfl, hlt, Same.mut (s.trans s2) hp, ?_⟩
    rw [upd_same, aheadN_succ bs (i + 1), List.map_append, onesIn_blks hB hx 32 (Nat.le_refl _), show 32 * i + 32 = 32 * (i + 1) by omega, show sumTo bs (32 * i) + (sumTo bs (32 * (i + 1)) - sumTo bs (32 * i)) = sumTo bs (32 * (i + 1)) by omega]; rfl
  · rintro σ H' ⟨y, rfl, hi, s, e⟩
    walk_at "st"
    refine k_tupL (.of e) fun t ht => ?_
    walk_at "st"
    refine q t _ (s.gone _ ht) (s.trans (same_new ht)) ?_
    rw [upd_same, blks_len]; rfl
/-- kept_row(bits) -/
def sp_kept_row (K : PySem.W.Frag) : Sp := fun vs H Q E => ∃ (a : Addr) (bs : List Int), vs = [.ref a] ∧ SqL K H a (bs.map V.int) ∧ bs.length ≤ 100000 ∧
  (bs.length > 4096 → E (.ref (He.ga K "TooMany")) none H) ∧
  (bs.length ≤ 4096 → ¬ Bits bs → ∀ H', Same H H' → E (.ref (He.ga K "NoBit")) none H') ∧
  (bs.length ≤ 4096 → Bits bs → ∀ p t pa pb H', H p = none → H t = none → H pa = none → H pb = none → Same H H' → H' p = some (.tup [.ref t, .ref pb]) → H' t = some (.tup [.int (bs.length : Int), .ref pa]) → H' pa = some (.tup ((aheadT bs).map V.int)) → H' pb = some (.lst ((blks bs).map V.int)) → Q (.ref p) H')
theorem len_kept_row (K : PySem.W.Frag) : ∀ vs H Q E, sp_kept_row K vs H Q E → vs.length = 1 := by
  rintro vs H Q E ⟨a, bs, rfl, _⟩; rfl
def t_kept_row (K : PySem.W.Frag) (E : XK) : TS :=
  (tSeq (tAsg (tCall (sp_packed K) [] E (tCons (tVar 0) tNil)) (gName 1))
  (tRet (tTup (tCons (tTup (tCons (tCB (rLen K) (tCons (tVar 0) tNil)) (tCons (tCall (sp_ones_table K) [] E0 (tCons (tVar 1) tNil)) tNil))) (tCons (tVar 1) tNil)))))
abbrev n_kept_row : List Str := ["bits", "blocks"]

theorem rd_kept_row (K : PySem.W.Frag) (vs : List V) (H : Hp) (Q : VK) (E : XK) (h : sp_kept_row K vs H Q E) : t_kept_row K E { nx := fun _ H' => Q .non H', rt := Q } (start n_kept_row vs) H := by
  obtain ⟨a, bs, rfl, hS, hl, q1, q2, q3⟩ := h
  unfold t_kept_row
  walk_at "st"
  refine ⟨a, bs, rfl, hS, hl, q1, q2, fun hm hB pb H1 hpb s1 e1 => ?_⟩
  walk_at "st"
  refine k_lenL (s1.seq hS) ?_
  walk_at "st"
  rw [List.length_map]
  refine ⟨pb, bs, rfl, e1, by omega, hB, fun pa H2 hpa s2 e2 => ?_⟩
  walk_at "st"
  intro t ht
  walk_at "st"
  intro p hp
  walk_at "st"
  have s3 := same_new (o := .tup [.int (bs.length : Int), .ref pa]) ht
  have s4 := same_new (o := .tup [.ref t, .ref pb]) hp
  exact q3 hm hB p t pa pb _ ((s1.trans (s2.trans s3)).gone _ hp) ((s1.trans s2).gone _ ht) (s1.gone _ hpa) hpb (s1.trans (s2.trans (s3.trans s4))) upd_same (s4.get upd_same) (s4.get (s3.get e2)) (s4.get (s3.get (s2.get e1)))

/-- bit_at(tables, look, at) -/
def sp_bit_at (K : PySem.W.Frag) (CL : CLs) : Sp := fun vs H Q E => ∃ (t g : Addr) (at_ : Int) (many : Nat) (rest : List V) (n : Nat) (val : Nat → Int) (q : Option Addr) (I : List Nat → Hp → Prop) (L : List Nat), vs = [.ref t, .ref g, .int at_] ∧ SqT K H t (.int (many : Int) :: rest) ∧ LookR CL g n (fun k => .int (val k)) q I ∧ I L H ∧ L.length < 8999 ∧
  ((at_ < 0 ∨ (many : Int) ≤ at_) → E (.ref (He.ga K "NoPlace")) none H) ∧
  (∀ k : Nat, at_ = (k : Int) → k < many → k / 32 < n ∧ ∀ H', I (L ++ [k / 32]) H' → SameX q H H' → Q (.int (bit (val (k / 32)) (k % 32))) H')
theorem len_bit_at (K : PySem.W.Frag) (CL : CLs) : ∀ vs H Q E, sp_bit_at K CL vs H Q E → vs.length = 3 := by
  rintro vs H Q E ⟨t, g, a, _, _, _, _, _, _, _, rfl, _⟩; rfl
def t_bit_at (K : PySem.W.Frag) (CL : CLs) (E : XK) : TS :=
  (tSeq (tIfS (tOr (tTest (tOp rLt (tVar 2) (tC (.int 0)))) (tTest (tOp rGeI (tVar 2) (tOp (rIxT K) (tVar 0) (tC (.int 0))))))
  (tRz (fun cls d _ H => E cls d H) (He.ga K "NoPlace"))
  tNext)
  (tRet (tOp rAnd1 (tOp rShr (tCallV CL 9 1 (tCons (tOp rDiv (tVar 2) (tC (.int 32))) tNil)) (tOp rMod (tVar 2) (tC (.int 32)))) (tC (.int 1)))))
abbrev n_bit_at : List Str := ["tables", "look", "at"]

theorem rd_bit_at (K : PySem.W.Frag) (CL : CLs) (vs : List V) (H : Hp) (Q : VK) (E : XK) (h : sp_bit_at K CL vs H Q E) : t_bit_at K CL E { nx := fun _ H' => Q .non H', rt := Q } (start n_bit_at vs) H := by
  obtain ⟨t, g, at_, many, rest, n, val, q, I, L, rfl, hT, R, hI, hL, q1, q2⟩ := h
  unfold t_bit_at
  have hf := R.fn hI
  walk_at "st"
  walk_at "if" <;> intro c
  · walk_at "st"
    exact q1 (.inl c)
  · walk_at "st"
    refine k_ixT hT (x := .int (many : Int)) (at_int (Int.le_refl 0) rfl) ?_
    walk_at "st"
    walk_at "if" <;> intro c1
    · walk_at "st"
      exact q1 (.inr (by omega))
    · walk_at "st"
      obtain ⟨k, rfl⟩ : ∃ k : Nat, at_ = (k : Int) := ⟨at_.toNat, by omega⟩
      obtain ⟨h1, h2⟩ := q2 k rfl (by omega)
      rw [show (k : Int) / 32 = ((k / 32 : Nat) : Int) by omega]
      refine R.ask hI (by omega) h1 fun H' i' s' => ?_
      walk_at "st"
      have := h2 H' i' s'
      unfold bit at this
      rw [show ((k : Int) % 32).toNat = k % 32 by omega]
      exact this

/-- a row's tables at t, a look at its blocks -/
structure RowAt (K : PySem.W.Frag) (CL : CLs) (H : Hp) (t g : Addr) (bs : List Int) (q : Option Addr) (I : List Nat → Hp → Prop) : Prop where
  tab : ∃ pa, SqT K H t [.int (bs.length : Int), .ref pa] ∧ SqT K H pa ((aheadT bs).map V.int)
  look : LookR CL g (blks bs).length (fun k => .int ((blks bs).getD k 0)) q I
  bits : Bits bs
  len : bs.length ≤ 5000
theorem RowAt.moveX {K : PySem.W.Frag} {CL : CLs} {H H' : Hp} {t g : Addr} {bs : List Int} {q : Option Addr} {I : List Nat → Hp → Prop} (r : RowAt K CL H t g bs q I) (s : SameX q H H') : RowAt K CL H' t g bs q I :=
  ⟨let ⟨pa, h1, h2⟩ := r.tab; ⟨pa, s.seqT h1, s.seqT h2⟩, r.look, r.bits, r.len⟩
theorem RowAt.move {K : PySem.W.Frag} {CL : CLs} {H H' : Hp} {t g : Addr} {bs : List Int} {q : Option Addr} {I : List Nat → Hp → Prop} (r : RowAt K CL H t g bs q I) (s : Same H H') : RowAt K CL H' t g bs q I :=
  ⟨let ⟨pa, h1, h2⟩ := r.tab; ⟨pa, s.seqT h1, s.seqT h2⟩, r.look, r.bits, r.len⟩

/-- ones_at(tables, look, at) -/
def sp_ones_at (K : PySem.W.Frag) (CL : CLs) : Sp := fun vs H Q E => ∃ (t g : Addr) (at_ : Int) (bs : List Int) (q : Option Addr) (I : List Nat → Hp → Prop) (L : List Nat), vs = [.ref t, .ref g, .int at_] ∧ RowAt K CL H t g bs q I ∧ I L H ∧ L.length < 8999 ∧
  ((at_ < 0 ∨ (bs.length : Int) < at_) → ∀ H', Same H H' → E (.ref (He.ga K "NoPlace")) none H') ∧
  (∀ k : Nat, at_ = (k : Int) → k ≤ bs.length → ∀ H' L', (L' = L ∨ L' = L ++ [k / 32] ∧ k / 32 < (blks bs).length) → I L' H' → SameX q H H' → Q (.int (sumTo bs k)) H')
theorem len_ones_at (K : PySem.W.Frag) (CL : CLs) : ∀ vs H Q E, sp_ones_at K CL vs H Q E → vs.length = 3 := by
  rintro vs H Q E ⟨t, g, a, _, _, _, _, rfl, _⟩; rfl
def t_ones_at (K : PySem.W.Frag) (CL : CLs) (E : XK) : TS :=
  (tSeq (tAsg (tVar 0) (gTup K 2 (gCons (gName 3) (gCons (gName 4) gNil))))
  (tSeq (tIfS (tOr (tTest (tOp rLt (tVar 2) (tC (.int 0)))) (tTest (tOp rGtI (tVar 2) (tVar 3))))
  (tRz (fun cls d _ H => E cls d H) (He.ga K "NoPlace"))
  tNext)
  (tSeq (tAsg (tOp (rIxT K) (tVar 4) (tOp rDiv (tVar 2) (tC (.int 32)))) (gName 5))
  (Evl.tCut (tIfS (tTest (tOp rGtI (tOp rMod (tVar 2) (tC (.int 32))) (tC (.int 0))))
  (tAug 5 (tCall (sp_ones_in K) [] E0 (tCons (tCallV CL 9 1 (tCons (tOp rDiv (tVar 2) (tC (.int 32))) tNil)) (tCons (tOp rMod (tVar 2) (tC (.int 32))) tNil))) (ipI fun i j => i + j))
  tNext)
  (tRet (tVar 5))))))
abbrev n_ones_at : List Str := ["tables", "look", "at", "many", "ahead", "found"]

theorem rd_ones_at (K : PySem.W.Frag) (CL : CLs) (vs : List V) (H : Hp) (Q : VK) (E : XK) (h : sp_ones_at K CL vs H Q E) : t_ones_at K CL E { nx := fun _ H' => Q .non H', rt := Q } (start n_ones_at vs) H := by
  obtain ⟨t, g, at_, bs, q, I, L, rfl, R, hI, hL, q1, q2⟩ := h
  obtain ⟨pa, hT, hA⟩ := R.tab
  unfold t_ones_at
  have hf := R.look.fn hI
  walk_at "st"
  refine m_gTup hT rfl ?_
  walk_at "st"
  walk_at "if" <;> intro c
  · walk_at "st"
    exact q1 (.inl c) _ (Same.refl _)
  · walk_at "st"
    walk_at "if" <;> intro c1
    · walk_at "st"
      exact q1 (.inr (by omega)) _ (Same.refl _)
    · walk_at "st"
      obtain ⟨k, rfl⟩ : ∃ k : Nat, at_ = (k : Int) := ⟨at_.toNat, by omega⟩
      have hk : k ≤ bs.length := by omega
      rw [show (k : Int) / 32 = ((k / 32 : Nat) : Int) by omega]
      refine k_ixT hA (at_nat (mapint (aheadT_get bs (show k / 32 ≤ (bs.length + 31) / 32 by omega)))) ?_
      walk_at "st"
      refine m_cut0 ?_
      walk_at "st"
      walk_at "if" <;> intro c2
      · have hj : k / 32 < (bs.length + 31) / 32 := by omega
        walk_at "st"
        rw [show (k : Int) / 32 = ((k / 32 : Nat) : Int) by omega]
        refine R.look.ask hI (by omega) (by rw [blks_len]; exact hj) fun H1 i1 s1 => ?_
        walk_at "st"
        refine ⟨_, k % 32, by rw [show (k : Int) % 32 = ((k % 32 : Nat) : Int) by omega], by omega, fun H2 s2 => ?_⟩
        walk_at "st"
        have e := onesIn_blks R.bits (blks_getD hj) (k % 32) (by omega)
        rw [show 32 * (k / 32) + k % 32 = k by omega] at e
        rw [show sumTo bs (32 * (k / 32)) + onesIn ((blks bs).getD (k / 32) 0) (k % 32) = sumTo bs k by omega]
        exact q2 k rfl hk H2 _ (.inr ⟨rfl, by rw [blks_len]; exact hj⟩) (R.look.ext i1 s2) (s1.andS s2)
      · walk_at "st"
        rw [show 32 * (k / 32) = k by omega]
        exact q2 k rfl hk H L (.inl rfl) hI ((Same.refl H).toX (R.look.isq hI))

/-- noughts_at(tables, look, at) -/
def sp_noughts_at (K : PySem.W.Frag) (CL : CLs) : Sp := fun vs H Q E => ∃ (t g : Addr) (at_ : Int) (bs : List Int) (q : Option Addr) (I : List Nat → Hp → Prop) (L : List Nat), vs = [.ref t, .ref g, .int at_] ∧ RowAt K CL H t g bs q I ∧ I L H ∧ L.length < 8999 ∧
  ((at_ < 0 ∨ (bs.length : Int) < at_) → ∀ H', Same H H' → E (.ref (He.ga K "NoPlace")) none H') ∧
  (∀ k : Nat, at_ = (k : Int) → k ≤ bs.length → ∀ H' L', (L' = L ∨ L' = L ++ [k / 32] ∧ k / 32 < (blks bs).length) → I L' H' → SameX q H H' → Q (.int ((k : Int) - sumTo bs k)) H')
theorem len_noughts_at (K : PySem.W.Frag) (CL : CLs) : ∀ vs H Q E, sp_noughts_at K CL vs H Q E → vs.length = 3 := by
  rintro vs H Q E ⟨t, g, a, _, _, _, _, rfl, _⟩; rfl
def t_noughts_at (K : PySem.W.Frag) (CL : CLs) (E : XK) : TS :=
  (tRet (tOp rMinus (tVar 2) (tCall (sp_ones_at K CL) [] E (tCons (tVar 0) (tCons (tVar 1) (tCons (tVar 2) tNil))))))
abbrev n_noughts_at : List Str := ["tables", "look", "at"]

theorem rd_noughts_at (K : PySem.W.Frag) (CL : CLs) (vs : List V) (H : Hp) (Q : VK) (E : XK) (h : sp_noughts_at K CL vs H Q E) : t_noughts_at K CL E { nx := fun _ H' => Q .non H', rt := Q } (start n_noughts_at vs) H := by
  obtain ⟨t, g, at_, bs, q, I, L, rfl, R, hI, hL, q1, q2⟩ := h
  unfold t_noughts_at
  walk_at "st"
  refine ⟨t, g, at_, bs, q, I, L, rfl, R, hI, hL, q1, fun k e hk H' L' hL' i' s' => ?_⟩
  walk_at "st"
  subst e
  exact q2 k rfl hk H' L' hL' i' s'

/-- how many bits of a kind stand ahead of a block -/
def aheadK (bs : List Int) (kind : Int) (j : Nat) : Int := if kind = 1 then sumTo bs (32 * j) else 32 * (j : Int) - sumTo bs (32 * j)
theorem aheadK_zero (bs : List Int) (kind : Int) : aheadK bs kind 0 = 0 := by
  unfold aheadK; rw [show 32 * 0 = 0 from rfl, sumTo_zero]; split <;> rfl
def sp_bits_ahead (K : PySem.W.Frag) : Sp := fun vs H Q _ => ∃ (pa : Addr) (bs : List Int) (j : Nat) (kind : Int), vs = [.ref pa, .int (j : Int), .int kind] ∧ SqT K H pa ((aheadT bs).map V.int) ∧ j ≤ (bs.length + 31) / 32 ∧ Q (.int (aheadK bs kind j)) H
theorem len_bits_ahead (K : PySem.W.Frag) : ∀ vs H Q E, sp_bits_ahead K vs H Q E → vs.length = 3 := by
  rintro vs H Q E ⟨pa, bs, j, kind, rfl, _⟩; rfl
def t_bits_ahead (K : PySem.W.Frag) : TS :=
  (tSeq (tIfS (tTest (tOp rEq (tVar 2) (tC (.int 1))))
  (tRet (tOp (rIxT K) (tVar 0) (tVar 1)))
  tNext)
  (tRet (tOp rMinus (tOp rTimes (tC (.int 32)) (tVar 1)) (tOp (rIxT K) (tVar 0) (tVar 1)))))
abbrev n_bits_ahead : List Str := ["ahead", "number", "kind"]

theorem rd_bits_ahead (K : PySem.W.Frag) (vs : List V) (H : Hp) (Q : VK) (E : XK) (h : sp_bits_ahead K vs H Q E) : t_bits_ahead K { nx := fun _ H' => Q .non H', rt := Q } (start n_bits_ahead vs) H := by
  obtain ⟨pa, bs, j, kind, rfl, hA, hj, q⟩ := h
  unfold t_bits_ahead
  unfold aheadK at q
  walk_at "st"
  walk_at "if" <;> intro c
  · walk_at "st"
    refine k_ixT hA (at_nat (mapint (aheadT_get bs hj))) ?_
    walk_at "st"
    rw [if_pos c] at q
    exact q
  · walk_at "st"
    refine k_ixT hA (at_nat (mapint (aheadT_get bs hj))) ?_
    walk_at "st"
    rw [if_neg c] at q
    exact q
def sp_block_by (K : PySem.W.Frag) : Sp := fun vs H Q _ => ∃ (pa : Addr) (bs : List Int) (nth kind : Int), vs = [.ref pa, .int nth, .int kind] ∧ SqT K H pa ((aheadT bs).map V.int) ∧ bs.length ≤ 5000 ∧ 0 ≤ nth ∧ nth < aheadK bs kind ((bs.length + 31) / 32) ∧
  ∀ j : Nat, j < (bs.length + 31) / 32 → aheadK bs kind j ≤ nth → nth < aheadK bs kind (j + 1) → Q (.int (j : Int)) H
theorem len_block_by (K : PySem.W.Frag) : ∀ vs H Q E, sp_block_by K vs H Q E → vs.length = 3 := by
  rintro vs H Q E ⟨pa, bs, j, kind, rfl, _⟩; rfl
def t_block_by (K : PySem.W.Frag) : TS :=
  (tSeq (tAsg (tC (.int 0)) (gName 3))
  (tSeq (tAsg (tOp rMinus (tCB (rLen K) (tCons (tVar 0) tNil)) (tC (.int 1))) (gName 4))
  (tSeq (tWhile (tTest (tOp rGtI (tOp rMinus (tVar 4) (tVar 3)) (tC (.int 1))))
  (tSeq (tAsg (tOp rDiv (tOp rPlus (tVar 3) (tVar 4)) (tC (.int 2))) (gName 5))
  (tIfS (tTest (tOp rLe (tCall (sp_bits_ahead K) [] E0 (tCons (tVar 0) (tCons (tVar 5) (tCons (tVar 2) tNil)))) (tVar 1)))
  (tAsg (tVar 5) (gName 3))
  (tAsg (tVar 5) (gName 4)))))
  (tRet (tVar 3)))))
abbrev n_block_by : List Str := ["ahead", "nth", "kind", "low", "high", "middle"]

theorem rd_block_by (K : PySem.W.Frag) (vs : List V) (H : Hp) (Q : VK) (E : XK) (h : sp_block_by K vs H Q E) : t_block_by K { nx := fun _ H' => Q .non H', rt := Q } (start n_block_by vs) H := by
  obtain ⟨pa, bs, nth, kind, rfl, hA, hl, h0, h1, q⟩ := h
  have hpos : 0 < (bs.length + 31) / 32 := by
    rcases Nat.eq_zero_or_pos ((bs.length + 31) / 32) with z | z
    · rw [z, aheadK_zero] at h1; omega
    · exact z
  unfold t_block_by
  walk_at "st"
  refine k_lenT hA ?_
  walk_at "st"
  rw [List.length_map, aheadT_len]
  refine loop_while (fun m σ H' => ∃ (lo hi : Nat) (y : Option V), m = hi - lo ∧ lo < hi ∧ hi ≤ (bs.length + 31) / 32 ∧ aheadK bs kind lo ≤ nth ∧ nth < aheadK bs kind hi ∧ σ = [some (.ref pa), some (.int nth), some (.int kind), some (.int (lo : Int)), some (.int (hi : Int)), y] ∧ H' = H) ((bs.length + 31) / 32) ⟨0, (bs.length + 31) / 32, none, by omega, hpos, Nat.le_refl _, by rw [aheadK_zero]; exact h0, h1, ?_, rfl⟩ ?_
  · rw [show (((bs.length + 31) / 32 + 1 : Nat) : Int) - 1 = (((bs.length + 31) / 32 : Nat) : Int) by push_cast; omega]; rfl
  · rintro m σ H' ⟨lo, hi, y, rfl, h2, h3, h4, h5, rfl, rfl⟩
    walk_at "st"
    walk_at "if" <;> intro c
    · walk_at "st"
      rw [show ((lo : Int) + (hi : Int)) / 2 = (((lo + hi) / 2 : Nat) : Int) by omega]
      refine ⟨pa, bs, (lo + hi) / 2, kind, rfl, hA, by omega, ?_⟩
      walk_at "st"
      walk_at "if" <;> intro d
      · walk_at "st"
        exact ⟨hi - (lo + hi) / 2, by omega, (lo + hi) / 2, hi, _, rfl, by omega, h3, d, h5, rfl, rfl⟩
      · walk_at "st"
        exact ⟨(lo + hi) / 2 - lo, by omega, lo, (lo + hi) / 2, _, rfl, by omega, by omega, h4, by omega, rfl, rfl⟩
    · walk_at "st"
      obtain rfl : hi = lo + 1 := by omega
      exact q lo (by omega) h4 h5

/-- one_in(b, n) -/
def sp_one_in (_ : PySem.W.Frag) : Sp := fun vs H Q _ => ∃ (b n : Int), vs = [.int b, .int n] ∧ 0 ≤ n ∧ (∀ k : Nat, k < 32 → bit b k = 1 → onesIn b k = n → Q (.int (k : Int)) H) ∧ (onesIn b 32 ≤ n → Q .non H)
theorem len_one_in (K : PySem.W.Frag) : ∀ vs H Q E, sp_one_in K vs H Q E → vs.length = 2 := by
  rintro vs H Q E ⟨b, u, rfl, _⟩; rfl
def t_one_in (K : PySem.W.Frag) : TS :=
  (tSeq (tFor (iRng1 (tCons (tC (.int 32)) tNil)) (gName 2)
  (tIfS (tTest (tOp rEq (tOp rAnd1 (tOp rShr (tVar 0) (tVar 2)) (tC (.int 1))) (tC (.int 1))))
  (tSeq (tIfS (tTest (tOp rEq (tVar 1) (tC (.int 0))))
  (tRet (tVar 2))
  tNext)
  (tAug 1 (tC (.int 1)) (ipI fun i j => i - j)))
  tNext))
  (tRet (tC .non)))
abbrev n_one_in : List Str := ["block", "nth", "k"]

theorem rd_one_in (K : PySem.W.Frag) (vs : List V) (H : Hp) (Q : VK) (E : XK) (h : sp_one_in K vs H Q E) : t_one_in K { nx := fun _ H' => Q .non H', rt := Q } (start n_one_in vs) H := by
  obtain ⟨b, n, rfl, hn, q1, q2⟩ := h
  unfold t_one_in
  walk_at "st"
  refine loop_range0 (fun i σ H' => ∃ y, σ = [some (.int b), some (.int (n - onesIn b i)), y] ∧ H' = H ∧ onesIn b i ≤ n) ⟨none, ?_, rfl, hn⟩ ?_ ?_
  · show _ = [some (V.int b), some (V.int (n - 0)), none]; rw [Int.sub_zero]; rfl
  · rintro i σ H' hi ⟨y, rfl, rfl, hle⟩
    walk_at "st"
    walk_at "if" <;> intro c
    · have c : bit b i = 1 := c
      walk_at "st"
      walk_at "if" <;> intro d
      · walk_at "st"
        exact q1 i hi c (by omega)
      · walk_at "st"
        refine ⟨some (.int (i : Int)), ?_, rfl, ?_⟩
        · have e : n - onesIn b i - 1 = n - onesIn b (i + 1) := by show _ = n - (onesIn b i + bit b i); omega
          rw [e]; rfl
        · show onesIn b i + bit b i ≤ n; omega
    · have c : bit b i ≠ 1 := c
      have c0 : bit b i = 0 := by have := bit_cases b i; omega
      walk_at "st"
      refine ⟨some (.int (i : Int)), ?_, rfl, ?_⟩
      · have e : n - onesIn b i = n - onesIn b (i + 1) := by show _ = n - (onesIn b i + bit b i); omega
        rw [← e]; rfl
      · show onesIn b i + bit b i ≤ n; omega
  · rintro σ H' ⟨y, rfl, rfl, hle⟩
    walk_at "st"
    exact q2 hle

theorem bit_tb {b : Int} (h : 0 ≤ b) (k : Nat) : bit b k = if b.toNat.testBit k then 1 else 0 := by
  unfold bit
  rw [Nat.testBit_eq_decide_div_mod_eq]
  have e : b / 2 ^ k % 2 = ((b.toNat / 2 ^ k % 2 : Nat) : Int) := by
    push_cast
    rw [Int.toNat_of_nonneg h]
  rw [e]
  have : b.toNat / 2 ^ k % 2 = 0 ∨ b.toNat / 2 ^ k % 2 = 1 := by omega
  rcases this with z | z <;> rw [z] <;> rfl
theorem bit_xor {b : Int} (h : 0 ≤ b) {k : Nat} (hk : k < 32) : bit (Builtin.bitXor b 4294967295) k = 1 - bit b k := by
  have hx := _root_.Bits.bitXor_nonneg h (show (0 : Int) ≤ 4294967295 by decide)
  rw [bit_tb hx, bit_tb h, _root_.Bits.bitXor_pp h (by decide), Int.toNat_natCast, Nat.testBit_xor, show (4294967295 : Int).toNat = 2 ^ 32 - 1 from rfl, Nat.testBit_two_pow_sub_one, decide_eq_true hk]
  cases b.toNat.testBit k <;> rfl
theorem onesIn_xor {b : Int} (h : 0 ≤ b) : ∀ k : Nat, k ≤ 32 → onesIn (Builtin.bitXor b 4294967295) k = k - onesIn b k
  | 0, _ => rfl
  | k + 1, hk => by
    show onesIn _ k + bit _ k = _ - (onesIn b k + bit b k)
    rw [onesIn_xor h k (by omega), bit_xor h (by omega)]; push_cast; omega
theorem aheadT_last0 (bs : List Int) : atI ((aheadT bs).map V.int) (-1) = some (.int bs.sum) := by
  unfold aheadT
  rw [aheadN_succ, List.map_append, ← sumTo_all bs (show bs.length ≤ 32 * ((bs.length + 31) / 32) by omega)]
  exact atI_last _ _
/-- nought_place(tables, look, nth) -/
def sp_nought_place (K : PySem.W.Frag) (CL : CLs) : Sp := fun vs H Q E => ∃ (t g : Addr) (nth : Int) (bs : List Int) (q : Option Addr) (I : List Nat → Hp → Prop) (L : List Nat), vs = [.ref t, .ref g, .int nth] ∧ RowAt K CL H t g bs q I ∧ I L H ∧ L.length < 8999 ∧
  ((nth < 0 ∨ (bs.length : Int) - bs.sum ≤ nth) → ∀ H', Same H H' → E (.ref (He.ga K "NoPlace")) none H') ∧
  (∀ k : Nat, k < bs.length → bs.getD k 0 = 0 → (k : Int) - sumTo bs k = nth → ∀ H', I (L ++ [k / 32]) H' → SameX q H H' → Q (.int (k : Int)) H')
theorem len_nought_place (K : PySem.W.Frag) (CL : CLs) : ∀ vs H Q E, sp_nought_place K CL vs H Q E → vs.length = 3 := by
  rintro vs H Q E ⟨t, g, a, _, _, _, _, rfl, _⟩; rfl
def t_nought_place (K : PySem.W.Frag) (CL : CLs) (E : XK) : TS :=
  (tSeq (tAsg (tVar 0) (gTup K 2 (gCons (gName 3) (gCons (gName 4) gNil))))
  (tSeq (tIfS (tOr (tTest (tOp rLt (tVar 2) (tC (.int 0)))) (tTest (tOp rGeI (tVar 2) (tOp rMinus (tVar 3) (tOp (rIxT K) (tVar 4) (tUn rNeg (tC (.int 1))))))))
  (tRz (fun cls d _ H => E cls d H) (He.ga K "NoPlace"))
  tNext)
  (tSeq (tAsg (tCall (sp_block_by K) [] E0 (tCons (tVar 4) (tCons (tVar 2) (tCons (tC (.int 0)) tNil)))) (gName 5))
  (tRet (tOp rPlus (tOp rTimes (tC (.int 32)) (tVar 5)) (tCall (sp_one_in K) [] E0 (tCons (tOp rBitXor (tCallV CL 9 1 (tCons (tVar 5) tNil)) (tC (.int 4294967295))) (tCons (tOp rMinus (tVar 2) (tCall (sp_bits_ahead K) [] E0 (tCons (tVar 4) (tCons (tVar 5) (tCons (tC (.int 0)) tNil))))) tNil))))))))
abbrev n_nought_place : List Str := ["tables", "look", "nth", "many", "ahead", "number"]

theorem rd_nought_place (K : PySem.W.Frag) (CL : CLs) (vs : List V) (H : Hp) (Q : VK) (E : XK) (h : sp_nought_place K CL vs H Q E) : t_nought_place K CL E { nx := fun _ H' => Q .non H', rt := Q } (start n_nought_place vs) H := by
  obtain ⟨t, g, nth, bs, q, I, L, rfl, R, hI, hL, q1, q2⟩ := h
  obtain ⟨pa, hT, hA⟩ := R.tab
  unfold t_nought_place
  have hf := R.look.fn hI
  walk_at "st"
  refine m_gTup hT rfl ?_
  walk_at "st"
  walk_at "if" <;> intro c
  · walk_at "st"
    exact q1 (.inl c) _ (Same.refl _)
  · walk_at "st"
    refine k_ixT hA (aheadT_last0 bs) ?_
    walk_at "st"
    walk_at "if" <;> intro c1
    · walk_at "st"
      exact q1 (.inr c1) _ (Same.refl _)
    · walk_at "st"
      have hs : nth < aheadK bs 0 ((bs.length + 31) / 32) := by
        unfold aheadK; rw [if_neg (by decide), sumTo_all bs (by omega)]; omega
      refine ⟨pa, bs, nth, 0, rfl, hA, R.len, by omega, hs, fun j hj h4 h5 => ?_⟩
      unfold aheadK at h4 h5
      rw [if_neg (by decide)] at h4 h5
      walk_at "st"
      refine R.look.ask hI (by omega) (by rw [blks_len]; exact hj) fun H1 i1 s1 => ?_
      walk_at "st"
      refine ⟨pa, bs, j, 0, rfl, s1.seqT hA, by omega, ?_⟩
      unfold aheadK
      rw [if_neg (by decide)]
      walk_at "st"
      have hg := blks_getD (bs := bs) hj
      have hb0 := (blks_range R.bits hg).1
      refine ⟨_, _, rfl, by omega, fun k hk hb ho => ?_, fun ho => ?_⟩
      · walk_at "st"
        rw [bit_xor hb0 hk, bit_blks R.bits hg hk] at hb
        rw [onesIn_xor hb0 k (by omega), onesIn_blks R.bits hg k (by omega)] at ho
        have hlt : 32 * j + k < bs.length := by
          rcases Nat.lt_or_ge (32 * j + k) bs.length with z | z
          · exact z
          · rw [sumTo_all bs z] at ho; omega
        rw [show (32 : Int) * (j : Int) + (k : Int) = ((32 * j + k : Nat) : Int) by push_cast; rfl]
        exact q2 (32 * j + k) hlt (by omega) (by push_cast; omega) H1 (by rw [show (32 * j + k) / 32 = j by omega]; exact i1) s1
      · exfalso
        rw [onesIn_xor hb0 32 (Nat.le_refl _), onesIn_blks R.bits hg 32 (Nat.le_refl _), show 32 * j + 32 = 32 * (j + 1) by omega] at ho
        push_cast at h5
        omega

theorem aheadT_last (bs : List Int) : atI ((aheadT bs).map V.int) (-1) = some (.int bs.sum) := by
  unfold aheadT
  rw [aheadN_succ, List.map_append, ← sumTo_all bs (show bs.length ≤ 32 * ((bs.length + 31) / 32) by omega)]
  exact atI_last _ _

/-- one_place(tables, look, nth) -/
def sp_one_place (K : PySem.W.Frag) (CL : CLs) : Sp := fun vs H Q E => ∃ (t g : Addr) (nth : Int) (bs : List Int) (q : Option Addr) (I : List Nat → Hp → Prop) (L : List Nat), vs = [.ref t, .ref g, .int nth] ∧ RowAt K CL H t g bs q I ∧ I L H ∧ L.length < 8999 ∧
  ((nth < 0 ∨ bs.sum ≤ nth) → ∀ H', Same H H' → E (.ref (He.ga K "NoPlace")) none H') ∧
  (∀ k : Nat, k < bs.length → bs.getD k 0 = 1 → sumTo bs k = nth → ∀ H', I (L ++ [k / 32]) H' → SameX q H H' → Q (.int (k : Int)) H')
theorem len_one_place (K : PySem.W.Frag) (CL : CLs) : ∀ vs H Q E, sp_one_place K CL vs H Q E → vs.length = 3 := by
  rintro vs H Q E ⟨t, g, a, _, _, _, _, rfl, _⟩; rfl
def t_one_place (K : PySem.W.Frag) (CL : CLs) (E : XK) : TS :=
  (tSeq (tAsg (tOp (rIxT K) (tVar 0) (tC (.int 1))) (gName 3))
  (tSeq (tIfS (tOr (tTest (tOp rLt (tVar 2) (tC (.int 0)))) (tTest (tOp rGeI (tVar 2) (tOp (rIxT K) (tVar 3) (tUn rNeg (tC (.int 1)))))))
  (tRz (fun cls d _ H => E cls d H) (He.ga K "NoPlace"))
  tNext)
  (tSeq (tAsg (tCall (sp_block_by K) [] E0 (tCons (tVar 3) (tCons (tVar 2) (tCons (tC (.int 1)) tNil)))) (gName 4))
  (tRet (tOp rPlus (tOp rTimes (tC (.int 32)) (tVar 4)) (tCall (sp_one_in K) [] E0 (tCons (tCallV CL 9 1 (tCons (tVar 4) tNil)) (tCons (tOp rMinus (tVar 2) (tCall (sp_bits_ahead K) [] E0 (tCons (tVar 3) (tCons (tVar 4) (tCons (tC (.int 1)) tNil))))) tNil))))))))
abbrev n_one_place : List Str := ["tables", "look", "nth", "ahead", "number"]

theorem rd_one_place (K : PySem.W.Frag) (CL : CLs) (vs : List V) (H : Hp) (Q : VK) (E : XK) (h : sp_one_place K CL vs H Q E) : t_one_place K CL E { nx := fun _ H' => Q .non H', rt := Q } (start n_one_place vs) H := by
  obtain ⟨t, g, nth, bs, q, I, L, rfl, R, hI, hL, q1, q2⟩ := h
  obtain ⟨pa, hT, hA⟩ := R.tab
  unfold t_one_place
  have hf := R.look.fn hI
  walk_at "st"
  refine k_ixT hT (x := .ref pa) rfl ?_
  walk_at "st"
  walk_at "if" <;> intro c
  · walk_at "st"
    exact q1 (.inl c) _ (Same.refl _)
  · walk_at "st"
    refine k_ixT hA (aheadT_last bs) ?_
    walk_at "st"
    walk_at "if" <;> intro c1
    · walk_at "st"
      exact q1 (.inr c1) _ (Same.refl _)
    · walk_at "st"
      have hs : nth < aheadK bs 1 ((bs.length + 31) / 32) := by
        unfold aheadK; rw [if_pos rfl, sumTo_all bs (by omega)]; omega
      refine ⟨pa, bs, nth, 1, rfl, hA, R.len, by omega, hs, fun j hj h4 h5 => ?_⟩
      unfold aheadK at h4 h5
      rw [if_pos rfl] at h4 h5
      walk_at "st"
      refine R.look.ask hI (by omega) (by rw [blks_len]; exact hj) fun H1 i1 s1 => ?_
      walk_at "st"
      refine ⟨pa, bs, j, 1, rfl, s1.seqT hA, by omega, ?_⟩
      unfold aheadK
      rw [if_pos rfl]
      walk_at "st"
      have hg := blks_getD (bs := bs) hj
      refine ⟨_, _, rfl, by omega, fun k hk hb ho => ?_, fun ho => ?_⟩
      · walk_at "st"
        rw [bit_blks R.bits hg hk] at hb
        rw [onesIn_blks R.bits hg k (by omega)] at ho
        have hlt : 32 * j + k < bs.length := by
          rcases Nat.lt_or_ge (32 * j + k) bs.length with z | z
          · exact z
          · rw [List.getD_eq_getElem?_getD, List.getElem?_eq_none z] at hb; simp at hb
        rw [show (32 : Int) * (j : Int) + (k : Int) = ((32 * j + k : Nat) : Int) by push_cast; rfl]
        exact q2 (32 * j + k) hlt hb (by omega) H1 (by rw [show (32 * j + k) / 32 = j by omega]; exact i1) s1
      · exfalso
        rw [onesIn_blks R.bits hg 32 (Nat.le_refl _), show 32 * j + 32 = 32 * (j + 1) by omega] at ho
        omega

--#base
/-! looks that another look may ask -/
/-- all is kept, but for the list at q -/
structure AllX (q : Option Addr) (H H' : Hp) : Prop where
  keep : ∀ b o, q ≠ some b → H b = some o → H' b = some o
  isl : ∀ p, q = some p → ∃ xs, H p = some (.lst xs)
  isl' : ∀ p, q = some p → ∃ xs, H' p = some (.lst xs)
theorem AllX.toX {q : Option Addr} {H H' : Hp} (a : AllX q H H') : SameX q H H' := SameX.of a.isl a.isl' a.keep
/-- a look at level j; D: what it leans on -/
structure LookJ (CL : CLs) (j : Nat) (g : Addr) (n : Nat) (val : Nat → V) (q : Option Addr) (D : Addr → Prop) (I : List Nat → Hp → Prop) : Prop where
  fn : ∀ {L H}, I L H → IsFn H g
  isq : ∀ {L H}, I L H → ∀ p, q = some p → ∃ xs, H p = some (.lst xs)
  ext : ∀ {L H H'}, I L H → Same H H' → I L H'
  qD : ∀ p, q = some p → D p
  dom : ∀ {L H}, I L H → ∀ b, D b → H b ≠ none
  hid : ∀ {L H} (C : Addr → Prop) [DecidablePred C], I L H → (∀ b, C b → ¬ D b) → I L (hide C H)
  unh : ∀ {L H H'} (C : Addr → Prop) [DecidablePred C], I L H' → (∀ b, C b → ¬ D b) → I L (unhide C H H')
  ask : ∀ {L H} {k : Nat} {Q : VK}, I L H → L.length < 9000 → k < n → (∀ H', I (L ++ [k]) H' → AllX q H H' → Q (val k) H') → CL.run j g [.int (k : Int)] H Q
theorem LookJ.lookR {CL : CLs} {j : Nat} {g : Addr} {n : Nat} {val : Nat → V} {q : Option Addr} {D : Addr → Prop} {I : List Nat → Hp → Prop} (R : LookJ CL j g n val q D I) (hj : j ≤ 9) : LookR CL g n val q I :=
  ⟨R.fn, R.isq, R.ext, fun h hl hk q => CL.mono hj (R.ask h hl hk fun H' i x => q H' i x.toX)⟩
theorem LookJ.up {CL : CLs} {j k : Nat} {g : Addr} {n : Nat} {val : Nat → V} {q : Option Addr} {D : Addr → Prop} {I : List Nat → Hp → Prop} (R : LookJ CL j g n val q D I) (hj : j ≤ k) : LookJ CL k g n val q D I :=
  ⟨R.fn, R.isq, R.ext, R.qD, R.dom, R.hid, R.unh, fun h hl hk q => CL.mono hj (R.ask h hl hk q)⟩
theorem LookJ.congr {CL : CLs} {j : Nat} {g : Addr} {n : Nat} {val val' : Nat → V} {q : Option Addr} {D : Addr → Prop} {I : List Nat → Hp → Prop} (R : LookJ CL j g n val q D I) (h : ∀ k, k < n → val k = val' k) : LookJ CL j g n val' q D I :=
  ⟨R.fn, R.isq, R.ext, R.qD, R.dom, R.hid, R.unh, fun {L H k Q} i l hk q => R.ask i l hk (by rw [h k hk]; exact q)⟩
/-- what a heap of objects is, but for tables -/
def domX (B : Hp) (b : Addr) : Prop := ∃ o, B b = some o ∧ ∀ ps, o ≠ .tbl ps
theorem extN_hide {B H : Hp} {C : Addr → Prop} [DecidablePred C] (s : LamX.ExtN B H) (hC : ∀ b, C b → ¬ domX B b) : LamX.ExtN B (hide C H) := fun b o e n => by
  rw [hide_out fun z => hC b z ⟨o, e, n⟩]; exact s b o e n
theorem extN_unhide {B H H' : Hp} {C : Addr → Prop} [DecidablePred C] (s : LamX.ExtN B H') (hC : ∀ b, C b → ¬ domX B b) : LamX.ExtN B (unhide C H H') := fun b o e n => by
  rw [unhide_out fun z => hC b z ⟨o, e, n⟩]; exact s b o e n
theorem LogLook.lookJ {CL : CLs} {j : Nat} {g ps pb : Addr} {bl : List Int} {dft : V} {B : Hp} {L0 : List Int} (p : LogLook CL j g ps pb (bl.map V.int) dft B) (hB : ∀ o, B ps = some o → ∃ φ, o = .ext φ) (nb : ps ≠ pb) (hl : L0.length ≤ 90000) :
    LookJ CL j g bl.length (fun k => .int (bl.getD k 0)) (some ps) (fun b => b = ps ∨ b = pb ∨ domX B b) (LogI B ps pb (bl.map V.int) L0) where
  fn := fun h => (p _ h.1).1
  isq := fun h p z => by cases z; exact ⟨_, h.2.1⟩
  ext := fun h s => ⟨h.1.trans s.extN, s.get h.2.1, s.get h.2.2⟩
  qD := fun p z => by cases z; exact .inl rfl
  dom := fun h b hb => by
    rcases hb with rfl | rfl | ⟨o, e, n⟩
    · rw [h.2.1]; simp
    · rw [h.2.2]; simp
    · rw [h.1 b o e n]; simp
  hid := fun C _ h hC => ⟨extN_hide h.1 fun b z w => hC b z (.inr (.inr w)), (hide_out fun z => hC _ z (.inl rfl)).trans h.2.1, (hide_out fun z => hC _ z (.inr (.inl rfl))).trans h.2.2⟩
  unh := fun C _ h hC => ⟨extN_unhide h.1 fun b z w => hC b z (.inr (.inr w)), (unhide_out fun z => hC _ z (.inl rfl)).trans h.2.1, (unhide_out fun z => hC _ z (.inr (.inl rfl))).trans h.2.2⟩
  ask := fun {L H k Q} h hL hk q => by
    refine (p _ h.1).2 _ _ Q h.2.1 (by rw [List.length_append, List.length_map]; omega) h.2.2 ?_
    rw [if_pos ⟨by omega, by rw [List.length_map]; omega⟩, Int.toNat_natCast, getD_map_int bl hk]
    have ne : ∀ {b : Addr} {o : HO}, B b = some o → b ≠ ps := fun {b o} e z => by
      subst z
      obtain ⟨φ, rfl⟩ := hB o e
      have z2 := h.1 _ _ e fun _ z => nomatch z
      rw [h.2.1] at z2; cases z2
    refine q _ ⟨fun b o e n => ?_, ?_, ?_⟩ ⟨fun b o n e => ?_, fun p z => by cases z; exact ⟨_, h.2.1⟩, fun p z => by cases z; exact ⟨_, upd_same⟩⟩
    · rw [upd_ne (ne e)]; exact h.1 b o e n
    · rw [upd_same, List.map_append (f := Int.ofNat), ← List.append_assoc]; rfl
    · rw [upd_ne nb.symm]; exact h.2.2
    · rw [upd_ne fun z => n (by rw [z])]; exact e
/-- a look that asks another one, off places further -/
def OffI (I : List Nat → Hp → Prop) (B : Hp) (off : Nat) (L : List Nat) (M : List Nat) (H : Hp) : Prop := (∃ L', M = L ++ L' ∧ I (L ++ L'.map (off + ·)) H) ∧ LamX.ExtN B H
theorem OffI.out {I : List Nat → Hp → Prop} {B : Hp} {off : Nat} {L L' : List Nat} {H : Hp} (h : OffI I B off L (L ++ L') H) : I (L ++ L'.map (off + ·)) H := by
  obtain ⟨⟨L2, e, i⟩, _⟩ := h
  rw [List.append_cancel_left e]; exact i
theorem allX_unhide {q : Option Addr} {C : Addr → Prop} [DecidablePred C] {H3 H4 : Hp} (s : AllX q (hide C H3) H4) (hq : ∀ p, q = some p → ¬ C p) : AllX q H3 (unhide C H3 H4) where
  keep := fun b o n e => by
    by_cases hb : C b
    · rw [unhide_in hb]; exact e
    · rw [unhide_out hb]; exact s.keep b o n ((hide_out hb).trans e)
  isl := fun p z => by
    obtain ⟨xs, e⟩ := s.isl p z
    rw [hide_out (hq p z)] at e
    exact ⟨xs, e⟩
  isl' := fun p z => by
    obtain ⟨xs, e⟩ := s.isl' p z
    exact ⟨xs, (unhide_out (hq p z)).trans e⟩

theorem lamO_neX {b : Expr} {f : Addr} {F : NdefX.NF} : ∀ ps, LamO b f F ≠ .tbl ps := fun ps z => by unfold LamO at z; cases z
/-- level_row(tables, look, level) -/
def sp_level_row_lam (_ : PySem.W.Frag) (CL : CLs) (j : Nat) (ws vs : List V) (H : Hp) (Q : VK) : Prop := ∃ (g : Addr) (st k : Int), ws = [.ref g, .int st] ∧ vs = [.int k] ∧ IsFn H g ∧ CL.run j g [.int (st + k)] H Q
theorem len_level_row_lam (K : PySem.W.Frag) (CL : CLs) (j : Nat) : ∀ ws vs H Q, sp_level_row_lam K CL j ws vs H Q → vs.length = 1 := by
  rintro ws vs H Q ⟨g, st, k, rfl, rfl, _⟩; rfl
def sp_level_row (K : PySem.W.Frag) (CL : CLs) : Sp := fun vs H Q _ => ∃ (t g pk pa pl : Addr) (l N : Nat) (as : List V) (bs : List Int) (val : Nat → V) (q : Option Addr) (D : Addr → Prop) (I : List Nat → Hp → Prop) (L : List Nat), vs = [.ref t, .ref g, .int (l : Int)] ∧
  SqT K H t [.int (bs.length : Int), .ref pk, .ref pa] ∧ SqT K H pa as ∧ as[l]? = some (.ref pl) ∧ SqT K H pl ((aheadT bs).map V.int) ∧ Bits bs ∧ bs.length ≤ 5000 ∧ l ≤ 1000 ∧ LookJ CL 5 g N val q D I ∧ I L H ∧ l * (blks bs).length + (blks bs).length ≤ N ∧ (∀ k, k < (blks bs).length → val (l * (blks bs).length + k) = .int ((blks bs).getD k 0)) ∧ NdefX.TabN H (tabP K "level_row") nmL ∧
  ∀ p r f H' B, H p = none → Same H H' → H' p = some (.tup [.ref r, .ref f]) → RowAt K CL H' r f bs q (OffI I B (l * (blks bs).length) L) → OffI I B (l * (blks bs).length) L L H' → Q (.ref p) H'
theorem len_level_row (K : PySem.W.Frag) (CL : CLs) : ∀ vs H Q E, sp_level_row K CL vs H Q E → vs.length = 3 := by
  rintro vs H Q E ⟨a, b, c, _, _, _, _, _, _, _, _, _, _, _, rfl, _⟩; rfl
def t_level_row_lam (K : PySem.W.Frag) (CL : CLs) (j : Nat) : TE :=
  (tCallV CL j 1 (tCons (tOp rPlus (tVar 2) (tVar 0)) tNil))
abbrev n_level_row_lam : List Str := ["number", "look", "start"]
def tp_level_row (K : PySem.W.Frag) (P : Addr) (b : Expr) (mk : Addr → NdefX.NF) : TS :=
  (tAsg (tOp rTimes (tVar 2) (tOp rDiv (tOp rMinus (tOp rPlus (tOp (rIxT K) (tVar 0) (tC (.int 0))) (tC (.int 32))) (tC (.int 1))) (tC (.int 32)))) (gName 3))
def te_level_row (K : PySem.W.Frag) (P : Addr) (b : Expr) (mk : Addr → NdefX.NF) : TE :=
  (tTup (tCons (tTup (tCons (tOp (rIxT K) (tVar 0) (tC (.int 0))) (tCons (tOp (rIxT K) (tOp (rIxT K) (tVar 0) (tC (.int 2))) (tVar 2)) tNil))) (tCons (tLamC P b mk) tNil)))
def t_level_row (K : PySem.W.Frag) (P : Addr) (b : Expr) (mk : Addr → NdefX.NF) (G : V → L2.St → Hp → Prop) : L2.St → Hp → Prop := tp_level_row K P b mk (Ends.mk (fun σ' H' => te_level_row K P b mk σ' H' fun v H'' => G v σ' H'') (fun _ _ => False) (fun _ _ => False) (fun _ _ => False))
abbrev n_level_row : List Str := ["tables", "look", "level", "start"]

theorem rd_level_row_lam (K : PySem.W.Frag) (CL : CLs) (j : Nat) (vs ws : List V) (H : Hp) (Q : VK) (h : sp_level_row_lam K CL j ws vs H Q) : t_level_row_lam K CL j (NdefX.startF n_level_row_lam vs (ws.map some)) H Q := by
  obtain ⟨g, st, k, rfl, rfl, hf, hr⟩ := h
  unfold t_level_row_lam
  walk_at "st"
  exact hr
theorem rd_level_row (K : PySem.W.Frag) (CL : CLs) (P : Addr) (hP : P = tabP K "level_row") (b : Expr) (mk : Addr → NdefX.NF) (vs : List V) (H : Hp) (Q : VK) (E : XK) (h : sp_level_row K CL vs H Q E) (G : V → L2.St → Hp → Prop)
(hG : ∀ v σ' H'', (∀ C dC H', Upg CL 0 (LamO b) mk [1, 3] (sp_level_row_lam K CL) C dC σ' H'' H' → Q v H') → G v σ' H'')
    : t_level_row K P b mk G (start n_level_row vs) H := by
  subst hP
  obtain ⟨t, g, pk, pa, pl, l, N, as, bs, val, q', D, I, L, rfl, hT, hA, hl, hL, hB, hbl, hl1, R, i0, hN, hv, hTb, q⟩ := h
  unfold t_level_row tp_level_row te_level_row
  walk_at "st"
  refine k_ixT hT (x := .int (bs.length : Int)) rfl ?_
  walk_at "st"
  have eoff : (l : Int) * (((bs.length : Int) + 32 - 1) / 32) = ((l * (blks bs).length : Nat) : Int) := by
    have h32 : (bs.length : Int) + 32 - 1 = ((bs.length + 31 : Nat) : Int) := by omega
    rw [h32, blks_len, Int.natCast_mul, Int.natCast_ediv]; rfl
  rw [eoff]
  refine k_ixT hT (x := .int (bs.length : Int)) rfl ?_
  walk_at "st"
  refine k_ixT hT (x := .ref pa) rfl ?_
  walk_at "st"
  refine k_ixT hA (at_nat hl) ?_
  walk_at "st"
  intro r hr
  have s0 := same_new (o := .tup [.int (bs.length : Int), .ref pl]) hr
  have e0 := upd_same (H := H) (a := r) (o := .tup [.int (bs.length : Int), .ref pl])
  generalize upd H r (.tup [.int (bs.length : Int), .ref pl]) = H0 at s0 e0 ⊢
  walk_at "st"
  refine m_lamC (s0.tabs _ hTb) fun f c' H1 s1 f0 f1 c1 => ?_
  walk_at "st"
  intro p hp
  have s2 := same_new (o := .tup [.ref r, .ref f]) hp
  have e2 := upd_same (H := H1) (a := p) (o := .tup [.ref r, .ref f])
  have f2 := s2.keep _ _ f1 lamO_neX
  have c2 := s2.keep _ _ c1 (fun ps z => by unfold LamX.CodeO at z; cases z)
  have s01 := s0.trans (s1.trans s2)
  have r2 := (s1.trans s2).get e0
  generalize upd H1 p (.tup [.ref r, .ref f]) = H2 at s2 e2 f2 c2 s01 r2 ⊢
  refine hG _ _ _ fun C dC H' u => ?_
  have i2 := R.ext i0 s01
  have nD : ∀ b, C b → ¬ D b := fun b z d => by
    have := R.dom i2 b d
    cases w : H2 b with
    | none => exact this w
    | some o => exact upg_out u w z
  have su := s01.trans u.up
  refine q p r f H' (newOf H H') (s0.gone _ (s1.gone _ hp)) su (u.up.get e2) ⟨⟨pl, .of (u.up.get r2), su.seqT hL⟩, ⟨fun h => ?_, fun h p z => ?_, fun h s => ?_, fun {M H3 k Q3} h hM hk q3 => ?_⟩, hB, hbl⟩ ⟨⟨[], by simp, by simpa using R.ext i0 su⟩, newOf_extN (LamX.ExtN.refl _)⟩
  · exact (isFn_lam (newOf_ext (u.up.keep _ _ f2 lamO_neX))).ext h.2
  · obtain ⟨⟨L', e, i⟩, _⟩ := h
    exact R.isq i p z
  · obtain ⟨⟨L', e, i⟩, x⟩ := h
    exact ⟨⟨L', e, R.ext i s⟩, x.trans s.extN⟩
  · obtain ⟨⟨L', rfl, i⟩, x⟩ := h
    have hx3 : ∀ b φ, H' b = some (.ext φ) → H3 b = some (.ext φ) := fun b φ e => x b _ (newOf_ext e) fun _ z => nomatch z
    have ih := R.hid C i nD
    refine CL.mono (show max 5 0 + 1 ≤ 9 by decide) (u.law f c' f2 c2 [.ref g, .int ((l * (blks bs).length : Nat) : Int)] rfl 5 H3 _ Q3 hx3 ⟨g, _, (k : Int), rfl, rfl, R.fn ih, ?_⟩)
    rw [show ((l * (blks bs).length : Nat) : Int) + (k : Int) = ((l * (blks bs).length + k : Nat) : Int) by push_cast; rfl]
    refine R.ask ih (by rw [List.length_append, List.length_map]; rw [List.length_append] at hM; exact hM) (by omega) fun H4 i4 a4 => ?_
    rw [hv k hk]
    have aX := allX_unhide a4 fun p z w => nD p w (R.qD p z)
    refine q3 _ ⟨⟨L' ++ [k], by rw [List.append_assoc], ?_⟩, fun b o e n => ?_⟩ aX.toX
    · have := R.unh (H := H3) C i4 nD
      rw [List.append_assoc] at this
      rw [List.map_append]; exact this
    · have e3 := x b o e n
      by_cases hb : C b
      · rw [unhide_in hb]; exact e3
      · rw [unhide_out hb]
        by_cases hq : q' = some b
        · exfalso
          have hd := R.qD b hq
          have hb2 := R.dom i0 b hd
          obtain ⟨xs, ex⟩ := R.isq (R.ext i0 su) b hq
          rw [newOf_sub e] at ex
          obtain ⟨φ, rfl⟩ := newOf_old e hb2
          cases ex
        · exact a4.keep b o hq ((hide_out hb).trans e3)

/-! rows halved by the bits of their numbers -/
/-- a stretch -/
def seg {α : Type} (xs : List α) (s e : Nat) : List α := (xs.take e).drop s
/-- how many of the first i hold p -/
def cp {α : Type} (p : α → Bool) (xs : List α) (i : Nat) : Nat := ((xs.take i).filter p).length
theorem filter_take {α : Type} (p : α → Bool) : ∀ (xs : List α) (i : Nat), (xs.take i).filter p = (xs.filter p).take (cp p xs i)
  | [], i => by simp [cp]
  | x :: xs, 0 => by simp [cp]
  | x :: xs, i + 1 => by
    have ih := filter_take p xs i
    unfold cp at ih ⊢
    rw [List.take_succ_cons, List.filter_cons, List.filter_cons]
    split
    · rw [List.length_cons, List.take_succ_cons, ← ih]
    · exact ih
theorem take_seg {α : Type} (xs : List α) {s e : Nat} (h : s ≤ e) : xs.take e = xs.take s ++ seg xs s e := by
  unfold seg
  have := List.take_append_drop s (xs.take e)
  rw [List.take_take, Nat.min_eq_left h] at this
  exact this.symm
theorem cp_mono {α : Type} (p : α → Bool) (xs : List α) {s e : Nat} (h : s ≤ e) : cp p xs s ≤ cp p xs e := by
  unfold cp
  rw [take_seg xs h, List.filter_append, List.length_append]; omega
theorem seg_filter {α : Type} (p : α → Bool) (xs : List α) {s e : Nat} (h : s ≤ e) : (seg xs s e).filter p = seg (xs.filter p) (cp p xs s) (cp p xs e) := by
  have e1 := filter_take p xs e
  rw [take_seg xs h, List.filter_append] at e1
  show _ = ((xs.filter p).take (cp p xs e)).drop (cp p xs s)
  rw [← e1]
  unfold cp
  rw [List.drop_left]
theorem seg_left {α : Type} {as bs : List α} {s e : Nat} (h : e ≤ as.length) : seg (as ++ bs) s e = seg as s e := by
  unfold seg; rw [List.take_append_of_le_length h]
theorem seg_right {α : Type} {as bs : List α} {s e : Nat} : seg (as ++ bs) (as.length + s) (as.length + e) = seg bs s e := by
  unfold seg
  rw [List.take_append, List.take_of_length_le (by omega), show as.length + e - as.length = e by omega, List.drop_append, List.drop_eq_nil_of_le (by omega), List.nil_append, show as.length + s - as.length = s by omega]
theorem seg_one {α : Type} {xs : List α} {i : Nat} {r : α} (h : xs[i]? = some r) : seg xs i (i + 1) = [r] := by
  unfold seg
  rw [List.take_add_one, h]
  have hl := (List.getElem?_eq_some_iff.mp h).1
  rw [List.drop_append, List.drop_eq_nil_of_le (by rw [List.length_take]; omega), List.length_take, show i - min i xs.length = 0 by omega]; rfl
theorem seg_head {α : Type} {xs ys : List α} {s e : Nat} {r : α} (h : seg xs s e = r :: ys) : xs[s]? = some r := by
  unfold seg at h
  have h2 : ((xs.take e).drop s)[0]? = some r := by rw [h]; rfl
  rw [List.getElem?_drop, List.getElem?_take, Nat.add_zero] at h2
  split at h2
  · exact h2
  · cases h2
theorem seg_length {α : Type} {xs : List α} {s e : Nat} (h : e ≤ xs.length) : (seg xs s e).length = e - s := by
  unfold seg; rw [List.length_drop, List.length_take]; omega
theorem seg_all {α : Type} {xs : List α} {e : Nat} (h : xs.length ≤ e) : seg xs 0 e = xs := by
  unfold seg; rw [List.drop_zero, List.take_of_length_le h]
theorem seg_map {α β : Type} (f : α → β) (xs : List α) (s e : Nat) : seg (xs.map f) s e = (seg xs s e).map f := by
  unfold seg; rw [← List.map_take, ← List.map_drop]
theorem seg_get {α : Type} {xs : List α} {s e i : Nat} (h : s + i < e) : (seg xs s e)[i]? = xs[s + i]? := by
  unfold seg; rw [List.getElem?_drop, List.getElem?_take, if_pos h]
/-- a number's bit of a weight -/
def wb (w r : Nat) : Nat := r / 2 ^ w % 2
theorem wb_le (w r : Nat) : wb w r = 0 ∨ wb w r = 1 := by unfold wb; omega
abbrev p0 (w : Nat) : Nat → Bool := fun r => decide (wb w r = 0)
abbrev p1 (w : Nat) : Nat → Bool := fun r => decide (wb w r = 1)
theorem cp_both (w : Nat) : ∀ (xs : List Nat) (i : Nat), i ≤ xs.length → cp (p0 w) xs i + cp (p1 w) xs i = i
  | xs, 0, _ => by simp [cp]
  | [], i + 1, h => by simp at h
  | x :: xs, i + 1, h => by
    have ih := cp_both w xs i (by simpa using h)
    unfold cp at ih ⊢
    rw [List.take_succ_cons, List.filter_cons, List.filter_cons]
    rcases wb_le w x with z | z
    · rw [if_pos (by simp [z]), if_neg (by simp [z])]; simp only [List.length_cons]; omega
    · rw [if_neg (by simp [z]), if_pos (by simp [z])]; simp only [List.length_cons]; omega
/-- the noughts' numbers ahead of the ones' -/
def partW (w : Nat) (row : List Nat) : List Nat := row.filter (p0 w) ++ row.filter (p1 w)
theorem partW_len (w : Nat) (row : List Nat) : (partW w row).length = row.length := by
  have := cp_both w row row.length (Nat.le_refl _)
  unfold cp at this
  rw [List.take_length] at this
  unfold partW
  rw [List.length_append]; exact this
theorem mem_partW {w : Nat} {row : List Nat} {r : Nat} : r ∈ partW w row ↔ r ∈ row := by
  unfold partW
  rw [List.mem_append, List.mem_filter, List.mem_filter]
  rcases wb_le w r with z | z <;> simp [z]
/-- the row at each level -/
def rowsW (L : Nat) (row : List Nat) : Nat → List Nat
  | 0 => row
  | l + 1 => partW (L - 1 - l) (rowsW L row l)
theorem rowsW_len (L : Nat) (row : List Nat) : ∀ l, (rowsW L row l).length = row.length
  | 0 => rfl
  | l + 1 => by show (partW _ _).length = _; rw [partW_len, rowsW_len L row l]
theorem mem_rowsW {L : Nat} {row : List Nat} {r : Nat} : ∀ {l}, r ∈ rowsW L row l ↔ r ∈ row
  | 0 => Iff.rfl
  | l + 1 => mem_partW.trans (mem_rowsW (l := l))
/-- its bits -/
def bitsW (L : Nat) (row : List Nat) (l : Nat) : List Int := (rowsW L row l).map fun r => ((wb (L - 1 - l) r : Nat) : Int)
theorem bitsW_len (L : Nat) (row : List Nat) (l : Nat) : (bitsW L row l).length = row.length := by unfold bitsW; rw [List.length_map, rowsW_len]
theorem bitsW_bits (L : Nat) (row : List Nat) (l : Nat) : Bits (bitsW L row l) := fun x hx => by
  obtain ⟨r, _, rfl⟩ := List.mem_map.mp hx
  rcases wb_le (L - 1 - l) r with z | z <;> rw [z]
  · exact .inl rfl
  · exact .inr rfl
/-- noughts, ones ahead of a place -/
def nW (L : Nat) (row : List Nat) (l i : Nat) : Nat := cp (p0 (L - 1 - l)) (rowsW L row l) i
def uW (L : Nat) (row : List Nat) (l i : Nat) : Nat := cp (p1 (L - 1 - l)) (rowsW L row l) i
theorem nuW {L : Nat} {row : List Nat} {l i : Nat} (h : i ≤ row.length) : nW L row l i + uW L row l i = i := cp_both _ _ _ (by rw [rowsW_len]; exact h)
theorem sumTo_wb (w : Nat) : ∀ (xs : List Nat) (i : Nat), sumTo (xs.map fun r => ((wb w r : Nat) : Int)) i = (cp (p1 w) xs i : Nat)
  | [], i => by simp [cp, sumTo]
  | x :: xs, 0 => by simp [cp, sumTo]
  | x :: xs, i + 1 => by
    have ih := sumTo_wb w xs i
    unfold cp at ih ⊢
    unfold sumTo at ih ⊢
    rw [List.map_cons, List.take_succ_cons, List.take_succ_cons, List.sum_cons, ih, List.filter_cons]
    rcases wb_le w x with z | z
    · rw [if_neg (by simp [z]), z]; simp
    · rw [if_pos (by simp [z]), z, List.length_cons]; push_cast; omega
theorem sumW (L : Nat) (row : List Nat) (l i : Nat) : sumTo (bitsW L row l) i = (uW L row l i : Nat) := sumTo_wb _ _ _
theorem noughtW {L : Nat} {row : List Nat} {l i : Nat} (h : i ≤ row.length) : (i : Int) - sumTo (bitsW L row l) i = (nW L row l i : Nat) := by
  rw [sumW]; have := nuW (L := L) (l := l) h; omega
/-- all noughts -/
def zW (L : Nat) (row : List Nat) (l : Nat) : Nat := nW L row l row.length
theorem zW_len (L : Nat) (row : List Nat) (l : Nat) : ((rowsW L row l).filter (p0 (L - 1 - l))).length = zW L row l := by
  unfold zW nW cp
  rw [List.take_of_length_le (by rw [rowsW_len]; exact Nat.le_refl _)]
theorem nW_mono {L : Nat} {row : List Nat} {l s e : Nat} (h : s ≤ e) : nW L row l s ≤ nW L row l e := cp_mono _ _ h
theorem uW_mono {L : Nat} {row : List Nat} {l s e : Nat} (h : s ≤ e) : uW L row l s ≤ uW L row l e := cp_mono _ _ h
theorem nW_le {L : Nat} {row : List Nat} {l e : Nat} (h : e ≤ row.length) : nW L row l e ≤ zW L row l := nW_mono h
theorem zuW {L : Nat} {row : List Nat} {l e : Nat} (h : e ≤ row.length) : zW L row l + uW L row l e ≤ row.length := by
  have h1 := uW_mono (L := L) (row := row) (l := l) h
  have h2 := nuW (L := L) (l := l) (Nat.le_refl row.length)
  unfold zW
  omega
theorem seg_n {L : Nat} {row : List Nat} {l s e : Nat} (h : s ≤ e) (he : e ≤ row.length) : (seg (rowsW L row l) s e).filter (p0 (L - 1 - l)) = seg (rowsW L row (l + 1)) (nW L row l s) (nW L row l e) := by
  rw [seg_filter _ _ h]
  show _ = seg (partW _ _) _ _
  unfold partW
  rw [seg_left (by rw [zW_len]; exact nW_le he)]; rfl
theorem seg_u {L : Nat} {row : List Nat} {l s e : Nat} (h : s ≤ e) : (seg (rowsW L row l) s e).filter (p1 (L - 1 - l)) = seg (rowsW L row (l + 1)) (zW L row l + uW L row l s) (zW L row l + uW L row l e) := by
  rw [seg_filter _ _ h]
  show _ = seg (partW _ _) _ _
  unfold partW
  rw [← zW_len, seg_right]; rfl
/-- one item, a level on -/
theorem item_n {L : Nat} {row : List Nat} {l i r : Nat} (h : (rowsW L row l)[i]? = some r) (hb : wb (L - 1 - l) r = 0) : (rowsW L row (l + 1))[nW L row l i]? = some r := by
  have hl := (List.getElem?_eq_some_iff.mp h).1
  rw [rowsW_len] at hl
  have := seg_n (L := L) (l := l) (show i ≤ i + 1 by omega) hl
  rw [seg_one h, List.filter_cons, if_pos (by simp [hb])] at this
  exact seg_head this.symm
theorem item_u {L : Nat} {row : List Nat} {l i r : Nat} (h : (rowsW L row l)[i]? = some r) (hb : wb (L - 1 - l) r = 1) : (rowsW L row (l + 1))[zW L row l + uW L row l i]? = some r := by
  have := seg_u (L := L) (row := row) (l := l) (show i ≤ i + 1 by omega)
  rw [seg_one h, List.filter_cons, if_pos (by simp [hb])] at this
  exact seg_head this.symm
/-- a number's first bits -/
def pre (L l r : Nat) : Nat := r / 2 ^ (L - l)
theorem pre_next {L l r : Nat} (h : l < L) : pre L (l + 1) r = 2 * pre L l r + wb (L - 1 - l) r := by
  unfold pre wb
  rw [show L - (l + 1) = L - 1 - l by omega, show L - l = L - 1 - l + 1 by omega, Nat.pow_succ, ← Nat.div_div_eq_div_mul]
  omega
theorem pre_end (L r : Nat) : pre L L r = r := by unfold pre; rw [Nat.sub_self]; simp
theorem pre_zero {L r : Nat} (h : r < 2 ^ L) : pre L 0 r = 0 := by unfold pre; exact Nat.div_eq_of_lt h
/-- the stretch of those that begin alike -/
theorem down_n {L : Nat} {row S : List Nat} {l s e p : Nat} (hl : l < L) (h : s ≤ e) (he : e ≤ row.length) (hS : seg (rowsW L row l) s e = S.filter fun r => pre L l r = p) : seg (rowsW L row (l + 1)) (nW L row l s) (nW L row l e) = S.filter fun r => pre L (l + 1) r = 2 * p := by
  rw [← seg_n h he, hS, List.filter_filter]
  refine List.filter_congr fun r _ => ?_
  rw [pre_next hl]
  show (decide (wb (L - 1 - l) r = 0) && decide (pre L l r = p)) = decide (2 * pre L l r + wb (L - 1 - l) r = 2 * p)
  rw [← Bool.decide_and]
  have := wb_le (L - 1 - l) r
  exact decide_eq_decide.mpr (by omega)
theorem down_u {L : Nat} {row S : List Nat} {l s e p : Nat} (hl : l < L) (h : s ≤ e) (hS : seg (rowsW L row l) s e = S.filter fun r => pre L l r = p) : seg (rowsW L row (l + 1)) (zW L row l + uW L row l s) (zW L row l + uW L row l e) = S.filter fun r => pre L (l + 1) r = 2 * p + 1 := by
  rw [← seg_u h, hS, List.filter_filter]
  refine List.filter_congr fun r _ => ?_
  rw [pre_next hl]
  show (decide (wb (L - 1 - l) r = 1) && decide (pre L l r = p)) = decide (2 * pre L l r + wb (L - 1 - l) r = 2 * p + 1)
  rw [← Bool.decide_and]
  have := wb_le (L - 1 - l) r
  exact decide_eq_decide.mpr (by omega)
/-! kinds and ranks -/
structure IsK (ks sg : List Int) : Prop where
  srt : ks.Pairwise (· < ·)
  mem : ∀ k, k ∈ ks ↔ k ∈ sg
def rk (ks : List Int) (x : Int) : Nat := ks.countP fun y => y < x
theorem rk_get : ∀ {ks : List Int} {i : Nat} {x : Int}, ks.Pairwise (· < ·) → ks[i]? = some x → rk ks x = i
  | [], i, x, _, h => by simp at h
  | k :: ks, 0, x, s, h => by
    obtain rfl : k = x := by simpa using h
    unfold rk
    rw [List.countP_cons, if_neg (by simp), Nat.add_zero, List.countP_eq_zero]
    intro y hy
    have := (List.pairwise_cons.mp s).1 y hy
    simp; omega
  | k :: ks, i + 1, x, s, h => by
    obtain ⟨s1, s2⟩ := List.pairwise_cons.mp s
    rw [List.getElem?_cons_succ] at h
    have ih := rk_get s2 h
    have := s1 x (List.mem_of_getElem? h)
    unfold rk at ih ⊢
    rw [List.countP_cons, ih, if_pos (by simpa using this)]
theorem get_rk {ks : List Int} {x : Int} (s : ks.Pairwise (· < ·)) (h : x ∈ ks) : ks[rk ks x]? = some x := by
  obtain ⟨i, hi⟩ := List.mem_iff_getElem?.mp h
  rw [rk_get s hi]; exact hi
theorem rk_lt {ks : List Int} {x : Int} (s : ks.Pairwise (· < ·)) (h : x ∈ ks) : rk ks x < ks.length := (List.getElem?_eq_some_iff.mp (get_rk s h)).1
theorem rk_le (ks : List Int) (x : Int) : rk ks x ≤ ks.length := List.countP_le_length
theorem rk_mono (ks : List Int) {x y : Int} (h : x ≤ y) : rk ks x ≤ rk ks y := by
  unfold rk
  exact List.countP_mono_left fun z _ hz => by simp at hz ⊢; omega
theorem rk_iff {ks : List Int} {x v : Int} (s : ks.Pairwise (· < ·)) (h : x ∈ ks) : rk ks x < rk ks v ↔ x < v := by
  constructor
  · intro a
    rcases Int.lt_or_le x v with z | z
    · exact z
    · have := rk_mono ks z; omega
  · intro a
    have e := get_rk s h
    have h1 := (List.getElem?_eq_some_iff.mp e).1
    -- the first rk x + 1 are below v
    have h2 : ((ks.take (rk ks x + 1)).countP fun y => y < v) = rk ks x + 1 := by
      have h3 : (ks.take (rk ks x + 1)).length = rk ks x + 1 := by rw [List.length_take]; omega
      refine Eq.trans (List.countP_eq_length.mpr fun y hy => ?_) h3
      obtain ⟨j, hj⟩ := List.mem_iff_getElem?.mp hy
      rw [List.getElem?_take] at hj
      split at hj
      · have hr := rk_get s hj
        have : y ≤ x := by
          rcases Int.lt_or_le x y with z | z
          · exfalso
            have p := List.pairwise_iff_getElem.mp s
            obtain ⟨j1, j2⟩ := List.getElem?_eq_some_iff.mp hj
            obtain ⟨i1, i2⟩ := List.getElem?_eq_some_iff.mp e
            rcases Nat.lt_or_ge j (rk ks x) with w | w
            · have := p j (rk ks x) j1 i1 w
              omega
            · have : j = rk ks x := by omega
              subst this
              omega
          · exact z
        simp; omega
      · cases hj
    have h4 := List.countP_append (p := fun y : Int => decide (y < v)) (l₁ := ks.take (rk ks x + 1)) (l₂ := ks.drop (rk ks x + 1))
    rw [List.take_append_drop, h2] at h4
    unfold rk at h4 ⊢
    omega
theorem isK_uniq : ∀ {as bs : List Int}, as.Pairwise (· < ·) → bs.Pairwise (· < ·) → (∀ k, k ∈ as ↔ k ∈ bs) → as = bs
  | [], [], _, _, _ => rfl
  | [], b :: bs, _, _, h => by have := (h b).mpr List.mem_cons_self; simp at this
  | a :: as, [], _, _, h => by have := (h a).mp List.mem_cons_self; simp at this
  | a :: as, b :: bs, sa, sb, h => by
    obtain ⟨a1, a2⟩ := List.pairwise_cons.mp sa
    obtain ⟨b1, b2⟩ := List.pairwise_cons.mp sb
    have e : a = b := by
      rcases List.mem_cons.mp ((h a).mp List.mem_cons_self) with z | z
      · exact z
      · rcases List.mem_cons.mp ((h b).mpr List.mem_cons_self) with w | w
        · exact w.symm
        · have := a1 b w; have := b1 a z; omega
    subst e
    rw [isK_uniq a2 b2 fun k => ⟨fun hk => ?_, fun hk => ?_⟩]
    · rcases List.mem_cons.mp ((h k).mp (List.mem_cons_of_mem _ hk)) with z | z
      · have := a1 k hk; omega
      · exact z
    · rcases List.mem_cons.mp ((h k).mpr (List.mem_cons_of_mem _ hk)) with z | z
      · have := b1 k hk; omega
      · exact z
/-- the ranks of a row of signs -/
def ranks (ks sg : List Int) : List Nat := sg.map (rk ks)
theorem ranks_len (ks sg : List Int) : (ranks ks sg).length = sg.length := by unfold ranks; rw [List.length_map]

/-! ### the heap over places: the least power of two -/
/-- the doublings from 1 until many are reached -/
def hOf (many : Nat) : Nat := if many ≤ 1 then 0 else (many - 1).log2 + 1
theorem hOf_le (many : Nat) : many ≤ 2 ^ hOf many := by
  unfold hOf
  split
  · rw [Nat.pow_zero]; omega
  · have := Nat.lt_log2_self (n := many - 1)
    omega
theorem hOf_lt {many k : Nat} (h : k < hOf many) : 2 ^ k < many := by
  unfold hOf at h
  split at h
  · omega
  · have h1 : 2 ^ k ≤ 2 ^ (many - 1).log2 := Nat.pow_le_pow_right (by decide) (by omega)
    have h2 := Nat.log2_self_le (n := many - 1) (by omega)
    omega
theorem hOf_small {many : Nat} (h : many ≤ 4096) : hOf many ≤ 12 := by
  rcases Nat.lt_or_ge 12 (hOf many) with z | z
  · have := hOf_lt z; omega
  · exact z

/-- how many levels -/
def lvK (ks : List Int) : Nat := hOf ks.length
/-- the blocks of a level -/
def eachB (sg : List Int) : Nat := (sg.length + 31) / 32
def bitsK (ks sg : List Int) (l : Nat) : List Int := bitsW (lvK ks) (ranks ks sg) l
theorem bitsK_len (ks sg : List Int) (l : Nat) : (bitsK ks sg l).length = sg.length := by unfold bitsK; rw [bitsW_len, ranks_len]
theorem bitsK_bits (ks sg : List Int) (l : Nat) : Bits (bitsK ks sg l) := bitsW_bits _ _ _
theorem bitsK_blks (ks sg : List Int) (l : Nat) : (blks (bitsK ks sg l)).length = eachB sg := by rw [blks_len, bitsK_len]; rfl
/-- the blocks of the first m levels -/
def sgB (ks sg : List Int) : Nat → List Int
  | 0 => []
  | m + 1 => sgB ks sg m ++ blks (bitsK ks sg m)
theorem sgB_len (ks sg : List Int) : ∀ m, (sgB ks sg m).length = m * eachB sg
  | 0 => by simp [sgB]
  | m + 1 => by unfold sgB; rw [List.length_append, sgB_len ks sg m, bitsK_blks, Nat.succ_mul]
theorem sgB_get (ks sg : List Int) {l k : Nat} : ∀ {m}, l < m → k < eachB sg → (sgB ks sg m)[l * eachB sg + k]? = (blks (bitsK ks sg l))[k]?
  | 0, h, _ => by omega
  | m + 1, h, hk => by
    unfold sgB
    rcases Nat.lt_or_ge l m with z | z
    · have h1 : l * eachB sg + eachB sg ≤ m * eachB sg := by rw [← Nat.succ_mul]; exact Nat.mul_le_mul_right _ z
      rw [List.getElem?_append_left (by rw [sgB_len]; omega)]
      exact sgB_get ks sg z hk
    · obtain rfl : l = m := by omega
      rw [List.getElem?_append_right (by rw [sgB_len]; omega), sgB_len, show l * eachB sg + k - l * eachB sg = k by omega]
theorem nodup_len {ks sg : List Int} (h : IsK ks sg) : ks.length ≤ sg.length := by
  refine List.Nodup.length_le_of_subset ?_ fun x hx => (h.mem x).mp hx
  exact h.srt.imp fun {a b} z => by omega
theorem lvK_le {ks sg : List Int} (h : IsK ks sg) (hl : sg.length ≤ 4096) : lvK ks ≤ 12 := hOf_small (Nat.le_trans (nodup_len h) hl)
theorem rank_lt {ks sg : List Int} (h : IsK ks sg) {r : Nat} (hr : r ∈ ranks ks sg) : r < ks.length ∧ r < 2 ^ lvK ks := by
  obtain ⟨x, hx, rfl⟩ := List.mem_map.mp hr
  have h1 := rk_lt h.srt ((h.mem x).mpr hx)
  exact ⟨h1, Nat.lt_of_lt_of_le h1 (hOf_le _)⟩
/-- the last number of the ones ahead -/
theorem ahead_last (bs : List Int) : atI ((aheadT bs).map V.int) (-1) = some (.int bs.sum) := by
  unfold aheadT
  rw [aheadN_succ, List.map_append]
  have := atI_last ((aheadN bs ((bs.length + 31) / 32)).map V.int) (V.int (sumTo bs (32 * ((bs.length + 31) / 32))))
  rw [sumTo_all bs (show bs.length ≤ 32 * ((bs.length + 31) / 32) by omega)] at this ⊢
  exact this
theorem zK {ks sg : List Int} (l : Nat) : (sg.length : Int) - (bitsK ks sg l).sum = (zW (lvK ks) (ranks ks sg) l : Nat) := by
  have := noughtW (L := lvK ks) (l := l) (Nat.le_refl (ranks ks sg).length)
  rw [sumTo_all _ (by rw [bitsW_len]; exact Nat.le_refl _), ranks_len] at this
  exact this.trans (by unfold zW; rw [ranks_len])

/-- a row of signs: its tables at t, a look at its blocks -/
structure SgAt (K : PySem.W.Frag) (CL : CLs) (H : Hp) (t g : Addr) (ks sg : List Int) (q : Option Addr) (D : Addr → Prop) (I : List Nat → Hp → Prop) : Prop where
  tab : ∃ (pk pa : Addr) (as : List Addr), SqT K H t [.int (sg.length : Int), .ref pk, .ref pa] ∧ SqT K H pk (ks.map V.int) ∧ SqT K H pa (as.map V.ref) ∧ as.length = lvK ks ∧ ∀ l a, as[l]? = some a → SqT K H a ((aheadT (bitsK ks sg l)).map V.int)
  look : LookJ CL 5 g (lvK ks * eachB sg) (fun k => .int ((sgB ks sg (lvK ks)).getD k 0)) q D I
  isk : IsK ks sg
  len : sg.length ≤ 4096
theorem SgAt.moveX {K : PySem.W.Frag} {CL : CLs} {H H' : Hp} {t g : Addr} {ks sg : List Int} {q : Option Addr} {D : Addr → Prop} {I : List Nat → Hp → Prop} (r : SgAt K CL H t g ks sg q D I) (s : SameX q H H') : SgAt K CL H' t g ks sg q D I :=
  ⟨let ⟨pk, pa, as, h1, h2, h3, h4, h5⟩ := r.tab; ⟨pk, pa, as, s.seqT h1, s.seqT h2, s.seqT h3, h4, fun l a e => s.seqT (h5 l a e)⟩, r.look, r.isk, r.len⟩
theorem SgAt.move {K : PySem.W.Frag} {CL : CLs} {H H' : Hp} {t g : Addr} {ks sg : List Int} {q : Option Addr} {D : Addr → Prop} {I : List Nat → Hp → Prop} (r : SgAt K CL H t g ks sg q D I) (s : Same H H') : SgAt K CL H' t g ks sg q D I :=
  ⟨let ⟨pk, pa, as, h1, h2, h3, h4, h5⟩ := r.tab; ⟨pk, pa, as, s.seqT h1, s.seqT h2, s.seqT h3, h4, fun l a e => s.seqT (h5 l a e)⟩, r.look, r.isk, r.len⟩
/-- a level's row, asked by level_row -/
theorem call_level {K : PySem.W.Frag} {CL : CLs} {H : Hp} {Q : VK} {E : XK} {t g : Addr} {ks sg : List Int} {q : Option Addr} {D : Addr → Prop} {I : List Nat → Hp → Prop} {L : List Nat} {l : Nat} (S : SgAt K CL H t g ks sg q D I) (i : I L H) (hl : l < lvK ks) (hT : NdefX.TabN H (tabP K "level_row") nmL)
    (q1 : ∀ p r f H' B, H p = none → Same H H' → H' p = some (.tup [.ref r, .ref f]) → RowAt K CL H' r f (bitsK ks sg l) q (OffI I B (l * eachB sg) L) → OffI I B (l * eachB sg) L L H' → Q (.ref p) H') : sp_level_row K CL [.ref t, .ref g, .int (l : Int)] H Q E := by
  obtain ⟨pk, pa, as, h1, h2, h3, h4, h5⟩ := S.tab
  have hlv := lvK_le S.isk S.len
  have ea := List.getElem?_eq_getElem (show l < as.length by omega)
  have eb := bitsK_blks ks sg l
  have hle : l * eachB sg + eachB sg ≤ lvK ks * eachB sg := by rw [← Nat.succ_mul]; exact Nat.mul_le_mul_right _ hl
  refine ⟨t, g, pk, pa, as[l], l, _, as.map V.ref, bitsK ks sg l, _, q, D, I, L, rfl, by rw [bitsK_len]; exact h1, h3, by rw [List.getElem?_map, ea]; rfl, h5 l _ ea, bitsK_bits _ _ _, by rw [bitsK_len]; have := S.len; omega, by omega, S.look, i, by rw [eb]; exact hle, fun k hk => ?_, hT, fun p r f H' B a1 a2 a3 a4 a5 => ?_⟩
  · rw [eb] at hk ⊢
    show V.int _ = V.int _
    rw [List.getD_eq_getElem?_getD, sgB_get ks sg hl hk, List.getD_eq_getElem?_getD]
  · rw [eb] at a4 a5
    exact q1 p r f H' B a1 a2 a3 a4 a5

/-! for .. in reversed(range(n)) -/
def RevRK (R : It → Hp → Prop) (x : V) (H : Hp) : Prop := ∃ n, x = .int n ∧ (-(2 ^ 62) ≤ (0 : Int) ∧ (0 : Int) < 2 ^ 62 ∧ -(2 ^ 62) ≤ n ∧ n < 2 ^ 62 ∧ R (Itc (0 + (((n - 0).toNat : Nat) : Int) - 1) (-1) (n - 0).toNat) H)
theorem m_revR1 {ta : TE} {σ : L2.St} {H : Hp} {R : It → Hp → Prop} (h : ta σ H (RevRK R)) : iRevR (tRg1 ta) σ H R := h
theorem m_revRe {R : It → Hp → Prop} {n : Nat} {H : Hp} (hn : n ≤ 1000000) (r : R (Itc ((n : Int) - 1) (-1) n) H) : RevRK R (.int (n : Int)) H := by
  refine ⟨n, rfl, by decide, by decide, by omega, by omega, ?_⟩
  rw [show ((n : Int) - 0).toNat = n by omega, show (0 : Int) + (n : Int) - 1 = (n : Int) - 1 by omega]
  exact r
theorem loop_revR {n : Nat} {g : TG} {tb : TS} {nx : L2.St → Hp → Prop} {rt : VK} {σ : L2.St} {H : Hp} (Pv : Nat → L2.St → Hp → Prop) (h0 : Pv 0 σ H)
    (hs : ∀ i σ H, i < n → Pv i σ H → g (.int ((n - 1 - i : Nat) : Int)) σ H fun σ2 H2 => tb (Ends.mk (Pv (i + 1)) rt nx (Pv (i + 1))) σ2 H2) (hd : ∀ σ H, Pv n σ H → nx σ H) : LoopOk (Itc ((n : Int) - 1) (-1) n) g tb nx rt σ H :=
  loop_walk (n := n) walk_rangeC Pv h0 (fun _ _ _ _ => trivial) (fun i v σ H H' hi p hy => by
    obtain ⟨rfl, rfl⟩ := hy
    show g (.int ((n : Int) - 1 + (i : Nat) * (-1))) σ _ _
    rw [show (n : Int) - 1 + (i : Nat) * (-1) = ((n - 1 - i : Nat) : Int) by omega]
    exact hs i σ _ hi p) hd

/-- levels_for(kinds) -/
def sp_levels_for (K : PySem.W.Frag) : Sp := fun vs H Q _ => ∃ n : Nat, vs = [.int (n : Int)] ∧ n ≤ 4096 ∧ Q (.int (hOf n : Nat)) H
theorem len_levels_for (K : PySem.W.Frag) : ∀ vs H Q E, sp_levels_for K vs H Q E → vs.length = 1 := by
  rintro vs H Q E ⟨x, rfl, _⟩; rfl
def t_levels_for (K : PySem.W.Frag) : TS :=
  (tSeq (tAsg (tC (.int 0)) (gName 1))
  (tSeq (tAsg (tC (.int 1)) (gName 2))
  (tSeq (tWhile (tTest (tOp rLt (tVar 2) (tVar 0)))
  (tSeq (tAug 2 (tVar 2) (ipI fun i j => i + j))
  (tAug 1 (tC (.int 1)) (ipI fun i j => i + j))))
  (tRet (tVar 1)))))
abbrev n_levels_for : List Str := ["kinds", "levels", "room"]

theorem rd_levels_for (K : PySem.W.Frag) (vs : List V) (H : Hp) (Q : VK) (E : XK) (h : sp_levels_for K vs H Q E) : t_levels_for K { nx := fun _ H' => Q .non H', rt := Q } (start n_levels_for vs) H := by
  obtain ⟨n, rfl, hn, q⟩ := h
  have hlv := hOf_small hn
  unfold t_levels_for
  walk_at "st"
  refine loop_while (fun m σ' H' => ∃ k : Nat, m = hOf n - k ∧ k ≤ hOf n ∧ H' = H ∧ σ' = [some (.int (n : Int)), some (.int (k : Int)), some (.int ((2 ^ k : Nat) : Int))]) (hOf n) ⟨0, rfl, Nat.zero_le _, rfl, rfl⟩ ?_
  rintro m σ' H' ⟨k, rfl, hk, rfl, rfl⟩
  walk_at "st"
  walk_at "if" <;> intro c
  · have c2 : 2 ^ k < n := by exact_mod_cast c
    have hk2 : k < hOf n := by
      rcases Nat.lt_or_ge k (hOf n) with z | z
      · exact z
      · have := hOf_le n
        have := Nat.pow_le_pow_right (show 0 < 2 by decide) z
        omega
    walk_at "st"
    refine ⟨hOf n - (k + 1), by omega, k + 1, rfl, hk2, rfl, ?_⟩
    rw [show ((2 ^ (k + 1) : Nat) : Int) = ((2 ^ k : Nat) : Int) + ((2 ^ k : Nat) : Int) by rw [Nat.pow_succ]; push_cast; omega]; rfl
  have hkL : k = hOf n := by
    rcases Nat.lt_or_ge k (hOf n) with z | z
    · have := hOf_lt (many := n) (k := k) z
      have c2 : ¬ 2 ^ k < n := by exact_mod_cast c
      exact absurd this c2
    · omega
  subst hkL
  walk_at "st"
  exact q

/-- numbers of a row -/
def natL (xs : List Nat) : List Int := xs.map fun r : Nat => (r : Int)
theorem natL_len (xs : List Nat) : (natL xs).length = xs.length := by unfold natL; rw [List.length_map]
theorem wb_int (w r : Nat) : ((r : Int) / ((2 ^ w : Nat) : Int)) % 2 = ((wb w r : Nat) : Int) := by unfold wb; push_cast; rfl
theorem natL_filter (w b : Nat) (xs : List Nat) : (natL xs).filter (fun n => decide ((n / ((2 ^ w : Nat) : Int)) % 2 = (b : Int))) = natL (xs.filter fun r => decide (wb w r = b)) := by
  unfold natL
  rw [List.filter_map]
  congr 1
  refine List.filter_congr fun r _ => ?_
  show decide _ = decide _
  rw [wb_int]
  exact decide_eq_decide.mpr (by omega)

theorem range_fm {α β : Type} (l : List α) (g : α → Option β) : (List.range l.length).filterMap (fun k => (l[k]?).bind g) = l.filterMap g := by
  have h : ∀ n, n ≤ l.length → (List.range n).filterMap (fun k => (l[k]?).bind g) = (l.take n).filterMap g := by
    intro n
    induction n with
    | zero => intro _; rfl
    | succ n ih =>
      intro hn
      have e := List.getElem?_eq_getElem (show n < l.length by omega)
      rw [List.range_succ, List.filterMap_append, ih (by omega), List.take_add_one, e, List.filterMap_append]
      congr 1
      show List.filterMap _ [n] = List.filterMap g [l[n]]
      rw [List.filterMap_cons, List.filterMap_cons, e]; rfl
  rw [h _ (Nat.le_refl _), List.take_length]
theorem fm_if {α β : Type} (p : α → Bool) (f : α → β) : ∀ l : List α, l.filterMap (fun n => if p n = true then some (f n) else none) = (l.filter p).map f
  | [] => rfl
  | n :: l => by
    rw [List.filterMap_cons, List.filter_cons]
    cases p n with
    | true => rw [if_pos rfl, if_pos rfl, fm_if p f l]; rfl
    | false => rw [if_neg (by decide), if_neg (by decide), fm_if p f l]
/-- the numbers of a list that a test lets through -/
theorem comp_filterI {K : PySem.W.Frag} {σ : L2.St} {H : Hp} {Q : VK} {a : Addr} {ns : List Int} {te : TE} {tt : TT} {j : Nat} (p : Int → Bool) (hl : SqL K H a (ns.map V.int)) (hn : ns.length ≤ 100000)
    (ht : ∀ (k : Nat) (n : Int) (H1 : Hp) (Qb : Bool → Hp → Prop), ns[k]? = some n → Same H H1 → (∀ H2, Same H1 H2 → Qb (p n) H2) → tt ((wipe σ [j]).set j (some (.int n))) H1 Qb)
    (he : ∀ (n : Int) (H1 : Hp) (Q2 : VK), Q2 (.int n) H1 → te ((wipe σ [j]).set j (some (.int n))) H1 Q2)
    (q : ∀ pd H', H pd = none → Same H H' → H' pd = some (.lst ((ns.filter p).map V.int)) → Q (.ref pd) H') (hw : ∀ x, wipe ((wipe σ [j]).set j (some x)) [j] = wipe σ [j] := by intro _; rfl) : CompOk (Itl K a) (gName j) tt te [j] σ H Q := by
  refine comp_walkV (f := fun k => (ns[k]?).bind fun n => if p n = true then some (V.int n) else none) (walk_list (K := K) (xs := ns.map V.int)) (by rw [List.length_map]; exact hn) (fun H' s' => s'.seq hl) (fun k v Hb Hc Qb hk sk hy qb => ?_) (fun pm Hb hpm sb eb => ?_) hw
  · obtain ⟨rfl, hv⟩ := hy
    obtain ⟨n, en, rfl⟩ := of_mapint hv
    refine ht k n Hc Qb en sk fun H2 s2 => qb (p n) H2 s2 (fun hp Q2 H4 s4 => ⟨_, by rw [en]; show (if p n = true then _ else _) = _; rw [if_pos hp], fun q2 => he n H4 Q2 (q2 H4 (Same.refl _))⟩) fun hp => ?_
    rw [en]
    show (if p n = true then _ else _) = _
    rw [if_neg (by rw [hp]; decide)]
  · rw [List.length_map, range_fm, fm_if] at eb
    exact q pm Hb hpm sb eb

/-- dicts: keys are numbers -/
def DGetK (Q : VK) (x y : V) (H : Hp) : Prop := ∃ a v, x = .ref a ∧ DGet H a y (some v) ∧ Q v H
theorem m_dget {td ty : TE} {σ : L2.St} {H : Hp} {Q : VK} (h : td σ H fun x H1 => ty σ H1 fun y H2 => DGetK Q x y H2) : tDGet td ty σ H Q := h
theorem k_dgetE {H : Hp} {Q : VK} {a : Addr} {kvs : List (Key × V)} {i : Int} {v : V} (e : H a = some (.dK kvs)) (hv : valV kvs (.inl i) = some v) (q : Q v H) : DGetK Q (.ref a) (.int i) H :=
  ⟨a, v, rfl, by rw [← hv]; exact DGet.k (k := .inl i) e, q⟩
def DPutK (nx : Hp → Prop) (x y v : V) (H : Hp) : Prop := ∃ a H4, x = .ref a ∧ DPut H a y v H4 ∧ nx H4
theorem m_dput {td ty tv : TE} {σ : L2.St} {H : Hp} {nx bk ct : L2.St → Hp → Prop} {rt : VK} (h : tv σ H fun v H1 => td σ H1 fun x H2 => ty σ H2 fun y H3 => DPutK (nx σ) x y v H3) : sDPut td ty tv (Ends.mk nx rt bk ct) σ H := h
theorem k_dputE {H : Hp} {nx : Hp → Prop} {a : Addr} {kvs : List (Key × V)} {i : Int} {v : V} (e : H a = some (.dK kvs)) (hl : kvs.length ≤ 100000) (q : nx (upd H a (.dK (putK kvs (.inl i) v)))) : DPutK nx (.ref a) (.int i) v H :=
  ⟨a, _, rfl, DPut.k (k := .inl i) e (Nat.lt_of_le_of_lt hl (by decide)), q⟩
/-- {i: v} -/
def Disp1K (p : Addr) (Q : VK) (x y : V) (H : Hp) : Prop := H p = some (.dK []) ∧ ∃ kvs : List (Key × V), [(x, y)] = kvs.map (fun kv => (kV kv.1, kv.2)) ∧ kvs.length ≤ 15 ∧ Q (.ref p) (upd H p (.dK (mergeK [] kvs)))
theorem m_disp1 {tk tv : TE} {σ : L2.St} {H : Hp} {Q : VK} (h : ∀ p, H p = none → tk σ (upd H p (.dK [])) fun x H1 => tv σ H1 fun y H2 => Disp1K p Q x y H2) : tDisp [(tk, tv)] σ H Q := h
theorem k_disp1E {p : Addr} {H : Hp} {Q : VK} {i : Int} {y : V} (e : H p = some (.dK [])) (q : Q (.ref p) (upd H p (.dK [(.inl i, y)]))) : Disp1K p Q (.int i) y H := ⟨e, [(.inl i, y)], rfl, by simp, q⟩
theorem Same.mutD {H H' : Hp} {p : Addr} {o : HO} (e : Same H H') (h : H p = none) {kvs : List (Key × V)} (hl : H' p = some (.dK kvs)) : Same H (upd H' p o) := by
  refine ⟨fun b x hb n => by rw [upd_ne (ne_of_none hb h)]; exact e.keep b x hb n, fun b hb => e.gone b (NdefX.upd_none hb), fun P t => ?_⟩
  obtain ⟨ps, h1, ht, hc⟩ := e.tabs P t
  have np : ∀ {b : Addr} {u : HO}, H' b = some u → (∀ xs, u ≠ .dK xs) → b ≠ p := fun {b u} q d z => by
    subst z; rw [hl] at q; cases q; exact d _ rfl
  refine ⟨ps, by rw [upd_ne (np h1 fun _ z => nomatch z)]; exact h1, ht, fun pos cv q => ?_⟩
  obtain ⟨c, e1, e2⟩ := hc pos cv q
  exact ⟨c, e1, by rw [upd_ne (np e2 fun _ z => by unfold LamX.CodeO at z; cases z)]; exact e2⟩
theorem m_dnew {H : Hp} {σ : L2.St} {Q : VK} (h : ∀ p, H p = none → Q (.ref p) (upd H p (.dK []))) : tDNewK σ H Q := h
theorem Same.mutG {H H' : Hp} {p : Addr} {o o' : HO} (e : Same H H') (h : H p = none) (hl : H' p = some o') (n1 : ∀ ps, o' ≠ .tbl ps) (n2 : ∀ φ, o' ≠ .ext φ) : Same H (upd H' p o) := by
  refine ⟨fun b x hb n => by rw [upd_ne (ne_of_none hb h)]; exact e.keep b x hb n, fun b hb => e.gone b (NdefX.upd_none hb), fun P t => ?_⟩
  obtain ⟨ps, h1, ht, hc⟩ := e.tabs P t
  have np : ∀ {b : Addr} {u : HO}, H' b = some u → u ≠ o' → b ≠ p := fun {b u} q d z => by
    subst z; rw [hl] at q; exact d (Option.some.inj q).symm
  refine ⟨ps, by rw [upd_ne (np h1 fun z => n1 _ z.symm)]; exact h1, ht, fun pos cv q => ?_⟩
  obtain ⟨c, e1, e2⟩ := hc pos cv q
  exact ⟨c, e1, by rw [upd_ne (np e2 fun z => by unfold LamX.CodeO at z; exact n2 _ z.symm)]; exact e2⟩
theorem putK_mem {kvs : List (Key × V)} {k : Key} {v : V} {p : Key × V} (h : p ∈ putK kvs k v) : p.1 = k ∨ ∃ q ∈ kvs, q.1 = p.1 := by
  unfold putK at h
  split at h
  · obtain ⟨q, hq, e⟩ := List.mem_map.mp h
    refine .inr ⟨q, hq, ?_⟩
    rw [← e]
    split <;> rfl
  · rcases List.mem_append.mp h with z | z
    · exact .inr ⟨p, z, rfl⟩
    · rw [List.mem_singleton.mp z]; exact .inl rfl
theorem valV_mem {kvs : List (Key × V)} {k : Key} {v : V} (h : valV kvs k = some v) : ∃ q ∈ kvs, q.1 = k := by
  unfold valV at h
  obtain ⟨q, hq, _⟩ := Option.map_eq_some_iff.mp h
  exact ⟨q, List.mem_of_find?_eq_some hq, by simpa using List.find?_some hq⟩
/-- x in d -/
def DInK (Q : VK) (y x : V) (H : Hp) : Prop := ∃ a o, x = .ref a ∧ DGet H a y o ∧ Q (.bl o.isSome) H
theorem m_din {ty td : TE} {σ : L2.St} {H : Hp} {Q : VK} (h : ty σ H fun y H1 => td σ H1 fun x H2 => DInK Q y x H2) : tDIn ty td σ H Q := h
theorem k_dinE {H : Hp} {Q : VK} {a : Addr} {kvs : List (Key × V)} {i : Int} (e : H a = some (.dK kvs)) (q : Q (.bl (valV kvs (.inl i)).isSome) H) : DInK Q (.int i) (.ref a) H := ⟨a, _, rfl, DGet.k (k := .inl i) e, q⟩
def KeysK (R : It → Hp → Prop) (x : V) (H1 : Hp) : Prop := ∃ d o, x = .ref d ∧ ((∃ kvs, H1 d = some (.frz o (.dK kvs)) ∧ R (Itk d o kvs) H1) ∨ ∃ kvs, H1 d = some (.frz o (.dT kvs)) ∧ R (Itkt d o kvs) H1)
theorem m_keys {td : TE} {σ : L2.St} {H : Hp} {R : It → Hp → Prop} (h : td σ H (KeysK R)) : iKeys td σ H R := h
theorem k_keysE {R : It → Hp → Prop} {d : Addr} {o : Obj} {kvs : List (Key × V)} {H : Hp} (e : H d = some (.frz o (.dK kvs))) (q : R (Itk d o kvs) H) : KeysK R (.ref d) H := ⟨d, o, rfl, .inl ⟨kvs, e, q⟩⟩
theorem m_lockE {t : TE} {σ : L2.St} {H : Hp} {Q : VK} {d : Addr} {kvs : List (Key × V)} (e : H d = some (.dK kvs)) (h : ∀ od, t σ (upd H d (.frz od (.dK kvs))) fun v H' => H' d = some (.frz od (.dK kvs)) ∧ Q v (upd H' d (.dK kvs))) : tLockE t σ H Q := ⟨d, _, e, trivial, h⟩

/-- too far from nought -/
def FarS (x : Int) : Prop := x ≤ -1000000000000000000000000000000000000000000000000000000000000 ∨ 1000000000000000000000000000000000000000000000000000000000000 ≤ x
theorem wb_shr (w r : Nat) : ((r : Int) / 2 ^ w) % 2 = ((wb w r : Nat) : Int) := by unfold wb; push_cast; rfl
theorem natL_shr (w b : Nat) (xs : List Nat) : (natL xs).filter (fun n => decide ((n / 2 ^ w) % 2 = (b : Int))) = natL (xs.filter fun r => decide (wb w r = b)) := by
  unfold natL
  rw [List.filter_map]
  congr 1
  refine List.filter_congr fun r _ => ?_
  show decide _ = decide _
  rw [wb_shr]
  exact decide_eq_decide.mpr (by omega)
/-- kept_signs(signs) -/
def sp_kept_signs (K : PySem.W.Frag) : Sp := fun vs H Q E => ∃ (a : Addr) (sg U : List Int), vs = [.ref a] ∧ H a = some (.lst (sg.map V.int)) ∧ sg.length ≤ 100000 ∧
  (sg.length > 4096 → E (.ref (He.ga K "TooMany")) none H) ∧
  (sg.length ≤ 4096 → (∃ x ∈ sg, FarS x) → E (.ref (He.ga K "NoSign")) none H) ∧
  (sg.length ≤ 4096 → (∀ x ∈ sg, ¬ FarS x) → U.length ≤ 4090 ∧ (∀ x ∈ sg, x ∈ U) ∧ ∀ (ks : List Int) (p t pk pa pb : Addr) (as : List Addr) H', IsK ks sg → H p = none → H pb = none → Same H H' → H' p = some (.tup [.ref t, .ref pb]) → H' t = some (.tup [.int (sg.length : Int), .ref pk, .ref pa]) → H' pk = some (.tup (ks.map V.int)) → H' pa = some (.tup (as.map V.ref)) → as.length = lvK ks → (∀ l x, as[l]? = some x → H' x = some (.tup ((aheadT (bitsK ks sg l)).map V.int))) → H' pb = some (.lst ((sgB ks sg (lvK ks)).map V.int)) → Q (.ref p) H')
theorem len_kept_signs (K : PySem.W.Frag) : ∀ vs H Q E, sp_kept_signs K vs H Q E → vs.length = 1 := by
  rintro vs H Q E ⟨x, y, _, rfl, _⟩; rfl
def t_kept_signs (K : PySem.W.Frag) (E : XK) : TS :=
  (tSeq (tIfS (tTest (tOp rGtI (tCB (rLen K) (tCons (tVar 0) tNil)) (tC (.int 4096))))
  (tRz (fun cls d _ H => E cls d H) (He.ga K "TooMany"))
  tNext)
  (tSeq (tFor (iList K (tVar 0)) (gName 1)
  (tIfS (tOr (tTest (tOp rLe (tVar 1) (tC (.int (-1000000000000000000000000000000000000000000000000000000000000))))) (tTest (tOp rGeI (tVar 1) (tC (.int 1000000000000000000000000000000000000000000000000000000000000)))))
  (tRz (fun cls d _ H => E cls d H) (He.ga K "NoSign"))
  tNext))
  (tSeq (tAsg (tSortSet K (tVar 0)) (gName 2))
  (tSeq (tAsg tDNewK (gName 3))
  (tSeq (tFor (iEnum K (tCons (tVar 2) tNil)) (gTup K 2 (gCons (gName 4) (gCons (gName 1) gNil)))
  (sDPut (tVar 3) (tVar 1) (tVar 4)))
  (tSeq (tAsg (tLc (iList K (tVar 0)) (gName 1) tYes (tDGet (tVar 3) (tVar 1)) [1]) (gName 5))
  (tSeq (tAsg (tLst tNil) (gName 6))
  (tSeq (tAsg (tLst tNil) (gName 7))
  (tSeq (tFor (iRevR (tRg1 (tCall (sp_levels_for K) [] E0 (tCons (tCB (rLen K) (tCons (tVar 2) tNil)) tNil)))) (gName 8)
  (tSeq (tAsg (tCall (sp_kept_row K) [] E (tCons (tLc (iList K (tVar 5)) (gName 4) tYes (tOp rAnd1 (tOp rShr (tVar 4) (tVar 8)) (tC (.int 1))) [4]) tNil)) (gTup K 2 (gCons (gName 9) (gCons (gName 10) gNil))))
  (tSeq (tDrop (tBM K "list" rAppend (tVar 6) (tCons (tOp (rIxT K) (tVar 9) (tC (.int 1))) tNil)))
  (tSeq (tDrop (tBM K "list" rExtend (tVar 7) (tCons (tVar 10) tNil)))
  (tSeq (tAsg (tLc (iList K (tVar 5)) (gName 4) (tTest (tOp rEq (tOp rAnd1 (tOp rShr (tVar 4) (tVar 8)) (tC (.int 1))) (tC (.int 0)))) (tVar 4) [4]) (gName 11))
  (tAsg (tOp rCat (tVar 11) (tLc (iList K (tVar 5)) (gName 4) (tTest (tOp rEq (tOp rAnd1 (tOp rShr (tVar 4) (tVar 8)) (tC (.int 1))) (tC (.int 1)))) (tVar 4) [4])) (gName 5)))))))
  (tRet (tTup (tCons (tTup (tCons (tCB (rLen K) (tCons (tVar 0) tNil)) (tCons (tCB (rTupOf K) (tCons (tVar 2) tNil)) (tCons (tCB (rTupOf K) (tCons (tVar 6) tNil)) tNil)))) (tCons (tVar 7) tNil)))))))))))))
abbrev n_kept_signs : List Str := ["signs", "sign", "kinds", "ranks", "rank", "row", "aheads", "blocks", "weight", "tables", "some", "noughts"]

theorem rd_kept_signs (K : PySem.W.Frag) (vs : List V) (H : Hp) (Q : VK) (E : XK) (h : sp_kept_signs K vs H Q E) : t_kept_signs K E { nx := fun _ H' => Q .non H', rt := Q } (start n_kept_signs vs) H := by
  obtain ⟨a, sg, U, rfl, hS, hl0, q1, q2, q3⟩ := h
  unfold t_kept_signs
  walk_at "st"
  refine k_lenL (.of hS) ?_
  walk_at "st"
  rw [List.length_map]
  walk_at "if" <;> intro c0
  · walk_at "st"
    exact q1 (by omega)
  have hl : sg.length ≤ 4096 := by omega
  walk_at "st"
  refine m_iLe (.of hS) ?_
  refine loop_ints (ns := sg) (fun i σ' H' => ∃ (v1 : Option V), H' = H ∧ i ≤ sg.length ∧ (∀ x ∈ sg.take i, ¬ FarS x) ∧ σ' = [some (.ref a), v1, none, none, none, none, none, none, none, none, none, none]) ⟨none, rfl, Nat.zero_le _, by simp, rfl⟩ (fun i σ' H' ⟨_, e, _⟩ => e ▸ .of hS) (fun i x σ' H' hx ⟨v1, eH, hi, hf, es⟩ => ?_) (fun σ' H' ⟨v1, eH, _, hf, es⟩ => ?_)
  · subst es
    subst eH
    walk_at "st"
    walk_at "if" <;> intro c1
    · walk_at "st"
      exact q2 hl ⟨x, List.mem_of_getElem? hx, .inl c1⟩
    walk_at "st"
    walk_at "if" <;> intro c2
    · walk_at "st"
      exact q2 hl ⟨x, List.mem_of_getElem? hx, .inr c2⟩
    walk_at "st"
    refine ⟨_, rfl, (List.getElem?_eq_some_iff.mp hx).1, fun y hy => ?_, rfl⟩
    rw [List.take_add_one, hx] at hy
    rcases List.mem_append.mp hy with z | z
    · exact hf y z
    · obtain rfl : y = x := by simpa using z
      exact fun z => z.elim c1 c2
  subst es
  subst eH
  rw [List.take_length] at hf
  obtain ⟨hU, hUm, q⟩ := q3 hl hf
  walk_at "st"
  refine m_sortSet ?_
  walk_at "st"
  refine ⟨a, sg, U, rfl, .of hS, hU, hUm, fun ks p1 hsrt hmem hp1 => ?_⟩
  have hK : IsK ks sg := ⟨hsrt, hmem⟩
  have hkl := nodup_len hK
  have hlv := lvK_le hK hl
  have s1 := same_new (o := .lst (ks.map V.int)) hp1
  have e1 := upd_same (H := H') (a := p1) (o := .lst (ks.map V.int))
  generalize upd H' p1 (.lst (ks.map V.int)) = H1 at s1 e1 ⊢
  walk_at "st"
  refine m_dnew fun pd hpd => ?_
  have s2 := s1.trans (same_new (o := .dK []) hpd)
  have ed := upd_same (H := H1) (a := pd) (o := .dK [])
  have n1d : p1 ≠ pd := ne_of_none e1 hpd
  have hpd0 := s1.gone _ hpd
  replace e1 := (same_new (o := .dK []) hpd).get e1
  generalize upd H1 pd (.dK []) = H2 at s2 e1 ed ⊢
  walk_at "st"
  refine m_enumE (.of e1) ?_
  refine loop_walk walk_enum (fun i σ H2 => ∃ (v1 v4 : Option V) (kvs : List (Key × V)), σ = [some (.ref a), v1, some (.ref p1), some (.ref pd), v4, none, none, none, none, none, none, none] ∧ i ≤ ks.length ∧ Same H' H2 ∧ H2 p1 = some (.lst (ks.map V.int)) ∧ H2 pd = some (.dK kvs) ∧ kvs.length ≤ i ∧ ∀ j x, j < i → ks[j]? = some x → valV kvs (.inl x) = some (.int (j : Int))) ⟨v1, none, [], rfl, Nat.zero_le _, s2, e1, ed, Nat.le_refl _, fun j x hj => by omega⟩ (fun i σ H2 ⟨_, _, _, _, _, _, e, _⟩ => .of e) ?_ ?_
  · rintro i v σ H3 H4 hi ⟨v1, v4, kvs, rfl, _, s, e1, ed, hkv, hv⟩ ⟨T, x, w, rfl, hT, rfl, ex, ew⟩
    rw [List.length_map] at hi
    obtain ⟨b, hbi, rfl⟩ := of_mapint ew
    obtain rfl : x = .int (i : Nat) := (Option.some.inj ex).symm
    have sT := same_new (o := .tup [.int (i : Nat), .int b]) hT
    have eT := upd_same (H := H3) (a := T) (o := .tup [.int (i : Nat), .int b])
    generalize upd H3 T (.tup [.int (i : Nat), .int b]) = H5 at sT eT ⊢
    refine m_gTup (.of eT) rfl ?_
    walk_at "st"
    refine m_dput ?_
    walk_at "st"
    refine k_dputE (sT.get ed) (by omega) ?_
    have hp1 := length_putK kvs (.inl b : Key) (V.int (i : Int))
    refine ⟨_, _, _, rfl, by omega, (s.trans sT).mutD hpd0 (sT.get ed), by rw [upd_ne n1d]; exact sT.get e1, upd_same, by omega, fun j y hj hy => ?_⟩
    rw [valV_put]
    by_cases c : y = b
    · subst c
      have h1 := rk_get hsrt hy
      have h2 := rk_get hsrt hbi
      rw [if_pos rfl, show j = i by omega]
    · rw [if_neg (by intro z; exact c (Sum.inl.inj z))]
      rcases Nat.lt_or_ge j i with z | z
      · exact hv j y z hy
      · obtain rfl : j = i := by omega
        rw [hbi] at hy
        exact absurd (Option.some.inj hy).symm c
  rintro σ H3 ⟨v1, v4, kvs, rfl, _, s3, e1, ed, _, hv⟩
  rw [List.length_map] at hv
  walk_at "st"
  refine m_iLe (.of (s3.get hS)) ?_
  refine comp_listV (xs := sg.map V.int) (ys := (natL (ranks ks sg)).map V.int) (.of (s3.get hS)) (by rw [List.length_map]; omega) (by rw [List.length_map, List.length_map, natL_len, ranks_len]) (fun k x y Ha Q2 hx hy sk q2 => ?_) fun p2 H4 hp2 s4 er => ?_
  · obtain ⟨n, en, rfl⟩ := of_mapint hx
    have ey : y = .int (rk ks n : Nat) := by
      have : ((natL (ranks ks sg)).map V.int)[k]? = some (.int (rk ks n : Nat)) := by
        unfold natL ranks
        rw [List.getElem?_map, List.getElem?_map, List.getElem?_map, en]; rfl
      rw [this] at hy
      exact (Option.some.inj hy).symm
    subst ey
    have hmn := (hmem n).mpr (List.mem_of_getElem? en)
    refine m_dget ?_
    walk_at "st"
    refine k_dgetE (sk.get ed) (hv _ n (rk_lt hsrt hmn) (get_rk hsrt hmn)) ?_
    exact q2 _ (Same.refl _)
  have t4 := s3.trans s4
  replace e1 := s4.get e1
  walk_at "st"
  intro p6 hp6
  have hp6B := t4.gone _ hp6
  have s6 := t4.trans (same_new (o := .lst []) hp6)
  have e6 := upd_same (H := H4) (a := p6) (o := .lst [])
  have nr6 : p2 ≠ p6 := ne_of_none er hp6
  have n16 : p1 ≠ p6 := ne_of_none e1 hp6
  replace er := (same_new (o := .lst []) hp6).get er
  replace e1 := (same_new (o := .lst []) hp6).get e1
  generalize upd H4 p6 (.lst []) = H6 at s6 e6 er e1 ⊢
  walk_at "st"
  intro p7 hp7
  have hp7B := s6.gone _ hp7
  have s7 := s6.trans (same_new (o := .lst []) hp7)
  have e7 := upd_same (H := H6) (a := p7) (o := .lst [])
  have n67 : p6 ≠ p7 := ne_of_none e6 hp7
  have nr7 : p2 ≠ p7 := ne_of_none er hp7
  have n17 : p1 ≠ p7 := ne_of_none e1 hp7
  replace er := (same_new (o := .lst []) hp7).get er
  replace e1 := (same_new (o := .lst []) hp7).get e1
  replace e6 := (same_new (o := .lst []) hp7).get e6
  generalize upd H6 p7 (.lst []) = H7 at s7 e7 er e1 e6 ⊢
  walk_at "st"
  refine m_revR1 ?_
  walk_at "st"
  refine k_lenL (.of e1) ?_
  walk_at "st"
  rw [List.length_map]
  refine ⟨ks.length, rfl, by omega, ?_⟩
  refine m_revRe (by have : hOf ks.length = lvK ks := rfl; omega) ?_
  refine loop_revR (fun i σ' H2 => ∃ (pr : Addr) (as : List Addr) (v1 v4 v8 v9 v10 v11 : Option V), i ≤ lvK ks ∧ Same H' H2 ∧ H2 p1 = some (.lst (ks.map V.int)) ∧ H2 pr = some (.lst ((natL (rowsW (lvK ks) (ranks ks sg) i)).map V.int)) ∧ pr ≠ p6 ∧ pr ≠ p7 ∧ H2 p6 = some (.lst (as.map V.ref)) ∧ as.length = i ∧ (∀ l x, as[l]? = some x → H2 x = some (.tup ((aheadT (bitsK ks sg l)).map V.int))) ∧ H2 p7 = some (.lst ((sgB ks sg i).map V.int)) ∧ σ' = [some (.ref a), v1, some (.ref p1), some (.ref pd), v4, some (.ref pr), some (.ref p6), some (.ref p7), v8, v9, v10, v11]) ⟨p2, [], v1, v4, none, none, none, none, Nat.zero_le _, s7, e1, er, nr6, nr7, e6, rfl, fun l x e => by simp at e, e7, rfl⟩ (fun l σ' H2 hlt ⟨pr, as, v1, v4, v8, v9, v10, v11, _, s, e1, er, nr6, nr7, e6, hal, has, e7, es⟩ => ?_) (fun σ' H2 ⟨pr, as, v1, v4, v8, v9, v10, v11, _, s, e1, er, nr6, nr7, e6, hal, has, e7, es⟩ => ?_)
  · subst es
    obtain ⟨w, hw⟩ : ∃ w, w = lvK ks - 1 - l := ⟨_, rfl⟩
    have hw' : hOf ks.length - 1 - l = w := by have : hOf ks.length = lvK ks := rfl; omega
    rw [hw']
    have hl2 : l < lvK ks := hlt
    have hrl : (rowsW (lvK ks) (ranks ks sg) l).length = sg.length := by rw [rowsW_len, ranks_len]
    walk_at "st"
    refine m_iLe (.of er) ?_
    refine comp_listV (xs := (natL (rowsW (lvK ks) (ranks ks sg) l)).map V.int) (ys := (bitsK ks sg l).map V.int) (.of er) (by rw [List.length_map, natL_len]; omega) (by rw [List.length_map, List.length_map, natL_len, bitsK_len, hrl]) (fun k x y Ha Q2 hx hy sk q2 => ?_) fun p8 H8 hp8 s8 e8 => ?_
    · obtain ⟨n, en, rfl⟩ := of_mapint hx
      obtain ⟨r, erk, rfl⟩ : ∃ r : Nat, (rowsW (lvK ks) (ranks ks sg) l)[k]? = some r ∧ (r : Int) = n := by
        unfold natL at en
        rw [List.getElem?_map] at en
        exact Option.map_eq_some_iff.mp en
      have ey : y = .int ((wb w r : Nat) : Int) := by
        have : ((bitsK ks sg l).map V.int)[k]? = some (.int ((wb w r : Nat) : Int)) := by
          unfold bitsK bitsW
          rw [List.getElem?_map, List.getElem?_map, erk, hw]; rfl
        rw [this] at hy
        exact (Option.some.inj hy).symm
      subst ey
      walk_at "st"
      rw [Int.toNat_natCast, wb_shr]
      exact q2 _ (Same.refl _)
    have hBl : (bitsK ks sg l).length = sg.length := bitsK_len _ _ _
    walk_at "st"
    refine ⟨p8, bitsK ks sg l, rfl, .of e8, by omega, fun z => by omega, fun _ nb => absurd (bitsK_bits ks sg l) nb, fun _ _ p9 t9 pa9 pb9 H9 hp9 ht9 hpa9 hpb9 s9 f1 f2 f3 f4 => ?_⟩
    have s89 := s8.trans s9
    walk_at "st"
    refine m_gTup (.of f1) rfl ?_
    walk_at "st"
    refine k_tyL (.of (s89.get e6)) ?_
    walk_at "st"
    refine k_ixT (.of f2) (x := .ref pa9) rfl ?_
    walk_at "st"
    refine k_app (s89.get e6) (by rw [List.length_map]; omega) ?_
    have npb : pb9 ≠ p6 := fun z => by rw [z, s8.get e6] at hpb9; cases hpb9
    have npa : pa9 ≠ p6 := fun z => by rw [z, s8.get e6] at hpa9; cases hpa9
    have npb7 : pb9 ≠ p7 := fun z => by rw [z, s8.get e7] at hpb9; cases hpb9
    have t9' : Same H' (upd H9 p6 (.lst (as.map V.ref ++ [.ref pa9]))) := (s.trans s89).mut hp6B ⟨_, s89.get e6⟩
    have er9 : (upd H9 p6 (.lst (as.map V.ref ++ [.ref pa9]))) pr = some (.lst ((natL (rowsW (lvK ks) (ranks ks sg) l)).map V.int)) := (upd_ne nr6).trans (s89.get er)
    have e19 : (upd H9 p6 (.lst (as.map V.ref ++ [.ref pa9]))) p1 = some (.lst (ks.map V.int)) := (upd_ne n16).trans (s89.get e1)
    have e79 : (upd H9 p6 (.lst (as.map V.ref ++ [.ref pa9]))) p7 = some (.lst ((sgB ks sg l).map V.int)) := (upd_ne n67.symm).trans (s89.get e7)
    have f49 : (upd H9 p6 (.lst (as.map V.ref ++ [.ref pa9]))) pb9 = some (.lst ((blks (bitsK ks sg l)).map V.int)) := (upd_ne npb).trans f4
    have e69 : (upd H9 p6 (.lst (as.map V.ref ++ [.ref pa9]))) p6 = some (.lst ((as ++ [pa9]).map V.ref)) := by rw [upd_same, List.map_append]; rfl
    have has9 : ∀ j x, (as ++ [pa9])[j]? = some x → (upd H9 p6 (.lst (as.map V.ref ++ [.ref pa9]))) x = some (.tup ((aheadT (bitsK ks sg j)).map V.int)) := fun j x e => by
      rcases Nat.lt_or_ge j as.length with z | z
      · rw [List.getElem?_append_left z] at e
        have := s89.get (has j x e)
        exact (upd_ne fun y => by rw [y, s89.get e6] at this; cases this).trans this
      · rw [List.getElem?_append_right z] at e
        have h1 := (List.getElem?_eq_some_iff.mp e).1
        rw [List.length_singleton] at h1
        obtain rfl : j = l := by omega
        rw [show j - as.length = 0 by omega] at e
        obtain rfl := Option.some.inj e
        exact (upd_ne npa).trans f3
    generalize upd H9 p6 (.lst (as.map V.ref ++ [.ref pa9])) = H10 at t9' er9 e19 e79 f49 e69 has9 ⊢
    walk_at "st"
    refine k_tyL (.of e79) ?_
    walk_at "st"
    have hbl := blks_len (bitsK ks sg l)
    have hsb := sgB_len ks sg l
    have heb : eachB sg ≤ 129 := by unfold eachB; omega
    have hmul : l * eachB sg ≤ 12 * 129 := Nat.mul_le_mul (by omega) heb
    refine k_extend e79 f49 (by rw [List.length_map, List.length_map]; omega) ?_
    have t10 : Same H' (upd H10 p7 (.lst ((sgB ks sg l).map V.int ++ (blks (bitsK ks sg l)).map V.int))) := t9'.mut hp7B ⟨_, e79⟩
    have er10 : (upd H10 p7 (.lst ((sgB ks sg l).map V.int ++ (blks (bitsK ks sg l)).map V.int))) pr = some (.lst ((natL (rowsW (lvK ks) (ranks ks sg) l)).map V.int)) := (upd_ne nr7).trans er9
    have e110 : (upd H10 p7 (.lst ((sgB ks sg l).map V.int ++ (blks (bitsK ks sg l)).map V.int))) p1 = some (.lst (ks.map V.int)) := (upd_ne n17).trans e19
    have e610 : (upd H10 p7 (.lst ((sgB ks sg l).map V.int ++ (blks (bitsK ks sg l)).map V.int))) p6 = some (.lst ((as ++ [pa9]).map V.ref)) := (upd_ne n67).trans e69
    have e710 : (upd H10 p7 (.lst ((sgB ks sg l).map V.int ++ (blks (bitsK ks sg l)).map V.int))) p7 = some (.lst ((sgB ks sg (l + 1)).map V.int)) := by rw [upd_same, ← List.map_append]; rfl
    have has10 : ∀ j x, (as ++ [pa9])[j]? = some x → (upd H10 p7 (.lst ((sgB ks sg l).map V.int ++ (blks (bitsK ks sg l)).map V.int))) x = some (.tup ((aheadT (bitsK ks sg j)).map V.int)) := fun j x e => by
      have := has9 j x e
      exact (upd_ne fun y => by rw [y, e79] at this; cases this).trans this
    generalize upd H10 p7 (.lst ((sgB ks sg l).map V.int ++ (blks (bitsK ks sg l)).map V.int)) = H11 at t10 er10 e110 e610 e710 has10 ⊢
    walk_at "st"
    refine m_iLe (.of er10) ?_
    refine comp_filterI (fun n => decide ((n / 2 ^ w) % 2 = ((0 : Nat) : Int))) (.of er10) (by rw [natL_len]; omega) (fun k n H1 Qb hk sk qb => ?_) (fun n H1 Q2 q2 => ?_) fun p13 H13 hp13 s13 e13 => ?_
    · walk_at "st"
      rw [Int.toNat_natCast]
      exact qb _ (Same.refl _)
    · walk_at "st"
      exact q2
    rw [natL_shr] at e13
    walk_at "st"
    refine m_iLe (.of (s13.get er10)) ?_
    refine comp_filterI (fun n => decide ((n / 2 ^ w) % 2 = ((1 : Nat) : Int))) (.of (s13.get er10)) (by rw [natL_len]; omega) (fun k n H1 Qb hk sk qb => ?_) (fun n H1 Q2 q2 => ?_) fun p14 H14 hp14 s14 e14 => ?_
    · walk_at "st"
      rw [Int.toNat_natCast]
      exact qb _ (Same.refl _)
    · walk_at "st"
      exact q2
    rw [natL_shr] at e14
    have hfl : ∀ b, ((rowsW (lvK ks) (ranks ks sg) l).filter fun r => decide (wb w r = b)).length ≤ 4096 := fun b => by have := List.length_filter_le (fun r => decide (wb w r = b)) (rowsW (lvK ks) (ranks ks sg) l); omega
    refine k_catI (s14.get e13) e14 (by rw [natL_len, natL_len]; have := hfl 0; have := hfl 1; omega) fun p15 H15 hp15 s15 e15 => ?_
    have s515 := s13.trans (s14.trans s15)
    refine ⟨p15, as ++ [pa9], _, _, _, _, _, _, hl2, t10.trans s515, s515.get e110, ?_, ?_, ?_, s515.get e610, by rw [List.length_append, hal]; rfl, fun i x e => s515.get (has10 i x e), s515.get e710, rfl⟩
    · rw [e15]
      have : natL ((rowsW (lvK ks) (ranks ks sg) l).filter fun r => decide (wb w r = 0)) ++ natL ((rowsW (lvK ks) (ranks ks sg) l).filter fun r => decide (wb w r = 1)) = natL (rowsW (lvK ks) (ranks ks sg) (l + 1)) := by
        unfold natL
        rw [← List.map_append, hw]; rfl
      rw [this]
    · exact (ne_of_none ((s13.trans s14).get e610) hp15).symm
    · exact (ne_of_none ((s13.trans s14).get e710) hp15).symm
  · subst es
    change as.length = lvK ks at hal
    change H2 p7 = some (.lst ((sgB ks sg (lvK ks)).map V.int)) at e7
    walk_at "st"
    refine k_lenL (.of (s.get hS)) ?_
    walk_at "st"
    rw [List.length_map]
    refine k_tupL (.of e1) fun pk hpk => ?_
    have s4 := same_new (o := .tup (ks.map V.int)) hpk
    have e4 := upd_same (H := H2) (a := pk) (o := .tup (ks.map V.int))
    replace e6 := s4.get e6
    replace e7 := s4.get e7
    replace has : ∀ i x, as[i]? = some x → (upd H2 pk (.tup (ks.map V.int))) x = some (.tup ((aheadT (bitsK ks sg i)).map V.int)) := fun i x e => s4.get (has i x e)
    generalize upd H2 pk (.tup (ks.map V.int)) = H4 at s4 e4 e6 e7 has ⊢
    walk_at "st"
    refine k_tupL (.of e6) fun pa hpa => ?_
    have s5 := s4.trans (same_new (o := .tup (as.map V.ref)) hpa)
    have f5 := upd_same (H := H4) (a := pa) (o := .tup (as.map V.ref))
    replace e4 := (same_new (o := .tup (as.map V.ref)) hpa).get e4
    replace e7 := (same_new (o := .tup (as.map V.ref)) hpa).get e7
    replace has : ∀ i x, as[i]? = some x → (upd H4 pa (.tup (as.map V.ref))) x = some (.tup ((aheadT (bitsK ks sg i)).map V.int)) := fun i x e => (same_new (o := .tup (as.map V.ref)) hpa).get (has i x e)
    generalize upd H4 pa (.tup (as.map V.ref)) = H5 at s5 f5 e4 e7 has ⊢
    walk_at "st"
    intro t ht
    have s6 := s5.trans (same_new (o := .tup [.int (sg.length : Int), .ref pk, .ref pa]) ht)
    have f6 := upd_same (H := H5) (a := t) (o := .tup [.int (sg.length : Int), .ref pk, .ref pa])
    replace e4 := (same_new (o := .tup [.int (sg.length : Int), .ref pk, .ref pa]) ht).get e4
    replace e7 := (same_new (o := .tup [.int (sg.length : Int), .ref pk, .ref pa]) ht).get e7
    replace f5 := (same_new (o := .tup [.int (sg.length : Int), .ref pk, .ref pa]) ht).get f5
    replace has : ∀ i x, as[i]? = some x → (upd H5 t (.tup [.int (sg.length : Int), .ref pk, .ref pa])) x = some (.tup ((aheadT (bitsK ks sg i)).map V.int)) := fun i x e => (same_new (o := .tup [.int (sg.length : Int), .ref pk, .ref pa]) ht).get (has i x e)
    generalize upd H5 t (.tup [.int (sg.length : Int), .ref pk, .ref pa]) = H6 at s6 f6 f5 e4 e7 has ⊢
    walk_at "st"
    intro p hp
    have s7 := same_new (o := .tup [.ref t, .ref p7]) hp
    have tt := s.trans (s6.trans s7)
    exact q ks p t pk pa p7 as _ hK ((s.trans s6).gone _ hp) hp7B tt upd_same (s7.get f6) (s7.get e4) (s7.get f5) hal (fun i x e => s7.get (has i x e)) (s7.get e7)

--#base
theorem srt_le {ks : List Int} (s : ks.Pairwise (· < ·)) {i j : Nat} {a b : Int} (h : i ≤ j) (ha : ks[i]? = some a) (hb : ks[j]? = some b) : a ≤ b := by
  obtain ⟨i1, rfl⟩ := List.getElem?_eq_some_iff.mp ha
  obtain ⟨j1, rfl⟩ := List.getElem?_eq_some_iff.mp hb
  rcases Nat.lt_or_ge i j with z | z
  · have := List.pairwise_iff_getElem.mp s i j i1 j1 z; omega
  · obtain rfl : i = j := by omega
    exact Int.le_refl _
theorem rk_eq {ks : List Int} {x : Int} {k : Nat} (hk : k ≤ ks.length) (h1 : ∀ i v, i < k → ks[i]? = some v → v < x) (h2 : ∀ i v, k ≤ i → ks[i]? = some v → x ≤ v) : rk ks x = k := by
  have h4 := List.countP_append (p := fun y : Int => decide (y < x)) (l₁ := ks.take k) (l₂ := ks.drop k)
  rw [List.take_append_drop] at h4
  have a : (ks.take k).countP (fun y => decide (y < x)) = k := by
    refine Eq.trans (List.countP_eq_length.mpr fun y hy => ?_) (show (ks.take k).length = k by rw [List.length_take]; omega)
    obtain ⟨j, hj⟩ := List.mem_iff_getElem?.mp hy
    rw [List.getElem?_take] at hj
    split at hj
    · exact decide_eq_true (h1 j y ‹_› hj)
    · cases hj
  have b : (ks.drop k).countP (fun y => decide (y < x)) = 0 := by
    refine List.countP_eq_zero.mpr fun y hy => ?_
    obtain ⟨j, hj⟩ := List.mem_iff_getElem?.mp hy
    rw [List.getElem?_drop] at hj
    have := h2 _ y (by omega) hj
    simp; omega
  unfold rk
  omega
/-- rank_of(kinds, sign) -/
def sp_rank_of (K : PySem.W.Frag) : Sp := fun vs H Q _ => ∃ (pk : Addr) (x : Int) (ks : List Int), vs = [.ref pk, .int x] ∧ SqT K H pk (ks.map V.int) ∧ ks.Pairwise (· < ·) ∧ Q (.int (rk ks x : Nat)) H
theorem len_rank_of (K : PySem.W.Frag) : ∀ vs H Q E, sp_rank_of K vs H Q E → vs.length = 2 := by
  rintro vs H Q E ⟨pk, x, ks, rfl, _⟩; rfl
def t_rank_of (K : PySem.W.Frag) : TS :=
  (tSeq (tAsg (tC (.int 0)) (gName 2))
  (tSeq (tAsg (tCB (rLen K) (tCons (tVar 0) tNil)) (gName 3))
  (tSeq (tWhile (tTest (tOp rLt (tVar 2) (tVar 3)))
  (tSeq (tAsg (tOp rDiv (tOp rPlus (tVar 2) (tVar 3)) (tC (.int 2))) (gName 4))
  (tIfS (tTest (tOp rLt (tOp (rIxT K) (tVar 0) (tVar 4)) (tVar 1)))
  (tAsg (tOp rPlus (tVar 4) (tC (.int 1))) (gName 2))
  (tAsg (tVar 4) (gName 3)))))
  (tRet (tVar 2)))))
abbrev n_rank_of : List Str := ["kinds", "sign", "low", "high", "middle"]

theorem rd_rank_of (K : PySem.W.Frag) (vs : List V) (H : Hp) (Q : VK) (E : XK) (h : sp_rank_of K vs H Q E) : t_rank_of K { nx := fun _ H' => Q .non H', rt := Q } (start n_rank_of vs) H := by
  obtain ⟨pk, x, ks, rfl, hA, hs, q⟩ := h
  unfold t_rank_of
  walk_at "st"
  refine k_lenT hA ?_
  walk_at "st"
  rw [List.length_map]
  refine loop_while (fun m σ H' => ∃ (lo hi : Nat) (y : Option V), m = hi - lo ∧ lo ≤ hi ∧ hi ≤ ks.length ∧ (∀ i v, i < lo → ks[i]? = some v → v < x) ∧ (∀ i v, hi ≤ i → ks[i]? = some v → x ≤ v) ∧ σ = [some (.ref pk), some (.int x), some (.int (lo : Int)), some (.int (hi : Int)), y] ∧ H' = H) ks.length ⟨0, ks.length, none, by omega, Nat.zero_le _, Nat.le_refl _, (fun i v z => by omega), (fun i v z e => by rw [List.getElem?_eq_none z] at e; cases e), rfl, rfl⟩ ?_
  rintro m σ H' ⟨lo, hi, y, rfl, h2, h3, h4, h5, rfl, rfl⟩
  walk_at "st"
  walk_at "if" <;> intro c
  · walk_at "st"
    rw [show ((lo : Int) + (hi : Int)) / 2 = (((lo + hi) / 2 : Nat) : Int) by omega]
    have em := List.getElem?_eq_getElem (show (lo + hi) / 2 < ks.length by omega)
    refine k_ixT hA (at_nat (mapint em)) ?_
    walk_at "st"
    walk_at "if" <;> intro d
    · walk_at "st"
      exact ⟨hi - ((lo + hi) / 2 + 1), by omega, (lo + hi) / 2 + 1, hi, _, rfl, by omega, h3, fun i v z e => by have := srt_le hs (show i ≤ (lo + hi) / 2 by omega) e em; omega, h5, rfl, rfl⟩
    · walk_at "st"
      exact ⟨(lo + hi) / 2 - lo, by omega, lo, (lo + hi) / 2, _, rfl, by omega, by omega, h4, fun i v z e => by have := srt_le hs z em e; omega, rfl, rfl⟩
  · walk_at "st"
    obtain rfl : lo = hi := by omega
    rw [rk_eq h3 h4 h5] at q
    exact q

/-- bit_of(tables, rank, level) -/
def sp_bit_of (K : PySem.W.Frag) : Sp := fun vs H Q _ => ∃ (t pa : Addr) (ts as : List V) (r l : Nat), vs = [.ref t, .int (r : Int), .int (l : Int)] ∧ SqT K H t ts ∧ ts[2]? = some (.ref pa) ∧ SqT K H pa as ∧ l < as.length ∧ Q (.int ((wb (as.length - 1 - l) r : Nat) : Int)) H
theorem len_bit_of (K : PySem.W.Frag) : ∀ vs H Q E, sp_bit_of K vs H Q E → vs.length = 3 := by
  rintro vs H Q E ⟨t, pa, ts, as, r, l, rfl, _⟩; rfl
def t_bit_of (K : PySem.W.Frag) : TS :=
  (tRet (tOp rAnd1 (tOp rShr (tVar 1) (tOp rMinus (tOp rMinus (tCB (rLen K) (tCons (tOp (rIxT K) (tVar 0) (tC (.int 2))) tNil)) (tC (.int 1))) (tVar 2))) (tC (.int 1))))
abbrev n_bit_of : List Str := ["tables", "rank", "level"]

theorem rd_bit_of (K : PySem.W.Frag) (vs : List V) (H : Hp) (Q : VK) (E : XK) (h : sp_bit_of K vs H Q E) : t_bit_of K { nx := fun _ H' => Q .non H', rt := Q } (start n_bit_of vs) H := by
  obtain ⟨t, pa, ts, as, r, l, rfl, hT, h2, hA, hl, q⟩ := h
  unfold t_bit_of
  walk_at "st"
  refine k_ixT hT (at_nat (i := 2) h2) ?_
  walk_at "st"
  refine k_lenT hA ?_
  walk_at "st"
  have e1 : ((as.length : Int) - 1 - (l : Int)).toNat = as.length - 1 - l := by omega
  have e2 : (r : Int) / 2 ^ (as.length - 1 - l) % 2 = ((wb (as.length - 1 - l) r : Nat) : Int) := by unfold wb; push_cast; rfl
  rw [e1]
  rw [e2]
  exact q

/-- what was asked for, of a few blocks -/
structure Few (ks sg : List Int) (m : Nat) (L2 : List Nat) : Prop where
  few : ∃ U : List Nat, U.length ≤ m ∧ ∀ j ∈ L2, j ∈ U
  len : L2.length ≤ 2 * m
  in_ : ∀ j ∈ L2, j < lvK ks * eachB sg
theorem Few.nil (ks sg : List Int) : Few ks sg 0 [] := ⟨⟨[], by simp, by simp⟩, by simp, by simp⟩
theorem Few.add {ks sg : List Int} {m m2 : Nat} {L2 L3 : List Nat} (a : Few ks sg m L2) (b : Few ks sg m2 L3) : Few ks sg (m + m2) (L2 ++ L3) := by
  obtain ⟨U, u1, u2⟩ := a.few
  obtain ⟨W, w1, w2⟩ := b.few
  refine ⟨⟨U ++ W, by rw [List.length_append]; omega, fun j hj => ?_⟩, by rw [List.length_append]; have := a.len; have := b.len; omega, fun j hj => ?_⟩
  · rcases List.mem_append.mp hj with z | z
    · exact List.mem_append_left _ (u2 j z)
    · exact List.mem_append_right _ (w2 j z)
  · rcases List.mem_append.mp hj with z | z
    · exact a.in_ j z
    · exact b.in_ j z
theorem Few.le {ks sg : List Int} {m m2 : Nat} {L2 : List Nat} (a : Few ks sg m L2) (h : m ≤ m2) : Few ks sg m2 L2 :=
  ⟨let ⟨U, u1, u2⟩ := a.few; ⟨U, by omega, u2⟩, by have := a.len; omega, a.in_⟩
/-- one block of a level -/
theorem Few.one {ks sg : List Int} {l k : Nat} {L3 : List Nat} (hl : l < lvK ks) (h2 : L3.length ≤ 2) (h : ∀ j ∈ L3, j = k ∧ k < eachB sg) : Few ks sg 1 (L3.map (l * eachB sg + ·)) := by
  refine ⟨⟨[l * eachB sg + k], by simp, fun j hj => ?_⟩, by rw [List.length_map]; exact h2, fun j hj => ?_⟩
  · obtain ⟨i, hi, rfl⟩ := List.mem_map.mp hj
    rw [(h i hi).1]; simp
  · obtain ⟨i, hi, rfl⟩ := List.mem_map.mp hj
    obtain ⟨rfl, h4⟩ := h i hi
    have hle : l * eachB sg + eachB sg ≤ lvK ks * eachB sg := by rw [← Nat.succ_mul]; exact Nat.mul_le_mul_right _ hl
    omega
theorem bitsK_get {ks sg : List Int} {l i r : Nat} (h : (rowsW (lvK ks) (ranks ks sg) l)[i]? = some r) : (bitsK ks sg l).getD i 0 = ((wb (lvK ks - 1 - l) r : Nat) : Int) := by
  unfold bitsK bitsW
  rw [List.getD_eq_getElem?_getD, List.getElem?_map, h]; rfl

/-- halves(tables, look, level, start, stop) -/
def sp_halves (K : PySem.W.Frag) (CL : CLs) : Sp := fun vs H Q _ => ∃ (t g : Addr) (l s e : Nat) (ks sg : List Int) (q : Option Addr) (D : Addr → Prop) (I : List Nat → Hp → Prop) (L : List Nat), vs = [.ref t, .ref g, .int (l : Int), .int (s : Int), .int (e : Int)] ∧ SgAt K CL H t g ks sg q D I ∧ I L H ∧ L.length < 8990 ∧ l < lvK ks ∧ s ≤ e ∧ e ≤ sg.length ∧ NdefX.TabN H (tabP K "level_row") nmL ∧
  ∀ p p1 p2 H' L2, Few ks sg 2 L2 → I (L ++ L2) H' → SameX q H H' → H' p = some (.tup [.ref p1, .ref p2]) → H' p1 = some (.tup [.int (nW (lvK ks) (ranks ks sg) l s : Nat), .int (nW (lvK ks) (ranks ks sg) l e : Nat)]) → H' p2 = some (.tup [.int ((zW (lvK ks) (ranks ks sg) l + uW (lvK ks) (ranks ks sg) l s : Nat) : Int), .int ((zW (lvK ks) (ranks ks sg) l + uW (lvK ks) (ranks ks sg) l e : Nat) : Int)]) → Q (.ref p) H'
theorem len_halves (K : PySem.W.Frag) (CL : CLs) : ∀ vs H Q E, sp_halves K CL vs H Q E → vs.length = 5 := by
  rintro vs H Q E ⟨t, g, x, _, _, _, _, _, _, _, _, rfl, _⟩; rfl
def t_halves (K : PySem.W.Frag) (CL : CLs) (E : XK) : TS :=
  (tSeq (tAsg (tCall (sp_level_row K CL) [] E0 (tCons (tVar 0) (tCons (tVar 1) (tCons (tVar 2) tNil)))) (gTup K 2 (gCons (gName 5) (gCons (gName 6) gNil))))
  (tSeq (tAsg (tCall (sp_noughts_at K CL) [] E (tCons (tVar 5) (tCons (tVar 6) (tCons (tVar 3) tNil)))) (gName 7))
  (tSeq (tAsg (tCall (sp_noughts_at K CL) [] E (tCons (tVar 5) (tCons (tVar 6) (tCons (tVar 4) tNil)))) (gName 8))
  (tSeq (tAsg (tOp rMinus (tOp (rIxT K) (tVar 5) (tC (.int 0))) (tOp (rIxT K) (tOp (rIxT K) (tVar 5) (tC (.int 1))) (tUn rNeg (tC (.int 1))))) (gName 9))
  (tRet (tTup (tCons (tTup (tCons (tVar 7) (tCons (tVar 8) tNil))) (tCons (tTup (tCons (tOp rMinus (tOp rPlus (tVar 9) (tVar 3)) (tVar 7)) (tCons (tOp rMinus (tOp rPlus (tVar 9) (tVar 4)) (tVar 8)) tNil))) tNil))))))))
abbrev n_halves : List Str := ["tables", "look", "level", "start", "stop", "row", "sight", "left", "right", "middle"]

theorem few_nought {ks sg : List Int} {I : List Nat → Hp → Prop} {B : Hp} {L M L' : List Nat} {l k : Nat} {H : Hp} (hl : l < lvK ks) (i : OffI I B (l * eachB sg) L M H) (hM : M = L ++ L') : I (L ++ L'.map (l * eachB sg + ·)) H := by
  subst hM; exact i.out
theorem rd_halves (K : PySem.W.Frag) (CL : CLs) (vs : List V) (H : Hp) (Q : VK) (E : XK) (h : sp_halves K CL vs H Q E) : t_halves K CL E { nx := fun _ H' => Q .non H', rt := Q } (start n_halves vs) H := by
  obtain ⟨t, g, l, s, e, ks, sg, q, D, I, L, rfl, S, i0, hL, hl, hse, he, hTb, q1⟩ := h
  obtain ⟨pk, pa, as, h1, h2, h3, h4, h5⟩ := S.tab
  have hlv := lvK_le S.isk S.len
  have her : e ≤ (ranks ks sg).length := by rw [ranks_len]; exact he
  unfold t_halves
  walk_at "st"
  refine call_level S i0 hl hTb fun p rr f H2 B hp s2 e2 RA i2 => ?_
  walk_at "st"
  refine m_gTup (.of e2) rfl ?_
  walk_at "st"
  refine ⟨rr, f, (s : Int), _, q, _, _, rfl, RA, i2, by omega, fun z => by rw [bitsK_len] at z; omega, fun i' ei' _ H3 L3 hL3 i3 X3 => ?_⟩
  obtain rfl : s = i' := by omega
  rw [show (s : Int) - sumTo (bitsK ks sg l) s = (nW (lvK ks) (ranks ks sg) l s : Nat) from noughtW (by omega)]
  walk_at "st"
  have RA3 := RA.moveX X3
  obtain ⟨m3, rfl, hF3⟩ : ∃ m : List Nat, L3 = L ++ m ∧ Few ks sg 1 (m.map (l * eachB sg + ·)) := by
    rcases hL3 with rfl | ⟨rfl, hb⟩
    · exact ⟨[], by simp, Few.one (k := 0) hl (by simp) fun j hj => by simp at hj⟩
    · exact ⟨_, rfl, Few.one (k := s / 32) hl (by simp) fun j hj => by rw [bitsK_blks] at hb; rw [List.mem_singleton.mp hj]; exact ⟨rfl, hb⟩⟩
  have hm3 := hF3.len
  rw [List.length_map] at hm3
  refine ⟨rr, f, (e : Int), _, q, _, _, rfl, RA3, i3, by rw [List.length_append]; omega, fun z => by rw [bitsK_len] at z; omega, fun i' ei' _ H4 L4 hL4 i4 X4 => ?_⟩
  obtain rfl : e = i' := by omega
  rw [show (e : Int) - sumTo (bitsK ks sg l) e = (nW (lvK ks) (ranks ks sg) l e : Nat) from noughtW her]
  walk_at "st"
  obtain ⟨m4, rfl, hF4⟩ : ∃ m : List Nat, L4 = L ++ m3 ++ m ∧ Few ks sg 1 (m.map (l * eachB sg + ·)) := by
    rcases hL4 with rfl | ⟨rfl, hb⟩
    · exact ⟨[], by simp, Few.one (k := 0) hl (by simp) fun j hj => by simp at hj⟩
    · exact ⟨_, rfl, Few.one (k := e / 32) hl (by simp) fun j hj => by rw [bitsK_blks] at hb; rw [List.mem_singleton.mp hj]; exact ⟨rfl, hb⟩⟩
  rw [List.append_assoc] at i4
  have i5 := i4.out
  rw [List.map_append] at i5
  have X24 := (s2.toX (S.look.isq i0)).trans (X3.trans X4)
  have RA4 := RA3.moveX X4
  obtain ⟨pl, r1, r2⟩ := RA4.tab
  refine k_ixT r1 (x := .int ((bitsK ks sg l).length : Int)) rfl ?_
  walk_at "st"
  refine k_ixT r1 (x := .ref pl) rfl ?_
  walk_at "st"
  refine k_ixT r2 (ahead_last _) ?_
  walk_at "st"
  have ez := zK (ks := ks) (sg := sg) l
  have es := nuW (L := lvK ks) (l := l) (show s ≤ (ranks ks sg).length by omega)
  have ee := nuW (L := lvK ks) (l := l) her
  rw [bitsK_len, ez]
  intro p1 hp1
  walk_at "st"
  rw [show (zW (lvK ks) (ranks ks sg) l : Int) + (s : Int) - (nW (lvK ks) (ranks ks sg) l s : Nat) = ((zW (lvK ks) (ranks ks sg) l + uW (lvK ks) (ranks ks sg) l s : Nat) : Int) by omega]
  rw [show (zW (lvK ks) (ranks ks sg) l : Int) + (e : Int) - (nW (lvK ks) (ranks ks sg) l e : Nat) = ((zW (lvK ks) (ranks ks sg) l + uW (lvK ks) (ranks ks sg) l e : Nat) : Int) by omega]
  intro p2 hp2
  walk_at "st"
  intro p3 hp3
  have s5 := same_new (o := .tup [.int (nW (lvK ks) (ranks ks sg) l s : Nat), .int (nW (lvK ks) (ranks ks sg) l e : Nat)]) hp1
  have s6 := same_new (o := .tup [.int ((zW (lvK ks) (ranks ks sg) l + uW (lvK ks) (ranks ks sg) l s : Nat) : Int), .int ((zW (lvK ks) (ranks ks sg) l + uW (lvK ks) (ranks ks sg) l e : Nat) : Int)]) hp2
  have s7 := same_new (o := .tup [.ref p1, .ref p2]) hp3
  have st := s5.trans (s6.trans s7)
  refine q1 p3 p1 p2 _ _ (hF3.add hF4) (S.look.ext i5 st) (X24.trans (st.toX X24.isl')) upd_same ((s6.trans s7).get upd_same) (s7.get upd_same)

/-- the bit at a place of a row, asked by bit_at -/
theorem call_bitR {K : PySem.W.Frag} {CL : CLs} {H : Hp} {Q : VK} {E : XK} {t g : Addr} {bs : List Int} {q : Option Addr} {I : List Nat → Hp → Prop} {L : List Nat} {x : Int} {k : Nat} (ek : x = (k : Int)) (R : RowAt K CL H t g bs q I) (hI : I L H) (hL : L.length < 8999) (hk : k < bs.length)
    (q1 : ∀ H', I (L ++ [k / 32]) H' → SameX q H H' → k / 32 < (blks bs).length → Q (.int (bs.getD k 0)) H') : sp_bit_at K CL [.ref t, .ref g, .int x] H Q E := by
  subst ek
  have hbl := blks_len bs
  obtain ⟨pa, h1, h2⟩ := R.tab
  refine ⟨t, g, _, bs.length, _, _, _, q, I, L, rfl, h1, R.look, hI, by omega, fun z => by omega, fun k' ek' hk' => ?_⟩
  obtain rfl : k = k' := by omega
  have hj : k / 32 < (blks bs).length := by omega
  refine ⟨hj, fun H1 i1 X1 => ?_⟩
  have eb : bit ((blks bs).getD (k / 32) 0) (k % 32) = bs.getD k 0 := by
    rw [bit_blks R.bits (blks_getD (by omega)) (by omega), show 32 * (k / 32) + k % 32 = k by omega]
  rw [eb]
  exact q1 H1 i1 X1 hj
/-- sign_at(tables, look, at) -/
def sp_sign_at (K : PySem.W.Frag) (CL : CLs) : Sp := fun vs H Q E => ∃ (t g : Addr) (x : Int) (ks sg : List Int) (q : Option Addr) (D : Addr → Prop) (I : List Nat → Hp → Prop) (L : List Nat), vs = [.ref t, .ref g, .int x] ∧ SgAt K CL H t g ks sg q D I ∧ I L H ∧ L.length < 900 ∧ NdefX.TabN H (tabP K "level_row") nmL ∧
  ((x < 0 ∨ (sg.length : Int) ≤ x) → E (.ref (He.ga K "NoPlace")) none H) ∧
  (∀ k : Nat, x = (k : Int) → k < sg.length → ∀ H' L2, Few ks sg (lvK ks) L2 → I (L ++ L2) H' → SameX q H H' → Q (.int (sg.getD k 0)) H')
theorem len_sign_at (K : PySem.W.Frag) (CL : CLs) : ∀ vs H Q E, sp_sign_at K CL vs H Q E → vs.length = 3 := by
  rintro vs H Q E ⟨t, g, x, _, _, _, _, _, _, rfl, _⟩; rfl
def t_sign_at (K : PySem.W.Frag) (CL : CLs) (E : XK) : TS :=
  (tSeq (tAsg (tVar 0) (gTup K 3 (gCons (gName 3) (gCons (gName 4) (gCons (gName 5) gNil)))))
  (tSeq (tIfS (tOr (tTest (tOp rLt (tVar 2) (tC (.int 0)))) (tTest (tOp rGeI (tVar 2) (tVar 3))))
  (tRz (fun cls d _ H => E cls d H) (He.ga K "NoPlace"))
  tNext)
  (tSeq (tAsg (tC (.int 0)) (gName 6))
  (tSeq (tFor (iRng1 (tCons (tCB (rLen K) (tCons (tVar 5) tNil)) tNil)) (gName 7)
  (tSeq (tAsg (tCall (sp_level_row K CL) [] E0 (tCons (tVar 0) (tCons (tVar 1) (tCons (tVar 7) tNil)))) (gTup K 2 (gCons (gName 8) (gCons (gName 9) gNil))))
  (tSeq (tAsg (tCall (sp_noughts_at K CL) [] E (tCons (tVar 8) (tCons (tVar 9) (tCons (tVar 2) tNil)))) (gName 10))
  (tSeq (tAug 6 (tVar 6) (ipI fun i j => i + j))
  (tIfS (tTest (tOp rEq (tCall (sp_bit_at K CL) [] E (tCons (tVar 8) (tCons (tVar 9) (tCons (tVar 2) tNil)))) (tC (.int 1))))
  (tSeq (tAug 6 (tC (.int 1)) (ipI fun i j => i + j))
  (tAug 2 (tOp rMinus (tOp rMinus (tVar 3) (tOp (rIxT K) (tOp (rIxT K) (tVar 5) (tVar 7)) (tUn rNeg (tC (.int 1))))) (tVar 10)) (ipI fun i j => i + j)))
  (tAsg (tVar 10) (gName 2)))))))
  (tRet (tOp (rIxT K) (tVar 4) (tVar 6)))))))
abbrev n_sign_at : List Str := ["tables", "look", "at", "many", "kinds", "aheads", "rank", "level", "row", "sight", "noughts"]

theorem rd_sign_at (K : PySem.W.Frag) (CL : CLs) (vs : List V) (H : Hp) (Q : VK) (E : XK) (h : sp_sign_at K CL vs H Q E) : t_sign_at K CL E { nx := fun _ H' => Q .non H', rt := Q } (start n_sign_at vs) H := by
  obtain ⟨t, g, x, ks, sg, q, D, I, L, rfl, S, i0, hL, hTb, q1, q2⟩ := h
  obtain ⟨pk, pa, as, h1, h2, h3, h4, h5⟩ := S.tab
  have hlv := lvK_le S.isk S.len
  unfold t_sign_at
  walk_at "st"
  refine m_gTup h1 rfl ?_
  walk_at "st"
  walk_at "if" <;> intro c1
  · walk_at "st"
    exact q1 (.inl c1)
  walk_at "st"
  walk_at "if" <;> intro c2
  · walk_at "st"
    exact q1 (.inr c2)
  obtain ⟨k, rfl⟩ := Int.eq_ofNat_of_zero_le (show 0 ≤ x by omega)
  have hk : k < sg.length := by omega
  have er : (ranks ks sg)[k]? = some (rk ks (sg.getD k 0)) := by
    unfold ranks
    rw [List.getElem?_map, List.getD_eq_getElem?_getD, List.getElem?_eq_getElem hk]; rfl
  have hmem : sg.getD k 0 ∈ ks := (S.isk.mem _).mpr (by rw [List.getD_eq_getElem?_getD, List.getElem?_eq_getElem hk]; exact List.getElem_mem hk)
  obtain ⟨hr1, hr2⟩ := rank_lt S.isk (List.mem_of_getElem? er)
  have hget := get_rk S.isk.srt hmem
  generalize rk ks (sg.getD k 0) = r at er hr1 hr2 hget
  walk_at "st"
  refine k_lenT h3 ?_
  walk_at "st"
  rw [List.length_map, h4]
  refine loop_range0 (fun l σ' H' => ∃ (i : Nat) (L2 : List Nat) (v7 v8 v9 v10 : Option V), l ≤ lvK ks ∧ (rowsW (lvK ks) (ranks ks sg) l)[i]? = some r ∧ Few ks sg l L2 ∧ I (L ++ L2) H' ∧ SameX q H H' ∧ σ' = [some (.ref t), some (.ref g), some (.int (i : Int)), some (.int (sg.length : Int)), some (.ref pk), some (.ref pa), some (.int (pre (lvK ks) l r : Nat)), v7, v8, v9, v10]) ⟨k, [], none, none, none, none, Nat.zero_le _, er, Few.nil _ _, by rw [List.append_nil]; exact i0, (Same.refl H).toX (S.look.isq i0), by rw [pre_zero hr2]; rfl⟩ (fun l σ' H' hl ⟨i, L2, v7, v8, v9, v10, _, ei, hF, iL, X, es⟩ => ?_) (fun σ' H' ⟨i, L2, v7, v8, v9, v10, _, ei, hF, iL, X, es⟩ => ?_)
  · subst es
    have hil := (List.getElem?_eq_some_iff.mp ei).1
    rw [rowsW_len, ranks_len] at hil
    have hir : i ≤ (ranks ks sg).length := by rw [ranks_len]; omega
    have hlen := hF.len
    walk_at "st"
    refine call_level (S.moveX X) iL hl (X.tabs _ hTb) fun p rr f H2 B hp s2 e2 RA i2 => ?_
    walk_at "st"
    refine m_gTup (.of e2) rfl ?_
    walk_at "st"
    refine ⟨rr, f, (i : Int), _, q, _, _, rfl, RA, i2, by rw [List.length_append]; omega, fun z => by rw [bitsK_len] at z; omega, fun i' ei' _ H3 L' hL' i3 X3 => ?_⟩
    obtain rfl : i = i' := by omega
    rw [show (i : Int) - sumTo (bitsK ks sg l) i = (nW (lvK ks) (ranks ks sg) l i : Nat) from noughtW hir]
    walk_at "st"
    have RA3 := RA.moveX X3
    have hl3 : L'.length < 8999 := by
      rcases hL' with rfl | ⟨rfl, _⟩
      · rw [List.length_append]; omega
      · rw [List.length_append, List.length_append, List.length_singleton]; omega
    refine call_bitR rfl RA3 i3 hl3 (by rw [bitsK_len]; exact hil) fun H4 i4 X4 hj => ?_
    rw [bitsK_get ei]
    rw [bitsK_blks] at hj
    have X24 := X.trans ((s2.toX X.isl').trans (X3.trans X4))
    obtain ⟨L3, hL3, i5⟩ : ∃ L3 : List Nat, Few ks sg 1 L3 ∧ I (L ++ (L2 ++ L3)) H4 := by
      rcases hL' with rfl | ⟨rfl, _⟩
      · refine ⟨[i / 32].map (l * eachB sg + ·), Few.one (k := i / 32) hl (by simp) fun j hj' => ?_, ?_⟩
        · rw [List.mem_singleton.mp hj']; exact ⟨rfl, hj⟩
        · rw [← List.append_assoc]; exact i4.out
      · refine ⟨[i / 32, i / 32].map (l * eachB sg + ·), Few.one (k := i / 32) hl (by simp) fun j hj' => ?_, ?_⟩
        · simp only [List.mem_cons, List.not_mem_nil, or_false, or_self] at hj'
          rw [hj']; exact ⟨rfl, hj⟩
        · rw [List.append_assoc] at i4
          rw [← List.append_assoc]; exact i4.out
    have hF2 := hF.add hL3
    have pn := pre_next (r := r) hl
    walk_at "st"
    rcases wb_le (lvK ks - 1 - l) r with z | z
    · rw [z]
      refine k_decF (by decide) ?_
      walk_at "st"
      refine ⟨_, L2 ++ L3, some (.int (l : Int)), some (.ref rr), some (.ref f), some (.int (nW (lvK ks) (ranks ks sg) l i : Nat)), hl, item_n ei z, hF2, i5, X24, ?_⟩
      rw [pn, z]
      have : ((2 * pre (lvK ks) l r + 0 : Nat) : Int) = (pre (lvK ks) l r : Int) + (pre (lvK ks) l r : Int) := by omega
      rw [this]; rfl
    · rw [z]
      refine k_decT (by decide) ?_
      walk_at "st"
      have hS4 := S.moveX X24
      refine k_ixT (X24.seqT h3) (x := .ref (as[l]'(by omega))) (at_nat (by rw [List.getElem?_map, List.getElem?_eq_getElem (show l < as.length by omega)]; rfl)) ?_
      walk_at "st"
      refine k_ixT (X24.seqT (h5 l _ (List.getElem?_eq_getElem (by omega)))) (ahead_last _) ?_
      walk_at "st"
      refine ⟨_, L2 ++ L3, some (.int (l : Int)), some (.ref rr), some (.ref f), some (.int (nW (lvK ks) (ranks ks sg) l i : Nat)), hl, item_u ei z, hF2, i5, X24, ?_⟩
      rw [pn, z]
      have e1 : ((2 * pre (lvK ks) l r + 1 : Nat) : Int) = (pre (lvK ks) l r : Int) + (pre (lvK ks) l r : Int) + 1 := by omega
      have e2 := zK (ks := ks) (sg := sg) l
      have e3 := nuW (L := lvK ks) (l := l) hir
      have e4 : ((zW (lvK ks) (ranks ks sg) l + uW (lvK ks) (ranks ks sg) l i : Nat) : Int) = (i : Int) + ((sg.length : Int) - (bitsK ks sg l).sum - (nW (lvK ks) (ranks ks sg) l i : Nat)) := by omega
      rw [e1, e4]; rfl
  subst es
  walk_at "st"
  rw [pre_end]
  refine k_ixT (X.seqT h2) (at_nat (mapint hget)) ?_
  exact q2 k rfl hk H' L2 hF iL X

/-! rows halved: back from level to level -/
abbrev eqr (r : Nat) : Nat → Bool := fun x => decide (x = r)
theorem nW_zero (L : Nat) (row : List Nat) (l : Nat) : nW L row l 0 = 0 := by unfold nW cp; rw [List.take_zero]; rfl
theorem uW_zero (L : Nat) (row : List Nat) (l : Nat) : uW L row l 0 = 0 := by unfold uW cp; rw [List.take_zero]; rfl
theorem seg_zero {α : Type} (xs : List α) (e : Nat) : seg xs 0 e = xs.take e := by unfold seg; rw [List.drop_zero]
theorem filter_and {r w b : Nat} (h : wb w r = b) (xs : List Nat) : (xs.filter fun x => decide (wb w x = b)).filter (eqr r) = xs.filter (eqr r) := by
  rw [List.filter_filter]
  refine List.filter_congr fun x _ => ?_
  show (decide (x = r) && decide (wb w x = b)) = decide (x = r)
  by_cases z : x = r
  · subst z; rw [decide_eq_true h, Bool.and_true]
  · rw [decide_eq_false z]; rfl
theorem filter_nor {r w b : Nat} (h : wb w r ≠ b) (xs : List Nat) : (xs.filter fun x => decide (wb w x = b)).filter (eqr r) = [] := by
  refine List.filter_eq_nil_iff.mpr fun x hx => ?_
  obtain ⟨_, h2⟩ := List.mem_filter.mp hx
  simp only [decide_eq_true_eq]
  rintro rfl
  exact h (by simpa using h2)
/-- so many of a number ahead, at the next level -/
theorem cnt_n {L : Nat} {row : List Nat} {l k r : Nat} (hk : k ≤ row.length) (h : wb (L - 1 - l) r = 0) : cp (eqr r) (rowsW L row (l + 1)) (nW L row l k) = cp (eqr r) (rowsW L row l) k := by
  have e := seg_n (L := L) (l := l) (Nat.zero_le k) hk
  rw [seg_zero, nW_zero, seg_zero] at e
  unfold cp
  rw [← e, filter_and h]
theorem take_z {L : Nat} {row : List Nat} {l : Nat} : (rowsW L row (l + 1)).take (zW L row l) = (rowsW L row l).filter (p0 (L - 1 - l)) := by
  show (partW _ _).take _ = _
  unfold partW
  rw [← zW_len, List.take_left]
theorem cnt_u {L : Nat} {row : List Nat} {l k r : Nat} (h : wb (L - 1 - l) r = 1) : cp (eqr r) (rowsW L row (l + 1)) (zW L row l + uW L row l k) = cp (eqr r) (rowsW L row l) k := by
  have e := seg_u (L := L) (row := row) (l := l) (Nat.zero_le k)
  rw [seg_zero, uW_zero] at e
  simp only [Nat.add_zero] at e
  unfold cp
  rw [take_seg _ (Nat.le_add_right (zW L row l) (uW L row l k)), take_z, List.filter_append, filter_nor (by omega), ← e, filter_and h, List.nil_append]
/-- which half a place is of -/
theorem half_of {L : Nat} {row : List Nat} {l x r : Nat} (h : (rowsW L row (l + 1))[x]? = some r) : (wb (L - 1 - l) r = 0 ∧ x < zW L row l) ∨ (wb (L - 1 - l) r = 1 ∧ zW L row l ≤ x ∧ x < row.length) := by
  have hl := (List.getElem?_eq_some_iff.mp h).1
  rw [rowsW_len] at hl
  change (partW (L - 1 - l) (rowsW L row l))[x]? = some r at h
  unfold partW at h
  rcases Nat.lt_or_ge x (zW L row l) with z | z
  · rw [List.getElem?_append_left (by rw [zW_len]; exact z)] at h
    have := (List.mem_filter.mp (List.mem_of_getElem? h)).2
    exact .inl ⟨by simpa using this, z⟩
  · rw [List.getElem?_append_right (by rw [zW_len]; exact z)] at h
    have := (List.mem_filter.mp (List.mem_of_getElem? h)).2
    exact .inr ⟨by simpa using this, z, hl⟩
/-- a test's so-manieth -/
theorem filter_at {α : Type} {p : α → Bool} {xs : List α} {i : Nat} {v : α} (h : xs[i]? = some v) (hp : p v = true) : (xs.filter p)[cp p xs i]? = some v := by
  have hs : cp p xs (i + 1) = cp p xs i + 1 := by unfold cp; rw [List.take_add_one, h]; simp [hp]
  have e : (xs.filter p).take (cp p xs (i + 1)) = (xs.take i).filter p ++ [v] := by
    rw [← filter_take, List.take_add_one, h, List.filter_append]; simp [hp]
  have e2 : ((xs.filter p).take (cp p xs (i + 1)))[cp p xs i]? = some v := by
    rw [e]; unfold cp; rw [List.getElem?_append_right (Nat.le_refl _), Nat.sub_self]; rfl
  rw [List.getElem?_take] at e2
  split at e2
  · exact e2
  · cases e2

/-- behind_levels(tables, look, rank, start, stop) -/
def sp_behind_levels (K : PySem.W.Frag) (CL : CLs) : Sp := fun vs H Q _ => ∃ (t g : Addr) (r s e : Nat) (ks sg : List Int) (q : Option Addr) (D : Addr → Prop) (I : List Nat → Hp → Prop) (L : List Nat), vs = [.ref t, .ref g, .int (r : Int), .int (s : Int), .int (e : Int)] ∧ SgAt K CL H t g ks sg q D I ∧ I L H ∧ L.length < 900 ∧ s ≤ e ∧ e ≤ sg.length ∧ r < 2 ^ lvK ks ∧ NdefX.TabN H (tabP K "level_row") nmL ∧
  ∀ p (s' e' : Nat) H' L2, Few ks sg (2 * lvK ks) L2 → I (L ++ L2) H' → SameX q H H' → H' p = some (.tup [.int (s' : Int), .int (e' : Int)]) → s' ≤ e' → e' ≤ sg.length → seg (rowsW (lvK ks) (ranks ks sg) (lvK ks)) s' e' = (seg (ranks ks sg) s e).filter (fun x => decide (x = r)) → cp (eqr r) (rowsW (lvK ks) (ranks ks sg) (lvK ks)) s' = cp (eqr r) (ranks ks sg) s → Q (.ref p) H'
theorem len_behind_levels (K : PySem.W.Frag) (CL : CLs) : ∀ vs H Q E, sp_behind_levels K CL vs H Q E → vs.length = 5 := by
  rintro vs H Q E ⟨t, g, x, _, _, _, _, _, _, _, _, rfl, _⟩; rfl
def t_behind_levels (K : PySem.W.Frag) (CL : CLs) (E : XK) : TS :=
  (tSeq (tFor (iRng1 (tCons (tCB (rLen K) (tCons (tOp (rIxT K) (tVar 0) (tC (.int 2))) tNil)) tNil)) (gName 5)
  (tAsg (tOp (rIxT K) (tCall (sp_halves K CL) [] E (tCons (tVar 0) (tCons (tVar 1) (tCons (tVar 5) (tCons (tVar 3) (tCons (tVar 4) tNil)))))) (tCall (sp_bit_of K) [] E0 (tCons (tVar 0) (tCons (tVar 2) (tCons (tVar 5) tNil))))) (gTup K 2 (gCons (gName 3) (gCons (gName 4) gNil)))))
  (tRet (tTup (tCons (tVar 3) (tCons (tVar 4) tNil)))))
abbrev n_behind_levels : List Str := ["tables", "look", "rank", "start", "stop", "level"]

theorem rd_behind_levels (K : PySem.W.Frag) (CL : CLs) (vs : List V) (H : Hp) (Q : VK) (E : XK) (h : sp_behind_levels K CL vs H Q E) : t_behind_levels K CL E { nx := fun _ H' => Q .non H', rt := Q } (start n_behind_levels vs) H := by
  obtain ⟨t, g, r, s, e, ks, sg, q, D, I, L, rfl, S, i0, hL, hse, he, hr, hTb, q1⟩ := h
  obtain ⟨pk, pa, as, h1, h2, h3, h4, h5⟩ := S.tab
  have hlv := lvK_le S.isk S.len
  unfold t_behind_levels
  walk_at "st"
  refine k_ixT h1 (x := .ref pa) rfl ?_
  walk_at "st"
  refine k_lenT h3 ?_
  walk_at "st"
  rw [List.length_map, h4]
  have hall : seg (ranks ks sg) s e = (seg (ranks ks sg) s e).filter fun x => decide (pre (lvK ks) 0 x = pre (lvK ks) 0 r) := by
    refine (List.filter_eq_self.mpr fun x hx => decide_eq_true ?_).symm
    have hx2 : x ∈ ranks ks sg := List.mem_of_mem_take (List.mem_of_mem_drop hx)
    rw [pre_zero (rank_lt S.isk hx2).2, pre_zero hr]
  refine loop_range0 (fun l σ' H' => ∃ (s' e' : Nat) (L2 : List Nat) (v5 : Option V), l ≤ lvK ks ∧ s' ≤ e' ∧ e' ≤ sg.length ∧ (seg (rowsW (lvK ks) (ranks ks sg) l) s' e' = (seg (ranks ks sg) s e).filter fun x => decide (pre (lvK ks) l x = pre (lvK ks) l r)) ∧ cp (eqr r) (rowsW (lvK ks) (ranks ks sg) l) s' = cp (eqr r) (ranks ks sg) s ∧ Few ks sg (2 * l) L2 ∧ I (L ++ L2) H' ∧ SameX q H H' ∧ σ' = [some (.ref t), some (.ref g), some (.int (r : Int)), some (.int (s' : Int)), some (.int (e' : Int)), v5]) ⟨s, e, [], none, Nat.zero_le _, hse, he, hall, rfl, Few.nil _ _, by rw [List.append_nil]; exact i0, (Same.refl H).toX (S.look.isq i0), rfl⟩ (fun l σ' H' hl ⟨s', e', L2, v5, _, hse', he', hS, hC, hF, iL, X, es⟩ => ?_) (fun σ' H' ⟨s', e', L2, v5, _, hse', he', hS, hC, hF, iL, X, es⟩ => ?_)
  · subst es
    have hlen := hF.len
    have her : e' ≤ (ranks ks sg).length := by rw [ranks_len]; exact he'
    walk_at "st"
    refine ⟨t, g, l, s', e', ks, sg, q, D, I, L ++ L2, rfl, S.moveX X, iL, by rw [List.length_append]; omega, hl, hse', he', X.tabs _ hTb, fun p p1 p2 H2 L3 hF3 i3 X3 e0 e1 e2 => ?_⟩
    have X2 := X.trans X3
    rw [List.append_assoc] at i3
    walk_at "st"
    refine ⟨t, pa, _, as.map V.ref, r, l, rfl, X2.seqT h1, rfl, X2.seqT h3, by rw [List.length_map, h4]; exact hl, ?_⟩
    rw [List.length_map, h4]
    walk_at "st"
    have hF' := (hF.add hF3).le (show 2 * l + 2 ≤ 2 * (l + 1) by omega)
    have pn := pre_next (r := r) hl
    rcases wb_le (lvK ks - 1 - l) r with z | z
    · rw [z]
      refine k_ixT (.of e0) (x := .ref p1) rfl ?_
      walk_at "st"
      refine m_gTup (.of e1) rfl ?_
      walk_at "st"
      refine ⟨_, _, L2 ++ L3, _, hl, nW_mono hse', Nat.le_trans (nW_le her) (by have := zuW (L := lvK ks) (l := l) her; rw [ranks_len] at this; omega), ?_, (cnt_n (by rw [ranks_len]; omega) z).trans hC, hF', i3, X2, rfl⟩
      rw [down_n hl hse' her hS, pn, z]; simp only [Nat.add_zero]
    · rw [z]
      refine k_ixT (.of e0) (x := .ref p2) rfl ?_
      walk_at "st"
      refine m_gTup (.of e2) rfl ?_
      walk_at "st"
      refine ⟨_, _, L2 ++ L3, _, hl, Nat.add_le_add_left (uW_mono hse') _, by have := zuW (L := lvK ks) (l := l) her; rw [ranks_len] at this; exact this, ?_, (cnt_u z).trans hC, hF', i3, X2, rfl⟩
      rw [down_u hl hse' hS, pn, z]
  subst es
  walk_at "st"
  intro p hp
  have s2 := same_new (o := .tup [.int (s' : Int), .int (e' : Int)]) hp
  refine q1 p s' e' _ L2 hF (S.look.ext iL s2) (X.trans (s2.toX X.isl')) upd_same hse' he' ?_ hC
  rw [hS]
  refine List.filter_congr fun x _ => ?_
  rw [pre_end, pre_end]

theorem rank_count {ks sg : List Int} (h : IsK ks sg) {x : Int} (hx : x ∈ ks) (xs : List Int) (hs : ∀ y ∈ xs, y ∈ sg) : ((xs.map (rk ks)).filter fun r => decide (r = rk ks x)).length = (xs.filter fun y => decide (y = x)).length := by
  rw [List.filter_map, List.length_map]
  congr 1
  refine List.filter_congr fun y hy => ?_
  show decide (rk ks y = rk ks x) = decide (y = x)
  refine decide_eq_decide.mpr ⟨fun z => ?_, fun z => by rw [z]⟩
  have e1 := get_rk h.srt ((h.mem y).mpr (hs y hy))
  rw [z, get_rk h.srt hx] at e1
  exact (Option.some.inj e1).symm

/-- the kind at the rank is the sign where there is one -/
theorem cut_kind {ks : List Int} {x : Int} (s : ks.Pairwise (· < ·)) : (ks.take (rk ks x + 1)).drop (rk ks x) = [x] ↔ x ∈ ks := by
  constructor
  · intro h
    have := List.mem_singleton_self x
    rw [← h] at this
    exact List.mem_of_mem_take (List.mem_of_mem_drop this)
  · intro h
    exact seg_one (get_rk s h)
/-- kinds[rank:rank + 1] != (sign,) -/
theorem k_neKind {K : PySem.W.Frag} {H : Hp} {Q : VK} {ks : List Int} {x : Int} {a b : Addr} (s : ks.Pairwise (· < ·)) (h1 : SqT K H a (cutV (ks.map V.int) (some (rk ks x : Int)) (some ((rk ks x : Int) + 1)))) (h2 : H b = some (.tup [.int x])) (q1 : x ∉ ks → Q (.bl true) H) (q2 : x ∈ ks → Q (.bl false) H) : rNeD K (.ref a) (.ref b) H Q := by
  rw [show (rk ks x : Int) + 1 = ((rk ks x + 1 : Nat) : Int) by omega, cutPart, ← List.map_take, ← List.map_drop] at h1
  refine k_neD (dp_intsT h1) (dp_intsT (ns := [x]) (.of h2)) (laid_intsT _) (laid_intsT _) ?_
  rw [eqv_intsT]
  by_cases h : x ∈ ks
  · rw [decide_eq_true ((cut_kind s).mpr h)]; exact q2 h
  · rw [decide_eq_false fun z => h ((cut_kind s).mp z)]; exact q1 h

/-- signs_ahead(tables, look, sign, at) -/
def sp_signs_ahead (K : PySem.W.Frag) (CL : CLs) : Sp := fun vs H Q E => ∃ (t g : Addr) (x c : Int) (ks sg : List Int) (q : Option Addr) (D : Addr → Prop) (I : List Nat → Hp → Prop) (L : List Nat), vs = [.ref t, .ref g, .int x, .int c] ∧ SgAt K CL H t g ks sg q D I ∧ I L H ∧ L.length < 900 ∧ NdefX.TabN H (tabP K "level_row") nmL ∧
  ((c < 0 ∨ (sg.length : Int) < c) → E (.ref (He.ga K "NoPlace")) none H) ∧
  (∀ k : Nat, c = (k : Int) → k ≤ sg.length → ∀ H' L2, Few ks sg (2 * lvK ks) L2 → I (L ++ L2) H' → SameX q H H' → Q (.int ((((sg.take k).filter fun y => decide (y = x)).length : Nat) : Int)) H')
theorem len_signs_ahead (K : PySem.W.Frag) (CL : CLs) : ∀ vs H Q E, sp_signs_ahead K CL vs H Q E → vs.length = 4 := by
  rintro vs H Q E ⟨t, g, x, _, _, _, _, _, _, _, rfl, _⟩; rfl
def t_signs_ahead (K : PySem.W.Frag) (CL : CLs) (E : XK) : TS :=
  (tSeq (tAsg (tVar 0) (gTup K 3 (gCons (gName 4) (gCons (gName 5) (gCons (gName 6) gNil)))))
  (tSeq (tIfS (tOr (tTest (tOp rLt (tVar 3) (tC (.int 0)))) (tTest (tOp rGtI (tVar 3) (tVar 4))))
  (tRz (fun cls d _ H => E cls d H) (He.ga K "NoPlace"))
  tNext)
  (tSeq (tAsg (tCall (sp_rank_of K) [] E0 (tCons (tVar 5) (tCons (tVar 2) tNil))) (gName 7))
  (tSeq (tIfS (tTest (tOp (rNeD K) (tSl (rSlA K) (tVar 5) (tPart (tVar 7)) (tPart (tOp rPlus (tVar 7) (tC (.int 1))))) (tTup (tCons (tVar 2) tNil))))
  (tRet (tC (.int 0)))
  tNext)
  (tSeq (tAsg (tCall (sp_behind_levels K CL) [] E (tCons (tVar 0) (tCons (tVar 1) (tCons (tVar 7) (tCons (tC (.int 0)) (tCons (tVar 3) tNil)))))) (gTup K 2 (gCons (gName 8) (gCons (gName 9) gNil))))
  (tRet (tOp rMinus (tVar 9) (tVar 8))))))))
abbrev n_signs_ahead : List Str := ["tables", "look", "sign", "at", "many", "kinds", "aheads", "rank", "start", "stop"]

theorem rd_signs_ahead (K : PySem.W.Frag) (CL : CLs) (vs : List V) (H : Hp) (Q : VK) (E : XK) (h : sp_signs_ahead K CL vs H Q E) : t_signs_ahead K CL E { nx := fun _ H' => Q .non H', rt := Q } (start n_signs_ahead vs) H := by
  obtain ⟨t, g, x, c, ks, sg, q, D, I, L, rfl, S, i0, hL, hTb, q1, q2⟩ := h
  obtain ⟨pk, pa, as, h1, h2, h3, h4, h5⟩ := S.tab
  have hlv := lvK_le S.isk S.len
  unfold t_signs_ahead
  walk_at "st"
  refine m_gTup h1 rfl ?_
  walk_at "st"
  walk_at "if" <;> intro c1
  · walk_at "st"
    exact q1 (.inl c1)
  walk_at "st"
  walk_at "if" <;> intro c2
  · walk_at "st"
    exact q1 (.inr c2)
  obtain ⟨k, rfl⟩ := Int.eq_ofNat_of_zero_le (show 0 ≤ c by omega)
  have hk : k ≤ sg.length := by omega
  walk_at "st"
  refine ⟨pk, x, ks, rfl, h2, S.isk.srt, ?_⟩
  walk_at "st"
  refine k_slA h2 fun p1 H1 s1 e1 => ?_
  walk_at "st"
  intro p2 hp2
  have s2 := same_new (o := .tup [.int x]) hp2
  have e2 := upd_same (H := H1) (a := p2) (o := .tup [.int x])
  replace e1 := s2.seqT e1
  replace s2 := s1.trans s2
  generalize upd H1 p2 (.tup [.int x]) = H2 at s2 e1 e2 ⊢
  have X2 := s2.toX (S.look.isq i0)
  refine k_neKind S.isk.srt e1 e2 (fun hx => ?_) (fun hx => ?_)
  · walk_at "st"
    have := q2 k rfl hk H2 [] ((Few.nil ks sg).le (Nat.zero_le _)) (by rw [List.append_nil]; exact S.look.ext i0 s2) X2
    rw [List.filter_eq_nil_iff.mpr fun y hy => by
      have hy2 := List.mem_of_mem_take hy
      simp only [decide_eq_true_eq]
      rintro rfl
      exact hx ((S.isk.mem _).mpr hy2)] at this
    exact this
  · walk_at "st"
    have hr := rk_lt S.isk.srt hx
    refine ⟨t, g, rk ks x, 0, k, ks, sg, q, D, I, L, rfl, S.move s2, S.look.ext i0 s2, hL, Nat.zero_le _, hk, Nat.lt_of_lt_of_le hr (hOf_le _), s2.tabs _ hTb, fun p s' e' H3 L2 hF i3 X3 e3 hse he hS _ => ?_⟩
    walk_at "st"
    refine m_gTup (.of e3) rfl ?_
    walk_at "st"
    have hl := congrArg List.length hS
    rw [seg_length (by rw [rowsW_len, ranks_len]; exact he)] at hl
    have h0 : seg (ranks ks sg) 0 k = (sg.take k).map (rk ks) := by unfold seg ranks; rw [List.drop_zero, List.map_take]
    rw [h0, rank_count S.isk hx _ fun y hy => List.mem_of_mem_take hy] at hl
    rw [show (e' : Int) - (s' : Int) = ((((sg.take k).filter fun y => decide (y = x)).length : Nat) : Int) by omega]
    exact q2 k rfl hk H3 L2 hF i3 (X2.trans X3)

/-- sign_place(tables, look, sign, nth) -/
def sp_sign_place (K : PySem.W.Frag) (CL : CLs) : Sp := fun vs H Q E => ∃ (t g : Addr) (x c : Int) (ks sg : List Int) (q : Option Addr) (D : Addr → Prop) (I : List Nat → Hp → Prop) (L : List Nat), vs = [.ref t, .ref g, .int x, .int c] ∧ SgAt K CL H t g ks sg q D I ∧ I L H ∧ L.length < 800 ∧ NdefX.TabN H (tabP K "level_row") nmL ∧
  ((c < 0 ∨ (((sg.filter fun y => decide (y = x)).length : Nat) : Int) ≤ c) → ∀ H' L2, Few ks sg (4 * lvK ks) L2 → I (L ++ L2) H' → SameX q H H' → E (.ref (He.ga K "NoPlace")) none H') ∧
  (∀ k p : Nat, c = (k : Int) → sg[p]? = some x → cp (fun y => decide (y = x)) sg p = k → ∀ H' L2, Few ks sg (4 * lvK ks) L2 → I (L ++ L2) H' → SameX q H H' → Q (.int (p : Int)) H')
theorem len_sign_place (K : PySem.W.Frag) (CL : CLs) : ∀ vs H Q E, sp_sign_place K CL vs H Q E → vs.length = 4 := by
  rintro vs H Q E ⟨t, g, x, _, _, _, _, _, _, _, rfl, _⟩; rfl
def t_sign_place (K : PySem.W.Frag) (CL : CLs) (E : XK) : TS :=
  (tSeq (tAsg (tVar 0) (gTup K 3 (gCons (gName 4) (gCons (gName 5) (gCons (gName 6) gNil)))))
  (tSeq (tAsg (tCall (sp_rank_of K) [] E0 (tCons (tVar 5) (tCons (tVar 2) tNil))) (gName 7))
  (tSeq (tIfS (tOr (tTest (tOp rLt (tVar 3) (tC (.int 0)))) (tTest (tOp (rNeD K) (tSl (rSlA K) (tVar 5) (tPart (tVar 7)) (tPart (tOp rPlus (tVar 7) (tC (.int 1))))) (tTup (tCons (tVar 2) tNil)))))
  (tRz (fun cls d _ H => E cls d H) (He.ga K "NoPlace"))
  tNext)
  (tSeq (tAsg (tCall (sp_behind_levels K CL) [] E (tCons (tVar 0) (tCons (tVar 1) (tCons (tVar 7) (tCons (tC (.int 0)) (tCons (tVar 4) tNil)))))) (gTup K 2 (gCons (gName 8) (gCons (gName 9) gNil))))
  (tSeq (tIfS (tTest (tOp rGeI (tVar 3) (tOp rMinus (tVar 9) (tVar 8))))
  (tRz (fun cls d _ H => E cls d H) (He.ga K "NoPlace"))
  tNext)
  (tSeq (tAsg (tOp rPlus (tVar 8) (tVar 3)) (gName 10))
  (tSeq (tFor (iRevR (tRg1 (tCB (rLen K) (tCons (tVar 6) tNil)))) (gName 11)
  (tSeq (tAsg (tCall (sp_level_row K CL) [] E0 (tCons (tVar 0) (tCons (tVar 1) (tCons (tVar 11) tNil)))) (gTup K 2 (gCons (gName 12) (gCons (gName 13) gNil))))
  (tIfS (tTest (tOp rEq (tCall (sp_bit_of K) [] E0 (tCons (tVar 0) (tCons (tVar 7) (tCons (tVar 11) tNil)))) (tC (.int 0))))
  (tAsg (tCall (sp_nought_place K CL) [] E (tCons (tVar 12) (tCons (tVar 13) (tCons (tVar 10) tNil)))) (gName 10))
  (tAsg (tCall (sp_one_place K CL) [] E (tCons (tVar 12) (tCons (tVar 13) (tCons (tOp rMinus (tVar 10) (tOp rMinus (tVar 4) (tOp (rIxT K) (tOp (rIxT K) (tVar 6) (tVar 11)) (tUn rNeg (tC (.int 1)))))) tNil)))) (gName 10)))))
  (tRet (tVar 10)))))))))
abbrev n_sign_place : List Str := ["tables", "look", "sign", "nth", "many", "kinds", "aheads", "rank", "start", "stop", "at", "level", "row", "sight"]

theorem rd_sign_place (K : PySem.W.Frag) (CL : CLs) (vs : List V) (H : Hp) (Q : VK) (E : XK) (h : sp_sign_place K CL vs H Q E) : t_sign_place K CL E { nx := fun _ H' => Q .non H', rt := Q } (start n_sign_place vs) H := by
  obtain ⟨t, g, x, c, ks, sg, q, D, I, L, rfl, S, i0, hL, hTb, q1, q2⟩ := h
  obtain ⟨pk, pa, as, h1, h2, h3, h4, h5⟩ := S.tab
  have hlv := lvK_le S.isk S.len
  have f0 := (Few.nil ks sg).le (Nat.zero_le (4 * lvK ks))
  unfold t_sign_place
  walk_at "st"
  refine m_gTup h1 rfl ?_
  walk_at "st"
  refine ⟨pk, x, ks, rfl, h2, S.isk.srt, ?_⟩
  walk_at "st"
  walk_at "if" <;> intro c1
  · walk_at "st"
    exact q1 (.inl c1) H [] f0 (by rw [List.append_nil]; exact i0) ((Same.refl H).toX (S.look.isq i0))
  obtain ⟨k, rfl⟩ := Int.eq_ofNat_of_zero_le (show 0 ≤ c by omega)
  walk_at "st"
  refine k_slA h2 fun p1 H1 s1 e1 => ?_
  walk_at "st"
  intro p2 hp2
  have s2 := same_new (o := .tup [.int x]) hp2
  have e2 := upd_same (H := H1) (a := p2) (o := .tup [.int x])
  replace e1 := s2.seqT e1
  replace s2 := s1.trans s2
  generalize upd H1 p2 (.tup [.int x]) = H2 at s2 e1 e2 ⊢
  have X2 := s2.toX (S.look.isq i0)
  refine k_neKind S.isk.srt e1 e2 (fun hx => ?_) (fun hx => ?_)
  · walk_at "st"
    refine q1 (.inr ?_) H2 [] f0 (by rw [List.append_nil]; exact S.look.ext i0 s2) X2
    rw [List.filter_eq_nil_iff.mpr fun y hy => by
      simp only [decide_eq_true_eq]
      rintro rfl
      exact hx ((S.isk.mem _).mpr hy)]
    exact Int.natCast_nonneg _
  walk_at "st"
  have hr := rk_lt S.isk.srt hx
  refine ⟨t, g, rk ks x, 0, sg.length, ks, sg, q, D, I, L, rfl, S.move s2, S.look.ext i0 s2, by omega, Nat.zero_le _, Nat.le_refl _, Nat.lt_of_lt_of_le hr (hOf_le _), s2.tabs _ hTb, fun p s' e' H3 L2 hF i3 X3 e3 hse he hS hC => ?_⟩
  have X3' := X2.trans X3
  have hS0 : seg (ranks ks sg) 0 sg.length = ranks ks sg := seg_all (by rw [ranks_len]; exact Nat.le_refl _)
  rw [hS0] at hS
  have hC0 : cp (eqr (rk ks x)) (ranks ks sg) 0 = 0 := by unfold cp; rw [List.take_zero]; rfl
  rw [hC0] at hC
  have hcnt := rank_count S.isk hx sg fun y hy => hy
  have hl := congrArg List.length hS
  rw [seg_length (by rw [rowsW_len, ranks_len]; exact he), show ranks ks sg = sg.map (rk ks) from rfl, hcnt] at hl
  walk_at "st"
  refine m_gTup (.of e3) rfl ?_
  walk_at "st"
  walk_at "if" <;> intro c3
  · walk_at "st"
    exact q1 (.inr (by omega)) H3 L2 (hF.le (by omega)) i3 X3'
  walk_at "st"
  have hk : k < e' - s' := by omega
  have er : (rowsW (lvK ks) (ranks ks sg) (lvK ks))[s' + k]? = some (rk ks x) := by
    have h7 : (seg (rowsW (lvK ks) (ranks ks sg) (lvK ks)) s' e')[k]? = (rowsW (lvK ks) (ranks ks sg) (lvK ks))[s' + k]? := seg_get (by omega)
    rw [← h7, hS]
    have hkl : k < ((ranks ks sg).filter fun y => decide (y = rk ks x)).length := by
      rw [show ranks ks sg = sg.map (rk ks) from rfl, hcnt]; omega
    rw [List.getElem?_eq_getElem hkl]
    have := (List.mem_filter.mp (List.getElem_mem hkl)).2
    exact congrArg some (by simpa using this)
  have ec : cp (eqr (rk ks x)) (rowsW (lvK ks) (ranks ks sg) (lvK ks)) (s' + k) = k := by
    unfold cp at hC ⊢
    rw [take_seg _ (Nat.le_add_right s' k), List.filter_append, List.length_append, hC, Nat.zero_add]
    have hall : ∀ y ∈ seg (rowsW (lvK ks) (ranks ks sg) (lvK ks)) s' (s' + k), y = rk ks x := fun y hy => by
      obtain ⟨j, hj⟩ := List.mem_iff_getElem?.mp hy
      have hjl := (List.getElem?_eq_some_iff.mp hj).1
      rw [seg_length (by rw [rowsW_len, ranks_len]; omega)] at hjl
      rw [seg_get (by omega)] at hj
      have h8 : (seg (rowsW (lvK ks) (ranks ks sg) (lvK ks)) s' e')[j]? = some y := by rw [seg_get (by omega)]; exact hj
      rw [hS] at h8
      have := (List.mem_filter.mp (List.mem_of_getElem? h8)).2
      simpa using this
    rw [List.filter_eq_self.mpr fun y hy => decide_eq_true (hall y hy), seg_length (by rw [rowsW_len, ranks_len]; omega)]
    omega
  rw [show (s' : Int) + (k : Int) = ((s' + k : Nat) : Int) by push_cast; rfl]
  generalize s' + k = x0 at er ec
  refine m_revR1 ?_
  walk_at "st"
  refine k_lenT (X3'.seqT h3) ?_
  walk_at "st"
  rw [List.length_map, h4]
  refine m_revRe (by omega) ?_
  refine loop_revR (fun i σ' H' => ∃ (y : Nat) (L3 : List Nat) (v11 v12 v13 : Option V), i ≤ lvK ks ∧ (rowsW (lvK ks) (ranks ks sg) (lvK ks - i))[y]? = some (rk ks x) ∧ cp (eqr (rk ks x)) (rowsW (lvK ks) (ranks ks sg) (lvK ks - i)) y = k ∧ Few ks sg (2 * lvK ks + i) L3 ∧ I (L ++ L3) H' ∧ SameX q H H' ∧ σ' = [some (.ref t), some (.ref g), some (.int x), some (.int (k : Int)), some (.int (sg.length : Int)), some (.ref pk), some (.ref pa), some (.int (rk ks x : Nat)), some (.int (s' : Int)), some (.int (e' : Int)), some (.int (y : Int)), v11, v12, v13]) ⟨x0, L2, none, none, none, Nat.zero_le _, er, ec, hF, i3, X3', rfl⟩ (fun i σ' H' hi ⟨y, L3, v11, v12, v13, _, ey, cy, hF3, iL, X, es⟩ => ?_) (fun σ' H' ⟨y, L3, v11, v12, v13, _, ey, cy, hF3, iL, X, es⟩ => ?_)
  · subst es
    obtain ⟨l, hl⟩ : ∃ l, l = lvK ks - 1 - i := ⟨_, rfl⟩
    have hlt : l < lvK ks := by omega
    rw [show lvK ks - i = l + 1 by omega] at ey cy
    rw [show lvK ks - (i + 1) = l by omega, ← hl]
    have hlen := hF3.len
    walk_at "st"
    refine call_level (S.moveX X) iL hlt (X.tabs _ hTb) fun p rr f H4 B hp s4 e4 RA i4 => ?_
    walk_at "st"
    refine m_gTup (.of e4) rfl ?_
    walk_at "st"
    have X4 := X.trans (s4.toX X.isl')
    refine ⟨t, pa, _, as.map V.ref, rk ks x, l, rfl, X4.seqT h1, rfl, X4.seqT h3, by rw [List.length_map, h4]; exact hlt, ?_⟩
    rw [List.length_map, h4]
    walk_at "st"
    have hbk := bitsK_blks ks sg l
    have done : ∀ (n : Nat) (H5 : Hp) (b : Nat), n < (bitsK ks sg l).length → (bitsK ks sg l).getD n 0 = (b : Nat) → (∀ r', (rowsW (lvK ks) (ranks ks sg) l)[n]? = some r' → wb (lvK ks - 1 - l) r' = b → r' = rk ks x ∧ cp (eqr (rk ks x)) (rowsW (lvK ks) (ranks ks sg) l) n = k) → OffI I B (l * eachB sg) (L ++ L3) (L ++ L3 ++ [n / 32]) H5 → ∃ L4, (rowsW (lvK ks) (ranks ks sg) l)[n]? = some (rk ks x) ∧ cp (eqr (rk ks x)) (rowsW (lvK ks) (ranks ks sg) l) n = k ∧ Few ks sg (2 * lvK ks + (i + 1)) L4 ∧ I (L ++ L4) H5 := by
      intro n H5 b hn hb hr5 i5
      rw [bitsK_len] at hn
      obtain ⟨r', hr'⟩ : ∃ r', (rowsW (lvK ks) (ranks ks sg) l)[n]? = some r' := ⟨_, List.getElem?_eq_getElem (by rw [rowsW_len, ranks_len]; exact hn)⟩
      rw [bitsK_get hr'] at hb
      obtain ⟨rfl, hc⟩ := hr5 r' hr' (by omega)
      have i6 := i5.out
      rw [List.append_assoc] at i6
      exact ⟨_, hr', hc, hF3.add (Few.one (k := n / 32) hlt (by simp) fun j hj => by rw [List.mem_singleton.mp hj]; exact ⟨rfl, by unfold eachB; omega⟩), i6⟩
    have hL3 : (L ++ L3).length < 8999 := by rw [List.length_append]; omega
    rcases half_of ey with ⟨z, hy⟩ | ⟨z, hy, hy2⟩
    · rw [z]
      refine k_decT (by decide) ?_
      walk_at "st"
      refine ⟨rr, f, (y : Int), _, q, _, _, rfl, RA, i4, hL3, fun w => ?_, fun n hn hb hs H5 i5 X5 => ?_⟩
      · exfalso
        have := zK (ks := ks) (sg := sg) l
        rw [bitsK_len] at w
        omega
      have hnr : n ≤ (ranks ks sg).length := by rw [bitsK_len] at hn; rw [ranks_len]; omega
      have hs2 := noughtW (L := lvK ks) (l := l) hnr
      have hny : nW (lvK ks) (ranks ks sg) l n = y := by
        have hs3 : (n : Int) - sumTo (bitsW (lvK ks) (ranks ks sg) l) n = (y : Int) := hs
        omega
      obtain ⟨L4, a1, a2, a3, a4⟩ := done n H5 0 hn hb (fun r' hr' hw => by
        have := item_n hr' hw
        rw [hny, ey] at this
        obtain rfl := Option.some.inj this
        have h9 := cnt_n (row := ranks ks sg) hnr hw
        rw [hny, cy] at h9
        exact ⟨rfl, h9.symm⟩) i5
      walk_at "st"
      exact ⟨n, L4, _, _, _, by omega, a1, a2, a3, a4, X4.trans X5, rfl⟩
    · rw [z]
      refine k_decF (by decide) ?_
      walk_at "st"
      refine k_ixT (X4.seqT h3) (x := .ref (as[l]'(by omega))) (at_nat (by rw [List.getElem?_map, List.getElem?_eq_getElem (show l < as.length by omega)]; rfl)) ?_
      walk_at "st"
      refine k_ixT (X4.seqT (h5 l _ (List.getElem?_eq_getElem (by omega)))) (ahead_last _) ?_
      walk_at "st"
      have hz := zK (ks := ks) (sg := sg) l
      rw [hz]
      refine ⟨rr, f, _, _, q, _, _, rfl, RA, i4, hL3, fun w => ?_, fun n hn hb hs H5 i5 X5 => ?_⟩
      · exfalso
        rw [ranks_len] at hy2
        omega
      have hnr : n ≤ (ranks ks sg).length := by rw [bitsK_len] at hn; rw [ranks_len]; omega
      have hs2 : sumTo (bitsK ks sg l) n = (uW (lvK ks) (ranks ks sg) l n : Nat) := sumW _ _ _ _
      have hny : zW (lvK ks) (ranks ks sg) l + uW (lvK ks) (ranks ks sg) l n = y := by omega
      obtain ⟨L4, a1, a2, a3, a4⟩ := done n H5 1 hn hb (fun r' hr' hw => by
        have := item_u hr' hw
        rw [hny, ey] at this
        obtain rfl := Option.some.inj this
        have h9 := cnt_u (row := ranks ks sg) (k := n) hw
        rw [hny, cy] at h9
        exact ⟨rfl, h9.symm⟩) i5
      walk_at "st"
      exact ⟨n, L4, _, _, _, by omega, a1, a2, a3, a4, X4.trans X5, rfl⟩
  · subst es
    rw [Nat.sub_self] at ey cy
    change (ranks ks sg)[y]? = some (rk ks x) at ey
    change cp (eqr (rk ks x)) (ranks ks sg) y = k at cy
    walk_at "st"
    refine q2 k y rfl ?_ ?_ H' L3 (hF3.le (by omega)) iL X
    · unfold ranks at ey
      rw [List.getElem?_map] at ey
      cases h9 : sg[y]? with
      | none => rw [h9] at ey; cases ey
      | some v =>
        rw [h9] at ey
        have e9 : rk ks v = rk ks x := Option.some.inj ey
        have g1 := get_rk S.isk.srt ((S.isk.mem v).mpr (List.mem_of_getElem? h9))
        rw [e9, get_rk S.isk.srt hx] at g1
        exact g1.symm
    · rw [← cy]
      unfold cp ranks
      rw [← List.map_take]
      exact (rank_count S.isk hx _ fun v hv => List.mem_of_mem_take hv).symm

/-! how many of a row are less -/
theorem filter_or {α : Type} (p q r : α → Bool) (h : ∀ x, p x = (q x || r x)) (hd : ∀ x, ¬ (q x = true ∧ r x = true)) : ∀ xs : List α, (xs.filter p).length = (xs.filter q).length + (xs.filter r).length
  | [] => rfl
  | x :: xs => by
    have ih := filter_or p q r h hd xs
    have hx := h x
    have dx := hd x
    rw [List.filter_cons, List.filter_cons, List.filter_cons, hx]
    cases e1 : q x <;> cases e2 : r x
    · simpa using ih
    · simp; omega
    · simp; omega
    · exact absurd ⟨e1, e2⟩ dx
/-- of a row those whose first bits are less -/
def ltP (L l p : Nat) (S : List Nat) : Nat := (S.filter fun x => decide (pre L l x < p)).length
def eqP (L l p : Nat) (S : List Nat) : Nat := (S.filter fun x => decide (pre L l x = p)).length
theorem ltP_n {L l p : Nat} (h : l < L) (S : List Nat) : ltP L (l + 1) (2 * p) S = ltP L l p S := by
  unfold ltP
  congr 1
  refine List.filter_congr fun x _ => ?_
  rw [pre_next h]
  have := wb_le (L - 1 - l) x
  exact decide_eq_decide.mpr (by omega)
theorem ltP_u {L l p : Nat} (h : l < L) (S : List Nat) : ltP L (l + 1) (2 * p + 1) S = ltP L l p S + eqP L (l + 1) (2 * p) S := by
  rw [← ltP_n h]
  unfold ltP eqP
  refine filter_or _ _ _ (fun x => ?_) (fun x hx => ?_) S
  · rw [← Bool.decide_or]
    exact decide_eq_decide.mpr (by omega)
  · simp only [decide_eq_true_eq] at hx
    omega
theorem ltP_zero (L : Nat) (S : List Nat) : ltP L 0 0 S = 0 := by
  unfold ltP
  rw [List.filter_eq_nil_iff.mpr fun x _ => by simp]; rfl
theorem ltP_end (L r : Nat) (S : List Nat) : ltP L L r S = (S.filter fun x => decide (x < r)).length := by
  unfold ltP
  congr 1
  refine List.filter_congr fun x _ => ?_
  rw [pre_end]
/-- signs and ranks -/
theorem rank_less {ks sg : List Int} (h : IsK ks sg) (v : Int) (xs : List Int) (hs : ∀ y ∈ xs, y ∈ sg) : ((xs.map (rk ks)).filter fun r => decide (r < rk ks v)).length = (xs.filter fun y => decide (y < v)).length := by
  rw [List.filter_map, List.length_map]
  congr 1
  refine List.filter_congr fun y hy => ?_
  show decide (rk ks y < rk ks v) = decide (y < v)
  exact decide_eq_decide.mpr (rk_iff h.srt ((h.mem y).mpr (hs y hy)))
theorem seg_mem {α : Type} {xs : List α} {s e : Nat} {y : α} (h : y ∈ seg xs s e) : y ∈ xs := List.mem_of_mem_take (List.mem_of_mem_drop h)
/-- from one on, below another -/
theorem less_two (a b : Int) (h : a < b) (xs : List Int) : (xs.filter fun y => decide (y < b)).length = (xs.filter fun y => decide (y < a)).length + (xs.filter fun y => decide (a ≤ y ∧ y < b)).length := by
  refine filter_or _ _ _ (fun x => ?_) (fun x hx => ?_) xs
  · rw [← Bool.decide_or]
    exact decide_eq_decide.mpr (by omega)
  · simp only [decide_eq_true_eq] at hx
    omega

/-- below(tables, look, start, stop, rank) -/
def sp_below (K : PySem.W.Frag) (CL : CLs) : Sp := fun vs H Q _ => ∃ (t g : Addr) (s e r : Nat) (ks sg : List Int) (q : Option Addr) (D : Addr → Prop) (I : List Nat → Hp → Prop) (L : List Nat), vs = [.ref t, .ref g, .int (s : Int), .int (e : Int), .int (r : Int)] ∧ SgAt K CL H t g ks sg q D I ∧ I L H ∧ L.length < 900 ∧ s ≤ e ∧ e ≤ sg.length ∧ r ≤ ks.length ∧ NdefX.TabN H (tabP K "level_row") nmL ∧
  ∀ H' L2, Few ks sg (2 * lvK ks) L2 → I (L ++ L2) H' → SameX q H H' → Q (.int ((((seg (ranks ks sg) s e).filter fun x => decide (x < r)).length : Nat) : Int)) H'
theorem len_below (K : PySem.W.Frag) (CL : CLs) : ∀ vs H Q E, sp_below K CL vs H Q E → vs.length = 5 := by
  rintro vs H Q E ⟨t, g, x, _, _, _, _, _, _, _, _, rfl, _⟩; rfl
def t_below (K : PySem.W.Frag) (CL : CLs) (E : XK) : TS :=
  (tSeq (tIfS (tTest (tOp rEq (tVar 4) (tCB (rLen K) (tCons (tOp (rIxT K) (tVar 0) (tC (.int 1))) tNil))))
  (tRet (tOp rMinus (tVar 3) (tVar 2)))
  tNext)
  (tSeq (tAsg (tC (.int 0)) (gName 5))
  (tSeq (tFor (iRng1 (tCons (tCB (rLen K) (tCons (tOp (rIxT K) (tVar 0) (tC (.int 2))) tNil)) tNil)) (gName 6)
  (tSeq (tAsg (tCall (sp_halves K CL) [] E (tCons (tVar 0) (tCons (tVar 1) (tCons (tVar 6) (tCons (tVar 2) (tCons (tVar 3) tNil)))))) (gTup K 2 (gCons (gName 7) (gCons (gName 8) gNil))))
  (tIfS (tTest (tOp rEq (tCall (sp_bit_of K) [] E0 (tCons (tVar 0) (tCons (tVar 4) (tCons (tVar 6) tNil)))) (tC (.int 0))))
  (tAsg (tVar 7) (gTup K 2 (gCons (gName 2) (gCons (gName 3) gNil))))
  (tSeq (tAug 5 (tOp rMinus (tOp (rIxT K) (tVar 7) (tC (.int 1))) (tOp (rIxT K) (tVar 7) (tC (.int 0)))) (ipI fun i j => i + j))
  (tAsg (tVar 8) (gTup K 2 (gCons (gName 2) (gCons (gName 3) gNil))))))))
  (tRet (tVar 5)))))
abbrev n_below : List Str := ["tables", "look", "start", "stop", "rank", "found", "level", "noughts", "ones"]

theorem rd_below (K : PySem.W.Frag) (CL : CLs) (vs : List V) (H : Hp) (Q : VK) (E : XK) (h : sp_below K CL vs H Q E) : t_below K CL E { nx := fun _ H' => Q .non H', rt := Q } (start n_below vs) H := by
  obtain ⟨t, g, s, e, r, ks, sg, q, D, I, L, rfl, S, i0, hL, hse, he, hr, hTb, q1⟩ := h
  obtain ⟨pk, pa, as, h1, h2, h3, h4, h5⟩ := S.tab
  have hlv := lvK_le S.isk S.len
  have her : e ≤ (ranks ks sg).length := by rw [ranks_len]; exact he
  unfold t_below
  walk_at "st"
  refine k_ixT h1 (x := .ref pk) rfl ?_
  walk_at "st"
  refine k_lenT h2 ?_
  walk_at "st"
  rw [List.length_map]
  walk_at "if" <;> intro c0
  · walk_at "st"
    have := q1 H [] ((Few.nil ks sg).le (Nat.zero_le _)) (by rw [List.append_nil]; exact i0) ((Same.refl H).toX (S.look.isq i0))
    rw [List.filter_eq_self.mpr fun y hy => decide_eq_true (by have := (rank_lt S.isk (seg_mem hy)).1; omega), seg_length her] at this
    rw [show (e : Int) - (s : Int) = ((e - s : Nat) : Int) by omega]
    exact this
  have hr2 : r < 2 ^ lvK ks := Nat.lt_of_lt_of_le (show r < ks.length by omega) (hOf_le _)
  walk_at "st"
  refine k_ixT h1 (x := .ref pa) rfl ?_
  walk_at "st"
  refine k_lenT h3 ?_
  walk_at "st"
  rw [List.length_map, h4]
  obtain ⟨S0, hS0⟩ : ∃ S0, S0 = seg (ranks ks sg) s e := ⟨_, rfl⟩
  have hall : seg (ranks ks sg) s e = S0.filter fun x => decide (pre (lvK ks) 0 x = pre (lvK ks) 0 r) := by
    rw [hS0]
    refine (List.filter_eq_self.mpr fun x hx => decide_eq_true ?_).symm
    rw [pre_zero (rank_lt S.isk (seg_mem hx)).2, pre_zero hr2]
  rw [← hS0] at q1
  refine loop_range0 (fun l σ' H' => ∃ (s' e' : Nat) (L2 : List Nat) (v6 v7 v8 : Option V), l ≤ lvK ks ∧ s' ≤ e' ∧ e' ≤ sg.length ∧ (seg (rowsW (lvK ks) (ranks ks sg) l) s' e' = S0.filter fun x => decide (pre (lvK ks) l x = pre (lvK ks) l r)) ∧ Few ks sg (2 * l) L2 ∧ I (L ++ L2) H' ∧ SameX q H H' ∧ σ' = [some (.ref t), some (.ref g), some (.int (s' : Int)), some (.int (e' : Int)), some (.int (r : Int)), some (.int (ltP (lvK ks) l (pre (lvK ks) l r) S0 : Nat)), v6, v7, v8]) ⟨s, e, [], none, none, none, Nat.zero_le _, hse, he, hall, Few.nil _ _, by rw [List.append_nil]; exact i0, (Same.refl H).toX (S.look.isq i0), by rw [pre_zero hr2, ltP_zero]; rfl⟩ (fun l σ' H' hl ⟨s', e', L2, v6, v7, v8, _, hse', he', hS, hF, iL, X, es⟩ => ?_) (fun σ' H' ⟨s', e', L2, v6, v7, v8, _, hse', he', hS, hF, iL, X, es⟩ => ?_)
  · subst es
    have hlen := hF.len
    have her' : e' ≤ (ranks ks sg).length := by rw [ranks_len]; exact he'
    walk_at "st"
    refine ⟨t, g, l, s', e', ks, sg, q, D, I, L ++ L2, rfl, S.moveX X, iL, by rw [List.length_append]; omega, hl, hse', he', X.tabs _ hTb, fun p p1 p2 H2 L3 hF3 i3 X3 e0 e1 e2 => ?_⟩
    have X2 := X.trans X3
    rw [List.append_assoc] at i3
    walk_at "st"
    refine m_gTup (.of e0) rfl ?_
    walk_at "st"
    refine ⟨t, pa, _, as.map V.ref, r, l, rfl, X2.seqT h1, rfl, X2.seqT h3, by rw [List.length_map, h4]; exact hl, ?_⟩
    rw [List.length_map, h4]
    walk_at "st"
    have hF' := (hF.add hF3).le (show 2 * l + 2 ≤ 2 * (l + 1) by omega)
    have pn := pre_next (r := r) hl
    have dn := down_n hl hse' her' hS
    rcases wb_le (lvK ks - 1 - l) r with z | z
    · rw [z]
      refine k_decT (by decide) ?_
      walk_at "st"
      refine m_gTup (.of e1) rfl ?_
      walk_at "st"
      refine ⟨_, _, L2 ++ L3, some (.int (l : Int)), some (.ref p1), some (.ref p2), hl, nW_mono hse', Nat.le_trans (nW_le (L := lvK ks) (l := l) her') (by have := zuW (L := lvK ks) (l := l) her'; rw [ranks_len] at this; omega), ?_, hF', i3, X2, ?_⟩
      · rw [dn, pn, z]; simp only [Nat.add_zero]
      · have hn : ltP (lvK ks) (l + 1) (2 * pre (lvK ks) l r + 0) S0 = ltP (lvK ks) l (pre (lvK ks) l r) S0 := ltP_n hl S0
        rw [pn, z, hn]; rfl
    · rw [z]
      refine k_decF (by decide) ?_
      walk_at "st"
      refine k_ixT (.of e1) (x := .int (nW (lvK ks) (ranks ks sg) l e' : Nat)) rfl ?_
      walk_at "st"
      refine k_ixT (.of e1) (x := .int (nW (lvK ks) (ranks ks sg) l s' : Nat)) rfl ?_
      walk_at "st"
      refine m_gTup (.of e2) rfl ?_
      walk_at "st"
      refine ⟨_, _, L2 ++ L3, some (.int (l : Int)), some (.ref p1), some (.ref p2), hl, Nat.add_le_add_left (uW_mono hse') _, by have := zuW (L := lvK ks) (l := l) her'; rw [ranks_len] at this; exact this, ?_, hF', i3, X2, ?_⟩
      · rw [down_u hl hse' hS, pn, z]
      · have hd := congrArg List.length dn
        rw [seg_length (by rw [rowsW_len]; exact Nat.le_trans (nW_le (L := lvK ks) (l := l) her') (by have := zuW (L := lvK ks) (l := l) her'; omega))] at hd
        have hm := nW_mono (L := lvK ks) (row := ranks ks sg) (l := l) hse'
        have hu : ltP (lvK ks) (l + 1) (2 * pre (lvK ks) l r + 1) S0 = ltP (lvK ks) l (pre (lvK ks) l r) S0 + eqP (lvK ks) (l + 1) (2 * pre (lvK ks) l r) S0 := ltP_u hl S0
        unfold eqP at hu
        rw [← hd] at hu
        rw [pn, z]
        rw [show ((ltP (lvK ks) l (pre (lvK ks) l r) S0 : Nat) : Int) + ((nW (lvK ks) (ranks ks sg) l e' : Nat) - (nW (lvK ks) (ranks ks sg) l s' : Nat)) = (ltP (lvK ks) (l + 1) (2 * pre (lvK ks) l r + 1) S0 : Nat) by omega]
        rfl
  subst es
  walk_at "st"
  rw [pre_end, ltP_end]
  exact q1 H' L2 hF iL X

/-- stretch_there(tables, start, stop) -/
def sp_stretch_there (K : PySem.W.Frag) : Sp := fun vs H Q E => ∃ (t : Addr) (a b n : Int) (ts : List V), vs = [.ref t, .int a, .int b] ∧ SqT K H t (.int n :: ts) ∧ ((a < 0 ∨ b < a ∨ n < b) → E (.ref (He.ga K "NoPlace")) none H) ∧ (0 ≤ a → a ≤ b → b ≤ n → Q .non H)
theorem len_stretch_there (K : PySem.W.Frag) : ∀ vs H Q E, sp_stretch_there K vs H Q E → vs.length = 3 := by
  rintro vs H Q E ⟨t, a, b, n, ts, rfl, _⟩; rfl
def t_stretch_there (K : PySem.W.Frag) (E : XK) : TS :=
  (tIfS (tOr (tTest (tOp rLt (tVar 1) (tC (.int 0)))) (tOr (tTest (tOp rGtI (tVar 1) (tVar 2))) (tTest (tOp rGtI (tVar 2) (tOp (rIxT K) (tVar 0) (tC (.int 0)))))))
  (tRz (fun cls d _ H => E cls d H) (He.ga K "NoPlace"))
  tNext)
abbrev n_stretch_there : List Str := ["tables", "start", "stop"]

theorem rd_stretch_there (K : PySem.W.Frag) (vs : List V) (H : Hp) (Q : VK) (E : XK) (h : sp_stretch_there K vs H Q E) : t_stretch_there K E { nx := fun _ H' => Q .non H', rt := Q } (start n_stretch_there vs) H := by
  obtain ⟨t, a, b, n, ts, rfl, hT, q1, q2⟩ := h
  unfold t_stretch_there
  walk_at "st"
  walk_at "if" <;> intro c1
  · walk_at "st"
    exact q1 (.inl c1)
  walk_at "st"
  walk_at "if" <;> intro c2
  · walk_at "st"
    exact q1 (.inr (.inl c2))
  walk_at "st"
  refine k_ixT hT (at_nat (i := 0) (x := .int n) rfl) ?_
  walk_at "st"
  walk_at "if" <;> intro c3
  · walk_at "st"
    exact q1 (.inr (.inr c3))
  walk_at "st"
  exact q2 (by omega) (by omega) (by omega)

/-- between(tables, look, start, stop, low, high) -/
def sp_between (K : PySem.W.Frag) (CL : CLs) : Sp := fun vs H Q E => ∃ (t g : Addr) (a b lo hi : Int) (ks sg : List Int) (q : Option Addr) (D : Addr → Prop) (I : List Nat → Hp → Prop) (L : List Nat), vs = [.ref t, .ref g, .int a, .int b, .int lo, .int hi] ∧ SgAt K CL H t g ks sg q D I ∧ I L H ∧ L.length < 800 ∧ NdefX.TabN H (tabP K "level_row") nmL ∧
  ((a < 0 ∨ b < a ∨ (sg.length : Int) < b) → E (.ref (He.ga K "NoPlace")) none H) ∧
  (∀ s e : Nat, a = (s : Int) → b = (e : Int) → s ≤ e → e ≤ sg.length → ∀ H' L2, Few ks sg (4 * lvK ks) L2 → I (L ++ L2) H' → SameX q H H' → Q (.int ((((seg sg s e).filter fun y => decide (lo ≤ y ∧ y < hi)).length : Nat) : Int)) H')
theorem len_between (K : PySem.W.Frag) (CL : CLs) : ∀ vs H Q E, sp_between K CL vs H Q E → vs.length = 6 := by
  rintro vs H Q E ⟨t, g, x, _, _, _, _, _, _, _, _, _, rfl, _⟩; rfl
def t_between (K : PySem.W.Frag) (CL : CLs) (E : XK) : TS :=
  (tSeq (tDrop (tCall (sp_stretch_there K) [] E (tCons (tVar 0) (tCons (tVar 2) (tCons (tVar 3) tNil)))))
  (tSeq (tIfS (tTest (tOp rGeI (tVar 4) (tVar 5)))
  (tRet (tC (.int 0)))
  tNext)
  (tSeq (tAsg (tCall (sp_below K CL) [] E (tCons (tVar 0) (tCons (tVar 1) (tCons (tVar 2) (tCons (tVar 3) (tCons (tCall (sp_rank_of K) [] E0 (tCons (tOp (rIxT K) (tVar 0) (tC (.int 1))) (tCons (tVar 5) tNil))) tNil)))))) (gName 6))
  (tRet (tOp rMinus (tVar 6) (tCall (sp_below K CL) [] E (tCons (tVar 0) (tCons (tVar 1) (tCons (tVar 2) (tCons (tVar 3) (tCons (tCall (sp_rank_of K) [] E0 (tCons (tOp (rIxT K) (tVar 0) (tC (.int 1))) (tCons (tVar 4) tNil))) tNil)))))))))))
abbrev n_between : List Str := ["tables", "look", "start", "stop", "low", "high", "found"]

theorem rd_between (K : PySem.W.Frag) (CL : CLs) (vs : List V) (H : Hp) (Q : VK) (E : XK) (h : sp_between K CL vs H Q E) : t_between K CL E { nx := fun _ H' => Q .non H', rt := Q } (start n_between vs) H := by
  obtain ⟨t, g, a, b, lo, hi, ks, sg, q, D, I, L, rfl, S, i0, hL, hTb, q1, q2⟩ := h
  obtain ⟨pk, pa, as, h1, h2, h3, h4, h5⟩ := S.tab
  have hlv := lvK_le S.isk S.len
  unfold t_between
  walk_at "st"
  refine ⟨t, a, b, _, _, rfl, h1, q1, fun ha hab hb => ?_⟩
  obtain ⟨s, rfl⟩ := Int.eq_ofNat_of_zero_le ha
  obtain ⟨e, rfl⟩ := Int.eq_ofNat_of_zero_le (show 0 ≤ b by omega)
  have hse : s ≤ e := by omega
  have he : e ≤ sg.length := by omega
  walk_at "st"
  walk_at "if" <;> intro c
  · walk_at "st"
    have := q2 s e rfl rfl hse he H [] ((Few.nil ks sg).le (Nat.zero_le _)) (by rw [List.append_nil]; exact i0) ((Same.refl H).toX (S.look.isq i0))
    rw [List.filter_eq_nil_iff.mpr fun y _ => by simp only [decide_eq_true_eq]; omega] at this
    exact this
  walk_at "st"
  refine k_ixT h1 (x := .ref pk) rfl ?_
  walk_at "st"
  refine ⟨pk, hi, ks, rfl, h2, S.isk.srt, ?_⟩
  walk_at "st"
  refine ⟨t, g, s, e, rk ks hi, ks, sg, q, D, I, L, rfl, S, i0, by omega, hse, he, rk_le _ _, hTb, fun H2 L2 hF2 i2 X2 => ?_⟩
  have hl2 := hF2.len
  walk_at "st"
  refine k_ixT (X2.seqT h1) (x := .ref pk) rfl ?_
  walk_at "st"
  refine ⟨pk, lo, ks, rfl, X2.seqT h2, S.isk.srt, ?_⟩
  walk_at "st"
  refine ⟨t, g, s, e, rk ks lo, ks, sg, q, D, I, L ++ L2, rfl, S.moveX X2, i2, by rw [List.length_append]; omega, hse, he, rk_le _ _, X2.tabs _ hTb, fun H3 L3 hF3 i3 X3 => ?_⟩
  rw [List.append_assoc] at i3
  have hm : seg (ranks ks sg) s e = (seg sg s e).map (rk ks) := seg_map _ _ _ _
  rw [hm, rank_less S.isk hi _ fun y hy => seg_mem hy, rank_less S.isk lo _ fun y hy => seg_mem hy]
  have h2l := less_two lo hi (by omega) (seg sg s e)
  walk_at "st"
  have := q2 s e rfl rfl hse he H3 (L2 ++ L3) ((hF2.add hF3).le (by omega)) i3 (X2.trans X3)
  rw [show ((((seg sg s e).filter fun y => decide (y < hi)).length : Nat) : Int) - ((((seg sg s e).filter fun y => decide (y < lo)).length : Nat) : Int) = ((((seg sg s e).filter fun y => decide (lo ≤ y ∧ y < hi)).length : Nat) : Int) by omega]
  exact this

/-- so_manieth(tables, look, start, stop, nth) -/
def sp_so_manieth (K : PySem.W.Frag) (CL : CLs) : Sp := fun vs H Q E => ∃ (t g : Addr) (a b c : Int) (ks sg : List Int) (q : Option Addr) (D : Addr → Prop) (I : List Nat → Hp → Prop) (L : List Nat), vs = [.ref t, .ref g, .int a, .int b, .int c] ∧ SgAt K CL H t g ks sg q D I ∧ I L H ∧ L.length < 900 ∧ NdefX.TabN H (tabP K "level_row") nmL ∧
  ((a < 0 ∨ b < a ∨ (sg.length : Int) < b ∨ c < 0 ∨ b - a ≤ c) → E (.ref (He.ga K "NoPlace")) none H) ∧
  (∀ s e k : Nat, a = (s : Int) → b = (e : Int) → c = (k : Int) → s ≤ e → e ≤ sg.length → k < e - s → ∀ (y : Int) H' L2, ((seg sg s e).filter fun x => decide (x < y)).length ≤ k → k < ((seg sg s e).filter fun x => decide (x < y)).length + ((seg sg s e).filter fun x => decide (x = y)).length → Few ks sg (2 * lvK ks) L2 → I (L ++ L2) H' → SameX q H H' → Q (.int y) H')
theorem len_so_manieth (K : PySem.W.Frag) (CL : CLs) : ∀ vs H Q E, sp_so_manieth K CL vs H Q E → vs.length = 5 := by
  rintro vs H Q E ⟨t, g, x, _, _, _, _, _, _, _, _, rfl, _⟩; rfl
def t_so_manieth (K : PySem.W.Frag) (CL : CLs) (E : XK) : TS :=
  (tSeq (tDrop (tCall (sp_stretch_there K) [] E (tCons (tVar 0) (tCons (tVar 2) (tCons (tVar 3) tNil)))))
  (tSeq (tIfS (tOr (tTest (tOp rLt (tVar 4) (tC (.int 0)))) (tTest (tOp rGeI (tVar 4) (tOp rMinus (tVar 3) (tVar 2)))))
  (tRz (fun cls d _ H => E cls d H) (He.ga K "NoPlace"))
  tNext)
  (tSeq (tAsg (tC (.int 0)) (gName 5))
  (tSeq (tFor (iRng1 (tCons (tCB (rLen K) (tCons (tOp (rIxT K) (tVar 0) (tC (.int 2))) tNil)) tNil)) (gName 6)
  (tSeq (tAsg (tCall (sp_halves K CL) [] E (tCons (tVar 0) (tCons (tVar 1) (tCons (tVar 6) (tCons (tVar 2) (tCons (tVar 3) tNil)))))) (gTup K 2 (gCons (gName 7) (gCons (gName 8) gNil))))
  (tSeq (tAsg (tOp rMinus (tOp (rIxT K) (tVar 7) (tC (.int 1))) (tOp (rIxT K) (tVar 7) (tC (.int 0)))) (gName 9))
  (tSeq (tAug 5 (tVar 5) (ipI fun i j => i + j))
  (tIfS (tTest (tOp rLt (tVar 4) (tVar 9)))
  (tAsg (tVar 7) (gTup K 2 (gCons (gName 2) (gCons (gName 3) gNil))))
  (tSeq (tAug 5 (tC (.int 1)) (ipI fun i j => i + j))
  (tSeq (tAug 4 (tVar 9) (ipI fun i j => i - j))
  (tAsg (tVar 8) (gTup K 2 (gCons (gName 2) (gCons (gName 3) gNil)))))))))))
  (tRet (tOp (rIxT K) (tOp (rIxT K) (tVar 0) (tC (.int 1))) (tVar 5)))))))
abbrev n_so_manieth : List Str := ["tables", "look", "start", "stop", "nth", "rank", "level", "noughts", "ones", "many"]

theorem rd_so_manieth (K : PySem.W.Frag) (CL : CLs) (vs : List V) (H : Hp) (Q : VK) (E : XK) (h : sp_so_manieth K CL vs H Q E) : t_so_manieth K CL E { nx := fun _ H' => Q .non H', rt := Q } (start n_so_manieth vs) H := by
  obtain ⟨t, g, a, b, c, ks, sg, q, D, I, L, rfl, S, i0, hL, hTb, q1, q2⟩ := h
  obtain ⟨pk, pa, as, h1, h2, h3, h4, h5⟩ := S.tab
  have hlv := lvK_le S.isk S.len
  unfold t_so_manieth
  walk_at "st"
  refine ⟨t, a, b, _, _, rfl, h1, fun z => q1 (by omega), fun ha hab hb => ?_⟩
  walk_at "st"
  walk_at "if" <;> intro c1
  · walk_at "st"
    exact q1 (by omega)
  walk_at "st"
  walk_at "if" <;> intro c2
  · walk_at "st"
    exact q1 (by omega)
  obtain ⟨s, rfl⟩ := Int.eq_ofNat_of_zero_le ha
  obtain ⟨e, rfl⟩ := Int.eq_ofNat_of_zero_le (show 0 ≤ b by omega)
  obtain ⟨k, rfl⟩ := Int.eq_ofNat_of_zero_le (show 0 ≤ c by omega)
  have hse : s ≤ e := by omega
  have he : e ≤ sg.length := by omega
  have hk : k < e - s := by omega
  have her : e ≤ (ranks ks sg).length := by rw [ranks_len]; exact he
  walk_at "st"
  refine k_ixT h1 (x := .ref pa) rfl ?_
  walk_at "st"
  refine k_lenT h3 ?_
  walk_at "st"
  rw [List.length_map, h4]
  obtain ⟨S0, hS0⟩ : ∃ S0, S0 = seg (ranks ks sg) s e := ⟨_, rfl⟩
  have hall : seg (ranks ks sg) s e = S0.filter fun x => decide (pre (lvK ks) 0 x = 0) := by
    rw [hS0]
    refine (List.filter_eq_self.mpr fun x hx => decide_eq_true ?_).symm
    rw [pre_zero (rank_lt S.isk (seg_mem hx)).2]
  refine loop_range0 (fun l σ' H' => ∃ (s' e' p k' : Nat) (L2 : List Nat) (v6 v7 v8 v9 : Option V), l ≤ lvK ks ∧ s' ≤ e' ∧ e' ≤ sg.length ∧ (seg (rowsW (lvK ks) (ranks ks sg) l) s' e' = S0.filter fun x => decide (pre (lvK ks) l x = p)) ∧ ltP (lvK ks) l p S0 + k' = k ∧ k' < e' - s' ∧ Few ks sg (2 * l) L2 ∧ I (L ++ L2) H' ∧ SameX q H H' ∧ σ' = [some (.ref t), some (.ref g), some (.int (s' : Int)), some (.int (e' : Int)), some (.int (k' : Int)), some (.int (p : Int)), v6, v7, v8, v9]) ⟨s, e, 0, k, [], none, none, none, none, Nat.zero_le _, hse, he, hall, by rw [ltP_zero, Nat.zero_add], hk, Few.nil _ _, by rw [List.append_nil]; exact i0, (Same.refl H).toX (S.look.isq i0), rfl⟩ (fun l σ' H' hl ⟨s', e', p, k', L2, v6, v7, v8, v9, _, hse', he', hS, hlt, hk', hF, iL, X, es⟩ => ?_) (fun σ' H' ⟨s', e', p, k', L2, v6, v7, v8, v9, _, hse', he', hS, hlt, hk', hF, iL, X, es⟩ => ?_)
  · subst es
    have hlen := hF.len
    have her' : e' ≤ (ranks ks sg).length := by rw [ranks_len]; exact he'
    walk_at "st"
    refine ⟨t, g, l, s', e', ks, sg, q, D, I, L ++ L2, rfl, S.moveX X, iL, by rw [List.length_append]; omega, hl, hse', he', X.tabs _ hTb, fun p0 p1 p2 H2 L3 hF3 i3 X3 e0 e1 e2 => ?_⟩
    have X2 := X.trans X3
    rw [List.append_assoc] at i3
    walk_at "st"
    refine m_gTup (.of e0) rfl ?_
    walk_at "st"
    refine k_ixT (.of e1) (x := .int (nW (lvK ks) (ranks ks sg) l e' : Nat)) rfl ?_
    walk_at "st"
    refine k_ixT (.of e1) (x := .int (nW (lvK ks) (ranks ks sg) l s' : Nat)) rfl ?_
    walk_at "st"
    have hF' := (hF.add hF3).le (show 2 * l + 2 ≤ 2 * (l + 1) by omega)
    have dn := down_n hl hse' her' hS
    have du := down_u hl hse' hS
    have hd := congrArg List.length dn
    rw [seg_length (by rw [rowsW_len]; exact Nat.le_trans (nW_le (L := lvK ks) (l := l) her') (by have := zuW (L := lvK ks) (l := l) her'; omega))] at hd
    have hm := nW_mono (L := lvK ks) (row := ranks ks sg) (l := l) hse'
    have n1 := nuW (L := lvK ks) (l := l) (show s' ≤ (ranks ks sg).length by omega)
    have n2 := nuW (L := lvK ks) (l := l) her'
    have zu := zuW (L := lvK ks) (l := l) her'
    have nz := nW_le (L := lvK ks) (l := l) her'
    rw [ranks_len] at zu
    walk_at "if" <;> intro c3
    · walk_at "st"
      refine m_gTup (.of e1) rfl ?_
      walk_at "st"
      refine ⟨_, _, 2 * p, k', L2 ++ L3, some (.int (l : Int)), some (.ref p1), some (.ref p2), some (.int ((nW (lvK ks) (ranks ks sg) l e' : Nat) - (nW (lvK ks) (ranks ks sg) l s' : Nat))), hl, hm, by omega, dn, by rw [ltP_n hl]; exact hlt, by omega, hF', i3, X2, ?_⟩
      rw [show (p : Int) + (p : Int) = ((2 * p : Nat) : Int) by omega]; rfl
    · walk_at "st"
      refine m_gTup (.of e2) rfl ?_
      walk_at "st"
      have hu : ltP (lvK ks) (l + 1) (2 * p + 1) S0 = ltP (lvK ks) l p S0 + eqP (lvK ks) (l + 1) (2 * p) S0 := ltP_u hl S0
      unfold eqP at hu
      rw [← hd] at hu
      refine ⟨_, _, 2 * p + 1, k' - (nW (lvK ks) (ranks ks sg) l e' - nW (lvK ks) (ranks ks sg) l s'), L2 ++ L3, some (.int (l : Int)), some (.ref p1), some (.ref p2), some (.int ((nW (lvK ks) (ranks ks sg) l e' : Nat) - (nW (lvK ks) (ranks ks sg) l s' : Nat))), hl, Nat.add_le_add_left (uW_mono hse') _, zu, du, by omega, by omega, hF', i3, X2, ?_⟩
      rw [show (p : Int) + (p : Int) + 1 = ((2 * p + 1 : Nat) : Int) by omega, show (k' : Int) - ((nW (lvK ks) (ranks ks sg) l e' : Nat) - (nW (lvK ks) (ranks ks sg) l s' : Nat)) = ((k' - (nW (lvK ks) (ranks ks sg) l e' - nW (lvK ks) (ranks ks sg) l s') : Nat) : Int) by omega]
      rfl
  subst es
  rw [ltP_end] at hlt
  simp only [pre_end] at hS
  have hle := congrArg List.length hS
  rw [seg_length (by rw [rowsW_len, ranks_len]; exact he')] at hle
  have hp : p ∈ ranks ks sg := by
    have h7 : 0 < (S0.filter fun x => decide (x = p)).length := by omega
    obtain ⟨x, hx⟩ := List.exists_mem_of_length_pos h7
    obtain ⟨hx1, hx2⟩ := List.mem_filter.mp hx
    have : x = p := by simpa using hx2
    subst this
    rw [hS0] at hx1
    exact seg_mem hx1
  obtain ⟨y, hy, rfl⟩ := List.mem_map.mp hp
  have hyk := (S.isk.mem y).mpr hy
  have hm2 : S0 = (seg sg s e).map (rk ks) := by rw [hS0]; exact seg_map _ _ _ _
  rw [hm2, rank_less S.isk y _ fun z hz => seg_mem hz] at hlt
  rw [hm2, rank_count S.isk hyk _ fun z hz => seg_mem hz] at hle
  walk_at "st"
  refine k_ixT (X.seqT h1) (x := .ref pk) rfl ?_
  walk_at "st"
  refine k_ixT (X.seqT h2) (at_nat (mapint (get_rk S.isk.srt hyk))) ?_
  walk_at "st"
  exact q2 s e k rfl rfl rfl hse he hk y H' L2 (by omega) (by omega) hF iL X

/-! the stretches of a level, each of those that begin alike -/
abbrev Prt := Nat × Nat × Nat
def ne3 (t : Prt) : Bool := decide (t.2.1 < t.2.2)
def fine3 (L : Nat) (row : List Nat) (l : Nat) (t : Prt) : List Prt :=
  if t.2.1 < t.2.2 then [(2 * t.1, nW L row l t.2.1, nW L row l t.2.2), (2 * t.1 + 1, zW L row l + uW L row l t.2.1, zW L row l + uW L row l t.2.2)] else []
structure PartsOk (L : Nat) (row S : List Nat) (l : Nat) (pl : List Prt) : Prop where
  inc : pl.Pairwise fun a b => a.1 < b.1
  ok : ∀ t ∈ pl, t.2.1 ≤ t.2.2 ∧ t.2.2 ≤ row.length ∧ seg (rowsW L row l) t.2.1 t.2.2 = S.filter fun x => decide (pre L l x = t.1)
  cov : ∀ x ∈ S, ∃ t ∈ pl, pre L l x = t.1
  few : pl.length ≤ 2 ^ l
theorem fine_le (L : Nat) (row : List Nat) (l : Nat) : ∀ pl : List Prt, (pl.flatMap (fine3 L row l)).length ≤ 2 * pl.length
  | [] => by simp
  | t :: pl => by
    have := fine_le L row l pl
    rw [List.flatMap_cons, List.length_append, List.length_cons]
    have h2 : (fine3 L row l t).length ≤ 2 := by unfold fine3; split <;> simp
    omega
theorem fine_mem {L : Nat} {row : List Nat} {l : Nat} {t u : Prt} (h : u ∈ fine3 L row l t) : t.2.1 < t.2.2 ∧ (u = (2 * t.1, nW L row l t.2.1, nW L row l t.2.2) ∨ u = (2 * t.1 + 1, zW L row l + uW L row l t.2.1, zW L row l + uW L row l t.2.2)) := by
  unfold fine3 at h
  split at h
  · exact ⟨‹_›, by simpa using h⟩
  · simp at h
theorem PartsOk.next {L : Nat} {row S : List Nat} {l : Nat} {pl : List Prt} (h : PartsOk L row S l pl) (hl : l < L) : PartsOk L row S (l + 1) (pl.flatMap (fine3 L row l)) := by
  refine ⟨?_, fun u hu => ?_, fun x hx => ?_, ?_⟩
  · rw [List.pairwise_flatMap]
    refine ⟨fun t _ => ?_, h.inc.imp fun {a b} hab x hx y hy => ?_⟩
    · unfold fine3
      split
      · simp
      · exact List.Pairwise.nil
    · obtain ⟨_, hx⟩ := fine_mem hx
      obtain ⟨_, hy⟩ := fine_mem hy
      rcases hx with rfl | rfl <;> rcases hy with rfl | rfl <;> show _ < _ <;> omega
  · obtain ⟨t, ht, hu⟩ := List.mem_flatMap.mp hu
    obtain ⟨h1, h2, h3⟩ := h.ok t ht
    obtain ⟨hlt, hu⟩ := fine_mem hu
    rcases hu with rfl | rfl
    · exact ⟨nW_mono h1, Nat.le_trans (nW_le h2) (by have := zuW (L := L) (l := l) h2; omega), down_n hl h1 h2 h3⟩
    · exact ⟨Nat.add_le_add_left (uW_mono h1) _, zuW h2, down_u hl h1 h3⟩
  · obtain ⟨t, ht, hp⟩ := h.cov x hx
    obtain ⟨h1, h2, h3⟩ := h.ok t ht
    have hm : x ∈ seg (rowsW L row l) t.2.1 t.2.2 := by rw [h3]; exact List.mem_filter.mpr ⟨hx, decide_eq_true hp⟩
    have hlt : t.2.1 < t.2.2 := by
      have := List.length_pos_of_mem hm
      rw [seg_length (by rw [rowsW_len]; exact h2)] at this
      omega
    have pn := pre_next (r := x) hl
    rcases wb_le (L - 1 - l) x with z | z
    · exact ⟨(2 * t.1, nW L row l t.2.1, nW L row l t.2.2), List.mem_flatMap.mpr ⟨t, ht, by unfold fine3; rw [if_pos hlt]; simp⟩, by rw [pn, z, hp]; rfl⟩
    · exact ⟨(2 * t.1 + 1, _, _), List.mem_flatMap.mpr ⟨t, ht, by unfold fine3; rw [if_pos hlt]; exact List.mem_cons_of_mem _ List.mem_cons_self⟩, by rw [pn, z, hp]⟩
  · have := fine_le L row l pl
    have := h.few
    rw [Nat.pow_succ]; omega
/-- so many are not empty -/
theorem PartsOk.count {L : Nat} {row S : List Nat} {l : Nat} {pl : List Prt} (h : PartsOk L row S l pl) {D : List Nat} (hD : ∀ x ∈ S, x ∈ D) : (pl.filter ne3).length ≤ D.length := by
  have hn : ((pl.filter ne3).map (·.1)).Nodup := by
    have h1 : (pl.filter ne3).Pairwise fun a b => a.1 < b.1 := h.inc.sublist List.filter_sublist
    rw [List.Nodup, List.pairwise_map]
    exact h1.imp fun {a b} z => by omega
  have hs : ((pl.filter ne3).map (·.1)) ⊆ D.map (pre L l) := fun p hp => by
    obtain ⟨t, ht, rfl⟩ := List.mem_map.mp hp
    obtain ⟨ht, hne⟩ := List.mem_filter.mp ht
    obtain ⟨h1, h2, h3⟩ := h.ok t ht
    have hlt : t.2.1 < t.2.2 := by simpa [ne3] using hne
    have hlen := congrArg List.length h3
    rw [seg_length (by rw [rowsW_len]; exact h2)] at hlen
    obtain ⟨x, hx⟩ := List.exists_mem_of_length_pos (show 0 < (S.filter fun x => decide (pre L l x = t.1)).length by omega)
    obtain ⟨hx1, hx2⟩ := List.mem_filter.mp hx
    have hx3 : pre L l x = t.1 := by simpa using hx2
    rw [← hx3]
    exact List.mem_map_of_mem (hD x hx1)
  have := List.Nodup.length_le_of_subset hn hs
  rw [List.length_map, List.length_map] at this
  exact this
/-- behind the last level: the unlike ones, rising -/
theorem PartsOk.end_ {L : Nat} {row S : List Nat} {pl : List Prt} (h : PartsOk L row S L pl) : ((pl.filter ne3).map (·.1)).Pairwise (· < ·) ∧ (∀ x, x ∈ (pl.filter ne3).map (·.1) ↔ x ∈ S) ∧ ∀ t ∈ pl, t.2.2 - t.2.1 = (S.filter fun x => decide (x = t.1)).length := by
  have hc : ∀ t ∈ pl, t.2.2 - t.2.1 = (S.filter fun x => decide (x = t.1)).length := fun t ht => by
    obtain ⟨h1, h2, h3⟩ := h.ok t ht
    have hlen := congrArg List.length h3
    rw [seg_length (by rw [rowsW_len]; exact h2)] at hlen
    simp only [pre_end] at hlen
    exact hlen
  refine ⟨?_, fun x => ⟨fun hx => ?_, fun hx => ?_⟩, hc⟩
  · rw [List.pairwise_map]
    exact h.inc.sublist List.filter_sublist
  · obtain ⟨t, ht, rfl⟩ := List.mem_map.mp hx
    obtain ⟨ht, hne⟩ := List.mem_filter.mp ht
    have hlt : t.2.1 < t.2.2 := by simpa [ne3] using hne
    have := hc t ht
    obtain ⟨x, hx⟩ := List.exists_mem_of_length_pos (show 0 < (S.filter fun x => decide (x = t.1)).length by omega)
    obtain ⟨hx1, hx2⟩ := List.mem_filter.mp hx
    have hx3 : x = t.1 := by simpa using hx2
    rw [← hx3]; exact hx1
  · obtain ⟨t, ht, hp⟩ := h.cov x hx
    rw [pre_end] at hp
    subst hp
    refine List.mem_map.mpr ⟨t, List.mem_filter.mpr ⟨ht, ?_⟩, rfl⟩
    have := hc t ht
    have h2 := List.length_pos_of_mem (List.mem_filter.mpr ⟨hx, decide_eq_true (rfl : t.1 = t.1)⟩ : t.1 ∈ S.filter fun x => decide (x = t.1))
    unfold ne3
    exact decide_eq_true (by omega)
/-- one part: all of a stretch -/
theorem PartsOk.start {L : Nat} {row : List Nat} {s e : Nat} (h : s ≤ e) (he : e ≤ row.length) (hr : ∀ x ∈ row, x < 2 ^ L) : PartsOk L row (seg row s e) 0 [(0, s, e)] := by
  have h0 : ∀ x ∈ seg row s e, pre L 0 x = 0 := fun x hx => pre_zero (hr x (seg_mem hx))
  refine ⟨List.pairwise_singleton _ _, fun t ht => ?_, fun x hx => ⟨_, List.mem_singleton_self _, h0 x hx⟩, by simp⟩
  rw [List.mem_singleton.mp ht]
  exact ⟨h, he, (List.filter_eq_self.mpr fun x hx => decide_eq_true (h0 x hx)).symm⟩

/-- a list that a look does not lean on may change -/
theorem LookJ.mut {CL : CLs} {j : Nat} {g : Addr} {n : Nat} {val : Nat → V} {q : Option Addr} {D : Addr → Prop} {I : List Nat → Hp → Prop} (R : LookJ CL j g n val q D I) {L : List Nat} {H : Hp} {p : Addr} {o : HO} (i : I L H) (nd : ¬ D p) : I L (upd H p o) := by
  have h1 := R.hid (fun b => b = p) i fun b z d => nd (z ▸ d)
  have h2 := R.unh (H := upd H p o) (fun b => b = p) h1 fun b z d => nd (z ▸ d)
  have e : unhide (fun b => b = p) (upd H p o) (hide (fun b => b = p) H) = upd H p o := by
    funext b
    by_cases z : b = p
    · exact unhide_in (C := fun b => b = p) z
    · exact (unhide_out (C := fun b => b = p) z).trans ((hide_out (C := fun b => b = p) z).trans (upd_ne z).symm)
  rw [e] at h2; exact h2
theorem sameX_mutF {q : Option Addr} {H H1 : Hp} {p : Addr} {xs ys : List V} (s : SameX q H H1) (hp : H p = none) (e : H1 p = some (.lst xs)) : SameX q H (upd H1 p (.lst ys)) := by
  have sp : SameX (some p) H1 (upd H1 p (.lst ys)) := SameX.of (fun b z => by cases z; exact ⟨_, e⟩) (fun b z => by cases z; exact ⟨_, upd_same⟩) fun b o n eb => by rw [upd_ne fun z => n (by rw [z])]; exact eb
  have hq : ∀ p', q = some p' → p' ≠ p := fun p' z w => by
    obtain ⟨ys, ey⟩ := s.isl p' z
    rw [w, hp] at ey; cases ey
  refine ⟨fun b o n eb nt => ?_, fun b eb => ?_, fun P t => sp.tabs P (s.tabs P t), s.isl, fun p' z => ?_⟩
  · have : b ≠ p := fun z => by rw [z, hp] at eb; cases eb
    rw [upd_ne this]; exact s.keep b o n eb nt
  · by_cases z : b = p
    · subst z; exact hp
    · rw [upd_ne z] at eb; exact s.gone b eb
  · rw [upd_ne (hq p' z)]; exact s.isl' p' z

/-- a list of stretches, each a tuple of three -/
def Rep3 (H : Hp) (p : Addr) (as : List Addr) (pl : List Prt) : Prop := H p = some (.lst (as.map V.ref)) ∧ as.length = pl.length ∧ ∀ (i : Nat) (t : Prt) b, pl[i]? = some t → as[i]? = some b → H b = some (.tup [.int (t.1 : Int), .int (t.2.1 : Int), .int (t.2.2 : Int)])
theorem Rep3.x {q : Option Addr} {H H' : Hp} {p : Addr} {as : List Addr} {pl : List Prt} (h : Rep3 H p as pl) (s : SameX q H H') (n : q ≠ some p) : Rep3 H' p as pl := ⟨s.get n h.1, h.2.1, fun i t b e1 e2 => s.tup (h.2.2 i t b e1 e2)⟩
theorem Rep3.same {H H' : Hp} {p : Addr} {as : List Addr} {pl : List Prt} (h : Rep3 H p as pl) (s : Same H H') : Rep3 H' p as pl := ⟨s.get h.1, h.2.1, fun i t b e1 e2 => s.get (h.2.2 i t b e1 e2)⟩
theorem Rep3.other {H : Hp} {p p' : Addr} {as : List Addr} {pl : List Prt} {xs ys : List V} (h : Rep3 H p as pl) (n : p ≠ p') (e : H p' = some (.lst xs)) : Rep3 (upd H p' (.lst ys)) p as pl :=
  ⟨by rw [upd_ne n]; exact h.1, h.2.1, fun i t b e1 e2 => by
    have := h.2.2 i t b e1 e2
    rw [upd_ne fun z => by rw [z, e] at this; cases this]; exact this⟩
theorem Rep3.add {H : Hp} {p b : Addr} {as : List Addr} {pl : List Prt} {t : Prt} (h : Rep3 H p as pl) (e : H b = some (.tup [.int (t.1 : Int), .int (t.2.1 : Int), .int (t.2.2 : Int)])) : Rep3 (upd H p (.lst (as.map V.ref ++ [.ref b]))) p (as ++ [b]) (pl ++ [t]) := by
  obtain ⟨h1, h2, h3⟩ := h
  refine ⟨by rw [upd_same, List.map_append]; rfl, by rw [List.length_append, List.length_append, h2]; rfl, fun i u c e1 e2 => ?_⟩
  have nt : ∀ {z : Addr} {xs : List V}, H z = some (.tup xs) → z ≠ p := fun {z xs} e w => by rw [w, h1] at e; cases e
  rcases Nat.lt_or_ge i as.length with w | w
  · rw [List.getElem?_append_left (by omega)] at e1
    rw [List.getElem?_append_left w] at e2
    have := h3 i u c e1 e2
    rw [upd_ne (nt this)]; exact this
  · rw [List.getElem?_append_right (by omega)] at e1
    rw [List.getElem?_append_right w] at e2
    have hl := (List.getElem?_eq_some_iff.mp e2).1
    rw [List.length_singleton] at hl
    rw [show i - as.length = 0 by omega] at e2
    rw [show i - pl.length = 0 by omega] at e1
    obtain rfl : b = c := Option.some.inj e2
    obtain rfl : t = u := Option.some.inj e1
    rw [upd_ne (nt e)]; exact e
theorem filter_range {α : Type} (p : α → Bool) (d : α) (xs : List α) : xs.filter p = ((List.range xs.length).filter fun k => p (xs.getD k d)).map fun k => xs.getD k d := by
  have e : xs = (List.range xs.length).map fun k => xs.getD k d := by
    refine List.ext_getElem? fun i => ?_
    rw [List.getElem?_map]
    rcases Nat.lt_or_ge i xs.length with h | h
    · rw [List.getElem?_range h, List.getElem?_eq_getElem h]
      show _ = some (xs.getD i d)
      rw [List.getD_eq_getElem?_getD, List.getElem?_eq_getElem h]; rfl
    · rw [List.getElem?_eq_none h, List.getElem?_eq_none (by rw [List.length_range]; exact h)]; rfl
  conv => lhs; rw [e]
  rw [List.filter_map]; rfl

/-- a comprehension that makes a tuple for each item that a test lets through -/
theorem comp_tups {K : PySem.W.Frag} {σ : L2.St} {H : Hp} {Q : VK} {a : Addr} {xs : List V} {te : TE} {tt : TT} {g : TG} {vs : List Nat} (p : Nat → Bool) (c : Nat → List V) (hl : SqL K H a xs) (hn : xs.length ≤ 100000)
    (he : ∀ (k : Nat) (x : V) (H1 : Hp) (Q2 : VK) (Qn : Hp → Prop), xs[k]? = some x → Same H H1 → (p k = true → ∀ b H3, H1 b = none → Same H1 H3 → H3 b = some (.tup (c k)) → Q2 (.ref b) H3) → (p k = false → ∀ H3, Same H1 H3 → Qn H3) → g x (wipe σ vs) H1 fun σ2 H2 => wipe σ2 vs = wipe σ vs ∧ tt σ2 H2 fun b H3 => if b = true then te σ2 H3 Q2 else Qn H3)
    (q : ∀ pd H' (as : List Addr), H pd = none → Same H H' → H' pd = some (.lst (as.map V.ref)) → as.length = ((List.range xs.length).filter p).length → (∀ (i k : Nat) b, ((List.range xs.length).filter p)[i]? = some k → as[i]? = some b → H' b = some (.tup (c k))) → Q (.ref pd) H') : CompOk (Itl K a) g tt te vs σ H Q := by
  intro Dl hD
  refine lc_list (xs := xs) (fun i H' => Same H H' ∧ ∃ as : List Addr, H' Dl = some (.lst (as.map V.ref)) ∧ as.length = ((List.range i).filter p).length ∧ ∀ (j k : Nat) b, ((List.range i).filter p)[j]? = some k → as[j]? = some b → H' b = some (.tup (c k))) ⟨same_new hD, [], upd_same, rfl, fun j k b e => by simp at e⟩ (fun i H' _ p => p.1.seq hl) (fun i x H' hi pv => ?_) (fun H' pv => ?_)
  · obtain ⟨p1, as, p2, p3, p4⟩ := pv
    have hlt : i < xs.length := (List.getElem?_eq_some_iff.mp hi).1
    have er : (List.range (i + 1)).filter p = (List.range i).filter p ++ (if p i = true then [i] else []) := by
      rw [List.range_succ, List.filter_append]
      congr 1
      rw [List.filter_cons]; rfl
    have hle : as.length ≤ i := by rw [p3]; exact Nat.le_trans (List.length_filter_le _ _) (by rw [List.length_range]; exact Nat.le_refl _)
    refine he i x H' _ _ hi p1 (fun hp b H3 hb s3 e3 => ?_) (fun hp H3 s3 => ?_)
    · rw [if_pos hp] at er
      refine ⟨_, s3.get p2, by rw [List.length_map]; exact Nat.lt_of_le_of_lt hle (Nat.lt_of_lt_of_le (Nat.lt_of_lt_of_le hlt hn) (by decide)), Same.mut (p1.trans s3) hD ⟨_, s3.get p2⟩, as ++ [b], by rw [upd_same, List.map_append]; rfl, by rw [er, List.length_append, List.length_append, p3]; rfl, fun j k z e1 e2 => ?_⟩
      have nt : ∀ {z : Addr} {t : List V}, H3 z = some (.tup t) → z ≠ Dl := fun {z t} e w => by rw [w, s3.get p2] at e; cases e
      rw [er] at e1
      rcases Nat.lt_or_ge j as.length with w | w
      · rw [List.getElem?_append_left (by omega)] at e1
        rw [List.getElem?_append_left w] at e2
        have := s3.get (p4 j k z e1 e2)
        rw [upd_ne (nt this)]; exact this
      · rw [List.getElem?_append_right (by omega)] at e1
        rw [List.getElem?_append_right w] at e2
        have h1 := (List.getElem?_eq_some_iff.mp e2).1
        rw [List.length_singleton] at h1
        rw [show j - as.length = 0 by omega] at e2
        rw [show j - ((List.range i).filter p).length = 0 by omega] at e1
        obtain rfl : b = z := Option.some.inj e2
        obtain rfl : i = k := Option.some.inj e1
        rw [upd_ne (nt e3)]; exact e3
    · rw [if_neg (by rw [hp]; decide), List.append_nil] at er
      exact ⟨p1.trans s3, as, s3.get p2, by rw [er]; exact p3, fun j k z e1 e2 => s3.get (p4 j k z (by rw [← er]; exact e1) e2)⟩
  · obtain ⟨p1, as, p2, p3, p4⟩ := pv
    exact q Dl H' as hD p1 p2 p3 p4

/-- the sign of a rank -/
def sgnK (ks : List Int) (r : Nat) : Int := ks.getD r 0
theorem sgnK_rk {ks sg : List Int} (h : IsK ks sg) {y : Int} (hy : y ∈ sg) : sgnK ks (rk ks y) = y := by
  unfold sgnK
  rw [List.getD_eq_getElem?_getD, get_rk h.srt ((h.mem y).mpr hy)]; rfl
theorem hOf_le_of {n k : Nat} (h : n ≤ 2 ^ k) : hOf n ≤ k := by
  rcases Nat.lt_or_ge k (hOf n) with z | z
  · have := hOf_lt z; omega
  · exact z
theorem app2 {α : Type} (A : List α) (x y : α) : A ++ [x, y] = A ++ [x] ++ [y] := by rw [List.append_assoc]; rfl
/-- unlike(tables, look, start, stop) -/
def sp_unlike (K : PySem.W.Frag) (CL : CLs) : Sp := fun vs H Q E => ∃ (t g : Addr) (a b : Int) (ks sg : List Int) (q : Option Addr) (D : Addr → Prop) (I : List Nat → Hp → Prop) (L : List Nat), vs = [.ref t, .ref g, .int a, .int b] ∧ SgAt K CL H t g ks sg q D I ∧ I L H ∧ L.length < 900 ∧ lvK ks ≤ 10 ∧ NdefX.TabN H (tabP K "level_row") nmL ∧
  ((a < 0 ∨ b < a ∨ (sg.length : Int) < b) → E (.ref (He.ga K "NoPlace")) none H) ∧
  (∀ s e : Nat, a = (s : Int) → b = (e : Int) → s ≤ e → e ≤ sg.length → ∀ (p : Addr) (as : List Addr) (ds : List Int) H' L2, Few ks sg (2 * lvK ks * ds.length) L2 → L2.length ≤ 4 * 2 ^ lvK ks → I (L ++ L2) H' → SameX q H H' → q ≠ some p → H' p = some (.lst (as.map V.ref)) → as.length = ds.length → IsK ds (seg sg s e) → (∀ (i : Nat) (y : Int) c, ds[i]? = some y → as[i]? = some c → H' c = some (.tup [.int y, .int ((((seg sg s e).filter fun z => decide (z = y)).length : Nat) : Int)])) → Q (.ref p) H')
theorem len_unlike (K : PySem.W.Frag) (CL : CLs) : ∀ vs H Q E, sp_unlike K CL vs H Q E → vs.length = 4 := by
  rintro vs H Q E ⟨t, g, x, _, _, _, _, _, _, _, rfl, _⟩; rfl
def t_unlike (K : PySem.W.Frag) (CL : CLs) (E : XK) : TS :=
  (tSeq (tDrop (tCall (sp_stretch_there K) [] E (tCons (tVar 0) (tCons (tVar 2) (tCons (tVar 3) tNil)))))
  (tSeq (tAsg (tLst (tCons (tTup (tCons (tC (.int 0)) (tCons (tVar 2) (tCons (tVar 3) tNil)))) tNil)) (gName 4))
  (tSeq (tFor (iRng1 (tCons (tCB (rLen K) (tCons (tOp (rIxT K) (tVar 0) (tC (.int 2))) tNil)) tNil)) (gName 5)
  (tSeq (tAsg (tLst tNil) (gName 6))
  (tSeq (tFor (iList K (tVar 4)) (gTup K 3 (gCons (gName 7) (gCons (gName 8) (gCons (gName 9) gNil))))
  (tIfS (tTest (tOp rLt (tVar 8) (tVar 9)))
  (tSeq (tAsg (tCall (sp_halves K CL) [] E (tCons (tVar 0) (tCons (tVar 1) (tCons (tVar 5) (tCons (tVar 8) (tCons (tVar 9) tNil)))))) (gTup K 2 (gCons (gName 10) (gCons (gName 11) gNil))))
  (tSeq (tDrop (tBM K "list" rAppend (tVar 6) (tCons (tTup (tCons (tOp rTimes (tC (.int 2)) (tVar 7)) (tCons (tOp (rIxT K) (tVar 10) (tC (.int 0))) (tCons (tOp (rIxT K) (tVar 10) (tC (.int 1))) tNil)))) tNil)))
  (tDrop (tBM K "list" rAppend (tVar 6) (tCons (tTup (tCons (tOp rPlus (tOp rTimes (tC (.int 2)) (tVar 7)) (tC (.int 1))) (tCons (tOp (rIxT K) (tVar 11) (tC (.int 0))) (tCons (tOp (rIxT K) (tVar 11) (tC (.int 1))) tNil)))) tNil)))))
  tNext))
  (tAsg (tVar 6) (gName 4)))))
  (tRet (tLc (iList K (tVar 4)) (gTup K 3 (gCons (gName 7) (gCons (gName 8) (gCons (gName 9) gNil)))) (tTest (tOp rLt (tVar 8) (tVar 9))) (tTup (tCons (tOp (rIxT K) (tOp (rIxT K) (tVar 0) (tC (.int 1))) (tVar 7)) (tCons (tOp rMinus (tVar 9) (tVar 8)) tNil))) [7, 8, 9])))))
abbrev n_unlike : List Str := ["tables", "look", "start", "stop", "parts", "level", "finer", "rank", "one", "other", "noughts", "ones"]

theorem rd_unlike (K : PySem.W.Frag) (CL : CLs) (vs : List V) (H : Hp) (Q : VK) (E : XK) (h : sp_unlike K CL vs H Q E) : t_unlike K CL E { nx := fun _ H' => Q .non H', rt := Q } (start n_unlike vs) H := by
  obtain ⟨t, g, a, b, ks, sg, q, D, I, L, rfl, S, i0, hL, hlv, hTb, q1, q2⟩ := h
  obtain ⟨pk, pa, as, h1, h2, h3, h4, h5⟩ := S.tab
  have nqf : ∀ {p}, H p = none → q ≠ some p := fun {p} e z => by
    obtain ⟨xs, w⟩ := S.look.isq i0 p z
    rw [e] at w; cases w
  have nDf : ∀ {p}, H p = none → ¬ D p := fun {p} e z => S.look.dom i0 p z e
  unfold t_unlike
  walk_at "st"
  refine ⟨t, a, b, _, _, rfl, h1, q1, fun ha hab hb => ?_⟩
  obtain ⟨s, rfl⟩ := Int.eq_ofNat_of_zero_le ha
  obtain ⟨e, rfl⟩ := Int.eq_ofNat_of_zero_le (show 0 ≤ b by omega)
  have hse : s ≤ e := by omega
  have he : e ≤ sg.length := by omega
  have her : e ≤ (ranks ks sg).length := by rw [ranks_len]; exact he
  walk_at "st"
  intro u0 hu0
  have s1 := same_new (o := .tup [.int 0, .int (s : Int), .int (e : Int)]) hu0
  have w0 := upd_same (H := H) (a := u0) (o := .tup [.int 0, .int (s : Int), .int (e : Int)])
  generalize upd H u0 (.tup [.int 0, .int (s : Int), .int (e : Int)]) = H1 at s1 w0 ⊢
  walk_at "st"
  intro pp hpp
  have s2 := same_new (o := .lst [.ref u0]) hpp
  have w1 := upd_same (H := H1) (a := pp) (o := .lst [.ref u0])
  generalize upd H1 pp (.lst [.ref u0]) = H2 at s2 w1 ⊢
  have s12 := s1.trans s2
  have R0 : Rep3 H2 pp [u0] [(0, s, e)] := ⟨w1, rfl, fun i t b e1 e2 => by
    have hi := (List.getElem?_eq_some_iff.mp e1).1
    rw [List.length_singleton] at hi
    obtain rfl : i = 0 := by omega
    obtain rfl := Option.some.inj e1
    obtain rfl := Option.some.inj e2
    exact s2.get w0⟩
  walk_at "st"
  refine k_ixT (s12.seqT h1) (x := .ref pa) rfl ?_
  walk_at "st"
  refine k_lenT (s12.seqT h3) ?_
  walk_at "st"
  rw [List.length_map, h4]
  obtain ⟨S0, hS0⟩ : ∃ S0, S0 = seg (ranks ks sg) s e := ⟨_, rfl⟩
  have P0 : PartsOk (lvK ks) (ranks ks sg) S0 0 [(0, s, e)] := by rw [hS0]; exact PartsOk.start hse her fun x hx => (rank_lt S.isk hx).2
  -- the unlike ranks
  obtain ⟨D0, hD0n, hD0⟩ : ∃ D0 : List Nat, D0.Nodup ∧ ∀ x, x ∈ D0 ↔ x ∈ S0 := ⟨(List.range (2 ^ lvK ks)).filter (fun x => decide (x ∈ S0)), List.nodup_range.sublist List.filter_sublist, fun x => by
    rw [List.mem_filter, List.mem_range, decide_eq_true_eq]
    exact ⟨fun z => z.2, fun z => ⟨(rank_lt S.isk (seg_mem (hS0 ▸ z))).2, z⟩⟩⟩
  refine loop_range0 (fun l σ' H' => ∃ (pp : Addr) (as : List Addr) (pl : List Prt) (L2 : List Nat) (v5 v6 v7 v8 v9 v10 v11 : Option V), l ≤ lvK ks ∧ PartsOk (lvK ks) (ranks ks sg) S0 l pl ∧ Rep3 H' pp as pl ∧ H pp = none ∧ Few ks sg (2 * l * D0.length) L2 ∧ L2.length + 4 ≤ 4 * 2 ^ l ∧ I (L ++ L2) H' ∧ SameX q H H' ∧ σ' = [some (.ref t), some (.ref g), some (.int (s : Int)), some (.int (e : Int)), some (.ref pp), v5, v6, v7, v8, v9, v10, v11]) ⟨pp, [u0], [(0, s, e)], [], none, none, none, none, none, none, none, Nat.zero_le _, P0, R0, s1.gone _ hpp, by rw [Nat.mul_zero, Nat.zero_mul]; exact Few.nil _ _, by simp, by rw [List.append_nil]; exact S.look.ext i0 s12, s12.toX (S.look.isq i0), rfl⟩ (fun l σ' H' hl ⟨pp, as, pl, L2, v5, v6, v7, v8, v9, v10, v11, _, PO, R, hpp, hF, hLl, iL, X, es⟩ => ?_) (fun σ' H' ⟨pp, as, pl, L2, v5, v6, v7, v8, v9, v10, v11, _, PO, R, hpp, hF, hLl, iL, X, es⟩ => ?_)
  · subst es
    walk_at "st"
    intro pf hpf
    have s3 := same_new (o := .lst []) hpf
    have w3 := upd_same (H := H') (a := pf) (o := .lst [])
    have npf : pp ≠ pf := ne_of_none R.1 hpf
    have hpf0 := X.gone _ hpf
    generalize upd H' pf (.lst []) = H3 at s3 w3 ⊢
    walk_at "st"
    refine m_iLe (.of (s3.get R.1)) ?_
    have hcnt := PO.count (D := D0) fun x hx => (hD0 x).mpr hx
    have h2l : 2 ^ l ≤ 512 := Nat.pow_le_pow_right (by decide) (show l ≤ 9 by omega)
    have hfew := PO.few
    refine loop_list (xs := as.map V.ref) (fun i σ' H'' => ∃ (fs : List Addr) (L3 : List Nat) (v7 v8 v9 v10 v11 : Option V), i ≤ pl.length ∧ Rep3 H'' pp as pl ∧ Rep3 H'' pf fs ((pl.take i).flatMap (fine3 (lvK ks) (ranks ks sg) l)) ∧ Few ks sg (2 * l * D0.length + 2 * ((pl.take i).filter ne3).length) L3 ∧ L3.length ≤ L2.length + 4 * i ∧ I (L ++ L3) H'' ∧ SameX q H H'' ∧ σ' = [some (.ref t), some (.ref g), some (.int (s : Int)), some (.int (e : Int)), some (.ref pp), some (.int (l : Int)), some (.ref pf), v7, v8, v9, v10, v11]) ⟨[], L2, v7, v8, v9, v10, v11, Nat.zero_le _, R.same s3, ⟨w3, rfl, fun i t b e1 => by simp at e1⟩, by simpa using hF, by omega, S.look.ext iL s3, X.trans (s3.toX X.isl'), rfl⟩ (fun i σ' H'' _ ⟨_, _, _, _, _, _, _, _, R, _⟩ => .of R.1) (fun i w σ' H'' hw ⟨fs, L3, v7, v8, v9, v10, v11, _, R, Rf, hF3, hL3, i3, X3, es⟩ => ?_) (fun σ' H'' ⟨fs, L3, v7, v8, v9, v10, v11, _, R, Rf, hF3, hL3, i3, X3, es⟩ => ?_)
    · subst es
      have hil : i < pl.length := by
        have := (List.getElem?_eq_some_iff.mp hw).1
        rw [List.length_map, R.2.1] at this
        exact this
      have hti := List.getElem?_eq_getElem hil
      obtain ⟨⟨p, x, y⟩, htp⟩ : ∃ tp, tp = pl[i] := ⟨_, rfl⟩
      rw [← htp] at hti
      rw [List.getElem?_map] at hw
      cases ha : as[i]? with
      | none => rw [ha] at hw; cases hw
      | some b =>
      rw [ha] at hw
      obtain rfl := Option.some.inj hw
      have etb : H'' b = some (.tup [.int (p : Int), .int (x : Int), .int (y : Int)]) := R.2.2 i _ b hti ha
      obtain ⟨k1, k2, _⟩ : x ≤ y ∧ y ≤ (ranks ks sg).length ∧ _ := PO.ok _ (List.mem_of_getElem? hti)
      have et : pl.take (i + 1) = pl.take i ++ [(p, x, y)] := by rw [List.take_add_one, hti]; rfl
      refine m_gTup (.of etb) rfl ?_
      walk_at "st"
      walk_at "if" <;> intro c0
      · have hxy : x < y := by omega
        have ef : (pl.take (i + 1)).flatMap (fine3 (lvK ks) (ranks ks sg) l) = (pl.take i).flatMap (fine3 (lvK ks) (ranks ks sg) l) ++ [(2 * p, nW (lvK ks) (ranks ks sg) l x, nW (lvK ks) (ranks ks sg) l y), (2 * p + 1, zW (lvK ks) (ranks ks sg) l + uW (lvK ks) (ranks ks sg) l x, zW (lvK ks) (ranks ks sg) l + uW (lvK ks) (ranks ks sg) l y)] := by
          rw [et, List.flatMap_append, List.flatMap_singleton]
          congr 1
          unfold fine3
          rw [if_pos hxy]
        have en : ((pl.take (i + 1)).filter ne3).length = ((pl.take i).filter ne3).length + 1 := by
          rw [et, List.filter_append, List.length_append]
          congr 1
          have : ne3 (p, x, y) = true := decide_eq_true hxy
          rw [List.filter_cons, this]; rfl
        walk_at "st"
        refine ⟨t, g, l, x, y, ks, sg, q, D, I, L ++ L3, rfl, S.moveX X3, i3, by rw [List.length_append]; omega, hl, k1, by rw [ranks_len] at k2; exact k2, X3.tabs _ hTb, fun p0 p1 p2 H4 L4 hF4 i4 X4 e0 e1 e2 => ?_⟩
        have X34 := X3.trans X4
        rw [List.append_assoc] at i4
        have R4 := R.x X4 (nqf hpp)
        have Rf4 := Rf.x X4 (nqf hpf0)
        walk_at "st"
        refine m_gTup (.of e0) rfl ?_
        walk_at "st"
        refine k_tyL (.of Rf4.1) ?_
        walk_at "st"
        refine k_ixT (.of e1) (x := .int (nW (lvK ks) (ranks ks sg) l x : Nat)) rfl ?_
        walk_at "st"
        refine k_ixT (.of e1) (x := .int (nW (lvK ks) (ranks ks sg) l y : Nat)) rfl ?_
        walk_at "st"
        rw [show (2 : Int) * (p : Int) = ((2 * p : Nat) : Int) by push_cast; rfl]
        intro b1 hb1
        have s5 := same_new (o := .tup [.int (2 * p : Nat), .int (nW (lvK ks) (ranks ks sg) l x : Nat), .int (nW (lvK ks) (ranks ks sg) l y : Nat)]) hb1
        have w5 := upd_same (H := H4) (a := b1) (o := .tup [.int (2 * p : Nat), .int (nW (lvK ks) (ranks ks sg) l x : Nat), .int (nW (lvK ks) (ranks ks sg) l y : Nat)])
        generalize upd H4 b1 (.tup [.int (2 * p : Nat), .int (nW (lvK ks) (ranks ks sg) l x : Nat), .int (nW (lvK ks) (ranks ks sg) l y : Nat)]) = H5 at s5 w5 ⊢
        have hlf : fs.length ≤ 5000 := by
          rw [Rf.2.1]
          have := fine_le (lvK ks) (ranks ks sg) l (pl.take i)
          rw [List.length_take] at this
          omega
        walk_at "st"
        refine k_app ((Rf4.same s5).1) (by rw [List.length_map]; omega) ?_
        have R5 := (R4.same s5).other npf (Rf4.same s5).1 (ys := fs.map V.ref ++ [.ref b1])
        have Rf5 := (Rf4.same s5).add (t := (2 * p, nW (lvK ks) (ranks ks sg) l x, nW (lvK ks) (ranks ks sg) l y)) w5
        have X5 := sameX_mutF (X34.trans (s5.toX X34.isl')) hpf0 (Rf4.same s5).1 (ys := fs.map V.ref ++ [.ref b1])
        have i5 := S.look.mut (S.look.ext i4 s5) (nDf hpf0) (o := .lst (fs.map V.ref ++ [.ref b1]))
        have e2' : (upd H5 pf (.lst (fs.map V.ref ++ [.ref b1]))) p2 = some (.tup [.int ((zW (lvK ks) (ranks ks sg) l + uW (lvK ks) (ranks ks sg) l x : Nat) : Int), .int ((zW (lvK ks) (ranks ks sg) l + uW (lvK ks) (ranks ks sg) l y : Nat) : Int)]) := by
          have := s5.get e2
          exact (upd_ne fun z => by rw [z, (Rf4.same s5).1] at this; cases this).trans this
        generalize upd H5 pf (.lst (fs.map V.ref ++ [.ref b1])) = H6 at R5 Rf5 X5 i5 e2' ⊢
        walk_at "st"
        refine k_tyL (.of Rf5.1) ?_
        walk_at "st"
        refine k_ixT (.of e2') (x := .int ((zW (lvK ks) (ranks ks sg) l + uW (lvK ks) (ranks ks sg) l x : Nat) : Int)) rfl ?_
        walk_at "st"
        refine k_ixT (.of e2') (x := .int ((zW (lvK ks) (ranks ks sg) l + uW (lvK ks) (ranks ks sg) l y : Nat) : Int)) rfl ?_
        walk_at "st"
        rw [show (2 : Int) * (p : Int) + 1 = ((2 * p + 1 : Nat) : Int) by push_cast; rfl]
        intro b2 hb2
        have s7 := same_new (o := .tup [.int (2 * p + 1 : Nat), .int ((zW (lvK ks) (ranks ks sg) l + uW (lvK ks) (ranks ks sg) l x : Nat) : Int), .int ((zW (lvK ks) (ranks ks sg) l + uW (lvK ks) (ranks ks sg) l y : Nat) : Int)]) hb2
        have w7 := upd_same (H := H6) (a := b2) (o := .tup [.int (2 * p + 1 : Nat), .int ((zW (lvK ks) (ranks ks sg) l + uW (lvK ks) (ranks ks sg) l x : Nat) : Int), .int ((zW (lvK ks) (ranks ks sg) l + uW (lvK ks) (ranks ks sg) l y : Nat) : Int)])
        generalize upd H6 b2 (.tup _) = H7 at s7 w7 ⊢
        walk_at "st"
        refine k_app ((Rf5.same s7).1) (by rw [List.length_map, List.length_append]; simp only [List.length_cons, List.length_nil]; omega) ?_
        have R7 := (R5.same s7).other npf (Rf5.same s7).1 (ys := (fs ++ [b1]).map V.ref ++ [.ref b2])
        have Rf7 := (Rf5.same s7).add (t := (2 * p + 1, zW (lvK ks) (ranks ks sg) l + uW (lvK ks) (ranks ks sg) l x, zW (lvK ks) (ranks ks sg) l + uW (lvK ks) (ranks ks sg) l y)) w7
        have X7 := sameX_mutF (X5.trans (s7.toX X5.isl')) hpf0 (Rf5.same s7).1 (ys := (fs ++ [b1]).map V.ref ++ [.ref b2])
        have i7 := S.look.mut (S.look.ext i5 s7) (nDf hpf0) (o := .lst ((fs ++ [b1]).map V.ref ++ [.ref b2]))
        have hl4 := hF4.len
        refine ⟨fs ++ [b1] ++ [b2], L3 ++ L4, _, _, _, _, _, hil, R7, ?_, ?_, by rw [List.length_append]; omega, i7, X7, rfl⟩
        · rw [ef, app2]
          exact Rf7
        · rw [en]
          exact (hF3.add hF4).le (by omega)
      · have hxy : ¬ x < y := by omega
        have ef : (pl.take (i + 1)).flatMap (fine3 (lvK ks) (ranks ks sg) l) = (pl.take i).flatMap (fine3 (lvK ks) (ranks ks sg) l) := by
          rw [et, List.flatMap_append, List.flatMap_singleton]
          unfold fine3
          rw [if_neg hxy, List.append_nil]
        have en : ((pl.take (i + 1)).filter ne3).length = ((pl.take i).filter ne3).length := by
          rw [et, List.filter_append]
          have : ne3 (p, x, y) = false := decide_eq_false hxy
          rw [List.filter_cons, this, if_neg (by decide), List.filter_nil, List.append_nil]
        walk_at "st"
        exact ⟨fs, L3, _, _, _, _, _, hil, R, by rw [ef]; exact Rf, by rw [en]; exact hF3, by omega, i3, X3, rfl⟩
    · subst es
      rw [List.length_map, R.2.1, List.take_length] at Rf hF3
      rw [List.length_map, R.2.1] at hL3
      walk_at "st"
      refine ⟨pf, fs, _, L3, _, _, _, _, _, _, _, hl, PO.next hl, Rf, hpf0, hF3.le ?_, ?_, i3, X3, rfl⟩
      · have : 2 * (l + 1) * D0.length = 2 * l * D0.length + 2 * D0.length := by rw [show 2 * (l + 1) = 2 * l + 2 by omega, Nat.add_mul]
        omega
      · rw [Nat.pow_succ]; omega
  subst es
  obtain ⟨z1, z2, z3⟩ := PO.end_
  have h2l : 2 ^ lvK ks ≤ 1024 := Nat.pow_le_pow_right (by decide) hlv
  have hfew := PO.few
  walk_at "st"
  refine m_iLe (.of R.1) ?_
  refine comp_tups (fun k => ne3 (pl.getD k (0, 0, 0))) (fun k => [.int (sgnK ks (pl.getD k (0, 0, 0)).1), .int (((pl.getD k (0, 0, 0)).2.2 : Int) - ((pl.getD k (0, 0, 0)).2.1 : Int))]) (.of R.1) (by rw [List.length_map, R.2.1]; omega) (fun k w Ha Q2 Qn hw sa qy qn => ?_) fun pd Hd cs hpd sd ed hcl hcs => ?_
  · have hkl : k < pl.length := by
      have := (List.getElem?_eq_some_iff.mp hw).1
      rw [List.length_map, R.2.1] at this
      exact this
    have htk := List.getElem?_eq_getElem hkl
    have hg : pl.getD k (0, 0, 0) = pl[k] := by rw [List.getD_eq_getElem?_getD, htk]; rfl
    rw [hg] at qy qn
    obtain ⟨⟨p, x, y⟩, htp⟩ : ∃ tp, tp = pl[k] := ⟨_, rfl⟩
    rw [← htp] at htk qy qn
    rw [List.getElem?_map] at hw
    cases ha : as[k]? with
    | none => rw [ha] at hw; cases hw
    | some b =>
    rw [ha] at hw
    obtain rfl := Option.some.inj hw
    have etb : Ha b = some (.tup [.int (p : Int), .int (x : Int), .int (y : Int)]) := (R.same sa).2.2 k _ b htk ha
    obtain ⟨k1, k2, _⟩ : x ≤ y ∧ y ≤ (ranks ks sg).length ∧ _ := PO.ok _ (List.mem_of_getElem? htk)
    refine m_gTup (.of etb) rfl ?_
    walk_at "st"
    refine ⟨rfl, ?_⟩
    walk_at "st"
    by_cases hxy : x < y
    · have hn3 : ne3 (p, x, y) = true := decide_eq_true hxy
      have hpr : p < ks.length := by
        have hp : p ∈ (pl.filter ne3).map (·.1) := List.mem_map.mpr ⟨_, List.mem_filter.mpr ⟨List.mem_of_getElem? htk, hn3⟩, rfl⟩
        exact (rank_lt S.isk (seg_mem (hS0 ▸ (z2 p).mp hp))).1
      rw [decide_eq_true (show (x : Int) < (y : Int) by omega), if_pos rfl]
      walk_at "st"
      refine k_ixT ((X.trans (sa.toX X.isl')).seqT h1) (x := .ref pk) rfl ?_
      walk_at "st"
      have ep : ks[p]? = some (sgnK ks p) := by unfold sgnK; rw [List.getD_eq_getElem?_getD, List.getElem?_eq_getElem hpr]; rfl
      refine k_ixT ((X.trans (sa.toX X.isl')).seqT h2) (at_nat (mapint ep)) ?_
      walk_at "st"
      intro b3 hb3
      exact qy hn3 b3 _ hb3 (same_new hb3) upd_same
    · have hn3 : ne3 (p, x, y) = false := decide_eq_false hxy
      rw [decide_eq_false (show ¬ (x : Int) < (y : Int) by omega), if_neg (by decide)]
      exact qn hn3 _ (Same.refl _)
  have hfr : pl.filter ne3 = ((List.range pl.length).filter fun k => ne3 (pl.getD k (0, 0, 0))).map fun k => pl.getD k (0, 0, 0) := filter_range ne3 (0, 0, 0) pl
  rw [List.length_map, R.2.1] at hcl hcs
  obtain ⟨F, hFd⟩ : ∃ F, F = (List.range pl.length).filter fun k => ne3 (pl.getD k (0, 0, 0)) := ⟨_, rfl⟩
  rw [← hFd] at hfr hcl hcs
  have hds : ((pl.filter ne3).map (·.1)).map (sgnK ks) = F.map fun k => sgnK ks (pl.getD k (0, 0, 0)).1 := by
    rw [hfr, List.map_map, List.map_map]; rfl
  have hin : ∀ y ∈ seg sg s e, y ∈ sg := fun y hy => seg_mem hy
  have hm2 : S0 = (seg sg s e).map (rk ks) := by rw [hS0]; exact seg_map _ _ _ _
  have hrank : ∀ r ∈ (pl.filter ne3).map (·.1), ∃ y ∈ seg sg s e, rk ks y = r := fun r hr => by
    have := (z2 r).mp hr
    rw [hm2] at this
    exact List.mem_map.mp this
  have hK : IsK (F.map fun k => sgnK ks (pl.getD k (0, 0, 0)).1) (seg sg s e) := by
    rw [← hds]
    refine ⟨?_, fun y => ⟨fun hy => ?_, fun hy => ?_⟩⟩
    · rw [List.pairwise_map]
      refine z1.imp_of_mem fun {a b} ha hb hab => ?_
      obtain ⟨y, hy, rfl⟩ := hrank a ha
      obtain ⟨z, hz, rfl⟩ := hrank b hb
      rw [sgnK_rk S.isk (hin y hy), sgnK_rk S.isk (hin z hz)]
      exact (rk_iff S.isk.srt ((S.isk.mem y).mpr (hin y hy))).mp hab
    · obtain ⟨r, hr, rfl⟩ := List.mem_map.mp hy
      obtain ⟨y', hy', rfl⟩ := hrank r hr
      rw [sgnK_rk S.isk (hin y' hy')]; exact hy'
    · refine List.mem_map.mpr ⟨rk ks y, (z2 _).mpr ?_, sgnK_rk S.isk (hin y hy)⟩
      rw [hm2]; exact List.mem_map_of_mem hy
  have hFl : F.length = (pl.filter ne3).length := by rw [hfr, List.length_map]
  have hDl : D0.length ≤ F.length := by
    have := List.Nodup.length_le_of_subset hD0n (l₂ := (pl.filter ne3).map (·.1)) fun x hx => (z2 x).mpr ((hD0 x).mp hx)
    rw [List.length_map, ← hFl] at this
    exact this
  have hX := X.trans (sd.toX X.isl')
  refine q2 s e rfl rfl hse he pd cs _ Hd L2 (hF.le ?_) (by omega) (S.look.ext iL sd) hX (nqf (X.gone _ hpd)) ed (by rw [hcl, List.length_map]) hK fun i y c hy hc => ?_
  · rw [List.length_map]; exact Nat.mul_le_mul_left _ hDl
  · rw [List.getElem?_map] at hy
    cases hk : F[i]? with
    | none => rw [hk] at hy; cases hy
    | some k =>
    rw [hk] at hy
    obtain rfl := Option.some.inj hy
    have this : Hd c = some (.tup [.int (sgnK ks (pl.getD k (0, 0, 0)).1), .int (((pl.getD k (0, 0, 0)).2.2 : Int) - ((pl.getD k (0, 0, 0)).2.1 : Int))]) := hcs i k c hk hc
    show Hd c = some (.tup [.int (sgnK ks (pl.getD k (0, 0, 0)).1), .int ((((seg sg s e).filter fun z => decide (z = sgnK ks (pl.getD k (0, 0, 0)).1)).length : Nat) : Int)])
    have hmk : k ∈ F := List.mem_of_getElem? hk
    rw [hFd] at hmk
    obtain ⟨m1, m2⟩ := List.mem_filter.mp hmk
    have hkl := List.mem_range.mp m1
    have hgk : pl.getD k (0, 0, 0) = pl[k] := by rw [List.getD_eq_getElem?_getD, List.getElem?_eq_getElem hkl]; rfl
    have hmem : pl[k] ∈ pl := List.getElem_mem hkl
    have hz3 := z3 _ hmem
    have hle := (PO.ok _ hmem).1
    replace m2 : ne3 (pl.getD k (0, 0, 0)) = true := m2
    rw [hgk] at this m2 ⊢
    rw [this]
    obtain ⟨y, hy, ey⟩ := hrank pl[k].1 (List.mem_map.mpr ⟨_, List.mem_filter.mpr ⟨hmem, m2⟩, rfl⟩)
    have hcc := rank_count S.isk ((S.isk.mem y).mpr (hin y hy)) (seg sg s e) hin
    rw [← hm2, ey] at hcc
    have esg : sgnK ks pl[k].1 = y := by rw [← ey]; exact sgnK_rk S.isk (hin y hy)
    rw [esg, show ((pl[k].2.2 : Int) - (pl[k].2.1 : Int)) = ((((seg sg s e).filter fun z => decide (z = y)).length : Nat) : Int) by omega]

--#base
/-- _law_look(blocks, seen): a look that writes down what it is asked for -/
def sp_law_look_law_told (_ : PySem.W.Frag) (_ : CLs) (_ : Nat) (ws vs : List V) (H : Hp) (Q : VK) : Prop := ∃ (ps pb : Addr) (L bl : List Int) (k : Int), ws = [.ref ps, .ref pb] ∧ vs = [.int k] ∧ H ps = some (.lst (L.map V.int)) ∧ L.length < 100000 ∧ ps ≠ pb ∧ H pb = some (.lst (bl.map V.int)) ∧
  Q (if 0 ≤ k ∧ k < (bl.map V.int).length then (bl.map V.int).getD k.toNat .non else .int 0) (upd H ps (.lst ((L ++ [k]).map V.int)))
theorem len_law_look_law_told (K : PySem.W.Frag) (CL : CLs) (j : Nat) : ∀ ws vs H Q, sp_law_look_law_told K CL j ws vs H Q → vs.length = 1 := by
  rintro ws vs H Q ⟨p, xs, i, x, k, rfl, rfl, _⟩; rfl
def sp_law_look (K : PySem.W.Frag) (CL : CLs) : Sp := fun vs H Q _ => ∃ (pb ps : Addr) (bl : List Int) (L : List V), vs = [.ref pb, .ref ps] ∧ ps ≠ pb ∧ H ps = some (.lst L) ∧ H pb = some (.lst (bl.map V.int)) ∧ NdefX.TabN H (tabP K "_law_look") nmL ∧ ∀ g H', H g = none → Same H H' → LogLook CL 1 g ps pb (bl.map V.int) (.int 0) (newOf H H') → Q (.ref g) H'
theorem len_law_look (K : PySem.W.Frag) (CL : CLs) : ∀ vs H Q E, sp_law_look K CL vs H Q E → vs.length = 2 := by
  rintro vs H Q E ⟨a, b, c, xs, rfl, _⟩; rfl
def t_law_look_law_told (K : PySem.W.Frag) (CL : CLs) (j : Nat) : TS :=
  (tSeq (tDrop (tBM K "list" rAppend (tVar 1) (tCons (tVar 0) tNil)))
  (tSeq (tIfS (tTest (tChain rLe rLt (tC (.int 0)) (tVar 0) (tCB (rLen K) (tCons (tVar 2) tNil))))
  (tRet (tOp (rIxL K) (tVar 2) (tVar 0)))
  tNext)
  (tRet (tC (.int 0)))))
abbrev n_law_look_law_told : List Str := ["_law_number", "_law_seen", "_law_blocks"]
def tp_law_look (K : PySem.W.Frag) (P : Addr) (mk : Addr → NdefX.NF) : TS :=
  (tNdefC P 2 mk)
def te_law_look (K : PySem.W.Frag) (P : Addr) (mk : Addr → NdefX.NF) : TE :=
  (tVar 2)
def t_law_look (K : PySem.W.Frag) (P : Addr) (mk : Addr → NdefX.NF) (G : V → L2.St → Hp → Prop) : L2.St → Hp → Prop := tp_law_look K P mk (Ends.mk (fun σ' H' => te_law_look K P mk σ' H' fun v H'' => G v σ' H'') (fun _ _ => False) (fun _ _ => False) (fun _ _ => False))
abbrev n_law_look : List Str := ["_law_blocks", "_law_seen", "_law_told"]

theorem rd_law_look_law_told (K : PySem.W.Frag) (CL : CLs) (j : Nat) (vs ws : List V) (H : Hp) (Q : VK) (h : sp_law_look_law_told K CL j ws vs H Q) : t_law_look_law_told K CL j { nx := fun _ H' => Q .non H', rt := Q } (NdefX.startF n_law_look_law_told vs (ws.map some)) H := by
  obtain ⟨ps, pb, L, bl, k, rfl, rfl, e, hl, nb, hS, q⟩ := h
  unfold t_law_look_law_told
  walk_at "st"
  refine k_tyL (.of e) ?_
  walk_at "st"
  refine k_app e (by rw [List.length_map]; exact hl) ?_
  walk_at "st"
  have hS2 : (upd H ps (.lst (L.map V.int ++ [V.int k]))) pb = some (.lst (bl.map V.int)) := by rw [upd_ne nb.symm]; exact hS
  have eL : L.map V.int ++ [V.int k] = (L ++ [k]).map V.int := by rw [List.map_append]; rfl
  rw [← eL] at q
  walk_at "if" <;> intro c0
  · walk_at "st"
    refine k_lenL (.of hS2) ?_
    walk_at "st"
    rw [List.length_map]
    walk_at "if" <;> intro c1
    · walk_at "st"
      have hk : k.toNat < bl.length := by omega
      refine k_ixL (.of hS2) (at_int c0 (mapint (List.getElem?_eq_getElem hk))) ?_
      walk_at "st"
      rw [if_pos ⟨c0, by rw [List.length_map]; exact c1⟩, List.getD_eq_getElem?_getD, mapint (List.getElem?_eq_getElem hk)] at q
      exact q
    · walk_at "st"
      rw [if_neg (by rw [List.length_map]; omega)] at q
      exact q
  · walk_at "st"
    rw [if_neg (by omega)] at q
    exact q
theorem rd_law_look (K : PySem.W.Frag) (CL : CLs) (P : Addr) (hP : P = tabP K "_law_look") (mk : Addr → NdefX.NF) (vs : List V) (H : Hp) (Q : VK) (E : XK) (h : sp_law_look K CL vs H Q E) (G : V → L2.St → Hp → Prop)
(hG : ∀ v σ' H'', (∀ C dC H', Upg CL 0 NdefX.FnO mk [1, 0] (sp_law_look_law_told K CL) C dC σ' H'' H' → Q v H') → G v σ' H'')
    : t_law_look K P mk G (start n_law_look vs) H := by
  subst hP
  obtain ⟨pb, ps, bl, L, rfl, nb, hs, hS, hT, q⟩ := h
  unfold t_law_look tp_law_look te_law_look
  walk_at "st"
  refine m_ndefC hT fun f c' H1 s1 f0 f1 c1 => ?_
  walk_at "st"
  refine hG _ _ _ fun C dC H' u => ?_
  refine q f H' f0 (s1.trans u.up) fun H3 s3 => ⟨?_, fun L k Q3 e3 hl3 hS3 q3 => ?_⟩
  · exact (isFn_fno (newOf_ext (u.up.get f1))).ext s3
  · have hx3 : ∀ b φ, H' b = some (.ext φ) → H3 b = some (.ext φ) := fun b φ e => s3 b _ (newOf_ext e) fun _ z => nomatch z
    have ns : ¬ C ps := upg_out u (s1.get hs)
    have np : ¬ C pb := upg_out u (s1.get hS)
    refine u.law f c' f1 c1 [.ref ps, .ref pb] rfl 0 H3 _ Q3 hx3 ⟨ps, pb, L, bl, k, rfl, rfl, (hide_out ns).trans e3, hl3, nb, (hide_out np).trans hS3, ?_⟩
    show Q3 _ (unhide C H3 (upd (hide C H3) ps _))
    rw [unhide_upd ns]
    exact q3

theorem map_nat (L : List Nat) : (([] : List Int) ++ L.map Int.ofNat) = L.map Int.ofNat := List.nil_append _
/-- a row of signs: its tables at t, its blocks at pb -/
structure SgTab (K : PySem.W.Frag) (H : Hp) (t pb : Addr) (ks sg : List Int) : Prop where
  tab : ∃ (pk pa : Addr) (as : List Addr), SqT K H t [.int (sg.length : Int), .ref pk, .ref pa] ∧ SqT K H pk (ks.map V.int) ∧ SqT K H pa (as.map V.ref) ∧ as.length = lvK ks ∧ ∀ l a, as[l]? = some a → SqT K H a ((aheadT (bitsK ks sg l)).map V.int)
  blk : H pb = some (.lst ((sgB ks sg (lvK ks)).map V.int))
  isk : IsK ks sg
  len : sg.length ≤ 4096
theorem SgTab.move {K : PySem.W.Frag} {H H' : Hp} {t pb : Addr} {ks sg : List Int} (r : SgTab K H t pb ks sg) (s : Same H H') : SgTab K H' t pb ks sg :=
  ⟨let ⟨pk, pa, as, h1, h2, h3, h4, h5⟩ := r.tab; ⟨pk, pa, as, s.seqT h1, s.seqT h2, s.seqT h3, h4, fun l a e => s.seqT (h5 l a e)⟩, s.get r.blk, r.isk, r.len⟩
/-- a new look, that writes down in the list at ps what it is asked for -/
theorem call_sg {K : PySem.W.Frag} {CL : CLs} {H : Hp} {Q : VK} {E : XK} {t pb ps : Addr} {ks sg L0 : List Int} (T : SgTab K H t pb ks sg) (hT : NdefX.TabN H (tabP K "_law_look") nmL) (hps : H ps = some (.lst (L0.map V.int))) (nsb : ps ≠ pb) (hL : L0.length ≤ 90000)
    (q : ∀ (g : Addr) (H2 : Hp) (D : Addr → Prop) (I : List Nat → Hp → Prop), Same H H2 → SgAt K CL H2 t g ks sg (some ps) D I → I [] H2 → (∀ L H', I L H' → H' ps = some (.lst ((L0 ++ L.map Int.ofNat).map V.int)) ∧ H' pb = some (.lst ((sgB ks sg (lvK ks)).map V.int))) → Q (.ref g) H2) : sp_law_look K CL [.ref pb, .ref ps] H Q E := by
  refine ⟨pb, ps, _, _, rfl, nsb, hps, T.blk, hT, fun g Hb hg sb lk => ?_⟩
  have hB0 : ∀ o, newOf H Hb ps = some o → ∃ φ, o = .ext φ := fun o e => newOf_old e (by rw [hps]; simp)
  have R := (lk.lookJ (L0 := L0) hB0 nsb hL).up (show 1 ≤ 5 by decide)
  rw [sgB_len] at R
  obtain ⟨pk, pa, as, h1, h2, h3, h4, h5⟩ := T.tab
  exact q g Hb _ _ sb ⟨⟨pk, pa, as, sb.seqT h1, sb.seqT h2, sb.seqT h3, h4, fun l a e => sb.seqT (h5 l a e)⟩, R, T.isk, T.len⟩ (LogI.start (sb.get hps) (sb.get T.blk)) fun L H' i => i.2
theorem fmet_ok (f : Nat → Int) : ∀ i, (PyProof.Rows.firstMet f i).Nodup ∧ ∀ x ∈ PyProof.Rows.firstMet f i, ∃ j, j < i ∧ f j = x
  | 0 => ⟨by rw [PyProof.Rows.firstMet_zero]; exact List.nodup_nil, fun x hx => by rw [PyProof.Rows.firstMet_zero] at hx; simp at hx⟩
  | i + 1 => by
    obtain ⟨h1, h2⟩ := fmet_ok f i
    rw [PyProof.Rows.firstMet_succ]
    unfold PyProof.Rows.step_dedup
    split
    · exact ⟨h1, fun x hx => let ⟨j, a, b⟩ := h2 x hx; ⟨j, by omega, b⟩⟩
    · rename_i hn
      refine ⟨?_, fun x hx => ?_⟩
      · rw [List.nodup_append]
        refine ⟨h1, by simp, fun x hx y hy e => hn ?_⟩
        rw [List.mem_singleton.mp hy] at e
        subst e
        exact List.any_eq_true.mpr ⟨_, hx, by simp⟩
      · rcases List.mem_append.mp hx with z | z
        · obtain ⟨j, a, b⟩ := h2 x z
          exact ⟨j, by omega, b⟩
        · exact ⟨i, by omega, (List.mem_singleton.mp z).symm⟩
/-- few of them were asked for -/
theorem unlike_few {ns : List Int} {U : List Int} (h : ∀ x ∈ ns, x ∈ U) : Tw.unlike ns ≤ U.length := by
  unfold Tw.unlike
  obtain ⟨h1, h2⟩ := fmet_ok (fun i => ns.getD i 0) ns.length
  refine List.Nodup.length_le_of_subset h1 fun x hx => ?_
  obtain ⟨i, hi, e⟩ := h2 x hx
  have e2 : ns.getD i 0 = ns[i] := by rw [List.getD_eq_getElem?_getD, List.getElem?_eq_getElem hi]; rfl
  rw [← e]
  show ns.getD i 0 ∈ U
  rw [e2]
  exact h _ (List.getElem_mem hi)
theorem Few.unlike {ks sg : List Int} {m : Nat} {L2 : List Nat} (h : Few ks sg m L2) : Tw.unlike (L2.map Int.ofNat) ≤ m := by
  obtain ⟨U, u1, u2⟩ := h.few
  refine Nat.le_trans (unlike_few (U := U.map Int.ofNat) fun x hx => ?_) (by rw [List.length_map]; exact u1)
  obtain ⟨j, hj, rfl⟩ := List.mem_map.mp hx
  exact List.mem_map_of_mem (u2 j hj)
/-- of those that are there no more than there are -/
theorem unlike_range {ns : List Int} {n : Nat} (h : ∀ x ∈ ns, 0 ≤ x ∧ x < (n : Int)) : Tw.unlike ns ≤ n := by
  refine Nat.le_trans (unlike_few (U := (List.range n).map Int.ofNat) fun x hx => ?_) (by rw [List.length_map, List.length_range]; exact Nat.le_refl _)
  obtain ⟨h1, h2⟩ := h x hx
  exact List.mem_map.mpr ⟨x.toNat, List.mem_range.mpr (by omega), Int.toNat_of_nonneg h1⟩

/-- _law_few(seen, size, most) -/
def sp_law_few (K : PySem.W.Frag) : Sp := fun vs H Q _ => ∃ (a : Addr) (n m : Int) (ns : List Int), vs = [.ref a, .int n, .int m] ∧ SqL K H a (ns.map V.int) ∧ ns.length ≤ 4000 ∧ (∀ x ∈ ns, 0 ≤ x ∧ x < n) ∧ (unlike ns : Int) ≤ m ∧ Q (.bl true) H
theorem len_law_few (K : PySem.W.Frag) : ∀ vs H Q E, sp_law_few K vs H Q E → vs.length = 3 := by
  rintro vs H Q E ⟨a, b, ns, xs, rfl, _⟩; rfl
def t_law_few (K : PySem.W.Frag) : TS :=
  (tSeq (tFor (iList K (tVar 0)) (gName 3)
  (tIfS (tOr (tNot (tB (tCall (sp_law_whole K) [] E0 (tCons (tVar 3) tNil)))) (tOr (tTest (tOp rLt (tVar 3) (tC (.int 0)))) (tTest (tOp rGeI (tVar 3) (tVar 1)))))
  (tRet (tC (.bl false)))
  tNext))
  (tRet (tOp rLe (tLenSet K (tVar 0)) (tVar 2))))
abbrev n_law_few : List Str := ["_law_seen", "_law_size", "_law_most", "_law_number"]

theorem rd_law_few (K : PySem.W.Frag) (vs : List V) (H : Hp) (Q : VK) (E : XK) (h : sp_law_few K vs H Q E) : t_law_few K { nx := fun _ H' => Q .non H', rt := Q } (start n_law_few vs) H := by
  obtain ⟨a, n, m, ns, rfl, hS, hl, hr, hu, q⟩ := h
  unfold t_law_few
  walk_at "st"
  refine m_iLe hS ?_
  refine loop_ints (ns := ns) (fun i σ H' => ∃ y, σ = [some (.ref a), some (.int n), some (.int m), y] ∧ H = H') ⟨none, rfl, rfl⟩ (fun i σ H' ⟨y, _, e⟩ => by rw [← e]; exact hS) ?_ ?_
  · rintro i x σ H' hn ⟨y, rfl, rfl⟩
    have hx := hr x (List.mem_of_getElem? hn)
    walk_at "st"
    refine whole_int ?_
    walk_at "st"
    refine k_decF (by omega) ?_
    walk_at "st"
    refine k_decF (by omega) ?_
    walk_at "st"
    exact ⟨_, rfl, rfl⟩
  · rintro σ H' ⟨y, rfl, rfl⟩
    walk_at "st"
    refine m_lenSetE hS hl ?_
    walk_at "st"
    rw [decide_eq_true (show (unlike ns : Int) ≤ _ from hu)]
    exact q

/-- near enough -/
def NearS (x : Int) : Prop := -1000000000000000000000000000000000000000000000000000000000000 < x ∧ x < 1000000000000000000000000000000000000000000000000000000000000
theorem near_one {x : Int} (h : NearS x) : ∀ y ∈ [x], NearS y := fun y hy => by rw [List.mem_singleton.mp hy]; exact h
theorem near_app {a b : List Int} (h : ∀ x ∈ a, NearS x) (h2 : ∀ x ∈ b, NearS x) : ∀ x ∈ a ++ b, NearS x := fun x hx => (List.mem_append.mp hx).elim (h x) (h2 x)

/-- _law_piece(cell, ahead): some numbers -/
def sp_law_piece (K : PySem.W.Frag) : Sp := fun vs H Q _ => ∃ (c : Int) (a : Addr) (ns : List Int), vs = [.int c, .ref a] ∧ SqL K H a (ns.map V.int) ∧ (∀ x ∈ ns, NearS x) ∧ ∀ (cs : List Int) p H', cs.length ≤ 40 → (∀ x ∈ cs, NearS x) → H p = none → Same H H' → H' p = some (.lst (cs.map V.int)) → Q (.ref p) H'
theorem len_law_piece (K : PySem.W.Frag) : ∀ vs H Q E, sp_law_piece K vs H Q E → vs.length = 2 := by
  rintro vs H Q E ⟨x, y, _, rfl, _⟩; rfl
def t_law_piece (K : PySem.W.Frag) : TS :=
  (tSeq (tAsg (tOp rDiv (tVar 0) (tC (.int 5))) (gName 2))
  (tSeq (tIfS (tTest (tOp rEq (tOp rMod (tVar 0) (tC (.int 5))) (tC (.int 0))))
  (tRet (tLst (tCons (tOp rPlus (tOp rMinus (tOp rMod (tVar 2) (tC (.int 1999999999999999999999999999999999999999999999999999999999999))) (tC (.int 1000000000000000000000000000000000000000000000000000000000000))) (tC (.int 1))) tNil)))
  tNext)
  (Evl.tCut (tIfS (tAnd (tTest (tOp rEq (tOp rMod (tVar 0) (tC (.int 5))) (tC (.int 1)))) (tTest (tOp rGtI (tCB (rLen K) (tCons (tVar 1) tNil)) (tC (.int 0)))))
  (tRet (tLst (tCons (tCB rMin2 (tCons (tOp rPlus (tOp (rIxL K) (tVar 1) (tOp rMod (tOp rDiv (tVar 2) (tC (.int 2))) (tCB (rLen K) (tCons (tVar 1) tNil)))) (tOp rMod (tVar 2) (tC (.int 2)))) (tCons (tC (.int 999999999999999999999999999999999999999999999999999999999999)) tNil))) tNil)))
  tNext)
  (tSeq (tIfS (tTest (tOp rEq (tOp rMod (tVar 0) (tC (.int 5))) (tC (.int 2))))
  (tRet (tOp rRep (tLst (tCons (tOp rMinus (tOp rMod (tVar 2) (tC (.int 4))) (tC (.int 2))) tNil)) (tOp rPlus (tC (.int 1)) (tOp rMod (tOp rDiv (tVar 2) (tC (.int 4))) (tC (.int 20))))))
  tNext)
  (tSeq (tAsg (tOp rMod (tOp rTimes (tVar 2) (tC (.int 69621))) (tC (.int 2147483629))) (gName 3))
  (tSeq (tAsg (tOp rPlus (tC (.int 1)) (tOp rMod (tOp rDiv (tVar 3) (tC (.int 20))) (tC (.int 22)))) (gName 4))
  (tSeq (tAsg (tOp (rIxL K) (tLst (tCons (tC (.int 1)) (tCons (tC (.int 10000000000000000000000000000000000000000000000000000000000)) tNil))) (tOp rMod (tOp rDiv (tVar 3) (tC (.int 440))) (tC (.int 2)))) (gName 5))
  (tSeq (tAsg (tLst tNil) (gName 6))
  (tSeq (tFor (iRng1 (tCons (tOp rPlus (tC (.int 1)) (tOp rMod (tVar 3) (tC (.int 20)))) tNil)) (gName 7)
  (tSeq (tAsg (tOp rMod (tOp rPlus (tOp rPlus (tOp rTimes (tVar 3) (tVar 3)) (tOp rTimes (tC (.int 69621)) (tVar 3))) (tVar 7)) (tC (.int 2147483629))) (gName 3))
  (tDrop (tBM K "list" rAppend (tVar 6) (tCons (tOp rTimes (tOp rMinus (tOp rMod (tOp rDiv (tVar 3) (tC (.int 64))) (tVar 4)) (tC (.int 11))) (tVar 5)) tNil)))))
  (tRet (tVar 6)))))))))))
abbrev n_law_piece : List Str := ["_law_cell", "_law_ahead", "_law_rest", "_law_number", "_law_kinds", "_law_far", "_law_found", "_law_k"]

theorem rd_law_piece (K : PySem.W.Frag) (vs : List V) (H : Hp) (Q : VK) (E : XK) (h : sp_law_piece K vs H Q E) : t_law_piece K { nx := fun _ H' => Q .non H', rt := Q } (start n_law_piece vs) H := by
  obtain ⟨c, a, ns, rfl, hS, hnr, q⟩ := h
  have one : ∀ (x : Int) (p : Addr), NearS x → H p = none → Q (.ref p) (upd H p (.lst [.int x])) := fun x p hx hp => q [x] p _ (by simp) (near_one hx) hp (same_new hp) upd_same
  unfold t_law_piece
  walk_at "st"
  generalize c / 5 = r
  walk_at "if" <;> intro c0
  · walk_at "st"
    exact fun p hp => one _ p ⟨by omega, by omega⟩ hp
  walk_at "st"
  refine m_cut (fun σ' H' => H' = H ∧ σ' = [some (.int c), some (.ref a), some (.int r), none, none, none, none, none]) ?_ ?_
  · walk_at "st"
    walk_at "if" <;> intro c1
    · walk_at "st"
      refine k_lenL hS ?_
      walk_at "st"
      rw [List.length_map]
      walk_at "if" <;> intro c2
      · walk_at "st"
        refine k_lenL hS ?_
        walk_at "st"
        rw [List.length_map]
        walk_at "st"
        have b1 := Int.emod_nonneg (r / 2) (show (ns.length : Int) ≠ 0 by omega)
        have b2 := Int.emod_lt_of_pos (r / 2) (show (0 : Int) < (ns.length : Int) by omega)
        have hlt : (r / 2 % (ns.length : Int)).toNat < ns.length := by omega
        have hn := hnr _ (List.getElem_mem hlt)
        refine k_ixL hS (at_int b1 (mapint (List.getElem?_eq_getElem hlt))) ?_
        walk_at "st"
        generalize ns[(r / 2 % (ns.length : Int)).toNat] = z at hn ⊢
        refine fun p hp => one _ p ?_ hp
        unfold NearS at hn ⊢
        split <;> omega
      · walk_at "st"
        exact ⟨rfl, rfl⟩
    · walk_at "st"
      exact ⟨rfl, rfl⟩
  rintro σ' H' ⟨rfl, rfl⟩
  walk_at "st"
  walk_at "if" <;> intro c2
  · walk_at "st"
    intro p hp
    have e1 : (upd H' p (.lst [.int (r % 4 - 2)])) p = some (.lst (([r % 4 - 2] : List Int).map V.int)) := upd_same
    have s1 := same_new (o := .lst [.int (r % 4 - 2)]) hp
    generalize upd H' p (.lst [.int (r % 4 - 2)]) = H1 at e1 s1 ⊢
    walk_at "st"
    refine k_repI e1 (by omega) (by simp only [List.length_cons, List.length_nil]; omega) fun l H2 cs hl s2 hcs hcl e2 => ?_
    walk_at "st"
    refine q cs l H2 ?_ (fun x hx => ?_) (s1.gone _ hl) (s1.trans s2) e2
    · rw [hcl]; simp only [List.length_cons, List.length_nil]; omega
    · rw [hcs] at hx
      obtain ⟨l, hl, hx⟩ := List.mem_flatten.mp hx
      rw [(List.mem_replicate.mp hl).2] at hx
      exact near_one (show NearS (r % 4 - 2) by unfold NearS; omega) x hx
  walk_at "st"
  have b0 : 0 ≤ r * 69621 % 2147483629 ∧ r * 69621 % 2147483629 < 2147483629 := by omega
  generalize r * 69621 % 2147483629 = m at b0 ⊢
  have b1 : 1 ≤ 1 + m / 20 % 22 ∧ 1 + m / 20 % 22 ≤ 22 := by omega
  generalize 1 + m / 20 % 22 = kd at b1 ⊢
  intro pl hpl
  have s0 := same_new (o := .lst [.int 1, .int 10000000000000000000000000000000000000000000000000000000000]) hpl
  have e0 := upd_same (H := H') (a := pl) (o := .lst [.int 1, .int 10000000000000000000000000000000000000000000000000000000000])
  generalize upd H' pl (.lst _) = H0 at s0 e0 ⊢
  walk_at "st"
  obtain ⟨f, hat, hf⟩ : ∃ f : Int, atI [V.int 1, V.int 10000000000000000000000000000000000000000000000000000000000] (m / 440 % 2) = some (.int f) ∧ (f = 1 ∨ f = 10000000000000000000000000000000000000000000000000000000000) := by
    rcases (show m / 440 % 2 = 0 ∨ m / 440 % 2 = 1 by omega) with z | z <;> rw [z]
    · exact ⟨1, rfl, .inl rfl⟩
    · exact ⟨_, rfl, .inr rfl⟩
  refine k_ixL (.of e0) hat ?_
  walk_at "st"
  intro p hp
  have s1 := s0.trans (same_new (o := .lst []) hp)
  have e1 := upd_same (H := H0) (a := p) (o := .lst [])
  have hp0 := s0.gone _ hp
  generalize upd H0 p (.lst []) = H1 at s1 e1 ⊢
  walk_at "st"
  obtain ⟨cnt, hc1, hc2⟩ : ∃ n : Nat, (1 + m % 20).toNat = n ∧ n ≤ 30 := ⟨_, rfl, by omega⟩
  rw [hc1]
  refine loop_range0 (fun i σ' H2 => ∃ (v6 : Option V) (x : Int) (cs : List Int), i ≤ 30 ∧ 0 ≤ x ∧ x < 2147483629 ∧ Same H' H2 ∧ H2 p = some (.lst (cs.map V.int)) ∧ cs.length = i ∧ (∀ z ∈ cs, NearS z) ∧ σ' = [some (.int c), some (.ref a), some (.int r), some (.int x), some (.int kd), some (.int f), some (.ref p), v6]) ⟨none, m, [], by omega, b0.1, b0.2, s1, e1, rfl, by simp, rfl⟩ ?_ ?_
  · rintro i σ' H2 hi ⟨v6, x, cs, hi2, x0, x1, s, e, hcl, hcn, rfl⟩
    walk_at "st"
    have b3 : 0 ≤ (x * x + 69621 * x + (i : Int)) % 2147483629 ∧ (x * x + 69621 * x + (i : Int)) % 2147483629 < 2147483629 := ⟨Int.emod_nonneg _ (by decide), Int.emod_lt_of_pos _ (by decide)⟩
    generalize (x * x + 69621 * x + (i : Int)) % 2147483629 = y at b3 ⊢
    refine k_tyL (.of e) ?_
    walk_at "st"
    have b4 := Int.emod_nonneg (y / 64) (show kd ≠ 0 by omega)
    have b5 := Int.emod_lt_of_pos (y / 64) (show 0 < kd by omega)
    generalize y / 64 % kd = z at b4 b5 ⊢
    refine k_I (.inl ⟨by omega, by omega⟩) ?_
    walk_at "st"
    refine k_app e (by rw [List.length_map]; omega) ?_
    exact ⟨_, y, cs ++ [_], by omega, b3.1, b3.2, Same.mut s hp0 ⟨_, e⟩, by rw [upd_same, List.map_append]; rfl, by rw [List.length_append, hcl]; rfl, near_app hcn (near_one (by unfold NearS; rcases hf with rfl | rfl <;> omega)), rfl⟩
  · rintro σ' H2 ⟨v6, x, cs, hi2, x0, x1, s, e, hcl, hcn, rfl⟩
    walk_at "st"
    exact q cs p H2 (by omega) hcn hp0 s e

/-- _law_signs(script) -/
def sp_law_signs (K : PySem.W.Frag) : Sp := fun vs H Q _ => ∃ (a : Addr) (ns : List Int), vs = [.ref a] ∧ H a = some (.lst (ns.map V.int)) ∧ ∀ (cs : List Int) p H', cs.length ≤ 130 → (∀ x ∈ cs, NearS x) → H p = none → Same H H' → H' p = some (.lst (cs.map V.int)) → Q (.ref p) H'
theorem len_law_signs (K : PySem.W.Frag) : ∀ vs H Q E, sp_law_signs K vs H Q E → vs.length = 1 := by
  rintro vs H Q E ⟨x, y, rfl, _⟩; rfl
def t_law_signs (K : PySem.W.Frag) : TS :=
  (tSeq (tAsg (tLst tNil) (gName 1))
  (tSeq (tFor (iList K (tVar 0)) (gName 2)
  (tIfS (tTest (tOp rLt (tCB (rLen K) (tCons (tVar 1) tNil)) (tC (.int 90))))
  (tAsg (tOp rCat (tVar 1) (tCall (sp_law_piece K) [] E0 (tCons (tVar 2) (tCons (tVar 1) tNil)))) (gName 1))
  tNext))
  (tRet (tVar 1))))
abbrev n_law_signs : List Str := ["_law_cells", "_law_signs_here", "_law_cell"]

theorem rd_law_signs (K : PySem.W.Frag) (vs : List V) (H : Hp) (Q : VK) (E : XK) (h : sp_law_signs K vs H Q E) : t_law_signs K { nx := fun _ H' => Q .non H', rt := Q } (start n_law_signs vs) H := by
  obtain ⟨a, ns, rfl, hS, q⟩ := h
  unfold t_law_signs
  walk_at "st"
  intro p0 hp0
  have s0 := same_new (o := .lst []) hp0
  have e0 := upd_same (H := H) (a := p0) (o := .lst [])
  generalize upd H p0 (.lst []) = H0 at s0 e0 ⊢
  walk_at "st"
  refine m_iLe (.of (s0.get hS)) ?_
  refine loop_ints (ns := ns) (fun i σ' H' => ∃ (v2 : Option V) (p : Addr) (cs : List Int), Same H H' ∧ H p = none ∧ H' p = some (.lst (cs.map V.int)) ∧ cs.length ≤ 130 ∧ (∀ x ∈ cs, NearS x) ∧ σ' = [some (.ref a), some (.ref p), v2]) ⟨none, p0, [], s0, hp0, e0, by simp, by simp, rfl⟩ (fun i σ' H' ⟨_, _, _, s, _⟩ => .of (s.get hS)) (fun i c σ' H' hc ⟨v2, p, cs, s, hp, ep, hcl, hcn, es⟩ => ?_) (fun σ' H' ⟨v2, p, cs, s, hp, ep, hcl, hcn, es⟩ => ?_)
  · subst es
    walk_at "st"
    refine k_lenL (.of ep) ?_
    walk_at "st"
    rw [List.length_map]
    walk_at "if" <;> intro c0
    · walk_at "st"
      refine ⟨c, p, cs, rfl, .of ep, hcn, fun ds p3 H3 hdl hdn hp3 s3 e3 => ?_⟩
      refine k_catI (s3.get ep) e3 (by omega) fun l H4 hl s4 e4 => ?_
      have st := s.trans (s3.trans s4)
      exact ⟨_, l, cs ++ ds, st, (s.trans s3).gone _ hl, e4, by rw [List.length_append]; omega, near_app hcn hdn, rfl⟩
    · walk_at "st"
      exact ⟨_, p, cs, s, hp, ep, hcl, hcn, rfl⟩
  subst es
  walk_at "st"
  exact q cs p H' hcl hcn hp s ep

/-- _law_sought(cell, signs): a number -/
def sp_law_sought (K : PySem.W.Frag) : Sp := fun vs H Q _ => ∃ (c : Int) (a : Addr) (ks : List Int), vs = [.int c, .ref a] ∧ H a = some (.lst (ks.map V.int)) ∧ ∀ y, Q (.int y) H
theorem len_law_sought (K : PySem.W.Frag) : ∀ vs H Q E, sp_law_sought K vs H Q E → vs.length = 2 := by
  rintro vs H Q E ⟨x, y, _, rfl, _⟩; rfl
def t_law_sought (K : PySem.W.Frag) : TS :=
  (tSeq (tAsg (tOp rDiv (tVar 0) (tC (.int 8))) (gName 2))
  (tSeq (tIfS (tOr (tTest (tOp rLt (tOp rMod (tVar 0) (tC (.int 8))) (tC (.int 2)))) (tTest (tOp rEq (tCB (rLen K) (tCons (tVar 1) tNil)) (tC (.int 0)))))
  (tRet (tOp rMinus (tOp rMod (tVar 2) (tC (.int 4000000000000000000000000000000000000000000000000000000000001))) (tC (.int 2000000000000000000000000000000000000000000000000000000000000))))
  tNext)
  (tSeq (tAsg (tOp (rIxL K) (tVar 1) (tOp rMod (tVar 2) (tCB (rLen K) (tCons (tVar 1) tNil)))) (gName 3))
  (tSeq (tIfS (tTest (tOp rEq (tOp rMod (tVar 0) (tC (.int 8))) (tC (.int 2))))
  (tRet (tOp rMinus (tVar 3) (tC (.int 1))))
  tNext)
  (tRet (tVar 3))))))
abbrev n_law_sought : List Str := ["_law_cell", "_law_signs_here", "_law_rest", "_law_near"]

theorem rd_law_sought (K : PySem.W.Frag) (vs : List V) (H : Hp) (Q : VK) (E : XK) (h : sp_law_sought K vs H Q E) : t_law_sought K { nx := fun _ H' => Q .non H', rt := Q } (start n_law_sought vs) H := by
  obtain ⟨c, a, ks, rfl, hA, q⟩ := h
  unfold t_law_sought
  walk_at "st"
  generalize c / 8 = r
  walk_at "if" <;> intro c0
  · walk_at "st"
    exact q _
  walk_at "st"
  refine k_lenL (.of hA) ?_
  walk_at "st"
  rw [List.length_map]
  walk_at "if" <;> intro c1
  · walk_at "st"
    exact q _
  walk_at "st"
  refine k_lenL (.of hA) ?_
  walk_at "st"
  rw [List.length_map]
  walk_at "st"
  have b1 := Int.emod_nonneg r (show (ks.length : Int) ≠ 0 by omega)
  have b2 := Int.emod_lt_of_pos r (show (0 : Int) < (ks.length : Int) by omega)
  refine k_ixL (.of hA) (at_int b1 (mapint (List.getElem?_eq_getElem (show (r % (ks.length : Int)).toNat < ks.length by omega)))) ?_
  walk_at "st"
  walk_at "if" <;> intro c2
  · walk_at "st"
    exact q _
  walk_at "st"
  exact q _
/-- so many numbers has a question of a way -/
def plen (w : Int) : Nat := if w = 0 then 1 else if w = 1 then 2 else if w = 2 then 2 else if w = 3 then 4 else if w = 4 then 3 else 2
/-- _law_parts(way, signs, cell) -/
def sp_law_parts (K : PySem.W.Frag) : Sp := fun vs H Q _ => ∃ (w c : Int) (a : Addr) (sg : List Int), vs = [.int w, .ref a, .int c] ∧ H a = some (.lst (sg.map V.int)) ∧ ∀ (p : Addr) (ps : List Int) H', ps.length = plen w → H p = none → Same H H' → H' p = some (.tup (ps.map V.int)) → Q (.ref p) H'
theorem len_law_parts (K : PySem.W.Frag) : ∀ vs H Q E, sp_law_parts K vs H Q E → vs.length = 3 := by
  rintro vs H Q E ⟨x, y, _, _, rfl, _⟩; rfl
def t_law_parts (K : PySem.W.Frag) : TS :=
  (tSeq (tAsg (tCB (rLen K) (tCons (tVar 1) tNil)) (gName 3))
  (tSeq (tAsg (tOp rMinus (tOp rMod (tOp rMod (tOp rTimes (tVar 2) (tC (.int 48271))) (tC (.int 2147483629))) (tOp rPlus (tVar 3) (tC (.int 4)))) (tC (.int 1))) (gName 4))
  (tSeq (tAsg (tOp rMinus (tOp rMod (tOp rMod (tOp rTimes (tVar 2) (tC (.int 16807))) (tC (.int 2147483647))) (tOp rPlus (tVar 3) (tC (.int 4)))) (tC (.int 1))) (gName 5))
  (tSeq (tIfS (tTest (tOp rEq (tVar 0) (tC (.int 0))))
  (tRet (tTup (tCons (tVar 4) tNil)))
  tNext)
  (tSeq (tIfS (tTest (tOp rEq (tVar 0) (tC (.int 1))))
  (tRet (tTup (tCons (tCall (sp_law_sought K) [] E0 (tCons (tVar 2) (tCons (tVar 1) tNil))) (tCons (tVar 4) tNil))))
  tNext)
  (tSeq (tIfS (tTest (tOp rEq (tVar 0) (tC (.int 2))))
  (tRet (tTup (tCons (tCall (sp_law_sought K) [] E0 (tCons (tVar 2) (tCons (tVar 1) tNil))) (tCons (tOp rMinus (tOp rMod (tOp rMod (tOp rTimes (tVar 2) (tC (.int 39373))) (tC (.int 2147483647))) (tOp rPlus (tOp rDiv (tVar 3) (tC (.int 4))) (tC (.int 3)))) (tC (.int 1))) tNil))))
  tNext)
  (tSeq (tAsg (tCB rMin2 (tCons (tVar 4) (tCons (tVar 5) tNil))) (gName 6))
  (tSeq (tAsg (tCB rMax2 (tCons (tVar 4) (tCons (tVar 5) tNil))) (gName 7))
  (Evl.tCut (tIfS (tTest (tOp rEq (tVar 0) (tC (.int 5))))
  (tAsg (tCB rMin2 (tCons (tVar 7) (tCons (tOp rPlus (tVar 6) (tC (.int 6))) tNil))) (gName 7))
  tNext)
  (Evl.tCut (tIfS (tTest (tOp rEq (tOp rMod (tOp rMod (tOp rTimes (tVar 2) (tC (.int 62089911))) (tC (.int 2147483647))) (tC (.int 9))) (tC (.int 4))))
  (tPar 6 7 (tCons (tVar 7) (tCons (tVar 6) tNil)))
  tNext)
  (tSeq (tIfS (tTest (tOp rEq (tVar 0) (tC (.int 3))))
  (tRet (tTup (tCons (tVar 6) (tCons (tVar 7) (tCons (tCall (sp_law_sought K) [] E0 (tCons (tVar 2) (tCons (tVar 1) tNil))) (tCons (tCall (sp_law_sought K) [] E0 (tCons (tOp rMod (tOp rTimes (tVar 2) (tC (.int 40014))) (tC (.int 2147483563))) (tCons (tVar 1) tNil))) tNil))))))
  tNext)
  (tSeq (tIfS (tTest (tOp rEq (tVar 0) (tC (.int 4))))
  (tRet (tTup (tCons (tVar 6) (tCons (tVar 7) (tCons (tOp rMinus (tOp rMod (tOp rMod (tOp rTimes (tVar 2) (tC (.int 39373))) (tC (.int 2147483647))) (tOp rPlus (tCB rAbs (tCons (tOp rMinus (tVar 7) (tVar 6)) tNil)) (tC (.int 3)))) (tC (.int 1))) tNil)))))
  tNext)
  (tRet (tTup (tCons (tVar 6) (tCons (tVar 7) tNil))))))))))))))))
abbrev n_law_parts : List Str := ["_law_way", "_law_signs_here", "_law_cell", "_law_many", "_law_one", "_law_other", "_law_start", "_law_stop"]

theorem rd_law_parts (K : PySem.W.Frag) (vs : List V) (H : Hp) (Q : VK) (E : XK) (h : sp_law_parts K vs H Q E) : t_law_parts K { nx := fun _ H' => Q .non H', rt := Q } (start n_law_parts vs) H := by
  obtain ⟨w, c, a, sg, rfl, hA, q⟩ := h
  have q1 : ∀ (x : Int), w = 0 → ∀ p, H p = none → Q (.ref p) (upd H p (.tup [.int x])) := fun x e p hp => q p [x] _ (by unfold plen; rw [if_pos e]; rfl) hp (same_new hp) upd_same
  have q2 : ∀ (x y : Int), plen w = 2 → ∀ p, H p = none → Q (.ref p) (upd H p (.tup [.int x, .int y])) := fun x y e p hp => q p [x, y] _ (by rw [e]; rfl) hp (same_new hp) upd_same
  have q3 : ∀ (x y z : Int), plen w = 3 → ∀ p, H p = none → Q (.ref p) (upd H p (.tup [.int x, .int y, .int z])) := fun x y z e p hp => q p [x, y, z] _ (by rw [e]; rfl) hp (same_new hp) upd_same
  have q4 : ∀ (x y z u : Int), plen w = 4 → ∀ p, H p = none → Q (.ref p) (upd H p (.tup [.int x, .int y, .int z, .int u])) := fun x y z u e p hp => q p [x, y, z, u] _ (by rw [e]; rfl) hp (same_new hp) upd_same
  unfold t_law_parts
  walk_at "st"
  refine k_lenL (.of hA) ?_
  walk_at "st"
  rw [List.length_map]
  walk_at "st"
  generalize c * 48271 % 2147483629 % ((sg.length : Int) + 4) - 1 = one
  generalize c * 16807 % 2147483647 % ((sg.length : Int) + 4) - 1 = oth
  walk_at "if" <;> intro c0
  · walk_at "st"
    exact q1 _ c0
  walk_at "st"
  walk_at "if" <;> intro c1
  · walk_at "st"
    refine ⟨c, a, sg, rfl, hA, fun y => ?_⟩
    walk_at "st"
    exact q2 _ _ (by unfold plen; rw [if_neg c0, if_pos c1])
  walk_at "st"
  walk_at "if" <;> intro c2
  · walk_at "st"
    refine ⟨c, a, sg, rfl, hA, fun y => ?_⟩
    walk_at "st"
    exact q2 _ _ (by unfold plen; rw [if_neg c0, if_neg c1, if_pos c2])
  walk_at "st"
  refine m_cut (fun σ' H' => H' = H ∧ ∃ u v : Int, σ' = [some (.int w), some (.ref a), some (.int c), some (.int (sg.length : Int)), some (.int one), some (.int oth), some (.int u), some (.int v)]) ?_ ?_
  · walk_at "st"
    walk_at "if" <;> intro c5
    · walk_at "st"
      exact ⟨rfl, _, _, rfl⟩
    · walk_at "st"
      exact ⟨rfl, _, _, rfl⟩
  rintro σ' H' ⟨rfl, u, v, rfl⟩
  refine m_cut (fun σ' H'' => H'' = H' ∧ ∃ u v : Int, σ' = [some (.int w), some (.ref a), some (.int c), some (.int (sg.length : Int)), some (.int one), some (.int oth), some (.int u), some (.int v)]) ?_ ?_
  · walk_at "st"
    walk_at "if" <;> intro c5
    · walk_at "st"
      exact ⟨rfl, _, _, rfl⟩
    · walk_at "st"
      exact ⟨rfl, _, _, rfl⟩
  rintro σ' H'' ⟨rfl, u, v, rfl⟩
  walk_at "st"
  walk_at "if" <;> intro c3
  · walk_at "st"
    refine ⟨c, a, sg, rfl, hA, fun y => ?_⟩
    walk_at "st"
    refine ⟨_, a, sg, rfl, hA, fun z => ?_⟩
    walk_at "st"
    exact q4 _ _ _ _ (by unfold plen; rw [if_neg c0, if_neg c1, if_neg c2, if_pos c3])
  walk_at "st"
  walk_at "if" <;> intro c4
  · walk_at "st"
    refine k_abs ?_
    walk_at "st"
    exact q3 _ _ _ (by unfold plen; rw [if_neg c0, if_neg c1, if_neg c2, if_neg c3, if_pos c4])
  walk_at "st"
  exact q2 _ _ (by unfold plen; rw [if_neg c0, if_neg c1, if_neg c2, if_neg c3, if_neg c4])

/-- the places that bear a number -/
def isAt (sg : List Int) (x : Int) (k : Nat) : Bool := decide (sg.getD k 0 = x)
def placesOf (sg : List Int) (x : Int) : List Nat := (List.range sg.length).filter (isAt sg x)
theorem places_cnt (sg : List Int) (x : Int) : ∀ i, i ≤ sg.length → ((List.range i).filter (isAt sg x)).length = cp (fun y => decide (y = x)) sg i
  | 0, _ => by unfold cp; rw [List.take_zero]; rfl
  | i + 1, h => by
    have ih := places_cnt sg x i (by omega)
    have e := List.getElem?_eq_getElem (show i < sg.length by omega)
    unfold cp at ih ⊢
    rw [List.range_succ, List.take_add_one, e, List.filter_append, List.filter_append, List.length_append, List.length_append, ih]
    congr 1
    have e2 : isAt sg x i = decide (sg[i] = x) := by unfold isAt; rw [List.getD_eq_getElem?_getD, e]; rfl
    show ([i].filter _).length = ([sg[i]].filter _).length
    rw [List.filter_cons, List.filter_cons, e2]
    split <;> rfl
theorem places_len (sg : List Int) (x : Int) : (placesOf sg x).length = (sg.filter fun y => decide (y = x)).length := by
  unfold placesOf
  rw [places_cnt sg x _ (Nat.le_refl _)]
  unfold cp; rw [List.take_length]
theorem places_get {sg : List Int} {x : Int} {p : Nat} (h : sg[p]? = some x) : (placesOf sg x)[cp (fun y => decide (y = x)) sg p]? = some p := by
  have hl := (List.getElem?_eq_some_iff.mp h).1
  have e1 : (List.range sg.length)[p]? = some p := by rw [List.getElem?_range hl]
  have e2 : isAt sg x p = true := by unfold isAt; rw [List.getD_eq_getElem?_getD, h]; exact decide_eq_true rfl
  have := filter_at e1 e2
  unfold placesOf
  rw [← places_cnt sg x p (by omega)]
  unfold cp at this
  rw [List.take_range, Nat.min_eq_left (by omega)] at this
  exact this

theorem sorted_at {D : List Int} (hs : D.Pairwise (· ≤ ·)) {k : Nat} {y : Int} (h1 : (D.filter fun x => decide (x < y)).length ≤ k) (h2 : k < (D.filter fun x => decide (x < y)).length + (D.filter fun x => decide (x = y)).length) : D[k]? = some y := by
  have h3 : (D.filter fun x => decide (x ≤ y)).length = (D.filter fun x => decide (x < y)).length + (D.filter fun x => decide (x = y)).length := by
    refine filter_or _ _ _ (fun x => ?_) (fun x hx => ?_) D
    · rw [← Bool.decide_or]
      exact decide_eq_decide.mpr (by omega)
    · simp only [decide_eq_true_eq] at hx
      omega
  have hkl : k < D.length := by
    have := List.length_filter_le (fun x => decide (x ≤ y)) D
    omega
  have p := List.pairwise_iff_getElem.mp hs
  have ek := List.getElem?_eq_getElem hkl
  rw [ek]
  congr 1
  rcases Int.lt_or_le D[k] y with z | z
  · exfalso
    have a : ((D.take (k + 1)).filter fun x => decide (x < y)).length = k + 1 := by
      rw [List.filter_eq_self.mpr fun x hx => ?_, List.length_take]
      · omega
      · obtain ⟨j, hj⟩ := List.mem_iff_getElem?.mp hx
        rw [List.getElem?_take] at hj
        split at hj
        · obtain ⟨jl, rfl⟩ := List.getElem?_eq_some_iff.mp hj
          rcases Nat.lt_or_ge j k with w | w
          · have := p j k jl hkl w
            exact decide_eq_true (by omega)
          · obtain rfl : j = k := by omega
            exact decide_eq_true z
        · cases hj
    have b := congrArg List.length (List.filter_append (p := fun x : Int => decide (x < y)) (D.take (k + 1)) (D.drop (k + 1)))
    rw [List.take_append_drop, List.length_append, a] at b
    omega
  · rcases Int.lt_or_le y D[k] with w | w
    · exfalso
      have a : ((D.drop k).filter fun x => decide (x ≤ y)) = [] := by
        refine List.filter_eq_nil_iff.mpr fun x hx => ?_
        obtain ⟨j, hj⟩ := List.mem_iff_getElem?.mp hx
        rw [List.getElem?_drop] at hj
        obtain ⟨jl, rfl⟩ := List.getElem?_eq_some_iff.mp hj
        simp only [decide_eq_true_eq]
        rcases Nat.eq_zero_or_pos j with u | u
        · subst u; simp only [Nat.add_zero]; omega
        · have := p k (k + j) hkl jl (by omega)
          omega
      have b := congrArg List.length (List.filter_append (p := fun x : Int => decide (x ≤ y)) (D.take k) (D.drop k))
      rw [List.take_append_drop, List.length_append, a] at b
      have c := List.length_filter_le (fun x => decide (x ≤ y)) (D.take k)
      rw [List.length_take] at c
      simp only [List.length_nil] at b
      omega
    · omega

/-! questions of signs: which are refused, what is answered -/
abbrev pg (ps : List Int) (i : Nat) : Int := ps.getD i 0
def StrP (sg : List Int) (ps : List Int) : Prop := 0 ≤ pg ps 0 ∧ pg ps 0 ≤ pg ps 1 ∧ pg ps 1 ≤ (sg.length : Int)
/-- no answer -/
def Refd (sg : List Int) (w : Int) (ps : List Int) : Prop :=
  if w = 0 then ¬ (0 ≤ pg ps 0 ∧ pg ps 0 < (sg.length : Int))
  else if w = 1 then ¬ (0 ≤ pg ps 1 ∧ pg ps 1 ≤ (sg.length : Int))
  else if w = 2 then ¬ (0 ≤ pg ps 1 ∧ pg ps 1 < (((sg.filter fun y => decide (y = pg ps 0)).length : Nat) : Int))
  else if w = 4 then ¬ (StrP sg ps ∧ 0 ≤ pg ps 2 ∧ pg ps 2 < pg ps 1 - pg ps 0)
  else ¬ StrP sg ps
/-- the stretch asked for -/
def segP (sg ps : List Int) : List Int := seg sg (pg ps 0).toNat (pg ps 1).toNat
/-- the number answered, of the ways 0 to 4 -/
def IsAns (sg : List Int) (w : Int) (ps : List Int) (y : Int) : Prop :=
  if w = 0 then sg[(pg ps 0).toNat]? = some y
  else if w = 1 then y = ((((sg.take (pg ps 1).toNat).filter fun z => decide (z = pg ps 0)).length : Nat) : Int)
  else if w = 2 then ∃ p : Nat, y = (p : Int) ∧ sg[p]? = some (pg ps 0) ∧ (cp (fun z => decide (z = pg ps 0)) sg p : Int) = pg ps 1
  else if w = 3 then y = ((((segP sg ps).filter fun z => decide (pg ps 2 ≤ z ∧ z < pg ps 3)).length : Nat) : Int)
  else ((segP sg ps).filter fun x => decide (x < y)).length ≤ (pg ps 2).toNat ∧ (pg ps 2).toNat < ((segP sg ps).filter fun x => decide (x < y)).length + ((segP sg ps).filter fun x => decide (x = y)).length
/-- of a range the one place that is c -/
theorem range_eq (n : Nat) (c : Int) : ((List.range n).filter fun k : Nat => decide ((k : Int) = c)) = if 0 ≤ c ∧ c < (n : Int) then [c.toNat] else [] := by
  induction n with
  | zero => rw [if_neg (by omega)]; rfl
  | succ n ih =>
    rw [List.range_succ, List.filter_append, ih]
    by_cases h : (n : Int) = c
    · rw [if_neg (by omega), if_pos (by omega), List.nil_append, List.filter_cons, if_pos (by simpa using h), List.filter_nil]
      congr 1; omega
    · have e : [n].filter (fun k : Nat => decide ((k : Int) = c)) = [] := by rw [List.filter_cons, if_neg (by simpa using h), List.filter_nil]
      rw [e, List.append_nil]
      by_cases h2 : 0 ≤ c ∧ c < (n : Int)
      · rw [if_pos h2, if_pos (by omega)]
      · rw [if_neg h2, if_neg (by omega)]

/-- over a range, with a test, pure elements -/
theorem comp_rangeF {σ : L2.St} {H : Hp} {Q : VK} {n : Nat} {te : TE} {tt : TT} {j : Nat} (p : Nat → Bool) (el : Nat → V) (hn : n ≤ 100000)
    (ht : ∀ (k : Nat) (H1 : Hp) (Qb : Bool → Hp → Prop), k < n → Same H H1 → (∀ H2, Same H1 H2 → Qb (p k) H2) → tt ((wipe σ [j]).set j (some (.int (k : Int)))) H1 Qb)
    (he : ∀ (k : Nat) (H1 : Hp) (Q2 : VK), k < n → Same H H1 → (∀ H2, Same H1 H2 → Q2 (el k) H2) → te ((wipe σ [j]).set j (some (.int (k : Int)))) H1 Q2)
    (q : ∀ pd H', H pd = none → Same H H' → H' pd = some (.lst (((List.range n).filter p).map el)) → Q (.ref pd) H') (hw : ∀ x, wipe ((wipe σ [j]).set j (some x)) [j] = wipe σ [j] := by intro _; rfl) : CompOk (Itr 0 n) (gName j) tt te [j] σ H Q := by
  refine comp_walkV (f := fun k : Nat => if p k = true then some (el k) else none) (walk_range (lo := 0) (n := n)) hn (fun _ _ => trivial) (fun k v Hb Hc Qb hk sk hy qb => ?_) (fun pm Hb hpm sb eb => ?_) hw
  · obtain ⟨rfl, rfl⟩ := hy
    show tt ((wipe σ [j]).set j (some (.int (0 + (k : Int))))) _ Qb
    rw [Int.zero_add]
    refine ht k _ Qb hk sk fun H2 s2 => qb (p k) H2 s2 (fun hp Q2 H4 s4 => ⟨_, by rw [if_pos hp], fun q2 => ?_⟩) fun hp => ?_
    · show te ((wipe σ [j]).set j (some (.int (0 + (k : Int))))) _ Q2
      rw [Int.zero_add]
      exact he k H4 Q2 hk (sk.trans (s2.trans s4)) q2
    · rw [if_neg (by rw [hp]; decide)]
  · rw [fm_if] at eb
    exact q pm Hb hpm sb eb

/-- the numbers of a range that a test lets through -/
theorem comp_filterR {σ : L2.St} {H : Hp} {Q : VK} {n : Nat} {te : TE} {tt : TT} {j : Nat} (p : Nat → Bool) (hn : n ≤ 100000)
    (ht : ∀ (k : Nat) (H1 : Hp) (Qb : Bool → Hp → Prop), k < n → Same H H1 → (∀ H2, Same H1 H2 → Qb (p k) H2) → tt ((wipe σ [j]).set j (some (.int (k : Int)))) H1 Qb)
    (he : ∀ (k : Nat) (H1 : Hp) (Q2 : VK), Q2 (.int (k : Int)) H1 → te ((wipe σ [j]).set j (some (.int (k : Int)))) H1 Q2)
    (q : ∀ pd H', H pd = none → Same H H' → H' pd = some (.lst ((((List.range n).filter p).map Int.ofNat).map V.int)) → Q (.ref pd) H') (hw : ∀ x, wipe ((wipe σ [j]).set j (some x)) [j] = wipe σ [j] := by intro _; rfl) : CompOk (Itr 0 n) (gName j) tt te [j] σ H Q := by
  refine comp_walkV (f := fun k : Nat => if p k = true then some (V.int (k : Int)) else none) (walk_range (lo := 0) (n := n)) hn (fun _ _ => trivial) (fun k v Hb Hc Qb hk sk hy qb => ?_) (fun pm Hb hpm sb eb => ?_) hw
  · obtain ⟨rfl, rfl⟩ := hy
    show tt ((wipe σ [j]).set j (some (.int (0 + (k : Int))))) _ Qb
    rw [Int.zero_add]
    refine ht k _ Qb hk sk fun H2 s2 => qb (p k) H2 s2 (fun hp Q2 H4 s4 => ⟨_, by rw [if_pos hp], fun q2 => ?_⟩) fun hp => ?_
    · show te ((wipe σ [j]).set j (some (.int (0 + (k : Int))))) _ Q2
      rw [Int.zero_add]
      exact he k H4 Q2 (q2 H4 (Same.refl _))
    · rw [if_neg (by rw [hp]; decide)]
  · rw [fm_if] at eb
    refine q pm Hb hpm sb ?_
    rw [eb, List.map_map]; rfl

/-- the pairs of a stretch: each unlike sign, how many -/
def RepP (H : Hp) (l : Addr) (as : List Addr) (ds S : List Int) : Prop := H l = some (.lst (as.map V.ref)) ∧ as.length = ds.length ∧ IsK ds S ∧ ∀ (i : Nat) (y : Int) c, ds[i]? = some y → as[i]? = some c → H c = some (.tup [.int y, .int (((S.filter fun z => decide (z = y)).length : Nat) : Int)])
/-- _law_due(way, signs, parts) -/
def sp_law_due (K : PySem.W.Frag) : Sp := fun vs H Q _ => ∃ (w : Int) (a pp : Addr) (sg ps : List Int), vs = [.int w, .ref a, .ref pp] ∧ 0 ≤ w ∧ w ≤ 5 ∧ H a = some (.lst (sg.map V.int)) ∧ sg.length ≤ 4000 ∧ H pp = some (.tup (ps.map V.int)) ∧ ps.length = plen w ∧
  (Refd sg w ps → ∀ p H', H p = none → Same H H' → H' p = some (.lst []) → Q (.ref p) H') ∧
  (¬ Refd sg w ps → w ≠ 5 → ∀ p y H', H p = none → Same H H' → H' p = some (.lst [.int y]) → (∀ z, IsAns sg w ps z → y = z) → Q (.ref p) H') ∧
  (¬ Refd sg w ps → w = 5 → ∀ p l as ds H', H p = none → Same H H' → H' p = some (.lst [.ref l]) → RepP H' l as ds (segP sg ps) → Q (.ref p) H')
theorem len_law_due (K : PySem.W.Frag) : ∀ vs H Q E, sp_law_due K vs H Q E → vs.length = 3 := by
  rintro vs H Q E ⟨x, y, _, _, _, rfl, _⟩; rfl
theorem pgV {ps : List Int} {i : Nat} (h : i < ps.length) : (ps.map V.int)[i]? = some (.int (pg ps i)) := by
  rw [List.getElem?_map, List.getElem?_eq_getElem h]
  show _ = some (V.int (ps.getD i 0))
  rw [List.getD_eq_getElem?_getD, List.getElem?_eq_getElem h]; rfl
def t_law_due (K : PySem.W.Frag) : TS :=
  (tSeq (tIfS (tTest (tOp rEq (tVar 0) (tC (.int 0))))
  (tRet (tLc (iRng1 (tCons (tCB (rLen K) (tCons (tVar 1) tNil)) tNil)) (gName 3) (tTest (tOp rEq (tVar 3) (tOp (rIxT K) (tVar 2) (tC (.int 0))))) (tOp (rIxL K) (tVar 1) (tVar 3)) [3]))
  tNext)
  (tSeq (tIfS (tTest (tOp rEq (tVar 0) (tC (.int 1))))
  (tSeq (tIfS (tOr (tTest (tOp rLt (tOp (rIxT K) (tVar 2) (tC (.int 1))) (tC (.int 0)))) (tTest (tOp rGtI (tOp (rIxT K) (tVar 2) (tC (.int 1))) (tCB (rLen K) (tCons (tVar 1) tNil)))))
  (tRet (tLst tNil))
  tNext)
  (tRet (tLst (tCons (tCB (rLen K) (tCons (tLc (iList K (tSl (rSlL K) (tVar 1) tNoPart (tPart (tOp (rIxT K) (tVar 2) (tC (.int 1)))))) (gName 4) (tTest (tOp rEq (tVar 4) (tOp (rIxT K) (tVar 2) (tC (.int 0))))) (tVar 4) [4]) tNil)) tNil))))
  tNext)
  (tSeq (tIfS (tTest (tOp rEq (tVar 0) (tC (.int 2))))
  (tSeq (tAsg (tLc (iRng1 (tCons (tCB (rLen K) (tCons (tVar 1) tNil)) tNil)) (gName 3) (tTest (tOp rEq (tOp (rIxL K) (tVar 1) (tVar 3)) (tOp (rIxT K) (tVar 2) (tC (.int 0))))) (tVar 3) [3]) (gName 5))
  (tRet (tLc (iRng1 (tCons (tCB (rLen K) (tCons (tVar 5) tNil)) tNil)) (gName 6) (tTest (tOp rEq (tVar 6) (tOp (rIxT K) (tVar 2) (tC (.int 1))))) (tOp (rIxL K) (tVar 5) (tVar 6)) [6])))
  tNext)
  (tSeq (tIfS (tOr (tTest (tOp rLt (tOp (rIxT K) (tVar 2) (tC (.int 0))) (tC (.int 0)))) (tOr (tTest (tOp rGtI (tOp (rIxT K) (tVar 2) (tC (.int 0))) (tOp (rIxT K) (tVar 2) (tC (.int 1))))) (tTest (tOp rGtI (tOp (rIxT K) (tVar 2) (tC (.int 1))) (tCB (rLen K) (tCons (tVar 1) tNil))))))
  (tRet (tLst tNil))
  tNext)
  (tSeq (tAsg (tCB (rSortedI K) (tCons (tSl (rSlL K) (tVar 1) (tPart (tOp (rIxT K) (tVar 2) (tC (.int 0)))) (tPart (tOp (rIxT K) (tVar 2) (tC (.int 1))))) tNil)) (gName 7))
  (tSeq (tIfS (tTest (tOp rEq (tVar 0) (tC (.int 3))))
  (tRet (tLst (tCons (tCB (rLen K) (tCons (tLc (iList K (tVar 7)) (gName 4) (tTest (tChain rLe rLt (tOp (rIxT K) (tVar 2) (tC (.int 2))) (tVar 4) (tOp (rIxT K) (tVar 2) (tC (.int 3))))) (tVar 4) [4]) tNil)) tNil)))
  tNext)
  (tSeq (tIfS (tTest (tOp rEq (tVar 0) (tC (.int 4))))
  (tRet (tLc (iRng1 (tCons (tCB (rLen K) (tCons (tVar 7) tNil)) tNil)) (gName 6) (tTest (tOp rEq (tVar 6) (tOp (rIxT K) (tVar 2) (tC (.int 2))))) (tOp (rIxL K) (tVar 7) (tVar 6)) [6]))
  tNext)
  (tRet (tLst (tCons (tLc (iList K (tSortSet K (tVar 7))) (gName 4) tYes (tTup (tCons (tVar 4) (tCons (tCB (rLen K) (tCons (tLc (iList K (tVar 7)) (gName 8) (tTest (tOp rEq (tVar 8) (tVar 4))) (tVar 8) [8]) tNil)) tNil))) [4]) tNil))))))))))
abbrev n_law_due : List Str := ["_law_way", "_law_signs_here", "_law_parts_here", "_law_at", "_law_one", "_law_places", "_law_k", "_law_part", "_law_two"]

theorem rd_law_due (K : PySem.W.Frag) (vs : List V) (H : Hp) (Q : VK) (E : XK) (h : sp_law_due K vs H Q E) : t_law_due K { nx := fun _ H' => Q .non H', rt := Q } (start n_law_due vs) H := by
  obtain ⟨w, a, pp, sg, ps, rfl, w0, w5, eS, hl, ep, hpl, q1, q2, q3⟩ := h
  unfold t_law_due
  walk_at "st"
  walk_at "if" <;> intro c0
  · subst c0
    have hp1 : ps.length = 1 := hpl
    walk_at "st"
    refine k_lenL (.of eS) ?_
    walk_at "st"
    rw [List.length_map]
    refine comp_rangeF (fun k => decide ((k : Int) = pg ps 0)) (fun k => .int (sg.getD k 0)) (by omega) (fun k Ha Qb hk sa qb => ?_) (fun k Ha Q2 hk sa q2 => ?_) fun p H2 hp s2 e2 => ?_
    · walk_at "st"
      refine k_ixT (.of (sa.get ep)) (at_nat (i := 0) (pgV (by omega))) ?_
      walk_at "st"
      exact qb _ (Same.refl _)
    · walk_at "st"
      refine k_ixL (.of (sa.get eS)) (at_nat (mapint (show sg[k]? = some (sg.getD k 0) by rw [List.getD_eq_getElem?_getD, List.getElem?_eq_getElem hk]; rfl))) ?_
      exact q2 _ (Same.refl _)
    rw [range_eq] at e2
    by_cases hc : 0 ≤ pg ps 0 ∧ pg ps 0 < (sg.length : Int)
    · rw [if_pos hc] at e2
      refine q2 (by unfold Refd; rw [if_pos rfl]; exact fun z => z hc) (by decide) p (sg.getD (pg ps 0).toNat 0) H2 hp s2 e2 fun z hz => ?_
      unfold IsAns at hz
      rw [if_pos rfl] at hz
      rw [List.getD_eq_getElem?_getD, hz]; rfl
    · rw [if_neg hc] at e2
      exact q1 (by unfold Refd; rw [if_pos rfl]; exact hc) p H2 hp s2 e2
  walk_at "st"
  walk_at "if" <;> intro c1
  · subst c1
    have hp2 : ps.length = 2 := hpl
    walk_at "st"
    refine k_ixT (.of ep) (at_nat (i := 1) (pgV (by omega))) ?_
    walk_at "st"
    have hR : Refd sg 1 ps ↔ ¬ (0 ≤ pg ps 1 ∧ pg ps 1 ≤ (sg.length : Int)) := by unfold Refd; rw [if_neg (by decide), if_pos rfl]
    walk_at "if" <;> intro c2
    · walk_at "st"
      intro p hp
      exact q1 (hR.mpr (by omega)) p _ hp (same_new hp) upd_same
    walk_at "st"
    refine k_ixT (.of ep) (at_nat (i := 1) (pgV (by omega))) ?_
    walk_at "st"
    refine k_lenL (.of eS) ?_
    walk_at "st"
    rw [List.length_map]
    walk_at "if" <;> intro c3
    · walk_at "st"
      intro p hp
      exact q1 (hR.mpr (by omega)) p _ hp (same_new hp) upd_same
    walk_at "st"
    refine k_ixT (.of ep) (at_nat (i := 1) (pgV (by omega))) ?_
    walk_at "st"
    obtain ⟨k, hk⟩ := Int.eq_ofNat_of_zero_le (show 0 ≤ pg ps 1 by omega)
    rw [hk]
    refine k_slTake (k := k) (.of eS) fun p7 H7 hp7 s7 e7 => ?_
    refine m_iLe (.of e7) ?_
    refine comp_filterI (fun y => decide (y = pg ps 0)) (.of e7) (by rw [List.length_take]; omega) (fun j n Ha Qb hn sa qb => ?_) (fun n Ha Q2 q2 => ?_) fun p8 H8 hp8 s8 e8 => ?_
    · walk_at "st"
      refine k_ixT (.of ((s7.trans sa).get ep)) (at_nat (i := 0) (pgV (by omega))) ?_
      walk_at "st"
      exact qb Ha (Same.refl _)
    · walk_at "st"
      exact q2
    walk_at "st"
    refine k_lenL (.of e8) ?_
    walk_at "st"
    rw [List.length_map]
    intro p hp
    refine q2 (fun z => (hR.mp z) (by omega)) (by decide) p _ _ ((s7.trans s8).gone _ hp) ((s7.trans s8).trans (same_new hp)) upd_same fun z hz => ?_
    unfold IsAns at hz
    rw [if_neg (by decide), if_pos rfl, hk] at hz
    exact hz.symm
  walk_at "st"
  walk_at "if" <;> intro c2
  · subst c2
    have hp2 : ps.length = 2 := hpl
    have hR : Refd sg 2 ps ↔ ¬ (0 ≤ pg ps 1 ∧ pg ps 1 < (((sg.filter fun y => decide (y = pg ps 0)).length : Nat) : Int)) := by unfold Refd; rw [if_neg (by decide), if_neg (by decide), if_pos rfl]
    walk_at "st"
    refine k_lenL (.of eS) ?_
    walk_at "st"
    rw [List.length_map]
    refine comp_filterR (isAt sg (pg ps 0)) (by omega) (fun k Ha Qb hk sa qb => ?_) (fun k Ha Q2 q2 => ?_) fun p5 H2 hp5 s2 e2 => ?_
    · walk_at "st"
      refine k_ixL (.of (sa.get eS)) (at_nat (mapint (List.getElem?_eq_getElem hk))) ?_
      walk_at "st"
      refine k_ixT (.of (sa.get ep)) (at_nat (i := 0) (pgV (by omega))) ?_
      walk_at "st"
      have e3 : decide (sg[k] = pg ps 0) = isAt sg (pg ps 0) k := by unfold isAt; rw [List.getD_eq_getElem?_getD, List.getElem?_eq_getElem hk]; rfl
      rw [e3]
      exact qb Ha (Same.refl _)
    · walk_at "st"
      exact q2
    have hPl := places_len sg (pg ps 0)
    rw [show (List.range sg.length).filter (isAt sg (pg ps 0)) = placesOf sg (pg ps 0) from rfl] at e2
    obtain ⟨P, hP⟩ : ∃ P, P = placesOf sg (pg ps 0) := ⟨_, rfl⟩
    rw [← hP] at e2 hPl
    have hPle : P.length ≤ 4000 := by rw [hPl]; exact Nat.le_trans (List.length_filter_le _ _) hl
    walk_at "st"
    refine k_lenL (.of e2) ?_
    walk_at "st"
    rw [List.length_map, List.length_map]
    refine comp_rangeF (fun k => decide ((k : Int) = pg ps 1)) (fun k => .int ((P.getD k 0 : Nat) : Int)) (by omega) (fun k Ha Qb hk sa qb => ?_) (fun k Ha Q2 hk sa q2 => ?_) fun p H3 hp s3 e3 => ?_
    · walk_at "st"
      refine k_ixT (.of ((s2.trans sa).get ep)) (at_nat (i := 1) (pgV (by omega))) ?_
      walk_at "st"
      exact qb _ (Same.refl _)
    · walk_at "st"
      have eg : (P.map Int.ofNat)[k]? = some ((P.getD k 0 : Nat) : Int) := by rw [List.getElem?_map, List.getD_eq_getElem?_getD, List.getElem?_eq_getElem hk]; rfl
      refine k_ixL (.of (sa.get e2)) (at_nat (mapint eg)) ?_
      exact q2 _ (Same.refl _)
    rw [range_eq] at e3
    rw [← hPl] at hR
    by_cases hc : 0 ≤ pg ps 1 ∧ pg ps 1 < (P.length : Int)
    · rw [if_pos hc] at e3
      refine q2 (fun z => hR.mp z hc) (by decide) p _ H3 (s2.gone _ hp) (s2.trans s3) e3 fun z hz => ?_
      unfold IsAns at hz
      rw [if_neg (by decide), if_neg (by decide), if_pos rfl] at hz
      obtain ⟨pl, rfl, h1, h2⟩ := hz
      have hg := places_get h1
      rw [← hP] at hg
      rw [show (pg ps 1).toNat = cp (fun z => decide (z = pg ps 0)) sg pl by omega, List.getD_eq_getElem?_getD, hg]; rfl
    · rw [if_neg hc] at e3
      exact q1 (hR.mpr hc) p H3 (s2.gone _ hp) (s2.trans s3) e3
  have hR3 : ¬ StrP sg ps → Refd sg w ps := fun z => by
    unfold Refd
    rw [if_neg c0, if_neg c1, if_neg c2]
    split
    · exact fun y => z y.1
    · exact z
  have hp2 : 2 ≤ ps.length := by rw [hpl]; unfold plen; rw [if_neg c0, if_neg c1, if_neg c2]; split <;> (try split) <;> omega
  have i0 := pgV (ps := ps) (i := 0) (by omega)
  have i1 := pgV (ps := ps) (i := 1) (by omega)
  walk_at "st"
  refine k_ixT (.of ep) (at_nat (i := 0) i0) ?_
  walk_at "st"
  walk_at "if" <;> intro d0
  · walk_at "st"
    intro p hp
    exact q1 (hR3 fun z => by have := z.1; omega) p _ hp (same_new hp) upd_same
  walk_at "st"
  refine k_ixT (.of ep) (at_nat (i := 0) i0) ?_
  walk_at "st"
  refine k_ixT (.of ep) (at_nat (i := 1) i1) ?_
  walk_at "st"
  walk_at "if" <;> intro d1
  · walk_at "st"
    intro p hp
    exact q1 (hR3 fun z => by have := z.2.1; omega) p _ hp (same_new hp) upd_same
  walk_at "st"
  refine k_ixT (.of ep) (at_nat (i := 1) i1) ?_
  walk_at "st"
  refine k_lenL (.of eS) ?_
  walk_at "st"
  rw [List.length_map]
  walk_at "if" <;> intro d2
  · walk_at "st"
    intro p hp
    exact q1 (hR3 fun z => by have := z.2.2; omega) p _ hp (same_new hp) upd_same
  have hst : StrP sg ps := ⟨by omega, by omega, by omega⟩
  obtain ⟨u, hu⟩ := Int.eq_ofNat_of_zero_le (show 0 ≤ pg ps 0 by omega)
  obtain ⟨v, hv⟩ := Int.eq_ofNat_of_zero_le (show 0 ≤ pg ps 1 by omega)
  have hsp : segP sg ps = seg sg u v := by unfold segP; rw [hu, hv]; rfl
  walk_at "st"
  refine k_ixT (.of ep) (at_nat (i := 0) i0) ?_
  walk_at "st"
  refine k_ixT (.of ep) (at_nat (i := 1) i1) ?_
  walk_at "st"
  rw [hu, hv]
  refine k_slL (.of eS) fun pc hpc => ?_
  rw [cutPart, ← List.map_take, ← List.map_drop]
  have sc := same_new (o := .lst (((sg.take v).drop u).map V.int)) hpc
  have ec := upd_same (H := H) (a := pc) (o := .lst (((sg.take v).drop u).map V.int))
  generalize upd H pc (.lst (((sg.take v).drop u).map V.int)) = Hc at sc ec ⊢
  refine ⟨pc, seg sg u v, rfl, .of ec, fun P p7 hperm hsrt hp7 => ?_⟩
  have s2 := same_new (o := .lst (P.map V.int)) hp7
  have e2 := upd_same (H := Hc) (a := p7) (o := .lst (P.map V.int))
  generalize upd Hc p7 (.lst (P.map V.int)) = H2 at s2 e2 ⊢
  replace s2 := sc.trans s2
  have hPl : P.length = v - u := by rw [hperm.length_eq, seg_length (by omega)]
  walk_at "st"
  walk_at "if" <;> intro c3
  · subst c3
    have hp4 : ps.length = 4 := hpl
    have hR : ¬ Refd sg 3 ps := by unfold Refd; rw [if_neg (by decide), if_neg (by decide), if_neg (by decide), if_neg (by decide)]; exact fun z => z hst
    walk_at "st"
    refine m_iLe (.of e2) ?_
    refine comp_filterI (fun y => decide (pg ps 2 ≤ y ∧ y < pg ps 3)) (.of e2) (by omega) (fun j n Ha Qb hn sa qb => ?_) (fun n Ha Q2 q2 => ?_) fun p8 H8 hp8 s8 e8 => ?_
    · walk_at "st"
      refine k_ixT (.of ((s2.trans sa).get ep)) (at_nat (i := 2) (pgV (by omega))) ?_
      walk_at "st"
      walk_at "if" <;> intro c1
      · walk_at "st"
        refine k_ixT (.of ((s2.trans sa).get ep)) (at_nat (i := 3) (pgV (by omega))) ?_
        walk_at "st"
        have := qb Ha (Same.refl _)
        rw [show decide (pg ps 2 ≤ n ∧ n < pg ps 3) = decide (n < pg ps 3) from decide_eq_decide.mpr (by omega)] at this
        exact this
      · walk_at "st"
        have := qb Ha (Same.refl _)
        rw [show decide (pg ps 2 ≤ n ∧ n < pg ps 3) = false from decide_eq_false (by omega)] at this
        exact this
    · walk_at "st"
      exact q2
    walk_at "st"
    refine k_lenL (.of e8) ?_
    walk_at "st"
    rw [List.length_map]
    intro p hp
    refine q2 hR (by decide) p _ _ ((s2.trans s8).gone _ hp) ((s2.trans s8).trans (same_new hp)) upd_same fun z hz => ?_
    unfold IsAns at hz
    rw [if_neg (by decide), if_neg (by decide), if_neg (by decide), if_pos rfl, hsp, ← (hperm.filter _).length_eq] at hz
    exact hz.symm
  walk_at "st"
  walk_at "if" <;> intro c4
  · subst c4
    have hp3 : ps.length = 3 := hpl
    have hR : Refd sg 4 ps ↔ ¬ (0 ≤ pg ps 2 ∧ pg ps 2 < (P.length : Int)) := by
      unfold Refd
      rw [if_neg (by decide), if_neg (by decide), if_neg (by decide), if_pos rfl]
      constructor
      · exact fun z y => z ⟨hst, y.1, by omega⟩
      · exact fun z y => z ⟨y.2.1, by omega⟩
    walk_at "st"
    refine k_lenL (.of e2) ?_
    walk_at "st"
    rw [List.length_map]
    refine comp_rangeF (fun k => decide ((k : Int) = pg ps 2)) (fun k => .int (P.getD k 0)) (by omega) (fun k Ha Qb hk sa qb => ?_) (fun k Ha Q2 hk sa q2 => ?_) fun p H3 hp s3 e3 => ?_
    · walk_at "st"
      refine k_ixT (.of ((s2.trans sa).get ep)) (at_nat (i := 2) (pgV (by omega))) ?_
      walk_at "st"
      exact qb _ (Same.refl _)
    · walk_at "st"
      have eg : P[k]? = some (P.getD k 0) := by rw [List.getD_eq_getElem?_getD, List.getElem?_eq_getElem hk]; rfl
      refine k_ixL (.of (sa.get e2)) (at_nat (mapint eg)) ?_
      exact q2 _ (Same.refl _)
    rw [range_eq] at e3
    by_cases hc : 0 ≤ pg ps 2 ∧ pg ps 2 < (P.length : Int)
    · rw [if_pos hc] at e3
      refine q2 (fun z => hR.mp z hc) (by decide) p _ H3 (s2.gone _ hp) (s2.trans s3) e3 fun z hz => ?_
      unfold IsAns at hz
      rw [if_neg (by decide), if_neg (by decide), if_neg (by decide), if_neg (by decide), hsp, ← (hperm.filter _).length_eq, ← (hperm.filter _).length_eq] at hz
      have hg := sorted_at hsrt hz.1 hz.2
      rw [List.getD_eq_getElem?_getD, hg]; rfl
    · rw [if_neg hc] at e3
      exact q1 (hR.mpr hc) p H3 (s2.gone _ hp) (s2.trans s3) e3
  walk_at "st"
  have c5 : w = 5 := by omega
  have hR : ¬ Refd sg w ps := by unfold Refd; rw [if_neg c0, if_neg c1, if_neg c2, if_neg c4]; exact fun z => z hst
  refine m_sortSet ?_
  walk_at "st"
  refine m_sortSetE (.of e2) (by omega) fun ks p9 hsrt9 hmem hp9 => ?_
  have hK : IsK ks (seg sg u v) := ⟨hsrt9, fun k => (hmem k).trans hperm.mem_iff⟩
  have hkl := nodup_len hK
  have hsl : (seg sg u v).length = v - u := seg_length (by omega)
  have s9 := same_new (o := .lst (ks.map V.int)) hp9
  have e9 := upd_same (H := H2) (a := p9) (o := .lst (ks.map V.int))
  generalize upd H2 p9 (.lst (ks.map V.int)) = H9 at s9 e9 ⊢
  replace e2 := s9.get e2
  refine m_iLe (.of e9) ?_
  refine comp_tups (fun _ => true) (fun k => [.int (ks.getD k 0), .int (((P.filter fun z => decide (z = ks.getD k 0)).length : Nat) : Int)]) (.of e9) (by rw [List.length_map]; omega) (fun k x Ha Q2 Qn hx sa qy qn => ?_) fun l Hd cs hpd sd ed hcl hcs => ?_
  · obtain ⟨n, en, rfl⟩ := of_mapint hx
    have hg : ks.getD k 0 = n := by rw [List.getD_eq_getElem?_getD, en]; rfl
    rw [hg] at qy
    walk_at "st"
    refine ⟨rfl, ?_⟩
    refine k_yes (iteT ?_)
    walk_at "st"
    refine m_iLe (.of (sa.get e2)) ?_
    refine comp_filterI (fun y => decide (y = n)) (.of (sa.get e2)) (by omega) (fun j m Hb Qb hn sb qb => ?_) (fun m Hb Q2 q2 => ?_) fun p8 H8 hp8 s8 e8 => ?_
    · walk_at "st"
      exact qb Hb (Same.refl _)
    · walk_at "st"
      exact q2
    walk_at "st"
    refine k_lenL (.of e8) ?_
    walk_at "st"
    rw [List.length_map]
    intro b hb
    exact qy rfl b _ (s8.gone _ hb) (s8.trans (same_new hb)) upd_same
  walk_at "st"
  intro p hp
  have sp := same_new (o := .lst [.ref l]) hp
  have hfl : (List.range (ks.map V.int).length).filter (fun _ => true) = List.range ks.length := by rw [List.length_map]; exact List.filter_eq_self.mpr fun _ _ => rfl
  rw [hfl] at hcl hcs
  rw [List.length_range] at hcl
  refine q3 hR c5 p l cs ks _ ((s2.trans (s9.trans sd)).gone _ hp) ((s2.trans (s9.trans sd)).trans sp) upd_same ⟨sp.get ed, hcl, by rw [hsp]; exact hK, fun i y c hy hc => ?_⟩
  have hi := (List.getElem?_eq_some_iff.mp hy).1
  have := hcs i i c (by rw [List.getElem?_range hi]) hc
  have hg : ks.getD i 0 = y := by rw [List.getD_eq_getElem?_getD, hy]; rfl
  rw [hg, (hperm.filter _).length_eq, ← hsp] at this
  exact sp.get this

--#base
--#base
structure KFx (K : PySem.W.Frag) : Prop where
  ec_NoBit : ExcC K (He.ga K "NoBit")
  kt_NoBit : PySem.W.kitOne K (.ref (He.ga K "NoBit")) (.type "ValueError") = some true
  k_NoBit_NoBit : PySem.W.kitOne K (.ref (He.ga K "NoBit")) (.ref (He.ga K "NoBit")) = some true
  e_NoBit_NoBit : PySem.W.exmOne K (.ref (He.ga K "NoBit")) (.ref (He.ga K "NoBit")) = some true
  k_NoBit_NoPlace : PySem.W.kitOne K (.ref (He.ga K "NoBit")) (.ref (He.ga K "NoPlace")) = some false
  e_NoBit_NoPlace : PySem.W.exmOne K (.ref (He.ga K "NoBit")) (.ref (He.ga K "NoPlace")) = some false
  k_NoBit_NoSign : PySem.W.kitOne K (.ref (He.ga K "NoBit")) (.ref (He.ga K "NoSign")) = some false
  e_NoBit_NoSign : PySem.W.exmOne K (.ref (He.ga K "NoBit")) (.ref (He.ga K "NoSign")) = some false
  k_NoBit_TooMany : PySem.W.kitOne K (.ref (He.ga K "NoBit")) (.ref (He.ga K "TooMany")) = some false
  e_NoBit_TooMany : PySem.W.exmOne K (.ref (He.ga K "NoBit")) (.ref (He.ga K "TooMany")) = some false
  ec_NoPlace : ExcC K (He.ga K "NoPlace")
  kt_NoPlace : PySem.W.kitOne K (.ref (He.ga K "NoPlace")) (.type "ValueError") = some true
  k_NoPlace_NoBit : PySem.W.kitOne K (.ref (He.ga K "NoPlace")) (.ref (He.ga K "NoBit")) = some false
  e_NoPlace_NoBit : PySem.W.exmOne K (.ref (He.ga K "NoPlace")) (.ref (He.ga K "NoBit")) = some false
  k_NoPlace_NoPlace : PySem.W.kitOne K (.ref (He.ga K "NoPlace")) (.ref (He.ga K "NoPlace")) = some true
  e_NoPlace_NoPlace : PySem.W.exmOne K (.ref (He.ga K "NoPlace")) (.ref (He.ga K "NoPlace")) = some true
  k_NoPlace_NoSign : PySem.W.kitOne K (.ref (He.ga K "NoPlace")) (.ref (He.ga K "NoSign")) = some false
  e_NoPlace_NoSign : PySem.W.exmOne K (.ref (He.ga K "NoPlace")) (.ref (He.ga K "NoSign")) = some false
  k_NoPlace_TooMany : PySem.W.kitOne K (.ref (He.ga K "NoPlace")) (.ref (He.ga K "TooMany")) = some false
  e_NoPlace_TooMany : PySem.W.exmOne K (.ref (He.ga K "NoPlace")) (.ref (He.ga K "TooMany")) = some false
  ec_NoSign : ExcC K (He.ga K "NoSign")
  kt_NoSign : PySem.W.kitOne K (.ref (He.ga K "NoSign")) (.type "ValueError") = some true
  k_NoSign_NoBit : PySem.W.kitOne K (.ref (He.ga K "NoSign")) (.ref (He.ga K "NoBit")) = some false
  e_NoSign_NoBit : PySem.W.exmOne K (.ref (He.ga K "NoSign")) (.ref (He.ga K "NoBit")) = some false
  k_NoSign_NoPlace : PySem.W.kitOne K (.ref (He.ga K "NoSign")) (.ref (He.ga K "NoPlace")) = some false
  e_NoSign_NoPlace : PySem.W.exmOne K (.ref (He.ga K "NoSign")) (.ref (He.ga K "NoPlace")) = some false
  k_NoSign_NoSign : PySem.W.kitOne K (.ref (He.ga K "NoSign")) (.ref (He.ga K "NoSign")) = some true
  e_NoSign_NoSign : PySem.W.exmOne K (.ref (He.ga K "NoSign")) (.ref (He.ga K "NoSign")) = some true
  k_NoSign_TooMany : PySem.W.kitOne K (.ref (He.ga K "NoSign")) (.ref (He.ga K "TooMany")) = some false
  e_NoSign_TooMany : PySem.W.exmOne K (.ref (He.ga K "NoSign")) (.ref (He.ga K "TooMany")) = some false
  ec_TooMany : ExcC K (He.ga K "TooMany")
  kt_TooMany : PySem.W.kitOne K (.ref (He.ga K "TooMany")) (.type "ValueError") = some true
  k_TooMany_NoBit : PySem.W.kitOne K (.ref (He.ga K "TooMany")) (.ref (He.ga K "NoBit")) = some false
  e_TooMany_NoBit : PySem.W.exmOne K (.ref (He.ga K "TooMany")) (.ref (He.ga K "NoBit")) = some false
  k_TooMany_NoPlace : PySem.W.kitOne K (.ref (He.ga K "TooMany")) (.ref (He.ga K "NoPlace")) = some false
  e_TooMany_NoPlace : PySem.W.exmOne K (.ref (He.ga K "TooMany")) (.ref (He.ga K "NoPlace")) = some false
  k_TooMany_NoSign : PySem.W.kitOne K (.ref (He.ga K "TooMany")) (.ref (He.ga K "NoSign")) = some false
  e_TooMany_NoSign : PySem.W.exmOne K (.ref (He.ga K "TooMany")) (.ref (He.ga K "NoSign")) = some false
  k_TooMany_TooMany : PySem.W.kitOne K (.ref (He.ga K "TooMany")) (.ref (He.ga K "TooMany")) = some true
  e_TooMany_TooMany : PySem.W.exmOne K (.ref (He.ga K "TooMany")) (.ref (He.ga K "TooMany")) = some true

/-- so many blocks for each level -/
def mostW (w : Int) : Nat := if w = 0 then 1 else if w = 1 then 2 else if w = 2 then 4 else if w = 3 then 4 else 2
/-- _law_answer(way, tables, look, parts) -/
def sp_law_answer (K : PySem.W.Frag) (CL : CLs) : Sp := fun vs H Q E => ∃ (w : Int) (t g pp : Addr) (ks sg ps : List Int) (q : Option Addr) (D : Addr → Prop) (I : List Nat → Hp → Prop), vs = [.int w, .ref t, .ref g, .ref pp] ∧ 0 ≤ w ∧ w ≤ 5 ∧ SgAt K CL H t g ks sg q D I ∧ I [] H ∧ lvK ks ≤ 10 ∧ NdefX.TabN H (tabP K "level_row") nmL ∧ H pp = some (.tup (ps.map V.int)) ∧ ps.length = plen w ∧
  (Refd sg w ps → ∀ H' L2, Few ks sg (4 * lvK ks) L2 → I L2 H' → SameX q H H' → E (.ref (He.ga K "NoPlace")) none H') ∧
  (¬ Refd sg w ps → w ≠ 5 → ∀ y H' L2, IsAns sg w ps y → Few ks sg (mostW w * lvK ks) L2 → I L2 H' → SameX q H H' → Q (.int y) H') ∧
  (¬ Refd sg w ps → w = 5 → ∀ (l : Addr) (as : List Addr) (ds : List Int) H' L2, Few ks sg (2 * lvK ks * ds.length) L2 → L2.length ≤ 4 * 2 ^ lvK ks → I L2 H' → SameX q H H' → q ≠ some l → RepP H' l as ds (segP sg ps) → Q (.ref l) H')
theorem len_law_answer (K : PySem.W.Frag) (CL : CLs) : ∀ vs H Q E, sp_law_answer K CL vs H Q E → vs.length = 4 := by
  rintro vs H Q E ⟨x, y, _, _, _, _, _, _, _, _, rfl, _⟩; rfl
def t_law_answer (K : PySem.W.Frag) (CL : CLs) (E : XK) : TS :=
  (tSeq (tIfS (tTest (tOp rEq (tVar 0) (tC (.int 0))))
  (tRet (tCall (sp_sign_at K CL) [] E (tCons (tVar 1) (tCons (tVar 2) (tCons (tOp (rIxT K) (tVar 3) (tC (.int 0))) tNil)))))
  tNext)
  (tSeq (tIfS (tTest (tOp rEq (tVar 0) (tC (.int 1))))
  (tRet (tCall (sp_signs_ahead K CL) [] E (tCons (tVar 1) (tCons (tVar 2) (tCons (tOp (rIxT K) (tVar 3) (tC (.int 0))) (tCons (tOp (rIxT K) (tVar 3) (tC (.int 1))) tNil))))))
  tNext)
  (tSeq (tIfS (tTest (tOp rEq (tVar 0) (tC (.int 2))))
  (tRet (tCall (sp_sign_place K CL) [] E (tCons (tVar 1) (tCons (tVar 2) (tCons (tOp (rIxT K) (tVar 3) (tC (.int 0))) (tCons (tOp (rIxT K) (tVar 3) (tC (.int 1))) tNil))))))
  tNext)
  (tSeq (tIfS (tTest (tOp rEq (tVar 0) (tC (.int 3))))
  (tRet (tCall (sp_between K CL) [] E (tCons (tVar 1) (tCons (tVar 2) (tCons (tOp (rIxT K) (tVar 3) (tC (.int 0))) (tCons (tOp (rIxT K) (tVar 3) (tC (.int 1))) (tCons (tOp (rIxT K) (tVar 3) (tC (.int 2))) (tCons (tOp (rIxT K) (tVar 3) (tC (.int 3))) tNil))))))))
  tNext)
  (tSeq (tIfS (tTest (tOp rEq (tVar 0) (tC (.int 4))))
  (tRet (tCall (sp_so_manieth K CL) [] E (tCons (tVar 1) (tCons (tVar 2) (tCons (tOp (rIxT K) (tVar 3) (tC (.int 0))) (tCons (tOp (rIxT K) (tVar 3) (tC (.int 1))) (tCons (tOp (rIxT K) (tVar 3) (tC (.int 2))) tNil)))))))
  tNext)
  (tRet (tCall (sp_unlike K CL) [] E (tCons (tVar 1) (tCons (tVar 2) (tCons (tOp (rIxT K) (tVar 3) (tC (.int 0))) (tCons (tOp (rIxT K) (tVar 3) (tC (.int 1))) tNil)))))))))))
abbrev n_law_answer : List Str := ["_law_way", "_law_tables", "_law_look_here", "_law_parts_here"]

theorem rd_law_answer (K : PySem.W.Frag) (CL : CLs) (vs : List V) (H : Hp) (Q : VK) (E : XK) (h : sp_law_answer K CL vs H Q E) : t_law_answer K CL E { nx := fun _ H' => Q .non H', rt := Q } (start n_law_answer vs) H := by
  obtain ⟨w, t, g, pp, ks, sg, ps, q, D, I, rfl, w0, w5, S, i0, hlv, hTb, ep, hpl, q1, q2, q3⟩ := h
  have f0 := (Few.nil ks sg).le (Nat.zero_le (4 * lvK ks))
  have X0 := (Same.refl H).toX (S.look.isq i0)
  unfold t_law_answer
  walk_at "st"
  walk_at "if" <;> intro c0
  · subst c0
    have hp1 : ps.length = 1 := hpl
    walk_at "st"
    refine k_ixT (.of ep) (at_nat (i := 0) (pgV (by omega))) ?_
    walk_at "st"
    have hR : Refd sg 0 ps ↔ ¬ (0 ≤ pg ps 0 ∧ pg ps 0 < (sg.length : Int)) := by unfold Refd; rw [if_pos rfl]
    refine ⟨t, g, _, ks, sg, q, D, I, [], rfl, S, i0, by decide, hTb, fun z => q1 (hR.mpr (by omega)) H [] f0 i0 X0, fun k ek hk H' L2 hF i' X' => ?_⟩
    rw [List.nil_append] at i'
    refine q2 (fun z => hR.mp z (by omega)) (by decide) _ H' L2 ?_ (hF.le (by unfold mostW; rw [if_pos rfl]; omega)) i' X'
    unfold IsAns
    rw [if_pos rfl, ek, Int.toNat_natCast, List.getD_eq_getElem?_getD, List.getElem?_eq_getElem hk]; rfl
  walk_at "st"
  walk_at "if" <;> intro c1
  · subst c1
    have hp1 : ps.length = 2 := hpl
    walk_at "st"
    refine k_ixT (.of ep) (at_nat (i := 0) (pgV (by omega))) ?_
    walk_at "st"
    refine k_ixT (.of ep) (at_nat (i := 1) (pgV (by omega))) ?_
    walk_at "st"
    have hR : Refd sg 1 ps ↔ ¬ (0 ≤ pg ps 1 ∧ pg ps 1 ≤ (sg.length : Int)) := by unfold Refd; rw [if_neg (by decide), if_pos rfl]
    refine ⟨t, g, _, _, ks, sg, q, D, I, [], rfl, S, i0, by decide, hTb, fun z => q1 (hR.mpr (by omega)) H [] f0 i0 X0, fun k ek hk H' L2 hF i' X' => ?_⟩
    rw [List.nil_append] at i'
    refine q2 (fun z => hR.mp z (by omega)) (by decide) _ H' L2 ?_ (hF.le (by unfold mostW; rw [if_neg (by decide), if_pos rfl]; omega)) i' X'
    unfold IsAns
    rw [if_neg (by decide), if_pos rfl, ek, Int.toNat_natCast]
  walk_at "st"
  walk_at "if" <;> intro c2
  · subst c2
    have hp1 : ps.length = 2 := hpl
    walk_at "st"
    refine k_ixT (.of ep) (at_nat (i := 0) (pgV (by omega))) ?_
    walk_at "st"
    refine k_ixT (.of ep) (at_nat (i := 1) (pgV (by omega))) ?_
    walk_at "st"
    have hR : Refd sg 2 ps ↔ ¬ (0 ≤ pg ps 1 ∧ pg ps 1 < (((sg.filter fun y => decide (y = pg ps 0)).length : Nat) : Int)) := by unfold Refd; rw [if_neg (by decide), if_neg (by decide), if_pos rfl]
    refine ⟨t, g, _, _, ks, sg, q, D, I, [], rfl, S, i0, by decide, hTb, fun z H' L2 hF i' X' => q1 (hR.mpr (by omega)) H' L2 hF (by rw [List.nil_append] at i'; exact i') X', fun k p ek e1 e2 H' L2 hF i' X' => ?_⟩
    rw [List.nil_append] at i'
    have hlt : k < (sg.filter fun z => decide (z = pg ps 0)).length := by
      have h1 : cp (fun z => decide (z = pg ps 0)) sg (p + 1) = k + 1 := by rw [← e2]; unfold cp; rw [List.take_add_one, e1]; simp
      have hpl := (List.getElem?_eq_some_iff.mp e1).1
      have h2 := cp_mono (fun z => decide (z = pg ps 0)) sg (show p + 1 ≤ sg.length by omega)
      rw [h1] at h2
      unfold cp at h2
      rw [List.take_length] at h2
      omega
    refine q2 (fun z => hR.mp z (by omega)) (by decide) _ H' L2 ?_ (hF.le (by unfold mostW; rw [if_neg (by decide), if_neg (by decide), if_pos rfl]; exact Nat.le_refl _)) i' X'
    unfold IsAns
    rw [if_neg (by decide), if_neg (by decide), if_pos rfl]
    exact ⟨p, rfl, e1, by rw [e2]; exact ek.symm⟩
  have hRS : Refd sg w ps → w ≠ 4 → ¬ StrP sg ps := fun z z4 => by
    unfold Refd at z
    rw [if_neg c0, if_neg c1, if_neg c2, if_neg z4] at z
    exact z
  have hRN : w ≠ 4 → ¬ StrP sg ps → Refd sg w ps := fun z4 z => by
    unfold Refd
    rw [if_neg c0, if_neg c1, if_neg c2, if_neg z4]
    exact z
  have hp2 : 2 ≤ ps.length := by rw [hpl]; unfold plen; rw [if_neg c0, if_neg c1, if_neg c2]; split <;> (try split) <;> omega
  have i0' := pgV (ps := ps) (i := 0) (by omega)
  have i1' := pgV (ps := ps) (i := 1) (by omega)
  have hseg : ∀ u v : Nat, pg ps 0 = (u : Int) → pg ps 1 = (v : Int) → segP sg ps = seg sg u v := fun u v hu hv => by unfold segP; rw [hu, hv]; rfl
  walk_at "st"
  walk_at "if" <;> intro c3
  · subst c3
    have hp4 : ps.length = 4 := hpl
    walk_at "st"
    refine k_ixT (.of ep) (at_nat (i := 0) i0') ?_
    walk_at "st"
    refine k_ixT (.of ep) (at_nat (i := 1) i1') ?_
    walk_at "st"
    refine k_ixT (.of ep) (at_nat (i := 2) (pgV (by omega))) ?_
    walk_at "st"
    refine k_ixT (.of ep) (at_nat (i := 3) (pgV (by omega))) ?_
    walk_at "st"
    refine ⟨t, g, _, _, _, _, ks, sg, q, D, I, [], rfl, S, i0, by decide, hTb, fun z => q1 (hRN (by decide) fun y => by have := y.1; have := y.2.1; have := y.2.2; omega) H [] f0 i0 X0, fun u v hu hv huv hvn H' L2 hF i' X' => ?_⟩
    rw [List.nil_append] at i'
    refine q2 (fun z => hRS z (by decide) ⟨by omega, by omega, by omega⟩) (by decide) _ H' L2 ?_ (hF.le (by unfold mostW; rw [if_neg (by decide), if_neg (by decide), if_neg (by decide), if_pos rfl]; exact Nat.le_refl _)) i' X'
    unfold IsAns
    rw [if_neg (by decide), if_neg (by decide), if_neg (by decide), if_pos rfl, hseg u v hu hv]
  walk_at "st"
  walk_at "if" <;> intro c4
  · subst c4
    have hp3 : ps.length = 3 := hpl
    walk_at "st"
    refine k_ixT (.of ep) (at_nat (i := 0) i0') ?_
    walk_at "st"
    refine k_ixT (.of ep) (at_nat (i := 1) i1') ?_
    walk_at "st"
    refine k_ixT (.of ep) (at_nat (i := 2) (pgV (by omega))) ?_
    walk_at "st"
    have hR : Refd sg 4 ps ↔ ¬ (StrP sg ps ∧ 0 ≤ pg ps 2 ∧ pg ps 2 < pg ps 1 - pg ps 0) := by
      unfold Refd
      rw [if_neg (by decide), if_neg (by decide), if_neg (by decide), if_pos rfl]
    refine ⟨t, g, _, _, _, ks, sg, q, D, I, [], rfl, S, i0, by decide, hTb, fun z => q1 (hR.mpr fun y => by have := y.1.1; have := y.1.2.1; have := y.1.2.2; have := y.2.1; have := y.2.2; omega) H [] f0 i0 X0, fun u v k hu hv hk huv hvn hkv y H' L2 h1 h2 hF i' X' => ?_⟩
    rw [List.nil_append] at i'
    refine q2 (fun z => hR.mp z ⟨⟨by omega, by omega, by omega⟩, by omega, by omega⟩) (by decide) y H' L2 ?_ (hF.le (by unfold mostW; rw [if_neg (by decide), if_neg (by decide), if_neg (by decide), if_neg (by decide)]; exact Nat.le_refl _)) i' X'
    unfold IsAns
    rw [if_neg (by decide), if_neg (by decide), if_neg (by decide), if_neg (by decide), hseg u v hu hv, hk, Int.toNat_natCast]
    exact ⟨h1, h2⟩
  have c5 : w = 5 := by omega
  walk_at "st"
  refine k_ixT (.of ep) (at_nat (i := 0) i0') ?_
  walk_at "st"
  refine k_ixT (.of ep) (at_nat (i := 1) i1') ?_
  walk_at "st"
  refine ⟨t, g, _, _, ks, sg, q, D, I, [], rfl, S, i0, by decide, hlv, hTb, fun z => q1 (hRN c4 fun y => by have := y.1; have := y.2.1; have := y.2.2; omega) H [] f0 i0 X0, fun u v hu hv huv hvn l as ds H' L2 hF hL2 i' X' nq el hal hK hd => ?_⟩
  rw [List.nil_append] at i'
  have hsp := hseg u v hu hv
  refine q3 (fun z => hRS z c4 ⟨by omega, by omega, by omega⟩) c5 l as ds H' L2 hF hL2 i' X' nq ⟨el, hal, by rw [hsp]; exact hK, by rw [hsp]; exact hd⟩

--#base
/-- _law_told(way, tables, look, parts) -/
def sp_law_told (K : PySem.W.Frag) (CL : CLs) : Sp := fun vs H Q _ => ∃ (w : Int) (t g pp : Addr) (ks sg ps : List Int) (q : Option Addr) (D : Addr → Prop) (I : List Nat → Hp → Prop), vs = [.int w, .ref t, .ref g, .ref pp] ∧ 0 ≤ w ∧ w ≤ 5 ∧ SgAt K CL H t g ks sg q D I ∧ I [] H ∧ lvK ks ≤ 10 ∧ NdefX.TabN H (tabP K "level_row") nmL ∧ H pp = some (.tup (ps.map V.int)) ∧ ps.length = plen w ∧
  (Refd sg w ps → ∀ p H' L2, Few ks sg (4 * lvK ks) L2 → I L2 H' → SameX q H H' → H' p = some (.lst []) → Q (.ref p) H') ∧
  (¬ Refd sg w ps → w ≠ 5 → ∀ p y H' L2, IsAns sg w ps y → Few ks sg (mostW w * lvK ks) L2 → I L2 H' → SameX q H H' → H' p = some (.lst [.int y]) → Q (.ref p) H') ∧
  (¬ Refd sg w ps → w = 5 → ∀ (p l : Addr) (as : List Addr) (ds : List Int) H' L2, Few ks sg (2 * lvK ks * ds.length) L2 → L2.length ≤ 4 * 2 ^ lvK ks → I L2 H' → SameX q H H' → H' p = some (.lst [.ref l]) → RepP H' l as ds (segP sg ps) → Q (.ref p) H')
theorem len_law_told (K : PySem.W.Frag) (CL : CLs) : ∀ vs H Q E, sp_law_told K CL vs H Q E → vs.length = 4 := by
  rintro vs H Q E ⟨x, y, _, _, _, _, _, _, _, _, rfl, _⟩; rfl
theorem RepP.same {H H' : Hp} {l : Addr} {as : List Addr} {ds S : List Int} (h : RepP H l as ds S) (s : Same H H') : RepP H' l as ds S := ⟨s.get h.1, h.2.1, h.2.2.1, fun i y c a b => s.get (h.2.2.2 i y c a b)⟩
def t_law_told (K : PySem.W.Frag) (CL : CLs) : TS :=
  (tSeq (tAsg (tLst tNil) (gName 4))
  (tSeq (tTryOnly K (.ref (He.ga K "NoPlace")) (fun W => (tAsg (tLst (tCons (tCallS (sp_law_answer K CL) (WE W) (tCons (tVar 0) (tCons (tVar 1) (tCons (tVar 2) (tCons (tVar 3) tNil))))) tNil)) (gName 4))) (fun a cls d => (tAsg (tLst tNil) (gName 4))) (fun _ _ _ _ => False))
  (tRet (tVar 4))))
abbrev n_law_told : List Str := ["_law_way", "_law_tables", "_law_look_here", "_law_parts_here", "_law_told_here"]

theorem rd_law_told (K : PySem.W.Frag) (CL : CLs) (F : KFx K) (vs : List V) (H : Hp) (Q : VK) (E : XK) (h : sp_law_told K CL vs H Q E) : t_law_told K CL { nx := fun _ H' => Q .non H', rt := Q } (start n_law_told vs) H := by
  obtain ⟨w, t, g, pp, ks, sg, ps, q, D, I, rfl, w0, w5, S, i0, hlv, hTb, ep, hpl, q1, q2, q3⟩ := h
  unfold t_law_told
  walk_at "st"
  intro p0 hp0
  have s0 := same_new (o := .lst []) hp0
  generalize upd H p0 (.lst []) = H0 at s0 ⊢
  have X0 := s0.toX (S.look.isq i0)
  walk_at "st"
  refine ⟨w, t, g, pp, ks, sg, ps, q, D, I, rfl, w0, w5, S.move s0, S.look.ext i0 s0, hlv, s0.tabs _ hTb, s0.get ep, hpl, fun hR H' L2 hF i' X' => ?_, fun hR h5 y H' L2 hA hF i' X' => ?_, fun hR h5 l as ds H' L2 hF hL2 i' X' nq hRep => ?_⟩
  · refine m_caughtO F.e_NoPlace_NoPlace fun xa hxa => ?_
    walk_at "st"
    intro p hp
    walk_at "st"
    have s1 := same_new (o := .lst []) hp
    have X := X0.trans X'
    exact q1 hR p _ L2 hF (S.look.ext i' s1) (X.trans (s1.toX X.isl')) upd_same
  · walk_at "st"
    intro p hp
    walk_at "st"
    have s1 := same_new (o := .lst [.int y]) hp
    have X := X0.trans X'
    exact q2 hR h5 p y _ L2 hA hF (S.look.ext i' s1) (X.trans (s1.toX X.isl')) upd_same
  · walk_at "st"
    intro p hp
    walk_at "st"
    have s1 := same_new (o := .lst [.ref l]) hp
    have X := X0.trans X'
    exact q3 hR h5 p l as ds _ L2 hF hL2 (S.look.ext i' s1) (X.trans (s1.toX X.isl')) upd_same (hRep.same s1)
theorem k_isListI {a : Int} {H : Hp} {Q : VK} (q : Q (.bl false) H) : rIsB [.int a, .ty "list"] H Q := ⟨.int a, "list", rfl, "int", false, fun _ => .base (.int a), by decide +kernel, q⟩
/-- an answer, and what is due -/
def AliV (H : Hp) (x y : V) : Prop := (∃ i : Int, x = .int i ∧ y = .int i) ∨ ∃ (l m : Addr) (as bs : List Addr) (ds S : List Int), x = .ref l ∧ y = .ref m ∧ RepP H l as ds S ∧ RepP H m bs ds S
/-- _law_alike(found, due) -/
def sp_law_alike (K : PySem.W.Frag) : Sp := fun vs H Q _ => ∃ x y, vs = [x, y] ∧ AliV H x y ∧ ∀ H', Same H H' → Q (.bl true) H'
theorem len_law_alike (K : PySem.W.Frag) : ∀ vs H Q E, sp_law_alike K vs H Q E → vs.length = 2 := by
  rintro vs H Q E ⟨x, y, rfl, _⟩; rfl
def t_law_alike (K : PySem.W.Frag) : TS :=
  (tSeq (tIfS (tNot (tB (tCB rIsB (tCons (tVar 1) (tCons (tC (.ty "list")) tNil)))))
  (tRet (tAndV (tCall (sp_law_whole K) [] E0 (tCons (tVar 0) tNil)) (tOp (rEqD K) (tVar 0) (tVar 1))))
  tNext)
  (tSeq (tIfS (tOr (tNot (tB (tCB rIsB (tCons (tVar 0) (tCons (tC (.ty "list")) tNil))))) (tTest (tOp rNe (tCB (rLen K) (tCons (tVar 0) tNil)) (tCB (rLen K) (tCons (tVar 1) tNil)))))
  (tRet (tC (.bl false)))
  tNext)
  (tSeq (tFor (iZip K (tCons (tVar 0) (tCons (tVar 1) tNil))) (gTup K 2 (gCons (gName 2) (gCons (gName 3) gNil)))
  (tSeq (tIfS (tOr (tNot (tB (tCB rIsB (tCons (tVar 2) (tCons (tC (.ty "tuple")) tNil))))) (tOr (tTest (tOp rNe (tCB (rLen K) (tCons (tVar 2) tNil)) (tC (.int 2)))) (tOr (tNot (tB (tCall (sp_law_whole K) [] E0 (tCons (tOp (rIxT K) (tVar 2) (tC (.int 0))) tNil)))) (tNot (tB (tCall (sp_law_whole K) [] E0 (tCons (tOp (rIxT K) (tVar 2) (tC (.int 1))) tNil)))))))
  (tRet (tC (.bl false)))
  tNext)
  (tIfS (tTest (tOp (rNeD K) (tVar 2) (tVar 3)))
  (tRet (tC (.bl false)))
  tNext)))
  (tRet (tC (.bl true))))))
abbrev n_law_alike : List Str := ["_law_found", "_law_due_here", "_law_row", "_law_other"]

theorem rd_law_alike (K : PySem.W.Frag) (vs : List V) (H : Hp) (Q : VK) (E : XK) (h : sp_law_alike K vs H Q E) : t_law_alike K { nx := fun _ H' => Q .non H', rt := Q } (start n_law_alike vs) H := by
  obtain ⟨x, y, rfl, hA, q⟩ := h
  unfold t_law_alike
  walk_at "st"
  rcases hA with ⟨i, rfl, rfl⟩ | ⟨l, m, as, bs, ds, S, rfl, rfl, ⟨el, hal, hK, hd⟩, ⟨em, hbl, _, he⟩⟩
  · refine k_isListI ?_
    walk_at "st"
    refine whole_int ?_
    walk_at "st"
    refine k_eqD (.int i) (.int i) (laid_int i) (laid_int i) ?_
    rw [PySem.SeqAt.eqv_refl _ (laid_int (n := 64) i).1]
    exact q _ (Same.refl _)
  · refine k_isList em ?_
    walk_at "st"
    refine k_isList el ?_
    walk_at "st"
    refine k_lenL (.of el) ?_
    walk_at "st"
    refine k_lenL (.of em) ?_
    walk_at "st"
    rw [List.length_map, List.length_map, hal, hbl]
    refine k_ndecT rfl ?_
    walk_at "st"
    refine m_zipE (.of el) (.of em) ?_
    refine loop_walk (walk_zip (n := ds.length) (xs := as.map V.ref) (ys := bs.map V.ref) (by rw [List.length_map, List.length_map, hal, hbl, Nat.min_self])) (fun i σ' H' => ∃ (v2 v3 : Option V), Same H H' ∧ σ' = [some (.ref l), some (.ref m), v2, v3]) ⟨none, none, Same.refl _, rfl⟩ (fun i σ' H' ⟨_, _, s, _⟩ => ⟨.of (s.get el), .of (s.get em)⟩) ?_ ?_
    · rintro i v σ' H' H'' hi ⟨v2, v3, s, rfl⟩ ⟨T, x, w, rfl, hT, rfl, ex, ew⟩
      replace ex : (as.map V.ref)[i]? = some x := ex
      replace ew : (bs.map V.ref)[i]? = some w := ew
      rw [List.getElem?_map] at ex ew
      cases ha : as[i]? with
      | none => rw [ha] at ex; cases ex
      | some c =>
      cases hb : bs[i]? with
      | none => rw [hb] at ew; cases ew
      | some e =>
      rw [ha] at ex
      rw [hb] at ew
      obtain rfl := Option.some.inj ex
      obtain rfl := Option.some.inj ew
      have hy := List.getElem?_eq_getElem hi
      have sT := same_new (o := .tup [.ref c, .ref e]) hT
      have eT := upd_same (H := H') (a := T) (o := .tup [.ref c, .ref e])
      generalize upd H' T (.tup [.ref c, .ref e]) = H2 at sT eT ⊢
      have st := s.trans sT
      have ec := st.get (hd i _ c hy ha)
      have ee := st.get (he i _ e hy hb)
      refine m_gTup (.of eT) rfl ?_
      walk_at "st"
      refine k_isTup ec ?_
      walk_at "st"
      refine k_lenT (.of ec) ?_
      walk_at "st"
      refine k_ndecT rfl ?_
      walk_at "st"
      refine k_ixT (.of ec) (x := .int ds[i]) rfl ?_
      walk_at "st"
      refine whole_int ?_
      walk_at "st"
      refine k_ixT (.of ec) (x := .int (((S.filter fun z => decide (z = ds[i])).length : Nat) : Int)) rfl ?_
      walk_at "st"
      refine whole_int ?_
      walk_at "st"
      refine k_neD (dp_intsT (ns := [ds[i], (((S.filter fun z => decide (z = ds[i])).length : Nat) : Int)]) (.of ec)) (dp_intsT (ns := [ds[i], (((S.filter fun z => decide (z = ds[i])).length : Nat) : Int)]) (.of ee)) (laid_intsT _) (laid_intsT _) ?_
      rw [eqv_intsT, decide_eq_true rfl]
      walk_at "st"
      exact ⟨_, _, st, rfl⟩
    · rintro σ' H' ⟨v2, v3, s, rfl⟩
      walk_at "st"
      exact q _ s

/-- what is due, as a list -/
def DueR (H : Hp) (w : Int) (sg ps : List Int) (pd : Addr) : Prop :=
  (Refd sg w ps ∧ H pd = some (.lst [])) ∨ (¬ Refd sg w ps ∧ w ≠ 5 ∧ ∃ y, H pd = some (.lst [.int y]) ∧ ∀ z, IsAns sg w ps z → y = z) ∨ (¬ Refd sg w ps ∧ w = 5 ∧ ∃ l as ds, H pd = some (.lst [.ref l]) ∧ RepP H l as ds (segP sg ps))
theorem DueR.move {H H' : Hp} {w : Int} {sg ps : List Int} {pd : Addr} (h : DueR H w sg ps pd) (s : Same H H') : DueR H' w sg ps pd := by
  rcases h with ⟨h, e⟩ | ⟨h, h5, y, e, hz⟩ | ⟨h, h5, l, as, ds, e, r⟩
  · exact .inl ⟨h, s.get e⟩
  · exact .inr (.inl ⟨h, h5, y, s.get e, hz⟩)
  · exact .inr (.inr ⟨h, h5, l, as, ds, s.get e, r.same s⟩)
theorem call_due {K : PySem.W.Frag} {H : Hp} {Q : VK} {E : XK} {w : Int} {a pp : Addr} {sg ps : List Int} (w0 : 0 ≤ w) (w5 : w ≤ 5) (eS : H a = some (.lst (sg.map V.int))) (hl : sg.length ≤ 4000) (ep : H pp = some (.tup (ps.map V.int))) (hpl : ps.length = plen w)
    (q : ∀ pd H', H pd = none → Same H H' → DueR H' w sg ps pd → Q (.ref pd) H') : sp_law_due K [.int w, .ref a, .ref pp] H Q E :=
  ⟨w, a, pp, sg, ps, rfl, w0, w5, eS, hl, ep, hpl, fun h p H' hp s e => q p H' hp s (.inl ⟨h, e⟩), fun h h5 p y H' hp s e hz => q p H' hp s (.inr (.inl ⟨h, h5, y, e, hz⟩)), fun h h5 p l as ds H' hp s e r => q p H' hp s (.inr (.inr ⟨h, h5, l, as, ds, e, r⟩))⟩
/-- what is told, as a list -/
def ToldR (H : Hp) (w : Int) (ks sg ps : List Int) (pd : Addr) (L2 : List Nat) : Prop :=
  (Refd sg w ps ∧ H pd = some (.lst [])) ∨ (¬ Refd sg w ps ∧ w ≠ 5 ∧ ∃ y, H pd = some (.lst [.int y]) ∧ IsAns sg w ps y ∧ Few ks sg (mostW w * lvK ks) L2) ∨ (¬ Refd sg w ps ∧ w = 5 ∧ ∃ l as ds, H pd = some (.lst [.ref l]) ∧ RepP H l as ds (segP sg ps) ∧ Few ks sg (2 * lvK ks * ds.length) L2 ∧ L2.length ≤ 4 * 2 ^ lvK ks)
theorem call_told {K : PySem.W.Frag} {CL : CLs} {H : Hp} {Q : VK} {E : XK} {w : Int} {t g pp : Addr} {ks sg ps : List Int} {q : Option Addr} {D : Addr → Prop} {I : List Nat → Hp → Prop} (w0 : 0 ≤ w) (w5 : w ≤ 5) (S : SgAt K CL H t g ks sg q D I) (i0 : I [] H) (hlv : lvK ks ≤ 10) (hT : NdefX.TabN H (tabP K "level_row") nmL) (ep : H pp = some (.tup (ps.map V.int))) (hpl : ps.length = plen w)
    (qq : ∀ pt L2 H', I L2 H' → SameX q H H' → ToldR H' w ks sg ps pt L2 → Q (.ref pt) H') : sp_law_told K CL [.int w, .ref t, .ref g, .ref pp] H Q E :=
  ⟨w, t, g, pp, ks, sg, ps, q, D, I, rfl, w0, w5, S, i0, hlv, hT, ep, hpl, fun hR p H' L2 _ i' X' e' => qq p L2 H' i' X' (.inl ⟨hR, e'⟩), fun hR h5 p y H' L2 hA hF i' X' e' => qq p L2 H' i' X' (.inr (.inl ⟨hR, h5, y, e', hA, hF⟩)), fun hR h5 p l as ds H' L2 hF hL2 i' X' e' hRep => qq p L2 H' i' X' (.inr (.inr ⟨hR, h5, l, as, ds, e', hRep, hF, hL2⟩))⟩
/-- a row of signs, its tables and its blocks -/
def RowS (K : PySem.W.Frag) (H : Hp) (r : Addr) : Prop := ∃ (a t pb : Addr) (ks sg : List Int), H r = some (.tup [.ref a, .ref t, .ref pb]) ∧ H a = some (.lst (sg.map V.int)) ∧ SgTab K H t pb ks sg ∧ sg.length ≤ 130
theorem RowS.move {K : PySem.W.Frag} {H H' : Hp} {r : Addr} (h : RowS K H r) (s : Same H H') : RowS K H' r := by
  obtain ⟨a, t, pb, ks, sg, e1, e2, T, hl⟩ := h
  exact ⟨a, t, pb, ks, sg, s.get e1, s.get e2, T.move s, hl⟩
theorem most_at {w : Int} (w0 : 0 ≤ w) (w5 : w ≤ 5) : atI [V.int 1, V.int 2, V.int 4, V.int 4, V.int 2, V.int 2] w = some (.int ((mostW w : Nat) : Int)) := by
  have : w = 0 ∨ w = 1 ∨ w = 2 ∨ w = 3 ∨ w = 4 ∨ w = 5 := by omega
  rcases this with rfl | rfl | rfl | rfl | rfl | rfl <;> rfl
theorem dp_pairs {K : PySem.W.Frag} {H : Hp} : ∀ (as : List Addr) (ds S : List Int), as.length = ds.length → (∀ (i : Nat) (y : Int) c, ds[i]? = some y → as[i]? = some c → H c = some (.tup [.int y, .int (((S.filter fun z => decide (z = y)).length : Nat) : Int)])) → DpAll K H (as.map V.ref) (ds.map fun y => PyData.tuple ([y, (((S.filter fun z => decide (z = y)).length : Nat) : Int)].map PyData.int))
  | [], [], _, _, _ => .nil
  | [], _ :: _, _, h, _ => by simp at h
  | _ :: _, [], _, h, _ => by simp at h
  | a :: as, d :: ds, S, h, f => .cons (dp_intsT (ns := [d, (((S.filter fun z => decide (z = d)).length : Nat) : Int)]) (.of (f 0 d a rfl rfl))) (dp_pairs as ds S (by simpa using h) fun i y c h1 h2 => f (i + 1) y c h1 h2)
theorem dp_rep {K : PySem.W.Frag} {H : Hp} {l : Addr} {as : List Addr} {ds S : List Int} (h : RepP H l as ds S) : Dp K H (.ref l) (.list (ds.map fun y => PyData.tuple ([y, (((S.filter fun z => decide (z = y)).length : Nat) : Int)].map PyData.int))) :=
  .lst (.of h.1) (dp_pairs as ds S h.2.1 h.2.2.2)
theorem laid_rep (ds S : List Int) : laid 63 (.list (ds.map fun y => PyData.tuple ([y, (((S.filter fun z => decide (z = y)).length : Nat) : Int)].map PyData.int))) := laid_list (n := 62) fun d hd => by
  obtain ⟨y, _, rfl⟩ := List.mem_map.mp hd
  exact laid_intsT (n := 61) _
theorem eqv_one_none (d : PyData) : PyData.eqv (.list [d]) (.list []) = false := by
  unfold PyData.eqv PyData.eqvAll; rfl
theorem laid_up {n m : Nat} {d : PyData} (h : laid n d) (e : n ≤ m) : laid m d := ⟨h.1, Nat.le_trans h.2 e⟩
theorem k_eqNone {K : PySem.W.Frag} {H : Hp} {Q : VK} {a b : Addr} {x : V} {d : PyData} (h : H a = some (.lst [x])) (hd : Dp K H x d) (hl : laid 63 d) (e : H b = some (.lst [])) (q : Q (.bl false) H) : rEqD K (.ref a) (.ref b) H Q :=
  k_eqD (d := .list [d]) (e := .list []) (.lst (.of h) (.cons hd .nil)) (.lst (.of e) .nil) (laid_list (n := 63) fun z hz => by rw [List.mem_singleton.mp hz]; exact hl) (laid_list (n := 63) fun z hz => by simp at hz) (by rw [eqv_one_none]; exact q)
/-- _law_one_good(row, cell) -/
def sp_law_one_good (K : PySem.W.Frag) (CL : CLs) : Sp := fun vs H Q _ => ∃ (r : Addr) (c : Int), vs = [.ref r, .int c] ∧ RowS K H r ∧ NdefX.TabN H (tabP K "_law_look") nmL ∧ NdefX.TabN H (tabP K "level_row") nmL ∧ ∀ H', Same H H' → Q (.bl true) H'
theorem len_law_one_good (K : PySem.W.Frag) (CL : CLs) : ∀ vs H Q E, sp_law_one_good K CL vs H Q E → vs.length = 2 := by
  rintro vs H Q E ⟨x, y, rfl, _⟩; rfl
def t_law_one_good (K : PySem.W.Frag) (CL : CLs) : TS :=
  (tSeq (tAsg (tOp (rIxT K) (tVar 0) (tC (.int 0))) (gName 2))
  (tSeq (tAsg (tOp rMod (tOp rTimes (tVar 1) (tC (.int 48271))) (tC (.int 2147483647))) (gName 3))
  (tSeq (tAsg (tOp rMod (tVar 3) (tC (.int 6))) (gName 4))
  (tSeq (tAsg (tCall (sp_law_parts K) [] E0 (tCons (tVar 4) (tCons (tVar 2) (tCons (tVar 1) tNil)))) (gName 5))
  (tSeq (tAsg (tCall (sp_law_due K) [] E0 (tCons (tVar 4) (tCons (tVar 2) (tCons (tVar 5) tNil)))) (gName 6))
  (tSeq (tAsg (tLst tNil) (gName 7))
  (tSeq (tAsg (tCall (sp_law_told K CL) [] E0 (tCons (tVar 4) (tCons (tOp (rIxT K) (tVar 0) (tC (.int 1))) (tCons (tCall (sp_law_look K CL) [] E0 (tCons (tOp (rIxT K) (tVar 0) (tC (.int 2))) (tCons (tVar 7) tNil))) (tCons (tVar 5) tNil))))) (gName 8))
  (tSeq (tIfS (tTest (tOp rNe (tCB (rLen K) (tCons (tVar 8) tNil)) (tCB (rLen K) (tCons (tVar 6) tNil))))
  (tRet (tC (.bl false)))
  tNext)
  (tSeq (tIfS (tTest (tOp (rEqD K) (tVar 6) (tLst tNil)))
  (tRet (tC (.bl true)))
  tNext)
  (tSeq (tAsg (tCB (rLen K) (tCons (tOp (rIxT K) (tOp (rIxT K) (tVar 0) (tC (.int 1))) (tC (.int 2))) tNil)) (gName 9))
  (tSeq (tAsg (tOp rTimes (tOp (rIxL K) (tLst (tCons (tC (.int 1)) (tCons (tC (.int 2)) (tCons (tC (.int 4)) (tCons (tC (.int 4)) (tCons (tC (.int 2)) (tCons (tC (.int 2)) tNil))))))) (tVar 4)) (tVar 9)) (gName 10))
  (Evl.tCut (tIfS (tTest (tOp rEq (tVar 4) (tC (.int 5))))
  (tAsg (tOp rTimes (tVar 10) (tCB (rLen K) (tCons (tOp (rIxL K) (tVar 6) (tC (.int 0))) tNil))) (gName 10))
  tNext)
  (tRet (tAndV (tCall (sp_law_alike K) [] E0 (tCons (tOp (rIxL K) (tVar 8) (tC (.int 0))) (tCons (tOp (rIxL K) (tVar 6) (tC (.int 0))) tNil))) (tCall (sp_law_few K) [] E0 (tCons (tVar 7) (tCons (tCB (rLen K) (tCons (tOp (rIxT K) (tVar 0) (tC (.int 2))) tNil)) (tCons (tVar 10) tNil))))))))))))))))))
abbrev n_law_one_good : List Str := ["_law_row", "_law_cell", "_law_signs_here", "_law_number", "_law_way", "_law_parts_here", "_law_due_here", "_law_seen", "_law_found", "_law_levels", "_law_most"]

theorem rd_law_one_good (K : PySem.W.Frag) (CL : CLs) (vs : List V) (H : Hp) (Q : VK) (E : XK) (h : sp_law_one_good K CL vs H Q E) : t_law_one_good K CL { nx := fun _ H' => Q .non H', rt := Q } (start n_law_one_good vs) H := by
  obtain ⟨r, c, rfl, ⟨a, t, pb, ks, sg, er, ea, T, hl⟩, hTl, hTr, q⟩ := h
  unfold t_law_one_good
  walk_at "st"
  refine k_ixT (.of er) (x := .ref a) rfl ?_
  walk_at "st"
  generalize c * 48271 % 2147483647 = num
  walk_at "st"
  obtain ⟨w, hw⟩ : ∃ w, num % 6 = w := ⟨_, rfl⟩
  have w0 : 0 ≤ w := by omega
  have w5 : w ≤ 5 := by omega
  rw [hw]
  clear hw
  refine ⟨w, c, a, sg, rfl, ea, fun pp ps H1 hpl hpp s1 e1 => ?_⟩
  walk_at "st"
  refine call_due w0 w5 (s1.get ea) (by omega) e1 hpl fun pd H2 hpd s2 D => ?_
  have t2 := s1.trans s2
  replace e1 := s2.get e1
  walk_at "st"
  intro pn hpn
  have s3 := same_new (o := .lst []) hpn
  have e3 := upd_same (H := H2) (a := pn) (o := .lst [])
  have t3 := t2.trans s3
  have npb : pn ≠ pb := (ne_of_none (t2.get T.blk) hpn).symm
  have hpnH := t2.gone _ hpn
  generalize upd H2 pn (.lst []) = H3 at s3 e3 t3 ⊢
  walk_at "st"
  refine k_ixT (.of (t3.get er)) (x := .ref t) rfl ?_
  walk_at "st"
  refine k_ixT (.of (t3.get er)) (x := .ref pb) rfl ?_
  walk_at "st"
  refine call_sg (L0 := []) (T.move t3) (t3.tabs _ hTl) e3 npb (by simp) fun g H5 Dx I s5 S5 i5 hI => ?_
  have t5 := t3.trans s5
  have hk8 : lvK ks ≤ 8 := hOf_le_of (Nat.le_trans (Nat.le_trans (nodup_len T.isk) hl) (by decide))
  walk_at "st"
  refine call_told w0 w5 S5 i5 (by omega) (t5.tabs _ hTr) ((s3.trans s5).get e1) hpl fun pt L2 H6 i6 X6 R => ?_
  have sF : Same H2 H6 := SameX.fresh (s3.trans s5) hpn X6
  have t6 := t2.trans sF
  replace D := D.move sF
  have hseen := (hI _ _ i6).1
  rw [List.nil_append] at hseen
  walk_at "st"
  rcases R with ⟨hR, et⟩ | ⟨hR, h5, y, et, hA, hF⟩ | ⟨hR, h5, l, as, ds, et, hRep, hF, hL2⟩
  · obtain ⟨_, ed⟩ : Refd sg w ps ∧ H6 pd = some (.lst []) := by
      rcases D with z | z | z
      · exact z
      · exact absurd hR z.1
      · exact absurd hR z.1
    refine k_lenL (.of et) ?_
    walk_at "st"
    refine k_lenL (.of ed) ?_
    walk_at "st"
    refine k_ndecT rfl ?_
    walk_at "st"
    intro p7 hp7
    walk_at "st"
    refine k_eqL (ns := []) (ms := []) (.of ((same_new hp7).get ed)) (.of upd_same) ?_
    rw [decide_eq_true rfl]
    walk_at "st"
    exact q _ (t6.trans (same_new hp7))
  · obtain ⟨y', ed, hz⟩ : ∃ y', H6 pd = some (.lst [.int y']) ∧ ∀ z, IsAns sg w ps z → y' = z := by
      rcases D with z | z | z
      · exact absurd z.1 hR
      · exact z.2.2
      · exact absurd z.2.1 h5
    obtain rfl := hz y hA
    refine k_lenL (.of et) ?_
    walk_at "st"
    refine k_lenL (.of ed) ?_
    walk_at "st"
    refine k_ndecT rfl ?_
    walk_at "st"
    intro p7 hp7
    have s7 := same_new (o := .lst []) hp7
    have e7 := upd_same (H := H6) (a := p7) (o := .lst [])
    generalize upd H6 p7 (.lst []) = H7 at s7 e7 ⊢
    walk_at "st"
    refine k_eqNone (s7.get ed) (.int y') (laid_int _) e7 ?_
    walk_at "st"
    have t7 := t6.trans s7
    obtain ⟨pk, pa, az, h1, h2, h3, h4, h6⟩ := (T.move t7).tab
    refine k_ixT (.of (t7.get er)) (x := .ref t) rfl ?_
    walk_at "st"
    refine k_ixT h1 (x := .ref pa) rfl ?_
    walk_at "st"
    refine k_lenT h3 ?_
    walk_at "st"
    rw [List.length_map, h4]
    intro p8 hp8
    have s8 := same_new (o := .lst [.int 1, .int 2, .int 4, .int 4, .int 2, .int 2]) hp8
    have e8 := upd_same (H := H7) (a := p8) (o := .lst [.int 1, .int 2, .int 4, .int 4, .int 2, .int 2])
    generalize upd H7 p8 (.lst [.int 1, .int 2, .int 4, .int 4, .int 2, .int 2]) = H8 at s8 e8 ⊢
    walk_at "st"
    refine k_ixL (.of e8) (most_at w0 w5) ?_
    walk_at "st"
    refine m_cut0 ?_
    walk_at "st"
    refine k_decF h5 ?_
    walk_at "st"
    have s68 := s7.trans s8
    refine k_ixL (.of (s68.get et)) (x := .int y') rfl ?_
    walk_at "st"
    refine k_ixL (.of (s68.get ed)) (x := .int y') rfl ?_
    walk_at "st"
    refine ⟨_, _, rfl, .inl ⟨y', rfl, rfl⟩, fun H9 s9 => ?_⟩
    have s69 := s68.trans s9
    walk_at "st"
    have t9 := t6.trans s69
    refine k_ixT (.of (t9.get er)) (x := .ref pb) rfl ?_
    walk_at "st"
    refine k_lenL (.of (t9.get T.blk)) ?_
    walk_at "st"
    rw [List.length_map, sgB_len]
    have hm4 : mostW w * lvK ks ≤ 4 * 8 := Nat.mul_le_mul (by unfold mostW; (repeat' split) <;> decide) hk8
    refine ⟨pn, _, _, L2.map Int.ofNat, rfl, .of (s69.get hseen), by rw [List.length_map]; have := hF.len; omega, fun x hx => ?_, ?_, ?_⟩
    · obtain ⟨j, hj, rfl⟩ := List.mem_map.mp hx
      have := hF.in_ j hj
      exact ⟨Int.natCast_nonneg _, Int.ofNat_lt.mpr this⟩
    · have := hF.unlike
      have e : ((mostW w * lvK ks : Nat) : Int) = (mostW w : Int) * (lvK ks : Int) := by push_cast; rfl
      rw [← e]; exact Int.ofNat_le.mpr this
    walk_at "st"
    exact q _ t9
  · obtain ⟨m, bs, ds2, ed, hRd⟩ : ∃ m bs ds2, H6 pd = some (.lst [.ref m]) ∧ RepP H6 m bs ds2 (segP sg ps) := by
      rcases D with z | z | z
      · exact absurd z.1 hR
      · exact absurd h5 z.2.1
      · exact z.2.2
    obtain rfl : ds2 = ds := isK_uniq hRd.2.2.1.srt hRep.2.2.1.srt fun k => (hRd.2.2.1.mem k).trans (hRep.2.2.1.mem k).symm
    refine k_lenL (.of et) ?_
    walk_at "st"
    refine k_lenL (.of ed) ?_
    walk_at "st"
    refine k_ndecT rfl ?_
    walk_at "st"
    intro p7 hp7
    have s7 := same_new (o := .lst []) hp7
    have e7 := upd_same (H := H6) (a := p7) (o := .lst [])
    generalize upd H6 p7 (.lst []) = H7 at s7 e7 ⊢
    walk_at "st"
    refine k_eqNone (s7.get ed) (dp_rep (hRd.same s7)) (laid_rep _ _) e7 ?_
    walk_at "st"
    have t7 := t6.trans s7
    obtain ⟨pk, pa, az, h1, h2, h3, h4, h6⟩ := (T.move t7).tab
    refine k_ixT (.of (t7.get er)) (x := .ref t) rfl ?_
    walk_at "st"
    refine k_ixT h1 (x := .ref pa) rfl ?_
    walk_at "st"
    refine k_lenT h3 ?_
    walk_at "st"
    rw [List.length_map, h4]
    intro p8 hp8
    have s8 := same_new (o := .lst [.int 1, .int 2, .int 4, .int 4, .int 2, .int 2]) hp8
    have e8 := upd_same (H := H7) (a := p8) (o := .lst [.int 1, .int 2, .int 4, .int 4, .int 2, .int 2])
    generalize upd H7 p8 (.lst [.int 1, .int 2, .int 4, .int 4, .int 2, .int 2]) = H8 at s8 e8 ⊢
    walk_at "st"
    refine k_ixL (.of e8) (most_at w0 w5) ?_
    walk_at "st"
    have s68 := s7.trans s8
    refine m_cut0 ?_
    walk_at "st"
    refine k_decT h5 ?_
    walk_at "st"
    refine k_ixL (.of (s68.get ed)) (x := .ref m) rfl ?_
    walk_at "st"
    refine k_lenL (.of (s68.get hRd.1)) ?_
    walk_at "st"
    rw [List.length_map, hRd.2.1]
    have hds : ds2.length ≤ 130 := Nat.le_trans (nodup_len hRep.2.2.1) (by unfold segP seg; rw [List.length_drop, List.length_take]; omega)
    refine k_I (Or.inr ⟨by omega, by omega⟩) ?_
    walk_at "st"
    refine k_ixL (.of (s68.get et)) (x := .ref l) rfl ?_
    walk_at "st"
    refine k_ixL (.of (s68.get ed)) (x := .ref m) rfl ?_
    walk_at "st"
    refine ⟨_, _, rfl, .inr ⟨l, m, as, bs, ds2, _, rfl, rfl, hRep.same s68, hRd.same s68⟩, fun H9 s9 => ?_⟩
    have s69 := s68.trans s9
    walk_at "st"
    have t9 := t6.trans s69
    refine k_ixT (.of (t9.get er)) (x := .ref pb) rfl ?_
    walk_at "st"
    refine k_lenL (.of (t9.get T.blk)) ?_
    walk_at "st"
    rw [List.length_map, sgB_len]
    have hpw : 2 ^ lvK ks ≤ 2 ^ 8 := Nat.pow_le_pow_right (by decide) hk8
    refine ⟨pn, _, _, L2.map Int.ofNat, rfl, .of (s69.get hseen), by rw [List.length_map]; omega, fun x hx => ?_, ?_, ?_⟩
    · obtain ⟨j, hj, rfl⟩ := List.mem_map.mp hx
      have := hF.in_ j hj
      exact ⟨Int.natCast_nonneg _, Int.ofNat_lt.mpr this⟩
    · have := hF.unlike
      have e2 : mostW w = 2 := by rw [h5]; rfl
      rw [e2]
      have e : ((2 * lvK ks * ds2.length : Nat) : Int) = ((2 : Nat) : Int) * (lvK ks : Int) * (ds2.length : Int) := by push_cast; rfl
      rw [← e]; exact Int.ofNat_le.mpr this
    walk_at "st"
    exact q _ t9

def sp_law (K : PySem.W.Frag) : Sp := fun vs H Q _ => ∃ (a : Addr) (ns : List Int), vs = [.ref a] ∧ SqL K H a (ns.map V.int) ∧ ns.length ≤ 63 ∧ (∀ x ∈ tabL, NdefX.TabN H (tabP K x) nmL) ∧ ∀ H', Q (.bl true) H'
theorem len_law (K : PySem.W.Frag) : ∀ vs H Q E, sp_law K vs H Q E → vs.length = 1 := by
  rintro vs H Q E ⟨a, ns, rfl, _⟩; rfl

theorem ints_of {ns : List Int} {zs : List V} (h : ∀ z ∈ zs, z ∈ ns.map V.int) : ∃ ms : List Int, zs = ms.map V.int := by
  induction zs with
  | nil => exact ⟨[], rfl⟩
  | cons z zs ih =>
    obtain ⟨ms, e⟩ := ih fun y hy => h y (List.mem_cons_of_mem _ hy)
    obtain ⟨n, _, e2⟩ := List.mem_map.mp (h z List.mem_cons_self)
    exact ⟨n :: ms, by rw [e, ← e2]; rfl⟩
theorem sameX_put {H : Hp} {p : Addr} {xs zs : List V} (e : H p = some (.lst xs)) : SameX (some p) H (upd H p (.lst zs)) :=
  SameX.of (fun b z => by cases z; exact ⟨_, e⟩) (fun b z => by cases z; exact ⟨_, upd_same⟩) fun b o n eb => by rw [upd_ne fun z => n (by rw [z])]; exact eb
/-- the same, none of it at p -/
def RowSN (K : PySem.W.Frag) (H : Hp) (r p : Addr) : Prop := ∃ (a t pb : Addr) (ks sg : List Int), H r = some (.tup [.ref a, .ref t, .ref pb]) ∧ H a = some (.lst (sg.map V.int)) ∧ SgTab K H t pb ks sg ∧ sg.length ≤ 130 ∧ (some p : Option Addr) ≠ some a ∧ (some p : Option Addr) ≠ some pb
theorem RowSN.move {K : PySem.W.Frag} {H H' : Hp} {r p : Addr} (h : RowSN K H r p) (s : Same H H') : RowSN K H' r p := by
  obtain ⟨a, t, pb, ks, sg, e1, e2, T, h⟩ := h
  exact ⟨a, t, pb, ks, sg, s.get e1, s.get e2, T.move s, h⟩
theorem RowSN.moveX {K : PySem.W.Frag} {H H' : Hp} {r p : Addr} (h : RowSN K H r p) (s : SameX (some p) H H') : RowSN K H' r p := by
  obtain ⟨a, t, pb, ks, sg, e1, e2, ⟨⟨pk, pa, as, h1, h2, h3, h4, h5⟩, hb, hK, hl⟩, h, na, nb⟩ := h
  exact ⟨a, t, pb, ks, sg, s.tup e1, s.get na e2, ⟨⟨pk, pa, as, s.seqT h1, s.seqT h2, s.seqT h3, h4, fun l x e => s.seqT (h5 l x e)⟩, s.get nb hb, hK, hl⟩, h, na, nb⟩
theorem RowSN.toR {K : PySem.W.Frag} {H : Hp} {r p : Addr} (h : RowSN K H r p) : RowS K H r := by
  obtain ⟨a, t, pb, ks, sg, e1, e2, T, h, _⟩ := h
  exact ⟨a, t, pb, ks, sg, e1, e2, T, h⟩
def t_law (K : PySem.W.Frag) (CL : CLs) : TS :=
  (tSeq (tAsg (tSl (rSlL K) (tVar 0) tNoPart (tPart (tC (.int 63)))) (gName 1))
  (tSeq (tAsg (tLst tNil) (gName 2))
  (tSeq (tFor (iList K (tLst (tCons (tCall (sp_law_signs K) [] E0 (tCons (tSlStep K (tVar 1)) tNil)) (tCons (tCall (sp_law_signs K) [] E0 (tCons (tSlStep K (tVar 1)) tNil)) tNil)))) (gName 3)
  (tSeq (tAsg (tCB (rListOf K) (tCons (tVar 3) tNil)) (gName 4))
  (tSeq (tAsg (tCall (sp_kept_signs K) [] E0 (tCons (tVar 4) tNil)) (gName 5))
  (tSeq (tIfS (tTest (tOp (rNeD K) (tVar 4) (tVar 3)))
  (tRet (tC (.bl false)))
  tNext)
  (tDrop (tBM K "list" rAppend (tVar 2) (tCons (tTup (tCons (tVar 3) (tCons (tOp (rIxT K) (tVar 5) (tC (.int 0))) (tCons (tOp (rIxT K) (tVar 5) (tC (.int 1))) tNil)))) tNil)))))))
  (tSeq (tFor (iList K (tOp rCat (tVar 1) (tRevL K (tSl (rSlL K) (tVar 1) tNoPart (tPart (tC (.int 10))))))) (gName 6)
  (tIfS (tNot (tB (tCall (sp_law_one_good K CL) [] E0 (tCons (tOp (rIxL K) (tVar 2) (tOp rMod (tOp rMod (tOp rTimes (tVar 6) (tC (.int 69621))) (tC (.int 2147483629))) (tC (.int 2)))) (tCons (tVar 6) tNil)))))
  (tRet (tC (.bl false)))
  tNext))
  (tRet (tC (.bl true)))))))
abbrev n_law : List Str := ["_law_script", "_law_cells", "_law_rows", "_law_signs_here", "_law_handed", "_law_found", "_law_cell"]

theorem rd_law (K : PySem.W.Frag) (CL : CLs) (vs : List V) (H : Hp) (Q : VK) (E : XK) (h : sp_law K vs H Q E) : t_law K CL { nx := fun _ H' => Q .non H', rt := Q } (start n_law vs) H := by
  obtain ⟨a, ns, rfl, hS, hl, hT, q⟩ := h
  have hTl := hT "_law_look" (by decide)
  have hTr := hT "level_row" (by decide)
  clear hT
  unfold t_law
  walk_at "st"
  refine k_slTake (k := 63) hS fun p1 H1 hp1 s1 e1 => ?_
  walk_at "st"
  intro p2 hp2
  have s2 := same_new (o := .lst []) hp2
  have e2 := upd_same (H := H1) (a := p2) (o := .lst [])
  have m12 : p2 ≠ p1 := (ne_of_none e1 hp2).symm
  generalize upd H1 p2 (.lst []) = H2 at s2 e2 ⊢
  walk_at "st"
  refine m_slStep ?_
  walk_at "st"
  refine m_slStepE (.of (s2.get e1)) fun p3 zs hp3 hz hzl => ?_
  obtain ⟨ms, rfl⟩ := ints_of hz
  have s3 := same_new (o := .lst (ms.map V.int)) hp3
  have e3 := upd_same (H := H2) (a := p3) (o := .lst (ms.map V.int))
  generalize upd H2 p3 (.lst (ms.map V.int)) = H3 at s3 e3 ⊢
  refine ⟨p3, ms, rfl, e3, fun sg1 a1 H4 hg1 hn1 ha1 s4 e4 => ?_⟩
  walk_at "st"
  refine m_slStep ?_
  walk_at "st"
  refine m_slStepE (.of (s4.get (s3.get (s2.get e1)))) fun p5 zs2 hp5 hz2 hzl2 => ?_
  obtain ⟨ms2, rfl⟩ := ints_of hz2
  have s5 := same_new (o := .lst (ms2.map V.int)) hp5
  have e5 := upd_same (H := H4) (a := p5) (o := .lst (ms2.map V.int))
  generalize upd H4 p5 (.lst (ms2.map V.int)) = H5 at s5 e5 ⊢
  refine ⟨p5, ms2, rfl, e5, fun sg2 a2 H6 hg2 hn2 ha2 s6 e6 => ?_⟩
  walk_at "st"
  intro p7 hp7
  have s7 := same_new (o := .lst [.ref a1, .ref a2]) hp7
  have e7 := upd_same (H := H6) (a := p7) (o := .lst [.ref a1, .ref a2])
  generalize upd H6 p7 (.lst [.ref a1, .ref a2]) = H7 at s7 e7 ⊢
  have s26 := ((s3.trans s4).trans s5).trans s6
  have s27 := s26.trans s7
  have x1 := s7.get (s6.get (s5.get e4))
  have x2 := s7.get e6
  have y1 := s27.get (s2.get e1)
  have y2 := s27.get e2
  have t7 := s2.trans s27
  have n21 : (some p2 : Option Addr) ≠ some a1 := fun z => ne_of_none (s3.get e2) ha1 (Option.some.inj z)
  have n22 : (some p2 : Option Addr) ≠ some a2 := fun z => ne_of_none (s5.get (s4.get (s3.get e2))) ha2 (Option.some.inj z)
  have n27 : (some p2 : Option Addr) ≠ some p7 := fun z => ne_of_none (s26.get e2) hp7 (Option.some.inj z)
  have n2p : (some p2 : Option Addr) ≠ some p1 := fun z => m12 (Option.some.inj z)
  clear s26 s27 s3 s4 s5 s6 s7 ha1 ha2 hp7 hp3 hp5 e3 e4 e5 e6 hz hz2
  have hsg : ∀ x ∈ [(a1, sg1), (a2, sg2)], x.2.length ≤ 130 ∧ (∀ y ∈ x.2, NearS y) ∧ H7 x.1 = some (.lst (x.2.map V.int)) ∧ (some p2 : Option Addr) ≠ some x.1 := by
    intro x hx
    simp only [List.mem_cons, List.not_mem_nil, or_false] at hx
    rcases hx with rfl | rfl
    · exact ⟨hg1, hn1, x1, n21⟩
    · exact ⟨hg2, hn2, x2, n22⟩
  refine m_iLe (.of e7) ?_
  refine loop_list (xs := [V.ref a1, V.ref a2]) (fun i σ' H' => ∃ (v3 v4 v5 : Option V) (rows : List V), SameX (some p2) H7 H' ∧ H' p2 = some (.lst rows) ∧ rows.length = i ∧ (∀ x ∈ rows, ∃ r, x = .ref r ∧ RowSN K H' r p2) ∧ σ' = [some (.ref a), some (.ref p1), some (.ref p2), v3, v4, v5, none]) ⟨none, none, none, [], (Same.refl _).toX (fun p z => by cases z; exact ⟨_, y2⟩), y2, rfl, fun x hx => by simp at hx, rfl⟩ (fun i σ' H' _ ⟨_, _, _, _, s, _⟩ => .of (s.get n27 e7)) (fun i w σ' H' hw ⟨v3, v4, v5, rows, s, er, hrl, hrows, es⟩ => ?_) (fun σ' H' ⟨v3, v4, v5, rows, s, er, hrl, hrows, es⟩ => ?_)
  · subst es
    obtain ⟨x, hx, rfl⟩ : ∃ x, x ∈ [(a1, sg1), (a2, sg2)] ∧ w = .ref x.1 := by
      have hm := List.mem_of_getElem? hw
      simp only [List.mem_cons, List.not_mem_nil, or_false] at hm
      rcases hm with rfl | rfl
      · exact ⟨(a1, sg1), by simp, rfl⟩
      · exact ⟨(a2, sg2), by simp, rfl⟩
    have hi2 : i < 2 := (List.getElem?_eq_some_iff.mp hw).1
    obtain ⟨h130, hnear, ex7, nx2⟩ := hsg x hx
    obtain ⟨ax, sg⟩ := x
    dsimp only at h130 hnear ex7 nx2 ⊢
    have ex := s.get nx2 ex7
    walk_at "st"
    refine k_listL (.of ex) fun p8 hp8 => ?_
    have s8 := same_new (o := .lst (sg.map V.int)) hp8
    have e8 := upd_same (H := H') (a := p8) (o := .lst (sg.map V.int))
    have t8 := s.andS s8
    replace er := s8.get er
    replace ex := s8.get ex
    have hrows8 : ∀ x ∈ rows, ∃ r, x = .ref r ∧ RowSN K (upd H' p8 (.lst (sg.map V.int))) r p2 := fun x hx => let ⟨r, e, h⟩ := hrows x hx; ⟨r, e, h.move s8⟩
    generalize upd H' p8 (.lst (sg.map V.int)) = H8 at s8 e8 t8 er ex hrows8 ⊢
    walk_at "st"
    refine ⟨p8, sg, sg, rfl, e8, by omega, fun z => by omega, fun _ ⟨y, hy, hf⟩ => absurd (hnear y hy) fun z => by unfold FarS at hf; have := z.1; have := z.2; omega, fun _ _ => ⟨by omega, fun y hy => hy, fun ks p9 t pk pa pb as H9 hK hp9 hpb s9 e9 et ek ea hal has eb => ?_⟩⟩
    have T9 : SgTab K H9 t pb ks sg := ⟨⟨pk, pa, as, .of et, .of ek, .of ea, hal, fun l x e => .of (has l x e)⟩, eb, hK, by omega⟩
    have npb : (some p2 : Option Addr) ≠ some pb := fun z => ne_of_none er hpb (Option.some.inj z)
    have t9 := t8.andS s9
    replace er := s9.get er
    replace ex := s9.get ex
    have hrows9 : ∀ x ∈ rows, ∃ r, x = .ref r ∧ RowSN K H9 r p2 := fun x hx => let ⟨r, e, h⟩ := hrows8 x hx; ⟨r, e, h.move s9⟩
    walk_at "st"
    refine k_neL (.of (s9.get e8)) (.of ex) ?_
    rw [decide_eq_true rfl]
    walk_at "st"
    refine k_tyL (.of er) ?_
    walk_at "st"
    refine k_ixT (.of e9) (x := .ref t) rfl ?_
    walk_at "st"
    refine k_ixT (.of e9) (x := .ref pb) rfl ?_
    walk_at "st"
    intro p10 hp10
    have s10 := same_new (o := .tup [.ref ax, .ref t, .ref pb]) hp10
    have e10 := upd_same (H := H9) (a := p10) (o := .tup [.ref ax, .ref t, .ref pb])
    have t10 := t9.andS s10
    replace er := s10.get er
    replace ex := s10.get ex
    replace T9 := T9.move s10
    have hrows10 : ∀ x ∈ rows, ∃ r, x = .ref r ∧ RowSN K (upd H9 p10 (.tup [.ref ax, .ref t, .ref pb])) r p2 := fun x hx => let ⟨r, e, h⟩ := hrows9 x hx; ⟨r, e, h.move s10⟩
    generalize upd H9 p10 (.tup [.ref ax, .ref t, .ref pb]) = H10 at s10 e10 t10 er ex T9 hrows10 ⊢
    walk_at "st"
    refine k_app er (by omega) ?_
    have sX := sameX_put (zs := rows ++ [.ref p10]) er
    refine ⟨_, _, _, rows ++ [.ref p10], t10.trans sX, upd_same, by rw [List.length_append, hrl]; rfl, fun z hz => ?_, rfl⟩
    rcases List.mem_append.mp hz with y | y
    · obtain ⟨r, e, h⟩ := hrows10 z y
      exact ⟨r, e, h.moveX sX⟩
    · exact ⟨p10, List.mem_singleton.mp y, RowSN.moveX ⟨ax, t, pb, ks, sg, e10, ex, T9, by omega, nx2, npb⟩ sX⟩
  subst es
  have hrl2 : rows.length = 2 := hrl
  replace y1 := s.get n2p y1
  have sFin : Same H2 H2 := Same.refl _
  have hTl' := s.tabs _ (t7.tabs _ (s1.tabs _ hTl))
  have hTr' := s.tabs _ (t7.tabs _ (s1.tabs _ hTr))
  walk_at "st"
  refine k_slTake (k := 10) (.of y1) fun p8 H8 hp8 s8 e8 => ?_
  refine m_revLE (.of e8) fun p9 hp9 => ?_
  rw [← List.map_reverse]
  have s9 := s8.trans (same_new (o := .lst (((ns.take 63).take 10).reverse.map V.int)) hp9)
  have e9 := upd_same (H := H8) (a := p9) (o := .lst (((ns.take 63).take 10).reverse.map V.int))
  generalize upd H8 p9 (.lst (((ns.take 63).take 10).reverse.map V.int)) = H9 at s9 e9 ⊢
  refine k_cat (s9.get y1) e9 (by simp only [List.length_map, List.length_reverse, List.length_take]; omega) fun p10 hp10 => ?_
  rw [← List.map_append]
  have s10 := s9.trans (same_new (o := .lst ((ns.take 63 ++ ((ns.take 63).take 10).reverse).map V.int)) hp10)
  have e10 := upd_same (H := H9) (a := p10) (o := .lst ((ns.take 63 ++ ((ns.take 63).take 10).reverse).map V.int))
  generalize upd H9 p10 (.lst ((ns.take 63 ++ ((ns.take 63).take 10).reverse).map V.int)) = H10 at s10 e10 ⊢
  generalize ns.take 63 ++ ((ns.take 63).take 10).reverse = cs at e10
  refine m_iLe (.of e10) ?_
  refine loop_ints (ns := cs) (fun i σ' H3 => ∃ (v6 : Option V), Same H10 H3 ∧ σ' = [some (.ref a), some (.ref p1), some (.ref p2), v3, v4, v5, v6]) ⟨none, Same.refl _, rfl⟩ (fun i σ' H3 ⟨_, s, _⟩ => .of (s.get e10)) (fun i c σ' H3 hn ⟨v6, s11, es⟩ => ?_) (fun σ' H3 ⟨v6, s11, es⟩ => ?_)
  · subst es
    have t11 := s10.trans s11
    walk_at "st"
    generalize c * 69621 % 2147483629 = m
    have b1 := Int.emod_nonneg m (show (2 : Int) ≠ 0 by decide)
    have b2 := Int.emod_lt_of_pos m (show (0 : Int) < 2 by decide)
    obtain ⟨k, hk⟩ := Int.eq_ofNat_of_zero_le b1
    rw [hk] at b2 ⊢
    have hk2 : k < rows.length := by omega
    obtain ⟨r, hr, hR⟩ := hrows _ (List.getElem_mem hk2)
    refine k_ixL (.of (t11.get er)) (x := .ref r) (at_nat (by rw [List.getElem?_eq_getElem hk2, hr])) ?_
    walk_at "st"
    refine ⟨r, c, rfl, (hR.toR).move t11, t11.tabs _ hTl', t11.tabs _ hTr', fun H12 s12 => ?_⟩
    walk_at "st"
    exact ⟨_, s11.trans s12, rfl⟩
  subst es
  walk_at "st"
  exact q _

end Tw
namespace Tw
open PySem PySem.Spec PyProof.Rows L2
/-! the text -/
def topS (i : Nat) : Stmt := PySem.Challenge.pw_thinwood_k69_whole_signs.main.body.getD i (.Pass ⟨0, 0, 0, 0⟩)
abbrev s_packed : Stmt := topS 9
theorem sc_packed : FnScope n_packed ["bits"] (defScope s_packed) := ⟨rfl, rfl, rfl, by decide +kernel, rfl, by decide +kernel, by decide +kernel⟩

abbrev s_ones_in : Stmt := topS 10
theorem sc_ones_in : FnScope n_ones_in ["block", "upto"] (defScope s_ones_in) := ⟨rfl, rfl, rfl, by decide +kernel, rfl, by decide +kernel, by decide +kernel⟩

abbrev s_one_in : Stmt := topS 11
theorem sc_one_in : FnScope n_one_in ["block", "nth"] (defScope s_one_in) := ⟨rfl, rfl, rfl, by decide +kernel, rfl, by decide +kernel, by decide +kernel⟩

abbrev s_ones_table : Stmt := topS 14
theorem sc_ones_table : FnScope n_ones_table ["blocks"] (defScope s_ones_table) := ⟨rfl, rfl, rfl, by decide +kernel, rfl, by decide +kernel, by decide +kernel⟩

abbrev s_kept_row : Stmt := topS 15
theorem sc_kept_row : FnScope n_kept_row ["bits"] (defScope s_kept_row) := ⟨rfl, rfl, rfl, by decide +kernel, rfl, by decide +kernel, by decide +kernel⟩

abbrev s_bit_at : Stmt := topS 16
theorem sc_bit_at : FnScope n_bit_at ["tables", "look", "at"] (defScope s_bit_at) := ⟨rfl, rfl, rfl, by decide +kernel, rfl, by decide +kernel, by decide +kernel⟩

abbrev s_ones_at : Stmt := topS 17
theorem sc_ones_at : FnScope n_ones_at ["tables", "look", "at"] (defScope s_ones_at) := ⟨rfl, rfl, rfl, by decide +kernel, rfl, by decide +kernel, by decide +kernel⟩

abbrev s_noughts_at : Stmt := topS 18
theorem sc_noughts_at : FnScope n_noughts_at ["tables", "look", "at"] (defScope s_noughts_at) := ⟨rfl, rfl, rfl, by decide +kernel, rfl, by decide +kernel, by decide +kernel⟩

abbrev s_bits_ahead : Stmt := topS 19
theorem sc_bits_ahead : FnScope n_bits_ahead ["ahead", "number", "kind"] (defScope s_bits_ahead) := ⟨rfl, rfl, rfl, by decide +kernel, rfl, by decide +kernel, by decide +kernel⟩

abbrev s_block_by : Stmt := topS 20
theorem sc_block_by : FnScope n_block_by ["ahead", "nth", "kind"] (defScope s_block_by) := ⟨rfl, rfl, rfl, by decide +kernel, rfl, by decide +kernel, by decide +kernel⟩

abbrev s_one_place : Stmt := topS 21
theorem sc_one_place : FnScope n_one_place ["tables", "look", "nth"] (defScope s_one_place) := ⟨rfl, rfl, rfl, by decide +kernel, rfl, by decide +kernel, by decide +kernel⟩

abbrev s_nought_place : Stmt := topS 22
theorem sc_nought_place : FnScope n_nought_place ["tables", "look", "nth"] (defScope s_nought_place) := ⟨rfl, rfl, rfl, by decide +kernel, rfl, by decide +kernel, by decide +kernel⟩

abbrev s_levels_for : Stmt := topS 25
theorem sc_levels_for : FnScope n_levels_for ["kinds"] (defScope s_levels_for) := ⟨rfl, rfl, rfl, by decide +kernel, rfl, by decide +kernel, by decide +kernel⟩

abbrev s_kept_signs : Stmt := topS 26
theorem sc_kept_signs : FnScope n_kept_signs ["signs"] (defScope s_kept_signs) := ⟨rfl, rfl, rfl, by decide +kernel, rfl, by decide +kernel, by decide +kernel⟩

abbrev s_rank_of : Stmt := topS 27
theorem sc_rank_of : FnScope n_rank_of ["kinds", "sign"] (defScope s_rank_of) := ⟨rfl, rfl, rfl, by decide +kernel, rfl, by decide +kernel, by decide +kernel⟩

abbrev s_level_row : Stmt := topS 28
theorem sc_level_row : FnScope n_level_row ["tables", "look", "level"] (defScope s_level_row) := ⟨rfl, rfl, rfl, by decide +kernel, rfl, by decide +kernel, by decide +kernel⟩
abbrev st_level_row_lam : Expr := lamIn (defBody s_level_row)
theorem sc_level_row_lam : NdefX.NScope n_level_row_lam ["number"] ["look", "start"] (lamNF st_level_row_lam "" [] 0).scope := NdefX.nscope_by (by decide +kernel)

abbrev s_bit_of : Stmt := topS 29
theorem sc_bit_of : FnScope n_bit_of ["tables", "rank", "level"] (defScope s_bit_of) := ⟨rfl, rfl, rfl, by decide +kernel, rfl, by decide +kernel, by decide +kernel⟩

abbrev s_halves : Stmt := topS 30
theorem sc_halves : FnScope n_halves ["tables", "look", "level", "start", "stop"] (defScope s_halves) := ⟨rfl, rfl, rfl, by decide +kernel, rfl, by decide +kernel, by decide +kernel⟩

abbrev s_behind_levels : Stmt := topS 31
theorem sc_behind_levels : FnScope n_behind_levels ["tables", "look", "rank", "start", "stop"] (defScope s_behind_levels) := ⟨rfl, rfl, rfl, by decide +kernel, rfl, by decide +kernel, by decide +kernel⟩

abbrev s_sign_at : Stmt := topS 32
theorem sc_sign_at : FnScope n_sign_at ["tables", "look", "at"] (defScope s_sign_at) := ⟨rfl, rfl, rfl, by decide +kernel, rfl, by decide +kernel, by decide +kernel⟩

abbrev s_signs_ahead : Stmt := topS 33
theorem sc_signs_ahead : FnScope n_signs_ahead ["tables", "look", "sign", "at"] (defScope s_signs_ahead) := ⟨rfl, rfl, rfl, by decide +kernel, rfl, by decide +kernel, by decide +kernel⟩

abbrev s_sign_place : Stmt := topS 34
theorem sc_sign_place : FnScope n_sign_place ["tables", "look", "sign", "nth"] (defScope s_sign_place) := ⟨rfl, rfl, rfl, by decide +kernel, rfl, by decide +kernel, by decide +kernel⟩

abbrev s_stretch_there : Stmt := topS 35
theorem sc_stretch_there : FnScope n_stretch_there ["tables", "start", "stop"] (defScope s_stretch_there) := ⟨rfl, rfl, rfl, by decide +kernel, rfl, by decide +kernel, by decide +kernel⟩

abbrev s_below : Stmt := topS 36
theorem sc_below : FnScope n_below ["tables", "look", "start", "stop", "rank"] (defScope s_below) := ⟨rfl, rfl, rfl, by decide +kernel, rfl, by decide +kernel, by decide +kernel⟩

abbrev s_between : Stmt := topS 37
theorem sc_between : FnScope n_between ["tables", "look", "start", "stop", "low", "high"] (defScope s_between) := ⟨rfl, rfl, rfl, by decide +kernel, rfl, by decide +kernel, by decide +kernel⟩

abbrev s_so_manieth : Stmt := topS 38
theorem sc_so_manieth : FnScope n_so_manieth ["tables", "look", "start", "stop", "nth"] (defScope s_so_manieth) := ⟨rfl, rfl, rfl, by decide +kernel, rfl, by decide +kernel, by decide +kernel⟩

abbrev s_unlike : Stmt := topS 39
theorem sc_unlike : FnScope n_unlike ["tables", "look", "start", "stop"] (defScope s_unlike) := ⟨rfl, rfl, rfl, by decide +kernel, rfl, by decide +kernel, by decide +kernel⟩

abbrev s_law_whole : Stmt := topS 41
theorem sc_law_whole : FnScope n_law_whole ["_law_found"] (defScope s_law_whole) := ⟨rfl, rfl, rfl, by decide +kernel, rfl, by decide +kernel, by decide +kernel⟩

abbrev s_law_piece : Stmt := topS 42
theorem sc_law_piece : FnScope n_law_piece ["_law_cell", "_law_ahead"] (defScope s_law_piece) := ⟨rfl, rfl, rfl, by decide +kernel, rfl, by decide +kernel, by decide +kernel⟩

abbrev s_law_signs : Stmt := topS 43
theorem sc_law_signs : FnScope n_law_signs ["_law_cells"] (defScope s_law_signs) := ⟨rfl, rfl, rfl, by decide +kernel, rfl, by decide +kernel, by decide +kernel⟩

abbrev s_law_look : Stmt := topS 44
theorem sc_law_look : FnScope n_law_look ["_law_blocks", "_law_seen"] (defScope s_law_look) := ⟨rfl, rfl, rfl, by decide +kernel, rfl, by decide +kernel, by decide +kernel⟩
abbrev st_law_look_law_told : Stmt := (defBody s_law_look).getD 0 (.Pass ⟨0, 0, 0, 0⟩)
theorem sc_law_look_law_told : NdefX.NScope n_law_look_law_told ["_law_number"] ["_law_seen", "_law_blocks"] (C8.fnScope st_law_look_law_told) := NdefX.nscope_by (by decide +kernel)

abbrev s_law_few : Stmt := topS 45
theorem sc_law_few : FnScope n_law_few ["_law_seen", "_law_size", "_law_most"] (defScope s_law_few) := ⟨rfl, rfl, rfl, by decide +kernel, rfl, by decide +kernel, by decide +kernel⟩

abbrev s_law_sought : Stmt := topS 46
theorem sc_law_sought : FnScope n_law_sought ["_law_cell", "_law_signs_here"] (defScope s_law_sought) := ⟨rfl, rfl, rfl, by decide +kernel, rfl, by decide +kernel, by decide +kernel⟩

abbrev s_law_parts : Stmt := topS 47
theorem sc_law_parts : FnScope n_law_parts ["_law_way", "_law_signs_here", "_law_cell"] (defScope s_law_parts) := ⟨rfl, rfl, rfl, by decide +kernel, rfl, by decide +kernel, by decide +kernel⟩

abbrev s_law_due : Stmt := topS 48
theorem sc_law_due : FnScope n_law_due ["_law_way", "_law_signs_here", "_law_parts_here"] (defScope s_law_due) := ⟨rfl, rfl, rfl, by decide +kernel, rfl, by decide +kernel, by decide +kernel⟩

abbrev s_law_answer : Stmt := topS 49
theorem sc_law_answer : FnScope n_law_answer ["_law_way", "_law_tables", "_law_look_here", "_law_parts_here"] (defScope s_law_answer) := ⟨rfl, rfl, rfl, by decide +kernel, rfl, by decide +kernel, by decide +kernel⟩

abbrev s_law_told : Stmt := topS 50
theorem sc_law_told : FnScope n_law_told ["_law_way", "_law_tables", "_law_look_here", "_law_parts_here"] (defScope s_law_told) := ⟨rfl, rfl, rfl, by decide +kernel, rfl, by decide +kernel, by decide +kernel⟩

abbrev s_law_alike : Stmt := topS 51
theorem sc_law_alike : FnScope n_law_alike ["_law_found", "_law_due_here"] (defScope s_law_alike) := ⟨rfl, rfl, rfl, by decide +kernel, rfl, by decide +kernel, by decide +kernel⟩

abbrev s_law_one_good : Stmt := topS 52
theorem sc_law_one_good : FnScope n_law_one_good ["_law_row", "_law_cell"] (defScope s_law_one_good) := ⟨rfl, rfl, rfl, by decide +kernel, rfl, by decide +kernel, by decide +kernel⟩

abbrev s_law : Stmt := topS 53
theorem sc_law : FnScope n_law ["_law_script"] (defScope s_law) := ⟨rfl, rfl, rfl, by decide +kernel, rfl, by decide +kernel, by decide +kernel⟩

structure Tx (P : Program) (w : World) (K : PySem.W.Frag) (mg : Str → Option Value) (base : Heap) : Prop where
  d_packed : ∃ fd, FunD K "packed" "packed" (defArgs s_packed) (defBody s_packed) (defScope s_packed) [] [] (He.ga K "packed") fd
  g_packed : mg "packed" = some (.ref (He.ga K "packed"))
  d_ones_in : ∃ fd, FunD K "ones_in" "ones_in" (defArgs s_ones_in) (defBody s_ones_in) (defScope s_ones_in) [] [] (He.ga K "ones_in") fd
  g_ones_in : mg "ones_in" = some (.ref (He.ga K "ones_in"))
  d_one_in : ∃ fd, FunD K "one_in" "one_in" (defArgs s_one_in) (defBody s_one_in) (defScope s_one_in) [] [] (He.ga K "one_in") fd
  g_one_in : mg "one_in" = some (.ref (He.ga K "one_in"))
  d_ones_table : ∃ fd, FunD K "ones_table" "ones_table" (defArgs s_ones_table) (defBody s_ones_table) (defScope s_ones_table) [] [] (He.ga K "ones_table") fd
  g_ones_table : mg "ones_table" = some (.ref (He.ga K "ones_table"))
  d_kept_row : ∃ fd, FunD K "kept_row" "kept_row" (defArgs s_kept_row) (defBody s_kept_row) (defScope s_kept_row) [] [] (He.ga K "kept_row") fd
  g_kept_row : mg "kept_row" = some (.ref (He.ga K "kept_row"))
  d_bit_at : ∃ fd, FunD K "bit_at" "bit_at" (defArgs s_bit_at) (defBody s_bit_at) (defScope s_bit_at) [] [] (He.ga K "bit_at") fd
  g_bit_at : mg "bit_at" = some (.ref (He.ga K "bit_at"))
  d_ones_at : ∃ fd, FunD K "ones_at" "ones_at" (defArgs s_ones_at) (defBody s_ones_at) (defScope s_ones_at) [] [] (He.ga K "ones_at") fd
  g_ones_at : mg "ones_at" = some (.ref (He.ga K "ones_at"))
  d_noughts_at : ∃ fd, FunD K "noughts_at" "noughts_at" (defArgs s_noughts_at) (defBody s_noughts_at) (defScope s_noughts_at) [] [] (He.ga K "noughts_at") fd
  g_noughts_at : mg "noughts_at" = some (.ref (He.ga K "noughts_at"))
  d_bits_ahead : ∃ fd, FunD K "bits_ahead" "bits_ahead" (defArgs s_bits_ahead) (defBody s_bits_ahead) (defScope s_bits_ahead) [] [] (He.ga K "bits_ahead") fd
  g_bits_ahead : mg "bits_ahead" = some (.ref (He.ga K "bits_ahead"))
  d_block_by : ∃ fd, FunD K "block_by" "block_by" (defArgs s_block_by) (defBody s_block_by) (defScope s_block_by) [] [] (He.ga K "block_by") fd
  g_block_by : mg "block_by" = some (.ref (He.ga K "block_by"))
  d_one_place : ∃ fd, FunD K "one_place" "one_place" (defArgs s_one_place) (defBody s_one_place) (defScope s_one_place) [] [] (He.ga K "one_place") fd
  g_one_place : mg "one_place" = some (.ref (He.ga K "one_place"))
  d_nought_place : ∃ fd, FunD K "nought_place" "nought_place" (defArgs s_nought_place) (defBody s_nought_place) (defScope s_nought_place) [] [] (He.ga K "nought_place") fd
  g_nought_place : mg "nought_place" = some (.ref (He.ga K "nought_place"))
  d_levels_for : ∃ fd, FunD K "levels_for" "levels_for" (defArgs s_levels_for) (defBody s_levels_for) (defScope s_levels_for) [] [] (He.ga K "levels_for") fd
  g_levels_for : mg "levels_for" = some (.ref (He.ga K "levels_for"))
  d_kept_signs : ∃ fd, FunD K "kept_signs" "kept_signs" (defArgs s_kept_signs) (defBody s_kept_signs) (defScope s_kept_signs) [] [] (He.ga K "kept_signs") fd
  g_kept_signs : mg "kept_signs" = some (.ref (He.ga K "kept_signs"))
  d_rank_of : ∃ fd, FunD K "rank_of" "rank_of" (defArgs s_rank_of) (defBody s_rank_of) (defScope s_rank_of) [] [] (He.ga K "rank_of") fd
  g_rank_of : mg "rank_of" = some (.ref (He.ga K "rank_of"))
  d_level_row : ∃ fd, FunD K "level_row" "level_row" (defArgs s_level_row) (defBody s_level_row) (defScope s_level_row) [] [] (He.ga K "level_row") fd
  g_level_row : mg "level_row" = some (.ref (He.ga K "level_row"))
  d_bit_of : ∃ fd, FunD K "bit_of" "bit_of" (defArgs s_bit_of) (defBody s_bit_of) (defScope s_bit_of) [] [] (He.ga K "bit_of") fd
  g_bit_of : mg "bit_of" = some (.ref (He.ga K "bit_of"))
  d_halves : ∃ fd, FunD K "halves" "halves" (defArgs s_halves) (defBody s_halves) (defScope s_halves) [] [] (He.ga K "halves") fd
  g_halves : mg "halves" = some (.ref (He.ga K "halves"))
  d_behind_levels : ∃ fd, FunD K "behind_levels" "behind_levels" (defArgs s_behind_levels) (defBody s_behind_levels) (defScope s_behind_levels) [] [] (He.ga K "behind_levels") fd
  g_behind_levels : mg "behind_levels" = some (.ref (He.ga K "behind_levels"))
  d_sign_at : ∃ fd, FunD K "sign_at" "sign_at" (defArgs s_sign_at) (defBody s_sign_at) (defScope s_sign_at) [] [] (He.ga K "sign_at") fd
  g_sign_at : mg "sign_at" = some (.ref (He.ga K "sign_at"))
  d_signs_ahead : ∃ fd, FunD K "signs_ahead" "signs_ahead" (defArgs s_signs_ahead) (defBody s_signs_ahead) (defScope s_signs_ahead) [] [] (He.ga K "signs_ahead") fd
  g_signs_ahead : mg "signs_ahead" = some (.ref (He.ga K "signs_ahead"))
  d_sign_place : ∃ fd, FunD K "sign_place" "sign_place" (defArgs s_sign_place) (defBody s_sign_place) (defScope s_sign_place) [] [] (He.ga K "sign_place") fd
  g_sign_place : mg "sign_place" = some (.ref (He.ga K "sign_place"))
  d_stretch_there : ∃ fd, FunD K "stretch_there" "stretch_there" (defArgs s_stretch_there) (defBody s_stretch_there) (defScope s_stretch_there) [] [] (He.ga K "stretch_there") fd
  g_stretch_there : mg "stretch_there" = some (.ref (He.ga K "stretch_there"))
  d_below : ∃ fd, FunD K "below" "below" (defArgs s_below) (defBody s_below) (defScope s_below) [] [] (He.ga K "below") fd
  g_below : mg "below" = some (.ref (He.ga K "below"))
  d_between : ∃ fd, FunD K "between" "between" (defArgs s_between) (defBody s_between) (defScope s_between) [] [] (He.ga K "between") fd
  g_between : mg "between" = some (.ref (He.ga K "between"))
  d_so_manieth : ∃ fd, FunD K "so_manieth" "so_manieth" (defArgs s_so_manieth) (defBody s_so_manieth) (defScope s_so_manieth) [] [] (He.ga K "so_manieth") fd
  g_so_manieth : mg "so_manieth" = some (.ref (He.ga K "so_manieth"))
  d_unlike : ∃ fd, FunD K "unlike" "unlike" (defArgs s_unlike) (defBody s_unlike) (defScope s_unlike) [] [] (He.ga K "unlike") fd
  g_unlike : mg "unlike" = some (.ref (He.ga K "unlike"))
  d_law_whole : ∃ fd, FunD K "_law_whole" "_law_whole" (defArgs s_law_whole) (defBody s_law_whole) (defScope s_law_whole) [] [] (He.ga K "_law_whole") fd
  g_law_whole : mg "_law_whole" = some (.ref (He.ga K "_law_whole"))
  d_law_piece : ∃ fd, FunD K "_law_piece" "_law_piece" (defArgs s_law_piece) (defBody s_law_piece) (defScope s_law_piece) [] [] (He.ga K "_law_piece") fd
  g_law_piece : mg "_law_piece" = some (.ref (He.ga K "_law_piece"))
  d_law_signs : ∃ fd, FunD K "_law_signs" "_law_signs" (defArgs s_law_signs) (defBody s_law_signs) (defScope s_law_signs) [] [] (He.ga K "_law_signs") fd
  g_law_signs : mg "_law_signs" = some (.ref (He.ga K "_law_signs"))
  d_law_look : ∃ fd, FunD K "_law_look" "_law_look" (defArgs s_law_look) (defBody s_law_look) (defScope s_law_look) [] [] (He.ga K "_law_look") fd
  g_law_look : mg "_law_look" = some (.ref (He.ga K "_law_look"))
  d_law_few : ∃ fd, FunD K "_law_few" "_law_few" (defArgs s_law_few) (defBody s_law_few) (defScope s_law_few) [] [] (He.ga K "_law_few") fd
  g_law_few : mg "_law_few" = some (.ref (He.ga K "_law_few"))
  d_law_sought : ∃ fd, FunD K "_law_sought" "_law_sought" (defArgs s_law_sought) (defBody s_law_sought) (defScope s_law_sought) [] [] (He.ga K "_law_sought") fd
  g_law_sought : mg "_law_sought" = some (.ref (He.ga K "_law_sought"))
  d_law_parts : ∃ fd, FunD K "_law_parts" "_law_parts" (defArgs s_law_parts) (defBody s_law_parts) (defScope s_law_parts) [] [] (He.ga K "_law_parts") fd
  g_law_parts : mg "_law_parts" = some (.ref (He.ga K "_law_parts"))
  d_law_due : ∃ fd, FunD K "_law_due" "_law_due" (defArgs s_law_due) (defBody s_law_due) (defScope s_law_due) [] [] (He.ga K "_law_due") fd
  g_law_due : mg "_law_due" = some (.ref (He.ga K "_law_due"))
  d_law_answer : ∃ fd, FunD K "_law_answer" "_law_answer" (defArgs s_law_answer) (defBody s_law_answer) (defScope s_law_answer) [] [] (He.ga K "_law_answer") fd
  g_law_answer : mg "_law_answer" = some (.ref (He.ga K "_law_answer"))
  d_law_told : ∃ fd, FunD K "_law_told" "_law_told" (defArgs s_law_told) (defBody s_law_told) (defScope s_law_told) [] [] (He.ga K "_law_told") fd
  g_law_told : mg "_law_told" = some (.ref (He.ga K "_law_told"))
  d_law_alike : ∃ fd, FunD K "_law_alike" "_law_alike" (defArgs s_law_alike) (defBody s_law_alike) (defScope s_law_alike) [] [] (He.ga K "_law_alike") fd
  g_law_alike : mg "_law_alike" = some (.ref (He.ga K "_law_alike"))
  d_law_one_good : ∃ fd, FunD K "_law_one_good" "_law_one_good" (defArgs s_law_one_good) (defBody s_law_one_good) (defScope s_law_one_good) [] [] (He.ga K "_law_one_good") fd
  g_law_one_good : mg "_law_one_good" = some (.ref (He.ga K "_law_one_good"))
  d_law : ∃ fd, FunD K "law" "law" (defArgs s_law) (defBody s_law) (defScope s_law) [] [] (He.ga K "law") fd
  g_law : mg "law" = some (.ref (He.ga K "law"))
  b_abs : mg "abs" = none
  b_bool : mg "bool" = none
  b_enumerate : mg "enumerate" = none
  b_int : mg "int" = none
  b_isinstance : mg "isinstance" = none
  b_len : mg "len" = none
  b_list : mg "list" = none
  b_max : mg "max" = none
  b_min : mg "min" = none
  b_range : mg "range" = none
  b_reversed : mg "reversed" = none
  b_set : mg "set" = none
  b_sorted : mg "sorted" = none
  b_sum : mg "sum" = none
  b_tuple : mg "tuple" = none
  b_zip : mg "zip" = none
  x_NoBit : ExF K mg "NoBit"
  x_NoPlace : ExF K mg "NoPlace"
  x_NoSign : ExF K mg "NoSign"
  x_TooMany : ExF K mg "TooMany"
  g_NoBit : mg "NoBit" = some (.ref (He.ga K "NoBit"))
  g_NoPlace : mg "NoPlace" = some (.ref (He.ga K "NoPlace"))
  g_NoSign : mg "NoSign" = some (.ref (He.ga K "NoSign"))
  g_TooMany : mg "TooMany" = some (.ref (He.ga K "TooMany"))
  fx : KFx K
  i_ALL : ∃ t, mg "ALL" = some (.int 4294967295 t)
  i_FAR : ∃ t, mg "FAR" = some (.int 1000000000000000000000000000000000000000000000000000000000000 t)
  i_MOST : ∃ t, mg "MOST" = some (.int 4096 t)
  i_WIDE : ∃ t, mg "WIDE" = some (.int 32 t)
  tb_level_row : LamX.TabB base mg (He.cT K ("level_row", none)).1 (He.cT K ("level_row", none)).2
  tb_law_look : LamX.TabB base mg (He.cT K ("_law_look", none)).1 (He.cT K ("_law_look", none)).2
section
variable {P : Program} {w : World} {K : PySem.W.Frag} {mg : Str → Option Value} {base : Heap}
theorem ok_packed (T : Tx P w K mg base) : Okf P w K mg base (L2.CX P w) 2 "packed" ["bits"] (sp_packed K) := by
  obtain ⟨fd, FD⟩ := T.d_packed
  refine ⟨⟨fd, FunD.look FD, FD.bindsN fun _ _ _ _ _ _ us hl => match us, hl with | [_], _ => rfl, ?_⟩, FD.kp, T.g_packed⟩
  refine FunD.ok (CX := (L2.CX P w)) FD sc_packed (len_packed K) (fun cdv A outer s H vs Q E hr h => ⟨t_packed K E, ?_, rd_packed K vs H Q E h⟩)
  exact (pss_cons (ps_if (pt_cmpR op_gt (pe_callB call_lenK (by rfl) T.b_len (by decide +kernel) (pa_cons (pv 0) pa_nil)) (pe_gint T.i_MOST (by rfl)) (nomark _))
  (pss_one (ps_rz T.x_TooMany (takes_of rfl rfl rfl rfl)))
  pss_nil)
  (pss_cons (ps_set (i := 1) sc_packed.nd rfl (.inl rfl) (pe_op op_rep (pe_lst (pa_cons pe_int pa_nil)) (pe_op op_fdiv (pe_op op_sub (pe_op op_add (pe_callB call_lenK (by rfl) T.b_len (by decide +kernel) (pa_cons (pv 0) pa_nil)) (pe_gint T.i_WIDE (by rfl))) pe_int) (pe_gint T.i_WIDE (by rfl)))))
  (pss_cons (ps_for (passes_of rfl) rfl (pi_enum (by rfl) T.b_enumerate (pa_cons (pv 0) pa_nil)) (pg_tup rfl (pgs_cons (pg_name (i := 2) sc_packed.nd rfl (.inl rfl)) (pgs_cons (pg_name (i := 3) sc_packed.nd rfl (.inl rfl)) pgs_nil)))
  (pss_cons (ps_if (PW.pt (pw_and (pt_cmpR op_ne (pv 3) pe_int (nomark _)) (pw_and1 (pt_cmpR op_ne (pv 3) pe_int (nomark _)))))
  (pss_one (ps_rz T.x_NoBit (takes_of rfl rfl rfl rfl)))
  pss_nil)
  (pss_one (ps_if (pt_cmpR op_eq (pv 3) pe_int (nomark _))
  (pss_one (ps_asg (pe_op op_or (pe_ix ix_list (pv 1) (pe_op op_fdiv (pv 2) (pe_gint T.i_WIDE (by rfl))) (fun _ _ => rfl)) (pe_op op_shlW pe_int (pe_op op_mod (pv 2) (pe_gint T.i_WIDE (by rfl))))) (pg_sub (pv 1) (pe_op op_fdiv (pv 2) (pe_gint T.i_WIDE (by rfl))) set_list)))
  pss_nil))))
  (pss_one (ps_ret (pv 1))))))

theorem ok_ones_in (T : Tx P w K mg base) : Okf P w K mg base CX0 1 "ones_in" ["block", "upto"] (sp_ones_in K) := by
  obtain ⟨fd, FD⟩ := T.d_ones_in
  refine ⟨⟨fd, FunD.look FD, FD.bindsN fun _ _ _ _ _ _ us hl => match us, hl with | [_, _], _ => rfl, ?_⟩, FD.kp, T.g_ones_in⟩
  refine FunD.ok (CX := CX0) FD sc_ones_in (len_ones_in K) (fun cdv A outer s H vs Q E hr h => ⟨t_ones_in K, PSs.nox ?_, rd_ones_in K vs H Q E h⟩)
  exact (pss_one (ps_ret (pe_callB (cr_sum rfl) (by rfl) T.b_sum (by decide +kernel) (pa_cons (pe_lc (own := [("k", 2)]) (g := (gName 2)) (tt := tYes) rfl sc_ones_in.nd (pi_range1 (by rfl) T.b_range (pa_cons (pv 1) pa_nil)) (blkOk_by (N := ["block", "upto", "k"]) (sc := defScope s_ones_in) (own := [("k", 2)]) (by decide +kernel)) (fun _ _ _ _ _ => (pg_name (i := 2) sc_ones_in.nd rfl (.inl rfl))) (fun _ _ _ _ _ => pts_nil) (fun _ _ _ _ _ => (pe_op op_and1 (pe_op op_shr (pv 0) (pv 2)) pe_int))) pa_nil))))

theorem ok_one_in (T : Tx P w K mg base) : Okf P w K mg base CX0 1 "one_in" ["block", "nth"] (sp_one_in K) := by
  obtain ⟨fd, FD⟩ := T.d_one_in
  refine ⟨⟨fd, FunD.look FD, FD.bindsN fun _ _ _ _ _ _ us hl => match us, hl with | [_, _], _ => rfl, ?_⟩, FD.kp, T.g_one_in⟩
  refine FunD.ok (CX := CX0) FD sc_one_in (len_one_in K) (fun cdv A outer s H vs Q E hr h => ⟨t_one_in K, PSs.nox ?_, rd_one_in K vs H Q E h⟩)
  exact (pss_cons (ps_for PassesOwn.never rfl (pi_range1 (by rfl) T.b_range (pa_cons (pe_gint T.i_WIDE (by rfl)) pa_nil)) (pg_name (i := 2) sc_one_in.nd rfl (.inl rfl))
  (pss_one (ps_if (pt_cmpR op_eq (pe_op op_and1 (pe_op op_shr (pv 0) (pv 2)) pe_int) pe_int (nomark _))
  (pss_cons (ps_if (pt_cmpR op_eq (pv 1) pe_int (nomark _))
  (pss_one (ps_ret (pv 2)))
  pss_nil)
  (pss_one (ps_aug (i := 1) sc_one_in.nd rfl (.inl rfl) pe_int ip_sub)))
  pss_nil)))
  (pss_one (ps_ret pe_non)))

theorem ok_ones_table (T : Tx P w K mg base) (o_ones_in : Okf P w K mg base CX0 1 "ones_in" ["block", "upto"] (sp_ones_in K)) : Okf P w K mg base CX0 2 "ones_table" ["blocks"] (sp_ones_table K) := by
  obtain ⟨fd, FD⟩ := T.d_ones_table
  refine ⟨⟨fd, FunD.look FD, FD.bindsN fun _ _ _ _ _ _ us hl => match us, hl with | [_], _ => rfl, ?_⟩, FD.kp, T.g_ones_table⟩
  refine FunD.ok (CX := CX0) FD sc_ones_table (len_ones_table K) (fun cdv A outer s H vs Q E hr h => ⟨t_ones_table K, PSs.nox ?_, rd_ones_table K vs H Q E h⟩)
  exact (pss_cons (ps_set (i := 1) sc_ones_table.nd rfl (.inl rfl) (pe_lst (pa_cons pe_int pa_nil)))
  (pss_cons (ps_for PassesOwn.never rfl (pi_list (pv 0)) (pg_name (i := 2) sc_ones_table.nd rfl (.inl rfl))
  (pss_one (ps_expr (pe_bm PySem.F.plainAttrs_list PySem.F.slot_list_append PySem.F.type_list_append mt_append (pv 1) (pa_cons (pe_op op_add (pe_ix ix_list (pv 1) (pe_un un_neg pe_int) (fun _ _ => rfl)) (pe_callF o_ones_in hr (by decide) (by rfl) pass0 (pa_cons (pv 2) (pa_cons (pe_gint T.i_WIDE (by rfl)) pa_nil)))) pa_nil)))))
  (pss_one (ps_ret (pe_callTy call_tupK (by rfl) T.b_tuple (by decide +kernel) (pa_cons (pv 1) pa_nil))))))

theorem ok_kept_row (T : Tx P w K mg base) (o_packed : Okf P w K mg base (L2.CX P w) 2 "packed" ["bits"] (sp_packed K)) (o_ones_table : Okf P w K mg base CX0 2 "ones_table" ["blocks"] (sp_ones_table K)) : Okf P w K mg base (L2.CX P w) 4 "kept_row" ["bits"] (sp_kept_row K) := by
  obtain ⟨fd, FD⟩ := T.d_kept_row
  refine ⟨⟨fd, FunD.look FD, FD.bindsN fun _ _ _ _ _ _ us hl => match us, hl with | [_], _ => rfl, ?_⟩, FD.kp, T.g_kept_row⟩
  refine FunD.ok (CX := (L2.CX P w)) FD sc_kept_row (len_kept_row K) (fun cdv A outer s H vs Q E hr h => ⟨t_kept_row K E, ?_, rd_kept_row K vs H Q E h⟩)
  exact (pss_cons (ps_set (i := 1) sc_kept_row.nd rfl (.inl rfl) (pe_callF o_packed hr (by decide) (by rfl) (passX (takes_of rfl rfl rfl rfl)) (pa_cons (pv 0) pa_nil)))
  (pss_one (ps_ret (pe_tup (pa_cons (pe_tup (pa_cons (pe_callB call_lenK (by rfl) T.b_len (by decide +kernel) (pa_cons (pv 0) pa_nil)) (pa_cons (pe_callF o_ones_table hr (by decide) (by rfl) pass0 (pa_cons (pv 1) pa_nil)) pa_nil))) (pa_cons (pv 1) pa_nil))))))

theorem ok_bit_at (T : Tx P w K mg base) : Okf P w K mg base (L2.CX P w) 11 "bit_at" ["tables", "look", "at"] (sp_bit_at K (Cal P w K mg base)) := by
  obtain ⟨fd, FD⟩ := T.d_bit_at
  refine ⟨⟨fd, FunD.look FD, FD.bindsN fun _ _ _ _ _ _ us hl => match us, hl with | [_, _, _], _ => rfl, ?_⟩, FD.kp, T.g_bit_at⟩
  refine FunD.ok (CX := (L2.CX P w)) FD sc_bit_at (len_bit_at K (Cal P w K mg base)) (fun cdv A outer s H vs Q E hr h => ⟨t_bit_at K (Cal P w K mg base) E, ?_, rd_bit_at K (Cal P w K mg base) vs H Q E h⟩)
  exact (pss_cons (ps_if (PW.pt (pw_or (pt_cmpR op_lt (pv 2) pe_int (nomark _)) (pw_or1 (pt_cmpR op_ge (pv 2) (pe_ix ix_tup (pv 0) pe_int (fun _ _ => rfl)) (nomark _)))))
  (pss_one (ps_rz T.x_NoPlace (takes_of rfl rfl rfl rfl)))
  pss_nil)
  (pss_one (ps_ret (pe_op op_and1 (pe_op op_shr (pe_callV (k := 9) (i := 1) hr (by decide) rfl (.inl rfl) (pa_cons (pe_op op_fdiv (pv 2) (pe_gint T.i_WIDE (by rfl))) pa_nil)) (pe_op op_mod (pv 2) (pe_gint T.i_WIDE (by rfl)))) pe_int))))

theorem ok_ones_at (T : Tx P w K mg base) (o_ones_in : Okf P w K mg base CX0 1 "ones_in" ["block", "upto"] (sp_ones_in K)) : Okf P w K mg base (L2.CX P w) 11 "ones_at" ["tables", "look", "at"] (sp_ones_at K (Cal P w K mg base)) := by
  obtain ⟨fd, FD⟩ := T.d_ones_at
  refine ⟨⟨fd, FunD.look FD, FD.bindsN fun _ _ _ _ _ _ us hl => match us, hl with | [_, _, _], _ => rfl, ?_⟩, FD.kp, T.g_ones_at⟩
  refine FunD.ok (CX := (L2.CX P w)) FD sc_ones_at (len_ones_at K (Cal P w K mg base)) (fun cdv A outer s H vs Q E hr h => ⟨t_ones_at K (Cal P w K mg base) E, ?_, rd_ones_at K (Cal P w K mg base) vs H Q E h⟩)
  exact (pss_cons (ps_asg (pv 0) (pg_tup rfl (pgs_cons (pg_name (i := 3) sc_ones_at.nd rfl (.inl rfl)) (pgs_cons (pg_name (i := 4) sc_ones_at.nd rfl (.inl rfl)) pgs_nil))))
  (pss_cons (ps_if (PW.pt (pw_or (pt_cmpR op_lt (pv 2) pe_int (nomark _)) (pw_or1 (pt_cmpR op_gt (pv 2) (pv 3) (nomark _)))))
  (pss_one (ps_rz T.x_NoPlace (takes_of rfl rfl rfl rfl)))
  pss_nil)
  (pss_cons (ps_set (i := 5) sc_ones_at.nd rfl (.inl rfl) (pe_ix ix_tup (pv 4) (pe_op op_fdiv (pv 2) (pe_gint T.i_WIDE (by rfl))) (fun _ _ => rfl)))
  (Evl.pss_cut (ps_if (pt_cmpR op_gt (pe_op op_mod (pv 2) (pe_gint T.i_WIDE (by rfl))) pe_int (nomark _))
  (pss_one (ps_aug (i := 5) sc_ones_at.nd rfl (.inl rfl) (pe_callF o_ones_in hr (by decide) (by rfl) pass0 (pa_cons (pe_callV (k := 9) (i := 1) hr (by decide) rfl (.inl rfl) (pa_cons (pe_op op_fdiv (pv 2) (pe_gint T.i_WIDE (by rfl))) pa_nil)) (pa_cons (pe_op op_mod (pv 2) (pe_gint T.i_WIDE (by rfl))) pa_nil))) ip_add))
  pss_nil)
  (pss_one (ps_ret (pv 5)))))))

theorem ok_noughts_at (T : Tx P w K mg base) (o_ones_at : Okf P w K mg base (L2.CX P w) 11 "ones_at" ["tables", "look", "at"] (sp_ones_at K (Cal P w K mg base))) : Okf P w K mg base (L2.CX P w) 13 "noughts_at" ["tables", "look", "at"] (sp_noughts_at K (Cal P w K mg base)) := by
  obtain ⟨fd, FD⟩ := T.d_noughts_at
  refine ⟨⟨fd, FunD.look FD, FD.bindsN fun _ _ _ _ _ _ us hl => match us, hl with | [_, _, _], _ => rfl, ?_⟩, FD.kp, T.g_noughts_at⟩
  refine FunD.ok (CX := (L2.CX P w)) FD sc_noughts_at (len_noughts_at K (Cal P w K mg base)) (fun cdv A outer s H vs Q E hr h => ⟨t_noughts_at K (Cal P w K mg base) E, ?_, rd_noughts_at K (Cal P w K mg base) vs H Q E h⟩)
  exact (pss_one (ps_ret (pe_op op_sub (pv 2) (pe_callF o_ones_at hr (by decide) (by rfl) (passX (takes_of rfl rfl rfl rfl)) (pa_cons (pv 0) (pa_cons (pv 1) (pa_cons (pv 2) pa_nil)))))))

theorem ok_bits_ahead (T : Tx P w K mg base) : Okf P w K mg base CX0 1 "bits_ahead" ["ahead", "number", "kind"] (sp_bits_ahead K) := by
  obtain ⟨fd, FD⟩ := T.d_bits_ahead
  refine ⟨⟨fd, FunD.look FD, FD.bindsN fun _ _ _ _ _ _ us hl => match us, hl with | [_, _, _], _ => rfl, ?_⟩, FD.kp, T.g_bits_ahead⟩
  refine FunD.ok (CX := CX0) FD sc_bits_ahead (len_bits_ahead K) (fun cdv A outer s H vs Q E hr h => ⟨t_bits_ahead K, PSs.nox ?_, rd_bits_ahead K vs H Q E h⟩)
  exact (pss_cons (ps_if (pt_cmpR op_eq (pv 2) pe_int (nomark _))
  (pss_one (ps_ret (pe_ix ix_tup (pv 0) (pv 1) (fun _ _ => rfl))))
  pss_nil)
  (pss_one (ps_ret (pe_op op_sub (pe_op op_mul (pe_gint T.i_WIDE (by rfl)) (pv 1)) (pe_ix ix_tup (pv 0) (pv 1) (fun _ _ => rfl))))))

theorem ok_block_by (T : Tx P w K mg base) (o_bits_ahead : Okf P w K mg base CX0 1 "bits_ahead" ["ahead", "number", "kind"] (sp_bits_ahead K)) : Okf P w K mg base CX0 2 "block_by" ["ahead", "nth", "kind"] (sp_block_by K) := by
  obtain ⟨fd, FD⟩ := T.d_block_by
  refine ⟨⟨fd, FunD.look FD, FD.bindsN fun _ _ _ _ _ _ us hl => match us, hl with | [_, _, _], _ => rfl, ?_⟩, FD.kp, T.g_block_by⟩
  refine FunD.ok (CX := CX0) FD sc_block_by (len_block_by K) (fun cdv A outer s H vs Q E hr h => ⟨t_block_by K, PSs.nox ?_, rd_block_by K vs H Q E h⟩)
  exact (pss_cons (ps_set (i := 3) sc_block_by.nd rfl (.inl rfl) pe_int)
  (pss_cons (ps_set (i := 4) sc_block_by.nd rfl (.inl rfl) (pe_op op_sub (pe_callB call_lenK (by rfl) T.b_len (by decide +kernel) (pa_cons (pv 0) pa_nil)) pe_int))
  (pss_cons (ps_while PassesOwn.never (pt_cmpR op_gt (pe_op op_sub (pv 4) (pv 3)) pe_int (nomark _))
  (pss_cons (ps_set (i := 5) sc_block_by.nd rfl (.inl rfl) (pe_op op_fdiv (pe_op op_add (pv 3) (pv 4)) pe_int))
  (pss_one (ps_if (pt_cmpR op_le (pe_callF o_bits_ahead hr (by decide) (by rfl) pass0 (pa_cons (pv 0) (pa_cons (pv 5) (pa_cons (pv 2) pa_nil)))) (pv 1) (nomark _))
  (pss_one (ps_set (i := 3) sc_block_by.nd rfl (.inl rfl) (pv 5)))
  (pss_one (ps_set (i := 4) sc_block_by.nd rfl (.inl rfl) (pv 5)))))))
  (pss_one (ps_ret (pv 3))))))

theorem ok_one_place (T : Tx P w K mg base) (o_block_by : Okf P w K mg base CX0 2 "block_by" ["ahead", "nth", "kind"] (sp_block_by K)) (o_one_in : Okf P w K mg base CX0 1 "one_in" ["block", "nth"] (sp_one_in K)) (o_bits_ahead : Okf P w K mg base CX0 1 "bits_ahead" ["ahead", "number", "kind"] (sp_bits_ahead K)) : Okf P w K mg base (L2.CX P w) 11 "one_place" ["tables", "look", "nth"] (sp_one_place K (Cal P w K mg base)) := by
  obtain ⟨fd, FD⟩ := T.d_one_place
  refine ⟨⟨fd, FunD.look FD, FD.bindsN fun _ _ _ _ _ _ us hl => match us, hl with | [_, _, _], _ => rfl, ?_⟩, FD.kp, T.g_one_place⟩
  refine FunD.ok (CX := (L2.CX P w)) FD sc_one_place (len_one_place K (Cal P w K mg base)) (fun cdv A outer s H vs Q E hr h => ⟨t_one_place K (Cal P w K mg base) E, ?_, rd_one_place K (Cal P w K mg base) vs H Q E h⟩)
  exact (pss_cons (ps_set (i := 3) sc_one_place.nd rfl (.inl rfl) (pe_ix ix_tup (pv 0) pe_int (fun _ _ => rfl)))
  (pss_cons (ps_if (PW.pt (pw_or (pt_cmpR op_lt (pv 2) pe_int (nomark _)) (pw_or1 (pt_cmpR op_ge (pv 2) (pe_ix ix_tup (pv 3) (pe_un un_neg pe_int) (fun _ _ => rfl)) (nomark _)))))
  (pss_one (ps_rz T.x_NoPlace (takes_of rfl rfl rfl rfl)))
  pss_nil)
  (pss_cons (ps_set (i := 4) sc_one_place.nd rfl (.inl rfl) (pe_callF o_block_by hr (by decide) (by rfl) pass0 (pa_cons (pv 3) (pa_cons (pv 2) (pa_cons pe_int pa_nil)))))
  (pss_one (ps_ret (pe_op op_add (pe_op op_mul (pe_gint T.i_WIDE (by rfl)) (pv 4)) (pe_callF o_one_in hr (by decide) (by rfl) pass0 (pa_cons (pe_callV (k := 9) (i := 1) hr (by decide) rfl (.inl rfl) (pa_cons (pv 4) pa_nil)) (pa_cons (pe_op op_sub (pv 2) (pe_callF o_bits_ahead hr (by decide) (by rfl) pass0 (pa_cons (pv 3) (pa_cons (pv 4) (pa_cons pe_int pa_nil))))) pa_nil)))))))))

theorem ok_nought_place (T : Tx P w K mg base) (o_block_by : Okf P w K mg base CX0 2 "block_by" ["ahead", "nth", "kind"] (sp_block_by K)) (o_one_in : Okf P w K mg base CX0 1 "one_in" ["block", "nth"] (sp_one_in K)) (o_bits_ahead : Okf P w K mg base CX0 1 "bits_ahead" ["ahead", "number", "kind"] (sp_bits_ahead K)) : Okf P w K mg base (L2.CX P w) 11 "nought_place" ["tables", "look", "nth"] (sp_nought_place K (Cal P w K mg base)) := by
  obtain ⟨fd, FD⟩ := T.d_nought_place
  refine ⟨⟨fd, FunD.look FD, FD.bindsN fun _ _ _ _ _ _ us hl => match us, hl with | [_, _, _], _ => rfl, ?_⟩, FD.kp, T.g_nought_place⟩
  refine FunD.ok (CX := (L2.CX P w)) FD sc_nought_place (len_nought_place K (Cal P w K mg base)) (fun cdv A outer s H vs Q E hr h => ⟨t_nought_place K (Cal P w K mg base) E, ?_, rd_nought_place K (Cal P w K mg base) vs H Q E h⟩)
  exact (pss_cons (ps_asg (pv 0) (pg_tup rfl (pgs_cons (pg_name (i := 3) sc_nought_place.nd rfl (.inl rfl)) (pgs_cons (pg_name (i := 4) sc_nought_place.nd rfl (.inl rfl)) pgs_nil))))
  (pss_cons (ps_if (PW.pt (pw_or (pt_cmpR op_lt (pv 2) pe_int (nomark _)) (pw_or1 (pt_cmpR op_ge (pv 2) (pe_op op_sub (pv 3) (pe_ix ix_tup (pv 4) (pe_un un_neg pe_int) (fun _ _ => rfl))) (nomark _)))))
  (pss_one (ps_rz T.x_NoPlace (takes_of rfl rfl rfl rfl)))
  pss_nil)
  (pss_cons (ps_set (i := 5) sc_nought_place.nd rfl (.inl rfl) (pe_callF o_block_by hr (by decide) (by rfl) pass0 (pa_cons (pv 4) (pa_cons (pv 2) (pa_cons pe_int pa_nil)))))
  (pss_one (ps_ret (pe_op op_add (pe_op op_mul (pe_gint T.i_WIDE (by rfl)) (pv 5)) (pe_callF o_one_in hr (by decide) (by rfl) pass0 (pa_cons (pe_op op_xor (pe_callV (k := 9) (i := 1) hr (by decide) rfl (.inl rfl) (pa_cons (pv 5) pa_nil)) (pe_gint T.i_ALL (by rfl))) (pa_cons (pe_op op_sub (pv 2) (pe_callF o_bits_ahead hr (by decide) (by rfl) pass0 (pa_cons (pv 4) (pa_cons (pv 5) (pa_cons pe_int pa_nil))))) pa_nil)))))))))

theorem ok_levels_for (T : Tx P w K mg base) : Okf P w K mg base CX0 1 "levels_for" ["kinds"] (sp_levels_for K) := by
  obtain ⟨fd, FD⟩ := T.d_levels_for
  refine ⟨⟨fd, FunD.look FD, FD.bindsN fun _ _ _ _ _ _ us hl => match us, hl with | [_], _ => rfl, ?_⟩, FD.kp, T.g_levels_for⟩
  refine FunD.ok (CX := CX0) FD sc_levels_for (len_levels_for K) (fun cdv A outer s H vs Q E hr h => ⟨t_levels_for K, PSs.nox ?_, rd_levels_for K vs H Q E h⟩)
  exact (pss_cons (ps_set (i := 1) sc_levels_for.nd rfl (.inl rfl) pe_int)
  (pss_cons (ps_set (i := 2) sc_levels_for.nd rfl (.inl rfl) pe_int)
  (pss_cons (ps_while PassesOwn.never (pt_cmpR op_lt (pv 2) (pv 0) (nomark _))
  (pss_cons (ps_aug (i := 2) sc_levels_for.nd rfl (.inl rfl) (pv 2) ip_add)
  (pss_one (ps_aug (i := 1) sc_levels_for.nd rfl (.inl rfl) pe_int ip_add))))
  (pss_one (ps_ret (pv 1))))))

theorem ok_kept_signs (T : Tx P w K mg base) (o_levels_for : Okf P w K mg base CX0 1 "levels_for" ["kinds"] (sp_levels_for K)) (o_kept_row : Okf P w K mg base (L2.CX P w) 4 "kept_row" ["bits"] (sp_kept_row K)) : Okf P w K mg base (L2.CX P w) 6 "kept_signs" ["signs"] (sp_kept_signs K) := by
  obtain ⟨fd, FD⟩ := T.d_kept_signs
  refine ⟨⟨fd, FunD.look FD, FD.bindsN fun _ _ _ _ _ _ us hl => match us, hl with | [_], _ => rfl, ?_⟩, FD.kp, T.g_kept_signs⟩
  refine FunD.ok (CX := (L2.CX P w)) FD sc_kept_signs (len_kept_signs K) (fun cdv A outer s H vs Q E hr h => ⟨t_kept_signs K E, ?_, rd_kept_signs K vs H Q E h⟩)
  exact (pss_cons (ps_if (pt_cmpR op_gt (pe_callB call_lenK (by rfl) T.b_len (by decide +kernel) (pa_cons (pv 0) pa_nil)) (pe_gint T.i_MOST (by rfl)) (nomark _))
  (pss_one (ps_rz T.x_TooMany (takes_of rfl rfl rfl rfl)))
  pss_nil)
  (pss_cons (ps_for (passes_of rfl) rfl (pi_list (pv 0)) (pg_name (i := 1) sc_kept_signs.nd rfl (.inl rfl))
  (pss_one (ps_if (PW.pt (pw_or (pt_cmpR op_le (pv 1) (pe_cst (pe_op op_sub pe_int (pe_gint T.i_FAR (by rfl))) fun _ _ _ h => ⟨_, _, rfl, rfl, h⟩) (nomark _)) (pw_or1 (pt_cmpR op_ge (pv 1) (pe_gint T.i_FAR (by rfl)) (nomark _)))))
  (pss_one (ps_rz T.x_NoSign (takes_of rfl rfl rfl rfl)))
  pss_nil)))
  (pss_cons (ps_set (i := 2) sc_kept_signs.nd rfl (.inl rfl) (pe_sortSet (by rfl) T.b_sorted (by rfl) T.b_set (pv 0)))
  (pss_cons (ps_set (i := 3) sc_kept_signs.nd rfl (.inr rfl) pe_dnewK)
  (pss_cons (ps_for (passes_of rfl) rfl (pi_enum (by rfl) T.b_enumerate (pa_cons (pv 2) pa_nil)) (pg_tup rfl (pgs_cons (pg_name (i := 4) sc_kept_signs.nd rfl (.inl rfl)) (pgs_cons (pg_name (i := 1) sc_kept_signs.nd rfl (.inl rfl)) pgs_nil)))
  (pss_one (ps_dput (hu_of hr) (pv 3) (pv 1) (pv 4) rfl)))
  (pss_cons (ps_setLc (i := 5) (own := [("sign", 1)]) (g := (gName 1)) (tt := tYes) rfl sc_kept_signs.nd rfl rfl (sw_true rfl rfl rfl (by decide +kernel)) (pi_list (pv 0)) (blkOk_by (N := ["signs", "sign", "kinds", "ranks", "rank", "row", "aheads", "blocks", "weight", "tables", "some", "noughts"]) (sc := defScope s_kept_signs) (own := [("sign", 1)]) (by decide +kernel)) (fun _ _ _ _ _ => (pg_name (i := 1) sc_kept_signs.nd rfl (.inl rfl))) (fun _ _ _ _ _ => pts_nil) (fun _ _ _ _ _ => (pe_dget (hu_of hr) (pv 3) (pv 1) (fun _ _ => rfl))))
  (pss_cons (ps_set (i := 6) sc_kept_signs.nd rfl (.inl rfl) (pe_lst pa_nil))
  (pss_cons (ps_set (i := 7) sc_kept_signs.nd rfl (.inl rfl) (pe_lst pa_nil))
  (pss_cons (ps_for (passes_of rfl) rfl (pi_revR (by rfl) T.b_reversed (prg_1 (by rfl) T.b_range (pe_callF o_levels_for hr (by decide) (by rfl) pass0 (pa_cons (pe_callB call_lenK (by rfl) T.b_len (by decide +kernel) (pa_cons (pv 2) pa_nil)) pa_nil)))) (pg_name (i := 8) sc_kept_signs.nd rfl (.inr rfl))
  (pss_cons (ps_asg (pe_callF o_kept_row hr (by decide) (by rfl) (passX (takes_of rfl rfl rfl rfl)) (pa_cons (pe_lc (own := [("rank", 4)]) (g := (gName 4)) (tt := tYes) rfl sc_kept_signs.nd (pi_list (pv 5)) (blkOk_by (N := ["signs", "sign", "kinds", "ranks", "rank", "row", "aheads", "blocks", "weight", "tables", "some", "noughts"]) (sc := defScope s_kept_signs) (own := [("rank", 4)]) (by decide +kernel)) (fun _ _ _ _ _ => (pg_name (i := 4) sc_kept_signs.nd rfl (.inl rfl))) (fun _ _ _ _ _ => pts_nil) (fun _ _ _ _ _ => (pe_op op_and1 (pe_op op_shr (pv 4) (pv 8)) pe_int))) pa_nil)) (pg_tup rfl (pgs_cons (pg_name (i := 9) sc_kept_signs.nd rfl (.inl rfl)) (pgs_cons (pg_name (i := 10) sc_kept_signs.nd rfl (.inl rfl)) pgs_nil))))
  (pss_cons (ps_expr (pe_bm PySem.F.plainAttrs_list PySem.F.slot_list_append PySem.F.type_list_append mt_append (pv 6) (pa_cons (pe_ix ix_tup (pv 9) pe_int (fun _ _ => rfl)) pa_nil)))
  (pss_cons (ps_expr (pe_bm PySem.F.plainAttrs_list PySem.F.slot_list_extend PySem.F.type_list_extend mt_extend (pv 7) (pa_cons (pv 10) pa_nil)))
  (pss_cons (ps_setLc (i := 11) (own := [("rank", 4)]) (g := (gName 4)) (tt := (tTest (tOp rEq (tOp rAnd1 (tOp rShr (tVar 4) (tVar 8)) (tC (.int 1))) (tC (.int 0))))) rfl sc_kept_signs.nd rfl rfl (sw_true rfl rfl rfl (by decide +kernel)) (pi_list (pv 5)) (blkOk_by (N := ["signs", "sign", "kinds", "ranks", "rank", "row", "aheads", "blocks", "weight", "tables", "some", "noughts"]) (sc := defScope s_kept_signs) (own := [("rank", 4)]) (by decide +kernel)) (fun _ _ _ _ _ => (pg_name (i := 4) sc_kept_signs.nd rfl (.inl rfl))) (fun _ _ _ _ _ => (pts_one (pt_cmpR op_eq (pe_op op_and1 (pe_op op_shr (pv 4) (pv 8)) pe_int) pe_int (nomark _)))) (fun _ _ _ _ _ => (pv 4)))
  (pss_one (ps_set (i := 5) sc_kept_signs.nd rfl (.inl rfl) (pe_op op_cat (pv 11) (pe_lc (own := [("rank", 4)]) (g := (gName 4)) (tt := (tTest (tOp rEq (tOp rAnd1 (tOp rShr (tVar 4) (tVar 8)) (tC (.int 1))) (tC (.int 1))))) rfl sc_kept_signs.nd (pi_list (pv 5)) (blkOk_by (N := ["signs", "sign", "kinds", "ranks", "rank", "row", "aheads", "blocks", "weight", "tables", "some", "noughts"]) (sc := defScope s_kept_signs) (own := [("rank", 4)]) (by decide +kernel)) (fun _ _ _ _ _ => (pg_name (i := 4) sc_kept_signs.nd rfl (.inl rfl))) (fun _ _ _ _ _ => (pts_one (pt_cmpR op_eq (pe_op op_and1 (pe_op op_shr (pv 4) (pv 8)) pe_int) pe_int (nomark _)))) (fun _ _ _ _ _ => (pv 4)))))))))))
  (pss_one (ps_ret (pe_tup (pa_cons (pe_tup (pa_cons (pe_callB call_lenK (by rfl) T.b_len (by decide +kernel) (pa_cons (pv 0) pa_nil)) (pa_cons (pe_callTy call_tupK (by rfl) T.b_tuple (by decide +kernel) (pa_cons (pv 2) pa_nil)) (pa_cons (pe_callTy call_tupK (by rfl) T.b_tuple (by decide +kernel) (pa_cons (pv 6) pa_nil)) pa_nil)))) (pa_cons (pv 7) pa_nil))))))))))))))

theorem ok_rank_of (T : Tx P w K mg base) : Okf P w K mg base CX0 1 "rank_of" ["kinds", "sign"] (sp_rank_of K) := by
  obtain ⟨fd, FD⟩ := T.d_rank_of
  refine ⟨⟨fd, FunD.look FD, FD.bindsN fun _ _ _ _ _ _ us hl => match us, hl with | [_, _], _ => rfl, ?_⟩, FD.kp, T.g_rank_of⟩
  refine FunD.ok (CX := CX0) FD sc_rank_of (len_rank_of K) (fun cdv A outer s H vs Q E hr h => ⟨t_rank_of K, PSs.nox ?_, rd_rank_of K vs H Q E h⟩)
  exact (pss_cons (ps_set (i := 2) sc_rank_of.nd rfl (.inl rfl) pe_int)
  (pss_cons (ps_set (i := 3) sc_rank_of.nd rfl (.inl rfl) (pe_callB call_lenK (by rfl) T.b_len (by decide +kernel) (pa_cons (pv 0) pa_nil)))
  (pss_cons (ps_while PassesOwn.never (pt_cmpR op_lt (pv 2) (pv 3) (nomark _))
  (pss_cons (ps_set (i := 4) sc_rank_of.nd rfl (.inl rfl) (pe_op op_fdiv (pe_op op_add (pv 2) (pv 3)) pe_int))
  (pss_one (ps_if (pt_cmpR op_lt (pe_ix ix_tup (pv 0) (pv 4) (fun _ _ => rfl)) (pv 1) (nomark _))
  (pss_one (ps_set (i := 2) sc_rank_of.nd rfl (.inl rfl) (pe_op op_add (pv 4) pe_int)))
  (pss_one (ps_set (i := 3) sc_rank_of.nd rfl (.inl rfl) (pv 4)))))))
  (pss_one (ps_ret (pv 2))))))

theorem ok_level_row_lam (T : Tx P w K mg base) : ∀ (j : Nat) (f : Addr) (cl : List (Str × Addr)) (c' : Addr), COk (LamO (lamBody st_level_row_lam)) P w K mg base (max j 0 + 1) f (lamNF st_level_row_lam (("level_row" ++ ".<locals>.") ++ "<lambda>") cl c') ["number"] ["look", "start"] (sp_level_row_lam K (Cal P w K mg base) j) := by
  intro j f cl c'
  refine cok_lam (N := n_level_row_lam) sc_level_row_lam (fun _ _ _ us hl => match us, hl with | [_], _ => rfl) (len_level_row_lam K (Cal P w K mg base) j) (fun A outer s H vs ws Q hr hl h => ⟨t_level_row_lam K (Cal P w K mg base) j, PE.nox ?_, rd_level_row_lam K (Cal P w K mg base) j vs ws H Q h⟩)
  exact (pe_callV (k := j) (i := 1) hr (Nat.le_max_left _ _) rfl (.inr (.inr rfl)) (pa_cons (pe_op op_add (pv 2) (pv 0)) pa_nil))
theorem ok_level_row (T : Tx P w K mg base) : Okf P w K mg base CX0 1 "level_row" ["tables", "look", "level"] (sp_level_row K (Cal P w K mg base)) := by
  obtain ⟨fd, FD⟩ := T.d_level_row
  refine ⟨⟨fd, FunD.look FD, FD.bindsN fun _ _ _ _ _ _ us hl => match us, hl with | [_, _, _], _ => rfl, ?_⟩, FD.kp, T.g_level_row⟩
  refine FunD.okC (pre := (defBody s_level_row).dropLast) (O := (LamO (lamBody st_level_row_lam))) (mkF := lamNF st_level_row_lam (("level_row" ++ ".<locals>.") ++ "<lambda>")) (nsc := (lamNF st_level_row_lam "" [] 0).scope) (js := [1, 3]) (fr := ["look", "start"]) (psn := ["number"]) (lv := 0) (N := n_level_row) FD rfl sc_level_row (len_level_row K (Cal P w K mg base)) (fun {f F} => ⟨_, rfl, fun h ⟨pm, ctv, q⟩ => ⟨_, _, _, _, q⟩⟩) (fun _ _ => rfl) sc_level_row_lam.free (by decide +kernel) (by decide +kernel) (ok_level_row_lam T)
    (fun c A outer s H vs Q E ec hr h => ?_) rfl
  subst ec
  refine ⟨tp_level_row K (tabP K "level_row") (lamBody st_level_row_lam) _, te_level_row K (tabP K "level_row") (lamBody st_level_row_lam) _, PSs.nox ?_, PE.nox ?_, fun G hG => rd_level_row K (Cal P w K mg base) (tabP K "level_row") rfl (lamBody st_level_row_lam) _ vs H Q E h G hG⟩
  · exact (pss_one (ps_set (i := 3) sc_level_row.nd rfl (.inr rfl) (pe_op op_mul (pv 2) (pe_op op_fdiv (pe_op op_sub (pe_op op_add (pe_ix ix_tup (pv 0) pe_int (fun _ _ => rfl)) (pe_gint T.i_WIDE (by rfl))) pe_int) (pe_gint T.i_WIDE (by rfl))))))
  · exact (pe_tup (pa_cons (pe_tup (pa_cons (pe_ix ix_tup (pv 0) pe_int (fun _ _ => rfl)) (pa_cons (pe_ix ix_tup (pe_ix ix_tup (pv 0) pe_int (fun _ _ => rfl)) (pv 2) (fun _ _ => rfl)) pa_nil))) (pa_cons (pe_lamC T.tb_level_row rfl (by rfl) (NdefX.ndef_free (sc := defScope s_level_row) (nsc := (lamNF st_level_row_lam "" [] 0).scope) (fr := ["look", "start"]) (by decide +kernel)) rfl) pa_nil)))

theorem ok_bit_of (T : Tx P w K mg base) : Okf P w K mg base CX0 1 "bit_of" ["tables", "rank", "level"] (sp_bit_of K) := by
  obtain ⟨fd, FD⟩ := T.d_bit_of
  refine ⟨⟨fd, FunD.look FD, FD.bindsN fun _ _ _ _ _ _ us hl => match us, hl with | [_, _, _], _ => rfl, ?_⟩, FD.kp, T.g_bit_of⟩
  refine FunD.ok (CX := CX0) FD sc_bit_of (len_bit_of K) (fun cdv A outer s H vs Q E hr h => ⟨t_bit_of K, PSs.nox ?_, rd_bit_of K vs H Q E h⟩)
  exact (pss_one (ps_ret (pe_op op_and1 (pe_op op_shr (pv 1) (pe_op op_sub (pe_op op_sub (pe_callB call_lenK (by rfl) T.b_len (by decide +kernel) (pa_cons (pe_ix ix_tup (pv 0) pe_int (fun _ _ => rfl)) pa_nil)) pe_int) (pv 2))) pe_int)))

theorem ok_halves (T : Tx P w K mg base) (o_level_row : Okf P w K mg base CX0 1 "level_row" ["tables", "look", "level"] (sp_level_row K (Cal P w K mg base))) (o_noughts_at : Okf P w K mg base (L2.CX P w) 13 "noughts_at" ["tables", "look", "at"] (sp_noughts_at K (Cal P w K mg base))) : Okf P w K mg base (L2.CX P w) 15 "halves" ["tables", "look", "level", "start", "stop"] (sp_halves K (Cal P w K mg base)) := by
  obtain ⟨fd, FD⟩ := T.d_halves
  refine ⟨⟨fd, FunD.look FD, FD.bindsN fun _ _ _ _ _ _ us hl => match us, hl with | [_, _, _, _, _], _ => rfl, ?_⟩, FD.kp, T.g_halves⟩
  refine FunD.ok (CX := (L2.CX P w)) FD sc_halves (len_halves K (Cal P w K mg base)) (fun cdv A outer s H vs Q E hr h => ⟨t_halves K (Cal P w K mg base) E, ?_, rd_halves K (Cal P w K mg base) vs H Q E h⟩)
  exact (pss_cons (ps_asg (pe_callF o_level_row hr (by decide) (by rfl) pass0 (pa_cons (pv 0) (pa_cons (pv 1) (pa_cons (pv 2) pa_nil)))) (pg_tup rfl (pgs_cons (pg_name (i := 5) sc_halves.nd rfl (.inl rfl)) (pgs_cons (pg_name (i := 6) sc_halves.nd rfl (.inl rfl)) pgs_nil))))
  (pss_cons (ps_set (i := 7) sc_halves.nd rfl (.inl rfl) (pe_callF o_noughts_at hr (by decide) (by rfl) (passX (takes_of rfl rfl rfl rfl)) (pa_cons (pv 5) (pa_cons (pv 6) (pa_cons (pv 3) pa_nil)))))
  (pss_cons (ps_set (i := 8) sc_halves.nd rfl (.inl rfl) (pe_callF o_noughts_at hr (by decide) (by rfl) (passX (takes_of rfl rfl rfl rfl)) (pa_cons (pv 5) (pa_cons (pv 6) (pa_cons (pv 4) pa_nil)))))
  (pss_cons (ps_set (i := 9) sc_halves.nd rfl (.inl rfl) (pe_op op_sub (pe_ix ix_tup (pv 5) pe_int (fun _ _ => rfl)) (pe_ix ix_tup (pe_ix ix_tup (pv 5) pe_int (fun _ _ => rfl)) (pe_un un_neg pe_int) (fun _ _ => rfl))))
  (pss_one (ps_ret (pe_tup (pa_cons (pe_tup (pa_cons (pv 7) (pa_cons (pv 8) pa_nil))) (pa_cons (pe_tup (pa_cons (pe_op op_sub (pe_op op_add (pv 9) (pv 3)) (pv 7)) (pa_cons (pe_op op_sub (pe_op op_add (pv 9) (pv 4)) (pv 8)) pa_nil))) pa_nil)))))))))

theorem ok_behind_levels (T : Tx P w K mg base) (o_halves : Okf P w K mg base (L2.CX P w) 15 "halves" ["tables", "look", "level", "start", "stop"] (sp_halves K (Cal P w K mg base))) (o_bit_of : Okf P w K mg base CX0 1 "bit_of" ["tables", "rank", "level"] (sp_bit_of K)) : Okf P w K mg base (L2.CX P w) 17 "behind_levels" ["tables", "look", "rank", "start", "stop"] (sp_behind_levels K (Cal P w K mg base)) := by
  obtain ⟨fd, FD⟩ := T.d_behind_levels
  refine ⟨⟨fd, FunD.look FD, FD.bindsN fun _ _ _ _ _ _ us hl => match us, hl with | [_, _, _, _, _], _ => rfl, ?_⟩, FD.kp, T.g_behind_levels⟩
  refine FunD.ok (CX := (L2.CX P w)) FD sc_behind_levels (len_behind_levels K (Cal P w K mg base)) (fun cdv A outer s H vs Q E hr h => ⟨t_behind_levels K (Cal P w K mg base) E, ?_, rd_behind_levels K (Cal P w K mg base) vs H Q E h⟩)
  exact (pss_cons (ps_for (passes_of rfl) rfl (pi_range1 (by rfl) T.b_range (pa_cons (pe_callB call_lenK (by rfl) T.b_len (by decide +kernel) (pa_cons (pe_ix ix_tup (pv 0) pe_int (fun _ _ => rfl)) pa_nil)) pa_nil)) (pg_name (i := 5) sc_behind_levels.nd rfl (.inl rfl))
  (pss_one (ps_asg (pe_ix ix_tup (pe_callF o_halves hr (by decide) (by rfl) (passX (takes_of rfl rfl rfl rfl)) (pa_cons (pv 0) (pa_cons (pv 1) (pa_cons (pv 5) (pa_cons (pv 3) (pa_cons (pv 4) pa_nil)))))) (pe_callF o_bit_of hr (by decide) (by rfl) pass0 (pa_cons (pv 0) (pa_cons (pv 2) (pa_cons (pv 5) pa_nil)))) (fun _ _ => rfl)) (pg_tup rfl (pgs_cons (pg_name (i := 3) sc_behind_levels.nd rfl (.inl rfl)) (pgs_cons (pg_name (i := 4) sc_behind_levels.nd rfl (.inl rfl)) pgs_nil))))))
  (pss_one (ps_ret (pe_tup (pa_cons (pv 3) (pa_cons (pv 4) pa_nil))))))

theorem ok_sign_at (T : Tx P w K mg base) (o_level_row : Okf P w K mg base CX0 1 "level_row" ["tables", "look", "level"] (sp_level_row K (Cal P w K mg base))) (o_noughts_at : Okf P w K mg base (L2.CX P w) 13 "noughts_at" ["tables", "look", "at"] (sp_noughts_at K (Cal P w K mg base))) (o_bit_at : Okf P w K mg base (L2.CX P w) 11 "bit_at" ["tables", "look", "at"] (sp_bit_at K (Cal P w K mg base))) : Okf P w K mg base (L2.CX P w) 15 "sign_at" ["tables", "look", "at"] (sp_sign_at K (Cal P w K mg base)) := by
  obtain ⟨fd, FD⟩ := T.d_sign_at
  refine ⟨⟨fd, FunD.look FD, FD.bindsN fun _ _ _ _ _ _ us hl => match us, hl with | [_, _, _], _ => rfl, ?_⟩, FD.kp, T.g_sign_at⟩
  refine FunD.ok (CX := (L2.CX P w)) FD sc_sign_at (len_sign_at K (Cal P w K mg base)) (fun cdv A outer s H vs Q E hr h => ⟨t_sign_at K (Cal P w K mg base) E, ?_, rd_sign_at K (Cal P w K mg base) vs H Q E h⟩)
  exact (pss_cons (ps_asg (pv 0) (pg_tup rfl (pgs_cons (pg_name (i := 3) sc_sign_at.nd rfl (.inl rfl)) (pgs_cons (pg_name (i := 4) sc_sign_at.nd rfl (.inl rfl)) (pgs_cons (pg_name (i := 5) sc_sign_at.nd rfl (.inl rfl)) pgs_nil)))))
  (pss_cons (ps_if (PW.pt (pw_or (pt_cmpR op_lt (pv 2) pe_int (nomark _)) (pw_or1 (pt_cmpR op_ge (pv 2) (pv 3) (nomark _)))))
  (pss_one (ps_rz T.x_NoPlace (takes_of rfl rfl rfl rfl)))
  pss_nil)
  (pss_cons (ps_set (i := 6) sc_sign_at.nd rfl (.inl rfl) pe_int)
  (pss_cons (ps_for (passes_of rfl) rfl (pi_range1 (by rfl) T.b_range (pa_cons (pe_callB call_lenK (by rfl) T.b_len (by decide +kernel) (pa_cons (pv 5) pa_nil)) pa_nil)) (pg_name (i := 7) sc_sign_at.nd rfl (.inl rfl))
  (pss_cons (ps_asg (pe_callF o_level_row hr (by decide) (by rfl) pass0 (pa_cons (pv 0) (pa_cons (pv 1) (pa_cons (pv 7) pa_nil)))) (pg_tup rfl (pgs_cons (pg_name (i := 8) sc_sign_at.nd rfl (.inl rfl)) (pgs_cons (pg_name (i := 9) sc_sign_at.nd rfl (.inl rfl)) pgs_nil))))
  (pss_cons (ps_set (i := 10) sc_sign_at.nd rfl (.inl rfl) (pe_callF o_noughts_at hr (by decide) (by rfl) (passX (takes_of rfl rfl rfl rfl)) (pa_cons (pv 8) (pa_cons (pv 9) (pa_cons (pv 2) pa_nil)))))
  (pss_cons (ps_aug (i := 6) sc_sign_at.nd rfl (.inl rfl) (pv 6) ip_add)
  (pss_one (ps_if (pt_cmpR op_eq (pe_callF o_bit_at hr (by decide) (by rfl) (passX (takes_of rfl rfl rfl rfl)) (pa_cons (pv 8) (pa_cons (pv 9) (pa_cons (pv 2) pa_nil)))) pe_int (nomark _))
  (pss_cons (ps_aug (i := 6) sc_sign_at.nd rfl (.inl rfl) pe_int ip_add)
  (pss_one (ps_aug (i := 2) sc_sign_at.nd rfl (.inl rfl) (pe_op op_sub (pe_op op_sub (pv 3) (pe_ix ix_tup (pe_ix ix_tup (pv 5) (pv 7) (fun _ _ => rfl)) (pe_un un_neg pe_int) (fun _ _ => rfl))) (pv 10)) ip_add)))
  (pss_one (ps_set (i := 2) sc_sign_at.nd rfl (.inl rfl) (pv 10)))))))))
  (pss_one (ps_ret (pe_ix ix_tup (pv 4) (pv 6) (fun _ _ => rfl))))))))

theorem ok_signs_ahead (T : Tx P w K mg base) (o_rank_of : Okf P w K mg base CX0 1 "rank_of" ["kinds", "sign"] (sp_rank_of K)) (o_behind_levels : Okf P w K mg base (L2.CX P w) 17 "behind_levels" ["tables", "look", "rank", "start", "stop"] (sp_behind_levels K (Cal P w K mg base))) : Okf P w K mg base (L2.CX P w) 19 "signs_ahead" ["tables", "look", "sign", "at"] (sp_signs_ahead K (Cal P w K mg base)) := by
  obtain ⟨fd, FD⟩ := T.d_signs_ahead
  refine ⟨⟨fd, FunD.look FD, FD.bindsN fun _ _ _ _ _ _ us hl => match us, hl with | [_, _, _, _], _ => rfl, ?_⟩, FD.kp, T.g_signs_ahead⟩
  refine FunD.ok (CX := (L2.CX P w)) FD sc_signs_ahead (len_signs_ahead K (Cal P w K mg base)) (fun cdv A outer s H vs Q E hr h => ⟨t_signs_ahead K (Cal P w K mg base) E, ?_, rd_signs_ahead K (Cal P w K mg base) vs H Q E h⟩)
  exact (pss_cons (ps_asg (pv 0) (pg_tup rfl (pgs_cons (pg_name (i := 4) sc_signs_ahead.nd rfl (.inl rfl)) (pgs_cons (pg_name (i := 5) sc_signs_ahead.nd rfl (.inl rfl)) (pgs_cons (pg_name (i := 6) sc_signs_ahead.nd rfl (.inl rfl)) pgs_nil)))))
  (pss_cons (ps_if (PW.pt (pw_or (pt_cmpR op_lt (pv 3) pe_int (nomark _)) (pw_or1 (pt_cmpR op_gt (pv 3) (pv 4) (nomark _)))))
  (pss_one (ps_rz T.x_NoPlace (takes_of rfl rfl rfl rfl)))
  pss_nil)
  (pss_cons (ps_set (i := 7) sc_signs_ahead.nd rfl (.inl rfl) (pe_callF o_rank_of hr (by decide) (by rfl) pass0 (pa_cons (pv 5) (pa_cons (pv 2) pa_nil))))
  (pss_cons (ps_if (pt_cmpR (op_neD hr.units) (pe_slice sl_tupA (pv 5) (po_some (pv 7)) (po_some (pe_op op_add (pv 7) pe_int))) (pe_tup (pa_cons (pv 2) pa_nil)) (nomark _))
  (pss_one (ps_ret pe_int))
  pss_nil)
  (pss_cons (ps_asg (pe_callF o_behind_levels hr (by decide) (by rfl) (passX (takes_of rfl rfl rfl rfl)) (pa_cons (pv 0) (pa_cons (pv 1) (pa_cons (pv 7) (pa_cons pe_int (pa_cons (pv 3) pa_nil)))))) (pg_tup rfl (pgs_cons (pg_name (i := 8) sc_signs_ahead.nd rfl (.inl rfl)) (pgs_cons (pg_name (i := 9) sc_signs_ahead.nd rfl (.inl rfl)) pgs_nil))))
  (pss_one (ps_ret (pe_op op_sub (pv 9) (pv 8)))))))))

theorem ok_sign_place (T : Tx P w K mg base) (o_rank_of : Okf P w K mg base CX0 1 "rank_of" ["kinds", "sign"] (sp_rank_of K)) (o_behind_levels : Okf P w K mg base (L2.CX P w) 17 "behind_levels" ["tables", "look", "rank", "start", "stop"] (sp_behind_levels K (Cal P w K mg base))) (o_level_row : Okf P w K mg base CX0 1 "level_row" ["tables", "look", "level"] (sp_level_row K (Cal P w K mg base))) (o_bit_of : Okf P w K mg base CX0 1 "bit_of" ["tables", "rank", "level"] (sp_bit_of K)) (o_nought_place : Okf P w K mg base (L2.CX P w) 11 "nought_place" ["tables", "look", "nth"] (sp_nought_place K (Cal P w K mg base))) (o_one_place : Okf P w K mg base (L2.CX P w) 11 "one_place" ["tables", "look", "nth"] (sp_one_place K (Cal P w K mg base))) : Okf P w K mg base (L2.CX P w) 19 "sign_place" ["tables", "look", "sign", "nth"] (sp_sign_place K (Cal P w K mg base)) := by
  obtain ⟨fd, FD⟩ := T.d_sign_place
  refine ⟨⟨fd, FunD.look FD, FD.bindsN fun _ _ _ _ _ _ us hl => match us, hl with | [_, _, _, _], _ => rfl, ?_⟩, FD.kp, T.g_sign_place⟩
  refine FunD.ok (CX := (L2.CX P w)) FD sc_sign_place (len_sign_place K (Cal P w K mg base)) (fun cdv A outer s H vs Q E hr h => ⟨t_sign_place K (Cal P w K mg base) E, ?_, rd_sign_place K (Cal P w K mg base) vs H Q E h⟩)
  exact (pss_cons (ps_asg (pv 0) (pg_tup rfl (pgs_cons (pg_name (i := 4) sc_sign_place.nd rfl (.inl rfl)) (pgs_cons (pg_name (i := 5) sc_sign_place.nd rfl (.inl rfl)) (pgs_cons (pg_name (i := 6) sc_sign_place.nd rfl (.inl rfl)) pgs_nil)))))
  (pss_cons (ps_set (i := 7) sc_sign_place.nd rfl (.inl rfl) (pe_callF o_rank_of hr (by decide) (by rfl) pass0 (pa_cons (pv 5) (pa_cons (pv 2) pa_nil))))
  (pss_cons (ps_if (PW.pt (pw_or (pt_cmpR op_lt (pv 3) pe_int (nomark _)) (pw_or1 (pt_cmpR (op_neD hr.units) (pe_slice sl_tupA (pv 5) (po_some (pv 7)) (po_some (pe_op op_add (pv 7) pe_int))) (pe_tup (pa_cons (pv 2) pa_nil)) (nomark _)))))
  (pss_one (ps_rz T.x_NoPlace (takes_of rfl rfl rfl rfl)))
  pss_nil)
  (pss_cons (ps_asg (pe_callF o_behind_levels hr (by decide) (by rfl) (passX (takes_of rfl rfl rfl rfl)) (pa_cons (pv 0) (pa_cons (pv 1) (pa_cons (pv 7) (pa_cons pe_int (pa_cons (pv 4) pa_nil)))))) (pg_tup rfl (pgs_cons (pg_name (i := 8) sc_sign_place.nd rfl (.inl rfl)) (pgs_cons (pg_name (i := 9) sc_sign_place.nd rfl (.inl rfl)) pgs_nil))))
  (pss_cons (ps_if (pt_cmpR op_ge (pv 3) (pe_op op_sub (pv 9) (pv 8)) (nomark _))
  (pss_one (ps_rz T.x_NoPlace (takes_of rfl rfl rfl rfl)))
  pss_nil)
  (pss_cons (ps_set (i := 10) sc_sign_place.nd rfl (.inl rfl) (pe_op op_add (pv 8) (pv 3)))
  (pss_cons (ps_for (passes_of rfl) rfl (pi_revR (by rfl) T.b_reversed (prg_1 (by rfl) T.b_range (pe_callB call_lenK (by rfl) T.b_len (by decide +kernel) (pa_cons (pv 6) pa_nil)))) (pg_name (i := 11) sc_sign_place.nd rfl (.inl rfl))
  (pss_cons (ps_asg (pe_callF o_level_row hr (by decide) (by rfl) pass0 (pa_cons (pv 0) (pa_cons (pv 1) (pa_cons (pv 11) pa_nil)))) (pg_tup rfl (pgs_cons (pg_name (i := 12) sc_sign_place.nd rfl (.inl rfl)) (pgs_cons (pg_name (i := 13) sc_sign_place.nd rfl (.inl rfl)) pgs_nil))))
  (pss_one (ps_if (pt_cmpR op_eq (pe_callF o_bit_of hr (by decide) (by rfl) pass0 (pa_cons (pv 0) (pa_cons (pv 7) (pa_cons (pv 11) pa_nil)))) pe_int (nomark _))
  (pss_one (ps_set (i := 10) sc_sign_place.nd rfl (.inl rfl) (pe_callF o_nought_place hr (by decide) (by rfl) (passX (takes_of rfl rfl rfl rfl)) (pa_cons (pv 12) (pa_cons (pv 13) (pa_cons (pv 10) pa_nil))))))
  (pss_one (ps_set (i := 10) sc_sign_place.nd rfl (.inl rfl) (pe_callF o_one_place hr (by decide) (by rfl) (passX (takes_of rfl rfl rfl rfl)) (pa_cons (pv 12) (pa_cons (pv 13) (pa_cons (pe_op op_sub (pv 10) (pe_op op_sub (pv 4) (pe_ix ix_tup (pe_ix ix_tup (pv 6) (pv 11) (fun _ _ => rfl)) (pe_un un_neg pe_int) (fun _ _ => rfl)))) pa_nil))))))))))
  (pss_one (ps_ret (pv 10))))))))))

theorem ok_stretch_there (T : Tx P w K mg base) : Okf P w K mg base (L2.CX P w) 2 "stretch_there" ["tables", "start", "stop"] (sp_stretch_there K) := by
  obtain ⟨fd, FD⟩ := T.d_stretch_there
  refine ⟨⟨fd, FunD.look FD, FD.bindsN fun _ _ _ _ _ _ us hl => match us, hl with | [_, _, _], _ => rfl, ?_⟩, FD.kp, T.g_stretch_there⟩
  refine FunD.ok (CX := (L2.CX P w)) FD sc_stretch_there (len_stretch_there K) (fun cdv A outer s H vs Q E hr h => ⟨t_stretch_there K E, ?_, rd_stretch_there K vs H Q E h⟩)
  exact (pss_one (ps_if (PW.pt (pw_or (pt_cmpR op_lt (pv 1) pe_int (nomark _)) (pw_or (pt_cmpR op_gt (pv 1) (pv 2) (nomark _)) (pw_or1 (pt_cmpR op_gt (pv 2) (pe_ix ix_tup (pv 0) pe_int (fun _ _ => rfl)) (nomark _))))))
  (pss_one (ps_rz T.x_NoPlace (takes_of rfl rfl rfl rfl)))
  pss_nil))

theorem ok_below (T : Tx P w K mg base) (o_halves : Okf P w K mg base (L2.CX P w) 15 "halves" ["tables", "look", "level", "start", "stop"] (sp_halves K (Cal P w K mg base))) (o_bit_of : Okf P w K mg base CX0 1 "bit_of" ["tables", "rank", "level"] (sp_bit_of K)) : Okf P w K mg base (L2.CX P w) 17 "below" ["tables", "look", "start", "stop", "rank"] (sp_below K (Cal P w K mg base)) := by
  obtain ⟨fd, FD⟩ := T.d_below
  refine ⟨⟨fd, FunD.look FD, FD.bindsN fun _ _ _ _ _ _ us hl => match us, hl with | [_, _, _, _, _], _ => rfl, ?_⟩, FD.kp, T.g_below⟩
  refine FunD.ok (CX := (L2.CX P w)) FD sc_below (len_below K (Cal P w K mg base)) (fun cdv A outer s H vs Q E hr h => ⟨t_below K (Cal P w K mg base) E, ?_, rd_below K (Cal P w K mg base) vs H Q E h⟩)
  exact (pss_cons (ps_if (pt_cmpR op_eq (pv 4) (pe_callB call_lenK (by rfl) T.b_len (by decide +kernel) (pa_cons (pe_ix ix_tup (pv 0) pe_int (fun _ _ => rfl)) pa_nil)) (nomark _))
  (pss_one (ps_ret (pe_op op_sub (pv 3) (pv 2))))
  pss_nil)
  (pss_cons (ps_set (i := 5) sc_below.nd rfl (.inl rfl) pe_int)
  (pss_cons (ps_for (passes_of rfl) rfl (pi_range1 (by rfl) T.b_range (pa_cons (pe_callB call_lenK (by rfl) T.b_len (by decide +kernel) (pa_cons (pe_ix ix_tup (pv 0) pe_int (fun _ _ => rfl)) pa_nil)) pa_nil)) (pg_name (i := 6) sc_below.nd rfl (.inl rfl))
  (pss_cons (ps_asg (pe_callF o_halves hr (by decide) (by rfl) (passX (takes_of rfl rfl rfl rfl)) (pa_cons (pv 0) (pa_cons (pv 1) (pa_cons (pv 6) (pa_cons (pv 2) (pa_cons (pv 3) pa_nil)))))) (pg_tup rfl (pgs_cons (pg_name (i := 7) sc_below.nd rfl (.inl rfl)) (pgs_cons (pg_name (i := 8) sc_below.nd rfl (.inl rfl)) pgs_nil))))
  (pss_one (ps_if (pt_cmpR op_eq (pe_callF o_bit_of hr (by decide) (by rfl) pass0 (pa_cons (pv 0) (pa_cons (pv 4) (pa_cons (pv 6) pa_nil)))) pe_int (nomark _))
  (pss_one (ps_asg (pv 7) (pg_tup rfl (pgs_cons (pg_name (i := 2) sc_below.nd rfl (.inl rfl)) (pgs_cons (pg_name (i := 3) sc_below.nd rfl (.inl rfl)) pgs_nil)))))
  (pss_cons (ps_aug (i := 5) sc_below.nd rfl (.inl rfl) (pe_op op_sub (pe_ix ix_tup (pv 7) pe_int (fun _ _ => rfl)) (pe_ix ix_tup (pv 7) pe_int (fun _ _ => rfl))) ip_add)
  (pss_one (ps_asg (pv 8) (pg_tup rfl (pgs_cons (pg_name (i := 2) sc_below.nd rfl (.inl rfl)) (pgs_cons (pg_name (i := 3) sc_below.nd rfl (.inl rfl)) pgs_nil))))))))))
  (pss_one (ps_ret (pv 5))))))

theorem ok_between (T : Tx P w K mg base) (o_stretch_there : Okf P w K mg base (L2.CX P w) 2 "stretch_there" ["tables", "start", "stop"] (sp_stretch_there K)) (o_below : Okf P w K mg base (L2.CX P w) 17 "below" ["tables", "look", "start", "stop", "rank"] (sp_below K (Cal P w K mg base))) (o_rank_of : Okf P w K mg base CX0 1 "rank_of" ["kinds", "sign"] (sp_rank_of K)) : Okf P w K mg base (L2.CX P w) 19 "between" ["tables", "look", "start", "stop", "low", "high"] (sp_between K (Cal P w K mg base)) := by
  obtain ⟨fd, FD⟩ := T.d_between
  refine ⟨⟨fd, FunD.look FD, FD.bindsN fun _ _ _ _ _ _ us hl => match us, hl with | [_, _, _, _, _, _], _ => rfl, ?_⟩, FD.kp, T.g_between⟩
  refine FunD.ok (CX := (L2.CX P w)) FD sc_between (len_between K (Cal P w K mg base)) (fun cdv A outer s H vs Q E hr h => ⟨t_between K (Cal P w K mg base) E, ?_, rd_between K (Cal P w K mg base) vs H Q E h⟩)
  exact (pss_cons (ps_expr (pe_callF o_stretch_there hr (by decide) (by rfl) (passX (takes_of rfl rfl rfl rfl)) (pa_cons (pv 0) (pa_cons (pv 2) (pa_cons (pv 3) pa_nil)))))
  (pss_cons (ps_if (pt_cmpR op_ge (pv 4) (pv 5) (nomark _))
  (pss_one (ps_ret pe_int))
  pss_nil)
  (pss_cons (ps_set (i := 6) sc_between.nd rfl (.inl rfl) (pe_callF o_below hr (by decide) (by rfl) (passX (takes_of rfl rfl rfl rfl)) (pa_cons (pv 0) (pa_cons (pv 1) (pa_cons (pv 2) (pa_cons (pv 3) (pa_cons (pe_callF o_rank_of hr (by decide) (by rfl) pass0 (pa_cons (pe_ix ix_tup (pv 0) pe_int (fun _ _ => rfl)) (pa_cons (pv 5) pa_nil))) pa_nil)))))))
  (pss_one (ps_ret (pe_op op_sub (pv 6) (pe_callF o_below hr (by decide) (by rfl) (passX (takes_of rfl rfl rfl rfl)) (pa_cons (pv 0) (pa_cons (pv 1) (pa_cons (pv 2) (pa_cons (pv 3) (pa_cons (pe_callF o_rank_of hr (by decide) (by rfl) pass0 (pa_cons (pe_ix ix_tup (pv 0) pe_int (fun _ _ => rfl)) (pa_cons (pv 4) pa_nil))) pa_nil))))))))))))

theorem ok_so_manieth (T : Tx P w K mg base) (o_stretch_there : Okf P w K mg base (L2.CX P w) 2 "stretch_there" ["tables", "start", "stop"] (sp_stretch_there K)) (o_halves : Okf P w K mg base (L2.CX P w) 15 "halves" ["tables", "look", "level", "start", "stop"] (sp_halves K (Cal P w K mg base))) : Okf P w K mg base (L2.CX P w) 17 "so_manieth" ["tables", "look", "start", "stop", "nth"] (sp_so_manieth K (Cal P w K mg base)) := by
  obtain ⟨fd, FD⟩ := T.d_so_manieth
  refine ⟨⟨fd, FunD.look FD, FD.bindsN fun _ _ _ _ _ _ us hl => match us, hl with | [_, _, _, _, _], _ => rfl, ?_⟩, FD.kp, T.g_so_manieth⟩
  refine FunD.ok (CX := (L2.CX P w)) FD sc_so_manieth (len_so_manieth K (Cal P w K mg base)) (fun cdv A outer s H vs Q E hr h => ⟨t_so_manieth K (Cal P w K mg base) E, ?_, rd_so_manieth K (Cal P w K mg base) vs H Q E h⟩)
  exact (pss_cons (ps_expr (pe_callF o_stretch_there hr (by decide) (by rfl) (passX (takes_of rfl rfl rfl rfl)) (pa_cons (pv 0) (pa_cons (pv 2) (pa_cons (pv 3) pa_nil)))))
  (pss_cons (ps_if (PW.pt (pw_or (pt_cmpR op_lt (pv 4) pe_int (nomark _)) (pw_or1 (pt_cmpR op_ge (pv 4) (pe_op op_sub (pv 3) (pv 2)) (nomark _)))))
  (pss_one (ps_rz T.x_NoPlace (takes_of rfl rfl rfl rfl)))
  pss_nil)
  (pss_cons (ps_set (i := 5) sc_so_manieth.nd rfl (.inl rfl) pe_int)
  (pss_cons (ps_for (passes_of rfl) rfl (pi_range1 (by rfl) T.b_range (pa_cons (pe_callB call_lenK (by rfl) T.b_len (by decide +kernel) (pa_cons (pe_ix ix_tup (pv 0) pe_int (fun _ _ => rfl)) pa_nil)) pa_nil)) (pg_name (i := 6) sc_so_manieth.nd rfl (.inl rfl))
  (pss_cons (ps_asg (pe_callF o_halves hr (by decide) (by rfl) (passX (takes_of rfl rfl rfl rfl)) (pa_cons (pv 0) (pa_cons (pv 1) (pa_cons (pv 6) (pa_cons (pv 2) (pa_cons (pv 3) pa_nil)))))) (pg_tup rfl (pgs_cons (pg_name (i := 7) sc_so_manieth.nd rfl (.inl rfl)) (pgs_cons (pg_name (i := 8) sc_so_manieth.nd rfl (.inl rfl)) pgs_nil))))
  (pss_cons (ps_set (i := 9) sc_so_manieth.nd rfl (.inl rfl) (pe_op op_sub (pe_ix ix_tup (pv 7) pe_int (fun _ _ => rfl)) (pe_ix ix_tup (pv 7) pe_int (fun _ _ => rfl))))
  (pss_cons (ps_aug (i := 5) sc_so_manieth.nd rfl (.inl rfl) (pv 5) ip_add)
  (pss_one (ps_if (pt_cmpR op_lt (pv 4) (pv 9) (nomark _))
  (pss_one (ps_asg (pv 7) (pg_tup rfl (pgs_cons (pg_name (i := 2) sc_so_manieth.nd rfl (.inl rfl)) (pgs_cons (pg_name (i := 3) sc_so_manieth.nd rfl (.inl rfl)) pgs_nil)))))
  (pss_cons (ps_aug (i := 5) sc_so_manieth.nd rfl (.inl rfl) pe_int ip_add)
  (pss_cons (ps_aug (i := 4) sc_so_manieth.nd rfl (.inl rfl) (pv 9) ip_sub)
  (pss_one (ps_asg (pv 8) (pg_tup rfl (pgs_cons (pg_name (i := 2) sc_so_manieth.nd rfl (.inl rfl)) (pgs_cons (pg_name (i := 3) sc_so_manieth.nd rfl (.inl rfl)) pgs_nil)))))))))))))
  (pss_one (ps_ret (pe_ix ix_tup (pe_ix ix_tup (pv 0) pe_int (fun _ _ => rfl)) (pv 5) (fun _ _ => rfl))))))))

theorem ok_unlike (T : Tx P w K mg base) (o_stretch_there : Okf P w K mg base (L2.CX P w) 2 "stretch_there" ["tables", "start", "stop"] (sp_stretch_there K)) (o_halves : Okf P w K mg base (L2.CX P w) 15 "halves" ["tables", "look", "level", "start", "stop"] (sp_halves K (Cal P w K mg base))) : Okf P w K mg base (L2.CX P w) 17 "unlike" ["tables", "look", "start", "stop"] (sp_unlike K (Cal P w K mg base)) := by
  obtain ⟨fd, FD⟩ := T.d_unlike
  refine ⟨⟨fd, FunD.look FD, FD.bindsN fun _ _ _ _ _ _ us hl => match us, hl with | [_, _, _, _], _ => rfl, ?_⟩, FD.kp, T.g_unlike⟩
  refine FunD.ok (CX := (L2.CX P w)) FD sc_unlike (len_unlike K (Cal P w K mg base)) (fun cdv A outer s H vs Q E hr h => ⟨t_unlike K (Cal P w K mg base) E, ?_, rd_unlike K (Cal P w K mg base) vs H Q E h⟩)
  exact (pss_cons (ps_expr (pe_callF o_stretch_there hr (by decide) (by rfl) (passX (takes_of rfl rfl rfl rfl)) (pa_cons (pv 0) (pa_cons (pv 2) (pa_cons (pv 3) pa_nil)))))
  (pss_cons (ps_set (i := 4) sc_unlike.nd rfl (.inl rfl) (pe_lst (pa_cons (pe_tup (pa_cons pe_int (pa_cons (pv 2) (pa_cons (pv 3) pa_nil)))) pa_nil)))
  (pss_cons (ps_for (passes_of rfl) rfl (pi_range1 (by rfl) T.b_range (pa_cons (pe_callB call_lenK (by rfl) T.b_len (by decide +kernel) (pa_cons (pe_ix ix_tup (pv 0) pe_int (fun _ _ => rfl)) pa_nil)) pa_nil)) (pg_name (i := 5) sc_unlike.nd rfl (.inl rfl))
  (pss_cons (ps_set (i := 6) sc_unlike.nd rfl (.inl rfl) (pe_lst pa_nil))
  (pss_cons (ps_for (passes_of rfl) rfl (pi_list (pv 4)) (pg_tup rfl (pgs_cons (pg_name (i := 7) sc_unlike.nd rfl (.inl rfl)) (pgs_cons (pg_name (i := 8) sc_unlike.nd rfl (.inl rfl)) (pgs_cons (pg_name (i := 9) sc_unlike.nd rfl (.inl rfl)) pgs_nil))))
  (pss_one (ps_if (pt_cmpR op_lt (pv 8) (pv 9) (nomark _))
  (pss_cons (ps_asg (pe_callF o_halves hr (by decide) (by rfl) (passX (takes_of rfl rfl rfl rfl)) (pa_cons (pv 0) (pa_cons (pv 1) (pa_cons (pv 5) (pa_cons (pv 8) (pa_cons (pv 9) pa_nil)))))) (pg_tup rfl (pgs_cons (pg_name (i := 10) sc_unlike.nd rfl (.inl rfl)) (pgs_cons (pg_name (i := 11) sc_unlike.nd rfl (.inl rfl)) pgs_nil))))
  (pss_cons (ps_expr (pe_bm PySem.F.plainAttrs_list PySem.F.slot_list_append PySem.F.type_list_append mt_append (pv 6) (pa_cons (pe_tup (pa_cons (pe_op op_mul pe_int (pv 7)) (pa_cons (pe_ix ix_tup (pv 10) pe_int (fun _ _ => rfl)) (pa_cons (pe_ix ix_tup (pv 10) pe_int (fun _ _ => rfl)) pa_nil)))) pa_nil)))
  (pss_one (ps_expr (pe_bm PySem.F.plainAttrs_list PySem.F.slot_list_append PySem.F.type_list_append mt_append (pv 6) (pa_cons (pe_tup (pa_cons (pe_op op_add (pe_op op_mul pe_int (pv 7)) pe_int) (pa_cons (pe_ix ix_tup (pv 11) pe_int (fun _ _ => rfl)) (pa_cons (pe_ix ix_tup (pv 11) pe_int (fun _ _ => rfl)) pa_nil)))) pa_nil))))))
  pss_nil)))
  (pss_one (ps_set (i := 4) sc_unlike.nd rfl (.inl rfl) (pv 6))))))
  (pss_one (ps_ret (pe_lc (own := [("rank", 7), ("one", 8), ("other", 9)]) (g := (gTup K 3 (gCons (gName 7) (gCons (gName 8) (gCons (gName 9) gNil))))) (tt := (tTest (tOp rLt (tVar 8) (tVar 9)))) rfl sc_unlike.nd (pi_list (pv 4)) (blkOk_by (N := ["tables", "look", "start", "stop", "parts", "level", "finer", "rank", "one", "other", "noughts", "ones"]) (sc := defScope s_unlike) (own := [("rank", 7), ("one", 8), ("other", 9)]) (by decide +kernel)) (fun _ _ _ _ _ => (pg_tup rfl (pgs_cons (pg_name (i := 7) sc_unlike.nd rfl (.inl rfl)) (pgs_cons (pg_name (i := 8) sc_unlike.nd rfl (.inl rfl)) (pgs_cons (pg_name (i := 9) sc_unlike.nd rfl (.inl rfl)) pgs_nil))))) (fun _ _ _ _ _ => (pts_one (pt_cmpR op_lt (pv 8) (pv 9) (nomark _)))) (fun _ _ _ _ _ => (pe_tup (pa_cons (pe_ix ix_tup (pe_ix ix_tup (pv 0) pe_int (fun _ _ => rfl)) (pv 7) (fun _ _ => rfl)) (pa_cons (pe_op op_sub (pv 9) (pv 8)) pa_nil))))))))))

theorem ok_law_whole (T : Tx P w K mg base) : Okf P w K mg base CX0 1 "_law_whole" ["_law_found"] (sp_law_whole K) := by
  obtain ⟨fd, FD⟩ := T.d_law_whole
  refine ⟨⟨fd, FunD.look FD, FD.bindsN fun _ _ _ _ _ _ us hl => match us, hl with | [_], _ => rfl, ?_⟩, FD.kp, T.g_law_whole⟩
  refine FunD.ok (CX := CX0) FD sc_law_whole (len_law_whole K) (fun cdv A outer s H vs Q E hr h => ⟨t_law_whole K, PSs.nox ?_, rd_law_whole K vs H Q E h⟩)
  exact (pss_one (ps_ret (pe_and (pe_callB call_isB (by rfl) T.b_isinstance (by decide +kernel) (pa_cons (pv 0) (pa_cons (pe_bltn (v := .ty "int") (by rfl) T.b_int (by decide +kernel) rfl) pa_nil))) (pe_one (pe_not (pe_callB call_isB (by rfl) T.b_isinstance (by decide +kernel) (pa_cons (pv 0) (pa_cons (pe_bltn (v := .ty "bool") (by rfl) T.b_bool (by decide +kernel) rfl) pa_nil))))))))

theorem ok_law_piece (T : Tx P w K mg base) : Okf P w K mg base CX0 1 "_law_piece" ["_law_cell", "_law_ahead"] (sp_law_piece K) := by
  obtain ⟨fd, FD⟩ := T.d_law_piece
  refine ⟨⟨fd, FunD.look FD, FD.bindsN fun _ _ _ _ _ _ us hl => match us, hl with | [_, _], _ => rfl, ?_⟩, FD.kp, T.g_law_piece⟩
  refine FunD.ok (CX := CX0) FD sc_law_piece (len_law_piece K) (fun cdv A outer s H vs Q E hr h => ⟨t_law_piece K, PSs.nox ?_, rd_law_piece K vs H Q E h⟩)
  exact (pss_cons (ps_set (i := 2) sc_law_piece.nd rfl (.inl rfl) (pe_op op_fdiv (pv 0) pe_int))
  (pss_cons (ps_if (pt_cmpR op_eq (pe_op op_mod (pv 0) pe_int) pe_int (nomark _))
  (pss_one (ps_ret (pe_lst (pa_cons (pe_op op_add (pe_op op_sub (pe_op op_mod (pv 2) (pe_cst (pe_op op_sub (pe_cst (pe_op op_mulW pe_int (pe_cst (pe_op op_pow pe_int pe_int) fun _ _ _ h => ⟨_, _, rfl, rfl, ⟨by decide, by decide, by decide⟩, h⟩)) fun _ _ _ h => ⟨_, _, rfl, rfl, (by unfold CMulW; decide +kernel), h⟩) pe_int) fun _ _ _ h => ⟨_, _, rfl, rfl, h⟩)) (pe_cst (pe_op op_pow pe_int pe_int) fun _ _ _ h => ⟨_, _, rfl, rfl, ⟨by decide, by decide, by decide⟩, h⟩)) pe_int) pa_nil))))
  pss_nil)
  (Evl.pss_cut (ps_if (PW.pt (pw_and (pt_cmpR op_eq (pe_op op_mod (pv 0) pe_int) pe_int (nomark _)) (pw_and1 (pt_cmpR op_gt (pe_callB call_lenK (by rfl) T.b_len (by decide +kernel) (pa_cons (pv 1) pa_nil)) pe_int (nomark _)))))
  (pss_one (ps_ret (pe_lst (pa_cons (pe_callB (call_min2K rfl) (by rfl) T.b_min (by decide +kernel) (pa_cons (pe_op op_add (pe_ix ix_list (pv 1) (pe_op op_mod (pe_op op_fdiv (pv 2) pe_int) (pe_callB call_lenK (by rfl) T.b_len (by decide +kernel) (pa_cons (pv 1) pa_nil))) (fun _ _ => rfl)) (pe_op op_mod (pv 2) pe_int)) (pa_cons (pe_cst (pe_op op_sub (pe_cst (pe_op op_pow pe_int pe_int) fun _ _ _ h => ⟨_, _, rfl, rfl, ⟨by decide, by decide, by decide⟩, h⟩) pe_int) fun _ _ _ h => ⟨_, _, rfl, rfl, h⟩) pa_nil))) pa_nil))))
  pss_nil)
  (pss_cons (ps_if (pt_cmpR op_eq (pe_op op_mod (pv 0) pe_int) pe_int (nomark _))
  (pss_one (ps_ret (pe_op op_rep (pe_lst (pa_cons (pe_op op_sub (pe_op op_mod (pv 2) pe_int) pe_int) pa_nil)) (pe_op op_add pe_int (pe_op op_mod (pe_op op_fdiv (pv 2) pe_int) pe_int)))))
  pss_nil)
  (pss_cons (ps_set (i := 3) sc_law_piece.nd rfl (.inl rfl) (pe_op op_mod (pe_op op_mul (pv 2) pe_int) pe_int))
  (pss_cons (ps_set (i := 4) sc_law_piece.nd rfl (.inl rfl) (pe_op op_add pe_int (pe_op op_mod (pe_op op_fdiv (pv 3) pe_int) pe_int)))
  (pss_cons (ps_set (i := 5) sc_law_piece.nd rfl (.inl rfl) (pe_ix ix_list (pe_lst (pa_cons pe_int (pa_cons (pe_cst (pe_op op_pow pe_int pe_int) fun _ _ _ h => ⟨_, _, rfl, rfl, ⟨by decide, by decide, by decide⟩, h⟩) pa_nil))) (pe_op op_mod (pe_op op_fdiv (pv 3) pe_int) pe_int) (fun _ _ => rfl)))
  (pss_cons (ps_set (i := 6) sc_law_piece.nd rfl (.inl rfl) (pe_lst pa_nil))
  (pss_cons (ps_for PassesOwn.never rfl (pi_range1 (by rfl) T.b_range (pa_cons (pe_op op_add pe_int (pe_op op_mod (pv 3) pe_int)) pa_nil)) (pg_name (i := 7) sc_law_piece.nd rfl (.inl rfl))
  (pss_cons (ps_set (i := 3) sc_law_piece.nd rfl (.inl rfl) (pe_op op_mod (pe_op op_add (pe_op op_add (pe_op op_mul (pv 3) (pv 3)) (pe_op op_mul pe_int (pv 3))) (pv 7)) pe_int))
  (pss_one (ps_expr (pe_bm PySem.F.plainAttrs_list PySem.F.slot_list_append PySem.F.type_list_append mt_append (pv 6) (pa_cons (pe_op op_mul (pe_op op_sub (pe_op op_mod (pe_op op_fdiv (pv 3) pe_int) (pv 4)) pe_int) (pv 5)) pa_nil))))))
  (pss_one (ps_ret (pv 6))))))))))))

theorem ok_law_signs (T : Tx P w K mg base) (o_law_piece : Okf P w K mg base CX0 1 "_law_piece" ["_law_cell", "_law_ahead"] (sp_law_piece K)) : Okf P w K mg base CX0 2 "_law_signs" ["_law_cells"] (sp_law_signs K) := by
  obtain ⟨fd, FD⟩ := T.d_law_signs
  refine ⟨⟨fd, FunD.look FD, FD.bindsN fun _ _ _ _ _ _ us hl => match us, hl with | [_], _ => rfl, ?_⟩, FD.kp, T.g_law_signs⟩
  refine FunD.ok (CX := CX0) FD sc_law_signs (len_law_signs K) (fun cdv A outer s H vs Q E hr h => ⟨t_law_signs K, PSs.nox ?_, rd_law_signs K vs H Q E h⟩)
  exact (pss_cons (ps_set (i := 1) sc_law_signs.nd rfl (.inl rfl) (pe_lst pa_nil))
  (pss_cons (ps_for PassesOwn.never rfl (pi_list (pv 0)) (pg_name (i := 2) sc_law_signs.nd rfl (.inl rfl))
  (pss_one (ps_if (pt_cmpR op_lt (pe_callB call_lenK (by rfl) T.b_len (by decide +kernel) (pa_cons (pv 1) pa_nil)) pe_int (nomark _))
  (pss_one (ps_set (i := 1) sc_law_signs.nd rfl (.inl rfl) (pe_op op_cat (pv 1) (pe_callF o_law_piece hr (by decide) (by rfl) pass0 (pa_cons (pv 2) (pa_cons (pv 1) pa_nil))))))
  pss_nil)))
  (pss_one (ps_ret (pv 1)))))

theorem ok_law_look_law_told (T : Tx P w K mg base) : ∀ (j : Nat) (f : Addr) (cl : List (Str × Addr)) (c' : Addr), COk NdefX.FnO P w K mg base (max j 0 + 1) f (NdefX.NF.of st_law_look_law_told "_law_told" (("_law_look" ++ ".<locals>.") ++ "_law_told") cl c') ["_law_number"] ["_law_seen", "_law_blocks"] (sp_law_look_law_told K (Cal P w K mg base) j) := by
  intro j f cl c'
  refine cok_def (N := n_law_look_law_told) sc_law_look_law_told (fun _ _ _ us hl => match us, hl with | [_], _ => rfl) (len_law_look_law_told K (Cal P w K mg base) j) (fun A outer s H vs ws Q hr hl h => ⟨t_law_look_law_told K (Cal P w K mg base) j, PSs.nox ?_, rd_law_look_law_told K (Cal P w K mg base) j vs ws H Q h⟩)
  exact (pss_cons (ps_expr (pe_bm PySem.F.plainAttrs_list PySem.F.slot_list_append PySem.F.type_list_append mt_append (pv 1) (pa_cons (pv 0) pa_nil)))
  (pss_cons (ps_if (pt_chain op_le op_lt pe_int (pv 0) (pe_callB call_lenK (by rfl) T.b_len (by decide +kernel) (pa_cons (pv 2) pa_nil)))
  (pss_one (ps_ret (pe_ix ix_list (pv 2) (pv 0) (fun _ _ => rfl))))
  pss_nil)
  (pss_one (ps_ret pe_int))))
theorem ok_law_look (T : Tx P w K mg base) : Okf P w K mg base CX0 1 "_law_look" ["_law_blocks", "_law_seen"] (sp_law_look K (Cal P w K mg base)) := by
  obtain ⟨fd, FD⟩ := T.d_law_look
  refine ⟨⟨fd, FunD.look FD, FD.bindsN fun _ _ _ _ _ _ us hl => match us, hl with | [_, _], _ => rfl, ?_⟩, FD.kp, T.g_law_look⟩
  refine FunD.okC (pre := (defBody s_law_look).dropLast) (O := NdefX.FnO) (mkF := NdefX.NF.of st_law_look_law_told "_law_told" (("_law_look" ++ ".<locals>.") ++ "_law_told")) (nsc := C8.fnScope st_law_look_law_told) (js := [1, 0]) (fr := ["_law_seen", "_law_blocks"]) (psn := ["_law_number"]) (lv := 0) (N := n_law_look) FD rfl sc_law_look (len_law_look K (Cal P w K mg base)) (fun {f F} => ⟨_, rfl, fun h ⟨od, sl, doc, pm, ctv, q⟩ => ⟨_, _, _, _, q⟩⟩) (fun _ _ => rfl) sc_law_look_law_told.free (by decide +kernel) (by decide +kernel) (ok_law_look_law_told T)
    (fun c A outer s H vs Q E ec hr h => ?_) rfl
  subst ec
  refine ⟨tp_law_look K (tabP K "_law_look") _, te_law_look K (tabP K "_law_look") _, PSs.nox ?_, PE.nox ?_, fun G hG => rd_law_look K (Cal P w K mg base) (tabP K "_law_look") rfl _ vs H Q E h G hG⟩
  · exact (pss_one (ps_ndefC (st := st_law_look_law_told) (name := "_law_told") (i := 2) rfl T.tb_law_look rfl (by rfl) (NdefX.ndef_free (sc := defScope s_law_look) (nsc := C8.fnScope st_law_look_law_told) (fr := ["_law_seen", "_law_blocks"]) (by decide +kernel)) rfl rfl rfl sc_law_look.nd rfl (.inl rfl) (.inl rfl)))
  · exact (pv 2)

theorem ok_law_few (T : Tx P w K mg base) (o_law_whole : Okf P w K mg base CX0 1 "_law_whole" ["_law_found"] (sp_law_whole K)) : Okf P w K mg base CX0 2 "_law_few" ["_law_seen", "_law_size", "_law_most"] (sp_law_few K) := by
  obtain ⟨fd, FD⟩ := T.d_law_few
  refine ⟨⟨fd, FunD.look FD, FD.bindsN fun _ _ _ _ _ _ us hl => match us, hl with | [_, _, _], _ => rfl, ?_⟩, FD.kp, T.g_law_few⟩
  refine FunD.ok (CX := CX0) FD sc_law_few (len_law_few K) (fun cdv A outer s H vs Q E hr h => ⟨t_law_few K, PSs.nox ?_, rd_law_few K vs H Q E h⟩)
  exact (pss_cons (ps_for PassesOwn.never rfl (pi_list (pv 0)) (pg_name (i := 3) sc_law_few.nd rfl (.inl rfl))
  (pss_one (ps_if (PW.pt (pw_or (pt_not (pt_val (pe_callF o_law_whole hr (by decide) (by rfl) pass0 (pa_cons (pv 3) pa_nil)))) (pw_or (pt_cmpR op_lt (pv 3) pe_int (nomark _)) (pw_or1 (pt_cmpR op_ge (pv 3) (pv 1) (nomark _))))))
  (pss_one (ps_ret pe_bl))
  pss_nil)))
  (pss_one (ps_ret (pe_cmpR op_le (pe_lenSet (by rfl) T.b_len (by rfl) T.b_set (pv 0)) (pv 2) (nomark _)))))

theorem ok_law_sought (T : Tx P w K mg base) : Okf P w K mg base CX0 1 "_law_sought" ["_law_cell", "_law_signs_here"] (sp_law_sought K) := by
  obtain ⟨fd, FD⟩ := T.d_law_sought
  refine ⟨⟨fd, FunD.look FD, FD.bindsN fun _ _ _ _ _ _ us hl => match us, hl with | [_, _], _ => rfl, ?_⟩, FD.kp, T.g_law_sought⟩
  refine FunD.ok (CX := CX0) FD sc_law_sought (len_law_sought K) (fun cdv A outer s H vs Q E hr h => ⟨t_law_sought K, PSs.nox ?_, rd_law_sought K vs H Q E h⟩)
  exact (pss_cons (ps_set (i := 2) sc_law_sought.nd rfl (.inl rfl) (pe_op op_fdiv (pv 0) pe_int))
  (pss_cons (ps_if (PW.pt (pw_or (pt_cmpR op_lt (pe_op op_mod (pv 0) pe_int) pe_int (nomark _)) (pw_or1 (pt_cmpR op_eq (pe_callB call_lenK (by rfl) T.b_len (by decide +kernel) (pa_cons (pv 1) pa_nil)) pe_int (nomark _)))))
  (pss_one (ps_ret (pe_op op_sub (pe_op op_mod (pv 2) (pe_cst (pe_op op_add (pe_cst (pe_op op_mulW pe_int (pe_cst (pe_op op_pow pe_int pe_int) fun _ _ _ h => ⟨_, _, rfl, rfl, ⟨by decide, by decide, by decide⟩, h⟩)) fun _ _ _ h => ⟨_, _, rfl, rfl, (by unfold CMulW; decide +kernel), h⟩) pe_int) fun _ _ _ h => ⟨_, _, rfl, rfl, h⟩)) (pe_cst (pe_op op_mulW pe_int (pe_cst (pe_op op_pow pe_int pe_int) fun _ _ _ h => ⟨_, _, rfl, rfl, ⟨by decide, by decide, by decide⟩, h⟩)) fun _ _ _ h => ⟨_, _, rfl, rfl, (by unfold CMulW; decide +kernel), h⟩))))
  pss_nil)
  (pss_cons (ps_set (i := 3) sc_law_sought.nd rfl (.inl rfl) (pe_ix ix_list (pv 1) (pe_op op_mod (pv 2) (pe_callB call_lenK (by rfl) T.b_len (by decide +kernel) (pa_cons (pv 1) pa_nil))) (fun _ _ => rfl)))
  (pss_cons (ps_if (pt_cmpR op_eq (pe_op op_mod (pv 0) pe_int) pe_int (nomark _))
  (pss_one (ps_ret (pe_op op_sub (pv 3) pe_int)))
  pss_nil)
  (pss_one (ps_ret (pv 3)))))))

theorem ok_law_parts (T : Tx P w K mg base) (o_law_sought : Okf P w K mg base CX0 1 "_law_sought" ["_law_cell", "_law_signs_here"] (sp_law_sought K)) : Okf P w K mg base CX0 2 "_law_parts" ["_law_way", "_law_signs_here", "_law_cell"] (sp_law_parts K) := by
  obtain ⟨fd, FD⟩ := T.d_law_parts
  refine ⟨⟨fd, FunD.look FD, FD.bindsN fun _ _ _ _ _ _ us hl => match us, hl with | [_, _, _], _ => rfl, ?_⟩, FD.kp, T.g_law_parts⟩
  refine FunD.ok (CX := CX0) FD sc_law_parts (len_law_parts K) (fun cdv A outer s H vs Q E hr h => ⟨t_law_parts K, PSs.nox ?_, rd_law_parts K vs H Q E h⟩)
  exact (pss_cons (ps_set (i := 3) sc_law_parts.nd rfl (.inl rfl) (pe_callB call_lenK (by rfl) T.b_len (by decide +kernel) (pa_cons (pv 1) pa_nil)))
  (pss_cons (ps_set (i := 4) sc_law_parts.nd rfl (.inl rfl) (pe_op op_sub (pe_op op_mod (pe_op op_mod (pe_op op_mul (pv 2) pe_int) pe_int) (pe_op op_add (pv 3) pe_int)) pe_int))
  (pss_cons (ps_set (i := 5) sc_law_parts.nd rfl (.inl rfl) (pe_op op_sub (pe_op op_mod (pe_op op_mod (pe_op op_mul (pv 2) pe_int) pe_int) (pe_op op_add (pv 3) pe_int)) pe_int))
  (pss_cons (ps_if (pt_cmpR op_eq (pv 0) pe_int (nomark _))
  (pss_one (ps_ret (pe_tup (pa_cons (pv 4) pa_nil))))
  pss_nil)
  (pss_cons (ps_if (pt_cmpR op_eq (pv 0) pe_int (nomark _))
  (pss_one (ps_ret (pe_tup (pa_cons (pe_callF o_law_sought hr (by decide) (by rfl) pass0 (pa_cons (pv 2) (pa_cons (pv 1) pa_nil))) (pa_cons (pv 4) pa_nil)))))
  pss_nil)
  (pss_cons (ps_if (pt_cmpR op_eq (pv 0) pe_int (nomark _))
  (pss_one (ps_ret (pe_tup (pa_cons (pe_callF o_law_sought hr (by decide) (by rfl) pass0 (pa_cons (pv 2) (pa_cons (pv 1) pa_nil))) (pa_cons (pe_op op_sub (pe_op op_mod (pe_op op_mod (pe_op op_mul (pv 2) pe_int) pe_int) (pe_op op_add (pe_op op_fdiv (pv 3) pe_int) pe_int)) pe_int) pa_nil)))))
  pss_nil)
  (pss_cons (ps_set (i := 6) sc_law_parts.nd rfl (.inl rfl) (pe_callB (call_min2K rfl) (by rfl) T.b_min (by decide +kernel) (pa_cons (pv 4) (pa_cons (pv 5) pa_nil))))
  (pss_cons (ps_set (i := 7) sc_law_parts.nd rfl (.inl rfl) (pe_callB (call_max2K rfl) (by rfl) T.b_max (by decide +kernel) (pa_cons (pv 4) (pa_cons (pv 5) pa_nil))))
  (Evl.pss_cut (ps_if (pt_cmpR op_eq (pv 0) pe_int (nomark _))
  (pss_one (ps_set (i := 7) sc_law_parts.nd rfl (.inl rfl) (pe_callB (call_min2K rfl) (by rfl) T.b_min (by decide +kernel) (pa_cons (pv 7) (pa_cons (pe_op op_add (pv 6) pe_int) pa_nil)))))
  pss_nil)
  (Evl.pss_cut (ps_if (pt_cmpR op_eq (pe_op op_mod (pe_op op_mod (pe_op op_mul (pv 2) pe_int) pe_int) pe_int) pe_int (nomark _))
  (pss_one (ps_par rfl sc_law_parts.nd rfl rfl (by decide) rfl rfl (pa_cons (pv 7) (pa_cons (pv 6) pa_nil)) (by rfl)))
  pss_nil)
  (pss_cons (ps_if (pt_cmpR op_eq (pv 0) pe_int (nomark _))
  (pss_one (ps_ret (pe_tup (pa_cons (pv 6) (pa_cons (pv 7) (pa_cons (pe_callF o_law_sought hr (by decide) (by rfl) pass0 (pa_cons (pv 2) (pa_cons (pv 1) pa_nil))) (pa_cons (pe_callF o_law_sought hr (by decide) (by rfl) pass0 (pa_cons (pe_op op_mod (pe_op op_mul (pv 2) pe_int) pe_int) (pa_cons (pv 1) pa_nil))) pa_nil)))))))
  pss_nil)
  (pss_cons (ps_if (pt_cmpR op_eq (pv 0) pe_int (nomark _))
  (pss_one (ps_ret (pe_tup (pa_cons (pv 6) (pa_cons (pv 7) (pa_cons (pe_op op_sub (pe_op op_mod (pe_op op_mod (pe_op op_mul (pv 2) pe_int) pe_int) (pe_op op_add (pe_callB call_abs (by rfl) T.b_abs (by decide +kernel) (pa_cons (pe_op op_sub (pv 7) (pv 6)) pa_nil)) pe_int)) pe_int) pa_nil))))))
  pss_nil)
  (pss_one (ps_ret (pe_tup (pa_cons (pv 6) (pa_cons (pv 7) pa_nil)))))))))))))))))

theorem ok_law_due (T : Tx P w K mg base) : Okf P w K mg base CX0 1 "_law_due" ["_law_way", "_law_signs_here", "_law_parts_here"] (sp_law_due K) := by
  obtain ⟨fd, FD⟩ := T.d_law_due
  refine ⟨⟨fd, FunD.look FD, FD.bindsN fun _ _ _ _ _ _ us hl => match us, hl with | [_, _, _], _ => rfl, ?_⟩, FD.kp, T.g_law_due⟩
  refine FunD.ok (CX := CX0) FD sc_law_due (len_law_due K) (fun cdv A outer s H vs Q E hr h => ⟨t_law_due K, PSs.nox ?_, rd_law_due K vs H Q E h⟩)
  exact (pss_cons (ps_if (pt_cmpR op_eq (pv 0) pe_int (nomark _))
  (pss_one (ps_ret (pe_lc (own := [("_law_at", 3)]) (g := (gName 3)) (tt := (tTest (tOp rEq (tVar 3) (tOp (rIxT K) (tVar 2) (tC (.int 0)))))) rfl sc_law_due.nd (pi_range1 (by rfl) T.b_range (pa_cons (pe_callB call_lenK (by rfl) T.b_len (by decide +kernel) (pa_cons (pv 1) pa_nil)) pa_nil)) (blkOk_by (N := ["_law_way", "_law_signs_here", "_law_parts_here", "_law_at", "_law_one", "_law_places", "_law_k", "_law_part", "_law_two"]) (sc := defScope s_law_due) (own := [("_law_at", 3)]) (by decide +kernel)) (fun _ _ _ _ _ => (pg_name (i := 3) sc_law_due.nd rfl (.inl rfl))) (fun _ _ _ _ _ => (pts_one (pt_cmpR op_eq (pv 3) (pe_ix ix_tup (pv 2) pe_int (fun _ _ => rfl)) (nomark _)))) (fun _ _ _ _ _ => (pe_ix ix_list (pv 1) (pv 3) (fun _ _ => rfl))))))
  pss_nil)
  (pss_cons (ps_if (pt_cmpR op_eq (pv 0) pe_int (nomark _))
  (pss_cons (ps_if (PW.pt (pw_or (pt_cmpR op_lt (pe_ix ix_tup (pv 2) pe_int (fun _ _ => rfl)) pe_int (nomark _)) (pw_or1 (pt_cmpR op_gt (pe_ix ix_tup (pv 2) pe_int (fun _ _ => rfl)) (pe_callB call_lenK (by rfl) T.b_len (by decide +kernel) (pa_cons (pv 1) pa_nil)) (nomark _)))))
  (pss_one (ps_ret (pe_lst pa_nil)))
  pss_nil)
  (pss_one (ps_ret (pe_lst (pa_cons (pe_callB call_lenK (by rfl) T.b_len (by decide +kernel) (pa_cons (pe_lc (own := [("_law_one", 4)]) (g := (gName 4)) (tt := (tTest (tOp rEq (tVar 4) (tOp (rIxT K) (tVar 2) (tC (.int 0)))))) rfl sc_law_due.nd (pi_list (pe_slice sl_list (pv 1) po_none (po_some (pe_ix ix_tup (pv 2) pe_int (fun _ _ => rfl))))) (blkOk_by (N := ["_law_way", "_law_signs_here", "_law_parts_here", "_law_at", "_law_one", "_law_places", "_law_k", "_law_part", "_law_two"]) (sc := defScope s_law_due) (own := [("_law_one", 4)]) (by decide +kernel)) (fun _ _ _ _ _ => (pg_name (i := 4) sc_law_due.nd rfl (.inl rfl))) (fun _ _ _ _ _ => (pts_one (pt_cmpR op_eq (pv 4) (pe_ix ix_tup (pv 2) pe_int (fun _ _ => rfl)) (nomark _)))) (fun _ _ _ _ _ => (pv 4))) pa_nil)) pa_nil)))))
  pss_nil)
  (pss_cons (ps_if (pt_cmpR op_eq (pv 0) pe_int (nomark _))
  (pss_cons (ps_set (i := 5) sc_law_due.nd rfl (.inr rfl) (pe_lc (own := [("_law_at", 3)]) (g := (gName 3)) (tt := (tTest (tOp rEq (tOp (rIxL K) (tVar 1) (tVar 3)) (tOp (rIxT K) (tVar 2) (tC (.int 0)))))) rfl sc_law_due.nd (pi_range1 (by rfl) T.b_range (pa_cons (pe_callB call_lenK (by rfl) T.b_len (by decide +kernel) (pa_cons (pv 1) pa_nil)) pa_nil)) (blkOk_by (N := ["_law_way", "_law_signs_here", "_law_parts_here", "_law_at", "_law_one", "_law_places", "_law_k", "_law_part", "_law_two"]) (sc := defScope s_law_due) (own := [("_law_at", 3)]) (by decide +kernel)) (fun _ _ _ _ _ => (pg_name (i := 3) sc_law_due.nd rfl (.inl rfl))) (fun _ _ _ _ _ => (pts_one (pt_cmpR op_eq (pe_ix ix_list (pv 1) (pv 3) (fun _ _ => rfl)) (pe_ix ix_tup (pv 2) pe_int (fun _ _ => rfl)) (nomark _)))) (fun _ _ _ _ _ => (pv 3))))
  (pss_one (ps_ret (pe_lc (own := [("_law_k", 6)]) (g := (gName 6)) (tt := (tTest (tOp rEq (tVar 6) (tOp (rIxT K) (tVar 2) (tC (.int 1)))))) rfl sc_law_due.nd (pi_range1 (by rfl) T.b_range (pa_cons (pe_callB call_lenK (by rfl) T.b_len (by decide +kernel) (pa_cons (pv 5) pa_nil)) pa_nil)) (blkOk_by (N := ["_law_way", "_law_signs_here", "_law_parts_here", "_law_at", "_law_one", "_law_places", "_law_k", "_law_part", "_law_two"]) (sc := defScope s_law_due) (own := [("_law_k", 6)]) (by decide +kernel)) (fun _ _ _ _ _ => (pg_name (i := 6) sc_law_due.nd rfl (.inl rfl))) (fun _ _ _ _ _ => (pts_one (pt_cmpR op_eq (pv 6) (pe_ix ix_tup (pv 2) pe_int (fun _ _ => rfl)) (nomark _)))) (fun _ _ _ _ _ => (pe_ix ix_list (pv 5) (pv 6) (fun _ _ => rfl)))))))
  pss_nil)
  (pss_cons (ps_if (PW.pt (pw_or (pt_cmpR op_lt (pe_ix ix_tup (pv 2) pe_int (fun _ _ => rfl)) pe_int (nomark _)) (pw_or (pt_cmpR op_gt (pe_ix ix_tup (pv 2) pe_int (fun _ _ => rfl)) (pe_ix ix_tup (pv 2) pe_int (fun _ _ => rfl)) (nomark _)) (pw_or1 (pt_cmpR op_gt (pe_ix ix_tup (pv 2) pe_int (fun _ _ => rfl)) (pe_callB call_lenK (by rfl) T.b_len (by decide +kernel) (pa_cons (pv 1) pa_nil)) (nomark _))))))
  (pss_one (ps_ret (pe_lst pa_nil)))
  pss_nil)
  (pss_cons (ps_set (i := 7) sc_law_due.nd rfl (.inr rfl) (pe_callB cr_sortedI (by rfl) T.b_sorted (by decide +kernel) (pa_cons (pe_slice sl_list (pv 1) (po_some (pe_ix ix_tup (pv 2) pe_int (fun _ _ => rfl))) (po_some (pe_ix ix_tup (pv 2) pe_int (fun _ _ => rfl)))) pa_nil)))
  (pss_cons (ps_if (pt_cmpR op_eq (pv 0) pe_int (nomark _))
  (pss_one (ps_ret (pe_lst (pa_cons (pe_callB call_lenK (by rfl) T.b_len (by decide +kernel) (pa_cons (pe_lc (own := [("_law_one", 4)]) (g := (gName 4)) (tt := (tTest (tChain rLe rLt (tOp (rIxT K) (tVar 2) (tC (.int 2))) (tVar 4) (tOp (rIxT K) (tVar 2) (tC (.int 3)))))) rfl sc_law_due.nd (pi_list (pv 7)) (blkOk_by (N := ["_law_way", "_law_signs_here", "_law_parts_here", "_law_at", "_law_one", "_law_places", "_law_k", "_law_part", "_law_two"]) (sc := defScope s_law_due) (own := [("_law_one", 4)]) (by decide +kernel)) (fun _ _ _ _ _ => (pg_name (i := 4) sc_law_due.nd rfl (.inl rfl))) (fun _ _ _ _ _ => (pts_one (pt_chain op_le op_lt (pe_ix ix_tup (pv 2) pe_int (fun _ _ => rfl)) (pv 4) (pe_ix ix_tup (pv 2) pe_int (fun _ _ => rfl))))) (fun _ _ _ _ _ => (pv 4))) pa_nil)) pa_nil))))
  pss_nil)
  (pss_cons (ps_if (pt_cmpR op_eq (pv 0) pe_int (nomark _))
  (pss_one (ps_ret (pe_lc (own := [("_law_k", 6)]) (g := (gName 6)) (tt := (tTest (tOp rEq (tVar 6) (tOp (rIxT K) (tVar 2) (tC (.int 2)))))) rfl sc_law_due.nd (pi_range1 (by rfl) T.b_range (pa_cons (pe_callB call_lenK (by rfl) T.b_len (by decide +kernel) (pa_cons (pv 7) pa_nil)) pa_nil)) (blkOk_by (N := ["_law_way", "_law_signs_here", "_law_parts_here", "_law_at", "_law_one", "_law_places", "_law_k", "_law_part", "_law_two"]) (sc := defScope s_law_due) (own := [("_law_k", 6)]) (by decide +kernel)) (fun _ _ _ _ _ => (pg_name (i := 6) sc_law_due.nd rfl (.inl rfl))) (fun _ _ _ _ _ => (pts_one (pt_cmpR op_eq (pv 6) (pe_ix ix_tup (pv 2) pe_int (fun _ _ => rfl)) (nomark _)))) (fun _ _ _ _ _ => (pe_ix ix_list (pv 7) (pv 6) (fun _ _ => rfl))))))
  pss_nil)
  (pss_one (ps_ret (pe_lst (pa_cons (pe_lc (own := [("_law_one", 4)]) (g := (gName 4)) (tt := tYes) rfl sc_law_due.nd (pi_list (pe_sortSet (by rfl) T.b_sorted (by rfl) T.b_set (pv 7))) (blkOk_by (N := ["_law_way", "_law_signs_here", "_law_parts_here", "_law_at", "_law_one", "_law_places", "_law_k", "_law_part", "_law_two"]) (sc := defScope s_law_due) (own := [("_law_one", 4)]) (by decide +kernel)) (fun _ _ _ _ _ => (pg_name (i := 4) sc_law_due.nd rfl (.inr rfl))) (fun _ _ _ _ _ => pts_nil) (fun _ _ _ _ _ => (pe_tup (pa_cons (pv 4) (pa_cons (pe_callB call_lenK (by rfl) T.b_len (by decide +kernel) (pa_cons (pe_lc (own := [("_law_two", 8)]) (g := (gName 8)) (tt := (tTest (tOp rEq (tVar 8) (tVar 4)))) rfl sc_law_due.nd (pi_list (pv 7)) (blkOk_by (N := ["_law_way", "_law_signs_here", "_law_parts_here", "_law_at", "_law_one", "_law_places", "_law_k", "_law_part", "_law_two"]) (own := [("_law_two", 8)]) (by kernel_rfl)) (fun _ _ _ _ _ => (pg_name (i := 8) sc_law_due.nd rfl (.inl rfl))) (fun _ _ _ _ _ => (pts_one (pt_cmpR op_eq (pv 8) (pv 4) (nomark _)))) (fun _ _ _ _ _ => (pv 8))) pa_nil)) pa_nil))))) pa_nil)))))))))))

theorem ok_law_answer (T : Tx P w K mg base) (o_sign_at : Okf P w K mg base (L2.CX P w) 15 "sign_at" ["tables", "look", "at"] (sp_sign_at K (Cal P w K mg base))) (o_signs_ahead : Okf P w K mg base (L2.CX P w) 19 "signs_ahead" ["tables", "look", "sign", "at"] (sp_signs_ahead K (Cal P w K mg base))) (o_sign_place : Okf P w K mg base (L2.CX P w) 19 "sign_place" ["tables", "look", "sign", "nth"] (sp_sign_place K (Cal P w K mg base))) (o_between : Okf P w K mg base (L2.CX P w) 19 "between" ["tables", "look", "start", "stop", "low", "high"] (sp_between K (Cal P w K mg base))) (o_so_manieth : Okf P w K mg base (L2.CX P w) 17 "so_manieth" ["tables", "look", "start", "stop", "nth"] (sp_so_manieth K (Cal P w K mg base))) (o_unlike : Okf P w K mg base (L2.CX P w) 17 "unlike" ["tables", "look", "start", "stop"] (sp_unlike K (Cal P w K mg base))) : Okf P w K mg base (L2.CX P w) 21 "_law_answer" ["_law_way", "_law_tables", "_law_look_here", "_law_parts_here"] (sp_law_answer K (Cal P w K mg base)) := by
  obtain ⟨fd, FD⟩ := T.d_law_answer
  refine ⟨⟨fd, FunD.look FD, FD.bindsN fun _ _ _ _ _ _ us hl => match us, hl with | [_, _, _, _], _ => rfl, ?_⟩, FD.kp, T.g_law_answer⟩
  refine FunD.ok (CX := (L2.CX P w)) FD sc_law_answer (len_law_answer K (Cal P w K mg base)) (fun cdv A outer s H vs Q E hr h => ⟨t_law_answer K (Cal P w K mg base) E, ?_, rd_law_answer K (Cal P w K mg base) vs H Q E h⟩)
  exact (pss_cons (ps_if (pt_cmpR op_eq (pv 0) pe_int (nomark _))
  (pss_one (ps_ret (pe_callF o_sign_at hr (by decide) (by rfl) (passX (takes_of rfl rfl rfl rfl)) (pa_cons (pv 1) (pa_cons (pv 2) (pa_cons (pe_ix ix_tup (pv 3) pe_int (fun _ _ => rfl)) pa_nil))))))
  pss_nil)
  (pss_cons (ps_if (pt_cmpR op_eq (pv 0) pe_int (nomark _))
  (pss_one (ps_ret (pe_callF o_signs_ahead hr (by decide) (by rfl) (passX (takes_of rfl rfl rfl rfl)) (pa_cons (pv 1) (pa_cons (pv 2) (pa_cons (pe_ix ix_tup (pv 3) pe_int (fun _ _ => rfl)) (pa_cons (pe_ix ix_tup (pv 3) pe_int (fun _ _ => rfl)) pa_nil)))))))
  pss_nil)
  (pss_cons (ps_if (pt_cmpR op_eq (pv 0) pe_int (nomark _))
  (pss_one (ps_ret (pe_callF o_sign_place hr (by decide) (by rfl) (passX (takes_of rfl rfl rfl rfl)) (pa_cons (pv 1) (pa_cons (pv 2) (pa_cons (pe_ix ix_tup (pv 3) pe_int (fun _ _ => rfl)) (pa_cons (pe_ix ix_tup (pv 3) pe_int (fun _ _ => rfl)) pa_nil)))))))
  pss_nil)
  (pss_cons (ps_if (pt_cmpR op_eq (pv 0) pe_int (nomark _))
  (pss_one (ps_ret (pe_callF o_between hr (by decide) (by rfl) (passX (takes_of rfl rfl rfl rfl)) (pa_cons (pv 1) (pa_cons (pv 2) (pa_cons (pe_ix ix_tup (pv 3) pe_int (fun _ _ => rfl)) (pa_cons (pe_ix ix_tup (pv 3) pe_int (fun _ _ => rfl)) (pa_cons (pe_ix ix_tup (pv 3) pe_int (fun _ _ => rfl)) (pa_cons (pe_ix ix_tup (pv 3) pe_int (fun _ _ => rfl)) pa_nil)))))))))
  pss_nil)
  (pss_cons (ps_if (pt_cmpR op_eq (pv 0) pe_int (nomark _))
  (pss_one (ps_ret (pe_callF o_so_manieth hr (by decide) (by rfl) (passX (takes_of rfl rfl rfl rfl)) (pa_cons (pv 1) (pa_cons (pv 2) (pa_cons (pe_ix ix_tup (pv 3) pe_int (fun _ _ => rfl)) (pa_cons (pe_ix ix_tup (pv 3) pe_int (fun _ _ => rfl)) (pa_cons (pe_ix ix_tup (pv 3) pe_int (fun _ _ => rfl)) pa_nil))))))))
  pss_nil)
  (pss_one (ps_ret (pe_callF o_unlike hr (by decide) (by rfl) (passX (takes_of rfl rfl rfl rfl)) (pa_cons (pv 1) (pa_cons (pv 2) (pa_cons (pe_ix ix_tup (pv 3) pe_int (fun _ _ => rfl)) (pa_cons (pe_ix ix_tup (pv 3) pe_int (fun _ _ => rfl)) pa_nil))))))))))))

theorem ok_law_told (T : Tx P w K mg base) (o_law_answer : Okf P w K mg base (L2.CX P w) 21 "_law_answer" ["_law_way", "_law_tables", "_law_look_here", "_law_parts_here"] (sp_law_answer K (Cal P w K mg base))) : Okf P w K mg base CX0 22 "_law_told" ["_law_way", "_law_tables", "_law_look_here", "_law_parts_here"] (sp_law_told K (Cal P w K mg base)) := by
  obtain ⟨fd, FD⟩ := T.d_law_told
  refine ⟨⟨fd, FunD.look FD, FD.bindsN fun _ _ _ _ _ _ us hl => match us, hl with | [_, _, _, _], _ => rfl, ?_⟩, FD.kp, T.g_law_told⟩
  refine FunD.ok (CX := CX0) FD sc_law_told (len_law_told K (Cal P w K mg base)) (fun cdv A outer s H vs Q E hr h => ⟨t_law_told K (Cal P w K mg base), PSs.nox ?_, rd_law_told K (Cal P w K mg base) T.fx vs H Q E h⟩)
  exact (pss_cons (ps_set (i := 4) sc_law_told.nd rfl (.inl rfl) (pe_lst pa_nil))
  (pss_cons (ps_try_only (tb := fun W => (tAsg (tLst (tCons (tCallS (sp_law_answer K (Cal P w K mg base)) (WE W) (tCons (tVar 0) (tCons (tVar 1) (tCons (tVar 2) (tCons (tVar 3) tNil))))) tNil)) (gName 4))) (ts := fun a cls d => (tAsg (tLst tNil) (gName 4))) (Wout := (fun _ _ _ _ => False)) rfl rfl ⟨rfl, by decide, .inl T.g_NoPlace⟩ takes0 (fun W pn xe tk po => (pss_one (ps_set (i := 4) sc_law_told.nd rfl (.inl rfl) (pe_lst (pa_cons (pe_callFS o_law_answer hr (by decide) (by rfl) tk (pa_cons (pv 0) (pa_cons (pv 1) (pa_cons (pv 2) (pa_cons (pv 3) pa_nil))))) pa_nil))))) (fun a oe cls d pn hz hf => (pss_one (ps_set (i := 4) sc_law_told.nd rfl (.inl rfl) (pe_lst pa_nil)))))
  (pss_one (ps_ret (pv 4)))))

theorem ok_law_alike (T : Tx P w K mg base) (o_law_whole : Okf P w K mg base CX0 1 "_law_whole" ["_law_found"] (sp_law_whole K)) : Okf P w K mg base CX0 2 "_law_alike" ["_law_found", "_law_due_here"] (sp_law_alike K) := by
  obtain ⟨fd, FD⟩ := T.d_law_alike
  refine ⟨⟨fd, FunD.look FD, FD.bindsN fun _ _ _ _ _ _ us hl => match us, hl with | [_, _], _ => rfl, ?_⟩, FD.kp, T.g_law_alike⟩
  refine FunD.ok (CX := CX0) FD sc_law_alike (len_law_alike K) (fun cdv A outer s H vs Q E hr h => ⟨t_law_alike K, PSs.nox ?_, rd_law_alike K vs H Q E h⟩)
  exact (pss_cons (ps_if (pt_not (pt_val (pe_callB call_isB (by rfl) T.b_isinstance (by decide +kernel) (pa_cons (pv 1) (pa_cons (pe_bltn (v := .ty "list") (by rfl) T.b_list (by decide +kernel) rfl) pa_nil)))))
  (pss_one (ps_ret (pe_and (pe_callF o_law_whole hr (by decide) (by rfl) pass0 (pa_cons (pv 0) pa_nil)) (pe_one (pe_cmpR (op_eqD hr.units) (pv 0) (pv 1) (nomark _))))))
  pss_nil)
  (pss_cons (ps_if (PW.pt (pw_or (pt_not (pt_val (pe_callB call_isB (by rfl) T.b_isinstance (by decide +kernel) (pa_cons (pv 0) (pa_cons (pe_bltn (v := .ty "list") (by rfl) T.b_list (by decide +kernel) rfl) pa_nil))))) (pw_or1 (pt_cmpR op_ne (pe_callB call_lenK (by rfl) T.b_len (by decide +kernel) (pa_cons (pv 0) pa_nil)) (pe_callB call_lenK (by rfl) T.b_len (by decide +kernel) (pa_cons (pv 1) pa_nil)) (nomark _)))))
  (pss_one (ps_ret pe_bl))
  pss_nil)
  (pss_cons (ps_for PassesOwn.never rfl (pi_zip (by rfl) T.b_zip (pa_cons (pv 0) (pa_cons (pv 1) pa_nil))) (pg_tup rfl (pgs_cons (pg_name (i := 2) sc_law_alike.nd rfl (.inl rfl)) (pgs_cons (pg_name (i := 3) sc_law_alike.nd rfl (.inl rfl)) pgs_nil)))
  (pss_cons (ps_if (PW.pt (pw_or (pt_not (pt_val (pe_callB call_isB (by rfl) T.b_isinstance (by decide +kernel) (pa_cons (pv 2) (pa_cons (pe_bltn (v := .ty "tuple") (by rfl) T.b_tuple (by decide +kernel) rfl) pa_nil))))) (pw_or (pt_cmpR op_ne (pe_callB call_lenK (by rfl) T.b_len (by decide +kernel) (pa_cons (pv 2) pa_nil)) pe_int (nomark _)) (pw_or (pt_not (pt_val (pe_callF o_law_whole hr (by decide) (by rfl) pass0 (pa_cons (pe_ix ix_tup (pv 2) pe_int (fun _ _ => rfl)) pa_nil)))) (pw_or1 (pt_not (pt_val (pe_callF o_law_whole hr (by decide) (by rfl) pass0 (pa_cons (pe_ix ix_tup (pv 2) pe_int (fun _ _ => rfl)) pa_nil)))))))))
  (pss_one (ps_ret pe_bl))
  pss_nil)
  (pss_one (ps_if (pt_cmpR (op_neD hr.units) (pv 2) (pv 3) (nomark _))
  (pss_one (ps_ret pe_bl))
  pss_nil))))
  (pss_one (ps_ret pe_bl)))))

theorem ok_law_one_good (T : Tx P w K mg base) (o_law_parts : Okf P w K mg base CX0 2 "_law_parts" ["_law_way", "_law_signs_here", "_law_cell"] (sp_law_parts K)) (o_law_due : Okf P w K mg base CX0 1 "_law_due" ["_law_way", "_law_signs_here", "_law_parts_here"] (sp_law_due K)) (o_law_told : Okf P w K mg base CX0 22 "_law_told" ["_law_way", "_law_tables", "_law_look_here", "_law_parts_here"] (sp_law_told K (Cal P w K mg base))) (o_law_look : Okf P w K mg base CX0 1 "_law_look" ["_law_blocks", "_law_seen"] (sp_law_look K (Cal P w K mg base))) (o_law_alike : Okf P w K mg base CX0 2 "_law_alike" ["_law_found", "_law_due_here"] (sp_law_alike K)) (o_law_few : Okf P w K mg base CX0 2 "_law_few" ["_law_seen", "_law_size", "_law_most"] (sp_law_few K)) : Okf P w K mg base CX0 23 "_law_one_good" ["_law_row", "_law_cell"] (sp_law_one_good K (Cal P w K mg base)) := by
  obtain ⟨fd, FD⟩ := T.d_law_one_good
  refine ⟨⟨fd, FunD.look FD, FD.bindsN fun _ _ _ _ _ _ us hl => match us, hl with | [_, _], _ => rfl, ?_⟩, FD.kp, T.g_law_one_good⟩
  refine FunD.ok (CX := CX0) FD sc_law_one_good (len_law_one_good K (Cal P w K mg base)) (fun cdv A outer s H vs Q E hr h => ⟨t_law_one_good K (Cal P w K mg base), PSs.nox ?_, rd_law_one_good K (Cal P w K mg base) vs H Q E h⟩)
  exact (pss_cons (ps_set (i := 2) sc_law_one_good.nd rfl (.inl rfl) (pe_ix ix_tup (pv 0) pe_int (fun _ _ => rfl)))
  (pss_cons (ps_set (i := 3) sc_law_one_good.nd rfl (.inl rfl) (pe_op op_mod (pe_op op_mul (pv 1) pe_int) pe_int))
  (pss_cons (ps_set (i := 4) sc_law_one_good.nd rfl (.inl rfl) (pe_op op_mod (pv 3) pe_int))
  (pss_cons (ps_set (i := 5) sc_law_one_good.nd rfl (.inl rfl) (pe_callF o_law_parts hr (by decide) (by rfl) pass0 (pa_cons (pv 4) (pa_cons (pv 2) (pa_cons (pv 1) pa_nil)))))
  (pss_cons (ps_set (i := 6) sc_law_one_good.nd rfl (.inl rfl) (pe_callF o_law_due hr (by decide) (by rfl) pass0 (pa_cons (pv 4) (pa_cons (pv 2) (pa_cons (pv 5) pa_nil)))))
  (pss_cons (ps_set (i := 7) sc_law_one_good.nd rfl (.inl rfl) (pe_lst pa_nil))
  (pss_cons (ps_set (i := 8) sc_law_one_good.nd rfl (.inl rfl) (pe_callF o_law_told hr (by decide) (by rfl) pass0 (pa_cons (pv 4) (pa_cons (pe_ix ix_tup (pv 0) pe_int (fun _ _ => rfl)) (pa_cons (pe_callF o_law_look hr (by decide) (by rfl) pass0 (pa_cons (pe_ix ix_tup (pv 0) pe_int (fun _ _ => rfl)) (pa_cons (pv 7) pa_nil))) (pa_cons (pv 5) pa_nil))))))
  (pss_cons (ps_if (pt_cmpR op_ne (pe_callB call_lenK (by rfl) T.b_len (by decide +kernel) (pa_cons (pv 8) pa_nil)) (pe_callB call_lenK (by rfl) T.b_len (by decide +kernel) (pa_cons (pv 6) pa_nil)) (nomark _))
  (pss_one (ps_ret pe_bl))
  pss_nil)
  (pss_cons (ps_if (pt_cmpR (op_eqD hr.units) (pv 6) (pe_lst pa_nil) (nomark _))
  (pss_one (ps_ret pe_bl))
  pss_nil)
  (pss_cons (ps_set (i := 9) sc_law_one_good.nd rfl (.inl rfl) (pe_callB call_lenK (by rfl) T.b_len (by decide +kernel) (pa_cons (pe_ix ix_tup (pe_ix ix_tup (pv 0) pe_int (fun _ _ => rfl)) pe_int (fun _ _ => rfl)) pa_nil)))
  (pss_cons (ps_set (i := 10) sc_law_one_good.nd rfl (.inl rfl) (pe_op op_mul (pe_ix ix_list (pe_lst (pa_cons pe_int (pa_cons pe_int (pa_cons pe_int (pa_cons pe_int (pa_cons pe_int (pa_cons pe_int pa_nil))))))) (pv 4) (fun _ _ => rfl)) (pv 9)))
  (Evl.pss_cut (ps_if (pt_cmpR op_eq (pv 4) pe_int (nomark _))
  (pss_one (ps_set (i := 10) sc_law_one_good.nd rfl (.inl rfl) (pe_op op_mul (pv 10) (pe_callB call_lenK (by rfl) T.b_len (by decide +kernel) (pa_cons (pe_ix ix_list (pv 6) pe_int (fun _ _ => rfl)) pa_nil)))))
  pss_nil)
  (pss_one (ps_ret (pe_and (pe_callF o_law_alike hr (by decide) (by rfl) pass0 (pa_cons (pe_ix ix_list (pv 8) pe_int (fun _ _ => rfl)) (pa_cons (pe_ix ix_list (pv 6) pe_int (fun _ _ => rfl)) pa_nil))) (pe_one (pe_callF o_law_few hr (by decide) (by rfl) pass0 (pa_cons (pv 7) (pa_cons (pe_callB call_lenK (by rfl) T.b_len (by decide +kernel) (pa_cons (pe_ix ix_tup (pv 0) pe_int (fun _ _ => rfl)) pa_nil)) (pa_cons (pv 10) pa_nil))))))))))))))))))))

theorem ok_law (T : Tx P w K mg base) (o_law_signs : Okf P w K mg base CX0 2 "_law_signs" ["_law_cells"] (sp_law_signs K)) (o_kept_signs : Okf P w K mg base (L2.CX P w) 6 "kept_signs" ["signs"] (sp_kept_signs K)) (o_law_one_good : Okf P w K mg base CX0 23 "_law_one_good" ["_law_row", "_law_cell"] (sp_law_one_good K (Cal P w K mg base))) : Okf P w K mg base CX0 24 "law" ["_law_script"] (sp_law K) := by
  obtain ⟨fd, FD⟩ := T.d_law
  refine ⟨⟨fd, FunD.look FD, FD.bindsN fun _ _ _ _ _ _ us hl => match us, hl with | [_], _ => rfl, ?_⟩, FD.kp, T.g_law⟩
  refine FunD.ok (CX := CX0) FD sc_law (len_law K) (fun cdv A outer s H vs Q E hr h => ⟨t_law K (Cal P w K mg base), PSs.nox ?_, rd_law K (Cal P w K mg base) vs H Q E h⟩)
  exact (pss_cons (ps_set (i := 1) sc_law.nd rfl (.inl rfl) (pe_slice sl_list (pv 0) po_none (po_some pe_int)))
  (pss_cons (ps_set (i := 2) sc_law.nd rfl (.inl rfl) (pe_lst pa_nil))
  (pss_cons (ps_for PassesOwn.never rfl (pi_list (pe_lst (pa_cons (pe_callF o_law_signs hr (by decide) (by rfl) pass0 (pa_cons (pe_slStep (by decide) (by decide) (pv 1)) pa_nil)) (pa_cons (pe_callF o_law_signs hr (by decide) (by rfl) pass0 (pa_cons (pe_slStep (by decide) (by decide) (pv 1)) pa_nil)) pa_nil)))) (pg_name (i := 3) sc_law.nd rfl (.inl rfl))
  (pss_cons (ps_set (i := 4) sc_law.nd rfl (.inl rfl) (pe_callTy call_listK (by rfl) T.b_list (by decide +kernel) (pa_cons (pv 3) pa_nil)))
  (pss_cons (ps_set (i := 5) sc_law.nd rfl (.inl rfl) (pe_callF o_kept_signs hr (by decide) (by rfl) passL (pa_cons (pv 4) pa_nil)))
  (pss_cons (ps_if (pt_cmpR (op_neD hr.units) (pv 4) (pv 3) (nomark _))
  (pss_one (ps_ret pe_bl))
  pss_nil)
  (pss_one (ps_expr (pe_bm PySem.F.plainAttrs_list PySem.F.slot_list_append PySem.F.type_list_append mt_append (pv 2) (pa_cons (pe_tup (pa_cons (pv 3) (pa_cons (pe_ix ix_tup (pv 5) pe_int (fun _ _ => rfl)) (pa_cons (pe_ix ix_tup (pv 5) pe_int (fun _ _ => rfl)) pa_nil)))) pa_nil))))))))
  (pss_cons (ps_for PassesOwn.never rfl (pi_list (pe_op op_cat (pv 1) (pe_revL (pe_slice sl_list (pv 1) po_none (po_some pe_int))))) (pg_name (i := 6) sc_law.nd rfl (.inl rfl))
  (pss_one (ps_if (pt_not (pt_val (pe_callF o_law_one_good hr (by decide) (by rfl) pass0 (pa_cons (pe_ix ix_list (pv 2) (pe_op op_mod (pe_op op_mod (pe_op op_mul (pv 6) pe_int) pe_int) pe_int) (fun _ _ => rfl)) (pa_cons (pv 6) pa_nil)))))
  (pss_one (ps_ret pe_bl))
  pss_nil)))
  (pss_one (ps_ret pe_bl))))))
end
def dd_packed : He.DefD := ⟨("packed", none), "packed", "packed", defArgs s_packed, defBody s_packed, defScope s_packed, [], []⟩
def dd_ones_in : He.DefD := ⟨("ones_in", none), "ones_in", "ones_in", defArgs s_ones_in, defBody s_ones_in, defScope s_ones_in, [], []⟩
def dd_one_in : He.DefD := ⟨("one_in", none), "one_in", "one_in", defArgs s_one_in, defBody s_one_in, defScope s_one_in, [], []⟩
def dd_ones_table : He.DefD := ⟨("ones_table", none), "ones_table", "ones_table", defArgs s_ones_table, defBody s_ones_table, defScope s_ones_table, [], []⟩
def dd_kept_row : He.DefD := ⟨("kept_row", none), "kept_row", "kept_row", defArgs s_kept_row, defBody s_kept_row, defScope s_kept_row, [], []⟩
def dd_bit_at : He.DefD := ⟨("bit_at", none), "bit_at", "bit_at", defArgs s_bit_at, defBody s_bit_at, defScope s_bit_at, [], []⟩
def dd_ones_at : He.DefD := ⟨("ones_at", none), "ones_at", "ones_at", defArgs s_ones_at, defBody s_ones_at, defScope s_ones_at, [], []⟩
def dd_noughts_at : He.DefD := ⟨("noughts_at", none), "noughts_at", "noughts_at", defArgs s_noughts_at, defBody s_noughts_at, defScope s_noughts_at, [], []⟩
def dd_bits_ahead : He.DefD := ⟨("bits_ahead", none), "bits_ahead", "bits_ahead", defArgs s_bits_ahead, defBody s_bits_ahead, defScope s_bits_ahead, [], []⟩
def dd_block_by : He.DefD := ⟨("block_by", none), "block_by", "block_by", defArgs s_block_by, defBody s_block_by, defScope s_block_by, [], []⟩
def dd_one_place : He.DefD := ⟨("one_place", none), "one_place", "one_place", defArgs s_one_place, defBody s_one_place, defScope s_one_place, [], []⟩
def dd_nought_place : He.DefD := ⟨("nought_place", none), "nought_place", "nought_place", defArgs s_nought_place, defBody s_nought_place, defScope s_nought_place, [], []⟩
def dd_levels_for : He.DefD := ⟨("levels_for", none), "levels_for", "levels_for", defArgs s_levels_for, defBody s_levels_for, defScope s_levels_for, [], []⟩
def dd_kept_signs : He.DefD := ⟨("kept_signs", none), "kept_signs", "kept_signs", defArgs s_kept_signs, defBody s_kept_signs, defScope s_kept_signs, [], []⟩
def dd_rank_of : He.DefD := ⟨("rank_of", none), "rank_of", "rank_of", defArgs s_rank_of, defBody s_rank_of, defScope s_rank_of, [], []⟩
def dd_level_row : He.DefD := ⟨("level_row", none), "level_row", "level_row", defArgs s_level_row, defBody s_level_row, defScope s_level_row, [], []⟩
def dd_bit_of : He.DefD := ⟨("bit_of", none), "bit_of", "bit_of", defArgs s_bit_of, defBody s_bit_of, defScope s_bit_of, [], []⟩
def dd_halves : He.DefD := ⟨("halves", none), "halves", "halves", defArgs s_halves, defBody s_halves, defScope s_halves, [], []⟩
def dd_behind_levels : He.DefD := ⟨("behind_levels", none), "behind_levels", "behind_levels", defArgs s_behind_levels, defBody s_behind_levels, defScope s_behind_levels, [], []⟩
def dd_sign_at : He.DefD := ⟨("sign_at", none), "sign_at", "sign_at", defArgs s_sign_at, defBody s_sign_at, defScope s_sign_at, [], []⟩
def dd_signs_ahead : He.DefD := ⟨("signs_ahead", none), "signs_ahead", "signs_ahead", defArgs s_signs_ahead, defBody s_signs_ahead, defScope s_signs_ahead, [], []⟩
def dd_sign_place : He.DefD := ⟨("sign_place", none), "sign_place", "sign_place", defArgs s_sign_place, defBody s_sign_place, defScope s_sign_place, [], []⟩
def dd_stretch_there : He.DefD := ⟨("stretch_there", none), "stretch_there", "stretch_there", defArgs s_stretch_there, defBody s_stretch_there, defScope s_stretch_there, [], []⟩
def dd_below : He.DefD := ⟨("below", none), "below", "below", defArgs s_below, defBody s_below, defScope s_below, [], []⟩
def dd_between : He.DefD := ⟨("between", none), "between", "between", defArgs s_between, defBody s_between, defScope s_between, [], []⟩
def dd_so_manieth : He.DefD := ⟨("so_manieth", none), "so_manieth", "so_manieth", defArgs s_so_manieth, defBody s_so_manieth, defScope s_so_manieth, [], []⟩
def dd_unlike : He.DefD := ⟨("unlike", none), "unlike", "unlike", defArgs s_unlike, defBody s_unlike, defScope s_unlike, [], []⟩
def dd_law_whole : He.DefD := ⟨("_law_whole", none), "_law_whole", "_law_whole", defArgs s_law_whole, defBody s_law_whole, defScope s_law_whole, [], []⟩
def dd_law_piece : He.DefD := ⟨("_law_piece", none), "_law_piece", "_law_piece", defArgs s_law_piece, defBody s_law_piece, defScope s_law_piece, [], []⟩
def dd_law_signs : He.DefD := ⟨("_law_signs", none), "_law_signs", "_law_signs", defArgs s_law_signs, defBody s_law_signs, defScope s_law_signs, [], []⟩
def dd_law_look : He.DefD := ⟨("_law_look", none), "_law_look", "_law_look", defArgs s_law_look, defBody s_law_look, defScope s_law_look, [], []⟩
def dd_law_few : He.DefD := ⟨("_law_few", none), "_law_few", "_law_few", defArgs s_law_few, defBody s_law_few, defScope s_law_few, [], []⟩
def dd_law_sought : He.DefD := ⟨("_law_sought", none), "_law_sought", "_law_sought", defArgs s_law_sought, defBody s_law_sought, defScope s_law_sought, [], []⟩
def dd_law_parts : He.DefD := ⟨("_law_parts", none), "_law_parts", "_law_parts", defArgs s_law_parts, defBody s_law_parts, defScope s_law_parts, [], []⟩
def dd_law_due : He.DefD := ⟨("_law_due", none), "_law_due", "_law_due", defArgs s_law_due, defBody s_law_due, defScope s_law_due, [], []⟩
def dd_law_answer : He.DefD := ⟨("_law_answer", none), "_law_answer", "_law_answer", defArgs s_law_answer, defBody s_law_answer, defScope s_law_answer, [], []⟩
def dd_law_told : He.DefD := ⟨("_law_told", none), "_law_told", "_law_told", defArgs s_law_told, defBody s_law_told, defScope s_law_told, [], []⟩
def dd_law_alike : He.DefD := ⟨("_law_alike", none), "_law_alike", "_law_alike", defArgs s_law_alike, defBody s_law_alike, defScope s_law_alike, [], []⟩
def dd_law_one_good : He.DefD := ⟨("_law_one_good", none), "_law_one_good", "_law_one_good", defArgs s_law_one_good, defBody s_law_one_good, defScope s_law_one_good, [], []⟩
def dd_law : He.DefD := ⟨("law", none), "law", "law", defArgs s_law, defBody s_law, defScope s_law, [], []⟩
def fnL : List He.DefD := [dd_packed, dd_ones_in, dd_one_in, dd_ones_table, dd_kept_row, dd_bit_at, dd_ones_at, dd_noughts_at, dd_bits_ahead, dd_block_by, dd_one_place, dd_nought_place, dd_levels_for, dd_kept_signs, dd_rank_of, dd_level_row, dd_bit_of, dd_halves, dd_behind_levels, dd_sign_at, dd_signs_ahead, dd_sign_place, dd_stretch_there, dd_below, dd_between, dd_so_manieth, dd_unlike, dd_law_whole, dd_law_piece, dd_law_signs, dd_law_look, dd_law_few, dd_law_sought, dd_law_parts, dd_law_due, dd_law_answer, dd_law_told, dd_law_alike, dd_law_one_good, dd_law]
def fxL : List Fx := [.excC "NoBit", .kitT "NoBit" "ValueError" true, .kit "NoBit" "NoBit" true, .exm "NoBit" "NoBit" true, .kit "NoBit" "NoPlace" false, .exm "NoBit" "NoPlace" false, .kit "NoBit" "NoSign" false, .exm "NoBit" "NoSign" false, .kit "NoBit" "TooMany" false, .exm "NoBit" "TooMany" false, .excC "NoPlace", .kitT "NoPlace" "ValueError" true, .kit "NoPlace" "NoBit" false, .exm "NoPlace" "NoBit" false, .kit "NoPlace" "NoPlace" true, .exm "NoPlace" "NoPlace" true, .kit "NoPlace" "NoSign" false, .exm "NoPlace" "NoSign" false, .kit "NoPlace" "TooMany" false, .exm "NoPlace" "TooMany" false, .excC "NoSign", .kitT "NoSign" "ValueError" true, .kit "NoSign" "NoBit" false, .exm "NoSign" "NoBit" false, .kit "NoSign" "NoPlace" false, .exm "NoSign" "NoPlace" false, .kit "NoSign" "NoSign" true, .exm "NoSign" "NoSign" true, .kit "NoSign" "TooMany" false, .exm "NoSign" "TooMany" false, .excC "TooMany", .kitT "TooMany" "ValueError" true, .kit "TooMany" "NoBit" false, .exm "TooMany" "NoBit" false, .kit "TooMany" "NoPlace" false, .exm "TooMany" "NoPlace" false, .kit "TooMany" "NoSign" false, .exm "TooMany" "NoSign" false, .kit "TooMany" "TooMany" true, .exm "TooMany" "TooMany" true]
def faL : List He.Fa := [.glo "packed", .glo "ones_in", .glo "one_in", .glo "ones_table", .glo "kept_row", .glo "bit_at", .glo "ones_at", .glo "noughts_at", .glo "bits_ahead", .glo "block_by", .glo "one_place", .glo "nought_place", .glo "levels_for", .glo "kept_signs", .glo "rank_of", .glo "level_row", .glo "bit_of", .glo "halves", .glo "behind_levels", .glo "sign_at", .glo "signs_ahead", .glo "sign_place", .glo "stretch_there", .glo "below", .glo "between", .glo "so_manieth", .glo "unlike", .glo "_law_whole", .glo "_law_piece", .glo "_law_signs", .glo "_law_look", .glo "_law_few", .glo "_law_sought", .glo "_law_parts", .glo "_law_due", .glo "_law_answer", .glo "_law_told", .glo "_law_alike", .glo "_law_one_good", .glo "law", .free "abs", .free "bool", .free "enumerate", .free "int", .free "isinstance", .free "len", .free "list", .free "max", .free "min", .free "range", .free "reversed", .free "set", .free "sorted", .free "sum", .free "tuple", .free "zip", .int "ALL" 4294967295, .int "FAR" 1000000000000000000000000000000000000000000000000000000000000, .int "MOST" 4096, .int "WIDE" 32, .exc "NoBit", .exc "NoPlace", .exc "NoSign", .exc "TooMany", .glo "NoBit", .glo "NoPlace", .glo "NoSign", .glo "TooMany"]
abbrev R : PySem.W.OpenRow := PySem.W.OpenLaw.row PySem.Challenge.rw_thinwood_k69_whole_signs
def tfL : List He.Defn := [("level_row", none), ("_law_look", none)]
def exB (K : PySem.W.Frag) : Bool := fxL.all fun f => f.ok K
abbrev hk : PySem.W.Hook := He.hookX 2 faL fnL [] tfL exB
def ob (s : PySem.W.SharedT) : He.AlX := He.obsX 2 faL fnL [] tfL exB (HandSHeadRun.getT s)
theorem ob_eq (s : PySem.W.SharedT) : ob s = hk.obs s.abs := He.obsX_eq (HandSHeadRun.getT_eq s)
def looseL : List PySem.Str := (["WoodError", "TooMany", "NoBit", "NoPlace", "NoSign", "WIDE", "MOST", "packed", "ones_in", "one_in", "ALL", "ones_table", "kept_row", "bit_at", "ones_at", "noughts_at", "bits_ahead", "block_by", "one_place", "nought_place", "FAR", "levels_for", "kept_signs", "rank_of", "level_row", "bit_of", "halves", "behind_levels", "sign_at", "signs_ahead"] : List PySem.Str) ++ (["sign_place", "stretch_there", "below", "between", "so_manieth", "unlike", "_law_whole", "_law_piece", "_law_signs", "_law_look", "_law_few", "_law_sought", "_law_parts", "_law_due", "_law_answer", "_law_told", "_law_alike", "_law_one_good"] : List PySem.Str)
theorem run (w : World) : HandSHeadRun.RunEq R (PySem.W.view R.prog [53]) hk ob 20000 looseL w := by
  intro os
  kernel_rfl
theorem tx_of {P : Program} {w : World} {K : PySem.W.Frag} {h : Heap} {mg : Str → Option Value} (X : K.In h) (G : h.Ns mainGlobals mg) (c : He.SaysD faL fnL K) (cx : exB K = true) (base : Heap) (TB : ∀ p ∈ tfL.map (He.cT K), LamX.TabB base mg p.1 p.2) : Tx P w K mg base :=
  {
  d_packed := c.def_ 0 (d := dd_packed) rfl
  g_packed := He.glo_ok X G (c.fact 0 (f := .glo "packed") rfl)
  d_ones_in := c.def_ 1 (d := dd_ones_in) rfl
  g_ones_in := He.glo_ok X G (c.fact 1 (f := .glo "ones_in") rfl)
  d_one_in := c.def_ 2 (d := dd_one_in) rfl
  g_one_in := He.glo_ok X G (c.fact 2 (f := .glo "one_in") rfl)
  d_ones_table := c.def_ 3 (d := dd_ones_table) rfl
  g_ones_table := He.glo_ok X G (c.fact 3 (f := .glo "ones_table") rfl)
  d_kept_row := c.def_ 4 (d := dd_kept_row) rfl
  g_kept_row := He.glo_ok X G (c.fact 4 (f := .glo "kept_row") rfl)
  d_bit_at := c.def_ 5 (d := dd_bit_at) rfl
  g_bit_at := He.glo_ok X G (c.fact 5 (f := .glo "bit_at") rfl)
  d_ones_at := c.def_ 6 (d := dd_ones_at) rfl
  g_ones_at := He.glo_ok X G (c.fact 6 (f := .glo "ones_at") rfl)
  d_noughts_at := c.def_ 7 (d := dd_noughts_at) rfl
  g_noughts_at := He.glo_ok X G (c.fact 7 (f := .glo "noughts_at") rfl)
  d_bits_ahead := c.def_ 8 (d := dd_bits_ahead) rfl
  g_bits_ahead := He.glo_ok X G (c.fact 8 (f := .glo "bits_ahead") rfl)
  d_block_by := c.def_ 9 (d := dd_block_by) rfl
  g_block_by := He.glo_ok X G (c.fact 9 (f := .glo "block_by") rfl)
  d_one_place := c.def_ 10 (d := dd_one_place) rfl
  g_one_place := He.glo_ok X G (c.fact 10 (f := .glo "one_place") rfl)
  d_nought_place := c.def_ 11 (d := dd_nought_place) rfl
  g_nought_place := He.glo_ok X G (c.fact 11 (f := .glo "nought_place") rfl)
  d_levels_for := c.def_ 12 (d := dd_levels_for) rfl
  g_levels_for := He.glo_ok X G (c.fact 12 (f := .glo "levels_for") rfl)
  d_kept_signs := c.def_ 13 (d := dd_kept_signs) rfl
  g_kept_signs := He.glo_ok X G (c.fact 13 (f := .glo "kept_signs") rfl)
  d_rank_of := c.def_ 14 (d := dd_rank_of) rfl
  g_rank_of := He.glo_ok X G (c.fact 14 (f := .glo "rank_of") rfl)
  d_level_row := c.def_ 15 (d := dd_level_row) rfl
  g_level_row := He.glo_ok X G (c.fact 15 (f := .glo "level_row") rfl)
  d_bit_of := c.def_ 16 (d := dd_bit_of) rfl
  g_bit_of := He.glo_ok X G (c.fact 16 (f := .glo "bit_of") rfl)
  d_halves := c.def_ 17 (d := dd_halves) rfl
  g_halves := He.glo_ok X G (c.fact 17 (f := .glo "halves") rfl)
  d_behind_levels := c.def_ 18 (d := dd_behind_levels) rfl
  g_behind_levels := He.glo_ok X G (c.fact 18 (f := .glo "behind_levels") rfl)
  d_sign_at := c.def_ 19 (d := dd_sign_at) rfl
  g_sign_at := He.glo_ok X G (c.fact 19 (f := .glo "sign_at") rfl)
  d_signs_ahead := c.def_ 20 (d := dd_signs_ahead) rfl
  g_signs_ahead := He.glo_ok X G (c.fact 20 (f := .glo "signs_ahead") rfl)
  d_sign_place := c.def_ 21 (d := dd_sign_place) rfl
  g_sign_place := He.glo_ok X G (c.fact 21 (f := .glo "sign_place") rfl)
  d_stretch_there := c.def_ 22 (d := dd_stretch_there) rfl
  g_stretch_there := He.glo_ok X G (c.fact 22 (f := .glo "stretch_there") rfl)
  d_below := c.def_ 23 (d := dd_below) rfl
  g_below := He.glo_ok X G (c.fact 23 (f := .glo "below") rfl)
  d_between := c.def_ 24 (d := dd_between) rfl
  g_between := He.glo_ok X G (c.fact 24 (f := .glo "between") rfl)
  d_so_manieth := c.def_ 25 (d := dd_so_manieth) rfl
  g_so_manieth := He.glo_ok X G (c.fact 25 (f := .glo "so_manieth") rfl)
  d_unlike := c.def_ 26 (d := dd_unlike) rfl
  g_unlike := He.glo_ok X G (c.fact 26 (f := .glo "unlike") rfl)
  d_law_whole := c.def_ 27 (d := dd_law_whole) rfl
  g_law_whole := He.glo_ok X G (c.fact 27 (f := .glo "_law_whole") rfl)
  d_law_piece := c.def_ 28 (d := dd_law_piece) rfl
  g_law_piece := He.glo_ok X G (c.fact 28 (f := .glo "_law_piece") rfl)
  d_law_signs := c.def_ 29 (d := dd_law_signs) rfl
  g_law_signs := He.glo_ok X G (c.fact 29 (f := .glo "_law_signs") rfl)
  d_law_look := c.def_ 30 (d := dd_law_look) rfl
  g_law_look := He.glo_ok X G (c.fact 30 (f := .glo "_law_look") rfl)
  d_law_few := c.def_ 31 (d := dd_law_few) rfl
  g_law_few := He.glo_ok X G (c.fact 31 (f := .glo "_law_few") rfl)
  d_law_sought := c.def_ 32 (d := dd_law_sought) rfl
  g_law_sought := He.glo_ok X G (c.fact 32 (f := .glo "_law_sought") rfl)
  d_law_parts := c.def_ 33 (d := dd_law_parts) rfl
  g_law_parts := He.glo_ok X G (c.fact 33 (f := .glo "_law_parts") rfl)
  d_law_due := c.def_ 34 (d := dd_law_due) rfl
  g_law_due := He.glo_ok X G (c.fact 34 (f := .glo "_law_due") rfl)
  d_law_answer := c.def_ 35 (d := dd_law_answer) rfl
  g_law_answer := He.glo_ok X G (c.fact 35 (f := .glo "_law_answer") rfl)
  d_law_told := c.def_ 36 (d := dd_law_told) rfl
  g_law_told := He.glo_ok X G (c.fact 36 (f := .glo "_law_told") rfl)
  d_law_alike := c.def_ 37 (d := dd_law_alike) rfl
  g_law_alike := He.glo_ok X G (c.fact 37 (f := .glo "_law_alike") rfl)
  d_law_one_good := c.def_ 38 (d := dd_law_one_good) rfl
  g_law_one_good := He.glo_ok X G (c.fact 38 (f := .glo "_law_one_good") rfl)
  d_law := c.def_ 39 (d := dd_law) rfl
  g_law := He.glo_ok X G (c.fact 39 (f := .glo "law") rfl)
  b_abs := He.free_ok X G (c.fact 40 (f := .free "abs") rfl)
  b_bool := He.free_ok X G (c.fact 41 (f := .free "bool") rfl)
  b_enumerate := He.free_ok X G (c.fact 42 (f := .free "enumerate") rfl)
  b_int := He.free_ok X G (c.fact 43 (f := .free "int") rfl)
  b_isinstance := He.free_ok X G (c.fact 44 (f := .free "isinstance") rfl)
  b_len := He.free_ok X G (c.fact 45 (f := .free "len") rfl)
  b_list := He.free_ok X G (c.fact 46 (f := .free "list") rfl)
  b_max := He.free_ok X G (c.fact 47 (f := .free "max") rfl)
  b_min := He.free_ok X G (c.fact 48 (f := .free "min") rfl)
  b_range := He.free_ok X G (c.fact 49 (f := .free "range") rfl)
  b_reversed := He.free_ok X G (c.fact 50 (f := .free "reversed") rfl)
  b_set := He.free_ok X G (c.fact 51 (f := .free "set") rfl)
  b_sorted := He.free_ok X G (c.fact 52 (f := .free "sorted") rfl)
  b_sum := He.free_ok X G (c.fact 53 (f := .free "sum") rfl)
  b_tuple := He.free_ok X G (c.fact 54 (f := .free "tuple") rfl)
  b_zip := He.free_ok X G (c.fact 55 (f := .free "zip") rfl)
  i_ALL := He.int_ok X G (c.fact 56 (f := .int "ALL" 4294967295) rfl)
  i_FAR := He.int_ok X G (c.fact 57 (f := .int "FAR" 1000000000000000000000000000000000000000000000000000000000000) rfl)
  i_MOST := He.int_ok X G (c.fact 58 (f := .int "MOST" 4096) rfl)
  i_WIDE := He.int_ok X G (c.fact 59 (f := .int "WIDE" 32) rfl)
  x_NoBit := (fun q => ⟨He.glo_ok X G (c.fact 64 (f := .glo "NoBit") rfl), q.1, q.2.1, q.2.2.1, q.2.2.2⟩) (He.exc_ok (c.fact 60 (f := .exc "NoBit") rfl))
  g_NoBit := He.glo_ok X G (c.fact 64 (f := .glo "NoBit") rfl)
  x_NoPlace := (fun q => ⟨He.glo_ok X G (c.fact 65 (f := .glo "NoPlace") rfl), q.1, q.2.1, q.2.2.1, q.2.2.2⟩) (He.exc_ok (c.fact 61 (f := .exc "NoPlace") rfl))
  g_NoPlace := He.glo_ok X G (c.fact 65 (f := .glo "NoPlace") rfl)
  x_NoSign := (fun q => ⟨He.glo_ok X G (c.fact 66 (f := .glo "NoSign") rfl), q.1, q.2.1, q.2.2.1, q.2.2.2⟩) (He.exc_ok (c.fact 62 (f := .exc "NoSign") rfl))
  g_NoSign := He.glo_ok X G (c.fact 66 (f := .glo "NoSign") rfl)
  x_TooMany := (fun q => ⟨He.glo_ok X G (c.fact 67 (f := .glo "TooMany") rfl), q.1, q.2.1, q.2.2.1, q.2.2.2⟩) (He.exc_ok (c.fact 63 (f := .exc "TooMany") rfl))
  g_TooMany := He.glo_ok X G (c.fact 67 (f := .glo "TooMany") rfl)
  fx := {
    ec_NoBit := Fx.excC_ok (List.all_eq_true.mp cx (.excC "NoBit") (List.mem_of_getElem? (i := 0) rfl))
    kt_NoBit := Fx.kitT_ok (List.all_eq_true.mp cx (.kitT "NoBit" "ValueError" true) (List.mem_of_getElem? (i := 1) rfl))
    k_NoBit_NoBit := Fx.kit_ok (List.all_eq_true.mp cx (.kit "NoBit" "NoBit" true) (List.mem_of_getElem? (i := 2) rfl))
    e_NoBit_NoBit := Fx.exm_ok (List.all_eq_true.mp cx (.exm "NoBit" "NoBit" true) (List.mem_of_getElem? (i := 3) rfl))
    k_NoBit_NoPlace := Fx.kit_ok (List.all_eq_true.mp cx (.kit "NoBit" "NoPlace" false) (List.mem_of_getElem? (i := 4) rfl))
    e_NoBit_NoPlace := Fx.exm_ok (List.all_eq_true.mp cx (.exm "NoBit" "NoPlace" false) (List.mem_of_getElem? (i := 5) rfl))
    k_NoBit_NoSign := Fx.kit_ok (List.all_eq_true.mp cx (.kit "NoBit" "NoSign" false) (List.mem_of_getElem? (i := 6) rfl))
    e_NoBit_NoSign := Fx.exm_ok (List.all_eq_true.mp cx (.exm "NoBit" "NoSign" false) (List.mem_of_getElem? (i := 7) rfl))
    k_NoBit_TooMany := Fx.kit_ok (List.all_eq_true.mp cx (.kit "NoBit" "TooMany" false) (List.mem_of_getElem? (i := 8) rfl))
    e_NoBit_TooMany := Fx.exm_ok (List.all_eq_true.mp cx (.exm "NoBit" "TooMany" false) (List.mem_of_getElem? (i := 9) rfl))
    ec_NoPlace := Fx.excC_ok (List.all_eq_true.mp cx (.excC "NoPlace") (List.mem_of_getElem? (i := 10) rfl))
    kt_NoPlace := Fx.kitT_ok (List.all_eq_true.mp cx (.kitT "NoPlace" "ValueError" true) (List.mem_of_getElem? (i := 11) rfl))
    k_NoPlace_NoBit := Fx.kit_ok (List.all_eq_true.mp cx (.kit "NoPlace" "NoBit" false) (List.mem_of_getElem? (i := 12) rfl))
    e_NoPlace_NoBit := Fx.exm_ok (List.all_eq_true.mp cx (.exm "NoPlace" "NoBit" false) (List.mem_of_getElem? (i := 13) rfl))
    k_NoPlace_NoPlace := Fx.kit_ok (List.all_eq_true.mp cx (.kit "NoPlace" "NoPlace" true) (List.mem_of_getElem? (i := 14) rfl))
    e_NoPlace_NoPlace := Fx.exm_ok (List.all_eq_true.mp cx (.exm "NoPlace" "NoPlace" true) (List.mem_of_getElem? (i := 15) rfl))
    k_NoPlace_NoSign := Fx.kit_ok (List.all_eq_true.mp cx (.kit "NoPlace" "NoSign" false) (List.mem_of_getElem? (i := 16) rfl))
    e_NoPlace_NoSign := Fx.exm_ok (List.all_eq_true.mp cx (.exm "NoPlace" "NoSign" false) (List.mem_of_getElem? (i := 17) rfl))
    k_NoPlace_TooMany := Fx.kit_ok (List.all_eq_true.mp cx (.kit "NoPlace" "TooMany" false) (List.mem_of_getElem? (i := 18) rfl))
    e_NoPlace_TooMany := Fx.exm_ok (List.all_eq_true.mp cx (.exm "NoPlace" "TooMany" false) (List.mem_of_getElem? (i := 19) rfl))
    ec_NoSign := Fx.excC_ok (List.all_eq_true.mp cx (.excC "NoSign") (List.mem_of_getElem? (i := 20) rfl))
    kt_NoSign := Fx.kitT_ok (List.all_eq_true.mp cx (.kitT "NoSign" "ValueError" true) (List.mem_of_getElem? (i := 21) rfl))
    k_NoSign_NoBit := Fx.kit_ok (List.all_eq_true.mp cx (.kit "NoSign" "NoBit" false) (List.mem_of_getElem? (i := 22) rfl))
    e_NoSign_NoBit := Fx.exm_ok (List.all_eq_true.mp cx (.exm "NoSign" "NoBit" false) (List.mem_of_getElem? (i := 23) rfl))
    k_NoSign_NoPlace := Fx.kit_ok (List.all_eq_true.mp cx (.kit "NoSign" "NoPlace" false) (List.mem_of_getElem? (i := 24) rfl))
    e_NoSign_NoPlace := Fx.exm_ok (List.all_eq_true.mp cx (.exm "NoSign" "NoPlace" false) (List.mem_of_getElem? (i := 25) rfl))
    k_NoSign_NoSign := Fx.kit_ok (List.all_eq_true.mp cx (.kit "NoSign" "NoSign" true) (List.mem_of_getElem? (i := 26) rfl))
    e_NoSign_NoSign := Fx.exm_ok (List.all_eq_true.mp cx (.exm "NoSign" "NoSign" true) (List.mem_of_getElem? (i := 27) rfl))
    k_NoSign_TooMany := Fx.kit_ok (List.all_eq_true.mp cx (.kit "NoSign" "TooMany" false) (List.mem_of_getElem? (i := 28) rfl))
    e_NoSign_TooMany := Fx.exm_ok (List.all_eq_true.mp cx (.exm "NoSign" "TooMany" false) (List.mem_of_getElem? (i := 29) rfl))
    ec_TooMany := Fx.excC_ok (List.all_eq_true.mp cx (.excC "TooMany") (List.mem_of_getElem? (i := 30) rfl))
    kt_TooMany := Fx.kitT_ok (List.all_eq_true.mp cx (.kitT "TooMany" "ValueError" true) (List.mem_of_getElem? (i := 31) rfl))
    k_TooMany_NoBit := Fx.kit_ok (List.all_eq_true.mp cx (.kit "TooMany" "NoBit" false) (List.mem_of_getElem? (i := 32) rfl))
    e_TooMany_NoBit := Fx.exm_ok (List.all_eq_true.mp cx (.exm "TooMany" "NoBit" false) (List.mem_of_getElem? (i := 33) rfl))
    k_TooMany_NoPlace := Fx.kit_ok (List.all_eq_true.mp cx (.kit "TooMany" "NoPlace" false) (List.mem_of_getElem? (i := 34) rfl))
    e_TooMany_NoPlace := Fx.exm_ok (List.all_eq_true.mp cx (.exm "TooMany" "NoPlace" false) (List.mem_of_getElem? (i := 35) rfl))
    k_TooMany_NoSign := Fx.kit_ok (List.all_eq_true.mp cx (.kit "TooMany" "NoSign" false) (List.mem_of_getElem? (i := 36) rfl))
    e_TooMany_NoSign := Fx.exm_ok (List.all_eq_true.mp cx (.exm "TooMany" "NoSign" false) (List.mem_of_getElem? (i := 37) rfl))
    k_TooMany_TooMany := Fx.kit_ok (List.all_eq_true.mp cx (.kit "TooMany" "TooMany" true) (List.mem_of_getElem? (i := 38) rfl))
    e_TooMany_TooMany := Fx.exm_ok (List.all_eq_true.mp cx (.exm "TooMany" "TooMany" true) (List.mem_of_getElem? (i := 39) rfl))
  }
  tb_level_row := TB _ (List.mem_map_of_mem (f := He.cT K) (by decide : ((("level_row", none) : He.Defn) ∈ tfL)))
  tb_law_look := TB _ (List.mem_map_of_mem (f := He.cT K) (by decide : ((("_law_look", none) : He.Defn) ∈ tfL)))
  }
theorem facts {P : Program} {w : World} {K : PySem.W.Frag} {h : Heap} {mg : Str → Option Value} (X : K.In h) (G : h.Ns mainGlobals mg) (c : He.SaysD faL fnL K) (cx : exB K = true) (base : Heap) (TB : ∀ p ∈ tfL.map (He.cT K), LamX.TabB base mg p.1 p.2) :
    Okf P w K mg base CX0 24 "law" ["_law_script"] (sp_law K) := by
  have T : Tx P w K mg base := tx_of X G c cx base TB
  have o_packed := ok_packed (P := P) (w := w) T 
  have o_ones_in := ok_ones_in (P := P) (w := w) T 
  have o_one_in := ok_one_in (P := P) (w := w) T 
  have o_ones_table := ok_ones_table (P := P) (w := w) T o_ones_in
  have o_kept_row := ok_kept_row (P := P) (w := w) T o_packed o_ones_table
  have o_bit_at := ok_bit_at (P := P) (w := w) T 
  have o_ones_at := ok_ones_at (P := P) (w := w) T o_ones_in
  have o_noughts_at := ok_noughts_at (P := P) (w := w) T o_ones_at
  have o_bits_ahead := ok_bits_ahead (P := P) (w := w) T 
  have o_block_by := ok_block_by (P := P) (w := w) T o_bits_ahead
  have o_one_place := ok_one_place (P := P) (w := w) T o_block_by o_one_in o_bits_ahead
  have o_nought_place := ok_nought_place (P := P) (w := w) T o_block_by o_one_in o_bits_ahead
  have o_levels_for := ok_levels_for (P := P) (w := w) T 
  have o_kept_signs := ok_kept_signs (P := P) (w := w) T o_levels_for o_kept_row
  have o_rank_of := ok_rank_of (P := P) (w := w) T 
  have o_level_row := ok_level_row (P := P) (w := w) T 
  have o_bit_of := ok_bit_of (P := P) (w := w) T 
  have o_halves := ok_halves (P := P) (w := w) T o_level_row o_noughts_at
  have o_behind_levels := ok_behind_levels (P := P) (w := w) T o_halves o_bit_of
  have o_sign_at := ok_sign_at (P := P) (w := w) T o_level_row o_noughts_at o_bit_at
  have o_signs_ahead := ok_signs_ahead (P := P) (w := w) T o_rank_of o_behind_levels
  have o_sign_place := ok_sign_place (P := P) (w := w) T o_rank_of o_behind_levels o_level_row o_bit_of o_nought_place o_one_place
  have o_stretch_there := ok_stretch_there (P := P) (w := w) T 
  have o_below := ok_below (P := P) (w := w) T o_halves o_bit_of
  have o_between := ok_between (P := P) (w := w) T o_stretch_there o_below o_rank_of
  have o_so_manieth := ok_so_manieth (P := P) (w := w) T o_stretch_there o_halves
  have o_unlike := ok_unlike (P := P) (w := w) T o_stretch_there o_halves
  have o_law_whole := ok_law_whole (P := P) (w := w) T 
  have o_law_piece := ok_law_piece (P := P) (w := w) T 
  have o_law_signs := ok_law_signs (P := P) (w := w) T o_law_piece
  have o_law_look := ok_law_look (P := P) (w := w) T 
  have o_law_few := ok_law_few (P := P) (w := w) T o_law_whole
  have o_law_sought := ok_law_sought (P := P) (w := w) T 
  have o_law_parts := ok_law_parts (P := P) (w := w) T o_law_sought
  have o_law_due := ok_law_due (P := P) (w := w) T 
  have o_law_answer := ok_law_answer (P := P) (w := w) T o_sign_at o_signs_ahead o_sign_place o_between o_so_manieth o_unlike
  have o_law_told := ok_law_told (P := P) (w := w) T o_law_answer
  have o_law_alike := ok_law_alike (P := P) (w := w) T o_law_whole
  have o_law_one_good := ok_law_one_good (P := P) (w := w) T o_law_parts o_law_due o_law_told o_law_look o_law_alike o_law_few
  have o_law := ok_law (P := P) (w := w) T o_law_signs o_kept_signs o_law_one_good
  exact o_law
theorem binds_law {K : PySem.W.Frag} (c : He.SaysD faL fnL K) : ∃ fd : FuncData, FunD K "law" "law" (defArgs s_law) (defBody s_law) (defScope s_law) [] [] (He.ga K "law") fd := c.def_ 39 (d := dd_law) rfl
theorem tab_sp {K : PySem.W.Frag} {H : Hp} (h : ∀ p ∈ tfL.map (He.cT K), H p.2 = some (.tbl #[])) : ∀ x ∈ tabL, NdefX.TabN H (tabP K x) nmL := fun x hx =>
  NdefX.TabN.nil (h (He.cT K (x, none)) (List.mem_map_of_mem (f := He.cT K) (show ((x, none) : He.Defn) ∈ tfL from by
    have e : tfL = tabL.map fun x => ((x, none) : He.Defn) := rfl
    rw [e]; exact List.mem_map_of_mem (f := fun x => ((x, none) : He.Defn)) hx)))
end Tw
open PySem PySem.W PySem.Calls PyProof.Rows
set_option maxHeartbeats 0 in
theorem PySem.Challenge.cw_thinwood_k69_whole_signs_holds : PySem.Challenge.rw_thinwood_k69_whole_signs.Holds := by
  w_on; o_law
  refine HandSHeadRun.head_any (r := OpenLaw.row PySem.Challenge.rw_thinwood_k69_whole_signs) (q := view (OpenLaw.row PySem.Challenge.rw_thinwood_k69_whole_signs).prog [53]) (H := Tw.hk) (ob := Tw.ob) (M := 20000) (loose := Tw.looseL) (d := HandSHeadRun.topDef (OpenLaw.row PySem.Challenge.rw_thinwood_k69_whole_signs).prog 53) (kwd := []) Tw.ob_eq
    Tw.z_e Tw.z_f Tw.run Tw.z_def Tw.z_hp Tw.z_hk (by rfl) (by first | assumption | decide +kernel) Tw.z_ok Tw.z_bare Tw.z_w ?hc
  case hc =>
    refine LamX.walk_ofTsE (l := PySem.Challenge.rw_thinwood_k69_whole_signs) (n := 63) (k := 24) (x := "_law_script") (CX := fun _ => L2.CX0) rfl (by decide) (by as_aux_lemma => kernel_rfl) ⟨rfl, by decide, by decide⟩ ?F (fun _ _ _ _ _ z => z)
    intro w mg fa h Y G hmg0
    obtain ⟨K, KX, c⟩ := Y
    have cd := c.t.d
    have hmg : mg ("law" : PySem.Str) = some (.ref fa) := by
      have e : (HandSHeadRun.topDef (OpenLaw.row PySem.Challenge.rw_thinwood_k69_whole_signs).prog 53).name = ("law" : PySem.Str) := by kernel_rfl
      rw [← e]
      exact hmg0
    have e : fa = He.ga K "law" := by
      have z := hmg.symm.trans (He.glo_ok KX G (cd.fact 39 (f := .glo "law") rfl))
      exact Value.ref.inj (Option.some.inj z)
    subst e
    obtain ⟨fd, FD⟩ := Tw.binds_law cd
    refine ⟨K, KX, fd, Tw.tfL.map (He.cT K), Tw.sp_law K, fun p hp => ?_, fun p hp => ?_, fun p hp => ?_, fun s u => FunD.bindsA (ps := ["_law_script"]) FD (fun _ _ _ _ _ _ us hl => match us, hl with | [_], _ => rfl) s [u] rfl, fun H a ns hl _ hH hS => ⟨a, ns, rfl, hS, hl, Tw.tab_sp hH, fun _ => rfl⟩, fun base KB GB TB => ?_⟩
    · obtain ⟨q, hq, e⟩ := List.mem_map.mp hp
      rw [← e]; exact c.empty q hq
    · obtain ⟨q, hq, e⟩ := List.mem_map.mp hp
      rw [← e]; exact c.out q hq
    · obtain ⟨q, hq, e⟩ := List.mem_map.mp hp
      rw [← e]; exact PySem.W.codeHd_of_K KX (c.hd q hq)
    · exact Tw.okf_fn (Tw.facts KB GB cd c.more base TB) FD
#print axioms PySem.Challenge.cw_thinwood_k69_whole_signs_holds
