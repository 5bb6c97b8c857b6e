import PyProof.Rows.All
import Wide.All
import OpenK.AllK
import Wide.FinOn
import KE.KStateDown
import Lean
import HandS.ForMost
import HandS.ForExc
import HandS.Steps
import HandS.IsInst
import HandS.Wide
import HandS.WideBits
import HandS.Defaults
import HandS.Flow
import HandS.Style
import HandS.ExcIs
import HandS.TryMany
import HandS.Evl
import HandS.Walk
import HandS.Rev
import HandS.RevRange
import HandS.SortInts
import HandS.Head0
import HandS.Head1
import HandS.Head2
import HandS.HeadEnd
import HandS.HeadHook1
import HandS.HeadHook2
import HandS.Deep
import HandS.Lambda
import HandS.HeadHook4
import HandS.HeadWalk
import HandS.Nested
import PySem.Challenge.RW_thinwood_k20_what_nodes_bear
set_option Elab.async false
set_option linter.all false
set_option maxRecDepth 100000
set_option maxHeartbeats 4000000
set_option Elab.async false
set_option linter.all false
set_option maxRecDepth 100000
set_option maxHeartbeats 4000000
namespace Tw
open PySem PySem.Spec PyProof.Rows L2
def nmL (l _c : Nat) : Str := ""
def tabL : List Str := []
/-! ### heaps: all that was tracked is as it was, but for code tables, which may have grown -/
class NT (o : HO) : Prop where
  ne : ∀ ps, o ≠ .tbl ps
instance {xs : List V} : NT (.lst xs) := ⟨fun _ z => nomatch z⟩
instance {xs : List V} : NT (.tup xs) := ⟨fun _ z => nomatch z⟩
instance {o : Obj} {u : HO} : NT (.frz o u) := ⟨fun _ z => nomatch z⟩
instance {φ : Heap → Prop} : NT (.ext φ) := ⟨fun _ z => nomatch z⟩
instance {S : Int → Bool} {n : Nat} : NT (.set S n) := ⟨fun _ z => nomatch z⟩
instance {kvs : List (Key × V)} : NT (.dK kvs) := ⟨fun _ z => nomatch z⟩
instance {C dx : Addr} {fs : List (Str × V)} : NT (.ins C dx fs) := ⟨fun _ z => nomatch z⟩
instance {x : Addr} : NT (.own x) := ⟨fun _ z => nomatch z⟩
structure Same (H H' : Hp) : Prop where
  keep : ∀ b o, H b = some o → (∀ ps, o ≠ .tbl ps) → H' b = some o
  gone : ∀ b, H' b = none → H b = none
  tabs : ∀ P, NdefX.TabN H P nmL → NdefX.TabN H' P nmL
theorem Same.get {H H' : Hp} (s : Same H H') {b : Addr} {o : HO} [NT o] (e : H b = some o) : H' b = some o := s.keep b o e NT.ne
theorem Same.of {H H' : Hp} (e : ∀ b o, H b = some o → H' b = some o) : Same H H' := by
  refine ⟨fun b o h _ => e b o h, fun b h => ?_, fun P t => NdefX.TabN.ext t e⟩
  cases q : H b with
  | none => rfl
  | some o => rw [e b o q] at h; cases h
theorem Same.refl (H : Hp) : Same H H := .of fun _ _ h => h
theorem Same.trans {H H1 H2 : Hp} (a : Same H H1) (b : Same H1 H2) : Same H H2 := ⟨fun c o h n => b.keep c o (a.keep c o h n) n, fun c h => a.gone c (b.gone c h), fun P t => b.tabs P (a.tabs P t)⟩
theorem Same.free {H H' : Hp} (e : Same H H') {l : Addr} (h : H' l = Option.none) : H l = Option.none := e.gone l h
theorem Same.seq {K : PySem.W.Frag} {H H' : Hp} {a : Addr} {xs : List V} (e : Same H H') (h : SqL K H a xs) : SqL K H' a xs := by
  rcases h with (h | ⟨o, h⟩) | h
  · exact .inl (.inl (e.get h))
  · exact .inl (.inr ⟨o, e.get h⟩)
  · exact .inr h
theorem same_new {H : Hp} {p : Addr} {o : HO} (h : H p = none) : Same H (upd H p o) := .of fun b x e => by
  rw [upd_ne (ne_of_none e h)]; exact e
/-- an object that H does not know may change -/
theorem Same.mut {H H' : Hp} {p : Addr} {o : HO} (e : Same H H') (h : H p = none) (hl : ∃ xs, H' p = some (.lst xs) := by exact ⟨_, by assumption⟩) : Same H (upd H' p o) := by
  obtain ⟨xs, hl⟩ := hl
  refine ⟨fun b x hb n => by rw [upd_ne (ne_of_none hb h)]; exact e.keep b x hb n, fun b hb => e.gone b (NdefX.upd_none hb), fun P t => ?_⟩
  obtain ⟨ps, h1, ht, hc⟩ := e.tabs P t
  have np : ∀ {b : Addr} {u : HO}, H' b = some u → (∀ xs, u ≠ .lst xs) → b ≠ p := fun {b u} q d z => by
    subst z; rw [hl] at q; cases q; exact d _ rfl
  refine ⟨ps, by rw [upd_ne (np h1 fun _ z => nomatch z)]; exact h1, ht, fun pos cv q => ?_⟩
  obtain ⟨c, e1, e2⟩ := hc pos cv q
  exact ⟨c, e1, by rw [upd_ne (np e2 fun _ z => by unfold LamX.CodeO at z; cases z)]; exact e2⟩
theorem Same.seqT {K : PySem.W.Frag} {H H' : Hp} {a : Addr} {xs : List V} (e : Same H H') (h : SqT K H a xs) : SqT K H' a xs := by
  rcases h with (h | ⟨o, h⟩) | h
  · exact .inl (.inl (e.get h))
  · exact .inl (.inr ⟨o, e.get h⟩)
  · exact .inr h
theorem Same.ne {H : Hp} {a p : Addr} {o : HO} (h : H p = none) (e : H a = some o) : a ≠ p := ne_of_none e h
/-! ### a def by its global name, and its call -/
/-- the def named x keeps the promise sp -/
structure Okf (P : Program) (w : World) (K : PySem.W.Frag) (mg : Str → Option Value) (base : Heap) (CX : CXT) (k : Nat) (x : Str) (ps : List Str) (sp : Sp) : Prop where
  ex : ∃ fd : FuncData, (∃ (oc : Value) (od : Option Addr) (osl : Array (Option Value)), K.lookup (He.ga K x) = some ⟨oc, od, .func fd, osl⟩) ∧ Binds K fd ps [] ∧ FnOk P w K mg base CX k (He.ga K x) fd ps sp
  kp : PySem.W.keepIn K (.ref (He.ga K x)) = true
  gl : mg x = some (.ref (He.ga K x))
theorem FunD.look {K : PySem.W.Frag} {x qual : Str} {params : Arguments} {body : List Stmt} {scope : Scope} {dvs : List V} {kws : List (Str × V)} {f : Addr} {fd : FuncData} (F : FunD K x qual params body scope dvs kws f fd) :
    ∃ (oc : Value) (od : Option Addr) (osl : Array (Option Value)), K.lookup f = some ⟨oc, od, .func fd, osl⟩ := by
  obtain ⟨oc, od, dV, kV, doc, pm, an, cdv, ct, osl, e, lk, _⟩ := F.ex
  exact ⟨oc, od, osl, lk⟩
section
variable {X : Cx} {CX : CXT} {k j : Nat} {ps : List Str} {sp : Sp} {E : XK} {x : Str} {p pos : Pos} {e : Expr} {es : List Expr} {t : TA}
theorem pe_callF (F : Okf X.prog X.w X.K X.mg X.base CX k x ps sp) (hr : Room j X.A) (hk : k ≤ j) (hg : Gl X x) (hx : Passes CX X E)
    (ha : PA X (e :: es) t) (hdb : (x == ("__debug__" : Str)) = false := by decide) (he : starEach (e :: es) X.env = (false, eval e X.env) :: starEach es X.env := by rfl) (hpl : (backTo pos (starEach es X.env)).any (·.1) = false := by rfl) :
    PE X (.Call (.Name x p) (e :: es) [] pos) (tCall sp [] E t) := by
  obtain ⟨fd, _, hb, ok⟩ := F.ex
  exact pe_call ok (hr.mono hk) hg F.gl F.kp hb .nil hx ha hdb he hpl
theorem pe_callF0 (F : Okf X.prog X.w X.K X.mg X.base CX k x ps sp) (hr : Room j X.A) (hk : k ≤ j) (hg : Gl X x) (hx : Passes CX X E)
    (hdb : (x == ("__debug__" : Str)) = false := by decide) : PE X (.Call (.Name x p) [] [] pos) (tCall sp [] E tNil) := by
  obtain ⟨fd, _, hb, ok⟩ := F.ex
  exact pe_call0 ok (hr.mono hk) hg F.gl F.kp hb .nil hx hdb
theorem Okf.imp {P : Program} {w : World} {K : PySem.W.Frag} {mg : Str → Option Value} {base : Heap} {sp' : Sp} (F : Okf P w K mg base CX k x ps sp)
    (h : ∀ vs H Q E, sp' vs H Q E → sp vs H Q E) : Okf P w K mg base CX k x ps sp' := by
  obtain ⟨⟨fd, lk, hb, ok⟩, kp, gl⟩ := F
  exact ⟨⟨fd, lk, hb, ok.imp h⟩, kp, gl⟩
theorem okf_fn {P : Program} {w : World} {K : PySem.W.Frag} {mg : Str → Option Value} {base : Heap} {params : Arguments} {body : List Stmt} {scope : Scope} {qual y : Str} {fd : FuncData} {dvs : List V} {kws : List (Str × V)} (F : Okf P w K mg base CX k x ps sp)
    (FD : FunD K y qual params body scope dvs kws (He.ga K x) fd) : FnOk P w K mg base CX k (He.ga K x) fd ps sp := by
  obtain ⟨⟨fd', ⟨_, _, _, lk'⟩, hb, ok⟩, kp, gl⟩ := F
  obtain ⟨_, _, _, lk⟩ := FunD.look FD
  rw [lk] at lk'
  injection lk' with e
  injection e with _ _ e
  injection e with e
  subst e
  exact ok
/-- a global int, as a constant -/
theorem pe_gint {i : Int} (h : ∃ t, X.mg x = some (.int i t)) (hg : Gl X x) (hd : (x == ("__debug__" : Str)) = false := by decide) : PE X (.Name x pos) (tC (.int i)) := by
  obtain ⟨t, h⟩ := h
  exact pe_glob hg h ⟨_, rfl⟩ hd
/-- a constant that the text reckons -/
theorem pe_cst {v : Int} {te : TE} (h : PE X e te) (hi : ∀ (σ : L2.St) (H : Hp) (Q : VK), Q (.int v) H → te σ H Q) : PE X e (tC (.int v)) :=
  ⟨fun pins s σ H Q I q => h.run pins s σ H Q I (hi σ H Q q)⟩
/-- e & 1 -/
def rAnd1 : R2 := fun x y H Q => ∃ i : Int, x = .int i ∧ y = .int 1 ∧ Q (.int (i % 2)) H
theorem op_and1 : OpR X (binaryOp .BitAnd) rAnd1 := by
  intro pins s σ H x y v u Q I rx ry h
  obtain ⟨i, rfl, rfl, q⟩ := h
  exact op_andM pins s σ H (.int i) (.int (2 ^ 1 - 1)) v u Q I rx ry ⟨i, 1, rfl, rfl, q⟩
/-- isinstance(x, T), T a built-in type's name -/
def rIsB : List V → Hp → VK → Prop := fun xs H Q => ∃ (x : V) (n : String), xs = [x, .ty n] ∧ ∃ (t : String) (b : Bool), (∀ K : PySem.W.Frag, TyX K H x (.type t)) ∧ kitB t n = some b ∧ Q (.bl b) H
theorem call_isB : CallR X (.builtin "isinstance") rIsB := by
  intro pins s σ H xs us Q I r h
  obtain ⟨x, n, rfl, t, b, ty, e, q⟩ := h
  exact call_isi pins s σ H [x, .ty n] us Q I r ⟨x, .ty n, .type t, .type n, b, rfl, .ty n, ty _, kit_ty e, q⟩
end
/-! ### names of the operators' readings -/
abbrev rPlus : R2 := rI0 fun i j => .int (i + j)
abbrev rMinus : R2 := rI0 fun i j => .int (i - j)
abbrev rTimes : R2 := rI CMul fun i j => .int (i * j)
abbrev rDiv : R2 := rI CDiv fun i j => .int (i / j)
abbrev rDivW : R2 := rI CDivW fun i j => .int (i / j)
abbrev rMod : R2 := rI (fun _ j => 0 < j) fun i j => .int (i % j)
abbrev rPow : R2 := rI CPow fun i j => .int (i ^ j.toNat)
abbrev rShl : R2 := rI CPow fun i j => .int (i * 2 ^ j.toNat)
abbrev rShr : R2 := rI (fun _ j => 0 ≤ j) fun i j => .int (i / 2 ^ j.toNat)
abbrev rBitAnd : R2 := rI0 fun i j => .int (Builtin.bitAnd i j)
abbrev rBitOr : R2 := rI0 fun i j => .int (Builtin.bitOr i j)
abbrev rBitXor : R2 := rI0 fun i j => .int (Builtin.bitXor i j)
abbrev rLt : R2 := rI0 fun i j => .bl (decide (i < j))
abbrev rLe : R2 := rI0 fun i j => .bl (decide (i ≤ j))
abbrev rGtI : R2 := rI0 fun i j => .bl (decide (j < i))
abbrev rGeI : R2 := rI0 fun i j => .bl (decide (j ≤ i))
abbrev rShlW : R2 := rI CShl fun i j => .int (i * 2 ^ j.toNat)
def rDivmod : List V → Hp → VK → Prop := fun xs H Q => ∃ i j, xs = [.int i, .int j] ∧ CDivP i j ∧ ∀ p, H p = none → Q (.ref p) (upd H p (.tup [.int (i / j), .int (i % j)]))
abbrev rNeg : V → Hp → VK → Prop := rU fun i => .int (-i)
/-! ### steps of a reading -/
section
variable {D : Ends} {σ : L2.St} {H : Hp} {Q : VK} {Qb : Bool → Hp → Prop} {ta tb te : TE} {t u v : TS} {c d : TT} {i : Nat} {x y z : V} {r : R2} {K : PySem.W.Frag}
theorem k_seq (h : t { D with nx := u D } σ H) : tSeq t u D σ H := h
theorem k_next (h : D.nx σ H) : tNext D σ H := h
theorem k_asg (h : te σ H fun x H1 => D.nx (σ.set i (some x)) H1) : tAsg te (gName i) D σ H := h
theorem k_drop (h : te σ H fun _ H1 => D.nx σ H1) : tDrop te D σ H := h
theorem k_ret (h : te σ H D.rt) : tRet te D σ H := h
theorem k_retN (h : D.rt .non H) : tRetN D σ H := h
theorem k_if (h : c σ H fun b H1 => if b = true then t D σ H1 else u D σ H1) : tIfS c t u D σ H := h
theorem k_var (h : σ[i]? = some (some x)) (q : Q x H) : tVar i σ H Q := ⟨x, h, q⟩
theorem k_c (q : Q x H) : tC x σ H Q := q
theorem k_op (h : ta σ H fun x H1 => tb σ H1 fun y H2 => r x y H2 Q) : tOp r ta tb σ H Q := h
theorem k_un {r : V → Hp → VK → Prop} (h : ta σ H fun x H1 => r x H1 Q) : tUn r ta σ H Q := h
theorem k_I0 {g : Int → Int → V} {a b : Int} (q : Q (g a b) H) : rI0 g (.int a) (.int b) H Q := ⟨a, b, rfl, rfl, q⟩
theorem k_I {C : Int → Int → Prop} {g : Int → Int → V} {a b : Int} (hc : C a b) (q : Q (g a b) H) : rI C g (.int a) (.int b) H Q := ⟨a, b, rfl, rfl, hc, q⟩
theorem k_U {g : Int → V} {a : Int} (q : Q (g a) H) : rU g (.int a) H Q := ⟨a, rfl, q⟩
theorem k_and1 {a : Int} (q : Q (.int (a % 2)) H) : rAnd1 (.int a) (.int 1) H Q := ⟨a, rfl, rfl, q⟩
theorem k_eqI {a b : Int} (q : Q (.bl (decide (a = b))) H) : rEq (.int a) (.int b) H Q := ⟨rfl, by
  have e : decide ((V.int a : V) = V.int b) = decide (a = b) := by simp
  rw [e]; exact q⟩
theorem k_neI {a b : Int} (q : Q (.bl (!decide (a = b))) H) : rNe (.int a) (.int b) H Q := ⟨rfl, by
  have e : decide ((V.int a : V) = V.int b) = decide (a = b) := by simp
  rw [e]; exact q⟩
theorem k_eq (hs : scal x y = true) (q : Q (.bl (decide (x = y))) H) : rEq x y H Q := ⟨hs, q⟩
theorem k_ne (hs : scal x y = true) (q : Q (.bl (!decide (x = y))) H) : rNe x y H Q := ⟨hs, q⟩
theorem k_isN (q : Q (.bl (decide (x = .non))) H) : rIsN x .non H Q := ⟨rfl, q⟩
theorem k_notN (q : Q (.bl (!decide (x = .non))) H) : rNotN x .non H Q := ⟨rfl, q⟩
def BlK (Qb : Bool → Hp → Prop) (x : V) (H : Hp) : Prop := ∃ k, x = .bl k ∧ Qb k H
theorem k_test (h : te σ H (BlK Qb)) : tTest te σ H Qb := h
theorem k_tB (h : te σ H (BlK Qb)) : tB te σ H Qb := h
theorem k_bl {b : Bool} (q : Qb b H) : BlK Qb (V.bl b) H := ⟨b, rfl, q⟩
theorem k_and (h : c σ H fun b H1 => if b = true then d σ H1 Qb else Qb false H1) : tAnd c d σ H Qb := h
theorem k_or (h : c σ H fun b H1 => if b = true then Qb true H1 else d σ H1 Qb) : tOr c d σ H Qb := h
theorem k_not (h : c σ H fun b H1 => Qb (!b) H1) : tNot c σ H Qb := h
def ChainK (Q : VK) (u : Hp → Prop) (z : V) (H : Hp) : Prop := ∃ k, z = .bl k ∧ (if k = true then u H else Q (.bl false) H)
theorem k_chain {r' : R2} {tc : TE} (h : ta σ H fun x H1 => tb σ H1 fun y H2 => r x y H2 (ChainK Q fun H3 => tc σ H3 fun w H4 => r' y w H4 Q)) : tChain r r' ta tb tc σ H Q := h
theorem k_chainE {u : Hp → Prop} {b : Bool} (h : if b = true then u H else Q (.bl false) H) : ChainK Q u (.bl b) H := ⟨b, rfl, h⟩
theorem k_andV (h : ta σ H (BlK fun k H1 => if k = true then tb σ H1 Q else Q (.bl false) H1)) : tAndV ta tb σ H Q := h
theorem k_orV (h : ta σ H (BlK fun k H1 => if k = true then Q (.bl true) H1 else tb σ H1 Q)) : tOrV ta tb σ H Q := h
theorem k_notV (h : ta σ H (BlK fun k H1 => Q (.bl (!k)) H1)) : tNotV ta σ H Q := h
theorem k_ifE (h : c σ H fun b H1 => if b = true then ta σ H1 Q else tb σ H1 Q) : tIf c ta tb σ H Q := h
theorem k_cons {Qv : List V → Hp → Prop} {tr : TA} (h : ta σ H fun x H1 => tr σ H1 fun xs H2 => Qv (x :: xs) H2) : tCons ta tr σ H Qv := h
theorem k_nil {Qv : List V → Hp → Prop} (h : Qv [] H) : tNil σ H Qv := h
theorem k_call {sp : Sp} {dvs : List V} {E : XK} {tr : TA} (h : tr σ H fun vs H1 => sp (vs ++ dvs) H1 Q E) : tCall sp dvs E tr σ H Q := h
theorem k_cb {rc : List V → Hp → VK → Prop} {tr : TA} (h : tr σ H fun vs H1 => rc vs H1 Q) : tCB rc tr σ H Q := h
theorem k_tup {tr : TA} (h : tr σ H fun xs H1 => xs.length ≤ sizeLine ∧ ∀ p, H1 p = none → Q (.ref p) (upd H1 p (.tup xs))) : tTup tr σ H Q := h
theorem k_lst {tr : TA} (h : tr σ H fun xs H1 => xs.length ≤ sizeLine ∧ ∀ p, H1 p = none → Q (.ref p) (upd H1 p (.lst xs))) : tLst tr σ H Q := h
theorem k_disp {A : Prop} {xs : List V} (h : xs.length ≤ 1000) (q : A) : xs.length ≤ sizeLine ∧ A := ⟨Nat.le_trans h (by decide), q⟩
theorem k_aug {ti : TIp} (hx : σ[i]? = some (some x)) (h : te σ H fun y H1 => ti x y H1 fun z H2 => D.nx (σ.set i (some z)) H2) : tAug i te ti D σ H := ⟨x, hx, h⟩
theorem k_ipI {f : Int → Int → Int} {a b : Int} (q : Q (.int (f a b)) H) : ipI f (.int a) (.int b) H Q := ⟨a, b, rfl, rfl, q⟩
theorem k_sl {rs : V → Option Int → Option Int → Hp → VK → Prop} {tl th : TO} (h : te σ H fun x H1 => tl σ H1 fun l H2 => th σ H2 fun u H3 => rs x l u H3 Q) : tSl rs te tl th σ H Q := h
def PartK (Qo : Option Int → Hp → Prop) (x : V) (H : Hp) : Prop := ∃ j, x = .int j ∧ Qo (some j) H
theorem k_part {Qo : Option Int → Hp → Prop} (h : te σ H (PartK Qo)) : tPart te σ H Qo := h
theorem k_partE {Qo : Option Int → Hp → Prop} {a : Int} (h : Qo (some a) H) : PartK Qo (.int a) H := ⟨a, rfl, h⟩
theorem k_noPart {Qo : Option Int → Hp → Prop} (h : Qo none H) : tNoPart σ H Qo := h
theorem k_bm {T : String} {rm : V → List V → Hp → VK → Prop} {tr : TA} (h : te σ H fun x H1 => tyV K T x H1 ∧ tr σ H1 fun xs H2 => rm x xs H2 Q) : tBM K T rm te tr σ H Q := h
theorem k_bm0 {T : String} {rm : V → List V → Hp → VK → Prop} (h : te σ H fun x H1 => tyV K T x H1 ∧ rm x [] H1 Q) : tBM0 K T rm te σ H Q := h
theorem k_app {l : Addr} {xs : List V} (h : H l = some (.lst xs)) (hl : xs.length < 100000) (q : Q .non (upd H l (.lst (xs ++ [y])))) : rAppend (.ref l) [y] H Q := ⟨l, xs, y, rfl, rfl, h, Nat.lt_of_lt_of_le hl (by decide), q⟩
theorem k_tyL {l : Addr} {xs : List V} {A : Prop} (h : SqL K H l xs) (q : A) : tyV K "list" (.ref l) H ∧ A := ⟨.inl ⟨rfl, _, h⟩, q⟩
theorem k_ixL {p : Addr} {xs : List V} {a : Int} (h : SqL K H p xs) (e : atI xs a = some x) (q : Q x H) : rIxL K (.ref p) (.int a) H Q := ⟨p, xs, a, x, rfl, rfl, h, e, q⟩
theorem k_ixT {p : Addr} {xs : List V} {a : Int} (h : SqT K H p xs) (e : atI xs a = some x) (q : Q x H) : rIxT K (.ref p) (.int a) H Q := ⟨p, xs, a, x, rfl, rfl, h, e, q⟩
theorem k_slL {p : Addr} {xs : List V} {lo hi : Option Int} (h : SqL K H p xs) (q : ∀ l, H l = none → Q (.ref l) (upd H l (.lst (cutV xs lo hi)))) : rSlL K (.ref p) lo hi H Q := ⟨p, xs, rfl, h, q⟩
def rLen (K : PySem.W.Frag) : List V → Hp → VK → Prop := fun xs H Q => ∃ p ys, xs = [.ref p] ∧ (SqL K H p ys ∨ SqT K H p ys) ∧ Q (.int ys.length) H
theorem call_lenK {X : Cx} : CallR X (.builtin "len") (rLen X.K) := call_len_seq
theorem k_lenL {p : Addr} {xs : List V} (h : SqL K H p xs) (q : Q (.int (xs.length : Int)) H) : rLen K [.ref p] H Q := ⟨p, xs, rfl, .inl h, q⟩
theorem k_lenT {p : Addr} {xs : List V} (h : SqT K H p xs) (q : Q (.int (xs.length : Int)) H) : rLen K [.ref p] H Q := ⟨p, xs, rfl, .inr h, q⟩
theorem k_clear {l : Addr} {xs : List V} (h : H l = some (.lst xs)) (q : Q .non (upd H l (.lst []))) : rClear (.ref l) [] H Q := ⟨l, xs, rfl, rfl, h, q⟩
theorem k_extend {l b : Addr} {xs zs : List V} (h : H l = some (.lst xs)) (h2 : H b = some (.lst zs)) (hn : xs.length + zs.length ≤ 1000000) (q : Q .non (upd H l (.lst (xs ++ zs)))) : rExtend (.ref l) [.ref b] H Q := ⟨l, b, xs, zs, rfl, rfl, h, h2, Nat.le_trans hn (by decide), q⟩
theorem k_pop {l : Addr} {xs : List V} (h : H l = some (.lst (xs ++ [y]))) (q : Q y (upd H l (.lst xs))) : rPop (.ref l) [] H Q := ⟨l, xs ++ [y], y, rfl, rfl, h, by simp, by rw [List.dropLast_concat]; exact q⟩
def rTupOf (K : PySem.W.Frag) : List V → Hp → VK → Prop := fun xs H Q => ∃ p ys, xs = [.ref p] ∧ ((SqL K H p ys ∧ ∀ l, H l = none → Q (.ref l) (upd H l (.tup ys))) ∨ (SqT K H p ys ∧ Q (.ref p) H))
theorem call_tupK {X : Cx} : CallR X (.type "tuple") (rTupOf X.K) := call_tuple_of
theorem k_tupL {p : Addr} {xs : List V} (h : SqL K H p xs) (q : ∀ l, H l = none → Q (.ref l) (upd H l (.tup xs))) : rTupOf K [.ref p] H Q := ⟨p, xs, rfl, .inl ⟨h, q⟩⟩
def rLenStr : List V → Hp → VK → Prop := fun xs H Q => ∃ z : Str, xs = [.str z] ∧ z.length ≤ sizeLine ∧ Q (.int z.length) H
def rAddStr : R2 := fun x y H Q => ∃ i j : Str, x = .str i ∧ y = .str j ∧ i.length + j.length ≤ sizeLine ∧ Q (.str (i ++ j)) H
def rMin2 : List V → Hp → VK → Prop := fun xs H Q => ∃ i j, xs = [.int i, .int j] ∧ Q (.int (if j < i then j else i)) H
def rMax2 : List V → Hp → VK → Prop := fun xs H Q => ∃ i j, xs = [.int i, .int j] ∧ Q (.int (if j > i then j else i)) H
theorem call_min2K {X : Cx} (hc : X.calm = true) : CallR X (.builtin "min") rMin2 := call_min2 hc
theorem call_max2K {X : Cx} (hc : X.calm = true) : CallR X (.builtin "max") rMax2 := call_max2 hc
theorem k_min2 {a b : Int} (q : Q (.int (if b < a then b else a)) H) : rMin2 [.int a, .int b] H Q := ⟨a, b, rfl, q⟩
theorem k_max2 {a b : Int} (q : Q (.int (if b > a then b else a)) H) : rMax2 [.int a, .int b] H Q := ⟨a, b, rfl, q⟩
def rListOf (K : PySem.W.Frag) : List V → Hp → VK → Prop := fun xs H Q => ∃ p ys, xs = [.ref p] ∧ (SqL K H p ys ∨ SqT K H p ys) ∧ ∀ l, H l = none → Q (.ref l) (upd H l (.lst ys))
theorem call_listK {X : Cx} : CallR X (.type "list") (rListOf X.K) := call_list_of
theorem k_listL {p : Addr} {xs : List V} (h : SqL K H p xs) (q : ∀ l, H l = none → Q (.ref l) (upd H l (.lst xs))) : rListOf K [.ref p] H Q := ⟨p, xs, rfl, .inl h, q⟩
theorem k_sum {p : Addr} {ns : List Int} (h : SqL K H p (ns.map V.int)) (q : Q (.int ns.sum) H) : rSum K [.ref p] H Q := ⟨p, ns, rfl, h, q⟩
theorem k_isInt {a : Int} (q : Q (.bl true) H) : rIsB [.int a, .ty "int"] H Q := ⟨.int a, "int", rfl, "int", true, fun _ => .base (.int a), by decide +kernel, q⟩
theorem k_isBool {a : Int} (q : Q (.bl false) H) : rIsB [.int a, .ty "bool"] H Q := ⟨.int a, "bool", rfl, "int", false, fun _ => .base (.int a), by decide +kernel, q⟩
theorem k_isIntN (q : Q (.bl false) H) : rIsB [.non, .ty "int"] H Q := ⟨.non, "int", rfl, "NoneType", false, fun _ => .base .non, by decide +kernel, q⟩
theorem k_isList {a : Addr} {xs : List V} (h : H a = some (.lst xs)) (q : Q (.bl true) H) : rIsB [.ref a, .ty "list"] H Q := ⟨.ref a, "list", rfl, "list", true, fun _ => .base (.lst h), by decide +kernel, q⟩
theorem k_isTup {a : Addr} {xs : List V} (h : H a = some (.tup xs)) (q : Q (.bl true) H) : rIsB [.ref a, .ty "tuple"] H Q := ⟨.ref a, "tuple", rfl, "tuple", true, fun _ => .base (.tup h), by decide +kernel, q⟩
/-! ends -/
theorem k_nx {nx : L2.St → Hp → Prop} {rt : VK} {bk ct : L2.St → Hp → Prop} (h : nx σ H) : (Ends.mk nx rt bk ct).nx σ H := h
theorem k_rt {nx : L2.St → Hp → Prop} {rt : VK} {bk ct : L2.St → Hp → Prop} (h : rt x H) : (Ends.mk nx rt bk ct).rt x H := h
/-! ifs -/
theorem k_dec {p A B : Prop} [Decidable p] (h1 : p → A) (h2 : ¬ p → B) : if decide p = true then A else B := by
  by_cases h : p
  · rw [if_pos (decide_eq_true h)]; exact h1 h
  · rw [if_neg (fun z => h (of_decide_eq_true z))]; exact h2 h
theorem k_ndec {p A B : Prop} [Decidable p] (h1 : ¬ p → A) (h2 : p → B) : if (!decide p) = true then A else B := by
  by_cases h : p
  · rw [if_neg (by rw [decide_eq_true h]; decide)]; exact h2 h
  · rw [if_pos (by rw [decide_eq_false h]; decide)]; exact h1 h
theorem k_decT {p A B : Prop} [Decidable p] (h : p) (q : A) : if decide p = true then A else B := k_dec (fun _ => q) (fun z => absurd h z)
theorem k_decF {p A B : Prop} [Decidable p] (h : ¬ p) (q : B) : if decide p = true then A else B := k_dec (fun z => absurd z h) (fun _ => q)
theorem k_ndecT {p A B : Prop} [Decidable p] (h : p) (q : B) : if (!decide p) = true then A else B := k_ndec (fun z => absurd h z) (fun _ => q)
theorem k_ndecF {p A B : Prop} [Decidable p] (h : ¬ p) (q : A) : if (!decide p) = true then A else B := k_ndec (fun _ => q) (fun z => absurd z h)
theorem k_yes (h : Qb true H) : tYes σ H Qb := h
theorem k_T {A B : Prop} (q : A) : if true = true then A else B := iteT q
theorem k_F {A B : Prop} (q : B) : if false = true then A else B := iteF q
theorem k_nT {A B : Prop} (q : B) : if (!true) = true then A else B := iteF q
theorem k_nF {A B : Prop} (q : A) : if (!false) = true then A else B := iteT q
end
/-! ### items -/
theorem at_nat {α : Type} {xs : List α} {i : Nat} {x : α} (h : xs[i]? = some x) : atI xs (i : Int) = some x := atI_nat h
theorem at_int {α : Type} {xs : List α} {i : Int} {x : α} (h0 : 0 ≤ i) (h : xs[i.toNat]? = some x) : atI xs i = some x := by
  have e : i = ((i.toNat : Nat) : Int) := by omega
  rw [e]; exact atI_nat h
theorem mapint {ns : List Int} {i : Nat} {n : Int} (h : ns[i]? = some n) : (ns.map V.int)[i]? = some (.int n) := by
  rw [List.getElem?_map, h]; rfl
theorem of_mapint {ns : List Int} {i : Nat} {v : V} (h : (ns.map V.int)[i]? = some v) : ∃ n, ns[i]? = some n ∧ v = .int n := by
  rw [List.getElem?_map] at h
  cases e : ns[i]? with
  | none => rw [e] at h; cases h
  | some n => rw [e] at h; exact ⟨n, rfl, (Option.some.inj h).symm⟩
theorem cutTake (xs : List V) (n : Nat) : cutV xs none (some (n : Int)) = xs.take n := by
  unfold cutV
  rw [HT.sIx_none, HT.sIx_nat, List.drop_zero, Nat.sub_zero]
  rcases Nat.le_total n xs.length with h | h
  · rw [Nat.min_eq_left h]
  · rw [Nat.min_eq_right h, List.take_length, List.take_of_length_le h]
/-! ### steps on ends that are written out; loops -/
section
variable {σ : L2.St} {H : Hp} {Q rt : VK} {nx bk ct : L2.St → Hp → Prop} {t u tb : TS} {g : TG} {wi : TI} {c : TT} {i : Nat} {x : V} {K : PySem.W.Frag}
theorem m_seq (h : t (Ends.mk (u (Ends.mk nx rt bk ct)) rt bk ct) σ H) : tSeq t u (Ends.mk nx rt bk ct) σ H := h
theorem m_cut (Mid : L2.St → Hp → Prop) (h : t (Ends.mk Mid rt bk ct) σ H) (k : ∀ σ' H', Mid σ' H' → u (Ends.mk nx rt bk ct) σ' H') : Evl.tCut t u (Ends.mk nx rt bk ct) σ H := ⟨Mid, h, k⟩
theorem m_cut0 (h : t (Ends.mk (u (Ends.mk nx rt bk ct)) rt bk ct) σ H) : Evl.tCut t u (Ends.mk nx rt bk ct) σ H := ⟨_, h, fun _ _ x => x⟩
theorem m_bk (h : bk σ H) : tBreak (Ends.mk nx rt bk ct) σ H := h
theorem m_ct (h : ct σ H) : tCont (Ends.mk nx rt bk ct) σ H := h
theorem m_next (h : nx σ H) : tNext (Ends.mk nx rt bk ct) σ H := h
theorem m_gName {Qs : L2.St → Hp → Prop} (h : Qs (σ.set i (some x)) H) : gName i x σ H Qs := h
theorem m_call {sp : Sp} {E : XK} {tr : TA} (h : tr σ H fun vs H1 => sp vs H1 Q E) : tCall sp [] E tr σ H Q := by
  have e : (fun (vs : List V) (H1 : Hp) => sp (vs ++ []) H1 Q E) = fun vs H1 => sp vs H1 Q E := by
    funext vs H1; rw [List.append_nil]
  show tr σ H fun vs H1 => sp (vs ++ []) H1 Q E
  rw [e]; exact h
/-- a for loop over what J yields -/
def LoopOk (J : It) (g : TG) (tb : TS) (nx : L2.St → Hp → Prop) (rt : VK) (σ : L2.St) (H : Hp) : Prop :=
  ∃ W : Nat → Nat → L2.St → Hp → Prop, (∃ m, W 0 m σ H) ∧ ∀ i m σ H, W i m σ H →
  (J.stop i H ∧ nx σ H) ∨ (J.go i H ∧ ∃ N : L2.St → Hp → Prop, (∀ σ' H', N σ' H' → ∃ m', m' < m ∧ W (i + 1) m' σ' H') ∧ ∀ x H', J.yld i H x H' → g x σ H' fun σ2 H2 => tb (Ends.mk N rt nx N) σ2 H2)
theorem m_for (h : wi σ H fun J H1 => LoopOk J g tb nx rt σ H1) : tFor wi g tb (Ends.mk nx rt bk ct) σ H := h
def Rng1K (R : It → Hp → Prop) (vs : List V) (H : Hp) : Prop := ∃ j : Int, vs = [.int j] ∧ -(2 ^ 62) ≤ j ∧ j < 2 ^ 62 ∧ R (Itr 0 j.toNat) H
theorem m_rng1 {ta : TA} {R : It → Hp → Prop} (h : ta σ H (Rng1K R)) : iRng1 ta σ H R := h
theorem m_rng1e {R : It → Hp → Prop} {a : Int} (h1 : -(2 ^ 62) ≤ a ∧ a < 2 ^ 62) (h : R (Itr 0 a.toNat) H) : Rng1K R [V.int a] H := ⟨a, rfl, h1.1, h1.2, h⟩
theorem m_rng1n {R : It → Hp → Prop} {a : Nat} (h1 : (a : Int) < 2 ^ 62) (h : R (Itr 0 a) H) : Rng1K R [V.int (a : Int)] H := ⟨a, rfl, by omega, h1, by rw [Int.toNat_natCast]; exact h⟩
def Rng2K (R : It → Hp → Prop) (vs : List V) (H : Hp) : Prop := ∃ i j : Int, vs = [.int i, .int j] ∧ (-(2 ^ 62) ≤ i ∧ i < 2 ^ 62 ∧ -(2 ^ 62) ≤ j ∧ j < 2 ^ 62) ∧ R (Itr i (j - i).toNat) H
theorem m_rng2 {ta : TA} {R : It → Hp → Prop} (h : ta σ H (Rng2K R)) : iRng2 ta σ H R := h
theorem m_rng2e {R : It → Hp → Prop} {a b : Int} (h1 : -(2 ^ 62) ≤ a ∧ a < 2 ^ 62 ∧ -(2 ^ 62) ≤ b ∧ b < 2 ^ 62) (h : R (Itr a (b - a).toNat) H) : Rng2K R [V.int a, V.int b] H := ⟨a, b, rfl, h1, h⟩
def ListK (K : PySem.W.Frag) (R : It → Hp → Prop) (x : V) (H : Hp) : Prop := ∃ a, x = .ref a ∧ (∃ xs, SqL K H a xs) ∧ R (Itl K a) H
theorem m_iL {tl : TE} {R : It → Hp → Prop} (h : tl σ H (ListK K R)) : iList K tl σ H R := h
theorem m_iLe {R : It → Hp → Prop} {a : Addr} {xs : List V} (hx : SqL K H a xs) (h : R (Itl K a) H) : ListK K R (V.ref a) H := ⟨a, rfl, ⟨xs, hx⟩, h⟩
def TupK (K : PySem.W.Frag) (R : It → Hp → Prop) (x : V) (H : Hp) : Prop := ∃ a, x = .ref a ∧ (∃ xs, SqT K H a xs) ∧ R (Itt K a) H
theorem m_iT {tl : TE} {R : It → Hp → Prop} (h : tl σ H (TupK K R)) : iTup K tl σ H R := h
theorem m_iTe {R : It → Hp → Prop} {a : Addr} {xs : List V} (hx : SqT K H a xs) (h : R (Itt K a) H) : TupK K R (V.ref a) H := ⟨a, rfl, ⟨xs, hx⟩, h⟩
theorem loop_range {lo : Int} {n : Nat} (Pv : Nat → L2.St → Hp → Prop) (h0 : Pv 0 σ H)
    (hs : ∀ i σ H, i < n → Pv i σ H → g (.int (lo + i)) σ H fun σ2 H2 => tb (Ends.mk (Pv (i + 1)) rt nx (Pv (i + 1))) σ2 H2) (hd : ∀ σ H, Pv n σ H → nx σ H) : LoopOk (Itr lo n) g tb nx rt σ H :=
  for_range (D := Ends.mk nx rt nx nx) Pv h0 hs hd
theorem loop_range0 {n : Nat} (Pv : Nat → L2.St → Hp → Prop) (h0 : Pv 0 σ H)
    (hs : ∀ (i : Nat) σ H, i < n → Pv i σ H → g (.int (i : Int)) σ H fun σ2 H2 => tb (Ends.mk (Pv (i + 1)) rt nx (Pv (i + 1))) σ2 H2) (hd : ∀ σ H, Pv n σ H → nx σ H) : LoopOk (Itr 0 n) g tb nx rt σ H :=
  loop_range Pv h0 (fun i σ H hi p => by rw [Int.zero_add]; exact hs i σ H hi p) hd
theorem loop_list {a : Addr} {xs : List V} (Pv : Nat → L2.St → Hp → Prop) (h0 : Pv 0 σ H) (hl : ∀ i σ H, i ≤ xs.length → Pv i σ H → SqL K H a xs)
    (hs : ∀ i x σ H, xs[i]? = some x → Pv i σ H → g x σ H fun σ2 H2 => tb (Ends.mk (Pv (i + 1)) rt nx (Pv (i + 1))) σ2 H2) (hd : ∀ σ H, Pv xs.length σ H → nx σ H) : LoopOk (Itl K a) g tb nx rt σ H :=
  for_list (D := Ends.mk nx rt nx nx) Pv h0 hl hs hd
/-- over a list of ints -/
theorem loop_ints {a : Addr} {ns : List Int} (Pv : Nat → L2.St → Hp → Prop) (h0 : Pv 0 σ H) (hl : ∀ i σ H, Pv i σ H → SqL K H a (ns.map V.int))
    (hs : ∀ i n σ H, ns[i]? = some n → Pv i σ H → g (.int n) σ H fun σ2 H2 => tb (Ends.mk (Pv (i + 1)) rt nx (Pv (i + 1))) σ2 H2) (hd : ∀ σ H, Pv ns.length σ H → nx σ H) : LoopOk (Itl K a) g tb nx rt σ H :=
  loop_list (xs := ns.map V.int) Pv h0 (fun i σ H _ p => hl i σ H p) (fun i x σ H hx p => by
    obtain ⟨n, hn, rfl⟩ := of_mapint hx
    exact hs i n σ H hn p) (fun σ H p => hd σ H (by rw [List.length_map] at p; exact p))
theorem loop_tup {a : Addr} {xs : List V} (Pv : Nat → L2.St → Hp → Prop) (h0 : Pv 0 σ H) (hl : ∀ i σ H, i ≤ xs.length → Pv i σ H → SqT K H a xs)
    (hs : ∀ i x σ H, xs[i]? = some x → Pv i σ H → g x σ H fun σ2 H2 => tb (Ends.mk (Pv (i + 1)) rt nx (Pv (i + 1))) σ2 H2) (hd : ∀ σ H, Pv xs.length σ H → nx σ H) : LoopOk (Itt K a) g tb nx rt σ H :=
  for_tup (D := Ends.mk nx rt nx nx) Pv h0 hl hs hd
def WBody (W : Nat → L2.St → Hp → Prop) (m : Nat) (tb : TS) (rt : VK) (nx : L2.St → Hp → Prop) (σ : L2.St) (H : Hp) : Prop :=
  ∃ N : L2.St → Hp → Prop, (∀ σ' H', N σ' H' → ∃ m', m' < m ∧ W m' σ' H') ∧ tb (Ends.mk N rt nx N) σ H
theorem m_wbody {W : Nat → L2.St → Hp → Prop} {m : Nat} (h : tb (Ends.mk (fun σ' H' => ∃ m', m' < m ∧ W m' σ' H') rt nx (fun σ' H' => ∃ m', m' < m ∧ W m' σ' H')) σ H) : WBody W m tb rt nx σ H := ⟨_, fun _ _ h => h, h⟩
theorem loop_while (W : Nat → L2.St → Hp → Prop) (m : Nat) (h0 : W m σ H)
    (hs : ∀ m σ H, W m σ H → c σ H fun b H1 => if b = true then WBody W m tb rt nx σ H1 else nx σ H1) : tWhile c tb (Ends.mk nx rt bk ct) σ H := ⟨W, ⟨m, h0⟩, hs⟩
/-- a comprehension over what J yields -/
def CompOk (J : It) (g : TG) (tt : TT) (te : TE) (vs : List Nat) (σ : L2.St) (H1 : Hp) (Q : VK) : Prop :=
  ∀ D, H1 D = none → ∃ W : Nat → Nat → Hp → Prop, (∃ m, W 0 m (upd H1 D (.lst []))) ∧ ∀ i m H, W i m H →
  (J.stop i H ∧ Q (.ref D) H) ∨ (J.go i H ∧ ∃ Nx : Hp → Prop, (∀ H', Nx H' → ∃ m', m' < m ∧ W (i + 1) m' H') ∧ ∀ x H', J.yld i H x H' → g x (wipe σ vs) H' fun σ2 H2 => wipe σ2 vs = wipe σ vs ∧ tt σ2 H2 fun b H3 =>
    if b = true then te σ2 H3 fun y H4 => ∃ acc, H4 D = some (.lst acc) ∧ acc.length < sizeLine ∧ Nx (upd H4 D (.lst (acc ++ [y]))) else Nx H3)
theorem m_lc {tt : TT} {te : TE} {vs : List Nat} (h : wi σ H fun J H1 => CompOk J g tt te vs σ H1 Q) : tLc wi g tt te vs σ H Q := h
/-- over a range, no test, pure elements f i: the list made -/
theorem comp_rangeV {n : Nat} {te : TE} {j : Nat} {f : Nat → V} (hn : n ≤ 100000)
    (he : ∀ (k : Nat) (H2 : Hp) (Q2 : VK), k < n → Same H H2 → (∀ H3, Same H2 H3 → Q2 (f k) H3) → te ((wipe σ [j]).set j (some (.int (k : Int)))) H2 Q2)
    (q : ∀ p H', H p = none → Same H H' → H' p = some (.lst ((List.range n).map f)) → Q (.ref p) H') (hw : ∀ x, wipe ((wipe σ [j]).set j (some x)) [j] = wipe σ [j] := by intro _; rfl) : CompOk (Itr 0 n) (gName j) tYes te [j] σ H Q := by
  intro Dl hD
  refine lc_range (lo := 0) (n := n) (fun i H' => Same H H' ∧ H' Dl = some (.lst ((List.range i).map f))) ⟨same_new hD, upd_same⟩ (fun i H' hi p => ?_) (fun H' p => q Dl H' hD p.1 p.2)
  obtain ⟨p1, p2⟩ := p
  refine ⟨hw _, ?_⟩
  refine k_yes (iteT ?_)
  rw [Int.zero_add]
  refine he i H' _ hi p1 (fun H3 s3 => ⟨_, s3.get p2, ?_, Same.mut (p1.trans s3) hD ⟨_, s3.get p2⟩, ?_⟩)
  · rw [List.length_map, List.length_range]; exact Nat.lt_of_lt_of_le (Nat.lt_of_lt_of_le hi hn) (by decide)
  · rw [upd_same, List.range_succ, List.map_append]; rfl
/-- over a list, no test, pure elements -/
theorem comp_listV {a : Addr} {xs ys : List V} {te : TE} {j : Nat} (hl : SqL K H a xs) (hn : xs.length ≤ 100000) (hy : ys.length = xs.length)
    (he : ∀ (k : Nat) (x y : V) (H2 : Hp) (Q2 : VK), xs[k]? = some x → ys[k]? = some y → Same H H2 → (∀ H3, Same H2 H3 → Q2 y H3) → te ((wipe σ [j]).set j (some x)) H2 Q2)
    (q : ∀ p H', H p = none → Same H H' → H' p = some (.lst ys) → Q (.ref p) H') (hw : ∀ x, wipe ((wipe σ [j]).set j (some x)) [j] = wipe σ [j] := by intro _; rfl) : CompOk (Itl K a) (gName j) tYes te [j] σ H Q := by
  intro Dl hD
  refine lc_list (xs := xs) (fun i H' => Same H H' ∧ H' Dl = some (.lst (ys.take i))) ⟨same_new hD, upd_same⟩ (fun i H' _ p => p.1.seq hl) (fun i x H' hi p => ?_) (fun H' p => q Dl H' hD p.1 (by rw [p.2, ← hy, List.take_length]))
  obtain ⟨p1, p2⟩ := p
  refine ⟨hw _, ?_⟩
  refine k_yes (iteT ?_)
  have hlt : i < xs.length := (List.getElem?_eq_some_iff.mp hi).1
  obtain ⟨y, ey⟩ : ∃ y, ys[i]? = some y := ⟨ys[i]'(by omega), List.getElem?_eq_getElem (by omega)⟩
  refine he i x y H' _ hi ey p1 (fun H3 s3 => ⟨_, s3.get p2, ?_, Same.mut (p1.trans s3) hD ⟨_, s3.get p2⟩, ?_⟩)
  · rw [List.length_take]; exact Nat.lt_of_le_of_lt (Nat.min_le_right _ _) (Nat.lt_of_lt_of_le (show ys.length < 100001 by omega) (by decide))
  · rw [upd_same, List.take_add_one, ey]; rfl
end
/-! ### loops over any walk -/
section
variable {σ : L2.St} {H : Hp} {Q rt : VK} {nx bk ct : L2.St → Hp → Prop} {t u tb : TS} {g : TG} {i : Nat} {x : V} {K : PySem.W.Frag} {J : It} {n : Nat} {G : Hp → Prop} {Y : Nat → Hp → V → Hp → Prop}
theorem loop_walk (w : Walk J n G Y) (Pv : Nat → L2.St → Hp → Prop) (h0 : Pv 0 σ H) (hG : ∀ i σ H, Pv i σ H → G H)
    (hs : ∀ i x σ H H', i < n → Pv i σ H → Y i H x H' → g x σ H' fun σ2 H2 => tb (Ends.mk (Pv (i + 1)) rt nx (Pv (i + 1))) σ2 H2) (hd : ∀ σ H, Pv n σ H → nx σ H) : LoopOk J g tb nx rt σ H :=
  for_it (D := Ends.mk nx rt nx nx) w Pv h0 (fun i σ H _ p => hG i σ H p) hs hd
/-- a comprehension with a test: at each turn the item is dropped, or f i is kept -/
theorem comp_walkV {te : TE} {tt : TT} {j : Nat} {f : Nat → Option V} (w : Walk J n G Y) (hn : n ≤ 100000) (hG : ∀ H', Same H H' → G H')
    (he : ∀ (k : Nat) (x : V) (H1 H2 : Hp) (Qb : Bool → Hp → Prop), k < n → Same H H1 → Y k H1 x H2 → (∀ b H3, Same H1 H3 → (b = true → ∀ Q2 : VK, ∀ H4, Same H3 H4 → ∃ y, f k = some y ∧ ((∀ H5, Same H4 H5 → Q2 y H5) → te ((wipe σ [j]).set j (some x)) H4 Q2)) → (b = false → f k = none) → Qb b H3) → tt ((wipe σ [j]).set j (some x)) H2 Qb)
    (q : ∀ p H', H p = none → Same H H' → H' p = some (.lst ((List.range n).filterMap f)) → Q (.ref p) H') (hw : ∀ x, wipe ((wipe σ [j]).set j (some x)) [j] = wipe σ [j] := by intro _; rfl) : CompOk J (gName j) tt te [j] σ H Q := by
  intro Dl hD
  refine lc_it w (fun i H' => Same H H' ∧ H' Dl = some (.lst ((List.range i).filterMap f))) ⟨same_new hD, upd_same⟩ (fun i H' _ p => hG H' p.1) (fun i x H' H'' hi p hy => ?_) (fun H' p => q Dl H' hD p.1 p.2)
  obtain ⟨p1, p2⟩ := p
  refine ⟨hw _, he i x H' H'' _ hi p1 hy (fun b H3 s3 hb1 hb0 => ?_)⟩
  have hl : ((List.range i).filterMap f).length < sizeLine := Nat.lt_of_le_of_lt (List.length_filterMap_le f (List.range i)) (by rw [List.length_range]; exact Nat.lt_of_lt_of_le (Nat.lt_of_lt_of_le hi hn) (by decide))
  cases b with
  | true =>
    refine iteT ?_
    obtain ⟨y, ey, go⟩ := hb1 rfl (fun y H4 => ∃ acc, H4 Dl = some (.lst acc) ∧ acc.length < sizeLine ∧ Same H (upd H4 Dl (.lst (acc ++ [y]))) ∧ upd H4 Dl (.lst (acc ++ [y])) Dl = some (.lst ((List.range (i + 1)).filterMap f))) H3 (Same.refl _)
    refine go fun H5 s5 => ⟨_, s5.get (s3.get p2), hl, Same.mut ((p1.trans s3).trans s5) hD ⟨_, s5.get (s3.get p2)⟩, ?_⟩
    rw [upd_same, List.range_succ, List.filterMap_append]
    show _ = some (HO.lst (_ ++ List.filterMap f [i]))
    rw [List.filterMap_cons, ey]; rfl
  | false =>
    refine iteF ⟨p1.trans s3, ?_⟩
    rw [List.range_succ, List.filterMap_append]
    rw [show List.filterMap f [i] = [] by rw [List.filterMap_cons, hb0 rfl]; rfl, List.append_nil]
    exact s3.get p2
theorem k_rev {a : Addr} {xs : List V} {ta : TA} {R : It → Hp → Prop} (h : ta σ H fun vs H1 => ∃ (a : Addr) (xs : List V), vs = [.ref a] ∧ SqL K H1 a xs ∧ R (Itv K a xs.length) H1) : iRev K ta σ H R := h
def RevK (K : PySem.W.Frag) (R : It → Hp → Prop) (vs : List V) (H : Hp) : Prop := ∃ (a : Addr) (xs : List V), vs = [.ref a] ∧ SqL K H a xs ∧ R (Itv K a xs.length) H
theorem m_rev {ta : TA} {R : It → Hp → Prop} (h : ta σ H (RevK K R)) : iRev K ta σ H R := h
theorem m_revE {a : Addr} {xs : List V} {R : It → Hp → Prop} (hx : SqL K H a xs) (h : R (Itv K a xs.length) H) : RevK K R [.ref a] H := ⟨a, xs, rfl, hx, h⟩
def EnumK (K : PySem.W.Frag) (R : It → Hp → Prop) (vs : List V) (H : Hp) : Prop := ∃ (a : Addr) (xs : List V), vs = [.ref a] ∧ SqL K H a xs ∧ R (Ite K a) H
theorem m_enum {ta : TA} {R : It → Hp → Prop} (h : ta σ H (EnumK K R)) : iEnum K ta σ H R := h
theorem m_enumE {a : Addr} {xs : List V} {R : It → Hp → Prop} (hx : SqL K H a xs) (h : R (Ite K a) H) : EnumK K R [.ref a] H := ⟨a, xs, rfl, hx, h⟩
def ZipK (K : PySem.W.Frag) (R : It → Hp → Prop) (vs : List V) (H : Hp) : Prop := ∃ a b xs ys, vs = [.ref a, .ref b] ∧ SqL K H a xs ∧ SqL K H b ys ∧ R (Itz K a b) H
theorem m_zip {ta : TA} {R : It → Hp → Prop} (h : ta σ H (ZipK K R)) : iZip K ta σ H R := h
theorem m_zipE {a b : Addr} {xs ys : List V} {R : It → Hp → Prop} (hx : SqL K H a xs) (hy : SqL K H b ys) (h : R (Itz K a b) H) : ZipK K R [.ref a, .ref b] H := ⟨a, b, xs, ys, rfl, hx, hy, h⟩
def RevLK (K : PySem.W.Frag) (Q : VK) (x : V) (H : Hp) : Prop := ∃ a xs, x = .ref a ∧ SqL K H a xs ∧ ∀ p, H p = none → Q (.ref p) (upd H p (.lst xs.reverse))
theorem m_revL {te : TE} (h : te σ H (RevLK K Q)) : tRevL K te σ H Q := h
theorem m_revLE {a : Addr} {xs : List V} (hx : SqL K H a xs) (q : ∀ p, H p = none → Q (.ref p) (upd H p (.lst xs.reverse))) : RevLK K Q (.ref a) H := ⟨a, xs, rfl, hx, q⟩
def Rng3K (R : It → Hp → Prop) (vs : List V) (H : Hp) : Prop := ∃ i j c n, vs = [.int i, .int j, .int c] ∧ RgC i j c n ∧ R (Itc i c n) H
theorem m_rng3 {ta : TA} {R : It → Hp → Prop} (h : ta σ H (Rng3K R)) : iRng3 ta σ H R := h
theorem m_rng3e {R : It → Hp → Prop} {a b c : Int} {n : Nat} (h1 : RgC a b c n) (h : R (Itc a c n) H) : Rng3K R [V.int a, V.int b, V.int c] H := ⟨a, b, c, n, rfl, h1, h⟩
/-- targets that are pairs -/
def GTupK (K : PySem.W.Frag) (n : Nat) (tg : TGs) (Qs : L2.St → Hp → Prop) (x : V) (σ : L2.St) (H : Hp) : Prop := ∃ a xs, x = .ref a ∧ SqT K H a xs ∧ xs.length = n ∧ tg xs σ H Qs
theorem m_gTup {tg : TGs} {Qs : L2.St → Hp → Prop} {a : Addr} {xs : List V} (hx : SqT K H a xs) (hn : xs.length = n) (h : tg xs σ H Qs) : gTup K n tg (.ref a) σ H Qs := ⟨a, xs, rfl, hx, hn, h⟩
theorem m_gCons {t1 : TG} {ts : TGs} {Qs : L2.St → Hp → Prop} {xs : List V} (h : t1 x σ H fun σ' H' => ts xs σ' H' Qs) : gCons t1 ts (x :: xs) σ H Qs := ⟨x, xs, rfl, h⟩
theorem m_gNil {Qs : L2.St → Hp → Prop} (h : Qs σ H) : gNil [] σ H Qs := ⟨rfl, h⟩
theorem m_asg {te : TE} (h : te σ H fun x H1 => g x σ H1 nx) : tAsg te g (Ends.mk nx rt bk ct) σ H := h
theorem k_rep {Q : VK} {l : Addr} {xs : List V} {n : Nat} (h : H l = some (.lst xs)) (hn : xs.length * n ≤ 1000000) (hn2 : n ≤ 1000000) (q : ∀ p, H p = none → Q (.ref p) (upd H p (.lst (List.replicate n xs).flatten))) : rRep (.ref l) (.int (n : Int)) H Q :=
  ⟨l, n, xs, rfl, rfl, h, by omega, by omega, by rw [Int.toNat_natCast]; exact Nat.le_trans hn (by decide), by rw [Int.toNat_natCast]; exact q⟩
theorem k_cat {Q : VK} {l b : Addr} {xs zs : List V} (h1 : H l = some (.lst xs)) (h2 : H b = some (.lst zs)) (hn : xs.length + zs.length ≤ 1000000) (q : ∀ p, H p = none → Q (.ref p) (upd H p (.lst (xs ++ zs)))) : rCat (.ref l) (.ref b) H Q :=
  ⟨l, b, xs, zs, rfl, rfl, h1, h2, Nat.le_trans hn (by decide), q⟩
theorem rep_one (x : V) (n : Nat) : (List.replicate n [x]).flatten = List.replicate n x := by
  induction n with
  | zero => rfl
  | succ n ih => rw [List.replicate_succ, List.flatten_cons, ih]; rfl
theorem m_gSub {to ti : TE} {ts : TSet} {Qs : L2.St → Hp → Prop} (h : to σ H fun o H1 => ti σ H1 fun i H2 => ts o i x H2 fun H3 => Qs σ H3) : gSub to ti ts x σ H Qs := h
theorem m_setL {p : Addr} {xs : List V} {k : Int} {j : Nat} {y : V} {Qh : Hp → Prop} (h : H p = some (.lst xs)) (hj : ixN xs.length k = some j) (q : Qh (upd H p (.lst (xs.set j y)))) : rSetL (.ref p) (.int k) y H Qh := ⟨p, xs, k, j, rfl, rfl, h, hj, q⟩
theorem ixN_nat {n : Nat} {k : Int} (h0 : 0 ≤ k) (h1 : k < n) : ixN n k = some k.toNat := by
  unfold ixN; rw [if_pos h0, if_pos h1]
def ParK (nx : L2.St → Hp → Prop) (i j : Nat) (σ : L2.St) (vs : List V) (H : Hp) : Prop := ∃ v w, vs = [v, w] ∧ nx ((σ.set i (some v)).set j (some w)) H
theorem m_par {i j : Nat} {ta : TA} (h : ta σ H (ParK nx i j σ)) : tPar i j ta (Ends.mk nx rt bk ct) σ H := h
theorem m_parE {i j : Nat} {a b : V} (h : nx ((σ.set i (some a)).set j (some b)) H) : ParK nx i j σ [a, b] H := ⟨a, b, rfl, h⟩
theorem k_divmod {Q : VK} {a b : Int} (h : CDivP a b) (q : ∀ p, H p = none → Q (.ref p) (upd H p (.tup [.int (a / b), .int (a % b)]))) : rDivmod [.int a, .int b] H Q := ⟨a, b, rfl, h, q⟩
end
/-! ### what a comprehension with a test leaves -/
theorem fm_head {α : Type} {f : Nat → Option α} : ∀ {n : Nat} {y : α}, ((List.range n).filterMap f)[0]? = some y → ∃ i, i < n ∧ f i = some y ∧ ∀ j, j < i → f j = none
  | 0, y, h => by simp at h
  | n + 1, y, h => by
    rw [List.range_succ, List.filterMap_append] at h
    cases e : (List.range n).filterMap f with
    | cons z zs =>
      rw [e] at h
      have h' : ((List.range n).filterMap f)[0]? = some y := by rw [e]; simpa using h
      obtain ⟨i, h1, h2, h3⟩ := fm_head h'
      exact ⟨i, by omega, h2, h3⟩
    | nil =>
      rw [e, List.nil_append] at h
      have none_all : ∀ j, j < n → f j = none := fun j hj => List.filterMap_eq_nil_iff.mp e j (List.mem_range.mpr hj)
      cases q : f n with
      | none => rw [List.filterMap_cons, q] at h; simp at h
      | some z =>
        rw [List.filterMap_cons, q] at h
        have : z = y := by simpa using h
        subst this
        exact ⟨n, by omega, q, none_all⟩
theorem fm_last {α : Type} {f : Nat → Option α} : ∀ {n : Nat} {y : α} {ys : List α}, (List.range n).filterMap f = ys ++ [y] → ∃ i, i < n ∧ f i = some y ∧ ∀ j, i < j → j < n → f j = none
  | 0, y, ys, h => by simp at h
  | n + 1, y, ys, h => by
    rw [List.range_succ, List.filterMap_append] at h
    cases q : f n with
    | none =>
      rw [show List.filterMap f [n] = [] by rw [List.filterMap_cons, q]; rfl, List.append_nil] at h
      obtain ⟨i, h1, h2, h3⟩ := fm_last h
      refine ⟨i, by omega, h2, fun j h4 h5 => ?_⟩
      rcases Nat.lt_or_ge j n with h6 | h6
      · exact h3 j h4 h6
      · have : j = n := by omega
        subst this; exact q
    | some z =>
      rw [show List.filterMap f [n] = [z] by rw [List.filterMap_cons, q]; rfl] at h
      have e := List.append_inj_right' h rfl
      injection e with e
      subst e
      exact ⟨n, by omega, q, fun j h4 h5 => by omega⟩
theorem fm_nil {α : Type} {f : Nat → Option α} {n : Nat} (h : (List.range n).filterMap f = []) : ∀ j, j < n → f j = none := fun j hj => List.filterMap_eq_nil_iff.mp h j (List.mem_range.mpr hj)
theorem fm_id {α : Type} (l : List α) {n : Nat} (hn : n = l.length) : (List.range n).filterMap (fun k => l[k]?) = l := by
  subst hn
  have h : ∀ n, n ≤ l.length → (List.range n).filterMap (fun k => l[k]?) = l.take n := by
    intro n
    induction n with
    | zero => intro _; rfl
    | succ n ih =>
      intro hn
      rw [List.range_succ, List.filterMap_append, ih (by omega), List.take_add_one, List.getElem?_eq_getElem (show n < l.length by omega)]
      congr 1
      rw [List.filterMap_cons, List.getElem?_eq_getElem (show n < l.length by omega)]; rfl
  rw [h _ (Nat.le_refl _), List.take_length]
theorem snoc_of {α : Type} : ∀ {l : List α}, l ≠ [] → ∃ ys y, l = ys ++ [y]
  | [], h => absurd rfl h
  | a :: l, _ => ⟨(a :: l).dropLast, (a :: l).getLast (List.cons_ne_nil _ _), (List.dropLast_concat_getLast _).symm⟩
theorem cutPart (xs : List V) (a b : Nat) : cutV xs (some (a : Int)) (some (b : Int)) = (xs.take b).drop a := by
  unfold cutV
  rw [HT.sIx_nat, HT.sIx_nat, List.drop_take]
  rcases Nat.le_total a xs.length with h | h
  · rw [Nat.min_eq_left h]
    rcases Nat.le_total b xs.length with h2 | h2
    · rw [Nat.min_eq_left h2]
    · rw [Nat.min_eq_right h2, List.take_of_length_le (by rw [List.length_drop]; omega), List.take_of_length_le (by rw [List.length_drop]; omega)]
  · rw [Nat.min_eq_right h, List.drop_of_length_le (Nat.le_refl _), List.drop_of_length_le h]
    simp
theorem cutDrop (xs : List V) (a : Nat) : cutV xs (some (a : Int)) none = xs.drop a := by
  unfold cutV
  rw [HT.sIx_nat, HT.sIx_none]
  rcases Nat.le_total a xs.length with h | h
  · rw [Nat.min_eq_left h, List.take_of_length_le (by rw [List.length_drop]; omega)]
  · rw [Nat.min_eq_right h, List.drop_of_length_le (Nat.le_refl _), List.drop_of_length_le h]
    simp
/-! ### data at any depth -/
section
variable {H H' : Hp} {K : PySem.W.Frag}
theorem dpAll_ints : ∀ ns : List Int, DpAll K H (ns.map V.int) (ns.map PyData.int)
  | [] => .nil
  | n :: ns => .cons (.int n) (dpAll_ints ns)
theorem dpAll_bools : ∀ bs : List Bool, DpAll K H (bs.map V.bl) (bs.map PyData.bool)
  | [] => .nil
  | b :: bs => .cons (.bl b) (dpAll_bools bs)
theorem dp_ints {a : Addr} {ns : List Int} (h : SqL K H a (ns.map V.int)) : Dp K H (.ref a) (.list (ns.map PyData.int)) := .lst h (dpAll_ints ns)
theorem dp_intsT {a : Addr} {ns : List Int} (h : SqT K H a (ns.map V.int)) : Dp K H (.ref a) (.tuple (ns.map PyData.int)) := .tup h (dpAll_ints ns)
theorem eqvAll_ints : ∀ as bs : List Int, PyData.eqvAll (as.map PyData.int) (bs.map PyData.int) = decide (as = bs)
  | [], [] => by rw [List.map_nil]; unfold PyData.eqvAll; rfl
  | [], b :: bs => by rw [List.map_nil, List.map_cons]; unfold PyData.eqvAll; simp
  | a :: as, [] => by rw [List.map_nil, List.map_cons]; unfold PyData.eqvAll; simp
  | a :: as, b :: bs => by
    rw [List.map_cons, List.map_cons]; unfold PyData.eqvAll
    rw [eqvAll_ints as bs]
    unfold PyData.eqv
    by_cases h : a = b
    · subst h; by_cases h2 : as = bs
      · subst h2; simp
      · simp [h2]
    · simp [h]
theorem eqv_ints (as bs : List Int) : PyData.eqv (.list (as.map PyData.int)) (.list (bs.map PyData.int)) = decide (as = bs) := by
  unfold PyData.eqv; exact eqvAll_ints as bs
theorem eqv_intsT (as bs : List Int) : PyData.eqv (.tuple (as.map PyData.int)) (.tuple (bs.map PyData.int)) = decide (as = bs) := by
  unfold PyData.eqv; exact eqvAll_ints as bs
/-- laid: no dict, texts in order, at most so deep -/
def laid (n : Nat) (d : PyData) : Prop := d.canLay0 = true ∧ d.depth ≤ n
theorem laid_int {n : Nat} (i : Int) : laid n (.int i) := ⟨by simp [PyData.canLay0], by simp [PyData.depth]⟩
theorem laid_bool {n : Nat} (i : Bool) : laid n (.bool i) := ⟨by simp [PyData.canLay0], by simp [PyData.depth]⟩
theorem laid_none {n : Nat} : laid n .none := ⟨by simp [PyData.canLay0], by simp [PyData.depth]⟩
theorem laid_all {n : Nat} : ∀ ds : List PyData, (∀ d ∈ ds, laid n d) → PyData.canLayAll0 ds = true ∧ PyData.depthAll ds ≤ n
  | [], _ => ⟨by simp [PyData.canLayAll0], by simp [PyData.depthAll]⟩
  | d :: ds, h => by
    obtain ⟨h1, h2⟩ := h d List.mem_cons_self
    obtain ⟨h3, h4⟩ := laid_all ds fun x hx => h x (List.mem_cons_of_mem _ hx)
    exact ⟨by simp [PyData.canLayAll0, h1, h3], by simp only [PyData.depthAll]; omega⟩
theorem laid_list {n : Nat} {ds : List PyData} (h : ∀ d ∈ ds, laid n d) : laid (n + 1) (.list ds) := by
  obtain ⟨h1, h2⟩ := laid_all ds h
  exact ⟨by simp [PyData.canLay0, h1], by simp only [PyData.depth]; omega⟩
theorem laid_tup {n : Nat} {ds : List PyData} (h : ∀ d ∈ ds, laid n d) : laid (n + 1) (.tuple ds) := by
  obtain ⟨h1, h2⟩ := laid_all ds h
  exact ⟨by simp [PyData.canLay0, h1], by simp only [PyData.depth]; omega⟩
theorem laid_ints {n : Nat} (ns : List Int) : laid (n + 1) (.list (ns.map PyData.int)) := laid_list fun d hd => by
  obtain ⟨i, _, rfl⟩ := List.mem_map.mp hd
  exact laid_int i
theorem laid_intsT {n : Nat} (ns : List Int) : laid (n + 1) (.tuple (ns.map PyData.int)) := laid_tup fun d hd => by
  obtain ⟨i, _, rfl⟩ := List.mem_map.mp hd
  exact laid_int i
theorem laid_bools {n : Nat} (bs : List Bool) : laid (n + 1) (.list (bs.map PyData.bool)) := laid_list fun d hd => by
  obtain ⟨i, _, rfl⟩ := List.mem_map.mp hd
  exact laid_bool i
theorem laid_shaped {d : PyData} (h : laid 64 d) : SeqAt.shaped d = true := by
  obtain ⟨h1, h2⟩ := h
  unfold SeqAt.shaped
  rw [h1, decide_eq_true h2]; rfl
theorem k_eqD {Q : VK} {x y : V} {d e : PyData} (h1 : Dp K H x d) (h2 : Dp K H y e) (l1 : laid 64 d) (l2 : laid 64 e) (q : Q (.bl (PyData.eqv d e)) H) : rEqD K x y H Q :=
  ⟨d, e, h1, h2, laid_shaped l1, laid_shaped l2, q⟩
theorem k_neD {Q : VK} {x y : V} {d e : PyData} (h1 : Dp K H x d) (h2 : Dp K H y e) (l1 : laid 64 d) (l2 : laid 64 e) (q : Q (.bl (!PyData.eqv d e)) H) : rNeD K x y H Q :=
  ⟨d, e, h1, h2, laid_shaped l1, laid_shaped l2, q⟩
theorem k_eqL {Q : VK} {a b : Addr} {ns ms : List Int} (h1 : SqL K H a (ns.map V.int)) (h2 : SqL K H b (ms.map V.int)) (q : Q (.bl (decide (ns = ms))) H) : rEqD K (.ref a) (.ref b) H Q :=
  k_eqD (dp_ints h1) (dp_ints h2) (laid_ints ns) (laid_ints ms) (by rw [eqv_ints]; exact q)
theorem k_neL {Q : VK} {a b : Addr} {ns ms : List Int} (h1 : SqL K H a (ns.map V.int)) (h2 : SqL K H b (ms.map V.int)) (q : Q (.bl (!decide (ns = ms))) H) : rNeD K (.ref a) (.ref b) H Q :=
  k_neD (dp_ints h1) (dp_ints h2) (laid_ints ns) (laid_ints ms) (by rw [eqv_ints]; exact q)
end
/-- a row's tables: a number and a tuple of numbers -/
theorem eqv_row (n : Int) (as : List Int) : PyData.eqv (.tuple [.int n, .tuple (as.map PyData.int)]) (.tuple [.int n, .tuple (as.map PyData.int)]) = true := by
  unfold PyData.eqv PyData.eqvAll; unfold PyData.eqv PyData.eqvAll
  simp [eqv_intsT, PyData.eqvAll]
theorem dp_row {K : PySem.W.Frag} {H : Hp} {t a : Addr} {n : Int} {as : List Int} (h1 : SqT K H t [.int n, .ref a]) (h2 : SqT K H a (as.map V.int)) : Dp K H (.ref t) (.tuple [.int n, .tuple (as.map PyData.int)]) :=
  .tup h1 (.cons (.int n) (.cons (dp_intsT h2) .nil))
theorem laid_row (n : Int) (as : List Int) : laid 64 (.tuple [.int n, .tuple (as.map PyData.int)]) := laid_tup (n := 63) fun d hd => by
  simp only [List.mem_cons, List.not_mem_nil, or_false] at hd
  rcases hd with rfl | rfl
  · exact laid_int _
  · exact laid_intsT _
theorem k_eqRow {K : PySem.W.Frag} {H : Hp} {Q : VK} {t u a b : Addr} {n : Int} {as : List Int} (h1 : SqT K H t [.int n, .ref a]) (h2 : SqT K H a (as.map V.int)) (h3 : SqT K H u [.int n, .ref b]) (h4 : SqT K H b (as.map V.int)) (q : Q (.bl true) H) : rEqD K (.ref t) (.ref u) H Q :=
  k_eqD (dp_row h1 h2) (dp_row h3 h4) (laid_row n as) (laid_row n as) (by rw [eqv_row]; exact q)
theorem any_int (i : Int) : ∀ ns : List Int, ((ns.map PyData.int).any fun z => PyData.eqv z (.int i)) = decide (i ∈ ns)
  | [] => by simp
  | n :: ns => by
    rw [List.map_cons, List.any_cons, any_int i ns]
    unfold PyData.eqv
    by_cases h : n = i
    · subst h; simp
    · have h' : ¬ i = n := fun z => h z.symm
      simp [h, h']
theorem k_inL {K : PySem.W.Frag} {H : Hp} {Q : VK} {i : Int} {a : Addr} {ns : List Int} (h : SqL K H a (ns.map V.int)) (q : Q (.bl (decide (i ∈ ns))) H) : rInD K (.int i) (.ref a) H Q :=
  ⟨.int i, _, .int i, dp_ints h, laid_shaped (laid_int i), laid_shaped (laid_ints ns), by rw [any_int]; exact q⟩
theorem k_notInL {K : PySem.W.Frag} {H : Hp} {Q : VK} {i : Int} {a : Addr} {ns : List Int} (h : SqL K H a (ns.map V.int)) (q : Q (.bl (!decide (i ∈ ns))) H) : rNotInD K (.int i) (.ref a) H Q :=
  ⟨.int i, _, .int i, dp_ints h, laid_shaped (laid_int i), laid_shaped (laid_ints ns), by rw [any_int]; exact q⟩
section
variable {H : Hp} {K : PySem.W.Frag}
theorem eqvAll_bools : ∀ as bs : List Bool, PyData.eqvAll (as.map PyData.bool) (bs.map PyData.bool) = decide (as = bs)
  | [], [] => by rw [List.map_nil]; unfold PyData.eqvAll; rfl
  | [], b :: bs => by rw [List.map_nil, List.map_cons]; unfold PyData.eqvAll; simp
  | a :: as, [] => by rw [List.map_nil, List.map_cons]; unfold PyData.eqvAll; simp
  | a :: as, b :: bs => by
    rw [List.map_cons, List.map_cons]; unfold PyData.eqvAll
    rw [eqvAll_bools as bs]
    unfold PyData.eqv
    by_cases h : a = b
    · subst h; by_cases h2 : as = bs
      · subst h2; simp
      · simp [h2]
    · simp [h]
theorem eqv_bools (as bs : List Bool) : PyData.eqv (.list (as.map PyData.bool)) (.list (bs.map PyData.bool)) = decide (as = bs) := by
  unfold PyData.eqv; exact eqvAll_bools as bs
theorem dp_bools {a : Addr} {bs : List Bool} (h : SqL K H a (bs.map V.bl)) : Dp K H (.ref a) (.list (bs.map PyData.bool)) := .lst h (dpAll_bools bs)
theorem k_eqB {Q : VK} {a b : Addr} (ns ms : List Bool) (h1 : SqL K H a (ns.map V.bl)) (h2 : SqL K H b (ms.map V.bl)) (q : Q (.bl (decide (ns = ms))) H) : rEqD K (.ref a) (.ref b) H Q :=
  k_eqD (dp_bools h1) (dp_bools h2) (laid_bools ns) (laid_bools ms) (by rw [eqv_bools]; exact q)
end
theorem m_neB {H : Hp} {K : PySem.W.Frag} {Q : VK} {a b : Addr} (ns ms : List Bool) (h1 : SqL K H a (ns.map V.bl)) (h2 : SqL K H b (ms.map V.bl)) (q : Q (.bl (!decide (ns = ms))) H) : rNeD K (.ref a) (.ref b) H Q :=
  k_neD (dp_bools h1) (dp_bools h2) (laid_bools ns) (laid_bools ms) (by rw [eqv_bools]; exact q)
theorem room65 {k : Nat} {A : Around} (r : Room k A) : A.units + 65 < cLine := by have := r.un; omega
/-- list + list, whichever way they are known -/
def rCatK (K : PySem.W.Frag) : R2 := fun x y H Q => ∃ l b xs zs, x = .ref l ∧ y = .ref b ∧ SqL K H l xs ∧ SqL K H b zs ∧ xs.length + zs.length ≤ sizeLine ∧ ∀ p, H p = none → Q (.ref p) (upd H p (.lst (xs ++ zs)))
theorem op_catK {X : Cx} : OpR X (binaryOp .Add) (rCatK X.K) := by
  intro pins s σ H x y v u Q I rx ry h
  obtain ⟨l, b, xs, zs, rfl, rfl, hH, hB, hz, q⟩ := h
  cases rx
  cases ry
  obtain ⟨its, r, ⟨⟨cls, dd, data, sl⟩, n, ho, hc, hdd, hd⟩, hl⟩ := I.list hH
  obtain ⟨its2, r2, ⟨⟨cls2, dd2, data2, sl2⟩, n2, ho2, hc2, hdd2, hd2⟩, hl2⟩ := I.list hB
  simp only at hc hdd hd hc2 hdd2 hd2
  subst hc hdd hd hc2 hdd2 hd2
  have h1 := r.length
  have h2 := r2.length
  refine concat_meets ⟨_, ho, rfl⟩ ⟨_, ho2, rfl⟩ noFill_list_add seq_list_add PySem.F.slot_list_add PySem.F.entry_list_add (PySem.F.args_list_add_2 _ _) (list_addW l b its.toArray its2.toArray n n2 none none sl sl2 (by rw [List.size_toArray, List.size_toArray]; omega)) ⟨ho, ho2, ?_⟩
  have ea : its.toArray ++ its2.toArray = (its ++ its2).toArray := by simp
  rw [ea]
  exact ⟨.ref _, _, I.lnew (t' := s.toks) (r.append r2) (by rw [List.length_append]; omega), rfl, q _ I.fresh⟩
theorem k_catK {H : Hp} {K : PySem.W.Frag} {Q : VK} {l b : Addr} {xs zs : List V} (h1 : SqL K H l xs) (h2 : SqL K H b zs) (hn : xs.length + zs.length ≤ 1000000) (q : ∀ p, H p = none → Q (.ref p) (upd H p (.lst (xs ++ zs)))) : rCatK K (.ref l) (.ref b) H Q :=
  ⟨l, b, xs, zs, rfl, rfl, h1, h2, Nat.le_trans hn (by decide), q⟩
/-! ### len(set(xs)) -/
/-- how many unlike numbers -/
def unlike (ns : List Int) : Nat := (PyProof.Rows.firstMet (fun i => ns.getD i 0) ns.length).length
theorem unlike_le (ns : List Int) : unlike ns ≤ ns.length := PyProof.Rows.firstMet_length_le _ _
def tLenSet (K : PySem.W.Frag) (ta : TE) : TE := fun σ H Q => ta σ H fun x H1 => ∃ (l : Addr) (ns : List Int), x = .ref l ∧ SqL K H1 l (ns.map V.int) ∧ ns.length ≤ 4000 ∧ Q (.int (unlike ns : Nat)) H1
theorem intsAre_vals : ∀ {ns : List Int} {us : List Value}, Vals (ns.map V.int) us → PyProof.Rows.IntsAre us ns
  | [], _, .nil => .nil
  | n :: ns, _, .cons r t => by
    obtain ⟨k, rfl⟩ := r
    exact .cons n k (intsAre_vals t)
theorem pe_lenSet {X : Cx} {a : Expr} {ta : TE} {p p2 q pos : Pos} (hg : Gl X "len") (hm : X.mg "len" = none) (hg2 : Gl X "set") (hm2 : X.mg "set" = none) (ha : PE X a ta) (hc : X.calm = true := by rfl)
    (na : starEach [a] X.env = (false, eval a X.env) :: starEach [] X.env := by rfl) : PE X (.Call (.Name "len" p) [.Call (.Name "set" p2) [a] [] q] [] pos) (tLenSet X.K ta) := by
  refine ⟨fun pins s σ H Q I h => ?_⟩
  refine Call_ (ld_blt I hg hm boot_len ?_)
  refine PyProof.Rows.callWith_builtin1 (PyProof.Rows.args_cons ?_ rfl) rfl rfl
  refine Call_ (ld_blt I hg2 hm2 boot_set ?_)
  refine PyProof.Rows.callWith_type1 (PyProof.Rows.args_cons (thn (ha.run pins s σ H _ I h) fun v s1 ⟨x, H1, I1, r1, q1⟩ => PyProof.Rows.args_nil ?_) na) na rfl
  obtain ⟨l, ns, rfl, hq, hl, q1⟩ := q1
  cases r1
  obtain ⟨its, r, pl, hz⟩ := I1.list hq
  have hlen : its.toArray.size = ns.length := by rw [List.size_toArray, ← r.length, List.length_map]
  refine call_set_list (I1.ok.hd hc) pl.isList (by simpa using intsAre_vals r) (by rw [hlen]; unfold scanBound; omega) fun h' tk hS hk => ?_
  refine PyProof.Rows.args_nil ?_
  rw [hlen] at hS
  obtain ⟨o, es, ep, t, ho, hex, hd, _, _, _, hf, hn⟩ := hS
  have I2 : Inv X pins σ H1 { s1 with heap := h', toks := tk } := I1.kept fun b o e => hk b o (Heap.lt_size e) e
  have hu := unlike_le ns
  unfold unlike at hu q1
  exact call_len_set ho hex hd hf (by rw [hn] <;> omega) ⟨.int ((PyProof.Rows.firstMet (fun i => ns.getD i 0) ns.length).length : Nat), H1, I2.tok _, ⟨_, by rw [hn]⟩, q1⟩
section
variable {σ : L2.St} {H : Hp} {Q : VK} {K : PySem.W.Frag} {te : TE}
def LenSetK (K : PySem.W.Frag) (Q : VK) (x : V) (H : Hp) : Prop := ∃ (l : Addr) (ns : List Int), x = .ref l ∧ SqL K H l (ns.map V.int) ∧ ns.length ≤ 4000 ∧ Q (.int (unlike ns : Nat)) H
theorem m_lenSet (h : te σ H (LenSetK K Q)) : tLenSet K te σ H Q := h
theorem m_lenSetE {l : Addr} {ns : List Int} (hS : SqL K H l (ns.map V.int)) (hl : ns.length ≤ 4000) (q : Q (.int (unlike ns : Nat)) H) : LenSetK K Q (.ref l) H := ⟨l, ns, rfl, hS, hl, q⟩
end
/-! ### errors: raised, let through, caught -/
section
variable {X : Cx} {E : XK} {W : WX} {k j : Nat} {ps : List Str} {sp : Sp} {x : Str} {p pos : Pos} {e : Expr} {es : List Expr} {t : TA}
theorem passX (tk : Takes X (fun cls d _ H => E cls d H)) : Passes (L2.CX X.prog X.w) X E := passes_call tk fun _ _ _ _ h => h
/-- raise C('..') -/
def tRz (W : WX) (C : Addr) : TS := fun _ σ H => W (.ref C) none σ H
/-- what stands of the class x: it can be raised -/
structure ExF (K : PySem.W.Frag) (mg : Str → Option Value) (x : Str) : Prop where
  gl : mg x = some (.ref (He.ga K x))
  ex : PySem.W.excIn K (He.ga K x) He.veBase "ValueError.__new__" = true
  kp : PySem.W.keepIn K (.ref (He.ga K x)) = true
  sb : PySem.W.subIn K (.ref (He.ga K x)) (.type "BaseException") = some true
  ty : PySem.W.typeIn K (.ref (He.ga K x)) = some (.type "type")
theorem ps_rz {m : Str} {j : Nat} {p2 pos2 : Pos} (F : ExF X.K X.mg x) (tk : Takes X W) (hc : X.calm = true := by rfl) (hg : Gl X x := by rfl) (hdb : (x == ("__debug__" : Str)) = false := by decide) :
    PS X (.Raise (some (.Call (.Name x p) [.Constant (.str m) j p2] [] pos)) none pos2) (tRz W (He.ga X.K x)) :=
  ps_raise hc tk (pmk_own PySem.F.excBase_ValueError F.ex F.gl F.kp (raises_own F.sb F.ty) hg hdb)
theorem k_rz {D : Ends} {C : Addr} {σ : L2.St} {H : Hp} (h : W (.ref C) none σ H) : tRz W C D σ H := h
/-- a call within a try's body -/
theorem pe_callFS (F : Okf X.prog X.w X.K X.mg X.base (L2.CX X.prog X.w) k x ps sp) (hr : Room j X.A) (hk : k ≤ j) (hg : Gl X x) (tk : Takes X W)
    (ha : PA X (e :: es) t) (hdb : (x == ("__debug__" : Str)) = false := by decide) (he : starEach (e :: es) X.env = (false, eval e X.env) :: starEach es X.env := by rfl) (hpl : (backTo pos (starEach es X.env)).any (·.1) = false := by rfl) :
    PE X (.Call (.Name x p) (e :: es) [] pos) (tCallS sp (WE W) t) := by
  obtain ⟨fd, _, hb, ok⟩ := F.ex
  exact pe_callS ok (hr.mono hk) hg F.gl F.kp hb (fun σ => passAt tk σ) ha hdb he hpl
theorem m_callS {E : L2.St → XK} {σ : L2.St} {H : Hp} {Q : VK} (h : t σ H fun vs H1 => sp vs H1 Q (E σ)) : tCallS sp E t σ H Q := h
/-- try: .. except C as n | except C -/
def tTryAs (K : PySem.W.Frag) (c : Value) (i : Nat) (tb : WX → TS) (ts : Addr → Value → Option Addr → TS) (Wout : WX) : TS := fun D σ H => tb (wAs K c i ts Wout D) D σ H
def tTryOnly (K : PySem.W.Frag) (c : Value) (tb : WX → TS) (ts : Addr → Value → Option Addr → TS) (Wout : WX) : TS := fun D σ H => tb (wOnly K c ts Wout D) D σ H
section
variable {K : PySem.W.Frag} {c cls : Value} {d : Option Addr} {i : Nat} {tb : WX → TS} {ts : Addr → Value → Option Addr → TS} {Wout : WX} {σ : L2.St} {H : Hp} {rt : VK} {nx bk ct : L2.St → Hp → Prop}
theorem m_tryAs (h : tb (wAs K c i ts Wout (Ends.mk nx rt bk ct)) (Ends.mk nx rt bk ct) σ H) : tTryAs K c i tb ts Wout (Ends.mk nx rt bk ct) σ H := h
theorem m_tryOnly (h : tb (wOnly K c ts Wout (Ends.mk nx rt bk ct)) (Ends.mk nx rt bk ct) σ H) : tTryOnly K c tb ts Wout (Ends.mk nx rt bk ct) σ H := h
theorem m_caught (he : PySem.W.exmOne K cls c = some true) (h : ∀ a, H a = none → ts a cls d (Ends.mk (fun σ' H' => nx (σ'.set i none) H') rt (fun σ' H' => bk (σ'.set i none) H') (fun σ' H' => ct (σ'.set i none) H')) (σ.set i (some (.ref a))) H) :
    WE (wAs K c i ts Wout (Ends.mk nx rt bk ct)) σ cls d H := ⟨true, he, fun _ => h, fun z => Bool.noConfusion z⟩
theorem m_passed (he : PySem.W.exmOne K cls c = some false) (h : Wout cls d σ H) : WE (wAs K c i ts Wout (Ends.mk nx rt bk ct)) σ cls d H := ⟨false, he, fun z => Bool.noConfusion z, fun _ => h⟩
theorem m_caughtO (he : PySem.W.exmOne K cls c = some true) (h : ∀ a, H a = none → ts a cls d (Ends.mk nx rt bk ct) σ H) :
    WE (wOnly K c ts Wout (Ends.mk nx rt bk ct)) σ cls d H := ⟨true, he, fun _ => h, fun z => Bool.noConfusion z⟩
theorem m_passedO (he : PySem.W.exmOne K cls c = some false) (h : Wout cls d σ H) : WE (wOnly K c ts Wout (Ends.mk nx rt bk ct)) σ cls d H := ⟨false, he, fun z => Bool.noConfusion z, fun _ => h⟩
end
/-- isinstance(e, c), e the error that the suite holds -/
def rIsX (K : PySem.W.Frag) (cls : Value) (d : Option Addr) (a : Addr) : List V → Hp → VK → Prop := fun xs H Q => ∃ D, cls = .ref D ∧ d = none ∧ ExcC K D ∧ rIsE K D a xs H Q
theorem call_isX {a : Addr} {oe : Obj} {cls : Value} {d : Option Addr} {pn : List (Addr × Obj)} (hz : Zc cls d oe) (hf : ∃ vs, oe.data = .fields vs) : CallR (X.suite a ((a, oe) :: pn)) (.builtin "isinstance") (rIsX X.K cls d a) := by
  intro pins s σ H xs us Q I r h
  obtain ⟨D, rfl, rfl, C, h⟩ := h
  exact call_isE C hz hf pins s σ H xs us Q I r h
theorem k_isX {K : PySem.W.Frag} {D C a : Addr} {b : Bool} {H : Hp} {Q : VK} (h : ExcC K D) (e : PySem.W.kitOne K (.ref D) (.ref C) = some b) (q : Q (.bl b) H) : rIsX K (.ref D) none a [.ref a, .ref C] H Q :=
  ⟨D, rfl, rfl, h, .ref C, .ref C, b, rfl, fun _ r => r, e, q⟩
theorem k_isXty {K : PySem.W.Frag} {D a : Addr} {n : String} {b : Bool} {H : Hp} {Q : VK} (h : ExcC K D) (e : PySem.W.kitOne K (.ref D) (.type n) = some b) (q : Q (.bl b) H) : rIsX K (.ref D) none a [.ref a, .ty n] H Q :=
  ⟨D, rfl, rfl, h, .ty n, .type n, b, rfl, fun _ r => r, e, q⟩
end
/-- isinstance(e, (c1, c2, ..)), all of them own classes -/
def rIsXT (K : PySem.W.Frag) (cls : Value) (d : Option Addr) (a : Addr) : List V → Hp → VK → Prop := fun xs H Q => ∃ (D tp : Addr) (cs : List Addr) (b : Bool), cls = .ref D ∧ d = none ∧ ExcC K D ∧ xs = [.ref a, .ref tp] ∧ H tp = some (.tup (cs.map V.ref)) ∧ PySem.W.kitAny K (.ref D) (cs.map Value.ref) = some b ∧ Q (.bl b) H
theorem clsV_all : ∀ cs : List Addr, Paired ClsV (cs.map V.ref) (cs.map Value.ref)
  | [] => .nil
  | c :: cs => .cons (.own c) (clsV_all cs)
theorem call_isXT {X : Cx} {a : Addr} {oe : Obj} {cls : Value} {d : Option Addr} {pn : List (Addr × Obj)} (hz : Zc cls d oe) (hf : ∃ vs, oe.data = .fields vs) : CallR (X.suite a ((a, oe) :: pn)) (.builtin "isinstance") (rIsXT X.K cls d a) := by
  intro pins s σ H xs us Q I r h
  obtain ⟨D, tp, cs, b, rfl, rfl, C, rfl, hT, e, q⟩ := h
  obtain ⟨u1, u2, rfl, r1, r2⟩ := vals2 r
  cases (show u1 = Value.ref a from r1)
  cases (show u2 = Value.ref tp from r2)
  obtain ⟨hget, _⟩ := I.pin (a, oe) (List.mem_append.mpr (.inl List.mem_cons_self))
  obtain ⟨vs, hv⟩ := hf
  have J : PySem.W.InstAt s.heap a oe D none := by
    obtain ⟨oc, od, oda, osl⟩ := oe
    obtain ⟨h1, h2⟩ := hz
    dsimp only at h1 h2 hv
    subst h1 h2 hv
    exact ⟨hget, rfl, rfl, trivial⟩
  obtain ⟨_, its, rv, o, h1, h2, n, h3⟩ := (show ObjOk X.prog X.w H s.heap tp (.tup (cs.map V.ref)) from I.hok tp _ hT)
  have e3 := ClsV.all (clsV_all cs) rv
  subst e3
  obtain ⟨oc, od, dt, sl⟩ := o
  simp only at h2 h3
  subst h2 h3
  exact PySem.W.kia_tup (PySem.W.handS_kitx_exc C.hg C.hk C.hs C.hd C.ha C.hn C.ht C.hm) I.kIn J h1 e (fun z => nomatch z) fun tk => ⟨.bl b, H, I.kept (t' := tk) fun _ _ z => z, rfl, q⟩
theorem kitAny_no {K : PySem.W.Frag} {t : Value} : ∀ us : List Value, (∀ u ∈ us, PySem.W.kitOne K t u = some false) → PySem.W.kitAny K t us = some false
  | [], _ => rfl
  | u :: us, h => kitAny_cons (h u List.mem_cons_self) (fun _ => kitAny_no us fun x hx => h x (List.mem_cons_of_mem _ hx)) (fun z => Bool.noConfusion z)
theorem k_isXT {K : PySem.W.Frag} {D a tp : Addr} {b : Bool} {H : Hp} {Q : VK} (cs : List Addr) (hT : H tp = some (.tup (cs.map V.ref))) (h : ExcC K D) (e : PySem.W.kitAny K (.ref D) (cs.map Value.ref) = some b) (q : Q (.bl b) H) : rIsXT K (.ref D) none a [.ref a, .ref tp] H Q :=
  ⟨D, tp, cs, b, rfl, rfl, h, rfl, hT, e, q⟩
/-! ### the head's facts, with what is asked of errors -/
inductive Fx where
  | excC (x : Str)
  | kit (x y : Str) (b : Bool)
  | kitT (x : Str) (t : String) (b : Bool)
  | exm (x y : Str) (b : Bool)
def Fx.ok (K : PySem.W.Frag) : Fx → Bool
  | .excC x => He.eqO (PySem.W.findIn K (.ref (He.ga K x)) "__getattribute__") (some (some (.builtin "BaseException.__getattribute__"))) && (He.eqO (PySem.W.findIn K (.ref (He.ga K x)) "__getattr__") (some none) &&
      (decide (PySem.W.subIn K (.ref (He.ga K x)) (.type "BaseException") = some true) && (PySem.W.hasDictIn K (He.ga K x) && (He.eqO (PySem.W.findIn K (.ref (He.ga K x)) "__class__") (some (some (.builtin "object.__class__"))) &&
      (He.eqO (PySem.W.specialIn K (.builtin "object.__class__") "__get__") (some (some (.builtin "getset_descriptor.__get__"))) && (decide (PySem.W.takesIn K (.builtin "object.__class__") = some true) && decide (PySem.W.mroIn K (He.ga K x) (.type "object") = some true)))))))
  | .kit x y b => decide (PySem.W.kitOne K (.ref (He.ga K x)) (.ref (He.ga K y)) = some b)
  | .kitT x t b => decide (PySem.W.kitOne K (.ref (He.ga K x)) (.type t) = some b)
  | .exm x y b => decide (PySem.W.exmOne K (.ref (He.ga K x)) (.ref (He.ga K y)) = some b)
theorem Fx.excC_ok {K : PySem.W.Frag} {x : Str} (c : (Fx.excC x).ok K = true) : ExcC K (He.ga K x) := by
  obtain ⟨c1, c⟩ := He.ba c
  obtain ⟨c2, c⟩ := He.ba c
  obtain ⟨c3, c⟩ := He.ba c
  obtain ⟨c4, c⟩ := He.ba c
  obtain ⟨c5, c⟩ := He.ba c
  obtain ⟨c6, c⟩ := He.ba c
  obtain ⟨c7, c8⟩ := He.ba c
  exact ⟨He.eqO_ok c1, He.eqO_ok c2, of_decide_eq_true c3, c4, He.eqO_ok c5, He.eqO_ok c6, of_decide_eq_true c7, of_decide_eq_true c8⟩
theorem Fx.kit_ok {K : PySem.W.Frag} {x y : Str} {b : Bool} (c : (Fx.kit x y b).ok K = true) : PySem.W.kitOne K (.ref (He.ga K x)) (.ref (He.ga K y)) = some b := of_decide_eq_true c
theorem Fx.kitT_ok {K : PySem.W.Frag} {x : Str} {t : String} {b : Bool} (c : (Fx.kitT x t b).ok K = true) : PySem.W.kitOne K (.ref (He.ga K x)) (.type t) = some b := of_decide_eq_true c
theorem Fx.exm_ok {K : PySem.W.Frag} {x y : Str} {b : Bool} (c : (Fx.exm x y b).ok K = true) : PySem.W.exmOne K (.ref (He.ga K x)) (.ref (He.ga K y)) = some b := of_decide_eq_true c
abbrev AlF : Type := He.AlD × Bool
def obsF (fa : List He.Fa) (fn : List He.DefD) (fx : List Fx) (K : PySem.W.Frag) : AlF := (He.obsD fa fn K, fx.all fun f => f.ok K)
def SaysF (fa : List He.Fa) (fn : List He.DefD) (fx : List Fx) (K : PySem.W.Frag) : Prop := obsF fa fn fx K = (He.valD fn, true)
def obsFG (n : Nat) (fa : List He.Fa) (fn : List He.DefD) (fx : List Fx) (g : Addr → Option Obj) : AlF := obsF fa fn fx (He.frG g (He.asD g n))
def hookF (n : Nat) (fa : List He.Fa) (fn : List He.DefD) (fx : List Fx) : PySem.W.Hook where
  α := AlF
  obs := fun s => obsFG n fa fn fx s.heap.get?
  val := fun _ => (He.valD fn, true)
  says := fun _ h => ∃ K : PySem.W.Frag, K.In h ∧ SaysF fa fn fx K
  of := fun _ _ e => ⟨_, He.frG_in, e⟩
  keeps := fun _ _ _ ⟨K, hK, c⟩ k => ⟨K, PySem.W.Frag.In.keeps hK k, c⟩
theorem obsFG_eq {n : Nat} {fa : List He.Fa} {fn : List He.DefD} {fx : List Fx} {g : Addr → Option Obj} {s : Shared} (h : ∀ a, g a = s.heap.get? a) : obsFG n fa fn fx g = (hookF n fa fn fx).obs s := by
  have e : g = s.heap.get? := funext h
  rw [e] <;> rfl
theorem SaysF.d {fa : List He.Fa} {fn : List He.DefD} {fx : List Fx} {K : PySem.W.Frag} (c : SaysF fa fn fx K) : He.SaysD fa fn K := congrArg (fun z : AlF => z.1) c
theorem SaysF.fx {fa : List He.Fa} {fn : List He.DefD} {fx : List Fx} {K : PySem.W.Frag} (c : SaysF fa fn fx K) (i : Nat) {f : Fx} (h : fx[i]? = some f := by rfl) : f.ok K = true := by
  have c1 : (fx.all fun f => f.ok K) = true := congrArg (fun z : AlF => z.2) c
  exact List.all_eq_true.mp c1 f (List.mem_of_getElem? h)
end Tw
open PySem PySem.Spec PyProof.Rows L2 Tw
set_option hygiene false in
local macro_rules | `(tactic| walk_at "s1") => `(tactic| first
  | with_reducible refine m_seq ?_
  | with_reducible refine k_asg ?_
  | with_reducible refine m_asg ?_
  | ((with_reducible refine' k_var ?kv ?_); case kv => walk_at "look")
  | with_reducible refine k_c ?_
  | with_reducible refine k_op ?_
  | with_reducible refine k_I0 ?_
  | ((with_reducible refine k_I ?kv ?_); case kv => walk_at "cond")
  | with_reducible refine k_and1 ?_
  | with_reducible refine k_eqI ?_
  | with_reducible refine k_neI ?_
  | ((with_reducible refine k_eq ?kv ?_); case kv => exact rfl)
  | ((with_reducible refine k_ne ?kv ?_); case kv => exact rfl)
  | with_reducible refine k_isN ?_
  | with_reducible refine k_notN ?_
  | with_reducible refine k_nx ?_
  | with_reducible refine k_rt ?_
  | with_reducible refine m_next ?_
  | with_reducible refine m_bk ?_
  | with_reducible refine m_ct ?_
  | with_reducible refine k_if ?_
  | with_reducible refine k_test ?_
  | with_reducible refine k_tB ?_
  | with_reducible refine k_bl ?_
  | with_reducible refine k_chain ?_
  | with_reducible refine k_chainE ?_
  | with_reducible refine k_not ?_
  | with_reducible refine k_and ?_
  | with_reducible refine k_or ?_
  | with_reducible refine k_andV ?_
  | with_reducible refine k_orV ?_
  | with_reducible refine k_notV ?_
  | with_reducible refine k_ifE ?_
  | with_reducible refine k_ret ?_
  | with_reducible refine k_retN ?_
  | with_reducible refine k_drop ?_
  | with_reducible refine k_cons ?_
  | with_reducible refine k_nil ?_
  | with_reducible refine m_call ?_
  | with_reducible refine m_callS ?_
  | with_reducible refine k_rz ?_
  | with_reducible refine m_tryAs ?_
  | with_reducible refine m_tryOnly ?_
  | with_reducible refine k_cb ?_
  | with_reducible refine k_tup ?_
  | with_reducible refine k_lst ?_
  | ((with_reducible refine' k_aug ?kv ?_); case kv => exact rfl)
  | with_reducible refine k_ipI ?_
  | with_reducible refine k_un ?_
  | with_reducible refine k_U ?_
  | with_reducible refine k_sl ?_
  | with_reducible refine k_part ?_
  | with_reducible refine k_noPart ?_
  | with_reducible refine k_partE ?_
  | with_reducible refine k_bm ?_
  | with_reducible refine k_bm0 ?_
  | with_reducible refine k_isInt ?_
  | with_reducible refine k_isBool ?_
  | with_reducible refine k_min2 ?_
  | with_reducible refine k_max2 ?_
  | with_reducible refine m_gName ?_
  | with_reducible refine m_for ?_
  | with_reducible refine m_rng1 ?_
  | ((with_reducible refine m_rng1n ?kv ?_); case kv => walk_at "arith")
  | ((with_reducible refine m_rng1e ?kv ?_); case kv => walk_at "arith")
  | with_reducible refine m_rng2 ?_
  | ((with_reducible refine m_rng2e ?kv ?_); case kv => walk_at "arith")
  | with_reducible refine m_iL ?_
  | with_reducible refine m_iT ?_
  | with_reducible refine m_lc ?_
  | ((with_reducible refine k_disp ?kv ?_); case kv => (first | decide | (simp only [List.length_cons, List.length_nil]; omega)))
  | with_reducible refine m_rev ?_
  | with_reducible refine m_revL ?_
  | with_reducible refine m_enum ?_
  | with_reducible refine m_zip ?_
  | with_reducible refine m_rng3 ?_
  | with_reducible refine m_gCons ?_
  | with_reducible refine m_gNil ?_
  | with_reducible refine m_gSub ?_
  | with_reducible refine m_par ?_
  | with_reducible refine m_parE ?_
  | with_reducible refine m_wbody ?_
  | with_reducible refine m_lenSet ?_
  | ((with_reducible refine' m_callV ?kv ?kf ?_); (case kv => walk_at "look"); (case kf => walk_at "isfn"))
  | with_reducible refine k_yes ?_
  | with_reducible refine k_T ?_
  | with_reducible refine k_F ?_
  | with_reducible refine k_nT ?_
  | with_reducible refine k_nF ?_)
local macro_rules | `(tactic| walk_at "cond") => `(tactic| first | exact ⟨by decide, by decide⟩ | omega | decide | exact ⟨by omega, by omega⟩ | exact ⟨by omega, by omega, by decide⟩ | exact Or.inr (by omega) | exact Or.inr (by decide) | exact Or.inl (by omega) | exact Or.inl (by decide) | assumption)
local macro_rules | `(tactic| walk_at "st") => `(tactic| repeat (walk_at "s1"))
local macro_rules | `(tactic| walk_at "look") => `(tactic| first | exact rfl | (simp only [List.getElem?_set, List.getElem?_cons_zero, List.getElem?_cons_succ]; exact rfl))
local macro_rules | `(tactic| walk_at "if") => `(tactic| first | with_reducible apply k_dec | with_reducible apply k_ndec)
local macro_rules | `(tactic| walk_at "arith") => `(tactic| first | decide | omega | (simp only [List.length_map, List.length_take, List.length_drop, List.length_append, List.length_cons, List.length_nil] at *; first | omega | (split <;> omega) | (split <;> split <;> omega)))
local macro_rules | `(tactic| walk_at "isfn") => `(tactic| assumption)
namespace Tw
structure KFx (K : PySem.W.Frag) : Prop where
  ec_NoPlace : ExcC K (He.ga K "NoPlace")
  kt_NoPlace : PySem.W.kitOne K (.ref (He.ga K "NoPlace")) (.type "ValueError") = some true
  k_NoPlace_NoPlace : PySem.W.kitOne K (.ref (He.ga K "NoPlace")) (.ref (He.ga K "NoPlace")) = some true
  e_NoPlace_NoPlace : PySem.W.exmOne K (.ref (He.ga K "NoPlace")) (.ref (He.ga K "NoPlace")) = some true
  k_NoPlace_TooMany : PySem.W.kitOne K (.ref (He.ga K "NoPlace")) (.ref (He.ga K "TooMany")) = some false
  e_NoPlace_TooMany : PySem.W.exmOne K (.ref (He.ga K "NoPlace")) (.ref (He.ga K "TooMany")) = some false
  k_NoPlace_WoodError : PySem.W.kitOne K (.ref (He.ga K "NoPlace")) (.ref (He.ga K "WoodError")) = some true
  e_NoPlace_WoodError : PySem.W.exmOne K (.ref (He.ga K "NoPlace")) (.ref (He.ga K "WoodError")) = some true
  ec_TooMany : ExcC K (He.ga K "TooMany")
  kt_TooMany : PySem.W.kitOne K (.ref (He.ga K "TooMany")) (.type "ValueError") = some true
  k_TooMany_NoPlace : PySem.W.kitOne K (.ref (He.ga K "TooMany")) (.ref (He.ga K "NoPlace")) = some false
  e_TooMany_NoPlace : PySem.W.exmOne K (.ref (He.ga K "TooMany")) (.ref (He.ga K "NoPlace")) = some false
  k_TooMany_TooMany : PySem.W.kitOne K (.ref (He.ga K "TooMany")) (.ref (He.ga K "TooMany")) = some true
  e_TooMany_TooMany : PySem.W.exmOne K (.ref (He.ga K "TooMany")) (.ref (He.ga K "TooMany")) = some true
  k_TooMany_WoodError : PySem.W.kitOne K (.ref (He.ga K "TooMany")) (.ref (He.ga K "WoodError")) = some true
  e_TooMany_WoodError : PySem.W.exmOne K (.ref (He.ga K "TooMany")) (.ref (He.ga K "WoodError")) = some true
  ec_WoodError : ExcC K (He.ga K "WoodError")
  kt_WoodError : PySem.W.kitOne K (.ref (He.ga K "WoodError")) (.type "ValueError") = some true
  k_WoodError_NoPlace : PySem.W.kitOne K (.ref (He.ga K "WoodError")) (.ref (He.ga K "NoPlace")) = some false
  e_WoodError_NoPlace : PySem.W.exmOne K (.ref (He.ga K "WoodError")) (.ref (He.ga K "NoPlace")) = some false
  k_WoodError_TooMany : PySem.W.kitOne K (.ref (He.ga K "WoodError")) (.ref (He.ga K "TooMany")) = some false
  e_WoodError_TooMany : PySem.W.exmOne K (.ref (He.ga K "WoodError")) (.ref (He.ga K "TooMany")) = some false
  k_WoodError_WoodError : PySem.W.kitOne K (.ref (He.ga K "WoodError")) (.ref (He.ga K "WoodError")) = some true
  e_WoodError_WoodError : PySem.W.exmOne K (.ref (He.ga K "WoodError")) (.ref (He.ga K "WoodError")) = some true

/-- _law_whole(x) -/
def sp_law_whole (_ : PySem.W.Frag) : Sp := fun vs H Q _ => ∃ x : V, vs = [x] ∧ ((∃ n : Int, x = .int n ∧ Q (.bl true) H) ∨ (x = .non ∧ Q (.bl false) H))
theorem whole_int {K : PySem.W.Frag} {H : Hp} {Q : VK} {E : XK} {n : Int} (q : Q (.bl true) H) : sp_law_whole K [.int n] H Q E := ⟨_, rfl, .inl ⟨n, rfl, q⟩⟩
theorem whole_non {K : PySem.W.Frag} {H : Hp} {Q : VK} {E : XK} (q : Q (.bl false) H) : sp_law_whole K [.non] H Q E := ⟨_, rfl, .inr ⟨rfl, q⟩⟩
theorem len_law_whole (K : PySem.W.Frag) : ∀ vs H Q E, sp_law_whole K vs H Q E → vs.length = 1 := by
  rintro vs H Q E ⟨x, rfl, _⟩; rfl
def t_law_whole (K : PySem.W.Frag) : TS :=
  (tRet (tAndV (tCB rIsB (tCons (tVar 0) (tCons (tC (.ty "int")) tNil))) (tNotV (tCB rIsB (tCons (tVar 0) (tCons (tC (.ty "bool")) tNil))))))
abbrev n_law_whole : List Str := ["_law_found"]

theorem rd_law_whole (K : PySem.W.Frag) (vs : List V) (H : Hp) (Q : VK) (E : XK) (h : sp_law_whole K vs H Q E) : t_law_whole K { nx := fun _ H' => Q .non H', rt := Q } (start n_law_whole vs) H := by
  obtain ⟨x, rfl, (⟨n, rfl, q⟩ | ⟨rfl, q⟩)⟩ := h
  · unfold t_law_whole
    walk_at "st"
    exact q
  · unfold t_law_whole
    walk_at "st"
    refine k_isIntN ?_
    walk_at "st"
    exact q

/-- _law_cell_at(script, k) -/
def sp_law_cell_at (K : PySem.W.Frag) : Sp := fun vs H Q _ => ∃ (a : Addr) (ns : List Int) (k : Int), vs = [.ref a, .int k] ∧ SqL K H a (ns.map V.int) ∧ 0 ≤ k ∧ ∀ c : Int, c = ns.getD k.toNat 0 → Q (.int c) H
theorem len_law_cell_at (K : PySem.W.Frag) : ∀ vs H Q E, sp_law_cell_at K vs H Q E → vs.length = 2 := by
  rintro vs H Q E ⟨x, y, z, rfl, _⟩; rfl
def t_law_cell_at (K : PySem.W.Frag) : TS :=
  (tSeq (tIfS (tTest (tOp rLt (tVar 1) (tCB (rLen K) (tCons (tVar 0) tNil))))
  (tRet (tOp (rIxL K) (tVar 0) (tVar 1)))
  tNext)
  (tRet (tC (.int 0))))
abbrev n_law_cell_at : List Str := ["_law_script", "_law_k"]

theorem rd_law_cell_at (K : PySem.W.Frag) (vs : List V) (H : Hp) (Q : VK) (E : XK) (h : sp_law_cell_at K vs H Q E) : t_law_cell_at K { nx := fun _ H' => Q .non H', rt := Q } (start n_law_cell_at vs) H := by
  obtain ⟨a, ns, k, rfl, hS, hk, q⟩ := h
  unfold t_law_cell_at
  walk_at "st"
  refine k_lenL hS ?_
  walk_at "st"
  rw [List.length_map]
  walk_at "if" <;> intro c
  · walk_at "st"
    have hlt : k.toNat < ns.length := by omega
    refine k_ixL hS (at_int hk (mapint (List.getElem?_eq_getElem hlt))) ?_
    walk_at "st"
    exact q _ (by rw [List.getD_eq_getElem?_getD, List.getElem?_eq_getElem hlt]; rfl)
  · walk_at "st"
    exact q _ (by rw [List.getD_eq_getElem?_getD, List.getElem?_eq_none (by omega)]; rfl)
theorem call_cell_at {K : PySem.W.Frag} {H : Hp} {Q : VK} {E : XK} {a : Addr} {ns : List Int} {k : Int} (hS : SqL K H a (ns.map V.int)) (hk : 0 ≤ k) (q : ∀ c : Int, c = ns.getD k.toNat 0 → Q (.int c) H) : sp_law_cell_at K [.ref a, .int k] H Q E :=
  ⟨a, ns, k, rfl, hS, hk, q⟩

/-! ### the heap over places: the least power of two -/
/-- the doublings from 1 until many are reached -/
def hOf (many : Nat) : Nat := if many ≤ 1 then 0 else (many - 1).log2 + 1
theorem hOf_le (many : Nat) : many ≤ 2 ^ hOf many := by
  unfold hOf
  split
  · rw [Nat.pow_zero]; omega
  · have := Nat.lt_log2_self (n := many - 1)
    omega
theorem hOf_lt {many k : Nat} (h : k < hOf many) : 2 ^ k < many := by
  unfold hOf at h
  split at h
  · omega
  · have h1 : 2 ^ k ≤ 2 ^ (many - 1).log2 := Nat.pow_le_pow_right (by decide) (by omega)
    have h2 := Nat.log2_self_le (n := many - 1) (by omega)
    omega
theorem hOf_small {many : Nat} (h : many ≤ 4096) : hOf many ≤ 12 := by
  rcases Nat.lt_or_ge 12 (hOf many) with z | z
  · have := hOf_lt z; omega
  · exact z
/-- size_of(many) -/
def sp_size_of (_ : PySem.W.Frag) : Sp := fun vs H Q _ => ∃ many : Nat, vs = [.int (many : Int)] ∧ many ≤ 100000 ∧ Q (.int ((2 ^ hOf many : Nat) : Int)) H
theorem len_size_of (K : PySem.W.Frag) : ∀ vs H Q E, sp_size_of K vs H Q E → vs.length = 1 := by
  rintro vs H Q E ⟨x, rfl, _⟩; rfl
def t_size_of (K : PySem.W.Frag) : TS :=
  (tSeq (tAsg (tC (.int 1)) (gName 1))
  (tSeq (tWhile (tTest (tOp rLt (tVar 1) (tVar 0)))
  (tAug 1 (tC (.int 2)) rTimes))
  (tRet (tVar 1))))
abbrev n_size_of : List Str := ["many", "size"]

theorem rd_size_of (K : PySem.W.Frag) (vs : List V) (H : Hp) (Q : VK) (E : XK) (h : sp_size_of K vs H Q E) : t_size_of K { nx := fun _ H' => Q .non H', rt := Q } (start n_size_of vs) H := by
  obtain ⟨many, rfl, hm, q⟩ := h
  unfold t_size_of
  walk_at "st"
  refine loop_while (fun m σ H' => ∃ k : Nat, m = hOf many - k ∧ k ≤ hOf many ∧ σ = [some (.int (many : Int)), some (.int ((2 ^ k : Nat) : Int))] ∧ H' = H) (hOf many) ⟨0, rfl, Nat.zero_le _, rfl, rfl⟩ ?_
  rintro m σ H' ⟨k, rfl, hk, rfl, rfl⟩
  walk_at "st"
  walk_at "if" <;> intro c
  · have c2 : 2 ^ k < many := by exact_mod_cast c
    have hk2 : k < hOf many := by
      rcases Nat.lt_or_ge k (hOf many) with z | z
      · exact z
      · have : k = hOf many := by omega
        subst this
        have := hOf_le many
        omega
    walk_at "st"
    refine ⟨hOf many - (k + 1), by omega, k + 1, rfl, hk2, ?_, rfl⟩
    rw [show ((2 ^ (k + 1) : Nat) : Int) = ((2 ^ k : Nat) : Int) * 2 by rw [Nat.pow_succ]; push_cast; rfl]; rfl
  · have c2 : ¬ 2 ^ k < many := by exact_mod_cast c
    have : k = hOf many := by
      rcases Nat.lt_or_ge k (hOf many) with z | z
      · exact absurd (hOf_lt z) c2
      · omega
    subst this
    walk_at "st"
    exact q

/-! ### what the nodes bear -/
def NV : Option Int → V
  | none => .non
  | some i => .int i
def minO : Option Int → Option Int → Option Int
  | none, b => b
  | a, none => a
  | some a, some b => some (if b < a then b else a)
def bearF (ns : List Int) (S : Nat) : Nat → Nat → Option Int
  | 0, n => if S ≤ n then ns[n - S]? else none
  | f + 1, n => if S ≤ n then ns[n - S]? else if n = 0 then none else minO (bearF ns S f (2 * n)) (bearF ns S f (2 * n + 1))
/-- what the node n bears, of 2 ^ h places -/
def bear (ns : List Int) (h n : Nat) : Option Int := bearF ns (2 ^ h) h n
theorem bearF_more {ns : List Int} {S : Nat} : ∀ {f n : Nat}, 1 ≤ n → S ≤ n * 2 ^ f → bearF ns S (f + 1) n = bearF ns S f n
  | 0, n, h1, h2 => by
    have h2 : S ≤ n := by simpa using h2
    show (if S ≤ n then _ else _) = (if S ≤ n then _ else _)
    rw [if_pos h2, if_pos h2]
  | f + 1, n, h1, h2 => by
    show (if S ≤ n then _ else _) = (if S ≤ n then _ else _)
    have e : n * 2 ^ (f + 1) = 2 * n * 2 ^ f := by rw [Nat.pow_succ, ← Nat.mul_assoc, Nat.mul_comm, ← Nat.mul_assoc]
    rw [e] at h2
    have h3 : S ≤ (2 * n + 1) * 2 ^ f := Nat.le_trans h2 (Nat.mul_le_mul_right _ (by omega))
    rw [bearF_more (f := f) (n := 2 * n) (by omega) h2, bearF_more (f := f) (n := 2 * n + 1) (by omega) h3]
theorem bear_leaf {ns : List Int} {h n : Nat} (l : 2 ^ h ≤ n) : bear ns h n = ns[n - 2 ^ h]? := by
  unfold bear
  cases h with
  | zero => exact if_pos l
  | succ h => exact if_pos l
theorem bear_zero (ns : List Int) (h : Nat) : bear ns h 0 = none := by
  unfold bear
  have := Nat.two_pow_pos h
  cases h with
  | zero => exact if_neg (by omega)
  | succ h => exact (if_neg (by omega)).trans (if_pos rfl)
theorem bear_node {ns : List Int} {h n : Nat} (h1 : 1 ≤ n) (h2 : n < 2 ^ h) : bear ns h n = minO (bear ns h (2 * n)) (bear ns h (2 * n + 1)) := by
  unfold bear
  cases h with
  | zero => simp at h2; omega
  | succ h =>
    have hx : 2 ^ (h + 1) ≤ 2 * n * 2 ^ h := by
      rw [Nat.pow_succ, Nat.mul_comm, Nat.mul_assoc]
      exact Nat.mul_le_mul_left 2 (Nat.le_mul_of_pos_left _ h1)
    have hy : 2 ^ (h + 1) ≤ (2 * n + 1) * 2 ^ h := Nat.le_trans hx (Nat.mul_le_mul_right _ (by omega))
    rw [bearF_more (f := h) (n := 2 * n) (by omega) hx, bearF_more (f := h) (n := 2 * n + 1) (by omega) hy]
    exact (if_neg (by omega)).trans (if_neg (by omega))
/-- the list of nodes, those from k on reckoned -/
def nodesFrom (ns : List Int) (h k : Nat) : List V := (List.range (2 * 2 ^ h)).map fun n => if k ≤ n then NV (bear ns h n) else .non
theorem nodesFrom_len (ns : List Int) (h k : Nat) : (nodesFrom ns h k).length = 2 * 2 ^ h := by unfold nodesFrom; simp
theorem nodesFrom_get {ns : List Int} {h k n : Nat} (hn : n < 2 * 2 ^ h) : (nodesFrom ns h k)[n]? = some (if k ≤ n then NV (bear ns h n) else .non) := by unfold nodesFrom; simp [hn]
theorem nodesFrom_start {ns : List Int} {h : Nat} (l : ns.length ≤ 2 ^ h) : List.replicate (2 ^ h) V.non ++ ns.map V.int ++ List.replicate (2 ^ h - ns.length) V.non = nodesFrom ns h (2 ^ h) := by
  apply List.ext_getElem?
  intro i
  rcases Nat.lt_or_ge i (2 * 2 ^ h) with hi | hi
  · rw [nodesFrom_get hi]
    rcases Nat.lt_or_ge i (2 ^ h) with z | z
    · rw [if_neg (by omega), List.append_assoc, List.getElem?_append_left (by rw [List.length_replicate]; exact z), List.getElem?_replicate, if_pos z]
    · rw [if_pos z, List.append_assoc, List.getElem?_append_right (by rw [List.length_replicate]; exact z), List.length_replicate, bear_leaf z]
      rcases Nat.lt_or_ge (i - 2 ^ h) ns.length with w | w
      · rw [List.getElem?_append_left (by rw [List.length_map]; exact w), List.getElem?_map, List.getElem?_eq_getElem w]; rfl
      · rw [List.getElem?_append_right (by rw [List.length_map]; exact w), List.getElem?_replicate, if_pos (by rw [List.length_map]; omega), List.getElem?_eq_none w]; rfl
  · rw [List.getElem?_eq_none (by simp; omega), List.getElem?_eq_none (by rw [nodesFrom_len]; exact hi)]
theorem nodesFrom_step {ns : List Int} {h k : Nat} (h1 : 1 ≤ k) (h2 : k < 2 ^ h) : (nodesFrom ns h (k + 1)).set k (NV (minO (bear ns h (2 * k)) (bear ns h (2 * k + 1)))) = nodesFrom ns h k := by
  apply List.ext_getElem?
  intro i
  rw [List.getElem?_set, nodesFrom_len]
  rcases Nat.lt_or_ge i (2 * 2 ^ h) with hi | hi
  · rw [nodesFrom_get hi, nodesFrom_get hi]
    by_cases e : k = i
    · subst e
      rw [if_pos rfl, if_pos (by omega), if_pos (Nat.le_refl _), bear_node h1 h2]
    · rw [if_neg e]
      by_cases g : k ≤ i
      · rw [if_pos g, if_pos (by omega)]
      · rw [if_neg g, if_neg (by omega)]
  · rw [List.getElem?_eq_none (by rw [nodesFrom_len]; exact hi), List.getElem?_eq_none (by rw [nodesFrom_len]; exact hi), if_neg (by omega)]
theorem nodesFrom_one (ns : List Int) (h : Nat) : nodesFrom ns h 1 = (List.range (2 * 2 ^ h)).map fun n => NV (bear ns h n) := by
  unfold nodesFrom
  apply List.map_congr_left
  intro n _
  split
  · rfl
  · rw [show n = 0 by omega, bear_zero]; rfl
/-- the heap of a row -/
def heapL (ns : List Int) : List V := (List.range (2 * 2 ^ hOf ns.length)).map fun n => NV (bear ns (hOf ns.length) n)
theorem heapL_len (ns : List Int) : (heapL ns).length = 2 * 2 ^ hOf ns.length := by unfold heapL; simp
theorem heapL_get {ns : List Int} {n : Nat} (hn : n < 2 * 2 ^ hOf ns.length) : (heapL ns)[n]? = some (NV (bear ns (hOf ns.length) n)) := by unfold heapL; simp [hn]

/-- lesser_of(one, other) -/
def sp_lesser_of (_ : PySem.W.Frag) : Sp := fun vs H Q _ => ∃ a b : Option Int, vs = [NV a, NV b] ∧ Q (NV (minO a b)) H
theorem len_lesser_of (K : PySem.W.Frag) : ∀ vs H Q E, sp_lesser_of K vs H Q E → vs.length = 2 := by
  rintro vs H Q E ⟨a, b, rfl, _⟩; rfl
def t_lesser_of (K : PySem.W.Frag) : TS :=
  (tSeq (tIfS (tTest (tOp rIsN (tVar 0) (tC .non)))
  (tRet (tVar 1))
  tNext)
  (tSeq (tIfS (tTest (tOp rIsN (tVar 1) (tC .non)))
  (tRet (tVar 0))
  tNext)
  (tRet (tCB rMin2 (tCons (tVar 0) (tCons (tVar 1) tNil))))))
abbrev n_lesser_of : List Str := ["one", "other"]

theorem rd_lesser_of (K : PySem.W.Frag) (vs : List V) (H : Hp) (Q : VK) (E : XK) (h : sp_lesser_of K vs H Q E) : t_lesser_of K { nx := fun _ H' => Q .non H', rt := Q } (start n_lesser_of vs) H := by
  obtain ⟨a, b, rfl, q⟩ := h
  unfold t_lesser_of
  cases a with
  | none =>
    rw [show NV none = V.non from rfl]
    walk_at "st"
    refine k_decT rfl ?_
    walk_at "st"
    exact q
  | some a =>
    rw [show NV (some a) = V.int a from rfl]
    walk_at "st"
    refine k_decF (fun z => nomatch z) ?_
    cases b with
    | none =>
      rw [show NV none = V.non from rfl]
      walk_at "st"
      refine k_decT rfl ?_
      walk_at "st"
      exact q
    | some b =>
      rw [show NV (some b) = V.int b from rfl]
      walk_at "st"
      refine k_decF (fun z => nomatch z) ?_
      walk_at "st"
      exact q
/-- heap_of(numbers) -/
def sp_heap_of (K : PySem.W.Frag) : Sp := fun vs H Q E => ∃ (a : Addr) (ns : List Int), vs = [.ref a] ∧ SqL K H a (ns.map V.int) ∧ ns.length ≤ 10000 ∧
  (4096 < ns.length → E (.ref (He.ga K "TooMany")) none H) ∧
  (ns.length ≤ 4096 → ∀ p H', H p = none → Same H H' → H' p = some (.lst (heapL ns)) → Q (.ref p) H')
theorem len_heap_of (K : PySem.W.Frag) : ∀ vs H Q E, sp_heap_of K vs H Q E → vs.length = 1 := by
  rintro vs H Q E ⟨a, ns, rfl, _⟩; rfl
def t_heap_of (K : PySem.W.Frag) (E : XK) : TS :=
  (tSeq (tIfS (tTest (tOp rGtI (tCB (rLen K) (tCons (tVar 0) tNil)) (tC (.int 4096))))
  (tRz (fun cls d _ H => E cls d H) (He.ga K "TooMany"))
  tNext)
  (tSeq (tAsg (tCall (sp_size_of K) [] E0 (tCons (tCB (rLen K) (tCons (tVar 0) tNil)) tNil)) (gName 1))
  (tSeq (tAsg (tOp rCat (tOp rCat (tOp rRep (tLst (tCons (tC .non) tNil)) (tVar 1)) (tCB (rListOf K) (tCons (tVar 0) tNil))) (tOp rRep (tLst (tCons (tC .non) tNil)) (tOp rMinus (tVar 1) (tCB (rLen K) (tCons (tVar 0) tNil))))) (gName 2))
  (tSeq (tFor (iRng3 (tCons (tOp rMinus (tVar 1) (tC (.int 1))) (tCons (tC (.int 0)) (tCons (tUn rNeg (tC (.int 1))) tNil)))) (gName 3)
  (tAsg (tCall (sp_lesser_of K) [] E0 (tCons (tOp (rIxL K) (tVar 2) (tOp rTimes (tC (.int 2)) (tVar 3))) (tCons (tOp (rIxL K) (tVar 2) (tOp rPlus (tOp rTimes (tC (.int 2)) (tVar 3)) (tC (.int 1)))) tNil))) (gSub (tVar 2) (tVar 3) rSetL)))
  (tRet (tVar 2))))))
abbrev n_heap_of : List Str := ["numbers", "size", "nodes", "node"]

theorem rd_heap_of (K : PySem.W.Frag) (vs : List V) (H : Hp) (Q : VK) (E : XK) (h : sp_heap_of K vs H Q E) : t_heap_of K E { nx := fun _ H' => Q .non H', rt := Q } (start n_heap_of vs) H := by
  obtain ⟨a, ns, rfl, hS, hl, q1, q2⟩ := h
  unfold t_heap_of
  walk_at "st"
  refine k_lenL hS ?_
  walk_at "st"
  rw [List.length_map]
  walk_at "if" <;> intro c
  · walk_at "st"
    exact q1 (by omega)
  walk_at "st"
  refine k_lenL hS ?_
  walk_at "st"
  rw [List.length_map]
  refine ⟨ns.length, rfl, by omega, ?_⟩
  have hle := hOf_le ns.length
  have hh := hOf_small (many := ns.length) (by omega)
  have hp12 := Nat.pow_le_pow_right (show 0 < 2 by decide) hh
  have hS0 := Nat.two_pow_pos (hOf ns.length)
  have q2 := q2 (by omega)
  unfold heapL at q2
  generalize hOf ns.length = h at q2 hle hh hp12 hS0 ⊢
  walk_at "st"
  intro p1 hp1
  walk_at "st"
  refine k_rep (xs := [.non]) upd_same (by simp only [List.length_cons, List.length_nil]; omega) (by omega) fun p2 hp2 => ?_
  rw [rep_one]
  have s2 := (same_new (o := .lst [.non]) hp1).trans (same_new (o := .lst (List.replicate (2 ^ h) V.non)) hp2)
  walk_at "st"
  refine k_listL (s2.seq hS) fun p3 hp3 => ?_
  refine k_cat ((same_new hp3).get upd_same) upd_same (by rw [List.length_replicate, List.length_map]; omega) fun p4 hp4 => ?_
  have s4 := s2.trans ((same_new (o := .lst (ns.map V.int)) hp3).trans (same_new (o := .lst (List.replicate (2 ^ h) V.non ++ ns.map V.int)) hp4))
  have e4 := upd_same (H := upd (upd (upd H p1 (.lst [.non])) p2 (.lst (List.replicate (2 ^ h) V.non))) p3 (.lst (ns.map V.int))) (a := p4) (o := .lst (List.replicate (2 ^ h) V.non ++ ns.map V.int))
  generalize upd (upd (upd (upd H p1 (.lst [.non])) p2 (.lst (List.replicate (2 ^ h) V.non))) p3 (.lst (ns.map V.int))) p4 (.lst (List.replicate (2 ^ h) V.non ++ ns.map V.int)) = H4 at s4 e4 ⊢
  walk_at "st"
  intro p5 hp5
  walk_at "st"
  refine k_lenL ((s4.trans (same_new hp5)).seq hS) ?_
  walk_at "st"
  rw [List.length_map, show ((2 ^ h : Nat) : Int) - (ns.length : Int) = ((2 ^ h - ns.length : Nat) : Int) by omega]
  refine k_rep (xs := [.non]) upd_same (by simp only [List.length_cons, List.length_nil]; omega) (by omega) fun p6 hp6 => ?_
  rw [rep_one]
  refine k_cat ((same_new hp6).get ((same_new hp5).get e4)) upd_same (by rw [List.length_append, List.length_replicate, List.length_map, List.length_replicate]; omega) fun p7 hp7 => ?_
  rw [nodesFrom_start hle]
  have hp7' : H p7 = none := (s4.trans ((same_new hp5).trans (same_new hp6))).gone _ hp7
  have s7 := s4.trans ((same_new (o := .lst [.non]) hp5).trans ((same_new (o := .lst (List.replicate (2 ^ h - ns.length) V.non)) hp6).trans (same_new (o := .lst (nodesFrom ns h (2 ^ h))) hp7)))
  have e7 := upd_same (H := upd (upd H4 p5 (.lst [.non])) p6 (.lst (List.replicate (2 ^ h - ns.length) V.non))) (a := p7) (o := .lst (nodesFrom ns h (2 ^ h)))
  generalize upd (upd (upd H4 p5 (.lst [.non])) p6 (.lst (List.replicate (2 ^ h - ns.length) V.non))) p7 (.lst (nodesFrom ns h (2 ^ h))) = H7 at s7 e7 ⊢
  walk_at "st"
  refine m_rng3e (RgC.neg (by omega) (by omega) (by decide) (by decide)) ?_
  rw [show (((2 ^ h : Nat) : Int) - 1 - 0).toNat = 2 ^ h - 1 by omega]
  refine loop_walk walk_rangeC (fun i σ H' => ∃ z, σ = [some (.ref a), some (.int ((2 ^ h : Nat) : Int)), some (.ref p7), z] ∧ i ≤ 2 ^ h - 1 ∧ Same H H' ∧ H' p7 = some (.lst (nodesFrom ns h (2 ^ h - i)))) ⟨none, rfl, Nat.zero_le _, s7, e7⟩ (fun _ _ _ _ => trivial) ?_ ?_
  · rintro i x σ H' H'' hi ⟨z, rfl, hi2, s, e⟩ ⟨rfl, ex⟩
    obtain ⟨k, hk1, hk2, hk3⟩ : ∃ k : Nat, 1 ≤ k ∧ k < 2 ^ h ∧ k = 2 ^ h - 1 - i := ⟨2 ^ h - 1 - i, by omega, by omega, rfl⟩
    obtain rfl : x = .int (k : Int) := by rw [ex]; show V.int _ = V.int _; congr 1; omega
    rw [show 2 ^ h - i = k + 1 by omega] at e
    walk_at "st"
    refine k_ixL (.of e) (at_int (x := NV (bear ns h (2 * k))) (by omega) (by rw [show ((2 : Int) * (k : Int)).toNat = 2 * k by omega, nodesFrom_get (by omega), if_pos (by omega)])) ?_
    walk_at "st"
    refine k_ixL (.of e) (at_int (x := NV (bear ns h (2 * k + 1))) (by omega) (by rw [show ((2 : Int) * (k : Int) + 1).toNat = 2 * k + 1 by omega, nodesFrom_get (by omega), if_pos (by omega)])) ?_
    walk_at "st"
    refine ⟨_, _, rfl, ?_⟩
    walk_at "st"
    refine m_setL e (ixN_nat (by omega) (by rw [nodesFrom_len]; omega)) ?_
    refine ⟨_, rfl, by omega, Same.mut s hp7', ?_⟩
    rw [upd_same, Int.toNat_natCast, nodesFrom_step hk1 hk2, show 2 ^ h - (i + 1) = k by omega]
  · rintro σ H' ⟨z, rfl, _, s, e⟩
    walk_at "st"
    rw [show 2 ^ h - (2 ^ h - 1) = 1 by omega, nodesFrom_one] at e
    exact q2 p7 H' hp7' s e

/-- _law_piece(cell): some numbers -/
def sp_law_piece (_ : PySem.W.Frag) : Sp := fun vs H Q _ => ∃ c : Int, vs = [.int c] ∧ ∀ (ms : List Int) p H', ms.length ≤ 120 → H p = none → Same H H' → H' p = some (.lst (ms.map V.int)) → Q (.ref p) H'
theorem len_law_piece (K : PySem.W.Frag) : ∀ vs H Q E, sp_law_piece K vs H Q E → vs.length = 1 := by
  rintro vs H Q E ⟨c, rfl, _⟩; rfl
def t_law_piece (K : PySem.W.Frag) : TS :=
  (tSeq (tAsg (tOp rDiv (tVar 0) (tC (.int 4))) (gName 1))
  (tSeq (tIfS (tTest (tOp rEq (tOp rMod (tVar 0) (tC (.int 4))) (tC (.int 0))))
  (tRet (tLst (tCons (tOp rPlus (tOp rMinus (tOp rMod (tVar 1) (tC (.int 1999999999999999999999999999999999999999999999999999999999999))) (tC (.int 1000000000000000000000000000000000000000000000000000000000000))) (tC (.int 1))) tNil)))
  tNext)
  (tSeq (tIfS (tTest (tOp rEq (tOp rMod (tVar 0) (tC (.int 4))) (tC (.int 1))))
  (tSeq (tAsg (tC (.int 1000000000000000000000000000000000000000000000000000000000000000000000000000000000000000000000000000000000000000000000000000000000000000000000000000000000000000000000000000000000000000000000000000000000000000000000000000000000000000000000000)) (gName 2))
  (tRet (tLst (tCons (tOp rTimes (tOp (rIxL K) (tLst (tCons (tC (.int 1)) (tCons (tUn rNeg (tC (.int 1))) tNil))) (tOp rMod (tVar 1) (tC (.int 2)))) (tOp rMinus (tOp rMinus (tVar 2) (tC (.int 1))) (tOp rMod (tOp rDiv (tVar 1) (tC (.int 2))) (tVar 2)))) tNil))))
  tNext)
  (tSeq (tIfS (tTest (tOp rEq (tOp rMod (tVar 0) (tC (.int 4))) (tC (.int 2))))
  (tRet (tLst (tCons (tOp rMinus (tOp rMod (tVar 1) (tC (.int 15))) (tC (.int 7))) tNil)))
  tNext)
  (tSeq (tAsg (tOp rPlus (tC (.int 1)) (tOp rMod (tVar 1) (tC (.int 9)))) (gName 3))
  (Evl.tCut (tIfS (tTest (tOp rEq (tOp rMod (tOp rDiv (tVar 1) (tC (.int 9))) (tC (.int 8))) (tC (.int 7))))
  (tAsg (tOp rMod (tOp rDiv (tVar 1) (tC (.int 72))) (tC (.int 120))) (gName 3))
  tNext)
  (tSeq (tAsg (tOp rMod (tOp rTimes (tVar 1) (tC (.int 48271))) (tC (.int 65537))) (gName 4))
  (tRet (tLc (iRng1 (tCons (tVar 3) tNil)) (gName 5) tYes (tOp rPlus (tOp rMinus (tOp rMod (tVar 4) (tC (.int 41))) (tC (.int 20))) (tOp rTimes (tOp rMinus (tOp rMod (tOp rDiv (tVar 4) (tC (.int 41))) (tC (.int 5))) (tC (.int 2))) (tVar 5))) [5])))))))))
abbrev n_law_piece : List Str := ["_law_cell", "_law_rest", "_law_great", "_law_many", "_law_mixed", "_law_k"]

theorem rd_law_piece (K : PySem.W.Frag) (vs : List V) (H : Hp) (Q : VK) (E : XK) (h : sp_law_piece K vs H Q E) : t_law_piece K { nx := fun _ H' => Q .non H', rt := Q } (start n_law_piece vs) H := by
  obtain ⟨c, rfl, q⟩ := h
  unfold t_law_piece
  walk_at "st"
  walk_at "if" <;> intro _
  · walk_at "st"
    intro p hp
    exact q [_] p _ (by simp) hp (same_new hp) upd_same
  walk_at "st"
  walk_at "if" <;> intro _
  · walk_at "st"
    intro p1 hp1
    walk_at "st"
    obtain ⟨w, ew, hw⟩ : ∃ w : Int, ([1, -1] : List Int)[(c / 4 % 2).toNat]? = some w ∧ -1 ≤ w ∧ w ≤ 1 := by
      have h2 : (c / 4 % 2).toNat = 0 ∨ (c / 4 % 2).toNat = 1 := by omega
      rcases h2 with e | e
      · exact ⟨1, by rw [e]; rfl, by omega, by omega⟩
      · exact ⟨-1, by rw [e]; rfl, by omega, by omega⟩
    refine k_ixL (xs := ([1, -1] : List Int).map V.int) (.of upd_same) (at_int (by omega) (mapint ew)) ?_
    walk_at "st"
    intro p hp
    exact q [_] p _ (by simp) ((same_new hp1).gone _ hp) ((same_new hp1).trans (same_new hp)) upd_same
  walk_at "st"
  walk_at "if" <;> intro _
  · walk_at "st"
    intro p hp
    exact q [_] p _ (by simp) hp (same_new hp) upd_same
  walk_at "st"
  refine m_cut (fun σ' H' => H' = H ∧ ∃ (m : Nat) (y : Option V), m ≤ 120 ∧ σ' = [some (.int c), some (.int (c / 4)), y, some (.int (m : Int)), none, none]) ?_ ?_
  · walk_at "st"
    walk_at "if" <;> intro _
    · walk_at "st"
      refine ⟨rfl, (c / 4 / 72 % 120).toNat, none, by omega, ?_⟩
      rw [show (((c / 4 / 72 % 120).toNat : Nat) : Int) = c / 4 / 72 % 120 by omega]; rfl
    · walk_at "st"
      refine ⟨rfl, (1 + c / 4 % 9).toNat, none, by omega, ?_⟩
      rw [show (((1 + c / 4 % 9).toNat : Nat) : Int) = 1 + c / 4 % 9 by omega]; rfl
  rintro σ' H' ⟨rfl, m, y, hm, rfl⟩
  walk_at "st"
  generalize c / 4 * 48271 % 65537 = mx
  refine comp_rangeV (n := m) (f := fun k => .int (mx % 41 - 20 + (mx / 41 % 5 - 2) * (k : Int))) (by omega) (fun k H2 Q2 hk s2 q2 => ?_) (fun p H2 hp s2 e2 => ?_)
  · walk_at "st"
    exact q2 _ (Same.refl _)
  walk_at "st"
  exact q ((List.range m).map fun k : Nat => mx % 41 - 20 + (mx / 41 % 5 - 2) * (k : Int)) p H2 (by rw [List.length_map, List.length_range]; exact hm) hp s2 (by rw [e2, List.map_map]; rfl)
/-- _law_numbers(script) -/
def sp_law_numbers (K : PySem.W.Frag) : Sp := fun vs H Q _ => ∃ (a : Addr) (ns : List Int), vs = [.ref a] ∧ SqL K H a (ns.map V.int) ∧ ∀ (ms : List Int) p H', ms.length ≤ 300 → (ns = [] → ms = []) → H p = none → Same H H' → H' p = some (.lst (ms.map V.int)) → Q (.ref p) H'
theorem len_law_numbers (K : PySem.W.Frag) : ∀ vs H Q E, sp_law_numbers K vs H Q E → vs.length = 1 := by
  rintro vs H Q E ⟨a, ns, rfl, _⟩; rfl
def t_law_numbers (K : PySem.W.Frag) : TS :=
  (tSeq (tAsg (tLst tNil) (gName 1))
  (tSeq (tFor (iList K (tSl (rSlL K) (tVar 0) tNoPart (tPart (tC (.int 63))))) (gName 2)
  (tIfS (tTest (tOp rLt (tCB (rLen K) (tCons (tVar 1) tNil)) (tC (.int 300))))
  (tDrop (tBM K "list" rExtend (tVar 1) (tCons (tCall (sp_law_piece K) [] E0 (tCons (tVar 2) tNil)) tNil)))
  tNext))
  (tRet (tSl (rSlL K) (tVar 1) tNoPart (tPart (tC (.int 300)))))))
abbrev n_law_numbers : List Str := ["_law_script", "_law_some", "_law_cell"]

theorem rd_law_numbers (K : PySem.W.Frag) (vs : List V) (H : Hp) (Q : VK) (E : XK) (h : sp_law_numbers K vs H Q E) : t_law_numbers K { nx := fun _ H' => Q .non H', rt := Q } (start n_law_numbers vs) H := by
  obtain ⟨a, ns, rfl, hS, q⟩ := h
  unfold t_law_numbers
  walk_at "st"
  intro p hp
  walk_at "st"
  refine k_slL ((same_new hp).seq hS) fun l hl => ?_
  rw [show (63 : Int) = ((63 : Nat) : Int) from rfl, cutTake, ← List.map_take]
  have npl : p ≠ l := ne_of_none upd_same hl
  refine m_iLe (.of upd_same) ?_
  refine loop_ints (ns := ns.take 63) (fun i σ H' => ∃ y1, σ = [some (.ref a), some (.ref p), y1] ∧ Same H H' ∧ H' l = some (.lst ((ns.take 63).map V.int)) ∧ ∃ ms : List Int, ms.length ≤ 419 ∧ (i = 0 → ms = []) ∧ H' p = some (.lst (ms.map V.int))) ⟨none, rfl, (same_new hp).trans (same_new hl), upd_same, [], by simp, fun _ => rfl, by rw [upd_ne npl, upd_same]; rfl⟩ (fun i σ H' ⟨_, _, _, e, _⟩ => .of e) ?_ ?_
  · rintro i n σ H' hn ⟨y1, rfl, s, el, ms, hm, _, ep⟩
    walk_at "st"
    refine k_lenL (.of ep) ?_
    walk_at "st"
    rw [List.length_map]
    walk_at "if" <;> intro c
    · walk_at "st"
      refine k_tyL (.of ep) ?_
      walk_at "st"
      refine ⟨n, rfl, fun qs p2 H2 hq hp2 s2 e2 => ?_⟩
      walk_at "st"
      have ep2 := s2.get ep
      refine k_extend ep2 e2 (by rw [List.length_map, List.length_map]; omega) ?_
      walk_at "st"
      refine ⟨_, rfl, Same.mut (s.trans s2) hp, by rw [upd_ne npl.symm]; exact s2.get el, ms ++ qs, by rw [List.length_append]; omega, fun z => by omega, by rw [upd_same, List.map_append]⟩
    · walk_at "st"
      exact ⟨_, rfl, s, el, ms, hm, fun z => by omega, ep⟩
  · rintro σ H' ⟨y1, rfl, s, el, ms, hm, hz, ep⟩
    walk_at "st"
    refine k_slL (.of ep) fun p2 hp2 => ?_
    rw [show (300 : Int) = ((300 : Nat) : Int) from rfl, cutTake, ← List.map_take]
    walk_at "st"
    refine q (ms.take 300) p2 _ (by rw [List.length_take]; omega) (fun z => ?_) (s.gone _ hp2) (s.trans (same_new hp2)) upd_same
    subst z
    rw [hz (by simp), List.take_nil]

/-- _law_lesser(one, other) -/
def sp_law_lesser (_ : PySem.W.Frag) : Sp := fun vs H Q _ => ∃ a b : Option Int, vs = [NV a, NV b] ∧ Q (NV (minO a b)) H
theorem len_law_lesser (K : PySem.W.Frag) : ∀ vs H Q E, sp_law_lesser K vs H Q E → vs.length = 2 := by
  rintro vs H Q E ⟨a, b, rfl, _⟩; rfl
def t_law_lesser (K : PySem.W.Frag) : TS :=
  (tSeq (tIfS (tTest (tOp rIsN (tVar 0) (tC .non)))
  (tRet (tVar 1))
  tNext)
  (tSeq (tIfS (tTest (tOp rIsN (tVar 1) (tC .non)))
  (tRet (tVar 0))
  tNext)
  (tRet (tCB rMin2 (tCons (tVar 0) (tCons (tVar 1) tNil))))))
abbrev n_law_lesser : List Str := ["_law_one", "_law_other"]

theorem rd_law_lesser (K : PySem.W.Frag) (vs : List V) (H : Hp) (Q : VK) (E : XK) (h : sp_law_lesser K vs H Q E) : t_law_lesser K { nx := fun _ H' => Q .non H', rt := Q } (start n_law_lesser vs) H := rd_lesser_of K vs H Q E h
/-- _law_bears(nodes, node, size, some) -/
def sp_law_bears (K : PySem.W.Frag) : Sp := fun vs H Q _ => ∃ (p a : Addr) (ns : List Int) (n : Nat), vs = [.ref p, .int (n : Int), .int ((2 ^ hOf ns.length : Nat) : Int), .ref a] ∧ H p = some (.lst (heapL ns)) ∧ SqL K H a (ns.map V.int) ∧ 1 ≤ n ∧ n < 2 * 2 ^ hOf ns.length ∧ Q (.bl true) H
theorem len_law_bears (K : PySem.W.Frag) : ∀ vs H Q E, sp_law_bears K vs H Q E → vs.length = 4 := by
  rintro vs H Q E ⟨p, a, ns, n, rfl, _⟩; rfl
def t_law_bears (K : PySem.W.Frag) : TS :=
  (tSeq (tAsg (tC .non) (gName 4))
  (tSeq (tIfS (tTest (tOp rGeI (tVar 1) (tOp rPlus (tVar 2) (tCB (rLen K) (tCons (tVar 3) tNil)))))
  (tRet (tOp rIsN (tOp (rIxL K) (tVar 0) (tVar 1)) (tC .non)))
  tNext)
  (Evl.tCut (tIfS (tTest (tOp rGeI (tVar 1) (tVar 2)))
  (tAsg (tOp (rIxL K) (tVar 3) (tOp rMinus (tVar 1) (tVar 2))) (gName 4))
  (tAsg (tCall (sp_law_lesser K) [] E0 (tCons (tOp (rIxL K) (tVar 0) (tOp rTimes (tC (.int 2)) (tVar 1))) (tCons (tOp (rIxL K) (tVar 0) (tOp rPlus (tOp rTimes (tC (.int 2)) (tVar 1)) (tC (.int 1)))) tNil))) (gName 4)))
  (tSeq (tIfS (tTest (tOp rIsN (tVar 4) (tC .non)))
  (tRet (tOp rIsN (tOp (rIxL K) (tVar 0) (tVar 1)) (tC .non)))
  tNext)
  (tRet (tAndV (tCall (sp_law_whole K) [] E0 (tCons (tOp (rIxL K) (tVar 0) (tVar 1)) tNil)) (tOp rEq (tOp (rIxL K) (tVar 0) (tVar 1)) (tVar 4))))))))
abbrev n_law_bears : List Str := ["_law_nodes", "_law_node", "_law_size", "_law_some", "_law_due"]

theorem rd_law_bears (K : PySem.W.Frag) (vs : List V) (H : Hp) (Q : VK) (E : XK) (h : sp_law_bears K vs H Q E) : t_law_bears K { nx := fun _ H' => Q .non H', rt := Q } (start n_law_bears vs) H := by
  obtain ⟨p, a, ns, n, rfl, hp, hS, h1, h2, q⟩ := h
  have hle := hOf_le ns.length
  have gn := at_nat (heapL_get h2)
  unfold t_law_bears
  walk_at "st"
  refine k_lenL hS ?_
  walk_at "st"
  rw [List.length_map]
  walk_at "if" <;> intro c
  · walk_at "st"
    refine k_ixL (.of hp) gn ?_
    have e : bear ns (hOf ns.length) n = none := by rw [bear_leaf (by omega)]; exact List.getElem?_eq_none (by omega)
    rw [e]
    walk_at "st"
    exact q
  walk_at "st"
  refine m_cut (fun σ' H' => H' = H ∧ σ' = [some (.ref p), some (.int (n : Int)), some (.int ((2 ^ hOf ns.length : Nat) : Int)), some (.ref a), some (NV (bear ns (hOf ns.length) n))]) ?_ ?_
  · walk_at "st"
    walk_at "if" <;> intro d
    · have hk : n - 2 ^ hOf ns.length < ns.length := by omega
      have e : bear ns (hOf ns.length) n = some ns[n - 2 ^ hOf ns.length] := by rw [bear_leaf (by omega)]; exact List.getElem?_eq_getElem hk
      walk_at "st"
      refine k_ixL hS (at_int (by omega) (by rw [show ((n : Int) - ((2 ^ hOf ns.length : Nat) : Int)).toNat = n - 2 ^ hOf ns.length by omega]; exact mapint (List.getElem?_eq_getElem hk))) ?_
      walk_at "st"
      exact ⟨rfl, by rw [e]; rfl⟩
    · walk_at "st"
      refine k_ixL (.of hp) (at_int (x := NV (bear ns (hOf ns.length) (2 * n))) (by omega) (by rw [show ((2 : Int) * (n : Int)).toNat = 2 * n by omega]; exact heapL_get (by omega))) ?_
      walk_at "st"
      refine k_ixL (.of hp) (at_int (x := NV (bear ns (hOf ns.length) (2 * n + 1))) (by omega) (by rw [show ((2 : Int) * (n : Int) + 1).toNat = 2 * n + 1 by omega]; exact heapL_get (by omega))) ?_
      walk_at "st"
      refine ⟨_, _, rfl, ?_⟩
      rw [← bear_node h1 (by omega)]
      walk_at "st"
      exact ⟨rfl, rfl⟩
  rintro σ' H' ⟨rfl, rfl⟩
  cases eb : bear ns (hOf ns.length) n with
  | none =>
    rw [eb] at gn
    rw [show NV none = V.non from rfl] at gn ⊢
    walk_at "st"
    refine k_decT rfl ?_
    walk_at "st"
    refine k_ixL (.of hp) gn ?_
    walk_at "st"
    exact q
  | some b =>
    rw [eb] at gn
    rw [show NV (some b) = V.int b from rfl] at gn ⊢
    walk_at "st"
    refine k_decF (fun z => nomatch z) ?_
    walk_at "st"
    refine k_ixL (.of hp) gn ?_
    walk_at "st"
    refine whole_int ?_
    walk_at "st"
    refine k_ixL (.of hp) gn ?_
    walk_at "st"
    rw [decide_eq_true rfl]
    exact q
/-- _law_refusal(some) -/
def sp_law_refusal (K : PySem.W.Frag) : Sp := fun vs H Q _ => ∃ (a : Addr) (ns : List Int), vs = [.ref a] ∧ SqL K H a (ns.map V.int) ∧ ns.length ≤ 10000 ∧ 4096 < ns.length ∧ ∀ p H', H p = none → Same H H' → H' p = some (.lst ([true, true, false].map V.bl)) → Q (.ref p) H'
theorem len_law_refusal (K : PySem.W.Frag) : ∀ vs H Q E, sp_law_refusal K vs H Q E → vs.length = 1 := by
  rintro vs H Q E ⟨a, ns, rfl, _⟩; rfl
def t_law_refusal (K : PySem.W.Frag) : TS :=
  (tSeq (tAsg (tLst tNil) (gName 1))
  (tSeq (tTryAs K (.ref (He.ga K "WoodError")) 2 (fun W => (tDrop (tCallS (sp_heap_of K) (WE W) (tCons (tVar 0) tNil)))) (fun a cls d => (tAsg (tLst (tCons (tCB (rIsX K cls d a) (tCons (tVar 2) (tCons (tC (.ref (He.ga K "TooMany"))) tNil))) (tCons (tCB (rIsX K cls d a) (tCons (tVar 2) (tCons (tC (.ty "ValueError")) tNil))) (tCons (tCB (rIsX K cls d a) (tCons (tVar 2) (tCons (tC (.ref (He.ga K "NoPlace"))) tNil))) tNil)))) (gName 1))) (fun _ _ _ _ => False))
  (tRet (tVar 1))))
abbrev n_law_refusal : List Str := ["_law_some", "_law_kept", "e"]

theorem rd_law_refusal (K : PySem.W.Frag) (F : KFx K) (vs : List V) (H : Hp) (Q : VK) (E : XK) (h : sp_law_refusal K vs H Q E) : t_law_refusal K { nx := fun _ H' => Q .non H', rt := Q } (start n_law_refusal vs) H := by
  obtain ⟨a, ns, rfl, hS, hl, h1, q⟩ := h
  unfold t_law_refusal
  walk_at "st"
  intro p hp
  walk_at "st"
  refine ⟨a, ns, rfl, (same_new hp).seq hS, hl, fun _ => ?_, fun h => by omega⟩
  refine m_caught F.e_TooMany_WoodError fun x hx => ?_
  walk_at "st"
  refine k_isX F.ec_TooMany F.k_TooMany_TooMany ?_
  walk_at "st"
  refine k_isXty F.ec_TooMany F.kt_TooMany ?_
  walk_at "st"
  refine k_isX F.ec_TooMany F.k_TooMany_NoPlace ?_
  walk_at "st"
  intro p2 hp2
  walk_at "st"
  exact q p2 _ ((same_new hp).gone _ hp2) ((same_new hp).trans (same_new hp2)) upd_same
/-- all alike -/
theorem bear_alike (c : Int) (h : Nat) : ∀ (f n : Nat), 1 ≤ n → 2 ^ h ≤ n * 2 ^ f → n < 2 * 2 ^ h → bearF (List.replicate (2 ^ h) c) (2 ^ h) f n = some c
  | 0, n, h1, h2, h3 => by
    show (if 2 ^ h ≤ n then _ else _) = _
    rw [if_pos (by simpa using h2), List.getElem?_replicate, if_pos (by omega)]
  | f + 1, n, h1, h2, h3 => by
    show (if 2 ^ h ≤ n then _ else _) = _
    by_cases z : 2 ^ h ≤ n
    · rw [if_pos z, List.getElem?_replicate, if_pos (by omega)]
    · rw [if_neg z, if_neg (by omega)]
      have e : n * 2 ^ (f + 1) = 2 * n * 2 ^ f := by rw [Nat.pow_succ, ← Nat.mul_assoc, Nat.mul_comm, ← Nat.mul_assoc]
      rw [e] at h2
      rw [bear_alike c h f (2 * n) (by omega) h2 (by omega), bear_alike c h f (2 * n + 1) (by omega) (Nat.le_trans h2 (Nat.mul_le_mul_right _ (by omega))) (by omega)]
      show some (if c < c then c else c) = _
      rw [if_neg (by omega)]
/-- _law_greatest(cell) -/
def sp_law_greatest (_ : PySem.W.Frag) : Sp := fun vs H Q _ => ∃ c : Int, vs = [.int c] ∧ ∀ H', Same H H' → Q (.bl true) H'
theorem len_law_greatest (K : PySem.W.Frag) : ∀ vs H Q E, sp_law_greatest K vs H Q E → vs.length = 1 := by
  rintro vs H Q E ⟨c, rfl, _⟩; rfl
def t_law_greatest (K : PySem.W.Frag) : TS :=
  (tSeq (tAsg (tOp rMod (tVar 0) (tC (.int 1000000000000000000000000000000000000000000000000000000000000))) (gName 1))
  (tSeq (tAsg (tCall (sp_heap_of K) [] E0 (tCons (tOp rRep (tLst (tCons (tVar 1) tNil)) (tC (.int 4096))) tNil)) (gName 2))
  (tSeq (tIfS (tOr (tNot (tB (tCB rIsB (tCons (tVar 2) (tCons (tC (.ty "list")) tNil))))) (tOr (tTest (tOp rNe (tCB (rLen K) (tCons (tVar 2) tNil)) (tC (.int 8192)))) (tTest (tOp rNotN (tOp (rIxL K) (tVar 2) (tC (.int 0))) (tC .non)))))
  (tRet (tC (.bl false)))
  tNext)
  (tSeq (tFor (iList K (tLst (tCons (tC (.int 1)) (tCons (tC (.int 2)) (tCons (tC (.int 3)) (tCons (tC (.int 4095)) (tCons (tC (.int 4096)) (tCons (tC (.int 8191)) (tCons (tOp rPlus (tC (.int 1)) (tOp rMod (tVar 0) (tC (.int 8191)))) tNil))))))))) (gName 3)
  (tIfS (tOr (tNot (tB (tCall (sp_law_whole K) [] E0 (tCons (tOp (rIxL K) (tVar 2) (tVar 3)) tNil)))) (tTest (tOp rNe (tOp (rIxL K) (tVar 2) (tVar 3)) (tVar 1))))
  (tRet (tC (.bl false)))
  tNext))
  (tRet (tOp (rEqD K) (tCall (sp_law_refusal K) [] E0 (tCons (tOp rRep (tLst (tCons (tVar 1) tNil)) (tOp rPlus (tC (.int 4097)) (tOp rMod (tVar 0) (tC (.int 3))))) tNil)) (tLst (tCons (tC (.bl true)) (tCons (tC (.bl true)) (tCons (tC (.bl false)) tNil))))))))))
abbrev n_law_greatest : List Str := ["_law_cell", "_law_number", "_law_nodes", "_law_node"]

theorem rd_law_greatest (K : PySem.W.Frag) (F : KFx K) (vs : List V) (H : Hp) (Q : VK) (E : XK) (h : sp_law_greatest K vs H Q E) : t_law_greatest K { nx := fun _ H' => Q .non H', rt := Q } (start n_law_greatest vs) H := by
  obtain ⟨c, rfl, q⟩ := h
  unfold t_law_greatest
  walk_at "st"
  generalize c % 1000000000000000000000000000000000000000000000000000000000000 = w
  intro p1 hp1
  walk_at "st"
  rw [show (4096 : Int) = ((4096 : Nat) : Int) from rfl]
  refine k_rep (xs := [.int w]) upd_same (by simp) (by decide) fun p2 hp2 => ?_
  rw [rep_one]
  have s2 := (same_new (o := .lst [.int w]) hp1).trans (same_new (o := .lst (List.replicate 4096 (V.int w))) hp2)
  have e2 : (upd (upd H p1 (.lst [.int w])) p2 (.lst (List.replicate 4096 (V.int w)))) p2 = some (.lst ((List.replicate 4096 w).map V.int)) := by rw [upd_same, List.map_replicate]
  walk_at "st"
  refine ⟨p2, List.replicate 4096 w, rfl, .of e2, by rw [List.length_replicate]; decide, fun h => by rw [List.length_replicate] at h; omega, fun _ p3 H3 hp3 s3 e3 => ?_⟩
  have eh : hOf (List.replicate 4096 w).length = 12 := by rw [List.length_replicate]; decide
  have hlen : (heapL (List.replicate 4096 w)).length = 8192 := by rw [heapL_len, eh]
  have hget : ∀ n, 1 ≤ n → n < 8192 → (heapL (List.replicate 4096 w))[n]? = some (.int w) := fun n h1 h2 => by
    rw [heapL_get (by rw [eh]; exact h2), eh]
    have e : bear (List.replicate 4096 w) 12 n = some w := bear_alike w 12 12 n h1 (by show 2 ^ 12 ≤ n * 2 ^ 12; omega) h2
    rw [e]; rfl
  have hget0 : (heapL (List.replicate 4096 w))[0]? = some .non := by
    rw [heapL_get (by rw [eh]; decide), bear_zero]; rfl
  generalize heapL (List.replicate 4096 w) = hp at e3 hlen hget hget0
  walk_at "st"
  refine k_isList e3 ?_
  walk_at "st"
  refine k_lenL (.of e3) ?_
  walk_at "st"
  rw [hlen]
  refine k_ndecT rfl ?_
  walk_at "st"
  refine k_ixL (.of e3) (at_int (by decide) hget0) ?_
  walk_at "st"
  refine k_ndecT rfl ?_
  walk_at "st"
  intro p4 hp4
  walk_at "st"
  have e4 := upd_same (H := H3) (a := p4) (o := .lst (([1, 2, 3, 4095, 4096, 8191, 1 + c % 8191] : List Int).map V.int))
  have s4 := same_new (o := .lst (([1, 2, 3, 4095, 4096, 8191, 1 + c % 8191] : List Int).map V.int)) hp4
  refine m_iLe (.of e4) ?_
  refine loop_ints (ns := [1, 2, 3, 4095, 4096, 8191, 1 + c % 8191]) (fun i σ H' => ∃ y, σ = [some (.int c), some (.int w), some (.ref p3), y] ∧ Same _ H') ⟨none, rfl, Same.refl _⟩ (fun i σ H' ⟨_, _, s⟩ => .of (s.get e4)) ?_ ?_
  · rintro i x σ H' hx ⟨y, rfl, s⟩
    have hx2 : 1 ≤ x ∧ x < 8192 := by
      have := List.mem_of_getElem? hx
      simp only [List.mem_cons, List.not_mem_nil, or_false] at this
      omega
    have hg := at_int (i := x) (by omega) (hget x.toNat (by omega) (by omega))
    walk_at "st"
    refine k_ixL (.of ((s4.trans s).get e3)) hg ?_
    walk_at "st"
    refine whole_int ?_
    walk_at "st"
    refine k_ixL (.of ((s4.trans s).get e3)) hg ?_
    walk_at "st"
    refine k_ndecT rfl ?_
    walk_at "st"
    exact ⟨_, rfl, s⟩
  · rintro σ H' ⟨y, rfl, s⟩
    walk_at "st"
    intro p5 hp5
    walk_at "st"
    rw [show (4097 : Int) + c % 3 = ((4097 + (c % 3).toNat : Nat) : Int) by push_cast; omega]
    refine k_rep (xs := [.int w]) upd_same (by simp only [List.length_cons, List.length_nil]; omega) (by omega) fun p6 hp6 => ?_
    rw [rep_one]
    walk_at "st"
    refine ⟨p6, List.replicate (4097 + (c % 3).toNat) w, rfl, .of (by rw [upd_same, List.map_replicate]), by rw [List.length_replicate]; omega, by rw [List.length_replicate]; omega, fun p7 H7 hp7 s7 e7 => ?_⟩
    walk_at "st"
    intro p8 hp8
    walk_at "st"
    refine k_eqB [true, true, false] [true, true, false] (.of ((same_new hp8).get e7)) (.of upd_same) ?_
    rw [show decide (([true, true, false] : List Bool) = [true, true, false]) = true from rfl]
    exact q _ (s2.trans (s3.trans (s4.trans (s.trans ((same_new hp5).trans ((same_new hp6).trans (s7.trans (same_new hp8))))))))
/-- law(script) -/
def sp_law (K : PySem.W.Frag) : Sp := fun vs H Q _ => ∃ (a : Addr) (ns : List Int), vs = [.ref a] ∧ SqL K H a (ns.map V.int) ∧ ns.length ≤ 63 ∧ ∀ H', Q (.bl true) H'
theorem len_law (K : PySem.W.Frag) : ∀ vs H Q E, sp_law K vs H Q E → vs.length = 1 := by
  rintro vs H Q E ⟨x, y, rfl, _⟩; rfl

def t_law (K : PySem.W.Frag) : TS :=
  (tSeq (tAsg (tCall (sp_law_numbers K) [] E0 (tCons (tVar 0) tNil)) (gName 1))
  (tSeq (tAsg (tCB (rListOf K) (tCons (tVar 1) tNil)) (gName 2))
  (tSeq (tAsg (tCall (sp_heap_of K) [] E0 (tCons (tVar 2) tNil)) (gName 3))
  (tSeq (tIfS (tOr (tNot (tB (tCB rIsB (tCons (tVar 3) (tCons (tC (.ty "list")) tNil))))) (tTest (tOp (rNeD K) (tVar 2) (tVar 1))))
  (tRet (tC (.bl false)))
  tNext)
  (tSeq (tAsg (tC (.int 1)) (gName 4))
  (tSeq (tWhile (tTest (tOp rLt (tVar 4) (tCB (rLen K) (tCons (tVar 1) tNil))))
  (tAsg (tOp rTimes (tC (.int 2)) (tVar 4)) (gName 4)))
  (tSeq (tIfS (tOr (tTest (tOp rNe (tCB (rLen K) (tCons (tVar 3) tNil)) (tOp rTimes (tC (.int 2)) (tVar 4)))) (tTest (tOp rNotN (tOp (rIxL K) (tVar 3) (tC (.int 0))) (tC .non))))
  (tRet (tC (.bl false)))
  tNext)
  (tSeq (tFor (iRng3 (tCons (tOp rMinus (tOp rTimes (tC (.int 2)) (tVar 4)) (tC (.int 1))) (tCons (tC (.int 0)) (tCons (tUn rNeg (tC (.int 1))) tNil)))) (gName 5)
  (tIfS (tNot (tB (tCall (sp_law_bears K) [] E0 (tCons (tVar 3) (tCons (tVar 5) (tCons (tVar 4) (tCons (tVar 1) tNil)))))))
  (tRet (tC (.bl false)))
  tNext))
  (tSeq (tIfS (tTest (tOp rEq (tOp rMod (tCall (sp_law_cell_at K) [] E0 (tCons (tVar 0) (tCons (tC (.int 0)) tNil))) (tC (.int 16))) (tC (.int 5))))
  (tRet (tCall (sp_law_greatest K) [] E0 (tCons (tCall (sp_law_cell_at K) [] E0 (tCons (tVar 0) (tCons (tC (.int 1)) tNil))) tNil)))
  tNext)
  (tRet (tC (.bl true))))))))))))
abbrev n_law : List Str := ["_law_script", "_law_some", "_law_handed", "_law_nodes", "_law_size", "_law_node"]

theorem rd_law (K : PySem.W.Frag) (F : KFx K) (vs : List V) (H : Hp) (Q : VK) (E : XK) (h : sp_law K vs H Q E) : t_law K { nx := fun _ H' => Q .non H', rt := Q } (start n_law vs) H := by
  obtain ⟨a, ns, rfl, hS, hl, q⟩ := h
  unfold t_law
  walk_at "st"
  refine ⟨a, ns, rfl, hS, fun ms p1 H1 hm _ hp1 s1 e1 => ?_⟩
  walk_at "st"
  refine k_listL (.of e1) fun p2 hp2 => ?_
  walk_at "st"
  have s2 := same_new (o := .lst (ms.map V.int)) hp2
  have e2 := upd_same (H := H1) (a := p2) (o := .lst (ms.map V.int))
  generalize upd H1 p2 (.lst (ms.map V.int)) = H2 at s2 e2 ⊢
  refine ⟨p2, ms, rfl, .of e2, by omega, fun h => by omega, fun _ p3 H3 hp3 s3 e3 => ?_⟩
  walk_at "st"
  refine k_isList e3 ?_
  walk_at "st"
  refine k_neL (.of (s3.get e2)) (.of (s3.get (s2.get e1))) ?_
  walk_at "st"
  refine k_ndecT rfl ?_
  walk_at "st"
  have S3 := s1.trans (s2.trans s3)
  have e1 := s3.get (s2.get e1)
  refine loop_while (fun m σ H' => ∃ k : Nat, m = hOf ms.length - k ∧ k ≤ hOf ms.length ∧ σ = [some (.ref a), some (.ref p1), some (.ref p2), some (.ref p3), some (.int ((2 ^ k : Nat) : Int)), none] ∧ H' = H3) (hOf ms.length) ⟨0, rfl, Nat.zero_le _, rfl, rfl⟩ ?_
  rintro m σ H' ⟨k, rfl, hk, rfl, rfl⟩
  walk_at "st"
  refine k_lenL (.of e1) ?_
  walk_at "st"
  rw [List.length_map]
  walk_at "if" <;> intro c
  · have c2 : 2 ^ k < ms.length := by exact_mod_cast c
    have hk2 : k < hOf ms.length := by
      rcases Nat.lt_or_ge k (hOf ms.length) with z | z
      · exact z
      · have : k = hOf ms.length := by omega
        subst this
        have := hOf_le ms.length
        omega
    walk_at "st"
    refine ⟨hOf ms.length - (k + 1), by omega, k + 1, rfl, hk2, ?_, rfl⟩
    rw [Nat.pow_succ, Nat.mul_comm, Int.natCast_mul]; rfl
  have c2 : ¬ 2 ^ k < ms.length := by exact_mod_cast c
  have : k = hOf ms.length := by
    rcases Nat.lt_or_ge k (hOf ms.length) with z | z
    · exact absurd (hOf_lt z) c2
    · omega
  subst this
  have hS0 := Nat.two_pow_pos (hOf ms.length)
  have hh := hOf_small (many := ms.length) (by omega)
  have hp12 := Nat.pow_le_pow_right (show 0 < 2 by decide) hh
  walk_at "st"
  refine k_lenL (.of e3) ?_
  walk_at "st"
  rw [heapL_len]
  refine k_ndecT (by push_cast; rfl) ?_
  walk_at "st"
  refine k_ixL (.of e3) (x := .non) (at_int (by decide) (by rw [show (0 : Int).toNat = 0 from rfl, heapL_get (by omega), bear_zero]; rfl)) ?_
  walk_at "st"
  refine k_ndecT rfl ?_
  walk_at "st"
  refine m_rng3e (RgC.neg (by omega) (by omega) (by decide) (by decide)) ?_
  rw [show (2 * ((2 ^ hOf ms.length : Nat) : Int) - 1 - 0).toNat = 2 * 2 ^ hOf ms.length - 1 by omega]
  refine loop_walk walk_rangeC (fun i σ H2 => ∃ y, σ = [some (.ref a), some (.ref p1), some (.ref p2), some (.ref p3), some (.int ((2 ^ hOf ms.length : Nat) : Int)), y] ∧ H2 = H') ⟨none, rfl, rfl⟩ (fun _ _ _ _ => trivial) ?_ ?_
  · rintro i x σ H2 H4 hi ⟨y, rfl, rfl⟩ ⟨rfl, ex⟩
    obtain ⟨k, hk1, hk2⟩ : ∃ k : Nat, x = .int (k : Int) ∧ k = 2 * 2 ^ hOf ms.length - 1 - i := ⟨2 * 2 ^ hOf ms.length - 1 - i, by rw [ex]; show V.int _ = V.int _; congr 1; omega, rfl⟩
    subst hk1
    walk_at "st"
    refine ⟨p3, p1, ms, k, rfl, e3, .of e1, by omega, by omega, ?_⟩
    walk_at "st"
    exact ⟨_, rfl, rfl⟩
  · rintro σ H2 ⟨y, rfl, rfl⟩
    walk_at "st"
    refine call_cell_at (S3.seq hS) (by decide) fun c0 _ => ?_
    walk_at "st"
    walk_at "if" <;> intro _
    · walk_at "st"
      refine call_cell_at (S3.seq hS) (by decide) fun c1 _ => ?_
      walk_at "st"
      refine ⟨_, rfl, fun H5 _ => ?_⟩
      exact q _
    · walk_at "st"
      exact q _

end Tw
namespace Tw
open PySem PySem.Spec PyProof.Rows L2
/-! the text -/
def topS (i : Nat) : Stmt := PySem.Challenge.pw_thinwood_k20_what_nodes_bear.main.body.getD i (.Pass ⟨0, 0, 0, 0⟩)
abbrev s_size_of : Stmt := topS 6
theorem sc_size_of : FnScope n_size_of ["many"] (defScope s_size_of) := ⟨rfl, rfl, rfl, by decide +kernel, rfl, by decide +kernel, by decide +kernel⟩

abbrev s_lesser_of : Stmt := topS 7
theorem sc_lesser_of : FnScope n_lesser_of ["one", "other"] (defScope s_lesser_of) := ⟨rfl, rfl, rfl, by decide +kernel, rfl, by decide +kernel, by decide +kernel⟩

abbrev s_heap_of : Stmt := topS 8
theorem sc_heap_of : FnScope n_heap_of ["numbers"] (defScope s_heap_of) := ⟨rfl, rfl, rfl, by decide +kernel, rfl, by decide +kernel, by decide +kernel⟩

abbrev s_law_cell_at : Stmt := topS 10
theorem sc_law_cell_at : FnScope n_law_cell_at ["_law_script", "_law_k"] (defScope s_law_cell_at) := ⟨rfl, rfl, rfl, by decide +kernel, rfl, by decide +kernel, by decide +kernel⟩

abbrev s_law_whole : Stmt := topS 11
theorem sc_law_whole : FnScope n_law_whole ["_law_found"] (defScope s_law_whole) := ⟨rfl, rfl, rfl, by decide +kernel, rfl, by decide +kernel, by decide +kernel⟩

abbrev s_law_piece : Stmt := topS 12
theorem sc_law_piece : FnScope n_law_piece ["_law_cell"] (defScope s_law_piece) := ⟨rfl, rfl, rfl, by decide +kernel, rfl, by decide +kernel, by decide +kernel⟩

abbrev s_law_numbers : Stmt := topS 13
theorem sc_law_numbers : FnScope n_law_numbers ["_law_script"] (defScope s_law_numbers) := ⟨rfl, rfl, rfl, by decide +kernel, rfl, by decide +kernel, by decide +kernel⟩

abbrev s_law_lesser : Stmt := topS 14
theorem sc_law_lesser : FnScope n_law_lesser ["_law_one", "_law_other"] (defScope s_law_lesser) := ⟨rfl, rfl, rfl, by decide +kernel, rfl, by decide +kernel, by decide +kernel⟩

abbrev s_law_bears : Stmt := topS 15
theorem sc_law_bears : FnScope n_law_bears ["_law_nodes", "_law_node", "_law_size", "_law_some"] (defScope s_law_bears) := ⟨rfl, rfl, rfl, by decide +kernel, rfl, by decide +kernel, by decide +kernel⟩

abbrev s_law_refusal : Stmt := topS 16
theorem sc_law_refusal : FnScope n_law_refusal ["_law_some"] (defScope s_law_refusal) := ⟨rfl, rfl, rfl, by decide +kernel, rfl, by decide +kernel, by decide +kernel⟩

abbrev s_law_greatest : Stmt := topS 17
theorem sc_law_greatest : FnScope n_law_greatest ["_law_cell"] (defScope s_law_greatest) := ⟨rfl, rfl, rfl, by decide +kernel, rfl, by decide +kernel, by decide +kernel⟩

abbrev s_law : Stmt := topS 18
theorem sc_law : FnScope n_law ["_law_script"] (defScope s_law) := ⟨rfl, rfl, rfl, by decide +kernel, rfl, by decide +kernel, by decide +kernel⟩

structure Tx (P : Program) (w : World) (K : PySem.W.Frag) (mg : Str → Option Value) (base : Heap) : Prop where
  d_size_of : ∃ fd, FunD K "size_of" "size_of" (defArgs s_size_of) (defBody s_size_of) (defScope s_size_of) [] [] (He.ga K "size_of") fd
  g_size_of : mg "size_of" = some (.ref (He.ga K "size_of"))
  d_lesser_of : ∃ fd, FunD K "lesser_of" "lesser_of" (defArgs s_lesser_of) (defBody s_lesser_of) (defScope s_lesser_of) [] [] (He.ga K "lesser_of") fd
  g_lesser_of : mg "lesser_of" = some (.ref (He.ga K "lesser_of"))
  d_heap_of : ∃ fd, FunD K "heap_of" "heap_of" (defArgs s_heap_of) (defBody s_heap_of) (defScope s_heap_of) [] [] (He.ga K "heap_of") fd
  g_heap_of : mg "heap_of" = some (.ref (He.ga K "heap_of"))
  d_law_cell_at : ∃ fd, FunD K "_law_cell_at" "_law_cell_at" (defArgs s_law_cell_at) (defBody s_law_cell_at) (defScope s_law_cell_at) [] [] (He.ga K "_law_cell_at") fd
  g_law_cell_at : mg "_law_cell_at" = some (.ref (He.ga K "_law_cell_at"))
  d_law_whole : ∃ fd, FunD K "_law_whole" "_law_whole" (defArgs s_law_whole) (defBody s_law_whole) (defScope s_law_whole) [] [] (He.ga K "_law_whole") fd
  g_law_whole : mg "_law_whole" = some (.ref (He.ga K "_law_whole"))
  d_law_piece : ∃ fd, FunD K "_law_piece" "_law_piece" (defArgs s_law_piece) (defBody s_law_piece) (defScope s_law_piece) [] [] (He.ga K "_law_piece") fd
  g_law_piece : mg "_law_piece" = some (.ref (He.ga K "_law_piece"))
  d_law_numbers : ∃ fd, FunD K "_law_numbers" "_law_numbers" (defArgs s_law_numbers) (defBody s_law_numbers) (defScope s_law_numbers) [] [] (He.ga K "_law_numbers") fd
  g_law_numbers : mg "_law_numbers" = some (.ref (He.ga K "_law_numbers"))
  d_law_lesser : ∃ fd, FunD K "_law_lesser" "_law_lesser" (defArgs s_law_lesser) (defBody s_law_lesser) (defScope s_law_lesser) [] [] (He.ga K "_law_lesser") fd
  g_law_lesser : mg "_law_lesser" = some (.ref (He.ga K "_law_lesser"))
  d_law_bears : ∃ fd, FunD K "_law_bears" "_law_bears" (defArgs s_law_bears) (defBody s_law_bears) (defScope s_law_bears) [] [] (He.ga K "_law_bears") fd
  g_law_bears : mg "_law_bears" = some (.ref (He.ga K "_law_bears"))
  d_law_refusal : ∃ fd, FunD K "_law_refusal" "_law_refusal" (defArgs s_law_refusal) (defBody s_law_refusal) (defScope s_law_refusal) [] [] (He.ga K "_law_refusal") fd
  g_law_refusal : mg "_law_refusal" = some (.ref (He.ga K "_law_refusal"))
  d_law_greatest : ∃ fd, FunD K "_law_greatest" "_law_greatest" (defArgs s_law_greatest) (defBody s_law_greatest) (defScope s_law_greatest) [] [] (He.ga K "_law_greatest") fd
  g_law_greatest : mg "_law_greatest" = some (.ref (He.ga K "_law_greatest"))
  d_law : ∃ fd, FunD K "law" "law" (defArgs s_law) (defBody s_law) (defScope s_law) [] [] (He.ga K "law") fd
  g_law : mg "law" = some (.ref (He.ga K "law"))
  b_ValueError : mg "ValueError" = none
  b_bool : mg "bool" = none
  b_int : mg "int" = none
  b_isinstance : mg "isinstance" = none
  b_len : mg "len" = none
  b_list : mg "list" = none
  b_min : mg "min" = none
  b_range : mg "range" = none
  x_NoPlace : ExF K mg "NoPlace"
  x_TooMany : ExF K mg "TooMany"
  x_WoodError : ExF K mg "WoodError"
  g_NoPlace : mg "NoPlace" = some (.ref (He.ga K "NoPlace"))
  g_TooMany : mg "TooMany" = some (.ref (He.ga K "TooMany"))
  g_WoodError : mg "WoodError" = some (.ref (He.ga K "WoodError"))
  fx : KFx K
  i_MOST : ∃ t, mg "MOST" = some (.int 4096 t)
section
variable {P : Program} {w : World} {K : PySem.W.Frag} {mg : Str → Option Value} {base : Heap}
theorem ok_size_of (T : Tx P w K mg base) : Okf P w K mg base CX0 1 "size_of" ["many"] (sp_size_of K) := by
  obtain ⟨fd, FD⟩ := T.d_size_of
  refine ⟨⟨fd, FunD.look FD, FD.bindsN fun _ _ _ _ _ _ us hl => match us, hl with | [_], _ => rfl, ?_⟩, FD.kp, T.g_size_of⟩
  refine FunD.ok (CX := CX0) FD sc_size_of (len_size_of K) (fun cdv A outer s H vs Q E hr h => ⟨t_size_of K, PSs.nox ?_, rd_size_of K vs H Q E h⟩)
  exact (pss_cons (ps_set (i := 1) sc_size_of.nd rfl (.inl rfl) pe_int)
  (pss_cons (ps_while PassesOwn.never (pt_cmpR op_lt (pv 1) (pv 0) (nomark _))
  (pss_one (ps_aug (i := 1) sc_size_of.nd rfl (.inl rfl) pe_int iop_mul)))
  (pss_one (ps_ret (pv 1)))))

theorem ok_lesser_of (T : Tx P w K mg base) : Okf P w K mg base CX0 1 "lesser_of" ["one", "other"] (sp_lesser_of K) := by
  obtain ⟨fd, FD⟩ := T.d_lesser_of
  refine ⟨⟨fd, FunD.look FD, FD.bindsN fun _ _ _ _ _ _ us hl => match us, hl with | [_, _], _ => rfl, ?_⟩, FD.kp, T.g_lesser_of⟩
  refine FunD.ok (CX := CX0) FD sc_lesser_of (len_lesser_of K) (fun cdv A outer s H vs Q E hr h => ⟨t_lesser_of K, PSs.nox ?_, rd_lesser_of K vs H Q E h⟩)
  exact (pss_cons (ps_if (pt_cmpR op_isN1 (pv 0) pe_non (nomark _))
  (pss_one (ps_ret (pv 1)))
  pss_nil)
  (pss_cons (ps_if (pt_cmpR op_isN1 (pv 1) pe_non (nomark _))
  (pss_one (ps_ret (pv 0)))
  pss_nil)
  (pss_one (ps_ret (pe_callB (call_min2K rfl) (by rfl) T.b_min (by decide +kernel) (pa_cons (pv 0) (pa_cons (pv 1) pa_nil)))))))

theorem ok_heap_of (T : Tx P w K mg base) (o_size_of : Okf P w K mg base CX0 1 "size_of" ["many"] (sp_size_of K)) (o_lesser_of : Okf P w K mg base CX0 1 "lesser_of" ["one", "other"] (sp_lesser_of K)) : Okf P w K mg base (L2.CX P w) 3 "heap_of" ["numbers"] (sp_heap_of K) := by
  obtain ⟨fd, FD⟩ := T.d_heap_of
  refine ⟨⟨fd, FunD.look FD, FD.bindsN fun _ _ _ _ _ _ us hl => match us, hl with | [_], _ => rfl, ?_⟩, FD.kp, T.g_heap_of⟩
  refine FunD.ok (CX := (L2.CX P w)) FD sc_heap_of (len_heap_of K) (fun cdv A outer s H vs Q E hr h => ⟨t_heap_of K E, ?_, rd_heap_of K vs H Q E h⟩)
  exact (pss_cons (ps_if (pt_cmpR op_gt (pe_callB call_lenK (by rfl) T.b_len (by decide +kernel) (pa_cons (pv 0) pa_nil)) (pe_gint T.i_MOST (by rfl)) (nomark _))
  (pss_one (ps_rz T.x_TooMany (takes_of rfl rfl rfl rfl)))
  pss_nil)
  (pss_cons (ps_set (i := 1) sc_heap_of.nd rfl (.inl rfl) (pe_callF o_size_of hr (by decide) (by rfl) pass0 (pa_cons (pe_callB call_lenK (by rfl) T.b_len (by decide +kernel) (pa_cons (pv 0) pa_nil)) pa_nil)))
  (pss_cons (ps_set (i := 2) sc_heap_of.nd rfl (.inl rfl) (pe_op op_cat (pe_op op_cat (pe_op op_rep (pe_lst (pa_cons pe_non pa_nil)) (pv 1)) (pe_callTy call_listK (by rfl) T.b_list (by decide +kernel) (pa_cons (pv 0) pa_nil))) (pe_op op_rep (pe_lst (pa_cons pe_non pa_nil)) (pe_op op_sub (pv 1) (pe_callB call_lenK (by rfl) T.b_len (by decide +kernel) (pa_cons (pv 0) pa_nil))))))
  (pss_cons (ps_for (passes_of rfl) rfl (pi_range3 (by rfl) T.b_range (pa_cons (pe_op op_sub (pv 1) pe_int) (pa_cons pe_int (pa_cons (pe_un un_neg pe_int) pa_nil)))) (pg_name (i := 3) sc_heap_of.nd rfl (.inl rfl))
  (pss_one (ps_asg (pe_callF o_lesser_of hr (by decide) (by rfl) pass0 (pa_cons (pe_ix ix_list (pv 2) (pe_op op_mul pe_int (pv 3)) (fun _ _ => rfl)) (pa_cons (pe_ix ix_list (pv 2) (pe_op op_add (pe_op op_mul pe_int (pv 3)) pe_int) (fun _ _ => rfl)) pa_nil))) (pg_sub (pv 2) (pv 3) set_list))))
  (pss_one (ps_ret (pv 2)))))))

theorem ok_law_cell_at (T : Tx P w K mg base) : Okf P w K mg base CX0 1 "_law_cell_at" ["_law_script", "_law_k"] (sp_law_cell_at K) := by
  obtain ⟨fd, FD⟩ := T.d_law_cell_at
  refine ⟨⟨fd, FunD.look FD, FD.bindsN fun _ _ _ _ _ _ us hl => match us, hl with | [_, _], _ => rfl, ?_⟩, FD.kp, T.g_law_cell_at⟩
  refine FunD.ok (CX := CX0) FD sc_law_cell_at (len_law_cell_at K) (fun cdv A outer s H vs Q E hr h => ⟨t_law_cell_at K, PSs.nox ?_, rd_law_cell_at K vs H Q E h⟩)
  exact (pss_cons (ps_if (pt_cmpR op_lt (pv 1) (pe_callB call_lenK (by rfl) T.b_len (by decide +kernel) (pa_cons (pv 0) pa_nil)) (nomark _))
  (pss_one (ps_ret (pe_ix ix_list (pv 0) (pv 1) (fun _ _ => rfl))))
  pss_nil)
  (pss_one (ps_ret pe_int)))

theorem ok_law_whole (T : Tx P w K mg base) : Okf P w K mg base CX0 1 "_law_whole" ["_law_found"] (sp_law_whole K) := by
  obtain ⟨fd, FD⟩ := T.d_law_whole
  refine ⟨⟨fd, FunD.look FD, FD.bindsN fun _ _ _ _ _ _ us hl => match us, hl with | [_], _ => rfl, ?_⟩, FD.kp, T.g_law_whole⟩
  refine FunD.ok (CX := CX0) FD sc_law_whole (len_law_whole K) (fun cdv A outer s H vs Q E hr h => ⟨t_law_whole K, PSs.nox ?_, rd_law_whole K vs H Q E h⟩)
  exact (pss_one (ps_ret (pe_and (pe_callB call_isB (by rfl) T.b_isinstance (by decide +kernel) (pa_cons (pv 0) (pa_cons (pe_bltn (v := .ty "int") (by rfl) T.b_int (by decide +kernel) rfl) pa_nil))) (pe_one (pe_not (pe_callB call_isB (by rfl) T.b_isinstance (by decide +kernel) (pa_cons (pv 0) (pa_cons (pe_bltn (v := .ty "bool") (by rfl) T.b_bool (by decide +kernel) rfl) pa_nil))))))))

theorem ok_law_piece (T : Tx P w K mg base) : Okf P w K mg base CX0 1 "_law_piece" ["_law_cell"] (sp_law_piece K) := by
  obtain ⟨fd, FD⟩ := T.d_law_piece
  refine ⟨⟨fd, FunD.look FD, FD.bindsN fun _ _ _ _ _ _ us hl => match us, hl with | [_], _ => rfl, ?_⟩, FD.kp, T.g_law_piece⟩
  refine FunD.ok (CX := CX0) FD sc_law_piece (len_law_piece K) (fun cdv A outer s H vs Q E hr h => ⟨t_law_piece K, PSs.nox ?_, rd_law_piece K vs H Q E h⟩)
  exact (pss_cons (ps_set (i := 1) sc_law_piece.nd rfl (.inl rfl) (pe_op op_fdiv (pv 0) pe_int))
  (pss_cons (ps_if (pt_cmpR op_eq (pe_op op_mod (pv 0) pe_int) pe_int (nomark _))
  (pss_one (ps_ret (pe_lst (pa_cons (pe_op op_add (pe_op op_sub (pe_op op_mod (pv 1) (pe_cst (pe_op op_sub (pe_cst (pe_op op_mulW pe_int (pe_cst (pe_op op_pow pe_int pe_int) fun _ _ _ h => ⟨_, _, rfl, rfl, ⟨by decide, by decide, by decide⟩, h⟩)) fun _ _ _ h => ⟨_, _, rfl, rfl, (by unfold CMulW; decide +kernel), h⟩) pe_int) fun _ _ _ h => ⟨_, _, rfl, rfl, h⟩)) (pe_cst (pe_op op_pow pe_int pe_int) fun _ _ _ h => ⟨_, _, rfl, rfl, ⟨by decide, by decide, by decide⟩, h⟩)) pe_int) pa_nil))))
  pss_nil)
  (pss_cons (ps_if (pt_cmpR op_eq (pe_op op_mod (pv 0) pe_int) pe_int (nomark _))
  (pss_cons (ps_set (i := 2) sc_law_piece.nd rfl (.inl rfl) (pe_cst (pe_op op_mulW (pe_cst (pe_op op_mulW (pe_cst (pe_op op_mulW (pe_cst (pe_op op_pow pe_int pe_int) fun _ _ _ h => ⟨_, _, rfl, rfl, ⟨by decide, by decide, by decide⟩, h⟩) (pe_cst (pe_op op_pow pe_int pe_int) fun _ _ _ h => ⟨_, _, rfl, rfl, ⟨by decide, by decide, by decide⟩, h⟩)) fun _ _ _ h => ⟨_, _, rfl, rfl, (by unfold CMulW; decide +kernel), h⟩) (pe_cst (pe_op op_pow pe_int pe_int) fun _ _ _ h => ⟨_, _, rfl, rfl, ⟨by decide, by decide, by decide⟩, h⟩)) fun _ _ _ h => ⟨_, _, rfl, rfl, (by unfold CMulW; decide +kernel), h⟩) (pe_cst (pe_op op_pow pe_int pe_int) fun _ _ _ h => ⟨_, _, rfl, rfl, ⟨by decide, by decide, by decide⟩, h⟩)) fun _ _ _ h => ⟨_, _, rfl, rfl, (by unfold CMulW; decide +kernel), h⟩))
  (pss_one (ps_ret (pe_lst (pa_cons (pe_op op_mul (pe_ix ix_list (pe_lst (pa_cons pe_int (pa_cons (pe_un un_neg pe_int) pa_nil))) (pe_op op_mod (pv 1) pe_int) (fun _ _ => rfl)) (pe_op op_sub (pe_op op_sub (pv 2) pe_int) (pe_op op_mod (pe_op op_fdiv (pv 1) pe_int) (pv 2)))) pa_nil)))))
  pss_nil)
  (pss_cons (ps_if (pt_cmpR op_eq (pe_op op_mod (pv 0) pe_int) pe_int (nomark _))
  (pss_one (ps_ret (pe_lst (pa_cons (pe_op op_sub (pe_op op_mod (pv 1) pe_int) pe_int) pa_nil))))
  pss_nil)
  (pss_cons (ps_set (i := 3) sc_law_piece.nd rfl (.inl rfl) (pe_op op_add pe_int (pe_op op_mod (pv 1) pe_int)))
  (Evl.pss_cut (ps_if (pt_cmpR op_eq (pe_op op_mod (pe_op op_fdiv (pv 1) pe_int) pe_int) pe_int (nomark _))
  (pss_one (ps_set (i := 3) sc_law_piece.nd rfl (.inl rfl) (pe_op op_mod (pe_op op_fdiv (pv 1) pe_int) pe_int)))
  pss_nil)
  (pss_cons (ps_set (i := 4) sc_law_piece.nd rfl (.inr rfl) (pe_op op_mod (pe_op op_mul (pv 1) pe_int) pe_int))
  (pss_one (ps_ret (pe_lc (own := [("_law_k", 5)]) (g := (gName 5)) (tt := tYes) rfl sc_law_piece.nd (pi_range1 (by rfl) T.b_range (pa_cons (pv 3) pa_nil)) (blkOk_by (N := ["_law_cell", "_law_rest", "_law_great", "_law_many", "_law_mixed", "_law_k"]) (sc := defScope s_law_piece) (own := [("_law_k", 5)]) (by decide +kernel)) (fun _ _ _ _ _ => (pg_name (i := 5) sc_law_piece.nd rfl (.inl rfl))) (fun _ _ _ _ _ => pts_nil) (fun _ _ _ _ _ => (pe_op op_add (pe_op op_sub (pe_op op_mod (pv 4) pe_int) pe_int) (pe_op op_mul (pe_op op_sub (pe_op op_mod (pe_op op_fdiv (pv 4) pe_int) pe_int) pe_int) (pv 5))))))))))))))

theorem ok_law_numbers (T : Tx P w K mg base) (o_law_piece : Okf P w K mg base CX0 1 "_law_piece" ["_law_cell"] (sp_law_piece K)) : Okf P w K mg base CX0 2 "_law_numbers" ["_law_script"] (sp_law_numbers K) := by
  obtain ⟨fd, FD⟩ := T.d_law_numbers
  refine ⟨⟨fd, FunD.look FD, FD.bindsN fun _ _ _ _ _ _ us hl => match us, hl with | [_], _ => rfl, ?_⟩, FD.kp, T.g_law_numbers⟩
  refine FunD.ok (CX := CX0) FD sc_law_numbers (len_law_numbers K) (fun cdv A outer s H vs Q E hr h => ⟨t_law_numbers K, PSs.nox ?_, rd_law_numbers K vs H Q E h⟩)
  exact (pss_cons (ps_set (i := 1) sc_law_numbers.nd rfl (.inl rfl) (pe_lst pa_nil))
  (pss_cons (ps_for PassesOwn.never rfl (pi_list (pe_slice sl_list (pv 0) po_none (po_some pe_int))) (pg_name (i := 2) sc_law_numbers.nd rfl (.inl rfl))
  (pss_one (ps_if (pt_cmpR op_lt (pe_callB call_lenK (by rfl) T.b_len (by decide +kernel) (pa_cons (pv 1) pa_nil)) pe_int (nomark _))
  (pss_one (ps_expr (pe_bm PySem.F.plainAttrs_list PySem.F.slot_list_extend PySem.F.type_list_extend mt_extend (pv 1) (pa_cons (pe_callF o_law_piece hr (by decide) (by rfl) pass0 (pa_cons (pv 2) pa_nil)) pa_nil))))
  pss_nil)))
  (pss_one (ps_ret (pe_slice sl_list (pv 1) po_none (po_some pe_int))))))

theorem ok_law_lesser (T : Tx P w K mg base) : Okf P w K mg base CX0 1 "_law_lesser" ["_law_one", "_law_other"] (sp_law_lesser K) := by
  obtain ⟨fd, FD⟩ := T.d_law_lesser
  refine ⟨⟨fd, FunD.look FD, FD.bindsN fun _ _ _ _ _ _ us hl => match us, hl with | [_, _], _ => rfl, ?_⟩, FD.kp, T.g_law_lesser⟩
  refine FunD.ok (CX := CX0) FD sc_law_lesser (len_law_lesser K) (fun cdv A outer s H vs Q E hr h => ⟨t_law_lesser K, PSs.nox ?_, rd_law_lesser K vs H Q E h⟩)
  exact (pss_cons (ps_if (pt_cmpR op_isN1 (pv 0) pe_non (nomark _))
  (pss_one (ps_ret (pv 1)))
  pss_nil)
  (pss_cons (ps_if (pt_cmpR op_isN1 (pv 1) pe_non (nomark _))
  (pss_one (ps_ret (pv 0)))
  pss_nil)
  (pss_one (ps_ret (pe_callB (call_min2K rfl) (by rfl) T.b_min (by decide +kernel) (pa_cons (pv 0) (pa_cons (pv 1) pa_nil)))))))

theorem ok_law_bears (T : Tx P w K mg base) (o_law_lesser : Okf P w K mg base CX0 1 "_law_lesser" ["_law_one", "_law_other"] (sp_law_lesser K)) (o_law_whole : Okf P w K mg base CX0 1 "_law_whole" ["_law_found"] (sp_law_whole K)) : Okf P w K mg base CX0 2 "_law_bears" ["_law_nodes", "_law_node", "_law_size", "_law_some"] (sp_law_bears K) := by
  obtain ⟨fd, FD⟩ := T.d_law_bears
  refine ⟨⟨fd, FunD.look FD, FD.bindsN fun _ _ _ _ _ _ us hl => match us, hl with | [_, _, _, _], _ => rfl, ?_⟩, FD.kp, T.g_law_bears⟩
  refine FunD.ok (CX := CX0) FD sc_law_bears (len_law_bears K) (fun cdv A outer s H vs Q E hr h => ⟨t_law_bears K, PSs.nox ?_, rd_law_bears K vs H Q E h⟩)
  exact (pss_cons (ps_set (i := 4) sc_law_bears.nd rfl (.inl rfl) pe_non)
  (pss_cons (ps_if (pt_cmpR op_ge (pv 1) (pe_op op_add (pv 2) (pe_callB call_lenK (by rfl) T.b_len (by decide +kernel) (pa_cons (pv 3) pa_nil))) (nomark _))
  (pss_one (ps_ret (pe_cmpR op_isN1 (pe_ix ix_list (pv 0) (pv 1) (fun _ _ => rfl)) pe_non (nomark _))))
  pss_nil)
  (Evl.pss_cut (ps_if (pt_cmpR op_ge (pv 1) (pv 2) (nomark _))
  (pss_one (ps_set (i := 4) sc_law_bears.nd rfl (.inl rfl) (pe_ix ix_list (pv 3) (pe_op op_sub (pv 1) (pv 2)) (fun _ _ => rfl))))
  (pss_one (ps_set (i := 4) sc_law_bears.nd rfl (.inl rfl) (pe_callF o_law_lesser hr (by decide) (by rfl) pass0 (pa_cons (pe_ix ix_list (pv 0) (pe_op op_mul pe_int (pv 1)) (fun _ _ => rfl)) (pa_cons (pe_ix ix_list (pv 0) (pe_op op_add (pe_op op_mul pe_int (pv 1)) pe_int) (fun _ _ => rfl)) pa_nil))))))
  (pss_cons (ps_if (pt_cmpR op_isN1 (pv 4) pe_non (nomark _))
  (pss_one (ps_ret (pe_cmpR op_isN1 (pe_ix ix_list (pv 0) (pv 1) (fun _ _ => rfl)) pe_non (nomark _))))
  pss_nil)
  (pss_one (ps_ret (pe_and (pe_callF o_law_whole hr (by decide) (by rfl) pass0 (pa_cons (pe_ix ix_list (pv 0) (pv 1) (fun _ _ => rfl)) pa_nil)) (pe_one (pe_cmpR op_eq (pe_ix ix_list (pv 0) (pv 1) (fun _ _ => rfl)) (pv 4) (nomark _))))))))))

theorem ok_law_refusal (T : Tx P w K mg base) (o_heap_of : Okf P w K mg base (L2.CX P w) 3 "heap_of" ["numbers"] (sp_heap_of K)) : Okf P w K mg base CX0 4 "_law_refusal" ["_law_some"] (sp_law_refusal K) := by
  obtain ⟨fd, FD⟩ := T.d_law_refusal
  refine ⟨⟨fd, FunD.look FD, FD.bindsN fun _ _ _ _ _ _ us hl => match us, hl with | [_], _ => rfl, ?_⟩, FD.kp, T.g_law_refusal⟩
  refine FunD.ok (CX := CX0) FD sc_law_refusal (len_law_refusal K) (fun cdv A outer s H vs Q E hr h => ⟨t_law_refusal K, PSs.nox ?_, rd_law_refusal K T.fx vs H Q E h⟩)
  exact (pss_cons (ps_set (i := 1) sc_law_refusal.nd rfl (.inl rfl) (pe_lst pa_nil))
  (pss_cons (ps_try_as (i := 2) (tb := fun W => (tDrop (tCallS (sp_heap_of K) (WE W) (tCons (tVar 0) tNil)))) (ts := fun a cls d => (tAsg (tLst (tCons (tCB (rIsX K cls d a) (tCons (tVar 2) (tCons (tC (.ref (He.ga K "TooMany"))) tNil))) (tCons (tCB (rIsX K cls d a) (tCons (tVar 2) (tCons (tC (.ty "ValueError")) tNil))) (tCons (tCB (rIsX K cls d a) (tCons (tVar 2) (tCons (tC (.ref (He.ga K "NoPlace"))) tNil))) tNil)))) (gName 1))) (Wout := (fun _ _ _ _ => False)) rfl rfl sc_law_refusal.nd rfl rfl ⟨rfl, by decide, .inl T.g_WoodError⟩ takes0 (fun W pn xe tk po => (pss_one (ps_expr (pe_callFS o_heap_of hr (by decide) (by rfl) tk (pa_cons (pv 0) pa_nil))))) (fun a oe cls d pn hz hf => (pss_one (ps_set (i := 1) sc_law_refusal.nd rfl (.inl rfl) (pe_lst (pa_cons (pe_callB (call_isX hz hf) (by rfl) T.b_isinstance (by decide +kernel) (pa_cons (pv 2) (pa_cons (pe_glob (by rfl) T.g_TooMany rfl) pa_nil))) (pa_cons (pe_callB (call_isX hz hf) (by rfl) T.b_isinstance (by decide +kernel) (pa_cons (pv 2) (pa_cons (pe_bltn (v := .ty "ValueError") (by rfl) T.b_ValueError (by decide +kernel) rfl) pa_nil))) (pa_cons (pe_callB (call_isX hz hf) (by rfl) T.b_isinstance (by decide +kernel) (pa_cons (pv 2) (pa_cons (pe_glob (by rfl) T.g_NoPlace rfl) pa_nil))) pa_nil))))))))
  (pss_one (ps_ret (pv 1)))))

theorem ok_law_greatest (T : Tx P w K mg base) (o_heap_of : Okf P w K mg base (L2.CX P w) 3 "heap_of" ["numbers"] (sp_heap_of K)) (o_law_whole : Okf P w K mg base CX0 1 "_law_whole" ["_law_found"] (sp_law_whole K)) (o_law_refusal : Okf P w K mg base CX0 4 "_law_refusal" ["_law_some"] (sp_law_refusal K)) : Okf P w K mg base CX0 5 "_law_greatest" ["_law_cell"] (sp_law_greatest K) := by
  obtain ⟨fd, FD⟩ := T.d_law_greatest
  refine ⟨⟨fd, FunD.look FD, FD.bindsN fun _ _ _ _ _ _ us hl => match us, hl with | [_], _ => rfl, ?_⟩, FD.kp, T.g_law_greatest⟩
  refine FunD.ok (CX := CX0) FD sc_law_greatest (len_law_greatest K) (fun cdv A outer s H vs Q E hr h => ⟨t_law_greatest K, PSs.nox ?_, rd_law_greatest K T.fx vs H Q E h⟩)
  exact (pss_cons (ps_set (i := 1) sc_law_greatest.nd rfl (.inl rfl) (pe_op op_mod (pv 0) (pe_cst (pe_op op_pow pe_int pe_int) fun _ _ _ h => ⟨_, _, rfl, rfl, ⟨by decide, by decide, by decide⟩, h⟩)))
  (pss_cons (ps_set (i := 2) sc_law_greatest.nd rfl (.inl rfl) (pe_callF o_heap_of hr (by decide) (by rfl) passL (pa_cons (pe_op op_rep (pe_lst (pa_cons (pv 1) pa_nil)) pe_int) pa_nil)))
  (pss_cons (ps_if (PW.pt (pw_or (pt_not (pt_val (pe_callB call_isB (by rfl) T.b_isinstance (by decide +kernel) (pa_cons (pv 2) (pa_cons (pe_bltn (v := .ty "list") (by rfl) T.b_list (by decide +kernel) rfl) pa_nil))))) (pw_or (pt_cmpR op_ne (pe_callB call_lenK (by rfl) T.b_len (by decide +kernel) (pa_cons (pv 2) pa_nil)) pe_int (nomark _)) (pw_or1 (pt_cmpR op_notN1 (pe_ix ix_list (pv 2) pe_int (fun _ _ => rfl)) pe_non (nomark _))))))
  (pss_one (ps_ret pe_bl))
  pss_nil)
  (pss_cons (ps_for PassesOwn.never rfl (pi_list (pe_lst (pa_cons pe_int (pa_cons pe_int (pa_cons pe_int (pa_cons pe_int (pa_cons pe_int (pa_cons pe_int (pa_cons (pe_op op_add pe_int (pe_op op_mod (pv 0) pe_int)) pa_nil))))))))) (pg_name (i := 3) sc_law_greatest.nd rfl (.inl rfl))
  (pss_one (ps_if (PW.pt (pw_or (pt_not (pt_val (pe_callF o_law_whole hr (by decide) (by rfl) pass0 (pa_cons (pe_ix ix_list (pv 2) (pv 3) (fun _ _ => rfl)) pa_nil)))) (pw_or1 (pt_cmpR op_ne (pe_ix ix_list (pv 2) (pv 3) (fun _ _ => rfl)) (pv 1) (nomark _)))))
  (pss_one (ps_ret pe_bl))
  pss_nil)))
  (pss_one (ps_ret (pe_cmpR (op_eqD hr.units) (pe_callF o_law_refusal hr (by decide) (by rfl) pass0 (pa_cons (pe_op op_rep (pe_lst (pa_cons (pv 1) pa_nil)) (pe_op op_add pe_int (pe_op op_mod (pv 0) pe_int))) pa_nil)) (pe_lst (pa_cons pe_bl (pa_cons pe_bl (pa_cons pe_bl pa_nil)))) (nomark _))))))))

theorem ok_law (T : Tx P w K mg base) (o_law_numbers : Okf P w K mg base CX0 2 "_law_numbers" ["_law_script"] (sp_law_numbers K)) (o_heap_of : Okf P w K mg base (L2.CX P w) 3 "heap_of" ["numbers"] (sp_heap_of K)) (o_law_bears : Okf P w K mg base CX0 2 "_law_bears" ["_law_nodes", "_law_node", "_law_size", "_law_some"] (sp_law_bears K)) (o_law_cell_at : Okf P w K mg base CX0 1 "_law_cell_at" ["_law_script", "_law_k"] (sp_law_cell_at K)) (o_law_greatest : Okf P w K mg base CX0 5 "_law_greatest" ["_law_cell"] (sp_law_greatest K)) : Okf P w K mg base CX0 6 "law" ["_law_script"] (sp_law K) := by
  obtain ⟨fd, FD⟩ := T.d_law
  refine ⟨⟨fd, FunD.look FD, FD.bindsN fun _ _ _ _ _ _ us hl => match us, hl with | [_], _ => rfl, ?_⟩, FD.kp, T.g_law⟩
  refine FunD.ok (CX := CX0) FD sc_law (len_law K) (fun cdv A outer s H vs Q E hr h => ⟨t_law K, PSs.nox ?_, rd_law K T.fx vs H Q E h⟩)
  exact (pss_cons (ps_set (i := 1) sc_law.nd rfl (.inl rfl) (pe_callF o_law_numbers hr (by decide) (by rfl) pass0 (pa_cons (pv 0) pa_nil)))
  (pss_cons (ps_set (i := 2) sc_law.nd rfl (.inl rfl) (pe_callTy call_listK (by rfl) T.b_list (by decide +kernel) (pa_cons (pv 1) pa_nil)))
  (pss_cons (ps_set (i := 3) sc_law.nd rfl (.inl rfl) (pe_callF o_heap_of hr (by decide) (by rfl) passL (pa_cons (pv 2) pa_nil)))
  (pss_cons (ps_if (PW.pt (pw_or (pt_not (pt_val (pe_callB call_isB (by rfl) T.b_isinstance (by decide +kernel) (pa_cons (pv 3) (pa_cons (pe_bltn (v := .ty "list") (by rfl) T.b_list (by decide +kernel) rfl) pa_nil))))) (pw_or1 (pt_cmpR (op_neD hr.units) (pv 2) (pv 1) (nomark _)))))
  (pss_one (ps_ret pe_bl))
  pss_nil)
  (pss_cons (ps_set (i := 4) sc_law.nd rfl (.inl rfl) pe_int)
  (pss_cons (ps_while PassesOwn.never (pt_cmpR op_lt (pv 4) (pe_callB call_lenK (by rfl) T.b_len (by decide +kernel) (pa_cons (pv 1) pa_nil)) (nomark _))
  (pss_one (ps_set (i := 4) sc_law.nd rfl (.inl rfl) (pe_op op_mul pe_int (pv 4)))))
  (pss_cons (ps_if (PW.pt (pw_or (pt_cmpR op_ne (pe_callB call_lenK (by rfl) T.b_len (by decide +kernel) (pa_cons (pv 3) pa_nil)) (pe_op op_mul pe_int (pv 4)) (nomark _)) (pw_or1 (pt_cmpR op_notN1 (pe_ix ix_list (pv 3) pe_int (fun _ _ => rfl)) pe_non (nomark _)))))
  (pss_one (ps_ret pe_bl))
  pss_nil)
  (pss_cons (ps_for PassesOwn.never rfl (pi_range3 (by rfl) T.b_range (pa_cons (pe_op op_sub (pe_op op_mul pe_int (pv 4)) pe_int) (pa_cons pe_int (pa_cons (pe_un un_neg pe_int) pa_nil)))) (pg_name (i := 5) sc_law.nd rfl (.inl rfl))
  (pss_one (ps_if (pt_not (pt_val (pe_callF o_law_bears hr (by decide) (by rfl) pass0 (pa_cons (pv 3) (pa_cons (pv 5) (pa_cons (pv 4) (pa_cons (pv 1) pa_nil)))))))
  (pss_one (ps_ret pe_bl))
  pss_nil)))
  (pss_cons (ps_if (pt_cmpR op_eq (pe_op op_mod (pe_callF o_law_cell_at hr (by decide) (by rfl) pass0 (pa_cons (pv 0) (pa_cons pe_int pa_nil))) pe_int) pe_int (nomark _))
  (pss_one (ps_ret (pe_callF o_law_greatest hr (by decide) (by rfl) pass0 (pa_cons (pe_callF o_law_cell_at hr (by decide) (by rfl) pass0 (pa_cons (pv 0) (pa_cons pe_int pa_nil))) pa_nil))))
  pss_nil)
  (pss_one (ps_ret pe_bl)))))))))))
end
def dd_size_of : He.DefD := ⟨("size_of", none), "size_of", "size_of", defArgs s_size_of, defBody s_size_of, defScope s_size_of, [], []⟩
def dd_lesser_of : He.DefD := ⟨("lesser_of", none), "lesser_of", "lesser_of", defArgs s_lesser_of, defBody s_lesser_of, defScope s_lesser_of, [], []⟩
def dd_heap_of : He.DefD := ⟨("heap_of", none), "heap_of", "heap_of", defArgs s_heap_of, defBody s_heap_of, defScope s_heap_of, [], []⟩
def dd_law_cell_at : He.DefD := ⟨("_law_cell_at", none), "_law_cell_at", "_law_cell_at", defArgs s_law_cell_at, defBody s_law_cell_at, defScope s_law_cell_at, [], []⟩
def dd_law_whole : He.DefD := ⟨("_law_whole", none), "_law_whole", "_law_whole", defArgs s_law_whole, defBody s_law_whole, defScope s_law_whole, [], []⟩
def dd_law_piece : He.DefD := ⟨("_law_piece", none), "_law_piece", "_law_piece", defArgs s_law_piece, defBody s_law_piece, defScope s_law_piece, [], []⟩
def dd_law_numbers : He.DefD := ⟨("_law_numbers", none), "_law_numbers", "_law_numbers", defArgs s_law_numbers, defBody s_law_numbers, defScope s_law_numbers, [], []⟩
def dd_law_lesser : He.DefD := ⟨("_law_lesser", none), "_law_lesser", "_law_lesser", defArgs s_law_lesser, defBody s_law_lesser, defScope s_law_lesser, [], []⟩
def dd_law_bears : He.DefD := ⟨("_law_bears", none), "_law_bears", "_law_bears", defArgs s_law_bears, defBody s_law_bears, defScope s_law_bears, [], []⟩
def dd_law_refusal : He.DefD := ⟨("_law_refusal", none), "_law_refusal", "_law_refusal", defArgs s_law_refusal, defBody s_law_refusal, defScope s_law_refusal, [], []⟩
def dd_law_greatest : He.DefD := ⟨("_law_greatest", none), "_law_greatest", "_law_greatest", defArgs s_law_greatest, defBody s_law_greatest, defScope s_law_greatest, [], []⟩
def dd_law : He.DefD := ⟨("law", none), "law", "law", defArgs s_law, defBody s_law, defScope s_law, [], []⟩
def fnL : List He.DefD := [dd_size_of, dd_lesser_of, dd_heap_of, dd_law_cell_at, dd_law_whole, dd_law_piece, dd_law_numbers, dd_law_lesser, dd_law_bears, dd_law_refusal, dd_law_greatest, dd_law]
def fxL : List Fx := [.excC "NoPlace", .kitT "NoPlace" "ValueError" true, .kit "NoPlace" "NoPlace" true, .exm "NoPlace" "NoPlace" true, .kit "NoPlace" "TooMany" false, .exm "NoPlace" "TooMany" false, .kit "NoPlace" "WoodError" true, .exm "NoPlace" "WoodError" true, .excC "TooMany", .kitT "TooMany" "ValueError" true, .kit "TooMany" "NoPlace" false, .exm "TooMany" "NoPlace" false, .kit "TooMany" "TooMany" true, .exm "TooMany" "TooMany" true, .kit "TooMany" "WoodError" true, .exm "TooMany" "WoodError" true, .excC "WoodError", .kitT "WoodError" "ValueError" true, .kit "WoodError" "NoPlace" false, .exm "WoodError" "NoPlace" false, .kit "WoodError" "TooMany" false, .exm "WoodError" "TooMany" false, .kit "WoodError" "WoodError" true, .exm "WoodError" "WoodError" true]
def faL : List He.Fa := [.glo "size_of", .glo "lesser_of", .glo "heap_of", .glo "_law_cell_at", .glo "_law_whole", .glo "_law_piece", .glo "_law_numbers", .glo "_law_lesser", .glo "_law_bears", .glo "_law_refusal", .glo "_law_greatest", .glo "law", .free "ValueError", .free "bool", .free "int", .free "isinstance", .free "len", .free "list", .free "min", .free "range", .int "MOST" 4096, .exc "NoPlace", .exc "TooMany", .exc "WoodError", .glo "NoPlace", .glo "TooMany", .glo "WoodError"]
abbrev R : PySem.W.OpenRow := PySem.W.OpenLaw.row PySem.Challenge.rw_thinwood_k20_what_nodes_bear
abbrev hk : PySem.W.Hook := hookF 4 faL fnL fxL
def ob (s : PySem.W.SharedT) : AlF := obsFG 4 faL fnL fxL (HandSHeadRun.getT s)
theorem ob_eq (s : PySem.W.SharedT) : ob s = hk.obs s.abs := obsFG_eq (HandSHeadRun.getT_eq s)
def looseL : List PySem.Str := (["WoodError", "TooMany", "NoPlace", "MOST", "size_of", "lesser_of", "heap_of", "_law_cell_at", "_law_whole", "_law_piece", "_law_numbers", "_law_lesser", "_law_bears", "_law_refusal", "_law_greatest"] : List PySem.Str)
theorem run (w : World) : HandSHeadRun.RunEq R (PySem.W.view R.prog [18]) hk ob 20000 looseL w := by
  intro os
  kernel_rfl
theorem tx_of {P : Program} {w : World} {K : PySem.W.Frag} {h : Heap} {mg : Str → Option Value} (X : K.In h) (G : h.Ns mainGlobals mg) (c2 : SaysF faL fnL fxL K) (base : Heap) : Tx P w K mg base :=
  have c := SaysF.d c2
  {
  d_size_of := c.def_ 0 (d := dd_size_of) rfl
  g_size_of := He.glo_ok X G (c.fact 0 (f := .glo "size_of") rfl)
  d_lesser_of := c.def_ 1 (d := dd_lesser_of) rfl
  g_lesser_of := He.glo_ok X G (c.fact 1 (f := .glo "lesser_of") rfl)
  d_heap_of := c.def_ 2 (d := dd_heap_of) rfl
  g_heap_of := He.glo_ok X G (c.fact 2 (f := .glo "heap_of") rfl)
  d_law_cell_at := c.def_ 3 (d := dd_law_cell_at) rfl
  g_law_cell_at := He.glo_ok X G (c.fact 3 (f := .glo "_law_cell_at") rfl)
  d_law_whole := c.def_ 4 (d := dd_law_whole) rfl
  g_law_whole := He.glo_ok X G (c.fact 4 (f := .glo "_law_whole") rfl)
  d_law_piece := c.def_ 5 (d := dd_law_piece) rfl
  g_law_piece := He.glo_ok X G (c.fact 5 (f := .glo "_law_piece") rfl)
  d_law_numbers := c.def_ 6 (d := dd_law_numbers) rfl
  g_law_numbers := He.glo_ok X G (c.fact 6 (f := .glo "_law_numbers") rfl)
  d_law_lesser := c.def_ 7 (d := dd_law_lesser) rfl
  g_law_lesser := He.glo_ok X G (c.fact 7 (f := .glo "_law_lesser") rfl)
  d_law_bears := c.def_ 8 (d := dd_law_bears) rfl
  g_law_bears := He.glo_ok X G (c.fact 8 (f := .glo "_law_bears") rfl)
  d_law_refusal := c.def_ 9 (d := dd_law_refusal) rfl
  g_law_refusal := He.glo_ok X G (c.fact 9 (f := .glo "_law_refusal") rfl)
  d_law_greatest := c.def_ 10 (d := dd_law_greatest) rfl
  g_law_greatest := He.glo_ok X G (c.fact 10 (f := .glo "_law_greatest") rfl)
  d_law := c.def_ 11 (d := dd_law) rfl
  g_law := He.glo_ok X G (c.fact 11 (f := .glo "law") rfl)
  b_ValueError := He.free_ok X G (c.fact 12 (f := .free "ValueError") rfl)
  b_bool := He.free_ok X G (c.fact 13 (f := .free "bool") rfl)
  b_int := He.free_ok X G (c.fact 14 (f := .free "int") rfl)
  b_isinstance := He.free_ok X G (c.fact 15 (f := .free "isinstance") rfl)
  b_len := He.free_ok X G (c.fact 16 (f := .free "len") rfl)
  b_list := He.free_ok X G (c.fact 17 (f := .free "list") rfl)
  b_min := He.free_ok X G (c.fact 18 (f := .free "min") rfl)
  b_range := He.free_ok X G (c.fact 19 (f := .free "range") rfl)
  i_MOST := He.int_ok X G (c.fact 20 (f := .int "MOST" 4096) rfl)
  x_NoPlace := (fun q => ⟨He.glo_ok X G (c.fact 24 (f := .glo "NoPlace") rfl), q.1, q.2.1, q.2.2.1, q.2.2.2⟩) (He.exc_ok (c.fact 21 (f := .exc "NoPlace") rfl))
  g_NoPlace := He.glo_ok X G (c.fact 24 (f := .glo "NoPlace") rfl)
  x_TooMany := (fun q => ⟨He.glo_ok X G (c.fact 25 (f := .glo "TooMany") rfl), q.1, q.2.1, q.2.2.1, q.2.2.2⟩) (He.exc_ok (c.fact 22 (f := .exc "TooMany") rfl))
  g_TooMany := He.glo_ok X G (c.fact 25 (f := .glo "TooMany") rfl)
  x_WoodError := (fun q => ⟨He.glo_ok X G (c.fact 26 (f := .glo "WoodError") rfl), q.1, q.2.1, q.2.2.1, q.2.2.2⟩) (He.exc_ok (c.fact 23 (f := .exc "WoodError") rfl))
  g_WoodError := He.glo_ok X G (c.fact 26 (f := .glo "WoodError") rfl)
  fx := {
    ec_NoPlace := Fx.excC_ok (SaysF.fx c2 0 (f := .excC "NoPlace") rfl)
    kt_NoPlace := Fx.kitT_ok (SaysF.fx c2 1 (f := .kitT "NoPlace" "ValueError" true) rfl)
    k_NoPlace_NoPlace := Fx.kit_ok (SaysF.fx c2 2 (f := .kit "NoPlace" "NoPlace" true) rfl)
    e_NoPlace_NoPlace := Fx.exm_ok (SaysF.fx c2 3 (f := .exm "NoPlace" "NoPlace" true) rfl)
    k_NoPlace_TooMany := Fx.kit_ok (SaysF.fx c2 4 (f := .kit "NoPlace" "TooMany" false) rfl)
    e_NoPlace_TooMany := Fx.exm_ok (SaysF.fx c2 5 (f := .exm "NoPlace" "TooMany" false) rfl)
    k_NoPlace_WoodError := Fx.kit_ok (SaysF.fx c2 6 (f := .kit "NoPlace" "WoodError" true) rfl)
    e_NoPlace_WoodError := Fx.exm_ok (SaysF.fx c2 7 (f := .exm "NoPlace" "WoodError" true) rfl)
    ec_TooMany := Fx.excC_ok (SaysF.fx c2 8 (f := .excC "TooMany") rfl)
    kt_TooMany := Fx.kitT_ok (SaysF.fx c2 9 (f := .kitT "TooMany" "ValueError" true) rfl)
    k_TooMany_NoPlace := Fx.kit_ok (SaysF.fx c2 10 (f := .kit "TooMany" "NoPlace" false) rfl)
    e_TooMany_NoPlace := Fx.exm_ok (SaysF.fx c2 11 (f := .exm "TooMany" "NoPlace" false) rfl)
    k_TooMany_TooMany := Fx.kit_ok (SaysF.fx c2 12 (f := .kit "TooMany" "TooMany" true) rfl)
    e_TooMany_TooMany := Fx.exm_ok (SaysF.fx c2 13 (f := .exm "TooMany" "TooMany" true) rfl)
    k_TooMany_WoodError := Fx.kit_ok (SaysF.fx c2 14 (f := .kit "TooMany" "WoodError" true) rfl)
    e_TooMany_WoodError := Fx.exm_ok (SaysF.fx c2 15 (f := .exm "TooMany" "WoodError" true) rfl)
    ec_WoodError := Fx.excC_ok (SaysF.fx c2 16 (f := .excC "WoodError") rfl)
    kt_WoodError := Fx.kitT_ok (SaysF.fx c2 17 (f := .kitT "WoodError" "ValueError" true) rfl)
    k_WoodError_NoPlace := Fx.kit_ok (SaysF.fx c2 18 (f := .kit "WoodError" "NoPlace" false) rfl)
    e_WoodError_NoPlace := Fx.exm_ok (SaysF.fx c2 19 (f := .exm "WoodError" "NoPlace" false) rfl)
    k_WoodError_TooMany := Fx.kit_ok (SaysF.fx c2 20 (f := .kit "WoodError" "TooMany" false) rfl)
    e_WoodError_TooMany := Fx.exm_ok (SaysF.fx c2 21 (f := .exm "WoodError" "TooMany" false) rfl)
    k_WoodError_WoodError := Fx.kit_ok (SaysF.fx c2 22 (f := .kit "WoodError" "WoodError" true) rfl)
    e_WoodError_WoodError := Fx.exm_ok (SaysF.fx c2 23 (f := .exm "WoodError" "WoodError" true) rfl)
  }
  }
theorem facts {P : Program} {w : World} {K : PySem.W.Frag} {h : Heap} {mg : Str → Option Value} (X : K.In h) (G : h.Ns mainGlobals mg) (c : SaysF faL fnL fxL K) (base : Heap) :
    Okf P w K mg base CX0 6 "law" ["_law_script"] (sp_law K) := by
  have T : Tx P w K mg base := tx_of X G c base
  have o_size_of := ok_size_of (P := P) (w := w) T 
  have o_lesser_of := ok_lesser_of (P := P) (w := w) T 
  have o_heap_of := ok_heap_of (P := P) (w := w) T o_size_of o_lesser_of
  have o_law_cell_at := ok_law_cell_at (P := P) (w := w) T 
  have o_law_whole := ok_law_whole (P := P) (w := w) T 
  have o_law_piece := ok_law_piece (P := P) (w := w) T 
  have o_law_numbers := ok_law_numbers (P := P) (w := w) T o_law_piece
  have o_law_lesser := ok_law_lesser (P := P) (w := w) T 
  have o_law_bears := ok_law_bears (P := P) (w := w) T o_law_lesser o_law_whole
  have o_law_refusal := ok_law_refusal (P := P) (w := w) T o_heap_of
  have o_law_greatest := ok_law_greatest (P := P) (w := w) T o_heap_of o_law_whole o_law_refusal
  have o_law := ok_law (P := P) (w := w) T o_law_numbers o_heap_of o_law_bears o_law_cell_at o_law_greatest
  exact o_law
theorem binds_law {K : PySem.W.Frag} (c : SaysF faL fnL fxL K) : ∃ fd : FuncData, FunD K "law" "law" (defArgs s_law) (defBody s_law) (defScope s_law) [] [] (He.ga K "law") fd := (SaysF.d c).def_ 11 (d := dd_law) rfl
end Tw
open PySem PySem.W PySem.Calls PyProof.Rows
set_option maxHeartbeats 0 in
theorem PySem.Challenge.cw_thinwood_k20_what_nodes_bear_holds : PySem.Challenge.rw_thinwood_k20_what_nodes_bear.Holds := by
  w_on; o_law
  refine HandSHeadRun.head_any (r := OpenLaw.row PySem.Challenge.rw_thinwood_k20_what_nodes_bear) (q := view (OpenLaw.row PySem.Challenge.rw_thinwood_k20_what_nodes_bear).prog [18]) (H := Tw.hk) (ob := Tw.ob) (M := 20000) (loose := Tw.looseL) (d := HandSHeadRun.topDef (OpenLaw.row PySem.Challenge.rw_thinwood_k20_what_nodes_bear).prog 18) (kwd := []) Tw.ob_eq
    (by kernel_rfl) (fun s => by kernel_rfl) Tw.run (by kernel_rfl) (by kernel_rfl) (by kernel_rfl) (by rfl) (by first | assumption | decide +kernel) (by decide +kernel) ⟨rfl, rfl, rfl, rfl, rfl, by decide +kernel⟩ ?hw ?hc
  case hw => w_witness2
  case hc =>
    refine L2.walk_ofE (l := PySem.Challenge.rw_thinwood_k20_what_nodes_bear) (n := 63) (k := 6) (x := "_law_script") (CX := L2.CX0) rfl (by decide) (by kernel_rfl) ⟨rfl, by decide, by decide⟩ ?F (fun _ _ _ _ z => z)
    intro w mg fa h Y G hmg0
    obtain ⟨K, KX, c⟩ := Y
    have hmg : mg ("law" : PySem.Str) = some (.ref fa) := by
      have e : (HandSHeadRun.topDef (OpenLaw.row PySem.Challenge.rw_thinwood_k20_what_nodes_bear).prog 18).name = ("law" : PySem.Str) := by kernel_rfl
      rw [← e]
      exact hmg0
    have e : fa = He.ga K "law" := by
      have z := hmg.symm.trans (Tw.facts (P := (PySem.Challenge.rw_thinwood_k20_what_nodes_bear).prog) (w := w) KX G c h).gl
      injection z with z; injection z
    subst e
    obtain ⟨fd, FD⟩ := Tw.binds_law c
    refine ⟨K, fd, Tw.sp_law K, KX, fun s v => FunD.bindsA (ps := ["_law_script"]) FD (fun _ _ _ _ _ _ us hl => match us, hl with | [_], _ => rfl) s [v] rfl, fun H a ns hl _ hS => ⟨a, ns, rfl, hS, hl, fun _ => rfl⟩, fun base KB GB => ?_⟩
    exact Tw.okf_fn (Tw.facts KB GB c base) FD
#print axioms PySem.Challenge.cw_thinwood_k20_what_nodes_bear_holds
