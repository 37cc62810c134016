import PyProof.Rows.All
import Wide.All
import OpenK.AllK
import Wide.FinOn
import KE.KLam
import KE.KExcSuper
import HandS.ForMost
import HandS.Exc
import HandS.ForExc
import HandS.EndTab
import HandS.HeadWalk
import HandS.HeadHook4
import HandS.OwnEq
import HandS.ExcInit
import HandS.TryMany
import HandS.ExcIs
import HandS.ExcField
import HandS.Lambda
import HandS.IsInst
import HandS.Wide
import PySem.Challenge.RW_unseenheap_k01_words_of_a_text
import HandS.ReplaceLit
import HandS.ReplaceDef
import HandS.StrMore
import HandS.HeadHook1
import HandS.Codes
import HandS.Head0
import HandS.Head1
import HandS.Head2
import HandS.HeadEnd
import HandS.HeadHook2
set_option Elab.async false
set_option linter.all false
set_option maxRecDepth 100000
set_option maxHeartbeats 4000000
/-! ## stepping through readings -/
namespace L2
open PySem PySem.Spec PyProof.Rows
/-- a def that is called by its name -/
structure Cal (P : Program) (w : World) (K : PySem.W.Frag) (mg : Str → Option Value) (base : Heap) (CX : CXT) (k : Nat) (x : Str) (ps : List Str) (sp : Sp) : Prop where
  ex : ∃ (f : Addr) (fd : FuncData), FnOk P w K mg base CX k f fd ps sp ∧ mg x = some (.ref f) ∧ PySem.W.keepIn K (.ref f) = true ∧ Binds K fd ps []
section
variable {X : Cx} {CX : CXT} {k j : Nat} {x : Str} {ps : List Str} {sp : Sp} {E : XK} {p pos : Pos} {e : Expr} {es : List Expr} {t : TA} {W : WX}
theorem pe_cal (D : Cal X.prog X.w X.K X.mg X.base CX k x ps sp) (hr : Room j X.A) (hkj : Nat.ble k j = true) (hg : Gl X x) (hx : Passes CX X E) (ha : PA X (e :: es) t) (hdb : (x == ("__debug__" : Str)) = false := by decide)
    (he : starEach (e :: es) X.env = (false, eval e X.env) :: starEach es X.env := by rfl) (hpl : (backTo pos (starEach es X.env)).any (·.1) = false := by rfl) : PE X (.Call (.Name x p) (e :: es) [] pos) (tCall sp [] E t) := by
  obtain ⟨f, fd, F, hm, hk, hb⟩ := D.ex
  exact pe_call F (hr.mono (Nat.le_of_ble_eq_true hkj)) hg hm hk hb .nil hx ha hdb he hpl
theorem pe_cal0 (D : Cal X.prog X.w X.K X.mg X.base CX k x ps sp) (hr : Room j X.A) (hkj : Nat.ble k j = true) (hg : Gl X x) (hx : Passes CX X E) (hdb : (x == ("__debug__" : Str)) = false := by decide) : PE X (.Call (.Name x p) [] [] pos) (tCall sp [] E tNil) := by
  obtain ⟨f, fd, F, hm, hk, hb⟩ := D.ex
  exact pe_call0 F (hr.mono (Nat.le_of_ble_eq_true hkj)) hg hm hk hb .nil hx hdb
/-- a call within a try's body, or in a def that raises: what is raised is wished for at the slots -/
theorem pe_calS (D : Cal X.prog X.w X.K X.mg X.base (L2.CX X.prog X.w) k x ps sp) (hr : Room j X.A) (hkj : Nat.ble k j = true) (hg : Gl X x) (tk : Takes X W) (ha : PA X (e :: es) t) (hdb : (x == ("__debug__" : Str)) = false := by decide)
    (he : starEach (e :: es) X.env = (false, eval e X.env) :: starEach es X.env := by rfl) (hpl : (backTo pos (starEach es X.env)).any (·.1) = false := by rfl) : PE X (.Call (.Name x p) (e :: es) [] pos) (tCallS sp (WE W) t) := by
  obtain ⟨f, fd, F, hm, hk, hb⟩ := D.ex
  exact pe_callS F (hr.mono (Nat.le_of_ble_eq_true hkj)) hg hm hk hb (fun σ => passAt tk σ) ha hdb he hpl
theorem pe_gi {i : Int} (h : ∃ u, X.mg x = some (.int i u)) (hg : Gl X x := by rfl) (hd : (x == ("__debug__" : Str)) = false := by decide) : PE X (.Name x p) (tC (.int i)) := by
  obtain ⟨u, h⟩ := h
  exact pe_glob hg h ⟨u, rfl⟩ hd
theorem pe_gs {z : Str} (h : ∃ u, X.mg x = some (.str z u)) (hg : Gl X x := by rfl) (hd : (x == ("__debug__" : Str)) = false := by decide) : PE X (.Name x p) (tC (.str z)) := by
  obtain ⟨u, h⟩ := h
  exact pe_glob hg h ⟨u, rfl⟩ hd
theorem pe_gr {a : Addr} (h : X.mg x = some (.ref a)) (hg : Gl X x := by rfl) (hd : (x == ("__debug__" : Str)) = false := by decide) : PE X (.Name x p) (tC (.ref a)) := pe_glob hg h rfl hd
end
/-! ### the steps -/
section
variable {K : PySem.W.Frag} {σ : L2.St} {H : Hp} {Q : VK} {QB : Bool → Hp → Prop} {QA : List V → Hp → Prop} {D : Ends} {ta tb tc : TE} {tA : TA} {t u : TT} {tu tw : TS} {r r' : R2} {g : TG} {v : V} {i j : Int} {c : Bool}
theorem w_var {n : Nat} (h : σ[n]? = some (some v)) (q : Q v H) : tVar n σ H Q := ⟨v, h, q⟩
theorem w_c (q : Q v H) : tC v σ H Q := q
theorem w_op (q : ta σ H fun x H1 => tb σ H1 fun y H2 => r x y H2 Q) : tOp r ta tb σ H Q := q
theorem w_un {r : V → Hp → VK → Prop} (q : ta σ H fun x H1 => r x H1 Q) : tUn r ta σ H Q := q
theorem w_I0 {g : Int → Int → V} (q : Q (g i j) H) : rI0 g (.int i) (.int j) H Q := ⟨i, j, rfl, rfl, q⟩
theorem w_I {C : Int → Int → Prop} {g : Int → Int → V} (h : C i j) (q : Q (g i j) H) : rI C g (.int i) (.int j) H Q := ⟨i, j, rfl, rfl, h, q⟩
theorem w_U {g : Int → V} (q : Q (g i) H) : rU g (.int i) H Q := ⟨i, rfl, q⟩
theorem w_eq {x y : V} (h : scal x y = true) (q : Q (.bl (decide (x = y))) H) : rEq x y H Q := ⟨h, q⟩
theorem w_ne {x y : V} (h : scal x y = true) (q : Q (.bl (!decide (x = y))) H) : rNe x y H Q := ⟨h, q⟩
theorem w_eqI (q : Q (.bl (decide (i = j))) H) : rEq (.int i) (.int j) H Q := ⟨rfl, by
  have e : decide (V.int i = V.int j) = decide (i = j) := by simp
  rw [e]
  exact q⟩
theorem w_neI (q : Q (.bl (!decide (i = j))) H) : rNe (.int i) (.int j) H Q := ⟨rfl, by
  have e : decide (V.int i = V.int j) = decide (i = j) := by simp
  rw [e]
  exact q⟩
theorem w_isN (q : ta σ H fun x H1 => Q (.bl (decide (x = .non))) H1) : tIsN ta σ H Q := q
theorem w_notN (q : ta σ H fun x H1 => Q (.bl (!decide (x = .non))) H1) : tNotN ta σ H Q := q
theorem w_test (q : ta σ H fun x H1 => ∃ k, x = .bl k ∧ QB k H1) : tTest ta σ H QB := q
theorem w_B (q : ta σ H fun x H1 => ∃ k, x = .bl k ∧ QB k H1) : tB ta σ H QB := q
theorem w_bl {P : Bool → Prop} (q : P c) : ∃ k, V.bl c = .bl k ∧ P k := ⟨c, rfl, q⟩
theorem w_and (q : t σ H fun c H1 => if c = true then u σ H1 QB else QB false H1) : tAnd t u σ H QB := q
theorem w_or (q : t σ H fun c H1 => if c = true then QB true H1 else u σ H1 QB) : tOr t u σ H QB := q
theorem w_not (q : t σ H fun c H1 => QB (!c) H1) : tNot t σ H QB := q
theorem w_andV (q : ta σ H fun x H1 => ∃ c, x = .bl c ∧ if c = true then tb σ H1 Q else Q (.bl false) H1) : tAndV ta tb σ H Q := q
theorem w_orV (q : ta σ H fun x H1 => ∃ c, x = .bl c ∧ if c = true then Q (.bl true) H1 else tb σ H1 Q) : tOrV ta tb σ H Q := q
theorem w_notV (q : ta σ H fun x H1 => ∃ c, x = .bl c ∧ Q (.bl (!c)) H1) : tNotV ta σ H Q := q
theorem w_ifE (q : t σ H fun c H1 => if c = true then ta σ H1 Q else tb σ H1 Q) : tIf t ta tb σ H Q := q
theorem w_chain (q : ta σ H fun x H1 => tb σ H1 fun y H2 => r x y H2 fun z H3 => ∃ k, z = .bl k ∧ if k = true then tc σ H3 fun y' H4 => r' y y' H4 Q else Q (.bl false) H3) : tChain r r' ta tb tc σ H Q := q
theorem w_next (q : D.nx σ H) : tNext D σ H := q
theorem w_seq (q : tu { D with nx := tw D } σ H) : tSeq tu tw D σ H := q
theorem w_drop (q : ta σ H fun _ H1 => D.nx σ H1) : tDrop ta D σ H := q
theorem w_ret (q : ta σ H D.rt) : tRet ta D σ H := q
theorem w_retN (q : D.rt .non H) : tRetN D σ H := q
theorem w_ifS (q : t σ H fun b H1 => if b = true then tu D σ H1 else tw D σ H1) : tIfS t tu tw D σ H := q
theorem w_asg (q : ta σ H fun x H1 => g x σ H1 D.nx) : tAsg ta g D σ H := q
theorem w_name {n : Nat} {N : L2.St → Hp → Prop} (q : N (σ.set n (some v)) H) : gName n v σ H N := q
theorem w_nil (q : QA [] H) : tNil σ H QA := q
theorem w_cons (q : ta σ H fun x H1 => tA σ H1 fun xs H2 => QA (x :: xs) H2) : tCons ta tA σ H QA := q
theorem w_tup (q : tA σ H fun xs H1 => xs.length ≤ sizeLine ∧ ∀ p, H1 p = none → Q (.ref p) (upd H1 p (.tup xs))) : tTup tA σ H Q := q
theorem w_lst (q : tA σ H fun xs H1 => xs.length ≤ sizeLine ∧ ∀ p, H1 p = none → Q (.ref p) (upd H1 p (.lst xs))) : tLst tA σ H Q := q
theorem w_call {sp : Sp} {dvs : List V} {E : XK} (q : tA σ H fun vs H1 => sp (vs ++ dvs) H1 Q E) : tCall sp dvs E tA σ H Q := q
theorem w_CB {r : List V → Hp → VK → Prop} (q : tA σ H fun vs H1 => r vs H1 Q) : tCB r tA σ H Q := q
theorem w_ixL {p : Addr} {xs : List V} (h : SqL K H p xs) (ha : atI xs i = some v) (q : Q v H) : rIxL K (.ref p) (.int i) H Q := ⟨p, xs, i, v, rfl, rfl, h, ha, q⟩
theorem w_ixT {p : Addr} {xs : List V} (h : SqT K H p xs) (ha : atI xs i = some v) (q : Q v H) : rIxT K (.ref p) (.int i) H Q := ⟨p, xs, i, v, rfl, rfl, h, ha, q⟩
theorem w_t {A B : Prop} (h : A) : if true = true then A else B := iteT h
theorem w_f {A B : Prop} (h : B) : if false = true then A else B := iteF h
theorem w_2 {A B : Prop} (h1 : c = true → A) (h2 : c = false → B) : if c = true then A else B := by
  cases c with
  | true => exact iteT (h1 rfl)
  | false => exact iteF (h2 rfl)
end
/-! ### what is known of a heap -/
theorem sameUpd {H : Hp} {p : Addr} {o : HO} (h : H p = none) : Same H (upd H p o) := fun b u e => by
  rw [upd_ne (ne_of_none e h)]
  exact e
/-- the type of a value, where it is known -/
def tyOf (H : Hp) : V → Option String
  | .non => some "NoneType"
  | .bl _ => some "bool"
  | .int _ => some "int"
  | .str _ => some "str"
  | .ref a => (match H a with
    | some (.lst _) => some "list"
    | some (.tup _) => some "tuple"
    | some (.dK _) => some "dict"
    | _ => none)
  | _ => none
def Kn (H : Hp) (v : V) : Prop := (tyOf H v).isSome = true
theorem tyOf_ok {K : PySem.W.Frag} {H : Hp} {v : V} {n : String} (h : tyOf H v = some n) : TyX K H v (.type n) := by
  cases v with
  | non => cases h; exact .base .non
  | bl b => cases h; exact .base (.bl b)
  | int i => cases h; exact .base (.int i)
  | str x => cases h; exact .base (.str x)
  | ref a =>
    unfold tyOf at h
    cases e : H a with
    | none => simp [e] at h
    | some o =>
      cases o with
      | lst xs => simp [e] at h; subst h; exact .base (.lst e)
      | tup xs => simp [e] at h; subst h; exact .base (.tup e)
      | dK xs => simp [e] at h; subst h; exact .base (.dK e)
      | _ => simp [e] at h
  | _ => cases h
theorem Same.ty {H H' : Hp} (s : Same H H') {v : V} {n : String} (h : tyOf H v = some n) : tyOf H' v = some n := by
  cases v with
  | ref a =>
    cases e : H a with
    | none => simp [tyOf, e] at h
    | some o =>
      simp only [tyOf, e] at h
      simp only [tyOf, s a o e]
      exact h
  | _ => exact h
theorem Same.kn {H H' : Hp} (s : Same H H') {v : V} (h : Kn H v) : Kn H' v := by
  unfold Kn at h ⊢
  obtain ⟨n, e⟩ := Option.isSome_iff_exists.mp h
  rw [s.ty e]
  rfl
/-- isinstance(v, C), C a built-in class, v of a known type -/
theorem w_isi {K : PySem.W.Frag} {H : Hp} {Q : VK} {v : V} {m : String} {b : Bool} (n : String) (hn : tyOf H v = some n) (hb : kitB n m = some b) (q : Q (.bl b) H) : rIsi K [v, .ty m] H Q := ⟨v, .ty m, .type n, .type m, b, rfl, .ty m, tyOf_ok hn, kit_ty hb, q⟩
def intLike : V → Bool
  | .int _ => true
  | .bl _ => true
  | _ => false
def isBl : V → Bool
  | .bl _ => true
  | _ => false
def isSt : V → Bool
  | .str _ => true
  | _ => false
def isLs (H : Hp) : V → Bool
  | .ref a => (match H a with
    | some (.lst _) => true
    | _ => false)
  | _ => false
def isTp (H : Hp) : V → Bool
  | .ref a => (match H a with
    | some (.tup _) => true
    | _ => false)
  | _ => false
section
variable {K : PySem.W.Frag} {H : Hp} {Q : VK} {v : V}
theorem w_isInt (h : Kn H v) (q : Q (.bl (intLike v)) H) : rIsi K [v, .ty "int"] H Q := by
  cases v with
  | non => exact w_isi (b := false) "NoneType" rfl (by decide +kernel) q
  | bl b => exact w_isi (b := true) "bool" rfl (by decide +kernel) q
  | int i => exact w_isi (b := true) "int" rfl (by decide +kernel) q
  | str x => exact w_isi (b := false) "str" rfl (by decide +kernel) q
  | ref a =>
    cases e : H a with
    | none => simp [Kn, tyOf, e] at h
    | some o =>
      cases o with
      | lst xs => exact w_isi (b := false) "list" (by simp [tyOf, e]) (by decide +kernel) q
      | tup xs => exact w_isi (b := false) "tuple" (by simp [tyOf, e]) (by decide +kernel) q
      | dK xs => exact w_isi (b := false) "dict" (by simp [tyOf, e]) (by decide +kernel) q
      | _ => simp [Kn, tyOf, e] at h
  | _ => cases h
theorem w_isBool (h : Kn H v) (q : Q (.bl (isBl v)) H) : rIsi K [v, .ty "bool"] H Q := by
  cases v with
  | non => exact w_isi (b := false) "NoneType" rfl (by decide +kernel) q
  | bl b => exact w_isi (b := true) "bool" rfl (by decide +kernel) q
  | int i => exact w_isi (b := false) "int" rfl (by decide +kernel) q
  | str x => exact w_isi (b := false) "str" rfl (by decide +kernel) q
  | ref a =>
    cases e : H a with
    | none => simp [Kn, tyOf, e] at h
    | some o =>
      cases o with
      | lst xs => exact w_isi (b := false) "list" (by simp [tyOf, e]) (by decide +kernel) q
      | tup xs => exact w_isi (b := false) "tuple" (by simp [tyOf, e]) (by decide +kernel) q
      | dK xs => exact w_isi (b := false) "dict" (by simp [tyOf, e]) (by decide +kernel) q
      | _ => simp [Kn, tyOf, e] at h
  | _ => cases h
theorem w_isStr (h : Kn H v) (q : Q (.bl (isSt v)) H) : rIsi K [v, .ty "str"] H Q := by
  cases v with
  | non => exact w_isi (b := false) "NoneType" rfl (by decide +kernel) q
  | bl b => exact w_isi (b := false) "bool" rfl (by decide +kernel) q
  | int i => exact w_isi (b := false) "int" rfl (by decide +kernel) q
  | str x => exact w_isi (b := true) "str" rfl (by decide +kernel) q
  | ref a =>
    cases e : H a with
    | none => simp [Kn, tyOf, e] at h
    | some o =>
      cases o with
      | lst xs => exact w_isi (b := false) "list" (by simp [tyOf, e]) (by decide +kernel) q
      | tup xs => exact w_isi (b := false) "tuple" (by simp [tyOf, e]) (by decide +kernel) q
      | dK xs => exact w_isi (b := false) "dict" (by simp [tyOf, e]) (by decide +kernel) q
      | _ => simp [Kn, tyOf, e] at h
  | _ => cases h
theorem w_isList (h : Kn H v) (q : Q (.bl (isLs H v)) H) : rIsi K [v, .ty "list"] H Q := by
  cases v with
  | non => exact w_isi (b := false) "NoneType" rfl (by decide +kernel) q
  | bl b => exact w_isi (b := false) "bool" rfl (by decide +kernel) q
  | int i => exact w_isi (b := false) "int" rfl (by decide +kernel) q
  | str x => exact w_isi (b := false) "str" rfl (by decide +kernel) q
  | ref a =>
    cases e : H a with
    | none => simp [Kn, tyOf, e] at h
    | some o =>
      simp only [isLs, e] at q
      cases o with
      | lst xs => exact w_isi (b := true) "list" (by simp [tyOf, e]) (by decide +kernel) q
      | tup xs => exact w_isi (b := false) "tuple" (by simp [tyOf, e]) (by decide +kernel) q
      | dK xs => exact w_isi (b := false) "dict" (by simp [tyOf, e]) (by decide +kernel) q
      | _ => simp [Kn, tyOf, e] at h
  | _ => cases h
theorem w_isTuple (h : Kn H v) (q : Q (.bl (isTp H v)) H) : rIsi K [v, .ty "tuple"] H Q := by
  cases v with
  | non => exact w_isi (b := false) "NoneType" rfl (by decide +kernel) q
  | bl b => exact w_isi (b := false) "bool" rfl (by decide +kernel) q
  | int i => exact w_isi (b := false) "int" rfl (by decide +kernel) q
  | str x => exact w_isi (b := false) "str" rfl (by decide +kernel) q
  | ref a =>
    cases e : H a with
    | none => simp [Kn, tyOf, e] at h
    | some o =>
      simp only [isTp, e] at q
      cases o with
      | lst xs => exact w_isi (b := false) "list" (by simp [tyOf, e]) (by decide +kernel) q
      | tup xs => exact w_isi (b := true) "tuple" (by simp [tyOf, e]) (by decide +kernel) q
      | dK xs => exact w_isi (b := false) "dict" (by simp [tyOf, e]) (by decide +kernel) q
      | _ => simp [Kn, tyOf, e] at h
  | _ => cases h
end
end L2
/-! ## raising, calls where it is known that no repr is under way, repr of data -/
namespace L2
open PySem PySem.Spec PyProof.Rows
/-- an own error class without a method -/
structure ErrTxt (K : PySem.W.Frag) (mg : Str → Option Value) (x : Str) (C : Addr) : Prop where
  gC : mg x = some (.ref C)
  ex : PySem.W.excIn K C [.type "ValueError", .type "Exception", .type "BaseException", .type "object"] "ValueError.__new__" = true
  kC : PySem.W.keepIn K (.ref C) = true
  su : PySem.W.subIn K (.ref C) (.type "BaseException") = some true
  ty : PySem.W.typeIn K (.ref C) = some (.type "type")
section
variable {X : Cx} {C : Addr} {W : WX} {x : Str} {p pos pos2 : Pos}
theorem pmk_own0 (T : ErrTxt X.K X.mg x C) (hg : Gl X x := by rfl) (hdb : (x == ("__debug__" : Str)) = false := by decide) : PMk X (.Call (.Name x p) [] [] pos) (fun _ H Q => Q (.ref C) none H) := by
  intro pins s σ H Q I h
  obtain ⟨bm, N, nm, qn, bs, hdct, sn, sub, ab, col, dd, k0, k1, k2, k3, k5, mN, hC, hN, hni, O⟩ := exc_obj I.kIn T.ex
  refine wpAny_Call_Name_kw (ld_glob I hg T.gC (PySem.W.callWith_K0 I.kIn T.kC ?_) hdb)
  exact wpAny_call_exc_subT PySem.F.excBase_ValueError O hC hN hni (fun h' e hm => mk_of I hm (raises_own T.su T.ty) h (I.hok.gone hm.new)) (Nat.zero_le _)
theorem ps_raise0 (hc : X.calm = true) (T : ErrTxt X.K X.mg x C) (tk : Takes X W) (hg : Gl X x := by rfl) (hdb : (x == ("__debug__" : Str)) = false := by decide) : PS X (.Raise (some (.Call (.Name x p) [] [] pos)) none pos2) (fun _ σ H => W (.ref C) none σ H) :=
  ps_raise hc tk (pmk_own0 T hg hdb)
end
/-- as FnOk, where no repr is under way -/
structure FnG (P : Program) (w : World) (K : PySem.W.Frag) (mg : Str → Option Value) (base : Heap) (CX : CXT) (k : Nat) (f : Addr) (fd : FuncData) (ps : List Str) (sp : Sp) : Prop where
  len : ∀ vs H Q E, sp vs H Q E → vs.length = ps.length
  run : ∀ (A : Around) (outer : List Env) (s : Shared) (H : Hp) (args : Args) (us : List Value) (vs : List V) (Q : VK) (E : XK), A.guards = some [] → Room k A → Env0 P w K mg base A outer s H → BindsTo s fd args (ps.zip us) → Vals vs us → sp vs H Q E →
    codeAny (model P w) A (.call (.ref f) args) (CR CX outer P w H s Q E) s
structure CalG (P : Program) (w : World) (K : PySem.W.Frag) (mg : Str → Option Value) (base : Heap) (CX : CXT) (k : Nat) (x : Str) (ps : List Str) (sp : Sp) : Prop where
  ex : ∃ (f : Addr) (fd : FuncData), FnG P w K mg base CX k f fd ps sp ∧ mg x = some (.ref f) ∧ PySem.W.keepIn K (.ref f) = true ∧ Binds K fd ps []
section
variable {P : Program} {w : World} {K : PySem.W.Frag} {mg : Str → Option Value} {base : Heap} {x qual : Str} {params : Arguments} {body : List Stmt} {scope : Scope} {f : Addr} {fd : FuncData}
theorem FunD.okG {CX : CXT} {N ps : List Str} {k : Nat} {sp : Sp} (F : FunD K x qual params body scope [] [] f fd) (S : FnScope N ps scope) (len : ∀ vs H Q E, sp vs H Q E → vs.length = ps.length)
    (hbody : ∀ (cdv : Value) (A : Around) (outer : List Env) (s : Shared) (H : Hp) (vs : List V) (Q : VK) (E : XK), (A.deeper (envOfC qual scope s.heap.objs.size f cdv)).guards = some [] → Room k (A.deeper (envOfC qual scope s.heap.objs.size f cdv)) → PySem.W.codeIn K cdv qual = true → fd.code = cdv → sp vs H Q E →
      ∃ t, PSs (cxOf CX P w K mg base N qual scope f cdv A outer s H E) body t ∧ t { nx := fun _ H' => Q .non H', rt := Q } (start N vs) H) : FnG P w K mg base CX (k + 1) f fd ps sp := by
  obtain ⟨oc, od, dV, kV, doc, pm, an, cdv, ct, osl, rfl, lk, hcd, _, _⟩ := F.ex
  exact ⟨len, fun A outer s H args us vs Q E hg hr e0 hb r hsp => LamX.run_ofS lk hcd S hr e0 hb r (len _ _ _ _ hsp) fun hr' => hbody cdv A outer s H vs Q E hg hr' hcd rfl hsp⟩
end
section
variable {X : Cx} {CX : CXT} {k j : Nat} {x : Str} {ps : List Str} {sp : Sp} {E : XK} {p pos : Pos} {e : Expr} {es : List Expr} {t : TA}
theorem pe_calG (D : CalG X.prog X.w X.K X.mg X.base CX k x ps sp) (hg : X.A.guards = some []) (hr : Room j X.A) (hkj : Nat.ble k j = true) (gl : Gl X x) (hx : Passes CX X E) (ha : PA X (e :: es) t) (hdb : (x == ("__debug__" : Str)) = false := by decide)
    (he : starEach (e :: es) X.env = (false, eval e X.env) :: starEach es X.env := by rfl) (hpl : (backTo pos (starEach es X.env)).any (·.1) = false := by rfl) : PE X (.Call (.Name x p) (e :: es) [] pos) (tCall sp [] E t) := by
  obtain ⟨f, fd, F, hm, hk, hb⟩ := D.ex
  refine ⟨fun pins s σ H Q I h => ?_⟩
  refine wpAny_Call_Name_kw (ld_glob I gl hm ?_ hdb)
  refine PySem.W.callWith_K (h₀ := X.base) I.ok.mod.kin hk (thn (ha.run pos pins s σ H _ I h) fun us s1 hh => ?_) he hpl
  obtain ⟨vs, H1, I1, r, q⟩ := hh
  rw [List.append_nil] at q
  have hl : us.length = ps.length := by rw [← r.length]; exact F.len _ _ _ _ q
  have b := hb s1 us I1.kIn (by rw [List.append_nil]; exact hl)
  rw [List.append_nil] at b
  refine ⟨I1.kIn, wpAny_call (codeAny_mono (F.run X.A X.stack s1 H1 ⟨us, []⟩ us vs Q E hg (hr.mono (Nat.le_of_ble_eq_true hkj)) I1.env0 b r q) fun rr s' hq => ?_)⟩
  match rr, hq with
  | .error u, hq => exact hx pins σ H1 s1 u s' I1 hq
  | .ok (.ret u), hq => exact I1.after hq
  | .ok .next, hq => exact False.elim hq
  | .ok .brk, hq => exact False.elim hq
  | .ok .cont, hq => exact False.elim hq
end
/-! ### repr of data -/
def rReprD (K : PySem.W.Frag) : List V → Hp → VK → Prop := fun xs H Q => ∃ (a : Addr) (d : PyData), xs = [.ref a] ∧ Dp K H (.ref a) d ∧ d.showable = true ∧ d.hasDict = false ∧ d.depth ≤ 60 ∧ d.shown.length ≤ sizeLine ∧ Q (.str d.shown) H
theorem call_reprD {X : Cx} (hg : X.A.guards = some []) (hu : X.A.units + 64 < cLine) : CallR X (.builtin "repr") (rReprD X.K) := by
  intro pins s σ H xs us Q I r h
  obtain ⟨a, d, rfl, hd, h1, h2, h3, h4, q⟩ := h
  cases r with
  | cons ru rn =>
    cases rn
    cases ru
    obtain ⟨as, R⟩ := Dp.reads I d _ _ hd rfl
    refine repr_of_reads' R h1 (fun z => ?_) hg (by omega) (fun _ _ e => e) (fun h' u tk k => ⟨.str d.shown, H, I.kept k, ⟨u, rfl⟩, q⟩) h4
    rw [h2] at z
    cases z
end L2
/-! ## == by an own __eq__, whatever it gives -/
namespace L2
open PySem PySem.Spec PyProof.Rows
theorem w_nt {A B : Prop} (h : B) : if (!true) = true then A else B := iteF h
theorem w_nf {A B : Prop} (h : A) : if (!false) = true then A else B := iteT h
def rInt1 : List V → Hp → VK → Prop := fun xs H Q => (∃ i, xs = [.int i] ∧ Q (.int i) H) ∨ ∃ k, xs = [.bl k] ∧ Q (.int (if k then 1 else 0)) H
def rAbs : List V → Hp → VK → Prop := fun xs H Q => ∃ i, xs = [.int i] ∧ Q (.int (if i < 0 then -i else i)) H
def rLenQ (K : PySem.W.Frag) : List V → Hp → VK → Prop := fun xs H Q => ∃ p ys, xs = [.ref p] ∧ (SqL K H p ys ∨ SqT K H p ys) ∧ Q (.int ys.length) H
def rLenS : List V → Hp → VK → Prop := fun xs H Q => ∃ z, xs = [.str z] ∧ z.length ≤ sizeLine ∧ Q (.int z.length) H
def rListOf (K : PySem.W.Frag) : List V → Hp → VK → Prop := fun xs H Q => ∃ p ys, xs = [.ref p] ∧ (SqL K H p ys ∨ SqT K H p ys) ∧ ∀ l, H l = none → Q (.ref l) (upd H l (.lst ys))
def rStrI : List V → Hp → VK → Prop := fun xs H Q => ∃ i, xs = [.int i] ∧ i.natAbs.log2 < 1920 ∧ Q (.str (toString i)) H
def rIntS : List V → Hp → VK → Prop := fun xs H Q => ∃ a n, xs = [.str a] ∧ PySem.intText? a = some n ∧ a.length ≤ 640 ∧ Q (.int n) H
section
variable {X : Cx} {K : PySem.W.Frag} {H : Hp} {Q : VK} {i : Int} {b : Bool} {p : Addr} {ys : List V} {z : Str}
theorem call_int1N : CallR X (.type "int") rInt1 := call_int1
theorem call_absN : CallR X (.builtin "abs") rAbs := call_abs
theorem call_lenN : CallR X (.builtin "len") (rLenQ X.K) := call_len_seq
theorem call_lenS : CallR X (.builtin "len") rLenS := call_len_str
theorem call_listN : CallR X (.type "list") (rListOf X.K) := call_list_of
theorem call_strN : CallR X (.type "str") rStrI := call_str_int
theorem call_intS : CallR X (.type "int") rIntS := call_int_str
theorem w_int1 (q : Q (.int i) H) : rInt1 [.int i] H Q := .inl ⟨i, rfl, q⟩
theorem w_intb (q : Q (.int (if b then 1 else 0)) H) : rInt1 [.bl b] H Q := .inr ⟨b, rfl, q⟩
theorem w_abs (q : Q (.int (if i < 0 then -i else i)) H) : rAbs [.int i] H Q := ⟨i, rfl, q⟩
theorem w_lenL (h : SqL K H p ys) (q : Q (.int ys.length) H) : rLenQ K [.ref p] H Q := ⟨p, ys, rfl, .inl h, q⟩
theorem w_lenT (h : SqT K H p ys) (q : Q (.int ys.length) H) : rLenQ K [.ref p] H Q := ⟨p, ys, rfl, .inr h, q⟩
theorem w_lenS (h : z.length ≤ sizeLine) (q : Q (.int z.length) H) : rLenS [.str z] H Q := ⟨z, rfl, h, q⟩
theorem w_listL (h : SqL K H p ys) (q : ∀ l, H l = none → Q (.ref l) (upd H l (.lst ys))) : rListOf K [.ref p] H Q := ⟨p, ys, rfl, .inl h, q⟩
theorem w_strI (h : i.natAbs.log2 < 1920) (q : Q (.str (toString i)) H) : rStrI [.int i] H Q := ⟨i, rfl, h, q⟩
end
theorem w_for {wi : TI} {g : TG} {tb : TS} {D : Ends} {σ : L2.St} {H : Hp} (q : wi σ H fun J H1 => ∃ W : Nat → Nat → L2.St → Hp → Prop, (∃ m, W 0 m σ H1) ∧ ∀ i m σ H, W i m σ H →
    (J.stop i H ∧ D.nx σ H) ∨ (J.go i H ∧ ∃ N : L2.St → Hp → Prop, (∀ σ' H', N σ' H' → ∃ m', m' < m ∧ W (i + 1) m' σ' H') ∧ ∀ x H', J.yld i H x H' → g x σ H' fun σ2 H2 => tb { D with nx := N, ct := N, bk := D.nx } σ2 H2)) : tFor wi g tb D σ H := q
theorem w_rng1 {tA : TA} {σ : L2.St} {H : Hp} {R : It → Hp → Prop} (q : tA σ H fun vs H1 => ∃ j : Int, vs = [.int j] ∧ -(2 ^ 62) ≤ j ∧ j < 2 ^ 62 ∧ R (Itr 0 j.toNat) H1) : iRng1 tA σ H R := q
theorem w_itL {K : PySem.W.Frag} {tl : TE} {σ : L2.St} {H : Hp} {R : It → Hp → Prop} (q : tl σ H fun x H1 => ∃ a, x = .ref a ∧ (∃ xs, SqL K H1 a xs) ∧ R (Itl K a) H1) : iList K tl σ H R := q
theorem w_itT {K : PySem.W.Frag} {tl : TE} {σ : L2.St} {H : Hp} {R : It → Hp → Prop} (q : tl σ H fun x H1 => ∃ a, x = .ref a ∧ (∃ xs, SqT K H1 a xs) ∧ R (Itt K a) H1) : iTup K tl σ H R := q
theorem w_lc {wi : TI} {g : TG} {tt : TT} {te : TE} {vs : List Nat} {σ : L2.St} {H : Hp} {Q : VK} (q : wi σ H fun J H1 => ∀ D, H1 D = none → ∃ W : Nat → Nat → Hp → Prop, (∃ m, W 0 m (upd H1 D (.lst []))) ∧ ∀ i m H, W i m H →
    (J.stop i H ∧ Q (.ref D) H) ∨ (J.go i H ∧ ∃ Nx : Hp → Prop, (∀ H', Nx H' → ∃ m', m' < m ∧ W (i + 1) m' H') ∧ ∀ x H', J.yld i H x H' → g x (wipe σ vs) H' fun σ2 H2 => wipe σ2 vs = wipe σ vs ∧ tt σ2 H2 fun b H3 =>
      if b = true then te σ2 H3 fun y H4 => ∃ acc, H4 D = some (.lst acc) ∧ acc.length < sizeLine ∧ Nx (upd H4 D (.lst (acc ++ [y]))) else Nx H3)) : tLc wi g tt te vs σ H Q := q
theorem w_yes {σ : L2.St} {H : Hp} {QB : Bool → Hp → Prop} (q : QB true H) : tYes σ H QB := q
theorem w_fld {K : PySem.W.Frag} {σ : L2.St} {H : Hp} {Q : VK} {ta : TE} {f : Str} (q : ta σ H fun x H1 => ∃ a C dx fs v, x = .ref a ∧ H1 a = some (.ins C dx fs) ∧ Cls K C ∧ NoAttr K C f ∧ fs.lookup f = some v ∧ Q v H1) : tFld K ta f σ H Q := q
theorem w_BM {K : PySem.W.Frag} {σ : L2.St} {H : Hp} {Q : VK} {n : String} {r : V → List V → Hp → VK → Prop} {to : TE} {t : TA} (q : to σ H fun x H1 => tyV K n x H1 ∧ t σ H1 fun xs H2 => r x xs H2 Q) : tBM K n r to t σ H Q := q
theorem w_sl {σ : L2.St} {H : Hp} {Q : VK} {r : V → Option Int → Option Int → Hp → VK → Prop} {te : TE} {tl th : TO} (q : te σ H fun x H1 => tl σ H1 fun l H2 => th σ H2 fun u H3 => r x l u H3 Q) : tSl r te tl th σ H Q := q
theorem w_noPart {σ : L2.St} {H : Hp} {Q : Option Int → Hp → Prop} (q : Q none H) : tNoPart σ H Q := q
theorem w_part {σ : L2.St} {H : Hp} {Q : Option Int → Hp → Prop} {t : TE} (q : t σ H fun x H1 => ∃ i, x = .int i ∧ Q (some i) H1) : tPart t σ H Q := q
theorem w_in {i : Int} {P : Int → Prop} (q : P i) : ∃ j, V.int i = .int j ∧ P j := ⟨i, rfl, q⟩
/-- x == y, x an instance of the class at C whose own __eq__ keeps sp; y an instance of it, or a list -/
def rEqOwn (K : PySem.W.Frag) (C : Addr) (sp : Sp) : R2 := fun x y H Q => ∃ a dx fs b, x = .ref a ∧ y = .ref b ∧ H a = some (.ins C dx fs) ∧ ((∃ dy gs, H b = some (.ins C dy gs)) ∨ ((∃ xs, H b = some (.lst xs)) ∧ PySem.W.subIn K (.type "list") (.ref C) = some false)) ∧
  sp [.ref a, .ref b] H (fun v H' => ∃ c, v = .bl c ∧ Q (.bl c) H') fun _ _ _ => False
theorem op_eqOwn {X : Cx} {CX : CXT} {C f : Addr} {fd : FuncData} {ps : List Str} {sp : Sp} {k j : Nat} (F : FnOk X.prog X.w X.K X.mg X.base CX k f fd ps sp) (hr : Room j X.A) (hkj : Nat.ble k j = true)
    (hs : PySem.W.findIn X.K (.ref C) "__eq__" = some (some (.ref f))) (hf : PySem.W.isFn X.K (.ref f) = true) (hb : Binds X.K fd ps []) (hx : Passes CX X fun _ _ _ => False) : OpR X (compareOp .Eq) (rEqOwn X.K C sp) := by
  intro pins s σ H x y v u Q I rx ry hq
  obtain ⟨a, dx, fs, b, rfl, rfl, ha, hy, q⟩ := hq
  cases rx
  cases ry
  obtain ⟨mA, J, _⟩ := ins_get I.hok ha
  obtain ⟨od, J, _⟩ := J.look
  obtain ⟨m, hF⟩ := I.fr
  have ht : ∃ tb, PySem.W.Looks (model X.prog X.w) s.heap (typeOf (.ref b)) tb ∧ PySem.W.notFirst X.K C tb = true := by
    rcases hy with ⟨dy, gs, h⟩ | ⟨⟨xs, h⟩, hl⟩
    · obtain ⟨mB, J2, _⟩ := ins_get I.hok h
      obtain ⟨od2, J2, _⟩ := J2.look
      exact ⟨.ref C, J2.type, by simp [PySem.W.notFirst]⟩
    · obtain ⟨_, its, n, _, e⟩ := (show ObjOk X.prog X.w H s.heap b (.lst xs) from I.hok b _ h)
      exact ⟨.type "list", fun A Q E s k z => wpAny_typeOf_ref (k _ _ e) z, by simp [PySem.W.notFirst, hl]⟩
  obtain ⟨tb, ht, hn⟩ := ht
  have hr2 := hr.mono (Nat.le_of_ble_eq_true hkj)
  show wpAny (model X.prog X.w) X.A (richCompare .Eq (.ref a) (.ref b)) _ _ _
  refine PySem.W.cmp_K (op := .Eq) (tb := tb) hr2.units0 hF I.ok.mod.kin J ht hn hs hf ?_
  have hl := F.len _ _ _ _ q
  have b2 := hb s [.ref a, .ref b] I.kIn (by simpa using hl)
  rw [List.append_nil] at b2
  refine wpAny_call (codeAny_mono (F.run X.A X.stack s H ⟨[.ref a, .ref b], []⟩ [.ref a, .ref b] [.ref a, .ref b] _ _ hr2 I.env0 b2 (.cons rfl (.cons rfl .nil)) q) fun r s' z => ?_)
  match r, z with
  | .error e, z => exact hx pins σ H s e s' I z
  | .ok (.ret w), z =>
    obtain ⟨v2, H', I', rv, c, ec, q2⟩ := I.after z
    subst ec
    cases rv
    exact ⟨.bl c, H', I', rfl, q2⟩
  | .ok .next, z => exact False.elim z
  | .ok .brk, z => exact False.elim z
  | .ok .cont, z => exact False.elim z
end L2
/-! ## rules where it is known that so many tokens are out -/
namespace L2
open PySem PySem.Spec PyProof.Rows
def PEn (n : Nat) (X : Cx) (e : Expr) (t : TE) : Prop := ∀ (pins : List (Addr × Obj)) (s : Shared) (σ : L2.St) (H : Hp) (Q : VK), n ≤ s.toks → Inv X pins σ H s → t σ H Q → wpAny (model X.prog X.w) X.A (eval e X.env) (EP X pins σ Q) X.xe s
def PTn (n : Nat) (X : Cx) (e : Expr) (t : TT) : Prop := ∀ (pins : List (Addr × Obj)) (s : Shared) (σ : L2.St) (H : Hp) (Q : Bool → Hp → Prop), n ≤ s.toks → Inv X pins σ H s → t σ H Q → wpAny (model X.prog X.w) X.A (isTrue e X.env (eval e X.env)) (TP X pins σ Q) X.xe s
def PAn (n : Nat) (X : Cx) (es : List Expr) (t : TA) : Prop := ∀ (pos : Pos) (pins : List (Addr × Obj)) (s : Shared) (σ : L2.St) (H : Hp) (Q : List V → Hp → Prop), n ≤ s.toks → Inv X pins σ H s → t σ H Q →
  wpAny (model X.prog X.w) X.A (spliced (backTo pos (starEach es X.env))) (AP X pins σ Q) X.xe s
def PSn (n : Nat) (X : Cx) (st : Stmt) (t : TS) : Prop := ∀ (pins : List (Addr × Obj)) (s : Shared) (σ : L2.St) (H : Hp) (D : Ends), n ≤ s.toks → Inv X pins σ H s → t D σ H → wpAny (model X.prog X.w) X.A (exec st X.env) (SP X pins D) X.xe s
def PSsn (n : Nat) (X : Cx) (st : List Stmt) (t : TS) : Prop := ∀ (pins : List (Addr × Obj)) (s : Shared) (σ : L2.St) (H : Hp) (D : Ends), n ≤ s.toks → Inv X pins σ H s → t D σ H → wpAny (model X.prog X.w) X.A (execs st X.env) (SP X pins D) X.xe s
theorem thnN {α : Type} {t : Sem α} {Q Q' : α → Shared → Prop} {M : Model} {A : Around} {E : Value → Shared → Prop} {s : Shared} {n : Nat} (hn : n ≤ s.toks) (h : wpAny M A t Q E s) (k : ∀ a s', n ≤ s'.toks → Q a s' → Q' a s') : wpAny M A t Q' E s :=
  wpAny_mono (PySem.wpAny_toks_of hn h) (fun a s' q => k a s' q.1 q.2) fun _ _ x => x.2
section
variable {X : Cx} {n : Nat} {e a b : Expr} {es : List Expr} {st : Stmt} {rest : List Stmt} {te ta tb : TE} {tt : TT} {tA : TA} {t u : TS} {pos : Pos}
theorem pen_of (h : PE X e te) : PEn n X e te := fun pins s σ H Q _ I q => h.run pins s σ H Q I q
theorem ptn_of (h : PT X e tt) : PTn n X e tt := fun pins s σ H Q _ I q => h.run pins s σ H Q I q
theorem pan_of (h : PA X es tA) : PAn n X es tA := fun pos pins s σ H Q _ I q => h.run pos pins s σ H Q I q
theorem psn_of (h : PS X st t) : PSn n X st t := fun pins s σ H D _ I q => h.run pins s σ H D I q
theorem pssn_of (h : PSs X rest t) : PSsn n X rest t := fun pins s σ H D _ I q => h.run pins s σ H D I q
theorem pen_op {op : Operator} {r : R2} (ho : OpR X (binaryOp op) r) (ha : PEn n X a ta) (hb : PEn n X b tb) : PEn n X (.BinOp a op b pos) (tOp r ta tb) := by
  intro pins s σ H Q hn I h
  refine wpAny_BinOp (thnN hn (ha pins s σ H _ hn I h) fun v s1 h1 q => ?_)
  obtain ⟨x, H1, I1, r1, q1⟩ := q
  exact thn (hb pins s1 σ H1 _ h1 I1 q1) fun w s2 ⟨y, H2, I2, r2, q2⟩ => ho pins s2 σ H2 x y v w Q I2 r1 r2 q2
theorem ptn_val (h : PEn n X e te) (he : ∀ whole, isTrue e X.env whole = (do let v ← whole; standAt e.pos; holding [v] (truthy v)) := by intro _; rfl) : PTn n X e (tB te) := by
  intro pins s σ H Q hn I hw
  refine isTrue_plain (thn (h pins s σ H _ hn I hw) fun v s1 ⟨x, H1, I1, r1, q1⟩ => ?_) (he _)
  obtain ⟨d, rfl, q⟩ := q1
  cases r1
  exact wpAny_truthy_bool ⟨H1, I1, q⟩
theorem ptn_not (h : PTn n X e tt) : PTn n X (.UnaryOp .Not e pos) (tNot tt) := fun pins s σ H Q hn I q => isTrue_not (h pins s σ H (fun c H1 => Q (!c) H1) hn I q)
theorem pan_cons (ha : PEn n X e te) (hr : PAn n X es tA) (hs : starEach (e :: es) X.env = (false, eval e X.env) :: starEach es X.env := by rfl) : PAn n X (e :: es) (tCons te tA) := by
  intro pos pins s σ H Q hn I h
  rw [hs]
  refine Calls.spliced_cons (thnN hn (ha pins s σ H _ hn I h) fun v s1 h1 q => ?_)
  obtain ⟨x, H1, I1, r1, q1⟩ := q
  exact thn (hr pos pins s1 σ H1 _ h1 I1 q1) fun us s2 ⟨xs, H2, I2, r2, q2⟩ => ⟨x :: xs, H2, I2, .cons r1 r2, q2⟩
theorem pen_tup {x1} (h : PAn n X es tA) : PEn n X (.Tuple es x1 pos) (tTup tA) := fun pins s σ H Q hn I hq =>
  wpAny_Tuple_spliced (thn (h pos pins s σ H _ hn I hq) fun us s1 z => by
    obtain ⟨xs, H1, I1, r, hz, q⟩ := z
    exact ⟨by rw [← r.length]; exact hz, .ref _, _, I1.laid (o := .tup xs) (t' := s1.toks) (fun _ _ e => Heap.get?_push_of_some _ e) (Nat.le_refl _) ⟨hz, us, r, _, Heap.get?_push_size _ rfl, rfl, _, rfl⟩, rfl, q _ (I1.hok.fresh (Nat.le_refl _))⟩)
theorem psn_asg {tg : Expr} {g : TG} (he : PEn n X e te) (hg : PG X tg g) (hs : swapsWithSole [tg] e pos.line X.env = pure false := by rfl) (hw : swappedStores [tg] e X.env = pure none := by rfl)
    (h1 : (assignEach [tg] X.env).map (·.2) = [assign tg X.env] := by rfl) : PSn n X (.Assign [tg] e pos) (tAsg te g) := fun pins s σ H D hn I h =>
  wpAny_Assign_stores (thn (he pins s σ H _ hn I h) fun v s1 z => by
    obtain ⟨x, H1, I1, r1, q1⟩ := z
    rw [h1]
    exact thn (hg.run pins s1 σ H1 x v _ I1 r1 q1) fun _ _ q => q) hs hw
theorem psn_ret (he : PEn n X e te) : PSn n X (.Return (some e) pos) (tRet te) := fun pins s σ H D hn I h =>
  wpAny_Return_some (thn (he pins s σ H _ hn I h) fun v s1 z => let ⟨x, H1, I1, r1, q1⟩ := z; ⟨x, σ, H1, I1, r1, q1⟩)
theorem pssn_nil : PSsn n X [] tNext := pssn_of pss_nil
theorem pssn_cons (h1 : PSn n X st t) (h2 : PSsn n X rest u) : PSsn n X (st :: rest) (tSeq t u) := fun pins s σ H D hn I h =>
  wpAny_execs_cons (thnN hn (h1 pins s σ H { D with nx := u D } hn I h) fun f s1 k1 q => match f, q with
    | .next, ⟨σ', H', I', q⟩ => h2 pins s1 σ' H' D k1 I' q
    | .ret _, q => q
    | .brk, q => q
    | .cont, q => q)
theorem pssn_one (h1 : PSn n X st t) : PSsn n X [st] t := fun pins s σ H D hn I h =>
  wpAny_execs_cons (thn (h1 pins s σ H D hn I h) fun f s1 q => match f, q with
    | .next, q => wpAny_execs_nil q
    | .ret _, q => q
    | .brk, q => q
    | .cont, q => q)
theorem psn_if {c : Expr} {sa sb : List Stmt} (hc : PTn n X c tt) (ha : PSsn n X sa t) (hb : PSsn n X sb u) : PSn n X (.If c sa sb pos) (tIfS tt t u) := fun pins s σ H D hn I h =>
  wpAny_If (thnN hn (hc pins s σ H _ hn I h) fun d s1 k1 z => by
    obtain ⟨H1, I1, q1⟩ := z
    cases d
    · exact hb pins s1 σ H1 D k1 I1 q1
    · exact ha pins s1 σ H1 D k1 I1 q1)
theorem psn_while {c : Expr} {body : List Stmt} (hp : PassesOwn (model X.prog X.w) X.A X.env X.xe) (hc : PT X c tt) (hb : PSsn n X body t) : PSn n X (.While c body [] pos) (tWhile tt t) := by
  intro pins s σ H D hn I h
  obtain ⟨W, ⟨m0, w0⟩, turn⟩ := h
  refine wpAny_While (codeAny_whileLoop (fun m s' => n ≤ s'.toks ∧ ∃ σ' H', Inv X pins σ' H' s' ∧ W m σ' H') ?_ m0 ⟨hn, σ, H, I, w0⟩)
  rintro m s1 ⟨k1, σ1, H1, I1, w1⟩
  refine wpAny_passesOwn hp (thnN k1 (hc.run pins s1 σ1 H1 _ I1 (turn m σ1 H1 w1)) fun d s2 k2 z => ?_)
  obtain ⟨H2, I2, q2⟩ := z
  cases d
  · rw [if_neg Bool.false_ne_true]
    exact wpAny_execs_nil ⟨σ1, H2, I2, q2⟩
  · obtain ⟨N, hN, q2⟩ := q2
    rw [if_pos rfl]
    have back : ∀ {s3 : Shared}, n ≤ s3.toks → (∃ σ3 H3, Inv X pins σ3 H3 s3 ∧ N σ3 H3) → ∃ m', m' < m ∧ n ≤ s3.toks ∧ ∃ σ' H', Inv X pins σ' H' s3 ∧ W m' σ' H' := fun k3 z => by
      obtain ⟨σ3, H3, I3, n3⟩ := z
      obtain ⟨m', hm, w3⟩ := hN σ3 H3 n3
      exact ⟨m', hm, k3, σ3, H3, I3, w3⟩
    exact wpAny_passesOwn hp (thnN k2 (hb pins s2 σ1 H2 _ k2 I2 q2) fun f s3 k3 q3 => match f, q3 with
      | .next, q3 => back k3 q3
      | .cont, q3 => back k3 q3
      | .brk, q3 => q3
      | .ret _, q3 => q3)
theorem meets_cat {z : Str} {t u : Tok} (hl : (z.length == 0) = false) (hs : (z ++ z).length ≤ sizeLine) : Meets (Builtin.«str.__add__» ⟨[.str z t, .str z u], []⟩) (fun _ R s => R (.ok (.ret (.str (z ++ z) s.toks))) { s with toks := s.toks + 1 }) := .of_wp fun prog w A R s h => by
  show wpAny _ _ (do
    if (true && z.length == 0) = true then (do rule "str.__add__.left-empty"; ret (.str z u)) else
    if (true && z.length == 0) = true then (do rule "str.__add__.right-empty"; ret (.str z t)) else
    retStr (z ++ z)) _ _ s
  rw [hl]
  exact wpAny_bind (wpAny_mkStr (wpAny_pure ⟨_, rfl, h⟩) hs)
/-- e.replace(x + x, x), x a text of the module whose token is below n -/
def tRepG (z : Str) (to : TE) : TE := fun σ H Q => to σ H fun v H1 => ∃ x, v = .str x ∧ x.length + (x.length + 1) * z.length ≤ 16777216 ∧ Q (.str (Txt.replace x (z ++ z) z)) H1
theorem pen_repG {o : Expr} {to : TE} {x z : Str} {t0 : Tok} {p1 p2 p3 p4 apos : Pos} (ho : PEn n X o to) (hg : Gl X x) (hm : X.mg x = some (.str z t0)) (h0 : t0 ≠ 0) (hlt : t0 < n) (hl : (z.length == 0) = false) (hs : (z ++ z).length ≤ sizeLine)
    (hyz : ((z ++ z) == z) = false) (hd : (x == ("__debug__" : Str)) = false := by decide)
    (hst : starEach [.BinOp (.Name x p1) .Add (.Name x p2) p3, .Name x p4] X.env = [(false, eval (.BinOp (.Name x p1) .Add (.Name x p2) p3) X.env), (false, eval (.Name x p4) X.env)] := by rfl)
    (hbase : attributeBase o "replace" X.env (eval o X.env) = eval o X.env := by rfl) (hline : (apos.endLine == pos.line) = true := by rfl) :
    PEn n X (.Call (.Attribute o "replace" apos) [.BinOp (.Name x p1) .Add (.Name x p2) p3, .Name x p4] [] pos) (tRepG z to) := by
  intro pins s σ H Q hn I h
  refine PySem.Call_method2 hbase hst hline (thnN hn (ho pins s σ H _ hn I h) fun v s1 k1 w => ?_)
  obtain ⟨v', H1, I1, r1, y, rfl, hb, q⟩ := w
  obtain ⟨ty, rfl⟩ := r1
  refine ⟨"str", _, PySem.F.plainAttrs_str, PySem.F.slot_str_replace, PySem.F.type_str_replace, typeIs_str _ _ _, (fun _ e => nomatch e), Calls.callWith_builtin rfl (Calls.evalArgs_plain (Calls.spliced_cons ?_))⟩
  have cat : ∀ {Q2 : Value → Shared → Prop}, Q2 (.str (z ++ z) s1.toks) { s1 with toks := s1.toks + 1 } → wpAny (model X.prog X.w) X.A (binaryOp .Add (.str z t0) (.str z t0)) Q2 X.xe s1 := fun {Q2} k => by
    exact concat_meets (typeIs_str s1 z t0) (typeIs_str s1 z t0) PySem.noFill_str_add PySem.seq_str_add PySem.F.slot_str_add PySem.F.entry_str_add (PySem.F.args_str_add_2 _ _) (meets_cat hl hs) k
  refine wpAny_BinOp (ld_glob I1 hg hm (ld_glob I1 hg hm (cat ?_) hd) hd)
  refine Calls.spliced_cons (ld_glob (s := { s1 with toks := s1.toks + 1 }) (I1.tok (s1.toks + 1)) hg hm (Calls.spliced_nil ?_) hd)
  exact PySem.SC.replace (Nat.ne_of_gt (Nat.lt_of_lt_of_le (Nat.lt_of_le_of_lt (Nat.zero_le _) hlt) k1)) h0 (Nat.ne_of_gt (Nat.lt_of_lt_of_le hlt k1)) hyz hb fun t' k => ⟨.str (Txt.replace y (z ++ z) z), H1, I1.tok k, ⟨t', rfl⟩, q⟩
end
/-- as FnOk, where so many tokens are out -/
structure FnN (n : Nat) (P : Program) (w : World) (K : PySem.W.Frag) (mg : Str → Option Value) (base : Heap) (CX : CXT) (k : Nat) (f : Addr) (fd : FuncData) (ps : List Str) (sp : Sp) : Prop where
  len : ∀ vs H Q E, sp vs H Q E → vs.length = ps.length
  run : ∀ (A : Around) (outer : List Env) (s : Shared) (H : Hp) (args : Args) (us : List Value) (vs : List V) (Q : VK) (E : XK), n ≤ s.toks → Room k A → Env0 P w K mg base A outer s H → BindsTo s fd args (ps.zip us) → Vals vs us → sp vs H Q E →
    codeAny (model P w) A (.call (.ref f) args) (CR CX outer P w H s Q E) s
structure CalN (n : Nat) (P : Program) (w : World) (K : PySem.W.Frag) (mg : Str → Option Value) (base : Heap) (CX : CXT) (k : Nat) (x : Str) (ps : List Str) (sp : Sp) : Prop where
  ex : ∃ (f : Addr) (fd : FuncData), FnN n P w K mg base CX k f fd ps sp ∧ mg x = some (.ref f) ∧ PySem.W.keepIn K (.ref f) = true ∧ Binds K fd ps []
section
variable {P : Program} {w : World} {K : PySem.W.Frag} {mg : Str → Option Value} {base : Heap} {x qual : Str} {params : Arguments} {body : List Stmt} {scope : Scope} {f : Addr} {fd : FuncData} {n : Nat}
theorem FunD.okN {CX : CXT} {N ps : List Str} {k : Nat} {sp : Sp} (F : FunD K x qual params body scope [] [] f fd) (S : FnScope N ps scope) (len : ∀ vs H Q E, sp vs H Q E → vs.length = ps.length)
    (hbody : ∀ (cdv : Value) (A : Around) (outer : List Env) (s : Shared) (H : Hp) (vs : List V) (Q : VK) (E : XK), Room k (A.deeper (envOfC qual scope s.heap.objs.size f cdv)) → sp vs H Q E →
      ∃ t, PSsn n (cxOf CX P w K mg base N qual scope f cdv A outer s H E) body t ∧ t { nx := fun _ H' => Q .non H', rt := Q } (start N vs) H) : FnN n P w K mg base CX (k + 1) f fd ps sp := by
  obtain ⟨oc, od, dV, kV, doc, pm, an, cdv, ct, osl, rfl, lk, hcd, _, _⟩ := F.ex
  refine ⟨len, fun A outer s H args us vs Q E hn hr e0 hb r hsp => ?_⟩
  have hl := len _ _ _ _ hsp
  have KX : K.In s.heap := e0.mod.kin.keeps fun b o e => (e0.bs b o e).1
  have lim : s.heap.NoLimit := e0.mod.nolimit.keeps fun b o e => (e0.bs b o e).1
  refine codeAny_call_function hr.depth (KX _ _ lk) rfl S.co S.gen rfl (PySem.W.codeRec_of KX hcd) (hb _ _ _ _ (PySem.wpAny_with_toks hn ?_))
  refine wpAny_newFunctionEnv_cells S.kind (fun y hy => ?_) fun env he s1 z k1 => ?_
  · rcases S.par y.1 (List.of_mem_zip (a := y.1) (b := y.2) hy).1 with q | q
    · exact .inl q
    · exact .inr ⟨q, PySem.W.cellsFrom_some _ _ _ (.inl q)⟩
  · subst he
    refine ⟨lim.keeps z.toInCall.keep, codeAny_func ?_⟩
    obtain ⟨t, ht, hq⟩ := hbody cdv A outer s H vs Q E (hr.deeper _) hsp
    refine thn (ht [] s1 (start N vs) H _ k1 (inv_start S hr.hd e0 hl r z) hq) fun fl s' hs => ?_
    match fl, hs with
    | .ret u, hs =>
      obtain ⟨v, σ', H', J, rv, q⟩ := hs
      exact ⟨v, H', J.os, J.bare, J.base, J.hok, rv, q⟩
    | .next, hs =>
      obtain ⟨σ', H', J, q⟩ := hs
      exact ⟨V.non, H', J.os, J.bare, J.base, J.hok, rfl, q⟩
    | .brk, hs => exact hs.elim fun _ y => y.elim fun _ y => y.2.elim
    | .cont, hs => exact hs.elim fun _ y => y.elim fun _ y => y.2.elim
end
section
variable {X : Cx} {CX : CXT} {n k j : Nat} {x : Str} {ps : List Str} {sp : Sp} {p pos : Pos} {e : Expr} {es : List Expr} {t : TA} {W : WX}
theorem pen_calS (D : CalN n X.prog X.w X.K X.mg X.base (L2.CX X.prog X.w) k x ps sp) (hr : Room j X.A) (hkj : Nat.ble k j = true) (gl : Gl X x) (tk : Takes X W) (ha : PAn n X (e :: es) t) (hdb : (x == ("__debug__" : Str)) = false := by decide)
    (he : starEach (e :: es) X.env = (false, eval e X.env) :: starEach es X.env := by rfl) (hpl : (backTo pos (starEach es X.env)).any (·.1) = false := by rfl) : PEn n X (.Call (.Name x p) (e :: es) [] pos) (tCallS sp (WE W) t) := by
  obtain ⟨f, fd, F, hm, hk, hb⟩ := D.ex
  intro pins s σ H Q hn I h
  refine wpAny_Call_Name_kw (ld_glob I gl hm ?_ hdb)
  refine PySem.W.callWith_K (h₀ := X.base) I.ok.mod.kin hk (thnN hn (ha pos pins s σ H _ hn I h) fun us s1 k1 z => ?_) he hpl
  obtain ⟨vs, H1, I1, r, q⟩ := z
  have hl : us.length = ps.length := by rw [← r.length]; exact F.len _ _ _ _ q
  have b := hb s1 us I1.kIn (by rw [List.append_nil]; exact hl)
  rw [List.append_nil] at b
  exact ⟨I1.kIn, wpAny_call (codeAny_mono (F.run X.A X.stack s1 H1 ⟨us, []⟩ us vs Q (WE W σ) k1 (hr.mono (Nat.le_of_ble_eq_true hkj)) I1.env0 b r q) fun rr s' hq => match rr, hq with
    | .error e, hq => passAt tk σ pins H1 s1 e s' I1 hq
    | .ok (.ret _), hq => I1.after hq
    | .ok .next, hq => hq.elim
    | .ok .brk, hq => hq.elim
    | .ok .cont, hq => hq.elim)⟩
theorem pen_cal {E : XK} (D : CalN n X.prog X.w X.K X.mg X.base CX k x ps sp) (hr : Room j X.A) (hkj : Nat.ble k j = true) (gl : Gl X x) (hx : Passes CX X E) (ha : PAn n X (e :: es) t) (hdb : (x == ("__debug__" : Str)) = false := by decide)
    (he : starEach (e :: es) X.env = (false, eval e X.env) :: starEach es X.env := by rfl) (hpl : (backTo pos (starEach es X.env)).any (·.1) = false := by rfl) : PEn n X (.Call (.Name x p) (e :: es) [] pos) (tCall sp [] E t) := by
  obtain ⟨f, fd, F, hm, hk, hb⟩ := D.ex
  intro pins s σ H Q hn I h
  refine wpAny_Call_Name_kw (ld_glob I gl hm ?_ hdb)
  refine PySem.W.callWith_K (h₀ := X.base) I.ok.mod.kin hk (thnN hn (ha pos pins s σ H _ hn I h) fun us s1 k1 z => ?_) he hpl
  obtain ⟨vs, H1, I1, r, q⟩ := z
  rw [List.append_nil] at q
  have hl : us.length = ps.length := by rw [← r.length]; exact F.len _ _ _ _ q
  have b := hb s1 us I1.kIn (by rw [List.append_nil]; exact hl)
  rw [List.append_nil] at b
  exact ⟨I1.kIn, wpAny_call (codeAny_mono (F.run X.A X.stack s1 H1 ⟨us, []⟩ us vs Q E k1 (hr.mono (Nat.le_of_ble_eq_true hkj)) I1.env0 b r q) fun rr s' hq => match rr, hq with
    | .error e, hq => hx pins σ H1 s1 e s' I1 hq
    | .ok (.ret _), hq => I1.after hq
    | .ok .next, hq => hq.elim
    | .ok .brk, hq => hq.elim
    | .ok .cont, hq => hq.elim)⟩
/-- a call of a def that asks nothing of tokens, its arguments may -/
theorem pen_cal0 {E : XK} (D : Cal X.prog X.w X.K X.mg X.base CX k x ps sp) (hr : Room j X.A) (hkj : Nat.ble k j = true) (gl : Gl X x) (hx : Passes CX X E) (ha : PAn n X (e :: es) t) (hdb : (x == ("__debug__" : Str)) = false := by decide)
    (he : starEach (e :: es) X.env = (false, eval e X.env) :: starEach es X.env := by rfl) (hpl : (backTo pos (starEach es X.env)).any (·.1) = false := by rfl) : PEn n X (.Call (.Name x p) (e :: es) [] pos) (tCall sp [] E t) := by
  obtain ⟨f, fd, F, hm, hk, hb⟩ := D.ex
  exact pen_cal (CX := CX) ⟨f, fd, ⟨F.len, fun A outer s H args us vs Q E _ hr e0 b r h => F.run A outer s H args us vs Q E hr e0 b r h⟩, hm, hk, hb⟩ hr hkj gl hx ha hdb he hpl
end
end L2
/-! ## try with several clauses, with a name or without, where tokens are out -/
namespace L2
open PySem PySem.Spec PyProof.Rows
/-- one clause: its class, the slot of its name, its suite's reading -/
structure ClB where
  c : Value
  i : Option Nat
  ts : Addr → Value → Option Addr → TS
/-- behind the suite the name is gone -/
def slotB (i : Option Nat) (v : Option V) (σ : L2.St) : L2.St := match i with
  | some j => σ.set j v
  | none => σ
def endsB (D : Ends) (i : Option Nat) : Ends := { nx := fun σ H => D.nx (slotB i none σ) H, rt := D.rt, bk := fun σ H => D.bk (slotB i none σ) H, ct := fun σ H => D.ct (slotB i none σ) H }
def wManyB (K : PySem.W.Frag) (Wout : WX) (D : Ends) : List ClB → WX
  | [] => Wout
  | q :: r => fun cls d σ H => ∃ b, PySem.W.exmOne K cls q.c = some b ∧ (b = true → ∀ a, H a = none → q.ts a cls d (endsB D q.i) (slotB q.i (some (.ref a)) σ) H) ∧ (b = false → wManyB K Wout D r cls d σ H)
inductive HdsB (X : Cx) : List ExceptHandler → List ClB → Prop
  | nil : HdsB X [] []
  | bare {x : Str} {q : ClB} {s0 : Stmt} {sr : List Stmt} {np hp : Pos} {hr : List ExceptHandler} {l : List ClB} (hq : q.i = none) (hc : Names X x q.c)
      (hs : ∀ (a : Addr) (oe : Obj) (cls : Value) (d : Option Addr) (pn : List (Addr × Obj)), Zc cls d oe → (∃ vs, oe.data = .fields vs) → PSs (X.suite a ((a, oe) :: pn)) (s0 :: sr) (q.ts a cls d)) (r : HdsB X hr l) :
      HdsB X (.ExceptHandler (some (.Name x np)) none (s0 :: sr) hp :: hr) (q :: l)
  | cons {x n : Str} {q : ClB} {j : Nat} {s0 : Stmt} {sr : List Stmt} {np hp : Pos} {hr : List ExceptHandler} {l : List ClB} (hq : q.i = some j) (hi : X.N[j]? = some n) (hn : X.env.kindOf n = some .local) (hc : Names X x q.c)
      (hs : ∀ (a : Addr) (oe : Obj) (cls : Value) (d : Option Addr) (pn : List (Addr × Obj)), Zc cls d oe → (∃ vs, oe.data = .fields vs) → PSs (X.suite a ((a, oe) :: pn)) (s0 :: sr) (q.ts a cls d)) (r : HdsB X hr l) :
      HdsB X (.ExceptHandler (some (.Name x np)) (some n) (s0 :: sr) hp :: hr) (q :: l)
section
variable {X : Cx} {body : List Stmt} {h0 : ExceptHandler} {hr : List ExceptHandler} {l : List ClB} {pos : Pos} {tb : WX → TS} {Wout : WX} {n : Nat}
/-- from the catch on: the clauses one by one -/
theorem manyB_go {pins : List (Addr × Obj)} {σ : St} {H : Hp} {a : Addr} {B h3 : Heap} {cls : Value} {d : Option Addr} {sI s' : Shared} {D : Ends} (hN : X.N.Nodup) (ok : X.Ok) (hS : X.stack = X.env :: X.outer) (hF : X.env.frame = some X.env.locals) (tk : Takes X Wout)
    (J : Inv X pins σ H sI) (nb : ∀ b o, sI.heap.get? b = some o → b ∉ frs X.stack → B.get? b = some o) (up : sI.heap.UpToSlots s'.heap) (up3 : s'.heap.UpToSlots h3) (na : H a = none) (os : s'.os = sI.os) (ag : AllBare s'.gens)
    (fl : HandSPX.FlyingZ B (X.env :: X.outer) a (Zc cls d) h3) (nL : a ≠ X.env.locals) (nF : a ∉ X.fs) :
    ∀ {hs : List ExceptHandler} {l : List ClB}, HdsB X hs l → wManyB X.K Wout D l cls d σ H → wpAny (model X.prog X.w) X.A (handleBy (.ref a) X.env hs) (SP X pins D) X.xe { s' with heap := h3 } := by
  have J3 : Inv X pins σ H { s' with heap := h3 } := J.landed nb fl.1 (up.trans up3) os ag
  intro hs l hk
  induction hk with
  | nil =>
    intro w
    refine wpAny_handleBy_nil ?_
    obtain ⟨_, _, _, oe, vs, T, oT, ts', he, hz, hd, h1, hr⟩ := id fl
    have up_ : wpAny (model X.prog X.w) X.A (setFlight (.ref a) X.env.frame) (fun _ s4 => wpAny (model X.prog X.w) X.A (throw (.ref a) : Sem Flow) (SP X pins D) X.xe s4) X.xe { s' with heap := h3 } := by
      rw [hF]
      refine HandSPX.setFlight_upZ fl fun h4 hh4 up4 => wpAny_throw (tk _ _ ⟨a, B, sI, pins, σ, H, cls, d, rfl, J, nb, (up.trans up3).trans up4, .inr (.inr ?_), na, os, ag, w⟩)
      rw [hS]
      exact hh4
    unfold PySem.passOn
    refine wpAny_bind (wpAny_field he hd h1 ?_)
    have nt : ¬ ((Value.ref T == Value.none) = true) := by simp
    rw [if_neg nt]
    first
      | exact wpAny_bind up_
      | exact wpAny_bind (wpAny_pure (wpAny_bind up_))
  | @bare x q s0 sr np hp hr l hq hc hsu r ih =>
    intro w
    obtain ⟨b, hb, yes, no⟩ := w
    obtain ⟨oe3, vs3, he3, hz3, hd3⟩ := fl.there
    have S3 := J3.suite he3 hd3 na nL nF
    have LM := PySem.W.exm_one (M := model X.prog X.w) (J3.kIn) (show PySem.W.Looks (model X.prog X.w) h3 (typeOf (.ref a)) cls from fun A Q E s k z => wpAny_typeOf_ref (k _ _ he3) (by rw [hz3.1]; exact z)) hb
    refine wpAny_handleBy_cons (codeAny_handlers_test ?_) (by intro z; cases z)
    have cl : ∀ {Q : Value → Shared → Prop} {E : Value → Shared → Prop}, Q q.c { s' with heap := h3 } → wpAny (model X.prog X.w) (X.A.mark (some (.ref a))) (eval (.Name x np) X.env) Q E { s' with heap := h3 } := fun {Q E} z => by
      obtain ⟨g1, g2, g3⟩ := hc
      rcases g3 with g3 | ⟨g3, g4, g5⟩
      · exact ld_glob (X := X.suite a ((a, oe3) :: (X.pn ++ pins))) S3 g1 g3 z g2
      · exact ld_blt (X := X.suite a ((a, oe3) :: (X.pn ++ pins))) S3 g1 g3 g4 z g5 g2
    refine cl (LM.here ?_)
    cases b with
    | false => exact ih (no rfl)
    | true =>
      refine codeAny_handlers_suite (HandSPX.lands_againZ fl fun h4 fl4 up4 => ?_)
      have J4 : Inv X pins σ H { s' with heap := h4 } := J.landed nb fl4.1 ((up.trans up3).trans up4) os ag
      obtain ⟨oe4, vs4, he4, hz4, hd4⟩ := fl4.there
      have S4 := J4.suite he4 hd4 na nL nF
      have y := yes rfl a na
      rw [hq] at y
      refine wpAny_mono ((hsu a oe4 cls d (X.pn ++ pins) hz4 ⟨_, hd4⟩).run [] _ _ H _ S4 y) (fun f s6 hsp => ?_) (fun _ _ z => z.elim)
      cases f with
      | ret u => obtain ⟨v6, σ6, H6, S6, r6, q6⟩ := hsp; exact ⟨_, _, _, S6.unsuite ok, r6, q6⟩
      | next => obtain ⟨σ6, H6, S6, q6⟩ := hsp; exact ⟨_, _, S6.unsuite ok, q6⟩
      | brk => obtain ⟨σ6, H6, S6, q6⟩ := hsp; exact ⟨_, _, S6.unsuite ok, q6⟩
      | cont => obtain ⟨σ6, H6, S6, q6⟩ := hsp; exact ⟨_, _, S6.unsuite ok, q6⟩
  | @cons x n q j s0 sr np hp hr l hq hi hn hc hsu r ih =>
    intro w
    obtain ⟨b, hb, yes, no⟩ := w
    obtain ⟨oe3, vs3, he3, hz3, hd3⟩ := fl.there
    have S3 := J3.suite he3 hd3 na nL nF
    have LT : PySem.W.Looks (model X.prog X.w) h3 (typeOf (.ref a)) cls := fun A Q E s k z => wpAny_typeOf_ref (k _ _ he3) (by rw [hz3.1]; exact z)
    have LM := PySem.W.exm_one (M := model X.prog X.w) (J3.kIn) LT hb
    refine wpAny_handleBy_cons (codeAny_handlers_test ?_) (by intro z; cases z)
    have cl : ∀ {Q : Value → Shared → Prop} {E : Value → Shared → Prop}, Q q.c { s' with heap := h3 } → wpAny (model X.prog X.w) (X.A.mark (some (.ref a))) (eval (.Name x np) X.env) Q E { s' with heap := h3 } := fun {Q E} z => by
      obtain ⟨g1, g2, g3⟩ := hc
      rcases g3 with g3 | ⟨g3, g4, g5⟩
      · exact ld_glob (X := X.suite a ((a, oe3) :: (X.pn ++ pins))) S3 g1 g3 z g2
      · exact ld_blt (X := X.suite a ((a, oe3) :: (X.pn ++ pins))) S3 g1 g3 g4 z g5 g2
    refine cl (LM.here ?_)
    cases b with
    | false => exact ih (no rfl)
    | true =>
      refine codeAny_handlers_suite_as (HandSPX.lands_againZ fl fun h4 fl4 up4 => ?_)
      have J4 : Inv X pins σ H { s' with heap := h4 } := J.landed nb fl4.1 ((up.trans up3).trans up4) os ag
      obtain ⟨oe4, vs4, he4, hz4, hd4⟩ := fl4.there
      have S4 := J4.suite he4 hd4 na nL nF
      refine store_ok (X := X.suite a ((a, oe4) :: (X.pn ++ pins))) (v := .ref a) S4 hN hi (.inl hn) rfl (fun s5 S5 => ?_) (.inr hn)
      have gone : ∀ {σ6 : St} {H6 : Hp} {s6 : Shared} {Q : Shared → Prop}, Inv (X.suite a ((a, oe4) :: (X.pn ++ pins))) [] σ6 H6 s6 → (∀ s7, Inv X pins (σ6.set j none) H6 s7 → Q s7) →
          wpAny (model X.prog X.w) X.A (do bindName X.env n .none; unbindBehindTheSuite X.env n hp) (fun _ s7 => Q s7) X.xe s6 := fun {σ6 H6 s6 Q} S6 z => gone_ok (S6.unsuite ok) hN hi hn z
      have y := yes rfl a na
      rw [hq] at y
      refine wpAny_mono ((hsu a oe4 cls d (X.pn ++ pins) hz4 ⟨_, hd4⟩).run [] s5 _ H _ S5 y) (fun f s6 hsp => ?_) (fun _ _ z => z.elim)
      cases f with
      | ret u => obtain ⟨v6, σ6, H6, S6, r6, q6⟩ := hsp; exact gone S6 fun s7 J7 => ⟨_, _, _, J7, r6, q6⟩
      | next => obtain ⟨σ6, H6, S6, q6⟩ := hsp; exact gone S6 fun s7 J7 => ⟨_, _, J7, q6⟩
      | brk => obtain ⟨σ6, H6, S6, q6⟩ := hsp; exact gone S6 fun s7 J7 => ⟨_, _, J7, q6⟩
      | cont => obtain ⟨σ6, H6, S6, q6⟩ := hsp; exact gone S6 fun s7 J7 => ⟨_, _, J7, q6⟩
theorem psn_try_manyB (hS : X.stack = X.env :: X.outer) (hF : X.env.frame = some X.env.locals) (hN : X.N.Nodup) (tk : Takes X Wout)
    (hb : ∀ (W : WX) (pn : List (Addr × Obj)) (xe : Value → Shared → Prop), Takes (X.tr pn xe) W → PassesOwn (model X.prog X.w) X.A X.env xe → PSsn n (X.tr pn xe) body (tb W))
    (hh : HdsB X (h0 :: hr) l) : PSn n X (.Try body (h0 :: hr) [] [] pos) (fun D σ H => tb (wManyB X.K Wout D l) D σ H) := by
  intro pins s σ H D hn I h
  have ok := I.ok
  have hfr : X.A.frames = some (X.env :: X.outer) := by rw [ok.frames, hS]
  let xe' : Value → Shared → Prop := fun e s1 => wpAny (model X.prog X.w) X.A (noteFrame e X.env) (fun _ s2 => wpAny (model X.prog X.w) X.A (setFlight e none) (fun _ s3 => wpAny (model X.prog X.w) X.A (handleBy e X.env (h0 :: hr)) (SP X pins D) X.xe s3) X.xe s2) X.xe s1
  have tk' : Takes (X.tr (X.pn ++ pins) xe') (wManyB X.K Wout D l) := fun u s' xx => by
    obtain ⟨a, B, sI, pins', σ', H', cls, d, rfl, J', nb, up, sky, na, os, ag, w⟩ := xx
    have J : Inv X pins σ' H' sI := J'.ofTry ok
    have sky' : Sky B (X.env :: X.outer) a (Zc cls d) X.env.locals s'.heap := by rw [← hS]; exact sky
    show wpAny (model X.prog X.w) X.A (noteFrame (.ref a) X.env) _ _ _
    refine Sky.land Zc.steady hfr hF sky' fun h3 fl3 up3 => ?_
    obtain ⟨oe3, vs3, he3, hz3, hd3⟩ := fl3.there
    have nfr : a ∉ frs (X.env :: X.outer) := fun hm => by
      obtain ⟨_, o', e', hnf⟩ := fl3.2.2.1.mem hm
      rw [he3] at e'
      cases e'
      exact hnf _ hd3
    refine manyB_go hN ok hS hF tk J nb up up3 na os ag fl3 (fun z => nfr ?_) (fun hm => nfr ?_) hh w
    · exact List.mem_filterMap.mpr ⟨X.env, List.mem_cons_self, by rw [hF, z]⟩
    · obtain ⟨e, he, z⟩ := List.mem_filterMap.mp hm
      exact List.mem_filterMap.mpr ⟨e, List.mem_cons_of_mem _ he, z⟩
  refine wpAny_Try_except (wpAny_mono (hb _ (X.pn ++ pins) xe' tk' PassesOwn.looking [] s σ H D hn (I.toTry _) h) (fun f s1 hsp => ?_) (fun e s1 he => he))
  cases f with
  | next => obtain ⟨σ', H', J', q⟩ := hsp; exact wpAny_execs_nil ⟨σ', H', J'.ofTry ok, q⟩
  | ret u => obtain ⟨v, σ', H', J', r, q⟩ := hsp; exact ⟨v, σ', H', J'.ofTry ok, r, q⟩
  | brk => obtain ⟨σ', H', J', q⟩ := hsp; exact ⟨σ', H', J'.ofTry ok, q⟩
  | cont => obtain ⟨σ', H', J', q⟩ := hsp; exact ⟨σ', H', J'.ofTry ok, q⟩
end
end L2
/-! ## the law's end where it is known that no repr is under way -/
namespace EndG
open PySem PySem.Spec PyProof.Rows L2 LamX
abbrev tabO : Obj := { cls := .none, data := .fields #[] }
/-- all that the abstract heap tells: tables that are empty, lists that are known to the object -/
def Told (ts : List Addr) (H : Hp) (h : Heap) : Prop := ∀ b u, H b = some u → (b ∈ ts ∧ u = .tbl #[] ∧ h.get? b = some tabO) ∨ ∃ ob xs, u = .frz ob (.lst xs) ∧ h.get? b = some ob ∧ ∃ vs n, ob.data = .seq vs n
section
variable {P : Program} {w : World} {K : PySem.W.Frag} {mg mb : Str → Option Value} {ts : List Addr} {H : Hp} {h : Heap}
theorem Told.out (T : Told ts H h) {b : Addr} {o : Obj} (e : h.get? b = some o) (h1 : ∀ vs n, o.data ≠ .seq vs n) (h2 : o.data ≠ .fields #[]) : H b = none := by
  cases q : H b with
  | none => rfl
  | some u =>
    rcases T b u q with ⟨_, _, z⟩ | ⟨ob, xs, _, z, vs, n, zd⟩
    · obtain rfl := Option.some.inj (e.symm.trans z)
      exact absurd rfl h2
    · obtain rfl := Option.some.inj (e.symm.trans z)
      exact absurd zd (h1 vs n)
theorem Told.seen (T : Told ts H h) {b : Addr} {o : Obj} (e : h.get? b = some o) (h1 : ∀ vs n, o.data ≠ .seq vs n) (h2 : o.data ≠ .fields #[]) : (hidT h H).get? b = some o := hidT_get e (T.out e h1 h2)
theorem Told.ns (T : Told ts H h) {b : Addr} {m : Str → Option Value} (x : h.Ns b m) : (hidT h H).Ns b m := by
  obtain ⟨o, es, ep, e, d, r⟩ := x
  refine ⟨o, es, ep, T.seen e (fun vs n z => ?_) (fun z => ?_), d, r⟩ <;> rw [d] at z <;> cases z
theorem Told.mod (T : Told ts H h) (hns : h.Ns mainGlobals mg) (hb : h.Ns builtinsNs mb) (hbb : ∀ x : Str, x ≠ "__name__" → mb x = bootBuiltins x) (hlim : h.NoLimit) (hK : ∀ a o, K.lookup a = some o → h.get? a = some o ∧ H a = none) : L2.Mod K mg (hidT h H) :=
  ⟨fun a o e => hidT_get (hK a o e).1 (hK a o e).2, T.ns hns, ⟨mb, T.ns hb, hbb⟩, let ⟨mc, h1, h2⟩ := hlim; ⟨mc, T.ns h1, h2⟩⟩
theorem Told.tab (T : Told ts H h) (hns : h.Ns mainGlobals mg) {c p : Addr} (ht : h.get? p = some tabO) (C : PySem.W.CodeHd h c p)
    (hbm : ∃ (bm : Addr) (ob : Obj), mg "__builtins__" = some (.ref bm) ∧ bm ≠ builtinsNs ∧ h.get? bm = some ob ∧ ob.cls = .type "module" ∧ ob.dict = some builtinsNs ∧ ob.data = .plain) : TabB (hidT h H) mg c p := by
  have apart : ∀ {a b : Addr} {x y : Obj}, h.get? a = some x → h.get? b = some y → x.data ≠ y.data → a ≠ b := fun ea eb n z => n (by
    rw [z] at ea
    rw [Option.some.inj (ea.symm.trans eb)])
  obtain ⟨og, es, ep, eg, dg, _⟩ := hns
  constructor
  · obtain ⟨o, us, file, tf, fl, tg, inF, text, tt, e1, r1, r2, r3, r⟩ := C
    refine ⟨o, us, file, tf, fl, tg, inF, text, tt, T.seen e1 (fun vs n z => ?_) (fun z => ?_), r1, r2, r3, r⟩
    · rw [r2] at z
      cases z
    · rw [r2] at z
      obtain rfl := Data.fields.inj z
      simp at r3
  · obtain ⟨bm, ob, b1, b2, b3, b4, b5, b6⟩ := hbm
    refine ⟨bm, ob, b1, b2, apart b3 eg ?_, apart b3 ht ?_, T.seen b3 (fun vs n z => ?_) (fun z => ?_), b4, b5, b6⟩
    · rw [b6, dg]
      intro z
      cases z
    · rw [b6]
      intro z
      cases z
    · rw [b6] at z
      cases z
    · rw [b6] at z
      cases z
  · exact apart eg ht (by
      rw [dg]
      intro z
      cases z)
/-- after the run every old object is as it was, a table longer at most -/
theorem Told.old {cs : List (Addr × Addr)} {H' : Hp} {h' : Heap} (T : Told (cs.map (·.2)) H h) (hok : HOk P w H h) (hok' : HOk P w H' h') (un : Un (frs []) [] H H' h h') (C : ∀ p ∈ cs, PySem.W.CodeHd h p.1 p.2) : OldK h h' := by
  have key : ∀ b o, h.get? b = some o → h'.get? b = some o ∨ (∃ p ∈ cs, p.2 = b ∧ o = tabO ∧ ∃ more : Array Value, h'.get? b = some { cls := .none, data := .fields more }) := fun b o e => by
    cases q : H b with
    | none => exact .inl (un.keep b o e q (by simp [frs]) (by simp))
    | some u =>
      rcases T b u q with ⟨hm, rfl, z⟩ | ⟨ob, xs, rfl, z, _⟩
      · obtain ⟨p, hp, rfl⟩ := List.mem_map.mp hm
        obtain ⟨more, g⟩ := un.tbls _ _ q
        exact .inr ⟨p, hp, rfl, Option.some.inj (e.symm.trans z), _, hok' _ _ g⟩
      · obtain rfl := Option.some.inj (e.symm.trans z)
        exact .inl (hok' b _ (un.frzs b _ _ q)).1
  refine ⟨fun b o e => ?_, fun b o e => ?_⟩
  · rcases key b o e with k | ⟨p, hp, rfl, rfl, more, k⟩
    · exact .inl k
    · exact .inr (.inl ⟨((C p hp).tab e).isCodeTable, rfl, #[], more, rfl, by simpa using k⟩)
  · rcases key b o e with k | ⟨p, hp, rfl, rfl, more, k⟩
    · exact ⟨_, k⟩
    · exact ⟨_, k⟩
/-- the law's call, from an abstract heap in which the tables and, at most, the script are told -/
theorem Told.call {CX : CXT} {k : Nat} {fa a : Addr} {cs : List (Addr × Addr)} {fd : FuncData} {x : Str} {sp : Sp} {s₁ : Shared} (T : Told (cs.map (·.2)) H s₁.heap) (hok : HOk P w H s₁.heap)
    (hK : ∀ a o, K.lookup a = some o → s₁.heap.get? a = some o ∧ H a = none) (hns : s₁.heap.Ns mainGlobals mg) (hb : s₁.heap.Ns builtinsNs mb) (hbb : ∀ x : Str, x ≠ "__name__" → mb x = bootBuiltins x) (hlim : s₁.heap.NoLimit) (hg : s₁.gens = #[])
    (hT : ∀ p ∈ cs, s₁.heap.get? p.2 = some tabO) (C : ∀ p ∈ cs, PySem.W.CodeHd s₁.heap p.1 p.2)
    (hbm : ∃ (bm : Addr) (ob : Obj), mg "__builtins__" = some (.ref bm) ∧ bm ≠ builtinsNs ∧ s₁.heap.get? bm = some ob ∧ ob.cls = .type "module" ∧ ob.dict = some builtinsNs ∧ ob.data = .plain) (hr : Room k callerA)
    (F : ∀ base : Heap, K.In base → base.Ns mainGlobals mg → (∀ p ∈ cs, TabB base mg p.1 p.2) → FnG P w K mg base CX k fa fd [x] sp) (hbind : ∀ (s : Shared) (u : Value), BindsTo s fd ⟨[u], []⟩ [(x, u)])
    (hsp : sp [.ref a] H (fun v _ => v = .bl true) fun _ _ _ => False) (hCX : ∀ e s', CX [] H s₁ (fun _ _ _ => False) e s' → False) :
    codeAny (model P w) callerA (.call (.ref fa) ⟨[.ref a], []⟩) (fun r s' => r = .ok (.ret (.bool true)) ∧ OldK s₁.heap s'.heap ∧ s'.os = s₁.os ∧ AllBare s'.gens) s₁ := by
  have M := T.mod hns hb hbb hlim hK
  have e0 : Env0 P w K mg (hidT s₁.heap H) callerA [] s₁ H :=
    { frames := rfl, mod := M, bs := fun _ _ => of_hidT, bsz := Nat.le_of_eq (hidT_size _ _), funs := trivial, frf := by simp [frs], hok := hok, bare := .of_eq hg }
  have run := (F _ M.kin M.glob fun p hp => T.tab hns (hT p hp) (C p hp) hbm).run callerA [] s₁ H ⟨[.ref a], []⟩ [.ref a] [.ref a] _ _ rfl hr e0 (hbind s₁ (.ref a)) (.cons rfl .nil) hsp
  refine codeAny_mono run fun r s' z => ?_
  match r, z with
  | .error e, z => exact (hCX e s' z).elim
  | .ok (.ret u), z =>
    obtain ⟨v, H', os, bare, un, hok', rv, rfl⟩ := z
    obtain rfl : u = Value.bool true := rv
    exact ⟨rfl, T.old hok hok' un C, os, bare⟩
  | .ok .next, z => exact z.elim
  | .ok .brk, z => exact z.elim
  | .ok .cont, z => exact z.elim
end
/-- the abstract heap: the tables, and the script unless the head knows it -/
def start0 (K : PySem.W.Frag) (ts : List Addr) (a : Addr) (u : HO) : Hp := fun b => if b ∈ ts then some (.tbl #[]) else if b = a ∧ (K.lookup a).isNone = true then some u else none
theorem start0_tab {K : PySem.W.Frag} {ts : List Addr} {a b : Addr} {u : HO} (h : b ∈ ts) : start0 K ts a u b = some (.tbl #[]) := if_pos h
theorem start0_inv {K : PySem.W.Frag} {ts : List Addr} {a b : Addr} {u v : HO} (h : start0 K ts a u b = some v) : (b ∈ ts ∧ v = .tbl #[]) ∨ (b ∉ ts ∧ b = a ∧ K.lookup a = none ∧ v = u) := by
  unfold start0 at h
  split at h
  · exact .inl ⟨‹_›, (Option.some.inj h).symm⟩
  · split at h
    · rename_i n e
      exact .inr ⟨n, e.1, Option.isNone_iff_eq_none.mp e.2, (Option.some.inj h).symm⟩
    · cases h
/-- what is known of the law's promise at the head's heap h -/
def LawG (l : PySem.W.OpenLaw) (w : World) (K : PySem.W.Frag) (CX : CXT) (k n : Nat) (x : Str) (mg : Str → Option Value) (fa : Addr) (h : Heap) : Prop :=
  ∃ (fd : FuncData) (cs : List (Addr × Addr)) (sp : Sp), (∀ p ∈ cs, h.get? p.2 = some tabO ∧ K.lookup p.2 = none ∧ PySem.W.CodeHd h p.1 p.2) ∧ (∀ (s : Shared) (u : Value), BindsTo s fd ⟨[u], []⟩ [(x, u)]) ∧
    (∀ (H : Hp) (a : Addr) (ns : List Int), ns.length ≤ n → (∀ z ∈ ns, Builtin.Int.intBits z ≤ 1048576) → (∀ p ∈ cs, H p.2 = some (.tbl #[])) → SqL K H a (ns.map V.int) → sp [.ref a] H (fun v _ => v = .bl true) fun _ _ _ => False) ∧
    ∀ base : Heap, K.In base → base.Ns mainGlobals mg → (∀ p ∈ cs, TabB base mg p.1 p.2) → FnG l.prog w K mg base CX k fa fd [x] sp
theorem walkG {l : PySem.W.OpenLaw} {n k : Nat} {q : Program} {loose : List Str} {XP : (Str → Option Value) → Heap → Prop} {YP : World → Heap → Prop} {d : DefRec} {CX : World → CXT} {x : Str}
    (hn : l.most = some n) (hn2 : n ≤ sizeLine) (hdf : d.params.defaults = []) (hr : Room k callerA)
    (F : ∀ (w : World) (mg : Str → Option Value) (fa : Addr) (h : Heap), YP w h → h.Ns mainGlobals mg → mg d.name = some (.ref fa) → ∃ K : PySem.W.Frag, K.In h ∧ LawG l w K (CX w) k n x mg fa h)
    (hCX : ∀ (w : World) (H : Hp) (s : Shared) (e : Value) (s' : Shared), CX w [] H s (fun _ _ _ => False) e s' → False) : PySem.W.WalkO q loose XP YP l.row.toRowW d [] (fun f vs => PySem.call f vs) := by
  refine Att.attach_callB hn hdf fun w s₀ s₁ mg mb fa o pm cd doc a vs ns G Y ho hd hcd hmg ha hi hlen hbits hg => ?_
  obtain ⟨K, KX, fd, cs, sp, hcs, hb, hsp, hF⟩ := F w mg fa _ Y G.T.g hmg
  have rv := vals_ints hi
  have hz : ns.length ≤ sizeLine := Nat.le_trans hlen hn2
  have tab : ∀ b ∈ cs.map (·.2), s₁.heap.get? b = some tabO ∧ K.lookup b = none := fun b m => by
    obtain ⟨p, hp, rfl⟩ := List.mem_map.mp m
    exact ⟨(hcs p hp).1, (hcs p hp).2.1⟩
  have na : a ∉ cs.map (·.2) := fun m => by
    have z := Option.some.inj (ha.symm.trans (tab a m).1)
    cases congrArg Obj.cls z
  let ob : Obj := { cls := .type "list", data := .seq vs.toArray }
  let H := start0 K (cs.map (·.2)) a (.frz ob (.lst (ns.map V.int)))
  have T : Told (cs.map (·.2)) H s₁.heap := fun b u e => by
    rcases start0_inv e with ⟨m, rfl⟩ | ⟨_, rfl, _, rfl⟩
    · exact .inl ⟨m, rfl, (tab b m).1⟩
    · exact .inr ⟨_, _, rfl, ha, _, _, rfl⟩
  have hok : HOk l.prog w H s₁.heap := fun b u e => by
    rcases start0_inv e with ⟨m, rfl⟩ | ⟨_, rfl, _, rfl⟩
    · exact (tab b m).1
    · exact ⟨ha, by rw [List.length_map]; exact hz, vs, _, rv, ha⟩
  have hK : ∀ b o, K.lookup b = some o → s₁.heap.get? b = some o ∧ H b = none := fun b o e => ⟨KX b o e, by
    cases q : H b with
    | none => rfl
    | some u =>
      rcases start0_inv q with ⟨m, _⟩ | ⟨_, rfl, z, _⟩
      · rw [(tab b m).2] at e
        cases e
      · rw [z] at e
        cases e⟩
  have hS : SqL K H a (ns.map V.int) := by
    cases e : K.lookup a with
    | none => exact .inl (.inr ⟨ob, (if_neg na).trans (if_pos ⟨rfl, by rw [e]; rfl⟩)⟩)
    | some u =>
      obtain rfl := Option.some.inj (ha.symm.trans (KX a u e))
      exact .inr ⟨_, vs.toArray, _, e, rfl, rfl, rfl, by rw [List.size_toArray, hi.length]; exact hz, by simpa using rv⟩
  exact T.call hok hK G.T.g G.T.b G.T.builtins G.T.nolimit hg (fun p hp => (hcs p hp).1) (fun p hp => (hcs p hp).2.2) G.T.bmain hr hF hb
    (hsp H a ns hlen hbits (fun p hp => start0_tab (List.mem_map.mpr ⟨p, hp, rfl⟩)) hS) fun e s' => hCX w H s₁ e s'
end EndG
/-! ## the law's end where it is known that so many tokens are out -/
namespace EndN
open PySem PySem.W PySem.Spec PyProof.Rows L2 LamX EndG
section
variable {P : Program} {w : World} {K : PySem.W.Frag} {mg mb : Str → Option Value} {H : Hp} {n0 : Nat}
theorem callN {CX : CXT} {k : Nat} {fa a : Addr} {cs : List (Addr × Addr)} {fd : FuncData} {x : Str} {sp : Sp} {s₁ : Shared} (T : Told (cs.map (·.2)) H s₁.heap) (hok : HOk P w H s₁.heap) (hn : n0 ≤ s₁.toks)
    (hK : ∀ a o, K.lookup a = some o → s₁.heap.get? a = some o ∧ H a = none) (hns : s₁.heap.Ns mainGlobals mg) (hb : s₁.heap.Ns builtinsNs mb) (hbb : ∀ x : Str, x ≠ "__name__" → mb x = bootBuiltins x) (hlim : s₁.heap.NoLimit) (hg : s₁.gens = #[])
    (hT : ∀ p ∈ cs, s₁.heap.get? p.2 = some tabO) (C : ∀ p ∈ cs, PySem.W.CodeHd s₁.heap p.1 p.2)
    (hbm : ∃ (bm : Addr) (ob : Obj), mg "__builtins__" = some (.ref bm) ∧ bm ≠ builtinsNs ∧ s₁.heap.get? bm = some ob ∧ ob.cls = .type "module" ∧ ob.dict = some builtinsNs ∧ ob.data = .plain) (hr : Room k callerA)
    (F : ∀ base : Heap, K.In base → base.Ns mainGlobals mg → (∀ p ∈ cs, TabB base mg p.1 p.2) → FnN n0 P w K mg base CX k fa fd [x] sp) (hbind : ∀ (s : Shared) (u : Value), BindsTo s fd ⟨[u], []⟩ [(x, u)])
    (hsp : sp [.ref a] H (fun v _ => v = .bl true) fun _ _ _ => False) (hCX : ∀ e s', CX [] H s₁ (fun _ _ _ => False) e s' → False) :
    codeAny (model P w) callerA (.call (.ref fa) ⟨[.ref a], []⟩) (fun r s' => r = .ok (.ret (.bool true)) ∧ OldK s₁.heap s'.heap ∧ s'.os = s₁.os ∧ AllBare s'.gens) s₁ := by
  have M := T.mod hns hb hbb hlim hK
  have e0 : Env0 P w K mg (hidT s₁.heap H) callerA [] s₁ H :=
    { frames := rfl, mod := M, bs := fun _ _ => of_hidT, bsz := Nat.le_of_eq (hidT_size _ _), funs := trivial, frf := by simp [frs], hok := hok, bare := .of_eq hg }
  have go := (F _ M.kin M.glob fun p hp => T.tab hns (hT p hp) (C p hp) hbm).run callerA [] s₁ H ⟨[.ref a], []⟩ [.ref a] [.ref a] _ _ hn hr e0 (hbind s₁ (.ref a)) (.cons rfl .nil) hsp
  refine codeAny_mono go fun r s' z => ?_
  match r, z with
  | .error e, z => exact (hCX e s' z).elim
  | .ok (.ret u), z =>
    obtain ⟨v, H', os, bare, un, hok', rv, rfl⟩ := z
    obtain rfl : u = Value.bool true := rv
    exact ⟨rfl, T.old hok hok' un C, os, bare⟩
  | .ok .next, z => exact z.elim
  | .ok .brk, z => exact z.elim
  | .ok .cont, z => exact z.elim
end
/-- what is known of the law's promise at the head's heap h -/
def LawN (n0 : Nat) (l : PySem.W.OpenLaw) (w : World) (K : PySem.W.Frag) (CX : CXT) (k n : Nat) (x : Str) (mg : Str → Option Value) (fa : Addr) (h : Heap) : Prop :=
  ∃ (fd : FuncData) (cs : List (Addr × Addr)) (sp : Sp), (∀ p ∈ cs, h.get? p.2 = some tabO ∧ K.lookup p.2 = none ∧ PySem.W.CodeHd h p.1 p.2) ∧ (∀ (s : Shared) (u : Value), BindsTo s fd ⟨[u], []⟩ [(x, u)]) ∧
    (∀ (H : Hp) (a : Addr) (ns : List Int), ns.length ≤ n → (∀ z ∈ ns, Builtin.Int.intBits z ≤ 1048576) → (∀ p ∈ cs, H p.2 = some (.tbl #[])) → SqL K H a (ns.map V.int) → sp [.ref a] H (fun v _ => v = .bl true) fun _ _ _ => False) ∧
    ∀ base : Heap, K.In base → base.Ns mainGlobals mg → (∀ p ∈ cs, TabB base mg p.1 p.2) → FnN n0 l.prog w K mg base CX k fa fd [x] sp
/-- the law's run at a laid script -/
theorem runN {l : PySem.W.OpenLaw} {n k n0 : Nat} {q : Program} {loose : List Str} {XP : (Str → Option Value) → Heap → Prop} {CX : World → CXT} {x : Str} {w : World} {s₀ s₁ : Shared} {mg mb : Str → Option Value} {K : PySem.W.Frag} {fa : Addr}
    {vals : List Value} {args : List WData} (hn : l.most = some n) (hn2 : n ≤ sizeLine) (hr : Room k callerA) (G : Ground q loose [] XP w s₀ mg mb s₁.heap) (KX : K.In s₁.heap) (L : LawN n0 l w K (CX w) k n x mg fa s₁.heap) (ht : n0 ≤ s₁.toks)
    (hg : s₁.gens = #[]) (hpre : l.row.toRowW.claim.pre args = true) (hlay : WData.layableAll args = true) (hwl : WellAll w.params s₁.heap vals args)
    (hCX : ∀ (w : World) (H : Hp) (s : Shared) (e : Value) (s' : Shared), CX w [] H s (fun _ _ _ => False) e s' → False) :
    codeAny (model l.prog w) callerA (.call (.ref fa) ⟨vals, []⟩) (GoodWG l.row.toRowW.claim (classAt s₀.heap) (ExcName.means s₀.heap) args s₁) s₁ := by
  obtain ⟨a, vs, ns, rfl, rfl, ha, hi, hlen⟩ := Att.script_of hn hpre hwl
  have hbits := Att.script_bits hlay
  obtain ⟨fd, cs, sp, hcs, hb, hsp, hF⟩ := L
  have rv := vals_ints hi
  have hz : ns.length ≤ sizeLine := Nat.le_trans hlen hn2
  have tab : ∀ b ∈ cs.map (·.2), s₁.heap.get? b = some tabO ∧ K.lookup b = none := fun b m => by
    obtain ⟨p, hp, rfl⟩ := List.mem_map.mp m
    exact ⟨(hcs p hp).1, (hcs p hp).2.1⟩
  have na : a ∉ cs.map (·.2) := fun m => by
    have z := Option.some.inj (ha.symm.trans (tab a m).1)
    cases congrArg Obj.cls z
  let ob : Obj := { cls := .type "list", data := .seq vs.toArray }
  let H := start0 K (cs.map (·.2)) a (.frz ob (.lst (ns.map V.int)))
  have T : Told (cs.map (·.2)) H s₁.heap := fun b u e => by
    rcases start0_inv e with ⟨m, rfl⟩ | ⟨_, rfl, _, rfl⟩
    · exact .inl ⟨m, rfl, (tab b m).1⟩
    · exact .inr ⟨_, _, rfl, ha, _, _, rfl⟩
  have hok : HOk l.prog w H s₁.heap := fun b u e => by
    rcases start0_inv e with ⟨m, rfl⟩ | ⟨_, rfl, _, rfl⟩
    · exact (tab b m).1
    · exact ⟨ha, by rw [List.length_map]; exact hz, vs, _, rv, ha⟩
  have hK : ∀ b o, K.lookup b = some o → s₁.heap.get? b = some o ∧ H b = none := fun b o e => ⟨KX b o e, by
    cases q : H b with
    | none => rfl
    | some u =>
      rcases start0_inv q with ⟨m, _⟩ | ⟨_, rfl, z, _⟩
      · rw [(tab b m).2] at e
        cases e
      · rw [z] at e
        cases e⟩
  have hS : SqL K H a (ns.map V.int) := by
    cases e : K.lookup a with
    | none => exact .inl (.inr ⟨ob, (if_neg na).trans (if_pos ⟨rfl, by rw [e]; rfl⟩)⟩)
    | some u =>
      obtain rfl := Option.some.inj (ha.symm.trans (KX a u e))
      exact .inr ⟨_, vs.toArray, _, e, rfl, rfl, rfl, by rw [List.size_toArray, hi.length]; exact hz, by simpa using rv⟩
  refine codeAny_mono (callN T hok ht hK G.T.g G.T.b G.T.builtins G.T.nolimit hg (fun p hp => (hcs p hp).1) (fun p hp => (hcs p hp).2.2) G.T.bmain hr hF hb
    (hsp H a ns hlen hbits (fun p hp => start0_tab (List.mem_map.mpr ⟨p, hp, rfl⟩)) hS) fun e s' => hCX w H s₁ e s') fun r s' z => ?_
  obtain ⟨rfl, z2, z3, z4⟩ := z
  exact ⟨.inl ⟨.bool true, .bool true, [], rfl, fun _ => rfl, .bool true, Att.post_true l _, fun _ => ⟨List.Pairwise.nil, fun _ hm => (nomatch hm)⟩⟩, z2, z3, z4⟩
/-- the law holds, the top's tokens known -/
theorem holdsN {l : PySem.W.OpenLaw} {n k n0 : Nat} {q : Program} {loose : List Str} {Xt : Shared → Bool} {XP : (Str → Option Value) → Heap → Prop} {α : Type} {Yf : Shared → α} {Ya : World → α} {YP : World → Heap → Prop} {d : DefRec} {N : Nat} {CX : World → CXT} {x : Str}
    (left : LeftO l.prog q loose Xt Yf Ya N) (hY : ∀ w s, Yf s = Ya w → YP w s.heap ∧ n0 ≤ s.toks) (hYk : ∀ w h h', YP w h → (∀ b o, h.get? b = some o → h'.get? b = some o) → YP w h')
    (hX : ∀ s, Xt s = true → XP (s.heap.nsMap mainGlobals) s.heap) (hXk : ∀ mg h h', XP mg h → (∀ b o, h.get? b = some o → h'.get? b = some o) → XP mg h')
    (hdef : defOf q l.row.name = some (d, [])) (hp : l.prog.theDef l.row.name = some (d.params, d.body, d.scope)) (hk : kwWritten? d.params.kwonlyargs d.params.kw_defaults = some []) (hdf : d.params.defaults = [])
    (hwr : (!l.row.writes || l.row.records.isEmpty) = true) (k1 : l.row.wellSaid = true) (ok : (chainsOk q && opensWell l.row.prog && (frees l.row.toRowW && l.row.within.isEmpty)) = true) (hb : l.row.prog.bare) (hw : l.row.toRowW.promised)
    (hn : l.most = some n) (hn2 : n ≤ sizeLine) (hr : Room k callerA)
    (F : ∀ (w : World) (mg : Str → Option Value) (fa : Addr) (h : Heap), YP w h → h.Ns mainGlobals mg → mg d.name = some (.ref fa) → ∃ K : PySem.W.Frag, K.In h ∧ LawN n0 l w K (CX w) k n x mg fa h)
    (hCX : ∀ (w : World) (H : Hp) (s : Shared) (e : Value) (s' : Shared), CX w [] H s (fun _ _ _ => False) e s' → False) : l.row.Holds := by
  obtain ⟨okA, okB⟩ := Bool.and_eq_true_iff.mp ok
  obtain ⟨hch, o1⟩ := Bool.and_eq_true_iff.mp okA
  obtain ⟨k5, k6⟩ := Bool.and_eq_true_iff.mp okB
  obtain ⟨hsame, hu, ha, hap, hm⟩ := frees_parts k5
  have ident := ident_freeW (r := l.row.toRowW) hu ha hap
  have hwi : l.row.toRowW.claim.within = [] := List.isEmpty_iff.mp k6
  refine ⟨k1, hw, ⟨hb, o1, by rfl⟩, hw.witness, fun w => ⟨(left.behind hX hch w).1, fun sa hsa => ?_⟩⟩
  obtain ⟨sf, hf, hg0, s, hT, hz, hgens, hg, G0, y⟩ := (left.behind hX hch w).2 sa hsa
  have hgens : s.gens = #[] := Array.eq_empty_of_size_eq_zero (beq_iff_eq.mp hgens)
  have RF : RecFacts l.row.toRowW.records s.heap := recFacts_nil rfl
  refine ⟨sf, hf, hg0, s, hT, fun m hm => ?_, RF.1, RF.2.1, ClaimW.callFrom_of_specG (c := l.row.toRowW.claim) hz hgens fun args hpre hlay ord hord => ?_⟩
  · obtain rfl : m = l.row.name := by
      split at hm <;> simp_all
    exact pinned_of_view hg G0 hdef hp hk
  · have G : Ground q loose l.row.toRowW.records XP w s _ _ s.heap := RF.ground G0
    obtain ⟨⟨vs, s₁⟩, hl⟩ := Option.isSome_iff_exists.mp (layAllW_isSome (P := w.params) (ord := ord) G.has args l.row.toRowW.args s (pre_splitW hpre).1)
    have gr := layAllW_grows _ _ _ hl
    obtain ⟨as, hrd, hin, hold⟩ := reads_layAllW hord _ _ _ hl hlay s₁.heap (fun _ _ e => e)
    have L : Laid l.row.toRowW.records w s s₁ args vs as := ⟨⟨ord, hord, hl⟩, hrd, hin, hold, gr.keeps, gr.alike.1.trans hgens, gr.alike.2.2.1⟩
    have G1 := G.keeps hXk gr.keeps
    obtain ⟨y1, y2⟩ := hY w s y
    obtain ⟨a, o, pm, cd, doc, dV, kV, h1, h2, h3, h4, h5⟩ := G1.fn hdef
    obtain ⟨K, KX, LN⟩ := F w _ a _ (hYk _ _ _ y1 gr.keeps) G1.T.g (by rw [defOf_name hdef]; exact h1)
    have C := runN (n0 := n0) hn hn2 hr G1 KX LN (Nat.le_trans y2 gr.toks) L.gens hpre hlay L.well hCX
    have fin := fun (r : Result) (s' : Shared) (g : GoodWG l.row.toRowW.claim (classAt s.heap) (ExcName.means s.heap) args s₁ r s') => g.laid (c := l.row.toRowW.claim) hsame hwi ident L
    refine ⟨vs, s₁, hl, wpAny_bind (wpAny_nsGet G1.T.g ?_)⟩
    rw [h1]
    exact wpAny_bind (wpAny_mono (enter_call C) (fun v s' g => wpAny_pure ⟨_, rfl, (fin _ s' g).1, (fin _ s' g).2.1, (fin _ s' g).2.2, fun z => ⟨namesKept_of hT hg _ gr.keeps g.2.1.old, noTable hwr z⟩⟩)
      fun e s' g => ⟨(fin _ s' g).1, (fin _ s' g).2.1, (fin _ s' g).2.2, fun z => ⟨namesKept_of hT hg _ gr.keeps g.2.1.old, noTable hwr z⟩⟩)
end EndN
/-! ## texts as lists of signs -/
namespace L2
open PySem PySem.Spec PyProof.Rows
abbrev Sg (l : List Nat) : Str := ⟨l.toArray⟩
theorem Sg_len (l : List Nat) : (Sg l).length = l.length := by simp [Str.length]
theorem Sg_tl (l : List Nat) : (Sg l).cps.toList = l := rfl
theorem Sg_of (z : Str) : Sg z.cps.toList = z := by
  cases z
  rfl
theorem Sg_app (a b : List Nat) : Sg a ++ Sg b = Sg (a ++ b) := Str.ext' (by simp [Str.cps_append])
theorem Sg_inj {a b : List Nat} (h : Sg a = Sg b) : a = b := by
  have e := congrArg (fun z : Str => z.cps.toList) h
  exact e
abbrev big : Nat := 200000
def rInSg : R2 := fun x y H Q => ∃ (c : Nat) (z : Str), x = .str ⟨#[c]⟩ ∧ y = .str z ∧ Q (.bl (decide (c ∈ z.cps.toList))) H
def rNotInSg : R2 := fun x y H Q => ∃ (c : Nat) (z : Str), x = .str ⟨#[c]⟩ ∧ y = .str z ∧ Q (.bl (!decide (c ∈ z.cps.toList))) H
def rAddS : R2 := fun x y H Q => ∃ i j, x = .str i ∧ y = .str j ∧ i.length + j.length ≤ sizeLine ∧ Q (.str (i ++ j)) H
def rFind3 : V → List V → Hp → VK → Prop := fun x xs H Q => ∃ (a b : Str) (i : Int), x = .str a ∧ xs = [.str b, .int i] ∧ Q (.int (Txt.find3 a b i)) H
def rCount1 : V → List V → Hp → VK → Prop := fun x xs H Q => ∃ a b, x = .str a ∧ xs = [.str b] ∧ Q (.int (Txt.count a b)) H
def rIsdig : V → List V → Hp → VK → Prop := fun x xs H Q => ∃ a, x = .str a ∧ xs = [] ∧ True ∧ Q (.bl (Txt.isdigit a)) H
section
variable {X : Cx} {H : Hp} {Q : VK} {t u : List Nat} {a b c : Nat} {z : Str}
theorem op_inSg : OpR X (compareOp .In) rInSg := op_in_sign
theorem op_notInSg : OpR X (compareOp .NotIn) rNotInSg := op_notIn_sign
theorem op_addS : OpR X (binaryOp .Add) rAddS := op_add_str
theorem mt_find3N : MtR X "str.find" rFind3 := mt_find3
theorem mt_countN : MtR X "str.count" rCount1 := mt_count
theorem mt_isdigN : MtR X "str.isdigit" rIsdig := mt_isdigit
theorem w_inSg (q : Q (.bl (decide (c ∈ z.cps.toList))) H) : rInSg (.str (Sg [c])) (.str z) H Q := ⟨c, z, rfl, rfl, q⟩
theorem w_notInSg (q : Q (.bl (!decide (c ∈ z.cps.toList))) H) : rNotInSg (.str (Sg [c])) (.str z) H Q := ⟨c, z, rfl, rfl, q⟩
theorem w_addS {x y : Str} (h : x.length + y.length ≤ sizeLine) (q : Q (.str (x ++ y)) H) : rAddS (.str x) (.str y) H Q := ⟨x, y, rfl, rfl, h, q⟩
theorem size_big : big ≤ sizeLine := by decide
theorem ixS_nat (hc : t[a]? = some c) : atI (Sg t).cps.toList (a : Int) = some c := atI_nat hc
theorem w_ixSg (h : t.length ≤ big) (hc : t[a]? = some c) (q : Q (.str (Sg [c])) H) : rIxS (.str (Sg t)) (.int (a : Int)) H Q := ⟨Sg t, a, c, rfl, rfl, by rw [Sg_len]; exact Nat.le_trans h size_big, ixS_nat hc, q⟩
theorem cut_nat (t : List Nat) (a b : Nat) : cutS (Sg t) (some (a : Int)) (some (b : Int)) = Sg ((t.drop a).take (b - a)) := by
  unfold cutS
  rw [HT.sIx_nat, HT.sIx_nat, Sg_len]
  show Sg ((t.drop (min a t.length)).take (min b t.length - min a t.length)) = _
  congr 1
  by_cases h : a ≤ t.length
  · rw [Nat.min_eq_left h]
    by_cases h2 : b ≤ t.length
    · rw [Nat.min_eq_left h2]
    · rw [Nat.min_eq_right (by omega), List.take_of_length_le (by rw [List.length_drop]; omega), List.take_of_length_le (by rw [List.length_drop]; omega)]
  · rw [List.drop_eq_nil_of_le (by omega), List.drop_eq_nil_of_le (by omega)]
    simp
theorem w_slSg (h : t.length ≤ big) (q : Q (.str (Sg ((t.drop a).take (b - a)))) H) : rSlS (.str (Sg t)) (some (a : Int)) (some (b : Int)) H Q := ⟨Sg t, rfl, by rw [Sg_len]; exact Nat.le_trans h size_big, by rw [cut_nat]; exact q⟩
theorem w_lenSg (h : t.length ≤ big) (q : Q (.int (t.length : Int)) H) : rLenS [.str (Sg t)] H Q := ⟨Sg t, rfl, by rw [Sg_len]; exact Nat.le_trans h size_big, by rw [Sg_len]; exact q⟩
/-- from a on, up to the first sign c -/
def upTo (c : Nat) (t : List Nat) : List Nat := t.takeWhile fun x => !decide (x = c)
theorem upTo_cons {x : Nat} {r : List Nat} (h : x ≠ c) : upTo c (x :: r) = x :: upTo c r := by
  unfold upTo
  rw [List.takeWhile_cons, decide_eq_false h] <;> rfl
theorem upTo_hit {r : List Nat} : upTo c (c :: r) = [] := by
  unfold upTo
  rw [List.takeWhile_cons, decide_eq_true rfl] <;> rfl
theorem upTo_first : ∀ {t : List Nat} {k : Nat}, t[k]? = some c → (∀ j : Nat, j < k → t[j]? ≠ some c) → (upTo c t).length = k
  | [], _, h, _ => by cases h
  | x :: r, 0, h, _ => by
    obtain rfl : x = c := Option.some.inj h
    rw [upTo_hit] <;> rfl
  | x :: r, k + 1, h, n => by
    have hx : x ≠ c := fun e => n 0 (Nat.succ_pos _) (by rw [e] <;> rfl)
    rw [upTo_cons hx, List.length_cons, upTo_first (t := r) (k := k) h fun j hj => n (j + 1) (Nat.succ_lt_succ hj)]
theorem upTo_none : ∀ {t : List Nat}, (∀ j : Nat, t[j]? ≠ some c) → upTo c t = t
  | [], _ => rfl
  | x :: r, n => by
    have hx : x ≠ c := fun e => n 0 (by rw [e] <;> rfl)
    rw [upTo_cons hx, upTo_none (t := r) fun j => n (j + 1)]
theorem find_from (t : List Nat) (c a : Nat) (ha : a ≤ t.length) : (Txt.find3 (Sg t) (Sg [c]) (a : Int) = -1 ∧ a + (upTo c (t.drop a)).length = t.length) ∨
    (0 ≤ Txt.find3 (Sg t) (Sg [c]) (a : Int) ∧ Txt.find3 (Sg t) (Sg [c]) (a : Int) = ((a + (upTo c (t.drop a)).length : Nat) : Int)) := by
  have fi : PySem.fromIndex (Sg t).length (a : Int) = a := by
    unfold PySem.fromIndex
    rw [if_neg (by omega)]
    omega
  have gd : ∀ {v : Nat}, v < t.length → (t[v]? = some c ↔ (Sg t).cps.getD v 0 = c) := fun {v} hv => by
    constructor
    · exact fun h => PySem.StrLaws.getD_of_getElem? (x := Sg t) h
    · exact fun h => PySem.StrLaws.getElem?_of_getD (x := Sg t) (by rw [Sg_len]; exact hv) h
  rcases PySem.StrLaws.find3_spec (Sg t) c (a : Int) with ⟨h1, h2⟩ | ⟨k, h1, h2, h3, h4, h5⟩
  · refine .inl ⟨h1, ?_⟩
    rw [fi] at h2
    rw [upTo_none, List.length_drop]
    · omega
    · intro j hj
      rw [List.getElem?_drop] at hj
      have hlt : a + j < t.length := (List.getElem?_eq_some_iff.mp hj).1
      exact h2 (a + j) (Nat.le_add_right _ _) (by rw [Sg_len]; exact hlt) ((gd hlt).mp hj)
  · refine .inr ⟨by rw [h1]; omega, ?_⟩
    rw [fi] at h2 h5
    rw [Sg_len] at h3
    rw [h1, upTo_first (k := k - a)]
    · omega
    · rw [List.getElem?_drop, show a + (k - a) = k by omega]
      exact (gd h3).mpr h4
    · intro j hj e
      rw [List.getElem?_drop] at e
      have hlt : a + j < t.length := (List.getElem?_eq_some_iff.mp e).1
      exact h5 (a + j) (Nat.le_add_right _ _) (by omega) ((gd hlt).mp e)
end
theorem w_callS {sp : Sp} {E : L2.St → XK} {tA : TA} {σ : L2.St} {H : Hp} {Q : VK} (q : tA σ H fun vs H1 => sp vs H1 Q (E σ)) : tCallS sp E tA σ H Q := q
theorem w_repG {z : Str} {to : TE} {σ : L2.St} {H : Hp} {Q : VK} (q : to σ H fun v H1 => ∃ x, v = .str x ∧ x.length + (x.length + 1) * z.length ≤ 16777216 ∧ Q (.str (Txt.replace x (z ++ z) z)) H1) : tRepG z to σ H Q := q
theorem w_rng2 {tA : TA} {σ : L2.St} {H : Hp} {R : It → Hp → Prop} (q : tA σ H fun vs H1 => ∃ i j : Int, vs = [.int i, .int j] ∧ (-(2 ^ 62) ≤ i ∧ i < 2 ^ 62 ∧ -(2 ^ 62) ≤ j ∧ j < 2 ^ 62) ∧ R (Itr i (j - i).toNat) H1) : iRng2 tA σ H R := q
theorem w_aug {i : Nat} {te : TE} {σ : L2.St} {H : Hp} {D : Ends} {x : Int} (h : σ[i]? = some (some (.int x))) (q : te σ H fun y H1 => ∃ j, y = .int j ∧ D.nx (σ.set i (some (.int (x + j)))) H1) : tAug i te (ipI fun i j => i + j) D σ H := by
  refine ⟨_, h, ?_⟩
  have e : (fun y H1 => ∃ j, y = V.int j ∧ D.nx (σ.set i (some (.int (x + j)))) H1) = fun y H1 => ipI (fun i j => i + j) (.int x) y H1 fun z H2 => D.nx (σ.set i (some z)) H2 := by
    funext y H1
    refine propext ⟨fun ⟨j, e1, e2⟩ => ⟨x, j, rfl, e1, e2⟩, fun ⟨i', j, e0, e1, e2⟩ => ?_⟩
    cases e0
    exact ⟨j, e1, e2⟩
  rw [e] at q
  exact q
theorem drop_at {t : List Nat} {a c : Nat} (h : t[a]? = some c) : t.drop a = c :: t.drop (a + 1) := by
  obtain ⟨hl, e⟩ := List.getElem?_eq_some_iff.mp h
  rw [List.drop_eq_getElem_cons hl, e]
theorem at_lt {t : List Nat} {a : Nat} (h : a < t.length) : ∃ c, t[a]? = some c := ⟨t[a], List.getElem?_eq_getElem h⟩
end L2
local macro_rules | `(tactic| walk_at "w1") => `(tactic| first
  | ((with_reducible refine' L2.w_var ?h ?q); (case h => rfl))
  | with_reducible refine L2.w_c ?_ | with_reducible refine L2.w_cons ?_ | with_reducible refine L2.w_nil ?_
  | with_reducible refine L2.w_op ?_ | with_reducible refine L2.w_un ?_ | with_reducible refine L2.w_I0 ?_ | with_reducible refine L2.w_U ?_ | with_reducible refine L2.w_eqI ?_ | with_reducible refine L2.w_neI ?_
  | with_reducible refine L2.w_test ?_ | with_reducible refine L2.w_B ?_ | with_reducible refine L2.w_bl ?_ | with_reducible refine L2.w_t ?_ | with_reducible refine L2.w_f ?_
  | with_reducible refine L2.w_and ?_ | with_reducible refine L2.w_or ?_ | with_reducible refine L2.w_not ?_ | with_reducible refine L2.w_andV ?_ | with_reducible refine L2.w_orV ?_ | with_reducible refine L2.w_notV ?_
  | with_reducible refine L2.w_ifE ?_ | with_reducible refine L2.w_chain ?_ | with_reducible refine L2.w_isN ?_ | with_reducible refine L2.w_notN ?_
  | with_reducible refine L2.w_seq ?_ | with_reducible refine L2.w_asg ?_ | with_reducible refine L2.w_name ?_ | with_reducible refine L2.w_ret ?_ | with_reducible refine L2.w_retN ?_ | with_reducible refine L2.w_ifS ?_ | with_reducible refine L2.w_next ?_ | with_reducible refine L2.w_drop ?_
  | with_reducible refine L2.w_tup ?_ | with_reducible refine L2.w_lst ?_ | ((with_reducible refine' L2.w_aug ?h ?q); (case h => rfl)) | with_reducible refine L2.w_callS ?_ | with_reducible refine L2.w_repG ?_ | with_reducible refine L2.w_rng2 ?_ | with_reducible refine L2.w_inSg ?_ | with_reducible refine L2.w_notInSg ?_ | ((with_reducible refine' L2.w_slSg ?h ?q); (case h => assumption)) | ((with_reducible refine' L2.w_lenSg ?h ?q); (case h => assumption)) | ((with_reducible refine' L2.w_ixSg ?h ?hc ?q); (case h => assumption); (case hc => assumption)) | with_reducible refine L2.w_call ?_ | with_reducible refine L2.w_CB ?_
  | with_reducible refine L2.w_int1 ?_ | with_reducible refine L2.w_intb ?_ | with_reducible refine L2.w_abs ?_
  | ((with_reducible refine' L2.w_I ?h ?q); (case h => first | (show (0 : Int) < _; decide) | exact ⟨by decide, by decide⟩ | exact .inr ⟨by decide, by decide⟩ | exact .inl ⟨by decide, by decide⟩ | exact ⟨by decide, by decide, by decide⟩ | exact .inl ⟨by omega, by omega⟩))
  | with_reducible refine L2.w_for ?_ | with_reducible refine L2.w_rng1 ?_ | with_reducible refine L2.w_itL ?_ | with_reducible refine L2.w_itT ?_ | with_reducible refine L2.w_yes ?_
  | with_reducible refine L2.w_nt ?_ | with_reducible refine L2.w_nf ?_ | with_reducible refine L2.w_fld ?_ | with_reducible refine L2.w_BM ?_ | with_reducible refine L2.w_sl ?_ | with_reducible refine L2.w_noPart ?_ | with_reducible refine L2.w_part ?_ | with_reducible refine L2.w_in ?_)
local macro_rules | `(tactic| walk_at "w") => `(tactic| repeat (walk_at "w1"))
namespace L2
open PySem PySem.Spec PyProof.Rows
theorem w_itS {te : TE} {σ : L2.St} {H : Hp} {R : It → Hp → Prop} (q : te σ H fun v H1 => ∃ x, v = .str x ∧ R (Its x) H1) : iStr te σ H R := q
theorem lc_str {x : List Nat} {g : TG} {tt : TT} {te : TE} {vs : List Nat} {σ : L2.St} {H1 : Hp} {D : Addr} {Qd : Hp → Prop} (Pv : Nat → Hp → Prop) (h0 : Pv 0 (upd H1 D (.lst [])))
    (hs : ∀ (i c : Nat) H, x[i]? = some c → Pv i H → g (.str (Sg [c])) (wipe σ vs) H fun σ2 H2 => wipe σ2 vs = wipe σ vs ∧ tt σ2 H2 fun b H3 =>
      if b = true then te σ2 H3 fun y H4 => ∃ acc, H4 D = some (.lst acc) ∧ acc.length < sizeLine ∧ Pv (i + 1) (upd H4 D (.lst (acc ++ [y]))) else Pv (i + 1) H3) (hd : ∀ H, Pv x.length H → Qd H) :
    ∃ W : Nat → Nat → Hp → Prop, (∃ m, W 0 m (upd H1 D (.lst []))) ∧ ∀ i m H, W i m H →
      ((Its (Sg x)).stop i H ∧ Qd H) ∨ ((Its (Sg x)).go i H ∧ ∃ Nx : Hp → Prop, (∀ H', Nx H' → ∃ m', m' < m ∧ W (i + 1) m' H') ∧ ∀ v H', (Its (Sg x)).yld i H v H' → g v (wipe σ vs) H' fun σ2 H2 => wipe σ2 vs = wipe σ vs ∧ tt σ2 H2 fun b H3 =>
        if b = true then te σ2 H3 fun y H4 => ∃ acc, H4 D = some (.lst acc) ∧ acc.length < sizeLine ∧ Nx (upd H4 D (.lst (acc ++ [y]))) else Nx H3) := by
  refine ⟨fun i m H => m = x.length - i ∧ i ≤ x.length ∧ Pv i H, ⟨_, rfl, Nat.zero_le _, h0⟩, ?_⟩
  rintro i m H ⟨rfl, hi, p⟩
  by_cases h : i < x.length
  · refine .inr ⟨by show i < x.toArray.size; simpa using h, Pv (i + 1), fun H' p' => ⟨_, by omega, rfl, h, p'⟩, fun v H' y => ?_⟩
    obtain ⟨rfl, c, hc, rfl⟩ := y
    exact hs i c _ (by simpa using hc) p
  · obtain rfl : i = x.length := by omega
    exact .inl ⟨by show x.toArray.size ≤ x.length; simp, hd H p⟩
/-- [p(sign) for sign in text] -/
theorem lc_bools {te tb : TE} {k : Nat} {w : List Nat} {p : Nat → Bool} {σ : L2.St} {H : Hp} {Q : VK} (hz : w.length ≤ big) (hx : ∀ R : It → Hp → Prop, R (Its (Sg w)) H → iStr te σ H R)
    (hw : ∀ v : V, wipe ((wipe σ [k]).set k (some v)) [k] = wipe σ [k]) (hb : ∀ (c : Nat) (H : Hp) (Q : VK), Q (.bl (p c)) H → tb ((wipe σ [k]).set k (some (.str (Sg [c])))) H Q)
    (q : ∀ a H', Same H H' → H' a = some (.lst ((w.map p).map V.bl)) → Q (.ref a) H') : tLc (iStr te) (gName k) tYes tb [k] σ H Q := by
  refine w_lc (hx _ fun D hD => lc_str (Pv := fun i H' => Same H H' ∧ ∃ bs, H' D = some (.lst (bs.map V.bl)) ∧ bs = (w.take i).map p) ⟨sameUpd hD, [], upd_same, by simp⟩ ?_ ?_)
  · rintro i c H1 hc ⟨s1, bs, h1, rfl⟩
    have hi : i < w.length := (List.getElem?_eq_some_iff.mp hc).1
    refine w_name ⟨hw _, w_yes (w_t (hb c H1 _ ⟨_, h1, ?_, fun b o e => ?_, _, upd_same.trans ?_, rfl⟩))⟩
    · rw [List.length_map, List.length_map, List.length_take]
      have := size_big
      have : big < sizeLine := by decide
      omega
    · by_cases hb : b = D
      · rw [hb, hD] at e
        cases e
      · rw [upd_ne hb]
        exact s1 b o e
    · have e : (w.take (i + 1)).map p = (w.take i).map p ++ [p c] := by
        rw [List.take_add_one, hc]
        simp
      rw [e, List.map_append]
      rfl
  · rintro H1 ⟨s1, bs, h1, rfl⟩
    refine q D H1 s1 ?_
    rw [h1, List.take_length]
end L2
namespace K01
open PySem L2
def top (i : Nat) : Stmt := PySem.Challenge.pw_unseenheap_k01_words_of_a_text.main.body.getD i (.Pass ⟨0, 0, 0, 0⟩)
abbrev s_is_name : Stmt := top 15
abbrev N_is_name : List Str := ["thing", "sign"]
abbrev P_is_name : List Str := ["thing"]
theorem sc_is_name : FnScope N_is_name P_is_name (defScope s_is_name) := ⟨rfl, rfl, rfl, by decide +kernel, rfl, by decide +kernel, by decide +kernel⟩
abbrev s_is_number_word : Stmt := top 16
abbrev N_is_number_word : List Str := ["word", "sign"]
abbrev P_is_number_word : List Str := ["word"]
theorem sc_is_number_word : FnScope N_is_number_word P_is_number_word (defScope s_is_number_word) := ⟨rfl, rfl, rfl, by decide +kernel, rfl, by decide +kernel, by decide +kernel⟩
abbrev s_stretch_end : Stmt := top 17
abbrev N_stretch_end : List Str := ["text", "at"]
abbrev P_stretch_end : List Str := ["text", "at"]
theorem sc_stretch_end : FnScope N_stretch_end P_stretch_end (defScope s_stretch_end) := ⟨rfl, rfl, rfl, by decide +kernel, rfl, by decide +kernel, by decide +kernel⟩
abbrev s_line_end : Stmt := top 18
abbrev N_line_end : List Str := ["text", "at", "end"]
abbrev P_line_end : List Str := ["text", "at"]
theorem sc_line_end : FnScope N_line_end P_line_end (defScope s_line_end) := ⟨rfl, rfl, rfl, by decide +kernel, rfl, by decide +kernel, by decide +kernel⟩
abbrev s_are_signs : Stmt := top 19
abbrev N_are_signs : List Str := ["text", "sign"]
abbrev P_are_signs : List Str := ["text"]
theorem sc_are_signs : FnScope N_are_signs P_are_signs (defScope s_are_signs) := ⟨rfl, rfl, rfl, by decide +kernel, rfl, by decide +kernel, by decide +kernel⟩
abbrev s_text_end : Stmt := top 20
abbrev N_text_end : List Str := ["text", "at", "here"]
abbrev P_text_end : List Str := ["text", "at"]
theorem sc_text_end : FnScope N_text_end P_text_end (defScope s_text_end) := ⟨rfl, rfl, rfl, by decide +kernel, rfl, by decide +kernel, by decide +kernel⟩
def LETs : Str := "abcdefghijklmnopqrstuvwxyzABCDEFGHIJKLMNOPQRSTUVWXYZ_"
def FIGs : Str := "0123456789"
def SIGs : Str := " !\"#$&'()*+,-./0123456789:;<=>?@ABCDEFGHIJKLMNOPQRSTUVWXYZ[\\]^_`abcdefghijklmnopqrstuvwxyz{|}~"
def MRKs : Str := "()[]{},;.=<>+-*/"
def KEYS : List Str := ["class", "of", "fun", "var", "if", "else", "while", "break", "continue", "return", "throw", "try", "catch", "say", "true", "false", "nil", "this", "super", "new", "and", "or", "not", "len", "weak", "worth", "number", "spawn", "join", "yield", "mod"]
def PAIRS : List Str := ["==", "!=", "<=", ">="]
def isL (c : Nat) : Bool := decide (c ∈ LETs.cps.toList)
def isF (c : Nat) : Bool := decide (c ∈ FIGs.cps.toList)
def isS (c : Nat) : Bool := decide (c ∈ SIGs.cps.toList)
def isM (c : Nat) : Bool := decide (c ∈ MRKs.cps.toList)
def isLF (c : Nat) : Bool := isL c || isF c
def keyB (w : List Nat) : Bool := inV (.str (Sg w)) (KEYS.map V.str)
def pairB (w : List Nat) : Bool := inV (.str (Sg w)) (PAIRS.map V.str)
abbrev FnP (K : PySem.W.Frag) (x : Str) (st : Stmt) (f : Addr) (fd : FuncData) : Prop := FunD K x x (defArgs st) (defBody st) (defScope st) [] [] f fd
structure Txa (K : PySem.W.Frag) (mg : Str → Option Value) : Prop where
  f_isinstance : mg "isinstance" = none
  f_int : mg "int" = none
  f_str : mg "str" = none
  f_len : mg "len" = none
  f_all : mg "all" = none
  g_LETTERS : ∃ u, mg "LETTERS" = some (.str LETs u)
  g_FIGURES : ∃ u, mg "FIGURES" = some (.str FIGs u)
  g_SIGNS : ∃ u, mg "SIGNS" = some (.str SIGs u)
  g_MARKS : ∃ u, mg "MARKS" = some (.str MRKs u)
  g_QUOTE : ∃ u, mg "QUOTE" = some (.str (Sg [34]) u)
  g_MOST_NAME : ∃ u, mg "MOST_NAME" = some (.int 20 u)
  g_MOST_FIGURES : ∃ u, mg "MOST_FIGURES" = some (.int 18 u)
  g_MOST_NUMBER : ∃ u, mg "MOST_NUMBER" = some (.int 576460752303423487 u)
  g_KEYS : mg "KEYS" = some (.ref (He.ga K "KEYS"))
  t_KEYS : ∀ H, SqT K H (He.ga K "KEYS") (KEYS.map V.str)
  g_PAIRS : mg "PAIRS" = some (.ref (He.ga K "PAIRS"))
  t_PAIRS : ∀ H, SqT K H (He.ga K "PAIRS") (PAIRS.map V.str)
def headL : List Nat → Bool
  | c :: _ => isL c
  | [] => false
def nameB (w : List Nat) : Bool := decide (1 ≤ w.length) && (decide (w.length ≤ 20) && (!keyB w && (headL w && w.all isLF)))
def spIsName : Sp := fun vs H Q _ => ∃ w, vs = [.str (Sg w)] ∧ w.length ≤ big ∧ ∀ H', Same H H' → Q (.bl (nameB w)) H'
theorem flat_strs (l : List Str) : (l.map V.str).all flatV = true := by
  rw [List.all_map, List.all_eq_true]
  intro x _
  rfl
theorem w_inK {K : PySem.W.Frag} {H : Hp} {Q : VK} {w : List Nat} {a : Addr} {l : List Str} (h : SqT K H a (l.map V.str)) (q : Q (.bl (inV (.str (Sg w)) (l.map V.str))) H) : rIn K false (.str (Sg w)) (.ref a) H Q := ⟨a, _, rfl, .inr h, rfl, flat_strs l, q⟩
theorem all_id {w : List Nat} {p : Nat → Bool} : (w.map p).all id = w.all p := by
  rw [List.all_map]
  rfl
def not0 : List Nat → Bool
  | c :: _ => !decide (V.str (Sg [c]) = V.str "0")
  | [] => false
def valW (w : List Nat) : Int := ((NumText.digitsVal w : Nat) : Int)
def numB (w : List Nat) : Bool := decide (1 ≤ w.length) && (decide (w.length ≤ 18) && (w.all isF && ((decide (V.str (Sg w) = V.str "0") || not0 w) && decide (valW w ≤ 576460752303423487))))
def spNum : Sp := fun vs H Q _ => ∃ w, vs = [.str (Sg w)] ∧ w.length ≤ big ∧ ∀ H', Same H H' → Q (.bl (numB w)) H'
theorem fig_digit {c : Nat} (h : isF c = true) : 48 ≤ c ∧ c ≤ 57 := (by decide +kernel : ∀ c ∈ FIGs.cps.toList, 48 ≤ c ∧ c ≤ 57) c (of_decide_eq_true h)
theorem int_digits {w : List Nat} (h : w.all isF = true) (h1 : 1 ≤ w.length) (h2 : w.length ≤ 18) : intText? (Sg w) = some (valW w) := by
  refine PySem.intText_digits (x := Sg w) (fun c hc => fig_digit (List.all_eq_true.mp h c hc)) (fun e => ?_) (by rw [Sg_len]; omega)
  have e : w = [] := e
  rw [e] at h1
  exact absurd h1 (by decide)
def stretch (t : List Nat) : List Nat := t.takeWhile isLF
theorem stretch_cons {c : Nat} {r : List Nat} (h : isLF c = true) : stretch (c :: r) = c :: stretch r := by
  unfold stretch
  rw [List.takeWhile_cons, h] <;> rfl
theorem stretch_stop {c : Nat} {r : List Nat} (h : isLF c = false) : stretch (c :: r) = [] := by
  unfold stretch
  rw [List.takeWhile_cons, h] <;> rfl
def spStretchEnd : Sp := fun vs H Q _ => ∃ (t : List Nat) (a : Nat), vs = [.str (Sg t), .int a] ∧ t.length ≤ big ∧ a ≤ t.length ∧ Q (.int ((a + (stretch (t.drop a)).length : Nat) : Int)) H
def spLineEnd : Sp := fun vs H Q _ => ∃ (t : List Nat) (a : Nat), vs = [.str (Sg t), .int a] ∧ t.length ≤ big ∧ a ≤ t.length ∧ Q (.int ((a + (upTo 10 (t.drop a)).length : Nat) : Int)) H
def spSigns : Sp := fun vs H Q _ => ∃ t, vs = [.str (Sg t)] ∧ t.length ≤ big ∧ ∀ H', Same H H' → Q (.bl (t.all isS)) H'
/-- how many signs stand ahead of a text's end, behind its first quote -/
def qEnd : List Nat → Option Nat
  | [] => none
  | [c] => if isS c = true then (if c = 34 then some 0 else none) else none
  | c :: d :: r => if isS c = true then (if c = 34 then (if d = 34 then (qEnd r).map (· + 2) else some 0) else (qEnd (d :: r)).map (· + 1)) else none
def oI : Option Nat → V
  | none => .non
  | some k => .int (k : Int)
def spTextEnd : Sp := fun vs H Q _ => ∃ (t : List Nat) (a : Nat), vs = [.str (Sg t), .int a] ∧ t.length ≤ big ∧ a < t.length ∧ Q (oI ((qEnd (t.drop (a + 1))).map (a + 1 + ·))) H
section
variable {P : Program} {w : World} {K : PySem.W.Frag} {mg : Str → Option Value} {base : Heap}
theorem ok_is_name (T : Txa K mg) {f : Addr} {fd : FuncData} (F : FnP K "is_name" s_is_name f fd) : FnOk P w K mg base CX0 1 f fd P_is_name spIsName := by
  refine F.ok sc_is_name (fun vs H Q E h => ?_) (fun cdv A outer s H vs Q E hr h => ?_)
  · obtain ⟨x, rfl, _⟩ := h
    rfl
  · obtain ⟨x, rfl, hz, q⟩ := h
    refine ⟨_, PSs.nox (pss_cons (ps_if (PW.pt (pw_or (pt_not (pt_val (pe_callB call_isi (by rfl) T.f_isinstance (by decide +kernel) (pa_cons (pv 0) (pa_cons (pe_bltn (v := .ty "str") (by rfl) T.f_str (by decide +kernel) rfl) pa_nil))))) (pw_or (pt_not (pt_chain op_le op_le pe_int (pe_callB call_lenS (by rfl) T.f_len (by decide +kernel) (pa_cons (pv 0) pa_nil)) (pe_gi T.g_MOST_NAME))) (pw_or1 (pt_cmpR op_in_seq (pv 0) (pe_gr T.g_KEYS) (by rfl)))))) (pss_one (ps_ret pe_bl)) pss_nil)
  (pss_one (ps_ret (pe_and (pe_cmpR op_inSg (pe_ix ix_str (pv 0) pe_int (fun _ _ => rfl)) (pe_gs T.g_LETTERS) (by rfl)) (pe_one (pe_callB (cr_all rfl) (by rfl) T.f_all (by decide +kernel) (pa_cons (pe_lc (own := [("sign", 1)]) (g := gName 1) rfl sc_is_name.nd (pi_str (pv 0)) (blkOk_by (own := [("sign", 1)]) (N := N_is_name) (sc := defScope s_is_name) (by decide +kernel)) (fun _ _ _ _ _ => pg_name (i := 1) sc_is_name.nd rfl (Or.inl rfl)) (fun _ _ _ _ _ => pts_nil) (fun _ _ _ _ _ => (pe_or (pe_cmpR op_inSg (pv 1) (pe_gs T.g_LETTERS) (by rfl)) (pe_one (pe_cmpR op_inSg (pv 1) (pe_gs T.g_FIGURES) (by rfl)))))) pa_nil))))))), ?_⟩
    walk_at "w"
    refine w_isStr rfl ?_
    walk_at "w"
    refine w_nt ?_
    walk_at "w"
    have q0 := q H (Same.refl H)
    have n1 : nameB x = (decide (1 ≤ x.length) && (decide (x.length ≤ 20) && (!keyB x && (headL x && x.all isLF)))) := rfl
    refine w_2 (fun h1 => ?_) (fun h1 => ?_)
    · have h1 : 1 ≤ x.length := by have := of_decide_eq_true h1; omega
      rw [decide_eq_true h1, Bool.true_and] at n1
      walk_at "w"
      refine w_2 (fun h2 => ?_) (fun h2 => ?_)
      · have h2 : ¬ x.length ≤ 20 := by
          have z := (Bool.not_eq_true' _).mp h2
          have := of_decide_eq_false z
          omega
        rw [decide_eq_false h2, Bool.false_and] at n1
        rw [n1] at q0
        walk_at "w"
        exact q0
      · have h2 : x.length ≤ 20 := by
          have z := (Bool.not_eq_false' ..).mp h2
          have := of_decide_eq_true z
          omega
        rw [decide_eq_true h2, Bool.true_and] at n1
        walk_at "w"
        refine w_inK (T.t_KEYS H) ?_
        walk_at "w"
        refine w_2 (fun h3 => ?_) (fun h3 => ?_)
        · rw [show keyB x = true from h3, Bool.not_true, Bool.false_and] at n1
          rw [n1] at q0
          walk_at "w"
          exact q0
        · rw [show keyB x = false from h3, Bool.not_false, Bool.true_and] at n1
          walk_at "w"
          match x, h1 with
          | c :: r, _ =>
            refine w_ixSg (a := 0) hz (c := c) rfl ?_
            walk_at "w"
            refine w_2 (fun h4 => ?_) (fun h4 => ?_)
            · rw [show headL (c :: r) = true from h4, Bool.true_and] at n1
              walk_at "w"
              refine lc_bools (p := isLF) hz ?_ ?_ ?_ ?_
              · exact fun R h => w_itS (w_var rfl ⟨_, rfl, h⟩)
              · exact fun _ => rfl
              · intro d H Q q
                walk_at "w"
                have e : isLF d = (isL d || isF d) := rfl
                refine w_2 (fun h5 => ?_) (fun h5 => ?_)
                · rw [e, show isL d = true from h5] at q
                  exact q
                · rw [e, show isL d = false from h5, Bool.false_or] at q
                  walk_at "w"
                  exact q
              · intro a H' s' ha
                walk_at "w"
                refine ⟨a, _, rfl, .of ha, ?_⟩
                rw [all_id, ← n1]
                exact q H' s'
            · rw [show headL (c :: r) = false from h4, Bool.false_and] at n1
              rw [n1] at q0
              exact q0
    · have h1 : ¬ 1 ≤ x.length := by have := of_decide_eq_false h1; omega
      rw [decide_eq_false h1, Bool.false_and] at n1
      rw [n1] at q0
      walk_at "w"
      exact q0
theorem ok_is_number_word (T : Txa K mg) {f : Addr} {fd : FuncData} (F : FnP K "is_number_word" s_is_number_word f fd) : FnOk P w K mg base CX0 1 f fd P_is_number_word spNum := by
  refine F.ok sc_is_number_word (fun vs H Q E h => ?_) (fun cdv A outer s H vs Q E hr h => ?_)
  · obtain ⟨x, rfl, _⟩ := h
    rfl
  · obtain ⟨x, rfl, hz, q⟩ := h
    refine ⟨_, PSs.nox (pss_cons (ps_if (PW.pt (pw_or (pt_not (pt_chain op_le op_le pe_int (pe_callB call_lenS (by rfl) T.f_len (by decide +kernel) (pa_cons (pv 0) pa_nil)) (pe_gi T.g_MOST_FIGURES))) (pw_or1 (pt_not (pt_val (pe_callB (cr_all rfl) (by rfl) T.f_all (by decide +kernel) (pa_cons (pe_lc (own := [("sign", 1)]) (g := gName 1) rfl sc_is_number_word.nd (pi_str (pv 0)) (blkOk_by (own := [("sign", 1)]) (N := N_is_number_word) (sc := defScope s_is_number_word) (by decide +kernel)) (fun _ _ _ _ _ => pg_name (i := 1) sc_is_number_word.nd rfl (Or.inl rfl)) (fun _ _ _ _ _ => pts_nil) (fun _ _ _ _ _ => (pe_cmpR op_inSg (pv 1) (pe_gs T.g_FIGURES) (by rfl)))) pa_nil))))))) (pss_one (ps_ret pe_bl)) pss_nil)
  (pss_one (ps_ret (pe_and (pe_or (pe_cmpR op_eq (pv 0) pe_str (nomark _)) (pe_one (pe_cmpR op_ne (pe_ix ix_str (pv 0) pe_int (fun _ _ => rfl)) pe_str (nomark _)))) (pe_one (pe_cmpR op_le (pe_callTy call_intS (by rfl) T.f_int (by decide +kernel) (pa_cons (pv 0) pa_nil)) (pe_gi T.g_MOST_NUMBER) (nomark _))))))), ?_⟩
    have q0 := q H (Same.refl H)
    have n1 : numB x = (decide (1 ≤ x.length) && (decide (x.length ≤ 18) && (x.all isF && ((decide (V.str (Sg x) = V.str "0") || not0 x) && decide (valW x ≤ 576460752303423487))))) := rfl
    walk_at "w"
    refine w_2 (fun h1 => ?_) (fun h1 => ?_)
    · have h1 : 1 ≤ x.length := by have := of_decide_eq_true h1; omega
      rw [decide_eq_true h1, Bool.true_and] at n1
      walk_at "w"
      refine w_2 (fun h2 => ?_) (fun h2 => ?_)
      · have h2 : ¬ x.length ≤ 18 := by
          have z := (Bool.not_eq_true' _).mp h2
          have := of_decide_eq_false z
          omega
        rw [decide_eq_false h2, Bool.false_and] at n1
        rw [n1] at q0
        walk_at "w"
        exact q0
      · have h2 : x.length ≤ 18 := by
          have z := (Bool.not_eq_false' ..).mp h2
          have := of_decide_eq_true z
          omega
        rw [decide_eq_true h2, Bool.true_and] at n1
        walk_at "w"
        refine lc_bools (p := isF) hz ?_ ?_ ?_ ?_
        · exact fun R h => w_itS (w_var rfl ⟨_, rfl, h⟩)
        · exact fun _ => rfl
        · intro d H Q q
          walk_at "w"
          exact q
        · intro a H' s' ha
          have q1 := q H' s'
          walk_at "w"
          refine ⟨a, _, rfl, .of ha, ?_⟩
          rw [all_id]
          walk_at "w"
          refine w_2 (fun h3 => ?_) (fun h3 => ?_)
          · rw [show x.all isF = false from (Bool.not_eq_true' _).mp h3, Bool.false_and] at n1
            rw [n1] at q1
            walk_at "w"
            exact q1
          · have h3 : x.all isF = true := (Bool.not_eq_false' ..).mp h3
            rw [h3, Bool.true_and] at n1
            walk_at "w"
            have last : (decide (V.str (Sg x) = V.str "0") || not0 x) = true → rIntS [.str (Sg x)] H' fun v H1 => rI0 (fun i j => .bl (decide (i ≤ j))) v (.int 576460752303423487) H1 Q := fun e => by
              rw [e, Bool.true_and] at n1
              refine ⟨Sg x, valW x, rfl, int_digits h3 h1 h2, by rw [Sg_len]; omega, w_I0 ?_⟩
              rw [← n1]
              exact q1
            refine w_eq rfl ?_
            walk_at "w"
            refine w_2 (fun h4 => ?_) (fun h4 => ?_)
            · walk_at "w"
              exact last (by rw [h4] <;> rfl)
            · walk_at "w"
              match x, h1 with
              | c :: r, _ =>
                refine w_ixSg (a := 0) hz (c := c) rfl ?_
                walk_at "w"
                refine w_ne rfl ?_
                walk_at "w"
                refine w_2 (fun h5 => ?_) (fun h5 => ?_)
                · walk_at "w"
                  exact last (by rw [h4, Bool.false_or]; exact h5)
                · have e : not0 (c :: r) = false := h5
                  rw [h4, e, Bool.false_or, Bool.false_and] at n1
                  rw [n1] at q1
                  exact q1
    · have h1 : ¬ 1 ≤ x.length := by have := of_decide_eq_false h1; omega
      rw [decide_eq_false h1, Bool.false_and] at n1
      rw [n1] at q0
      walk_at "w"
      exact q0
theorem ok_stretch_end (T : Txa K mg) {f : Addr} {fd : FuncData} (F : FnP K "stretch_end" s_stretch_end f fd) : FnOk P w K mg base CX0 1 f fd P_stretch_end spStretchEnd := by
  refine F.ok sc_stretch_end (fun vs H Q E h => ?_) (fun cdv A outer s H vs Q E hr h => ?_)
  · obtain ⟨t, a, rfl, _⟩ := h
    rfl
  · obtain ⟨t, a, rfl, hz, ha, q⟩ := h
    refine ⟨_, PSs.nox (pss_cons (ps_while PassesOwn.never (PW.pt (pw_and (pt_cmpR op_lt (pv 1) (pe_callB call_lenS (by rfl) T.f_len (by decide +kernel) (pa_cons (pv 0) pa_nil)) (nomark _)) (pw_and1 (PW.pt (pw_or (pt_cmpR op_inSg (pe_ix ix_str (pv 0) (pv 1) (fun _ _ => rfl)) (pe_gs T.g_LETTERS) (by rfl)) (pw_or1 (pt_cmpR op_inSg (pe_ix ix_str (pv 0) (pv 1) (fun _ _ => rfl)) (pe_gs T.g_FIGURES) (by rfl)))))))) (pss_one (ps_aug (i := 1) sc_stretch_end.nd rfl (Or.inl rfl) pe_int ip_add)))
  (pss_one (ps_ret (pv 1)))), ?_⟩
    walk_at "w"
    refine ⟨fun m σ H' => ∃ b : Nat, m = t.length - b ∧ σ = [some (.str (Sg t)), some (.int b)] ∧ H' = H ∧ b ≤ t.length ∧ b + (stretch (t.drop b)).length = a + (stretch (t.drop a)).length, ⟨_, a, rfl, rfl, rfl, ha, rfl⟩, ?_⟩
    rintro m σ H' ⟨b, rfl, rfl, rfl, hb, e⟩
    walk_at "w"
    have stop : b < t.length ∨ b = t.length := by omega
    rcases stop with hl | rfl
    · rw [decide_eq_true (show (b : Int) < (t.length : Int) by omega)]
      walk_at "w"
      obtain ⟨c, hc⟩ := at_lt hl
      have dr := drop_at hc
      walk_at "w"
      have step : isLF c = true → ∃ N : L2.St → Hp → Prop, (∀ σ' H'', N σ' H'' → ∃ m', m' < t.length - b ∧ ∃ b' : Nat, m' = t.length - b' ∧ σ' = [some (.str (Sg t)), some (.int b')] ∧ H'' = H' ∧ b' ≤ t.length ∧ b' + (stretch (t.drop b')).length = a + (stretch (t.drop a)).length) ∧
          N [some (.str (Sg t)), some (.int ((b : Int) + 1))] H' := fun hc' => by
        rw [dr, stretch_cons hc', List.length_cons] at e
        exact ⟨fun σ' H'' => σ' = [some (.str (Sg t)), some (.int ((b + 1 : Nat) : Int))] ∧ H'' = H', fun σ' H'' z => ⟨t.length - (b + 1), by omega, b + 1, rfl, z.1, z.2, by omega, by omega⟩, rfl, rfl⟩
      have e2 : isLF c = (isL c || isF c) := rfl
      refine w_2 (fun h1 => ?_) (fun h1 => ?_)
      · rw [show isL c = true from h1, Bool.true_or] at e2
        obtain ⟨N, n1, n2⟩ := step e2
        refine w_t ⟨N, n1, ?_⟩
        walk_at "w"
        exact n2
      · rw [show isL c = false from h1, Bool.false_or] at e2
        walk_at "w"
        refine w_2 (fun h2 => ?_) (fun h2 => ?_)
        · rw [show isF c = true from h2] at e2
          obtain ⟨N, n1, n2⟩ := step e2
          refine ⟨N, n1, ?_⟩
          walk_at "w"
          exact n2
        · rw [show isF c = false from h2] at e2
          walk_at "w"
          rw [dr, stretch_stop e2, List.length_nil, Nat.add_zero] at e
          rw [← e] at q
          exact q
    · rw [decide_eq_false (show ¬ (t.length : Int) < (t.length : Int) by omega)]
      walk_at "w"
      rw [List.drop_length, show stretch [] = [] from rfl, List.length_nil, Nat.add_zero] at e
      rw [← e] at q
      exact q
theorem ok_line_end (T : Txa K mg) {f : Addr} {fd : FuncData} (F : FnP K "line_end" s_line_end f fd) : FnOk P w K mg base CX0 1 f fd P_line_end spLineEnd := by
  refine F.ok sc_line_end (fun vs H Q E h => ?_) (fun cdv A outer s H vs Q E hr h => ?_)
  · obtain ⟨t, a, rfl, _⟩ := h
    rfl
  · obtain ⟨t, a, rfl, hz, ha, q⟩ := h
    refine ⟨_, PSs.nox (pss_cons (ps_set (i := 2) sc_line_end.nd rfl (Or.inl rfl) (pe_bm PySem.F.plainAttrs_str PySem.F.slot_str_find PySem.F.type_str_find mt_find3N (pv 0) (pa_cons pe_str (pa_cons (pv 1) pa_nil))))
  (pss_one (ps_ret (pe_ifExp (pt_cmpR op_lt (pv 2) pe_int (nomark _)) (pe_callB call_lenS (by rfl) T.f_len (by decide +kernel) (pa_cons (pv 0) pa_nil)) (pv 2))))), ?_⟩
    walk_at "w"
    refine ⟨rfl, ?_⟩
    walk_at "w"
    refine ⟨Sg t, Sg [10], a, rfl, rfl, ?_⟩
    walk_at "w"
    rcases find_from t 10 a ha with ⟨h1, h2⟩ | ⟨h1, h2⟩
    · rw [decide_eq_true (show Txt.find3 (Sg t) (Sg [10]) (a : Int) < 0 by omega)]
      walk_at "w"
      rw [h2] at q
      exact q
    · rw [decide_eq_false (show ¬ Txt.find3 (Sg t) (Sg [10]) (a : Int) < 0 by omega)]
      walk_at "w"
      rw [h2]
      exact q
theorem ok_are_signs (T : Txa K mg) {f : Addr} {fd : FuncData} (F : FnP K "are_signs" s_are_signs f fd) : FnOk P w K mg base CX0 1 f fd P_are_signs spSigns := by
  refine F.ok sc_are_signs (fun vs H Q E h => ?_) (fun cdv A outer s H vs Q E hr h => ?_)
  · obtain ⟨t, rfl, _⟩ := h
    rfl
  · obtain ⟨t, rfl, hz, q⟩ := h
    refine ⟨_, PSs.nox (pss_one (ps_ret (pe_callB (cr_all rfl) (by rfl) T.f_all (by decide +kernel) (pa_cons (pe_lc (own := [("sign", 1)]) (g := gName 1) rfl sc_are_signs.nd (pi_str (pv 0)) (blkOk_by (own := [("sign", 1)]) (N := N_are_signs) (sc := defScope s_are_signs) (by decide +kernel)) (fun _ _ _ _ _ => pg_name (i := 1) sc_are_signs.nd rfl (Or.inl rfl)) (fun _ _ _ _ _ => pts_nil) (fun _ _ _ _ _ => (pe_cmpR op_inSg (pv 1) (pe_gs T.g_SIGNS) (by rfl)))) pa_nil)))), ?_⟩
    walk_at "w"
    refine lc_bools (p := isS) hz ?_ ?_ ?_ ?_
    · exact fun R h => w_itS (w_var rfl ⟨_, rfl, h⟩)
    · exact fun _ => rfl
    · intro d H Q q
      walk_at "w"
      exact q
    · intro a H' s' ha
      walk_at "w"
      refine ⟨a, _, rfl, .of ha, ?_⟩
      rw [all_id]
      exact q H' s'
theorem strEq (u v : List Nat) : decide (V.str (Sg u) = V.str (Sg v)) = decide (u = v) := by
  by_cases h : u = v
  · rw [h, decide_eq_true rfl, decide_eq_true rfl]
  · rw [decide_eq_false h, decide_eq_false]
    exact fun e => h (Sg_inj (V.str.inj e))
theorem qEnd_bad {c : Nat} {r : List Nat} (h : isS c = false) : qEnd (c :: r) = none := by
  cases r <;> (unfold qEnd; rw [h] <;> rfl)
theorem s34 : isS 34 = true := by decide +kernel
theorem qEnd_end {r : List Nat} (h : r.take 1 ≠ [34]) : qEnd (34 :: r) = some 0 := by
  cases r with
  | nil =>
    unfold qEnd
    rw [s34] <;> rfl
  | cons d r =>
    have hd : d ≠ 34 := fun e => h (by rw [e] <;> rfl)
    unfold qEnd
    rw [s34, if_pos rfl, if_pos rfl, if_neg hd]
theorem qEnd_dbl {r : List Nat} : qEnd (34 :: 34 :: r) = (qEnd r).map (· + 2) := by
  rw [qEnd, s34, if_pos rfl, if_pos rfl, if_pos rfl]
theorem qEnd_next {c : Nat} {r : List Nat} (h : isS c = true) (hc : c ≠ 34) : qEnd (c :: r) = (qEnd r).map (· + 1) := by
  cases r with
  | nil =>
    unfold qEnd
    rw [h, if_pos rfl, if_neg hc] <;> rfl
  | cons d r => rw [qEnd, h, if_pos rfl, if_neg hc]
theorem ok_text_end (T : Txa K mg) {f : Addr} {fd : FuncData} (F : FnP K "text_end" s_text_end f fd) : FnOk P w K mg base CX0 1 f fd P_text_end spTextEnd := by
  refine F.ok sc_text_end (fun vs H Q E h => ?_) (fun cdv A outer s H vs Q E hr h => ?_)
  · obtain ⟨t, a, rfl, _⟩ := h
    rfl
  · obtain ⟨t, a, rfl, hz, ha, q⟩ := h
    refine ⟨_, PSs.nox (pss_cons (ps_set (i := 2) sc_text_end.nd rfl (Or.inl rfl) (pe_op op_add (pv 1) pe_int))
  (pss_cons (ps_while PassesOwn.never (PW.pt (pw_and (pt_cmpR op_lt (pv 2) (pe_callB call_lenS (by rfl) T.f_len (by decide +kernel) (pa_cons (pv 0) pa_nil)) (nomark _)) (pw_and1 (pt_cmpR op_inSg (pe_ix ix_str (pv 0) (pv 2) (fun _ _ => rfl)) (pe_gs T.g_SIGNS) (by rfl))))) (pss_cons (ps_if (pt_cmpR op_eq (pe_ix ix_str (pv 0) (pv 2) (fun _ _ => rfl)) (pe_gs T.g_QUOTE) (nomark _)) (pss_cons (ps_if (pt_cmpR op_ne (pe_slice sl_str (pv 0) (po_some (pe_op op_add (pv 2) pe_int)) (po_some (pe_op op_add (pv 2) pe_int))) (pe_gs T.g_QUOTE) (nomark _)) (pss_one (ps_ret (pv 2))) pss_nil)
  (pss_one (ps_aug (i := 2) sc_text_end.nd rfl (Or.inl rfl) pe_int ip_add))) pss_nil)
  (pss_one (ps_aug (i := 2) sc_text_end.nd rfl (Or.inl rfl) pe_int ip_add))))
  (pss_one (ps_ret pe_non)))), ?_⟩
    walk_at "w"
    refine ⟨fun m σ H' => ∃ b : Nat, m = t.length - b ∧ σ = [some (.str (Sg t)), some (.int a), some (.int b)] ∧ H' = H ∧ b ≤ t.length ∧ (qEnd (t.drop b)).map (b + ·) = (qEnd (t.drop (a + 1))).map (a + 1 + ·), ⟨_, a + 1, rfl, rfl, rfl, ha, rfl⟩, ?_⟩
    rintro m σ H' ⟨b, rfl, rfl, rfl, hb, e⟩
    walk_at "w"
    rcases (show b < t.length ∨ b = t.length by omega) with hl | rfl
    · rw [decide_eq_true (show (b : Int) < (t.length : Int) by omega)]
      walk_at "w"
      obtain ⟨c, hc⟩ := at_lt hl
      have dr := drop_at hc
      walk_at "w"
      rw [dr] at e
      have mp : ∀ {o : Option Nat} {k : Nat}, Option.map (b + ·) (o.map (· + k)) = o.map (b + k + ·) := fun {o k} => by
        rw [Option.map_map]
        congr 1
        funext x
        show b + (x + k) = b + k + x
        omega
      have step : ∀ k : Nat, 0 < k → b + k ≤ t.length → (qEnd (t.drop (b + k))).map (b + k + ·) = (qEnd (t.drop (a + 1))).map (a + 1 + ·) → ∃ m', m' < t.length - b ∧ ∃ b' : Nat, m' = t.length - b' ∧ [some (V.str (Sg t)), some (V.int a), some (V.int ((b + k : Nat) : Int))] = [some (.str (Sg t)), some (.int a), some (.int b')] ∧ H' = H' ∧ b' ≤ t.length ∧
          (qEnd (t.drop b')).map (b' + ·) = (qEnd (t.drop (a + 1))).map (a + 1 + ·) := fun k hk hbk e' => ⟨_, by omega, b + k, rfl, rfl, rfl, hbk, e'⟩
      refine w_2 (fun h1 => ?_) (fun h1 => ?_)
      · have h1 : isS c = true := h1
        refine ⟨fun σ' H'' => ∃ m', m' < t.length - b ∧ ∃ b' : Nat, m' = t.length - b' ∧ σ' = [some (.str (Sg t)), some (.int a), some (.int b')] ∧ H'' = H' ∧ b' ≤ t.length ∧ (qEnd (t.drop b')).map (b' + ·) = (qEnd (t.drop (a + 1))).map (a + 1 + ·), fun _ _ z => z, ?_⟩
        walk_at "w"
        refine w_eq rfl ?_
        rw [strEq]
        walk_at "w"
        refine w_2 (fun h2 => ?_) (fun h2 => ?_)
        · obtain rfl : c = 34 := by
            have z := of_decide_eq_true h2
            injection z
          walk_at "w"
          refine w_slSg (a := b + 1) (b := b + 2) hz ?_
          walk_at "w"
          refine w_ne rfl ?_
          rw [strEq, show b + 2 - (b + 1) = 1 by omega]
          walk_at "w"
          refine w_2 (fun h3 => ?_) (fun h3 => ?_)
          · have h3 : (t.drop (b + 1)).take 1 ≠ [34] := of_decide_eq_false ((Bool.not_eq_true' _).mp h3)
            rw [qEnd_end h3] at e
            walk_at "w"
            rw [← e] at q
            exact q
          · have h3 : (t.drop (b + 1)).take 1 = [34] := of_decide_eq_true ((Bool.not_eq_false' ..).mp h3)
            have h4 : t[b + 1]? = some 34 := by
              have z := congrArg (fun l : List Nat => l[0]?) h3
              simpa using z
            have dr2 := drop_at h4
            have hl2 : b + 1 < t.length := (List.getElem?_eq_some_iff.mp h4).1
            rw [dr2, qEnd_dbl, mp] at e
            walk_at "w"
            exact step 2 (by omega) (by omega) e
        · have h2 : c ≠ 34 := fun z => by
            have y := of_decide_eq_false h2
            rw [z] at y
            exact y rfl
          walk_at "w"
          rw [qEnd_next h1 h2, mp] at e
          exact step 1 (by omega) (by omega) e
      · have h1 : isS c = false := h1
        walk_at "w"
        rw [qEnd_bad h1] at e
        rw [← e] at q
        exact q
    · rw [decide_eq_false (show ¬ (t.length : Int) < (t.length : Int) by omega)]
      walk_at "w"
      rw [List.drop_length] at e
      rw [← e] at q
      exact q
end
end K01
namespace K01
open PySem L2
abbrev s_BadText_init : Stmt := inClass (top 2) 0
end K01
namespace PySem
namespace SupXBadText
open PySem.W PySem.Calls PyProof.Rows PySem.HandSPX L2
/-- what the written part says of BadText, at C, and of its __init__, at fI -/
structure SupTxt (prog : Program) (K : Frag) (mg : Str → Option Value) (C fI : Addr) : Prop where
  gC : mg "BadText" = some (.ref C)
  cls : ∃ nm q N bs bm sn sub ab col dd k0 k1 k2 k3 k5, K.lookup C = some (excClassObj nm q C N bs bm true sn sub ab col dd k0 k1 k2 k3 k5 "ValueError.__new__") ∧ refsVE bm = true
  sa : findIn K (.ref C) "__setattr__" = some (some (.builtin "object.__setattr__"))
  ga : findIn K (.ref C) "__getattribute__" = some (some (.builtin "BaseException.__getattribute__"))
  gg : findIn K (.ref C) "__getattr__" = some none
  noN : findIn K (.ref C) "line" = some none
  iC : findIn K (.ref C) "__init__" = some (some (.ref fI))
  tC : typeIn K (.ref fI) = some (.type "function")
  kC : keepIn K (.ref C) = true
  exC : subIn K (.ref C) (.type "BaseException") = some true
  veC : subIn K (.ref C) (.type "ValueError") = some true
  tyC : typeIn K (.ref C) = some (.type "type")
  hdC : hasDictIn K C = true
  te : exmOne K (.ref C) (.ref C) = some true
  sub : mroIn K C (.ref C) = some true
  sup : ks_superIn K C C "__init__" = some (some (.builtin "ValueError.__init__"))
  third : nsIn K cStatics "thirdparty.any" = some none
  mgS : mg "super" = none
  top : (prog.main.scope.names.lookup ("super" : Str)).isSome = false
  fn : ∃ (oc : Value) (od : Option Addr) (doc pm : Value) (an : Option Addr) (cda cc : Addr) (ct : Value) (osl : Array (Option Value)) (vs : Array Value) (file : Str) (tf : Tok) (ccl cl : Value) (cdd cld : Option Addr) (ccs csl : Array (Option Value)),
    K.lookup fI = some ⟨oc, od, .func (fnX "__init__" "BadText.__init__" (defArgs K01.s_BadText_init) (defBody K01.s_BadText_init) (defScope K01.s_BadText_init) [("__class__", cc)] .none .none doc pm an (.ref cda) ct), osl⟩ ∧ codeIn K (.ref cda) "BadText.__init__" = true ∧
    K.lookup cda = some ⟨ccl, cdd, .fields vs, ccs⟩ ∧ vs[2]? = some (.str file tf) ∧ ((prog.main.file : Str) == file) = true ∧ K.lookup cc = some ⟨cl, cld, .cell (some (.ref C)), csl⟩
theorem one_size (v : Value) : [v].length ≤ sizeLine := by
  rw [sizeLine_eq]
  exact (by decide : 1 ≤ 16777216)
/-- what __init__ leaves of a fresh exception at x -/
structure InitEnd (h h' : Heap) (x C dx : Addr) (v : Value) : Prop where
  keep : ∀ b o, b ≠ x → h.get? b = some o → h'.get? b = some o
  obj : ∃ t1, h'.get? x = some { cls := .ref C, dict := some dx, data := .fields #[.ref t1, .none, .none, .none, .bool false, .none] }
  dbig : h.objs.size ≤ dx
  dne : dx ≠ x
  ns : h'.Ns1 dx (fun y => if y = "line" then some v else none)
section
variable {prog : Program} {w : World} {A : Around} {E : Value → Shared → Prop} {R : Result → Shared → Prop} {s : Shared} {K : Frag} {mg mb : Str → Option Value} {C fI : Addr}
/-- the bound ValueError.__init__ called -/
theorem call_mw {h : Heap} {g : Array GenState} {d : Drawn} {t : Nat} {os : OsState} {u e t0 : Addr} {rest : List Value} {Q : Value → Shared → Prop} {nm q : Str} {N : Addr} {bs bm : List Value} {sn : List Str} {sub : List Value} {ab : Bool} {col : Option Bool} {dd : Option Addr} {k0 k1 k2 k3 k5 : Option Value}
    (hC : h.get? C = some (excClassObj nm q C N bs bm true sn sub ab col dd k0 k1 k2 k3 k5 "ValueError.__new__")) (he : h.get? e = some (excO C t0)) (hu : h.get? u = some (kxs_mw "ValueError.__init__" e)) (hrest : rest.length ≤ sizeLine)
    (hq : ∀ h' t1, (∀ b o, b ≠ e → h.get? b = some o → h'.get? b = some o) → h'.get? e = some (excO C t1) → Q .none ⟨h', g, d, t, os⟩) :
    wpAny (model prog w) A (call (.ref u) rest) Q E ⟨h, g, d, t, os⟩ := by
  refine wpAny_call (codeAny_of_tree ?_)
  show wpAny _ A.in1 (callAny (.ref u) ⟨rest, []⟩) _ _ _
  simp only [callAny]
  refine wpAny_bind (wpAny_load hu ?_)
  simp only [kxs_mw, show (Value.type "method-wrapper" == Value.type "method" || Value.type "method-wrapper" == Value.type "builtin_function_or_method" || Value.type "method-wrapper" == Value.type "method-wrapper") = true by decide, if_true]
  refine KFB.if_so (by decide) ?_
  refine wpAny_bind (check_bound_init F.excBase_ValueError.toExcCallFacts hC he rfl ?_)
  refine wpAny_bind (wpAny_pure (wpAny_pure ?_))
  refine ⟨plainId_quiet F.excBase_ValueError.init.plain _, codeAny_builtin F.excBase_ValueError.initEntry ?_⟩
  exact exc_init_tree (cls := .ref C) (t0 := t0) (dv := none) (c2 := .none) (c3 := .none) (b4 := .bool false) he hrest fun h' k e' _ => hq h' _ k e'
theorem sup_init (T : SupTxt prog K mg C fI) {x t0 : Addr} {v : Value} (X : K.In s.heap) (hlim : s.heap.NoLimit) (hG : s.heap.Ns mainGlobals mg) (hB : s.heap.Ns builtinsNs mb) (hbs : mb "super" = some (.type "super"))
    (hx : s.heap.get? x = some (excO C t0)) (hnx : K.lookup x = none) (hroom : A.depth < recursionLimit)
    (hq : ∀ h' tk dx, InitEnd s.heap h' x C dx v → R (.ok (.ret .none)) { s with heap := h', toks := tk }) :
    codeAny (model prog w) A (.call (.ref fI) ⟨[.ref x, v], []⟩) R s := by
  obtain ⟨oc, od, doc, pm, an, cda, cc, ct, osl, vs, file, tf, ccl, cl, cdd, cld, ccs, csl, ho, hcd, hcode, hvs, hfile, hcell⟩ := T.fn
  obtain ⟨nm, q, N, bs, bm, sn, sub, ab, col, dd, k0, k1, k2, k3, k5, hC, hbm⟩ := T.cls
  have hcl : clsIn K C = some { name := nm, bases := bs, mro := .ref C :: bm, ns := N, qualname := q, hasDict := true, slotNames := sn, subclasses := sub, abstract := ab, collection := col, hasDel := false } := by unfold clsIn; rw [hC] <;> rfl
  have hsup : alongIn K "__init__" (((Value.ref C :: bm).dropWhile (· != .ref C)).drop 1) = some (some (.builtin "ValueError.__init__")) := by
    have z := T.sup
    unfold ks_superIn at z
    rw [hcl] at z
    exact z
  refine ks_codeAny_call_defAt (binds := [("self", .ref x), ("line", v)]) hroom (X _ _ ho) rfl hlim (codeRec_of X hcd) rfl (BindsTo.of_eq (by first | rfl | with_unfolding_all rfl)) (show ∀ y ∈ (defScope K01.s_BadText_init).names, y.2 ≠ .cell from by decide +kernel) (locs (scope := defScope K01.s_BadText_init) (by first | rfl | kernel_rfl)) (fun h₁ hns k => ?_) rfl rfl rfl
  have X₁ : K.In h₁ := X.keeps k
  have hx₁ := k _ _ hx
  have hxL : s.heap.objs.size ≠ x := Nat.ne_of_gt (Heap.lt_size hx)
  have hCx : x ≠ C := fun z => by rw [z, hC] at hnx; cases hnx
  have G₁ : h₁.Ns mainGlobals mg := hG.keeps k
  have B₁ : h₁.Ns builtinsNs mb := hB.keeps k
  have I₁ : InstAt h₁ x (excO C t0) C none := ⟨hx₁, rfl, rfl, trivial⟩
  have hD2 : ({ cls := .type "type", dict := dd, data := .cls { name := nm, bases := bs, mro := .ref C :: bm, ns := N, qualname := q, hasDict := true, slotNames := sn, subclasses := sub, abstract := ab, collection := col, hasDel := false } } : Obj).data = .cls { name := nm, bases := bs, mro := .ref C :: bm, ns := N, qualname := q, hasDict := true, slotNames := sn, subclasses := sub, abstract := ab, collection := col, hasDel := false } := rfl
  have z₁ : s.heap.objs.size < h₁.objs.size := hns.lt
  obtain ⟨hp, g, d, tk, os⟩ := s
  -- super()
  refine ks_wpAt_execs_cons (ks_wpAt_Expr_any (ks_wpAt_MethodCall ?_))
  refine ks_wpAt_super_base (f := fI) (cc := cda) (by first | rfl | with_unfolding_all rfl | kernel_rfl) (by first | rfl | with_unfolding_all rfl | kernel_rfl) (by decide) rfl (X₁ _ _ ho) rfl rfl rfl (X₁ _ _ hcode) rfl hvs hfile T.top ?_
  refine ks_loadName_global rfl (by first | rfl | with_unfolding_all rfl | kernel_rfl) (loadGlobal_builtin G₁ T.mgS B₁ hbs ⟨rfl, ?_⟩)
  refine wpAny_loadName_free (c := cc) rfl (by first | rfl | with_unfolding_all rfl | kernel_rfl) (by first | rfl | with_unfolding_all rfl | kernel_rfl) ⟨_, X₁ _ _ hcell, rfl⟩ ?_
  refine wpAny_loadName_local (v := .ref x) rfl (by first | rfl | with_unfolding_all rfl | kernel_rfl) hns (by first | rfl | with_unfolding_all rfl | kernel_rfl) ?_
  have hD1 := X₁ _ _ hC
  refine ks_wpAny_isType_cls hD1 rfl ⟨rfl, ?_⟩
  refine ks_wpAny_call_super hD1 rfl hx₁ rfl (fun c e => by cases e) (looks_mroIn X₁ T.sub) (fun h2 e2 k2 => ?_)
  -- .__init__
  have X₂ : K.In h2 := X₁.keeps k2
  have I₂ : InstAt h2 x (excO C t0) C none := ⟨k2 _ _ hx₁, rfl, rfl, trivial⟩
  have hI : Looks (model prog w) h2 (isInstance (.ref x) (.type "ValueError")) true := I₂.type.andThen (looks_subIn X₂ T.veC)
  refine kxs_getMethod kxs_ValueError e2 (looks_opaque X₂ T.third) (l₀ := .ref C :: bm) (fun A Q E s k q => wpAny_bind ((looks_clsIn X₂ hcl) A _ E s k (wpAny_pure q))) rfl X₂ hsup hI hCx (by decide) ?_
  -- the call
  have hu : (h2.push (kxs_mw "ValueError.__init__" x)).get? h2.objs.size = some (kxs_mw "ValueError.__init__" x) := Heap.get?_push_size _ rfl
  have k3 : ∀ b o, h2.get? b = some o → (h2.push (kxs_mw "ValueError.__init__" x)).get? b = some o := fun b o e => Heap.get?_push_of_some _ e
  refine kxs_callWith (i := "ValueError.__init__") (x := x) rfl (evalArgs_plain (Calls.spliced_cons ?_))
  have hns3 : (h2.push (kxs_mw "ValueError.__init__" x)).Ns hp.objs.size (fun y => ([("self", Value.ref x), ("line", v)] : List (Str × Value)).reverse.lookup y) := (hns.keeps k2).keeps k3
  refine wpAny_Name (wpAny_loadName_local (v := v) rfl (by first | rfl | with_unfolding_all rfl | kernel_rfl) hns3 (by first | rfl | with_unfolding_all rfl | kernel_rfl) ?_)
  refine Calls.spliced_nil ⟨hu, ?_⟩
  refine call_mw (k3 _ _ (X₂ _ _ hC)) (k3 _ _ I₂.at_) hu (one_size v) (fun h4 t1 k4 hx4 => ?_)
  -- self.line = line
  have hns4 : h4.Ns hp.objs.size (fun y => ([("self", Value.ref x), ("line", v)] : List (Str × Value)).reverse.lookup y) := by
    obtain ⟨oL, es, ep, hL, r⟩ := hns3
    exact ⟨oL, es, ep, k4 _ _ hxL hL, r⟩
  have kx : ∀ b o, b ≠ x → hp.get? b = some o → h4.get? b = some o := fun b o hb e => k4 b o hb (k3 _ _ (k2 _ _ (k _ _ e)))
  have X₄ : K.In h4 := fun a o e => k4 a o (fun z => by rw [z, hnx] at e; cases e) (k3 _ _ (X₂ a o e))
  refine ks_wpAt_execs_cons (wpAt_of_wpAny (plainObj_wpAny_Assign_Attribute ?_))
  refine wpAny_Name (wpAny_loadName_local (v := v) rfl (by first | rfl | with_unfolding_all rfl | kernel_rfl) hns4 (by first | rfl | with_unfolding_all rfl | kernel_rfl) ?_)
  refine wpAny_Name (wpAny_loadName_local (v := .ref x) rfl (by first | rfl | with_unfolding_all rfl | kernel_rfl) hns4 (by first | rfl | with_unfolding_all rfl | kernel_rfl) ?_)
  refine set_plain X₄ (ox := excO C t1) (od := none) ⟨hx4, rfl, rfl, trivial⟩ T.sa ?_
  refine exc_osa X₄ hx4 hcl (show refsVE (.ref C :: bm) = true from hbm) rfl T.noN (fun h₅ tk₅ dx k₅ dn dne hx₅ hn₅ => ?_)
  have zL : hp.objs.size < h4.objs.size := hns4.lt
  exact wpAt_of_wpAny (wpAny_execs_nil (hq h₅ tk₅ dx ⟨fun b o hb e => k₅ b o hb (kx b o hb e), ⟨_, hx₅⟩, Nat.le_of_lt (Nat.lt_of_lt_of_le zL dn), dne, hn₅⟩))
/-- a made BadText -/
structure OwnMade (h h' : Heap) (e C d : Addr) (v : Value) : Prop where
  keep : ∀ b o, h.get? b = some o → h'.get? b = some o
  new : h.objs.size ≤ e
  obj : ∃ oe vs, h'.get? e = some oe ∧ oe.cls = .ref C ∧ oe.dict = some d ∧ oe.data = .fields vs ∧ vs[1]? = some .none
  dbig : h.objs.size ≤ d
  dne : d ≠ e
  ns : h'.Ns1 d (fun y => if y = "line" then some v else none)
theorem sup_made (T : SupTxt prog K mg C fI) {v : Value} (X : K.In s.heap) (hlim : s.heap.NoLimit) (hG : s.heap.Ns mainGlobals mg) (hB : s.heap.Ns builtinsNs mb) (hbs : mb "super" = some (.type "super")) (hroom : A.depth + 1 < recursionLimit)
    (hq : ∀ h' tk e d, OwnMade s.heap h' e C d v → R (.ok (.ret (.ref e))) { s with heap := h', toks := tk }) :
    codeAny (model prog w) A (.call (.ref C) ⟨[v], []⟩) R s := by
  obtain ⟨nm, q, N, bs, bm, sn, sub, ab, col, dd, k0, k1, k2, k3, k5, hC, hbm⟩ := T.cls
  obtain ⟨hp, g, dr, tk, os⟩ := s
  have k : ∀ b o, hp.get? b = some o → ((hp.push (kdv_tup [v])).push (excO C hp.objs.size)).get? b = some o := fun b o e => Heap.get?_push_of_some _ (Heap.get?_push_of_some _ e)
  have hget : ((hp.push (kdv_tup [v])).push (excO C hp.objs.size)).get? (hp.objs.size + 1) = some (excO C hp.objs.size) := by heap_get
  have hnx : K.lookup (hp.objs.size + 1) = none := by
    cases e : K.lookup (hp.objs.size + 1) with
    | none => rfl
    | some o =>
      have z : hp.get? (hp.objs.size + 1) = some o := X _ _ e
      exact absurd (Nat.lt_of_succ_lt (Heap.lt_size z)) (Nat.lt_irrefl _)
  refine call_own F.excBase_ValueError (fun X => refsVE_contains X bm hbm) (X _ _ hC) (looks_findIn X T.iC) (fun self => bind_fn X self T.tC) (one_size v) ?_
  refine sup_init (s := ⟨(hp.push (kdv_tup [v])).push (excO C hp.objs.size), g, dr, tk, os⟩) T (X.keeps k) (hlim.keeps k) (hG.keeps k) (hB.keeps k) hbs hget hnx ?_ fun h' tk' dx ⟨k', hx, dn, dne, hns⟩ => ?_
  · show A.depth + 1 < recursionLimit
    exact hroom
  · have old : ∀ b o, hp.get? b = some o → h'.get? b = some o := fun b o e => k' b o (Nat.ne_of_lt (Nat.lt_succ_of_lt (Heap.lt_size e))) (k b o e)
    have z : hp.objs.size + 1 + 1 ≤ dx := by
      first
        | (simpa only [Heap.size_push] using dn)
        | exact dn
        | (have q := dn; rw [Heap.size_push, Heap.size_push] at q; exact q)
    obtain ⟨t1, hx⟩ := hx
    exact ⟨rfl, hq h' tk' (hp.objs.size + 1) dx ⟨old, Nat.le_succ _, ⟨_, _, hx, rfl, rfl, rfl, rfl⟩, Nat.le_trans (Nat.le_trans (Nat.le_succ _) (Nat.le_succ _)) z, dne, hns⟩⟩
end
end SupXBadText
end PySem
namespace L2
open PySem PySem.Spec PyProof.Rows
section
variable {X : Cx} {C fI : Addr}
theorem relO_line {v : V} {v' : Value} (r : RelV v v') (f : Str) : RelO (List.lookup f [(("line" : Str), v)]) (if f = "line" then some v' else none) := by
  by_cases hw : f = "line"
  · subst hw
    rw [if_pos rfl]
    have q : List.lookup ("line" : Str) [(("line" : Str), v)] = some v := by simp [List.lookup]
    rw [q]
    exact r
  · rw [if_neg hw]
    have qw : (f == ("line" : Str)) = false := by simpa using hw
    have q2 : List.lookup f [(("line" : Str), v)] = none := by simp [List.lookup, qw]
    rw [q2]
    trivial
/-- BadText(e) -/
def tMkBadText (C : Addr) (ta : TA) : St → Hp → XK → Prop := fun σ H Q => ta σ H fun vs H1 => ∃ v, vs = [v] ∧ ∀ d, H1 d = none → Q (.ref C) (some d) (upd H1 d (.xd [(("line" : Str), v)]))
theorem pmk_BadText {a : Expr} {ta : TA} {p pos : Pos} {k : Nat} (T : PySem.SupXBadText.SupTxt X.prog X.K X.mg C fI) (hr : Room k X.A) (ha : PA X [a] ta) (hg : Gl X "BadText" := by rfl)
    (he : starEach (a :: []) X.env = (false, eval a X.env) :: starEach [] X.env := by rfl) (hpl : (backTo pos (starEach [] X.env)).any (·.1) = false := by rfl) :
    PMk X (.Call (.Name "BadText" p) [a] [] pos) (tMkBadText C ta) := by
  intro pins s σ H Q I h
  refine wpAny_Call_Name_kw (ld_glob I hg T.gC ?_)
  refine PySem.W.callWith_K (h₀ := X.base) I.ok.mod.kin T.kC (thn (ha.run pos pins s σ H _ I h) fun us s1 hh => ?_) he hpl
  obtain ⟨vs, H1, I1, r1, v, ev, q1⟩ := hh
  subst ev
  refine ⟨I1.kIn, ?_⟩
  cases r1 with
  | cons rv rn =>
    rename_i v' us'
    cases rn
    show wpAny _ _ (call (.ref C) [v']) _ _ _
    have hlim := I1.nolimit
    obtain ⟨mb, hB0, hmb⟩ := I1.mod.blt
    have hG := I1.mod.glob.keeps I1.bk
    have hB := hB0.keeps I1.bk
    have hbs : mb "super" = some (.type "super") := (hmb _ (by decide)).trans (by first | boot_by_name | rfl | kernel_rfl)
    obtain ⟨hp, g, dr, tk, os⟩ := s1
    refine wpAny_call (PySem.SupXBadText.sup_made T I1.kIn hlim hG hB hbs (by have := hr.dp; omega) fun h' tk' e d M => ?_)
    show MkP X pins σ Q (.ref e) ⟨h', g, dr, tk', os⟩
    obtain ⟨oe, fv, hoe, hc, hd, hdat, h1⟩ := M.obj
    have hns := M.ns
    obtain ⟨G', g1, g2⟩ := restrict h' fun b => decide (b ≠ e)
    have gk : ∀ b, b ≠ e → G'.get? b = h'.get? b := fun b hb => g1 b (decide_eq_true hb)
    have ge : G'.get? e = none := g2 e (by simp)
    have old : ∀ b o, hp.get? b = some o → G'.get? b = some o := fun b o q => (gk b (Nat.ne_of_lt (Nat.lt_of_lt_of_le (Heap.lt_size q) M.new))).trans (M.keep b o q)
    have ob : ObjOk X.prog X.w (upd H1 d (.xd [(("line" : Str), v)])) G' d (.xd [(("line" : Str), v)]) :=
      ⟨_, hns.at (fun o q => (gk d M.dne).trans q), fun f => relO_line rv f⟩
    have J : Inv X pins σ (upd H1 d (.xd [(("line" : Str), v)])) ⟨G', g, dr, tk', os⟩ := I1.laid (t' := tk') old M.dbig ob
    refine ⟨e, oe, fv, ⟨G', g, dr, tk', os⟩, _, .ref C, some d, rfl, J, fun b o q => ?_, ge, hoe, ⟨hc, hd⟩, hdat, h1, ?_, rfl, I1.bare, raises_own T.exC T.tyC, q1 d (I1.hok.fresh M.dbig)⟩
    · by_cases hb : b = e
      · have q' : G'.get? b = some o := q
        rw [hb, ge] at q'; cases q'
      · exact (gk b hb).symm.trans q
    · rw [upd_ne (Ne.symm M.dne)]
      exact I1.hok.fresh M.new
/-- raise BadText(e) -/
def tRaiseBadText (C : Addr) (W : WX) (ta : TA) : TS := fun _ σ H => tMkBadText C ta σ H fun cls d H' => W cls d σ H'
theorem ps_raiseBadText {a : Expr} {ta : TA} {W : WX} {p pos pos2 : Pos} {k : Nat} (hc : X.calm = true) (T : PySem.SupXBadText.SupTxt X.prog X.K X.mg C fI) (hr : Room k X.A) (tk : Takes X W) (ha : PA X [a] ta) (hg : Gl X "BadText" := by rfl)
    (he : starEach (a :: []) X.env = (false, eval a X.env) :: starEach [] X.env := by rfl) (hpl : (backTo pos (starEach [] X.env)).any (·.1) = false := by rfl) :
    PS X (.Raise (some (.Call (.Name "BadText" p) [a] [] pos)) none pos2) (tRaiseBadText C W ta) := ps_raise hc tk (pmk_BadText T hr ha hg he hpl)
/-- x.line, x the exception that the suite holds (at a; its class cls, its dict d) -/
def tByBadText (C : Addr) (a : Addr) (cls : Value) (d : Option Addr) (te : TE) : TE := fun σ H Q => te σ H fun x H1 => x = .ref a ∧ cls = .ref C ∧ ∃ (dd : Addr) (v : V), d = some dd ∧ H1 dd = some (.xd [(("line" : Str), v)]) ∧ Q v H1
theorem pe_byBadText {a : Addr} {oe : Obj} {cls : Value} {d : Option Addr} {pn : List (Addr × Obj)} {e : Expr} {te : TE} {pos : Pos} (T : PySem.SupXBadText.SupTxt X.prog X.K X.mg C fI) (hz : Zc cls d oe) (hf : ∃ vs, oe.data = .fields vs) (he : PE (X.suite a ((a, oe) :: pn)) e te)
    (hb : attributeBase e "line" X.env (eval e X.env) = eval e X.env := by rfl) :
    PE (X.suite a ((a, oe) :: pn)) (.Attribute e "line" pos) (tByBadText C a cls d te) := by
  refine ⟨fun pins s σ H Q I h => ?_⟩
  refine attr_of hb (thn (he.run pins s σ H _ I h) fun u s1 hh => ?_)
  obtain ⟨x, H1, I1, rx, ex, ec, dd, v, ed, ea, q⟩ := hh
  subst ex
  obtain rfl : u = Value.ref a := rx
  subst ec
  subst ed
  obtain ⟨ha, _⟩ := I1.pin (a, oe) (List.mem_append_left _ List.mem_cons_self)
  obtain ⟨vs, hd⟩ := hf
  have hx : ObjOk X.prog X.w H1 s1.heap dd (.xd [(("line" : Str), v)]) := I1.hok dd _ ea
  obtain ⟨mA, hns, hr⟩ := hx
  obtain ⟨od, ho, hl⟩ := lookIn_ns hns
  have l : List.lookup ("line" : Str) [(("line" : Str), v)] = some v := by simp [List.lookup]
  obtain ⟨u, hu, ru⟩ := RelO.some_of (v := v) (o := mA "line") (by rw [← l]; exact hr "line")
  have J : PySem.W.InstAt s1.heap a oe C (some od) := ⟨ha, hz.1, by unfold PySem.W.notCls; rw [hd] <;> rfl, by rw [hz.2]; exact ho⟩
  exact HandSPX.exc_get I1.kIn J T.ga T.gg T.exC (PySem.W.findObj_own T.hdC T.noN rfl (by rw [hl, hu])) (handed_of ru) ⟨v, H1, I1.tok _, ru, q⟩
end
end L2
namespace K01
open PySem L2
abbrev s_note_end : Stmt := top 21
abbrev N_note_end : List Str := ["text", "at", "line", "end"]
abbrev P_note_end : List Str := ["text", "at", "line"]
theorem sc_note_end : FnScope N_note_end P_note_end (defScope s_note_end) := ⟨rfl, rfl, rfl, by decide +kernel, rfl, by decide +kernel, by decide +kernel⟩
abbrev s_stretch_word : Stmt := top 22
abbrev N_stretch_word : List Str := ["word", "line"]
abbrev P_stretch_word : List Str := ["word", "line"]
theorem sc_stretch_word : FnScope N_stretch_word P_stretch_word (defScope s_stretch_word) := ⟨rfl, rfl, rfl, by decide +kernel, rfl, by decide +kernel, by decide +kernel⟩
structure Txc (P : Program) (K : PySem.W.Frag) (mg : Str → Option Value) : Prop extends Txa K mg where
  e_BadText : PySem.SupXBadText.SupTxt P K mg (He.ga K "BadText") (He.ma K (He.ga K "BadText") "__init__")
  e_NoText : ErrTxt K mg "NoText" (He.ga K "NoText")
def Bads (K : PySem.W.Frag) (E : XK) (H : Hp) (l : Int) : Prop := ∀ d, H d = none → E (.ref (He.ga K "BadText")) (some d) (upd H d (.xd [(("line" : Str), V.int l)]))
def spNoteEnd (K : PySem.W.Frag) : Sp := fun vs H Q E => ∃ (t : List Nat) (a : Nat) (l : Int), vs = [.str (Sg t), .int a, .int l] ∧ t.length ≤ big ∧ a ≤ t.length ∧ ∀ H', Same H H' →
  if (upTo 10 (t.drop a)).all isS = true then Q (.int ((a + (upTo 10 (t.drop a)).length : Nat) : Int)) H' else Bads K E H' l
def stretchTok (w : List Nat) : Option (Str × V) := if keyB w = true then some ("key", .str (Sg w)) else if nameB w = true then some (("name" : Str), V.str (Sg w)) else if numB w = true then some (("number" : Str), V.int (valW w)) else none
def spStretch (K : PySem.W.Frag) : Sp := fun vs H Q E => ∃ (x : List Nat) (l : Int), vs = [.str (Sg x), .int l] ∧ x.length ≤ big ∧ ∀ H', Same H H' → match stretchTok x with
  | some (s, v) => ∀ p, H' p = none → Q (.ref p) (upd H' p (.tup [.str s, v]))
  | none => Bads K E H' l
theorem take_upTo (t : List Nat) (c : Nat) : t.take (upTo c t).length = upTo c t := by
  unfold L2.upTo
  induction t with
  | nil => rfl
  | cons x r ih =>
    rw [List.takeWhile_cons]
    split
    · rw [List.length_cons, List.take_succ_cons, ih]
    · rfl
theorem upTo_le (t : List Nat) (c : Nat) : (upTo c t).length ≤ t.length := by
  rw [← take_upTo t c, List.length_take]
  omega
section
variable {P : Program} {w : World} {K : PySem.W.Frag} {mg : Str → Option Value} {base : Heap}
theorem ok_note_end (T : Txc P K mg) {f : Addr} {fd : FuncData} (F : FnP K "note_end" s_note_end f fd) (D_line_end : Cal P w K mg base CX0 1 "line_end" P_line_end spLineEnd) (D_are_signs : Cal P w K mg base CX0 1 "are_signs" P_are_signs spSigns) :
    FnOk P w K mg base (L2.CX P w) 2 f fd P_note_end (spNoteEnd K) := by
  refine F.ok sc_note_end (fun vs H Q E h => ?_) (fun cdv A outer s H vs Q E hr h => ?_)
  · obtain ⟨t, a, l, rfl, _⟩ := h
    rfl
  · obtain ⟨t, a, l, rfl, hz, ha, q⟩ := h
    refine ⟨_, (pss_cons (ps_set (i := 3) sc_note_end.nd rfl (Or.inl rfl) (pe_cal D_line_end hr rfl rfl pass0 (pa_cons (pv 0) (pa_cons (pv 1) pa_nil))))
  (pss_cons (ps_if (pt_not (pt_val (pe_cal D_are_signs hr rfl rfl pass0 (pa_cons (pe_slice sl_str (pv 0) (po_some (pv 1)) (po_some (pv 3))) pa_nil)))) (pss_one (ps_raiseBadText rfl T.e_BadText hr (takes_of rfl rfl rfl rfl) (pa_cons (pv 2) pa_nil))) pss_nil)
  (pss_one (ps_ret (pv 3))))), ?_⟩
    walk_at "w"
    refine ⟨t, a, rfl, hz, ha, ?_⟩
    walk_at "w"
    have e : (t.drop a).take (a + (upTo 10 (t.drop a)).length - a) = upTo 10 (t.drop a) := by
      rw [Nat.add_sub_cancel_left, take_upTo]
    rw [e]
    have hb : (upTo 10 (t.drop a)).length ≤ big := Nat.le_trans (upTo_le _ _) (by rw [List.length_drop]; omega)
    refine ⟨_, rfl, hb, fun H' s' => ?_⟩
    have q1 := q H' s'
    walk_at "w"
    cases hs : (upTo 10 (t.drop a)).all isS with
    | true =>
      rw [hs, if_pos rfl] at q1
      refine w_nt ?_
      walk_at "w"
      exact q1
    | false =>
      rw [hs, if_neg Bool.false_ne_true] at q1
      refine w_nf ?_
      exact ⟨_, rfl, _, rfl, fun d hd => q1 d hd⟩
theorem ok_stretch_word (T : Txc P K mg) {f : Addr} {fd : FuncData} (F : FnP K "stretch_word" s_stretch_word f fd) (D_is_name : Cal P w K mg base CX0 1 "is_name" P_is_name spIsName) (D_is_number_word : Cal P w K mg base CX0 1 "is_number_word" P_is_number_word spNum) :
    FnOk P w K mg base (L2.CX P w) 2 f fd P_stretch_word (spStretch K) := by
  refine F.ok sc_stretch_word (fun vs H Q E h => ?_) (fun cdv A outer s H vs Q E hr h => ?_)
  · obtain ⟨x, l, rfl, _⟩ := h
    rfl
  · obtain ⟨x, l, rfl, hz, q⟩ := h
    refine ⟨_, (pss_cons (ps_if (pt_cmpR op_in_seq (pv 0) (pe_gr T.g_KEYS) (by rfl)) (pss_one (ps_ret (pe_tup (pa_cons pe_str (pa_cons (pv 0) pa_nil))))) pss_nil)
  (pss_cons (ps_if (pt_val (pe_cal D_is_name hr rfl rfl pass0 (pa_cons (pv 0) pa_nil))) (pss_one (ps_ret (pe_tup (pa_cons pe_str (pa_cons (pv 0) pa_nil))))) pss_nil)
  (pss_cons (ps_if (pt_not (pt_val (pe_cal D_is_number_word hr rfl rfl pass0 (pa_cons (pv 0) pa_nil)))) (pss_one (ps_raiseBadText rfl T.e_BadText hr (takes_of rfl rfl rfl rfl) (pa_cons (pv 1) pa_nil))) pss_nil)
  (pss_one (ps_ret (pe_tup (pa_cons pe_str (pa_cons (pe_callTy call_intS (by rfl) T.f_int (by decide +kernel) (pa_cons (pv 0) pa_nil)) pa_nil)))))))), ?_⟩
    have n1 : stretchTok x = if keyB x = true then some (("key" : Str), V.str (Sg x)) else if nameB x = true then some (("name" : Str), V.str (Sg x)) else if numB x = true then some (("number" : Str), V.int (valW x)) else none := rfl
    walk_at "w"
    refine w_inK (T.t_KEYS H) ?_
    walk_at "w"
    refine w_2 (fun h1 => ?_) (fun h1 => ?_)
    · rw [if_pos (show keyB x = true from h1)] at n1
      have q1 := q H (Same.refl H)
      rw [n1] at q1
      walk_at "w"
      exact ⟨by show 2 ≤ sizeLine; decide, fun p hp => q1 p hp⟩
    · rw [if_neg (show ¬ keyB x = true by rw [show keyB x = false from h1]; exact Bool.false_ne_true)] at n1
      walk_at "w"
      refine ⟨x, rfl, hz, fun H1 s1 => ?_⟩
      walk_at "w"
      refine w_2 (fun h2 => ?_) (fun h2 => ?_)
      · rw [if_pos h2] at n1
        have q1 := q H1 s1
        rw [n1] at q1
        walk_at "w"
        exact ⟨by show 2 ≤ sizeLine; decide, fun p hp => q1 p hp⟩
      · rw [if_neg (by rw [h2]; exact Bool.false_ne_true)] at n1
        walk_at "w"
        refine ⟨x, rfl, hz, fun H2 s2 => ?_⟩
        have q1 := q H2 (s1.trans s2)
        walk_at "w"
        cases h3 : numB x with
        | true =>
          rw [if_pos h3] at n1
          rw [n1] at q1
          refine w_nt ?_
          walk_at "w"
          have z := h3
          unfold numB at z
          simp only [Bool.and_eq_true, decide_eq_true_eq] at z
          refine ⟨Sg x, valW x, rfl, int_digits z.2.2.1 z.1 z.2.1, by rw [Sg_len]; omega, ?_⟩
          walk_at "w"
          exact ⟨by show 2 ≤ sizeLine; decide, fun p hp => q1 p hp⟩
        | false =>
          rw [if_neg (by rw [h3]; exact Bool.false_ne_true)] at n1
          rw [n1] at q1
          refine w_nf ?_
          exact ⟨_, rfl, _, rfl, fun d hd => q1 d hd⟩
end
end K01
namespace K01
open PySem L2
abbrev s_word_from : Stmt := top 23
abbrev N_word_from : List Str := ["text", "at", "line", "end"]
abbrev P_word_from : List Str := ["text", "at", "line"]
theorem sc_word_from : FnScope N_word_from P_word_from (defScope s_word_from) := ⟨rfl, rfl, rfl, by decide +kernel, rfl, by decide +kernel, by decide +kernel⟩
structure Txd (n : Nat) (P : Program) (K : PySem.W.Frag) (mg : Str → Option Value) : Prop extends Txc P K mg where
  q : ∃ t0 : Tok, mg "QUOTE" = some (.str (Sg [34]) t0) ∧ t0 ≠ 0 ∧ t0 < n
theorem take_stretch (t : List Nat) : t.take (stretch t).length = stretch t := by
  unfold stretch
  induction t with
  | nil => rfl
  | cons x r ih =>
    rw [List.takeWhile_cons]
    split
    · rw [List.length_cons, List.take_succ_cons, ih]
    · rfl
theorem stretch_le (t : List Nat) : (stretch t).length ≤ t.length := by
  rw [← take_stretch t, List.length_take]
  omega
/-- the word ahead: its sort, its worth, how many signs it has -/
def wordAt (u : List Nat) : Option (Str × V × Nat) := if (stretch u).length = 0 then (match u with
  | [] => none
  | c :: r => if c = 34 then (qEnd r).map fun k => (("text" : Str), V.str (Txt.replace (Sg (r.take k)) (Sg [34] ++ Sg [34]) (Sg [34])), k + 2)
    else if pairB ((c :: r).take 2) = true then some (("mark" : Str), V.str (Sg ((c :: r).take 2)), 2) else if isM c = true then some (("mark" : Str), V.str (Sg [c]), 1) else none)
  else (stretchTok (stretch u)).map fun p => (p.1, p.2, (stretch u).length)
def spWordFrom (K : PySem.W.Frag) : Sp := fun vs H Q E => ∃ (t : List Nat) (a : Nat) (l : Int), vs = [.str (Sg t), .int a, .int l] ∧ t.length ≤ big ∧ a < t.length ∧ ∀ H', Same H H' → match wordAt (t.drop a) with
  | some (s, v, k) => ∀ p, H' p = none → Q (.ref p) (upd H' p (.tup [.str s, v, .int ((a + k : Nat) : Int)]))
  | none => Bads K E H' l
section
variable {P : Program} {w : World} {K : PySem.W.Frag} {mg : Str → Option Value} {base : Heap} {n : Nat}
theorem ok_word_from (T : Txd n P K mg) {f : Addr} {fd : FuncData} (F : FnP K "word_from" s_word_from f fd) (D_stretch_end : Cal P w K mg base CX0 1 "stretch_end" P_stretch_end spStretchEnd) (D_text_end : Cal P w K mg base CX0 1 "text_end" P_text_end spTextEnd)
    (D_stretch_word : Cal P w K mg base (L2.CX P w) 2 "stretch_word" P_stretch_word (spStretch K)) : FnN n P w K mg base (L2.CX P w) 3 f fd P_word_from (spWordFrom K) := by
  obtain ⟨t0, hq, q0, q1⟩ := T.q
  refine F.okN sc_word_from (fun vs H Q E h => ?_) (fun cdv A outer s H vs Q E hr h => ?_)
  · obtain ⟨t, a, l, rfl, _⟩ := h
    rfl
  · obtain ⟨t, a, l, rfl, hz, ha, q⟩ := h
    refine ⟨_, (pssn_cons (psn_of (ps_set (i := 3) sc_word_from.nd rfl (Or.inl rfl) (pe_cal D_stretch_end hr rfl rfl pass0 (pa_cons (pv 0) (pa_cons (pv 1) pa_nil)))))
  (pssn_cons (psn_of (ps_if (pt_cmpR op_gt (pv 3) (pv 1) (nomark _)) (pss_one (ps_ret (pe_op op_catT (pe_calS D_stretch_word hr rfl rfl (takes_of rfl rfl rfl rfl) (pa_cons (pe_slice sl_str (pv 0) (po_some (pv 1)) (po_some (pv 3))) (pa_cons (pv 2) pa_nil))) (pe_tup (pa_cons (pv 3) pa_nil))))) pss_nil))
  (pssn_cons (psn_if (ptn_of (pt_cmpR op_eq (pe_ix ix_str (pv 0) (pv 1) (fun _ _ => rfl)) (pe_gs T.g_QUOTE) (nomark _))) (pssn_cons (psn_of (ps_set (i := 3) sc_word_from.nd rfl (Or.inl rfl) (pe_cal D_text_end hr rfl rfl pass0 (pa_cons (pv 0) (pa_cons (pv 1) pa_nil)))))
  (pssn_cons (psn_of (ps_if (pt_cmp (pc_isN (pv 3)) rfl) (pss_one (ps_raiseBadText rfl T.e_BadText hr (takes_of rfl rfl rfl rfl) (pa_cons (pv 2) pa_nil))) pss_nil))
  (pssn_one (psn_ret (pen_tup (pan_cons (pen_of pe_str) (pan_cons (pen_repG (pen_of (pe_slice sl_str (pv 0) (po_some (pe_op op_add (pv 1) pe_int)) (po_some (pv 3)))) rfl hq q0 q1 (by decide +kernel) (by decide +kernel) (by decide +kernel)) (pan_cons (pen_of (pe_op op_add (pv 3) pe_int)) (pan_of pa_nil))))))))) pssn_nil)
  (pssn_cons (psn_of (ps_if (pt_cmpR op_in_seq (pe_slice sl_str (pv 0) (po_some (pv 1)) (po_some (pe_op op_add (pv 1) pe_int))) (pe_gr T.g_PAIRS) (by rfl)) (pss_one (ps_ret (pe_tup (pa_cons pe_str (pa_cons (pe_slice sl_str (pv 0) (po_some (pv 1)) (po_some (pe_op op_add (pv 1) pe_int))) (pa_cons (pe_op op_add (pv 1) pe_int) pa_nil)))))) pss_nil))
  (pssn_cons (psn_of (ps_if (pt_cmpR op_notInSg (pe_ix ix_str (pv 0) (pv 1) (fun _ _ => rfl)) (pe_gs T.g_MARKS) (by rfl)) (pss_one (ps_raiseBadText rfl T.e_BadText hr (takes_of rfl rfl rfl rfl) (pa_cons (pv 2) pa_nil))) pss_nil))
  (pssn_one (psn_of (ps_ret (pe_tup (pa_cons pe_str (pa_cons (pe_ix ix_str (pv 0) (pv 1) (fun _ _ => rfl)) (pa_cons (pe_op op_add (pv 1) pe_int) pa_nil)))))))))))), ?_⟩
    obtain ⟨c, hc⟩ := at_lt ha
    have dr := drop_at hc
    have qn := q H (Same.refl H)
    walk_at "w"
    refine ⟨t, a, rfl, hz, Nat.le_of_lt ha, ?_⟩
    walk_at "w"
    have n1 : wordAt (t.drop a) = if (stretch (t.drop a)).length = 0 then _ else (stretchTok (stretch (t.drop a))).map fun p => (p.1, p.2, (stretch (t.drop a)).length) := rfl
    refine w_2 (fun h1 => ?_) (fun h1 => ?_)
    · have h1 : (stretch (t.drop a)).length ≠ 0 := by
        have z := of_decide_eq_true h1
        omega
      rw [if_neg h1] at n1
      walk_at "w"
      rw [Nat.add_sub_cancel_left, take_stretch]
      refine ⟨stretch (t.drop a), l, rfl, Nat.le_trans (stretch_le _) (by rw [List.length_drop]; omega), fun H1 s1 => ?_⟩
      cases hs : stretchTok (stretch (t.drop a)) with
      | none =>
        rw [hs] at n1
        have q1 := q H1 s1
        rw [n1] at q1
        exact fun d hd => q1 d hd
      | some sv =>
        obtain ⟨s, v⟩ := sv
        rw [hs] at n1
        intro p hp
        walk_at "w"
        refine ⟨by show 1 ≤ sizeLine; decide, fun p2 hp2 => ?_⟩
        have s2 := s1.trans (sameUpd (o := .tup [.str s, v]) hp)
        have s3 := s2.trans (sameUpd (o := .tup [.int ((a + (stretch (t.drop a)).length : Nat) : Int)]) hp2)
        have hne : p ≠ p2 := ne_of_none (upd_same (H := H1) (a := p) (o := .tup [.str s, v])) hp2
        refine ⟨p, p2, [.str s, v], [.int ((a + (stretch (t.drop a)).length : Nat) : Int)], rfl, rfl, .of ?_, .of upd_same, by simp, by show 3 ≤ sizeLine; decide, (fun e => nomatch e), fun _ p3 hp3 => ?_⟩
        · rw [upd_ne hne]
          exact upd_same
        · have q1 := q _ s3
          rw [n1] at q1
          exact q1 p3 hp3
    · have h1 : (stretch (t.drop a)).length = 0 := by
        have z := of_decide_eq_false h1
        omega
      have n1 : wordAt (t.drop a) = if c = 34 then (qEnd (t.drop (a + 1))).map fun k => (("text" : Str), V.str (Txt.replace (Sg ((t.drop (a + 1)).take k)) (Sg [34] ++ Sg [34]) (Sg [34])), k + 2)
          else if pairB ((t.drop a).take 2) = true then some (("mark" : Str), V.str (Sg ((t.drop a).take 2)), 2) else if isM c = true then some (("mark" : Str), V.str (Sg [c]), 1) else none := by
        unfold wordAt
        rw [if_pos h1, dr]
      walk_at "w"
      refine w_eq rfl ?_
      rw [strEq]
      walk_at "w"
      refine w_2 (fun h2 => ?_) (fun h2 => ?_)
      · obtain rfl : c = 34 := by
          have z := of_decide_eq_true h2
          injection z
        rw [if_pos rfl] at n1
        walk_at "w"
        refine ⟨t, a, rfl, hz, ha, ?_⟩
        walk_at "w"
        cases hk : qEnd (t.drop (a + 1)) with
        | none =>
          rw [hk] at n1
          rw [n1] at qn
          rw [show oI (Option.map (a + 1 + ·) none) = V.non from rfl, decide_eq_true (rfl : V.non = V.non)]
          refine w_t ?_
          exact ⟨_, rfl, _, rfl, fun d hd => qn d hd⟩
        | some k =>
          rw [hk] at n1
          rw [n1] at qn
          rw [show oI (Option.map (a + 1 + ·) (some k)) = V.int ((a + 1 + k : Nat) : Int) from rfl, decide_eq_false (fun z : V.int ((a + 1 + k : Nat) : Int) = V.non => by cases z)]
          walk_at "w"
          refine w_slSg (a := a + 1) (b := a + 1 + k) hz ?_
          rw [Nat.add_sub_cancel_left]
          refine ⟨_, rfl, ?_, ?_⟩
          · rw [Sg_len, Sg_len, List.length_take, List.length_drop]
            have : big = 200000 := rfl
            show min k (t.length - (a + 1)) + (min k (t.length - (a + 1)) + 1) * 1 ≤ 16777216
            omega
          · walk_at "w"
            refine ⟨by show 3 ≤ sizeLine; decide, fun p hp => ?_⟩
            have z := qn p hp
            rw [show (((a + (k + 2) : Nat) : Nat) : Int) = ((a + 1 + k : Nat) : Int) + 1 by omega] at z
            exact z
      · have h2 : c ≠ 34 := fun z => by
          have y := of_decide_eq_false h2
          rw [z] at y
          exact y rfl
        rw [if_neg h2] at n1
        walk_at "w"
        refine w_slSg (a := a) (b := a + 2) hz ?_
        rw [Nat.add_sub_cancel_left]
        walk_at "w"
        refine w_inK (T.t_PAIRS H) ?_
        walk_at "w"
        refine w_2 (fun h3 => ?_) (fun h3 => ?_)
        · rw [if_pos (show pairB ((t.drop a).take 2) = true from h3)] at n1
          rw [n1] at qn
          walk_at "w"
          refine w_slSg (a := a) (b := a + 2) hz ?_
          rw [Nat.add_sub_cancel_left]
          walk_at "w"
          exact ⟨by show 3 ≤ sizeLine; decide, fun p hp => qn p hp⟩
        · rw [if_neg (show ¬ pairB ((t.drop a).take 2) = true by rw [show pairB ((t.drop a).take 2) = false from h3]; exact Bool.false_ne_true)] at n1
          walk_at "w"
          refine w_2 (fun h4 => ?_) (fun h4 => ?_)
          · rw [if_neg (show ¬ isM c = true by rw [show isM c = false from (Bool.not_eq_true' _).mp h4]; exact Bool.false_ne_true)] at n1
            rw [n1] at qn
            exact ⟨_, rfl, _, rfl, fun d hd => qn d hd⟩
          · rw [if_pos (show isM c = true from (Bool.not_eq_false' ..).mp h4)] at n1
            rw [n1] at qn
            walk_at "w"
            exact ⟨by show 3 ≤ sizeLine; decide, fun p hp => qn p hp⟩
end
end K01
namespace K01
open PySem L2
abbrev s_words : Stmt := top 24
abbrev N_words : List Str := ["text", "found", "at", "line", "sort", "word"]
abbrev P_words : List Str := ["text"]
theorem sc_words : FnScope N_words P_words (defScope s_words) := ⟨rfl, rfl, rfl, by decide +kernel, rfl, by decide +kernel, by decide +kernel⟩
structure Tok where
  s : Str
  v : V
  l : Int
abbrev Res := Except Int (List Tok)
def Res.cons (k : Tok) : Res → Res
  | .ok ts => .ok (k :: ts)
  | .error n => .error n
def Res.app (d : List Tok) : Res → Res
  | .ok ts => .ok (d ++ ts)
  | .error n => .error n
theorem Res.app_cons (d : List Tok) (k : Tok) (r : Res) : Res.app d (Res.cons k r) = Res.app (d ++ [k]) r := by
  cases r with
  | error n => rfl
  | ok ts =>
    show Except.ok (d ++ k :: ts) = Except.ok (d ++ [k] ++ ts)
    rw [List.append_assoc] <;> rfl
/-- a text's words, from a line on -/
inductive Lex : List Nat → Int → Res → Prop
  | nil {l : Int} : Lex [] l (.ok [])
  | note {u : List Nat} {l : Int} {r : Res} (h : (upTo 10 (35 :: u)).all isS = true) (k : Lex ((35 :: u).drop (upTo 10 (35 :: u)).length) l r) : Lex (35 :: u) l r
  | noteBad {u : List Nat} {l : Int} (h : (upTo 10 (35 :: u)).all isS = false) : Lex (35 :: u) l (.error l)
  | blank {u : List Nat} {l : Int} {r : Res} (k : Lex u l r) : Lex (32 :: u) l r
  | line {u : List Nat} {l : Int} {r : Res} (k : Lex u (l + 1) r) : Lex (10 :: u) l r
  | tok {c : Nat} {u : List Nat} {l : Int} {s : Str} {v : V} {k : Nat} {r : Res} (h1 : c ≠ 35) (h2 : c ≠ 32) (h3 : c ≠ 10) (h : wordAt (c :: u) = some (s, v, k)) (n : Lex ((c :: u).drop k) l r) : Lex (c :: u) l (Res.cons ⟨s, v, l⟩ r)
  | bad {c : Nat} {u : List Nat} {l : Int} (h1 : c ≠ 35) (h2 : c ≠ 32) (h3 : c ≠ 10) (h : wordAt (c :: u) = none) : Lex (c :: u) l (.error l)
def TokAt (H : Hp) (x : V) (k : Tok) : Prop := ∃ p, x = .ref p ∧ H p = some (.tup [.str k.s, k.v, .int k.l])
inductive Toks (H : Hp) : List V → List Tok → Prop
  | nil : Toks H [] []
  | cons {x : V} {k : Tok} {xs : List V} {ks : List Tok} : TokAt H x k → Toks H xs ks → Toks H (x :: xs) (k :: ks)
theorem Toks.snoc {H : Hp} {x : V} {k : Tok} : ∀ {xs : List V} {ks : List Tok}, Toks H xs ks → TokAt H x k → Toks H (xs ++ [x]) (ks ++ [k])
  | _, _, .nil, h => .cons h .nil
  | _, _, .cons a r, h => .cons a (r.snoc h)
theorem Toks.length {H : Hp} : ∀ {xs : List V} {ks : List Tok}, Toks H xs ks → xs.length = ks.length
  | _, _, .nil => rfl
  | _, _, .cons _ r => by rw [List.length_cons, List.length_cons, r.length]
theorem TokAt.mono {H H' : Hp} {x : V} {k : Tok} (s : ∀ p xs, H p = some (.tup xs) → H' p = some (.tup xs)) : TokAt H x k → TokAt H' x k := fun ⟨p, e, h⟩ => ⟨p, e, s _ _ h⟩
theorem Toks.mono {H H' : Hp} (s : ∀ p xs, H p = some (.tup xs) → H' p = some (.tup xs)) : ∀ {xs : List V} {ks : List Tok}, Toks H xs ks → Toks H' xs ks
  | _, _, .nil => .nil
  | _, _, .cons a r => .cons (a.mono s) (r.mono s)
def TokL (H : Hp) (a : Addr) (ks : List Tok) : Prop := ∃ xs, H a = some (.lst xs) ∧ Toks H xs ks
def spWords (K : PySem.W.Frag) : Sp := fun vs H Q E => (∃ v, vs = [v] ∧ Kn H v ∧ isSt v = false ∧ E (.ref (He.ga K "NoText")) none H) ∨
  ∃ (t : List Nat) (r : Res), vs = [.str (Sg t)] ∧ t.length ≤ big ∧ Lex t 1 r ∧ ∀ H', Same H H' → match r with
    | .ok ks => ∀ a, H a = none → TokL H' a ks → Q (.ref a) H'
    | .error l => Bads K E H' l
theorem stretchTok_some {w : List Nat} {s : Str} {v : V} (h : stretchTok w = some (s, v)) : True := trivial
theorem wordAt_pos {u : List Nat} {s : Str} {v : V} {k : Nat} (h : wordAt u = some (s, v, k)) : 0 < k := by
  unfold wordAt at h
  split at h
  · split at h
    · cases h
    · split at h
      · obtain ⟨j, _, e⟩ := Option.map_eq_some_iff.mp h
        have e2 : j + 2 = k := congrArg (fun z : Str × V × Nat => z.2.2) e
        omega
      · split at h
        · have e2 : 2 = k := congrArg (fun z : Str × V × Nat => z.2.2) (Option.some.inj h)
          omega
        · split at h
          · have e2 : 1 = k := congrArg (fun z : Str × V × Nat => z.2.2) (Option.some.inj h)
            omega
          · cases h
  · obtain ⟨p, _, e⟩ := Option.map_eq_some_iff.mp h
    have e2 : (stretch u).length = k := congrArg (fun z : Str × V × Nat => z.2.2) e
    omega
theorem qEnd_lt : ∀ (n : Nat) (r : List Nat) (k : Nat), r.length ≤ n → qEnd r = some k → k < r.length
  | _, [], k, _, h => by
    unfold qEnd at h
    cases h
  | 0, _ :: _, _, hn, _ => absurd hn (Nat.not_succ_le_zero _)
  | n + 1, [c], k, hn, h => by
    unfold qEnd at h
    split at h
    · split at h
      · obtain rfl := Option.some.inj h
        exact Nat.succ_pos _
      · cases h
    · cases h
  | n + 1, c :: d :: r, k, hn, h => by
    rw [qEnd] at h
    have hn : r.length + 1 ≤ n := by
      have : (c :: d :: r).length = r.length + 2 := rfl
      omega
    split at h
    · split at h
      · split at h
        · obtain ⟨j, hj, rfl⟩ := Option.map_eq_some_iff.mp h
          have := qEnd_lt n r j (by omega) hj
          show j + 2 < r.length + 2
          omega
        · obtain rfl := Option.some.inj h
          exact Nat.succ_pos _
      · obtain ⟨j, hj, rfl⟩ := Option.map_eq_some_iff.mp h
        have := qEnd_lt n (d :: r) j hn hj
        show j + 1 < r.length + 2
        have e : (d :: r).length = r.length + 1 := rfl
        omega
    · cases h
theorem pair_len {w : List Nat} (h : pairB w = true) : w.length = 2 := by
  unfold pairB inV at h
  rw [List.any_eq_true] at h
  obtain ⟨y, hy, e⟩ := h
  obtain ⟨z, hz, rfl⟩ := List.mem_map.mp hy
  have e : (z == Sg w) = true := e
  have e2 : z = Sg w := beq_iff_eq.mp e
  have e3 : z.length = 2 := (by decide +kernel : ∀ z ∈ PAIRS, z.length = 2) z hz
  rw [e2, Sg_len] at e3
  exact e3
theorem wordAt_le {u : List Nat} {s : Str} {v : V} {k : Nat} (h : wordAt u = some (s, v, k)) : k ≤ u.length := by
  unfold wordAt at h
  split at h
  · split at h
    · cases h
    · rename_i c r _
      split at h
      · obtain ⟨j, hj, e⟩ := Option.map_eq_some_iff.mp h
        have e2 : j + 2 = k := congrArg (fun z : Str × V × Nat => z.2.2) e
        have := qEnd_lt _ r j (Nat.le_refl _) hj
        show k ≤ r.length + 1
        omega
      · split at h
        · rename_i hp
          have e2 : 2 = k := congrArg (fun z : Str × V × Nat => z.2.2) (Option.some.inj h)
          have := pair_len hp
          rw [List.length_take] at this
          omega
        · split at h
          · have e2 : 1 = k := congrArg (fun z : Str × V × Nat => z.2.2) (Option.some.inj h)
            show k ≤ r.length + 1
            omega
          · cases h
  · obtain ⟨p, _, e⟩ := Option.map_eq_some_iff.mp h
    have e2 : (stretch u).length = k := congrArg (fun z : Str × V × Nat => z.2.2) e
    have := stretch_le u
    omega
/-- the state of the loop -/
def Wst (t : List Nat) (r0 : Res) (H0 : Hp) (D : Addr) (m : Nat) (σ : L2.St) (H : Hp) : Prop := ∃ (b : Nat) (l : Int) (x4 x5 : Option V) (xs : List V) (ks : List Tok) (r : Res), m = t.length - b ∧ σ = [some (.str (Sg t)), some (.ref D), some (.int b), some (.int l), x4, x5] ∧ b ≤ t.length ∧ Same H0 H ∧
  H D = some (.lst xs) ∧ Toks H xs ks ∧ ks.length ≤ b ∧ Lex (t.drop b) l r ∧ Res.app ks r = r0
section
variable {P : Program} {w : World} {K : PySem.W.Frag} {mg : Str → Option Value} {base : Heap} {n : Nat}
theorem ok_words (T : Txd n P K mg) {f : Addr} {fd : FuncData} (F : FnP K "words" s_words f fd) (D_note_end : Cal P w K mg base (L2.CX P w) 2 "note_end" P_note_end (spNoteEnd K))
    (D_word_from : CalN n P w K mg base (L2.CX P w) 3 "word_from" P_word_from (spWordFrom K)) : FnN n P w K mg base (L2.CX P w) 4 f fd P_words (spWords K) := by
  refine F.okN sc_words (fun vs H Q E h => ?_) (fun cdv A outer s H vs Q E hr h => ?_)
  · rcases h with ⟨v, rfl, _⟩ | ⟨t, r, rfl, _⟩ <;> rfl
  · refine ⟨_, (pssn_cons (psn_of (ps_if (pt_not (pt_val (pe_callB call_isi (by rfl) T.f_isinstance (by decide +kernel) (pa_cons (pv 0) (pa_cons (pe_bltn (v := .ty "str") (by rfl) T.f_str (by decide +kernel) rfl) pa_nil))))) (pss_one (ps_raise0 rfl T.e_NoText (takes_of rfl rfl rfl rfl))) pss_nil))
  (pssn_cons (psn_of (ps_set (i := 1) sc_words.nd rfl (Or.inl rfl) (pe_lst pa_nil)))
  (pssn_cons (psn_of (ps_asg (pe_tup (pa_cons pe_int (pa_cons pe_int pa_nil))) (pg_tup (by rfl) (pgs_cons (pg_name (i := 2) sc_words.nd rfl (Or.inl rfl)) (pgs_cons (pg_name (i := 3) sc_words.nd rfl (Or.inl rfl)) pgs_nil)))))
  (pssn_cons (psn_while (passes_of rfl) (pt_cmpR op_lt (pv 2) (pe_callB call_lenS (by rfl) T.f_len (by decide +kernel) (pa_cons (pv 0) pa_nil)) (nomark _)) (pssn_one (psn_if (ptn_of (pt_cmpR op_eq (pe_ix ix_str (pv 0) (pv 2) (fun _ _ => rfl)) pe_str (nomark _))) (pssn_one (psn_of (ps_set (i := 2) sc_words.nd rfl (Or.inl rfl) (pe_calS D_note_end hr rfl rfl (takes_of rfl rfl rfl rfl) (pa_cons (pv 0) (pa_cons (pv 2) (pa_cons (pv 3) pa_nil))))))) (pssn_one (psn_if (ptn_of (pt_cmpR op_inSg (pe_ix ix_str (pv 0) (pv 2) (fun _ _ => rfl)) pe_str (by rfl))) (pssn_cons (psn_of (ps_aug (i := 3) sc_words.nd rfl (Or.inl rfl) (pe_ifExp (pt_cmpR op_eq (pe_ix ix_str (pv 0) (pv 2) (fun _ _ => rfl)) pe_str (nomark _)) pe_int pe_int) ip_add))
  (pssn_one (psn_of (ps_aug (i := 2) sc_words.nd rfl (Or.inl rfl) pe_int ip_add)))) (pssn_cons (psn_asg (pen_calS D_word_from hr rfl rfl (takes_of rfl rfl rfl rfl) (pan_cons (pen_of (pv 0)) (pan_cons (pen_of (pv 2)) (pan_cons (pen_of (pv 3)) (pan_of pa_nil))))) (pg_tup (by rfl) (pgs_cons (pg_name (i := 4) sc_words.nd rfl (Or.inl rfl)) (pgs_cons (pg_name (i := 5) sc_words.nd rfl (Or.inl rfl)) (pgs_cons (pg_name (i := 2) sc_words.nd rfl (Or.inl rfl)) pgs_nil)))))
  (pssn_one (psn_of (ps_expr (pe_bm PySem.F.plainAttrs_list PySem.F.slot_list_append PySem.F.type_list_append mt_append (pv 1) (pa_cons (pe_tup (pa_cons (pv 4) (pa_cons (pv 5) (pa_cons (pv 3) pa_nil)))) pa_nil)))))))))))
  (pssn_one (psn_of (ps_ret (pv 1)))))))), ?_⟩
    rcases h with ⟨v, rfl, kv, hs, q⟩ | ⟨t, r0, rfl, hz, hL, q⟩
    · walk_at "w"
      refine w_isStr kv ?_
      rw [hs]
      walk_at "w"
      exact q
    · walk_at "w"
      refine w_isStr rfl ?_
      walk_at "w"
      refine w_nt ?_
      walk_at "w"
      refine ⟨by show 0 ≤ sizeLine; decide, fun D hD => ?_⟩
      walk_at "w"
      refine ⟨by show 2 ≤ sizeLine; decide, fun p hp => ?_⟩
      refine ⟨p, _, rfl, .of upd_same, rfl, _, _, rfl, w_name ⟨_, _, rfl, w_name ⟨rfl, ?_⟩⟩⟩
      walk_at "w"
      have sA : Same H (upd H D (.lst [])) := sameUpd hD
      have sB : Same H (upd (upd H D (.lst [])) p (.tup [.int 0, .int 1])) := sA.trans (sameUpd hp)
      have hDp : D ≠ p := ne_of_none upd_same hp
      refine ⟨Wst t r0 H D, ⟨_, 0, 1, none, none, [], [], r0, rfl, rfl, Nat.zero_le _, sB, ?_, .nil, Nat.le_refl _, hL, ?_⟩, ?_⟩
      · rw [upd_ne hDp]
        exact upd_same
      · cases r0 <;> rfl
      rintro m σ H1 ⟨b, l, x4, x5, xs, ks, r, rfl, rfl, hb, s1, h1D, hT, hk, hLx, he⟩
      walk_at "w"
      rcases (show b < t.length ∨ b = t.length by omega) with hl | rfl
      · rw [decide_eq_true (show (b : Int) < (t.length : Int) by omega)]
        refine w_t ⟨fun σ' H' => ∃ m', m' < t.length - b ∧ Wst t r0 H D m' σ' H', fun _ _ z => z, ?_⟩
        obtain ⟨c, hc⟩ := at_lt hl
        have dr := drop_at hc
        rw [dr] at hLx
        walk_at "w"
        refine w_eq rfl ?_
        rw [show ("#" : Str) = Sg [35] from rfl, strEq]
        walk_at "w"
        have onH : decide ([c] = [35]) = decide (c = 35) := by simp
        rw [onH]
        have bl : decide (c ∈ (" \n" : Str).cps.toList) = decide (c = 32 ∨ c = 10) := by
          rw [show (" \n" : Str).cps.toList = [32, 10] from by decide +kernel]
          simp
        refine w_2 (fun h35 => ?_) (fun h35 => ?_)
        · obtain rfl : c = 35 := of_decide_eq_true h35
          walk_at "w"
          refine ⟨t, b, l, rfl, hz, hb, fun H2 s2 => ?_⟩
          rw [dr]
          cases hLx with
          | note h k =>
            rw [h]
            refine iteT ?_
            walk_at "w"
            have hpos : 0 < (upTo 10 (35 :: t.drop (b + 1))).length := by
              rw [upTo_cons (by decide), List.length_cons]
              exact Nat.succ_pos _
            have hle := upTo_le (35 :: t.drop (b + 1)) 10
            rw [← dr, List.length_drop] at hle
            refine ⟨_, ?_, b + (upTo 10 (35 :: t.drop (b + 1))).length, l, x4, x5, xs, ks, r, rfl, rfl, ?_, s1.trans s2, s2 _ _ h1D, hT.mono fun _ _ e => s2 _ _ e, by omega, ?_, he⟩
            · omega
            · rw [← dr]
              omega
            · rw [← List.drop_drop, dr]
              exact k
          | noteBad h =>
            rw [h]
            refine iteF ?_
            have z := q H2 (s1.trans s2)
            rw [← he] at z
            exact fun d hd => z d hd
          | tok h1 => exact absurd rfl h1
          | bad h1 => exact absurd rfl h1
        · have h35 : c ≠ 35 := of_decide_eq_false h35
          walk_at "w"
          rw [bl]
          refine w_2 (fun h2 => ?_) (fun h2 => ?_)
          · walk_at "w"
            refine w_eq rfl ?_
            rw [show ("\n" : Str) = Sg [10] from rfl, strEq, show decide ([c] = [10]) = decide (c = 10) by simp]
            walk_at "w"
            have next : ∀ l' : Int, Lex (t.drop (b + 1)) l' r → ∃ m', m' < t.length - b ∧ Wst t r0 H D m' [some (.str (Sg t)), some (.ref D), some (.int ((b : Int) + 1)), some (.int l'), x4, x5] H1 := fun l' k =>
              ⟨_, by omega, b + 1, l', x4, x5, xs, ks, r, rfl, rfl, hl, s1, h1D, hT, Nat.le_succ_of_le hk, k, he⟩
            refine w_2 (fun h10 => ?_) (fun h10 => ?_)
            · obtain rfl : c = 10 := of_decide_eq_true h10
              walk_at "w"
              cases hLx with
              | line k => exact next _ k
              | tok _ _ h3 => exact absurd rfl h3
              | bad _ _ h3 => exact absurd rfl h3
            · have h10 : c ≠ 10 := of_decide_eq_false h10
              obtain rfl : c = 32 := (of_decide_eq_true h2).elim id fun z => absurd z h10
              walk_at "w"
              rw [Int.add_zero]
              cases hLx with
              | blank k => exact next _ k
              | tok _ h3 => exact absurd rfl h3
              | bad _ h3 => exact absurd rfl h3
          · have h2 := of_decide_eq_false h2
            walk_at "w"
            refine ⟨t, b, l, rfl, hz, hl, fun H2 s2 => ?_⟩
            rw [dr]
            cases hLx with
            | note => exact absurd rfl h35
            | noteBad => exact absurd rfl h35
            | blank => exact absurd (.inl rfl) h2
            | line => exact absurd (.inr rfl) h2
            | bad _ _ _ hw =>
              rw [hw]
              have z := q H2 (s1.trans s2)
              rw [← he] at z
              exact fun d hd => z d hd
            | @tok _ _ _ s' v k r' _ _ _ hw n1 =>
              rw [hw]
              intro p2 hp2
              have s3 := s2.trans (sameUpd (o := .tup [.str s', v, .int ((b + k : Nat) : Int)]) hp2)
              have hk0 := wordAt_pos hw
              have hk1 := wordAt_le hw
              rw [← dr, List.length_drop] at hk1
              refine ⟨p2, _, rfl, .of upd_same, rfl, _, _, rfl, w_name ⟨_, _, rfl, w_name ⟨_, _, rfl, w_name ⟨rfl, ?_⟩⟩⟩⟩
              walk_at "w"
              have hD3 := s3 _ _ h1D
              refine ⟨.inl ⟨rfl, _, .of hD3⟩, ?_⟩
              walk_at "w"
              refine ⟨by show 3 ≤ sizeLine; decide, fun p3 hp3 => ?_⟩
              have s4 := s3.trans (sameUpd (o := .tup [.str s', v, .int l]) hp3)
              have hD4 := s4 _ _ h1D
              walk_at "w"
              have hlen : xs.length < sizeLine := by
                have e1 := hT.length
                have e2 : big < sizeLine := by decide
                omega
              refine ⟨D, xs, _, rfl, rfl, hD4, hlen, ?_⟩
              have keep : ∀ p ys, (upd (upd H2 p2 (.tup [.str s', v, .int ((b + k : Nat) : Int)])) p3 (.tup [.str s', v, .int l])) p = some (.tup ys) → (upd (upd (upd H2 p2 (.tup [.str s', v, .int ((b + k : Nat) : Int)])) p3 (.tup [.str s', v, .int l])) D (.lst (xs ++ [V.ref p3]))) p = some (.tup ys) := fun p ys e => by
                rw [upd_ne (ne_of e hD4 (by intro z; cases z))]
                exact e
              refine ⟨_, ?_, b + k, l, _, _, xs ++ [.ref p3], ks ++ [⟨s', v, l⟩], r', rfl, rfl, by omega, ?_, upd_same, ?_, ?_, ?_, ?_⟩
              · omega
              · exact fun a o e => by
                  have hne : a ≠ D := ne_of_none e hD
                  rw [upd_ne hne]
                  exact s4 _ _ (s1 _ _ e)
              · exact ((hT.mono fun _ _ e => s4 _ _ e).mono keep).snoc ⟨p3, rfl, keep _ _ upd_same⟩
              · rw [List.length_append]
                show ks.length + 1 ≤ b + k
                omega
              · rw [← List.drop_drop, dr]
                exact n1
              · rw [← he, Res.app_cons]
      · rw [decide_eq_false (show ¬ (t.length : Int) < (t.length : Int) by omega)]
        walk_at "w"
        rw [List.drop_length] at hLx
        cases hLx with
        | nil =>
          have z := q H1 s1
          rw [← he] at z
          exact z D hD ⟨xs, h1D, by rw [List.append_nil]; exact hT⟩
end
end K01
namespace L2
open PySem
theorem PSsn.nox {n : Nat} {X : Cx} {st : List Stmt} {t : TS} (h : PSsn n X.nox st t) : PSsn n X st t := fun pins s σ H D hn I hw =>
  wpAny_mono (h pins s σ H D hn (I.wish _) hw) (fun _ _ q => q.unwish) fun _ _ z => z.elim
end L2
namespace K01
open PySem L2
abbrev s_law_told : Stmt := top 44
abbrev N_law_told : List Str := ["thing", "found", "e"]
abbrev P_law_told : List Str := ["thing"]
theorem sc_law_told : FnScope N_law_told P_law_told (defScope s_law_told) := ⟨rfl, rfl, rfl, by decide +kernel, rfl, by decide +kernel, by decide +kernel⟩
structure Txf (n : Nat) (P : Program) (K : PySem.W.Frag) (mg : Str → Option Value) : Prop extends Txd n P K mg where
  mNN : PySem.W.exmOne K (.ref (He.ga K "NoText")) (.ref (He.ga K "NoText")) = some true
  mBN : PySem.W.exmOne K (.ref (He.ga K "BadText")) (.ref (He.ga K "NoText")) = some false
def spTold : Sp := fun vs H Q _ => (∃ v, vs = [v] ∧ Kn H v ∧ isSt v = false ∧ ∀ p, H p = none → Q (.ref p) (upd H p (.tup [.str "none", .int 0]))) ∨
  ∃ (t : List Nat) (r : Res), vs = [.str (Sg t)] ∧ t.length ≤ big ∧ Lex t 1 r ∧ ∀ H', Same H H' → ∀ p, H' p = none → match r with
    | .ok ks => ∀ a, H a = none → TokL H' a ks → Q (.ref p) (upd H' p (.tup [.str "told", .ref a]))
    | .error l => Q (.ref p) (upd H' p (.tup [.str "bad", .int l]))
def tsN : Addr → Value → Option Addr → TS := fun _ _ _ => tAsg (tTup (tCons (tC (.str "none")) (tCons (tC (.int 0)) tNil))) (gName 1)
def tsB (K : PySem.W.Frag) : Addr → Value → Option Addr → TS := fun a cls d => tAsg (tTup (tCons (tC (.str "bad")) (tCons (tByBadText (He.ga K "BadText") a cls d (tVar 2)) tNil))) (gName 1)
section
variable {P : Program} {w : World} {K : PySem.W.Frag} {mg : Str → Option Value} {base : Heap} {n : Nat}
theorem ok_law_told (T : Txf n P K mg) {f : Addr} {fd : FuncData} (F : FnP K "_law_told" s_law_told f fd) (D_words : CalN n P w K mg base (L2.CX P w) 4 "words" P_words (spWords K)) :
    FnN n P w K mg base CX0 6 f fd P_law_told spTold := by
  refine F.okN sc_law_told (fun vs H Q E h => ?_) (fun cdv A outer s H vs Q E hr h => ?_)
  · rcases h with ⟨v, rfl, _⟩ | ⟨t, r, rfl, _⟩ <;> rfl
  · have hgl : ∀ {x : Str}, (defScope s_law_told).names.lookup x = some .globalImplicit → Gl (cxOf CX0 P w K mg base N_law_told "_law_told" (defScope s_law_told) f cdv A outer s H E).nox x := fun e => e
    refine ⟨_, PSsn.nox (pssn_cons (psn_try_manyB (X := (cxOf CX0 P w K mg base N_law_told "_law_told" (defScope s_law_told) f cdv A outer s H E).nox) (Wout := fun _ _ _ _ => False)
      (tb := fun W => tAsg (tTup (tCons (tC (.str "told")) (tCons (tCallS (spWords K) (WE W) (tCons (tVar 0) tNil)) tNil))) (gName 1))
      (l := [⟨.ref (He.ga K "NoText"), none, tsN⟩, ⟨.ref (He.ga K "BadText"), some 2, tsB K⟩]) rfl rfl sc_law_told.nd L2.takes0 (fun W pn xe tk _ => ?_)
      (.bare rfl ⟨hgl rfl, by decide, .inl T.e_NoText.gC⟩ (fun a oe cls d pn hz hf => ?_) (.cons rfl rfl rfl ⟨hgl rfl, by decide, .inl T.e_BadText.gC⟩ (fun a oe cls d pn hz hf => ?_) .nil))) (pssn_one (psn_of (ps_ret (pv 1))))), ?_⟩
    · exact pssn_one (psn_asg (pen_tup (pan_cons (pen_of pe_str) (pan_cons (pen_calS D_words hr rfl rfl tk (pan_cons (pen_of (pv 0)) (pan_of pa_nil))) (pan_of pa_nil)))) (pg_name (i := 1) sc_law_told.nd rfl (.inl rfl)))
    · exact pss_one (ps_asg (pe_tup (pa_cons pe_str (pa_cons pe_int pa_nil))) (pg_name (i := 1) sc_law_told.nd rfl (.inl rfl)))
    · exact pss_one (ps_asg (pe_tup (pa_cons pe_str (pa_cons (pe_byBadText (X := (cxOf CX0 P w K mg base N_law_told "_law_told" (defScope s_law_told) f cdv A outer s H E).nox) T.e_BadText hz hf (pv 2)) pa_nil))) (pg_name (i := 1) sc_law_told.nd rfl (.inl rfl)))
    · rcases h with ⟨v, rfl, kv, hs, q⟩ | ⟨t, r, rfl, hz, hL, q⟩
      · walk_at "w"
        refine .inl ⟨v, rfl, kv, hs, true, T.mNN, fun _ a ha => ?_, fun z => Bool.noConfusion z⟩
        show tsN a (.ref (He.ga K "NoText")) none _ (L2.start N_law_told [v]) H
        unfold tsN
        walk_at "w"
        refine ⟨by show 2 ≤ sizeLine; decide, fun p hp => ?_⟩
        show tRet (tVar 1) { nx := fun _ H' => Q .non H', rt := Q } ((L2.start N_law_told [v]).set 1 (some (V.ref p))) _
        exact w_ret (w_var rfl (q p hp))
      · walk_at "w"
        refine .inr ⟨t, r, rfl, hz, hL, fun H' s' => ?_⟩
        have q1 := q H' s'
        cases r with
        | ok ks =>
          intro a ha0 ha
          walk_at "w"
          refine ⟨by show 2 ≤ sizeLine; decide, fun p hp => ?_⟩
          walk_at "w"
          exact q1 p hp a ha0 ha
        | error l =>
          intro d hd
          refine ⟨false, T.mBN, fun z => Bool.noConfusion z, fun _ => ⟨true, T.e_BadText.te, fun _ a ha => ?_, fun z => Bool.noConfusion z⟩⟩
          show tsB K a _ (some d) _ ((L2.start N_law_told [V.str (Sg t)]).set 2 (some (.ref a))) _
          unfold tsB
          walk_at "w"
          refine ⟨_, rfl, rfl, rfl, d, _, rfl, upd_same, ?_⟩
          walk_at "w"
          refine ⟨by show 2 ≤ sizeLine; decide, fun p hp => ?_⟩
          show tRet (tVar 1) { nx := fun _ H' => Q .non H', rt := Q } (((L2.start N_law_told [V.str (Sg t)]).set 2 (some (V.ref a))).set 1 (some (V.ref p)) |>.set 2 none) _
          exact w_ret (w_var rfl (q _ (s'.trans (sameUpd hd)) p hp))
end
end K01
namespace L2
open PySem PySem.Spec PyProof.Rows
/-- xs[i] op= e, the read -/
def rGetLN (K : PySem.W.Frag) : V → V → Hp → VK → Prop := fun x y H Q => ∃ (p : Addr) (xs : List V) (i : Nat) (v : V), x = .ref p ∧ y = .int (i : Int) ∧ SqL K H p xs ∧ xs[i]? = some v ∧ Q v H
theorem get_listN {X : Cx} : PGet X (rGetLN X.K) := by
  intro pins s σ H o i ov iv Q I ro ri h
  obtain ⟨p, xs, k, v, rfl, rfl, hq, hk, q⟩ := h
  cases ro
  obtain ⟨t, rfl⟩ := ri
  obtain ⟨its, r, pl, hz⟩ := I.list hq
  obtain ⟨w, ew, rw'⟩ := r.get hk
  have hl := r.length
  have hlt : k < xs.length := (List.getElem?_eq_some_iff.mp hk).1
  have hn := line63
  exact wpAny_getItem_list pl.isList (by omega) (by omega) (by simpa using ew) ⟨v, H, I, rw', q⟩
theorem w_augS {to ti te : TE} {tg : V → V → Hp → VK → Prop} {tp : TIp} {ts : TSet} {D : Ends} {σ : L2.St} {H : Hp} (q : to σ H fun o H1 => ti σ H1 fun i H2 => tg o i H2 fun x H3 => te σ H3 fun y H4 => tp x y H4 fun z H5 => ts o i z H5 fun H6 => D.nx σ H6) : tAugS to ti te tg tp ts D σ H := q
theorem asg_cut {te : TE} {i : Nat} {σ : L2.St} {H : Hp} {D : Ends} (R : V → Hp → Prop) (h : ∀ Q : VK, (∀ x H', R x H' → Q x H') → te σ H Q) (k : ∀ x H', R x H' → gName i x σ H' D.nx) : tAsg te (gName i) D σ H := h _ k
theorem seq_cut {tu tw : TS} {σ : L2.St} {H : Hp} {D : Ends} (R : L2.St → Hp → Prop) (h : ∀ N : L2.St → Hp → Prop, (∀ σ' H', R σ' H' → N σ' H') → tu { D with nx := N } σ H) (k : ∀ σ' H', R σ' H' → tw D σ' H') : tSeq tu tw D σ H := h _ k
theorem w_isTup {K : PySem.W.Frag} {H : Hp} {Q : VK} {v : V} (h : Kn H v) (q : Q (.bl (isTp H v)) H) : rIsi K [v, .ty "tuple"] H Q := w_isTuple h q
end L2
namespace K01
open PySem L2
abbrev s_law_flow : Stmt := top 26
abbrev N_law_flow : List Str := ["script"]
abbrev P_law_flow : List Str := ["script"]
theorem sc_law_flow : FnScope N_law_flow P_law_flow (defScope s_law_flow) := ⟨rfl, rfl, rfl, by decide +kernel, rfl, by decide +kernel, by decide +kernel⟩
abbrev s_law_more : Stmt := top 27
abbrev N_law_more : List Str := ["flow", "cell", "one", "two", "three"]
abbrev P_law_more : List Str := ["flow"]
theorem sc_law_more : FnScope N_law_more P_law_more (defScope s_law_more) := ⟨rfl, rfl, rfl, by decide +kernel, rfl, by decide +kernel, by decide +kernel⟩
abbrev s_law_draw : Stmt := top 28
abbrev N_law_draw : List Str := ["flow", "many", "digit"]
abbrev P_law_draw : List Str := ["flow", "many"]
theorem sc_law_draw : FnScope N_law_draw P_law_draw (defScope s_law_draw) := ⟨rfl, rfl, rfl, by decide +kernel, rfl, by decide +kernel, by decide +kernel⟩
abbrev s_law_signs : Stmt := top 30
abbrev N_law_signs : List Str := []
abbrev P_law_signs : List Str := []
theorem sc_law_signs : FnScope N_law_signs P_law_signs (defScope s_law_signs) := ⟨rfl, rfl, rfl, by decide +kernel, rfl, by decide +kernel, by decide +kernel⟩
abbrev s_law_keys : Stmt := top 31
abbrev N_law_keys : List Str := ["keys"]
abbrev P_law_keys : List Str := []
theorem sc_law_keys : FnScope N_law_keys P_law_keys (defScope s_law_keys) := ⟨rfl, rfl, rfl, by decide +kernel, rfl, by decide +kernel, by decide +kernel⟩
abbrev s_law_sign : Stmt := top 32
abbrev N_law_sign : List Str := ["flow", "every"]
abbrev P_law_sign : List Str := ["flow"]
theorem sc_law_sign : FnScope N_law_sign P_law_sign (defScope s_law_sign) := ⟨rfl, rfl, rfl, by decide +kernel, rfl, by decide +kernel, by decide +kernel⟩
/-- the flow at f over the cells at s -/
structure Flow (H : Hp) (f s : Addr) : Prop where
  ne : f ≠ s
  fl : ∃ (i : Nat) (p q : Int), H f = some (.lst [.ref s, .int i, .int p, .int q])
  sc : ∃ ns : List Int, H s = some (.lst (ns.map V.int))
def KeepF (f : Addr) (H H' : Hp) : Prop := ∀ a o, a ≠ f → H a = some o → H' a = some o
theorem KeepF.refl {f : Addr} {H : Hp} : KeepF f H H := fun _ _ _ h => h
theorem KeepF.trans {f : Addr} {H H1 H2 : Hp} (x : KeepF f H H1) (y : KeepF f H1 H2) : KeepF f H H2 := fun a o h1 h => y a o h1 (x a o h1 h)
theorem KeepF.same {f : Addr} {H H' : Hp} (s : Same H H') : KeepF f H H' := fun a o _ h => s a o h
theorem Flow.same {H H' : Hp} {f s : Addr} (F : Flow H f s) (k : Same H H') : Flow H' f s := by
  obtain ⟨n, ⟨i, p, q, h1⟩, ns, h2⟩ := F
  exact ⟨n, ⟨i, p, q, k _ _ h1⟩, ns, k _ _ h2⟩
theorem Flow.free {H : Hp} {f s p : Addr} (F : Flow H f s) (h : H p = none) : p ≠ f := by
  obtain ⟨_, ⟨i, a, q, h1⟩, _⟩ := F
  exact (ne_of_none h1 h).symm
structure Txg (n : Nat) (P : Program) (K : PySem.W.Frag) (mg : Str → Option Value) : Prop extends Txf n P K mg where
  f_list : mg "list" = none
  f_abs : mg "abs" = none
  f_range : mg "range" = none
  f_tuple : mg "tuple" = none
  f_bool : mg "bool" = none
def spFlow (K : PySem.W.Frag) : Sp := fun vs H Q _ => ∃ (a : Addr) (ns : List Int), vs = [.ref a] ∧ SqL K H a (ns.map V.int) ∧ ∀ f s H', Same H H' → Flow H' f s → Q (.ref f) H'
def spMore : Sp := fun vs H Q _ => ∃ (f s : Addr), vs = [.ref f] ∧ Flow H f s ∧ ∀ H', Flow H' f s → KeepF f H H' → Q .non H'
def spDraw : Sp := fun vs H Q _ => ∃ (f s : Addr) (m : Int), vs = [.ref f, .int m] ∧ Flow H f s ∧ 0 < m ∧ m.natAbs.log2 < 9000 ∧ ∀ d H', 0 ≤ d → d < m → Flow H' f s → KeepF f H H' → Q (.int d) H'
section
variable {P : Program} {w : World} {K : PySem.W.Frag} {mg : Str → Option Value} {base : Heap} {n : Nat}
theorem ok_law_flow (T : Txg n P K mg) {f : Addr} {fd : FuncData} (F : FnP K "_law_flow" s_law_flow f fd) : FnOk P w K mg base CX0 1 f fd P_law_flow (spFlow K) := by
  refine F.ok sc_law_flow (fun vs H Q E h => ?_) (fun cdv A outer s H vs Q E hr h => ?_)
  · obtain ⟨a, ns, rfl, _⟩ := h
    rfl
  · obtain ⟨a, ns, rfl, hS, q⟩ := h
    refine ⟨_, PSs.nox (pss_one (ps_ret (pe_lst (pa_cons (pe_callTy call_listN (by rfl) T.f_list (by decide +kernel) (pa_cons (pv 0) pa_nil)) (pa_cons pe_int (pa_cons pe_int (pa_cons pe_int pa_nil))))))), ?_⟩
    walk_at "w"
    refine w_listL hS fun s hs => ?_
    walk_at "w"
    refine ⟨by show 4 ≤ sizeLine; decide, fun f hf => ?_⟩
    have s1 := (sameUpd (o := .lst (ns.map V.int)) hs).trans (sameUpd (o := .lst [.ref s, .int 0, .int 0, .int 17]) hf)
    have hne : s ≠ f := ne_of_none upd_same hf
    refine q f s _ s1 ⟨hne.symm, ⟨0, 0, 17, upd_same⟩, ns, ?_⟩
    rw [upd_ne hne]
    exact upd_same
theorem ok_law_more (T : Txg n P K mg) {f : Addr} {fd : FuncData} (F : FnP K "_law_more" s_law_more f fd) : FnOk P w K mg base CX0 1 f fd P_law_more spMore := by
  refine F.ok sc_law_more (fun vs H Q E h => ?_) (fun cdv A outer s H vs Q E hr h => ?_)
  · obtain ⟨a, ns, rfl, _⟩ := h
    rfl
  · obtain ⟨f, s, rfl, ⟨hne, ⟨i, p, z, hf⟩, ns, hs⟩, q⟩ := h
    refine ⟨_, PSs.nox (pss_cons (ps_set (i := 1) sc_law_more.nd rfl (Or.inl rfl) pe_int)
  (pss_cons (ps_if (pt_cmpR op_lt (pe_ix ix_list (pv 0) pe_int (fun _ _ => rfl)) (pe_callB call_lenN (by rfl) T.f_len (by decide +kernel) (pa_cons (pe_ix ix_list (pv 0) pe_int (fun _ _ => rfl)) pa_nil)) (nomark _)) (pss_one (ps_set (i := 1) sc_law_more.nd rfl (Or.inl rfl) (pe_ix ix_list (pe_ix ix_list (pv 0) pe_int (fun _ _ => rfl)) (pe_ix ix_list (pv 0) pe_int (fun _ _ => rfl)) (fun _ _ => rfl)))) pss_nil)
  (pss_cons (ps_augS (pv 0) pe_int get_listN pe_int ip_add set_list)
  (pss_cons (ps_if (pt_cmpR op_ge (pv 1) (pe_op op_pow pe_int pe_int) (nomark _)) (pss_cons (ps_asg (pv 1) (pg_sub (pv 0) pe_int set_list))
  (pss_one ps_retN)) pss_nil)
  (pss_cons (ps_set (i := 2) sc_law_more.nd rfl (Or.inl rfl) (pe_op op_mod (pe_callTy call_int1N (by rfl) T.f_int (by decide +kernel) (pa_cons (pe_op op_add (pe_op op_add (pe_op op_add (pe_op op_mul (pe_ix ix_list (pv 0) pe_int (fun _ _ => rfl)) pe_int) (pe_op op_mul (pe_callB call_absN (by rfl) T.f_abs (by decide +kernel) (pa_cons (pv 1) pa_nil)) pe_int)) (pe_callTy call_int1N (by rfl) T.f_int (by decide +kernel) (pa_cons (pe_cmpR op_lt (pv 1) pe_int (nomark _)) pa_nil))) (pe_op op_mul pe_int (pe_ix ix_list (pv 0) pe_int (fun _ _ => rfl)))) pa_nil)) pe_int))
  (pss_cons (ps_set (i := 2) sc_law_more.nd rfl (Or.inl rfl) (pe_op op_mod (pe_callTy call_int1N (by rfl) T.f_int (by decide +kernel) (pa_cons (pe_op op_add (pe_op op_mul (pv 2) pe_int) pe_int) pa_nil)) pe_int))
  (pss_cons (ps_set (i := 3) sc_law_more.nd rfl (Or.inl rfl) (pe_op op_mod (pe_callTy call_int1N (by rfl) T.f_int (by decide +kernel) (pa_cons (pe_op op_add (pe_op op_mul (pv 2) (pe_op op_add (pe_op op_fdivW (pv 2) pe_int) pe_int)) pe_int) pa_nil)) pe_int))
  (pss_cons (ps_set (i := 4) sc_law_more.nd rfl (Or.inl rfl) (pe_op op_mod (pe_callTy call_int1N (by rfl) T.f_int (by decide +kernel) (pa_cons (pe_op op_add (pe_op op_mul (pv 3) (pe_op op_add (pe_op op_fdivW (pv 3) pe_int) pe_int)) (pv 2)) pa_nil)) pe_int))
  (pss_cons (ps_asg (pv 4) (pg_sub (pv 0) pe_int set_list))
  (pss_one (ps_asg (pe_op op_add (pe_op op_mul (pe_op op_add (pe_op op_mul (pv 2) pe_int) (pv 3)) pe_int) (pv 4)) (pg_sub (pv 0) pe_int set_list)))))))))))), ?_⟩
    with_reducible refine w_seq ?_
    walk_at "w1"
    walk_at "w1"
    walk_at "w1"
    with_reducible refine seq_cut (fun σ' H' => ∃ c : Int, σ' = [some (.ref f), some (.int c), none, none, none] ∧ H' = H) (fun N k => ?_) ?_
    · walk_at "w"
      refine w_ixL (.of hf) (atI_nat (j := 1) rfl) ?_
      walk_at "w"
      refine w_ixL (.of hf) (atI_nat (j := 0) rfl) ?_
      walk_at "w"
      refine w_lenL (.of hs) ?_
      walk_at "w"
      refine w_2 (fun h1 => ?_) (fun h1 => ?_)
      · walk_at "w"
        refine w_ixL (.of hf) (atI_nat (j := 0) rfl) ?_
        walk_at "w"
        refine w_ixL (.of hf) (atI_nat (j := 1) rfl) ?_
        walk_at "w"
        have hi : i < ns.length := by
          have z := of_decide_eq_true h1
          rw [List.length_map] at z
          omega
        refine w_ixL (.of hs) (atI_nat (j := i) (v := .int ns[i]) ?_) ?_
        · rw [List.getElem?_map, List.getElem?_eq_getElem hi] <;> rfl
        · walk_at "w"
          exact k _ _ ⟨_, rfl, rfl⟩
      · walk_at "w"
        exact k _ _ ⟨_, rfl, rfl⟩
    rintro _ H' ⟨c, rfl, rfl⟩
    with_reducible refine w_seq ?_
    refine w_augS ?_
    walk_at "w"
    refine ⟨f, _, 1, _, rfl, rfl, .of hf, rfl, ?_⟩
    walk_at "w"
    refine ⟨_, _, rfl, rfl, f, _, 1, 1, rfl, rfl, hf, rfl, ?_⟩
    have h1 : (upd H' f (.lst ([V.ref s, V.int i, V.int p, V.int z].set 1 (V.int ((i : Int) + 1))))) f = some (.lst [.ref s, .int ((i + 1 : Nat) : Int), .int p, .int z]) := upd_same
    have k1 : KeepF f H' (upd H' f (.lst ([V.ref s, V.int i, V.int p, V.int z].set 1 (V.int ((i : Int) + 1))))) := fun a o h e => by
      rw [upd_ne h]
      exact e
    have hs1 := k1 _ _ hne.symm hs
    generalize upd H' f (.lst ([V.ref s, V.int i, V.int p, V.int z].set 1 (V.int ((i : Int) + 1)))) = H1 at h1 k1 hs1 ⊢
    have wr : ∀ {H2 : Hp} {xs : List V} (v : V) (j : Nat), H2 f = some (.lst xs) → KeepF f H1 H2 → KeepF f H1 (upd H2 f (.lst (xs.set j v))) := fun v j _ k a o h e => by
      rw [upd_ne h]
      exact k a o h e
    walk_at "w"
    refine w_2 (fun _ => ?_) (fun _ => ?_)
    · walk_at "w"
      refine ⟨_, rfl, f, _, 2, 2, rfl, rfl, h1, rfl, ?_⟩
      walk_at "w"
      exact q _ ⟨hne, ⟨i + 1, c, z, upd_same⟩, ns, wr (.int c) 2 h1 .refl _ _ hne.symm hs1⟩ (k1.trans (wr (.int c) 2 h1 .refl))
    · walk_at "w"
      refine w_ixL (.of h1) (atI_nat (j := 3) rfl) ?_
      walk_at "w"
      refine w_ixL (.of h1) (atI_nat (j := 1) rfl) ?_
      walk_at "w"
      refine ⟨_, rfl, f, _, 3, 3, rfl, rfl, h1, rfl, ?_⟩
      walk_at "w"
      refine ⟨_, rfl, f, _, 2, 2, rfl, rfl, upd_same, rfl, ?_⟩
      exact q _ ⟨hne, ⟨i + 1, _, _, upd_same⟩, ns, wr _ 2 upd_same (wr _ 3 h1 .refl) _ _ hne.symm hs1⟩ (k1.trans (wr _ 2 upd_same (wr _ 3 h1 .refl)))
theorem ok_law_draw (T : Txg n P K mg) {f : Addr} {fd : FuncData} (F : FnP K "_law_draw" s_law_draw f fd) (D_law_more : Cal P w K mg base CX0 1 "_law_more" P_law_more spMore) :
    FnOk P w K mg base CX0 2 f fd P_law_draw spDraw := by
  refine F.ok sc_law_draw (fun vs H Q E h => ?_) (fun cdv A outer s H vs Q E hr h => ?_)
  · obtain ⟨f, s, m, rfl, _⟩ := h
    rfl
  · obtain ⟨f, s, m, rfl, FL, m0, ml, q⟩ := h
    refine ⟨_, PSs.nox (pss_cons (ps_if (pt_cmpR op_lt (pe_ix ix_list (pv 0) pe_int (fun _ _ => rfl)) (pv 1) (nomark _)) (pss_one (ps_expr (pe_cal D_law_more hr rfl rfl pass0 (pa_cons (pv 0) pa_nil)))) pss_nil)
  (pss_cons (ps_set (i := 2) sc_law_draw.nd rfl (Or.inl rfl) (pe_op op_mod (pe_callTy call_int1N (by rfl) T.f_int (by decide +kernel) (pa_cons (pe_ix ix_list (pv 0) pe_int (fun _ _ => rfl)) pa_nil)) (pv 1)))
  (pss_cons (ps_asg (pe_op op_fdivW (pe_ix ix_list (pv 0) pe_int (fun _ _ => rfl)) (pv 1)) (pg_sub (pv 0) pe_int set_list))
  (pss_one (ps_ret (pv 2)))))), ?_⟩
    with_reducible refine seq_cut (fun σ' H' => σ' = [some (.ref f), some (.int m), none] ∧ Flow H' f s ∧ KeepF f H H') (fun N k => ?_) ?_
    · walk_at "w"
      obtain ⟨hne, ⟨i, p, z, hf⟩, ns, hs⟩ := FL
      refine w_ixL (.of hf) (atI_nat (j := 2) rfl) ?_
      walk_at "w"
      refine w_2 (fun _ => ?_) (fun _ => ?_)
      · walk_at "w"
        refine ⟨f, s, rfl, ⟨hne, ⟨i, p, z, hf⟩, ns, hs⟩, fun H' F' k' => ?_⟩
        walk_at "w"
        exact k _ _ ⟨rfl, F', k'⟩
      · walk_at "w"
        exact k _ _ ⟨rfl, ⟨hne, ⟨i, p, z, hf⟩, ns, hs⟩, .refl⟩
    rintro _ H1 ⟨rfl, ⟨hne, ⟨i, p, z, hf⟩, ns, hs⟩, k1⟩
    walk_at "w"
    refine w_ixL (.of hf) (atI_nat (j := 2) rfl) ?_
    walk_at "w"
    refine w_I m0 ?_
    walk_at "w"
    refine w_ixL (.of hf) (atI_nat (j := 2) rfl) ?_
    walk_at "w"
    refine w_I ⟨m0, ml⟩ ?_
    refine ⟨_, rfl, f, _, 2, 2, rfl, rfl, hf, rfl, ?_⟩
    walk_at "w"
    have kB : KeepF f H1 (upd H1 f (.lst ([V.ref s, V.int i, V.int p, V.int z].set 2 (V.int (p / m))))) := fun a o h e => by
      rw [upd_ne h]
      exact e
    exact q _ _ (Int.emod_nonneg _ (by omega)) (Int.emod_lt_of_pos _ m0) ⟨hne, ⟨i, _, _, upd_same⟩, ns, kB _ _ hne.symm hs⟩ (k1.trans kB)
/-- texts that the law picks -/
def spSignsT : Sp := fun vs H Q _ => vs = [] ∧ Q (.str "abcdefghijklmnopqrstuvwxyzABCDEFGHIJKLMNOPQRSTUVWXYZ_0123456789") H
def spKeysT : Sp := fun vs H Q _ => vs = [] ∧ ∀ p H', Same H H' → H' p = some (.lst (KEYS.map V.str)) → Q (.ref p) H'
theorem ok_law_signs {f : Addr} {fd : FuncData} (F : FnP K "_law_signs" s_law_signs f fd) : FnOk P w K mg base CX0 1 f fd P_law_signs spSignsT := by
  refine F.ok sc_law_signs (fun vs H Q E h => ?_) (fun cdv A outer s H vs Q E hr h => ?_)
  · obtain ⟨rfl, _⟩ := h
    rfl
  · obtain ⟨rfl, q⟩ := h
    refine ⟨_, PSs.nox (pss_one (ps_ret pe_str)), ?_⟩
    walk_at "w"
    exact q
theorem ok_law_keys {f : Addr} {fd : FuncData} (F : FnP K "_law_keys" s_law_keys f fd) : FnOk P w K mg base CX0 1 f fd P_law_keys spKeysT := by
  refine F.ok sc_law_keys (fun vs H Q E h => ?_) (fun cdv A outer s H vs Q E hr h => ?_)
  · obtain ⟨rfl, _⟩ := h
    rfl
  · obtain ⟨rfl, q⟩ := h
    refine ⟨_, PSs.nox (pss_cons (ps_set (i := 0) sc_law_keys.nd rfl (Or.inl rfl) (pe_lst (pa_cons pe_str (pa_cons pe_str (pa_cons pe_str (pa_cons pe_str (pa_cons pe_str (pa_cons pe_str (pa_cons pe_str (pa_cons pe_str (pa_cons pe_str (pa_cons pe_str (pa_cons pe_str (pa_cons pe_str (pa_cons pe_str (pa_cons pe_str pa_nil))))))))))))))))
  (pss_cons (ps_set (i := 0) sc_law_keys.nd rfl (Or.inl rfl) (pe_op op_cat (pv 0) (pe_lst (pa_cons pe_str (pa_cons pe_str (pa_cons pe_str (pa_cons pe_str (pa_cons pe_str (pa_cons pe_str (pa_cons pe_str (pa_cons pe_str (pa_cons pe_str (pa_cons pe_str (pa_cons pe_str (pa_cons pe_str (pa_cons pe_str pa_nil))))))))))))))))
  (pss_one (ps_ret (pe_op op_cat (pv 0) (pe_lst (pa_cons pe_str (pa_cons pe_str (pa_cons pe_str (pa_cons pe_str pa_nil)))))))))), ?_⟩
    walk_at "w"
    refine ⟨by show 14 ≤ sizeLine; decide, fun p1 h1 => ?_⟩
    walk_at "w"
    refine ⟨by show 13 ≤ sizeLine; decide, fun p2 h2 => ?_⟩
    have e1 := (sameUpd (o := .lst [V.str "true", V.str "false", V.str "nil", V.str "this", V.str "super", V.str "new", V.str "and", V.str "or", V.str "not", V.str "len", V.str "weak", V.str "worth", V.str "number"]) h2) _ _ (upd_same (H := H) (a := p1) (o := .lst [V.str "class", V.str "of", V.str "fun", V.str "var", V.str "if", V.str "else", V.str "while", V.str "break", V.str "continue", V.str "return", V.str "throw", V.str "try", V.str "catch", V.str "say"]))
    refine ⟨p1, p2, _, _, rfl, rfl, e1, upd_same, by show 14 + 13 ≤ sizeLine; decide, fun p3 h3 => ?_⟩
    walk_at "w"
    refine ⟨by show 4 ≤ sizeLine; decide, fun p4 h4 => ?_⟩
    refine ⟨p3, p4, _, _, rfl, rfl, sameUpd h4 _ _ upd_same, upd_same, by show 27 + 4 ≤ sizeLine; decide, fun p5 h5 => ?_⟩
    exact q p5 _ ((((sameUpd h1).trans (sameUpd h2)).trans (sameUpd h3)).trans ((sameUpd h4).trans (sameUpd h5))) upd_same
end
end K01
namespace K01
open PySem L2
abbrev s_law_end : Stmt := top 34
abbrev N_law_end : List Str := ["text", "at", "k"]
abbrev P_law_end : List Str := ["text", "at"]
theorem sc_law_end : FnScope N_law_end P_law_end (defScope s_law_end) := ⟨rfl, rfl, rfl, by decide +kernel, rfl, by decide +kernel, by decide +kernel⟩
abbrev s_law_quote : Stmt := top 35
abbrev N_law_quote : List Str := ["text", "at", "here", "k"]
abbrev P_law_quote : List Str := ["text", "at"]
theorem sc_law_quote : FnScope N_law_quote P_law_quote (defScope s_law_quote) := ⟨rfl, rfl, rfl, by decide +kernel, rfl, by decide +kernel, by decide +kernel⟩
abbrev s_law_mark : Stmt := top 36
abbrev N_law_mark : List Str := ["text", "at", "line"]
abbrev P_law_mark : List Str := ["text", "at", "line"]
theorem sc_law_mark : FnScope N_law_mark P_law_mark (defScope s_law_mark) := ⟨rfl, rfl, rfl, by decide +kernel, rfl, by decide +kernel, by decide +kernel⟩
abbrev s_law_stretch : Stmt := top 33
abbrev N_law_stretch : List Str := ["word", "line"]
abbrev P_law_stretch : List Str := ["word", "line"]
theorem sc_law_stretch : FnScope N_law_stretch P_law_stretch (defScope s_law_stretch) := ⟨rfl, rfl, rfl, by decide +kernel, rfl, by decide +kernel, by decide +kernel⟩
def okC (c : Nat) : Bool := isS c || decide (c = 10)
def SGN : Str := "abcdefghijklmnopqrstuvwxyzABCDEFGHIJKLMNOPQRSTUVWXYZ_0123456789"
theorem sgn_LF (c : Nat) : decide (c ∈ SGN.cps.toList) = isLF c := by
  have e : SGN.cps.toList = LETs.cps.toList ++ FIGs.cps.toList := by decide +kernel
  unfold isLF isL isF
  rw [e]
  simp [List.mem_append]
theorem pickS {K : PySem.W.Frag} {H : Hp} {Q : VK} {z : Str} {d : Int} {n : Nat} (hz : z.length = n) (hn : n ≤ 1000) (h0 : 0 ≤ d) (h1 : d < n) (q : ∀ c ∈ z.cps.toList, Q (.str (Sg [c])) H) : rIxS (.str z) (.int d) H Q := by
  have hl : d.toNat < z.cps.toList.length := by
    have : z.cps.toList.length = z.length := by simp [Str.length]
    omega
  have e : ((d.toNat : Nat) : Int) = d := Int.toNat_of_nonneg h0
  have hc : z.cps.toList[d.toNat]? = some z.cps.toList[d.toNat] := List.getElem?_eq_getElem hl
  have ha := atI_nat hc
  rw [e] at ha
  have s : sizeLine = 16777216 := by decide
  exact ⟨z, d, _, rfl, rfl, by omega, ha, q _ (List.getElem_mem hl)⟩
def spSign : Sp := fun vs H Q _ => ∃ (f s : Addr), vs = [.ref f] ∧ Flow H f s ∧ ∀ c H', okC c = true → Flow H' f s → KeepF f H H' → Q (.str (Sg [c])) H'
def spEnd : Sp := fun vs H Q _ => ∃ (t : List Nat) (a : Nat), vs = [.str (Sg t), .int a] ∧ t.length ≤ big ∧ a < t.length ∧ Q (.int ((a + 1 + (stretch (t.drop (a + 1))).length : Nat) : Int)) H
def spQuote : Sp := fun vs H Q _ => ∃ (t : List Nat) (a : Nat), vs = [.str (Sg t), .int a] ∧ t.length ≤ big ∧ a < t.length ∧ t.all okC = true ∧ Q (oI ((qEnd (t.drop (a + 1))).map (a + 1 + ·))) H
def markTok (u : List Nat) : Option (List Nat) := match u with
  | [] => none
  | c :: r => if pairB ((c :: r).take 2) = true then some ((c :: r).take 2) else if isM c = true then some [c] else none
def spMark : Sp := fun vs H Q _ => ∃ (t : List Nat) (a : Nat) (l : Int), vs = [.str (Sg t), .int a, .int l] ∧ t.length ≤ big ∧ a < t.length ∧ ∀ H', Same H H' → match markTok (t.drop a) with
  | some w => ∀ p, H' p = none → Q (.ref p) (upd H' p (.tup [.str "mark", .str (Sg w), .int l]))
  | none => Q .non H'
def spLStretch : Sp := fun vs H Q _ => ∃ (x : List Nat) (l : Int), vs = [.str (Sg x), .int l] ∧ 1 ≤ x.length ∧ x.length ≤ big ∧ x.all isLF = true ∧ ∀ H', Same H H' → match stretchTok x with
  | some (s, v) => ∀ p, H' p = none → Q (.ref p) (upd H' p (.tup [.str s, v, .int l]))
  | none => Q .non H'
section
variable {P : Program} {w : World} {K : PySem.W.Frag} {mg : Str → Option Value} {base : Heap} {n : Nat}
theorem ok_law_sign (T : Txg n P K mg) {f : Addr} {fd : FuncData} (F : FnP K "_law_sign" s_law_sign f fd) (D_law_draw : Cal P w K mg base CX0 2 "_law_draw" P_law_draw spDraw) (D_law_signs : Cal P w K mg base CX0 1 "_law_signs" P_law_signs spSignsT) :
    FnOk P w K mg base CX0 3 f fd P_law_sign spSign := by
  refine F.ok sc_law_sign (fun vs H Q E h => ?_) (fun cdv A outer s H vs Q E hr h => ?_)
  · obtain ⟨f, s, rfl, _⟩ := h
    rfl
  · obtain ⟨f, s, rfl, FL, q⟩ := h
    refine ⟨_, PSs.nox (pss_cons (ps_if (pt_cmpR op_gt (pe_cal D_law_draw hr rfl rfl pass0 (pa_cons (pv 0) (pa_cons pe_int pa_nil))) pe_int (nomark _)) (pss_one (ps_ret (pe_ix ix_str pe_str (pe_cal D_law_draw hr rfl rfl pass0 (pa_cons (pv 0) (pa_cons pe_int pa_nil))) (fun _ _ => rfl)))) pss_nil)
  (pss_cons (ps_set (i := 1) sc_law_sign.nd rfl (Or.inl rfl) (pe_op op_addS (pe_cal0 D_law_signs hr rfl rfl pass0) pe_str))
  (pss_one (ps_ret (pe_ix ix_str (pv 1) (pe_cal D_law_draw hr rfl rfl pass0 (pa_cons (pv 0) (pa_cons (pe_callB call_lenS (by rfl) T.f_len (by decide +kernel) (pa_cons (pv 1) pa_nil)) pa_nil))) (fun _ _ => rfl)))))), ?_⟩
    walk_at "w"
    refine ⟨f, s, 3, rfl, FL, by decide, by decide, fun d H1 _ _ F1 k1 => ?_⟩
    walk_at "w"
    refine w_2 (fun _ => ?_) (fun _ => ?_)
    · walk_at "w"
      refine ⟨f, s, 15, rfl, F1, by decide, by decide, fun d H2 h0 h1 F2 k2 => ?_⟩
      exact pickS (K := K) (n := 15) (by decide +kernel) (by decide) h0 h1 fun c hc => q c H2 (List.all_eq_true.mp (show List.all _ okC = true by decide +kernel) c hc) F2 (k1.trans k2)
    · walk_at "w"
      refine ⟨rfl, ?_⟩
      walk_at "w"
      refine w_addS (by decide +kernel) ?_
      walk_at "w"
      refine ⟨_, rfl, by decide +kernel, ?_⟩
      refine ⟨f, s, _, rfl, F1, by decide +kernel, by decide +kernel, fun d H2 h0 h1 F2 k2 => ?_⟩
      exact pickS (K := K) (n := _) rfl (by decide +kernel) h0 h1 fun c hc => q c H2 (List.all_eq_true.mp (show List.all _ okC = true by decide +kernel) c hc) F2 (k1.trans k2)
theorem ok_law_end (T : Txg n P K mg) {f : Addr} {fd : FuncData} (F : FnP K "_law_end" s_law_end f fd) (D_law_signs : Cal P w K mg base CX0 1 "_law_signs" P_law_signs spSignsT) :
    FnOk P w K mg base CX0 2 f fd P_law_end spEnd := by
  refine F.ok sc_law_end (fun vs H Q E h => ?_) (fun cdv A outer s H vs Q E hr h => ?_)
  · obtain ⟨t, a, rfl, _⟩ := h
    rfl
  · obtain ⟨t, a, rfl, hz, ha, q⟩ := h
    refine ⟨_, PSs.nox (pss_cons (ps_for PassesOwn.never rfl (pi_range2 (by rfl) T.f_range (pa_cons (pe_op op_add (pv 1) pe_int) (pa_cons (pe_callB call_lenS (by rfl) T.f_len (by decide +kernel) (pa_cons (pv 0) pa_nil)) pa_nil))) (pg_name (i := 2) sc_law_end.nd rfl (Or.inl rfl)) (pss_one (ps_if (pt_cmpR op_notInSg (pe_ix ix_str (pv 0) (pv 2) (fun _ _ => rfl)) (pe_cal0 D_law_signs hr rfl rfl pass0) (by rfl)) (pss_one (ps_ret (pv 2))) pss_nil)))
  (pss_one (ps_ret (pe_callB call_lenS (by rfl) T.f_len (by decide +kernel) (pa_cons (pv 0) pa_nil))))), ?_⟩
    walk_at "w"
    have hb : big = 200000 := rfl
    refine ⟨_, _, rfl, ⟨by omega, by omega, by omega, by omega⟩, ?_⟩
    refine for_range (Pv := fun i σ H' => ∃ x : Option V, σ = [some (.str (Sg t)), some (.int a), x] ∧ H' = H ∧ a + 1 + i ≤ t.length ∧ a + 1 + i + (stretch (t.drop (a + 1 + i))).length = a + 1 + (stretch (t.drop (a + 1))).length) ⟨none, rfl, rfl, ha, rfl⟩ ?_ ?_
    · rintro i σ H' hi ⟨x, rfl, rfl, hle, e⟩
      have hlt : a + 1 + i < t.length := by omega
      obtain ⟨c, hc⟩ := at_lt hlt
      have dr := drop_at hc
      walk_at "w"
      rw [show (a : Int) + 1 + (i : Int) = ((a + 1 + i : Nat) : Int) by omega]
      walk_at "w"
      refine ⟨rfl, ?_⟩
      walk_at "w"
      have e1 : decide (c ∈ ("abcdefghijklmnopqrstuvwxyzABCDEFGHIJKLMNOPQRSTUVWXYZ_0123456789" : Str).cps.toList) = isLF c := sgn_LF c
      rw [e1]
      cases h : isLF c with
      | false =>
        refine w_nf ?_
        walk_at "w"
        rw [dr, stretch_stop h, List.length_nil, Nat.add_zero] at e
        rw [← e] at q
        exact q
      | true =>
        refine w_nt ?_
        walk_at "w"
        rw [dr, stretch_cons h, List.length_cons] at e
        exact ⟨_, rfl, rfl, by omega, by rw [show a + 1 + (i + 1) = a + 1 + i + 1 by omega]; omega⟩
    · rintro σ H' ⟨x, rfl, rfl, hle, e⟩
      walk_at "w"
      rw [show a + 1 + ((t.length : Int) - ((a : Int) + 1)).toNat = t.length by omega, List.drop_length, show stretch [] = [] from rfl, List.length_nil, Nat.add_zero] at e
      rw [← e] at q
      exact q
theorem ok_law_quote (T : Txg n P K mg) {f : Addr} {fd : FuncData} (F : FnP K "_law_quote" s_law_quote f fd) : FnOk P w K mg base CX0 1 f fd P_law_quote spQuote := by
  refine F.ok sc_law_quote (fun vs H Q E h => ?_) (fun cdv A outer s H vs Q E hr h => ?_)
  · obtain ⟨t, a, rfl, _⟩ := h
    rfl
  · obtain ⟨t, a, rfl, hz, ha, hok, q⟩ := h
    refine ⟨_, PSs.nox (pss_cons (ps_set (i := 2) sc_law_quote.nd rfl (Or.inl rfl) (pe_op op_add (pv 1) pe_int))
  (pss_cons (ps_for PassesOwn.never rfl (pi_range1 (by rfl) T.f_range (pa_cons (pe_callB call_lenS (by rfl) T.f_len (by decide +kernel) (pa_cons (pv 0) pa_nil)) pa_nil)) (pg_name (i := 3) sc_law_quote.nd rfl (Or.inl rfl)) (pss_cons (ps_if (PW.pt (pw_or (pt_cmpR op_ge (pv 2) (pe_callB call_lenS (by rfl) T.f_len (by decide +kernel) (pa_cons (pv 0) pa_nil)) (nomark _)) (pw_or1 (pt_cmpR op_eq (pe_ix ix_str (pv 0) (pv 2) (fun _ _ => rfl)) pe_str (nomark _))))) (pss_one (ps_ret pe_non)) pss_nil)
  (pss_cons (ps_if (pt_cmpR op_eq (pe_ix ix_str (pv 0) (pv 2) (fun _ _ => rfl)) pe_str (nomark _)) (pss_cons (ps_if (pt_cmpR op_ne (pe_slice sl_str (pv 0) (po_some (pe_op op_add (pv 2) pe_int)) (po_some (pe_op op_add (pv 2) pe_int))) pe_str (nomark _)) (pss_one (ps_ret (pv 2))) pss_nil)
  (pss_one (ps_aug (i := 2) sc_law_quote.nd rfl (Or.inl rfl) pe_int ip_add))) pss_nil)
  (pss_one (ps_aug (i := 2) sc_law_quote.nd rfl (Or.inl rfl) pe_int ip_add)))))
  (pss_one (ps_ret pe_non)))), ?_⟩
    walk_at "w"
    have hb : big = 200000 := rfl
    refine ⟨_, rfl, by omega, by omega, for_range (Pv := fun i σ H' => ∃ (b : Nat) (x : Option V), σ = [some (.str (Sg t)), some (.int a), some (.int b), x] ∧ H' = H ∧ a + 1 + i ≤ b ∧ b ≤ t.length ∧ (qEnd (t.drop b)).map (b + ·) = (qEnd (t.drop (a + 1))).map (a + 1 + ·)) ⟨a + 1, none, rfl, rfl, Nat.le_refl _, ha, rfl⟩ ?_ ?_⟩
    · rintro i σ H' hi ⟨b, x, rfl, rfl, hib, hbl, e⟩
      walk_at "w"
      rcases (show b < t.length ∨ b = t.length by omega) with hl | rfl
      · rw [decide_eq_false (show ¬ (t.length : Int) ≤ (b : Int) by omega)]
        walk_at "w"
        obtain ⟨c, hc⟩ := at_lt hl
        have dr := drop_at hc
        have okc : okC c = true := List.all_eq_true.mp hok c (List.mem_of_getElem? hc)
        rw [dr] at e
        walk_at "w"
        refine w_eq rfl ?_
        rw [show ("\n" : Str) = Sg [10] from rfl, strEq, show decide ([c] = [10]) = decide (c = 10) by simp]
        walk_at "w"
        have mp : ∀ {o : Option Nat} {k : Nat}, Option.map (b + ·) (o.map (· + k)) = o.map (b + k + ·) := fun {o k} => by
          rw [Option.map_map]
          congr 1
          funext x
          show b + (x + k) = b + k + x
          omega
        refine w_2 (fun h10 => ?_) (fun h10 => ?_)
        · obtain rfl : c = 10 := of_decide_eq_true h10
          walk_at "w"
          rw [qEnd_bad (by decide +kernel)] at e
          rw [← e] at q
          exact q
        · have h10 : c ≠ 10 := of_decide_eq_false h10
          have hS : isS c = true := by
            unfold okC at okc
            rw [decide_eq_false h10, Bool.or_false] at okc
            exact okc
          walk_at "w"
          refine w_eq rfl ?_
          rw [show ("\"" : Str) = Sg [34] from rfl, strEq, show decide ([c] = [34]) = decide (c = 34) by simp]
          walk_at "w"
          refine w_2 (fun h34 => ?_) (fun h34 => ?_)
          · obtain rfl : c = 34 := of_decide_eq_true h34
            walk_at "w"
            refine w_slSg (a := b + 1) (b := b + 2) hz ?_
            walk_at "w"
            refine w_ne rfl ?_
            rw [strEq, show b + 2 - (b + 1) = 1 by omega]
            walk_at "w"
            refine w_2 (fun h3 => ?_) (fun h3 => ?_)
            · have h3 : (t.drop (b + 1)).take 1 ≠ [34] := of_decide_eq_false ((Bool.not_eq_true' _).mp h3)
              rw [qEnd_end h3] at e
              walk_at "w"
              rw [← e] at q
              exact q
            · have h3 : (t.drop (b + 1)).take 1 = [34] := of_decide_eq_true ((Bool.not_eq_false' ..).mp h3)
              have h4 : t[b + 1]? = some 34 := by
                have z := congrArg (fun l : List Nat => l[0]?) h3
                simpa using z
              have dr2 := drop_at h4
              have hl2 : b + 1 < t.length := (List.getElem?_eq_some_iff.mp h4).1
              rw [dr2, qEnd_dbl, mp] at e
              walk_at "w"
              exact ⟨b + 2, _, rfl, rfl, by omega, by omega, e⟩
          · have h34 : c ≠ 34 := of_decide_eq_false h34
            walk_at "w"
            rw [qEnd_next hS h34, mp] at e
            exact ⟨b + 1, _, rfl, rfl, by omega, by omega, e⟩
      · rw [decide_eq_true (show (t.length : Int) ≤ (t.length : Int) by omega)]
        walk_at "w"
        rw [List.drop_length] at e
        rw [← e] at q
        exact q
    · rintro σ H' ⟨b, x, rfl, rfl, hib, hbl, e⟩
      exfalso
      have z : ((t.length : Int)).toNat = t.length := Int.toNat_natCast _
      omega
theorem ok_law_mark (T : Txg n P K mg) {f : Addr} {fd : FuncData} (F : FnP K "_law_mark" s_law_mark f fd) : FnOk P w K mg base CX0 1 f fd P_law_mark spMark := by
  refine F.ok sc_law_mark (fun vs H Q E h => ?_) (fun cdv A outer s H vs Q E hr h => ?_)
  · obtain ⟨t, a, l, rfl, _⟩ := h
    rfl
  · obtain ⟨t, a, l, rfl, hz, ha, q⟩ := h
    refine ⟨_, PSs.nox (pss_cons (ps_if (pt_cmpR op_in_seq (pe_slice sl_str (pv 0) (po_some (pv 1)) (po_some (pe_op op_add (pv 1) pe_int))) (pe_tup (pa_cons pe_str (pa_cons pe_str (pa_cons pe_str (pa_cons pe_str pa_nil))))) (by rfl)) (pss_one (ps_ret (pe_tup (pa_cons pe_str (pa_cons (pe_slice sl_str (pv 0) (po_some (pv 1)) (po_some (pe_op op_add (pv 1) pe_int))) (pa_cons (pv 2) pa_nil)))))) pss_nil)
  (pss_one (ps_ret (pe_ifExp (pt_cmpR op_inSg (pe_ix ix_str (pv 0) (pv 1) (fun _ _ => rfl)) pe_str (by rfl)) (pe_tup (pa_cons pe_str (pa_cons (pe_ix ix_str (pv 0) (pv 1) (fun _ _ => rfl)) (pa_cons (pv 2) pa_nil)))) pe_non)))), ?_⟩
    obtain ⟨c, hc⟩ := at_lt ha
    have dr := drop_at hc
    have n1 : markTok (t.drop a) = if pairB ((t.drop a).take 2) = true then some ((t.drop a).take 2) else if isM c = true then some [c] else none := by
      rw [dr]
      rfl
    walk_at "w"
    refine w_slSg (a := a) (b := a + 2) hz ?_
    rw [Nat.add_sub_cancel_left]
    walk_at "w"
    refine ⟨by show 4 ≤ sizeLine; decide, fun p hp => ?_⟩
    have s1 := sameUpd (o := .tup [V.str "==", V.str "!=", V.str "<=", V.str ">="]) hp
    refine w_inK (l := PAIRS) (.of upd_same) ?_
    walk_at "w"
    refine w_2 (fun h => ?_) (fun h => ?_)
    · rw [if_pos (show pairB ((t.drop a).take 2) = true from h)] at n1
      have q1 := q _ s1
      rw [n1] at q1
      walk_at "w"
      refine w_slSg (a := a) (b := a + 2) hz ?_
      rw [Nat.add_sub_cancel_left]
      walk_at "w"
      exact ⟨by show 3 ≤ sizeLine; decide, fun p2 hp2 => q1 p2 hp2⟩
    · rw [if_neg (show ¬ pairB ((t.drop a).take 2) = true by rw [show pairB ((t.drop a).take 2) = false from h]; exact Bool.false_ne_true)] at n1
      walk_at "w"
      refine w_2 (fun h2 => ?_) (fun h2 => ?_)
      · rw [if_pos (show isM c = true from h2)] at n1
        have q1 := q _ s1
        rw [n1] at q1
        walk_at "w"
        exact ⟨by show 3 ≤ sizeLine; decide, fun p2 hp2 => q1 p2 hp2⟩
      · rw [if_neg (show ¬ isM c = true by rw [show isM c = false from h2]; exact Bool.false_ne_true)] at n1
        have q1 := q _ s1
        rw [n1] at q1
        walk_at "w"
        exact q1
theorem fig_notL {c : Nat} (h : isF c = true) : isL c = false := (by decide +kernel : ∀ c ∈ FIGs.cps.toList, isL c = false) c (of_decide_eq_true h)
theorem key_headL {x : List Nat} (h : keyB x = true) : headL x = true := by
  unfold keyB inV at h
  rw [List.any_eq_true] at h
  obtain ⟨y, hy, e⟩ := h
  obtain ⟨z, hz, rfl⟩ := List.mem_map.mp hy
  have e2 : z = Sg x := beq_iff_eq.mp (show (z == Sg x) = true from e)
  have e3 : headL z.cps.toList = true := (by decide +kernel : ∀ z ∈ KEYS, headL z.cps.toList = true) z hz
  rw [e2] at e3
  exact e3
theorem isdigit_Sg {x : List Nat} (h : x.all isLF = true) (h1 : 1 ≤ x.length) : Txt.isdigit (Sg x) = x.all isF := by
  unfold Txt.isdigit
  rw [Sg_len, decide_eq_true (show x.length > 0 from h1), Bool.true_and, List.all_toArray]
  rw [Bool.eq_iff_iff, List.all_eq_true, List.all_eq_true]
  have key : ∀ c ∈ x, Unicode.isDigit c = isF c := fun c hc => (by decide +kernel : ∀ c ∈ SGN.cps.toList, Unicode.isDigit c = isF c) c (of_decide_eq_true ((sgn_LF c).trans (List.all_eq_true.mp h c hc)))
  exact ⟨fun k c hc => by rw [← key c hc]; exact k c hc, fun k c hc => by rw [key c hc]; exact k c hc⟩
theorem st_fig {c : Nat} {r : List Nat} (h : isF c = true) : stretchTok (c :: r) = if numB (c :: r) = true then some (("number" : Str), V.int (valW (c :: r))) else none := by
  have hl : headL (c :: r) = false := fig_notL h
  have k : keyB (c :: r) = false := by
    cases e : keyB (c :: r) with
    | false => rfl
    | true =>
      have z := key_headL e
      rw [hl] at z
      cases z
  have nn : nameB (c :: r) = false := by
    unfold nameB
    rw [hl, Bool.false_and, Bool.and_false, Bool.and_false, Bool.and_false]
  unfold stretchTok
  rw [k, if_neg Bool.false_ne_true, nn, if_neg Bool.false_ne_true]
theorem st_let {c : Nat} {r : List Nat} (h : isF c = false) (ha : (c :: r).all isLF = true) : stretchTok (c :: r) = if keyB (c :: r) = true then some (("key" : Str), V.str (Sg (c :: r))) else if (c :: r).length ≤ 20 then some (("name" : Str), V.str (Sg (c :: r))) else none := by
  have hl : headL (c :: r) = true := by
    have z : isLF c = true := List.all_eq_true.mp ha c (List.mem_cons_self ..)
    unfold isLF at z
    rw [h, Bool.or_false] at z
    exact z
  have hn : numB (c :: r) = false := by
    unfold numB
    rw [List.all_cons, h, Bool.false_and, Bool.false_and, Bool.and_false, Bool.and_false]
  unfold stretchTok
  rw [hn, if_neg Bool.false_ne_true]
  by_cases hk : keyB (c :: r) = true
  · rw [if_pos hk, if_pos hk]
  · rw [if_neg hk, if_neg hk]
    have hk2 : keyB (c :: r) = false := by
      cases e : keyB (c :: r) with
      | false => rfl
      | true => exact absurd e hk
    have e1 : nameB (c :: r) = decide ((c :: r).length ≤ 20) := by
      unfold nameB
      rw [hk2, hl, ha, decide_eq_true (show 1 ≤ (c :: r).length from Nat.succ_le_succ (Nat.zero_le _))]
      simp
    rw [e1]
    simp
theorem ok_law_stretch (T : Txg n P K mg) {f : Addr} {fd : FuncData} (F : FnP K "_law_stretch" s_law_stretch f fd) (D_law_keys : Cal P w K mg base CX0 1 "_law_keys" P_law_keys spKeysT) :
    FnOk P w K mg base CX0 2 f fd P_law_stretch spLStretch := by
  refine F.ok sc_law_stretch (fun vs H Q E h => ?_) (fun cdv A outer s H vs Q E hr h => ?_)
  · obtain ⟨x, l, rfl, _⟩ := h
    rfl
  · obtain ⟨x, l, rfl, h1, hz, ha, q⟩ := h
    refine ⟨_, PSs.nox (pss_cons (ps_if (pt_cmpR op_inSg (pe_ix ix_str (pv 0) pe_int (fun _ _ => rfl)) pe_str (by rfl)) (pss_cons (ps_if (PW.pt (pw_or (pt_not (pt_val (pe_bm0 PySem.F.plainAttrs_str PySem.F.slot_str_isdigit PySem.F.type_str_isdigit mt_isdigN (pv 0)))) (pw_or (pt_cmpR op_gt (pe_callB call_lenS (by rfl) T.f_len (by decide +kernel) (pa_cons (pv 0) pa_nil)) pe_int (nomark _)) (pw_or (PW.pt (pw_and (pt_cmpR op_eq (pe_ix ix_str (pv 0) pe_int (fun _ _ => rfl)) pe_str (nomark _)) (pw_and1 (pt_cmpR op_ne (pv 0) pe_str (nomark _))))) (pw_or1 (pt_cmpR op_ge (pe_callTy call_intS (by rfl) T.f_int (by decide +kernel) (pa_cons (pv 0) pa_nil)) (pe_op op_pow pe_int pe_int) (nomark _))))))) (pss_one (ps_ret pe_non)) pss_nil)
  (pss_one (ps_ret (pe_tup (pa_cons pe_str (pa_cons (pe_callTy call_intS (by rfl) T.f_int (by decide +kernel) (pa_cons (pv 0) pa_nil)) (pa_cons (pv 1) pa_nil))))))) pss_nil)
  (pss_cons (ps_if (pt_cmpR op_in_seq (pv 0) (pe_cal0 D_law_keys hr rfl rfl pass0) (by rfl)) (pss_one (ps_ret (pe_tup (pa_cons pe_str (pa_cons (pv 0) (pa_cons (pv 1) pa_nil)))))) pss_nil)
  (pss_one (ps_ret (pe_ifExp (pt_cmpR op_le (pe_callB call_lenS (by rfl) T.f_len (by decide +kernel) (pa_cons (pv 0) pa_nil)) pe_int (nomark _)) (pe_tup (pa_cons pe_str (pa_cons (pv 0) (pa_cons (pv 1) pa_nil)))) pe_non))))), ?_⟩
    match x, h1 with
    | c :: r, h1 =>
    have q0 := q H (Same.refl H)
    walk_at "w"
    refine w_ixSg (a := 0) hz (c := c) rfl ?_
    walk_at "w"
    have eF : decide (c ∈ ("0123456789" : Str).cps.toList) = isF c := rfl
    rw [eF]
    refine w_2 (fun hF => ?_) (fun hF => ?_)
    · have n1 := st_fig (r := r) hF
      have nb : numB (c :: r) = (decide (1 ≤ (c :: r).length) && (decide ((c :: r).length ≤ 18) && ((c :: r).all isF && ((decide (V.str (Sg (c :: r)) = V.str "0") || not0 (c :: r)) && decide (valW (c :: r) ≤ 576460752303423487))))) := rfl
      rw [decide_eq_true h1, Bool.true_and] at nb
      have no : numB (c :: r) = false → Q .non H := fun e => by
        rw [n1, e, if_neg Bool.false_ne_true] at q0
        exact q0
      walk_at "w"
      refine ⟨_, rfl, rfl, Sg (c :: r), rfl, rfl, trivial, ?_⟩
      rw [isdigit_Sg ha h1]
      walk_at "w"
      refine w_2 (fun hD => ?_) (fun hD => ?_)
      · walk_at "w"
        exact no (by rw [nb, show (c :: r).all isF = false from (Bool.not_eq_true' _).mp hD, Bool.false_and, Bool.and_false])
      · have hD : (c :: r).all isF = true := (Bool.not_eq_false' ..).mp hD
        rw [hD, Bool.true_and] at nb
        walk_at "w"
        refine w_2 (fun h18 => ?_) (fun h18 => ?_)
        · have h18 : ¬ (c :: r).length ≤ 18 := by
            have z := of_decide_eq_true h18
            omega
          walk_at "w"
          exact no (by rw [nb, decide_eq_false h18, Bool.false_and])
        · have h18 : (c :: r).length ≤ 18 := by
            have z := of_decide_eq_false h18
            omega
          rw [decide_eq_true h18, Bool.true_and] at nb
          walk_at "w"
          refine w_ixSg (a := 0) hz (c := c) rfl ?_
          walk_at "w"
          refine w_eq rfl ?_
          walk_at "w"
          have p59 : (2 : Int) ^ (59 : Int).toNat = 576460752303423488 := by decide
          have eN : not0 (c :: r) = !decide (V.str (Sg [c]) = V.str "0") := rfl
          rw [eN] at nb
          refine w_2 (fun hz0 => ?_) (fun hz0 => ?_)
          · rw [hz0] at nb
            walk_at "w"
            refine w_ne rfl ?_
            walk_at "w"
            refine w_2 (fun hw => ?_) (fun hw => ?_)
            · walk_at "w"
              exact no (by rw [nb, (Bool.not_eq_true' _).mp hw] <;> rfl)
            · have hw : decide (V.str (Sg (c :: r)) = V.str "0") = true := (Bool.not_eq_false' ..).mp hw
              walk_at "w"
              refine ⟨Sg (c :: r), valW (c :: r), rfl, int_digits hD h1 h18, by rw [Sg_len]; omega, ?_⟩
              walk_at "w"
              rw [p59]
              refine w_2 (fun hv => ?_) (fun hv => ?_)
              · walk_at "w"
                exact no (by rw [nb, decide_eq_false (show ¬ valW (c :: r) ≤ 576460752303423487 by have z := of_decide_eq_true hv; omega), Bool.and_false])
              · have hv2 : valW (c :: r) ≤ 576460752303423487 := by have z := of_decide_eq_false hv; omega
                have yes : numB (c :: r) = true := by rw [nb, hw, decide_eq_true hv2] <;> rfl
                rw [n1, if_pos yes] at q0
                walk_at "w"
                refine ⟨Sg (c :: r), valW (c :: r), rfl, int_digits hD h1 h18, by rw [Sg_len]; omega, ?_⟩
                walk_at "w"
                exact ⟨by show 3 ≤ sizeLine; decide, fun p hp => q0 p hp⟩
          · rw [hz0] at nb
            walk_at "w"
            refine ⟨Sg (c :: r), valW (c :: r), rfl, int_digits hD h1 h18, by rw [Sg_len]; omega, ?_⟩
            walk_at "w"
            rw [p59]
            refine w_2 (fun hv => ?_) (fun hv => ?_)
            · walk_at "w"
              exact no (by rw [nb, decide_eq_false (show ¬ valW (c :: r) ≤ 576460752303423487 by have z := of_decide_eq_true hv; omega), Bool.and_false])
            · have hv2 : valW (c :: r) ≤ 576460752303423487 := by have z := of_decide_eq_false hv; omega
              have yes : numB (c :: r) = true := by rw [nb, Bool.not_false, Bool.or_true, decide_eq_true hv2] <;> rfl
              rw [n1, if_pos yes] at q0
              walk_at "w"
              refine ⟨Sg (c :: r), valW (c :: r), rfl, int_digits hD h1 h18, by rw [Sg_len]; omega, ?_⟩
              walk_at "w"
              exact ⟨by show 3 ≤ sizeLine; decide, fun p hp => q0 p hp⟩
    · have n1 := st_let hF ha
      walk_at "w"
      refine ⟨rfl, fun p H1 s1 hp => ?_⟩
      have q1 := q H1 s1
      rw [n1] at q1
      walk_at "w"
      refine ⟨p, _, rfl, .inl (.of hp), rfl, flat_strs KEYS, ?_⟩
      walk_at "w"
      refine w_2 (fun hk => ?_) (fun hk => ?_)
      · rw [if_pos (show keyB (c :: r) = true from hk)] at q1
        walk_at "w"
        exact ⟨by show 3 ≤ sizeLine; decide, fun p hp => q1 p hp⟩
      · rw [if_neg (show ¬ keyB (c :: r) = true by rw [show keyB (c :: r) = false from hk]; exact Bool.false_ne_true)] at q1
        walk_at "w"
        refine w_2 (fun h20 => ?_) (fun h20 => ?_)
        · rw [if_pos (show (c :: r).length ≤ 20 by have z := of_decide_eq_true h20; omega)] at q1
          walk_at "w"
          exact ⟨by show 3 ≤ sizeLine; decide, fun p hp => q1 p hp⟩
        · rw [if_neg (show ¬ (c :: r).length ≤ 20 by have z := of_decide_eq_false h20; omega)] at q1
          walk_at "w"
          exact q1
end
end K01
namespace L2
open PySem PySem.Spec PyProof.Rows
/-- behind the test a token is out -/
def PT1 (X : Cx) (e : Expr) (t : TT) : Prop := ∀ (pins : List (Addr × Obj)) (s : Shared) (σ : L2.St) (H : Hp) (Q : Bool → Hp → Prop), Inv X pins σ H s → t σ H Q →
  wpAny (model X.prog X.w) X.A (isTrue e X.env (eval e X.env)) (fun b s' => 1 ≤ s'.toks ∧ TP X pins σ Q b s') X.xe s
theorem pt1_eqc {X : Cx} {a : Expr} {ta : TE} {z : Str} {j : Nat} {cpos pos : Pos} (ha : PE X a ta) : PT1 X (.Compare a [.Eq] [.Constant (.str z) j cpos] pos) (tTest (tOp rEq ta (tC (.str z)))) := by
  intro pins s σ H Q I h
  refine wpAny_isTrue_Compare1 (thn (ha.run pins s σ H _ I h) fun v s1 w => ?_) (by rfl)
  obtain ⟨x, H1, I1, r1, q1⟩ := w
  refine Calls.Constant_str (thnN (n := 1) (show 1 ≤ s1.toks + 1 from Nat.succ_le_succ (Nat.zero_le _)) (op_eq pins { s1 with toks := s1.toks + 1 } σ H1 x (.str z) v (.str z s1.toks) (fun y H' => ∃ k, y = V.bl k ∧ Q k H') (I1.tok _) r1 ⟨_, rfl⟩ q1) fun c s3 k3 w => ?_)
  obtain ⟨y, H3, I3, r3, d, rfl, q3⟩ := w
  cases r3
  exact wpAny_truthy_bool ⟨k3, H3, I3, q3⟩
theorem ps_ifT {X : Cx} {c : Expr} {sa sb : List Stmt} {tt : TT} {t u : TS} {pos : Pos} (hc : PT1 X c tt) (ha : PSsn 1 X sa t) (hb : PSsn 1 X sb u) : PS X (.If c sa sb pos) (tIfS tt t u) := ⟨fun pins s σ H D I h =>
  wpAny_If (thn (hc pins s σ H _ I h) fun d s1 z => by
    obtain ⟨k1, H1, I1, q1⟩ := z
    cases d
    · exact hb pins s1 σ H1 D k1 I1 q1
    · exact ha pins s1 σ H1 D k1 I1 q1)⟩
theorem w_replC {to : TE} {y z : Str} {σ : L2.St} {H : Hp} {Q : VK} (q : to σ H fun v H1 => ∃ x, v = .str x ∧ x.length + (x.length + 1) * z.length ≤ 16777216 ∧ Q (.str (Txt.replace x y z)) H1) : CwR.tReplC to y z σ H Q := q
end L2
namespace K01
open PySem L2
abbrev s_law_cut : Stmt := top 37
abbrev N_law_cut : List Str := ["text", "found", "at", "line", "k", "sign", "end", "word", "close"]
abbrev P_law_cut : List Str := ["text"]
theorem sc_law_cut : FnScope N_law_cut P_law_cut (defScope s_law_cut) := ⟨rfl, rfl, rfl, by decide +kernel, rfl, by decide +kernel, by decide +kernel⟩
def ResAt (H : Hp) (p : Addr) : Res → Prop
  | .ok ks => ∃ a, H p = some (.tup [.str "told", .ref a]) ∧ TokL H a ks
  | .error l => H p = some (.tup [.str "bad", .int l])
def spCut : Sp := fun vs H Q _ => ∃ t : List Nat, vs = [.str (Sg t)] ∧ t.length ≤ big ∧ t.all okC = true ∧ ∀ r p H', Same H H' → Lex t 1 r → ResAt H' p r → Q (.ref p) H'
theorem upTo_signs : ∀ {u : List Nat}, u.all okC = true → (upTo 10 u).all isS = true
  | [], _ => rfl
  | c :: r, h => by
    rw [List.all_cons, Bool.and_eq_true] at h
    by_cases hc : c = 10
    · rw [hc, upTo_hit] <;> rfl
    · rw [upTo_cons hc, List.all_cons, upTo_signs h.2, Bool.and_true]
      have z := h.1
      unfold okC at z
      rw [decide_eq_false hc, Bool.or_false] at z
      exact z
section
variable {P : Program} {w : World} {K : PySem.W.Frag} {mg : Str → Option Value} {base : Heap} {n : Nat}
theorem ok_law_cut (T : Txg n P K mg) {f : Addr} {fd : FuncData} (F : FnP K "_law_cut" s_law_cut f fd) (D_law_signs : Cal P w K mg base CX0 1 "_law_signs" P_law_signs spSignsT) (D_law_quote : Cal P w K mg base CX0 1 "_law_quote" P_law_quote spQuote)
    (D_law_end : Cal P w K mg base CX0 2 "_law_end" P_law_end spEnd) (D_law_stretch : Cal P w K mg base CX0 2 "_law_stretch" P_law_stretch spLStretch) (D_law_mark : Cal P w K mg base CX0 1 "_law_mark" P_law_mark spMark) :
    FnOk P w K mg base CX0 3 f fd P_law_cut spCut := by
  refine F.ok sc_law_cut (fun vs H Q E h => ?_) (fun cdv A outer s H vs Q E hr h => ?_)
  · obtain ⟨t, rfl, _⟩ := h
    rfl
  · obtain ⟨t, rfl, hz, hok, q⟩ := h
    refine ⟨_, PSs.nox (pss_cons (ps_set (i := 1) sc_law_cut.nd rfl (Or.inl rfl) (pe_lst pa_nil))
  (pss_cons (ps_set (i := 2) sc_law_cut.nd rfl (Or.inl rfl) pe_int)
  (pss_cons (ps_set (i := 3) sc_law_cut.nd rfl (Or.inl rfl) pe_int)
  (pss_cons (ps_for PassesOwn.never rfl (pi_range1 (by rfl) T.f_range (pa_cons (pe_callB call_lenS (by rfl) T.f_len (by decide +kernel) (pa_cons (pv 0) pa_nil)) pa_nil)) (pg_name (i := 4) sc_law_cut.nd rfl (Or.inl rfl)) (pss_cons (ps_if (pt_cmpR op_ge (pv 2) (pe_callB call_lenS (by rfl) T.f_len (by decide +kernel) (pa_cons (pv 0) pa_nil)) (nomark _)) (pss_one ps_break) pss_nil)
  (pss_cons (ps_set (i := 5) sc_law_cut.nd rfl (Or.inl rfl) (pe_ix ix_str (pv 0) (pv 2) (fun _ _ => rfl)))
  (pss_cons (ps_set (i := 6) sc_law_cut.nd rfl (Or.inl rfl) (pe_op op_add (pv 2) pe_int))
  (pss_cons (ps_set (i := 7) sc_law_cut.nd rfl (Or.inl rfl) pe_non)
  (pss_cons (ps_ifT (pt1_eqc (pv 5)) (pssn_one (psn_of (ps_aug (i := 3) sc_law_cut.nd rfl (Or.inl rfl) pe_int ip_add))) (pssn_one (psn_if (ptn_of (pt_cmpR op_eq (pv 5) pe_str (nomark _))) (pssn_cons (psn_of (ps_set (i := 6) sc_law_cut.nd rfl (Or.inl rfl) (pe_bm PySem.F.plainAttrs_str PySem.F.slot_str_find PySem.F.type_str_find mt_find3N (pv 0) (pa_cons pe_str (pa_cons (pv 2) pa_nil)))))
  (pssn_one (psn_of (ps_set (i := 6) sc_law_cut.nd rfl (Or.inl rfl) (pe_ifExp (pt_cmpR op_lt (pv 6) pe_int (nomark _)) (pe_callB call_lenS (by rfl) T.f_len (by decide +kernel) (pa_cons (pv 0) pa_nil)) (pv 6)))))) (pssn_one (psn_if (ptn_of (pt_cmpR op_ne (pv 5) pe_str (nomark _))) (pssn_cons (psn_if (ptn_of (pt_cmpR op_eq (pv 5) pe_str (nomark _))) (pssn_cons (psn_of (ps_set (i := 8) sc_law_cut.nd rfl (Or.inl rfl) (pe_cal D_law_quote hr rfl rfl pass0 (pa_cons (pv 0) (pa_cons (pv 2) pa_nil)))))
  (pssn_one (psn_if (ptn_of (pt_cmp (pc_notN (pv 8)) rfl)) (pssn_cons (psn_of (ps_set (i := 6) sc_law_cut.nd rfl (Or.inl rfl) (pe_op op_add (pv 8) pe_int)))
  (pssn_one (psn_asg (pen_tup (pan_cons (pen_of pe_str) (pan_cons (CwR.pet_replC (pe_slice sl_str (pv 0) (po_some (pe_op op_add (pv 2) pe_int)) (po_some (pv 8)))) (pan_cons (pen_of (pv 3)) (pan_of pa_nil))))) (pg_name (i := 7) sc_law_cut.nd rfl (Or.inl rfl))))) pssn_nil))) (pssn_one (psn_of (ps_if (pt_cmpR op_inSg (pv 5) (pe_cal0 D_law_signs hr rfl rfl pass0) (by rfl)) (pss_cons (ps_set (i := 6) sc_law_cut.nd rfl (Or.inl rfl) (pe_cal D_law_end hr rfl rfl pass0 (pa_cons (pv 0) (pa_cons (pv 2) pa_nil))))
  (pss_one (ps_set (i := 7) sc_law_cut.nd rfl (Or.inl rfl) (pe_cal D_law_stretch hr rfl rfl pass0 (pa_cons (pe_slice sl_str (pv 0) (po_some (pv 2)) (po_some (pv 6))) (pa_cons (pv 3) pa_nil)))))) (pss_cons (ps_set (i := 7) sc_law_cut.nd rfl (Or.inl rfl) (pe_cal D_law_mark hr rfl rfl pass0 (pa_cons (pv 0) (pa_cons (pv 2) (pa_cons (pv 3) pa_nil)))))
  (pss_one (ps_set (i := 6) sc_law_cut.nd rfl (Or.inl rfl) (pe_ifExp (pt_cmp (pc_notN (pv 7)) rfl) (pe_op op_add (pv 2) (pe_callB call_lenS (by rfl) T.f_len (by decide +kernel) (pa_cons (pe_ix ix_tup (pv 7) pe_int (fun _ _ => rfl)) pa_nil))) (pv 6)))))))))
  (pssn_cons (psn_of (ps_if (pt_cmp (pc_isN (pv 7)) rfl) (pss_one (ps_ret (pe_tup (pa_cons pe_str (pa_cons (pv 3) pa_nil))))) pss_nil))
  (pssn_one (psn_of (ps_expr (pe_bm PySem.F.plainAttrs_list PySem.F.slot_list_append PySem.F.type_list_append mt_append (pv 1) (pa_cons (pv 7) pa_nil))))))) pssn_nil)))))
  (pss_one (ps_set (i := 2) sc_law_cut.nd rfl (Or.inl rfl) (pv 6)))))))))
  (pss_one (ps_ret (pe_tup (pa_cons pe_str (pa_cons (pv 1) pa_nil))))))))), ?_⟩
    walk_at "w"
    refine ⟨by show 0 ≤ sizeLine; decide, fun D hD => ?_⟩
    walk_at "w"
    have hb : big = 200000 := rfl
    refine ⟨_, rfl, by omega, by omega, for_range (Pv := fun i σ H' => ∃ (b : Nat) (l : Int) (x4 x5 x6 x7 x8 : Option V) (xs : List V) (ks : List Tok), σ = [some (.str (Sg t)), some (.ref D), some (.int b), some (.int l), x4, x5, x6, x7, x8] ∧ Same H H' ∧ i ≤ b ∧ b ≤ t.length ∧ H' D = some (.lst xs) ∧ Toks H' xs ks ∧ ks.length ≤ b ∧
      ∀ r, Lex (t.drop b) l r → Lex t 1 (Res.app ks r)) ⟨0, 1, none, none, none, none, none, [], [], rfl, sameUpd hD, Nat.le_refl _, Nat.zero_le _, upd_same, .nil, Nat.le_refl _, fun r k => by cases r <;> exact k⟩ ?_ ?_⟩
    · rintro i σ H1 hi ⟨b, l, x4, x5, x6, x7, x8, xs, ks, rfl, s1, hib, hbl, h1D, hT, hk, hL⟩
      walk_at "w"
      rcases (show b < t.length ∨ b = t.length by omega) with hl | rfl
      · rw [decide_eq_false (show ¬ (t.length : Int) ≤ (b : Int) by omega)]
        walk_at "w1"
        walk_at "w1"
        obtain ⟨c, hc⟩ := at_lt hl
        have dr := drop_at hc
        have okc : okC c = true := List.all_eq_true.mp hok c (List.mem_of_getElem? hc)
        have hokd : (t.drop b).all okC = true := List.all_eq_true.mpr fun x hx => List.all_eq_true.mp hok x (List.mem_of_mem_drop hx)
        have hi2 : i + 1 ≤ b + 1 := Nat.succ_le_succ hib
        with_reducible refine w_seq ?_
        refine asg_cut (fun x H' => x = .str (Sg [c]) ∧ H' = H1) (fun Q k => ?_) ?_
        · walk_at "w"
          exact k _ _ ⟨rfl, rfl⟩
        rintro _ H2 ⟨rfl, rfl⟩
        refine w_name ?_
        with_reducible refine w_seq ?_
        refine asg_cut (fun x H' => x = .int ((b + 1 : Nat) : Int) ∧ H' = H2) (fun Q k => ?_) ?_
        · walk_at "w"
          exact k _ _ ⟨rfl, rfl⟩
        rintro _ H3 ⟨rfl, rfl⟩
        refine w_name ?_
        with_reducible refine w_seq ?_
        refine asg_cut (fun x H' => x = .non ∧ H' = H3) (fun Q k => ?_) ?_
        · walk_at "w"
          exact k _ _ ⟨rfl, rfl⟩
        rintro _ H4 ⟨rfl, rfl⟩
        refine w_name ?_
        with_reducible refine seq_cut (fun σ' H' => ∃ (e : Nat) (l' : Int) (x7' x8' : Option V) (xs' : List V) (ks' : List Tok), σ' = [some (.str (Sg t)), some (.ref D), some (.int b), some (.int l'), some (.int ((0 : Int) + (i : Nat))), some (.str (Sg [c])), some (.int e), x7', x8'] ∧ Same H H' ∧ b < e ∧ e ≤ t.length ∧ H' D = some (.lst xs') ∧ Toks H' xs' ks' ∧ ks'.length ≤ e ∧
          ∀ r, Lex (t.drop e) l' r → Lex t 1 (Res.app ks' r)) (fun N k => ?_) ?_
        · have one : ∀ (l' : Int), (∀ r, Lex (t.drop (b + 1)) l' r → Lex (c :: t.drop (b + 1)) l r) → ∀ x7' x8', N [some (.str (Sg t)), some (.ref D), some (.int b), some (.int l'), some (.int ((0 : Int) + (i : Nat))), some (.str (Sg [c])), some (.int ((b + 1 : Nat) : Int)), x7', x8'] H4 := fun l' h x7' x8' =>
            k _ _ ⟨b + 1, l', x7', x8', xs, ks, rfl, s1, by omega, hl, h1D, hT, Nat.le_succ_of_le hk, fun r z => hL r (by rw [dr]; exact h r z)⟩
          walk_at "w"
          refine w_eq rfl ?_
          rw [show ("\n" : Str) = Sg [10] from rfl, strEq, show decide ([c] = [10]) = decide (c = 10) by simp]
          walk_at "w"
          refine w_2 (fun h10 => ?_) (fun h10 => ?_)
          · obtain rfl : c = 10 := of_decide_eq_true h10
            walk_at "w"
            exact one _ (fun r z => .line z) _ _
          have h10 : c ≠ 10 := of_decide_eq_false h10
          walk_at "w"
          refine w_eq rfl ?_
          rw [show ("#" : Str) = Sg [35] from rfl, strEq, show decide ([c] = [35]) = decide (c = 35) by simp]
          walk_at "w"
          refine w_2 (fun h35 => ?_) (fun h35 => ?_)
          · obtain rfl : c = 35 := of_decide_eq_true h35
            walk_at "w"
            refine ⟨rfl, ?_⟩
            walk_at "w"
            refine ⟨Sg t, Sg [10], b, rfl, rfl, ?_⟩
            walk_at "w"
            have hpos : 0 < (upTo 10 (t.drop b)).length := by
              rw [dr, upTo_cons (by decide), List.length_cons]
              exact Nat.succ_pos _
            have hle := upTo_le (t.drop b) 10
            rw [List.length_drop] at hle
            have go : ∀ x7' x8', N [some (.str (Sg t)), some (.ref D), some (.int b), some (.int l), some (.int ((0 : Int) + (i : Nat))), some (.str (Sg [35])), some (.int ((b + (upTo 10 (t.drop b)).length : Nat) : Int)), x7', x8'] H4 := fun x7' x8' =>
              k _ _ ⟨b + (upTo 10 (t.drop b)).length, l, x7', x8', xs, ks, rfl, s1, by omega, by omega, h1D, hT, by omega, fun r z => hL r (by
                rw [← List.drop_drop, dr] at z
                rw [dr]
                exact .note (by rw [← dr]; exact upTo_signs hokd) z)⟩
            rcases find_from t 10 b hbl with ⟨f1, f2⟩ | ⟨f1, f2⟩
            · rw [decide_eq_true (show Txt.find3 (Sg t) (Sg [10]) (b : Int) < 0 by omega)]
              walk_at "w"
              rw [← f2]
              exact go _ _
            · rw [decide_eq_false (show ¬ Txt.find3 (Sg t) (Sg [10]) (b : Int) < 0 by omega)]
              walk_at "w"
              rw [f2]
              exact go _ _
          have h35 : c ≠ 35 := of_decide_eq_false h35
          walk_at "w"
          refine w_ne rfl ?_
          rw [show (" " : Str) = Sg [32] from rfl, strEq, show decide ([c] = [32]) = decide (c = 32) by simp]
          walk_at "w"
          by_cases h32 : c = 32
          · rw [decide_eq_true h32]
            refine w_nt ?_
            subst h32
            walk_at "w"
            exact one _ (fun r z => .blank z) _ _
          rw [decide_eq_false h32]
          refine w_nf ?_
          have w1 : wordAt (t.drop b) = wordAt (c :: t.drop (b + 1)) := by rw [dr]
          with_reducible refine seq_cut (fun σ' H' => Same H4 H' ∧ ((wordAt (t.drop b) = none ∧ ∃ (e : Nat) (x8' : Option V), σ' = [some (.str (Sg t)), some (.ref D), some (.int b), some (.int l), some (.int ((0 : Int) + (i : Nat))), some (.str (Sg [c])), some (.int e), some .non, x8']) ∨
            ∃ (s' : Str) (v : V) (k' : Nat) (p : Addr) (x8' : Option V), wordAt (t.drop b) = some (s', v, k') ∧ H' p = some (.tup [.str s', v, .int l]) ∧ σ' = [some (.str (Sg t)), some (.ref D), some (.int b), some (.int l), some (.int ((0 : Int) + (i : Nat))), some (.str (Sg [c])), some (.int ((b + k' : Nat) : Int)), some (.ref p), x8'])) (fun N2 k2 => ?_) ?_
          · walk_at "w"
            refine w_eq rfl ?_
            rw [show ("\"" : Str) = Sg [34] from rfl, strEq, show decide ([c] = [34]) = decide (c = 34) by simp]
            walk_at "w"
            refine w_2 (fun h34 => ?_) (fun h34 => ?_)
            · obtain rfl : c = 34 := of_decide_eq_true h34
              have n1 : wordAt (t.drop b) = (qEnd (t.drop (b + 1))).map fun k => (("text" : Str), V.str (Txt.replace (Sg ((t.drop (b + 1)).take k)) (Sg [34] ++ Sg [34]) (Sg [34])), k + 2) := by
                rw [dr]
                unfold wordAt
                rw [if_pos (show (stretch (34 :: t.drop (b + 1))).length = 0 by rw [stretch_stop (by decide +kernel)] <;> rfl)]
                exact if_pos rfl
              walk_at "w"
              refine ⟨t, b, rfl, hz, hl, hok, ?_⟩
              walk_at "w"
              cases hq : qEnd (t.drop (b + 1)) with
              | none =>
                rw [hq] at n1
                rw [show oI (Option.map (b + 1 + ·) none) = V.non from rfl, decide_eq_true (rfl : V.non = V.non)]
                walk_at "w"
                exact k2 _ _ ⟨.refl _, .inl ⟨n1, _, _, rfl⟩⟩
              | some j =>
                rw [hq] at n1
                rw [show oI (Option.map (b + 1 + ·) (some j)) = V.int ((b + 1 + j : Nat) : Int) from rfl, decide_eq_false (fun z : V.int ((b + 1 + j : Nat) : Int) = V.non => by cases z)]
                walk_at "w"
                refine w_replC ?_
                walk_at "w"
                refine w_slSg (a := b + 1) (b := b + 1 + j) hz ?_
                rw [Nat.add_sub_cancel_left]
                have hlen : (Sg ((t.drop (b + 1)).take j)).length ≤ 200000 := by
                  rw [Sg_len, List.length_take, List.length_drop]
                  omega
                refine ⟨_, rfl, by show _ + (_ + 1) * 1 ≤ 16777216; omega, ?_⟩
                walk_at "w"
                refine ⟨by show 3 ≤ sizeLine; decide, fun p hp => ?_⟩
                walk_at "w"
                rw [show ((b + 1 + j : Nat) : Int) + 1 = ((b + (j + 2) : Nat) : Int) by omega]
                exact k2 _ _ ⟨sameUpd hp, .inr ⟨_, _, j + 2, p, _, n1, upd_same, rfl⟩⟩
            · have h34 : c ≠ 34 := of_decide_eq_false h34
              walk_at "w"
              refine ⟨rfl, ?_⟩
              walk_at "w"
              have e1 : decide (c ∈ ("abcdefghijklmnopqrstuvwxyzABCDEFGHIJKLMNOPQRSTUVWXYZ_0123456789" : Str).cps.toList) = isLF c := sgn_LF c
              rw [e1]
              refine w_2 (fun hLF => ?_) (fun hLF => ?_)
              · have hst : (stretch (t.drop b)).length = (stretch (t.drop (b + 1))).length + 1 := by rw [dr, stretch_cons hLF, List.length_cons]
                have n1 : wordAt (t.drop b) = (stretchTok (stretch (t.drop b))).map fun p => (p.1, p.2, (stretch (t.drop b)).length) := by
                  unfold wordAt
                  rw [if_neg (by omega)]
                walk_at "w"
                refine ⟨t, b, rfl, hz, hl, ?_⟩
                rw [show b + 1 + (stretch (t.drop (b + 1))).length = b + (stretch (t.drop b)).length by omega]
                walk_at "w"
                rw [Nat.add_sub_cancel_left, take_stretch]
                have hsz := stretch_le (t.drop b)
                rw [List.length_drop] at hsz
                refine ⟨stretch (t.drop b), l, rfl, by omega, by omega, ?_, fun H' s' => ?_⟩
                · unfold stretch
                  exact List.all_takeWhile
                · cases hs : stretchTok (stretch (t.drop b)) with
                  | none =>
                    rw [hs] at n1
                    walk_at "w"
                    exact k2 _ _ ⟨s', .inl ⟨n1, _, _, rfl⟩⟩
                  | some sv =>
                    obtain ⟨s1', v1⟩ := sv
                    rw [hs] at n1
                    intro p hp
                    walk_at "w"
                    exact k2 _ _ ⟨s'.trans (sameUpd hp), .inr ⟨_, _, _, p, _, n1, upd_same, rfl⟩⟩
              · have n1 : wordAt (t.drop b) = (markTok (t.drop b)).map fun w => (("mark" : Str), V.str (Sg w), w.length) := by
                  rw [dr]
                  unfold wordAt markTok
                  rw [if_pos (show (stretch (c :: t.drop (b + 1))).length = 0 by rw [stretch_stop hLF] <;> rfl)]
                  show (if c = 34 then _ else if pairB ((c :: t.drop (b + 1)).take 2) = true then some (("mark" : Str), V.str (Sg ((c :: t.drop (b + 1)).take 2)), 2) else if isM c = true then some (("mark" : Str), V.str (Sg [c]), 1) else none) = Option.map _ (if pairB ((c :: t.drop (b + 1)).take 2) = true then some ((c :: t.drop (b + 1)).take 2) else if isM c = true then some [c] else none)
                  rw [if_neg h34]
                  by_cases hp : pairB ((c :: t.drop (b + 1)).take 2) = true
                  · rw [if_pos hp, if_pos hp]
                    show _ = some (("mark" : Str), V.str (Sg ((c :: t.drop (b + 1)).take 2)), ((c :: t.drop (b + 1)).take 2).length)
                    rw [pair_len hp]
                  · rw [if_neg hp, if_neg hp]
                    by_cases hm : isM c = true
                    · rw [if_pos hm, if_pos hm] <;> rfl
                    · rw [if_neg hm, if_neg hm] <;> rfl
                walk_at "w"
                refine ⟨t, b, l, rfl, hz, hl, fun H' s' => ?_⟩
                cases hm : markTok (t.drop b) with
                | none =>
                  rw [hm] at n1
                  walk_at "w"
                  rw [decide_eq_true (rfl : V.non = V.non)]
                  walk_at "w"
                  exact k2 _ _ ⟨s', .inl ⟨n1, _, _, rfl⟩⟩
                | some w =>
                  rw [hm] at n1
                  intro p hp
                  walk_at "w"
                  rw [decide_eq_false (fun z : V.ref p = V.non => by cases z)]
                  walk_at "w"
                  refine w_ixT (.of upd_same) (atI_nat (j := 1) rfl) ?_
                  walk_at "w"
                  have hw2 : w.length ≤ 2 := by
                    rw [dr] at hm
                    unfold markTok at hm
                    split at hm
                    · cases hm
                    · split at hm
                      · rename_i hp2
                        obtain rfl := Option.some.inj hm
                        exact Nat.le_of_eq (pair_len hp2)
                      · split at hm
                        · obtain rfl := Option.some.inj hm
                          exact Nat.le_succ _
                        · cases hm
                  refine ⟨Sg w, rfl, by rw [Sg_len]; exact Nat.le_trans hw2 (by decide), ?_⟩
                  rw [Sg_len]
                  walk_at "w"
                  exact k2 _ _ ⟨s'.trans (sameUpd hp), .inr ⟨_, _, _, p, _, n1, upd_same, rfl⟩⟩
          · rintro σ5 H5 ⟨s5, hcase⟩
            have s15 := s1.trans s5
            rcases hcase with ⟨hn, e, x8', rfl⟩ | ⟨s', v, k', p, x8', hw, hp, rfl⟩
            · walk_at "w"
              rw [decide_eq_true (rfl : V.non = V.non)]
              walk_at "w"
              refine ⟨by show 2 ≤ sizeLine; decide, fun p hp => ?_⟩
              have y := hL (.error l) (by
                rw [dr]
                rw [dr] at hn
                exact .bad h35 h32 h10 hn)
              exact q _ p _ (s15.trans (sameUpd hp)) y upd_same
            · walk_at "w"
              rw [decide_eq_false (fun z : V.ref p = V.non => by cases z)]
              walk_at "w"
              have hD5 := s5 _ _ h1D
              refine ⟨.inl ⟨rfl, _, .of hD5⟩, ?_⟩
              walk_at "w"
              have hk0 := wordAt_pos hw
              have hk1 := wordAt_le hw
              rw [List.length_drop] at hk1
              have hlen : xs.length < sizeLine := by
                have e1 := hT.length
                have e2 : big < sizeLine := by decide
                omega
              refine ⟨D, xs, _, rfl, rfl, hD5, hlen, ?_⟩
              have keep : ∀ p2 ys, H5 p2 = some (.tup ys) → (upd H5 D (.lst (xs ++ [V.ref p]))) p2 = some (.tup ys) := fun p2 ys e => by
                rw [upd_ne (ne_of e hD5 (by intro z; cases z))]
                exact e
              refine k _ _ ⟨b + k', l, _, _, xs ++ [.ref p], ks ++ [⟨s', v, l⟩], rfl, ?_, by omega, by omega, upd_same, ?_, ?_, fun r z => ?_⟩
              · exact fun a o e => by
                  rw [upd_ne (ne_of_none e hD)]
                  exact s15 _ _ e
              · exact ((hT.mono fun _ _ e => s5 _ _ e).mono keep).snoc ⟨p, rfl, keep _ _ hp⟩
              · rw [List.length_append]
                show ks.length + 1 ≤ b + k'
                omega
              · rw [← Res.app_cons]
                refine hL _ ?_
                rw [dr]
                rw [dr] at hw
                refine .tok h35 h32 h10 hw ?_
                rw [← dr, List.drop_drop]
                exact z
        · rintro _ H5 ⟨e, l', x7', x8', xs', ks', rfl, s5, he, hel, h5D, hT5, hk5, hL5⟩
          walk_at "w"
          exact ⟨e, l', _, _, _, _, _, xs', ks', rfl, s5, by omega, hel, h5D, hT5, hk5, hL5⟩
      · rw [decide_eq_true (show (t.length : Int) ≤ (t.length : Int) by omega)]
        walk_at "w"
        unfold tBreak
        walk_at "w"
        refine ⟨by show 2 ≤ sizeLine; decide, fun p hp => ?_⟩
        have s2 := sameUpd (o := .tup [.str "told", .ref D]) hp
        have y := hL (.ok []) (by rw [List.drop_length]; exact .nil)
        refine q _ p _ (s1.trans s2) y ⟨D, upd_same, xs, s2 _ _ h1D, ?_⟩
        rw [List.append_nil]
        exact hT.mono fun _ _ e => s2 _ _ e
    · rintro σ H1 ⟨b, l, x4, x5, x6, x7, x8, xs, ks, rfl, s1, hib, hbl, h1D, hT, hk, hL⟩
      have z : ((t.length : Int)).toNat = t.length := Int.toNat_natCast _
      obtain rfl : b = t.length := by omega
      walk_at "w"
      refine ⟨by show 2 ≤ sizeLine; decide, fun p hp => ?_⟩
      have s2 := sameUpd (o := .tup [.str "told", .ref D]) hp
      have y := hL (.ok []) (by rw [List.drop_length]; exact .nil)
      refine q _ p _ (s1.trans s2) y ⟨D, upd_same, xs, s2 _ _ h1D, ?_⟩
      rw [List.append_nil]
      exact hT.mono fun _ _ e => s2 _ _ e
end
end K01
namespace L2
open PySem PySem.Spec PyProof.Rows
theorem ix_or {X : Cx} {r r' : R2} (h : IxR X r) (h' : IxR X r') : IxR X (fun x y H Q => r x y H Q ∨ r' x y H Q) := fun value slice pins s σ H x y v u Q I rx ry q hs =>
  q.elim (fun q => h value slice pins s σ H x y v u Q I rx ry q hs) fun q => h' value slice pins s σ H x y v u Q I rx ry q hs
end L2
namespace K01
open PySem L2
abbrev s_law_same : Stmt := top 29
abbrev N_law_same : List Str := ["found", "due", "k"]
abbrev P_law_same : List Str := ["found", "due"]
theorem sc_law_same : FnScope N_law_same P_law_same (defScope s_law_same) := ⟨rfl, rfl, rfl, by decide +kernel, rfl, by decide +kernel, by decide +kernel⟩
def Sc (x y : V) : Prop := (x = .non ∧ y = .non) ∨ (∃ i, x = .int i ∧ y = .int i) ∨ ∃ z, x = .str z ∧ y = .str z
/-- two things alike, to a depth -/
def Sm (H : Hp) : Nat → V → V → Prop
  | 0, _, _ => False
  | n + 1, x, y => Sc x y ∨ ∃ (a b : Addr) (xs ys : List V), x = .ref a ∧ y = .ref b ∧ ((H a = some (.lst xs) ∧ H b = some (.lst ys)) ∨ (H a = some (.tup xs) ∧ H b = some (.tup ys))) ∧ xs.length = ys.length ∧ ys.length ≤ big ∧ ∀ (i : Nat) (u v : V), xs[i]? = some u → ys[i]? = some v → Sm H n u v
theorem Sm.same {H H' : Hp} (s : Same H H') : ∀ (n : Nat) {x y : V}, Sm H n x y → Sm H' n x y
  | 0, _, _, h => h
  | n + 1, _, _, h => h.elim .inl fun ⟨a, b, xs, ys, e1, e2, h1, h2, h3, h4⟩ => .inr ⟨a, b, xs, ys, e1, e2, h1.elim (fun z => .inl ⟨s _ _ z.1, s _ _ z.2⟩) (fun z => .inr ⟨s _ _ z.1, s _ _ z.2⟩), h2, h3, fun i u v e e' => Sm.same s n (h4 i u v e e')⟩
def spS (n : Nat) : Sp := fun vs H Q _ => ∃ x y, vs = [x, y] ∧ Sm H n x y ∧ ∀ H', Same H H' → Q (.bl true) H'
section
variable {P : Program} {w : World} {K : PySem.W.Frag} {mg : Str → Option Value} {base : Heap} {n : Nat}
theorem ok_law_same (T : Txg n P K mg) {f : Addr} {fd : FuncData} (F : FnP K "_law_same" s_law_same f fd) (hm : mg "_law_same" = some (.ref f)) (hb : Binds K fd P_law_same []) : ∀ m, FnOk P w K mg base CX0 m f fd P_law_same (spS m)
  | 0 => ⟨fun vs H Q E h => h.elim fun x h => h.elim fun y h => h.2.1.elim, fun _ _ _ _ _ _ _ _ _ _ _ _ _ h => h.elim fun x h => h.elim fun y h => h.2.1.elim⟩
  | m + 1 => by
    have D_law_same : Cal P w K mg base CX0 m "_law_same" P_law_same (spS m) := ⟨f, fd, ok_law_same T F hm hb m, hm, F.kp, hb⟩
    refine F.ok sc_law_same (fun vs H Q E h => ?_) (fun cdv A outer s H vs Q E hr h => ?_)
    · obtain ⟨x, y, rfl, _⟩ := h
      rfl
    · obtain ⟨x, y, rfl, hS, q⟩ := h
      refine ⟨_, PSs.nox (pss_cons (ps_if (PW.pt (pw_or (pt_val (pe_callB call_isi (by rfl) T.f_isinstance (by decide +kernel) (pa_cons (pv 1) (pa_cons (pe_bltn (v := .ty "list") (by rfl) T.f_list (by decide +kernel) rfl) pa_nil)))) (pw_or1 (pt_val (pe_callB call_isi (by rfl) T.f_isinstance (by decide +kernel) (pa_cons (pv 1) (pa_cons (pe_bltn (v := .ty "tuple") (by rfl) T.f_tuple (by decide +kernel) rfl) pa_nil))))))) (pss_cons (ps_if (PW.pt (pw_or (PW.pt (pw_and (pt_val (pe_callB call_isi (by rfl) T.f_isinstance (by decide +kernel) (pa_cons (pv 1) (pa_cons (pe_bltn (v := .ty "list") (by rfl) T.f_list (by decide +kernel) rfl) pa_nil)))) (pw_and1 (pt_not (pt_val (pe_callB call_isi (by rfl) T.f_isinstance (by decide +kernel) (pa_cons (pv 0) (pa_cons (pe_bltn (v := .ty "list") (by rfl) T.f_list (by decide +kernel) rfl) pa_nil)))))))) (pw_or1 (PW.pt (pw_and (pt_val (pe_callB call_isi (by rfl) T.f_isinstance (by decide +kernel) (pa_cons (pv 1) (pa_cons (pe_bltn (v := .ty "tuple") (by rfl) T.f_tuple (by decide +kernel) rfl) pa_nil)))) (pw_and1 (pt_not (pt_val (pe_callB call_isi (by rfl) T.f_isinstance (by decide +kernel) (pa_cons (pv 0) (pa_cons (pe_bltn (v := .ty "tuple") (by rfl) T.f_tuple (by decide +kernel) rfl) pa_nil))))))))))) (pss_one (ps_ret pe_bl)) pss_nil)
  (pss_one (ps_ret (pe_and (pe_cmpR op_eq (pe_callB call_lenN (by rfl) T.f_len (by decide +kernel) (pa_cons (pv 0) pa_nil)) (pe_callB call_lenN (by rfl) T.f_len (by decide +kernel) (pa_cons (pv 1) pa_nil)) (nomark _)) (pe_one (pe_callB (cr_all rfl) (by rfl) T.f_all (by decide +kernel) (pa_cons (pe_lc (own := [("k", 2)]) (g := gName 2) rfl sc_law_same.nd (pi_range1 (by rfl) T.f_range (pa_cons (pe_callB call_lenN (by rfl) T.f_len (by decide +kernel) (pa_cons (pv 1) pa_nil)) pa_nil)) (blkOk_by (own := [("k", 2)]) (N := N_law_same) (sc := defScope s_law_same) (by decide +kernel)) (fun _ _ _ _ _ => pg_name (i := 2) sc_law_same.nd rfl (Or.inl rfl)) (fun _ _ _ _ _ => pts_nil) (fun _ _ _ _ _ => (pe_cal D_law_same hr (Nat.ble_eq_true_of_le (Nat.le_refl _)) rfl pass0 (pa_cons (pe_ix (ix_or (show IxR _ (rIxL K) from ix_list) (show IxR _ (rIxT K) from ix_tup)) (pv 0) (pv 2) (fun _ _ => rfl)) (pa_cons (pe_ix (ix_or (show IxR _ (rIxL K) from ix_list) (show IxR _ (rIxT K) from ix_tup)) (pv 1) (pv 2) (fun _ _ => rfl)) pa_nil))))) pa_nil))))))) pss_nil)
  (pss_cons (ps_if (pt_cmp (pc_isN (pv 1)) rfl) (pss_one (ps_ret (pe_cmp (pc_isN (pv 0)) rfl))) pss_nil)
  (pss_cons (ps_if (pt_val (pe_callB call_isi (by rfl) T.f_isinstance (by decide +kernel) (pa_cons (pv 1) (pa_cons (pe_bltn (v := .ty "bool") (by rfl) T.f_bool (by decide +kernel) rfl) pa_nil)))) (pss_one (ps_ret (pe_and (pe_callB call_isi (by rfl) T.f_isinstance (by decide +kernel) (pa_cons (pv 0) (pa_cons (pe_bltn (v := .ty "bool") (by rfl) T.f_bool (by decide +kernel) rfl) pa_nil))) (pe_one (pe_cmpR op_eq (pv 0) (pv 1) (nomark _)))))) pss_nil)
  (pss_cons (ps_if (pt_val (pe_callB call_isi (by rfl) T.f_isinstance (by decide +kernel) (pa_cons (pv 1) (pa_cons (pe_bltn (v := .ty "int") (by rfl) T.f_int (by decide +kernel) rfl) pa_nil)))) (pss_one (ps_ret (pe_and (pe_callB call_isi (by rfl) T.f_isinstance (by decide +kernel) (pa_cons (pv 0) (pa_cons (pe_bltn (v := .ty "int") (by rfl) T.f_int (by decide +kernel) rfl) pa_nil))) (pe_and (pe_not (pe_callB call_isi (by rfl) T.f_isinstance (by decide +kernel) (pa_cons (pv 0) (pa_cons (pe_bltn (v := .ty "bool") (by rfl) T.f_bool (by decide +kernel) rfl) pa_nil)))) (pe_one (pe_cmpR op_eq (pv 0) (pv 1) (nomark _))))))) pss_nil)
  (pss_one (ps_ret (pe_and (pe_callB call_isi (by rfl) T.f_isinstance (by decide +kernel) (pa_cons (pv 0) (pa_cons (pe_bltn (v := .ty "str") (by rfl) T.f_str (by decide +kernel) rfl) pa_nil))) (pe_one (pe_cmpR op_eq (pv 0) (pv 1) (nomark _)))))))))), ?_⟩
      have q0 := q H (Same.refl H)
      rcases hS with (⟨rfl, rfl⟩ | ⟨i, rfl, rfl⟩ | ⟨z, rfl, rfl⟩) | ⟨a, b, xs, ys, rfl, rfl, hab, hlen, hbig, hS⟩
      · walk_at "w"
        refine w_isList rfl ?_
        walk_at "w"
        refine w_f ?_
        walk_at "w"
        refine w_isTuple rfl ?_
        walk_at "w"
        refine w_f ?_
        walk_at "w"
        rw [decide_eq_true (rfl : V.non = V.non)]
        walk_at "w"
        rw [decide_eq_true (rfl : V.non = V.non)]
        exact q0
      · walk_at "w"
        refine w_isList rfl ?_
        walk_at "w"
        refine w_f ?_
        walk_at "w"
        refine w_isTuple rfl ?_
        walk_at "w"
        refine w_f ?_
        walk_at "w"
        rw [decide_eq_false (fun z : V.int i = V.non => by cases z)]
        walk_at "w"
        refine w_isBool rfl ?_
        walk_at "w"
        refine w_f ?_
        walk_at "w"
        refine w_isInt rfl ?_
        walk_at "w"
        refine w_t ?_
        walk_at "w"
        refine w_isInt rfl ?_
        walk_at "w"
        refine w_t ?_
        walk_at "w"
        refine w_isBool rfl ?_
        walk_at "w"
        refine w_nf ?_
        walk_at "w"
        rw [decide_eq_true (rfl : i = i)]
        exact q0
      · walk_at "w"
        refine w_isList rfl ?_
        walk_at "w"
        refine w_f ?_
        walk_at "w"
        refine w_isTuple rfl ?_
        walk_at "w"
        refine w_f ?_
        walk_at "w"
        rw [decide_eq_false (fun y : V.str z = V.non => by cases y)]
        walk_at "w"
        refine w_isBool rfl ?_
        walk_at "w"
        refine w_f ?_
        walk_at "w"
        refine w_isInt rfl ?_
        walk_at "w"
        refine w_f ?_
        walk_at "w"
        refine w_isStr rfl ?_
        walk_at "w"
        refine w_t ?_
        walk_at "w"
        refine w_eq rfl ?_
        rw [decide_eq_true (rfl : V.str z = V.str z)]
        exact q0
      · have hbg : big = 200000 := rfl
        rcases hab with ⟨ha, hb'⟩ | ⟨ha, hb'⟩
        · have kA : Kn H (.ref a) := by simp [Kn, tyOf, ha]
          have kB : Kn H (.ref b) := by simp [Kn, tyOf, hb']
          have lsA : isLs H (.ref a) = true := by simp [isLs, ha]
          have lsB : isLs H (.ref b) = true := by simp [isLs, hb']
          have tpB : isTp H (.ref b) = false := by simp [isTp, hb']
          walk_at "w"
          refine w_isList kB ?_
          rw [lsB]
          walk_at "w"
          refine w_isList kB ?_
          rw [lsB]
          walk_at "w"
          refine w_isList kA ?_
          rw [lsA]
          walk_at "w"
          refine w_isTuple kB ?_
          rw [tpB]
          walk_at "w"
          refine w_lenL (.of ha) ?_
          walk_at "w"
          refine w_lenL (.of hb') ?_
          walk_at "w"
          rw [decide_eq_true (show (xs.length : Int) = (ys.length : Int) by omega)]
          walk_at "w"
          refine w_lc ?_
          walk_at "w"
          refine w_lenL (.of hb') ?_
          walk_at "w"
          refine ⟨_, rfl, by omega, by omega, fun D hD => lc_range (Pv := fun i H' => Same H H' ∧ H' D = some (.lst (List.replicate i (V.bl true)))) ⟨sameUpd hD, upd_same⟩ ?_ ?_⟩
          · rintro i H1 hi ⟨s1, h1⟩
            have hi : i < ys.length := by omega
            obtain ⟨v, hv⟩ : ∃ v, ys[i]? = some v := ⟨ys[i], List.getElem?_eq_getElem hi⟩
            obtain ⟨u, hu⟩ : ∃ u, xs[i]? = some u := ⟨xs[i], List.getElem?_eq_getElem (by omega)⟩
            rw [Int.zero_add]
            walk_at "w"
            refine ⟨rfl, ?_⟩
            walk_at "w"
            refine .inl ⟨a, xs, i, u, rfl, rfl, .of (s1 _ _ ha), atI_nat hu, ?_⟩
            walk_at "w"
            refine .inl ⟨b, ys, i, v, rfl, rfl, .of (s1 _ _ hb'), atI_nat hv, ?_⟩
            walk_at "w"
            refine ⟨u, v, rfl, (hS i u v hu hv).same s1, fun H2 s2 => ?_⟩
            refine ⟨_, s2 _ _ h1, ?_, fun c o e => ?_, ?_⟩
            · rw [List.length_replicate]
              have : big < sizeLine := by decide
              omega
            · rw [upd_ne (ne_of_none e hD)]
              exact s2 _ _ (s1 _ _ e)
            · rw [upd_same, List.replicate_succ']
          · rintro H1 ⟨s1, h1⟩
            walk_at "w"
            refine ⟨D, List.replicate ys.length true, rfl, .of (by rw [List.map_replicate]; exact h1), ?_⟩
            rw [show (List.replicate ys.length true).all id = true by simp]
            exact q H1 s1
        · have kA : Kn H (.ref a) := by simp [Kn, tyOf, ha]
          have kB : Kn H (.ref b) := by simp [Kn, tyOf, hb']
          have lsB : isLs H (.ref b) = false := by simp [isLs, hb']
          have tpA : isTp H (.ref a) = true := by simp [isTp, ha]
          have tpB : isTp H (.ref b) = true := by simp [isTp, hb']
          walk_at "w"
          refine w_isList kB ?_
          rw [lsB]
          walk_at "w"
          refine w_isTuple kB ?_
          rw [tpB]
          walk_at "w"
          refine w_isList kB ?_
          rw [lsB]
          walk_at "w"
          refine w_isTuple kB ?_
          rw [tpB]
          walk_at "w"
          refine w_isTuple kA ?_
          rw [tpA]
          walk_at "w"
          refine w_lenT (.of ha) ?_
          walk_at "w"
          refine w_lenT (.of hb') ?_
          walk_at "w"
          rw [decide_eq_true (show (xs.length : Int) = (ys.length : Int) by omega)]
          walk_at "w"
          refine w_lc ?_
          walk_at "w"
          refine w_lenT (.of hb') ?_
          walk_at "w"
          refine ⟨_, rfl, by omega, by omega, fun D hD => lc_range (Pv := fun i H' => Same H H' ∧ H' D = some (.lst (List.replicate i (V.bl true)))) ⟨sameUpd hD, upd_same⟩ ?_ ?_⟩
          · rintro i H1 hi ⟨s1, h1⟩
            have hi : i < ys.length := by omega
            obtain ⟨v, hv⟩ : ∃ v, ys[i]? = some v := ⟨ys[i], List.getElem?_eq_getElem hi⟩
            obtain ⟨u, hu⟩ : ∃ u, xs[i]? = some u := ⟨xs[i], List.getElem?_eq_getElem (by omega)⟩
            rw [Int.zero_add]
            walk_at "w"
            refine ⟨rfl, ?_⟩
            walk_at "w"
            refine .inr ⟨a, xs, i, u, rfl, rfl, .of (s1 _ _ ha), atI_nat hu, ?_⟩
            walk_at "w"
            refine .inr ⟨b, ys, i, v, rfl, rfl, .of (s1 _ _ hb'), atI_nat hv, ?_⟩
            walk_at "w"
            refine ⟨u, v, rfl, (hS i u v hu hv).same s1, fun H2 s2 => ?_⟩
            refine ⟨_, s2 _ _ h1, ?_, fun c o e => ?_, ?_⟩
            · rw [List.length_replicate]
              have : big < sizeLine := by decide
              omega
            · rw [upd_ne (ne_of_none e hD)]
              exact s2 _ _ (s1 _ _ e)
            · rw [upd_same, List.replicate_succ']
          · rintro H1 ⟨s1, h1⟩
            walk_at "w"
            refine ⟨D, List.replicate ys.length true, rfl, .of (by rw [List.map_replicate]; exact h1), ?_⟩
            rw [show (List.replicate ys.length true).all id = true by simp]
            exact q H1 s1
end
end K01
/-! ## the plain law: the words of a text that is put together -/
namespace K01
open PySem L2
theorem replace_spl (x y z : Str) (hy : TL.tl y ≠ []) : TL.tl (Txt.replace x y z) = TL.joinL (TL.tl z) (TL.spl (TL.tl y) 0 [] (TL.tl x)) := by
  obtain ⟨f, g, hn⟩ := StrLaws.occ_tight x y (TL.len1 hy)
  have key := TL.parts_spl hy _ 0 f (Nat.zero_le _) g hn
  rw [List.drop_zero] at key
  have h0 : (y.length == 0) = false := by
    have := TL.len1 hy
    exact beq_eq_false_iff_ne.mpr (by omega)
  unfold Txt.replace
  rw [h0, Bool.false_and, Bool.or_false]
  by_cases h : (Builtin.Str.occurrences x y 0 x.length (x.length + 1)).isEmpty = true
  · rw [if_pos h, ← key, List.isEmpty_iff.mp h]
    show TL.tl x = TL.tl (Builtin.Str.strSub x 0 x.length)
    rw [StrLaws.sub_whole]
  · rw [if_neg h, StrLaws.glued_eq_join, TL.tl_join, StrLaws.partsBetween_eq, key]
abbrev dbl : List Nat → List Nat := StrLaws.dbl 34
theorem dbl_q (r : List Nat) : dbl (34 :: r) = 34 :: 34 :: dbl r := if_pos rfl
theorem dbl_n {c : Nat} (h : c ≠ 34) (r : List Nat) : dbl (c :: r) = c :: dbl r := if_neg h
theorem spl_ne (S : List Nat) : ∀ (k : Nat) (acc l : List Nat), TL.spl S k acc l ≠ []
  | k, acc, [] => by rw [TL.spl_nil]; simp
  | 0, acc, c :: r => by
    cases h : TL.pre S (c :: r) with
    | true => rw [TL.spl_hit h]; simp
    | false => rw [TL.spl_miss h]; exact spl_ne S 0 _ r
  | k + 1, acc, c :: r => by
    show TL.spl S k acc r ≠ []
    exact spl_ne S k acc r
theorem join_cons {S p : List Nat} {ps : List (List Nat)} (h : ps ≠ []) : TL.joinL S (p :: ps) = p ++ (S ++ TL.joinL S ps) := by
  cases ps with
  | nil => exact absurd rfl h
  | cons q r => rfl
theorem undbl : ∀ (l acc : List Nat), TL.joinL [34] (TL.spl [34, 34] 0 acc (dbl l)) = acc ++ l
  | [], acc => by
    show TL.joinL [34] (TL.spl [34, 34] 0 acc []) = _
    rw [TL.spl_nil, List.append_nil] <;> rfl
  | c :: r, acc => by
    by_cases h : c = 34
    · subst h
      rw [dbl_q, TL.spl_hit (by rfl), join_cons (spl_ne _ _ _ _), TL.spl_pass]
      show acc ++ ([34] ++ TL.joinL [34] (TL.spl [34, 34] 0 [] (dbl r))) = _
      rw [undbl r []] <;> rfl
    · rw [dbl_n h, TL.spl_miss (TL.pre_of_head _ _ h), undbl r (acc ++ [c]), List.append_assoc] <;> rfl
theorem undouble (l : List Nat) : Txt.replace (Sg (dbl l)) (Sg [34] ++ Sg [34]) (Sg [34]) = Sg l := by
  have z := replace_spl (Sg (dbl l)) (Sg [34] ++ Sg [34]) (Sg [34]) (by show ([34, 34] : List Nat) ≠ []; simp)
  have e : TL.joinL [34] (TL.spl [34, 34] 0 [] (dbl l)) = l := undbl l []
  refine TL.ext_tl (z.trans ?_)
  exact e
/-! ### segments -/
/-- the rest begins so that what stands ahead is at its end -/
def headNot (p : Nat → Bool) : List Nat → Prop
  | [] => True
  | c :: _ => p c = false
def nl (t : List Nat) : Int := ((t.count 10 : Nat) : Int)
theorem nl_app (a b : List Nat) : nl (a ++ b) = nl a + nl b := by
  unfold nl
  rw [List.count_append]
  omega
inductive Kd where
  | mark | text | word
def stopK : Kd → Nat → Bool
  | .mark => fun c => decide (c = 61)
  | .text => fun c => decide (c = 34)
  | .word => isLF
/-- a word of a text -/
def TokSeg (k : Kd) (w : List Nat) (s : Str) (v : V) : Prop := ∀ rest l r, headNot (stopK k) rest → Lex rest l r → Lex (w ++ rest) l (Res.cons ⟨s, v, l⟩ r)
def isB (c : Nat) : Bool := decide (c = 32) || (decide (c = 10) || decide (c = 35))
def headB : List Nat → Bool
  | [] => false
  | c :: _ => isB c
/-- blanks, line feeds, notes -/
def SkipSeg (w : List Nat) : Prop := ∀ rest l r, Lex rest (l + nl w) r → Lex (w ++ rest) l r
/-- what is no word -/
def BadSeg (w : List Nat) : Prop := ∀ rest l, headB rest = true → Lex (w ++ rest) l (.error l)
theorem LF_not {c : Nat} (h : isLF c = true) : c ≠ 35 ∧ c ≠ 32 ∧ c ≠ 10 := by
  refine ⟨?_, ?_, ?_⟩ <;> (rintro rfl; exact absurd h (by decide +kernel))
theorem stretch_app : ∀ {w rest : List Nat}, w.all isLF = true → headNot isLF rest → stretch (w ++ rest) = w
  | [], [], _, _ => rfl
  | [], c :: r, _, h => stretch_stop h
  | c :: w, rest, h, h' => by
    rw [List.all_cons, Bool.and_eq_true] at h
    rw [List.cons_append, stretch_cons h.1, stretch_app h.2 h']
theorem seg_word {w : List Nat} {s : Str} {v : V} (hw : w ≠ []) (ha : w.all isLF = true) (hs : stretchTok w = some (s, v)) : TokSeg .word w s v := by
  intro rest l r hh hL
  match w, hw with
  | c :: u, _ =>
    obtain ⟨h1, h2, h3⟩ := LF_not (List.all_eq_true.mp ha c (List.mem_cons_self ..))
    have e : wordAt ((c :: u) ++ rest) = some (s, v, (c :: u).length) := by
      unfold wordAt
      rw [stretch_app ha hh, if_neg (by simp), hs] <;> rfl
    have e2 : ((c :: u) ++ rest).drop (c :: u).length = rest := List.drop_left
    exact .tok h1 h2 h3 e (by
      have z : Lex (((c :: u) ++ rest).drop (c :: u).length) l r := by rw [e2]; exact hL
      exact z)
theorem bad_word {w : List Nat} (hw : w ≠ []) (ha : w.all isLF = true) (hs : stretchTok w = none) : BadSeg w := by
  intro rest l hh
  match w, hw with
  | c :: u, _ =>
    obtain ⟨h1, h2, h3⟩ := LF_not (List.all_eq_true.mp ha c (List.mem_cons_self ..))
    have hn : headNot isLF rest := by
      cases rest with
      | nil => trivial
      | cons d r =>
        show isLF d = false
        cases e : isLF d with
        | false => rfl
        | true =>
          obtain ⟨a, b, c⟩ := LF_not e
          have hh' : isB d = true := hh
          unfold isB at hh'
          rw [decide_eq_false b, decide_eq_false c, decide_eq_false a] at hh'
          cases hh'
    have e : wordAt ((c :: u) ++ rest) = none := by
      unfold wordAt
      rw [stretch_app ha hn, if_neg (by simp), hs] <;> rfl
    exact .bad h1 h2 h3 e
theorem len0 {c : Nat} {u : List Nat} (h : isLF c = false) : (stretch (c :: u)).length = 0 := by
  rw [stretch_stop h]; rfl
theorem q_stretch (u : List Nat) : (stretch (34 :: u)).length = 0 := by
  rw [stretch_stop (by decide +kernel)]; rfl
theorem qEnd_dbl_app : ∀ {x rest : List Nat}, x.all isS = true → headNot (stopK .text) rest → qEnd (dbl x ++ 34 :: rest) = some (dbl x).length
  | [], rest, _, h => by
    refine qEnd_end fun e => ?_
    cases rest with
    | nil => cases e
    | cons c r =>
      have hc : decide (c = 34) = false := h
      injection e with e1
      rw [e1] at hc
      cases hc
  | c :: x, rest, ha, h => by
    rw [List.all_cons, Bool.and_eq_true] at ha
    by_cases hc : c = 34
    · subst hc
      rw [dbl_q, List.cons_append, List.cons_append, qEnd_dbl, qEnd_dbl_app ha.2 h] <;> rfl
    · rw [dbl_n hc, List.cons_append, qEnd_next ha.1 hc, qEnd_dbl_app ha.2 h] <;> rfl
theorem seg_text {x : List Nat} (ha : x.all isS = true) : TokSeg .text (34 :: (dbl x ++ [34])) "text" (.str (Sg x)) := by
  intro rest l r hh hL
  have e : wordAt (34 :: (dbl x ++ [34]) ++ rest) = some (("text" : Str), V.str (Sg x), (dbl x).length + 2) := by
    rw [List.cons_append, List.append_assoc]
    unfold wordAt
    rw [if_pos (q_stretch _)]
    show (if (34 : Nat) = 34 then _ else _) = _
    rw [if_pos rfl, List.singleton_append, qEnd_dbl_app ha hh]
    show some (("text" : Str), V.str (Txt.replace (Sg ((dbl x ++ 34 :: rest).take (dbl x).length)) (Sg [34] ++ Sg [34]) (Sg [34])), (dbl x).length + 2) = _
    rw [List.take_left, undouble]
  have e2 : (34 :: (dbl x ++ [34]) ++ rest).drop ((dbl x).length + 2) = rest := by
    have e3 : ((34 :: (dbl x ++ [34])) : List Nat).length = (dbl x).length + 2 := by simp
    rw [← e3]
    exact List.drop_left
  exact .tok (by decide) (by decide) (by decide) e (by
    have z : Lex ((34 :: (dbl x ++ [34]) ++ rest).drop ((dbl x).length + 2)) l r := by rw [e2]; exact hL
    exact z)
theorem qEnd_open : ∀ {x rest : List Nat}, x.all isS = true → qEnd (dbl x ++ 10 :: rest) = none
  | [], _, _ => qEnd_bad (by decide +kernel)
  | c :: x, rest, ha => by
    rw [List.all_cons, Bool.and_eq_true] at ha
    by_cases hc : c = 34
    · subst hc
      rw [dbl_q, List.cons_append, List.cons_append, qEnd_dbl, qEnd_open ha.2] <;> rfl
    · rw [dbl_n hc, List.cons_append, qEnd_next ha.1 hc, qEnd_open ha.2] <;> rfl
theorem bad_quote {u : List Nat} (h : ∀ rest, qEnd (u ++ rest) = none) : BadSeg (34 :: u) := by
  intro rest l _
  have e : wordAt (34 :: (u ++ rest)) = none := by
    unfold wordAt
    rw [if_pos (q_stretch _)]
    show (if (34 : Nat) = 34 then _ else _) = _
    rw [if_pos rfl, h] <;> rfl
  exact .bad (by decide) (by decide) (by decide) e
theorem bad_open {x : List Nat} (ha : x.all isS = true) : BadSeg (34 :: (dbl x ++ [10])) := bad_quote fun rest => by
  rw [List.append_assoc]
  exact qEnd_open ha
theorem bad_three : BadSeg [34, 34, 34, 10] := bad_quote fun rest => by
  show qEnd (34 :: 34 :: 10 :: rest) = none
  rw [qEnd_dbl, qEnd_bad (by decide +kernel)] <;> rfl
/-- a sign that makes a mark alone -/
def mark1 (c : Nat) : Bool := isM c && (!isLF c && (!decide (c = 34) && (!decide (c = 35) && (!decide (c = 32) && !decide (c = 10)))))
def odd1 (c : Nat) : Bool := !isM c && (!isLF c && (!decide (c = 34) && (!decide (c = 35) && (!decide (c = 32) && !decide (c = 10)))))
theorem pair_snd {c d : Nat} {u : List Nat} (h : d ≠ 61) : pairB ((c :: d :: u).take 2) = false := by
  cases e : pairB ((c :: d :: u).take 2) with
  | false => rfl
  | true =>
    unfold pairB inV at e
    rw [List.any_eq_true] at e
    obtain ⟨y, hy, e⟩ := e
    obtain ⟨z, hz, rfl⟩ := List.mem_map.mp hy
    have e2 : z = Sg [c, d] := beq_iff_eq.mp (show (z == Sg [c, d]) = true from e)
    have e3 : z.cps.toList[1]? = some 61 := (by decide +kernel : ∀ z ∈ PAIRS, z.cps.toList[1]? = some 61) z hz
    rw [e2] at e3
    exact absurd (Option.some.inj e3) h
theorem pair_one (c : Nat) : pairB ((c :: []).take 2) = false := by
  cases e : pairB ((c :: []).take 2) with
  | false => rfl
  | true =>
    have z := pair_len e
    cases z
theorem seg_mark1 {c : Nat} (h : mark1 c = true) : TokSeg .mark [c] "mark" (.str (Sg [c])) := by
  intro rest l r hh hL
  unfold mark1 at h
  simp only [Bool.and_eq_true, Bool.not_eq_true', decide_eq_false_iff_not] at h
  obtain ⟨hm, hLF, h34, h35, h32, h10⟩ := h
  have hp : pairB ((c :: rest).take 2) = false := by
    cases rest with
    | nil => exact pair_one c
    | cons d u =>
      exact pair_snd fun e => by
        have z : decide (d = 61) = false := hh
        rw [e] at z
        cases z
  have e : wordAt ([c] ++ rest) = some (("mark" : Str), V.str (Sg [c]), 1) := by
    show wordAt (c :: rest) = _
    unfold wordAt
    rw [if_pos (len0 hLF)]
    show (if c = 34 then _ else if pairB ((c :: rest).take 2) = true then _ else if isM c = true then _ else _) = _
    rw [if_neg h34, hp, if_neg Bool.false_ne_true, if_pos hm]
  exact .tok h35 h32 h10 e hL
theorem seg_mark2 {c d : Nat} (h : (pairB [c, d] && (!isLF c && (!decide (c = 34) && (!decide (c = 35) && (!decide (c = 32) && !decide (c = 10)))))) = true) : TokSeg .mark [c, d] "mark" (.str (Sg [c, d])) := by
  intro rest l r hh hL
  simp only [Bool.and_eq_true, Bool.not_eq_true', decide_eq_false_iff_not] at h
  obtain ⟨hm, hLF, h34, h35, h32, h10⟩ := h
  have e : wordAt ([c, d] ++ rest) = some (("mark" : Str), V.str (Sg [c, d]), 2) := by
    show wordAt (c :: d :: rest) = _
    unfold wordAt
    rw [if_pos (len0 hLF)]
    show (if c = 34 then _ else if pairB [c, d] = true then some (("mark" : Str), V.str (Sg [c, d]), 2) else _) = _
    rw [if_neg h34, if_pos hm]
  exact .tok h35 h32 h10 e hL
theorem bad_odd {c : Nat} (h : odd1 c = true) : BadSeg [c] := by
  intro rest l hh
  unfold odd1 at h
  simp only [Bool.and_eq_true, Bool.not_eq_true', decide_eq_false_iff_not] at h
  obtain ⟨hm, hLF, h34, h35, h32, h10⟩ := h
  have hp : pairB ((c :: rest).take 2) = false := by
    cases rest with
    | nil => exact pair_one c
    | cons d u =>
      exact pair_snd fun e => by
        have z : isB d = true := hh
        rw [e] at z
        exact absurd z (by decide)
  have e : wordAt ([c] ++ rest) = none := by
    show wordAt (c :: rest) = _
    unfold wordAt
    rw [if_pos (len0 hLF)]
    show (if c = 34 then _ else if pairB ((c :: rest).take 2) = true then _ else if isM c = true then _ else _) = _
    rw [if_neg h34, hp, if_neg Bool.false_ne_true, hm, if_neg Bool.false_ne_true]
  exact .bad h35 h32 h10 e
/-! ### skips -/
theorem skip_nil : SkipSeg [] := fun rest l r h => by
  have e : l + nl [] = l := Int.add_zero l
  rw [e] at h
  exact h
theorem skip_blank {w : List Nat} (h : SkipSeg w) : SkipSeg (32 :: w) := fun rest l r k => .blank (h rest l r (by
  have e : nl (32 :: w) = nl w := by
    unfold nl
    rw [List.count_cons_of_ne (by decide)]
  rw [e] at k
  exact k))
theorem skip_line {w : List Nat} (h : SkipSeg w) : SkipSeg (10 :: w) := fun rest l r k => .line (h rest (l + 1) r (by
  have e : nl (10 :: w) = nl w + 1 := by
    unfold nl
    rw [List.count_cons_self]
    omega
  rw [e] at k
  rw [show l + 1 + nl w = l + (nl w + 1) by omega]
  exact k))
theorem upTo_app {c : Nat} : ∀ {x rest : List Nat}, (∀ y ∈ x, y ≠ c) → L2.upTo c (x ++ c :: rest) = x
  | [], _, _ => upTo_hit
  | y :: x, rest, h => by rw [List.cons_append, upTo_cons (h y (List.mem_cons_self ..)), upTo_app fun z hz => h z (List.mem_cons_of_mem _ hz)]
theorem skip_note {x w : List Nat} (hx : x.all isS = true) (h : SkipSeg (10 :: w)) : SkipSeg (35 :: (x ++ 10 :: w)) := fun rest l r k => by
  have hn : ∀ y ∈ (35 :: x), y ≠ 10 := fun y hy e => by
    rcases List.mem_cons.mp hy with rfl | hy
    · cases e
    · have z := List.all_eq_true.mp hx y hy
      rw [e] at z
      exact absurd z (by decide +kernel)
  have e : L2.upTo 10 (35 :: (x ++ 10 :: w) ++ rest) = 35 :: x := by
    have z := upTo_app (rest := w ++ rest) hn
    rw [← z]
    simp
  have eN : nl (35 :: (x ++ 10 :: w)) = nl (10 :: w) := by
    have z : (35 :: (x ++ 10 :: w)) = (35 :: x) ++ (10 :: w) := rfl
    rw [z, nl_app]
    have y : nl (35 :: x) = 0 := by
      unfold nl
      rw [List.count_eq_zero.mpr fun m => hn 10 m rfl] <;> rfl
    rw [y, Int.zero_add]
  rw [eN] at k
  refine .note ?_ ?_
  · have z : (L2.upTo 10 (35 :: (x ++ 10 :: w) ++ rest)).all isS = true := by
      rw [e, List.all_cons, hx, Bool.and_true]
      decide +kernel
    exact z
  · show Lex ((35 :: (x ++ 10 :: w) ++ rest).drop (L2.upTo 10 (35 :: (x ++ 10 :: w) ++ rest)).length) l r
    rw [e]
    have z : ((35 :: (x ++ 10 :: w)) ++ rest).drop (35 :: x).length = (10 :: w) ++ rest := by
      have y : ((35 :: (x ++ 10 :: w)) ++ rest) = (35 :: x) ++ ((10 :: w) ++ rest) := by simp
      rw [y, List.drop_left]
    rw [z]
    exact h rest l r k
end K01
namespace K01
open PySem L2
abbrev s_law_inner : Stmt := top 38
abbrev N_law_inner : List Str := ["flow", "inner", "k"]
abbrev P_law_inner : List Str := ["flow"]
theorem sc_law_inner : FnScope N_law_inner P_law_inner (defScope s_law_inner) := ⟨rfl, rfl, rfl, by decide +kernel, rfl, by decide +kernel, by decide +kernel⟩
abbrev s_law_space : Stmt := top 42
abbrev N_law_space : List Str := ["flow"]
abbrev P_law_space : List Str := ["flow"]
theorem sc_law_space : FnScope N_law_space P_law_space (defScope s_law_space) := ⟨rfl, rfl, rfl, by decide +kernel, rfl, by decide +kernel, by decide +kernel⟩
abbrev s_law_name : Stmt := top 39
abbrev N_law_name : List Str := ["flow", "word", "k"]
abbrev P_law_name : List Str := ["flow"]
theorem sc_law_name : FnScope N_law_name P_law_name (defScope s_law_name) := ⟨rfl, rfl, rfl, by decide +kernel, rfl, by decide +kernel, by decide +kernel⟩
def spInner : Sp := fun vs H Q _ => ∃ (f s : Addr), vs = [.ref f] ∧ Flow H f s ∧ ∀ x H', x.all isS = true → x.length ≤ 8 → Flow H' f s → KeepF f H H' → Q (.str (Sg x)) H'
def spSpace : Sp := fun vs H Q _ => ∃ (f s : Addr), vs = [.ref f] ∧ Flow H f s ∧ ∀ x H', SkipSeg x → headB x = true → x.length ≤ 17 → Flow H' f s → KeepF f H H' → Q (.str (Sg x)) H'
def spName : Sp := fun vs H Q _ => ∃ (f s : Addr), vs = [.ref f] ∧ Flow H f s ∧ ∀ c x H', isL c = true → (c :: x).all isLF = true → (c :: x).length ≤ 20 → keyB (c :: x) = false → Flow H' f s → KeepF f H H' → Q (.str (Sg (c :: x))) H'
theorem pickL {K : PySem.W.Frag} {H : Hp} {Q : VK} {p : Addr} {l : List Str} {d : Int} {n : Nat} (hp : H p = some (.lst (l.map V.str))) (hl : l.length = n) (h0 : 0 ≤ d) (h1 : d < n) (q : ∀ z ∈ l, Q (.str z) H) : rIxL K (.ref p) (.int d) H Q := by
  have h2 : d.toNat < l.length := by omega
  have e : ((d.toNat : Nat) : Int) = d := Int.toNat_of_nonneg h0
  have ha := atI_nat (xs := l.map V.str) (j := d.toNat) (v := .str l[d.toNat]) (by rw [List.getElem?_map, List.getElem?_eq_getElem h2] <;> rfl)
  rw [e] at ha
  exact w_ixL (.of hp) ha (q _ (List.getElem_mem h2))
theorem pickI {K : PySem.W.Frag} {H : Hp} {Q : VK} {p : Addr} {l : List Int} {d : Int} {n : Nat} (hp : H p = some (.lst (l.map V.int))) (hl : l.length = n) (h0 : 0 ≤ d) (h1 : d < n) (q : ∀ z ∈ l, Q (.int z) H) : rIxL K (.ref p) (.int d) H Q := by
  have h2 : d.toNat < l.length := by omega
  have e : ((d.toNat : Nat) : Int) = d := Int.toNat_of_nonneg h0
  have ha := atI_nat (xs := l.map V.int) (j := d.toNat) (v := .int l[d.toNat]) (by rw [List.getElem?_map, List.getElem?_eq_getElem h2] <;> rfl)
  rw [e] at ha
  exact w_ixL (.of hp) ha (q _ (List.getElem_mem h2))
theorem pickH {K : PySem.W.Frag} {H : Hp} {Q : VK} {d : Int} (h0 : 0 ≤ d) (h1 : d < 53) (q : ∀ c, isL c = true → Q (.str (Sg [c])) H) : rIxS (.str SGN) (.int d) H Q := by
  have hl : d.toNat < SGN.cps.toList.length := by
    have : SGN.cps.toList.length = 63 := by decide +kernel
    omega
  have e : ((d.toNat : Nat) : Int) = d := Int.toNat_of_nonneg h0
  have hc : SGN.cps.toList[d.toNat]? = some SGN.cps.toList[d.toNat] := List.getElem?_eq_getElem hl
  have ha := atI_nat hc
  rw [e] at ha
  have h2 : SGN.cps.toList[d.toNat] ∈ SGN.cps.toList.take 53 := by
    have h3 : d.toNat < (SGN.cps.toList.take 53).length := by
      have : (SGN.cps.toList.take 53).length = 53 := by decide +kernel
      omega
    have h4 := List.getElem_mem h3
    rwa [List.getElem_take] at h4
  exact ⟨SGN, d, _, rfl, rfl, by decide +kernel, ha, q _ (List.all_eq_true.mp (show (SGN.cps.toList.take 53).all isL = true by decide +kernel) _ h2)⟩
theorem w_notInKl {K : PySem.W.Frag} {H : Hp} {Q : VK} {w : List Nat} {a : Addr} (h : H a = some (.lst (KEYS.map V.str))) (q : Q (.bl (!keyB w)) H) : rIn K true (.str (Sg w)) (.ref a) H Q := ⟨a, _, rfl, .inl (.of h), rfl, flat_strs KEYS, q⟩
theorem KeepF.upd {f p : Addr} {H : Hp} {o : HO} (h : H p = none) : KeepF f H (L2.upd H p o) := KeepF.same (sameUpd h)
theorem spaces : ∀ z ∈ ([" ", "\n", "  ", " \n ", "# a \" note ) '\n", "#\n\n", " ##01\n"] : List Str), SkipSeg z.cps.toList ∧ headB z.cps.toList = true ∧ z.cps.toList.length ≤ 17 := by
  intro z hz
  refine ⟨?_, (by decide +kernel : ∀ z ∈ ([" ", "\n", "  ", " \n ", "# a \" note ) '\n", "#\n\n", " ##01\n"] : List Str), headB z.cps.toList = true) z hz, (by decide +kernel : ∀ z ∈ ([" ", "\n", "  ", " \n ", "# a \" note ) '\n", "#\n\n", " ##01\n"] : List Str), z.cps.toList.length ≤ 17) z hz⟩
  rcases List.mem_cons.mp hz with rfl | hz
  · exact skip_blank skip_nil
  rcases List.mem_cons.mp hz with rfl | hz
  · exact skip_line skip_nil
  rcases List.mem_cons.mp hz with rfl | hz
  · exact skip_blank (skip_blank skip_nil)
  rcases List.mem_cons.mp hz with rfl | hz
  · exact skip_blank (skip_line (skip_blank skip_nil))
  rcases List.mem_cons.mp hz with rfl | hz
  · exact skip_note (x := (" a \" note ) '" : Str).cps.toList) (w := []) (by decide +kernel) (skip_line skip_nil)
  rcases List.mem_cons.mp hz with rfl | hz
  · exact skip_note (x := []) (w := [10]) rfl (skip_line (skip_line skip_nil))
  rcases List.mem_cons.mp hz with rfl | hz
  · exact skip_blank (skip_note (x := ("#01" : Str).cps.toList) (w := []) (by decide +kernel) (skip_line skip_nil))
  · cases hz
theorem key_und {x : List Nat} (h : keyB x = true) : keyB (x ++ [95]) = false ∧ x.length ≤ 19 ∧ (x ++ [95]).all isLF = true := by
  unfold keyB inV at h
  rw [List.any_eq_true] at h
  obtain ⟨y, hy, e⟩ := h
  obtain ⟨z, hz, rfl⟩ := List.mem_map.mp hy
  have e2 : z = Sg x := beq_iff_eq.mp (show (z == Sg x) = true from e)
  have e3 := (by decide +kernel : ∀ z ∈ KEYS, keyB (z.cps.toList ++ [95]) = false ∧ z.cps.toList.length ≤ 19 ∧ (z.cps.toList ++ [95]).all isLF = true) z hz
  rw [e2] at e3
  exact e3
section
variable {P : Program} {w : World} {K : PySem.W.Frag} {mg : Str → Option Value} {base : Heap} {n : Nat}
theorem ok_law_inner (T : Txg n P K mg) {f : Addr} {fd : FuncData} (F : FnP K "_law_inner" s_law_inner f fd) (D_law_draw : Cal P w K mg base CX0 2 "_law_draw" P_law_draw spDraw) :
    FnOk P w K mg base CX0 3 f fd P_law_inner spInner := by
  refine F.ok sc_law_inner (fun vs H Q E h => ?_) (fun cdv A outer s H vs Q E hr h => ?_)
  · obtain ⟨f, s, rfl, _⟩ := h
    rfl
  · obtain ⟨f, s, rfl, FL, q⟩ := h
    refine ⟨_, PSs.nox (pss_cons (ps_set (i := 1) sc_law_inner.nd rfl (Or.inl rfl) pe_str)
  (pss_cons (ps_for PassesOwn.never rfl (pi_range1 (by rfl) T.f_range (pa_cons (pe_cal D_law_draw hr rfl rfl pass0 (pa_cons (pv 0) (pa_cons pe_int pa_nil))) pa_nil)) (pg_name (i := 2) sc_law_inner.nd rfl (Or.inl rfl)) (pss_one (ps_set (i := 1) sc_law_inner.nd rfl (Or.inl rfl) (pe_op op_addS (pv 1) (pe_ix ix_str pe_str (pe_cal D_law_draw hr rfl rfl pass0 (pa_cons (pv 0) (pa_cons pe_int pa_nil))) (fun _ _ => rfl))))))
  (pss_one (ps_ret (pv 1))))), ?_⟩
    walk_at "w"
    refine ⟨f, s, 9, rfl, FL, by decide, by decide, fun d H1 d0 d1 F1 k1 => ?_⟩
    walk_at "w"
    refine ⟨_, rfl, by omega, by omega, for_range (Pv := fun i σ H' => ∃ (x : List Nat) (y : Option V), σ = [some (.ref f), some (.str (Sg x)), y] ∧ x.all isS = true ∧ x.length = i ∧ Flow H' f s ∧ KeepF f H H') ⟨[], none, rfl, rfl, rfl, F1, k1⟩ ?_ ?_⟩
    · rintro i σ H2 hi ⟨x, y, rfl, hx, hl, F2, k2⟩
      walk_at "w"
      refine ⟨f, s, 10, rfl, F2, by decide, by decide, fun d' H3 d0' d1' F3 k3 => ?_⟩
      refine pickS (K := K) (n := 10) (by decide +kernel) (by decide) d0' d1' fun c hc => ?_
      have hc2 : isS c = true := List.all_eq_true.mp (show List.all _ isS = true by decide +kernel) c hc
      refine w_addS (by rw [Sg_len, Sg_len, List.length_singleton]; have : sizeLine = 16777216 := (by decide); omega) ?_
      rw [Sg_app]
      walk_at "w"
      exact ⟨x ++ [c], _, rfl, by rw [List.all_append, hx, List.all_cons, hc2]; rfl, by rw [List.length_append, hl]; rfl, F3, k2.trans k3⟩
    · rintro σ H2 ⟨x, y, rfl, hx, hl, F2, k2⟩
      walk_at "w"
      exact q x H2 hx (by omega) F2 k2
theorem ok_law_space (T : Txg n P K mg) {f : Addr} {fd : FuncData} (F : FnP K "_law_space" s_law_space f fd) (D_law_draw : Cal P w K mg base CX0 2 "_law_draw" P_law_draw spDraw) :
    FnOk P w K mg base CX0 3 f fd P_law_space spSpace := by
  refine F.ok sc_law_space (fun vs H Q E h => ?_) (fun cdv A outer s H vs Q E hr h => ?_)
  · obtain ⟨f, s, rfl, _⟩ := h
    rfl
  · obtain ⟨f, s, rfl, FL, q⟩ := h
    refine ⟨_, PSs.nox (pss_one (ps_ret (pe_ix ix_list (pe_lst (pa_cons pe_str (pa_cons pe_str (pa_cons pe_str (pa_cons pe_str (pa_cons pe_str (pa_cons pe_str (pa_cons pe_str pa_nil)))))))) (pe_cal D_law_draw hr rfl rfl pass0 (pa_cons (pv 0) (pa_cons pe_int pa_nil))) (fun _ _ => rfl)))), ?_⟩
    walk_at "w"
    refine ⟨by show 7 ≤ sizeLine; decide, fun p hp => ?_⟩
    walk_at "w"
    have e0 := upd_same (H := H) (a := p) (o := .lst (([" ", "\n", "  ", " \n ", "# a \" note ) '\n", "#\n\n", " ##01\n"] : List Str).map V.str))
    refine ⟨f, s, 7, rfl, FL.same (sameUpd hp), by decide, by decide, fun d H1 d0 d1 F1 k1 => ?_⟩
    refine pickL (k1 _ _ (FL.free hp) e0) (n := 7) rfl d0 d1 fun z hz => ?_
    obtain ⟨h1, h2, h3⟩ := spaces z hz
    have z1 := q z.cps.toList H1 h1 h2 h3 F1 ((KeepF.upd hp).trans k1)
    rw [Sg_of] at z1
    exact z1
theorem ok_law_name (T : Txg n P K mg) {f : Addr} {fd : FuncData} (F : FnP K "_law_name" s_law_name f fd) (D_law_draw : Cal P w K mg base CX0 2 "_law_draw" P_law_draw spDraw) (D_law_signs : Cal P w K mg base CX0 1 "_law_signs" P_law_signs spSignsT) (D_law_keys : Cal P w K mg base CX0 1 "_law_keys" P_law_keys spKeysT) :
    FnOk P w K mg base CX0 3 f fd P_law_name spName := by
  refine F.ok sc_law_name (fun vs H Q E h => ?_) (fun cdv A outer s H vs Q E hr h => ?_)
  · obtain ⟨f, s, rfl, _⟩ := h
    rfl
  · obtain ⟨f, s, rfl, FL, q⟩ := h
    refine ⟨_, PSs.nox (pss_cons (ps_set (i := 1) sc_law_name.nd rfl (Or.inl rfl) (pe_ix ix_str (pe_cal0 D_law_signs hr rfl rfl pass0) (pe_cal D_law_draw hr rfl rfl pass0 (pa_cons (pv 0) (pa_cons pe_int pa_nil))) (fun _ _ => rfl)))
  (pss_cons (ps_for PassesOwn.never rfl (pi_range1 (by rfl) T.f_range (pa_cons (pe_ix ix_list (pe_lst (pa_cons pe_int (pa_cons pe_int (pa_cons pe_int (pa_cons pe_int (pa_cons pe_int (pa_cons pe_int pa_nil))))))) (pe_cal D_law_draw hr rfl rfl pass0 (pa_cons (pv 0) (pa_cons pe_int pa_nil))) (fun _ _ => rfl)) pa_nil)) (pg_name (i := 2) sc_law_name.nd rfl (Or.inl rfl)) (pss_one (ps_set (i := 1) sc_law_name.nd rfl (Or.inl rfl) (pe_op op_addS (pv 1) (pe_ix ix_str (pe_cal0 D_law_signs hr rfl rfl pass0) (pe_cal D_law_draw hr rfl rfl pass0 (pa_cons (pv 0) (pa_cons pe_int pa_nil))) (fun _ _ => rfl))))))
  (pss_one (ps_ret (pe_ifExp (pt_cmpR op_notIn_seq (pv 1) (pe_cal0 D_law_keys hr rfl rfl pass0) (by rfl)) (pv 1) (pe_op op_addS (pv 1) pe_str)))))), ?_⟩
    walk_at "w"
    refine ⟨rfl, ?_⟩
    walk_at "w"
    refine ⟨f, s, 53, rfl, FL, by decide, by decide, fun d H1 d0 d1 F1 k1 => ?_⟩
    refine pickH (K := K) d0 d1 fun c hc => ?_
    walk_at "w"
    refine ⟨by show 6 ≤ sizeLine; decide, fun p hp => ?_⟩
    walk_at "w"
    have e0 := upd_same (H := H1) (a := p) (o := .lst (([0, 1, 2, 5, 19, 18] : List Int).map V.int))
    refine ⟨f, s, 6, rfl, F1.same (sameUpd hp), by decide, by decide, fun j H2 j0 j1 F2 k2 => ?_⟩
    refine pickI (k2 _ _ (F1.free hp) e0) (n := 6) rfl j0 j1 fun m hm => ?_
    have hm2 : 0 ≤ m ∧ m ≤ 19 := (by decide : ∀ m ∈ ([0, 1, 2, 5, 19, 18] : List Int), 0 ≤ m ∧ m ≤ 19) m hm
    walk_at "w"
    have kk := (k1.trans (KeepF.upd hp)).trans k2
    refine ⟨_, rfl, by omega, by omega, for_range (Pv := fun i σ H' => ∃ (x : List Nat) (y : Option V), σ = [some (.ref f), some (.str (Sg (c :: x))), y] ∧ x.all isLF = true ∧ x.length = i ∧ Flow H' f s ∧ KeepF f H H') ⟨[], none, rfl, rfl, rfl, F2, kk⟩ ?_ ?_⟩
    · rintro i σ H3 hi ⟨x, y, rfl, hx, hl, F3, k3⟩
      walk_at "w"
      refine ⟨rfl, ?_⟩
      walk_at "w"
      refine ⟨f, s, 63, rfl, F3, by decide, by decide, fun d' H4 d0' d1' F4 k4 => ?_⟩
      refine pickS (K := K) (n := 63) (by decide +kernel) (by decide) d0' d1' fun b hb => ?_
      have hb2 : isLF b = true := (sgn_LF b).symm.trans (decide_eq_true hb)
      refine w_addS (by rw [Sg_len, Sg_len, List.length_singleton, List.length_cons]; have : sizeLine = 16777216 := (by decide); omega) ?_
      rw [Sg_app]
      walk_at "w"
      exact ⟨x ++ [b], _, rfl, by rw [List.all_append, hx, List.all_cons, hb2]; rfl, by rw [List.length_append, hl]; rfl, F4, k3.trans k4⟩
    · rintro σ H3 ⟨x, y, rfl, hx, hl, F3, k3⟩
      have hc2 : isLF c = true := by
        unfold isLF
        rw [hc, Bool.true_or]
      have ha : (c :: x).all isLF = true := by rw [List.all_cons, hc2, hx] <;> rfl
      walk_at "w"
      refine ⟨rfl, fun a H4 s4 h4 => ?_⟩
      refine w_notInKl h4 ?_
      walk_at "w"
      refine w_2 (fun hk => ?_) (fun hk => ?_)
      · walk_at "w"
        exact q c x H4 hc ha (by rw [List.length_cons]; omega) ((Bool.not_eq_true' _).mp hk) (F3.same s4) (k3.trans (.same s4))
      · have hk2 : keyB (c :: x) = true := (Bool.not_eq_false' ..).mp hk
        obtain ⟨u1, u2, u3⟩ := key_und hk2
        walk_at "w"
        refine w_addS (by rw [Sg_len]; show (c :: x).length + 1 ≤ sizeLine; have : sizeLine = 16777216 := (by decide); omega) ?_
        rw [show ("_" : Str) = Sg [95] from rfl, Sg_app]
        rw [List.cons_append] at u1 u3
        exact q c (x ++ [95]) H4 hc u3 (by show (c :: x ++ [95]).length ≤ 20; rw [List.length_append, List.length_singleton]; omega) u1 (F3.same s4) (k3.trans (.same s4))
end
end K01
namespace L2
open PySem PySem.Spec PyProof.Rows
/-- one sign, some times -/
def rRepS : R2 := fun x y H Q => ∃ (c : Nat) (i : Int), x = .str ⟨#[c]⟩ ∧ y = .int i ∧ 2 ≤ i ∧ i ≤ 100000 ∧ Q (.str ⟨(List.replicate i.toNat c).toArray⟩) H
theorem rep_flat (c : Nat) : ∀ (m : Nat) (a : Array Nat), (List.replicate m #[c]).foldl (· ++ ·) a = a ++ (List.replicate m c).toArray
  | 0, a => by simp
  | m + 1, a => by
    rw [List.replicate_succ, List.foldl_cons, rep_flat c m, List.replicate_succ]
    apply Array.ext'
    simp
theorem op_repS {X : Cx} : OpR X (binaryOp .Mult) rRepS := by
  intro pins s σ H x y v u Q I rx ry h
  obtain ⟨c, i, rfl, rfl, h2, h5, q⟩ := h
  obtain ⟨t, rfl⟩ := rx
  obtain ⟨t', rfl⟩ := ry
  have e1 : Txt.mul ⟨#[c]⟩ i = ⟨(List.replicate i.toNat c).toArray⟩ := by
    unfold Txt.mul
    rw [if_neg (by omega), if_neg (by
      rw [Bool.or_eq_true, not_or]
      refine ⟨fun z => ?_, fun z => ?_⟩
      · have := beq_iff_eq.mp z
        omega
      · cases z)]
    rw [rep_flat, Array.empty_append]
  have hok : MulOk ⟨#[c]⟩ i := by
    refine ⟨by rw [decide_eq_false (show ¬ i < -(2 ^ 63 : Int) by omega), decide_eq_false (show ¬ i ≥ 2 ^ 63 by omega)] <;> rfl, fun _ _ => ?_, fun _ _ => ?_⟩
    · have : (1 : Int) ≤ (2 ^ 63 - 1) / i := by
        refine (Int.le_ediv_iff_mul_le (by omega)).mpr ?_
        omega
      show ¬ ((1 : Nat) : Int) > _
      omega
    · show decide (1 * i.toNat > sizeLine) = false
      have : sizeLine = 16777216 := by decide
      exact decide_eq_false (by omega)
  refine SB.mul hok fun t'' k => ?_
  rw [e1]
  exact ⟨.str _, H, I.tok _, ⟨_, rfl⟩, q⟩
theorem w_repS {K : PySem.W.Frag} {c : Nat} {i : Int} {H : Hp} {Q : VK} (h2 : 2 ≤ i) (h5 : i ≤ 100000) (q : Q (.str (Sg (List.replicate i.toNat c))) H) : rRepS (.str (Sg [c])) (.int i) H Q := ⟨c, i, rfl, rfl, h2, h5, q⟩
theorem FunD.okT {P : Program} {w : World} {K : PySem.W.Frag} {mg : Str → Option Value} {base : Heap} {x qual : Str} {params : Arguments} {body : List Stmt} {scope : Scope} {f : Addr} {fd : FuncData} {CX : CXT} {N ps : List Str} {k : Nat} {sp : Sp}
    (F : FunD K x qual params body scope [] [] f fd) (S : FnScope N ps scope) (hnc : ∀ y ∈ scope.names, y.2 ≠ .cell) (hps : 1 ≤ ps.length) (len : ∀ vs H Q E, sp vs H Q E → vs.length = ps.length)
    (hbody : ∀ (cdv : Value) (A : Around) (outer : List Env) (s : Shared) (H : Hp) (vs : List V) (Q : VK) (E : XK), Room k (A.deeper (envOfC qual scope s.heap.objs.size f cdv)) → sp vs H Q E →
      ∃ t, PSsn 1 (cxOf CX P w K mg base N qual scope f cdv A outer s H E) body t ∧ t { nx := fun _ H' => Q .non H', rt := Q } (start N vs) H) : FnOk P w K mg base CX (k + 1) f fd ps sp := by
  obtain ⟨oc, od, dV, kV, doc, pm, an, cdv, ct, osl, rfl, lk, hcd, _, _⟩ := F.ex
  exact fn_ofT lk hcd S hnc hps len fun A outer s H vs Q E hr h => hbody cdv A outer s H vs Q E hr h
end L2
namespace K01
open PySem L2
abbrev s_law_piece : Stmt := top 40
abbrev N_law_piece : List Str := ["flow", "kind", "marks", "sign", "inner", "number", "word"]
abbrev P_law_piece : List Str := ["flow"]
theorem sc_law_piece : FnScope N_law_piece P_law_piece (defScope s_law_piece) := ⟨rfl, rfl, rfl, by decide +kernel, rfl, by decide +kernel, by decide +kernel⟩
abbrev s_law_fault : Stmt := top 41
abbrev N_law_fault : List Str := ["flow", "kind"]
abbrev P_law_fault : List Str := ["flow"]
theorem sc_law_fault : FnScope N_law_fault P_law_fault (defScope s_law_fault) := ⟨rfl, rfl, rfl, by decide +kernel, rfl, by decide +kernel, by decide +kernel⟩
theorem count_nl : ∀ t : List Nat, Txt.count (Sg t) "\n" = nl t := by
  intro t
  rw [show ("\n" : Str) = ⟨#[10]⟩ from rfl, PyProof.Rows.count_cnt]
  show PyProof.Rows.cnt 10 t = nl t
  induction t with
  | nil => rfl
  | cons c r ih =>
    rw [PyProof.Rows.cnt_cons, ih]
    unfold nl
    rw [List.count_cons]
    by_cases h : c = 10
    · subst h
      simp
      omega
    · simp [h]
/-- how a word begins -/
def headOk : Kd → List Nat → Prop
  | _, [] => False
  | .mark, c :: _ => isLF c = false ∧ c ≠ 34
  | _, c :: _ => c ≠ 61
def kdS : Kd → Str → Prop
  | .mark, s => s = "mark"
  | .text, s => s = "text"
  | .word, s => s = "number" ∨ s = "key" ∨ s = "name"
structure Piece (k : Kd) (w : List Nat) (s : Str) (v : V) : Prop where
  seg : TokSeg k w s v
  sort : kdS k s
  head : headOk k w
  len : w.length ≤ 20
  nl : nl w = 0
def spPiece : Sp := fun vs H Q _ => ∃ (f s : Addr), vs = [.ref f] ∧ Flow H f s ∧ ∀ k w z v p H', Piece k w z v → Flow H' f s → KeepF f H H' → H' p = some (.tup [.str (Sg w), .str z, v]) → Q (.ref p) H'
def spFault : Sp := fun vs H Q _ => ∃ (f s : Addr), vs = [.ref f] ∧ Flow H f s ∧ ∀ x H', BadSeg x → x.length ≤ 5001 → Flow H' f s → KeepF f H H' → Q (.str (Sg x)) H'
def MRK : List Str := ["(", ")", "[", "]", "{", "}", ",", ";", ".", "=", "==", "!=", "<", "<=", ">", ">=", "+", "-", "*", "/"]
theorem nl_free {w : List Nat} (h : 10 ∉ w) : nl w = 0 := by
  unfold nl
  rw [List.count_eq_zero.mpr h] <;> rfl
theorem LF_free {w : List Nat} (h : w.all isLF = true) : 10 ∉ w := fun m => absurd (List.all_eq_true.mp h 10 m) (by decide +kernel)
theorem S_free {x : List Nat} (h : x.all isS = true) : 10 ∉ x := fun m => absurd (List.all_eq_true.mp h 10 m) (by decide +kernel)
theorem mem_dbl : ∀ {x : List Nat} {c : Nat}, c ∈ dbl x → c ∈ x
  | [], _, h => h
  | d :: x, c, h => by
    by_cases e : d = 34
    · subst e
      rw [dbl_q] at h
      rcases List.mem_cons.mp h with rfl | h
      · exact List.mem_cons_self ..
      rcases List.mem_cons.mp h with rfl | h
      · exact List.mem_cons_self ..
      · exact List.mem_cons_of_mem _ (mem_dbl h)
    · rw [dbl_n e] at h
      rcases List.mem_cons.mp h with rfl | h
      · exact List.mem_cons_self ..
      · exact List.mem_cons_of_mem _ (mem_dbl h)
theorem len_dbl : ∀ x : List Nat, (dbl x).length ≤ 2 * x.length
  | [] => Nat.le_refl _
  | d :: x => by
    have ih := len_dbl x
    by_cases e : d = 34
    · subst e
      rw [dbl_q, List.length_cons, List.length_cons, List.length_cons]
      omega
    · rw [dbl_n e, List.length_cons, List.length_cons]
      omega
theorem repl_dbl (x : List Nat) : Txt.replace (Sg x) "\"" "\"\"" = Sg (dbl x) := PyProof.Rows.replace_dbl (Sg x) "\"" "\"\"" 34 rfl rfl
def mkB (w : List Nat) : Bool := (match w with
  | [c] => mark1 c
  | [c, d] => pairB [c, d] && (!isLF c && (!decide (c = 34) && (!decide (c = 35) && (!decide (c = 32) && !decide (c = 10)))))
  | _ => false) && decide (w.count 10 = 0)
theorem piece_mark {w : List Nat} (h : mkB w = true) : Piece .mark w "mark" (.str (Sg w)) := by
  unfold mkB at h
  rw [Bool.and_eq_true] at h
  have hn : nl w = 0 := by
    unfold nl
    rw [of_decide_eq_true h.2] <;> rfl
  match w, h.1, hn with
  | [c], h1, hn =>
    have h2 := h1
    unfold mark1 at h2
    simp only [Bool.and_eq_true, Bool.not_eq_true', decide_eq_false_iff_not] at h2
    exact ⟨seg_mark1 h1, rfl, ⟨h2.2.1, h2.2.2.1⟩, by show 1 ≤ 20; decide, hn⟩
  | [c, d], h1, hn =>
    have h2 := h1
    simp only [Bool.and_eq_true, Bool.not_eq_true', decide_eq_false_iff_not] at h2
    exact ⟨seg_mark2 h1, rfl, ⟨h2.2.1, h2.2.2.1⟩, by show 2 ≤ 20; decide, hn⟩
theorem piece_text {x : List Nat} (h : x.all isS = true) (hl : x.length ≤ 8) : Piece .text (34 :: (dbl x ++ [34])) "text" (.str (Sg x)) := by
  refine ⟨seg_text h, rfl, by show (34 : Nat) ≠ 61; decide, ?_, nl_free fun m => ?_⟩
  · have := len_dbl x
    simp only [List.length_cons, List.length_append, List.length_nil]
    omega
  · rcases List.mem_cons.mp m with e | m
    · cases e
    rcases List.mem_append.mp m with m | m
    · exact S_free h (mem_dbl m)
    · rcases List.mem_cons.mp m with e | m
      · cases e
      · cases m
theorem dig_F {c : Nat} (h : 48 ≤ c ∧ c ≤ 57) : isF c = true := by
  have z := (by decide +kernel : ∀ k : Fin 10, isF (48 + k.val) = true) ⟨c - 48, by omega⟩
  rw [show 48 + (c - 48) = c by omega] at z
  exact z
theorem F_LF {c : Nat} (h : isF c = true) : isLF c = true := by
  unfold isLF
  rw [h, Bool.or_true]
theorem num_F (n : Nat) : (TL.numL n).all isF = true := List.all_eq_true.mpr fun c hc => dig_F (TL.numL_digits n c hc)
theorem num_LF (n : Nat) : (TL.numL n).all isLF = true := List.all_eq_true.mpr fun c hc => F_LF (dig_F (TL.numL_digits n c hc))
theorem num_not0 : ∀ (k n : Nat), n ≤ k → 0 < n → not0 (TL.numL n) = true
  | k, n, hk, h0 => by
    by_cases h : n < 10
    · rw [TL.numL_lt h]
      have z := (by decide +kernel : ∀ j : Fin 10, j.val = 0 ∨ not0 [48 + j.val] = true) ⟨n, h⟩
      rcases z with z | z
      · exact absurd z (by show ¬ n = 0; omega)
      · exact z
    · match k, hk with
      | 0, hk => omega
      | k + 1, hk =>
        have ih := num_not0 k (n / 10) (by omega) (by omega)
        rw [TL.numL_step (by omega)]
        cases e : TL.numL (n / 10) with
        | nil => exact absurd e (TL.numL_ne _)
        | cons c r =>
          rw [e] at ih
          exact ih
theorem num_B {n : Nat} (h : n < 576460752303423488) : numB (TL.numL n) = true := by
  have h1 : 1 ≤ (TL.numL n).length := List.length_pos_iff.mpr (TL.numL_ne n)
  have h2 : (TL.numL n).length ≤ 18 := TL.numL_len (by decide) (by omega)
  have h3 : valW (TL.numL n) = n := by
    unfold valW
    rw [TL.numL_val]
  have h4 : (decide (V.str (Sg (TL.numL n)) = V.str "0") || not0 (TL.numL n)) = true := by
    by_cases h0 : n = 0
    · subst h0
      rfl
    · rw [num_not0 n n (Nat.le_refl _) (by omega), Bool.or_true]
  unfold numB
  rw [h4, h3, num_F, decide_eq_true h1, decide_eq_true h2, decide_eq_true (show (n : Int) ≤ 576460752303423487 by omega)] <;> rfl
theorem piece_num {n : Nat} (h : n < 576460752303423488) : Piece .word (TL.numL n) "number" (.int (n : Int)) := by
  have hb := num_B h
  have hF := num_F n
  have hL := num_LF n
  have hl : (TL.numL n).length ≤ 18 := TL.numL_len (by decide) (by omega)
  have hv : valW (TL.numL n) = n := by
    unfold valW
    rw [TL.numL_val]
  have h10 := LF_free hL
  generalize TL.numL n = w at hb hF hL hl hv h10
  match w, hb, hF with
  | [], hb, _ => cases hb
  | c :: r, hb, hF =>
    have hc : isF c = true := List.all_eq_true.mp hF c (List.mem_cons_self ..)
    refine ⟨seg_word (by simp) hL ?_, .inl rfl, ?_, by omega, nl_free h10⟩
    · rw [st_fig hc, if_pos hb, hv]
    · show c ≠ 61
      rintro rfl
      exact absurd hc (by decide +kernel)
def kwB (w : List Nat) : Bool := keyB w && (w.all isLF && (decide (w.length ≤ 20) && (match w with | [] => false | c :: _ => !decide (c = 61))))
theorem piece_key {w : List Nat} (h : kwB w = true) : Piece .word w "key" (.str (Sg w)) := by
  unfold kwB at h
  simp only [Bool.and_eq_true, decide_eq_true_eq] at h
  obtain ⟨hk, ha, hl, hh⟩ := h
  match w, hh with
  | c :: r, hh =>
    refine ⟨seg_word (by simp) ha ?_, .inr (.inl rfl), of_decide_eq_false ((Bool.not_eq_true' _).mp hh), hl, nl_free (LF_free ha)⟩
    unfold stretchTok
    rw [if_pos hk]
theorem L_notF {c : Nat} (h : isL c = true) : isF c = false := by
  cases e : isF c with
  | false => rfl
  | true =>
    rw [fig_notL e] at h
    cases h
theorem piece_name {c : Nat} {x : List Nat} (hc : isL c = true) (ha : (c :: x).all isLF = true) (hl : (c :: x).length ≤ 20) (hk : keyB (c :: x) = false) : Piece .word (c :: x) "name" (.str (Sg (c :: x))) := by
  refine ⟨seg_word (by simp) ha ?_, .inr (.inr rfl), ?_, hl, nl_free (LF_free ha)⟩
  · rw [st_let (L_notF hc) ha, hk, if_neg Bool.false_ne_true, if_pos hl]
  · show c ≠ 61
    rintro rfl
    exact absurd hc (by decide +kernel)
theorem log2_small {z : Int} (h : z.natAbs < 576460752303423488) : z.natAbs.log2 < 1920 := by
  have : z.natAbs.log2 < 60 := by
    by_cases h0 : z.natAbs = 0
    · rw [h0]
      decide
    · exact (Nat.log2_lt h0).mpr (by omega)
  omega
/-! faults -/
theorem fault_num {w : List Nat} {c : Nat} {r : List Nat} (e : w = c :: r) (ha : w.all isLF = true) (hc : isF c = true) (hb : numB w = false) : BadSeg w := by
  subst e
  refine bad_word (by simp) ha ?_
  rw [st_fig hc, hb, if_neg Bool.false_ne_true]
theorem fault_long {c : Nat} {m : Nat} (hc : isL c = true) (hm : 20 ≤ m) : BadSeg (c :: List.replicate m 113) := by
  have hq : isLF 113 = true := by decide +kernel
  have ha : (c :: List.replicate m 113).all isLF = true := by
    have hc2 : isLF c = true := by
      unfold isLF
      rw [hc, Bool.true_or]
    rw [List.all_cons, hc2, Bool.true_and]
    exact List.all_eq_true.mpr fun x hx => by rw [List.eq_of_mem_replicate hx]; exact hq
  refine bad_word (by simp) ha ?_
  have hk : keyB (c :: List.replicate m 113) = false := by
    cases e : keyB (c :: List.replicate m 113) with
    | false => rfl
    | true =>
      have z := (key_und e).2.1
      rw [List.length_cons, List.length_replicate] at z
      omega
  rw [st_let (L_notF hc) ha, hk, if_neg Bool.false_ne_true, if_neg (by rw [List.length_cons, List.length_replicate]; omega)]
theorem fault_zero (n : Nat) : BadSeg (48 :: TL.numL n) := by
  have h1 : 1 ≤ (TL.numL n).length := List.length_pos_iff.mpr (TL.numL_ne n)
  refine fault_num rfl (by rw [List.all_cons, num_LF] <;> rfl) (by decide +kernel) ?_
  have e1 : decide (V.str (Sg (48 :: TL.numL n)) = V.str "0") = false := decide_eq_false fun e => by
    have z : 48 :: TL.numL n = [48] := Sg_inj (V.str.inj e)
    have y := congrArg List.length z
    rw [List.length_cons] at y
    have : ([48] : List Nat).length = 1 := rfl
    omega
  have e2 : not0 (48 :: TL.numL n) = false := rfl
  unfold numB
  rw [e1, e2]
  simp
theorem fault_tail (n : Nat) {c : Nat} (hc : isL c = true) : BadSeg (TL.numL n ++ [c]) := by
  have hL := num_LF n
  have hF := num_F n
  have hn := TL.numL_ne n
  generalize TL.numL n = w at hL hF hn
  match w, hn with
  | d :: r, _ =>
    have hd : isF d = true := List.all_eq_true.mp hF d (List.mem_cons_self ..)
    refine fault_num (c := d) (r := r ++ [c]) rfl ?_ hd ?_
    · have hc2 : isLF c = true := by
        unfold isLF
        rw [hc, Bool.true_or]
      rw [List.all_append, hL, List.all_cons, hc2] <;> rfl
    · have e1 : (d :: r ++ [c]).all isF = false := by
        have z : [c].all isF = false := by rw [List.all_cons, L_notF hc, Bool.false_and]
        rw [List.all_append, z, Bool.and_false]
      unfold numB
      rw [e1]
      simp
theorem fault_big {w : List Nat} {c : Nat} {r : List Nat} (e : w = c :: r) (hF : w.all isF = true) (h : 18 < w.length) : BadSeg w := by
  refine fault_num e (List.all_eq_true.mpr fun x hx => F_LF (List.all_eq_true.mp hF x hx)) (List.all_eq_true.mp hF c (by rw [e]; exact List.mem_cons_self ..)) ?_
  unfold numB
  rw [decide_eq_false (show ¬ w.length ≤ 18 by omega)]
  simp
def zB : List Nat → Bool
  | [] => false
  | c :: r => (c :: r).all isLF && (isF c && (!numB (c :: r) && decide ((c :: r).length ≤ 5001)))
theorem bad_zB {w : List Nat} (h : zB w = true) : BadSeg w ∧ w.length ≤ 5001 := by
  match w, h with
  | c :: r, h =>
    unfold zB at h
    simp only [Bool.and_eq_true, Bool.not_eq_true', decide_eq_true_eq] at h
    exact ⟨fault_num rfl h.1 h.2.1 h.2.2.1, h.2.2.2⟩
theorem str_num (i : Int) (m : Nat) (e : i = (m : Int)) : Str.ofString (toString i) = Sg (TL.numL m) := by
  subst e
  exact TL.ext_tl (TL.tl_num m)
theorem cut_one (c : Nat) (x : List Nat) : cutS (Sg (c :: x)) none (some 1) = Sg [c] := by
  have z := cut_nat (c :: x) 0 1
  exact z
def BIG : List Str := [Sg (TL.numL 576460752303423488), Sg (TL.numL 1000000000000000000), Sg (TL.numL 1000000000000000000000000000000000000000), Sg (49 :: List.replicate 4999 48)]
theorem bad_BIG : ∀ z ∈ BIG, BadSeg z.cps.toList ∧ z.cps.toList.length ≤ 5001 := by
  intro z hz
  rcases List.mem_cons.mp hz with rfl | hz
  · exact bad_zB (by decide +kernel)
  rcases List.mem_cons.mp hz with rfl | hz
  · exact bad_zB (by decide +kernel)
  rcases List.mem_cons.mp hz with rfl | hz
  · exact bad_zB (by decide +kernel)
  rcases List.mem_cons.mp hz with rfl | hz
  · have hF : (49 :: List.replicate 4999 48).all isF = true := by
      rw [List.all_cons, (by decide +kernel : isF 49 = true), Bool.true_and]
      exact List.all_eq_true.mpr fun x hx => by
        rw [List.eq_of_mem_replicate hx]
        decide +kernel
    refine ⟨fault_big rfl hF ?_, ?_⟩
    · rw [List.length_cons, List.length_replicate]
      decide
    · show (49 :: List.replicate 4999 48).length ≤ 5001
      rw [List.length_cons, List.length_replicate]
      decide
  · cases hz
section
variable {P : Program} {w : World} {K : PySem.W.Frag} {mg : Str → Option Value} {base : Heap} {n : Nat}
theorem ok_law_piece (T : Txg n P K mg) {f : Addr} {fd : FuncData} (F : FnP K "_law_piece" s_law_piece f fd) (D_law_draw : Cal P w K mg base CX0 2 "_law_draw" P_law_draw spDraw) (D_law_inner : Cal P w K mg base CX0 3 "_law_inner" P_law_inner spInner)
    (D_law_keys : Cal P w K mg base CX0 1 "_law_keys" P_law_keys spKeysT) (D_law_name : Cal P w K mg base CX0 3 "_law_name" P_law_name spName) :
    FnOk P w K mg base CX0 4 f fd P_law_piece spPiece := by
  refine FunD.okT F sc_law_piece (by decide +kernel) (by decide) (fun vs H Q E h => ?_) (fun cdv A outer s H vs Q E hr h => ?_)
  · obtain ⟨f, s, rfl, _⟩ := h
    rfl
  · obtain ⟨f, s, rfl, FL, q⟩ := h
    refine ⟨_, PSsn.nox (pssn_cons (psn_of (ps_set (i := 1) sc_law_piece.nd rfl (Or.inl rfl) (pe_cal D_law_draw hr rfl rfl pass0 (pa_cons (pv 0) (pa_cons pe_int pa_nil)))))
  (pssn_cons (psn_of (ps_if (pt_cmpR op_eq (pv 1) pe_int (nomark _)) (pss_cons (ps_set (i := 2) sc_law_piece.nd rfl (Or.inl rfl) (pe_lst (pa_cons pe_str (pa_cons pe_str (pa_cons pe_str (pa_cons pe_str (pa_cons pe_str (pa_cons pe_str (pa_cons pe_str (pa_cons pe_str (pa_cons pe_str (pa_cons pe_str (pa_cons pe_str (pa_cons pe_str (pa_cons pe_str (pa_cons pe_str (pa_cons pe_str (pa_cons pe_str (pa_cons pe_str (pa_cons pe_str (pa_cons pe_str (pa_cons pe_str pa_nil))))))))))))))))))))))
  (pss_cons (ps_set (i := 3) sc_law_piece.nd rfl (Or.inl rfl) (pe_ix ix_list (pv 2) (pe_cal D_law_draw hr rfl rfl pass0 (pa_cons (pv 0) (pa_cons pe_int pa_nil))) (fun _ _ => rfl)))
  (pss_one (ps_ret (pe_tup (pa_cons (pv 3) (pa_cons pe_str (pa_cons (pv 3) pa_nil)))))))) pss_nil))
  (pssn_cons (psn_if (ptn_of (pt_cmpR op_eq (pv 1) pe_int (nomark _))) (pssn_cons (psn_of (ps_set (i := 4) sc_law_piece.nd rfl (Or.inl rfl) (pe_cal D_law_inner hr rfl rfl pass0 (pa_cons (pv 0) pa_nil))))
  (pssn_one (psn_ret (pen_tup (pan_cons (pen_op op_addS (pen_op op_addS (pen_of pe_str) (CwR.pet_replC (pv 4))) (pen_of pe_str)) (pan_cons (pen_of pe_str) (pan_cons (pen_of (pv 4)) (pan_of pa_nil)))))))) pssn_nil)
  (pssn_cons (psn_of (ps_if (pt_cmpR op_eq (pv 1) pe_int (nomark _)) (pss_cons (ps_set (i := 5) sc_law_piece.nd rfl (Or.inl rfl) (pe_cal D_law_draw hr rfl rfl pass0 (pa_cons (pv 0) (pa_cons (pe_ix ix_list (pe_lst (pa_cons pe_int (pa_cons pe_int (pa_cons (pe_op op_pow pe_int pe_int) pa_nil)))) (pe_cal D_law_draw hr rfl rfl pass0 (pa_cons (pv 0) (pa_cons pe_int pa_nil))) (fun _ _ => rfl)) pa_nil))))
  (pss_cons (ps_set (i := 5) sc_law_piece.nd rfl (Or.inl rfl) (pe_ix ix_list (pe_lst (pa_cons (pv 5) (pa_cons (pe_op op_sub (pe_op op_sub (pe_op op_pow pe_int pe_int) pe_int) (pv 5)) pa_nil))) (pe_cal D_law_draw hr rfl rfl pass0 (pa_cons (pv 0) (pa_cons pe_int pa_nil))) (fun _ _ => rfl)))
  (pss_one (ps_ret (pe_tup (pa_cons (pe_callTy call_strN (by rfl) T.f_str (by decide +kernel) (pa_cons (pv 5) pa_nil)) (pa_cons pe_str (pa_cons (pv 5) pa_nil)))))))) pss_nil))
  (pssn_cons (psn_of (ps_if (pt_cmpR op_eq (pv 1) pe_int (nomark _)) (pss_cons (ps_set (i := 6) sc_law_piece.nd rfl (Or.inl rfl) (pe_ix ix_list (pe_cal0 D_law_keys hr rfl rfl pass0) (pe_cal D_law_draw hr rfl rfl pass0 (pa_cons (pv 0) (pa_cons pe_int pa_nil))) (fun _ _ => rfl)))
  (pss_one (ps_ret (pe_tup (pa_cons (pv 6) (pa_cons pe_str (pa_cons (pv 6) pa_nil))))))) pss_nil))
  (pssn_cons (psn_of (ps_set (i := 6) sc_law_piece.nd rfl (Or.inl rfl) (pe_cal D_law_name hr rfl rfl pass0 (pa_cons (pv 0) pa_nil))))
  (pssn_one (psn_of (ps_ret (pe_tup (pa_cons (pv 6) (pa_cons pe_str (pa_cons (pv 6) pa_nil))))))))))))), ?_⟩
    walk_at "w"
    refine ⟨f, s, 6, rfl, FL, by decide, by decide, fun d H1 _ _ F1 k1 => ?_⟩
    walk_at "w"
    have szl : sizeLine = 16777216 := by decide
    refine w_2 (fun _ => ?_) (fun _ => ?_)
    · walk_at "w"
      refine ⟨by show 20 ≤ sizeLine; decide, fun p hp => ?_⟩
      walk_at "w"
      have e0 := upd_same (H := H1) (a := p) (o := .lst (MRK.map V.str))
      refine ⟨f, s, 20, rfl, F1.same (sameUpd hp), by decide, by decide, fun j H2 j0 j1 F2 k2 => ?_⟩
      refine pickL (k2 _ _ (F1.free hp) e0) (n := 20) rfl j0 j1 fun z hz => ?_
      walk_at "w"
      refine ⟨by show 3 ≤ sizeLine; decide, fun p2 hp2 => ?_⟩
      have pc := piece_mark ((by decide +kernel : ∀ z ∈ MRK, mkB z.cps.toList = true) z hz)
      rw [Sg_of] at pc
      refine q .mark z.cps.toList "mark" (.str z) p2 _ pc (F2.same (sameUpd hp2)) ((k1.trans (KeepF.upd hp)).trans (k2.trans (KeepF.upd hp2))) ?_
      rw [Sg_of]
      exact upd_same
    walk_at "w"
    refine w_2 (fun _ => ?_) (fun _ => ?_)
    · walk_at "w"
      refine ⟨f, s, rfl, F1, fun x H2 hx hl F2 k2 => ?_⟩
      walk_at "w"
      have hd := len_dbl x
      refine w_replC ?_
      walk_at "w"
      refine ⟨_, rfl, by rw [Sg_len]; show x.length + (x.length + 1) * 2 ≤ 16777216; omega, ?_⟩
      rw [repl_dbl]
      walk_at "w"
      refine w_addS (by rw [Sg_len]; show 1 + (dbl x).length ≤ sizeLine; omega) ?_
      rw [show ("\"" : Str) = Sg [34] from rfl, Sg_app]
      walk_at "w"
      refine w_addS (by rw [Sg_len, Sg_len]; show (34 :: dbl x).length + 1 ≤ sizeLine; rw [List.length_cons]; omega) ?_
      rw [Sg_app]
      walk_at "w"
      refine ⟨by show 3 ≤ sizeLine; decide, fun p hp => ?_⟩
      exact q .text (34 :: (dbl x ++ [34])) "text" (.str (Sg x)) p _ (piece_text hx hl) (F2.same (sameUpd hp)) ((k1.trans k2).trans (KeepF.upd hp)) upd_same
    walk_at "w"
    refine w_2 (fun _ => ?_) (fun _ => ?_)
    · walk_at "w"
      refine ⟨by show 3 ≤ sizeLine; decide, fun p hp => ?_⟩
      walk_at "w"
      have e0 := upd_same (H := H1) (a := p) (o := .lst (([2, 300, 576460752303423488] : List Int).map V.int))
      refine ⟨f, s, 3, rfl, F1.same (sameUpd hp), by decide, by decide, fun j H2 j0 j1 F2 k2 => ?_⟩
      refine pickI (k2 _ _ (F1.free hp) e0) (n := 3) rfl j0 j1 fun m hm => ?_
      have hm2 := (by decide +kernel : ∀ m ∈ ([2, 300, 576460752303423488] : List Int), 0 < m ∧ m.natAbs.log2 < 9000 ∧ m ≤ 576460752303423488) m hm
      walk_at "w"
      refine ⟨f, s, m, rfl, F2, hm2.1, hm2.2.1, fun v H3 v0 v1 F3 k3 => ?_⟩
      walk_at "w"
      refine ⟨by show 2 ≤ sizeLine; decide, fun p2 hp2 => ?_⟩
      walk_at "w"
      have p59 : (2 : Int) ^ (59 : Int).toNat = 576460752303423488 := by decide
      have e1 := upd_same (H := H3) (a := p2) (o := .lst (([v, 2 ^ (59 : Int).toNat - 1 - v] : List Int).map V.int))
      refine ⟨f, s, 2, rfl, F3.same (sameUpd hp2), by decide, by decide, fun j' H4 j0' j1' F4 k4 => ?_⟩
      refine pickI (k4 _ _ (F3.free hp2) e1) (n := 2) rfl j0' j1' fun z hz => ?_
      have hz2 : 0 ≤ z ∧ z < 576460752303423488 := by
        rcases List.mem_cons.mp hz with rfl | hz
        · omega
        rcases List.mem_cons.mp hz with rfl | hz
        · rw [p59]
          omega
        · cases hz
      walk_at "w"
      obtain ⟨m', rfl⟩ := Int.eq_ofNat_of_zero_le hz2.1
      refine ⟨_, rfl, log2_small (by omega), ?_⟩
      rw [TL.ext_tl (show TL.tl (Str.ofString (toString ((m' : Nat) : Int))) = TL.tl (Sg (TL.numL m')) from TL.tl_num m')]
      walk_at "w"
      refine ⟨by show 3 ≤ sizeLine; decide, fun p3 hp3 => ?_⟩
      exact q .word (TL.numL m') "number" (.int (m' : Int)) p3 _ (piece_num (by omega)) (F4.same (sameUpd hp3)) ((((k1.trans (KeepF.upd hp)).trans k2).trans (k3.trans (KeepF.upd hp2))).trans (k4.trans (KeepF.upd hp3))) upd_same
    walk_at "w"
    refine w_2 (fun _ => ?_) (fun _ => ?_)
    · walk_at "w"
      refine ⟨rfl, fun p H2 s2 hp => ?_⟩
      walk_at "w"
      refine ⟨f, s, 31, rfl, F1.same s2, by decide, by decide, fun j H3 j0 j1 F3 k3 => ?_⟩
      have hpf : p ≠ f := fun e => by
        subst e
        obtain ⟨_, ⟨i, a, b, h1⟩, _⟩ := F1.same s2
        rw [hp] at h1
        cases h1
      refine pickL (k3 _ _ hpf hp) (n := 31) (by decide +kernel) j0 j1 fun z hz => ?_
      walk_at "w"
      refine ⟨by show 3 ≤ sizeLine; decide, fun p2 hp2 => ?_⟩
      have pc := piece_key ((by decide +kernel : ∀ z ∈ KEYS, kwB z.cps.toList = true) z hz)
      rw [Sg_of] at pc
      refine q .word z.cps.toList "key" (.str z) p2 _ pc (F3.same (sameUpd hp2)) ((k1.trans (.same s2)).trans (k3.trans (KeepF.upd hp2))) ?_
      rw [Sg_of]
      exact upd_same
    · walk_at "w"
      refine ⟨f, s, rfl, F1, fun c x H2 hc ha hl hk F2 k2 => ?_⟩
      walk_at "w"
      refine ⟨by show 3 ≤ sizeLine; decide, fun p2 hp2 => ?_⟩
      exact q .word (c :: x) "name" (.str (Sg (c :: x))) p2 _ (piece_name hc ha hl hk) (F2.same (sameUpd hp2)) ((k1.trans k2).trans (KeepF.upd hp2)) upd_same
theorem ok_law_fault (T : Txg n P K mg) {f : Addr} {fd : FuncData} (F : FnP K "_law_fault" s_law_fault f fd) (D_law_draw : Cal P w K mg base CX0 2 "_law_draw" P_law_draw spDraw) (D_law_inner : Cal P w K mg base CX0 3 "_law_inner" P_law_inner spInner)
    (D_law_name : Cal P w K mg base CX0 3 "_law_name" P_law_name spName) :
    FnOk P w K mg base CX0 4 f fd P_law_fault spFault := by
  refine FunD.okT F sc_law_fault (by decide +kernel) (by decide) (fun vs H Q E h => ?_) (fun cdv A outer s H vs Q E hr h => ?_)
  · obtain ⟨f, s, rfl, _⟩ := h
    rfl
  · obtain ⟨f, s, rfl, FL, q⟩ := h
    refine ⟨_, PSsn.nox (pssn_cons (psn_of (ps_set (i := 1) sc_law_fault.nd rfl (Or.inl rfl) (pe_cal D_law_draw hr rfl rfl pass0 (pa_cons (pv 0) (pa_cons pe_int pa_nil)))))
  (pssn_cons (psn_of (ps_if (pt_cmpR op_eq (pv 1) pe_int (nomark _)) (pss_one (ps_ret (pe_ix ix_str pe_str (pe_cal D_law_draw hr rfl rfl pass0 (pa_cons (pv 0) (pa_cons pe_int pa_nil))) (fun _ _ => rfl)))) pss_nil))
  (pssn_cons (psn_if (ptn_of (pt_cmpR op_eq (pv 1) pe_int (nomark _))) (pssn_one (psn_ret (pen_op op_addS (pen_op op_addS (pen_of pe_str) (CwR.pet_replC (pe_cal D_law_inner hr rfl rfl pass0 (pa_cons (pv 0) pa_nil)))) (pen_of pe_str)))) pssn_nil)
  (pssn_cons (psn_of (ps_if (pt_cmpR op_eq (pv 1) pe_int (nomark _)) (pss_one (ps_ret (pe_ix ix_list (pe_lst (pa_cons pe_str (pa_cons pe_str (pa_cons pe_str (pa_cons pe_str pa_nil))))) (pe_cal D_law_draw hr rfl rfl pass0 (pa_cons (pv 0) (pa_cons pe_int pa_nil))) (fun _ _ => rfl)))) pss_nil))
  (pssn_cons (psn_of (ps_if (pt_cmpR op_eq (pv 1) pe_int (nomark _)) (pss_one (ps_ret (pe_ix ix_list (pe_lst (pa_cons (pe_callTy call_strN (by rfl) T.f_str (by decide +kernel) (pa_cons (pe_op op_pow pe_int pe_int) pa_nil)) (pa_cons (pe_callTy call_strN (by rfl) T.f_str (by decide +kernel) (pa_cons (pe_op op_pow pe_int pe_int) pa_nil)) (pa_cons (pe_callTy call_strN (by rfl) T.f_str (by decide +kernel) (pa_cons (pe_op op_pow pe_int pe_int) pa_nil)) (pa_cons (pe_op op_addS pe_str (pe_op op_repS pe_str pe_int)) pa_nil))))) (pe_cal D_law_draw hr rfl rfl pass0 (pa_cons (pv 0) (pa_cons pe_int pa_nil))) (fun _ _ => rfl)))) pss_nil))
  (pssn_cons (psn_of (ps_if (pt_cmpR op_eq (pv 1) pe_int (nomark _)) (pss_one (ps_ret (pe_op op_addS (pe_callTy call_strN (by rfl) T.f_str (by decide +kernel) (pa_cons (pe_cal D_law_draw hr rfl rfl pass0 (pa_cons (pv 0) (pa_cons pe_int pa_nil))) pa_nil)) (pe_ix ix_str pe_str (pe_cal D_law_draw hr rfl rfl pass0 (pa_cons (pv 0) (pa_cons pe_int pa_nil))) (fun _ _ => rfl))))) pss_nil))
  (pssn_cons (psn_of (ps_if (pt_cmpR op_eq (pv 1) pe_int (nomark _)) (pss_one (ps_ret (pe_op op_addS (pe_slice sl_str (pe_cal D_law_name hr rfl rfl pass0 (pa_cons (pv 0) pa_nil)) po_none (po_some pe_int)) (pe_op op_repS pe_str (pe_op op_add pe_int (pe_cal D_law_draw hr rfl rfl pass0 (pa_cons (pv 0) (pa_cons pe_int pa_nil)))))))) pss_nil))
  (pssn_cons (psn_of (ps_if (pt_cmpR op_eq (pv 1) pe_int (nomark _)) (pss_one (ps_ret pe_str)) pss_nil))
  (pssn_one (psn_of (ps_ret (pe_op op_addS pe_str (pe_callTy call_strN (by rfl) T.f_str (by decide +kernel) (pa_cons (pe_cal D_law_draw hr rfl rfl pass0 (pa_cons (pv 0) (pa_cons pe_int pa_nil))) pa_nil)))))))))))))), ?_⟩
    walk_at "w"
    refine ⟨f, s, 8, rfl, FL, by decide, by decide, fun d H1 _ _ F1 k1 => ?_⟩
    walk_at "w"
    have szl : sizeLine = 16777216 := by decide
    refine w_2 (fun _ => ?_) (fun _ => ?_)
    · walk_at "w"
      refine ⟨f, s, 12, rfl, F1, by decide, by decide, fun j H2 j0 j1 F2 k2 => ?_⟩
      exact pickS (K := K) (n := 12) (by decide +kernel) (by decide) j0 j1 fun c hc => q [c] H2 (bad_odd (List.all_eq_true.mp (show List.all _ odd1 = true by decide +kernel) c hc)) (by show 1 ≤ 5001; decide) F2 (k1.trans k2)
    walk_at "w"
    refine w_2 (fun _ => ?_) (fun _ => ?_)
    · walk_at "w"
      refine w_replC ?_
      walk_at "w"
      refine ⟨f, s, rfl, F1, fun x H2 hx hl F2 k2 => ?_⟩
      walk_at "w"
      have hd := len_dbl x
      refine ⟨_, rfl, by rw [Sg_len]; show x.length + (x.length + 1) * 2 ≤ 16777216; omega, ?_⟩
      rw [repl_dbl]
      walk_at "w"
      refine w_addS (by rw [Sg_len]; show 1 + (dbl x).length ≤ sizeLine; omega) ?_
      rw [show ("\"" : Str) = Sg [34] from rfl, Sg_app]
      walk_at "w"
      refine w_addS (by rw [Sg_len]; show (34 :: dbl x).length + 1 ≤ sizeLine; rw [List.length_cons]; omega) ?_
      rw [show ("\n" : Str) = Sg [10] from rfl, Sg_app]
      exact q (34 :: (dbl x ++ [10])) H2 (bad_open hx) (by simp only [List.length_cons, List.length_append, List.length_nil]; omega) F2 (k1.trans k2)
    walk_at "w"
    refine w_2 (fun _ => ?_) (fun _ => ?_)
    · walk_at "w"
      refine ⟨by show 4 ≤ sizeLine; decide, fun p hp => ?_⟩
      walk_at "w"
      have e0 := upd_same (H := H1) (a := p) (o := .lst ((["00", "01", "007", "000"] : List Str).map V.str))
      refine ⟨f, s, 4, rfl, F1.same (sameUpd hp), by decide, by decide, fun j H2 j0 j1 F2 k2 => ?_⟩
      refine pickL (k2 _ _ (F1.free hp) e0) (n := 4) rfl j0 j1 fun z hz => ?_
      obtain ⟨b1, b2⟩ := bad_zB ((by decide +kernel : ∀ z ∈ (["00", "01", "007", "000"] : List Str), zB z.cps.toList = true) z hz)
      have z1 := q z.cps.toList H2 b1 b2 F2 ((k1.trans (KeepF.upd hp)).trans k2)
      rw [Sg_of] at z1
      exact z1
    walk_at "w"
    refine w_2 (fun _ => ?_) (fun _ => ?_)
    · walk_at "w"
      refine ⟨_, rfl, by decide +kernel, ?_⟩
      rw [str_num _ 576460752303423488 (by decide +kernel)]
      walk_at "w"
      refine ⟨_, rfl, by decide +kernel, ?_⟩
      rw [str_num _ 1000000000000000000 (by decide +kernel)]
      walk_at "w"
      refine ⟨_, rfl, by decide +kernel, ?_⟩
      rw [str_num _ 1000000000000000000000000000000000000000 (by decide +kernel)]
      walk_at "w"
      refine w_repS (K := K) (c := 48) (by decide) (by decide) ?_
      refine w_addS (by rw [show ("1" : Str) = Sg [49] from rfl, Sg_len, Sg_len, List.length_replicate]; decide +kernel) ?_
      rw [show ("1" : Str) = Sg [49] from rfl, Sg_app]
      walk_at "w"
      refine ⟨by show 4 ≤ sizeLine; decide, fun p hp => ?_⟩
      walk_at "w"
      have e0 := upd_same (H := H1) (a := p) (o := .lst (BIG.map V.str))
      refine ⟨f, s, 4, rfl, F1.same (sameUpd hp), by decide, by decide, fun j H2 j0 j1 F2 k2 => ?_⟩
      refine pickL (k2 _ _ (F1.free hp) e0) (n := 4) rfl j0 j1 fun z hz => ?_
      obtain ⟨b1, b2⟩ := bad_BIG z hz
      have z1 := q z.cps.toList H2 b1 b2 F2 ((k1.trans (KeepF.upd hp)).trans k2)
      rw [Sg_of] at z1
      exact z1
    walk_at "w"
    refine w_2 (fun _ => ?_) (fun _ => ?_)
    · walk_at "w"
      refine ⟨f, s, 900, rfl, F1, by decide, by decide, fun j H2 j0 j1 F2 k2 => ?_⟩
      obtain ⟨m, rfl⟩ := Int.eq_ofNat_of_zero_le j0
      walk_at "w"
      refine ⟨_, rfl, log2_small (by omega), ?_⟩
      rw [str_num _ m rfl]
      walk_at "w"
      refine ⟨f, s, 3, rfl, F2, by decide, by decide, fun i H3 i0 i1 F3 k3 => ?_⟩
      refine pickS (K := K) (n := 3) (by decide +kernel) (by decide) i0 i1 fun c hc => ?_
      have hm : (TL.numL m).length ≤ 18 := TL.numL_len (by decide) (by omega)
      refine w_addS (by rw [Sg_len, Sg_len]; show (TL.numL m).length + 1 ≤ sizeLine; omega) ?_
      rw [Sg_app]
      exact q (TL.numL m ++ [c]) H3 (fault_tail m (List.all_eq_true.mp (show List.all _ isL = true by decide +kernel) c hc)) (by rw [List.length_append, List.length_singleton]; omega) F3 ((k1.trans k2).trans k3)
    walk_at "w"
    refine w_2 (fun _ => ?_) (fun _ => ?_)
    · walk_at "w"
      refine ⟨f, s, rfl, F1, fun c x H2 hc ha hl hk F2 k2 => ?_⟩
      walk_at "w"
      refine ⟨_, rfl, by rw [Sg_len]; omega, ?_⟩
      rw [cut_one]
      walk_at "w"
      refine ⟨f, s, 3, rfl, F2, by decide, by decide, fun i H3 i0 i1 F3 k3 => ?_⟩
      walk_at "w"
      refine w_repS (K := K) (c := 113) (by omega) (by omega) ?_
      refine w_addS (by rw [Sg_len, Sg_len, List.length_replicate, List.length_singleton]; omega) ?_
      rw [Sg_app]
      exact q (c :: List.replicate (20 + i).toNat 113) H3 (fault_long hc (by omega)) (by rw [List.length_cons, List.length_replicate]; omega) F3 ((k1.trans k2).trans k3)
    walk_at "w"
    refine w_2 (fun _ => ?_) (fun _ => ?_)
    · walk_at "w"
      exact q [34, 34, 34, 10] H1 bad_three (by show 4 ≤ 5001; decide) F1 k1
    · walk_at "w"
      refine ⟨f, s, 30, rfl, F1, by decide, by decide, fun j H2 j0 j1 F2 k2 => ?_⟩
      obtain ⟨m, rfl⟩ := Int.eq_ofNat_of_zero_le j0
      walk_at "w"
      refine ⟨_, rfl, log2_small (by omega), ?_⟩
      rw [str_num _ m rfl]
      have hm : (TL.numL m).length ≤ 18 := TL.numL_len (by decide) (by omega)
      refine w_addS (by rw [Sg_len]; show 1 + (TL.numL m).length ≤ sizeLine; omega) ?_
      rw [show ("0" : Str) = Sg [48] from rfl, Sg_app]
      exact q (48 :: TL.numL m) H2 (fault_zero m) (by rw [List.length_cons]; omega) F2 (k1.trans k2)
end
end K01
namespace K01
open PySem L2
abbrev s_law_pieces : Stmt := top 43
abbrev N_law_pieces : List Str := ["flow", "many", "spoilt", "text", "due", "last", "bad", "k", "line", "word", "sort", "worth", "tight"]
abbrev P_law_pieces : List Str := ["flow"]
theorem sc_law_pieces : FnScope N_law_pieces P_law_pieces (defScope s_law_pieces) := ⟨rfl, rfl, rfl, by decide +kernel, rfl, by decide +kernel, by decide +kernel⟩
def Bound : Option Kd → List Nat → Prop
  | none, _ => True
  | some k, rest => headNot (stopK k) rest
def lastS : Option Kd → Str → Prop
  | none, z => z = ""
  | some k, z => kdS k z
def oB : Option Int → V
  | none => .non
  | some n => .int n
def resOf (ks : List Tok) : Option Int → Res
  | none => .ok ks
  | some n => .error n
/-- what is put together up to here -/
def St (t : List Nat) (ks : List Tok) (L : Option Kd) : Option Int → Prop
  | none => ∀ rest r, Bound L rest → Lex rest (1 + nl t) r → Lex (t ++ rest) 1 (Res.app ks r)
  | some n => ∀ rest, Lex (t ++ rest) 1 (.error n)
theorem isB_stop {c : Nat} (h : isB c = true) (k : Kd) : stopK k c = false := by
  unfold isB at h
  rw [Bool.or_eq_true, Bool.or_eq_true, decide_eq_true_eq, decide_eq_true_eq, decide_eq_true_eq] at h
  rcases h with rfl | rfl | rfl <;> cases k <;> decide +kernel
theorem headB_bound {sp rest : List Nat} (h : headB sp = true) (L : Option Kd) : Bound L (sp ++ rest) := by
  match sp, h with
  | c :: r, h =>
    cases L with
    | none => trivial
    | some k => exact isB_stop (c := c) h k
theorem headB_app {sp rest : List Nat} (h : headB sp = true) : headB (sp ++ rest) = true := by
  match sp, h with
  | c :: r, h => exact h
theorem St.any {t w : List Nat} {ks ks' : List Tok} {L L' : Option Kd} {n : Int} (S : St t ks L (some n)) : St (t ++ w) ks' L' (some n) := fun rest => by
  rw [List.append_assoc]
  exact S _
theorem St.space {t sp : List Nat} {ks : List Tok} {L : Option Kd} {b : Option Int} (S : St t ks L b) (h : SkipSeg sp) (hb : headB sp = true) : St (t ++ sp) ks none b := by
  cases b with
  | some n => exact S.any
  | none =>
    intro rest r _ hL
    rw [List.append_assoc]
    refine S _ _ (headB_bound hb L) (h _ _ _ ?_)
    rw [nl_app] at hL
    rw [show 1 + nl t + nl sp = 1 + (nl t + nl sp) by omega]
    exact hL
def fits : Option Kd → Kd → Prop
  | none, _ => True
  | some .mark, k => k ≠ .mark
  | some .text, k => k = .mark
  | some .word, k => k = .mark
theorem fits_bound {L : Option Kd} {k : Kd} {w rest : List Nat} (h : fits L k) (hw : headOk k w) : Bound L (w ++ rest) := by
  match L, h with
  | none, _ => trivial
  | some .mark, h =>
    match k, w, hw, h with
    | .mark, _, _, h => exact absurd rfl h
    | .text, c :: r, hw, _ => exact decide_eq_false hw
    | .word, c :: r, hw, _ => exact decide_eq_false hw
  | some .text, h =>
    subst h
    match w, hw with
    | c :: r, hw => exact decide_eq_false hw.2
  | some .word, h =>
    subst h
    match w, hw with
    | c :: r, hw => exact hw.1
theorem St.piece {t w : List Nat} {ks : List Tok} {L : Option Kd} {b : Option Int} {k : Kd} {z : Str} {v : V} (S : St t ks L b) (Pc : Piece k w z v) (h : fits L k) : St (t ++ w) (ks ++ [⟨z, v, 1 + nl t⟩]) (some k) b := by
  cases b with
  | some n => exact S.any
  | none =>
    intro rest r hb hL
    rw [List.append_assoc, ← Res.app_cons]
    refine S _ _ (fits_bound h Pc.head) (Pc.seg _ _ _ hb ?_)
    rw [nl_app, Pc.nl, Int.add_zero] at hL
    exact hL
theorem St.fault {t x sp : List Nat} {ks : List Tok} (S : St t ks none none) (h : BadSeg x) (hb : headB sp = true) : St (t ++ x ++ sp) ks none (some (1 + nl t)) := fun rest => by
  rw [List.append_assoc, List.append_assoc]
  exact S _ _ trivial (h _ _ (headB_app hb))
theorem St.fault2 {t x sp : List Nat} {ks : List Tok} {b : Option Int} (S : St t ks none b) (h : BadSeg x) (hb : headB sp = true) : St (t ++ x ++ sp) ks none (some (b.getD (1 + nl t))) := by
  cases b with
  | none => exact S.fault h hb
  | some n =>
    rw [List.append_assoc]
    exact S.any
theorem St.done {t : List Nat} {ks : List Tok} {L : Option Kd} {b : Option Int} (S : St t ks L b) : Lex t 1 (resOf ks b) := by
  cases b with
  | none =>
    have z := S [] (.ok []) (by cases L <;> trivial) .nil
    rw [List.append_nil] at z
    have e : Res.app ks (.ok []) = .ok ks := by
      show Except.ok (ks ++ []) = _
      rw [List.append_nil]
    rw [e] at z
    exact z
  | some n =>
    have z := S []
    rw [List.append_nil] at z
    exact z
def TAIL : List Nat := (" # the last \" one" : Str).cps.toList
theorem lex_tail (l : Int) : Lex TAIL l (.ok []) := by
  have e : TAIL = 32 :: 35 :: (" the last \" one" : Str).cps.toList := by decide +kernel
  rw [e]
  refine .blank (.note (by decide +kernel) ?_)
  have e2 : (35 :: (" the last \" one" : Str).cps.toList).drop (L2.upTo 10 (35 :: (" the last \" one" : Str).cps.toList)).length = [] := by decide +kernel
  rw [e2]
  exact .nil
theorem St.tail {t : List Nat} {ks : List Tok} {L : Option Kd} {b : Option Int} (S : St t ks L b) : Lex (t ++ TAIL) 1 (resOf ks b) := by
  cases b with
  | none =>
    have hb : headB TAIL = true := by decide +kernel
    have z := S TAIL (.ok []) (by have y := headB_bound (rest := []) hb L; rw [List.append_nil] at y; exact y) (lex_tail _)
    have e : Res.app ks (.ok []) = .ok ks := by
      show Except.ok (ks ++ []) = _
      rw [List.append_nil]
    rw [e] at z
    exact z
  | some n => exact S TAIL
def spPieces : Sp := fun vs H Q _ => ∃ (f s : Addr), vs = [.ref f] ∧ Flow H f s ∧ ∀ t r p a H', t.length ≤ big → Lex t 1 r → H' p = some (.tup [.str (Sg t), .ref a]) → ResAt H' a r → Q (.ref p) H'
section
variable {P : Program} {w : World} {K : PySem.W.Frag} {mg : Str → Option Value} {base : Heap} {n : Nat}
def isMk : Kd → Bool
  | .mark => true
  | _ => false
theorem begins : ∀ z ∈ (["", "\n", " ", "# so\n"] : List Str), St z.cps.toList [] none none ∧ z.cps.toList.length ≤ 5 := by
  intro z hz
  refine ⟨?_, (by decide +kernel : ∀ z ∈ (["", "\n", " ", "# so\n"] : List Str), z.cps.toList.length ≤ 5) z hz⟩
  have go : ∀ w, SkipSeg w → St w [] none none := fun w h rest r _ k => by
    have e : Res.app [] r = r := by cases r <;> rfl
    rw [e]
    exact h _ _ _ k
  rcases List.mem_cons.mp hz with rfl | hz
  · exact go [] skip_nil
  rcases List.mem_cons.mp hz with rfl | hz
  · exact go [10] (skip_line skip_nil)
  rcases List.mem_cons.mp hz with rfl | hz
  · exact go [32] (skip_blank skip_nil)
  rcases List.mem_cons.mp hz with rfl | hz
  · exact go _ (skip_note (x := (" so" : Str).cps.toList) (w := []) (by decide +kernel) (skip_line skip_nil))
  · cases hz
theorem kd_mark {k : Kd} {z : Str} (h : kdS k z) : decide (V.str z = V.str "mark") = isMk k := by
  cases k with
  | mark =>
    rw [show z = "mark" from h]
    exact decide_eq_true rfl
  | text =>
    rw [show z = "text" from h]
    exact decide_eq_false fun e => absurd (V.str.inj e) (by decide +kernel)
  | word =>
    rcases h with rfl | rfl | rfl
    · exact decide_eq_false fun e => absurd (V.str.inj e) (by decide +kernel)
    · exact decide_eq_false fun e => absurd (V.str.inj e) (by decide +kernel)
    · exact decide_eq_false fun e => absurd (V.str.inj e) (by decide +kernel)
def tgt : Option Kd → Kd → Bool
  | none, _ => false
  | some k', k => isMk k != isMk k'
theorem kd_ne {k : Kd} {z : Str} (h : kdS k z) : z ≠ "" := by
  cases k with
  | mark =>
    rw [show z = "mark" from h]
    decide +kernel
  | text =>
    rw [show z = "text" from h]
    decide +kernel
  | word => rcases h with rfl | rfl | rfl <;> decide +kernel
theorem fits_of {k k' : Kd} (h : isMk k ≠ isMk k') : fits (some k') k := by
  cases k <;> cases k' <;> first | exact absurd rfl h | (show _ ≠ _; intro e; cases e) | rfl
theorem KeepF.tup {f s : Addr} {H H' : Hp} (F : Flow H f s) (k : KeepF f H H') : ∀ p xs, H p = some (.tup xs) → H' p = some (.tup xs) := fun p xs e => k _ _ (fun z => by
  subst z
  obtain ⟨_, ⟨i, a, b, h1⟩, _⟩ := F
  rw [e] at h1
  cases h1) e
theorem ok_law_pieces (T : Txg n P K mg) {f : Addr} {fd : FuncData} (F : FnP K "_law_pieces" s_law_pieces f fd) (D_law_draw : Cal P w K mg base CX0 2 "_law_draw" P_law_draw spDraw) (D_law_space : Cal P w K mg base CX0 3 "_law_space" P_law_space spSpace)
    (D_law_fault : Cal P w K mg base CX0 4 "_law_fault" P_law_fault spFault) (D_law_piece : Cal P w K mg base CX0 4 "_law_piece" P_law_piece spPiece) :
    FnOk P w K mg base CX0 5 f fd P_law_pieces spPieces := by
  refine F.ok sc_law_pieces (fun vs H Q E h => ?_) (fun cdv A outer s H vs Q E hr h => ?_)
  · obtain ⟨f, s, rfl, _⟩ := h
    rfl
  · obtain ⟨f, s, rfl, FL, q⟩ := h
    refine ⟨_, PSs.nox (pss_cons (ps_set (i := 1) sc_law_pieces.nd rfl (Or.inl rfl) (pe_cal D_law_draw hr rfl rfl pass0 (pa_cons (pv 0) (pa_cons pe_int pa_nil))))
  (pss_cons (ps_set (i := 2) sc_law_pieces.nd rfl (Or.inl rfl) (pe_un un_neg pe_int))
  (pss_cons (ps_if (pt_cmpR op_eq (pe_cal D_law_draw hr rfl rfl pass0 (pa_cons (pv 0) (pa_cons pe_int pa_nil))) pe_int (nomark _)) (pss_one (ps_set (i := 2) sc_law_pieces.nd rfl (Or.inl rfl) (pe_cal D_law_draw hr rfl rfl pass0 (pa_cons (pv 0) (pa_cons (pe_op op_add (pv 1) pe_int) pa_nil))))) pss_nil)
  (pss_cons (ps_set (i := 3) sc_law_pieces.nd rfl (Or.inl rfl) (pe_ix ix_list (pe_lst (pa_cons pe_str (pa_cons pe_str (pa_cons pe_str (pa_cons pe_str pa_nil))))) (pe_cal D_law_draw hr rfl rfl pass0 (pa_cons (pv 0) (pa_cons pe_int pa_nil))) (fun _ _ => rfl)))
  (pss_cons (ps_set (i := 4) sc_law_pieces.nd rfl (Or.inl rfl) (pe_lst pa_nil))
  (pss_cons (ps_set (i := 5) sc_law_pieces.nd rfl (Or.inl rfl) pe_str)
  (pss_cons (ps_set (i := 6) sc_law_pieces.nd rfl (Or.inl rfl) pe_non)
  (pss_cons (ps_for PassesOwn.never rfl (pi_range1 (by rfl) T.f_range (pa_cons (pe_op op_add (pv 1) pe_int) pa_nil)) (pg_name (i := 7) sc_law_pieces.nd rfl (Or.inl rfl)) (pss_cons (ps_set (i := 8) sc_law_pieces.nd rfl (Or.inl rfl) (pe_op op_add pe_int (pe_bm PySem.F.plainAttrs_str PySem.F.slot_str_count PySem.F.type_str_count mt_countN (pv 3) (pa_cons pe_str pa_nil))))
  (pss_one (ps_if (pt_cmpR op_eq (pv 7) (pv 2) (nomark _)) (pss_cons (ps_set (i := 3) sc_law_pieces.nd rfl (Or.inl rfl) (pe_op op_addS (pv 3) (pe_cal D_law_space hr rfl rfl pass0 (pa_cons (pv 0) pa_nil))))
  (pss_cons (ps_set (i := 6) sc_law_pieces.nd rfl (Or.inl rfl) (pe_ifExp (pt_cmp (pc_isN (pv 6)) rfl) (pe_op op_add pe_int (pe_bm PySem.F.plainAttrs_str PySem.F.slot_str_count PySem.F.type_str_count mt_countN (pv 3) (pa_cons pe_str pa_nil))) (pv 6)))
  (pss_cons (ps_set (i := 3) sc_law_pieces.nd rfl (Or.inl rfl) (pe_op op_addS (pe_op op_addS (pv 3) (pe_cal D_law_fault hr rfl rfl pass0 (pa_cons (pv 0) pa_nil))) (pe_cal D_law_space hr rfl rfl pass0 (pa_cons (pv 0) pa_nil))))
  (pss_one (ps_set (i := 5) sc_law_pieces.nd rfl (Or.inl rfl) pe_str))))) (pss_one (ps_if (pt_cmpR op_lt (pv 7) (pv 1) (nomark _)) (pss_cons (ps_asg (pe_cal D_law_piece hr rfl rfl pass0 (pa_cons (pv 0) pa_nil)) (pg_tup (by rfl) (pgs_cons (pg_name (i := 9) sc_law_pieces.nd rfl (Or.inl rfl)) (pgs_cons (pg_name (i := 10) sc_law_pieces.nd rfl (Or.inl rfl)) (pgs_cons (pg_name (i := 11) sc_law_pieces.nd rfl (Or.inl rfl)) pgs_nil)))))
  (pss_cons (ps_set (i := 12) sc_law_pieces.nd rfl (Or.inl rfl) (pe_and (pe_cmpR op_ne (pv 5) pe_str (nomark _)) (pe_one (pe_cmpR op_ne (pe_cmpR op_eq (pv 10) pe_str (nomark _)) (pe_cmpR op_eq (pv 5) pe_str (nomark _)) (nomark _)))))
  (pss_cons (ps_if (PW.pt (pw_and (pt_cmpR op_ne (pv 5) pe_str (nomark _)) (pw_and1 (pt_not (PW.pt (pw_and (pt_val (pv 12)) (pw_and1 (pt_cmpR op_eq (pe_cal D_law_draw hr rfl rfl pass0 (pa_cons (pv 0) (pa_cons pe_int pa_nil))) pe_int (nomark _))))))))) (pss_cons (ps_set (i := 3) sc_law_pieces.nd rfl (Or.inl rfl) (pe_op op_addS (pv 3) (pe_cal D_law_space hr rfl rfl pass0 (pa_cons (pv 0) pa_nil))))
  (pss_one (ps_set (i := 8) sc_law_pieces.nd rfl (Or.inl rfl) (pe_op op_add pe_int (pe_bm PySem.F.plainAttrs_str PySem.F.slot_str_count PySem.F.type_str_count mt_countN (pv 3) (pa_cons pe_str pa_nil)))))) pss_nil)
  (pss_cons (ps_set (i := 3) sc_law_pieces.nd rfl (Or.inl rfl) (pe_op op_addS (pv 3) (pv 9)))
  (pss_cons (ps_expr (pe_bm PySem.F.plainAttrs_list PySem.F.slot_list_append PySem.F.type_list_append mt_append (pv 4) (pa_cons (pe_tup (pa_cons (pv 10) (pa_cons (pv 11) (pa_cons (pv 8) pa_nil)))) pa_nil)))
  (pss_one (ps_set (i := 5) sc_law_pieces.nd rfl (Or.inl rfl) (pv 10)))))))) pss_nil))))))
  (pss_cons (ps_if (pt_cmpR op_eq (pe_cal D_law_draw hr rfl rfl pass0 (pa_cons (pv 0) (pa_cons pe_int pa_nil))) pe_int (nomark _)) (pss_one (ps_set (i := 3) sc_law_pieces.nd rfl (Or.inl rfl) (pe_op op_addS (pv 3) pe_str))) pss_nil)
  (pss_one (ps_ret (pe_tup (pa_cons (pv 3) (pa_cons (pe_ifExp (pt_cmp (pc_isN (pv 6)) rfl) (pe_tup (pa_cons pe_str (pa_cons (pv 4) pa_nil))) (pe_tup (pa_cons pe_str (pa_cons (pv 6) pa_nil)))) pa_nil)))))))))))))), ?_⟩
    walk_at "w"
    refine ⟨f, s, 31, rfl, FL, by decide, by decide, fun many H1 m0 m1 F1 k1 => ?_⟩
    walk_at "w1"
    walk_at "w1"
    walk_at "w1"
    walk_at "w1"
    walk_at "w1"
    walk_at "w1"
    walk_at "w1"
    with_reducible refine seq_cut (fun σ' H' => ∃ sp : Int, σ' = [some (.ref f), some (.int many), some (.int sp), none, none, none, none, none, none, none, none, none, none] ∧ Flow H' f s ∧ KeepF f H H') (fun N k => ?_) ?_
    · walk_at "w"
      refine ⟨f, s, 3, rfl, F1, by decide, by decide, fun d H2 d0 d1 F2 k2 => ?_⟩
      walk_at "w"
      refine w_2 (fun _ => ?_) (fun _ => ?_)
      · walk_at "w"
        refine ⟨f, s, many + 1, rfl, F2, by omega, Nat.lt_trans (log2_small (by omega)) (by decide), fun d H3 d0 d1 F3 k3 => ?_⟩
        walk_at "w"
        exact k _ _ ⟨_, rfl, F3, (k1.trans k2).trans k3⟩
      · walk_at "w"
        exact k _ _ ⟨_, rfl, F2, k1.trans k2⟩
    rintro _ H2 ⟨sp, rfl, F2, k2⟩
    walk_at "w"
    refine ⟨by show 4 ≤ sizeLine; decide, fun p hp => ?_⟩
    walk_at "w"
    have e0 := upd_same (H := H2) (a := p) (o := .lst ((["", "\n", " ", "# so\n"] : List Str).map V.str))
    refine ⟨f, s, 4, rfl, F2.same (sameUpd hp), by decide, by decide, fun j H3 j0 j1 F3 k3 => ?_⟩
    refine pickL (k3 _ _ (F2.free hp) e0) (n := 4) rfl j0 j1 fun z hz => ?_
    have kA := (k2.trans (KeepF.upd hp)).trans k3
    obtain ⟨S0, l0⟩ := begins z hz
    walk_at "w"
    refine ⟨by show 0 ≤ sizeLine; decide, fun D hD => ?_⟩
    walk_at "w"
    have F4 := F3.same (sameUpd (o := .lst []) hD)
    have hDf : D ≠ f := F3.free hD
    have hDs : D ≠ s := by
      obtain ⟨_, _, ns, h2⟩ := F3
      exact (ne_of_none h2 hD).symm
    have hb : big = 200000 := rfl
    have szl : sizeLine = 16777216 := by decide
    refine ⟨_, rfl, by omega, by omega, for_range (Pv := fun i σ H' => ∃ (t : List Nat) (L : Option Kd) (lz : Str) (b : Option Int) (x7 x8 x9 x10 x11 x12 : Option V) (xs : List V) (ks : List Tok), σ = [some (.ref f), some (.int many), some (.int sp), some (.str (Sg t)), some (.ref D), some (.str lz), some (oB b), x7, x8, x9, x10, x11, x12] ∧
      Flow H' f s ∧ lastS L lz ∧ St t ks L b ∧ t.length ≤ 5 + i * 5050 ∧ H' D = some (.lst xs) ∧ Toks H' xs ks ∧ ks.length ≤ i) ⟨z.cps.toList, none, "", none, none, none, none, none, none, none, [], [], by rw [Sg_of]; rfl, F4, rfl, S0, by omega, upd_same, .nil, Nat.le_refl _⟩ ?_ ?_⟩
    · rintro i σ H5 hi ⟨t, L, lz, b, x7, x8, x9, x10, x11, x12, xs, ks, rfl, F5, hL, S, hl, h5D, hT, hk⟩
      have hi31 : i ≤ 30 := by omega
      walk_at "w"
      refine ⟨rfl, ?_⟩
      walk_at "w"
      refine ⟨Sg t, "\n", rfl, rfl, ?_⟩
      rw [count_nl]
      walk_at "w"
      refine w_2 (fun _ => ?_) (fun _ => ?_)
      · walk_at "w"
        refine ⟨f, s, rfl, F5, fun x H6 hsk hhb hxl F6 k6 => ?_⟩
        refine w_addS (by rw [Sg_len, Sg_len]; omega) ?_
        rw [Sg_app]
        refine w_name ?_
        have S1 := S.space hsk hhb
        with_reducible refine seq_cut (fun σ' H' => H6 = H' ∧ ∃ m : Int, m = b.getD (1 + nl (t ++ x)) ∧ σ' = [some (.ref f), some (.int many), some (.int sp), some (.str (Sg (t ++ x))), some (.ref D), some (.str lz), some (.int m), some (.int ((0 : Int) + (i : Nat))), some (.int (1 + nl t)), x9, x10, x11, x12]) (fun N k => ?_) ?_
        · cases b with
          | none =>
            walk_at "w"
            rw [decide_eq_true (show oB none = V.non from rfl)]
            walk_at "w"
            refine ⟨rfl, ?_⟩
            walk_at "w"
            refine ⟨Sg (t ++ x), "\n", rfl, rfl, ?_⟩
            rw [count_nl]
            walk_at "w"
            exact k _ _ ⟨rfl, _, rfl, rfl⟩
          | some m =>
            walk_at "w"
            rw [decide_eq_false (show ¬ oB (some m) = V.non from fun z => by cases z)]
            walk_at "w"
            exact k _ _ ⟨rfl, m, rfl, rfl⟩
        rintro _ _ ⟨rfl, m, hm, rfl⟩
        walk_at "w"
        refine ⟨f, s, rfl, F6, fun y H7 hbad hyl F7 k7 => ?_⟩
        refine w_addS (by rw [Sg_len, Sg_len, List.length_append]; omega) ?_
        rw [Sg_app]
        walk_at "w"
        refine ⟨f, s, rfl, F7, fun u H8 husk huhb hul F8 k8 => ?_⟩
        refine w_addS (by rw [Sg_len, Sg_len, List.length_append, List.length_append]; omega) ?_
        rw [Sg_app]
        walk_at "w"
        have S2 := S1.fault2 hbad huhb
        rw [← hm] at S2
        have kk := (k6.trans k7).trans k8
        exact ⟨t ++ x ++ y ++ u, none, "", some m, _, _, _, _, _, _, xs, ks, rfl, F8, rfl, S2, by rw [List.length_append, List.length_append, List.length_append, Nat.add_mul]; omega, kk _ _ hDf h5D, hT.mono (KeepF.tup F5 kk), Nat.le_succ_of_le hk⟩
      walk_at "w"
      refine w_2 (fun _ => ?_) (fun _ => ?_)
      · walk_at "w"
        refine ⟨f, s, rfl, F5, fun kd w z v p H6 Pc F6 k6 hp => ?_⟩
        refine ⟨p, _, rfl, .of hp, rfl, _, _, rfl, ?_⟩
        refine w_name ?_
        refine ⟨_, _, rfl, ?_⟩
        refine w_name ?_
        refine ⟨_, _, rfl, ?_⟩
        refine w_name ?_
        refine ⟨rfl, ?_⟩
        have tg : ∀ (tight : Bool) (N2 : L2.St → Hp → Prop), True := fun _ _ => trivial
        with_reducible refine w_seq ?_
        with_reducible refine asg_cut (fun x H' => x = .bl (tgt L kd) ∧ H6 = H') (fun Q k => ?_) ?_
        · cases L with
          | none =>
            obtain rfl : lz = "" := hL
            walk_at "w"
            refine w_ne rfl ?_
            rw [decide_eq_true rfl]
            walk_at "w"
            exact k _ _ ⟨rfl, rfl⟩
          | some k' =>
            walk_at "w"
            refine w_ne rfl ?_
            rw [decide_eq_false (fun e => kd_ne (show kdS k' lz from hL) (V.str.inj e))]
            walk_at "w"
            refine w_eq rfl ?_
            rw [kd_mark Pc.sort]
            walk_at "w"
            refine w_eq rfl ?_
            rw [kd_mark (show kdS k' lz from hL)]
            walk_at "w"
            refine w_ne rfl ?_
            exact k _ _ ⟨by cases kd <;> cases k' <;> rfl, rfl⟩
        rintro _ _ ⟨rfl, rfl⟩
        refine w_name ?_
        with_reducible refine seq_cut (fun σ' H' => ∃ (t' : List Nat) (L' : Option Kd), σ' = [some (.ref f), some (.int many), some (.int sp), some (.str (Sg t')), some (.ref D), some (.str lz), some (oB b), some (.int ((0 : Int) + (i : Nat))), some (.int (1 + nl t')), some (.str (Sg w)), some (.str z), some v, some (.bl (tgt L kd))] ∧
          St t' ks L' b ∧ fits L' kd ∧ t'.length ≤ t.length + 17 ∧ Flow H' f s ∧ KeepF f H6 H') (fun N k => ?_) ?_
        · cases L with
          | none =>
            obtain rfl : lz = "" := hL
            walk_at "w"
            refine w_ne rfl ?_
            rw [decide_eq_true rfl]
            walk_at "w"
            exact k _ _ ⟨t, none, rfl, S, trivial, by omega, F6, .refl⟩
          | some k' =>
            walk_at "w"
            refine w_ne rfl ?_
            rw [decide_eq_false (fun e => kd_ne (show kdS k' lz from hL) (V.str.inj e))]
            walk_at "w"
            refine w_2 (fun ht => ?_) (fun ht => ?_)
            · walk_at "w"
              refine ⟨f, s, 2, rfl, F6, by decide, by decide, fun d H7 d0 d1 F7 k7 => ?_⟩
              walk_at "w"
              refine w_2 (fun _ => ?_) (fun _ => ?_)
              · walk_at "w"
                refine ⟨f, s, rfl, F7, fun x H8 hsk hhb hxl F8 k8 => ?_⟩
                refine w_addS (by rw [Sg_len, Sg_len]; omega) ?_
                rw [Sg_app]
                walk_at "w"
                refine ⟨rfl, ?_⟩
                walk_at "w"
                refine ⟨Sg (t ++ x), "\n", rfl, rfl, ?_⟩
                rw [count_nl]
                walk_at "w"
                exact k _ _ ⟨t ++ x, none, rfl, S.space hsk hhb, trivial, by rw [List.length_append]; omega, F8, k7.trans k8⟩
              · walk_at "w"
                exact k _ _ ⟨t, some k', rfl, S, fits_of (bne_iff_ne.mp ht), by omega, F7, k7⟩
            · walk_at "w"
              refine ⟨f, s, rfl, F6, fun x H8 hsk hhb hxl F8 k8 => ?_⟩
              refine w_addS (by rw [Sg_len, Sg_len]; omega) ?_
              rw [Sg_app]
              walk_at "w"
              refine ⟨rfl, ?_⟩
              walk_at "w"
              refine ⟨Sg (t ++ x), "\n", rfl, rfl, ?_⟩
              rw [count_nl]
              walk_at "w"
              exact k _ _ ⟨t ++ x, none, rfl, S.space hsk hhb, trivial, by rw [List.length_append]; omega, F8, k8⟩
        rintro _ H7 ⟨t', L', rfl, S', hf, hl', F7, k7⟩
        walk_at "w"
        have hwl := Pc.len
        refine w_addS (by rw [Sg_len, Sg_len]; omega) ?_
        rw [Sg_app]
        walk_at "w"
        have kk := k6.trans k7
        have h7D := kk _ _ hDf h5D
        refine ⟨.inl ⟨rfl, _, .of h7D⟩, ?_⟩
        walk_at "w"
        refine ⟨by show 3 ≤ sizeLine; decide, fun e he => ?_⟩
        have s8 := sameUpd (o := .tup [.str z, v, .int (1 + nl t')]) he
        have h8D := s8 _ _ h7D
        have hlen : xs.length < sizeLine := by
          have e1 := hT.length
          omega
        refine ⟨D, xs, _, rfl, rfl, h8D, hlen, ?_⟩
        walk_at "w"
        have keep : ∀ p2 ys, H7 p2 = some (.tup ys) → (L2.upd (L2.upd H7 e (.tup [.str z, v, .int (1 + nl t')])) D (.lst (xs ++ [V.ref e]))) p2 = some (.tup ys) := fun p2 ys e => by
          rw [upd_ne (ne_of e h7D (by intro z; cases z))]
          exact s8 _ _ e
        have FD : Flow (L2.upd (L2.upd H7 e (.tup [.str z, v, .int (1 + nl t')])) D (.lst (xs ++ [V.ref e]))) f s := by
          obtain ⟨n1, ⟨i1, p1, q1, h1⟩, ns, h2⟩ := F7.same s8
          exact ⟨n1, ⟨i1, p1, q1, by rw [upd_ne hDf.symm]; exact h1⟩, ns, by rw [upd_ne hDs.symm]; exact h2⟩
        refine ⟨t' ++ w, some kd, z, b, _, _, _, _, _, _, xs ++ [.ref e], ks ++ [⟨z, v, 1 + nl t'⟩], rfl, FD, Pc.sort, S'.piece Pc hf, by rw [List.length_append, Nat.add_mul]; omega, upd_same, ?_, ?_⟩
        · exact ((hT.mono (KeepF.tup F5 kk)).mono keep).snoc ⟨e, rfl, by rw [upd_ne (ne_of_none h7D he).symm]; exact upd_same⟩
        · rw [List.length_append]
          exact Nat.succ_le_succ hk
      · walk_at "w"
        exact ⟨t, L, lz, b, _, _, _, _, _, _, xs, ks, rfl, F5, hL, S, by rw [Nat.add_mul]; omega, h5D, hT, Nat.le_succ_of_le hk⟩
    · rintro σ H5 ⟨t, L, lz, b, x7, x8, x9, x10, x11, x12, xs, ks, rfl, F5, hL, S, hl, h5D, hT, hk⟩
      have hl2 : t.length ≤ 5 + 31 * 5050 := by
        have : (many + 1).toNat ≤ 31 := by omega
        have := Nat.mul_le_mul_right 5050 this
        omega
      with_reducible refine seq_cut (fun σ' H' => ∃ t' : List Nat, σ' = [some (.ref f), some (.int many), some (.int sp), some (.str (Sg t')), some (.ref D), some (.str lz), some (oB b), x7, x8, x9, x10, x11, x12] ∧ KeepF f H5 H' ∧ Lex t' 1 (resOf ks b) ∧ t'.length ≤ big) (fun N k => ?_) ?_
      · walk_at "w"
        refine ⟨f, s, 3, rfl, F5, by decide, by decide, fun d H6 d0 d1 F6 k6 => ?_⟩
        walk_at "w"
        refine w_2 (fun _ => ?_) (fun _ => ?_)
        · walk_at "w"
          have lt : TAIL.length = 17 := by decide +kernel
          refine w_addS (by rw [Sg_len]; show t.length + TAIL.length ≤ sizeLine; omega) ?_
          rw [show (" # the last \" one" : Str) = Sg TAIL from rfl, Sg_app]
          walk_at "w"
          exact k _ _ ⟨t ++ TAIL, rfl, k6, S.tail, by rw [List.length_append]; omega⟩
        · walk_at "w"
          exact k _ _ ⟨t, rfl, k6, S.done, by omega⟩
      rintro _ H6 ⟨t', rfl, k6, hLex, ht'⟩
      have h6D := k6 _ _ hDf h5D
      have hT6 := hT.mono (KeepF.tup F5 k6)
      cases b with
      | none =>
        walk_at "w"
        rw [decide_eq_true (show oB none = V.non from rfl)]
        walk_at "w"
        refine ⟨by show 2 ≤ sizeLine; decide, fun a ha => ?_⟩
        walk_at "w"
        refine ⟨by show 2 ≤ sizeLine; decide, fun p hp => ?_⟩
        have s1 := (sameUpd (o := .tup [.str "told", .ref D]) ha)
        have s2 := (sameUpd (o := .tup [.str (Sg t'), .ref a]) hp)
        exact q t' _ p a _ ht' hLex upd_same ⟨D, s2 _ _ upd_same, xs, s2 _ _ (s1 _ _ h6D), hT6.mono fun _ _ e => s2 _ _ (s1 _ _ e)⟩
      | some m =>
        walk_at "w"
        rw [decide_eq_false (show ¬ oB (some m) = V.non from fun z => by cases z)]
        walk_at "w"
        refine ⟨by show 2 ≤ sizeLine; decide, fun a ha => ?_⟩
        walk_at "w"
        refine ⟨by show 2 ≤ sizeLine; decide, fun p hp => ?_⟩
        exact q t' _ p a _ ht' hLex upd_same (sameUpd hp _ _ upd_same)
end
end K01
namespace K01
open PySem L2
abbrev s_law : Stmt := top 45
abbrev N_law : List Str := ["script", "flow", "way", "thing", "text", "k", "due", "told"]
abbrev P_law : List Str := ["script"]
theorem sc_law : FnScope N_law P_law (defScope s_law) := ⟨rfl, rfl, rfl, by decide +kernel, rfl, by decide +kernel, by decide +kernel⟩
def spLaw (K : PySem.W.Frag) : Sp := fun vs H Q _ => ∃ (a : Addr) (ns : List Int), vs = [.ref a] ∧ SqL K H a (ns.map V.int) ∧ ∀ H', Q (.bl true) H'
theorem w_disp1 {tk tv : TE} {σ : L2.St} {H : Hp} {Q : VK} (q : ∀ p, H p = none → tk σ (L2.upd H p (.dK [])) fun x H1 => tv σ H1 fun y H2 => H2 p = some (.dK []) ∧ ∃ kvs : List (Key × V), [(x, y)] = kvs.map (fun kv => (kV kv.1, kv.2)) ∧ kvs.length ≤ 15 ∧ Q (.ref p) (L2.upd H2 p (.dK (mergeK [] kvs)))) : tDisp [(tk, tv)] σ H Q := q
theorem pickV {K : PySem.W.Frag} {H : Hp} {Q : VK} {p : Addr} {l : List V} {d : Int} {n : Nat} (hp : H p = some (.lst l)) (hl : l.length = n) (h0 : 0 ≤ d) (h1 : d < n) (q : ∀ z ∈ l, Q z H) : rIxL K (.ref p) (.int d) H Q := by
  have h2 : d.toNat < l.length := by omega
  have e : ((d.toNat : Nat) : Int) = d := Int.toNat_of_nonneg h0
  have ha := atI_nat (xs := l) (j := d.toNat) (v := l[d.toNat]) (List.getElem?_eq_getElem h2)
  rw [e] at ha
  exact w_ixL (.of hp) ha (q _ (List.getElem_mem h2))
/-- PSn, PSsn, kept from being unfolded -/
structure PSW (n : Nat) (X : Cx) (st : Stmt) (t : TS) : Prop where
  h : PSn n X st t
structure PSsW (n : Nat) (X : Cx) (st : List Stmt) (t : TS) : Prop where
  h : PSsn n X st t
section
variable {X : Cx} {n : Nat} {e c tg : Expr} {st : Stmt} {rest sa sb : List Stmt} {te : TE} {tt : TT} {t u : TS} {g : TG} {pos : Pos}
theorem psW_of (h : PS X st t) : PSW n X st t := ⟨psn_of h⟩
theorem psW_asg (he : PEn n X e te) (hg : PG X tg g) (hs : swapsWithSole [tg] e pos.line X.env = pure false := by rfl) (hw : swappedStores [tg] e X.env = pure none := by rfl)
    (h1 : (assignEach [tg] X.env).map (·.2) = [assign tg X.env] := by rfl) : PSW n X (.Assign [tg] e pos) (tAsg te g) := ⟨psn_asg he hg hs hw h1⟩
theorem psW_ret (he : PEn n X e te) : PSW n X (.Return (some e) pos) (tRet te) := ⟨psn_ret he⟩
theorem pssW_nil : PSsW n X [] tNext := ⟨pssn_nil⟩
theorem pssW_cons (h1 : PSW n X st t) (h2 : PSsW n X rest u) : PSsW n X (st :: rest) (tSeq t u) := ⟨pssn_cons h1.h h2.h⟩
theorem pssW_one (h1 : PSW n X st t) : PSsW n X [st] t := ⟨pssn_one h1.h⟩
theorem psW_if (hc : PTn n X c tt) (ha : PSsW n X sa t) (hb : PSsW n X sb u) : PSW n X (.If c sa sb pos) (tIfS tt t u) := ⟨psn_if hc ha.h hb.h⟩
end
theorem stretchTok_sc {w : List Nat} {s : Str} {v : V} (h : stretchTok w = some (s, v)) : Sc v v := by
  unfold stretchTok at h
  split at h
  · cases h
    exact .inr (.inr ⟨_, rfl, rfl⟩)
  · split at h
    · cases h
      exact .inr (.inr ⟨_, rfl, rfl⟩)
    · split at h
      · cases h
        exact .inr (.inl ⟨_, rfl, rfl⟩)
      · cases h
theorem wordAt_sc {u : List Nat} {s : Str} {v : V} {k : Nat} (h : wordAt u = some (s, v, k)) : Sc v v := by
  unfold wordAt at h
  split at h
  · split at h
    · cases h
    · split at h
      · obtain ⟨j, _, e⟩ := Option.map_eq_some_iff.mp h
        cases e
        exact .inr (.inr ⟨_, rfl, rfl⟩)
      · split at h
        · cases h
          exact .inr (.inr ⟨_, rfl, rfl⟩)
        · split at h
          · cases h
            exact .inr (.inr ⟨_, rfl, rfl⟩)
          · cases h
  · obtain ⟨p, h1, e⟩ := Option.map_eq_some_iff.mp h
    cases e
    exact stretchTok_sc h1
theorem lex_sc {t : List Nat} {l : Int} {r : Res} (h : Lex t l r) : ∀ ks, r = .ok ks → ks.length ≤ t.length ∧ ∀ k ∈ ks, Sc k.v k.v := by
  induction h with
  | nil =>
    intro ks e
    cases e
    exact ⟨Nat.le_refl _, fun k h => nomatch h⟩
  | note h k ih =>
    intro ks e
    obtain ⟨h1, h2⟩ := ih ks e
    rw [List.length_drop] at h1
    exact ⟨by omega, h2⟩
  | noteBad h => exact fun _ e => nomatch e
  | blank k ih =>
    intro ks e
    obtain ⟨h1, h2⟩ := ih ks e
    exact ⟨by rw [List.length_cons]; omega, h2⟩
  | line k ih =>
    intro ks e
    obtain ⟨h1, h2⟩ := ih ks e
    exact ⟨by rw [List.length_cons]; omega, h2⟩
  | bad => exact fun _ e => nomatch e
  | @tok c u l s v k r h1 h2 h3 h n ih =>
    intro ks e
    cases r with
    | error z => cases e
    | ok ks' =>
      cases e
      obtain ⟨i1, i2⟩ := ih ks' rfl
      rw [List.length_drop] at i1
      have := wordAt_pos h
      have := wordAt_le h
      refine ⟨by rw [List.length_cons]; omega, fun x hx => ?_⟩
      rcases List.mem_cons.mp hx with rfl | hx
      · exact wordAt_sc h
      · exact i2 x hx
theorem Sm_tok {H : Hp} {x y : V} {k : Tok} (hx : TokAt H x k) (hy : TokAt H y k) (hk : Sc k.v k.v) : Sm H 2 x y := by
  obtain ⟨p, rfl, hp⟩ := hx
  obtain ⟨p', rfl, hp'⟩ := hy
  refine .inr ⟨p, p', _, _, rfl, rfl, .inr ⟨hp, hp'⟩, rfl, by show 3 ≤ big; decide, fun i u v e e' => ?_⟩
  match i, e, e' with
  | 0, e, e' => cases e; cases e'; exact .inl (.inr (.inr ⟨_, rfl, rfl⟩))
  | 1, e, e' => cases e; cases e'; exact .inl hk
  | 2, e, e' => cases e; cases e'; exact .inl (.inr (.inl ⟨_, rfl, rfl⟩))
  | i + 3, e, _ => cases e
theorem Sm_toks {H : Hp} : ∀ {xs ys : List V} {ks : List Tok}, Toks H xs ks → Toks H ys ks → (∀ k ∈ ks, Sc k.v k.v) → ∀ (i : Nat) (u v : V), xs[i]? = some u → ys[i]? = some v → Sm H 2 u v
  | _, _, _, .nil, _, _, _, _, _, e, _ => by cases e
  | _, _, _, .cons a r, .cons b s, h, 0, _, _, e, e' => by
    cases e
    cases e'
    exact Sm_tok a b (h _ (List.mem_cons_self ..))
  | _, _, _, .cons a r, .cons b s, h, i + 1, u, v, e, e' => Sm_toks r s (fun k hk => h k (List.mem_cons_of_mem _ hk)) i u v e e'
theorem Sm_res {H : Hp} {p q : Addr} {t : List Nat} {r : Res} (hL : Lex t 1 r) (ht : t.length ≤ big) (hp : ResAt H p r) (hq : ResAt H q r) : Sm H 4 (.ref p) (.ref q) := by
  cases r with
  | ok ks =>
    obtain ⟨a, ha, xs, hxs, tx⟩ := hp
    obtain ⟨b, hb, ys, hys, ty⟩ := hq
    obtain ⟨l1, l2⟩ := lex_sc hL ks rfl
    refine .inr ⟨p, q, _, _, rfl, rfl, .inr ⟨ha, hb⟩, rfl, by show 2 ≤ big; decide, fun i u v e e' => ?_⟩
    match i, e, e' with
    | 0, e, e' => cases e; cases e'; exact .inl (.inr (.inr ⟨_, rfl, rfl⟩))
    | 1, e, e' =>
      cases e
      cases e'
      refine .inr ⟨a, b, xs, ys, rfl, rfl, .inl ⟨hxs, hys⟩, by rw [tx.length, ty.length], by rw [ty.length]; omega, fun i u v e e' => Sm_toks tx ty l2 i u v e e'⟩
    | i + 2, e, _ => cases e
  | error l =>
    refine .inr ⟨p, q, _, _, rfl, rfl, .inr ⟨hp, hq⟩, rfl, by show 2 ≤ big; decide, fun i u v e e' => ?_⟩
    match i, e, e' with
    | 0, e, e' => cases e; cases e'; exact .inl (.inr (.inr ⟨_, rfl, rfl⟩))
    | 1, e, e' => cases e; cases e'; exact .inl (.inr (.inl ⟨_, rfl, rfl⟩))
    | i + 2, e, _ => cases e
theorem ResAt.same {H H' : Hp} (s : Same H H') {p : Addr} {r : Res} (h : ResAt H p r) : ResAt H' p r := by
  cases r with
  | ok ks =>
    obtain ⟨a, ha, xs, hxs, tx⟩ := h
    exact ⟨a, s _ _ ha, xs, s _ _ hxs, tx.mono fun _ _ e => s _ _ e⟩
  | error l => exact s _ _ h
theorem sameUpd2 {H : Hp} {p : Addr} {o o' : HO} (h : H p = none) : Same H (L2.upd (L2.upd H p o) p o') := fun b u e => by
  rw [upd_ne (ne_of_none e h), upd_ne (ne_of_none e h)]
  exact e
theorem KeepF.tupl {f s : Addr} {H H' : Hp} (F : Flow H f s) (k : KeepF f H H') {p : Addr} {o : HO} (hp : H p = some o) (ho : ∀ i a q, o ≠ .lst [.ref s, .int i, .int a, .int q]) : H' p = some o := k _ _ (fun z => by
  subst z
  obtain ⟨_, ⟨i, a, b, h1⟩, _⟩ := F
  rw [hp] at h1
  exact ho _ _ _ (Option.some.inj h1)) hp
section
variable {P : Program} {w : World} {K : PySem.W.Frag} {mg : Str → Option Value} {base : Heap} {n : Nat}
theorem ok_law (T : Txg n P K mg) {f : Addr} {fd : FuncData} (F : FnP K "law" s_law f fd) (D_law_flow : Cal P w K mg base CX0 1 "_law_flow" P_law_flow (spFlow K)) (D_law_draw : Cal P w K mg base CX0 2 "_law_draw" P_law_draw spDraw)
    (D_law_sign : Cal P w K mg base CX0 3 "_law_sign" P_law_sign spSign) (D_law_cut : Cal P w K mg base CX0 3 "_law_cut" P_law_cut spCut) (D_law_pieces : Cal P w K mg base CX0 5 "_law_pieces" P_law_pieces spPieces)
    (D_law_told : CalN n P w K mg base CX0 6 "_law_told" P_law_told spTold) (D_law_same : Cal P w K mg base CX0 4 "_law_same" P_law_same (spS 4)) :
    FnN n P w K mg base CX0 7 f fd P_law (spLaw K) := by
  refine F.okN sc_law (fun vs H Q E h => ?_) (fun cdv A outer s H vs Q E hr h => ?_)
  · obtain ⟨a, ns, rfl, _⟩ := h
    rfl
  · obtain ⟨a, ns, rfl, hS, q⟩ := h
    refine ⟨_, PSsn.nox (PSsW.h (pssW_cons (psW_of (ps_set (i := 1) sc_law.nd rfl (Or.inl rfl) (pe_cal D_law_flow hr rfl rfl pass0 (pa_cons (pv 0) pa_nil))))
  (pssW_cons (psW_of (ps_set (i := 2) sc_law.nd rfl (Or.inl rfl) (pe_cal D_law_draw hr rfl rfl pass0 (pa_cons (pv 1) (pa_cons pe_int pa_nil)))))
  (pssW_cons (psW_of (ps_set (i := 3) sc_law.nd rfl (Or.inl rfl) (pe_ix ix_list (pe_lst (pa_cons pe_non (pa_cons pe_int (pa_cons pe_bl (pa_cons (pe_tup (pa_cons pe_str pa_nil)) (pa_cons (pe_lst (pa_cons pe_str pa_nil)) (pa_cons (pe_disp (pps_cons pe_str pe_int pps_nil) (by rfl) (by rfl) (by intro z; cases z) (Nat.le_of_ble_eq_true (by rfl))) (pa_cons (pe_tup pa_nil) pa_nil)))))))) (pe_cal D_law_draw hr rfl rfl pass0 (pa_cons (pv 1) (pa_cons pe_int pa_nil))) (fun _ _ => rfl))))
  (pssW_cons (psW_if (ptn_not (ptn_val (pen_cal0 D_law_same hr rfl rfl pass0 (pan_cons (pen_cal D_law_told hr rfl rfl pass0 (pan_cons (pen_of (pv 3)) (pan_of pa_nil))) (pan_cons (pen_of (pe_tup (pa_cons pe_str (pa_cons pe_int pa_nil)))) (pan_of pa_nil)))))) (pssW_one (psW_of (ps_ret pe_bl))) pssW_nil)
  (pssW_cons (psW_of (ps_if (pt_cmpR op_eq (pv 2) pe_int (nomark _)) (pss_cons (ps_set (i := 4) sc_law.nd rfl (Or.inl rfl) pe_str)
  (pss_cons (ps_for PassesOwn.never rfl (pi_range1 (by rfl) T.f_range (pa_cons (pe_cal D_law_draw hr rfl rfl pass0 (pa_cons (pv 1) (pa_cons pe_int pa_nil))) pa_nil)) (pg_name (i := 5) sc_law.nd rfl (Or.inl rfl)) (pss_one (ps_set (i := 4) sc_law.nd rfl (Or.inl rfl) (pe_op op_addS (pv 4) (pe_cal D_law_sign hr rfl rfl pass0 (pa_cons (pv 1) pa_nil))))))
  (pss_one (ps_set (i := 6) sc_law.nd rfl (Or.inl rfl) (pe_cal D_law_cut hr rfl rfl pass0 (pa_cons (pv 4) pa_nil)))))) (pss_one (ps_asg (pe_cal D_law_pieces hr rfl rfl pass0 (pa_cons (pv 1) pa_nil)) (pg_tup (by rfl) (pgs_cons (pg_name (i := 4) sc_law.nd rfl (Or.inl rfl)) (pgs_cons (pg_name (i := 6) sc_law.nd rfl (Or.inl rfl)) pgs_nil)))))))
  (pssW_cons (psW_asg (pen_cal D_law_told hr rfl rfl pass0 (pan_cons (pen_of (pv 4)) (pan_of pa_nil))) (pg_name (i := 7) sc_law.nd rfl (Or.inl rfl)))
  (pssW_cons (psW_of (ps_if (pt_not (pt_val (pe_cal D_law_same hr rfl rfl pass0 (pa_cons (pv 7) (pa_cons (pv 6) pa_nil))))) (pss_one (ps_ret pe_bl)) pss_nil))
  (pssW_cons (psW_of (ps_if (pt_cmpR op_eq (pe_ix ix_tup (pv 7) pe_int (fun _ _ => rfl)) pe_str (nomark _)) (pss_one (ps_expr (pe_bm PySem.F.plainAttrs_list PySem.F.slot_list_append PySem.F.type_list_append mt_append (pe_ix ix_tup (pv 7) pe_int (fun _ _ => rfl)) (pa_cons (pe_tup (pa_cons pe_str (pa_cons pe_str (pa_cons pe_int pa_nil)))) pa_nil)))) pss_nil))
  (pssW_one (psW_ret (pen_cal0 D_law_same hr rfl rfl pass0 (pan_cons (pen_cal D_law_told hr rfl rfl pass0 (pan_cons (pen_of (pv 4)) (pan_of pa_nil))) (pan_cons (pen_of (pv 6)) (pan_of pa_nil))))))))))))))), ?_⟩
    walk_at "w"
    refine ⟨a, ns, rfl, hS, fun f s H1 s1 F1 => ?_⟩
    walk_at "w"
    refine ⟨f, s, 3, rfl, F1, by decide, by decide, fun way H2 w0 w1 F2 k2 => ?_⟩
    refine w_name ?_
    with_reducible refine w_seq ?_
    with_reducible refine asg_cut (fun x H' => Kn H' x ∧ isSt x = false ∧ Flow H' f s) (fun Q k => ?_) ?_
    · walk_at "w"
      refine ⟨by show 1 ≤ sizeLine; decide, fun p1 hp1 => ?_⟩
      walk_at "w"
      refine ⟨by show 1 ≤ sizeLine; decide, fun p2 hp2 => ?_⟩
      walk_at "w"
      refine w_disp1 fun p3 hp3 => ?_
      walk_at "w"
      refine ⟨upd_same, [(.inr "a", .int 1)], rfl, by decide, ?_⟩
      walk_at "w"
      refine ⟨by show 0 ≤ sizeLine; decide, fun p4 hp4 => ?_⟩
      walk_at "w"
      refine ⟨by show 7 ≤ sizeLine; decide, fun p5 hp5 => ?_⟩
      have s12 : Same H2 _ := (sameUpd (o := .tup [.str "a"]) hp1).trans (sameUpd (o := .lst [.str "a"]) hp2)
      have s3 := sameUpd2 (o := .dK []) (o' := .dK (mergeK [] [(Sum.inr (Str.ofString "a"), V.int 1)])) hp3
      have s4 := sameUpd (o := .tup []) hp4
      have s5 := sameUpd (o := .lst [.non, .int 7, .bl true, .ref p1, .ref p2, .ref p3, .ref p4]) hp5
      have e1 := ((sameUpd (o := .lst [.str "a"]) hp2).trans s3) _ _ (upd_same (H := H2) (a := p1) (o := .tup [.str "a"]))
      have e2 := s3 _ _ (upd_same (H := L2.upd H2 p1 (.tup [.str "a"])) (a := p2) (o := .lst [.str "a"]))
      have e3 := s4 _ _ (upd_same (H := L2.upd (L2.upd (L2.upd H2 p1 (.tup [.str "a"])) p2 (.lst [.str "a"])) p3 (.dK [])) (a := p3) (o := .dK (mergeK [] [(Sum.inr (Str.ofString "a"), V.int 1)])))
      have e4 := s5 _ _ (upd_same (H := L2.upd (L2.upd (L2.upd (L2.upd H2 p1 (.tup [.str "a"])) p2 (.lst [.str "a"])) p3 (.dK [])) p3 (.dK (mergeK [] [(Sum.inr (Str.ofString "a"), V.int 1)]))) (a := p4) (o := .tup []))
      have F5 := ((F2.same s12).same s3).same (s4.trans s5)
      have g1 := (s4.trans s5) _ _ e1
      have g2 := (s4.trans s5) _ _ e2
      have g3 := s5 _ _ e3
      have g5 := upd_same (H := L2.upd (L2.upd (L2.upd (L2.upd (L2.upd H2 p1 (.tup [.str "a"])) p2 (.lst [.str "a"])) p3 (.dK [])) p3 (.dK (mergeK [] [(Sum.inr (Str.ofString "a"), V.int 1)]))) p4 (.tup [])) (a := p5) (o := .lst [.non, .int 7, .bl true, .ref p1, .ref p2, .ref p3, .ref p4])
      walk_at "w"
      refine ⟨f, s, 7, rfl, F5, by decide, by decide, fun d H6 d0 d1 F6 k6 => ?_⟩
      refine pickV (n := 7) (k6.tupl F5 g5 (by intro i a q e; cases e)) rfl d0 d1 fun z hz => k _ _ ?_
      have h1 := k6.tupl F5 g1 (by intro i a q e; cases e)
      have h2 := k6.tupl F5 g2 (by intro i a q e; cases e)
      have h3 := k6.tupl F5 g3 (by intro i a q e; cases e)
      have h4 := k6.tupl F5 e4 (by intro i a q e; cases e)
      simp only [List.mem_cons, List.not_mem_nil, or_false] at hz
      rcases hz with rfl | rfl | rfl | rfl | rfl | rfl | rfl
      · exact ⟨rfl, rfl, F6⟩
      · exact ⟨rfl, rfl, F6⟩
      · exact ⟨rfl, rfl, F6⟩
      · exact ⟨by simp [Kn, tyOf, h1], rfl, F6⟩
      · exact ⟨by simp [Kn, tyOf, h2], rfl, F6⟩
      · exact ⟨by simp [Kn, tyOf, h3], rfl, F6⟩
      · exact ⟨by simp [Kn, tyOf, h4], rfl, F6⟩
    rintro v H3 ⟨hv, hs, F3⟩
    refine w_name ?_
    walk_at "w"
    refine .inl ⟨v, rfl, hv, hs, fun p1 hp1 => ?_⟩
    walk_at "w"
    refine ⟨by show 2 ≤ sizeLine; decide, fun p2 hp2 => ?_⟩
    have m1 := sameUpd (H := H3) (o := .tup [.str "none", .int 0]) hp1
    have m2 := sameUpd (o := .tup [.str "none", .int 0]) hp2
    have u1 := m2 _ _ (upd_same (H := H3) (a := p1) (o := .tup [.str "none", .int 0]))
    have u2 := upd_same (H := L2.upd H3 p1 (.tup [.str "none", .int 0])) (a := p2) (o := .tup [.str "none", .int 0])
    have F4 := F3.same (m1.trans m2)
    generalize L2.upd (L2.upd H3 p1 (.tup [.str "none", .int 0])) p2 (.tup [.str "none", .int 0]) = H4 at u1 u2 F4 ⊢
    walk_at "w"
    refine ⟨_, _, rfl, .inr ⟨p1, p2, _, _, rfl, rfl, .inr ⟨u1, u2⟩, rfl, by show 2 ≤ big; decide, fun i u v e e' => ?_⟩, fun H5 s5 => ?_⟩
    · match i, e, e' with
      | 0, e, e' => cases e; cases e'; exact .inl (.inr (.inr ⟨_, rfl, rfl⟩))
      | 1, e, e' => cases e; cases e'; exact .inl (.inr (.inl ⟨_, rfl, rfl⟩))
      | i + 2, e, _ => cases e
    have F5 := F4.same s5
    refine w_bl ?_
    refine w_nt ?_
    refine w_next ?_
    with_reducible refine seq_cut (fun σ' H' => ∃ (t : List Nat) (r : Res) (p : Addr) (x5 : Option V), σ' = [some (.ref a), some (.ref f), some (.int way), some v, some (.str (Sg t)), x5, some (.ref p), none] ∧ t.length ≤ big ∧ Lex t 1 r ∧ ResAt H' p r) (fun N k => ?_) ?_
    · walk_at "w"
      refine w_2 (fun hw => ?_) (fun hw => ?_)
      · walk_at "w"
        refine ⟨f, s, 61, rfl, F5, by decide, by decide, fun d H6 d0 d1 F6 k6 => ?_⟩
        refine ⟨_, rfl, by omega, by omega, for_range (Pv := fun i σ H' => ∃ (t : List Nat) (x5 : Option V), σ = [some (.ref a), some (.ref f), some (.int way), some v, some (.str (Sg t)), x5, none, none] ∧ t.length = i ∧ t.all okC = true ∧ Flow H' f s) ⟨[], none, rfl, rfl, rfl, F6⟩ ?_ ?_⟩
        · rintro i σ H7 hi ⟨t, x5, rfl, hl, ha, F7⟩
          walk_at "w"
          refine ⟨f, s, rfl, F7, fun c H8 hc F8 k8 => ?_⟩
          refine w_addS (by rw [Sg_len, Sg_len, List.length_singleton]; have : sizeLine = 16777216 := (by decide); omega) ?_
          rw [Sg_app]
          walk_at "w"
          exact ⟨t ++ [c], _, rfl, by rw [List.length_append, hl]; rfl, by rw [List.all_append, ha, List.all_cons, hc]; rfl, F8⟩
        · rintro σ H7 ⟨t, x5, rfl, hl, ha, F7⟩
          walk_at "w"
          have hb : big = 200000 := rfl
          have hz : t.length ≤ big := by omega
          refine ⟨t, rfl, hz, ha, fun r p H8 s8 hL hr => ?_⟩
          walk_at "w"
          exact k _ _ ⟨t, r, p, _, rfl, hz, hL, hr⟩
      · walk_at "w"
        refine ⟨f, s, rfl, F5, fun t r p b H6 hz hL hp hr => ?_⟩
        refine ⟨p, _, rfl, .of hp, rfl, _, _, rfl, ?_⟩
        refine w_name ?_
        refine ⟨_, _, rfl, ?_⟩
        refine w_name ?_
        refine ⟨rfl, ?_⟩
        exact k _ _ ⟨t, r, b, _, rfl, hz, hL, hr⟩
    rintro _ H6 ⟨t, r, p, x5, rfl, hz, hL, hr⟩
    walk_at "w"
    refine .inr ⟨t, r, rfl, hz, hL, fun H7 s7 q1 hq1 => ?_⟩
    have a67 := hr.same s7
    have nq : ∀ {x : Addr} {o : HO}, H7 x = some o → x ≠ q1 := fun e => ne_of_none e hq1
    cases r with
    | ok ks =>
      intro b hb hT
      have sA := sameUpd (H := H7) (o := .tup [.str "told", .ref b]) hq1
      have e1 := upd_same (H := H7) (a := q1) (o := .tup [.str "told", .ref b])
      obtain ⟨xs, hx, tx⟩ := hT
      have hbA := sA _ _ hx
      have tA := tx.mono fun _ _ e => sA _ _ e
      have rA := a67.same sA
      obtain ⟨c0, hc0, ys0, hy0, _⟩ := hr
      have hcb : c0 ≠ b := ne_of_none hy0 hb
      have hcA := (s7.trans sA) _ _ hc0
      have hyA := (s7.trans sA) _ _ hy0
      generalize L2.upd H7 q1 (.tup [.str "told", .ref b]) = HA at e1 hbA tA rA hcA hyA ⊢
      refine w_name ?_
      walk_at "w"
      refine ⟨_, _, rfl, Sm_res hL hz ⟨b, e1, xs, hbA, tA⟩ rA, fun H8 s8 => ?_⟩
      refine w_bl ?_
      refine w_nt ?_
      refine w_next ?_
      have e1 := s8 _ _ e1
      have hbA := s8 _ _ hbA
      have rA := rA.same s8
      have hcA := s8 _ _ hcA
      walk_at "w"
      refine w_ixT (.of e1) (atI_nat (j := 0) rfl) ?_
      walk_at "w"
      refine w_eq rfl ?_
      rw [decide_eq_true rfl]
      walk_at "w"
      refine w_ixT (.of e1) (atI_nat (j := 1) rfl) ?_
      refine ⟨.inl ⟨rfl, _, .of hbA⟩, ?_⟩
      walk_at "w"
      refine ⟨by show 3 ≤ sizeLine; decide, fun p3 hp3 => ?_⟩
      walk_at "w"
      have sB := sameUpd (H := H8) (o := .tup [.str "mark", .str "(", .int 1]) hp3
      have hbB := sB _ _ hbA
      have rB := rA.same sB
      have hcB := sB _ _ hcA
      have hlen : xs.length < sizeLine := by
        have e1 := tA.length
        have e3 := (lex_sc hL ks rfl).1
        have e2 : big < sizeLine := by decide
        omega
      refine ⟨b, xs, _, rfl, rfl, hbB, hlen, ?_⟩
      have rC : ResAt (L2.upd (L2.upd H8 p3 (.tup [.str "mark", .str "(", .int 1])) b (.lst (xs ++ [V.ref p3]))) p (.ok ks) := by
        obtain ⟨c1, hc1, ys1, hy1, ty1⟩ := rB
        have ec : c1 = c0 := by
          have z := hc1.symm.trans hcB
          simpa using z
        subst ec
        have keep : ∀ q2 zs, (L2.upd H8 p3 (.tup [.str "mark", .str "(", .int 1])) q2 = some (.tup zs) → (L2.upd (L2.upd H8 p3 (.tup [.str "mark", .str "(", .int 1])) b (.lst (xs ++ [V.ref p3]))) q2 = some (.tup zs) := fun q2 zs e => by
          rw [upd_ne (ne_of e hbB (by intro z; cases z))]
          exact e
        refine ⟨c1, keep _ _ hc1, ys1, ?_, ty1.mono keep⟩
        rw [upd_ne hcb]
        exact hy1
      walk_at "w"
      refine .inr ⟨t, _, rfl, hz, hL, fun H9 s9 q2 hq2 b2 _ hT2 => ?_⟩
      have sD := sameUpd (H := H9) (o := .tup [.str "told", .ref b2]) hq2
      obtain ⟨zs, hz2, tz⟩ := hT2
      walk_at "w"
      exact ⟨_, _, rfl, Sm_res hL hz ⟨b2, upd_same, zs, sD _ _ hz2, tz.mono fun _ _ e => sD _ _ e⟩ ((rC.same s9).same sD), fun H10 s10 => q _⟩
    | error l =>
      have sA := sameUpd (H := H7) (o := .tup [.str "bad", .int l]) hq1
      have e1 := upd_same (H := H7) (a := q1) (o := .tup [.str "bad", .int l])
      have rA := a67.same sA
      refine w_name ?_
      generalize L2.upd H7 q1 (.tup [.str "bad", .int l]) = HA at e1 rA ⊢
      walk_at "w"
      refine ⟨_, _, rfl, Sm_res hL hz e1 rA, fun H8 s8 => ?_⟩
      refine w_bl ?_
      refine w_nt ?_
      refine w_next ?_
      have e1 := s8 _ _ e1
      have rA := rA.same s8
      walk_at "w"
      refine w_ixT (.of e1) (atI_nat (j := 0) rfl) ?_
      walk_at "w"
      refine w_eq rfl ?_
      rw [decide_eq_false (show ¬ (V.str "bad" = V.str "told") by decide +kernel)]
      walk_at "w"
      refine .inr ⟨t, _, rfl, hz, hL, fun H9 s9 q2 hq2 => ?_⟩
      have sD := sameUpd (H := H9) (o := .tup [.str "bad", .int l]) hq2
      walk_at "w"
      exact ⟨_, _, rfl, Sm_res hL hz upd_same ((rA.same s9).same sD), fun H10 s10 => q _⟩
end
end K01
/-! ## the head -/
namespace K01
open PySem PySem.Spec PyProof.Rows L2 LamX
abbrev dd (x : Str) (st : Stmt) : He.DefD := ⟨(x, none), x, x, defArgs st, defBody st, defScope st, [], []⟩
abbrev dm (C m q : Str) (st : Stmt) : He.DefD := ⟨(C, some m), m, q, defArgs st, defBody st, defScope st, [], []⟩
def fnL : List He.DefD := [dd "is_name" s_is_name,
  dd "is_number_word" s_is_number_word,
  dd "stretch_end" s_stretch_end,
  dd "line_end" s_line_end,
  dd "are_signs" s_are_signs,
  dd "text_end" s_text_end,
  dd "note_end" s_note_end,
  dd "stretch_word" s_stretch_word,
  dd "word_from" s_word_from,
  dd "words" s_words,
  dd "_law_flow" s_law_flow,
  dd "_law_more" s_law_more,
  dd "_law_draw" s_law_draw,
  dd "_law_same" s_law_same,
  dd "_law_signs" s_law_signs,
  dd "_law_keys" s_law_keys,
  dd "_law_sign" s_law_sign,
  dd "_law_stretch" s_law_stretch,
  dd "_law_end" s_law_end,
  dd "_law_quote" s_law_quote,
  dd "_law_mark" s_law_mark,
  dd "_law_cut" s_law_cut,
  dd "_law_inner" s_law_inner,
  dd "_law_name" s_law_name,
  dd "_law_piece" s_law_piece,
  dd "_law_fault" s_law_fault,
  dd "_law_space" s_law_space,
  dd "_law_pieces" s_law_pieces,
  dd "_law_told" s_law_told,
  dd "law" s_law]
def fa : List He.Fa := [.glo "is_name", .glo "is_number_word", .glo "stretch_end", .glo "line_end", .glo "are_signs", .glo "text_end", .glo "note_end", .glo "stretch_word", .glo "word_from", .glo "words", .glo "_law_flow", .glo "_law_more"] ++
  ([.glo "_law_draw", .glo "_law_same", .glo "_law_signs", .glo "_law_keys", .glo "_law_sign", .glo "_law_stretch", .glo "_law_end", .glo "_law_quote", .glo "_law_mark", .glo "_law_cut", .glo "_law_inner", .glo "_law_name"] ++
  ([.glo "_law_piece", .glo "_law_fault", .glo "_law_space", .glo "_law_pieces", .glo "_law_told", .glo "law", .glo "HeapError", .glo "BadText", .glo "NoText", .glo "KEYS", .glo "PAIRS", .free "abs"] ++
  ([.free "all", .free "bool", .free "int", .free "isinstance", .free "len", .free "list", .free "range", .free "str", .free "super", .free "tuple", .free "ValueError", .int "MOST_NAME" (20)] ++
  ([.int "MOST_FIGURES" (18), .int "MOST_NUMBER" (576460752303423487), .str "MARKS" "()[]{},;.=<>+-*/", .str "FIGURES" "0123456789", .str "LETTERS" "abcdefghijklmnopqrstuvwxyzABCDEFGHIJKLMNOPQRSTUVWXYZ_", .str "QUOTE" "\"", .str "SIGNS" " !\"#$&'()*+,-./0123456789:;<=>?@ABCDEFGHIJKLMNOPQRSTUVWXYZ[\\]^_`abcdefghijklmnopqrstuvwxyz{|}~", .exc "NoText", .exm "NoText" "NoText" true, .exm "BadText" "NoText" false, .exm "BadText" "BadText" true]))))
def tfL : List He.Defn := []
def exL : List (PySem.W.Frag → Bool) := [fun K => He.tupB K "KEYS" [.str "class", .str "of", .str "fun", .str "var", .str "if", .str "else", .str "while", .str "break", .str "continue", .str "return", .str "throw", .str "try", .str "catch", .str "say", .str "true", .str "false", .str "nil", .str "this", .str "super", .str "new", .str "and", .str "or", .str "not", .str "len", .str "weak", .str "worth", .str "number", .str "spawn", .str "join", .str "yield", .str "mod"],
  fun K => He.tupB K "PAIRS" [.str "==", .str "!=", .str "<=", .str ">="]]
/-- an own error, its __init__ -/
def C0 (K : PySem.W.Frag) (x : Str) : Addr := He.ga K x
def I0 (K : PySem.W.Frag) (x : Str) : Addr := He.ma K (C0 K x) "__init__"
def clsB (K : PySem.W.Frag) (C : Addr) : Bool := match K.lookup C with
  | some ⟨.type t, _, .cls ⟨_, _, .ref C' :: bm, _, _, true, _, _, _, _, false⟩, sl⟩ => decide (t = "type") && (decide (C' = C) && (PySem.HandSPX.refsVE bm && (match sl.toList with
    | [_, _, _, _, some (.builtin n), _] => decide (n = "ValueError.__new__")
    | _ => false)))
  | _ => false
def iniB (prog : Program) (K : PySem.W.Frag) (C : Addr) (q : Str) (fd : FuncData) : Bool := match fd.defaults, fd.kwdefaults, fd.code, fd.closure with
  | .none, .none, .ref cda, [(x, cc)] => decide (x = "__class__") && (PySem.W.codeIn K (.ref cda) q && ((match K.lookup cda with
      | some ⟨_, _, .fields vs, _⟩ => (match (vs[2]? : Option Value) with
        | some (Value.str file _) => (prog.main.file : Str) == file
        | _ => false)
      | _ => false) && (match K.lookup cc with
      | some ⟨_, _, .cell (some (.ref C')), _⟩ => decide (C' = C)
      | _ => false)))
  | _, _, _, _ => false
def exB (prog : Program) (x fld q : Str) : List (PySem.W.Frag → Bool) := [
  fun K => clsB K (C0 K x),
  fun K => He.eqO (PySem.W.findIn K (.ref (C0 K x)) "__setattr__") (some (some (.builtin "object.__setattr__"))),
  fun K => He.eqO (PySem.W.findIn K (.ref (C0 K x)) "__getattribute__") (some (some (.builtin "BaseException.__getattribute__"))),
  fun K => He.eqO (PySem.W.findIn K (.ref (C0 K x)) "__getattr__") (some none),
  fun K => He.eqO (PySem.W.findIn K (.ref (C0 K x)) fld) (some none),
  fun K => He.eqO (PySem.W.findIn K (.ref (C0 K x)) "__init__") (some (some (.ref (I0 K x)))),
  fun K => decide (PySem.W.typeIn K (.ref (I0 K x)) = some (.type "function")),
  fun K => PySem.W.keepIn K (.ref (C0 K x)),
  fun K => decide (PySem.W.subIn K (.ref (C0 K x)) (.type "BaseException") = some true),
  fun K => decide (PySem.W.subIn K (.ref (C0 K x)) (.type "ValueError") = some true),
  fun K => decide (PySem.W.typeIn K (.ref (C0 K x)) = some (.type "type")),
  fun K => PySem.W.hasDictIn K (C0 K x),
  fun K => decide (PySem.W.mroIn K (C0 K x) (.ref (C0 K x)) = some true),
  fun K => He.eqO (PySem.W.ks_superIn K (C0 K x) (C0 K x) "__init__") (some (some (.builtin "ValueError.__init__"))),
  fun K => He.eqO (PySem.W.nsIn K cStatics "thirdparty.any") (some none),
  fun K => match K.lookup (I0 K x) with
    | some ⟨_, _, .func fd, _⟩ => iniB prog K (C0 K x) q fd
    | _ => false]
abbrev FnZ : Type := Option (Str × Str × Arguments × FuncBody × Scope × Addr × Addr)
def fnZ (K : PySem.W.Frag) (x : Str) : FnZ := match K.lookup (I0 K x) with
  | some ⟨_, _, .func fd, _⟩ => some (fd.name, fd.qualname, fd.params, fd.body, fd.scope, fd.globals, fd.builtins)
  | _ => none
def valZ (q : Str) (st : Stmt) : FnZ := some ("__init__", q, defArgs st, .stmts (defBody st), defScope st, mainGlobals, builtinsNs)
def supL : List (Str × Str × Str × Stmt) := [("BadText", "line", "BadText.__init__", s_BadText_init)]
def tokB (K : PySem.W.Frag) : Bool := match PySem.W.nsIn K mainGlobals "QUOTE" with
  | some (some (.str z t0)) => decide (z = Sg [34]) && (decide (t0 ≠ 0) && decide (t0 < 400))
  | _ => false
abbrev R : PySem.W.OpenRow := PySem.W.OpenLaw.row PySem.Challenge.rw_unseenheap_k01_words_of_a_text
def N0 : Nat := 400
/-- what is looked at -/
def lookK (g : Addr → Option Obj) : PySem.W.Frag := He.frT g (cStatics :: He.asD g 5)
abbrev AlK : Type := ((He.AlD × List FnZ) × Bool) × Bool
def moreB (g : Addr → Option Obj) (K : PySem.W.Frag) : Bool := (exL.all fun f => f K) && ((supL.all fun p => (exB R.prog p.1 p.2.1 p.2.2.1).all fun f => f K) && (tokB K && He.tabsB g tfL K))
def obsK (g : Addr → Option Obj) : (He.AlD × List FnZ) × Bool := ((He.obsD fa fnL (lookK g), supL.map fun p => fnZ (lookK g) p.1), moreB g (lookK g))
def valK : AlK := (((He.valD fnL, supL.map fun p => valZ p.2.2.1 p.2.2.2), true), true)
theorem clsB_ok {K : PySem.W.Frag} {C : Addr} (h : clsB K C = true) : ∃ nm q N bs bm sn sub ab col dd k0 k1 k2 k3 k5, K.lookup C = some (excClassObj nm q C N bs bm true sn sub ab col dd k0 k1 k2 k3 k5 "ValueError.__new__") ∧ PySem.HandSPX.refsVE bm = true := by
  unfold clsB at h
  split at h
  · rename_i t od nm bs C' bm N q sn sub ab col sl e
    obtain ⟨h1, h⟩ := He.ba h
    obtain ⟨h2, h⟩ := He.ba h
    obtain ⟨h3, h⟩ := He.ba h
    split at h
    · rename_i k0 k1 k2 k3 n k5 es
      have e1 : t = "type" := of_decide_eq_true h1
      have e2 : C' = C := of_decide_eq_true h2
      have e3 : n = "ValueError.__new__" := of_decide_eq_true h
      subst e1 e2 e3
      refine ⟨nm, q, N, bs, bm, sn, sub, ab, col, od, k0, k1, k2, k3, k5, e.trans ?_, h3⟩
      have e4 : sl = #[k0, k1, k2, k3, some (.builtin "ValueError.__new__"), k5] := by
        rw [← es, Array.toArray_toList] <;> rfl
      rw [e4]
    · cases h
  · cases h
theorem iniB_ok {prog : Program} {K : PySem.W.Frag} {C : Addr} {q : Str} {fd : FuncData} (h : iniB prog K C q fd = true) : fd.defaults = .none ∧ fd.kwdefaults = .none ∧ ∃ (cda cc : Addr) (vs : Array Value) (file : Str) (tf : PySem.Tok) (ccl cl : Value) (cdd cld : Option Addr) (ccs csl : Array (Option Value)),
    fd.code = .ref cda ∧ fd.closure = [(("__class__" : Str), cc)] ∧ PySem.W.codeIn K (.ref cda) q = true ∧ K.lookup cda = some ⟨ccl, cdd, .fields vs, ccs⟩ ∧ vs[2]? = some (.str file tf) ∧ ((prog.main.file : Str) == file) = true ∧ K.lookup cc = some ⟨cl, cld, .cell (some (.ref C)), csl⟩ := by
  unfold iniB at h
  split at h
  · rename_i cda x cc d1 d2 d3 d4
    obtain ⟨h1, h⟩ := He.ba h
    obtain ⟨h2, h⟩ := He.ba h
    obtain ⟨h3, h4⟩ := He.ba h
    have e1 : x = "__class__" := of_decide_eq_true h1
    subst e1
    split at h3
    · rename_i ccl cdd vs ccs e2
      split at h3
      · rename_i file tf e3
        split at h4
        · rename_i cl cld C' csl e4
          have e5 : C' = C := of_decide_eq_true h4
          subst e5
          exact ⟨d1, d2, cda, cc, vs, file, tf, ccl, cl, cdd, cld, ccs, csl, d3, d4, h2, e2, e3, h3, e4⟩
        · cases h4
      · cases h3
    · cases h3
  · cases h
/-- what the head tells -/
structure SaysK (h : Heap) (K : PySem.W.Frag) : Prop where
  d : He.SaysD fa fnL K
  z : (supL.map fun p => fnZ K p.1) = supL.map fun p => valZ p.2.2.1 p.2.2.2
  ex : (exL.all fun f => f K) = true
  eb : (supL.all fun p => (exB R.prog p.1 p.2.1 p.2.2.1).all fun f => f K) = true
  tk : tokB K = true
  tabs : ∀ p ∈ tfL, PySem.W.codeHdIn K (He.cT K p).1 (He.cT K p).2 = true ∧ K.lookup (He.cT K p).2 = none ∧ h.get? (He.cT K p).2 = some EndG.tabO
theorem saysK_of {h : Heap} (e : obsK h.get? = valK.1) : SaysK h (lookK h.get?) := by
  have e2 : ((exL.all fun f => f (lookK h.get?)) && ((supL.all fun p => (exB R.prog p.1 p.2.1 p.2.2.1).all fun f => f (lookK h.get?)) && (tokB (lookK h.get?) && He.tabsB h.get? tfL (lookK h.get?)))) = true := congrArg (fun z : (He.AlD × List FnZ) × Bool => z.2) e
  obtain ⟨a, b⟩ := He.ba e2
  obtain ⟨b, c⟩ := He.ba b
  obtain ⟨t, c⟩ := He.ba c
  refine ⟨congrArg (fun z : (He.AlD × List FnZ) × Bool => z.1.1) e, congrArg (fun z : (He.AlD × List FnZ) × Bool => z.1.2) e, a, b, t, fun p hp => ?_⟩
  obtain ⟨c1, c2⟩ := He.ba (List.all_eq_true.mp c p hp)
  split at c2
  · rename_i o q
    exact ⟨c1, He.frT_none q c2, q.trans (congrArg some (He.emptyTab_eq c2))⟩
  · cases c2
def hkK : PySem.W.Hook where
  α := AlK
  obs := fun s => (obsK s.heap.get?, decide (N0 ≤ s.toks))
  val := fun _ => valK
  says := fun _ h => ∃ K : PySem.W.Frag, K.In h ∧ SaysK h K
  of := fun _ _ e => ⟨_, He.frT_in, saysK_of (congrArg (fun z : AlK => z.1) e)⟩
  keeps := fun _ _ _ ⟨K, hK, c⟩ k => ⟨K, PySem.W.Frag.In.keeps hK k, { c with tabs := fun p hp => let ⟨x, y, z⟩ := c.tabs p hp; ⟨x, y, k _ _ z⟩ }⟩
def obK (s : PySem.W.SharedT) : AlK := (obsK (HandSHeadRun.getT s), decide (N0 ≤ s.toks))
theorem obK_eq (s : PySem.W.SharedT) : obK s = hkK.obs s.abs := congrArg (fun g => ((obsK g, decide (N0 ≤ s.toks)) : AlK)) (funext (HandSHeadRun.getT_eq s))
def names : List Str := (["__name__", "HeapError", "BadText", "NoText", "KEYS", "PAIRS", "MARKS", "FIGURES", "LETTERS", "MOST_NAME", "MOST_FIGURES", "MOST_NUMBER", "QUOTE", "SIGNS", "is_name", "is_number_word", "stretch_end", "line_end", "are_signs", "text_end"] : List Str) ++
  (["note_end", "stretch_word", "word_from", "words", "_law_flow", "_law_more", "_law_draw", "_law_same", "_law_signs", "_law_keys", "_law_sign", "_law_stretch", "_law_end", "_law_quote", "_law_mark", "_law_cut", "_law_inner", "_law_name", "_law_piece", "_law_fault"] : List Str) ++
  (["_law_space", "_law_pieces", "_law_told"] : List Str)
theorem run (w : World) : HandSHeadRun.RunEq R (PySem.W.view R.prog [45]) hkK obK 4000 names w := by
  intro os
  kernel_rfl
end K01
/-! ## the law -/
namespace K01
open PySem PySem.Spec PyProof.Rows L2 LamX
section
variable {w : World} {K : PySem.W.Frag} {h : Heap} {mg : Str → Option Value}
theorem SaysK.exAt (c : SaysK h K) (i : Nat) {f : PySem.W.Frag → Bool} (e : exL[i]? = some f := by rfl) : f K = true := List.all_eq_true.mp c.ex f (List.mem_of_getElem? e)
theorem SaysK.ebAt (c : SaysK h K) (j i : Nat) {p : Str × Str × Str × Stmt} {f : PySem.W.Frag → Bool} (e' : supL[j]? = some p := by rfl) (e : (exB R.prog p.1 p.2.1 p.2.2.1)[i]? = some f := by rfl) : f K = true := List.all_eq_true.mp (List.all_eq_true.mp c.eb p (List.mem_of_getElem? e')) f (List.mem_of_getElem? e)
theorem SaysK.zAt (c : SaysK h K) (j : Nat) {p : Str × Str × Str × Stmt} (e' : supL[j]? = some p := by rfl) : fnZ K p.1 = valZ p.2.2.1 p.2.2.2 := List.map_inj_left.mp c.z p (List.mem_of_getElem? e')
theorem SaysK.f (c : SaysK h K) (u : He.Fa) {i : Nat} (e : fa[i]? = some u) : u.ok K = true := c.d.fact i e
theorem supBadText (X : K.In h) (G : h.Ns mainGlobals mg) (c : SaysK h K) : PySem.SupXBadText.SupTxt R.prog K mg (He.ga K "BadText") (He.ma K (He.ga K "BadText") "__init__") := by
  refine ⟨He.glo_ok X G (c.f (.glo "BadText") (i := 31) rfl), clsB_ok (c.ebAt 0 0), He.eqO_ok (c.ebAt 0 1), He.eqO_ok (c.ebAt 0 2), He.eqO_ok (c.ebAt 0 3), He.eqO_ok (c.ebAt 0 4), He.eqO_ok (c.ebAt 0 5), of_decide_eq_true (c.ebAt 0 6), c.ebAt 0 7, of_decide_eq_true (c.ebAt 0 8),
    of_decide_eq_true (c.ebAt 0 9), of_decide_eq_true (c.ebAt 0 10), c.ebAt 0 11, He.exm_ok (c.f (.exm "BadText" "BadText" true) (i := 58) rfl), of_decide_eq_true (c.ebAt 0 12), He.eqO_ok (c.ebAt 0 13), He.eqO_ok (c.ebAt 0 14), He.free_ok X G (c.f (.free "super") (i := 44) rfl), by decide +kernel, ?_⟩
  have z := c.zAt 0
  have y := c.ebAt 0 15
  have y2 : (match K.lookup (I0 K "BadText") with
    | some ⟨_, _, .func fd, _⟩ => iniB R.prog K (C0 K "BadText") "BadText.__init__" fd
    | _ => false) = true := y
  unfold fnZ at z
  show ∃ _, _
  cases q : K.lookup (I0 K "BadText") with
  | none =>
    rw [q] at y2
    cases y2
  | some o =>
    obtain ⟨oc, od, dt, osl⟩ := o
    rw [q] at y2 z
    cases dt with
    | func fd =>
      obtain ⟨d1, d2, cda, cc, vs, file, tf, ccl, cl, cdd, cld, ccs, csl, d3, d4, h2, e2, e3, h3, e4⟩ := iniB_ok y2
      obtain ⟨n1, n2, n3, n4, n5, n6, n7, n8, n9, n10, n11, n12, n13, n14, n15⟩ := fd
      have e5 : (some (n1, n2, n3, n4, n5, n6, n15) : FnZ) = valZ "BadText.__init__" s_BadText_init := z
      unfold valZ at e5
      simp only [Option.some.injEq, Prod.mk.injEq] at e5
      obtain ⟨g1, g2, g3, g4, g5, g6, g7⟩ := e5
      have d1 : n8 = .none := d1
      have d2 : n9 = .none := d2
      have d3 : n13 = .ref cda := d3
      have d4 : n7 = [(("__class__" : Str), cc)] := d4
      subst g1 g2 g3 g4 g5 g6 g7 d1 d2 d3 d4
      exact ⟨oc, od, n10, n11, n12, cda, cc, n14, osl, vs, file, tf, ccl, cl, cdd, cld, ccs, csl, q, h2, e2, e3, h3, e4⟩
    | _ => cases y2
theorem tok_ok (X : K.In h) (G : h.Ns mainGlobals mg) (c : SaysK h K) : ∃ t0 : PySem.Tok, mg "QUOTE" = some (.str (Sg [34]) t0) ∧ t0 ≠ 0 ∧ t0 < N0 := by
  have z := c.tk
  unfold tokB at z
  split at z
  · rename_i y t0 e
    obtain ⟨h1, z⟩ := He.ba z
    obtain ⟨h2, h3⟩ := He.ba z
    obtain rfl := of_decide_eq_true h1
    exact ⟨t0, PySem.W.mg_of X G e, of_decide_eq_true h2, of_decide_eq_true h3⟩
  · cases z
theorem txg (X : K.In h) (G : h.Ns mainGlobals mg) (c : SaysK h K) : Txg N0 R.prog K mg := {
    f_isinstance := He.free_ok X G (c.f (.free "isinstance") (i := 39) rfl)
    f_int := He.free_ok X G (c.f (.free "int") (i := 38) rfl)
    f_str := He.free_ok X G (c.f (.free "str") (i := 43) rfl)
    f_len := He.free_ok X G (c.f (.free "len") (i := 40) rfl)
    f_all := He.free_ok X G (c.f (.free "all") (i := 36) rfl)
    g_LETTERS := He.str_ok X G (c.f (.str "LETTERS" "abcdefghijklmnopqrstuvwxyzABCDEFGHIJKLMNOPQRSTUVWXYZ_") (i := 52) rfl)
    g_FIGURES := He.str_ok X G (c.f (.str "FIGURES" "0123456789") (i := 51) rfl)
    g_SIGNS := He.str_ok X G (c.f (.str "SIGNS" " !\"#$&'()*+,-./0123456789:;<=>?@ABCDEFGHIJKLMNOPQRSTUVWXYZ[\\]^_`abcdefghijklmnopqrstuvwxyz{|}~") (i := 54) rfl)
    g_MARKS := He.str_ok X G (c.f (.str "MARKS" "()[]{},;.=<>+-*/") (i := 50) rfl)
    g_QUOTE := He.str_ok X G (c.f (.str "QUOTE" "\"") (i := 53) rfl)
    g_MOST_NAME := He.int_ok X G (c.f (.int "MOST_NAME" (20)) (i := 47) rfl)
    g_MOST_FIGURES := He.int_ok X G (c.f (.int "MOST_FIGURES" (18)) (i := 48) rfl)
    g_MOST_NUMBER := He.int_ok X G (c.f (.int "MOST_NUMBER" (576460752303423487)) (i := 49) rfl)
    g_KEYS := He.glo_ok X G (c.f (.glo "KEYS") (i := 33) rfl)
    t_KEYS := fun H => He.tupB_ok (c.exAt 0) H
    g_PAIRS := He.glo_ok X G (c.f (.glo "PAIRS") (i := 34) rfl)
    t_PAIRS := fun H => He.tupB_ok (c.exAt 1) H
    e_BadText := supBadText X G c
    e_NoText := ⟨He.glo_ok X G (c.f (.glo "NoText") (i := 32) rfl), (He.exc_ok (c.f (.exc "NoText") (i := 55) rfl)).1, (He.exc_ok (c.f (.exc "NoText") (i := 55) rfl)).2.1, (He.exc_ok (c.f (.exc "NoText") (i := 55) rfl)).2.2.1, (He.exc_ok (c.f (.exc "NoText") (i := 55) rfl)).2.2.2⟩
    f_list := He.free_ok X G (c.f (.free "list") (i := 41) rfl)
    f_abs := He.free_ok X G (c.f (.free "abs") (i := 35) rfl)
    f_range := He.free_ok X G (c.f (.free "range") (i := 42) rfl)
    f_tuple := He.free_ok X G (c.f (.free "tuple") (i := 45) rfl)
    f_bool := He.free_ok X G (c.f (.free "bool") (i := 37) rfl)
    q := tok_ok X G c
    mNN := He.exm_ok (c.f (.exm "NoText" "NoText" true) (i := 56) rfl)
    mBN := He.exm_ok (c.f (.exm "BadText" "NoText" false) (i := 57) rfl) }
theorem lawN (X : K.In h) (G : h.Ns mainGlobals mg) {f0 : Addr} (hfa : mg ("law" : Str) = some (.ref f0)) (c : SaysK h K) : EndN.LawN N0 PySem.Challenge.rw_unseenheap_k01_words_of_a_text w K CX0 7 63 "script" mg f0 h := by
  have T := txg X G c
  obtain ⟨d_is_name, F_is_name⟩ := c.d.def_ 0 (d := dd "is_name" s_is_name) rfl
  obtain ⟨d_is_number_word, F_is_number_word⟩ := c.d.def_ 1 (d := dd "is_number_word" s_is_number_word) rfl
  obtain ⟨d_stretch_end, F_stretch_end⟩ := c.d.def_ 2 (d := dd "stretch_end" s_stretch_end) rfl
  obtain ⟨d_line_end, F_line_end⟩ := c.d.def_ 3 (d := dd "line_end" s_line_end) rfl
  obtain ⟨d_are_signs, F_are_signs⟩ := c.d.def_ 4 (d := dd "are_signs" s_are_signs) rfl
  obtain ⟨d_text_end, F_text_end⟩ := c.d.def_ 5 (d := dd "text_end" s_text_end) rfl
  obtain ⟨d_note_end, F_note_end⟩ := c.d.def_ 6 (d := dd "note_end" s_note_end) rfl
  obtain ⟨d_stretch_word, F_stretch_word⟩ := c.d.def_ 7 (d := dd "stretch_word" s_stretch_word) rfl
  obtain ⟨d_word_from, F_word_from⟩ := c.d.def_ 8 (d := dd "word_from" s_word_from) rfl
  obtain ⟨d_words, F_words⟩ := c.d.def_ 9 (d := dd "words" s_words) rfl
  obtain ⟨d_law_flow, F_law_flow⟩ := c.d.def_ 10 (d := dd "_law_flow" s_law_flow) rfl
  obtain ⟨d_law_more, F_law_more⟩ := c.d.def_ 11 (d := dd "_law_more" s_law_more) rfl
  obtain ⟨d_law_draw, F_law_draw⟩ := c.d.def_ 12 (d := dd "_law_draw" s_law_draw) rfl
  obtain ⟨d_law_same, F_law_same⟩ := c.d.def_ 13 (d := dd "_law_same" s_law_same) rfl
  obtain ⟨d_law_signs, F_law_signs⟩ := c.d.def_ 14 (d := dd "_law_signs" s_law_signs) rfl
  obtain ⟨d_law_keys, F_law_keys⟩ := c.d.def_ 15 (d := dd "_law_keys" s_law_keys) rfl
  obtain ⟨d_law_sign, F_law_sign⟩ := c.d.def_ 16 (d := dd "_law_sign" s_law_sign) rfl
  obtain ⟨d_law_stretch, F_law_stretch⟩ := c.d.def_ 17 (d := dd "_law_stretch" s_law_stretch) rfl
  obtain ⟨d_law_end, F_law_end⟩ := c.d.def_ 18 (d := dd "_law_end" s_law_end) rfl
  obtain ⟨d_law_quote, F_law_quote⟩ := c.d.def_ 19 (d := dd "_law_quote" s_law_quote) rfl
  obtain ⟨d_law_mark, F_law_mark⟩ := c.d.def_ 20 (d := dd "_law_mark" s_law_mark) rfl
  obtain ⟨d_law_cut, F_law_cut⟩ := c.d.def_ 21 (d := dd "_law_cut" s_law_cut) rfl
  obtain ⟨d_law_inner, F_law_inner⟩ := c.d.def_ 22 (d := dd "_law_inner" s_law_inner) rfl
  obtain ⟨d_law_name, F_law_name⟩ := c.d.def_ 23 (d := dd "_law_name" s_law_name) rfl
  obtain ⟨d_law_piece, F_law_piece⟩ := c.d.def_ 24 (d := dd "_law_piece" s_law_piece) rfl
  obtain ⟨d_law_fault, F_law_fault⟩ := c.d.def_ 25 (d := dd "_law_fault" s_law_fault) rfl
  obtain ⟨d_law_space, F_law_space⟩ := c.d.def_ 26 (d := dd "_law_space" s_law_space) rfl
  obtain ⟨d_law_pieces, F_law_pieces⟩ := c.d.def_ 27 (d := dd "_law_pieces" s_law_pieces) rfl
  obtain ⟨d_law_told, F_law_told⟩ := c.d.def_ 28 (d := dd "_law_told" s_law_told) rfl
  obtain ⟨d_law, F_law⟩ := c.d.def_ 29 (d := dd "law" s_law) rfl
  have e20 := hfa.symm.trans (He.glo_ok X G (c.f (.glo "law") (i := 29) rfl))
  obtain rfl := Value.ref.inj (Option.some.inj e20)
  have b20 := FunD.bindsA (ps := ["script"]) F_law fun _ _ _ _ _ _ us hl => match us, hl with | [_], _ => rfl
  refine ⟨d_law, [], spLaw K, (fun p hp => nomatch hp), fun s v => b20 s [v] rfl, fun H a ns hl _ _ hS => ⟨a, ns, rfl, hS, fun _ => rfl⟩, fun base _ _ _ => ?_⟩
  have D_is_name : Cal R.prog w K mg base CX0 1 "is_name" P_is_name spIsName := ⟨_, _, ok_is_name (P := R.prog) (w := w) (base := base) T.toTxa F_is_name, He.glo_ok X G (c.f (.glo "is_name") (i := 0) rfl), F_is_name.kp, F_is_name.bindsN fun _ _ _ _ _ _ us hl => match us, hl with | [_], _ => rfl⟩
  have D_is_number_word : Cal R.prog w K mg base CX0 1 "is_number_word" P_is_number_word spNum := ⟨_, _, ok_is_number_word (P := R.prog) (w := w) (base := base) T.toTxa F_is_number_word, He.glo_ok X G (c.f (.glo "is_number_word") (i := 1) rfl), F_is_number_word.kp, F_is_number_word.bindsN fun _ _ _ _ _ _ us hl => match us, hl with | [_], _ => rfl⟩
  have D_stretch_end : Cal R.prog w K mg base CX0 1 "stretch_end" P_stretch_end spStretchEnd := ⟨_, _, ok_stretch_end (P := R.prog) (w := w) (base := base) T.toTxa F_stretch_end, He.glo_ok X G (c.f (.glo "stretch_end") (i := 2) rfl), F_stretch_end.kp, F_stretch_end.bindsN fun _ _ _ _ _ _ us hl => match us, hl with | [_, _], _ => rfl⟩
  have D_line_end : Cal R.prog w K mg base CX0 1 "line_end" P_line_end spLineEnd := ⟨_, _, ok_line_end (P := R.prog) (w := w) (base := base) T.toTxa F_line_end, He.glo_ok X G (c.f (.glo "line_end") (i := 3) rfl), F_line_end.kp, F_line_end.bindsN fun _ _ _ _ _ _ us hl => match us, hl with | [_, _], _ => rfl⟩
  have D_are_signs : Cal R.prog w K mg base CX0 1 "are_signs" P_are_signs spSigns := ⟨_, _, ok_are_signs (P := R.prog) (w := w) (base := base) T.toTxa F_are_signs, He.glo_ok X G (c.f (.glo "are_signs") (i := 4) rfl), F_are_signs.kp, F_are_signs.bindsN fun _ _ _ _ _ _ us hl => match us, hl with | [_], _ => rfl⟩
  have D_text_end : Cal R.prog w K mg base CX0 1 "text_end" P_text_end spTextEnd := ⟨_, _, ok_text_end (P := R.prog) (w := w) (base := base) T.toTxa F_text_end, He.glo_ok X G (c.f (.glo "text_end") (i := 5) rfl), F_text_end.kp, F_text_end.bindsN fun _ _ _ _ _ _ us hl => match us, hl with | [_, _], _ => rfl⟩
  have D_note_end : Cal R.prog w K mg base (L2.CX R.prog w) 2 "note_end" P_note_end (spNoteEnd K) := ⟨_, _, ok_note_end (P := R.prog) (w := w) (base := base) T.toTxc F_note_end D_line_end D_are_signs, He.glo_ok X G (c.f (.glo "note_end") (i := 6) rfl), F_note_end.kp, F_note_end.bindsN fun _ _ _ _ _ _ us hl => match us, hl with | [_, _, _], _ => rfl⟩
  have D_stretch_word : Cal R.prog w K mg base (L2.CX R.prog w) 2 "stretch_word" P_stretch_word (spStretch K) := ⟨_, _, ok_stretch_word (P := R.prog) (w := w) (base := base) T.toTxc F_stretch_word D_is_name D_is_number_word, He.glo_ok X G (c.f (.glo "stretch_word") (i := 7) rfl), F_stretch_word.kp, F_stretch_word.bindsN fun _ _ _ _ _ _ us hl => match us, hl with | [_, _], _ => rfl⟩
  have D_word_from : CalN N0 R.prog w K mg base (L2.CX R.prog w) 3 "word_from" P_word_from (spWordFrom K) := ⟨_, _, ok_word_from (P := R.prog) (w := w) (base := base) T.toTxd F_word_from D_stretch_end D_text_end D_stretch_word, He.glo_ok X G (c.f (.glo "word_from") (i := 8) rfl), F_word_from.kp, F_word_from.bindsN fun _ _ _ _ _ _ us hl => match us, hl with | [_, _, _], _ => rfl⟩
  have D_words : CalN N0 R.prog w K mg base (L2.CX R.prog w) 4 "words" P_words (spWords K) := ⟨_, _, ok_words (P := R.prog) (w := w) (base := base) T.toTxd F_words D_note_end D_word_from, He.glo_ok X G (c.f (.glo "words") (i := 9) rfl), F_words.kp, F_words.bindsN fun _ _ _ _ _ _ us hl => match us, hl with | [_], _ => rfl⟩
  have D_law_told : CalN N0 R.prog w K mg base CX0 6 "_law_told" P_law_told spTold := ⟨_, _, ok_law_told (P := R.prog) (w := w) (base := base) T.toTxf F_law_told D_words, He.glo_ok X G (c.f (.glo "_law_told") (i := 28) rfl), F_law_told.kp, F_law_told.bindsN fun _ _ _ _ _ _ us hl => match us, hl with | [_], _ => rfl⟩
  have D_law_flow : Cal R.prog w K mg base CX0 1 "_law_flow" P_law_flow (spFlow K) := ⟨_, _, ok_law_flow (P := R.prog) (w := w) (base := base) T F_law_flow, He.glo_ok X G (c.f (.glo "_law_flow") (i := 10) rfl), F_law_flow.kp, F_law_flow.bindsN fun _ _ _ _ _ _ us hl => match us, hl with | [_], _ => rfl⟩
  have D_law_more : Cal R.prog w K mg base CX0 1 "_law_more" P_law_more spMore := ⟨_, _, ok_law_more (P := R.prog) (w := w) (base := base) T F_law_more, He.glo_ok X G (c.f (.glo "_law_more") (i := 11) rfl), F_law_more.kp, F_law_more.bindsN fun _ _ _ _ _ _ us hl => match us, hl with | [_], _ => rfl⟩
  have D_law_draw : Cal R.prog w K mg base CX0 2 "_law_draw" P_law_draw spDraw := ⟨_, _, ok_law_draw (P := R.prog) (w := w) (base := base) T F_law_draw D_law_more, He.glo_ok X G (c.f (.glo "_law_draw") (i := 12) rfl), F_law_draw.kp, F_law_draw.bindsN fun _ _ _ _ _ _ us hl => match us, hl with | [_, _], _ => rfl⟩
  have D_law_signs : Cal R.prog w K mg base CX0 1 "_law_signs" P_law_signs spSignsT := ⟨_, _, ok_law_signs (P := R.prog) (w := w) (base := base) F_law_signs, He.glo_ok X G (c.f (.glo "_law_signs") (i := 14) rfl), F_law_signs.kp, F_law_signs.bindsN fun _ _ _ _ _ _ us hl => match us, hl with | [], _ => rfl⟩
  have D_law_keys : Cal R.prog w K mg base CX0 1 "_law_keys" P_law_keys spKeysT := ⟨_, _, ok_law_keys (P := R.prog) (w := w) (base := base) F_law_keys, He.glo_ok X G (c.f (.glo "_law_keys") (i := 15) rfl), F_law_keys.kp, F_law_keys.bindsN fun _ _ _ _ _ _ us hl => match us, hl with | [], _ => rfl⟩
  have D_law_sign : Cal R.prog w K mg base CX0 3 "_law_sign" P_law_sign spSign := ⟨_, _, ok_law_sign (P := R.prog) (w := w) (base := base) T F_law_sign D_law_draw D_law_signs, He.glo_ok X G (c.f (.glo "_law_sign") (i := 16) rfl), F_law_sign.kp, F_law_sign.bindsN fun _ _ _ _ _ _ us hl => match us, hl with | [_], _ => rfl⟩
  have D_law_end : Cal R.prog w K mg base CX0 2 "_law_end" P_law_end spEnd := ⟨_, _, ok_law_end (P := R.prog) (w := w) (base := base) T F_law_end D_law_signs, He.glo_ok X G (c.f (.glo "_law_end") (i := 18) rfl), F_law_end.kp, F_law_end.bindsN fun _ _ _ _ _ _ us hl => match us, hl with | [_, _], _ => rfl⟩
  have D_law_quote : Cal R.prog w K mg base CX0 1 "_law_quote" P_law_quote spQuote := ⟨_, _, ok_law_quote (P := R.prog) (w := w) (base := base) T F_law_quote, He.glo_ok X G (c.f (.glo "_law_quote") (i := 19) rfl), F_law_quote.kp, F_law_quote.bindsN fun _ _ _ _ _ _ us hl => match us, hl with | [_, _], _ => rfl⟩
  have D_law_mark : Cal R.prog w K mg base CX0 1 "_law_mark" P_law_mark spMark := ⟨_, _, ok_law_mark (P := R.prog) (w := w) (base := base) T F_law_mark, He.glo_ok X G (c.f (.glo "_law_mark") (i := 20) rfl), F_law_mark.kp, F_law_mark.bindsN fun _ _ _ _ _ _ us hl => match us, hl with | [_, _, _], _ => rfl⟩
  have D_law_stretch : Cal R.prog w K mg base CX0 2 "_law_stretch" P_law_stretch spLStretch := ⟨_, _, ok_law_stretch (P := R.prog) (w := w) (base := base) T F_law_stretch D_law_keys, He.glo_ok X G (c.f (.glo "_law_stretch") (i := 17) rfl), F_law_stretch.kp, F_law_stretch.bindsN fun _ _ _ _ _ _ us hl => match us, hl with | [_, _], _ => rfl⟩
  have D_law_cut : Cal R.prog w K mg base CX0 3 "_law_cut" P_law_cut spCut := ⟨_, _, ok_law_cut (P := R.prog) (w := w) (base := base) T F_law_cut D_law_signs D_law_quote D_law_end D_law_stretch D_law_mark, He.glo_ok X G (c.f (.glo "_law_cut") (i := 21) rfl), F_law_cut.kp, F_law_cut.bindsN fun _ _ _ _ _ _ us hl => match us, hl with | [_], _ => rfl⟩
  have D_law_inner : Cal R.prog w K mg base CX0 3 "_law_inner" P_law_inner spInner := ⟨_, _, ok_law_inner (P := R.prog) (w := w) (base := base) T F_law_inner D_law_draw, He.glo_ok X G (c.f (.glo "_law_inner") (i := 22) rfl), F_law_inner.kp, F_law_inner.bindsN fun _ _ _ _ _ _ us hl => match us, hl with | [_], _ => rfl⟩
  have D_law_space : Cal R.prog w K mg base CX0 3 "_law_space" P_law_space spSpace := ⟨_, _, ok_law_space (P := R.prog) (w := w) (base := base) T F_law_space D_law_draw, He.glo_ok X G (c.f (.glo "_law_space") (i := 26) rfl), F_law_space.kp, F_law_space.bindsN fun _ _ _ _ _ _ us hl => match us, hl with | [_], _ => rfl⟩
  have D_law_name : Cal R.prog w K mg base CX0 3 "_law_name" P_law_name spName := ⟨_, _, ok_law_name (P := R.prog) (w := w) (base := base) T F_law_name D_law_draw D_law_signs D_law_keys, He.glo_ok X G (c.f (.glo "_law_name") (i := 23) rfl), F_law_name.kp, F_law_name.bindsN fun _ _ _ _ _ _ us hl => match us, hl with | [_], _ => rfl⟩
  have D_law_piece : Cal R.prog w K mg base CX0 4 "_law_piece" P_law_piece spPiece := ⟨_, _, ok_law_piece (P := R.prog) (w := w) (base := base) T F_law_piece D_law_draw D_law_inner D_law_keys D_law_name, He.glo_ok X G (c.f (.glo "_law_piece") (i := 24) rfl), F_law_piece.kp, F_law_piece.bindsN fun _ _ _ _ _ _ us hl => match us, hl with | [_], _ => rfl⟩
  have D_law_fault : Cal R.prog w K mg base CX0 4 "_law_fault" P_law_fault spFault := ⟨_, _, ok_law_fault (P := R.prog) (w := w) (base := base) T F_law_fault D_law_draw D_law_inner D_law_name, He.glo_ok X G (c.f (.glo "_law_fault") (i := 25) rfl), F_law_fault.kp, F_law_fault.bindsN fun _ _ _ _ _ _ us hl => match us, hl with | [_], _ => rfl⟩
  have D_law_pieces : Cal R.prog w K mg base CX0 5 "_law_pieces" P_law_pieces spPieces := ⟨_, _, ok_law_pieces (P := R.prog) (w := w) (base := base) T F_law_pieces D_law_draw D_law_space D_law_fault D_law_piece, He.glo_ok X G (c.f (.glo "_law_pieces") (i := 27) rfl), F_law_pieces.kp, F_law_pieces.bindsN fun _ _ _ _ _ _ us hl => match us, hl with | [_], _ => rfl⟩
  have bS := F_law_same.bindsN (ps := P_law_same) fun _ _ _ _ _ _ us hl => match us, hl with | [_, _], _ => rfl
  have D_law_same : Cal R.prog w K mg base CX0 4 "_law_same" P_law_same (spS 4) := ⟨_, _, ok_law_same (P := R.prog) (w := w) (base := base) T F_law_same (He.glo_ok X G (c.f (.glo "_law_same") (i := 13) rfl)) bS 4, He.glo_ok X G (c.f (.glo "_law_same") (i := 13) rfl), F_law_same.kp, bS⟩
  exact ok_law (base := base) T F_law D_law_flow D_law_draw D_law_sign D_law_cut D_law_pieces D_law_told D_law_same
end
end K01
open PySem PySem.W PySem.Calls PyProof.Rows
theorem PySem.Challenge.cw_unseenheap_k01_words_of_a_text_holds : PySem.Challenge.rw_unseenheap_k01_words_of_a_text.Holds := by
  w_on; o_law
  have left : LeftO (OpenLaw.row PySem.Challenge.rw_unseenheap_k01_words_of_a_text).prog (view (OpenLaw.row PySem.Challenge.rw_unseenheap_k01_words_of_a_text).prog [45]) K01.names (fun s => xlAt (view (OpenLaw.row PySem.Challenge.rw_unseenheap_k01_words_of_a_text).prog [45]) [] s && recOk (OpenLaw.row PySem.Challenge.rw_unseenheap_k01_words_of_a_text).toRowW.records s) K01.hkK.obs K01.hkK.val (4000 + 600) true :=
    HandSHeadRun.left_one (M := 4000) (by kernel_rfl) (Nat.ble_eq_true_of_le (by omega)) (fun s => by kernel_rfl) (Nat.ble_eq_true_of_le (by omega)) fun w os => by
      have z := K01.run w os
      have eo : K01.obK = fun s => K01.hkK.obs s.abs := funext K01.obK_eq
      rw [eo] at z
      simp only [HandSHeadRun.endQ_eq, HandSHeadRun.seenQ_eq]
      exact z
  exact EndN.holdsN (l := PySem.Challenge.rw_unseenheap_k01_words_of_a_text) (n := 63) (k := 7) (n0 := K01.N0) (x := "script") (CX := fun _ => L2.CX0) (d := HandSHeadRun.topDef (OpenLaw.row PySem.Challenge.rw_unseenheap_k01_words_of_a_text).prog 45) (XP := XL (view (OpenLaw.row PySem.Challenge.rw_unseenheap_k01_words_of_a_text).prog [45]) []) (YP := K01.hkK.says)
    left (fun w s e => ⟨K01.hkK.of w s e, of_decide_eq_true (congrArg (fun z : K01.AlK => z.2) e)⟩) K01.hkK.keeps (fun s z => xl_of s (Bool.and_eq_true_iff.mp z).1) XL.keeps (by kernel_rfl) (by kernel_rfl) (by kernel_rfl) rfl (by rfl) (by first | assumption | decide +kernel) (by decide +kernel) ⟨rfl, rfl, rfl, rfl, rfl, by decide +kernel⟩ (by w_witness2) rfl (by decide) ⟨rfl, by decide, by decide⟩
    (fun w mg fa h Y G hmg0 => by
      obtain ⟨K, KX, c⟩ := Y
      have hmg : mg ("law" : PySem.Str) = some (.ref fa) := by
        have e : (HandSHeadRun.topDef (OpenLaw.row PySem.Challenge.rw_unseenheap_k01_words_of_a_text).prog 45).name = ("law" : PySem.Str) := by kernel_rfl
        rw [← e]
        exact hmg0
      exact ⟨K, KX, K01.lawN KX G hmg c⟩)
    (fun _ _ _ _ _ z => z)
