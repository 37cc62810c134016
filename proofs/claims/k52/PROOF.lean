import PyProof.Rows.All
import Wide.All
import OpenK.AllK
import Wide.FinOn
import KE.KLam
import KE.KExcSuper
import HandS.ForMost
import HandS.Exc
import HandS.ForExc
import HandS.EndTab
import HandS.HeadWalk
import HandS.HeadHook4
import HandS.OwnEq
import HandS.ExcInit
import HandS.TryMany
import HandS.ExcIs
import HandS.ExcField
import HandS.Lambda
import HandS.IsInst
import HandS.Wide
import PySem.Challenge.RW_unseenheap_k52_words_and_rooms_judged
import HandS.Head0
import HandS.Head1
import HandS.Head2
import HandS.HeadEnd
import HandS.HeadHook1
import HandS.HeadHook2
set_option Elab.async false
set_option linter.all false
set_option maxRecDepth 100000
set_option maxHeartbeats 4000000
/-! ## stepping through readings -/
namespace L2
open PySem PySem.Spec PyProof.Rows
/-- a def that is called by its name -/
structure Cal (P : Program) (w : World) (K : PySem.W.Frag) (mg : Str → Option Value) (base : Heap) (CX : CXT) (k : Nat) (x : Str) (ps : List Str) (sp : Sp) : Prop where
  ex : ∃ (f : Addr) (fd : FuncData), FnOk P w K mg base CX k f fd ps sp ∧ mg x = some (.ref f) ∧ PySem.W.keepIn K (.ref f) = true ∧ Binds K fd ps []
section
variable {X : Cx} {CX : CXT} {k j : Nat} {x : Str} {ps : List Str} {sp : Sp} {E : XK} {p pos : Pos} {e : Expr} {es : List Expr} {t : TA} {W : WX}
theorem pe_cal (D : Cal X.prog X.w X.K X.mg X.base CX k x ps sp) (hr : Room j X.A) (hkj : Nat.ble k j = true) (hg : Gl X x) (hx : Passes CX X E) (ha : PA X (e :: es) t) (hdb : (x == ("__debug__" : Str)) = false := by decide)
    (he : starEach (e :: es) X.env = (false, eval e X.env) :: starEach es X.env := by rfl) (hpl : (backTo pos (starEach es X.env)).any (·.1) = false := by rfl) : PE X (.Call (.Name x p) (e :: es) [] pos) (tCall sp [] E t) := by
  obtain ⟨f, fd, F, hm, hk, hb⟩ := D.ex
  exact pe_call F (hr.mono (Nat.le_of_ble_eq_true hkj)) hg hm hk hb .nil hx ha hdb he hpl
theorem pe_cal0 (D : Cal X.prog X.w X.K X.mg X.base CX k x ps sp) (hr : Room j X.A) (hkj : Nat.ble k j = true) (hg : Gl X x) (hx : Passes CX X E) (hdb : (x == ("__debug__" : Str)) = false := by decide) : PE X (.Call (.Name x p) [] [] pos) (tCall sp [] E tNil) := by
  obtain ⟨f, fd, F, hm, hk, hb⟩ := D.ex
  exact pe_call0 F (hr.mono (Nat.le_of_ble_eq_true hkj)) hg hm hk hb .nil hx hdb
/-- a call within a try's body, or in a def that raises: what is raised is wished for at the slots -/
theorem pe_calS (D : Cal X.prog X.w X.K X.mg X.base (L2.CX X.prog X.w) k x ps sp) (hr : Room j X.A) (hkj : Nat.ble k j = true) (hg : Gl X x) (tk : Takes X W) (ha : PA X (e :: es) t) (hdb : (x == ("__debug__" : Str)) = false := by decide)
    (he : starEach (e :: es) X.env = (false, eval e X.env) :: starEach es X.env := by rfl) (hpl : (backTo pos (starEach es X.env)).any (·.1) = false := by rfl) : PE X (.Call (.Name x p) (e :: es) [] pos) (tCallS sp (WE W) t) := by
  obtain ⟨f, fd, F, hm, hk, hb⟩ := D.ex
  exact pe_callS F (hr.mono (Nat.le_of_ble_eq_true hkj)) hg hm hk hb (fun σ => passAt tk σ) ha hdb he hpl
theorem pe_gi {i : Int} (h : ∃ u, X.mg x = some (.int i u)) (hg : Gl X x := by rfl) (hd : (x == ("__debug__" : Str)) = false := by decide) : PE X (.Name x p) (tC (.int i)) := by
  obtain ⟨u, h⟩ := h
  exact pe_glob hg h ⟨u, rfl⟩ hd
theorem pe_gs {z : Str} (h : ∃ u, X.mg x = some (.str z u)) (hg : Gl X x := by rfl) (hd : (x == ("__debug__" : Str)) = false := by decide) : PE X (.Name x p) (tC (.str z)) := by
  obtain ⟨u, h⟩ := h
  exact pe_glob hg h ⟨u, rfl⟩ hd
theorem pe_gr {a : Addr} (h : X.mg x = some (.ref a)) (hg : Gl X x := by rfl) (hd : (x == ("__debug__" : Str)) = false := by decide) : PE X (.Name x p) (tC (.ref a)) := pe_glob hg h rfl hd
end
/-! ### the steps -/
section
variable {K : PySem.W.Frag} {σ : L2.St} {H : Hp} {Q : VK} {QB : Bool → Hp → Prop} {QA : List V → Hp → Prop} {D : Ends} {ta tb tc : TE} {tA : TA} {t u : TT} {tu tw : TS} {r r' : R2} {g : TG} {v : V} {i j : Int} {c : Bool}
theorem w_var {n : Nat} (h : σ[n]? = some (some v)) (q : Q v H) : tVar n σ H Q := ⟨v, h, q⟩
theorem w_c (q : Q v H) : tC v σ H Q := q
theorem w_op (q : ta σ H fun x H1 => tb σ H1 fun y H2 => r x y H2 Q) : tOp r ta tb σ H Q := q
theorem w_un {r : V → Hp → VK → Prop} (q : ta σ H fun x H1 => r x H1 Q) : tUn r ta σ H Q := q
theorem w_I0 {g : Int → Int → V} (q : Q (g i j) H) : rI0 g (.int i) (.int j) H Q := ⟨i, j, rfl, rfl, q⟩
theorem w_I {C : Int → Int → Prop} {g : Int → Int → V} (h : C i j) (q : Q (g i j) H) : rI C g (.int i) (.int j) H Q := ⟨i, j, rfl, rfl, h, q⟩
theorem w_U {g : Int → V} (q : Q (g i) H) : rU g (.int i) H Q := ⟨i, rfl, q⟩
theorem w_eq {x y : V} (h : scal x y = true) (q : Q (.bl (decide (x = y))) H) : rEq x y H Q := ⟨h, q⟩
theorem w_ne {x y : V} (h : scal x y = true) (q : Q (.bl (!decide (x = y))) H) : rNe x y H Q := ⟨h, q⟩
theorem w_eqI (q : Q (.bl (decide (i = j))) H) : rEq (.int i) (.int j) H Q := ⟨rfl, by
  have e : decide (V.int i = V.int j) = decide (i = j) := by simp
  rw [e]
  exact q⟩
theorem w_neI (q : Q (.bl (!decide (i = j))) H) : rNe (.int i) (.int j) H Q := ⟨rfl, by
  have e : decide (V.int i = V.int j) = decide (i = j) := by simp
  rw [e]
  exact q⟩
theorem w_isN (q : ta σ H fun x H1 => Q (.bl (decide (x = .non))) H1) : tIsN ta σ H Q := q
theorem w_notN (q : ta σ H fun x H1 => Q (.bl (!decide (x = .non))) H1) : tNotN ta σ H Q := q
theorem w_test (q : ta σ H fun x H1 => ∃ k, x = .bl k ∧ QB k H1) : tTest ta σ H QB := q
theorem w_B (q : ta σ H fun x H1 => ∃ k, x = .bl k ∧ QB k H1) : tB ta σ H QB := q
theorem w_bl {P : Bool → Prop} (q : P c) : ∃ k, V.bl c = .bl k ∧ P k := ⟨c, rfl, q⟩
theorem w_and (q : t σ H fun c H1 => if c = true then u σ H1 QB else QB false H1) : tAnd t u σ H QB := q
theorem w_or (q : t σ H fun c H1 => if c = true then QB true H1 else u σ H1 QB) : tOr t u σ H QB := q
theorem w_not (q : t σ H fun c H1 => QB (!c) H1) : tNot t σ H QB := q
theorem w_andV (q : ta σ H fun x H1 => ∃ c, x = .bl c ∧ if c = true then tb σ H1 Q else Q (.bl false) H1) : tAndV ta tb σ H Q := q
theorem w_orV (q : ta σ H fun x H1 => ∃ c, x = .bl c ∧ if c = true then Q (.bl true) H1 else tb σ H1 Q) : tOrV ta tb σ H Q := q
theorem w_notV (q : ta σ H fun x H1 => ∃ c, x = .bl c ∧ Q (.bl (!c)) H1) : tNotV ta σ H Q := q
theorem w_ifE (q : t σ H fun c H1 => if c = true then ta σ H1 Q else tb σ H1 Q) : tIf t ta tb σ H Q := q
theorem w_chain (q : ta σ H fun x H1 => tb σ H1 fun y H2 => r x y H2 fun z H3 => ∃ k, z = .bl k ∧ if k = true then tc σ H3 fun y' H4 => r' y y' H4 Q else Q (.bl false) H3) : tChain r r' ta tb tc σ H Q := q
theorem w_next (q : D.nx σ H) : tNext D σ H := q
theorem w_seq (q : tu { D with nx := tw D } σ H) : tSeq tu tw D σ H := q
theorem w_drop (q : ta σ H fun _ H1 => D.nx σ H1) : tDrop ta D σ H := q
theorem w_ret (q : ta σ H D.rt) : tRet ta D σ H := q
theorem w_retN (q : D.rt .non H) : tRetN D σ H := q
theorem w_ifS (q : t σ H fun b H1 => if b = true then tu D σ H1 else tw D σ H1) : tIfS t tu tw D σ H := q
theorem w_asg (q : ta σ H fun x H1 => g x σ H1 D.nx) : tAsg ta g D σ H := q
theorem w_name {n : Nat} {N : L2.St → Hp → Prop} (q : N (σ.set n (some v)) H) : gName n v σ H N := q
theorem w_nil (q : QA [] H) : tNil σ H QA := q
theorem w_cons (q : ta σ H fun x H1 => tA σ H1 fun xs H2 => QA (x :: xs) H2) : tCons ta tA σ H QA := q
theorem w_tup (q : tA σ H fun xs H1 => xs.length ≤ sizeLine ∧ ∀ p, H1 p = none → Q (.ref p) (upd H1 p (.tup xs))) : tTup tA σ H Q := q
theorem w_lst (q : tA σ H fun xs H1 => xs.length ≤ sizeLine ∧ ∀ p, H1 p = none → Q (.ref p) (upd H1 p (.lst xs))) : tLst tA σ H Q := q
theorem w_call {sp : Sp} {dvs : List V} {E : XK} (q : tA σ H fun vs H1 => sp (vs ++ dvs) H1 Q E) : tCall sp dvs E tA σ H Q := q
theorem w_CB {r : List V → Hp → VK → Prop} (q : tA σ H fun vs H1 => r vs H1 Q) : tCB r tA σ H Q := q
theorem w_ixL {p : Addr} {xs : List V} (h : SqL K H p xs) (ha : atI xs i = some v) (q : Q v H) : rIxL K (.ref p) (.int i) H Q := ⟨p, xs, i, v, rfl, rfl, h, ha, q⟩
theorem w_ixT {p : Addr} {xs : List V} (h : SqT K H p xs) (ha : atI xs i = some v) (q : Q v H) : rIxT K (.ref p) (.int i) H Q := ⟨p, xs, i, v, rfl, rfl, h, ha, q⟩
theorem w_t {A B : Prop} (h : A) : if true = true then A else B := iteT h
theorem w_f {A B : Prop} (h : B) : if false = true then A else B := iteF h
theorem w_2 {A B : Prop} (h1 : c = true → A) (h2 : c = false → B) : if c = true then A else B := by
  cases c with
  | true => exact iteT (h1 rfl)
  | false => exact iteF (h2 rfl)
end
/-! ### what is known of a heap -/
theorem sameUpd {H : Hp} {p : Addr} {o : HO} (h : H p = none) : Same H (upd H p o) := fun b u e => by
  rw [upd_ne (ne_of_none e h)]
  exact e
/-- the type of a value, where it is known -/
def tyOf (H : Hp) : V → Option String
  | .non => some "NoneType"
  | .bl _ => some "bool"
  | .int _ => some "int"
  | .str _ => some "str"
  | .ref a => (match H a with
    | some (.lst _) => some "list"
    | some (.tup _) => some "tuple"
    | some (.dK _) => some "dict"
    | _ => none)
  | _ => none
def Kn (H : Hp) (v : V) : Prop := (tyOf H v).isSome = true
theorem tyOf_ok {K : PySem.W.Frag} {H : Hp} {v : V} {n : String} (h : tyOf H v = some n) : TyX K H v (.type n) := by
  cases v with
  | non => cases h; exact .base .non
  | bl b => cases h; exact .base (.bl b)
  | int i => cases h; exact .base (.int i)
  | str x => cases h; exact .base (.str x)
  | ref a =>
    unfold tyOf at h
    cases e : H a with
    | none => simp [e] at h
    | some o =>
      cases o with
      | lst xs => simp [e] at h; subst h; exact .base (.lst e)
      | tup xs => simp [e] at h; subst h; exact .base (.tup e)
      | dK xs => simp [e] at h; subst h; exact .base (.dK e)
      | _ => simp [e] at h
  | _ => cases h
theorem Same.ty {H H' : Hp} (s : Same H H') {v : V} {n : String} (h : tyOf H v = some n) : tyOf H' v = some n := by
  cases v with
  | ref a =>
    cases e : H a with
    | none => simp [tyOf, e] at h
    | some o =>
      simp only [tyOf, e] at h
      simp only [tyOf, s a o e]
      exact h
  | _ => exact h
theorem Same.kn {H H' : Hp} (s : Same H H') {v : V} (h : Kn H v) : Kn H' v := by
  unfold Kn at h ⊢
  obtain ⟨n, e⟩ := Option.isSome_iff_exists.mp h
  rw [s.ty e]
  rfl
/-- isinstance(v, C), C a built-in class, v of a known type -/
theorem w_isi {K : PySem.W.Frag} {H : Hp} {Q : VK} {v : V} {m : String} {b : Bool} (n : String) (hn : tyOf H v = some n) (hb : kitB n m = some b) (q : Q (.bl b) H) : rIsi K [v, .ty m] H Q := ⟨v, .ty m, .type n, .type m, b, rfl, .ty m, tyOf_ok hn, kit_ty hb, q⟩
def intLike : V → Bool
  | .int _ => true
  | .bl _ => true
  | _ => false
def isBl : V → Bool
  | .bl _ => true
  | _ => false
def isSt : V → Bool
  | .str _ => true
  | _ => false
def isLs (H : Hp) : V → Bool
  | .ref a => (match H a with
    | some (.lst _) => true
    | _ => false)
  | _ => false
def isTp (H : Hp) : V → Bool
  | .ref a => (match H a with
    | some (.tup _) => true
    | _ => false)
  | _ => false
section
variable {K : PySem.W.Frag} {H : Hp} {Q : VK} {v : V}
theorem w_isInt (h : Kn H v) (q : Q (.bl (intLike v)) H) : rIsi K [v, .ty "int"] H Q := by
  cases v with
  | non => exact w_isi (b := false) "NoneType" rfl (by decide +kernel) q
  | bl b => exact w_isi (b := true) "bool" rfl (by decide +kernel) q
  | int i => exact w_isi (b := true) "int" rfl (by decide +kernel) q
  | str x => exact w_isi (b := false) "str" rfl (by decide +kernel) q
  | ref a =>
    cases e : H a with
    | none => simp [Kn, tyOf, e] at h
    | some o =>
      cases o with
      | lst xs => exact w_isi (b := false) "list" (by simp [tyOf, e]) (by decide +kernel) q
      | tup xs => exact w_isi (b := false) "tuple" (by simp [tyOf, e]) (by decide +kernel) q
      | dK xs => exact w_isi (b := false) "dict" (by simp [tyOf, e]) (by decide +kernel) q
      | _ => simp [Kn, tyOf, e] at h
  | _ => cases h
theorem w_isBool (h : Kn H v) (q : Q (.bl (isBl v)) H) : rIsi K [v, .ty "bool"] H Q := by
  cases v with
  | non => exact w_isi (b := false) "NoneType" rfl (by decide +kernel) q
  | bl b => exact w_isi (b := true) "bool" rfl (by decide +kernel) q
  | int i => exact w_isi (b := false) "int" rfl (by decide +kernel) q
  | str x => exact w_isi (b := false) "str" rfl (by decide +kernel) q
  | ref a =>
    cases e : H a with
    | none => simp [Kn, tyOf, e] at h
    | some o =>
      cases o with
      | lst xs => exact w_isi (b := false) "list" (by simp [tyOf, e]) (by decide +kernel) q
      | tup xs => exact w_isi (b := false) "tuple" (by simp [tyOf, e]) (by decide +kernel) q
      | dK xs => exact w_isi (b := false) "dict" (by simp [tyOf, e]) (by decide +kernel) q
      | _ => simp [Kn, tyOf, e] at h
  | _ => cases h
theorem w_isStr (h : Kn H v) (q : Q (.bl (isSt v)) H) : rIsi K [v, .ty "str"] H Q := by
  cases v with
  | non => exact w_isi (b := false) "NoneType" rfl (by decide +kernel) q
  | bl b => exact w_isi (b := false) "bool" rfl (by decide +kernel) q
  | int i => exact w_isi (b := false) "int" rfl (by decide +kernel) q
  | str x => exact w_isi (b := true) "str" rfl (by decide +kernel) q
  | ref a =>
    cases e : H a with
    | none => simp [Kn, tyOf, e] at h
    | some o =>
      cases o with
      | lst xs => exact w_isi (b := false) "list" (by simp [tyOf, e]) (by decide +kernel) q
      | tup xs => exact w_isi (b := false) "tuple" (by simp [tyOf, e]) (by decide +kernel) q
      | dK xs => exact w_isi (b := false) "dict" (by simp [tyOf, e]) (by decide +kernel) q
      | _ => simp [Kn, tyOf, e] at h
  | _ => cases h
theorem w_isList (h : Kn H v) (q : Q (.bl (isLs H v)) H) : rIsi K [v, .ty "list"] H Q := by
  cases v with
  | non => exact w_isi (b := false) "NoneType" rfl (by decide +kernel) q
  | bl b => exact w_isi (b := false) "bool" rfl (by decide +kernel) q
  | int i => exact w_isi (b := false) "int" rfl (by decide +kernel) q
  | str x => exact w_isi (b := false) "str" rfl (by decide +kernel) q
  | ref a =>
    cases e : H a with
    | none => simp [Kn, tyOf, e] at h
    | some o =>
      simp only [isLs, e] at q
      cases o with
      | lst xs => exact w_isi (b := true) "list" (by simp [tyOf, e]) (by decide +kernel) q
      | tup xs => exact w_isi (b := false) "tuple" (by simp [tyOf, e]) (by decide +kernel) q
      | dK xs => exact w_isi (b := false) "dict" (by simp [tyOf, e]) (by decide +kernel) q
      | _ => simp [Kn, tyOf, e] at h
  | _ => cases h
theorem w_isTuple (h : Kn H v) (q : Q (.bl (isTp H v)) H) : rIsi K [v, .ty "tuple"] H Q := by
  cases v with
  | non => exact w_isi (b := false) "NoneType" rfl (by decide +kernel) q
  | bl b => exact w_isi (b := false) "bool" rfl (by decide +kernel) q
  | int i => exact w_isi (b := false) "int" rfl (by decide +kernel) q
  | str x => exact w_isi (b := false) "str" rfl (by decide +kernel) q
  | ref a =>
    cases e : H a with
    | none => simp [Kn, tyOf, e] at h
    | some o =>
      simp only [isTp, e] at q
      cases o with
      | lst xs => exact w_isi (b := false) "list" (by simp [tyOf, e]) (by decide +kernel) q
      | tup xs => exact w_isi (b := true) "tuple" (by simp [tyOf, e]) (by decide +kernel) q
      | dK xs => exact w_isi (b := false) "dict" (by simp [tyOf, e]) (by decide +kernel) q
      | _ => simp [Kn, tyOf, e] at h
  | _ => cases h
end
end L2
/-! ## raising, calls where it is known that no repr is under way, repr of data -/
namespace L2
open PySem PySem.Spec PyProof.Rows
/-- an own error class without a method -/
structure ErrTxt (K : PySem.W.Frag) (mg : Str → Option Value) (x : Str) (C : Addr) : Prop where
  gC : mg x = some (.ref C)
  ex : PySem.W.excIn K C [.type "ValueError", .type "Exception", .type "BaseException", .type "object"] "ValueError.__new__" = true
  kC : PySem.W.keepIn K (.ref C) = true
  su : PySem.W.subIn K (.ref C) (.type "BaseException") = some true
  ty : PySem.W.typeIn K (.ref C) = some (.type "type")
section
variable {X : Cx} {C : Addr} {W : WX} {x : Str} {p pos pos2 : Pos}
theorem pmk_own0 (T : ErrTxt X.K X.mg x C) (hg : Gl X x := by rfl) (hdb : (x == ("__debug__" : Str)) = false := by decide) : PMk X (.Call (.Name x p) [] [] pos) (fun _ H Q => Q (.ref C) none H) := by
  intro pins s σ H Q I h
  obtain ⟨bm, N, nm, qn, bs, hdct, sn, sub, ab, col, dd, k0, k1, k2, k3, k5, mN, hC, hN, hni, O⟩ := exc_obj I.kIn T.ex
  refine wpAny_Call_Name_kw (ld_glob I hg T.gC (PySem.W.callWith_K0 I.kIn T.kC ?_) hdb)
  exact wpAny_call_exc_subT PySem.F.excBase_ValueError O hC hN hni (fun h' e hm => mk_of I hm (raises_own T.su T.ty) h (I.hok.gone hm.new)) (Nat.zero_le _)
theorem ps_raise0 (hc : X.calm = true) (T : ErrTxt X.K X.mg x C) (tk : Takes X W) (hg : Gl X x := by rfl) (hdb : (x == ("__debug__" : Str)) = false := by decide) : PS X (.Raise (some (.Call (.Name x p) [] [] pos)) none pos2) (fun _ σ H => W (.ref C) none σ H) :=
  ps_raise hc tk (pmk_own0 T hg hdb)
end
/-- as FnOk, where no repr is under way -/
structure FnG (P : Program) (w : World) (K : PySem.W.Frag) (mg : Str → Option Value) (base : Heap) (CX : CXT) (k : Nat) (f : Addr) (fd : FuncData) (ps : List Str) (sp : Sp) : Prop where
  len : ∀ vs H Q E, sp vs H Q E → vs.length = ps.length
  run : ∀ (A : Around) (outer : List Env) (s : Shared) (H : Hp) (args : Args) (us : List Value) (vs : List V) (Q : VK) (E : XK), A.guards = some [] → Room k A → Env0 P w K mg base A outer s H → BindsTo s fd args (ps.zip us) → Vals vs us → sp vs H Q E →
    codeAny (model P w) A (.call (.ref f) args) (CR CX outer P w H s Q E) s
structure CalG (P : Program) (w : World) (K : PySem.W.Frag) (mg : Str → Option Value) (base : Heap) (CX : CXT) (k : Nat) (x : Str) (ps : List Str) (sp : Sp) : Prop where
  ex : ∃ (f : Addr) (fd : FuncData), FnG P w K mg base CX k f fd ps sp ∧ mg x = some (.ref f) ∧ PySem.W.keepIn K (.ref f) = true ∧ Binds K fd ps []
section
variable {P : Program} {w : World} {K : PySem.W.Frag} {mg : Str → Option Value} {base : Heap} {x qual : Str} {params : Arguments} {body : List Stmt} {scope : Scope} {f : Addr} {fd : FuncData}
theorem FunD.okG {CX : CXT} {N ps : List Str} {k : Nat} {sp : Sp} (F : FunD K x qual params body scope [] [] f fd) (S : FnScope N ps scope) (len : ∀ vs H Q E, sp vs H Q E → vs.length = ps.length)
    (hbody : ∀ (cdv : Value) (A : Around) (outer : List Env) (s : Shared) (H : Hp) (vs : List V) (Q : VK) (E : XK), (A.deeper (envOfC qual scope s.heap.objs.size f cdv)).guards = some [] → Room k (A.deeper (envOfC qual scope s.heap.objs.size f cdv)) → PySem.W.codeIn K cdv qual = true → fd.code = cdv → sp vs H Q E →
      ∃ t, PSs (cxOf CX P w K mg base N qual scope f cdv A outer s H E) body t ∧ t { nx := fun _ H' => Q .non H', rt := Q } (start N vs) H) : FnG P w K mg base CX (k + 1) f fd ps sp := by
  obtain ⟨oc, od, dV, kV, doc, pm, an, cdv, ct, osl, rfl, lk, hcd, _, _⟩ := F.ex
  exact ⟨len, fun A outer s H args us vs Q E hg hr e0 hb r hsp => LamX.run_ofS lk hcd S hr e0 hb r (len _ _ _ _ hsp) fun hr' => hbody cdv A outer s H vs Q E hg hr' hcd rfl hsp⟩
end
section
variable {X : Cx} {CX : CXT} {k j : Nat} {x : Str} {ps : List Str} {sp : Sp} {E : XK} {p pos : Pos} {e : Expr} {es : List Expr} {t : TA}
theorem pe_calG (D : CalG X.prog X.w X.K X.mg X.base CX k x ps sp) (hg : X.A.guards = some []) (hr : Room j X.A) (hkj : Nat.ble k j = true) (gl : Gl X x) (hx : Passes CX X E) (ha : PA X (e :: es) t) (hdb : (x == ("__debug__" : Str)) = false := by decide)
    (he : starEach (e :: es) X.env = (false, eval e X.env) :: starEach es X.env := by rfl) (hpl : (backTo pos (starEach es X.env)).any (·.1) = false := by rfl) : PE X (.Call (.Name x p) (e :: es) [] pos) (tCall sp [] E t) := by
  obtain ⟨f, fd, F, hm, hk, hb⟩ := D.ex
  refine ⟨fun pins s σ H Q I h => ?_⟩
  refine wpAny_Call_Name_kw (ld_glob I gl hm ?_ hdb)
  refine PySem.W.callWith_K (h₀ := X.base) I.ok.mod.kin hk (thn (ha.run pos pins s σ H _ I h) fun us s1 hh => ?_) he hpl
  obtain ⟨vs, H1, I1, r, q⟩ := hh
  rw [List.append_nil] at q
  have hl : us.length = ps.length := by rw [← r.length]; exact F.len _ _ _ _ q
  have b := hb s1 us I1.kIn (by rw [List.append_nil]; exact hl)
  rw [List.append_nil] at b
  refine ⟨I1.kIn, wpAny_call (codeAny_mono (F.run X.A X.stack s1 H1 ⟨us, []⟩ us vs Q E hg (hr.mono (Nat.le_of_ble_eq_true hkj)) I1.env0 b r q) fun rr s' hq => ?_)⟩
  match rr, hq with
  | .error u, hq => exact hx pins σ H1 s1 u s' I1 hq
  | .ok (.ret u), hq => exact I1.after hq
  | .ok .next, hq => exact False.elim hq
  | .ok .brk, hq => exact False.elim hq
  | .ok .cont, hq => exact False.elim hq
end
/-! ### repr of data -/
def rReprD (K : PySem.W.Frag) : List V → Hp → VK → Prop := fun xs H Q => ∃ (a : Addr) (d : PyData), xs = [.ref a] ∧ Dp K H (.ref a) d ∧ d.showable = true ∧ d.hasDict = false ∧ d.depth ≤ 60 ∧ d.shown.length ≤ sizeLine ∧ Q (.str d.shown) H
theorem call_reprD {X : Cx} (hg : X.A.guards = some []) (hu : X.A.units + 64 < cLine) : CallR X (.builtin "repr") (rReprD X.K) := by
  intro pins s σ H xs us Q I r h
  obtain ⟨a, d, rfl, hd, h1, h2, h3, h4, q⟩ := h
  cases r with
  | cons ru rn =>
    cases rn
    cases ru
    obtain ⟨as, R⟩ := Dp.reads I d _ _ hd rfl
    refine repr_of_reads' R h1 (fun z => ?_) hg (by omega) (fun _ _ e => e) (fun h' u tk k => ⟨.str d.shown, H, I.kept k, ⟨u, rfl⟩, q⟩) h4
    rw [h2] at z
    cases z
end L2
/-! ## == by an own __eq__, whatever it gives -/
namespace L2
open PySem PySem.Spec PyProof.Rows
theorem w_nt {A B : Prop} (h : B) : if (!true) = true then A else B := iteF h
theorem w_nf {A B : Prop} (h : A) : if (!false) = true then A else B := iteT h
def rInt1 : List V → Hp → VK → Prop := fun xs H Q => (∃ i, xs = [.int i] ∧ Q (.int i) H) ∨ ∃ k, xs = [.bl k] ∧ Q (.int (if k then 1 else 0)) H
def rAbs : List V → Hp → VK → Prop := fun xs H Q => ∃ i, xs = [.int i] ∧ Q (.int (if i < 0 then -i else i)) H
def rLenQ (K : PySem.W.Frag) : List V → Hp → VK → Prop := fun xs H Q => ∃ p ys, xs = [.ref p] ∧ (SqL K H p ys ∨ SqT K H p ys) ∧ Q (.int ys.length) H
def rLenS : List V → Hp → VK → Prop := fun xs H Q => ∃ z, xs = [.str z] ∧ z.length ≤ sizeLine ∧ Q (.int z.length) H
def rListOf (K : PySem.W.Frag) : List V → Hp → VK → Prop := fun xs H Q => ∃ p ys, xs = [.ref p] ∧ (SqL K H p ys ∨ SqT K H p ys) ∧ ∀ l, H l = none → Q (.ref l) (upd H l (.lst ys))
def rStrI : List V → Hp → VK → Prop := fun xs H Q => ∃ i, xs = [.int i] ∧ i.natAbs.log2 < 1920 ∧ Q (.str (toString i)) H
def rIntS : List V → Hp → VK → Prop := fun xs H Q => ∃ a n, xs = [.str a] ∧ PySem.intText? a = some n ∧ a.length ≤ 640 ∧ Q (.int n) H
section
variable {X : Cx} {K : PySem.W.Frag} {H : Hp} {Q : VK} {i : Int} {b : Bool} {p : Addr} {ys : List V} {z : Str}
theorem call_int1N : CallR X (.type "int") rInt1 := call_int1
theorem call_absN : CallR X (.builtin "abs") rAbs := call_abs
theorem call_lenN : CallR X (.builtin "len") (rLenQ X.K) := call_len_seq
theorem call_lenS : CallR X (.builtin "len") rLenS := call_len_str
theorem call_listN : CallR X (.type "list") (rListOf X.K) := call_list_of
theorem call_strN : CallR X (.type "str") rStrI := call_str_int
theorem call_intS : CallR X (.type "int") rIntS := call_int_str
theorem w_int1 (q : Q (.int i) H) : rInt1 [.int i] H Q := .inl ⟨i, rfl, q⟩
theorem w_intb (q : Q (.int (if b then 1 else 0)) H) : rInt1 [.bl b] H Q := .inr ⟨b, rfl, q⟩
theorem w_abs (q : Q (.int (if i < 0 then -i else i)) H) : rAbs [.int i] H Q := ⟨i, rfl, q⟩
theorem w_lenL (h : SqL K H p ys) (q : Q (.int ys.length) H) : rLenQ K [.ref p] H Q := ⟨p, ys, rfl, .inl h, q⟩
theorem w_lenT (h : SqT K H p ys) (q : Q (.int ys.length) H) : rLenQ K [.ref p] H Q := ⟨p, ys, rfl, .inr h, q⟩
theorem w_lenS (h : z.length ≤ sizeLine) (q : Q (.int z.length) H) : rLenS [.str z] H Q := ⟨z, rfl, h, q⟩
theorem w_listL (h : SqL K H p ys) (q : ∀ l, H l = none → Q (.ref l) (upd H l (.lst ys))) : rListOf K [.ref p] H Q := ⟨p, ys, rfl, .inl h, q⟩
theorem w_strI (h : i.natAbs.log2 < 1920) (q : Q (.str (toString i)) H) : rStrI [.int i] H Q := ⟨i, rfl, h, q⟩
end
theorem w_for {wi : TI} {g : TG} {tb : TS} {D : Ends} {σ : L2.St} {H : Hp} (q : wi σ H fun J H1 => ∃ W : Nat → Nat → L2.St → Hp → Prop, (∃ m, W 0 m σ H1) ∧ ∀ i m σ H, W i m σ H →
    (J.stop i H ∧ D.nx σ H) ∨ (J.go i H ∧ ∃ N : L2.St → Hp → Prop, (∀ σ' H', N σ' H' → ∃ m', m' < m ∧ W (i + 1) m' σ' H') ∧ ∀ x H', J.yld i H x H' → g x σ H' fun σ2 H2 => tb { D with nx := N, ct := N, bk := D.nx } σ2 H2)) : tFor wi g tb D σ H := q
theorem w_rng1 {tA : TA} {σ : L2.St} {H : Hp} {R : It → Hp → Prop} (q : tA σ H fun vs H1 => ∃ j : Int, vs = [.int j] ∧ -(2 ^ 62) ≤ j ∧ j < 2 ^ 62 ∧ R (Itr 0 j.toNat) H1) : iRng1 tA σ H R := q
theorem w_itL {K : PySem.W.Frag} {tl : TE} {σ : L2.St} {H : Hp} {R : It → Hp → Prop} (q : tl σ H fun x H1 => ∃ a, x = .ref a ∧ (∃ xs, SqL K H1 a xs) ∧ R (Itl K a) H1) : iList K tl σ H R := q
theorem w_itT {K : PySem.W.Frag} {tl : TE} {σ : L2.St} {H : Hp} {R : It → Hp → Prop} (q : tl σ H fun x H1 => ∃ a, x = .ref a ∧ (∃ xs, SqT K H1 a xs) ∧ R (Itt K a) H1) : iTup K tl σ H R := q
theorem w_lc {wi : TI} {g : TG} {tt : TT} {te : TE} {vs : List Nat} {σ : L2.St} {H : Hp} {Q : VK} (q : wi σ H fun J H1 => ∀ D, H1 D = none → ∃ W : Nat → Nat → Hp → Prop, (∃ m, W 0 m (upd H1 D (.lst []))) ∧ ∀ i m H, W i m H →
    (J.stop i H ∧ Q (.ref D) H) ∨ (J.go i H ∧ ∃ Nx : Hp → Prop, (∀ H', Nx H' → ∃ m', m' < m ∧ W (i + 1) m' H') ∧ ∀ x H', J.yld i H x H' → g x (wipe σ vs) H' fun σ2 H2 => wipe σ2 vs = wipe σ vs ∧ tt σ2 H2 fun b H3 =>
      if b = true then te σ2 H3 fun y H4 => ∃ acc, H4 D = some (.lst acc) ∧ acc.length < sizeLine ∧ Nx (upd H4 D (.lst (acc ++ [y]))) else Nx H3)) : tLc wi g tt te vs σ H Q := q
theorem w_yes {σ : L2.St} {H : Hp} {QB : Bool → Hp → Prop} (q : QB true H) : tYes σ H QB := q
theorem w_fld {K : PySem.W.Frag} {σ : L2.St} {H : Hp} {Q : VK} {ta : TE} {f : Str} (q : ta σ H fun x H1 => ∃ a C dx fs v, x = .ref a ∧ H1 a = some (.ins C dx fs) ∧ Cls K C ∧ NoAttr K C f ∧ fs.lookup f = some v ∧ Q v H1) : tFld K ta f σ H Q := q
theorem w_BM {K : PySem.W.Frag} {σ : L2.St} {H : Hp} {Q : VK} {n : String} {r : V → List V → Hp → VK → Prop} {to : TE} {t : TA} (q : to σ H fun x H1 => tyV K n x H1 ∧ t σ H1 fun xs H2 => r x xs H2 Q) : tBM K n r to t σ H Q := q
theorem w_sl {σ : L2.St} {H : Hp} {Q : VK} {r : V → Option Int → Option Int → Hp → VK → Prop} {te : TE} {tl th : TO} (q : te σ H fun x H1 => tl σ H1 fun l H2 => th σ H2 fun u H3 => r x l u H3 Q) : tSl r te tl th σ H Q := q
theorem w_noPart {σ : L2.St} {H : Hp} {Q : Option Int → Hp → Prop} (q : Q none H) : tNoPart σ H Q := q
theorem w_part {σ : L2.St} {H : Hp} {Q : Option Int → Hp → Prop} {t : TE} (q : t σ H fun x H1 => ∃ i, x = .int i ∧ Q (some i) H1) : tPart t σ H Q := q
theorem w_in {i : Int} {P : Int → Prop} (q : P i) : ∃ j, V.int i = .int j ∧ P j := ⟨i, rfl, q⟩
/-- x == y, x an instance of the class at C whose own __eq__ keeps sp; y an instance of it, or a list -/
def rEqOwn (K : PySem.W.Frag) (C : Addr) (sp : Sp) : R2 := fun x y H Q => ∃ a dx fs b, x = .ref a ∧ y = .ref b ∧ H a = some (.ins C dx fs) ∧ ((∃ dy gs, H b = some (.ins C dy gs)) ∨ ((∃ xs, H b = some (.lst xs)) ∧ PySem.W.subIn K (.type "list") (.ref C) = some false)) ∧
  sp [.ref a, .ref b] H (fun v H' => ∃ c, v = .bl c ∧ Q (.bl c) H') fun _ _ _ => False
theorem op_eqOwn {X : Cx} {CX : CXT} {C f : Addr} {fd : FuncData} {ps : List Str} {sp : Sp} {k j : Nat} (F : FnOk X.prog X.w X.K X.mg X.base CX k f fd ps sp) (hr : Room j X.A) (hkj : Nat.ble k j = true)
    (hs : PySem.W.findIn X.K (.ref C) "__eq__" = some (some (.ref f))) (hf : PySem.W.isFn X.K (.ref f) = true) (hb : Binds X.K fd ps []) (hx : Passes CX X fun _ _ _ => False) : OpR X (compareOp .Eq) (rEqOwn X.K C sp) := by
  intro pins s σ H x y v u Q I rx ry hq
  obtain ⟨a, dx, fs, b, rfl, rfl, ha, hy, q⟩ := hq
  cases rx
  cases ry
  obtain ⟨mA, J, _⟩ := ins_get I.hok ha
  obtain ⟨od, J, _⟩ := J.look
  obtain ⟨m, hF⟩ := I.fr
  have ht : ∃ tb, PySem.W.Looks (model X.prog X.w) s.heap (typeOf (.ref b)) tb ∧ PySem.W.notFirst X.K C tb = true := by
    rcases hy with ⟨dy, gs, h⟩ | ⟨⟨xs, h⟩, hl⟩
    · obtain ⟨mB, J2, _⟩ := ins_get I.hok h
      obtain ⟨od2, J2, _⟩ := J2.look
      exact ⟨.ref C, J2.type, by simp [PySem.W.notFirst]⟩
    · obtain ⟨_, its, n, _, e⟩ := (show ObjOk X.prog X.w H s.heap b (.lst xs) from I.hok b _ h)
      exact ⟨.type "list", fun A Q E s k z => wpAny_typeOf_ref (k _ _ e) z, by simp [PySem.W.notFirst, hl]⟩
  obtain ⟨tb, ht, hn⟩ := ht
  have hr2 := hr.mono (Nat.le_of_ble_eq_true hkj)
  show wpAny (model X.prog X.w) X.A (richCompare .Eq (.ref a) (.ref b)) _ _ _
  refine PySem.W.cmp_K (op := .Eq) (tb := tb) hr2.units0 hF I.ok.mod.kin J ht hn hs hf ?_
  have hl := F.len _ _ _ _ q
  have b2 := hb s [.ref a, .ref b] I.kIn (by simpa using hl)
  rw [List.append_nil] at b2
  refine wpAny_call (codeAny_mono (F.run X.A X.stack s H ⟨[.ref a, .ref b], []⟩ [.ref a, .ref b] [.ref a, .ref b] _ _ hr2 I.env0 b2 (.cons rfl (.cons rfl .nil)) q) fun r s' z => ?_)
  match r, z with
  | .error e, z => exact hx pins σ H s e s' I z
  | .ok (.ret w), z =>
    obtain ⟨v2, H', I', rv, c, ec, q2⟩ := I.after z
    subst ec
    cases rv
    exact ⟨.bl c, H', I', rfl, q2⟩
  | .ok .next, z => exact False.elim z
  | .ok .brk, z => exact False.elim z
  | .ok .cont, z => exact False.elim z
end L2
local macro_rules | `(tactic| walk_at "w1") => `(tactic| first
  | ((with_reducible refine' L2.w_var ?h ?q); (case h => rfl))
  | with_reducible refine L2.w_c ?_ | with_reducible refine L2.w_cons ?_ | with_reducible refine L2.w_nil ?_
  | with_reducible refine L2.w_op ?_ | with_reducible refine L2.w_un ?_ | with_reducible refine L2.w_I0 ?_ | with_reducible refine L2.w_U ?_ | with_reducible refine L2.w_eqI ?_ | with_reducible refine L2.w_neI ?_
  | with_reducible refine L2.w_test ?_ | with_reducible refine L2.w_B ?_ | with_reducible refine L2.w_bl ?_ | with_reducible refine L2.w_t ?_ | with_reducible refine L2.w_f ?_
  | with_reducible refine L2.w_and ?_ | with_reducible refine L2.w_or ?_ | with_reducible refine L2.w_not ?_ | with_reducible refine L2.w_andV ?_ | with_reducible refine L2.w_orV ?_ | with_reducible refine L2.w_notV ?_
  | with_reducible refine L2.w_ifE ?_ | with_reducible refine L2.w_chain ?_ | with_reducible refine L2.w_isN ?_ | with_reducible refine L2.w_notN ?_
  | with_reducible refine L2.w_seq ?_ | with_reducible refine L2.w_asg ?_ | with_reducible refine L2.w_name ?_ | with_reducible refine L2.w_ret ?_ | with_reducible refine L2.w_retN ?_ | with_reducible refine L2.w_ifS ?_ | with_reducible refine L2.w_next ?_ | with_reducible refine L2.w_drop ?_
  | with_reducible refine L2.w_tup ?_ | with_reducible refine L2.w_lst ?_ | with_reducible refine L2.w_call ?_ | with_reducible refine L2.w_CB ?_
  | with_reducible refine L2.w_int1 ?_ | with_reducible refine L2.w_intb ?_ | with_reducible refine L2.w_abs ?_
  | ((with_reducible refine' L2.w_I ?h ?q); (case h => first | (show (0 : Int) < _; decide) | exact ⟨by decide, by decide⟩ | exact .inr ⟨by decide, by decide⟩ | exact .inl ⟨by decide, by decide⟩ | exact ⟨by decide, by decide, by decide⟩ | exact .inl ⟨by omega, by omega⟩))
  | with_reducible refine L2.w_for ?_ | with_reducible refine L2.w_rng1 ?_ | with_reducible refine L2.w_itL ?_ | with_reducible refine L2.w_itT ?_ | with_reducible refine L2.w_lc ?_ | with_reducible refine L2.w_yes ?_
  | with_reducible refine L2.w_nt ?_ | with_reducible refine L2.w_nf ?_ | with_reducible refine L2.w_fld ?_ | with_reducible refine L2.w_BM ?_ | with_reducible refine L2.w_sl ?_ | with_reducible refine L2.w_noPart ?_ | with_reducible refine L2.w_part ?_ | with_reducible refine L2.w_in ?_)
local macro_rules | `(tactic| walk_at "w") => `(tactic| repeat (walk_at "w1"))
/-! ## try with several clauses «except C as n», each with its own name's slot; and an isinstance of the held exception -/
namespace L2
open PySem PySem.Spec PyProof.Rows
/-- one clause: its class, the slot of its name, its suite's reading -/
structure ClA where
  c : Value
  i : Nat
  ts : Addr → Value → Option Addr → TS
/-- behind the suite the name is gone -/
def endsA (D : Ends) (i : Nat) : Ends := { nx := fun σ H => D.nx (σ.set i none) H, rt := D.rt, bk := fun σ H => D.bk (σ.set i none) H, ct := fun σ H => D.ct (σ.set i none) H }
def wManyA (K : PySem.W.Frag) (Wout : WX) (D : Ends) : List ClA → WX
  | [] => Wout
  | q :: r => fun cls d σ H => ∃ b, PySem.W.exmOne K cls q.c = some b ∧ (b = true → ∀ a, H a = none → q.ts a cls d (endsA D q.i) (σ.set q.i (some (.ref a))) H) ∧ (b = false → wManyA K Wout D r cls d σ H)
inductive HdsA (X : Cx) : List ExceptHandler → List ClA → Prop
  | nil : HdsA X [] []
  | cons {x n : Str} {q : ClA} {s0 : Stmt} {sr : List Stmt} {np hp : Pos} {hr : List ExceptHandler} {l : List ClA} (hi : X.N[q.i]? = some n) (hn : X.env.kindOf n = some .local) (hc : Names X x q.c)
      (hs : ∀ (a : Addr) (oe : Obj) (cls : Value) (d : Option Addr) (pn : List (Addr × Obj)), Zc cls d oe → (∃ vs, oe.data = .fields vs) → PSs (X.suite a ((a, oe) :: pn)) (s0 :: sr) (q.ts a cls d)) (r : HdsA X hr l) :
      HdsA X (.ExceptHandler (some (.Name x np)) (some n) (s0 :: sr) hp :: hr) (q :: l)
section
variable {X : Cx} {body : List Stmt} {h0 : ExceptHandler} {hr : List ExceptHandler} {l : List ClA} {pos : Pos} {tb : WX → TS} {Wout : WX}
/-- from the catch on: the clauses one by one -/
theorem manyA_go {pins : List (Addr × Obj)} {σ : St} {H : Hp} {a : Addr} {B h3 : Heap} {cls : Value} {d : Option Addr} {sI s' : Shared} {D : Ends} (hN : X.N.Nodup) (ok : X.Ok) (hS : X.stack = X.env :: X.outer) (hF : X.env.frame = some X.env.locals) (tk : Takes X Wout)
    (J : Inv X pins σ H sI) (nb : ∀ b o, sI.heap.get? b = some o → b ∉ frs X.stack → B.get? b = some o) (up : sI.heap.UpToSlots s'.heap) (up3 : s'.heap.UpToSlots h3) (na : H a = none) (os : s'.os = sI.os) (ag : AllBare s'.gens)
    (fl : HandSPX.FlyingZ B (X.env :: X.outer) a (Zc cls d) h3) (nL : a ≠ X.env.locals) (nF : a ∉ X.fs) :
    ∀ {hs : List ExceptHandler} {l : List ClA}, HdsA X hs l → wManyA X.K Wout D l cls d σ H → wpAny (model X.prog X.w) X.A (handleBy (.ref a) X.env hs) (SP X pins D) X.xe { s' with heap := h3 } := by
  have J3 : Inv X pins σ H { s' with heap := h3 } := J.landed nb fl.1 (up.trans up3) os ag
  intro hs l hk
  induction hk with
  | nil =>
    intro w
    refine wpAny_handleBy_nil ?_
    obtain ⟨_, _, _, oe, vs, T, oT, ts', he, hz, hd, h1, hr⟩ := id fl
    have up_ : wpAny (model X.prog X.w) X.A (setFlight (.ref a) X.env.frame) (fun _ s4 => wpAny (model X.prog X.w) X.A (throw (.ref a) : Sem Flow) (SP X pins D) X.xe s4) X.xe { s' with heap := h3 } := by
      rw [hF]
      refine HandSPX.setFlight_upZ fl fun h4 hh4 up4 => wpAny_throw (tk _ _ ⟨a, B, sI, pins, σ, H, cls, d, rfl, J, nb, (up.trans up3).trans up4, .inr (.inr ?_), na, os, ag, w⟩)
      rw [hS]
      exact hh4
    unfold PySem.passOn
    refine wpAny_bind (wpAny_field he hd h1 ?_)
    have nt : ¬ ((Value.ref T == Value.none) = true) := by simp
    rw [if_neg nt]
    first
      | exact wpAny_bind up_
      | exact wpAny_bind (wpAny_pure (wpAny_bind up_))
  | @cons x n q s0 sr np hp hr l hi hn hc hsu r ih =>
    intro w
    obtain ⟨b, hb, yes, no⟩ := w
    obtain ⟨oe3, vs3, he3, hz3, hd3⟩ := fl.there
    have S3 := J3.suite he3 hd3 na nL nF
    have LT : PySem.W.Looks (model X.prog X.w) h3 (typeOf (.ref a)) cls := fun A Q E s k z => wpAny_typeOf_ref (k _ _ he3) (by rw [hz3.1]; exact z)
    have LM := PySem.W.exm_one (M := model X.prog X.w) (J3.kIn) LT hb
    refine wpAny_handleBy_cons (codeAny_handlers_test ?_) (by intro z; cases z)
    have cl : ∀ {Q : Value → Shared → Prop} {E : Value → Shared → Prop}, Q q.c { s' with heap := h3 } → wpAny (model X.prog X.w) (X.A.mark (some (.ref a))) (eval (.Name x np) X.env) Q E { s' with heap := h3 } := fun {Q E} z => by
      obtain ⟨g1, g2, g3⟩ := hc
      rcases g3 with g3 | ⟨g3, g4, g5⟩
      · exact ld_glob (X := X.suite a ((a, oe3) :: (X.pn ++ pins))) S3 g1 g3 z g2
      · exact ld_blt (X := X.suite a ((a, oe3) :: (X.pn ++ pins))) S3 g1 g3 g4 z g5 g2
    refine cl (LM.here ?_)
    cases b with
    | false => exact ih (no rfl)
    | true =>
      refine codeAny_handlers_suite_as (HandSPX.lands_againZ fl fun h4 fl4 up4 => ?_)
      have J4 : Inv X pins σ H { s' with heap := h4 } := J.landed nb fl4.1 ((up.trans up3).trans up4) os ag
      obtain ⟨oe4, vs4, he4, hz4, hd4⟩ := fl4.there
      have S4 := J4.suite he4 hd4 na nL nF
      refine store_ok (X := X.suite a ((a, oe4) :: (X.pn ++ pins))) (v := .ref a) S4 hN hi (.inl hn) rfl (fun s5 S5 => ?_) (.inr hn)
      have gone : ∀ {σ6 : St} {H6 : Hp} {s6 : Shared} {Q : Shared → Prop}, Inv (X.suite a ((a, oe4) :: (X.pn ++ pins))) [] σ6 H6 s6 → (∀ s7, Inv X pins (σ6.set q.i none) H6 s7 → Q s7) →
          wpAny (model X.prog X.w) X.A (do bindName X.env n .none; unbindBehindTheSuite X.env n hp) (fun _ s7 => Q s7) X.xe s6 := fun {σ6 H6 s6 Q} S6 z => gone_ok (S6.unsuite ok) hN hi hn z
      refine wpAny_mono ((hsu a oe4 cls d (X.pn ++ pins) hz4 ⟨_, hd4⟩).run [] s5 _ H _ S5 (yes rfl a na)) (fun f s6 hsp => ?_) (fun _ _ z => z.elim)
      cases f with
      | ret u => obtain ⟨v6, σ6, H6, S6, r6, q6⟩ := hsp; exact gone S6 fun s7 J7 => ⟨_, _, _, J7, r6, q6⟩
      | next => obtain ⟨σ6, H6, S6, q6⟩ := hsp; exact gone S6 fun s7 J7 => ⟨_, _, J7, q6⟩
      | brk => obtain ⟨σ6, H6, S6, q6⟩ := hsp; exact gone S6 fun s7 J7 => ⟨_, _, J7, q6⟩
      | cont => obtain ⟨σ6, H6, S6, q6⟩ := hsp; exact gone S6 fun s7 J7 => ⟨_, _, J7, q6⟩
theorem ps_try_manyA (hS : X.stack = X.env :: X.outer) (hF : X.env.frame = some X.env.locals) (hN : X.N.Nodup) (tk : Takes X Wout)
    (hb : ∀ (W : WX) (pn : List (Addr × Obj)) (xe : Value → Shared → Prop), Takes (X.tr pn xe) W → PassesOwn (model X.prog X.w) X.A X.env xe → PSs (X.tr pn xe) body (tb W))
    (hh : HdsA X (h0 :: hr) l) : PS X (.Try body (h0 :: hr) [] [] pos) (fun D σ H => tb (wManyA X.K Wout D l) D σ H) := by
  refine ⟨fun pins s σ H D I h => ?_⟩
  have ok := I.ok
  have hfr : X.A.frames = some (X.env :: X.outer) := by rw [ok.frames, hS]
  let xe' : Value → Shared → Prop := fun e s1 => wpAny (model X.prog X.w) X.A (noteFrame e X.env) (fun _ s2 => wpAny (model X.prog X.w) X.A (setFlight e none) (fun _ s3 => wpAny (model X.prog X.w) X.A (handleBy e X.env (h0 :: hr)) (SP X pins D) X.xe s3) X.xe s2) X.xe s1
  have tk' : Takes (X.tr (X.pn ++ pins) xe') (wManyA X.K Wout D l) := fun u s' xx => by
    obtain ⟨a, B, sI, pins', σ', H', cls, d, rfl, J', nb, up, sky, na, os, ag, w⟩ := xx
    have J : Inv X pins σ' H' sI := J'.ofTry ok
    have sky' : Sky B (X.env :: X.outer) a (Zc cls d) X.env.locals s'.heap := by rw [← hS]; exact sky
    show wpAny (model X.prog X.w) X.A (noteFrame (.ref a) X.env) _ _ _
    refine Sky.land Zc.steady hfr hF sky' fun h3 fl3 up3 => ?_
    obtain ⟨oe3, vs3, he3, hz3, hd3⟩ := fl3.there
    have nfr : a ∉ frs (X.env :: X.outer) := fun hm => by
      obtain ⟨_, o', e', hnf⟩ := fl3.2.2.1.mem hm
      rw [he3] at e'
      cases e'
      exact hnf _ hd3
    refine manyA_go hN ok hS hF tk J nb up up3 na os ag fl3 (fun z => nfr ?_) (fun hm => nfr ?_) hh w
    · exact List.mem_filterMap.mpr ⟨X.env, List.mem_cons_self, by rw [hF, z]⟩
    · obtain ⟨e, he, z⟩ := List.mem_filterMap.mp hm
      exact List.mem_filterMap.mpr ⟨e, List.mem_cons_of_mem _ he, z⟩
  refine wpAny_Try_except (wpAny_mono ((hb _ (X.pn ++ pins) xe' tk' PassesOwn.looking).run [] s σ H D (I.toTry _) h) (fun f s1 hsp => ?_) (fun e s1 he => he))
  cases f with
  | next => obtain ⟨σ', H', J', q⟩ := hsp; exact wpAny_execs_nil ⟨σ', H', J'.ofTry ok, q⟩
  | ret u => obtain ⟨v, σ', H', J', r, q⟩ := hsp; exact ⟨v, σ', H', J'.ofTry ok, r, q⟩
  | brk => obtain ⟨σ', H', J', q⟩ := hsp; exact ⟨σ', H', J'.ofTry ok, q⟩
  | cont => obtain ⟨σ', H', J', q⟩ := hsp; exact ⟨σ', H', J'.ofTry ok, q⟩
end
/-- what is wished for may know how many slots there are -/
theorem Takes.len {X : Cx} {W : WX} (t : Takes X W) : Takes X (fun c d σ H => σ.length = X.N.length → W c d σ H) := fun u s' x => by
  obtain ⟨a, B, sI, pins, σ, H, cls, d, e, I, nb, up, sky, na, os, ag, w⟩ := x
  exact t u s' ⟨a, B, sI, pins, σ, H, cls, d, e, I, nb, up, sky, na, os, ag, w I.len⟩
/-- a block whose rules lean on a fact that the reading tells -/
theorem pss_fact {X : Cx} {ss : List Stmt} {p : Prop} {t : TS} (h : p → PSs X ss t) : PSs X ss (fun D σ H => p ∧ t D σ H) := ⟨fun pins s σ H D I q => (h q.1).run pins s σ H D I q.2⟩
end L2
namespace K52
open PySem L2
def top (i : Nat) : Stmt := PySem.Challenge.pw_unseenheap_k52_words_and_rooms_judged.main.body.getD i (.Pass ⟨0, 0, 0, 0⟩)
abbrev sBad : Stmt := inClass (top 2) 0
abbrev s_is_integer : Stmt := top 5
abbrev N_is_integer : List Str := ["thing"]
abbrev P_is_integer : List Str := ["thing"]
theorem sc_is_integer : FnScope N_is_integer P_is_integer (defScope s_is_integer) := ⟨rfl, rfl, rfl, by decide +kernel, rfl, by decide +kernel, by decide +kernel⟩
abbrev s_is_within : Stmt := top 6
abbrev N_is_within : List Str := ["thing", "least", "most"]
abbrev P_is_within : List Str := ["thing", "least", "most"]
theorem sc_is_within : FnScope N_is_within P_is_within (defScope s_is_within) := ⟨rfl, rfl, rfl, by decide +kernel, rfl, by decide +kernel, by decide +kernel⟩
abbrev s_raw_word : Stmt := top 17
abbrev N_raw_word : List Str := ["tag", "payload"]
abbrev P_raw_word : List Str := ["tag", "payload"]
theorem sc_raw_word : FnScope N_raw_word P_raw_word (defScope s_raw_word) := ⟨rfl, rfl, rfl, by decide +kernel, rfl, by decide +kernel, by decide +kernel⟩
abbrev s_raw_tag : Stmt := top 18
abbrev N_raw_tag : List Str := ["word"]
abbrev P_raw_tag : List Str := ["word"]
theorem sc_raw_tag : FnScope N_raw_tag P_raw_tag (defScope s_raw_tag) := ⟨rfl, rfl, rfl, by decide +kernel, rfl, by decide +kernel, by decide +kernel⟩
abbrev s_raw_payload : Stmt := top 19
abbrev N_raw_payload : List Str := ["word"]
abbrev P_raw_payload : List Str := ["word"]
theorem sc_raw_payload : FnScope N_raw_payload P_raw_payload (defScope s_raw_payload) := ⟨rfl, rfl, rfl, by decide +kernel, rfl, by decide +kernel, by decide +kernel⟩
abbrev s_is_payload : Stmt := top 20
abbrev N_is_payload : List Str := ["tag", "payload"]
abbrev P_is_payload : List Str := ["tag", "payload"]
theorem sc_is_payload : FnScope N_is_payload P_is_payload (defScope s_is_payload) := ⟨rfl, rfl, rfl, by decide +kernel, rfl, by decide +kernel, by decide +kernel⟩
abbrev s_is_raw_word : Stmt := top 21
abbrev N_is_raw_word : List Str := ["thing"]
abbrev P_is_raw_word : List Str := ["thing"]
theorem sc_is_raw_word : FnScope N_is_raw_word P_is_raw_word (defScope s_is_raw_word) := ⟨rfl, rfl, rfl, by decide +kernel, rfl, by decide +kernel, by decide +kernel⟩
abbrev s_word : Stmt := top 22
abbrev N_word : List Str := ["tag", "payload"]
abbrev P_word : List Str := ["tag", "payload"]
theorem sc_word : FnScope N_word P_word (defScope s_word) := ⟨rfl, rfl, rfl, by decide +kernel, rfl, by decide +kernel, by decide +kernel⟩
abbrev s_tag_of : Stmt := top 23
abbrev N_tag_of : List Str := ["word_told"]
abbrev P_tag_of : List Str := ["word_told"]
theorem sc_tag_of : FnScope N_tag_of P_tag_of (defScope s_tag_of) := ⟨rfl, rfl, rfl, by decide +kernel, rfl, by decide +kernel, by decide +kernel⟩
abbrev s_payload_of : Stmt := top 24
abbrev N_payload_of : List Str := ["word_told"]
abbrev P_payload_of : List Str := ["word_told"]
theorem sc_payload_of : FnScope N_payload_of P_payload_of (defScope s_payload_of) := ⟨rfl, rfl, rfl, by decide +kernel, rfl, by decide +kernel, by decide +kernel⟩
/-- what the top has written -/
structure Txt (K : PySem.W.Frag) (mg : Str → Option Value) : Prop where
  f_isinstance : mg "isinstance" = none
  f_int : mg "int" = none
  f_bool : mg "bool" = none
  f_len : mg "len" = none
  g_INTEGER : ∃ u, mg "INTEGER" = some (.int 1 u)
  g_FLAG : ∃ u, mg "FLAG" = some (.int 2 u)
  g_NIL : ∃ u, mg "NIL" = some (.int 3 u)
  g_FAULT : ∃ u, mg "FAULT" = some (.int 4 u)
  g_THING : ∃ u, mg "THING" = some (.int 0 u)
  g_THREAD : ∃ u, mg "THREAD" = some (.int 5 u)
  g_LEAST : ∃ u, mg "LEAST" = some (.int (-576460752303423488) u)
  g_GREATEST : ∃ u, mg "GREATEST" = some (.int 576460752303423487 u)
  g_FAULTS : mg "FAULTS" = some (.ref (He.ga K "FAULTS"))
  t_FAULTS : ∃ xs : List V, xs.length = 9 ∧ ∀ H, SqT K H (He.ga K "FAULTS") xs
  e_NoWord : ErrTxt K mg "NoWord" (He.ga K "NoWord")
/-! ### what is meant -/
def isInteger : V → Bool
  | .int _ => true
  | _ => false
def isWithin (v : V) (l m : Int) : Bool := match v with
  | .int i => decide (l ≤ i) && decide (i ≤ m)
  | _ => false
def isPay (t : Int) (p : V) : Bool :=
  if t = 1 then isWithin p (-576460752303423488) 576460752303423487 else if t = 2 then isWithin p 0 1 else if t = 3 then isWithin p 0 0 else if t = 4 then isWithin p 0 8
  else if t = 0 ∨ t = 5 then isWithin p 0 576460752303423487 else false
def isRaw (v : V) : Bool := match v with
  | .int i => isPay (i % 8) (.int (i / 8))
  | _ => false
def spInteger : Sp := fun vs H Q _ => ∃ v, vs = [v] ∧ Kn H v ∧ Q (.bl (isInteger v)) H
def spWithin : Sp := fun vs H Q _ => ∃ v l m, vs = [v, .int l, .int m] ∧ Kn H v ∧ Q (.bl (isWithin v l m)) H
def spPay : Sp := fun vs H Q _ => ∃ t v, vs = [.int t, v] ∧ Kn H v ∧ ∀ H', Same H H' → Q (.bl (isPay t v)) H'
def spRaw : Sp := fun vs H Q _ => ∃ v, vs = [v] ∧ Kn H v ∧ ∀ H', Same H H' → Q (.bl (isRaw v)) H'
def spI1 (f : Int → Int) : Sp := fun vs H Q _ => ∃ i, vs = [.int i] ∧ Q (.int (f i)) H
def spRawWord : Sp := fun vs H Q _ => ∃ t p, vs = [.int t, .int p] ∧ Q (.int (8 * p + t)) H
def wordOf (t p : V) : Option Int := match t, p with
  | .int t, .int p => if isWithin (.int t) 0 5 && isPay t (.int p) then some (8 * p + t) else none
  | _, _ => none
/-- f of an integer that is a word, NoWord else -/
def spTell (C : Addr) (f : Int → Int) : Sp := fun vs H Q E => ∃ v, vs = [v] ∧ Kn H v ∧ ∀ H', Same H H' → if isRaw v = true then (∀ i, v = .int i → Q (.int (f i)) H') else E (.ref C) none H'
def spWord (C : Addr) : Sp := fun vs H Q E => ∃ t p, vs = [t, p] ∧ Kn H t ∧ Kn H p ∧ ∀ H', Same H H' → match wordOf t p with
  | some n => Q (.int n) H'
  | none => E (.ref C) none H'
section
variable {P : Program} {w : World} {K : PySem.W.Frag} {mg : Str → Option Value} {base : Heap}
abbrev FnP (K : PySem.W.Frag) (x : Str) (st : Stmt) (f : Addr) (fd : FuncData) : Prop := FunD K x x (defArgs st) (defBody st) (defScope st) [] [] f fd
theorem int_cases (v : V) : (∃ i, v = .int i) ∨ isInteger v = false := by
  cases v with
  | int i => exact .inl ⟨i, rfl⟩
  | _ => exact .inr rfl
theorem within_no {v : V} (h : isInteger v = false) (l m : Int) : isWithin v l m = false := by
  cases v with
  | int i => cases h
  | _ => rfl
theorem wordOf_int {i p : Int} (h1 : isWithin (.int i) 0 5 = true) : wordOf (.int i) (.int p) = if isPay i (.int p) = true then some (8 * p + i) else none := by
  show (if (isWithin (.int i) 0 5 && isPay i (.int p)) = true then some (8 * p + i) else none) = if isPay i (.int p) = true then some (8 * p + i) else none
  rw [h1, Bool.true_and]
theorem wordOf_non {i : Int} {v : V} (h : isInteger v = false) : wordOf (.int i) v = none := by
  cases v with
  | int p => cases h
  | _ => rfl
theorem ok_is_integer (T : Txt K mg) {f : Addr} {fd : FuncData} (F : FnP K "is_integer" s_is_integer f fd) : FnOk P w K mg base CX0 1 f fd P_is_integer spInteger := by
  refine F.ok sc_is_integer (fun vs H Q E h => ?_) (fun cdv A outer s H vs Q E hr h => ?_)
  · obtain ⟨v, rfl, _⟩ := h
    rfl
  · obtain ⟨v, rfl, hv, q⟩ := h
    refine ⟨_, PSs.nox (pss_one (ps_ret (pe_and (pe_callB call_isi (by rfl) T.f_isinstance (by decide +kernel) (pa_cons (pv 0) (pa_cons (pe_bltn (v := .ty "int") (by rfl) T.f_int (by decide +kernel) rfl) pa_nil))) (pe_one (pe_not (pe_callB call_isi (by rfl) T.f_isinstance (by decide +kernel) (pa_cons (pv 0) (pa_cons (pe_bltn (v := .ty "bool") (by rfl) T.f_bool (by decide +kernel) rfl) pa_nil)))))))), ?_⟩
    walk_at "w"
    refine w_isInt hv ?_
    walk_at "w"
    refine w_2 (fun hc => ?_) (fun hc => ?_)
    · walk_at "w"
      refine w_isBool hv ?_
      walk_at "w"
      have e : isInteger v = !isBl v := by cases v <;> first | rfl | cases hc
      rw [← e]
      exact q
    · have e : isInteger v = false := by cases v <;> first | rfl | cases hc
      rw [← e]
      exact q
theorem ok_is_within {f : Addr} {fd : FuncData} (F : FnP K "is_within" s_is_within f fd) (D_is_integer : Cal P w K mg base CX0 1 "is_integer" P_is_integer spInteger) : FnOk P w K mg base CX0 2 f fd P_is_within spWithin := by
  refine F.ok sc_is_within (fun vs H Q E h => ?_) (fun cdv A outer s H vs Q E hr h => ?_)
  · obtain ⟨v, l, m, rfl, _⟩ := h
    rfl
  · obtain ⟨v, l, m, rfl, hv, q⟩ := h
    refine ⟨_, PSs.nox (pss_one (ps_ret (pe_and (pe_cal D_is_integer hr rfl rfl pass0 (pa_cons (pv 0) pa_nil)) (pe_one (pe_chain op_le op_le (pv 1) (pv 0) (pv 2)))))), ?_⟩
    walk_at "w"
    refine ⟨v, rfl, hv, ?_⟩
    refine w_bl ?_
    rcases int_cases v with ⟨i, rfl⟩ | hi
    · refine w_t ?_
      walk_at "w"
      refine w_2 (fun hc => ?_) (fun hc => ?_)
      · walk_at "w"
        have e : isWithin (.int i) l m = decide (i ≤ m) := by
          show (decide (l ≤ i) && decide (i ≤ m)) = decide (i ≤ m)
          rw [hc] <;> rfl
        rw [← e]
        exact q
      · have e : isWithin (.int i) l m = false := by
          show (decide (l ≤ i) && decide (i ≤ m)) = false
          rw [hc] <;> rfl
        rw [← e]
        exact q
    · rw [hi]
      walk_at "w"
      rw [← within_no hi l m]
      exact q
theorem ok_raw_word {f : Addr} {fd : FuncData} (F : FnP K "raw_word" s_raw_word f fd) : FnOk P w K mg base CX0 1 f fd P_raw_word spRawWord := by
  refine F.ok sc_raw_word (fun vs H Q E h => ?_) (fun cdv A outer s H vs Q E hr h => ?_)
  · obtain ⟨t, p, rfl, _⟩ := h
    rfl
  · obtain ⟨t, p, rfl, q⟩ := h
    refine ⟨_, PSs.nox (pss_one (ps_ret (pe_op op_add (pe_op op_mul pe_int (pv 1)) (pv 0)))), ?_⟩
    walk_at "w"
    exact q
theorem ok_raw_tag {f : Addr} {fd : FuncData} (F : FnP K "raw_tag" s_raw_tag f fd) : FnOk P w K mg base CX0 1 f fd P_raw_tag (spI1 fun i => i % 8) := by
  refine F.ok sc_raw_tag (fun vs H Q E h => ?_) (fun cdv A outer s H vs Q E hr h => ?_)
  · obtain ⟨t, rfl, _⟩ := h
    rfl
  · obtain ⟨t, rfl, q⟩ := h
    refine ⟨_, PSs.nox (pss_one (ps_ret (pe_op op_mod (pv 0) pe_int))), ?_⟩
    walk_at "w"
    exact q
theorem ok_raw_payload {f : Addr} {fd : FuncData} (F : FnP K "raw_payload" s_raw_payload f fd) : FnOk P w K mg base CX0 1 f fd P_raw_payload (spI1 fun i => i / 8) := by
  refine F.ok sc_raw_payload (fun vs H Q E h => ?_) (fun cdv A outer s H vs Q E hr h => ?_)
  · obtain ⟨t, rfl, _⟩ := h
    rfl
  · obtain ⟨t, rfl, q⟩ := h
    refine ⟨_, PSs.nox (pss_one (ps_ret (pe_op op_fdiv (pv 0) pe_int))), ?_⟩
    walk_at "w"
    exact q
theorem ok_is_payload (T : Txt K mg) {f : Addr} {fd : FuncData} (F : FnP K "is_payload" s_is_payload f fd) (D_is_within : Cal P w K mg base CX0 2 "is_within" P_is_within spWithin) : FnOk P w K mg base CX0 3 f fd P_is_payload spPay := by
  refine F.ok sc_is_payload (fun vs H Q E h => ?_) (fun cdv A outer s H vs Q E hr h => ?_)
  · obtain ⟨t, v, rfl, _⟩ := h
    rfl
  · obtain ⟨t, v, rfl, hv, q⟩ := h
    have q0 := q H (Same.refl H)
    refine ⟨_, PSs.nox (pss_cons (ps_if (pt_cmpR op_eq (pv 0) (pe_gi T.g_INTEGER) (nomark _)) (pss_one (ps_ret (pe_cal D_is_within hr rfl rfl pass0 (pa_cons (pv 1) (pa_cons (pe_gi T.g_LEAST) (pa_cons (pe_gi T.g_GREATEST) pa_nil)))))) pss_nil)
  (pss_cons (ps_if (pt_cmpR op_eq (pv 0) (pe_gi T.g_FLAG) (nomark _)) (pss_one (ps_ret (pe_cal D_is_within hr rfl rfl pass0 (pa_cons (pv 1) (pa_cons pe_int (pa_cons pe_int pa_nil)))))) pss_nil)
  (pss_cons (ps_if (pt_cmpR op_eq (pv 0) (pe_gi T.g_NIL) (nomark _)) (pss_one (ps_ret (pe_cal D_is_within hr rfl rfl pass0 (pa_cons (pv 1) (pa_cons pe_int (pa_cons pe_int pa_nil)))))) pss_nil)
  (pss_cons (ps_if (pt_cmpR op_eq (pv 0) (pe_gi T.g_FAULT) (nomark _)) (pss_one (ps_ret (pe_cal D_is_within hr rfl rfl pass0 (pa_cons (pv 1) (pa_cons pe_int (pa_cons (pe_op op_sub (pe_callB call_lenN (by rfl) T.f_len (by decide +kernel) (pa_cons (pe_gr T.g_FAULTS) pa_nil)) pe_int) pa_nil)))))) pss_nil)
  (pss_one (ps_ret (pe_and (pe_cmpR op_in_seq (pv 0) (pe_tup (pa_cons (pe_gi T.g_THING) (pa_cons (pe_gi T.g_THREAD) pa_nil))) (by rfl)) (pe_one (pe_cal D_is_within hr rfl rfl pass0 (pa_cons (pv 1) (pa_cons pe_int (pa_cons (pe_gi T.g_GREATEST) pa_nil)))))))))))), ?_⟩
    unfold isPay at q0
    walk_at "w"
    refine w_2 (fun h1 => ?_) (fun h1 => ?_)
    · walk_at "w"
      rw [if_pos (of_decide_eq_true h1)] at q0
      exact ⟨v, _, _, rfl, hv, q0⟩
    rw [if_neg (of_decide_eq_false h1)] at q0
    walk_at "w"
    refine w_2 (fun h2 => ?_) (fun h2 => ?_)
    · walk_at "w"
      rw [if_pos (of_decide_eq_true h2)] at q0
      exact ⟨v, _, _, rfl, hv, q0⟩
    rw [if_neg (of_decide_eq_false h2)] at q0
    walk_at "w"
    refine w_2 (fun h3 => ?_) (fun h3 => ?_)
    · walk_at "w"
      rw [if_pos (of_decide_eq_true h3)] at q0
      exact ⟨v, _, _, rfl, hv, q0⟩
    rw [if_neg (of_decide_eq_false h3)] at q0
    walk_at "w"
    refine w_2 (fun h4 => ?_) (fun h4 => ?_)
    · walk_at "w"
      obtain ⟨xs, hl, hx⟩ := T.t_FAULTS
      refine w_lenT (hx _) ?_
      walk_at "w"
      rw [if_pos (of_decide_eq_true h4)] at q0
      have e : ((xs.length : Int) - 1) = 8 := by rw [hl] <;> rfl
      rw [e]
      exact ⟨v, _, _, rfl, hv, q0⟩
    rw [if_neg (of_decide_eq_false h4)] at q0
    walk_at "w"
    refine ⟨by show 2 ≤ sizeLine; decide, fun p hp => ?_⟩
    refine ⟨p, _, rfl, .inr (SqT.of upd_same), rfl, rfl, ?_⟩
    walk_at "w"
    have q1 := q _ (sameUpd (o := .tup [V.int 0, V.int 5]) hp)
    unfold isPay at q1
    rw [if_neg (of_decide_eq_false h1), if_neg (of_decide_eq_false h2), if_neg (of_decide_eq_false h3), if_neg (of_decide_eq_false h4)] at q1
    have ei : inV (V.int t) [V.int 0, V.int 5] = decide (t = 0 ∨ t = 5) := by
      have e0 : ((0 : Int) == t) = decide (t = 0) := by rw [Bool.beq_eq_decide_eq]; exact decide_eq_decide.mpr eq_comm
      have e5 : ((5 : Int) == t) = decide (t = 5) := by rw [Bool.beq_eq_decide_eq]; exact decide_eq_decide.mpr eq_comm
      show (((0 : Int) == t) || (((5 : Int) == t) || false)) = decide (t = 0 ∨ t = 5)
      rw [e0, e5, Bool.or_false, Bool.decide_or]
    rw [ei]
    refine w_2 (fun h5 => ?_) (fun h5 => ?_)
    · walk_at "w"
      rw [if_pos (of_decide_eq_true h5)] at q1
      exact ⟨v, _, _, rfl, (sameUpd hp).kn hv, q1⟩
    · rw [if_neg (of_decide_eq_false h5)] at q1
      exact q1
theorem ok_is_raw_word {f : Addr} {fd : FuncData} (F : FnP K "is_raw_word" s_is_raw_word f fd) (D_is_integer : Cal P w K mg base CX0 1 "is_integer" P_is_integer spInteger)
    (D_is_payload : Cal P w K mg base CX0 3 "is_payload" P_is_payload spPay) : FnOk P w K mg base CX0 4 f fd P_is_raw_word spRaw := by
  refine F.ok sc_is_raw_word (fun vs H Q E h => ?_) (fun cdv A outer s H vs Q E hr h => ?_)
  · obtain ⟨v, rfl, _⟩ := h
    rfl
  · obtain ⟨v, rfl, hv, q⟩ := h
    refine ⟨_, PSs.nox (pss_one (ps_ret (pe_and (pe_cal D_is_integer hr rfl rfl pass0 (pa_cons (pv 0) pa_nil)) (pe_one (pe_cal D_is_payload hr rfl rfl pass0 (pa_cons (pe_op op_mod (pv 0) pe_int) (pa_cons (pe_op op_fdiv (pv 0) pe_int) pa_nil))))))), ?_⟩
    walk_at "w"
    refine ⟨v, rfl, hv, ?_⟩
    refine w_bl ?_
    rcases int_cases v with ⟨i, rfl⟩ | hi
    · refine w_t ?_
      walk_at "w"
      exact ⟨_, _, rfl, rfl, q⟩
    · rw [hi]
      walk_at "w"
      have e : isRaw v = false := by cases v <;> first | rfl | cases hi
      rw [← e]
      exact q H (Same.refl H)
theorem ok_word (T : Txt K mg) {f : Addr} {fd : FuncData} (F : FnP K "word" s_word f fd) (D_is_within : Cal P w K mg base CX0 2 "is_within" P_is_within spWithin)
    (D_is_payload : Cal P w K mg base CX0 3 "is_payload" P_is_payload spPay) (D_raw_word : Cal P w K mg base CX0 1 "raw_word" P_raw_word spRawWord) :
    FnOk P w K mg base (L2.CX P w) 4 f fd P_word (spWord (He.ga K "NoWord")) := by
  refine F.ok sc_word (fun vs H Q E h => ?_) (fun cdv A outer s H vs Q E hr h => ?_)
  · obtain ⟨t, v, rfl, _⟩ := h
    rfl
  · obtain ⟨t, v, rfl, ht, hv, q⟩ := h
    refine ⟨_, (pss_cons (ps_if (PW.pt (pw_or (pt_not (pt_val (pe_cal D_is_within hr rfl rfl pass0 (pa_cons (pv 0) (pa_cons pe_int (pa_cons (pe_gi T.g_THREAD) pa_nil)))))) (pw_or1 (pt_not (pt_val (pe_cal D_is_payload hr rfl rfl pass0 (pa_cons (pv 0) (pa_cons (pv 1) pa_nil)))))))) (pss_one (ps_raise0 rfl T.e_NoWord (takes_of rfl rfl rfl rfl))) pss_nil)
  (pss_one (ps_ret (pe_cal D_raw_word hr rfl rfl pass0 (pa_cons (pv 0) (pa_cons (pv 1) pa_nil)))))), ?_⟩
    walk_at "w"
    refine ⟨t, _, _, rfl, ht, ?_⟩
    walk_at "w"
    have q0 := q H (Same.refl H)
    cases h1 : isWithin t 0 5 with
    | false =>
      refine w_t ?_
      refine w_t ?_
      have e : wordOf t v = none := by
        unfold wordOf
        split
        · rw [h1] <;> rfl
        · rfl
      rw [e] at q0
      exact q0
    | true =>
      refine w_f ?_
      obtain ⟨i, rfl⟩ : ∃ i, t = .int i := by
        rcases int_cases t with h | h
        · exact h
        · rw [within_no h] at h1
          cases h1
      walk_at "w"
      refine ⟨i, v, rfl, hv, fun H' hs => ?_⟩
      walk_at "w"
      have q1 := q H' hs
      rcases int_cases v with ⟨p, rfl⟩ | hi
      · rw [wordOf_int h1] at q1
        cases h2 : isPay i (.int p) with
        | true =>
          rw [h2] at q1
          refine w_f ?_
          walk_at "w"
          exact ⟨i, p, rfl, q1⟩
        | false =>
          rw [h2] at q1
          refine w_t ?_
          exact q1
      · have h2 : isPay i v = false := by
          unfold isPay
          simp only [within_no hi, ite_self]
        rw [h2]
        rw [wordOf_non hi] at q1
        refine w_t ?_
        exact q1
theorem ok_tag_of (T : Txt K mg) {f : Addr} {fd : FuncData} (F : FnP K "tag_of" s_tag_of f fd) (D_is_raw_word : Cal P w K mg base CX0 4 "is_raw_word" P_is_raw_word spRaw)
    (D_raw_tag : Cal P w K mg base CX0 1 "raw_tag" P_raw_tag (spI1 fun i => i % 8)) : FnOk P w K mg base (L2.CX P w) 5 f fd P_tag_of (spTell (He.ga K "NoWord") fun i => i % 8) := by
  refine F.ok sc_tag_of (fun vs H Q E h => ?_) (fun cdv A outer s H vs Q E hr h => ?_)
  · obtain ⟨v, rfl, _⟩ := h
    rfl
  · obtain ⟨v, rfl, hv, q⟩ := h
    refine ⟨_, (pss_cons (ps_if (pt_not (pt_val (pe_cal D_is_raw_word hr rfl rfl pass0 (pa_cons (pv 0) pa_nil)))) (pss_one (ps_raise0 rfl T.e_NoWord (takes_of rfl rfl rfl rfl))) pss_nil)
  (pss_one (ps_ret (pe_cal D_raw_tag hr rfl rfl pass0 (pa_cons (pv 0) pa_nil))))), ?_⟩
    walk_at "w"
    refine ⟨v, rfl, hv, fun H' hs => ?_⟩
    walk_at "w"
    have q0 := q H' hs
    cases h1 : isRaw v with
    | false =>
      rw [h1] at q0
      refine w_t ?_
      exact q0
    | true =>
      rw [h1] at q0
      refine w_f ?_
      obtain ⟨i, rfl⟩ : ∃ i, v = .int i := by
        rcases int_cases v with h | h
        · exact h
        · have e : isRaw v = false := by cases v <;> first | rfl | cases h
          rw [e] at h1
          cases h1
      walk_at "w"
      exact ⟨i, rfl, q0 i rfl⟩
theorem ok_payload_of (T : Txt K mg) {f : Addr} {fd : FuncData} (F : FnP K "payload_of" s_payload_of f fd) (D_is_raw_word : Cal P w K mg base CX0 4 "is_raw_word" P_is_raw_word spRaw)
    (D_raw_payload : Cal P w K mg base CX0 1 "raw_payload" P_raw_payload (spI1 fun i => i / 8)) : FnOk P w K mg base (L2.CX P w) 5 f fd P_payload_of (spTell (He.ga K "NoWord") fun i => i / 8) := by
  refine F.ok sc_payload_of (fun vs H Q E h => ?_) (fun cdv A outer s H vs Q E hr h => ?_)
  · obtain ⟨v, rfl, _⟩ := h
    rfl
  · obtain ⟨v, rfl, hv, q⟩ := h
    refine ⟨_, (pss_cons (ps_if (pt_not (pt_val (pe_cal D_is_raw_word hr rfl rfl pass0 (pa_cons (pv 0) pa_nil)))) (pss_one (ps_raise0 rfl T.e_NoWord (takes_of rfl rfl rfl rfl))) pss_nil)
  (pss_one (ps_ret (pe_cal D_raw_payload hr rfl rfl pass0 (pa_cons (pv 0) pa_nil))))), ?_⟩
    walk_at "w"
    refine ⟨v, rfl, hv, fun H' hs => ?_⟩
    walk_at "w"
    have q0 := q H' hs
    cases h1 : isRaw v with
    | false =>
      rw [h1] at q0
      refine w_t ?_
      exact q0
    | true =>
      rw [h1] at q0
      refine w_f ?_
      obtain ⟨i, rfl⟩ : ∃ i, v = .int i := by
        rcases int_cases v with h | h
        · exact h
        · have e : isRaw v = false := by cases v <;> first | rfl | cases h
          rw [e] at h1
          cases h1
      walk_at "w"
      exact ⟨i, rfl, q0 i rfl⟩
end
end K52
namespace K52
open PySem L2
abbrev s_BadRoom_init : Stmt := inClass (top 2) 0
end K52
namespace PySem
namespace SupXBadRoom
open PySem.W PySem.Calls PyProof.Rows PySem.HandSPX L2
/-- what the written part says of BadRoom, at C, and of its __init__, at fI -/
structure SupTxt (prog : Program) (K : Frag) (mg : Str → Option Value) (C fI : Addr) : Prop where
  gC : mg "BadRoom" = some (.ref C)
  cls : ∃ nm q N bs bm sn sub ab col dd k0 k1 k2 k3 k5, K.lookup C = some (excClassObj nm q C N bs bm true sn sub ab col dd k0 k1 k2 k3 k5 "ValueError.__new__") ∧ refsVE bm = true
  sa : findIn K (.ref C) "__setattr__" = some (some (.builtin "object.__setattr__"))
  ga : findIn K (.ref C) "__getattribute__" = some (some (.builtin "BaseException.__getattribute__"))
  gg : findIn K (.ref C) "__getattr__" = some none
  noN : findIn K (.ref C) "part" = some none
  iC : findIn K (.ref C) "__init__" = some (some (.ref fI))
  tC : typeIn K (.ref fI) = some (.type "function")
  kC : keepIn K (.ref C) = true
  exC : subIn K (.ref C) (.type "BaseException") = some true
  veC : subIn K (.ref C) (.type "ValueError") = some true
  tyC : typeIn K (.ref C) = some (.type "type")
  hdC : hasDictIn K C = true
  te : exmOne K (.ref C) (.ref C) = some true
  sub : mroIn K C (.ref C) = some true
  sup : ks_superIn K C C "__init__" = some (some (.builtin "ValueError.__init__"))
  third : nsIn K cStatics "thirdparty.any" = some none
  mgS : mg "super" = none
  top : (prog.main.scope.names.lookup ("super" : Str)).isSome = false
  fn : ∃ (oc : Value) (od : Option Addr) (doc pm : Value) (an : Option Addr) (cda cc : Addr) (ct : Value) (osl : Array (Option Value)) (vs : Array Value) (file : Str) (tf : Tok) (ccl cl : Value) (cdd cld : Option Addr) (ccs csl : Array (Option Value)),
    K.lookup fI = some ⟨oc, od, .func (fnX "__init__" "BadRoom.__init__" (defArgs K52.s_BadRoom_init) (defBody K52.s_BadRoom_init) (defScope K52.s_BadRoom_init) [("__class__", cc)] .none .none doc pm an (.ref cda) ct), osl⟩ ∧ codeIn K (.ref cda) "BadRoom.__init__" = true ∧
    K.lookup cda = some ⟨ccl, cdd, .fields vs, ccs⟩ ∧ vs[2]? = some (.str file tf) ∧ ((prog.main.file : Str) == file) = true ∧ K.lookup cc = some ⟨cl, cld, .cell (some (.ref C)), csl⟩
theorem one_size (v : Value) : [v].length ≤ sizeLine := by
  rw [sizeLine_eq]
  exact (by decide : 1 ≤ 16777216)
/-- what __init__ leaves of a fresh exception at x -/
structure InitEnd (h h' : Heap) (x C dx : Addr) (v : Value) : Prop where
  keep : ∀ b o, b ≠ x → h.get? b = some o → h'.get? b = some o
  obj : ∃ t1, h'.get? x = some { cls := .ref C, dict := some dx, data := .fields #[.ref t1, .none, .none, .none, .bool false, .none] }
  dbig : h.objs.size ≤ dx
  dne : dx ≠ x
  ns : h'.Ns1 dx (fun y => if y = "part" then some v else none)
section
variable {prog : Program} {w : World} {A : Around} {E : Value → Shared → Prop} {R : Result → Shared → Prop} {s : Shared} {K : Frag} {mg mb : Str → Option Value} {C fI : Addr}
/-- the bound ValueError.__init__ called -/
theorem call_mw {h : Heap} {g : Array GenState} {d : Drawn} {t : Nat} {os : OsState} {u e t0 : Addr} {rest : List Value} {Q : Value → Shared → Prop} {nm q : Str} {N : Addr} {bs bm : List Value} {sn : List Str} {sub : List Value} {ab : Bool} {col : Option Bool} {dd : Option Addr} {k0 k1 k2 k3 k5 : Option Value}
    (hC : h.get? C = some (excClassObj nm q C N bs bm true sn sub ab col dd k0 k1 k2 k3 k5 "ValueError.__new__")) (he : h.get? e = some (excO C t0)) (hu : h.get? u = some (kxs_mw "ValueError.__init__" e)) (hrest : rest.length ≤ sizeLine)
    (hq : ∀ h' t1, (∀ b o, b ≠ e → h.get? b = some o → h'.get? b = some o) → h'.get? e = some (excO C t1) → Q .none ⟨h', g, d, t, os⟩) :
    wpAny (model prog w) A (call (.ref u) rest) Q E ⟨h, g, d, t, os⟩ := by
  refine wpAny_call (codeAny_of_tree ?_)
  show wpAny _ A.in1 (callAny (.ref u) ⟨rest, []⟩) _ _ _
  simp only [callAny]
  refine wpAny_bind (wpAny_load hu ?_)
  simp only [kxs_mw, show (Value.type "method-wrapper" == Value.type "method" || Value.type "method-wrapper" == Value.type "builtin_function_or_method" || Value.type "method-wrapper" == Value.type "method-wrapper") = true by decide, if_true]
  refine KFB.if_so (by decide) ?_
  refine wpAny_bind (check_bound_init F.excBase_ValueError.toExcCallFacts hC he rfl ?_)
  refine wpAny_bind (wpAny_pure (wpAny_pure ?_))
  refine ⟨plainId_quiet F.excBase_ValueError.init.plain _, codeAny_builtin F.excBase_ValueError.initEntry ?_⟩
  exact exc_init_tree (cls := .ref C) (t0 := t0) (dv := none) (c2 := .none) (c3 := .none) (b4 := .bool false) he hrest fun h' k e' _ => hq h' _ k e'
theorem sup_init (T : SupTxt prog K mg C fI) {x t0 : Addr} {v : Value} (X : K.In s.heap) (hlim : s.heap.NoLimit) (hG : s.heap.Ns mainGlobals mg) (hB : s.heap.Ns builtinsNs mb) (hbs : mb "super" = some (.type "super"))
    (hx : s.heap.get? x = some (excO C t0)) (hnx : K.lookup x = none) (hroom : A.depth < recursionLimit)
    (hq : ∀ h' tk dx, InitEnd s.heap h' x C dx v → R (.ok (.ret .none)) { s with heap := h', toks := tk }) :
    codeAny (model prog w) A (.call (.ref fI) ⟨[.ref x, v], []⟩) R s := by
  obtain ⟨oc, od, doc, pm, an, cda, cc, ct, osl, vs, file, tf, ccl, cl, cdd, cld, ccs, csl, ho, hcd, hcode, hvs, hfile, hcell⟩ := T.fn
  obtain ⟨nm, q, N, bs, bm, sn, sub, ab, col, dd, k0, k1, k2, k3, k5, hC, hbm⟩ := T.cls
  have hcl : clsIn K C = some { name := nm, bases := bs, mro := .ref C :: bm, ns := N, qualname := q, hasDict := true, slotNames := sn, subclasses := sub, abstract := ab, collection := col, hasDel := false } := by unfold clsIn; rw [hC] <;> rfl
  have hsup : alongIn K "__init__" (((Value.ref C :: bm).dropWhile (· != .ref C)).drop 1) = some (some (.builtin "ValueError.__init__")) := by
    have z := T.sup
    unfold ks_superIn at z
    rw [hcl] at z
    exact z
  refine ks_codeAny_call_defAt (binds := [("self", .ref x), ("part", v)]) hroom (X _ _ ho) rfl hlim (codeRec_of X hcd) rfl (BindsTo.of_eq (by first | rfl | with_unfolding_all rfl)) (show ∀ y ∈ (defScope K52.s_BadRoom_init).names, y.2 ≠ .cell from by decide +kernel) (locs (scope := defScope K52.s_BadRoom_init) (by first | rfl | kernel_rfl)) (fun h₁ hns k => ?_) rfl rfl rfl
  have X₁ : K.In h₁ := X.keeps k
  have hx₁ := k _ _ hx
  have hxL : s.heap.objs.size ≠ x := Nat.ne_of_gt (Heap.lt_size hx)
  have hCx : x ≠ C := fun z => by rw [z, hC] at hnx; cases hnx
  have G₁ : h₁.Ns mainGlobals mg := hG.keeps k
  have B₁ : h₁.Ns builtinsNs mb := hB.keeps k
  have I₁ : InstAt h₁ x (excO C t0) C none := ⟨hx₁, rfl, rfl, trivial⟩
  have hD2 : ({ cls := .type "type", dict := dd, data := .cls { name := nm, bases := bs, mro := .ref C :: bm, ns := N, qualname := q, hasDict := true, slotNames := sn, subclasses := sub, abstract := ab, collection := col, hasDel := false } } : Obj).data = .cls { name := nm, bases := bs, mro := .ref C :: bm, ns := N, qualname := q, hasDict := true, slotNames := sn, subclasses := sub, abstract := ab, collection := col, hasDel := false } := rfl
  have z₁ : s.heap.objs.size < h₁.objs.size := hns.lt
  obtain ⟨hp, g, d, tk, os⟩ := s
  -- super()
  refine ks_wpAt_execs_cons (ks_wpAt_Expr_any (ks_wpAt_MethodCall ?_))
  refine ks_wpAt_super_base (f := fI) (cc := cda) (by first | rfl | with_unfolding_all rfl | kernel_rfl) (by first | rfl | with_unfolding_all rfl | kernel_rfl) (by decide) rfl (X₁ _ _ ho) rfl rfl rfl (X₁ _ _ hcode) rfl hvs hfile T.top ?_
  refine ks_loadName_global rfl (by first | rfl | with_unfolding_all rfl | kernel_rfl) (loadGlobal_builtin G₁ T.mgS B₁ hbs ⟨rfl, ?_⟩)
  refine wpAny_loadName_free (c := cc) rfl (by first | rfl | with_unfolding_all rfl | kernel_rfl) (by first | rfl | with_unfolding_all rfl | kernel_rfl) ⟨_, X₁ _ _ hcell, rfl⟩ ?_
  refine wpAny_loadName_local (v := .ref x) rfl (by first | rfl | with_unfolding_all rfl | kernel_rfl) hns (by first | rfl | with_unfolding_all rfl | kernel_rfl) ?_
  have hD1 := X₁ _ _ hC
  refine ks_wpAny_isType_cls hD1 rfl ⟨rfl, ?_⟩
  refine ks_wpAny_call_super hD1 rfl hx₁ rfl (fun c e => by cases e) (looks_mroIn X₁ T.sub) (fun h2 e2 k2 => ?_)
  -- .__init__
  have X₂ : K.In h2 := X₁.keeps k2
  have I₂ : InstAt h2 x (excO C t0) C none := ⟨k2 _ _ hx₁, rfl, rfl, trivial⟩
  have hI : Looks (model prog w) h2 (isInstance (.ref x) (.type "ValueError")) true := I₂.type.andThen (looks_subIn X₂ T.veC)
  refine kxs_getMethod kxs_ValueError e2 (looks_opaque X₂ T.third) (l₀ := .ref C :: bm) (fun A Q E s k q => wpAny_bind ((looks_clsIn X₂ hcl) A _ E s k (wpAny_pure q))) rfl X₂ hsup hI hCx (by decide) ?_
  -- the call
  have hu : (h2.push (kxs_mw "ValueError.__init__" x)).get? h2.objs.size = some (kxs_mw "ValueError.__init__" x) := Heap.get?_push_size _ rfl
  have k3 : ∀ b o, h2.get? b = some o → (h2.push (kxs_mw "ValueError.__init__" x)).get? b = some o := fun b o e => Heap.get?_push_of_some _ e
  refine kxs_callWith (i := "ValueError.__init__") (x := x) rfl (evalArgs_plain (Calls.spliced_cons ?_))
  have hns3 : (h2.push (kxs_mw "ValueError.__init__" x)).Ns hp.objs.size (fun y => ([("self", Value.ref x), ("part", v)] : List (Str × Value)).reverse.lookup y) := (hns.keeps k2).keeps k3
  refine wpAny_Name (wpAny_loadName_local (v := v) rfl (by first | rfl | with_unfolding_all rfl | kernel_rfl) hns3 (by first | rfl | with_unfolding_all rfl | kernel_rfl) ?_)
  refine Calls.spliced_nil ⟨hu, ?_⟩
  refine call_mw (k3 _ _ (X₂ _ _ hC)) (k3 _ _ I₂.at_) hu (one_size v) (fun h4 t1 k4 hx4 => ?_)
  -- self.part = part
  have hns4 : h4.Ns hp.objs.size (fun y => ([("self", Value.ref x), ("part", v)] : List (Str × Value)).reverse.lookup y) := by
    obtain ⟨oL, es, ep, hL, r⟩ := hns3
    exact ⟨oL, es, ep, k4 _ _ hxL hL, r⟩
  have kx : ∀ b o, b ≠ x → hp.get? b = some o → h4.get? b = some o := fun b o hb e => k4 b o hb (k3 _ _ (k2 _ _ (k _ _ e)))
  have X₄ : K.In h4 := fun a o e => k4 a o (fun z => by rw [z, hnx] at e; cases e) (k3 _ _ (X₂ a o e))
  refine ks_wpAt_execs_cons (wpAt_of_wpAny (plainObj_wpAny_Assign_Attribute ?_))
  refine wpAny_Name (wpAny_loadName_local (v := v) rfl (by first | rfl | with_unfolding_all rfl | kernel_rfl) hns4 (by first | rfl | with_unfolding_all rfl | kernel_rfl) ?_)
  refine wpAny_Name (wpAny_loadName_local (v := .ref x) rfl (by first | rfl | with_unfolding_all rfl | kernel_rfl) hns4 (by first | rfl | with_unfolding_all rfl | kernel_rfl) ?_)
  refine set_plain X₄ (ox := excO C t1) (od := none) ⟨hx4, rfl, rfl, trivial⟩ T.sa ?_
  refine exc_osa X₄ hx4 hcl (show refsVE (.ref C :: bm) = true from hbm) rfl T.noN (fun h₅ tk₅ dx k₅ dn dne hx₅ hn₅ => ?_)
  have zL : hp.objs.size < h4.objs.size := hns4.lt
  exact wpAt_of_wpAny (wpAny_execs_nil (hq h₅ tk₅ dx ⟨fun b o hb e => k₅ b o hb (kx b o hb e), ⟨_, hx₅⟩, Nat.le_of_lt (Nat.lt_of_lt_of_le zL dn), dne, hn₅⟩))
/-- a made BadRoom -/
structure OwnMade (h h' : Heap) (e C d : Addr) (v : Value) : Prop where
  keep : ∀ b o, h.get? b = some o → h'.get? b = some o
  new : h.objs.size ≤ e
  obj : ∃ oe vs, h'.get? e = some oe ∧ oe.cls = .ref C ∧ oe.dict = some d ∧ oe.data = .fields vs ∧ vs[1]? = some .none
  dbig : h.objs.size ≤ d
  dne : d ≠ e
  ns : h'.Ns1 d (fun y => if y = "part" then some v else none)
theorem sup_made (T : SupTxt prog K mg C fI) {v : Value} (X : K.In s.heap) (hlim : s.heap.NoLimit) (hG : s.heap.Ns mainGlobals mg) (hB : s.heap.Ns builtinsNs mb) (hbs : mb "super" = some (.type "super")) (hroom : A.depth + 1 < recursionLimit)
    (hq : ∀ h' tk e d, OwnMade s.heap h' e C d v → R (.ok (.ret (.ref e))) { s with heap := h', toks := tk }) :
    codeAny (model prog w) A (.call (.ref C) ⟨[v], []⟩) R s := by
  obtain ⟨nm, q, N, bs, bm, sn, sub, ab, col, dd, k0, k1, k2, k3, k5, hC, hbm⟩ := T.cls
  obtain ⟨hp, g, dr, tk, os⟩ := s
  have k : ∀ b o, hp.get? b = some o → ((hp.push (kdv_tup [v])).push (excO C hp.objs.size)).get? b = some o := fun b o e => Heap.get?_push_of_some _ (Heap.get?_push_of_some _ e)
  have hget : ((hp.push (kdv_tup [v])).push (excO C hp.objs.size)).get? (hp.objs.size + 1) = some (excO C hp.objs.size) := by heap_get
  have hnx : K.lookup (hp.objs.size + 1) = none := by
    cases e : K.lookup (hp.objs.size + 1) with
    | none => rfl
    | some o =>
      have z : hp.get? (hp.objs.size + 1) = some o := X _ _ e
      exact absurd (Nat.lt_of_succ_lt (Heap.lt_size z)) (Nat.lt_irrefl _)
  refine call_own F.excBase_ValueError (fun X => refsVE_contains X bm hbm) (X _ _ hC) (looks_findIn X T.iC) (fun self => bind_fn X self T.tC) (one_size v) ?_
  refine sup_init (s := ⟨(hp.push (kdv_tup [v])).push (excO C hp.objs.size), g, dr, tk, os⟩) T (X.keeps k) (hlim.keeps k) (hG.keeps k) (hB.keeps k) hbs hget hnx ?_ fun h' tk' dx ⟨k', hx, dn, dne, hns⟩ => ?_
  · show A.depth + 1 < recursionLimit
    exact hroom
  · have old : ∀ b o, hp.get? b = some o → h'.get? b = some o := fun b o e => k' b o (Nat.ne_of_lt (Nat.lt_succ_of_lt (Heap.lt_size e))) (k b o e)
    have z : hp.objs.size + 1 + 1 ≤ dx := by
      first
        | (simpa only [Heap.size_push] using dn)
        | exact dn
        | (have q := dn; rw [Heap.size_push, Heap.size_push] at q; exact q)
    obtain ⟨t1, hx⟩ := hx
    exact ⟨rfl, hq h' tk' (hp.objs.size + 1) dx ⟨old, Nat.le_succ _, ⟨_, _, hx, rfl, rfl, rfl, rfl⟩, Nat.le_trans (Nat.le_trans (Nat.le_succ _) (Nat.le_succ _)) z, dne, hns⟩⟩
end
end SupXBadRoom
end PySem
namespace L2
open PySem PySem.Spec PyProof.Rows
section
variable {X : Cx} {C fI : Addr}
theorem relO_part {v : V} {v' : Value} (r : RelV v v') (f : Str) : RelO (List.lookup f [(("part" : Str), v)]) (if f = "part" then some v' else none) := by
  by_cases hw : f = "part"
  · subst hw
    rw [if_pos rfl]
    have q : List.lookup ("part" : Str) [(("part" : Str), v)] = some v := by simp [List.lookup]
    rw [q]
    exact r
  · rw [if_neg hw]
    have qw : (f == ("part" : Str)) = false := by simpa using hw
    have q2 : List.lookup f [(("part" : Str), v)] = none := by simp [List.lookup, qw]
    rw [q2]
    trivial
/-- BadRoom(e) -/
def tMkBadRoom (C : Addr) (ta : TA) : St → Hp → XK → Prop := fun σ H Q => ta σ H fun vs H1 => ∃ v, vs = [v] ∧ ∀ d, H1 d = none → Q (.ref C) (some d) (upd H1 d (.xd [(("part" : Str), v)]))
theorem pmk_BadRoom {a : Expr} {ta : TA} {p pos : Pos} {k : Nat} (T : PySem.SupXBadRoom.SupTxt X.prog X.K X.mg C fI) (hr : Room k X.A) (ha : PA X [a] ta) (hg : Gl X "BadRoom" := by rfl)
    (he : starEach (a :: []) X.env = (false, eval a X.env) :: starEach [] X.env := by rfl) (hpl : (backTo pos (starEach [] X.env)).any (·.1) = false := by rfl) :
    PMk X (.Call (.Name "BadRoom" p) [a] [] pos) (tMkBadRoom C ta) := by
  intro pins s σ H Q I h
  refine wpAny_Call_Name_kw (ld_glob I hg T.gC ?_)
  refine PySem.W.callWith_K (h₀ := X.base) I.ok.mod.kin T.kC (thn (ha.run pos pins s σ H _ I h) fun us s1 hh => ?_) he hpl
  obtain ⟨vs, H1, I1, r1, v, ev, q1⟩ := hh
  subst ev
  refine ⟨I1.kIn, ?_⟩
  cases r1 with
  | cons rv rn =>
    rename_i v' us'
    cases rn
    show wpAny _ _ (call (.ref C) [v']) _ _ _
    have hlim := I1.nolimit
    obtain ⟨mb, hB0, hmb⟩ := I1.mod.blt
    have hG := I1.mod.glob.keeps I1.bk
    have hB := hB0.keeps I1.bk
    have hbs : mb "super" = some (.type "super") := (hmb _ (by decide)).trans (by first | boot_by_name | rfl | kernel_rfl)
    obtain ⟨hp, g, dr, tk, os⟩ := s1
    refine wpAny_call (PySem.SupXBadRoom.sup_made T I1.kIn hlim hG hB hbs (by have := hr.dp; omega) fun h' tk' e d M => ?_)
    show MkP X pins σ Q (.ref e) ⟨h', g, dr, tk', os⟩
    obtain ⟨oe, fv, hoe, hc, hd, hdat, h1⟩ := M.obj
    have hns := M.ns
    obtain ⟨G', g1, g2⟩ := restrict h' fun b => decide (b ≠ e)
    have gk : ∀ b, b ≠ e → G'.get? b = h'.get? b := fun b hb => g1 b (decide_eq_true hb)
    have ge : G'.get? e = none := g2 e (by simp)
    have old : ∀ b o, hp.get? b = some o → G'.get? b = some o := fun b o q => (gk b (Nat.ne_of_lt (Nat.lt_of_lt_of_le (Heap.lt_size q) M.new))).trans (M.keep b o q)
    have ob : ObjOk X.prog X.w (upd H1 d (.xd [(("part" : Str), v)])) G' d (.xd [(("part" : Str), v)]) :=
      ⟨_, hns.at (fun o q => (gk d M.dne).trans q), fun f => relO_part rv f⟩
    have J : Inv X pins σ (upd H1 d (.xd [(("part" : Str), v)])) ⟨G', g, dr, tk', os⟩ := I1.laid (t' := tk') old M.dbig ob
    refine ⟨e, oe, fv, ⟨G', g, dr, tk', os⟩, _, .ref C, some d, rfl, J, fun b o q => ?_, ge, hoe, ⟨hc, hd⟩, hdat, h1, ?_, rfl, I1.bare, raises_own T.exC T.tyC, q1 d (I1.hok.fresh M.dbig)⟩
    · by_cases hb : b = e
      · have q' : G'.get? b = some o := q
        rw [hb, ge] at q'; cases q'
      · exact (gk b hb).symm.trans q
    · rw [upd_ne (Ne.symm M.dne)]
      exact I1.hok.fresh M.new
/-- raise BadRoom(e) -/
def tRaiseBadRoom (C : Addr) (W : WX) (ta : TA) : TS := fun _ σ H => tMkBadRoom C ta σ H fun cls d H' => W cls d σ H'
theorem ps_raiseBadRoom {a : Expr} {ta : TA} {W : WX} {p pos pos2 : Pos} {k : Nat} (hc : X.calm = true) (T : PySem.SupXBadRoom.SupTxt X.prog X.K X.mg C fI) (hr : Room k X.A) (tk : Takes X W) (ha : PA X [a] ta) (hg : Gl X "BadRoom" := by rfl)
    (he : starEach (a :: []) X.env = (false, eval a X.env) :: starEach [] X.env := by rfl) (hpl : (backTo pos (starEach [] X.env)).any (·.1) = false := by rfl) :
    PS X (.Raise (some (.Call (.Name "BadRoom" p) [a] [] pos)) none pos2) (tRaiseBadRoom C W ta) := ps_raise hc tk (pmk_BadRoom T hr ha hg he hpl)
/-- x.part, x the exception that the suite holds (at a; its class cls, its dict d) -/
def tByBadRoom (C : Addr) (a : Addr) (cls : Value) (d : Option Addr) (te : TE) : TE := fun σ H Q => te σ H fun x H1 => x = .ref a ∧ cls = .ref C ∧ ∃ (dd : Addr) (v : V), d = some dd ∧ H1 dd = some (.xd [(("part" : Str), v)]) ∧ Q v H1
theorem pe_byBadRoom {a : Addr} {oe : Obj} {cls : Value} {d : Option Addr} {pn : List (Addr × Obj)} {e : Expr} {te : TE} {pos : Pos} (T : PySem.SupXBadRoom.SupTxt X.prog X.K X.mg C fI) (hz : Zc cls d oe) (hf : ∃ vs, oe.data = .fields vs) (he : PE (X.suite a ((a, oe) :: pn)) e te)
    (hb : attributeBase e "part" X.env (eval e X.env) = eval e X.env := by rfl) :
    PE (X.suite a ((a, oe) :: pn)) (.Attribute e "part" pos) (tByBadRoom C a cls d te) := by
  refine ⟨fun pins s σ H Q I h => ?_⟩
  refine attr_of hb (thn (he.run pins s σ H _ I h) fun u s1 hh => ?_)
  obtain ⟨x, H1, I1, rx, ex, ec, dd, v, ed, ea, q⟩ := hh
  subst ex
  obtain rfl : u = Value.ref a := rx
  subst ec
  subst ed
  obtain ⟨ha, _⟩ := I1.pin (a, oe) (List.mem_append_left _ List.mem_cons_self)
  obtain ⟨vs, hd⟩ := hf
  have hx : ObjOk X.prog X.w H1 s1.heap dd (.xd [(("part" : Str), v)]) := I1.hok dd _ ea
  obtain ⟨mA, hns, hr⟩ := hx
  obtain ⟨od, ho, hl⟩ := lookIn_ns hns
  have l : List.lookup ("part" : Str) [(("part" : Str), v)] = some v := by simp [List.lookup]
  obtain ⟨u, hu, ru⟩ := RelO.some_of (v := v) (o := mA "part") (by rw [← l]; exact hr "part")
  have J : PySem.W.InstAt s1.heap a oe C (some od) := ⟨ha, hz.1, by unfold PySem.W.notCls; rw [hd] <;> rfl, by rw [hz.2]; exact ho⟩
  exact HandSPX.exc_get I1.kIn J T.ga T.gg T.exC (PySem.W.findObj_own T.hdC T.noN rfl (by rw [hl, hu])) (handed_of ru) ⟨v, H1, I1.tok _, ru, q⟩
end
end L2
namespace K52
open PySem L2
abbrev s_Room_init : Stmt := inClass (top 30) 0
abbrev N_Room_init : List Str := ["self", "young", "old", "pace"]
abbrev P_Room_init : List Str := ["self", "young", "old", "pace"]
theorem sc_Room_init : FnScope N_Room_init P_Room_init (defScope s_Room_init) := ⟨rfl, rfl, rfl, by decide +kernel, rfl, by decide +kernel, by decide +kernel⟩
abbrev s_Room_eq : Stmt := inClass (top 30) 1
abbrev N_Room_eq : List Str := ["self", "other"]
abbrev P_Room_eq : List Str := ["self", "other"]
theorem sc_Room_eq : FnScope N_Room_eq P_Room_eq (defScope s_Room_eq) := ⟨rfl, rfl, rfl, by decide +kernel, rfl, by decide +kernel, by decide +kernel⟩
structure Txr (P : Program) (K : PySem.W.Frag) (mg : Str → Option Value) : Prop extends Txt K mg where
  g_LEAST_YOUNG : ∃ u, mg "LEAST_YOUNG" = some (.int 8 u)
  g_MOST_YOUNG : ∃ u, mg "MOST_YOUNG" = some (.int 100000 u)
  g_MOST_OLD : ∃ u, mg "MOST_OLD" = some (.int 1000000 u)
  g_MOST_PACE : ∃ u, mg "MOST_PACE" = some (.int 1000 u)
  g_Room : mg "Room" = some (.ref (He.ga K "Room"))
  c_Room : Cls K (He.ga K "Room")
  nY : NoAttr K (He.ga K "Room") "young"
  nO : NoAttr K (He.ga K "Room") "old"
  nP : NoAttr K (He.ga K "Room") "pace"
  ha : PySem.W.findIn K (.ref (He.ga K "Room")) "__class__" = some (some (.builtin "object.__class__"))
  hn : PySem.W.specialIn K (.builtin "object.__class__") "__get__" = some (some (.builtin "getset_descriptor.__get__"))
  htk : PySem.W.takesIn K (.builtin "object.__class__") = some true
  hm : PySem.W.mroIn K (He.ga K "Room") (.type "object") = some true
  kRR : PySem.W.kitOne K (.ref (He.ga K "Room")) (.ref (He.ga K "Room")) = some true
  kLR : PySem.W.kitOne K (.type "list") (.ref (He.ga K "Room")) = some false
  e_BadRoom : PySem.SupXBadRoom.SupTxt P K mg (He.ga K "BadRoom") (He.ma K (He.ga K "BadRoom") "__init__")
/-- the first part that is wrong -/
def roomBad (y o c : V) : Option Str := match y with
  | .int i => if isWithin (.int i) 8 100000 = true then (if isWithin o i 1000000 = true then (if isWithin c 0 1000 = true then none else some "pace") else some "old") else some "young"
  | _ => some "young"
def rflds (y o c : V) : List (Str × V) := putF "pace" c (putF "old" o (putF "young" y []))
theorem rf_y (y o c : V) : (rflds y o c).lookup ("young" : Str) = some y := by
  unfold rflds
  rw [lookup_putF, if_neg (by decide +kernel), lookup_putF, if_neg (by decide +kernel), lookup_putF, if_pos rfl]
theorem rf_o (y o c : V) : (rflds y o c).lookup ("old" : Str) = some o := by
  unfold rflds
  rw [lookup_putF, if_neg (by decide +kernel), lookup_putF, if_pos rfl]
theorem rf_c (y o c : V) : (rflds y o c).lookup ("pace" : Str) = some c := by
  unfold rflds
  rw [lookup_putF, if_pos rfl]
theorem putF_le (f : Str) (v : V) : ∀ fs : List (Str × V), (putF f v fs).length ≤ fs.length + 1
  | [] => Nat.le_refl _
  | (g, x) :: r => by
    unfold putF
    split
    · exact Nat.le_succ _
    · exact Nat.succ_le_succ (putF_le f v r)
def spRoom (K : PySem.W.Frag) : Sp := fun vs H Q E => ∃ (p dx : Addr) (y o c : V), vs = [.ref p, y, o, c] ∧ H p = some (.ins (He.ga K "Room") dx []) ∧ Kn H y ∧ Kn H o ∧ Kn H c ∧ match roomBad y o c with
  | none => Q .non (upd H p (.ins (He.ga K "Room") dx (rflds y o c)))
  | some z => ∀ d, H d = none → E (.ref (He.ga K "BadRoom")) (some d) (upd H d (.xd [(("part" : Str), .str z)]))
def RoomAt (K : PySem.W.Frag) (H : Hp) (p : Addr) (y o c : Int) : Prop := ∃ dx, H p = some (.ins (He.ga K "Room") dx (rflds (.int y) (.int o) (.int c)))
def spRoomEq (K : PySem.W.Frag) : Sp := fun vs H Q _ => ∃ (p b : Addr) (y o c : Int), vs = [.ref p, .ref b] ∧ RoomAt K H p y o c ∧
  ((∃ y' o' c', RoomAt K H b y' o' c' ∧ ∀ H', Same H H' → Q (.bl (decide (y = y') && (decide (o = o') && decide (c = c')))) H') ∨ ((∃ xs, H b = some (.lst xs)) ∧ ∀ H', Same H H' → Q (.bl false) H'))
section
variable {P : Program} {w : World} {K : PySem.W.Frag} {mg : Str → Option Value} {base : Heap}
abbrev FnQ (K : PySem.W.Frag) (x q : Str) (st : Stmt) (f : Addr) (fd : FuncData) : Prop := FunD K x q (defArgs st) (defBody st) (defScope st) [] [] f fd
theorem ok_Room_init (T : Txr P K mg) {f : Addr} {fd : FuncData} (F : FnQ K "__init__" "Room.__init__" s_Room_init f fd) (D_is_within : Cal P w K mg base CX0 2 "is_within" P_is_within spWithin) :
    FnOk P w K mg base (L2.CX P w) 3 f fd P_Room_init (spRoom K) := by
  refine F.ok sc_Room_init (fun vs H Q E h => ?_) (fun cdv A outer s H vs Q E hr h => ?_)
  · obtain ⟨p, dx, y, o, c, rfl, _⟩ := h
    rfl
  · obtain ⟨p, dx, y, o, c, rfl, hp, hy, ho, hc, q⟩ := h
    refine ⟨_, (pss_cons (ps_if (pt_not (pt_val (pe_cal D_is_within hr rfl rfl pass0 (pa_cons (pv 1) (pa_cons (pe_gi T.g_LEAST_YOUNG) (pa_cons (pe_gi T.g_MOST_YOUNG) pa_nil)))))) (pss_one (ps_raiseBadRoom rfl T.e_BadRoom hr (takes_of rfl rfl rfl rfl) (pa_cons pe_str pa_nil))) pss_nil)
  (pss_cons (ps_if (pt_not (pt_val (pe_cal D_is_within hr rfl rfl pass0 (pa_cons (pv 2) (pa_cons (pv 1) (pa_cons (pe_gi T.g_MOST_OLD) pa_nil)))))) (pss_one (ps_raiseBadRoom rfl T.e_BadRoom hr (takes_of rfl rfl rfl rfl) (pa_cons pe_str pa_nil))) pss_nil)
  (pss_cons (ps_if (pt_not (pt_val (pe_cal D_is_within hr rfl rfl pass0 (pa_cons (pv 3) (pa_cons pe_int (pa_cons (pe_gi T.g_MOST_PACE) pa_nil)))))) (pss_one (ps_raiseBadRoom rfl T.e_BadRoom hr (takes_of rfl rfl rfl rfl) (pa_cons pe_str pa_nil))) pss_nil)
  (pss_cons (ps_fld (pv 0) (pv 1) rfl)
  (pss_cons (ps_fld (pv 0) (pv 2) rfl)
  (pss_one (ps_fld (pv 0) (pv 3) rfl))))))), ?_⟩
    walk_at "w"
    refine ⟨y, _, _, rfl, hy, ?_⟩
    walk_at "w"
    cases h1 : isWithin y 8 100000 with
    | false =>
      refine w_t ?_
      have e : roomBad y o c = some "young" := by
        cases y with
        | int i =>
          show (if isWithin (.int i) 8 100000 = true then _ else some ("young" : Str)) = _
          rw [h1] <;> rfl
        | _ => rfl
      rw [e] at q
      exact ⟨_, rfl, fun d hd => q d hd⟩
    | true =>
      refine w_f ?_
      obtain ⟨i, rfl⟩ : ∃ i, y = .int i := by
        rcases int_cases y with h | h
        · exact h
        · rw [within_no h] at h1
          cases h1
      have e1 : roomBad (.int i) o c = ((if isWithin o i 1000000 = true then (if isWithin c 0 1000 = true then none else some "pace") else some "old") : Option Str) := by
        show (if isWithin (.int i) 8 100000 = true then _ else some ("young" : Str)) = _
        rw [if_pos h1]
      rw [e1] at q
      walk_at "w"
      refine ⟨o, _, _, rfl, ho, ?_⟩
      walk_at "w"
      cases h2 : isWithin o i 1000000 with
      | false =>
        rw [h2] at q
        refine w_t ?_
        exact ⟨_, rfl, fun d hd => q d hd⟩
      | true =>
        rw [h2] at q
        refine w_f ?_
        walk_at "w"
        refine ⟨c, _, _, rfl, hc, ?_⟩
        walk_at "w"
        cases h3 : isWithin c 0 1000 with
        | false =>
          rw [h3] at q
          refine w_t ?_
          exact ⟨_, rfl, fun d hd => q d hd⟩
        | true =>
          rw [h3] at q
          refine w_f ?_
          walk_at "w"
          refine ⟨_, rfl, _, rfl, p, _, dx, _, rfl, hp, T.c_Room, T.nY, by decide, ?_⟩
          refine ⟨_, rfl, _, rfl, p, _, dx, _, rfl, upd_same, T.c_Room, T.nO, Nat.lt_of_le_of_lt (putF_le _ _ _) (by decide), ?_⟩
          refine ⟨_, rfl, _, rfl, p, _, dx, _, rfl, upd_same, T.c_Room, T.nP, Nat.lt_of_le_of_lt (Nat.le_trans (putF_le _ _ _) (Nat.succ_le_succ (putF_le _ _ _))) (by decide), ?_⟩
          rw [upd_upd, upd_upd]
          exact q
theorem ok_Room_eq (T : Txr P K mg) {f : Addr} {fd : FuncData} (F : FnQ K "__eq__" "Room.__eq__" s_Room_eq f fd) : FnOk P w K mg base CX0 2 f fd P_Room_eq (spRoomEq K) := by
  refine F.ok sc_Room_eq (fun vs H Q E h => ?_) (fun cdv A outer s H vs Q E hr h => ?_)
  · obtain ⟨p, b, y, o, c, rfl, _⟩ := h
    rfl
  · obtain ⟨p, b, y, o, c, rfl, ⟨dx, hp⟩, h⟩ := h
    have hu64 : (cxOf CX0 P w K mg base N_Room_eq "Room.__eq__" (defScope s_Room_eq) f cdv A outer s H E).nox.A.units + 64 < cLine := by
      have := hr.un
      show (A.deeper _).units + 64 < cLine
      omega
    refine ⟨_, PSs.nox (pss_cons (ps_if (pt_not (pt_val (pe_callB call_isi (by rfl) T.f_isinstance (by decide +kernel) (pa_cons (pv 1) (pa_cons (pe_gr T.g_Room) pa_nil))))) (pss_one (ps_ret pe_bl)) pss_nil)
  (pss_one (ps_ret (pe_cmpR (op_eqD hu64) (pe_tup (pa_cons (pe_fld (pv 0) rfl) (pa_cons (pe_fld (pv 0) rfl) (pa_cons (pe_fld (pv 0) rfl) pa_nil)))) (pe_tup (pa_cons (pe_fld (pv 1) rfl) (pa_cons (pe_fld (pv 1) rfl) (pa_cons (pe_fld (pv 1) rfl) pa_nil)))) (nomark _))))), ?_⟩
    walk_at "w"
    rcases h with ⟨y', o', c', ⟨dy, hb⟩, q⟩ | ⟨⟨xs, hb⟩, q⟩
    · refine ⟨_, _, _, _, true, rfl, .own _, .base (.ins hb T.c_Room T.ha T.hn T.htk T.hm), T.kRR, ?_⟩
      walk_at "w"
      refine ⟨_, _, dx, _, _, rfl, hp, T.c_Room, T.nY, rf_y _ _ _, ?_⟩
      walk_at "w"
      refine ⟨_, _, dx, _, _, rfl, hp, T.c_Room, T.nO, rf_o _ _ _, ?_⟩
      walk_at "w"
      refine ⟨_, _, dx, _, _, rfl, hp, T.c_Room, T.nP, rf_c _ _ _, ?_⟩
      walk_at "w"
      refine ⟨by show 3 ≤ sizeLine; decide, fun t ht => ?_⟩
      have s1 := sameUpd (o := .tup [V.int y, V.int o, V.int c]) ht
      have hb1 := s1 _ _ hb
      walk_at "w"
      refine ⟨_, _, dy, _, _, rfl, hb1, T.c_Room, T.nY, rf_y _ _ _, ?_⟩
      walk_at "w"
      refine ⟨_, _, dy, _, _, rfl, hb1, T.c_Room, T.nO, rf_o _ _ _, ?_⟩
      walk_at "w"
      refine ⟨_, _, dy, _, _, rfl, hb1, T.c_Room, T.nP, rf_c _ _ _, ?_⟩
      walk_at "w"
      refine ⟨by show 3 ≤ sizeLine; decide, fun u hu => ?_⟩
      have s2 := s1.trans (sameUpd (o := .tup [V.int y', V.int o', V.int c']) hu)
      refine ⟨.tuple [.int y, .int o, .int c], .tuple [.int y', .int o', .int c'], .tup (.of (xs := [.int y, .int o, .int c]) ?_) (.cons (.int _) (.cons (.int _) (.cons (.int _) .nil))), .tup (.of upd_same) (.cons (.int _) (.cons (.int _) (.cons (.int _) .nil))), rfl, rfl, ?_⟩
      · rw [upd_ne (ne_of_none upd_same hu)]
        exact upd_same
      · have e : PyData.eqv (.tuple [.int y, .int o, .int c]) (.tuple [.int y', .int o', .int c']) = (decide (y = y') && (decide (o = o') && decide (c = c'))) := by
          simp only [PyData.eqv, PyData.eqvAll, Bool.and_true, Bool.beq_eq_decide_eq]
        rw [e]
        exact q _ s2
    · refine ⟨_, _, _, _, false, rfl, .own _, .base (.lst hb), T.kLR, ?_⟩
      walk_at "w"
      exact q H (Same.refl H)
end
end K52
namespace K52
open PySem L2
abbrev s_law_bag : Stmt := top 32
abbrev N_law_bag : List Str := ["script", "seed", "cell", "great", "always"]
abbrev P_law_bag : List Str := ["script"]
theorem sc_law_bag : FnScope N_law_bag P_law_bag (defScope s_law_bag) := ⟨rfl, rfl, rfl, by decide +kernel, rfl, by decide +kernel, by decide +kernel⟩
abbrev s_law_pick : Stmt := top 33
abbrev N_law_pick : List Str := ["bag", "many", "great", "digit", "number"]
abbrev P_law_pick : List Str := ["bag", "many"]
theorem sc_law_pick : FnScope N_law_pick P_law_pick (defScope s_law_pick) := ⟨rfl, rfl, rfl, by decide +kernel, rfl, by decide +kernel, by decide +kernel⟩
abbrev s_law_some : Stmt := top 34
abbrev N_law_some : List Str := ["bag", "things"]
abbrev P_law_some : List Str := ["bag", "things"]
theorem sc_law_some : FnScope N_law_some P_law_some (defScope s_law_some) := ⟨rfl, rfl, rfl, by decide +kernel, rfl, by decide +kernel, by decide +kernel⟩
abbrev s_law_is : Stmt := top 35
abbrev N_law_is : List Str := ["found", "due"]
abbrev P_law_is : List Str := ["found", "due"]
theorem sc_law_is : FnScope N_law_is P_law_is (defScope s_law_is) := ⟨rfl, rfl, rfl, by decide +kernel, rfl, by decide +kernel, by decide +kernel⟩
abbrev s_law_deep : Stmt := top 36
abbrev N_law_deep : List Str := ["bag", "thing", "turn"]
abbrev P_law_deep : List Str := ["bag"]
theorem sc_law_deep : FnScope N_law_deep P_law_deep (defScope s_law_deep) := ⟨rfl, rfl, rfl, by decide +kernel, rfl, by decide +kernel, by decide +kernel⟩
abbrev s_law_int : Stmt := top 37
abbrev N_law_int : List Str := ["thing", "least", "most"]
abbrev P_law_int : List Str := ["thing", "least", "most"]
theorem sc_law_int : FnScope N_law_int P_law_int (defScope s_law_int) := ⟨rfl, rfl, rfl, by decide +kernel, rfl, by decide +kernel, by decide +kernel⟩
abbrev s_law_is_payload : Stmt := top 38
abbrev N_law_is_payload : List Str := ["tag", "payload"]
abbrev P_law_is_payload : List Str := ["tag", "payload"]
theorem sc_law_is_payload : FnScope N_law_is_payload P_law_is_payload (defScope s_law_is_payload) := ⟨rfl, rfl, rfl, by decide +kernel, rfl, by decide +kernel, by decide +kernel⟩
structure Txl (P : Program) (K : PySem.W.Frag) (mg : Str → Option Value) : Prop extends Txr P K mg where
  f_abs : mg "abs" = none
  f_sum : mg "sum" = none
  f_range : mg "range" = none
  f_repr : mg "repr" = none
/-- the bag at b, its great cells at g -/
structure BagAt (H : Hp) (b g : Addr) : Prop where
  ne : b ≠ g
  ob : ∃ (s c : Int) (v : V), H b = some (.lst [.int s, .int c, .ref g, v]) ∧ (v = .non ∨ ∃ i, v = .int i)
  gr : ∃ gs : List Int, H g = some (.lst (gs.map V.int))
/-- all but the bag is kept -/
def KeepB (b g : Addr) (H H' : Hp) : Prop := ∀ a o, a ≠ b → a ≠ g → H a = some o → H' a = some o
theorem KeepB.refl {b g : Addr} {H : Hp} : KeepB b g H H := fun _ _ _ _ h => h
theorem KeepB.trans {b g : Addr} {H H1 H2 : Hp} (x : KeepB b g H H1) (y : KeepB b g H1 H2) : KeepB b g H H2 := fun a o h1 h2 h => y a o h1 h2 (x a o h1 h2 h)
theorem KeepB.same {b g : Addr} {H H' : Hp} (s : Same H H') : KeepB b g H H' := fun a o _ _ h => s a o h
theorem BagAt.same {b g : Addr} {H H' : Hp} (B : BagAt H b g) (s : Same H H') : BagAt H' b g := by
  obtain ⟨n, ⟨x, c, v, h1, h2⟩, gs, h3⟩ := B
  exact ⟨n, ⟨x, c, v, s _ _ h1, h2⟩, gs, s _ _ h3⟩
theorem BagAt.free {b g p : Addr} {H : Hp} (B : BagAt H b g) (h : H p = none) : p ≠ b ∧ p ≠ g := by
  obtain ⟨n, ⟨x, c, v, h1, h2⟩, gs, h3⟩ := B
  exact ⟨(ne_of_none h1 h).symm, (ne_of_none h3 h).symm⟩
def spPick : Sp := fun vs H Q _ => ∃ (b g : Addr) (m : Int), vs = [.ref b, .int m] ∧ BagAt H b g ∧ 0 < m ∧ m < 1073741824 ∧ ∀ d H', 0 ≤ d → d < m → BagAt H' b g → KeepB b g H H' → Q (.int d) H'
def spSome : Sp := fun vs H Q _ => ∃ (b g t : Addr) (xs : List V), vs = [.ref b, .ref t] ∧ BagAt H b g ∧ t ≠ b ∧ t ≠ g ∧ H t = some (.lst xs) ∧ xs ≠ [] ∧ xs.length < 1000 ∧ ∀ v H', v ∈ xs → BagAt H' b g → KeepB b g H H' → Q v H'
def spDeep : Sp := fun vs H Q _ => ∃ (b g : Addr), vs = [.ref b] ∧ BagAt H b g ∧ ∀ v H', Kn H' v → BagAt H' b g → KeepB b g H H' → Q v H'
def spBag (K : PySem.W.Frag) : Sp := fun vs H Q _ => ∃ (a : Addr) (ns : List Int), vs = [.ref a] ∧ SqL K H a (ns.map V.int) ∧ ns.length ≤ 63 ∧ ∀ b g H', Same H H' → BagAt H' b g → Q (.ref b) H'
def spIs (K : PySem.W.Frag) : Sp := fun vs H Q _ => ∃ (a b : Addr) (d : PyData), vs = [.ref a, .ref b] ∧ Dp K H (.ref a) d ∧ Dp K H (.ref b) d ∧ SeqAt.shaped d = true ∧ d.showable = true ∧ d.hasDict = false ∧ d.depth ≤ 60 ∧ d.shown.length ≤ sizeLine ∧ Q (.bl true) H
def spLawPay : Sp := fun vs H Q _ => ∃ t p, vs = [t, p] ∧ Kn H t ∧ Kn H p ∧ ∀ H', Same H H' → Q (.bl (wordOf t p).isSome) H'
section
variable {P : Program} {w : World} {K : PySem.W.Frag} {mg : Str → Option Value} {base : Heap}
theorem ok_law_pick (T : Txl P K mg) {f : Addr} {fd : FuncData} (F : FnP K "_law_pick" s_law_pick f fd) : FnOk P w K mg base CX0 1 f fd P_law_pick spPick := by
  refine F.ok sc_law_pick (fun vs H Q E h => ?_) (fun cdv A outer s H vs Q E hr h => ?_)
  · obtain ⟨b, g, m, rfl, _⟩ := h
    rfl
  · obtain ⟨b, g, m, rfl, ⟨hne, ⟨x, c, v, hb, hv⟩, gs, hg⟩, m0, m1, q⟩ := h
    refine ⟨_, PSs.nox (pss_cons (ps_if (pt_cmp (pc_notN (pe_ix ix_list (pv 0) pe_int (fun _ _ => rfl))) rfl) (pss_one (ps_ret (pe_op op_mod (pe_callTy call_int1N (by rfl) T.f_int (by decide +kernel) (pa_cons (pe_ix ix_list (pv 0) pe_int (fun _ _ => rfl)) pa_nil)) (pv 1)))) pss_nil)
  (pss_cons (ps_asg (pe_op op_add (pe_ix ix_list (pv 0) pe_int (fun _ _ => rfl)) pe_int) (pg_sub (pv 0) pe_int set_list))
  (pss_cons (ps_set (i := 2) sc_law_pick.nd rfl (Or.inl rfl) (pe_ix ix_list (pv 0) pe_int (fun _ _ => rfl)))
  (pss_cons (ps_if (pt_cmpR op_gt (pe_callB call_lenN (by rfl) T.f_len (by decide +kernel) (pa_cons (pv 2) pa_nil)) pe_int (nomark _)) (pss_cons (ps_set (i := 3) sc_law_pick.nd rfl (Or.inl rfl) (pe_op op_mod (pe_callTy call_int1N (by rfl) T.f_int (by decide +kernel) (pa_cons (pe_ix ix_list (pv 2) pe_int (fun _ _ => rfl)) pa_nil)) (pv 1)))
  (pss_cons (ps_asg (pe_op op_fdiv (pe_callTy call_int1N (by rfl) T.f_int (by decide +kernel) (pa_cons (pe_ix ix_list (pv 2) pe_int (fun _ _ => rfl)) pa_nil)) (pv 1)) (pg_sub (pv 2) pe_int set_list))
  (pss_cons (ps_if (pt_cmpR op_eq (pe_ix ix_list (pv 2) pe_int (fun _ _ => rfl)) pe_int (nomark _)) (pss_one (ps_expr (pe_bm PySem.F.plainAttrs_list PySem.F.slot_list_pop PySem.F.type_list_pop mt_popAt (pv 2) (pa_cons pe_int pa_nil)))) pss_nil)
  (pss_one (ps_ret (pv 3)))))) pss_nil)
  (pss_cons (ps_set (i := 4) sc_law_pick.nd rfl (Or.inl rfl) (pe_op op_mod (pe_callTy call_int1N (by rfl) T.f_int (by decide +kernel) (pa_cons (pe_op op_mul (pe_op op_add (pe_ix ix_list (pv 0) pe_int (fun _ _ => rfl)) (pe_op op_mul pe_int (pe_ix ix_list (pv 0) pe_int (fun _ _ => rfl)))) pe_int) pa_nil)) pe_int))
  (pss_cons (ps_set (i := 4) sc_law_pick.nd rfl (Or.inl rfl) (pe_op op_mod (pe_callTy call_int1N (by rfl) T.f_int (by decide +kernel) (pa_cons (pe_op op_mul (pv 4) (pe_op op_add (pe_op op_fdiv (pv 4) pe_int) pe_int)) pa_nil)) pe_int))
  (pss_cons (ps_set (i := 4) sc_law_pick.nd rfl (Or.inl rfl) (pe_op op_mod (pe_callTy call_int1N (by rfl) T.f_int (by decide +kernel) (pa_cons (pe_op op_mul (pv 4) (pe_op op_add (pe_op op_fdiv (pv 4) pe_int) pe_int)) pa_nil)) pe_int))
  (pss_one (ps_ret (pe_op op_mod (pe_callTy call_int1N (by rfl) T.f_int (by decide +kernel) (pa_cons (pe_op op_fdiv (pv 4) pe_int) pa_nil)) (pv 1))))))))))), ?_⟩
    walk_at "w"
    refine w_ixL (.of hb) (atI_nat (j := 3) rfl) ?_
    walk_at "w"
    rcases hv with rfl | ⟨i, rfl⟩
    · refine w_f ?_
      walk_at "w"
      refine w_ixL (.of hb) (atI_nat (j := 1) rfl) ?_
      walk_at "w"
      -- bag[1] = bag[1] + 1
      refine ⟨_, rfl, b, _, 1, 1, rfl, rfl, hb, rfl, ?_⟩
      have hb1 : (upd H b (.lst ([V.int x, V.int c, V.ref g, V.non].set 1 (V.int (c + 1))))) b = some (.lst [V.int x, V.int (c + 1), V.ref g, V.non]) := upd_same
      have hg1 : (upd H b (.lst ([V.int x, V.int c, V.ref g, V.non].set 1 (V.int (c + 1))))) g = some (.lst (gs.map V.int)) := by
        rw [upd_ne hne.symm]
        exact hg
      have k1 : KeepB b g H (upd H b (.lst ([V.int x, V.int c, V.ref g, V.non].set 1 (V.int (c + 1))))) := fun a o h1 _ h3 => by
        rw [upd_ne h1]
        exact h3
      generalize upd H b (.lst ([V.int x, V.int c, V.ref g, V.non].set 1 (V.int (c + 1)))) = H1 at hb1 hg1 k1 ⊢
      walk_at "w"
      refine w_ixL (.of hb1) (atI_nat (j := 2) rfl) ?_
      walk_at "w"
      refine w_lenL (.of hg1) ?_
      walk_at "w"
      have hl : (gs.map V.int).length = gs.length := List.length_map ..
      rw [hl]
      refine w_2 (fun h1 => ?_) (fun h1 => ?_)
      · -- digit by digit
        have hpos : (0 : Int) < gs.length := of_decide_eq_true h1
        obtain ⟨z, r, rfl⟩ : ∃ z r, gs = z :: r := by
          cases gs with
          | nil => exact absurd hpos (by decide)
          | cons z r => exact ⟨z, r, rfl⟩
        walk_at "w"
        refine w_ixL (.of hg1) (atI_nat (j := 0) rfl) ?_
        walk_at "w"
        refine w_I m0 ?_
        walk_at "w"
        refine w_ixL (.of hg1) (atI_nat (j := 0) rfl) ?_
        walk_at "w"
        refine w_I ⟨m0, m1⟩ ?_
        refine ⟨_, rfl, g, _, 0, 0, rfl, rfl, hg1, (by simp [ixN]), ?_⟩
        have hg2 : (upd H1 g (.lst (((z :: r).map V.int).set 0 (V.int (z / m))))) g = some (.lst (((z / m) :: r).map V.int)) := upd_same
        have hb2 : (upd H1 g (.lst (((z :: r).map V.int).set 0 (V.int (z / m))))) b = some (.lst [V.int x, V.int (c + 1), V.ref g, V.non]) := by
          rw [upd_ne hne]
          exact hb1
        have k2 : KeepB b g H (upd H1 g (.lst (((z :: r).map V.int).set 0 (V.int (z / m))))) := k1.trans fun a o _ h2 h3 => by
          rw [upd_ne h2]
          exact h3
        generalize upd H1 g (.lst (((z :: r).map V.int).set 0 (V.int (z / m)))) = H2 at hb2 hg2 k2 ⊢
        walk_at "w"
        refine w_ixL (.of hg2) (atI_nat (j := 0) rfl) ?_
        walk_at "w"
        refine w_2 (fun h2 => ?_) (fun h2 => ?_)
        · walk_at "w"
          refine ⟨.inl ⟨rfl, _, .of hg2⟩, ?_⟩
          walk_at "w"
          refine ⟨g, _, 0, 0, _, rfl, rfl, hg2, by decide, by decide, seqIndex_of (by decide) (by simp), rfl, ?_⟩
          walk_at "w"
          refine q _ _ (Int.emod_nonneg _ (by omega)) (Int.emod_lt_of_pos _ m0) ⟨hne, ⟨x, c + 1, .non, ?_, .inl rfl⟩, r, upd_same⟩ (k2.trans fun a o _ h4 h5 => ?_)
          · rw [upd_ne hne]
            exact hb2
          · rw [upd_ne h4]
            exact h5
        · walk_at "w"
          exact q _ _ (Int.emod_nonneg _ (by omega)) (Int.emod_lt_of_pos _ m0) ⟨hne, ⟨x, c + 1, .non, hb2, .inl rfl⟩, _, hg2⟩ k2
      · walk_at "w"
        refine w_ixL (.of hb1) (atI_nat (j := 0) rfl) ?_
        walk_at "w"
        refine w_ixL (.of hb1) (atI_nat (j := 1) rfl) ?_
        walk_at "w"
        refine w_I m0 ?_
        exact q _ _ (Int.emod_nonneg _ (by omega)) (Int.emod_lt_of_pos _ m0) ⟨hne, ⟨x, c + 1, .non, hb1, .inl rfl⟩, _, hg1⟩ k1
    · refine w_t ?_
      walk_at "w"
      refine w_ixL (.of hb) (atI_nat (j := 3) rfl) ?_
      walk_at "w"
      refine w_I m0 ?_
      exact q _ H (Int.emod_nonneg _ (by omega)) (Int.emod_lt_of_pos _ m0) ⟨hne, ⟨x, c, _, hb, .inr ⟨i, rfl⟩⟩, gs, hg⟩ .refl
theorem ok_law_some (T : Txl P K mg) {f : Addr} {fd : FuncData} (F : FnP K "_law_some" s_law_some f fd) (D_law_pick : Cal P w K mg base CX0 1 "_law_pick" P_law_pick spPick) : FnOk P w K mg base CX0 2 f fd P_law_some spSome := by
  refine F.ok sc_law_some (fun vs H Q E h => ?_) (fun cdv A outer s H vs Q E hr h => ?_)
  · obtain ⟨b, g, t, xs, rfl, _⟩ := h
    rfl
  · obtain ⟨b, g, t, xs, rfl, B, tb, tg, ht, hne, hl, q⟩ := h
    refine ⟨_, PSs.nox (pss_one (ps_ret (pe_ix ix_list (pv 1) (pe_cal D_law_pick hr rfl rfl pass0 (pa_cons (pv 0) (pa_cons (pe_callB call_lenN (by rfl) T.f_len (by decide +kernel) (pa_cons (pv 1) pa_nil)) pa_nil))) (fun _ _ => rfl)))), ?_⟩
    walk_at "w"
    refine w_lenL (.of ht) ?_
    walk_at "w"
    have hp : 0 < xs.length := List.length_pos_iff.mpr hne
    refine ⟨b, g, _, rfl, B, by omega, by omega, fun d H' d0 d1 B' k' => ?_⟩
    have hd : d.toNat < xs.length := by omega
    have e : ((d.toNat : Nat) : Int) = d := Int.toNat_of_nonneg d0
    refine w_ixL (.of (k' _ _ tb tg ht)) (v := xs[d.toNat]) ?_ ?_
    · have z := atI_nat (xs := xs) (j := d.toNat) (v := xs[d.toNat]) (by simp [hd])
      rw [e] at z
      exact z
    · exact q _ _ (List.getElem_mem hd) B' k'
theorem isBl_of : ∀ {v : V}, intLike v = true → isInteger v = false → isBl v = true
  | .bl _, _, _ => rfl
  | .int _, _, h => nomatch (show true = false from h)
  | .non, h, _ => nomatch (show false = true from h)
  | .str _, h, _ => nomatch (show false = true from h)
  | .byt _, h, _ => nomatch (show false = true from h)
  | .flt _, h, _ => nomatch (show false = true from h)
  | .ref _, h, _ => nomatch (show false = true from h)
  | .ty _, h, _ => nomatch (show false = true from h)
theorem ok_law_int (T : Txl P K mg) {f : Addr} {fd : FuncData} (F : FnP K "_law_int" s_law_int f fd) : FnOk P w K mg base CX0 1 f fd P_law_int spWithin := by
  refine F.ok sc_law_int (fun vs H Q E h => ?_) (fun cdv A outer s H vs Q E hr h => ?_)
  · obtain ⟨v, l, m, rfl, _⟩ := h
    rfl
  · obtain ⟨v, l, m, rfl, hv, q⟩ := h
    refine ⟨_, PSs.nox (pss_one (ps_ret (pe_and (pe_callB call_isi (by rfl) T.f_isinstance (by decide +kernel) (pa_cons (pv 0) (pa_cons (pe_bltn (v := .ty "int") (by rfl) T.f_int (by decide +kernel) rfl) pa_nil))) (pe_and (pe_not (pe_callB call_isi (by rfl) T.f_isinstance (by decide +kernel) (pa_cons (pv 0) (pa_cons (pe_bltn (v := .ty "bool") (by rfl) T.f_bool (by decide +kernel) rfl) pa_nil)))) (pe_one (pe_chain op_le op_le (pv 1) (pv 0) (pv 2))))))), ?_⟩
    walk_at "w"
    refine w_isInt hv ?_
    walk_at "w"
    rcases int_cases v with ⟨i, rfl⟩ | hi
    · refine w_t ?_
      walk_at "w"
      refine w_isBool hv ?_
      walk_at "w"
      refine w_t ?_
      walk_at "w"
      refine w_2 (fun hc => ?_) (fun hc => ?_)
      · walk_at "w"
        have e : isWithin (.int i) l m = decide (i ≤ m) := by
          show (decide (l ≤ i) && decide (i ≤ m)) = decide (i ≤ m)
          rw [hc] <;> rfl
        rw [← e]
        exact q
      · have e : isWithin (.int i) l m = false := by
          show (decide (l ≤ i) && decide (i ≤ m)) = false
          rw [hc] <;> rfl
        rw [← e]
        exact q
    · rw [within_no hi l m] at q
      refine w_2 (fun h1 => ?_) (fun h1 => ?_)
      · walk_at "w"
        refine w_isBool hv ?_
        walk_at "w"
        have e : isBl v = true := isBl_of h1 hi
        rw [e]
        walk_at "w"
        exact q
      · exact q
theorem pow59 : (2 : Int) ^ (59 : Int).toNat = 576460752303423488 := by decide
theorem ok_law_is_payload (T : Txl P K mg) {f : Addr} {fd : FuncData} (F : FnP K "_law_is_payload" s_law_is_payload f fd) (D_law_int : Cal P w K mg base CX0 1 "_law_int" P_law_int spWithin) : FnOk P w K mg base CX0 2 f fd P_law_is_payload spLawPay := by
  refine F.ok sc_law_is_payload (fun vs H Q E h => ?_) (fun cdv A outer s H vs Q E hr h => ?_)
  · obtain ⟨t, p, rfl, _⟩ := h
    rfl
  · obtain ⟨t, p, rfl, ht, hp, q⟩ := h
    have q0 := q H (Same.refl H)
    refine ⟨_, PSs.nox (pss_cons (ps_if (PW.pt (pw_or (pt_not (pt_val (pe_cal D_law_int hr rfl rfl pass0 (pa_cons (pv 0) (pa_cons pe_int (pa_cons pe_int pa_nil)))))) (pw_or (pt_not (pt_val (pe_callB call_isi (by rfl) T.f_isinstance (by decide +kernel) (pa_cons (pv 1) (pa_cons (pe_bltn (v := .ty "int") (by rfl) T.f_int (by decide +kernel) rfl) pa_nil))))) (pw_or1 (pt_val (pe_callB call_isi (by rfl) T.f_isinstance (by decide +kernel) (pa_cons (pv 1) (pa_cons (pe_bltn (v := .ty "bool") (by rfl) T.f_bool (by decide +kernel) rfl) pa_nil)))))))) (pss_one (ps_ret pe_bl)) pss_nil)
  (pss_cons (ps_if (pt_cmpR op_eq (pv 0) pe_int (nomark _)) (pss_one (ps_ret (pe_chain op_le op_lt (pe_un un_neg (pe_op op_pow pe_int pe_int)) (pv 1) (pe_op op_pow pe_int pe_int)))) pss_nil)
  (pss_cons (ps_if (pt_cmpR op_in_seq (pv 0) (pe_tup (pa_cons pe_int (pa_cons pe_int pa_nil))) (by rfl)) (pss_one (ps_ret (pe_chain op_le op_lt pe_int (pv 1) (pe_op op_pow pe_int pe_int)))) pss_nil)
  (pss_one (ps_ret (pe_chain op_le op_le pe_int (pv 1) (pe_ix ix_list (pe_lst (pa_cons pe_int (pa_cons pe_int (pa_cons pe_int (pa_cons pe_int (pa_cons pe_int pa_nil)))))) (pv 0) (fun _ _ => rfl)))))))), ?_⟩
    walk_at "w"
    refine ⟨t, _, _, rfl, ht, ?_⟩
    walk_at "w"
    cases h1 : isWithin t 0 5 with
    | false =>
      have e : wordOf t p = none := by
        unfold wordOf
        split
        · rw [h1] <;> rfl
        · rfl
      rw [e] at q0
      walk_at "w"
      exact q0
    | true =>
      obtain ⟨i, rfl⟩ : ∃ i, t = .int i := by
        rcases int_cases t with h | h
        · exact h
        · rw [within_no h] at h1
          cases h1
      walk_at "w"
      refine w_isInt hp ?_
      walk_at "w"
      rcases int_cases p with ⟨j, rfl⟩ | hi
      · refine w_nt ?_
        walk_at "w"
        refine w_isBool hp ?_
        walk_at "w"
        refine w_f ?_
        walk_at "w"
        rw [wordOf_int h1] at q0
        have ew : (if isPay i (.int j) = true then some (8 * j + i) else none : Option Int).isSome = isPay i (.int j) := by
          cases isPay i (.int j) <;> rfl
        rw [ew] at q0
        have i0 : 0 ≤ i ∧ i ≤ 5 := by
          have z : (decide (0 ≤ i) && decide (i ≤ 5)) = true := h1
          simpa using z
        refine w_2 (fun h2 => ?_) (fun h2 => ?_)
        · have e : i = 1 := of_decide_eq_true h2
          subst e
          walk_at "w"
          rw [pow59]
          refine w_2 (fun h3 => ?_) (fun h3 => ?_)
          · walk_at "w"
            rw [pow59]
            have e : isPay 1 (.int j) = decide (j < 576460752303423488) := by
              have a := of_decide_eq_true h3
              show (decide (-576460752303423488 ≤ j) && decide (j ≤ 576460752303423487)) = _
              rw [decide_eq_true a, Bool.true_and]
              exact decide_eq_decide.mpr (by omega)
            rw [← e]
            exact q0
          · have e : isPay 1 (.int j) = false := by
              have a := of_decide_eq_false h3
              show (decide (-576460752303423488 ≤ j) && decide (j ≤ 576460752303423487)) = _
              rw [decide_eq_false a, Bool.false_and]
            rw [← e]
            exact q0
        · have n1 : i ≠ 1 := of_decide_eq_false h2
          walk_at "w"
          refine ⟨by show 2 ≤ sizeLine; decide, fun t ht => ?_⟩
          have s1 : Same H (upd H t (.tup [V.int 0, V.int 5])) := sameUpd ht
          refine ⟨t, _, rfl, .inr (SqT.of upd_same), rfl, rfl, ?_⟩
          have ei : inV (V.int i) [V.int 0, V.int 5] = decide (i = 0 ∨ i = 5) := by
            have e0 : ((0 : Int) == i) = decide (i = 0) := by rw [Bool.beq_eq_decide_eq]; exact decide_eq_decide.mpr eq_comm
            have e5 : ((5 : Int) == i) = decide (i = 5) := by rw [Bool.beq_eq_decide_eq]; exact decide_eq_decide.mpr eq_comm
            show (((0 : Int) == i) || (((5 : Int) == i) || false)) = decide (i = 0 ∨ i = 5)
            rw [e0, e5, Bool.or_false, Bool.decide_or]
          rw [ei]
          have q1 := q _ s1
          rw [wordOf_int h1, ew] at q1
          generalize upd H t (.tup [V.int 0, V.int 5]) = H1 at s1 q1 ⊢
          walk_at "w"
          refine w_2 (fun h3 => ?_) (fun h3 => ?_)
          · have c3 : i = 0 ∨ i = 5 := of_decide_eq_true h3
            have e : isPay i (.int j) = isWithin (.int j) 0 576460752303423487 := by
              unfold isPay
              rw [if_neg n1, if_neg (by omega), if_neg (by omega), if_neg (by omega), if_pos c3]
            rw [e] at q1
            walk_at "w"
            refine w_2 (fun h4 => ?_) (fun h4 => ?_)
            · walk_at "w"
              rw [pow59]
              have e2 : isWithin (.int j) 0 576460752303423487 = decide (j < 576460752303423488) := by
                have a := of_decide_eq_true h4
                show (decide (0 ≤ j) && decide (j ≤ 576460752303423487)) = _
                rw [decide_eq_true a, Bool.true_and]
                exact decide_eq_decide.mpr (by omega)
              rw [← e2]
              exact q1
            · have e2 : isWithin (.int j) 0 576460752303423487 = false := by
                have a := of_decide_eq_false h4
                show (decide (0 ≤ j) && decide (j ≤ 576460752303423487)) = _
                rw [decide_eq_false a, Bool.false_and]
              rw [← e2]
              exact q1
          · have c3 : ¬ (i = 0 ∨ i = 5) := of_decide_eq_false h3
            have c4 : i = 2 ∨ i = 3 ∨ i = 4 := by omega
            walk_at "w"
            refine w_2 (fun h4 => ?_) (fun h4 => ?_)
            · walk_at "w"
              refine ⟨by show 5 ≤ sizeLine; decide, fun l hl => ?_⟩
              have q2 := q _ (s1.trans (sameUpd (o := .lst [V.int 0, V.int 0, V.int 1, V.int 0, V.int 8]) hl))
              rw [wordOf_int h1, ew] at q2
              have a := of_decide_eq_true h4
              walk_at "w"
              rcases c4 with rfl | rfl | rfl
              · refine w_ixL (.of upd_same) (atI_nat (j := 2) rfl) ?_
                walk_at "w"
                have e2 : isPay 2 (.int j) = decide (j ≤ 1) := by
                  show (decide (0 ≤ j) && decide (j ≤ 1)) = _
                  rw [decide_eq_true a, Bool.true_and]
                rw [← e2]
                exact q2
              · refine w_ixL (.of upd_same) (atI_nat (j := 3) rfl) ?_
                walk_at "w"
                have e2 : isPay 3 (.int j) = decide (j ≤ 0) := by
                  show (decide (0 ≤ j) && decide (j ≤ 0)) = _
                  rw [decide_eq_true a, Bool.true_and]
                rw [← e2]
                exact q2
              · refine w_ixL (.of upd_same) (atI_nat (j := 4) rfl) ?_
                walk_at "w"
                have e2 : isPay 4 (.int j) = decide (j ≤ 8) := by
                  show (decide (0 ≤ j) && decide (j ≤ 8)) = _
                  rw [decide_eq_true a, Bool.true_and]
                rw [← e2]
                exact q2
            · have a := of_decide_eq_false h4
              have e2 : isPay i (.int j) = false := by
                rcases c4 with rfl | rfl | rfl
                · show (decide (0 ≤ j) && decide (j ≤ 1)) = false
                  rw [decide_eq_false a, Bool.false_and]
                · show (decide (0 ≤ j) && decide (j ≤ 0)) = false
                  rw [decide_eq_false a, Bool.false_and]
                · show (decide (0 ≤ j) && decide (j ≤ 8)) = false
                  rw [decide_eq_false a, Bool.false_and]
              rw [← e2]
              exact q1
      · rw [wordOf_non hi] at q0
        refine w_2 (fun h2 => ?_) (fun h2 => ?_)
        · walk_at "w"
          exact q0
        · walk_at "w"
          refine w_isBool hp ?_
          walk_at "w"
          have h2' : intLike p = true := by
            cases z : intLike p with
            | true => rfl
            | false =>
              rw [z] at h2
              cases h2
          have e : isBl p = true := isBl_of h2' hi
          rw [e]
          walk_at "w"
          exact q0
end
end K52
namespace K52
open PySem L2
section
variable {P : Program} {w : World} {K : PySem.W.Frag} {mg : Str → Option Value} {base : Heap}
theorem kn_new {H : Hp} {p : Addr} {xs : List V} : Kn (upd H p (.tup xs)) (.ref p) := by simp [Kn, tyOf, upd_same]
theorem kn_newL {H : Hp} {p : Addr} {xs : List V} : Kn (upd H p (.lst xs)) (.ref p) := by simp [Kn, tyOf, upd_same]
theorem KeepB.kn {b g : Addr} {H H' : Hp} (B : BagAt H b g) (B' : BagAt H' b g) (k : KeepB b g H H') {v : V} (h : Kn H v) : Kn H' v := by
  cases v with
  | ref a =>
    obtain ⟨_, ⟨_, _, _, hb, _⟩, _, hg⟩ := B'
    by_cases h1 : a = b
    · subst h1
      simp [Kn, tyOf, hb]
    · by_cases h2 : a = g
      · subst h2
        simp [Kn, tyOf, hg]
      · cases e : H a with
        | none => simp [Kn, tyOf, e] at h
        | some o =>
          have z := k a o h1 h2 e
          simp only [Kn, tyOf, e] at h
          simp only [Kn, tyOf, z]
          exact h
  | _ => exact h
theorem ok_law_deep (T : Txl P K mg) {f : Addr} {fd : FuncData} (F : FnP K "_law_deep" s_law_deep f fd) (D_law_pick : Cal P w K mg base CX0 1 "_law_pick" P_law_pick spPick) (D_law_some : Cal P w K mg base CX0 2 "_law_some" P_law_some spSome) :
    FnOk P w K mg base CX0 3 f fd P_law_deep spDeep := by
  refine F.ok sc_law_deep (fun vs H Q E h => ?_) (fun cdv A outer s H vs Q E hr h => ?_)
  · obtain ⟨b, g, rfl, _⟩ := h
    rfl
  · obtain ⟨b, g, rfl, B, q⟩ := h
    refine ⟨_, PSs.nox (pss_cons (ps_set (i := 1) sc_law_deep.nd rfl (Or.inl rfl) (pe_cal D_law_some hr rfl rfl pass0 (pa_cons (pv 0) (pa_cons (pe_lst (pa_cons pe_non (pa_cons (pe_tup pa_nil) (pa_cons pe_int (pa_cons pe_str (pa_cons pe_int pa_nil)))))) pa_nil))))
  (pss_cons (ps_for PassesOwn.never rfl (pi_range1 (by rfl) T.f_range (pa_cons (pe_op op_add pe_int (pe_cal D_law_pick hr rfl rfl pass0 (pa_cons (pv 0) (pa_cons pe_int pa_nil)))) pa_nil)) (pg_name (i := 2) sc_law_deep.nd rfl (Or.inl rfl)) (pss_one (ps_set (i := 1) sc_law_deep.nd rfl (Or.inl rfl) (pe_ifExp (pt_cmpR op_gt (pe_cal D_law_pick hr rfl rfl pass0 (pa_cons (pv 0) (pa_cons pe_int pa_nil))) pe_int (nomark _)) (pe_tup (pa_cons (pv 1) pa_nil)) (pe_lst (pa_cons (pv 1) pa_nil))))))
  (pss_one (ps_ret (pv 1))))), ?_⟩
    walk_at "w"
    refine ⟨Nat.zero_le _, fun t ht => ?_⟩
    walk_at "w"
    refine ⟨by show 5 ≤ sizeLine; decide, fun l hl => ?_⟩
    have s1 : Same H (upd H t (.tup [])) := sameUpd ht
    have s2 : Same (upd H t (.tup [])) (upd (upd H t (.tup [])) l (.lst [V.non, V.ref t, V.int 0, V.str "a", V.int 3])) := sameUpd hl
    have B2 := B.same (s1.trans s2)
    have f2 := (B.same s1).free hl
    have e2 : (upd (upd H t (.tup [])) l (.lst [V.non, V.ref t, V.int 0, V.str "a", V.int 3])) l = some (.lst [V.non, V.ref t, V.int 0, V.str "a", V.int 3]) := upd_same
    have et : Kn (upd (upd H t (.tup [])) l (.lst [V.non, V.ref t, V.int 0, V.str "a", V.int 3])) (.ref t) := s2.kn kn_new
    have k2 : KeepB b g H _ := .same (s1.trans s2)
    generalize upd (upd H t (.tup [])) l (.lst [V.non, V.ref t, V.int 0, V.str "a", V.int 3]) = H2 at B2 e2 et k2 ⊢
    walk_at "w"
    refine ⟨b, g, l, _, rfl, B2, f2.1, f2.2, e2, List.cons_ne_nil _ _, by show 5 < 1000; decide, fun v H3 hv B3 k3 => ?_⟩
    have kv : Kn H3 v := by
      refine KeepB.kn B2 B3 k3 ?_
      simp only [List.mem_cons, List.not_mem_nil, or_false] at hv
      rcases hv with rfl | rfl | rfl | rfl | rfl
      · rfl
      · exact et
      · rfl
      · rfl
      · rfl
    walk_at "w"
    refine ⟨b, g, _, rfl, B3, by decide, by decide, fun d H4 d0 d1 B4 k4 => ?_⟩
    have kv4 : Kn H4 v := k4.kn B3 B4 kv
    have k04 : KeepB b g H H4 := (k2.trans k3).trans k4
    walk_at "w"
    refine ⟨_, rfl, by omega, by omega, for_range (Pv := fun i σ H' => ∃ (v : V) (u : Option V), σ = [some (.ref b), some v, u] ∧ Kn H' v ∧ BagAt H' b g ∧ KeepB b g H H') ⟨v, none, rfl, kv4, B4, k04⟩ ?_ ?_⟩
    · rintro i σ H5 hi ⟨v5, u5, rfl, kv5, B5, k5⟩
      walk_at "w"
      refine ⟨b, g, _, rfl, B5, by decide, by decide, fun d6 H6 _ _ B6 k6 => ?_⟩
      have kv6 : Kn H6 v5 := k6.kn B5 B6 kv5
      walk_at "w"
      refine w_2 (fun _ => ?_) (fun _ => ?_)
      · walk_at "w"
        refine ⟨by show 1 ≤ sizeLine; decide, fun p hp => ?_⟩
        walk_at "w"
        exact ⟨_, _, rfl, kn_new, B6.same (sameUpd hp), (k5.trans k6).trans (.same (sameUpd hp))⟩
      · walk_at "w"
        refine ⟨by show 1 ≤ sizeLine; decide, fun p hp => ?_⟩
        walk_at "w"
        exact ⟨_, _, rfl, kn_newL, B6.same (sameUpd hp), (k5.trans k6).trans (.same (sameUpd hp))⟩
    · rintro σ H5 ⟨v5, u5, rfl, kv5, B5, k5⟩
      walk_at "w"
      exact q v5 H5 kv5 B5 k5
theorem cut_ints (ns : List Int) (lo hi : Option Int) : ∃ ms : List Int, cutV (ns.map V.int) lo hi = ms.map V.int ∧ ms.length ≤ ns.length := by
  refine ⟨_, (List.map_take ▸ List.map_drop ▸ rfl : cutV (ns.map V.int) lo hi = ((ns.drop (HT.sIx (ns.map V.int).length 0 lo)).take (HT.sIx (ns.map V.int).length (ns.map V.int).length hi - HT.sIx (ns.map V.int).length 0 lo)).map V.int), ?_⟩
  rw [List.length_take, List.length_drop]
  omega
theorem int_at {ns : List Int} {i : Nat} {x : V} (h : (ns.map V.int)[i]? = some x) : ∃ z, x = V.int z ∧ i < ns.length := by
  rw [List.getElem?_map] at h
  cases e : ns[i]? with
  | none =>
    rw [e] at h
    cases h
  | some z =>
    rw [e] at h
    exact ⟨z, (Option.some.inj h).symm, (List.getElem?_eq_some_iff.mp e).1⟩
theorem ok_law_bag (T : Txl P K mg) {f : Addr} {fd : FuncData} (F : FnP K "_law_bag" s_law_bag f fd) : FnOk P w K mg base CX0 1 f fd P_law_bag (spBag K) := by
  refine F.ok sc_law_bag (fun vs H Q E h => ?_) (fun cdv A outer s H vs Q E hr h => ?_)
  · obtain ⟨a, ns, rfl, _⟩ := h
    rfl
  · obtain ⟨a, ns, rfl, hS, hlen, q⟩ := h
    refine ⟨_, PSs.nox (pss_cons (ps_set (i := 1) sc_law_bag.nd rfl (Or.inl rfl) (pe_op op_add pe_int (pe_callB call_lenN (by rfl) T.f_len (by decide +kernel) (pa_cons (pv 0) pa_nil))))
  (pss_cons (ps_for PassesOwn.never rfl (pi_list (pe_slice sl_list (pv 0) po_none (po_some pe_int))) (pg_name (i := 2) sc_law_bag.nd rfl (Or.inl rfl)) (pss_one (ps_set (i := 1) sc_law_bag.nd rfl (Or.inl rfl) (pe_op op_mod (pe_callTy call_int1N (by rfl) T.f_int (by decide +kernel) (pa_cons (pe_op op_add (pe_op op_add (pe_op op_mul (pv 1) pe_int) (pe_op op_mod (pe_callTy call_int1N (by rfl) T.f_int (by decide +kernel) (pa_cons (pv 2) pa_nil)) pe_int)) pe_int) pa_nil)) pe_int))))
  (pss_cons (ps_setLc (i := 3) (own := [("cell", 2)]) (g := gName 2) rfl sc_law_bag.nd rfl rfl (sw_true rfl rfl rfl (by decide +kernel)) (pi_list (pe_slice sl_list (pv 0) po_none (po_some pe_int))) (blkOk_by (own := [("cell", 2)]) (N := N_law_bag) (sc := defScope s_law_bag) (by decide +kernel)) (fun _ _ _ _ _ => pg_name (i := 2) sc_law_bag.nd rfl (Or.inl rfl)) (fun _ _ _ _ _ => (pts_one (pt_cmpR op_ge (pe_callB call_absN (by rfl) T.f_abs (by decide +kernel) (pa_cons (pe_callTy call_int1N (by rfl) T.f_int (by decide +kernel) (pa_cons (pv 2) pa_nil)) pa_nil)) (pe_op op_pow pe_int pe_int) (nomark _)))) (fun _ _ _ _ _ => (pe_callB call_absN (by rfl) T.f_abs (by decide +kernel) (pa_cons (pe_callTy call_int1N (by rfl) T.f_int (by decide +kernel) (pa_cons (pv 2) pa_nil)) pa_nil))))
  (pss_cons (ps_set (i := 4) sc_law_bag.nd rfl (Or.inl rfl) pe_non)
  (pss_cons (ps_if (PW.pt (pw_and (pt_cmpR op_lt (pe_callB call_lenN (by rfl) T.f_len (by decide +kernel) (pa_cons (pv 0) pa_nil)) pe_int (nomark _)) (pw_and1 (pt_cmpR op_eq (pe_callB call_lenN (by rfl) T.f_len (by decide +kernel) (pa_cons (pv 3) pa_nil)) pe_int (nomark _))))) (pss_one (ps_set (i := 4) sc_law_bag.nd rfl (Or.inl rfl) (pe_callB call_absN (by rfl) T.f_abs (by decide +kernel) (pa_cons (pe_callB (cr_sum rfl) (by rfl) T.f_sum (by decide +kernel) (pa_cons (pe_lc (own := [("cell", 2)]) (g := gName 2) rfl sc_law_bag.nd (pi_list (pv 0)) (blkOk_by (own := [("cell", 2)]) (N := N_law_bag) (sc := defScope s_law_bag) (by decide +kernel)) (fun _ _ _ _ _ => pg_name (i := 2) sc_law_bag.nd rfl (Or.inl rfl)) (fun _ _ _ _ _ => pts_nil) (fun _ _ _ _ _ => (pe_callTy call_int1N (by rfl) T.f_int (by decide +kernel) (pa_cons (pv 2) pa_nil)))) pa_nil)) pa_nil)))) pss_nil)
  (pss_one (ps_ret (pe_lst (pa_cons (pv 1) (pa_cons pe_int (pa_cons (pv 3) (pa_cons (pv 4) pa_nil)))))))))))), ?_⟩
    walk_at "w"
    refine w_lenL hS ?_
    walk_at "w"
    refine ⟨a, _, rfl, hS, fun p hp => ?_⟩
    obtain ⟨ms, em, hm⟩ := cut_ints ns none (some 63)
    rw [em]
    have s1 : Same H (upd H p (.lst (ms.map V.int))) := sameUpd hp
    have h1 : (upd H p (.lst (ms.map V.int))) p = some (.lst (ms.map V.int)) := upd_same
    generalize upd H p (.lst (ms.map V.int)) = H1 at s1 h1 ⊢
    refine ⟨p, rfl, ⟨_, .of h1⟩, for_list (K := K) (a := p) (xs := ms.map V.int) (fun i σ H' => ∃ (x : Int) (u : Option V), σ = [some (.ref a), some (.int x), u, none, none] ∧ H' = H1) ⟨_, none, rfl, rfl⟩ (fun i σ H' _ h => ?_) ?_ ?_⟩
    · obtain ⟨x, u, _, rfl⟩ := h
      exact .of h1
    · rintro i y σ H' hi ⟨x, u, rfl, rfl⟩
      obtain ⟨z, rfl, _⟩ := int_at hi
      walk_at "w"
      exact ⟨_, _, rfl, rfl⟩
    · rintro σ H' ⟨x, u, rfl, rfl⟩
      walk_at "w"
      refine ⟨a, _, rfl, s1.seq hS, fun p2 hp2 => ?_⟩
      rw [em]
      have s2 : Same H (upd H' p2 (.lst (ms.map V.int))) := s1.trans (sameUpd hp2)
      have h2 : (upd H' p2 (.lst (ms.map V.int))) p2 = some (.lst (ms.map V.int)) := upd_same
      generalize upd H' p2 (.lst (ms.map V.int)) = H2 at s2 h2 ⊢
      refine ⟨p2, rfl, ⟨_, .of h2⟩, fun D hD => ?_⟩
      refine lc_list (K := K) (a := p2) (xs := ms.map V.int) (fun i H' => Same H2 H' ∧ ∃ gs : List Int, H' D = some (.lst (gs.map V.int)) ∧ gs.length ≤ i) ⟨sameUpd hD, [], upd_same, Nat.le_refl _⟩ (fun i H' _ h => .of (h.1 _ _ h2)) ?_ ?_
      · rintro i y H3 hi ⟨s3, gs, hg, hgl⟩
        obtain ⟨z, rfl, hil⟩ := int_at hi
        walk_at "w"
        refine ⟨rfl, ?_⟩
        walk_at "w"
        refine w_2 (fun _ => ?_) (fun _ => ?_)
        · walk_at "w"
          refine ⟨_, hg, ?_, ?_, gs ++ [if z < 0 then -z else z], ?_, ?_⟩
          · rw [List.length_map]
            exact Nat.lt_of_lt_of_le (show gs.length < 1000 by omega) (by decide)
          · exact fun b o e => by
              have z1 := s3 b o e
              by_cases hb : b = D
              · rw [hb, hD] at e
                cases e
              · rw [upd_ne hb]
                exact z1
          · rw [upd_same, List.map_append]
            rfl
          · rw [List.length_append]
            show gs.length + 1 ≤ i + 1
            omega
        · exact ⟨s3, gs, hg, Nat.le_succ_of_le hgl⟩
      · rintro H3 ⟨s3, gs, hg, hgl⟩
        have s4 : Same H H3 := s2.trans s3
        have fin : ∀ (H4 : Hp) (b : Addr) (v : V) (x : Int), Same H3 H4 → H4 b = none → (v = .non ∨ ∃ i, v = .int i) → Q (.ref b) (upd H4 b (.lst [V.int x, V.int 1, V.ref D, v])) := fun H4 b v x s5 hb hv => by
          refine q b D _ ((s4.trans s5).trans (sameUpd hb)) ⟨(ne_of_none (s5 _ _ hg) hb).symm, ⟨x, 1, v, upd_same, hv⟩, gs, ?_⟩
          rw [upd_ne (ne_of_none (s5 _ _ hg) hb)]
          exact s5 _ _ hg
        walk_at "w"
        refine w_lenL (s4.seq hS) ?_
        walk_at "w"
        refine w_2 (fun _ => ?_) (fun _ => ?_)
        · walk_at "w"
          refine w_lenL (.of hg) ?_
          walk_at "w"
          refine w_2 (fun _ => ?_) (fun _ => ?_)
          · walk_at "w"
            refine ⟨a, rfl, ⟨_, s4.seq hS⟩, fun D2 hD2 => ?_⟩
            refine lc_list (K := K) (a := a) (xs := ns.map V.int) (fun i H' => Same H3 H' ∧ ∃ gs : List Int, H' D2 = some (.lst (gs.map V.int)) ∧ gs.length ≤ i) ⟨sameUpd hD2, [], upd_same, Nat.le_refl _⟩ (fun i H' _ h => (s4.trans h.1).seq hS) ?_ ?_
            · rintro i y H5 hi ⟨s5, gs2, hg2, hgl2⟩
              obtain ⟨z, rfl, hil⟩ := int_at hi
              walk_at "w"
              refine ⟨rfl, ?_⟩
              walk_at "w"
              refine ⟨_, hg2, ?_, ?_, gs2 ++ [z], ?_, ?_⟩
              · rw [List.length_map]
                exact Nat.lt_of_lt_of_le (show gs2.length < 1000 by omega) (by decide)
              · exact fun b o e => by
                  have z1 := s5 b o e
                  by_cases hb : b = D2
                  · rw [hb, hD2] at e
                    cases e
                  · rw [upd_ne hb]
                    exact z1
              · rw [upd_same, List.map_append]
                rfl
              · rw [List.length_append]
                show gs2.length + 1 ≤ i + 1
                omega
            · rintro H5 ⟨s5, gs2, hg2, hgl2⟩
              walk_at "w"
              refine ⟨D2, gs2, rfl, .of hg2, ?_⟩
              walk_at "w"
              exact ⟨by show 4 ≤ sizeLine; decide, fun b hb => fin H5 b _ _ s5 hb (.inr ⟨_, rfl⟩)⟩
          · walk_at "w"
            exact ⟨by show 4 ≤ sizeLine; decide, fun b hb => fin H3 b _ _ (Same.refl _) hb (.inl rfl)⟩
        · walk_at "w"
          exact ⟨by show 4 ≤ sizeLine; decide, fun b hb => fin H3 b _ _ (Same.refl _) hb (.inl rfl)⟩
theorem ok_law_is (T : Txl P K mg) {f : Addr} {fd : FuncData} (F : FnP K "_law_is" s_law_is f fd) : FnG P w K mg base CX0 2 f fd P_law_is (spIs K) := by
  refine F.okG sc_law_is (fun vs H Q E h => ?_) (fun cdv A outer s H vs Q E hg0 hr _ _ h => ?_)
  · obtain ⟨a, b, d, rfl, _⟩ := h
    rfl
  · obtain ⟨a, b, d, rfl, ha, hb, h1, h2, h3, h4, h5, q⟩ := h
    have hu64 : (cxOf CX0 P w K mg base N_law_is "_law_is" (defScope s_law_is) f cdv A outer s H E).nox.A.units + 64 < cLine := by
      have := hr.un
      show (A.deeper _).units + 64 < cLine
      omega
    refine ⟨_, PSs.nox (pss_one (ps_ret (pe_and (pe_cmpR (op_eqD hu64) (pv 0) (pv 1) (nomark _)) (pe_one (pe_cmpR op_eq (pe_callB (call_reprD hg0 hu64) (by rfl) T.f_repr (by decide +kernel) (pa_cons (pv 0) pa_nil)) (pe_callB (call_reprD hg0 hu64) (by rfl) T.f_repr (by decide +kernel) (pa_cons (pv 1) pa_nil)) (nomark _)))))), ?_⟩
    walk_at "w"
    refine ⟨d, d, ha, hb, h1, h1, ?_⟩
    walk_at "w"
    rw [SeqAt.eqv_refl d (SeqAt.canLay_of_shaped h1)]
    walk_at "w"
    refine ⟨a, d, rfl, ha, h2, h3, h4, h5, ?_⟩
    walk_at "w"
    refine ⟨b, d, rfl, hb, h2, h3, h4, h5, rfl, ?_⟩
    rw [decide_eq_true (rfl : V.str d.shown = V.str d.shown)]
    exact q
end
end K52
namespace K52
open PySem L2 LamX
abbrev s_law_told : Stmt := top 39
abbrev N_law_told : List Str := ["call", "e"]
abbrev P_law_told : List Str := ["call"]
theorem sc_law_told : FnScope N_law_told P_law_told (defScope s_law_told) := ⟨rfl, rfl, rfl, by decide +kernel, rfl, by decide +kernel, by decide +kernel⟩
structure Txn (P : Program) (K : PySem.W.Frag) (mg : Str → Option Value) : Prop extends Txl P K mg where
  f_ValueError : mg "ValueError" = none
  g_HeapError : mg "HeapError" = some (.ref (He.ga K "HeapError"))
  xNW : ExcC K (He.ga K "NoWord")
  kNH : PySem.W.kitOne K (.ref (He.ga K "NoWord")) (.ref (He.ga K "HeapError")) = some true
  kNV : PySem.W.kitOne K (.ref (He.ga K "NoWord")) (.type "ValueError") = some true
  mNN : PySem.W.exmOne K (.ref (He.ga K "NoWord")) (.ref (He.ga K "NoWord")) = some true
  mBN : PySem.W.exmOne K (.ref (He.ga K "BadRoom")) (.ref (He.ga K "NoWord")) = some false
/-- what _law_told makes of an exception: of its class, its dict, the heap -/
def ToldE (K : PySem.W.Frag) (Q : VK) : XK := fun cls d H =>
  (cls = .ref (He.ga K "NoWord") ∧ d = none ∧ ∀ p, H p = none → Q (.ref p) (upd H p (.tup [.non, .str "word"]))) ∨
    (cls = .ref (He.ga K "BadRoom") ∧ ∃ (dd : Addr) (z : Str), d = some dd ∧ H dd = some (.xd [(("part" : Str), .str z)]) ∧
      ∀ p, H p = none → ∀ p2, (upd H p (.tup [.str "room", .str z])) p2 = none → Q (.ref p2) (upd (upd H p (.tup [.str "room", .str z])) p2 (.tup [.non, .ref p])))
def ToldQ (Q : VK) : VK := fun x H => [x, V.str "let"].length ≤ sizeLine ∧ ∀ p, H p = none → Q (.ref p) (upd H p (.tup [x, .str "let"]))
def TTold (K : PySem.W.Frag) : (XK → Hp → VK → Prop) → Hp → VK → Prop := fun tl H Q => tl (ToldE K Q) H (ToldQ Q)
def tsN (K : PySem.W.Frag) : Addr → Value → Option Addr → TS := fun a cls d D σ H => (cls = .ref (He.ga K "NoWord") ∧ d = none) ∧ tRet (tTup (tCons (tC .non) (tCons (tIf (tAnd (tTest (tCB (rIsE K (He.ga K "NoWord") a) (tCons (tVar 1) (tCons (tC (.ref (He.ga K "HeapError"))) tNil))))
  (tTest (tCB (rIsE K (He.ga K "NoWord") a) (tCons (tVar 1) (tCons (tC (.ty "ValueError")) tNil))))) (tC (.str "word")) (tC (.str "other"))) tNil))) D σ H
def tsB (K : PySem.W.Frag) : Addr → Value → Option Addr → TS := fun a cls d => tRet (tTup (tCons (tC .non) (tCons (tTup (tCons (tC (.str "room")) (tCons (tByBadRoom (He.ga K "BadRoom") a cls d (tVar 1)) tNil))) tNil)))
theorem two_set {σ : L2.St} {x : Option V} (h : σ.length = 2) : (σ.set 1 x)[1]? = some x := by
  rw [List.getElem?_set_self (by omega)]
theorem told_gives {X : Cx} {q : Str} {g : Addr} {cdg : Value} (T : Txn X.prog X.K X.mg) : GivesTo X N_law_told "_law_told" (defScope s_law_told) g cdg (defBody s_law_told) "call" q (TTold X.K) := by
  intro f c' s H Q tl act hc h
  have hgl : ∀ {x : Str}, (defScope s_law_told).names.lookup x = some .globalImplicit → Gl (cxOf C8.CX0 X.prog X.w X.K X.mg X.base N_law_told "_law_told" (defScope s_law_told) g cdg X.A X.stack s H C8.E0).nox x := fun e => e
  refine ⟨_, pss_one (ps_try_manyA (X := (cxOf C8.CX0 X.prog X.w X.K X.mg X.base N_law_told "_law_told" (defScope s_law_told) g cdg X.A X.stack s H C8.E0).nox) (Wout := fun _ _ _ _ => False)
      (tb := fun W D σ H => ∃ Ech : XK, (∀ cls d (σ' : L2.St) H', Ech cls d H' → σ'.length = 2 → W cls d σ' H') ∧ σ[0]? = some (some (.ref f)) ∧ H c' = some (CodeO c' q) ∧ tl Ech H (ToldQ D.rt))
      (l := [⟨.ref (He.ga X.K "NoWord"), 1, tsN X.K⟩, ⟨.ref (He.ga X.K "BadRoom"), 1, tsB X.K⟩])
      rfl rfl sc_law_told.nd L2.takes0 (fun W pn xe tk _ => ?_) (.cons rfl rfl ⟨hgl rfl, by decide, .inl T.e_NoWord.gC⟩ (fun a oe cls d pn hz hf => ?_) (.cons rfl rfl ⟨hgl rfl, by decide, .inl T.e_BadRoom.gC⟩ (fun a oe cls d pn hz hf => ?_) .nil))), ?_⟩
  · refine ⟨fun pins s' σ H' D I h' => ?_⟩
    obtain ⟨Ech, hW, h1, h2, h3⟩ := h'
    have hp := act _ pn xe Ech ⟨124, 16, 124, 20⟩ ⟨124, 16, 124, 22⟩ tk.len (fun cls d σ' H' e hl => hW cls d σ' H' e hl)
    exact (pss_one (ps_ret (pe_tup (pa_cons hp (pa_cons pe_str pa_nil))))).run pins s' σ H' D I ⟨h1, h2, h3⟩
  · refine pss_fact fun hh => ?_
    obtain ⟨e1, e2⟩ := hh
    subst e1 e2
    exact pss_one (ps_ret (pe_tup (pa_cons pe_non (pa_cons (pe_ifExp (PW.pt (pw_and (pt_val (pe_callB (call_isE T.xNW hz hf) (hgl rfl) T.f_isinstance (by decide +kernel) (pa_cons (pv 1) (pa_cons (pe_gr T.g_HeapError (hgl rfl)) pa_nil))))
      (pw_and1 (pt_val (pe_callB (call_isE T.xNW hz hf) (hgl rfl) T.f_isinstance (by decide +kernel) (pa_cons (pv 1) (pa_cons (pe_bltn (v := .ty "ValueError") (hgl rfl) T.f_ValueError (by decide +kernel) rfl) pa_nil))))))) pe_str pe_str) pa_nil))))
  · exact pss_one (ps_ret (pe_tup (pa_cons pe_non (pa_cons (pe_tup (pa_cons pe_str (pa_cons (pe_byBadRoom (X := (cxOf C8.CX0 X.prog X.w X.K X.mg X.base N_law_told "_law_told" (defScope s_law_told) g cdg X.A X.stack s H C8.E0).nox) T.e_BadRoom hz hf (pv 1)) pa_nil))) pa_nil))))
  · refine ⟨ToldE X.K Q, fun cls d σ' H' hE hl => ?_, rfl, hc, h⟩
    rcases hE with ⟨rfl, rfl, k⟩ | ⟨rfl, dd, z, rfl, hd, k⟩
    · refine ⟨true, T.mNN, fun _ a ha => ⟨⟨rfl, rfl⟩, ?_⟩, fun z => Bool.noConfusion z⟩
      have e1 := two_set (x := some (.ref a)) hl
      show tRet _ _ (σ'.set 1 (some (V.ref a))) H'
      walk_at "w"
      refine w_var e1 ?_
      walk_at "w"
      refine ⟨_, _, true, rfl, fun u r => r, T.kNH, ?_⟩
      walk_at "w"
      refine w_var e1 ?_
      walk_at "w"
      refine ⟨_, _, true, rfl, fun u r => r, T.kNV, ?_⟩
      walk_at "w"
      exact ⟨by show 2 ≤ sizeLine; decide, fun p hp => k p hp⟩
    · refine ⟨false, T.mBN, fun z => Bool.noConfusion z, fun _ => ⟨true, T.e_BadRoom.te, fun _ a ha => ?_, fun z => Bool.noConfusion z⟩⟩
      have e1 := two_set (x := some (.ref a)) hl
      show tsB X.K a (.ref (He.ga X.K "BadRoom")) (some dd) (endsA { nx := fun _ H' => Q .non H', rt := Q } 1) (σ'.set 1 (some (.ref a))) H'
      unfold tsB
      walk_at "w"
      refine ⟨_, e1, rfl, rfl, dd, _, rfl, hd, ?_⟩
      walk_at "w"
      refine ⟨by show 2 ≤ sizeLine; decide, fun p hp => ?_⟩
      walk_at "w"
      exact ⟨by show 2 ≤ sizeLine; decide, fun p2 hp2 => k p hp p2 hp2⟩
end K52
namespace K52
open PySem L2 LamX
abbrev s_law_words_right : Stmt := top 40
abbrev N_law_words_right : List Str := ["bag", "ends", "odd", "tag", "payload", "due", "end", "told", "rest", "is_word", "found"]
abbrev P_law_words_right : List Str := ["bag"]
theorem sc_law_words_right : FnScope N_law_words_right P_law_words_right (defScope s_law_words_right) := ⟨rfl, rfl, rfl, by decide +kernel, rfl, by decide +kernel, by decide +kernel⟩
abbrev s_law_rooms_right : Stmt := top 41
abbrev N_law_rooms_right : List Str := ["bag", "odd", "parts", "due", "told", "raised", "other"]
abbrev P_law_rooms_right : List Str := ["bag"]
theorem sc_law_rooms_right : FnScope N_law_rooms_right P_law_rooms_right (defScope s_law_rooms_right) := ⟨rfl, rfl, rfl, by decide +kernel, rfl, by decide +kernel, by decide +kernel⟩
section
variable {P : Program} {w : World} {K : PySem.W.Frag} {mg : Str → Option Value} {base : Heap}
abbrev Ts2 := List (Addr × Str)
/-- the bag and the tables of code objects stand -/
structure Sd (Ts : Ts2) (b g : Addr) (H : Hp) : Prop where
  bag : BagAt H b g
  tabs : Tabs Ts H
/-- all but the bag and the tables is kept -/
def Go (b g : Addr) (H H' : Hp) : Prop := ∀ a o, a ≠ b → a ≠ g → (∀ ps, o ≠ .tbl ps) → H a = some o → H' a = some o
theorem Go.refl {b g : Addr} {H : Hp} : Go b g H H := fun _ _ _ _ _ h => h
theorem Go.trans {b g : Addr} {H H1 H2 : Hp} (x : Go b g H H1) (y : Go b g H1 H2) : Go b g H H2 := fun a o h1 h2 h3 h => y a o h1 h2 h3 (x a o h1 h2 h3 h)
theorem Go.same {b g : Addr} {H H' : Hp} (s : Same H H') : Go b g H H' := fun a o _ _ _ h => s a o h
theorem Go.keep {b g : Addr} {H H' : Hp} (s : KeepB b g H H') : Go b g H H' := fun a o h1 h2 _ h => s a o h1 h2 h
theorem Go.extN {b g : Addr} {H H' : Hp} (s : ExtN H H') : Go b g H H' := fun a o _ _ h3 h => s a o h h3
theorem Sd.same {Ts : Ts2} {b g : Addr} {H H' : Hp} (x : Sd Ts b g H) (s : Same H H') : Sd Ts b g H' := ⟨x.bag.same s, x.tabs.ext s⟩
theorem BagAt.tab {b g : Addr} {H : Hp} (B : BagAt H b g) {p : Addr} {ps : Array Value} (h : H p = some (.tbl ps)) : p ≠ b ∧ p ≠ g := by
  obtain ⟨_, ⟨x, c, v, h1, _⟩, gs, h3⟩ := B
  exact ⟨ne_of h h1 (by intro z; cases z), ne_of h h3 (by intro z; cases z)⟩
theorem BagAt.ext {b g p : Addr} {H : Hp} {φ : Heap → Prop} (B : BagAt H b g) (h : H p = some (.ext φ)) : p ≠ b ∧ p ≠ g := by
  obtain ⟨_, ⟨x, c, v, h1, _⟩, gs, h3⟩ := B
  exact ⟨ne_of h h1 (by intro z; cases z), ne_of h h3 (by intro z; cases z)⟩
theorem Sd.keep {Ts : Ts2} {b g : Addr} {H H' : Hp} (x : Sd Ts b g H) (B : BagAt H' b g) (s : KeepB b g H H') : Sd Ts b g H' := ⟨B, fun p hp => by
  obtain ⟨ps, h1, h2, h3⟩ := x.tabs p hp
  obtain ⟨n1, n2⟩ := x.bag.tab h1
  refine ⟨ps, s _ _ n1 n2 h1, h2, fun pos cv hc => ?_⟩
  obtain ⟨c, e1, e2⟩ := h3 pos cv hc
  obtain ⟨m1, m2⟩ := x.bag.ext (show H c = some (.ext _) from e2)
  exact ⟨c, e1, s _ _ m1 m2 e2⟩⟩
theorem BagAt.extN {b g : Addr} {H H' : Hp} (B : BagAt H b g) (s : ExtN H H') : BagAt H' b g := by
  obtain ⟨n, ⟨x, c, v, h1, h2⟩, gs, h3⟩ := B
  exact ⟨n, ⟨x, c, v, s _ _ h1 (fun _ z => nomatch z), h2⟩, gs, s _ _ h3 (fun _ z => nomatch z)⟩
/-- an object of ours -/
structure At (b g : Addr) (H : Hp) (l : Addr) (o : HO) : Prop where
  n1 : l ≠ b
  n2 : l ≠ g
  nt : ∀ ps, o ≠ .tbl ps
  at_ : H l = some o
theorem At.go {b g l : Addr} {H H' : Hp} {o : HO} (x : At b g H l o) (s : Go b g H H') : At b g H' l o := ⟨x.n1, x.n2, x.nt, s _ _ x.n1 x.n2 x.nt x.at_⟩
theorem At.new {b g l : Addr} {H : Hp} {o : HO} (B : BagAt H b g) (h : H l = none) (nt : ∀ ps, o ≠ .tbl ps) : At b g (upd H l o) l o := ⟨(B.free h).1, (B.free h).2, nt, upd_same⟩
theorem Kn.go {b g : Addr} {H H' : Hp} (B : BagAt H' b g) (s : Go b g H H') {v : V} (h : Kn H v) : Kn H' v := by
  cases v with
  | ref a =>
    obtain ⟨_, ⟨_, _, _, hb, _⟩, _, hg⟩ := B
    by_cases h1 : a = b
    · subst h1
      simp [Kn, tyOf, hb]
    · by_cases h2 : a = g
      · subst h2
        simp [Kn, tyOf, hg]
      · cases e : H a with
        | none => simp [Kn, tyOf, e] at h
        | some o =>
          simp only [Kn, tyOf, e] at h
          have z := s a o h1 h2 (fun ps q => by subst q; simp at h) e
          simp only [Kn, tyOf, z]
          exact h
  | _ => exact h
def AllKn (H : Hp) (xs : List V) : Prop := ∀ v ∈ xs, Kn H v
theorem AllKn.go {b g : Addr} {H H' : Hp} {xs : List V} (x : AllKn H xs) (B : BagAt H' b g) (s : Go b g H H') : AllKn H' xs := fun v hv => Kn.go B s (x v hv)
theorem AllKn.cut {H : Hp} {xs : List V} (x : AllKn H xs) (lo hi : Option Int) : AllKn H (cutV xs lo hi) := fun v hv => x v (List.mem_of_mem_drop (List.mem_of_mem_take hv))
theorem AllKn.app {H : Hp} {xs ys : List V} (x : AllKn H xs) (y : AllKn H ys) : AllKn H (xs ++ ys) := fun v hv => (List.mem_append.mp hv).elim (x v) (y v)
/-- _law_told called with a lambda -/
theorem pe_told {X : Cx} {g c Pt : Addr} {fd : FuncData} {Ts : Ts2} {k : Nat} {params : Arguments} {body : Expr} {scope : Scope} {t : XK → TE} {p lpos pos : Pos} (T : Txn X.prog X.K X.mg) (F : FnP X.K "_law_told" s_law_told g fd) (hm : X.mg "_law_told" = some (.ref g))
    (TB : TabB X.base X.mg c Pt) (hcode : X.env.code = .ref c) (hmT : (Pt, X.env.qual ++ "<lambda>") ∈ Ts) (hu : ∀ p ∈ Ts, p.1 = Pt → p.2 = X.env.qual ++ "<lambda>") (hr : Room (k + 2) X.A) (L : LamS X.env.scope scope) (hdef : defaultsOf params X.env = ([], []))
    (hbind : ∀ (q : Str) (cl : List (Str × Addr)) (pm cv ctv : Value), bindArgs (PySem.W.kla_fn "<lambda>" q params body scope cl pm cv ctv) ⟨[], []⟩ = pure [])
    (hbody : ∀ (A : Around) (outer : List Env) (s : Shared) (H : Hp) (E : XK) (f c' : Addr), Room k (A.deeper (lamEnv X scope s.heap.objs.size f c')) → PE (lamCx X A outer s H E scope f c') body (t E)) (hg : Gl X "_law_told" := by rfl) :
    PE X (.Call (.Name "_law_told" p) [.Lambda params body scope lpos] [] pos) (tLam Ts (TTold X.K) t) := by
  have hb : Binds X.K fd P_law_told [] := F.bindsN fun _ _ _ _ _ _ us hl => match us, hl with | [_], _ => rfl
  have kp := F.kp
  obtain ⟨oc, od, dV, kV, doc, pm, an, cdv, ct, osl, rfl, lk, hcd, _, _⟩ := F.ex
  exact pe_lamcall (x := "_law_told") (a := "call") hg hm kp lk hcd hb sc_law_told rfl (.inl rfl) (told_gives T) TB hcode hmT hu hr L hdef hbind hbody
end
end K52
namespace K52
open PySem L2 LamX
section
variable {P : Program} {w : World} {K : PySem.W.Frag} {mg : Str → Option Value} {base : Heap}
/-! ### the data of the answers -/
structure Fine (d : PyData) : Prop where
  sh : SeqAt.shaped d = true
  so : d.showable = true
  nd : d.hasDict = false
  dp : d.depth ≤ 60
  ln : d.shown.length ≤ sizeLine
theorem fine_of {d : PyData} (h1 : d.canLay0 = true) (h2 : d.showable = true) (h3 : d.depth ≤ 60) (h4 : d.leavesShort 1921 = true) (h5 : d.weight ≤ 5000) : Fine d := by
  refine ⟨?_, h2, PyData.hasDict_of_canLay d h1, h3, ?_⟩
  · unfold SeqAt.shaped
    rw [h1, Bool.true_and]
    exact decide_eq_true (by omega)
  · have z := PyData.shown_le 1921 (by decide) d h4
    have e : (1921 + 2) * d.weight ≤ 1923 * 5000 := Nat.mul_le_mul_left _ h5
    have s : sizeLine = 16777216 := by decide
    omega
def Small (i : Int) : Prop := i.natAbs.log2 < 1920
theorem small_of {i : Int} (h1 : -(2 ^ 63) ≤ i) (h2 : i ≤ 2 ^ 63) : Small i := by
  unfold Small
  by_cases h : i.natAbs = 0
  · rw [h]
    decide
  · have z : i.natAbs.log2 < 64 := (Nat.log2_lt h).mpr (by omega)
    omega
theorem short_int {i : Int} (h : Small i) : PyData.leavesShort 1921 (.int i) = true := by
  unfold PyData.leavesShort
  exact decide_eq_true (PyProof.Rows.int_text_len_1921 h)
theorem wt_int {i : Int} (h : Small i) : PyData.weight (.int i) ≤ 1920 := by
  unfold PyData.weight
  unfold Small at h
  split
  · omega
  · omega
def ansV : Option Int → V
  | none => .non
  | some n => .int n
def ansS : Option Int → Str
  | none => "word"
  | some _ => "let"
def ansD : Option Int → PyData
  | none => .tuple [.none, .str "word"]
  | some n => .tuple [.int n, .str "let"]
def SmallO : Option Int → Prop
  | none => True
  | some n => Small n
theorem leaf_let : PyData.leavesShort 1921 (.str "let") = true := by decide +kernel
theorem lay_let : PyData.canLay0 (.str "let") = true := by decide +kernel
theorem wt_let : PyData.weight (.str "let") = 3 := by decide +kernel
theorem ans_lay : ∀ {x : Option Int}, SmallO x → (ansD x).canLay0 = true ∧ (ansD x).showable = true ∧ (ansD x).depth = 1 ∧ (ansD x).leavesShort 1921 = true ∧ (ansD x).weight ≤ 2000
  | none, _ => ⟨by decide +kernel, by decide +kernel, by decide +kernel, by decide +kernel, by decide +kernel⟩
  | some n, h => by
    have h : Small n := h
    have w := wt_int h
    have hs := short_int h
    refine ⟨?_, ?_, ?_, ?_, ?_⟩
    · simp only [ansD, PyData.canLay0, PyData.canLayAll0, Bool.true_and]
      exact Bool.and_eq_true_iff.mpr ⟨lay_let, rfl⟩
    · simp only [ansD, PyData.showable, PyData.showableAll, Bool.and_true, decide_eq_true_eq]
      exact h
    · simp only [ansD, PyData.depth, PyData.depthAll]
      rfl
    · show (PyData.leavesShort 1921 (.int n) && (PyData.leavesShort 1921 (.str "let") && true)) = true
      rw [hs, leaf_let]
      rfl
    · show PyData.weight (.int n) + 1 + (PyData.weight (.str "let") + 1 + 0) ≤ 2000
      rw [wt_let]
      omega
theorem ans_fine {x : Option Int} (h : SmallO x) : Fine (ansD x) := by
  obtain ⟨h1, h2, h3, h4, h5⟩ := ans_lay h
  exact fine_of h1 h2 (by omega) h4 (by omega)
theorem ans2_fine {x y : Option Int} (h : SmallO x) (h' : SmallO y) : Fine (.list [ansD x, ansD y]) := by
  obtain ⟨h1, h2, h3, h4, h5⟩ := ans_lay h
  obtain ⟨g1, g2, g3, g4, g5⟩ := ans_lay h'
  refine fine_of ?_ ?_ ?_ ?_ ?_
  · show ((ansD x).canLay0 && ((ansD y).canLay0 && true)) = true
    rw [h1, g1]
    rfl
  · show ((ansD x).showable && ((ansD y).showable && true)) = true
    rw [h2, g2]
    rfl
  · show max (ansD x).depth (max (ansD y).depth 0) + 1 ≤ 60
    omega
  · show ((ansD x).leavesShort 1921 && ((ansD y).leavesShort 1921 && true)) = true
    rw [h4, g4]
    rfl
  · show (ansD x).weight + 1 + ((ansD y).weight + 1 + 0) ≤ 5000
    omega
theorem ints_fine {x y z : Int} (h1 : Small x) (h2 : Small y) (h3 : 0 ≤ z) (h4 : z ≤ 1000) : Fine (.list [.int x, .int y, .int z]) := by
  have w1 := wt_int h1
  have w2 := wt_int h2
  have hz : Small z := small_of (by omega) (by omega)
  have w3 : PyData.weight (.int z) ≤ 20 := by
    unfold PyData.weight
    split
    · omega
    · rename_i hne
      have hn : z.natAbs ≠ 0 := by
        intro q
        apply hne
        simp only [beq_iff_eq]
        omega
      have q : z.natAbs.log2 < 11 := (Nat.log2_lt hn).mpr (by omega)
      omega
  refine fine_of rfl ?_ (by show max 0 (max 0 (max 0 0)) + 1 ≤ 60; decide) ?_ ?_
  · show (decide (x.natAbs.log2 < 1920) && (decide (y.natAbs.log2 < 1920) && (decide (z.natAbs.log2 < 1920) && true))) = true
    rw [decide_eq_true (show x.natAbs.log2 < 1920 from h1), decide_eq_true (show y.natAbs.log2 < 1920 from h2), decide_eq_true (show z.natAbs.log2 < 1920 from hz)]
    rfl
  · show (PyData.leavesShort 1921 (.int x) && (PyData.leavesShort 1921 (.int y) && (PyData.leavesShort 1921 (.int z) && true))) = true
    rw [short_int h1, short_int h2, short_int hz]
    rfl
  · show PyData.weight (.int x) + 1 + (PyData.weight (.int y) + 1 + (PyData.weight (.int z) + 1 + 0)) ≤ 5000
    omega
theorem dp_ans {H : Hp} {a : Addr} {x : Option Int} (h : H a = some (.tup [ansV x, .str (ansS x)])) : Dp K H (.ref a) (ansD x) := by
  cases x with
  | none => exact .tup (.of h) (.cons .non (.cons (.str _) .nil))
  | some n => exact .tup (.of h) (.cons (.int n) (.cons (.str _) .nil))
theorem within_iff {i l m : Int} : isWithin (.int i) l m = true ↔ l ≤ i ∧ i ≤ m := by
  show (decide (l ≤ i) && decide (i ≤ m)) = true ↔ _
  rw [Bool.and_eq_true, decide_eq_true_eq, decide_eq_true_eq]
theorem pay_bound {t p : Int} (h : isPay t (.int p) = true) : -576460752303423488 ≤ p ∧ p ≤ 576460752303423487 := by
  unfold isPay at h
  split at h
  · exact within_iff.mp h
  · split at h
    · have := within_iff.mp h
      omega
    · split at h
      · have := within_iff.mp h
        omega
      · split at h
        · have := within_iff.mp h
          omega
        · split at h
          · have := within_iff.mp h
            omega
          · cases h
theorem wordOf_small {t p : V} : SmallO (wordOf t p) := by
  unfold wordOf
  split
  · rename_i t p
    split
    · rename_i h
      rw [Bool.and_eq_true] at h
      have h1 := within_iff.mp h.1
      have h2 := pay_bound h.2
      exact small_of (by omega) (by omega)
    · trivial
  · trivial
theorem wordOf_some {t p : V} {n : Int} (h : wordOf t p = some n) : ∃ i j, t = .int i ∧ p = .int j ∧ n = 8 * j + i := by
  unfold wordOf at h
  split at h
  · rename_i i j
    split at h
    · cases h
      exact ⟨i, j, rfl, rfl, rfl⟩
    · cases h
  · cases h
/-- the answers of tag_of and payload_of -/
def tellOf (f : Int → Int) (v : V) : Option Int := match v with
  | .int i => if isRaw (.int i) = true then some (f i) else none
  | _ => none
theorem raw_word {i : Int} : (wordOf (.int (i % 8)) (.int (i / 8))).isSome = isRaw (.int i) := by
  show (wordOf (.int (i % 8)) (.int (i / 8))).isSome = isPay (i % 8) (.int (i / 8))
  by_cases h : isWithin (.int (i % 8)) 0 5 = true
  · rw [wordOf_int h]
    cases isPay (i % 8) (.int (i / 8)) <;> rfl
  · have e : isPay (i % 8) (.int (i / 8)) = false := by
      rw [within_iff] at h
      have h1 : 0 ≤ i % 8 := by omega
      have h2 : 5 < i % 8 := by omega
      unfold isPay
      rw [if_neg (by omega), if_neg (by omega), if_neg (by omega), if_neg (by omega), if_neg (by omega)]
    rw [e]
    show (if (isWithin (.int (i % 8)) 0 5 && isPay (i % 8) (.int (i / 8))) = true then some (8 * (i / 8) + i % 8) else none : Option Int).isSome = false
    rw [e, Bool.and_false]
    rfl
theorem tell_raw {f : Int → Int} {i : Int} (h : isRaw (.int i) = true) : tellOf f (.int i) = some (f i) := if_pos h
theorem tell_not {f : Int → Int} {v : V} (h : isRaw v = false) : tellOf f v = none := by
  cases v with
  | int i => exact if_neg (by rw [h]; exact Bool.false_ne_true)
  | _ => rfl
theorem raw_bound {i : Int} (h : isRaw (.int i) = true) : -4611686018427387904 ≤ i ∧ i ≤ 4611686018427387903 := by
  have := pay_bound (show isPay (i % 8) (.int (i / 8)) = true from h)
  omega
theorem tell_small {f : Int → Int} (hf : ∀ i, -4611686018427387904 ≤ i → i ≤ 4611686018427387903 → Small (f i)) {v : V} : SmallO (tellOf f v) := by
  cases v with
  | int i =>
    unfold tellOf
    show SmallO (if isRaw (.int i) = true then some (f i) else none)
    split
    · rename_i h
      exact hf i (raw_bound h).1 (raw_bound h).2
    · trivial
  | _ => trivial
/-! ### what is told -/
variable {b g : Addr} {Ts : Ts2} {H : Hp} {Q : VK} {σ : L2.St}
theorem ans_tell {H2 H : Hp} {x : Option Int} (S : Sd Ts b g H2) (G : Go b g H H2)
    (q : ∀ a H', Sd Ts b g H' → Go b g H H' → At b g H' a (.tup [ansV x, .str (ansS x)]) → Q (.ref a) H') (a : Addr) (ha : H2 a = none) : Q (.ref a) (upd H2 a (.tup [ansV x, .str (ansS x)])) :=
  q a _ (S.same (sameUpd ha)) (G.trans (.same (sameUpd ha))) (.new S.bag ha fun _ z => nomatch z)
theorem told_word {i j : Nat} {t p : V} (S : Sd Ts b g H) (ht : σ[i]? = some (some t)) (hp : σ[j]? = some (some p)) (kt : Kn H t) (kp : Kn H p)
    (q : ∀ a H', Sd Ts b g H' → Go b g H H' → At b g H' a (.tup [ansV (wordOf t p), .str (ansS (wordOf t p))]) → Q (.ref a) H') :
    tLam Ts (TTold K) (fun E => tCallS (spWord (He.ga K "NoWord")) (WE fun cls d _ H => E cls d H) (tCons (tVar i) (tCons (tVar j) tNil))) σ H Q := by
  refine ⟨S.tabs, fun H1 e1 T1 => ?_⟩
  have S1 : Sd Ts b g H1 := ⟨S.bag.extN e1, T1⟩
  have kt1 := Kn.go S1.bag (.extN e1) kt
  have kp1 := Kn.go S1.bag (.extN e1) kp
  unfold TTold
  refine w_cons (w_var ht (w_cons (w_var hp (w_nil ?_))))
  refine ⟨t, p, rfl, kt1, kp1, fun H2 s2 => ?_⟩
  have S2 := S1.same s2
  have G2 : Go b g H H2 := .trans (.extN e1) (.same s2)
  cases e : wordOf t p with
  | none =>
    rw [e] at q
    exact .inl ⟨rfl, rfl, fun a ha => ans_tell S2 G2 q a ha⟩
  | some n =>
    rw [e] at q
    exact ⟨by show 2 ≤ sizeLine; decide, fun a ha => ans_tell S2 G2 q a ha⟩
theorem told_tell {i : Nat} {f : Int → Int} {v : V} (S : Sd Ts b g H) (ht : σ[i]? = some (some v)) (kt : Kn H v)
    (q : ∀ a H', Sd Ts b g H' → Go b g H H' → At b g H' a (.tup [ansV (tellOf f v), .str (ansS (tellOf f v))]) → Q (.ref a) H') :
    tLam Ts (TTold K) (fun E => tCallS (spTell (He.ga K "NoWord") f) (WE fun cls d _ H => E cls d H) (tCons (tVar i) tNil)) σ H Q := by
  refine ⟨S.tabs, fun H1 e1 T1 => ?_⟩
  have S1 : Sd Ts b g H1 := ⟨S.bag.extN e1, T1⟩
  have kt1 := Kn.go S1.bag (.extN e1) kt
  unfold TTold
  refine w_cons (w_var ht (w_nil ?_))
  refine ⟨v, rfl, kt1, fun H2 s2 => ?_⟩
  have S2 := S1.same s2
  have G2 : Go b g H H2 := .trans (.extN e1) (.same s2)
  cases e : isRaw v with
  | false =>
    refine w_f ?_
    rw [tell_not e] at q
    exact .inl ⟨rfl, rfl, fun a ha => ans_tell S2 G2 q a ha⟩
  | true =>
    refine w_t fun n hn => ?_
    subst hn
    rw [tell_raw e] at q
    exact ⟨by show 2 ≤ sizeLine; decide, fun a ha => ans_tell S2 G2 q a ha⟩
/-- the Room that is made, or what is told instead -/
theorem told_room {i : Nat} {l : Addr} {y o c : V} (S : Sd Ts b g H) (ht : σ[i]? = some (some (.ref l))) (hl : At b g H l (.lst [y, o, c])) (ky : Kn H y) (ko : Kn H o) (kc : Kn H c)
    (q : match roomBad y o c with
      | none => ∀ a H' p dx, Sd Ts b g H' → Go b g H H' → At b g H' p (.ins (He.ga K "Room") dx (rflds y o c)) → At b g H' a (.tup [.ref p, .str "let"]) → Q (.ref a) H'
      | some z => ∀ a r H', Sd Ts b g H' → Go b g H H' → At b g H' r (.tup [.str "room", .str z]) → At b g H' a (.tup [.non, .ref r]) → Q (.ref a) H') :
    tLam Ts (TTold K) (fun E => tMake (He.ga K "Room") (spRoom K) [] E (tCons (tOp (rIxL K) (tVar i) (tC (.int 0))) (tCons (tOp (rIxL K) (tVar i) (tC (.int 1))) (tCons (tOp (rIxL K) (tVar i) (tC (.int 2))) tNil)))) σ H Q := by
  refine ⟨S.tabs, fun H1 e1 T1 => ?_⟩
  have S1 : Sd Ts b g H1 := ⟨S.bag.extN e1, T1⟩
  have hl1 := (hl.go (.extN e1)).at_
  unfold TTold
  refine w_cons (w_op (w_var ht (w_c (w_ixL (.of hl1) (atI_nat (j := 0) rfl) ?_))))
  refine w_cons (w_op (w_var ht (w_c (w_ixL (.of hl1) (atI_nat (j := 1) rfl) ?_))))
  refine w_cons (w_op (w_var ht (w_c (w_ixL (.of hl1) (atI_nat (j := 2) rfl) (w_nil ?_)))))
  intro x dx hx hdx hne
  have s1 : Same H1 (upd H1 dx (.own x)) := sameUpd hdx
  have hx1 : (upd H1 dx (.own x)) x = none := by
    rw [upd_ne (Ne.symm hne)]
    exact hx
  have s2 : Same H1 (upd (upd H1 dx (.own x)) x (.ins (He.ga K "Room") dx [])) := s1.trans (sameUpd hx1)
  have G1 : Go b g H H1 := .extN e1
  refine ⟨x, dx, y, o, c, rfl, upd_same, s2.kn (Kn.go S1.bag G1 ky), s2.kn (Kn.go S1.bag G1 ko), s2.kn (Kn.go S1.bag G1 kc), ?_⟩
  cases e : roomBad y o c with
  | none =>
    rw [e] at q
    refine ⟨rfl, by show 2 ≤ sizeLine; decide, fun a ha => ?_⟩
    rw [upd_upd] at ha ⊢
    have s3 : Same H1 (upd (upd H1 dx (.own x)) x (.ins (He.ga K "Room") dx (rflds y o c))) := s1.trans (sameUpd hx1)
    have s4 := s3.trans (sameUpd (o := .tup [.ref x, .str "let"]) ha)
    exact q a _ x dx (S1.same s4) (G1.trans (.same s4)) ((At.new (o := .ins (He.ga K "Room") dx (rflds y o c)) (S1.same s1).bag hx1 fun _ z => nomatch z).go (.same (sameUpd ha))) (.new (S1.same s3).bag ha fun _ z => nomatch z)
  | some z =>
    rw [e] at q
    refine fun d hd => .inr ⟨rfl, d, z, rfl, upd_same, fun r hr a ha => ?_⟩
    have s3 := s2.trans (sameUpd (o := .xd [(("part" : Str), .str z)]) hd)
    have s4 := s3.trans (sameUpd (o := .tup [.str "room", .str z]) hr)
    have s5 := s4.trans (sameUpd (o := .tup [.non, .ref r]) ha)
    exact q a r _ (S1.same s5) (G1.trans (.same s5)) ((At.new (o := .tup [.str "room", .str z]) (S1.same s3).bag hr fun _ z => nomatch z).go (.same (sameUpd ha))) (.new (S1.same s4).bag ha fun _ z => nomatch z)
end
end K52
namespace K52
open PySem L2 LamX
section
variable {P : Program} {w : World} {K : PySem.W.Frag} {mg : Str → Option Value} {base : Heap}
abbrev qW : Str := (("_law_words_right" : Str) ++ ".<locals>.") ++ "<lambda>"
abbrev qR : Str := (("_law_rooms_right" : Str) ++ ".<locals>.") ++ "<lambda>"
def spRight (Ts : Ts2) : Sp := fun vs H Q _ => ∃ (b g : Addr), vs = [.ref b] ∧ Sd Ts b g H ∧ ∀ H', Sd Ts b g H' → Q (.bl true) H'
theorem AllKn.nil {H : Hp} : AllKn H [] := fun _ h => nomatch h
theorem AllKn.cons {H : Hp} {v : V} {xs : List V} (h : Kn H v) (x : AllKn H xs) : AllKn H (v :: xs) := fun u hu => (List.mem_cons.mp hu).elim (fun e => e ▸ h) (x u)
theorem AllKn.same {H H' : Hp} {xs : List V} (x : AllKn H xs) (s : Same H H') : AllKn H' xs := fun v hv => s.kn (x v hv)
theorem kn_newD {H : Hp} {p : Addr} {xs} : Kn (upd H p (.dK xs)) (.ref p) := by simp [Kn, tyOf, upd_same]
theorem cut_len (xs : List V) (lo hi : Option Int) : (cutV xs lo hi).length ≤ xs.length := by
  show ((xs.drop _).take _).length ≤ _
  rw [List.length_take, List.length_drop]
  omega
theorem At.ne {b g l p : Addr} {H : Hp} {o : HO} (A : At b g H l o) (hp : H p = none) : l ≠ p := ne_of_none A.at_ hp
theorem isSome_word {t p : V} (h : (wordOf t p).isSome = true) : ∃ n, wordOf t p = some n := Option.isSome_iff_exists.mp h
/-! ### cuts -/
theorem asg_cut {te : TE} {i : Nat} {σ : L2.St} {H : Hp} {D : Ends} (R : V → Hp → Prop) (h : ∀ Q : VK, (∀ x H', R x H' → Q x H') → te σ H Q) (k : ∀ x H', R x H' → gName i x σ H' D.nx) : tAsg te (gName i) D σ H := h _ k
theorem seq_cut {tu tw : TS} {σ : L2.St} {H : Hp} {D : Ends} (R : L2.St → Hp → Prop) (h : ∀ N : L2.St → Hp → Prop, (∀ σ' H', R σ' H' → N σ' H') → tu { D with nx := N } σ H) (k : ∀ σ' H', R σ' H' → tw D σ' H') : tSeq tu tw D σ H := h _ k
section
variable {b g : Addr} {Ts : Ts2} {H : Hp} {Q : VK} {σ : L2.St} {xs : List V}
/-- a new object -/
def NewO (o : HO) (H : Hp) (Q : VK) : Prop := ∀ p, H p = none → Q (.ref p) (upd H p o)
theorem w_tupN {tA : TA} (q : tA σ H fun xs H1 => xs.length ≤ sizeLine ∧ NewO (.tup xs) H1 Q) : tTup tA σ H Q := q
theorem w_lstN {tA : TA} (q : tA σ H fun xs H1 => xs.length ≤ sizeLine ∧ NewO (.lst xs) H1 Q) : tLst tA σ H Q := q
theorem w_dN (q : NewO (.dK []) H Q) : tDNewK σ H Q := q
theorem w_slN {K : PySem.W.Frag} {a : Addr} {lo hi : Option Int} (h : SqL K H a xs) (q : NewO (.lst (cutV xs lo hi)) H Q) : rSlL K (.ref a) lo hi H Q := ⟨a, xs, rfl, h, q⟩
theorem w_catN {l m : Addr} {zs : List V} (h1 : H l = some (.lst xs)) (h2 : H m = some (.lst zs)) (h3 : xs.length + zs.length ≤ sizeLine) (q : NewO (.lst (xs ++ zs)) H Q) : rCat (.ref l) (.ref m) H Q := ⟨l, m, xs, zs, rfl, rfl, h1, h2, h3, q⟩
theorem newL (Pr : List V → Prop) (hP : Pr xs) (S : Sd Ts b g H) (q : ∀ ys l H', Pr ys → Sd Ts b g H' → Same H H' → At b g H' l (.lst ys) → Kn H' (.ref l) → Q (.ref l) H') : NewO (.lst xs) H Q := fun l hl =>
  q xs l _ hP (S.same (sameUpd hl)) (sameUpd hl) (.new S.bag hl fun _ z => nomatch z) kn_newL
theorem newT (S : Sd Ts b g H) (q : ∀ l H', Sd Ts b g H' → Same H H' → At b g H' l (.tup xs) → Kn H' (.ref l) → Q (.ref l) H') : NewO (.tup xs) H Q := fun l hl =>
  q l _ (S.same (sameUpd hl)) (sameUpd hl) (.new S.bag hl fun _ z => nomatch z) kn_new
theorem newD (S : Sd Ts b g H) (q : ∀ l H', Sd Ts b g H' → Same H H' → Kn H' (.ref l) → Q (.ref l) H') : NewO (.dK []) H Q := fun l hl =>
  q l _ (S.same (sameUpd hl)) (sameUpd hl) kn_newD
def RL (Ts : Ts2) (b g : Addr) (H : Hp) (n : Nat) : V → Hp → Prop := fun x H' => Sd Ts b g H' ∧ Go b g H H' ∧ ∃ l es, x = .ref l ∧ At b g H' l (.lst es) ∧ AllKn H' es ∧ es.length = n
def RK (Ts : Ts2) (b g : Addr) (H : Hp) : V → Hp → Prop := fun x H' => Sd Ts b g H' ∧ Go b g H H' ∧ Kn H' x
def RI (Ts : Ts2) (b g : Addr) (H : Hp) : V → Hp → Prop := fun x H' => Sd Ts b g H' ∧ Go b g H H' ∧ ∃ i, x = .int i
theorem w_repN {a : Addr} {k : Int} (h : H a = some (.lst xs)) (h1 : -(2 ^ 63) ≤ k) (h2 : k < 2 ^ 63) (h3 : xs.length * k.toNat ≤ sizeLine) (q : NewO (.lst (List.replicate k.toNat xs).flatten) H Q) : rRep (.ref a) (.int k) H Q := ⟨a, k, xs, rfl, rfl, h, h1, h2, h3, q⟩
/-- a list of ours is written -/
theorem Sd.wr (S : Sd Ts b g H) {l : Addr} (A : At b g H l (.lst xs)) (ys : List V) : Sd Ts b g (upd H l (.lst ys)) := by
  refine ⟨?_, fun p hp => ?_⟩
  · obtain ⟨n, ⟨x, c, v, h1, h2⟩, gs, h3⟩ := S.bag
    exact ⟨n, ⟨x, c, v, by rw [upd_ne (Ne.symm A.n1)]; exact h1, h2⟩, gs, by rw [upd_ne (Ne.symm A.n2)]; exact h3⟩
  · obtain ⟨ps, h1, h2, h3⟩ := S.tabs p hp
    refine ⟨ps, ?_, h2, fun pos cv hc => ?_⟩
    · rw [upd_ne (ne_of h1 A.at_ (by intro z; cases z))]
      exact h1
    · obtain ⟨c, e1, e2⟩ := h3 pos cv hc
      refine ⟨c, e1, ?_⟩
      rw [upd_ne (ne_of (show H c = some (.ext _) from e2) A.at_ (by intro z; cases z))]
      exact e2
theorem At.wr {l m : Addr} {o o' : HO} (A : At b g H l o) (h : l ≠ m) : At b g (upd H m o') l o := ⟨A.n1, A.n2, A.nt, by rw [upd_ne h]; exact A.at_⟩
theorem Go.wr {H0 : Hp} {l : Addr} {o : HO} (G : Go b g H0 H) (h : H0 l = none) : Go b g H0 (upd H l o) := fun a u h1 h2 h3 e => by
  rw [upd_ne (ne_of_none e h)]
  exact G a u h1 h2 h3 e
def Ints (xs : List V) : Prop := ∀ v ∈ xs, ∃ i, v = .int i
theorem Ints.nil : Ints [] := fun _ h => nomatch h
theorem Ints.cons {i : Int} (h : Ints xs) : Ints (.int i :: xs) := fun v hv => (List.mem_cons.mp hv).elim (fun e => ⟨i, e⟩) (h v)
theorem Ints.app {ys : List V} (h : Ints xs) (h' : Ints ys) : Ints (xs ++ ys) := fun v hv => (List.mem_append.mp hv).elim (h v) (h' v)
theorem Ints.kn (h : Ints xs) : AllKn H xs := fun v hv => by
  obtain ⟨i, rfl⟩ := h v hv
  rfl
/-- one of a list of known values and a piece of another -/
theorem some_of {K : PySem.W.Frag} {lo : TE} {E : XK} {j : Nat} {ys : List V} {l2 : Addr} {tl : TE} {d : Int} (S : Sd Ts b g H)
    (hb : σ[0]? = some (some (.ref b))) (hi : σ[j]? = some (some (.ref l2))) (A2 : At b g H l2 (.lst ys)) (K2 : AllKn H ys) (hy : ys.length ≤ 20)
    (hl : ∀ Q : VK, (∀ l H' xs, Sd Ts b g H' → Go b g H H' → At b g H' l (.lst xs) → AllKn H' xs → 1 ≤ xs.length → xs.length ≤ 20 → Q (.ref l) H') → tl σ H Q)
    (hlo : ∀ (H : Hp) (Q : Int → Hp → Prop), Sd Ts b g H → (∀ d H', Sd Ts b g H' → Go b g H H' → Q d H') → lo σ H fun x H1 => ∃ i, x = .int i ∧ Q i H1)
    (q : ∀ x H', RK Ts b g H x H' → Q x H') :
    tCall spSome [] E (tCons (tVar 0) (tCons (tOp rCat tl (tSl (rSlL K) (tSl (rSlL K) (tVar j) (tPart lo) tNoPart) tNoPart (tPart (tC (.int d))))) tNil)) σ H Q := by
  refine w_call (w_cons (w_var hb (w_cons (w_op (hl _ fun l H1 xs S1 G1 A1 K1 h1 h2 => ?_)))))
  refine w_sl (w_sl (w_var hi (w_part (hlo _ _ S1 fun d1 H2 S2 G2 => ?_))))
  refine w_noPart (w_slN (.of ((A2.go G1).go G2).at_) ?_)
  have K2' : AllKn H2 ys := (K2.go S1.bag G1).go S2.bag G2
  refine newL (fun zs => AllKn H2 zs ∧ zs.length ≤ 20) ⟨K2'.cut _ _, Nat.le_trans (cut_len _ _ _) hy⟩ S2 fun zs l3 H3 hz S3 s3 A3 _ => ?_
  refine w_noPart (w_part (w_c ⟨_, rfl, w_slN (.of A3.at_) ?_⟩))
  refine newL (fun us => AllKn H3 us ∧ us.length ≤ 20) ⟨(hz.1.same s3).cut _ _, Nat.le_trans (cut_len _ _ _) hz.2⟩ S3 fun us l4 H4 hu S4 s4 A4 _ => ?_
  have G4 : Go b g H1 H4 := (G2.trans (.same s3)).trans (.same s4)
  refine w_catN (A1.go G4).at_ A4.at_ (Nat.le_trans (Nat.add_le_add h2 hu.2) (by decide)) ?_
  refine newL (fun vs => AllKn H4 vs ∧ 1 ≤ vs.length ∧ vs.length ≤ 40) ⟨(K1.go S4.bag G4).app (hu.1.same s4), by rw [List.length_append]; omega, by rw [List.length_append]; omega⟩ S4 fun vs l5 H5 hv S5 s5 A5 _ => ?_
  refine w_nil ⟨b, g, l5, vs, rfl, S5.bag, A5.n1, A5.n2, A5.at_, ?_, by omega, fun v H6 hm B6 k6 => ?_⟩
  · intro z
    rw [z] at hv
    simp at hv
  · have S6 := S5.keep B6 k6
    refine q v H6 ⟨S6, (G1.trans (G4.trans (.same s5))).trans (.keep k6), Kn.go S6.bag (.keep k6) (s5.kn (hv.1 v hm))⟩
end
local macro_rules | `(tactic| walk_at "w1") => `(tactic| first
  | ((with_reducible refine' L2.w_var ?h ?q); (case h => rfl))
  | with_reducible refine L2.w_c ?_ | with_reducible refine L2.w_cons ?_ | with_reducible refine L2.w_nil ?_
  | with_reducible refine L2.w_op ?_ | with_reducible refine L2.w_un ?_ | with_reducible refine L2.w_I0 ?_ | with_reducible refine L2.w_U ?_ | with_reducible refine L2.w_eqI ?_ | with_reducible refine L2.w_neI ?_
  | with_reducible refine L2.w_test ?_ | with_reducible refine L2.w_B ?_ | with_reducible refine L2.w_bl ?_ | with_reducible refine L2.w_t ?_ | with_reducible refine L2.w_f ?_
  | with_reducible refine L2.w_and ?_ | with_reducible refine L2.w_or ?_ | with_reducible refine L2.w_not ?_ | with_reducible refine L2.w_andV ?_ | with_reducible refine L2.w_orV ?_ | with_reducible refine L2.w_notV ?_
  | with_reducible refine L2.w_ifE ?_ | with_reducible refine L2.w_chain ?_ | with_reducible refine L2.w_isN ?_ | with_reducible refine L2.w_notN ?_
  | with_reducible refine L2.w_seq ?_ | with_reducible refine L2.w_asg ?_ | with_reducible refine L2.w_name ?_ | with_reducible refine L2.w_ret ?_ | with_reducible refine L2.w_retN ?_ | with_reducible refine L2.w_ifS ?_ | with_reducible refine L2.w_next ?_ | with_reducible refine L2.w_drop ?_
  | with_reducible refine K52.w_tupN ?_ | with_reducible refine K52.w_lstN ?_ | with_reducible refine K52.w_dN ?_ | with_reducible refine L2.w_call ?_ | with_reducible refine L2.w_CB ?_
  | with_reducible refine L2.w_int1 ?_ | with_reducible refine L2.w_intb ?_ | with_reducible refine L2.w_abs ?_
  | ((with_reducible refine' L2.w_I ?h ?q); (case h => first | (show (0 : Int) < _; decide) | exact ⟨by decide, by decide⟩ | exact .inr ⟨by decide, by decide⟩ | exact .inl ⟨by decide, by decide⟩ | exact ⟨by decide, by decide, by decide⟩ | exact .inl ⟨by omega, by omega⟩))
  | with_reducible refine L2.w_for ?_ | with_reducible refine L2.w_rng1 ?_ | with_reducible refine L2.w_itL ?_ | with_reducible refine L2.w_itT ?_ | with_reducible refine L2.w_lc ?_ | with_reducible refine L2.w_yes ?_
  | with_reducible refine L2.w_nt ?_ | with_reducible refine L2.w_nf ?_ | with_reducible refine L2.w_fld ?_ | with_reducible refine L2.w_BM ?_ | with_reducible refine L2.w_sl ?_ | with_reducible refine L2.w_noPart ?_ | with_reducible refine L2.w_part ?_ | with_reducible refine L2.w_in ?_)
local macro_rules | `(tactic| walk_at "w") => `(tactic| repeat (walk_at "w1"))
theorem ok_law_words_right (T : Txn P K mg) {Ts : Ts2} {f c Pt gT : Addr} {fd fdT : FuncData} (F : FnP K "_law_words_right" s_law_words_right f fd) (hc : fd.code = .ref c) (TB : TabB base mg c Pt) (hm1 : (Pt, qW) ∈ Ts) (hu : ∀ p ∈ Ts, p.1 = Pt → p.2 = qW)
    (Ftold : FnP K "_law_told" s_law_told gT fdT) (hmTold : mg "_law_told" = some (.ref gT))
    (D_law_pick : Cal P w K mg base CX0 1 "_law_pick" P_law_pick spPick) (D_law_some : Cal P w K mg base CX0 2 "_law_some" P_law_some spSome) (D_law_deep : Cal P w K mg base CX0 3 "_law_deep" P_law_deep spDeep)
    (D_law_is : CalG P w K mg base CX0 2 "_law_is" P_law_is (spIs K)) (D_law_is_payload : Cal P w K mg base CX0 2 "_law_is_payload" P_law_is_payload spLawPay)
    (D_word : Cal P w K mg base (L2.CX P w) 4 "word" P_word (spWord (He.ga K "NoWord"))) (D_tag_of : Cal P w K mg base (L2.CX P w) 5 "tag_of" P_tag_of (spTell (He.ga K "NoWord") fun i => i % 8))
    (D_payload_of : Cal P w K mg base (L2.CX P w) 5 "payload_of" P_payload_of (spTell (He.ga K "NoWord") fun i => i / 8)) :
    FnG P w K mg base CX0 12 f fd P_law_words_right (spRight Ts) := by
  refine F.okG sc_law_words_right (fun vs H Q E h => ?_) (fun cdv A outer s H vs Q E hg0 hr hcI hcd h => ?_)
  · obtain ⟨b, g, rfl, _⟩ := h
    rfl
  · obtain ⟨b, g, rfl, S, q⟩ := h
    obtain rfl : cdv = .ref c := hcd.symm.trans hc
    refine ⟨_, PSs.nox (pss_cons (ps_set (i := 1) sc_law_words_right.nd rfl (Or.inl rfl) (pe_lst (pa_cons pe_int (pa_cons pe_int (pa_cons (pe_un un_neg pe_int) (pa_cons pe_int (pa_cons pe_int (pa_cons pe_int (pa_cons (pe_op op_sub (pe_op op_pow pe_int pe_int) pe_int) (pa_cons (pe_op op_pow pe_int pe_int) (pa_cons (pe_un un_neg (pe_op op_pow pe_int pe_int)) (pa_cons (pe_op op_sub (pe_un un_neg (pe_op op_pow pe_int pe_int)) pe_int) (pa_cons (pe_op op_pow pe_int pe_int) (pa_cons (pe_cal D_law_pick hr rfl rfl pass0 (pa_cons (pv 0) (pa_cons (pe_op op_pow pe_int pe_int) pa_nil))) pa_nil))))))))))))))
  (pss_cons (ps_set (i := 2) sc_law_words_right.nd rfl (Or.inl rfl) (pe_lst (pa_cons pe_bl (pa_cons pe_bl (pa_cons pe_non (pa_cons pe_str (pa_cons (pe_tup (pa_cons pe_int pa_nil)) (pa_cons (pe_lst (pa_cons pe_int pa_nil)) (pa_cons (pe_cal D_law_deep hr rfl rfl pass0 (pa_cons (pv 0) pa_nil)) (pa_cons pe_dnewK pa_nil))))))))))
  (pss_cons (ps_set (i := 3) sc_law_words_right.nd rfl (Or.inr rfl) (pe_cal D_law_some hr rfl rfl pass0 (pa_cons (pv 0) (pa_cons (pe_op op_cat (pe_lst (pa_cons pe_int (pa_cons pe_int (pa_cons pe_int (pa_cons pe_int (pa_cons pe_int (pa_cons pe_int (pa_cons pe_int (pa_cons pe_int (pa_cons (pe_un un_neg pe_int) pa_nil)))))))))) (pe_slice sl_list (pe_slice sl_list (pv 2) (po_some (pe_cal D_law_pick hr rfl rfl pass0 (pa_cons (pv 0) (pa_cons pe_int pa_nil)))) po_none) po_none (po_some pe_int))) pa_nil))))
  (pss_cons (ps_set (i := 4) sc_law_words_right.nd rfl (Or.inr rfl) (pe_cal D_law_some hr rfl rfl pass0 (pa_cons (pv 0) (pa_cons (pe_op op_cat (pv 1) (pe_slice sl_list (pe_slice sl_list (pv 2) (po_some (pe_cal D_law_pick hr rfl rfl pass0 (pa_cons (pv 0) (pa_cons pe_int pa_nil)))) po_none) po_none (po_some pe_int))) pa_nil))))
  (pss_cons (ps_set (i := 5) sc_law_words_right.nd rfl (Or.inl rfl) (pe_tup (pa_cons pe_non (pa_cons pe_str pa_nil))))
  (pss_cons (ps_if (pt_val (pe_cal D_law_is_payload hr rfl rfl pass0 (pa_cons (pv 3) (pa_cons (pv 4) pa_nil)))) (pss_one (ps_set (i := 5) sc_law_words_right.nd rfl (Or.inl rfl) (pe_tup (pa_cons (pe_op op_add (pe_op op_mul pe_int (pv 4)) (pv 3)) (pa_cons pe_str pa_nil))))) pss_nil)
  (pss_cons (ps_if (pt_not (pt_val (pe_calG D_law_is hg0 hr rfl rfl pass0 (pa_cons (pe_told (Ts := Ts) (k := 8) T Ftold hmTold TB rfl hm1 hu (hr.mono (by decide)) (lamS_by (sc := defScope s_law_words_right) (by decide +kernel)) rfl (fun _ _ _ _ _ => rfl) (fun A outer s H E f c' hr => pe_calS D_word hr rfl rfl (takes_of rfl rfl rfl rfl) (pa_cons (pv 3) (pa_cons (pv 4) pa_nil)))) (pa_cons (pv 5) pa_nil))))) (pss_one (ps_ret pe_bl)) pss_nil)
  (pss_cons (ps_set (i := 6) sc_law_words_right.nd rfl (Or.inr rfl) (pe_cal D_law_some hr rfl rfl pass0 (pa_cons (pv 0) (pa_cons (pe_lst (pa_cons pe_int (pa_cons pe_int (pa_cons pe_int (pa_cons pe_int (pa_cons (pe_un un_neg pe_int) (pa_cons (pe_op op_sub (pe_op op_pow pe_int pe_int) pe_int) (pa_cons (pe_op op_pow pe_int pe_int) pa_nil)))))))) pa_nil))))
  (pss_cons (ps_set (i := 7) sc_law_words_right.nd rfl (Or.inr rfl) (pe_cal D_law_some hr rfl rfl pass0 (pa_cons (pv 0) (pa_cons (pe_op op_cat (pe_lc (own := [("rest", 8)]) (g := gName 8) rfl sc_law_words_right.nd (pi_range1 (by rfl) T.f_range (pa_cons pe_int pa_nil)) (blkOk_by (own := [("rest", 8)]) (N := N_law_words_right) (sc := defScope s_law_words_right) (by decide +kernel)) (fun _ _ _ _ _ => pg_name (i := 8) sc_law_words_right.nd rfl (Or.inl rfl)) (fun _ _ _ _ _ => pts_nil) (fun _ _ _ _ _ => (pe_op op_add (pe_op op_mul pe_int (pv 6)) (pv 8)))) (pv 2)) pa_nil))))
  (pss_cons (ps_set (i := 9) sc_law_words_right.nd rfl (Or.inl rfl) (pe_and (pe_callB call_isi (by rfl) T.f_isinstance (by decide +kernel) (pa_cons (pv 7) (pa_cons (pe_bltn (v := .ty "int") (by rfl) T.f_int (by decide +kernel) rfl) pa_nil))) (pe_and (pe_not (pe_callB call_isi (by rfl) T.f_isinstance (by decide +kernel) (pa_cons (pv 7) (pa_cons (pe_bltn (v := .ty "bool") (by rfl) T.f_bool (by decide +kernel) rfl) pa_nil)))) (pe_one (pe_cal D_law_is_payload hr rfl rfl pass0 (pa_cons (pe_op op_mod (pv 7) pe_int) (pa_cons (pe_op op_fdiv (pv 7) pe_int) pa_nil)))))))
  (pss_cons (ps_set (i := 5) sc_law_words_right.nd rfl (Or.inl rfl) (pe_ifExp (pt_val (pv 9)) (pe_lst (pa_cons (pe_tup (pa_cons (pe_op op_mod (pv 7) pe_int) (pa_cons pe_str pa_nil))) (pa_cons (pe_tup (pa_cons (pe_op op_fdiv (pv 7) pe_int) (pa_cons pe_str pa_nil))) pa_nil))) (pe_op op_rep (pe_lst (pa_cons (pe_tup (pa_cons pe_non (pa_cons pe_str pa_nil))) pa_nil)) pe_int)))
  (pss_cons (ps_set (i := 10) sc_law_words_right.nd rfl (Or.inl rfl) (pe_lst (pa_cons (pe_told (Ts := Ts) (k := 8) T Ftold hmTold TB rfl hm1 hu (hr.mono (by decide)) (lamS_by (sc := defScope s_law_words_right) (by decide +kernel)) rfl (fun _ _ _ _ _ => rfl) (fun A outer s H E f c' hr => pe_calS D_tag_of hr rfl rfl (takes_of rfl rfl rfl rfl) (pa_cons (pv 7) pa_nil))) pa_nil)))
  (pss_cons (ps_expr (pe_bm PySem.F.plainAttrs_list PySem.F.slot_list_append PySem.F.type_list_append mt_append (pv 10) (pa_cons (pe_told (Ts := Ts) (k := 8) T Ftold hmTold TB rfl hm1 hu (hr.mono (by decide)) (lamS_by (sc := defScope s_law_words_right) (by decide +kernel)) rfl (fun _ _ _ _ _ => rfl) (fun A outer s H E f c' hr => pe_calS D_payload_of hr rfl rfl (takes_of rfl rfl rfl rfl) (pa_cons (pv 7) pa_nil))) pa_nil)))
  (pss_one (ps_ret (pe_calG D_law_is hg0 hr rfl rfl pass0 (pa_cons (pv 10) (pa_cons (pv 5) pa_nil)))))))))))))))))), ?_⟩
    have e0 : (start N_law_words_right [V.ref b]) = [some (V.ref b), none, none, none, none, none, none, none, none, none, none] := rfl
    rw [e0]
    have pick : ∀ {σ : L2.St} (H : Hp) (Q : Int → Hp → Prop) (E : XK) (m : Int), 0 < m → m < 1073741824 → σ[0]? = some (some (.ref b)) → Sd Ts b g H → (∀ d H', Sd Ts b g H' → Go b g H H' → Q d H') →
        tCall spPick [] E (tCons (tVar 0) (tCons (tC (.int m)) tNil)) σ H fun x H1 => ∃ i, x = .int i ∧ Q i H1 := fun H Q E m m0 m1 e S q =>
      w_call (w_cons (w_var e (w_cons (w_c (w_nil ⟨b, g, m, rfl, S.bag, m0, m1, fun d H' _ _ B k => ⟨d, rfl, q d H' (S.keep B k) (.keep k)⟩⟩)))))
    -- ends
    with_reducible refine w_seq ?_
    refine asg_cut (RL Ts b g H 12) (fun Q k => ?_) ?_
    · walk_at "w"
      refine ⟨b, g, _, rfl, S.bag, by decide, by decide, fun d0 H1 _ _ B1 k1 => ?_⟩
      have S1 := S.keep B1 k1
      walk_at "w"
      refine ⟨by show 12 ≤ sizeLine; decide, newL (fun ys => AllKn H1 ys ∧ ys.length = 12) ⟨?_, rfl⟩ S1 fun ys l H2 hy S2 s2 A2 _ => ?_⟩
      · repeat (refine AllKn.cons rfl ?_)
        exact .nil
      · exact k _ _ ⟨S2, (Go.keep k1).trans (.same s2), l, ys, rfl, A2, hy.1.same s2, hy.2⟩
    rintro _ H1 ⟨S1, G1, l1, E1, rfl, A1, K1, n1⟩
    refine w_name ?_
    -- odd
    with_reducible refine w_seq ?_
    refine asg_cut (RL Ts b g H1 8) (fun Q k => ?_) ?_
    · walk_at "w"
      refine ⟨by show 1 ≤ sizeLine; decide, newT S1 fun p1 H2 S2 s2 _ k1 => ?_⟩
      walk_at "w"
      refine ⟨by show 1 ≤ sizeLine; decide, newL (fun _ => True) trivial S2 fun _ p2 H3 _ S3 s3 _ k2 => ?_⟩
      walk_at "w"
      refine ⟨b, g, rfl, S3.bag, fun v H4 kv B4 k4 => ?_⟩
      have S4 := S3.keep B4 k4
      walk_at "w"
      refine newD S4 fun p3 H5 S5 s5 k3 => ?_
      walk_at "w"
      have G45 : Go b g H3 H5 := (Go.keep k4).trans (.same s5)
      refine ⟨by show 8 ≤ sizeLine; decide, newL (fun ys => AllKn H5 ys ∧ ys.length = 8) ⟨?_, rfl⟩ S5 fun ys l H6 hy S6 s6 A6 _ => ?_⟩
      · refine .cons rfl (.cons rfl (.cons rfl (.cons rfl (.cons ?_ (.cons ?_ (.cons ?_ (.cons ?_ .nil)))))))
        · exact Kn.go S5.bag G45 (s3.kn k1)
        · exact Kn.go S5.bag G45 k2
        · exact s5.kn kv
        · exact k3
      · exact k _ _ ⟨S6, ((Go.same (s2.trans s3)).trans G45).trans (.same s6), l, ys, rfl, A6, hy.1.same s6, hy.2⟩
    rintro _ H2 ⟨S2, G2, l2, E2, rfl, A2, K2, n2⟩
    refine w_name ?_
    -- tag
    with_reducible refine w_seq ?_
    refine asg_cut (RK Ts b g H2) (fun Q k => ?_) ?_
    · refine some_of S2 rfl rfl A2 K2 (by omega) (fun Q q => ?_) (fun H Q S q => pick _ _ _ _ (by decide) (by decide) rfl S q) k
      walk_at "w"
      refine ⟨by show 9 ≤ sizeLine; decide, newL (fun ys => AllKn H2 ys ∧ ys.length = 9) ⟨?_, rfl⟩ S2 fun ys l H3 hy S3 s3 A3 _ => ?_⟩
      · repeat (refine AllKn.cons rfl ?_)
        exact .nil
      · exact q _ _ _ S3 (.same s3) A3 (hy.1.same s3) (by omega) (by omega)
    rintro t H3 ⟨S3, G3, kt⟩
    refine w_name ?_
    -- payload
    with_reducible refine w_seq ?_
    refine asg_cut (RK Ts b g H3) (fun Q k => ?_) ?_
    · refine some_of S3 rfl rfl (A2.go G3) (K2.go S3.bag G3) (by omega) (fun Q q => ?_) (fun H Q S q => pick _ _ _ _ (by decide) (by decide) rfl S q) k
      refine w_var rfl ?_
      exact q _ _ _ S3 .refl ((A1.go G2).go G3) ((K1.go S2.bag G2).go S3.bag G3) (by omega) (by omega)
    rintro p H4 ⟨S4, G4, kp⟩
    have kt4 := Kn.go S4.bag G4 kt
    have A24 := (A2.go G3).go G4
    have K24 := (K2.go S3.bag G3).go S4.bag G4
    refine w_name ?_
    -- due
    with_reducible refine w_seq ?_
    refine asg_cut (fun x H' => Sd Ts b g H' ∧ Go b g H4 H' ∧ ∃ l, x = .ref l ∧ At b g H' l (.tup [.non, .str "word"])) (fun Q k => ?_) ?_
    · walk_at "w"
      exact ⟨by show 2 ≤ sizeLine; decide, newT S4 fun l H5 S5 s5 A5 _ => k _ _ ⟨S5, .same s5, l, rfl, A5⟩⟩
    rintro _ H5 ⟨S5, G5, l5, rfl, A5⟩
    refine w_name ?_
    have kt5 := Kn.go S5.bag G5 kt4
    have kp5 := Kn.go S5.bag G5 kp
    have A25 := A24.go G5
    have K25 := K24.go S5.bag G5
    with_reducible refine seq_cut (fun σ' H' => ∃ l, σ' = [some (.ref b), some (.ref l1), some (.ref l2), some t, some p, some (.ref l), none, none, none, none, none] ∧ Sd Ts b g H' ∧ Go b g H5 H' ∧ At b g H' l (.tup [ansV (wordOf t p), .str (ansS (wordOf t p))])) (fun N k => ?_) ?_
    · walk_at "w"
      refine ⟨t, p, rfl, kt5, kp5, fun H6 s6 => ?_⟩
      have S6 := S5.same s6
      walk_at "w"
      cases hw : wordOf t p with
      | none =>
        rw [hw] at k
        refine w_f ?_
        exact k _ _ ⟨l5, rfl, S6, .same s6, A5.go (.same s6)⟩
      | some n =>
        rw [hw] at k
        obtain ⟨i, j, rfl, rfl, rfl⟩ := wordOf_some hw
        refine w_t ?_
        walk_at "w"
        refine ⟨by show 2 ≤ sizeLine; decide, newT S6 fun l H7 S7 s7 A7 _ => ?_⟩
        walk_at "w"
        exact k _ _ ⟨l, rfl, S7, (Go.same s6).trans (.same s7), A7⟩
    rintro _ H6 ⟨l6, rfl, S6, G6, A6⟩
    have kt6 := Kn.go S6.bag G6 kt5
    have kp6 := Kn.go S6.bag G6 kp5
    have A26 := A25.go G6
    have K26 := K25.go S6.bag G6
    -- the first told
    walk_at "w"
    refine told_word S6 rfl rfl kt6 kp6 fun a7 H7 S7 G7 A7 => ?_
    walk_at "w"
    have FW := ans_fine (wordOf_small (t := t) (p := p))
    refine ⟨a7, l6, _, rfl, dp_ans A7.at_, dp_ans (A6.go G7).at_, FW.sh, FW.so, FW.nd, FW.dp, FW.ln, ?_⟩
    refine w_bl (w_nt ?_)
    with_reducible refine w_next ?_
    have A27 := A26.go G7
    have K27 := K26.go S7.bag G7
    -- end
    with_reducible refine w_seq ?_
    refine asg_cut (RI Ts b g H7) (fun Q k => ?_) ?_
    · walk_at "w"
      refine ⟨by show 7 ≤ sizeLine; decide, newL (fun ys => Ints ys ∧ ys.length = 7) ⟨?_, rfl⟩ S7 fun ys l H8 hy S8 s8 A8 _ => ?_⟩
      · repeat (refine Ints.cons ?_)
        exact .nil
      · walk_at "w"
        refine ⟨b, g, l, ys, rfl, S8.bag, A8.n1, A8.n2, A8.at_, ?_, by omega, fun v H9 hv B9 k9 => ?_⟩
        · intro z
          rw [z] at hy
          exact absurd hy.2 (by decide)
        · exact k _ _ ⟨S8.keep B9 k9, (Go.same s8).trans (.keep k9), hy.1 v hv⟩
    rintro _ H8 ⟨S8, G8, e, rfl⟩
    refine w_name ?_
    have A28 := A27.go G8
    have K28 := K27.go S8.bag G8
    -- told
    with_reducible refine w_seq ?_
    refine asg_cut (RK Ts b g H8) (fun Q k => ?_) ?_
    · walk_at "w"
      refine ⟨_, rfl, by decide, by decide, fun D hD => lc_range (Pv := fun i H' => Sd Ts b g H' ∧ Go b g H8 H' ∧ ∃ acc, At b g H' D (.lst acc) ∧ Ints acc ∧ acc.length = i) ⟨S8.same (sameUpd hD), .same (sameUpd hD), [], .new S8.bag hD (fun _ z => nomatch z), .nil, rfl⟩ ?_ ?_⟩
      · rintro i H9 hi ⟨S9, G9, acc, A9, I9, n9⟩
        walk_at "w"
        refine ⟨rfl, ?_⟩
        walk_at "w"
        refine ⟨acc, A9.at_, Nat.lt_of_lt_of_le (show acc.length < 100 by omega) (by decide), S9.wr A9 _, G9.wr hD, _, ⟨A9.n1, A9.n2, (fun _ z => nomatch z), upd_same⟩, I9.app (.cons .nil), ?_⟩
        rw [List.length_append, n9]
        rfl
      · rintro H9 ⟨S9, G9, acc, A9, I9, n9⟩
        walk_at "w"
        refine w_catN A9.at_ (A28.go G9).at_ (Nat.le_trans (show acc.length + E2.length ≤ 40 by omega) (by decide)) ?_
        refine newL (fun vs => AllKn H9 vs ∧ 1 ≤ vs.length ∧ vs.length ≤ 40) ⟨I9.kn.app (K28.go S9.bag G9), by rw [List.length_append]; omega, by rw [List.length_append]; omega⟩ S9 fun vs l H10 hv S10 s10 A10 _ => ?_
        walk_at "w"
        refine ⟨b, g, l, vs, rfl, S10.bag, A10.n1, A10.n2, A10.at_, ?_, by omega, fun v H11 hm B11 k11 => ?_⟩
        · intro z
          rw [z] at hv
          simp at hv
        · have S11 := S10.keep B11 k11
          exact k _ _ ⟨S11, (G9.trans (.same s10)).trans (.keep k11), Kn.go S11.bag (.keep k11) (s10.kn (hv.1 v hm))⟩
    rintro v H9 ⟨S9, G9, kv⟩
    refine w_name ?_
    -- is_word
    with_reducible refine w_seq ?_
    refine asg_cut (fun x H' => x = .bl (isRaw v) ∧ Same H9 H') (fun Q k => ?_) ?_
    · walk_at "w"
      refine w_isInt kv ?_
      walk_at "w"
      rcases int_cases v with ⟨i, rfl⟩ | hv
      · refine w_t ?_
        walk_at "w"
        refine w_isBool kv ?_
        walk_at "w"
        refine w_nf ?_
        walk_at "w"
        refine ⟨_, _, rfl, rfl, rfl, fun H' s' => ?_⟩
        rw [raw_word]
        exact k _ _ ⟨rfl, s'⟩
      · have hr : isRaw v = false := by
          cases v with
          | int i => cases hv
          | _ => rfl
        rw [hr] at k
        refine w_2 (fun h1 => ?_) (fun _ => ?_)
        · walk_at "w"
          refine w_isBool kv ?_
          rw [isBl_of h1 hv]
          walk_at "w"
          exact k _ _ ⟨rfl, Same.refl _⟩
        · exact k _ _ ⟨rfl, Same.refl _⟩
    rintro _ H10 ⟨rfl, s10⟩
    refine w_name ?_
    have S10 := S9.same s10
    have kv10 := s10.kn kv
    -- due
    with_reducible refine w_seq ?_
    refine asg_cut (fun x H' => Sd Ts b g H' ∧ Go b g H10 H' ∧ ∃ l a1 a2, x = .ref l ∧ At b g H' l (.lst [.ref a1, .ref a2]) ∧ At b g H' a1 (.tup [ansV (tellOf (fun i => i % 8) v), .str (ansS (tellOf (fun i => i % 8) v))]) ∧
      At b g H' a2 (.tup [ansV (tellOf (fun i => i / 8) v), .str (ansS (tellOf (fun i => i / 8) v))])) (fun Q k => ?_) ?_
    · walk_at "w"
      cases hw : isRaw v with
      | false =>
        rw [tell_not hw, tell_not hw] at k
        refine w_f ?_
        walk_at "w"
        refine ⟨by show 2 ≤ sizeLine; decide, newT S10 fun a H11 S11 s11 A11 _ => ?_⟩
        walk_at "w"
        refine ⟨by show 1 ≤ sizeLine; decide, newL (fun ys => ys = [V.ref a]) rfl S11 fun ys l H12 hy S12 s12 A12 _ => ?_⟩
        subst hy
        walk_at "w"
        refine w_repN A12.at_ (by decide) (by decide) (by show 1 * 2 ≤ sizeLine; decide) ?_
        refine newL (fun ys => ys = [V.ref a, V.ref a]) rfl S12 fun ys l H13 hy S13 s13 A13 _ => ?_
        subst hy
        have s := s12.trans s13
        exact k _ _ ⟨S13, .same (s11.trans s), l, a, a, rfl, A13, A11.go (.same s), A11.go (.same s)⟩
      | true =>
        obtain ⟨i, rfl⟩ : ∃ i, v = .int i := by
          rcases int_cases v with h | h
          · exact h
          · cases v with
            | int i => exact ⟨i, rfl⟩
            | _ => cases hw
        rw [tell_raw hw, tell_raw hw] at k
        refine w_t ?_
        walk_at "w"
        refine ⟨by show 2 ≤ sizeLine; decide, newT S10 fun a1 H11 S11 s11 A11 _ => ?_⟩
        walk_at "w"
        refine ⟨by show 2 ≤ sizeLine; decide, newT S11 fun a2 H12 S12 s12 A12 _ => ?_⟩
        walk_at "w"
        refine ⟨by show 2 ≤ sizeLine; decide, newL (fun ys => ys = [V.ref a1, V.ref a2]) rfl S12 fun ys l H13 hy S13 s13 A13 _ => ?_⟩
        subst hy
        exact k _ _ ⟨S13, .same ((s11.trans s12).trans s13), l, a1, a2, rfl, A13, A11.go (.same (s12.trans s13)), A12.go (.same s13)⟩
    rintro _ H11 ⟨S11, G11, l11, a1, a2, rfl, A11, A1', A2'⟩
    refine w_name ?_
    have kv11 := Kn.go S11.bag G11 kv10
    -- found
    with_reducible refine w_seq ?_
    refine asg_cut (fun x H' => Sd Ts b g H' ∧ Go b g H11 H' ∧ ∃ l a, x = .ref l ∧ At b g H' l (.lst [.ref a]) ∧ At b g H' a (.tup [ansV (tellOf (fun i => i % 8) v), .str (ansS (tellOf (fun i => i % 8) v))])) (fun Q k => ?_) ?_
    · walk_at "w"
      refine told_tell S11 rfl kv11 fun a H12 S12 G12 A12 => ?_
      walk_at "w"
      refine ⟨by show 1 ≤ sizeLine; decide, newL (fun ys => ys = [V.ref a]) rfl S12 fun ys l H13 hy S13 s13 A13 _ => ?_⟩
      subst hy
      exact k _ _ ⟨S13, G12.trans (.same s13), l, a, rfl, A13, A12.go (.same s13)⟩
    rintro _ H12 ⟨S12, G12, l12, a3, rfl, A12, A3⟩
    refine w_name ?_
    have kv12 := Kn.go S12.bag G12 kv11
    walk_at "w"
    refine ⟨.inl ⟨rfl, _, .of A12.at_⟩, ?_⟩
    walk_at "w"
    refine told_tell S12 rfl kv12 fun a4 H13 S13 G13 A4 => ?_
    walk_at "w"
    have A13 := A12.go G13
    refine ⟨l12, [V.ref a3], _, rfl, rfl, A13.at_, (by show 1 < sizeLine; decide), ?_⟩
    walk_at "w"
    have G1213 := G12.trans G13
    have na : ∀ {a : Addr} {xs : List V}, At b g H13 a (.tup xs) → a ≠ l12 := fun A => ne_of A.at_ A13.at_ (by intro z; cases z)
    have B1 := (A1'.go G1213)
    have B2 := (A2'.go G1213)
    have B3 := (A3.go G13)
    have n11 : l11 ≠ l12 := ne_of (A11.go G1213).at_ A13.at_ (by intro z; cases z)
    have F2 := ans2_fine (tell_small (f := fun i => i % 8) (fun i _ _ => small_of (by omega) (by omega)) (v := v)) (tell_small (f := fun i => i / 8) (fun i _ _ => small_of (by omega) (by omega)) (v := v))
    refine ⟨l12, l11, _, rfl, .lst (.of upd_same) (.cons (dp_ans (B3.wr (na B3)).at_) (.cons (dp_ans (A4.wr (na A4)).at_) .nil)), .lst (.of ((A11.go G1213).wr n11).at_) (.cons (dp_ans (B1.wr (na B1)).at_) (.cons (dp_ans (B2.wr (na B2)).at_) .nil)), F2.sh, F2.so, F2.nd, F2.dp, F2.ln, ?_⟩
    exact q _ (S13.wr A13 _)
end
end K52
namespace K52
open PySem L2 LamX
section
variable {P : Program} {w : World} {K : PySem.W.Frag} {mg : Str → Option Value} {base : Heap}
section
variable {b g : Addr} {Ts : Ts2} {H : Hp} {Q : VK} {σ : L2.St} {xs : List V}
theorem some_of2 {E : XK} {j : Nat} {ys : List V} {l2 : Addr} {tl : TE} (S : Sd Ts b g H)
    (hb : σ[0]? = some (some (.ref b))) (hi : σ[j]? = some (some (.ref l2))) (A2 : At b g H l2 (.lst ys)) (K2 : AllKn H ys) (hy : ys.length ≤ 20)
    (hl : ∀ Q : VK, (∀ l H' xs, Sd Ts b g H' → Go b g H H' → At b g H' l (.lst xs) → AllKn H' xs → 1 ≤ xs.length → xs.length ≤ 20 → Q (.ref l) H') → tl σ H Q)
    (q : ∀ x H', RK Ts b g H x H' → Q x H') :
    tCall spSome [] E (tCons (tVar 0) (tCons (tOp rCat tl (tVar j)) tNil)) σ H Q := by
  refine w_call (w_cons (w_var hb (w_cons (w_op (hl _ fun l H1 xs S1 G1 A1 K1 h1 h2 => ?_)))))
  refine w_var hi ?_
  refine w_catN A1.at_ (A2.go G1).at_ (Nat.le_trans (Nat.add_le_add h2 hy) (by decide)) ?_
  refine newL (fun vs => AllKn H1 vs ∧ 1 ≤ vs.length ∧ vs.length ≤ 40) ⟨K1.app (K2.go S1.bag G1), by rw [List.length_append]; omega, by rw [List.length_append]; omega⟩ S1 fun vs l5 H5 hv S5 s5 A5 _ => ?_
  refine w_nil ⟨b, g, l5, vs, rfl, S5.bag, A5.n1, A5.n2, A5.at_, ?_, by omega, fun v H6 hm B6 k6 => ?_⟩
  · intro z
    rw [z] at hv
    simp at hv
  · have S6 := S5.keep B6 k6
    refine q v H6 ⟨S6, (G1.trans (.same s5)).trans (.keep k6), Kn.go S6.bag (.keep k6) (s5.kn (hv.1 v hm))⟩
/-- a Room that is made -/
def MakeR (K : PySem.W.Frag) (y o c : V) (H : Hp) (Q : VK) (E : XK) : Prop := ∀ x dx, H x = none → H dx = none → dx ≠ x →
  spRoom K (.ref x :: ([y, o, c] ++ [])) (upd (upd H dx (.own x)) x (.ins (He.ga K "Room") dx [])) (fun v H2 => v = .non ∧ Q (.ref x) H2) E
theorem w_mkN {ta tb tc : TE} {E : XK} (q : ta σ H fun y H1 => tb σ H1 fun o H2 => tc σ H2 fun c H3 => MakeR K y o c H3 Q E) : tMake (He.ga K "Room") (spRoom K) [] E (tCons ta (tCons tb (tCons tc tNil))) σ H Q := q
theorem makeR {y o c : V} {E : XK} (hb : roomBad y o c = none) (S : Sd Ts b g H) (ky : Kn H y) (ko : Kn H o) (kc : Kn H c) (q : ∀ p dx H', Sd Ts b g H' → Same H H' → At b g H' p (.ins (He.ga K "Room") dx (rflds y o c)) → Q (.ref p) H') : MakeR K y o c H Q E := by
  intro x dx hx hdx hne
  have s1 : Same H (upd H dx (.own x)) := sameUpd hdx
  have hx1 : (upd H dx (.own x)) x = none := by
    rw [upd_ne (Ne.symm hne)]
    exact hx
  have s2 : Same H (upd (upd H dx (.own x)) x (.ins (He.ga K "Room") dx [])) := s1.trans (sameUpd hx1)
  refine ⟨x, dx, y, o, c, rfl, upd_same, s2.kn ky, s2.kn ko, s2.kn kc, ?_⟩
  rw [hb]
  refine ⟨rfl, ?_⟩
  rw [upd_upd]
  have s3 : Same H (upd (upd H dx (.own x)) x (.ins (He.ga K "Room") dx (rflds y o c))) := s1.trans (sameUpd hx1)
  exact q x dx _ (S.same s3) s3 (.new (S.same s1).bag hx1 fun _ z => nomatch z)
end
theorem bad_names {y o c : V} {z : Str} (h : roomBad y o c = some z) : z = "young" ∨ z = "old" ∨ z = "pace" := by
  unfold roomBad at h
  split at h
  · split at h
    · split at h
      · split at h
        · cases h
        · exact .inr (.inr (Option.some.inj h).symm)
      · exact .inr (.inl (Option.some.inj h).symm)
    · exact .inl (Option.some.inj h).symm
  · exact .inl (Option.some.inj h).symm
theorem room_none {y o c : V} (h : roomBad y o c = none) : ∃ i j k, y = .int i ∧ o = .int j ∧ c = .int k ∧ 8 ≤ i ∧ i ≤ 100000 ∧ i ≤ j ∧ j ≤ 1000000 ∧ 0 ≤ k ∧ k ≤ 1000 := by
  unfold roomBad at h
  split at h
  · rename_i i
    split at h
    · rename_i h1
      split at h
      · rename_i h2
        split at h
        · rename_i h3
          have a1 := within_iff.mp h1
          obtain ⟨j, rfl⟩ : ∃ j, o = .int j := (int_cases o).elim id fun e => by
            rw [within_no e] at h2
            cases h2
          obtain ⟨k, rfl⟩ : ∃ k, c = .int k := (int_cases c).elim id fun e => by
            rw [within_no e] at h3
            cases h3
          have a2 := within_iff.mp h2
          have a3 := within_iff.mp h3
          exact ⟨i, j, k, rfl, rfl, rfl, a1.1, a1.2, a2.1, a2.2, a3.1, a3.2⟩
        · cases h
      · cases h
    · cases h
  · cases h
theorem room_ok {i j k : Int} (h1 : 8 ≤ i) (h2 : i ≤ 100000) (h3 : i ≤ j) (h4 : j ≤ 1000000) (h5 : 0 ≤ k) (h6 : k ≤ 1000) : roomBad (.int i) (.int j) (.int k) = none := by
  show (if isWithin (.int i) 8 100000 = true then (if isWithin (.int j) i 1000000 = true then (if isWithin (.int k) 0 1000 = true then none else some "pace") else some "old") else some "young" : Option Str) = none
  rw [if_pos (within_iff.mpr ⟨h1, h2⟩), if_pos (within_iff.mpr ⟨h3, h4⟩), if_pos (within_iff.mpr ⟨h5, h6⟩)]
def DueAt (b g : Addr) (H : Hp) (r : Option Str) (dv : V) : Prop := match r with
  | none => dv = .non
  | some z => ∃ u, dv = .ref u ∧ At b g H u (.tup [.str "room", .str z])
local macro_rules | `(tactic| walk_at "w1") => `(tactic| first
  | ((with_reducible refine' L2.w_var ?h ?q); (case h => rfl))
  | with_reducible refine L2.w_c ?_ | with_reducible refine L2.w_cons ?_ | with_reducible refine L2.w_nil ?_
  | with_reducible refine L2.w_op ?_ | with_reducible refine L2.w_un ?_ | with_reducible refine L2.w_I0 ?_ | with_reducible refine L2.w_U ?_ | with_reducible refine L2.w_eqI ?_ | with_reducible refine L2.w_neI ?_
  | with_reducible refine L2.w_test ?_ | with_reducible refine L2.w_B ?_ | with_reducible refine L2.w_bl ?_ | with_reducible refine L2.w_t ?_ | with_reducible refine L2.w_f ?_
  | with_reducible refine L2.w_and ?_ | with_reducible refine L2.w_or ?_ | with_reducible refine L2.w_not ?_ | with_reducible refine L2.w_andV ?_ | with_reducible refine L2.w_orV ?_ | with_reducible refine L2.w_notV ?_
  | with_reducible refine L2.w_ifE ?_ | with_reducible refine L2.w_chain ?_ | with_reducible refine L2.w_isN ?_ | with_reducible refine L2.w_notN ?_
  | with_reducible refine L2.w_seq ?_ | with_reducible refine L2.w_asg ?_ | with_reducible refine L2.w_name ?_ | with_reducible refine L2.w_ret ?_ | with_reducible refine L2.w_retN ?_ | with_reducible refine L2.w_ifS ?_ | with_reducible refine L2.w_next ?_ | with_reducible refine L2.w_drop ?_
  | with_reducible refine K52.w_tupN ?_ | with_reducible refine K52.w_lstN ?_ | with_reducible refine K52.w_dN ?_ | with_reducible refine L2.w_call ?_ | with_reducible refine L2.w_CB ?_
  | with_reducible refine L2.w_int1 ?_ | with_reducible refine L2.w_intb ?_ | with_reducible refine L2.w_abs ?_
  | ((with_reducible refine' L2.w_I ?h ?q); (case h => first | (show (0 : Int) < _; decide) | exact ⟨by decide, by decide⟩ | exact .inr ⟨by decide, by decide⟩ | exact .inl ⟨by decide, by decide⟩ | exact ⟨by decide, by decide, by decide⟩ | exact .inl ⟨by omega, by omega⟩))
  | with_reducible refine L2.w_for ?_ | with_reducible refine L2.w_rng1 ?_ | with_reducible refine L2.w_itL ?_ | with_reducible refine L2.w_itT ?_ | with_reducible refine L2.w_lc ?_ | with_reducible refine L2.w_yes ?_
  | with_reducible refine L2.w_nt ?_ | with_reducible refine L2.w_nf ?_ | with_reducible refine L2.w_fld ?_ | with_reducible refine L2.w_BM ?_ | with_reducible refine L2.w_sl ?_ | with_reducible refine L2.w_noPart ?_ | with_reducible refine L2.w_part ?_ | with_reducible refine L2.w_in ?_)
local macro_rules | `(tactic| walk_at "w") => `(tactic| repeat (walk_at "w1"))
theorem ok_law_rooms_right (T : Txn P K mg) {Ts : Ts2} {f c Pt gT fI fE : Addr} {fd fdT fdI fdE : FuncData} (F : FnP K "_law_rooms_right" s_law_rooms_right f fd) (hc : fd.code = .ref c) (TB : TabB base mg c Pt) (hm1 : (Pt, qR) ∈ Ts) (hu : ∀ p ∈ Ts, p.1 = Pt → p.2 = qR)
    (sLR : PySem.W.subIn K (.type "list") (.ref (He.ga K "Room")) = some false)
    (Ftold : FnP K "_law_told" s_law_told gT fdT) (hmTold : mg "_law_told" = some (.ref gT))
    (MR : Mk K (He.ga K "Room") fI) (FI : FnOk P w K mg base (L2.CX P w) 3 fI fdI P_Room_init (spRoom K)) (hbI : Binds K fdI P_Room_init [])
    (FE : FnOk P w K mg base CX0 2 fE fdE P_Room_eq (spRoomEq K)) (hEs : PySem.W.findIn K (.ref (He.ga K "Room")) "__eq__" = some (some (.ref fE))) (hEf : PySem.W.isFn K (.ref fE) = true) (hbE : Binds K fdE P_Room_eq [])
    (D_law_pick : Cal P w K mg base CX0 1 "_law_pick" P_law_pick spPick) (D_law_some : Cal P w K mg base CX0 2 "_law_some" P_law_some spSome) (D_law_deep : Cal P w K mg base CX0 3 "_law_deep" P_law_deep spDeep)
    (D_law_is : CalG P w K mg base CX0 2 "_law_is" P_law_is (spIs K)) (D_law_int : Cal P w K mg base CX0 1 "_law_int" P_law_int spWithin) :
    FnG P w K mg base CX0 12 f fd P_law_rooms_right (spRight Ts) := by
  refine F.okG sc_law_rooms_right (fun vs H Q E h => ?_) (fun cdv A outer s H vs Q E hg0 hr hcI hcd h => ?_)
  · obtain ⟨b, g, rfl, _⟩ := h
    rfl
  · obtain ⟨b, g, rfl, S, q⟩ := h
    obtain rfl : cdv = .ref c := hcd.symm.trans hc
    have hu64 : (cxOf CX0 P w K mg base N_law_rooms_right "_law_rooms_right" (defScope s_law_rooms_right) f (.ref c) A outer s H E).nox.A.units + 64 < cLine := by
      have := hr.un
      show (A.deeper _).units + 64 < cLine
      omega
    refine ⟨_, PSs.nox (pss_cons (ps_set (i := 1) sc_law_rooms_right.nd rfl (Or.inl rfl) (pe_lst (pa_cons pe_bl (pa_cons pe_non (pa_cons pe_str (pa_cons (pe_tup (pa_cons pe_int pa_nil)) (pa_cons (pe_un un_neg pe_int) (pa_cons pe_int (pa_cons pe_int (pa_cons (pe_op op_pow pe_int pe_int) (pa_cons pe_int (pa_cons pe_int (pa_cons pe_int (pa_cons pe_int (pa_cons pe_int (pa_cons pe_int (pa_cons (pe_cal D_law_deep hr rfl rfl pass0 (pa_cons (pv 0) pa_nil)) pa_nil)))))))))))))))))
  (pss_cons (ps_set (i := 2) sc_law_rooms_right.nd rfl (Or.inr rfl) (pe_lst (pa_cons (pe_cal D_law_some hr rfl rfl pass0 (pa_cons (pv 0) (pa_cons (pe_op op_cat (pe_lst (pa_cons pe_int (pa_cons pe_int (pa_cons pe_int pa_nil)))) (pv 1)) pa_nil))) (pa_cons (pe_cal D_law_some hr rfl rfl pass0 (pa_cons (pv 0) (pa_cons (pe_op op_cat (pe_lst (pa_cons pe_int (pa_cons pe_int (pa_cons pe_int pa_nil)))) (pv 1)) pa_nil))) pa_nil))))
  (pss_cons (ps_expr (pe_bm PySem.F.plainAttrs_list PySem.F.slot_list_append PySem.F.type_list_append mt_append (pv 2) (pa_cons (pe_cal D_law_some hr rfl rfl pass0 (pa_cons (pv 0) (pa_cons (pe_op op_cat (pe_lst (pa_cons pe_int (pa_cons pe_int (pa_cons pe_int (pa_cons pe_int pa_nil))))) (pv 1)) pa_nil))) pa_nil)))
  (pss_cons (ps_set (i := 3) sc_law_rooms_right.nd rfl (Or.inl rfl) pe_non)
  (pss_cons (ps_if (pt_not (pt_val (pe_cal D_law_int hr rfl rfl pass0 (pa_cons (pe_ix ix_list (pv 2) pe_int (fun _ _ => rfl)) (pa_cons pe_int (pa_cons pe_int pa_nil)))))) (pss_one (ps_set (i := 3) sc_law_rooms_right.nd rfl (Or.inl rfl) (pe_tup (pa_cons pe_str (pa_cons pe_str pa_nil))))) (pss_one (ps_if (pt_not (pt_val (pe_cal D_law_int hr rfl rfl pass0 (pa_cons (pe_ix ix_list (pv 2) pe_int (fun _ _ => rfl)) (pa_cons (pe_ix ix_list (pv 2) pe_int (fun _ _ => rfl)) (pa_cons pe_int pa_nil)))))) (pss_one (ps_set (i := 3) sc_law_rooms_right.nd rfl (Or.inl rfl) (pe_tup (pa_cons pe_str (pa_cons pe_str pa_nil))))) (pss_one (ps_if (pt_not (pt_val (pe_cal D_law_int hr rfl rfl pass0 (pa_cons (pe_ix ix_list (pv 2) pe_int (fun _ _ => rfl)) (pa_cons pe_int (pa_cons pe_int pa_nil)))))) (pss_one (ps_set (i := 3) sc_law_rooms_right.nd rfl (Or.inl rfl) (pe_tup (pa_cons pe_str (pa_cons pe_str pa_nil))))) pss_nil)))))
  (pss_cons (ps_asg (pe_told (Ts := Ts) (k := 8) T Ftold hmTold TB rfl hm1 hu (hr.mono (by decide)) (lamS_by (sc := defScope s_law_rooms_right) (by decide +kernel)) rfl (fun _ _ _ _ _ => rfl) (fun A outer s H E f c' hr => pe_make MR FI (hr.mono (by decide)) rfl T.g_Room hbI .nil (passes_call (takes_of rfl rfl rfl rfl) fun _ _ _ _ h => h) (pa_cons (pe_ix (show IxR _ (rIxL K) from ix_list) (pv 2) pe_int (fun _ _ => rfl)) (pa_cons (pe_ix (show IxR _ (rIxL K) from ix_list) (pv 2) pe_int (fun _ _ => rfl)) (pa_cons (pe_ix (show IxR _ (rIxL K) from ix_list) (pv 2) pe_int (fun _ _ => rfl)) pa_nil))))) (pg_tup (by rfl) (pgs_cons (pg_name (i := 4) sc_law_rooms_right.nd rfl (Or.inl rfl)) (pgs_cons (pg_name (i := 5) sc_law_rooms_right.nd rfl (Or.inl rfl)) pgs_nil))))
  (pss_cons (ps_if (pt_cmp (pc_notN (pv 3)) rfl) (pss_one (ps_ret (pe_cmpR (op_eqD hu64) (pv 5) (pv 3) (nomark _)))) pss_nil)
  (pss_cons (ps_set (i := 6) sc_law_rooms_right.nd rfl (Or.inl rfl) (pe_make (E := fun _ _ _ => False) MR FI (hr.mono (by decide)) rfl T.g_Room hbI .nil (passes_call L2.takes0 fun _ _ _ _ h => h.elim) (pa_cons (pe_ix ix_list (pv 2) pe_int (fun _ _ => rfl)) (pa_cons (pe_op op_sub pe_int (pe_cal D_law_pick hr rfl rfl pass0 (pa_cons (pv 0) (pa_cons pe_int pa_nil)))) (pa_cons (pe_ix ix_list (pv 2) pe_int (fun _ _ => rfl)) pa_nil)))))
  (pss_cons (ps_if (PW.pt (pw_or (pt_cmpR (op_neD hu64) (pv 5) pe_str (nomark _)) (pw_or1 (pt_not (pt_val (pe_calG D_law_is hg0 hr rfl rfl pass0 (pa_cons (pe_lst (pa_cons (pe_fld (pv 4) rfl) (pa_cons (pe_fld (pv 4) rfl) (pa_cons (pe_fld (pv 4) rfl) pa_nil)))) (pa_cons (pv 2) pa_nil)))))))) (pss_one (ps_ret pe_bl)) pss_nil)
  (pss_cons (ps_if (PW.pt (pw_or (pt_cmpR op_ne (pe_cmpR (op_eqOwn FE hr rfl hEs hEf hbE pass0) (pv 4) (pv 6) (nomark _)) (pe_cmpR op_eq (pe_ix ix_list (pv 2) pe_int (fun _ _ => rfl)) (pe_fld (pv 6) rfl) (nomark _)) (nomark _)) (pw_or1 (pt_cmpR (op_eqOwn FE hr rfl hEs hEf hbE pass0) (pv 4) (pv 2) (nomark _))))) (pss_one (ps_ret pe_bl)) pss_nil)
  (pss_one (ps_ret (pe_cmpR (op_eqOwn FE hr rfl hEs hEf hbE pass0) (pv 4) (pe_make (E := fun _ _ _ => False) MR FI (hr.mono (by decide)) rfl T.g_Room hbI .nil (passes_call L2.takes0 fun _ _ _ _ h => h.elim) (pa_cons (pe_ix ix_list (pv 2) pe_int (fun _ _ => rfl)) (pa_cons (pe_ix ix_list (pv 2) pe_int (fun _ _ => rfl)) (pa_cons (pe_ix ix_list (pv 2) pe_int (fun _ _ => rfl)) pa_nil)))) (nomark _)))))))))))))), ?_⟩
    have e0 : (start N_law_rooms_right [V.ref b]) = [some (V.ref b), none, none, none, none, none, none] := rfl
    rw [e0]
    -- odd
    with_reducible refine w_seq ?_
    refine asg_cut (RL Ts b g H 15) (fun Q k => ?_) ?_
    · walk_at "w"
      refine ⟨by show 1 ≤ sizeLine; decide, newT S fun p1 H2 S2 s2 _ k1 => ?_⟩
      walk_at "w"
      refine ⟨b, g, rfl, S2.bag, fun v H4 kv B4 k4 => ?_⟩
      have S4 := S2.keep B4 k4
      walk_at "w"
      refine ⟨by show 15 ≤ sizeLine; decide, newL (fun ys => AllKn H4 ys ∧ ys.length = 15) ⟨?_, rfl⟩ S4 fun ys l H6 hy S6 s6 A6 _ => ?_⟩
      · refine .cons rfl (.cons rfl (.cons rfl (.cons (Kn.go S4.bag (.keep k4) k1) ?_)))
        repeat (refine AllKn.cons (by first | rfl | assumption) ?_)
        exact .nil
      · exact k _ _ ⟨S6, ((Go.same s2).trans (.keep k4)).trans (.same s6), l, ys, rfl, A6, hy.1.same s6, hy.2⟩
    rintro _ H1 ⟨S1, G1, l1, E1, rfl, A1, K1, n1⟩
    refine w_name ?_
    -- parts
    with_reducible refine w_seq ?_
    refine asg_cut (fun x H' => Sd Ts b g H' ∧ Go b g H1 H' ∧ ∃ l y o, x = .ref l ∧ At b g H' l (.lst [y, o]) ∧ Kn H' y ∧ Kn H' o) (fun Q k => ?_) ?_
    · with_reducible refine w_lstN (w_cons ?_)
      refine some_of2 S1 rfl rfl A1 K1 (by omega) (fun Q q => ?_) fun y H2 r2 => ?_
      · walk_at "w"
        refine ⟨by show 3 ≤ sizeLine; decide, newL (fun ys => AllKn H1 ys ∧ ys.length = 3) ⟨?_, rfl⟩ S1 fun ys l H3 hy S3 s3 A3 _ => ?_⟩
        · repeat (refine AllKn.cons rfl ?_)
          exact .nil
        · exact q _ _ _ S3 (.same s3) A3 (hy.1.same s3) (by omega) (by omega)
      · obtain ⟨S2, G2, ky⟩ := r2
        with_reducible refine w_cons ?_
        refine some_of2 S2 rfl rfl (A1.go G2) (K1.go S2.bag G2) (by omega) (fun Q q => ?_) fun o H3 r3 => ?_
        · walk_at "w"
          refine ⟨by show 3 ≤ sizeLine; decide, newL (fun ys => AllKn H2 ys ∧ ys.length = 3) ⟨?_, rfl⟩ S2 fun ys l H3 hy S3 s3 A3 _ => ?_⟩
          · repeat (refine AllKn.cons rfl ?_)
            exact .nil
          · exact q _ _ _ S3 (.same s3) A3 (hy.1.same s3) (by omega) (by omega)
        · obtain ⟨S3, G3, ko⟩ := r3
          walk_at "w"
          refine ⟨by show 2 ≤ sizeLine; decide, newL (fun ys => ys = [y, o]) rfl S3 fun ys l H4 hy S4 s4 A4 _ => ?_⟩
          subst hy
          exact k _ _ ⟨S4, (G2.trans G3).trans (.same s4), l, y, o, rfl, A4, s4.kn (Kn.go S3.bag G3 ky), s4.kn ko⟩
    rintro _ H2 ⟨S2, G2, l2, y, o, rfl, A2, ky, ko⟩
    refine w_name ?_
    -- parts.append
    with_reducible refine seq_cut (fun σ' H' => σ' = [some (.ref b), some (.ref l1), some (.ref l2), none, none, none, none] ∧ Sd Ts b g H' ∧ Kn H' y ∧ Kn H' o ∧ ∃ c, At b g H' l2 (.lst [y, o, c]) ∧ Kn H' c) (fun N k => ?_) ?_
    · with_reducible refine w_drop (w_BM ?_)
      refine w_var (v := .ref l2) rfl ⟨.inl ⟨rfl, _, .of A2.at_⟩, ?_⟩
      with_reducible refine w_cons ?_
      refine some_of2 S2 rfl rfl (A1.go G2) (K1.go S2.bag G2) (by omega) (fun Q q => ?_) fun c H3 r3 => ?_
      · walk_at "w"
        refine ⟨by show 4 ≤ sizeLine; decide, newL (fun ys => AllKn H2 ys ∧ ys.length = 4) ⟨?_, rfl⟩ S2 fun ys l H3 hy S3 s3 A3 _ => ?_⟩
        · repeat (refine AllKn.cons rfl ?_)
          exact .nil
        · exact q _ _ _ S3 (.same s3) A3 (hy.1.same s3) (by omega) (by omega)
      · obtain ⟨S3, G3, kc⟩ := r3
        walk_at "w"
        have A3 := A2.go G3
        have S4 := S3.wr A3 [y, o, c]
        have kk : ∀ {v : V}, Kn H3 v → Kn (upd H3 l2 (.lst [y, o, c])) v := fun {v} h => by
          cases v with
          | ref a =>
            by_cases e : a = l2
            · rw [e]
              exact kn_newL
            · simp only [Kn, tyOf, upd_ne e] at h ⊢
              exact h
          | _ => exact h
        refine ⟨l2, [y, o], _, rfl, rfl, A3.at_, (by show 2 < sizeLine; decide), ?_⟩
        exact k _ _ ⟨rfl, S4, kk (Kn.go S3.bag G3 ky), kk (Kn.go S3.bag G3 ko), c, ⟨A3.n1, A3.n2, (fun _ z => nomatch z), upd_same⟩, kk kc⟩
    rintro _ H3 ⟨rfl, S3, ky, ko, c, A3, kc⟩
    -- due
    with_reducible refine w_seq ?_
    walk_at "w1"
    walk_at "w1"
    walk_at "w1"
    with_reducible refine seq_cut (fun σ' H' => ∃ dv, σ' = [some (.ref b), some (.ref l1), some (.ref l2), some dv, none, none, none] ∧ Sd Ts b g H' ∧ Go b g H3 H' ∧ DueAt b g H' (roomBad y o c) dv) (fun N k => ?_) ?_
    · walk_at "w"
      refine w_ixL (.of A3.at_) (atI_nat (j := 0) rfl) ?_
      walk_at "w"
      refine ⟨y, _, _, rfl, ky, ?_⟩
      walk_at "w"
      have fin : ∀ z, roomBad y o c = some z → ∀ u H4, Sd Ts b g H4 → Same H3 H4 → At b g H4 u (.tup [.str "room", .str z]) → N [some (.ref b), some (.ref l1), some (.ref l2), some (.ref u), none, none, none] H4 := fun z e u H4 S4 s4 A4 =>
        k _ _ ⟨_, rfl, S4, .same s4, by rw [e]; exact ⟨u, rfl, A4⟩⟩
      cases h1 : isWithin y 8 100000 with
      | false =>
        refine w_nf ?_
        walk_at "w"
        have e : roomBad y o c = some "young" := by
          cases y with
          | int i =>
            show (if isWithin (.int i) 8 100000 = true then _ else some ("young" : Str)) = _
            rw [h1] <;> rfl
          | _ => rfl
        refine ⟨by show 2 ≤ sizeLine; decide, newT S3 fun u H4 S4 s4 A4 _ => ?_⟩
        walk_at "w"
        exact fin _ e u H4 S4 s4 A4
      | true =>
        refine w_nt ?_
        obtain ⟨i, rfl⟩ : ∃ i, y = .int i := by
          rcases int_cases y with h | h
          · exact h
          · rw [within_no h] at h1
            cases h1
        have e1 : roomBad (.int i) o c = ((if isWithin o i 1000000 = true then (if isWithin c 0 1000 = true then none else some "pace") else some "old") : Option Str) := by
          show (if isWithin (.int i) 8 100000 = true then _ else some ("young" : Str)) = _
          rw [if_pos h1]
        walk_at "w"
        refine w_ixL (.of A3.at_) (atI_nat (j := 1) rfl) ?_
        walk_at "w"
        refine w_ixL (.of A3.at_) (atI_nat (j := 0) rfl) ?_
        walk_at "w"
        refine ⟨o, _, _, rfl, ko, ?_⟩
        walk_at "w"
        cases h2 : isWithin o i 1000000 with
        | false =>
          rw [h2] at e1
          refine w_nf ?_
          walk_at "w"
          refine ⟨by show 2 ≤ sizeLine; decide, newT S3 fun u H4 S4 s4 A4 _ => ?_⟩
          walk_at "w"
          exact fin _ e1 u H4 S4 s4 A4
        | true =>
          rw [h2] at e1
          refine w_nt ?_
          walk_at "w"
          refine w_ixL (.of A3.at_) (atI_nat (j := 2) rfl) ?_
          walk_at "w"
          refine ⟨c, _, _, rfl, kc, ?_⟩
          walk_at "w"
          cases h3 : isWithin c 0 1000 with
          | false =>
            rw [h3] at e1
            refine w_nf ?_
            walk_at "w"
            refine ⟨by show 2 ≤ sizeLine; decide, newT S3 fun u H4 S4 s4 A4 _ => ?_⟩
            walk_at "w"
            exact fin _ e1 u H4 S4 s4 A4
          | true =>
            rw [h3] at e1
            refine w_nt ?_
            walk_at "w"
            exact k _ _ ⟨.non, rfl, S3, .refl, by rw [e1]; exact rfl⟩
    rintro _ H4 ⟨dv, rfl, S4, G4, hD⟩
    have A4 := A3.go G4
    have ky4 := Kn.go S4.bag G4 ky
    have ko4 := Kn.go S4.bag G4 ko
    have kc4 := Kn.go S4.bag G4 kc
    with_reducible refine w_seq ?_
    with_reducible refine w_asg ?_
    refine told_room S4 rfl A4 ky4 ko4 kc4 ?_
    cases hb : roomBad y o c with
    | some z =>
      rw [hb] at hD
      obtain ⟨u, rfl, Au⟩ := hD
      intro a r H5 S5 G5 Ar Aa
      refine ⟨a, _, rfl, .of Aa.at_, rfl, _, _, rfl, w_name ⟨_, _, rfl, w_name ⟨rfl, ?_⟩⟩⟩
      walk_at "w"
      rw [decide_eq_false (show V.ref u ≠ V.non from fun z => nomatch z)]
      walk_at "w"
      refine ⟨.tuple [.str "room", .str z], .tuple [.str "room", .str z], .tup (.of Ar.at_) (.cons (.str _) (.cons (.str _) .nil)), .tup (.of (Au.go G5).at_) (.cons (.str _) (.cons (.str _) .nil)), ?_⟩
      have sh : SeqAt.shaped (.tuple [.str "room", .str z]) = true := by
        rcases bad_names hb with rfl | rfl | rfl <;> decide +kernel
      refine ⟨sh, sh, ?_⟩
      rw [SeqAt.eqv_refl _ (SeqAt.canLay_of_shaped sh)]
      exact q _ S5
    | none =>
      rw [hb] at hD
      subst hD
      obtain ⟨i, j, k, rfl, rfl, rfl, h1, h2, h3, h4, h5, h6⟩ := room_none hb
      intro a H5 p dx S5 G5 Ap Aa
      refine ⟨a, _, rfl, .of Aa.at_, rfl, _, _, rfl, w_name ⟨_, _, rfl, w_name ⟨rfl, ?_⟩⟩⟩
      walk_at "w"
      rw [decide_eq_true (show V.non = V.non from rfl)]
      walk_at "w"
      refine w_mkN ?_
      walk_at "w"
      have A5 := A4.go G5
      refine w_ixL (.of A5.at_) (atI_nat (j := 0) rfl) ?_
      walk_at "w"
      refine ⟨b, g, _, rfl, S5.bag, by decide, by decide, fun d H6 d0 d1 B6 k6 => ?_⟩
      have S6 := S5.keep B6 k6
      have G6 : Go b g H5 H6 := .keep k6
      have A6 := A5.go G6
      walk_at "w"
      refine w_ixL (.of A6.at_) (atI_nat (j := 2) rfl) ?_
      refine makeR (room_ok h1 h2 (by omega) (by omega) h5 h6) S6 rfl rfl rfl fun p' dx' H7 S7 s7 Ap' => ?_
      have Ap7 := (Ap.go G6).go (.same s7)
      have A7 := A6.go (.same s7)
      walk_at "w"
      refine ⟨.str "let", .str "let", .str _, .str _, by decide +kernel, by decide +kernel, ?_⟩
      rw [SeqAt.eqv_refl _ (by decide +kernel)]
      walk_at "w"
      refine ⟨p, _, dx, _, _, rfl, Ap7.at_, T.c_Room, T.nY, rf_y _ _ _, ?_⟩
      walk_at "w"
      refine ⟨p, _, dx, _, _, rfl, Ap7.at_, T.c_Room, T.nO, rf_o _ _ _, ?_⟩
      walk_at "w"
      refine ⟨p, _, dx, _, _, rfl, Ap7.at_, T.c_Room, T.nP, rf_c _ _ _, ?_⟩
      walk_at "w"
      refine ⟨by show 3 ≤ sizeLine; decide, newL (fun ys => ys = [V.int i, V.int j, V.int k]) rfl S7 fun ys l H8 hy S8 s8 A8 _ => ?_⟩
      subst hy
      walk_at "w"
      have FI3 := ints_fine (x := i) (y := j) (z := k) (small_of (by omega) (by omega)) (small_of (by omega) (by omega)) h5 h6
      have Al8 := A7.go (.same s8)
      refine ⟨l, l2, _, rfl, .lst (.of A8.at_) (.cons (.int _) (.cons (.int _) (.cons (.int _) .nil))), .lst (.of Al8.at_) (.cons (.int _) (.cons (.int _) (.cons (.int _) .nil))), FI3.sh, FI3.so, FI3.nd, FI3.dp, FI3.ln, ?_⟩
      walk_at "w"
      have Ap8 := Ap7.go (.same s8)
      have Aq8 := Ap'.go (.same s8)
      refine ⟨p, dx, _, p', rfl, rfl, Ap8.at_, .inl ⟨dx', _, Aq8.at_⟩, p, p', i, j, k, rfl, ⟨dx, Ap8.at_⟩, .inl ⟨i, 1000000 - d, k, ⟨dx', Aq8.at_⟩, fun H9 s9 => ⟨_, rfl, ?_⟩⟩⟩
      have Ap9 := Ap8.go (.same s9)
      have Aq9 := Aq8.go (.same s9)
      have Al9 := Al8.go (.same s9)
      walk_at "w"
      refine w_ixL (.of Al9.at_) (atI_nat (j := 1) rfl) ?_
      walk_at "w"
      refine ⟨p', _, dx', _, _, rfl, Aq9.at_, T.c_Room, T.nO, rf_o _ _ _, ?_⟩
      walk_at "w"
      refine w_ne rfl ?_
      have e : (decide (i = i) && (decide (j = 1000000 - d) && decide (k = k))) = decide (j = 1000000 - d) := by simp
      rw [e, decide_eq_true (rfl : V.bl (decide (j = 1000000 - d)) = V.bl (decide (j = 1000000 - d)))]
      walk_at "w"
      walk_at "w"
      refine ⟨p, dx, _, l2, rfl, rfl, Ap9.at_, .inr ⟨⟨_, Al9.at_⟩, sLR⟩, p, l2, i, j, k, rfl, ⟨dx, Ap9.at_⟩, .inr ⟨⟨_, Al9.at_⟩, fun H10 s10 => ⟨_, rfl, ?_⟩⟩⟩
      walk_at "w"
      have S10 := (S8.same s9).same s10
      have Al10 := Al9.go (.same s10)
      have Ap10 := Ap9.go (.same s10)
      refine w_mkN ?_
      walk_at "w"
      refine w_ixL (.of Al10.at_) (atI_nat (j := 0) rfl) ?_
      walk_at "w"
      refine w_ixL (.of Al10.at_) (atI_nat (j := 1) rfl) ?_
      walk_at "w"
      refine w_ixL (.of Al10.at_) (atI_nat (j := 2) rfl) ?_
      refine makeR hb S10 rfl rfl rfl fun p2 dx2 H11 S11 s11 Ap2 => ?_
      have Ap11 := Ap10.go (.same s11)
      refine ⟨p, dx, _, p2, rfl, rfl, Ap11.at_, .inl ⟨dx2, _, Ap2.at_⟩, p, p2, i, j, k, rfl, ⟨dx, Ap11.at_⟩, .inl ⟨i, j, k, ⟨dx2, Ap2.at_⟩, fun H12 s12 => ⟨_, rfl, ?_⟩⟩⟩
      have e2 : (decide (i = i) && (decide (j = j) && decide (k = k))) = true := by simp
      rw [e2]
      exact q _ (S11.same s12)
end
end K52
namespace K52
open PySem L2 LamX
abbrev s_law : Stmt := top 42
abbrev N_law : List Str := ["script", "bag", "turn"]
abbrev P_law : List Str := ["script"]
theorem sc_law : FnScope N_law P_law (defScope s_law) := ⟨rfl, rfl, rfl, by decide +kernel, rfl, by decide +kernel, by decide +kernel⟩
section
variable {P : Program} {w : World} {K : PySem.W.Frag} {mg : Str → Option Value} {base : Heap}
def spLaw (K : PySem.W.Frag) (Ts : Ts2) : Sp := fun vs H Q _ => ∃ (a : Addr) (ns : List Int), vs = [.ref a] ∧ SqL K H a (ns.map V.int) ∧ ns.length ≤ 63 ∧ Tabs Ts H ∧ ∀ H', Q (.bl true) H'
theorem ok_law (T : Txn P K mg) {Ts : Ts2} {f : Addr} {fd : FuncData} (F : FnP K "law" s_law f fd) (D_law_bag : Cal P w K mg base CX0 1 "_law_bag" P_law_bag (spBag K))
    (D_law_words_right : CalG P w K mg base CX0 12 "_law_words_right" P_law_words_right (spRight Ts)) (D_law_rooms_right : CalG P w K mg base CX0 12 "_law_rooms_right" P_law_rooms_right (spRight Ts)) :
    FnG P w K mg base CX0 14 f fd P_law (spLaw K Ts) := by
  refine F.okG sc_law (fun vs H Q E h => ?_) (fun cdv A outer s H vs Q E hg0 hr hcI hcd h => ?_)
  · obtain ⟨a, ns, rfl, _⟩ := h
    rfl
  · obtain ⟨a, ns, rfl, hS, hl, hT, q⟩ := h
    refine ⟨_, PSs.nox (pss_cons (ps_set (i := 1) sc_law.nd rfl (Or.inl rfl) (pe_cal D_law_bag hr rfl rfl pass0 (pa_cons (pv 0) pa_nil)))
  (pss_cons (ps_for PassesOwn.never rfl (pi_range1 (by rfl) T.f_range (pa_cons pe_int pa_nil)) (pg_name (i := 2) sc_law.nd rfl (Or.inl rfl)) (pss_one (ps_if (PW.pt (pw_or (pt_not (pt_val (pe_calG D_law_words_right hg0 hr rfl rfl pass0 (pa_cons (pv 1) pa_nil)))) (pw_or1 (pt_not (pt_val (pe_calG D_law_rooms_right hg0 hr rfl rfl pass0 (pa_cons (pv 1) pa_nil))))))) (pss_one (ps_ret pe_bl)) pss_nil)))
  (pss_one (ps_ret pe_bl)))), ?_⟩
    walk_at "w"
    refine ⟨a, ns, rfl, hS, hl, fun b g H1 s1 B => ?_⟩
    have S1 : Sd Ts b g H1 := ⟨B, hT.ext s1⟩
    walk_at "w"
    refine ⟨_, rfl, by decide, by decide, for_range (Pv := fun i σ H' => ∃ u : Option V, σ = [some (.ref a), some (.ref b), u] ∧ Sd Ts b g H') ⟨none, rfl, S1⟩ ?_ ?_⟩
    · rintro i σ H2 hi ⟨u, rfl, S2⟩
      walk_at "w"
      refine ⟨b, g, rfl, S2, fun H3 S3 => ?_⟩
      walk_at "w"
      refine ⟨b, g, rfl, S3, fun H4 S4 => ?_⟩
      walk_at "w"
      exact ⟨_, rfl, S4⟩
    · rintro σ H2 ⟨u, rfl, S2⟩
      walk_at "w"
      exact q _
end
end K52
/-! ## the law's end where it is known that no repr is under way -/
namespace EndG
open PySem PySem.Spec PyProof.Rows L2 LamX
abbrev tabO : Obj := { cls := .none, data := .fields #[] }
/-- all that the abstract heap tells: tables that are empty, lists that are known to the object -/
def Told (ts : List Addr) (H : Hp) (h : Heap) : Prop := ∀ b u, H b = some u → (b ∈ ts ∧ u = .tbl #[] ∧ h.get? b = some tabO) ∨ ∃ ob xs, u = .frz ob (.lst xs) ∧ h.get? b = some ob ∧ ∃ vs n, ob.data = .seq vs n
section
variable {P : Program} {w : World} {K : PySem.W.Frag} {mg mb : Str → Option Value} {ts : List Addr} {H : Hp} {h : Heap}
theorem Told.out (T : Told ts H h) {b : Addr} {o : Obj} (e : h.get? b = some o) (h1 : ∀ vs n, o.data ≠ .seq vs n) (h2 : o.data ≠ .fields #[]) : H b = none := by
  cases q : H b with
  | none => rfl
  | some u =>
    rcases T b u q with ⟨_, _, z⟩ | ⟨ob, xs, _, z, vs, n, zd⟩
    · obtain rfl := Option.some.inj (e.symm.trans z)
      exact absurd rfl h2
    · obtain rfl := Option.some.inj (e.symm.trans z)
      exact absurd zd (h1 vs n)
theorem Told.seen (T : Told ts H h) {b : Addr} {o : Obj} (e : h.get? b = some o) (h1 : ∀ vs n, o.data ≠ .seq vs n) (h2 : o.data ≠ .fields #[]) : (hidT h H).get? b = some o := hidT_get e (T.out e h1 h2)
theorem Told.ns (T : Told ts H h) {b : Addr} {m : Str → Option Value} (x : h.Ns b m) : (hidT h H).Ns b m := by
  obtain ⟨o, es, ep, e, d, r⟩ := x
  refine ⟨o, es, ep, T.seen e (fun vs n z => ?_) (fun z => ?_), d, r⟩ <;> rw [d] at z <;> cases z
theorem Told.mod (T : Told ts H h) (hns : h.Ns mainGlobals mg) (hb : h.Ns builtinsNs mb) (hbb : ∀ x : Str, x ≠ "__name__" → mb x = bootBuiltins x) (hlim : h.NoLimit) (hK : ∀ a o, K.lookup a = some o → h.get? a = some o ∧ H a = none) : L2.Mod K mg (hidT h H) :=
  ⟨fun a o e => hidT_get (hK a o e).1 (hK a o e).2, T.ns hns, ⟨mb, T.ns hb, hbb⟩, let ⟨mc, h1, h2⟩ := hlim; ⟨mc, T.ns h1, h2⟩⟩
theorem Told.tab (T : Told ts H h) (hns : h.Ns mainGlobals mg) {c p : Addr} (ht : h.get? p = some tabO) (C : PySem.W.CodeHd h c p)
    (hbm : ∃ (bm : Addr) (ob : Obj), mg "__builtins__" = some (.ref bm) ∧ bm ≠ builtinsNs ∧ h.get? bm = some ob ∧ ob.cls = .type "module" ∧ ob.dict = some builtinsNs ∧ ob.data = .plain) : TabB (hidT h H) mg c p := by
  have apart : ∀ {a b : Addr} {x y : Obj}, h.get? a = some x → h.get? b = some y → x.data ≠ y.data → a ≠ b := fun ea eb n z => n (by
    rw [z] at ea
    rw [Option.some.inj (ea.symm.trans eb)])
  obtain ⟨og, es, ep, eg, dg, _⟩ := hns
  constructor
  · obtain ⟨o, us, file, tf, fl, tg, inF, text, tt, e1, r1, r2, r3, r⟩ := C
    refine ⟨o, us, file, tf, fl, tg, inF, text, tt, T.seen e1 (fun vs n z => ?_) (fun z => ?_), r1, r2, r3, r⟩
    · rw [r2] at z
      cases z
    · rw [r2] at z
      obtain rfl := Data.fields.inj z
      simp at r3
  · obtain ⟨bm, ob, b1, b2, b3, b4, b5, b6⟩ := hbm
    refine ⟨bm, ob, b1, b2, apart b3 eg ?_, apart b3 ht ?_, T.seen b3 (fun vs n z => ?_) (fun z => ?_), b4, b5, b6⟩
    · rw [b6, dg]
      intro z
      cases z
    · rw [b6]
      intro z
      cases z
    · rw [b6] at z
      cases z
    · rw [b6] at z
      cases z
  · exact apart eg ht (by
      rw [dg]
      intro z
      cases z)
/-- after the run every old object is as it was, a table longer at most -/
theorem Told.old {cs : List (Addr × Addr)} {H' : Hp} {h' : Heap} (T : Told (cs.map (·.2)) H h) (hok : HOk P w H h) (hok' : HOk P w H' h') (un : Un (frs []) [] H H' h h') (C : ∀ p ∈ cs, PySem.W.CodeHd h p.1 p.2) : OldK h h' := by
  have key : ∀ b o, h.get? b = some o → h'.get? b = some o ∨ (∃ p ∈ cs, p.2 = b ∧ o = tabO ∧ ∃ more : Array Value, h'.get? b = some { cls := .none, data := .fields more }) := fun b o e => by
    cases q : H b with
    | none => exact .inl (un.keep b o e q (by simp [frs]) (by simp))
    | some u =>
      rcases T b u q with ⟨hm, rfl, z⟩ | ⟨ob, xs, rfl, z, _⟩
      · obtain ⟨p, hp, rfl⟩ := List.mem_map.mp hm
        obtain ⟨more, g⟩ := un.tbls _ _ q
        exact .inr ⟨p, hp, rfl, Option.some.inj (e.symm.trans z), _, hok' _ _ g⟩
      · obtain rfl := Option.some.inj (e.symm.trans z)
        exact .inl (hok' b _ (un.frzs b _ _ q)).1
  refine ⟨fun b o e => ?_, fun b o e => ?_⟩
  · rcases key b o e with k | ⟨p, hp, rfl, rfl, more, k⟩
    · exact .inl k
    · exact .inr (.inl ⟨((C p hp).tab e).isCodeTable, rfl, #[], more, rfl, by simpa using k⟩)
  · rcases key b o e with k | ⟨p, hp, rfl, rfl, more, k⟩
    · exact ⟨_, k⟩
    · exact ⟨_, k⟩
/-- the law's call, from an abstract heap in which the tables and, at most, the script are told -/
theorem Told.call {CX : CXT} {k : Nat} {fa a : Addr} {cs : List (Addr × Addr)} {fd : FuncData} {x : Str} {sp : Sp} {s₁ : Shared} (T : Told (cs.map (·.2)) H s₁.heap) (hok : HOk P w H s₁.heap)
    (hK : ∀ a o, K.lookup a = some o → s₁.heap.get? a = some o ∧ H a = none) (hns : s₁.heap.Ns mainGlobals mg) (hb : s₁.heap.Ns builtinsNs mb) (hbb : ∀ x : Str, x ≠ "__name__" → mb x = bootBuiltins x) (hlim : s₁.heap.NoLimit) (hg : s₁.gens = #[])
    (hT : ∀ p ∈ cs, s₁.heap.get? p.2 = some tabO) (C : ∀ p ∈ cs, PySem.W.CodeHd s₁.heap p.1 p.2)
    (hbm : ∃ (bm : Addr) (ob : Obj), mg "__builtins__" = some (.ref bm) ∧ bm ≠ builtinsNs ∧ s₁.heap.get? bm = some ob ∧ ob.cls = .type "module" ∧ ob.dict = some builtinsNs ∧ ob.data = .plain) (hr : Room k callerA)
    (F : ∀ base : Heap, K.In base → base.Ns mainGlobals mg → (∀ p ∈ cs, TabB base mg p.1 p.2) → FnG P w K mg base CX k fa fd [x] sp) (hbind : ∀ (s : Shared) (u : Value), BindsTo s fd ⟨[u], []⟩ [(x, u)])
    (hsp : sp [.ref a] H (fun v _ => v = .bl true) fun _ _ _ => False) (hCX : ∀ e s', CX [] H s₁ (fun _ _ _ => False) e s' → False) :
    codeAny (model P w) callerA (.call (.ref fa) ⟨[.ref a], []⟩) (fun r s' => r = .ok (.ret (.bool true)) ∧ OldK s₁.heap s'.heap ∧ s'.os = s₁.os ∧ AllBare s'.gens) s₁ := by
  have M := T.mod hns hb hbb hlim hK
  have e0 : Env0 P w K mg (hidT s₁.heap H) callerA [] s₁ H :=
    { frames := rfl, mod := M, bs := fun _ _ => of_hidT, bsz := Nat.le_of_eq (hidT_size _ _), funs := trivial, frf := by simp [frs], hok := hok, bare := .of_eq hg }
  have run := (F _ M.kin M.glob fun p hp => T.tab hns (hT p hp) (C p hp) hbm).run callerA [] s₁ H ⟨[.ref a], []⟩ [.ref a] [.ref a] _ _ rfl hr e0 (hbind s₁ (.ref a)) (.cons rfl .nil) hsp
  refine codeAny_mono run fun r s' z => ?_
  match r, z with
  | .error e, z => exact (hCX e s' z).elim
  | .ok (.ret u), z =>
    obtain ⟨v, H', os, bare, un, hok', rv, rfl⟩ := z
    obtain rfl : u = Value.bool true := rv
    exact ⟨rfl, T.old hok hok' un C, os, bare⟩
  | .ok .next, z => exact z.elim
  | .ok .brk, z => exact z.elim
  | .ok .cont, z => exact z.elim
end
/-- the abstract heap: the tables, and the script unless the head knows it -/
def start0 (K : PySem.W.Frag) (ts : List Addr) (a : Addr) (u : HO) : Hp := fun b => if b ∈ ts then some (.tbl #[]) else if b = a ∧ (K.lookup a).isNone = true then some u else none
theorem start0_tab {K : PySem.W.Frag} {ts : List Addr} {a b : Addr} {u : HO} (h : b ∈ ts) : start0 K ts a u b = some (.tbl #[]) := if_pos h
theorem start0_inv {K : PySem.W.Frag} {ts : List Addr} {a b : Addr} {u v : HO} (h : start0 K ts a u b = some v) : (b ∈ ts ∧ v = .tbl #[]) ∨ (b ∉ ts ∧ b = a ∧ K.lookup a = none ∧ v = u) := by
  unfold start0 at h
  split at h
  · exact .inl ⟨‹_›, (Option.some.inj h).symm⟩
  · split at h
    · rename_i n e
      exact .inr ⟨n, e.1, Option.isNone_iff_eq_none.mp e.2, (Option.some.inj h).symm⟩
    · cases h
/-- what is known of the law's promise at the head's heap h -/
def LawG (l : PySem.W.OpenLaw) (w : World) (K : PySem.W.Frag) (CX : CXT) (k n : Nat) (x : Str) (mg : Str → Option Value) (fa : Addr) (h : Heap) : Prop :=
  ∃ (fd : FuncData) (cs : List (Addr × Addr)) (sp : Sp), (∀ p ∈ cs, h.get? p.2 = some tabO ∧ K.lookup p.2 = none ∧ PySem.W.CodeHd h p.1 p.2) ∧ (∀ (s : Shared) (u : Value), BindsTo s fd ⟨[u], []⟩ [(x, u)]) ∧
    (∀ (H : Hp) (a : Addr) (ns : List Int), ns.length ≤ n → (∀ z ∈ ns, Builtin.Int.intBits z ≤ 1048576) → (∀ p ∈ cs, H p.2 = some (.tbl #[])) → SqL K H a (ns.map V.int) → sp [.ref a] H (fun v _ => v = .bl true) fun _ _ _ => False) ∧
    ∀ base : Heap, K.In base → base.Ns mainGlobals mg → (∀ p ∈ cs, TabB base mg p.1 p.2) → FnG l.prog w K mg base CX k fa fd [x] sp
theorem walkG {l : PySem.W.OpenLaw} {n k : Nat} {q : Program} {loose : List Str} {XP : (Str → Option Value) → Heap → Prop} {YP : World → Heap → Prop} {d : DefRec} {CX : World → CXT} {x : Str}
    (hn : l.most = some n) (hn2 : n ≤ sizeLine) (hdf : d.params.defaults = []) (hr : Room k callerA)
    (F : ∀ (w : World) (mg : Str → Option Value) (fa : Addr) (h : Heap), YP w h → h.Ns mainGlobals mg → mg d.name = some (.ref fa) → ∃ K : PySem.W.Frag, K.In h ∧ LawG l w K (CX w) k n x mg fa h)
    (hCX : ∀ (w : World) (H : Hp) (s : Shared) (e : Value) (s' : Shared), CX w [] H s (fun _ _ _ => False) e s' → False) : PySem.W.WalkO q loose XP YP l.row.toRowW d [] (fun f vs => PySem.call f vs) := by
  refine Att.attach_callB hn hdf fun w s₀ s₁ mg mb fa o pm cd doc a vs ns G Y ho hd hcd hmg ha hi hlen hbits hg => ?_
  obtain ⟨K, KX, fd, cs, sp, hcs, hb, hsp, hF⟩ := F w mg fa _ Y G.T.g hmg
  have rv := vals_ints hi
  have hz : ns.length ≤ sizeLine := Nat.le_trans hlen hn2
  have tab : ∀ b ∈ cs.map (·.2), s₁.heap.get? b = some tabO ∧ K.lookup b = none := fun b m => by
    obtain ⟨p, hp, rfl⟩ := List.mem_map.mp m
    exact ⟨(hcs p hp).1, (hcs p hp).2.1⟩
  have na : a ∉ cs.map (·.2) := fun m => by
    have z := Option.some.inj (ha.symm.trans (tab a m).1)
    cases congrArg Obj.cls z
  let ob : Obj := { cls := .type "list", data := .seq vs.toArray }
  let H := start0 K (cs.map (·.2)) a (.frz ob (.lst (ns.map V.int)))
  have T : Told (cs.map (·.2)) H s₁.heap := fun b u e => by
    rcases start0_inv e with ⟨m, rfl⟩ | ⟨_, rfl, _, rfl⟩
    · exact .inl ⟨m, rfl, (tab b m).1⟩
    · exact .inr ⟨_, _, rfl, ha, _, _, rfl⟩
  have hok : HOk l.prog w H s₁.heap := fun b u e => by
    rcases start0_inv e with ⟨m, rfl⟩ | ⟨_, rfl, _, rfl⟩
    · exact (tab b m).1
    · exact ⟨ha, by rw [List.length_map]; exact hz, vs, _, rv, ha⟩
  have hK : ∀ b o, K.lookup b = some o → s₁.heap.get? b = some o ∧ H b = none := fun b o e => ⟨KX b o e, by
    cases q : H b with
    | none => rfl
    | some u =>
      rcases start0_inv q with ⟨m, _⟩ | ⟨_, rfl, z, _⟩
      · rw [(tab b m).2] at e
        cases e
      · rw [z] at e
        cases e⟩
  have hS : SqL K H a (ns.map V.int) := by
    cases e : K.lookup a with
    | none => exact .inl (.inr ⟨ob, (if_neg na).trans (if_pos ⟨rfl, by rw [e]; rfl⟩)⟩)
    | some u =>
      obtain rfl := Option.some.inj (ha.symm.trans (KX a u e))
      exact .inr ⟨_, vs.toArray, _, e, rfl, rfl, rfl, by rw [List.size_toArray, hi.length]; exact hz, by simpa using rv⟩
  exact T.call hok hK G.T.g G.T.b G.T.builtins G.T.nolimit hg (fun p hp => (hcs p hp).1) (fun p hp => (hcs p hp).2.2) G.T.bmain hr hF hb
    (hsp H a ns hlen hbits (fun p hp => start0_tab (List.mem_map.mpr ⟨p, hp, rfl⟩)) hS) fun e s' => hCX w H s₁ e s'
end EndG
/-! ## the head -/
namespace K52
open PySem PySem.Spec PyProof.Rows L2 LamX
abbrev dd (x : Str) (st : Stmt) : He.DefD := ⟨(x, none), x, x, defArgs st, defBody st, defScope st, [], []⟩
abbrev dm (C m q : Str) (st : Stmt) : He.DefD := ⟨(C, some m), m, q, defArgs st, defBody st, defScope st, [], []⟩
def fnL : List He.DefD := [dd "is_integer" s_is_integer, dd "is_within" s_is_within, dd "raw_word" s_raw_word, dd "raw_tag" s_raw_tag, dd "raw_payload" s_raw_payload, dd "is_payload" s_is_payload, dd "is_raw_word" s_is_raw_word, dd "word" s_word,
  dd "tag_of" s_tag_of, dd "payload_of" s_payload_of, dd "_law_bag" s_law_bag, dd "_law_pick" s_law_pick, dd "_law_some" s_law_some, dd "_law_is" s_law_is, dd "_law_deep" s_law_deep, dd "_law_int" s_law_int, dd "_law_is_payload" s_law_is_payload,
  dd "_law_told" s_law_told, dd "_law_words_right" s_law_words_right, dd "_law_rooms_right" s_law_rooms_right, dd "law" s_law, dm "Room" "__init__" "Room.__init__" s_Room_init, dm "Room" "__eq__" "Room.__eq__" s_Room_eq]
def faL : List He.Fa := [.glo "is_integer", .glo "is_within", .glo "raw_word", .glo "raw_tag", .glo "raw_payload", .glo "is_payload", .glo "is_raw_word", .glo "word", .glo "tag_of", .glo "payload_of",
  .glo "_law_bag", .glo "_law_pick", .glo "_law_some", .glo "_law_is", .glo "_law_deep", .glo "_law_int", .glo "_law_is_payload", .glo "_law_told", .glo "_law_words_right", .glo "_law_rooms_right", .glo "law",
  .glo "NoWord", .glo "BadRoom", .glo "HeapError", .glo "Room", .glo "FAULTS"]
def faM : List He.Fa := [.free "isinstance", .free "int", .free "bool", .free "len", .free "abs", .free "sum", .free "range", .free "repr", .free "ValueError", .free "super",
  .int "INTEGER" 1, .int "FLAG" 2, .int "NIL" 3, .int "FAULT" 4, .int "THING" 0, .int "THREAD" 5, .int "LEAST" (-576460752303423488), .int "GREATEST" 576460752303423487, .int "LEAST_YOUNG" 8, .int "MOST_YOUNG" 100000, .int "MOST_OLD" 1000000, .int "MOST_PACE" 1000,
  .cls "Room", .noat "Room" "young", .noat "Room" "old", .noat "Room" "pace", .meth "Room" "__init__", .meth "Room" "__eq__", .mkr "Room", .exc "NoWord", .exm "NoWord" "NoWord" true, .exm "BadRoom" "NoWord" false, .exm "BadRoom" "BadRoom" true]
def fa : List He.Fa := faL ++ faM
def tfL : List He.Defn := [("_law_words_right", none), ("_law_rooms_right", none)]
/-- more that is looked at -/
def exL : List (PySem.W.Frag → Bool) := [
  fun K => He.tupB K "FAULTS" [.str "kind", .str "index", .str "zero", .str "overflow", .str "field", .str "method", .str "count", .str "deep", .str "stuck"],
  fun K => decide (PySem.W.kitOne K (.ref (He.ga K "NoWord")) (.ref (He.ga K "HeapError")) = some true),
  fun K => decide (PySem.W.kitOne K (.ref (He.ga K "NoWord")) (.type "ValueError") = some true),
  fun K => decide (PySem.W.kitOne K (.ref (He.ga K "Room")) (.ref (He.ga K "Room")) = some true),
  fun K => decide (PySem.W.kitOne K (.type "list") (.ref (He.ga K "Room")) = some false),
  fun K => decide (PySem.W.subIn K (.type "list") (.ref (He.ga K "Room")) = some false),
  fun K => He.eqO (PySem.W.findIn K (.ref (He.ga K "Room")) "__class__") (some (some (.builtin "object.__class__"))),
  fun K => He.eqO (PySem.W.specialIn K (.builtin "object.__class__") "__get__") (some (some (.builtin "getset_descriptor.__get__"))),
  fun K => decide (PySem.W.takesIn K (.builtin "object.__class__") = some true),
  fun K => decide (PySem.W.mroIn K (He.ga K "Room") (.type "object") = some true),
  fun K => He.eqO (PySem.W.findIn K (.ref (He.ga K "NoWord")) "__getattribute__") (some (some (.builtin "BaseException.__getattribute__"))),
  fun K => He.eqO (PySem.W.findIn K (.ref (He.ga K "NoWord")) "__getattr__") (some none),
  fun K => decide (PySem.W.subIn K (.ref (He.ga K "NoWord")) (.type "BaseException") = some true),
  fun K => PySem.W.hasDictIn K (He.ga K "NoWord"),
  fun K => He.eqO (PySem.W.findIn K (.ref (He.ga K "NoWord")) "__class__") (some (some (.builtin "object.__class__"))),
  fun K => decide (PySem.W.mroIn K (He.ga K "NoWord") (.type "object") = some true),
  fun K => decide ((He.cT K ("_law_words_right", none)).2 ≠ (He.cT K ("_law_rooms_right", none)).2)]
/-- BadRoom, its __init__ -/
def C0 (K : PySem.W.Frag) : Addr := He.ga K "BadRoom"
def I0 (K : PySem.W.Frag) : Addr := He.ma K (C0 K) "__init__"
def clsB (K : PySem.W.Frag) (C : Addr) : Bool := match K.lookup C with
  | some ⟨.type t, _, .cls ⟨_, _, .ref C' :: bm, _, _, true, _, _, _, _, false⟩, sl⟩ => decide (t = "type") && (decide (C' = C) && (PySem.HandSPX.refsVE bm && (match sl.toList with
    | [_, _, _, _, some (.builtin n), _] => decide (n = "ValueError.__new__")
    | _ => false)))
  | _ => false
def iniB (prog : Program) (K : PySem.W.Frag) (C : Addr) (fd : FuncData) : Bool := match fd.defaults, fd.kwdefaults, fd.code, fd.closure with
  | .none, .none, .ref cda, [(x, cc)] => decide (x = "__class__") && (PySem.W.codeIn K (.ref cda) "BadRoom.__init__" && ((match K.lookup cda with
      | some ⟨_, _, .fields vs, _⟩ => (match (vs[2]? : Option Value) with
        | some (Value.str file _) => (prog.main.file : Str) == file
        | _ => false)
      | _ => false) && (match K.lookup cc with
      | some ⟨_, _, .cell (some (.ref C')), _⟩ => decide (C' = C)
      | _ => false)))
  | _, _, _, _ => false
def exB (prog : Program) : List (PySem.W.Frag → Bool) := [
  fun K => clsB K (C0 K),
  fun K => He.eqO (PySem.W.findIn K (.ref (C0 K)) "__setattr__") (some (some (.builtin "object.__setattr__"))),
  fun K => He.eqO (PySem.W.findIn K (.ref (C0 K)) "__getattribute__") (some (some (.builtin "BaseException.__getattribute__"))),
  fun K => He.eqO (PySem.W.findIn K (.ref (C0 K)) "__getattr__") (some none),
  fun K => He.eqO (PySem.W.findIn K (.ref (C0 K)) "part") (some none),
  fun K => He.eqO (PySem.W.findIn K (.ref (C0 K)) "__init__") (some (some (.ref (I0 K)))),
  fun K => decide (PySem.W.typeIn K (.ref (I0 K)) = some (.type "function")),
  fun K => PySem.W.keepIn K (.ref (C0 K)),
  fun K => decide (PySem.W.subIn K (.ref (C0 K)) (.type "BaseException") = some true),
  fun K => decide (PySem.W.subIn K (.ref (C0 K)) (.type "ValueError") = some true),
  fun K => decide (PySem.W.typeIn K (.ref (C0 K)) = some (.type "type")),
  fun K => PySem.W.hasDictIn K (C0 K),
  fun K => decide (PySem.W.mroIn K (C0 K) (.ref (C0 K)) = some true),
  fun K => He.eqO (PySem.W.ks_superIn K (C0 K) (C0 K) "__init__") (some (some (.builtin "ValueError.__init__"))),
  fun K => He.eqO (PySem.W.nsIn K cStatics "thirdparty.any") (some none),
  fun K => match K.lookup (I0 K) with
    | some ⟨_, _, .func fd, _⟩ => iniB prog K (C0 K) fd
    | _ => false]
abbrev FnZ : Type := Option (Str × Str × Arguments × FuncBody × Scope × Addr × Addr)
def fnZ (K : PySem.W.Frag) : FnZ := match K.lookup (I0 K) with
  | some ⟨_, _, .func fd, _⟩ => some (fd.name, fd.qualname, fd.params, fd.body, fd.scope, fd.globals, fd.builtins)
  | _ => none
def valZ : FnZ := some ("__init__", "BadRoom.__init__", defArgs s_BadRoom_init, .stmts (defBody s_BadRoom_init), defScope s_BadRoom_init, mainGlobals, builtinsNs)
abbrev R : PySem.W.OpenRow := PySem.W.OpenLaw.row PySem.Challenge.rw_unseenheap_k52_words_and_rooms_judged
/-- what is looked at -/
def lookK (g : Addr → Option Obj) : PySem.W.Frag := He.frT g (cStatics :: He.asD g 5)
abbrev AlK : Type := (He.AlD × FnZ) × Bool
def obsK (g : Addr → Option Obj) : AlK := ((He.obsD fa fnL (lookK g), fnZ (lookK g)), exL.all (fun f => f (lookK g)) && ((exB R.prog).all (fun f => f (lookK g)) && He.tabsB g tfL (lookK g)))
def valK : AlK := ((He.valD fnL, valZ), true)
theorem clsB_ok {K : PySem.W.Frag} {C : Addr} (h : clsB K C = true) : ∃ nm q N bs bm sn sub ab col dd k0 k1 k2 k3 k5, K.lookup C = some (excClassObj nm q C N bs bm true sn sub ab col dd k0 k1 k2 k3 k5 "ValueError.__new__") ∧ PySem.HandSPX.refsVE bm = true := by
  unfold clsB at h
  split at h
  · rename_i t od nm bs C' bm N q sn sub ab col sl e
    obtain ⟨h1, h⟩ := He.ba h
    obtain ⟨h2, h⟩ := He.ba h
    obtain ⟨h3, h⟩ := He.ba h
    split at h
    · rename_i k0 k1 k2 k3 n k5 es
      have e1 : t = "type" := of_decide_eq_true h1
      have e2 : C' = C := of_decide_eq_true h2
      have e3 : n = "ValueError.__new__" := of_decide_eq_true h
      subst e1 e2 e3
      refine ⟨nm, q, N, bs, bm, sn, sub, ab, col, od, k0, k1, k2, k3, k5, e.trans ?_, h3⟩
      have e4 : sl = #[k0, k1, k2, k3, some (.builtin "ValueError.__new__"), k5] := by
        rw [← es, Array.toArray_toList] <;> rfl
      rw [e4]
    · cases h
  · cases h
theorem iniB_ok {prog : Program} {K : PySem.W.Frag} {C : Addr} {fd : FuncData} (h : iniB prog K C fd = true) : fd.defaults = .none ∧ fd.kwdefaults = .none ∧ ∃ (cda cc : Addr) (vs : Array Value) (file : Str) (tf : Tok) (ccl cl : Value) (cdd cld : Option Addr) (ccs csl : Array (Option Value)),
    fd.code = .ref cda ∧ fd.closure = [(("__class__" : Str), cc)] ∧ PySem.W.codeIn K (.ref cda) "BadRoom.__init__" = true ∧ K.lookup cda = some ⟨ccl, cdd, .fields vs, ccs⟩ ∧ vs[2]? = some (.str file tf) ∧ ((prog.main.file : Str) == file) = true ∧ K.lookup cc = some ⟨cl, cld, .cell (some (.ref C)), csl⟩ := by
  unfold iniB at h
  split at h
  · rename_i cda x cc d1 d2 d3 d4
    obtain ⟨h1, h⟩ := He.ba h
    obtain ⟨h2, h⟩ := He.ba h
    obtain ⟨h3, h4⟩ := He.ba h
    have e1 : x = "__class__" := of_decide_eq_true h1
    subst e1
    split at h3
    · rename_i ccl cdd vs ccs e2
      split at h3
      · rename_i file tf e3
        split at h4
        · rename_i cl cld C' csl e4
          have e5 : C' = C := of_decide_eq_true h4
          subst e5
          exact ⟨d1, d2, cda, cc, vs, file, tf, ccl, cl, cdd, cld, ccs, csl, d3, d4, h2, e2, e3, h3, e4⟩
        · cases h4
      · cases h3
    · cases h3
  · cases h
/-- what the head tells -/
structure SaysK (h : Heap) (K : PySem.W.Frag) : Prop where
  d : He.SaysD fa fnL K
  z : fnZ K = valZ
  ex : (exL.all fun f => f K) = true
  eb : ((exB R.prog).all fun f => f K) = true
  tabs : ∀ p ∈ tfL, PySem.W.codeHdIn K (He.cT K p).1 (He.cT K p).2 = true ∧ K.lookup (He.cT K p).2 = none ∧ h.get? (He.cT K p).2 = some EndG.tabO
theorem saysK_of {h : Heap} (e : obsK h.get? = valK) : SaysK h (lookK h.get?) := by
  have e2 : ((exL.all fun f => f (lookK h.get?)) && (((exB R.prog).all fun f => f (lookK h.get?)) && He.tabsB h.get? tfL (lookK h.get?))) = true := congrArg (fun z : AlK => z.2) e
  obtain ⟨a, b⟩ := He.ba e2
  obtain ⟨b, c⟩ := He.ba b
  refine ⟨congrArg (fun z : AlK => z.1.1) e, congrArg (fun z : AlK => z.1.2) e, a, b, fun p hp => ?_⟩
  obtain ⟨c1, c2⟩ := He.ba (List.all_eq_true.mp c p hp)
  split at c2
  · rename_i o q
    exact ⟨c1, He.frT_none q c2, q.trans (congrArg some (He.emptyTab_eq c2))⟩
  · cases c2
def hkK : PySem.W.Hook where
  α := AlK
  obs := fun s => obsK s.heap.get?
  val := fun _ => valK
  says := fun _ h => ∃ K : PySem.W.Frag, K.In h ∧ SaysK h K
  of := fun _ _ e => ⟨_, He.frT_in, saysK_of e⟩
  keeps := fun _ _ _ ⟨K, hK, c⟩ k => ⟨K, PySem.W.Frag.In.keeps hK k, { c with tabs := fun p hp => let ⟨x, y, z⟩ := c.tabs p hp; ⟨x, y, k _ _ z⟩ }⟩
def obK (s : PySem.W.SharedT) : AlK := obsK (HandSHeadRun.getT s)
theorem obK_eq (s : PySem.W.SharedT) : obK s = hkK.obs s.abs := congrArg obsK (funext (HandSHeadRun.getT_eq s))
def names : List Str := (["__name__", "HeapError", "BadRoom", "NoWord", "is_integer", "is_within", "THING", "INTEGER", "FLAG", "NIL", "FAULT", "THREAD", "LEAST", "GREATEST", "FAULTS", "raw_word", "raw_tag", "raw_payload", "is_payload", "is_raw_word", "word", "tag_of", "payload_of"] : List Str) ++
  (["LEAST_YOUNG", "MOST_YOUNG", "MOST_OLD", "MOST_PACE", "Room", "_law_bag", "_law_pick", "_law_some", "_law_is", "_law_deep", "_law_int", "_law_is_payload", "_law_told", "_law_words_right", "_law_rooms_right"] : List Str)
theorem run (w : World) : HandSHeadRun.RunEq R (PySem.W.view R.prog [42]) hkK obK 4000 names w := by
  intro os
  kernel_rfl
end K52
/-! ## the law -/
namespace K52
open PySem PySem.Spec PyProof.Rows L2 LamX
section
variable {w : World} {K : PySem.W.Frag} {h : Heap} {mg : Str → Option Value}
theorem SaysK.exAt (c : SaysK h K) (i : Nat) {f : PySem.W.Frag → Bool} (e : exL[i]? = some f := by rfl) : f K = true := List.all_eq_true.mp c.ex f (List.mem_of_getElem? e)
theorem SaysK.ebAt (c : SaysK h K) (i : Nat) {f : PySem.W.Frag → Bool} (e : (exB R.prog)[i]? = some f := by rfl) : f K = true := List.all_eq_true.mp c.eb f (List.mem_of_getElem? e)
theorem SaysK.f (c : SaysK h K) (u : He.Fa) {i : Nat} (e : fa[i]? = some u) : u.ok K = true := c.d.fact i e
theorem badRoom (X : K.In h) (G : h.Ns mainGlobals mg) (c : SaysK h K) : PySem.SupXBadRoom.SupTxt R.prog K mg (C0 K) (I0 K) := by
  refine ⟨He.glo_ok X G (c.f (.glo "BadRoom") (i := 22) rfl), clsB_ok (c.ebAt 0), He.eqO_ok (c.ebAt 1), He.eqO_ok (c.ebAt 2), He.eqO_ok (c.ebAt 3), He.eqO_ok (c.ebAt 4), He.eqO_ok (c.ebAt 5), of_decide_eq_true (c.ebAt 6), c.ebAt 7, of_decide_eq_true (c.ebAt 8),
    of_decide_eq_true (c.ebAt 9), of_decide_eq_true (c.ebAt 10), c.ebAt 11, He.exm_ok (c.f (.exm "BadRoom" "BadRoom" true) (i := 58) rfl), of_decide_eq_true (c.ebAt 12), He.eqO_ok (c.ebAt 13), He.eqO_ok (c.ebAt 14), He.free_ok X G (c.f (.free "super") (i := 35) rfl), by decide +kernel, ?_⟩
  have z := c.z
  have y := c.ebAt 15
  have y2 : (match K.lookup (I0 K) with
    | some ⟨_, _, .func fd, _⟩ => iniB R.prog K (C0 K) fd
    | _ => false) = true := y
  unfold fnZ at z
  cases q : K.lookup (I0 K) with
  | none =>
    rw [q] at y2
    cases y2
  | some o =>
    obtain ⟨oc, od, dt, osl⟩ := o
    rw [q] at y2 z
    cases dt with
    | func fd =>
      obtain ⟨d1, d2, cda, cc, vs, file, tf, ccl, cl, cdd, cld, ccs, csl, d3, d4, h2, e2, e3, h3, e4⟩ := iniB_ok y2
      obtain ⟨n1, n2, n3, n4, n5, n6, n7, n8, n9, n10, n11, n12, n13, n14, n15⟩ := fd
      have e5 : (some (n1, n2, n3, n4, n5, n6, n15) : FnZ) = valZ := z
      unfold valZ at e5
      simp only [Option.some.injEq, Prod.mk.injEq] at e5
      obtain ⟨g1, g2, g3, g4, g5, g6, g7⟩ := e5
      have d1 : n8 = .none := d1
      have d2 : n9 = .none := d2
      have d3 : n13 = .ref cda := d3
      have d4 : n7 = [(("__class__" : Str), cc)] := d4
      subst g1 g2 g3 g4 g5 g6 g7 d1 d2 d3 d4
      exact ⟨oc, od, n10, n11, n12, cda, cc, n14, osl, vs, file, tf, ccl, cl, cdd, cld, ccs, csl, rfl, h2, e2, e3, h3, e4⟩
    | _ => cases y2
theorem txn (X : K.In h) (G : h.Ns mainGlobals mg) (c : SaysK h K) : Txn R.prog K mg := by
  have fr : ∀ {x : Str} {i : Nat}, fa[i]? = some (.free x) → mg x = none := fun e => He.free_ok X G (c.f _ e)
  have gl : ∀ {x : Str} {i : Nat}, fa[i]? = some (.glo x) → mg x = some (.ref (He.ga K x)) := fun e => He.glo_ok X G (c.f _ e)
  have nt : ∀ {x : Str} {v : Int} {i : Nat}, fa[i]? = some (.int x v) → ∃ u, mg x = some (.int v u) := fun e => He.int_ok X G (c.f _ e)
  obtain ⟨x1, x2, x3, x4⟩ := He.exc_ok (c.f (.exc "NoWord") (i := 55) rfl)
  exact {
    f_isinstance := fr (i := 26) rfl
    f_int := fr (i := 27) rfl
    f_bool := fr (i := 28) rfl
    f_len := fr (i := 29) rfl
    g_INTEGER := nt (i := 36) rfl
    g_FLAG := nt (i := 37) rfl
    g_NIL := nt (i := 38) rfl
    g_FAULT := nt (i := 39) rfl
    g_THING := nt (i := 40) rfl
    g_THREAD := nt (i := 41) rfl
    g_LEAST := nt (i := 42) rfl
    g_GREATEST := nt (i := 43) rfl
    g_FAULTS := gl (i := 25) rfl
    t_FAULTS := ⟨_, rfl, fun H => He.tupB_ok (c.exAt 0) H⟩
    e_NoWord := ⟨gl (i := 21) rfl, x1, x2, x3, x4⟩
    g_LEAST_YOUNG := nt (i := 44) rfl
    g_MOST_YOUNG := nt (i := 45) rfl
    g_MOST_OLD := nt (i := 46) rfl
    g_MOST_PACE := nt (i := 47) rfl
    g_Room := gl (i := 24) rfl
    c_Room := He.cls_ok (c.f (.cls "Room") (i := 48) rfl)
    nY := He.noat_ok (c.f (.noat "Room" "young") (i := 49) rfl)
    nO := He.noat_ok (c.f (.noat "Room" "old") (i := 50) rfl)
    nP := He.noat_ok (c.f (.noat "Room" "pace") (i := 51) rfl)
    ha := He.eqO_ok (c.exAt 6)
    hn := He.eqO_ok (c.exAt 7)
    htk := of_decide_eq_true (c.exAt 8)
    hm := of_decide_eq_true (c.exAt 9)
    kRR := of_decide_eq_true (c.exAt 3)
    kLR := of_decide_eq_true (c.exAt 4)
    e_BadRoom := badRoom X G c
    f_abs := fr (i := 30) rfl
    f_sum := fr (i := 31) rfl
    f_range := fr (i := 32) rfl
    f_repr := fr (i := 33) rfl
    f_ValueError := fr (i := 34) rfl
    g_HeapError := gl (i := 23) rfl
    xNW := ⟨He.eqO_ok (c.exAt 10), He.eqO_ok (c.exAt 11), of_decide_eq_true (c.exAt 12), c.exAt 13, He.eqO_ok (c.exAt 14), He.eqO_ok (c.exAt 7), of_decide_eq_true (c.exAt 8), of_decide_eq_true (c.exAt 15)⟩
    kNH := of_decide_eq_true (c.exAt 1)
    kNV := of_decide_eq_true (c.exAt 2)
    mNN := He.exm_ok (c.f (.exm "NoWord" "NoWord" true) (i := 56) rfl)
    mBN := He.exm_ok (c.f (.exm "BadRoom" "NoWord" false) (i := 57) rfl) }
theorem FunD.cd {x q : Str} {pa : Arguments} {bo : List Stmt} {sc : Scope} {p : Str × Option Str} {fd : FuncData} (F : FunD K x q pa bo sc [] [] (He.fAd K p) fd) : fd.code = .ref (He.codeOf K p) := by
  obtain ⟨oc, od, dV, kV, doc, pm, an, cdv, ct, osl, rfl, lk, hcd, _, _⟩ := F.ex
  obtain ⟨c, rfl⟩ := He.codeIn_ref hcd
  rw [He.codeOf_eq lk rfl] <;> rfl
abbrev cW (K : PySem.W.Frag) : Addr × Addr := He.cT K ("_law_words_right", none)
abbrev cR (K : PySem.W.Frag) : Addr × Addr := He.cT K ("_law_rooms_right", none)
def Ts0 (K : PySem.W.Frag) : Ts2 := [((cW K).2, qW), ((cR K).2, qR)]
theorem tabs0 {H : Hp} (h1 : H (cW K).2 = some (.tbl #[])) (h2 : H (cR K).2 = some (.tbl #[])) : Tabs (Ts0 K) H := by
  have one : ∀ {P : Addr} {q : Str}, H P = some (.tbl #[]) → TabS H P q := fun e => ⟨#[], e, trivial, fun pos cv z => nomatch z⟩
  intro p hp
  rcases List.mem_cons.mp hp with rfl | hp
  · exact one h1
  · obtain rfl := List.mem_singleton.mp hp
    exact one h2
theorem lawG (X : K.In h) (G : h.Ns mainGlobals mg) {f0 : Addr} (hfa : mg ("law" : Str) = some (.ref f0)) (c : SaysK h K) : EndG.LawG PySem.Challenge.rw_unseenheap_k52_words_and_rooms_judged w K CX0 14 63 "script" mg f0 h := by
  have T := txn X G c
  have gl : ∀ {x : Str} {i : Nat}, fa[i]? = some (.glo x) → mg x = some (.ref (He.ga K x)) := fun e => He.glo_ok X G (c.f _ e)
  obtain ⟨d0, F0⟩ := c.d.def_ 0 (d := dd "is_integer" s_is_integer) rfl
  obtain ⟨d1, F1⟩ := c.d.def_ 1 (d := dd "is_within" s_is_within) rfl
  obtain ⟨d2, F2⟩ := c.d.def_ 2 (d := dd "raw_word" s_raw_word) rfl
  obtain ⟨d3, F3⟩ := c.d.def_ 3 (d := dd "raw_tag" s_raw_tag) rfl
  obtain ⟨d4, F4⟩ := c.d.def_ 4 (d := dd "raw_payload" s_raw_payload) rfl
  obtain ⟨d5, F5⟩ := c.d.def_ 5 (d := dd "is_payload" s_is_payload) rfl
  obtain ⟨d6, F6⟩ := c.d.def_ 6 (d := dd "is_raw_word" s_is_raw_word) rfl
  obtain ⟨d7, F7⟩ := c.d.def_ 7 (d := dd "word" s_word) rfl
  obtain ⟨d8, F8⟩ := c.d.def_ 8 (d := dd "tag_of" s_tag_of) rfl
  obtain ⟨d9, F9⟩ := c.d.def_ 9 (d := dd "payload_of" s_payload_of) rfl
  obtain ⟨d10, F10⟩ := c.d.def_ 10 (d := dd "_law_bag" s_law_bag) rfl
  obtain ⟨d11, F11⟩ := c.d.def_ 11 (d := dd "_law_pick" s_law_pick) rfl
  obtain ⟨d12, F12⟩ := c.d.def_ 12 (d := dd "_law_some" s_law_some) rfl
  obtain ⟨d13, F13⟩ := c.d.def_ 13 (d := dd "_law_is" s_law_is) rfl
  obtain ⟨d14, F14⟩ := c.d.def_ 14 (d := dd "_law_deep" s_law_deep) rfl
  obtain ⟨d15, F15⟩ := c.d.def_ 15 (d := dd "_law_int" s_law_int) rfl
  obtain ⟨d16, F16⟩ := c.d.def_ 16 (d := dd "_law_is_payload" s_law_is_payload) rfl
  obtain ⟨d17, F17⟩ := c.d.def_ 17 (d := dd "_law_told" s_law_told) rfl
  obtain ⟨d18, F18⟩ := c.d.def_ 18 (d := dd "_law_words_right" s_law_words_right) rfl
  obtain ⟨d19, F19⟩ := c.d.def_ 19 (d := dd "_law_rooms_right" s_law_rooms_right) rfl
  obtain ⟨d20, F20⟩ := c.d.def_ 20 (d := dd "law" s_law) rfl
  obtain ⟨d21, F21⟩ := c.d.def_ 21 (d := dm "Room" "__init__" "Room.__init__" s_Room_init) rfl
  obtain ⟨d22, F22⟩ := c.d.def_ 22 (d := dm "Room" "__eq__" "Room.__eq__" s_Room_eq) rfl
  have e20 := hfa.symm.trans (gl (x := "law") (i := 20) rfl)
  obtain rfl := Value.ref.inj (Option.some.inj e20)
  have b20 := FunD.bindsA (ps := ["script"]) F20 fun _ _ _ _ _ _ us hl => match us, hl with | [_], _ => rfl
  have tb := c.tabs
  have tW := tb _ (List.mem_cons_self ..)
  have tR := tb _ (List.mem_cons_of_mem _ (List.mem_cons_self ..))
  have hne : (cW K).2 ≠ (cR K).2 := of_decide_eq_true (c.exAt 16)
  refine ⟨d20, [cW K, cR K], spLaw K (Ts0 K), ?_, fun s v => b20 s [v] rfl, fun H a ns hl _ hT hS => ⟨a, ns, rfl, hS, hl, tabs0 (hT _ (List.mem_cons_self ..)) (hT _ (List.mem_cons_of_mem _ (List.mem_cons_self ..))), fun _ => rfl⟩, fun base _ _ TB => ?_⟩
  · intro p hp
    rcases List.mem_cons.mp hp with rfl | hp
    · exact ⟨tW.2.2, tW.2.1, PySem.W.codeHd_of_K X tW.1⟩
    · obtain rfl := List.mem_singleton.mp hp
      exact ⟨tR.2.2, tR.2.1, PySem.W.codeHd_of_K X tR.1⟩
  have one : ∀ {CX : CXT} {k : Nat} {x p : Str} {st : Stmt} {f : Addr} {fd : FuncData} {sp : Sp}, FnP K x st f fd → mg x = some (.ref f) → FnOk R.prog w K mg base CX k f fd [p] sp → (∀ (kV doc pm : Value) (an : Option Addr) (cdv ct : Value) (u : Value), bindArgs (PySem.W.fnOf x x (defArgs st) (defBody st) (defScope st) .none kV doc pm an cdv ct) ⟨[u], []⟩ = pure [(p, u)]) →
      Cal R.prog w K mg base CX k x [p] sp := fun {_ _ _ _ _ f fd _} F hm ok hb => ⟨f, fd, ok, hm, F.kp, F.bindsN fun kV doc pm an cdv ct us hl => match us, hl with | [u], _ => hb kV doc pm an cdv ct u⟩
  have two : ∀ {CX : CXT} {k : Nat} {x p q : Str} {st : Stmt} {f : Addr} {fd : FuncData} {sp : Sp}, FnP K x st f fd → mg x = some (.ref f) → FnOk R.prog w K mg base CX k f fd [p, q] sp → (∀ (kV doc pm : Value) (an : Option Addr) (cdv ct : Value) (u v : Value), bindArgs (PySem.W.fnOf x x (defArgs st) (defBody st) (defScope st) .none kV doc pm an cdv ct) ⟨[u, v], []⟩ = pure [(p, u), (q, v)]) →
      Cal R.prog w K mg base CX k x [p, q] sp := fun {_ _ _ _ _ _ f fd _} F hm ok hb => ⟨f, fd, ok, hm, F.kp, F.bindsN fun kV doc pm an cdv ct us hl => match us, hl with | [u, v], _ => hb kV doc pm an cdv ct u v⟩
  have thr : ∀ {CX : CXT} {k : Nat} {x p q r : Str} {st : Stmt} {f : Addr} {fd : FuncData} {sp : Sp}, FnP K x st f fd → mg x = some (.ref f) → FnOk R.prog w K mg base CX k f fd [p, q, r] sp → (∀ (kV doc pm : Value) (an : Option Addr) (cdv ct : Value) (u v z : Value), bindArgs (PySem.W.fnOf x x (defArgs st) (defBody st) (defScope st) .none kV doc pm an cdv ct) ⟨[u, v, z], []⟩ = pure [(p, u), (q, v), (r, z)]) →
      Cal R.prog w K mg base CX k x [p, q, r] sp := fun {_ _ _ _ _ _ _ f fd _} F hm ok hb => ⟨f, fd, ok, hm, F.kp, F.bindsN fun kV doc pm an cdv ct us hl => match us, hl with | [u, v, z], _ => hb kV doc pm an cdv ct u v z⟩
  have oneG : ∀ {CX : CXT} {k : Nat} {x p : Str} {st : Stmt} {f : Addr} {fd : FuncData} {sp : Sp}, FnP K x st f fd → mg x = some (.ref f) → FnG R.prog w K mg base CX k f fd [p] sp → (∀ (kV doc pm : Value) (an : Option Addr) (cdv ct : Value) (u : Value), bindArgs (PySem.W.fnOf x x (defArgs st) (defBody st) (defScope st) .none kV doc pm an cdv ct) ⟨[u], []⟩ = pure [(p, u)]) →
      CalG R.prog w K mg base CX k x [p] sp := fun {_ _ _ _ _ f fd _} F hm ok hb => ⟨f, fd, ok, hm, F.kp, F.bindsN fun kV doc pm an cdv ct us hl => match us, hl with | [u], _ => hb kV doc pm an cdv ct u⟩
  have twoG : ∀ {CX : CXT} {k : Nat} {x p q : Str} {st : Stmt} {f : Addr} {fd : FuncData} {sp : Sp}, FnP K x st f fd → mg x = some (.ref f) → FnG R.prog w K mg base CX k f fd [p, q] sp → (∀ (kV doc pm : Value) (an : Option Addr) (cdv ct : Value) (u v : Value), bindArgs (PySem.W.fnOf x x (defArgs st) (defBody st) (defScope st) .none kV doc pm an cdv ct) ⟨[u, v], []⟩ = pure [(p, u), (q, v)]) →
      CalG R.prog w K mg base CX k x [p, q] sp := fun {_ _ _ _ _ _ f fd _} F hm ok hb => ⟨f, fd, ok, hm, F.kp, F.bindsN fun kV doc pm an cdv ct us hl => match us, hl with | [u, v], _ => hb kV doc pm an cdv ct u v⟩
  have D0 := one (p := "thing") (st := s_is_integer) F0 (gl (i := 0) rfl) (ok_is_integer (P := R.prog) (w := w) (base := base) T.toTxt F0) fun _ _ _ _ _ _ _ => rfl
  have D1 := thr (p := "thing") (q := "least") (r := "most") (st := s_is_within) F1 (gl (i := 1) rfl) (ok_is_within (P := R.prog) (w := w) (base := base) F1 D0) fun _ _ _ _ _ _ _ _ _ => rfl
  have D2 := two (p := "tag") (q := "payload") (st := s_raw_word) F2 (gl (i := 2) rfl) (ok_raw_word (P := R.prog) (w := w) (base := base) F2) fun _ _ _ _ _ _ _ _ => rfl
  have D3 := one (p := "word") (st := s_raw_tag) F3 (gl (i := 3) rfl) (ok_raw_tag (P := R.prog) (w := w) (base := base) F3) fun _ _ _ _ _ _ _ => rfl
  have D4 := one (p := "word") (st := s_raw_payload) F4 (gl (i := 4) rfl) (ok_raw_payload (P := R.prog) (w := w) (base := base) F4) fun _ _ _ _ _ _ _ => rfl
  have D5 := two (p := "tag") (q := "payload") (st := s_is_payload) F5 (gl (i := 5) rfl) (ok_is_payload (P := R.prog) (w := w) (base := base) T.toTxt F5 D1) fun _ _ _ _ _ _ _ _ => rfl
  have D6 := one (p := "thing") (st := s_is_raw_word) F6 (gl (i := 6) rfl) (ok_is_raw_word (P := R.prog) (w := w) (base := base) F6 D0 D5) fun _ _ _ _ _ _ _ => rfl
  have D7 := two (p := "tag") (q := "payload") (st := s_word) F7 (gl (i := 7) rfl) (ok_word (base := base) T.toTxt F7 D1 D5 D2) fun _ _ _ _ _ _ _ _ => rfl
  have D8 := one (p := "word_told") (st := s_tag_of) F8 (gl (i := 8) rfl) (ok_tag_of (base := base) T.toTxt F8 D6 D3) fun _ _ _ _ _ _ _ => rfl
  have D9 := one (p := "word_told") (st := s_payload_of) F9 (gl (i := 9) rfl) (ok_payload_of (base := base) T.toTxt F9 D6 D4) fun _ _ _ _ _ _ _ => rfl
  have D10 := one (p := "script") (st := s_law_bag) F10 (gl (i := 10) rfl) (ok_law_bag (P := R.prog) (w := w) (base := base) T.toTxl F10) fun _ _ _ _ _ _ _ => rfl
  have D11 := two (p := "bag") (q := "many") (st := s_law_pick) F11 (gl (i := 11) rfl) (ok_law_pick (P := R.prog) (w := w) (base := base) T.toTxl F11) fun _ _ _ _ _ _ _ _ => rfl
  have D12 := two (p := "bag") (q := "things") (st := s_law_some) F12 (gl (i := 12) rfl) (ok_law_some (P := R.prog) (w := w) (base := base) T.toTxl F12 D11) fun _ _ _ _ _ _ _ _ => rfl
  have D13 := twoG (p := "found") (q := "due") (st := s_law_is) F13 (gl (i := 13) rfl) (ok_law_is (P := R.prog) (w := w) (base := base) T.toTxl F13) fun _ _ _ _ _ _ _ _ => rfl
  have D14 := one (p := "bag") (st := s_law_deep) F14 (gl (i := 14) rfl) (ok_law_deep (P := R.prog) (w := w) (base := base) T.toTxl F14 D11 D12) fun _ _ _ _ _ _ _ => rfl
  have D15 := thr (p := "thing") (q := "least") (r := "most") (st := s_law_int) F15 (gl (i := 15) rfl) (ok_law_int (P := R.prog) (w := w) (base := base) T.toTxl F15) fun _ _ _ _ _ _ _ _ _ => rfl
  have D16 := two (p := "tag") (q := "payload") (st := s_law_is_payload) F16 (gl (i := 16) rfl) (ok_law_is_payload (P := R.prog) (w := w) (base := base) T.toTxl F16 D15) fun _ _ _ _ _ _ _ _ => rfl
  have OW := ok_law_words_right (base := base) T (Ts := Ts0 K) F18 (FunD.cd F18) (TB _ (List.mem_cons_self ..)) (List.mem_cons_self ..) (fun p hp e => by
    rcases List.mem_cons.mp hp with rfl | hp
    · rfl
    · obtain rfl := List.mem_singleton.mp hp
      exact absurd e.symm hne) F17 (gl (i := 17) rfl) D11 D12 D14 D13 D16 D7 D8 D9
  have MR := He.mkr_ok (c.f (.mkr "Room") (i := 54) rfl)
  have ME := He.meth_ok (c.f (.meth "Room" "__eq__") (i := 53) rfl)
  have OR := ok_law_rooms_right (base := base) T (Ts := Ts0 K) F19 (FunD.cd F19) (TB _ (List.mem_cons_of_mem _ (List.mem_cons_self ..))) (List.mem_cons_of_mem _ (List.mem_cons_self ..)) (fun p hp e => by
    rcases List.mem_cons.mp hp with rfl | hp
    · exact absurd e hne
    · obtain rfl := List.mem_singleton.mp hp
      rfl) (of_decide_eq_true (c.exAt 5)) F17 (gl (i := 17) rfl) MR (ok_Room_init (base := base) T.toTxr F21 D1) (F21.bindsN fun _ _ _ _ _ _ us hl => match us, hl with | [_, _, _, _], _ => rfl)
      (ok_Room_eq (P := R.prog) (w := w) (base := base) T.toTxr F22) ME.1 ME.2 (F22.bindsN fun _ _ _ _ _ _ us hl => match us, hl with | [_, _], _ => rfl) D11 D12 D14 D13 D15
  have D18 := oneG (p := "bag") (st := s_law_words_right) F18 (gl (i := 18) rfl) OW fun _ _ _ _ _ _ _ => rfl
  have D19 := oneG (p := "bag") (st := s_law_rooms_right) F19 (gl (i := 19) rfl) OR fun _ _ _ _ _ _ _ => rfl
  exact ok_law (base := base) T F20 D10 D18 D19
end
end K52
open PySem PySem.W PySem.Calls PyProof.Rows
theorem PySem.Challenge.cw_unseenheap_k52_words_and_rooms_judged_holds : PySem.Challenge.rw_unseenheap_k52_words_and_rooms_judged.Holds := by
  w_on; o_law
  refine HandSHeadRun.head_any (r := OpenLaw.row PySem.Challenge.rw_unseenheap_k52_words_and_rooms_judged) (q := view (OpenLaw.row PySem.Challenge.rw_unseenheap_k52_words_and_rooms_judged).prog [42]) (H := K52.hkK) (ob := K52.obK) (M := 4000) (loose := K52.names)
    (d := HandSHeadRun.topDef (OpenLaw.row PySem.Challenge.rw_unseenheap_k52_words_and_rooms_judged).prog 42) (kwd := []) K52.obK_eq
    (by kernel_rfl) (fun s => by kernel_rfl) K52.run (by kernel_rfl) (by kernel_rfl) (by kernel_rfl) (by rfl) (by first | assumption | decide +kernel) (by decide +kernel) ⟨rfl, rfl, rfl, rfl, rfl, by decide +kernel⟩ ?hw ?hc
  case hw => w_witness2
  case hc =>
    refine EndG.walkG (l := PySem.Challenge.rw_unseenheap_k52_words_and_rooms_judged) (n := 63) (k := 14) (x := "script") (CX := fun _ => L2.CX0) rfl (by decide) (by kernel_rfl) ⟨rfl, by decide, by decide⟩ ?F (fun _ _ _ _ _ z => z)
    intro w mg fa h Y G hmg0
    obtain ⟨K, KX, c⟩ := Y
    have hmg : mg ("law" : PySem.Str) = some (.ref fa) := by
      have e : (HandSHeadRun.topDef (OpenLaw.row PySem.Challenge.rw_unseenheap_k52_words_and_rooms_judged).prog 42).name = ("law" : PySem.Str) := by kernel_rfl
      rw [← e]
      exact hmg0
    exact ⟨K, KX, K52.lawG KX G hmg c⟩
