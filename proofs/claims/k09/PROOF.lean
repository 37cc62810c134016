import PyProof.Rows.All
import Wide.All
import OpenK.AllK
import Wide.FinOn
import KE.KLam
import KE.KExcSuper
import HandS.ForMost
import HandS.Exc
import HandS.ForExc
import HandS.EndTab
import HandS.HeadWalk
import HandS.HeadHook4
import HandS.OwnEq
import HandS.ExcInit
import HandS.TryMany
import HandS.ExcIs
import HandS.ExcField
import HandS.Lambda
import HandS.IsInst
import HandS.Wide
import HandS.ReplaceLit
import HandS.ReplaceDef
import HandS.StrMore
import HandS.HeadHook1
import HandS.Codes
import HandS.HeadHook3
import HandS.Head0
import HandS.Head1
import HandS.Head2
import HandS.HeadEnd
import HandS.HeadHook2
import HandS.Zip
import HandS.TupAny
import PySem.Challenge.RW_unseenheap_k09_whole_texts_joined
set_option Elab.async false
set_option linter.all false
set_option maxRecDepth 100000
set_option maxHeartbeats 4000000
/-! ## stepping through readings -/
namespace L2
open PySem PySem.Spec PyProof.Rows
/-- a def that is called by its name -/
structure Cal (P : Program) (w : World) (K : PySem.W.Frag) (mg : Str → Option Value) (base : Heap) (CX : CXT) (k : Nat) (x : Str) (ps : List Str) (sp : Sp) : Prop where
  ex : ∃ (f : Addr) (fd : FuncData), FnOk P w K mg base CX k f fd ps sp ∧ mg x = some (.ref f) ∧ PySem.W.keepIn K (.ref f) = true ∧ Binds K fd ps []
section
variable {X : Cx} {CX : CXT} {k j : Nat} {x : Str} {ps : List Str} {sp : Sp} {E : XK} {p pos : Pos} {e : Expr} {es : List Expr} {t : TA} {W : WX}
theorem pe_cal (D : Cal X.prog X.w X.K X.mg X.base CX k x ps sp) (hr : Room j X.A) (hkj : Nat.ble k j = true) (hg : Gl X x) (hx : Passes CX X E) (ha : PA X (e :: es) t) (hdb : (x == ("__debug__" : Str)) = false := by decide)
    (he : starEach (e :: es) X.env = (false, eval e X.env) :: starEach es X.env := by rfl) (hpl : (backTo pos (starEach es X.env)).any (·.1) = false := by rfl) : PE X (.Call (.Name x p) (e :: es) [] pos) (tCall sp [] E t) := by
  obtain ⟨f, fd, F, hm, hk, hb⟩ := D.ex
  exact pe_call F (hr.mono (Nat.le_of_ble_eq_true hkj)) hg hm hk hb .nil hx ha hdb he hpl
theorem pe_cal0 (D : Cal X.prog X.w X.K X.mg X.base CX k x ps sp) (hr : Room j X.A) (hkj : Nat.ble k j = true) (hg : Gl X x) (hx : Passes CX X E) (hdb : (x == ("__debug__" : Str)) = false := by decide) : PE X (.Call (.Name x p) [] [] pos) (tCall sp [] E tNil) := by
  obtain ⟨f, fd, F, hm, hk, hb⟩ := D.ex
  exact pe_call0 F (hr.mono (Nat.le_of_ble_eq_true hkj)) hg hm hk hb .nil hx hdb
/-- a call within a try's body, or in a def that raises: what is raised is wished for at the slots -/
theorem pe_calS (D : Cal X.prog X.w X.K X.mg X.base (L2.CX X.prog X.w) k x ps sp) (hr : Room j X.A) (hkj : Nat.ble k j = true) (hg : Gl X x) (tk : Takes X W) (ha : PA X (e :: es) t) (hdb : (x == ("__debug__" : Str)) = false := by decide)
    (he : starEach (e :: es) X.env = (false, eval e X.env) :: starEach es X.env := by rfl) (hpl : (backTo pos (starEach es X.env)).any (·.1) = false := by rfl) : PE X (.Call (.Name x p) (e :: es) [] pos) (tCallS sp (WE W) t) := by
  obtain ⟨f, fd, F, hm, hk, hb⟩ := D.ex
  exact pe_callS F (hr.mono (Nat.le_of_ble_eq_true hkj)) hg hm hk hb (fun σ => passAt tk σ) ha hdb he hpl
theorem pe_gi {i : Int} (h : ∃ u, X.mg x = some (.int i u)) (hg : Gl X x := by rfl) (hd : (x == ("__debug__" : Str)) = false := by decide) : PE X (.Name x p) (tC (.int i)) := by
  obtain ⟨u, h⟩ := h
  exact pe_glob hg h ⟨u, rfl⟩ hd
theorem pe_gs {z : Str} (h : ∃ u, X.mg x = some (.str z u)) (hg : Gl X x := by rfl) (hd : (x == ("__debug__" : Str)) = false := by decide) : PE X (.Name x p) (tC (.str z)) := by
  obtain ⟨u, h⟩ := h
  exact pe_glob hg h ⟨u, rfl⟩ hd
theorem pe_gr {a : Addr} (h : X.mg x = some (.ref a)) (hg : Gl X x := by rfl) (hd : (x == ("__debug__" : Str)) = false := by decide) : PE X (.Name x p) (tC (.ref a)) := pe_glob hg h rfl hd
end
/-! ### the steps -/
section
variable {K : PySem.W.Frag} {σ : L2.St} {H : Hp} {Q : VK} {QB : Bool → Hp → Prop} {QA : List V → Hp → Prop} {D : Ends} {ta tb tc : TE} {tA : TA} {t u : TT} {tu tw : TS} {r r' : R2} {g : TG} {v : V} {i j : Int} {c : Bool}
theorem w_var {n : Nat} (h : σ[n]? = some (some v)) (q : Q v H) : tVar n σ H Q := ⟨v, h, q⟩
theorem w_c (q : Q v H) : tC v σ H Q := q
theorem w_op (q : ta σ H fun x H1 => tb σ H1 fun y H2 => r x y H2 Q) : tOp r ta tb σ H Q := q
theorem w_un {r : V → Hp → VK → Prop} (q : ta σ H fun x H1 => r x H1 Q) : tUn r ta σ H Q := q
theorem w_I0 {g : Int → Int → V} (q : Q (g i j) H) : rI0 g (.int i) (.int j) H Q := ⟨i, j, rfl, rfl, q⟩
theorem w_I {C : Int → Int → Prop} {g : Int → Int → V} (h : C i j) (q : Q (g i j) H) : rI C g (.int i) (.int j) H Q := ⟨i, j, rfl, rfl, h, q⟩
theorem w_U {g : Int → V} (q : Q (g i) H) : rU g (.int i) H Q := ⟨i, rfl, q⟩
theorem w_eq {x y : V} (h : scal x y = true) (q : Q (.bl (decide (x = y))) H) : rEq x y H Q := ⟨h, q⟩
theorem w_ne {x y : V} (h : scal x y = true) (q : Q (.bl (!decide (x = y))) H) : rNe x y H Q := ⟨h, q⟩
theorem w_eqI (q : Q (.bl (decide (i = j))) H) : rEq (.int i) (.int j) H Q := ⟨rfl, by
  have e : decide (V.int i = V.int j) = decide (i = j) := by simp
  rw [e]
  exact q⟩
theorem w_neI (q : Q (.bl (!decide (i = j))) H) : rNe (.int i) (.int j) H Q := ⟨rfl, by
  have e : decide (V.int i = V.int j) = decide (i = j) := by simp
  rw [e]
  exact q⟩
theorem w_isN (q : ta σ H fun x H1 => Q (.bl (decide (x = .non))) H1) : tIsN ta σ H Q := q
theorem w_notN (q : ta σ H fun x H1 => Q (.bl (!decide (x = .non))) H1) : tNotN ta σ H Q := q
theorem w_test (q : ta σ H fun x H1 => ∃ k, x = .bl k ∧ QB k H1) : tTest ta σ H QB := q
theorem w_B (q : ta σ H fun x H1 => ∃ k, x = .bl k ∧ QB k H1) : tB ta σ H QB := q
theorem w_bl {P : Bool → Prop} (q : P c) : ∃ k, V.bl c = .bl k ∧ P k := ⟨c, rfl, q⟩
theorem w_and (q : t σ H fun c H1 => if c = true then u σ H1 QB else QB false H1) : tAnd t u σ H QB := q
theorem w_or (q : t σ H fun c H1 => if c = true then QB true H1 else u σ H1 QB) : tOr t u σ H QB := q
theorem w_not (q : t σ H fun c H1 => QB (!c) H1) : tNot t σ H QB := q
theorem w_andV (q : ta σ H fun x H1 => ∃ c, x = .bl c ∧ if c = true then tb σ H1 Q else Q (.bl false) H1) : tAndV ta tb σ H Q := q
theorem w_orV (q : ta σ H fun x H1 => ∃ c, x = .bl c ∧ if c = true then Q (.bl true) H1 else tb σ H1 Q) : tOrV ta tb σ H Q := q
theorem w_notV (q : ta σ H fun x H1 => ∃ c, x = .bl c ∧ Q (.bl (!c)) H1) : tNotV ta σ H Q := q
theorem w_ifE (q : t σ H fun c H1 => if c = true then ta σ H1 Q else tb σ H1 Q) : tIf t ta tb σ H Q := q
theorem w_chain (q : ta σ H fun x H1 => tb σ H1 fun y H2 => r x y H2 fun z H3 => ∃ k, z = .bl k ∧ if k = true then tc σ H3 fun y' H4 => r' y y' H4 Q else Q (.bl false) H3) : tChain r r' ta tb tc σ H Q := q
theorem w_next (q : D.nx σ H) : tNext D σ H := q
theorem w_seq (q : tu { D with nx := tw D } σ H) : tSeq tu tw D σ H := q
theorem w_drop (q : ta σ H fun _ H1 => D.nx σ H1) : tDrop ta D σ H := q
theorem w_ret (q : ta σ H D.rt) : tRet ta D σ H := q
theorem w_retN (q : D.rt .non H) : tRetN D σ H := q
theorem w_ifS (q : t σ H fun b H1 => if b = true then tu D σ H1 else tw D σ H1) : tIfS t tu tw D σ H := q
theorem w_asg (q : ta σ H fun x H1 => g x σ H1 D.nx) : tAsg ta g D σ H := q
theorem w_name {n : Nat} {N : L2.St → Hp → Prop} (q : N (σ.set n (some v)) H) : gName n v σ H N := q
theorem w_nil (q : QA [] H) : tNil σ H QA := q
theorem w_cons (q : ta σ H fun x H1 => tA σ H1 fun xs H2 => QA (x :: xs) H2) : tCons ta tA σ H QA := q
theorem w_tup (q : tA σ H fun xs H1 => xs.length ≤ sizeLine ∧ ∀ p, H1 p = none → Q (.ref p) (upd H1 p (.tup xs))) : tTup tA σ H Q := q
theorem w_lst (q : tA σ H fun xs H1 => xs.length ≤ sizeLine ∧ ∀ p, H1 p = none → Q (.ref p) (upd H1 p (.lst xs))) : tLst tA σ H Q := q
theorem w_call {sp : Sp} {dvs : List V} {E : XK} (q : tA σ H fun vs H1 => sp (vs ++ dvs) H1 Q E) : tCall sp dvs E tA σ H Q := q
theorem w_CB {r : List V → Hp → VK → Prop} (q : tA σ H fun vs H1 => r vs H1 Q) : tCB r tA σ H Q := q
theorem w_ixL {p : Addr} {xs : List V} (h : SqL K H p xs) (ha : atI xs i = some v) (q : Q v H) : rIxL K (.ref p) (.int i) H Q := ⟨p, xs, i, v, rfl, rfl, h, ha, q⟩
theorem w_ixT {p : Addr} {xs : List V} (h : SqT K H p xs) (ha : atI xs i = some v) (q : Q v H) : rIxT K (.ref p) (.int i) H Q := ⟨p, xs, i, v, rfl, rfl, h, ha, q⟩
theorem w_t {A B : Prop} (h : A) : if true = true then A else B := iteT h
theorem w_f {A B : Prop} (h : B) : if false = true then A else B := iteF h
theorem w_2 {A B : Prop} (h1 : c = true → A) (h2 : c = false → B) : if c = true then A else B := by
  cases c with
  | true => exact iteT (h1 rfl)
  | false => exact iteF (h2 rfl)
end
/-! ### what is known of a heap -/
theorem sameUpd {H : Hp} {p : Addr} {o : HO} (h : H p = none) : Same H (upd H p o) := fun b u e => by
  rw [upd_ne (ne_of_none e h)]
  exact e
/-- the type of a value, where it is known -/
def tyOf (H : Hp) : V → Option String
  | .non => some "NoneType"
  | .bl _ => some "bool"
  | .int _ => some "int"
  | .str _ => some "str"
  | .ref a => (match H a with
    | some (.lst _) => some "list"
    | some (.tup _) => some "tuple"
    | some (.dK _) => some "dict"
    | _ => none)
  | _ => none
def Kn (H : Hp) (v : V) : Prop := (tyOf H v).isSome = true
theorem tyOf_ok {K : PySem.W.Frag} {H : Hp} {v : V} {n : String} (h : tyOf H v = some n) : TyX K H v (.type n) := by
  cases v with
  | non => cases h; exact .base .non
  | bl b => cases h; exact .base (.bl b)
  | int i => cases h; exact .base (.int i)
  | str x => cases h; exact .base (.str x)
  | ref a =>
    unfold tyOf at h
    cases e : H a with
    | none => simp [e] at h
    | some o =>
      cases o with
      | lst xs => simp [e] at h; subst h; exact .base (.lst e)
      | tup xs => simp [e] at h; subst h; exact .base (.tup e)
      | dK xs => simp [e] at h; subst h; exact .base (.dK e)
      | _ => simp [e] at h
  | _ => cases h
theorem Same.ty {H H' : Hp} (s : Same H H') {v : V} {n : String} (h : tyOf H v = some n) : tyOf H' v = some n := by
  cases v with
  | ref a =>
    cases e : H a with
    | none => simp [tyOf, e] at h
    | some o =>
      simp only [tyOf, e] at h
      simp only [tyOf, s a o e]
      exact h
  | _ => exact h
theorem Same.kn {H H' : Hp} (s : Same H H') {v : V} (h : Kn H v) : Kn H' v := by
  unfold Kn at h ⊢
  obtain ⟨n, e⟩ := Option.isSome_iff_exists.mp h
  rw [s.ty e]
  rfl
/-- isinstance(v, C), C a built-in class, v of a known type -/
theorem w_isi {K : PySem.W.Frag} {H : Hp} {Q : VK} {v : V} {m : String} {b : Bool} (n : String) (hn : tyOf H v = some n) (hb : kitB n m = some b) (q : Q (.bl b) H) : rIsi K [v, .ty m] H Q := ⟨v, .ty m, .type n, .type m, b, rfl, .ty m, tyOf_ok hn, kit_ty hb, q⟩
def intLike : V → Bool
  | .int _ => true
  | .bl _ => true
  | _ => false
def isBl : V → Bool
  | .bl _ => true
  | _ => false
def isSt : V → Bool
  | .str _ => true
  | _ => false
def isLs (H : Hp) : V → Bool
  | .ref a => (match H a with
    | some (.lst _) => true
    | _ => false)
  | _ => false
def isTp (H : Hp) : V → Bool
  | .ref a => (match H a with
    | some (.tup _) => true
    | _ => false)
  | _ => false
section
variable {K : PySem.W.Frag} {H : Hp} {Q : VK} {v : V}
theorem w_isInt (h : Kn H v) (q : Q (.bl (intLike v)) H) : rIsi K [v, .ty "int"] H Q := by
  cases v with
  | non => exact w_isi (b := false) "NoneType" rfl (by decide +kernel) q
  | bl b => exact w_isi (b := true) "bool" rfl (by decide +kernel) q
  | int i => exact w_isi (b := true) "int" rfl (by decide +kernel) q
  | str x => exact w_isi (b := false) "str" rfl (by decide +kernel) q
  | ref a =>
    cases e : H a with
    | none => simp [Kn, tyOf, e] at h
    | some o =>
      cases o with
      | lst xs => exact w_isi (b := false) "list" (by simp [tyOf, e]) (by decide +kernel) q
      | tup xs => exact w_isi (b := false) "tuple" (by simp [tyOf, e]) (by decide +kernel) q
      | dK xs => exact w_isi (b := false) "dict" (by simp [tyOf, e]) (by decide +kernel) q
      | _ => simp [Kn, tyOf, e] at h
  | _ => cases h
theorem w_isBool (h : Kn H v) (q : Q (.bl (isBl v)) H) : rIsi K [v, .ty "bool"] H Q := by
  cases v with
  | non => exact w_isi (b := false) "NoneType" rfl (by decide +kernel) q
  | bl b => exact w_isi (b := true) "bool" rfl (by decide +kernel) q
  | int i => exact w_isi (b := false) "int" rfl (by decide +kernel) q
  | str x => exact w_isi (b := false) "str" rfl (by decide +kernel) q
  | ref a =>
    cases e : H a with
    | none => simp [Kn, tyOf, e] at h
    | some o =>
      cases o with
      | lst xs => exact w_isi (b := false) "list" (by simp [tyOf, e]) (by decide +kernel) q
      | tup xs => exact w_isi (b := false) "tuple" (by simp [tyOf, e]) (by decide +kernel) q
      | dK xs => exact w_isi (b := false) "dict" (by simp [tyOf, e]) (by decide +kernel) q
      | _ => simp [Kn, tyOf, e] at h
  | _ => cases h
theorem w_isStr (h : Kn H v) (q : Q (.bl (isSt v)) H) : rIsi K [v, .ty "str"] H Q := by
  cases v with
  | non => exact w_isi (b := false) "NoneType" rfl (by decide +kernel) q
  | bl b => exact w_isi (b := false) "bool" rfl (by decide +kernel) q
  | int i => exact w_isi (b := false) "int" rfl (by decide +kernel) q
  | str x => exact w_isi (b := true) "str" rfl (by decide +kernel) q
  | ref a =>
    cases e : H a with
    | none => simp [Kn, tyOf, e] at h
    | some o =>
      cases o with
      | lst xs => exact w_isi (b := false) "list" (by simp [tyOf, e]) (by decide +kernel) q
      | tup xs => exact w_isi (b := false) "tuple" (by simp [tyOf, e]) (by decide +kernel) q
      | dK xs => exact w_isi (b := false) "dict" (by simp [tyOf, e]) (by decide +kernel) q
      | _ => simp [Kn, tyOf, e] at h
  | _ => cases h
theorem w_isList (h : Kn H v) (q : Q (.bl (isLs H v)) H) : rIsi K [v, .ty "list"] H Q := by
  cases v with
  | non => exact w_isi (b := false) "NoneType" rfl (by decide +kernel) q
  | bl b => exact w_isi (b := false) "bool" rfl (by decide +kernel) q
  | int i => exact w_isi (b := false) "int" rfl (by decide +kernel) q
  | str x => exact w_isi (b := false) "str" rfl (by decide +kernel) q
  | ref a =>
    cases e : H a with
    | none => simp [Kn, tyOf, e] at h
    | some o =>
      simp only [isLs, e] at q
      cases o with
      | lst xs => exact w_isi (b := true) "list" (by simp [tyOf, e]) (by decide +kernel) q
      | tup xs => exact w_isi (b := false) "tuple" (by simp [tyOf, e]) (by decide +kernel) q
      | dK xs => exact w_isi (b := false) "dict" (by simp [tyOf, e]) (by decide +kernel) q
      | _ => simp [Kn, tyOf, e] at h
  | _ => cases h
theorem w_isTuple (h : Kn H v) (q : Q (.bl (isTp H v)) H) : rIsi K [v, .ty "tuple"] H Q := by
  cases v with
  | non => exact w_isi (b := false) "NoneType" rfl (by decide +kernel) q
  | bl b => exact w_isi (b := false) "bool" rfl (by decide +kernel) q
  | int i => exact w_isi (b := false) "int" rfl (by decide +kernel) q
  | str x => exact w_isi (b := false) "str" rfl (by decide +kernel) q
  | ref a =>
    cases e : H a with
    | none => simp [Kn, tyOf, e] at h
    | some o =>
      simp only [isTp, e] at q
      cases o with
      | lst xs => exact w_isi (b := false) "list" (by simp [tyOf, e]) (by decide +kernel) q
      | tup xs => exact w_isi (b := true) "tuple" (by simp [tyOf, e]) (by decide +kernel) q
      | dK xs => exact w_isi (b := false) "dict" (by simp [tyOf, e]) (by decide +kernel) q
      | _ => simp [Kn, tyOf, e] at h
  | _ => cases h
end
end L2
/-! ## raising, calls where it is known that no repr is under way, repr of data -/
namespace L2
open PySem PySem.Spec PyProof.Rows
/-- an own error class without a method -/
structure ErrTxt (K : PySem.W.Frag) (mg : Str → Option Value) (x : Str) (C : Addr) : Prop where
  gC : mg x = some (.ref C)
  ex : PySem.W.excIn K C [.type "ValueError", .type "Exception", .type "BaseException", .type "object"] "ValueError.__new__" = true
  kC : PySem.W.keepIn K (.ref C) = true
  su : PySem.W.subIn K (.ref C) (.type "BaseException") = some true
  ty : PySem.W.typeIn K (.ref C) = some (.type "type")
section
variable {X : Cx} {C : Addr} {W : WX} {x : Str} {p pos pos2 : Pos}
theorem pmk_own0 (T : ErrTxt X.K X.mg x C) (hg : Gl X x := by rfl) (hdb : (x == ("__debug__" : Str)) = false := by decide) : PMk X (.Call (.Name x p) [] [] pos) (fun _ H Q => Q (.ref C) none H) := by
  intro pins s σ H Q I h
  obtain ⟨bm, N, nm, qn, bs, hdct, sn, sub, ab, col, dd, k0, k1, k2, k3, k5, mN, hC, hN, hni, O⟩ := exc_obj I.kIn T.ex
  refine wpAny_Call_Name_kw (ld_glob I hg T.gC (PySem.W.callWith_K0 I.kIn T.kC ?_) hdb)
  exact wpAny_call_exc_subT PySem.F.excBase_ValueError O hC hN hni (fun h' e hm => mk_of I hm (raises_own T.su T.ty) h (I.hok.gone hm.new)) (Nat.zero_le _)
theorem ps_raise0 (hc : X.calm = true) (T : ErrTxt X.K X.mg x C) (tk : Takes X W) (hg : Gl X x := by rfl) (hdb : (x == ("__debug__" : Str)) = false := by decide) : PS X (.Raise (some (.Call (.Name x p) [] [] pos)) none pos2) (fun _ σ H => W (.ref C) none σ H) :=
  ps_raise hc tk (pmk_own0 T hg hdb)
end
/-- as FnOk, where no repr is under way -/
structure FnG (P : Program) (w : World) (K : PySem.W.Frag) (mg : Str → Option Value) (base : Heap) (CX : CXT) (k : Nat) (f : Addr) (fd : FuncData) (ps : List Str) (sp : Sp) : Prop where
  len : ∀ vs H Q E, sp vs H Q E → vs.length = ps.length
  run : ∀ (A : Around) (outer : List Env) (s : Shared) (H : Hp) (args : Args) (us : List Value) (vs : List V) (Q : VK) (E : XK), A.guards = some [] → Room k A → Env0 P w K mg base A outer s H → BindsTo s fd args (ps.zip us) → Vals vs us → sp vs H Q E →
    codeAny (model P w) A (.call (.ref f) args) (CR CX outer P w H s Q E) s
structure CalG (P : Program) (w : World) (K : PySem.W.Frag) (mg : Str → Option Value) (base : Heap) (CX : CXT) (k : Nat) (x : Str) (ps : List Str) (sp : Sp) : Prop where
  ex : ∃ (f : Addr) (fd : FuncData), FnG P w K mg base CX k f fd ps sp ∧ mg x = some (.ref f) ∧ PySem.W.keepIn K (.ref f) = true ∧ Binds K fd ps []
section
variable {P : Program} {w : World} {K : PySem.W.Frag} {mg : Str → Option Value} {base : Heap} {x qual : Str} {params : Arguments} {body : List Stmt} {scope : Scope} {f : Addr} {fd : FuncData}
theorem FunD.okG {CX : CXT} {N ps : List Str} {k : Nat} {sp : Sp} (F : FunD K x qual params body scope [] [] f fd) (S : FnScope N ps scope) (len : ∀ vs H Q E, sp vs H Q E → vs.length = ps.length)
    (hbody : ∀ (cdv : Value) (A : Around) (outer : List Env) (s : Shared) (H : Hp) (vs : List V) (Q : VK) (E : XK), (A.deeper (envOfC qual scope s.heap.objs.size f cdv)).guards = some [] → Room k (A.deeper (envOfC qual scope s.heap.objs.size f cdv)) → PySem.W.codeIn K cdv qual = true → fd.code = cdv → sp vs H Q E →
      ∃ t, PSs (cxOf CX P w K mg base N qual scope f cdv A outer s H E) body t ∧ t { nx := fun _ H' => Q .non H', rt := Q } (start N vs) H) : FnG P w K mg base CX (k + 1) f fd ps sp := by
  obtain ⟨oc, od, dV, kV, doc, pm, an, cdv, ct, osl, rfl, lk, hcd, _, _⟩ := F.ex
  exact ⟨len, fun A outer s H args us vs Q E hg hr e0 hb r hsp => LamX.run_ofS lk hcd S hr e0 hb r (len _ _ _ _ hsp) fun hr' => hbody cdv A outer s H vs Q E hg hr' hcd rfl hsp⟩
end
section
variable {X : Cx} {CX : CXT} {k j : Nat} {x : Str} {ps : List Str} {sp : Sp} {E : XK} {p pos : Pos} {e : Expr} {es : List Expr} {t : TA}
theorem pe_calG (D : CalG X.prog X.w X.K X.mg X.base CX k x ps sp) (hg : X.A.guards = some []) (hr : Room j X.A) (hkj : Nat.ble k j = true) (gl : Gl X x) (hx : Passes CX X E) (ha : PA X (e :: es) t) (hdb : (x == ("__debug__" : Str)) = false := by decide)
    (he : starEach (e :: es) X.env = (false, eval e X.env) :: starEach es X.env := by rfl) (hpl : (backTo pos (starEach es X.env)).any (·.1) = false := by rfl) : PE X (.Call (.Name x p) (e :: es) [] pos) (tCall sp [] E t) := by
  obtain ⟨f, fd, F, hm, hk, hb⟩ := D.ex
  refine ⟨fun pins s σ H Q I h => ?_⟩
  refine wpAny_Call_Name_kw (ld_glob I gl hm ?_ hdb)
  refine PySem.W.callWith_K (h₀ := X.base) I.ok.mod.kin hk (thn (ha.run pos pins s σ H _ I h) fun us s1 hh => ?_) he hpl
  obtain ⟨vs, H1, I1, r, q⟩ := hh
  rw [List.append_nil] at q
  have hl : us.length = ps.length := by rw [← r.length]; exact F.len _ _ _ _ q
  have b := hb s1 us I1.kIn (by rw [List.append_nil]; exact hl)
  rw [List.append_nil] at b
  refine ⟨I1.kIn, wpAny_call (codeAny_mono (F.run X.A X.stack s1 H1 ⟨us, []⟩ us vs Q E hg (hr.mono (Nat.le_of_ble_eq_true hkj)) I1.env0 b r q) fun rr s' hq => ?_)⟩
  match rr, hq with
  | .error u, hq => exact hx pins σ H1 s1 u s' I1 hq
  | .ok (.ret u), hq => exact I1.after hq
  | .ok .next, hq => exact False.elim hq
  | .ok .brk, hq => exact False.elim hq
  | .ok .cont, hq => exact False.elim hq
end
/-! ### repr of data -/
def rReprD (K : PySem.W.Frag) : List V → Hp → VK → Prop := fun xs H Q => ∃ (a : Addr) (d : PyData), xs = [.ref a] ∧ Dp K H (.ref a) d ∧ d.showable = true ∧ d.hasDict = false ∧ d.depth ≤ 60 ∧ d.shown.length ≤ sizeLine ∧ Q (.str d.shown) H
theorem call_reprD {X : Cx} (hg : X.A.guards = some []) (hu : X.A.units + 64 < cLine) : CallR X (.builtin "repr") (rReprD X.K) := by
  intro pins s σ H xs us Q I r h
  obtain ⟨a, d, rfl, hd, h1, h2, h3, h4, q⟩ := h
  cases r with
  | cons ru rn =>
    cases rn
    cases ru
    obtain ⟨as, R⟩ := Dp.reads I d _ _ hd rfl
    refine repr_of_reads' R h1 (fun z => ?_) hg (by omega) (fun _ _ e => e) (fun h' u tk k => ⟨.str d.shown, H, I.kept k, ⟨u, rfl⟩, q⟩) h4
    rw [h2] at z
    cases z
end L2
/-! ## == by an own __eq__, whatever it gives -/
namespace L2
open PySem PySem.Spec PyProof.Rows
theorem w_nt {A B : Prop} (h : B) : if (!true) = true then A else B := iteF h
theorem w_nf {A B : Prop} (h : A) : if (!false) = true then A else B := iteT h
def rInt1 : List V → Hp → VK → Prop := fun xs H Q => (∃ i, xs = [.int i] ∧ Q (.int i) H) ∨ ∃ k, xs = [.bl k] ∧ Q (.int (if k then 1 else 0)) H
def rAbs : List V → Hp → VK → Prop := fun xs H Q => ∃ i, xs = [.int i] ∧ Q (.int (if i < 0 then -i else i)) H
def rLenQ (K : PySem.W.Frag) : List V → Hp → VK → Prop := fun xs H Q => ∃ p ys, xs = [.ref p] ∧ (SqL K H p ys ∨ SqT K H p ys) ∧ Q (.int ys.length) H
def rLenS : List V → Hp → VK → Prop := fun xs H Q => ∃ z, xs = [.str z] ∧ z.length ≤ sizeLine ∧ Q (.int z.length) H
def rListOf (K : PySem.W.Frag) : List V → Hp → VK → Prop := fun xs H Q => ∃ p ys, xs = [.ref p] ∧ (SqL K H p ys ∨ SqT K H p ys) ∧ ∀ l, H l = none → Q (.ref l) (upd H l (.lst ys))
def rStrI : List V → Hp → VK → Prop := fun xs H Q => ∃ i, xs = [.int i] ∧ i.natAbs.log2 < 1920 ∧ Q (.str (toString i)) H
def rIntS : List V → Hp → VK → Prop := fun xs H Q => ∃ a n, xs = [.str a] ∧ PySem.intText? a = some n ∧ a.length ≤ 640 ∧ Q (.int n) H
section
variable {X : Cx} {K : PySem.W.Frag} {H : Hp} {Q : VK} {i : Int} {b : Bool} {p : Addr} {ys : List V} {z : Str}
theorem call_int1N : CallR X (.type "int") rInt1 := call_int1
theorem call_absN : CallR X (.builtin "abs") rAbs := call_abs
theorem call_lenN : CallR X (.builtin "len") (rLenQ X.K) := call_len_seq
theorem call_lenS : CallR X (.builtin "len") rLenS := call_len_str
theorem call_listN : CallR X (.type "list") (rListOf X.K) := call_list_of
theorem call_strN : CallR X (.type "str") rStrI := call_str_int
theorem call_intS : CallR X (.type "int") rIntS := call_int_str
theorem w_int1 (q : Q (.int i) H) : rInt1 [.int i] H Q := .inl ⟨i, rfl, q⟩
theorem w_intb (q : Q (.int (if b then 1 else 0)) H) : rInt1 [.bl b] H Q := .inr ⟨b, rfl, q⟩
theorem w_abs (q : Q (.int (if i < 0 then -i else i)) H) : rAbs [.int i] H Q := ⟨i, rfl, q⟩
theorem w_lenL (h : SqL K H p ys) (q : Q (.int ys.length) H) : rLenQ K [.ref p] H Q := ⟨p, ys, rfl, .inl h, q⟩
theorem w_lenT (h : SqT K H p ys) (q : Q (.int ys.length) H) : rLenQ K [.ref p] H Q := ⟨p, ys, rfl, .inr h, q⟩
theorem w_lenS (h : z.length ≤ sizeLine) (q : Q (.int z.length) H) : rLenS [.str z] H Q := ⟨z, rfl, h, q⟩
theorem w_listL (h : SqL K H p ys) (q : ∀ l, H l = none → Q (.ref l) (upd H l (.lst ys))) : rListOf K [.ref p] H Q := ⟨p, ys, rfl, .inl h, q⟩
theorem w_strI (h : i.natAbs.log2 < 1920) (q : Q (.str (toString i)) H) : rStrI [.int i] H Q := ⟨i, rfl, h, q⟩
end
theorem w_for {wi : TI} {g : TG} {tb : TS} {D : Ends} {σ : L2.St} {H : Hp} (q : wi σ H fun J H1 => ∃ W : Nat → Nat → L2.St → Hp → Prop, (∃ m, W 0 m σ H1) ∧ ∀ i m σ H, W i m σ H →
    (J.stop i H ∧ D.nx σ H) ∨ (J.go i H ∧ ∃ N : L2.St → Hp → Prop, (∀ σ' H', N σ' H' → ∃ m', m' < m ∧ W (i + 1) m' σ' H') ∧ ∀ x H', J.yld i H x H' → g x σ H' fun σ2 H2 => tb { D with nx := N, ct := N, bk := D.nx } σ2 H2)) : tFor wi g tb D σ H := q
theorem w_rng1 {tA : TA} {σ : L2.St} {H : Hp} {R : It → Hp → Prop} (q : tA σ H fun vs H1 => ∃ j : Int, vs = [.int j] ∧ -(2 ^ 62) ≤ j ∧ j < 2 ^ 62 ∧ R (Itr 0 j.toNat) H1) : iRng1 tA σ H R := q
theorem w_itL {K : PySem.W.Frag} {tl : TE} {σ : L2.St} {H : Hp} {R : It → Hp → Prop} (q : tl σ H fun x H1 => ∃ a, x = .ref a ∧ (∃ xs, SqL K H1 a xs) ∧ R (Itl K a) H1) : iList K tl σ H R := q
theorem w_itT {K : PySem.W.Frag} {tl : TE} {σ : L2.St} {H : Hp} {R : It → Hp → Prop} (q : tl σ H fun x H1 => ∃ a, x = .ref a ∧ (∃ xs, SqT K H1 a xs) ∧ R (Itt K a) H1) : iTup K tl σ H R := q
theorem w_lc {wi : TI} {g : TG} {tt : TT} {te : TE} {vs : List Nat} {σ : L2.St} {H : Hp} {Q : VK} (q : wi σ H fun J H1 => ∀ D, H1 D = none → ∃ W : Nat → Nat → Hp → Prop, (∃ m, W 0 m (upd H1 D (.lst []))) ∧ ∀ i m H, W i m H →
    (J.stop i H ∧ Q (.ref D) H) ∨ (J.go i H ∧ ∃ Nx : Hp → Prop, (∀ H', Nx H' → ∃ m', m' < m ∧ W (i + 1) m' H') ∧ ∀ x H', J.yld i H x H' → g x (wipe σ vs) H' fun σ2 H2 => wipe σ2 vs = wipe σ vs ∧ tt σ2 H2 fun b H3 =>
      if b = true then te σ2 H3 fun y H4 => ∃ acc, H4 D = some (.lst acc) ∧ acc.length < sizeLine ∧ Nx (upd H4 D (.lst (acc ++ [y]))) else Nx H3)) : tLc wi g tt te vs σ H Q := q
theorem w_yes {σ : L2.St} {H : Hp} {QB : Bool → Hp → Prop} (q : QB true H) : tYes σ H QB := q
theorem w_fld {K : PySem.W.Frag} {σ : L2.St} {H : Hp} {Q : VK} {ta : TE} {f : Str} (q : ta σ H fun x H1 => ∃ a C dx fs v, x = .ref a ∧ H1 a = some (.ins C dx fs) ∧ Cls K C ∧ NoAttr K C f ∧ fs.lookup f = some v ∧ Q v H1) : tFld K ta f σ H Q := q
theorem w_BM {K : PySem.W.Frag} {σ : L2.St} {H : Hp} {Q : VK} {n : String} {r : V → List V → Hp → VK → Prop} {to : TE} {t : TA} (q : to σ H fun x H1 => tyV K n x H1 ∧ t σ H1 fun xs H2 => r x xs H2 Q) : tBM K n r to t σ H Q := q
theorem w_sl {σ : L2.St} {H : Hp} {Q : VK} {r : V → Option Int → Option Int → Hp → VK → Prop} {te : TE} {tl th : TO} (q : te σ H fun x H1 => tl σ H1 fun l H2 => th σ H2 fun u H3 => r x l u H3 Q) : tSl r te tl th σ H Q := q
theorem w_noPart {σ : L2.St} {H : Hp} {Q : Option Int → Hp → Prop} (q : Q none H) : tNoPart σ H Q := q
theorem w_part {σ : L2.St} {H : Hp} {Q : Option Int → Hp → Prop} {t : TE} (q : t σ H fun x H1 => ∃ i, x = .int i ∧ Q (some i) H1) : tPart t σ H Q := q
theorem w_in {i : Int} {P : Int → Prop} (q : P i) : ∃ j, V.int i = .int j ∧ P j := ⟨i, rfl, q⟩
/-- x == y, x an instance of the class at C whose own __eq__ keeps sp; y an instance of it, or a list -/
def rEqOwn (K : PySem.W.Frag) (C : Addr) (sp : Sp) : R2 := fun x y H Q => ∃ a dx fs b, x = .ref a ∧ y = .ref b ∧ H a = some (.ins C dx fs) ∧ ((∃ dy gs, H b = some (.ins C dy gs)) ∨ ((∃ xs, H b = some (.lst xs)) ∧ PySem.W.subIn K (.type "list") (.ref C) = some false)) ∧
  sp [.ref a, .ref b] H (fun v H' => ∃ c, v = .bl c ∧ Q (.bl c) H') fun _ _ _ => False
theorem op_eqOwn {X : Cx} {CX : CXT} {C f : Addr} {fd : FuncData} {ps : List Str} {sp : Sp} {k j : Nat} (F : FnOk X.prog X.w X.K X.mg X.base CX k f fd ps sp) (hr : Room j X.A) (hkj : Nat.ble k j = true)
    (hs : PySem.W.findIn X.K (.ref C) "__eq__" = some (some (.ref f))) (hf : PySem.W.isFn X.K (.ref f) = true) (hb : Binds X.K fd ps []) (hx : Passes CX X fun _ _ _ => False) : OpR X (compareOp .Eq) (rEqOwn X.K C sp) := by
  intro pins s σ H x y v u Q I rx ry hq
  obtain ⟨a, dx, fs, b, rfl, rfl, ha, hy, q⟩ := hq
  cases rx
  cases ry
  obtain ⟨mA, J, _⟩ := ins_get I.hok ha
  obtain ⟨od, J, _⟩ := J.look
  obtain ⟨m, hF⟩ := I.fr
  have ht : ∃ tb, PySem.W.Looks (model X.prog X.w) s.heap (typeOf (.ref b)) tb ∧ PySem.W.notFirst X.K C tb = true := by
    rcases hy with ⟨dy, gs, h⟩ | ⟨⟨xs, h⟩, hl⟩
    · obtain ⟨mB, J2, _⟩ := ins_get I.hok h
      obtain ⟨od2, J2, _⟩ := J2.look
      exact ⟨.ref C, J2.type, by simp [PySem.W.notFirst]⟩
    · obtain ⟨_, its, n, _, e⟩ := (show ObjOk X.prog X.w H s.heap b (.lst xs) from I.hok b _ h)
      exact ⟨.type "list", fun A Q E s k z => wpAny_typeOf_ref (k _ _ e) z, by simp [PySem.W.notFirst, hl]⟩
  obtain ⟨tb, ht, hn⟩ := ht
  have hr2 := hr.mono (Nat.le_of_ble_eq_true hkj)
  show wpAny (model X.prog X.w) X.A (richCompare .Eq (.ref a) (.ref b)) _ _ _
  refine PySem.W.cmp_K (op := .Eq) (tb := tb) hr2.units0 hF I.ok.mod.kin J ht hn hs hf ?_
  have hl := F.len _ _ _ _ q
  have b2 := hb s [.ref a, .ref b] I.kIn (by simpa using hl)
  rw [List.append_nil] at b2
  refine wpAny_call (codeAny_mono (F.run X.A X.stack s H ⟨[.ref a, .ref b], []⟩ [.ref a, .ref b] [.ref a, .ref b] _ _ hr2 I.env0 b2 (.cons rfl (.cons rfl .nil)) q) fun r s' z => ?_)
  match r, z with
  | .error e, z => exact hx pins σ H s e s' I z
  | .ok (.ret w), z =>
    obtain ⟨v2, H', I', rv, c, ec, q2⟩ := I.after z
    subst ec
    cases rv
    exact ⟨.bl c, H', I', rfl, q2⟩
  | .ok .next, z => exact False.elim z
  | .ok .brk, z => exact False.elim z
  | .ok .cont, z => exact False.elim z
end L2
/-! ## rules where it is known that so many tokens are out -/
namespace L2
open PySem PySem.Spec PyProof.Rows
def PEn (n : Nat) (X : Cx) (e : Expr) (t : TE) : Prop := ∀ (pins : List (Addr × Obj)) (s : Shared) (σ : L2.St) (H : Hp) (Q : VK), n ≤ s.toks → Inv X pins σ H s → t σ H Q → wpAny (model X.prog X.w) X.A (eval e X.env) (EP X pins σ Q) X.xe s
def PTn (n : Nat) (X : Cx) (e : Expr) (t : TT) : Prop := ∀ (pins : List (Addr × Obj)) (s : Shared) (σ : L2.St) (H : Hp) (Q : Bool → Hp → Prop), n ≤ s.toks → Inv X pins σ H s → t σ H Q → wpAny (model X.prog X.w) X.A (isTrue e X.env (eval e X.env)) (TP X pins σ Q) X.xe s
def PAn (n : Nat) (X : Cx) (es : List Expr) (t : TA) : Prop := ∀ (pos : Pos) (pins : List (Addr × Obj)) (s : Shared) (σ : L2.St) (H : Hp) (Q : List V → Hp → Prop), n ≤ s.toks → Inv X pins σ H s → t σ H Q →
  wpAny (model X.prog X.w) X.A (spliced (backTo pos (starEach es X.env))) (AP X pins σ Q) X.xe s
def PSn (n : Nat) (X : Cx) (st : Stmt) (t : TS) : Prop := ∀ (pins : List (Addr × Obj)) (s : Shared) (σ : L2.St) (H : Hp) (D : Ends), n ≤ s.toks → Inv X pins σ H s → t D σ H → wpAny (model X.prog X.w) X.A (exec st X.env) (SP X pins D) X.xe s
def PSsn (n : Nat) (X : Cx) (st : List Stmt) (t : TS) : Prop := ∀ (pins : List (Addr × Obj)) (s : Shared) (σ : L2.St) (H : Hp) (D : Ends), n ≤ s.toks → Inv X pins σ H s → t D σ H → wpAny (model X.prog X.w) X.A (execs st X.env) (SP X pins D) X.xe s
theorem thnN {α : Type} {t : Sem α} {Q Q' : α → Shared → Prop} {M : Model} {A : Around} {E : Value → Shared → Prop} {s : Shared} {n : Nat} (hn : n ≤ s.toks) (h : wpAny M A t Q E s) (k : ∀ a s', n ≤ s'.toks → Q a s' → Q' a s') : wpAny M A t Q' E s :=
  wpAny_mono (PySem.wpAny_toks_of hn h) (fun a s' q => k a s' q.1 q.2) fun _ _ x => x.2
section
variable {X : Cx} {n : Nat} {e a b : Expr} {es : List Expr} {st : Stmt} {rest : List Stmt} {te ta tb : TE} {tt : TT} {tA : TA} {t u : TS} {pos : Pos}
theorem pen_of (h : PE X e te) : PEn n X e te := fun pins s σ H Q _ I q => h.run pins s σ H Q I q
theorem ptn_of (h : PT X e tt) : PTn n X e tt := fun pins s σ H Q _ I q => h.run pins s σ H Q I q
theorem pan_of (h : PA X es tA) : PAn n X es tA := fun pos pins s σ H Q _ I q => h.run pos pins s σ H Q I q
theorem psn_of (h : PS X st t) : PSn n X st t := fun pins s σ H D _ I q => h.run pins s σ H D I q
theorem pssn_of (h : PSs X rest t) : PSsn n X rest t := fun pins s σ H D _ I q => h.run pins s σ H D I q
theorem pen_op {op : Operator} {r : R2} (ho : OpR X (binaryOp op) r) (ha : PEn n X a ta) (hb : PEn n X b tb) : PEn n X (.BinOp a op b pos) (tOp r ta tb) := by
  intro pins s σ H Q hn I h
  refine wpAny_BinOp (thnN hn (ha pins s σ H _ hn I h) fun v s1 h1 q => ?_)
  obtain ⟨x, H1, I1, r1, q1⟩ := q
  exact thn (hb pins s1 σ H1 _ h1 I1 q1) fun w s2 ⟨y, H2, I2, r2, q2⟩ => ho pins s2 σ H2 x y v w Q I2 r1 r2 q2
theorem ptn_val (h : PEn n X e te) (he : ∀ whole, isTrue e X.env whole = (do let v ← whole; standAt e.pos; holding [v] (truthy v)) := by intro _; rfl) : PTn n X e (tB te) := by
  intro pins s σ H Q hn I hw
  refine isTrue_plain (thn (h pins s σ H _ hn I hw) fun v s1 ⟨x, H1, I1, r1, q1⟩ => ?_) (he _)
  obtain ⟨d, rfl, q⟩ := q1
  cases r1
  exact wpAny_truthy_bool ⟨H1, I1, q⟩
theorem ptn_not (h : PTn n X e tt) : PTn n X (.UnaryOp .Not e pos) (tNot tt) := fun pins s σ H Q hn I q => isTrue_not (h pins s σ H (fun c H1 => Q (!c) H1) hn I q)
theorem pan_cons (ha : PEn n X e te) (hr : PAn n X es tA) (hs : starEach (e :: es) X.env = (false, eval e X.env) :: starEach es X.env := by rfl) : PAn n X (e :: es) (tCons te tA) := by
  intro pos pins s σ H Q hn I h
  rw [hs]
  refine Calls.spliced_cons (thnN hn (ha pins s σ H _ hn I h) fun v s1 h1 q => ?_)
  obtain ⟨x, H1, I1, r1, q1⟩ := q
  exact thn (hr pos pins s1 σ H1 _ h1 I1 q1) fun us s2 ⟨xs, H2, I2, r2, q2⟩ => ⟨x :: xs, H2, I2, .cons r1 r2, q2⟩
theorem pen_tup {x1} (h : PAn n X es tA) : PEn n X (.Tuple es x1 pos) (tTup tA) := fun pins s σ H Q hn I hq =>
  wpAny_Tuple_spliced (thn (h pos pins s σ H _ hn I hq) fun us s1 z => by
    obtain ⟨xs, H1, I1, r, hz, q⟩ := z
    exact ⟨by rw [← r.length]; exact hz, .ref _, _, I1.laid (o := .tup xs) (t' := s1.toks) (fun _ _ e => Heap.get?_push_of_some _ e) (Nat.le_refl _) ⟨hz, us, r, _, Heap.get?_push_size _ rfl, rfl, _, rfl⟩, rfl, q _ (I1.hok.fresh (Nat.le_refl _))⟩)
theorem psn_asg {tg : Expr} {g : TG} (he : PEn n X e te) (hg : PG X tg g) (hs : swapsWithSole [tg] e pos.line X.env = pure false := by rfl) (hw : swappedStores [tg] e X.env = pure none := by rfl)
    (h1 : (assignEach [tg] X.env).map (·.2) = [assign tg X.env] := by rfl) : PSn n X (.Assign [tg] e pos) (tAsg te g) := fun pins s σ H D hn I h =>
  wpAny_Assign_stores (thn (he pins s σ H _ hn I h) fun v s1 z => by
    obtain ⟨x, H1, I1, r1, q1⟩ := z
    rw [h1]
    exact thn (hg.run pins s1 σ H1 x v _ I1 r1 q1) fun _ _ q => q) hs hw
theorem psn_ret (he : PEn n X e te) : PSn n X (.Return (some e) pos) (tRet te) := fun pins s σ H D hn I h =>
  wpAny_Return_some (thn (he pins s σ H _ hn I h) fun v s1 z => let ⟨x, H1, I1, r1, q1⟩ := z; ⟨x, σ, H1, I1, r1, q1⟩)
theorem pssn_nil : PSsn n X [] tNext := pssn_of pss_nil
theorem pssn_cons (h1 : PSn n X st t) (h2 : PSsn n X rest u) : PSsn n X (st :: rest) (tSeq t u) := fun pins s σ H D hn I h =>
  wpAny_execs_cons (thnN hn (h1 pins s σ H { D with nx := u D } hn I h) fun f s1 k1 q => match f, q with
    | .next, ⟨σ', H', I', q⟩ => h2 pins s1 σ' H' D k1 I' q
    | .ret _, q => q
    | .brk, q => q
    | .cont, q => q)
theorem pssn_one (h1 : PSn n X st t) : PSsn n X [st] t := fun pins s σ H D hn I h =>
  wpAny_execs_cons (thn (h1 pins s σ H D hn I h) fun f s1 q => match f, q with
    | .next, q => wpAny_execs_nil q
    | .ret _, q => q
    | .brk, q => q
    | .cont, q => q)
theorem psn_if {c : Expr} {sa sb : List Stmt} (hc : PTn n X c tt) (ha : PSsn n X sa t) (hb : PSsn n X sb u) : PSn n X (.If c sa sb pos) (tIfS tt t u) := fun pins s σ H D hn I h =>
  wpAny_If (thnN hn (hc pins s σ H _ hn I h) fun d s1 k1 z => by
    obtain ⟨H1, I1, q1⟩ := z
    cases d
    · exact hb pins s1 σ H1 D k1 I1 q1
    · exact ha pins s1 σ H1 D k1 I1 q1)
theorem psn_while {c : Expr} {body : List Stmt} (hp : PassesOwn (model X.prog X.w) X.A X.env X.xe) (hc : PT X c tt) (hb : PSsn n X body t) : PSn n X (.While c body [] pos) (tWhile tt t) := by
  intro pins s σ H D hn I h
  obtain ⟨W, ⟨m0, w0⟩, turn⟩ := h
  refine wpAny_While (codeAny_whileLoop (fun m s' => n ≤ s'.toks ∧ ∃ σ' H', Inv X pins σ' H' s' ∧ W m σ' H') ?_ m0 ⟨hn, σ, H, I, w0⟩)
  rintro m s1 ⟨k1, σ1, H1, I1, w1⟩
  refine wpAny_passesOwn hp (thnN k1 (hc.run pins s1 σ1 H1 _ I1 (turn m σ1 H1 w1)) fun d s2 k2 z => ?_)
  obtain ⟨H2, I2, q2⟩ := z
  cases d
  · rw [if_neg Bool.false_ne_true]
    exact wpAny_execs_nil ⟨σ1, H2, I2, q2⟩
  · obtain ⟨N, hN, q2⟩ := q2
    rw [if_pos rfl]
    have back : ∀ {s3 : Shared}, n ≤ s3.toks → (∃ σ3 H3, Inv X pins σ3 H3 s3 ∧ N σ3 H3) → ∃ m', m' < m ∧ n ≤ s3.toks ∧ ∃ σ' H', Inv X pins σ' H' s3 ∧ W m' σ' H' := fun k3 z => by
      obtain ⟨σ3, H3, I3, n3⟩ := z
      obtain ⟨m', hm, w3⟩ := hN σ3 H3 n3
      exact ⟨m', hm, k3, σ3, H3, I3, w3⟩
    exact wpAny_passesOwn hp (thnN k2 (hb pins s2 σ1 H2 _ k2 I2 q2) fun f s3 k3 q3 => match f, q3 with
      | .next, q3 => back k3 q3
      | .cont, q3 => back k3 q3
      | .brk, q3 => q3
      | .ret _, q3 => q3)
theorem meets_cat {z : Str} {t u : Tok} (hl : (z.length == 0) = false) (hs : (z ++ z).length ≤ sizeLine) : Meets (Builtin.«str.__add__» ⟨[.str z t, .str z u], []⟩) (fun _ R s => R (.ok (.ret (.str (z ++ z) s.toks))) { s with toks := s.toks + 1 }) := .of_wp fun prog w A R s h => by
  show wpAny _ _ (do
    if (true && z.length == 0) = true then (do rule "str.__add__.left-empty"; ret (.str z u)) else
    if (true && z.length == 0) = true then (do rule "str.__add__.right-empty"; ret (.str z t)) else
    retStr (z ++ z)) _ _ s
  rw [hl]
  exact wpAny_bind (wpAny_mkStr (wpAny_pure ⟨_, rfl, h⟩) hs)
/-- e.replace(x + x, x), x a text of the module whose token is below n -/
def tRepG (z : Str) (to : TE) : TE := fun σ H Q => to σ H fun v H1 => ∃ x, v = .str x ∧ x.length + (x.length + 1) * z.length ≤ 16777216 ∧ Q (.str (Txt.replace x (z ++ z) z)) H1
theorem pen_repG {o : Expr} {to : TE} {x z : Str} {t0 : Tok} {p1 p2 p3 p4 apos : Pos} (ho : PEn n X o to) (hg : Gl X x) (hm : X.mg x = some (.str z t0)) (h0 : t0 ≠ 0) (hlt : t0 < n) (hl : (z.length == 0) = false) (hs : (z ++ z).length ≤ sizeLine)
    (hyz : ((z ++ z) == z) = false) (hd : (x == ("__debug__" : Str)) = false := by decide)
    (hst : starEach [.BinOp (.Name x p1) .Add (.Name x p2) p3, .Name x p4] X.env = [(false, eval (.BinOp (.Name x p1) .Add (.Name x p2) p3) X.env), (false, eval (.Name x p4) X.env)] := by rfl)
    (hbase : attributeBase o "replace" X.env (eval o X.env) = eval o X.env := by rfl) (hline : (apos.endLine == pos.line) = true := by rfl) :
    PEn n X (.Call (.Attribute o "replace" apos) [.BinOp (.Name x p1) .Add (.Name x p2) p3, .Name x p4] [] pos) (tRepG z to) := by
  intro pins s σ H Q hn I h
  refine PySem.Call_method2 hbase hst hline (thnN hn (ho pins s σ H _ hn I h) fun v s1 k1 w => ?_)
  obtain ⟨v', H1, I1, r1, y, rfl, hb, q⟩ := w
  obtain ⟨ty, rfl⟩ := r1
  refine ⟨"str", _, PySem.F.plainAttrs_str, PySem.F.slot_str_replace, PySem.F.type_str_replace, typeIs_str _ _ _, (fun _ e => nomatch e), Calls.callWith_builtin rfl (Calls.evalArgs_plain (Calls.spliced_cons ?_))⟩
  have cat : ∀ {Q2 : Value → Shared → Prop}, Q2 (.str (z ++ z) s1.toks) { s1 with toks := s1.toks + 1 } → wpAny (model X.prog X.w) X.A (binaryOp .Add (.str z t0) (.str z t0)) Q2 X.xe s1 := fun {Q2} k => by
    exact concat_meets (typeIs_str s1 z t0) (typeIs_str s1 z t0) PySem.noFill_str_add PySem.seq_str_add PySem.F.slot_str_add PySem.F.entry_str_add (PySem.F.args_str_add_2 _ _) (meets_cat hl hs) k
  refine wpAny_BinOp (ld_glob I1 hg hm (ld_glob I1 hg hm (cat ?_) hd) hd)
  refine Calls.spliced_cons (ld_glob (s := { s1 with toks := s1.toks + 1 }) (I1.tok (s1.toks + 1)) hg hm (Calls.spliced_nil ?_) hd)
  exact PySem.SC.replace (Nat.ne_of_gt (Nat.lt_of_lt_of_le (Nat.lt_of_le_of_lt (Nat.zero_le _) hlt) k1)) h0 (Nat.ne_of_gt (Nat.lt_of_lt_of_le hlt k1)) hyz hb fun t' k => ⟨.str (Txt.replace y (z ++ z) z), H1, I1.tok k, ⟨t', rfl⟩, q⟩
end
/-- as FnOk, where so many tokens are out -/
structure FnN (n : Nat) (P : Program) (w : World) (K : PySem.W.Frag) (mg : Str → Option Value) (base : Heap) (CX : CXT) (k : Nat) (f : Addr) (fd : FuncData) (ps : List Str) (sp : Sp) : Prop where
  len : ∀ vs H Q E, sp vs H Q E → vs.length = ps.length
  run : ∀ (A : Around) (outer : List Env) (s : Shared) (H : Hp) (args : Args) (us : List Value) (vs : List V) (Q : VK) (E : XK), n ≤ s.toks → Room k A → Env0 P w K mg base A outer s H → BindsTo s fd args (ps.zip us) → Vals vs us → sp vs H Q E →
    codeAny (model P w) A (.call (.ref f) args) (CR CX outer P w H s Q E) s
structure CalN (n : Nat) (P : Program) (w : World) (K : PySem.W.Frag) (mg : Str → Option Value) (base : Heap) (CX : CXT) (k : Nat) (x : Str) (ps : List Str) (sp : Sp) : Prop where
  ex : ∃ (f : Addr) (fd : FuncData), FnN n P w K mg base CX k f fd ps sp ∧ mg x = some (.ref f) ∧ PySem.W.keepIn K (.ref f) = true ∧ Binds K fd ps []
section
variable {P : Program} {w : World} {K : PySem.W.Frag} {mg : Str → Option Value} {base : Heap} {x qual : Str} {params : Arguments} {body : List Stmt} {scope : Scope} {f : Addr} {fd : FuncData} {n : Nat}
theorem FunD.okN {CX : CXT} {N ps : List Str} {k : Nat} {sp : Sp} (F : FunD K x qual params body scope [] [] f fd) (S : FnScope N ps scope) (len : ∀ vs H Q E, sp vs H Q E → vs.length = ps.length)
    (hbody : ∀ (cdv : Value) (A : Around) (outer : List Env) (s : Shared) (H : Hp) (vs : List V) (Q : VK) (E : XK), Room k (A.deeper (envOfC qual scope s.heap.objs.size f cdv)) → sp vs H Q E →
      ∃ t, PSsn n (cxOf CX P w K mg base N qual scope f cdv A outer s H E) body t ∧ t { nx := fun _ H' => Q .non H', rt := Q } (start N vs) H) : FnN n P w K mg base CX (k + 1) f fd ps sp := by
  obtain ⟨oc, od, dV, kV, doc, pm, an, cdv, ct, osl, rfl, lk, hcd, _, _⟩ := F.ex
  refine ⟨len, fun A outer s H args us vs Q E hn hr e0 hb r hsp => ?_⟩
  have hl := len _ _ _ _ hsp
  have KX : K.In s.heap := e0.mod.kin.keeps fun b o e => (e0.bs b o e).1
  have lim : s.heap.NoLimit := e0.mod.nolimit.keeps fun b o e => (e0.bs b o e).1
  refine codeAny_call_function hr.depth (KX _ _ lk) rfl S.co S.gen rfl (PySem.W.codeRec_of KX hcd) (hb _ _ _ _ (PySem.wpAny_with_toks hn ?_))
  refine wpAny_newFunctionEnv_cells S.kind (fun y hy => ?_) fun env he s1 z k1 => ?_
  · rcases S.par y.1 (List.of_mem_zip (a := y.1) (b := y.2) hy).1 with q | q
    · exact .inl q
    · exact .inr ⟨q, PySem.W.cellsFrom_some _ _ _ (.inl q)⟩
  · subst he
    refine ⟨lim.keeps z.toInCall.keep, codeAny_func ?_⟩
    obtain ⟨t, ht, hq⟩ := hbody cdv A outer s H vs Q E (hr.deeper _) hsp
    refine thn (ht [] s1 (start N vs) H _ k1 (inv_start S hr.hd e0 hl r z) hq) fun fl s' hs => ?_
    match fl, hs with
    | .ret u, hs =>
      obtain ⟨v, σ', H', J, rv, q⟩ := hs
      exact ⟨v, H', J.os, J.bare, J.base, J.hok, rv, q⟩
    | .next, hs =>
      obtain ⟨σ', H', J, q⟩ := hs
      exact ⟨V.non, H', J.os, J.bare, J.base, J.hok, rfl, q⟩
    | .brk, hs => exact hs.elim fun _ y => y.elim fun _ y => y.2.elim
    | .cont, hs => exact hs.elim fun _ y => y.elim fun _ y => y.2.elim
end
section
variable {X : Cx} {CX : CXT} {n k j : Nat} {x : Str} {ps : List Str} {sp : Sp} {p pos : Pos} {e : Expr} {es : List Expr} {t : TA} {W : WX}
theorem pen_calS (D : CalN n X.prog X.w X.K X.mg X.base (L2.CX X.prog X.w) k x ps sp) (hr : Room j X.A) (hkj : Nat.ble k j = true) (gl : Gl X x) (tk : Takes X W) (ha : PAn n X (e :: es) t) (hdb : (x == ("__debug__" : Str)) = false := by decide)
    (he : starEach (e :: es) X.env = (false, eval e X.env) :: starEach es X.env := by rfl) (hpl : (backTo pos (starEach es X.env)).any (·.1) = false := by rfl) : PEn n X (.Call (.Name x p) (e :: es) [] pos) (tCallS sp (WE W) t) := by
  obtain ⟨f, fd, F, hm, hk, hb⟩ := D.ex
  intro pins s σ H Q hn I h
  refine wpAny_Call_Name_kw (ld_glob I gl hm ?_ hdb)
  refine PySem.W.callWith_K (h₀ := X.base) I.ok.mod.kin hk (thnN hn (ha pos pins s σ H _ hn I h) fun us s1 k1 z => ?_) he hpl
  obtain ⟨vs, H1, I1, r, q⟩ := z
  have hl : us.length = ps.length := by rw [← r.length]; exact F.len _ _ _ _ q
  have b := hb s1 us I1.kIn (by rw [List.append_nil]; exact hl)
  rw [List.append_nil] at b
  exact ⟨I1.kIn, wpAny_call (codeAny_mono (F.run X.A X.stack s1 H1 ⟨us, []⟩ us vs Q (WE W σ) k1 (hr.mono (Nat.le_of_ble_eq_true hkj)) I1.env0 b r q) fun rr s' hq => match rr, hq with
    | .error e, hq => passAt tk σ pins H1 s1 e s' I1 hq
    | .ok (.ret _), hq => I1.after hq
    | .ok .next, hq => hq.elim
    | .ok .brk, hq => hq.elim
    | .ok .cont, hq => hq.elim)⟩
theorem pen_cal {E : XK} (D : CalN n X.prog X.w X.K X.mg X.base CX k x ps sp) (hr : Room j X.A) (hkj : Nat.ble k j = true) (gl : Gl X x) (hx : Passes CX X E) (ha : PAn n X (e :: es) t) (hdb : (x == ("__debug__" : Str)) = false := by decide)
    (he : starEach (e :: es) X.env = (false, eval e X.env) :: starEach es X.env := by rfl) (hpl : (backTo pos (starEach es X.env)).any (·.1) = false := by rfl) : PEn n X (.Call (.Name x p) (e :: es) [] pos) (tCall sp [] E t) := by
  obtain ⟨f, fd, F, hm, hk, hb⟩ := D.ex
  intro pins s σ H Q hn I h
  refine wpAny_Call_Name_kw (ld_glob I gl hm ?_ hdb)
  refine PySem.W.callWith_K (h₀ := X.base) I.ok.mod.kin hk (thnN hn (ha pos pins s σ H _ hn I h) fun us s1 k1 z => ?_) he hpl
  obtain ⟨vs, H1, I1, r, q⟩ := z
  rw [List.append_nil] at q
  have hl : us.length = ps.length := by rw [← r.length]; exact F.len _ _ _ _ q
  have b := hb s1 us I1.kIn (by rw [List.append_nil]; exact hl)
  rw [List.append_nil] at b
  exact ⟨I1.kIn, wpAny_call (codeAny_mono (F.run X.A X.stack s1 H1 ⟨us, []⟩ us vs Q E k1 (hr.mono (Nat.le_of_ble_eq_true hkj)) I1.env0 b r q) fun rr s' hq => match rr, hq with
    | .error e, hq => hx pins σ H1 s1 e s' I1 hq
    | .ok (.ret _), hq => I1.after hq
    | .ok .next, hq => hq.elim
    | .ok .brk, hq => hq.elim
    | .ok .cont, hq => hq.elim)⟩
/-- a call of a def that asks nothing of tokens, its arguments may -/
theorem pen_cal0 {E : XK} (D : Cal X.prog X.w X.K X.mg X.base CX k x ps sp) (hr : Room j X.A) (hkj : Nat.ble k j = true) (gl : Gl X x) (hx : Passes CX X E) (ha : PAn n X (e :: es) t) (hdb : (x == ("__debug__" : Str)) = false := by decide)
    (he : starEach (e :: es) X.env = (false, eval e X.env) :: starEach es X.env := by rfl) (hpl : (backTo pos (starEach es X.env)).any (·.1) = false := by rfl) : PEn n X (.Call (.Name x p) (e :: es) [] pos) (tCall sp [] E t) := by
  obtain ⟨f, fd, F, hm, hk, hb⟩ := D.ex
  exact pen_cal (CX := CX) ⟨f, fd, ⟨F.len, fun A outer s H args us vs Q E _ hr e0 b r h => F.run A outer s H args us vs Q E hr e0 b r h⟩, hm, hk, hb⟩ hr hkj gl hx ha hdb he hpl
end
end L2
/-! ## try with several clauses, with a name or without, where tokens are out -/
namespace L2
open PySem PySem.Spec PyProof.Rows
/-- one clause: its class, the slot of its name, its suite's reading -/
structure ClB where
  c : Value
  i : Option Nat
  ts : Addr → Value → Option Addr → TS
/-- behind the suite the name is gone -/
def slotB (i : Option Nat) (v : Option V) (σ : L2.St) : L2.St := match i with
  | some j => σ.set j v
  | none => σ
def endsB (D : Ends) (i : Option Nat) : Ends := { nx := fun σ H => D.nx (slotB i none σ) H, rt := D.rt, bk := fun σ H => D.bk (slotB i none σ) H, ct := fun σ H => D.ct (slotB i none σ) H }
def wManyB (K : PySem.W.Frag) (Wout : WX) (D : Ends) : List ClB → WX
  | [] => Wout
  | q :: r => fun cls d σ H => ∃ b, PySem.W.exmOne K cls q.c = some b ∧ (b = true → ∀ a, H a = none → q.ts a cls d (endsB D q.i) (slotB q.i (some (.ref a)) σ) H) ∧ (b = false → wManyB K Wout D r cls d σ H)
inductive HdsB (X : Cx) : List ExceptHandler → List ClB → Prop
  | nil : HdsB X [] []
  | bare {x : Str} {q : ClB} {s0 : Stmt} {sr : List Stmt} {np hp : Pos} {hr : List ExceptHandler} {l : List ClB} (hq : q.i = none) (hc : Names X x q.c)
      (hs : ∀ (a : Addr) (oe : Obj) (cls : Value) (d : Option Addr) (pn : List (Addr × Obj)), Zc cls d oe → (∃ vs, oe.data = .fields vs) → PSs (X.suite a ((a, oe) :: pn)) (s0 :: sr) (q.ts a cls d)) (r : HdsB X hr l) :
      HdsB X (.ExceptHandler (some (.Name x np)) none (s0 :: sr) hp :: hr) (q :: l)
  | cons {x n : Str} {q : ClB} {j : Nat} {s0 : Stmt} {sr : List Stmt} {np hp : Pos} {hr : List ExceptHandler} {l : List ClB} (hq : q.i = some j) (hi : X.N[j]? = some n) (hn : X.env.kindOf n = some .local) (hc : Names X x q.c)
      (hs : ∀ (a : Addr) (oe : Obj) (cls : Value) (d : Option Addr) (pn : List (Addr × Obj)), Zc cls d oe → (∃ vs, oe.data = .fields vs) → PSs (X.suite a ((a, oe) :: pn)) (s0 :: sr) (q.ts a cls d)) (r : HdsB X hr l) :
      HdsB X (.ExceptHandler (some (.Name x np)) (some n) (s0 :: sr) hp :: hr) (q :: l)
section
variable {X : Cx} {body : List Stmt} {h0 : ExceptHandler} {hr : List ExceptHandler} {l : List ClB} {pos : Pos} {tb : WX → TS} {Wout : WX} {n : Nat}
/-- from the catch on: the clauses one by one -/
theorem manyB_go {pins : List (Addr × Obj)} {σ : St} {H : Hp} {a : Addr} {B h3 : Heap} {cls : Value} {d : Option Addr} {sI s' : Shared} {D : Ends} (hN : X.N.Nodup) (ok : X.Ok) (hS : X.stack = X.env :: X.outer) (hF : X.env.frame = some X.env.locals) (tk : Takes X Wout)
    (J : Inv X pins σ H sI) (nb : ∀ b o, sI.heap.get? b = some o → b ∉ frs X.stack → B.get? b = some o) (up : sI.heap.UpToSlots s'.heap) (up3 : s'.heap.UpToSlots h3) (na : H a = none) (os : s'.os = sI.os) (ag : AllBare s'.gens)
    (fl : HandSPX.FlyingZ B (X.env :: X.outer) a (Zc cls d) h3) (nL : a ≠ X.env.locals) (nF : a ∉ X.fs) :
    ∀ {hs : List ExceptHandler} {l : List ClB}, HdsB X hs l → wManyB X.K Wout D l cls d σ H → wpAny (model X.prog X.w) X.A (handleBy (.ref a) X.env hs) (SP X pins D) X.xe { s' with heap := h3 } := by
  have J3 : Inv X pins σ H { s' with heap := h3 } := J.landed nb fl.1 (up.trans up3) os ag
  intro hs l hk
  induction hk with
  | nil =>
    intro w
    refine wpAny_handleBy_nil ?_
    obtain ⟨_, _, _, oe, vs, T, oT, ts', he, hz, hd, h1, hr⟩ := id fl
    have up_ : wpAny (model X.prog X.w) X.A (setFlight (.ref a) X.env.frame) (fun _ s4 => wpAny (model X.prog X.w) X.A (throw (.ref a) : Sem Flow) (SP X pins D) X.xe s4) X.xe { s' with heap := h3 } := by
      rw [hF]
      refine HandSPX.setFlight_upZ fl fun h4 hh4 up4 => wpAny_throw (tk _ _ ⟨a, B, sI, pins, σ, H, cls, d, rfl, J, nb, (up.trans up3).trans up4, .inr (.inr ?_), na, os, ag, w⟩)
      rw [hS]
      exact hh4
    unfold PySem.passOn
    refine wpAny_bind (wpAny_field he hd h1 ?_)
    have nt : ¬ ((Value.ref T == Value.none) = true) := by simp
    rw [if_neg nt]
    first
      | exact wpAny_bind up_
      | exact wpAny_bind (wpAny_pure (wpAny_bind up_))
  | @bare x q s0 sr np hp hr l hq hc hsu r ih =>
    intro w
    obtain ⟨b, hb, yes, no⟩ := w
    obtain ⟨oe3, vs3, he3, hz3, hd3⟩ := fl.there
    have S3 := J3.suite he3 hd3 na nL nF
    have LM := PySem.W.exm_one (M := model X.prog X.w) (J3.kIn) (show PySem.W.Looks (model X.prog X.w) h3 (typeOf (.ref a)) cls from fun A Q E s k z => wpAny_typeOf_ref (k _ _ he3) (by rw [hz3.1]; exact z)) hb
    refine wpAny_handleBy_cons (codeAny_handlers_test ?_) (by intro z; cases z)
    have cl : ∀ {Q : Value → Shared → Prop} {E : Value → Shared → Prop}, Q q.c { s' with heap := h3 } → wpAny (model X.prog X.w) (X.A.mark (some (.ref a))) (eval (.Name x np) X.env) Q E { s' with heap := h3 } := fun {Q E} z => by
      obtain ⟨g1, g2, g3⟩ := hc
      rcases g3 with g3 | ⟨g3, g4, g5⟩
      · exact ld_glob (X := X.suite a ((a, oe3) :: (X.pn ++ pins))) S3 g1 g3 z g2
      · exact ld_blt (X := X.suite a ((a, oe3) :: (X.pn ++ pins))) S3 g1 g3 g4 z g5 g2
    refine cl (LM.here ?_)
    cases b with
    | false => exact ih (no rfl)
    | true =>
      refine codeAny_handlers_suite (HandSPX.lands_againZ fl fun h4 fl4 up4 => ?_)
      have J4 : Inv X pins σ H { s' with heap := h4 } := J.landed nb fl4.1 ((up.trans up3).trans up4) os ag
      obtain ⟨oe4, vs4, he4, hz4, hd4⟩ := fl4.there
      have S4 := J4.suite he4 hd4 na nL nF
      have y := yes rfl a na
      rw [hq] at y
      refine wpAny_mono ((hsu a oe4 cls d (X.pn ++ pins) hz4 ⟨_, hd4⟩).run [] _ _ H _ S4 y) (fun f s6 hsp => ?_) (fun _ _ z => z.elim)
      cases f with
      | ret u => obtain ⟨v6, σ6, H6, S6, r6, q6⟩ := hsp; exact ⟨_, _, _, S6.unsuite ok, r6, q6⟩
      | next => obtain ⟨σ6, H6, S6, q6⟩ := hsp; exact ⟨_, _, S6.unsuite ok, q6⟩
      | brk => obtain ⟨σ6, H6, S6, q6⟩ := hsp; exact ⟨_, _, S6.unsuite ok, q6⟩
      | cont => obtain ⟨σ6, H6, S6, q6⟩ := hsp; exact ⟨_, _, S6.unsuite ok, q6⟩
  | @cons x n q j s0 sr np hp hr l hq hi hn hc hsu r ih =>
    intro w
    obtain ⟨b, hb, yes, no⟩ := w
    obtain ⟨oe3, vs3, he3, hz3, hd3⟩ := fl.there
    have S3 := J3.suite he3 hd3 na nL nF
    have LT : PySem.W.Looks (model X.prog X.w) h3 (typeOf (.ref a)) cls := fun A Q E s k z => wpAny_typeOf_ref (k _ _ he3) (by rw [hz3.1]; exact z)
    have LM := PySem.W.exm_one (M := model X.prog X.w) (J3.kIn) LT hb
    refine wpAny_handleBy_cons (codeAny_handlers_test ?_) (by intro z; cases z)
    have cl : ∀ {Q : Value → Shared → Prop} {E : Value → Shared → Prop}, Q q.c { s' with heap := h3 } → wpAny (model X.prog X.w) (X.A.mark (some (.ref a))) (eval (.Name x np) X.env) Q E { s' with heap := h3 } := fun {Q E} z => by
      obtain ⟨g1, g2, g3⟩ := hc
      rcases g3 with g3 | ⟨g3, g4, g5⟩
      · exact ld_glob (X := X.suite a ((a, oe3) :: (X.pn ++ pins))) S3 g1 g3 z g2
      · exact ld_blt (X := X.suite a ((a, oe3) :: (X.pn ++ pins))) S3 g1 g3 g4 z g5 g2
    refine cl (LM.here ?_)
    cases b with
    | false => exact ih (no rfl)
    | true =>
      refine codeAny_handlers_suite_as (HandSPX.lands_againZ fl fun h4 fl4 up4 => ?_)
      have J4 : Inv X pins σ H { s' with heap := h4 } := J.landed nb fl4.1 ((up.trans up3).trans up4) os ag
      obtain ⟨oe4, vs4, he4, hz4, hd4⟩ := fl4.there
      have S4 := J4.suite he4 hd4 na nL nF
      refine store_ok (X := X.suite a ((a, oe4) :: (X.pn ++ pins))) (v := .ref a) S4 hN hi (.inl hn) rfl (fun s5 S5 => ?_) (.inr hn)
      have gone : ∀ {σ6 : St} {H6 : Hp} {s6 : Shared} {Q : Shared → Prop}, Inv (X.suite a ((a, oe4) :: (X.pn ++ pins))) [] σ6 H6 s6 → (∀ s7, Inv X pins (σ6.set j none) H6 s7 → Q s7) →
          wpAny (model X.prog X.w) X.A (do bindName X.env n .none; unbindBehindTheSuite X.env n hp) (fun _ s7 => Q s7) X.xe s6 := fun {σ6 H6 s6 Q} S6 z => gone_ok (S6.unsuite ok) hN hi hn z
      have y := yes rfl a na
      rw [hq] at y
      refine wpAny_mono ((hsu a oe4 cls d (X.pn ++ pins) hz4 ⟨_, hd4⟩).run [] s5 _ H _ S5 y) (fun f s6 hsp => ?_) (fun _ _ z => z.elim)
      cases f with
      | ret u => obtain ⟨v6, σ6, H6, S6, r6, q6⟩ := hsp; exact gone S6 fun s7 J7 => ⟨_, _, _, J7, r6, q6⟩
      | next => obtain ⟨σ6, H6, S6, q6⟩ := hsp; exact gone S6 fun s7 J7 => ⟨_, _, J7, q6⟩
      | brk => obtain ⟨σ6, H6, S6, q6⟩ := hsp; exact gone S6 fun s7 J7 => ⟨_, _, J7, q6⟩
      | cont => obtain ⟨σ6, H6, S6, q6⟩ := hsp; exact gone S6 fun s7 J7 => ⟨_, _, J7, q6⟩
theorem psn_try_manyB (hS : X.stack = X.env :: X.outer) (hF : X.env.frame = some X.env.locals) (hN : X.N.Nodup) (tk : Takes X Wout)
    (hb : ∀ (W : WX) (pn : List (Addr × Obj)) (xe : Value → Shared → Prop), Takes (X.tr pn xe) W → PassesOwn (model X.prog X.w) X.A X.env xe → PSsn n (X.tr pn xe) body (tb W))
    (hh : HdsB X (h0 :: hr) l) : PSn n X (.Try body (h0 :: hr) [] [] pos) (fun D σ H => tb (wManyB X.K Wout D l) D σ H) := by
  intro pins s σ H D hn I h
  have ok := I.ok
  have hfr : X.A.frames = some (X.env :: X.outer) := by rw [ok.frames, hS]
  let xe' : Value → Shared → Prop := fun e s1 => wpAny (model X.prog X.w) X.A (noteFrame e X.env) (fun _ s2 => wpAny (model X.prog X.w) X.A (setFlight e none) (fun _ s3 => wpAny (model X.prog X.w) X.A (handleBy e X.env (h0 :: hr)) (SP X pins D) X.xe s3) X.xe s2) X.xe s1
  have tk' : Takes (X.tr (X.pn ++ pins) xe') (wManyB X.K Wout D l) := fun u s' xx => by
    obtain ⟨a, B, sI, pins', σ', H', cls, d, rfl, J', nb, up, sky, na, os, ag, w⟩ := xx
    have J : Inv X pins σ' H' sI := J'.ofTry ok
    have sky' : Sky B (X.env :: X.outer) a (Zc cls d) X.env.locals s'.heap := by rw [← hS]; exact sky
    show wpAny (model X.prog X.w) X.A (noteFrame (.ref a) X.env) _ _ _
    refine Sky.land Zc.steady hfr hF sky' fun h3 fl3 up3 => ?_
    obtain ⟨oe3, vs3, he3, hz3, hd3⟩ := fl3.there
    have nfr : a ∉ frs (X.env :: X.outer) := fun hm => by
      obtain ⟨_, o', e', hnf⟩ := fl3.2.2.1.mem hm
      rw [he3] at e'
      cases e'
      exact hnf _ hd3
    refine manyB_go hN ok hS hF tk J nb up up3 na os ag fl3 (fun z => nfr ?_) (fun hm => nfr ?_) hh w
    · exact List.mem_filterMap.mpr ⟨X.env, List.mem_cons_self, by rw [hF, z]⟩
    · obtain ⟨e, he, z⟩ := List.mem_filterMap.mp hm
      exact List.mem_filterMap.mpr ⟨e, List.mem_cons_of_mem _ he, z⟩
  refine wpAny_Try_except (wpAny_mono (hb _ (X.pn ++ pins) xe' tk' PassesOwn.looking [] s σ H D hn (I.toTry _) h) (fun f s1 hsp => ?_) (fun e s1 he => he))
  cases f with
  | next => obtain ⟨σ', H', J', q⟩ := hsp; exact wpAny_execs_nil ⟨σ', H', J'.ofTry ok, q⟩
  | ret u => obtain ⟨v, σ', H', J', r, q⟩ := hsp; exact ⟨v, σ', H', J'.ofTry ok, r, q⟩
  | brk => obtain ⟨σ', H', J', q⟩ := hsp; exact ⟨σ', H', J'.ofTry ok, q⟩
  | cont => obtain ⟨σ', H', J', q⟩ := hsp; exact ⟨σ', H', J'.ofTry ok, q⟩
end
end L2
/-! ## the law's end where it is known that no repr is under way -/
namespace EndG
open PySem PySem.Spec PyProof.Rows L2 LamX
abbrev tabO : Obj := { cls := .none, data := .fields #[] }
/-- all that the abstract heap tells: tables that are empty, lists that are known to the object -/
def Told (ts : List Addr) (H : Hp) (h : Heap) : Prop := ∀ b u, H b = some u → (b ∈ ts ∧ u = .tbl #[] ∧ h.get? b = some tabO) ∨ ∃ ob xs, u = .frz ob (.lst xs) ∧ h.get? b = some ob ∧ ∃ vs n, ob.data = .seq vs n
section
variable {P : Program} {w : World} {K : PySem.W.Frag} {mg mb : Str → Option Value} {ts : List Addr} {H : Hp} {h : Heap}
theorem Told.out (T : Told ts H h) {b : Addr} {o : Obj} (e : h.get? b = some o) (h1 : ∀ vs n, o.data ≠ .seq vs n) (h2 : o.data ≠ .fields #[]) : H b = none := by
  cases q : H b with
  | none => rfl
  | some u =>
    rcases T b u q with ⟨_, _, z⟩ | ⟨ob, xs, _, z, vs, n, zd⟩
    · obtain rfl := Option.some.inj (e.symm.trans z)
      exact absurd rfl h2
    · obtain rfl := Option.some.inj (e.symm.trans z)
      exact absurd zd (h1 vs n)
theorem Told.seen (T : Told ts H h) {b : Addr} {o : Obj} (e : h.get? b = some o) (h1 : ∀ vs n, o.data ≠ .seq vs n) (h2 : o.data ≠ .fields #[]) : (hidT h H).get? b = some o := hidT_get e (T.out e h1 h2)
theorem Told.ns (T : Told ts H h) {b : Addr} {m : Str → Option Value} (x : h.Ns b m) : (hidT h H).Ns b m := by
  obtain ⟨o, es, ep, e, d, r⟩ := x
  refine ⟨o, es, ep, T.seen e (fun vs n z => ?_) (fun z => ?_), d, r⟩ <;> rw [d] at z <;> cases z
theorem Told.mod (T : Told ts H h) (hns : h.Ns mainGlobals mg) (hb : h.Ns builtinsNs mb) (hbb : ∀ x : Str, x ≠ "__name__" → mb x = bootBuiltins x) (hlim : h.NoLimit) (hK : ∀ a o, K.lookup a = some o → h.get? a = some o ∧ H a = none) : L2.Mod K mg (hidT h H) :=
  ⟨fun a o e => hidT_get (hK a o e).1 (hK a o e).2, T.ns hns, ⟨mb, T.ns hb, hbb⟩, let ⟨mc, h1, h2⟩ := hlim; ⟨mc, T.ns h1, h2⟩⟩
theorem Told.tab (T : Told ts H h) (hns : h.Ns mainGlobals mg) {c p : Addr} (ht : h.get? p = some tabO) (C : PySem.W.CodeHd h c p)
    (hbm : ∃ (bm : Addr) (ob : Obj), mg "__builtins__" = some (.ref bm) ∧ bm ≠ builtinsNs ∧ h.get? bm = some ob ∧ ob.cls = .type "module" ∧ ob.dict = some builtinsNs ∧ ob.data = .plain) : TabB (hidT h H) mg c p := by
  have apart : ∀ {a b : Addr} {x y : Obj}, h.get? a = some x → h.get? b = some y → x.data ≠ y.data → a ≠ b := fun ea eb n z => n (by
    rw [z] at ea
    rw [Option.some.inj (ea.symm.trans eb)])
  obtain ⟨og, es, ep, eg, dg, _⟩ := hns
  constructor
  · obtain ⟨o, us, file, tf, fl, tg, inF, text, tt, e1, r1, r2, r3, r⟩ := C
    refine ⟨o, us, file, tf, fl, tg, inF, text, tt, T.seen e1 (fun vs n z => ?_) (fun z => ?_), r1, r2, r3, r⟩
    · rw [r2] at z
      cases z
    · rw [r2] at z
      obtain rfl := Data.fields.inj z
      simp at r3
  · obtain ⟨bm, ob, b1, b2, b3, b4, b5, b6⟩ := hbm
    refine ⟨bm, ob, b1, b2, apart b3 eg ?_, apart b3 ht ?_, T.seen b3 (fun vs n z => ?_) (fun z => ?_), b4, b5, b6⟩
    · rw [b6, dg]
      intro z
      cases z
    · rw [b6]
      intro z
      cases z
    · rw [b6] at z
      cases z
    · rw [b6] at z
      cases z
  · exact apart eg ht (by
      rw [dg]
      intro z
      cases z)
/-- after the run every old object is as it was, a table longer at most -/
theorem Told.old {cs : List (Addr × Addr)} {H' : Hp} {h' : Heap} (T : Told (cs.map (·.2)) H h) (hok : HOk P w H h) (hok' : HOk P w H' h') (un : Un (frs []) [] H H' h h') (C : ∀ p ∈ cs, PySem.W.CodeHd h p.1 p.2) : OldK h h' := by
  have key : ∀ b o, h.get? b = some o → h'.get? b = some o ∨ (∃ p ∈ cs, p.2 = b ∧ o = tabO ∧ ∃ more : Array Value, h'.get? b = some { cls := .none, data := .fields more }) := fun b o e => by
    cases q : H b with
    | none => exact .inl (un.keep b o e q (by simp [frs]) (by simp))
    | some u =>
      rcases T b u q with ⟨hm, rfl, z⟩ | ⟨ob, xs, rfl, z, _⟩
      · obtain ⟨p, hp, rfl⟩ := List.mem_map.mp hm
        obtain ⟨more, g⟩ := un.tbls _ _ q
        exact .inr ⟨p, hp, rfl, Option.some.inj (e.symm.trans z), _, hok' _ _ g⟩
      · obtain rfl := Option.some.inj (e.symm.trans z)
        exact .inl (hok' b _ (un.frzs b _ _ q)).1
  refine ⟨fun b o e => ?_, fun b o e => ?_⟩
  · rcases key b o e with k | ⟨p, hp, rfl, rfl, more, k⟩
    · exact .inl k
    · exact .inr (.inl ⟨((C p hp).tab e).isCodeTable, rfl, #[], more, rfl, by simpa using k⟩)
  · rcases key b o e with k | ⟨p, hp, rfl, rfl, more, k⟩
    · exact ⟨_, k⟩
    · exact ⟨_, k⟩
/-- the law's call, from an abstract heap in which the tables and, at most, the script are told -/
theorem Told.call {CX : CXT} {k : Nat} {fa a : Addr} {cs : List (Addr × Addr)} {fd : FuncData} {x : Str} {sp : Sp} {s₁ : Shared} (T : Told (cs.map (·.2)) H s₁.heap) (hok : HOk P w H s₁.heap)
    (hK : ∀ a o, K.lookup a = some o → s₁.heap.get? a = some o ∧ H a = none) (hns : s₁.heap.Ns mainGlobals mg) (hb : s₁.heap.Ns builtinsNs mb) (hbb : ∀ x : Str, x ≠ "__name__" → mb x = bootBuiltins x) (hlim : s₁.heap.NoLimit) (hg : s₁.gens = #[])
    (hT : ∀ p ∈ cs, s₁.heap.get? p.2 = some tabO) (C : ∀ p ∈ cs, PySem.W.CodeHd s₁.heap p.1 p.2)
    (hbm : ∃ (bm : Addr) (ob : Obj), mg "__builtins__" = some (.ref bm) ∧ bm ≠ builtinsNs ∧ s₁.heap.get? bm = some ob ∧ ob.cls = .type "module" ∧ ob.dict = some builtinsNs ∧ ob.data = .plain) (hr : Room k callerA)
    (F : ∀ base : Heap, K.In base → base.Ns mainGlobals mg → (∀ p ∈ cs, TabB base mg p.1 p.2) → FnG P w K mg base CX k fa fd [x] sp) (hbind : ∀ (s : Shared) (u : Value), BindsTo s fd ⟨[u], []⟩ [(x, u)])
    (hsp : sp [.ref a] H (fun v _ => v = .bl true) fun _ _ _ => False) (hCX : ∀ e s', CX [] H s₁ (fun _ _ _ => False) e s' → False) :
    codeAny (model P w) callerA (.call (.ref fa) ⟨[.ref a], []⟩) (fun r s' => r = .ok (.ret (.bool true)) ∧ OldK s₁.heap s'.heap ∧ s'.os = s₁.os ∧ AllBare s'.gens) s₁ := by
  have M := T.mod hns hb hbb hlim hK
  have e0 : Env0 P w K mg (hidT s₁.heap H) callerA [] s₁ H :=
    { frames := rfl, mod := M, bs := fun _ _ => of_hidT, bsz := Nat.le_of_eq (hidT_size _ _), funs := trivial, frf := by simp [frs], hok := hok, bare := .of_eq hg }
  have run := (F _ M.kin M.glob fun p hp => T.tab hns (hT p hp) (C p hp) hbm).run callerA [] s₁ H ⟨[.ref a], []⟩ [.ref a] [.ref a] _ _ rfl hr e0 (hbind s₁ (.ref a)) (.cons rfl .nil) hsp
  refine codeAny_mono run fun r s' z => ?_
  match r, z with
  | .error e, z => exact (hCX e s' z).elim
  | .ok (.ret u), z =>
    obtain ⟨v, H', os, bare, un, hok', rv, rfl⟩ := z
    obtain rfl : u = Value.bool true := rv
    exact ⟨rfl, T.old hok hok' un C, os, bare⟩
  | .ok .next, z => exact z.elim
  | .ok .brk, z => exact z.elim
  | .ok .cont, z => exact z.elim
end
/-- the abstract heap: the tables, and the script unless the head knows it -/
def start0 (K : PySem.W.Frag) (ts : List Addr) (a : Addr) (u : HO) : Hp := fun b => if b ∈ ts then some (.tbl #[]) else if b = a ∧ (K.lookup a).isNone = true then some u else none
theorem start0_tab {K : PySem.W.Frag} {ts : List Addr} {a b : Addr} {u : HO} (h : b ∈ ts) : start0 K ts a u b = some (.tbl #[]) := if_pos h
theorem start0_inv {K : PySem.W.Frag} {ts : List Addr} {a b : Addr} {u v : HO} (h : start0 K ts a u b = some v) : (b ∈ ts ∧ v = .tbl #[]) ∨ (b ∉ ts ∧ b = a ∧ K.lookup a = none ∧ v = u) := by
  unfold start0 at h
  split at h
  · exact .inl ⟨‹_›, (Option.some.inj h).symm⟩
  · split at h
    · rename_i n e
      exact .inr ⟨n, e.1, Option.isNone_iff_eq_none.mp e.2, (Option.some.inj h).symm⟩
    · cases h
/-- what is known of the law's promise at the head's heap h -/
def LawG (l : PySem.W.OpenLaw) (w : World) (K : PySem.W.Frag) (CX : CXT) (k n : Nat) (x : Str) (mg : Str → Option Value) (fa : Addr) (h : Heap) : Prop :=
  ∃ (fd : FuncData) (cs : List (Addr × Addr)) (sp : Sp), (∀ p ∈ cs, h.get? p.2 = some tabO ∧ K.lookup p.2 = none ∧ PySem.W.CodeHd h p.1 p.2) ∧ (∀ (s : Shared) (u : Value), BindsTo s fd ⟨[u], []⟩ [(x, u)]) ∧
    (∀ (H : Hp) (a : Addr) (ns : List Int), ns.length ≤ n → (∀ z ∈ ns, Builtin.Int.intBits z ≤ 1048576) → (∀ p ∈ cs, H p.2 = some (.tbl #[])) → SqL K H a (ns.map V.int) → sp [.ref a] H (fun v _ => v = .bl true) fun _ _ _ => False) ∧
    ∀ base : Heap, K.In base → base.Ns mainGlobals mg → (∀ p ∈ cs, TabB base mg p.1 p.2) → FnG l.prog w K mg base CX k fa fd [x] sp
theorem walkG {l : PySem.W.OpenLaw} {n k : Nat} {q : Program} {loose : List Str} {XP : (Str → Option Value) → Heap → Prop} {YP : World → Heap → Prop} {d : DefRec} {CX : World → CXT} {x : Str}
    (hn : l.most = some n) (hn2 : n ≤ sizeLine) (hdf : d.params.defaults = []) (hr : Room k callerA)
    (F : ∀ (w : World) (mg : Str → Option Value) (fa : Addr) (h : Heap), YP w h → h.Ns mainGlobals mg → mg d.name = some (.ref fa) → ∃ K : PySem.W.Frag, K.In h ∧ LawG l w K (CX w) k n x mg fa h)
    (hCX : ∀ (w : World) (H : Hp) (s : Shared) (e : Value) (s' : Shared), CX w [] H s (fun _ _ _ => False) e s' → False) : PySem.W.WalkO q loose XP YP l.row.toRowW d [] (fun f vs => PySem.call f vs) := by
  refine Att.attach_callB hn hdf fun w s₀ s₁ mg mb fa o pm cd doc a vs ns G Y ho hd hcd hmg ha hi hlen hbits hg => ?_
  obtain ⟨K, KX, fd, cs, sp, hcs, hb, hsp, hF⟩ := F w mg fa _ Y G.T.g hmg
  have rv := vals_ints hi
  have hz : ns.length ≤ sizeLine := Nat.le_trans hlen hn2
  have tab : ∀ b ∈ cs.map (·.2), s₁.heap.get? b = some tabO ∧ K.lookup b = none := fun b m => by
    obtain ⟨p, hp, rfl⟩ := List.mem_map.mp m
    exact ⟨(hcs p hp).1, (hcs p hp).2.1⟩
  have na : a ∉ cs.map (·.2) := fun m => by
    have z := Option.some.inj (ha.symm.trans (tab a m).1)
    cases congrArg Obj.cls z
  let ob : Obj := { cls := .type "list", data := .seq vs.toArray }
  let H := start0 K (cs.map (·.2)) a (.frz ob (.lst (ns.map V.int)))
  have T : Told (cs.map (·.2)) H s₁.heap := fun b u e => by
    rcases start0_inv e with ⟨m, rfl⟩ | ⟨_, rfl, _, rfl⟩
    · exact .inl ⟨m, rfl, (tab b m).1⟩
    · exact .inr ⟨_, _, rfl, ha, _, _, rfl⟩
  have hok : HOk l.prog w H s₁.heap := fun b u e => by
    rcases start0_inv e with ⟨m, rfl⟩ | ⟨_, rfl, _, rfl⟩
    · exact (tab b m).1
    · exact ⟨ha, by rw [List.length_map]; exact hz, vs, _, rv, ha⟩
  have hK : ∀ b o, K.lookup b = some o → s₁.heap.get? b = some o ∧ H b = none := fun b o e => ⟨KX b o e, by
    cases q : H b with
    | none => rfl
    | some u =>
      rcases start0_inv q with ⟨m, _⟩ | ⟨_, rfl, z, _⟩
      · rw [(tab b m).2] at e
        cases e
      · rw [z] at e
        cases e⟩
  have hS : SqL K H a (ns.map V.int) := by
    cases e : K.lookup a with
    | none => exact .inl (.inr ⟨ob, (if_neg na).trans (if_pos ⟨rfl, by rw [e]; rfl⟩)⟩)
    | some u =>
      obtain rfl := Option.some.inj (ha.symm.trans (KX a u e))
      exact .inr ⟨_, vs.toArray, _, e, rfl, rfl, rfl, by rw [List.size_toArray, hi.length]; exact hz, by simpa using rv⟩
  exact T.call hok hK G.T.g G.T.b G.T.builtins G.T.nolimit hg (fun p hp => (hcs p hp).1) (fun p hp => (hcs p hp).2.2) G.T.bmain hr hF hb
    (hsp H a ns hlen hbits (fun p hp => start0_tab (List.mem_map.mpr ⟨p, hp, rfl⟩)) hS) fun e s' => hCX w H s₁ e s'
end EndG
/-! ## the law's end where it is known that so many tokens are out -/
namespace EndN
open PySem PySem.W PySem.Spec PyProof.Rows L2 LamX EndG
section
variable {P : Program} {w : World} {K : PySem.W.Frag} {mg mb : Str → Option Value} {H : Hp} {n0 : Nat}
theorem callN {CX : CXT} {k : Nat} {fa a : Addr} {cs : List (Addr × Addr)} {fd : FuncData} {x : Str} {sp : Sp} {s₁ : Shared} (T : Told (cs.map (·.2)) H s₁.heap) (hok : HOk P w H s₁.heap) (hn : n0 ≤ s₁.toks)
    (hK : ∀ a o, K.lookup a = some o → s₁.heap.get? a = some o ∧ H a = none) (hns : s₁.heap.Ns mainGlobals mg) (hb : s₁.heap.Ns builtinsNs mb) (hbb : ∀ x : Str, x ≠ "__name__" → mb x = bootBuiltins x) (hlim : s₁.heap.NoLimit) (hg : s₁.gens = #[])
    (hT : ∀ p ∈ cs, s₁.heap.get? p.2 = some tabO) (C : ∀ p ∈ cs, PySem.W.CodeHd s₁.heap p.1 p.2)
    (hbm : ∃ (bm : Addr) (ob : Obj), mg "__builtins__" = some (.ref bm) ∧ bm ≠ builtinsNs ∧ s₁.heap.get? bm = some ob ∧ ob.cls = .type "module" ∧ ob.dict = some builtinsNs ∧ ob.data = .plain) (hr : Room k callerA)
    (F : ∀ base : Heap, K.In base → base.Ns mainGlobals mg → (∀ p ∈ cs, TabB base mg p.1 p.2) → FnN n0 P w K mg base CX k fa fd [x] sp) (hbind : ∀ (s : Shared) (u : Value), BindsTo s fd ⟨[u], []⟩ [(x, u)])
    (hsp : sp [.ref a] H (fun v _ => v = .bl true) fun _ _ _ => False) (hCX : ∀ e s', CX [] H s₁ (fun _ _ _ => False) e s' → False) :
    codeAny (model P w) callerA (.call (.ref fa) ⟨[.ref a], []⟩) (fun r s' => r = .ok (.ret (.bool true)) ∧ OldK s₁.heap s'.heap ∧ s'.os = s₁.os ∧ AllBare s'.gens) s₁ := by
  have M := T.mod hns hb hbb hlim hK
  have e0 : Env0 P w K mg (hidT s₁.heap H) callerA [] s₁ H :=
    { frames := rfl, mod := M, bs := fun _ _ => of_hidT, bsz := Nat.le_of_eq (hidT_size _ _), funs := trivial, frf := by simp [frs], hok := hok, bare := .of_eq hg }
  have go := (F _ M.kin M.glob fun p hp => T.tab hns (hT p hp) (C p hp) hbm).run callerA [] s₁ H ⟨[.ref a], []⟩ [.ref a] [.ref a] _ _ hn hr e0 (hbind s₁ (.ref a)) (.cons rfl .nil) hsp
  refine codeAny_mono go fun r s' z => ?_
  match r, z with
  | .error e, z => exact (hCX e s' z).elim
  | .ok (.ret u), z =>
    obtain ⟨v, H', os, bare, un, hok', rv, rfl⟩ := z
    obtain rfl : u = Value.bool true := rv
    exact ⟨rfl, T.old hok hok' un C, os, bare⟩
  | .ok .next, z => exact z.elim
  | .ok .brk, z => exact z.elim
  | .ok .cont, z => exact z.elim
end
/-- what is known of the law's promise at the head's heap h -/
def LawN (n0 : Nat) (l : PySem.W.OpenLaw) (w : World) (K : PySem.W.Frag) (CX : CXT) (k n : Nat) (x : Str) (mg : Str → Option Value) (fa : Addr) (h : Heap) : Prop :=
  ∃ (fd : FuncData) (cs : List (Addr × Addr)) (sp : Sp), (∀ p ∈ cs, h.get? p.2 = some tabO ∧ K.lookup p.2 = none ∧ PySem.W.CodeHd h p.1 p.2) ∧ (∀ (s : Shared) (u : Value), BindsTo s fd ⟨[u], []⟩ [(x, u)]) ∧
    (∀ (H : Hp) (a : Addr) (ns : List Int), ns.length ≤ n → (∀ z ∈ ns, Builtin.Int.intBits z ≤ 1048576) → (∀ p ∈ cs, H p.2 = some (.tbl #[])) → SqL K H a (ns.map V.int) → sp [.ref a] H (fun v _ => v = .bl true) fun _ _ _ => False) ∧
    ∀ base : Heap, K.In base → base.Ns mainGlobals mg → (∀ p ∈ cs, TabB base mg p.1 p.2) → FnN n0 l.prog w K mg base CX k fa fd [x] sp
/-- the law's run at a laid script -/
theorem runN {l : PySem.W.OpenLaw} {n k n0 : Nat} {q : Program} {loose : List Str} {XP : (Str → Option Value) → Heap → Prop} {CX : World → CXT} {x : Str} {w : World} {s₀ s₁ : Shared} {mg mb : Str → Option Value} {K : PySem.W.Frag} {fa : Addr}
    {vals : List Value} {args : List WData} (hn : l.most = some n) (hn2 : n ≤ sizeLine) (hr : Room k callerA) (G : Ground q loose [] XP w s₀ mg mb s₁.heap) (KX : K.In s₁.heap) (L : LawN n0 l w K (CX w) k n x mg fa s₁.heap) (ht : n0 ≤ s₁.toks)
    (hg : s₁.gens = #[]) (hpre : l.row.toRowW.claim.pre args = true) (hlay : WData.layableAll args = true) (hwl : WellAll w.params s₁.heap vals args)
    (hCX : ∀ (w : World) (H : Hp) (s : Shared) (e : Value) (s' : Shared), CX w [] H s (fun _ _ _ => False) e s' → False) :
    codeAny (model l.prog w) callerA (.call (.ref fa) ⟨vals, []⟩) (GoodWG l.row.toRowW.claim (classAt s₀.heap) (ExcName.means s₀.heap) args s₁) s₁ := by
  obtain ⟨a, vs, ns, rfl, rfl, ha, hi, hlen⟩ := Att.script_of hn hpre hwl
  have hbits := Att.script_bits hlay
  obtain ⟨fd, cs, sp, hcs, hb, hsp, hF⟩ := L
  have rv := vals_ints hi
  have hz : ns.length ≤ sizeLine := Nat.le_trans hlen hn2
  have tab : ∀ b ∈ cs.map (·.2), s₁.heap.get? b = some tabO ∧ K.lookup b = none := fun b m => by
    obtain ⟨p, hp, rfl⟩ := List.mem_map.mp m
    exact ⟨(hcs p hp).1, (hcs p hp).2.1⟩
  have na : a ∉ cs.map (·.2) := fun m => by
    have z := Option.some.inj (ha.symm.trans (tab a m).1)
    cases congrArg Obj.cls z
  let ob : Obj := { cls := .type "list", data := .seq vs.toArray }
  let H := start0 K (cs.map (·.2)) a (.frz ob (.lst (ns.map V.int)))
  have T : Told (cs.map (·.2)) H s₁.heap := fun b u e => by
    rcases start0_inv e with ⟨m, rfl⟩ | ⟨_, rfl, _, rfl⟩
    · exact .inl ⟨m, rfl, (tab b m).1⟩
    · exact .inr ⟨_, _, rfl, ha, _, _, rfl⟩
  have hok : HOk l.prog w H s₁.heap := fun b u e => by
    rcases start0_inv e with ⟨m, rfl⟩ | ⟨_, rfl, _, rfl⟩
    · exact (tab b m).1
    · exact ⟨ha, by rw [List.length_map]; exact hz, vs, _, rv, ha⟩
  have hK : ∀ b o, K.lookup b = some o → s₁.heap.get? b = some o ∧ H b = none := fun b o e => ⟨KX b o e, by
    cases q : H b with
    | none => rfl
    | some u =>
      rcases start0_inv q with ⟨m, _⟩ | ⟨_, rfl, z, _⟩
      · rw [(tab b m).2] at e
        cases e
      · rw [z] at e
        cases e⟩
  have hS : SqL K H a (ns.map V.int) := by
    cases e : K.lookup a with
    | none => exact .inl (.inr ⟨ob, (if_neg na).trans (if_pos ⟨rfl, by rw [e]; rfl⟩)⟩)
    | some u =>
      obtain rfl := Option.some.inj (ha.symm.trans (KX a u e))
      exact .inr ⟨_, vs.toArray, _, e, rfl, rfl, rfl, by rw [List.size_toArray, hi.length]; exact hz, by simpa using rv⟩
  refine codeAny_mono (callN T hok ht hK G.T.g G.T.b G.T.builtins G.T.nolimit hg (fun p hp => (hcs p hp).1) (fun p hp => (hcs p hp).2.2) G.T.bmain hr hF hb
    (hsp H a ns hlen hbits (fun p hp => start0_tab (List.mem_map.mpr ⟨p, hp, rfl⟩)) hS) fun e s' => hCX w H s₁ e s') fun r s' z => ?_
  obtain ⟨rfl, z2, z3, z4⟩ := z
  exact ⟨.inl ⟨.bool true, .bool true, [], rfl, fun _ => rfl, .bool true, Att.post_true l _, fun _ => ⟨List.Pairwise.nil, fun _ hm => (nomatch hm)⟩⟩, z2, z3, z4⟩
/-- the law holds, the top's tokens known -/
theorem holdsN {l : PySem.W.OpenLaw} {n k n0 : Nat} {q : Program} {loose : List Str} {Xt : Shared → Bool} {XP : (Str → Option Value) → Heap → Prop} {α : Type} {Yf : Shared → α} {Ya : World → α} {YP : World → Heap → Prop} {d : DefRec} {N : Nat} {CX : World → CXT} {x : Str}
    (left : LeftO l.prog q loose Xt Yf Ya N) (hY : ∀ w s, Yf s = Ya w → YP w s.heap ∧ n0 ≤ s.toks) (hYk : ∀ w h h', YP w h → (∀ b o, h.get? b = some o → h'.get? b = some o) → YP w h')
    (hX : ∀ s, Xt s = true → XP (s.heap.nsMap mainGlobals) s.heap) (hXk : ∀ mg h h', XP mg h → (∀ b o, h.get? b = some o → h'.get? b = some o) → XP mg h')
    (hdef : defOf q l.row.name = some (d, [])) (hp : l.prog.theDef l.row.name = some (d.params, d.body, d.scope)) (hk : kwWritten? d.params.kwonlyargs d.params.kw_defaults = some []) (hdf : d.params.defaults = [])
    (hwr : (!l.row.writes || l.row.records.isEmpty) = true) (k1 : l.row.wellSaid = true) (ok : (chainsOk q && opensWell l.row.prog && (frees l.row.toRowW && l.row.within.isEmpty)) = true) (hb : l.row.prog.bare) (hw : l.row.toRowW.promised)
    (hn : l.most = some n) (hn2 : n ≤ sizeLine) (hr : Room k callerA)
    (F : ∀ (w : World) (mg : Str → Option Value) (fa : Addr) (h : Heap), YP w h → h.Ns mainGlobals mg → mg d.name = some (.ref fa) → ∃ K : PySem.W.Frag, K.In h ∧ LawN n0 l w K (CX w) k n x mg fa h)
    (hCX : ∀ (w : World) (H : Hp) (s : Shared) (e : Value) (s' : Shared), CX w [] H s (fun _ _ _ => False) e s' → False) : l.row.Holds := by
  obtain ⟨okA, okB⟩ := Bool.and_eq_true_iff.mp ok
  obtain ⟨hch, o1⟩ := Bool.and_eq_true_iff.mp okA
  obtain ⟨k5, k6⟩ := Bool.and_eq_true_iff.mp okB
  obtain ⟨hsame, hu, ha, hap, hm⟩ := frees_parts k5
  have ident := ident_freeW (r := l.row.toRowW) hu ha hap
  have hwi : l.row.toRowW.claim.within = [] := List.isEmpty_iff.mp k6
  refine ⟨k1, hw, ⟨hb, o1, by rfl⟩, hw.witness, fun w => ⟨(left.behind hX hch w).1, fun sa hsa => ?_⟩⟩
  obtain ⟨sf, hf, hg0, s, hT, hz, hgens, hg, G0, y⟩ := (left.behind hX hch w).2 sa hsa
  have hgens : s.gens = #[] := Array.eq_empty_of_size_eq_zero (beq_iff_eq.mp hgens)
  have RF : RecFacts l.row.toRowW.records s.heap := recFacts_nil rfl
  refine ⟨sf, hf, hg0, s, hT, fun m hm => ?_, RF.1, RF.2.1, ClaimW.callFrom_of_specG (c := l.row.toRowW.claim) hz hgens fun args hpre hlay ord hord => ?_⟩
  · obtain rfl : m = l.row.name := by
      split at hm <;> simp_all
    exact pinned_of_view hg G0 hdef hp hk
  · have G : Ground q loose l.row.toRowW.records XP w s _ _ s.heap := RF.ground G0
    obtain ⟨⟨vs, s₁⟩, hl⟩ := Option.isSome_iff_exists.mp (layAllW_isSome (P := w.params) (ord := ord) G.has args l.row.toRowW.args s (pre_splitW hpre).1)
    have gr := layAllW_grows _ _ _ hl
    obtain ⟨as, hrd, hin, hold⟩ := reads_layAllW hord _ _ _ hl hlay s₁.heap (fun _ _ e => e)
    have L : Laid l.row.toRowW.records w s s₁ args vs as := ⟨⟨ord, hord, hl⟩, hrd, hin, hold, gr.keeps, gr.alike.1.trans hgens, gr.alike.2.2.1⟩
    have G1 := G.keeps hXk gr.keeps
    obtain ⟨y1, y2⟩ := hY w s y
    obtain ⟨a, o, pm, cd, doc, dV, kV, h1, h2, h3, h4, h5⟩ := G1.fn hdef
    obtain ⟨K, KX, LN⟩ := F w _ a _ (hYk _ _ _ y1 gr.keeps) G1.T.g (by rw [defOf_name hdef]; exact h1)
    have C := runN (n0 := n0) hn hn2 hr G1 KX LN (Nat.le_trans y2 gr.toks) L.gens hpre hlay L.well hCX
    have fin := fun (r : Result) (s' : Shared) (g : GoodWG l.row.toRowW.claim (classAt s.heap) (ExcName.means s.heap) args s₁ r s') => g.laid (c := l.row.toRowW.claim) hsame hwi ident L
    refine ⟨vs, s₁, hl, wpAny_bind (wpAny_nsGet G1.T.g ?_)⟩
    rw [h1]
    exact wpAny_bind (wpAny_mono (enter_call C) (fun v s' g => wpAny_pure ⟨_, rfl, (fin _ s' g).1, (fin _ s' g).2.1, (fin _ s' g).2.2, fun z => ⟨namesKept_of hT hg _ gr.keeps g.2.1.old, noTable hwr z⟩⟩)
      fun e s' g => ⟨(fin _ s' g).1, (fin _ s' g).2.1, (fin _ s' g).2.2, fun z => ⟨namesKept_of hT hg _ gr.keeps g.2.1.old, noTable hwr z⟩⟩)
end EndN
/-! ## defs that call one another many frames deep; methods that may raise -/
namespace L2
open PySem PySem.Spec PyProof.Rows
/-- room for m frames, and for small calls at each -/
structure RoomQ (m : Nat) (A : Around) : Prop where
  hd : A.handled = none
  dp : A.depth + m + 60 < recursionLimit
  un : A.units + 5 * m + 900 < cLine
theorem RoomQ.mono {j k : Nat} {A : Around} (r : RoomQ k A) (h : j ≤ k) : RoomQ j A := ⟨r.hd, by have := r.dp; omega, by have := r.un; omega⟩
theorem RoomQ.deeper {k : Nat} {A : Around} (r : RoomQ (k + 1) A) (env : Env) : RoomQ k (A.deeper env) :=
  ⟨r.hd, by have := r.dp; show A.depth + 1 + k + 60 < _; omega, by have := r.un; show A.units + 3 + 5 * k + 900 < _; omega⟩
theorem RoomQ.room {m : Nat} {A : Around} (r : RoomQ m A) : Room 16 A := ⟨r.hd, by have := r.dp; omega, by have := r.un; omega⟩
theorem Room.q {k m : Nat} {A : Around} (r : Room k A) (h1 : m + 60 ≤ 3 * k + 5) (h2 : 5 * m + 900 ≤ 16 * k + 200) : RoomQ m A := ⟨r.hd, by have := r.dp; omega, by have := r.un; omega⟩
theorem RoomQ.depth {k : Nat} {A : Around} (r : RoomQ k A) : A.depth < recursionLimit := by have := r.dp; omega
/-- as FnOk, by frames -/
structure FnQ (P : Program) (w : World) (K : PySem.W.Frag) (mg : Str → Option Value) (base : Heap) (CX : CXT) (m : Nat) (f : Addr) (fd : FuncData) (ps : List Str) (sp : Sp) : Prop where
  len : ∀ vs H Q E, sp vs H Q E → vs.length = ps.length
  run : ∀ (A : Around) (outer : List Env) (s : Shared) (H : Hp) (args : Args) (us : List Value) (vs : List V) (Q : VK) (E : XK), RoomQ m A → Env0 P w K mg base A outer s H → BindsTo s fd args (ps.zip us) → Vals vs us → sp vs H Q E →
    codeAny (model P w) A (.call (.ref f) args) (CR CX outer P w H s Q E) s
structure CalQ (P : Program) (w : World) (K : PySem.W.Frag) (mg : Str → Option Value) (base : Heap) (CX : CXT) (m : Nat) (x : Str) (ps : List Str) (sp : Sp) : Prop where
  ex : ∃ (f : Addr) (fd : FuncData), FnQ P w K mg base CX m f fd ps sp ∧ mg x = some (.ref f) ∧ PySem.W.keepIn K (.ref f) = true ∧ Binds K fd ps []
section
variable {P : Program} {w : World} {K : PySem.W.Frag} {mg : Str → Option Value} {base : Heap} {x qual : Str} {params : Arguments} {body : List Stmt} {scope : Scope} {f : Addr} {fd : FuncData} {ps : List Str} {sp : Sp}
theorem FnQ.mono {CX : CXT} {j k : Nat} (F : FnQ P w K mg base CX j f fd ps sp) (h : j ≤ k) : FnQ P w K mg base CX k f fd ps sp := ⟨F.len, fun A outer s H args us vs Q E hr => F.run A outer s H args us vs Q E (hr.mono h)⟩
theorem FnQ.imp {CX : CXT} {k : Nat} {sp' : Sp} (F : FnQ P w K mg base CX k f fd ps sp) (h : ∀ vs H Q E, sp' vs H Q E → sp vs H Q E) : FnQ P w K mg base CX k f fd ps sp' :=
  ⟨fun vs H Q E q => F.len vs H Q E (h _ _ _ _ q), fun A outer s H args us vs Q E hr he hb hv hs => F.run A outer s H args us vs Q E hr he hb hv (h _ _ _ _ hs)⟩
theorem FnQ.none {CX : CXT} {k : Nat} (h : ∀ vs H Q E, ¬ sp vs H Q E) : FnQ P w K mg base CX k f fd ps sp := ⟨fun vs H Q E q => (h _ _ _ _ q).elim, fun _ _ _ _ _ _ _ _ _ _ _ _ _ q => (h _ _ _ _ q).elim⟩
theorem FnQ.ok {CX : CXT} {m k : Nat} (F : FnQ P w K mg base CX m f fd ps sp) (h1 : m + 60 ≤ 3 * k + 5) (h2 : 5 * m + 900 ≤ 16 * k + 200) : FnOk P w K mg base CX k f fd ps sp := ⟨F.len, fun A outer s H args us vs Q E hr => F.run A outer s H args us vs Q E (hr.q h1 h2)⟩
theorem FnOk.q {CX : CXT} {k m : Nat} (F : FnOk P w K mg base CX k f fd ps sp) (h : k ≤ 16) : FnQ P w K mg base CX m f fd ps sp := ⟨F.len, fun A outer s H args us vs Q E hr => F.run A outer s H args us vs Q E (hr.room.mono h)⟩
theorem FunD.okQ {CX : CXT} {N ps : List Str} {k : Nat} {sp : Sp} (F : FunD K x qual params body scope [] [] f fd) (S : FnScope N ps scope) (len : ∀ vs H Q E, sp vs H Q E → vs.length = ps.length)
    (hbody : ∀ (cdv : Value) (A : Around) (outer : List Env) (s : Shared) (H : Hp) (vs : List V) (Q : VK) (E : XK), RoomQ k (A.deeper (envOfC qual scope s.heap.objs.size f cdv)) → sp vs H Q E →
      ∃ t, PSs (cxOf CX P w K mg base N qual scope f cdv A outer s H E) body t ∧ t { nx := fun _ H' => Q .non H', rt := Q } (start N vs) H) : FnQ P w K mg base CX (k + 1) f fd ps sp := by
  obtain ⟨oc, od, dV, kV, doc, pm, an, cdv, ct, osl, rfl, lk, hcd, _, _⟩ := F.ex
  refine ⟨len, fun A outer s H args us vs Q E hr e0 hb r hsp => ?_⟩
  have hl := len _ _ _ _ hsp
  have KX : K.In s.heap := e0.mod.kin.keeps fun b o e => (e0.bs b o e).1
  have lim : s.heap.NoLimit := e0.mod.nolimit.keeps fun b o e => (e0.bs b o e).1
  refine codeAny_call_function hr.depth (KX _ _ lk) rfl S.co S.gen rfl (PySem.W.codeRec_of KX hcd) (hb _ _ _ _ (PySem.wpAny_with_toks (Nat.zero_le _) ?_))
  refine wpAny_newFunctionEnv_cells S.kind (fun y hy => ?_) fun env he s1 z k1 => ?_
  · rcases S.par y.1 (List.of_mem_zip (a := y.1) (b := y.2) hy).1 with q | q
    · exact .inl q
    · exact .inr ⟨q, PySem.W.cellsFrom_some _ _ _ (.inl q)⟩
  · subst he
    refine ⟨lim.keeps z.toInCall.keep, codeAny_func ?_⟩
    obtain ⟨t, ht, hq⟩ := hbody cdv A outer s H vs Q E (hr.deeper _) hsp
    refine thn (ht.run [] s1 (start N vs) H _ (inv_start S hr.hd e0 hl r z) hq) fun fl s' hs => ?_
    match fl, hs with
    | .ret u, hs =>
      obtain ⟨v, σ', H', J, rv, q⟩ := hs
      exact ⟨v, H', J.os, J.bare, J.base, J.hok, rv, q⟩
    | .next, hs =>
      obtain ⟨σ', H', J, q⟩ := hs
      exact ⟨V.non, H', J.os, J.bare, J.base, J.hok, rfl, q⟩
    | .brk, hs => exact hs.elim fun _ y => y.elim fun _ y => y.2.elim
    | .cont, hs => exact hs.elim fun _ y => y.elim fun _ y => y.2.elim
end
section
variable {X : Cx} {CX : CXT} {k j : Nat} {x : Str} {ps : List Str} {sp : Sp} {p pos apos : Pos} {e o : Expr} {es : List Expr} {ta : TE} {t : TA} {W : WX} {C f : Addr} {fd : FuncData} {m : Str}
theorem pe_calQS (D : CalQ X.prog X.w X.K X.mg X.base (L2.CX X.prog X.w) k x ps sp) (hr : RoomQ j X.A) (hkj : k ≤ j) (gl : Gl X x) (tk : Takes X W) (ha : PA X (e :: es) t) (hdb : (x == ("__debug__" : Str)) = false := by decide)
    (he : starEach (e :: es) X.env = (false, eval e X.env) :: starEach es X.env := by rfl) (hpl : (backTo pos (starEach es X.env)).any (·.1) = false := by rfl) : PE X (.Call (.Name x p) (e :: es) [] pos) (tCallS sp (WE W) t) := by
  obtain ⟨f, fd, F, hm, hk, hb⟩ := D.ex
  refine ⟨fun pins s σ H Q I h => ?_⟩
  refine wpAny_Call_Name_kw (ld_glob I gl hm ?_ hdb)
  refine PySem.W.callWith_K (h₀ := X.base) I.ok.mod.kin hk (thn (ha.run pos pins s σ H _ I h) fun us s1 z => ?_) he hpl
  obtain ⟨vs, H1, I1, r, q⟩ := z
  have hl : us.length = ps.length := by rw [← r.length]; exact F.len _ _ _ _ q
  have b := hb s1 us I1.kIn (by rw [List.append_nil]; exact hl)
  rw [List.append_nil] at b
  exact ⟨I1.kIn, wpAny_call (codeAny_mono (F.run X.A X.stack s1 H1 ⟨us, []⟩ us vs Q (WE W σ) (hr.mono hkj) I1.env0 b r q) fun rr s' hq => match rr, hq with
    | .error e, hq => passAt tk σ pins H1 s1 e s' I1 hq
    | .ok (.ret _), hq => I1.after hq
    | .ok .next, hq => hq.elim
    | .ok .brk, hq => hq.elim
    | .ok .cont, hq => hq.elim)⟩
/-- o.m(e, ..) that may raise -/
def tMeW (C : Addr) (m : Str) (sp : Sp) (E : L2.St → XK) (ta : TE) (t : TA) : TE := fun σ H Q => ta σ H fun x H1 => ∃ a dx fs, x = .ref a ∧ H1 a = some (.ins C dx fs) ∧ fs.lookup m = none ∧ t σ H1 fun vs H2 => sp (x :: vs) H2 Q (E σ)
/-- a method of the class at C -/
structure CalM (P : Program) (w : World) (K : PySem.W.Frag) (mg : Str → Option Value) (base : Heap) (CX : CXT) (k : Nat) (C : Addr) (m : Str) (ps : List Str) (sp : Sp) : Prop where
  c : Cls K C
  ex : ∃ (f : Addr) (fd : FuncData), FnOk P w K mg base CX k f fd ps sp ∧ Meth K C m f ∧ Binds K fd ps []
theorem pe_metS {pl : Sem Bool} (he : PE X o ta) (D : CalM X.prog X.w X.K X.mg X.base (L2.CX X.prog X.w) k C m ps sp) (hr : Room j X.A) (hkj : Nat.ble k j = true) (tk : Takes X W) (ha : PA X (e :: es) t)
    (hst : starEach (e :: es) X.env = (false, eval e X.env) :: starEach es X.env := by rfl) (hpl : (backTo pos (starEach es X.env)).any (·.1) = false := by rfl)
    (ht : eval (.Call (.Attribute o m apos) (e :: es) [] pos) X.env = (do
      let ov ← eval o X.env
      standAt apos.atName
      let (f, first) ← holding [ov] (getMethod ov m pl)
      callWith pos f first (backTo pos (starEach (e :: es) X.env)) (backToKw pos (keywordEach [] X.env))) := by rfl) :
    PE X (.Call (.Attribute o m apos) (e :: es) [] pos) (tMeW C m sp (WE W) ta t) := by
  obtain ⟨f, fd, F, hm, hb⟩ := D.ex
  refine ⟨fun pins s σ H Q I h => ?_⟩
  refine PySem.W.methodCall_KW (pl := pl) (thn (he.run pins s σ H _ I h) fun u s1 ⟨x, H1, I1, rx, a, dx, fs, ex, ea, l, q⟩ => ?_) ht
  subst ex
  obtain rfl : u = Value.ref a := rx
  refine getmeth_ok I1 ea D.c hm l ?_
  refine PySem.W.callWith_K (first := [.ref a]) (h₀ := X.base) I.ok.mod.kin hm.kp (thn (ha.run pos pins s1 σ H1 _ I1 q) fun us s2 ⟨vs, H2, I2, r, q2⟩ => ⟨I2.kIn, ?_⟩) hst hpl
  exact run_fnS (us := .ref a :: us) (vs := .ref a :: vs) F (hr.mono (Nat.le_of_ble_eq_true hkj)) hb (fun pins H s e s' I c => passAt tk σ pins H s e s' I c) I2 (.cons rfl r) q2
theorem pe_metS0 {pl : Sem Bool} (he : PE X o ta) (D : CalM X.prog X.w X.K X.mg X.base (L2.CX X.prog X.w) k C m ps sp) (hr : Room j X.A) (hkj : Nat.ble k j = true) (tk : Takes X W)
    (ht : eval (.Call (.Attribute o m apos) [] [] pos) X.env = (do
      let ov ← eval o X.env
      standAt apos.atName
      let (f, first) ← holding [ov] (getMethod ov m pl)
      callWith pos f first (backTo pos (starEach [] X.env)) (backToKw pos (keywordEach [] X.env))) := by rfl) :
    PE X (.Call (.Attribute o m apos) [] [] pos) (tMeW C m sp (WE W) ta tNil) := by
  obtain ⟨f, fd, F, hm, hb⟩ := D.ex
  refine ⟨fun pins s σ H Q I h => ?_⟩
  refine PySem.W.methodCall_KW (pl := pl) (thn (he.run pins s σ H _ I h) fun u s1 ⟨x, H1, I1, rx, a, dx, fs, ex, ea, l, q⟩ => ?_) ht
  subst ex
  obtain rfl : u = Value.ref a := rx
  refine getmeth_ok I1 ea D.c hm l ?_
  exact PySem.W.callWith_K0 (first := [.ref a]) I1.kIn hm.kp (run_fnS (us := [.ref a]) (vs := [.ref a]) F (hr.mono (Nat.le_of_ble_eq_true hkj)) hb (fun pins H s e s' I c => passAt tk σ pins H s e s' I c) I1 (.cons rfl .nil) q)
/-- .. that raises nothing -/
theorem pe_met {pl : Sem Bool} {E : XK} (he : PE X o ta) (D : CalM X.prog X.w X.K X.mg X.base CX k C m ps sp) (hr : Room j X.A) (hkj : Nat.ble k j = true) (hx : Passes CX X E) (ha : PA X (e :: es) t)
    (hst : starEach (e :: es) X.env = (false, eval e X.env) :: starEach es X.env := by rfl) (hpl : (backTo pos (starEach es X.env)).any (·.1) = false := by rfl)
    (ht : eval (.Call (.Attribute o m apos) (e :: es) [] pos) X.env = (do
      let ov ← eval o X.env
      standAt apos.atName
      let (f, first) ← holding [ov] (getMethod ov m pl)
      callWith pos f first (backTo pos (starEach (e :: es) X.env)) (backToKw pos (keywordEach [] X.env))) := by rfl) :
    PE X (.Call (.Attribute o m apos) (e :: es) [] pos) (tMeth C m sp [] E ta t) := by
  obtain ⟨f, fd, F, hm, hb⟩ := D.ex
  exact pe_meth he D.c hm F (hr.mono (Nat.le_of_ble_eq_true hkj)) hb .nil hx ha hst hpl ht
theorem pe_met0 {pl : Sem Bool} {E : XK} (he : PE X o ta) (D : CalM X.prog X.w X.K X.mg X.base CX k C m ps sp) (hr : Room j X.A) (hkj : Nat.ble k j = true) (hx : Passes CX X E)
    (ht : eval (.Call (.Attribute o m apos) [] [] pos) X.env = (do
      let ov ← eval o X.env
      standAt apos.atName
      let (f, first) ← holding [ov] (getMethod ov m pl)
      callWith pos f first (backTo pos (starEach [] X.env)) (backToKw pos (keywordEach [] X.env))) := by rfl) :
    PE X (.Call (.Attribute o m apos) [] [] pos) (tMeth C m sp [] E ta tNil) := by
  obtain ⟨f, fd, F, hm, hb⟩ := D.ex
  exact pe_meth0 he D.c hm F (hr.mono (Nat.le_of_ble_eq_true hkj)) hb .nil hx ht
end
section
variable {σ : L2.St} {H : Hp} {Q : VK} {ta : TE} {t : TA} {C a : Addr} {m : Str} {sp : Sp}
theorem w_meW {E : L2.St → XK} {dx : Addr} {fs : List (Str × V)} (n : Nat) (h1 : σ[n]? = some (some (.ref a))) (h2 : H a = some (.ins C dx fs)) (h3 : fs.lookup m = none) (q : t σ H fun vs H2 => sp (.ref a :: vs) H2 Q (E σ)) : tMeW C m sp E (tVar n) t σ H Q := ⟨_, h1, a, dx, fs, rfl, h2, h3, q⟩
theorem w_met {E : XK} {dx : Addr} {fs : List (Str × V)} (n : Nat) (h1 : σ[n]? = some (some (.ref a))) (h2 : H a = some (.ins C dx fs)) (h3 : fs.lookup m = none) (q : t σ H fun vs H2 => sp (.ref a :: (vs ++ [])) H2 Q E) : tMeth C m sp [] E (tVar n) t σ H Q := ⟨_, h1, a, dx, fs, rfl, h2, h3, q⟩
end
end L2
/-! ## texts as lists of signs -/
namespace L2
open PySem PySem.Spec PyProof.Rows
abbrev Sg (l : List Nat) : Str := ⟨l.toArray⟩
theorem Sg_len (l : List Nat) : (Sg l).length = l.length := by simp [Str.length]
theorem Sg_tl (l : List Nat) : (Sg l).cps.toList = l := rfl
theorem Sg_of (z : Str) : Sg z.cps.toList = z := by
  cases z
  rfl
theorem Sg_app (a b : List Nat) : Sg a ++ Sg b = Sg (a ++ b) := Str.ext' (by simp [Str.cps_append])
theorem Sg_inj {a b : List Nat} (h : Sg a = Sg b) : a = b := by
  have e := congrArg (fun z : Str => z.cps.toList) h
  exact e
abbrev big : Nat := 200000
def rInSg : R2 := fun x y H Q => ∃ (c : Nat) (z : Str), x = .str ⟨#[c]⟩ ∧ y = .str z ∧ Q (.bl (decide (c ∈ z.cps.toList))) H
def rNotInSg : R2 := fun x y H Q => ∃ (c : Nat) (z : Str), x = .str ⟨#[c]⟩ ∧ y = .str z ∧ Q (.bl (!decide (c ∈ z.cps.toList))) H
def rAddS : R2 := fun x y H Q => ∃ i j, x = .str i ∧ y = .str j ∧ i.length + j.length ≤ sizeLine ∧ Q (.str (i ++ j)) H
def rFind3 : V → List V → Hp → VK → Prop := fun x xs H Q => ∃ (a b : Str) (i : Int), x = .str a ∧ xs = [.str b, .int i] ∧ Q (.int (Txt.find3 a b i)) H
def rCount1 : V → List V → Hp → VK → Prop := fun x xs H Q => ∃ a b, x = .str a ∧ xs = [.str b] ∧ Q (.int (Txt.count a b)) H
def rIsdig : V → List V → Hp → VK → Prop := fun x xs H Q => ∃ a, x = .str a ∧ xs = [] ∧ True ∧ Q (.bl (Txt.isdigit a)) H
section
variable {X : Cx} {H : Hp} {Q : VK} {t u : List Nat} {a b c : Nat} {z : Str}
theorem op_inSg : OpR X (compareOp .In) rInSg := op_in_sign
theorem op_notInSg : OpR X (compareOp .NotIn) rNotInSg := op_notIn_sign
theorem op_addS : OpR X (binaryOp .Add) rAddS := op_add_str
theorem mt_find3N : MtR X "str.find" rFind3 := mt_find3
theorem mt_countN : MtR X "str.count" rCount1 := mt_count
theorem mt_isdigN : MtR X "str.isdigit" rIsdig := mt_isdigit
theorem w_inSg (q : Q (.bl (decide (c ∈ z.cps.toList))) H) : rInSg (.str (Sg [c])) (.str z) H Q := ⟨c, z, rfl, rfl, q⟩
theorem w_notInSg (q : Q (.bl (!decide (c ∈ z.cps.toList))) H) : rNotInSg (.str (Sg [c])) (.str z) H Q := ⟨c, z, rfl, rfl, q⟩
theorem w_addS {x y : Str} (h : x.length + y.length ≤ sizeLine) (q : Q (.str (x ++ y)) H) : rAddS (.str x) (.str y) H Q := ⟨x, y, rfl, rfl, h, q⟩
theorem size_big : big ≤ sizeLine := by decide
theorem ixS_nat (hc : t[a]? = some c) : atI (Sg t).cps.toList (a : Int) = some c := atI_nat hc
theorem w_ixSg (h : t.length ≤ big) (hc : t[a]? = some c) (q : Q (.str (Sg [c])) H) : rIxS (.str (Sg t)) (.int (a : Int)) H Q := ⟨Sg t, a, c, rfl, rfl, by rw [Sg_len]; exact Nat.le_trans h size_big, ixS_nat hc, q⟩
theorem cut_nat (t : List Nat) (a b : Nat) : cutS (Sg t) (some (a : Int)) (some (b : Int)) = Sg ((t.drop a).take (b - a)) := by
  unfold cutS
  rw [HT.sIx_nat, HT.sIx_nat, Sg_len]
  show Sg ((t.drop (min a t.length)).take (min b t.length - min a t.length)) = _
  congr 1
  by_cases h : a ≤ t.length
  · rw [Nat.min_eq_left h]
    by_cases h2 : b ≤ t.length
    · rw [Nat.min_eq_left h2]
    · rw [Nat.min_eq_right (by omega), List.take_of_length_le (by rw [List.length_drop]; omega), List.take_of_length_le (by rw [List.length_drop]; omega)]
  · rw [List.drop_eq_nil_of_le (by omega), List.drop_eq_nil_of_le (by omega)]
    simp
theorem w_slSg (h : t.length ≤ big) (q : Q (.str (Sg ((t.drop a).take (b - a)))) H) : rSlS (.str (Sg t)) (some (a : Int)) (some (b : Int)) H Q := ⟨Sg t, rfl, by rw [Sg_len]; exact Nat.le_trans h size_big, by rw [cut_nat]; exact q⟩
theorem w_lenSg (h : t.length ≤ big) (q : Q (.int (t.length : Int)) H) : rLenS [.str (Sg t)] H Q := ⟨Sg t, rfl, by rw [Sg_len]; exact Nat.le_trans h size_big, by rw [Sg_len]; exact q⟩
/-- from a on, up to the first sign c -/
def upTo (c : Nat) (t : List Nat) : List Nat := t.takeWhile fun x => !decide (x = c)
theorem upTo_cons {x : Nat} {r : List Nat} (h : x ≠ c) : upTo c (x :: r) = x :: upTo c r := by
  unfold upTo
  rw [List.takeWhile_cons, decide_eq_false h] <;> rfl
theorem upTo_hit {r : List Nat} : upTo c (c :: r) = [] := by
  unfold upTo
  rw [List.takeWhile_cons, decide_eq_true rfl] <;> rfl
theorem upTo_first : ∀ {t : List Nat} {k : Nat}, t[k]? = some c → (∀ j : Nat, j < k → t[j]? ≠ some c) → (upTo c t).length = k
  | [], _, h, _ => by cases h
  | x :: r, 0, h, _ => by
    obtain rfl : x = c := Option.some.inj h
    rw [upTo_hit] <;> rfl
  | x :: r, k + 1, h, n => by
    have hx : x ≠ c := fun e => n 0 (Nat.succ_pos _) (by rw [e] <;> rfl)
    rw [upTo_cons hx, List.length_cons, upTo_first (t := r) (k := k) h fun j hj => n (j + 1) (Nat.succ_lt_succ hj)]
theorem upTo_none : ∀ {t : List Nat}, (∀ j : Nat, t[j]? ≠ some c) → upTo c t = t
  | [], _ => rfl
  | x :: r, n => by
    have hx : x ≠ c := fun e => n 0 (by rw [e] <;> rfl)
    rw [upTo_cons hx, upTo_none (t := r) fun j => n (j + 1)]
theorem find_from (t : List Nat) (c a : Nat) (ha : a ≤ t.length) : (Txt.find3 (Sg t) (Sg [c]) (a : Int) = -1 ∧ a + (upTo c (t.drop a)).length = t.length) ∨
    (0 ≤ Txt.find3 (Sg t) (Sg [c]) (a : Int) ∧ Txt.find3 (Sg t) (Sg [c]) (a : Int) = ((a + (upTo c (t.drop a)).length : Nat) : Int)) := by
  have fi : PySem.fromIndex (Sg t).length (a : Int) = a := by
    unfold PySem.fromIndex
    rw [if_neg (by omega)]
    omega
  have gd : ∀ {v : Nat}, v < t.length → (t[v]? = some c ↔ (Sg t).cps.getD v 0 = c) := fun {v} hv => by
    constructor
    · exact fun h => PySem.StrLaws.getD_of_getElem? (x := Sg t) h
    · exact fun h => PySem.StrLaws.getElem?_of_getD (x := Sg t) (by rw [Sg_len]; exact hv) h
  rcases PySem.StrLaws.find3_spec (Sg t) c (a : Int) with ⟨h1, h2⟩ | ⟨k, h1, h2, h3, h4, h5⟩
  · refine .inl ⟨h1, ?_⟩
    rw [fi] at h2
    rw [upTo_none, List.length_drop]
    · omega
    · intro j hj
      rw [List.getElem?_drop] at hj
      have hlt : a + j < t.length := (List.getElem?_eq_some_iff.mp hj).1
      exact h2 (a + j) (Nat.le_add_right _ _) (by rw [Sg_len]; exact hlt) ((gd hlt).mp hj)
  · refine .inr ⟨by rw [h1]; omega, ?_⟩
    rw [fi] at h2 h5
    rw [Sg_len] at h3
    rw [h1, upTo_first (k := k - a)]
    · omega
    · rw [List.getElem?_drop, show a + (k - a) = k by omega]
      exact (gd h3).mpr h4
    · intro j hj e
      rw [List.getElem?_drop] at e
      have hlt : a + j < t.length := (List.getElem?_eq_some_iff.mp e).1
      exact h5 (a + j) (Nat.le_add_right _ _) (by omega) ((gd hlt).mp e)
end
theorem w_callS {sp : Sp} {E : L2.St → XK} {tA : TA} {σ : L2.St} {H : Hp} {Q : VK} (q : tA σ H fun vs H1 => sp vs H1 Q (E σ)) : tCallS sp E tA σ H Q := q
theorem w_repG {z : Str} {to : TE} {σ : L2.St} {H : Hp} {Q : VK} (q : to σ H fun v H1 => ∃ x, v = .str x ∧ x.length + (x.length + 1) * z.length ≤ 16777216 ∧ Q (.str (Txt.replace x (z ++ z) z)) H1) : tRepG z to σ H Q := q
theorem w_rng2 {tA : TA} {σ : L2.St} {H : Hp} {R : It → Hp → Prop} (q : tA σ H fun vs H1 => ∃ i j : Int, vs = [.int i, .int j] ∧ (-(2 ^ 62) ≤ i ∧ i < 2 ^ 62 ∧ -(2 ^ 62) ≤ j ∧ j < 2 ^ 62) ∧ R (Itr i (j - i).toNat) H1) : iRng2 tA σ H R := q
theorem w_aug {i : Nat} {te : TE} {σ : L2.St} {H : Hp} {D : Ends} {x : Int} (h : σ[i]? = some (some (.int x))) (q : te σ H fun y H1 => ∃ j, y = .int j ∧ D.nx (σ.set i (some (.int (x + j)))) H1) : tAug i te (ipI fun i j => i + j) D σ H := by
  refine ⟨_, h, ?_⟩
  have e : (fun y H1 => ∃ j, y = V.int j ∧ D.nx (σ.set i (some (.int (x + j)))) H1) = fun y H1 => ipI (fun i j => i + j) (.int x) y H1 fun z H2 => D.nx (σ.set i (some z)) H2 := by
    funext y H1
    refine propext ⟨fun ⟨j, e1, e2⟩ => ⟨x, j, rfl, e1, e2⟩, fun ⟨i', j, e0, e1, e2⟩ => ?_⟩
    cases e0
    exact ⟨j, e1, e2⟩
  rw [e] at q
  exact q
theorem drop_at {t : List Nat} {a c : Nat} (h : t[a]? = some c) : t.drop a = c :: t.drop (a + 1) := by
  obtain ⟨hl, e⟩ := List.getElem?_eq_some_iff.mp h
  rw [List.drop_eq_getElem_cons hl, e]
theorem at_lt {t : List Nat} {a : Nat} (h : a < t.length) : ∃ c, t[a]? = some c := ⟨t[a], List.getElem?_eq_getElem h⟩
end L2
local macro_rules | `(tactic| walk_at "w1") => `(tactic| first
  | ((with_reducible refine' L2.w_var ?h ?q); (case h => rfl))
  | with_reducible refine L2.w_c ?_ | with_reducible refine L2.w_cons ?_ | with_reducible refine L2.w_nil ?_
  | with_reducible refine L2.w_op ?_ | with_reducible refine L2.w_un ?_ | with_reducible refine L2.w_I0 ?_ | with_reducible refine L2.w_U ?_ | with_reducible refine L2.w_eqI ?_ | with_reducible refine L2.w_neI ?_
  | with_reducible refine L2.w_test ?_ | with_reducible refine L2.w_B ?_ | with_reducible refine L2.w_bl ?_ | with_reducible refine L2.w_t ?_ | with_reducible refine L2.w_f ?_
  | with_reducible refine L2.w_and ?_ | with_reducible refine L2.w_or ?_ | with_reducible refine L2.w_not ?_ | with_reducible refine L2.w_andV ?_ | with_reducible refine L2.w_orV ?_ | with_reducible refine L2.w_notV ?_
  | with_reducible refine L2.w_ifE ?_ | with_reducible refine L2.w_chain ?_ | with_reducible refine L2.w_isN ?_ | with_reducible refine L2.w_notN ?_
  | with_reducible refine L2.w_seq ?_ | with_reducible refine L2.w_asg ?_ | with_reducible refine L2.w_name ?_ | with_reducible refine L2.w_ret ?_ | with_reducible refine L2.w_retN ?_ | with_reducible refine L2.w_ifS ?_ | with_reducible refine L2.w_next ?_ | with_reducible refine L2.w_drop ?_
  | with_reducible refine L2.w_tup ?_ | with_reducible refine L2.w_lst ?_ | ((with_reducible refine' L2.w_aug ?h ?q); (case h => rfl)) | with_reducible refine L2.w_callS ?_ | with_reducible refine L2.w_repG ?_ | with_reducible refine L2.w_rng2 ?_ | with_reducible refine L2.w_inSg ?_ | with_reducible refine L2.w_notInSg ?_ | ((with_reducible refine' L2.w_slSg ?h ?q); (case h => assumption)) | ((with_reducible refine' L2.w_lenSg ?h ?q); (case h => assumption)) | ((with_reducible refine' L2.w_ixSg ?h ?hc ?q); (case h => assumption); (case hc => assumption)) | with_reducible refine L2.w_call ?_ | with_reducible refine L2.w_CB ?_
  | with_reducible refine L2.w_int1 ?_ | with_reducible refine L2.w_intb ?_ | with_reducible refine L2.w_abs ?_
  | ((with_reducible refine' L2.w_I ?h ?q); (case h => first | (show (0 : Int) < _; decide) | exact ⟨by decide, by decide⟩ | exact .inr ⟨by decide, by decide⟩ | exact .inl ⟨by decide, by decide⟩ | exact ⟨by decide, by decide, by decide⟩ | exact .inl ⟨by omega, by omega⟩))
  | with_reducible refine L2.w_for ?_ | with_reducible refine L2.w_rng1 ?_ | with_reducible refine L2.w_itL ?_ | with_reducible refine L2.w_itT ?_ | with_reducible refine L2.w_yes ?_
  | with_reducible refine L2.w_nt ?_ | with_reducible refine L2.w_nf ?_ | with_reducible refine L2.w_fld ?_ | with_reducible refine L2.w_BM ?_ | with_reducible refine L2.w_sl ?_ | with_reducible refine L2.w_noPart ?_ | with_reducible refine L2.w_part ?_ | with_reducible refine L2.w_in ?_)
local macro_rules | `(tactic| walk_at "w") => `(tactic| repeat (walk_at "w1"))
namespace L2
open PySem PySem.Spec PyProof.Rows
theorem w_itS {te : TE} {σ : L2.St} {H : Hp} {R : It → Hp → Prop} (q : te σ H fun v H1 => ∃ x, v = .str x ∧ R (Its x) H1) : iStr te σ H R := q
theorem lc_str {x : List Nat} {g : TG} {tt : TT} {te : TE} {vs : List Nat} {σ : L2.St} {H1 : Hp} {D : Addr} {Qd : Hp → Prop} (Pv : Nat → Hp → Prop) (h0 : Pv 0 (upd H1 D (.lst [])))
    (hs : ∀ (i c : Nat) H, x[i]? = some c → Pv i H → g (.str (Sg [c])) (wipe σ vs) H fun σ2 H2 => wipe σ2 vs = wipe σ vs ∧ tt σ2 H2 fun b H3 =>
      if b = true then te σ2 H3 fun y H4 => ∃ acc, H4 D = some (.lst acc) ∧ acc.length < sizeLine ∧ Pv (i + 1) (upd H4 D (.lst (acc ++ [y]))) else Pv (i + 1) H3) (hd : ∀ H, Pv x.length H → Qd H) :
    ∃ W : Nat → Nat → Hp → Prop, (∃ m, W 0 m (upd H1 D (.lst []))) ∧ ∀ i m H, W i m H →
      ((Its (Sg x)).stop i H ∧ Qd H) ∨ ((Its (Sg x)).go i H ∧ ∃ Nx : Hp → Prop, (∀ H', Nx H' → ∃ m', m' < m ∧ W (i + 1) m' H') ∧ ∀ v H', (Its (Sg x)).yld i H v H' → g v (wipe σ vs) H' fun σ2 H2 => wipe σ2 vs = wipe σ vs ∧ tt σ2 H2 fun b H3 =>
        if b = true then te σ2 H3 fun y H4 => ∃ acc, H4 D = some (.lst acc) ∧ acc.length < sizeLine ∧ Nx (upd H4 D (.lst (acc ++ [y]))) else Nx H3) := by
  refine ⟨fun i m H => m = x.length - i ∧ i ≤ x.length ∧ Pv i H, ⟨_, rfl, Nat.zero_le _, h0⟩, ?_⟩
  rintro i m H ⟨rfl, hi, p⟩
  by_cases h : i < x.length
  · refine .inr ⟨by show i < x.toArray.size; simpa using h, Pv (i + 1), fun H' p' => ⟨_, by omega, rfl, h, p'⟩, fun v H' y => ?_⟩
    obtain ⟨rfl, c, hc, rfl⟩ := y
    exact hs i c _ (by simpa using hc) p
  · obtain rfl : i = x.length := by omega
    exact .inl ⟨by show x.toArray.size ≤ x.length; simp, hd H p⟩
/-- [p(sign) for sign in text] -/
theorem lc_bools {te tb : TE} {k : Nat} {w : List Nat} {p : Nat → Bool} {σ : L2.St} {H : Hp} {Q : VK} (hz : w.length ≤ big) (hx : ∀ R : It → Hp → Prop, R (Its (Sg w)) H → iStr te σ H R)
    (hw : ∀ v : V, wipe ((wipe σ [k]).set k (some v)) [k] = wipe σ [k]) (hb : ∀ (c : Nat) (H : Hp) (Q : VK), Q (.bl (p c)) H → tb ((wipe σ [k]).set k (some (.str (Sg [c])))) H Q)
    (q : ∀ a H', Same H H' → H' a = some (.lst ((w.map p).map V.bl)) → Q (.ref a) H') : tLc (iStr te) (gName k) tYes tb [k] σ H Q := by
  refine w_lc (hx _ fun D hD => lc_str (Pv := fun i H' => Same H H' ∧ ∃ bs, H' D = some (.lst (bs.map V.bl)) ∧ bs = (w.take i).map p) ⟨sameUpd hD, [], upd_same, by simp⟩ ?_ ?_)
  · rintro i c H1 hc ⟨s1, bs, h1, rfl⟩
    have hi : i < w.length := (List.getElem?_eq_some_iff.mp hc).1
    refine w_name ⟨hw _, w_yes (w_t (hb c H1 _ ⟨_, h1, ?_, fun b o e => ?_, _, upd_same.trans ?_, rfl⟩))⟩
    · rw [List.length_map, List.length_map, List.length_take]
      have := size_big
      have : big < sizeLine := by decide
      omega
    · by_cases hb : b = D
      · rw [hb, hD] at e
        cases e
      · rw [upd_ne hb]
        exact s1 b o e
    · have e : (w.take (i + 1)).map p = (w.take i).map p ++ [p c] := by
        rw [List.take_add_one, hc]
        simp
      rw [e, List.map_append]
      rfl
  · rintro H1 ⟨s1, bs, h1, rfl⟩
    refine q D H1 s1 ?_
    rw [h1, List.take_length]
end L2
namespace K01
open PySem L2
def top (i : Nat) : Stmt := PySem.Challenge.pw_unseenheap_k09_whole_texts_joined.main.body.getD i (.Pass ⟨0, 0, 0, 0⟩)
abbrev s_is_name : Stmt := top 16
abbrev N_is_name : List Str := ["thing", "sign"]
abbrev P_is_name : List Str := ["thing"]
theorem sc_is_name : FnScope N_is_name P_is_name (defScope s_is_name) := ⟨rfl, rfl, rfl, by decide +kernel, rfl, by decide +kernel, by decide +kernel⟩
abbrev s_is_number_word : Stmt := top 17
abbrev N_is_number_word : List Str := ["word", "sign"]
abbrev P_is_number_word : List Str := ["word"]
theorem sc_is_number_word : FnScope N_is_number_word P_is_number_word (defScope s_is_number_word) := ⟨rfl, rfl, rfl, by decide +kernel, rfl, by decide +kernel, by decide +kernel⟩
abbrev s_stretch_end : Stmt := top 18
abbrev N_stretch_end : List Str := ["text", "at"]
abbrev P_stretch_end : List Str := ["text", "at"]
theorem sc_stretch_end : FnScope N_stretch_end P_stretch_end (defScope s_stretch_end) := ⟨rfl, rfl, rfl, by decide +kernel, rfl, by decide +kernel, by decide +kernel⟩
abbrev s_line_end : Stmt := top 19
abbrev N_line_end : List Str := ["text", "at", "end"]
abbrev P_line_end : List Str := ["text", "at"]
theorem sc_line_end : FnScope N_line_end P_line_end (defScope s_line_end) := ⟨rfl, rfl, rfl, by decide +kernel, rfl, by decide +kernel, by decide +kernel⟩
abbrev s_are_signs : Stmt := top 20
abbrev N_are_signs : List Str := ["text", "sign"]
abbrev P_are_signs : List Str := ["text"]
theorem sc_are_signs : FnScope N_are_signs P_are_signs (defScope s_are_signs) := ⟨rfl, rfl, rfl, by decide +kernel, rfl, by decide +kernel, by decide +kernel⟩
abbrev s_text_end : Stmt := top 21
abbrev N_text_end : List Str := ["text", "at", "here"]
abbrev P_text_end : List Str := ["text", "at"]
theorem sc_text_end : FnScope N_text_end P_text_end (defScope s_text_end) := ⟨rfl, rfl, rfl, by decide +kernel, rfl, by decide +kernel, by decide +kernel⟩
def LETs : Str := "abcdefghijklmnopqrstuvwxyzABCDEFGHIJKLMNOPQRSTUVWXYZ_"
def FIGs : Str := "0123456789"
def SIGs : Str := " !\"#$&'()*+,-./0123456789:;<=>?@ABCDEFGHIJKLMNOPQRSTUVWXYZ[\\]^_`abcdefghijklmnopqrstuvwxyz{|}~"
def MRKs : Str := "()[]{},;.=<>+-*/"
def KEYS : List Str := ["class", "of", "fun", "var", "if", "else", "while", "break", "continue", "return", "throw", "try", "catch", "say", "true", "false", "nil", "this", "super", "new", "and", "or", "not", "len", "weak", "worth", "number", "spawn", "join", "yield", "mod"]
def PAIRS : List Str := ["==", "!=", "<=", ">="]
def isL (c : Nat) : Bool := decide (c ∈ LETs.cps.toList)
def isF (c : Nat) : Bool := decide (c ∈ FIGs.cps.toList)
def isS (c : Nat) : Bool := decide (c ∈ SIGs.cps.toList)
def isM (c : Nat) : Bool := decide (c ∈ MRKs.cps.toList)
def isLF (c : Nat) : Bool := isL c || isF c
def keyB (w : List Nat) : Bool := inV (.str (Sg w)) (KEYS.map V.str)
def pairB (w : List Nat) : Bool := inV (.str (Sg w)) (PAIRS.map V.str)
abbrev FnP (K : PySem.W.Frag) (x : Str) (st : Stmt) (f : Addr) (fd : FuncData) : Prop := FunD K x x (defArgs st) (defBody st) (defScope st) [] [] f fd
structure Txa (K : PySem.W.Frag) (mg : Str → Option Value) : Prop where
  f_isinstance : mg "isinstance" = none
  f_int : mg "int" = none
  f_str : mg "str" = none
  f_len : mg "len" = none
  f_all : mg "all" = none
  g_LETTERS : ∃ u, mg "LETTERS" = some (.str LETs u)
  g_FIGURES : ∃ u, mg "FIGURES" = some (.str FIGs u)
  g_SIGNS : ∃ u, mg "SIGNS" = some (.str SIGs u)
  g_MARKS : ∃ u, mg "MARKS" = some (.str MRKs u)
  g_QUOTE : ∃ u, mg "QUOTE" = some (.str (Sg [34]) u)
  g_MOST_NAME : ∃ u, mg "MOST_NAME" = some (.int 20 u)
  g_MOST_FIGURES : ∃ u, mg "MOST_FIGURES" = some (.int 18 u)
  g_MOST_NUMBER : ∃ u, mg "MOST_NUMBER" = some (.int 576460752303423487 u)
  g_KEYS : mg "KEYS" = some (.ref (He.ga K "KEYS"))
  t_KEYS : ∀ H, SqT K H (He.ga K "KEYS") (KEYS.map V.str)
  g_PAIRS : mg "PAIRS" = some (.ref (He.ga K "PAIRS"))
  t_PAIRS : ∀ H, SqT K H (He.ga K "PAIRS") (PAIRS.map V.str)
def headL : List Nat → Bool
  | c :: _ => isL c
  | [] => false
def nameB (w : List Nat) : Bool := decide (1 ≤ w.length) && (decide (w.length ≤ 20) && (!keyB w && (headL w && w.all isLF)))
def spIsName : Sp := fun vs H Q _ => ∃ w, vs = [.str (Sg w)] ∧ w.length ≤ big ∧ ∀ H', Same H H' → Q (.bl (nameB w)) H'
theorem flat_strs (l : List Str) : (l.map V.str).all flatV = true := by
  rw [List.all_map, List.all_eq_true]
  intro x _
  rfl
theorem w_inK {K : PySem.W.Frag} {H : Hp} {Q : VK} {w : List Nat} {a : Addr} {l : List Str} (h : SqT K H a (l.map V.str)) (q : Q (.bl (inV (.str (Sg w)) (l.map V.str))) H) : rIn K false (.str (Sg w)) (.ref a) H Q := ⟨a, _, rfl, .inr h, rfl, flat_strs l, q⟩
theorem all_id {w : List Nat} {p : Nat → Bool} : (w.map p).all id = w.all p := by
  rw [List.all_map]
  rfl
def not0 : List Nat → Bool
  | c :: _ => !decide (V.str (Sg [c]) = V.str "0")
  | [] => false
def valW (w : List Nat) : Int := ((NumText.digitsVal w : Nat) : Int)
def numB (w : List Nat) : Bool := decide (1 ≤ w.length) && (decide (w.length ≤ 18) && (w.all isF && ((decide (V.str (Sg w) = V.str "0") || not0 w) && decide (valW w ≤ 576460752303423487))))
def spNum : Sp := fun vs H Q _ => ∃ w, vs = [.str (Sg w)] ∧ w.length ≤ big ∧ ∀ H', Same H H' → Q (.bl (numB w)) H'
theorem fig_digit {c : Nat} (h : isF c = true) : 48 ≤ c ∧ c ≤ 57 := (by decide +kernel : ∀ c ∈ FIGs.cps.toList, 48 ≤ c ∧ c ≤ 57) c (of_decide_eq_true h)
theorem int_digits {w : List Nat} (h : w.all isF = true) (h1 : 1 ≤ w.length) (h2 : w.length ≤ 18) : intText? (Sg w) = some (valW w) := by
  refine PySem.intText_digits (x := Sg w) (fun c hc => fig_digit (List.all_eq_true.mp h c hc)) (fun e => ?_) (by rw [Sg_len]; omega)
  have e : w = [] := e
  rw [e] at h1
  exact absurd h1 (by decide)
def stretch (t : List Nat) : List Nat := t.takeWhile isLF
theorem stretch_cons {c : Nat} {r : List Nat} (h : isLF c = true) : stretch (c :: r) = c :: stretch r := by
  unfold stretch
  rw [List.takeWhile_cons, h] <;> rfl
theorem stretch_stop {c : Nat} {r : List Nat} (h : isLF c = false) : stretch (c :: r) = [] := by
  unfold stretch
  rw [List.takeWhile_cons, h] <;> rfl
def spStretchEnd : Sp := fun vs H Q _ => ∃ (t : List Nat) (a : Nat), vs = [.str (Sg t), .int a] ∧ t.length ≤ big ∧ a ≤ t.length ∧ Q (.int ((a + (stretch (t.drop a)).length : Nat) : Int)) H
def spLineEnd : Sp := fun vs H Q _ => ∃ (t : List Nat) (a : Nat), vs = [.str (Sg t), .int a] ∧ t.length ≤ big ∧ a ≤ t.length ∧ Q (.int ((a + (upTo 10 (t.drop a)).length : Nat) : Int)) H
def spSigns : Sp := fun vs H Q _ => ∃ t, vs = [.str (Sg t)] ∧ t.length ≤ big ∧ ∀ H', Same H H' → Q (.bl (t.all isS)) H'
/-- how many signs stand ahead of a text's end, behind its first quote -/
def qEnd : List Nat → Option Nat
  | [] => none
  | [c] => if isS c = true then (if c = 34 then some 0 else none) else none
  | c :: d :: r => if isS c = true then (if c = 34 then (if d = 34 then (qEnd r).map (· + 2) else some 0) else (qEnd (d :: r)).map (· + 1)) else none
def oI : Option Nat → V
  | none => .non
  | some k => .int (k : Int)
def spTextEnd : Sp := fun vs H Q _ => ∃ (t : List Nat) (a : Nat), vs = [.str (Sg t), .int a] ∧ t.length ≤ big ∧ a < t.length ∧ Q (oI ((qEnd (t.drop (a + 1))).map (a + 1 + ·))) H
section
variable {P : Program} {w : World} {K : PySem.W.Frag} {mg : Str → Option Value} {base : Heap}
theorem ok_is_name (T : Txa K mg) {f : Addr} {fd : FuncData} (F : FnP K "is_name" s_is_name f fd) : FnOk P w K mg base CX0 1 f fd P_is_name spIsName := by
  refine F.ok sc_is_name (fun vs H Q E h => ?_) (fun cdv A outer s H vs Q E hr h => ?_)
  · obtain ⟨x, rfl, _⟩ := h
    rfl
  · obtain ⟨x, rfl, hz, q⟩ := h
    refine ⟨_, PSs.nox (pss_cons (ps_if (PW.pt (pw_or (pt_not (pt_val (pe_callB call_isi (by rfl) T.f_isinstance (by decide +kernel) (pa_cons (pv 0) (pa_cons (pe_bltn (v := .ty "str") (by rfl) T.f_str (by decide +kernel) rfl) pa_nil))))) (pw_or (pt_not (pt_chain op_le op_le pe_int (pe_callB call_lenS (by rfl) T.f_len (by decide +kernel) (pa_cons (pv 0) pa_nil)) (pe_gi T.g_MOST_NAME))) (pw_or1 (pt_cmpR op_in_seq (pv 0) (pe_gr T.g_KEYS) (by rfl)))))) (pss_one (ps_ret pe_bl)) pss_nil)
  (pss_one (ps_ret (pe_and (pe_cmpR op_inSg (pe_ix ix_str (pv 0) pe_int (fun _ _ => rfl)) (pe_gs T.g_LETTERS) (by rfl)) (pe_one (pe_callB (cr_all rfl) (by rfl) T.f_all (by decide +kernel) (pa_cons (pe_lc (own := [("sign", 1)]) (g := gName 1) rfl sc_is_name.nd (pi_str (pv 0)) (blkOk_by (own := [("sign", 1)]) (N := N_is_name) (sc := defScope s_is_name) (by decide +kernel)) (fun _ _ _ _ _ => pg_name (i := 1) sc_is_name.nd rfl (Or.inl rfl)) (fun _ _ _ _ _ => pts_nil) (fun _ _ _ _ _ => (pe_or (pe_cmpR op_inSg (pv 1) (pe_gs T.g_LETTERS) (by rfl)) (pe_one (pe_cmpR op_inSg (pv 1) (pe_gs T.g_FIGURES) (by rfl)))))) pa_nil))))))), ?_⟩
    walk_at "w"
    refine w_isStr rfl ?_
    walk_at "w"
    refine w_nt ?_
    walk_at "w"
    have q0 := q H (Same.refl H)
    have n1 : nameB x = (decide (1 ≤ x.length) && (decide (x.length ≤ 20) && (!keyB x && (headL x && x.all isLF)))) := rfl
    refine w_2 (fun h1 => ?_) (fun h1 => ?_)
    · have h1 : 1 ≤ x.length := by have := of_decide_eq_true h1; omega
      rw [decide_eq_true h1, Bool.true_and] at n1
      walk_at "w"
      refine w_2 (fun h2 => ?_) (fun h2 => ?_)
      · have h2 : ¬ x.length ≤ 20 := by
          have z := (Bool.not_eq_true' _).mp h2
          have := of_decide_eq_false z
          omega
        rw [decide_eq_false h2, Bool.false_and] at n1
        rw [n1] at q0
        walk_at "w"
        exact q0
      · have h2 : x.length ≤ 20 := by
          have z := (Bool.not_eq_false' ..).mp h2
          have := of_decide_eq_true z
          omega
        rw [decide_eq_true h2, Bool.true_and] at n1
        walk_at "w"
        refine w_inK (T.t_KEYS H) ?_
        walk_at "w"
        refine w_2 (fun h3 => ?_) (fun h3 => ?_)
        · rw [show keyB x = true from h3, Bool.not_true, Bool.false_and] at n1
          rw [n1] at q0
          walk_at "w"
          exact q0
        · rw [show keyB x = false from h3, Bool.not_false, Bool.true_and] at n1
          walk_at "w"
          match x, h1 with
          | c :: r, _ =>
            refine w_ixSg (a := 0) hz (c := c) rfl ?_
            walk_at "w"
            refine w_2 (fun h4 => ?_) (fun h4 => ?_)
            · rw [show headL (c :: r) = true from h4, Bool.true_and] at n1
              walk_at "w"
              refine lc_bools (p := isLF) hz ?_ ?_ ?_ ?_
              · exact fun R h => w_itS (w_var rfl ⟨_, rfl, h⟩)
              · exact fun _ => rfl
              · intro d H Q q
                walk_at "w"
                have e : isLF d = (isL d || isF d) := rfl
                refine w_2 (fun h5 => ?_) (fun h5 => ?_)
                · rw [e, show isL d = true from h5] at q
                  exact q
                · rw [e, show isL d = false from h5, Bool.false_or] at q
                  walk_at "w"
                  exact q
              · intro a H' s' ha
                walk_at "w"
                refine ⟨a, _, rfl, .of ha, ?_⟩
                rw [all_id, ← n1]
                exact q H' s'
            · rw [show headL (c :: r) = false from h4, Bool.false_and] at n1
              rw [n1] at q0
              exact q0
    · have h1 : ¬ 1 ≤ x.length := by have := of_decide_eq_false h1; omega
      rw [decide_eq_false h1, Bool.false_and] at n1
      rw [n1] at q0
      walk_at "w"
      exact q0
theorem ok_is_number_word (T : Txa K mg) {f : Addr} {fd : FuncData} (F : FnP K "is_number_word" s_is_number_word f fd) : FnOk P w K mg base CX0 1 f fd P_is_number_word spNum := by
  refine F.ok sc_is_number_word (fun vs H Q E h => ?_) (fun cdv A outer s H vs Q E hr h => ?_)
  · obtain ⟨x, rfl, _⟩ := h
    rfl
  · obtain ⟨x, rfl, hz, q⟩ := h
    refine ⟨_, PSs.nox (pss_cons (ps_if (PW.pt (pw_or (pt_not (pt_chain op_le op_le pe_int (pe_callB call_lenS (by rfl) T.f_len (by decide +kernel) (pa_cons (pv 0) pa_nil)) (pe_gi T.g_MOST_FIGURES))) (pw_or1 (pt_not (pt_val (pe_callB (cr_all rfl) (by rfl) T.f_all (by decide +kernel) (pa_cons (pe_lc (own := [("sign", 1)]) (g := gName 1) rfl sc_is_number_word.nd (pi_str (pv 0)) (blkOk_by (own := [("sign", 1)]) (N := N_is_number_word) (sc := defScope s_is_number_word) (by decide +kernel)) (fun _ _ _ _ _ => pg_name (i := 1) sc_is_number_word.nd rfl (Or.inl rfl)) (fun _ _ _ _ _ => pts_nil) (fun _ _ _ _ _ => (pe_cmpR op_inSg (pv 1) (pe_gs T.g_FIGURES) (by rfl)))) pa_nil))))))) (pss_one (ps_ret pe_bl)) pss_nil)
  (pss_one (ps_ret (pe_and (pe_or (pe_cmpR op_eq (pv 0) pe_str (nomark _)) (pe_one (pe_cmpR op_ne (pe_ix ix_str (pv 0) pe_int (fun _ _ => rfl)) pe_str (nomark _)))) (pe_one (pe_cmpR op_le (pe_callTy call_intS (by rfl) T.f_int (by decide +kernel) (pa_cons (pv 0) pa_nil)) (pe_gi T.g_MOST_NUMBER) (nomark _))))))), ?_⟩
    have q0 := q H (Same.refl H)
    have n1 : numB x = (decide (1 ≤ x.length) && (decide (x.length ≤ 18) && (x.all isF && ((decide (V.str (Sg x) = V.str "0") || not0 x) && decide (valW x ≤ 576460752303423487))))) := rfl
    walk_at "w"
    refine w_2 (fun h1 => ?_) (fun h1 => ?_)
    · have h1 : 1 ≤ x.length := by have := of_decide_eq_true h1; omega
      rw [decide_eq_true h1, Bool.true_and] at n1
      walk_at "w"
      refine w_2 (fun h2 => ?_) (fun h2 => ?_)
      · have h2 : ¬ x.length ≤ 18 := by
          have z := (Bool.not_eq_true' _).mp h2
          have := of_decide_eq_false z
          omega
        rw [decide_eq_false h2, Bool.false_and] at n1
        rw [n1] at q0
        walk_at "w"
        exact q0
      · have h2 : x.length ≤ 18 := by
          have z := (Bool.not_eq_false' ..).mp h2
          have := of_decide_eq_true z
          omega
        rw [decide_eq_true h2, Bool.true_and] at n1
        walk_at "w"
        refine lc_bools (p := isF) hz ?_ ?_ ?_ ?_
        · exact fun R h => w_itS (w_var rfl ⟨_, rfl, h⟩)
        · exact fun _ => rfl
        · intro d H Q q
          walk_at "w"
          exact q
        · intro a H' s' ha
          have q1 := q H' s'
          walk_at "w"
          refine ⟨a, _, rfl, .of ha, ?_⟩
          rw [all_id]
          walk_at "w"
          refine w_2 (fun h3 => ?_) (fun h3 => ?_)
          · rw [show x.all isF = false from (Bool.not_eq_true' _).mp h3, Bool.false_and] at n1
            rw [n1] at q1
            walk_at "w"
            exact q1
          · have h3 : x.all isF = true := (Bool.not_eq_false' ..).mp h3
            rw [h3, Bool.true_and] at n1
            walk_at "w"
            have last : (decide (V.str (Sg x) = V.str "0") || not0 x) = true → rIntS [.str (Sg x)] H' fun v H1 => rI0 (fun i j => .bl (decide (i ≤ j))) v (.int 576460752303423487) H1 Q := fun e => by
              rw [e, Bool.true_and] at n1
              refine ⟨Sg x, valW x, rfl, int_digits h3 h1 h2, by rw [Sg_len]; omega, w_I0 ?_⟩
              rw [← n1]
              exact q1
            refine w_eq rfl ?_
            walk_at "w"
            refine w_2 (fun h4 => ?_) (fun h4 => ?_)
            · walk_at "w"
              exact last (by rw [h4] <;> rfl)
            · walk_at "w"
              match x, h1 with
              | c :: r, _ =>
                refine w_ixSg (a := 0) hz (c := c) rfl ?_
                walk_at "w"
                refine w_ne rfl ?_
                walk_at "w"
                refine w_2 (fun h5 => ?_) (fun h5 => ?_)
                · walk_at "w"
                  exact last (by rw [h4, Bool.false_or]; exact h5)
                · have e : not0 (c :: r) = false := h5
                  rw [h4, e, Bool.false_or, Bool.false_and] at n1
                  rw [n1] at q1
                  exact q1
    · have h1 : ¬ 1 ≤ x.length := by have := of_decide_eq_false h1; omega
      rw [decide_eq_false h1, Bool.false_and] at n1
      rw [n1] at q0
      walk_at "w"
      exact q0
theorem ok_stretch_end (T : Txa K mg) {f : Addr} {fd : FuncData} (F : FnP K "stretch_end" s_stretch_end f fd) : FnOk P w K mg base CX0 1 f fd P_stretch_end spStretchEnd := by
  refine F.ok sc_stretch_end (fun vs H Q E h => ?_) (fun cdv A outer s H vs Q E hr h => ?_)
  · obtain ⟨t, a, rfl, _⟩ := h
    rfl
  · obtain ⟨t, a, rfl, hz, ha, q⟩ := h
    refine ⟨_, PSs.nox (pss_cons (ps_while PassesOwn.never (PW.pt (pw_and (pt_cmpR op_lt (pv 1) (pe_callB call_lenS (by rfl) T.f_len (by decide +kernel) (pa_cons (pv 0) pa_nil)) (nomark _)) (pw_and1 (PW.pt (pw_or (pt_cmpR op_inSg (pe_ix ix_str (pv 0) (pv 1) (fun _ _ => rfl)) (pe_gs T.g_LETTERS) (by rfl)) (pw_or1 (pt_cmpR op_inSg (pe_ix ix_str (pv 0) (pv 1) (fun _ _ => rfl)) (pe_gs T.g_FIGURES) (by rfl)))))))) (pss_one (ps_aug (i := 1) sc_stretch_end.nd rfl (Or.inl rfl) pe_int ip_add)))
  (pss_one (ps_ret (pv 1)))), ?_⟩
    walk_at "w"
    refine ⟨fun m σ H' => ∃ b : Nat, m = t.length - b ∧ σ = [some (.str (Sg t)), some (.int b)] ∧ H' = H ∧ b ≤ t.length ∧ b + (stretch (t.drop b)).length = a + (stretch (t.drop a)).length, ⟨_, a, rfl, rfl, rfl, ha, rfl⟩, ?_⟩
    rintro m σ H' ⟨b, rfl, rfl, rfl, hb, e⟩
    walk_at "w"
    have stop : b < t.length ∨ b = t.length := by omega
    rcases stop with hl | rfl
    · rw [decide_eq_true (show (b : Int) < (t.length : Int) by omega)]
      walk_at "w"
      obtain ⟨c, hc⟩ := at_lt hl
      have dr := drop_at hc
      walk_at "w"
      have step : isLF c = true → ∃ N : L2.St → Hp → Prop, (∀ σ' H'', N σ' H'' → ∃ m', m' < t.length - b ∧ ∃ b' : Nat, m' = t.length - b' ∧ σ' = [some (.str (Sg t)), some (.int b')] ∧ H'' = H' ∧ b' ≤ t.length ∧ b' + (stretch (t.drop b')).length = a + (stretch (t.drop a)).length) ∧
          N [some (.str (Sg t)), some (.int ((b : Int) + 1))] H' := fun hc' => by
        rw [dr, stretch_cons hc', List.length_cons] at e
        exact ⟨fun σ' H'' => σ' = [some (.str (Sg t)), some (.int ((b + 1 : Nat) : Int))] ∧ H'' = H', fun σ' H'' z => ⟨t.length - (b + 1), by omega, b + 1, rfl, z.1, z.2, by omega, by omega⟩, rfl, rfl⟩
      have e2 : isLF c = (isL c || isF c) := rfl
      refine w_2 (fun h1 => ?_) (fun h1 => ?_)
      · rw [show isL c = true from h1, Bool.true_or] at e2
        obtain ⟨N, n1, n2⟩ := step e2
        refine w_t ⟨N, n1, ?_⟩
        walk_at "w"
        exact n2
      · rw [show isL c = false from h1, Bool.false_or] at e2
        walk_at "w"
        refine w_2 (fun h2 => ?_) (fun h2 => ?_)
        · rw [show isF c = true from h2] at e2
          obtain ⟨N, n1, n2⟩ := step e2
          refine ⟨N, n1, ?_⟩
          walk_at "w"
          exact n2
        · rw [show isF c = false from h2] at e2
          walk_at "w"
          rw [dr, stretch_stop e2, List.length_nil, Nat.add_zero] at e
          rw [← e] at q
          exact q
    · rw [decide_eq_false (show ¬ (t.length : Int) < (t.length : Int) by omega)]
      walk_at "w"
      rw [List.drop_length, show stretch [] = [] from rfl, List.length_nil, Nat.add_zero] at e
      rw [← e] at q
      exact q
theorem ok_line_end (T : Txa K mg) {f : Addr} {fd : FuncData} (F : FnP K "line_end" s_line_end f fd) : FnOk P w K mg base CX0 1 f fd P_line_end spLineEnd := by
  refine F.ok sc_line_end (fun vs H Q E h => ?_) (fun cdv A outer s H vs Q E hr h => ?_)
  · obtain ⟨t, a, rfl, _⟩ := h
    rfl
  · obtain ⟨t, a, rfl, hz, ha, q⟩ := h
    refine ⟨_, PSs.nox (pss_cons (ps_set (i := 2) sc_line_end.nd rfl (Or.inl rfl) (pe_bm PySem.F.plainAttrs_str PySem.F.slot_str_find PySem.F.type_str_find mt_find3N (pv 0) (pa_cons pe_str (pa_cons (pv 1) pa_nil))))
  (pss_one (ps_ret (pe_ifExp (pt_cmpR op_lt (pv 2) pe_int (nomark _)) (pe_callB call_lenS (by rfl) T.f_len (by decide +kernel) (pa_cons (pv 0) pa_nil)) (pv 2))))), ?_⟩
    walk_at "w"
    refine ⟨rfl, ?_⟩
    walk_at "w"
    refine ⟨Sg t, Sg [10], a, rfl, rfl, ?_⟩
    walk_at "w"
    rcases find_from t 10 a ha with ⟨h1, h2⟩ | ⟨h1, h2⟩
    · rw [decide_eq_true (show Txt.find3 (Sg t) (Sg [10]) (a : Int) < 0 by omega)]
      walk_at "w"
      rw [h2] at q
      exact q
    · rw [decide_eq_false (show ¬ Txt.find3 (Sg t) (Sg [10]) (a : Int) < 0 by omega)]
      walk_at "w"
      rw [h2]
      exact q
theorem ok_are_signs (T : Txa K mg) {f : Addr} {fd : FuncData} (F : FnP K "are_signs" s_are_signs f fd) : FnOk P w K mg base CX0 1 f fd P_are_signs spSigns := by
  refine F.ok sc_are_signs (fun vs H Q E h => ?_) (fun cdv A outer s H vs Q E hr h => ?_)
  · obtain ⟨t, rfl, _⟩ := h
    rfl
  · obtain ⟨t, rfl, hz, q⟩ := h
    refine ⟨_, PSs.nox (pss_one (ps_ret (pe_callB (cr_all rfl) (by rfl) T.f_all (by decide +kernel) (pa_cons (pe_lc (own := [("sign", 1)]) (g := gName 1) rfl sc_are_signs.nd (pi_str (pv 0)) (blkOk_by (own := [("sign", 1)]) (N := N_are_signs) (sc := defScope s_are_signs) (by decide +kernel)) (fun _ _ _ _ _ => pg_name (i := 1) sc_are_signs.nd rfl (Or.inl rfl)) (fun _ _ _ _ _ => pts_nil) (fun _ _ _ _ _ => (pe_cmpR op_inSg (pv 1) (pe_gs T.g_SIGNS) (by rfl)))) pa_nil)))), ?_⟩
    walk_at "w"
    refine lc_bools (p := isS) hz ?_ ?_ ?_ ?_
    · exact fun R h => w_itS (w_var rfl ⟨_, rfl, h⟩)
    · exact fun _ => rfl
    · intro d H Q q
      walk_at "w"
      exact q
    · intro a H' s' ha
      walk_at "w"
      refine ⟨a, _, rfl, .of ha, ?_⟩
      rw [all_id]
      exact q H' s'
theorem strEq (u v : List Nat) : decide (V.str (Sg u) = V.str (Sg v)) = decide (u = v) := by
  by_cases h : u = v
  · rw [h, decide_eq_true rfl, decide_eq_true rfl]
  · rw [decide_eq_false h, decide_eq_false]
    exact fun e => h (Sg_inj (V.str.inj e))
theorem qEnd_bad {c : Nat} {r : List Nat} (h : isS c = false) : qEnd (c :: r) = none := by
  cases r <;> (unfold qEnd; rw [h] <;> rfl)
theorem s34 : isS 34 = true := by decide +kernel
theorem qEnd_end {r : List Nat} (h : r.take 1 ≠ [34]) : qEnd (34 :: r) = some 0 := by
  cases r with
  | nil =>
    unfold qEnd
    rw [s34] <;> rfl
  | cons d r =>
    have hd : d ≠ 34 := fun e => h (by rw [e] <;> rfl)
    unfold qEnd
    rw [s34, if_pos rfl, if_pos rfl, if_neg hd]
theorem qEnd_dbl {r : List Nat} : qEnd (34 :: 34 :: r) = (qEnd r).map (· + 2) := by
  rw [qEnd, s34, if_pos rfl, if_pos rfl, if_pos rfl]
theorem qEnd_next {c : Nat} {r : List Nat} (h : isS c = true) (hc : c ≠ 34) : qEnd (c :: r) = (qEnd r).map (· + 1) := by
  cases r with
  | nil =>
    unfold qEnd
    rw [h, if_pos rfl, if_neg hc] <;> rfl
  | cons d r => rw [qEnd, h, if_pos rfl, if_neg hc]
theorem ok_text_end (T : Txa K mg) {f : Addr} {fd : FuncData} (F : FnP K "text_end" s_text_end f fd) : FnOk P w K mg base CX0 1 f fd P_text_end spTextEnd := by
  refine F.ok sc_text_end (fun vs H Q E h => ?_) (fun cdv A outer s H vs Q E hr h => ?_)
  · obtain ⟨t, a, rfl, _⟩ := h
    rfl
  · obtain ⟨t, a, rfl, hz, ha, q⟩ := h
    refine ⟨_, PSs.nox (pss_cons (ps_set (i := 2) sc_text_end.nd rfl (Or.inl rfl) (pe_op op_add (pv 1) pe_int))
  (pss_cons (ps_while PassesOwn.never (PW.pt (pw_and (pt_cmpR op_lt (pv 2) (pe_callB call_lenS (by rfl) T.f_len (by decide +kernel) (pa_cons (pv 0) pa_nil)) (nomark _)) (pw_and1 (pt_cmpR op_inSg (pe_ix ix_str (pv 0) (pv 2) (fun _ _ => rfl)) (pe_gs T.g_SIGNS) (by rfl))))) (pss_cons (ps_if (pt_cmpR op_eq (pe_ix ix_str (pv 0) (pv 2) (fun _ _ => rfl)) (pe_gs T.g_QUOTE) (nomark _)) (pss_cons (ps_if (pt_cmpR op_ne (pe_slice sl_str (pv 0) (po_some (pe_op op_add (pv 2) pe_int)) (po_some (pe_op op_add (pv 2) pe_int))) (pe_gs T.g_QUOTE) (nomark _)) (pss_one (ps_ret (pv 2))) pss_nil)
  (pss_one (ps_aug (i := 2) sc_text_end.nd rfl (Or.inl rfl) pe_int ip_add))) pss_nil)
  (pss_one (ps_aug (i := 2) sc_text_end.nd rfl (Or.inl rfl) pe_int ip_add))))
  (pss_one (ps_ret pe_non)))), ?_⟩
    walk_at "w"
    refine ⟨fun m σ H' => ∃ b : Nat, m = t.length - b ∧ σ = [some (.str (Sg t)), some (.int a), some (.int b)] ∧ H' = H ∧ b ≤ t.length ∧ (qEnd (t.drop b)).map (b + ·) = (qEnd (t.drop (a + 1))).map (a + 1 + ·), ⟨_, a + 1, rfl, rfl, rfl, ha, rfl⟩, ?_⟩
    rintro m σ H' ⟨b, rfl, rfl, rfl, hb, e⟩
    walk_at "w"
    rcases (show b < t.length ∨ b = t.length by omega) with hl | rfl
    · rw [decide_eq_true (show (b : Int) < (t.length : Int) by omega)]
      walk_at "w"
      obtain ⟨c, hc⟩ := at_lt hl
      have dr := drop_at hc
      walk_at "w"
      rw [dr] at e
      have mp : ∀ {o : Option Nat} {k : Nat}, Option.map (b + ·) (o.map (· + k)) = o.map (b + k + ·) := fun {o k} => by
        rw [Option.map_map]
        congr 1
        funext x
        show b + (x + k) = b + k + x
        omega
      have step : ∀ k : Nat, 0 < k → b + k ≤ t.length → (qEnd (t.drop (b + k))).map (b + k + ·) = (qEnd (t.drop (a + 1))).map (a + 1 + ·) → ∃ m', m' < t.length - b ∧ ∃ b' : Nat, m' = t.length - b' ∧ [some (V.str (Sg t)), some (V.int a), some (V.int ((b + k : Nat) : Int))] = [some (.str (Sg t)), some (.int a), some (.int b')] ∧ H' = H' ∧ b' ≤ t.length ∧
          (qEnd (t.drop b')).map (b' + ·) = (qEnd (t.drop (a + 1))).map (a + 1 + ·) := fun k hk hbk e' => ⟨_, by omega, b + k, rfl, rfl, rfl, hbk, e'⟩
      refine w_2 (fun h1 => ?_) (fun h1 => ?_)
      · have h1 : isS c = true := h1
        refine ⟨fun σ' H'' => ∃ m', m' < t.length - b ∧ ∃ b' : Nat, m' = t.length - b' ∧ σ' = [some (.str (Sg t)), some (.int a), some (.int b')] ∧ H'' = H' ∧ b' ≤ t.length ∧ (qEnd (t.drop b')).map (b' + ·) = (qEnd (t.drop (a + 1))).map (a + 1 + ·), fun _ _ z => z, ?_⟩
        walk_at "w"
        refine w_eq rfl ?_
        rw [strEq]
        walk_at "w"
        refine w_2 (fun h2 => ?_) (fun h2 => ?_)
        · obtain rfl : c = 34 := by
            have z := of_decide_eq_true h2
            injection z
          walk_at "w"
          refine w_slSg (a := b + 1) (b := b + 2) hz ?_
          walk_at "w"
          refine w_ne rfl ?_
          rw [strEq, show b + 2 - (b + 1) = 1 by omega]
          walk_at "w"
          refine w_2 (fun h3 => ?_) (fun h3 => ?_)
          · have h3 : (t.drop (b + 1)).take 1 ≠ [34] := of_decide_eq_false ((Bool.not_eq_true' _).mp h3)
            rw [qEnd_end h3] at e
            walk_at "w"
            rw [← e] at q
            exact q
          · have h3 : (t.drop (b + 1)).take 1 = [34] := of_decide_eq_true ((Bool.not_eq_false' ..).mp h3)
            have h4 : t[b + 1]? = some 34 := by
              have z := congrArg (fun l : List Nat => l[0]?) h3
              simpa using z
            have dr2 := drop_at h4
            have hl2 : b + 1 < t.length := (List.getElem?_eq_some_iff.mp h4).1
            rw [dr2, qEnd_dbl, mp] at e
            walk_at "w"
            exact step 2 (by omega) (by omega) e
        · have h2 : c ≠ 34 := fun z => by
            have y := of_decide_eq_false h2
            rw [z] at y
            exact y rfl
          walk_at "w"
          rw [qEnd_next h1 h2, mp] at e
          exact step 1 (by omega) (by omega) e
      · have h1 : isS c = false := h1
        walk_at "w"
        rw [qEnd_bad h1] at e
        rw [← e] at q
        exact q
    · rw [decide_eq_false (show ¬ (t.length : Int) < (t.length : Int) by omega)]
      walk_at "w"
      rw [List.drop_length] at e
      rw [← e] at q
      exact q
end
end K01
namespace K01
open PySem L2
abbrev s_BadText_init : Stmt := inClass (top 2) 0
end K01
namespace PySem
namespace SupXBadText
open PySem.W PySem.Calls PyProof.Rows PySem.HandSPX L2
/-- what the written part says of BadText, at C, and of its __init__, at fI -/
structure SupTxt (prog : Program) (K : Frag) (mg : Str → Option Value) (C fI : Addr) : Prop where
  gC : mg "BadText" = some (.ref C)
  cls : ∃ nm q N bs bm sn sub ab col dd k0 k1 k2 k3 k5, K.lookup C = some (excClassObj nm q C N bs bm true sn sub ab col dd k0 k1 k2 k3 k5 "ValueError.__new__") ∧ refsVE bm = true
  sa : findIn K (.ref C) "__setattr__" = some (some (.builtin "object.__setattr__"))
  ga : findIn K (.ref C) "__getattribute__" = some (some (.builtin "BaseException.__getattribute__"))
  gg : findIn K (.ref C) "__getattr__" = some none
  noN : findIn K (.ref C) "line" = some none
  iC : findIn K (.ref C) "__init__" = some (some (.ref fI))
  tC : typeIn K (.ref fI) = some (.type "function")
  kC : keepIn K (.ref C) = true
  exC : subIn K (.ref C) (.type "BaseException") = some true
  veC : subIn K (.ref C) (.type "ValueError") = some true
  tyC : typeIn K (.ref C) = some (.type "type")
  hdC : hasDictIn K C = true
  te : exmOne K (.ref C) (.ref C) = some true
  sub : mroIn K C (.ref C) = some true
  sup : ks_superIn K C C "__init__" = some (some (.builtin "ValueError.__init__"))
  third : nsIn K cStatics "thirdparty.any" = some none
  mgS : mg "super" = none
  top : (prog.main.scope.names.lookup ("super" : Str)).isSome = false
  fn : ∃ (oc : Value) (od : Option Addr) (doc pm : Value) (an : Option Addr) (cda cc : Addr) (ct : Value) (osl : Array (Option Value)) (vs : Array Value) (file : Str) (tf : Tok) (ccl cl : Value) (cdd cld : Option Addr) (ccs csl : Array (Option Value)),
    K.lookup fI = some ⟨oc, od, .func (fnX "__init__" "BadText.__init__" (defArgs K01.s_BadText_init) (defBody K01.s_BadText_init) (defScope K01.s_BadText_init) [("__class__", cc)] .none .none doc pm an (.ref cda) ct), osl⟩ ∧ codeIn K (.ref cda) "BadText.__init__" = true ∧
    K.lookup cda = some ⟨ccl, cdd, .fields vs, ccs⟩ ∧ vs[2]? = some (.str file tf) ∧ ((prog.main.file : Str) == file) = true ∧ K.lookup cc = some ⟨cl, cld, .cell (some (.ref C)), csl⟩
theorem one_size (v : Value) : [v].length ≤ sizeLine := by
  rw [sizeLine_eq]
  exact (by decide : 1 ≤ 16777216)
/-- what __init__ leaves of a fresh exception at x -/
structure InitEnd (h h' : Heap) (x C dx : Addr) (v : Value) : Prop where
  keep : ∀ b o, b ≠ x → h.get? b = some o → h'.get? b = some o
  obj : ∃ t1, h'.get? x = some { cls := .ref C, dict := some dx, data := .fields #[.ref t1, .none, .none, .none, .bool false, .none] }
  dbig : h.objs.size ≤ dx
  dne : dx ≠ x
  ns : h'.Ns1 dx (fun y => if y = "line" then some v else none)
section
variable {prog : Program} {w : World} {A : Around} {E : Value → Shared → Prop} {R : Result → Shared → Prop} {s : Shared} {K : Frag} {mg mb : Str → Option Value} {C fI : Addr}
/-- the bound ValueError.__init__ called -/
theorem call_mw {h : Heap} {g : Array GenState} {d : Drawn} {t : Nat} {os : OsState} {u e t0 : Addr} {rest : List Value} {Q : Value → Shared → Prop} {nm q : Str} {N : Addr} {bs bm : List Value} {sn : List Str} {sub : List Value} {ab : Bool} {col : Option Bool} {dd : Option Addr} {k0 k1 k2 k3 k5 : Option Value}
    (hC : h.get? C = some (excClassObj nm q C N bs bm true sn sub ab col dd k0 k1 k2 k3 k5 "ValueError.__new__")) (he : h.get? e = some (excO C t0)) (hu : h.get? u = some (kxs_mw "ValueError.__init__" e)) (hrest : rest.length ≤ sizeLine)
    (hq : ∀ h' t1, (∀ b o, b ≠ e → h.get? b = some o → h'.get? b = some o) → h'.get? e = some (excO C t1) → Q .none ⟨h', g, d, t, os⟩) :
    wpAny (model prog w) A (call (.ref u) rest) Q E ⟨h, g, d, t, os⟩ := by
  refine wpAny_call (codeAny_of_tree ?_)
  show wpAny _ A.in1 (callAny (.ref u) ⟨rest, []⟩) _ _ _
  simp only [callAny]
  refine wpAny_bind (wpAny_load hu ?_)
  simp only [kxs_mw, show (Value.type "method-wrapper" == Value.type "method" || Value.type "method-wrapper" == Value.type "builtin_function_or_method" || Value.type "method-wrapper" == Value.type "method-wrapper") = true by decide, if_true]
  refine KFB.if_so (by decide) ?_
  refine wpAny_bind (check_bound_init F.excBase_ValueError.toExcCallFacts hC he rfl ?_)
  refine wpAny_bind (wpAny_pure (wpAny_pure ?_))
  refine ⟨plainId_quiet F.excBase_ValueError.init.plain _, codeAny_builtin F.excBase_ValueError.initEntry ?_⟩
  exact exc_init_tree (cls := .ref C) (t0 := t0) (dv := none) (c2 := .none) (c3 := .none) (b4 := .bool false) he hrest fun h' k e' _ => hq h' _ k e'
theorem sup_init (T : SupTxt prog K mg C fI) {x t0 : Addr} {v : Value} (X : K.In s.heap) (hlim : s.heap.NoLimit) (hG : s.heap.Ns mainGlobals mg) (hB : s.heap.Ns builtinsNs mb) (hbs : mb "super" = some (.type "super"))
    (hx : s.heap.get? x = some (excO C t0)) (hnx : K.lookup x = none) (hroom : A.depth < recursionLimit)
    (hq : ∀ h' tk dx, InitEnd s.heap h' x C dx v → R (.ok (.ret .none)) { s with heap := h', toks := tk }) :
    codeAny (model prog w) A (.call (.ref fI) ⟨[.ref x, v], []⟩) R s := by
  obtain ⟨oc, od, doc, pm, an, cda, cc, ct, osl, vs, file, tf, ccl, cl, cdd, cld, ccs, csl, ho, hcd, hcode, hvs, hfile, hcell⟩ := T.fn
  obtain ⟨nm, q, N, bs, bm, sn, sub, ab, col, dd, k0, k1, k2, k3, k5, hC, hbm⟩ := T.cls
  have hcl : clsIn K C = some { name := nm, bases := bs, mro := .ref C :: bm, ns := N, qualname := q, hasDict := true, slotNames := sn, subclasses := sub, abstract := ab, collection := col, hasDel := false } := by unfold clsIn; rw [hC] <;> rfl
  have hsup : alongIn K "__init__" (((Value.ref C :: bm).dropWhile (· != .ref C)).drop 1) = some (some (.builtin "ValueError.__init__")) := by
    have z := T.sup
    unfold ks_superIn at z
    rw [hcl] at z
    exact z
  refine ks_codeAny_call_defAt (binds := [("self", .ref x), ("line", v)]) hroom (X _ _ ho) rfl hlim (codeRec_of X hcd) rfl (BindsTo.of_eq (by first | rfl | with_unfolding_all rfl)) (show ∀ y ∈ (defScope K01.s_BadText_init).names, y.2 ≠ .cell from by decide +kernel) (locs (scope := defScope K01.s_BadText_init) (by first | rfl | kernel_rfl)) (fun h₁ hns k => ?_) rfl rfl rfl
  have X₁ : K.In h₁ := X.keeps k
  have hx₁ := k _ _ hx
  have hxL : s.heap.objs.size ≠ x := Nat.ne_of_gt (Heap.lt_size hx)
  have hCx : x ≠ C := fun z => by rw [z, hC] at hnx; cases hnx
  have G₁ : h₁.Ns mainGlobals mg := hG.keeps k
  have B₁ : h₁.Ns builtinsNs mb := hB.keeps k
  have I₁ : InstAt h₁ x (excO C t0) C none := ⟨hx₁, rfl, rfl, trivial⟩
  have hD2 : ({ cls := .type "type", dict := dd, data := .cls { name := nm, bases := bs, mro := .ref C :: bm, ns := N, qualname := q, hasDict := true, slotNames := sn, subclasses := sub, abstract := ab, collection := col, hasDel := false } } : Obj).data = .cls { name := nm, bases := bs, mro := .ref C :: bm, ns := N, qualname := q, hasDict := true, slotNames := sn, subclasses := sub, abstract := ab, collection := col, hasDel := false } := rfl
  have z₁ : s.heap.objs.size < h₁.objs.size := hns.lt
  obtain ⟨hp, g, d, tk, os⟩ := s
  -- super()
  refine ks_wpAt_execs_cons (ks_wpAt_Expr_any (ks_wpAt_MethodCall ?_))
  refine ks_wpAt_super_base (f := fI) (cc := cda) (by first | rfl | with_unfolding_all rfl | kernel_rfl) (by first | rfl | with_unfolding_all rfl | kernel_rfl) (by decide) rfl (X₁ _ _ ho) rfl rfl rfl (X₁ _ _ hcode) rfl hvs hfile T.top ?_
  refine ks_loadName_global rfl (by first | rfl | with_unfolding_all rfl | kernel_rfl) (loadGlobal_builtin G₁ T.mgS B₁ hbs ⟨rfl, ?_⟩)
  refine wpAny_loadName_free (c := cc) rfl (by first | rfl | with_unfolding_all rfl | kernel_rfl) (by first | rfl | with_unfolding_all rfl | kernel_rfl) ⟨_, X₁ _ _ hcell, rfl⟩ ?_
  refine wpAny_loadName_local (v := .ref x) rfl (by first | rfl | with_unfolding_all rfl | kernel_rfl) hns (by first | rfl | with_unfolding_all rfl | kernel_rfl) ?_
  have hD1 := X₁ _ _ hC
  refine ks_wpAny_isType_cls hD1 rfl ⟨rfl, ?_⟩
  refine ks_wpAny_call_super hD1 rfl hx₁ rfl (fun c e => by cases e) (looks_mroIn X₁ T.sub) (fun h2 e2 k2 => ?_)
  -- .__init__
  have X₂ : K.In h2 := X₁.keeps k2
  have I₂ : InstAt h2 x (excO C t0) C none := ⟨k2 _ _ hx₁, rfl, rfl, trivial⟩
  have hI : Looks (model prog w) h2 (isInstance (.ref x) (.type "ValueError")) true := I₂.type.andThen (looks_subIn X₂ T.veC)
  refine kxs_getMethod kxs_ValueError e2 (looks_opaque X₂ T.third) (l₀ := .ref C :: bm) (fun A Q E s k q => wpAny_bind ((looks_clsIn X₂ hcl) A _ E s k (wpAny_pure q))) rfl X₂ hsup hI hCx (by decide) ?_
  -- the call
  have hu : (h2.push (kxs_mw "ValueError.__init__" x)).get? h2.objs.size = some (kxs_mw "ValueError.__init__" x) := Heap.get?_push_size _ rfl
  have k3 : ∀ b o, h2.get? b = some o → (h2.push (kxs_mw "ValueError.__init__" x)).get? b = some o := fun b o e => Heap.get?_push_of_some _ e
  refine kxs_callWith (i := "ValueError.__init__") (x := x) rfl (evalArgs_plain (Calls.spliced_cons ?_))
  have hns3 : (h2.push (kxs_mw "ValueError.__init__" x)).Ns hp.objs.size (fun y => ([("self", Value.ref x), ("line", v)] : List (Str × Value)).reverse.lookup y) := (hns.keeps k2).keeps k3
  refine wpAny_Name (wpAny_loadName_local (v := v) rfl (by first | rfl | with_unfolding_all rfl | kernel_rfl) hns3 (by first | rfl | with_unfolding_all rfl | kernel_rfl) ?_)
  refine Calls.spliced_nil ⟨hu, ?_⟩
  refine call_mw (k3 _ _ (X₂ _ _ hC)) (k3 _ _ I₂.at_) hu (one_size v) (fun h4 t1 k4 hx4 => ?_)
  -- self.line = line
  have hns4 : h4.Ns hp.objs.size (fun y => ([("self", Value.ref x), ("line", v)] : List (Str × Value)).reverse.lookup y) := by
    obtain ⟨oL, es, ep, hL, r⟩ := hns3
    exact ⟨oL, es, ep, k4 _ _ hxL hL, r⟩
  have kx : ∀ b o, b ≠ x → hp.get? b = some o → h4.get? b = some o := fun b o hb e => k4 b o hb (k3 _ _ (k2 _ _ (k _ _ e)))
  have X₄ : K.In h4 := fun a o e => k4 a o (fun z => by rw [z, hnx] at e; cases e) (k3 _ _ (X₂ a o e))
  refine ks_wpAt_execs_cons (wpAt_of_wpAny (plainObj_wpAny_Assign_Attribute ?_))
  refine wpAny_Name (wpAny_loadName_local (v := v) rfl (by first | rfl | with_unfolding_all rfl | kernel_rfl) hns4 (by first | rfl | with_unfolding_all rfl | kernel_rfl) ?_)
  refine wpAny_Name (wpAny_loadName_local (v := .ref x) rfl (by first | rfl | with_unfolding_all rfl | kernel_rfl) hns4 (by first | rfl | with_unfolding_all rfl | kernel_rfl) ?_)
  refine set_plain X₄ (ox := excO C t1) (od := none) ⟨hx4, rfl, rfl, trivial⟩ T.sa ?_
  refine exc_osa X₄ hx4 hcl (show refsVE (.ref C :: bm) = true from hbm) rfl T.noN (fun h₅ tk₅ dx k₅ dn dne hx₅ hn₅ => ?_)
  have zL : hp.objs.size < h4.objs.size := hns4.lt
  exact wpAt_of_wpAny (wpAny_execs_nil (hq h₅ tk₅ dx ⟨fun b o hb e => k₅ b o hb (kx b o hb e), ⟨_, hx₅⟩, Nat.le_of_lt (Nat.lt_of_lt_of_le zL dn), dne, hn₅⟩))
/-- a made BadText -/
structure OwnMade (h h' : Heap) (e C d : Addr) (v : Value) : Prop where
  keep : ∀ b o, h.get? b = some o → h'.get? b = some o
  new : h.objs.size ≤ e
  obj : ∃ oe vs, h'.get? e = some oe ∧ oe.cls = .ref C ∧ oe.dict = some d ∧ oe.data = .fields vs ∧ vs[1]? = some .none
  dbig : h.objs.size ≤ d
  dne : d ≠ e
  ns : h'.Ns1 d (fun y => if y = "line" then some v else none)
theorem sup_made (T : SupTxt prog K mg C fI) {v : Value} (X : K.In s.heap) (hlim : s.heap.NoLimit) (hG : s.heap.Ns mainGlobals mg) (hB : s.heap.Ns builtinsNs mb) (hbs : mb "super" = some (.type "super")) (hroom : A.depth + 1 < recursionLimit)
    (hq : ∀ h' tk e d, OwnMade s.heap h' e C d v → R (.ok (.ret (.ref e))) { s with heap := h', toks := tk }) :
    codeAny (model prog w) A (.call (.ref C) ⟨[v], []⟩) R s := by
  obtain ⟨nm, q, N, bs, bm, sn, sub, ab, col, dd, k0, k1, k2, k3, k5, hC, hbm⟩ := T.cls
  obtain ⟨hp, g, dr, tk, os⟩ := s
  have k : ∀ b o, hp.get? b = some o → ((hp.push (kdv_tup [v])).push (excO C hp.objs.size)).get? b = some o := fun b o e => Heap.get?_push_of_some _ (Heap.get?_push_of_some _ e)
  have hget : ((hp.push (kdv_tup [v])).push (excO C hp.objs.size)).get? (hp.objs.size + 1) = some (excO C hp.objs.size) := by heap_get
  have hnx : K.lookup (hp.objs.size + 1) = none := by
    cases e : K.lookup (hp.objs.size + 1) with
    | none => rfl
    | some o =>
      have z : hp.get? (hp.objs.size + 1) = some o := X _ _ e
      exact absurd (Nat.lt_of_succ_lt (Heap.lt_size z)) (Nat.lt_irrefl _)
  refine call_own F.excBase_ValueError (fun X => refsVE_contains X bm hbm) (X _ _ hC) (looks_findIn X T.iC) (fun self => bind_fn X self T.tC) (one_size v) ?_
  refine sup_init (s := ⟨(hp.push (kdv_tup [v])).push (excO C hp.objs.size), g, dr, tk, os⟩) T (X.keeps k) (hlim.keeps k) (hG.keeps k) (hB.keeps k) hbs hget hnx ?_ fun h' tk' dx ⟨k', hx, dn, dne, hns⟩ => ?_
  · show A.depth + 1 < recursionLimit
    exact hroom
  · have old : ∀ b o, hp.get? b = some o → h'.get? b = some o := fun b o e => k' b o (Nat.ne_of_lt (Nat.lt_succ_of_lt (Heap.lt_size e))) (k b o e)
    have z : hp.objs.size + 1 + 1 ≤ dx := by
      first
        | (simpa only [Heap.size_push] using dn)
        | exact dn
        | (have q := dn; rw [Heap.size_push, Heap.size_push] at q; exact q)
    obtain ⟨t1, hx⟩ := hx
    exact ⟨rfl, hq h' tk' (hp.objs.size + 1) dx ⟨old, Nat.le_succ _, ⟨_, _, hx, rfl, rfl, rfl, rfl⟩, Nat.le_trans (Nat.le_trans (Nat.le_succ _) (Nat.le_succ _)) z, dne, hns⟩⟩
end
end SupXBadText
end PySem
namespace L2
open PySem PySem.Spec PyProof.Rows
section
variable {X : Cx} {C fI : Addr}
theorem relO_line {v : V} {v' : Value} (r : RelV v v') (f : Str) : RelO (List.lookup f [(("line" : Str), v)]) (if f = "line" then some v' else none) := by
  by_cases hw : f = "line"
  · subst hw
    rw [if_pos rfl]
    have q : List.lookup ("line" : Str) [(("line" : Str), v)] = some v := by simp [List.lookup]
    rw [q]
    exact r
  · rw [if_neg hw]
    have qw : (f == ("line" : Str)) = false := by simpa using hw
    have q2 : List.lookup f [(("line" : Str), v)] = none := by simp [List.lookup, qw]
    rw [q2]
    trivial
/-- BadText(e) -/
def tMkBadText (C : Addr) (ta : TA) : St → Hp → XK → Prop := fun σ H Q => ta σ H fun vs H1 => ∃ v, vs = [v] ∧ ∀ d, H1 d = none → Q (.ref C) (some d) (upd H1 d (.xd [(("line" : Str), v)]))
theorem pmk_BadText {a : Expr} {ta : TA} {p pos : Pos} {k : Nat} (T : PySem.SupXBadText.SupTxt X.prog X.K X.mg C fI) (hr : Room k X.A) (ha : PA X [a] ta) (hg : Gl X "BadText" := by rfl)
    (he : starEach (a :: []) X.env = (false, eval a X.env) :: starEach [] X.env := by rfl) (hpl : (backTo pos (starEach [] X.env)).any (·.1) = false := by rfl) :
    PMk X (.Call (.Name "BadText" p) [a] [] pos) (tMkBadText C ta) := by
  intro pins s σ H Q I h
  refine wpAny_Call_Name_kw (ld_glob I hg T.gC ?_)
  refine PySem.W.callWith_K (h₀ := X.base) I.ok.mod.kin T.kC (thn (ha.run pos pins s σ H _ I h) fun us s1 hh => ?_) he hpl
  obtain ⟨vs, H1, I1, r1, v, ev, q1⟩ := hh
  subst ev
  refine ⟨I1.kIn, ?_⟩
  cases r1 with
  | cons rv rn =>
    rename_i v' us'
    cases rn
    show wpAny _ _ (call (.ref C) [v']) _ _ _
    have hlim := I1.nolimit
    obtain ⟨mb, hB0, hmb⟩ := I1.mod.blt
    have hG := I1.mod.glob.keeps I1.bk
    have hB := hB0.keeps I1.bk
    have hbs : mb "super" = some (.type "super") := (hmb _ (by decide)).trans (by first | boot_by_name | rfl | kernel_rfl)
    obtain ⟨hp, g, dr, tk, os⟩ := s1
    refine wpAny_call (PySem.SupXBadText.sup_made T I1.kIn hlim hG hB hbs (by have := hr.dp; omega) fun h' tk' e d M => ?_)
    show MkP X pins σ Q (.ref e) ⟨h', g, dr, tk', os⟩
    obtain ⟨oe, fv, hoe, hc, hd, hdat, h1⟩ := M.obj
    have hns := M.ns
    obtain ⟨G', g1, g2⟩ := restrict h' fun b => decide (b ≠ e)
    have gk : ∀ b, b ≠ e → G'.get? b = h'.get? b := fun b hb => g1 b (decide_eq_true hb)
    have ge : G'.get? e = none := g2 e (by simp)
    have old : ∀ b o, hp.get? b = some o → G'.get? b = some o := fun b o q => (gk b (Nat.ne_of_lt (Nat.lt_of_lt_of_le (Heap.lt_size q) M.new))).trans (M.keep b o q)
    have ob : ObjOk X.prog X.w (upd H1 d (.xd [(("line" : Str), v)])) G' d (.xd [(("line" : Str), v)]) :=
      ⟨_, hns.at (fun o q => (gk d M.dne).trans q), fun f => relO_line rv f⟩
    have J : Inv X pins σ (upd H1 d (.xd [(("line" : Str), v)])) ⟨G', g, dr, tk', os⟩ := I1.laid (t' := tk') old M.dbig ob
    refine ⟨e, oe, fv, ⟨G', g, dr, tk', os⟩, _, .ref C, some d, rfl, J, fun b o q => ?_, ge, hoe, ⟨hc, hd⟩, hdat, h1, ?_, rfl, I1.bare, raises_own T.exC T.tyC, q1 d (I1.hok.fresh M.dbig)⟩
    · by_cases hb : b = e
      · have q' : G'.get? b = some o := q
        rw [hb, ge] at q'; cases q'
      · exact (gk b hb).symm.trans q
    · rw [upd_ne (Ne.symm M.dne)]
      exact I1.hok.fresh M.new
/-- raise BadText(e) -/
def tRaiseBadText (C : Addr) (W : WX) (ta : TA) : TS := fun _ σ H => tMkBadText C ta σ H fun cls d H' => W cls d σ H'
theorem ps_raiseBadText {a : Expr} {ta : TA} {W : WX} {p pos pos2 : Pos} {k : Nat} (hc : X.calm = true) (T : PySem.SupXBadText.SupTxt X.prog X.K X.mg C fI) (hr : Room k X.A) (tk : Takes X W) (ha : PA X [a] ta) (hg : Gl X "BadText" := by rfl)
    (he : starEach (a :: []) X.env = (false, eval a X.env) :: starEach [] X.env := by rfl) (hpl : (backTo pos (starEach [] X.env)).any (·.1) = false := by rfl) :
    PS X (.Raise (some (.Call (.Name "BadText" p) [a] [] pos)) none pos2) (tRaiseBadText C W ta) := ps_raise hc tk (pmk_BadText T hr ha hg he hpl)
/-- x.line, x the exception that the suite holds (at a; its class cls, its dict d) -/
def tByBadText (C : Addr) (a : Addr) (cls : Value) (d : Option Addr) (te : TE) : TE := fun σ H Q => te σ H fun x H1 => x = .ref a ∧ cls = .ref C ∧ ∃ (dd : Addr) (v : V), d = some dd ∧ H1 dd = some (.xd [(("line" : Str), v)]) ∧ Q v H1
theorem pe_byBadText {a : Addr} {oe : Obj} {cls : Value} {d : Option Addr} {pn : List (Addr × Obj)} {e : Expr} {te : TE} {pos : Pos} (T : PySem.SupXBadText.SupTxt X.prog X.K X.mg C fI) (hz : Zc cls d oe) (hf : ∃ vs, oe.data = .fields vs) (he : PE (X.suite a ((a, oe) :: pn)) e te)
    (hb : attributeBase e "line" X.env (eval e X.env) = eval e X.env := by rfl) :
    PE (X.suite a ((a, oe) :: pn)) (.Attribute e "line" pos) (tByBadText C a cls d te) := by
  refine ⟨fun pins s σ H Q I h => ?_⟩
  refine attr_of hb (thn (he.run pins s σ H _ I h) fun u s1 hh => ?_)
  obtain ⟨x, H1, I1, rx, ex, ec, dd, v, ed, ea, q⟩ := hh
  subst ex
  obtain rfl : u = Value.ref a := rx
  subst ec
  subst ed
  obtain ⟨ha, _⟩ := I1.pin (a, oe) (List.mem_append_left _ List.mem_cons_self)
  obtain ⟨vs, hd⟩ := hf
  have hx : ObjOk X.prog X.w H1 s1.heap dd (.xd [(("line" : Str), v)]) := I1.hok dd _ ea
  obtain ⟨mA, hns, hr⟩ := hx
  obtain ⟨od, ho, hl⟩ := lookIn_ns hns
  have l : List.lookup ("line" : Str) [(("line" : Str), v)] = some v := by simp [List.lookup]
  obtain ⟨u, hu, ru⟩ := RelO.some_of (v := v) (o := mA "line") (by rw [← l]; exact hr "line")
  have J : PySem.W.InstAt s1.heap a oe C (some od) := ⟨ha, hz.1, by unfold PySem.W.notCls; rw [hd] <;> rfl, by rw [hz.2]; exact ho⟩
  exact HandSPX.exc_get I1.kIn J T.ga T.gg T.exC (PySem.W.findObj_own T.hdC T.noN rfl (by rw [hl, hu])) (handed_of ru) ⟨v, H1, I1.tok _, ru, q⟩
end
end L2
/-! ## dicts of the top with text keys -/
namespace DicT
open PySem L2
def tupAt (K : PySem.W.Frag) (A : Addr) (vs : List Str) : Bool := match K.lookup A with
  | some ⟨.type c, _, .seq its _, _⟩ => decide (c = "tuple") && (decide (its.size ≤ sizeLine) && He.relAll (vs.map V.str) its.toList)
  | _ => false
theorem tupAt_ok {K : PySem.W.Frag} {A : Addr} {vs : List Str} (h : tupAt K A vs = true) (H : Hp) : SqT K H A (vs.map V.str) := by
  unfold tupAt at h
  cases q : K.lookup A with
  | none =>
    rw [q] at h
    cases h
  | some o =>
    obtain ⟨oc, od, dt, osl⟩ := o
    rw [q] at h
    cases oc with
    | type c =>
      cases dt with
      | seq its n =>
        obtain ⟨h1, h2⟩ := He.ba (show (decide (c = "tuple") && (decide (its.size ≤ sizeLine) && He.relAll (vs.map V.str) its.toList)) = true from h)
        obtain ⟨h3, h4⟩ := He.ba h2
        exact .inr ⟨_, its, n, q, congrArg Value.type (of_decide_eq_true h1), rfl, of_decide_eq_true h3, He.relAll_ok h4⟩
      | _ => cases h
    | _ => cases dt <;> cases h
/-- a dict's values are tuples of texts -/
def dtB (K : PySem.W.Frag) (a : Addr) (kvs : List (Str × List Str)) : Bool := kvs.all fun q => match PySem.W.nsIn K a q.1 with
  | some (some (.ref A)) => tupAt K A q.2
  | _ => false
theorem dtB_ok {K : PySem.W.Frag} {a : Addr} {kvs : List (Str × List Str)} (h : dtB K a kvs = true) {q : Str × List Str} (hq : q ∈ kvs) : ∃ A, PySem.W.nsIn K a q.1 = some (some (.ref A)) ∧ ∀ H, SqT K H A (q.2.map V.str) := by
  have h2 := List.all_eq_true.mp h q hq
  split at h2
  · rename_i A e
    exact ⟨A, e, tupAt_ok h2⟩
  · cases h2
theorem keys_not {P : Params} {z : Str} : ∀ {l : List DictEntry} {ks : List Str}, l.map He.keyOf = He.keysIn P ks → z ∉ ks → (l.find? (·.key.isStr z)) = none ∧ (l.any (·.refKey)) = false
  | [], _, _, _ => ⟨rfl, rfl⟩
  | e :: r, [], h, _ => by cases h
  | e :: r, k :: ks, h, hz => by
    have h1 : He.keyOf e :: r.map He.keyOf = some (k, PyData.keyHash P k) :: He.keysIn P ks := h
    injection h1 with h2 h3
    obtain ⟨i1, i2⟩ := keys_not h3 fun q => hz (List.mem_cons_of_mem _ q)
    unfold He.keyOf at h2
    split at h2
    · rename_i x t q
      obtain ⟨h5, _⟩ := Prod.mk.inj (Option.some.inj h2)
      subst h5
      have ne : x ≠ z := fun y => hz (by rw [← y]; exact List.mem_cons_self ..)
      have a1 : e.key.isStr z = false := by
        rw [q]
        simp [Value.isStr, ne]
      have a2 : e.refKey = false := by
        unfold DictEntry.refKey
        rw [q]
      refine ⟨?_, ?_⟩
      · rw [List.find?_cons, a1]
        exact i1
      · rw [List.any_cons, a2, i2]
        rfl
    · cases h2
theorem dic_none {K : PySem.W.Frag} {P : Params} {a : Addr} {ks : List Str} (h : He.dicW K a = some (He.keysIn P ks)) {z : Str} (hz : z ∉ ks) : PySem.W.nsIn K a z = some none := by
  unfold He.dicW at h
  split at h
  · rename_i c es n sl e
    split at h
    · obtain ⟨h1, h2⟩ := keys_not (Option.some.inj h) hz
      unfold PySem.W.nsIn
      rw [e]
      simp only [h1, h2]
      rfl
    · cases h
  · cases h
end DicT
/-! ## the head -/
namespace K09
open PySem PySem.Spec PyProof.Rows L2 K01
def STP : List (Str × List Str) := [("var", ["name", "e"]), ("do", ["e"]), ("set", ["place", "e"]), ("if", ["e", "block", "block"]), ("while", ["e", "block"]), ("break", []), ("continue", []), ("return", ["e"]), ("throw", ["e"]), ("try", ["block", "name", "block"]), ("say", ["e"])]
def EXP : List (Str × List Str) := [("number", ["number"]), ("text", ["text"]), ("true", []), ("false", []), ("nil", []), ("this", []), ("name", ["name"]), ("list", ["args"]), ("fun", ["params", "block"]), ("call", ["e", "args"]), ("send", ["e", "name", "args"]), ("up", ["name", "args"]), ("new", ["name", "args"]), ("field", ["e", "name"]), ("item", ["e", "e"]), ("not", ["e"]), ("minus", ["e"]), ("ask", ["key", "args"]), ("or", ["e", "e"]), ("and", ["e", "e"]), ("==", ["e", "e"]), ("!=", ["e", "e"]), ("<", ["e", "e"]), ("<=", ["e", "e"]), (">", ["e", "e"]), (">=", ["e", "e"]), ("+", ["e", "e"]), ("-", ["e", "e"]), ("*", ["e", "e"]), ("/", ["e", "e"]), ("mod", ["e", "e"])]
def BND : List (Str × He.Dv) := [("or", .int 1), ("and", .int 2), ("==", .int 4), ("!=", .int 4), ("<", .int 4), ("<=", .int 4), (">", .int 4), (">=", .int 4), ("+", .int 5), ("-", .int 5), ("*", .int 6), ("/", .int 6), ("mod", .int 6)]
abbrev s_BadText_init : Stmt := inClass (top 2) 0
abbrev s_is_name : Stmt := top 16
abbrev s_is_number_word : Stmt := top 17
abbrev s_stretch_end : Stmt := top 18
abbrev s_line_end : Stmt := top 19
abbrev s_are_signs : Stmt := top 20
abbrev s_text_end : Stmt := top 21
abbrev s_note_end : Stmt := top 22
abbrev s_stretch_word : Stmt := top 23
abbrev s_word_from : Stmt := top 24
abbrev s_words : Stmt := top 25
abbrev s_parts_of : Stmt := top 32
abbrev s_within : Stmt := top 33
abbrev s_statements_of : Stmt := top 34
abbrev s_first_layer : Stmt := top 35
abbrev s_next_layer : Stmt := top 36
abbrev s_raw_depth : Stmt := top 37
abbrev s_Reader_init : Stmt := inClass (top 43) 0
abbrev s_Reader_is_more : Stmt := inClass (top 43) 1
abbrev s_Reader_sort_at : Stmt := inClass (top 43) 2
abbrev s_Reader_is_ahead : Stmt := inClass (top 43) 3
abbrev s_Reader_ahead_of : Stmt := inClass (top 43) 4
abbrev s_Reader_bind_ahead : Stmt := inClass (top 43) 5
abbrev s_Reader_wrong : Stmt := inClass (top 43) 6
abbrev s_Reader_take : Stmt := inClass (top 43) 7
abbrev s_Reader_want : Stmt := inClass (top 43) 8
abbrev s_Reader_want_name : Stmt := inClass (top 43) 9
abbrev s_Reader_skips : Stmt := inClass (top 43) 10
abbrev s_read_args : Stmt := top 50
abbrev s_read_params : Stmt := top 51
abbrev s_read_block : Stmt := top 52
abbrev s_read_ask : Stmt := top 53
abbrev s_read_keyed : Stmt := top 54
abbrev s_read_first : Stmt := top 55
abbrev s_read_message : Stmt := top 56
abbrev s_read_behind : Stmt := top 57
abbrev s_put_together : Stmt := top 58
abbrev s_read_ahead : Stmt := top 59
abbrev s_read_e : Stmt := top 60
abbrev s_read_plain : Stmt := top 61
abbrev s_read_short : Stmt := top 62
abbrev s_read_statement : Stmt := top 63
abbrev s_read_class : Stmt := top 64
abbrev s_read_item : Stmt := top 65
abbrev s_read : Stmt := top 66
abbrev s_law_flow : Stmt := top 68
abbrev s_law_more : Stmt := top 69
abbrev s_law_draw : Stmt := top 70
abbrev s_law_same : Stmt := top 71
abbrev s_law_name : Stmt := top 72
abbrev s_law_atom : Stmt := top 73
abbrev s_law_some : Stmt := top 74
abbrev s_law_called : Stmt := top 75
abbrev s_law_e : Stmt := top 76
abbrev s_law_rows : Stmt := top 77
abbrev s_law_row : Stmt := top 78
abbrev s_law_item : Stmt := top 79
abbrev s_law_asked : Stmt := top 80
abbrev s_law_text : Stmt := top 81
abbrev s_law_spelled : Stmt := top 82
abbrev s_law_long : Stmt := top 83
abbrev s_law : Stmt := top 84
abbrev dd (x : Str) (st : Stmt) : He.DefD := ⟨(x, none), x, x, defArgs st, defBody st, defScope st, [], []⟩
abbrev dm (C m q : Str) (st : Stmt) : He.DefD := ⟨(C, some m), m, q, defArgs st, defBody st, defScope st, [], []⟩
def fnL : List He.DefD := [dd "is_name" s_is_name,
  dd "is_number_word" s_is_number_word,
  dd "stretch_end" s_stretch_end,
  dd "line_end" s_line_end,
  dd "are_signs" s_are_signs,
  dd "text_end" s_text_end,
  dd "note_end" s_note_end,
  dd "stretch_word" s_stretch_word,
  dd "word_from" s_word_from,
  dd "words" s_words,
  dd "parts_of" s_parts_of,
  dd "within" s_within,
  dd "statements_of" s_statements_of,
  dd "first_layer" s_first_layer,
  dd "next_layer" s_next_layer,
  dd "raw_depth" s_raw_depth,
  dm "Reader" "__init__" "Reader.__init__" s_Reader_init,
  dm "Reader" "is_more" "Reader.is_more" s_Reader_is_more,
  dm "Reader" "sort_at" "Reader.sort_at" s_Reader_sort_at,
  dm "Reader" "is_ahead" "Reader.is_ahead" s_Reader_is_ahead,
  dm "Reader" "ahead_of" "Reader.ahead_of" s_Reader_ahead_of,
  dm "Reader" "bind_ahead" "Reader.bind_ahead" s_Reader_bind_ahead,
  dm "Reader" "wrong" "Reader.wrong" s_Reader_wrong,
  dm "Reader" "take" "Reader.take" s_Reader_take,
  dm "Reader" "want" "Reader.want" s_Reader_want,
  dm "Reader" "want_name" "Reader.want_name" s_Reader_want_name,
  dm "Reader" "skips" "Reader.skips" s_Reader_skips,
  dd "read_args" s_read_args,
  dd "read_params" s_read_params,
  dd "read_block" s_read_block,
  dd "read_ask" s_read_ask,
  dd "read_keyed" s_read_keyed,
  dd "read_first" s_read_first,
  dd "read_message" s_read_message,
  dd "read_behind" s_read_behind,
  dd "put_together" s_put_together,
  dd "read_ahead" s_read_ahead,
  dd "read_e" s_read_e,
  dd "read_plain" s_read_plain,
  dd "read_short" s_read_short,
  dd "read_statement" s_read_statement,
  dd "read_class" s_read_class,
  dd "read_item" s_read_item,
  dd "read" s_read,
  dd "_law_flow" s_law_flow,
  dd "_law_more" s_law_more,
  dd "_law_draw" s_law_draw,
  dd "_law_same" s_law_same,
  dd "_law_name" s_law_name,
  dd "_law_atom" s_law_atom,
  dd "_law_some" s_law_some,
  dd "_law_called" s_law_called,
  dd "_law_e" s_law_e,
  dd "_law_rows" s_law_rows,
  dd "_law_row" s_law_row,
  dd "_law_item" s_law_item,
  dd "_law_asked" s_law_asked,
  dd "_law_text" s_law_text,
  dd "_law_spelled" s_law_spelled,
  dd "_law_long" s_law_long,
  dd "law" s_law]
def fa0 : List He.Fa := [.glo "is_name", .glo "is_number_word", .glo "stretch_end", .glo "line_end", .glo "are_signs", .glo "text_end", .glo "note_end", .glo "stretch_word", .glo "word_from", .glo "words", .glo "parts_of", .glo "within"]
def fa1 : List He.Fa := [.glo "statements_of", .glo "first_layer", .glo "next_layer", .glo "raw_depth", .glo "read_args", .glo "read_params", .glo "read_block", .glo "read_ask", .glo "read_keyed", .glo "read_first", .glo "read_message", .glo "read_behind"]
def fa2 : List He.Fa := [.glo "put_together", .glo "read_ahead", .glo "read_e", .glo "read_plain", .glo "read_short", .glo "read_statement", .glo "read_class", .glo "read_item", .glo "read", .glo "_law_flow", .glo "_law_more", .glo "_law_draw"]
def fa3 : List He.Fa := [.glo "_law_same", .glo "_law_name", .glo "_law_atom", .glo "_law_some", .glo "_law_called", .glo "_law_e", .glo "_law_rows", .glo "_law_row", .glo "_law_item", .glo "_law_asked", .glo "_law_text", .glo "_law_spelled"]
def fa4 : List He.Fa := [.glo "_law_long", .glo "law", .glo "HeapError", .glo "BadText", .glo "NoText", .glo "TooDeep", .glo "Reader", .glo "KEYS", .glo "PAIRS", .glo "ASKS", .glo "PLACES", .glo "OPENING"]
def fa5 : List He.Fa := [.glo "CLOSING", .glo "WITH_E", .glo "ALONE", .glo "STATEMENTS", .glo "EXPRESSIONS", .glo "BINDS", .free "abs", .free "all", .free "bool", .free "int", .free "isinstance", .free "len"]
def fa6 : List He.Fa := [.free "list", .free "max", .free "min", .free "range", .free "str", .free "super", .free "tuple", .free "zip", .free "ValueError", .int "MOST_NAME" (20), .int "MOST_FIGURES" (18), .int "MOST_NUMBER" (576460752303423487)]
def fa7 : List He.Fa := [.int "MOST_DEEP" (50), .int "MOST_OPEN" (60), .int "NOT" (3), .int "BESIDE" (4), .int "MINUS" (7), .str "MARKS" "()[]{},;.=<>+-*/", .str "FIGURES" "0123456789", .str "LETTERS" "abcdefghijklmnopqrstuvwxyzABCDEFGHIJKLMNOPQRSTUVWXYZ_", .str "QUOTE" "\"", .str "SIGNS" " !\"#$&'()*+,-./0123456789:;<=>?@ABCDEFGHIJKLMNOPQRSTUVWXYZ[\\]^_`abcdefghijklmnopqrstuvwxyz{|}~", .cls "Reader", .noat "Reader" "kept_words"]
def fa8 : List He.Fa := [.noat "Reader" "kept_last", .noat "Reader" "kept_at", .noat "Reader" "kept_open", .meth "Reader" "is_more", .meth "Reader" "sort_at", .meth "Reader" "is_ahead", .meth "Reader" "ahead_of", .meth "Reader" "bind_ahead", .meth "Reader" "wrong", .meth "Reader" "take", .meth "Reader" "want", .meth "Reader" "want_name"]
def fa9 : List He.Fa := [.meth "Reader" "skips", .mkr "Reader", .exc "NoText", .exc "TooDeep", .exm "TooDeep" "BadText" false, .exm "TooDeep" "TooDeep" true, .exm "BadText" "BadText" true]
def fa : List He.Fa := [fa0, fa1, fa2, fa3, fa4, fa5, fa6, fa7, fa8, fa9].flatten
def tfL : List He.Defn := []
def ex0 : PySem.W.Frag → Bool := fun K => He.tupB K "KEYS" [.str "class", .str "of", .str "fun", .str "var", .str "if", .str "else", .str "while", .str "break", .str "continue", .str "return", .str "throw", .str "try", .str "catch", .str "say", .str "true", .str "false", .str "nil", .str "this", .str "super", .str "new", .str "and", .str "or", .str "not", .str "len", .str "weak", .str "worth", .str "number", .str "spawn", .str "join", .str "yield", .str "mod"]
def ex1 : PySem.W.Frag → Bool := fun K => He.tupB K "PAIRS" [.str "==", .str "!=", .str "<=", .str ">="]
def ex2 : PySem.W.Frag → Bool := fun K => He.tupB K "ASKS" [.str "len", .str "weak", .str "worth", .str "number", .str "spawn", .str "join", .str "yield"]
def ex3 : PySem.W.Frag → Bool := fun K => He.tupB K "PLACES" [.str "name", .str "field", .str "item"]
def ex4 : PySem.W.Frag → Bool := fun K => He.tupB K "OPENING" [.str "(", .str "[", .str "{"]
def ex5 : PySem.W.Frag → Bool := fun K => He.tupB K "CLOSING" [.str ")", .str "]", .str "}"]
def ex6 : PySem.W.Frag → Bool := fun K => He.tupB K "WITH_E" [.str "return", .str "throw", .str "say"]
def ex7 : PySem.W.Frag → Bool := fun K => He.tupB K "ALONE" [.str "true", .str "false", .str "nil", .str "this"]
def ex8 : PySem.W.Frag → Bool := fun K => DicT.dtB K (He.ga K "STATEMENTS") STP
def ex9 : PySem.W.Frag → Bool := fun K => DicT.dtB K (He.ga K "EXPRESSIONS") EXP
def ex10 : PySem.W.Frag → Bool := fun K => He.valsB K (He.ga K "BINDS") BND
def exL : List (PySem.W.Frag → Bool) := [ex0, ex1, ex2, ex3, ex4, ex5, ex6, ex7, ex8, ex9, ex10]
/-- an own error, its __init__ -/
def C0 (K : PySem.W.Frag) (x : Str) : Addr := He.ga K x
def I0 (K : PySem.W.Frag) (x : Str) : Addr := He.ma K (C0 K x) "__init__"
def clsB (K : PySem.W.Frag) (C : Addr) : Bool := match K.lookup C with
  | some ⟨.type t, _, .cls ⟨_, _, .ref C' :: bm, _, _, true, _, _, _, _, false⟩, sl⟩ => decide (t = "type") && (decide (C' = C) && (PySem.HandSPX.refsVE bm && (match sl.toList with
    | [_, _, _, _, some (.builtin n), _] => decide (n = "ValueError.__new__")
    | _ => false)))
  | _ => false
def iniB (prog : Program) (K : PySem.W.Frag) (C : Addr) (q : Str) (fd : FuncData) : Bool := match fd.defaults, fd.kwdefaults, fd.code, fd.closure with
  | .none, .none, .ref cda, [(x, cc)] => decide (x = "__class__") && (PySem.W.codeIn K (.ref cda) q && ((match K.lookup cda with
      | some ⟨_, _, .fields vs, _⟩ => (match (vs[2]? : Option Value) with
        | some (Value.str file _) => (prog.main.file : Str) == file
        | _ => false)
      | _ => false) && (match K.lookup cc with
      | some ⟨_, _, .cell (some (.ref C')), _⟩ => decide (C' = C)
      | _ => false)))
  | _, _, _, _ => false
def exB (prog : Program) (x fld q : Str) : List (PySem.W.Frag → Bool) := [
  fun K => clsB K (C0 K x),
  fun K => He.eqO (PySem.W.findIn K (.ref (C0 K x)) "__setattr__") (some (some (.builtin "object.__setattr__"))),
  fun K => He.eqO (PySem.W.findIn K (.ref (C0 K x)) "__getattribute__") (some (some (.builtin "BaseException.__getattribute__"))),
  fun K => He.eqO (PySem.W.findIn K (.ref (C0 K x)) "__getattr__") (some none),
  fun K => He.eqO (PySem.W.findIn K (.ref (C0 K x)) fld) (some none),
  fun K => He.eqO (PySem.W.findIn K (.ref (C0 K x)) "__init__") (some (some (.ref (I0 K x)))),
  fun K => decide (PySem.W.typeIn K (.ref (I0 K x)) = some (.type "function")),
  fun K => PySem.W.keepIn K (.ref (C0 K x)),
  fun K => decide (PySem.W.subIn K (.ref (C0 K x)) (.type "BaseException") = some true),
  fun K => decide (PySem.W.subIn K (.ref (C0 K x)) (.type "ValueError") = some true),
  fun K => decide (PySem.W.typeIn K (.ref (C0 K x)) = some (.type "type")),
  fun K => PySem.W.hasDictIn K (C0 K x),
  fun K => decide (PySem.W.mroIn K (C0 K x) (.ref (C0 K x)) = some true),
  fun K => He.eqO (PySem.W.ks_superIn K (C0 K x) (C0 K x) "__init__") (some (some (.builtin "ValueError.__init__"))),
  fun K => He.eqO (PySem.W.nsIn K cStatics "thirdparty.any") (some none),
  fun K => match K.lookup (I0 K x) with
    | some ⟨_, _, .func fd, _⟩ => iniB prog K (C0 K x) q fd
    | _ => false]
abbrev FnZ : Type := Option (Str × Str × Arguments × FuncBody × Scope × Addr × Addr)
def fnZ (K : PySem.W.Frag) (x : Str) : FnZ := match K.lookup (I0 K x) with
  | some ⟨_, _, .func fd, _⟩ => some (fd.name, fd.qualname, fd.params, fd.body, fd.scope, fd.globals, fd.builtins)
  | _ => none
def valZ (q : Str) (st : Stmt) : FnZ := some ("__init__", q, defArgs st, .stmts (defBody st), defScope st, mainGlobals, builtinsNs)
def supL : List (Str × Str × Str × Stmt) := [("BadText", "line", "BadText.__init__", s_BadText_init)]
def dicL : List (Str × List Str) := [("STATEMENTS", ["var", "do", "set", "if", "while", "break", "continue", "return", "throw", "try", "say"]), ("EXPRESSIONS", ["number", "text", "true", "false", "nil", "this", "name", "list", "fun", "call", "send", "up", "new", "field", "item", "not", "minus", "ask", "or", "and", "==", "!=", "<", "<=", ">", ">=", "+", "-", "*", "/", "mod"]), ("BINDS", ["or", "and", "==", "!=", "<", "<=", ">", ">=", "+", "-", "*", "/", "mod"])]
def tokB (K : PySem.W.Frag) : Bool := match PySem.W.nsIn K mainGlobals "QUOTE" with
  | some (some (.str z t0)) => decide (z = Sg [34]) && (decide (t0 ≠ 0) && decide (t0 < 400))
  | _ => false
abbrev R : PySem.W.OpenRow := PySem.W.OpenLaw.row PySem.Challenge.rw_unseenheap_k09_whole_texts_joined
def N0 : Nat := 400
/-- what is looked at -/
def lookK (g : Addr → Option Obj) : PySem.W.Frag := He.frT g ((List.range 800).drop 2)
abbrev AlK : Type := (((He.AlD × List FnZ) × Bool) × List (Option (List (Option (Str × Int))))) × Bool
def moreB (g : Addr → Option Obj) (K : PySem.W.Frag) : Bool := (exL.all fun f => f K) && ((supL.all fun p => (exB R.prog p.1 p.2.1 p.2.2.1).all fun f => f K) && (tokB K && He.tabsB g tfL K))
def obsK (g : Addr → Option Obj) : ((He.AlD × List FnZ) × Bool) × List (Option (List (Option (Str × Int)))) := (((He.obsD fa fnL (lookK g), supL.map fun p => fnZ (lookK g) p.1), moreB g (lookK g)), dicL.map fun t => He.dicW (lookK g) (He.ga (lookK g) t.1))
def valK (w : World) : AlK := ((((He.valD fnL, supL.map fun p => valZ p.2.2.1 p.2.2.2), true), dicL.map fun t => some (He.keysIn w.params t.2)), true)
theorem clsB_ok {K : PySem.W.Frag} {C : Addr} (h : clsB K C = true) : ∃ nm q N bs bm sn sub ab col dd k0 k1 k2 k3 k5, K.lookup C = some (excClassObj nm q C N bs bm true sn sub ab col dd k0 k1 k2 k3 k5 "ValueError.__new__") ∧ PySem.HandSPX.refsVE bm = true := by
  unfold clsB at h
  split at h
  · rename_i t od nm bs C' bm N q sn sub ab col sl e
    obtain ⟨h1, h⟩ := He.ba h
    obtain ⟨h2, h⟩ := He.ba h
    obtain ⟨h3, h⟩ := He.ba h
    split at h
    · rename_i k0 k1 k2 k3 n k5 es
      have e1 : t = "type" := of_decide_eq_true h1
      have e2 : C' = C := of_decide_eq_true h2
      have e3 : n = "ValueError.__new__" := of_decide_eq_true h
      subst e1 e2 e3
      refine ⟨nm, q, N, bs, bm, sn, sub, ab, col, od, k0, k1, k2, k3, k5, e.trans ?_, h3⟩
      have e4 : sl = #[k0, k1, k2, k3, some (.builtin "ValueError.__new__"), k5] := by
        rw [← es, Array.toArray_toList] <;> rfl
      rw [e4]
    · cases h
  · cases h
theorem iniB_ok {prog : Program} {K : PySem.W.Frag} {C : Addr} {q : Str} {fd : FuncData} (h : iniB prog K C q fd = true) : fd.defaults = .none ∧ fd.kwdefaults = .none ∧ ∃ (cda cc : Addr) (vs : Array Value) (file : Str) (tf : PySem.Tok) (ccl cl : Value) (cdd cld : Option Addr) (ccs csl : Array (Option Value)),
    fd.code = .ref cda ∧ fd.closure = [(("__class__" : Str), cc)] ∧ PySem.W.codeIn K (.ref cda) q = true ∧ K.lookup cda = some ⟨ccl, cdd, .fields vs, ccs⟩ ∧ vs[2]? = some (.str file tf) ∧ ((prog.main.file : Str) == file) = true ∧ K.lookup cc = some ⟨cl, cld, .cell (some (.ref C)), csl⟩ := by
  unfold iniB at h
  split at h
  · rename_i cda x cc d1 d2 d3 d4
    obtain ⟨h1, h⟩ := He.ba h
    obtain ⟨h2, h⟩ := He.ba h
    obtain ⟨h3, h4⟩ := He.ba h
    have e1 : x = "__class__" := of_decide_eq_true h1
    subst e1
    split at h3
    · rename_i ccl cdd vs ccs e2
      split at h3
      · rename_i file tf e3
        split at h4
        · rename_i cl cld C' csl e4
          have e5 : C' = C := of_decide_eq_true h4
          subst e5
          exact ⟨d1, d2, cda, cc, vs, file, tf, ccl, cl, cdd, cld, ccs, csl, d3, d4, h2, e2, e3, h3, e4⟩
        · cases h4
      · cases h3
    · cases h3
  · cases h
/-- what the head tells -/
structure SaysK (w : World) (h : Heap) (K : PySem.W.Frag) : Prop where
  d : He.SaysD fa fnL K
  z : (supL.map fun p => fnZ K p.1) = supL.map fun p => valZ p.2.2.1 p.2.2.2
  ex : (exL.all fun f => f K) = true
  eb : (supL.all fun p => (exB R.prog p.1 p.2.1 p.2.2.1).all fun f => f K) = true
  tk : tokB K = true
  dc : (dicL.map fun t => He.dicW K (He.ga K t.1)) = dicL.map fun t => some (He.keysIn w.params t.2)
  tabs : ∀ p ∈ tfL, PySem.W.codeHdIn K (He.cT K p).1 (He.cT K p).2 = true ∧ K.lookup (He.cT K p).2 = none ∧ h.get? (He.cT K p).2 = some EndG.tabO
theorem saysK_of {w : World} {h : Heap} (e0 : obsK h.get? = (valK w).1) : SaysK w h (lookK h.get?) := by
  have e : (obsK h.get?).1 = (valK w).1.1 := congrArg (fun z : ((He.AlD × List FnZ) × Bool) × List (Option (List (Option (Str × Int)))) => z.1) e0
  have e2 : ((exL.all fun f => f (lookK h.get?)) && ((supL.all fun p => (exB R.prog p.1 p.2.1 p.2.2.1).all fun f => f (lookK h.get?)) && (tokB (lookK h.get?) && He.tabsB h.get? tfL (lookK h.get?)))) = true := congrArg (fun z : (He.AlD × List FnZ) × Bool => z.2) e
  obtain ⟨a, b⟩ := He.ba e2
  obtain ⟨b, c⟩ := He.ba b
  obtain ⟨t, c⟩ := He.ba c
  refine ⟨congrArg (fun z : (He.AlD × List FnZ) × Bool => z.1.1) e, congrArg (fun z : (He.AlD × List FnZ) × Bool => z.1.2) e, a, b, t, congrArg (fun z : ((He.AlD × List FnZ) × Bool) × List (Option (List (Option (Str × Int)))) => z.2) e0, fun p hp => ?_⟩
  obtain ⟨c1, c2⟩ := He.ba (List.all_eq_true.mp c p hp)
  split at c2
  · rename_i o q
    exact ⟨c1, He.frT_none q c2, q.trans (congrArg some (He.emptyTab_eq c2))⟩
  · cases c2
def hkK : PySem.W.Hook where
  α := AlK
  obs := fun s => (obsK s.heap.get?, decide (N0 ≤ s.toks))
  val := fun w => valK w
  says := fun w h => ∃ K : PySem.W.Frag, K.In h ∧ SaysK w h K
  of := fun _ _ e => ⟨_, He.frT_in, saysK_of (congrArg (fun z : AlK => z.1) e)⟩
  keeps := fun _ _ _ ⟨K, hK, c⟩ k => ⟨K, PySem.W.Frag.In.keeps hK k, { c with tabs := fun p hp => let ⟨x, y, z⟩ := c.tabs p hp; ⟨x, y, k _ _ z⟩ }⟩
def obK (s : PySem.W.SharedT) : AlK := (obsK (HandSHeadRun.getT s), decide (N0 ≤ s.toks))
theorem obK_eq (s : PySem.W.SharedT) : obK s = hkK.obs s.abs := congrArg (fun g => ((obsK g, decide (N0 ≤ s.toks)) : AlK)) (funext (HandSHeadRun.getT_eq s))
def names : List Str := (["__name__", "HeapError", "BadText", "NoText", "TooDeep", "KEYS", "PAIRS", "MARKS", "FIGURES", "LETTERS", "MOST_NAME", "MOST_FIGURES", "MOST_NUMBER", "QUOTE", "SIGNS", "is_name", "is_number_word", "stretch_end", "line_end", "are_signs"] : List Str) ++
  (["text_end", "note_end", "stretch_word", "word_from", "words", "STATEMENTS", "EXPRESSIONS", "ASKS", "PLACES", "MOST_DEEP", "parts_of", "within", "statements_of", "first_layer", "next_layer", "raw_depth", "OPENING", "CLOSING", "MOST_OPEN", "BINDS"] : List Str) ++
  (["Reader", "WITH_E", "ALONE", "NOT", "BESIDE", "MINUS", "read_args", "read_params", "read_block", "read_ask", "read_keyed", "read_first", "read_message", "read_behind", "put_together", "read_ahead", "read_e", "read_plain", "read_short", "read_statement"] : List Str) ++
  (["read_class", "read_item", "read", "_law_flow", "_law_more", "_law_draw", "_law_same", "_law_name", "_law_atom", "_law_some", "_law_called", "_law_e", "_law_rows", "_law_row", "_law_item", "_law_asked", "_law_text", "_law_spelled", "_law_long"] : List Str)
theorem runF (w : World) : HandSHeadRun.RunEq R (PySem.W.view R.prog [84]) hkK obK 12000 names (w.withFollow "special-get-raises" false) := by
  intro os
  kernel_rfl
theorem runT (w : World) : HandSHeadRun.RunEq R (PySem.W.view R.prog [84]) hkK obK 12000 names (w.withFollow "special-get-raises" true) := by
  intro os
  kernel_rfl
theorem run (w : World) : HandSHeadRun.RunEq R (PySem.W.view R.prog [84]) hkK obK 12000 names w := PySem.W.byRow2 "special-get-raises" (P := fun w => HandSHeadRun.RunEq R (PySem.W.view R.prog [84]) hkK obK 12000 names w) runF runT w
end K09
namespace K01
open PySem L2
abbrev s_note_end : Stmt := top 22
abbrev N_note_end : List Str := ["text", "at", "line", "end"]
abbrev P_note_end : List Str := ["text", "at", "line"]
theorem sc_note_end : FnScope N_note_end P_note_end (defScope s_note_end) := ⟨rfl, rfl, rfl, by decide +kernel, rfl, by decide +kernel, by decide +kernel⟩
abbrev s_stretch_word : Stmt := top 23
abbrev N_stretch_word : List Str := ["word", "line"]
abbrev P_stretch_word : List Str := ["word", "line"]
theorem sc_stretch_word : FnScope N_stretch_word P_stretch_word (defScope s_stretch_word) := ⟨rfl, rfl, rfl, by decide +kernel, rfl, by decide +kernel, by decide +kernel⟩
structure Txc (P : Program) (K : PySem.W.Frag) (mg : Str → Option Value) : Prop extends Txa K mg where
  e_BadText : PySem.SupXBadText.SupTxt P K mg (He.ga K "BadText") (He.ma K (He.ga K "BadText") "__init__")
  e_NoText : ErrTxt K mg "NoText" (He.ga K "NoText")
def Bads (K : PySem.W.Frag) (E : XK) (H : Hp) (l : Int) : Prop := ∀ d, H d = none → E (.ref (He.ga K "BadText")) (some d) (upd H d (.xd [(("line" : Str), V.int l)]))
def spNoteEnd (K : PySem.W.Frag) : Sp := fun vs H Q E => ∃ (t : List Nat) (a : Nat) (l : Int), vs = [.str (Sg t), .int a, .int l] ∧ t.length ≤ big ∧ a ≤ t.length ∧ ∀ H', Same H H' →
  if (upTo 10 (t.drop a)).all isS = true then Q (.int ((a + (upTo 10 (t.drop a)).length : Nat) : Int)) H' else Bads K E H' l
def stretchTok (w : List Nat) : Option (Str × V) := if keyB w = true then some ("key", .str (Sg w)) else if nameB w = true then some (("name" : Str), V.str (Sg w)) else if numB w = true then some (("number" : Str), V.int (valW w)) else none
def spStretch (K : PySem.W.Frag) : Sp := fun vs H Q E => ∃ (x : List Nat) (l : Int), vs = [.str (Sg x), .int l] ∧ x.length ≤ big ∧ ∀ H', Same H H' → match stretchTok x with
  | some (s, v) => ∀ p, H' p = none → Q (.ref p) (upd H' p (.tup [.str s, v]))
  | none => Bads K E H' l
theorem take_upTo (t : List Nat) (c : Nat) : t.take (upTo c t).length = upTo c t := by
  unfold L2.upTo
  induction t with
  | nil => rfl
  | cons x r ih =>
    rw [List.takeWhile_cons]
    split
    · rw [List.length_cons, List.take_succ_cons, ih]
    · rfl
theorem upTo_le (t : List Nat) (c : Nat) : (upTo c t).length ≤ t.length := by
  rw [← take_upTo t c, List.length_take]
  omega
section
variable {P : Program} {w : World} {K : PySem.W.Frag} {mg : Str → Option Value} {base : Heap}
theorem ok_note_end (T : Txc P K mg) {f : Addr} {fd : FuncData} (F : FnP K "note_end" s_note_end f fd) (D_line_end : Cal P w K mg base CX0 1 "line_end" P_line_end spLineEnd) (D_are_signs : Cal P w K mg base CX0 1 "are_signs" P_are_signs spSigns) :
    FnOk P w K mg base (L2.CX P w) 2 f fd P_note_end (spNoteEnd K) := by
  refine F.ok sc_note_end (fun vs H Q E h => ?_) (fun cdv A outer s H vs Q E hr h => ?_)
  · obtain ⟨t, a, l, rfl, _⟩ := h
    rfl
  · obtain ⟨t, a, l, rfl, hz, ha, q⟩ := h
    refine ⟨_, (pss_cons (ps_set (i := 3) sc_note_end.nd rfl (Or.inl rfl) (pe_cal D_line_end hr rfl rfl pass0 (pa_cons (pv 0) (pa_cons (pv 1) pa_nil))))
  (pss_cons (ps_if (pt_not (pt_val (pe_cal D_are_signs hr rfl rfl pass0 (pa_cons (pe_slice sl_str (pv 0) (po_some (pv 1)) (po_some (pv 3))) pa_nil)))) (pss_one (ps_raiseBadText rfl T.e_BadText hr (takes_of rfl rfl rfl rfl) (pa_cons (pv 2) pa_nil))) pss_nil)
  (pss_one (ps_ret (pv 3))))), ?_⟩
    walk_at "w"
    refine ⟨t, a, rfl, hz, ha, ?_⟩
    walk_at "w"
    have e : (t.drop a).take (a + (upTo 10 (t.drop a)).length - a) = upTo 10 (t.drop a) := by
      rw [Nat.add_sub_cancel_left, take_upTo]
    rw [e]
    have hb : (upTo 10 (t.drop a)).length ≤ big := Nat.le_trans (upTo_le _ _) (by rw [List.length_drop]; omega)
    refine ⟨_, rfl, hb, fun H' s' => ?_⟩
    have q1 := q H' s'
    walk_at "w"
    cases hs : (upTo 10 (t.drop a)).all isS with
    | true =>
      rw [hs, if_pos rfl] at q1
      refine w_nt ?_
      walk_at "w"
      exact q1
    | false =>
      rw [hs, if_neg Bool.false_ne_true] at q1
      refine w_nf ?_
      exact ⟨_, rfl, _, rfl, fun d hd => q1 d hd⟩
theorem ok_stretch_word (T : Txc P K mg) {f : Addr} {fd : FuncData} (F : FnP K "stretch_word" s_stretch_word f fd) (D_is_name : Cal P w K mg base CX0 1 "is_name" P_is_name spIsName) (D_is_number_word : Cal P w K mg base CX0 1 "is_number_word" P_is_number_word spNum) :
    FnOk P w K mg base (L2.CX P w) 2 f fd P_stretch_word (spStretch K) := by
  refine F.ok sc_stretch_word (fun vs H Q E h => ?_) (fun cdv A outer s H vs Q E hr h => ?_)
  · obtain ⟨x, l, rfl, _⟩ := h
    rfl
  · obtain ⟨x, l, rfl, hz, q⟩ := h
    refine ⟨_, (pss_cons (ps_if (pt_cmpR op_in_seq (pv 0) (pe_gr T.g_KEYS) (by rfl)) (pss_one (ps_ret (pe_tup (pa_cons pe_str (pa_cons (pv 0) pa_nil))))) pss_nil)
  (pss_cons (ps_if (pt_val (pe_cal D_is_name hr rfl rfl pass0 (pa_cons (pv 0) pa_nil))) (pss_one (ps_ret (pe_tup (pa_cons pe_str (pa_cons (pv 0) pa_nil))))) pss_nil)
  (pss_cons (ps_if (pt_not (pt_val (pe_cal D_is_number_word hr rfl rfl pass0 (pa_cons (pv 0) pa_nil)))) (pss_one (ps_raiseBadText rfl T.e_BadText hr (takes_of rfl rfl rfl rfl) (pa_cons (pv 1) pa_nil))) pss_nil)
  (pss_one (ps_ret (pe_tup (pa_cons pe_str (pa_cons (pe_callTy call_intS (by rfl) T.f_int (by decide +kernel) (pa_cons (pv 0) pa_nil)) pa_nil)))))))), ?_⟩
    have n1 : stretchTok x = if keyB x = true then some (("key" : Str), V.str (Sg x)) else if nameB x = true then some (("name" : Str), V.str (Sg x)) else if numB x = true then some (("number" : Str), V.int (valW x)) else none := rfl
    walk_at "w"
    refine w_inK (T.t_KEYS H) ?_
    walk_at "w"
    refine w_2 (fun h1 => ?_) (fun h1 => ?_)
    · rw [if_pos (show keyB x = true from h1)] at n1
      have q1 := q H (Same.refl H)
      rw [n1] at q1
      walk_at "w"
      exact ⟨by show 2 ≤ sizeLine; decide, fun p hp => q1 p hp⟩
    · rw [if_neg (show ¬ keyB x = true by rw [show keyB x = false from h1]; exact Bool.false_ne_true)] at n1
      walk_at "w"
      refine ⟨x, rfl, hz, fun H1 s1 => ?_⟩
      walk_at "w"
      refine w_2 (fun h2 => ?_) (fun h2 => ?_)
      · rw [if_pos h2] at n1
        have q1 := q H1 s1
        rw [n1] at q1
        walk_at "w"
        exact ⟨by show 2 ≤ sizeLine; decide, fun p hp => q1 p hp⟩
      · rw [if_neg (by rw [h2]; exact Bool.false_ne_true)] at n1
        walk_at "w"
        refine ⟨x, rfl, hz, fun H2 s2 => ?_⟩
        have q1 := q H2 (s1.trans s2)
        walk_at "w"
        cases h3 : numB x with
        | true =>
          rw [if_pos h3] at n1
          rw [n1] at q1
          refine w_nt ?_
          walk_at "w"
          have z := h3
          unfold numB at z
          simp only [Bool.and_eq_true, decide_eq_true_eq] at z
          refine ⟨Sg x, valW x, rfl, int_digits z.2.2.1 z.1 z.2.1, by rw [Sg_len]; omega, ?_⟩
          walk_at "w"
          exact ⟨by show 2 ≤ sizeLine; decide, fun p hp => q1 p hp⟩
        | false =>
          rw [if_neg (by rw [h3]; exact Bool.false_ne_true)] at n1
          rw [n1] at q1
          refine w_nf ?_
          exact ⟨_, rfl, _, rfl, fun d hd => q1 d hd⟩
end
end K01
namespace K01
open PySem L2
abbrev s_word_from : Stmt := top 24
abbrev N_word_from : List Str := ["text", "at", "line", "end"]
abbrev P_word_from : List Str := ["text", "at", "line"]
theorem sc_word_from : FnScope N_word_from P_word_from (defScope s_word_from) := ⟨rfl, rfl, rfl, by decide +kernel, rfl, by decide +kernel, by decide +kernel⟩
structure Txd (n : Nat) (P : Program) (K : PySem.W.Frag) (mg : Str → Option Value) : Prop extends Txc P K mg where
  q : ∃ t0 : Tok, mg "QUOTE" = some (.str (Sg [34]) t0) ∧ t0 ≠ 0 ∧ t0 < n
theorem take_stretch (t : List Nat) : t.take (stretch t).length = stretch t := by
  unfold stretch
  induction t with
  | nil => rfl
  | cons x r ih =>
    rw [List.takeWhile_cons]
    split
    · rw [List.length_cons, List.take_succ_cons, ih]
    · rfl
theorem stretch_le (t : List Nat) : (stretch t).length ≤ t.length := by
  rw [← take_stretch t, List.length_take]
  omega
/-- the word ahead: its sort, its worth, how many signs it has -/
def wordAt (u : List Nat) : Option (Str × V × Nat) := if (stretch u).length = 0 then (match u with
  | [] => none
  | c :: r => if c = 34 then (qEnd r).map fun k => (("text" : Str), V.str (Txt.replace (Sg (r.take k)) (Sg [34] ++ Sg [34]) (Sg [34])), k + 2)
    else if pairB ((c :: r).take 2) = true then some (("mark" : Str), V.str (Sg ((c :: r).take 2)), 2) else if isM c = true then some (("mark" : Str), V.str (Sg [c]), 1) else none)
  else (stretchTok (stretch u)).map fun p => (p.1, p.2, (stretch u).length)
def spWordFrom (K : PySem.W.Frag) : Sp := fun vs H Q E => ∃ (t : List Nat) (a : Nat) (l : Int), vs = [.str (Sg t), .int a, .int l] ∧ t.length ≤ big ∧ a < t.length ∧ ∀ H', Same H H' → match wordAt (t.drop a) with
  | some (s, v, k) => ∀ p, H' p = none → Q (.ref p) (upd H' p (.tup [.str s, v, .int ((a + k : Nat) : Int)]))
  | none => Bads K E H' l
section
variable {P : Program} {w : World} {K : PySem.W.Frag} {mg : Str → Option Value} {base : Heap} {n : Nat}
theorem ok_word_from (T : Txd n P K mg) {f : Addr} {fd : FuncData} (F : FnP K "word_from" s_word_from f fd) (D_stretch_end : Cal P w K mg base CX0 1 "stretch_end" P_stretch_end spStretchEnd) (D_text_end : Cal P w K mg base CX0 1 "text_end" P_text_end spTextEnd)
    (D_stretch_word : Cal P w K mg base (L2.CX P w) 2 "stretch_word" P_stretch_word (spStretch K)) : FnN n P w K mg base (L2.CX P w) 3 f fd P_word_from (spWordFrom K) := by
  obtain ⟨t0, hq, q0, q1⟩ := T.q
  refine F.okN sc_word_from (fun vs H Q E h => ?_) (fun cdv A outer s H vs Q E hr h => ?_)
  · obtain ⟨t, a, l, rfl, _⟩ := h
    rfl
  · obtain ⟨t, a, l, rfl, hz, ha, q⟩ := h
    refine ⟨_, (pssn_cons (psn_of (ps_set (i := 3) sc_word_from.nd rfl (Or.inl rfl) (pe_cal D_stretch_end hr rfl rfl pass0 (pa_cons (pv 0) (pa_cons (pv 1) pa_nil)))))
  (pssn_cons (psn_of (ps_if (pt_cmpR op_gt (pv 3) (pv 1) (nomark _)) (pss_one (ps_ret (pe_op op_catT (pe_calS D_stretch_word hr rfl rfl (takes_of rfl rfl rfl rfl) (pa_cons (pe_slice sl_str (pv 0) (po_some (pv 1)) (po_some (pv 3))) (pa_cons (pv 2) pa_nil))) (pe_tup (pa_cons (pv 3) pa_nil))))) pss_nil))
  (pssn_cons (psn_if (ptn_of (pt_cmpR op_eq (pe_ix ix_str (pv 0) (pv 1) (fun _ _ => rfl)) (pe_gs T.g_QUOTE) (nomark _))) (pssn_cons (psn_of (ps_set (i := 3) sc_word_from.nd rfl (Or.inl rfl) (pe_cal D_text_end hr rfl rfl pass0 (pa_cons (pv 0) (pa_cons (pv 1) pa_nil)))))
  (pssn_cons (psn_of (ps_if (pt_cmp (pc_isN (pv 3)) rfl) (pss_one (ps_raiseBadText rfl T.e_BadText hr (takes_of rfl rfl rfl rfl) (pa_cons (pv 2) pa_nil))) pss_nil))
  (pssn_one (psn_ret (pen_tup (pan_cons (pen_of pe_str) (pan_cons (pen_repG (pen_of (pe_slice sl_str (pv 0) (po_some (pe_op op_add (pv 1) pe_int)) (po_some (pv 3)))) rfl hq q0 q1 (by decide +kernel) (by decide +kernel) (by decide +kernel)) (pan_cons (pen_of (pe_op op_add (pv 3) pe_int)) (pan_of pa_nil))))))))) pssn_nil)
  (pssn_cons (psn_of (ps_if (pt_cmpR op_in_seq (pe_slice sl_str (pv 0) (po_some (pv 1)) (po_some (pe_op op_add (pv 1) pe_int))) (pe_gr T.g_PAIRS) (by rfl)) (pss_one (ps_ret (pe_tup (pa_cons pe_str (pa_cons (pe_slice sl_str (pv 0) (po_some (pv 1)) (po_some (pe_op op_add (pv 1) pe_int))) (pa_cons (pe_op op_add (pv 1) pe_int) pa_nil)))))) pss_nil))
  (pssn_cons (psn_of (ps_if (pt_cmpR op_notInSg (pe_ix ix_str (pv 0) (pv 1) (fun _ _ => rfl)) (pe_gs T.g_MARKS) (by rfl)) (pss_one (ps_raiseBadText rfl T.e_BadText hr (takes_of rfl rfl rfl rfl) (pa_cons (pv 2) pa_nil))) pss_nil))
  (pssn_one (psn_of (ps_ret (pe_tup (pa_cons pe_str (pa_cons (pe_ix ix_str (pv 0) (pv 1) (fun _ _ => rfl)) (pa_cons (pe_op op_add (pv 1) pe_int) pa_nil)))))))))))), ?_⟩
    obtain ⟨c, hc⟩ := at_lt ha
    have dr := drop_at hc
    have qn := q H (Same.refl H)
    walk_at "w"
    refine ⟨t, a, rfl, hz, Nat.le_of_lt ha, ?_⟩
    walk_at "w"
    have n1 : wordAt (t.drop a) = if (stretch (t.drop a)).length = 0 then _ else (stretchTok (stretch (t.drop a))).map fun p => (p.1, p.2, (stretch (t.drop a)).length) := rfl
    refine w_2 (fun h1 => ?_) (fun h1 => ?_)
    · have h1 : (stretch (t.drop a)).length ≠ 0 := by
        have z := of_decide_eq_true h1
        omega
      rw [if_neg h1] at n1
      walk_at "w"
      rw [Nat.add_sub_cancel_left, take_stretch]
      refine ⟨stretch (t.drop a), l, rfl, Nat.le_trans (stretch_le _) (by rw [List.length_drop]; omega), fun H1 s1 => ?_⟩
      cases hs : stretchTok (stretch (t.drop a)) with
      | none =>
        rw [hs] at n1
        have q1 := q H1 s1
        rw [n1] at q1
        exact fun d hd => q1 d hd
      | some sv =>
        obtain ⟨s, v⟩ := sv
        rw [hs] at n1
        intro p hp
        walk_at "w"
        refine ⟨by show 1 ≤ sizeLine; decide, fun p2 hp2 => ?_⟩
        have s2 := s1.trans (sameUpd (o := .tup [.str s, v]) hp)
        have s3 := s2.trans (sameUpd (o := .tup [.int ((a + (stretch (t.drop a)).length : Nat) : Int)]) hp2)
        have hne : p ≠ p2 := ne_of_none (upd_same (H := H1) (a := p) (o := .tup [.str s, v])) hp2
        refine ⟨p, p2, [.str s, v], [.int ((a + (stretch (t.drop a)).length : Nat) : Int)], rfl, rfl, .of ?_, .of upd_same, by simp, by show 3 ≤ sizeLine; decide, (fun e => nomatch e), fun _ p3 hp3 => ?_⟩
        · rw [upd_ne hne]
          exact upd_same
        · have q1 := q _ s3
          rw [n1] at q1
          exact q1 p3 hp3
    · have h1 : (stretch (t.drop a)).length = 0 := by
        have z := of_decide_eq_false h1
        omega
      have n1 : wordAt (t.drop a) = if c = 34 then (qEnd (t.drop (a + 1))).map fun k => (("text" : Str), V.str (Txt.replace (Sg ((t.drop (a + 1)).take k)) (Sg [34] ++ Sg [34]) (Sg [34])), k + 2)
          else if pairB ((t.drop a).take 2) = true then some (("mark" : Str), V.str (Sg ((t.drop a).take 2)), 2) else if isM c = true then some (("mark" : Str), V.str (Sg [c]), 1) else none := by
        unfold wordAt
        rw [if_pos h1, dr]
      walk_at "w"
      refine w_eq rfl ?_
      rw [strEq]
      walk_at "w"
      refine w_2 (fun h2 => ?_) (fun h2 => ?_)
      · obtain rfl : c = 34 := by
          have z := of_decide_eq_true h2
          injection z
        rw [if_pos rfl] at n1
        walk_at "w"
        refine ⟨t, a, rfl, hz, ha, ?_⟩
        walk_at "w"
        cases hk : qEnd (t.drop (a + 1)) with
        | none =>
          rw [hk] at n1
          rw [n1] at qn
          rw [show oI (Option.map (a + 1 + ·) none) = V.non from rfl, decide_eq_true (rfl : V.non = V.non)]
          refine w_t ?_
          exact ⟨_, rfl, _, rfl, fun d hd => qn d hd⟩
        | some k =>
          rw [hk] at n1
          rw [n1] at qn
          rw [show oI (Option.map (a + 1 + ·) (some k)) = V.int ((a + 1 + k : Nat) : Int) from rfl, decide_eq_false (fun z : V.int ((a + 1 + k : Nat) : Int) = V.non => by cases z)]
          walk_at "w"
          refine w_slSg (a := a + 1) (b := a + 1 + k) hz ?_
          rw [Nat.add_sub_cancel_left]
          refine ⟨_, rfl, ?_, ?_⟩
          · rw [Sg_len, Sg_len, List.length_take, List.length_drop]
            have : big = 200000 := rfl
            show min k (t.length - (a + 1)) + (min k (t.length - (a + 1)) + 1) * 1 ≤ 16777216
            omega
          · walk_at "w"
            refine ⟨by show 3 ≤ sizeLine; decide, fun p hp => ?_⟩
            have z := qn p hp
            rw [show (((a + (k + 2) : Nat) : Nat) : Int) = ((a + 1 + k : Nat) : Int) + 1 by omega] at z
            exact z
      · have h2 : c ≠ 34 := fun z => by
          have y := of_decide_eq_false h2
          rw [z] at y
          exact y rfl
        rw [if_neg h2] at n1
        walk_at "w"
        refine w_slSg (a := a) (b := a + 2) hz ?_
        rw [Nat.add_sub_cancel_left]
        walk_at "w"
        refine w_inK (T.t_PAIRS H) ?_
        walk_at "w"
        refine w_2 (fun h3 => ?_) (fun h3 => ?_)
        · rw [if_pos (show pairB ((t.drop a).take 2) = true from h3)] at n1
          rw [n1] at qn
          walk_at "w"
          refine w_slSg (a := a) (b := a + 2) hz ?_
          rw [Nat.add_sub_cancel_left]
          walk_at "w"
          exact ⟨by show 3 ≤ sizeLine; decide, fun p hp => qn p hp⟩
        · rw [if_neg (show ¬ pairB ((t.drop a).take 2) = true by rw [show pairB ((t.drop a).take 2) = false from h3]; exact Bool.false_ne_true)] at n1
          walk_at "w"
          refine w_2 (fun h4 => ?_) (fun h4 => ?_)
          · rw [if_neg (show ¬ isM c = true by rw [show isM c = false from (Bool.not_eq_true' _).mp h4]; exact Bool.false_ne_true)] at n1
            rw [n1] at qn
            exact ⟨_, rfl, _, rfl, fun d hd => qn d hd⟩
          · rw [if_pos (show isM c = true from (Bool.not_eq_false' ..).mp h4)] at n1
            rw [n1] at qn
            walk_at "w"
            exact ⟨by show 3 ≤ sizeLine; decide, fun p hp => qn p hp⟩
end
end K01
namespace K01
open PySem L2
abbrev s_words : Stmt := top 25
abbrev N_words : List Str := ["text", "found", "at", "line", "sort", "word"]
abbrev P_words : List Str := ["text"]
theorem sc_words : FnScope N_words P_words (defScope s_words) := ⟨rfl, rfl, rfl, by decide +kernel, rfl, by decide +kernel, by decide +kernel⟩
structure Tok where
  s : Str
  v : V
  l : Int
abbrev Res := Except Int (List Tok)
def Res.cons (k : Tok) : Res → Res
  | .ok ts => .ok (k :: ts)
  | .error n => .error n
def Res.app (d : List Tok) : Res → Res
  | .ok ts => .ok (d ++ ts)
  | .error n => .error n
theorem Res.app_cons (d : List Tok) (k : Tok) (r : Res) : Res.app d (Res.cons k r) = Res.app (d ++ [k]) r := by
  cases r with
  | error n => rfl
  | ok ts =>
    show Except.ok (d ++ k :: ts) = Except.ok (d ++ [k] ++ ts)
    rw [List.append_assoc] <;> rfl
/-- a text's words, from a line on -/
inductive Lex : List Nat → Int → Res → Prop
  | nil {l : Int} : Lex [] l (.ok [])
  | note {u : List Nat} {l : Int} {r : Res} (h : (upTo 10 (35 :: u)).all isS = true) (k : Lex ((35 :: u).drop (upTo 10 (35 :: u)).length) l r) : Lex (35 :: u) l r
  | noteBad {u : List Nat} {l : Int} (h : (upTo 10 (35 :: u)).all isS = false) : Lex (35 :: u) l (.error l)
  | blank {u : List Nat} {l : Int} {r : Res} (k : Lex u l r) : Lex (32 :: u) l r
  | line {u : List Nat} {l : Int} {r : Res} (k : Lex u (l + 1) r) : Lex (10 :: u) l r
  | tok {c : Nat} {u : List Nat} {l : Int} {s : Str} {v : V} {k : Nat} {r : Res} (h1 : c ≠ 35) (h2 : c ≠ 32) (h3 : c ≠ 10) (h : wordAt (c :: u) = some (s, v, k)) (n : Lex ((c :: u).drop k) l r) : Lex (c :: u) l (Res.cons ⟨s, v, l⟩ r)
  | bad {c : Nat} {u : List Nat} {l : Int} (h1 : c ≠ 35) (h2 : c ≠ 32) (h3 : c ≠ 10) (h : wordAt (c :: u) = none) : Lex (c :: u) l (.error l)
def TokAt (H : Hp) (x : V) (k : Tok) : Prop := ∃ p, x = .ref p ∧ H p = some (.tup [.str k.s, k.v, .int k.l])
inductive Toks (H : Hp) : List V → List Tok → Prop
  | nil : Toks H [] []
  | cons {x : V} {k : Tok} {xs : List V} {ks : List Tok} : TokAt H x k → Toks H xs ks → Toks H (x :: xs) (k :: ks)
theorem Toks.snoc {H : Hp} {x : V} {k : Tok} : ∀ {xs : List V} {ks : List Tok}, Toks H xs ks → TokAt H x k → Toks H (xs ++ [x]) (ks ++ [k])
  | _, _, .nil, h => .cons h .nil
  | _, _, .cons a r, h => .cons a (r.snoc h)
theorem Toks.length {H : Hp} : ∀ {xs : List V} {ks : List Tok}, Toks H xs ks → xs.length = ks.length
  | _, _, .nil => rfl
  | _, _, .cons _ r => by rw [List.length_cons, List.length_cons, r.length]
theorem TokAt.mono {H H' : Hp} {x : V} {k : Tok} (s : ∀ p xs, H p = some (.tup xs) → H' p = some (.tup xs)) : TokAt H x k → TokAt H' x k := fun ⟨p, e, h⟩ => ⟨p, e, s _ _ h⟩
theorem Toks.mono {H H' : Hp} (s : ∀ p xs, H p = some (.tup xs) → H' p = some (.tup xs)) : ∀ {xs : List V} {ks : List Tok}, Toks H xs ks → Toks H' xs ks
  | _, _, .nil => .nil
  | _, _, .cons a r => .cons (a.mono s) (r.mono s)
def TokL (H : Hp) (a : Addr) (ks : List Tok) : Prop := ∃ xs, H a = some (.lst xs) ∧ Toks H xs ks
def spWords (K : PySem.W.Frag) : Sp := fun vs H Q E => (∃ v, vs = [v] ∧ Kn H v ∧ isSt v = false ∧ E (.ref (He.ga K "NoText")) none H) ∨
  ∃ (t : List Nat) (r : Res), vs = [.str (Sg t)] ∧ t.length ≤ big ∧ Lex t 1 r ∧ ∀ H', Same H H' → match r with
    | .ok ks => ∀ a, H a = none → TokL H' a ks → Q (.ref a) H'
    | .error l => Bads K E H' l
theorem stretchTok_some {w : List Nat} {s : Str} {v : V} (h : stretchTok w = some (s, v)) : True := trivial
theorem wordAt_pos {u : List Nat} {s : Str} {v : V} {k : Nat} (h : wordAt u = some (s, v, k)) : 0 < k := by
  unfold wordAt at h
  split at h
  · split at h
    · cases h
    · split at h
      · obtain ⟨j, _, e⟩ := Option.map_eq_some_iff.mp h
        have e2 : j + 2 = k := congrArg (fun z : Str × V × Nat => z.2.2) e
        omega
      · split at h
        · have e2 : 2 = k := congrArg (fun z : Str × V × Nat => z.2.2) (Option.some.inj h)
          omega
        · split at h
          · have e2 : 1 = k := congrArg (fun z : Str × V × Nat => z.2.2) (Option.some.inj h)
            omega
          · cases h
  · obtain ⟨p, _, e⟩ := Option.map_eq_some_iff.mp h
    have e2 : (stretch u).length = k := congrArg (fun z : Str × V × Nat => z.2.2) e
    omega
theorem qEnd_lt : ∀ (n : Nat) (r : List Nat) (k : Nat), r.length ≤ n → qEnd r = some k → k < r.length
  | _, [], k, _, h => by
    unfold qEnd at h
    cases h
  | 0, _ :: _, _, hn, _ => absurd hn (Nat.not_succ_le_zero _)
  | n + 1, [c], k, hn, h => by
    unfold qEnd at h
    split at h
    · split at h
      · obtain rfl := Option.some.inj h
        exact Nat.succ_pos _
      · cases h
    · cases h
  | n + 1, c :: d :: r, k, hn, h => by
    rw [qEnd] at h
    have hn : r.length + 1 ≤ n := by
      have : (c :: d :: r).length = r.length + 2 := rfl
      omega
    split at h
    · split at h
      · split at h
        · obtain ⟨j, hj, rfl⟩ := Option.map_eq_some_iff.mp h
          have := qEnd_lt n r j (by omega) hj
          show j + 2 < r.length + 2
          omega
        · obtain rfl := Option.some.inj h
          exact Nat.succ_pos _
      · obtain ⟨j, hj, rfl⟩ := Option.map_eq_some_iff.mp h
        have := qEnd_lt n (d :: r) j hn hj
        show j + 1 < r.length + 2
        have e : (d :: r).length = r.length + 1 := rfl
        omega
    · cases h
theorem pair_len {w : List Nat} (h : pairB w = true) : w.length = 2 := by
  unfold pairB inV at h
  rw [List.any_eq_true] at h
  obtain ⟨y, hy, e⟩ := h
  obtain ⟨z, hz, rfl⟩ := List.mem_map.mp hy
  have e : (z == Sg w) = true := e
  have e2 : z = Sg w := beq_iff_eq.mp e
  have e3 : z.length = 2 := (by decide +kernel : ∀ z ∈ PAIRS, z.length = 2) z hz
  rw [e2, Sg_len] at e3
  exact e3
theorem wordAt_le {u : List Nat} {s : Str} {v : V} {k : Nat} (h : wordAt u = some (s, v, k)) : k ≤ u.length := by
  unfold wordAt at h
  split at h
  · split at h
    · cases h
    · rename_i c r _
      split at h
      · obtain ⟨j, hj, e⟩ := Option.map_eq_some_iff.mp h
        have e2 : j + 2 = k := congrArg (fun z : Str × V × Nat => z.2.2) e
        have := qEnd_lt _ r j (Nat.le_refl _) hj
        show k ≤ r.length + 1
        omega
      · split at h
        · rename_i hp
          have e2 : 2 = k := congrArg (fun z : Str × V × Nat => z.2.2) (Option.some.inj h)
          have := pair_len hp
          rw [List.length_take] at this
          omega
        · split at h
          · have e2 : 1 = k := congrArg (fun z : Str × V × Nat => z.2.2) (Option.some.inj h)
            show k ≤ r.length + 1
            omega
          · cases h
  · obtain ⟨p, _, e⟩ := Option.map_eq_some_iff.mp h
    have e2 : (stretch u).length = k := congrArg (fun z : Str × V × Nat => z.2.2) e
    have := stretch_le u
    omega
/-- the state of the loop -/
def Wst (t : List Nat) (r0 : Res) (H0 : Hp) (D : Addr) (m : Nat) (σ : L2.St) (H : Hp) : Prop := ∃ (b : Nat) (l : Int) (x4 x5 : Option V) (xs : List V) (ks : List Tok) (r : Res), m = t.length - b ∧ σ = [some (.str (Sg t)), some (.ref D), some (.int b), some (.int l), x4, x5] ∧ b ≤ t.length ∧ Same H0 H ∧
  H D = some (.lst xs) ∧ Toks H xs ks ∧ ks.length ≤ b ∧ Lex (t.drop b) l r ∧ Res.app ks r = r0
section
variable {P : Program} {w : World} {K : PySem.W.Frag} {mg : Str → Option Value} {base : Heap} {n : Nat}
theorem ok_words (T : Txd n P K mg) {f : Addr} {fd : FuncData} (F : FnP K "words" s_words f fd) (D_note_end : Cal P w K mg base (L2.CX P w) 2 "note_end" P_note_end (spNoteEnd K))
    (D_word_from : CalN n P w K mg base (L2.CX P w) 3 "word_from" P_word_from (spWordFrom K)) : FnN n P w K mg base (L2.CX P w) 4 f fd P_words (spWords K) := by
  refine F.okN sc_words (fun vs H Q E h => ?_) (fun cdv A outer s H vs Q E hr h => ?_)
  · rcases h with ⟨v, rfl, _⟩ | ⟨t, r, rfl, _⟩ <;> rfl
  · refine ⟨_, (pssn_cons (psn_of (ps_if (pt_not (pt_val (pe_callB call_isi (by rfl) T.f_isinstance (by decide +kernel) (pa_cons (pv 0) (pa_cons (pe_bltn (v := .ty "str") (by rfl) T.f_str (by decide +kernel) rfl) pa_nil))))) (pss_one (ps_raise0 rfl T.e_NoText (takes_of rfl rfl rfl rfl))) pss_nil))
  (pssn_cons (psn_of (ps_set (i := 1) sc_words.nd rfl (Or.inl rfl) (pe_lst pa_nil)))
  (pssn_cons (psn_of (ps_asg (pe_tup (pa_cons pe_int (pa_cons pe_int pa_nil))) (pg_tup (by rfl) (pgs_cons (pg_name (i := 2) sc_words.nd rfl (Or.inl rfl)) (pgs_cons (pg_name (i := 3) sc_words.nd rfl (Or.inl rfl)) pgs_nil)))))
  (pssn_cons (psn_while (passes_of rfl) (pt_cmpR op_lt (pv 2) (pe_callB call_lenS (by rfl) T.f_len (by decide +kernel) (pa_cons (pv 0) pa_nil)) (nomark _)) (pssn_one (psn_if (ptn_of (pt_cmpR op_eq (pe_ix ix_str (pv 0) (pv 2) (fun _ _ => rfl)) pe_str (nomark _))) (pssn_one (psn_of (ps_set (i := 2) sc_words.nd rfl (Or.inl rfl) (pe_calS D_note_end hr rfl rfl (takes_of rfl rfl rfl rfl) (pa_cons (pv 0) (pa_cons (pv 2) (pa_cons (pv 3) pa_nil))))))) (pssn_one (psn_if (ptn_of (pt_cmpR op_inSg (pe_ix ix_str (pv 0) (pv 2) (fun _ _ => rfl)) pe_str (by rfl))) (pssn_cons (psn_of (ps_aug (i := 3) sc_words.nd rfl (Or.inl rfl) (pe_ifExp (pt_cmpR op_eq (pe_ix ix_str (pv 0) (pv 2) (fun _ _ => rfl)) pe_str (nomark _)) pe_int pe_int) ip_add))
  (pssn_one (psn_of (ps_aug (i := 2) sc_words.nd rfl (Or.inl rfl) pe_int ip_add)))) (pssn_cons (psn_asg (pen_calS D_word_from hr rfl rfl (takes_of rfl rfl rfl rfl) (pan_cons (pen_of (pv 0)) (pan_cons (pen_of (pv 2)) (pan_cons (pen_of (pv 3)) (pan_of pa_nil))))) (pg_tup (by rfl) (pgs_cons (pg_name (i := 4) sc_words.nd rfl (Or.inl rfl)) (pgs_cons (pg_name (i := 5) sc_words.nd rfl (Or.inl rfl)) (pgs_cons (pg_name (i := 2) sc_words.nd rfl (Or.inl rfl)) pgs_nil)))))
  (pssn_one (psn_of (ps_expr (pe_bm PySem.F.plainAttrs_list PySem.F.slot_list_append PySem.F.type_list_append mt_append (pv 1) (pa_cons (pe_tup (pa_cons (pv 4) (pa_cons (pv 5) (pa_cons (pv 3) pa_nil)))) pa_nil)))))))))))
  (pssn_one (psn_of (ps_ret (pv 1)))))))), ?_⟩
    rcases h with ⟨v, rfl, kv, hs, q⟩ | ⟨t, r0, rfl, hz, hL, q⟩
    · walk_at "w"
      refine w_isStr kv ?_
      rw [hs]
      walk_at "w"
      exact q
    · walk_at "w"
      refine w_isStr rfl ?_
      walk_at "w"
      refine w_nt ?_
      walk_at "w"
      refine ⟨by show 0 ≤ sizeLine; decide, fun D hD => ?_⟩
      walk_at "w"
      refine ⟨by show 2 ≤ sizeLine; decide, fun p hp => ?_⟩
      refine ⟨p, _, rfl, .of upd_same, rfl, _, _, rfl, w_name ⟨_, _, rfl, w_name ⟨rfl, ?_⟩⟩⟩
      walk_at "w"
      have sA : Same H (upd H D (.lst [])) := sameUpd hD
      have sB : Same H (upd (upd H D (.lst [])) p (.tup [.int 0, .int 1])) := sA.trans (sameUpd hp)
      have hDp : D ≠ p := ne_of_none upd_same hp
      refine ⟨Wst t r0 H D, ⟨_, 0, 1, none, none, [], [], r0, rfl, rfl, Nat.zero_le _, sB, ?_, .nil, Nat.le_refl _, hL, ?_⟩, ?_⟩
      · rw [upd_ne hDp]
        exact upd_same
      · cases r0 <;> rfl
      rintro m σ H1 ⟨b, l, x4, x5, xs, ks, r, rfl, rfl, hb, s1, h1D, hT, hk, hLx, he⟩
      walk_at "w"
      rcases (show b < t.length ∨ b = t.length by omega) with hl | rfl
      · rw [decide_eq_true (show (b : Int) < (t.length : Int) by omega)]
        refine w_t ⟨fun σ' H' => ∃ m', m' < t.length - b ∧ Wst t r0 H D m' σ' H', fun _ _ z => z, ?_⟩
        obtain ⟨c, hc⟩ := at_lt hl
        have dr := drop_at hc
        rw [dr] at hLx
        walk_at "w"
        refine w_eq rfl ?_
        rw [show ("#" : Str) = Sg [35] from rfl, strEq]
        walk_at "w"
        have onH : decide ([c] = [35]) = decide (c = 35) := by simp
        rw [onH]
        have bl : decide (c ∈ (" \n" : Str).cps.toList) = decide (c = 32 ∨ c = 10) := by
          rw [show (" \n" : Str).cps.toList = [32, 10] from by decide +kernel]
          simp
        refine w_2 (fun h35 => ?_) (fun h35 => ?_)
        · obtain rfl : c = 35 := of_decide_eq_true h35
          walk_at "w"
          refine ⟨t, b, l, rfl, hz, hb, fun H2 s2 => ?_⟩
          rw [dr]
          cases hLx with
          | note h k =>
            rw [h]
            refine iteT ?_
            walk_at "w"
            have hpos : 0 < (upTo 10 (35 :: t.drop (b + 1))).length := by
              rw [upTo_cons (by decide), List.length_cons]
              exact Nat.succ_pos _
            have hle := upTo_le (35 :: t.drop (b + 1)) 10
            rw [← dr, List.length_drop] at hle
            refine ⟨_, ?_, b + (upTo 10 (35 :: t.drop (b + 1))).length, l, x4, x5, xs, ks, r, rfl, rfl, ?_, s1.trans s2, s2 _ _ h1D, hT.mono fun _ _ e => s2 _ _ e, by omega, ?_, he⟩
            · omega
            · rw [← dr]
              omega
            · rw [← List.drop_drop, dr]
              exact k
          | noteBad h =>
            rw [h]
            refine iteF ?_
            have z := q H2 (s1.trans s2)
            rw [← he] at z
            exact fun d hd => z d hd
          | tok h1 => exact absurd rfl h1
          | bad h1 => exact absurd rfl h1
        · have h35 : c ≠ 35 := of_decide_eq_false h35
          walk_at "w"
          rw [bl]
          refine w_2 (fun h2 => ?_) (fun h2 => ?_)
          · walk_at "w"
            refine w_eq rfl ?_
            rw [show ("\n" : Str) = Sg [10] from rfl, strEq, show decide ([c] = [10]) = decide (c = 10) by simp]
            walk_at "w"
            have next : ∀ l' : Int, Lex (t.drop (b + 1)) l' r → ∃ m', m' < t.length - b ∧ Wst t r0 H D m' [some (.str (Sg t)), some (.ref D), some (.int ((b : Int) + 1)), some (.int l'), x4, x5] H1 := fun l' k =>
              ⟨_, by omega, b + 1, l', x4, x5, xs, ks, r, rfl, rfl, hl, s1, h1D, hT, Nat.le_succ_of_le hk, k, he⟩
            refine w_2 (fun h10 => ?_) (fun h10 => ?_)
            · obtain rfl : c = 10 := of_decide_eq_true h10
              walk_at "w"
              cases hLx with
              | line k => exact next _ k
              | tok _ _ h3 => exact absurd rfl h3
              | bad _ _ h3 => exact absurd rfl h3
            · have h10 : c ≠ 10 := of_decide_eq_false h10
              obtain rfl : c = 32 := (of_decide_eq_true h2).elim id fun z => absurd z h10
              walk_at "w"
              rw [Int.add_zero]
              cases hLx with
              | blank k => exact next _ k
              | tok _ h3 => exact absurd rfl h3
              | bad _ h3 => exact absurd rfl h3
          · have h2 := of_decide_eq_false h2
            walk_at "w"
            refine ⟨t, b, l, rfl, hz, hl, fun H2 s2 => ?_⟩
            rw [dr]
            cases hLx with
            | note => exact absurd rfl h35
            | noteBad => exact absurd rfl h35
            | blank => exact absurd (.inl rfl) h2
            | line => exact absurd (.inr rfl) h2
            | bad _ _ _ hw =>
              rw [hw]
              have z := q H2 (s1.trans s2)
              rw [← he] at z
              exact fun d hd => z d hd
            | @tok _ _ _ s' v k r' _ _ _ hw n1 =>
              rw [hw]
              intro p2 hp2
              have s3 := s2.trans (sameUpd (o := .tup [.str s', v, .int ((b + k : Nat) : Int)]) hp2)
              have hk0 := wordAt_pos hw
              have hk1 := wordAt_le hw
              rw [← dr, List.length_drop] at hk1
              refine ⟨p2, _, rfl, .of upd_same, rfl, _, _, rfl, w_name ⟨_, _, rfl, w_name ⟨_, _, rfl, w_name ⟨rfl, ?_⟩⟩⟩⟩
              walk_at "w"
              have hD3 := s3 _ _ h1D
              refine ⟨.inl ⟨rfl, _, .of hD3⟩, ?_⟩
              walk_at "w"
              refine ⟨by show 3 ≤ sizeLine; decide, fun p3 hp3 => ?_⟩
              have s4 := s3.trans (sameUpd (o := .tup [.str s', v, .int l]) hp3)
              have hD4 := s4 _ _ h1D
              walk_at "w"
              have hlen : xs.length < sizeLine := by
                have e1 := hT.length
                have e2 : big < sizeLine := by decide
                omega
              refine ⟨D, xs, _, rfl, rfl, hD4, hlen, ?_⟩
              have keep : ∀ p ys, (upd (upd H2 p2 (.tup [.str s', v, .int ((b + k : Nat) : Int)])) p3 (.tup [.str s', v, .int l])) p = some (.tup ys) → (upd (upd (upd H2 p2 (.tup [.str s', v, .int ((b + k : Nat) : Int)])) p3 (.tup [.str s', v, .int l])) D (.lst (xs ++ [V.ref p3]))) p = some (.tup ys) := fun p ys e => by
                rw [upd_ne (ne_of e hD4 (by intro z; cases z))]
                exact e
              refine ⟨_, ?_, b + k, l, _, _, xs ++ [.ref p3], ks ++ [⟨s', v, l⟩], r', rfl, rfl, by omega, ?_, upd_same, ?_, ?_, ?_, ?_⟩
              · omega
              · exact fun a o e => by
                  have hne : a ≠ D := ne_of_none e hD
                  rw [upd_ne hne]
                  exact s4 _ _ (s1 _ _ e)
              · exact ((hT.mono fun _ _ e => s4 _ _ e).mono keep).snoc ⟨p3, rfl, keep _ _ upd_same⟩
              · rw [List.length_append]
                show ks.length + 1 ≤ b + k
                omega
              · rw [← List.drop_drop, dr]
                exact n1
              · rw [← he, Res.app_cons]
      · rw [decide_eq_false (show ¬ (t.length : Int) < (t.length : Int) by omega)]
        walk_at "w"
        rw [List.drop_length] at hLx
        cases hLx with
        | nil =>
          have z := q H1 s1
          rw [← he] at z
          exact z D hD ⟨xs, h1D, by rw [List.append_nil]; exact hT⟩
end
end K01
namespace L2
open PySem PySem.Spec PyProof.Rows
/-- xs[i] op= e, the read -/
def rGetLN (K : PySem.W.Frag) : V → V → Hp → VK → Prop := fun x y H Q => ∃ (p : Addr) (xs : List V) (i : Nat) (v : V), x = .ref p ∧ y = .int (i : Int) ∧ SqL K H p xs ∧ xs[i]? = some v ∧ Q v H
theorem get_listN {X : Cx} : PGet X (rGetLN X.K) := by
  intro pins s σ H o i ov iv Q I ro ri h
  obtain ⟨p, xs, k, v, rfl, rfl, hq, hk, q⟩ := h
  cases ro
  obtain ⟨t, rfl⟩ := ri
  obtain ⟨its, r, pl, hz⟩ := I.list hq
  obtain ⟨w, ew, rw'⟩ := r.get hk
  have hl := r.length
  have hlt : k < xs.length := (List.getElem?_eq_some_iff.mp hk).1
  have hn := line63
  exact wpAny_getItem_list pl.isList (by omega) (by omega) (by simpa using ew) ⟨v, H, I, rw', q⟩
theorem w_augS {to ti te : TE} {tg : V → V → Hp → VK → Prop} {tp : TIp} {ts : TSet} {D : Ends} {σ : L2.St} {H : Hp} (q : to σ H fun o H1 => ti σ H1 fun i H2 => tg o i H2 fun x H3 => te σ H3 fun y H4 => tp x y H4 fun z H5 => ts o i z H5 fun H6 => D.nx σ H6) : tAugS to ti te tg tp ts D σ H := q
theorem asg_cut {te : TE} {i : Nat} {σ : L2.St} {H : Hp} {D : Ends} (R : V → Hp → Prop) (h : ∀ Q : VK, (∀ x H', R x H' → Q x H') → te σ H Q) (k : ∀ x H', R x H' → gName i x σ H' D.nx) : tAsg te (gName i) D σ H := h _ k
theorem seq_cut {tu tw : TS} {σ : L2.St} {H : Hp} {D : Ends} (R : L2.St → Hp → Prop) (h : ∀ N : L2.St → Hp → Prop, (∀ σ' H', R σ' H' → N σ' H') → tu { D with nx := N } σ H) (k : ∀ σ' H', R σ' H' → tw D σ' H') : tSeq tu tw D σ H := h _ k
theorem w_isTup {K : PySem.W.Frag} {H : Hp} {Q : VK} {v : V} (h : Kn H v) (q : Q (.bl (isTp H v)) H) : rIsi K [v, .ty "tuple"] H Q := w_isTuple h q
end L2
namespace K01
open PySem L2
abbrev s_law_flow : Stmt := top 68
abbrev N_law_flow : List Str := ["script"]
abbrev P_law_flow : List Str := ["script"]
theorem sc_law_flow : FnScope N_law_flow P_law_flow (defScope s_law_flow) := ⟨rfl, rfl, rfl, by decide +kernel, rfl, by decide +kernel, by decide +kernel⟩
abbrev s_law_more : Stmt := top 69
abbrev N_law_more : List Str := ["flow", "cell", "one", "two", "three"]
abbrev P_law_more : List Str := ["flow"]
theorem sc_law_more : FnScope N_law_more P_law_more (defScope s_law_more) := ⟨rfl, rfl, rfl, by decide +kernel, rfl, by decide +kernel, by decide +kernel⟩
abbrev s_law_draw : Stmt := top 70
abbrev N_law_draw : List Str := ["flow", "many", "digit"]
abbrev P_law_draw : List Str := ["flow", "many"]
theorem sc_law_draw : FnScope N_law_draw P_law_draw (defScope s_law_draw) := ⟨rfl, rfl, rfl, by decide +kernel, rfl, by decide +kernel, by decide +kernel⟩
/-- the flow at f over the cells at s -/
structure Flow (H : Hp) (f s : Addr) : Prop where
  ne : f ≠ s
  fl : ∃ (i : Nat) (p q : Int), H f = some (.lst [.ref s, .int i, .int p, .int q])
  sc : ∃ ns : List Int, H s = some (.lst (ns.map V.int))
def KeepF (f : Addr) (H H' : Hp) : Prop := ∀ a o, a ≠ f → H a = some o → H' a = some o
theorem KeepF.refl {f : Addr} {H : Hp} : KeepF f H H := fun _ _ _ h => h
theorem KeepF.trans {f : Addr} {H H1 H2 : Hp} (x : KeepF f H H1) (y : KeepF f H1 H2) : KeepF f H H2 := fun a o h1 h => y a o h1 (x a o h1 h)
theorem KeepF.same {f : Addr} {H H' : Hp} (s : Same H H') : KeepF f H H' := fun a o _ h => s a o h
theorem Flow.same {H H' : Hp} {f s : Addr} (F : Flow H f s) (k : Same H H') : Flow H' f s := by
  obtain ⟨n, ⟨i, p, q, h1⟩, ns, h2⟩ := F
  exact ⟨n, ⟨i, p, q, k _ _ h1⟩, ns, k _ _ h2⟩
theorem Flow.free {H : Hp} {f s p : Addr} (F : Flow H f s) (h : H p = none) : p ≠ f := by
  obtain ⟨_, ⟨i, a, q, h1⟩, _⟩ := F
  exact (ne_of_none h1 h).symm
theorem KeepF.upd {f p : Addr} {H : Hp} {o : HO} (h : H p = none) : KeepF f H (L2.upd H p o) := KeepF.same (sameUpd h)
structure Txw (mg : Str → Option Value) : Prop where
  f_list : mg "list" = none
  f_abs : mg "abs" = none
  f_range : mg "range" = none
  f_tuple : mg "tuple" = none
  f_bool : mg "bool" = none
  f_int : mg "int" = none
  f_isinstance : mg "isinstance" = none
  f_str : mg "str" = none
  f_len : mg "len" = none
  f_all : mg "all" = none
def spFlow (K : PySem.W.Frag) : Sp := fun vs H Q _ => ∃ (a : Addr) (ns : List Int), vs = [.ref a] ∧ SqL K H a (ns.map V.int) ∧ ∀ f s H', Same H H' → Flow H' f s → Q (.ref f) H'
def spMore : Sp := fun vs H Q _ => ∃ (f s : Addr), vs = [.ref f] ∧ Flow H f s ∧ ∀ H', Flow H' f s → KeepF f H H' → Q .non H'
def spDraw : Sp := fun vs H Q _ => ∃ (f s : Addr) (m : Int), vs = [.ref f, .int m] ∧ Flow H f s ∧ 0 < m ∧ m.natAbs.log2 < 9000 ∧ ∀ d H', 0 ≤ d → d < m → Flow H' f s → KeepF f H H' → Q (.int d) H'
section
variable {P : Program} {w : World} {K : PySem.W.Frag} {mg : Str → Option Value} {base : Heap} {n : Nat}
theorem ok_law_flow (T : Txw mg) {f : Addr} {fd : FuncData} (F : FnP K "_law_flow" s_law_flow f fd) : FnOk P w K mg base CX0 1 f fd P_law_flow (spFlow K) := by
  refine F.ok sc_law_flow (fun vs H Q E h => ?_) (fun cdv A outer s H vs Q E hr h => ?_)
  · obtain ⟨a, ns, rfl, _⟩ := h
    rfl
  · obtain ⟨a, ns, rfl, hS, q⟩ := h
    refine ⟨_, PSs.nox (pss_one (ps_ret (pe_lst (pa_cons (pe_callTy call_listN (by rfl) T.f_list (by decide +kernel) (pa_cons (pv 0) pa_nil)) (pa_cons pe_int (pa_cons pe_int (pa_cons pe_int pa_nil))))))), ?_⟩
    walk_at "w"
    refine w_listL hS fun s hs => ?_
    walk_at "w"
    refine ⟨by show 4 ≤ sizeLine; decide, fun f hf => ?_⟩
    have s1 := (sameUpd (o := .lst (ns.map V.int)) hs).trans (sameUpd (o := .lst [.ref s, .int 0, .int 0, .int 17]) hf)
    have hne : s ≠ f := ne_of_none upd_same hf
    refine q f s _ s1 ⟨hne.symm, ⟨0, 0, 17, upd_same⟩, ns, ?_⟩
    rw [upd_ne hne]
    exact upd_same
theorem ok_law_more (T : Txw mg) {f : Addr} {fd : FuncData} (F : FnP K "_law_more" s_law_more f fd) : FnOk P w K mg base CX0 1 f fd P_law_more spMore := by
  refine F.ok sc_law_more (fun vs H Q E h => ?_) (fun cdv A outer s H vs Q E hr h => ?_)
  · obtain ⟨a, ns, rfl, _⟩ := h
    rfl
  · obtain ⟨f, s, rfl, ⟨hne, ⟨i, p, z, hf⟩, ns, hs⟩, q⟩ := h
    refine ⟨_, PSs.nox (pss_cons (ps_set (i := 1) sc_law_more.nd rfl (Or.inl rfl) pe_int)
  (pss_cons (ps_if (pt_cmpR op_lt (pe_ix ix_list (pv 0) pe_int (fun _ _ => rfl)) (pe_callB call_lenN (by rfl) T.f_len (by decide +kernel) (pa_cons (pe_ix ix_list (pv 0) pe_int (fun _ _ => rfl)) pa_nil)) (nomark _)) (pss_one (ps_set (i := 1) sc_law_more.nd rfl (Or.inl rfl) (pe_ix ix_list (pe_ix ix_list (pv 0) pe_int (fun _ _ => rfl)) (pe_ix ix_list (pv 0) pe_int (fun _ _ => rfl)) (fun _ _ => rfl)))) pss_nil)
  (pss_cons (ps_augS (pv 0) pe_int get_listN pe_int ip_add set_list)
  (pss_cons (ps_if (pt_cmpR op_ge (pv 1) (pe_op op_pow pe_int pe_int) (nomark _)) (pss_cons (ps_asg (pv 1) (pg_sub (pv 0) pe_int set_list))
  (pss_one ps_retN)) pss_nil)
  (pss_cons (ps_set (i := 2) sc_law_more.nd rfl (Or.inl rfl) (pe_op op_mod (pe_callTy call_int1N (by rfl) T.f_int (by decide +kernel) (pa_cons (pe_op op_add (pe_op op_add (pe_op op_add (pe_op op_mul (pe_ix ix_list (pv 0) pe_int (fun _ _ => rfl)) pe_int) (pe_op op_mul (pe_callB call_absN (by rfl) T.f_abs (by decide +kernel) (pa_cons (pv 1) pa_nil)) pe_int)) (pe_callTy call_int1N (by rfl) T.f_int (by decide +kernel) (pa_cons (pe_cmpR op_lt (pv 1) pe_int (nomark _)) pa_nil))) (pe_op op_mul pe_int (pe_ix ix_list (pv 0) pe_int (fun _ _ => rfl)))) pa_nil)) pe_int))
  (pss_cons (ps_set (i := 2) sc_law_more.nd rfl (Or.inl rfl) (pe_op op_mod (pe_callTy call_int1N (by rfl) T.f_int (by decide +kernel) (pa_cons (pe_op op_add (pe_op op_mul (pv 2) pe_int) pe_int) pa_nil)) pe_int))
  (pss_cons (ps_set (i := 3) sc_law_more.nd rfl (Or.inl rfl) (pe_op op_mod (pe_callTy call_int1N (by rfl) T.f_int (by decide +kernel) (pa_cons (pe_op op_add (pe_op op_mul (pv 2) (pe_op op_add (pe_op op_fdivW (pv 2) pe_int) pe_int)) pe_int) pa_nil)) pe_int))
  (pss_cons (ps_set (i := 4) sc_law_more.nd rfl (Or.inl rfl) (pe_op op_mod (pe_callTy call_int1N (by rfl) T.f_int (by decide +kernel) (pa_cons (pe_op op_add (pe_op op_mul (pv 3) (pe_op op_add (pe_op op_fdivW (pv 3) pe_int) pe_int)) (pv 2)) pa_nil)) pe_int))
  (pss_cons (ps_asg (pv 4) (pg_sub (pv 0) pe_int set_list))
  (pss_one (ps_asg (pe_op op_add (pe_op op_mul (pe_op op_add (pe_op op_mul (pv 2) pe_int) (pv 3)) pe_int) (pv 4)) (pg_sub (pv 0) pe_int set_list)))))))))))), ?_⟩
    with_reducible refine w_seq ?_
    walk_at "w1"
    walk_at "w1"
    walk_at "w1"
    with_reducible refine seq_cut (fun σ' H' => ∃ c : Int, σ' = [some (.ref f), some (.int c), none, none, none] ∧ H' = H) (fun N k => ?_) ?_
    · walk_at "w"
      refine w_ixL (.of hf) (atI_nat (j := 1) rfl) ?_
      walk_at "w"
      refine w_ixL (.of hf) (atI_nat (j := 0) rfl) ?_
      walk_at "w"
      refine w_lenL (.of hs) ?_
      walk_at "w"
      refine w_2 (fun h1 => ?_) (fun h1 => ?_)
      · walk_at "w"
        refine w_ixL (.of hf) (atI_nat (j := 0) rfl) ?_
        walk_at "w"
        refine w_ixL (.of hf) (atI_nat (j := 1) rfl) ?_
        walk_at "w"
        have hi : i < ns.length := by
          have z := of_decide_eq_true h1
          rw [List.length_map] at z
          omega
        refine w_ixL (.of hs) (atI_nat (j := i) (v := .int ns[i]) ?_) ?_
        · rw [List.getElem?_map, List.getElem?_eq_getElem hi] <;> rfl
        · walk_at "w"
          exact k _ _ ⟨_, rfl, rfl⟩
      · walk_at "w"
        exact k _ _ ⟨_, rfl, rfl⟩
    rintro _ H' ⟨c, rfl, rfl⟩
    with_reducible refine w_seq ?_
    refine w_augS ?_
    walk_at "w"
    refine ⟨f, _, 1, _, rfl, rfl, .of hf, rfl, ?_⟩
    walk_at "w"
    refine ⟨_, _, rfl, rfl, f, _, 1, 1, rfl, rfl, hf, rfl, ?_⟩
    have h1 : (upd H' f (.lst ([V.ref s, V.int i, V.int p, V.int z].set 1 (V.int ((i : Int) + 1))))) f = some (.lst [.ref s, .int ((i + 1 : Nat) : Int), .int p, .int z]) := upd_same
    have k1 : KeepF f H' (upd H' f (.lst ([V.ref s, V.int i, V.int p, V.int z].set 1 (V.int ((i : Int) + 1))))) := fun a o h e => by
      rw [upd_ne h]
      exact e
    have hs1 := k1 _ _ hne.symm hs
    generalize upd H' f (.lst ([V.ref s, V.int i, V.int p, V.int z].set 1 (V.int ((i : Int) + 1)))) = H1 at h1 k1 hs1 ⊢
    have wr : ∀ {H2 : Hp} {xs : List V} (v : V) (j : Nat), H2 f = some (.lst xs) → KeepF f H1 H2 → KeepF f H1 (upd H2 f (.lst (xs.set j v))) := fun v j _ k a o h e => by
      rw [upd_ne h]
      exact k a o h e
    walk_at "w"
    refine w_2 (fun _ => ?_) (fun _ => ?_)
    · walk_at "w"
      refine ⟨_, rfl, f, _, 2, 2, rfl, rfl, h1, rfl, ?_⟩
      walk_at "w"
      exact q _ ⟨hne, ⟨i + 1, c, z, upd_same⟩, ns, wr (.int c) 2 h1 .refl _ _ hne.symm hs1⟩ (k1.trans (wr (.int c) 2 h1 .refl))
    · walk_at "w"
      refine w_ixL (.of h1) (atI_nat (j := 3) rfl) ?_
      walk_at "w"
      refine w_ixL (.of h1) (atI_nat (j := 1) rfl) ?_
      walk_at "w"
      refine ⟨_, rfl, f, _, 3, 3, rfl, rfl, h1, rfl, ?_⟩
      walk_at "w"
      refine ⟨_, rfl, f, _, 2, 2, rfl, rfl, upd_same, rfl, ?_⟩
      exact q _ ⟨hne, ⟨i + 1, _, _, upd_same⟩, ns, wr _ 2 upd_same (wr _ 3 h1 .refl) _ _ hne.symm hs1⟩ (k1.trans (wr _ 2 upd_same (wr _ 3 h1 .refl)))
theorem ok_law_draw (T : Txw mg) {f : Addr} {fd : FuncData} (F : FnP K "_law_draw" s_law_draw f fd) (D_law_more : Cal P w K mg base CX0 1 "_law_more" P_law_more spMore) :
    FnOk P w K mg base CX0 2 f fd P_law_draw spDraw := by
  refine F.ok sc_law_draw (fun vs H Q E h => ?_) (fun cdv A outer s H vs Q E hr h => ?_)
  · obtain ⟨f, s, m, rfl, _⟩ := h
    rfl
  · obtain ⟨f, s, m, rfl, FL, m0, ml, q⟩ := h
    refine ⟨_, PSs.nox (pss_cons (ps_if (pt_cmpR op_lt (pe_ix ix_list (pv 0) pe_int (fun _ _ => rfl)) (pv 1) (nomark _)) (pss_one (ps_expr (pe_cal D_law_more hr rfl rfl pass0 (pa_cons (pv 0) pa_nil)))) pss_nil)
  (pss_cons (ps_set (i := 2) sc_law_draw.nd rfl (Or.inl rfl) (pe_op op_mod (pe_callTy call_int1N (by rfl) T.f_int (by decide +kernel) (pa_cons (pe_ix ix_list (pv 0) pe_int (fun _ _ => rfl)) pa_nil)) (pv 1)))
  (pss_cons (ps_asg (pe_op op_fdivW (pe_ix ix_list (pv 0) pe_int (fun _ _ => rfl)) (pv 1)) (pg_sub (pv 0) pe_int set_list))
  (pss_one (ps_ret (pv 2)))))), ?_⟩
    with_reducible refine seq_cut (fun σ' H' => σ' = [some (.ref f), some (.int m), none] ∧ Flow H' f s ∧ KeepF f H H') (fun N k => ?_) ?_
    · walk_at "w"
      obtain ⟨hne, ⟨i, p, z, hf⟩, ns, hs⟩ := FL
      refine w_ixL (.of hf) (atI_nat (j := 2) rfl) ?_
      walk_at "w"
      refine w_2 (fun _ => ?_) (fun _ => ?_)
      · walk_at "w"
        refine ⟨f, s, rfl, ⟨hne, ⟨i, p, z, hf⟩, ns, hs⟩, fun H' F' k' => ?_⟩
        walk_at "w"
        exact k _ _ ⟨rfl, F', k'⟩
      · walk_at "w"
        exact k _ _ ⟨rfl, ⟨hne, ⟨i, p, z, hf⟩, ns, hs⟩, .refl⟩
    rintro _ H1 ⟨rfl, ⟨hne, ⟨i, p, z, hf⟩, ns, hs⟩, k1⟩
    walk_at "w"
    refine w_ixL (.of hf) (atI_nat (j := 2) rfl) ?_
    walk_at "w"
    refine w_I m0 ?_
    walk_at "w"
    refine w_ixL (.of hf) (atI_nat (j := 2) rfl) ?_
    walk_at "w"
    refine w_I ⟨m0, ml⟩ ?_
    refine ⟨_, rfl, f, _, 2, 2, rfl, rfl, hf, rfl, ?_⟩
    walk_at "w"
    have kB : KeepF f H1 (upd H1 f (.lst ([V.ref s, V.int i, V.int p, V.int z].set 2 (V.int (p / m))))) := fun a o h e => by
      rw [upd_ne h]
      exact e
    exact q _ _ (Int.emod_nonneg _ (by omega)) (Int.emod_lt_of_pos _ m0) ⟨hne, ⟨i, _, _, upd_same⟩, ns, kB _ _ hne.symm hs⟩ (k1.trans kB)
end
end K01
namespace L2
open PySem PySem.Spec PyProof.Rows
theorem ix_or {X : Cx} {r r' : R2} (h : IxR X r) (h' : IxR X r') : IxR X (fun x y H Q => r x y H Q ∨ r' x y H Q) := fun value slice pins s σ H x y v u Q I rx ry q hs =>
  q.elim (fun q => h value slice pins s σ H x y v u Q I rx ry q hs) fun q => h' value slice pins s σ H x y v u Q I rx ry q hs
def rLenB (K : PySem.W.Frag) : List V → Hp → VK → Prop := fun xs H Q => ∃ p ys, xs = [.ref p] ∧ (SqL K H p ys ∨ SqT K H p ys) ∧ (ys.length ≤ sizeLine → Q (.int ys.length) H)
theorem call_lenB {X : Cx} : CallR X (.builtin "len") (rLenB X.K) := by
  intro pins s σ H xs us Q I r h
  obtain ⟨p, ys, rfl, hs, q⟩ := h
  refine call_lenN pins s σ H _ us Q I r ⟨p, ys, rfl, hs, q ?_⟩
  rcases hs with h | h
  · obtain ⟨its, rv, _, hz⟩ := I.list h
    have := rv.length
    omega
  · obtain ⟨its, rv, _, hz⟩ := I.tuple h
    have := rv.length
    omega
theorem w_lenBL {K : PySem.W.Frag} {H : Hp} {Q : VK} {p : Addr} {ys : List V} (h : SqL K H p ys) (q : ys.length ≤ sizeLine → Q (.int ys.length) H) : rLenB K [.ref p] H Q := ⟨p, ys, rfl, .inl h, q⟩
theorem w_lenBT {K : PySem.W.Frag} {H : Hp} {Q : VK} {p : Addr} {ys : List V} (h : SqT K H p ys) (q : ys.length ≤ sizeLine → Q (.int ys.length) H) : rLenB K [.ref p] H Q := ⟨p, ys, rfl, .inr h, q⟩
end L2
namespace K01
open PySem L2
abbrev s_law_same : Stmt := top 71
abbrev N_law_same : List Str := ["found", "due", "k"]
abbrev P_law_same : List Str := ["found", "due"]
theorem sc_law_same : FnScope N_law_same P_law_same (defScope s_law_same) := ⟨rfl, rfl, rfl, by decide +kernel, rfl, by decide +kernel, by decide +kernel⟩
def Sc (x y : V) : Prop := (x = .non ∧ y = .non) ∨ (∃ i, x = .int i ∧ y = .int i) ∨ ∃ z, x = .str z ∧ y = .str z
/-- two things alike, to a depth -/
def Sm (H : Hp) : Nat → V → V → Prop
  | 0, _, _ => False
  | n + 1, x, y => Sc x y ∨ ∃ (a b : Addr) (xs ys : List V), x = .ref a ∧ y = .ref b ∧ ((H a = some (.lst xs) ∧ H b = some (.lst ys)) ∨ (H a = some (.tup xs) ∧ H b = some (.tup ys))) ∧ xs.length = ys.length ∧ ∀ (i : Nat) (u v : V), xs[i]? = some u → ys[i]? = some v → Sm H n u v
theorem Sm.same {H H' : Hp} (s : Same H H') : ∀ (n : Nat) {x y : V}, Sm H n x y → Sm H' n x y
  | 0, _, _, h => h
  | n + 1, _, _, h => h.elim .inl fun ⟨a, b, xs, ys, e1, e2, h1, h2, h4⟩ => .inr ⟨a, b, xs, ys, e1, e2, h1.elim (fun z => .inl ⟨s _ _ z.1, s _ _ z.2⟩) (fun z => .inr ⟨s _ _ z.1, s _ _ z.2⟩), h2, fun i u v e e' => Sm.same s n (h4 i u v e e')⟩
def spS (n : Nat) : Sp := fun vs H Q _ => ∃ x y, vs = [x, y] ∧ Sm H n x y ∧ ∀ H', Same H H' → Q (.bl true) H'
section
variable {P : Program} {w : World} {K : PySem.W.Frag} {mg : Str → Option Value} {base : Heap} {n : Nat}
theorem ok_law_same (T : Txw mg) {f : Addr} {fd : FuncData} (F : FnP K "_law_same" s_law_same f fd) (hm : mg "_law_same" = some (.ref f)) (hb : Binds K fd P_law_same []) : ∀ m, FnOk P w K mg base CX0 m f fd P_law_same (spS m)
  | 0 => ⟨fun vs H Q E h => h.elim fun x h => h.elim fun y h => h.2.1.elim, fun _ _ _ _ _ _ _ _ _ _ _ _ _ h => h.elim fun x h => h.elim fun y h => h.2.1.elim⟩
  | m + 1 => by
    have D_law_same : Cal P w K mg base CX0 m "_law_same" P_law_same (spS m) := ⟨f, fd, ok_law_same T F hm hb m, hm, F.kp, hb⟩
    refine F.ok sc_law_same (fun vs H Q E h => ?_) (fun cdv A outer s H vs Q E hr h => ?_)
    · obtain ⟨x, y, rfl, _⟩ := h
      rfl
    · obtain ⟨x, y, rfl, hS, q⟩ := h
      refine ⟨_, PSs.nox (pss_cons (ps_if (PW.pt (pw_or (pt_val (pe_callB call_isi (by rfl) T.f_isinstance (by decide +kernel) (pa_cons (pv 1) (pa_cons (pe_bltn (v := .ty "list") (by rfl) T.f_list (by decide +kernel) rfl) pa_nil)))) (pw_or1 (pt_val (pe_callB call_isi (by rfl) T.f_isinstance (by decide +kernel) (pa_cons (pv 1) (pa_cons (pe_bltn (v := .ty "tuple") (by rfl) T.f_tuple (by decide +kernel) rfl) pa_nil))))))) (pss_cons (ps_if (PW.pt (pw_or (PW.pt (pw_and (pt_val (pe_callB call_isi (by rfl) T.f_isinstance (by decide +kernel) (pa_cons (pv 1) (pa_cons (pe_bltn (v := .ty "list") (by rfl) T.f_list (by decide +kernel) rfl) pa_nil)))) (pw_and1 (pt_not (pt_val (pe_callB call_isi (by rfl) T.f_isinstance (by decide +kernel) (pa_cons (pv 0) (pa_cons (pe_bltn (v := .ty "list") (by rfl) T.f_list (by decide +kernel) rfl) pa_nil)))))))) (pw_or1 (PW.pt (pw_and (pt_val (pe_callB call_isi (by rfl) T.f_isinstance (by decide +kernel) (pa_cons (pv 1) (pa_cons (pe_bltn (v := .ty "tuple") (by rfl) T.f_tuple (by decide +kernel) rfl) pa_nil)))) (pw_and1 (pt_not (pt_val (pe_callB call_isi (by rfl) T.f_isinstance (by decide +kernel) (pa_cons (pv 0) (pa_cons (pe_bltn (v := .ty "tuple") (by rfl) T.f_tuple (by decide +kernel) rfl) pa_nil))))))))))) (pss_one (ps_ret pe_bl)) pss_nil)
  (pss_one (ps_ret (pe_and (pe_cmpR op_eq (pe_callB call_lenN (by rfl) T.f_len (by decide +kernel) (pa_cons (pv 0) pa_nil)) (pe_callB call_lenB (by rfl) T.f_len (by decide +kernel) (pa_cons (pv 1) pa_nil)) (nomark _)) (pe_one (pe_callB (cr_all rfl) (by rfl) T.f_all (by decide +kernel) (pa_cons (pe_lc (own := [("k", 2)]) (g := gName 2) rfl sc_law_same.nd (pi_range1 (by rfl) T.f_range (pa_cons (pe_callB call_lenB (by rfl) T.f_len (by decide +kernel) (pa_cons (pv 1) pa_nil)) pa_nil)) (blkOk_by (own := [("k", 2)]) (N := N_law_same) (sc := defScope s_law_same) (by decide +kernel)) (fun _ _ _ _ _ => pg_name (i := 2) sc_law_same.nd rfl (Or.inl rfl)) (fun _ _ _ _ _ => pts_nil) (fun _ _ _ _ _ => (pe_cal D_law_same hr (Nat.ble_eq_true_of_le (Nat.le_refl _)) rfl pass0 (pa_cons (pe_ix (ix_or (show IxR _ (rIxL K) from ix_list) (show IxR _ (rIxT K) from ix_tup)) (pv 0) (pv 2) (fun _ _ => rfl)) (pa_cons (pe_ix (ix_or (show IxR _ (rIxL K) from ix_list) (show IxR _ (rIxT K) from ix_tup)) (pv 1) (pv 2) (fun _ _ => rfl)) pa_nil))))) pa_nil))))))) pss_nil)
  (pss_cons (ps_if (pt_cmp (pc_isN (pv 1)) rfl) (pss_one (ps_ret (pe_cmp (pc_isN (pv 0)) rfl))) pss_nil)
  (pss_cons (ps_if (pt_val (pe_callB call_isi (by rfl) T.f_isinstance (by decide +kernel) (pa_cons (pv 1) (pa_cons (pe_bltn (v := .ty "bool") (by rfl) T.f_bool (by decide +kernel) rfl) pa_nil)))) (pss_one (ps_ret (pe_and (pe_callB call_isi (by rfl) T.f_isinstance (by decide +kernel) (pa_cons (pv 0) (pa_cons (pe_bltn (v := .ty "bool") (by rfl) T.f_bool (by decide +kernel) rfl) pa_nil))) (pe_one (pe_cmpR op_eq (pv 0) (pv 1) (nomark _)))))) pss_nil)
  (pss_cons (ps_if (pt_val (pe_callB call_isi (by rfl) T.f_isinstance (by decide +kernel) (pa_cons (pv 1) (pa_cons (pe_bltn (v := .ty "int") (by rfl) T.f_int (by decide +kernel) rfl) pa_nil)))) (pss_one (ps_ret (pe_and (pe_callB call_isi (by rfl) T.f_isinstance (by decide +kernel) (pa_cons (pv 0) (pa_cons (pe_bltn (v := .ty "int") (by rfl) T.f_int (by decide +kernel) rfl) pa_nil))) (pe_and (pe_not (pe_callB call_isi (by rfl) T.f_isinstance (by decide +kernel) (pa_cons (pv 0) (pa_cons (pe_bltn (v := .ty "bool") (by rfl) T.f_bool (by decide +kernel) rfl) pa_nil)))) (pe_one (pe_cmpR op_eq (pv 0) (pv 1) (nomark _))))))) pss_nil)
  (pss_one (ps_ret (pe_and (pe_callB call_isi (by rfl) T.f_isinstance (by decide +kernel) (pa_cons (pv 0) (pa_cons (pe_bltn (v := .ty "str") (by rfl) T.f_str (by decide +kernel) rfl) pa_nil))) (pe_one (pe_cmpR op_eq (pv 0) (pv 1) (nomark _)))))))))), ?_⟩
      have q0 := q H (Same.refl H)
      rcases hS with (⟨rfl, rfl⟩ | ⟨i, rfl, rfl⟩ | ⟨z, rfl, rfl⟩) | ⟨a, b, xs, ys, rfl, rfl, hab, hlen, hS⟩
      · walk_at "w"
        refine w_isList rfl ?_
        walk_at "w"
        refine w_f ?_
        walk_at "w"
        refine w_isTuple rfl ?_
        walk_at "w"
        refine w_f ?_
        walk_at "w"
        rw [decide_eq_true (rfl : V.non = V.non)]
        walk_at "w"
        rw [decide_eq_true (rfl : V.non = V.non)]
        exact q0
      · walk_at "w"
        refine w_isList rfl ?_
        walk_at "w"
        refine w_f ?_
        walk_at "w"
        refine w_isTuple rfl ?_
        walk_at "w"
        refine w_f ?_
        walk_at "w"
        rw [decide_eq_false (fun z : V.int i = V.non => by cases z)]
        walk_at "w"
        refine w_isBool rfl ?_
        walk_at "w"
        refine w_f ?_
        walk_at "w"
        refine w_isInt rfl ?_
        walk_at "w"
        refine w_t ?_
        walk_at "w"
        refine w_isInt rfl ?_
        walk_at "w"
        refine w_t ?_
        walk_at "w"
        refine w_isBool rfl ?_
        walk_at "w"
        refine w_nf ?_
        walk_at "w"
        rw [decide_eq_true (rfl : i = i)]
        exact q0
      · walk_at "w"
        refine w_isList rfl ?_
        walk_at "w"
        refine w_f ?_
        walk_at "w"
        refine w_isTuple rfl ?_
        walk_at "w"
        refine w_f ?_
        walk_at "w"
        rw [decide_eq_false (fun y : V.str z = V.non => by cases y)]
        walk_at "w"
        refine w_isBool rfl ?_
        walk_at "w"
        refine w_f ?_
        walk_at "w"
        refine w_isInt rfl ?_
        walk_at "w"
        refine w_f ?_
        walk_at "w"
        refine w_isStr rfl ?_
        walk_at "w"
        refine w_t ?_
        walk_at "w"
        refine w_eq rfl ?_
        rw [decide_eq_true (rfl : V.str z = V.str z)]
        exact q0
      · have hbg : sizeLine = 16777216 := rfl
        rcases hab with ⟨ha, hb'⟩ | ⟨ha, hb'⟩
        · have kA : Kn H (.ref a) := by simp [Kn, tyOf, ha]
          have kB : Kn H (.ref b) := by simp [Kn, tyOf, hb']
          have lsA : isLs H (.ref a) = true := by simp [isLs, ha]
          have lsB : isLs H (.ref b) = true := by simp [isLs, hb']
          have tpB : isTp H (.ref b) = false := by simp [isTp, hb']
          walk_at "w"
          refine w_isList kB ?_
          rw [lsB]
          walk_at "w"
          refine w_isList kB ?_
          rw [lsB]
          walk_at "w"
          refine w_isList kA ?_
          rw [lsA]
          walk_at "w"
          refine w_isTuple kB ?_
          rw [tpB]
          walk_at "w"
          refine w_lenL (.of ha) ?_
          walk_at "w"
          refine w_lenBL (.of hb') fun hbig => ?_
          walk_at "w"
          rw [decide_eq_true (show (xs.length : Int) = (ys.length : Int) by omega)]
          walk_at "w"
          refine w_lc ?_
          walk_at "w"
          refine w_lenBL (.of hb') fun hbig => ?_
          walk_at "w"
          refine ⟨_, rfl, by omega, by omega, fun D hD => lc_range (Pv := fun i H' => Same H H' ∧ H' D = some (.lst (List.replicate i (V.bl true)))) ⟨sameUpd hD, upd_same⟩ ?_ ?_⟩
          · rintro i H1 hi ⟨s1, h1⟩
            have hi : i < ys.length := by omega
            obtain ⟨v, hv⟩ : ∃ v, ys[i]? = some v := ⟨ys[i], List.getElem?_eq_getElem hi⟩
            obtain ⟨u, hu⟩ : ∃ u, xs[i]? = some u := ⟨xs[i], List.getElem?_eq_getElem (by omega)⟩
            rw [Int.zero_add]
            walk_at "w"
            refine ⟨rfl, ?_⟩
            walk_at "w"
            refine .inl ⟨a, xs, i, u, rfl, rfl, .of (s1 _ _ ha), atI_nat hu, ?_⟩
            walk_at "w"
            refine .inl ⟨b, ys, i, v, rfl, rfl, .of (s1 _ _ hb'), atI_nat hv, ?_⟩
            walk_at "w"
            refine ⟨u, v, rfl, (hS i u v hu hv).same s1, fun H2 s2 => ?_⟩
            refine ⟨_, s2 _ _ h1, ?_, fun c o e => ?_, ?_⟩
            · rw [List.length_replicate]
              omega
            · rw [upd_ne (ne_of_none e hD)]
              exact s2 _ _ (s1 _ _ e)
            · rw [upd_same, List.replicate_succ']
          · rintro H1 ⟨s1, h1⟩
            walk_at "w"
            refine ⟨D, List.replicate ys.length true, rfl, .of (by rw [List.map_replicate]; exact h1), ?_⟩
            rw [show (List.replicate ys.length true).all id = true by simp]
            exact q H1 s1
        · have kA : Kn H (.ref a) := by simp [Kn, tyOf, ha]
          have kB : Kn H (.ref b) := by simp [Kn, tyOf, hb']
          have lsB : isLs H (.ref b) = false := by simp [isLs, hb']
          have tpA : isTp H (.ref a) = true := by simp [isTp, ha]
          have tpB : isTp H (.ref b) = true := by simp [isTp, hb']
          walk_at "w"
          refine w_isList kB ?_
          rw [lsB]
          walk_at "w"
          refine w_isTuple kB ?_
          rw [tpB]
          walk_at "w"
          refine w_isList kB ?_
          rw [lsB]
          walk_at "w"
          refine w_isTuple kB ?_
          rw [tpB]
          walk_at "w"
          refine w_isTuple kA ?_
          rw [tpA]
          walk_at "w"
          refine w_lenT (.of ha) ?_
          walk_at "w"
          refine w_lenBT (.of hb') fun hbig => ?_
          walk_at "w"
          rw [decide_eq_true (show (xs.length : Int) = (ys.length : Int) by omega)]
          walk_at "w"
          refine w_lc ?_
          walk_at "w"
          refine w_lenBT (.of hb') fun hbig => ?_
          walk_at "w"
          refine ⟨_, rfl, by omega, by omega, fun D hD => lc_range (Pv := fun i H' => Same H H' ∧ H' D = some (.lst (List.replicate i (V.bl true)))) ⟨sameUpd hD, upd_same⟩ ?_ ?_⟩
          · rintro i H1 hi ⟨s1, h1⟩
            have hi : i < ys.length := by omega
            obtain ⟨v, hv⟩ : ∃ v, ys[i]? = some v := ⟨ys[i], List.getElem?_eq_getElem hi⟩
            obtain ⟨u, hu⟩ : ∃ u, xs[i]? = some u := ⟨xs[i], List.getElem?_eq_getElem (by omega)⟩
            rw [Int.zero_add]
            walk_at "w"
            refine ⟨rfl, ?_⟩
            walk_at "w"
            refine .inr ⟨a, xs, i, u, rfl, rfl, .of (s1 _ _ ha), atI_nat hu, ?_⟩
            walk_at "w"
            refine .inr ⟨b, ys, i, v, rfl, rfl, .of (s1 _ _ hb'), atI_nat hv, ?_⟩
            walk_at "w"
            refine ⟨u, v, rfl, (hS i u v hu hv).same s1, fun H2 s2 => ?_⟩
            refine ⟨_, s2 _ _ h1, ?_, fun c o e => ?_, ?_⟩
            · rw [List.length_replicate]
              omega
            · rw [upd_ne (ne_of_none e hD)]
              exact s2 _ _ (s1 _ _ e)
            · rw [upd_same, List.replicate_succ']
          · rintro H1 ⟨s1, h1⟩
            walk_at "w"
            refine ⟨D, List.replicate ys.length true, rfl, .of (by rw [List.map_replicate]; exact h1), ?_⟩
            rw [show (List.replicate ys.length true).all id = true by simp]
            exact q H1 s1
end
end K01
/-! ## what the reader reads, in plain Lean -/
namespace FE
open PySem L2 K01
/-- what is read: texts, numbers, nothing, tuples of such -/
inductive D where
  | s (z : Str)
  | i (n : Int)
  | non
  | tup (xs : List D)
abbrev TK : Type := K01.Tok
inductive R (α : Type) where
  | out
  | bad (r : List TK)
  | ok (a : α) (r : List TK)
abbrev M (α : Type) : Type := List TK → R α
def rt {α : Type} (a : α) : M α := fun r => .ok a r
def bn {α β : Type} (f : M α) (g : α → M β) : M β := fun r => match f r with
  | .out => .out
  | .bad q => .bad q
  | .ok a q => g a q
def dOf : V → D
  | .str z => .s z
  | .int n => .i n
  | _ => .non
def isKM (t : TK) : Bool := decide (t.s = "key") || decide (t.s = "mark")
def isAhead (w : Str) : List TK → Bool
  | t :: _ => isKM t && decide (t.v = .str w)
  | [] => false
def aheadOf (ws : List Str) : List TK → Option Str
  | t :: _ => if isKM t = true then (match t.v with
    | .str z => if z ∈ ws then some z else none
    | _ => none) else none
  | [] => none
def sortAt (k : Nat) (r : List TK) : V := match r[k]? with
  | some t => .str t.s
  | none => .non
def bindOf (z : Str) : Int := if z = "or" then 1 else if z = "and" then 2 else if z ∈ (["==", "!=", "<", "<=", ">", ">="] : List Str) then 4 else if z = "+" ∨ z = "-" then 5 else if z ∈ (["*", "/", "mod"] : List Str) then 6 else 0
def bindAhead : List TK → Int
  | t :: _ => if isKM t = true then (match t.v with
    | .str z => bindOf z
    | _ => 0) else 0
  | [] => 0
def look : M (List TK) := fun r => .ok r r
def wrong {α : Type} : M α := fun r => .bad r
def skip1 : M Unit := fun r => match r with
  | _ :: q => .ok () q
  | [] => .bad []
/-- the sign ahead is w, no bracket -/
def want (w : Str) : M Unit := fun r => if isAhead w r = true then .ok () r.tail else .bad r
def skips (w : Str) : M Bool := fun r => if isAhead w r = true then .ok true r.tail else .ok false r
def wantName : M D := fun r => match r with
  | t :: q => if t.s = "name" then .ok (dOf t.v) q else .bad r
  | [] => .bad r
def takeV : M D := fun r => match r with
  | t :: q => .ok (dOf t.v) q
  | [] => .bad r
/-- what is read within a bracket more -/
structure Ps where
  e : M D
  st : M D
def wantOpen (w : Str) (I : Option Ps) : M Ps := fun r => if isAhead w r = true then (match I with
  | some i => .ok i r.tail
  | none => .bad r) else .bad r
def many (p : M D) : Nat → M (List D)
  | 0 => fun _ => .out
  | n + 1 => fun r => if isAhead "," r = true then (bn p fun a => bn (many p n) fun as => rt (a :: as)) r.tail else .ok [] r
def listOf (p : M D) (cl : Str) : M (List D) := fun r => if isAhead cl r = true then .ok [] r else (bn p fun a => bn (many p (r.length + 1)) fun as => rt (a :: as)) r
def pArgs (op cl : Str) (I : Option Ps) : M D := bn (wantOpen op I) fun i => bn (listOf i.e cl) fun as => bn (want cl) fun _ => rt (.tup as)
def pParams (I : Option Ps) : M D := bn (wantOpen "(" I) fun _ => bn (listOf wantName ")") fun as => bn (want ")") fun _ => rt (.tup as)
def sts (p : M D) : Nat → M (List D)
  | 0 => fun _ => .out
  | n + 1 => fun r => if isAhead "}" r = true then .ok [] r else (bn p fun a => bn (sts p n) fun as => rt (a :: as)) r
def pBlock (I : Option Ps) : M D := bn (wantOpen "{" I) fun i => bn (fun r => sts i.st (r.length + 1) r) fun as => bn (want "}") fun _ => rt (.tup as)
def ASKS : List Str := ["len", "weak", "worth", "number", "spawn", "join", "yield"]
def ALONE : List Str := ["true", "false", "nil", "this"]
def PLACES : List Str := ["name", "field", "item"]
def pAsk (I : Option Ps) : M D := bn takeV fun key => bn (wantOpen "(" I) fun i => bn (match key with
  | .s z => if z = "yield" then rt [] else bn i.e fun a => rt [a]
  | _ => bn i.e fun a => rt [a]) fun as => bn (want ")") fun _ => rt (.tup [.s "ask", key, .tup as])
def pKeyed (I : Option Ps) : M D := fun r =>
  if (aheadOf ALONE r).isSome = true then (bn takeV fun k => rt (.tup [k])) r
  else if (aheadOf ASKS r).isSome = true then pAsk I r
  else if isAhead "(" r = true then (bn (wantOpen "(" I) fun i => bn i.e fun a => bn (want ")") fun _ => rt a) r
  else if isAhead "[" r = true then (bn (pArgs "[" "]" I) fun a => rt (.tup [.s "list", a])) r
  else if isAhead "fun" r = true then (bn (pParams I) fun ps => bn (pBlock I) fun b => rt (.tup [.s "fun", ps, b])) r.tail
  else if isAhead "super" r = true then (bn (want ".") fun _ => bn wantName fun x => bn (pArgs "(" ")" I) fun a => rt (.tup [.s "up", x, a])) r.tail
  else (bn (want "new") fun _ => bn wantName fun x => bn (pArgs "(" ")" I) fun a => rt (.tup [.s "new", x, a])) r
def isPlain (v : V) : Bool := decide (v = .str "number") || (decide (v = .str "text") || decide (v = .str "name"))
def pFirst (I : Option Ps) : M D := fun r => match r with
  | t :: q => if isPlain (.str t.s) = true then .ok (.tup [.s t.s, dOf t.v]) q else pKeyed I r
  | [] => pKeyed I r
def pMessage (I : Option Ps) (head : D) : M D := bn wantName fun x => fun r => if isAhead "(" r = true then (bn (pArgs "(" ")" I) fun a => rt (.tup [.s "send", head, x, a])) r else .ok (.tup [.s "field", head, x]) r
def behind (I : Option Ps) : Nat → D → M D
  | 0, _ => fun _ => .out
  | n + 1, f => fun r =>
    if (aheadOf ["(", ".", "["] r).isSome = true then (
      if isAhead "(" r = true then (bn (pArgs "(" ")" I) fun a => behind I n (.tup [.s "call", f, a])) r
      else if isAhead "." r = true then (bn (pMessage I f) fun a => behind I n a) r.tail
      else (bn (wantOpen "[" I) fun i => bn i.e fun a => bn (want "]") fun _ => behind I n (.tup [.s "item", f, a])) r)
    else .ok f r
def pBehind (I : Option Ps) : M D := bn (pFirst I) fun f => fun r => behind I (r.length + 1) f r
/-- operands and what waits, the last first -/
abbrev Stk : Type := List D × List (Int × Str)
def isUn (z : Str) : Bool := decide (z = "not") || decide (z = "minus")
def put : Stk → Stk
  | (l :: os, (b, w) :: ws) => if isUn w = true then (.tup [.s w, l] :: os, ws) else (match os with
    | o :: os' => (.tup [.s w, o, l] :: os', ws)
    | [] => ([], (b, w) :: ws))
  | s => s
def putAll : Nat → Stk → Stk
  | 0, s => s
  | n + 1, (os, w :: ws) => putAll n (put (os, w :: ws))
  | _ + 1, s => s
def holds (bind : Int) : List (Int × Str) → Bool
  | (b, _) :: _ => decide (bind ≤ b) && !(decide (b = bind) && decide (bind = 4))
  | [] => false
def putDown (bind : Int) : Nat → Stk → Stk
  | 0, s => s
  | n + 1, s => if holds bind s.2 = true then putDown bind n (put s) else s
def lowAt : List (Int × Str) → Bool
  | (b, _) :: _ => decide (b ≤ 3)
  | [] => true
def ahead : Nat → List (Int × Str) → M (List (Int × Str))
  | 0, _ => fun _ => .out
  | n + 1, ws => fun r =>
    if (isAhead "not" r && lowAt ws) = true then ahead n ((3, "not") :: ws) r.tail
    else if isAhead "-" r = true then ahead n ((7, "minus") :: ws) r.tail
    else .ok ws r
def meets (bind : Int) : List (Int × Str) → Bool
  | (b, _) :: _ => decide (b = bind)
  | [] => false
def headStr : List TK → Str
  | t :: _ => (match t.v with
    | .str z => z
    | _ => "")
  | [] => ""
def exprs (I : Option Ps) : Nat → Stk → M D
  | 0, _ => fun _ => .out
  | n + 1, (os, ws) => bn (fun r => ahead (r.length + 1) ws r) fun ws1 => bn (pBehind I) fun a => fun r =>
    let bind := bindAhead r
    let s := putDown bind (ws1.length) (a :: os, ws1)
    if (decide (bind = 0) || meets bind s.2) = true then (match (putAll s.2.length s).1.getLast? with
      | some d => .ok d r
      | none => .out)
    else exprs I n (s.1, (bind, headStr r) :: s.2) r.tail
def pE (I : Option Ps) : M D := fun r => exprs I (r.length + 1) ([], []) r
def headOf : D → V
  | .tup (.s z :: _) => .str z
  | _ => .non
def isPlace (d : D) : Bool := decide (headOf d = .str "name") || (decide (headOf d = .str "field") || decide (headOf d = .str "item"))
def pSet (I : Option Ps) (f : D) : M D := fun r => if isAhead "=" r = true then (if isPlace f = true then (bn (pE I) fun g => rt (.tup [.s "set", f, g])) r.tail else .bad r) else .ok (.tup [.s "do", f]) r
def pPlain (I : Option Ps) : M D := bn (pE I) fun f => bn (pSet I f) fun a => bn (want ";") fun _ => rt a
def WITHE : List Str := ["return", "throw", "say"]
def SHORT : List Str := ["var", "break", "continue", "return", "throw", "say"]
def pShort (I : Option Ps) : M D := fun r =>
  let key := headStr r
  (bn takeV fun k => bn (if key ∈ WITHE then bn (pE I) fun e => rt (D.tup [k, e]) else if key = "var" then bn wantName fun x => bn (want "=") fun _ => bn (pE I) fun e => rt (.tup [.s "var", x, e]) else rt (.tup [k])) fun a => bn (want ";") fun _ => rt a) r
def pSt (I : Option Ps) : M D := fun r =>
  if (aheadOf SHORT r).isSome = true then pShort I r
  else if isAhead "try" r = true then (bn (pBlock I) fun b => bn (want "catch") fun _ => bn wantName fun x => bn (pBlock I) fun c => rt (.tup [.s "try", b, x, c])) r.tail
  else if isAhead "while" r = true then (bn (pE I) fun e => bn (pBlock I) fun b => rt (.tup [.s "while", e, b])) r.tail
  else if isAhead "if" r = true then (bn (pE I) fun e => bn (pBlock I) fun b => bn (fun q => if isAhead "else" q = true then pBlock I q.tail else .ok (.tup []) q) fun c => rt (.tup [.s "if", e, b, c])) r.tail
  else pPlain I r
def lvl : Nat → Ps
  | 0 => ⟨pE none, pSt none⟩
  | d + 1 => ⟨pE (some (lvl d)), pSt (some (lvl d))⟩
def lvIn : Nat → Option Ps
  | 0 => none
  | d + 1 => some (lvl d)
theorem lvl_eq (d : Nat) : lvl d = ⟨pE (lvIn d), pSt (lvIn d)⟩ := by cases d <;> rfl
def members : Nat → List D → List D → M (List D × List D)
  | 0, _, _ => fun _ => .out
  | n + 1, fs, ms => fun r => if isAhead "}" r = true then .ok (fs, ms) r else (bn wantName fun x => fun q =>
    if (ms.isEmpty && isAhead ";" q) = true then members n (fs ++ [x]) ms q.tail
    else (bn (pParams (lvIn 59)) fun ps => bn (pBlock (lvIn 59)) fun b => members n fs (ms ++ [.tup [x, ps, b]])) q) r
def pClass : M D := bn (want "class") fun _ => bn wantName fun x => bn (fun r => if isAhead "of" r = true then wantName r.tail else .ok .non r) fun el => bn (wantOpen "{" (lvIn 60)) fun _ => bn (fun r => members (r.length + 1) [] [] r) fun fm => bn (want "}") fun _ => rt (.tup [.s "class", x, el, .tup fm.1, .tup fm.2])
def pItem : M D := fun r =>
  if isAhead "class" r = true then pClass r
  else if (isAhead "fun" r && decide (sortAt 1 r = .str "name")) = true then (bn (want "fun") fun _ => bn wantName fun x => bn (pParams (lvIn 60)) fun ps => bn (pBlock (lvIn 60)) fun b => rt (.tup [.s "function", x, ps, b])) r
  else pSt (lvIn 60) r
def items : Nat → M (List D)
  | 0 => fun _ => .out
  | n + 1 => fun r => match r with
    | [] => .ok [] []
    | _ :: _ => (bn pItem fun a => bn (items n) fun as => rt (a :: as)) r
def pAll : M (List D) := fun r => items (r.length + 1) r
end FE
namespace L2
open PySem PySem.Spec PyProof.Rows
/-- d.get(e, f), d a written dict of the module with text keys -/
def tKGet2 (K : PySem.W.Frag) (d : Addr) (te tf : TE) : TE := fun σ H Q => te σ H fun y H1 => tf σ H1 fun z H2 => ∃ (k : Str) (r : Option Value), y = .str k ∧ PySem.W.nsIn K d k = some r ∧ match r with
  | some u0 => ∃ v0, RelV v0 u0 ∧ Q v0 H2
  | none => Q z H2
theorem pe_kget2 {X : Cx} {d : Addr} {x : Str} {e f : Expr} {te tf : TE} {p apos cpos : Pos} (D : ∃ es n, KDict X.K X.w d es n) (hg : Gl X x) (hm : X.mg x = some (.ref d)) (he : PE X e te) (hf : PE X f tf) (m : M2 X (.Name x p) "get" apos e f cpos := by exact ⟨rfl, rfl, rfl, rfl⟩) (hdb : (x == ("__debug__" : Str)) = false := by decide) :
    PE X (.Call (.Attribute (.Name x p) "get" apos) [e, f] [] cpos) (tKGet2 X.K d te tf) := by
  obtain ⟨es, n, D⟩ := D
  refine ⟨fun pins s σ H Q I h => ?_⟩
  refine wpAny_Call_method m.base m.few m.line PySem.F.plainAttrs_dict PySem.F.slot_dict_get PySem.F.type_dict_get (ld_glob I hg hm ?_ hdb)
  refine ⟨kd_type D I, fun b q => ?_, ?_⟩
  · cases q
    exact ⟨_, I.kIn _ _ D.at_, rfl⟩
  rw [m.trees]
  refine Calls.callWith_builtin rfl (Calls.evalArgs_plain (Calls.spliced_cons (thn (he.run pins s σ H _ I h) fun iv s2 z =>
    Calls.spliced_cons ?_)))
  obtain ⟨y, H2, I2, ry, q2⟩ := z
  refine thn (hf.run pins s2 σ H2 _ I2 q2) fun fv s3 z => Calls.spliced_nil ?_
  obtain ⟨z, H3, I3, rz, k, r, rfl, e3, q3⟩ := z
  obtain ⟨t, rfl⟩ := ry
  have mo := PySem.W.mapOf_K (prog := X.prog) (w := X.w) I3.kIn D.at_ D.lit
  refine call_meetsIn PySem.F.slot_dict_get mo.typeIs PySem.F.entry_dict_get (PySem.F.args_dict_get_3 _ _ _) (meets_dict_get_default (strKind X.prog X.w) d (PySem.strKind_is X.prog X.w k t) D.low fv) ⟨_, mo, ?_⟩
  rw [PySem.W.find_K D.at_ e3]
  cases r with
  | none => exact ⟨z, H3, I3.tok _, rz, q3⟩
  | some u0 =>
    obtain ⟨v0, r0, q0⟩ := q3
    exact ⟨v0, H3, I3.tok _, r0, q0⟩
end L2
namespace FE
open PySem L2 K01
/-! ## what stands in the heap -/
inductive Rep (H : Hp) : V → D → Prop
  | s (z : Str) : Rep H (.str z) (.s z)
  | i (n : Int) : Rep H (.int n) (.i n)
  | non : Rep H .non .non
  | tup {p : Addr} {us : List V} {xs : List D} (h : H p = some (.tup us)) (l : us.length = xs.length) (e : ∀ (i : Nat) (u : V) (x : D), us[i]? = some u → xs[i]? = some x → Rep H u x) : Rep H (.ref p) (.tup xs)
theorem Rep.mono {H H' : Hp} (s : ∀ p xs, H p = some (.tup xs) → H' p = some (.tup xs)) {v : V} {d : D} (h : Rep H v d) : Rep H' v d := by
  induction h with
  | s z => exact .s z
  | i n => exact .i n
  | non => exact .non
  | tup h l e ih => exact .tup (s _ _ h) l ih
theorem Rep.same {H H' : Hp} (s : Same H H') {v : V} {d : D} (h : Rep H v d) : Rep H' v d := h.mono fun _ _ e => s _ _ e
def Reps (H : Hp) (us : List V) (xs : List D) : Prop := us.length = xs.length ∧ ∀ (i : Nat) (u : V) (x : D), us[i]? = some u → xs[i]? = some x → Rep H u x
theorem Reps.nil {H : Hp} : Reps H [] [] := ⟨rfl, fun i u x e => by cases e⟩
theorem Reps.cons {H : Hp} {u : V} {x : D} {us : List V} {xs : List D} (h : Rep H u x) (t : Reps H us xs) : Reps H (u :: us) (x :: xs) := ⟨by rw [List.length_cons, List.length_cons, t.1], fun i v y e e' => match i, e, e' with
  | 0, e, e' => by cases e; cases e'; exact h
  | i + 1, e, e' => t.2 i v y e e'⟩
theorem Reps.mono {H H' : Hp} (s : ∀ p xs, H p = some (.tup xs) → H' p = some (.tup xs)) {us : List V} {xs : List D} (h : Reps H us xs) : Reps H' us xs := ⟨h.1, fun i u x e e' => (h.2 i u x e e').mono s⟩
theorem Reps.snoc {H : Hp} {u : V} {x : D} : ∀ {us : List V} {xs : List D}, Reps H us xs → Rep H u x → Reps H (us ++ [u]) (xs ++ [x])
  | [], [], _, h => .cons h .nil
  | v :: us, y :: xs, t, h => .cons (t.2 0 v y rfl rfl) (Reps.snoc (us := us) (xs := xs) ⟨Nat.succ.inj t.1, fun i u x e e' => t.2 (i + 1) u x e e'⟩ h)
  | [], _ :: _, t, _ => by cases t.1
  | _ :: _, [], t, _ => by cases t.1
theorem Reps.app {H : Hp} : ∀ {us : List V} {xs : List D} {vs : List V} {ys : List D}, Reps H us xs → Reps H vs ys → Reps H (us ++ vs) (xs ++ ys)
  | [], [], _, _, _, h => h
  | v :: us, y :: xs, _, _, t, h => .cons (t.2 0 v y rfl rfl) (Reps.app (us := us) (xs := xs) ⟨Nat.succ.inj t.1, fun i u x e e' => t.2 (i + 1) u x e e'⟩ h)
  | [], _ :: _, _, _, t, _ => by cases t.1
  | _ :: _, [], _, _, t, _ => by cases t.1
theorem Rep.ofs {H : Hp} {p : Addr} {us : List V} {xs : List D} (h : H p = some (.tup us)) (t : Reps H us xs) : Rep H (.ref p) (.tup xs) := .tup h t.1 t.2
/-- a word is as words tells it -/
def TokOk (k : TK) : Prop := (k.s = "key" ∧ ∃ z, z ∈ KEYS ∧ k.v = .str z) ∨ (k.s = "mark" ∧ ∃ z, k.v = .str z) ∨ (k.s = "name" ∧ ∃ z, k.v = .str z) ∨ (k.s = "text" ∧ ∃ z, k.v = .str z) ∨ (k.s = "number" ∧ ∃ n, k.v = .int n)
theorem TokOk.rep {H : Hp} {k : TK} (h : TokOk k) : Rep H k.v (dOf k.v) := by
  rcases h with ⟨_, z, _, e⟩ | ⟨_, z, e⟩ | ⟨_, z, e⟩ | ⟨_, z, e⟩ | ⟨_, n, e⟩ <;> rw [e] <;> constructor
theorem TokOk.km {k : TK} (h : TokOk k) (m : isKM k = true) : ∃ z, k.v = .str z := by
  rcases h with ⟨_, z, _, e⟩ | ⟨_, z, e⟩ | ⟨_, z, e⟩ | ⟨_, z, e⟩ | ⟨q, n, e⟩
  · exact ⟨z, e⟩
  · exact ⟨z, e⟩
  · exact ⟨z, e⟩
  · exact ⟨z, e⟩
  · exfalso
    unfold isKM at m
    rw [q] at m
    exact absurd m (by decide +kernel)
/-- the words of a reader, where they stand -/
structure Wds where
  W : Addr
  l : List TK
/-- a reader that has the words T, of which r are ahead; o brackets are open -/
def Rdr (K : PySem.W.Frag) (H : Hp) (rd : Addr) (T : Wds) (last : Int) (r : List TK) (o : Int) : Prop := ∃ (dx : Addr) (us : List V) (i : Nat),
  H rd = some (.ins (He.ga K "Reader") dx [("kept_words", .ref T.W), ("kept_last", .int last), ("kept_at", .int i), ("kept_open", .int o)]) ∧ H T.W = some (.lst us) ∧ Toks H us T.l ∧ T.l.drop i = r ∧ i ≤ T.l.length ∧ T.l.length ≤ big ∧ ∀ k ∈ T.l, TokOk k
theorem Rdr.same {K : PySem.W.Frag} {H H' : Hp} {rd : Addr} {T : Wds} {r : List TK} {last o : Int} (s : Same H H') (h : Rdr K H rd T last r o) : Rdr K H' rd T last r o := by
  obtain ⟨dx, us, i, h1, h2, h3, h4⟩ := h
  exact ⟨dx, us, i, s _ _ h1, s _ _ h2, h3.mono fun _ _ e => s _ _ e, h4⟩
theorem Rdr.ok {K : PySem.W.Frag} {H : Hp} {rd : Addr} {T : Wds} {r : List TK} {last o : Int} (h : Rdr K H rd T last r o) : ∀ k ∈ r, TokOk k := by
  obtain ⟨dx, us, i, h1, h2, h3, h4, h5, h6, h7⟩ := h
  intro k hk
  subst h4
  exact h7 k (List.mem_of_mem_drop hk)
theorem Rdr.free {K : PySem.W.Frag} {H : Hp} {rd p : Addr} {T : Wds} {r : List TK} {last o : Int} (h : Rdr K H rd T last r o) (e : H p = none) : p ≠ rd := by
  obtain ⟨dx, us, i, h1, _⟩ := h
  exact (ne_of_none h1 e).symm
theorem KeepF.tups {K : PySem.W.Frag} {H H' : Hp} {rd : Addr} {T : Wds} {r : List TK} {last o : Int} (h : Rdr K H rd T last r o) (k : KeepF rd H H') : ∀ p xs, H p = some (.tup xs) → H' p = some (.tup xs) := fun p xs e => k p _ (fun z => by
  subst z
  obtain ⟨dx, us, i, h1, _⟩ := h
  rw [e] at h1
  cases h1) e
theorem KeepF.lst {K : PySem.W.Frag} {H H' : Hp} {rd : Addr} {T : Wds} {r : List TK} {last o : Int} (h : Rdr K H rd T last r o) (k : KeepF rd H H') {p : Addr} {xs : List V} (e : H p = some (.lst xs)) : H' p = some (.lst xs) := k p _ (fun z => by
  subst z
  obtain ⟨dx, us, i, h1, _⟩ := h
  rw [e] at h1
  cases h1) e
theorem toks_at {H : Hp} : ∀ {us : List V} {T : List TK}, Toks H us T → ∀ {i : Nat} {k : TK}, T[i]? = some k → ∃ p, us[i]? = some (.ref p) ∧ H p = some (.tup [.str k.s, k.v, .int k.l])
  | _, _, .nil, i, k, e => by cases e
  | _, _, .cons ⟨p, h1, h2⟩ t, 0, k, e => by
    cases e
    exact ⟨p, by rw [h1]; rfl, h2⟩
  | _, _, .cons a t, i + 1, k, e => toks_at t e
/-- the word at a place ahead -/
theorem Rdr.at_ {K : PySem.W.Frag} {H : Hp} {rd : Addr} {T : Wds} {r : List TK} {last o : Int} (h : Rdr K H rd T last r o) : ∃ (dx W : Addr) (us : List V) (i : Nat), W = T.W ∧ H rd = some (.ins (He.ga K "Reader") dx [("kept_words", .ref W), ("kept_last", .int last), ("kept_at", .int i), ("kept_open", .int o)]) ∧ H W = some (.lst us) ∧ us.length = i + r.length ∧
    ∀ (j : Nat) (k : TK), r[j]? = some k → ∃ p, us[i + j]? = some (.ref p) ∧ H p = some (.tup [.str k.s, k.v, .int k.l]) := by
  obtain ⟨dx, us, i, h1, h2, h3, h4, h5, h6, h7⟩ := h
  refine ⟨dx, T.W, us, i, rfl, h1, h2, ?_, fun j k e => toks_at h3 (by rw [← h4, List.getElem?_drop] at e; exact e)⟩
  rw [h3.length, ← h4, List.length_drop]
  omega
structure Txr (P : Program) (w : World) (K : PySem.W.Frag) (mg : Str → Option Value) : Prop where
  e_BadText : PySem.SupXBadText.SupTxt P K mg (He.ga K "BadText") (He.ma K (He.ga K "BadText") "__init__")
  c_Reader : Cls K (He.ga K "Reader")
  n_words : NoAttr K (He.ga K "Reader") "kept_words"
  n_last : NoAttr K (He.ga K "Reader") "kept_last"
  n_at : NoAttr K (He.ga K "Reader") "kept_at"
  n_open : NoAttr K (He.ga K "Reader") "kept_open"
  f_len : mg "len" = none
  f_tuple : mg "tuple" = none
  g_OPENING : mg "OPENING" = some (.ref (He.ga K "OPENING"))
  t_OPENING : ∀ H, SqT K H (He.ga K "OPENING") [.str "(", .str "[", .str "{"]
  g_CLOSING : mg "CLOSING" = some (.ref (He.ga K "CLOSING"))
  t_CLOSING : ∀ H, SqT K H (He.ga K "CLOSING") [.str ")", .str "]", .str "}"]
  g_MOST_OPEN : ∃ u, mg "MOST_OPEN" = some (.int 60 u)
  g_ALONE : mg "ALONE" = some (.ref (He.ga K "ALONE"))
  t_ALONE : ∀ H, SqT K H (He.ga K "ALONE") (ALONE.map V.str)
  g_ASKS : mg "ASKS" = some (.ref (He.ga K "ASKS"))
  t_ASKS : ∀ H, SqT K H (He.ga K "ASKS") (ASKS.map V.str)
  g_PLACES : mg "PLACES" = some (.ref (He.ga K "PLACES"))
  t_PLACES : ∀ H, SqT K H (He.ga K "PLACES") (PLACES.map V.str)
  g_WITH_E : mg "WITH_E" = some (.ref (He.ga K "WITH_E"))
  t_WITH_E : ∀ H, SqT K H (He.ga K "WITH_E") (WITHE.map V.str)
  g_NOT : ∃ u, mg "NOT" = some (.int 3 u)
  g_BESIDE : ∃ u, mg "BESIDE" = some (.int 4 u)
  g_MINUS : ∃ u, mg "MINUS" = some (.int 7 u)
  g_BINDS : mg "BINDS" = some (.ref (He.ga K "BINDS"))
  d_BINDS : ∃ es n, KDict K w (He.ga K "BINDS") es n
  v_BINDS : ∀ z : Str, (bindOf z = 0 ∧ PySem.W.nsIn K (He.ga K "BINDS") z = some none) ∨ ∃ u, PySem.W.nsIn K (He.ga K "BINDS") z = some (some (.int (bindOf z) u))
end FE
namespace FE
open PySem L2 K01
abbrev s_Reader_is_more : Stmt := inClass (top 43) 1
abbrev N_Reader_is_more : List Str := ["self"]
abbrev P_Reader_is_more : List Str := ["self"]
theorem sc_Reader_is_more : FnScope N_Reader_is_more P_Reader_is_more (defScope s_Reader_is_more) := ⟨rfl, rfl, rfl, by decide +kernel, rfl, by decide +kernel, by decide +kernel⟩
abbrev s_Reader_sort_at : Stmt := inClass (top 43) 2
abbrev N_Reader_sort_at : List Str := ["self", "far", "place"]
abbrev P_Reader_sort_at : List Str := ["self", "far"]
theorem sc_Reader_sort_at : FnScope N_Reader_sort_at P_Reader_sort_at (defScope s_Reader_sort_at) := ⟨rfl, rfl, rfl, by decide +kernel, rfl, by decide +kernel, by decide +kernel⟩
abbrev s_Reader_is_ahead : Stmt := inClass (top 43) 3
abbrev N_Reader_is_ahead : List Str := ["self", "word"]
abbrev P_Reader_is_ahead : List Str := ["self", "word"]
theorem sc_Reader_is_ahead : FnScope N_Reader_is_ahead P_Reader_is_ahead (defScope s_Reader_is_ahead) := ⟨rfl, rfl, rfl, by decide +kernel, rfl, by decide +kernel, by decide +kernel⟩
abbrev s_Reader_ahead_of : Stmt := inClass (top 43) 4
abbrev N_Reader_ahead_of : List Str := ["self", "choice", "word"]
abbrev P_Reader_ahead_of : List Str := ["self", "choice"]
theorem sc_Reader_ahead_of : FnScope N_Reader_ahead_of P_Reader_ahead_of (defScope s_Reader_ahead_of) := ⟨rfl, rfl, rfl, by decide +kernel, rfl, by decide +kernel, by decide +kernel⟩
abbrev s_Reader_bind_ahead : Stmt := inClass (top 43) 5
abbrev N_Reader_bind_ahead : List Str := ["self"]
abbrev P_Reader_bind_ahead : List Str := ["self"]
theorem sc_Reader_bind_ahead : FnScope N_Reader_bind_ahead P_Reader_bind_ahead (defScope s_Reader_bind_ahead) := ⟨rfl, rfl, rfl, by decide +kernel, rfl, by decide +kernel, by decide +kernel⟩
abbrev s_Reader_wrong : Stmt := inClass (top 43) 6
abbrev N_Reader_wrong : List Str := ["self"]
abbrev P_Reader_wrong : List Str := ["self"]
theorem sc_Reader_wrong : FnScope N_Reader_wrong P_Reader_wrong (defScope s_Reader_wrong) := ⟨rfl, rfl, rfl, by decide +kernel, rfl, by decide +kernel, by decide +kernel⟩
abbrev s_Reader_take : Stmt := inClass (top 43) 7
abbrev N_Reader_take : List Str := ["self", "sort", "word", "line"]
abbrev P_Reader_take : List Str := ["self"]
theorem sc_Reader_take : FnScope N_Reader_take P_Reader_take (defScope s_Reader_take) := ⟨rfl, rfl, rfl, by decide +kernel, rfl, by decide +kernel, by decide +kernel⟩
abbrev s_Reader_want : Stmt := inClass (top 43) 8
abbrev N_Reader_want : List Str := ["self", "word"]
abbrev P_Reader_want : List Str := ["self", "word"]
theorem sc_Reader_want : FnScope N_Reader_want P_Reader_want (defScope s_Reader_want) := ⟨rfl, rfl, rfl, by decide +kernel, rfl, by decide +kernel, by decide +kernel⟩
abbrev s_Reader_want_name : Stmt := inClass (top 43) 9
abbrev N_Reader_want_name : List Str := ["self"]
abbrev P_Reader_want_name : List Str := ["self"]
theorem sc_Reader_want_name : FnScope N_Reader_want_name P_Reader_want_name (defScope s_Reader_want_name) := ⟨rfl, rfl, rfl, by decide +kernel, rfl, by decide +kernel, by decide +kernel⟩
abbrev s_Reader_skips : Stmt := inClass (top 43) 10
abbrev N_Reader_skips : List Str := ["self", "word", "found"]
abbrev P_Reader_skips : List Str := ["self", "word"]
theorem sc_Reader_skips : FnScope N_Reader_skips P_Reader_skips (defScope s_Reader_skips) := ⟨rfl, rfl, rfl, by decide +kernel, rfl, by decide +kernel, by decide +kernel⟩
theorem sqT_same {K : PySem.W.Frag} {H H' : Hp} {a : Addr} {xs : List V} (e : Same H H') (h : SqT K H a xs) : SqT K H' a xs := by
  rcases h with (h | ⟨o, h⟩) | h
  · exact .inl (.inl (e _ _ h))
  · exact .inl (.inr ⟨o, e _ _ h⟩)
  · exact .inr h
abbrev FnM (K : PySem.W.Frag) (m q : Str) (st : Stmt) (f : Addr) (fd : FuncData) : Prop := FunD K m q (defArgs st) (defBody st) (defScope st) [] [] f fd
def oS : Option Str → V
  | some z => .str z
  | none => .non
def lineOf (last : Int) : List TK → Int
  | t :: _ => t.l
  | [] => last
def spIsMore (K : PySem.W.Frag) : Sp := fun vs H Q _ => ∃ rd T last r o, vs = [.ref rd] ∧ Rdr K H rd T last r o ∧ Q (.bl (!r.isEmpty)) H
def spSortAt (K : PySem.W.Frag) : Sp := fun vs H Q _ => ∃ rd T last r o, ∃ k : Nat, vs = [.ref rd, .int k] ∧ Rdr K H rd T last r o ∧ Q (sortAt k r) H
def spIsAhead (K : PySem.W.Frag) : Sp := fun vs H Q _ => ∃ rd T last r o w, vs = [.ref rd, .str w] ∧ Rdr K H rd T last r o ∧ ∀ H', Same H H' → Q (.bl (isAhead w r)) H'
def spAheadOf (K : PySem.W.Frag) : Sp := fun vs H Q _ => ∃ rd T last r o c, ∃ ws : List Str, vs = [.ref rd, .ref c] ∧ Rdr K H rd T last r o ∧ SqT K H c (ws.map V.str) ∧ ∀ H', Same H H' → Q (oS (aheadOf ws r)) H'
def spBindAhead (K : PySem.W.Frag) : Sp := fun vs H Q _ => ∃ rd T last r o, vs = [.ref rd] ∧ Rdr K H rd T last r o ∧ ∀ H', Same H H' → Q (.int (bindAhead r)) H'
def spWrong (K : PySem.W.Frag) : Sp := fun vs H Q E => ∃ rd T last r o, vs = [.ref rd] ∧ Rdr K H rd T last r o ∧ Bads K E H (lineOf last r)
theorem sq_flat {ws : List Str} : ∀ z ∈ ws.map V.str, flatV z = true := fun z h => by
  obtain ⟨y, _, rfl⟩ := List.mem_map.mp h
  rfl
section
variable {P : Program} {w : World} {K : PySem.W.Frag} {mg : Str → Option Value} {base : Heap}
theorem ok_Reader_is_more (T : Txr P w K mg) {f : Addr} {fd : FuncData} (F : FnM K "is_more" "Reader.is_more" s_Reader_is_more f fd) : FnOk P w K mg base CX0 1 f fd P_Reader_is_more (spIsMore K) := by
  refine F.ok sc_Reader_is_more (fun vs H Q E h => ?_) (fun cdv A outer s H vs Q E hr h => ?_)
  · obtain ⟨rd, T, last, r, o, rfl, _⟩ := h
    rfl
  · obtain ⟨rd, Ts, last, r, o, rfl, hR, q⟩ := h
    refine ⟨_, PSs.nox (pss_one (ps_ret (pe_cmpR op_lt (pe_fld (pv 0) rfl) (pe_callB call_lenN (by rfl) T.f_len (by decide +kernel) (pa_cons (pe_fld (pv 0) rfl) pa_nil)) (nomark _)))), ?_⟩
    obtain ⟨dx, W, us, i, hW, h1, h2, h3, h4⟩ := hR.at_
    walk_at "w"
    refine ⟨rd, _, dx, _, _, rfl, h1, T.c_Reader, T.n_at, rfl, ?_⟩
    walk_at "w"
    refine ⟨rd, _, dx, _, _, rfl, h1, T.c_Reader, T.n_words, rfl, ?_⟩
    walk_at "w"
    refine w_lenL (.of h2) ?_
    walk_at "w"
    rw [h3]
    cases r with
    | nil =>
      rw [decide_eq_false (by show ¬ ((i : Int) < ((i + 0 : Nat) : Int)); omega)]
      exact q
    | cons t q' =>
      rw [decide_eq_true (by rw [List.length_cons]; omega)]
      exact q
theorem sort_km {k : Nat} {r : List TK} {t : TK} (e : r[k]? = some t) : sortAt k r = .str t.s := by unfold sortAt; rw [e]
theorem ok_Reader_sort_at (T : Txr P w K mg) {f : Addr} {fd : FuncData} (F : FnM K "sort_at" "Reader.sort_at" s_Reader_sort_at f fd) : FnOk P w K mg base CX0 1 f fd P_Reader_sort_at (spSortAt K) := by
  refine F.ok sc_Reader_sort_at (fun vs H Q E h => ?_) (fun cdv A outer s H vs Q E hr h => ?_)
  · obtain ⟨rd, T, last, r, o, k, rfl, _⟩ := h
    rfl
  · obtain ⟨rd, Ts, last, r, o, k, rfl, hR, q⟩ := h
    refine ⟨_, PSs.nox (pss_cons (ps_set (i := 2) sc_Reader_sort_at.nd rfl (Or.inl rfl) (pe_op op_add (pe_fld (pv 0) rfl) (pv 1)))
  (pss_one (ps_ret (pe_ifExp (pt_cmpR op_lt (pv 2) (pe_callB call_lenN (by rfl) T.f_len (by decide +kernel) (pa_cons (pe_fld (pv 0) rfl) pa_nil)) (nomark _)) (pe_ix ix_tup (pe_ix ix_list (pe_fld (pv 0) rfl) (pv 2) (fun _ _ => rfl)) pe_int (fun _ _ => rfl)) pe_non)))), ?_⟩
    obtain ⟨dx, W, us, i, hW, h1, h2, h3, h4⟩ := hR.at_
    walk_at "w"
    refine ⟨rd, _, dx, _, _, rfl, h1, T.c_Reader, T.n_at, rfl, ?_⟩
    walk_at "w"
    refine ⟨rd, _, dx, _, _, rfl, h1, T.c_Reader, T.n_words, rfl, ?_⟩
    walk_at "w"
    refine w_lenL (.of h2) ?_
    walk_at "w"
    rw [h3]
    cases e : r[k]? with
    | none =>
      have hk : r.length ≤ k := List.getElem?_eq_none_iff.mp e
      rw [decide_eq_false (by omega)]
      walk_at "w"
      have z : sortAt k r = .non := by unfold sortAt; rw [e]
      rw [z] at q
      exact q
    | some t =>
      have hk : k < r.length := (List.getElem?_eq_some_iff.mp e).1
      rw [decide_eq_true (by omega)]
      obtain ⟨p, e1, e2⟩ := h4 k t e
      rw [sort_km e] at q
      walk_at "w"
      refine ⟨rd, _, dx, _, _, rfl, h1, T.c_Reader, T.n_words, rfl, ?_⟩
      walk_at "w"
      refine w_ixL (.of h2) (by have z := atI_nat e1; rw [show ((i + k : Nat) : Int) = (i : Int) + (k : Int) by omega] at z; exact z) ?_
      walk_at "w"
      exact w_ixT (.of e2) (atI_nat (j := 0) rfl) q
def inStrs (x : V) (ws : List Str) : Bool := match x with
  | .str z => decide (z ∈ ws)
  | _ => false
theorem inV_strs (x : V) (ws : List Str) : inV x (ws.map V.str) = inStrs x ws := by
  unfold inV
  rw [List.any_map]
  cases x with
  | str z =>
    show (ws.any fun y => eqV (.str y) (.str z)) = decide (z ∈ ws)
    show (ws.any fun y => y == z) = decide (z ∈ ws)
    rw [Bool.eq_iff_iff, List.any_eq_true, decide_eq_true_iff]
    constructor
    · rintro ⟨y, h1, h2⟩
      rw [← beq_iff_eq.mp h2]
      exact h1
    · intro h
      exact ⟨z, h, beq_self_eq_true z⟩
  | _ =>
    show (ws.any fun y => false) = false
    simp
theorem w_inStrs {K : PySem.W.Frag} {H : Hp} {Q : VK} {x : V} {p : Addr} (ws : List Str) (h : SqT K H p (ws.map V.str)) (hf : flatV x = true) (q : Q (.bl (inStrs x ws)) H) : rIn K false x (.ref p) H Q := ⟨p, _, rfl, .inr h, hf, List.all_eq_true.mpr sq_flat, by rw [← inV_strs] at q; exact q⟩
theorem w_notInStrs {K : PySem.W.Frag} {H : Hp} {Q : VK} {x : V} {p : Addr} (ws : List Str) (h : SqT K H p (ws.map V.str)) (hf : flatV x = true) (q : Q (.bl (!(inStrs x ws))) H) : rIn K true x (.ref p) H Q := ⟨p, _, rfl, .inr h, hf, List.all_eq_true.mpr sq_flat, by rw [← inV_strs] at q; exact q⟩
theorem sort_flat (k : Nat) (r : List TK) : flatV (sortAt k r) = true := by
  unfold sortAt
  cases r[k]? <;> rfl
def kmB : List TK → Bool
  | t :: _ => isKM t
  | [] => false
theorem sort_kmB (r : List TK) : inStrs (sortAt 0 r) ["key", "mark"] = kmB r := by
  cases r with
  | nil => rfl
  | cons t q =>
    show decide (t.s ∈ (["key", "mark"] : List Str)) = isKM t
    unfold isKM
    simp
theorem ok_Reader_is_ahead (T : Txr P w K mg) {f : Addr} {fd : FuncData} (F : FnM K "is_ahead" "Reader.is_ahead" s_Reader_is_ahead f fd) (D_Reader_sort_at : CalM P w K mg base CX0 1 (He.ga K "Reader") "sort_at" P_Reader_sort_at (spSortAt K)) : FnOk P w K mg base CX0 2 f fd P_Reader_is_ahead (spIsAhead K) := by
  refine F.ok sc_Reader_is_ahead (fun vs H Q E h => ?_) (fun cdv A outer s H vs Q E hr h => ?_)
  · obtain ⟨rd, T, last, r, o, k, rfl, _⟩ := h
    rfl
  · obtain ⟨rd, Ts, last, r, o, x, rfl, hR, q⟩ := h
    refine ⟨_, PSs.nox (pss_one (ps_ret (pe_and (pe_cmpR op_in_seq (pe_met (pv 0) D_Reader_sort_at hr rfl pass0 (pa_cons pe_int pa_nil)) (pe_tup (pa_cons pe_str (pa_cons pe_str pa_nil))) (by rfl)) (pe_one (pe_cmpR op_eq (pe_ix ix_tup (pe_ix ix_list (pe_fld (pv 0) rfl) (pe_fld (pv 0) rfl) (fun _ _ => rfl)) pe_int (fun _ _ => rfl)) (pv 1) (nomark _)))))), ?_⟩
    obtain ⟨dx, W, us, i, hW, h1, h2, h3, h4⟩ := hR.at_
    walk_at "w"
    refine w_met 0 rfl h1 rfl ?_
    walk_at "w"
    refine ⟨rd, Ts, last, r, o, 0, rfl, hR, ?_⟩
    walk_at "w"
    refine ⟨by show 2 ≤ sizeLine; decide, fun p hp => ?_⟩
    refine w_inStrs ["key", "mark"] (.of upd_same) (sort_flat 0 r) ?_
    rw [sort_kmB]
    walk_at "w"
    have s1 := sameUpd (o := .tup [.str "key", .str "mark"]) hp
    cases hk : kmB r with
    | false =>
      have z : isAhead x r = false := by
        cases r with
        | nil => rfl
        | cons t q' =>
          show (isKM t && _) = false
          rw [show isKM t = false from hk]
          rfl
      refine w_f ?_
      have y := q _ s1
      rw [z] at y
      exact y
    | true =>
      cases r with
      | nil => cases hk
      | cons t q' =>
        obtain ⟨p1, e1, e2⟩ := h4 0 t rfl
        have z : isAhead x (t :: q') = decide (t.v = .str x) := by
          show (isKM t && _) = _
          rw [show isKM t = true from hk]
          rfl
        have y := q _ s1
        rw [z] at y
        obtain ⟨u, hu⟩ := (hR.ok t (List.mem_cons_self ..)).km hk
        rw [hu] at y e2
        walk_at "w"
        refine ⟨rd, _, dx, _, _, rfl, s1 _ _ h1, T.c_Reader, T.n_words, rfl, ?_⟩
        walk_at "w"
        refine ⟨rd, _, dx, _, _, rfl, s1 _ _ h1, T.c_Reader, T.n_at, rfl, ?_⟩
        walk_at "w"
        refine w_ixL (.of (s1 _ _ h2)) (atI_nat e1) ?_
        walk_at "w"
        refine w_ixT (.of (s1 _ _ e2)) (atI_nat (j := 1) rfl) ?_
        walk_at "w"
        exact w_eq rfl y
theorem ok_Reader_ahead_of (T : Txr P w K mg) {f : Addr} {fd : FuncData} (F : FnM K "ahead_of" "Reader.ahead_of" s_Reader_ahead_of f fd) (D_Reader_sort_at : CalM P w K mg base CX0 1 (He.ga K "Reader") "sort_at" P_Reader_sort_at (spSortAt K)) : FnOk P w K mg base CX0 2 f fd P_Reader_ahead_of (spAheadOf K) := by
  refine F.ok sc_Reader_ahead_of (fun vs H Q E h => ?_) (fun cdv A outer s H vs Q E hr h => ?_)
  · obtain ⟨rd, T, last, r, o, c, ws, rfl, _⟩ := h
    rfl
  · obtain ⟨rd, Ts, last, r, o, c, ws, rfl, hR, hc, q⟩ := h
    refine ⟨_, PSs.nox (pss_cons (ps_if (pt_cmpR op_notIn_seq (pe_met (pv 0) D_Reader_sort_at hr rfl pass0 (pa_cons pe_int pa_nil)) (pe_tup (pa_cons pe_str (pa_cons pe_str pa_nil))) (by rfl)) (pss_one (ps_ret pe_non)) pss_nil)
  (pss_cons (ps_set (i := 2) sc_Reader_ahead_of.nd rfl (Or.inl rfl) (pe_ix ix_tup (pe_ix ix_list (pe_fld (pv 0) rfl) (pe_fld (pv 0) rfl) (fun _ _ => rfl)) pe_int (fun _ _ => rfl)))
  (pss_one (ps_ret (pe_ifExp (pt_cmpR op_in_seq (pv 2) (pv 1) (by rfl)) (pv 2) pe_non))))), ?_⟩
    obtain ⟨dx, W, us, i, hW, h1, h2, h3, h4⟩ := hR.at_
    walk_at "w"
    refine w_met 0 rfl h1 rfl ?_
    walk_at "w"
    refine ⟨rd, Ts, last, r, o, 0, rfl, hR, ?_⟩
    walk_at "w"
    refine ⟨by show 2 ≤ sizeLine; decide, fun p hp => ?_⟩
    refine w_notInStrs ["key", "mark"] (.of upd_same) (sort_flat 0 r) ?_
    rw [sort_kmB]
    walk_at "w"
    have s1 := sameUpd (o := .tup [.str "key", .str "mark"]) hp
    cases hk : kmB r with
    | false =>
      refine w_nf ?_
      walk_at "w"
      have y := q _ s1
      have z : aheadOf ws r = none := by
        cases r with
        | nil => rfl
        | cons t q' => exact if_neg (by rw [show isKM t = false from hk]; decide)
      rw [z] at y
      exact y
    | true =>
      refine w_nt ?_
      cases r with
      | nil => cases hk
      | cons t q' =>
        obtain ⟨p1, e1, e2⟩ := h4 0 t rfl
        obtain ⟨u, hu⟩ := (hR.ok t (List.mem_cons_self ..)).km hk
        have z : aheadOf ws (t :: q') = if u ∈ ws then some u else none := by
          show (if isKM t = true then _ else _) = _
          rw [if_pos (show isKM t = true from hk), hu]
        have y := q _ s1
        rw [z] at y
        rw [hu] at e2
        walk_at "w"
        refine ⟨rd, _, dx, _, _, rfl, s1 _ _ h1, T.c_Reader, T.n_words, rfl, ?_⟩
        walk_at "w"
        refine ⟨rd, _, dx, _, _, rfl, s1 _ _ h1, T.c_Reader, T.n_at, rfl, ?_⟩
        walk_at "w"
        refine w_ixL (.of (s1 _ _ h2)) (atI_nat e1) ?_
        walk_at "w"
        refine w_ixT (.of (s1 _ _ e2)) (atI_nat (j := 1) rfl) ?_
        walk_at "w"
        refine w_inStrs ws (sqT_same s1 hc) rfl ?_
        show ∃ k, V.bl (decide (u ∈ ws)) = .bl k ∧ _
        by_cases hw : u ∈ ws
        · rw [decide_eq_true hw]
          rw [if_pos hw] at y
          walk_at "w"
          exact y
        · rw [decide_eq_false hw]
          rw [if_neg hw] at y
          walk_at "w"
          exact y
theorem ok_Reader_bind_ahead (T : Txr P w K mg) {f : Addr} {fd : FuncData} (F : FnM K "bind_ahead" "Reader.bind_ahead" s_Reader_bind_ahead f fd) (D_Reader_sort_at : CalM P w K mg base CX0 1 (He.ga K "Reader") "sort_at" P_Reader_sort_at (spSortAt K)) : FnOk P w K mg base CX0 2 f fd P_Reader_bind_ahead (spBindAhead K) := by
  refine F.ok sc_Reader_bind_ahead (fun vs H Q E h => ?_) (fun cdv A outer s H vs Q E hr h => ?_)
  · obtain ⟨rd, T, last, r, o, rfl, _⟩ := h
    rfl
  · obtain ⟨rd, Ts, last, r, o, rfl, hR, q⟩ := h
    refine ⟨_, PSs.nox (pss_cons (ps_if (pt_cmpR op_notIn_seq (pe_met (pv 0) D_Reader_sort_at hr rfl pass0 (pa_cons pe_int pa_nil)) (pe_tup (pa_cons pe_str (pa_cons pe_str pa_nil))) (by rfl)) (pss_one (ps_ret pe_int)) pss_nil)
  (pss_one (ps_ret (pe_kget2 T.d_BINDS rfl T.g_BINDS (pe_ix ix_tup (pe_ix ix_list (pe_fld (pv 0) rfl) (pe_fld (pv 0) rfl) (fun _ _ => rfl)) pe_int (fun _ _ => rfl)) pe_int)))), ?_⟩
    obtain ⟨dx, W, us, i, hW, h1, h2, h3, h4⟩ := hR.at_
    walk_at "w"
    refine w_met 0 rfl h1 rfl ?_
    walk_at "w"
    refine ⟨rd, Ts, last, r, o, 0, rfl, hR, ?_⟩
    walk_at "w"
    refine ⟨by show 2 ≤ sizeLine; decide, fun p hp => ?_⟩
    refine w_notInStrs ["key", "mark"] (.of upd_same) (sort_flat 0 r) ?_
    rw [sort_kmB]
    walk_at "w"
    have s1 := sameUpd (o := .tup [.str "key", .str "mark"]) hp
    cases hk : kmB r with
    | false =>
      refine w_nf ?_
      walk_at "w"
      have y := q _ s1
      have z : bindAhead r = 0 := by
        cases r with
        | nil => rfl
        | cons t q' => exact if_neg (by rw [show isKM t = false from hk]; decide)
      rw [z] at y
      exact y
    | true =>
      refine w_nt ?_
      cases r with
      | nil => cases hk
      | cons t q' =>
        obtain ⟨p1, e1, e2⟩ := h4 0 t rfl
        obtain ⟨u, hu⟩ := (hR.ok t (List.mem_cons_self ..)).km hk
        have z : bindAhead (t :: q') = bindOf u := by
          show (if isKM t = true then _ else _) = _
          rw [if_pos (show isKM t = true from hk), hu]
        have y := q _ s1
        rw [z] at y
        rw [hu] at e2
        walk_at "w"
        show tKGet2 K (He.ga K "BINDS") _ _ _ _ _
        unfold tKGet2
        walk_at "w"
        refine ⟨rd, _, dx, _, _, rfl, s1 _ _ h1, T.c_Reader, T.n_words, rfl, ?_⟩
        walk_at "w"
        refine ⟨rd, _, dx, _, _, rfl, s1 _ _ h1, T.c_Reader, T.n_at, rfl, ?_⟩
        walk_at "w"
        refine w_ixL (.of (s1 _ _ h2)) (atI_nat e1) ?_
        walk_at "w"
        refine w_ixT (.of (s1 _ _ e2)) (atI_nat (j := 1) rfl) ?_
        walk_at "w"
        rcases T.v_BINDS u with ⟨b0, b1⟩ | ⟨t1, b1⟩
        · rw [b0] at y
          exact ⟨u, none, rfl, b1, y⟩
        · exact ⟨u, some _, rfl, b1, .int (bindOf u), ⟨t1, rfl⟩, y⟩
theorem ok_Reader_wrong (T : Txr P w K mg) {f : Addr} {fd : FuncData} (F : FnM K "wrong" "Reader.wrong" s_Reader_wrong f fd) (D_Reader_is_more : CalM P w K mg base CX0 1 (He.ga K "Reader") "is_more" P_Reader_is_more (spIsMore K)) : FnOk P w K mg base (L2.CX P w) 2 f fd P_Reader_wrong (spWrong K) := by
  refine F.ok sc_Reader_wrong (fun vs H Q E h => ?_) (fun cdv A outer s H vs Q E hr h => ?_)
  · obtain ⟨rd, T, last, r, o, rfl, _⟩ := h
    rfl
  · obtain ⟨rd, Ts, last, r, o, rfl, hR, q⟩ := h
    refine ⟨_, (pss_one (ps_raiseBadText rfl T.e_BadText hr (takes_of rfl rfl rfl rfl) (pa_cons (pe_ifExp (pt_val (pe_met0 (pv 0) D_Reader_is_more hr rfl pass0)) (pe_ix ix_tup (pe_ix ix_list (pe_fld (pv 0) rfl) (pe_fld (pv 0) rfl) (fun _ _ => rfl)) pe_int (fun _ _ => rfl)) (pe_fld (pv 0) rfl)) pa_nil))), ?_⟩
    obtain ⟨dx, W, us, i, hW, h1, h2, h3, h4⟩ := hR.at_
    unfold tRaiseBadText tMkBadText
    walk_at "w"
    refine w_met 0 rfl h1 rfl ?_
    walk_at "w"
    refine ⟨rd, Ts, last, r, o, rfl, hR, ?_⟩
    cases r with
    | nil =>
      change ∃ k, V.bl false = V.bl k ∧ _
      walk_at "w"
      refine ⟨rd, _, dx, _, _, rfl, h1, T.c_Reader, T.n_last, rfl, ?_⟩
      walk_at "w"
      exact ⟨_, rfl, fun d hd => q d hd⟩
    | cons t q' =>
      obtain ⟨p1, e1, e2⟩ := h4 0 t rfl
      change ∃ k, V.bl true = V.bl k ∧ _
      walk_at "w"
      refine ⟨rd, _, dx, _, _, rfl, h1, T.c_Reader, T.n_words, rfl, ?_⟩
      walk_at "w"
      refine ⟨rd, _, dx, _, _, rfl, h1, T.c_Reader, T.n_at, rfl, ?_⟩
      walk_at "w"
      refine w_ixL (.of h2) (atI_nat e1) ?_
      walk_at "w"
      refine w_ixT (.of e2) (atI_nat (j := 2) rfl) ?_
      walk_at "w"
      exact ⟨_, rfl, fun d hd => q d hd⟩
/-- the brackets that are open behind a word -/
def opn (t : TK) (o : Int) : Option Int := if t.s = "mark" ∧ inStrs t.v ["(", "[", "{"] = true then (if o = 60 then none else some (o + 1)) else if t.s = "mark" ∧ inStrs t.v [")", "]", "}"] = true then some (o - 1) else some o
/-- behind a word, or the word refused -/
def TookT (K : PySem.W.Frag) (H : Hp) (rd : Addr) (T : Wds) (last : Int) (t : TK) (q : List TK) (o : Int) (E : XK) (k : List TK → V → Hp → Prop) : Prop := match opn t o with
  | none => ∀ H', Same H H' → Bads K E H' t.l
  | some o' => ∀ H', KeepF rd H H' → Rdr K H' rd T last q o' → k q t.v H'
def Took (K : PySem.W.Frag) (H : Hp) (rd : Addr) (T : Wds) (last : Int) (r : List TK) (o : Int) (E : XK) (k : List TK → V → Hp → Prop) : Prop := match r with
  | [] => ∀ H', Same H H' → Bads K E H' last
  | t :: q => TookT K H rd T last t q o E k
theorem Took.t {K : PySem.W.Frag} {H : Hp} {rd : Addr} {T : Wds} {last : Int} {t : TK} {q : List TK} {o : Int} {E : XK} {k : List TK → V → Hp → Prop} : Took K H rd T last (t :: q) o E k = TookT K H rd T last t q o E k := rfl
theorem TookT.no {K : PySem.W.Frag} {H : Hp} {rd : Addr} {T : Wds} {last : Int} {t : TK} {q : List TK} {o : Int} {E : XK} {k : List TK → V → Hp → Prop} (h : TookT K H rd T last t q o E k) (e : opn t o = none) : ∀ H', Same H H' → Bads K E H' t.l := by
  unfold TookT at h
  rw [e] at h
  exact h
theorem TookT.on {K : PySem.W.Frag} {H : Hp} {rd : Addr} {T : Wds} {last : Int} {t : TK} {q : List TK} {o o' : Int} {E : XK} {k : List TK → V → Hp → Prop} (h : TookT K H rd T last t q o E k) (e : opn t o = some o') : ∀ H', KeepF rd H H' → Rdr K H' rd T last q o' → k q t.v H' := by
  unfold TookT at h
  rw [e] at h
  exact h
theorem TookT.mk {K : PySem.W.Frag} {H : Hp} {rd : Addr} {T : Wds} {last : Int} {t : TK} {q : List TK} {o : Int} {E : XK} {k : List TK → V → Hp → Prop} (h1 : opn t o = none → ∀ H', Same H H' → Bads K E H' t.l) (h2 : ∀ o', opn t o = some o' → ∀ H', KeepF rd H H' → Rdr K H' rd T last q o' → k q t.v H') : TookT K H rd T last t q o E k := by
  unfold TookT
  split
  · exact h1 ‹_›
  · exact h2 _ ‹_›
def spTake (K : PySem.W.Frag) : Sp := fun vs H Q E => ∃ rd T last r o, vs = [.ref rd] ∧ Rdr K H rd T last r o ∧ Took K H rd T last r o E fun _ v H' => Q v H'
theorem ok_Reader_take (T : Txr P w K mg) {f : Addr} {fd : FuncData} (F : FnM K "take" "Reader.take" s_Reader_take f fd) (D_Reader_is_more : CalM P w K mg base CX0 1 (He.ga K "Reader") "is_more" P_Reader_is_more (spIsMore K)) (D_Reader_wrong : CalM P w K mg base (L2.CX P w) 2 (He.ga K "Reader") "wrong" P_Reader_wrong (spWrong K)) :
    FnOk P w K mg base (L2.CX P w) 3 f fd P_Reader_take (spTake K) := by
  refine F.ok sc_Reader_take (fun vs H Q E h => ?_) (fun cdv A outer s H vs Q E hr h => ?_)
  · obtain ⟨rd, T, last, r, o, rfl, _⟩ := h
    rfl
  · obtain ⟨rd, Ts, last, r, o, rfl, hR, q⟩ := h
    refine ⟨_, (pss_cons (ps_if (pt_not (pt_val (pe_met0 (pv 0) D_Reader_is_more hr rfl pass0))) (pss_one (ps_expr (pe_metS0 (pv 0) D_Reader_wrong hr rfl (takes_of rfl rfl rfl rfl)))) pss_nil)
  (pss_cons (ps_asg (pe_ix ix_list (pe_fld (pv 0) rfl) (pe_fld (pv 0) rfl) (fun _ _ => rfl)) (pg_tup (by rfl) (pgs_cons (pg_name (i := 1) sc_Reader_take.nd rfl (Or.inl rfl)) (pgs_cons (pg_name (i := 2) sc_Reader_take.nd rfl (Or.inl rfl)) (pgs_cons (pg_name (i := 3) sc_Reader_take.nd rfl (Or.inl rfl)) pgs_nil)))))
  (pss_cons (ps_if (PW.pt (pw_and (pt_cmpR op_eq (pv 1) pe_str (nomark _)) (pw_and1 (pt_cmpR op_in_seq (pv 2) (pe_gr T.g_OPENING) (by rfl))))) (pss_cons (ps_if (pt_cmpR op_eq (pe_fld (pv 0) rfl) (pe_gi T.g_MOST_OPEN) (nomark _)) (pss_one (ps_expr (pe_metS0 (pv 0) D_Reader_wrong hr rfl (takes_of rfl rfl rfl rfl)))) pss_nil)
  (pss_one (ps_fldaug (pv 0) pe_int in_add))) (pss_one (ps_if (PW.pt (pw_and (pt_cmpR op_eq (pv 1) pe_str (nomark _)) (pw_and1 (pt_cmpR op_in_seq (pv 2) (pe_gr T.g_CLOSING) (by rfl))))) (pss_one (ps_fldaug (pv 0) pe_int in_sub)) pss_nil)))
  (pss_cons (ps_fldaug (pv 0) pe_int in_add)
  (pss_one (ps_ret (pv 2))))))), ?_⟩
    obtain ⟨dx, W, us, i, hW, h1, h2, h3, h4⟩ := hR.at_
    walk_at "w"
    refine w_met 0 rfl h1 rfl ?_
    walk_at "w"
    refine ⟨rd, Ts, last, r, o, rfl, hR, ?_⟩
    cases r with
    | nil =>
      change ∃ k, V.bl false = V.bl k ∧ _
      walk_at "w"
      refine w_meW 0 rfl h1 rfl ?_
      walk_at "w"
      exact ⟨rd, Ts, last, [], o, rfl, hR, q H (.refl _)⟩
    | cons t q' =>
      change ∃ k, V.bl true = V.bl k ∧ _
      walk_at "w"
      obtain ⟨p1, e1, e2⟩ := h4 0 t rfl
      refine ⟨rd, _, dx, _, _, rfl, h1, T.c_Reader, T.n_words, rfl, ?_⟩
      walk_at "w"
      refine ⟨rd, _, dx, _, _, rfl, h1, T.c_Reader, T.n_at, rfl, ?_⟩
      refine w_ixL (.of h2) (atI_nat e1) ?_
      refine ⟨p1, _, rfl, .of e2, rfl, _, _, rfl, w_name ⟨_, _, rfl, w_name ⟨_, _, rfl, w_name ⟨rfl, ?_⟩⟩⟩⟩
      have raise : opn t o = none → ∀ H', Same H H' → Bads K E H' t.l := fun q1 => TookT.no (Took.t ▸ q) q1
      have on : ∀ o', opn t o = some o' → ∀ H', KeepF rd H H' → Rdr K H' rd Ts last q' o' → Q t.v H' := fun o' q1 => TookT.on (Took.t ▸ q) q1
      have upR : ∀ (o' : Int), Rdr K (upd H rd (.ins (He.ga K "Reader") dx [("kept_words", .ref W), ("kept_last", .int last), ("kept_at", .int ((i + 1 : Nat) : Int)), ("kept_open", .int o')])) rd Ts last q' o' := fun o' => by
        subst hW
        obtain ⟨dx', us', i', g1, g2, g3, g4, g5, g6, g7⟩ := hR
        have e5 := h1.symm.trans g1
        simp only [Option.some.injEq, HO.ins.injEq, List.cons.injEq, Prod.mk.injEq, V.ref.injEq, V.int.injEq, true_and, and_true] at e5
        obtain ⟨rfl, e6⟩ := e5
        have e7 : i = i' := by omega
        subst e7
        have hne : Ts.W ≠ rd := ne_of g2 h1 (by intro z; cases z)
        have hl : i < Ts.l.length := by
          have z := congrArg List.length g4
          rw [List.length_drop, List.length_cons] at z
          omega
        refine ⟨dx, us', i + 1, upd_same, ?_, ?_, ?_, hl, g6, g7⟩
        · rw [upd_ne hne]
          exact g2
        · refine g3.mono fun p xs e => ?_
          rw [upd_ne (ne_of e h1 (by intro z; cases z))]
          exact e
        · rw [← List.drop_drop, g4] <;> rfl
      have kU : ∀ (o' : HO), KeepF rd H (upd H rd o') := fun o' a u h e => by
        rw [upd_ne h]
        exact e
      with_reducible refine seq_cut (fun σ' H' => σ' = [some (.ref rd), some (.str t.s), some t.v, some (.int t.l)] ∧ ∃ o', opn t o = some o' ∧ H' = upd H rd (.ins (He.ga K "Reader") dx [("kept_words", .ref W), ("kept_last", .int last), ("kept_at", .int (i : Int)), ("kept_open", .int o')])) (fun N k => ?_) ?_
      · have same0 : upd H rd (.ins (He.ga K "Reader") dx [("kept_words", .ref W), ("kept_last", .int last), ("kept_at", .int (i : Int)), ("kept_open", .int o)]) = H := by
          funext b
          by_cases hb : b = rd
          · rw [hb, upd_same, h1]
          · rw [upd_ne hb]
        have flat : flatV t.v = true := by
          rcases hR.ok t (List.mem_cons_self ..) with ⟨_, z, _, e⟩ | ⟨_, z, e⟩ | ⟨_, z, e⟩ | ⟨_, z, e⟩ | ⟨_, n, e⟩ <;> rw [e] <;> rfl
        have clos : ∀ (N : L2.St → Hp → Prop) (hno : ¬ (t.s = "mark" ∧ inStrs t.v ["(", "[", "{"] = true)) (k : ∀ σ' H', (σ' = [some (.ref rd), some (.str t.s), some t.v, some (.int t.l)] ∧ ∃ o', opn t o = some o' ∧ H' = upd H rd (.ins (He.ga K "Reader") dx [("kept_words", .ref W), ("kept_last", .int last), ("kept_at", .int (i : Int)), ("kept_open", .int o')])) → N σ' H'), True := fun _ _ _ => trivial
        walk_at "w"
        refine w_eq rfl ?_
        by_cases hm : t.s = "mark"
        · rw [hm, decide_eq_true rfl]
          walk_at "w"
          refine w_inStrs ["(", "[", "{"] (T.t_OPENING H) flat ?_
          cases ho : inStrs t.v ["(", "[", "{"] with
          | true =>
            walk_at "w"
            refine ⟨rd, _, dx, _, _, rfl, h1, T.c_Reader, T.n_open, rfl, ?_⟩
            walk_at "w"
            by_cases h60 : o = 60
            · rw [decide_eq_true h60]
              walk_at "w"
              refine w_meW 0 rfl h1 rfl ?_
              walk_at "w"
              have z : opn t o = none := by
                unfold opn
                rw [if_pos ⟨hm, ho⟩, if_pos h60]
              exact ⟨rd, Ts, last, t :: q', o, rfl, hR, raise z H (.refl _)⟩
            · rw [decide_eq_false h60]
              walk_at "w"
              refine ⟨_, rfl, rd, _, dx, _, _, rfl, h1, T.c_Reader, T.n_open, rfl, ?_⟩
              walk_at "w"
              refine ⟨_, _, rfl, rfl, _, _, h1, Nat.lt_of_lt_of_le (show (4 : Nat) < 5 by decide) (by decide), ?_⟩
              refine k _ _ ⟨by rw [hm]; rfl, o + 1, ?_, rfl⟩
              unfold opn
              rw [if_pos ⟨hm, ho⟩, if_neg h60]
          | false =>
            walk_at "w"
            refine w_eq rfl ?_
            rw [decide_eq_true rfl]
            walk_at "w"
            refine w_inStrs [")", "]", "}"] (T.t_CLOSING H) flat ?_
            have hno : ¬ (t.s = "mark" ∧ inStrs t.v ["(", "[", "{"] = true) := fun z => by
              rw [ho] at z
              cases z.2
            cases hc : inStrs t.v [")", "]", "}"] with
            | true =>
              walk_at "w"
              refine ⟨_, rfl, rd, _, dx, _, _, rfl, h1, T.c_Reader, T.n_open, rfl, ?_⟩
              walk_at "w"
              refine ⟨_, _, rfl, rfl, _, _, h1, Nat.lt_of_lt_of_le (show (4 : Nat) < 5 by decide) (by decide), ?_⟩
              refine k _ _ ⟨by rw [hm]; rfl, o - 1, ?_, rfl⟩
              unfold opn
              rw [if_neg hno, if_pos ⟨hm, hc⟩]
            | false =>
              walk_at "w"
              refine k _ _ ⟨by rw [hm]; rfl, o, ?_, same0.symm⟩
              unfold opn
              rw [if_neg hno, if_neg fun z => by rw [hc] at z; cases z.2]
        · rw [decide_eq_false (fun z => hm (V.str.inj z))]
          walk_at "w"
          refine w_eq rfl ?_
          rw [decide_eq_false (fun z => hm (V.str.inj z))]
          walk_at "w"
          refine k _ _ ⟨rfl, o, ?_, same0.symm⟩
          unfold opn
          rw [if_neg fun z => hm z.1, if_neg fun z => hm z.1]
      rintro _ _ ⟨rfl, o', q1, rfl⟩
      walk_at "w"
      refine ⟨_, rfl, rd, _, dx, _, _, rfl, upd_same, T.c_Reader, T.n_at, rfl, ?_⟩
      walk_at "w"
      refine ⟨_, _, rfl, rfl, _, _, upd_same, Nat.lt_of_lt_of_le (show (4 : Nat) < 5 by decide) (by decide), ?_⟩
      walk_at "w"
      refine on o' q1 _ (fun a u h e => ?_) ?_
      · rw [upd_ne h, upd_ne h]
        exact e
      · have z := upR o'
        have e3 : upd (upd H rd (.ins (He.ga K "Reader") dx [("kept_words", .ref W), ("kept_last", .int last), ("kept_at", .int (i : Int)), ("kept_open", .int o')])) rd (.ins (He.ga K "Reader") dx (putF "kept_at" (.int ((i : Int) + 1)) [("kept_words", .ref W), ("kept_last", .int last), ("kept_at", .int (i : Int)), ("kept_open", .int o')])) =
            upd H rd (.ins (He.ga K "Reader") dx [("kept_words", .ref W), ("kept_last", .int last), ("kept_at", .int ((i + 1 : Nat) : Int)), ("kept_open", .int o')]) := by
          funext b
          by_cases hb : b = rd
          · rw [hb, upd_same, upd_same]
            rfl
          · rw [upd_ne hb, upd_ne hb, upd_ne hb]
        rw [← e3] at z
        exact z
theorem KeepF.same_l {f : Addr} {H H1 H' : Hp} (s : Same H H1) (k : KeepF f H1 H') : KeepF f H H' := fun a o h e => k a o h (s _ _ e)
theorem TookT.same {K : PySem.W.Frag} {H H1 : Hp} {rd : Addr} {T : Wds} {last : Int} {t : TK} {q : List TK} {o : Int} {E : XK} {k : List TK → V → Hp → Prop} (s : Same H H1) (h : TookT K H rd T last t q o E k) : TookT K H1 rd T last t q o E k :=
  .mk (fun e H' s' => h.no e H' (s.trans s')) fun o' e H' k' R => h.on e H' (KeepF.same_l s k') R
theorem Took.same {K : PySem.W.Frag} {H H1 : Hp} {rd : Addr} {T : Wds} {last : Int} {r : List TK} {o : Int} {E : XK} {k : List TK → V → Hp → Prop} (s : Same H H1) (h : Took K H rd T last r o E k) : Took K H1 rd T last r o E k := by
  cases r with
  | nil => exact fun H' s' => h H' (s.trans s')
  | cons t q => exact TookT.same s h
theorem TookT.imp {K : PySem.W.Frag} {H : Hp} {rd : Addr} {T : Wds} {last : Int} {t : TK} {q : List TK} {o : Int} {E : XK} {k k' : List TK → V → Hp → Prop} (h : TookT K H rd T last t q o E k) (i : ∀ q v H', k q v H' → k' q v H') : TookT K H rd T last t q o E k' :=
  .mk h.no fun o' e H' a b => i _ _ _ (h.on e H' a b)
theorem Took.imp {K : PySem.W.Frag} {H : Hp} {rd : Addr} {T : Wds} {last : Int} {r : List TK} {o : Int} {E : XK} {k k' : List TK → V → Hp → Prop} (h : Took K H rd T last r o E k) (i : ∀ q v H', k q v H' → k' q v H') : Took K H rd T last r o E k' := by
  cases r with
  | nil => exact h
  | cons t q => exact TookT.imp h i
def spWant (K : PySem.W.Frag) : Sp := fun vs H Q E => ∃ rd T last r o w, vs = [.ref rd, .str w] ∧ Rdr K H rd T last r o ∧ (isAhead w r = true → Took K H rd T last r o E fun _ _ H' => Q .non H') ∧ (isAhead w r = false → ∀ H', Same H H' → Bads K E H' (lineOf last r))
def spSkips (K : PySem.W.Frag) : Sp := fun vs H Q E => ∃ rd T last r o w, vs = [.ref rd, .str w] ∧ Rdr K H rd T last r o ∧ (isAhead w r = true → Took K H rd T last r o E fun _ _ H' => Q (.bl true) H') ∧ (isAhead w r = false → ∀ H', Same H H' → Q (.bl false) H')
def spWantName (K : PySem.W.Frag) : Sp := fun vs H Q E => ∃ rd T last r o, vs = [.ref rd] ∧ Rdr K H rd T last r o ∧ (∀ t q, r = t :: q → t.s = "name" → ∀ H', KeepF rd H H' → Rdr K H' rd T last q o → Q t.v H') ∧ ((∀ t q, r = t :: q → t.s ≠ "name") → ∀ H', Same H H' → Bads K E H' (lineOf last r))
theorem ok_Reader_want (T : Txr P w K mg) {f : Addr} {fd : FuncData} (F : FnM K "want" "Reader.want" s_Reader_want f fd) (D_Reader_is_ahead : CalM P w K mg base CX0 2 (He.ga K "Reader") "is_ahead" P_Reader_is_ahead (spIsAhead K)) (D_Reader_wrong : CalM P w K mg base (L2.CX P w) 2 (He.ga K "Reader") "wrong" P_Reader_wrong (spWrong K))
    (D_Reader_take : CalM P w K mg base (L2.CX P w) 3 (He.ga K "Reader") "take" P_Reader_take (spTake K)) : FnOk P w K mg base (L2.CX P w) 4 f fd P_Reader_want (spWant K) := by
  refine F.ok sc_Reader_want (fun vs H Q E h => ?_) (fun cdv A outer s H vs Q E hr h => ?_)
  · obtain ⟨rd, T, last, r, o, x, rfl, _⟩ := h
    rfl
  · obtain ⟨rd, Ts, last, r, o, x, rfl, hR, q1, q2⟩ := h
    refine ⟨_, (pss_cons (ps_if (pt_not (pt_val (pe_met (pv 0) D_Reader_is_ahead hr rfl pass0 (pa_cons (pv 1) pa_nil)))) (pss_one (ps_expr (pe_metS0 (pv 0) D_Reader_wrong hr rfl (takes_of rfl rfl rfl rfl)))) pss_nil)
  (pss_one (ps_expr (pe_metS0 (pv 0) D_Reader_take hr rfl (takes_of rfl rfl rfl rfl))))), ?_⟩
    obtain ⟨dx, W, us, i, _, h1, _⟩ := hR.at_
    walk_at "w"
    refine w_met 0 rfl h1 rfl ?_
    walk_at "w"
    refine ⟨rd, Ts, last, r, o, x, rfl, hR, fun H1 s1 => ?_⟩
    cases hx : isAhead x r with
    | true =>
      walk_at "w"
      refine w_meW 0 rfl (s1 _ _ h1) rfl ?_
      walk_at "w"
      exact ⟨rd, Ts, last, r, o, rfl, hR.same s1, ((q1 hx).same s1).imp fun _ _ _ z => z⟩
    | false =>
      walk_at "w"
      refine w_meW 0 rfl (s1 _ _ h1) rfl ?_
      walk_at "w"
      exact ⟨rd, Ts, last, r, o, rfl, hR.same s1, q2 hx _ s1⟩
theorem ok_Reader_skips (T : Txr P w K mg) {f : Addr} {fd : FuncData} (F : FnM K "skips" "Reader.skips" s_Reader_skips f fd) (D_Reader_is_ahead : CalM P w K mg base CX0 2 (He.ga K "Reader") "is_ahead" P_Reader_is_ahead (spIsAhead K))
    (D_Reader_take : CalM P w K mg base (L2.CX P w) 3 (He.ga K "Reader") "take" P_Reader_take (spTake K)) : FnOk P w K mg base (L2.CX P w) 4 f fd P_Reader_skips (spSkips K) := by
  refine F.ok sc_Reader_skips (fun vs H Q E h => ?_) (fun cdv A outer s H vs Q E hr h => ?_)
  · obtain ⟨rd, T, last, r, o, x, rfl, _⟩ := h
    rfl
  · obtain ⟨rd, Ts, last, r, o, x, rfl, hR, q1, q2⟩ := h
    refine ⟨_, (pss_cons (ps_set (i := 2) sc_Reader_skips.nd rfl (Or.inl rfl) (pe_met (pv 0) D_Reader_is_ahead hr rfl pass0 (pa_cons (pv 1) pa_nil)))
  (pss_cons (ps_if (pt_val (pv 2)) (pss_one (ps_expr (pe_metS0 (pv 0) D_Reader_take hr rfl (takes_of rfl rfl rfl rfl)))) pss_nil)
  (pss_one (ps_ret (pv 2))))), ?_⟩
    obtain ⟨dx, W, us, i, _, h1, _⟩ := hR.at_
    walk_at "w"
    refine w_met 0 rfl h1 rfl ?_
    walk_at "w"
    refine ⟨rd, Ts, last, r, o, x, rfl, hR, fun H1 s1 => ?_⟩
    cases hx : isAhead x r with
    | true =>
      walk_at "w"
      refine w_meW 0 rfl (s1 _ _ h1) rfl ?_
      walk_at "w"
      exact ⟨rd, Ts, last, r, o, rfl, hR.same s1, ((q1 hx).same s1).imp fun _ _ _ z => w_ret (w_var rfl z)⟩
    | false =>
      walk_at "w"
      exact q2 hx _ s1
theorem ok_Reader_want_name (T : Txr P w K mg) {f : Addr} {fd : FuncData} (F : FnM K "want_name" "Reader.want_name" s_Reader_want_name f fd) (D_Reader_sort_at : CalM P w K mg base CX0 1 (He.ga K "Reader") "sort_at" P_Reader_sort_at (spSortAt K)) (D_Reader_wrong : CalM P w K mg base (L2.CX P w) 2 (He.ga K "Reader") "wrong" P_Reader_wrong (spWrong K))
    (D_Reader_take : CalM P w K mg base (L2.CX P w) 3 (He.ga K "Reader") "take" P_Reader_take (spTake K)) : FnOk P w K mg base (L2.CX P w) 4 f fd P_Reader_want_name (spWantName K) := by
  refine F.ok sc_Reader_want_name (fun vs H Q E h => ?_) (fun cdv A outer s H vs Q E hr h => ?_)
  · obtain ⟨rd, T, last, r, o, rfl, _⟩ := h
    rfl
  · obtain ⟨rd, Ts, last, r, o, rfl, hR, q1, q2⟩ := h
    refine ⟨_, (pss_cons (ps_if (pt_cmpR op_ne (pe_met (pv 0) D_Reader_sort_at hr rfl pass0 (pa_cons pe_int pa_nil)) pe_str (nomark _)) (pss_one (ps_expr (pe_metS0 (pv 0) D_Reader_wrong hr rfl (takes_of rfl rfl rfl rfl)))) pss_nil)
  (pss_one (ps_ret (pe_metS0 (pv 0) D_Reader_take hr rfl (takes_of rfl rfl rfl rfl))))), ?_⟩
    obtain ⟨dx, W, us, i, _, h1, _⟩ := hR.at_
    walk_at "w"
    refine w_met 0 rfl h1 rfl ?_
    walk_at "w"
    refine ⟨rd, Ts, last, r, o, 0, rfl, hR, ?_⟩
    walk_at "w"
    refine w_ne ?_ ?_
    · unfold sortAt
      cases r[0]? <;> rfl
    by_cases hx : sortAt 0 r = .str "name"
    · rw [decide_eq_true hx]
      refine w_bl ?_
      refine w_nt ?_
      walk_at "w"
      refine w_meW 0 rfl h1 rfl ?_
      walk_at "w"
      cases r with
      | nil => cases hx
      | cons t q =>
        have hn : t.s = "name" := V.str.inj hx
        have ho : opn t o = some o := by
          unfold opn
          rw [hn, if_neg (fun z => absurd z.1 (by decide +kernel)), if_neg (fun z => absurd z.1 (by decide +kernel))]
        refine ⟨rd, Ts, last, t :: q, o, rfl, hR, ?_⟩
        rw [Took.t]
        refine TookT.mk (fun e => by rw [ho] at e; cases e) fun o' e H' k' R => ?_
        rw [ho] at e
        cases e
        exact q1 t q rfl hn H' k' R
    · rw [decide_eq_false hx]
      refine w_bl ?_
      refine w_nf ?_
      walk_at "w"
      refine w_meW 0 rfl h1 rfl ?_
      walk_at "w"
      exact ⟨rd, Ts, last, r, o, rfl, hR, q2 (fun t q e z => hx (by rw [e]; show V.str t.s = _; rw [z])) H (.refl _)⟩
end
end FE
namespace FE
open PySem L2 K01
abbrev s_read_args : Stmt := top 50
abbrev N_read_args : List Str := ["reader", "opening", "closing", "found"]
abbrev P_read_args : List Str := ["reader", "opening", "closing"]
theorem sc_read_args : FnScope N_read_args P_read_args (defScope s_read_args) := ⟨rfl, rfl, rfl, by decide +kernel, rfl, by decide +kernel, by decide +kernel⟩
abbrev s_read_params : Stmt := top 51
abbrev N_read_params : List Str := ["reader", "found"]
abbrev P_read_params : List Str := ["reader"]
theorem sc_read_params : FnScope N_read_params P_read_params (defScope s_read_params) := ⟨rfl, rfl, rfl, by decide +kernel, rfl, by decide +kernel, by decide +kernel⟩
abbrev s_read_block : Stmt := top 52
abbrev N_read_block : List Str := ["reader", "found"]
abbrev P_read_block : List Str := ["reader"]
theorem sc_read_block : FnScope N_read_block P_read_block (defScope s_read_block) := ⟨rfl, rfl, rfl, by decide +kernel, rfl, by decide +kernel, by decide +kernel⟩
abbrev s_read_ask : Stmt := top 53
abbrev N_read_ask : List Str := ["reader", "key", "args"]
abbrev P_read_ask : List Str := ["reader"]
theorem sc_read_ask : FnScope N_read_ask P_read_ask (defScope s_read_ask) := ⟨rfl, rfl, rfl, by decide +kernel, rfl, by decide +kernel, by decide +kernel⟩
abbrev s_read_keyed : Stmt := top 54
abbrev N_read_keyed : List Str := ["reader", "found", "params", "name"]
abbrev P_read_keyed : List Str := ["reader"]
theorem sc_read_keyed : FnScope N_read_keyed P_read_keyed (defScope s_read_keyed) := ⟨rfl, rfl, rfl, by decide +kernel, rfl, by decide +kernel, by decide +kernel⟩
abbrev s_read_first : Stmt := top 55
abbrev N_read_first : List Str := ["reader", "sort"]
abbrev P_read_first : List Str := ["reader"]
theorem sc_read_first : FnScope N_read_first P_read_first (defScope s_read_first) := ⟨rfl, rfl, rfl, by decide +kernel, rfl, by decide +kernel, by decide +kernel⟩
abbrev s_read_message : Stmt := top 56
abbrev N_read_message : List Str := ["reader", "head", "name"]
abbrev P_read_message : List Str := ["reader", "head"]
theorem sc_read_message : FnScope N_read_message P_read_message (defScope s_read_message) := ⟨rfl, rfl, rfl, by decide +kernel, rfl, by decide +kernel, by decide +kernel⟩
abbrev s_read_behind : Stmt := top 57
abbrev N_read_behind : List Str := ["reader", "found"]
abbrev P_read_behind : List Str := ["reader"]
theorem sc_read_behind : FnScope N_read_behind P_read_behind (defScope s_read_behind) := ⟨rfl, rfl, rfl, by decide +kernel, rfl, by decide +kernel, by decide +kernel⟩
abbrev s_put_together : Stmt := top 58
abbrev N_put_together : List Str := ["operands", "waiting", "bind", "word", "last"]
abbrev P_put_together : List Str := ["operands", "waiting"]
theorem sc_put_together : FnScope N_put_together P_put_together (defScope s_put_together) := ⟨rfl, rfl, rfl, by decide +kernel, rfl, by decide +kernel, by decide +kernel⟩
abbrev s_read_ahead : Stmt := top 59
abbrev N_read_ahead : List Str := ["reader", "waiting"]
abbrev P_read_ahead : List Str := ["reader", "waiting"]
theorem sc_read_ahead : FnScope N_read_ahead P_read_ahead (defScope s_read_ahead) := ⟨rfl, rfl, rfl, by decide +kernel, rfl, by decide +kernel, by decide +kernel⟩
abbrev s_read_e : Stmt := top 60
abbrev N_read_e : List Str := ["reader", "operands", "waiting", "bind"]
abbrev P_read_e : List Str := ["reader"]
theorem sc_read_e : FnScope N_read_e P_read_e (defScope s_read_e) := ⟨rfl, rfl, rfl, by decide +kernel, rfl, by decide +kernel, by decide +kernel⟩
abbrev s_read_plain : Stmt := top 61
abbrev N_read_plain : List Str := ["reader", "found"]
abbrev P_read_plain : List Str := ["reader"]
theorem sc_read_plain : FnScope N_read_plain P_read_plain (defScope s_read_plain) := ⟨rfl, rfl, rfl, by decide +kernel, rfl, by decide +kernel, by decide +kernel⟩
abbrev s_read_short : Stmt := top 62
abbrev N_read_short : List Str := ["reader", "key", "found", "name"]
abbrev P_read_short : List Str := ["reader"]
theorem sc_read_short : FnScope N_read_short P_read_short (defScope s_read_short) := ⟨rfl, rfl, rfl, by decide +kernel, rfl, by decide +kernel, by decide +kernel⟩
abbrev s_read_statement : Stmt := top 63
abbrev N_read_statement : List Str := ["reader", "block", "name", "e"]
abbrev P_read_statement : List Str := ["reader"]
theorem sc_read_statement : FnScope N_read_statement P_read_statement (defScope s_read_statement) := ⟨rfl, rfl, rfl, by decide +kernel, rfl, by decide +kernel, by decide +kernel⟩
abbrev s_read_class : Stmt := top 64
abbrev N_read_class : List Str := ["reader", "name", "elder", "fields", "methods", "word", "params"]
abbrev P_read_class : List Str := ["reader"]
theorem sc_read_class : FnScope N_read_class P_read_class (defScope s_read_class) := ⟨rfl, rfl, rfl, by decide +kernel, rfl, by decide +kernel, by decide +kernel⟩
abbrev s_read_item : Stmt := top 65
abbrev N_read_item : List Str := ["reader", "name", "params"]
abbrev P_read_item : List Str := ["reader"]
theorem sc_read_item : FnScope N_read_item P_read_item (defScope s_read_item) := ⟨rfl, rfl, rfl, by decide +kernel, rfl, by decide +kernel, by decide +kernel⟩
theorem bn_assoc {α β γ : Type} {f : M α} {g : α → M β} {h : β → M γ} : bn (bn f g) h = bn f fun a => bn (g a) h := by
  funext r
  unfold bn
  cases f r <;> rfl
theorem bn_rt {α β : Type} {a : α} {g : α → M β} : bn (rt a) g = g a := rfl
/-- what follows of what was read -/
def Got (K : PySem.W.Frag) (H : Hp) (rd : Addr) (T : Wds) (last : Int) (o : Int) (E : XK) (res : R D) (Q : VK) : Prop := match res with
  | .out => False
  | .bad r => ∀ H', KeepF rd H H' → Bads K E H' (lineOf last r)
  | .ok d r => ∀ H' v, KeepF rd H H' → Rdr K H' rd T last r o → Rep H' v d → Q v H'
section
variable {K : PySem.W.Frag} {H H0 H1 : Hp} {rd : Addr} {T : Wds} {last : Int} {o o1 : Int} {E : XK} {Q Q2 : VK} {r : List TK}
theorem Got.bind {f : M D} {g : D → M D} (G : Got K H0 rd T last o E (bn f g r) Q) (k0 : KeepF rd H0 H) (k : ∀ a q H' v, KeepF rd H H' → KeepF rd H0 H' → Rdr K H' rd T last q o1 → Rep H' v a → Got K H0 rd T last o E (g a q) Q → Q2 v H') : Got K H rd T last o1 E (f r) Q2 := by
  unfold bn at G
  cases e : f r with
  | out => rw [e] at G; exact G
  | bad q =>
    rw [e] at G
    exact fun H' k' => G H' (k0.trans k')
  | ok a q =>
    rw [e] at G
    exact fun H' v k' R' h' => k a q H' v k' (k0.trans k') R' h' G
theorem Got.bad (h : Got K H0 rd T last o E (.bad r) Q) : ∀ H', KeepF rd H0 H' → Bads K E H' (lineOf last r) := h
theorem Got.fin {d : D} (h : Got K H0 rd T last o E (.ok d r) Q) {H' : Hp} {v : V} (k : KeepF rd H0 H') (R' : Rdr K H' rd T last r o) (e : Rep H' v d) : Q v H' := h H' v k R' e
/-- the same result is asked for -/
theorem Got.to {res : R D} (G : Got K H0 rd T last o E res Q) (k0 : KeepF rd H0 H) (k : ∀ d q H' v, KeepF rd H H' → KeepF rd H0 H' → Rdr K H' rd T last q o → Rep H' v d → Q v H' → Q2 v H') : Got K H rd T last o E res Q2 := by
  cases res with
  | out => exact G
  | bad q => exact fun H' k' => G H' (k0.trans k')
  | ok a q => exact fun H' v k' R' h' => k a q H' v k' (k0.trans k') R' h' (G H' v (k0.trans k') R' h')
theorem mark_of {t : TK} {w : Str} (ok : TokOk t) (hk : isKM t = true) (hv : t.v = .str w) (hn : w ∉ KEYS) : t.s = "mark" := by
  rcases ok with ⟨_, z, hz, e⟩ | ⟨q, _⟩ | ⟨q, _⟩ | ⟨q, _⟩ | ⟨q, _⟩
  · rw [hv] at e
    cases e
    exact absurd hz hn
  · exact q
  · unfold isKM at hk; rw [q] at hk; exact absurd hk (by decide +kernel)
  · unfold isKM at hk; rw [q] at hk; exact absurd hk (by decide +kernel)
  · unfold isKM at hk; rw [q] at hk; exact absurd hk (by decide +kernel)
theorem ahead_split {w : Str} (h : isAhead w r = true) : ∃ t q, r = t :: q ∧ isKM t = true ∧ t.v = .str w := by
  cases r with
  | nil => cases h
  | cons t q =>
    obtain ⟨h1, h2⟩ := Bool.and_eq_true_iff.mp (show (isKM t && decide (t.v = .str w)) = true from h)
    exact ⟨t, q, rfl, h1, of_decide_eq_true h2⟩
theorem opn_plain {t : TK} {w : Str} (hv : t.v = .str w) (h1 : w ∉ (["(", "[", "{"] : List Str)) (h2 : w ∉ ([")", "]", "}"] : List Str)) : opn t o = some o := by
  unfold opn
  rw [hv, if_neg (fun z => h1 (of_decide_eq_true z.2)), if_neg (fun z => h2 (of_decide_eq_true z.2))]
theorem opn_open {t : TK} {w : Str} (hs : t.s = "mark") (hv : t.v = .str w) (h1 : w ∈ (["(", "[", "{"] : List Str)) : opn t o = if o = 60 then none else some (o + 1) := by
  unfold opn
  rw [hv, if_pos ⟨hs, decide_eq_true h1⟩]
theorem opn_close {t : TK} {w : Str} (hs : t.s = "mark") (hv : t.v = .str w) (h1 : w ∉ (["(", "[", "{"] : List Str)) (h2 : w ∈ ([")", "]", "}"] : List Str)) : opn t o = some (o - 1) := by
  unfold opn
  rw [hv, if_neg (fun z => h1 (of_decide_eq_true z.2)), if_pos ⟨hs, decide_eq_true h2⟩]
/-- a word that is no bracket is wanted -/
theorem want_ok {w : Str} {g : Unit → M D} (h1 : w ∉ (["(", "[", "{"] : List Str)) (h2 : w ∉ ([")", "]", "}"] : List Str)) (hR : Rdr K H rd T last r o1) (k0 : KeepF rd H0 H) (G : Got K H0 rd T last o E (bn (want w) g r) Q)
    (k : ∀ H', isAhead w r = true → KeepF rd H H' → KeepF rd H0 H' → Rdr K H' rd T last r.tail o1 → Got K H0 rd T last o E (g () r.tail) Q → Q2 .non H') : spWant K [.ref rd, .str w] H Q2 E := by
  unfold bn want at G
  refine ⟨rd, T, last, r, o1, w, rfl, hR, fun ha => ?_, fun ha H' s' => ?_⟩
  · obtain ⟨t, q, rfl, hk, hv⟩ := ahead_split ha
    rw [Took.t]
    rw [if_pos ha] at G
    refine TookT.mk (fun e => by rw [opn_plain hv h1 h2] at e; cases e) fun o' e H' k' R' => ?_
    rw [opn_plain hv h1 h2] at e
    cases e
    exact k H' ha k' (k0.trans k') R' G
  · rw [if_neg (by rw [ha]; decide)] at G
    exact G.bad H' (k0.trans (.same s'))
/-- a closing bracket is wanted -/
theorem wantC_ok {w : Str} {g : Unit → M D} (h1 : w ∉ (["(", "[", "{"] : List Str)) (h2 : w ∈ ([")", "]", "}"] : List Str)) (hn : w ∉ KEYS) (hR : Rdr K H rd T last r (o1 + 1)) (k0 : KeepF rd H0 H) (G : Got K H0 rd T last o E (bn (want w) g r) Q)
    (k : ∀ H', isAhead w r = true → KeepF rd H H' → KeepF rd H0 H' → Rdr K H' rd T last r.tail o1 → Got K H0 rd T last o E (g () r.tail) Q → Q2 .non H') : spWant K [.ref rd, .str w] H Q2 E := by
  unfold bn want at G
  refine ⟨rd, T, last, r, o1 + 1, w, rfl, hR, fun ha => ?_, fun ha H' s' => ?_⟩
  · obtain ⟨t, q, rfl, hk, hv⟩ := ahead_split ha
    have hm := mark_of (hR.ok t (List.mem_cons_self ..)) hk hv hn
    rw [Took.t]
    rw [if_pos ha] at G
    refine TookT.mk (fun e => by rw [opn_close hm hv h1 h2] at e; cases e) fun o' e H' k' R' => ?_
    rw [opn_close hm hv h1 h2, show o1 + 1 - 1 = o1 by omega] at e
    cases e
    exact k H' ha k' (k0.trans k') R' G
  · rw [if_neg (by rw [ha]; decide)] at G
    exact G.bad H' (k0.trans (.same s'))
/-- how many brackets are open, and whether one more may be -/
def OpI (I : Option Ps) (o : Int) : Prop := (I = none → o = 60) ∧ ∀ ps, I = some ps → o ≠ 60
theorem wantO_ok {w : Str} {g : Ps → M D} {I : Option Ps} (hI : OpI I o1) (h1 : w ∈ (["(", "[", "{"] : List Str)) (hn : w ∉ KEYS) (hR : Rdr K H rd T last r o1) (k0 : KeepF rd H0 H) (G : Got K H0 rd T last o E (bn (wantOpen w I) g r) Q)
    (k : ∀ ps H', I = some ps → isAhead w r = true → KeepF rd H H' → KeepF rd H0 H' → Rdr K H' rd T last r.tail (o1 + 1) → Got K H0 rd T last o E (g ps r.tail) Q → Q2 .non H') : spWant K [.ref rd, .str w] H Q2 E := by
  unfold bn wantOpen at G
  refine ⟨rd, T, last, r, o1, w, rfl, hR, fun ha => ?_, fun ha H' s' => ?_⟩
  · obtain ⟨t, q, rfl, hk, hv⟩ := ahead_split ha
    have hm := mark_of (hR.ok t (List.mem_cons_self ..)) hk hv hn
    rw [Took.t]
    rw [if_pos ha] at G
    cases I with
    | none =>
      have h60 := hI.1 rfl
      refine TookT.mk (fun e H' s' => G.bad H' (k0.trans (.same s'))) fun o' e => ?_
      rw [opn_open hm hv h1, if_pos h60] at e
      cases e
    | some ps =>
      have h60 := hI.2 ps rfl
      refine TookT.mk (fun e => by rw [opn_open hm hv h1, if_neg h60] at e; cases e) fun o' e H' k' R' => ?_
      rw [opn_open hm hv h1, if_neg h60] at e
      cases e
      exact k ps H' rfl ha k' (k0.trans k') R' G
  · rw [if_neg (by rw [ha]; decide)] at G
    exact G.bad H' (k0.trans (.same s'))
theorem w_spIsAhead {w : Str} (hR : Rdr K H rd T last r o1) (k : ∀ H', Same H H' → Rdr K H' rd T last r o1 → Q2 (.bl (isAhead w r)) H') : spIsAhead K [.ref rd, .str w] H Q2 E := ⟨rd, T, last, r, o1, w, rfl, hR, fun H' s' => k H' s' (hR.same s')⟩
/-- a word that is no bracket is skipped, if it is there -/
theorem skips_ok {w : Str} (h1 : w ∉ (["(", "[", "{"] : List Str)) (h2 : w ∉ ([")", "]", "}"] : List Str)) (hR : Rdr K H rd T last r o1) (kt : ∀ H', isAhead w r = true → KeepF rd H H' → Rdr K H' rd T last r.tail o1 → Q2 (.bl true) H') (kf : ∀ H', isAhead w r = false → Same H H' → Rdr K H' rd T last r o1 → Q2 (.bl false) H') : spSkips K [.ref rd, .str w] H Q2 E := by
  refine ⟨rd, T, last, r, o1, w, rfl, hR, fun ha => ?_, fun ha H' s' => kf H' ha s' (hR.same s')⟩
  obtain ⟨t, q, rfl, hk, hv⟩ := ahead_split ha
  rw [Took.t]
  refine TookT.mk (fun e => by rw [opn_plain hv h1 h2] at e; cases e) fun o' e H' k' R' => ?_
  rw [opn_plain hv h1 h2] at e
  cases e
  exact kt H' ha k' R'
/-- an opening bracket is skipped, if it is there -/
theorem skipsO_ok {w : Str} {g : Ps → M D} {I : Option Ps} (hI : OpI I o1) (h1 : w ∈ (["(", "[", "{"] : List Str)) (hn : w ∉ KEYS) (hR : Rdr K H rd T last r o1) (k0 : KeepF rd H0 H) (G : isAhead w r = true → Got K H0 rd T last o E (bn (wantOpen w I) g r) Q)
    (kt : ∀ ps H', I = some ps → isAhead w r = true → KeepF rd H H' → KeepF rd H0 H' → Rdr K H' rd T last r.tail (o1 + 1) → Got K H0 rd T last o E (g ps r.tail) Q → Q2 (.bl true) H') (kf : ∀ H', isAhead w r = false → Same H H' → Rdr K H' rd T last r o1 → Q2 (.bl false) H') : spSkips K [.ref rd, .str w] H Q2 E := by
  refine ⟨rd, T, last, r, o1, w, rfl, hR, fun ha => ?_, fun ha H' s' => kf H' ha s' (hR.same s')⟩
  have G := G ha
  unfold bn wantOpen at G
  obtain ⟨t, q, rfl, hk, hv⟩ := ahead_split ha
  have hm := mark_of (hR.ok t (List.mem_cons_self ..)) hk hv hn
  rw [Took.t]
  rw [if_pos ha] at G
  cases I with
  | none =>
    have h60 := hI.1 rfl
    refine TookT.mk (fun e H' s' => G.bad H' (k0.trans (.same s'))) fun o' e => ?_
    rw [opn_open hm hv h1, if_pos h60] at e
    cases e
  | some ps =>
    have h60 := hI.2 ps rfl
    refine TookT.mk (fun e => by rw [opn_open hm hv h1, if_neg h60] at e; cases e) fun o' e H' k' R' => ?_
    rw [opn_open hm hv h1, if_neg h60] at e
    cases e
    exact kt ps H' rfl ha k' (k0.trans k') R' G
theorem name_ok {g : D → M D} (hR : Rdr K H rd T last r o1) (k0 : KeepF rd H0 H) (G : Got K H0 rd T last o E (bn wantName g r) Q)
    (k : ∀ H' z q, KeepF rd H H' → KeepF rd H0 H' → Rdr K H' rd T last q o1 → Got K H0 rd T last o E (g (.s z) q) Q → Q2 (.str z) H') : spWantName K [.ref rd] H Q2 E := by
  refine ⟨rd, T, last, r, o1, rfl, hR, fun t q e hn H' k' R' => ?_, fun hn H' s' => ?_⟩
  · subst e
    have ok := hR.ok t (List.mem_cons_self ..)
    have y := G
    unfold bn wantName at y
    dsimp only at y
    rw [if_pos hn] at y
    rcases ok with ⟨q1, _⟩ | ⟨q1, _⟩ | ⟨_, z, e⟩ | ⟨q1, _⟩ | ⟨q1, _⟩
    · rw [hn] at q1; exact absurd q1 (by decide +kernel)
    · rw [hn] at q1; exact absurd q1 (by decide +kernel)
    · rw [e] at y ⊢
      exact k H' z q k' (k0.trans k') R' y
    · rw [hn] at q1; exact absurd q1 (by decide +kernel)
    · rw [hn] at q1; exact absurd q1 (by decide +kernel)
  · unfold bn wantName at G
    cases r with
    | nil => exact G.bad H' (k0.trans (.same s'))
    | cons t q =>
      dsimp only at G
      rw [if_neg (hn t q rfl)] at G
      exact G.bad H' (k0.trans (.same s'))
end
/-- a reading function's promise: o brackets are open -/
def spP (K : PySem.W.Frag) (o : Int) (f : M D) : Sp := fun vs H Q E => ∃ rd T last r, vs = [.ref rd] ∧ Rdr K H rd T last r o ∧ Got K H rd T last o E (f r) Q
/-- .. within one bracket more -/
def spI (K : PySem.W.Frag) (o : Int) (I : Option Ps) (g : Ps → M D) : Sp := fun vs H Q E => ∃ ps, I = some ps ∧ spP K (o + 1) (g ps) vs H Q E
def spArgs (K : PySem.W.Frag) (o : Int) (I : Option Ps) : Sp := fun vs H Q E => ∃ rd T last r op cl, vs = [.ref rd, .str op, .str cl] ∧ ((op = "(" ∧ cl = ")") ∨ (op = "[" ∧ cl = "]")) ∧ Rdr K H rd T last r o ∧ Got K H rd T last o E (pArgs op cl I r) Q
/-- the reader's methods -/
structure RdM (P : Program) (w : World) (K : PySem.W.Frag) (mg : Str → Option Value) (base : Heap) : Prop where
  is_more : CalM P w K mg base CX0 1 (He.ga K "Reader") "is_more" P_Reader_is_more (spIsMore K)
  sort_at : CalM P w K mg base CX0 1 (He.ga K "Reader") "sort_at" P_Reader_sort_at (spSortAt K)
  is_ahead : CalM P w K mg base CX0 2 (He.ga K "Reader") "is_ahead" P_Reader_is_ahead (spIsAhead K)
  ahead_of : CalM P w K mg base CX0 2 (He.ga K "Reader") "ahead_of" P_Reader_ahead_of (spAheadOf K)
  bind_ahead : CalM P w K mg base CX0 2 (He.ga K "Reader") "bind_ahead" P_Reader_bind_ahead (spBindAhead K)
  wrong : CalM P w K mg base (L2.CX P w) 2 (He.ga K "Reader") "wrong" P_Reader_wrong (spWrong K)
  take : CalM P w K mg base (L2.CX P w) 3 (He.ga K "Reader") "take" P_Reader_take (spTake K)
  want : CalM P w K mg base (L2.CX P w) 4 (He.ga K "Reader") "want" P_Reader_want (spWant K)
  want_name : CalM P w K mg base (L2.CX P w) 4 (He.ga K "Reader") "want_name" P_Reader_want_name (spWantName K)
  skips : CalM P w K mg base (L2.CX P w) 4 (He.ga K "Reader") "skips" P_Reader_skips (spSkips K)
theorem bn_congr {α β : Type} {f f' : M α} {g : α → M β} {r r' : List TK} (h : f r = f' r') : bn f g r = bn f' g r' := by
  unfold bn
  rw [h]
theorem bn_ok {α β : Type} {f : M α} {g : α → M β} {r q : List TK} {a : α} (h : f r = .ok a q) : bn f g r = g a q := by
  unfold bn
  rw [h]
theorem cons_eq {α : Type} (p : M D) (f : M (List D)) (g : List D → M α) : bn (bn p fun a => bn f fun as => rt (a :: as)) g = bn p fun a => bn f fun as => g (a :: as) := by
  rw [bn_assoc]
  congr 1
  funext a
  rw [bn_assoc]
  rfl
theorem many_eq {α : Type} (p : M D) (g : List D → M α) (n : Nat) (r : List TK) : bn (many p (n + 1)) g r = if isAhead "," r = true then bn p (fun a => bn (many p n) fun as => g (a :: as)) r.tail else g [] r := by
  by_cases h : isAhead "," r = true
  · rw [if_pos h, bn_congr (f' := bn p fun a => bn (many p n) fun as => rt (a :: as)) (r' := r.tail) (if_pos h), cons_eq]
  · rw [if_neg h]
    exact bn_ok (if_neg h)
theorem listOf_eq {α : Type} (p : M D) (cl : Str) (g : List D → M α) (r : List TK) : bn (listOf p cl) g r = if isAhead cl r = true then g [] r else bn p (fun a => bn (many p (r.length + 1)) fun as => g (a :: as)) r := by
  by_cases h : isAhead cl r = true
  · rw [if_pos h]
    exact bn_ok (by unfold listOf; rw [if_pos h])
  · rw [if_neg h, bn_congr (f' := bn p fun a => bn (many p (r.length + 1)) fun as => rt (a :: as)) (r' := r) (by unfold listOf; rw [if_neg h]), cons_eq]
theorem sts_eq {α : Type} (p : M D) (g : List D → M α) (n : Nat) (r : List TK) : bn (sts p (n + 1)) g r = if isAhead "}" r = true then g [] r else bn p (fun a => bn (sts p n) fun as => g (a :: as)) r := by
  by_cases h : isAhead "}" r = true
  · rw [if_pos h]
    exact bn_ok (if_pos h)
  · rw [if_neg h, bn_congr (f' := bn p fun a => bn (sts p n) fun as => rt (a :: as)) (r' := r) (if_neg h), cons_eq]
theorem many_out {α : Type} (p : M D) (g : List D → M α) (r : List TK) : bn (many p 0) g r = .out := rfl
theorem sts_out {α : Type} (p : M D) (g : List D → M α) (r : List TK) : bn (sts p 0) g r = .out := rfl
section
variable {P : Program} {w : World} {K : PySem.W.Frag} {mg : Str → Option Value} {base : Heap} {m : Nat} {o : Int} {I : Option Ps}
theorem Rdr.len {H : Hp} {rd : Addr} {T : Wds} {r : List TK} {last o : Int} (h : Rdr K H rd T last r o) : r.length ≤ big := by
  obtain ⟨dx, us, i, h1, h2, h3, h4, h5, h6, h7⟩ := h
  rw [← h4, List.length_drop]
  omega
theorem Rdr.freeW {H : Hp} {rd p : Addr} {T : Wds} {r : List TK} {last o : Int} (h : Rdr K H rd T last r o) (e : H p = none) : p ≠ T.W := by
  obtain ⟨dx, us, i, h1, h2, _⟩ := h
  exact (ne_of_none h2 e).symm
theorem Rdr.updL {H : Hp} {rd L : Addr} {T : Wds} {r : List TK} {last o : Int} {us : List V} (h : Rdr K H rd T last r o) (h1 : L ≠ rd) (h2 : L ≠ T.W) (e : H L = some (.lst us)) (vs : List V) : Rdr K (upd H L (.lst vs)) rd T last r o := by
  obtain ⟨dx, us', i, g1, g2, g3, g4⟩ := h
  refine ⟨dx, us', i, ?_, ?_, g3.mono fun p xs e2 => ?_, g4⟩
  · rw [upd_ne h1.symm]
    exact g1
  · rw [upd_ne h2.symm]
    exact g2
  · rw [upd_ne (ne_of e2 e (by intro z; cases z))]
    exact e2
theorem keepF_none {H H1 : Hp} {rd L : Addr} (k : KeepF rd H H1) (h : L ≠ rd) (e : H1 L = Option.none) : H L = Option.none := by
  cases q : H L with
  | none => rfl
  | some o =>
    rw [k L o h q] at e
    cases e
theorem keepF_updL {H H1 : Hp} {rd L : Addr} {u : HO} (k : KeepF rd H H1) (e : H L = none) : KeepF rd H (upd H1 L u) := fun a o h q => by
  rw [upd_ne (ne_of_none q e)]
  exact k a o h q
theorem tup_updL {H : Hp} {L : Addr} {us vs : List V} (e : H L = some (.lst us)) : ∀ p xs, H p = some (.tup xs) → (upd H L (.lst vs)) p = some (.tup xs) := fun p xs e2 => by
  rw [upd_ne (ne_of e2 e (by intro z; cases z))]
  exact e2
theorem Rdr.ins {H : Hp} {rd : Addr} {T : Wds} {r : List TK} {last o : Int} (h : Rdr K H rd T last r o) : ∃ dx fs, H rd = some (.ins (He.ga K "Reader") dx fs) ∧ (∀ x : Str, x ∉ (["kept_words", "kept_last", "kept_at", "kept_open"] : List Str) → fs.lookup x = none) := by
  obtain ⟨dx, us, i, h1, _⟩ := h
  refine ⟨dx, _, h1, fun x hx => ?_⟩
  simp only [List.mem_cons, List.not_mem_nil, or_false, not_or] at hx
  obtain ⟨a1, a2, a3, a4⟩ := hx
  simp [List.lookup, beq_eq_false_iff_ne.mpr a1, beq_eq_false_iff_ne.mpr a2, beq_eq_false_iff_ne.mpr a3, beq_eq_false_iff_ne.mpr a4]
/-- a method of the reader is called -/
theorem w_rdS {σ : L2.St} {H : Hp} {Q : VK} {t : TA} {x : Str} {sp : Sp} {E : L2.St → XK} {rd : Addr} {T : Wds} {r : List TK} {last o : Int} (n : Nat) (h1 : σ[n]? = some (some (.ref rd))) (hR : Rdr K H rd T last r o) (hx : x ∉ (["kept_words", "kept_last", "kept_at", "kept_open"] : List Str)) (q : t σ H fun vs H2 => sp (.ref rd :: vs) H2 Q (E σ)) : tMeW (He.ga K "Reader") x sp E (tVar n) t σ H Q := by
  obtain ⟨dx, fs, h2, h3⟩ := hR.ins
  exact w_meW n h1 h2 (h3 x hx) q
theorem w_rd {σ : L2.St} {H : Hp} {Q : VK} {t : TA} {x : Str} {sp : Sp} {E : XK} {rd : Addr} {T : Wds} {r : List TK} {last o : Int} (n : Nat) (h1 : σ[n]? = some (some (.ref rd))) (hR : Rdr K H rd T last r o) (hx : x ∉ (["kept_words", "kept_last", "kept_at", "kept_open"] : List Str)) (q : t σ H fun vs H2 => sp (.ref rd :: (vs ++ [])) H2 Q E) : tMeth (He.ga K "Reader") x sp [] E (tVar n) t σ H Q := by
  obtain ⟨dx, fs, h2, h3⟩ := hR.ins
  exact w_met n h1 h2 (h3 x hx) q
theorem ok_read_args (hI : OpI I o) (T : Txr P w K mg) {f : Addr} {fd : FuncData} (F : FnP K "read_args" s_read_args f fd) (RM : RdM P w K mg base) (D_read_e : CalQ P w K mg base (L2.CX P w) m "read_e" P_read_e (spI K o I Ps.e)) :
    FnQ P w K mg base (L2.CX P w) (m + 1) f fd P_read_args (spArgs K o I) := by
  obtain ⟨D_Reader_is_more, D_Reader_sort_at, D_Reader_is_ahead, D_Reader_ahead_of, D_Reader_bind_ahead, D_Reader_wrong, D_Reader_take, D_Reader_want, D_Reader_want_name, D_Reader_skips⟩ := RM
  refine F.okQ sc_read_args (fun vs H Q E h => ?_) (fun cdv A outer s H vs Q E hr h => ?_)
  · obtain ⟨rd, T, last, r, op, cl, rfl, _⟩ := h
    rfl
  · obtain ⟨rd, Ts, last, r, op, cl, rfl, hoc, hR, G⟩ := h
    refine ⟨_, (pss_cons (ps_expr (pe_metS (pv 0) D_Reader_want hr.room rfl (takes_of rfl rfl rfl rfl) (pa_cons (pv 1) pa_nil)))
  (pss_cons (ps_set (i := 3) sc_read_args.nd rfl (Or.inl rfl) (pe_lst pa_nil))
  (pss_cons (ps_if (pt_not (pt_val (pe_met (pv 0) D_Reader_is_ahead hr.room rfl pass0 (pa_cons (pv 2) pa_nil)))) (pss_cons (ps_expr (pe_bm PySem.F.plainAttrs_list PySem.F.slot_list_append PySem.F.type_list_append mt_append (pv 3) (pa_cons (pe_calQS D_read_e hr (by omega) rfl (takes_of rfl rfl rfl rfl) (pa_cons (pv 0) pa_nil)) pa_nil)))
  (pss_one (ps_while (passes_of rfl) (pt_val (pe_metS (pv 0) D_Reader_skips hr.room rfl (takes_of rfl rfl rfl rfl) (pa_cons pe_str pa_nil))) (pss_one (ps_expr (pe_bm PySem.F.plainAttrs_list PySem.F.slot_list_append PySem.F.type_list_append mt_append (pv 3) (pa_cons (pe_calQS D_read_e hr (by omega) rfl (takes_of rfl rfl rfl rfl) (pa_cons (pv 0) pa_nil)) pa_nil))))))) pss_nil)
  (pss_cons (ps_expr (pe_metS (pv 0) D_Reader_want hr.room rfl (takes_of rfl rfl rfl rfl) (pa_cons (pv 2) pa_nil)))
  (pss_one (ps_ret (pe_callTy call_tuple_of (by rfl) T.f_tuple (by decide +kernel) (pa_cons (pv 3) pa_nil)))))))), ?_⟩
    walk_at "w"
    refine w_rdS 0 rfl hR (by decide +kernel) ?_
    walk_at "w"
    have h1 : op ∈ (["(", "[", "{"] : List Str) ∧ op ∉ KEYS ∧ cl ∉ (["(", "[", "{"] : List Str) ∧ cl ∈ ([")", "]", "}"] : List Str) ∧ cl ∉ KEYS := by
      rcases hoc with ⟨rfl, rfl⟩ | ⟨rfl, rfl⟩ <;> decide +kernel
    obtain ⟨g1, g2, g3, g4, g5⟩ := h1
    refine wantO_ok hI g1 g2 hR .refl G fun ps H1 hps _ _ k1 R1 G1 => ?_
    walk_at "w"
    refine ⟨by show 0 ≤ sizeLine; decide, fun L hL => ?_⟩
    refine w_name ?_
    have hLr : L ≠ rd := R1.free hL
    have hLW := R1.freeW hL
    have hL0 : H L = none := keepF_none k1 hLr hL
    have R2 := R1.same (sameUpd (o := .lst []) hL)
    have kA : KeepF rd H (upd H1 L (.lst [])) := keepF_updL k1 hL0
    have hbig := R1.len
    have hsz : big + 2 < sizeLine := by decide
    have hb2 : big = 200000 := rfl
    with_reducible refine seq_cut (fun σ' H' => ∃ (us : List V) (as : List D) (r' : List TK), σ' = [some (.ref rd), some (.str op), some (.str cl), some (.ref L)] ∧ H' L = some (.lst us) ∧ Reps H' us as ∧ us.length ≤ big + 2 ∧ Rdr K H' rd Ts last r' (o + 1) ∧ KeepF rd H H' ∧ Got K H rd Ts last o E (bn (want cl) (fun _ => rt (.tup as)) r') Q) (fun N k => ?_) ?_
    · walk_at "w"
      refine w_rd 0 rfl R2 (by decide +kernel) ?_
      walk_at "w"
      refine w_spIsAhead R2 fun H2 s2 R3 => ?_
      have hL2 : H2 L = some (.lst []) := s2 _ _ upd_same
      rw [listOf_eq] at G1
      have k2 : KeepF rd H H2 := kA.trans (.same s2)
      cases hc : isAhead cl r.tail with
      | true =>
        rw [hc, if_pos rfl] at G1
        walk_at "w"
        exact k _ _ ⟨[], [], _, rfl, hL2, .nil, Nat.zero_le _, R3, k2, G1⟩
      | false =>
        rw [hc, if_neg Bool.false_ne_true] at G1
        walk_at "w"
        refine ⟨.inl ⟨rfl, _, .of hL2⟩, ?_⟩
        walk_at "w"
        refine ⟨ps, hps, rd, Ts, last, r.tail, rfl, R3, G1.bind k2 fun a q H3 v k3 kk3 R4 e3 G3 => ?_⟩
        walk_at "w"
        have hL3 := KeepF.lst R3 k3 hL2
        refine ⟨L, [], _, rfl, rfl, hL3, by decide, ?_⟩
        walk_at "w"
        refine ⟨fun n σ' H' => ∃ (us : List V) (as : List D) (r' : List TK), σ' = [some (.ref rd), some (.str op), some (.str cl), some (.ref L)] ∧ H' L = some (.lst us) ∧ Reps H' us as ∧ us.length + n ≤ big + 2 ∧ Rdr K H' rd Ts last r' (o + 1) ∧ KeepF rd H H' ∧
          Got K H rd Ts last o E (bn (many ps.e n) (fun bs => bn (want cl) (fun _ => rt (.tup (as ++ bs)))) r') Q, ⟨r.tail.length + 1, [v], [a], q, rfl, upd_same, .cons (e3.mono (tup_updL hL3)) .nil, by show 1 + (r.tail.length + 1) ≤ big + 2; omega, R4.updL hLr hLW hL3 _, keepF_updL kk3 hL0, G3⟩, ?_⟩
        rintro n σ' H4 ⟨us, as, r', rfl, h4L, hA, hn, R5, k5, G5⟩
        walk_at "w"
        refine w_rdS 0 rfl R5 (by decide +kernel) ?_
        walk_at "w"
        cases n with
        | zero => exact G5.elim
        | succ n =>
        rw [many_eq] at G5
        refine skips_ok (by decide +kernel) (by decide +kernel) R5 (fun H5 ha kH5 R6 => ?_) (fun H5 ha s5 R6 => ?_)
        · rw [ha, if_pos rfl] at G5
          have k6 := k5.trans kH5
          have h5L := KeepF.lst R5 kH5 h4L
          have hA5 := hA.mono (KeepF.tups R5 kH5)
          refine w_bl ?_
          refine w_t ⟨fun σ' H' => ∃ m', m' < n + 1 ∧ ∃ (us : List V) (as : List D) (r' : List TK), σ' = [some (.ref rd), some (.str op), some (.str cl), some (.ref L)] ∧ H' L = some (.lst us) ∧ Reps H' us as ∧ us.length + m' ≤ big + 2 ∧ Rdr K H' rd Ts last r' (o + 1) ∧ KeepF rd H H' ∧
            Got K H rd Ts last o E (bn (many ps.e m') (fun bs => bn (want cl) (fun _ => rt (.tup (as ++ bs)))) r') Q, fun _ _ z => z, ?_⟩
          walk_at "w"
          refine ⟨.inl ⟨rfl, _, .of h5L⟩, ?_⟩
          walk_at "w"
          refine ⟨ps, hps, rd, Ts, last, r'.tail, rfl, R6, G5.bind k6 fun a2 q2 H7 v2 kH7 kk7 R7 e7 G7 => ?_⟩
          walk_at "w"
          have h7L := KeepF.lst R6 kH7 h5L
          refine ⟨L, us, _, rfl, rfl, h7L, by omega, ?_⟩
          refine ⟨n, Nat.lt_succ_self _, us ++ [v2], as ++ [a2], q2, rfl, upd_same, ((hA5.mono (KeepF.tups R6 kH7)).mono (tup_updL h7L)).snoc (e7.mono (tup_updL h7L)), by rw [List.length_append, List.length_singleton]; omega, R7.updL hLr hLW h7L _, keepF_updL kk7 hL0, ?_⟩
          simpa [List.append_assoc] using G7
        · rw [ha, if_neg Bool.false_ne_true, List.append_nil] at G5
          refine w_bl ?_
          refine w_f ?_
          exact k _ _ ⟨us, as, r', rfl, s5 _ _ h4L, hA.mono (fun _ _ e => s5 _ _ e), by omega, R6, k5.trans (.same s5), G5⟩
    rintro _ H4 ⟨us, as, r', rfl, h4L, hA, hn, R5, k5, G5⟩
    walk_at "w"
    refine w_rdS 0 rfl R5 (by decide +kernel) ?_
    walk_at "w"
    refine wantC_ok g3 g4 g5 R5 k5 G5 fun H6 _ kH6 k6 R6 G6 => ?_
    walk_at "w"
    refine ⟨L, us, rfl, .inl ⟨.of (KeepF.lst R5 kH6 h4L), fun p hp => ?_⟩⟩
    have sp := sameUpd (o := .tup us) hp
    exact G6.fin (k6.trans (.same sp)) (R6.same sp) (.ofs upd_same ((hA.mono (KeepF.tups R5 kH6)).mono fun _ _ e => sp _ _ e))
end
end FE
namespace FE
open PySem L2 K01
section
variable {P : Program} {w : World} {K : PySem.W.Frag} {mg : Str → Option Value} {base : Heap} {m : Nat} {o : Int} {I : Option Ps}
theorem ok_read_params (hI : OpI I o) (T : Txr P w K mg) {f : Addr} {fd : FuncData} (F : FnP K "read_params" s_read_params f fd) (RM : RdM P w K mg base) :
    FnQ P w K mg base (L2.CX P w) (m + 1) f fd P_read_params (spP K o (pParams I)) := by
  obtain ⟨D_Reader_is_more, D_Reader_sort_at, D_Reader_is_ahead, D_Reader_ahead_of, D_Reader_bind_ahead, D_Reader_wrong, D_Reader_take, D_Reader_want, D_Reader_want_name, D_Reader_skips⟩ := RM
  refine F.okQ sc_read_params (fun vs H Q E h => ?_) (fun cdv A outer s H vs Q E hr h => ?_)
  · obtain ⟨rd, T, last, r, rfl, _⟩ := h
    rfl
  · obtain ⟨rd, Ts, last, r, rfl, hR, G⟩ := h
    refine ⟨_, (pss_cons (ps_expr (pe_metS (pv 0) D_Reader_want hr.room rfl (takes_of rfl rfl rfl rfl) (pa_cons pe_str pa_nil)))
  (pss_cons (ps_set (i := 1) sc_read_params.nd rfl (Or.inl rfl) (pe_lst pa_nil))
  (pss_cons (ps_if (pt_not (pt_val (pe_met (pv 0) D_Reader_is_ahead hr.room rfl pass0 (pa_cons pe_str pa_nil)))) (pss_cons (ps_expr (pe_bm PySem.F.plainAttrs_list PySem.F.slot_list_append PySem.F.type_list_append mt_append (pv 1) (pa_cons (pe_metS0 (pv 0) D_Reader_want_name hr.room rfl (takes_of rfl rfl rfl rfl)) pa_nil)))
  (pss_one (ps_while (passes_of rfl) (pt_val (pe_metS (pv 0) D_Reader_skips hr.room rfl (takes_of rfl rfl rfl rfl) (pa_cons pe_str pa_nil))) (pss_one (ps_expr (pe_bm PySem.F.plainAttrs_list PySem.F.slot_list_append PySem.F.type_list_append mt_append (pv 1) (pa_cons (pe_metS0 (pv 0) D_Reader_want_name hr.room rfl (takes_of rfl rfl rfl rfl)) pa_nil))))))) pss_nil)
  (pss_cons (ps_expr (pe_metS (pv 0) D_Reader_want hr.room rfl (takes_of rfl rfl rfl rfl) (pa_cons pe_str pa_nil)))
  (pss_one (ps_ret (pe_callTy call_tuple_of (by rfl) T.f_tuple (by decide +kernel) (pa_cons (pv 1) pa_nil)))))))), ?_⟩
    walk_at "w"
    refine w_rdS 0 rfl hR (by decide +kernel) ?_
    walk_at "w"
    refine wantO_ok hI (by decide +kernel) (by decide +kernel) hR .refl G fun ps H1 hps _ _ k1 R1 G1 => ?_
    walk_at "w"
    refine ⟨by show 0 ≤ sizeLine; decide, fun L hL => ?_⟩
    refine w_name ?_
    have hLr : L ≠ rd := R1.free hL
    have hLW := R1.freeW hL
    have hL0 : H L = none := keepF_none k1 hLr hL
    have R2 := R1.same (sameUpd (o := .lst []) hL)
    have kA : KeepF rd H (upd H1 L (.lst [])) := keepF_updL k1 hL0
    have hbig := R1.len
    have hsz : big + 2 < sizeLine := by decide
    have hb2 : big = 200000 := rfl
    with_reducible refine seq_cut (fun σ' H' => ∃ (us : List V) (as : List D) (r' : List TK), σ' = [some (.ref rd), some (.ref L)] ∧ H' L = some (.lst us) ∧ Reps H' us as ∧ us.length ≤ big + 2 ∧ Rdr K H' rd Ts last r' (o + 1) ∧ KeepF rd H H' ∧ Got K H rd Ts last o E (bn (want ")") (fun _ => rt (.tup as)) r') Q) (fun N k => ?_) ?_
    · walk_at "w"
      refine w_rd 0 rfl R2 (by decide +kernel) ?_
      walk_at "w"
      refine w_spIsAhead R2 fun H2 s2 R3 => ?_
      have hL2 : H2 L = some (.lst []) := s2 _ _ upd_same
      rw [listOf_eq] at G1
      have k2 : KeepF rd H H2 := kA.trans (.same s2)
      cases hc : isAhead ")" r.tail with
      | true =>
        rw [hc, if_pos rfl] at G1
        walk_at "w"
        exact k _ _ ⟨[], [], _, rfl, hL2, .nil, Nat.zero_le _, R3, k2, G1⟩
      | false =>
        rw [hc, if_neg Bool.false_ne_true] at G1
        walk_at "w"
        refine ⟨.inl ⟨rfl, _, .of hL2⟩, ?_⟩
        walk_at "w"
        refine w_rdS 0 rfl R3 (by decide +kernel) ?_
        walk_at "w"
        refine name_ok R3 k2 G1 fun H3 v q k3 kk3 R4 G3 => ?_
        have hL3 := KeepF.lst R3 k3 hL2
        refine ⟨L, [], _, rfl, rfl, hL3, by decide, ?_⟩
        walk_at "w"
        refine ⟨fun n σ' H' => ∃ (us : List V) (as : List D) (r' : List TK), σ' = [some (.ref rd), some (.ref L)] ∧ H' L = some (.lst us) ∧ Reps H' us as ∧ us.length + n ≤ big + 2 ∧ Rdr K H' rd Ts last r' (o + 1) ∧ KeepF rd H H' ∧
          Got K H rd Ts last o E (bn (many wantName n) (fun bs => bn (want ")") (fun _ => rt (.tup (as ++ bs)))) r') Q, ⟨r.tail.length + 1, [.str v], [.s v], q, rfl, upd_same, .cons (.s v) .nil, by show 1 + (r.tail.length + 1) ≤ big + 2; omega, R4.updL hLr hLW hL3 _, keepF_updL kk3 hL0, G3⟩, ?_⟩
        rintro n σ' H4 ⟨us, as, r', rfl, h4L, hA, hn, R5, k5, G5⟩
        walk_at "w"
        refine w_rdS 0 rfl R5 (by decide +kernel) ?_
        walk_at "w"
        cases n with
        | zero => exact G5.elim
        | succ n =>
        rw [many_eq] at G5
        refine skips_ok (by decide +kernel) (by decide +kernel) R5 (fun H5 ha kH5 R6 => ?_) (fun H5 ha s5 R6 => ?_)
        · rw [ha, if_pos rfl] at G5
          have k6 := k5.trans kH5
          have h5L := KeepF.lst R5 kH5 h4L
          have hA5 := hA.mono (KeepF.tups R5 kH5)
          refine w_bl ?_
          refine w_t ⟨fun σ' H' => ∃ m', m' < n + 1 ∧ ∃ (us : List V) (as : List D) (r' : List TK), σ' = [some (.ref rd), some (.ref L)] ∧ H' L = some (.lst us) ∧ Reps H' us as ∧ us.length + m' ≤ big + 2 ∧ Rdr K H' rd Ts last r' (o + 1) ∧ KeepF rd H H' ∧
            Got K H rd Ts last o E (bn (many wantName m') (fun bs => bn (want ")") (fun _ => rt (.tup (as ++ bs)))) r') Q, fun _ _ z => z, ?_⟩
          walk_at "w"
          refine ⟨.inl ⟨rfl, _, .of h5L⟩, ?_⟩
          walk_at "w"
          refine w_rdS 0 rfl R6 (by decide +kernel) ?_
          walk_at "w"
          refine name_ok R6 k6 G5 fun H7 v2 q2 kH7 kk7 R7 G7 => ?_
          have h7L := KeepF.lst R6 kH7 h5L
          refine ⟨L, us, _, rfl, rfl, h7L, by omega, ?_⟩
          refine ⟨n, Nat.lt_succ_self _, us ++ [.str v2], as ++ [.s v2], q2, rfl, upd_same, ((hA5.mono (KeepF.tups R6 kH7)).mono (tup_updL h7L)).snoc (.s v2), by rw [List.length_append, List.length_singleton]; omega, R7.updL hLr hLW h7L _, keepF_updL kk7 hL0, ?_⟩
          simpa [List.append_assoc] using G7
        · rw [ha, if_neg Bool.false_ne_true, List.append_nil] at G5
          refine w_bl ?_
          refine w_f ?_
          exact k _ _ ⟨us, as, r', rfl, s5 _ _ h4L, hA.mono (fun _ _ e => s5 _ _ e), by omega, R6, k5.trans (.same s5), G5⟩
    rintro _ H4 ⟨us, as, r', rfl, h4L, hA, hn, R5, k5, G5⟩
    walk_at "w"
    refine w_rdS 0 rfl R5 (by decide +kernel) ?_
    walk_at "w"
    refine wantC_ok (by decide +kernel) (by decide +kernel) (by decide +kernel) R5 k5 G5 fun H6 _ kH6 k6 R6 G6 => ?_
    walk_at "w"
    refine ⟨L, us, rfl, .inl ⟨.of (KeepF.lst R5 kH6 h4L), fun p hp => ?_⟩⟩
    have sp := sameUpd (o := .tup us) hp
    exact G6.fin (k6.trans (.same sp)) (R6.same sp) (.ofs upd_same ((hA.mono (KeepF.tups R5 kH6)).mono fun _ _ e => sp _ _ e))
theorem ok_read_block (hI : OpI I o) (T : Txr P w K mg) {f : Addr} {fd : FuncData} (F : FnP K "read_block" s_read_block f fd) (RM : RdM P w K mg base) (D_read_statement : CalQ P w K mg base (L2.CX P w) m "read_statement" P_read_statement (spI K o I Ps.st)) :
    FnQ P w K mg base (L2.CX P w) (m + 1) f fd P_read_block (spP K o (pBlock I)) := by
  obtain ⟨D_Reader_is_more, D_Reader_sort_at, D_Reader_is_ahead, D_Reader_ahead_of, D_Reader_bind_ahead, D_Reader_wrong, D_Reader_take, D_Reader_want, D_Reader_want_name, D_Reader_skips⟩ := RM
  refine F.okQ sc_read_block (fun vs H Q E h => ?_) (fun cdv A outer s H vs Q E hr h => ?_)
  · obtain ⟨rd, T, last, r, rfl, _⟩ := h
    rfl
  · obtain ⟨rd, Ts, last, r, rfl, hR, G⟩ := h
    refine ⟨_, (pss_cons (ps_expr (pe_metS (pv 0) D_Reader_want hr.room rfl (takes_of rfl rfl rfl rfl) (pa_cons pe_str pa_nil)))
  (pss_cons (ps_set (i := 1) sc_read_block.nd rfl (Or.inl rfl) (pe_lst pa_nil))
  (pss_cons (ps_while (passes_of rfl) (pt_not (pt_val (pe_met (pv 0) D_Reader_is_ahead hr.room rfl pass0 (pa_cons pe_str pa_nil)))) (pss_one (ps_expr (pe_bm PySem.F.plainAttrs_list PySem.F.slot_list_append PySem.F.type_list_append mt_append (pv 1) (pa_cons (pe_calQS D_read_statement hr (by omega) rfl (takes_of rfl rfl rfl rfl) (pa_cons (pv 0) pa_nil)) pa_nil)))))
  (pss_cons (ps_expr (pe_metS (pv 0) D_Reader_want hr.room rfl (takes_of rfl rfl rfl rfl) (pa_cons pe_str pa_nil)))
  (pss_one (ps_ret (pe_callTy call_tuple_of (by rfl) T.f_tuple (by decide +kernel) (pa_cons (pv 1) pa_nil)))))))), ?_⟩
    walk_at "w"
    refine w_rdS 0 rfl hR (by decide +kernel) ?_
    walk_at "w"
    refine wantO_ok hI (by decide +kernel) (by decide +kernel) hR .refl G fun ps H1 hps _ _ k1 R1 G1 => ?_
    walk_at "w"
    refine ⟨by show 0 ≤ sizeLine; decide, fun L hL => ?_⟩
    refine w_name ?_
    have hLr : L ≠ rd := R1.free hL
    have hLW := R1.freeW hL
    have hL0 : H L = none := keepF_none k1 hLr hL
    have R2 := R1.same (sameUpd (o := .lst []) hL)
    have kA : KeepF rd H (upd H1 L (.lst [])) := keepF_updL k1 hL0
    have hbig := R1.len
    have hsz : big + 2 < sizeLine := by decide
    have hb2 : big = 200000 := rfl
    have G1 : Got K H rd Ts last o E (bn (sts ps.st (r.tail.length + 1)) (fun as => bn (want "}") fun _ => rt (.tup as)) r.tail) Q := G1
    with_reducible refine w_seq ?_
    refine ⟨fun n σ' H' => ∃ (us : List V) (as : List D) (r' : List TK), σ' = [some (.ref rd), some (.ref L)] ∧ H' L = some (.lst us) ∧ Reps H' us as ∧ us.length + n ≤ big + 2 ∧ Rdr K H' rd Ts last r' (o + 1) ∧ KeepF rd H H' ∧
      Got K H rd Ts last o E (bn (sts ps.st n) (fun bs => bn (want "}") (fun _ => rt (.tup (as ++ bs)))) r') Q, ⟨r.tail.length + 1, [], [], _, rfl, upd_same, .nil, by show 0 + (r.tail.length + 1) ≤ big + 2; omega, R2, kA, G1⟩, ?_⟩
    rintro n σ' H4 ⟨us, as, r', rfl, h4L, hA, hn, R5, k5, G5⟩
    walk_at "w"
    refine w_rd 0 rfl R5 (by decide +kernel) ?_
    walk_at "w"
    cases n with
    | zero => exact G5.elim
    | succ n =>
    rw [sts_eq] at G5
    refine w_spIsAhead R5 fun H5 s5 R6 => ?_
    have k6 := k5.trans (.same s5)
    have h5L := s5 _ _ h4L
    have hA5 := hA.mono (fun _ _ e => s5 _ _ e)
    cases ha : isAhead "}" r' with
    | false =>
      rw [ha, if_neg Bool.false_ne_true] at G5
      walk_at "w"
      refine ⟨fun σ' H' => ∃ m', m' < n + 1 ∧ ∃ (us : List V) (as : List D) (r' : List TK), σ' = [some (.ref rd), some (.ref L)] ∧ H' L = some (.lst us) ∧ Reps H' us as ∧ us.length + m' ≤ big + 2 ∧ Rdr K H' rd Ts last r' (o + 1) ∧ KeepF rd H H' ∧
        Got K H rd Ts last o E (bn (sts ps.st m') (fun bs => bn (want "}") (fun _ => rt (.tup (as ++ bs)))) r') Q, fun _ _ z => z, ?_⟩
      walk_at "w"
      refine ⟨.inl ⟨rfl, _, .of h5L⟩, ?_⟩
      walk_at "w"
      refine ⟨ps, hps, rd, Ts, last, r', rfl, R6, G5.bind k6 fun a2 q2 H7 v2 kH7 kk7 R7 e7 G7 => ?_⟩
      walk_at "w"
      have h7L := KeepF.lst R6 kH7 h5L
      refine ⟨L, us, _, rfl, rfl, h7L, by omega, ?_⟩
      refine ⟨n, Nat.lt_succ_self _, us ++ [v2], as ++ [a2], q2, rfl, upd_same, ((hA5.mono (KeepF.tups R6 kH7)).mono (tup_updL h7L)).snoc (e7.mono (tup_updL h7L)), by rw [List.length_append, List.length_singleton]; omega, R7.updL hLr hLW h7L _, keepF_updL kk7 hL0, ?_⟩
      simpa [List.append_assoc] using G7
    | true =>
      rw [ha, if_pos rfl, List.append_nil] at G5
      walk_at "w"
      refine w_rdS 0 rfl R6 (by decide +kernel) ?_
      walk_at "w"
      refine wantC_ok (by decide +kernel) (by decide +kernel) (by decide +kernel) R6 k6 G5 fun H6 _ kH6 k6 R7 G6 => ?_
      walk_at "w"
      refine ⟨L, us, rfl, .inl ⟨.of (KeepF.lst R6 kH6 h5L), fun p hp => ?_⟩⟩
      have sp := sameUpd (o := .tup us) hp
      exact G6.fin (k6.trans (.same sp)) (R7.same sp) (.ofs upd_same ((hA5.mono (KeepF.tups R6 kH6)).mono fun _ _ e => sp _ _ e))
end
end FE
namespace FE
open PySem L2 K01
section
variable {K : PySem.W.Frag} {H H0 H1 : Hp} {rd : Addr} {T : Wds} {last : Int} {o o1 : Int} {E : XK} {Q Q2 : VK} {r : List TK}
theorem opn_nomark {t : TK} (h : t.s ≠ "mark") : opn t o = some o := by
  unfold opn
  rw [if_neg (fun z => h z.1), if_neg (fun z => h z.1)]
theorem take_ok {g : D → M D} {t : TK} {q : List TK} (ho : opn t o1 = some o1) (hR : Rdr K H rd T last (t :: q) o1) (k0 : KeepF rd H0 H) (G : Got K H0 rd T last o E (bn takeV g (t :: q)) Q)
    (k : ∀ H', KeepF rd H H' → KeepF rd H0 H' → Rdr K H' rd T last q o1 → Rep H' t.v (dOf t.v) → Got K H0 rd T last o E (g (dOf t.v) q) Q → Q2 t.v H') : spTake K [.ref rd] H Q2 E := by
  refine ⟨rd, T, last, t :: q, o1, rfl, hR, ?_⟩
  rw [Took.t]
  refine TookT.mk (fun e => by rw [ho] at e; cases e) fun o' e H' k' R' => ?_
  rw [ho] at e
  cases e
  exact k H' k' (k0.trans k') R' (hR.ok t (List.mem_cons_self ..)).rep G
theorem aheadOf_split {ws : List Str} (h : (aheadOf ws r).isSome = true) : ∃ t q z, r = t :: q ∧ isKM t = true ∧ t.v = .str z ∧ z ∈ ws ∧ aheadOf ws r = some z := by
  cases r with
  | nil => cases h
  | cons t q =>
    unfold aheadOf at h
    dsimp only at h
    by_cases hk : isKM t = true
    · rw [if_pos hk] at h
      cases hv : t.v with
      | str z =>
        rw [hv] at h
        dsimp only at h
        by_cases hz : z ∈ ws
        · refine ⟨t, q, z, rfl, hk, hv, hz, ?_⟩
          unfold aheadOf
          dsimp only
          rw [if_pos hk, hv]
          dsimp only
          rw [if_pos hz]
        · rw [if_neg hz] at h
          cases h
      | _ => rw [hv] at h; cases h
    · rw [if_neg hk] at h
      cases h
theorem oS_none {z : Option Str} : decide (oS z = V.non) = !z.isSome := by
  cases z with
  | none => exact decide_eq_true rfl
  | some y => exact decide_eq_false fun e => by cases e
/-- ahead_of, asked whether it is None -/
theorem w_spAheadOf {ws : List Str} {c : Addr} (hR : Rdr K H rd T last r o1) (hc : SqT K H c (ws.map V.str)) (k : ∀ H', Same H H' → Rdr K H' rd T last r o1 → Q2 (oS (aheadOf ws r)) H') : spAheadOf K [.ref rd, .ref c] H Q2 E := ⟨rd, T, last, r, o1, c, ws, rfl, hR, hc, fun H' s' => k H' s' (hR.same s')⟩
end
theorem not_br {ws : List Str} (h : (ws.all fun z => !decide (z ∈ (["(", "[", "{", ")", "]", "}"] : List Str))) = true) {z : Str} (hz : z ∈ ws) : z ∉ (["(", "[", "{"] : List Str) ∧ z ∉ ([")", "]", "}"] : List Str) := by
  have y := List.all_eq_true.mp h z hz
  rw [Bool.not_eq_true', decide_eq_false_iff_not] at y
  exact ⟨fun q => y (by simp only [List.mem_cons, List.not_mem_nil, or_false] at q ⊢; rcases q with q | q | q <;> simp [q]), fun q => y (by simp only [List.mem_cons, List.not_mem_nil, or_false] at q ⊢; rcases q with q | q | q <;> simp [q])⟩
def spAsk (K : PySem.W.Frag) (o : Int) (I : Option Ps) : Sp := fun vs H Q E => ∃ rd T last r, vs = [.ref rd] ∧ Rdr K H rd T last r o ∧ (aheadOf ASKS r).isSome = true ∧ Got K H rd T last o E (pAsk I r) Q
def spMsg (K : PySem.W.Frag) (o : Int) (I : Option Ps) : Sp := fun vs H Q E => ∃ rd T last r v d, vs = [.ref rd, v] ∧ Rdr K H rd T last r o ∧ Rep H v d ∧ Got K H rd T last o E (pMessage I d r) Q
section
variable {P : Program} {w : World} {K : PySem.W.Frag} {mg : Str → Option Value} {base : Heap} {m : Nat} {o : Int} {I : Option Ps}
theorem ok_read_ask (hI : OpI I o) (T : Txr P w K mg) {f : Addr} {fd : FuncData} (F : FnP K "read_ask" s_read_ask f fd) (RM : RdM P w K mg base) (D_read_e : CalQ P w K mg base (L2.CX P w) m "read_e" P_read_e (spI K o I Ps.e)) :
    FnQ P w K mg base (L2.CX P w) (m + 1) f fd P_read_ask (spAsk K o I) := by
  obtain ⟨D_Reader_is_more, D_Reader_sort_at, D_Reader_is_ahead, D_Reader_ahead_of, D_Reader_bind_ahead, D_Reader_wrong, D_Reader_take, D_Reader_want, D_Reader_want_name, D_Reader_skips⟩ := RM
  refine F.okQ sc_read_ask (fun vs H Q E h => ?_) (fun cdv A outer s H vs Q E hr h => ?_)
  · obtain ⟨rd, T, last, r, rfl, _⟩ := h
    rfl
  · obtain ⟨rd, Ts, last, r, rfl, hR, ha, G⟩ := h
    refine ⟨_, (pss_cons (ps_set (i := 1) sc_read_ask.nd rfl (Or.inl rfl) (pe_metS0 (pv 0) D_Reader_take hr.room rfl (takes_of rfl rfl rfl rfl)))
  (pss_cons (ps_expr (pe_metS (pv 0) D_Reader_want hr.room rfl (takes_of rfl rfl rfl rfl) (pa_cons pe_str pa_nil)))
  (pss_cons (ps_set (i := 2) sc_read_ask.nd rfl (Or.inl rfl) (pe_ifExp (pt_cmpR op_eq (pv 1) pe_str (nomark _)) (pe_tup pa_nil) (pe_tup (pa_cons (pe_calQS D_read_e hr (by omega) rfl (takes_of rfl rfl rfl rfl) (pa_cons (pv 0) pa_nil)) pa_nil))))
  (pss_cons (ps_expr (pe_metS (pv 0) D_Reader_want hr.room rfl (takes_of rfl rfl rfl rfl) (pa_cons pe_str pa_nil)))
  (pss_one (ps_ret (pe_tup (pa_cons pe_str (pa_cons (pv 1) (pa_cons (pv 2) pa_nil)))))))))), ?_⟩
    obtain ⟨t, q, z, rfl, hk, hv, hz, _⟩ := aheadOf_split ha
    obtain ⟨b1, b2⟩ := not_br (by decide +kernel) hz
    walk_at "w"
    refine w_rdS 0 rfl hR (by decide +kernel) ?_
    walk_at "w"
    refine take_ok (opn_plain hv b1 b2) hR .refl G fun H1 _ k1 R1 e1 G1 => ?_
    rw [hv] at G1 ⊢
    walk_at "w"
    refine w_rdS 0 rfl R1 (by decide +kernel) ?_
    walk_at "w"
    refine wantO_ok hI (by decide +kernel) (by decide +kernel) R1 k1 G1 fun ps H2 hps _ _ k2 R2 G2 => ?_
    refine w_next ?_
    with_reducible refine w_seq ?_
    with_reducible refine asg_cut (fun x H' => ∃ (as : List D) (q' : List TK), Rep H' x (.tup as) ∧ Rdr K H' rd Ts last q' (o + 1) ∧ KeepF rd H H' ∧ Got K H rd Ts last o E ((bn (want ")") fun _ => rt (.tup [.s "ask", .s z, .tup as])) q') Q) (fun Q2 k => ?_) ?_
    · walk_at "w"
      refine w_eq rfl ?_
      by_cases hy : z = "yield"
      · subst hy
        rw [decide_eq_true rfl]
        walk_at "w"
        refine ⟨by show 0 ≤ sizeLine; decide, fun p hp => ?_⟩
        have sp := sameUpd (o := .tup []) hp
        exact k _ _ ⟨[], _, .ofs upd_same .nil, R2.same sp, k2.trans (.same sp), G2⟩
      · rw [decide_eq_false (fun e => hy (V.str.inj e))]
        walk_at "w"
        have G3 : Got K H rd Ts last o E (bn ps.e (fun a => bn (want ")") fun _ => rt (.tup [.s "ask", .s z, .tup [a]])) q.tail) Q := by
          have y := G2
          show Got _ _ _ _ _ _ _ _ _
          have e : (dOf (V.str z)) = D.s z := rfl
          rw [e] at y
          dsimp only at y
          rw [if_neg hy, bn_assoc] at y
          exact y
        refine ⟨ps, hps, rd, Ts, last, q.tail, rfl, R2, G3.bind k2 fun a q3 H3 v _ k3 R3 e3 G3 => ?_⟩
        walk_at "w"
        refine ⟨by show 1 ≤ sizeLine; decide, fun p hp => ?_⟩
        have sp := sameUpd (o := .tup [v]) hp
        exact k _ _ ⟨[a], _, .ofs upd_same (.cons (e3.same sp) .nil), R3.same sp, k3.trans (.same sp), G3⟩
    rintro x H3 ⟨as, q3, e3, R3, k3, G3⟩
    walk_at "w"
    refine w_rdS 0 rfl R3 (by decide +kernel) ?_
    walk_at "w"
    refine wantC_ok (by decide +kernel) (by decide +kernel) (by decide +kernel) R3 k3 G3 fun H4 _ k34 k4 R4 G4 => ?_
    walk_at "w"
    refine ⟨by show 3 ≤ sizeLine; decide, fun p hp => ?_⟩
    have sp := sameUpd (o := .tup [.str "ask", .str z, x]) hp
    exact G4.fin (k4.trans (.same sp)) (R4.same sp) (.ofs upd_same (.cons (.s _) (.cons (.s _) (.cons ((e3.mono (KeepF.tups R3 k34)).same sp) .nil))))
end
end FE
namespace FE
open PySem L2 K01
section
variable {P : Program} {w : World} {K : PySem.W.Frag} {mg : Str → Option Value} {base : Heap} {m : Nat} {o : Int} {I : Option Ps}
theorem ok_read_keyed (hI : OpI I o) (T : Txr P w K mg) {f : Addr} {fd : FuncData} (F : FnP K "read_keyed" s_read_keyed f fd) (RM : RdM P w K mg base) (D_read_e : CalQ P w K mg base (L2.CX P w) m "read_e" P_read_e (spI K o I Ps.e)) (D_read_ask : CalQ P w K mg base (L2.CX P w) (m + 1) "read_ask" P_read_ask (spAsk K o I))
    (D_read_args : CalQ P w K mg base (L2.CX P w) (m + 1) "read_args" P_read_args (spArgs K o I)) (D_read_params : CalQ P w K mg base (L2.CX P w) (m + 1) "read_params" P_read_params (spP K o (pParams I))) (D_read_block : CalQ P w K mg base (L2.CX P w) (m + 1) "read_block" P_read_block (spP K o (pBlock I))) :
    FnQ P w K mg base (L2.CX P w) (m + 2) f fd P_read_keyed (spP K o (pKeyed I)) := by
  obtain ⟨D_Reader_is_more, D_Reader_sort_at, D_Reader_is_ahead, D_Reader_ahead_of, D_Reader_bind_ahead, D_Reader_wrong, D_Reader_take, D_Reader_want, D_Reader_want_name, D_Reader_skips⟩ := RM
  refine F.okQ sc_read_keyed (fun vs H Q E h => ?_) (fun cdv A outer s H vs Q E hr h => ?_)
  · obtain ⟨rd, T, last, r, rfl, _⟩ := h
    rfl
  · obtain ⟨rd, Ts, last, r, rfl, hR, G⟩ := h
    refine ⟨_, (pss_cons (ps_if (pt_cmp (pc_notN (pe_met (pv 0) D_Reader_ahead_of hr.room rfl pass0 (pa_cons (pe_gr T.g_ALONE) pa_nil))) rfl) (pss_one (ps_ret (pe_tup (pa_cons (pe_metS0 (pv 0) D_Reader_take hr.room rfl (takes_of rfl rfl rfl rfl)) pa_nil)))) pss_nil)
  (pss_cons (ps_if (pt_cmp (pc_notN (pe_met (pv 0) D_Reader_ahead_of hr.room rfl pass0 (pa_cons (pe_gr T.g_ASKS) pa_nil))) rfl) (pss_one (ps_ret (pe_calQS D_read_ask hr (by omega) rfl (takes_of rfl rfl rfl rfl) (pa_cons (pv 0) pa_nil)))) pss_nil)
  (pss_cons (ps_if (pt_val (pe_metS (pv 0) D_Reader_skips hr.room rfl (takes_of rfl rfl rfl rfl) (pa_cons pe_str pa_nil))) (pss_cons (ps_set (i := 1) sc_read_keyed.nd rfl (Or.inl rfl) (pe_calQS D_read_e hr (by omega) rfl (takes_of rfl rfl rfl rfl) (pa_cons (pv 0) pa_nil)))
  (pss_cons (ps_expr (pe_metS (pv 0) D_Reader_want hr.room rfl (takes_of rfl rfl rfl rfl) (pa_cons pe_str pa_nil)))
  (pss_one (ps_ret (pv 1))))) pss_nil)
  (pss_cons (ps_if (pt_val (pe_met (pv 0) D_Reader_is_ahead hr.room rfl pass0 (pa_cons pe_str pa_nil))) (pss_one (ps_ret (pe_tup (pa_cons pe_str (pa_cons (pe_calQS D_read_args hr (by omega) rfl (takes_of rfl rfl rfl rfl) (pa_cons (pv 0) (pa_cons pe_str (pa_cons pe_str pa_nil)))) pa_nil))))) pss_nil)
  (pss_cons (ps_if (pt_val (pe_metS (pv 0) D_Reader_skips hr.room rfl (takes_of rfl rfl rfl rfl) (pa_cons pe_str pa_nil))) (pss_cons (ps_set (i := 2) sc_read_keyed.nd rfl (Or.inl rfl) (pe_calQS D_read_params hr (by omega) rfl (takes_of rfl rfl rfl rfl) (pa_cons (pv 0) pa_nil)))
  (pss_one (ps_ret (pe_tup (pa_cons pe_str (pa_cons (pv 2) (pa_cons (pe_calQS D_read_block hr (by omega) rfl (takes_of rfl rfl rfl rfl) (pa_cons (pv 0) pa_nil)) pa_nil))))))) pss_nil)
  (pss_cons (ps_if (pt_val (pe_metS (pv 0) D_Reader_skips hr.room rfl (takes_of rfl rfl rfl rfl) (pa_cons pe_str pa_nil))) (pss_cons (ps_expr (pe_metS (pv 0) D_Reader_want hr.room rfl (takes_of rfl rfl rfl rfl) (pa_cons pe_str pa_nil)))
  (pss_cons (ps_set (i := 3) sc_read_keyed.nd rfl (Or.inl rfl) (pe_metS0 (pv 0) D_Reader_want_name hr.room rfl (takes_of rfl rfl rfl rfl)))
  (pss_one (ps_ret (pe_tup (pa_cons pe_str (pa_cons (pv 3) (pa_cons (pe_calQS D_read_args hr (by omega) rfl (takes_of rfl rfl rfl rfl) (pa_cons (pv 0) (pa_cons pe_str (pa_cons pe_str pa_nil)))) pa_nil)))))))) pss_nil)
  (pss_cons (ps_expr (pe_metS (pv 0) D_Reader_want hr.room rfl (takes_of rfl rfl rfl rfl) (pa_cons pe_str pa_nil)))
  (pss_cons (ps_set (i := 3) sc_read_keyed.nd rfl (Or.inl rfl) (pe_metS0 (pv 0) D_Reader_want_name hr.room rfl (takes_of rfl rfl rfl rfl)))
  (pss_one (ps_ret (pe_tup (pa_cons pe_str (pa_cons (pv 3) (pa_cons (pe_calQS D_read_args hr (by omega) rfl (takes_of rfl rfl rfl rfl) (pa_cons (pv 0) (pa_cons pe_str (pa_cons pe_str pa_nil)))) pa_nil)))))))))))))), ?_⟩
    unfold pKeyed at G
    walk_at "w"
    refine w_rd 0 rfl hR (by decide +kernel) ?_
    walk_at "w"
    refine w_spAheadOf hR (T.t_ALONE H) fun H1 s1 R1 => ?_
    have k1 : KeepF rd H H1 := .same s1
    rw [oS_none]
    by_cases hA : (aheadOf ALONE r).isSome = true
    · rw [if_pos hA] at G
      rw [hA]
      walk_at "w"
      refine w_nf ?_
      obtain ⟨t, q, z, rfl, hk, hv, hz, _⟩ := aheadOf_split hA
      obtain ⟨b1, b2⟩ := not_br (by decide +kernel) hz
      walk_at "w"
      refine w_rdS 0 rfl R1 (by decide +kernel) ?_
      walk_at "w"
      refine take_ok (opn_plain hv b1 b2) R1 k1 G fun H2 _ k2 R2 e2 G2 => ?_
      walk_at "w"
      refine ⟨by show 1 ≤ sizeLine; decide, fun p hp => ?_⟩
      have sp := sameUpd (o := .tup [t.v]) hp
      exact G2.fin (k2.trans (.same sp)) (R2.same sp) (.ofs upd_same (.cons (e2.same sp) .nil))
    rw [if_neg hA] at G
    rw [Bool.not_eq_true] at hA
    rw [hA]
    walk_at "w"
    refine w_nt ?_
    walk_at "w"
    refine w_rd 0 rfl R1 (by decide +kernel) ?_
    walk_at "w"
    refine w_spAheadOf R1 (T.t_ASKS H1) fun H2 s2 R2 => ?_
    have k2 := k1.trans (.same s2)
    rw [oS_none]
    by_cases hB : (aheadOf ASKS r).isSome = true
    · rw [if_pos hB] at G
      rw [hB]
      walk_at "w"
      refine w_nf ?_
      walk_at "w"
      exact ⟨rd, Ts, last, r, rfl, R2, hB, G.to k2 fun d q H' v _ _ _ _ z => z⟩
    rw [if_neg hB] at G
    rw [Bool.not_eq_true] at hB
    rw [hB]
    walk_at "w"
    refine w_nt ?_
    walk_at "w"
    refine w_rdS 0 rfl R2 (by decide +kernel) ?_
    walk_at "w"
    refine skipsO_ok (g := fun i => bn i.e fun a => bn (want ")") fun _ => rt a) hI (by decide +kernel) (by decide +kernel) R2 k2 (fun ha => by rw [if_pos ha] at G; exact G) (fun ps H3 hps ha _ k3 R3 G3 => ?_) fun H3 ha s3 R3 => ?_
    · walk_at "w"
      refine ⟨ps, hps, rd, Ts, last, r.tail, rfl, R3, G3.bind k3 fun a q H4 v _ k4 R4 e4 G4 => ?_⟩
      walk_at "w"
      refine w_rdS 0 rfl R4 (by decide +kernel) ?_
      walk_at "w"
      refine wantC_ok (by decide +kernel) (by decide +kernel) (by decide +kernel) R4 k4 G4 fun H5 _ k45 k5 R5 G5 => ?_
      walk_at "w"
      exact G5.fin k5 R5 (e4.mono (KeepF.tups R4 k45))
    rw [ha, if_neg Bool.false_ne_true] at G
    have k3 := k2.trans (.same s3)
    walk_at "w"
    refine w_rd 0 rfl R3 (by decide +kernel) ?_
    walk_at "w"
    refine w_spIsAhead R3 fun H4 s4 R4 => ?_
    have k4 := k3.trans (.same s4)
    cases hC : isAhead "[" r with
    | true =>
      rw [hC, if_pos rfl] at G
      walk_at "w"
      refine ⟨rd, Ts, last, r, "[", "]", rfl, .inr ⟨rfl, rfl⟩, R4, G.bind k4 fun a q H5 v _ k5 R5 e5 G5 => ?_⟩
      walk_at "w"
      refine ⟨by show 2 ≤ sizeLine; decide, fun p hp => ?_⟩
      have sp := sameUpd (o := .tup [.str "list", v]) hp
      exact G5.fin (k5.trans (.same sp)) (R5.same sp) (.ofs upd_same (.cons (.s _) (.cons (e5.same sp) .nil)))
    | false =>
    rw [hC, if_neg Bool.false_ne_true] at G
    walk_at "w"
    refine w_rdS 0 rfl R4 (by decide +kernel) ?_
    walk_at "w"
    refine skips_ok (by decide +kernel) (by decide +kernel) R4 (fun H5 hD kH5 R5 => ?_) fun H5 hD s5 R5 => ?_
    · rw [hD, if_pos rfl] at G
      have k5 := k4.trans kH5
      walk_at "w"
      refine ⟨rd, Ts, last, r.tail, rfl, R5, G.bind k5 fun a q H6 v _ k6 R6 e6 G6 => ?_⟩
      walk_at "w"
      refine ⟨rd, Ts, last, q, rfl, R6, G6.bind k6 fun b q2 H7 v2 k67 k7 R7 e7 G7 => ?_⟩
      walk_at "w"
      refine ⟨by show 3 ≤ sizeLine; decide, fun p hp => ?_⟩
      have sp := sameUpd (o := .tup [.str "fun", v, v2]) hp
      exact G7.fin (k7.trans (.same sp)) (R7.same sp) (.ofs upd_same (.cons (.s _) (.cons ((e6.mono (KeepF.tups R6 k67)).same sp) (.cons (e7.same sp) .nil))))
    rw [hD, if_neg Bool.false_ne_true] at G
    have k5 := k4.trans (.same s5)
    walk_at "w"
    refine w_rdS 0 rfl R5 (by decide +kernel) ?_
    walk_at "w"
    refine skips_ok (by decide +kernel) (by decide +kernel) R5 (fun H6 hE kH6 R6 => ?_) fun H6 hE s6 R6 => ?_
    · rw [hE, if_pos rfl] at G
      have k6 := k5.trans kH6
      walk_at "w"
      refine w_rdS 0 rfl R6 (by decide +kernel) ?_
      walk_at "w"
      refine want_ok (by decide +kernel) (by decide +kernel) R6 k6 G fun H7 _ _ k7 R7 G7 => ?_
      walk_at "w"
      refine w_rdS 0 rfl R7 (by decide +kernel) ?_
      walk_at "w"
      refine name_ok R7 k7 G7 fun H8 z q _ k8 R8 G8 => ?_
      walk_at "w"
      refine ⟨rd, Ts, last, q, "(", ")", rfl, .inl ⟨rfl, rfl⟩, R8, G8.bind k8 fun a q2 H9 v _ k9 R9 e9 G9 => ?_⟩
      walk_at "w"
      refine ⟨by show 3 ≤ sizeLine; decide, fun p hp => ?_⟩
      have sp := sameUpd (o := .tup [.str "up", .str z, v]) hp
      exact G9.fin (k9.trans (.same sp)) (R9.same sp) (.ofs upd_same (.cons (.s _) (.cons (.s _) (.cons (e9.same sp) .nil))))
    rw [hE, if_neg Bool.false_ne_true] at G
    have k6 := k5.trans (.same s6)
    walk_at "w"
    refine w_rdS 0 rfl R6 (by decide +kernel) ?_
    walk_at "w"
    refine want_ok (by decide +kernel) (by decide +kernel) R6 k6 G fun H7 _ _ k7 R7 G7 => ?_
    walk_at "w"
    refine w_rdS 0 rfl R7 (by decide +kernel) ?_
    walk_at "w"
    refine name_ok R7 k7 G7 fun H8 z q _ k8 R8 G8 => ?_
    walk_at "w"
    refine ⟨rd, Ts, last, q, "(", ")", rfl, .inl ⟨rfl, rfl⟩, R8, G8.bind k8 fun a q2 H9 v _ k9 R9 e9 G9 => ?_⟩
    walk_at "w"
    refine ⟨by show 3 ≤ sizeLine; decide, fun p hp => ?_⟩
    have sp := sameUpd (o := .tup [.str "new", .str z, v]) hp
    exact G9.fin (k9.trans (.same sp)) (R9.same sp) (.ofs upd_same (.cons (.s _) (.cons (.s _) (.cons (e9.same sp) .nil))))
theorem ok_read_first (T : Txr P w K mg) {f : Addr} {fd : FuncData} (F : FnP K "read_first" s_read_first f fd) (RM : RdM P w K mg base) (D_read_keyed : CalQ P w K mg base (L2.CX P w) (m + 2) "read_keyed" P_read_keyed (spP K o (pKeyed I))) :
    FnQ P w K mg base (L2.CX P w) (m + 3) f fd P_read_first (spP K o (pFirst I)) := by
  obtain ⟨D_Reader_is_more, D_Reader_sort_at, D_Reader_is_ahead, D_Reader_ahead_of, D_Reader_bind_ahead, D_Reader_wrong, D_Reader_take, D_Reader_want, D_Reader_want_name, D_Reader_skips⟩ := RM
  refine F.okQ sc_read_first (fun vs H Q E h => ?_) (fun cdv A outer s H vs Q E hr h => ?_)
  · obtain ⟨rd, T, last, r, rfl, _⟩ := h
    rfl
  · obtain ⟨rd, Ts, last, r, rfl, hR, G⟩ := h
    refine ⟨_, (pss_cons (ps_set (i := 1) sc_read_first.nd rfl (Or.inl rfl) (pe_met (pv 0) D_Reader_sort_at hr.room rfl pass0 (pa_cons pe_int pa_nil)))
  (pss_one (ps_ret (pe_ifExp (pt_cmpR op_in_seq (pv 1) (pe_tup (pa_cons pe_str (pa_cons pe_str (pa_cons pe_str pa_nil)))) (by rfl)) (pe_tup (pa_cons (pv 1) (pa_cons (pe_metS0 (pv 0) D_Reader_take hr.room rfl (takes_of rfl rfl rfl rfl)) pa_nil))) (pe_calQS D_read_keyed hr (by omega) rfl (takes_of rfl rfl rfl rfl) (pa_cons (pv 0) pa_nil)))))), ?_⟩
    walk_at "w"
    refine w_rd 0 rfl hR (by decide +kernel) ?_
    walk_at "w"
    refine ⟨rd, Ts, last, r, o, 0, rfl, hR, ?_⟩
    walk_at "w"
    refine ⟨by show 3 ≤ sizeLine; decide, fun p hp => ?_⟩
    have s1 := sameUpd (o := .tup [.str "number", .str "text", .str "name"]) hp
    refine w_inStrs ["number", "text", "name"] (.of upd_same) (sort_flat 0 r) ?_
    have R1 := hR.same s1
    have k1 : KeepF rd H _ := .same s1
    have keyed : ∀ r, Rdr K (upd H p (.tup [.str "number", .str "text", .str "name"])) rd Ts last r o → Got K H rd Ts last o E (pKeyed I r) Q → True := fun _ _ _ => trivial
    cases r with
    | nil =>
      change ∃ k, V.bl false = V.bl k ∧ _
      walk_at "w"
      exact ⟨rd, Ts, last, [], rfl, R1, G.to k1 fun d q H' v _ _ _ _ z => z⟩
    | cons t q =>
      have eB : inStrs (sortAt 0 (t :: q)) ["number", "text", "name"] = isPlain (.str t.s) := by
        show decide (t.s ∈ (["number", "text", "name"] : List Str)) = isPlain (.str t.s)
        unfold isPlain
        simp
      rw [eB]
      unfold pFirst at G
      dsimp only at G
      cases hp2 : isPlain (.str t.s) with
      | false =>
        rw [hp2, if_neg Bool.false_ne_true] at G
        walk_at "w"
        exact ⟨rd, Ts, last, t :: q, rfl, R1, G.to k1 fun d q H' v _ _ _ _ z => z⟩
      | true =>
        rw [hp2, if_pos rfl] at G
        have hm : t.s ≠ "mark" := fun e => by
          rw [e] at hp2
          exact absurd hp2 (by decide +kernel)
        walk_at "w"
        refine w_rdS 0 rfl R1 (by decide +kernel) ?_
        walk_at "w"
        have G2 : Got K H rd Ts last o E (bn takeV (fun d => rt (.tup [.s t.s, d])) (t :: q)) Q := G
        refine take_ok (opn_nomark hm) R1 k1 G2 fun H2 _ k2 R2 e2 G3 => ?_
        walk_at "w"
        refine ⟨by show 2 ≤ sizeLine; decide, fun p2 hp3 => ?_⟩
        have sp := sameUpd (o := .tup [.str t.s, t.v]) hp3
        exact G3.fin (k2.trans (.same sp)) (R2.same sp) (.ofs upd_same (.cons (.s _) (.cons (e2.same sp) .nil)))
theorem ok_read_message (T : Txr P w K mg) {f : Addr} {fd : FuncData} (F : FnP K "read_message" s_read_message f fd) (RM : RdM P w K mg base) (D_read_args : CalQ P w K mg base (L2.CX P w) (m + 1) "read_args" P_read_args (spArgs K o I)) :
    FnQ P w K mg base (L2.CX P w) (m + 2) f fd P_read_message (spMsg K o I) := by
  obtain ⟨D_Reader_is_more, D_Reader_sort_at, D_Reader_is_ahead, D_Reader_ahead_of, D_Reader_bind_ahead, D_Reader_wrong, D_Reader_take, D_Reader_want, D_Reader_want_name, D_Reader_skips⟩ := RM
  refine F.okQ sc_read_message (fun vs H Q E h => ?_) (fun cdv A outer s H vs Q E hr h => ?_)
  · obtain ⟨rd, T, last, r, v, d, rfl, _⟩ := h
    rfl
  · obtain ⟨rd, Ts, last, r, v, d, rfl, hR, hd, G⟩ := h
    refine ⟨_, (pss_cons (ps_set (i := 2) sc_read_message.nd rfl (Or.inl rfl) (pe_metS0 (pv 0) D_Reader_want_name hr.room rfl (takes_of rfl rfl rfl rfl)))
  (pss_one (ps_ret (pe_ifExp (pt_val (pe_met (pv 0) D_Reader_is_ahead hr.room rfl pass0 (pa_cons pe_str pa_nil))) (pe_tup (pa_cons pe_str (pa_cons (pv 1) (pa_cons (pv 2) (pa_cons (pe_calQS D_read_args hr (by omega) rfl (takes_of rfl rfl rfl rfl) (pa_cons (pv 0) (pa_cons pe_str (pa_cons pe_str pa_nil)))) pa_nil))))) (pe_tup (pa_cons pe_str (pa_cons (pv 1) (pa_cons (pv 2) pa_nil)))))))), ?_⟩
    walk_at "w"
    refine w_rdS 0 rfl hR (by decide +kernel) ?_
    walk_at "w"
    refine name_ok hR .refl G fun H1 z q kH1 k1 R1 G1 => ?_
    have hd1 := hd.mono (KeepF.tups hR kH1)
    walk_at "w"
    refine w_rd 0 rfl R1 (by decide +kernel) ?_
    walk_at "w"
    refine w_spIsAhead R1 fun H2 s2 R2 => ?_
    have k2 := k1.trans (.same s2)
    cases ha : isAhead "(" q with
    | true =>
      rw [ha, if_pos rfl] at G1
      walk_at "w"
      refine ⟨rd, Ts, last, q, "(", ")", rfl, .inl ⟨rfl, rfl⟩, R2, G1.bind k2 fun a q2 H3 v2 kH3 k3 R3 e3 G3 => ?_⟩
      walk_at "w"
      refine ⟨by show 4 ≤ sizeLine; decide, fun p hp => ?_⟩
      have sp := sameUpd (o := .tup [.str "send", v, .str z, v2]) hp
      exact G3.fin (k3.trans (.same sp)) (R3.same sp) (.ofs upd_same (.cons (.s _) (.cons (((hd1.same s2).mono (KeepF.tups R2 kH3)).same sp) (.cons (.s _) (.cons (e3.same sp) .nil)))))
    | false =>
      rw [ha, if_neg Bool.false_ne_true] at G1
      walk_at "w"
      refine ⟨by show 3 ≤ sizeLine; decide, fun p hp => ?_⟩
      have sp := sameUpd (o := .tup [.str "field", v, .str z]) hp
      exact G1.fin (k2.trans (.same sp)) (R2.same sp) (.ofs upd_same (.cons (.s _) (.cons ((hd1.same s2).same sp) (.cons (.s _) .nil))))
end
end FE
namespace L2
open PySem PySem.Spec PyProof.Rows
theorem w_BM0 {K : PySem.W.Frag} {σ : L2.St} {H : Hp} {Q : VK} {n : String} {r : V → List V → Hp → VK → Prop} {to : TE} (q : to σ H fun x H1 => tyV K n x H1 ∧ r x [] H1 Q) : tBM0 K n r to σ H Q := q
end L2
local macro_rules | `(tactic| walk_at "w1") => `(tactic| first
  | ((with_reducible refine' L2.w_var ?h ?q); (case h => rfl))
  | with_reducible refine L2.w_c ?_ | with_reducible refine L2.w_cons ?_ | with_reducible refine L2.w_nil ?_
  | with_reducible refine L2.w_op ?_ | with_reducible refine L2.w_un ?_ | with_reducible refine L2.w_I0 ?_ | with_reducible refine L2.w_U ?_ | with_reducible refine L2.w_eqI ?_ | with_reducible refine L2.w_neI ?_
  | with_reducible refine L2.w_test ?_ | with_reducible refine L2.w_B ?_ | with_reducible refine L2.w_bl ?_ | with_reducible refine L2.w_t ?_ | with_reducible refine L2.w_f ?_
  | with_reducible refine L2.w_and ?_ | with_reducible refine L2.w_or ?_ | with_reducible refine L2.w_not ?_ | with_reducible refine L2.w_andV ?_ | with_reducible refine L2.w_orV ?_ | with_reducible refine L2.w_notV ?_
  | with_reducible refine L2.w_ifE ?_ | with_reducible refine L2.w_chain ?_ | with_reducible refine L2.w_isN ?_ | with_reducible refine L2.w_notN ?_
  | with_reducible refine L2.w_seq ?_ | with_reducible refine L2.w_asg ?_ | with_reducible refine L2.w_name ?_ | with_reducible refine L2.w_ret ?_ | with_reducible refine L2.w_retN ?_ | with_reducible refine L2.w_ifS ?_ | with_reducible refine L2.w_next ?_ | with_reducible refine L2.w_drop ?_
  | with_reducible refine L2.w_tup ?_ | with_reducible refine L2.w_lst ?_ | ((with_reducible refine' L2.w_aug ?h ?q); (case h => rfl)) | with_reducible refine L2.w_callS ?_ | with_reducible refine L2.w_repG ?_ | with_reducible refine L2.w_rng2 ?_ | with_reducible refine L2.w_inSg ?_ | with_reducible refine L2.w_notInSg ?_ | ((with_reducible refine' L2.w_slSg ?h ?q); (case h => assumption)) | ((with_reducible refine' L2.w_lenSg ?h ?q); (case h => assumption)) | ((with_reducible refine' L2.w_ixSg ?h ?hc ?q); (case h => assumption); (case hc => assumption)) | with_reducible refine L2.w_call ?_ | with_reducible refine L2.w_CB ?_
  | with_reducible refine L2.w_int1 ?_ | with_reducible refine L2.w_intb ?_ | with_reducible refine L2.w_abs ?_
  | ((with_reducible refine' L2.w_I ?h ?q); (case h => first | (show (0 : Int) < _; decide) | exact ⟨by decide, by decide⟩ | exact .inr ⟨by decide, by decide⟩ | exact .inl ⟨by decide, by decide⟩ | exact ⟨by decide, by decide, by decide⟩ | exact .inl ⟨by omega, by omega⟩))
  | with_reducible refine L2.w_for ?_ | with_reducible refine L2.w_rng1 ?_ | with_reducible refine L2.w_itL ?_ | with_reducible refine L2.w_itT ?_ | with_reducible refine L2.w_yes ?_
  | with_reducible refine L2.w_nt ?_ | with_reducible refine L2.w_nf ?_ | with_reducible refine L2.w_fld ?_ | with_reducible refine L2.w_BM ?_ | with_reducible refine L2.w_BM0 ?_ | with_reducible refine L2.w_sl ?_ | with_reducible refine L2.w_noPart ?_ | with_reducible refine L2.w_part ?_ | with_reducible refine L2.w_in ?_)
local macro_rules | `(tactic| walk_at "w") => `(tactic| repeat (walk_at "w1"))
namespace FE
open PySem L2 K01
/-! ## the two piles -/
inductive Stks (H : Hp) : List V → List D → Prop
  | nil : Stks H [] []
  | snoc {us : List V} {os : List D} {v : V} {d : D} : Stks H us os → Rep H v d → Stks H (us ++ [v]) (d :: os)
inductive Wts (H : Hp) : List V → List (Int × Str) → Prop
  | nil : Wts H [] []
  | snoc {ws : List V} {wt : List (Int × Str)} {p : Addr} {b : Int} {w : Str} : Wts H ws wt → H p = some (.tup [.int b, .str w]) → Wts H (ws ++ [.ref p]) ((b, w) :: wt)
theorem Stks.mono {H H' : Hp} (s : ∀ p xs, H p = some (.tup xs) → H' p = some (.tup xs)) {us : List V} {os : List D} (h : Stks H us os) : Stks H' us os := by
  induction h with
  | nil => exact .nil
  | snoc _ e ih => exact .snoc ih (e.mono s)
theorem Wts.mono {H H' : Hp} (s : ∀ p xs, H p = some (.tup xs) → H' p = some (.tup xs)) {ws : List V} {wt : List (Int × Str)} (h : Wts H ws wt) : Wts H' ws wt := by
  induction h with
  | nil => exact .nil
  | snoc _ e ih => exact .snoc ih (s _ _ e)
theorem Stks.len {H : Hp} {us : List V} {os : List D} (h : Stks H us os) : us.length = os.length := by
  induction h with
  | nil => rfl
  | snoc _ _ ih => rw [List.length_append, ih] <;> rfl
theorem Wts.len {H : Hp} {ws : List V} {wt : List (Int × Str)} (h : Wts H ws wt) : ws.length = wt.length := by
  induction h with
  | nil => rfl
  | snoc _ _ ih => rw [List.length_append, ih] <;> rfl
theorem Stks.inv {H : Hp} {us : List V} {d : D} {os : List D} (h : Stks H us (d :: os)) : ∃ us' v, us = us' ++ [v] ∧ Stks H us' os ∧ Rep H v d := by
  cases h with
  | snoc a b => exact ⟨_, _, rfl, a, b⟩
theorem Wts.inv {H : Hp} {ws : List V} {b : Int} {w : Str} {wt : List (Int × Str)} (h : Wts H ws ((b, w) :: wt)) : ∃ ws' p, ws = ws' ++ [.ref p] ∧ Wts H ws' wt ∧ H p = some (.tup [.int b, .str w]) := by
  cases h with
  | snoc a e => exact ⟨_, _, rfl, a, e⟩
theorem last_snoc {us : List V} {v : V} : (us ++ [v])[(us ++ [v]).length - 1]? = some v := by
  rw [List.length_append, List.length_singleton, Nat.add_sub_cancel, List.getElem?_append_right (Nat.le_refl _), Nat.sub_self] <;> rfl
/-- how many wait for two operands -/
def nb : List (Int × Str) → Nat
  | [] => 0
  | (_, w) :: r => nb r + (if isUn w = true then 0 else 1)
def Bal (s : Stk) : Prop := s.1.length = nb s.2 + 1
theorem put_bal {s : Stk} (h : Bal s) : Bal (put s) := by
  obtain ⟨os, wt⟩ := s
  match os, wt, h with
  | [], [], h => exact h
  | l :: os, [], h => exact h
  | [], (b, w) :: wt, h => exact h
  | l :: os, (b, w) :: wt, h =>
    have h' : os.length + 1 = nb wt + (if isUn w = true then 0 else 1) + 1 := h
    unfold put
    dsimp only
    by_cases hw : isUn w = true
    · rw [if_pos hw]
      rw [if_pos hw] at h'
      exact h'
    · rw [if_neg hw]
      rw [if_neg hw] at h'
      cases os with
      | nil => simp only [List.length_nil] at h'; omega
      | cons o os =>
        show os.length + 1 = nb wt + 1
        simp only [List.length_cons] at h'
        omega
theorem put_wt {os : List D} {b : Int} {w : Str} {wt : List (Int × Str)} (h : Bal (os, (b, w) :: wt)) : (put (os, (b, w) :: wt)).2 = wt := by
  cases os with
  | nil => exact absurd (show (0 : Nat) = nb wt + (if isUn w = true then 0 else 1) + 1 from h) (by omega)
  | cons l os =>
    have h' : os.length + 1 = nb wt + (if isUn w = true then 0 else 1) + 1 := h
    unfold put
    dsimp only
    by_cases hw : isUn w = true
    · rw [if_pos hw]
    · rw [if_neg hw]
      rw [if_neg hw] at h'
      cases os with
      | nil => simp only [List.length_nil] at h'; omega
      | cons o os => rfl
/-- all stands but the two piles -/
def Keep2 (A B : Addr) (H H' : Hp) : Prop := ∀ a o, a ≠ A → a ≠ B → H a = some o → H' a = some o
theorem Keep2.trans {A B : Addr} {H H1 H2 : Hp} (x : Keep2 A B H H1) (y : Keep2 A B H1 H2) : Keep2 A B H H2 := fun a o h1 h2 h => y a o h1 h2 (x a o h1 h2 h)
theorem Keep2.updA {A B : Addr} {H H1 : Hp} {u : HO} (x : Keep2 A B H H1) : Keep2 A B H (upd H1 A u) := fun a o h1 h2 h => by rw [upd_ne h1]; exact x a o h1 h2 h
theorem Keep2.updB {A B : Addr} {H H1 : Hp} {u : HO} (x : Keep2 A B H H1) : Keep2 A B H (upd H1 B u) := fun a o h1 h2 h => by rw [upd_ne h2]; exact x a o h1 h2 h
theorem Keep2.same {A B : Addr} {H H1 H2 : Hp} (x : Keep2 A B H H1) (s : Same H1 H2) : Keep2 A B H H2 := fun a o h1 h2 h => s a o (x a o h1 h2 h)
theorem Keep2.tups {A B : Addr} {H H1 : Hp} {us ws : List V} (x : Keep2 A B H H1) (hA : H A = some (.lst us)) (hB : H B = some (.lst ws)) : ∀ p xs, H p = some (.tup xs) → H1 p = some (.tup xs) := fun p xs e => x p _ (ne_of e hA (by intro z; cases z)) (ne_of e hB (by intro z; cases z)) e
/-- the piles stand -/
structure Piles (H : Hp) (A B : Addr) (s : Stk) (us ws : List V) : Prop where
  ne : A ≠ B
  a : H A = some (.lst us)
  b : H B = some (.lst ws)
  os : Stks H us s.1
  wt : Wts H ws s.2
theorem Piles.same {H H' : Hp} {A B : Addr} {s : Stk} {us ws : List V} (h : Piles H A B s us ws) (k : Same H H') : Piles H' A B s us ws := ⟨h.ne, k _ _ h.a, k _ _ h.b, h.os.mono fun _ _ e => k _ _ e, h.wt.mono fun _ _ e => k _ _ e⟩
theorem Piles.mono {H H' : Hp} {A B : Addr} {s : Stk} {us ws : List V} (h : Piles H A B s us ws) (k : ∀ p xs, H p = some (.tup xs) → H' p = some (.tup xs)) (a : H' A = some (.lst us)) (b : H' B = some (.lst ws)) : Piles H' A B s us ws := ⟨h.ne, a, b, h.os.mono k, h.wt.mono k⟩
def spPut : Sp := fun vs H Q _ => ∃ A B s us ws, vs = [.ref A, .ref B] ∧ Piles H A B s us ws ∧ Bal s ∧ s.2 ≠ [] ∧ us.length ≤ big + 2 ∧ ∀ H' us' ws', Keep2 A B H H' → Piles H' A B (put s) us' ws' → us'.length ≤ us.length → Q .non H'
section
variable {P : Program} {w : World} {K : PySem.W.Frag} {mg : Str → Option Value} {base : Heap} {m : Nat} {o : Int} {I : Option Ps}
theorem ok_put_together {f : Addr} {fd : FuncData} (F : FnP K "put_together" s_put_together f fd) : FnOk P w K mg base CX0 1 f fd P_put_together spPut := by
  refine F.ok sc_put_together (fun vs H Q E h => ?_) (fun cdv A outer s H vs Q E hr h => ?_)
  · obtain ⟨A, B, s, us, ws, rfl, _⟩ := h
    rfl
  · obtain ⟨PA, PB, ⟨os, wt⟩, us, ws, rfl, hP, hB, hne, hz, q⟩ := h
    refine ⟨_, PSs.nox (pss_cons (ps_asg (pe_bm0 PySem.F.plainAttrs_list PySem.F.slot_list_pop PySem.F.type_list_pop mt_pop (pv 1)) (pg_tup (by rfl) (pgs_cons (pg_name (i := 2) sc_put_together.nd rfl (Or.inl rfl)) (pgs_cons (pg_name (i := 3) sc_put_together.nd rfl (Or.inl rfl)) pgs_nil))))
  (pss_cons (ps_set (i := 4) sc_put_together.nd rfl (Or.inl rfl) (pe_bm0 PySem.F.plainAttrs_list PySem.F.slot_list_pop PySem.F.type_list_pop mt_pop (pv 0)))
  (pss_one (ps_if (pt_cmpR op_in_seq (pv 3) (pe_tup (pa_cons pe_str (pa_cons pe_str pa_nil))) (by rfl)) (pss_one (ps_expr (pe_bm PySem.F.plainAttrs_list PySem.F.slot_list_append PySem.F.type_list_append mt_append (pv 0) (pa_cons (pe_tup (pa_cons (pv 3) (pa_cons (pv 4) pa_nil))) pa_nil)))) (pss_one (ps_expr (pe_bm PySem.F.plainAttrs_list PySem.F.slot_list_append PySem.F.type_list_append mt_append (pv 0) (pa_cons (pe_tup (pa_cons (pv 3) (pa_cons (pe_bm0 PySem.F.plainAttrs_list PySem.F.slot_list_pop PySem.F.type_list_pop mt_pop (pv 0)) (pa_cons (pv 4) pa_nil)))) pa_nil)))))))), ?_⟩
    obtain ⟨nAB, hA, hBB, hos, hwt⟩ := hP
    have hsz : big + 2 < sizeLine := by decide
    match os, wt, hB, hne, hos, hwt, q with
    | os, [], _, hne, _, _, _ => exact absurd rfl hne
    | [], (b, z) :: wt, hB, _, _, _, _ => exact absurd (show (0 : Nat) = nb wt + (if isUn z = true then 0 else 1) + 1 from hB) (by omega)
    | l :: os, (b, z) :: wt, hB, _, hos, hwt, q =>
      obtain ⟨us', v, rfl, hos', hv⟩ := hos.inv
      obtain ⟨ws', p, rfl, hwt', hp⟩ := hwt.inv
      have hl : os.length + 1 = nb wt + (if isUn z = true then 0 else 1) + 1 := hB
      have z1 : us'.length + 1 ≤ big + 2 := by rw [List.length_append, List.length_singleton] at hz; exact hz
      walk_at "w"
      refine ⟨.inl ⟨rfl, _, .of hBB⟩, ?_⟩
      walk_at "w"
      refine ⟨PB, _, _, rfl, rfl, hBB, last_snoc, ?_⟩
      rw [List.dropLast_concat]
      have t1 := tup_updL (vs := ws') hBB
      refine ⟨p, _, rfl, .of (t1 _ _ hp), rfl, _, _, rfl, w_name ⟨_, _, rfl, w_name ⟨rfl, ?_⟩⟩⟩
      have hA1 : (upd H PB (.lst ws')) PA = some (.lst (us' ++ [v])) := by rw [upd_ne nAB]; exact hA
      have hB1 : (upd H PB (.lst ws')) PB = some (.lst ws') := upd_same
      walk_at "w"
      refine ⟨.inl ⟨rfl, _, .of hA1⟩, ?_⟩
      walk_at "w"
      refine ⟨PA, _, _, rfl, rfl, hA1, last_snoc, ?_⟩
      rw [List.dropLast_concat]
      have t2 := tup_updL (vs := us') hA1
      have k2 : Keep2 PA PB H (upd (upd H PB (.lst ws')) PA (.lst us')) := Keep2.updA (Keep2.updB fun _ _ _ _ h => h)
      have hA2 : (upd (upd H PB (.lst ws')) PA (.lst us')) PA = some (.lst us') := upd_same
      have hB2 : (upd (upd H PB (.lst ws')) PA (.lst us')) PB = some (.lst ws') := by rw [upd_ne nAB.symm]; exact hB1
      have os2 := hos'.mono fun p xs e => t2 _ _ (t1 _ _ e)
      have wt2 := hwt'.mono fun p xs e => t2 _ _ (t1 _ _ e)
      have v2 := hv.mono fun p xs e => t2 _ _ (t1 _ _ e)
      generalize upd (upd H PB (.lst ws')) PA (.lst us') = H2 at k2 hA2 hB2 os2 wt2 v2 ⊢
      walk_at "w"
      refine ⟨by show 2 ≤ sizeLine; decide, fun p3 hp3 => ?_⟩
      have s3 := sameUpd (o := .tup [.str "not", .str "minus"]) hp3
      refine w_inStrs ["not", "minus"] (.of upd_same) rfl ?_
      have eU : inStrs (.str z) ["not", "minus"] = isUn z := by
        show decide (z ∈ (["not", "minus"] : List Str)) = isUn z
        unfold isUn
        simp
      rw [eU]
      have k3 := k2.same s3
      have hA3 := s3 _ _ hA2
      have hB3 := s3 _ _ hB2
      have os3 := os2.mono fun _ _ e => s3 _ _ e
      have wt3 := wt2.mono fun _ _ e => s3 _ _ e
      have v3 := v2.same s3
      generalize upd H2 p3 (.tup [.str "not", .str "minus"]) = H3 at k3 hA3 hB3 os3 wt3 v3 ⊢
      cases hU : isUn z with
      | true =>
        have pe : put (l :: os, (b, z) :: wt) = (.tup [.s z, l] :: os, wt) := if_pos hU
        rw [pe] at q
        walk_at "w"
        refine ⟨.inl ⟨rfl, _, .of hA3⟩, ?_⟩
        walk_at "w"
        refine ⟨by show 2 ≤ sizeLine; decide, fun p4 hp4 => ?_⟩
        walk_at "w"
        have s4 := sameUpd (o := .tup [.str z, v]) hp4
        have hA4 := s4 _ _ hA3
        refine ⟨PA, us', _, rfl, rfl, hA4, by omega, ?_⟩
        have t4 := tup_updL (vs := us' ++ [.ref p4]) hA4
        refine q _ (us' ++ [.ref p4]) ws' (k3.same s4).updA ⟨nAB, upd_same, ?_, .snoc (os3.mono fun _ _ e => t4 _ _ (s4 _ _ e)) (.ofs (t4 _ _ upd_same) (.cons (.s _) (.cons (v3.mono fun _ _ e => t4 _ _ (s4 _ _ e)) .nil))), wt3.mono fun _ _ e => t4 _ _ (s4 _ _ e)⟩ (by simp)
        rw [upd_ne nAB.symm]
        exact s4 _ _ hB3
      | false =>
        rw [hU, if_neg Bool.false_ne_true] at hl
        cases os with
        | nil => simp only [List.length_nil] at hl; omega
        | cons d os =>
        have pe : put (l :: d :: os, (b, z) :: wt) = (.tup [.s z, d, l] :: os, wt) := if_neg (by rw [hU]; decide)
        rw [pe] at q
        obtain ⟨us2, u, rfl, os3', hu⟩ := os3.inv
        walk_at "w"
        refine ⟨.inl ⟨rfl, _, .of hA3⟩, ?_⟩
        walk_at "w"
        refine ⟨.inl ⟨rfl, _, .of hA3⟩, ?_⟩
        walk_at "w"
        refine ⟨PA, _, _, rfl, rfl, hA3, last_snoc, ?_⟩
        rw [List.dropLast_concat]
        walk_at "w"
        have t5 := tup_updL (vs := us2) hA3
        refine ⟨by show 3 ≤ sizeLine; decide, fun p4 hp4 => ?_⟩
        walk_at "w"
        have s4 := sameUpd (o := .tup [.str z, u, v]) hp4
        have hA4 : (upd (upd H3 PA (.lst us2)) p4 (.tup [.str z, u, v])) PA = some (.lst us2) := s4 _ _ upd_same
        have hB4 : (upd (upd H3 PA (.lst us2)) p4 (.tup [.str z, u, v])) PB = some (.lst ws') := s4 _ _ (by rw [upd_ne nAB.symm]; exact hB3)
        rw [List.length_append, List.length_singleton] at z1
        refine ⟨PA, us2, _, rfl, rfl, hA4, by omega, ?_⟩
        have t4 := tup_updL (vs := us2 ++ [.ref p4]) hA4
        refine q _ (us2 ++ [.ref p4]) ws' (k3.updA.same s4).updA ⟨nAB, upd_same, ?_, .snoc (os3'.mono fun _ _ e => t4 _ _ (s4 _ _ (t5 _ _ e))) (.ofs (t4 _ _ upd_same) (.cons (.s _) (.cons (hu.mono fun _ _ e => t4 _ _ (s4 _ _ (t5 _ _ e))) (.cons (v3.mono fun _ _ e => t4 _ _ (s4 _ _ (t5 _ _ e))) .nil)))), wt3.mono fun _ _ e => t4 _ _ (s4 _ _ (t5 _ _ e))⟩ (by simp)
        rw [upd_ne nAB.symm]
        exact hB4
end
end FE
namespace FE
open PySem L2 K01
theorem KeepF.keep2 {A B : Addr} {H H1 : Hp} (k : KeepF A H H1) : Keep2 A B H H1 := fun a o h1 _ h => k a o h1 h
/-- what read_ahead leaves -/
def spAheadR (K : PySem.W.Frag) (o : Int) : Sp := fun vs H Q E => ∃ rd T last r B ws wt n wt' r', vs = [.ref rd, .ref B] ∧ Rdr K H rd T last r o ∧ B ≠ rd ∧ B ≠ T.W ∧ H B = some (.lst ws) ∧ Wts H ws wt ∧ ws.length + n ≤ big + 2 ∧ ahead n wt r = .ok wt' r' ∧
  ∀ H' ws', Keep2 rd B H H' → Rdr K H' rd T last r' o → H' B = some (.lst ws') → Wts H' ws' wt' → ws'.length ≤ big + 2 → Q .non H'
section
variable {P : Program} {w : World} {K : PySem.W.Frag} {mg : Str → Option Value} {base : Heap} {m : Nat} {o : Int} {I : Option Ps}
theorem ok_read_behind (hI : OpI I o) (T : Txr P w K mg) {f : Addr} {fd : FuncData} (F : FnP K "read_behind" s_read_behind f fd) (RM : RdM P w K mg base) (D_read_e : CalQ P w K mg base (L2.CX P w) m "read_e" P_read_e (spI K o I Ps.e)) (D_read_args : CalQ P w K mg base (L2.CX P w) (m + 1) "read_args" P_read_args (spArgs K o I))
    (D_read_first : CalQ P w K mg base (L2.CX P w) (m + 3) "read_first" P_read_first (spP K o (pFirst I))) (D_read_message : CalQ P w K mg base (L2.CX P w) (m + 2) "read_message" P_read_message (spMsg K o I)) :
    FnQ P w K mg base (L2.CX P w) (m + 4) f fd P_read_behind (spP K o (pBehind I)) := by
  obtain ⟨D_Reader_is_more, D_Reader_sort_at, D_Reader_is_ahead, D_Reader_ahead_of, D_Reader_bind_ahead, D_Reader_wrong, D_Reader_take, D_Reader_want, D_Reader_want_name, D_Reader_skips⟩ := RM
  refine F.okQ sc_read_behind (fun vs H Q E h => ?_) (fun cdv A outer s H vs Q E hr h => ?_)
  · obtain ⟨rd, T, last, r, rfl, _⟩ := h
    rfl
  · obtain ⟨rd, Ts, last, r, rfl, hR, G⟩ := h
    refine ⟨_, (pss_cons (ps_set (i := 1) sc_read_behind.nd rfl (Or.inl rfl) (pe_calQS D_read_first hr (by omega) rfl (takes_of rfl rfl rfl rfl) (pa_cons (pv 0) pa_nil)))
  (pss_cons (ps_while (passes_of rfl) (pt_cmp (pc_notN (pe_met (pv 0) D_Reader_ahead_of hr.room rfl pass0 (pa_cons (pe_tup (pa_cons pe_str (pa_cons pe_str (pa_cons pe_str pa_nil)))) pa_nil))) rfl) (pss_one (ps_if (pt_val (pe_met (pv 0) D_Reader_is_ahead hr.room rfl pass0 (pa_cons pe_str pa_nil))) (pss_one (ps_set (i := 1) sc_read_behind.nd rfl (Or.inl rfl) (pe_tup (pa_cons pe_str (pa_cons (pv 1) (pa_cons (pe_calQS D_read_args hr (by omega) rfl (takes_of rfl rfl rfl rfl) (pa_cons (pv 0) (pa_cons pe_str (pa_cons pe_str pa_nil)))) pa_nil)))))) (pss_one (ps_if (pt_val (pe_metS (pv 0) D_Reader_skips hr.room rfl (takes_of rfl rfl rfl rfl) (pa_cons pe_str pa_nil))) (pss_one (ps_set (i := 1) sc_read_behind.nd rfl (Or.inl rfl) (pe_calQS D_read_message hr (by omega) rfl (takes_of rfl rfl rfl rfl) (pa_cons (pv 0) (pa_cons (pv 1) pa_nil))))) (pss_cons (ps_expr (pe_metS (pv 0) D_Reader_want hr.room rfl (takes_of rfl rfl rfl rfl) (pa_cons pe_str pa_nil)))
  (pss_cons (ps_set (i := 1) sc_read_behind.nd rfl (Or.inl rfl) (pe_tup (pa_cons pe_str (pa_cons (pv 1) (pa_cons (pe_calQS D_read_e hr (by omega) rfl (takes_of rfl rfl rfl rfl) (pa_cons (pv 0) pa_nil)) pa_nil)))))
  (pss_one (ps_expr (pe_metS (pv 0) D_Reader_want hr.room rfl (takes_of rfl rfl rfl rfl) (pa_cons pe_str pa_nil)))))))))))
  (pss_one (ps_ret (pv 1))))), ?_⟩
    walk_at "w"
    refine ⟨rd, Ts, last, r, rfl, hR, G.bind .refl fun d q H1 v _ k1 R1 e1 G1 => ?_⟩
    refine w_name ?_
    have G1 : Got K H rd Ts last o E (behind I (q.length + 1) d q) Q := G1
    with_reducible refine w_seq ?_
    refine ⟨fun n σ' H' => ∃ (v : V) (d : D) (q : List TK), σ' = [some (.ref rd), some v] ∧ Rep H' v d ∧ Rdr K H' rd Ts last q o ∧ KeepF rd H H' ∧ Got K H rd Ts last o E (behind I n d q) Q, ⟨q.length + 1, v, d, q, rfl, e1, R1, k1, G1⟩, ?_⟩
    rintro n σ' H2 ⟨v, d, q, rfl, e2, R2, k2, G2⟩
    walk_at "w"
    refine w_rd 0 rfl R2 (by decide +kernel) ?_
    walk_at "w"
    refine ⟨by show 3 ≤ sizeLine; decide, fun p hp => ?_⟩
    walk_at "w"
    have s3 := sameUpd (o := .tup [.str "(", .str ".", .str "["]) hp
    refine w_spAheadOf (ws := ["(", ".", "["]) (R2.same s3) (.of upd_same) fun H4 s4 R4 => ?_
    have k4 := (k2.trans (.same s3)).trans (.same s4)
    have e4 := (e2.same s3).same s4
    rw [oS_none]
    cases n with
    | zero => exact G2.elim
    | succ n =>
    unfold behind at G2
    by_cases hA : (aheadOf ["(", ".", "["] q).isSome = true
    · rw [if_pos hA] at G2
      rw [hA]
      refine w_bl ?_
      refine w_t ⟨fun σ' H' => ∃ m', m' < n + 1 ∧ ∃ (v : V) (d : D) (q : List TK), σ' = [some (.ref rd), some v] ∧ Rep H' v d ∧ Rdr K H' rd Ts last q o ∧ KeepF rd H H' ∧ Got K H rd Ts last o E (behind I m' d q) Q, fun _ _ z => z, ?_⟩
      walk_at "w"
      refine w_rd 0 rfl R4 (by decide +kernel) ?_
      walk_at "w"
      refine w_spIsAhead R4 fun H5 s5 R5 => ?_
      have k5 := k4.trans (.same s5)
      have e5 := e4.same s5
      cases hB : isAhead "(" q with
      | true =>
        rw [hB, if_pos rfl] at G2
        walk_at "w"
        refine ⟨rd, Ts, last, q, "(", ")", rfl, .inl ⟨rfl, rfl⟩, R5, G2.bind k5 fun a q2 H6 v2 kH6 k6 R6 e6 G6 => ?_⟩
        walk_at "w"
        refine ⟨by show 3 ≤ sizeLine; decide, fun p hp => ?_⟩
        have sp := sameUpd (o := .tup [.str "call", v, v2]) hp
        walk_at "w"
        exact ⟨n, Nat.lt_succ_self _, _, _, q2, rfl, .ofs upd_same (.cons (.s _) (.cons ((e5.mono (KeepF.tups R5 kH6)).same sp) (.cons (e6.same sp) .nil))), R6.same sp, k6.trans (.same sp), G6⟩
      | false =>
        rw [hB, if_neg Bool.false_ne_true] at G2
        walk_at "w"
        refine w_rdS 0 rfl R5 (by decide +kernel) ?_
        walk_at "w"
        refine skips_ok (by decide +kernel) (by decide +kernel) R5 (fun H6 ha kH6 R6 => ?_) (fun H6 ha s6 R6 => ?_)
        · rw [ha, if_pos rfl] at G2
          have k6 := k5.trans kH6
          walk_at "w"
          refine ⟨rd, Ts, last, q.tail, v, d, rfl, R6, e5.mono (KeepF.tups R5 kH6), G2.bind k6 fun a q2 H7 v2 _ k7 R7 e7 G7 => ?_⟩
          refine w_name ?_
          exact ⟨n, Nat.lt_succ_self _, _, _, q2, rfl, e7, R7, k7, G7⟩
        · rw [ha, if_neg Bool.false_ne_true] at G2
          have k6 := k5.trans (.same s6)
          have e6 := e5.same s6
          walk_at "w"
          refine w_rdS 0 rfl R6 (by decide +kernel) ?_
          walk_at "w"
          refine wantO_ok hI (by decide +kernel) (by decide +kernel) R6 k6 G2 fun ps H7 hps _ kH7 k7 R7 G7 => ?_
          walk_at "w"
          refine ⟨ps, hps, rd, Ts, last, q.tail, rfl, R7, G7.bind k7 fun a q2 H8 v2 kH8 k8 R8 e8 G8 => ?_⟩
          walk_at "w"
          refine ⟨by show 3 ≤ sizeLine; decide, fun p hp => ?_⟩
          have sp := sameUpd (o := .tup [.str "item", v, v2]) hp
          walk_at "w"
          refine w_rdS 0 rfl (R8.same sp) (by decide +kernel) ?_
          walk_at "w"
          refine wantC_ok (by decide +kernel) (by decide +kernel) (by decide +kernel) (R8.same sp) (k8.trans (.same sp)) G8 fun H9 _ kH9 k9 R9 G9 => ?_
          have r9 : Rep (upd H8 p (.tup [.str "item", v, v2])) (.ref p) (.tup [.s "item", d, a]) := .ofs upd_same (.cons (.s _) (.cons (((e6.mono (KeepF.tups R6 kH7)).mono (KeepF.tups R7 kH8)).same sp) (.cons (e8.same sp) .nil)))
          exact ⟨n, Nat.lt_succ_self _, _, _, _, rfl, r9.mono (KeepF.tups (R8.same sp) kH9), R9, k9, G9⟩
    · rw [if_neg hA] at G2
      rw [Bool.not_eq_true] at hA
      rw [hA]
      refine w_bl ?_
      refine w_f ?_
      walk_at "w"
      exact G2.fin k4 R4 e4
theorem ok_read_ahead (T : Txr P w K mg) {f : Addr} {fd : FuncData} (F : FnP K "read_ahead" s_read_ahead f fd) (RM : RdM P w K mg base) : FnQ P w K mg base (L2.CX P w) (m + 1) f fd P_read_ahead (spAheadR K o) := by
  obtain ⟨D_Reader_is_more, D_Reader_sort_at, D_Reader_is_ahead, D_Reader_ahead_of, D_Reader_bind_ahead, D_Reader_wrong, D_Reader_take, D_Reader_want, D_Reader_want_name, D_Reader_skips⟩ := RM
  refine F.okQ sc_read_ahead (fun vs H Q E h => ?_) (fun cdv A outer s H vs Q E hr h => ?_)
  · obtain ⟨rd, T, last, r, B, ws, wt, n, wt', r', rfl, _⟩ := h
    rfl
  · obtain ⟨rd, Ts, last, r, B, ws, wt, n, wt', r', rfl, hR, hBr, hBW, hB, hW, hz, ha, q⟩ := h
    refine ⟨_, (pss_one (ps_while (passes_of rfl) (pt_val pe_bl) (pss_one (ps_if (PW.pt (pw_and (pt_val (pe_met (pv 0) D_Reader_is_ahead hr.room rfl pass0 (pa_cons pe_str pa_nil))) (pw_and1 (PW.pt (pw_or (pt_cmpR op_eq (pe_callB call_lenN (by rfl) T.f_len (by decide +kernel) (pa_cons (pv 1) pa_nil)) pe_int (nomark _)) (pw_or1 (pt_cmpR op_le (pe_ix ix_tup (pe_ix ix_list (pv 1) (pe_un un_neg pe_int) (fun _ _ => rfl)) pe_int (fun _ _ => rfl)) (pe_gi T.g_NOT) (nomark _)))))))) (pss_one (ps_expr (pe_bm PySem.F.plainAttrs_list PySem.F.slot_list_append PySem.F.type_list_append mt_append (pv 1) (pa_cons (pe_tup (pa_cons (pe_gi T.g_NOT) (pa_cons (pe_metS0 (pv 0) D_Reader_take hr.room rfl (takes_of rfl rfl rfl rfl)) pa_nil))) pa_nil)))) (pss_one (ps_if (pt_val (pe_metS (pv 0) D_Reader_skips hr.room rfl (takes_of rfl rfl rfl rfl) (pa_cons pe_str pa_nil))) (pss_one (ps_expr (pe_bm PySem.F.plainAttrs_list PySem.F.slot_list_append PySem.F.type_list_append mt_append (pv 1) (pa_cons (pe_tup (pa_cons (pe_gi T.g_MINUS) (pa_cons pe_str pa_nil))) pa_nil)))) (pss_one ps_retN))))))), ?_⟩
    have hsz : big + 2 < sizeLine := by decide
    refine ⟨fun n σ' H' => ∃ (ws : List V) (wt : List (Int × Str)) (r : List TK), σ' = [some (.ref rd), some (.ref B)] ∧ Rdr K H' rd Ts last r o ∧ H' B = some (.lst ws) ∧ Wts H' ws wt ∧ ws.length + n ≤ big + 2 ∧ ahead n wt r = .ok wt' r' ∧ Keep2 rd B H H', ⟨n, ws, wt, r, rfl, hR, hB, hW, hz, ha, fun _ _ _ _ h => h⟩, ?_⟩
    rintro n σ' H1 ⟨ws, wt, r, rfl, R1, hB1, hW1, hz1, ha1, k1⟩
    walk_at "w"
    cases n with
    | zero => cases ha1
    | succ n =>
    unfold ahead at ha1
    refine ⟨fun σ' H' => ∃ m', m' < n + 1 ∧ ∃ (ws : List V) (wt : List (Int × Str)) (r : List TK), σ' = [some (.ref rd), some (.ref B)] ∧ Rdr K H' rd Ts last r o ∧ H' B = some (.lst ws) ∧ Wts H' ws wt ∧ ws.length + m' ≤ big + 2 ∧ ahead m' wt r = .ok wt' r' ∧ Keep2 rd B H H', fun _ _ z => z, ?_⟩
    walk_at "w"
    refine w_rd 0 rfl R1 (by decide +kernel) ?_
    walk_at "w"
    refine w_spIsAhead R1 fun H2 s2 R2 => ?_
    have hB2 := s2 _ _ hB1
    have hW2 := hW1.mono fun _ _ e => s2 _ _ e
    have k2 := k1.same s2
    have els : (isAhead "not" r && lowAt wt) = false → tIfS (tB (tMeW (He.ga K "Reader") "skips" (spSkips K) (WE fun cls d x H => E cls d H) (tVar 0) (tCons (tC (.str "-")) tNil))) (tDrop (tBM K "list" rAppend (tVar 1) (tCons (tTup (tCons (tC (.int 7)) (tCons (tC (.str "minus")) tNil))) tNil))) tRetN
        { nx := fun σ' H' => ∃ m', m' < n + 1 ∧ ∃ (ws : List V) (wt : List (Int × Str)) (r : List TK), σ' = [some (.ref rd), some (.ref B)] ∧ Rdr K H' rd Ts last r o ∧ H' B = some (.lst ws) ∧ Wts H' ws wt ∧ ws.length + m' ≤ big + 2 ∧ ahead m' wt r = .ok wt' r' ∧ Keep2 rd B H H', ct := fun σ' H' => ∃ m', m' < n + 1 ∧ ∃ (ws : List V) (wt : List (Int × Str)) (r : List TK), σ' = [some (.ref rd), some (.ref B)] ∧ Rdr K H' rd Ts last r o ∧ H' B = some (.lst ws) ∧ Wts H' ws wt ∧ ws.length + m' ≤ big + 2 ∧ ahead m' wt r = .ok wt' r' ∧ Keep2 rd B H H', bk := fun x H' => Q .non H', rt := Q } [some (.ref rd), some (.ref B)] H2 := fun hn => by
      rw [hn, if_neg Bool.false_ne_true] at ha1
      walk_at "w"
      refine w_rdS 0 rfl R2 (by decide +kernel) ?_
      walk_at "w"
      refine skips_ok (by decide +kernel) (by decide +kernel) R2 (fun H3 hm kH3 R3 => ?_) (fun H3 hm s3 R3 => ?_)
      · rw [hm, if_pos rfl] at ha1
        have hB3 := KeepF.lst R2 kH3 hB2
        walk_at "w"
        refine ⟨.inl ⟨rfl, _, .of hB3⟩, ?_⟩
        walk_at "w"
        refine ⟨by show 2 ≤ sizeLine; decide, fun p hp => ?_⟩
        have sp := sameUpd (o := .tup [.int 7, .str "minus"]) hp
        have hB4 := sp _ _ hB3
        walk_at "w"
        refine ⟨B, ws, _, rfl, rfl, hB4, by omega, ?_⟩
        have t4 := tup_updL (vs := ws ++ [.ref p]) hB4
        exact ⟨n, Nat.lt_succ_self _, ws ++ [.ref p], _, _, rfl, (R3.same sp).updL hBr hBW hB4 _, upd_same, .snoc (hW2.mono fun _ _ e => t4 _ _ (sp _ _ (KeepF.tups R2 kH3 _ _ e))) (t4 _ _ upd_same), by rw [List.length_append, List.length_singleton]; omega, ha1, ((k2.trans (KeepF.keep2 kH3)).same sp).updB⟩
      · rw [hm, if_neg Bool.false_ne_true] at ha1
        cases ha1
        walk_at "w"
        exact q _ ws (k2.same s3) R3 (s3 _ _ hB2) (hW2.mono fun _ _ e => s3 _ _ e) (by omega)
    have thn : isAhead "not" r = true → lowAt wt = true → tDrop (tBM K "list" rAppend (tVar 1) (tCons (tTup (tCons (tC (.int 3)) (tCons (tMeW (He.ga K "Reader") "take" (spTake K) (WE fun cls d x H => E cls d H) (tVar 0) tNil) tNil))) tNil))
        { nx := fun σ' H' => ∃ m', m' < n + 1 ∧ ∃ (ws : List V) (wt : List (Int × Str)) (r : List TK), σ' = [some (.ref rd), some (.ref B)] ∧ Rdr K H' rd Ts last r o ∧ H' B = some (.lst ws) ∧ Wts H' ws wt ∧ ws.length + m' ≤ big + 2 ∧ ahead m' wt r = .ok wt' r' ∧ Keep2 rd B H H', ct := fun σ' H' => ∃ m', m' < n + 1 ∧ ∃ (ws : List V) (wt : List (Int × Str)) (r : List TK), σ' = [some (.ref rd), some (.ref B)] ∧ Rdr K H' rd Ts last r o ∧ H' B = some (.lst ws) ∧ Wts H' ws wt ∧ ws.length + m' ≤ big + 2 ∧ ahead m' wt r = .ok wt' r' ∧ Keep2 rd B H H', bk := fun x H' => Q .non H', rt := Q } [some (.ref rd), some (.ref B)] H2 := fun hN hl => by
      rw [hN, hl, if_pos (show (true && true) = true from rfl)] at ha1
      obtain ⟨t, q1, rfl, hk, hv⟩ := ahead_split hN
      walk_at "w"
      refine ⟨.inl ⟨rfl, _, .of hB2⟩, ?_⟩
      walk_at "w"
      refine w_rdS 0 rfl R2 (by decide +kernel) ?_
      walk_at "w"
      refine ⟨rd, Ts, last, t :: q1, o, rfl, R2, ?_⟩
      rw [Took.t]
      have ho : opn t o = some o := opn_plain hv (by decide +kernel) (by decide +kernel)
      refine TookT.mk (fun e => by rw [ho] at e; cases e) fun o' e H3 kH3 R3 => ?_
      rw [ho] at e
      cases e
      rw [hv]
      refine ⟨by show 2 ≤ sizeLine; decide, fun p hp => ?_⟩
      have hB3 := KeepF.lst R2 kH3 hB2
      have sp := sameUpd (o := .tup [.int 3, .str "not"]) hp
      have hB4 := sp _ _ hB3
      walk_at "w"
      refine ⟨B, ws, _, rfl, rfl, hB4, by omega, ?_⟩
      have t4 := tup_updL (vs := ws ++ [.ref p]) hB4
      exact ⟨n, Nat.lt_succ_self _, ws ++ [.ref p], _, _, rfl, (R3.same sp).updL hBr hBW hB4 _, upd_same, .snoc (hW2.mono fun _ _ e => t4 _ _ (sp _ _ (KeepF.tups R2 kH3 _ _ e))) (t4 _ _ upd_same), by rw [List.length_append, List.length_singleton]; omega, ha1, ((k2.trans (KeepF.keep2 kH3)).same sp).updB⟩
    cases hN : isAhead "not" r with
    | false =>
      walk_at "w1"
      walk_at "w1"
      exact els (by rw [hN]; rfl)
    | true =>
      walk_at "w"
      refine w_lenL (.of hB2) ?_
      walk_at "w"
      match wt, hW2, thn, els with
      | [], hW2, thn, _ =>
        rw [decide_eq_true (show ((ws.length : Nat) : Int) = 0 by rw [hW2.len]; rfl)]
        walk_at "w1"
        walk_at "w1"
        exact thn hN rfl
      | (b, z) :: wt2, hW2, thn, els =>
        rw [decide_eq_false (show ¬ ((ws.length : Nat) : Int) = 0 by rw [hW2.len, List.length_cons]; omega)]
        obtain ⟨ws2, p2, rfl, hW3, hp2⟩ := hW2.inv
        refine w_f ?_
        have it : atI (ws2 ++ [V.ref p2]) (-1) = some (.ref p2) := atI_last _ _
        walk_at "w"
        refine w_ixL (.of hB2) it ?_
        walk_at "w"
        refine w_ixT (.of hp2) (atI_nat (j := 0) rfl) ?_
        walk_at "w"
        have el : lowAt ((b, z) :: wt2) = decide (b ≤ 3) := rfl
        by_cases hb : b ≤ 3
        · rw [decide_eq_true hb]
          walk_at "w1"
          exact thn hN (by rw [el, decide_eq_true hb])
        · rw [decide_eq_false hb]
          walk_at "w1"
          exact els (by rw [hN, el, decide_eq_false hb]; rfl)
end
end FE
namespace FE
open PySem L2 K01
/-- nothing is given back -/
def Shr {α : Type} (f : M α) : Prop := ∀ r a q, f r = .ok a q → q.length ≤ r.length
theorem ahead_tail {w : Str} {r : List TK} (h : isAhead w r = true) : r.tail.length + 1 = r.length := by
  cases r with
  | nil => cases h
  | cons t q => rfl
theorem ahead_len : ∀ {n : Nat} {wt wt' : List (Int × Str)} {r r' : List TK}, ahead n wt r = .ok wt' r' → wt'.length + r'.length ≤ wt.length + r.length ∧ nb wt' = nb wt
  | 0, _, _, _, _, h => by cases h
  | n + 1, wt, wt', r, r', h => by
    unfold ahead at h
    by_cases h1 : (isAhead "not" r && lowAt wt) = true
    · rw [if_pos h1] at h
      obtain ⟨a, b⟩ := ahead_len h
      have := ahead_tail (Bool.and_eq_true_iff.mp h1).1
      have e : nb ((3, "not") :: wt) = nb wt := by
        show nb wt + (if isUn "not" = true then 0 else 1) = nb wt
        rw [if_pos (by decide +kernel)] <;> rfl
      exact ⟨by rw [List.length_cons] at a; omega, b.trans e⟩
    · rw [if_neg h1] at h
      by_cases h2 : isAhead "-" r = true
      · rw [if_pos h2] at h
        obtain ⟨a, b⟩ := ahead_len h
        have := ahead_tail h2
        have e : nb ((7, "minus") :: wt) = nb wt := by
          show nb wt + (if isUn "minus" = true then 0 else 1) = nb wt
          rw [if_pos (by decide +kernel)] <;> rfl
        exact ⟨by rw [List.length_cons] at a; omega, b.trans e⟩
      · rw [if_neg h2] at h
        cases h
        exact ⟨Nat.le_refl _, rfl⟩
theorem ahead_bad : ∀ {n : Nat} {wt : List (Int × Str)} {r q : List TK}, ahead n wt r ≠ .bad q
  | 0, _, _, _, h => by cases h
  | n + 1, wt, r, q, h => by
    unfold ahead at h
    by_cases h1 : (isAhead "not" r && lowAt wt) = true
    · rw [if_pos h1] at h
      exact ahead_bad h
    · rw [if_neg h1] at h
      by_cases h2 : isAhead "-" r = true
      · rw [if_pos h2] at h
        exact ahead_bad h
      · rw [if_neg h2] at h
        cases h
theorem nb_le : ∀ wt : List (Int × Str), nb wt ≤ wt.length
  | [] => Nat.le_refl _
  | (b, w) :: wt => by
    have := nb_le wt
    show nb wt + (if isUn w = true then 0 else 1) ≤ wt.length + 1
    split <;> omega
theorem Rdr.keep2 {K : PySem.W.Frag} {H H1 : Hp} {rd A B : Addr} {T : Wds} {r : List TK} {last o : Int} {us ws : List V} (h : Rdr K H rd T last r o) (k : Keep2 A B H H1) (a1 : A ≠ rd) (a2 : A ≠ T.W) (b1 : B ≠ rd) (b2 : B ≠ T.W) (hA : H A = some (.lst us)) (hB : H B = some (.lst ws)) : Rdr K H1 rd T last r o := by
  obtain ⟨dx, us', i, g1, g2, g3, g4⟩ := h
  exact ⟨dx, us', i, k _ _ a1.symm b1.symm g1, k _ _ a2.symm b2.symm g2, g3.mono (k.tups hA hB), g4⟩
theorem keepF_keep2 {H H1 H2 : Hp} {rd A B : Addr} (k : KeepF rd H H1) (k2 : Keep2 A B H1 H2) (hA : H A = none) (hB : H B = none) : KeepF rd H H2 := fun a o h e => k2 a o (ne_of_none e hA) (ne_of_none e hB) (k a o h e)
theorem keepF_keep2r {H H1 H2 : Hp} {rd B : Addr} (k : KeepF rd H H1) (k2 : Keep2 rd B H1 H2) (hB : H B = none) : KeepF rd H H2 := fun a o h e => k2 a o h (ne_of_none e hB) (k a o h e)
theorem bind_split {r : List TK} (h : bindAhead r ≠ 0) : ∃ t q z, r = t :: q ∧ isKM t = true ∧ t.v = .str z ∧ bindAhead r = bindOf z ∧ headStr r = z := by
  cases r with
  | nil => exact absurd rfl h
  | cons t q =>
    unfold bindAhead at h
    dsimp only at h
    by_cases hk : isKM t = true
    · rw [if_pos hk] at h
      cases hv : t.v with
      | str z =>
        refine ⟨t, q, z, rfl, hk, hv, ?_, ?_⟩
        · unfold bindAhead
          dsimp only
          rw [if_pos hk, hv]
        · unfold headStr
          dsimp only
          rw [hv]
      | _ => rw [hv] at h; exact absurd rfl h
    · rw [if_neg hk] at h
      exact absurd rfl h
theorem bind_plain {z : Str} (h : bindOf z ≠ 0) : z ∉ (["(", "[", "{"] : List Str) ∧ z ∉ ([")", "]", "}"] : List Str) ∧ isUn z = false := by
  have key : ∀ y ∈ (["(", "[", "{", ")", "]", "}", "not", "minus"] : List Str), bindOf y = 0 := by decide +kernel
  have no : ∀ y ∈ (["(", "[", "{", ")", "]", "}", "not", "minus"] : List Str), z ≠ y := fun y hy e => h (e ▸ key y hy)
  simp only [List.mem_cons, List.not_mem_nil, or_false, forall_eq_or_imp, forall_eq] at no
  obtain ⟨n1, n2, n3, n4, n5, n6, n7, n8⟩ := no
  refine ⟨by simp [n1, n2, n3], by simp [n4, n5, n6], ?_⟩
  unfold isUn
  rw [decide_eq_false n7, decide_eq_false n8] <;> rfl
theorem Got.bindE {K : PySem.W.Frag} {H H0 : Hp} {rd : Addr} {T : Wds} {last : Int} {o o1 : Int} {E : XK} {Q Q2 : VK} {r : List TK} {f : M D} {g : D → M D} (G : Got K H0 rd T last o E (bn f g r) Q) (k0 : KeepF rd H0 H) (k : ∀ a q H' v, f r = .ok a q → KeepF rd H H' → KeepF rd H0 H' → Rdr K H' rd T last q o1 → Rep H' v a → Got K H0 rd T last o E (g a q) Q → Q2 v H') : Got K H rd T last o1 E (f r) Q2 := by
  unfold bn at G
  cases e : f r with
  | out => rw [e] at G; exact G
  | bad q =>
    rw [e] at G
    exact fun H' k' => G H' (k0.trans k')
  | ok a q =>
    rw [e] at G
    exact fun H' v k' R' h' => k a q H' v e k' (k0.trans k') R' h' G
theorem putDown_no {bind : Int} {s : Stk} (h : holds bind s.2 = false) : ∀ k, putDown bind k s = s
  | 0 => rfl
  | k + 1 => by
    unfold putDown
    rw [h, if_neg Bool.false_ne_true]
theorem putAll_no {os : List D} : ∀ k, putAll k (os, []) = (os, [])
  | 0 => rfl
  | k + 1 => rfl
section
variable {P : Program} {w : World} {K : PySem.W.Frag} {mg : Str → Option Value} {base : Heap} {m : Nat} {o : Int} {I : Option Ps}
theorem ok_read_e (hS : Shr (pBehind I)) (T : Txr P w K mg) {f : Addr} {fd : FuncData} (F : FnP K "read_e" s_read_e f fd) (RM : RdM P w K mg base) (D_put_together : Cal P w K mg base CX0 1 "put_together" P_put_together spPut) (D_read_ahead : CalQ P w K mg base (L2.CX P w) (m + 1) "read_ahead" P_read_ahead (spAheadR K o))
    (D_read_behind : CalQ P w K mg base (L2.CX P w) (m + 4) "read_behind" P_read_behind (spP K o (pBehind I))) :
    FnQ P w K mg base (L2.CX P w) (m + 5) f fd P_read_e (spP K o (pE I)) := by
  obtain ⟨D_Reader_is_more, D_Reader_sort_at, D_Reader_is_ahead, D_Reader_ahead_of, D_Reader_bind_ahead, D_Reader_wrong, D_Reader_take, D_Reader_want, D_Reader_want_name, D_Reader_skips⟩ := RM
  refine F.okQ sc_read_e (fun vs H Q E h => ?_) (fun cdv A outer s H vs Q E hr h => ?_)
  · obtain ⟨rd, T, last, r, rfl, _⟩ := h
    rfl
  · obtain ⟨rd, Ts, last, r, rfl, hR, G⟩ := h
    refine ⟨_, (pss_cons (ps_par (i := 1) (j := 2) (by rfl) sc_read_e.nd rfl rfl (by decide) rfl rfl (pa_cons (pe_lst pa_nil) (pa_cons (pe_lst pa_nil) pa_nil)) (by rfl))
  (pss_cons (ps_while (passes_of rfl) (pt_val pe_bl) (pss_cons (ps_expr (pe_calQS D_read_ahead hr (by omega) rfl (takes_of rfl rfl rfl rfl) (pa_cons (pv 0) (pa_cons (pv 2) pa_nil))))
  (pss_cons (ps_expr (pe_bm PySem.F.plainAttrs_list PySem.F.slot_list_append PySem.F.type_list_append mt_append (pv 1) (pa_cons (pe_calQS D_read_behind hr (by omega) rfl (takes_of rfl rfl rfl rfl) (pa_cons (pv 0) pa_nil)) pa_nil)))
  (pss_cons (ps_set (i := 3) sc_read_e.nd rfl (Or.inl rfl) (pe_met0 (pv 0) D_Reader_bind_ahead hr.room rfl pass0))
  (pss_cons (ps_while (passes_of rfl) (PW.pt (pw_and (pt_cmpR op_gt (pe_callB call_lenN (by rfl) T.f_len (by decide +kernel) (pa_cons (pv 2) pa_nil)) pe_int (nomark _)) (pw_and (pt_cmpR op_ge (pe_ix ix_tup (pe_ix ix_list (pv 2) (pe_un un_neg pe_int) (fun _ _ => rfl)) pe_int (fun _ _ => rfl)) (pv 3) (nomark _)) (pw_and1 (pt_not (pt_chain op_eq op_eq (pe_ix ix_tup (pe_ix ix_list (pv 2) (pe_un un_neg pe_int) (fun _ _ => rfl)) pe_int (fun _ _ => rfl)) (pv 3) (pe_gi T.g_BESIDE))))))) (pss_one (ps_expr (pe_cal D_put_together hr.room rfl rfl pass0 (pa_cons (pv 1) (pa_cons (pv 2) pa_nil))))))
  (pss_cons (ps_if (PW.pt (pw_or (pt_cmpR op_eq (pv 3) pe_int (nomark _)) (pw_or1 (PW.pt (pw_and (pt_cmpR op_gt (pe_callB call_lenN (by rfl) T.f_len (by decide +kernel) (pa_cons (pv 2) pa_nil)) pe_int (nomark _)) (pw_and1 (pt_cmpR op_eq (pe_ix ix_tup (pe_ix ix_list (pv 2) (pe_un un_neg pe_int) (fun _ _ => rfl)) pe_int (fun _ _ => rfl)) (pv 3) (nomark _)))))))) (pss_one ps_break) pss_nil)
  (pss_one (ps_expr (pe_bm PySem.F.plainAttrs_list PySem.F.slot_list_append PySem.F.type_list_append mt_append (pv 2) (pa_cons (pe_tup (pa_cons (pv 3) (pa_cons (pe_metS0 (pv 0) D_Reader_take hr.room rfl (takes_of rfl rfl rfl rfl)) pa_nil))) pa_nil))))))))))
  (pss_cons (ps_while (passes_of rfl) (pt_cmpR op_gt (pe_callB call_lenN (by rfl) T.f_len (by decide +kernel) (pa_cons (pv 2) pa_nil)) pe_int (nomark _)) (pss_one (ps_expr (pe_cal D_put_together hr.room rfl rfl pass0 (pa_cons (pv 1) (pa_cons (pv 2) pa_nil))))))
  (pss_one (ps_ret (pe_ix ix_list (pv 1) pe_int (fun _ _ => rfl))))))), ?_⟩
    have hsz : big + 2 < sizeLine := by decide
    have hb2 : big = 200000 := rfl
    unfold tPar
    walk_at "w"
    refine ⟨by show 0 ≤ sizeLine; decide, fun A hA => ?_⟩
    walk_at "w"
    refine ⟨by show 0 ≤ sizeLine; decide, fun B hB => ?_⟩
    walk_at "w"
    refine ⟨_, _, rfl, ?_⟩
    have hA0 : A ≠ rd := hR.free hA
    have hA1 := hR.freeW hA
    have hB' : H B = none := by
      by_cases e : B = A
      · rw [e] at hB ⊢
        exact hA
      · rw [upd_ne e] at hB
        exact hB
    have nAB : A ≠ B := fun e => by
      rw [← e, upd_same] at hB
      cases hB
    have hB0 : B ≠ rd := hR.free hB'
    have hB1 := hR.freeW hB'
    have sA := sameUpd (o := .lst []) hA
    have sB := sameUpd (o := .lst []) hB
    have P0 : Piles (upd (upd H A (.lst [])) B (.lst [])) A B ([], []) [] [] := ⟨nAB, sB _ _ upd_same, upd_same, .nil, .nil⟩
    have R0 := (hR.same sA).same sB
    have k0 : KeepF rd H (upd (upd H A (.lst [])) B (.lst [])) := (KeepF.same sA).trans (.same sB)
    have G0 : Got K H rd Ts last o E (exprs I (r.length + 1) ([], []) r) Q := G
    with_reducible refine w_seq ?_
    refine ⟨fun n σ' H' => ∃ (s : Stk) (us ws : List V) (r : List TK) (x3 : Option V), σ' = [some (.ref rd), some (.ref A), some (.ref B), x3] ∧ Piles H' A B s us ws ∧ s.1.length = nb s.2 ∧ ws.length + r.length ≤ big + 1 ∧ Rdr K H' rd Ts last r o ∧ KeepF rd H H' ∧ Got K H rd Ts last o E (exprs I n s r) Q,
      ⟨r.length + 1, ([], []), [], [], r, none, rfl, P0, rfl, by have := R0.len; show 0 + r.length ≤ big + 1; omega, R0, k0, G0⟩, ?_⟩
    rintro n σ' H1 ⟨⟨os, wt⟩, us, ws, r, x3, rfl, P1, bal1, hz1, R1, k1, G1⟩
    walk_at "w"
    cases n with
    | zero => exact G1.elim
    | succ n =>
    refine ⟨fun σ' H' => ∃ m', m' < n + 1 ∧ ∃ (s : Stk) (us ws : List V) (r : List TK) (x3 : Option V), σ' = [some (.ref rd), some (.ref A), some (.ref B), x3] ∧ Piles H' A B s us ws ∧ s.1.length = nb s.2 ∧ ws.length + r.length ≤ big + 1 ∧ Rdr K H' rd Ts last r o ∧ KeepF rd H H' ∧ Got K H rd Ts last o E (exprs I m' s r) Q, fun _ _ z => z, ?_⟩
    unfold exprs at G1
    cases hah : ahead (r.length + 1) wt r with
    | out =>
      have z : Got K H rd Ts last o E .out Q := by
        unfold bn at G1
        dsimp only at G1
        rw [hah] at G1
        exact G1
      exact z.elim
    | bad q => exact (ahead_bad hah).elim
    | ok wt1 r1 =>
    rw [bn_ok (f := fun r => ahead (r.length + 1) wt r) hah] at G1
    obtain ⟨l1, l2⟩ := ahead_len hah
    have w1 := P1.wt.len
    walk_at "w"
    refine ⟨rd, Ts, last, r, B, ws, wt, r.length + 1, wt1, r1, rfl, R1, hB0, hB1, P1.b, P1.wt, by omega, hah, fun H2 ws2 kk2 R2 hB2 hW2 hz2 => ?_⟩
    have k2 := keepF_keep2r k1 kk2 hB'
    have hA2 : H2 A = some (.lst us) := kk2 _ _ hA0 nAB P1.a
    have os2 : Stks H2 us os := P1.os.mono fun p xs e => kk2 p _ (fun z => by
      obtain ⟨dx, _, _, g1, _⟩ := R1
      rw [z, g1] at e
      cases e) (ne_of e P1.b (by intro z; cases z)) e
    have w2 := hW2.len
    walk_at "w"
    refine ⟨.inl ⟨rfl, _, .of hA2⟩, ?_⟩
    walk_at "w"
    refine ⟨rd, Ts, last, r1, rfl, R2, G1.bindE k2 fun a r3 H3 v eqB kH3 k3 R3 e3 G3 => ?_⟩
    have kx : KeepF rd H2 H3 := kH3
    have hA3 := KeepF.lst R2 kH3 hA2
    have hB3 := KeepF.lst R2 kH3 hB2
    have os3 := os2.mono (KeepF.tups R2 kH3)
    have hW3 := hW2.mono (KeepF.tups R2 kH3)
    have o2 := os2.len
    have b1 : os.length = nb wt := bal1
    have n2 := nb_le wt1
    have n3 := nb_le wt
    have w1' : ws.length = wt.length := w1
    walk_at "w"
    refine ⟨A, us, _, rfl, rfl, hA3, by omega, ?_⟩
    have t4 := tup_updL (vs := us ++ [v]) hA3
    have P4 : Piles (upd H3 A (.lst (us ++ [v]))) A B (a :: os, wt1) (us ++ [v]) ws2 := ⟨nAB, upd_same, by rw [upd_ne nAB.symm]; exact hB3, .snoc (os3.mono t4) (e3.mono t4), hW3.mono t4⟩
    have R4 := R3.updL hA0 hA1 hA3 (us ++ [v])
    have k4 : KeepF rd H (upd H3 A (.lst (us ++ [v]))) := keepF_updL k3 hA
    have bal4 : Bal (a :: os, wt1) := by
      show os.length + 1 = nb wt1 + 1
      omega
    generalize upd H3 A (.lst (us ++ [v])) = H4 at P4 R4 k4 ⊢
    walk_at "w"
    refine w_rd 0 rfl R4 (by decide +kernel) ?_
    walk_at "w"
    have hr3 : r3.length ≤ r1.length := hS _ _ _ eqB
    refine ⟨rd, Ts, last, r3, o, rfl, R4, fun H5 s5 => ?_⟩
    refine w_name ?_
    have P5 := P4.same s5
    have R5 := R4.same s5
    have k5 := k4.trans (.same s5)
    have G5 : Got K H rd Ts last o E (if (decide (bindAhead r3 = 0) || meets (bindAhead r3) (putDown (bindAhead r3) wt1.length (a :: os, wt1)).2) = true then (match (putAll (putDown (bindAhead r3) wt1.length (a :: os, wt1)).2.length (putDown (bindAhead r3) wt1.length (a :: os, wt1))).1.getLast? with
      | some d => .ok d r3
      | none => .out) else exprs I n ((putDown (bindAhead r3) wt1.length (a :: os, wt1)).1, (bindAhead r3, headStr r3) :: (putDown (bindAhead r3) wt1.length (a :: os, wt1)).2) r3.tail) Q := G3
    generalize hS5 : putDown (bindAhead r3) wt1.length (a :: os, wt1) = S5 at G5
    with_reducible refine seq_cut (fun σ' H' => ∃ us ws, σ' = [some (.ref rd), some (.ref A), some (.ref B), some (.int (bindAhead r3))] ∧ Piles H' A B S5 us ws ∧ Bal S5 ∧ us.length ≤ big + 2 ∧ ws.length ≤ wt1.length ∧ Rdr K H' rd Ts last r3 o ∧ KeepF rd H H') (fun N k => ?_) ?_
    · refine ⟨fun k σ' H' => ∃ s us ws, σ' = [some (.ref rd), some (.ref A), some (.ref B), some (.int (bindAhead r3))] ∧ Piles H' A B s us ws ∧ Bal s ∧ us.length ≤ big + 2 ∧ ws.length ≤ wt1.length ∧ s.2.length ≤ k ∧ putDown (bindAhead r3) k s = S5 ∧ Rdr K H' rd Ts last r3 o ∧ KeepF rd H H',
        ⟨wt1.length, (a :: os, wt1), us ++ [v], ws2, rfl, P5, bal4, by rw [List.length_append, List.length_singleton]; omega, Nat.le_of_eq w2, Nat.le_refl _, hS5, R5, k5⟩, ?_⟩
      rintro k6 σ' H6 ⟨⟨os6, wt6⟩, us6, ws6, rfl, P6, bal6, z6, z6', hk6, hS6, R6, kk6⟩
      walk_at "w"
      refine w_lenL (.of P6.b) ?_
      walk_at "w"
      have w6 := P6.wt.len
      have stop : holds (bindAhead r3) wt6 = false → N [some (.ref rd), some (.ref A), some (.ref B), some (.int (bindAhead r3))] H6 := fun hh => by
        have e : (os6, wt6) = S5 := by rw [← hS6, putDown_no hh]
        rw [e] at P6 bal6
        exact k _ _ ⟨us6, ws6, rfl, P6, bal6, z6, z6', R6, kk6⟩
      have go : ∀ rt, wt6 ≠ [] → holds (bindAhead r3) wt6 = true → ∃ Nx : L2.St → Hp → Prop, (∀ σ' H', Nx σ' H' → ∃ m', m' < k6 ∧ ∃ s us ws, σ' = [some (.ref rd), some (.ref A), some (.ref B), some (.int (bindAhead r3))] ∧ Piles H' A B s us ws ∧ Bal s ∧ us.length ≤ big + 2 ∧ ws.length ≤ wt1.length ∧ s.2.length ≤ m' ∧ putDown (bindAhead r3) m' s = S5 ∧ Rdr K H' rd Ts last r3 o ∧ KeepF rd H H') ∧
          tDrop (tCall spPut [] E0 (tCons (tVar 1) (tCons (tVar 2) tNil))) { nx := Nx, ct := Nx, bk := N, rt := rt } [some (.ref rd), some (.ref A), some (.ref B), some (.int (bindAhead r3))] H6 := fun rt hne hh => by
        match wt6, hne, hh, P6, bal6, hk6, hS6, w6 with
        | (b, z) :: wt7, hne, hh, P6, bal6, hk6, hS6, w6 =>
        cases k6 with
        | zero => simp at hk6
        | succ k7 =>
        refine ⟨fun σ' H' => ∃ m', m' < k7 + 1 ∧ ∃ s us ws, σ' = [some (.ref rd), some (.ref A), some (.ref B), some (.int (bindAhead r3))] ∧ Piles H' A B s us ws ∧ Bal s ∧ us.length ≤ big + 2 ∧ ws.length ≤ wt1.length ∧ s.2.length ≤ m' ∧ putDown (bindAhead r3) m' s = S5 ∧ Rdr K H' rd Ts last r3 o ∧ KeepF rd H H', fun _ _ z => z, ?_⟩
        unfold putDown at hS6
        rw [hh, if_pos rfl] at hS6
        walk_at "w"
        refine ⟨A, B, (os6, (b, z) :: wt7), us6, ws6, rfl, P6, bal6, hne, z6, fun H7 us7 ws7 k7' P7 z7 => ?_⟩
        have e2 := put_wt bal6
        have w7 := P7.wt.len
        rw [e2] at w7
        rw [List.length_cons] at w6
        refine ⟨k7, Nat.lt_succ_self _, put (os6, (b, z) :: wt7), us7, ws7, rfl, P7, put_bal bal6, by omega, by omega, ?_, hS6, R6.keep2 k7' hA0 hA1 hB0 hB1 P6.a P6.b, keepF_keep2 kk6 k7' hA hB'⟩
        rw [e2]
        rw [List.length_cons] at hk6
        omega
      match wt6, P6, w6, stop, go with
      | [], P6, w6, stop, go =>
        rw [decide_eq_false (show ¬ (0 : Int) < ((ws6.length : Nat) : Int) by rw [w6]; exact Int.lt_irrefl 0)]
        refine w_f ?_
        exact stop rfl
      | (b, z) :: wt7, P6, w6, stop, go =>
        rw [decide_eq_true (show (0 : Int) < ((ws6.length : Nat) : Int) by rw [w6, List.length_cons]; omega)]
        obtain ⟨ws8, p8, rfl, hW8, hp8⟩ := P6.wt.inv
        have it : atI (ws8 ++ [V.ref p8]) (-1) = some (.ref p8) := atI_last _ _
        have eh : holds (bindAhead r3) ((b, z) :: wt7) = (decide (bindAhead r3 ≤ b) && !(decide (b = bindAhead r3) && decide (bindAhead r3 = 4))) := rfl
        rw [eh] at stop go
        walk_at "w"
        refine w_ixL (.of P6.b) it ?_
        walk_at "w"
        refine w_ixT (.of hp8) (atI_nat (j := 0) rfl) ?_
        walk_at "w"
        by_cases c1 : bindAhead r3 ≤ b
        · rw [decide_eq_true c1]
          rw [decide_eq_true c1] at stop go
          walk_at "w"
          refine w_ixL (.of P6.b) it ?_
          walk_at "w"
          refine w_ixT (.of hp8) (atI_nat (j := 0) rfl) ?_
          walk_at "w"
          by_cases c2 : b = bindAhead r3
          · rw [decide_eq_true c2]
            rw [decide_eq_true c2] at stop go
            walk_at "w"
            by_cases c3 : bindAhead r3 = 4
            · rw [decide_eq_true c3]
              rw [decide_eq_true c3] at stop
              walk_at "w"
              exact stop rfl
            · rw [decide_eq_false c3]
              rw [decide_eq_false c3] at go
              walk_at "w"
              exact go _ (by intro z; cases z) rfl
          · rw [decide_eq_false c2]
            rw [decide_eq_false c2] at go
            walk_at "w"
            exact go _ (by intro z; cases z) rfl
        · rw [decide_eq_false c1]
          rw [decide_eq_false c1] at stop
          walk_at "w"
          exact stop rfl
    rintro _ H6 ⟨us6, ws6, rfl, P6, bal6, hz6, hz6', R6, k6⟩
    obtain ⟨os6, wt6⟩ := S5
    have w6 : ws6.length = wt6.length := P6.wt.len
    have brk : (decide (bindAhead r3 = 0) || meets (bindAhead r3) wt6) = true → tSeq (tWhile (tTest (tOp (rI0 fun i j => V.bl (decide (j < i))) (tCB (rLenQ K) (tCons (tVar 2) tNil)) (tC (V.int 0)))) (tDrop (tCall spPut [] E0 (tCons (tVar 1) (tCons (tVar 2) tNil))))) (tRet (tOp (rIxL K) (tVar 1) (tC (.int 0)))) { nx := fun _ H' => Q .non H', rt := Q } [some (.ref rd), some (.ref A), some (.ref B), some (.int (bindAhead r3))] H6 := fun hb => by
      rw [hb, if_pos rfl] at G5
      generalize hS7 : putAll wt6.length (os6, wt6) = S7 at G5
      with_reducible refine w_seq ?_
      refine ⟨fun k σ' H' => ∃ s us ws, σ' = [some (.ref rd), some (.ref A), some (.ref B), some (.int (bindAhead r3))] ∧ Piles H' A B s us ws ∧ Bal s ∧ us.length ≤ big + 2 ∧ s.2.length ≤ k ∧ putAll k s = S7 ∧ Rdr K H' rd Ts last r3 o ∧ KeepF rd H H',
        ⟨wt6.length, (os6, wt6), us6, ws6, rfl, P6, bal6, hz6, Nat.le_refl _, hS7, R6, k6⟩, ?_⟩
      rintro k8 σ' H8 ⟨⟨os8, wt8⟩, us8, ws8, rfl, P8, bal8, z8, hk8, hS8, R8, kk8⟩
      walk_at "w"
      refine w_lenL (.of P8.b) ?_
      walk_at "w"
      have w8 : ws8.length = wt8.length := P8.wt.len
      match wt8, P8, w8, bal8, hk8, hS8 with
      | [], P8, w8, bal8, hk8, hS8 =>
        rw [decide_eq_false (show ¬ (0 : Int) < ((ws8.length : Nat) : Int) by rw [w8]; exact Int.lt_irrefl 0)]
        refine w_f ?_
        rw [putAll_no] at hS8
        subst hS8
        match os8, P8, bal8 with
        | [d], P8, _ =>
          obtain ⟨us9, v9, rfl, h9, e9⟩ := P8.os.inv
          cases h9
          walk_at "w"
          exact w_ixL (.of P8.a) (atI_nat (j := 0) rfl) (Got.fin (d := d) G5 kk8 R8 e9)
        | [], _, bal8 => cases bal8
        | _ :: _ :: _, _, bal8 =>
          have z : _ + 1 + 1 = 0 + 1 := bal8
          omega
      | (b, z) :: wt9, P8, w8, bal8, hk8, hS8 =>
        rw [decide_eq_true (show (0 : Int) < ((ws8.length : Nat) : Int) by rw [w8, List.length_cons]; omega)]
        cases k8 with
        | zero => simp at hk8
        | succ k9 =>
        refine w_t ⟨fun σ' H' => ∃ m', m' < k9 + 1 ∧ ∃ s us ws, σ' = [some (.ref rd), some (.ref A), some (.ref B), some (.int (bindAhead r3))] ∧ Piles H' A B s us ws ∧ Bal s ∧ us.length ≤ big + 2 ∧ s.2.length ≤ m' ∧ putAll m' s = S7 ∧ Rdr K H' rd Ts last r3 o ∧ KeepF rd H H', fun _ _ z => z, ?_⟩
        walk_at "w"
        refine ⟨A, B, (os8, (b, z) :: wt9), us8, ws8, rfl, P8, bal8, (by intro z; cases z), z8, fun H9 us9 ws9 k9' P9 z9 => ?_⟩
        have e2 := put_wt bal8
        refine ⟨k9, Nat.lt_succ_self _, put (os8, (b, z) :: wt9), us9, ws9, rfl, P9, put_bal bal8, by omega, ?_, hS8, R8.keep2 k9' hA0 hA1 hB0 hB1 P8.a P8.b, keepF_keep2 kk8 k9' hA hB'⟩
        rw [e2]
        rw [List.length_cons] at hk8
        omega
    have nxt : (decide (bindAhead r3 = 0) || meets (bindAhead r3) wt6) = false → ∀ (Nx : L2.St → Hp → Prop) rt bk, (∀ σ' H', (∃ m', m' < n + 1 ∧ ∃ (s : Stk) (us ws : List V) (r : List TK) (x3 : Option V), σ' = [some (.ref rd), some (.ref A), some (.ref B), x3] ∧ Piles H' A B s us ws ∧ s.1.length = nb s.2 ∧ ws.length + r.length ≤ big + 1 ∧ Rdr K H' rd Ts last r o ∧ KeepF rd H H' ∧ Got K H rd Ts last o E (exprs I m' s r) Q) → Nx σ' H') →
        tDrop (tBM K "list" rAppend (tVar 2) (tCons (tTup (tCons (tVar 3) (tCons (tMeW (He.ga K "Reader") "take" (spTake K) (WE fun cls d x H => E cls d H) (tVar 0) tNil) tNil))) tNil)) { nx := Nx, rt := rt, bk := bk, ct := Nx } [some (.ref rd), some (.ref A), some (.ref B), some (.int (bindAhead r3))] H6 := fun hb Nx rt bk hNx => by
      rw [hb, if_neg Bool.false_ne_true] at G5
      obtain ⟨hb1, hb2'⟩ := Bool.or_eq_false_iff.mp hb
      have hne := of_decide_eq_false hb1
      obtain ⟨t, q, z, rfl, hk, hv, eb, ehs⟩ := bind_split hne
      rw [eb] at hne
      obtain ⟨p1, p2, p3⟩ := bind_plain hne
      rw [ehs] at G5
      walk_at "w"
      refine ⟨.inl ⟨rfl, _, .of P6.b⟩, ?_⟩
      walk_at "w"
      refine w_rdS 0 rfl R6 (by decide +kernel) ?_
      walk_at "w"
      refine ⟨rd, Ts, last, t :: q, o, rfl, R6, ?_⟩
      rw [Took.t]
      have ho : opn t o = some o := opn_plain hv p1 p2
      refine TookT.mk (fun e => by rw [ho] at e; cases e) fun o' e H7 kH7 R7 => ?_
      rw [ho] at e
      cases e
      rw [hv]
      refine ⟨by show 2 ≤ sizeLine; decide, fun p hp => ?_⟩
      have sp := sameUpd (o := .tup [.int (bindAhead (t :: q)), .str z]) hp
      have hB8 := sp _ _ (KeepF.lst R6 kH7 P6.b)
      have hA8 := sp _ _ (KeepF.lst R6 kH7 P6.a)
      rw [List.length_cons] at hr3
      walk_at "w"
      refine ⟨B, ws6, _, rfl, rfl, hB8, by omega, ?_⟩
      have t8 := tup_updL (vs := ws6 ++ [.ref p]) hB8
      have tt : ∀ p2 xs, H6 p2 = some (.tup xs) → (upd (upd H7 p (.tup [.int (bindAhead (t :: q)), .str z])) B (.lst (ws6 ++ [.ref p]))) p2 = some (.tup xs) := fun p2 xs e => t8 _ _ (sp _ _ (KeepF.tups R6 kH7 _ _ e))
      refine hNx _ _ ⟨n, Nat.lt_succ_self _, (os6, (bindAhead (t :: q), z) :: wt6), us6, ws6 ++ [.ref p], q, _, rfl, ⟨nAB, ?_, upd_same, P6.os.mono tt, .snoc (P6.wt.mono tt) (t8 _ _ upd_same)⟩, ?_, by rw [List.length_append, List.length_singleton]; omega, (R7.same sp).updL hB0 hB1 hB8 _, keepF_updL ((k6.trans kH7).trans (.same sp)) hB', G5⟩
      · rw [upd_ne nAB]
        exact hA8
      · show os6.length = nb wt6 + (if isUn z = true then 0 else 1)
        rw [p3, if_neg Bool.false_ne_true]
        exact bal6
    walk_at "w"
    by_cases c1 : bindAhead r3 = 0
    · rw [decide_eq_true c1] at brk ⊢
      walk_at "w"
      unfold tBreak
      exact brk rfl
    · rw [decide_eq_false c1] at brk nxt ⊢
      walk_at "w"
      refine w_lenL (.of P6.b) ?_
      walk_at "w"
      match wt6, P6, w6, brk, nxt with
      | [], P6, w6, brk, nxt =>
        rw [decide_eq_false (show ¬ (0 : Int) < ((ws6.length : Nat) : Int) by rw [w6]; exact Int.lt_irrefl 0)]
        walk_at "w1"
        walk_at "w1"
        walk_at "w1"
        exact nxt rfl _ _ _ fun _ _ z => z
      | (b, z) :: wt7, P6, w6, brk, nxt =>
        rw [decide_eq_true (show (0 : Int) < ((ws6.length : Nat) : Int) by rw [w6, List.length_cons]; omega)]
        obtain ⟨ws8, p8, rfl, hW8, hp8⟩ := P6.wt.inv
        have it : atI (ws8 ++ [V.ref p8]) (-1) = some (.ref p8) := atI_last _ _
        walk_at "w"
        refine w_ixL (.of P6.b) it ?_
        walk_at "w"
        refine w_ixT (.of hp8) (atI_nat (j := 0) rfl) ?_
        walk_at "w"
        have em : meets (bindAhead r3) ((b, z) :: wt7) = decide (b = bindAhead r3) := rfl
        rw [em] at brk nxt
        by_cases c2 : b = bindAhead r3
        · rw [decide_eq_true c2] at brk ⊢
          walk_at "w"
          unfold tBreak
          exact brk rfl
        · rw [decide_eq_false c2] at nxt ⊢
          walk_at "w1"
          walk_at "w1"
          exact nxt rfl _ _ _ fun _ _ z => z
end
end FE
namespace FE
open PySem L2 K01
/-- each result is a node: a tuple that begins with its name -/
def Nd (f : M D) : Prop := ∀ r a q, f r = .ok a q → ∃ z ds, a = .tup (.s z :: ds)
def spShort (K : PySem.W.Frag) (o : Int) (I : Option Ps) : Sp := fun vs H Q E => ∃ rd T last r, vs = [.ref rd] ∧ Rdr K H rd T last r o ∧ (aheadOf SHORT r).isSome = true ∧ Got K H rd T last o E (pShort I r) Q
section
variable {P : Program} {w : World} {K : PySem.W.Frag} {mg : Str → Option Value} {base : Heap} {m : Nat} {o : Int} {I : Option Ps}
theorem ok_read_plain (hN : Nd (pE I)) (T : Txr P w K mg) {f : Addr} {fd : FuncData} (F : FnP K "read_plain" s_read_plain f fd) (RM : RdM P w K mg base) (D_read_e : CalQ P w K mg base (L2.CX P w) (m + 5) "read_e" P_read_e (spP K o (pE I))) :
    FnQ P w K mg base (L2.CX P w) (m + 6) f fd P_read_plain (spP K o (pPlain I)) := by
  obtain ⟨D_Reader_is_more, D_Reader_sort_at, D_Reader_is_ahead, D_Reader_ahead_of, D_Reader_bind_ahead, D_Reader_wrong, D_Reader_take, D_Reader_want, D_Reader_want_name, D_Reader_skips⟩ := RM
  refine F.okQ sc_read_plain (fun vs H Q E h => ?_) (fun cdv A outer s H vs Q E hr h => ?_)
  · obtain ⟨rd, T, last, r, rfl, _⟩ := h
    rfl
  · obtain ⟨rd, Ts, last, r, rfl, hR, G⟩ := h
    refine ⟨_, (pss_cons (ps_set (i := 1) sc_read_plain.nd rfl (Or.inl rfl) (pe_calQS D_read_e hr (by omega) rfl (takes_of rfl rfl rfl rfl) (pa_cons (pv 0) pa_nil)))
  (pss_cons (ps_if (pt_val (pe_met (pv 0) D_Reader_is_ahead hr.room rfl pass0 (pa_cons pe_str pa_nil))) (pss_cons (ps_if (pt_cmpR op_notIn_seq (pe_ix ix_tup (pv 1) pe_int (fun _ _ => rfl)) (pe_gr T.g_PLACES) (by rfl)) (pss_one (ps_expr (pe_metS0 (pv 0) D_Reader_wrong hr.room rfl (takes_of rfl rfl rfl rfl)))) pss_nil)
  (pss_cons (ps_expr (pe_metS (pv 0) D_Reader_want hr.room rfl (takes_of rfl rfl rfl rfl) (pa_cons pe_str pa_nil)))
  (pss_one (ps_set (i := 1) sc_read_plain.nd rfl (Or.inl rfl) (pe_tup (pa_cons pe_str (pa_cons (pv 1) (pa_cons (pe_calQS D_read_e hr (by omega) rfl (takes_of rfl rfl rfl rfl) (pa_cons (pv 0) pa_nil)) pa_nil)))))))) (pss_one (ps_set (i := 1) sc_read_plain.nd rfl (Or.inl rfl) (pe_tup (pa_cons pe_str (pa_cons (pv 1) pa_nil))))))
  (pss_cons (ps_expr (pe_metS (pv 0) D_Reader_want hr.room rfl (takes_of rfl rfl rfl rfl) (pa_cons pe_str pa_nil)))
  (pss_one (ps_ret (pv 1)))))), ?_⟩
    walk_at "w"
    refine ⟨rd, Ts, last, r, rfl, hR, G.bindE .refl fun d q H1 v eqE _ k1 R1 e1 G1 => ?_⟩
    refine w_name ?_
    with_reducible refine seq_cut (fun σ' H' => ∃ v d q, σ' = [some (.ref rd), some v] ∧ Rep H' v d ∧ Rdr K H' rd Ts last q o ∧ KeepF rd H H' ∧ Got K H rd Ts last o E (bn (want ";") (fun _ => rt d) q) Q) (fun N k => ?_) ?_
    · walk_at "w"
      refine w_rd 0 rfl R1 (by decide +kernel) ?_
      walk_at "w"
      refine w_spIsAhead R1 fun H2 s2 R2 => ?_
      have k2 := k1.trans (.same s2)
      have e2 := e1.same s2
      cases ha : isAhead "=" q with
      | true =>
        obtain ⟨z, ds, rfl⟩ := hN _ _ _ eqE
        cases e2 with
        | @tup p us xs hp l e =>
        cases us with
        | nil => cases l
        | cons u0 us =>
        have hu0 : u0 = .str z := by
          have y := e 0 u0 (.s z) rfl rfl
          cases y
          rfl
        subst hu0
        walk_at "w"
        refine w_ixT (.of hp) (atI_nat (j := 0) rfl) ?_
        walk_at "w"
        refine w_notInStrs PLACES (T.t_PLACES H2) rfl ?_
        have eP : inStrs (.str z) PLACES = isPlace (.tup (.s z :: ds)) := by
          show decide (z ∈ PLACES) = isPlace _
          unfold isPlace headOf PLACES
          simp
        rw [eP]
        cases hP : isPlace (.tup (.s z :: ds)) with
        | false =>
          have G3 : Got K H rd Ts last o E (.bad q) Q := by
            have e : bn (pSet I (.tup (.s z :: ds))) (fun a => bn (want ";") fun _ => rt a) q = .bad q := by
              unfold bn pSet
              rw [if_pos ha, if_neg (by rw [hP]; decide)]
            rw [e] at G1
            exact G1
          walk_at "w"
          refine w_rdS 0 rfl R2 (by decide +kernel) ?_
          walk_at "w"
          exact ⟨rd, Ts, last, q, o, rfl, R2, G3.bad _ k2⟩
        | true =>
          have G3 : Got K H rd Ts last o E (bn (want "=") (fun _ => bn (pE I) fun g => bn (want ";") fun _ => rt (.tup [.s "set", .tup (.s z :: ds), g])) q) Q := by
            have y := G1
            rw [bn_congr (f' := bn (pE I) fun g => rt (.tup [.s "set", .tup (.s z :: ds), g])) (r' := q.tail) (by unfold pSet; rw [if_pos ha, if_pos hP]), bn_assoc] at y
            rw [bn_ok (f := want "=") (a := ()) (q := q.tail) (by unfold want; rw [if_pos ha])]
            exact y
          walk_at "w"
          refine w_rdS 0 rfl R2 (by decide +kernel) ?_
          walk_at "w"
          have e2 : Rep H2 (.ref p) (.tup (.s z :: ds)) := .tup hp l e
          refine want_ok (by decide +kernel) (by decide +kernel) R2 k2 G3 fun H3 _ kH3 k3 R3 G3 => ?_
          walk_at "w"
          refine ⟨rd, Ts, last, q.tail, rfl, R3, G3.bind k3 fun g q4 H4 v4 kH4 k4 R4 e4 G4 => ?_⟩
          walk_at "w"
          refine ⟨by show 3 ≤ sizeLine; decide, fun p5 hp5 => ?_⟩
          have sp := sameUpd (o := .tup [.str "set", .ref p, v4]) hp5
          walk_at "w"
          exact k _ _ ⟨_, _, q4, rfl, .ofs upd_same (.cons (.s _) (.cons (((e2.mono (KeepF.tups R2 kH3)).mono (KeepF.tups R3 kH4)).same sp) (.cons (e4.same sp) .nil))), R4.same sp, k4.trans (.same sp), G4⟩
      | false =>
        have G3 : Got K H rd Ts last o E (bn (want ";") (fun _ => rt (.tup [.s "do", d])) q) Q := by
          have y := G1
          rw [bn_ok (f := pSet I d) (a := .tup [.s "do", d]) (q := q) (by unfold pSet; rw [if_neg (by rw [ha]; decide)])] at y
          exact y
        walk_at "w"
        refine ⟨by show 2 ≤ sizeLine; decide, fun p5 hp5 => ?_⟩
        have sp := sameUpd (o := .tup [.str "do", v]) hp5
        walk_at "w"
        exact k _ _ ⟨_, _, q, rfl, .ofs upd_same (.cons (.s _) (.cons (e2.same sp) .nil)), R2.same sp, k2.trans (.same sp), G3⟩
    rintro _ H5 ⟨v, d, q, rfl, e5, R5, k5, G5⟩
    walk_at "w"
    refine w_rdS 0 rfl R5 (by decide +kernel) ?_
    walk_at "w"
    refine want_ok (by decide +kernel) (by decide +kernel) R5 k5 G5 fun H6 _ kH6 k6 R6 G6 => ?_
    walk_at "w"
    exact G6.fin k6 R6 (e5.mono (KeepF.tups R5 kH6))
theorem ok_read_short (T : Txr P w K mg) {f : Addr} {fd : FuncData} (F : FnP K "read_short" s_read_short f fd) (RM : RdM P w K mg base) (D_read_e : CalQ P w K mg base (L2.CX P w) (m + 5) "read_e" P_read_e (spP K o (pE I))) :
    FnQ P w K mg base (L2.CX P w) (m + 6) f fd P_read_short (spShort K o I) := by
  obtain ⟨D_Reader_is_more, D_Reader_sort_at, D_Reader_is_ahead, D_Reader_ahead_of, D_Reader_bind_ahead, D_Reader_wrong, D_Reader_take, D_Reader_want, D_Reader_want_name, D_Reader_skips⟩ := RM
  refine F.okQ sc_read_short (fun vs H Q E h => ?_) (fun cdv A outer s H vs Q E hr h => ?_)
  · obtain ⟨rd, T, last, r, rfl, _⟩ := h
    rfl
  · obtain ⟨rd, Ts, last, r, rfl, hR, hA, G⟩ := h
    refine ⟨_, (pss_cons (ps_set (i := 1) sc_read_short.nd rfl (Or.inl rfl) (pe_metS0 (pv 0) D_Reader_take hr.room rfl (takes_of rfl rfl rfl rfl)))
  (pss_cons (ps_set (i := 2) sc_read_short.nd rfl (Or.inl rfl) (pe_tup (pa_cons (pv 1) pa_nil)))
  (pss_cons (ps_if (pt_cmpR op_in_seq (pv 1) (pe_gr T.g_WITH_E) (by rfl)) (pss_one (ps_set (i := 2) sc_read_short.nd rfl (Or.inl rfl) (pe_tup (pa_cons (pv 1) (pa_cons (pe_calQS D_read_e hr (by omega) rfl (takes_of rfl rfl rfl rfl) (pa_cons (pv 0) pa_nil)) pa_nil))))) (pss_one (ps_if (pt_cmpR op_eq (pv 1) pe_str (nomark _)) (pss_cons (ps_set (i := 3) sc_read_short.nd rfl (Or.inl rfl) (pe_metS0 (pv 0) D_Reader_want_name hr.room rfl (takes_of rfl rfl rfl rfl)))
  (pss_cons (ps_expr (pe_metS (pv 0) D_Reader_want hr.room rfl (takes_of rfl rfl rfl rfl) (pa_cons pe_str pa_nil)))
  (pss_one (ps_set (i := 2) sc_read_short.nd rfl (Or.inl rfl) (pe_tup (pa_cons pe_str (pa_cons (pv 3) (pa_cons (pe_calQS D_read_e hr (by omega) rfl (takes_of rfl rfl rfl rfl) (pa_cons (pv 0) pa_nil)) pa_nil)))))))) pss_nil)))
  (pss_cons (ps_expr (pe_metS (pv 0) D_Reader_want hr.room rfl (takes_of rfl rfl rfl rfl) (pa_cons pe_str pa_nil)))
  (pss_one (ps_ret (pv 2))))))), ?_⟩
    obtain ⟨t, q, z, rfl, hk, hv, hz, _⟩ := aheadOf_split hA
    obtain ⟨b1, b2⟩ := not_br (by decide +kernel) hz
    have hh : headStr (t :: q) = z := by unfold headStr; dsimp only; rw [hv]
    have G0 : Got K H rd Ts last o E (bn takeV (fun k => bn (if headStr (t :: q) ∈ WITHE then bn (pE I) fun e => rt (D.tup [k, e]) else if headStr (t :: q) = "var" then bn wantName fun x => bn (want "=") fun _ => bn (pE I) fun e => rt (.tup [.s "var", x, e]) else rt (.tup [k])) fun a => bn (want ";") fun _ => rt a) (t :: q)) Q := G
    rw [hh] at G0
    walk_at "w"
    refine w_rdS 0 rfl hR (by decide +kernel) ?_
    walk_at "w"
    refine take_ok (opn_plain hv b1 b2) hR .refl G0 fun H1 _ k1 R1 e1 G1 => ?_
    rw [hv] at G1 ⊢
    walk_at "w"
    refine ⟨by show 1 ≤ sizeLine; decide, fun p1 hp1 => ?_⟩
    refine w_name ?_
    have s1 := sameUpd (o := .tup [.str z]) hp1
    have R2 := R1.same s1
    have k2 := k1.trans (.same s1)
    have e2 : Rep (upd H1 p1 (.tup [.str z])) (.ref p1) (.tup [.s z]) := .ofs upd_same (.cons (.s _) .nil)
    generalize upd H1 p1 (.tup [.str z]) = H2 at R2 k2 e2 ⊢
    have G2 : Got K H rd Ts last o E (bn (if z ∈ WITHE then bn (pE I) fun e => rt (D.tup [.s z, e]) else if z = "var" then bn wantName fun x => bn (want "=") fun _ => bn (pE I) fun e => rt (.tup [.s "var", x, e]) else rt (.tup [.s z])) (fun a => bn (want ";") fun _ => rt a) q) Q := G1
    with_reducible refine seq_cut (fun σ' H' => ∃ v d q x3, σ' = [some (.ref rd), some (.str z), some v, x3] ∧ Rep H' v d ∧ Rdr K H' rd Ts last q o ∧ KeepF rd H H' ∧ Got K H rd Ts last o E (bn (want ";") (fun _ => rt d) q) Q) (fun N k => ?_) ?_
    · walk_at "w"
      refine w_inStrs WITHE (T.t_WITH_E H2) rfl ?_
      show ∃ k, V.bl (decide (z ∈ WITHE)) = .bl k ∧ _
      by_cases hw : z ∈ WITHE
      · rw [if_pos hw, bn_assoc] at G2
        rw [decide_eq_true hw]
        walk_at "w"
        refine ⟨rd, Ts, last, q, rfl, R2, G2.bind k2 fun e q3 H3 v3 kH3 k3 R3 e3 G3 => ?_⟩
        walk_at "w"
        refine ⟨by show 2 ≤ sizeLine; decide, fun p5 hp5 => ?_⟩
        have sp := sameUpd (o := .tup [.str z, v3]) hp5
        walk_at "w"
        exact k _ _ ⟨_, _, q3, _, rfl, .ofs upd_same (.cons (.s _) (.cons (e3.same sp) .nil)), R3.same sp, k3.trans (.same sp), G3⟩
      · rw [if_neg hw] at G2
        rw [decide_eq_false hw]
        walk_at "w"
        refine w_eq rfl ?_
        by_cases hvar : z = "var"
        · subst hvar
          rw [if_pos rfl, bn_assoc] at G2
          rw [decide_eq_true rfl]
          walk_at "w"
          refine w_rdS 0 rfl R2 (by decide +kernel) ?_
          walk_at "w"
          refine name_ok R2 k2 G2 fun H3 x q3 kH3 k3 R3 G3 => ?_
          rw [bn_assoc] at G3
          walk_at "w"
          refine w_rdS 0 rfl R3 (by decide +kernel) ?_
          walk_at "w"
          refine want_ok (by decide +kernel) (by decide +kernel) R3 k3 G3 fun H4 _ kH4 k4 R4 G4 => ?_
          rw [bn_assoc] at G4
          walk_at "w"
          refine ⟨rd, Ts, last, q3.tail, rfl, R4, G4.bind k4 fun e q5 H5 v5 kH5 k5 R5 e5 G5 => ?_⟩
          walk_at "w"
          refine ⟨by show 3 ≤ sizeLine; decide, fun p6 hp6 => ?_⟩
          have sp := sameUpd (o := .tup [.str "var", .str x, v5]) hp6
          walk_at "w"
          exact k _ _ ⟨_, _, q5, _, rfl, .ofs upd_same (.cons (.s _) (.cons (.s _) (.cons (e5.same sp) .nil))), R5.same sp, k5.trans (.same sp), G5⟩
        · rw [if_neg hvar] at G2
          rw [decide_eq_false (fun y => hvar (V.str.inj y))]
          walk_at "w"
          exact k _ _ ⟨_, _, q, _, rfl, e2, R2, k2, G2⟩
    rintro _ H5 ⟨v, d, q5, x3, rfl, e5, R5, k5, G5⟩
    walk_at "w"
    refine w_rdS 0 rfl R5 (by decide +kernel) ?_
    walk_at "w"
    refine want_ok (by decide +kernel) (by decide +kernel) R5 k5 G5 fun H6 _ kH6 k6 R6 G6 => ?_
    walk_at "w"
    exact G6.fin k6 R6 (e5.mono (KeepF.tups R5 kH6))
theorem ok_read_statement (T : Txr P w K mg) {f : Addr} {fd : FuncData} (F : FnP K "read_statement" s_read_statement f fd) (RM : RdM P w K mg base) (D_read_e : CalQ P w K mg base (L2.CX P w) (m + 5) "read_e" P_read_e (spP K o (pE I))) (D_read_block : CalQ P w K mg base (L2.CX P w) (m + 1) "read_block" P_read_block (spP K o (pBlock I)))
    (D_read_short : CalQ P w K mg base (L2.CX P w) (m + 6) "read_short" P_read_short (spShort K o I)) (D_read_plain : CalQ P w K mg base (L2.CX P w) (m + 6) "read_plain" P_read_plain (spP K o (pPlain I))) :
    FnQ P w K mg base (L2.CX P w) (m + 7) f fd P_read_statement (spP K o (pSt I)) := by
  obtain ⟨D_Reader_is_more, D_Reader_sort_at, D_Reader_is_ahead, D_Reader_ahead_of, D_Reader_bind_ahead, D_Reader_wrong, D_Reader_take, D_Reader_want, D_Reader_want_name, D_Reader_skips⟩ := RM
  refine F.okQ sc_read_statement (fun vs H Q E h => ?_) (fun cdv A outer s H vs Q E hr h => ?_)
  · obtain ⟨rd, T, last, r, rfl, _⟩ := h
    rfl
  · obtain ⟨rd, Ts, last, r, rfl, hR, G⟩ := h
    refine ⟨_, (pss_cons (ps_if (pt_cmp (pc_notN (pe_met (pv 0) D_Reader_ahead_of hr.room rfl pass0 (pa_cons (pe_op op_catT (pe_tup (pa_cons pe_str (pa_cons pe_str (pa_cons pe_str pa_nil)))) (pe_gr T.g_WITH_E)) pa_nil))) rfl) (pss_one (ps_ret (pe_calQS D_read_short hr (by omega) rfl (takes_of rfl rfl rfl rfl) (pa_cons (pv 0) pa_nil)))) pss_nil)
  (pss_cons (ps_if (pt_val (pe_metS (pv 0) D_Reader_skips hr.room rfl (takes_of rfl rfl rfl rfl) (pa_cons pe_str pa_nil))) (pss_cons (ps_set (i := 1) sc_read_statement.nd rfl (Or.inl rfl) (pe_calQS D_read_block hr (by omega) rfl (takes_of rfl rfl rfl rfl) (pa_cons (pv 0) pa_nil)))
  (pss_cons (ps_expr (pe_metS (pv 0) D_Reader_want hr.room rfl (takes_of rfl rfl rfl rfl) (pa_cons pe_str pa_nil)))
  (pss_cons (ps_set (i := 2) sc_read_statement.nd rfl (Or.inl rfl) (pe_metS0 (pv 0) D_Reader_want_name hr.room rfl (takes_of rfl rfl rfl rfl)))
  (pss_one (ps_ret (pe_tup (pa_cons pe_str (pa_cons (pv 1) (pa_cons (pv 2) (pa_cons (pe_calQS D_read_block hr (by omega) rfl (takes_of rfl rfl rfl rfl) (pa_cons (pv 0) pa_nil)) pa_nil)))))))))) pss_nil)
  (pss_cons (ps_if (pt_val (pe_metS (pv 0) D_Reader_skips hr.room rfl (takes_of rfl rfl rfl rfl) (pa_cons pe_str pa_nil))) (pss_cons (ps_set (i := 3) sc_read_statement.nd rfl (Or.inl rfl) (pe_calQS D_read_e hr (by omega) rfl (takes_of rfl rfl rfl rfl) (pa_cons (pv 0) pa_nil)))
  (pss_one (ps_ret (pe_tup (pa_cons pe_str (pa_cons (pv 3) (pa_cons (pe_calQS D_read_block hr (by omega) rfl (takes_of rfl rfl rfl rfl) (pa_cons (pv 0) pa_nil)) pa_nil))))))) pss_nil)
  (pss_cons (ps_if (pt_val (pe_metS (pv 0) D_Reader_skips hr.room rfl (takes_of rfl rfl rfl rfl) (pa_cons pe_str pa_nil))) (pss_cons (ps_set (i := 3) sc_read_statement.nd rfl (Or.inl rfl) (pe_calQS D_read_e hr (by omega) rfl (takes_of rfl rfl rfl rfl) (pa_cons (pv 0) pa_nil)))
  (pss_cons (ps_set (i := 1) sc_read_statement.nd rfl (Or.inl rfl) (pe_calQS D_read_block hr (by omega) rfl (takes_of rfl rfl rfl rfl) (pa_cons (pv 0) pa_nil)))
  (pss_one (ps_ret (pe_tup (pa_cons pe_str (pa_cons (pv 3) (pa_cons (pv 1) (pa_cons (pe_ifExp (pt_val (pe_metS (pv 0) D_Reader_skips hr.room rfl (takes_of rfl rfl rfl rfl) (pa_cons pe_str pa_nil))) (pe_calQS D_read_block hr (by omega) rfl (takes_of rfl rfl rfl rfl) (pa_cons (pv 0) pa_nil)) (pe_tup pa_nil)) pa_nil))))))))) pss_nil)
  (pss_one (ps_ret (pe_calQS D_read_plain hr (by omega) rfl (takes_of rfl rfl rfl rfl) (pa_cons (pv 0) pa_nil)))))))), ?_⟩
    unfold pSt at G
    walk_at "w"
    refine w_rd 0 rfl hR (by decide +kernel) ?_
    walk_at "w"
    refine ⟨by show 3 ≤ sizeLine; decide, fun p1 hp1 => ?_⟩
    walk_at "w"
    have s1 := sameUpd (o := .tup [.str "var", .str "break", .str "continue"]) hp1
    refine ⟨_, _, _, _, rfl, rfl, .of upd_same, T.t_WITH_E _, (by intro z; cases z), by show 6 ≤ sizeLine; decide, (fun z => by cases z), fun _ p2 hp2 => ?_⟩
    have s2 := sameUpd (o := .tup ([V.str "var", .str "break", .str "continue"] ++ WITHE.map V.str)) hp2
    have k2 : KeepF rd H _ := (KeepF.same s1).trans (.same s2)
    have R2 := (hR.same s1).same s2
    have q2 := upd_same (H := upd H p1 (.tup [.str "var", .str "break", .str "continue"])) (a := p2) (o := .tup ([V.str "var", .str "break", .str "continue"] ++ WITHE.map V.str))
    generalize upd (upd H p1 (.tup [.str "var", .str "break", .str "continue"])) p2 (.tup ([V.str "var", .str "break", .str "continue"] ++ WITHE.map V.str)) = H2 at k2 R2 q2 ⊢
    walk_at "w"
    refine w_spAheadOf (ws := SHORT) R2 (.of q2) fun H3 s3 R3 => ?_
    have k3 := k2.trans (.same s3)
    rw [oS_none]
    by_cases hA : (aheadOf SHORT r).isSome = true
    · rw [if_pos hA] at G
      rw [hA]
      walk_at "w"
      refine w_nf ?_
      walk_at "w"
      exact ⟨rd, Ts, last, r, rfl, R3, hA, G.to k3 fun d q H' v _ _ _ _ z => z⟩
    rw [if_neg hA] at G
    rw [Bool.not_eq_true] at hA
    rw [hA]
    walk_at "w"
    refine w_nt ?_
    walk_at "w"
    refine w_rdS 0 rfl R3 (by decide +kernel) ?_
    walk_at "w"
    refine skips_ok (by decide +kernel) (by decide +kernel) R3 (fun H4 hB kH4 R4 => ?_) (fun H4 hB s4 R4 => ?_)
    · rw [hB, if_pos rfl] at G
      have k4 := k3.trans kH4
      walk_at "w"
      refine ⟨rd, Ts, last, r.tail, rfl, R4, G.bind k4 fun b q5 H5 v5 kH5 k5 R5 e5 G5 => ?_⟩
      walk_at "w"
      refine w_rdS 0 rfl R5 (by decide +kernel) ?_
      walk_at "w"
      refine want_ok (by decide +kernel) (by decide +kernel) R5 k5 G5 fun H6 _ kH6 k6 R6 G6 => ?_
      walk_at "w"
      refine w_rdS 0 rfl R6 (by decide +kernel) ?_
      walk_at "w"
      refine name_ok R6 k6 G6 fun H7 x q7 kH7 k7 R7 G7 => ?_
      walk_at "w"
      refine ⟨rd, Ts, last, q7, rfl, R7, G7.bind k7 fun c q8 H8 v8 kH8 k8 R8 e8 G8 => ?_⟩
      walk_at "w"
      refine ⟨by show 4 ≤ sizeLine; decide, fun p9 hp9 => ?_⟩
      have sp := sameUpd (o := .tup [.str "try", v5, .str x, v8]) hp9
      exact G8.fin (k8.trans (.same sp)) (R8.same sp) (.ofs upd_same (.cons (.s _) (.cons ((((e5.mono (KeepF.tups R5 kH6)).mono (KeepF.tups R6 kH7)).mono (KeepF.tups R7 kH8)).same sp) (.cons (.s _) (.cons (e8.same sp) .nil)))))
    rw [hB, if_neg Bool.false_ne_true] at G
    have k4 := k3.trans (.same s4)
    walk_at "w"
    refine w_rdS 0 rfl R4 (by decide +kernel) ?_
    walk_at "w"
    refine skips_ok (by decide +kernel) (by decide +kernel) R4 (fun H5 hC kH5 R5 => ?_) (fun H5 hC s5 R5 => ?_)
    · rw [hC, if_pos rfl] at G
      have k5 := k4.trans kH5
      walk_at "w"
      refine ⟨rd, Ts, last, r.tail, rfl, R5, G.bind k5 fun e q6 H6 v6 kH6 k6 R6 e6 G6 => ?_⟩
      walk_at "w"
      refine ⟨rd, Ts, last, q6, rfl, R6, G6.bind k6 fun b q7 H7 v7 kH7 k7 R7 e7 G7 => ?_⟩
      walk_at "w"
      refine ⟨by show 3 ≤ sizeLine; decide, fun p9 hp9 => ?_⟩
      have sp := sameUpd (o := .tup [.str "while", v6, v7]) hp9
      exact G7.fin (k7.trans (.same sp)) (R7.same sp) (.ofs upd_same (.cons (.s _) (.cons ((e6.mono (KeepF.tups R6 kH7)).same sp) (.cons (e7.same sp) .nil))))
    rw [hC, if_neg Bool.false_ne_true] at G
    have k5 := k4.trans (.same s5)
    walk_at "w"
    refine w_rdS 0 rfl R5 (by decide +kernel) ?_
    walk_at "w"
    refine skips_ok (by decide +kernel) (by decide +kernel) R5 (fun H6 hD kH6 R6 => ?_) (fun H6 hD s6 R6 => ?_)
    · rw [hD, if_pos rfl] at G
      have k6 := k5.trans kH6
      walk_at "w"
      refine ⟨rd, Ts, last, r.tail, rfl, R6, G.bind k6 fun e q7 H7 v7 kH7 k7 R7 e7 G7 => ?_⟩
      walk_at "w"
      refine ⟨rd, Ts, last, q7, rfl, R7, G7.bind k7 fun b q8 H8 v8 kH8 k8 R8 e8 G8 => ?_⟩
      walk_at "w"
      have e7' := e7.mono (KeepF.tups R7 kH8)
      refine w_rdS 0 rfl R8 (by decide +kernel) ?_
      walk_at "w"
      refine skips_ok (by decide +kernel) (by decide +kernel) R8 (fun H9 hE kH9 R9 => ?_) (fun H9 hE s9 R9 => ?_)
      · have G9 : Got K H rd Ts last o E (bn (pBlock I) (fun c => rt (.tup [.s "if", e, b, c])) q8.tail) Q := by
          have y := G8
          rw [bn_congr (f' := pBlock I) (r' := q8.tail) (by show (if isAhead "else" q8 = true then _ else _) = _; rw [if_pos hE])] at y
          exact y
        have k9 := k8.trans kH9
        walk_at "w"
        refine ⟨rd, Ts, last, q8.tail, rfl, R9, G9.bind k9 fun c qa Ha va kHa ka Ra ea Ga => ?_⟩
        walk_at "w"
        refine ⟨by show 4 ≤ sizeLine; decide, fun p9 hp9 => ?_⟩
        have sp := sameUpd (o := .tup [.str "if", v7, v8, va]) hp9
        exact Ga.fin (ka.trans (.same sp)) (Ra.same sp) (.ofs upd_same (.cons (.s _) (.cons (((e7'.mono (KeepF.tups R8 kH9)).mono (KeepF.tups R9 kHa)).same sp) (.cons (((e8.mono (KeepF.tups R8 kH9)).mono (KeepF.tups R9 kHa)).same sp) (.cons (ea.same sp) .nil)))))
      · have G9 : Got K H rd Ts last o E (.ok (.tup [.s "if", e, b, .tup []]) q8) Q := by
          have y := G8
          rw [bn_ok (a := .tup []) (q := q8) (by show (if isAhead "else" q8 = true then _ else _) = _; rw [if_neg (by rw [hE]; decide)])] at y
          exact y
        have k9 := k8.trans (.same s9)
        walk_at "w"
        refine ⟨by show 0 ≤ sizeLine; decide, fun pa hpa => ?_⟩
        have sa := sameUpd (o := .tup []) hpa
        walk_at "w"
        refine ⟨by show 4 ≤ sizeLine; decide, fun p9 hp9 => ?_⟩
        have sp := sameUpd (o := .tup [.str "if", v7, v8, .ref pa]) hp9
        exact G9.fin ((k9.trans (.same sa)).trans (.same sp)) ((R9.same sa).same sp) (.ofs upd_same (.cons (.s _) (.cons (((e7'.same s9).same sa).same sp) (.cons (((e8.same s9).same sa).same sp) (.cons (.ofs (sp _ _ upd_same) .nil) .nil)))))
    rw [hD, if_neg Bool.false_ne_true] at G
    have k6 := k5.trans (.same s6)
    walk_at "w"
    exact ⟨rd, Ts, last, r, rfl, R6, G.to k6 fun d q H' v _ _ _ _ z => z⟩
end
end FE
namespace FE
open PySem L2 K01
theorem opI_lvl {d : Nat} (h : d ≤ 60) : OpI (lvIn d) (60 - (d : Int)) := by
  cases d with
  | zero => exact ⟨fun _ => rfl, fun ps e => by cases e⟩
  | succ d => exact ⟨fun e => (by cases e), fun ps _ z => (by omega)⟩
def CInv (K : PySem.W.Frag) (H : Hp) (rd : Addr) (Ts : Wds) (last : Int) (E : XK) (Q : VK) (x : Str) (y : V) (el : D) (A B : Addr) (n : Nat) (σ' : L2.St) (H' : Hp) : Prop := ∃ (us ws : List V) (fs ms : List D) (q : List TK) (x5 x6 : Option V), σ' = [some (.ref rd), some (.str x), some y, some (.ref A), some (.ref B), x5, x6] ∧ H' A = some (.lst us) ∧ H' B = some (.lst ws) ∧ Reps H' us fs ∧ Reps H' ws ms ∧ Rep H' y el ∧ us.length + ws.length + n ≤ big + 2 ∧ Rdr K H' rd Ts last q 1 ∧ KeepF rd H H' ∧
      Got K H rd Ts last 0 E (bn (members n fs ms) (fun fm => bn (want "}") fun _ => rt (.tup [.s "class", .s x, el, .tup fm.1, .tup fm.2])) q) Q
section
variable {P : Program} {w : World} {K : PySem.W.Frag} {mg : Str → Option Value} {base : Heap} {m m1 : Nat}
theorem ok_read_class (hm : m1 ≤ m + 7) (T : Txr P w K mg) {f : Addr} {fd : FuncData} (F : FnP K "read_class" s_read_class f fd) (RM : RdM P w K mg base) (D_read_params : CalQ P w K mg base (L2.CX P w) m1 "read_params" P_read_params (spP K 1 (pParams (lvIn 59)))) (D_read_block : CalQ P w K mg base (L2.CX P w) m1 "read_block" P_read_block (spP K 1 (pBlock (lvIn 59)))) :
    FnQ P w K mg base (L2.CX P w) (m + 8) f fd P_read_class (spP K 0 pClass) := by
  obtain ⟨D_Reader_is_more, D_Reader_sort_at, D_Reader_is_ahead, D_Reader_ahead_of, D_Reader_bind_ahead, D_Reader_wrong, D_Reader_take, D_Reader_want, D_Reader_want_name, D_Reader_skips⟩ := RM
  refine F.okQ sc_read_class (fun vs H Q E h => ?_) (fun cdv A outer s H vs Q E hr h => ?_)
  · obtain ⟨rd, T, last, r, rfl, _⟩ := h
    rfl
  · obtain ⟨rd, Ts, last, r, rfl, hR, G⟩ := h
    refine ⟨_, (pss_cons (ps_expr (pe_metS (pv 0) D_Reader_want hr.room rfl (takes_of rfl rfl rfl rfl) (pa_cons pe_str pa_nil)))
  (pss_cons (ps_set (i := 1) sc_read_class.nd rfl (Or.inl rfl) (pe_metS0 (pv 0) D_Reader_want_name hr.room rfl (takes_of rfl rfl rfl rfl)))
  (pss_cons (ps_set (i := 2) sc_read_class.nd rfl (Or.inl rfl) (pe_ifExp (pt_val (pe_metS (pv 0) D_Reader_skips hr.room rfl (takes_of rfl rfl rfl rfl) (pa_cons pe_str pa_nil))) (pe_metS0 (pv 0) D_Reader_want_name hr.room rfl (takes_of rfl rfl rfl rfl)) pe_non))
  (pss_cons (ps_par (i := 3) (j := 4) (by rfl) sc_read_class.nd rfl rfl (by decide) rfl rfl (pa_cons (pe_lst pa_nil) (pa_cons (pe_lst pa_nil) pa_nil)) (by rfl))
  (pss_cons (ps_expr (pe_metS (pv 0) D_Reader_want hr.room rfl (takes_of rfl rfl rfl rfl) (pa_cons pe_str pa_nil)))
  (pss_cons (ps_while (passes_of rfl) (pt_not (pt_val (pe_met (pv 0) D_Reader_is_ahead hr.room rfl pass0 (pa_cons pe_str pa_nil)))) (pss_cons (ps_set (i := 5) sc_read_class.nd rfl (Or.inl rfl) (pe_metS0 (pv 0) D_Reader_want_name hr.room rfl (takes_of rfl rfl rfl rfl)))
  (pss_one (ps_if (PW.pt (pw_and (pt_cmpR op_eq (pe_callB call_lenN (by rfl) T.f_len (by decide +kernel) (pa_cons (pv 4) pa_nil)) pe_int (nomark _)) (pw_and1 (pt_val (pe_metS (pv 0) D_Reader_skips hr.room rfl (takes_of rfl rfl rfl rfl) (pa_cons pe_str pa_nil)))))) (pss_one (ps_expr (pe_bm PySem.F.plainAttrs_list PySem.F.slot_list_append PySem.F.type_list_append mt_append (pv 3) (pa_cons (pv 5) pa_nil)))) (pss_cons (ps_set (i := 6) sc_read_class.nd rfl (Or.inl rfl) (pe_calQS D_read_params hr (by omega) rfl (takes_of rfl rfl rfl rfl) (pa_cons (pv 0) pa_nil)))
  (pss_one (ps_expr (pe_bm PySem.F.plainAttrs_list PySem.F.slot_list_append PySem.F.type_list_append mt_append (pv 4) (pa_cons (pe_tup (pa_cons (pv 5) (pa_cons (pv 6) (pa_cons (pe_calQS D_read_block hr (by omega) rfl (takes_of rfl rfl rfl rfl) (pa_cons (pv 0) pa_nil)) pa_nil)))) pa_nil)))))))))
  (pss_cons (ps_expr (pe_metS (pv 0) D_Reader_want hr.room rfl (takes_of rfl rfl rfl rfl) (pa_cons pe_str pa_nil)))
  (pss_one (ps_ret (pe_tup (pa_cons pe_str (pa_cons (pv 1) (pa_cons (pv 2) (pa_cons (pe_callTy call_tuple_of (by rfl) T.f_tuple (by decide +kernel) (pa_cons (pv 3) pa_nil)) (pa_cons (pe_callTy call_tuple_of (by rfl) T.f_tuple (by decide +kernel) (pa_cons (pv 4) pa_nil)) pa_nil))))))))))))))), ?_⟩
    have hsz : big + 2 < sizeLine := by decide
    have hb2 : big = 200000 := rfl
    walk_at "w"
    refine w_rdS 0 rfl hR (by decide +kernel) ?_
    walk_at "w"
    refine want_ok (by decide +kernel) (by decide +kernel) hR .refl G fun H1 _ kH1 k1 R1 G1 => ?_
    walk_at "w"
    refine w_rdS 0 rfl R1 (by decide +kernel) ?_
    walk_at "w"
    refine name_ok R1 k1 G1 fun H2 x q2 kH2 k2 R2 G2 => ?_
    refine w_name ?_
    with_reducible refine w_seq ?_
    with_reducible refine asg_cut (fun y H' => ∃ (el : D) (q : List TK), Rep H' y el ∧ Rdr K H' rd Ts last q 0 ∧ KeepF rd H H' ∧ Got K H rd Ts last 0 E ((bn (wantOpen "{" (lvIn 60)) fun _ => bn (fun r => members (r.length + 1) [] [] r) fun fm => bn (want "}") fun _ => rt (.tup [.s "class", .s x, el, .tup fm.1, .tup fm.2])) q) Q) (fun Q2 k => ?_) ?_
    · walk_at "w"
      refine w_rdS 0 rfl R2 (by decide +kernel) ?_
      walk_at "w"
      refine skips_ok (by decide +kernel) (by decide +kernel) R2 (fun H3 ha kH3 R3 => ?_) (fun H3 ha s3 R3 => ?_)
      · have k3 := k2.trans kH3
        have G3 : Got K H rd Ts last 0 E (bn wantName (fun el => bn (wantOpen "{" (lvIn 60)) fun _ => bn (fun r => members (r.length + 1) [] [] r) fun fm => bn (want "}") fun _ => rt (.tup [.s "class", .s x, el, .tup fm.1, .tup fm.2])) q2.tail) Q := by
          have y := G2
          rw [bn_congr (f' := wantName) (r' := q2.tail) (by show (if isAhead "of" q2 = true then _ else _) = _; rw [if_pos ha])] at y
          exact y
        walk_at "w"
        refine w_rdS 0 rfl R3 (by decide +kernel) ?_
        walk_at "w"
        refine name_ok R3 k3 G3 fun H4 z q4 kH4 k4 R4 G4 => ?_
        exact k _ _ ⟨.s z, q4, .s _, R4, k4, G4⟩
      · have G3 := G2
        rw [bn_ok (a := D.non) (q := q2) (by show (if isAhead "of" q2 = true then _ else _) = _; rw [if_neg (by rw [ha]; decide)])] at G3
        walk_at "w"
        exact k _ _ ⟨.non, q2, .non, R3, k2.trans (.same s3), G3⟩
    rintro y H3 ⟨el, q3, e3, R3, k3, G3⟩
    refine w_name ?_
    with_reducible refine w_seq ?_
    unfold tPar
    walk_at "w"
    refine ⟨by show 0 ≤ sizeLine; decide, fun A hA => ?_⟩
    walk_at "w"
    refine ⟨by show 0 ≤ sizeLine; decide, fun B hB => ?_⟩
    walk_at "w"
    refine ⟨_, _, rfl, ?_⟩
    have hA0 : A ≠ rd := R3.free hA
    have hA1 := R3.freeW hA
    have hB' : H3 B = none := by
      by_cases e : B = A
      · rw [e] at hB ⊢
        exact hA
      · rw [upd_ne e] at hB
        exact hB
    have nAB : A ≠ B := fun e => by
      rw [← e, upd_same] at hB
      cases hB
    have hB0 : B ≠ rd := R3.free hB'
    have hB1 := R3.freeW hB'
    have hAn : H A = none := keepF_none k3 hA0 hA
    have hBn : H B = none := keepF_none k3 hB0 hB'
    have sA := sameUpd (o := .lst []) hA
    have sB := sameUpd (o := .lst []) hB
    have R4 := (R3.same sA).same sB
    have k4 : KeepF rd H (upd (upd H3 A (.lst [])) B (.lst [])) := (k3.trans (.same sA)).trans (.same sB)
    have e4 := (e3.same sA).same sB
    have a4 : (upd (upd H3 A (.lst [])) B (.lst [])) A = some (.lst []) := sB _ _ upd_same
    have b4 : (upd (upd H3 A (.lst [])) B (.lst [])) B = some (.lst []) := upd_same
    generalize upd (upd H3 A (.lst [])) B (.lst []) = H4 at R4 k4 e4 a4 b4 ⊢
    walk_at "w"
    refine w_rdS 0 rfl R4 (by decide +kernel) ?_
    walk_at "w"
    refine wantO_ok (opI_lvl (d := 60) (Nat.le_refl _)) (by decide +kernel) (by decide +kernel) R4 k4 G3 fun ps H5 hps _ kH5 k5 R5 G5 => ?_
    refine w_next ?_
    have hl5 := R5.len
    have e5 := e4.mono (KeepF.tups R4 kH5)
    have a5 := KeepF.lst R4 kH5 a4
    have b5 := KeepF.lst R4 kH5 b4
    have G5 : Got K H rd Ts last 0 E (bn (members (q3.tail.length + 1) [] []) (fun fm => bn (want "}") fun _ => rt (.tup [.s "class", .s x, el, .tup fm.1, .tup fm.2])) q3.tail) Q := G5
    with_reducible refine w_seq ?_
    refine ⟨fun n σ' H' => CInv K H rd Ts last E Q x y el A B n σ' H', ⟨q3.tail.length + 1, [], [], [], [], q3.tail, none, none, rfl, a5, b5, .nil, .nil, e5, by show 0 + 0 + (q3.tail.length + 1) ≤ big + 2; omega, R5, k5, G5⟩, ?_⟩
    rintro n σ' H6 ⟨us, ws, fs, ms, q, x5, x6, rfl, a6, b6, hf6, hm6, e6, z6, R6, k6, G6⟩
    walk_at "w"
    refine w_rd 0 rfl R6 (by decide +kernel) ?_
    walk_at "w"
    cases n with
    | zero => exact G6.elim
    | succ n =>
    refine w_spIsAhead R6 fun H7 s7 R7 => ?_
    have k7 := k6.trans (.same s7)
    have a7 := s7 _ _ a6
    have b7 := s7 _ _ b6
    have hf7 := hf6.mono fun _ _ e => s7 _ _ e
    have hm7 := hm6.mono fun _ _ e => s7 _ _ e
    have e7 := e6.same s7
    cases ha : isAhead "}" q with
    | true =>
      have G7 : Got K H rd Ts last 0 E (bn (want "}") (fun _ => rt (.tup [.s "class", .s x, el, .tup fs, .tup ms])) q) Q := by
        have y := G6
        rw [bn_ok (a := (fs, ms)) (q := q) (if_pos ha)] at y
        exact y
      walk_at "w"
      refine w_rdS 0 rfl R7 (by decide +kernel) ?_
      walk_at "w"
      refine wantC_ok (o1 := 0) (by decide +kernel) (by decide +kernel) (by decide +kernel) R7 k7 G7 fun H8 _ kH8 k8 R8 G8 => ?_
      have t8 := KeepF.tups R7 kH8
      walk_at "w"
      refine ⟨A, us, rfl, .inl ⟨.of (KeepF.lst R7 kH8 a7), fun p hp => ?_⟩⟩
      walk_at "w"
      have sp := sameUpd (o := .tup us) hp
      refine ⟨B, ws, rfl, .inl ⟨.of (sp _ _ (KeepF.lst R7 kH8 b7)), fun p2 hp2 => ?_⟩⟩
      walk_at "w"
      have sp2 := sameUpd (o := .tup ws) hp2
      refine ⟨by show 5 ≤ sizeLine; decide, fun p3 hp3 => ?_⟩
      have sp3 := sameUpd (o := .tup [.str "class", .str x, y, .ref p, .ref p2]) hp3
      have tt : ∀ pp xs, H7 pp = some (.tup xs) → _ := fun pp xs e => sp3 _ _ (sp2 _ _ (sp _ _ (t8 pp xs e)))
      refine G8.fin (((k8.trans (.same sp)).trans (.same sp2)).trans (.same sp3)) (((R8.same sp).same sp2).same sp3) (.ofs upd_same (.cons (.s _) (.cons (.s _) (.cons (e7.mono tt) (.cons (.ofs (sp3 _ _ (sp2 _ _ upd_same)) (hf7.mono tt)) (.cons (.ofs (sp3 _ _ upd_same) (hm7.mono tt)) .nil))))))
    | false =>
      have G7 : Got K H rd Ts last 0 E (bn wantName (fun x1 => bn (fun q => if (ms.isEmpty && isAhead ";" q) = true then members n (fs ++ [x1]) ms q.tail else (bn (pParams (lvIn 59)) fun ps => bn (pBlock (lvIn 59)) fun b => members n fs (ms ++ [.tup [x1, ps, b]])) q) (fun fm => bn (want "}") fun _ => rt (.tup [.s "class", .s x, el, .tup fm.1, .tup fm.2]))) q) Q := by
        have y := G6
        rw [bn_congr (f' := bn wantName fun x1 => fun q => if (ms.isEmpty && isAhead ";" q) = true then members n (fs ++ [x1]) ms q.tail else (bn (pParams (lvIn 59)) fun ps => bn (pBlock (lvIn 59)) fun b => members n fs (ms ++ [.tup [x1, ps, b]])) q) (r' := q) (if_neg (by rw [ha]; decide)), bn_assoc] at y
        exact y
      walk_at "w"
      refine ⟨fun σ' H' => ∃ m', m' < n + 1 ∧ CInv K H rd Ts last E Q x y el A B m' σ' H', fun _ _ z => z, ?_⟩
      walk_at "w"
      refine w_rdS 0 rfl R7 (by decide +kernel) ?_
      walk_at "w"
      refine name_ok R7 k7 G7 fun H8 z q8 kH8 k8 R8 G8 => ?_
      have t8 := KeepF.tups R7 kH8
      have a8 := KeepF.lst R7 kH8 a7
      have b8 := KeepF.lst R7 kH8 b7
      have hf8 := hf7.mono t8
      have hm8 := hm7.mono t8
      have e8 := e7.mono t8
      refine w_name ?_
      have meth : ∀ H9 rt0 bk ct, (ms.isEmpty && isAhead ";" q8) = false → Same H8 H9 → tSeq (tAsg (tCallS (spP K 1 (pParams (lvIn 59))) (WE fun cls d x H => E cls d H) (tCons (tVar 0) tNil)) (gName 6)) (tDrop (tBM K "list" rAppend (tVar 4) (tCons (tTup (tCons (tVar 5) (tCons (tVar 6) (tCons (tCallS (spP K 1 (pBlock (lvIn 59))) (WE fun cls d x H => E cls d H) (tCons (tVar 0) tNil)) tNil)))) tNil))) { nx := fun σ' H' => ∃ m', m' < n + 1 ∧ CInv K H rd Ts last E Q x y el A B m' σ' H', rt := rt0, bk := bk, ct := ct } [some (.ref rd), some (.str x), some y, some (.ref A), some (.ref B), some (.str z), x6] H9 := fun H9 rt0 bk ct hb s9 => by
        have R9 := R8.same s9
        have k9 := k8.trans (.same s9)
        have G9 : Got K H rd Ts last 0 E (bn (pParams (lvIn 59)) (fun ps => bn (pBlock (lvIn 59)) fun b => bn (members n fs (ms ++ [.tup [.s z, ps, b]])) fun fm => bn (want "}") fun _ => rt (.tup [.s "class", .s x, el, .tup fm.1, .tup fm.2])) q8) Q := by
          have y1 := G8
          rw [bn_congr (f' := bn (pParams (lvIn 59)) fun ps => bn (pBlock (lvIn 59)) fun b => members n fs (ms ++ [.tup [.s z, ps, b]])) (r' := q8) (by rw [if_neg (by rw [hb]; decide)]), bn_assoc] at y1
          have e : (fun a : D => bn (bn (pBlock (lvIn 59)) fun b => members n fs (ms ++ [D.tup [.s z, a, b]])) fun fm => bn (want "}") fun _ => rt (D.tup [.s "class", .s x, el, .tup fm.1, .tup fm.2])) = fun ps => bn (pBlock (lvIn 59)) fun b => bn (members n fs (ms ++ [D.tup [.s z, ps, b]])) fun fm => bn (want "}") fun _ => rt (D.tup [.s "class", .s x, el, .tup fm.1, .tup fm.2]) := by
            funext a
            rw [bn_assoc]
          rw [e] at y1
          exact y1
        walk_at "w"
        refine ⟨rd, Ts, last, q8, rfl, R9, G9.bind k9 fun ps qa Ha va kHa ka Ra ea Ga => ?_⟩
        walk_at "w"
        have ta := KeepF.tups R9 kHa
        have aa := KeepF.lst R9 kHa (s9 _ _ a8)
        have ba := KeepF.lst R9 kHa (s9 _ _ b8)
        refine ⟨.inl ⟨rfl, _, .of ba⟩, ?_⟩
        walk_at "w"
        refine ⟨rd, Ts, last, qa, rfl, Ra, Ga.bind ka fun b qb Hb vb kHb kb Rb eb Gb => ?_⟩
        walk_at "w"
        have tb := KeepF.tups Ra kHb
        have ab := KeepF.lst Ra kHb aa
        have bb := KeepF.lst Ra kHb ba
        refine ⟨by show 3 ≤ sizeLine; decide, fun p hp => ?_⟩
        walk_at "w"
        have sp := sameUpd (o := .tup [.str z, va, vb]) hp
        have bc := sp _ _ bb
        refine ⟨B, ws, _, rfl, rfl, bc, by omega, ?_⟩
        have tc := tup_updL (vs := ws ++ [.ref p]) bc
        have tt : ∀ pp xs, H8 pp = some (.tup xs) → _ := fun pp xs e => tc _ _ (sp _ _ (tb _ _ (ta _ _ (s9 pp _ e))))
        refine ⟨n, Nat.lt_succ_self _, us, ws ++ [.ref p], fs, ms ++ [.tup [.s z, ps, b]], qb, _, _, rfl, ?_, upd_same, hf8.mono tt, (hm8.mono tt).snoc (.ofs (tc _ _ upd_same) (.cons (.s _) (.cons (ea.mono fun _ _ e => tc _ _ (sp _ _ (tb _ _ e))) (.cons (eb.mono fun _ _ e => tc _ _ (sp _ _ e)) .nil)))), e8.mono tt, by rw [List.length_append, List.length_singleton]; omega, (Rb.same sp).updL hB0 hB1 bc _, keepF_updL (kb.trans (.same sp)) hBn, Gb⟩
        rw [upd_ne nAB]
        exact sp _ _ ab
      walk_at "w"
      refine w_lenL (.of b8) ?_
      walk_at "w"
      have hwl : ws.length = ms.length := hm8.1
      have hfl : us.length = fs.length := hf8.1
      by_cases hms : ms = []
      · subst hms
        rw [decide_eq_true (show ((ws.length : Nat) : Int) = 0 by rw [hwl]; rfl)]
        walk_at "w"
        refine w_rdS 0 rfl R8 (by decide +kernel) ?_
        walk_at "w"
        refine skips_ok (by decide +kernel) (by decide +kernel) R8 (fun H9 hc kH9 R9 => ?_) (fun H9 hc s9 R9 => ?_)
        · have G9 : Got K H rd Ts last 0 E (bn (members n (fs ++ [.s z]) []) (fun fm => bn (want "}") fun _ => rt (.tup [.s "class", .s x, el, .tup fm.1, .tup fm.2])) q8.tail) Q := by
            have y1 := G8
            rw [bn_congr (f' := members n (fs ++ [.s z]) []) (r' := q8.tail) (by rw [if_pos (by rw [hc]; rfl)])] at y1
            exact y1
          have a9 := KeepF.lst R8 kH9 a8
          have t9 := KeepF.tups R8 kH9
          walk_at "w"
          refine ⟨.inl ⟨rfl, _, .of a9⟩, ?_⟩
          walk_at "w"
          refine ⟨A, us, _, rfl, rfl, a9, by omega, ?_⟩
          have tc := tup_updL (vs := us ++ [.str z]) a9
          refine ⟨n, Nat.lt_succ_self _, us ++ [.str z], ws, fs ++ [.s z], [], q8.tail, _, _, rfl, upd_same, ?_, ((hf8.mono t9).mono tc).snoc (.s z), (hm8.mono t9).mono tc, (e8.mono t9).mono tc, by rw [List.length_append, List.length_singleton]; omega, R9.updL hA0 hA1 a9 _, keepF_updL (k8.trans kH9) hAn, G9⟩
          rw [upd_ne nAB.symm]
          exact KeepF.lst R8 kH9 b8
        · walk_at "w1"
          walk_at "w1"
          exact meth H9 _ _ _ (by rw [hc]; rfl) s9
      · have hme : ms.isEmpty = false := by
          cases ms with
          | nil => exact absurd rfl hms
          | cons a b => rfl
        rw [decide_eq_false (show ¬ ((ws.length : Nat) : Int) = 0 from fun z => hms (List.eq_nil_of_length_eq_zero (by omega)))]
        walk_at "w1"
        walk_at "w1"
        exact meth H8 _ _ _ (by rw [hme]; rfl) (.refl _)
end
end FE
namespace L2
open PySem PySem.Spec PyProof.Rows
/-- C(e, ..), whose __init__ may raise -/
def tMakeS (C : Addr) (sp : Sp) (W : WX) (t : TA) : TE := fun σ H Q => t σ H fun vs H1 => ∀ x dx, H1 x = none → H1 dx = none → dx ≠ x → sp (.ref x :: vs) (upd (upd H1 dx (.own x)) x (.ins C dx [])) (fun v H2 => v = .non ∧ Q (.ref x) H2) (WE W σ)
section
variable {X : Cx} {n k : Nat} {C f : Addr} {fd : FuncData} {ps : List Str} {sp : Sp} {x : Str} {p pos pos' : Pos} {e o value : Expr} {es : List Expr} {t : TA} {W : WX} {tv ta : TE} {g : Str}
theorem pen_makeS (M : Mk X.K C f) (F : FnN n X.prog X.w X.K X.mg X.base (L2.CX X.prog X.w) k f fd ps sp) (hr : Room (k + 1) X.A) (hg : Gl X x) (hm : X.mg x = some (.ref C)) (hb : Binds X.K fd ps []) (tk : Takes X W) (ha : PAn n X (e :: es) t)
    (hdb : (x == ("__debug__" : Str)) = false := by decide) (he : starEach (e :: es) X.env = (false, eval e X.env) :: starEach es X.env := by rfl) (hpl : (backTo pos (starEach es X.env)).any (·.1) = false := by rfl) :
    PEn n X (.Call (.Name x p) (e :: es) [] pos) (tMakeS C sp W t) := by
  intro pins s σ H Q hn I h
  refine wpAny_Call_Name_kw (ld_glob I hg hm ?_ hdb)
  refine PySem.W.callWith_K (h₀ := X.base) I.ok.mod.kin M.kp (thnN hn (ha pos pins s σ H _ hn I h) fun us s1 k1 z => ?_) he hpl
  obtain ⟨vs, H1, I1, r, q⟩ := z
  refine ⟨I1.kIn, ?_⟩
  have hq := q (s1.heap.objs.size + 1) s1.heap.objs.size (I1.hok.fresh (Nat.le_succ _)) (I1.hok.fresh (Nat.le_refl _)) (Nat.ne_of_lt (Nat.lt_succ_self _))
  have I2 := Inv.made (C := C) I1
  have r2 : Vals (V.ref (s1.heap.objs.size + 1) :: vs) (Value.ref (s1.heap.objs.size + 1) :: us) := .cons rfl r
  have hl : (Value.ref (s1.heap.objs.size + 1) :: us).length = ps.length := by
    have e := r2.length
    rw [F.len _ _ _ _ hq] at e
    exact e.symm
  have b := hb _ (Value.ref (s1.heap.objs.size + 1) :: us) I2.kIn (by rw [List.append_nil]; exact hl)
  rw [List.append_nil] at b
  refine wpAny_call (make_map (f := f) I1.kIn M.makes M.init (beq_iff_eq.mp M.fn) (codeAny_mono (F.run _ X.stack _ _ ⟨Value.ref (s1.heap.objs.size + 1) :: us, []⟩ (Value.ref (s1.heap.objs.size + 1) :: us) _ _ (WE W σ) k1 (hr.make C us [])
    (I2.env0.make C us []) b r2 hq) fun r s' hq' => ?_))
  cases r with
  | error e => exact passAt tk σ pins _ _ e s' I2 hq'
  | ok fl =>
    cases fl with
    | ret u =>
      obtain ⟨v, H', I3, rv, ev, q3⟩ := I2.after hq'
      subst ev
      exact ⟨rv, ⟨V.ref (s1.heap.objs.size + 1), H', I3, rfl, q3⟩⟩
    | next => exact False.elim hq'
    | brk => exact False.elim hq'
    | cont => exact False.elim hq'
theorem psn_fld (hv : PEn n X value tv) (ha : PE X o ta) (hs : swapsWith value (some (.Attribute o g pos')) pos.line X.env = pure false := by rfl) : PSn n X (.Assign [.Attribute o g pos'] value pos) (sFld X.K ta tv g) := by
  intro pins s σ H D hn I h
  refine plainObj_wpAny_Assign_Attribute (thn (hv pins s σ H _ hn I h) fun u s1 ⟨y, H1, I1, ry, q⟩ => thn (ha.run pins s1 σ H1 _ I1 q) fun ov s2 ⟨x, H2, I2, rx, a, C, dx, fs, ex, ea, c, n, l, q2⟩ => ?_) hs
  subst ex
  obtain rfl : ov = Value.ref a := rx
  exact setattr_ok I2 ea c n l ry fun s3 I3 => ⟨σ, _, I3, q2⟩
end
end L2
namespace FE
open PySem L2 K01
abbrev s_Reader_init : Stmt := inClass (top 43) 0
abbrev N_Reader_init : List Str := ["self", "text"]
abbrev P_Reader_init : List Str := ["self", "text"]
theorem sc_Reader_init : FnScope N_Reader_init P_Reader_init (defScope s_Reader_init) := ⟨rfl, rfl, rfl, by decide +kernel, rfl, by decide +kernel, by decide +kernel⟩
def nl (t : List Nat) : Int := ((t.count 10 : Nat) : Int)
theorem nl_app (a b : List Nat) : nl (a ++ b) = nl a + nl b := by
  unfold nl
  rw [List.count_append]
  omega
theorem count_nl : ∀ t : List Nat, Txt.count (Sg t) "\n" = nl t := by
  intro t
  rw [show ("\n" : Str) = ⟨#[10]⟩ from rfl, PyProof.Rows.count_cnt]
  show PyProof.Rows.cnt 10 t = nl t
  induction t with
  | nil => rfl
  | cons c r ih =>
    rw [PyProof.Rows.cnt_cons, ih]
    unfold nl
    rw [List.count_cons]
    by_cases h : c = 10
    · subst h
      simp
      omega
    · have : ¬ (c == 10) = true := by simpa using h
      simp [h]
theorem key_mem {w : List Nat} (h : keyB w = true) : Sg w ∈ KEYS := by
  unfold keyB inV at h
  rw [List.any_eq_true] at h
  obtain ⟨y, hy, e⟩ := h
  obtain ⟨z, hz, rfl⟩ := List.mem_map.mp hy
  have e2 : z = Sg w := beq_iff_eq.mp (show (z == Sg w) = true from e)
  rw [← e2]
  exact hz
theorem wordAt_tok {u : List Nat} {s : Str} {v : V} {k : Nat} {l : Int} (h : wordAt u = some (s, v, k)) : TokOk ⟨s, v, l⟩ := by
  unfold wordAt at h
  split at h
  · split at h
    · cases h
    · split at h
      · obtain ⟨j, _, e⟩ := Option.map_eq_some_iff.mp h
        cases e
        exact .inr (.inr (.inr (.inl ⟨rfl, _, rfl⟩)))
      · split at h
        · cases h
          exact .inr (.inl ⟨rfl, _, rfl⟩)
        · split at h
          · cases h
            exact .inr (.inl ⟨rfl, _, rfl⟩)
          · cases h
  · obtain ⟨p, h1, e⟩ := Option.map_eq_some_iff.mp h
    cases e
    unfold stretchTok at h1
    split at h1
    · cases h1
      exact .inl ⟨rfl, _, key_mem ‹_›, rfl⟩
    · split at h1
      · cases h1
        exact .inr (.inr (.inl ⟨rfl, _, rfl⟩))
      · split at h1
        · cases h1
          exact .inr (.inr (.inr (.inr ⟨rfl, _, rfl⟩)))
        · cases h1
theorem lex_toks {t : List Nat} {l : Int} {r : Res} (h : Lex t l r) : ∀ ks, r = .ok ks → ks.length ≤ t.length ∧ ∀ k ∈ ks, TokOk k := by
  induction h with
  | nil =>
    intro ks e
    cases e
    exact ⟨Nat.le_refl _, fun k h => nomatch h⟩
  | note h k ih =>
    intro ks e
    obtain ⟨h1, h2⟩ := ih ks e
    rw [List.length_drop] at h1
    exact ⟨by omega, h2⟩
  | noteBad h => exact fun _ e => nomatch e
  | blank k ih =>
    intro ks e
    obtain ⟨h1, h2⟩ := ih ks e
    exact ⟨by rw [List.length_cons]; omega, h2⟩
  | line k ih =>
    intro ks e
    obtain ⟨h1, h2⟩ := ih ks e
    exact ⟨by rw [List.length_cons]; omega, h2⟩
  | bad => exact fun _ e => nomatch e
  | @tok c u l s v k r h1 h2 h3 h n ih =>
    intro ks e
    cases r with
    | error z => cases e
    | ok ks' =>
      cases e
      obtain ⟨i1, i2⟩ := ih ks' rfl
      rw [List.length_drop] at i1
      have := wordAt_pos h
      have := wordAt_le h
      refine ⟨by rw [List.length_cons]; omega, fun x hx => ?_⟩
      rcases List.mem_cons.mp hx with rfl | hx
      · exact wordAt_tok h
      · exact i2 x hx
def spInit (K : PySem.W.Frag) : Sp := fun vs H Q E => ∃ x dx t r, vs = [.ref x, .str (Sg t)] ∧ H x = some (.ins (He.ga K "Reader") dx []) ∧ t.length ≤ big ∧ Lex t 1 r ∧ match r with
  | .ok ks => ∀ W H', KeepF x H H' → Rdr K H' x ⟨W, ks⟩ (1 + nl t) ks 0 → Q .non H'
  | .error l => ∀ H', Same H H' → Bads K E H' l
section
variable {P : Program} {w : World} {K : PySem.W.Frag} {mg : Str → Option Value} {base : Heap} {n : Nat}
theorem ok_Reader_init (T : Txr P w K mg) {f : Addr} {fd : FuncData} (F : FnM K "__init__" "Reader.__init__" s_Reader_init f fd) (D_words : CalN n P w K mg base (L2.CX P w) 4 "words" P_words (spWords K)) : FnN n P w K mg base (L2.CX P w) 6 f fd P_Reader_init (spInit K) := by
  refine F.okN sc_Reader_init (fun vs H Q E h => ?_) (fun cdv A outer s H vs Q E hr h => ?_)
  · obtain ⟨x, dx, t, r, rfl, _⟩ := h
    rfl
  · obtain ⟨x, dx, t, r, rfl, hx, hz, hL, q⟩ := h
    refine ⟨_, pssn_cons (psn_fld (pen_calS D_words hr rfl rfl (takes_of rfl rfl rfl rfl) (pan_of (pa_cons (pv 1) pa_nil))) (pv 0)) (pssn_of (pss_cons (ps_fld (pv 0) (pe_op op_add pe_int (pe_bm PySem.F.plainAttrs_str PySem.F.slot_str_count PySem.F.type_str_count mt_countN (pv 1) (pa_cons pe_str pa_nil))) rfl) (pss_cons (ps_fld (pv 0) pe_int rfl) (pss_one (ps_fld (pv 0) pe_int rfl))))), ?_⟩
    unfold sFld
    walk_at "w"
    refine .inr ⟨t, r, rfl, hz, hL, fun H1 s1 => ?_⟩
    cases r with
    | error l => exact q H1 s1
    | ok ks =>
      intro W hW hT
      obtain ⟨us, hu, tu⟩ := hT
      have lt5 : ∀ {fs : List (Str × V)}, fs.length ≤ 4 → fs.length < 1000 := fun h => Nat.lt_of_le_of_lt h (by decide)
      have xW : W ≠ x := (ne_of_none hx hW).symm
      walk_at "w"
      refine ⟨x, _, dx, _, rfl, s1 _ _ hx, T.c_Reader, T.n_words, lt5 (by show 0 ≤ 4; omega), ?_⟩
      walk_at "w"
      refine ⟨rfl, ?_⟩
      walk_at "w"
      refine ⟨Sg t, "\n", rfl, rfl, ?_⟩
      rw [count_nl]
      walk_at "w"
      refine ⟨x, _, dx, _, rfl, upd_same, T.c_Reader, T.n_last, lt5 (by show 1 ≤ 4; omega), ?_⟩
      walk_at "w"
      refine ⟨x, _, dx, _, rfl, upd_same, T.c_Reader, T.n_at, lt5 (by show 2 ≤ 4; omega), ?_⟩
      walk_at "w"
      refine ⟨x, _, dx, _, rfl, upd_same, T.c_Reader, T.n_open, lt5 (by show 3 ≤ 4; omega), ?_⟩
      obtain ⟨l1, l2⟩ := lex_toks hL ks rfl
      refine q W _ (fun a u h e => ?_) ⟨dx, us, 0, upd_same, ?_, tu.mono fun p xs e => ?_, rfl, Nat.zero_le _, by show ks.length ≤ big; omega, l2⟩
      · rw [upd_ne h, upd_ne h, upd_ne h, upd_ne h]
        exact s1 _ _ e
      · rw [upd_ne xW, upd_ne xW, upd_ne xW, upd_ne xW]
        exact hu
      · have h : p ≠ x := ne_of e (s1 _ _ hx) (by intro z; cases z)
        rw [upd_ne h, upd_ne h, upd_ne h, upd_ne h]
        exact e
end
end FE
namespace FE
open PySem L2 K01
section
variable {P : Program} {w : World} {K : PySem.W.Frag} {mg : Str → Option Value} {base : Heap} {m m1 : Nat}
theorem ok_read_item (T : Txr P w K mg) {f : Addr} {fd : FuncData} (F : FnP K "read_item" s_read_item f fd) (RM : RdM P w K mg base) (D_read_class : CalQ P w K mg base (L2.CX P w) (m + 8) "read_class" P_read_class (spP K 0 pClass))
    (D_read_params : CalQ P w K mg base (L2.CX P w) (m + 1) "read_params" P_read_params (spP K 0 (pParams (lvIn 60)))) (D_read_block : CalQ P w K mg base (L2.CX P w) (m + 1) "read_block" P_read_block (spP K 0 (pBlock (lvIn 60)))) (D_read_statement : CalQ P w K mg base (L2.CX P w) (m + 7) "read_statement" P_read_statement (spP K 0 (pSt (lvIn 60)))) :
    FnQ P w K mg base (L2.CX P w) (m + 9) f fd P_read_item (spP K 0 pItem) := by
  obtain ⟨D_Reader_is_more, D_Reader_sort_at, D_Reader_is_ahead, D_Reader_ahead_of, D_Reader_bind_ahead, D_Reader_wrong, D_Reader_take, D_Reader_want, D_Reader_want_name, D_Reader_skips⟩ := RM
  refine F.okQ sc_read_item (fun vs H Q E h => ?_) (fun cdv A outer s H vs Q E hr h => ?_)
  · obtain ⟨rd, T, last, r, rfl, _⟩ := h
    rfl
  · obtain ⟨rd, Ts, last, r, rfl, hR, G⟩ := h
    refine ⟨_, (pss_cons (ps_if (pt_val (pe_met (pv 0) D_Reader_is_ahead hr.room rfl pass0 (pa_cons pe_str pa_nil))) (pss_one (ps_ret (pe_calQS D_read_class hr (by omega) rfl (takes_of rfl rfl rfl rfl) (pa_cons (pv 0) pa_nil)))) pss_nil)
  (pss_cons (ps_if (PW.pt (pw_and (pt_val (pe_met (pv 0) D_Reader_is_ahead hr.room rfl pass0 (pa_cons pe_str pa_nil))) (pw_and1 (pt_cmpR op_eq (pe_met (pv 0) D_Reader_sort_at hr.room rfl pass0 (pa_cons pe_int pa_nil)) pe_str (nomark _))))) (pss_cons (ps_expr (pe_metS (pv 0) D_Reader_want hr.room rfl (takes_of rfl rfl rfl rfl) (pa_cons pe_str pa_nil)))
  (pss_cons (ps_set (i := 1) sc_read_item.nd rfl (Or.inl rfl) (pe_metS0 (pv 0) D_Reader_want_name hr.room rfl (takes_of rfl rfl rfl rfl)))
  (pss_cons (ps_set (i := 2) sc_read_item.nd rfl (Or.inl rfl) (pe_calQS D_read_params hr (by omega) rfl (takes_of rfl rfl rfl rfl) (pa_cons (pv 0) pa_nil)))
  (pss_one (ps_ret (pe_tup (pa_cons pe_str (pa_cons (pv 1) (pa_cons (pv 2) (pa_cons (pe_calQS D_read_block hr (by omega) rfl (takes_of rfl rfl rfl rfl) (pa_cons (pv 0) pa_nil)) pa_nil)))))))))) pss_nil)
  (pss_one (ps_ret (pe_calQS D_read_statement hr (by omega) rfl (takes_of rfl rfl rfl rfl) (pa_cons (pv 0) pa_nil)))))), ?_⟩
    unfold pItem at G
    walk_at "w"
    refine w_rd 0 rfl hR (by decide +kernel) ?_
    walk_at "w"
    refine w_spIsAhead hR fun H1 s1 R1 => ?_
    have k1 : KeepF rd H H1 := .same s1
    cases hA : isAhead "class" r with
    | true =>
      rw [hA, if_pos rfl] at G
      walk_at "w"
      exact ⟨rd, Ts, last, r, rfl, R1, G.to k1 fun d q H' v _ _ _ _ z => z⟩
    | false =>
    rw [hA, if_neg Bool.false_ne_true] at G
    walk_at "w"
    refine w_rd 0 rfl R1 (by decide +kernel) ?_
    walk_at "w"
    refine w_spIsAhead R1 fun H2 s2 R2 => ?_
    have k2 := k1.trans (.same s2)
    have els : (isAhead "fun" r && decide (sortAt 1 r = .str "name")) = false → spP K 0 (pSt (lvIn 60)) [.ref rd] H2 Q E := fun h => by
      rw [h, if_neg Bool.false_ne_true] at G
      exact ⟨rd, Ts, last, r, rfl, R2, G.to k2 fun d q H' v _ _ _ _ z => z⟩
    cases hB : isAhead "fun" r with
    | false =>
      walk_at "w1"
      walk_at "w1"
      refine w_next ?_
      walk_at "w"
      exact els (by rw [hB]; rfl)
    | true =>
      walk_at "w"
      refine w_rd 0 rfl R2 (by decide +kernel) ?_
      walk_at "w"
      refine ⟨rd, Ts, last, r, 0, 1, rfl, R2, ?_⟩
      walk_at "w"
      refine w_eq ?_ ?_
      · unfold sortAt
        cases r[1]? <;> rfl
      by_cases hC : sortAt 1 r = .str "name"
      · rw [hB, decide_eq_true hC, if_pos (show (true && true) = true from rfl)] at G
        rw [decide_eq_true hC]
        walk_at "w"
        refine w_rdS 0 rfl R2 (by decide +kernel) ?_
        walk_at "w"
        refine want_ok (by decide +kernel) (by decide +kernel) R2 k2 G fun H3 _ kH3 k3 R3 G3 => ?_
        walk_at "w"
        refine w_rdS 0 rfl R3 (by decide +kernel) ?_
        walk_at "w"
        refine name_ok R3 k3 G3 fun H4 x q4 kH4 k4 R4 G4 => ?_
        walk_at "w"
        refine ⟨rd, Ts, last, q4, rfl, R4, G4.bind k4 fun ps q5 H5 v5 kH5 k5 R5 e5 G5 => ?_⟩
        walk_at "w"
        refine ⟨rd, Ts, last, q5, rfl, R5, G5.bind k5 fun b q6 H6 v6 kH6 k6 R6 e6 G6 => ?_⟩
        walk_at "w"
        refine ⟨by show 4 ≤ sizeLine; decide, fun p9 hp9 => ?_⟩
        have sp := sameUpd (o := .tup [.str "function", .str x, v5, v6]) hp9
        exact G6.fin (k6.trans (.same sp)) (R6.same sp) (.ofs upd_same (.cons (.s _) (.cons (.s _) (.cons ((e5.mono (KeepF.tups R5 kH6)).same sp) (.cons (e6.same sp) .nil)))))
      · rw [decide_eq_false hC]
        walk_at "w1"
        walk_at "w1"
        refine w_next ?_
        walk_at "w"
        exact els (by rw [decide_eq_false hC, Bool.and_false])
/-- a def as it stands behind the top -/
def Fx (K : PySem.W.Frag) (mg : Str → Option Value) (x : Str) (st : Stmt) (ps : List Str) : Prop := ∃ (f : Addr) (fd : FuncData), FnP K x st f fd ∧ mg x = some (.ref f) ∧ PySem.W.keepIn K (.ref f) = true ∧ Binds K fd ps []
theorem Fx.q {x : Str} {st : Stmt} {ps : List Str} {CX : CXT} {sp : Sp} (h : Fx K mg x st ps) (ok : ∀ {f : Addr} {fd : FuncData}, FnP K x st f fd → FnQ P w K mg base CX m f fd ps sp) : CalQ P w K mg base CX m x ps sp := by
  obtain ⟨f, fd, F, h1, h2, h3⟩ := h
  exact ⟨f, fd, ok F, h1, h2, h3⟩
theorem Fx.k {x : Str} {st : Stmt} {ps : List Str} {CX : CXT} {sp : Sp} {k : Nat} (h : Fx K mg x st ps) (ok : ∀ {f : Addr} {fd : FuncData}, FnP K x st f fd → FnOk P w K mg base CX k f fd ps sp) : Cal P w K mg base CX k x ps sp := by
  obtain ⟨f, fd, F, h1, h2, h3⟩ := h
  exact ⟨f, fd, ok F, h1, h2, h3⟩
/-- the reading defs -/
structure RdF (K : PySem.W.Frag) (mg : Str → Option Value) : Prop where
  args : Fx K mg "read_args" s_read_args P_read_args
  params : Fx K mg "read_params" s_read_params P_read_params
  block : Fx K mg "read_block" s_read_block P_read_block
  ask : Fx K mg "read_ask" s_read_ask P_read_ask
  keyed : Fx K mg "read_keyed" s_read_keyed P_read_keyed
  first : Fx K mg "read_first" s_read_first P_read_first
  message : Fx K mg "read_message" s_read_message P_read_message
  behind : Fx K mg "read_behind" s_read_behind P_read_behind
  put : Fx K mg "put_together" s_put_together P_put_together
  ahead : Fx K mg "read_ahead" s_read_ahead P_read_ahead
  e : Fx K mg "read_e" s_read_e P_read_e
  plain : Fx K mg "read_plain" s_read_plain P_read_plain
  short : Fx K mg "read_short" s_read_short P_read_short
  st : Fx K mg "read_statement" s_read_statement P_read_statement
  cls : Fx K mg "read_class" s_read_class P_read_class
  item : Fx K mg "read_item" s_read_item P_read_item
/-- the reading defs at a depth -/
structure Lev (P : Program) (w : World) (K : PySem.W.Frag) (mg : Str → Option Value) (base : Heap) (m : Nat) (o : Int) (I : Option Ps) : Prop where
  e : CalQ P w K mg base (L2.CX P w) (m + 5) "read_e" P_read_e (spP K o (pE I))
  st : CalQ P w K mg base (L2.CX P w) (m + 7) "read_statement" P_read_statement (spP K o (pSt I))
  params : CalQ P w K mg base (L2.CX P w) (m + 1) "read_params" P_read_params (spP K o (pParams I))
  block : CalQ P w K mg base (L2.CX P w) (m + 1) "read_block" P_read_block (spP K o (pBlock I))
theorem lev {o : Int} {I : Option Ps} (hI : OpI I o) (hS : Shr (pBehind I)) (hN : Nd (pE I)) (T : Txr P w K mg) (RF : RdF K mg) (RM : RdM P w K mg base) (De : CalQ P w K mg base (L2.CX P w) m "read_e" P_read_e (spI K o I Ps.e)) (Ds : CalQ P w K mg base (L2.CX P w) m "read_statement" P_read_statement (spI K o I Ps.st)) : Lev P w K mg base m o I := by
  have a := RF.args.q (m := m + 1) fun F => ok_read_args (base := base) hI T F RM De
  have p := RF.params.q (m := m + 1) fun F => ok_read_params (base := base) (m := m) hI T F RM
  have b := RF.block.q (m := m + 1) fun F => ok_read_block (base := base) hI T F RM Ds
  have k := RF.ask.q (m := m + 1) fun F => ok_read_ask (base := base) hI T F RM De
  have ky := RF.keyed.q (m := m + 2) fun F => ok_read_keyed (base := base) hI T F RM De k a p b
  have fi := RF.first.q (m := m + 3) fun F => ok_read_first (base := base) T F RM ky
  have me := RF.message.q (m := m + 2) fun F => ok_read_message (base := base) T F RM a
  have be := RF.behind.q (m := m + 4) fun F => ok_read_behind (base := base) hI T F RM De a fi me
  have pu := RF.put.k (k := 1) fun F => ok_put_together (P := P) (w := w) (mg := mg) (base := base) F
  have ah := RF.ahead.q (m := m + 1) fun F => ok_read_ahead (base := base) (m := m) (o := o) T F RM
  have e := RF.e.q (m := m + 5) fun F => ok_read_e (base := base) hS T F RM pu ah be
  have pl := RF.plain.q (m := m + 6) fun F => ok_read_plain (base := base) hN T F RM e
  have sh := RF.short.q (m := m + 6) fun F => ok_read_short (base := base) T F RM e
  have st := RF.st.q (m := m + 7) fun F => ok_read_statement (base := base) T F RM e b sh pl
  exact ⟨e, st, p, b⟩
theorem levs (hS : ∀ d, Shr (pBehind (lvIn d))) (hN : ∀ d, Nd (pE (lvIn d))) (T : Txr P w K mg) (RF : RdF K mg) (RM : RdM P w K mg base) : ∀ d : Nat, d ≤ 60 → Lev P w K mg base (7 * d) (60 - (d : Int)) (lvIn d)
  | 0, _ => lev (opI_lvl (Nat.zero_le _)) (hS 0) (hN 0) T RF RM (RF.e.q fun _ => FnQ.none fun vs H Q E h => by obtain ⟨ps, e, _⟩ := h; cases e) (RF.st.q fun _ => FnQ.none fun vs H Q E h => by obtain ⟨ps, e, _⟩ := h; cases e)
  | d + 1, h => by
    have L := levs hS hN T RF RM d (Nat.le_of_succ_le h)
    have e : (60 - ((d + 1 : Nat) : Int)) + 1 = 60 - (d : Int) := by omega
    refine lev (opI_lvl h) (hS _) (hN _) T RF RM ?_ ?_
    · obtain ⟨f, fd, F, h1, h2, h3⟩ := L.e
      refine ⟨f, fd, (F.imp fun vs H Q E z => ?_).mono (by omega), h1, h2, h3⟩
      obtain ⟨ps, eq, z⟩ := z
      cases eq
      rw [e, lvl_eq] at z
      exact z
    · obtain ⟨f, fd, F, h1, h2, h3⟩ := L.st
      refine ⟨f, fd, (F.imp fun vs H Q E z => ?_).mono (by omega), h1, h2, h3⟩
      obtain ⟨ps, eq, z⟩ := z
      cases eq
      rw [e, lvl_eq] at z
      exact z
/-- the reading of an item, as a def of a level -/
theorem item (hS : ∀ d, Shr (pBehind (lvIn d))) (hN : ∀ d, Nd (pE (lvIn d))) (T : Txr P w K mg) (RF : RdF K mg) (RM : RdM P w K mg base) : Cal P w K mg base (L2.CX P w) 180 "read_item" P_read_item (spP K 0 pItem) := by
  have L := levs (base := base) hS hN T RF RM 60 (Nat.le_refl _)
  have L1 := levs (base := base) hS hN T RF RM 59 (by omega)
  have c := RF.cls.q (m := 420 + 8) fun F => ok_read_class (base := base) (m1 := 7 * 59 + 1) (by omega) T F RM L1.params L1.block
  obtain ⟨f, fd, F, h1, h2, h3⟩ := RF.item.q (m := 420 + 9) fun F => ok_read_item (base := base) T F RM c L.params L.block L.st
  exact ⟨f, fd, F.ok (by omega) (by omega), h1, h2, h3⟩
end
end FE
namespace L2
open PySem PySem.Spec PyProof.Rows
theorem op_in_kdE {X : Cx} {d : Addr} (D : ∃ es n, KDict X.K X.w d es n) : OpR X (compareOp .In) (fun x y H Q => ∃ (z : Str) (r : Option Value), x = .str z ∧ y = .ref d ∧ PySem.W.nsIn X.K d z = some r ∧ Q (.bl r.isSome) H) := by
  obtain ⟨es, n, D⟩ := D
  exact op_in_kd D
theorem cut1 (x : V) (xs : List V) : cutV (x :: xs) (some 1) none = xs := by
  unfold cutV
  simp [HT.sIx]
theorem w_zip {K : PySem.W.Frag} {ta : TA} {σ : L2.St} {H : Hp} {R : It → Hp → Prop} (q : ta σ H fun vs H1 => ∃ a b xs ys, vs = [.ref a, .ref b] ∧ ((SqL K H1 a xs ∧ SqL K H1 b ys ∧ R (Itz K a b) H1) ∨ (SqT K H1 a xs ∧ SqT K H1 b ys ∧ R (RZ.ItzT K a b) H1))) : RZ.iZipA K ta σ H R := q
theorem w_g2 {K : PySem.W.Frag} {n i j : Nat} {T : Addr} {x y : V} {σ : L2.St} {H : Hp} {Q : L2.St → Hp → Prop} (hn : 2 = n) (h : SqT K H T [x, y]) (q : gName i x σ H fun σ1 H1 => gName j y σ1 H1 Q) : gTup K n (gCons (gName i) (gCons (gName j) gNil)) (.ref T) σ H Q :=
  ⟨T, _, rfl, h, hn, _, _, rfl, ⟨_, _, rfl, ⟨rfl, q⟩⟩⟩
theorem w_g3 {K : PySem.W.Frag} {n i j k : Nat} {T : Addr} {x y z : V} {σ : L2.St} {H : Hp} {Q : L2.St → Hp → Prop} (hn : 3 = n) (h : SqT K H T [x, y, z]) (q : gName i x σ H fun σ1 H1 => gName j y σ1 H1 fun σ2 H2 => gName k z σ2 H2 Q) : gTup K n (gCons (gName i) (gCons (gName j) (gCons (gName k) gNil))) (.ref T) σ H Q :=
  ⟨T, _, rfl, h, hn, _, _, rfl, ⟨_, _, rfl, ⟨_, _, rfl, ⟨rfl, q⟩⟩⟩⟩
end L2
namespace FE
open PySem L2 K01 RZ
abbrev s_parts_of : Stmt := top 32
abbrev N_parts_of : List Str := ["node"]
abbrev P_parts_of : List Str := ["node"]
theorem sc_parts_of : FnScope N_parts_of P_parts_of (defScope s_parts_of) := ⟨rfl, rfl, rfl, by decide +kernel, rfl, by decide +kernel, by decide +kernel⟩
abbrev s_within : Stmt := top 33
abbrev N_within : List Str := ["node", "found", "part", "thing", "one"]
abbrev P_within : List Str := ["node"]
theorem sc_within : FnScope N_within P_within (defScope s_within) := ⟨rfl, rfl, rfl, by decide +kernel, rfl, by decide +kernel, by decide +kernel⟩
abbrev s_statements_of : Stmt := top 34
abbrev N_statements_of : List Str := ["item", "found", "name", "params", "block"]
abbrev P_statements_of : List Str := ["item"]
theorem sc_statements_of : FnScope N_statements_of P_statements_of (defScope s_statements_of) := ⟨rfl, rfl, rfl, by decide +kernel, rfl, by decide +kernel, by decide +kernel⟩
abbrev s_first_layer : Stmt := top 35
abbrev N_first_layer : List Str := ["program", "found", "item", "one"]
abbrev P_first_layer : List Str := ["program"]
theorem sc_first_layer : FnScope N_first_layer P_first_layer (defScope s_first_layer) := ⟨rfl, rfl, rfl, by decide +kernel, rfl, by decide +kernel, by decide +kernel⟩
abbrev s_next_layer : Stmt := top 36
abbrev N_next_layer : List Str := ["layer", "found", "is_statement", "node"]
abbrev P_next_layer : List Str := ["layer"]
theorem sc_next_layer : FnScope N_next_layer P_next_layer (defScope s_next_layer) := ⟨rfl, rfl, rfl, by decide +kernel, rfl, by decide +kernel, by decide +kernel⟩
abbrev s_raw_depth : Stmt := top 37
abbrev N_raw_depth : List Str := ["program", "most", "found", "layer"]
abbrev P_raw_depth : List Str := ["program", "most"]
theorem sc_raw_depth : FnScope N_raw_depth P_raw_depth (defScope s_raw_depth) := ⟨rfl, rfl, rfl, by decide +kernel, rfl, by decide +kernel, by decide +kernel⟩
def STP : List (Str × List Str) := [("var", ["name", "e"]), ("do", ["e"]), ("set", ["place", "e"]), ("if", ["e", "block", "block"]), ("while", ["e", "block"]), ("break", []), ("continue", []), ("return", ["e"]), ("throw", ["e"]), ("try", ["block", "name", "block"]), ("say", ["e"])]
def EXP : List (Str × List Str) := [("number", ["number"]), ("text", ["text"]), ("true", []), ("false", []), ("nil", []), ("this", []), ("name", ["name"]), ("list", ["args"]), ("fun", ["params", "block"]), ("call", ["e", "args"]), ("send", ["e", "name", "args"]), ("up", ["name", "args"]), ("new", ["name", "args"]), ("field", ["e", "name"]), ("item", ["e", "e"]), ("not", ["e"]), ("minus", ["e"]), ("ask", ["key", "args"]), ("or", ["e", "e"]), ("and", ["e", "e"]), ("==", ["e", "e"]), ("!=", ["e", "e"]), ("<", ["e", "e"]), ("<=", ["e", "e"]), (">", ["e", "e"]), (">=", ["e", "e"]), ("+", ["e", "e"]), ("-", ["e", "e"]), ("*", ["e", "e"]), ("/", ["e", "e"]), ("mod", ["e", "e"])]
/-- z stands for the parts ps -/
def Parts (z : Str) (ps : List Str) : Prop := (z, ps) ∈ STP ∨ (z, ps) ∈ EXP
structure Txf (P : Program) (w : World) (K : PySem.W.Frag) (mg : Str → Option Value) : Prop where
  f_zip : mg "zip" = none
  f_list : mg "list" = none
  f_len : mg "len" = none
  g_STATEMENTS : mg "STATEMENTS" = some (.ref (He.ga K "STATEMENTS"))
  d_STATEMENTS : ∃ es n, KDict K w (He.ga K "STATEMENTS") es n
  v_STATEMENTS : ∀ z ps, (z, ps) ∈ STP → ∃ A, PySem.W.nsIn K (He.ga K "STATEMENTS") z = some (some (.ref A)) ∧ ∀ H, SqT K H A (ps.map V.str)
  n_STATEMENTS : ∀ z ps, (z, ps) ∈ EXP → PySem.W.nsIn K (He.ga K "STATEMENTS") z = some none
  g_EXPRESSIONS : mg "EXPRESSIONS" = some (.ref (He.ga K "EXPRESSIONS"))
  d_EXPRESSIONS : ∃ es n, KDict K w (He.ga K "EXPRESSIONS") es n
  v_EXPRESSIONS : ∀ z ps, (z, ps) ∈ EXP → ∃ A, PySem.W.nsIn K (He.ga K "EXPRESSIONS") z = some (some (.ref A)) ∧ ∀ H, SqT K H A (ps.map V.str)
def spParts (K : PySem.W.Frag) : Sp := fun vs H Q _ => ∃ p z us ps, vs = [.ref p] ∧ H p = some (.tup (.str z :: us)) ∧ Parts z ps ∧ ∀ A, (∀ H, SqT K H A (ps.map V.str)) → Q (.ref A) H
section
variable {P : Program} {w : World} {K : PySem.W.Frag} {mg : Str → Option Value} {base : Heap} {m : Nat}
theorem ok_parts_of (T : Txf P w K mg) {f : Addr} {fd : FuncData} (F : FnP K "parts_of" s_parts_of f fd) : FnOk P w K mg base CX0 1 f fd P_parts_of (spParts K) := by
  refine F.ok sc_parts_of (fun vs H Q E h => ?_) (fun cdv A outer s H vs Q E hr h => ?_)
  · obtain ⟨p, z, us, ps, rfl, _⟩ := h
    rfl
  · obtain ⟨p, z, us, ps, rfl, hp, hP, q⟩ := h
    refine ⟨_, PSs.nox (pss_one (ps_ret (pe_ifExp (pt_cmpR (op_in_kdE T.d_STATEMENTS) (pe_ix ix_tup (pv 0) pe_int (fun _ _ => rfl)) (pe_gr T.g_STATEMENTS) (by rfl)) (pe_ix ix_kdict (pe_gr T.g_STATEMENTS) (pe_ix ix_tup (pv 0) pe_int (fun _ _ => rfl)) (fun _ _ => rfl)) (pe_ix ix_kdict (pe_gr T.g_EXPRESSIONS) (pe_ix ix_tup (pv 0) pe_int (fun _ _ => rfl)) (fun _ _ => rfl))))), ?_⟩
    walk_at "w"
    refine w_ixT (.of hp) (atI_nat (j := 0) rfl) ?_
    walk_at "w"
    by_cases hs : (z, ps) ∈ STP
    · obtain ⟨A, hA, tA⟩ := T.v_STATEMENTS z ps hs
      refine ⟨z, _, rfl, rfl, hA, ?_⟩
      walk_at "w"
      refine iteT ?_
      walk_at "w"
      refine w_ixT (.of hp) (atI_nat (j := 0) rfl) ?_
      obtain ⟨es, n, D⟩ := T.d_STATEMENTS
      exact ⟨_, z, .ref A, rfl, rfl, ⟨es, n, _, D.at_, D.lit, hA, rfl⟩, q A tA⟩
    · have he := hP.resolve_left hs
      obtain ⟨A, hA, tA⟩ := T.v_EXPRESSIONS z ps he
      refine ⟨z, _, rfl, rfl, T.n_STATEMENTS z ps he, ?_⟩
      walk_at "w"
      refine iteF ?_
      walk_at "w"
      refine w_ixT (.of hp) (atI_nat (j := 0) rfl) ?_
      obtain ⟨es, n, D⟩ := T.d_EXPRESSIONS
      exact ⟨_, z, .ref A, rfl, rfl, ⟨es, n, _, D.at_, D.lit, hA, rfl⟩, q A tA⟩
/-- things that stand for layers -/
inductive All2 (R : V → D → Prop) : List V → List D → Prop
  | nil : All2 R [] []
  | cons {u : V} {x : D} {us : List V} {xs : List D} : R u x → All2 R us xs → All2 R (u :: us) (x :: xs)
theorem All2.len {R : V → D → Prop} : ∀ {us : List V} {xs : List D}, All2 R us xs → us.length = xs.length
  | _, _, .nil => rfl
  | _, _, .cons _ t => by rw [List.length_cons, List.length_cons, t.len]
theorem All2.mono {R S : V → D → Prop} (h : ∀ u x, R u x → S u x) : ∀ {us : List V} {xs : List D}, All2 R us xs → All2 S us xs
  | _, _, .nil => .nil
  | _, _, .cons a t => .cons (h _ _ a) (t.mono h)
theorem All2.app {R : V → D → Prop} {vs : List V} {ys : List D} (h : All2 R vs ys) : ∀ {us : List V} {xs : List D}, All2 R us xs → All2 R (us ++ vs) (xs ++ ys)
  | _, _, .nil => h
  | _, _, .cons a t => .cons a (h.app t)
theorem All2.at_ {R : V → D → Prop} : ∀ {us : List V} {xs : List D}, All2 R us xs → ∀ {i : Nat} {u : V}, us[i]? = some u → ∃ x, xs[i]? = some x ∧ R u x
  | _, _, .nil, i, u, e => by cases e
  | _, _, .cons a t, 0, u, e => by cases e; exact ⟨_, rfl, a⟩
  | _, _, .cons a t, i + 1, u, e => t.at_ (i := i) e
theorem All2.take {R : V → D → Prop} : ∀ {us : List V} {xs : List D}, All2 R us xs → ∀ i, All2 R (us.take i) (xs.take i)
  | _, _, .nil, i => by rw [List.take_nil, List.take_nil]; exact .nil
  | _, _, .cons a t, 0 => .nil
  | _, _, .cons a t, i + 1 => .cons a (t.take i)
theorem Reps.all {H : Hp} : ∀ {us : List V} {xs : List D}, Reps H us xs → All2 (Rep H) us xs
  | [], [], _ => .nil
  | v :: us, y :: xs, t => .cons (t.2 0 v y rfl rfl) (Reps.all (us := us) (xs := xs) ⟨Nat.succ.inj t.1, fun i u x e e' => t.2 (i + 1) u x e e'⟩)
  | [], _ :: _, t => by cases t.1
  | _ :: _, [], t => by cases t.1
theorem kfU {L : Addr} {H H' : Hp} {o : HO} (k : KeepF L H H') : KeepF L H (upd H' L o) := fun a b h e => by
  rw [upd_ne h]
  exact k a b h e
/-- in a layer -/
def InL (H : Hp) (u : V) (d : D) : Prop := ∃ p b v, u = .ref p ∧ H p = some (.tup [.bl b, v]) ∧ Rep H v d
theorem InL.same {H H' : Hp} (s : Same H H') {u : V} {d : D} : InL H u d → InL H' u d := fun ⟨p, b, v, e, h, r⟩ => ⟨p, b, v, e, s _ _ h, r.same s⟩
theorem InL.mono {H H' : Hp} (s : ∀ p xs, H p = some (.tup xs) → H' p = some (.tup xs)) {u : V} {d : D} : InL H u d → InL H' u d := fun ⟨p, b, v, e, h, r⟩ => ⟨p, b, v, e, s _ _ h, r.mono s⟩
mutual
def sz : D → Nat
  | .tup xs => 1 + szs xs
  | .s _ => 0
  | .i _ => 0
  | .non => 0
def szs : List D → Nat
  | [] => 0
  | x :: xs => sz x + szs xs
end
def okParts : List Str → List D → Bool
  | [], [] => true
  | p :: ps, a :: as => (if p = "args" ∨ p = "block" then (match a with | .tup _ => true | _ => false) else if p = "e" ∨ p = "place" then true else decide (sz a ≤ 1)) && okParts ps as
  | _, _ => false
def kid (p : Str) (a : D) : List D := if p = "e" ∨ p = "place" then [a] else if p = "args" ∨ p = "block" then (match a with | .tup xs => xs | _ => []) else []
def kidsOf : List Str → List D → List D
  | p :: ps, a :: as => kid p a ++ kidsOf ps as
  | _, _ => []
theorem kidsOf_snoc : ∀ (ps : List Str) (as : List D) (i : Nat) (p : Str) (a : D), ps[i]? = some p → as[i]? = some a → kidsOf (ps.take (i + 1)) (as.take (i + 1)) = kidsOf (ps.take i) (as.take i) ++ kid p a
  | [], _, i, p, a, h, _ => by cases h
  | _ :: _, [], i, p, a, _, h => by cases h
  | q :: ps, b :: as, 0, p, a, h, h' => by
    cases h
    cases h'
    show kid q b ++ kidsOf (ps.take 0) (as.take 0) = [] ++ kid q b
    simp [kidsOf]
  | q :: ps, b :: as, i + 1, p, a, h, h' => by
    have z := kidsOf_snoc ps as i p a h h'
    show kid q b ++ kidsOf (ps.take (i + 1)) (as.take (i + 1)) = kid q b ++ kidsOf (ps.take i) (as.take i) ++ kid p a
    rw [z, List.append_assoc]
theorem kidsOf_le : ∀ (ps : List Str) (as : List D) (i : Nat), (kidsOf (ps.take i) (as.take i)).length ≤ (kidsOf ps as).length
  | [], as, i => by
    rw [List.take_nil]
    cases as.take i <;> exact Nat.zero_le _
  | _ :: _, [], i => by
    rw [List.take_nil]
    cases i <;> exact Nat.zero_le _
  | p :: ps, a :: as, 0 => Nat.zero_le _
  | p :: ps, a :: as, i + 1 => by
    show (kid p a ++ kidsOf (ps.take i) (as.take i)).length ≤ (kid p a ++ kidsOf ps as).length
    rw [List.length_append, List.length_append]
    have := kidsOf_le ps as i
    omega
theorem okParts_len : ∀ (ps : List Str) (as : List D), okParts ps as = true → ps.length = as.length
  | [], [], _ => rfl
  | _ :: ps, _ :: as, h => by
    unfold okParts at h
    rw [Bool.and_eq_true] at h
    rw [List.length_cons, List.length_cons, okParts_len ps as h.2]
  | [], _ :: _, h => by cases h
  | _ :: _, [], h => by cases h
theorem okParts_at : ∀ (ps : List Str) (as : List D) (i : Nat) (p : Str) (a : D), okParts ps as = true → ps[i]? = some p → as[i]? = some a → p = "args" ∨ p = "block" → ∃ xs, a = .tup xs
  | [], _, i, p, a, _, h, _, _ => by cases h
  | _ :: _, [], i, p, a, _, _, h, _ => by cases h
  | q :: ps, b :: as, 0, p, a, h, h1, h2, h3 => by
    cases h1
    cases h2
    unfold okParts at h
    rw [Bool.and_eq_true, if_pos h3] at h
    cases b with
    | tup xs => exact ⟨xs, rfl⟩
    | _ => cases h.1
  | q :: ps, b :: as, i + 1, p, a, h, h1, h2, h3 => by
    unfold okParts at h
    rw [Bool.and_eq_true] at h
    exact okParts_at ps as i p a h.2 h1 h2 h3
def spWithin (K : PySem.W.Frag) : Sp := fun vs H Q _ => ∃ p z us as ps, vs = [.ref p] ∧ H p = some (.tup (.str z :: us)) ∧ Reps H us as ∧ Parts z ps ∧ okParts ps as = true ∧ (kidsOf ps as).length ≤ sizeLine ∧ ∀ l H' ks, H l = none → Same H H' → H' l = some (.lst ks) → All2 (InL H') ks (kidsOf ps as) → Q (.ref l) H'
theorem w_inTwo {K : PySem.W.Frag} {H : Hp} {Q : VK} {z x y : Str} (h : True) : True := trivial
theorem ok_within (T : Txf P w K mg) {f : Addr} {fd : FuncData} (F : FnP K "within" s_within f fd) (D_parts_of : Cal P w K mg base CX0 1 "parts_of" P_parts_of (spParts K)) : FnOk P w K mg base CX0 2 f fd P_within (spWithin K) := by
  refine F.ok sc_within (fun vs H Q E h => ?_) (fun cdv A outer s H vs Q E hr h => ?_)
  · obtain ⟨p, z, us, as, ps, rfl, _⟩ := h
    rfl
  · obtain ⟨p, z, us, as, ps, rfl, hp, hR, hP, hO, hB, q⟩ := h
    refine ⟨_, PSs.nox (pss_cons (ps_set (i := 1) sc_within.nd rfl (Or.inl rfl) (pe_lst pa_nil))
  (pss_cons (ps_for PassesOwn.never rfl (pi_zipA (by rfl) T.f_zip (pa_cons (pe_cal D_parts_of hr rfl rfl pass0 (pa_cons (pv 0) pa_nil)) (pa_cons (pe_slice sl_tup (pv 0) (po_some pe_int) po_none) pa_nil))) (pg_tup (by rfl) (pgs_cons (pg_name (i := 2) sc_within.nd rfl (Or.inr rfl)) (pgs_cons (pg_name (i := 3) sc_within.nd rfl (Or.inl rfl)) pgs_nil))) (pss_one (ps_if (pt_cmpR op_in_seq (pv 2) (pe_tup (pa_cons pe_str (pa_cons pe_str pa_nil))) (by rfl)) (pss_one (ps_expr (pe_bm PySem.F.plainAttrs_list PySem.F.slot_list_append PySem.F.type_list_append mt_append (pv 1) (pa_cons (pe_tup (pa_cons pe_bl (pa_cons (pv 3) pa_nil))) pa_nil)))) (pss_one (ps_if (pt_cmpR op_in_seq (pv 2) (pe_tup (pa_cons pe_str (pa_cons pe_str pa_nil))) (by rfl)) (pss_one (ps_expr (pe_bm PySem.F.plainAttrs_list PySem.F.slot_list_extend PySem.F.type_list_extend mt_extend (pv 1) (pa_cons (pe_lc (own := [("one", 4)]) (g := gName 4) rfl sc_within.nd (pi_tup (pv 3)) (blkOk_by (own := [("one", 4)]) (N := N_within) (sc := defScope s_within) (by decide +kernel)) (fun _ _ _ _ _ => pg_name (i := 4) sc_within.nd rfl (Or.inl rfl)) (fun _ _ _ _ _ => pts_nil) (fun _ _ _ _ _ => (pe_tup (pa_cons (pe_cmpR op_eq (pv 2) pe_str (nomark _)) (pa_cons (pv 4) pa_nil))))) pa_nil)))) pss_nil)))))
  (pss_one (ps_ret (pv 1))))), ?_⟩
    walk_at "w"
    refine ⟨Nat.zero_le _, fun L hL => ?_⟩
    have s1 : Same H (upd H L (.lst [])) := sameUpd hL
    have h1 : (upd H L (.lst [])) L = some (.lst []) := upd_same
    generalize upd H L (.lst []) = H1 at s1 h1 ⊢
    walk_at "w"
    refine w_zip ?_
    walk_at "w"
    refine ⟨p, z, us, ps, rfl, s1 _ _ hp, hP, fun A tA => ?_⟩
    walk_at "w"
    refine ⟨p, _, rfl, .of (s1 _ _ hp), ?_, fun p2 hp2 => ?_⟩
    · rintro ⟨e, _⟩
      unfold HT.sIx at e
      simp at e
    rw [cut1]
    have s2 : Same H1 (upd H1 p2 (.tup us)) := sameUpd hp2
    have h2 : (upd H1 p2 (.tup us)) p2 = some (.tup us) := upd_same
    have n2 := ne_of_none h1 hp2
    generalize upd H1 p2 (.tup us) = H2 at s2 h2 ⊢
    walk_at "w"
    refine ⟨A, p2, ps.map V.str, us, rfl, .inr ⟨tA H2, .of h2, for_zipT (K := K) (hl := by rw [List.length_map, okParts_len ps as hO, hR.1]) (fun i σ H' => KeepF L H2 H' ∧ (∃ ks, H' L = some (.lst ks) ∧ All2 (InL H') ks (kidsOf (ps.take i) (as.take i))) ∧ ∃ u v, σ = [some (.ref p), some (.ref L), u, v, none]) ⟨.refl, ⟨[], s2 _ _ h1, by rw [List.take_zero]; exact .nil⟩, _, _, rfl⟩ (fun i σ H' h => ⟨tA H', .of (h.1 _ _ n2.symm h2)⟩) ?_ ?_⟩⟩
    · rintro i x y T' σ H3 hx hy ⟨k3, ⟨ks, h3, a3⟩, u, v, rfl⟩ hT
      rw [List.getElem?_map, Option.map_eq_some_iff] at hx
      obtain ⟨x, hx, rfl⟩ := hx
      obtain ⟨a, ha, ra⟩ : ∃ a, as[i]? = some a ∧ Rep H y a := by
        obtain ⟨hi, _⟩ := List.getElem?_eq_some_iff.mp hy
        have hj : i < as.length := by rw [← hR.1]; exact hi
        exact ⟨as[i], List.getElem?_eq_getElem hj, hR.2 i y _ hy (List.getElem?_eq_getElem hj)⟩
      have ks3 := kidsOf_snoc ps as i x a hx ha
      have kAll : ∀ b o, H b = some o → H3 b = some o := fun b o e => k3 b o (ne_of_none e hL) (s2 _ _ (s1 _ _ e))
      have ry : Rep H3 y a := ra.mono fun b xs e => kAll b _ e
      walk_at "w"
      refine w_g2 rfl (.of upd_same) ?_
      have s3 : Same H3 (upd H3 T' (.tup [V.str x, y])) := sameUpd hT
      generalize upd H3 T' (.tup [V.str x, y]) = H4 at s3 ⊢
      walk_at "w"
      refine ⟨by show 2 ≤ sizeLine; decide, fun p5 hp5 => ?_⟩
      have s5 : Same H4 (upd H4 p5 (.tup [V.str "e", V.str "place"])) := sameUpd hp5
      refine w_inStrs ["e", "place"] (.of upd_same) rfl ?_
      generalize upd H4 p5 (.tup [V.str "e", V.str "place"]) = H5 at s5 ⊢
      have s35 := s3.trans s5
      show ∃ k, V.bl (decide (x ∈ (["e", "place"] : List Str))) = .bl k ∧ _
      have l5 := s35 _ _ h3
      have a5 : All2 (InL H5) ks (kidsOf (ps.take i) (as.take i)) := a3.mono fun u d z => z.same s35
      have kf5 : KeepF L H2 H5 := k3.trans (.same s35)
      have hlen : (kidsOf (ps.take (i + 1)) (as.take (i + 1))).length ≤ sizeLine := Nat.le_trans (kidsOf_le ps as (i + 1)) hB
      rw [ks3, List.length_append, ← a3.len] at hlen
      by_cases he : x = "e" ∨ x = "place"
      · rw [decide_eq_true (by simpa using he)]
        walk_at "w"
        refine ⟨.inl ⟨rfl, _, .of l5⟩, ?_⟩
        walk_at "w"
        refine ⟨by show 2 ≤ sizeLine; decide, fun p7 hp7 => ?_⟩
        have s7 : Same H5 (upd H5 p7 (.tup [V.bl false, y])) := sameUpd hp7
        have h7 : (upd H5 p7 (.tup [V.bl false, y])) p7 = some (.tup [V.bl false, y]) := upd_same
        generalize upd H5 p7 (.tup [V.bl false, y]) = H7 at s7 h7 ⊢
        have l7 := s7 _ _ l5
        have kd : kid x a = [a] := if_pos he
        rw [kd] at ks3 hlen
        refine ⟨L, ks, _, rfl, rfl, l7, hlen, kfU (kf5.trans (.same s7)), ⟨_, upd_same, ?_⟩, _, _, rfl⟩
        rw [ks3]
        exact (All2.app (.cons ⟨p7, false, y, rfl, h7, ry.same (s35.trans s7)⟩ .nil) (a5.mono fun u d z => z.same s7)).mono fun u d z => z.mono (tup_updL l7)
      · rw [decide_eq_false (by simpa using he)]
        walk_at "w"
        refine ⟨by show 2 ≤ sizeLine; decide, fun p6 hp6 => ?_⟩
        have s6 : Same H5 (upd H5 p6 (.tup [V.str "args", V.str "block"])) := sameUpd hp6
        refine w_inStrs ["args", "block"] (.of upd_same) rfl ?_
        generalize upd H5 p6 (.tup [V.str "args", V.str "block"]) = H6 at s6 ⊢
        show ∃ k, V.bl (decide (x ∈ (["args", "block"] : List Str))) = .bl k ∧ _
        have l6 := s6 _ _ l5
        have a6 : All2 (InL H6) ks (kidsOf (ps.take i) (as.take i)) := a5.mono fun u d z => z.same s6
        have kf6 := kf5.trans (.same s6)
        by_cases hb : x = "args" ∨ x = "block"
        · rw [decide_eq_true (by simpa using hb)]
          obtain ⟨xs, rfl⟩ := okParts_at ps as i x a hO hx ha hb
          obtain ⟨q1, us1, rfl, hq1, r1⟩ : ∃ q1 us1, y = .ref q1 ∧ H q1 = some (.tup us1) ∧ Reps H us1 xs := by
            cases ra with
            | tup h l e => exact ⟨_, _, rfl, h, l, e⟩
          have kd : kid x (.tup xs) = xs := by unfold kid; rw [if_neg he, if_pos hb]
          rw [kd] at ks3 hlen
          have hq6 := s6 _ _ (s35 _ _ (kAll _ _ hq1))
          walk_at "w"
          refine ⟨.inl ⟨rfl, _, .of l6⟩, ?_⟩
          walk_at "w"
          refine w_lc ?_
          walk_at "w"
          refine ⟨_, rfl, ⟨_, .of hq6⟩, fun D hD => lc_tup (K := K) (a := q1) (xs := us1) (fun j H' => Same H6 H' ∧ ∃ gs, H' D = some (.lst gs) ∧ All2 (InL H') gs (xs.take j)) ⟨sameUpd hD, [], upd_same, by rw [List.take_zero]; exact .nil⟩ (fun j H' _ h => .of (h.1 _ _ hq6)) ?_ ?_⟩
          · rintro j y H8 hj ⟨s8, gs, hg, ag⟩
            walk_at "w"
            refine ⟨rfl, ?_⟩
            walk_at "w"
            refine w_eq rfl ?_
            walk_at "w"
            refine ⟨by show 2 ≤ sizeLine; decide, fun p9 hp9 => ?_⟩
            generalize decide (V.str x = V.str "block") = bb
            have s9 : Same H8 (upd H8 p9 (.tup [V.bl bb, y])) := sameUpd hp9
            have h9 : (upd H8 p9 (.tup [V.bl bb, y])) p9 = some (.tup [V.bl bb, y]) := upd_same
            generalize upd H8 p9 (.tup [V.bl bb, y]) = H9 at s9 h9 ⊢
            obtain ⟨d, hd, rd⟩ := r1.all.at_ hj
            have l9 := s9 _ _ hg
            have hlj : gs.length = j := by
              rw [ag.len, List.length_take]
              have := (List.getElem?_eq_some_iff.mp hd).1
              omega
            have hjx := (List.getElem?_eq_some_iff.mp hd).1
            walk_at "w"
            refine ⟨gs, l9, by omega, fun b o e => ?_, gs ++ [.ref p9], upd_same, ?_⟩
            · rw [upd_ne (ne_of_none e hD)]
              exact s9 _ _ (s8 _ _ e)
            · rw [List.take_add_one, hd]
              exact (All2.app (.cons ⟨p9, bb, y, rfl, h9, ((rd.same (fun b o e => s6 _ _ (s35 _ _ (kAll b o e)))).same s8).same s9⟩ .nil) (ag.mono fun u d z => z.same s9)).mono fun u d z => z.mono (tup_updL l9)
          · rintro H8 ⟨s8, gs, hg, ag⟩
            walk_at "w"
            have l8 := s8 _ _ l6
            rw [show us1.length = xs.length from r1.1, List.take_length] at ag
            refine ⟨L, D, ks, gs, rfl, rfl, l8, hg, by rw [ag.len]; exact hlen, kfU (kf6.trans (.same s8)), ⟨_, upd_same, ?_⟩, _, _, rfl⟩
            rw [ks3]
            exact (All2.app ag (a6.mono fun u d z => z.same s8)).mono fun u d z => z.mono (tup_updL l8)
        · rw [decide_eq_false (by simpa using hb)]
          walk_at "w"
          have kd : kid x a = [] := by unfold kid; rw [if_neg he, if_neg hb]
          rw [kd, List.append_nil] at ks3
          exact ⟨kf6, ⟨ks, l6, by rw [ks3]; exact a6⟩, _, _, rfl⟩
    · rintro σ H3 ⟨k3, ⟨ks, h3, a3⟩, u, v, rfl⟩
      walk_at "w"
      rw [List.length_map, List.take_length, okParts_len ps as hO, List.take_length] at a3
      exact q L H3 ks hL (fun b o e => k3 b o (ne_of_none e hL) (s2 _ _ (s1 _ _ e))) h3 a3
end
end FE
namespace FE
open PySem L2 K01 RZ
theorem All2.cons_inv {R : V → D → Prop} {us : List V} {x : D} {xs : List D} (h : All2 R us (x :: xs)) : ∃ u us', us = u :: us' ∧ R u x ∧ All2 R us' xs := by
  cases h with
  | cons a t => exact ⟨_, _, rfl, a, t⟩
theorem All2.nil_inv {R : V → D → Prop} {us : List V} (h : All2 R us []) : us = [] := by
  cases h
  rfl
theorem Rep.open_ {H : Hp} {v : V} {xs : List D} (h : Rep H v (.tup xs)) : ∃ p us, v = .ref p ∧ H p = some (.tup us) ∧ All2 (Rep H) us xs := by
  cases h with
  | tup h l e => exact ⟨_, _, rfl, h, Reps.all ⟨l, e⟩⟩
theorem Rep.str {H : Hp} {v : V} {z : Str} (h : Rep H v (.s z)) : v = .str z := by
  cases h
  rfl
/-- the things within -/
def kids : D → List D
  | .tup (.s z :: as) => (match (STP ++ EXP).lookup z with
    | some ps => kidsOf ps as
    | none => [])
  | _ => []
def nodeOk : D → Bool
  | .tup (.s z :: as) => (match (STP ++ EXP).lookup z with
    | some ps => okParts ps as
    | none => false)
  | _ => false
theorem lookup_mem {z : Str} {ps : List Str} : ∀ {l : List (Str × List Str)}, l.lookup z = some ps → (z, ps) ∈ l
  | [], h => by cases h
  | (y, qs) :: l, h => by
    rw [List.lookup_cons] at h
    by_cases e : z = y
    · subst e
      rw [beq_self_eq_true] at h
      cases h
      exact List.mem_cons_self ..
    · rw [beq_false_of_ne e] at h
      exact List.mem_cons_of_mem _ (lookup_mem h)
theorem node_is {d : D} (h : nodeOk d = true) : ∃ z as ps, d = .tup (.s z :: as) ∧ (STP ++ EXP).lookup z = some ps ∧ okParts ps as = true ∧ kids d = kidsOf ps as := by
  unfold nodeOk at h
  split at h
  · rename_i z as
    split at h
    · rename_i ps e
      refine ⟨z, as, ps, rfl, e, h, ?_⟩
      show (match (STP ++ EXP).lookup z with | some ps => kidsOf ps as | none => []) = _
      rw [e]
    · cases h
  · cases h
/-- a statement or expression, whole -/
inductive Wf : D → Prop
  | mk {d : D} (h : nodeOk d = true) (k : ∀ x ∈ kids d, Wf x) : Wf d
def nexts (l : List D) : List D := l.flatMap kids
/-- a method, a block in it -/
def blkOf : D → List D
  | .tup [_, _, .tup b] => b
  | _ => []
def isMeth : D → Bool
  | .tup [_, _, .tup _] => true
  | _ => false
def headS : D → Str
  | .tup (.s z :: _) => z
  | _ => ""
def fnBlk : D → List D
  | .tup [_, _, _, .tup b] => b
  | _ => []
def clsMs : D → List D
  | .tup [_, _, _, _, .tup ms] => ms
  | _ => []
def stsOf (d : D) : List D := if headS d = "function" then fnBlk d else if headS d = "class" then (clsMs d).flatMap blkOf else [d]
inductive WfI : D → Prop
  | fn {x ps : D} {b : List D} : sz x ≤ 1 → sz ps ≤ 1 → (∀ d ∈ b, Wf d) → WfI (.tup [.s "function", x, ps, .tup b])
  | cls {x el fs : D} {ms : List D} : sz x ≤ 1 → sz el ≤ 1 → sz fs ≤ 1 → (∀ m ∈ ms, ∃ n ps b, m = .tup [n, ps, .tup b] ∧ (sz n ≤ 1 ∧ sz ps ≤ 1) ∧ ∀ d ∈ b, Wf d) → WfI (.tup [.s "class", x, el, fs, .tup ms])
  | st {d : D} : Wf d → WfI d
section
variable {P : Program} {w : World} {K : PySem.W.Frag} {mg : Str → Option Value} {base : Heap} {m : Nat}
def spStsOf (K : PySem.W.Frag) : Sp := fun vs H Q _ => ∃ v d, vs = [v] ∧ Rep H v d ∧ WfI d ∧ (stsOf d).length ≤ sizeLine ∧ ∀ l H' us, H l = none → Same H H' → H' l = some (.lst us) → All2 (Rep H') us (stsOf d) → Q (.ref l) H'
theorem wf_head {d : D} (h : Wf d) : ∃ z as, d = .tup (.s z :: as) ∧ z ≠ "function" ∧ z ≠ "class" := by
  cases h with
  | mk h k =>
    obtain ⟨z, as, ps, rfl, hP, _⟩ := node_is h
    refine ⟨z, as, rfl, ?_, ?_⟩ <;> rintro rfl
    · rw [show List.lookup ("function" : Str) (STP ++ EXP) = none from by decide +kernel] at hP
      cases hP
    · rw [show List.lookup ("class" : Str) (STP ++ EXP) = none from by decide +kernel] at hP
      cases hP
theorem ok_statements_of (T : Txf P w K mg) {f : Addr} {fd : FuncData} (F : FnP K "statements_of" s_statements_of f fd) : FnOk P w K mg base CX0 1 f fd P_statements_of (spStsOf K) := by
  refine F.ok sc_statements_of (fun vs H Q E h => ?_) (fun cdv A outer s H vs Q E hr h => ?_)
  · obtain ⟨v, d, rfl, _⟩ := h
    rfl
  · obtain ⟨v, d, rfl, hR, hW, hB, q⟩ := h
    refine ⟨_, PSs.nox (pss_cons (ps_if (pt_cmpR op_eq (pe_ix ix_tup (pv 0) pe_int (fun _ _ => rfl)) pe_str (nomark _)) (pss_one (ps_ret (pe_callTy call_listN (by rfl) T.f_list (by decide +kernel) (pa_cons (pe_ix ix_tup (pv 0) pe_int (fun _ _ => rfl)) pa_nil)))) pss_nil)
  (pss_cons (ps_if (pt_cmpR op_ne (pe_ix ix_tup (pv 0) pe_int (fun _ _ => rfl)) pe_str (nomark _)) (pss_one (ps_ret (pe_lst (pa_cons (pv 0) pa_nil)))) pss_nil)
  (pss_cons (ps_set (i := 1) sc_statements_of.nd rfl (Or.inl rfl) (pe_lst pa_nil))
  (pss_cons (ps_for PassesOwn.never rfl (pi_tup (pe_ix ix_tup (pv 0) pe_int (fun _ _ => rfl))) (pg_tup (by rfl) (pgs_cons (pg_name (i := 2) sc_statements_of.nd rfl (Or.inl rfl)) (pgs_cons (pg_name (i := 3) sc_statements_of.nd rfl (Or.inl rfl)) (pgs_cons (pg_name (i := 4) sc_statements_of.nd rfl (Or.inl rfl)) pgs_nil)))) (pss_one (ps_expr (pe_bm PySem.F.plainAttrs_list PySem.F.slot_list_extend PySem.F.type_list_extend mt_extend (pv 1) (pa_cons (pe_callTy call_listN (by rfl) T.f_list (by decide +kernel) (pa_cons (pv 4) pa_nil)) pa_nil)))))
  (pss_one (ps_ret (pv 1))))))), ?_⟩
    cases hW with
    | st hW =>
      obtain ⟨z, as, rfl, n1, n2⟩ := wf_head hW
      obtain ⟨p, us, rfl, hp, hA0⟩ := hR.open_
      obtain ⟨_, us, rfl, e, hA1⟩ := hA0.cons_inv
      obtain rfl := e.str
      have e1 : stsOf (.tup (.s z :: as)) = [.tup (.s z :: as)] := by
        unfold stsOf
        rw [show headS (.tup (.s z :: as)) = z from rfl, if_neg n1, if_neg n2]
      rw [e1] at q
      walk_at "w"
      refine w_ixT (.of hp) (atI_nat (j := 0) rfl) ?_
      walk_at "w"
      refine w_eq rfl ?_
      rw [decide_eq_false (fun e => n1 (V.str.inj e))]
      walk_at "w"
      refine w_ixT (.of hp) (atI_nat (j := 0) rfl) ?_
      walk_at "w"
      refine w_ne rfl ?_
      rw [decide_eq_false (fun e => n2 (V.str.inj e))]
      walk_at "w"
      refine ⟨by show 1 ≤ sizeLine; decide, fun l hl => ?_⟩
      have s1 : Same H (upd H l (.lst [V.ref p])) := sameUpd hl
      exact q l _ _ hl s1 upd_same (.cons (hR.same s1) .nil)
    | @fn x ps b _ _ hW =>
      obtain ⟨p, us, rfl, hp, hA0⟩ := hR.open_
      obtain ⟨_, us, rfl, e, hA1⟩ := hA0.cons_inv
      obtain rfl := e.str
      obtain ⟨v1, us, rfl, _, hA2⟩ := hA1.cons_inv
      obtain ⟨v2, us, rfl, _, hA3⟩ := hA2.cons_inv
      obtain ⟨v3, us, rfl, e3, hA4⟩ := hA3.cons_inv
      obtain rfl := hA4.nil_inv
      obtain ⟨p3, u3, rfl, h3, a3⟩ := e3.open_
      walk_at "w"
      refine w_ixT (.of hp) (atI_nat (j := 0) rfl) ?_
      walk_at "w"
      refine w_eq rfl ?_
      rw [decide_eq_true rfl]
      walk_at "w"
      refine w_ixT (.of hp) (atI_nat (j := 3) rfl) ?_
      walk_at "w"
      refine ⟨p3, u3, rfl, .inr (.of h3), fun l hl => ?_⟩
      have s1 : Same H (upd H l (.lst u3)) := sameUpd hl
      exact q l _ _ hl s1 upd_same (a3.mono fun u d z => z.same s1)
    | @cls x el fs ms _ _ _ hW =>
      obtain ⟨p, us, rfl, hp, hA0⟩ := hR.open_
      obtain ⟨_, us, rfl, e, hA1⟩ := hA0.cons_inv
      obtain rfl := e.str
      obtain ⟨v1, us, rfl, _, hA2⟩ := hA1.cons_inv
      obtain ⟨v2, us, rfl, _, hA3⟩ := hA2.cons_inv
      obtain ⟨v3, us, rfl, _, hA4⟩ := hA3.cons_inv
      obtain ⟨v4, us, rfl, e4, hA5⟩ := hA4.cons_inv
      obtain rfl := hA5.nil_inv
      obtain ⟨p4, u4, rfl, h4, a4⟩ := e4.open_
      walk_at "w"
      refine w_ixT (.of hp) (atI_nat (j := 0) rfl) ?_
      walk_at "w"
      refine w_eq rfl ?_
      rw [decide_eq_false (by decide +kernel : V.str "class" ≠ V.str "function")]
      walk_at "w"
      refine w_ixT (.of hp) (atI_nat (j := 0) rfl) ?_
      walk_at "w"
      refine w_ne rfl ?_
      rw [decide_eq_true rfl]
      walk_at "w"
      refine ⟨Nat.zero_le _, fun L hL => ?_⟩
      have s1 : Same H (upd H L (.lst [])) := sameUpd hL
      have h1 : (upd H L (.lst [])) L = some (.lst []) := upd_same
      generalize upd H L (.lst []) = H1 at s1 h1 ⊢
      walk_at "w"
      refine w_ixT (.of (s1 _ _ hp)) (atI_nat (j := 4) rfl) ?_
      have eS : stsOf (.tup [.s "class", x, el, fs, .tup ms]) = ms.flatMap blkOf := rfl
      rw [eS] at q hB
      refine ⟨p4, rfl, ⟨_, .of (s1 _ _ h4)⟩, for_tup (K := K) (a := p4) (xs := u4) (fun i σ H' => KeepF L H1 H' ∧ (∃ ks, H' L = some (.lst ks) ∧ All2 (Rep H') ks ((ms.take i).flatMap blkOf)) ∧ ∃ u v w, σ = [some (.ref p), some (.ref L), u, v, w]) ⟨.refl, ⟨[], h1, by rw [List.take_zero]; exact .nil⟩, _, _, _, rfl⟩ (fun i σ H' _ h => .of (h.1 _ _ (ne_of_none h4 hL) (s1 _ _ h4))) ?_ ?_⟩
      · rintro i y σ H3 hy ⟨k3, ⟨ks, h3, a3⟩, u, v, w', rfl⟩
        obtain ⟨d, hd, rd⟩ := a4.at_ hy
        obtain ⟨n, ps', b, rfl, _, hb⟩ := hW d (List.mem_of_getElem? hd)
        obtain ⟨p5, us, rfl, h5, a50⟩ := rd.open_
        obtain ⟨w1, us, rfl, _, a51⟩ := a50.cons_inv
        obtain ⟨w2, us, rfl, _, a52⟩ := a51.cons_inv
        obtain ⟨w3, us, rfl, e5, a53⟩ := a52.cons_inv
        obtain rfl := a53.nil_inv
        obtain ⟨p6, u6, rfl, h6, a6⟩ := e5.open_
        have kAll : ∀ b o, H b = some o → H3 b = some o := fun b o e => k3 b o (ne_of_none e hL) (s1 _ _ e)
        refine w_g3 rfl (.of (kAll _ _ h5)) ?_
        walk_at "w"
        refine ⟨.inl ⟨rfl, _, .of h3⟩, ?_⟩
        walk_at "w"
        refine ⟨p6, u6, rfl, .inr (.of (kAll _ _ h6)), fun l hl => ?_⟩
        have s4 : Same H3 (upd H3 l (.lst u6)) := sameUpd hl
        have h4 : (upd H3 l (.lst u6)) l = some (.lst u6) := upd_same
        generalize upd H3 l (.lst u6) = H4 at s4 h4 ⊢
        walk_at "w"
        have l4 := s4 _ _ h3
        have e6 : (ms.take (i + 1)).flatMap blkOf = (ms.take i).flatMap blkOf ++ b := by
          rw [List.take_add_one, hd, List.flatMap_append]
          show _ ++ (b ++ []) = _
          rw [List.append_nil]
        have le6 : ks.length + u6.length ≤ sizeLine := by
          rw [a3.len, a6.len, ← List.length_append, ← e6]
          refine Nat.le_trans ?_ hB
          have := congrArg (fun l => (List.flatMap blkOf l).length) (List.take_append_drop (i + 1) ms)
          rw [List.flatMap_append, List.length_append] at this
          omega
        refine ⟨L, l, ks, u6, rfl, rfl, l4, h4, le6, kfU (k3.trans (.same s4)), ⟨_, upd_same, ?_⟩, _, _, _, rfl⟩
        rw [e6]
        exact (All2.app (a6.mono fun u d z => z.same fun b o e => s4 _ _ (kAll b o e)) (a3.mono fun u d z => z.same s4)).mono fun u d z => z.mono (tup_updL l4)
      · rintro σ H3 ⟨k3, ⟨ks, h3, a3⟩, u, v, w', rfl⟩
        walk_at "w"
        rw [a4.len, List.take_length] at a3
        exact q L H3 ks hL (fun b o e => k3 b o (ne_of_none e hL) (s1 _ _ e)) h3 a3
end
end FE
namespace FE
open PySem L2 K01 RZ
section
variable {P : Program} {w : World} {K : PySem.W.Frag} {mg : Str → Option Value} {base : Heap} {m : Nat}
theorem All2.reps {H : Hp} : ∀ {us : List V} {xs : List D}, All2 (Rep H) us xs → Reps H us xs
  | _, _, .nil => .nil
  | _, _, .cons a t => .cons a t.reps
def firsts (ds : List D) : List D := ds.flatMap stsOf
def spFirst (K : PySem.W.Frag) : Sp := fun vs H Q _ => ∃ a us ds, vs = [.ref a] ∧ H a = some (.lst us) ∧ All2 (Rep H) us ds ∧ (∀ d ∈ ds, WfI d) ∧ (firsts ds).length ≤ sizeLine ∧ ∀ l H' ks, H l = none → Same H H' → H' l = some (.lst ks) → All2 (InL H') ks (firsts ds) → Q (.ref l) H'
def spNextL (K : PySem.W.Frag) : Sp := fun vs H Q _ => ∃ a us ds, vs = [.ref a] ∧ H a = some (.lst us) ∧ All2 (InL H) us ds ∧ (∀ d ∈ ds, nodeOk d = true) ∧ (nexts ds).length ≤ sizeLine ∧ ∀ l H' ks, H l = none → Same H H' → H' l = some (.lst ks) → All2 (InL H') ks (nexts ds) → Q (.ref l) H'
theorem flat_step {f : D → List D} {ds : List D} {i : Nat} {d : D} (h : ds[i]? = some d) : (ds.take (i + 1)).flatMap f = (ds.take i).flatMap f ++ f d := by
  rw [List.take_add_one, h, List.flatMap_append]
  show _ ++ (f d ++ []) = _
  rw [List.append_nil]
theorem flat_le (f : D → List D) (ds : List D) (i : Nat) : ((ds.take i).flatMap f).length ≤ (ds.flatMap f).length := by
  have := congrArg (fun l => (List.flatMap f l).length) (List.take_append_drop i ds)
  rw [List.flatMap_append, List.length_append] at this
  omega
theorem flat_at (f : D → List D) {ds : List D} {i : Nat} {d : D} (h : ds[i]? = some d) : (f d).length ≤ (ds.flatMap f).length := by
  have := flat_le f ds (i + 1)
  rw [flat_step h, List.length_append] at this
  omega
theorem ok_first_layer (T : Txf P w K mg) {f : Addr} {fd : FuncData} (F : FnP K "first_layer" s_first_layer f fd) (D_statements_of : Cal P w K mg base CX0 1 "statements_of" P_statements_of (spStsOf K)) : FnOk P w K mg base CX0 2 f fd P_first_layer (spFirst K) := by
  refine F.ok sc_first_layer (fun vs H Q E h => ?_) (fun cdv A outer s H vs Q E hr h => ?_)
  · obtain ⟨a, us, ds, rfl, _⟩ := h
    rfl
  · obtain ⟨a, us, ds, rfl, ha, hA, hW, hB, q⟩ := h
    refine ⟨_, PSs.nox (pss_cons (ps_set (i := 1) sc_first_layer.nd rfl (Or.inl rfl) (pe_lst pa_nil))
  (pss_cons (ps_for PassesOwn.never rfl (pi_list (pv 0)) (pg_name (i := 2) sc_first_layer.nd rfl (Or.inl rfl)) (pss_one (ps_expr (pe_bm PySem.F.plainAttrs_list PySem.F.slot_list_extend PySem.F.type_list_extend mt_extend (pv 1) (pa_cons (pe_lc (own := [("one", 3)]) (g := gName 3) rfl sc_first_layer.nd (pi_list (pe_cal D_statements_of hr rfl rfl pass0 (pa_cons (pv 2) pa_nil))) (blkOk_by (own := [("one", 3)]) (N := N_first_layer) (sc := defScope s_first_layer) (by decide +kernel)) (fun _ _ _ _ _ => pg_name (i := 3) sc_first_layer.nd rfl (Or.inl rfl)) (fun _ _ _ _ _ => pts_nil) (fun _ _ _ _ _ => (pe_tup (pa_cons pe_bl (pa_cons (pv 3) pa_nil))))) pa_nil)))))
  (pss_one (ps_ret (pv 1))))), ?_⟩
    walk_at "w"
    refine ⟨Nat.zero_le _, fun L hL => ?_⟩
    have s1 : Same H (upd H L (.lst [])) := sameUpd hL
    have h1 : (upd H L (.lst [])) L = some (.lst []) := upd_same
    generalize upd H L (.lst []) = H1 at s1 h1 ⊢
    walk_at "w"
    refine ⟨a, rfl, ⟨_, .of (s1 _ _ ha)⟩, for_list (K := K) (a := a) (xs := us) (fun i σ H' => KeepF L H1 H' ∧ (∃ ks, H' L = some (.lst ks) ∧ All2 (InL H') ks (firsts (ds.take i))) ∧ ∃ u, σ = [some (.ref a), some (.ref L), u, none]) ⟨.refl, ⟨[], h1, by rw [List.take_zero]; exact .nil⟩, _, rfl⟩ (fun i σ H' _ h => .of (h.1 _ _ (ne_of_none ha hL) (s1 _ _ ha))) ?_ ?_⟩
    · rintro i y σ H3 hy ⟨k3, ⟨ks, h3, a3⟩, u, rfl⟩
      obtain ⟨d, hd, rd⟩ := hA.at_ hy
      have kAll : ∀ b o, H b = some o → H3 b = some o := fun b o e => k3 b o (ne_of_none e hL) (s1 _ _ e)
      walk_at "w"
      refine ⟨.inl ⟨rfl, _, .of h3⟩, ?_⟩
      walk_at "w"
      refine w_lc ?_
      walk_at "w"
      refine ⟨y, d, rfl, rd.same kAll, hW d (List.mem_of_getElem? hd), Nat.le_trans (flat_at stsOf hd) hB, fun l H4 us' hl s4 h4 a4 => ?_⟩
      have l4 := s4 _ _ h3
      refine ⟨l, rfl, ⟨_, .of h4⟩, fun E' hE => lc_list (K := K) (a := l) (xs := us') (fun j H' => Same H4 H' ∧ ∃ gs, H' E' = some (.lst gs) ∧ All2 (InL H') gs ((stsOf d).take j)) ⟨sameUpd hE, [], upd_same, by rw [List.take_zero]; exact .nil⟩ (fun j H' _ h => .of (h.1 _ _ h4)) ?_ ?_⟩
      · rintro j y H8 hj ⟨s8, gs, hg, ag⟩
        walk_at "w"
        refine ⟨rfl, ?_⟩
        walk_at "w"
        refine ⟨by show 2 ≤ sizeLine; decide, fun p9 hp9 => ?_⟩
        have s9 : Same H8 (upd H8 p9 (.tup [V.bl true, y])) := sameUpd hp9
        have h9 : (upd H8 p9 (.tup [V.bl true, y])) p9 = some (.tup [V.bl true, y]) := upd_same
        generalize upd H8 p9 (.tup [V.bl true, y]) = H9 at s9 h9 ⊢
        obtain ⟨d', hd', rd'⟩ := a4.at_ hj
        have l9 := s9 _ _ hg
        have hjx := (List.getElem?_eq_some_iff.mp hd').1
        have hlj : gs.length = j := by
          rw [ag.len, List.length_take]
          omega
        have hBd := Nat.le_trans (flat_at stsOf hd) hB
        walk_at "w"
        refine ⟨gs, l9, by omega, fun b o e => ?_, gs ++ [.ref p9], upd_same, ?_⟩
        · rw [upd_ne (ne_of_none e hE)]
          exact s9 _ _ (s8 _ _ e)
        · rw [List.take_add_one, hd']
          exact (All2.app (.cons ⟨p9, true, y, rfl, h9, (rd'.same s8).same s9⟩ .nil) (ag.mono fun u d z => z.same s9)).mono fun u d z => z.mono (tup_updL l9)
      · rintro H8 ⟨s8, gs, hg, ag⟩
        walk_at "w"
        have l8 := s8 _ _ l4
        rw [a4.len, List.take_length] at ag
        have e6 : firsts (ds.take (i + 1)) = firsts (ds.take i) ++ stsOf d := flat_step hd
        have le6 : ks.length + gs.length ≤ sizeLine := by
          rw [a3.len, ag.len, ← List.length_append, ← e6]
          exact Nat.le_trans (flat_le stsOf ds _) hB
        refine ⟨L, E', ks, gs, rfl, rfl, l8, hg, le6, kfU (k3.trans (.same (s4.trans s8))), ⟨_, upd_same, ?_⟩, _, rfl⟩
        rw [e6]
        exact (All2.app ag (a3.mono fun u d z => z.same (s4.trans s8))).mono fun u d z => z.mono (tup_updL l8)
    · rintro σ H3 ⟨k3, ⟨ks, h3, a3⟩, u, rfl⟩
      walk_at "w"
      rw [hA.len, List.take_length] at a3
      exact q L H3 ks hL (fun b o e => k3 b o (ne_of_none e hL) (s1 _ _ e)) h3 a3
theorem ok_next_layer (T : Txf P w K mg) {f : Addr} {fd : FuncData} (F : FnP K "next_layer" s_next_layer f fd) (D_within : Cal P w K mg base CX0 2 "within" P_within (spWithin K)) : FnOk P w K mg base CX0 3 f fd P_next_layer (spNextL K) := by
  refine F.ok sc_next_layer (fun vs H Q E h => ?_) (fun cdv A outer s H vs Q E hr h => ?_)
  · obtain ⟨a, us, ds, rfl, _⟩ := h
    rfl
  · obtain ⟨a, us, ds, rfl, ha, hA, hW, hB, q⟩ := h
    refine ⟨_, PSs.nox (pss_cons (ps_set (i := 1) sc_next_layer.nd rfl (Or.inl rfl) (pe_lst pa_nil))
  (pss_cons (ps_for PassesOwn.never rfl (pi_list (pv 0)) (pg_tup (by rfl) (pgs_cons (pg_name (i := 2) sc_next_layer.nd rfl (Or.inl rfl)) (pgs_cons (pg_name (i := 3) sc_next_layer.nd rfl (Or.inl rfl)) pgs_nil))) (pss_one (ps_expr (pe_bm PySem.F.plainAttrs_list PySem.F.slot_list_extend PySem.F.type_list_extend mt_extend (pv 1) (pa_cons (pe_cal D_within hr rfl rfl pass0 (pa_cons (pv 3) pa_nil)) pa_nil)))))
  (pss_one (ps_ret (pv 1))))), ?_⟩
    walk_at "w"
    refine ⟨Nat.zero_le _, fun L hL => ?_⟩
    have s1 : Same H (upd H L (.lst [])) := sameUpd hL
    have h1 : (upd H L (.lst [])) L = some (.lst []) := upd_same
    generalize upd H L (.lst []) = H1 at s1 h1 ⊢
    walk_at "w"
    refine ⟨a, rfl, ⟨_, .of (s1 _ _ ha)⟩, for_list (K := K) (a := a) (xs := us) (fun i σ H' => KeepF L H1 H' ∧ (∃ ks, H' L = some (.lst ks) ∧ All2 (InL H') ks (nexts (ds.take i))) ∧ ∃ u v, σ = [some (.ref a), some (.ref L), u, v]) ⟨.refl, ⟨[], h1, by rw [List.take_zero]; exact .nil⟩, _, _, rfl⟩ (fun i σ H' _ h => .of (h.1 _ _ (ne_of_none ha hL) (s1 _ _ ha))) ?_ ?_⟩
    · rintro i y σ H3 hy ⟨k3, ⟨ks, h3, a3⟩, u, v, rfl⟩
      obtain ⟨d, hd, rd⟩ := hA.at_ hy
      have kAll : ∀ b o, H b = some o → H3 b = some o := fun b o e => k3 b o (ne_of_none e hL) (s1 _ _ e)
      obtain ⟨p, b, v', rfl, hp, rv⟩ := rd
      obtain ⟨z, as, ps, rfl, hz, hO, hk⟩ := node_is (hW d (List.mem_of_getElem? hd))
      have hBd : (kids (.tup (.s z :: as))).length ≤ sizeLine := Nat.le_trans (flat_at kids hd) hB
      rw [hk] at hBd
      have rv3 := rv.same kAll
      refine w_g2 rfl (.of (kAll _ _ hp)) ?_
      walk_at "w"
      refine ⟨.inl ⟨rfl, _, .of h3⟩, ?_⟩
      walk_at "w"
      obtain ⟨p5, us5, rfl, h5, a5⟩ := rv3.open_
      obtain ⟨u0, us6, rfl, e0, a6⟩ := a5.cons_inv
      obtain rfl := e0.str
      refine ⟨p5, z, us6, as, ps, rfl, h5, a6.reps, List.mem_append.mp (lookup_mem hz), hO, hBd, fun l H4 gs hl s4 h4 a4 => ?_⟩
      walk_at "w"
      have l4 := s4 _ _ h3
      have e6 : nexts (ds.take (i + 1)) = nexts (ds.take i) ++ kidsOf ps as := by rw [← hk]; exact flat_step hd
      have le6 : ks.length + gs.length ≤ sizeLine := by
        rw [a3.len, a4.len, ← List.length_append, ← e6]
        exact Nat.le_trans (flat_le kids ds _) hB
      refine ⟨L, l, ks, gs, rfl, rfl, l4, h4, le6, kfU (k3.trans (.same s4)), ⟨_, upd_same, ?_⟩, _, _, rfl⟩
      rw [e6]
      exact (All2.app a4 (a3.mono fun u d z => z.same s4)).mono fun u d z => z.mono (tup_updL l4)
    · rintro σ H3 ⟨k3, ⟨ks, h3, a3⟩, u, v, rfl⟩
      walk_at "w"
      rw [hA.len, List.take_length] at a3
      exact q L H3 ks hL (fun b o e => k3 b o (ne_of_none e hL) (s1 _ _ e)) h3 a3
def depthN : Nat → List D → Nat
  | 0, _ => 0
  | n + 1, l => if l = [] then 0 else 1 + depthN n (nexts l)
def layN : Nat → List D → List D
  | 0, l => l
  | n + 1, l => nexts (layN n l)
theorem layN_wf {l : List D} (h : ∀ d ∈ l, Wf d) : ∀ n, ∀ d ∈ layN n l, Wf d
  | 0 => h
  | n + 1 => fun d hd => by
    obtain ⟨x, hx, hk⟩ := List.mem_flatMap.mp hd
    cases layN_wf h n x hx with
    | mk _ k => exact k d hk
theorem firsts_wf {ds : List D} (h : ∀ d ∈ ds, WfI d) : ∀ d ∈ firsts ds, Wf d := fun d hd => by
  obtain ⟨x, hx, hk⟩ := List.mem_flatMap.mp hd
  cases h x hx with
  | fn _ _ hb => exact hb d hk
  | cls _ _ _ hm =>
    obtain ⟨m, hm1, hm2⟩ := List.mem_flatMap.mp (show d ∈ List.flatMap blkOf _ from hk)
    obtain ⟨n, ps, b, rfl, _, hb⟩ := hm m hm1
    exact hb d hm2
  | st hs =>
    obtain ⟨z, as, rfl, n1, n2⟩ := wf_head hs
    unfold stsOf at hk
    rw [show headS (.tup (.s z :: as)) = z from rfl, if_neg n1, if_neg n2] at hk
    rw [List.mem_singleton.mp hk]
    exact hs
def spRaw : Sp := fun vs H Q _ => ∃ a us ds, vs = [.ref a, .int 50] ∧ H a = some (.lst us) ∧ All2 (Rep H) us ds ∧ (∀ d ∈ ds, WfI d) ∧ (∀ n, (layN n (firsts ds)).length ≤ sizeLine) ∧ ∀ H', Same H H' → Q (.int (depthN 51 (firsts ds))) H'
theorem ok_raw_depth (T : Txf P w K mg) {f : Addr} {fd : FuncData} (F : FnP K "raw_depth" s_raw_depth f fd) (D_first_layer : Cal P w K mg base CX0 2 "first_layer" P_first_layer (spFirst K)) (D_next_layer : Cal P w K mg base CX0 3 "next_layer" P_next_layer (spNextL K)) : FnOk P w K mg base CX0 4 f fd P_raw_depth spRaw := by
  refine F.ok sc_raw_depth (fun vs H Q E h => ?_) (fun cdv A outer s H vs Q E hr h => ?_)
  · obtain ⟨a, us, ds, rfl, _⟩ := h
    rfl
  · obtain ⟨a, us, ds, rfl, ha, hA, hW, hB, q⟩ := h
    refine ⟨_, PSs.nox (pss_cons (ps_set (i := 2) sc_raw_depth.nd rfl (Or.inl rfl) pe_int)
  (pss_cons (ps_set (i := 3) sc_raw_depth.nd rfl (Or.inl rfl) (pe_cal D_first_layer hr rfl rfl pass0 (pa_cons (pv 0) pa_nil)))
  (pss_cons (ps_while PassesOwn.never (PW.pt (pw_and (pt_cmpR op_gt (pe_callB call_lenN (by rfl) T.f_len (by decide +kernel) (pa_cons (pv 3) pa_nil)) pe_int (nomark _)) (pw_and1 (pt_cmpR op_le (pv 2) (pv 1) (nomark _))))) (pss_cons (ps_aug (i := 2) sc_raw_depth.nd rfl (Or.inl rfl) pe_int ip_add)
  (pss_one (ps_set (i := 3) sc_raw_depth.nd rfl (Or.inl rfl) (pe_cal D_next_layer hr rfl rfl pass0 (pa_cons (pv 3) pa_nil))))))
  (pss_one (ps_ret (pv 2)))))), ?_⟩
    walk_at "w"
    refine ⟨a, us, ds, rfl, ha, hA, hW, hB 0, fun l H1 ks hl s1 h1 a1 => ?_⟩
    walk_at "w"
    refine ⟨fun m σ H' => ∃ k l ks, k ≤ 51 ∧ m = 51 - k ∧ σ = [some (.ref a), some (.int 50), some (.int (k : Nat)), some (.ref l)] ∧ Same H H' ∧ H' l = some (.lst ks) ∧ All2 (InL H') ks (layN k (firsts ds)) ∧ depthN 51 (firsts ds) = k + depthN (51 - k) (layN k (firsts ds)), ⟨_, 0, l, ks, by omega, rfl, rfl, s1, h1, a1, (Nat.zero_add _).symm⟩, ?_⟩
    rintro m σ H2 ⟨k, l, ks, hk, rfl, rfl, s2, h2, a2, e⟩
    walk_at "w"
    refine w_lenL (.of h2) ?_
    walk_at "w"
    have hlen := a2.len
    have dN : layN k (firsts ds) = [] → depthN (51 - k) (layN k (firsts ds)) = 0 := fun z => by
      rw [z]
      cases 51 - k <;> rfl
    by_cases hz : layN k (firsts ds) = []
    · rw [hz] at hlen
      rw [dN hz] at e
      rw [decide_eq_false (show ¬ ((0 : Int) < (ks.length : Int)) by rw [hlen]; decide)]
      walk_at "w"
      have := q H2 s2
      rw [e] at this
      exact this
    · rw [decide_eq_true (show (0 : Int) < (ks.length : Int) by rw [hlen]; have := List.length_pos_iff.mpr hz; omega)]
      walk_at "w"
      by_cases h51 : k = 51
      · subst h51
        rw [decide_eq_false (by omega)]
        walk_at "w"
        have := q H2 s2
        rw [e] at this
        exact this
      · rw [decide_eq_true (by omega)]
        walk_at "w"
        refine ⟨fun σ' H' => ∃ m', m' < 51 - k ∧ ∃ k l ks, k ≤ 51 ∧ m' = 51 - k ∧ σ' = [some (.ref a), some (.int 50), some (.int (k : Nat)), some (.ref l)] ∧ Same H H' ∧ H' l = some (.lst ks) ∧ All2 (InL H') ks (layN k (firsts ds)) ∧ depthN 51 (firsts ds) = k + depthN (51 - k) (layN k (firsts ds)), fun _ _ z => z, ?_⟩
        walk_at "w"
        refine ⟨l, ks, layN k (firsts ds), rfl, h2, a2, fun d hd => ?_, hB (k + 1), fun l3 H3 ks3 hl3 s3 h3 a3 => ?_⟩
        · cases layN_wf (firsts_wf hW) k d hd with
          | mk h _ => exact h
        · walk_at "w"
          refine ⟨51 - (k + 1), by omega, k + 1, l3, ks3, by omega, rfl, rfl, s2.trans s3, h3, a3, ?_⟩
          rw [e, show 51 - k = (51 - (k + 1)) + 1 by omega]
          show k + (if layN k (firsts ds) = [] then 0 else 1 + depthN (51 - (k + 1)) (nexts (layN k (firsts ds)))) = _
          rw [if_neg hz]
          show _ = k + 1 + depthN (51 - (k + 1)) (nexts (layN k (firsts ds)))
          omega
end
end FE
namespace L2
open PySem PySem.Spec PyProof.Rows
theorem w_makeS {C : Addr} {sp : Sp} {W : WX} {t : TA} {σ : L2.St} {H : Hp} {Q : VK} (q : t σ H fun vs H1 => ∀ x dx, H1 x = none → H1 dx = none → dx ≠ x → sp (.ref x :: vs) (upd (upd H1 dx (.own x)) x (.ins C dx [])) (fun v H2 => v = .non ∧ Q (.ref x) H2) (WE W σ)) : tMakeS C sp W t σ H Q := q
end L2
namespace FE
open PySem L2 K01 RZ
abbrev s_read : Stmt := top 66
abbrev N_read : List Str := ["text", "reader", "found"]
abbrev P_read : List Str := ["text"]
theorem sc_read : FnScope N_read P_read (defScope s_read) := ⟨rfl, rfl, rfl, by decide +kernel, rfl, by decide +kernel, by decide +kernel⟩
structure Txd (K : PySem.W.Frag) (mg : Str → Option Value) : Prop where
  e_TooDeep : ErrTxt K mg "TooDeep" (He.ga K "TooDeep")
  f_tuple : mg "tuple" = none
  g_MOST_DEEP : ∃ u, mg "MOST_DEEP" = some (.int 50 u)
/-- what is read is no more than can be laid out -/
def Fits (ds : List D) : Prop := (∀ d ∈ ds, WfI d) ∧ (∀ n, (layN n (firsts ds)).length ≤ sizeLine) ∧ ds.length ≤ big
def isDeep (ds : List D) : Bool := decide (depthN 51 (firsts ds) > 50)
def spRead (K : PySem.W.Frag) : Sp := fun vs H Q E => ∃ (t : List Nat) (r : Res), vs = [.str (Sg t)] ∧ t.length ≤ big ∧ Lex t 1 r ∧ match r with
  | .error l => ∀ H', Same H H' → Bads K E H' l
  | .ok ks => match pAll ks with
    | .out => False
    | .bad q => ∀ H', Same H H' → Bads K E H' (lineOf (1 + nl t) q)
    | .ok ds _ => Fits ds ∧ if isDeep ds = true then ∀ H', Same H H' → E (.ref (He.ga K "TooDeep")) none H' else ∀ v H', Same H H' → Rep H' v (.tup ds) → Q v H'
section
variable {P : Program} {w : World} {K : PySem.W.Frag} {mg : Str → Option Value} {base : Heap} {n : Nat}
theorem iteT' {c : Prop} [Decidable c] {A B : Prop} (hc : c) (h : A) : if decide c = true then A else B := by
  rw [decide_eq_true hc]
  exact h
theorem iteF' {c : Prop} [Decidable c] {A B : Prop} (hc : ¬ c) (h : B) : if decide c = true then A else B := by
  rw [decide_eq_false hc]
  exact h
theorem items_eq (n : Nat) (r : List TK) : items (n + 1) r = match r with
    | [] => .ok [] []
    | _ :: _ => (bn pItem fun a => bn (items n) fun as => rt (a :: as)) r := rfl
theorem ok_read (T : Txd K mg) (TR : Txr P w K mg) {f : Addr} {fd : FuncData} (F : FnP K "read" s_read f fd) (RM : RdM P w K mg base) {fi : Addr} {fdi : FuncData} (MkR : Mk K (He.ga K "Reader") fi) (gR : mg "Reader" = some (.ref (He.ga K "Reader")))
    (FI : FnN n P w K mg base (L2.CX P w) 6 fi fdi P_Reader_init (spInit K)) (BI : Binds K fdi P_Reader_init []) (D_read_item : Cal P w K mg base (L2.CX P w) 180 "read_item" P_read_item (spP K 0 pItem)) (D_raw_depth : Cal P w K mg base CX0 4 "raw_depth" P_raw_depth spRaw) :
    FnN n P w K mg base (L2.CX P w) 182 f fd P_read (spRead K) := by
  obtain ⟨D_Reader_is_more, D_Reader_sort_at, D_Reader_is_ahead, D_Reader_ahead_of, D_Reader_bind_ahead, D_Reader_wrong, D_Reader_take, D_Reader_want, D_Reader_want_name, D_Reader_skips⟩ := RM
  refine F.okN sc_read (fun vs H Q E h => ?_) (fun cdv A outer s H vs Q E hr h => ?_)
  · obtain ⟨t, r, rfl, _⟩ := h
    rfl
  · obtain ⟨t, r, rfl, hz, hL, q⟩ := h
    refine ⟨_, (pssn_cons (psn_asg (pen_makeS MkR FI (hr.mono (by decide)) rfl gR BI (takes_of rfl rfl rfl rfl) (pan_of (pa_cons (pv 0) pa_nil))) (pg_name (i := 1) sc_read.nd rfl (Or.inl rfl)))
  (pssn_cons (psn_of (ps_set (i := 2) sc_read.nd rfl (Or.inl rfl) (pe_lst pa_nil)))
  (pssn_cons (psn_of (ps_while (passes_of rfl) (pt_val (pe_met0 (pv 1) D_Reader_is_more hr rfl pass0)) (pss_one (ps_expr (pe_bm PySem.F.plainAttrs_list PySem.F.slot_list_append PySem.F.type_list_append mt_append (pv 2) (pa_cons (pe_calS D_read_item hr rfl rfl (takes_of rfl rfl rfl rfl) (pa_cons (pv 1) pa_nil)) pa_nil))))))
  (pssn_cons (psn_of (ps_if (pt_cmpR op_gt (pe_cal D_raw_depth hr rfl rfl pass0 (pa_cons (pv 2) (pa_cons (pe_gi T.g_MOST_DEEP) pa_nil))) (pe_gi T.g_MOST_DEEP) (nomark _)) (pss_one (ps_raise0 rfl T.e_TooDeep (takes_of rfl rfl rfl rfl))) pss_nil))
  (pssn_one (psn_of (ps_ret (pe_callTy call_tuple_of (by rfl) T.f_tuple (by decide +kernel) (pa_cons (pv 2) pa_nil))))))))), ?_⟩
    walk_at "w"
    refine w_makeS ?_
    walk_at "w"
    intro x dx hx hdx hne
    have s1 : Same H (upd (upd H dx (.own x)) x (.ins (He.ga K "Reader") dx [])) := (sameUpd hdx).trans (sameUpd (by rw [upd_ne (Ne.symm hne)]; exact hx))
    have h1 : (upd (upd H dx (.own x)) x (.ins (He.ga K "Reader") dx [])) x = some (.ins (He.ga K "Reader") dx []) := upd_same
    generalize upd (upd H dx (.own x)) x (.ins (He.ga K "Reader") dx []) = H1 at s1 h1 ⊢
    refine ⟨x, dx, t, r, rfl, h1, hz, hL, ?_⟩
    cases r with
    | error l => exact fun H' s' => q H' (s1.trans s')
    | ok ks =>
      intro W H2 k2 R2
      refine ⟨rfl, ?_⟩
      have s2 : Same H H2 := fun b o e => k2 b o (ne_of_none e hx) (s1 _ _ e)
      walk_at "w"
      refine ⟨by show 0 ≤ sizeLine; decide, fun L hL => ?_⟩
      refine w_name ?_
      have hLr : L ≠ x := R2.free hL
      have hLW := R2.freeW hL
      have R3 := R2.same (sameUpd (o := .lst []) hL)
      have kA : KeepF x H2 (upd H2 L (.lst [])) := keepF_updL .refl hL
      have h3 : (upd H2 L (.lst [])) L = some (.lst []) := upd_same
      have hbig := R2.len
      have hsz : big + 2 < sizeLine := by decide
      have hb2 : big = 200000 := rfl
      generalize upd H2 L (.lst []) = H3 at R3 kA h3 ⊢
      let GL : R (List D) → Prop := fun res => match res with
        | .out => False
        | .bad r => ∀ H', KeepF x H2 H' → Bads K E H' (lineOf (1 + nl t) r)
        | .ok ds _ => Fits ds ∧ if isDeep ds = true then ∀ H', Same H H' → E (.ref (He.ga K "TooDeep")) none H' else ∀ v H', Same H H' → Rep H' v (.tup ds) → Q v H'
      have hx2 : ∀ {b : Addr} {o : HO}, H b = some o → b ≠ x := fun e => ne_of_none e hx
      have sK : ∀ {H'}, KeepF x H2 H' → Same H H' := fun k b o e => k b o (hx2 e) (s2 _ _ e)
      have g0 : GL (items (ks.length + 1) ks) := by
        dsimp only at q
        cases e : items (ks.length + 1) ks with
        | out => rw [show pAll ks = .out from e] at q; exact q
        | bad r => rw [show pAll ks = .bad r from e] at q; exact fun H' k => q H' (sK k)
        | ok ds r => rw [show pAll ks = .ok ds r from e] at q; exact q
      walk_at "w"
      refine ⟨fun n σ' H' => ∃ (us : List V) (as : List D) (r' : List TK), σ' = [some (.str (Sg t)), some (.ref x), some (.ref L)] ∧ H' L = some (.lst us) ∧ Reps H' us as ∧ us.length + n ≤ big + 2 ∧ Rdr K H' x ⟨W, ks⟩ (1 + nl t) r' 0 ∧ KeepF x H2 H' ∧ GL (bn (items n) (fun bs => rt (as ++ bs)) r'), ⟨ks.length + 1, [], [], ks, rfl, h3, .nil, by show 0 + (ks.length + 1) ≤ big + 2; omega, R3, kA, ?_⟩, ?_⟩
      · unfold bn
        cases e : items (ks.length + 1) ks with
        | out => rw [e] at g0; exact g0
        | bad r => rw [e] at g0; exact g0
        | ok ds r => rw [e] at g0; exact g0
      rintro n σ' H4 ⟨us, as, r', rfl, h4L, hA, hn, R5, k5, G5⟩
      walk_at "w"
      refine w_rd 1 rfl R5 (by decide +kernel) ?_
      walk_at "w"
      refine ⟨x, ⟨W, ks⟩, _, r', 0, rfl, R5, ?_⟩
      cases n with
      | zero => exact G5.elim
      | succ n =>
      cases r' with
      | nil =>
        have G6 : GL (.ok as []) := by
          have : bn (items (n + 1)) (fun bs => rt (as ++ bs)) [] = .ok (as ++ []) [] := rfl
          rw [this, List.append_nil] at G5
          exact G5
        obtain ⟨⟨f1, f2, f3⟩, g6⟩ := G6
        refine w_bl ?_
        refine w_f ?_
        walk_at "w"
        refine ⟨L, us, as, rfl, h4L, hA.all, f1, f2, fun H6 s6 => ?_⟩
        walk_at "w"
        have sH := (sK k5).trans s6
        by_cases hd : 50 < depthN 51 (firsts as)
        · rw [show isDeep as = true from decide_eq_true hd, if_pos rfl] at g6
          refine iteT' (by omega) ?_
          exact g6 H6 sH
        · rw [show isDeep as = false from decide_eq_false hd, if_neg Bool.false_ne_true] at g6
          refine iteF' (by omega) ?_
          walk_at "w"
          have h6L := s6 _ _ h4L
          refine ⟨L, us, rfl, .inl ⟨.of h6L, fun l hl => ?_⟩⟩
          have s7 : Same H6 (upd H6 l (.tup us)) := sameUpd hl
          exact g6 (.ref l) _ (sH.trans s7) (.ofs upd_same ((hA.mono fun p xs e => s6 _ _ e).mono fun p xs e => s7 _ _ e))
      | cons t' r' =>
        refine w_bl ?_
        refine w_t ⟨fun σ' H' => ∃ m', m' < n + 1 ∧ ∃ (us : List V) (as : List D) (r' : List TK), σ' = [some (.str (Sg t)), some (.ref x), some (.ref L)] ∧ H' L = some (.lst us) ∧ Reps H' us as ∧ us.length + m' ≤ big + 2 ∧ Rdr K H' x ⟨W, ks⟩ (1 + nl t) r' 0 ∧ KeepF x H2 H' ∧ GL (bn (items m') (fun bs => rt (as ++ bs)) r'), fun _ _ z => z, ?_⟩
        walk_at "w"
        refine ⟨.inl ⟨rfl, _, .of h4L⟩, ?_⟩
        walk_at "w"
        have e5 : bn (items (n + 1)) (fun bs => rt (as ++ bs)) (t' :: r') = bn pItem (fun a => bn (items n) fun bs => rt (as ++ (a :: bs))) (t' :: r') := by
          show bn (bn pItem fun a => bn (items n) fun as => rt (a :: as)) (fun bs => rt (as ++ bs)) (t' :: r') = _
          rw [bn_assoc]
          refine congrArg (fun g => bn pItem g (t' :: r')) (funext fun a => ?_)
          rw [bn_assoc]
          rfl
        rw [e5] at G5
        refine ⟨x, ⟨W, ks⟩, _, t' :: r', rfl, R5, ?_⟩
        unfold bn at G5
        cases eI : pItem (t' :: r') with
        | out => rw [eI] at G5; exact G5
        | bad q' => rw [eI] at G5; exact fun H' k' => G5 H' (k5.trans k')
        | ok a q' =>
          rw [eI] at G5
          intro H7 v7 k7 R7 e7
          walk_at "w"
          have h7L := KeepF.lst R5 k7 h4L
          refine ⟨L, us, _, rfl, rfl, h7L, by omega, ?_⟩
          refine ⟨n, Nat.lt_succ_self _, us ++ [v7], as ++ [a], q', rfl, upd_same, ((hA.mono (KeepF.tups R5 k7)).mono (tup_updL h7L)).snoc (e7.mono (tup_updL h7L)), by rw [List.length_append, List.length_singleton]; omega, R7.updL hLr hLW h7L _, keepF_updL (k5.trans k7) hL, ?_⟩
          rw [show (fun bs : List D => rt (as ++ [a] ++ bs)) = fun bs => rt (as ++ (a :: bs)) from funext fun bs => by rw [List.append_assoc]; rfl]
          exact G5
end
end FE
/-! ## laws of readings, in plain Lean -/
namespace FE
open PySem L2 K01
theorem szs_app : ∀ (a b : List D), szs (a ++ b) = szs a + szs b
  | [], b => by
    show szs b = 0 + szs b
    omega
  | x :: a, b => by
    show sz x + szs (a ++ b) = sz x + szs a + szs b
    rw [szs_app a b]
    omega
def shT (k : Int) (t : TK) : TK := ⟨t.s, t.v, t.l + k⟩
def shR {α : Type} (k : Int) : R α → R α
  | .out => .out
  | .bad r => .bad (r.map (shT k))
  | .ok a r => .ok a (r.map (shT k))
/-- f reads what is no longer than n, g what is no longer than m, as f and more -/
structure Gd2 {α : Type} (n m : Nat) (C : List TK → Prop) (φ : α → Nat → Prop) (f g : M α) : Prop where
  tot : ∀ r, r.length < n → f r ≠ .out
  ok : ∀ r a q, r.length < n → f r = .ok a q → ∃ p, r = p ++ q ∧ φ a p.length
  bd : ∀ r q, r.length < n → f r = .bad q → ∃ p, r = p ++ q
  ext : ∀ r u a t q, r.length < n → (r ++ u).length < m → f r = .ok a (t :: q) → g (r ++ u) = .ok a (t :: (q ++ u))
  exb : ∀ r u t q, r.length < n → (r ++ u).length < m → f r = .bad (t :: q) → g (r ++ u) = .bad (t :: (q ++ u))
  str : ∀ r u a, C u → r.length < n → (r ++ u).length < m → f r = .ok a [] → g (r ++ u) = .ok a u
  sh : ∀ k r, r.length < n → r.length < m → g (r.map (shT k)) = shR k (f r)
def Gd {α : Type} (C : List TK → Prop) (φ : α → Nat → Prop) (f : M α) : Prop := ∀ n m, Gd2 n m C φ f f
def No : List TK → Prop := fun _ => False
def Ye : List TK → Prop := fun _ => True
section
variable {α β : Type} {n m n' m' : Nat} {C C1 : List TK → Prop} {φ : α → Nat → Prop} {f f' : M α}
theorem Gd2.imp {ψ : α → Nat → Prop} (h : Gd2 n m C φ f f') (k : ∀ a i, φ a i → ψ a i) : Gd2 n m C ψ f f' := ⟨h.tot, fun r a q l e => (h.ok r a q l e).imp fun p z => ⟨z.1, k _ _ z.2⟩, h.bd, h.ext, h.exb, h.str, h.sh⟩
theorem Gd2.wk (h : Gd2 n m C φ f f') (k : ∀ u, C1 u → C u) : Gd2 n m C1 φ f f' := ⟨h.tot, h.ok, h.bd, h.ext, h.exb, fun r u a c => h.str r u a (k u c), h.sh⟩
theorem Gd2.le (h : Gd2 n m C φ f f') (h1 : n' ≤ n) (h2 : m' ≤ m) : Gd2 n' m' C φ f f' := ⟨fun r l => h.tot r (by omega), fun r a q l => h.ok r a q (by omega), fun r q l => h.bd r q (by omega), fun r u a t q l1 l2 => h.ext r u a t q (by omega) (by omega), fun r u t q l1 l2 => h.exb r u t q (by omega) (by omega), fun r u a c l1 l2 => h.str r u a c (by omega) (by omega), fun k r l1 l2 => h.sh k r (by omega) (by omega)⟩
theorem bn_okI {g : α → M β} {r : List TK} {b : β} {q : List TK} (h : bn f g r = .ok b q) : ∃ a q0, f r = .ok a q0 ∧ g a q0 = .ok b q := by
  unfold bn at h
  split at h
  · cases h
  · cases h
  · rename_i a q0 e
    exact ⟨a, q0, e, h⟩
theorem bn_badI {g : α → M β} {r : List TK} {q : List TK} (h : bn f g r = .bad q) : f r = .bad q ∨ ∃ a q0, f r = .ok a q0 ∧ g a q0 = .bad q := by
  unfold bn at h
  split at h
  · cases h
  · rename_i q0 e
    cases h
    exact .inl e
  · rename_i a q0 e
    exact .inr ⟨a, q0, e, h⟩
theorem bn_okE {g : α → M β} {r : List TK} {a : α} {q0 : List TK} (h : f r = .ok a q0) : bn f g r = g a q0 := by
  unfold bn
  rw [h]
theorem bn_badE {g : α → M β} {r : List TK} {q0 : List TK} (h : f r = .bad q0) : bn f g r = .bad q0 := by
  unfold bn
  rw [h]
theorem Gd2.bn {ψ : α → β → Nat → Prop} {χ : β → Nat → Prop} {g g' : α → M β} (F : Gd2 n m C1 φ f f') (G : ∀ a i, φ a i → Gd2 n' m' C (ψ a) (g a) (g' a)) (hl : ∀ a i, φ a i → n ≤ n' + i ∧ m ≤ m' + i)
    (hx : ∀ a b i j, φ a i → ψ a b j → χ b (i + j)) (hs : (∀ u, C u → C1 u) ∨ ∀ a i b q, φ a i → g a [] ≠ .ok b q) : Gd2 n m C χ (FE.bn f g) (FE.bn f' g') where
  tot := fun r l e => by
    unfold FE.bn at e
    split at e
    · rename_i e'
      exact F.tot r l e'
    · cases e
    · rename_i a q e'
      obtain ⟨p, rfl, h⟩ := F.ok r a q l e'
      have z := hl a _ h
      rw [List.length_append] at l
      exact (G a _ h).tot q (by omega) e
  ok := fun r b q l e => by
    obtain ⟨a, q0, e1, e2⟩ := bn_okI e
    obtain ⟨p, rfl, h⟩ := F.ok r a q0 l e1
    have z := hl a _ h
    rw [List.length_append] at l
    obtain ⟨p2, rfl, h2⟩ := (G a _ h).ok q0 b q (by omega) e2
    refine ⟨p ++ p2, by rw [List.append_assoc], ?_⟩
    rw [List.length_append]
    exact hx _ _ _ _ h h2
  bd := fun r q l e => by
    rcases bn_badI e with e1 | ⟨a, q0, e1, e2⟩
    · exact F.bd r q l e1
    · obtain ⟨p, rfl, h⟩ := F.ok r a q0 l e1
      have z := hl a _ h
      rw [List.length_append] at l
      obtain ⟨p2, rfl⟩ := (G a _ h).bd q0 q (by omega) e2
      exact ⟨p ++ p2, by rw [List.append_assoc]⟩
  ext := fun r u b t q l1 l2 e => by
    obtain ⟨a, q0, e1, e2⟩ := bn_okI e
    obtain ⟨p, rfl, h⟩ := F.ok r a q0 l1 e1
    have z := hl a _ h
    rw [List.length_append, List.length_append] at l2
    rw [List.length_append] at l1
    cases q0 with
    | nil =>
      obtain ⟨p2, hp, _⟩ := (G a _ h).ok [] b _ (by omega) e2
      exact absurd (congrArg List.length hp) (by rw [List.length_append, List.length_cons, List.length_nil]; omega)
    | cons t0 q0 =>
      rw [bn_okE (F.ext _ u a t0 q0 (by rw [List.length_append]; omega) (by rw [List.length_append, List.length_append]; omega) e1)]
      exact (G a _ h).ext (t0 :: q0) u b t q (by omega) (by rw [List.length_append]; omega) e2
  exb := fun r u t q l1 l2 e => by
    rcases bn_badI e with e1 | ⟨a, q0, e1, e2⟩
    · exact bn_badE (F.exb r u t q l1 l2 e1)
    · obtain ⟨p, rfl, h⟩ := F.ok r a q0 l1 e1
      have z := hl a _ h
      rw [List.length_append, List.length_append] at l2
      rw [List.length_append] at l1
      cases q0 with
      | nil =>
        obtain ⟨p2, hp⟩ := (G a _ h).bd [] _ (by omega) e2
        exact absurd (congrArg List.length hp) (by rw [List.length_append, List.length_cons, List.length_nil]; omega)
      | cons t0 q0 =>
        rw [bn_okE (F.ext _ u a t0 q0 (by rw [List.length_append]; omega) (by rw [List.length_append, List.length_append]; omega) e1)]
        exact (G a _ h).exb (t0 :: q0) u t q (by omega) (by rw [List.length_append]; omega) e2
  str := fun r u b c l1 l2 e => by
    obtain ⟨a, q0, e1, e2⟩ := bn_okI e
    obtain ⟨p, rfl, h⟩ := F.ok r a q0 l1 e1
    have z := hl a _ h
    rw [List.length_append, List.length_append] at l2
    rw [List.length_append] at l1
    cases q0 with
    | nil =>
      have e3 : f' (p ++ [] ++ u) = .ok a u := by
        rcases hs with hs | hs
        · exact F.str _ u a (hs u c) (by rw [List.length_append]; omega) (by rw [List.length_append, List.length_append]; omega) e1
        · exact absurd e2 (hs a _ b [] h)
      rw [bn_okE e3]
      exact (G a _ h).str [] u b c (by omega) (by rw [List.length_append]; omega) e2
    | cons t0 q0 =>
      rw [bn_okE (F.ext _ u a t0 q0 (by rw [List.length_append]; omega) (by rw [List.length_append, List.length_append]; omega) e1)]
      exact (G a _ h).str (t0 :: q0) u b c (by omega) (by rw [List.length_append]; omega) e2
  sh := fun k r l1 l2 => by
    have s1 := F.sh k r l1 l2
    unfold FE.bn
    rw [s1]
    cases e : f r with
    | out => rfl
    | bad q => rfl
    | ok a q =>
      obtain ⟨p, rfl, h⟩ := F.ok r a q l1 e
      have z := hl a _ h
      rw [List.length_append] at l1 l2
      exact (G a _ h).sh k q (by omega) (by omega)
theorem Gd2.rt {a : α} : Gd2 n m Ye (fun b j => b = a ∧ j = 0) (FE.rt a) (FE.rt a) where
  tot := fun r _ e => by cases e
  ok := fun r b q _ e => by cases e; exact ⟨[], rfl, rfl, rfl⟩
  bd := fun r q _ e => by cases e
  ext := fun r u b t q _ _ e => by cases e; rfl
  exb := fun r u t q _ _ e => by cases e
  str := fun r u b _ _ _ e => by cases e; rfl
  sh := fun k r _ _ => rfl
theorem Gd2.wrong : Gd2 n m Ye φ (FE.wrong) (FE.wrong) where
  tot := fun r _ e => by cases e
  ok := fun r b q _ e => by cases e
  bd := fun r q _ e => by cases e; exact ⟨[], rfl⟩
  ext := fun r u b t q _ _ e => by cases e
  exb := fun r u t q _ _ e => by cases e; rfl
  str := fun r u b _ _ _ e => by cases e
  sh := fun k r _ _ => rfl
/-- what is read of one word -/
def hd (h : TK → Option α) : M α := fun r => match r with
  | t :: q => (match h t with
    | some a => .ok a q
    | none => .bad (t :: q))
  | [] => .bad []
theorem hd_cons (h : TK → Option α) (t : TK) (q : List TK) : hd h (t :: q) = match h t with | some a => .ok a q | none => .bad (t :: q) := rfl
theorem Gd2.hd {h : TK → Option α} (k : ∀ k t, h (shT k t) = h t) : Gd2 n m Ye (fun a i => i = 1 ∧ ∃ t, h t = some a) (FE.hd h) (FE.hd h) where
  tot := fun r _ e => by
    cases r with
    | nil => cases e
    | cons t q =>
      rw [hd_cons] at e
      cases e' : h t with
      | none => rw [e'] at e; cases e
      | some a => rw [e'] at e; cases e
  ok := fun r b q _ e => by
    cases r with
    | nil => cases e
    | cons t q' =>
      rw [hd_cons] at e
      cases e' : h t with
      | none => rw [e'] at e; cases e
      | some a =>
        rw [e'] at e
        cases e
        exact ⟨[t], rfl, rfl, t, e'⟩
  bd := fun r q _ e => by
    cases r with
    | nil => cases e; exact ⟨[], rfl⟩
    | cons t q' =>
      rw [hd_cons] at e
      cases e' : h t with
      | none => rw [e'] at e; cases e; exact ⟨[], rfl⟩
      | some a => rw [e'] at e; cases e
  ext := fun r u b t q _ _ e => by
    cases r with
    | nil => cases e
    | cons t' q' =>
      rw [List.cons_append, hd_cons]
      rw [hd_cons] at e
      cases e' : h t' with
      | none => rw [e'] at e; cases e
      | some a => rw [e'] at e; cases e; rfl
  exb := fun r u t q _ _ e => by
    cases r with
    | nil => cases e
    | cons t' q' =>
      rw [List.cons_append, hd_cons]
      rw [hd_cons] at e
      cases e' : h t' with
      | none => rw [e'] at e; cases e; rfl
      | some a => rw [e'] at e; cases e
  str := fun r u b _ _ _ e => by
    cases r with
    | nil => cases e
    | cons t' q' =>
      rw [List.cons_append, hd_cons]
      rw [hd_cons] at e
      cases e' : h t' with
      | none => rw [e'] at e; cases e
      | some a => rw [e'] at e; cases e; rfl
  sh := fun j r _ _ => by
    cases r with
    | nil => rfl
    | cons t q =>
      rw [List.map_cons, hd_cons, hd_cons, k]
      cases h t <;> rfl
/-- what depends on the word ahead alone -/
structure Hd (b : List TK → Bool) : Prop where
  nil : b [] = false
  app : ∀ t q u, b (t :: q ++ u) = b (t :: q)
  sh : ∀ k r, b (r.map (shT k)) = b r
theorem Gd2.ite {b : List TK → Bool} {g g' : M α} (hb : Hd b) (A : Gd2 n m C φ f f') (B : Gd2 n m C φ g g') (hs : (∀ u, C u → b u = false) ∨ ∀ a q, g [] ≠ .ok a q) : Gd2 n m C φ (fun r => if b r = true then f r else g r) (fun r => if b r = true then f' r else g' r) where
  tot := fun r l e => by
    cases e' : b r with
    | true => exact A.tot r l (by rw [e', if_pos rfl] at e; exact e)
    | false => exact B.tot r l (by rw [e', if_neg Bool.false_ne_true] at e; exact e)
  ok := fun r a q l e => by
    cases e' : b r with
    | true => exact A.ok r a q l (by rw [e', if_pos rfl] at e; exact e)
    | false => exact B.ok r a q l (by rw [e', if_neg Bool.false_ne_true] at e; exact e)
  bd := fun r q l e => by
    cases e' : b r with
    | true => exact A.bd r q l (by rw [e', if_pos rfl] at e; exact e)
    | false => exact B.bd r q l (by rw [e', if_neg Bool.false_ne_true] at e; exact e)
  ext := fun r u a t q l1 l2 e => by
    cases r with
    | nil =>
      rw [hb.nil, if_neg Bool.false_ne_true] at e
      obtain ⟨p, hp, _⟩ := B.ok [] _ _ l1 e
      exact absurd (congrArg List.length hp) (by rw [List.length_append, List.length_cons, List.length_nil]; omega)
    | cons t' q' =>
      show (if b (t' :: q' ++ u) = true then f' _ else g' _) = _
      rw [hb.app]
      cases e' : b (t' :: q') with
      | true =>
        rw [e', if_pos rfl] at e
        rw [if_pos rfl]
        exact A.ext _ u a t q l1 l2 e
      | false =>
        rw [e', if_neg Bool.false_ne_true] at e
        rw [if_neg Bool.false_ne_true]
        exact B.ext _ u a t q l1 l2 e
  exb := fun r u t q l1 l2 e => by
    cases r with
    | nil =>
      rw [hb.nil, if_neg Bool.false_ne_true] at e
      obtain ⟨p, hp⟩ := B.bd [] _ l1 e
      exact absurd (congrArg List.length hp) (by rw [List.length_append, List.length_cons, List.length_nil]; omega)
    | cons t' q' =>
      show (if b (t' :: q' ++ u) = true then f' _ else g' _) = _
      rw [hb.app]
      cases e' : b (t' :: q') with
      | true =>
        rw [e', if_pos rfl] at e
        rw [if_pos rfl]
        exact A.exb _ u t q l1 l2 e
      | false =>
        rw [e', if_neg Bool.false_ne_true] at e
        rw [if_neg Bool.false_ne_true]
        exact B.exb _ u t q l1 l2 e
  str := fun r u a c l1 l2 e => by
    cases r with
    | nil =>
      rw [hb.nil, if_neg Bool.false_ne_true] at e
      rcases hs with hs | hs
      · show (if b u = true then f' _ else g' _) = _
        rw [hs u c, if_neg Bool.false_ne_true]
        exact B.str [] u a c l1 l2 e
      · exact absurd e (hs a [])
    | cons t' q' =>
      show (if b (t' :: q' ++ u) = true then f' _ else g' _) = _
      rw [hb.app]
      cases e' : b (t' :: q') with
      | true =>
        rw [e', if_pos rfl] at e
        rw [if_pos rfl]
        exact A.str _ u a c l1 l2 e
      | false =>
        rw [e', if_neg Bool.false_ne_true] at e
        rw [if_neg Bool.false_ne_true]
        exact B.str _ u a c l1 l2 e
  sh := fun k r l1 l2 => by
    show (if b (r.map (shT k)) = true then f' _ else g' _) = shR k (if b r = true then f r else g r)
    rw [hb.sh]
    cases b r with
    | true =>
      rw [if_pos rfl, if_pos rfl]
      exact A.sh k r l1 l2
    | false =>
      rw [if_neg Bool.false_ne_true, if_neg Bool.false_ne_true]
      exact B.sh k r l1 l2
theorem Gd2.iteT {b : List TK → Bool} {g g' : M α} {ψ : α → Nat → Prop} (hb : Hd b) (A : Gd2 n' m' C φ f f') (B : Gd2 n m C ψ g g') (h1 : n ≤ n' + 1) (h2 : m ≤ m' + 1) (hx : ∀ a i, φ a i → ψ a (1 + i)) (hs : (∀ u, C u → b u = false) ∨ ∀ a q, g [] ≠ .ok a q) : Gd2 n m C ψ (fun r => if b r = true then f r.tail else g r) (fun r => if b r = true then f' r.tail else g' r) := by
  have e : ∀ f g : M α, (fun r => if b r = true then f r.tail else g r) = fun r => if b r = true then (FE.bn (FE.hd fun _ => some ()) fun _ => f) r else g r := fun f g => by
    funext r
    cases r with
    | nil => rw [hb.nil, if_neg Bool.false_ne_true, if_neg Bool.false_ne_true]
    | cons t q => rfl
  rw [e f g, e f' g']
  exact .ite hb (.bn (Gd2.hd fun _ _ => rfl) (fun _ _ _ => A) (fun _ i z => by obtain ⟨rfl, _⟩ := z; exact ⟨h1, h2⟩) (fun _ b i j z y => by obtain ⟨rfl, _⟩ := z; exact hx b j y) (.inl fun _ _ => trivial)) B hs
theorem Gd2.fuel {F : Nat → M α} (h : ∀ n m, Gd2 n m C φ (F n) (F m)) : Gd C φ fun r => F (r.length + 1) r := fun n m => {
  tot := fun r _ => (h (r.length + 1) 0).tot r (Nat.lt_succ_self _)
  ok := fun r a q _ => (h (r.length + 1) 0).ok r a q (Nat.lt_succ_self _)
  bd := fun r q _ => (h (r.length + 1) 0).bd r q (Nat.lt_succ_self _)
  ext := fun r u a t q _ _ => (h (r.length + 1) ((r ++ u).length + 1)).ext r u a t q (Nat.lt_succ_self _) (Nat.lt_succ_self _)
  exb := fun r u t q _ _ => (h (r.length + 1) ((r ++ u).length + 1)).exb r u t q (Nat.lt_succ_self _) (Nat.lt_succ_self _)
  str := fun r u a c _ _ => (h (r.length + 1) ((r ++ u).length + 1)).str r u a c (Nat.lt_succ_self _) (Nat.lt_succ_self _)
  sh := fun k r _ _ => by
    show F ((r.map (shT k)).length + 1) (r.map (shT k)) = _
    rw [List.length_map]
    exact (h (r.length + 1) (r.length + 1)).sh k r (Nat.lt_succ_self _) (Nat.lt_succ_self _) }
theorem Gd2.zero {g : M α} (h : Gd2 0 m C φ f g) : True := trivial
theorem Gd2.none {g : M α} : Gd2 0 m C φ f g := ⟨fun r l => absurd l (Nat.not_lt_zero _), fun r a q l => absurd l (Nat.not_lt_zero _), fun r q l => absurd l (Nat.not_lt_zero _), fun r u a t q l => absurd l (Nat.not_lt_zero _), fun r u t q l => absurd l (Nat.not_lt_zero _), fun r u a c l => absurd l (Nat.not_lt_zero _), fun k r l => absurd l (Nat.not_lt_zero _)⟩
/-- the second reading matters to long texts alone -/
theorem Gd2.none2 {g g' : M α} (h : Gd2 n m C φ f g) : Gd2 n 0 C φ f g' := ⟨h.tot, h.ok, h.bd, fun r u a t q _ l => absurd l (Nat.not_lt_zero _), fun r u t q _ l => absurd l (Nat.not_lt_zero _), fun r u a c _ l => absurd l (Nat.not_lt_zero _), fun k r _ l => absurd l (Nat.not_lt_zero _)⟩
theorem Gd2.loop {X : Type} {P : X → Prop} {ψ : X → α → Nat → Prop} {F : Nat → X → M α} (step : ∀ n m, (∀ x, P x → Gd2 n m C (ψ x) (F n x) (F m x)) → ∀ x, P x → Gd2 (n + 1) (m + 1) C (ψ x) (F (n + 1) x) (F (m + 1) x)) : ∀ n m x, P x → Gd2 n m C (ψ x) (F n x) (F m x)
  | 0, m, x, _ => .none
  | n + 1, 0, x, h => (step n 0 (Gd2.loop step n 0) x h).none2
  | n + 1, m + 1, x, h => step n m (Gd2.loop step n m) x h
end
end FE
namespace FE
open PySem L2 K01
theorem hd_ahead (w : Str) : Hd (isAhead w) := ⟨rfl, fun _ _ _ => rfl, fun k r => by cases r <;> rfl⟩
theorem hd_aheadOf (ws : List Str) : Hd fun r => (aheadOf ws r).isSome := ⟨rfl, fun _ _ _ => rfl, fun k r => by cases r <;> rfl⟩
theorem hd_and {b : List TK → Bool} (h : Hd b) (c : Bool) : Hd fun r => b r && c := ⟨by rw [h.nil]; rfl, fun t q u => by rw [h.app], fun k r => by rw [h.sh]⟩
section
variable {n m : Nat}
/-- one word -/
abbrev U1 {α : Type} : α → Nat → Prop := fun _ i => i = 1
theorem g_want (w : Str) : Gd Ye U1 (want w) := fun n m => by
  have e : want w = fun r => if isAhead w r = true then (rt ()) r.tail else wrong r := rfl
  rw [e]
  refine .iteT (n' := n) (m' := m) (φ := fun _ i => i = 0) (hd_ahead w) (Gd2.imp .rt fun _ _ z => z.2) .wrong (Nat.le_succ _) (Nat.le_succ _) (fun a i z => by subst z; rfl) (.inr fun a q z => by cases z)
theorem want_nil (w : Str) : want w [] = .bad [] := rfl
theorem skips_gd (w : Str) : Gd (fun u => isAhead w u = false) (fun _ _ => True) (skips w) := fun n m => by
  have e : skips w = fun r => if isAhead w r = true then (rt true) r.tail else (rt false) r := rfl
  rw [e]
  exact .iteT (n' := n) (m' := m) (φ := fun _ _ => True) (hd_ahead w) ((Gd2.imp .rt fun _ _ z => trivial).wk fun _ _ => trivial) ((Gd2.imp .rt fun _ _ z => trivial).wk fun _ _ => trivial) (Nat.le_succ _) (Nat.le_succ _) (fun _ _ z => z) (.inl fun _ z => z)
/-- a plain thing -/
abbrev Pl : D → Nat → Prop := fun d i => sz d = 0 ∧ i = 1
theorem sz_dOf (v : V) : sz (dOf v) = 0 := by cases v <;> rfl
theorem g_name : Gd Ye Pl wantName := fun n m => by
  have e : wantName = hd fun t => if t.s = "name" then some (dOf t.v) else none := by
    funext r
    cases r with
    | nil => rfl
    | cons t q =>
      show (if t.s = "name" then R.ok (dOf t.v) q else .bad (t :: q)) = _
      rw [hd_cons]
      by_cases h : t.s = "name"
      · rw [if_pos h, if_pos h]
      · rw [if_neg h, if_neg h]
  rw [e]
  refine (Gd2.hd fun _ _ => rfl).imp fun a i z => ?_
  obtain ⟨rfl, t, h⟩ := z
  refine ⟨?_, rfl⟩
  by_cases h' : t.s = "name"
  · rw [if_pos h'] at h
    cases h
    exact sz_dOf _
  · rw [if_neg h'] at h
    cases h
theorem g_take : Gd Ye Pl takeV := fun n m => by
  have e : takeV = hd fun t => some (dOf t.v) := by
    funext r
    cases r <;> rfl
  rw [e]
  refine (Gd2.hd fun _ _ => rfl).imp fun a i z => ?_
  obtain ⟨rfl, t, h⟩ := z
  cases h
  exact ⟨sz_dOf _, rfl⟩
/-- one of these words -/
def ofs (ws : List Str) : M Str := hd fun t => aheadOf ws [t]
theorem g_ofs (ws : List Str) : Gd Ye (fun z i => z ∈ ws ∧ i = 1) (ofs ws) := fun n m => by
  refine (Gd2.hd fun _ _ => rfl).imp fun a i z => ?_
  obtain ⟨rfl, t, h⟩ := z
  refine ⟨?_, rfl⟩
  simp only [aheadOf] at h
  by_cases hk : isKM t = true
  · rw [if_pos hk] at h
    cases hv : t.v with
    | str z =>
      rw [hv] at h
      by_cases hz : z ∈ ws
      · simp [hz] at h
        rw [← h]
        exact hz
      · simp [hz] at h
    | _ => rw [hv] at h; cases h
  · rw [if_neg hk] at h
    cases h
theorem ofs_eq {ws : List Str} {r : List TK} (h : (aheadOf ws r).isSome = true) : ofs ws r = .ok (headStr r) r.tail ∧ takeV r = .ok (.s (headStr r)) r.tail := by
  cases r with
  | nil => cases h
  | cons t q =>
    have e2 : ofs ws (t :: q) = _ := hd_cons _ t q
    have e4 : takeV (t :: q) = .ok (dOf t.v) q := rfl
    have h : (aheadOf ws [t]).isSome = true := h
    rw [e2, e4]
    simp only [aheadOf, headStr] at h ⊢
    by_cases hk : isKM t = true
    · simp only [hk, if_true] at h ⊢
      cases hv : t.v with
      | str z =>
        rw [hv] at h
        by_cases hz : z ∈ ws
        · simp only [hz, if_true]
          exact ⟨rfl, rfl⟩
        · simp [hz] at h
      | _ => rw [hv] at h; cases h
    · rw [if_neg hk] at h
      cases h
/-- in place of what takes any word, where one of these is ahead -/
theorem ite_ofs {α : Type} (ws : List Str) (g : D → M α) (k : M α) : (fun r => if (aheadOf ws r).isSome = true then bn takeV g r else k r) = fun r => if (aheadOf ws r).isSome = true then bn (ofs ws) (fun z => g (.s z)) r else k r := by
  funext r
  by_cases h : (aheadOf ws r).isSome = true
  · rw [if_pos h, if_pos h, bn_okE (ofs_eq h).2, bn_okE (ofs_eq h).1]
  · rw [if_neg h, if_neg h]
/-- a whole expression or statement -/
abbrev En : D → Nat → Prop := fun d i => Wf d ∧ sz d ≤ 2 * i ∧ 1 ≤ i
abbrev Ens : List D → Nat → Prop := fun as i => (∀ a ∈ as, Wf a) ∧ szs as ≤ 2 * i
/-- a tuple of such -/
abbrev Tp : D → Nat → Prop := fun d i => ∃ as, d = .tup as ∧ (∀ a ∈ as, Wf a) ∧ szs as + 4 ≤ 2 * i
def NoElse : List TK → Prop := fun u => isAhead "else" u = false
structure PsG (i : Ps) : Prop where
  e : Gd No En i.e
  st : Gd NoElse En i.st
def OpG (I : Option Ps) : Prop := ∀ i, I = some i → PsG i
theorem g_open (w : Str) (I : Option Ps) : Gd Ye (fun i j => I = some i ∧ j = 1) (wantOpen w I) := fun n m => by
  have e : wantOpen w I = hd fun t => if isAhead w [t] = true then I else none := by
    funext r
    cases r with
    | nil => rfl
    | cons t q =>
      show (if isAhead w [t] = true then (match I with | some i => R.ok i q | none => .bad (t :: q)) else .bad (t :: q)) = _
      rw [hd_cons]
      by_cases h : isAhead w [t] = true
      · rw [if_pos h, if_pos h]
        cases I <;> rfl
      · rw [if_neg h, if_neg h]
  rw [e]
  refine (Gd2.hd fun _ _ => rfl).imp fun a i z => ?_
  obtain ⟨rfl, t, h⟩ := z
  refine ⟨?_, rfl⟩
  by_cases h' : isAhead w [t] = true
  · rw [if_pos h'] at h
    exact h
  · rw [if_neg h'] at h
    cases h
/-- lists with a measure of each -/
theorem g_many {p : M D} {W : D → Prop} (hp : Gd No (fun d i => W d ∧ sz d ≤ 2 * i) p) : ∀ n m, Gd2 n m No (fun as i => (∀ a ∈ as, W a) ∧ szs as ≤ 2 * i) (many p n) (many p m) := fun n m =>
  Gd2.loop (X := Unit) (P := fun _ => True) (ψ := fun _ as i => (∀ a ∈ as, W a) ∧ szs as ≤ 2 * i) (F := fun n _ => many p n) (fun n m ih _ _ => by
    have ih := ih () trivial
    have e : ∀ n, many p (n + 1) = fun r => if isAhead "," r = true then (bn p fun a => bn (many p n) fun as => rt (a :: as)) r.tail else (rt []) r := fun n => rfl
    rw [e n, e m]
    refine .iteT (n' := n) (m' := m) (φ := fun as i => (∀ a ∈ as, W a) ∧ szs as ≤ 2 * i) (hd_ahead ",") ?_ ((Gd2.imp .rt fun a i z => ?_).wk fun _ z => z.elim) (Nat.le_refl _) (Nat.le_refl _) (fun a i z => ⟨z.1, by omega⟩) (.inl fun _ z => z.elim)
    · refine .bn (n' := n) (m' := m) (ψ := fun a as i => (∀ b ∈ as, W b ∨ b = a) ∧ szs as ≤ 2 * i + sz a) (hp n m) (fun a i h => ?_) (fun _ _ _ => ⟨Nat.le_add_right _ _, Nat.le_add_right _ _⟩) (fun a as i j h k => ⟨fun b hb => ?_, ?_⟩) (.inl fun _ z => z)
      · refine .bn (n' := n) (m' := m) (C1 := No) ih (fun as i h => (Gd2.rt.wk fun _ z => z.elim)) (fun _ _ _ => ⟨Nat.le_add_right _ _, Nat.le_add_right _ _⟩) (fun as b i j h k => ?_) (.inl fun _ z => z)
        obtain ⟨rfl, rfl⟩ := k
        refine ⟨fun b hb => ?_, ?_⟩
        · rcases List.mem_cons.mp hb with rfl | hb
          · exact .inr rfl
          · exact .inl (h.1 b hb)
        · show sz a + szs as ≤ _
          have := h.2
          omega
      · rcases k.1 b hb with z | rfl
        · exact z
        · exact h.1
      · have := h.2
        have := k.2
        omega
    · obtain ⟨rfl, rfl⟩ := z
      exact ⟨fun a h => (nomatch h), Nat.zero_le _⟩) n m () trivial
end
end FE
namespace FE
open PySem L2 K01
section
variable {n m n' m' : Nat} {I : Option Ps}
abbrev Ls (W : D → Prop) : List D → Nat → Prop := fun as i => (∀ a ∈ as, W a) ∧ szs as ≤ 2 * i
theorem le0 {α : Type} {φ : α → Nat → Prop} : ∀ a i, φ a i → n ≤ n + i ∧ m ≤ m + i := fun _ _ _ => ⟨Nat.le_add_right _ _, Nat.le_add_right _ _⟩
theorem noL {C : List TK → Prop} {p : Prop} : (∀ u, No u → C u) ∨ p := .inl fun _ z => z.elim
theorem g_cons {W : D → Prop} {φ : D → Nat → Prop} {C1 : List TK → Prop} {p : M D} {G G' : M (List D)} (hp : Gd2 n m C1 φ p p) (hφ : ∀ d i, φ d i → W d ∧ sz d ≤ 2 * i) (hG : Gd2 n' m' No (Ls W) G G') (hl : ∀ d i, φ d i → n ≤ n' + i ∧ m ≤ m' + i) :
    Gd2 n m No (Ls W) (bn p fun a => bn G fun as => rt (a :: as)) (bn p fun a => bn G' fun as => rt (a :: as)) := by
  refine .bn (n' := n') (m' := m') (ψ := fun a as i => (∀ b ∈ as, W b ∨ b = a) ∧ szs as ≤ 2 * i + sz a) hp (fun a i h => ?_) hl (fun a as i j h k => ⟨fun b hb => ?_, ?_⟩) noL
  · refine .bn (n' := n') (m' := m') (C1 := No) hG (fun as i h => (Gd2.rt.wk fun _ z => z.elim)) le0 (fun as b i j h k => ?_) noL
    obtain ⟨rfl, rfl⟩ := k
    refine ⟨fun b hb => ?_, ?_⟩
    · rcases List.mem_cons.mp hb with rfl | hb
      · exact .inr rfl
      · exact .inl (h.1 b hb)
    · show sz a + szs as ≤ _
      have := h.2
      omega
  · rcases k.1 b hb with z | rfl
    · exact z
    · exact (hφ _ _ h).1
  · have := (hφ _ _ h).2
    have := k.2
    omega
theorem g_nil {W : D → Prop} : Gd2 n m No (Ls W) (rt []) (rt []) := (Gd2.imp .rt fun a i z => by
  obtain ⟨rfl, rfl⟩ := z
  exact ⟨fun a h => (nomatch h), Nat.zero_le _⟩).wk fun _ z => z.elim
theorem g_listOf {p : M D} {W : D → Prop} {φ : D → Nat → Prop} {C1 : List TK → Prop} (hp : Gd C1 φ p) (hφ : ∀ d i, φ d i → W d ∧ sz d ≤ 2 * i) (cl : Str) : Gd No (Ls W) (listOf p cl) := by
  have hp' : Gd No (fun d i => W d ∧ sz d ≤ 2 * i) p := fun n m => ((hp n m).imp hφ).wk fun _ z => z.elim
  refine Gd2.fuel (F := fun n r => if isAhead cl r = true then (rt []) r else (bn p fun a => bn (many p n) fun as => rt (a :: as)) r) fun n m => ?_
  exact .ite (hd_ahead cl) g_nil (g_cons (hp n m) hφ (g_many hp' n m) le0) noL
/-- what has no end of its own, and then a sign -/
theorem g_then {α β : Type} {φ : α → Nat → Prop} {χ : β → Nat → Prop} {C1 : List TK → Prop} {f f' : M α} (w : Str) {g : α → β} (F : Gd2 n m C1 φ f f') (hx : ∀ a i, φ a i → χ (g a) (i + 1)) :
    Gd2 n m Ye χ (bn f fun a => bn (want w) fun _ => rt (g a)) (bn f' fun a => bn (want w) fun _ => rt (g a)) :=
  .bn (n' := n) (m' := m) (ψ := fun a b j => b = g a ∧ j = 1) F (fun a i h => .bn (n' := n) (m' := m) (ψ := fun _ b j => b = g a ∧ j = 0) (g_want w n m) (fun _ _ _ => .rt) le0 (fun _ b i j h k => ⟨k.1, by rw [h, k.2]⟩) (.inl fun _ _ => trivial)) le0 (fun a b i j h k => by obtain ⟨rfl, rfl⟩ := k; exact hx a i h) (.inr fun a i b q _ e => by cases e)
theorem g_args (hI : OpG I) (op cl : Str) : Gd Ye Tp (pArgs op cl I) := fun n m =>
  .bn (n' := n) (m' := m) (ψ := fun _ b j => ∃ as, b = .tup as ∧ (∀ a ∈ as, Wf a) ∧ szs as + 2 ≤ 2 * j) (g_open op I n m) (fun i _ h => g_then (φ := Ls Wf) cl (g_listOf (hI i h.1).e (fun d i z => ⟨z.1, z.2.1⟩) cl n m) fun as i h => ⟨as, rfl, h.1, by have := h.2; omega⟩) le0
    (fun a b i j h k => by obtain ⟨as, e, h1, h2⟩ := k; have := h.2; exact ⟨as, e, h1, by omega⟩) (.inl fun _ _ => trivial)
/-- names -/
abbrev Nm : D → Nat → Prop := fun d i => sz d = 1 ∧ 2 ≤ i
theorem szs_zero : ∀ {as : List D}, (∀ a ∈ as, sz a = 0) → szs as = 0
  | [], _ => rfl
  | a :: as, h => by
    show sz a + szs as = 0
    rw [h a (List.mem_cons_self ..), szs_zero fun b hb => h b (List.mem_cons_of_mem _ hb)]
theorem g_params : Gd Ye Nm (pParams I) := fun n m =>
  .bn (n' := n) (m' := m) (ψ := fun _ b j => sz b = 1 ∧ 1 ≤ j) (g_open "(" I n m) (fun i _ h => g_then (φ := Ls fun d => sz d = 0) ")" (g_listOf g_name (fun d i z => ⟨z.1, by rw [z.1]; exact Nat.zero_le _⟩) ")" n m) fun as i h => ⟨by show 1 + szs as = 1; rw [szs_zero h.1], Nat.le_add_left _ _⟩) le0
    (fun a b i j h k => ⟨k.1, by have := h.2; have := k.2; omega⟩) (.inl fun _ _ => trivial)
theorem g_sts {p : M D} {C1 : List TK → Prop} (hp : Gd C1 En p) : ∀ n m, Gd2 n m No (Ls Wf) (sts p n) (sts p m) := fun n m =>
  Gd2.loop (X := Unit) (P := fun _ => True) (ψ := fun _ => Ls Wf) (F := fun n _ => sts p n) (fun n m ih _ _ => by
    have ih := ih () trivial
    have e : ∀ n, sts p (n + 1) = fun r => if isAhead "}" r = true then (rt []) r else (bn p fun a => bn (sts p n) fun as => rt (a :: as)) r := fun n => rfl
    rw [e n, e m]
    exact .ite (hd_ahead "}") g_nil (g_cons (hp (n + 1) (m + 1)) (fun d i z => ⟨z.1, z.2.1⟩) ih fun d i z => ⟨by have := z.2.2; omega, by have := z.2.2; omega⟩) noL) n m () trivial
theorem g_block (hI : OpG I) : Gd Ye Tp (pBlock I) := fun n m =>
  .bn (n' := n) (m' := m) (ψ := fun _ b j => ∃ as, b = .tup as ∧ (∀ a ∈ as, Wf a) ∧ szs as + 2 ≤ 2 * j) (g_open "{" I n m) (fun i _ h => g_then (φ := Ls Wf) "}" (Gd2.fuel (g_sts (hI i h.1).st) n m) fun as i h => ⟨as, rfl, h.1, by have := h.2; omega⟩) le0
    (fun a b i j h k => by obtain ⟨as, e, h1, h2⟩ := k; have := h.2; exact ⟨as, e, h1, by omega⟩) (.inl fun _ _ => trivial)
/-- a node is whole if what is in it is -/
theorem wf_node {z : Str} {as : List D} {ps : List Str} (h : (STP ++ EXP).lookup z = some ps) (o : okParts ps as = true) (k : ∀ x ∈ kidsOf ps as, Wf x) : Wf (.tup (.s z :: as)) := by
  refine .mk ?_ fun x hx => ?_
  · show (match (STP ++ EXP).lookup z with | some ps => okParts ps as | none => false) = true
    rw [h]
    exact o
  · have e : kids (.tup (.s z :: as)) = (match (STP ++ EXP).lookup z with | some ps => kidsOf ps as | none => []) := rfl
    rw [e, h] at hx
    exact k x hx
theorem kid_e (a : D) : kid "e" a = [a] := if_pos (by decide +kernel)
theorem kid_place (a : D) : kid "place" a = [a] := if_pos (by decide +kernel)
theorem kid_args (xs : List D) : kid "args" (.tup xs) = xs := by
  unfold kid
  rw [if_neg (by decide +kernel), if_pos (by decide +kernel)]
theorem kid_block (xs : List D) : kid "block" (.tup xs) = xs := by
  unfold kid
  rw [if_neg (by decide +kernel), if_pos (by decide +kernel)]
theorem kid_no {p : Str} (h : p ∈ (["name", "key", "params", "number", "text"] : List Str)) (a : D) : kid p a = [] := by
  unfold kid
  rw [if_neg ((by decide +kernel : ∀ p ∈ (["name", "key", "params", "number", "text"] : List Str), ¬ (p = "e" ∨ p = "place")) p h), if_neg ((by decide +kernel : ∀ p ∈ (["name", "key", "params", "number", "text"] : List Str), ¬ (p = "args" ∨ p = "block")) p h)]
theorem kid_name (a : D) : kid "name" a = [] := kid_no (by decide +kernel) a
theorem kid_key (a : D) : kid "key" a = [] := kid_no (by decide +kernel) a
theorem kid_params (a : D) : kid "params" a = [] := kid_no (by decide +kernel) a
theorem kid_number (a : D) : kid "number" a = [] := kid_no (by decide +kernel) a
theorem kid_text (a : D) : kid "text" a = [] := kid_no (by decide +kernel) a
theorem kidsOf_nil : kidsOf [] [] = [] := rfl
theorem kidsOf_cons (p : Str) (ps : List Str) (a : D) (as : List D) : kidsOf (p :: ps) (a :: as) = kid p a ++ kidsOf ps as := rfl
theorem ok_cons (p : Str) (ps : List Str) (a : D) (as : List D) : okParts (p :: ps) (a :: as) = ((if p = "args" ∨ p = "block" then (match a with | .tup _ => true | _ => false) else if p = "e" ∨ p = "place" then true else decide (sz a ≤ 1)) && okParts ps as) := rfl
theorem ok_nil : okParts [] [] = true := rfl
theorem ok_e (ps : List Str) (a : D) (as : List D) : okParts ("e" :: ps) (a :: as) = okParts ps as := by
  rw [ok_cons, if_neg (by decide +kernel), if_pos (by decide +kernel), Bool.true_and]
theorem ok_place (ps : List Str) (a : D) (as : List D) : okParts ("place" :: ps) (a :: as) = okParts ps as := by
  rw [ok_cons, if_neg (by decide +kernel), if_pos (by decide +kernel), Bool.true_and]
theorem ok_args (ps : List Str) (xs : List D) (as : List D) : okParts ("args" :: ps) (.tup xs :: as) = okParts ps as := by
  rw [ok_cons, if_pos (by decide +kernel), Bool.true_and]
theorem ok_block (ps : List Str) (xs : List D) (as : List D) : okParts ("block" :: ps) (.tup xs :: as) = okParts ps as := by
  rw [ok_cons, if_pos (by decide +kernel), Bool.true_and]
theorem ok_no {p : Str} (h : p ∈ (["name", "key", "params", "number", "text"] : List Str)) (ps : List Str) {a : D} (ha : sz a ≤ 1) (as : List D) : okParts (p :: ps) (a :: as) = okParts ps as := by
  rw [ok_cons, if_neg ((by decide +kernel : ∀ p ∈ (["name", "key", "params", "number", "text"] : List Str), ¬ (p = "args" ∨ p = "block")) p h), if_neg ((by decide +kernel : ∀ p ∈ (["name", "key", "params", "number", "text"] : List Str), ¬ (p = "e" ∨ p = "place")) p h), decide_eq_true ha, Bool.true_and]
theorem ok_name (ps : List Str) {a : D} (ha : sz a ≤ 1) (as : List D) : okParts ("name" :: ps) (a :: as) = okParts ps as := ok_no (by decide +kernel) ps ha as
theorem ok_key (ps : List Str) {a : D} (ha : sz a ≤ 1) (as : List D) : okParts ("key" :: ps) (a :: as) = okParts ps as := ok_no (by decide +kernel) ps ha as
theorem ok_params (ps : List Str) {a : D} (ha : sz a ≤ 1) (as : List D) : okParts ("params" :: ps) (a :: as) = okParts ps as := ok_no (by decide +kernel) ps ha as
theorem ok_number (ps : List Str) {a : D} (ha : sz a ≤ 1) (as : List D) : okParts ("number" :: ps) (a :: as) = okParts ps as := ok_no (by decide +kernel) ps ha as
theorem ok_text (ps : List Str) {a : D} (ha : sz a ≤ 1) (as : List D) : okParts ("text" :: ps) (a :: as) = okParts ps as := ok_no (by decide +kernel) ps ha as
theorem g_ask (hI : OpG I) : Gd Ye En (pAsk I) := fun n m => by
  refine .bn (n' := n) (m' := m) (ψ := fun k d i => ∃ as, d = .tup [.s "ask", k, .tup as] ∧ (∀ a ∈ as, Wf a) ∧ szs as + 4 ≤ 2 * i) (g_take n m) (fun key _ hk => ?_) le0 (fun k d i j h z => ?_) (.inl fun _ _ => trivial)
  · refine .bn (n' := n) (m' := m) (ψ := fun _ d i => ∃ as, d = .tup [.s "ask", key, .tup as] ∧ (∀ a ∈ as, Wf a) ∧ szs as + 2 ≤ 2 * i) (g_open "(" I n m) (fun i _ h => ?_) le0 (fun a d i j h k => ?_) (.inl fun _ _ => trivial)
    · refine g_then (φ := Ls Wf) (C1 := No) ")" ?_ fun as i h => ⟨as, rfl, h.1, by have := h.2; omega⟩
      have one : Gd2 n m No (Ls Wf) (bn i.e fun a => rt [a]) (bn i.e fun a => rt [a]) := .bn (n' := n) (m' := m) (ψ := fun a b j => b = [a] ∧ j = 0) ((hI i h.1).e n m) (fun _ _ _ => Gd2.rt.wk fun _ z => z.elim) le0 (fun a b i j h k => by
        obtain ⟨rfl, rfl⟩ := k
        refine ⟨fun x hx => ?_, ?_⟩
        · rw [List.mem_singleton.mp hx]
          exact h.1
        · show sz a + 0 ≤ _
          have := h.2.1
          omega) noL
      split
      · split
        · exact g_nil
        · exact one
      · exact one
    · obtain ⟨as, e, h1, h2⟩ := k
      have := h.2
      exact ⟨as, e, h1, by omega⟩
  · obtain ⟨as, rfl, h1, h2⟩ := z
    have := h.2
    refine ⟨wf_node (ps := ["key", "args"]) (by decide +kernel) (by rw [ok_key _ (by have := h.1; omega), ok_args, ok_nil]) fun x hx => h1 x ?_, ?_, by omega⟩
    · rw [kidsOf_cons, kid_key, kidsOf_cons, kid_args, kidsOf_nil, List.append_nil] at hx
      exact hx
    · show 1 + (0 + (sz k + (1 + szs as + 0))) ≤ _
      have := h.1
      omega
end
end FE
namespace FE
open PySem L2 K01
section
variable {n m n' m' : Nat} {I : Option Ps}
theorem g_map {α β : Type} {C : List TK → Prop} {φ : α → Nat → Prop} {χ : β → Nat → Prop} {f f' : M α} {g : α → β} (F : Gd2 n m C φ f f') (hx : ∀ a i, φ a i → χ (g a) i) : Gd2 n m C χ (bn f fun a => rt (g a)) (bn f' fun a => rt (g a)) :=
  .bn (n' := n) (m' := m) (ψ := fun a b j => b = g a ∧ j = 0) F (fun _ _ _ => Gd2.rt.wk fun _ _ => trivial) le0 (fun a b i j h k => by obtain ⟨rfl, rfl⟩ := k; exact hx a i h) (.inl fun _ z => z)
theorem g_nameArgs (hI : OpG I) {z : Str} (hz : (STP ++ EXP).lookup z = some (["name", "args"] : List Str)) : Gd Ye En (bn wantName fun x => bn (pArgs "(" ")" I) fun a => rt (.tup [.s z, x, a])) := fun n m =>
  .bn (n' := n) (m' := m) (ψ := fun x d i => Wf d ∧ sz d ≤ 2 * i + sz x ∧ 1 ≤ i) (g_name n m) (fun x _ hx => g_map (g_args hI "(" ")" n m) fun a i h => by
    obtain ⟨as, rfl, h1, h2⟩ := h
    refine ⟨wf_node hz (by rw [ok_name _ (by have := hx.1; omega), ok_args, ok_nil]) fun x hx => h1 x ?_, ?_, by omega⟩
    · rw [kidsOf_cons, kid_name, kidsOf_cons, kid_args, kidsOf_nil, List.append_nil] at hx
      exact hx
    · show 1 + (0 + (sz x + (1 + szs as + 0))) ≤ _
      omega) le0 (fun a b i j h k => ⟨k.1, by have := h.1; have := k.2.1; omega, by omega⟩) (.inl fun _ _ => trivial)
theorem g_keyed (hI : OpG I) : Gd Ye En (pKeyed I) := fun n m => by
  have e : pKeyed I = fun r => if (aheadOf ALONE r).isSome = true then bn takeV (fun k => rt (.tup [k])) r else (fun r => if (aheadOf ASKS r).isSome = true then pAsk I r else (fun r => if isAhead "(" r = true then (bn (wantOpen "(" I) fun i => bn i.e fun a => bn (want ")") fun _ => rt a) r else (fun r => if isAhead "[" r = true then (bn (pArgs "[" "]" I) fun a => rt (.tup [.s "list", a])) r
      else (fun r => if isAhead "fun" r = true then (bn (pParams I) fun ps => bn (pBlock I) fun b => rt (.tup [.s "fun", ps, b])) r.tail else (fun r => if isAhead "super" r = true then (bn (want ".") fun _ => bn wantName fun x => bn (pArgs "(" ")" I) fun a => rt (.tup [.s "up", x, a])) r.tail
      else (bn (want "new") fun _ => bn wantName fun x => bn (pArgs "(" ")" I) fun a => rt (.tup [.s "new", x, a])) r) r) r) r) r) r := rfl
  rw [e, ite_ofs]
  have sufN : ∀ {g : M D}, g [] = .bad [] → ∀ (a : D) (q : List TK), g [] ≠ .ok a q := fun h a q e => by rw [h] at e; cases e
  refine .ite (hd_aheadOf ALONE) ?_ (.ite (hd_aheadOf ASKS) (g_ask hI n m) (.ite (hd_ahead "(") ?_ (.ite (hd_ahead "[") ?_ (.iteT (n' := n) (m' := m) (φ := En) (hd_ahead "fun") ?_ (.iteT (n' := n) (m' := m) (φ := En) (hd_ahead "super") ?_ ?_ (Nat.le_succ _) (Nat.le_succ _) ?_ (.inr (sufN rfl))) (Nat.le_succ _) (Nat.le_succ _) ?_ (.inr (sufN rfl))) (.inr (sufN rfl))) (.inr (sufN rfl))) (.inr (sufN rfl))) (.inr (sufN rfl))
  · refine g_map (g_ofs ALONE n m) fun z i h => ⟨wf_node (ps := []) ((by decide +kernel : ∀ z ∈ ALONE, (STP ++ EXP).lookup z = some []) z h.1) rfl fun x hx => (nomatch hx), ?_, by omega⟩
    show 1 + (0 + 0) ≤ _
    omega
  · exact .bn (n' := n) (m' := m) (ψ := fun _ => En) (g_open "(" I n m) (fun i _ h => g_then (g := fun a => a) ")" ((hI i h.1).e n m) fun a i h => ⟨h.1, by have := h.2.1; omega, by omega⟩) le0 (fun a b i j h k => ⟨k.1, by have := k.2.1; omega, by have := k.2.2; omega⟩) (.inl fun _ _ => trivial)
  · refine g_map (g_args hI "[" "]" n m) fun a i h => ?_
    obtain ⟨as, rfl, h1, h2⟩ := h
    refine ⟨wf_node (ps := ["args"]) (by decide +kernel) (by rw [ok_args, ok_nil]) fun x hx => h1 x ?_, ?_, by omega⟩
    · rw [kidsOf_cons, kid_args, kidsOf_nil, List.append_nil] at hx
      exact hx
    · show 1 + (0 + (1 + szs as + 0)) ≤ _
      omega
  · refine .bn (n' := n) (m' := m) (ψ := fun x d i => Wf d ∧ sz d ≤ 2 * i + sz x ∧ 1 ≤ i) (g_params n m) (fun x _ hx => g_map (g_block hI n m) fun a i h => ?_) le0 (fun a b i j h k => ⟨k.1, by have := h.1; have := h.2; have := k.2.1; omega, by omega⟩) (.inl fun _ _ => trivial)
    obtain ⟨as, rfl, h1, h2⟩ := h
    refine ⟨wf_node (ps := ["params", "block"]) (by decide +kernel) (by rw [ok_params _ (by have := hx.1; omega), ok_block, ok_nil]) fun x hx => h1 x ?_, ?_, by omega⟩
    · rw [kidsOf_cons, kid_params, kidsOf_cons, kid_block, kidsOf_nil, List.append_nil] at hx
      exact hx
    · show 1 + (0 + (sz x + (1 + szs as + 0))) ≤ _
      omega
  · exact .bn (n' := n) (m' := m) (ψ := fun _ => En) (g_want "." n m) (fun _ _ _ => g_nameArgs hI (by decide +kernel) n m) le0 (fun a b i j h k => ⟨k.1, by have := k.2.1; omega, by have := k.2.2; omega⟩) (.inl fun _ _ => trivial)
  · exact .bn (n' := n) (m' := m) (ψ := fun _ => En) (g_want "new" n m) (fun _ _ _ => g_nameArgs hI (by decide +kernel) n m) le0 (fun a b i j h k => ⟨k.1, by have := k.2.1; omega, by have := k.2.2; omega⟩) (.inl fun _ _ => trivial)
  · exact fun a i h => ⟨h.1, by have := h.2.1; omega, by omega⟩
  · exact fun a i h => ⟨h.1, by have := h.2.1; omega, by omega⟩
theorem g_first (hI : OpG I) : Gd Ye En (pFirst I) := fun n m => by
  let b : List TK → Bool := fun r => match r with
    | t :: _ => isPlain (.str t.s)
    | [] => false
  have e : pFirst I = fun r => if b r = true then (hd fun t => if isPlain (.str t.s) = true then some (.tup [.s t.s, dOf t.v]) else none) r else pKeyed I r := by
    funext r
    cases r with
    | nil => rfl
    | cons t q =>
      show (if isPlain (.str t.s) = true then R.ok (.tup [.s t.s, dOf t.v]) q else pKeyed I (t :: q)) = if isPlain (.str t.s) = true then _ else _
      by_cases h : isPlain (.str t.s) = true
      · rw [if_pos h, if_pos h, hd_cons, if_pos h]
      · rw [if_neg h, if_neg h]
  rw [e]
  refine .ite (b := b) ⟨rfl, fun _ _ _ => rfl, fun k r => by cases r <;> rfl⟩ ((Gd2.hd fun _ _ => rfl).imp fun a i z => ?_) (g_keyed hI n m) (.inr fun a q e => by cases e)
  obtain ⟨rfl, t, h⟩ := z
  by_cases hp : isPlain (.str t.s) = true
  · rw [if_pos hp] at h
    cases h
    have h3 : t.s = "number" ∨ t.s = "text" ∨ t.s = "name" := by
      unfold isPlain at hp
      simp only [Bool.or_eq_true, decide_eq_true_eq, V.str.injEq] at hp
      exact hp
    have s0 : sz (.tup [.s t.s, dOf t.v]) = 1 := by
      show 1 + (0 + (sz (dOf t.v) + 0)) = 1
      rw [sz_dOf]
    refine ⟨?_, by rw [s0]; omega, Nat.le_refl _⟩
    rcases h3 with h3 | h3 | h3 <;> rw [h3]
    · exact wf_node (ps := ["number"]) (by decide +kernel) (by rw [ok_number _ (by rw [sz_dOf]; omega), ok_nil]) fun x hx => by
        rw [kidsOf_cons, kid_number, kidsOf_nil] at hx
        exact nomatch hx
    · exact wf_node (ps := ["text"]) (by decide +kernel) (by rw [ok_text _ (by rw [sz_dOf]; omega), ok_nil]) fun x hx => by
        rw [kidsOf_cons, kid_text, kidsOf_nil] at hx
        exact nomatch hx
    · exact wf_node (ps := ["name"]) (by decide +kernel) (by rw [ok_name _ (by rw [sz_dOf]; omega), ok_nil]) fun x hx => by
        rw [kidsOf_cons, kid_name, kidsOf_nil] at hx
        exact nomatch hx
  · rw [if_neg hp] at h
    cases h
/-- a node that was read behind another one -/
abbrev Af (f : D) : D → Nat → Prop := fun d i => Wf d ∧ sz d ≤ sz f + 2 * i
theorem g_message (hI : OpG I) {f : D} (hf : Wf f) : Gd No (fun d i => Af f d i ∧ 1 ≤ i) (pMessage I f) := fun n m =>
  .bn (n' := n) (m' := m) (ψ := fun x d i => Wf d ∧ sz d ≤ sz f + sz x + 2 * i + 1) (g_name n m) (fun x _ hx => .ite (f := bn (pArgs "(" ")" I) fun a => rt (D.tup [.s "send", f, x, a])) (f' := bn (pArgs "(" ")" I) fun a => rt (D.tup [.s "send", f, x, a])) (g := rt (D.tup [.s "field", f, x])) (g' := rt (D.tup [.s "field", f, x])) (hd_ahead "(") ((g_map (g_args hI "(" ")" n m) fun a i h => by
      obtain ⟨as, rfl, h1, h2⟩ := h
      refine ⟨wf_node (ps := ["e", "name", "args"]) (by decide +kernel) (by rw [ok_e, ok_name _ (by have := hx.1; omega), ok_args, ok_nil]) fun y hy => ?_, ?_⟩
      · rw [kidsOf_cons, kid_e, kidsOf_cons, kid_name, kidsOf_cons, kid_args, kidsOf_nil, List.append_nil] at hy
        rcases List.mem_append.mp hy with hy | hy
        · rw [List.mem_singleton.mp hy]
          exact hf
        · exact h1 y hy
      · show 1 + (0 + (sz f + (sz x + (1 + szs as + 0)))) ≤ _
        omega).wk fun _ z => z.elim) ((Gd2.imp .rt fun a i h => by
      obtain ⟨rfl, rfl⟩ := h
      refine ⟨wf_node (ps := ["e", "name"]) (by decide +kernel) (by rw [ok_e, ok_name _ (by have := hx.1; omega), ok_nil]) fun y hy => ?_, ?_⟩
      · rw [kidsOf_cons, kid_e, kidsOf_cons, kid_name, kidsOf_nil, List.append_nil] at hy
        rw [List.mem_singleton.mp hy]
        exact hf
      · show 1 + (0 + (sz f + (sz x + 0))) ≤ _
        omega).wk fun _ z => z.elim) noL) le0 (fun a b i j h k => ⟨⟨k.1, by have := h.1; have := k.2; omega⟩, by omega⟩) noL
theorem g_behindN (hI : OpG I) : ∀ n m f, Wf f → Gd2 n m No (Af f) (behind I n f) (behind I m f) :=
  Gd2.loop fun n m ih f hf => by
    have e : ∀ n, behind I (n + 1) f = fun r => if (aheadOf ["(", ".", "["] r).isSome = true then (fun r => if isAhead "(" r = true then (bn (pArgs "(" ")" I) fun a => behind I n (.tup [.s "call", f, a])) r else (fun r => if isAhead "." r = true then (bn (pMessage I f) fun a => behind I n a) r.tail else (bn (wantOpen "[" I) fun i => bn i.e fun a => bn (want "]") fun _ => behind I n (.tup [.s "item", f, a])) r) r) r else rt f r := fun n => rfl
    rw [e n, e m]
    refine .ite (hd_aheadOf _) (.ite (hd_ahead "(") ?_ (.iteT (n' := n) (m' := m) (φ := Af f) (hd_ahead ".") ?_ ?_ (Nat.le_refl _) (Nat.le_refl _) (fun a i h => ⟨h.1, by have := h.2; omega⟩) noL) noL) ((Gd2.imp .rt fun a i z => by obtain ⟨rfl, rfl⟩ := z; exact ⟨hf, Nat.le_refl _⟩).wk fun _ z => z.elim) noL
    · refine .bn (n' := n) (m' := m) (ψ := fun a => Af (.tup [.s "call", f, a])) (g_args hI "(" ")" (n + 1) (m + 1)) (fun a i h => ih _ ?_) (fun a i h => by obtain ⟨as, _, _, h2⟩ := h; omega) (fun a b i j h k => ⟨k.1, ?_⟩) noL
      · obtain ⟨as, rfl, h1, h2⟩ := h
        refine wf_node (ps := ["e", "args"]) (by decide +kernel) (by rw [ok_e, ok_args, ok_nil]) fun y hy => ?_
        rw [kidsOf_cons, kid_e, kidsOf_cons, kid_args, kidsOf_nil, List.append_nil] at hy
        rcases List.mem_append.mp hy with hy | hy
        · rw [List.mem_singleton.mp hy]
          exact hf
        · exact h1 y hy
      · obtain ⟨as, rfl, h1, h2⟩ := h
        have := k.2
        have e : sz (.tup [.s "call", f, .tup as]) = 1 + (0 + (sz f + (1 + szs as + 0))) := rfl
        omega
    · exact .bn (n' := n) (m' := m) (ψ := fun a => Af a) (g_message hI hf n m) (fun a i h => ih _ h.1.1) le0 (fun a b i j h k => ⟨k.1, by have := h.1.2; have := k.2; omega⟩) noL
    · refine .bn (n' := n) (m' := m) (ψ := fun _ d i => Wf d ∧ sz d ≤ sz f + 1 + 2 * i) (g_open "[" I (n + 1) (m + 1)) (fun i _ h => ?_) (fun a i h => by have := h.2; omega) (fun a b i j h k => ⟨k.1, by have := k.2; have := h.2; omega⟩) noL
      refine .bn (n' := n) (m' := m) (ψ := fun a d i => Wf d ∧ sz d ≤ sz f + sz a + 1 + 2 * i) ((hI i h.1).e n m) (fun a i ha => ?_) le0 (fun a b i j h k => ⟨k.1, by have := k.2; have := h.2.1; omega⟩) noL
      refine .bn (n' := n) (m' := m) (ψ := fun _ => Af (.tup [.s "item", f, a])) (g_want "]" n m) (fun _ _ _ => ih _ ?_) le0 (fun _ b i j h k => ⟨k.1, ?_⟩) noL
      · refine wf_node (ps := ["e", "e"]) (by decide +kernel) (by rw [ok_e, ok_e, ok_nil]) fun y hy => ?_
        rw [kidsOf_cons, kid_e, kidsOf_cons, kid_e, kidsOf_nil, List.append_nil] at hy
        rcases List.mem_append.mp hy with hy | hy
        · rw [List.mem_singleton.mp hy]
          exact hf
        · rw [List.mem_singleton.mp hy]
          exact ha.1
      · have := k.2
        have e : sz (.tup [.s "item", f, a]) = 1 + (0 + (sz f + (sz a + 0))) := rfl
        omega
theorem g_behind (hI : OpG I) : Gd No En (pBehind I) := fun n m =>
  .bn (n' := n) (m' := m) (ψ := fun f => Af f) (g_first hI n m) (fun f i h => Gd2.fuel (F := fun n r => behind I n f r) (fun n m => g_behindN hI n m f h.1) n m) le0 (fun a b i j h k => ⟨k.1, by have := h.2.1; have := k.2; omega, by have := h.2.2; omega⟩) noL
end
end FE
namespace FE
open PySem L2 K01
section
variable {n m n' m' : Nat} {I : Option Ps}
def Ops (ws : List (Int × Str)) : Prop := ∀ p ∈ ws, isUn p.2 = false → List.lookup p.2 (STP ++ EXP) = some (["e", "e"] : List Str)
theorem Ops.cons {b : Int} {z : Str} {ws : List (Int × Str)} (h : Ops ws) (k : isUn z = false → List.lookup z (STP ++ EXP) = some (["e", "e"] : List Str)) : Ops ((b, z) :: ws) := fun p hp => by
  rcases List.mem_cons.mp hp with rfl | hp
  · exact k
  · exact h p hp
theorem Ops.tail {p : Int × Str} {ws : List (Int × Str)} (h : Ops (p :: ws)) : Ops ws := fun q hq => h q (List.mem_cons_of_mem _ hq)
theorem un_node {z : Str} (h : isUn z = true) : List.lookup z (STP ++ EXP) = some (["e"] : List Str) := by
  unfold isUn at h
  simp only [Bool.or_eq_true, decide_eq_true_eq] at h
  rcases h with rfl | rfl <;> decide +kernel
theorem g_ahead : ∀ n m ws, Ops ws → Gd2 n m No (fun ws' i => Ops ws' ∧ nb ws' = nb ws ∧ ws'.length ≤ ws.length + i) (ahead n ws) (ahead m ws) :=
  Gd2.loop fun n m ih ws hw => by
    have e : ∀ n, ahead (n + 1) ws = fun r => if (fun r => isAhead "not" r && lowAt ws) r = true then (ahead n ((3, "not") :: ws)) r.tail else (fun r => if isAhead "-" r = true then ahead n ((7, "minus") :: ws) r.tail else rt ws r) r := fun n => rfl
    rw [e n, e m]
    refine .iteT (n' := n) (m' := m) (hd_and (hd_ahead "not") _) (ih _ (hw.cons fun h => (nomatch h))) (.iteT (n' := n) (m' := m) (hd_ahead "-") (ih _ (hw.cons fun h => (nomatch h))) ((Gd2.imp .rt fun a i z => ?_).wk fun _ z => z.elim) (Nat.le_refl _) (Nat.le_refl _) (fun a i z => ⟨z.1, z.2.1.trans rfl, ?_⟩) noL) (Nat.le_refl _) (Nat.le_refl _) (fun a i z => ⟨z.1, z.2.1.trans rfl, ?_⟩) noL
    · obtain ⟨rfl, rfl⟩ := z
      exact ⟨hw, rfl, Nat.le_refl _⟩
    · have := z.2.2
      rw [List.length_cons] at this
      omega
    · have := z.2.2
      rw [List.length_cons] at this
      omega
/-- piles that stand for whole things -/
def SO (s : Stk) (c : Nat) : Prop := Bal s ∧ (∀ d ∈ s.1, Wf d) ∧ Ops s.2 ∧ szs s.1 + s.2.length ≤ c
theorem put_so {s : Stk} {c : Nat} (h : SO s c) : SO (put s) c := by
  obtain ⟨h1, h2, h3, h4⟩ := h
  refine ⟨put_bal h1, ?_⟩
  rcases s with ⟨os, ws⟩
  cases os with
  | nil => exact ⟨h2, h3, h4⟩
  | cons l os =>
    cases ws with
    | nil => exact ⟨h2, h3, h4⟩
    | cons p ws =>
      obtain ⟨b, z⟩ := p
      have hl := h2 l (List.mem_cons_self ..)
      by_cases hu : isUn z = true
      · have e : put (l :: os, (b, z) :: ws) = (.tup [.s z, l] :: os, ws) := if_pos hu
        rw [e]
        refine ⟨fun d hd => ?_, h3.tail, ?_⟩
        · rcases List.mem_cons.mp hd with rfl | hd
          · refine wf_node (un_node hu) (by rw [ok_e, ok_nil]) fun x hx => ?_
            rw [kidsOf_cons, kid_e, kidsOf_nil, List.append_nil] at hx
            rw [List.mem_singleton.mp hx]
            exact hl
          · exact h2 d (List.mem_cons_of_mem _ hd)
        · have e1 : szs (.tup [.s z, l] :: os) = 1 + (0 + (sz l + 0)) + szs os := rfl
          have e2 : szs (l :: os) = sz l + szs os := rfl
          simp only [List.length_cons] at h4
          simp only [e1]
          rw [e2] at h4
          omega
      · cases os with
        | nil =>
          have e : put ([l], (b, z) :: ws) = ([], (b, z) :: ws) := if_neg hu
          rw [e]
          refine ⟨fun d hd => (nomatch hd), h3, ?_⟩
          have e2 : szs [l] = sz l + 0 := rfl
          simp only [e2, List.length_cons] at h4
          show 0 + (ws.length + 1) ≤ c
          omega
        | cons o os =>
          have e : put (l :: o :: os, (b, z) :: ws) = (.tup [.s z, o, l] :: os, ws) := if_neg hu
          have ho := h2 o (List.mem_cons_of_mem _ (List.mem_cons_self ..))
          rw [e]
          refine ⟨fun d hd => ?_, h3.tail, ?_⟩
          · rcases List.mem_cons.mp hd with rfl | hd
            · refine wf_node (h3 _ (List.mem_cons_self ..) (by simpa using hu)) (by rw [ok_e, ok_e, ok_nil]) fun x hx => ?_
              rw [kidsOf_cons, kid_e, kidsOf_cons, kid_e, kidsOf_nil, List.append_nil] at hx
              rcases List.mem_append.mp hx with hx | hx
              · rw [List.mem_singleton.mp hx]
                exact ho
              · rw [List.mem_singleton.mp hx]
                exact hl
            · exact h2 d (List.mem_cons_of_mem _ (List.mem_cons_of_mem _ hd))
          · have e1 : szs (.tup [.s z, o, l] :: os) = 1 + (0 + (sz o + (sz l + 0))) + szs os := rfl
            have e2 : szs (l :: o :: os) = sz l + (sz o + szs os) := rfl
            simp only [List.length_cons] at h4
            simp only [e1]
            rw [e2] at h4
            omega
theorem putAll_so : ∀ (k : Nat) {s : Stk} {c : Nat}, SO s c → SO (putAll k s) c
  | 0, s, c, h => h
  | k + 1, (os, []), c, h => h
  | k + 1, (os, p :: ws), c, h => putAll_so k (put_so h)
theorem putDown_so {b : Int} : ∀ (k : Nat) {s : Stk} {c : Nat}, SO s c → SO (putDown b k s) c
  | 0, s, c, h => h
  | k + 1, s, c, h => by
    show SO (if holds b s.2 = true then putDown b k (put s) else s) c
    split
    · exact putDown_so k (put_so h)
    · exact h
theorem putAll_end : ∀ (ws : List (Int × Str)) {os : List D}, Bal (os, ws) → (putAll ws.length (os, ws)).2 = []
  | [], os, _ => rfl
  | (b, z) :: ws, os, h => by
    show (putAll ws.length (put (os, (b, z) :: ws))).2 = []
    have e := put_wt h
    have hb := put_bal h
    generalize put (os, (b, z) :: ws) = s at e hb ⊢
    obtain ⟨os', ws'⟩ := s
    subst e
    exact putAll_end _ hb
/-- what stands at the bottom in the end -/
theorem bottom {s : Stk} {c : Nat} (h : SO s c) : ∃ d, (putAll s.2.length s).1.getLast? = some d ∧ Wf d ∧ sz d ≤ c := by
  obtain ⟨h1, h2, h3, h4⟩ := putAll_so s.2.length h
  have e := putAll_end s.2 h.1
  generalize putAll s.2.length s = t at h1 h2 h3 h4 e ⊢
  obtain ⟨os, ws⟩ := t
  have e : ws = [] := e
  subst e
  have hl : os.length = 1 := h1
  match os, hl with
  | [d], _ =>
    refine ⟨d, rfl, h2 d (List.mem_cons_self ..), ?_⟩
    have e2 : szs [d] = sz d + 0 := rfl
    simp only [e2] at h4
    simp at h4
    omega
theorem bind_ops {z : Str} (h : bindOf z ≠ 0) : List.lookup z (STP ++ EXP) = some (["e", "e"] : List Str) := by
  unfold bindOf at h
  by_cases h1 : z = "or"
  · subst h1; decide +kernel
  rw [if_neg h1] at h
  by_cases h2 : z = "and"
  · subst h2; decide +kernel
  rw [if_neg h2] at h
  by_cases h3 : z ∈ (["==", "!=", "<", "<=", ">", ">="] : List Str)
  · exact (by decide +kernel : ∀ z ∈ (["==", "!=", "<", "<=", ">", ">="] : List Str), List.lookup z (STP ++ EXP) = some (["e", "e"] : List Str)) z h3
  rw [if_neg h3] at h
  by_cases h4 : z = "+" ∨ z = "-"
  · rcases h4 with rfl | rfl <;> decide +kernel
  rw [if_neg h4] at h
  by_cases h5 : z ∈ (["*", "/", "mod"] : List Str)
  · exact (by decide +kernel : ∀ z ∈ (["*", "/", "mod"] : List Str), List.lookup z (STP ++ EXP) = some (["e", "e"] : List Str)) z h5
  rw [if_neg h5] at h
  exact absurd rfl h
theorem Gd2.byHead {α : Type} {φ : α → Nat → Prop} {F F' : M α} {h h' : TK → M α} {a0 : α} (e0 : F [] = .ok a0 []) (e0' : F' [] = .ok a0 []) (h0 : φ a0 0) (e : ∀ t q, F (t :: q) = h t (t :: q)) (e' : ∀ t q, F' (t :: q) = h' t (t :: q))
    (g : ∀ t, Gd2 n m No φ (h t) (h' t)) (hs : ∀ k t, h' (shT k t) = h' t) : Gd2 n m No φ F F' where
  tot := fun r l z => by
    cases r with
    | nil => rw [e0] at z; cases z
    | cons t q => rw [e] at z; exact (g t).tot _ l z
  ok := fun r a q l z => by
    cases r with
    | nil => rw [e0] at z; cases z; exact ⟨[], rfl, h0⟩
    | cons t q => rw [e] at z; exact (g t).ok _ a _ l z
  bd := fun r q l z => by
    cases r with
    | nil => rw [e0] at z; cases z
    | cons t q => rw [e] at z; exact (g t).bd _ _ l z
  ext := fun r u a t q l1 l2 z => by
    cases r with
    | nil => rw [e0] at z; cases z
    | cons t' q' =>
      rw [e] at z
      rw [List.cons_append, e']
      exact (g t').ext _ u a t q l1 l2 z
  exb := fun r u t q l1 l2 z => by
    cases r with
    | nil => rw [e0] at z; cases z
    | cons t' q' =>
      rw [e] at z
      rw [List.cons_append, e']
      exact (g t').exb _ u t q l1 l2 z
  str := fun r u a c => c.elim
  sh := fun k r l1 l2 => by
    cases r with
    | nil => rw [List.map_nil, e0, e0']; rfl
    | cons t q =>
      rw [List.map_cons, e, e', hs]
      exact (g t).sh k (t :: q) l1 l2
def PX (s : Stk) : Prop := s.1.length = nb s.2 ∧ (∀ d ∈ s.1, Wf d) ∧ Ops s.2
/-- after an operand -/
def fin (I : Option Ps) (n : Nat) (ws1 : List (Int × Str)) (os : List D) (a : D) : M D := fun r =>
    let bind := bindAhead r
    let s := putDown bind (ws1.length) (a :: os, ws1)
    if (decide (bind = 0) || meets bind s.2) = true then (match (putAll s.2.length s).1.getLast? with
      | some d => .ok d r
      | none => .out)
    else exprs I n (s.1, (bind, headStr r) :: s.2) r.tail
theorem g_fin {os : List D} {ws1 : List (Int × Str)} {a : D} {c : Nat} (h : SO (a :: os, ws1) c) (ih : ∀ s, PX s → Gd2 n m No (fun d i => (Wf d ∧ sz d ≤ szs s.1 + s.2.length + 2 * i) ∧ 1 ≤ i) (exprs I n s) (exprs I m s)) :
    Gd2 n m No (fun d i => Wf d ∧ sz d ≤ c + 2 * i) (fin I n ws1 os a) (fin I m ws1 os a) := by
  have hs : ∀ b, SO (putDown b ws1.length (a :: os, ws1)) c := fun b => putDown_so _ h
  obtain ⟨d0, e0, w0, z0⟩ := bottom (hs 0)
  have base : ∀ n, fin I n ws1 os a [] = .ok d0 [] := fun n => by
    show (match (putAll (putDown 0 ws1.length (a :: os, ws1)).2.length (putDown 0 ws1.length (a :: os, ws1))).1.getLast? with | some d => R.ok d [] | none => .out) = _
    rw [e0]
  let st : TK → Stk := fun t => putDown (bindAhead [t]) ws1.length (a :: os, ws1)
  let h : Nat → TK → M D := fun n t => if (decide (bindAhead [t] = 0) || meets (bindAhead [t]) (st t).2) = true then (match (putAll (st t).2.length (st t)).1.getLast? with
      | some d => rt d
      | none => fun _ => .out)
    else bn (hd fun _ => some ()) fun _ => exprs I n ((st t).1, (bindAhead [t], headStr [t]) :: (st t).2)
  have step : ∀ n t q, fin I n ws1 os a (t :: q) = h n t (t :: q) := fun n t q => by
    show (if (decide (bindAhead [t] = 0) || meets (bindAhead [t]) (st t).2) = true then (match (putAll (st t).2.length (st t)).1.getLast? with
      | some d => R.ok d (t :: q)
      | none => .out) else exprs I n ((st t).1, (bindAhead [t], headStr [t]) :: (st t).2) q) = h n t (t :: q)
    by_cases hc : (decide (bindAhead [t] = 0) || meets (bindAhead [t]) (st t).2) = true
    · have hh : h n t = (match (putAll (st t).2.length (st t)).1.getLast? with | some d => rt d | none => fun _ => .out) := if_pos hc
      rw [if_pos hc, hh]
      cases (putAll (st t).2.length (st t)).1.getLast? <;> rfl
    · have hh : h n t = bn (hd fun _ => some ()) fun _ => exprs I n ((st t).1, (bindAhead [t], headStr [t]) :: (st t).2) := if_neg hc
      rw [if_neg hc, hh]
      rfl
  refine Gd2.byHead (h := h n) (h' := h m) (a0 := d0) (base n) (base m) ⟨w0, by omega⟩ (step n) (step m) (fun t => ?_) fun k t => rfl
  obtain ⟨d1, e1, w1, z1⟩ := bottom (hs (bindAhead [t]))
  by_cases hc : (decide (bindAhead [t] = 0) || meets (bindAhead [t]) (st t).2) = true
  · have e : ∀ n, h n t = rt d1 := fun n => by
      have hh : h n t = (match (putAll (st t).2.length (st t)).1.getLast? with | some d => rt d | none => fun _ => .out) := if_pos hc
      rw [hh]
      show (match (putAll (putDown (bindAhead [t]) ws1.length (a :: os, ws1)).2.length (putDown (bindAhead [t]) ws1.length (a :: os, ws1))).1.getLast? with | some d => rt d | none => fun _ => .out) = _
      rw [e1]
    rw [e n, e m]
    exact (Gd2.imp .rt fun a i z => by obtain ⟨rfl, rfl⟩ := z; exact ⟨w1, by omega⟩).wk fun _ z => z.elim
  · have e : ∀ n, h n t = bn (hd fun _ => some ()) fun _ => exprs I n ((st t).1, (bindAhead [t], headStr [t]) :: (st t).2) := fun n => if_neg hc
    rw [e n, e m]
    have hb : bindAhead [t] ≠ 0 := fun z => hc (by rw [decide_eq_true z]; rfl)
    obtain ⟨t', q, z, e2, _, _, e3, e4⟩ := bind_split hb
    obtain ⟨s1, s2, s3, s4⟩ := hs (bindAhead [t])
    have hbz : bindOf z ≠ 0 := by rw [← e3]; exact hb
    refine .bn (n' := n) (m' := m) (φ := fun _ i => i = 1) (ψ := fun _ d i => Wf d ∧ sz d ≤ c + 1 + 2 * i) ((Gd2.hd fun _ _ => rfl).imp fun _ _ z => z.1) (fun _ _ _ => (ih ((st t).1, (bindAhead [t], headStr [t]) :: (st t).2) ⟨?_, s2, ?_⟩).imp fun d i k => ⟨k.1.1, ?_⟩) le0 (fun _ b i j h k => ⟨k.1, by have := k.2; omega⟩) noL
    · rw [e4]
      have : nb ((bindAhead [t], z) :: (st t).2) = nb (st t).2 + 1 := by
        show nb (st t).2 + (if isUn z = true then 0 else 1) = _
        rw [(bind_plain hbz).2.2]
        rfl
      show (st t).1.length = _
      rw [this]
      exact s1
    · rw [e4]
      exact s3.cons fun _ => bind_ops hbz
    · have := k.1.2
      simp only [List.length_cons] at this
      have s4 : szs (st t).1 + (st t).2.length ≤ c := s4
      omega
theorem g_exprs (hI : OpG I) : ∀ n m s, PX s → Gd2 n m No (fun d i => (Wf d ∧ sz d ≤ szs s.1 + s.2.length + 2 * i) ∧ 1 ≤ i) (exprs I n s) (exprs I m s) :=
  Gd2.loop fun n m ih s hs => by
    obtain ⟨os, ws⟩ := s
    have e : ∀ n, exprs I (n + 1) (os, ws) = bn (fun r => ahead (r.length + 1) ws r) fun ws1 => bn (pBehind I) fun a => fin I n ws1 os a := fun n => rfl
    rw [e n, e m]
    obtain ⟨h1, h2, h3⟩ := hs
    refine .bn (n' := n + 1) (m' := m + 1) (ψ := fun ws1 d i => (Wf d ∧ sz d ≤ szs os + ws1.length + 2 * i) ∧ 1 ≤ i) (Gd2.fuel (F := fun n r => ahead n ws r) (fun n m => g_ahead n m ws h3) (n + 1) (m + 1)) (fun ws1 i h => ?_) le0 (fun a b i j h k => ⟨⟨k.1.1, by have := k.1.2; have := h.2.2; show sz b ≤ szs os + ws.length + 2 * (i + j); omega⟩, by have := k.2; omega⟩) noL
    refine .bn (n' := n) (m' := m) (ψ := fun a d i => Wf d ∧ sz d ≤ sz a + szs os + ws1.length + 2 * i) (g_behind hI (n + 1) (m + 1)) (fun a j ha => g_fin (c := sz a + szs os + ws1.length) ⟨?_, ?_, h.1, Nat.le_refl _⟩ ih) (fun a j ha => ⟨by have := ha.2.2; omega, by have := ha.2.2; omega⟩) (fun a b i j ha k => ⟨⟨k.1, by have := k.2; have := ha.2.1; omega⟩, by have := ha.2.2; omega⟩) noL
    · show os.length + 1 = nb ws1 + 1
      rw [h.2.1]
      have : os.length = nb ws := h1
      rw [this]
    · intro d hd
      rcases List.mem_cons.mp hd with rfl | hd
      · exact ha.1
      · exact h2 d hd
theorem g_e (hI : OpG I) : Gd No En (pE I) := fun n m =>
  (Gd2.fuel (F := fun n r => exprs I n ([], []) r) (fun n m => g_exprs hI n m ([], []) ⟨rfl, fun _ h => (nomatch h), fun _ h => (nomatch h)⟩) n m).imp fun d i h => ⟨h.1.1, by have e : szs ([] : List D) + 0 = 0 := rfl; have : sz d ≤ szs ([] : List D) + 0 + 2 * i := h.1.2; omega, h.2⟩
end
end FE
namespace FE
open PySem L2 K01
section
variable {n m n' m' : Nat} {I : Option Ps}
theorem wf1 {z : Str} {a : D} (hz : List.lookup z (STP ++ EXP) = some (["e"] : List Str)) (ha : Wf a) : Wf (.tup [.s z, a]) :=
  wf_node hz (by rw [ok_e, ok_nil]) fun x hx => by
    rw [kidsOf_cons, kid_e, kidsOf_nil, List.append_nil] at hx
    rw [List.mem_singleton.mp hx]
    exact ha
theorem g_set (hI : OpG I) {f : D} (hf : Wf f) : Gd No (fun d i => Wf d ∧ sz d ≤ sz f + 1 + 2 * i) (pSet I f) := fun n m => by
  have base : Gd2 n m No (fun d i => Wf d ∧ sz d ≤ sz f + 1 + 2 * i) (rt (D.tup [.s "do", f])) (rt (D.tup [.s "do", f])) := (Gd2.imp .rt fun a i z => by
    obtain ⟨rfl, rfl⟩ := z
    refine ⟨wf1 (by decide +kernel) hf, ?_⟩
    show 1 + (0 + (sz f + 0)) ≤ _
    omega).wk fun _ z => z.elim
  by_cases hp : isPlace f = true
  · have e : pSet I f = fun r => if isAhead "=" r = true then (bn (pE I) fun g => rt (.tup [.s "set", f, g])) r.tail else rt (D.tup [.s "do", f]) r := by
      funext r
      unfold pSet
      rw [if_pos hp]
      rfl
    rw [e]
    refine .iteT (n' := n) (m' := m) (φ := fun d i => Wf d ∧ sz d ≤ sz f + 1 + 2 * i) (hd_ahead "=") (g_map (g_e hI n m) fun g i h => ⟨?_, ?_⟩) base (Nat.le_succ _) (Nat.le_succ _) (fun a i h => ⟨h.1, by have := h.2; omega⟩) noL
    · refine wf_node (ps := ["place", "e"]) (by decide +kernel) (by rw [ok_place, ok_e, ok_nil]) fun x hx => ?_
      rw [kidsOf_cons, kid_place, kidsOf_cons, kid_e, kidsOf_nil, List.append_nil] at hx
      rcases List.mem_append.mp hx with hx | hx
      · rw [List.mem_singleton.mp hx]
        exact hf
      · rw [List.mem_singleton.mp hx]
        exact h.1
    · show 1 + (0 + (sz f + (sz g + 0))) ≤ _
      have := h.2.1
      omega
  · have e : pSet I f = fun r => if isAhead "=" r = true then wrong r else rt (D.tup [.s "do", f]) r := by
      funext r
      unfold pSet
      rw [if_neg hp]
      rfl
    rw [e]
    exact .ite (hd_ahead "=") (Gd2.wrong.wk fun _ z => z.elim) base noL
theorem g_plain (hI : OpG I) : Gd Ye En (pPlain I) := fun n m =>
  .bn (n' := n) (m' := m) (ψ := fun f d i => Wf d ∧ sz d ≤ sz f + 2 * i) (g_e hI n m) (fun f _ hf => g_then (g := fun a => a) ";" (g_set hI hf.1 n m) fun a i h => ⟨h.1, by have := h.2; omega⟩) le0 (fun a b i j h k => ⟨k.1, by have := k.2; have := h.2.1; omega, by have := h.2.2; omega⟩) (.inr fun a i b q _ e => by cases e)
/-- a short statement, its word at hand -/
def shortOf (I : Option Ps) (z : Str) : M D := bn (if z ∈ WITHE then bn (pE I) fun e => rt (D.tup [.s z, e]) else if z = "var" then bn wantName fun x => bn (want "=") fun _ => bn (pE I) fun e => rt (.tup [.s "var", x, e]) else rt (.tup [.s z])) fun a => bn (want ";") fun _ => rt a
theorem short_eq {r : List TK} (h : (aheadOf SHORT r).isSome = true) : pShort I r = bn (ofs SHORT) (shortOf I) r := by
  rw [bn_okE (ofs_eq h).1]
  show (bn takeV fun k => _) r = _
  rw [bn_okE (ofs_eq h).2]
  rfl
theorem g_shortOf (hI : OpG I) {z : Str} (hz : z ∈ SHORT) : Gd Ye (fun d i => Wf d ∧ sz d ≤ 2 * i) (shortOf I z) := fun n m => by
  refine g_then (φ := fun d i => Wf d ∧ sz d ≤ 2 * i + 1) (C1 := No) (g := fun a => a) ";" ?_ fun a i h => ⟨h.1, by have := h.2; omega⟩
  by_cases h1 : z ∈ WITHE
  · rw [if_pos h1]
    refine g_map (g_e hI n m) fun e i h => ⟨wf1 ((by decide +kernel : ∀ z ∈ WITHE, List.lookup z (STP ++ EXP) = some (["e"] : List Str)) z h1) h.1, ?_⟩
    show 1 + (0 + (sz e + 0)) ≤ _
    have := h.2.1
    omega
  · rw [if_neg h1]
    by_cases h2 : z = "var"
    · rw [if_pos h2]
      refine .bn (n' := n) (m' := m) (ψ := fun x d i => Wf d ∧ sz d ≤ sz x + 1 + 2 * i) (g_name n m) (fun x _ hx => ?_) le0 (fun a b i j h k => ⟨k.1, by have := h.1; have := k.2; omega⟩) noL
      refine .bn (n' := n) (m' := m) (ψ := fun _ d i => Wf d ∧ sz d ≤ sz x + 1 + 2 * i) (g_want "=" n m) (fun _ _ _ => g_map (g_e hI n m) fun e i h => ⟨?_, ?_⟩) le0 (fun a b i j h k => ⟨k.1, by have := k.2; omega⟩) noL
      · refine wf_node (ps := ["name", "e"]) (by decide +kernel) (by rw [ok_name _ (by have := hx.1; omega), ok_e, ok_nil]) fun y hy => ?_
        rw [kidsOf_cons, kid_name, kidsOf_cons, kid_e, kidsOf_nil, List.append_nil] at hy
        rw [List.mem_singleton.mp hy]
        exact h.1
      · show 1 + (0 + (sz x + (sz e + 0))) ≤ _
        have := h.2.1
        omega
    · rw [if_neg h2]
      refine (Gd2.imp .rt fun a i k => ?_).wk fun _ z => z.elim
      obtain ⟨rfl, rfl⟩ := k
      refine ⟨wf_node (ps := []) ((by decide +kernel : ∀ z ∈ SHORT, z ∉ WITHE → z ≠ "var" → List.lookup z (STP ++ EXP) = some ([] : List Str)) z hz h1 h2) rfl fun x hx => (nomatch hx), ?_⟩
      show 1 + (0 + 0) ≤ _
      omega
theorem g_st (hI : OpG I) : Gd NoElse En (pSt I) := fun n m => by
  have e : pSt I = fun r => if (aheadOf SHORT r).isSome = true then bn (ofs SHORT) (shortOf I) r else (fun r => if isAhead "try" r = true then (bn (pBlock I) fun b => bn (want "catch") fun _ => bn wantName fun x => bn (pBlock I) fun c => rt (.tup [.s "try", b, x, c])) r.tail
    else (fun r => if isAhead "while" r = true then (bn (pE I) fun e => bn (pBlock I) fun b => rt (.tup [.s "while", e, b])) r.tail
    else (fun r => if isAhead "if" r = true then (bn (pE I) fun e => bn (pBlock I) fun b => bn (fun q => if isAhead "else" q = true then pBlock I q.tail else rt (.tup []) q) fun c => rt (.tup [.s "if", e, b, c])) r.tail
    else pPlain I r) r) r) r := by
    funext r
    by_cases h : (aheadOf SHORT r).isSome = true
    · rw [if_pos h, ← short_eq h]
      unfold pSt
      rw [if_pos h]
    · unfold pSt
      rw [if_neg h, if_neg h]
      rfl
  rw [e]
  have sufN : ∀ {g : M D}, g [] = .bad [] → ∀ (a : D) (q : List TK), g [] ≠ .ok a q := fun h a q e => by rw [h] at e; cases e
  have up : ∀ (a : D) i, En a i → En a (1 + i) := fun a i h => ⟨h.1, by have := h.2.1; omega, by omega⟩
  refine .ite (hd_aheadOf SHORT) ?_ (.iteT (n' := n) (m' := m) (φ := fun d i => Wf d ∧ sz d ≤ 2 * i) (hd_ahead "try") ?_ (.iteT (n' := n) (m' := m) (φ := fun d i => Wf d ∧ sz d ≤ 2 * i) (hd_ahead "while") ?_ (.iteT (n' := n) (m' := m) (φ := fun d i => Wf d ∧ sz d ≤ 2 * i + 1) (hd_ahead "if") ?_ ((g_plain hI n m).wk fun _ _ => trivial) (Nat.le_succ _) (Nat.le_succ _) (fun a i h => ⟨h.1, by have := h.2; omega, by omega⟩) (.inr (sufN rfl))) (Nat.le_succ _) (Nat.le_succ _) (fun a i h => ⟨h.1, by have := h.2; omega, by omega⟩) (.inr (sufN rfl))) (Nat.le_succ _) (Nat.le_succ _) (fun a i h => ⟨h.1, by have := h.2; omega, by omega⟩) (.inr (sufN rfl))) (.inr (sufN rfl))
  · exact (Gd2.bn (n' := n) (m' := m) (ψ := fun _ d i => Wf d ∧ sz d ≤ 2 * i) (g_ofs SHORT n m) (fun z _ h => g_shortOf hI h.1 n m) le0 (fun a b i j h k => ⟨k.1, by have := k.2; omega, by have := h.2; omega⟩) (.inl fun _ z => z)).wk fun _ _ => trivial
  · refine (Gd2.bn (C := Ye) (n' := n) (m' := m) (ψ := fun b d i => Wf d ∧ sz d ≤ sz b + 1 + 2 * i) (g_block hI n m) (fun b _ hb => ?_) le0 (fun a b i j h k => ⟨k.1, by obtain ⟨as, rfl, h1, h2⟩ := h; have := k.2; have e : sz (.tup as) = 1 + szs as := rfl; omega⟩) (.inl fun _ z => z)).wk fun _ _ => trivial
    refine .bn (n' := n) (m' := m) (ψ := fun _ d i => Wf d ∧ sz d ≤ sz b + 1 + 2 * i) (g_want "catch" n m) (fun _ _ _ => ?_) le0 (fun a b i j h k => ⟨k.1, by have := k.2; omega⟩) (.inl fun _ z => z)
    refine .bn (n' := n) (m' := m) (ψ := fun x d i => Wf d ∧ sz d ≤ sz b + sz x + 1 + 2 * i) (g_name n m) (fun x _ hx => ?_) le0 (fun a b i j h k => ⟨k.1, by have := h.1; have := k.2; omega⟩) (.inl fun _ z => z)
    refine g_map (g_block hI n m) fun c i h => ?_
    obtain ⟨bs, rfl, b1, b2⟩ := hb
    obtain ⟨cs, rfl, c1, c2⟩ := h
    refine ⟨wf_node (ps := ["block", "name", "block"]) (by decide +kernel) (by rw [ok_block, ok_name _ (by have := hx.1; omega), ok_block, ok_nil]) fun y hy => ?_, ?_⟩
    · rw [kidsOf_cons, kid_block, kidsOf_cons, kid_name, kidsOf_cons, kid_block, kidsOf_nil, List.append_nil] at hy
      rcases List.mem_append.mp hy with hy | hy
      · exact b1 y hy
      · exact c1 y hy
    · show 1 + (0 + ((1 + szs bs) + (sz x + (1 + szs cs + 0)))) ≤ (1 + szs bs) + sz x + 1 + 2 * i
      omega
  · refine (Gd2.bn (C := Ye) (n' := n) (m' := m) (ψ := fun e d i => Wf d ∧ sz d ≤ sz e + 2 * i) (g_e hI n m) (fun e _ he => ?_) le0 (fun a b i j h k => ⟨k.1, by have := h.2.1; have := k.2; omega⟩) (.inr fun a i b q _ e => by cases e)).wk fun _ _ => trivial
    refine g_map (g_block hI n m) fun c i h => ?_
    obtain ⟨cs, rfl, c1, c2⟩ := h
    refine ⟨wf_node (ps := ["e", "block"]) (by decide +kernel) (by rw [ok_e, ok_block, ok_nil]) fun y hy => ?_, ?_⟩
    · rw [kidsOf_cons, kid_e, kidsOf_cons, kid_block, kidsOf_nil, List.append_nil] at hy
      rcases List.mem_append.mp hy with hy | hy
      · rw [List.mem_singleton.mp hy]
        exact he.1
      · exact c1 y hy
    · show 1 + (0 + (sz e + (1 + szs cs + 0))) ≤ _
      omega
  · refine Gd2.bn (n' := n) (m' := m) (ψ := fun e d i => Wf d ∧ sz d ≤ sz e + 1 + 2 * i) (g_e hI n m) (fun e _ he => ?_) le0 (fun a b i j h k => ⟨k.1, by have := h.2.1; have := k.2; omega⟩) (.inr fun a i b q _ e => by cases e)
    refine .bn (n' := n) (m' := m) (ψ := fun b d i => Wf d ∧ sz d ≤ sz e + sz b + 2 + 2 * i) (g_block hI n m) (fun b _ hb => ?_) le0 (fun a b i j h k => ⟨k.1, by obtain ⟨as, rfl, h1, h2⟩ := h; have := k.2; have e : sz (.tup as) = 1 + szs as := rfl; omega⟩) (.inl fun _ _ => trivial)
    refine g_map (φ := fun c i => ∃ cs, c = .tup cs ∧ (∀ a ∈ cs, Wf a) ∧ szs cs ≤ 2 * i) (.iteT (n' := n) (m' := m) (φ := Tp) (hd_ahead "else") ((g_block hI n m).wk fun _ _ => trivial) ((Gd2.imp .rt fun a i z => ?_).wk fun _ _ => trivial) (Nat.le_succ _) (Nat.le_succ _) (fun a i h => ?_) (.inl fun _ z => z)) fun c i h => ?_
    · obtain ⟨rfl, rfl⟩ := z
      exact ⟨[], rfl, fun _ h => (nomatch h), Nat.zero_le _⟩
    · obtain ⟨as, rfl, h1, h2⟩ := h
      exact ⟨as, rfl, h1, by omega⟩
    · obtain ⟨bs, rfl, b1, b2⟩ := hb
      obtain ⟨cs, rfl, c1, c2⟩ := h
      refine ⟨wf_node (ps := ["e", "block", "block"]) (by decide +kernel) (by rw [ok_e, ok_block, ok_block, ok_nil]) fun y hy => ?_, ?_⟩
      · rw [kidsOf_cons, kid_e, kidsOf_cons, kid_block, kidsOf_cons, kid_block, kidsOf_nil, List.append_nil] at hy
        rcases List.mem_append.mp hy with hy | hy
        · rw [List.mem_singleton.mp hy]
          exact he.1
        · rcases List.mem_append.mp hy with hy | hy
          · exact b1 y hy
          · exact c1 y hy
      · show 1 + (0 + (sz e + ((1 + szs bs) + (1 + szs cs + 0)))) ≤ sz e + (1 + szs bs) + 2 + 2 * i
        omega
theorem psG : ∀ d, PsG (lvl d)
  | 0 => by
    have h : OpG none := fun i e => (nomatch e)
    exact ⟨g_e h, g_st h⟩
  | d + 1 => by
    have h : OpG (some (lvl d)) := fun i e => by cases e; exact psG d
    exact ⟨g_e h, g_st h⟩
theorem opG : ∀ d, OpG (lvIn d)
  | 0 => fun i e => (nomatch e)
  | d + 1 => fun i e => by cases e; exact psG d
theorem shr_behind (d : Nat) : Shr (pBehind (lvIn d)) := fun r a q e => by
  obtain ⟨p, rfl, _⟩ := (g_behind (opG d) (r.length + 1) 0).ok r a q (Nat.lt_succ_self _) e
  rw [List.length_append]
  omega
theorem nd_e (d : Nat) : Nd (pE (lvIn d)) := fun r a q e => by
  obtain ⟨p, rfl, h, _⟩ := (g_e (opG d) (r.length + 1) 0).ok r a q (Nat.lt_succ_self _) e
  obtain ⟨z, as, rfl, _⟩ := wf_head h
  exact ⟨z, as, rfl⟩
end
end FE
namespace FE
open PySem L2 K01
section
variable {n m n' m' : Nat} {I : Option Ps}
def IsM (d : D) : Prop := ∃ n ps b, d = .tup [n, ps, .tup b] ∧ (sz n ≤ 1 ∧ sz ps ≤ 1) ∧ ∀ x ∈ b, Wf x
theorem hd_and2 {b : List TK → Bool} (h : Hd b) (c : Bool) : Hd fun r => c && b r := ⟨by rw [h.nil, Bool.and_false], fun t q u => by rw [h.app], fun k r => by rw [h.sh]⟩
theorem g_members : ∀ n m (s : List D × List D), (∀ d ∈ s.2, IsM d) ∧ (∀ d ∈ s.1, sz d = 0) → Gd2 n m No (fun (t : List D × List D) i => ((∀ d ∈ t.2, IsM d) ∧ ∀ d ∈ t.1, sz d = 0) ∧ szs t.2 ≤ szs s.2 + 2 * i) ((fun n (s : List D × List D) => members n s.1 s.2) n s) ((fun n (s : List D × List D) => members n s.1 s.2) m s) :=
  Gd2.loop fun n m ih s hs => by
    obtain ⟨fs, ms⟩ := s
    have e : ∀ n, members (n + 1) fs ms = fun r => if isAhead "}" r = true then rt (fs, ms) r else (bn wantName fun x => fun q => if (fun q => ms.isEmpty && isAhead ";" q) q = true then (members n (fs ++ [x]) ms) q.tail else (bn (pParams (lvIn 59)) fun ps => bn (pBlock (lvIn 59)) fun b => members n fs (ms ++ [.tup [x, ps, b]])) q) r := fun n => rfl
    show Gd2 (n + 1) (m + 1) No _ (members (n + 1) fs ms) (members (m + 1) fs ms)
    rw [e n, e m]
    have hf : ∀ d ∈ fs, sz d = 0 := hs.2
    have hs : ∀ d ∈ ms, IsM d := hs.1
    refine .ite (hd_ahead "}") ((Gd2.imp .rt fun a i z => by obtain ⟨rfl, rfl⟩ := z; exact ⟨⟨hs, hf⟩, Nat.le_refl _⟩).wk fun _ z => z.elim) ?_ noL
    refine .bn (n' := n) (m' := m) (ψ := fun x (t : List D × List D) i => ((∀ d ∈ t.2, IsM d) ∧ ∀ d ∈ t.1, sz d = 0) ∧ szs t.2 ≤ szs ms + 2 * i + 2) (g_name (n + 1) (m + 1)) (fun x _ hx => ?_) (fun a i h => by have := h.2; omega) (fun a b i j h k => ⟨k.1, by have := h.2; have := k.2; show szs b.2 ≤ szs ms + 2 * (i + j); omega⟩) noL
    refine .iteT (n' := n) (m' := m) (φ := fun (t : List D × List D) i => ((∀ d ∈ t.2, IsM d) ∧ ∀ d ∈ t.1, sz d = 0) ∧ szs t.2 ≤ szs ms + 2 * i) (hd_and2 (hd_ahead ";") _) (ih (fs ++ [x], ms) ⟨hs, fun d hd => by
      rcases List.mem_append.mp hd with hd | hd
      · exact hf d hd
      · rw [List.mem_singleton.mp hd]
        exact hx.1⟩) ?_ (Nat.le_succ _) (Nat.le_succ _) (fun a i h => ⟨h.1, by have := h.2; omega⟩) noL
    refine .bn (n' := n) (m' := m) (ψ := fun ps (t : List D × List D) i => ((∀ d ∈ t.2, IsM d) ∧ ∀ d ∈ t.1, sz d = 0) ∧ szs t.2 ≤ szs ms + 1 + sz ps + 2 * i) (g_params n m) (fun ps _ hps => ?_) le0 (fun a b i j h k => ⟨k.1, by have := h.1; have := h.2; have := k.2; omega⟩) noL
    refine .bn (n' := n) (m' := m) (ψ := fun b (t : List D × List D) i => ((∀ d ∈ t.2, IsM d) ∧ ∀ d ∈ t.1, sz d = 0) ∧ szs t.2 ≤ szs (ms ++ [.tup [x, ps, b]]) + 2 * i) (g_block (opG 59) n m) (fun b _ hb => ih (fs, ms ++ [.tup [x, ps, b]]) ⟨fun d hd => ?_, hf⟩) le0 (fun a b i j h k => ⟨k.1, ?_⟩) noL
    · rcases List.mem_append.mp hd with hd | hd
      · exact hs d hd
      · obtain ⟨as, rfl, h1, h2⟩ := hb
        rw [List.mem_singleton.mp hd]
        exact ⟨x, ps, as, rfl, ⟨by have := hx.1; omega, by have := hps.1; omega⟩, h1⟩
    · obtain ⟨as, rfl, h1, h2⟩ := h
      have := k.2
      rw [szs_app] at this
      have e : szs [.tup [x, ps, .tup as]] = 1 + (sz x + (sz ps + (1 + szs as + 0))) + 0 := rfl
      have := hx.1
      omega
/-- an item, whole -/
abbrev It : D → Nat → Prop := fun d i => WfI d ∧ szs (stsOf d) ≤ 2 * i ∧ 1 ≤ i
theorem blks_sz : ∀ {ms : List D}, (∀ d ∈ ms, IsM d) → szs (ms.flatMap blkOf) ≤ szs ms
  | [], _ => Nat.le_refl _
  | d :: ms, h => by
    obtain ⟨x, ps, b, rfl, _, _⟩ := h d (List.mem_cons_self ..)
    have ih := blks_sz fun e he => h e (List.mem_cons_of_mem _ he)
    show szs (b ++ ms.flatMap blkOf) ≤ 1 + (sz x + (sz ps + (1 + szs b + 0))) + szs ms
    rw [szs_app]
    omega
theorem g_class : Gd Ye It pClass := fun n m => by
  have e : pClass = bn (want "class") fun _ => bn wantName fun x => bn (fun r => if isAhead "of" r = true then wantName r.tail else rt .non r) fun el => bn (wantOpen "{" (lvIn 60)) fun _ => bn (fun r => members (r.length + 1) [] [] r) fun fm => bn (want "}") fun _ => rt (D.tup [.s "class", x, el, .tup fm.1, .tup fm.2]) := rfl
  rw [e]
  let G : D → Nat → Prop := fun d i => WfI d ∧ szs (stsOf d) ≤ 2 * i
  refine .bn (n' := n) (m' := m) (ψ := fun _ => G) (g_want "class" n m) (fun _ _ _ => ?_) le0 (fun a b i j h k => ⟨k.1, by have := k.2; omega, by omega⟩) (.inl fun _ z => z)
  refine .bn (n' := n) (m' := m) (ψ := fun _ => G) (g_name n m) (fun x _ hx => ?_) le0 (fun a b i j h k => ⟨k.1, by have := k.2; omega⟩) (.inl fun _ z => z)
  refine .bn (n' := n) (m' := m) (C1 := No) (φ := fun d _ => sz d = 0) (ψ := fun _ => G) (.iteT (n' := n) (m' := m) (φ := fun d _ => sz d = 0) (hd_ahead "of") (((g_name n m).imp fun _ _ h => h.1).wk fun _ z => z.elim) (((Gd2.imp .rt fun _ _ h => by rw [h.1]; rfl)).wk fun _ z => z.elim) (Nat.le_succ _) (Nat.le_succ _) (fun _ _ z => z) noL) (fun el _ hel => ?_) le0 (fun a b i j h k => ⟨k.1, by have := k.2; omega⟩) (.inr fun a i b q _ e => by cases e)
  refine .bn (n' := n) (m' := m) (ψ := fun _ => G) (g_open "{" (lvIn 60) n m) (fun _ _ _ => ?_) le0 (fun a b i j h k => ⟨k.1, by have := k.2; omega⟩) (.inl fun _ z => z)
  refine g_then (φ := fun (t : List D × List D) i => ((∀ d ∈ t.2, IsM d) ∧ ∀ d ∈ t.1, sz d = 0) ∧ szs t.2 ≤ 0 + 2 * i) (C1 := No) "}" (Gd2.fuel (F := fun n r => members n [] [] r) (fun n m => g_members n m ([], []) ⟨fun _ h => (nomatch h), fun _ h => (nomatch h)⟩) n m) fun fm i h => ?_
  refine ⟨.cls (by have := hx.1; omega) (by omega) (by show 1 + szs fm.1 ≤ 1; rw [szs_zero h.1.2]; omega) h.1.1, ?_⟩
  show szs (fm.2.flatMap blkOf) ≤ _
  have := blks_sz h.1.1
  have := h.2
  omega
theorem g_fun : Gd Ye It (bn (want "fun") fun _ => bn wantName fun x => bn (pParams (lvIn 60)) fun ps => bn (pBlock (lvIn 60)) fun b => rt (.tup [.s "function", x, ps, b])) := fun n m => by
  let G : D → Nat → Prop := fun d i => WfI d ∧ szs (stsOf d) ≤ 2 * i
  refine .bn (n' := n) (m' := m) (ψ := fun _ => G) (g_want "fun" n m) (fun _ _ _ => ?_) le0 (fun a b i j h k => ⟨k.1, by have := k.2; omega, by omega⟩) (.inl fun _ z => z)
  refine .bn (n' := n) (m' := m) (ψ := fun _ => G) (g_name n m) (fun x _ hx => ?_) le0 (fun a b i j h k => ⟨k.1, by have := k.2; omega⟩) (.inl fun _ z => z)
  refine .bn (n' := n) (m' := m) (ψ := fun _ => G) (g_params n m) (fun ps _ hps => ?_) le0 (fun a b i j h k => ⟨k.1, by have := k.2; omega⟩) (.inl fun _ z => z)
  refine g_map (g_block (opG 60) n m) fun b i h => ?_
  obtain ⟨as, rfl, h1, h2⟩ := h
  refine ⟨.fn (by have := hx.1; omega) (by have := hps.1; omega) h1, ?_⟩
  show szs as ≤ _
  omega
theorem sts_st {d : D} (h : Wf d) : stsOf d = [d] := by
  obtain ⟨z, as, rfl, n1, n2⟩ := wf_head h
  unfold stsOf
  rw [show headS (.tup (.s z :: as)) = z from rfl, if_neg n1, if_neg n2]
theorem st_fun {t : TK} (h : isAhead "fun" [t] = true) : pSt (lvIn 60) [t] = .bad [] := by
  have h1 : isKM t = true ∧ t.v = .str "fun" := by
    have : (isKM t && decide (t.v = .str "fun")) = true := h
    rw [Bool.and_eq_true, decide_eq_true_eq] at this
    exact this
  obtain ⟨s, v, l⟩ := t
  obtain ⟨h1, h2⟩ := h1
  have h2 : v = .str "fun" := h2
  subst h2
  unfold isKM at h1
  simp only [Bool.or_eq_true, decide_eq_true_eq] at h1
  rcases h1 with rfl | rfl <;> rfl
theorem g_item : Gd NoElse It pItem := fun n m => by
  let S : M D := pSt (lvIn 60)
  let F : M D := bn (want "fun") fun _ => bn wantName fun x => bn (pParams (lvIn 60)) fun ps => bn (pBlock (lvIn 60)) fun b => rt (.tup [.s "function", x, ps, b])
  have hS : Gd2 n m NoElse It S S := (g_st (opG 60) n m).imp fun d i h => ⟨.st h.1, by rw [sts_st h.1]; show sz d + 0 ≤ _; have := h.2.1; omega, h.2.2⟩
  have hF : Gd2 n m NoElse It F F := (g_fun n m).wk fun _ _ => trivial
  let c : List TK → Bool := fun r => isAhead "fun" r && decide (sortAt 1 r = .str "name")
  have cApp : ∀ r u, c (r ++ u) = c r ∨ (c r = false ∧ S r = .bad []) := fun r u => by
    match r with
    | [] => exact .inr ⟨rfl, rfl⟩
    | [t] =>
      cases h : isAhead "fun" [t] with
      | true => exact .inr ⟨by show (isAhead "fun" [t] && _) = false; rw [h]; rfl, st_fun h⟩
      | false =>
        refine .inl ?_
        show (isAhead "fun" [t] && _) = (isAhead "fun" [t] && _)
        rw [h, Bool.false_and, Bool.false_and]
    | t :: t' :: q => exact .inl rfl
  have cSh : ∀ k r, c (r.map (shT k)) = c r := fun k r => by
    match r with
    | [] => rfl
    | [t] => rfl
    | t :: t' :: q => rfl
  have hG : Gd2 n m NoElse It (fun r => if c r = true then F r else S r) (fun r => if c r = true then F r else S r) := {
    tot := fun r l e => by
      cases e' : c r with
      | true => exact hF.tot r l (by rw [e', if_pos rfl] at e; exact e)
      | false => exact hS.tot r l (by rw [e', if_neg Bool.false_ne_true] at e; exact e)
    ok := fun r a q l e => by
      cases e' : c r with
      | true => exact hF.ok r a q l (by rw [e', if_pos rfl] at e; exact e)
      | false => exact hS.ok r a q l (by rw [e', if_neg Bool.false_ne_true] at e; exact e)
    bd := fun r q l e => by
      cases e' : c r with
      | true => exact hF.bd r q l (by rw [e', if_pos rfl] at e; exact e)
      | false => exact hS.bd r q l (by rw [e', if_neg Bool.false_ne_true] at e; exact e)
    ext := fun r u a t q l1 l2 e => by
      show (if c (r ++ u) = true then F _ else S _) = _
      rcases cApp r u with h | ⟨h, h2⟩
      · rw [h]
        cases e' : c r with
        | true => rw [e', if_pos rfl] at e; rw [if_pos rfl]; exact hF.ext r u a t q l1 l2 e
        | false => rw [e', if_neg Bool.false_ne_true] at e; rw [if_neg Bool.false_ne_true]; exact hS.ext r u a t q l1 l2 e
      · rw [h, if_neg Bool.false_ne_true, h2] at e
        cases e
    exb := fun r u t q l1 l2 e => by
      show (if c (r ++ u) = true then F _ else S _) = _
      rcases cApp r u with h | ⟨h, h2⟩
      · rw [h]
        cases e' : c r with
        | true => rw [e', if_pos rfl] at e; rw [if_pos rfl]; exact hF.exb r u t q l1 l2 e
        | false => rw [e', if_neg Bool.false_ne_true] at e; rw [if_neg Bool.false_ne_true]; exact hS.exb r u t q l1 l2 e
      · rw [h, if_neg Bool.false_ne_true, h2] at e
        cases e
    str := fun r u a z l1 l2 e => by
      show (if c (r ++ u) = true then F _ else S _) = _
      rcases cApp r u with h | ⟨h, h2⟩
      · rw [h]
        cases e' : c r with
        | true => rw [e', if_pos rfl] at e; rw [if_pos rfl]; exact hF.str r u a z l1 l2 e
        | false => rw [e', if_neg Bool.false_ne_true] at e; rw [if_neg Bool.false_ne_true]; exact hS.str r u a z l1 l2 e
      · rw [h, if_neg Bool.false_ne_true, h2] at e
        cases e
    sh := fun k r l1 l2 => by
      show (if c (r.map (shT k)) = true then F _ else S _) = shR k (if c r = true then F r else S r)
      rw [cSh]
      cases c r with
      | true => rw [if_pos rfl, if_pos rfl]; exact hF.sh k r l1 l2
      | false => rw [if_neg Bool.false_ne_true, if_neg Bool.false_ne_true]; exact hS.sh k r l1 l2 }
  have e : pItem = fun r => if isAhead "class" r = true then pClass r else (fun r => if c r = true then F r else S r) r := rfl
  rw [e]
  exact .ite (hd_ahead "class") ((g_class n m).wk fun _ _ => trivial) hG (.inr fun a q e => by cases e)
theorem map_sh0 (r : List TK) : r.map (shT 0) = r := by
  induction r with
  | nil => rfl
  | cons t r ih =>
    rw [List.map_cons, ih]
    obtain ⟨s, v, l⟩ := t
    show (⟨s, v, l + 0⟩ : TK) :: r = _
    rw [Int.add_zero]
theorem shR0 {α : Type} (x : R α) : shR 0 x = x := by
  cases x with
  | out => rfl
  | bad r => show R.bad (r.map (shT 0)) = _; rw [map_sh0]
  | ok a r => show R.ok a (r.map (shT 0)) = _; rw [map_sh0]
theorem Gd2.eq {α : Type} {C : List TK → Prop} {φ : α → Nat → Prop} {f g : M α} (h : Gd2 n m C φ f g) (r : List TK) (l1 : r.length < n) (l2 : r.length < m) : g r = f r := by
  have z := h.sh 0 r l1 l2
  rw [map_sh0, shR0] at z
  exact z
/-- items, one behind another -/
abbrev Its : List D → Nat → Prop := fun ds i => (∀ d ∈ ds, WfI d) ∧ szs (firsts ds) ≤ 2 * i ∧ ds.length ≤ i
theorem hd_more : Hd fun r : List TK => !r.isEmpty := ⟨rfl, fun _ _ _ => rfl, fun k r => by cases r <;> rfl⟩
theorem items_if (n : Nat) : items (n + 1) = fun r => if (!r.isEmpty) = true then (bn pItem fun a => bn (items n) fun as => rt (a :: as)) r else rt [] r := by
  funext r
  cases r <;> rfl
theorem g_items : ∀ n m, Gd2 n m No Its (items n) (items m) := fun n m =>
  Gd2.loop (X := Unit) (P := fun _ => True) (ψ := fun _ => Its) (F := fun n _ => items n) (fun n m ih _ _ => by
    have ih := ih () trivial
    show Gd2 (n + 1) (m + 1) No Its (items (n + 1)) (items (m + 1))
    rw [items_if n, items_if m]
    refine .ite hd_more ?_ ((Gd2.imp .rt fun a i z => by obtain ⟨rfl, rfl⟩ := z; exact ⟨fun _ h => (nomatch h), Nat.le_refl _, Nat.le_refl _⟩).wk fun _ z => z.elim) noL
    refine .bn (n' := n) (m' := m) (ψ := fun a ds i => ∃ es, ds = a :: es ∧ Its es i) (g_item (n + 1) (m + 1)) (fun a i h => g_map ih fun es i k => ⟨es, rfl, k⟩) (fun a i h => by have := h.2.2; omega) (fun a b i j h k => ?_) noL
    obtain ⟨es, rfl, k1, k2, k3⟩ := k
    refine ⟨fun d hd => ?_, ?_, ?_⟩
    · rcases List.mem_cons.mp hd with rfl | hd
      · exact h.1
      · exact k1 d hd
    · show szs (stsOf a ++ firsts es) ≤ _
      rw [szs_app]
      have := h.2.1
      omega
    · have := h.2.2
      rw [List.length_cons]
      omega) n m () trivial
theorem items_rest : ∀ {n : Nat} {r : List TK} {ds : List D} {q : List TK}, items n r = .ok ds q → q = []
  | 0, r, ds, q, h => by cases h
  | n + 1, [], ds, q, h => by
    cases h
    rfl
  | n + 1, t :: r, ds, q, h => by
    obtain ⟨a, q1, e1, e2⟩ := bn_okI (show bn pItem (fun a => bn (items n) fun as => rt (a :: as)) (t :: r) = .ok ds q from h)
    obtain ⟨b, q2, e3, e4⟩ := bn_okI e2
    have := items_rest e3
    subst this
    cases e4
    rfl
/-- the items of two texts -/
theorem items_join : ∀ {n : Nat} {r : List TK} {ds : List D} {q : List TK} (u : List TK) (m k : Nat), r.length < n → (r ++ u).length < m → u.length < k → NoElse u → items n r = .ok ds q → items m (r ++ u) = bn (items k) (fun es => rt (ds ++ es)) u
  | 0, r, ds, q, u, m, k, l1, _, _, _, h => absurd l1 (Nat.not_lt_zero _)
  | n + 1, [], ds, q, u, m, k, l1, l2, l3, hu, h => by
    cases h
    show items m u = bn (items k) (fun es => rt es) u
    have e : bn (items k) (fun es => rt es) u = items k u := by
      unfold bn
      cases items k u <;> rfl
    rw [e]
    exact (g_items k m).eq u l3 l2
  | n + 1, t :: r, ds, q, u, m, k, l1, l2, l3, hu, h => by
    obtain ⟨a, q1, e1, e2⟩ := bn_okI (show bn pItem (fun a => bn (items n) fun as => rt (a :: as)) (t :: r) = .ok ds q from h)
    obtain ⟨b, q2, e3, e4⟩ := bn_okI e2
    cases e4
    obtain ⟨p, hp, hφ⟩ := (g_item (t :: r).length.succ 0).ok (t :: r) a q1 (Nat.lt_succ_self _) e1
    have hl := congrArg List.length hp
    rw [List.length_append, List.length_cons] at hl
    rw [List.length_append, List.length_cons] at l2
    rw [List.length_cons] at l1
    have h1 := hφ.2.2
    have e5 : pItem (t :: r ++ u) = .ok a (q1 ++ u) := by
      cases q1 with
      | nil => exact (g_item (t :: r).length.succ (t :: r ++ u).length.succ).str (t :: r) u a hu (Nat.lt_succ_self _) (Nat.lt_succ_self _) e1
      | cons t1 q1 => exact (g_item (t :: r).length.succ (t :: r ++ u).length.succ).ext (t :: r) u a t1 q1 (Nat.lt_succ_self _) (Nat.lt_succ_self _) e1
    cases m with
    | zero => exact absurd l2 (Nat.not_lt_zero _)
    | succ m =>
      show bn pItem (fun a => bn (items m) fun as => rt (a :: as)) (t :: r ++ u) = _
      rw [bn_okE e5]
      have ih := items_join (n := n) (r := q1) (ds := b) (q := _) u m k (by omega) (by rw [List.length_append]; omega) l3 hu e3
      unfold bn
      rw [ih]
      unfold bn
      cases items k u <;> rfl
end
end FE
namespace FE
open PySem L2 K01
theorem szs_kid (p : Str) (a : D) : szs (kid p a) ≤ sz a := by
  unfold kid
  split
  · show sz a + 0 ≤ _
    omega
  · split
    · cases a with
      | tup xs =>
        show szs xs ≤ 1 + szs xs
        omega
      | _ => exact Nat.zero_le _
    · exact Nat.zero_le _
theorem szs_kids : ∀ (ps : List Str) (as : List D), szs (kidsOf ps as) ≤ szs as
  | [], _ => Nat.zero_le _
  | _ :: _, [] => Nat.zero_le _
  | p :: ps, a :: as => by
    show szs (kid p a ++ kidsOf ps as) ≤ sz a + szs as
    rw [szs_app]
    have := szs_kid p a
    have := szs_kids ps as
    omega
theorem kids_sz {d : D} (h : Wf d) : szs (kids d) + 1 ≤ sz d := by
  cases h with
  | mk h k =>
    obtain ⟨z, as, ps, rfl, _, _, e⟩ := node_is h
    rw [e]
    have := szs_kids ps as
    show _ ≤ 1 + (0 + szs as)
    omega
theorem nexts_sz : ∀ {l : List D}, (∀ d ∈ l, Wf d) → szs (nexts l) + l.length ≤ szs l
  | [], _ => Nat.le_refl _
  | d :: l, h => by
    show szs (kids d ++ nexts l) + (l.length + 1) ≤ sz d + szs l
    rw [szs_app]
    have := kids_sz (h d (List.mem_cons_self ..))
    have := nexts_sz fun e he => h e (List.mem_cons_of_mem _ he)
    omega
theorem layN_sz {l : List D} (h : ∀ d ∈ l, Wf d) : ∀ n, szs (layN n l) ≤ szs l
  | 0 => Nat.le_refl _
  | n + 1 => by
    have := nexts_sz (layN_wf h n)
    have := layN_sz h n
    show szs (nexts (layN n l)) ≤ _
    omega
theorem fits_of {ds : List D} {k : Nat} (h : Its ds k) (hk : k ≤ big) : Fits ds := by
  have hb : big = 200000 := rfl
  have hs : sizeLine = 16777216 := rfl
  refine ⟨h.1, fun n => ?_, by have := h.2.2; omega⟩
  have w := firsts_wf h.1
  have := nexts_sz (layN_wf w n)
  have := layN_sz w n
  have := h.2.1
  omega
theorem all_tot (r : List TK) : pAll r ≠ .out := (g_items (r.length + 1) 0).tot r (Nat.lt_succ_self _)
theorem all_ok {r : List TK} {ds : List D} {q : List TK} (h : pAll r = .ok ds q) : q = [] ∧ Its ds r.length := by
  obtain rfl := items_rest h
  obtain ⟨p, hp, k⟩ := (g_items (r.length + 1) 0).ok r ds [] (Nat.lt_succ_self _) h
  rw [List.append_nil] at hp
  rw [hp]
  exact ⟨rfl, k⟩
theorem all_fits {r : List TK} {ds : List D} {q : List TK} (h : pAll r = .ok ds q) (hb : r.length ≤ big) : Fits ds := fits_of (all_ok h).2 hb
theorem all_join {r u : List TK} {ds : List D} {q : List TK} (hu : NoElse u) (h : pAll r = .ok ds q) : pAll (r ++ u) = bn pAll (fun es => rt (ds ++ es)) u := by
  show items ((r ++ u).length + 1) (r ++ u) = _
  rw [items_join u ((r ++ u).length + 1) (u.length + 1) (Nat.lt_succ_self _) (Nat.lt_succ_self _) (Nat.lt_succ_self _) hu h]
  rfl
theorem all_bad {r u q : List TK} {t : TK} (h : pAll r = .bad (t :: q)) : pAll (r ++ u) = .bad (t :: (q ++ u)) := (g_items (r.length + 1) ((r ++ u).length + 1)).exb r u t q (Nat.lt_succ_self _) (Nat.lt_succ_self _) h
theorem all_sh (k : Int) (r : List TK) : pAll (r.map (shT k)) = shR k (pAll r) := by
  show items ((r.map (shT k)).length + 1) (r.map (shT k)) = _
  rw [List.length_map]
  exact (g_items (r.length + 1) (r.length + 1)).sh k r (Nat.lt_succ_self _) (Nat.lt_succ_self _)
theorem depthN_app : ∀ (n : Nat) (a b : List D), depthN n (a ++ b) = max (depthN n a) (depthN n b)
  | 0, _, _ => rfl
  | n + 1, [], b => by
    show depthN (n + 1) b = max 0 (depthN (n + 1) b)
    omega
  | n + 1, x :: a, [] => by
    rw [List.append_nil]
    show _ = max (depthN (n + 1) (x :: a)) 0
    omega
  | n + 1, x :: a, y :: b => by
    show 1 + depthN n (nexts (x :: a ++ y :: b)) = max (1 + depthN n (nexts (x :: a))) (1 + depthN n (nexts (y :: b)))
    have : nexts (x :: a ++ y :: b) = nexts (x :: a) ++ nexts (y :: b) := List.flatMap_append
    rw [this, depthN_app n]
    omega
theorem deep_app (a b : List D) : isDeep (a ++ b) = (isDeep a || isDeep b) := by
  unfold isDeep
  have : firsts (a ++ b) = firsts a ++ firsts b := List.flatMap_append
  rw [this, depthN_app, Bool.eq_iff_iff]
  simp only [Bool.or_eq_true, decide_eq_true_eq]
  omega
/-! ## how deep the tuples stand -/
inductive Nst : Nat → D → Prop
  | s {n : Nat} {z : Str} : Nst (n + 1) (.s z)
  | i {n : Nat} {z : Int} : Nst (n + 1) (.i z)
  | non {n : Nat} : Nst (n + 1) .non
  | tup {n : Nat} {xs : List D} (h : ∀ x ∈ xs, Nst n x) : Nst (n + 1) (.tup xs)
theorem Nst.up {n : Nat} {d : D} (h : Nst n d) : ∀ {m : Nat}, n ≤ m → Nst m d := by
  induction h with
  | s => intro m hm; obtain ⟨m, rfl⟩ : ∃ k, m = k + 1 := ⟨m - 1, by omega⟩; exact .s
  | i => intro m hm; obtain ⟨m, rfl⟩ : ∃ k, m = k + 1 := ⟨m - 1, by omega⟩; exact .i
  | non => intro m hm; obtain ⟨m, rfl⟩ : ∃ k, m = k + 1 := ⟨m - 1, by omega⟩; exact .non
  | tup h ih => intro m hm; obtain ⟨m, rfl⟩ : ∃ k, m = k + 1 := ⟨m - 1, by omega⟩; exact .tup fun x hx => ih x hx (by omega)
theorem nst_0 {d : D} (h : sz d = 0) : Nst 1 d := by
  cases d with
  | s z => exact .s
  | i z => exact .i
  | non => exact .non
  | tup xs => exact absurd (show 1 + szs xs = 0 from h) (by omega)
theorem szs_mem : ∀ {xs : List D} {x : D}, x ∈ xs → sz x ≤ szs xs
  | y :: xs, x, h => by
    show _ ≤ sz y + szs xs
    rcases List.mem_cons.mp h with rfl | h
    · omega
    · have := szs_mem h
      omega
theorem nst_1 {d : D} (h : sz d ≤ 1) : Nst 2 d := by
  cases d with
  | tup xs =>
    refine .tup fun x hx => nst_0 ?_
    have := szs_mem hx
    have : 1 + szs xs ≤ 1 := h
    omega
  | s z => exact .s
  | i z => exact .i
  | non => exact .non
theorem nst_parts : ∀ (ps : List Str) (as : List D) (k : Nat), okParts ps as = true → (∀ x ∈ kidsOf ps as, Nst k x) → ∀ a ∈ as, Nst (k + 2) a
  | [], [], _, _, _, a, h => (nomatch h)
  | [], _ :: _, _, h, _, _, _ => by cases h
  | _ :: _, [], _, h, _, _, _ => by cases h
  | p :: ps, b :: as, k, h, hk, a, ha => by
    rw [ok_cons, Bool.and_eq_true] at h
    rw [kidsOf_cons] at hk
    rcases List.mem_cons.mp ha with rfl | ha
    · have h1 := h.1
      by_cases c1 : p = "args" ∨ p = "block"
      · rw [if_pos c1] at h1
        cases a with
        | tup xs =>
          have e : kid p (.tup xs) = xs := by
            rcases c1 with rfl | rfl
            · exact kid_args xs
            · exact kid_block xs
          refine .tup fun x hx => (hk x (List.mem_append_left _ (by rw [e]; exact hx))).up (Nat.le_succ _)
        | _ => cases h1
      · rw [if_neg c1] at h1
        by_cases c2 : p = "e" ∨ p = "place"
        · have e : kid p a = [a] := if_pos c2
          exact (hk a (List.mem_append_left _ (by rw [e]; exact List.mem_singleton.mpr rfl))).up (by omega)
        · rw [if_neg c2] at h1
          exact (nst_1 (of_decide_eq_true h1)).up (by omega)
    · exact nst_parts ps as k h.2 (fun x hx => hk x (List.mem_append_right _ hx)) a ha
theorem nst_layer : ∀ (n : Nat) (l : List D), (∀ d ∈ l, Wf d) → depthN n l < n → ∀ d ∈ l, Nst (3 * depthN n l + 1) d
  | 0, l, _, h, _, _ => absurd h (Nat.not_lt_zero _)
  | n + 1, [], _, _, d, hd => (nomatch hd)
  | n + 1, y :: l, hw, h, d, hd => by
    have e : depthN (n + 1) (y :: l) = 1 + depthN n (nexts (y :: l)) := rfl
    rw [e] at h ⊢
    have hn : ∀ x ∈ nexts (y :: l), Wf x := layN_wf hw 1
    have ih := nst_layer n (nexts (y :: l)) hn (by omega)
    cases hw d hd with
    | mk h1 k =>
      obtain ⟨z, as, ps, rfl, _, ho, ek⟩ := node_is h1
      have hp := nst_parts ps as _ ho fun x hx => ih x (List.mem_flatMap.mpr ⟨_, hd, by rw [ek]; exact hx⟩)
      rw [show 3 * (1 + depthN n (nexts (y :: l))) + 1 = (3 * depthN n (nexts (y :: l)) + 1 + 2) + 1 by omega]
      refine .tup fun x hx => ?_
      rcases List.mem_cons.mp hx with rfl | hx
      · exact .s
      · exact hp x hx
theorem nst_all {ds : List D} (h : ∀ d ∈ ds, WfI d) (hd : isDeep ds = false) : Nst 156 (.tup ds) := by
  have hd : depthN 51 (firsts ds) ≤ 50 := by
    have := of_decide_eq_false hd
    omega
  have L := nst_layer 51 (firsts ds) (firsts_wf h) (by omega)
  have L : ∀ d ∈ firsts ds, Nst 151 d := fun d hd => (L d hd).up (by omega)
  refine .tup fun d hd => ?_
  have hs : ∀ x ∈ stsOf d, Nst 151 x := fun x hx => L x (List.mem_flatMap.mpr ⟨d, hd, hx⟩)
  cases h d hd with
  | @fn x ps b h1 h2 hb =>
    have hs : ∀ y ∈ b, Nst 151 y := hs
    refine .tup fun y hy => ?_
    simp only [List.mem_cons, List.not_mem_nil, or_false] at hy
    rcases hy with rfl | rfl | rfl | rfl
    · exact .s
    · exact (nst_1 h1).up (by omega)
    · exact (nst_1 h2).up (by omega)
    · exact (Nst.tup hs).up (by omega)
  | @cls x el fs ms h1 h2 h3 hm =>
    have hs : ∀ y ∈ ms.flatMap blkOf, Nst 151 y := hs
    refine .tup fun y hy => ?_
    simp only [List.mem_cons, List.not_mem_nil, or_false] at hy
    rcases hy with rfl | rfl | rfl | rfl | rfl
    · exact .s
    · exact (nst_1 h1).up (by omega)
    · exact (nst_1 h2).up (by omega)
    · exact (nst_1 h3).up (by omega)
    · refine .tup fun m hm' => ?_
      obtain ⟨a, ps, b, rfl, ⟨g1, g2⟩, _⟩ := hm m hm'
      refine .tup fun y hy => ?_
      simp only [List.mem_cons, List.not_mem_nil, or_false] at hy
      rcases hy with rfl | rfl | rfl
      · exact (nst_1 g1).up (by omega)
      · exact (nst_1 g2).up (by omega)
      · exact (Nst.tup fun z hz => hs z (List.mem_flatMap.mpr ⟨_, hm', hz⟩)).up (by omega)
  | st hw =>
    rw [sts_st hw] at hs
    exact (hs d (List.mem_singleton.mpr rfl)).up (by omega)
end FE
/-! ## the plain law: the words of a text that is put together -/
namespace K01
open PySem L2
theorem replace_spl (x y z : Str) (hy : TL.tl y ≠ []) : TL.tl (Txt.replace x y z) = TL.joinL (TL.tl z) (TL.spl (TL.tl y) 0 [] (TL.tl x)) := by
  obtain ⟨f, g, hn⟩ := StrLaws.occ_tight x y (TL.len1 hy)
  have key := TL.parts_spl hy _ 0 f (Nat.zero_le _) g hn
  rw [List.drop_zero] at key
  have h0 : (y.length == 0) = false := by
    have := TL.len1 hy
    exact beq_eq_false_iff_ne.mpr (by omega)
  unfold Txt.replace
  rw [h0, Bool.false_and, Bool.or_false]
  by_cases h : (Builtin.Str.occurrences x y 0 x.length (x.length + 1)).isEmpty = true
  · rw [if_pos h, ← key, List.isEmpty_iff.mp h]
    show TL.tl x = TL.tl (Builtin.Str.strSub x 0 x.length)
    rw [StrLaws.sub_whole]
  · rw [if_neg h, StrLaws.glued_eq_join, TL.tl_join, StrLaws.partsBetween_eq, key]
abbrev dbl : List Nat → List Nat := StrLaws.dbl 34
theorem dbl_q (r : List Nat) : dbl (34 :: r) = 34 :: 34 :: dbl r := if_pos rfl
theorem dbl_n {c : Nat} (h : c ≠ 34) (r : List Nat) : dbl (c :: r) = c :: dbl r := if_neg h
theorem spl_ne (S : List Nat) : ∀ (k : Nat) (acc l : List Nat), TL.spl S k acc l ≠ []
  | k, acc, [] => by rw [TL.spl_nil]; simp
  | 0, acc, c :: r => by
    cases h : TL.pre S (c :: r) with
    | true => rw [TL.spl_hit h]; simp
    | false => rw [TL.spl_miss h]; exact spl_ne S 0 _ r
  | k + 1, acc, c :: r => by
    show TL.spl S k acc r ≠ []
    exact spl_ne S k acc r
theorem join_cons {S p : List Nat} {ps : List (List Nat)} (h : ps ≠ []) : TL.joinL S (p :: ps) = p ++ (S ++ TL.joinL S ps) := by
  cases ps with
  | nil => exact absurd rfl h
  | cons q r => rfl
theorem undbl : ∀ (l acc : List Nat), TL.joinL [34] (TL.spl [34, 34] 0 acc (dbl l)) = acc ++ l
  | [], acc => by
    show TL.joinL [34] (TL.spl [34, 34] 0 acc []) = _
    rw [TL.spl_nil, List.append_nil] <;> rfl
  | c :: r, acc => by
    by_cases h : c = 34
    · subst h
      rw [dbl_q, TL.spl_hit (by rfl), join_cons (spl_ne _ _ _ _), TL.spl_pass]
      show acc ++ ([34] ++ TL.joinL [34] (TL.spl [34, 34] 0 [] (dbl r))) = _
      rw [undbl r []] <;> rfl
    · rw [dbl_n h, TL.spl_miss (TL.pre_of_head _ _ h), undbl r (acc ++ [c]), List.append_assoc] <;> rfl
theorem undouble (l : List Nat) : Txt.replace (Sg (dbl l)) (Sg [34] ++ Sg [34]) (Sg [34]) = Sg l := by
  have z := replace_spl (Sg (dbl l)) (Sg [34] ++ Sg [34]) (Sg [34]) (by show ([34, 34] : List Nat) ≠ []; simp)
  have e : TL.joinL [34] (TL.spl [34, 34] 0 [] (dbl l)) = l := undbl l []
  refine TL.ext_tl (z.trans ?_)
  exact e
/-! ### segments -/
/-- the rest begins so that what stands ahead is at its end -/
def headNot (p : Nat → Bool) : List Nat → Prop
  | [] => True
  | c :: _ => p c = false
def nl (t : List Nat) : Int := ((t.count 10 : Nat) : Int)
theorem nl_app (a b : List Nat) : nl (a ++ b) = nl a + nl b := by
  unfold nl
  rw [List.count_append]
  omega
inductive Kd where
  | mark | text | word
def stopK : Kd → Nat → Bool
  | .mark => fun c => decide (c = 61)
  | .text => fun c => decide (c = 34)
  | .word => isLF
/-- a word of a text -/
def TokSeg (k : Kd) (w : List Nat) (s : Str) (v : V) : Prop := ∀ rest l r, headNot (stopK k) rest → Lex rest l r → Lex (w ++ rest) l (Res.cons ⟨s, v, l⟩ r)
def isB (c : Nat) : Bool := decide (c = 32) || (decide (c = 10) || decide (c = 35))
def headB : List Nat → Bool
  | [] => false
  | c :: _ => isB c
/-- blanks, line feeds, notes -/
def SkipSeg (w : List Nat) : Prop := ∀ rest l r, Lex rest (l + nl w) r → Lex (w ++ rest) l r
/-- what is no word -/
def BadSeg (w : List Nat) : Prop := ∀ rest l, headB rest = true → Lex (w ++ rest) l (.error l)
theorem LF_not {c : Nat} (h : isLF c = true) : c ≠ 35 ∧ c ≠ 32 ∧ c ≠ 10 := by
  refine ⟨?_, ?_, ?_⟩ <;> (rintro rfl; exact absurd h (by decide +kernel))
theorem stretch_app : ∀ {w rest : List Nat}, w.all isLF = true → headNot isLF rest → stretch (w ++ rest) = w
  | [], [], _, _ => rfl
  | [], c :: r, _, h => stretch_stop h
  | c :: w, rest, h, h' => by
    rw [List.all_cons, Bool.and_eq_true] at h
    rw [List.cons_append, stretch_cons h.1, stretch_app h.2 h']
theorem seg_word {w : List Nat} {s : Str} {v : V} (hw : w ≠ []) (ha : w.all isLF = true) (hs : stretchTok w = some (s, v)) : TokSeg .word w s v := by
  intro rest l r hh hL
  match w, hw with
  | c :: u, _ =>
    obtain ⟨h1, h2, h3⟩ := LF_not (List.all_eq_true.mp ha c (List.mem_cons_self ..))
    have e : wordAt ((c :: u) ++ rest) = some (s, v, (c :: u).length) := by
      unfold wordAt
      rw [stretch_app ha hh, if_neg (by simp), hs] <;> rfl
    have e2 : ((c :: u) ++ rest).drop (c :: u).length = rest := List.drop_left
    exact .tok h1 h2 h3 e (by
      have z : Lex (((c :: u) ++ rest).drop (c :: u).length) l r := by rw [e2]; exact hL
      exact z)
theorem bad_word {w : List Nat} (hw : w ≠ []) (ha : w.all isLF = true) (hs : stretchTok w = none) : BadSeg w := by
  intro rest l hh
  match w, hw with
  | c :: u, _ =>
    obtain ⟨h1, h2, h3⟩ := LF_not (List.all_eq_true.mp ha c (List.mem_cons_self ..))
    have hn : headNot isLF rest := by
      cases rest with
      | nil => trivial
      | cons d r =>
        show isLF d = false
        cases e : isLF d with
        | false => rfl
        | true =>
          obtain ⟨a, b, c⟩ := LF_not e
          have hh' : isB d = true := hh
          unfold isB at hh'
          rw [decide_eq_false b, decide_eq_false c, decide_eq_false a] at hh'
          cases hh'
    have e : wordAt ((c :: u) ++ rest) = none := by
      unfold wordAt
      rw [stretch_app ha hn, if_neg (by simp), hs] <;> rfl
    exact .bad h1 h2 h3 e
theorem len0 {c : Nat} {u : List Nat} (h : isLF c = false) : (stretch (c :: u)).length = 0 := by
  rw [stretch_stop h]; rfl
theorem q_stretch (u : List Nat) : (stretch (34 :: u)).length = 0 := by
  rw [stretch_stop (by decide +kernel)]; rfl
theorem qEnd_dbl_app : ∀ {x rest : List Nat}, x.all isS = true → headNot (stopK .text) rest → qEnd (dbl x ++ 34 :: rest) = some (dbl x).length
  | [], rest, _, h => by
    refine qEnd_end fun e => ?_
    cases rest with
    | nil => cases e
    | cons c r =>
      have hc : decide (c = 34) = false := h
      injection e with e1
      rw [e1] at hc
      cases hc
  | c :: x, rest, ha, h => by
    rw [List.all_cons, Bool.and_eq_true] at ha
    by_cases hc : c = 34
    · subst hc
      rw [dbl_q, List.cons_append, List.cons_append, qEnd_dbl, qEnd_dbl_app ha.2 h] <;> rfl
    · rw [dbl_n hc, List.cons_append, qEnd_next ha.1 hc, qEnd_dbl_app ha.2 h] <;> rfl
theorem seg_text {x : List Nat} (ha : x.all isS = true) : TokSeg .text (34 :: (dbl x ++ [34])) "text" (.str (Sg x)) := by
  intro rest l r hh hL
  have e : wordAt (34 :: (dbl x ++ [34]) ++ rest) = some (("text" : Str), V.str (Sg x), (dbl x).length + 2) := by
    rw [List.cons_append, List.append_assoc]
    unfold wordAt
    rw [if_pos (q_stretch _)]
    show (if (34 : Nat) = 34 then _ else _) = _
    rw [if_pos rfl, List.singleton_append, qEnd_dbl_app ha hh]
    show some (("text" : Str), V.str (Txt.replace (Sg ((dbl x ++ 34 :: rest).take (dbl x).length)) (Sg [34] ++ Sg [34]) (Sg [34])), (dbl x).length + 2) = _
    rw [List.take_left, undouble]
  have e2 : (34 :: (dbl x ++ [34]) ++ rest).drop ((dbl x).length + 2) = rest := by
    have e3 : ((34 :: (dbl x ++ [34])) : List Nat).length = (dbl x).length + 2 := by simp
    rw [← e3]
    exact List.drop_left
  exact .tok (by decide) (by decide) (by decide) e (by
    have z : Lex ((34 :: (dbl x ++ [34]) ++ rest).drop ((dbl x).length + 2)) l r := by rw [e2]; exact hL
    exact z)
theorem qEnd_open : ∀ {x rest : List Nat}, x.all isS = true → qEnd (dbl x ++ 10 :: rest) = none
  | [], _, _ => qEnd_bad (by decide +kernel)
  | c :: x, rest, ha => by
    rw [List.all_cons, Bool.and_eq_true] at ha
    by_cases hc : c = 34
    · subst hc
      rw [dbl_q, List.cons_append, List.cons_append, qEnd_dbl, qEnd_open ha.2] <;> rfl
    · rw [dbl_n hc, List.cons_append, qEnd_next ha.1 hc, qEnd_open ha.2] <;> rfl
theorem bad_quote {u : List Nat} (h : ∀ rest, qEnd (u ++ rest) = none) : BadSeg (34 :: u) := by
  intro rest l _
  have e : wordAt (34 :: (u ++ rest)) = none := by
    unfold wordAt
    rw [if_pos (q_stretch _)]
    show (if (34 : Nat) = 34 then _ else _) = _
    rw [if_pos rfl, h] <;> rfl
  exact .bad (by decide) (by decide) (by decide) e
theorem bad_open {x : List Nat} (ha : x.all isS = true) : BadSeg (34 :: (dbl x ++ [10])) := bad_quote fun rest => by
  rw [List.append_assoc]
  exact qEnd_open ha
theorem bad_three : BadSeg [34, 34, 34, 10] := bad_quote fun rest => by
  show qEnd (34 :: 34 :: 10 :: rest) = none
  rw [qEnd_dbl, qEnd_bad (by decide +kernel)] <;> rfl
/-- a sign that makes a mark alone -/
def mark1 (c : Nat) : Bool := isM c && (!isLF c && (!decide (c = 34) && (!decide (c = 35) && (!decide (c = 32) && !decide (c = 10)))))
def odd1 (c : Nat) : Bool := !isM c && (!isLF c && (!decide (c = 34) && (!decide (c = 35) && (!decide (c = 32) && !decide (c = 10)))))
theorem pair_snd {c d : Nat} {u : List Nat} (h : d ≠ 61) : pairB ((c :: d :: u).take 2) = false := by
  cases e : pairB ((c :: d :: u).take 2) with
  | false => rfl
  | true =>
    unfold pairB inV at e
    rw [List.any_eq_true] at e
    obtain ⟨y, hy, e⟩ := e
    obtain ⟨z, hz, rfl⟩ := List.mem_map.mp hy
    have e2 : z = Sg [c, d] := beq_iff_eq.mp (show (z == Sg [c, d]) = true from e)
    have e3 : z.cps.toList[1]? = some 61 := (by decide +kernel : ∀ z ∈ PAIRS, z.cps.toList[1]? = some 61) z hz
    rw [e2] at e3
    exact absurd (Option.some.inj e3) h
theorem pair_one (c : Nat) : pairB ((c :: []).take 2) = false := by
  cases e : pairB ((c :: []).take 2) with
  | false => rfl
  | true =>
    have z := pair_len e
    cases z
theorem seg_mark1 {c : Nat} (h : mark1 c = true) : TokSeg .mark [c] "mark" (.str (Sg [c])) := by
  intro rest l r hh hL
  unfold mark1 at h
  simp only [Bool.and_eq_true, Bool.not_eq_true', decide_eq_false_iff_not] at h
  obtain ⟨hm, hLF, h34, h35, h32, h10⟩ := h
  have hp : pairB ((c :: rest).take 2) = false := by
    cases rest with
    | nil => exact pair_one c
    | cons d u =>
      exact pair_snd fun e => by
        have z : decide (d = 61) = false := hh
        rw [e] at z
        cases z
  have e : wordAt ([c] ++ rest) = some (("mark" : Str), V.str (Sg [c]), 1) := by
    show wordAt (c :: rest) = _
    unfold wordAt
    rw [if_pos (len0 hLF)]
    show (if c = 34 then _ else if pairB ((c :: rest).take 2) = true then _ else if isM c = true then _ else _) = _
    rw [if_neg h34, hp, if_neg Bool.false_ne_true, if_pos hm]
  exact .tok h35 h32 h10 e hL
theorem seg_mark2 {c d : Nat} (h : (pairB [c, d] && (!isLF c && (!decide (c = 34) && (!decide (c = 35) && (!decide (c = 32) && !decide (c = 10)))))) = true) : TokSeg .mark [c, d] "mark" (.str (Sg [c, d])) := by
  intro rest l r hh hL
  simp only [Bool.and_eq_true, Bool.not_eq_true', decide_eq_false_iff_not] at h
  obtain ⟨hm, hLF, h34, h35, h32, h10⟩ := h
  have e : wordAt ([c, d] ++ rest) = some (("mark" : Str), V.str (Sg [c, d]), 2) := by
    show wordAt (c :: d :: rest) = _
    unfold wordAt
    rw [if_pos (len0 hLF)]
    show (if c = 34 then _ else if pairB [c, d] = true then some (("mark" : Str), V.str (Sg [c, d]), 2) else _) = _
    rw [if_neg h34, if_pos hm]
  exact .tok h35 h32 h10 e hL
theorem bad_odd {c : Nat} (h : odd1 c = true) : BadSeg [c] := by
  intro rest l hh
  unfold odd1 at h
  simp only [Bool.and_eq_true, Bool.not_eq_true', decide_eq_false_iff_not] at h
  obtain ⟨hm, hLF, h34, h35, h32, h10⟩ := h
  have hp : pairB ((c :: rest).take 2) = false := by
    cases rest with
    | nil => exact pair_one c
    | cons d u =>
      exact pair_snd fun e => by
        have z : isB d = true := hh
        rw [e] at z
        exact absurd z (by decide)
  have e : wordAt ([c] ++ rest) = none := by
    show wordAt (c :: rest) = _
    unfold wordAt
    rw [if_pos (len0 hLF)]
    show (if c = 34 then _ else if pairB ((c :: rest).take 2) = true then _ else if isM c = true then _ else _) = _
    rw [if_neg h34, hp, if_neg Bool.false_ne_true, hm, if_neg Bool.false_ne_true]
  exact .bad h35 h32 h10 e
/-! ### skips -/
theorem skip_nil : SkipSeg [] := fun rest l r h => by
  have e : l + nl [] = l := Int.add_zero l
  rw [e] at h
  exact h
theorem skip_blank {w : List Nat} (h : SkipSeg w) : SkipSeg (32 :: w) := fun rest l r k => .blank (h rest l r (by
  have e : nl (32 :: w) = nl w := by
    unfold nl
    rw [List.count_cons_of_ne (by decide)]
  rw [e] at k
  exact k))
theorem skip_line {w : List Nat} (h : SkipSeg w) : SkipSeg (10 :: w) := fun rest l r k => .line (h rest (l + 1) r (by
  have e : nl (10 :: w) = nl w + 1 := by
    unfold nl
    rw [List.count_cons_self]
    omega
  rw [e] at k
  rw [show l + 1 + nl w = l + (nl w + 1) by omega]
  exact k))
theorem upTo_app {c : Nat} : ∀ {x rest : List Nat}, (∀ y ∈ x, y ≠ c) → L2.upTo c (x ++ c :: rest) = x
  | [], _, _ => upTo_hit
  | y :: x, rest, h => by rw [List.cons_append, upTo_cons (h y (List.mem_cons_self ..)), upTo_app fun z hz => h z (List.mem_cons_of_mem _ hz)]
theorem skip_note {x w : List Nat} (hx : x.all isS = true) (h : SkipSeg (10 :: w)) : SkipSeg (35 :: (x ++ 10 :: w)) := fun rest l r k => by
  have hn : ∀ y ∈ (35 :: x), y ≠ 10 := fun y hy e => by
    rcases List.mem_cons.mp hy with rfl | hy
    · cases e
    · have z := List.all_eq_true.mp hx y hy
      rw [e] at z
      exact absurd z (by decide +kernel)
  have e : L2.upTo 10 (35 :: (x ++ 10 :: w) ++ rest) = 35 :: x := by
    have z := upTo_app (rest := w ++ rest) hn
    rw [← z]
    simp
  have eN : nl (35 :: (x ++ 10 :: w)) = nl (10 :: w) := by
    have z : (35 :: (x ++ 10 :: w)) = (35 :: x) ++ (10 :: w) := rfl
    rw [z, nl_app]
    have y : nl (35 :: x) = 0 := by
      unfold nl
      rw [List.count_eq_zero.mpr fun m => hn 10 m rfl] <;> rfl
    rw [y, Int.zero_add]
  rw [eN] at k
  refine .note ?_ ?_
  · have z : (L2.upTo 10 (35 :: (x ++ 10 :: w) ++ rest)).all isS = true := by
      rw [e, List.all_cons, hx, Bool.and_true]
      decide +kernel
    exact z
  · show Lex ((35 :: (x ++ 10 :: w) ++ rest).drop (L2.upTo 10 (35 :: (x ++ 10 :: w) ++ rest)).length) l r
    rw [e]
    have z : ((35 :: (x ++ 10 :: w)) ++ rest).drop (35 :: x).length = (10 :: w) ++ rest := by
      have y : ((35 :: (x ++ 10 :: w)) ++ rest) = (35 :: x) ++ ((10 :: w) ++ rest) := by simp
      rw [y, List.drop_left]
    rw [z]
    exact h rest l r k
end K01
namespace FE
open PySem L2 K01
abbrev s_law_name : Stmt := top 72
abbrev N_law_name : List Str := ["flow"]
abbrev P_law_name : List Str := ["flow"]
theorem sc_law_name : FnScope N_law_name P_law_name (defScope s_law_name) := ⟨rfl, rfl, rfl, by decide +kernel, rfl, by decide +kernel, by decide +kernel⟩
abbrev s_law_atom : Stmt := top 73
abbrev N_law_atom : List Str := ["flow", "plain"]
abbrev P_law_atom : List Str := ["flow"]
theorem sc_law_atom : FnScope N_law_atom P_law_atom (defScope s_law_atom) := ⟨rfl, rfl, rfl, by decide +kernel, rfl, by decide +kernel, by decide +kernel⟩
abbrev s_law_called : Stmt := top 75
abbrev N_law_called : List Str := ["flow", "found", "k"]
abbrev P_law_called : List Str := ["flow"]
theorem sc_law_called : FnScope N_law_called P_law_called (defScope s_law_called) := ⟨rfl, rfl, rfl, by decide +kernel, rfl, by decide +kernel, by decide +kernel⟩
def NAMES9 : List Str := ["x", "y", "a", "A", "_k", "of1", "v9", "qqqqqqqqqqqqqqqqqqqq"]
def PLAIN9 : List Str := ["7", "0", "576460752303423487", "\"a; \"\" #\"", "\"\"", "true", "false", "nil", "this"]
def REST9 : List Str := ["[", "]", "fun", "new", "(", ")", "super", ".", "yield", "len", "weak", "worth", "number", "spawn", "join", "not"]
def REST9b : List Str := ["-", "or", "and", "==", "!=", "<", "<=", ">", ">=", "+", "*", "/", "mod", ",", "{", "}", "break", "continue", ";", "try", "catch", "var", "=", "return", "throw", "say", "while", "if", "else", "class", "of"]
def VOC : List Str := NAMES9 ++ (PLAIN9 ++ (REST9 ++ REST9b))
abbrev W1 (x : Str) : List Str := [x]
theorem W1_len (x : Str) : (W1 x).length = 1 := rfl
def Voc (ws : List Str) : Prop := ∀ w ∈ ws, w ∈ VOC
theorem Voc.nil : Voc [] := fun _ h => (nomatch h)
theorem Voc.app {a b : List Str} (h : Voc a) (k : Voc b) : Voc (a ++ b) := fun x hx => (List.mem_append.mp hx).elim (h x) (k x)
theorem Voc.one {x : Str} (h : x ∈ VOC) : Voc (W1 x) := fun y hy => by
  rw [List.mem_singleton.mp hy]
  exact h
/-- the first word is not else -/
def HdOk (ws : List Str) : Prop := ws.head? ≠ some ("else" : Str)
/-- there are words, the first two are not else -/
def HeadOk (ws : List Str) : Prop := ∃ (x : Str) (r : List Str), ws = x :: r ∧ x ≠ "else" ∧ HdOk r
theorem HeadOk.hd {ws : List Str} (h : HeadOk ws) : HdOk ws := by
  obtain ⟨x, r, rfl, h1, _⟩ := h
  intro e
  exact h1 (Option.some.inj e)
theorem HeadOk.app {a b : List Str} (h : HeadOk a) (k : HdOk b) : HeadOk (a ++ b) := by
  obtain ⟨x, r, rfl, h1, h2⟩ := h
  refine ⟨x, r ++ b, rfl, h1, ?_⟩
  cases r with
  | nil => exact k
  | cons y r => exact h2
theorem HdOk.app {a b : List Str} (h : HdOk a) (k : HdOk b) : HdOk (a ++ b) := by
  cases a with
  | nil => exact k
  | cons x r => exact h
theorem HeadOk.one {x : Str} {r : List Str} (h : x ≠ "else") (k : HdOk r) : HeadOk (x :: r) := ⟨x, r, rfl, h, k⟩
theorem HdOk.nil : HdOk [] := fun e => by cases e
theorem HdOk.one {x : Str} {r : List Str} (h : x ≠ "else") : HdOk (x :: r) := fun e => h (Option.some.inj e)
/-- the flow, and what is left of the forty -/
structure Gs (H : Hp) (f s b : Addr) (l : Int) : Prop where
  fl : Flow H f s
  bud : H b = some (.lst [.int l])
  ne : b ≠ s
  le : l ≤ 40
theorem Gs.bf {H : Hp} {f s b : Addr} {l : Int} (G : Gs H f s b l) : b ≠ f := by
  rintro rfl
  obtain ⟨_, ⟨i, p, q, h⟩, _⟩ := G.fl
  rw [G.bud] at h
  cases h
theorem Gs.keep {H H' : Hp} {f s b : Addr} {l : Int} (G : Gs H f s b l) (k : KeepF f H H') (F : Flow H' f s) : Gs H' f s b l := ⟨F, k _ _ G.bf G.bud, G.ne, G.le⟩
theorem Gs.same {H H' : Hp} {f s b : Addr} {l : Int} (G : Gs H f s b l) (k : Same H H') : Gs H' f s b l := ⟨G.fl.same k, k _ _ G.bud, G.ne, G.le⟩
def WL (H : Hp) (a : Addr) (ws : List Str) : Prop := H a = some (.lst (ws.map V.str))
theorem WL.nf {H : Hp} {a f s : Addr} {ws : List Str} (h : WL H a ws) (F : Flow H f s) : a ≠ f := by
  rintro rfl
  obtain ⟨_, ⟨i, p, q, e⟩, _⟩ := F
  have h : H a = some (.lst (ws.map V.str)) := h
  rw [e] at h
  cases ws with
  | nil => cases h
  | cons x r => cases h
theorem WL.nb {H : Hp} {a f s b : Addr} {l : Int} {ws : List Str} (h : WL H a ws) (G : Gs H f s b l) : a ≠ b := by
  rintro rfl
  have h : H a = some (.lst (ws.map V.str)) := h
  rw [G.bud] at h
  cases ws with
  | nil => cases h
  | cons x r => cases h
theorem WL.keep {H H' : Hp} {a f s : Addr} {ws : List Str} (h : WL H a ws) (F : Flow H f s) (k : KeepF f H H') : WL H' a ws := k _ _ (h.nf F) h
theorem WL.same {H H' : Hp} {a : Addr} {ws : List Str} (h : WL H a ws) (k : Same H H') : WL H' a ws := k _ _ h
theorem WL.keep2 {H H' : Hp} {a f s b : Addr} {l : Int} {ws : List Str} (h : WL H a ws) (G : Gs H f s b l) (k : Keep2 f b H H') : WL H' a ws := k _ _ (h.nf G.fl) (h.nb G) h
/-- what a def that makes words gives -/
def Out (H : Hp) (f s b : Addr) (l : Int) (c : Nat) (Pw : List Str → Prop) (Q : VK) : Prop := ∀ a H' ws l', H a = none → WL H' a ws → Gs H' f s b l' → l' ≤ l → Keep2 f b H H' → Voc ws → Pw ws → ws.length + 32 * l'.toNat ≤ c → Q (.ref a) H'
def spName9 : Sp := fun vs H Q _ => ∃ f s, vs = [.ref f] ∧ Flow H f s ∧ ∀ w H', w ∈ NAMES9 → Flow H' f s → KeepF f H H' → Q (.str w) H'
def spAtom9 : Sp := fun vs H Q _ => ∃ f s, vs = [.ref f] ∧ Flow H f s ∧ ∀ a w H', H a = none → WL H' a [w] → w ∈ NAMES9 ++ PLAIN9 → Flow H' f s → KeepF f H H' → Q (.ref a) H'
def spCalled9 : Sp := fun vs H Q _ => ∃ f s, vs = [.ref f] ∧ Flow H f s ∧ ∀ a ws H', H a = none → WL H' a ws → Voc ws → HeadOk ws → ws.length ≤ 8 → Flow H' f s → KeepF f H H' → Q (.ref a) H'
theorem pickW {K : PySem.W.Frag} {H : Hp} {p : Addr} {ws : List Str} {d m : Int} {Q : VK} (h : H p = some (.lst (ws.map V.str))) (hn : (ws.length : Int) = m) (d0 : 0 ≤ d) (d1 : d < m) (q : ∀ w, w ∈ ws → Q (.str w) H) : rIxL K (.ref p) (.int d) H Q := by
  obtain ⟨i, rfl⟩ := Int.eq_ofNat_of_zero_le d0
  have hi : i < ws.length := by omega
  have e : (ws.map V.str)[i]? = some (.str ws[i]) := by rw [List.getElem?_map, List.getElem?_eq_getElem hi]; rfl
  exact w_ixL (.of h) (atI_nat e) (q _ (List.getElem_mem hi))
theorem pickN {K : PySem.W.Frag} {H : Hp} {p : Addr} {ns : List Int} {d m : Int} {Q : VK} (h : H p = some (.lst (ns.map V.int))) (hn : (ns.length : Int) = m) (d0 : 0 ≤ d) (d1 : d < m) (q : ∀ w, w ∈ ns → Q (.int w) H) : rIxL K (.ref p) (.int d) H Q := by
  obtain ⟨i, rfl⟩ := Int.eq_ofNat_of_zero_le d0
  have hi : i < ns.length := by omega
  have e : (ns.map V.int)[i]? = some (.int ns[i]) := by rw [List.getElem?_map, List.getElem?_eq_getElem hi]; rfl
  exact w_ixL (.of h) (atI_nat e) (q _ (List.getElem_mem hi))
theorem w_cat {H : Hp} {a b : Addr} {xs ys : List Str} {Q : VK} (h1 : WL H a xs) (h2 : WL H b ys) (hl : xs.length + ys.length ≤ 10000) (q : ∀ p, H p = none → Q (.ref p) (upd H p (.lst ((xs ++ ys).map V.str)))) : rCat (.ref a) (.ref b) H Q := by
  refine ⟨a, b, _, _, rfl, rfl, h1, h2, ?_, fun p hp => ?_⟩
  · rw [List.length_map, List.length_map]
    have : sizeLine = 16777216 := rfl
    omega
  · rw [← List.map_append]
    exact q p hp
section
variable {P : Program} {w : World} {K : PySem.W.Frag} {mg : Str → Option Value} {base : Heap} {n : Nat}
theorem ok_law_name (T : Txw mg) {f : Addr} {fd : FuncData} (F : FnP K "_law_name" s_law_name f fd) (D_law_draw : Cal P w K mg base CX0 2 "_law_draw" P_law_draw spDraw) :
    FnOk P w K mg base CX0 3 f fd P_law_name spName9 := by
  refine F.ok sc_law_name (fun vs H Q E h => ?_) (fun cdv A outer s H vs Q E hr h => ?_)
  · obtain ⟨f, s, rfl, _⟩ := h
    rfl
  · obtain ⟨f, s, rfl, FL, q⟩ := h
    refine ⟨_, PSs.nox (pss_one (ps_ret (pe_ix ix_list (pe_lst (pa_cons pe_str (pa_cons pe_str (pa_cons pe_str (pa_cons pe_str (pa_cons pe_str (pa_cons pe_str (pa_cons pe_str (pa_cons pe_str pa_nil))))))))) (pe_cal D_law_draw hr rfl rfl pass0 (pa_cons (pv 0) (pa_cons pe_int pa_nil))) (fun _ _ => rfl)))), ?_⟩
    walk_at "w"
    refine ⟨by show 8 ≤ sizeLine; decide, fun p hp => ?_⟩
    walk_at "w"
    have e0 := upd_same (H := H) (a := p) (o := .lst (NAMES9.map V.str))
    refine ⟨f, s, 8, rfl, FL.same (sameUpd hp), by decide, by decide, fun d H1 d0 d1 F1 k1 => ?_⟩
    exact pickW (k1 _ _ (FL.free hp) e0) rfl d0 d1 fun z hz => q z H1 hz F1 ((KeepF.upd hp).trans k1)
theorem ok_law_atom (T : Txw mg) {f : Addr} {fd : FuncData} (F : FnP K "_law_atom" s_law_atom f fd) (D_law_draw : Cal P w K mg base CX0 2 "_law_draw" P_law_draw spDraw) (D_law_name : Cal P w K mg base CX0 3 "_law_name" P_law_name spName9) :
    FnOk P w K mg base CX0 4 f fd P_law_atom spAtom9 := by
  refine F.ok sc_law_atom (fun vs H Q E h => ?_) (fun cdv A outer s H vs Q E hr h => ?_)
  · obtain ⟨f, s, rfl, _⟩ := h
    rfl
  · obtain ⟨f, s, rfl, FL, q⟩ := h
    refine ⟨_, PSs.nox (pss_cons (ps_set (i := 1) sc_law_atom.nd rfl (Or.inl rfl) (pe_lst (pa_cons pe_str (pa_cons pe_str (pa_cons (pe_callTy call_strN (by rfl) T.f_str (by decide +kernel) (pa_cons (pe_op op_sub (pe_op op_pow pe_int pe_int) pe_int) pa_nil)) (pa_cons pe_str (pa_cons pe_str (pa_cons pe_str (pa_cons pe_str (pa_cons pe_str (pa_cons pe_str pa_nil)))))))))))
  (pss_one (ps_ret (pe_lst (pa_cons (pe_ix ix_list (pe_op op_cat (pv 1) (pe_lst (pa_cons (pe_cal D_law_name hr rfl rfl pass0 (pa_cons (pv 0) pa_nil)) (pa_cons (pe_cal D_law_name hr rfl rfl pass0 (pa_cons (pv 0) pa_nil)) (pa_cons (pe_cal D_law_name hr rfl rfl pass0 (pa_cons (pv 0) pa_nil)) pa_nil))))) (pe_cal D_law_draw hr rfl rfl pass0 (pa_cons (pv 0) (pa_cons pe_int pa_nil))) (fun _ _ => rfl)) pa_nil))))), ?_⟩
    walk_at "w"
    refine w_strI (by decide +kernel) ?_
    rw [show (toString ((2 : Int) ^ Int.toNat 59 - 1) : Str) = "576460752303423487" from by decide +kernel]
    walk_at "w"
    refine ⟨by show 9 ≤ sizeLine; decide, fun p hp => ?_⟩
    have sp := sameUpd (o := .lst (PLAIN9.map V.str)) hp
    have e0 := upd_same (H := H) (a := p) (o := .lst (PLAIN9.map V.str))
    change gName 1 (V.ref p) _ (upd H p (.lst (PLAIN9.map V.str))) _
    generalize upd H p (.lst (PLAIN9.map V.str)) = H1 at sp e0 ⊢
    have F1 := FL.same sp
    walk_at "w"
    refine ⟨f, s, rfl, F1, fun w1 H2 m1 F2 k2 => ?_⟩
    walk_at "w"
    refine ⟨f, s, rfl, F2, fun w2 H3 m2 F3 k3 => ?_⟩
    walk_at "w"
    refine ⟨f, s, rfl, F3, fun w3 H4 m3 F4 k4 => ?_⟩
    walk_at "w"
    refine ⟨by show 3 ≤ sizeLine; decide, fun p5 hp5 => ?_⟩
    have hpf : p ≠ f := FL.free hp
    have k24 := (k2.trans k3).trans k4
    have s5 := sameUpd (o := .lst (([w1, w2, w3] : List Str).map V.str)) hp5
    have e5 : WL (upd H4 p5 (.lst (([w1, w2, w3] : List Str).map V.str))) p5 [w1, w2, w3] := upd_same
    change rCat _ _ (upd H4 p5 (.lst (([w1, w2, w3] : List Str).map V.str))) _
    generalize upd H4 p5 (.lst (([w1, w2, w3] : List Str).map V.str)) = H5 at s5 e5 ⊢
    refine w_cat (xs := PLAIN9) (s5 _ _ (k24 _ _ hpf e0)) e5 (by show 9 + 3 ≤ 10000; decide) fun p6 hp6 => ?_
    have s6 := sameUpd (o := .lst ((PLAIN9 ++ [w1, w2, w3]).map V.str)) hp6
    have e6 : WL (upd H5 p6 (.lst ((PLAIN9 ++ [w1, w2, w3]).map V.str))) p6 (PLAIN9 ++ [w1, w2, w3]) := upd_same
    generalize upd H5 p6 (.lst ((PLAIN9 ++ [w1, w2, w3]).map V.str)) = H6 at s6 e6 ⊢
    have F6 := (F4.same s5).same s6
    walk_at "w"
    refine ⟨f, s, 12, rfl, F6, by decide, by decide, fun d H7 d0 d1 F7 k7 => ?_⟩
    have n6 : p6 ≠ f := (F4.same s5).free hp6
    refine pickW (k7 _ _ n6 e6) rfl d0 d1 fun z hz => ?_
    walk_at "w"
    refine ⟨by show 1 ≤ sizeLine; decide, fun p8 hp8 => ?_⟩
    have kk : KeepF f H H7 := (((KeepF.same sp).trans k24).trans (.same (s5.trans s6))).trans k7
    have hz2 : z ∈ NAMES9 ++ PLAIN9 := by
      rcases List.mem_append.mp hz with hz | hz
      · exact List.mem_append_right _ hz
      · simp only [List.mem_cons, List.not_mem_nil, or_false] at hz
        rcases hz with rfl | rfl | rfl
        · exact List.mem_append_left _ m1
        · exact List.mem_append_left _ m2
        · exact List.mem_append_left _ m3
    have s8 := sameUpd (o := .lst [V.str z]) hp8
    exact q p8 z _ (keepF_none kk (F7.free hp8) hp8) upd_same hz2 (F7.same s8) (kk.trans (.same s8))
theorem names_voc {z : Str} (h : z ∈ NAMES9) : z ∈ VOC := List.mem_append_left _ h
theorem names_else {z : Str} (h : z ∈ NAMES9) : z ≠ "else" := (by decide +kernel : ∀ z ∈ NAMES9, z ≠ "else") z h
theorem atoms_else {z : Str} (h : z ∈ NAMES9 ++ PLAIN9) : z ≠ "else" := (by decide +kernel : ∀ z ∈ NAMES9 ++ PLAIN9, z ≠ "else") z h
theorem atoms_voc {z : Str} (h : z ∈ NAMES9 ++ PLAIN9) : z ∈ VOC := by
  unfold VOC
  rw [← List.append_assoc]
  exact List.mem_append_left _ h
theorem ok_law_called (T : Txw mg) {f : Addr} {fd : FuncData} (F : FnP K "_law_called" s_law_called f fd) (D_law_draw : Cal P w K mg base CX0 2 "_law_draw" P_law_draw spDraw) (D_law_name : Cal P w K mg base CX0 3 "_law_name" P_law_name spName9) :
    FnOk P w K mg base CX0 4 f fd P_law_called spCalled9 := by
  refine F.ok sc_law_called (fun vs H Q E h => ?_) (fun cdv A outer s H vs Q E hr h => ?_)
  · obtain ⟨f, s, rfl, _⟩ := h
    rfl
  · obtain ⟨f, s, rfl, FL, q⟩ := h
    refine ⟨_, PSs.nox (pss_cons (ps_set (i := 1) sc_law_called.nd rfl (Or.inl rfl) (pe_lst pa_nil))
  (pss_cons (ps_for PassesOwn.never rfl (pi_range1 (by rfl) T.f_range (pa_cons (pe_ix ix_list (pe_lst (pa_cons pe_int (pa_cons pe_int (pa_cons pe_int (pa_cons pe_int pa_nil))))) (pe_cal D_law_draw hr rfl rfl pass0 (pa_cons (pv 0) (pa_cons pe_int pa_nil))) (fun _ _ => rfl)) pa_nil)) (pg_name (i := 2) sc_law_called.nd rfl (Or.inl rfl)) (pss_one (ps_set (i := 1) sc_law_called.nd rfl (Or.inl rfl) (pe_op op_cat (pe_op op_cat (pv 1) (pe_ifExp (pt_cmpR op_gt (pv 2) pe_int (nomark _)) (pe_lst (pa_cons pe_str pa_nil)) (pe_lst pa_nil))) (pe_lst (pa_cons (pe_cal D_law_name hr rfl rfl pass0 (pa_cons (pv 0) pa_nil)) pa_nil))))))
  (pss_one (ps_ret (pe_op op_cat (pe_op op_cat (pe_lst (pa_cons pe_str pa_nil)) (pv 1)) (pe_lst (pa_cons pe_str pa_nil))))))), ?_⟩
    walk_at "w"
    refine ⟨by show 0 ≤ sizeLine; decide, fun L h_L => ?_⟩
    have s_H1 : Same H (upd H L (.lst [])) := sameUpd h_L
    have e_H1 : WL (upd H L (.lst [])) L (([] : List Str)) := upd_same
    generalize upd H L (.lst []) = H1 at s_H1 e_H1 ⊢
    walk_at "w"
    refine ⟨by show 4 ≤ sizeLine; decide, fun p hp => ?_⟩
    have sp := sameUpd (o := .lst (([0, 1, 2, 3] : List Int).map V.int)) hp
    have e0 := upd_same (H := H1) (a := p) (o := .lst (([0, 1, 2, 3] : List Int).map V.int))
    change tCall _ _ _ _ _ (upd H1 p (.lst (([0, 1, 2, 3] : List Int).map V.int))) _
    generalize upd H1 p (.lst (([0, 1, 2, 3] : List Int).map V.int)) = H2 at sp e0 ⊢
    have F2 := FL.same (s_H1.trans sp)
    walk_at "w"
    refine ⟨f, s, 4, rfl, F2, by decide, by decide, fun d H3 d0 d1 F3 k3 => ?_⟩
    have pf : p ≠ f := (FL.same s_H1).free hp
    refine pickN (k3 _ _ pf e0) rfl d0 d1 fun m hm => ?_
    have hm2 : 0 ≤ m ∧ m ≤ 3 := (by decide : ∀ m ∈ ([0, 1, 2, 3] : List Int), 0 ≤ m ∧ m ≤ 3) m hm
    have kk : KeepF f H H3 := (KeepF.same (s_H1.trans sp)).trans k3
    refine ⟨_, rfl, by omega, by omega, for_range (Pv := fun i σ H' => ∃ (L' : Addr) (ws : List Str) (y : Option V), σ = [some (.ref f), some (.ref L'), y] ∧ WL H' L' ws ∧ Voc ws ∧ HdOk ws ∧ ws.length ≤ 2 * i ∧ Flow H' f s ∧ KeepF f H H') ⟨L, [], none, rfl, (e_H1.same sp).keep F2 k3, fun _ h => (nomatch h), .nil, Nat.le_refl _, F3, kk⟩ ?_ ?_⟩
    · rintro i σ H4 hi ⟨L', ws, y, rfl, hw, hv, hh, hl, F4, k4⟩
      walk_at "w"
      by_cases hi0 : i = 0
      · rw [decide_eq_false (by omega)]
        walk_at "w"
        refine ⟨by show 0 ≤ sizeLine; decide, fun p5 h_p5 => ?_⟩
        have s_H5 : Same H4 (upd H4 p5 (.lst [])) := sameUpd h_p5
        have e_H5 : WL (upd H4 p5 (.lst [])) p5 (([] : List Str)) := upd_same
        generalize upd H4 p5 (.lst []) = H5 at s_H5 e_H5 ⊢
        refine w_cat (hw.same s_H5) e_H5 (by first | omega | (simp only [List.length_append, List.length_cons, List.length_nil, W1_len]; omega)) fun p6 h_p6 => ?_
        have s_H6 := sameUpd (o := .lst ((ws ++ ([] : List Str)).map V.str)) h_p6
        have e_H6 : WL (upd H5 p6 (.lst ((ws ++ ([] : List Str)).map V.str))) p6 (ws ++ ([] : List Str)) := upd_same
        generalize upd H5 p6 (.lst ((ws ++ ([] : List Str)).map V.str)) = H6 at s_H6 e_H6 ⊢
        have F6 := F4.same (s_H5.trans s_H6)
        walk_at "w"
        refine ⟨f, s, rfl, F6, fun z H7 hz F7 k7 => ?_⟩
        have e7 := e_H6.keep F6 k7
        walk_at "w"
        refine ⟨by show 1 ≤ sizeLine; decide, fun p8 h_p8 => ?_⟩
        have s_H8 : Same H7 (upd H7 p8 (.lst [V.str z])) := sameUpd h_p8
        have e_H8 : WL (upd H7 p8 (.lst [V.str z])) p8 (W1 z) := upd_same
        generalize upd H7 p8 (.lst [V.str z]) = H8 at s_H8 e_H8 ⊢
        refine w_cat (e7.same s_H8) e_H8 (by first | omega | (simp only [List.length_append, List.length_cons, List.length_nil, W1_len]; omega)) fun p9 h_p9 => ?_
        have s_H9 := sameUpd (o := .lst ((ws ++ ([] : List Str) ++ W1 z).map V.str)) h_p9
        have e_H9 : WL (upd H8 p9 (.lst ((ws ++ ([] : List Str) ++ W1 z).map V.str))) p9 (ws ++ ([] : List Str) ++ W1 z) := upd_same
        generalize upd H8 p9 (.lst ((ws ++ ([] : List Str) ++ W1 z).map V.str)) = H9 at s_H9 e_H9 ⊢
        walk_at "w"
        refine ⟨p9, _, _, rfl, e_H9, (hv.app .nil).app (.one (names_voc hz)), (hh.app .nil).app (.one (names_else hz)), by simp only [List.length_append, List.length_nil, W1_len]; omega, F7.same (s_H8.trans s_H9), ((k4.trans (.same (s_H5.trans s_H6))).trans k7).trans (.same (s_H8.trans s_H9))⟩
      · rw [decide_eq_true (by omega)]
        walk_at "w"
        refine ⟨by show 1 ≤ sizeLine; decide, fun p5 h_p5 => ?_⟩
        have s_H5 : Same H4 (upd H4 p5 (.lst [V.str ","])) := sameUpd h_p5
        have e_H5 : WL (upd H4 p5 (.lst [V.str ","])) p5 (W1 ",") := upd_same
        generalize upd H4 p5 (.lst [V.str ","]) = H5 at s_H5 e_H5 ⊢
        refine w_cat (hw.same s_H5) e_H5 (by first | omega | (simp only [List.length_append, List.length_cons, List.length_nil, W1_len]; omega)) fun p6 h_p6 => ?_
        have s_H6 := sameUpd (o := .lst ((ws ++ (W1 ",")).map V.str)) h_p6
        have e_H6 : WL (upd H5 p6 (.lst ((ws ++ (W1 ",")).map V.str))) p6 (ws ++ (W1 ",")) := upd_same
        generalize upd H5 p6 (.lst ((ws ++ (W1 ",")).map V.str)) = H6 at s_H6 e_H6 ⊢
        have F6 := F4.same (s_H5.trans s_H6)
        walk_at "w"
        refine ⟨f, s, rfl, F6, fun z H7 hz F7 k7 => ?_⟩
        have e7 := e_H6.keep F6 k7
        walk_at "w"
        refine ⟨by show 1 ≤ sizeLine; decide, fun p8 h_p8 => ?_⟩
        have s_H8 : Same H7 (upd H7 p8 (.lst [V.str z])) := sameUpd h_p8
        have e_H8 : WL (upd H7 p8 (.lst [V.str z])) p8 (W1 z) := upd_same
        generalize upd H7 p8 (.lst [V.str z]) = H8 at s_H8 e_H8 ⊢
        refine w_cat (e7.same s_H8) e_H8 (by first | omega | (simp only [List.length_append, List.length_cons, List.length_nil, W1_len]; omega)) fun p9 h_p9 => ?_
        have s_H9 := sameUpd (o := .lst ((ws ++ (W1 ",") ++ W1 z).map V.str)) h_p9
        have e_H9 : WL (upd H8 p9 (.lst ((ws ++ (W1 ",") ++ W1 z).map V.str))) p9 (ws ++ (W1 ",") ++ W1 z) := upd_same
        generalize upd H8 p9 (.lst ((ws ++ (W1 ",") ++ W1 z).map V.str)) = H9 at s_H9 e_H9 ⊢
        walk_at "w"
        refine ⟨p9, _, _, rfl, e_H9, (hv.app (.one (by decide +kernel))).app (.one (names_voc hz)), (hh.app (.one (by decide +kernel))).app (.one (names_else hz)), by simp only [List.length_append, List.length_nil, W1_len]; omega, F7.same (s_H8.trans s_H9), ((k4.trans (.same (s_H5.trans s_H6))).trans k7).trans (.same (s_H8.trans s_H9))⟩
    · rintro σ H4 ⟨L', ws, y, rfl, hw, hv, hh, hl, F4, k4⟩
      walk_at "w"
      refine ⟨by show 1 ≤ sizeLine; decide, fun p5 h_p5 => ?_⟩
      have s_H5 : Same H4 (upd H4 p5 (.lst [V.str "("])) := sameUpd h_p5
      have e_H5 : WL (upd H4 p5 (.lst [V.str "("])) p5 (W1 "(") := upd_same
      generalize upd H4 p5 (.lst [V.str "("]) = H5 at s_H5 e_H5 ⊢
      walk_at "w"
      refine w_cat e_H5 (hw.same s_H5) (by first | omega | (simp only [List.length_append, List.length_cons, List.length_nil, W1_len]; omega)) fun p6 h_p6 => ?_
      have s_H6 := sameUpd (o := .lst ((W1 "(" ++ ws).map V.str)) h_p6
      have e_H6 : WL (upd H5 p6 (.lst ((W1 "(" ++ ws).map V.str))) p6 (W1 "(" ++ ws) := upd_same
      generalize upd H5 p6 (.lst ((W1 "(" ++ ws).map V.str)) = H6 at s_H6 e_H6 ⊢
      walk_at "w"
      refine ⟨by show 1 ≤ sizeLine; decide, fun p7 h_p7 => ?_⟩
      have s_H7 : Same H6 (upd H6 p7 (.lst [V.str ")"])) := sameUpd h_p7
      have e_H7 : WL (upd H6 p7 (.lst [V.str ")"])) p7 (W1 ")") := upd_same
      generalize upd H6 p7 (.lst [V.str ")"]) = H7 at s_H7 e_H7 ⊢
      have k47 := s_H5.trans (s_H6.trans s_H7)
      refine w_cat (e_H6.same s_H7) e_H7 (by first | omega | (simp only [List.length_append, List.length_cons, List.length_nil, W1_len]; omega)) fun p8 h_p8 => ?_
      have s_H8 := sameUpd (o := .lst ((W1 "(" ++ ws ++ W1 ")").map V.str)) h_p8
      have e_H8 : WL (upd H7 p8 (.lst ((W1 "(" ++ ws ++ W1 ")").map V.str))) p8 (W1 "(" ++ ws ++ W1 ")") := upd_same
      generalize upd H7 p8 (.lst ((W1 "(" ++ ws ++ W1 ")").map V.str)) = H8 at s_H8 e_H8 ⊢
      have k48 := k47.trans s_H8
      exact q p8 _ H8 (keepF_none (k4.trans (.same k47)) ((F4.same k47).free h_p8) h_p8) e_H8 (((Voc.one (by decide +kernel)).app hv).app (.one (by decide +kernel))) (.one (by decide +kernel) (hh.app (.one (by decide +kernel)))) (by simp only [List.length_append, W1_len]; omega) (F4.same k48) (k4.trans (.same k48))
end
end FE
namespace FE
open PySem L2 K01
abbrev s_law_some : Stmt := top 74
abbrev N_law_some : List Str := ["flow", "left", "room", "found", "k"]
abbrev P_law_some : List Str := ["flow", "left", "room"]
theorem sc_law_some : FnScope N_law_some P_law_some (defScope s_law_some) := ⟨rfl, rfl, rfl, by decide +kernel, rfl, by decide +kernel, by decide +kernel⟩
abbrev s_law_rows : Stmt := top 77
abbrev N_law_rows : List Str := ["flow", "left", "room", "found", "k"]
abbrev P_law_rows : List Str := ["flow", "left", "room"]
theorem sc_law_rows : FnScope N_law_rows P_law_rows (defScope s_law_rows) := ⟨rfl, rfl, rfl, by decide +kernel, rfl, by decide +kernel, by decide +kernel⟩
abbrev s_law_e : Stmt := top 76
abbrev N_law_e : List Str := ["flow", "left", "room", "way", "first", "word"]
abbrev P_law_e : List Str := ["flow", "left", "room"]
theorem sc_law_e : FnScope N_law_e P_law_e (defScope s_law_e) := ⟨rfl, rfl, rfl, by decide +kernel, rfl, by decide +kernel, by decide +kernel⟩
abbrev s_law_row : Stmt := top 78
abbrev N_law_row : List Str := ["flow", "left", "room", "way", "tried", "first"]
abbrev P_law_row : List Str := ["flow", "left", "room"]
theorem sc_law_row : FnScope N_law_row P_law_row (defScope s_law_row) := ⟨rfl, rfl, rfl, by decide +kernel, rfl, by decide +kernel, by decide +kernel⟩
def pre (sp : Nat → Sp) : Nat → Sp
  | 0 => fun _ _ _ _ => False
  | r + 1 => sp r
def spE9 (r : Nat) : Sp := fun vs H Q _ => ∃ f s b l, ∃ i : Int, vs = [.ref f, .ref b, .int i] ∧ i = (r : Int) ∧ Gs H f s b l ∧ Out H f s b l (1 + 32 * l.toNat) HeadOk Q
def spSome9 (r : Nat) : Sp := fun vs H Q _ => ∃ f s b l, ∃ i : Int, vs = [.ref f, .ref b, .int i] ∧ i = (r : Int) ∧ Gs H f s b l ∧ Out H f s b l (6 + 32 * l.toNat) HdOk Q
def spRows9 (r : Nat) : Sp := fun vs H Q _ => ∃ f s b l, ∃ i : Int, vs = [.ref f, .ref b, .int i] ∧ i = (r : Int) ∧ Gs H f s b l ∧ Out H f s b l (2 + 32 * l.toNat) HeadOk Q
def spRow9 (r : Nat) : Sp := fun vs H Q _ => ∃ f s b l, ∃ i : Int, vs = [.ref f, .ref b, .int i] ∧ i = (r : Int) + 1 ∧ Gs H f s b l ∧ Out H f s b l (32 + 32 * (l - 1).toNat) HeadOk Q
theorem fresh2 {H H' : Hp} {f s b p : Addr} {l : Int} (k : Keep2 f b H H') (G : Gs H' f s b l) (h : H' p = none) : H p = none := by
  cases e : H p with
  | none => rfl
  | some o =>
    have pf : p ≠ f := G.fl.free h
    have pb : p ≠ b := (ne_of_none G.bud h).symm
    rw [k p o pf pb e] at h
    cases h
theorem Keep2.ofF {f b : Addr} {H H' : Hp} (k : KeepF f H H') : Keep2 f b H H' := fun a o h _ e => k a o h e
theorem Keep2.ofS {f b : Addr} {H H' : Hp} (k : Same H H') : Keep2 f b H H' := fun a o _ _ e => k a o e
section
variable {P : Program} {w : World} {K : PySem.W.Frag} {mg : Str → Option Value} {base : Heap} {m r : Nat}
theorem ok_law_some (T : Txw mg) {f : Addr} {fd : FuncData} (F : FnP K "_law_some" s_law_some f fd) (hm : 9 ≤ m) (D_law_draw : Cal P w K mg base CX0 2 "_law_draw" P_law_draw spDraw) (D_law_e : Cal P w K mg base CX0 m "_law_e" P_law_e (spE9 r)) :
    FnOk P w K mg base CX0 (m + 1) f fd P_law_some (spSome9 r) := by
  refine F.ok sc_law_some (fun vs H Q E h => ?_) (fun cdv A outer s H vs Q E hr h => ?_)
  · obtain ⟨f, s, b, l, i, rfl, _⟩ := h
    rfl
  · obtain ⟨f, s, b, l, i, rfl, hi, G, q⟩ := h
    have hr0 := hr.mono hm
    refine ⟨_, PSs.nox (pss_cons (ps_set (i := 3) sc_law_some.nd rfl (Or.inl rfl) (pe_lst pa_nil))
  (pss_cons (ps_for PassesOwn.never rfl (pi_range1 (by rfl) T.f_range (pa_cons (pe_ix ix_list (pe_lst (pa_cons pe_int (pa_cons pe_int (pa_cons pe_int (pa_cons pe_int (pa_cons pe_int pa_nil)))))) (pe_cal D_law_draw hr (Nat.ble_eq_true_of_le (by omega)) rfl pass0 (pa_cons (pv 0) (pa_cons pe_int pa_nil))) (fun _ _ => rfl)) pa_nil)) (pg_name (i := 4) sc_law_some.nd rfl (Or.inl rfl)) (pss_one (ps_set (i := 3) sc_law_some.nd rfl (Or.inl rfl) (pe_op op_cat (pe_op op_cat (pv 3) (pe_ifExp (pt_cmpR op_gt (pv 4) pe_int (nomark _)) (pe_lst (pa_cons pe_str pa_nil)) (pe_lst pa_nil))) (pe_cal D_law_e hr (Nat.ble_eq_true_of_le (by omega)) rfl pass0 (pa_cons (pv 0) (pa_cons (pv 1) (pa_cons (pv 2) pa_nil))))))))
  (pss_one (ps_ret (pv 3))))), ?_⟩
    walk_at "w"
    refine ⟨by show 0 ≤ sizeLine; decide, fun L h_L => ?_⟩
    have s_H1 : Same H (upd H L (.lst [])) := sameUpd h_L
    have e_H1 : WL (upd H L (.lst [])) L (([] : List Str)) := upd_same
    generalize upd H L (.lst []) = H1 at s_H1 e_H1 ⊢
    walk_at "w"
    refine ⟨by show 5 ≤ sizeLine; decide, fun p hp => ?_⟩
    have sp := sameUpd (o := .lst (([0, 1, 1, 2, 3] : List Int).map V.int)) hp
    have e0 := upd_same (H := H1) (a := p) (o := .lst (([0, 1, 1, 2, 3] : List Int).map V.int))
    change tCall _ _ _ _ _ (upd H1 p (.lst (([0, 1, 1, 2, 3] : List Int).map V.int))) _
    generalize upd H1 p (.lst (([0, 1, 1, 2, 3] : List Int).map V.int)) = H2 at sp e0 ⊢
    have G2 := G.same (s_H1.trans sp)
    walk_at "w"
    refine ⟨f, s, 5, rfl, G2.fl, by decide, by decide, fun d H3 d0 d1 F3 k3 => ?_⟩
    have pf : p ≠ f := (G.same s_H1).fl.free hp
    refine pickN (k3 _ _ pf e0) rfl d0 d1 fun n hn => ?_
    have hn2 : 0 ≤ n ∧ n ≤ 3 := (by decide : ∀ m ∈ ([0, 1, 1, 2, 3] : List Int), 0 ≤ m ∧ m ≤ 3) n hn
    have kk : Keep2 f b H H3 := (Keep2.ofS (s_H1.trans sp)).trans (.ofF k3)
    refine ⟨_, rfl, by omega, by omega, for_range (Pv := fun j σ H' => ∃ (L' : Addr) (ws : List Str) (y : Option V) (l' : Int), σ = [some (.ref f), some (.ref b), some (.int i), some (.ref L'), y] ∧ WL H' L' ws ∧ H L' = none ∧ Voc ws ∧ HdOk ws ∧ ws.length + 32 * l'.toNat ≤ 2 * j + 32 * l.toNat ∧ Gs H' f s b l' ∧ l' ≤ l ∧ Keep2 f b H H') ⟨L, [], none, l, rfl, (e_H1.same sp).keep G2.fl k3, h_L, .nil, .nil, Nat.le_of_eq rfl, G2.keep k3 F3, Int.le_refl _, kk⟩ ?_ ?_⟩
    · rintro j σ H4 hj ⟨L', ws, y, l', rfl, hw, hL', hv, hh, hl, G4, hll, k4⟩
      have hle := G.le
      walk_at "w"
      by_cases hi0 : j = 0
      · rw [decide_eq_false (by omega)]
        walk_at "w"
        refine ⟨by show 0 ≤ sizeLine; decide, fun p5 h_p5 => ?_⟩
        have s_H5 : Same H4 (upd H4 p5 (.lst [])) := sameUpd h_p5
        have e_H5 : WL (upd H4 p5 (.lst [])) p5 (([] : List Str)) := upd_same
        generalize upd H4 p5 (.lst []) = H5 at s_H5 e_H5 ⊢
        refine w_cat (hw.same s_H5) e_H5 (by first | omega | (simp only [List.length_append, List.length_cons, List.length_nil, W1_len]; omega)) fun p6 h_p6 => ?_
        have s_H6 := sameUpd (o := .lst ((ws ++ ([] : List Str)).map V.str)) h_p6
        have e_H6 : WL (upd H5 p6 (.lst ((ws ++ ([] : List Str)).map V.str))) p6 (ws ++ ([] : List Str)) := upd_same
        generalize upd H5 p6 (.lst ((ws ++ ([] : List Str)).map V.str)) = H6 at s_H6 e_H6 ⊢
        have G6 := G4.same (s_H5.trans s_H6)
        walk_at "w"
        refine ⟨f, s, b, l', i, rfl, hi, G6, fun a H7 es l7 ha e7 G7 hl7 k7 hv7 hh7 hc7 => ?_⟩
        have ew := e_H6.keep2 G6 k7
        refine w_cat ew e7 (by first | omega | (simp only [List.length_append, List.length_cons, List.length_nil, W1_len]; omega)) fun p9 h_p9 => ?_
        have s_H9 := sameUpd (o := .lst ((ws ++ ([] : List Str) ++ es).map V.str)) h_p9
        have e_H9 : WL (upd H7 p9 (.lst ((ws ++ ([] : List Str) ++ es).map V.str))) p9 (ws ++ ([] : List Str) ++ es) := upd_same
        generalize upd H7 p9 (.lst ((ws ++ ([] : List Str) ++ es).map V.str)) = H9 at s_H9 e_H9 ⊢
        walk_at "w"
        refine ⟨p9, _, _, l7, rfl, e_H9, fresh2 ((k4.trans (.ofS (s_H5.trans s_H6))).trans k7) G7 h_p9, (hv.app .nil).app hv7, (hh.app .nil).app hh7.hd, by simp only [List.length_append, List.length_nil, W1_len]; omega, G7.same s_H9, by omega, ((k4.trans (.ofS (s_H5.trans s_H6))).trans k7).trans (.ofS s_H9)⟩
      · rw [decide_eq_true (by omega)]
        walk_at "w"
        refine ⟨by show 1 ≤ sizeLine; decide, fun p5 h_p5 => ?_⟩
        have s_H5 : Same H4 (upd H4 p5 (.lst [V.str ","])) := sameUpd h_p5
        have e_H5 : WL (upd H4 p5 (.lst [V.str ","])) p5 (W1 ",") := upd_same
        generalize upd H4 p5 (.lst [V.str ","]) = H5 at s_H5 e_H5 ⊢
        refine w_cat (hw.same s_H5) e_H5 (by first | omega | (simp only [List.length_append, List.length_cons, List.length_nil, W1_len]; omega)) fun p6 h_p6 => ?_
        have s_H6 := sameUpd (o := .lst ((ws ++ (W1 ",")).map V.str)) h_p6
        have e_H6 : WL (upd H5 p6 (.lst ((ws ++ (W1 ",")).map V.str))) p6 (ws ++ (W1 ",")) := upd_same
        generalize upd H5 p6 (.lst ((ws ++ (W1 ",")).map V.str)) = H6 at s_H6 e_H6 ⊢
        have G6 := G4.same (s_H5.trans s_H6)
        walk_at "w"
        refine ⟨f, s, b, l', i, rfl, hi, G6, fun a H7 es l7 ha e7 G7 hl7 k7 hv7 hh7 hc7 => ?_⟩
        have ew := e_H6.keep2 G6 k7
        refine w_cat ew e7 (by first | omega | (simp only [List.length_append, List.length_cons, List.length_nil, W1_len]; omega)) fun p9 h_p9 => ?_
        have s_H9 := sameUpd (o := .lst ((ws ++ (W1 ",") ++ es).map V.str)) h_p9
        have e_H9 : WL (upd H7 p9 (.lst ((ws ++ (W1 ",") ++ es).map V.str))) p9 (ws ++ (W1 ",") ++ es) := upd_same
        generalize upd H7 p9 (.lst ((ws ++ (W1 ",") ++ es).map V.str)) = H9 at s_H9 e_H9 ⊢
        walk_at "w"
        refine ⟨p9, _, _, l7, rfl, e_H9, fresh2 ((k4.trans (.ofS (s_H5.trans s_H6))).trans k7) G7 h_p9, (hv.app (.one (by decide +kernel))).app hv7, (hh.app (.one (by decide +kernel))).app hh7.hd, by simp only [List.length_append, List.length_nil, W1_len]; omega, G7.same s_H9, by omega, ((k4.trans (.ofS (s_H5.trans s_H6))).trans k7).trans (.ofS s_H9)⟩
    · rintro σ H4 ⟨L', ws, y, l', rfl, hw, hL', hv, hh, hl, G4, hll, k4⟩
      walk_at "w"
      exact q L' H4 ws l' hL' hw G4 hll k4 hv hh (by omega)
theorem ok_law_rows (T : Txw mg) {f : Addr} {fd : FuncData} (F : FnP K "_law_rows" s_law_rows f fd) (hm : 9 ≤ m) (D_law_draw : Cal P w K mg base CX0 2 "_law_draw" P_law_draw spDraw) (D_law_row : Cal P w K mg base CX0 m "_law_row" P_law_row (pre spRow9 r)) :
    FnOk P w K mg base CX0 (m + 1) f fd P_law_rows (spRows9 r) := by
  refine F.ok sc_law_rows (fun vs H Q E h => ?_) (fun cdv A outer s H vs Q E hr h => ?_)
  · obtain ⟨f, s, b, l, i, rfl, _⟩ := h
    rfl
  · obtain ⟨f, s, b, l, i, rfl, hi, G, q⟩ := h
    have hr0 := hr.mono hm
    refine ⟨_, PSs.nox (pss_cons (ps_set (i := 3) sc_law_rows.nd rfl (Or.inl rfl) (pe_lst (pa_cons pe_str pa_nil)))
  (pss_cons (ps_for PassesOwn.never rfl (pi_range1 (by rfl) T.f_range (pa_cons (pe_ix ix_list (pe_lst (pa_cons pe_int (pa_cons pe_int (pa_cons pe_int (pa_cons pe_int pa_nil))))) (pe_cal D_law_draw hr (Nat.ble_eq_true_of_le (by omega)) rfl pass0 (pa_cons (pv 0) (pa_cons pe_int pa_nil))) (fun _ _ => rfl)) pa_nil)) (pg_name (i := 4) sc_law_rows.nd rfl (Or.inl rfl)) (pss_one (ps_if (PW.pt (pw_and (pt_cmpR op_gt (pe_ix ix_list (pv 1) pe_int (fun _ _ => rfl)) pe_int (nomark _)) (pw_and1 (pt_cmpR op_gt (pv 2) pe_int (nomark _))))) (pss_one (ps_set (i := 3) sc_law_rows.nd rfl (Or.inl rfl) (pe_op op_cat (pv 3) (pe_cal D_law_row hr (Nat.ble_eq_true_of_le (by omega)) rfl pass0 (pa_cons (pv 0) (pa_cons (pv 1) (pa_cons (pv 2) pa_nil))))))) pss_nil)))
  (pss_one (ps_ret (pe_op op_cat (pv 3) (pe_lst (pa_cons pe_str pa_nil))))))), ?_⟩
    walk_at "w"
    refine ⟨by show 1 ≤ sizeLine; decide, fun L h_L => ?_⟩
    have s_H1 : Same H (upd H L (.lst [V.str "{"])) := sameUpd h_L
    have e_H1 : WL (upd H L (.lst [V.str "{"])) L (W1 "{") := upd_same
    generalize upd H L (.lst [V.str "{"]) = H1 at s_H1 e_H1 ⊢
    walk_at "w"
    refine ⟨by show 4 ≤ sizeLine; decide, fun p hp => ?_⟩
    have sp := sameUpd (o := .lst (([0, 1, 2, 3] : List Int).map V.int)) hp
    have e0 := upd_same (H := H1) (a := p) (o := .lst (([0, 1, 2, 3] : List Int).map V.int))
    change tCall _ _ _ _ _ (upd H1 p (.lst (([0, 1, 2, 3] : List Int).map V.int))) _
    generalize upd H1 p (.lst (([0, 1, 2, 3] : List Int).map V.int)) = H2 at sp e0 ⊢
    have G2 := G.same (s_H1.trans sp)
    walk_at "w"
    refine ⟨f, s, 4, rfl, G2.fl, by decide, by decide, fun d H3 d0 d1 F3 k3 => ?_⟩
    have pf : p ≠ f := (G.same s_H1).fl.free hp
    refine pickN (k3 _ _ pf e0) rfl d0 d1 fun n hn => ?_
    have hn2 : 0 ≤ n ∧ n ≤ 3 := (by decide : ∀ m ∈ ([0, 1, 2, 3] : List Int), 0 ≤ m ∧ m ≤ 3) n hn
    have kk : Keep2 f b H H3 := (Keep2.ofS (s_H1.trans sp)).trans (.ofF k3)
    refine ⟨_, rfl, by omega, by omega, for_range (Pv := fun j σ H' => ∃ (L' : Addr) (ws : List Str) (y : Option V) (l' : Int), σ = [some (.ref f), some (.ref b), some (.int i), some (.ref L'), y] ∧ WL H' L' ws ∧ H L' = none ∧ Voc ws ∧ HeadOk ws ∧ ws.length + 32 * l'.toNat ≤ 1 + 32 * l.toNat ∧ Gs H' f s b l' ∧ l' ≤ l ∧ Keep2 f b H H') ⟨L, W1 "{", none, l, rfl, (e_H1.same sp).keep G2.fl k3, h_L, .one (by decide +kernel), .one (by decide +kernel) .nil, Nat.le_of_eq rfl, G2.keep k3 F3, Int.le_refl _, kk⟩ ?_ ?_⟩
    · rintro j σ H4 hj ⟨L', ws, y, l', rfl, hw, hL', hv, hh, hl, G4, hll, k4⟩
      have hle := G.le
      walk_at "w"
      refine w_ixL (.of G4.bud) (atI_nat (j := 0) rfl) ?_
      walk_at "w"
      by_cases h0 : 0 < l'
      · rw [decide_eq_true h0]
        walk_at "w"
        by_cases hi0 : 0 < i
        · rw [decide_eq_true hi0]
          walk_at "w"
          cases r with
          | zero => exact absurd hi0 (by omega)
          | succ r =>
          refine ⟨f, s, b, l', i, rfl, by omega, G4, fun a H7 es l7 ha e7 G7 hl7 k7 hv7 hh7 hc7 => ?_⟩
          have ew := hw.keep2 G4 k7
          refine w_cat ew e7 (by first | omega | (simp only [List.length_append, List.length_cons, List.length_nil, W1_len]; omega)) fun p9 h_p9 => ?_
          have s_H9 := sameUpd (o := .lst ((ws ++ es).map V.str)) h_p9
          have e_H9 : WL (upd H7 p9 (.lst ((ws ++ es).map V.str))) p9 (ws ++ es) := upd_same
          generalize upd H7 p9 (.lst ((ws ++ es).map V.str)) = H9 at s_H9 e_H9 ⊢
          walk_at "w"
          refine ⟨p9, _, _, l7, rfl, e_H9, fresh2 (k4.trans k7) G7 h_p9, hv.app hv7, hh.app hh7.hd, by simp only [List.length_append]; omega, G7.same s_H9, by omega, (k4.trans k7).trans (.ofS s_H9)⟩
        · rw [decide_eq_false hi0]
          walk_at "w"
          exact ⟨L', ws, _, l', rfl, hw, hL', hv, hh, hl, G4, hll, k4⟩
      · rw [decide_eq_false h0]
        walk_at "w"
        exact ⟨L', ws, _, l', rfl, hw, hL', hv, hh, hl, G4, hll, k4⟩
    · rintro σ H4 ⟨L', ws, y, l', rfl, hw, hL', hv, hh, hl, G4, hll, k4⟩
      have hle := G.le
      walk_at "w"
      refine ⟨by show 1 ≤ sizeLine; decide, fun p5 h_p5 => ?_⟩
      have s_H5 : Same H4 (upd H4 p5 (.lst [V.str "}"])) := sameUpd h_p5
      have e_H5 : WL (upd H4 p5 (.lst [V.str "}"])) p5 (W1 "}") := upd_same
      generalize upd H4 p5 (.lst [V.str "}"]) = H5 at s_H5 e_H5 ⊢
      refine w_cat (hw.same s_H5) e_H5 (by first | omega | (simp only [List.length_append, List.length_cons, List.length_nil, W1_len]; omega)) fun p6 h_p6 => ?_
      have s_H6 := sameUpd (o := .lst ((ws ++ W1 "}").map V.str)) h_p6
      have e_H6 : WL (upd H5 p6 (.lst ((ws ++ W1 "}").map V.str))) p6 (ws ++ W1 "}") := upd_same
      generalize upd H5 p6 (.lst ((ws ++ W1 "}").map V.str)) = H6 at s_H6 e_H6 ⊢
      exact q p6 H6 _ l' (fresh2 (k4.trans (.ofS s_H5)) (G4.same s_H5) h_p6) e_H6 (G4.same (s_H5.trans s_H6)) hll (k4.trans (.ofS (s_H5.trans s_H6))) (hv.app (.one (by decide +kernel))) (hh.app (.one (by decide +kernel))) (by simp only [List.length_append, W1_len]; omega)
end
end FE
namespace FE
open PySem L2 K01
theorem Gs.dec {H : Hp} {f s b : Addr} {l : Int} (G : Gs H f s b l) : Gs (upd H b (.lst ([V.int l].set 0 (V.int (l - 1))))) f s b (l - 1) ∧ Keep2 f b H (upd H b (.lst ([V.int l].set 0 (V.int (l - 1))))) := by
  have k : Keep2 f b H (upd H b (.lst ([V.int l].set 0 (V.int (l - 1))))) := fun a o _ h e => by
    rw [upd_ne h]
    exact e
  obtain ⟨n, ⟨i, p, q, h1⟩, ns, h2⟩ := G.fl
  refine ⟨⟨⟨n, ⟨i, p, q, ?_⟩, ns, ?_⟩, upd_same, G.ne, by have := G.le; omega⟩, k⟩
  · rw [upd_ne G.bf.symm]
    exact h1
  · rw [upd_ne G.ne.symm]
    exact h2
section
variable {P : Program} {w : World} {K : PySem.W.Frag} {mg : Str → Option Value} {base : Heap} {m r : Nat}
theorem ok_law_e (T : Txw mg) {f : Addr} {fd : FuncData} (F : FnP K "_law_e" s_law_e f fd) (hm : 9 ≤ m) (D_law_draw : Cal P w K mg base CX0 2 "_law_draw" P_law_draw spDraw) (D_law_name : Cal P w K mg base CX0 3 "_law_name" P_law_name spName9) (D_law_atom : Cal P w K mg base CX0 4 "_law_atom" P_law_atom spAtom9) (D_law_called : Cal P w K mg base CX0 4 "_law_called" P_law_called spCalled9)
    (D_law_e : Cal P w K mg base CX0 m "_law_e" P_law_e (pre spE9 r)) (D_law_some : Cal P w K mg base CX0 m "_law_some" P_law_some (pre spSome9 r)) (D_law_rows : Cal P w K mg base CX0 m "_law_rows" P_law_rows (pre spRows9 r)) :
    FnOk P w K mg base CX0 (m + 1) f fd P_law_e (spE9 r) := by
  refine F.ok sc_law_e (fun vs H Q E h => ?_) (fun cdv A outer s H vs Q E hr h => ?_)
  · obtain ⟨f, s, b, l, i, rfl, _⟩ := h
    rfl
  · obtain ⟨f, s, b, l, i, rfl, hi, G, q⟩ := h
    have hr0 := hr.mono hm
    refine ⟨_, PSs.nox (pss_cons (ps_augS (pv 1) pe_int get_listN pe_int ip_sub set_list)
  (pss_cons (ps_set (i := 3) sc_law_e.nd rfl (Or.inl rfl) (pe_cal D_law_draw hr (Nat.ble_eq_true_of_le (by omega)) rfl pass0 (pa_cons (pv 0) (pa_cons pe_int pa_nil))))
  (pss_cons (ps_if (PW.pt (pw_or (pt_cmpR op_le (pv 2) pe_int (nomark _)) (pw_or (pt_cmpR op_le (pe_ix ix_list (pv 1) pe_int (fun _ _ => rfl)) pe_int (nomark _)) (pw_or1 (pt_cmpR op_lt (pv 3) pe_int (nomark _)))))) (pss_one (ps_ret (pe_cal D_law_atom hr (Nat.ble_eq_true_of_le (by omega)) rfl pass0 (pa_cons (pv 0) pa_nil)))) pss_nil)
  (pss_cons (ps_if (pt_cmpR op_eq (pv 3) pe_int (nomark _)) (pss_one (ps_ret (pe_op op_cat (pe_op op_cat (pe_lst (pa_cons pe_str pa_nil)) (pe_cal D_law_some hr (Nat.ble_eq_true_of_le (by omega)) rfl pass0 (pa_cons (pv 0) (pa_cons (pv 1) (pa_cons (pe_op op_sub (pv 2) pe_int) pa_nil))))) (pe_lst (pa_cons pe_str pa_nil))))) pss_nil)
  (pss_cons (ps_if (pt_cmpR op_eq (pv 3) pe_int (nomark _)) (pss_one (ps_ret (pe_op op_cat (pe_op op_cat (pe_lst (pa_cons pe_str pa_nil)) (pe_cal D_law_called hr (Nat.ble_eq_true_of_le (by omega)) rfl pass0 (pa_cons (pv 0) pa_nil))) (pe_cal D_law_rows hr (Nat.ble_eq_true_of_le (by omega)) rfl pass0 (pa_cons (pv 0) (pa_cons (pv 1) (pa_cons (pe_op op_sub (pv 2) pe_int) pa_nil))))))) pss_nil)
  (pss_cons (ps_if (pt_cmpR op_eq (pv 3) pe_int (nomark _)) (pss_one (ps_ret (pe_op op_cat (pe_op op_cat (pe_lst (pa_cons pe_str (pa_cons (pe_cal D_law_name hr (Nat.ble_eq_true_of_le (by omega)) rfl pass0 (pa_cons (pv 0) pa_nil)) (pa_cons pe_str pa_nil)))) (pe_cal D_law_some hr (Nat.ble_eq_true_of_le (by omega)) rfl pass0 (pa_cons (pv 0) (pa_cons (pv 1) (pa_cons (pe_op op_sub (pv 2) pe_int) pa_nil))))) (pe_lst (pa_cons pe_str pa_nil))))) pss_nil)
  (pss_cons (ps_if (pt_cmpR op_eq (pv 3) pe_int (nomark _)) (pss_one (ps_ret (pe_op op_cat (pe_op op_cat (pe_lst (pa_cons pe_str (pa_cons pe_str (pa_cons (pe_cal D_law_name hr (Nat.ble_eq_true_of_le (by omega)) rfl pass0 (pa_cons (pv 0) pa_nil)) (pa_cons pe_str pa_nil))))) (pe_cal D_law_some hr (Nat.ble_eq_true_of_le (by omega)) rfl pass0 (pa_cons (pv 0) (pa_cons (pv 1) (pa_cons (pe_op op_sub (pv 2) pe_int) pa_nil))))) (pe_lst (pa_cons pe_str pa_nil))))) pss_nil)
  (pss_cons (ps_if (PW.pt (pw_and (pt_cmpR op_eq (pv 3) pe_int (nomark _)) (pw_and1 (pt_cmpR op_eq (pe_cal D_law_draw hr (Nat.ble_eq_true_of_le (by omega)) rfl pass0 (pa_cons (pv 0) (pa_cons pe_int pa_nil))) pe_int (nomark _))))) (pss_one (ps_ret (pe_lst (pa_cons pe_str (pa_cons pe_str (pa_cons pe_str pa_nil)))))) pss_nil)
  (pss_cons (ps_set (i := 4) sc_law_e.nd rfl (Or.inl rfl) (pe_cal D_law_e hr (Nat.ble_eq_true_of_le (by omega)) rfl pass0 (pa_cons (pv 0) (pa_cons (pv 1) (pa_cons (pe_op op_sub (pv 2) pe_int) pa_nil)))))
  (pss_cons (ps_if (pt_cmpR op_eq (pv 3) pe_int (nomark _)) (pss_one (ps_ret (pe_op op_cat (pe_op op_cat (pe_lst (pa_cons (pe_ix ix_list (pe_lst (pa_cons pe_str (pa_cons pe_str (pa_cons pe_str (pa_cons pe_str (pa_cons pe_str (pa_cons pe_str pa_nil))))))) (pe_cal D_law_draw hr (Nat.ble_eq_true_of_le (by omega)) rfl pass0 (pa_cons (pv 0) (pa_cons pe_int pa_nil))) (fun _ _ => rfl)) (pa_cons pe_str pa_nil))) (pv 4)) (pe_lst (pa_cons pe_str pa_nil))))) pss_nil)
  (pss_cons (ps_if (pt_cmpR op_lt (pv 3) pe_int (nomark _)) (pss_one (ps_ret (pe_op op_cat (pe_lst (pa_cons (pe_ix ix_list (pe_lst (pa_cons pe_str (pa_cons pe_str pa_nil))) (pe_op op_sub (pv 3) pe_int) (fun _ _ => rfl)) pa_nil)) (pv 4)))) pss_nil)
  (pss_cons (ps_if (pt_cmpR op_eq (pv 3) pe_int (nomark _)) (pss_one (ps_ret (pe_op op_cat (pe_op op_cat (pe_lst (pa_cons pe_str pa_nil)) (pv 4)) (pe_lst (pa_cons pe_str pa_nil))))) pss_nil)
  (pss_cons (ps_if (pt_cmpR op_gt (pv 3) pe_int (nomark _)) (pss_cons (ps_set (i := 5) sc_law_e.nd rfl (Or.inl rfl) (pe_ix ix_list (pe_lst (pa_cons pe_str (pa_cons pe_str (pa_cons pe_str (pa_cons pe_str (pa_cons pe_str (pa_cons pe_str (pa_cons pe_str (pa_cons pe_str (pa_cons pe_str (pa_cons pe_str (pa_cons pe_str (pa_cons pe_str (pa_cons pe_str (pa_cons pe_str pa_nil))))))))))))))) (pe_cal D_law_draw hr (Nat.ble_eq_true_of_le (by omega)) rfl pass0 (pa_cons (pv 0) (pa_cons pe_int pa_nil))) (fun _ _ => rfl)))
  (pss_one (ps_ret (pe_op op_cat (pe_op op_cat (pv 4) (pe_lst (pa_cons (pv 5) pa_nil))) (pe_cal D_law_e hr (Nat.ble_eq_true_of_le (by omega)) rfl pass0 (pa_cons (pv 0) (pa_cons (pv 1) (pa_cons (pe_op op_sub (pv 2) pe_int) pa_nil)))))))) pss_nil)
  (pss_cons (ps_if (pt_cmpR op_gt (pe_callB call_lenN (by rfl) T.f_len (by decide +kernel) (pa_cons (pv 4) pa_nil)) pe_int (nomark _)) (pss_one (ps_set (i := 4) sc_law_e.nd rfl (Or.inl rfl) (pe_op op_cat (pe_op op_cat (pe_lst (pa_cons pe_str pa_nil)) (pv 4)) (pe_lst (pa_cons pe_str pa_nil))))) pss_nil)
  (pss_cons (ps_if (pt_cmpR op_eq (pv 3) pe_int (nomark _)) (pss_one (ps_ret (pe_op op_cat (pe_op op_cat (pe_op op_cat (pv 4) (pe_lst (pa_cons pe_str pa_nil))) (pe_cal D_law_some hr (Nat.ble_eq_true_of_le (by omega)) rfl pass0 (pa_cons (pv 0) (pa_cons (pv 1) (pa_cons (pe_op op_sub (pv 2) pe_int) pa_nil))))) (pe_lst (pa_cons pe_str pa_nil))))) pss_nil)
  (pss_cons (ps_if (pt_cmpR op_eq (pv 3) pe_int (nomark _)) (pss_one (ps_ret (pe_op op_cat (pv 4) (pe_lst (pa_cons pe_str (pa_cons (pe_cal D_law_name hr (Nat.ble_eq_true_of_le (by omega)) rfl pass0 (pa_cons (pv 0) pa_nil)) pa_nil)))))) pss_nil)
  (pss_cons (ps_if (pt_cmpR op_eq (pv 3) pe_int (nomark _)) (pss_one (ps_ret (pe_op op_cat (pe_op op_cat (pe_op op_cat (pv 4) (pe_lst (pa_cons pe_str (pa_cons (pe_cal D_law_name hr (Nat.ble_eq_true_of_le (by omega)) rfl pass0 (pa_cons (pv 0) pa_nil)) (pa_cons pe_str pa_nil))))) (pe_cal D_law_some hr (Nat.ble_eq_true_of_le (by omega)) rfl pass0 (pa_cons (pv 0) (pa_cons (pv 1) (pa_cons (pe_op op_sub (pv 2) pe_int) pa_nil))))) (pe_lst (pa_cons pe_str pa_nil))))) pss_nil)
  (pss_one (ps_ret (pe_op op_cat (pe_op op_cat (pe_op op_cat (pv 4) (pe_lst (pa_cons pe_str pa_nil))) (pe_cal D_law_e hr (Nat.ble_eq_true_of_le (by omega)) rfl pass0 (pa_cons (pv 0) (pa_cons (pv 1) (pa_cons (pe_op op_sub (pv 2) pe_int) pa_nil))))) (pe_lst (pa_cons pe_str pa_nil)))))))))))))))))))))), ?_⟩
    walk_at "w"
    refine w_augS ?_
    walk_at "w"
    refine ⟨b, _, 0, .int l, rfl, rfl, .of G.bud, rfl, ?_⟩
    walk_at "w"
    refine ⟨l, 1, rfl, rfl, b, _, 0, 0, rfl, rfl, G.bud, rfl, ?_⟩
    obtain ⟨G1, k1⟩ := G.dec
    have hle := G.le
    generalize upd H b (.lst ([V.int l].set 0 (V.int (l - 1)))) = H1 at G1 k1 ⊢
    walk_at "w"
    refine ⟨f, s, 18, rfl, G1.fl, by decide, by decide, fun d H2 d0 d1 F2 kf2 => ?_⟩
    have G2 := G1.keep kf2 F2
    have k2 := k1.trans (.ofF kf2)
    have atom : ∀ E, spAtom9 [.ref f] H2 Q E := fun E => ⟨f, s, rfl, F2, fun a z H' ha hw hz F' k' => q a H' (W1 z) (l - 1) (fresh2 k2 G2 ha) hw (G2.keep k' F') (by omega) (k2.trans (.ofF k')) (.one (atoms_voc hz)) (.one (atoms_else hz) .nil) (by show 1 + _ ≤ _; omega)⟩
    walk_at "w"
    by_cases c0 : i ≤ 0
    · rw [decide_eq_true c0]
      walk_at "w"
      exact atom _
    rw [decide_eq_false c0]
    walk_at "w"
    refine w_ixL (.of G2.bud) (atI_nat (j := 0) rfl) ?_
    walk_at "w"
    by_cases c1 : l - 1 ≤ 0
    · rw [decide_eq_true c1]
      walk_at "w"
      exact atom _
    rw [decide_eq_false c1]
    walk_at "w"
    by_cases c2 : d < 3
    · rw [decide_eq_true c2]
      walk_at "w"
      exact atom _
    rw [decide_eq_false c2]
    walk_at "w"
    have hl32 : 32 * (l - 1).toNat + 32 = 32 * l.toNat := by omega
    cases r with
    | zero => exact absurd hi (by omega)
    | succ r =>
    have hi1 : i - 1 = (r : Int) := by omega
    by_cases c3 : d = 3
    · rw [decide_eq_true c3]
      walk_at "w"
      refine ⟨by show 1 ≤ sizeLine; decide, fun p3 h_p3 => ?_⟩
      have s_H3 : Same H2 (upd H2 p3 (.lst [V.str "["])) := sameUpd h_p3
      have e_H3 : WL (upd H2 p3 (.lst [V.str "["])) p3 (W1 "[") := upd_same
      generalize upd H2 p3 (.lst [V.str "["]) = H3 at s_H3 e_H3 ⊢
      walk_at "w"
      refine ⟨f, s, b, l - 1, i - 1, rfl, hi1, G2.same s_H3, fun a H4 es l4 ha e4 G4 hl4 k4 hv4 hh4 hc4 => ?_⟩
      have ew := e_H3.keep2 (G2.same s_H3) k4
      refine w_cat ew e4 (by first | omega | (simp only [List.length_append, List.length_cons, List.length_nil, W1_len]; omega)) fun p5 h_p5 => ?_
      have s_H5 := sameUpd (o := .lst ((W1 "[" ++ es).map V.str)) h_p5
      have e_H5 : WL (upd H4 p5 (.lst ((W1 "[" ++ es).map V.str))) p5 (W1 "[" ++ es) := upd_same
      generalize upd H4 p5 (.lst ((W1 "[" ++ es).map V.str)) = H5 at s_H5 e_H5 ⊢
      walk_at "w"
      refine ⟨by show 1 ≤ sizeLine; decide, fun p6 h_p6 => ?_⟩
      have s_H6 : Same H5 (upd H5 p6 (.lst [V.str "]"])) := sameUpd h_p6
      have e_H6 : WL (upd H5 p6 (.lst [V.str "]"])) p6 (W1 "]") := upd_same
      generalize upd H5 p6 (.lst [V.str "]"]) = H6 at s_H6 e_H6 ⊢
      have kk := (k2.trans (.ofS s_H3)).trans (k4.trans (.ofS (s_H5.trans s_H6)))
      refine w_cat (e_H5.same s_H6) e_H6 (by first | omega | (simp only [List.length_append, List.length_cons, List.length_nil, W1_len]; omega)) fun p7 h_p7 => ?_
      have s_H7 := sameUpd (o := .lst ((W1 "[" ++ es ++ W1 "]").map V.str)) h_p7
      have e_H7 : WL (upd H6 p7 (.lst ((W1 "[" ++ es ++ W1 "]").map V.str))) p7 (W1 "[" ++ es ++ W1 "]") := upd_same
      generalize upd H6 p7 (.lst ((W1 "[" ++ es ++ W1 "]").map V.str)) = H7 at s_H7 e_H7 ⊢
      exact q p7 H7 _ l4 (fresh2 kk (G4.same (s_H5.trans s_H6)) h_p7) e_H7 (G4.same ((s_H5.trans s_H6).trans s_H7)) (by omega) (kk.trans (.ofS s_H7)) (((Voc.one (by decide +kernel)).app hv4).app (.one (by decide +kernel))) ((HeadOk.one (by decide +kernel) hh4).app (.one (by decide +kernel))) (by simp only [List.length_append, W1_len]; omega)
    rw [decide_eq_false c3]
    walk_at "w"
    by_cases c4 : d = 4
    · rw [decide_eq_true c4]
      walk_at "w"
      refine ⟨by show 1 ≤ sizeLine; decide, fun p3 h_p3 => ?_⟩
      have s_H3 : Same H2 (upd H2 p3 (.lst [V.str "fun"])) := sameUpd h_p3
      have e_H3 : WL (upd H2 p3 (.lst [V.str "fun"])) p3 (W1 "fun") := upd_same
      generalize upd H2 p3 (.lst [V.str "fun"]) = H3 at s_H3 e_H3 ⊢
      walk_at "w"
      refine ⟨f, s, rfl, F2.same s_H3, fun a cs H4 ha e4 hv4 hh4 hc4 F4 kf4 => ?_⟩
      have G4 := (G2.same s_H3).keep kf4 F4
      have ew := e_H3.keep (F2.same s_H3) kf4
      refine w_cat ew e4 (by first | omega | (simp only [List.length_append, List.length_cons, List.length_nil, W1_len]; omega)) fun p5 h_p5 => ?_
      have s_H5 := sameUpd (o := .lst ((W1 "fun" ++ cs).map V.str)) h_p5
      have e_H5 : WL (upd H4 p5 (.lst ((W1 "fun" ++ cs).map V.str))) p5 (W1 "fun" ++ cs) := upd_same
      generalize upd H4 p5 (.lst ((W1 "fun" ++ cs).map V.str)) = H5 at s_H5 e_H5 ⊢
      have G5 := G4.same s_H5
      walk_at "w"
      refine ⟨f, s, b, l - 1, i - 1, rfl, hi1, G5, fun a6 H6 es l6 ha6 e6 G6 hl6 k6 hv6 hh6 hc6 => ?_⟩
      have ew6 := e_H5.keep2 G5 k6
      have kk := ((k2.trans (.ofS s_H3)).trans (.ofF kf4)).trans (Keep2.trans (.ofS s_H5) k6)
      refine w_cat ew6 e6 (by first | omega | (simp only [List.length_append, List.length_cons, List.length_nil, W1_len]; omega)) fun p7 h_p7 => ?_
      have s_H7 := sameUpd (o := .lst ((W1 "fun" ++ cs ++ es).map V.str)) h_p7
      have e_H7 : WL (upd H6 p7 (.lst ((W1 "fun" ++ cs ++ es).map V.str))) p7 (W1 "fun" ++ cs ++ es) := upd_same
      generalize upd H6 p7 (.lst ((W1 "fun" ++ cs ++ es).map V.str)) = H7 at s_H7 e_H7 ⊢
      exact q p7 H7 _ l6 (fresh2 kk G6 h_p7) e_H7 (G6.same s_H7) (by omega) (kk.trans (.ofS s_H7)) (((Voc.one (by decide +kernel)).app hv4).app hv6) ((HeadOk.one (by decide +kernel) hh4.hd).app hh6.hd) (by simp only [List.length_append, W1_len]; omega)
    rw [decide_eq_false c4]
    walk_at "w"
    by_cases c5 : d = 5
    · rw [decide_eq_true c5]
      walk_at "w"
      refine ⟨f, s, rfl, F2, fun z H3 hz F3 kf3 => ?_⟩
      have G3 := G2.keep kf3 F3
      walk_at "w"
      refine ⟨by show 3 ≤ sizeLine; decide, fun p4 h_p4 => ?_⟩
      have s_H4 : Same H3 (upd H3 p4 (.lst [V.str "new", V.str z, V.str "("])) := sameUpd h_p4
      have e_H4 : WL (upd H3 p4 (.lst [V.str "new", V.str z, V.str "("])) p4 (W1 "new" ++ W1 z ++ W1 "(") := upd_same
      generalize upd H3 p4 (.lst [V.str "new", V.str z, V.str "("]) = H4 at s_H4 e_H4 ⊢
      have G4 := G3.same s_H4
      walk_at "w"
      refine ⟨f, s, b, l - 1, i - 1, rfl, hi1, G4, fun a H5 es l5 ha e5 G5 hl5 k5 hv5 hh5 hc5 => ?_⟩
      have ew := e_H4.keep2 G4 k5
      refine w_cat ew e5 (by first | omega | (simp only [List.length_append, List.length_cons, List.length_nil, W1_len]; omega)) fun p6 h_p6 => ?_
      have s_H6 := sameUpd (o := .lst ((W1 "new" ++ W1 z ++ W1 "(" ++ es).map V.str)) h_p6
      have e_H6 : WL (upd H5 p6 (.lst ((W1 "new" ++ W1 z ++ W1 "(" ++ es).map V.str))) p6 (W1 "new" ++ W1 z ++ W1 "(" ++ es) := upd_same
      generalize upd H5 p6 (.lst ((W1 "new" ++ W1 z ++ W1 "(" ++ es).map V.str)) = H6 at s_H6 e_H6 ⊢
      walk_at "w"
      refine ⟨by show 1 ≤ sizeLine; decide, fun p7 h_p7 => ?_⟩
      have s_H7 : Same H6 (upd H6 p7 (.lst [V.str ")"])) := sameUpd h_p7
      have e_H7 : WL (upd H6 p7 (.lst [V.str ")"])) p7 (W1 ")") := upd_same
      generalize upd H6 p7 (.lst [V.str ")"]) = H7 at s_H7 e_H7 ⊢
      have kk := ((k2.trans (.ofF kf3)).trans (.ofS s_H4)).trans (k5.trans (.ofS (s_H6.trans s_H7)))
      refine w_cat (e_H6.same s_H7) e_H7 (by first | omega | (simp only [List.length_append, List.length_cons, List.length_nil, W1_len]; omega)) fun p8 h_p8 => ?_
      have s_H8 := sameUpd (o := .lst ((W1 "new" ++ W1 z ++ W1 "(" ++ es ++ W1 ")").map V.str)) h_p8
      have e_H8 : WL (upd H7 p8 (.lst ((W1 "new" ++ W1 z ++ W1 "(" ++ es ++ W1 ")").map V.str))) p8 (W1 "new" ++ W1 z ++ W1 "(" ++ es ++ W1 ")") := upd_same
      generalize upd H7 p8 (.lst ((W1 "new" ++ W1 z ++ W1 "(" ++ es ++ W1 ")").map V.str)) = H8 at s_H8 e_H8 ⊢
      exact q p8 H8 _ l5 (fresh2 kk (G5.same (s_H6.trans s_H7)) h_p8) e_H8 (G5.same ((s_H6.trans s_H7).trans s_H8)) (by omega) (kk.trans (.ofS s_H8)) (((((Voc.one (by decide +kernel)).app (.one (names_voc hz))).app (.one (by decide +kernel))).app hv5).app (.one (by decide +kernel))) (.one (by decide +kernel) (.one (names_else hz))) (by simp only [List.length_append, W1_len]; omega)
    rw [decide_eq_false c5]
    walk_at "w"
    by_cases c6 : d = 6
    · rw [decide_eq_true c6]
      walk_at "w"
      refine ⟨f, s, rfl, F2, fun z H3 hz F3 kf3 => ?_⟩
      have G3 := G2.keep kf3 F3
      walk_at "w"
      refine ⟨by show 4 ≤ sizeLine; decide, fun p4 h_p4 => ?_⟩
      have s_H4 : Same H3 (upd H3 p4 (.lst [V.str "super", V.str ".", V.str z, V.str "("])) := sameUpd h_p4
      have e_H4 : WL (upd H3 p4 (.lst [V.str "super", V.str ".", V.str z, V.str "("])) p4 (W1 "super" ++ W1 "." ++ W1 z ++ W1 "(") := upd_same
      generalize upd H3 p4 (.lst [V.str "super", V.str ".", V.str z, V.str "("]) = H4 at s_H4 e_H4 ⊢
      have G4 := G3.same s_H4
      walk_at "w"
      refine ⟨f, s, b, l - 1, i - 1, rfl, hi1, G4, fun a H5 es l5 ha e5 G5 hl5 k5 hv5 hh5 hc5 => ?_⟩
      have ew := e_H4.keep2 G4 k5
      refine w_cat ew e5 (by first | omega | (simp only [List.length_append, List.length_cons, List.length_nil, W1_len]; omega)) fun p6 h_p6 => ?_
      have s_H6 := sameUpd (o := .lst ((W1 "super" ++ W1 "." ++ W1 z ++ W1 "(" ++ es).map V.str)) h_p6
      have e_H6 : WL (upd H5 p6 (.lst ((W1 "super" ++ W1 "." ++ W1 z ++ W1 "(" ++ es).map V.str))) p6 (W1 "super" ++ W1 "." ++ W1 z ++ W1 "(" ++ es) := upd_same
      generalize upd H5 p6 (.lst ((W1 "super" ++ W1 "." ++ W1 z ++ W1 "(" ++ es).map V.str)) = H6 at s_H6 e_H6 ⊢
      walk_at "w"
      refine ⟨by show 1 ≤ sizeLine; decide, fun p7 h_p7 => ?_⟩
      have s_H7 : Same H6 (upd H6 p7 (.lst [V.str ")"])) := sameUpd h_p7
      have e_H7 : WL (upd H6 p7 (.lst [V.str ")"])) p7 (W1 ")") := upd_same
      generalize upd H6 p7 (.lst [V.str ")"]) = H7 at s_H7 e_H7 ⊢
      have kk := ((k2.trans (.ofF kf3)).trans (.ofS s_H4)).trans (k5.trans (.ofS (s_H6.trans s_H7)))
      refine w_cat (e_H6.same s_H7) e_H7 (by first | omega | (simp only [List.length_append, List.length_cons, List.length_nil, W1_len]; omega)) fun p8 h_p8 => ?_
      have s_H8 := sameUpd (o := .lst ((W1 "super" ++ W1 "." ++ W1 z ++ W1 "(" ++ es ++ W1 ")").map V.str)) h_p8
      have e_H8 : WL (upd H7 p8 (.lst ((W1 "super" ++ W1 "." ++ W1 z ++ W1 "(" ++ es ++ W1 ")").map V.str))) p8 (W1 "super" ++ W1 "." ++ W1 z ++ W1 "(" ++ es ++ W1 ")") := upd_same
      generalize upd H7 p8 (.lst ((W1 "super" ++ W1 "." ++ W1 z ++ W1 "(" ++ es ++ W1 ")").map V.str)) = H8 at s_H8 e_H8 ⊢
      exact q p8 H8 _ l5 (fresh2 kk (G5.same (s_H6.trans s_H7)) h_p8) e_H8 (G5.same ((s_H6.trans s_H7).trans s_H8)) (by omega) (kk.trans (.ofS s_H8)) ((((((Voc.one (by decide +kernel)).app (.one (by decide +kernel))).app (.one (names_voc hz))).app (.one (by decide +kernel))).app hv5).app (.one (by decide +kernel))) (.one (by decide +kernel) (.one (by decide +kernel))) (by simp only [List.length_append, W1_len]; omega)
    rw [decide_eq_false c6]
    walk_at "w"
    by_cases c7 : d = 7
    · rw [decide_eq_true c7]
      walk_at "w"
      refine ⟨f, s, 2, rfl, F2, by decide, by decide, fun x H3 x0 x1 F3 kf3 => ?_⟩
      have G3 := G2.keep kf3 F3
      have k3 := k2.trans (.ofF kf3)
      walk_at "w"
      by_cases cx : x = 1
      · rw [decide_eq_true cx]
        walk_at "w"
        refine ⟨by show 3 ≤ sizeLine; decide, fun p4 h_p4 => ?_⟩
        have s_H4 : Same H3 (upd H3 p4 (.lst [V.str "yield", V.str "(", V.str ")"])) := sameUpd h_p4
        have e_H4 : WL (upd H3 p4 (.lst [V.str "yield", V.str "(", V.str ")"])) p4 (W1 "yield" ++ W1 "(" ++ W1 ")") := upd_same
        generalize upd H3 p4 (.lst [V.str "yield", V.str "(", V.str ")"]) = H4 at s_H4 e_H4 ⊢
        exact q p4 H4 _ (l - 1) (fresh2 k3 G3 h_p4) e_H4 (G3.same s_H4) (by omega) (k3.trans (.ofS s_H4)) (((Voc.one (by decide +kernel)).app (.one (by decide +kernel))).app (.one (by decide +kernel))) (.one (by decide +kernel) (.one (by decide +kernel))) (by simp only [List.length_append, W1_len]; omega)
      rw [decide_eq_false cx]
      walk_at "w"
      refine ⟨f, s, b, l - 1, i - 1, rfl, hi1, G3, fun a H4 es l4 ha e4 G4 hl4 k4 hv4 hh4 hc4 => ?_⟩
      have k24 := k3.trans k4
      walk_at "w"
      rw [decide_eq_true c7]
      walk_at "w"
      refine ⟨by show 6 ≤ sizeLine; decide, fun p5 hp5 => ?_⟩
      have s5 := sameUpd (o := .lst ((["len", "weak", "worth", "number", "spawn", "join"] : List Str).map V.str)) hp5
      have e5 : WL (upd H4 p5 (.lst ((["len", "weak", "worth", "number", "spawn", "join"] : List Str).map V.str))) p5 ["len", "weak", "worth", "number", "spawn", "join"] := upd_same
      change tCall _ _ _ _ _ (upd H4 p5 (.lst ((["len", "weak", "worth", "number", "spawn", "join"] : List Str).map V.str))) _
      generalize upd H4 p5 (.lst ((["len", "weak", "worth", "number", "spawn", "join"] : List Str).map V.str)) = H5 at s5 e5 ⊢
      have G5 := G4.same s5
      walk_at "w"
      refine ⟨f, s, 6, rfl, G5.fl, by decide, by decide, fun y H6 y0 y1 F6 kf6 => ?_⟩
      have G6 := G5.keep kf6 F6
      refine pickW (e5.keep G5.fl kf6) rfl y0 y1 fun z hz => ?_
      have hz2 : z ∈ VOC ∧ z ≠ "else" := (by decide +kernel : ∀ z ∈ (["len", "weak", "worth", "number", "spawn", "join"] : List Str), z ∈ VOC ∧ z ≠ "else") z hz
      walk_at "w"
      refine ⟨by show 2 ≤ sizeLine; decide, fun p7 h_p7 => ?_⟩
      have s_H7 : Same H6 (upd H6 p7 (.lst [V.str z, V.str "("])) := sameUpd h_p7
      have e_H7 : WL (upd H6 p7 (.lst [V.str z, V.str "("])) p7 (W1 z ++ W1 "(") := upd_same
      generalize upd H6 p7 (.lst [V.str z, V.str "("]) = H7 at s_H7 e_H7 ⊢
      walk_at "w"
      have e46 := ((e4.same s5).keep G5.fl kf6).same s_H7
      refine w_cat e_H7 e46 (by first | omega | (simp only [List.length_append, List.length_cons, List.length_nil, W1_len]; omega)) fun p8 h_p8 => ?_
      have s_H8 := sameUpd (o := .lst ((W1 z ++ W1 "(" ++ es).map V.str)) h_p8
      have e_H8 : WL (upd H7 p8 (.lst ((W1 z ++ W1 "(" ++ es).map V.str))) p8 (W1 z ++ W1 "(" ++ es) := upd_same
      generalize upd H7 p8 (.lst ((W1 z ++ W1 "(" ++ es).map V.str)) = H8 at s_H8 e_H8 ⊢
      walk_at "w"
      refine ⟨by show 1 ≤ sizeLine; decide, fun p9 h_p9 => ?_⟩
      have s_H9 : Same H8 (upd H8 p9 (.lst [V.str ")"])) := sameUpd h_p9
      have e_H9 : WL (upd H8 p9 (.lst [V.str ")"])) p9 (W1 ")") := upd_same
      generalize upd H8 p9 (.lst [V.str ")"]) = H9 at s_H9 e_H9 ⊢
      have kk := ((k24.trans (.ofS s5)).trans (.ofF kf6)).trans (.ofS (s_H7.trans (s_H8.trans s_H9)))
      have GG := G6.same (s_H7.trans (s_H8.trans s_H9))
      refine w_cat (e_H8.same s_H9) e_H9 (by first | omega | (simp only [List.length_append, List.length_cons, List.length_nil, W1_len]; omega)) fun p10 h_p10 => ?_
      have s_H10 := sameUpd (o := .lst ((W1 z ++ W1 "(" ++ es ++ W1 ")").map V.str)) h_p10
      have e_H10 : WL (upd H9 p10 (.lst ((W1 z ++ W1 "(" ++ es ++ W1 ")").map V.str))) p10 (W1 z ++ W1 "(" ++ es ++ W1 ")") := upd_same
      generalize upd H9 p10 (.lst ((W1 z ++ W1 "(" ++ es ++ W1 ")").map V.str)) = H10 at s_H10 e_H10 ⊢
      exact q p10 H10 _ l4 (fresh2 kk GG h_p10) e_H10 (GG.same s_H10) (by omega) (kk.trans (.ofS s_H10)) ((((Voc.one hz2.1).app (.one (by decide +kernel))).app hv4).app (.one (by decide +kernel))) (.one hz2.2 (.one (by decide +kernel))) (by simp only [List.length_append, W1_len]; omega)
    rw [decide_eq_false c7]
    walk_at "w"
    refine ⟨f, s, b, l - 1, i - 1, rfl, hi1, G2, fun a H4 es l4 ha e4 G4 hl4 k4 hv4 hh4 hc4 => ?_⟩
    have k24 := k2.trans k4
    walk_at "w"
    rw [decide_eq_false c7]
    walk_at "w"
    by_cases c10 : d < 10
    · rw [decide_eq_true c10]
      walk_at "w"
      refine ⟨by show 2 ≤ sizeLine; decide, fun p5 hp5 => ?_⟩
      have s5 := sameUpd (o := .lst ((["not", "-"] : List Str).map V.str)) hp5
      have e5 : WL (upd H4 p5 (.lst ((["not", "-"] : List Str).map V.str))) p5 ["not", "-"] := upd_same
      change tOp _ _ _ _ (upd H4 p5 (.lst ((["not", "-"] : List Str).map V.str))) _
      generalize upd H4 p5 (.lst ((["not", "-"] : List Str).map V.str)) = H5 at s5 e5 ⊢
      have G5 := G4.same s5
      walk_at "w"
      refine pickW (m := 2) e5 rfl (by omega) (by omega) fun z hz => ?_
      have hz2 : z ∈ VOC ∧ z ≠ "else" := (by decide +kernel : ∀ z ∈ (["not", "-"] : List Str), z ∈ VOC ∧ z ≠ "else") z hz
      walk_at "w"
      refine ⟨by show 1 ≤ sizeLine; decide, fun p7 h_p7 => ?_⟩
      have s_H7 : Same H5 (upd H5 p7 (.lst [V.str z])) := sameUpd h_p7
      have e_H7 : WL (upd H5 p7 (.lst [V.str z])) p7 (W1 z) := upd_same
      generalize upd H5 p7 (.lst [V.str z]) = H7 at s_H7 e_H7 ⊢
      walk_at "w"
      have kk := (k24.trans (.ofS s5)).trans (.ofS s_H7)
      have GG := G5.same s_H7
      have e47 := (e4.same s5).same s_H7
      refine w_cat e_H7 e47 (by first | omega | (simp only [List.length_append, List.length_cons, List.length_nil, W1_len]; omega)) fun p8 h_p8 => ?_
      have s_H8 := sameUpd (o := .lst ((W1 z ++ es).map V.str)) h_p8
      have e_H8 : WL (upd H7 p8 (.lst ((W1 z ++ es).map V.str))) p8 (W1 z ++ es) := upd_same
      generalize upd H7 p8 (.lst ((W1 z ++ es).map V.str)) = H8 at s_H8 e_H8 ⊢
      exact q p8 H8 _ l4 (fresh2 kk GG h_p8) e_H8 (GG.same s_H8) (by omega) (kk.trans (.ofS s_H8)) ((Voc.one hz2.1).app hv4) (.one hz2.2 hh4.hd) (by simp only [List.length_append, W1_len]; omega)
    rw [decide_eq_false c10]
    walk_at "w"
    by_cases c11 : d = 10
    · rw [decide_eq_true c11]
      walk_at "w"
      refine ⟨by show 1 ≤ sizeLine; decide, fun p7 h_p7 => ?_⟩
      have s_H7 : Same H4 (upd H4 p7 (.lst [V.str "("])) := sameUpd h_p7
      have e_H7 : WL (upd H4 p7 (.lst [V.str "("])) p7 (W1 "(") := upd_same
      generalize upd H4 p7 (.lst [V.str "("]) = H7 at s_H7 e_H7 ⊢
      walk_at "w"
      refine w_cat e_H7 (e4.same s_H7) (by first | omega | (simp only [List.length_append, List.length_cons, List.length_nil, W1_len]; omega)) fun p8 h_p8 => ?_
      have s_H8 := sameUpd (o := .lst ((W1 "(" ++ es).map V.str)) h_p8
      have e_H8 : WL (upd H7 p8 (.lst ((W1 "(" ++ es).map V.str))) p8 (W1 "(" ++ es) := upd_same
      generalize upd H7 p8 (.lst ((W1 "(" ++ es).map V.str)) = H8 at s_H8 e_H8 ⊢
      walk_at "w"
      refine ⟨by show 1 ≤ sizeLine; decide, fun p9 h_p9 => ?_⟩
      have s_H9 : Same H8 (upd H8 p9 (.lst [V.str ")"])) := sameUpd h_p9
      have e_H9 : WL (upd H8 p9 (.lst [V.str ")"])) p9 (W1 ")") := upd_same
      generalize upd H8 p9 (.lst [V.str ")"]) = H9 at s_H9 e_H9 ⊢
      have kk := k24.trans (.ofS (s_H7.trans (s_H8.trans s_H9)))
      have GG := G4.same (s_H7.trans (s_H8.trans s_H9))
      refine w_cat (e_H8.same s_H9) e_H9 (by first | omega | (simp only [List.length_append, List.length_cons, List.length_nil, W1_len]; omega)) fun p10 h_p10 => ?_
      have s_H10 := sameUpd (o := .lst ((W1 "(" ++ es ++ W1 ")").map V.str)) h_p10
      have e_H10 : WL (upd H9 p10 (.lst ((W1 "(" ++ es ++ W1 ")").map V.str))) p10 (W1 "(" ++ es ++ W1 ")") := upd_same
      generalize upd H9 p10 (.lst ((W1 "(" ++ es ++ W1 ")").map V.str)) = H10 at s_H10 e_H10 ⊢
      exact q p10 H10 _ l4 (fresh2 kk GG h_p10) e_H10 (GG.same s_H10) (by omega) (kk.trans (.ofS s_H10)) (((Voc.one (by decide +kernel)).app hv4).app (.one (by decide +kernel))) ((HeadOk.one (by decide +kernel) hh4.hd).app (.one (by decide +kernel))) (by simp only [List.length_append, W1_len]; omega)
    rw [decide_eq_false c11]
    walk_at "w"
    by_cases c15 : 14 < d
    · rw [decide_eq_true c15]
      walk_at "w"
      let WS : List Str := ["or", "and", "==", "!=", "<", "<=", ">", ">=", "+", "-", "*", "/", "mod", "+"]
      refine ⟨by show 14 ≤ sizeLine; decide, fun p5 hp5 => ?_⟩
      have s5 := sameUpd (o := .lst (WS.map V.str)) hp5
      have e5 : WL (upd H4 p5 (.lst (WS.map V.str))) p5 WS := upd_same
      change tCall _ _ _ _ _ (upd H4 p5 (.lst (WS.map V.str))) _
      generalize upd H4 p5 (.lst (WS.map V.str)) = H5 at s5 e5 ⊢
      have G5 := G4.same s5
      walk_at "w"
      refine ⟨f, s, 14, rfl, G5.fl, by decide, by decide, fun y H6 y0 y1 F6 kf6 => ?_⟩
      have G6 := G5.keep kf6 F6
      refine pickW (e5.keep G5.fl kf6) rfl y0 y1 fun z hz => ?_
      have hz2 : z ∈ VOC ∧ z ≠ "else" := (by decide +kernel : ∀ z ∈ (["or", "and", "==", "!=", "<", "<=", ">", ">=", "+", "-", "*", "/", "mod", "+"] : List Str), z ∈ VOC ∧ z ≠ "else") z hz
      walk_at "w"
      have e46 := (e4.same s5).keep G5.fl kf6
      refine ⟨by show 1 ≤ sizeLine; decide, fun p7 h_p7 => ?_⟩
      have s_H7 : Same H6 (upd H6 p7 (.lst [V.str z])) := sameUpd h_p7
      have e_H7 : WL (upd H6 p7 (.lst [V.str z])) p7 (W1 z) := upd_same
      generalize upd H6 p7 (.lst [V.str z]) = H7 at s_H7 e_H7 ⊢
      refine w_cat (e46.same s_H7) e_H7 (by first | omega | (simp only [List.length_append, List.length_cons, List.length_nil, W1_len]; omega)) fun p8 h_p8 => ?_
      have s_H8 := sameUpd (o := .lst ((es ++ W1 z).map V.str)) h_p8
      have e_H8 : WL (upd H7 p8 (.lst ((es ++ W1 z).map V.str))) p8 (es ++ W1 z) := upd_same
      generalize upd H7 p8 (.lst ((es ++ W1 z).map V.str)) = H8 at s_H8 e_H8 ⊢
      have G8 := G6.same (s_H7.trans s_H8)
      have k8 := ((k24.trans (.ofS s5)).trans (.ofF kf6)).trans (.ofS (s_H7.trans s_H8))
      walk_at "w"
      refine ⟨f, s, b, l4, i - 1, rfl, hi1, G8, fun a9 H9 es9 l9 ha9 e9 G9 hl9 k9 hv9 hh9 hc9 => ?_⟩
      have ew := e_H8.keep2 G8 k9
      have kk := k8.trans k9
      refine w_cat ew e9 (by first | omega | (simp only [List.length_append, List.length_cons, List.length_nil, W1_len]; omega)) fun p10 h_p10 => ?_
      have s_H10 := sameUpd (o := .lst ((es ++ W1 z ++ es9).map V.str)) h_p10
      have e_H10 : WL (upd H9 p10 (.lst ((es ++ W1 z ++ es9).map V.str))) p10 (es ++ W1 z ++ es9) := upd_same
      generalize upd H9 p10 (.lst ((es ++ W1 z ++ es9).map V.str)) = H10 at s_H10 e_H10 ⊢
      exact q p10 H10 _ l9 (fresh2 kk G9 h_p10) e_H10 (G9.same s_H10) (by omega) (kk.trans (.ofS s_H10)) ((hv4.app (.one hz2.1)).app hv9) ((hh4.app (.one hz2.2)).app hh9.hd) (by simp only [List.length_append, W1_len]; omega)
    rw [decide_eq_false c15]
    walk_at "w1"
    refine w_next ?_
    with_reducible refine seq_cut (fun σ' H' => ∃ (p : Addr) (fs : List Str), σ' = [some (.ref f), some (.ref b), some (.int i), some (.int d), some (.ref p), none] ∧ WL H' p fs ∧ Voc fs ∧ HeadOk fs ∧ fs.length + 32 * l4.toNat ≤ 3 + 32 * (l - 1).toNat ∧ Gs H' f s b l4 ∧ Keep2 f b H H') (fun N k => ?_) ?_
    · walk_at "w"
      refine w_lenL (.of e4) ?_
      rw [List.length_map]
      walk_at "w"
      by_cases cl : (1 : Int) < (es.length : Int)
      · rw [decide_eq_true cl]
        walk_at "w"
        refine ⟨by show 1 ≤ sizeLine; decide, fun p7 h_p7 => ?_⟩
        have s_H7 : Same H4 (upd H4 p7 (.lst [V.str "("])) := sameUpd h_p7
        have e_H7 : WL (upd H4 p7 (.lst [V.str "("])) p7 (W1 "(") := upd_same
        generalize upd H4 p7 (.lst [V.str "("]) = H7 at s_H7 e_H7 ⊢
        walk_at "w"
        refine w_cat e_H7 (e4.same s_H7) (by first | omega | (simp only [List.length_append, List.length_cons, List.length_nil, W1_len]; omega)) fun p8 h_p8 => ?_
        have s_H8 := sameUpd (o := .lst ((W1 "(" ++ es).map V.str)) h_p8
        have e_H8 : WL (upd H7 p8 (.lst ((W1 "(" ++ es).map V.str))) p8 (W1 "(" ++ es) := upd_same
        generalize upd H7 p8 (.lst ((W1 "(" ++ es).map V.str)) = H8 at s_H8 e_H8 ⊢
        walk_at "w"
        refine ⟨by show 1 ≤ sizeLine; decide, fun p9 h_p9 => ?_⟩
        have s_H9 : Same H8 (upd H8 p9 (.lst [V.str ")"])) := sameUpd h_p9
        have e_H9 : WL (upd H8 p9 (.lst [V.str ")"])) p9 (W1 ")") := upd_same
        generalize upd H8 p9 (.lst [V.str ")"]) = H9 at s_H9 e_H9 ⊢
        have kk := k24.trans (.ofS (s_H7.trans (s_H8.trans s_H9)))
        have GG := G4.same (s_H7.trans (s_H8.trans s_H9))
        refine w_cat (e_H8.same s_H9) e_H9 (by first | omega | (simp only [List.length_append, List.length_cons, List.length_nil, W1_len]; omega)) fun p10 h_p10 => ?_
        have s_H10 := sameUpd (o := .lst ((W1 "(" ++ es ++ W1 ")").map V.str)) h_p10
        have e_H10 : WL (upd H9 p10 (.lst ((W1 "(" ++ es ++ W1 ")").map V.str))) p10 (W1 "(" ++ es ++ W1 ")") := upd_same
        generalize upd H9 p10 (.lst ((W1 "(" ++ es ++ W1 ")").map V.str)) = H10 at s_H10 e_H10 ⊢
        exact k _ _ ⟨p10, _, rfl, e_H10, (((Voc.one (by decide +kernel)).app hv4).app (.one (by decide +kernel))), ((HeadOk.one (by decide +kernel) hh4.hd).app (.one (by decide +kernel))), by simp only [List.length_append, W1_len]; omega, GG.same s_H10, kk.trans (.ofS s_H10)⟩
      · rw [decide_eq_false cl]
        walk_at "w"
        exact k _ _ ⟨a, es, rfl, e4, hv4, hh4, by omega, G4, k24⟩
    rintro _ H5 ⟨p5, fs, rfl, e5, hv5, hh5, hc5, G5, k5⟩
    walk_at "w"
    by_cases c12 : d = 11
    · rw [decide_eq_true c12]
      walk_at "w"
      refine ⟨by show 1 ≤ sizeLine; decide, fun p7 h_p7 => ?_⟩
      have s_H7 : Same H5 (upd H5 p7 (.lst [V.str "("])) := sameUpd h_p7
      have e_H7 : WL (upd H5 p7 (.lst [V.str "("])) p7 (W1 "(") := upd_same
      generalize upd H5 p7 (.lst [V.str "("]) = H7 at s_H7 e_H7 ⊢
      refine w_cat (e5.same s_H7) e_H7 (by first | omega | (simp only [List.length_append, List.length_cons, List.length_nil, W1_len]; omega)) fun p8 h_p8 => ?_
      have s_H8 := sameUpd (o := .lst ((fs ++ W1 "(").map V.str)) h_p8
      have e_H8 : WL (upd H7 p8 (.lst ((fs ++ W1 "(").map V.str))) p8 (fs ++ W1 "(") := upd_same
      generalize upd H7 p8 (.lst ((fs ++ W1 "(").map V.str)) = H8 at s_H8 e_H8 ⊢
      have G8 := G5.same (s_H7.trans s_H8)
      walk_at "w"
      refine ⟨f, s, b, l4, i - 1, rfl, hi1, G8, fun a9 H9 es9 l9 ha9 e9 G9 hl9 k9 hv9 hh9 hc9 => ?_⟩
      have ew := e_H8.keep2 G8 k9
      refine w_cat ew e9 (by first | omega | (simp only [List.length_append, List.length_cons, List.length_nil, W1_len]; omega)) fun p10 h_p10 => ?_
      have s_H10 := sameUpd (o := .lst ((fs ++ W1 "(" ++ es9).map V.str)) h_p10
      have e_H10 : WL (upd H9 p10 (.lst ((fs ++ W1 "(" ++ es9).map V.str))) p10 (fs ++ W1 "(" ++ es9) := upd_same
      generalize upd H9 p10 (.lst ((fs ++ W1 "(" ++ es9).map V.str)) = H10 at s_H10 e_H10 ⊢
      walk_at "w"
      refine ⟨by show 1 ≤ sizeLine; decide, fun p11 h_p11 => ?_⟩
      have s_H11 : Same H10 (upd H10 p11 (.lst [V.str ")"])) := sameUpd h_p11
      have e_H11 : WL (upd H10 p11 (.lst [V.str ")"])) p11 (W1 ")") := upd_same
      generalize upd H10 p11 (.lst [V.str ")"]) = H11 at s_H11 e_H11 ⊢
      have kk := ((k5.trans (.ofS (s_H7.trans s_H8))).trans k9).trans (.ofS (s_H10.trans s_H11))
      have GG := G9.same (s_H10.trans s_H11)
      refine w_cat (e_H10.same s_H11) e_H11 (by first | omega | (simp only [List.length_append, List.length_cons, List.length_nil, W1_len]; omega)) fun p12 h_p12 => ?_
      have s_H12 := sameUpd (o := .lst ((fs ++ W1 "(" ++ es9 ++ W1 ")").map V.str)) h_p12
      have e_H12 : WL (upd H11 p12 (.lst ((fs ++ W1 "(" ++ es9 ++ W1 ")").map V.str))) p12 (fs ++ W1 "(" ++ es9 ++ W1 ")") := upd_same
      generalize upd H11 p12 (.lst ((fs ++ W1 "(" ++ es9 ++ W1 ")").map V.str)) = H12 at s_H12 e_H12 ⊢
      exact q p12 H12 _ l9 (fresh2 kk GG h_p12) e_H12 (GG.same s_H12) (by omega) (kk.trans (.ofS s_H12)) (((hv5.app (.one (by decide +kernel))).app hv9).app (.one (by decide +kernel))) (((hh5.app (.one (by decide +kernel))).app hh9).app (.one (by decide +kernel))) (by simp only [List.length_append, W1_len]; omega)
    rw [decide_eq_false c12]
    walk_at "w"
    by_cases c13 : d = 12
    · rw [decide_eq_true c13]
      walk_at "w"
      refine ⟨f, s, rfl, G5.fl, fun z H6 hz F6 kf6 => ?_⟩
      have G6 := G5.keep kf6 F6
      have e6 := e5.keep G5.fl kf6
      walk_at "w"
      refine ⟨by show 2 ≤ sizeLine; decide, fun p7 h_p7 => ?_⟩
      have s_H7 : Same H6 (upd H6 p7 (.lst [V.str ".", V.str z])) := sameUpd h_p7
      have e_H7 : WL (upd H6 p7 (.lst [V.str ".", V.str z])) p7 (W1 "." ++ W1 z) := upd_same
      generalize upd H6 p7 (.lst [V.str ".", V.str z]) = H7 at s_H7 e_H7 ⊢
      have kk := (k5.trans (.ofF kf6)).trans (.ofS s_H7)
      have GG := G6.same s_H7
      refine w_cat (e6.same s_H7) e_H7 (by first | omega | (simp only [List.length_append, List.length_cons, List.length_nil, W1_len]; omega)) fun p8 h_p8 => ?_
      have s_H8 := sameUpd (o := .lst ((fs ++ (W1 "." ++ W1 z)).map V.str)) h_p8
      have e_H8 : WL (upd H7 p8 (.lst ((fs ++ (W1 "." ++ W1 z)).map V.str))) p8 (fs ++ (W1 "." ++ W1 z)) := upd_same
      generalize upd H7 p8 (.lst ((fs ++ (W1 "." ++ W1 z)).map V.str)) = H8 at s_H8 e_H8 ⊢
      exact q p8 H8 _ l4 (fresh2 kk GG h_p8) e_H8 (GG.same s_H8) (by omega) (kk.trans (.ofS s_H8)) (hv5.app ((Voc.one (by decide +kernel)).app (.one (names_voc hz)))) (hh5.app (.one (by decide +kernel))) (by simp only [List.length_append, W1_len]; omega)
    rw [decide_eq_false c13]
    walk_at "w"
    by_cases c14 : d = 13
    · rw [decide_eq_true c14]
      walk_at "w"
      refine ⟨f, s, rfl, G5.fl, fun z H6 hz F6 kf6 => ?_⟩
      have G6 := G5.keep kf6 F6
      have e6 := e5.keep G5.fl kf6
      walk_at "w"
      refine ⟨by show 3 ≤ sizeLine; decide, fun p7 h_p7 => ?_⟩
      have s_H7 : Same H6 (upd H6 p7 (.lst [V.str ".", V.str z, V.str "("])) := sameUpd h_p7
      have e_H7 : WL (upd H6 p7 (.lst [V.str ".", V.str z, V.str "("])) p7 (W1 "." ++ W1 z ++ W1 "(") := upd_same
      generalize upd H6 p7 (.lst [V.str ".", V.str z, V.str "("]) = H7 at s_H7 e_H7 ⊢
      refine w_cat (e6.same s_H7) e_H7 (by first | omega | (simp only [List.length_append, List.length_cons, List.length_nil, W1_len]; omega)) fun p8 h_p8 => ?_
      have s_H8 := sameUpd (o := .lst ((fs ++ (W1 "." ++ W1 z ++ W1 "(")).map V.str)) h_p8
      have e_H8 : WL (upd H7 p8 (.lst ((fs ++ (W1 "." ++ W1 z ++ W1 "(")).map V.str))) p8 (fs ++ (W1 "." ++ W1 z ++ W1 "(")) := upd_same
      generalize upd H7 p8 (.lst ((fs ++ (W1 "." ++ W1 z ++ W1 "(")).map V.str)) = H8 at s_H8 e_H8 ⊢
      have G8 := G6.same (s_H7.trans s_H8)
      walk_at "w"
      refine ⟨f, s, b, l4, i - 1, rfl, hi1, G8, fun a9 H9 es9 l9 ha9 e9 G9 hl9 k9 hv9 hh9 hc9 => ?_⟩
      have ew := e_H8.keep2 G8 k9
      refine w_cat ew e9 (by first | omega | (simp only [List.length_append, List.length_cons, List.length_nil, W1_len]; omega)) fun p10 h_p10 => ?_
      have s_H10 := sameUpd (o := .lst ((fs ++ (W1 "." ++ W1 z ++ W1 "(") ++ es9).map V.str)) h_p10
      have e_H10 : WL (upd H9 p10 (.lst ((fs ++ (W1 "." ++ W1 z ++ W1 "(") ++ es9).map V.str))) p10 (fs ++ (W1 "." ++ W1 z ++ W1 "(") ++ es9) := upd_same
      generalize upd H9 p10 (.lst ((fs ++ (W1 "." ++ W1 z ++ W1 "(") ++ es9).map V.str)) = H10 at s_H10 e_H10 ⊢
      walk_at "w"
      refine ⟨by show 1 ≤ sizeLine; decide, fun p11 h_p11 => ?_⟩
      have s_H11 : Same H10 (upd H10 p11 (.lst [V.str ")"])) := sameUpd h_p11
      have e_H11 : WL (upd H10 p11 (.lst [V.str ")"])) p11 (W1 ")") := upd_same
      generalize upd H10 p11 (.lst [V.str ")"]) = H11 at s_H11 e_H11 ⊢
      have kk := (((k5.trans (.ofF kf6)).trans (.ofS (s_H7.trans s_H8))).trans k9).trans (.ofS (s_H10.trans s_H11))
      have GG := G9.same (s_H10.trans s_H11)
      refine w_cat (e_H10.same s_H11) e_H11 (by first | omega | (simp only [List.length_append, List.length_cons, List.length_nil, W1_len]; omega)) fun p12 h_p12 => ?_
      have s_H12 := sameUpd (o := .lst ((fs ++ (W1 "." ++ W1 z ++ W1 "(") ++ es9 ++ W1 ")").map V.str)) h_p12
      have e_H12 : WL (upd H11 p12 (.lst ((fs ++ (W1 "." ++ W1 z ++ W1 "(") ++ es9 ++ W1 ")").map V.str))) p12 (fs ++ (W1 "." ++ W1 z ++ W1 "(") ++ es9 ++ W1 ")") := upd_same
      generalize upd H11 p12 (.lst ((fs ++ (W1 "." ++ W1 z ++ W1 "(") ++ es9 ++ W1 ")").map V.str)) = H12 at s_H12 e_H12 ⊢
      exact q p12 H12 _ l9 (fresh2 kk GG h_p12) e_H12 (GG.same s_H12) (by omega) (kk.trans (.ofS s_H12)) (((hv5.app (((Voc.one (by decide +kernel)).app (.one (names_voc hz))).app (.one (by decide +kernel)))).app hv9).app (.one (by decide +kernel))) (((hh5.app (.one (by decide +kernel))).app hh9).app (.one (by decide +kernel))) (by simp only [List.length_append, W1_len]; omega)
    rw [decide_eq_false c14]
    walk_at "w"
    refine ⟨by show 1 ≤ sizeLine; decide, fun p7 h_p7 => ?_⟩
    have s_H7 : Same H5 (upd H5 p7 (.lst [V.str "["])) := sameUpd h_p7
    have e_H7 : WL (upd H5 p7 (.lst [V.str "["])) p7 (W1 "[") := upd_same
    generalize upd H5 p7 (.lst [V.str "["]) = H7 at s_H7 e_H7 ⊢
    refine w_cat (e5.same s_H7) e_H7 (by first | omega | (simp only [List.length_append, List.length_cons, List.length_nil, W1_len]; omega)) fun p8 h_p8 => ?_
    have s_H8 := sameUpd (o := .lst ((fs ++ W1 "[").map V.str)) h_p8
    have e_H8 : WL (upd H7 p8 (.lst ((fs ++ W1 "[").map V.str))) p8 (fs ++ W1 "[") := upd_same
    generalize upd H7 p8 (.lst ((fs ++ W1 "[").map V.str)) = H8 at s_H8 e_H8 ⊢
    have G8 := G5.same (s_H7.trans s_H8)
    walk_at "w"
    refine ⟨f, s, b, l4, i - 1, rfl, hi1, G8, fun a9 H9 es9 l9 ha9 e9 G9 hl9 k9 hv9 hh9 hc9 => ?_⟩
    have ew := e_H8.keep2 G8 k9
    refine w_cat ew e9 (by first | omega | (simp only [List.length_append, List.length_cons, List.length_nil, W1_len]; omega)) fun p10 h_p10 => ?_
    have s_H10 := sameUpd (o := .lst ((fs ++ W1 "[" ++ es9).map V.str)) h_p10
    have e_H10 : WL (upd H9 p10 (.lst ((fs ++ W1 "[" ++ es9).map V.str))) p10 (fs ++ W1 "[" ++ es9) := upd_same
    generalize upd H9 p10 (.lst ((fs ++ W1 "[" ++ es9).map V.str)) = H10 at s_H10 e_H10 ⊢
    walk_at "w"
    refine ⟨by show 1 ≤ sizeLine; decide, fun p11 h_p11 => ?_⟩
    have s_H11 : Same H10 (upd H10 p11 (.lst [V.str "]"])) := sameUpd h_p11
    have e_H11 : WL (upd H10 p11 (.lst [V.str "]"])) p11 (W1 "]") := upd_same
    generalize upd H10 p11 (.lst [V.str "]"]) = H11 at s_H11 e_H11 ⊢
    have kk := ((k5.trans (.ofS (s_H7.trans s_H8))).trans k9).trans (.ofS (s_H10.trans s_H11))
    have GG := G9.same (s_H10.trans s_H11)
    refine w_cat (e_H10.same s_H11) e_H11 (by first | omega | (simp only [List.length_append, List.length_cons, List.length_nil, W1_len]; omega)) fun p12 h_p12 => ?_
    have s_H12 := sameUpd (o := .lst ((fs ++ W1 "[" ++ es9 ++ W1 "]").map V.str)) h_p12
    have e_H12 : WL (upd H11 p12 (.lst ((fs ++ W1 "[" ++ es9 ++ W1 "]").map V.str))) p12 (fs ++ W1 "[" ++ es9 ++ W1 "]") := upd_same
    generalize upd H11 p12 (.lst ((fs ++ W1 "[" ++ es9 ++ W1 "]").map V.str)) = H12 at s_H12 e_H12 ⊢
    exact q p12 H12 _ l9 (fresh2 kk GG h_p12) e_H12 (GG.same s_H12) (by omega) (kk.trans (.ofS s_H12)) (((hv5.app (.one (by decide +kernel))).app hv9).app (.one (by decide +kernel))) (((hh5.app (.one (by decide +kernel))).app hh9.hd).app (.one (by decide +kernel))) (by simp only [List.length_append, W1_len]; omega)
end
end FE
namespace FE
open PySem L2 K01
section
variable {P : Program} {w : World} {K : PySem.W.Frag} {mg : Str → Option Value} {base : Heap} {m r : Nat}
theorem ok_law_row (T : Txw mg) {f : Addr} {fd : FuncData} (F : FnP K "_law_row" s_law_row f fd) (hm : 9 ≤ m) (D_law_draw : Cal P w K mg base CX0 2 "_law_draw" P_law_draw spDraw) (D_law_name : Cal P w K mg base CX0 3 "_law_name" P_law_name spName9)
    (D_law_e : Cal P w K mg base CX0 m "_law_e" P_law_e (spE9 r)) (D_law_rows : Cal P w K mg base CX0 m "_law_rows" P_law_rows (spRows9 r)) :
    FnOk P w K mg base CX0 (m + 1) f fd P_law_row (spRow9 r) := by
  refine F.ok sc_law_row (fun vs H Q E h => ?_) (fun cdv A outer s H vs Q E hr h => ?_)
  · obtain ⟨f, s, b, l, i, rfl, _⟩ := h
    rfl
  · obtain ⟨f, s, b, l, i, rfl, hi, G, q⟩ := h
    have hr0 := hr.mono hm
    refine ⟨_, PSs.nox (pss_cons (ps_augS (pv 1) pe_int get_listN pe_int ip_sub set_list)
  (pss_cons (ps_set (i := 3) sc_law_row.nd rfl (Or.inl rfl) (pe_cal D_law_draw hr (Nat.ble_eq_true_of_le (by omega)) rfl pass0 (pa_cons (pv 0) (pa_cons pe_int pa_nil))))
  (pss_cons (ps_if (pt_cmpR op_eq (pv 3) pe_int (nomark _)) (pss_one (ps_ret (pe_lst (pa_cons (pe_ix ix_list (pe_lst (pa_cons pe_str (pa_cons pe_str pa_nil))) (pe_cal D_law_draw hr (Nat.ble_eq_true_of_le (by omega)) rfl pass0 (pa_cons (pv 0) (pa_cons pe_int pa_nil))) (fun _ _ => rfl)) (pa_cons pe_str pa_nil))))) pss_nil)
  (pss_cons (ps_if (pt_cmpR op_eq (pv 3) pe_int (nomark _)) (pss_cons (ps_set (i := 4) sc_law_row.nd rfl (Or.inl rfl) (pe_cal D_law_rows hr (Nat.ble_eq_true_of_le (by omega)) rfl pass0 (pa_cons (pv 0) (pa_cons (pv 1) (pa_cons (pe_op op_sub (pv 2) pe_int) pa_nil)))))
  (pss_one (ps_ret (pe_op op_cat (pe_op op_cat (pe_op op_cat (pe_lst (pa_cons pe_str pa_nil)) (pv 4)) (pe_lst (pa_cons pe_str (pa_cons (pe_cal D_law_name hr (Nat.ble_eq_true_of_le (by omega)) rfl pass0 (pa_cons (pv 0) pa_nil)) pa_nil)))) (pe_cal D_law_rows hr (Nat.ble_eq_true_of_le (by omega)) rfl pass0 (pa_cons (pv 0) (pa_cons (pv 1) (pa_cons (pe_op op_sub (pv 2) pe_int) pa_nil)))))))) pss_nil)
  (pss_cons (ps_set (i := 5) sc_law_row.nd rfl (Or.inl rfl) (pe_cal D_law_e hr (Nat.ble_eq_true_of_le (by omega)) rfl pass0 (pa_cons (pv 0) (pa_cons (pv 1) (pa_cons (pe_op op_sub (pv 2) pe_int) pa_nil)))))
  (pss_cons (ps_if (pt_cmpR op_lt (pv 3) pe_int (nomark _)) (pss_one (ps_ret (pe_op op_cat (pe_op op_cat (pe_lst (pa_cons pe_str (pa_cons (pe_cal D_law_name hr (Nat.ble_eq_true_of_le (by omega)) rfl pass0 (pa_cons (pv 0) pa_nil)) (pa_cons pe_str pa_nil)))) (pv 5)) (pe_lst (pa_cons pe_str pa_nil))))) pss_nil)
  (pss_cons (ps_if (pt_cmpR op_lt (pv 3) pe_int (nomark _)) (pss_one (ps_ret (pe_op op_cat (pe_op op_cat (pe_lst (pa_cons (pe_ix ix_list (pe_lst (pa_cons pe_str (pa_cons pe_str (pa_cons pe_str pa_nil)))) (pe_op op_sub (pv 3) pe_int) (fun _ _ => rfl)) pa_nil)) (pv 5)) (pe_lst (pa_cons pe_str pa_nil))))) pss_nil)
  (pss_cons (ps_if (pt_cmpR op_eq (pv 3) pe_int (nomark _)) (pss_one (ps_ret (pe_op op_cat (pe_op op_cat (pe_op op_cat (pv 5) (pe_lst (pa_cons pe_str pa_nil))) (pe_cal D_law_e hr (Nat.ble_eq_true_of_le (by omega)) rfl pass0 (pa_cons (pv 0) (pa_cons (pv 1) (pa_cons (pe_op op_sub (pv 2) pe_int) pa_nil))))) (pe_lst (pa_cons pe_str pa_nil))))) pss_nil)
  (pss_cons (ps_if (pt_cmpR op_eq (pv 3) pe_int (nomark _)) (pss_one (ps_ret (pe_op op_cat (pe_op op_cat (pe_lst (pa_cons pe_str pa_nil)) (pv 5)) (pe_cal D_law_rows hr (Nat.ble_eq_true_of_le (by omega)) rfl pass0 (pa_cons (pv 0) (pa_cons (pv 1) (pa_cons (pe_op op_sub (pv 2) pe_int) pa_nil))))))) pss_nil)
  (pss_cons (ps_if (pt_cmpR op_eq (pv 3) pe_int (nomark _)) (pss_cons (ps_set (i := 5) sc_law_row.nd rfl (Or.inl rfl) (pe_op op_cat (pe_op op_cat (pe_lst (pa_cons pe_str pa_nil)) (pv 5)) (pe_cal D_law_rows hr (Nat.ble_eq_true_of_le (by omega)) rfl pass0 (pa_cons (pv 0) (pa_cons (pv 1) (pa_cons (pe_op op_sub (pv 2) pe_int) pa_nil))))))
  (pss_one (ps_ret (pe_op op_cat (pv 5) (pe_ifExp (pt_cmpR op_eq (pe_cal D_law_draw hr (Nat.ble_eq_true_of_le (by omega)) rfl pass0 (pa_cons (pv 0) (pa_cons pe_int pa_nil))) pe_int (nomark _)) (pe_op op_cat (pe_lst (pa_cons pe_str pa_nil)) (pe_cal D_law_rows hr (Nat.ble_eq_true_of_le (by omega)) rfl pass0 (pa_cons (pv 0) (pa_cons (pv 1) (pa_cons (pe_op op_sub (pv 2) pe_int) pa_nil))))) (pe_lst pa_nil)))))) pss_nil)
  (pss_one (ps_ret (pe_op op_cat (pv 5) (pe_lst (pa_cons pe_str pa_nil))))))))))))))), ?_⟩
    walk_at "w"
    refine w_augS ?_
    walk_at "w"
    refine ⟨b, _, 0, .int l, rfl, rfl, .of G.bud, rfl, ?_⟩
    walk_at "w"
    refine ⟨l, 1, rfl, rfl, b, _, 0, 0, rfl, rfl, G.bud, rfl, ?_⟩
    obtain ⟨G1, k1⟩ := G.dec
    have hle := G.le
    generalize upd H b (.lst ([V.int l].set 0 (V.int (l - 1)))) = H1 at G1 k1 ⊢
    walk_at "w"
    refine ⟨f, s, 11, rfl, G1.fl, by decide, by decide, fun d H2 d0 d1 F2 kf2 => ?_⟩
    have G2 := G1.keep kf2 F2
    have k2 := k1.trans (.ofF kf2)
    have hi1 : i - 1 = (r : Int) := by omega
    walk_at "w"
    by_cases c0 : d = 0
    · rw [decide_eq_true c0]
      walk_at "w"
      refine ⟨by show 2 ≤ sizeLine; decide, fun p5 hp5 => ?_⟩
      have s5 := sameUpd (o := .lst ((["break", "continue"] : List Str).map V.str)) hp5
      have e5 : WL (upd H2 p5 (.lst ((["break", "continue"] : List Str).map V.str))) p5 ["break", "continue"] := upd_same
      change tCall _ _ _ _ _ (upd H2 p5 (.lst ((["break", "continue"] : List Str).map V.str))) _
      generalize upd H2 p5 (.lst ((["break", "continue"] : List Str).map V.str)) = H5 at s5 e5 ⊢
      have G5 := G2.same s5
      walk_at "w"
      refine ⟨f, s, 2, rfl, G5.fl, by decide, by decide, fun y H6 y0 y1 F6 kf6 => ?_⟩
      have G6 := G5.keep kf6 F6
      refine pickW (e5.keep G5.fl kf6) rfl y0 y1 fun z hz => ?_
      have hz2 : z ∈ VOC ∧ z ≠ "else" := (by decide +kernel : ∀ z ∈ (["break", "continue"] : List Str), z ∈ VOC ∧ z ≠ "else") z hz
      walk_at "w"
      have kk := (k2.trans (.ofS s5)).trans (.ofF kf6)
      refine ⟨by show 2 ≤ sizeLine; decide, fun p7 h_p7 => ?_⟩
      have s_H7 : Same H6 (upd H6 p7 (.lst [V.str z, V.str ";"])) := sameUpd h_p7
      have e_H7 : WL (upd H6 p7 (.lst [V.str z, V.str ";"])) p7 (W1 z ++ W1 ";") := upd_same
      generalize upd H6 p7 (.lst [V.str z, V.str ";"]) = H7 at s_H7 e_H7 ⊢
      exact q p7 H7 _ (l - 1) (fresh2 kk G6 h_p7) e_H7 (G6.same s_H7) (by omega) (kk.trans (.ofS s_H7)) ((Voc.one hz2.1).app (.one (by decide +kernel))) (.one hz2.2 (.one (by decide +kernel))) (by simp only [List.length_append, W1_len]; omega)
    rw [decide_eq_false c0]
    walk_at "w"
    by_cases c1 : d = 1
    · rw [decide_eq_true c1]
      walk_at "w"
      refine ⟨f, s, b, l - 1, i - 1, rfl, hi1, G2, fun a3 H3 rs l3 ha3 e3 G3 hl3 k3 hv3 hh3 hc3 => ?_⟩
      walk_at "w"
      refine ⟨by show 1 ≤ sizeLine; decide, fun p4 h_p4 => ?_⟩
      have s_H4 : Same H3 (upd H3 p4 (.lst [V.str "try"])) := sameUpd h_p4
      have e_H4 : WL (upd H3 p4 (.lst [V.str "try"])) p4 (W1 "try") := upd_same
      generalize upd H3 p4 (.lst [V.str "try"]) = H4 at s_H4 e_H4 ⊢
      walk_at "w"
      refine w_cat e_H4 (e3.same s_H4) (by first | omega | (simp only [List.length_append, List.length_cons, List.length_nil, W1_len]; omega)) fun p5 h_p5 => ?_
      have s_H5 := sameUpd (o := .lst ((W1 "try" ++ rs).map V.str)) h_p5
      have e_H5 : WL (upd H4 p5 (.lst ((W1 "try" ++ rs).map V.str))) p5 (W1 "try" ++ rs) := upd_same
      generalize upd H4 p5 (.lst ((W1 "try" ++ rs).map V.str)) = H5 at s_H5 e_H5 ⊢
      have G5 := G3.same (s_H4.trans s_H5)
      walk_at "w"
      refine ⟨f, s, rfl, G5.fl, fun z H6 hz F6 kf6 => ?_⟩
      have G6 := G5.keep kf6 F6
      have e6 := e_H5.keep G5.fl kf6
      walk_at "w"
      refine ⟨by show 2 ≤ sizeLine; decide, fun p7 h_p7 => ?_⟩
      have s_H7 : Same H6 (upd H6 p7 (.lst [V.str "catch", V.str z])) := sameUpd h_p7
      have e_H7 : WL (upd H6 p7 (.lst [V.str "catch", V.str z])) p7 (W1 "catch" ++ W1 z) := upd_same
      generalize upd H6 p7 (.lst [V.str "catch", V.str z]) = H7 at s_H7 e_H7 ⊢
      refine w_cat (e6.same s_H7) e_H7 (by first | omega | (simp only [List.length_append, List.length_cons, List.length_nil, W1_len]; omega)) fun p8 h_p8 => ?_
      have s_H8 := sameUpd (o := .lst ((W1 "try" ++ rs ++ (W1 "catch" ++ W1 z)).map V.str)) h_p8
      have e_H8 : WL (upd H7 p8 (.lst ((W1 "try" ++ rs ++ (W1 "catch" ++ W1 z)).map V.str))) p8 (W1 "try" ++ rs ++ (W1 "catch" ++ W1 z)) := upd_same
      generalize upd H7 p8 (.lst ((W1 "try" ++ rs ++ (W1 "catch" ++ W1 z)).map V.str)) = H8 at s_H8 e_H8 ⊢
      have G8 := G6.same (s_H7.trans s_H8)
      have k8 := (((k2.trans k3).trans (.ofS (s_H4.trans s_H5))).trans (.ofF kf6)).trans (.ofS (s_H7.trans s_H8))
      walk_at "w"
      refine ⟨f, s, b, l3, i - 1, rfl, hi1, G8, fun a9 H9 es9 l9 ha9 e9 G9 hl9 k9 hv9 hh9 hc9 => ?_⟩
      have ew := e_H8.keep2 G8 k9
      have kk := k8.trans k9
      refine w_cat ew e9 (by first | omega | (simp only [List.length_append, List.length_cons, List.length_nil, W1_len]; omega)) fun p10 h_p10 => ?_
      have s_H10 := sameUpd (o := .lst ((W1 "try" ++ rs ++ (W1 "catch" ++ W1 z) ++ es9).map V.str)) h_p10
      have e_H10 : WL (upd H9 p10 (.lst ((W1 "try" ++ rs ++ (W1 "catch" ++ W1 z) ++ es9).map V.str))) p10 (W1 "try" ++ rs ++ (W1 "catch" ++ W1 z) ++ es9) := upd_same
      generalize upd H9 p10 (.lst ((W1 "try" ++ rs ++ (W1 "catch" ++ W1 z) ++ es9).map V.str)) = H10 at s_H10 e_H10 ⊢
      exact q p10 H10 _ l9 (fresh2 kk G9 h_p10) e_H10 (G9.same s_H10) (by omega) (kk.trans (.ofS s_H10)) ((((Voc.one (by decide +kernel)).app hv3).app ((Voc.one (by decide +kernel)).app (.one (names_voc hz)))).app hv9) (((HeadOk.one (by decide +kernel) hh3.hd).app (.one (by decide +kernel))).app hh9.hd) (by simp only [List.length_append, W1_len]; omega)
    rw [decide_eq_false c1]
    walk_at "w"
    refine ⟨f, s, b, l - 1, i - 1, rfl, hi1, G2, fun a H4 es l4 ha e4 G4 hl4 k4 hv4 hh4 hc4 => ?_⟩
    have k24 := k2.trans k4
    walk_at "w"
    by_cases c2 : d < 4
    · rw [decide_eq_true c2]
      walk_at "w"
      refine ⟨f, s, rfl, G4.fl, fun z H6 hz F6 kf6 => ?_⟩
      have G6 := G4.keep kf6 F6
      have e6 := e4.keep G4.fl kf6
      walk_at "w"
      refine ⟨by show 3 ≤ sizeLine; decide, fun p7 h_p7 => ?_⟩
      have s_H7 : Same H6 (upd H6 p7 (.lst [V.str "var", V.str z, V.str "="])) := sameUpd h_p7
      have e_H7 : WL (upd H6 p7 (.lst [V.str "var", V.str z, V.str "="])) p7 (W1 "var" ++ W1 z ++ W1 "=") := upd_same
      generalize upd H6 p7 (.lst [V.str "var", V.str z, V.str "="]) = H7 at s_H7 e_H7 ⊢
      walk_at "w"
      refine w_cat e_H7 (e6.same s_H7) (by first | omega | (simp only [List.length_append, List.length_cons, List.length_nil, W1_len]; omega)) fun p8 h_p8 => ?_
      have s_H8 := sameUpd (o := .lst ((W1 "var" ++ W1 z ++ W1 "=" ++ es).map V.str)) h_p8
      have e_H8 : WL (upd H7 p8 (.lst ((W1 "var" ++ W1 z ++ W1 "=" ++ es).map V.str))) p8 (W1 "var" ++ W1 z ++ W1 "=" ++ es) := upd_same
      generalize upd H7 p8 (.lst ((W1 "var" ++ W1 z ++ W1 "=" ++ es).map V.str)) = H8 at s_H8 e_H8 ⊢
      walk_at "w"
      refine ⟨by show 1 ≤ sizeLine; decide, fun p9 h_p9 => ?_⟩
      have s_H9 : Same H8 (upd H8 p9 (.lst [V.str ";"])) := sameUpd h_p9
      have e_H9 : WL (upd H8 p9 (.lst [V.str ";"])) p9 (W1 ";") := upd_same
      generalize upd H8 p9 (.lst [V.str ";"]) = H9 at s_H9 e_H9 ⊢
      have kk := (k24.trans (.ofF kf6)).trans (.ofS (s_H7.trans (s_H8.trans s_H9)))
      have GG := G6.same (s_H7.trans (s_H8.trans s_H9))
      refine w_cat (e_H8.same s_H9) e_H9 (by first | omega | (simp only [List.length_append, List.length_cons, List.length_nil, W1_len]; omega)) fun p10 h_p10 => ?_
      have s_H10 := sameUpd (o := .lst ((W1 "var" ++ W1 z ++ W1 "=" ++ es ++ W1 ";").map V.str)) h_p10
      have e_H10 : WL (upd H9 p10 (.lst ((W1 "var" ++ W1 z ++ W1 "=" ++ es ++ W1 ";").map V.str))) p10 (W1 "var" ++ W1 z ++ W1 "=" ++ es ++ W1 ";") := upd_same
      generalize upd H9 p10 (.lst ((W1 "var" ++ W1 z ++ W1 "=" ++ es ++ W1 ";").map V.str)) = H10 at s_H10 e_H10 ⊢
      exact q p10 H10 _ l4 (fresh2 kk GG h_p10) e_H10 (GG.same s_H10) (by omega) (kk.trans (.ofS s_H10)) (((((Voc.one (by decide +kernel)).app (.one (names_voc hz))).app (.one (by decide +kernel))).app hv4).app (.one (by decide +kernel))) (.one (by decide +kernel) (.one (names_else hz))) (by simp only [List.length_append, W1_len]; omega)
    rw [decide_eq_false c2]
    walk_at "w"
    by_cases c3 : d < 7
    · rw [decide_eq_true c3]
      walk_at "w"
      refine ⟨by show 3 ≤ sizeLine; decide, fun p5 hp5 => ?_⟩
      have s5 := sameUpd (o := .lst ((["return", "throw", "say"] : List Str).map V.str)) hp5
      have e5 : WL (upd H4 p5 (.lst ((["return", "throw", "say"] : List Str).map V.str))) p5 ["return", "throw", "say"] := upd_same
      change tOp _ _ _ _ (upd H4 p5 (.lst ((["return", "throw", "say"] : List Str).map V.str))) _
      generalize upd H4 p5 (.lst ((["return", "throw", "say"] : List Str).map V.str)) = H5 at s5 e5 ⊢
      have G5 := G4.same s5
      walk_at "w"
      refine pickW (m := 3) e5 rfl (by omega) (by omega) fun z hz => ?_
      have hz2 : z ∈ VOC ∧ z ≠ "else" := (by decide +kernel : ∀ z ∈ (["return", "throw", "say"] : List Str), z ∈ VOC ∧ z ≠ "else") z hz
      walk_at "w"
      refine ⟨by show 1 ≤ sizeLine; decide, fun p7 h_p7 => ?_⟩
      have s_H7 : Same H5 (upd H5 p7 (.lst [V.str z])) := sameUpd h_p7
      have e_H7 : WL (upd H5 p7 (.lst [V.str z])) p7 (W1 z) := upd_same
      generalize upd H5 p7 (.lst [V.str z]) = H7 at s_H7 e_H7 ⊢
      walk_at "w"
      have e47 := (e4.same s5).same s_H7
      refine w_cat e_H7 e47 (by first | omega | (simp only [List.length_append, List.length_cons, List.length_nil, W1_len]; omega)) fun p8 h_p8 => ?_
      have s_H8 := sameUpd (o := .lst ((W1 z ++ es).map V.str)) h_p8
      have e_H8 : WL (upd H7 p8 (.lst ((W1 z ++ es).map V.str))) p8 (W1 z ++ es) := upd_same
      generalize upd H7 p8 (.lst ((W1 z ++ es).map V.str)) = H8 at s_H8 e_H8 ⊢
      walk_at "w"
      refine ⟨by show 1 ≤ sizeLine; decide, fun p9 h_p9 => ?_⟩
      have s_H9 : Same H8 (upd H8 p9 (.lst [V.str ";"])) := sameUpd h_p9
      have e_H9 : WL (upd H8 p9 (.lst [V.str ";"])) p9 (W1 ";") := upd_same
      generalize upd H8 p9 (.lst [V.str ";"]) = H9 at s_H9 e_H9 ⊢
      have kk := k24.trans (.ofS (s5.trans (s_H7.trans (s_H8.trans s_H9))))
      have GG := G4.same (s5.trans (s_H7.trans (s_H8.trans s_H9)))
      refine w_cat (e_H8.same s_H9) e_H9 (by first | omega | (simp only [List.length_append, List.length_cons, List.length_nil, W1_len]; omega)) fun p10 h_p10 => ?_
      have s_H10 := sameUpd (o := .lst ((W1 z ++ es ++ W1 ";").map V.str)) h_p10
      have e_H10 : WL (upd H9 p10 (.lst ((W1 z ++ es ++ W1 ";").map V.str))) p10 (W1 z ++ es ++ W1 ";") := upd_same
      generalize upd H9 p10 (.lst ((W1 z ++ es ++ W1 ";").map V.str)) = H10 at s_H10 e_H10 ⊢
      exact q p10 H10 _ l4 (fresh2 kk GG h_p10) e_H10 (GG.same s_H10) (by omega) (kk.trans (.ofS s_H10)) (((Voc.one hz2.1).app hv4).app (.one (by decide +kernel))) ((HeadOk.one hz2.2 hh4.hd).app (.one (by decide +kernel))) (by simp only [List.length_append, W1_len]; omega)
    rw [decide_eq_false c3]
    walk_at "w"
    by_cases c4 : d = 7
    · rw [decide_eq_true c4]
      walk_at "w"
      refine ⟨by show 1 ≤ sizeLine; decide, fun p7 h_p7 => ?_⟩
      have s_H7 : Same H4 (upd H4 p7 (.lst [V.str "="])) := sameUpd h_p7
      have e_H7 : WL (upd H4 p7 (.lst [V.str "="])) p7 (W1 "=") := upd_same
      generalize upd H4 p7 (.lst [V.str "="]) = H7 at s_H7 e_H7 ⊢
      refine w_cat (e4.same s_H7) e_H7 (by first | omega | (simp only [List.length_append, List.length_cons, List.length_nil, W1_len]; omega)) fun p8 h_p8 => ?_
      have s_H8 := sameUpd (o := .lst ((es ++ W1 "=").map V.str)) h_p8
      have e_H8 : WL (upd H7 p8 (.lst ((es ++ W1 "=").map V.str))) p8 (es ++ W1 "=") := upd_same
      generalize upd H7 p8 (.lst ((es ++ W1 "=").map V.str)) = H8 at s_H8 e_H8 ⊢
      have G8 := G4.same (s_H7.trans s_H8)
      walk_at "w"
      refine ⟨f, s, b, l4, i - 1, rfl, hi1, G8, fun a9 H9 es9 l9 ha9 e9 G9 hl9 k9 hv9 hh9 hc9 => ?_⟩
      have ew := e_H8.keep2 G8 k9
      refine w_cat ew e9 (by first | omega | (simp only [List.length_append, List.length_cons, List.length_nil, W1_len]; omega)) fun p10 h_p10 => ?_
      have s_H10 := sameUpd (o := .lst ((es ++ W1 "=" ++ es9).map V.str)) h_p10
      have e_H10 : WL (upd H9 p10 (.lst ((es ++ W1 "=" ++ es9).map V.str))) p10 (es ++ W1 "=" ++ es9) := upd_same
      generalize upd H9 p10 (.lst ((es ++ W1 "=" ++ es9).map V.str)) = H10 at s_H10 e_H10 ⊢
      walk_at "w"
      refine ⟨by show 1 ≤ sizeLine; decide, fun p11 h_p11 => ?_⟩
      have s_H11 : Same H10 (upd H10 p11 (.lst [V.str ";"])) := sameUpd h_p11
      have e_H11 : WL (upd H10 p11 (.lst [V.str ";"])) p11 (W1 ";") := upd_same
      generalize upd H10 p11 (.lst [V.str ";"]) = H11 at s_H11 e_H11 ⊢
      have kk := ((k24.trans (.ofS (s_H7.trans s_H8))).trans k9).trans (.ofS (s_H10.trans s_H11))
      have GG := G9.same (s_H10.trans s_H11)
      refine w_cat (e_H10.same s_H11) e_H11 (by first | omega | (simp only [List.length_append, List.length_cons, List.length_nil, W1_len]; omega)) fun p12 h_p12 => ?_
      have s_H12 := sameUpd (o := .lst ((es ++ W1 "=" ++ es9 ++ W1 ";").map V.str)) h_p12
      have e_H12 : WL (upd H11 p12 (.lst ((es ++ W1 "=" ++ es9 ++ W1 ";").map V.str))) p12 (es ++ W1 "=" ++ es9 ++ W1 ";") := upd_same
      generalize upd H11 p12 (.lst ((es ++ W1 "=" ++ es9 ++ W1 ";").map V.str)) = H12 at s_H12 e_H12 ⊢
      exact q p12 H12 _ l9 (fresh2 kk GG h_p12) e_H12 (GG.same s_H12) (by omega) (kk.trans (.ofS s_H12)) (((hv4.app (.one (by decide +kernel))).app hv9).app (.one (by decide +kernel))) (((hh4.app (.one (by decide +kernel))).app hh9.hd).app (.one (by decide +kernel))) (by simp only [List.length_append, W1_len]; omega)
    rw [decide_eq_false c4]
    walk_at "w"
    by_cases c5 : d = 8
    · rw [decide_eq_true c5]
      walk_at "w"
      refine ⟨by show 1 ≤ sizeLine; decide, fun p7 h_p7 => ?_⟩
      have s_H7 : Same H4 (upd H4 p7 (.lst [V.str "while"])) := sameUpd h_p7
      have e_H7 : WL (upd H4 p7 (.lst [V.str "while"])) p7 (W1 "while") := upd_same
      generalize upd H4 p7 (.lst [V.str "while"]) = H7 at s_H7 e_H7 ⊢
      walk_at "w"
      refine w_cat e_H7 (e4.same s_H7) (by first | omega | (simp only [List.length_append, List.length_cons, List.length_nil, W1_len]; omega)) fun p8 h_p8 => ?_
      have s_H8 := sameUpd (o := .lst ((W1 "while" ++ es).map V.str)) h_p8
      have e_H8 : WL (upd H7 p8 (.lst ((W1 "while" ++ es).map V.str))) p8 (W1 "while" ++ es) := upd_same
      generalize upd H7 p8 (.lst ((W1 "while" ++ es).map V.str)) = H8 at s_H8 e_H8 ⊢
      have G8 := G4.same (s_H7.trans s_H8)
      walk_at "w"
      refine ⟨f, s, b, l4, i - 1, rfl, hi1, G8, fun a9 H9 es9 l9 ha9 e9 G9 hl9 k9 hv9 hh9 hc9 => ?_⟩
      have ew := e_H8.keep2 G8 k9
      have kk := (k24.trans (.ofS (s_H7.trans s_H8))).trans k9
      refine w_cat ew e9 (by first | omega | (simp only [List.length_append, List.length_cons, List.length_nil, W1_len]; omega)) fun p10 h_p10 => ?_
      have s_H10 := sameUpd (o := .lst ((W1 "while" ++ es ++ es9).map V.str)) h_p10
      have e_H10 : WL (upd H9 p10 (.lst ((W1 "while" ++ es ++ es9).map V.str))) p10 (W1 "while" ++ es ++ es9) := upd_same
      generalize upd H9 p10 (.lst ((W1 "while" ++ es ++ es9).map V.str)) = H10 at s_H10 e_H10 ⊢
      exact q p10 H10 _ l9 (fresh2 kk G9 h_p10) e_H10 (G9.same s_H10) (by omega) (kk.trans (.ofS s_H10)) (((Voc.one (by decide +kernel)).app hv4).app hv9) ((HeadOk.one (by decide +kernel) hh4.hd).app hh9.hd) (by simp only [List.length_append, W1_len]; omega)
    rw [decide_eq_false c5]
    walk_at "w"
    by_cases c6 : d = 9
    · rw [decide_eq_true c6]
      walk_at "w"
      refine ⟨by show 1 ≤ sizeLine; decide, fun p7 h_p7 => ?_⟩
      have s_H7 : Same H4 (upd H4 p7 (.lst [V.str "if"])) := sameUpd h_p7
      have e_H7 : WL (upd H4 p7 (.lst [V.str "if"])) p7 (W1 "if") := upd_same
      generalize upd H4 p7 (.lst [V.str "if"]) = H7 at s_H7 e_H7 ⊢
      walk_at "w"
      refine w_cat e_H7 (e4.same s_H7) (by first | omega | (simp only [List.length_append, List.length_cons, List.length_nil, W1_len]; omega)) fun p8 h_p8 => ?_
      have s_H8 := sameUpd (o := .lst ((W1 "if" ++ es).map V.str)) h_p8
      have e_H8 : WL (upd H7 p8 (.lst ((W1 "if" ++ es).map V.str))) p8 (W1 "if" ++ es) := upd_same
      generalize upd H7 p8 (.lst ((W1 "if" ++ es).map V.str)) = H8 at s_H8 e_H8 ⊢
      have G8 := G4.same (s_H7.trans s_H8)
      walk_at "w"
      refine ⟨f, s, b, l4, i - 1, rfl, hi1, G8, fun a9 H9 es9 l9 ha9 e9 G9 hl9 k9 hv9 hh9 hc9 => ?_⟩
      have ew := e_H8.keep2 G8 k9
      have k9' := (k24.trans (.ofS (s_H7.trans s_H8))).trans k9
      refine w_cat ew e9 (by first | omega | (simp only [List.length_append, List.length_cons, List.length_nil, W1_len]; omega)) fun p10 h_p10 => ?_
      have s_H10 := sameUpd (o := .lst ((W1 "if" ++ es ++ es9).map V.str)) h_p10
      have e_H10 : WL (upd H9 p10 (.lst ((W1 "if" ++ es ++ es9).map V.str))) p10 (W1 "if" ++ es ++ es9) := upd_same
      generalize upd H9 p10 (.lst ((W1 "if" ++ es ++ es9).map V.str)) = H10 at s_H10 e_H10 ⊢
      have G10 := G9.same s_H10
      have k10 := k9'.trans (.ofS s_H10)
      have hv10 := ((Voc.one (x := "if") (by decide +kernel)).app hv4).app hv9
      have hh10 : HeadOk (W1 "if" ++ es ++ es9) := (HeadOk.one (by decide +kernel) hh4.hd).app hh9.hd
      walk_at "w"
      refine ⟨f, s, 2, rfl, G10.fl, by decide, by decide, fun y H11 y0 y1 F11 kf11 => ?_⟩
      have G11 := G10.keep kf11 F11
      have e11 := e_H10.keep G10.fl kf11
      have k11 := k10.trans (.ofF kf11)
      walk_at "w"
      by_cases cy : y = 1
      · rw [decide_eq_true cy]
        walk_at "w"
        refine ⟨by show 1 ≤ sizeLine; decide, fun p12 h_p12 => ?_⟩
        have s_H12 : Same H11 (upd H11 p12 (.lst [V.str "else"])) := sameUpd h_p12
        have e_H12 : WL (upd H11 p12 (.lst [V.str "else"])) p12 (W1 "else") := upd_same
        generalize upd H11 p12 (.lst [V.str "else"]) = H12 at s_H12 e_H12 ⊢
        walk_at "w"
        refine ⟨f, s, b, l9, i - 1, rfl, hi1, G11.same s_H12, fun a13 H13 es13 l13 ha13 e13 G13 hl13 k13 hv13 hh13 hc13 => ?_⟩
        have ew13 := e_H12.keep2 (G11.same s_H12) k13
        have e1113 := (e11.same s_H12).keep2 (G11.same s_H12) k13
        have kk := (k11.trans (.ofS s_H12)).trans k13
        refine w_cat ew13 e13 (by first | omega | (simp only [List.length_append, List.length_cons, List.length_nil, W1_len]; omega)) fun p14 h_p14 => ?_
        have s_H14 := sameUpd (o := .lst ((W1 "else" ++ es13).map V.str)) h_p14
        have e_H14 : WL (upd H13 p14 (.lst ((W1 "else" ++ es13).map V.str))) p14 (W1 "else" ++ es13) := upd_same
        generalize upd H13 p14 (.lst ((W1 "else" ++ es13).map V.str)) = H14 at s_H14 e_H14 ⊢
        have kk2 := kk.trans (.ofS s_H14)
        have G14 := G13.same s_H14
        refine w_cat (e1113.same s_H14) e_H14 (by first | omega | (simp only [List.length_append, List.length_cons, List.length_nil, W1_len]; omega)) fun p15 h_p15 => ?_
        have s_H15 := sameUpd (o := .lst ((W1 "if" ++ es ++ es9 ++ (W1 "else" ++ es13)).map V.str)) h_p15
        have e_H15 : WL (upd H14 p15 (.lst ((W1 "if" ++ es ++ es9 ++ (W1 "else" ++ es13)).map V.str))) p15 (W1 "if" ++ es ++ es9 ++ (W1 "else" ++ es13)) := upd_same
        generalize upd H14 p15 (.lst ((W1 "if" ++ es ++ es9 ++ (W1 "else" ++ es13)).map V.str)) = H15 at s_H15 e_H15 ⊢
        refine q p15 H15 _ l13 (fresh2 kk2 G14 h_p15) e_H15 (G14.same s_H15) (by omega) (kk2.trans (.ofS s_H15)) (hv10.app ((Voc.one (by decide +kernel)).app hv13)) ?_ (by simp only [List.length_append, W1_len]; omega)
        obtain ⟨x, r', he, hx, hr'⟩ := hh4
        subst he
        exact .one (by decide +kernel) (.one hx)
      · rw [decide_eq_false cy]
        walk_at "w"
        refine ⟨by show 0 ≤ sizeLine; decide, fun p12 h_p12 => ?_⟩
        have s_H12 : Same H11 (upd H11 p12 (.lst [])) := sameUpd h_p12
        have e_H12 : WL (upd H11 p12 (.lst [])) p12 (([] : List Str)) := upd_same
        generalize upd H11 p12 (.lst []) = H12 at s_H12 e_H12 ⊢
        have kk := k11.trans (.ofS s_H12)
        refine w_cat (e11.same s_H12) e_H12 (by first | omega | (simp only [List.length_append, List.length_cons, List.length_nil, W1_len]; omega)) fun p13 h_p13 => ?_
        have s_H13 := sameUpd (o := .lst ((W1 "if" ++ es ++ es9 ++ ([] : List Str)).map V.str)) h_p13
        have e_H13 : WL (upd H12 p13 (.lst ((W1 "if" ++ es ++ es9 ++ ([] : List Str)).map V.str))) p13 (W1 "if" ++ es ++ es9 ++ ([] : List Str)) := upd_same
        generalize upd H12 p13 (.lst ((W1 "if" ++ es ++ es9 ++ ([] : List Str)).map V.str)) = H13 at s_H13 e_H13 ⊢
        exact q p13 H13 _ l9 (fresh2 kk (G11.same s_H12) h_p13) e_H13 (G11.same (s_H12.trans s_H13)) (by omega) (kk.trans (.ofS s_H13)) (hv10.app .nil) (hh10.app .nil) (by simp only [List.length_append, W1_len, List.length_nil]; omega)
    rw [decide_eq_false c6]
    walk_at "w"
    refine ⟨by show 1 ≤ sizeLine; decide, fun p9 h_p9 => ?_⟩
    have s_H9 : Same H4 (upd H4 p9 (.lst [V.str ";"])) := sameUpd h_p9
    have e_H9 : WL (upd H4 p9 (.lst [V.str ";"])) p9 (W1 ";") := upd_same
    generalize upd H4 p9 (.lst [V.str ";"]) = H9 at s_H9 e_H9 ⊢
    have kk := k24.trans (.ofS s_H9)
    have GG := G4.same s_H9
    refine w_cat (e4.same s_H9) e_H9 (by first | omega | (simp only [List.length_append, List.length_cons, List.length_nil, W1_len]; omega)) fun p10 h_p10 => ?_
    have s_H10 := sameUpd (o := .lst ((es ++ W1 ";").map V.str)) h_p10
    have e_H10 : WL (upd H9 p10 (.lst ((es ++ W1 ";").map V.str))) p10 (es ++ W1 ";") := upd_same
    generalize upd H9 p10 (.lst ((es ++ W1 ";").map V.str)) = H10 at s_H10 e_H10 ⊢
    exact q p10 H10 _ l4 (fresh2 kk GG h_p10) e_H10 (GG.same s_H10) (by omega) (kk.trans (.ofS s_H10)) (hv4.app (.one (by decide +kernel))) (hh4.app (.one (by decide +kernel))) (by simp only [List.length_append, W1_len]; omega)
end
end FE
namespace FE
open PySem L2 K01
abbrev s_law_item : Stmt := top 79
abbrev N_law_item : List Str := ["flow", "left", "room", "way", "found", "k"]
abbrev P_law_item : List Str := ["flow", "left", "room"]
theorem sc_law_item : FnScope N_law_item P_law_item (defScope s_law_item) := ⟨rfl, rfl, rfl, by decide +kernel, rfl, by decide +kernel, by decide +kernel⟩
section
variable {P : Program} {w : World} {K : PySem.W.Frag} {mg : Str → Option Value} {base : Heap} {m r : Nat}
theorem calLe {CX : CXT} {x : Str} {ps : List Str} {sp : Sp} {j k : Nat} (h : Cal P w K mg base CX j x ps sp) (l : j ≤ k) : Cal P w K mg base CX k x ps sp := by
  obtain ⟨f, fd, F, h1, h2, h3⟩ := h
  exact ⟨f, fd, F.mono l, h1, h2, h3⟩
structure GenF (K : PySem.W.Frag) (mg : Str → Option Value) : Prop where
  e : Fx K mg "_law_e" s_law_e P_law_e
  some : Fx K mg "_law_some" s_law_some P_law_some
  rows : Fx K mg "_law_rows" s_law_rows P_law_rows
  row : Fx K mg "_law_row" s_law_row P_law_row
structure GenL (P : Program) (w : World) (K : PySem.W.Frag) (mg : Str → Option Value) (base : Heap) (m r : Nat) : Prop where
  e : Cal P w K mg base CX0 (m + 1) "_law_e" P_law_e (spE9 r)
  some : Cal P w K mg base CX0 (m + 2) "_law_some" P_law_some (spSome9 r)
  rows : Cal P w K mg base CX0 (m + 1) "_law_rows" P_law_rows (spRows9 r)
  row : Cal P w K mg base CX0 (m + 2) "_law_row" P_law_row (spRow9 r)
theorem no_fn {f : Addr} {fd : FuncData} {ps : List Str} {k : Nat} : FnOk P w K mg base CX0 k f fd ps (fun _ _ _ _ => False) := ⟨fun _ _ _ _ h => h.elim, fun _ _ _ _ _ _ _ _ _ _ _ _ _ h => h.elim⟩
theorem gen1 (T : Txw mg) (GF : GenF K mg) (D_law_draw : Cal P w K mg base CX0 2 "_law_draw" P_law_draw spDraw) (D_law_name : Cal P w K mg base CX0 3 "_law_name" P_law_name spName9) (D_law_atom : Cal P w K mg base CX0 4 "_law_atom" P_law_atom spAtom9) (D_law_called : Cal P w K mg base CX0 4 "_law_called" P_law_called spCalled9) (hm : 9 ≤ m)
    (pe : Cal P w K mg base CX0 m "_law_e" P_law_e (pre spE9 r)) (ps : Cal P w K mg base CX0 m "_law_some" P_law_some (pre spSome9 r)) (pw : Cal P w K mg base CX0 m "_law_rows" P_law_rows (pre spRows9 r)) (po : Cal P w K mg base CX0 m "_law_row" P_law_row (pre spRow9 r)) : GenL P w K mg base m r := by
  have e := GF.e.k (k := m + 1) fun F => ok_law_e (base := base) T F hm D_law_draw D_law_name D_law_atom D_law_called pe ps pw
  have rows := GF.rows.k (k := m + 1) fun F => ok_law_rows (base := base) T F hm D_law_draw po
  have some := GF.some.k (k := m + 2) fun F => ok_law_some (base := base) T F (Nat.le_succ_of_le hm) D_law_draw e
  have row := GF.row.k (k := m + 2) fun F => ok_law_row (base := base) T F (Nat.le_succ_of_le hm) D_law_draw D_law_name e rows
  exact ⟨e, some, rows, row⟩
theorem gens (T : Txw mg) (GF : GenF K mg) (D_law_draw : Cal P w K mg base CX0 2 "_law_draw" P_law_draw spDraw) (D_law_name : Cal P w K mg base CX0 3 "_law_name" P_law_name spName9) (D_law_atom : Cal P w K mg base CX0 4 "_law_atom" P_law_atom spAtom9) (D_law_called : Cal P w K mg base CX0 4 "_law_called" P_law_called spCalled9) : ∀ r, GenL P w K mg base (9 + 2 * r) r
  | 0 => gen1 T GF D_law_draw D_law_name D_law_atom D_law_called (Nat.le_refl _) (GF.e.k fun _ => no_fn) (GF.some.k fun _ => no_fn) (GF.rows.k fun _ => no_fn) (GF.row.k fun _ => no_fn)
  | r + 1 => by
    have g := gens T GF D_law_draw D_law_name D_law_atom D_law_called r
    exact gen1 (m := 9 + 2 * (r + 1)) T GF D_law_draw D_law_name D_law_atom D_law_called (by omega) (calLe g.e (by omega)) (calLe g.some (by omega)) (calLe g.rows (by omega)) (calLe g.row (by omega))
def spItem9 : Sp := fun vs H Q _ => ∃ f s b l, vs = [.ref f, .ref b, .int 5] ∧ Gs H f s b l ∧ Out H f s b l (40 + 32 * l.toNat) HeadOk Q
theorem ok_law_item (T : Txw mg) {f : Addr} {fd : FuncData} (F : FnP K "_law_item" s_law_item f fd) (D_law_draw : Cal P w K mg base CX0 2 "_law_draw" P_law_draw spDraw) (D_law_name : Cal P w K mg base CX0 3 "_law_name" P_law_name spName9) (D_law_called : Cal P w K mg base CX0 4 "_law_called" P_law_called spCalled9)
    (D_law_row : Cal P w K mg base CX0 20 "_law_row" P_law_row (spRow9 4)) (D_law_rows : Cal P w K mg base CX0 20 "_law_rows" P_law_rows (spRows9 5)) :
    FnOk P w K mg base CX0 21 f fd P_law_item spItem9 := by
  refine F.ok sc_law_item (fun vs H Q E h => ?_) (fun cdv A outer s H vs Q E hr h => ?_)
  · obtain ⟨f, s, b, l, rfl, _⟩ := h
    rfl
  · obtain ⟨f, s, b, l, rfl, G, q⟩ := h
    have hle := G.le
    refine ⟨_, PSs.nox (pss_cons (ps_set (i := 3) sc_law_item.nd rfl (Or.inl rfl) (pe_cal D_law_draw hr rfl rfl pass0 (pa_cons (pv 0) (pa_cons pe_int pa_nil))))
  (pss_cons (ps_if (pt_cmpR op_eq (pv 3) pe_int (nomark _)) (pss_one (ps_ret (pe_op op_cat (pe_op op_cat (pe_lst (pa_cons pe_str (pa_cons (pe_cal D_law_name hr rfl rfl pass0 (pa_cons (pv 0) pa_nil)) pa_nil))) (pe_cal D_law_called hr rfl rfl pass0 (pa_cons (pv 0) pa_nil))) (pe_cal D_law_rows hr (Nat.ble_eq_true_of_le (by omega)) rfl pass0 (pa_cons (pv 0) (pa_cons (pv 1) (pa_cons (pv 2) pa_nil))))))) pss_nil)
  (pss_cons (ps_if (pt_cmpR op_gt (pv 3) pe_int (nomark _)) (pss_one (ps_ret (pe_cal D_law_row hr (Nat.ble_eq_true_of_le (by omega)) rfl pass0 (pa_cons (pv 0) (pa_cons (pv 1) (pa_cons (pv 2) pa_nil)))))) pss_nil)
  (pss_cons (ps_set (i := 4) sc_law_item.nd rfl (Or.inl rfl) (pe_op op_cat (pe_op op_cat (pe_lst (pa_cons pe_str (pa_cons (pe_cal D_law_name hr rfl rfl pass0 (pa_cons (pv 0) pa_nil)) pa_nil))) (pe_ifExp (pt_cmpR op_eq (pe_cal D_law_draw hr rfl rfl pass0 (pa_cons (pv 0) (pa_cons pe_int pa_nil))) pe_int (nomark _)) (pe_lst (pa_cons pe_str (pa_cons (pe_cal D_law_name hr rfl rfl pass0 (pa_cons (pv 0) pa_nil)) pa_nil))) (pe_lst pa_nil))) (pe_lst (pa_cons pe_str pa_nil))))
  (pss_cons (ps_for PassesOwn.never rfl (pi_range1 (by rfl) T.f_range (pa_cons (pe_cal D_law_draw hr rfl rfl pass0 (pa_cons (pv 0) (pa_cons pe_int pa_nil))) pa_nil)) (pg_name (i := 5) sc_law_item.nd rfl (Or.inl rfl)) (pss_one (ps_set (i := 4) sc_law_item.nd rfl (Or.inl rfl) (pe_op op_cat (pv 4) (pe_lst (pa_cons (pe_cal D_law_name hr rfl rfl pass0 (pa_cons (pv 0) pa_nil)) (pa_cons pe_str pa_nil)))))))
  (pss_cons (ps_for PassesOwn.never rfl (pi_range1 (by rfl) T.f_range (pa_cons (pe_cal D_law_draw hr rfl rfl pass0 (pa_cons (pv 0) (pa_cons pe_int pa_nil))) pa_nil)) (pg_name (i := 5) sc_law_item.nd rfl (Or.inl rfl)) (pss_one (ps_set (i := 4) sc_law_item.nd rfl (Or.inl rfl) (pe_op op_cat (pe_op op_cat (pe_op op_cat (pv 4) (pe_lst (pa_cons (pe_cal D_law_name hr rfl rfl pass0 (pa_cons (pv 0) pa_nil)) pa_nil))) (pe_cal D_law_called hr rfl rfl pass0 (pa_cons (pv 0) pa_nil))) (pe_cal D_law_rows hr (Nat.ble_eq_true_of_le (by omega)) rfl pass0 (pa_cons (pv 0) (pa_cons (pv 1) (pa_cons (pv 2) pa_nil))))))))
  (pss_one (ps_ret (pe_op op_cat (pv 4) (pe_lst (pa_cons pe_str pa_nil))))))))))), ?_⟩
    walk_at "w"
    refine ⟨f, s, 6, rfl, G.fl, by decide, by decide, fun d H2 d0 d1 F2 kf2 => ?_⟩
    have G2 := G.keep kf2 F2
    have k2 : Keep2 f b H H2 := .ofF kf2
    walk_at "w"
    by_cases c0 : d = 0
    · rw [decide_eq_true c0]
      walk_at "w"
      refine ⟨f, s, rfl, F2, fun z H3 hz F3 kf3 => ?_⟩
      have G3 := G2.keep kf3 F3
      walk_at "w"
      refine ⟨by show 2 ≤ sizeLine; decide, fun p4 h_p4 => ?_⟩
      have s_H4 : Same H3 (upd H3 p4 (.lst [V.str "fun", V.str z])) := sameUpd h_p4
      have e_H4 : WL (upd H3 p4 (.lst [V.str "fun", V.str z])) p4 (W1 "fun" ++ W1 z) := upd_same
      generalize upd H3 p4 (.lst [V.str "fun", V.str z]) = H4 at s_H4 e_H4 ⊢
      have G4 := G3.same s_H4
      walk_at "w"
      refine ⟨f, s, rfl, G4.fl, fun a cs H5 ha e5 hv5 hh5 hc5 F5 kf5 => ?_⟩
      have G5 := G4.keep kf5 F5
      have ew := e_H4.keep G4.fl kf5
      refine w_cat ew e5 (by first | omega | (simp only [List.length_append, List.length_cons, List.length_nil, W1_len]; omega)) fun p6 h_p6 => ?_
      have s_H6 := sameUpd (o := .lst ((W1 "fun" ++ W1 z ++ cs).map V.str)) h_p6
      have e_H6 : WL (upd H5 p6 (.lst ((W1 "fun" ++ W1 z ++ cs).map V.str))) p6 (W1 "fun" ++ W1 z ++ cs) := upd_same
      generalize upd H5 p6 (.lst ((W1 "fun" ++ W1 z ++ cs).map V.str)) = H6 at s_H6 e_H6 ⊢
      have G6 := G5.same s_H6
      have k6 := (((k2.trans (.ofF kf3)).trans (.ofS s_H4)).trans (.ofF kf5)).trans (.ofS s_H6)
      walk_at "w"
      refine ⟨f, s, b, l, 5, rfl, rfl, G6, fun a9 H9 es9 l9 ha9 e9 G9 hl9 k9 hv9 hh9 hc9 => ?_⟩
      have ew9 := e_H6.keep2 G6 k9
      have kk := k6.trans k9
      refine w_cat ew9 e9 (by first | omega | (simp only [List.length_append, List.length_cons, List.length_nil, W1_len]; omega)) fun p10 h_p10 => ?_
      have s_H10 := sameUpd (o := .lst ((W1 "fun" ++ W1 z ++ cs ++ es9).map V.str)) h_p10
      have e_H10 : WL (upd H9 p10 (.lst ((W1 "fun" ++ W1 z ++ cs ++ es9).map V.str))) p10 (W1 "fun" ++ W1 z ++ cs ++ es9) := upd_same
      generalize upd H9 p10 (.lst ((W1 "fun" ++ W1 z ++ cs ++ es9).map V.str)) = H10 at s_H10 e_H10 ⊢
      exact q p10 H10 _ l9 (fresh2 kk G9 h_p10) e_H10 (G9.same s_H10) hl9 (kk.trans (.ofS s_H10)) ((((Voc.one (by decide +kernel)).app (.one (names_voc hz))).app hv5).app hv9) (.one (by decide +kernel) (.one (names_else hz))) (by simp only [List.length_append, W1_len]; omega)
    rw [decide_eq_false c0]
    walk_at "w"
    by_cases c1 : 1 < d
    · rw [decide_eq_true c1]
      walk_at "w"
      exact ⟨f, s, b, l, 5, rfl, rfl, G2, fun a9 H9 es9 l9 ha9 e9 G9 hl9 k9 hv9 hh9 hc9 => q a9 H9 es9 l9 (fresh2 k2 G2 ha9) e9 G9 hl9 (k2.trans k9) hv9 hh9 (by omega)⟩
    rw [decide_eq_false c1]
    walk_at "w1"
    refine w_next ?_
    with_reducible refine w_seq ?_
    with_reducible refine asg_cut (fun x H' => ∃ (p : Addr) (fs : List Str), x = .ref p ∧ WL H' p fs ∧ H p = none ∧ Voc fs ∧ HeadOk fs ∧ fs.length ≤ 5 ∧ Gs H' f s b l ∧ Keep2 f b H H') (fun Q' kq => ?_) ?_
    · walk_at "w"
      refine ⟨f, s, rfl, F2, fun z H3 hz F3 kf3 => ?_⟩
      have G3 := G2.keep kf3 F3
      walk_at "w"
      refine ⟨by show 2 ≤ sizeLine; decide, fun p4 h_p4 => ?_⟩
      have s_H4 : Same H3 (upd H3 p4 (.lst [V.str "class", V.str z])) := sameUpd h_p4
      have e_H4 : WL (upd H3 p4 (.lst [V.str "class", V.str z])) p4 (W1 "class" ++ W1 z) := upd_same
      generalize upd H3 p4 (.lst [V.str "class", V.str z]) = H4 at s_H4 e_H4 ⊢
      have G4 := G3.same s_H4
      have k4 := (k2.trans (.ofF kf3)).trans (.ofS s_H4)
      walk_at "w"
      refine ⟨f, s, 2, rfl, G4.fl, by decide, by decide, fun y H5 y0 y1 F5 kf5 => ?_⟩
      have G5 := G4.keep kf5 F5
      have e5 := e_H4.keep G4.fl kf5
      have k5 := k4.trans (.ofF kf5)
      walk_at "w"
      have vz : Voc (W1 "class" ++ W1 z) := (Voc.one (by decide +kernel)).app (.one (names_voc hz))
      have hz' : HeadOk (W1 "class" ++ W1 z) := .one (by decide +kernel) (.one (names_else hz))
      by_cases cy : y = 1
      · rw [decide_eq_true cy]
        walk_at "w"
        refine ⟨f, s, rfl, F5, fun z6 H6 hz6 F6 kf6 => ?_⟩
        have G6 := G5.keep kf6 F6
        have e6 := e5.keep F5 kf6
        walk_at "w"
        refine ⟨by show 2 ≤ sizeLine; decide, fun p7 h_p7 => ?_⟩
        have s_H7 : Same H6 (upd H6 p7 (.lst [V.str "of", V.str z6])) := sameUpd h_p7
        have e_H7 : WL (upd H6 p7 (.lst [V.str "of", V.str z6])) p7 (W1 "of" ++ W1 z6) := upd_same
        generalize upd H6 p7 (.lst [V.str "of", V.str z6]) = H7 at s_H7 e_H7 ⊢
        refine w_cat (e6.same s_H7) e_H7 (by first | omega | (simp only [List.length_append, List.length_cons, List.length_nil, W1_len]; omega)) fun p8 h_p8 => ?_
        have s_H8 := sameUpd (o := .lst ((W1 "class" ++ W1 z ++ (W1 "of" ++ W1 z6)).map V.str)) h_p8
        have e_H8 : WL (upd H7 p8 (.lst ((W1 "class" ++ W1 z ++ (W1 "of" ++ W1 z6)).map V.str))) p8 (W1 "class" ++ W1 z ++ (W1 "of" ++ W1 z6)) := upd_same
        generalize upd H7 p8 (.lst ((W1 "class" ++ W1 z ++ (W1 "of" ++ W1 z6)).map V.str)) = H8 at s_H8 e_H8 ⊢
        walk_at "w"
        refine ⟨by show 1 ≤ sizeLine; decide, fun p9 h_p9 => ?_⟩
        have s_H9 : Same H8 (upd H8 p9 (.lst [V.str "{"])) := sameUpd h_p9
        have e_H9 : WL (upd H8 p9 (.lst [V.str "{"])) p9 (W1 "{") := upd_same
        generalize upd H8 p9 (.lst [V.str "{"]) = H9 at s_H9 e_H9 ⊢
        have kk := ((k5.trans (.ofF kf6)).trans (.ofS (s_H7.trans s_H8))).trans (.ofS s_H9)
        have GG := G6.same (s_H7.trans (s_H8.trans s_H9))
        refine w_cat (e_H8.same s_H9) e_H9 (by first | omega | (simp only [List.length_append, List.length_cons, List.length_nil, W1_len]; omega)) fun p10 h_p10 => ?_
        have s_H10 := sameUpd (o := .lst ((W1 "class" ++ W1 z ++ (W1 "of" ++ W1 z6) ++ W1 "{").map V.str)) h_p10
        have e_H10 : WL (upd H9 p10 (.lst ((W1 "class" ++ W1 z ++ (W1 "of" ++ W1 z6) ++ W1 "{").map V.str))) p10 (W1 "class" ++ W1 z ++ (W1 "of" ++ W1 z6) ++ W1 "{") := upd_same
        generalize upd H9 p10 (.lst ((W1 "class" ++ W1 z ++ (W1 "of" ++ W1 z6) ++ W1 "{").map V.str)) = H10 at s_H10 e_H10 ⊢
        exact kq _ _ ⟨p10, _, rfl, e_H10, fresh2 kk GG h_p10, (vz.app ((Voc.one (by decide +kernel)).app (.one (names_voc hz6)))).app (.one (by decide +kernel)), (hz'.app (.one (by decide +kernel))).app (.one (by decide +kernel)), by simp only [List.length_append, W1_len]; omega, GG.same s_H10, kk.trans (.ofS s_H10)⟩
      · rw [decide_eq_false cy]
        walk_at "w"
        refine ⟨by show 0 ≤ sizeLine; decide, fun p7 h_p7 => ?_⟩
        have s_H7 : Same H5 (upd H5 p7 (.lst [])) := sameUpd h_p7
        have e_H7 : WL (upd H5 p7 (.lst [])) p7 (([] : List Str)) := upd_same
        generalize upd H5 p7 (.lst []) = H7 at s_H7 e_H7 ⊢
        refine w_cat (e5.same s_H7) e_H7 (by first | omega | (simp only [List.length_append, List.length_cons, List.length_nil, W1_len]; omega)) fun p8 h_p8 => ?_
        have s_H8 := sameUpd (o := .lst ((W1 "class" ++ W1 z ++ ([] : List Str)).map V.str)) h_p8
        have e_H8 : WL (upd H7 p8 (.lst ((W1 "class" ++ W1 z ++ ([] : List Str)).map V.str))) p8 (W1 "class" ++ W1 z ++ ([] : List Str)) := upd_same
        generalize upd H7 p8 (.lst ((W1 "class" ++ W1 z ++ ([] : List Str)).map V.str)) = H8 at s_H8 e_H8 ⊢
        walk_at "w"
        refine ⟨by show 1 ≤ sizeLine; decide, fun p9 h_p9 => ?_⟩
        have s_H9 : Same H8 (upd H8 p9 (.lst [V.str "{"])) := sameUpd h_p9
        have e_H9 : WL (upd H8 p9 (.lst [V.str "{"])) p9 (W1 "{") := upd_same
        generalize upd H8 p9 (.lst [V.str "{"]) = H9 at s_H9 e_H9 ⊢
        have kk := (k5.trans (.ofS (s_H7.trans s_H8))).trans (.ofS s_H9)
        have GG := G5.same (s_H7.trans (s_H8.trans s_H9))
        refine w_cat (e_H8.same s_H9) e_H9 (by first | omega | (simp only [List.length_append, List.length_cons, List.length_nil, W1_len]; omega)) fun p10 h_p10 => ?_
        have s_H10 := sameUpd (o := .lst ((W1 "class" ++ W1 z ++ ([] : List Str) ++ W1 "{").map V.str)) h_p10
        have e_H10 : WL (upd H9 p10 (.lst ((W1 "class" ++ W1 z ++ ([] : List Str) ++ W1 "{").map V.str))) p10 (W1 "class" ++ W1 z ++ ([] : List Str) ++ W1 "{") := upd_same
        generalize upd H9 p10 (.lst ((W1 "class" ++ W1 z ++ ([] : List Str) ++ W1 "{").map V.str)) = H10 at s_H10 e_H10 ⊢
        exact kq _ _ ⟨p10, _, rfl, e_H10, fresh2 kk GG h_p10, (vz.app .nil).app (.one (by decide +kernel)), (hz'.app .nil).app (.one (by decide +kernel)), by simp only [List.length_append, W1_len, List.length_nil]; omega, GG.same s_H10, kk.trans (.ofS s_H10)⟩
    rintro _ H10 ⟨p10, fs, rfl, e10, n10, v10, h10, c10, G10, k10⟩
    walk_at "w"
    refine ⟨f, s, 3, rfl, G10.fl, by decide, by decide, fun n H11 n0 n1 F11 kf11 => ?_⟩
    have G11 := G10.keep kf11 F11
    refine ⟨_, rfl, by omega, by omega, for_range (Pv := fun j σ H' => ∃ (L' : Addr) (ws : List Str) (y : Option V), σ = [some (.ref f), some (.ref b), some (.int 5), some (.int d), some (.ref L'), y] ∧ WL H' L' ws ∧ H L' = none ∧ Voc ws ∧ HeadOk ws ∧ ws.length ≤ 5 + 2 * j ∧ Gs H' f s b l ∧ Keep2 f b H H') ⟨p10, fs, none, rfl, e10.keep G10.fl kf11, n10, v10, h10, c10, G11, k10.trans (.ofF kf11)⟩ ?_ ?_⟩
    · rintro j σ H4 hj ⟨L', ws, y, rfl, hw, hL', hv, hh, hl, G4, k4⟩
      walk_at "w"
      refine ⟨f, s, rfl, G4.fl, fun z H6 hz F6 kf6 => ?_⟩
      have G6 := G4.keep kf6 F6
      have e6 := hw.keep G4.fl kf6
      walk_at "w"
      refine ⟨by show 2 ≤ sizeLine; decide, fun p7 h_p7 => ?_⟩
      have s_H7 : Same H6 (upd H6 p7 (.lst [V.str z, V.str ";"])) := sameUpd h_p7
      have e_H7 : WL (upd H6 p7 (.lst [V.str z, V.str ";"])) p7 (W1 z ++ W1 ";") := upd_same
      generalize upd H6 p7 (.lst [V.str z, V.str ";"]) = H7 at s_H7 e_H7 ⊢
      have kk := (k4.trans (.ofF kf6)).trans (.ofS s_H7)
      have GG := G6.same s_H7
      refine w_cat (e6.same s_H7) e_H7 (by first | omega | (simp only [List.length_append, List.length_cons, List.length_nil, W1_len]; omega)) fun p8 h_p8 => ?_
      have s_H8 := sameUpd (o := .lst ((ws ++ (W1 z ++ W1 ";")).map V.str)) h_p8
      have e_H8 : WL (upd H7 p8 (.lst ((ws ++ (W1 z ++ W1 ";")).map V.str))) p8 (ws ++ (W1 z ++ W1 ";")) := upd_same
      generalize upd H7 p8 (.lst ((ws ++ (W1 z ++ W1 ";")).map V.str)) = H8 at s_H8 e_H8 ⊢
      walk_at "w"
      exact ⟨p8, _, _, rfl, e_H8, fresh2 kk GG h_p8, hv.app ((Voc.one (names_voc hz)).app (.one (by decide +kernel))), hh.app (.one (names_else hz)), by simp only [List.length_append, W1_len]; omega, GG.same s_H8, kk.trans (.ofS s_H8)⟩
    rintro σ H12 ⟨L12, ws12, y12, rfl, e12, n12, v12, h12, c12, G12, k12⟩
    walk_at "w"
    refine ⟨f, s, 3, rfl, G12.fl, by decide, by decide, fun n' H13 n0' n1' F13 kf13 => ?_⟩
    have G13 := G12.keep kf13 F13
    refine ⟨_, rfl, by omega, by omega, for_range (Pv := fun j σ H' => ∃ (L' : Addr) (ws : List Str) (y : Option V) (l' : Int), σ = [some (.ref f), some (.ref b), some (.int 5), some (.int d), some (.ref L'), y] ∧ WL H' L' ws ∧ H L' = none ∧ Voc ws ∧ HeadOk ws ∧ ws.length + 32 * l'.toNat ≤ 9 + 11 * j + 32 * l.toNat ∧ Gs H' f s b l' ∧ l' ≤ l ∧ Keep2 f b H H') ⟨L12, ws12, _, l, rfl, e12.keep G12.fl kf13, n12, v12, h12, by omega, G13, Int.le_refl _, k12.trans (.ofF kf13)⟩ ?_ ?_⟩
    · rintro j σ H4 hj ⟨L', ws, y, l', rfl, hw, hL', hv, hh, hl, G4, hll, k4⟩
      walk_at "w"
      refine ⟨f, s, rfl, G4.fl, fun z H6 hz F6 kf6 => ?_⟩
      have G6 := G4.keep kf6 F6
      have e6 := hw.keep G4.fl kf6
      walk_at "w"
      refine ⟨by show 1 ≤ sizeLine; decide, fun p7 h_p7 => ?_⟩
      have s_H7 : Same H6 (upd H6 p7 (.lst [V.str z])) := sameUpd h_p7
      have e_H7 : WL (upd H6 p7 (.lst [V.str z])) p7 (W1 z) := upd_same
      generalize upd H6 p7 (.lst [V.str z]) = H7 at s_H7 e_H7 ⊢
      refine w_cat (e6.same s_H7) e_H7 (by first | omega | (simp only [List.length_append, List.length_cons, List.length_nil, W1_len]; omega)) fun p8 h_p8 => ?_
      have s_H8 := sameUpd (o := .lst ((ws ++ W1 z).map V.str)) h_p8
      have e_H8 : WL (upd H7 p8 (.lst ((ws ++ W1 z).map V.str))) p8 (ws ++ W1 z) := upd_same
      generalize upd H7 p8 (.lst ((ws ++ W1 z).map V.str)) = H8 at s_H8 e_H8 ⊢
      have G8 := G6.same (s_H7.trans s_H8)
      have k8 := (k4.trans (.ofF kf6)).trans (.ofS (s_H7.trans s_H8))
      walk_at "w"
      refine ⟨f, s, rfl, G8.fl, fun a cs H9 ha e9 hv9 hh9 hc9 F9 kf9 => ?_⟩
      have G9 := G8.keep kf9 F9
      have ew := e_H8.keep G8.fl kf9
      refine w_cat ew e9 (by first | omega | (simp only [List.length_append, List.length_cons, List.length_nil, W1_len]; omega)) fun p11 h_p11 => ?_
      have s_H11 := sameUpd (o := .lst ((ws ++ W1 z ++ cs).map V.str)) h_p11
      have e_H11 : WL (upd H9 p11 (.lst ((ws ++ W1 z ++ cs).map V.str))) p11 (ws ++ W1 z ++ cs) := upd_same
      generalize upd H9 p11 (.lst ((ws ++ W1 z ++ cs).map V.str)) = H11 at s_H11 e_H11 ⊢
      have GB := G9.same s_H11
      have kB := (k8.trans (.ofF kf9)).trans (.ofS s_H11)
      walk_at "w"
      refine ⟨f, s, b, l', 5, rfl, rfl, GB, fun a9 HC es9 l9 ha9 eC GC hlC kC hvC hhC hcC => ?_⟩
      have ewC := e_H11.keep2 GB kC
      have kk := kB.trans kC
      refine w_cat ewC eC (by first | omega | (simp only [List.length_append, List.length_cons, List.length_nil, W1_len]; omega)) fun pD h_pD => ?_
      have s_HD := sameUpd (o := .lst ((ws ++ W1 z ++ cs ++ es9).map V.str)) h_pD
      have e_HD : WL (upd HC pD (.lst ((ws ++ W1 z ++ cs ++ es9).map V.str))) pD (ws ++ W1 z ++ cs ++ es9) := upd_same
      generalize upd HC pD (.lst ((ws ++ W1 z ++ cs ++ es9).map V.str)) = HD at s_HD e_HD ⊢
      walk_at "w"
      exact ⟨pD, _, _, l9, rfl, e_HD, fresh2 kk GC h_pD, ((hv.app (.one (names_voc hz))).app hv9).app hvC, ((hh.app (.one (names_else hz))).app hh9.hd).app hhC.hd, by simp only [List.length_append, W1_len]; omega, GC.same s_HD, by omega, kk.trans (.ofS s_HD)⟩
    · rintro σ H4 ⟨L', ws, y, l', rfl, hw, hL', hv, hh, hl, G4, hll, k4⟩
      walk_at "w"
      refine ⟨by show 1 ≤ sizeLine; decide, fun p5 h_p5 => ?_⟩
      have s_H5 : Same H4 (upd H4 p5 (.lst [V.str "}"])) := sameUpd h_p5
      have e_H5 : WL (upd H4 p5 (.lst [V.str "}"])) p5 (W1 "}") := upd_same
      generalize upd H4 p5 (.lst [V.str "}"]) = H5 at s_H5 e_H5 ⊢
      have kk := k4.trans (.ofS s_H5)
      have GG := G4.same s_H5
      refine w_cat (hw.same s_H5) e_H5 (by first | omega | (simp only [List.length_append, List.length_cons, List.length_nil, W1_len]; omega)) fun p6 h_p6 => ?_
      have s_H6 := sameUpd (o := .lst ((ws ++ W1 "}").map V.str)) h_p6
      have e_H6 : WL (upd H5 p6 (.lst ((ws ++ W1 "}").map V.str))) p6 (ws ++ W1 "}") := upd_same
      generalize upd H5 p6 (.lst ((ws ++ W1 "}").map V.str)) = H6 at s_H6 e_H6 ⊢
      exact q p6 H6 _ l' (fresh2 kk GG h_p6) e_H6 (GG.same s_H6) hll (kk.trans (.ofS s_H6)) (hv.app (.one (by decide +kernel))) (hh.app (.one (by decide +kernel))) (by simp only [List.length_append, W1_len]; omega)
end
end FE
namespace FE
open PySem L2 K01
abbrev s_law_text : Stmt := top 81
abbrev N_law_text : List Str := ["flow", "left", "found", "changed", "k", "at", "more", "text", "word"]
abbrev P_law_text : List Str := ["flow"]
theorem sc_law_text : FnScope N_law_text P_law_text (defScope s_law_text) := ⟨rfl, rfl, rfl, by decide +kernel, rfl, by decide +kernel, by decide +kernel⟩
def SEPS : List Str := [" ", "\n", " # x ( \n", " "]
abbrev cp (w : Str) : List Nat := w.cps.toList
/-- a text and its words -/
inductive Tx : List Nat → List Str → Prop
  | pre {z : Str} : z ∈ (["", "# so \"\n"] : List Str) → Tx (cp z) []
  | snoc {t : List Nat} {ws : List Str} {w z : Str} : Tx t ws → w ∈ VOC → z ∈ SEPS → Tx (t ++ cp w ++ cp z) (ws ++ [w])
theorem voc_len {w : Str} (h : w ∈ VOC) : (cp w).length ≤ 20 := (by decide +kernel : ∀ w ∈ VOC, (cp w).length ≤ 20) w h
theorem seps_len {w : Str} (h : w ∈ SEPS) : (cp w).length ≤ 8 := (by decide +kernel : ∀ w ∈ SEPS, (cp w).length ≤ 8) w h
theorem Tx.len {t : List Nat} {ws : List Str} (h : Tx t ws) : t.length ≤ 8 + 28 * ws.length := by
  induction h with
  | pre h => exact (by decide +kernel : ∀ z ∈ (["", "# so \"\n"] : List Str), (cp z).length ≤ 8 + 28 * 0) _ h
  | snoc _ h1 h2 ih =>
    have := voc_len h1
    have := seps_len h2
    simp only [List.length_append, List.length_singleton]
    omega
def spText9 : Sp := fun vs H Q _ => ∃ f s, vs = [.ref f] ∧ Flow H f s ∧ ∀ p L t ws H', H' p = some (.tup [.str (Sg t), .ref L]) → WL H' L ws → Tx t ws → HdOk ws → ws.length ≤ 1500 → Flow H' f s → KeepF f H H' → Q (.ref p) H'
theorem cut_take {ws : List Str} {k : Int} (h : 0 ≤ k) (h2 : k ≤ ws.length) : cutV (ws.map V.str) none (some k) = (ws.take k.toNat).map V.str := by
  obtain ⟨j, rfl⟩ := Int.eq_ofNat_of_zero_le h
  unfold cutV
  rw [HT.sIx_none, HT.sIx_nat, List.length_map, List.drop_zero, List.map_take, Nat.sub_zero, Nat.min_eq_left (by omega)]
  rfl
theorem cut_drop {ws : List Str} {k : Int} (h : 0 ≤ k) (h2 : k ≤ ws.length) : cutV (ws.map V.str) (some k) none = (ws.drop k.toNat).map V.str := by
  obtain ⟨j, rfl⟩ := Int.eq_ofNat_of_zero_le h
  unfold cutV
  rw [HT.sIx_none, HT.sIx_nat, List.length_map, List.map_drop, Nat.min_eq_left (by omega), ← List.map_drop, List.take_of_length_le (by rw [List.length_map, List.length_drop]; omega), Int.toNat_natCast, List.map_drop]
theorem voc_take {ws : List Str} (h : Voc ws) (k : Nat) : Voc (ws.take k) := fun x hx => h x (List.mem_of_mem_take hx)
theorem voc_drop {ws : List Str} (h : Voc ws) (k : Nat) : Voc (ws.drop k) := fun x hx => h x (List.mem_of_mem_drop hx)
theorem hd_take {ws b : List Str} {k : Nat} (h : HeadOk ws) (hk : 0 < k) : HdOk (ws.take k ++ b) := by
  obtain ⟨x, r, rfl, h1, _⟩ := h
  obtain ⟨k, rfl⟩ : ∃ j, k = j + 1 := ⟨k - 1, by omega⟩
  exact .one h1
theorem hd_drop1 {ws : List Str} (h : HeadOk ws) : HdOk (ws.drop 1) := by
  obtain ⟨x, r, rfl, _, h2⟩ := h
  exact h2
section
variable {P : Program} {w : World} {K : PySem.W.Frag} {mg : Str → Option Value} {base : Heap} {m r : Nat}
theorem ok_law_text (T : Txw mg) {f : Addr} {fd : FuncData} (F : FnP K "_law_text" s_law_text f fd) (D_law_draw : Cal P w K mg base CX0 2 "_law_draw" P_law_draw spDraw) (D_law_item : Cal P w K mg base CX0 21 "_law_item" P_law_item spItem9) :
    FnOk P w K mg base CX0 22 f fd P_law_text spText9 := by
  refine F.ok sc_law_text (fun vs H Q E h => ?_) (fun cdv A outer s H vs Q E hr h => ?_)
  · obtain ⟨f, s, rfl, _⟩ := h
    rfl
  · obtain ⟨f, s, rfl, FL, q⟩ := h
    refine ⟨_, PSs.nox (pss_cons (ps_set (i := 1) sc_law_text.nd rfl (Or.inl rfl) (pe_lst (pa_cons pe_int pa_nil)))
  (pss_cons (ps_set (i := 2) sc_law_text.nd rfl (Or.inl rfl) (pe_lst pa_nil))
  (pss_cons (ps_set (i := 3) sc_law_text.nd rfl (Or.inl rfl) (pe_cal D_law_draw hr rfl rfl pass0 (pa_cons (pv 0) (pa_cons pe_int pa_nil))))
  (pss_cons (ps_for PassesOwn.never rfl (pi_range1 (by rfl) T.f_range (pa_cons (pe_cal D_law_draw hr rfl rfl pass0 (pa_cons (pv 0) (pa_cons pe_int pa_nil))) pa_nil)) (pg_name (i := 4) sc_law_text.nd rfl (Or.inl rfl)) (pss_one (ps_set (i := 2) sc_law_text.nd rfl (Or.inl rfl) (pe_op op_cat (pv 2) (pe_cal D_law_item hr rfl rfl pass0 (pa_cons (pv 0) (pa_cons (pv 1) (pa_cons pe_int pa_nil))))))))
  (pss_cons (ps_if (PW.pt (pw_and (pt_cmpR op_gt (pv 3) pe_int (nomark _)) (pw_and1 (pt_cmpR op_gt (pe_callB call_lenN (by rfl) T.f_len (by decide +kernel) (pa_cons (pv 2) pa_nil)) pe_int (nomark _))))) (pss_cons (ps_set (i := 5) sc_law_text.nd rfl (Or.inl rfl) (pe_cal D_law_draw hr rfl rfl pass0 (pa_cons (pv 0) (pa_cons (pe_callB call_lenN (by rfl) T.f_len (by decide +kernel) (pa_cons (pv 2) pa_nil)) pa_nil))))
  (pss_cons (ps_set (i := 6) sc_law_text.nd rfl (Or.inl rfl) (pe_lst (pa_cons (pe_ix ix_list (pe_lst (pa_cons pe_str (pa_cons pe_str (pa_cons pe_str (pa_cons pe_str (pa_cons pe_str (pa_cons pe_str pa_nil))))))) (pe_cal D_law_draw hr rfl rfl pass0 (pa_cons (pv 0) (pa_cons pe_int pa_nil))) (fun _ _ => rfl)) pa_nil)))
  (pss_one (ps_set (i := 2) sc_law_text.nd rfl (Or.inl rfl) (pe_op op_cat (pe_op op_cat (pe_slice sl_list (pv 2) po_none (po_some (pv 5))) (pe_ifExp (pt_cmpR op_eq (pv 3) pe_int (nomark _)) (pv 6) (pe_lst pa_nil))) (pe_slice sl_list (pv 2) (po_some (pe_op op_sub (pe_op op_add (pv 5) (pv 3)) pe_int)) po_none)))))) pss_nil)
  (pss_cons (ps_set (i := 7) sc_law_text.nd rfl (Or.inl rfl) (pe_ix ix_list (pe_lst (pa_cons pe_str (pa_cons pe_str pa_nil))) (pe_cal D_law_draw hr rfl rfl pass0 (pa_cons (pv 0) (pa_cons pe_int pa_nil))) (fun _ _ => rfl)))
  (pss_cons (ps_for PassesOwn.never rfl (pi_list (pv 2)) (pg_name (i := 8) sc_law_text.nd rfl (Or.inl rfl)) (pss_one (ps_set (i := 7) sc_law_text.nd rfl (Or.inl rfl) (pe_op op_addS (pe_op op_addS (pv 7) (pv 8)) (pe_ix ix_list (pe_lst (pa_cons pe_str (pa_cons pe_str (pa_cons pe_str (pa_cons pe_str pa_nil))))) (pe_cal D_law_draw hr rfl rfl pass0 (pa_cons (pv 0) (pa_cons pe_int pa_nil))) (fun _ _ => rfl))))))
  (pss_one (ps_ret (pe_tup (pa_cons (pv 7) (pa_cons (pv 2) pa_nil)))))))))))), ?_⟩
    walk_at "w"
    refine ⟨by show 1 ≤ sizeLine; decide, fun b hb => ?_⟩
    have s1 : Same H (upd H b (.lst [V.int 40])) := sameUpd hb
    have h1 : (upd H b (.lst [V.int 40])) b = some (.lst [V.int 40]) := upd_same
    have hbs : b ≠ s := by
      obtain ⟨_, _, ns, h2⟩ := FL
      exact (ne_of_none h2 hb).symm
    generalize upd H b (.lst [V.int 40]) = H1 at s1 h1 ⊢
    walk_at "w"
    refine ⟨by show 0 ≤ sizeLine; decide, fun L h_L => ?_⟩
    have s_H2 : Same H1 (upd H1 L (.lst [])) := sameUpd h_L
    have e_H2 : WL (upd H1 L (.lst [])) L (([] : List Str)) := upd_same
    generalize upd H1 L (.lst []) = H2 at s_H2 e_H2 ⊢
    have G2 : Gs H2 f s b 40 := ⟨FL.same (s1.trans s_H2), s_H2 _ _ h1, hbs, Int.le_refl _⟩
    have k12 : KeepF f H H2 := .same (s1.trans s_H2)
    walk_at "w"
    refine ⟨f, s, 4, rfl, G2.fl, by decide, by decide, fun ch H3 c0 c1 F3 kf3 => ?_⟩
    have G3 := G2.keep kf3 F3
    walk_at "w"
    refine ⟨f, s, 5, rfl, F3, by decide, by decide, fun n H4 n0 n1 F4 kf4 => ?_⟩
    have G4 := G3.keep kf4 F4
    have up : ∀ {H1 H2 : Hp}, KeepF f H H1 → Keep2 f b H1 H2 → KeepF f H H2 := fun k k' a o h e => k' a o h (ne_of_none e hb) (k a o h e)
    refine ⟨_, rfl, by omega, by omega, for_range (Pv := fun j σ' H' => ∃ (L' : Addr) (ws : List Str) (y : Option V) (l' : Int), σ' = [some (.ref f), some (.ref b), some (.ref L'), some (.int ch), y, none, none, none, none] ∧ WL H' L' ws ∧ Voc ws ∧ (ws = [] ∨ HeadOk ws) ∧ ws.length + 32 * l'.toNat ≤ 40 * j + 32 * 40 ∧ Gs H' f s b l' ∧ KeepF f H H') ⟨L, [], none, 40, rfl, (e_H2.keep G2.fl kf3).keep F3 kf4, .nil, .inl rfl, Nat.le_refl _, G4, (k12.trans kf3).trans kf4⟩ ?_ ?_⟩
    · rintro j σ H5 hj ⟨L', ws, y, l', rfl, hw, hv, hh, hl, G5, k5⟩
      walk_at "w"
      refine ⟨f, s, b, l', rfl, G5, fun a H6 es l6 ha e6 G6 hl6 k6 hv6 hh6 hc6 => ?_⟩
      have hle := G5.le
      have ew := hw.keep2 G5 k6
      refine w_cat ew e6 (by first | omega | (simp only [List.length_append, List.length_cons, List.length_nil, W1_len]; omega)) fun p7 h_p7 => ?_
      have s_H7 := sameUpd (o := .lst ((ws ++ es).map V.str)) h_p7
      have e_H7 : WL (upd H6 p7 (.lst ((ws ++ es).map V.str))) p7 (ws ++ es) := upd_same
      generalize upd H6 p7 (.lst ((ws ++ es).map V.str)) = H7 at s_H7 e_H7 ⊢
      walk_at "w"
      refine ⟨p7, _, _, l6, rfl, e_H7, hv.app hv6, .inr ?_, by simp only [List.length_append]; omega, G6.same s_H7, (up k5 k6).trans (.same s_H7)⟩
      rcases hh with rfl | hh
      · exact hh6
      · exact hh.app hh6.hd
    rintro σ H5 ⟨L5, ws, y, l5, rfl, hw, hv, hh, hl, G5, k5⟩
    with_reducible refine seq_cut (fun σ' H' => ∃ (L' : Addr) (ws : List Str) (y1 y2 y3 : Option V), σ' = [some (.ref f), some (.ref b), some (.ref L'), some (.int ch), y1, y2, y3, none, none] ∧ WL H' L' ws ∧ Voc ws ∧ HdOk ws ∧ ws.length ≤ 1500 ∧ Flow H' f s ∧ KeepF f H H') (fun N k => ?_) ?_
    · have hd : HdOk ws := by
        rcases hh with rfl | hh
        · exact .nil
        · exact hh.hd
      walk_at "w"
      by_cases c2 : (1 : Int) < ch
      · rw [decide_eq_true c2]
        walk_at "w"
        refine w_lenL (.of hw) ?_
        rw [List.length_map]
        walk_at "w"
        by_cases hn : (0 : Int) < (ws.length : Int)
        · rw [decide_eq_true hn]
          walk_at "w"
          refine w_lenL (.of hw) ?_
          rw [List.length_map]
          walk_at "w"
          have hh : HeadOk ws := hh.resolve_left fun z => by rw [z] at hn; exact absurd hn (by decide)
          refine ⟨f, s, ws.length, rfl, G5.fl, hn, ?_, fun at_ H6 a0 a1 F6 kf6 => ?_⟩
          · have := Nat.log2_le_self ws.length
            show ws.length.log2 < 9000
            omega
          walk_at "w"
          refine ⟨by show 6 ≤ sizeLine; decide, fun p7 hp7 => ?_⟩
          have s7 := sameUpd (o := .lst (([";", "x", ")", "}", "of", "fun"] : List Str).map V.str)) hp7
          have e7 : WL (upd H6 p7 (.lst (([";", "x", ")", "}", "of", "fun"] : List Str).map V.str))) p7 [";", "x", ")", "}", "of", "fun"] := upd_same
          change tCall _ _ _ _ _ (upd H6 p7 (.lst (([";", "x", ")", "}", "of", "fun"] : List Str).map V.str))) _
          generalize upd H6 p7 (.lst (([";", "x", ")", "}", "of", "fun"] : List Str).map V.str)) = H7 at s7 e7 ⊢
          have F7 := F6.same s7
          walk_at "w"
          refine ⟨f, s, 6, rfl, F7, by decide, by decide, fun y8 H8 y0 y1 F8 kf8 => ?_⟩
          refine pickW (e7.keep F7 kf8) rfl y0 y1 fun z hz => ?_
          have hz2 : z ∈ VOC ∧ z ≠ "else" := (by decide +kernel : ∀ z ∈ ([";", "x", ")", "}", "of", "fun"] : List Str), z ∈ VOC ∧ z ≠ "else") z hz
          have ew8 := ((hw.keep G5.fl kf6).same s7).keep F7 kf8
          have k8 := ((k5.trans kf6).trans (.same s7)).trans kf8
          walk_at "w"
          refine ⟨by show 1 ≤ sizeLine; decide, fun pm h_pm => ?_⟩
          have s_H9 : Same H8 (upd H8 pm (.lst [V.str z])) := sameUpd h_pm
          have e_H9 : WL (upd H8 pm (.lst [V.str z])) pm (W1 z) := upd_same
          generalize upd H8 pm (.lst [V.str z]) = H9 at s_H9 e_H9 ⊢
          walk_at "w"
          refine ⟨L5, _, rfl, .of (ew8.same s_H9), fun p10 h_p10 => ?_⟩
          rw [cut_take a0 (by omega)]
          have s_H10 := sameUpd (o := .lst ((ws.take at_.toNat).map V.str)) h_p10
          have e_H10 : WL (upd H9 p10 (.lst ((ws.take at_.toNat).map V.str))) p10 (ws.take at_.toNat) := upd_same
          generalize upd H9 p10 (.lst ((ws.take at_.toNat).map V.str)) = H10 at s_H10 e_H10 ⊢
          have lt : (ws.take at_.toNat).length ≤ 1490 := by rw [List.length_take]; omega
          walk_at "w"
          by_cases ce : ch = 2
          · rw [decide_eq_true ce]
            walk_at "w"
            refine w_cat e_H10 (e_H9.same s_H10) (by first | omega | (simp only [List.length_append, List.length_cons, List.length_nil, W1_len]; omega)) fun p11 h_p11 => ?_
            have s_H11 := sameUpd (o := .lst ((ws.take at_.toNat ++ W1 z).map V.str)) h_p11
            have e_H11 : WL (upd H10 p11 (.lst ((ws.take at_.toNat ++ W1 z).map V.str))) p11 (ws.take at_.toNat ++ W1 z) := upd_same
            generalize upd H10 p11 (.lst ((ws.take at_.toNat ++ W1 z).map V.str)) = H11 at s_H11 e_H11 ⊢
            walk_at "w"
            have ew11 := (ew8.same s_H9).same (s_H10.trans s_H11)
            refine ⟨L5, _, rfl, .of ew11, fun p12 h_p12 => ?_⟩
            rw [cut_drop (by omega) (by omega), show (at_ + ch - 2).toNat = at_.toNat by omega]
            have s_H12 := sameUpd (o := .lst ((ws.drop at_.toNat).map V.str)) h_p12
            have e_H12 : WL (upd H11 p12 (.lst ((ws.drop at_.toNat).map V.str))) p12 (ws.drop at_.toNat) := upd_same
            generalize upd H11 p12 (.lst ((ws.drop at_.toNat).map V.str)) = H12 at s_H12 e_H12 ⊢
            have ld : (ws.drop at_.toNat).length ≤ 1490 := by rw [List.length_drop]; omega
            refine w_cat (e_H11.same s_H12) e_H12 (by first | omega | (simp only [List.length_append, List.length_cons, List.length_nil, W1_len]; omega)) fun p13 h_p13 => ?_
            have s_H13 := sameUpd (o := .lst ((ws.take at_.toNat ++ W1 z ++ ws.drop at_.toNat).map V.str)) h_p13
            have e_H13 : WL (upd H12 p13 (.lst ((ws.take at_.toNat ++ W1 z ++ ws.drop at_.toNat).map V.str))) p13 (ws.take at_.toNat ++ W1 z ++ ws.drop at_.toNat) := upd_same
            generalize upd H12 p13 (.lst ((ws.take at_.toNat ++ W1 z ++ ws.drop at_.toNat).map V.str)) = H13 at s_H13 e_H13 ⊢
            walk_at "w"
            have ss := s_H9.trans (s_H10.trans (s_H11.trans (s_H12.trans s_H13)))
            refine k _ _ ⟨p13, _, _, _, _, rfl, e_H13, ((voc_take hv _).app (.one hz2.1)).app (voc_drop hv _), ?_, ?_, F8.same ss, k8.trans (.same ss)⟩
            · by_cases z0 : at_.toNat = 0
              · rw [z0]
                exact .one hz2.2
              · rw [List.append_assoc]
                exact hd_take hh (by omega)
            · simp only [List.length_append, W1_len, List.length_take, List.length_drop]
              omega
          · rw [decide_eq_false ce]
            walk_at "w"
            refine ⟨by show 0 ≤ sizeLine; decide, fun pn h_pn => ?_⟩
            have s_H10b : Same H10 (upd H10 pn (.lst [])) := sameUpd h_pn
            have e_H10b : WL (upd H10 pn (.lst [])) pn (([] : List Str)) := upd_same
            generalize upd H10 pn (.lst []) = H10b at s_H10b e_H10b ⊢
            refine w_cat (e_H10.same s_H10b) e_H10b (by first | omega | (simp only [List.length_append, List.length_cons, List.length_nil, W1_len]; omega)) fun p11 h_p11 => ?_
            have s_H11 := sameUpd (o := .lst ((ws.take at_.toNat ++ ([] : List Str)).map V.str)) h_p11
            have e_H11 : WL (upd H10b p11 (.lst ((ws.take at_.toNat ++ ([] : List Str)).map V.str))) p11 (ws.take at_.toNat ++ ([] : List Str)) := upd_same
            generalize upd H10b p11 (.lst ((ws.take at_.toNat ++ ([] : List Str)).map V.str)) = H11 at s_H11 e_H11 ⊢
            walk_at "w"
            have ew11 := (ew8.same s_H9).same (s_H10.trans (s_H10b.trans s_H11))
            refine ⟨L5, _, rfl, .of ew11, fun p12 h_p12 => ?_⟩
            rw [cut_drop (by omega) (by omega), show (at_ + ch - 2).toNat = at_.toNat + 1 by omega]
            have s_H12 := sameUpd (o := .lst ((ws.drop (at_.toNat + 1)).map V.str)) h_p12
            have e_H12 : WL (upd H11 p12 (.lst ((ws.drop (at_.toNat + 1)).map V.str))) p12 (ws.drop (at_.toNat + 1)) := upd_same
            generalize upd H11 p12 (.lst ((ws.drop (at_.toNat + 1)).map V.str)) = H12 at s_H12 e_H12 ⊢
            have ld : (ws.drop (at_.toNat + 1)).length ≤ 1490 := by rw [List.length_drop]; omega
            refine w_cat (e_H11.same s_H12) e_H12 (by first | omega | (simp only [List.length_append, List.length_cons, List.length_nil, W1_len]; omega)) fun p13 h_p13 => ?_
            have s_H13 := sameUpd (o := .lst ((ws.take at_.toNat ++ ([] : List Str) ++ ws.drop (at_.toNat + 1)).map V.str)) h_p13
            have e_H13 : WL (upd H12 p13 (.lst ((ws.take at_.toNat ++ ([] : List Str) ++ ws.drop (at_.toNat + 1)).map V.str))) p13 (ws.take at_.toNat ++ ([] : List Str) ++ ws.drop (at_.toNat + 1)) := upd_same
            generalize upd H12 p13 (.lst ((ws.take at_.toNat ++ ([] : List Str) ++ ws.drop (at_.toNat + 1)).map V.str)) = H13 at s_H13 e_H13 ⊢
            walk_at "w"
            have ss := s_H9.trans (s_H10.trans (s_H10b.trans (s_H11.trans (s_H12.trans s_H13))))
            refine k _ _ ⟨p13, _, _, _, _, rfl, e_H13, ((voc_take hv _).app .nil).app (voc_drop hv _), ?_, ?_, F8.same ss, k8.trans (.same ss)⟩
            · by_cases z0 : at_.toNat = 0
              · rw [z0]
                exact hd_drop1 hh
              · rw [List.append_assoc]
                exact hd_take hh (by omega)
            · simp only [List.length_append, List.length_nil, List.length_take, List.length_drop]
              omega
        · rw [decide_eq_false hn]
          walk_at "w"
          exact k _ _ ⟨L5, ws, _, _, _, rfl, hw, hv, hd, by omega, G5.fl, k5⟩
      · rw [decide_eq_false c2]
        walk_at "w"
        exact k _ _ ⟨L5, ws, _, _, _, rfl, hw, hv, hd, by omega, G5.fl, k5⟩
    rintro _ H6 ⟨L6, ws, y1', y2, y3, rfl, hw, hv, hh, hl, F6, k6⟩
    walk_at "w"
    refine ⟨by show 2 ≤ sizeLine; decide, fun p7 hp7 => ?_⟩
    have s7 := sameUpd (o := .lst ((["", "# so \"\n"] : List Str).map V.str)) hp7
    have e7 : WL (upd H6 p7 (.lst ((["", "# so \"\n"] : List Str).map V.str))) p7 ["", "# so \"\n"] := upd_same
    change tCall _ _ _ _ _ (upd H6 p7 (.lst ((["", "# so \"\n"] : List Str).map V.str))) _
    generalize upd H6 p7 (.lst ((["", "# so \"\n"] : List Str).map V.str)) = H7 at s7 e7 ⊢
    have F7 := F6.same s7
    walk_at "w"
    refine ⟨f, s, 2, rfl, F7, by decide, by decide, fun y8 H8 y0 y1 F8 kf8 => ?_⟩
    refine pickW (e7.keep F7 kf8) rfl y0 y1 fun z hz => ?_
    have ew8 := (hw.same s7).keep F7 kf8
    have k8 := (k6.trans (.same s7)).trans kf8
    walk_at "w"
    refine ⟨L6, rfl, ⟨_, .of ew8⟩, for_list (K := K) (a := L6) (xs := ws.map V.str) (fun j σ' H' => ∃ (t : List Nat) (y : Option V), σ' = [some (.ref f), some (.ref b), some (.ref L6), some (.int ch), y1', y2, y3, some (.str (Sg t)), y] ∧ WL H' L6 ws ∧ Tx t (ws.take j) ∧ Flow H' f s ∧ KeepF f H H') ⟨cp z, none, by rw [Sg_of]; rfl, ew8, .pre hz, F8, k8⟩ (fun j σ' H' _ h => by obtain ⟨_, _, _, e, _⟩ := h; exact .of e) ?_ ?_⟩
    · rintro j x σ' H9 hj ⟨t, y, rfl, e9, ht, F9, k9⟩
      rw [List.getElem?_map, Option.map_eq_some_iff] at hj
      obtain ⟨w9, hj, rfl⟩ := hj
      have hwv : w9 ∈ VOC := hv w9 (List.mem_of_getElem? hj)
      have lt := ht.len
      have lj : (ws.take j).length ≤ 1500 := by rw [List.length_take]; omega
      have lw : w9.cps.toList.length ≤ 20 := voc_len hwv
      have hsz : sizeLine = 16777216 := rfl
      walk_at "w"
      rw [← Sg_of w9]
      refine w_addS (by rw [Sg_len, Sg_len]; omega) ?_
      rw [Sg_app]
      walk_at "w"
      refine ⟨by show 4 ≤ sizeLine; decide, fun pa hpa => ?_⟩
      have sA := sameUpd (o := .lst (SEPS.map V.str)) hpa
      have eA : WL (upd H9 pa (.lst (SEPS.map V.str))) pa SEPS := upd_same
      change tCall _ _ _ _ _ (upd H9 pa (.lst (SEPS.map V.str))) _
      generalize upd H9 pa (.lst (SEPS.map V.str)) = HA at sA eA ⊢
      have FA := F9.same sA
      walk_at "w"
      refine ⟨f, s, 4, rfl, FA, by decide, by decide, fun yb HB b0 b1 FB kfB => ?_⟩
      refine pickW (eA.keep FA kfB) rfl b0 b1 fun sp hsp => ?_
      have ls : sp.cps.toList.length ≤ 8 := seps_len hsp
      rw [← Sg_of sp]
      refine w_addS (by rw [Sg_len, Sg_len, List.length_append]; omega) ?_
      rw [Sg_app]
      walk_at "w"
      refine ⟨_, _, rfl, (e9.same sA).keep FA kfB, ?_, FB, (k9.trans (.same sA)).trans kfB⟩
      rw [List.take_add_one, hj]
      exact .snoc ht hwv hsp
    · rintro σ' H9 ⟨t, y, rfl, e9, ht, F9, k9⟩
      walk_at "w"
      rw [List.length_map, List.take_length] at ht
      refine ⟨by show 2 ≤ sizeLine; decide, fun p hp => ?_⟩
      have sp := sameUpd (o := .tup [V.str (Sg t), V.ref L6]) hp
      exact q p L6 t ws _ upd_same (e9.same sp) ht hh hl (F9.same sp) (k9.trans (.same sp))
end
end FE
/-! ## the words of the law's texts -/
namespace FE
open PySem L2 K01
def TXT1 : Str := "\"a; \"\" #\""
def TXT2 : Str := "\"\""
def tokW (w : Str) : Str × V := if w = TXT1 then ("text", .str "a; \" #") else if w = TXT2 then ("text", .str "") else match stretchTok (cp w) with
  | some p => p
  | none => ("mark", .str w)
def pairC (c d : Nat) : Bool := pairB [c, d] && (!isLF c && (!decide (c = 34) && (!decide (c = 35) && (!decide (c = 32) && !decide (c = 10)))))
def clsW (w : Str) : Bool := (!(cp w).isEmpty && ((cp w).all isLF && (stretchTok (cp w)).isSome)) || (match cp w with
  | [c] => mark1 c && (stretchTok [c]).isNone
  | [c, d] => pairC c d && (stretchTok [c, d]).isNone
  | _ => false)
theorem seg_voc {w : Str} (h : w ∈ VOC) : ∃ k, TokSeg k (cp w) (tokW w).1 (tokW w).2 := by
  by_cases h1 : w = TXT1
  · subst h1
    have e : cp TXT1 = 34 :: (dbl (cp "a; \" #") ++ [34]) := by decide +kernel
    rw [e]
    exact ⟨.text, seg_text (by decide +kernel)⟩
  by_cases h2 : w = TXT2
  · subst h2
    have e : cp TXT2 = 34 :: (dbl (cp "") ++ [34]) := by decide +kernel
    rw [e]
    exact ⟨.text, seg_text (by decide +kernel)⟩
  have hc := (by decide +kernel : ∀ w ∈ VOC, w ≠ TXT1 → w ≠ TXT2 → clsW w = true) w h h1 h2
  have eT : tokW w = match stretchTok (cp w) with | some p => p | none => ("mark", .str w) := by
    unfold tokW
    rw [if_neg h1, if_neg h2]
  rw [eT]
  unfold clsW at hc
  rw [Bool.or_eq_true] at hc
  rcases hc with hc | hc
  · simp only [Bool.and_eq_true, Bool.not_eq_true'] at hc
    obtain ⟨a, b, c⟩ := hc
    obtain ⟨⟨s, v⟩, hs⟩ := Option.isSome_iff_exists.mp c
    rw [hs]
    exact ⟨.word, seg_word (by intro e; rw [e] at a; cases a) b hs⟩
  · split at hc
    · rename_i c e
      rw [Bool.and_eq_true] at hc
      rw [e]
      have hn : stretchTok [c] = none := Option.isNone_iff_eq_none.mp hc.2
      rw [hn]
      have ew : w = Sg [c] := by
        rw [← Sg_of w]
        exact congrArg Sg e
      rw [ew]
      exact ⟨.mark, seg_mark1 hc.1⟩
    · rename_i c d e
      rw [Bool.and_eq_true] at hc
      rw [e]
      have hn : stretchTok [c, d] = none := Option.isNone_iff_eq_none.mp hc.2
      rw [hn]
      have ew : w = Sg [c, d] := by
        rw [← Sg_of w]
        exact congrArg Sg e
      rw [ew]
      exact ⟨.mark, seg_mark2 hc.1⟩
    · cases hc
/-- t is cut into words, f of the line it begins at -/
def TS (t : List Nat) (f : Int → List TK) : Prop := (∀ rest l r, Lex rest (l + K01.nl t) r → Lex (t ++ rest) l (Res.app (f l) r)) ∧ ∀ l k, f (l + k) = (f l).map (shT k)
theorem res_nil (r : Res) : Res.app [] r = r := by cases r <;> rfl
theorem res_app (a b : List TK) (r : Res) : Res.app a (Res.app b r) = Res.app (a ++ b) r := by
  cases r with
  | error l => rfl
  | ok ks =>
    show Except.ok (a ++ (b ++ ks)) = Except.ok (a ++ b ++ ks)
    rw [List.append_assoc]
theorem TS.skip {t : List Nat} (h : SkipSeg t) : TS t fun _ => [] := ⟨fun rest l r k => by rw [res_nil]; exact h rest l r k, fun _ _ => rfl⟩
theorem TS.app {t u : List Nat} {f g : Int → List TK} (h : TS t f) (k : TS u g) : TS (t ++ u) fun l => f l ++ g (l + K01.nl t) := by
  refine ⟨fun rest l r z => ?_, fun l j => ?_⟩
  · rw [List.append_assoc, ← res_app]
    refine h.1 _ l _ (k.1 _ _ _ ?_)
    rw [K01.nl_app] at z
    rw [Int.add_assoc]
    exact z
  · show f (l + j) ++ g (l + j + K01.nl t) = (f l ++ g (l + K01.nl t)).map (shT j)
    rw [List.map_append, h.2, ← k.2, show l + j + K01.nl t = l + K01.nl t + j by omega]
theorem TS.lex {t : List Nat} {f : Int → List TK} (h : TS t f) (l : Int) : Lex t l (.ok (f l)) := by
  have z := h.1 [] l (.ok []) .nil
  rw [List.append_nil] at z
  have e : Res.app (f l) (.ok []) = .ok (f l) := by
    show Except.ok (f l ++ []) = _
    rw [List.append_nil]
  rw [e] at z
  exact z
theorem sep_skip {z : Str} (h : z ∈ SEPS) : SkipSeg (cp z) ∧ ∀ k rest, headNot (stopK k) (cp z ++ rest) := by
  unfold SEPS at h
  have hn : ∀ c, c = 32 ∨ c = 10 → ∀ k r, headNot (stopK k) (c :: r) := fun c hc k r => by
    show stopK k c = false
    rcases hc with rfl | rfl <;> cases k <;> decide +kernel
  simp only [List.mem_cons, List.not_mem_nil, or_false] at h
  rcases h with rfl | rfl | rfl | rfl
  · exact ⟨skip_blank skip_nil, fun k rest => by rw [show cp " " = [32] from by decide +kernel]; exact hn 32 (.inl rfl) k rest⟩
  · exact ⟨skip_line skip_nil, fun k rest => by rw [show cp "\n" = [10] from by decide +kernel]; exact hn 10 (.inr rfl) k rest⟩
  · exact ⟨skip_blank (skip_note (x := cp " x ( ") (by decide +kernel) (skip_line skip_nil)), fun k rest => by rw [show cp " # x ( \n" = 32 :: cp "# x ( \n" from by decide +kernel]; exact hn 32 (.inl rfl) k _⟩
  · exact ⟨skip_blank skip_nil, fun k rest => by rw [show cp " " = [32] from by decide +kernel]; exact hn 32 (.inl rfl) k rest⟩
theorem voc_nl {w : Str} (h : w ∈ VOC) : K01.nl (cp w) = 0 := (by decide +kernel : ∀ w ∈ VOC, K01.nl (cp w) = 0) w h
theorem TS.word {w z : Str} (h : w ∈ VOC) (hz : z ∈ SEPS) : TS (cp w ++ cp z) fun l => [⟨(tokW w).1, (tokW w).2, l⟩] := by
  obtain ⟨k, hk⟩ := seg_voc h
  obtain ⟨h1, h2⟩ := sep_skip hz
  refine ⟨fun rest l r y => ?_, fun l j => rfl⟩
  rw [K01.nl_app, voc_nl h, Int.zero_add] at y
  have e : Res.app [⟨(tokW w).1, (tokW w).2, l⟩] r = Res.cons ⟨(tokW w).1, (tokW w).2, l⟩ r := by cases r <;> rfl
  rw [e, List.append_assoc]
  exact hk _ l r (h2 k rest) (h1 rest l r y)
/-- what stands in the words, lines aside -/
def valsOf (ws : List Str) : List (Str × V) := ws.map tokW
theorem tx_ts {t : List Nat} {ws : List Str} (h : Tx t ws) : ∃ f, TS t f ∧ ∀ l, (f l).map (fun k => (k.s, k.v)) = valsOf ws := by
  induction h with
  | pre h =>
    simp only [List.mem_cons, List.not_mem_nil, or_false] at h
    rcases h with rfl | rfl
    · exact ⟨_, .skip skip_nil, fun _ => rfl⟩
    · exact ⟨_, .skip (skip_note (x := cp " so \"") (by decide +kernel) (skip_line skip_nil)), fun _ => rfl⟩
  | snoc _ h1 h2 ih =>
    obtain ⟨f, hf, hv⟩ := ih
    refine ⟨_, by rw [List.append_assoc]; exact hf.app (.word h1 h2), fun l => ?_⟩
    rw [List.map_append, hv]
    unfold valsOf
    rw [List.map_append]
    rfl
end FE
namespace L2
open PySem PySem.Spec PyProof.Rows
theorem w_M1 {r : V → List V → Hp → VK → Prop} {to te : TE} {σ : L2.St} {H : Hp} {Q : VK} (q : to σ H fun x H1 => (∃ a, x = .str a) ∧ te σ H1 fun y H2 => r x [y] H2 Q) : tM1 r to te σ H Q := q
end L2
namespace FE
open PySem L2 K01
abbrev s_law_long : Stmt := top 83
abbrev N_law_long : List Str := ["flow", "text", "many"]
abbrev P_law_long : List Str := ["flow", "text"]
theorem sc_law_long : FnScope N_law_long P_law_long (defScope s_law_long) := ⟨rfl, rfl, rfl, by decide +kernel, rfl, by decide +kernel, by decide +kernel⟩
structure Txm (mg : Str → Option Value) : Prop where
  f_max : mg "max" = none
  f_min : mg "min" = none
  f_len : mg "len" = none
/-- a text and n times more, lines apart -/
def rep (t : List Nat) : Nat → List Nat
  | 0 => t
  | n + 1 => t ++ (10 :: rep t n)
theorem rep_len (t : List Nat) : ∀ n, (rep t n).length + 1 = (n + 1) * (t.length + 1)
  | 0 => by
    show t.length + 1 = _
    omega
  | n + 1 => by
    show (t ++ (10 :: rep t n)).length + 1 = _
    rw [List.length_append, List.length_cons, rep_len t n, Nat.add_mul (n + 1) 1, Nat.one_mul]
    omega
theorem join_rep (t : List Nat) : ∀ n, TL.joinL [10] (List.replicate (n + 1) t) = rep t n
  | 0 => rfl
  | n + 1 => by
    rw [List.replicate_succ, join_cons (by rw [List.replicate_succ]; simp), join_rep t n]
    rfl
theorem join_txt (t : List Nat) (n : Nat) : Txt.join "\n" (List.replicate (n + 1) (Sg t)) = Sg (rep t n) := by
  refine TL.ext_tl ?_
  rw [TL.join_eq, TL.tl_join, List.map_replicate]
  exact join_rep t n
def spLong : Sp := fun vs H Q _ => ∃ f s t, vs = [.ref f, .str (Sg t)] ∧ Flow H f s ∧ t.length ≤ 45000 ∧ ∀ n H', (rep t n).length ≤ 45000 → Flow H' f s → KeepF f H H' → Q (.str (Sg (rep t n))) H'
theorem sum_rep (x : Nat) : ∀ n, (List.replicate n x).sum = n * x
  | 0 => by rw [Nat.zero_mul]; rfl
  | n + 1 => by
    rw [List.replicate_succ, List.sum_cons, sum_rep x n, Nat.succ_mul]
    omega
theorem flat_one {α : Type} (x : α) : ∀ n, (List.replicate n [x]).flatten = List.replicate n x
  | 0 => rfl
  | n + 1 => by
    rw [List.replicate_succ, List.flatten_cons, flat_one x n]
    rfl
section
variable {P : Program} {w : World} {K : PySem.W.Frag} {mg : Str → Option Value} {base : Heap} {m r : Nat}
theorem ok_law_long (T : Txm mg) {f : Addr} {fd : FuncData} (F : FnP K "_law_long" s_law_long f fd) (D_law_draw : Cal P w K mg base CX0 2 "_law_draw" P_law_draw spDraw) :
    FnOk P w K mg base CX0 3 f fd P_law_long spLong := by
  refine F.ok sc_law_long (fun vs H Q E h => ?_) (fun cdv A outer s H vs Q E hr h => ?_)
  · obtain ⟨f, s, t, rfl, _⟩ := h
    rfl
  · obtain ⟨f, s, t, rfl, FL, hz, q⟩ := h
    refine ⟨_, PSs.nox (pss_cons (ps_set (i := 2) sc_law_long.nd rfl (Or.inl rfl) (pe_ix ix_list (pe_lst (pa_cons pe_int (pa_cons pe_int (pa_cons pe_int (pa_cons pe_int (pa_cons pe_int (pa_cons pe_int (pa_cons pe_int (pa_cons pe_int pa_nil))))))))) (pe_cal D_law_draw hr rfl rfl pass0 (pa_cons (pv 0) (pa_cons pe_int pa_nil))) (fun _ _ => rfl)))
  (pss_one (ps_ret (pe_join pe_str (pe_op op_rep (pe_lst (pa_cons (pv 1) pa_nil)) (pe_callB (call_max2 rfl) (by rfl) T.f_max (by decide +kernel) (pa_cons pe_int (pa_cons (pe_callB (call_min2 rfl) (by rfl) T.f_min (by decide +kernel) (pa_cons (pv 2) (pa_cons (pe_op op_fdivW pe_int (pe_op op_add (pe_callB call_lenS (by rfl) T.f_len (by decide +kernel) (pa_cons (pv 1) pa_nil)) pe_int)) pa_nil))) pa_nil)))))))), ?_⟩
    walk_at "w"
    refine ⟨by show 8 ≤ sizeLine; decide, fun p hp => ?_⟩
    have sp := sameUpd (o := .lst (([1, 1, 1, 1, 1, 2, 9, 400] : List Int).map V.int)) hp
    have e0 := upd_same (H := H) (a := p) (o := .lst (([1, 1, 1, 1, 1, 2, 9, 400] : List Int).map V.int))
    change tCall _ _ _ _ _ (upd H p (.lst (([1, 1, 1, 1, 1, 2, 9, 400] : List Int).map V.int))) _
    generalize upd H p (.lst (([1, 1, 1, 1, 1, 2, 9, 400] : List Int).map V.int)) = H2 at sp e0 ⊢
    have F2 := FL.same sp
    walk_at "w"
    refine ⟨f, s, 8, rfl, F2, by decide, by decide, fun d H3 d0 d1 F3 k3 => ?_⟩
    have pf : p ≠ f := FL.free hp
    refine pickN (k3 _ _ pf e0) rfl d0 d1 fun n hn => ?_
    have hn2 : 1 ≤ n ∧ n ≤ 400 := (by decide : ∀ m ∈ ([1, 1, 1, 1, 1, 2, 9, 400] : List Int), 1 ≤ m ∧ m ≤ 400) n hn
    walk_at "w"
    refine w_M1 ?_
    walk_at "w"
    refine ⟨⟨_, rfl⟩, ?_⟩
    walk_at "w"
    refine ⟨by show 1 ≤ sizeLine; decide, fun p5 h_p5 => ?_⟩
    have s_H5 : Same H3 (upd H3 p5 (.lst [V.str (Sg t)])) := sameUpd h_p5
    have e_H5 : WL (upd H3 p5 (.lst [V.str (Sg t)])) p5 (W1 (Sg t)) := upd_same
    generalize upd H3 p5 (.lst [V.str (Sg t)]) = H5 at s_H5 e_H5 ⊢
    walk_at "w"
    refine w_lenS (by rw [Sg_len]; have : sizeLine = 16777216 := rfl; omega) ?_
    rw [Sg_len]
    walk_at "w"
    have hq0 : (0 : Int) ≤ 9900 / ((t.length : Int) + 1) := Int.ediv_nonneg (by decide) (by omega)
    refine w_I (wide_div (b := 20) (by omega) (by have : (2 : Nat) ^ 20 = 1048576 := rfl; omega) (by decide) (by decide)) ?_
    walk_at "w"
    refine ⟨_, _, rfl, ?_⟩
    walk_at "w"
    refine ⟨_, _, rfl, ?_⟩
    obtain ⟨k, hk, hkl⟩ : ∃ k : Nat, (if (if 9900 / ((t.length : Int) + 1) < n then 9900 / ((t.length : Int) + 1) else n) > 1 then (if 9900 / ((t.length : Int) + 1) < n then 9900 / ((t.length : Int) + 1) else n) else (1 : Int)) = ((k + 1 : Nat) : Int) ∧ (rep t k).length ≤ 45000 := by
      generalize hx : (if 9900 / ((t.length : Int) + 1) < n then 9900 / ((t.length : Int) + 1) else n) = x
      have hx1 : x ≤ 9900 / ((t.length : Int) + 1) := by
        rw [← hx]
        split <;> omega
      by_cases h1 : x > 1
      · rw [if_pos h1]
        refine ⟨(x - 1).toNat, by omega, ?_⟩
        have hm : x * ((t.length : Int) + 1) ≤ 9900 := by
          have a := Int.mul_le_mul_of_nonneg_right hx1 (show (0 : Int) ≤ (t.length : Int) + 1 by omega)
          have b := Int.ediv_mul_le 9900 (show ((t.length : Int) + 1) ≠ 0 by omega)
          omega
        have e := rep_len t (x - 1).toNat
        have e2 : (((x - 1).toNat + 1 : Nat) : Int) = x := by omega
        have e3 : (((rep t (x - 1).toNat).length + 1 : Nat) : Int) = x * ((t.length : Int) + 1) := by
          rw [e, Int.natCast_mul, e2]
          rfl
        omega
      · rw [if_neg h1]
        exact ⟨0, rfl, hz⟩
    rw [hk]
    have hkl2 := rep_len t k
    have hk2 : k + 1 ≤ 45001 := by
      have : (k + 1) * 1 ≤ (k + 1) * (t.length + 1) := Nat.mul_le_mul_left _ (by omega)
      omega
    refine ⟨p5, _, _, rfl, rfl, e_H5, by omega, by omega, by rw [Int.toNat_natCast]; show 1 * (k + 1) ≤ 16777216; omega, fun p6 h_p6 => ?_⟩
    rw [Int.toNat_natCast, show ((W1 (Sg t)).map V.str) = [V.str (Sg t)] from rfl, flat_one]
    have s6 := sameUpd (o := .lst (List.replicate (k + 1) (V.str (Sg t)))) h_p6
    refine ⟨"\n", p6, List.replicate (k + 1) (Sg t), rfl, rfl, .inl (.of (by rw [List.map_replicate]; exact upd_same)), ?_, ?_⟩
    · rw [List.map_replicate, sum_rep, List.length_replicate, Sg_len]
      have e1 : ("\n" : Str).length = 1 := rfl
      rw [e1]
      have : (k + 1) * (t.length + 1) = (k + 1) * t.length + (k + 1) := Nat.mul_succ _ _
      show (k + 1) * t.length + (k + 1) * 1 ≤ _
      omega
    · rw [join_txt]
      exact q k _ hkl ((F3.same s_H5).same s6) ((((KeepF.same sp).trans k3).trans (.same s_H5)).trans (.same s6))
end
end FE
namespace L2
open PySem PySem.Spec PyProof.Rows
/-- behind the test a token is out -/
def PT1 (X : Cx) (e : Expr) (t : TT) : Prop := ∀ (pins : List (Addr × Obj)) (s : Shared) (σ : L2.St) (H : Hp) (Q : Bool → Hp → Prop), Inv X pins σ H s → t σ H Q →
  wpAny (model X.prog X.w) X.A (isTrue e X.env (eval e X.env)) (fun b s' => 1 ≤ s'.toks ∧ TP X pins σ Q b s') X.xe s
theorem pt1_eqc {X : Cx} {a : Expr} {ta : TE} {z : Str} {j : Nat} {cpos pos : Pos} (ha : PE X a ta) : PT1 X (.Compare a [.Eq] [.Constant (.str z) j cpos] pos) (tTest (tOp rEq ta (tC (.str z)))) := by
  intro pins s σ H Q I h
  refine wpAny_isTrue_Compare1 (thn (ha.run pins s σ H _ I h) fun v s1 w => ?_) (by rfl)
  obtain ⟨x, H1, I1, r1, q1⟩ := w
  refine Calls.Constant_str (thnN (n := 1) (show 1 ≤ s1.toks + 1 from Nat.succ_le_succ (Nat.zero_le _)) (op_eq pins { s1 with toks := s1.toks + 1 } σ H1 x (.str z) v (.str z s1.toks) (fun y H' => ∃ k, y = V.bl k ∧ Q k H') (I1.tok _) r1 ⟨_, rfl⟩ q1) fun c s3 k3 w => ?_)
  obtain ⟨y, H3, I3, r3, d, rfl, q3⟩ := w
  cases r3
  exact wpAny_truthy_bool ⟨k3, H3, I3, q3⟩
theorem ps_ifT {X : Cx} {c : Expr} {sa sb : List Stmt} {tt : TT} {t u : TS} {pos : Pos} (hc : PT1 X c tt) (ha : PSsn 1 X sa t) (hb : PSsn 1 X sb u) : PS X (.If c sa sb pos) (tIfS tt t u) := ⟨fun pins s σ H D I h =>
  wpAny_If (thn (hc pins s σ H _ I h) fun d s1 z => by
    obtain ⟨k1, H1, I1, q1⟩ := z
    cases d
    · exact hb pins s1 σ H1 D k1 I1 q1
    · exact ha pins s1 σ H1 D k1 I1 q1)⟩
theorem w_replC {to : TE} {y z : Str} {σ : L2.St} {H : Hp} {Q : VK} (q : to σ H fun v H1 => ∃ x, v = .str x ∧ x.length + (x.length + 1) * z.length ≤ 16777216 ∧ Q (.str (Txt.replace x y z)) H1) : CwR.tReplC to y z σ H Q := q
end L2
namespace FE
open PySem L2 K01
abbrev s_law_spelled : Stmt := top 82
abbrev N_law_spelled : List Str := ["word"]
abbrev P_law_spelled : List Str := ["word"]
theorem sc_law_spelled : FnScope N_law_spelled P_law_spelled (defScope s_law_spelled) := ⟨rfl, rfl, rfl, by decide +kernel, rfl, by decide +kernel, by decide +kernel⟩
def spSpelled : Sp := fun vs H Q _ => ∃ w, vs = [.str (Sg (cp w))] ∧ w ∈ VOC ∧ Q (tokW w).2 H
section
variable {P : Program} {w : World} {K : PySem.W.Frag} {mg : Str → Option Value} {base : Heap} {m r : Nat}
structure Txs (mg : Str → Option Value) : Prop where
  f_int : mg "int" = none
theorem ok_law_spelled (T : Txs mg) {f : Addr} {fd : FuncData} (F : FnP K "_law_spelled" s_law_spelled f fd) : FnOk P w K mg base CX0 1 f fd P_law_spelled spSpelled := by
  refine F.ok sc_law_spelled (fun vs H Q E h => ?_) (fun cdv A outer s H vs Q E hr h => ?_)
  · obtain ⟨w, rfl, _⟩ := h
    rfl
  · obtain ⟨z, rfl, hz, q⟩ := h
    refine ⟨_, PSs.nox (pss_cons (ps_ifT (pt1_eqc (pe_ix ix_str (pv 0) pe_int (fun _ _ => rfl))) (pssn_one (psn_ret (CwR.pet_replC (pe_slice sl_str (pv 0) (po_some pe_int) (po_some (pe_un un_neg pe_int)))))) pssn_nil)
  (pss_one (ps_ret (pe_ifExp (pt_cmpR op_inSg (pe_ix ix_str (pv 0) pe_int (fun _ _ => rfl)) pe_str (by rfl)) (pe_callTy call_intS (by rfl) T.f_int (by decide +kernel) (pa_cons (pv 0) pa_nil)) (pv 0))))), ?_⟩
    obtain ⟨c, t, hc⟩ : ∃ c t, cp z = c :: t := by
      have := (by decide +kernel : ∀ w ∈ VOC, (cp w).isEmpty = false) z hz
      cases e : cp z with
      | nil => rw [e] at this; cases this
      | cons c t => exact ⟨c, t, rfl⟩
    have h0 : (cp z)[0]? = some c := by rw [hc]; rfl
    walk_at "w"
    have hl : (cp z).length ≤ big := by
      have := voc_len hz
      have hb : big = 200000 := rfl
      omega
    refine w_ixSg (a := 0) hl h0 ?_
    walk_at "w"
    refine w_eq rfl ?_
    by_cases h34 : c = 34
    · subst h34
      have hw := (by decide +kernel : ∀ w ∈ VOC, (cp w).head? = some 34 → w = TXT1 ∨ w = TXT2) z hz (by rw [hc]; rfl)
      rw [decide_eq_true (show V.str (Sg [34]) = V.str "\"" from rfl)]
      walk_at "w"
      refine w_replC ?_
      walk_at "w"
      rcases hw with rfl | rfl
      · refine ⟨_, rfl, by rw [Sg_len]; exact Nat.le_trans hl size_big, _, rfl, ?_, ?_⟩
        · decide +kernel
        · show Q (V.str (Txt.replace (cutS (Sg (cp TXT1)) (some 1) (some (-1))) "\"\"" "\"")) H
          rw [show V.str (Txt.replace (cutS (Sg (cp TXT1)) (some 1) (some (-1))) "\"\"" "\"") = (tokW TXT1).2 from by decide +kernel]
          exact q
      · refine ⟨_, rfl, by rw [Sg_len]; exact Nat.le_trans hl size_big, _, rfl, ?_, ?_⟩
        · decide +kernel
        · show Q (V.str (Txt.replace (cutS (Sg (cp TXT2)) (some 1) (some (-1))) "\"\"" "\"")) H
          rw [show V.str (Txt.replace (cutS (Sg (cp TXT2)) (some 1) (some (-1))) "\"\"" "\"") = (tokW TXT2).2 from by decide +kernel]
          exact q
    · have n1 : z ≠ TXT1 := fun e => h34 (by subst e; exact (Option.some.inj (h0.symm.trans (by decide +kernel : (cp TXT1)[0]? = some 34))))
      have n2 : z ≠ TXT2 := fun e => h34 (by subst e; exact (Option.some.inj (h0.symm.trans (by decide +kernel : (cp TXT2)[0]? = some 34))))
      rw [decide_eq_false (fun e => h34 (by have e := V.str.inj e; have e : [c] = [34] := Sg_inj e; exact List.head_eq_of_cons_eq e))]
      walk_at "w"
      refine w_ixSg (a := 0) hl h0 ?_
      walk_at "w"
      by_cases hd : c ∈ ("0123456789" : Str).cps.toList
      · have hw := (by decide +kernel : ∀ w ∈ VOC, (∃ c ∈ ("0123456789" : Str).cps.toList, (cp w).head? = some c) → ∃ p ∈ ([("7", 7), ("0", 0), ("576460752303423487", 576460752303423487)] : List (Str × Int)), p.1 = w) z hz ⟨c, hd, by rw [hc]; rfl⟩
        rw [decide_eq_true hd]
        walk_at "w"
        have hi := (by decide +kernel : ∀ p ∈ ([("7", 7), ("0", 0), ("576460752303423487", 576460752303423487)] : List (Str × Int)), PySem.intText? (Sg (cp p.1)) = some p.2 ∧ (Sg (cp p.1)).length ≤ 640 ∧ (tokW p.1).2 = .int p.2)
        obtain ⟨pn, hw, rfl⟩ := hw
        obtain ⟨i1, i2, i3⟩ := hi _ hw
        refine ⟨Sg (cp pn.1), pn.2, rfl, i1, i2, ?_⟩
        rw [← i3]
        exact q
      · rw [decide_eq_false hd]
        walk_at "w"
        have hw := (by decide +kernel : ∀ w ∈ VOC, w ≠ TXT1 → w ≠ TXT2 → (∀ c ∈ ("0123456789" : Str).cps.toList, (cp w).head? ≠ some c) → (tokW w).2 = .str (Sg (cp w))) z hz n1 n2 fun d hd' e => hd (by rw [hc] at e; cases e; exact hd')
        rw [hw] at q
        exact q
end
end FE
namespace L2
open PySem
theorem PSsn.nox {n : Nat} {X : Cx} {st : List Stmt} {t : TS} (h : PSsn n X.nox st t) : PSsn n X st t := fun pins s σ H D hn I hw =>
  wpAny_mono (h pins s σ H D hn (I.wish _) hw) (fun _ _ q => q.unwish) fun _ _ z => z.elim
end L2
namespace FE
open PySem L2 K01
abbrev s_law_asked : Stmt := top 80
abbrev N_law_asked : List Str := ["text", "found", "e"]
abbrev P_law_asked : List Str := ["text"]
theorem sc_law_asked : FnScope N_law_asked P_law_asked (defScope s_law_asked) := ⟨rfl, rfl, rfl, by decide +kernel, rfl, by decide +kernel, by decide +kernel⟩
structure Txk (P : Program) (K : PySem.W.Frag) (mg : Str → Option Value) : Prop where
  e_BadText : PySem.SupXBadText.SupTxt P K mg (He.ga K "BadText") (He.ma K (He.ga K "BadText") "__init__")
  e_TooDeep : ErrTxt K mg "TooDeep" (He.ga K "TooDeep")
  mDB : PySem.W.exmOne K (.ref (He.ga K "TooDeep")) (.ref (He.ga K "BadText")) = some false
  mDD : PySem.W.exmOne K (.ref (He.ga K "TooDeep")) (.ref (He.ga K "TooDeep")) = some true
/-- what is told of a text -/
inductive Ask where
  | told (ds : List D)
  | bad (l : Int)
  | deep
def askOf (t : List Nat) (ks : List TK) : Ask := match pAll ks with
  | .out => .deep
  | .bad q => .bad (lineOf (1 + nl t) q)
  | .ok ds _ => if isDeep ds = true then .deep else .told ds
def AskAt (H : Hp) (p : Addr) : Ask → Prop
  | .told ds => ∃ v, H p = some (.tup [.str "told", v]) ∧ Rep H v (.tup ds)
  | .bad l => H p = some (.tup [.str "bad", .int l])
  | .deep => H p = some (.tup [.str "deep", .int 0])
def spAsked : Sp := fun vs H Q _ => ∃ t ks, vs = [.str (Sg t)] ∧ t.length ≤ big ∧ Lex t 1 (.ok ks) ∧ (∀ ds q, pAll ks = .ok ds q → Fits ds) ∧ pAll ks ≠ .out ∧ ∀ p H', Same H H' → AskAt H' p (askOf t ks) → Q (.ref p) H'
def tsD : Addr → Value → Option Addr → L2.TS := fun _ _ _ => tAsg (tTup (tCons (tC (.str "deep")) (tCons (tC (.int 0)) tNil))) (gName 1)
def tsBd (K : PySem.W.Frag) : Addr → Value → Option Addr → L2.TS := fun a cls d => tAsg (tTup (tCons (tC (.str "bad")) (tCons (tByBadText (He.ga K "BadText") a cls d (tVar 2)) tNil))) (gName 1)
section
variable {P : Program} {w : World} {K : PySem.W.Frag} {mg : Str → Option Value} {base : Heap} {n : Nat}
theorem ok_law_asked (T : Txk P K mg) {f : Addr} {fd : FuncData} (F : FnP K "_law_asked" s_law_asked f fd) (D_read : CalN n P w K mg base (L2.CX P w) 182 "read" P_read (spRead K)) :
    FnN n P w K mg base CX0 183 f fd P_law_asked spAsked := by
  refine F.okN sc_law_asked (fun vs H Q E h => ?_) (fun cdv A outer s H vs Q E hr h => ?_)
  · obtain ⟨t, ks, rfl, _⟩ := h
    rfl
  · have hgl : ∀ {x : Str}, (defScope s_law_asked).names.lookup x = some .globalImplicit → Gl (cxOf CX0 P w K mg base N_law_asked "_law_asked" (defScope s_law_asked) f cdv A outer s H E).nox x := fun e => e
    refine ⟨_, PSsn.nox (pssn_cons (psn_try_manyB (X := (cxOf CX0 P w K mg base N_law_asked "_law_asked" (defScope s_law_asked) f cdv A outer s H E).nox) (Wout := fun _ _ _ _ => False)
      (tb := fun W => tAsg (tTup (tCons (tC (.str "told")) (tCons (tCallS (spRead K) (WE W) (tCons (tVar 0) tNil)) tNil))) (gName 1))
      (l := [⟨.ref (He.ga K "BadText"), some 2, tsBd K⟩, ⟨.ref (He.ga K "TooDeep"), none, tsD⟩]) rfl rfl sc_law_asked.nd L2.takes0 (fun W pn xe tk _ => ?_)
      (.cons rfl rfl rfl ⟨hgl rfl, by decide, .inl T.e_BadText.gC⟩ (fun a oe cls d pn hz hf => ?_) (.bare rfl ⟨hgl rfl, by decide, .inl T.e_TooDeep.gC⟩ (fun a oe cls d pn hz hf => ?_) .nil))) (pssn_one (psn_of (ps_ret (pv 1))))), ?_⟩
    · exact pssn_one (psn_asg (pen_tup (pan_cons (pen_of pe_str) (pan_cons (pen_calS D_read hr rfl rfl tk (pan_cons (pen_of (pv 0)) (pan_of pa_nil))) (pan_of pa_nil)))) (pg_name (i := 1) sc_law_asked.nd rfl (.inl rfl)))
    · exact pss_one (ps_asg (pe_tup (pa_cons pe_str (pa_cons (pe_byBadText (X := (cxOf CX0 P w K mg base N_law_asked "_law_asked" (defScope s_law_asked) f cdv A outer s H E).nox) T.e_BadText hz hf (pv 2)) pa_nil))) (pg_name (i := 1) sc_law_asked.nd rfl (.inl rfl)))
    · exact pss_one (ps_asg (pe_tup (pa_cons pe_str (pa_cons pe_int pa_nil))) (pg_name (i := 1) sc_law_asked.nd rfl (.inl rfl)))
    · obtain ⟨t, ks, rfl, hz, hL, hF, hO, q⟩ := h
      walk_at "w"
      refine ⟨t, _, rfl, hz, hL, ?_⟩
      unfold askOf at q
      dsimp only
      cases e : pAll ks with
      | out => exact absurd e hO
      | bad q0 =>
        rw [e] at q
        intro H' s' d hd
        refine ⟨true, T.e_BadText.te, fun _ a ha => ?_, fun z => Bool.noConfusion z⟩
        show tsBd K a _ (some d) _ ((L2.start N_law_asked [V.str (Sg t)]).set 2 (some (.ref a))) _
        unfold tsBd
        walk_at "w"
        refine ⟨_, rfl, rfl, rfl, d, _, rfl, upd_same, ?_⟩
        walk_at "w"
        refine ⟨by show 2 ≤ sizeLine; decide, fun p hp => ?_⟩
        show tRet (tVar 1) { nx := fun _ H' => Q .non H', rt := Q } (((L2.start N_law_asked [V.str (Sg t)]).set 2 (some (.ref a))).set 1 (some (V.ref p)) |>.set 2 none) _
        exact w_ret (w_var rfl (q p _ ((s'.trans (sameUpd hd)).trans (sameUpd hp)) upd_same))
      | ok ds q0 =>
        rw [e] at q
        dsimp only at q
        refine ⟨hF ds q0 e, ?_⟩
        cases hd : isDeep ds with
        | true =>
          rw [hd, if_pos rfl] at q
          rw [if_pos rfl]
          intro H' s'
          refine ⟨false, T.mDB, fun z => Bool.noConfusion z, fun _ => ⟨true, T.mDD, fun _ a ha => ?_, fun z => Bool.noConfusion z⟩⟩
          show tsD a (.ref (He.ga K "TooDeep")) none _ (L2.start N_law_asked [V.str (Sg t)]) H'
          unfold tsD
          walk_at "w"
          refine ⟨by show 2 ≤ sizeLine; decide, fun p hp => ?_⟩
          show tRet (tVar 1) { nx := fun _ H' => Q .non H', rt := Q } ((L2.start N_law_asked [V.str (Sg t)]).set 1 (some (V.ref p))) _
          exact w_ret (w_var rfl (q p _ (s'.trans (sameUpd hp)) upd_same))
        | false =>
          rw [hd, if_neg Bool.false_ne_true] at q
          rw [if_neg Bool.false_ne_true]
          intro v H' s' r
          walk_at "w"
          refine ⟨by show 2 ≤ sizeLine; decide, fun p hp => ?_⟩
          walk_at "w"
          exact q p _ (s'.trans (sameUpd hp)) ⟨v, upd_same, r.same (sameUpd hp)⟩
end
end FE
/-! ## the plain law -/
namespace FE
open PySem L2 K01
theorem ts_line {t : List Nat} {f : Int → List TK} (h : TS t f) : TS (10 :: t) fun l => f (l + 1) := by
  have z := (TS.skip (t := [10]) (skip_line skip_nil)).app h
  exact z
/-- the words of a text that is there n times more -/
theorem ts_rep {t : List Nat} {f : Int → List TK} {vs : List (Str × V)} (h : TS t f) (hv : ∀ l, (f l).map (fun k => (k.s, k.v)) = vs) : ∀ n, ∃ g, TS (rep t n) g ∧ ∀ l, (g l).map (fun k => (k.s, k.v)) = (List.replicate (n + 1) vs).flatten
  | 0 => ⟨f, h, fun l => by
    rw [hv]
    show vs = vs ++ []
    rw [List.append_nil]⟩
  | n + 1 => by
    obtain ⟨g, hg, hw⟩ := ts_rep h hv n
    refine ⟨_, h.app (ts_line hg), fun l => ?_⟩
    rw [List.map_append, hv, hw, List.replicate_succ (n := n + 1), List.flatten_cons]
/-- two texts, a line between -/
theorem ts_two {t u : List Nat} {f g : Int → List TK} (h : TS t f) (k : TS u g) : TS (t ++ (10 :: u)) fun l => f l ++ (g l).map (shT (1 + K01.nl t)) := by
  have z := h.app (ts_line k)
  have e : (fun l => f l ++ g (l + K01.nl t + 1)) = fun l => f l ++ (g l).map (shT (1 + K01.nl t)) := funext fun l => by
    rw [← k.2, show l + (1 + K01.nl t) = l + K01.nl t + 1 by omega]
  rw [← e]
  exact z
theorem lineOf_sh (k last : Int) (q : List TK) : lineOf (last + k) (q.map (shT k)) = lineOf last q + k := by
  cases q <;> rfl
/-- what is told of two texts -/
theorem asked_two {t u : List Nat} {f g : Int → List TK} (h : TS t f) (k : TS u g) (hu : NoElse (g 1)) : match askOf t (f 1) with
    | .bad l => l > K01.nl t ∨ askOf (t ++ (10 :: u)) (f 1 ++ (g 1).map (shT (1 + K01.nl t))) = .bad l
    | .deep => True
    | .told ds => match askOf u (g 1) with
      | .bad l => askOf (t ++ (10 :: u)) (f 1 ++ (g 1).map (shT (1 + K01.nl t))) = .bad (l + (1 + K01.nl t))
      | .deep => True
      | .told es => askOf (t ++ (10 :: u)) (f 1 ++ (g 1).map (shT (1 + K01.nl t))) = .told (ds ++ es) := by
  have hnl : nl (t ++ 10 :: u) = nl t + (1 + nl u) := by
    rw [nl_app]
    congr 1
    unfold nl
    rw [List.count_cons_self]
    omega
  have hnl2 : K01.nl t = nl t := rfl
  have hu' : NoElse ((g 1).map (shT (1 + K01.nl t))) := by
    show isAhead "else" ((g 1).map (shT (1 + K01.nl t))) = false
    rw [(hd_ahead "else").sh]
    exact hu
  unfold askOf
  cases e1 : pAll (f 1) with
  | out => exact absurd e1 (all_tot _)
  | bad q =>
    try dsimp only
    cases q with
    | nil =>
      left
      show K01.nl t < 1 + nl t
      omega
    | cons x q =>
      right
      rw [all_bad e1]
      rfl
  | ok ds q =>
    try dsimp only
    cases hd : isDeep ds with
    | true => trivial
    | false =>
      try dsimp only
      rw [if_neg Bool.false_ne_true]
      try dsimp only
      rw [all_join hu' e1]
      unfold bn
      rw [all_sh]
      cases e2 : pAll (g 1) with
      | out => exact absurd e2 (all_tot _)
      | bad q2 =>
        show Ask.bad (lineOf (1 + nl (t ++ 10 :: u)) (q2.map (shT (1 + K01.nl t)))) = _
        rw [hnl, hnl2, show 1 + (nl t + (1 + nl u)) = 1 + nl u + (1 + nl t) by omega, lineOf_sh]
      | ok es q2 =>
        try dsimp only
        cases hd2 : isDeep es with
        | true => trivial
        | false =>
          rw [if_neg Bool.false_ne_true]
          show (if isDeep (ds ++ es) = true then Ask.deep else .told (ds ++ es)) = _
          rw [deep_app, hd, hd2]
          rfl
end FE
/-! ## what the law hands on -/
namespace FE
open PySem L2 K01
theorem tx_voc {t : List Nat} {ws : List Str} (h : Tx t ws) : Voc ws := by
  induction h with
  | pre _ => exact .nil
  | snoc _ h1 _ ih => exact ih.app (.one h1)
theorem tok_else {w : Str} (h : w ∈ VOC) (hn : w ≠ "else") : ((decide ((tokW w).1 = "key") || decide ((tokW w).1 = "mark")) && decide ((tokW w).2 = .str "else")) = false := (by decide +kernel : ∀ w ∈ VOC, w ≠ "else" → ((decide ((tokW w).1 = "key") || decide ((tokW w).1 = "mark")) && decide ((tokW w).2 = .str "else")) = false) w h hn
/-- the words of a text do not begin with else -/
theorem noElse_of {ks : List TK} {ws : List Str} (hv : Voc ws) (hd : HdOk ws) {n : Nat} (e : ks.map (fun k => (k.s, k.v)) = (List.replicate (n + 1) (valsOf ws)).flatten) : NoElse ks := by
  cases ks with
  | nil => rfl
  | cons k r =>
    cases ws with
    | nil =>
      have z : ∀ m, (List.replicate m (valsOf [])).flatten = [] := fun m => by
        induction m with
        | zero => rfl
        | succ m ih =>
          rw [List.replicate_succ, List.flatten_cons, ih]
          rfl
      rw [z] at e
      cases e
    | cons w ws =>
      rw [List.replicate_succ, List.flatten_cons] at e
      have e : ((k.s, k.v) :: r.map fun k => (k.s, k.v)) = tokW w :: ((valsOf ws) ++ (List.replicate n (valsOf (w :: ws))).flatten) := e
      have e1 : (k.s, k.v) = tokW w := (List.cons.inj e).1
      have z := tok_else (hv w (List.mem_cons_self ..)) fun h => hd (by rw [h]; rfl)
      rw [← e1] at z
      exact z
/-- two that stand for one tree are alike -/
theorem sm_of {H : Hp} : ∀ {n : Nat} {u v : V} {d : D}, Rep H u d → Rep H v d → Nst n d → Sm H n u v
  | 0, _, _, _, _, _, h => nomatch h
  | n + 1, _, _, _, .s z, hv, _ => by cases hv; exact .inl (.inr (.inr ⟨z, rfl, rfl⟩))
  | n + 1, _, _, _, .i z, hv, _ => by cases hv; exact .inl (.inr (.inl ⟨z, rfl, rfl⟩))
  | n + 1, _, _, _, .non, hv, _ => by cases hv; exact .inl (.inl ⟨rfl, rfl⟩)
  | n + 1, _, _, _, .tup h l e, hv, hn => by
    cases hv with
    | tup h' l' e' =>
      cases hn with
      | tup hn =>
        refine .inr ⟨_, _, _, _, rfl, rfl, .inr ⟨h, h'⟩, by rw [l, l'], fun i u v eu ev => ?_⟩
        have hi := (List.getElem?_eq_some_iff.mp eu).1
        rename_i xs _ _
        have hx := List.getElem?_eq_getElem (l := xs) (i := i) (by omega)
        exact sm_of (e i u _ eu hx) (e' i v _ ev hx) (hn _ (List.getElem_mem _))
end FE
/-! ## what is alike, for the law -/
namespace FE
open PySem L2 K01
def isSc : V → Bool
  | .str _ => true
  | .int _ => true
  | _ => false
theorem tok_sc {w : Str} (h : w ∈ VOC) : isSc (tokW w).2 = true := (by decide +kernel : ∀ w ∈ VOC, isSc (tokW w).2 = true) w h
theorem sm_sc {H : Hp} {v : V} (n : Nat) (h : isSc v = true) : Sm H (n + 1) v v := by
  cases v with
  | str z => exact .inl (.inr (.inr ⟨z, rfl, rfl⟩))
  | int i => exact .inl (.inr (.inl ⟨i, rfl, rfl⟩))
  | _ => cases h
theorem sm_lst {H : Hp} {a b : Addr} {xs ys : List V} (n : Nat) (ha : H a = some (.lst xs)) (hb : H b = some (.lst ys)) (hl : xs.length = ys.length) (h : ∀ (i : Nat) (u v : V), xs[i]? = some u → ys[i]? = some v → Sm H n u v) : Sm H (n + 1) (.ref a) (.ref b) := .inr ⟨a, b, xs, ys, rfl, rfl, .inl ⟨ha, hb⟩, hl, h⟩
/-- words whose worth is a text or a number -/
def ScT (ks : List TK) : Prop := ∀ k ∈ ks, isSc k.v = true
theorem ScT.app {a b : List TK} (h : ScT a) (k : ScT b) : ScT (a ++ b) := fun x hx => (List.mem_append.mp hx).elim (h x) (k x)
theorem ScT.sh {a : List TK} {n : Int} (h : ScT a) : ScT (a.map (shT n)) := fun x hx => by
  obtain ⟨y, hy, rfl⟩ := List.mem_map.mp hx
  exact h y hy
theorem sm_tok {H : Hp} {x y : V} {k : TK} (n : Nat) (h1 : TokAt H x k) (h2 : TokAt H y k) (hs : isSc k.v = true) : Sm H (n + 2) x y := by
  obtain ⟨p, rfl, hp⟩ := h1
  obtain ⟨q, rfl, hq⟩ := h2
  refine .inr ⟨p, q, _, _, rfl, rfl, .inr ⟨hp, hq⟩, rfl, fun i u v hu hv => ?_⟩
  rw [hu] at hv
  obtain rfl := Option.some.inj hv
  match i, hu with
  | 0, hu => cases hu; exact .inl (.inr (.inr ⟨_, rfl, rfl⟩))
  | 1, hu => cases hu; exact sm_sc n hs
  | 2, hu => cases hu; exact .inl (.inr (.inl ⟨_, rfl, rfl⟩))
  | i + 3, hu => cases hu
theorem tk_at {H : Hp} : ∀ {xs : List V} {ks : List TK}, Toks H xs ks → ∀ {i : Nat} {x : V}, xs[i]? = some x → ∃ k, ks[i]? = some k ∧ TokAt H x k
  | _, _, .nil, i, x, h => by cases h
  | _, _, .cons a r, 0, x, h => by cases h; exact ⟨_, rfl, a⟩
  | _, _, .cons a r, i + 1, x, h => tk_at r h
theorem sm_toks {H : Hp} {a b : Addr} {ks : List TK} (n : Nat) (ha : TokL H a ks) (hb : TokL H b ks) (hs : ScT ks) : Sm H (n + 3) (.ref a) (.ref b) := by
  obtain ⟨xs, ha, ta⟩ := ha
  obtain ⟨ys, hb, tb⟩ := hb
  refine sm_lst _ ha hb (by rw [ta.length, tb.length]) fun i u v hu hv => ?_
  obtain ⟨k, e1, h1⟩ := tk_at ta hu
  obtain ⟨k2, e2, h2⟩ := tk_at tb hv
  rw [e1] at e2
  obtain rfl := Option.some.inj e2
  exact sm_tok n h1 h2 (hs k (List.mem_of_getElem? e1))
theorem Toks.app2 {H : Hp} : ∀ {xs ys : List V} {ks ls : List TK}, Toks H xs ks → Toks H ys ls → Toks H (xs ++ ys) (ks ++ ls)
  | _, _, _, _, .nil, h => h
  | _, _, _, _, .cons a r, h => .cons a (Toks.app2 r h)
theorem sct_of {ks : List TK} {ws : List Str} (hv : Voc ws) {n : Nat} (e : ks.map (fun k => (k.s, k.v)) = (List.replicate (n + 1) (valsOf ws)).flatten) : ScT ks := fun k hk => by
  have h : (k.s, k.v) ∈ (List.replicate (n + 1) (valsOf ws)).flatten := by
    rw [← e]
    exact List.mem_map.mpr ⟨k, hk, rfl⟩
  obtain ⟨l, hl, h⟩ := List.mem_flatten.mp h
  obtain rfl := List.eq_of_mem_replicate hl
  obtain ⟨w, hw, h⟩ := List.mem_map.mp h
  have h2 : (tokW w).2 = k.v := congrArg (fun z : Str × V => z.2) h
  rw [← h2]
  exact tok_sc (hv w hw)
theorem vals_of {ks : List TK} {ws : List Str} {n : Nat} (e : ks.map (fun k => (k.s, k.v)) = (List.replicate n (valsOf ws)).flatten) : ks.map (fun k => k.v) = (List.replicate n (ws.map fun w => (tokW w).2)).flatten := by
  have h := congrArg (List.map fun z : Str × V => z.2) e
  rw [List.map_map, List.map_flatten, List.map_replicate] at h
  have h2 : (valsOf ws).map (fun z : Str × V => z.2) = ws.map fun w => (tokW w).2 := by
    unfold valsOf
    rw [List.map_map]
    rfl
  rw [h2] at h
  exact h
theorem sh_bad (l : Int) : SeqAt.shaped (.tuple [.str "bad", .int l]) = true := by
  have e : PyData.canLay0 (.tuple [.str "bad", .int l]) = true := by
    simp only [PyData.canLay0, PyData.canLayAll0]
    decide +kernel
  have d : PyData.depth (.tuple [.str "bad", .int l]) ≤ 64 := by
    simp [PyData.depth, PyData.depthAll]
  unfold SeqAt.shaped
  rw [e, decide_eq_true d]
  rfl
theorem eq_bad (l : Int) : PyData.eqv (.tuple [.str "bad", .int l]) (.tuple [.str "bad", .int l]) = true := SeqAt.eqv_refl _ (SeqAt.canLay_of_shaped (sh_bad l))
theorem told_of {t : List Nat} {ks : List TK} {ds : List D} (h : askOf t ks = .told ds) : (∀ d ∈ ds, WfI d) ∧ isDeep ds = false ∧ ds.length ≤ ks.length := by
  unfold askOf at h
  cases e : pAll ks with
  | out => rw [e] at h; cases h
  | bad q => rw [e] at h; cases h
  | ok es q =>
    rw [e] at h
    dsimp only at h
    by_cases c : isDeep es = true
    · rw [if_pos c] at h
      cases h
    · rw [if_neg c] at h
      cases h
      have z := (all_ok e).2
      exact ⟨z.1, by cases hd : isDeep ds with | true => exact absurd hd c | false => rfl, z.2.2⟩
end FE
namespace L2
open PySem PySem.Spec PyProof.Rows
/-- as PI, where so many tokens are out -/
def PIn (n : Nat) (X : Cx) (tg iter : Expr) (wi : TI) : Prop := ∀ (pins : List (Addr × Obj)) (s : Shared) (σ : L2.St) (H : Hp) (R : It → Hp → Prop), n ≤ s.toks → Inv X pins σ H s → wi σ H R →
  wpAny (model X.prog X.w) X.A (eval iter X.env) (fun v s1 => wpAny (model X.prog X.w) X.A (pyIter v) (PIE X pins σ tg R) X.xe s1) X.xe s
section
variable {X : Cx} {n0 : Nat}
theorem pin_list {tg l : Expr} {tl : TE} (hl : PEn n0 X l tl) : PIn n0 X tg l (iList X.K tl) := by
  intro pins s σ H R hn I h
  refine thn (hl pins s σ H _ hn I h) fun v s1 ⟨x, H1, I1, r1, q1⟩ => ?_
  obtain ⟨a, e, ⟨xs, hq⟩, q⟩ := q1
  subst e
  cases r1
  obtain ⟨its, rv, p, hz⟩ := I1.list hq
  refine wpAny_pyIter_list p.isList ?_
  refine ⟨s1.heap.objs.size, [s1.heap.objs.size], _, _, H1, rfl, I1.kept (t' := s1.toks) fun b o e => Heap.get?_push_of_some _ e, turn_list a _, ⟨_, Heap.get?_push_size _ rfl, rfl, rfl⟩, fun b hb => ?_, q⟩
  have e : b = s1.heap.objs.size := by simpa using hb
  subst e
  exact I1.fpOk (Nat.le_refl _) (I1.hok.fresh (Nat.le_refl _))
theorem lc_coreN {n0 : Nat} {pins : List (Addr × Obj)} {s : Shared} {σ : St} {H : Hp} {Q : VK} {elt tg iter : Expr} {ifs : List Expr} {scope : Scope} {own : List (Str × Nat)} {pos pos' : Pos} {wi : TI} {g : TG} {tt : TT} {te : TE} {use : Option (Value → Sem Unit)} {Qf : Value → Shared → Prop}
    (hc : X.calm = true) (hN : X.N.Nodup) (I : Inv X pins σ H s) (hn0 : n0 ≤ s.toks) (hi : PIn n0 X tg iter wi) (ok : BlkOk X.N X.env.scope scope own)
    (hg : ∀ (s : Shared) (H : Hp) (C : Addr) (cl : List (Str × Addr)) (fp : List Addr), PG (X.blk s H scope (compEnvC scope cl C X.env) fp) tg g) (ht : ∀ (s : Shared) (H : Hp) (C : Addr) (cl : List (Str × Addr)) (fp : List Addr), PTs (X.blk s H scope (compEnvC scope cl C X.env) fp) ifs tt)
    (he : ∀ (s : Shared) (H : Hp) (C : Addr) (cl : List (Str × Addr)) (fp : List Addr), PE (X.blk s H scope (compEnvC scope cl C X.env) fp) elt te) (hs : ∀ x, foldedSetIterable iter X.env x = pure x)
    (h : tLc wi g tt te (own.map (·.2)) σ H Q)
    (hRR : ∀ D C s' m H', Inv X pins σ H' s' → Q (.ref D) H' → s'.heap.Ns C m → FpOk X pins H' C → compPost (model X.prog X.w) X.A X.xe use Qf (.ref D) C (.ok .next) s') :
    wpAny (model X.prog X.w) X.A (comprehension (.ListComp elt [⟨tg, iter, ifs, 0⟩] scope pos) scope X.env pos' (newList []) false (eval iter X.env) use) Qf X.xe s := by
  have hfree : ∀ y ∈ scope.names, y.2 = .free → ∃ c, X.env.cells.lookup y.1 = some c := fun y hy e => by
    rcases ok.free y hy e with k | k
    · exact I.ok.has _ (.inl k)
    · exact I.ok.has _ (.inr k)
  refine wpAny_comprehension_free (use := use) rfl hs (closure_ok hfree) ok.kind (fun y hy e => by rw [ok.uniq y hy, e])
    (thn (hi pins s σ H _ hn0 I h) fun xv s1 hx => thn hx fun itv s2 h2 => ?_)
  obtain ⟨it, fp, tn, J, H2, e, I2, T, st2, f2, q⟩ := h2
  subst e
  refine wpAny_newObj_type (newEnv_comp ?_) (by show 0 ≤ sizeLine; decide)
  generalize hD : s2.heap.objs.size = D
  have hDn : H2 D = none := I2.hok.fresh (Nat.le_of_eq hD)
  obtain ⟨W, ⟨m0, w0⟩, turn⟩ := q D hDn
  -- the new list
  generalize hs3 : ({ s2 with heap := s2.heap.push { cls := .type "list", data := .seq ([] : List Value).toArray } } : Shared) = s3
  have I3 : Inv X pins σ (upd H2 D (.lst [])) s3 := by
    rw [← hs3]
    refine I2.laid (t' := s2.toks) (fun b o e => Heap.get?_push_of_some _ e) (Nat.le_of_eq hD) ⟨Nat.zero_le _, [], 0, .nil, ?_⟩
    rw [← hD]
    exact Heap.get?_push_size _ rfl
  have h3 : s3.heap = s2.heap.push { cls := .type "list", data := .seq ([] : List Value).toArray } := by rw [← hs3]
  have sz : ∀ b ∈ fp, b < s2.heap.objs.size := fun b hb => by
    obtain ⟨o, e, _⟩ := T.obj _ _ st2 b hb
    exact Heap.lt_size e
  have f3 : ∀ b ∈ fp, FpOk X pins (upd H2 D (.lst [])) b ∧ b < s3.heap.objs.size := fun b hb => by
    have hlt := sz b hb
    refine ⟨⟨?_, (f2 b hb).2⟩, by rw [h3, Heap.size_push]; exact Nat.lt_succ_of_lt hlt⟩
    rw [upd_ne (by rw [← hD]; exact Nat.ne_of_lt hlt)]
    exact (f2 b hb).1
  have st3 : tn 0 s3.heap := T.keep _ _ _ st2 fun b _ o e => by rw [h3]; exact Heap.get?_push_of_some _ e
  have I4 := block_start I3 ok hN f3
  have pg := hg s3 (upd H2 D (.lst [])) s3.heap.objs.size (cellsFrom (s3.heap.objs.size + 1) scope.names (cloFrom X.env.cells scope.names [])) fp
  have pt := ht s3 (upd H2 D (.lst [])) s3.heap.objs.size (cellsFrom (s3.heap.objs.size + 1) scope.names (cloFrom X.env.cells scope.names [])) fp
  have pe := he s3 (upd H2 D (.lst [])) s3.heap.objs.size (cellsFrom (s3.heap.objs.size + 1) scope.names (cloFrom X.env.cells scope.names [])) fp
  show codeAny _ _ (.compStart (.ListComp elt [⟨tg, iter, ifs, 0⟩] scope pos) 0 (.ref it) (.ref D) (compEnvC scope (cellsFrom (s3.heap.objs.size + 1) scope.names (cloFrom X.env.cells scope.names [])) s3.heap.objs.size X.env)) (compPost (model X.prog X.w) X.A X.xe use Qf (.ref D) s3.heap.objs.size) { s3 with heap := pushCells (s3.heap.push { cls := .type "dict", data := .dict #[] }) scope.names }
  have nfp : ∀ b ∈ fp, (upd H2 D (.lst [])) b = none := fun b hb => (f3 b hb).1.1
  generalize hce : compEnvC scope (cellsFrom (s3.heap.objs.size + 1) scope.names (cloFrom X.env.cells scope.names [])) s3.heap.objs.size X.env = ce at I4 pg pt pe ⊢
  have cL : ce.locals = s3.heap.objs.size := by subst hce; rfl
  generalize hH3 : upd H2 D (.lst []) = H3 at I3 I4 pg pt pe w0 nfp f3
  generalize hs4 : ({ s3 with heap := pushCells (s3.heap.push { cls := .type "dict", data := .dict #[] }) scope.names } : Shared) = s4 at I4 ⊢
  have st4 : tn 0 s4.heap := T.keep _ _ _ st3 fun b _ o e => by rw [← hs4]; exact pushCells_keeps _ _ _ _ (Heap.get?_push_of_some _ e)
  have stat : ∀ {σ' : St} {H' : Hp} {s' : Shared}, Inv (X.blk s3 H3 scope ce fp) [] σ' H' s' → (∀ b ∈ fp, H' b = none) → ∀ b ∈ fp, FpOk (X.blk s3 H3 scope ce fp) [] H' b := fun {σ' H' s'} I' hn b hb =>
    ⟨hn b hb, (I'.ok.exf b hb).1, I'.ok.exfs b hb, .inl hb, fun x c e => (I'.ok.exf b hb).2 x c e, fun p hp => absurd (show p ∈ ([] : List (Addr × Obj)) ++ [] from hp) (by simp)⟩
  have loop : codeAny (model X.prog X.w) X.A (.compLoop (.ListComp elt [⟨tg, iter, ifs, 0⟩] scope pos) 0 (.ref it) (.ref D) ce) (compPost (model X.prog X.w) X.A X.xe use Qf (.ref D) s3.heap.objs.size) s4 := by
    refine compLoop_any (fun n s' => ∃ i H', Inv (X.blk s3 H3 scope ce fp) [] (wipe σ (own.map (·.2))) H' s' ∧ tn i s'.heap ∧ (∀ b ∈ fp, H' b = none) ∧ W i n H') ?_ m0 ⟨0, H3, I4, st4, nfp, w0⟩
    rintro n s5 ⟨i, H5, I5, st5, n5, w5⟩
    rcases turn i n H5 w5 with ⟨stop, qq⟩ | ⟨go, Nx, hNx, step⟩
    · have td := T.done (X.blk s3 H3 scope ce fp) rfl rfl rfl hc i [] s5 _ H5 (fun _ _ => False) I5 (stat I5 n5) st5 stop
      refine thnF td fun r s6 ⟨hr, I6⟩ => ?_
      subst hr
      -- back in the def's context
      have I7 : Inv X pins σ H5 s6 := I3.call' (ch := fp) I6.os I6.base I6.hok I6.bare fun b hb => ⟨(f3 b hb).1.2.2.2.1, (f3 b hb).1.2.1, (f3 b hb).1.2.2.2.2.1, (f3 b hb).1.2.2.2.2.2⟩
      have nC : H5 s3.heap.objs.size = none := by
        have z : H5 ce.locals = none := I6.free
        rw [cL] at z
        exact z
      obtain ⟨m, hn, _⟩ := I6.loc
      have hn : s6.heap.Ns ce.locals m := hn
      rw [cL] at hn
      exact hRR D s3.heap.objs.size s6 m H5 I7 qq hn (I3.fpOk (Nat.le_refl _) nC)
    · have ti := T.item (X.blk s3 H3 scope ce fp) rfl rfl rfl hc i [] s5 _ H5 (fun _ _ => False) I5 (stat I5 n5) st5 go
      refine thnF ti fun r s6 ⟨u, hr, h6⟩ => ?_
      subst hr
      refine thnF h6 fun _ s7 ⟨x, H7, I7, r7, y7, st7, n7⟩ => ?_
      have I7' := I7.pinned (stat I7 n7) (T.obj _ _ st7)
      refine thnF (pg.run _ s7 _ H7 x u _ I7' r7 (step x H7 y7)) fun _ s8 ⟨σ8, H8, I8, hw8, q8⟩ => ?_
      refine thnF (pt.run _ s8 σ8 H8 _ I8 q8) fun b s9 ⟨H9, I9, q9⟩ => ?_
      -- the turn's end
      have fin : ∀ {s' : Shared} {H' : Hp}, Inv (X.blk s3 H3 scope ce fp) ([] ++ pinsAt fp s7.heap) σ8 H' s' → Nx H' → ∃ m, m < n ∧ ∃ i H', Inv (X.blk s3 H3 scope ce fp) [] (wipe σ (own.map (·.2))) H' s' ∧ tn i s'.heap ∧ (∀ b ∈ fp, H' b = none) ∧ W i m H' := fun {s' H'} I' nx => by
        obtain ⟨m', hm, w'⟩ := hNx H' nx
        have pin' : ∀ b ∈ fp, ∀ o, s7.heap.get? b = some o → s'.heap.get? b = some o ∧ H' b = none := fun b hb o e =>
          let z := I'.pin (b, o) (List.mem_append_right _ (List.mem_append_right _ (mem_pinsAt hb e)))
          ⟨z.1, z.2.1⟩
        have hl : (wipe σ (own.map (·.2))).length = σ8.length := by rw [← hw8, wipe_length]
        refine ⟨m', hm, i + 1, H', (I'.unpinned (pins := [])).weak hl (fun j v e => ?_), T.keep _ _ _ st7 fun b hb o e => (pin' b hb o e).1, fun b hb => ?_, w'⟩
        · rw [← hw8] at e
          exact (wipe_some e).1
        · obtain ⟨o, e, _⟩ := T.obj _ _ st7 b hb
          exact (pin' b hb o e).2
      cases b with
      | false =>
        simp only [Bool.false_eq_true, if_false] at q9 ⊢
        exact fin I9 q9
      | true =>
        simp only [if_true] at q9 ⊢
        refine thnF (pe.run _ s9 σ8 H9 _ I9 q9) fun z s10 ⟨yv, H10, I10, r10, acc, hD10, hz10, nx⟩ => ?_
        exact app_ok (X := X.blk s3 H3 scope ce fp) I10 hD10 hz10 r10 fun s11 I11 => fin I11 nx
  exact codeAny_compStart_list loop (T.self X.A 0 _ _ _ st4 loop)
theorem pen_lc {elt tg iter : Expr} {ifs : List Expr} {scope : Scope} {own : List (Str × Nat)} {pos : Pos} {wi : TI} {g : TG} {tt : TT} {te : TE} (hc : X.calm = true) (hN : X.N.Nodup) (hi : PIn n0 X tg iter wi) (ok : BlkOk X.N X.env.scope scope own)
    (hg : ∀ (s : Shared) (H : Hp) (C : Addr) (cl : List (Str × Addr)) (fp : List Addr), PG (X.blk s H scope (compEnvC scope cl C X.env) fp) tg g) (ht : ∀ (s : Shared) (H : Hp) (C : Addr) (cl : List (Str × Addr)) (fp : List Addr), PTs (X.blk s H scope (compEnvC scope cl C X.env) fp) ifs tt)
    (he : ∀ (s : Shared) (H : Hp) (C : Addr) (cl : List (Str × Addr)) (fp : List Addr), PE (X.blk s H scope (compEnvC scope cl C X.env) fp) elt te) (hs : ∀ x, foldedSetIterable iter X.env x = pure x := by intro _; rfl) :
    PEn n0 X (.ListComp elt [⟨tg, iter, ifs, 0⟩] scope pos) (tLc wi g tt te (own.map (·.2))) := by
  intro pins s σ H Q hn I h
  rw [eval_ListComp]
  refine lc_coreN hc hN I hn hi ok hg ht he hs h fun D C s' m H' I' q hn f => ⟨m, hn, fun h'' sb => ?_⟩
  obtain ⟨f0, f1, f2, f3, f4, f5⟩ := f
  exact ⟨.ref D, H', I'.turned (t' := s'.toks) (fun b o hb e => (sb.2 b hb).trans e) f0 f1 f3 f4 f5, rfl, q⟩
end
end L2
namespace FE
open PySem L2 K01
abbrev s_law : Stmt := top 84
abbrev N_law : List Str := ["script", "flow", "text", "found", "one", "other", "due", "word", "sort", "line", "whole", "down", "first", "second", "told"]
abbrev P_law : List Str := ["script"]
theorem sc_law : FnScope N_law P_law (defScope s_law) := ⟨rfl, rfl, rfl, by decide +kernel, rfl, by decide +kernel, by decide +kernel⟩
structure Txl (mg : Str → Option Value) : Prop where
  f_len : mg "len" = none
def spLaw9 (K : PySem.W.Frag) : Sp := fun vs H Q _ => ∃ (a : Addr) (ns : List Int), vs = [.ref a] ∧ SqL K H a (ns.map V.int) ∧ ∀ H', Q (.bl true) H'
theorem Tx.wlen {t : List Nat} {ws : List Str} (h : Tx t ws) : ws.length ≤ t.length := by
  induction h with
  | pre _ => exact Nat.zero_le _
  | snoc _ h1 _ ih =>
    have := (by decide +kernel : ∀ w ∈ VOC, 1 ≤ (cp w).length) _ h1
    simp only [List.length_append, List.length_singleton]
    omega
theorem w_nameE {n : Nat} {v : V} {σ σ' : L2.St} {H : Hp} {N : L2.St → Hp → Prop} (e : σ.set n (some v) = σ') (q : N σ' H) : gName n v σ H N := by
  subst e
  exact q
section
variable {P : Program} {w : World} {K : PySem.W.Frag} {mg : Str → Option Value} {base : Heap} {n : Nat}
theorem ok_law (T : Txl mg) {f : Addr} {fd : FuncData} (F : FnP K "law" s_law f fd) (D_law_flow : Cal P w K mg base CX0 1 "_law_flow" P_law_flow (spFlow K)) (D_law_text : Cal P w K mg base CX0 22 "_law_text" P_law_text spText9) (D_law_long : Cal P w K mg base CX0 3 "_law_long" P_law_long spLong) (D_law_spelled : Cal P w K mg base CX0 1 "_law_spelled" P_law_spelled spSpelled)
    (D_law_same : Cal P w K mg base CX0 160 "_law_same" P_law_same (spS 160)) (D_words : CalN n P w K mg base (L2.CX P w) 4 "words" P_words (spWords K)) (D_law_asked : CalN n P w K mg base CX0 183 "_law_asked" P_law_asked spAsked) : FnN n P w K mg base CX0 184 f fd P_law (spLaw9 K) := by
  refine F.okN sc_law (fun vs H Q E h => ?_) (fun cdv A outer s H vs Q E hr h => ?_)
  · obtain ⟨a, ns, rfl, _⟩ := h
    rfl
  · obtain ⟨a, ns, rfl, hS, q⟩ := h
    have hu64 := hr.units
    refine ⟨_, PSsn.nox (pssn_cons (psn_of (ps_set (i := 1) sc_law.nd rfl (Or.inl rfl) (pe_cal D_law_flow hr rfl rfl pass0 (pa_cons (pv 0) pa_nil))))
  (pssn_cons (psn_of (ps_asg (pe_cal D_law_text hr rfl rfl pass0 (pa_cons (pv 1) pa_nil)) (pg_tup (by rfl) (pgs_cons (pg_name (i := 2) sc_law.nd rfl (Or.inl rfl)) (pgs_cons (pg_name (i := 3) sc_law.nd rfl (Or.inl rfl)) pgs_nil)))))
  (pssn_cons (psn_of (ps_set (i := 4) sc_law.nd rfl (Or.inl rfl) (pe_cal D_law_long hr rfl rfl pass0 (pa_cons (pv 1) (pa_cons (pv 2) pa_nil)))))
  (pssn_cons (psn_of (ps_set (i := 5) sc_law.nd rfl (Or.inl rfl) (pe_cal D_law_long hr rfl rfl pass0 (pa_cons (pv 1) (pa_cons (pe_ix ix_tup (pe_cal D_law_text hr rfl rfl pass0 (pa_cons (pv 1) pa_nil)) pe_int (fun _ _ => rfl)) pa_nil)))))
  (pssn_cons (psn_of (ps_set (i := 6) sc_law.nd rfl (Or.inl rfl) (pe_op op_rep (pe_lc (own := [("word", 7)]) (g := gName 7) rfl sc_law.nd (pi_list (pv 3)) (blkOk_by (own := [("word", 7)]) (N := N_law) (sc := defScope s_law) (by decide +kernel)) (fun _ _ _ _ _ => pg_name (i := 7) sc_law.nd rfl (Or.inl rfl)) (fun _ _ _ _ _ => pts_nil) (fun _ _ _ _ _ => (pe_cal D_law_spelled hr rfl rfl pass0 (pa_cons (pv 7) pa_nil)))) (pe_op op_fdivW (pe_op op_add (pe_callB call_lenS (by rfl) T.f_len (by decide +kernel) (pa_cons (pv 4) pa_nil)) pe_int) (pe_op op_add (pe_callB call_lenS (by rfl) T.f_len (by decide +kernel) (pa_cons (pv 2) pa_nil)) pe_int)))))
  (pssn_cons (psn_if (ptn_not (ptn_val (pen_cal0 D_law_same hr rfl rfl pass0 (pan_cons (pen_lc (own := [("sort", 8), ("word", 7), ("line", 9)]) (g := (gTup K 3 (gCons (gName 8) (gCons (gName 7) (gCons (gName 9) gNil))))) rfl sc_law.nd (pin_list (pen_calS D_words hr rfl rfl (L2.takes0) (pan_cons (pen_of (pv 4)) (pan_of pa_nil)))) (blkOk_by (own := [("sort", 8), ("word", 7), ("line", 9)]) (N := N_law) (sc := defScope s_law) (by decide +kernel)) (fun _ _ _ _ _ => (pg_tup (n := 3) (by rfl) (pgs_cons (pg_name (i := 8) sc_law.nd rfl (Or.inl rfl)) (pgs_cons (pg_name (i := 7) sc_law.nd rfl (Or.inl rfl)) (pgs_cons (pg_name (i := 9) sc_law.nd rfl (Or.inl rfl)) pgs_nil))))) (fun _ _ _ _ _ => pts_nil) (fun _ _ _ _ _ => (pv 7))) (pan_cons (pen_of (pv 6)) (pan_of pa_nil)))))) (pssn_one (psn_of (ps_ret pe_bl))) pssn_nil)
  (pssn_cons (psn_of (ps_set (i := 10) sc_law.nd rfl (Or.inl rfl) (pe_op op_addS (pe_op op_addS (pv 4) pe_str) (pv 5))))
  (pssn_cons (psn_of (ps_set (i := 11) sc_law.nd rfl (Or.inr rfl) (pe_op op_add pe_int (pe_bm PySem.F.plainAttrs_str PySem.F.slot_str_count PySem.F.type_str_count mt_countN (pv 4) (pa_cons pe_str pa_nil)))))
  (pssn_cons (psn_asg (pen_op op_cat (pen_calS D_words hr rfl rfl (L2.takes0) (pan_cons (pen_of (pv 4)) (pan_of pa_nil))) (pen_lc (own := [("sort", 8), ("word", 7), ("line", 9)]) (g := (gTup K 3 (gCons (gName 8) (gCons (gName 7) (gCons (gName 9) gNil))))) rfl sc_law.nd (pin_list (pen_calS D_words hr rfl rfl (L2.takes0) (pan_cons (pen_of (pv 5)) (pan_of pa_nil)))) (blkOk_by (own := [("sort", 8), ("word", 7), ("line", 9)]) (N := N_law) (sc := defScope s_law) (by decide +kernel)) (fun _ _ _ _ _ => (pg_tup (n := 3) (by rfl) (pgs_cons (pg_name (i := 8) sc_law.nd rfl (Or.inl rfl)) (pgs_cons (pg_name (i := 7) sc_law.nd rfl (Or.inl rfl)) (pgs_cons (pg_name (i := 9) sc_law.nd rfl (Or.inl rfl)) pgs_nil))))) (fun _ _ _ _ _ => pts_nil) (fun _ _ _ _ _ => (pe_tup (pa_cons (pv 8) (pa_cons (pv 7) (pa_cons (pe_op op_add (pv 9) (pv 11)) pa_nil))))))) (pg_name (i := 6) sc_law.nd rfl (Or.inl rfl)))
  (pssn_cons (psn_if (ptn_not (ptn_val (pen_cal0 D_law_same hr rfl rfl pass0 (pan_cons (pen_calS D_words hr rfl rfl (L2.takes0) (pan_cons (pen_of (pv 10)) (pan_of pa_nil))) (pan_cons (pen_of (pv 6)) (pan_of pa_nil)))))) (pssn_one (psn_of (ps_ret pe_bl))) pssn_nil)
  (pssn_cons (psn_asg (pen_cal D_law_asked hr rfl rfl pass0 (pan_cons (pen_of (pv 4)) (pan_of pa_nil))) (pg_name (i := 12) sc_law.nd rfl (Or.inl rfl)))
  (pssn_cons (psn_asg (pen_cal D_law_asked hr rfl rfl pass0 (pan_cons (pen_of (pv 5)) (pan_of pa_nil))) (pg_name (i := 13) sc_law.nd rfl (Or.inl rfl)))
  (pssn_cons (psn_asg (pen_cal D_law_asked hr rfl rfl pass0 (pan_cons (pen_of (pv 10)) (pan_of pa_nil))) (pg_name (i := 14) sc_law.nd rfl (Or.inl rfl)))
  (pssn_cons (psn_of (ps_if (pt_cmpR op_eq (pe_ix ix_tup (pv 12) pe_int (fun _ _ => rfl)) pe_str (nomark _)) (pss_one (ps_ret (pe_or (pe_cmpR op_gt (pe_ix ix_tup (pv 12) pe_int (fun _ _ => rfl)) (pe_bm PySem.F.plainAttrs_str PySem.F.slot_str_count PySem.F.type_str_count mt_countN (pv 4) (pa_cons pe_str pa_nil)) (nomark _)) (pe_one (pe_cmpR (op_eqD hu64) (pv 14) (pv 12) (nomark _)))))) pss_nil))
  (pssn_cons (psn_of (ps_if (PW.pt (pw_or (pt_cmpR op_eq (pe_ix ix_tup (pv 12) pe_int (fun _ _ => rfl)) pe_str (nomark _)) (pw_or1 (pt_cmpR op_eq (pe_ix ix_tup (pv 13) pe_int (fun _ _ => rfl)) pe_str (nomark _))))) (pss_one (ps_ret pe_bl)) pss_nil))
  (pssn_cons (psn_of (ps_if (pt_cmpR op_eq (pe_ix ix_tup (pv 13) pe_int (fun _ _ => rfl)) pe_str (nomark _)) (pss_one (ps_ret (pe_cmpR (op_eqD hu64) (pv 14) (pe_tup (pa_cons pe_str (pa_cons (pe_op op_add (pe_ix ix_tup (pv 13) pe_int (fun _ _ => rfl)) (pv 11)) pa_nil))) (nomark _)))) pss_nil))
  (pssn_one (psn_of (ps_ret (pe_and (pe_cmpR op_eq (pe_ix ix_tup (pv 14) pe_int (fun _ _ => rfl)) pe_str (nomark _)) (pe_one (pe_cal D_law_same hr rfl rfl pass0 (pa_cons (pe_ix ix_tup (pv 14) pe_int (fun _ _ => rfl)) (pa_cons (pe_op op_catA (pe_ix ix_tup (pv 12) pe_int (fun _ _ => rfl)) (pe_ix ix_tup (pv 13) pe_int (fun _ _ => rfl))) pa_nil)))))))))))))))))))))))), ?_⟩
    walk_at "w"
    refine ⟨a, ns, rfl, hS, fun f s H1 s1 F1 => ?_⟩
    walk_at "w"
    refine ⟨f, s, rfl, F1, fun p L t ws H2 hp hL hx hd hl F2 k2 => ?_⟩
    refine w_g2 rfl (.of hp) ?_
    walk_at "w"
    have lt := hx.len
    refine ⟨f, s, t, rfl, F2, by omega, fun n1 H3 l1 F3 k3 => ?_⟩
    walk_at "w"
    refine ⟨f, s, rfl, F3, fun p2 L2' t2 ws2 H4 hp2 hL2 hx2 hd2 hl2 F4 k4 => ?_⟩
    walk_at "w"
    refine w_ixT (.of hp2) (atI_nat (j := 0) rfl) ?_
    walk_at "w"
    have lt2 := hx2.len
    refine ⟨f, s, t2, rfl, F4, by omega, fun n2 H5 l2 F5 k5 => ?_⟩
    have hL5 : WL H5 L ws := ((hL.keep F2 k3).keep F3 k4).keep F4 k5
    walk_at "w"
    have hvoc := tx_voc hx
    refine w_lc ?_
    walk_at "w"
    refine ⟨L, rfl, ⟨_, .of hL5⟩, fun D hD => lc_list (K := K) (a := L) (xs := ws.map V.str) (fun i H' => Same H5 H' ∧ H' D = some (.lst ((ws.take i).map fun w => (tokW w).2))) ⟨sameUpd hD, by rw [List.take_zero]; exact upd_same⟩ (fun i H' _ h => .of (h.1 _ _ hL5)) ?_ ?_⟩
    · rintro i x H6 hi ⟨s6, h6⟩
      rw [List.getElem?_map, Option.map_eq_some_iff] at hi
      obtain ⟨w6, hi, rfl⟩ := hi
      walk_at "w"
      refine ⟨rfl, ?_⟩
      walk_at "w"
      refine ⟨w6, by rw [Sg_of]; rfl, hvoc w6 (List.mem_of_getElem? hi), _, h6, ?_, fun b o e => ?_, ?_⟩
      · rw [List.length_map, List.length_take]
        have : sizeLine = 16777216 := rfl
        omega
      · rw [upd_ne (ne_of_none e hD)]
        exact s6 _ _ e
      · rw [upd_same, List.take_add_one, hi, List.map_append]
        rfl
    · rintro H6 ⟨s6, h6⟩
      walk_at "w"
      have hsz : sizeLine = 16777216 := rfl
      refine w_lenS (by rw [Sg_len]; omega) ?_
      rw [Sg_len]
      walk_at "w"
      refine w_lenS (by rw [Sg_len]; omega) ?_
      rw [Sg_len]
      walk_at "w"
      refine w_I (wide_div (b := 20) (by omega) (by have : (2 : Nat) ^ 20 = 1048576 := rfl; omega) (by decide) (by decide)) ?_
      have hq : (((rep t n1).length : Int) + 1) / ((t.length : Int) + 1) = ((n1 + 1 : Nat) : Int) := by
        have e := congrArg (Int.ofNat) (rep_len t n1)
        have e : (((rep t n1).length : Int) + 1) = ((n1 + 1 : Nat) : Int) * ((t.length : Int) + 1) := by
          have := rep_len t n1
          exact_mod_cast this
        rw [e]
        exact Int.mul_ediv_cancel _ (by omega)
      rw [hq]
      walk_at "w"
      have hwl := hx.wlen
      have hrl := rep_len t n1
      have hmul : ws.length * (n1 + 1) ≤ (n1 + 1) * (t.length + 1) := by
        rw [Nat.mul_comm]
        exact Nat.mul_le_mul_left _ (by omega)
      have hn1 : n1 + 1 ≤ 45001 := by
        have : (n1 + 1) * 1 ≤ (n1 + 1) * (t.length + 1) := Nat.mul_le_mul_left _ (by omega)
        omega
      refine ⟨D, _, _, rfl, rfl, h6, by omega, by omega, ?_, fun p6 h_p6 => ?_⟩
      · rw [Int.toNat_natCast, List.length_map, List.length_map, List.take_length]
        omega
      rw [Int.toNat_natCast, List.length_map, List.take_length]
      walk_at "w"
      have s7 := sameUpd (o := .lst (List.replicate (n1 + 1) (ws.map fun w => (tokW w).2)).flatten) h_p6
      have e7 : (upd H6 p6 (.lst (List.replicate (n1 + 1) (ws.map fun w => (tokW w).2)).flatten)) p6 = some (.lst (List.replicate (n1 + 1) (ws.map fun w => (tokW w).2)).flatten) := upd_same
      generalize upd H6 p6 (.lst (List.replicate (n1 + 1) (ws.map fun w => (tokW w).2)).flatten) = H7 at s7 e7 ⊢
      obtain ⟨f1, hT1, hV1⟩ := tx_ts hx
      obtain ⟨g1, hG1, hW1⟩ := ts_rep hT1 hV1 n1
      obtain ⟨f2, hT2, hV2⟩ := tx_ts hx2
      obtain ⟨g2, hG2, hW2⟩ := ts_rep hT2 hV2 n2
      have hsc1 : ∀ l, ScT (g1 l) := fun l => sct_of hvoc (hW1 l)
      have hsc2 : ∀ l, ScT (g2 l) := fun l => sct_of (tx_voc hx2) (hW2 l)
      have hb : big = 200000 := rfl
      refine w_lc ?_
      walk_at "w"
      refine .inr ⟨_, .ok (g1 1), rfl, by omega, hG1.lex 1, fun H8 s8 a8 _ h8 => ?_⟩
      obtain ⟨xs8, h8, t8⟩ := h8
      have hl8 : xs8.length ≤ sizeLine := by
        have := t8.length
        have := (lex_toks (hG1.lex 1) _ rfl).1
        omega
      refine ⟨a8, rfl, ⟨_, .of h8⟩, fun D8 hD8 => lc_list (K := K) (a := a8) (xs := xs8) (fun i H' => Same H8 H' ∧ H' D8 = some (.lst (((g1 1).take i).map fun k => k.v))) ⟨sameUpd hD8, by rw [List.take_zero]; exact upd_same⟩ (fun i H' _ h => .of (h.1 _ _ h8)) ?_ ?_⟩
      · rintro i x H9 hi ⟨s9, h9⟩
        obtain ⟨k, hk, p, rfl, hp⟩ := tk_at t8 hi
        refine w_g3 rfl (.of (s9 _ _ hp)) ?_
        walk_at "w"
        refine ⟨rfl, ?_⟩
        walk_at "w"
        refine ⟨_, h9, ?_, fun b o e => ?_, ?_⟩
        · rw [List.length_map, List.length_take]
          have := t8.length
          have := (List.getElem?_eq_some_iff.mp hi).1
          omega
        · rw [upd_ne (ne_of_none e hD8)]
          exact s9 _ _ e
        · rw [upd_same, List.take_add_one, hk, List.map_append]
          rfl
      rintro H9 ⟨s9, h9⟩
      rw [t8.length, List.take_length, vals_of (hW1 1)] at h9
      walk_at "w"
      have s79 : Same H7 H9 := s8.trans s9
      refine ⟨_, _, rfl, sm_lst 159 h9 (s79 _ _ e7) rfl fun i u v hu hv => ?_, fun HA sA => ?_⟩
      · rw [hu] at hv
        obtain rfl := Option.some.inj hv
        obtain ⟨l, hl, h⟩ := List.mem_flatten.mp (List.mem_of_getElem? hu)
        obtain rfl := List.eq_of_mem_replicate hl
        obtain ⟨w0, hw0, rfl⟩ := List.mem_map.mp h
        exact sm_sc 158 (tok_sc (hvoc w0 hw0))
      walk_at "w"
      refine w_addS (x := Sg (rep t n1)) (y := "\n") (by rw [Sg_len]; show _ + 1 ≤ _; omega) ?_
      rw [show Sg (rep t n1) ++ ("\n" : Str) = Sg (rep t n1 ++ [10]) from Sg_app _ [10]]
      walk_at "w"
      refine w_addS (by rw [Sg_len, Sg_len, List.length_append]; show (_ + 1) + _ ≤ _; omega) ?_
      rw [Sg_app, List.append_assoc, List.singleton_append]
      walk_at "w"
      refine ⟨rfl, ?_⟩
      walk_at "w"
      refine ⟨Sg (rep t n1), "\n", rfl, rfl, ?_⟩
      rw [count_nl]
      walk_at "w"
      refine .inr ⟨_, .ok (g1 1), rfl, by omega, hG1.lex 1, fun HB sB aB _ hB => ?_⟩
      refine w_lc ?_
      walk_at "w"
      refine .inr ⟨_, .ok (g2 1), rfl, by omega, hG2.lex 1, fun HC sC aC _ hC => ?_⟩
      obtain ⟨xsC, hC, tC⟩ := hC
      have hlC : xsC.length ≤ 45000 := by
        have := tC.length
        have := (lex_toks (hG2.lex 1) _ rfl).1
        omega
      refine ⟨aC, rfl, ⟨_, .of hC⟩, fun DD hDD => lc_list (K := K) (a := aC) (xs := xsC) (fun i H' => Same HC H' ∧ ∃ ys, H' DD = some (.lst ys) ∧ Toks H' ys (((g2 1).take i).map (shT (1 + nl (rep t n1))))) ⟨sameUpd hDD, [], upd_same, by rw [List.take_zero]; exact .nil⟩ (fun i H' _ h => .of (h.1 _ _ hC)) ?_ ?_⟩
      · rintro i x HE hi ⟨sE, ys, hE, tE⟩
        obtain ⟨k, hk, p, rfl, hp⟩ := tk_at tC hi
        refine w_g3 rfl (.of (sE _ _ hp)) ?_
        walk_at "w"
        refine ⟨rfl, ?_⟩
        walk_at "w"
        refine ⟨by show 3 ≤ sizeLine; decide, fun q hq => ⟨ys, ?_, ?_, ?_, _, upd_same, ?_⟩⟩
        · rw [upd_ne (ne_of_none hE hq)]
          exact hE
        · have := tE.length
          rw [List.length_map, List.length_take] at this
          have := (List.getElem?_eq_some_iff.mp hi).1
          omega
        · intro b o e
          rw [upd_ne (ne_of_none e hDD), upd_ne (ne_of_none (sE _ _ e) hq)]
          exact sE _ _ e
        · have hqD : q ≠ DD := (ne_of_none hE hq).symm
          rw [List.take_add_one, hk, List.map_append]
          refine (tE.mono fun b us e => ?_).snoc ⟨q, rfl, ?_⟩
          · rw [upd_ne (ne_of e hE (by intro z; cases z)), upd_ne (ne_of_none e hq)]
            exact e
          · rw [upd_ne hqD, upd_same]
            rfl
      rintro HE ⟨sE, ys, hE, tE⟩
      rw [tC.length, List.take_length] at tE
      obtain ⟨xsB, hB, tB⟩ := hB
      have sBE : Same HB HE := sC.trans sE
      have lB : xsB.length ≤ 45000 := by
        have := tB.length
        have := (lex_toks (hG1.lex 1) _ rfl).1
        omega
      have lE : ys.length ≤ 45000 := by
        have := tE.length
        rw [List.length_map] at this
        have := (lex_toks (hG2.lex 1) _ rfl).1
        omega
      walk_at "w"
      refine ⟨aB, DD, _, _, rfl, rfl, sBE _ _ hB, hE, by omega, fun pF hpF => ?_⟩
      have sF := sameUpd (o := .lst (xsB ++ ys)) hpF
      have eF : TokL (upd HE pF (.lst (xsB ++ ys))) pF (g1 1 ++ (g2 1).map (shT (1 + nl (rep t n1)))) := ⟨_, upd_same, (Toks.app2 (tB.mono fun p xs e => sBE _ _ e) tE).mono fun p xs e => sF _ _ e⟩
      generalize upd HE pF (.lst (xsB ++ ys)) = HF at sF eF ⊢
      have hW := ts_two hG1 hG2
      have lW : (rep t n1 ++ (10 :: rep t2 n2)).length ≤ 90001 := by
        rw [List.length_append, List.length_cons]
        omega
      walk_at "w"
      refine .inr ⟨_, .ok _, rfl, by omega, hW.lex 1, fun HG sG aG _ hG => ?_⟩
      walk_at "w"
      refine ⟨_, _, rfl, sm_toks 157 hG ?_ ((hsc1 1).app (hsc2 1).sh), fun HI sI => ?_⟩
      · obtain ⟨us, hu, tu⟩ := eF
        exact ⟨us, sG _ _ hu, tu.mono fun p xs e => sG _ _ e⟩
      walk_at "w"
      have k1 : (g1 1).length ≤ big := by
        have := (lex_toks (hG1.lex 1) _ rfl).1
        omega
      have k2 : (g2 1).length ≤ big := by
        have := (lex_toks (hG2.lex 1) _ rfl).1
        omega
      refine ⟨_, _, rfl, by omega, hG1.lex 1, fun ds q h => all_fits h k1, all_tot _, fun p1 HJ sJ hJ => ?_⟩
      walk_at "w"
      refine ⟨_, _, rfl, by omega, hG2.lex 1, fun ds q h => all_fits h k2, all_tot _, fun p2 HK sK hK => ?_⟩
      walk_at "w"
      have k3 := (lex_toks (hW.lex 1) _ rfl).1
      refine ⟨_, _, rfl, by omega, hW.lex 1, fun ds q h => all_fits h (Nat.le_trans k3 (by omega)), all_tot _, fun p3 HL sL hL => ?_⟩
      refine w_nameE (σ' := [some (.ref a), some (.ref f), some (.str (Sg t)), some (.ref L), some (.str (Sg (rep t n1))), some (.str (Sg (rep t2 n2))), some (.ref pF), none, none, none, some (.str (Sg (rep t n1 ++ 10 :: rep t2 n2))), some (.int (1 + nl (rep t n1))), some (.ref p1), some (.ref p2), some (.ref p3)]) rfl ?_
      walk_at "w"
      have A := asked_two hG1 hG2 (noElse_of (tx_voc hx2) hd2 (hW2 1))
      have nk : K01.nl (rep t n1) = nl (rep t n1) := rfl
      rw [nk] at A
      replace hL : AskAt HL p3 (askOf (rep t n1 ++ 10 :: rep t2 n2) (g1 1 ++ (g2 1).map (shT (1 + nl (rep t n1))))) := hL
      cases e1 : askOf (rep t n1) (g1 1) with
      | bad l =>
        rw [e1] at hJ A
        have hJ : HL p1 = some (.tup [.str "bad", .int l]) := sL _ _ (sK _ _ hJ)
        refine w_ixT (.of hJ) (atI_nat (j := 0) rfl) ?_
        walk_at "w"
        refine w_eq rfl ?_
        rw [decide_eq_true (rfl : V.str "bad" = V.str "bad")]
        walk_at "w"
        refine w_ixT (.of hJ) (atI_nat (j := 1) rfl) ?_
        walk_at "w"
        refine ⟨rfl, ?_⟩
        walk_at "w"
        refine ⟨Sg (rep t n1), "\n", rfl, rfl, ?_⟩
        rw [count_nl]
        walk_at "w"
        by_cases c : nl (rep t n1) < l
        · rw [decide_eq_true c]
          walk_at "w"
          exact q _
        · rw [decide_eq_false c]
          walk_at "w"
          have e3 := A.resolve_left c
          rw [e3] at hL
          have dp : ∀ {p : Addr}, HL p = some (.tup [.str "bad", .int l]) → Dp K HL (.ref p) (.tuple [.str "bad", .int l]) := fun h => .tup (.of h) (.cons (.str _) (.cons (.int _) .nil))
          refine ⟨_, _, dp hL, dp hJ, sh_bad l, sh_bad l, ?_⟩
          rw [eq_bad]
          walk_at "w"
          exact q _
      | deep =>
        rw [e1] at hJ
        have hJ : HL p1 = some (.tup [.str "deep", .int 0]) := sL _ _ (sK _ _ hJ)
        refine w_ixT (.of hJ) (atI_nat (j := 0) rfl) ?_
        walk_at "w"
        refine w_eq rfl ?_
        rw [decide_eq_false (fun z : V.str "deep" = V.str "bad" => by cases z)]
        walk_at "w"
        refine w_ixT (.of hJ) (atI_nat (j := 0) rfl) ?_
        walk_at "w"
        refine w_eq rfl ?_
        rw [decide_eq_true (rfl : V.str "deep" = V.str "deep")]
        walk_at "w"
        exact q _
      | told ds =>
        rw [e1] at hJ A
        obtain ⟨v1, hJ, r1⟩ := hJ
        have hJ : HL p1 = some (.tup [.str "told", v1]) := sL _ _ (sK _ _ hJ)
        refine w_ixT (.of hJ) (atI_nat (j := 0) rfl) ?_
        walk_at "w"
        refine w_eq rfl ?_
        rw [decide_eq_false (fun z : V.str "told" = V.str "bad" => by cases z)]
        walk_at "w"
        refine w_ixT (.of hJ) (atI_nat (j := 0) rfl) ?_
        walk_at "w"
        refine w_eq rfl ?_
        rw [decide_eq_false (fun z : V.str "told" = V.str "deep" => by cases z)]
        walk_at "w"
        cases e2 : askOf (rep t2 n2) (g2 1) with
        | bad l =>
          rw [e2] at hK A
          have hK : HL p2 = some (.tup [.str "bad", .int l]) := sL _ _ hK
          refine w_ixT (.of hK) (atI_nat (j := 0) rfl) ?_
          walk_at "w"
          refine w_eq rfl ?_
          rw [decide_eq_false (fun z : V.str "bad" = V.str "deep" => by cases z)]
          walk_at "w"
          refine w_ixT (.of hK) (atI_nat (j := 0) rfl) ?_
          walk_at "w"
          refine w_eq rfl ?_
          rw [decide_eq_true (rfl : V.str "bad" = V.str "bad")]
          walk_at "w"
          refine w_ixT (.of hK) (atI_nat (j := 1) rfl) ?_
          walk_at "w"
          refine ⟨by show 2 ≤ sizeLine; decide, fun pZ hpZ => ?_⟩
          rw [A] at hL
          have dp : ∀ {H : Hp} {p : Addr}, H p = some (.tup [.str "bad", .int (l + (1 + nl (rep t n1)))]) → Dp K H (.ref p) (.tuple [.str "bad", .int (l + (1 + nl (rep t n1)))]) := fun h => .tup (.of h) (.cons (.str _) (.cons (.int _) .nil))
          refine ⟨_, _, dp (sameUpd hpZ _ _ hL), dp upd_same, sh_bad _, sh_bad _, ?_⟩
          rw [eq_bad]
          walk_at "w"
          exact q _
        | deep =>
          rw [e2] at hK
          have hK : HL p2 = some (.tup [.str "deep", .int 0]) := sL _ _ hK
          refine w_ixT (.of hK) (atI_nat (j := 0) rfl) ?_
          walk_at "w"
          refine w_eq rfl ?_
          rw [decide_eq_true (rfl : V.str "deep" = V.str "deep")]
          walk_at "w"
          exact q _
        | told es =>
          rw [e2] at hK A
          rw [A] at hL
          obtain ⟨v2, hK, r2⟩ := hK
          obtain ⟨v3, hL, r3⟩ := hL
          have hK : HL p2 = some (.tup [.str "told", v2]) := sL _ _ hK
          refine w_ixT (.of hK) (atI_nat (j := 0) rfl) ?_
          walk_at "w"
          refine w_eq rfl ?_
          rw [decide_eq_false (fun z : V.str "told" = V.str "deep" => by cases z)]
          walk_at "w"
          refine w_ixT (.of hK) (atI_nat (j := 0) rfl) ?_
          walk_at "w"
          refine w_eq rfl ?_
          rw [decide_eq_false (fun z : V.str "told" = V.str "bad" => by cases z)]
          walk_at "w"
          refine w_ixT (.of hL) (atI_nat (j := 0) rfl) ?_
          walk_at "w"
          refine w_eq rfl ?_
          rw [decide_eq_true (rfl : V.str "told" = V.str "told")]
          walk_at "w"
          refine w_ixT (.of hL) (atI_nat (j := 1) rfl) ?_
          walk_at "w"
          refine w_ixT (.of hJ) (atI_nat (j := 1) rfl) ?_
          walk_at "w"
          refine w_ixT (.of hK) (atI_nat (j := 1) rfl) ?_
          walk_at "w"
          obtain ⟨w3, d3, m3⟩ := told_of A
          have nst : Nst 160 (.tup (ds ++ es)) := (nst_all w3 d3).up (by decide)
          rw [List.length_append, List.length_append, List.length_map] at m3
          replace r1 := r1.same (sK.trans sL)
          replace r2 := r2.same sL
          have rr1 := r1
          have rr2 := r2
          cases r1 with
          | @tup q1 us _ hu lu eu =>
          cases r2 with
          | @tup q2 vs _ hv lv ev =>
          have fin : ∀ x H', Same HL H' → Rep H' x (.tup (ds ++ es)) → spS 160 [v3, x] H' Q E0 := fun x H' s r => ⟨_, _, rfl, sm_of (r3.same s) r nst, fun H'' _ => q H''⟩
          refine ⟨q1, q2, us, vs, rfl, rfl, .of hu, .of hv, by omega, fun e => ?_, fun e e' => ?_, fun e e' p hp => ?_⟩
          · rw [e] at lu
            obtain rfl := List.length_eq_zero_iff.mp lu.symm
            exact fin _ _ (.refl _) rr2
          · rw [e'] at lv
            obtain rfl := List.length_eq_zero_iff.mp lv.symm
            refine fin _ _ (.refl _) ?_
            rw [List.append_nil]
            exact rr1
          · exact fin _ _ (sameUpd hp) (Rep.ofs upd_same ((Reps.app ⟨lu, eu⟩ ⟨lv, ev⟩).mono fun _ _ e => sameUpd hp _ _ e))
end
end FE
/-! ## the law -/
namespace FE
open PySem L2
def BK : List Str := ["or", "and", "==", "!=", "<", "<=", ">", ">=", "+", "-", "*", "/", "mod"]
theorem bnd_eq : K09.BND = BK.map fun k => ((k, .int (bindOf k)) : Str × He.Dv) := rfl
end FE
namespace K09
open PySem PySem.Spec PyProof.Rows L2 LamX K01 FE
section
variable {w : World} {K : PySem.W.Frag} {h : Heap} {mg : Str → Option Value}
theorem SaysK.exAt (c : SaysK w h K) (i : Nat) {f : PySem.W.Frag → Bool} (e : exL[i]? = some f := by rfl) : f K = true := List.all_eq_true.mp c.ex f (List.mem_of_getElem? e)
theorem SaysK.ebAt (c : SaysK w h K) (j i : Nat) {p : Str × Str × Str × Stmt} {f : PySem.W.Frag → Bool} (e' : supL[j]? = some p := by rfl) (e : (exB R.prog p.1 p.2.1 p.2.2.1)[i]? = some f := by rfl) : f K = true := List.all_eq_true.mp (List.all_eq_true.mp c.eb p (List.mem_of_getElem? e')) f (List.mem_of_getElem? e)
theorem SaysK.zAt (c : SaysK w h K) (j : Nat) {p : Str × Str × Str × Stmt} (e' : supL[j]? = some p := by rfl) : fnZ K p.1 = valZ p.2.2.1 p.2.2.2 := List.map_inj_left.mp c.z p (List.mem_of_getElem? e')
theorem SaysK.dcAt (c : SaysK w h K) (i : Nat) {t : Str × List Str} (e : dicL[i]? = some t := by rfl) : He.dicW K (He.ga K t.1) = some (He.keysIn w.params t.2) := by
  have e2 : (dicL.map fun t => He.dicW K (He.ga K t.1))[i]? = (dicL.map fun t => some (He.keysIn w.params t.2))[i]? := by rw [c.dc]
  rw [List.getElem?_map, List.getElem?_map, e] at e2
  exact Option.some.inj e2
theorem SaysK.f (c : SaysK w h K) (u : He.Fa) {i : Nat} (e : fa[i]? = some u) : u.ok K = true := c.d.fact i e
theorem supBadText (X : K.In h) (G : h.Ns mainGlobals mg) (c : SaysK w h K) : PySem.SupXBadText.SupTxt R.prog K mg (He.ga K "BadText") (He.ma K (He.ga K "BadText") "__init__") := by
  refine ⟨He.glo_ok X G (c.f (.glo "BadText") (i := 51) rfl), clsB_ok (c.ebAt 0 0), He.eqO_ok (c.ebAt 0 1), He.eqO_ok (c.ebAt 0 2), He.eqO_ok (c.ebAt 0 3), He.eqO_ok (c.ebAt 0 4), He.eqO_ok (c.ebAt 0 5), of_decide_eq_true (c.ebAt 0 6), c.ebAt 0 7, of_decide_eq_true (c.ebAt 0 8),
    of_decide_eq_true (c.ebAt 0 9), of_decide_eq_true (c.ebAt 0 10), c.ebAt 0 11, He.exm_ok (c.f (.exm "BadText" "BadText" true) (i := 114) rfl), of_decide_eq_true (c.ebAt 0 12), He.eqO_ok (c.ebAt 0 13), He.eqO_ok (c.ebAt 0 14), He.free_ok X G (c.f (.free "super") (i := 77) rfl), by decide +kernel, ?_⟩
  have z := c.zAt 0
  have y := c.ebAt 0 15
  have y2 : (match K.lookup (I0 K "BadText") with
    | some ⟨_, _, .func fd, _⟩ => iniB R.prog K (C0 K "BadText") "BadText.__init__" fd
    | _ => false) = true := y
  unfold fnZ at z
  show ∃ _, _
  cases q : K.lookup (I0 K "BadText") with
  | none =>
    rw [q] at y2
    cases y2
  | some o =>
    obtain ⟨oc, od, dt, osl⟩ := o
    rw [q] at y2 z
    cases dt with
    | func fd =>
      obtain ⟨d1, d2, cda, cc, vs, file, tf, ccl, cl, cdd, cld, ccs, csl, d3, d4, h2, e2, e3, h3, e4⟩ := iniB_ok y2
      obtain ⟨n1, n2, n3, n4, n5, n6, n7, n8, n9, n10, n11, n12, n13, n14, n15⟩ := fd
      have e5 : (some (n1, n2, n3, n4, n5, n6, n15) : FnZ) = valZ "BadText.__init__" s_BadText_init := z
      unfold valZ at e5
      simp only [Option.some.injEq, Prod.mk.injEq] at e5
      obtain ⟨g1, g2, g3, g4, g5, g6, g7⟩ := e5
      have d1 : n8 = .none := d1
      have d2 : n9 = .none := d2
      have d3 : n13 = .ref cda := d3
      have d4 : n7 = [(("__class__" : Str), cc)] := d4
      subst g1 g2 g3 g4 g5 g6 g7 d1 d2 d3 d4
      exact ⟨oc, od, n10, n11, n12, cda, cc, n14, osl, vs, file, tf, ccl, cl, cdd, cld, ccs, csl, q, h2, e2, e3, h3, e4⟩
    | _ => cases y2
theorem tok_ok (X : K.In h) (G : h.Ns mainGlobals mg) (c : SaysK w h K) : ∃ t0 : PySem.Tok, mg "QUOTE" = some (.str (Sg [34]) t0) ∧ t0 ≠ 0 ∧ t0 < N0 := by
  have z := c.tk
  unfold tokB at z
  split at z
  · rename_i y t0 e
    obtain ⟨h1, z⟩ := He.ba z
    obtain ⟨h2, h3⟩ := He.ba z
    obtain rfl := of_decide_eq_true h1
    exact ⟨t0, PySem.W.mg_of X G e, of_decide_eq_true h2, of_decide_eq_true h3⟩
  · cases z
theorem txd (X : K.In h) (G : h.Ns mainGlobals mg) (c : SaysK w h K) : K01.Txd N0 R.prog K mg := {
    f_isinstance := He.free_ok X G (c.f (.free "isinstance") (i := 70) rfl)
    f_int := He.free_ok X G (c.f (.free "int") (i := 69) rfl)
    f_str := He.free_ok X G (c.f (.free "str") (i := 76) rfl)
    f_len := He.free_ok X G (c.f (.free "len") (i := 71) rfl)
    f_all := He.free_ok X G (c.f (.free "all") (i := 67) rfl)
    g_LETTERS := He.str_ok X G (c.f (.str "LETTERS" "abcdefghijklmnopqrstuvwxyzABCDEFGHIJKLMNOPQRSTUVWXYZ_") (i := 91) rfl)
    g_FIGURES := He.str_ok X G (c.f (.str "FIGURES" "0123456789") (i := 90) rfl)
    g_SIGNS := He.str_ok X G (c.f (.str "SIGNS" " !\"#$&'()*+,-./0123456789:;<=>?@ABCDEFGHIJKLMNOPQRSTUVWXYZ[\\]^_`abcdefghijklmnopqrstuvwxyz{|}~") (i := 93) rfl)
    g_MARKS := He.str_ok X G (c.f (.str "MARKS" "()[]{},;.=<>+-*/") (i := 89) rfl)
    g_QUOTE := He.str_ok X G (c.f (.str "QUOTE" "\"") (i := 92) rfl)
    g_MOST_NAME := He.int_ok X G (c.f (.int "MOST_NAME" (20)) (i := 81) rfl)
    g_MOST_FIGURES := He.int_ok X G (c.f (.int "MOST_FIGURES" (18)) (i := 82) rfl)
    g_MOST_NUMBER := He.int_ok X G (c.f (.int "MOST_NUMBER" (576460752303423487)) (i := 83) rfl)
    g_KEYS := He.glo_ok X G (c.f (.glo "KEYS") (i := 55) rfl)
    t_KEYS := fun H => He.tupB_ok (c.exAt 0) H
    g_PAIRS := He.glo_ok X G (c.f (.glo "PAIRS") (i := 56) rfl)
    t_PAIRS := fun H => He.tupB_ok (c.exAt 1) H
    e_BadText := supBadText X G c
    e_NoText := ⟨He.glo_ok X G (c.f (.glo "NoText") (i := 52) rfl), (He.exc_ok (c.f (.exc "NoText") (i := 110) rfl)).1, (He.exc_ok (c.f (.exc "NoText") (i := 110) rfl)).2.1, (He.exc_ok (c.f (.exc "NoText") (i := 110) rfl)).2.2.1, (He.exc_ok (c.f (.exc "NoText") (i := 110) rfl)).2.2.2⟩
    q := tok_ok X G c }
theorem txw (X : K.In h) (G : h.Ns mainGlobals mg) (c : SaysK w h K) : Txw mg := {
    f_list := He.free_ok X G (c.f (.free "list") (i := 72) rfl)
    f_abs := He.free_ok X G (c.f (.free "abs") (i := 66) rfl)
    f_range := He.free_ok X G (c.f (.free "range") (i := 75) rfl)
    f_tuple := He.free_ok X G (c.f (.free "tuple") (i := 78) rfl)
    f_bool := He.free_ok X G (c.f (.free "bool") (i := 68) rfl)
    f_int := He.free_ok X G (c.f (.free "int") (i := 69) rfl)
    f_isinstance := He.free_ok X G (c.f (.free "isinstance") (i := 70) rfl)
    f_str := He.free_ok X G (c.f (.free "str") (i := 76) rfl)
    f_len := He.free_ok X G (c.f (.free "len") (i := 71) rfl)
    f_all := He.free_ok X G (c.f (.free "all") (i := 67) rfl) }
theorem bind_none {z : Str} (h : z ∉ BK) : bindOf z = 0 := by
  simp only [BK, List.mem_cons, List.not_mem_nil, or_false, not_or] at h
  obtain ⟨h1, h2, h3, h4, h5, h6, h7, h8, h9, h10, h11, h12, h13⟩ := h
  unfold bindOf
  rw [if_neg h1, if_neg h2, if_neg (by simp [h3, h4, h5, h6, h7, h8]), if_neg (by simp [h9, h10]), if_neg (by simp [h11, h12, h13])]
theorem txr (X : K.In h) (G : h.Ns mainGlobals mg) (c : SaysK w h K) : Txr R.prog w K mg := {
    e_BadText := supBadText X G c
    c_Reader := He.cls_ok (c.f (.cls "Reader") (i := 94) rfl)
    f_len := He.free_ok X G (c.f (.free "len") (i := 71) rfl)
    f_tuple := He.free_ok X G (c.f (.free "tuple") (i := 78) rfl)
    g_OPENING := He.glo_ok X G (c.f (.glo "OPENING") (i := 59) rfl)
    t_OPENING := fun H => He.tupB_ok (c.exAt 4) H
    g_CLOSING := He.glo_ok X G (c.f (.glo "CLOSING") (i := 60) rfl)
    t_CLOSING := fun H => He.tupB_ok (c.exAt 5) H
    g_MOST_OPEN := He.int_ok X G (c.f (.int "MOST_OPEN" (60)) (i := 85) rfl)
    g_ALONE := He.glo_ok X G (c.f (.glo "ALONE") (i := 62) rfl)
    t_ALONE := fun H => He.tupB_ok (c.exAt 7) H
    g_ASKS := He.glo_ok X G (c.f (.glo "ASKS") (i := 57) rfl)
    t_ASKS := fun H => He.tupB_ok (c.exAt 2) H
    g_PLACES := He.glo_ok X G (c.f (.glo "PLACES") (i := 58) rfl)
    t_PLACES := fun H => He.tupB_ok (c.exAt 3) H
    g_WITH_E := He.glo_ok X G (c.f (.glo "WITH_E") (i := 61) rfl)
    t_WITH_E := fun H => He.tupB_ok (c.exAt 6) H
    g_NOT := He.int_ok X G (c.f (.int "NOT" (3)) (i := 86) rfl)
    g_BESIDE := He.int_ok X G (c.f (.int "BESIDE" (4)) (i := 87) rfl)
    g_MINUS := He.int_ok X G (c.f (.int "MINUS" (7)) (i := 88) rfl)
    g_BINDS := He.glo_ok X G (c.f (.glo "BINDS") (i := 65) rfl)
    d_BINDS := He.dicW_ok (c.dcAt 2)
    n_words := He.noat_ok (c.f (.noat "Reader" "kept_words") (i := 95) rfl)
    n_last := He.noat_ok (c.f (.noat "Reader" "kept_last") (i := 96) rfl)
    n_at := He.noat_ok (c.f (.noat "Reader" "kept_at") (i := 97) rfl)
    n_open := He.noat_ok (c.f (.noat "Reader" "kept_open") (i := 98) rfl)
    v_BINDS := fun z => by
      by_cases hz : z ∈ BK
      · right
        obtain ⟨u, e, r⟩ := He.valsB_ok (c.exAt 10) (q := (z, .int (bindOf z))) (by rw [bnd_eq]; exact List.mem_map_of_mem (f := fun k => ((k, .int (bindOf k)) : Str × He.Dv)) hz)
        obtain ⟨t, rfl⟩ := r
        exact ⟨t, e⟩
      · exact .inl ⟨bind_none hz, DicT.dic_none (c.dcAt 2) hz⟩ }
theorem txf (X : K.In h) (G : h.Ns mainGlobals mg) (c : SaysK w h K) : Txf R.prog w K mg := {
    f_zip := He.free_ok X G (c.f (.free "zip") (i := 79) rfl)
    f_list := He.free_ok X G (c.f (.free "list") (i := 72) rfl)
    f_len := He.free_ok X G (c.f (.free "len") (i := 71) rfl)
    g_STATEMENTS := He.glo_ok X G (c.f (.glo "STATEMENTS") (i := 63) rfl)
    d_STATEMENTS := He.dicW_ok (c.dcAt 0)
    g_EXPRESSIONS := He.glo_ok X G (c.f (.glo "EXPRESSIONS") (i := 64) rfl)
    d_EXPRESSIONS := He.dicW_ok (c.dcAt 1)
    v_STATEMENTS := fun z ps hq => DicT.dtB_ok (c.exAt 8) hq
    v_EXPRESSIONS := fun z ps hq => DicT.dtB_ok (c.exAt 9) hq
    n_STATEMENTS := fun z ps hq => DicT.dic_none (c.dcAt 0) ((by decide +kernel : ∀ q ∈ EXP, q.1 ∉ (["var", "do", "set", "if", "while", "break", "continue", "return", "throw", "try", "say"] : List Str)) _ hq) }
theorem txe (X : K.In h) (G : h.Ns mainGlobals mg) (c : SaysK w h K) : FE.Txd K mg := {
    e_TooDeep := ⟨He.glo_ok X G (c.f (.glo "TooDeep") (i := 53) rfl), (He.exc_ok (c.f (.exc "TooDeep") (i := 111) rfl)).1, (He.exc_ok (c.f (.exc "TooDeep") (i := 111) rfl)).2.1, (He.exc_ok (c.f (.exc "TooDeep") (i := 111) rfl)).2.2.1, (He.exc_ok (c.f (.exc "TooDeep") (i := 111) rfl)).2.2.2⟩
    f_tuple := He.free_ok X G (c.f (.free "tuple") (i := 78) rfl)
    g_MOST_DEEP := He.int_ok X G (c.f (.int "MOST_DEEP" (50)) (i := 84) rfl) }
theorem txk (X : K.In h) (G : h.Ns mainGlobals mg) (c : SaysK w h K) : Txk R.prog K mg := {
    e_BadText := supBadText X G c
    e_TooDeep := ⟨He.glo_ok X G (c.f (.glo "TooDeep") (i := 53) rfl), (He.exc_ok (c.f (.exc "TooDeep") (i := 111) rfl)).1, (He.exc_ok (c.f (.exc "TooDeep") (i := 111) rfl)).2.1, (He.exc_ok (c.f (.exc "TooDeep") (i := 111) rfl)).2.2.1, (He.exc_ok (c.f (.exc "TooDeep") (i := 111) rfl)).2.2.2⟩
    mDB := He.exm_ok (c.f (.exm "TooDeep" "BadText" false) (i := 112) rfl)
    mDD := He.exm_ok (c.f (.exm "TooDeep" "TooDeep" true) (i := 113) rfl) }
theorem txm (X : K.In h) (G : h.Ns mainGlobals mg) (c : SaysK w h K) : Txm mg := {
    f_max := He.free_ok X G (c.f (.free "max") (i := 73) rfl)
    f_min := He.free_ok X G (c.f (.free "min") (i := 74) rfl)
    f_len := He.free_ok X G (c.f (.free "len") (i := 71) rfl) }
theorem txs (X : K.In h) (G : h.Ns mainGlobals mg) (c : SaysK w h K) : Txs mg := {
    f_int := He.free_ok X G (c.f (.free "int") (i := 69) rfl) }
theorem txl (X : K.In h) (G : h.Ns mainGlobals mg) (c : SaysK w h K) : Txl mg := {
    f_len := He.free_ok X G (c.f (.free "len") (i := 71) rfl) }
theorem lawN (X : K.In h) (G : h.Ns mainGlobals mg) {f0 : Addr} (hfa : mg ("law" : Str) = some (.ref f0)) (c : SaysK w h K) : EndN.LawN N0 PySem.Challenge.rw_unseenheap_k09_whole_texts_joined w K CX0 184 63 "script" mg f0 h := by
  obtain ⟨d_is_name, F_is_name⟩ := c.d.def_ 0 (d := dd "is_name" s_is_name) rfl
  obtain ⟨d_is_number_word, F_is_number_word⟩ := c.d.def_ 1 (d := dd "is_number_word" s_is_number_word) rfl
  obtain ⟨d_stretch_end, F_stretch_end⟩ := c.d.def_ 2 (d := dd "stretch_end" s_stretch_end) rfl
  obtain ⟨d_line_end, F_line_end⟩ := c.d.def_ 3 (d := dd "line_end" s_line_end) rfl
  obtain ⟨d_are_signs, F_are_signs⟩ := c.d.def_ 4 (d := dd "are_signs" s_are_signs) rfl
  obtain ⟨d_text_end, F_text_end⟩ := c.d.def_ 5 (d := dd "text_end" s_text_end) rfl
  obtain ⟨d_note_end, F_note_end⟩ := c.d.def_ 6 (d := dd "note_end" s_note_end) rfl
  obtain ⟨d_stretch_word, F_stretch_word⟩ := c.d.def_ 7 (d := dd "stretch_word" s_stretch_word) rfl
  obtain ⟨d_word_from, F_word_from⟩ := c.d.def_ 8 (d := dd "word_from" s_word_from) rfl
  obtain ⟨d_words, F_words⟩ := c.d.def_ 9 (d := dd "words" s_words) rfl
  obtain ⟨d_parts_of, F_parts_of⟩ := c.d.def_ 10 (d := dd "parts_of" s_parts_of) rfl
  obtain ⟨d_within, F_within⟩ := c.d.def_ 11 (d := dd "within" s_within) rfl
  obtain ⟨d_statements_of, F_statements_of⟩ := c.d.def_ 12 (d := dd "statements_of" s_statements_of) rfl
  obtain ⟨d_first_layer, F_first_layer⟩ := c.d.def_ 13 (d := dd "first_layer" s_first_layer) rfl
  obtain ⟨d_next_layer, F_next_layer⟩ := c.d.def_ 14 (d := dd "next_layer" s_next_layer) rfl
  obtain ⟨d_raw_depth, F_raw_depth⟩ := c.d.def_ 15 (d := dd "raw_depth" s_raw_depth) rfl
  obtain ⟨d_Reader_init, F_Reader_init⟩ := c.d.def_ 16 (d := dm "Reader" "__init__" "Reader.__init__" s_Reader_init) rfl
  obtain ⟨d_Reader_is_more, F_Reader_is_more⟩ := c.d.def_ 17 (d := dm "Reader" "is_more" "Reader.is_more" s_Reader_is_more) rfl
  obtain ⟨d_Reader_sort_at, F_Reader_sort_at⟩ := c.d.def_ 18 (d := dm "Reader" "sort_at" "Reader.sort_at" s_Reader_sort_at) rfl
  obtain ⟨d_Reader_is_ahead, F_Reader_is_ahead⟩ := c.d.def_ 19 (d := dm "Reader" "is_ahead" "Reader.is_ahead" s_Reader_is_ahead) rfl
  obtain ⟨d_Reader_ahead_of, F_Reader_ahead_of⟩ := c.d.def_ 20 (d := dm "Reader" "ahead_of" "Reader.ahead_of" s_Reader_ahead_of) rfl
  obtain ⟨d_Reader_bind_ahead, F_Reader_bind_ahead⟩ := c.d.def_ 21 (d := dm "Reader" "bind_ahead" "Reader.bind_ahead" s_Reader_bind_ahead) rfl
  obtain ⟨d_Reader_wrong, F_Reader_wrong⟩ := c.d.def_ 22 (d := dm "Reader" "wrong" "Reader.wrong" s_Reader_wrong) rfl
  obtain ⟨d_Reader_take, F_Reader_take⟩ := c.d.def_ 23 (d := dm "Reader" "take" "Reader.take" s_Reader_take) rfl
  obtain ⟨d_Reader_want, F_Reader_want⟩ := c.d.def_ 24 (d := dm "Reader" "want" "Reader.want" s_Reader_want) rfl
  obtain ⟨d_Reader_want_name, F_Reader_want_name⟩ := c.d.def_ 25 (d := dm "Reader" "want_name" "Reader.want_name" s_Reader_want_name) rfl
  obtain ⟨d_Reader_skips, F_Reader_skips⟩ := c.d.def_ 26 (d := dm "Reader" "skips" "Reader.skips" s_Reader_skips) rfl
  obtain ⟨d_read_args, F_read_args⟩ := c.d.def_ 27 (d := dd "read_args" s_read_args) rfl
  obtain ⟨d_read_params, F_read_params⟩ := c.d.def_ 28 (d := dd "read_params" s_read_params) rfl
  obtain ⟨d_read_block, F_read_block⟩ := c.d.def_ 29 (d := dd "read_block" s_read_block) rfl
  obtain ⟨d_read_ask, F_read_ask⟩ := c.d.def_ 30 (d := dd "read_ask" s_read_ask) rfl
  obtain ⟨d_read_keyed, F_read_keyed⟩ := c.d.def_ 31 (d := dd "read_keyed" s_read_keyed) rfl
  obtain ⟨d_read_first, F_read_first⟩ := c.d.def_ 32 (d := dd "read_first" s_read_first) rfl
  obtain ⟨d_read_message, F_read_message⟩ := c.d.def_ 33 (d := dd "read_message" s_read_message) rfl
  obtain ⟨d_read_behind, F_read_behind⟩ := c.d.def_ 34 (d := dd "read_behind" s_read_behind) rfl
  obtain ⟨d_put_together, F_put_together⟩ := c.d.def_ 35 (d := dd "put_together" s_put_together) rfl
  obtain ⟨d_read_ahead, F_read_ahead⟩ := c.d.def_ 36 (d := dd "read_ahead" s_read_ahead) rfl
  obtain ⟨d_read_e, F_read_e⟩ := c.d.def_ 37 (d := dd "read_e" s_read_e) rfl
  obtain ⟨d_read_plain, F_read_plain⟩ := c.d.def_ 38 (d := dd "read_plain" s_read_plain) rfl
  obtain ⟨d_read_short, F_read_short⟩ := c.d.def_ 39 (d := dd "read_short" s_read_short) rfl
  obtain ⟨d_read_statement, F_read_statement⟩ := c.d.def_ 40 (d := dd "read_statement" s_read_statement) rfl
  obtain ⟨d_read_class, F_read_class⟩ := c.d.def_ 41 (d := dd "read_class" s_read_class) rfl
  obtain ⟨d_read_item, F_read_item⟩ := c.d.def_ 42 (d := dd "read_item" s_read_item) rfl
  obtain ⟨d_read, F_read⟩ := c.d.def_ 43 (d := dd "read" s_read) rfl
  obtain ⟨d_law_flow, F_law_flow⟩ := c.d.def_ 44 (d := dd "_law_flow" s_law_flow) rfl
  obtain ⟨d_law_more, F_law_more⟩ := c.d.def_ 45 (d := dd "_law_more" s_law_more) rfl
  obtain ⟨d_law_draw, F_law_draw⟩ := c.d.def_ 46 (d := dd "_law_draw" s_law_draw) rfl
  obtain ⟨d_law_same, F_law_same⟩ := c.d.def_ 47 (d := dd "_law_same" s_law_same) rfl
  obtain ⟨d_law_name, F_law_name⟩ := c.d.def_ 48 (d := dd "_law_name" s_law_name) rfl
  obtain ⟨d_law_atom, F_law_atom⟩ := c.d.def_ 49 (d := dd "_law_atom" s_law_atom) rfl
  obtain ⟨d_law_some, F_law_some⟩ := c.d.def_ 50 (d := dd "_law_some" s_law_some) rfl
  obtain ⟨d_law_called, F_law_called⟩ := c.d.def_ 51 (d := dd "_law_called" s_law_called) rfl
  obtain ⟨d_law_e, F_law_e⟩ := c.d.def_ 52 (d := dd "_law_e" s_law_e) rfl
  obtain ⟨d_law_rows, F_law_rows⟩ := c.d.def_ 53 (d := dd "_law_rows" s_law_rows) rfl
  obtain ⟨d_law_row, F_law_row⟩ := c.d.def_ 54 (d := dd "_law_row" s_law_row) rfl
  obtain ⟨d_law_item, F_law_item⟩ := c.d.def_ 55 (d := dd "_law_item" s_law_item) rfl
  obtain ⟨d_law_asked, F_law_asked⟩ := c.d.def_ 56 (d := dd "_law_asked" s_law_asked) rfl
  obtain ⟨d_law_text, F_law_text⟩ := c.d.def_ 57 (d := dd "_law_text" s_law_text) rfl
  obtain ⟨d_law_spelled, F_law_spelled⟩ := c.d.def_ 58 (d := dd "_law_spelled" s_law_spelled) rfl
  obtain ⟨d_law_long, F_law_long⟩ := c.d.def_ 59 (d := dd "_law_long" s_law_long) rfl
  obtain ⟨d_law, F_law⟩ := c.d.def_ 60 (d := dd "law" s_law) rfl
  have e20 := hfa.symm.trans (He.glo_ok X G (c.f (.glo "law") (i := 49) rfl))
  obtain rfl := Value.ref.inj (Option.some.inj e20)
  have b20 := FunD.bindsA (ps := ["script"]) F_law fun _ _ _ _ _ _ us hl => match us, hl with | [_], _ => rfl
  refine ⟨d_law, [], spLaw9 K, (fun p hp => nomatch hp), fun s v => b20 s [v] rfl, fun H a ns hl _ _ hS => ⟨a, ns, rfl, hS, fun _ => rfl⟩, fun base _ _ _ => ?_⟩
  have T := txd X G c
  have D_is_name : Cal R.prog w K mg base CX0 1 "is_name" P_is_name spIsName := ⟨_, _, ok_is_name (P := R.prog) (w := w) (base := base) T.toTxa F_is_name, He.glo_ok X G (c.f (.glo "is_name") (i := 0) rfl), F_is_name.kp, F_is_name.bindsN fun _ _ _ _ _ _ us hl => match us, hl with | [_], _ => rfl⟩
  have D_is_number_word : Cal R.prog w K mg base CX0 1 "is_number_word" P_is_number_word spNum := ⟨_, _, ok_is_number_word (P := R.prog) (w := w) (base := base) T.toTxa F_is_number_word, He.glo_ok X G (c.f (.glo "is_number_word") (i := 1) rfl), F_is_number_word.kp, F_is_number_word.bindsN fun _ _ _ _ _ _ us hl => match us, hl with | [_], _ => rfl⟩
  have D_stretch_end : Cal R.prog w K mg base CX0 1 "stretch_end" P_stretch_end spStretchEnd := ⟨_, _, ok_stretch_end (P := R.prog) (w := w) (base := base) T.toTxa F_stretch_end, He.glo_ok X G (c.f (.glo "stretch_end") (i := 2) rfl), F_stretch_end.kp, F_stretch_end.bindsN fun _ _ _ _ _ _ us hl => match us, hl with | [_, _], _ => rfl⟩
  have D_line_end : Cal R.prog w K mg base CX0 1 "line_end" P_line_end spLineEnd := ⟨_, _, ok_line_end (P := R.prog) (w := w) (base := base) T.toTxa F_line_end, He.glo_ok X G (c.f (.glo "line_end") (i := 3) rfl), F_line_end.kp, F_line_end.bindsN fun _ _ _ _ _ _ us hl => match us, hl with | [_, _], _ => rfl⟩
  have D_are_signs : Cal R.prog w K mg base CX0 1 "are_signs" P_are_signs spSigns := ⟨_, _, ok_are_signs (P := R.prog) (w := w) (base := base) T.toTxa F_are_signs, He.glo_ok X G (c.f (.glo "are_signs") (i := 4) rfl), F_are_signs.kp, F_are_signs.bindsN fun _ _ _ _ _ _ us hl => match us, hl with | [_], _ => rfl⟩
  have D_text_end : Cal R.prog w K mg base CX0 1 "text_end" P_text_end spTextEnd := ⟨_, _, ok_text_end (P := R.prog) (w := w) (base := base) T.toTxa F_text_end, He.glo_ok X G (c.f (.glo "text_end") (i := 5) rfl), F_text_end.kp, F_text_end.bindsN fun _ _ _ _ _ _ us hl => match us, hl with | [_, _], _ => rfl⟩
  have D_note_end : Cal R.prog w K mg base (L2.CX R.prog w) 2 "note_end" P_note_end (spNoteEnd K) := ⟨_, _, ok_note_end (P := R.prog) (w := w) (base := base) T.toTxc F_note_end D_line_end D_are_signs, He.glo_ok X G (c.f (.glo "note_end") (i := 6) rfl), F_note_end.kp, F_note_end.bindsN fun _ _ _ _ _ _ us hl => match us, hl with | [_, _, _], _ => rfl⟩
  have D_stretch_word : Cal R.prog w K mg base (L2.CX R.prog w) 2 "stretch_word" P_stretch_word (spStretch K) := ⟨_, _, ok_stretch_word (P := R.prog) (w := w) (base := base) T.toTxc F_stretch_word D_is_name D_is_number_word, He.glo_ok X G (c.f (.glo "stretch_word") (i := 7) rfl), F_stretch_word.kp, F_stretch_word.bindsN fun _ _ _ _ _ _ us hl => match us, hl with | [_, _], _ => rfl⟩
  have D_word_from : CalN N0 R.prog w K mg base (L2.CX R.prog w) 3 "word_from" P_word_from (spWordFrom K) := ⟨_, _, ok_word_from (P := R.prog) (w := w) (base := base) T F_word_from D_stretch_end D_text_end D_stretch_word, He.glo_ok X G (c.f (.glo "word_from") (i := 8) rfl), F_word_from.kp, F_word_from.bindsN fun _ _ _ _ _ _ us hl => match us, hl with | [_, _, _], _ => rfl⟩
  have D_words : CalN N0 R.prog w K mg base (L2.CX R.prog w) 4 "words" P_words (spWords K) := ⟨_, _, ok_words (P := R.prog) (w := w) (base := base) T F_words D_note_end D_word_from, He.glo_ok X G (c.f (.glo "words") (i := 9) rfl), F_words.kp, F_words.bindsN fun _ _ _ _ _ _ us hl => match us, hl with | [_], _ => rfl⟩
  have TR := txr X G c
  have M_is_more : CalM R.prog w K mg base CX0 1 (He.ga K "Reader") "is_more" P_Reader_is_more (spIsMore K) := ⟨TR.c_Reader, _, _, ok_Reader_is_more (P := R.prog) (w := w) (base := base) TR F_Reader_is_more, He.meth_ok (c.f (.meth "Reader" "is_more") (i := 99) rfl), (F_Reader_is_more.bindsN (ps := P_Reader_is_more) fun _ _ _ _ _ _ us hl => match us, hl with | [_], _ => rfl)⟩
  have M_sort_at : CalM R.prog w K mg base CX0 1 (He.ga K "Reader") "sort_at" P_Reader_sort_at (spSortAt K) := ⟨TR.c_Reader, _, _, ok_Reader_sort_at (P := R.prog) (w := w) (base := base) TR F_Reader_sort_at, He.meth_ok (c.f (.meth "Reader" "sort_at") (i := 100) rfl), (F_Reader_sort_at.bindsN (ps := P_Reader_sort_at) fun _ _ _ _ _ _ us hl => match us, hl with | [_, _], _ => rfl)⟩
  have M_is_ahead : CalM R.prog w K mg base CX0 2 (He.ga K "Reader") "is_ahead" P_Reader_is_ahead (spIsAhead K) := ⟨TR.c_Reader, _, _, ok_Reader_is_ahead (P := R.prog) (w := w) (base := base) TR F_Reader_is_ahead M_sort_at, He.meth_ok (c.f (.meth "Reader" "is_ahead") (i := 101) rfl), (F_Reader_is_ahead.bindsN (ps := P_Reader_is_ahead) fun _ _ _ _ _ _ us hl => match us, hl with | [_, _], _ => rfl)⟩
  have M_ahead_of : CalM R.prog w K mg base CX0 2 (He.ga K "Reader") "ahead_of" P_Reader_ahead_of (spAheadOf K) := ⟨TR.c_Reader, _, _, ok_Reader_ahead_of (P := R.prog) (w := w) (base := base) TR F_Reader_ahead_of M_sort_at, He.meth_ok (c.f (.meth "Reader" "ahead_of") (i := 102) rfl), (F_Reader_ahead_of.bindsN (ps := P_Reader_ahead_of) fun _ _ _ _ _ _ us hl => match us, hl with | [_, _], _ => rfl)⟩
  have M_bind_ahead : CalM R.prog w K mg base CX0 2 (He.ga K "Reader") "bind_ahead" P_Reader_bind_ahead (spBindAhead K) := ⟨TR.c_Reader, _, _, ok_Reader_bind_ahead (P := R.prog) (w := w) (base := base) TR F_Reader_bind_ahead M_sort_at, He.meth_ok (c.f (.meth "Reader" "bind_ahead") (i := 103) rfl), (F_Reader_bind_ahead.bindsN (ps := P_Reader_bind_ahead) fun _ _ _ _ _ _ us hl => match us, hl with | [_], _ => rfl)⟩
  have M_wrong : CalM R.prog w K mg base (L2.CX R.prog w) 2 (He.ga K "Reader") "wrong" P_Reader_wrong (spWrong K) := ⟨TR.c_Reader, _, _, ok_Reader_wrong (P := R.prog) (w := w) (base := base) TR F_Reader_wrong M_is_more, He.meth_ok (c.f (.meth "Reader" "wrong") (i := 104) rfl), (F_Reader_wrong.bindsN (ps := P_Reader_wrong) fun _ _ _ _ _ _ us hl => match us, hl with | [_], _ => rfl)⟩
  have M_take : CalM R.prog w K mg base (L2.CX R.prog w) 3 (He.ga K "Reader") "take" P_Reader_take (spTake K) := ⟨TR.c_Reader, _, _, ok_Reader_take (P := R.prog) (w := w) (base := base) TR F_Reader_take M_is_more M_wrong, He.meth_ok (c.f (.meth "Reader" "take") (i := 105) rfl), (F_Reader_take.bindsN (ps := P_Reader_take) fun _ _ _ _ _ _ us hl => match us, hl with | [_], _ => rfl)⟩
  have M_want : CalM R.prog w K mg base (L2.CX R.prog w) 4 (He.ga K "Reader") "want" P_Reader_want (spWant K) := ⟨TR.c_Reader, _, _, ok_Reader_want (P := R.prog) (w := w) (base := base) TR F_Reader_want M_is_ahead M_wrong M_take, He.meth_ok (c.f (.meth "Reader" "want") (i := 106) rfl), (F_Reader_want.bindsN (ps := P_Reader_want) fun _ _ _ _ _ _ us hl => match us, hl with | [_, _], _ => rfl)⟩
  have M_want_name : CalM R.prog w K mg base (L2.CX R.prog w) 4 (He.ga K "Reader") "want_name" P_Reader_want_name (spWantName K) := ⟨TR.c_Reader, _, _, ok_Reader_want_name (P := R.prog) (w := w) (base := base) TR F_Reader_want_name M_sort_at M_wrong M_take, He.meth_ok (c.f (.meth "Reader" "want_name") (i := 107) rfl), (F_Reader_want_name.bindsN (ps := P_Reader_want_name) fun _ _ _ _ _ _ us hl => match us, hl with | [_], _ => rfl)⟩
  have M_skips : CalM R.prog w K mg base (L2.CX R.prog w) 4 (He.ga K "Reader") "skips" P_Reader_skips (spSkips K) := ⟨TR.c_Reader, _, _, ok_Reader_skips (P := R.prog) (w := w) (base := base) TR F_Reader_skips M_is_ahead M_take, He.meth_ok (c.f (.meth "Reader" "skips") (i := 108) rfl), (F_Reader_skips.bindsN (ps := P_Reader_skips) fun _ _ _ _ _ _ us hl => match us, hl with | [_, _], _ => rfl)⟩
  have RM : RdM R.prog w K mg base := ⟨M_is_more, M_sort_at, M_is_ahead, M_ahead_of, M_bind_ahead, M_wrong, M_take, M_want, M_want_name, M_skips⟩
  have RF : RdF K mg := {
    args := ⟨_, _, F_read_args, He.glo_ok X G (c.f (.glo "read_args") (i := 16) rfl), F_read_args.kp, F_read_args.bindsN (ps := P_read_args) fun _ _ _ _ _ _ us hl => match us, hl with | [_, _, _], _ => rfl⟩
    params := ⟨_, _, F_read_params, He.glo_ok X G (c.f (.glo "read_params") (i := 17) rfl), F_read_params.kp, F_read_params.bindsN (ps := P_read_params) fun _ _ _ _ _ _ us hl => match us, hl with | [_], _ => rfl⟩
    block := ⟨_, _, F_read_block, He.glo_ok X G (c.f (.glo "read_block") (i := 18) rfl), F_read_block.kp, F_read_block.bindsN (ps := P_read_block) fun _ _ _ _ _ _ us hl => match us, hl with | [_], _ => rfl⟩
    ask := ⟨_, _, F_read_ask, He.glo_ok X G (c.f (.glo "read_ask") (i := 19) rfl), F_read_ask.kp, F_read_ask.bindsN (ps := P_read_ask) fun _ _ _ _ _ _ us hl => match us, hl with | [_], _ => rfl⟩
    keyed := ⟨_, _, F_read_keyed, He.glo_ok X G (c.f (.glo "read_keyed") (i := 20) rfl), F_read_keyed.kp, F_read_keyed.bindsN (ps := P_read_keyed) fun _ _ _ _ _ _ us hl => match us, hl with | [_], _ => rfl⟩
    first := ⟨_, _, F_read_first, He.glo_ok X G (c.f (.glo "read_first") (i := 21) rfl), F_read_first.kp, F_read_first.bindsN (ps := P_read_first) fun _ _ _ _ _ _ us hl => match us, hl with | [_], _ => rfl⟩
    message := ⟨_, _, F_read_message, He.glo_ok X G (c.f (.glo "read_message") (i := 22) rfl), F_read_message.kp, F_read_message.bindsN (ps := P_read_message) fun _ _ _ _ _ _ us hl => match us, hl with | [_, _], _ => rfl⟩
    behind := ⟨_, _, F_read_behind, He.glo_ok X G (c.f (.glo "read_behind") (i := 23) rfl), F_read_behind.kp, F_read_behind.bindsN (ps := P_read_behind) fun _ _ _ _ _ _ us hl => match us, hl with | [_], _ => rfl⟩
    put := ⟨_, _, F_put_together, He.glo_ok X G (c.f (.glo "put_together") (i := 24) rfl), F_put_together.kp, F_put_together.bindsN (ps := P_put_together) fun _ _ _ _ _ _ us hl => match us, hl with | [_, _], _ => rfl⟩
    ahead := ⟨_, _, F_read_ahead, He.glo_ok X G (c.f (.glo "read_ahead") (i := 25) rfl), F_read_ahead.kp, F_read_ahead.bindsN (ps := P_read_ahead) fun _ _ _ _ _ _ us hl => match us, hl with | [_, _], _ => rfl⟩
    e := ⟨_, _, F_read_e, He.glo_ok X G (c.f (.glo "read_e") (i := 26) rfl), F_read_e.kp, F_read_e.bindsN (ps := P_read_e) fun _ _ _ _ _ _ us hl => match us, hl with | [_], _ => rfl⟩
    plain := ⟨_, _, F_read_plain, He.glo_ok X G (c.f (.glo "read_plain") (i := 27) rfl), F_read_plain.kp, F_read_plain.bindsN (ps := P_read_plain) fun _ _ _ _ _ _ us hl => match us, hl with | [_], _ => rfl⟩
    short := ⟨_, _, F_read_short, He.glo_ok X G (c.f (.glo "read_short") (i := 28) rfl), F_read_short.kp, F_read_short.bindsN (ps := P_read_short) fun _ _ _ _ _ _ us hl => match us, hl with | [_], _ => rfl⟩
    st := ⟨_, _, F_read_statement, He.glo_ok X G (c.f (.glo "read_statement") (i := 29) rfl), F_read_statement.kp, F_read_statement.bindsN (ps := P_read_statement) fun _ _ _ _ _ _ us hl => match us, hl with | [_], _ => rfl⟩
    cls := ⟨_, _, F_read_class, He.glo_ok X G (c.f (.glo "read_class") (i := 30) rfl), F_read_class.kp, F_read_class.bindsN (ps := P_read_class) fun _ _ _ _ _ _ us hl => match us, hl with | [_], _ => rfl⟩
    item := ⟨_, _, F_read_item, He.glo_ok X G (c.f (.glo "read_item") (i := 31) rfl), F_read_item.kp, F_read_item.bindsN (ps := P_read_item) fun _ _ _ _ _ _ us hl => match us, hl with | [_], _ => rfl⟩ }
  have D_read_item := item (base := base) (fun d => shr_behind d) (fun d => nd_e d) TR RF RM
  have FI := ok_Reader_init (P := R.prog) (w := w) (base := base) TR F_Reader_init D_words
  have T := txf X G c
  have D_parts_of : Cal R.prog w K mg base CX0 1 "parts_of" P_parts_of (spParts K) := ⟨_, _, ok_parts_of (P := R.prog) (w := w) (base := base) T F_parts_of, He.glo_ok X G (c.f (.glo "parts_of") (i := 10) rfl), F_parts_of.kp, F_parts_of.bindsN fun _ _ _ _ _ _ us hl => match us, hl with | [_], _ => rfl⟩
  have D_within : Cal R.prog w K mg base CX0 2 "within" P_within (spWithin K) := ⟨_, _, ok_within (P := R.prog) (w := w) (base := base) T F_within D_parts_of, He.glo_ok X G (c.f (.glo "within") (i := 11) rfl), F_within.kp, F_within.bindsN fun _ _ _ _ _ _ us hl => match us, hl with | [_], _ => rfl⟩
  have D_statements_of : Cal R.prog w K mg base CX0 1 "statements_of" P_statements_of (spStsOf K) := ⟨_, _, ok_statements_of (P := R.prog) (w := w) (base := base) T F_statements_of, He.glo_ok X G (c.f (.glo "statements_of") (i := 12) rfl), F_statements_of.kp, F_statements_of.bindsN fun _ _ _ _ _ _ us hl => match us, hl with | [_], _ => rfl⟩
  have D_first_layer : Cal R.prog w K mg base CX0 2 "first_layer" P_first_layer (spFirst K) := ⟨_, _, ok_first_layer (P := R.prog) (w := w) (base := base) T F_first_layer D_statements_of, He.glo_ok X G (c.f (.glo "first_layer") (i := 13) rfl), F_first_layer.kp, F_first_layer.bindsN fun _ _ _ _ _ _ us hl => match us, hl with | [_], _ => rfl⟩
  have D_next_layer : Cal R.prog w K mg base CX0 3 "next_layer" P_next_layer (spNextL K) := ⟨_, _, ok_next_layer (P := R.prog) (w := w) (base := base) T F_next_layer D_within, He.glo_ok X G (c.f (.glo "next_layer") (i := 14) rfl), F_next_layer.kp, F_next_layer.bindsN fun _ _ _ _ _ _ us hl => match us, hl with | [_], _ => rfl⟩
  have D_raw_depth : Cal R.prog w K mg base CX0 4 "raw_depth" P_raw_depth spRaw := ⟨_, _, ok_raw_depth (P := R.prog) (w := w) (base := base) T F_raw_depth D_first_layer D_next_layer, He.glo_ok X G (c.f (.glo "raw_depth") (i := 15) rfl), F_raw_depth.kp, F_raw_depth.bindsN fun _ _ _ _ _ _ us hl => match us, hl with | [_, _], _ => rfl⟩
  have D_read : CalN N0 R.prog w K mg base (L2.CX R.prog w) 182 "read" P_read (spRead K) := ⟨_, _, ok_read (P := R.prog) (w := w) (base := base) (txe X G c) TR F_read RM (He.mkr_ok (c.f (.mkr "Reader") (i := 109) rfl)) (He.glo_ok X G (c.f (.glo "Reader") (i := 54) rfl)) FI (F_Reader_init.bindsN (ps := P_Reader_init) fun _ _ _ _ _ _ us hl => match us, hl with | [_, _], _ => rfl) D_read_item D_raw_depth, He.glo_ok X G (c.f (.glo "read") (i := 32) rfl), F_read.kp, (F_read.bindsN (ps := P_read) fun _ _ _ _ _ _ us hl => match us, hl with | [_], _ => rfl)⟩
  have D_law_asked : CalN N0 R.prog w K mg base CX0 183 "_law_asked" P_law_asked spAsked := ⟨_, _, ok_law_asked (P := R.prog) (w := w) (base := base) (txk X G c) F_law_asked D_read, He.glo_ok X G (c.f (.glo "_law_asked") (i := 45) rfl), F_law_asked.kp, (F_law_asked.bindsN (ps := P_law_asked) fun _ _ _ _ _ _ us hl => match us, hl with | [_], _ => rfl)⟩
  have T := txw X G c
  have D_law_flow : Cal R.prog w K mg base CX0 1 "_law_flow" P_law_flow (spFlow K) := ⟨_, _, ok_law_flow (P := R.prog) (w := w) (base := base) T F_law_flow, He.glo_ok X G (c.f (.glo "_law_flow") (i := 33) rfl), F_law_flow.kp, F_law_flow.bindsN fun _ _ _ _ _ _ us hl => match us, hl with | [_], _ => rfl⟩
  have D_law_more : Cal R.prog w K mg base CX0 1 "_law_more" P_law_more spMore := ⟨_, _, ok_law_more (P := R.prog) (w := w) (base := base) T F_law_more, He.glo_ok X G (c.f (.glo "_law_more") (i := 34) rfl), F_law_more.kp, F_law_more.bindsN fun _ _ _ _ _ _ us hl => match us, hl with | [_], _ => rfl⟩
  have D_law_draw : Cal R.prog w K mg base CX0 2 "_law_draw" P_law_draw spDraw := ⟨_, _, ok_law_draw (P := R.prog) (w := w) (base := base) T F_law_draw D_law_more, He.glo_ok X G (c.f (.glo "_law_draw") (i := 35) rfl), F_law_draw.kp, F_law_draw.bindsN fun _ _ _ _ _ _ us hl => match us, hl with | [_, _], _ => rfl⟩
  have D_law_name : Cal R.prog w K mg base CX0 3 "_law_name" P_law_name spName9 := ⟨_, _, ok_law_name (P := R.prog) (w := w) (base := base) T F_law_name D_law_draw, He.glo_ok X G (c.f (.glo "_law_name") (i := 37) rfl), F_law_name.kp, F_law_name.bindsN fun _ _ _ _ _ _ us hl => match us, hl with | [_], _ => rfl⟩
  have D_law_atom : Cal R.prog w K mg base CX0 4 "_law_atom" P_law_atom spAtom9 := ⟨_, _, ok_law_atom (P := R.prog) (w := w) (base := base) T F_law_atom D_law_draw D_law_name, He.glo_ok X G (c.f (.glo "_law_atom") (i := 38) rfl), F_law_atom.kp, F_law_atom.bindsN fun _ _ _ _ _ _ us hl => match us, hl with | [_], _ => rfl⟩
  have D_law_called : Cal R.prog w K mg base CX0 4 "_law_called" P_law_called spCalled9 := ⟨_, _, ok_law_called (P := R.prog) (w := w) (base := base) T F_law_called D_law_draw D_law_name, He.glo_ok X G (c.f (.glo "_law_called") (i := 40) rfl), F_law_called.kp, F_law_called.bindsN fun _ _ _ _ _ _ us hl => match us, hl with | [_], _ => rfl⟩
  have GF : GenF K mg := {
    e := ⟨_, _, F_law_e, He.glo_ok X G (c.f (.glo "_law_e") (i := 41) rfl), F_law_e.kp, F_law_e.bindsN (ps := P_law_e) fun _ _ _ _ _ _ us hl => match us, hl with | [_, _, _], _ => rfl⟩
    some := ⟨_, _, F_law_some, He.glo_ok X G (c.f (.glo "_law_some") (i := 39) rfl), F_law_some.kp, F_law_some.bindsN (ps := P_law_some) fun _ _ _ _ _ _ us hl => match us, hl with | [_, _, _], _ => rfl⟩
    rows := ⟨_, _, F_law_rows, He.glo_ok X G (c.f (.glo "_law_rows") (i := 42) rfl), F_law_rows.kp, F_law_rows.bindsN (ps := P_law_rows) fun _ _ _ _ _ _ us hl => match us, hl with | [_, _, _], _ => rfl⟩
    row := ⟨_, _, F_law_row, He.glo_ok X G (c.f (.glo "_law_row") (i := 43) rfl), F_law_row.kp, F_law_row.bindsN (ps := P_law_row) fun _ _ _ _ _ _ us hl => match us, hl with | [_, _, _], _ => rfl⟩ }
  have g4 := gens (P := R.prog) (w := w) (base := base) T GF D_law_draw D_law_name D_law_atom D_law_called 4
  have g5 := gens (P := R.prog) (w := w) (base := base) T GF D_law_draw D_law_name D_law_atom D_law_called 5
  have D_law_item : Cal R.prog w K mg base CX0 21 "_law_item" P_law_item spItem9 := ⟨_, _, ok_law_item (P := R.prog) (w := w) (base := base) T F_law_item D_law_draw D_law_name D_law_called (calLe g4.row (by decide)) g5.rows, He.glo_ok X G (c.f (.glo "_law_item") (i := 44) rfl), F_law_item.kp, (F_law_item.bindsN (ps := P_law_item) fun _ _ _ _ _ _ us hl => match us, hl with | [_, _, _], _ => rfl)⟩
  have D_law_text : Cal R.prog w K mg base CX0 22 "_law_text" P_law_text spText9 := ⟨_, _, ok_law_text (P := R.prog) (w := w) (base := base) T F_law_text D_law_draw D_law_item, He.glo_ok X G (c.f (.glo "_law_text") (i := 46) rfl), F_law_text.kp, (F_law_text.bindsN (ps := P_law_text) fun _ _ _ _ _ _ us hl => match us, hl with | [_], _ => rfl)⟩
  have D_law_same : Cal R.prog w K mg base CX0 160 "_law_same" P_law_same (spS 160) := ⟨_, _, ok_law_same (P := R.prog) (w := w) (base := base) T F_law_same (He.glo_ok X G (c.f (.glo "_law_same") (i := 36) rfl)) (F_law_same.bindsN (ps := P_law_same) fun _ _ _ _ _ _ us hl => match us, hl with | [_, _], _ => rfl) 160, He.glo_ok X G (c.f (.glo "_law_same") (i := 36) rfl), F_law_same.kp, (F_law_same.bindsN (ps := P_law_same) fun _ _ _ _ _ _ us hl => match us, hl with | [_, _], _ => rfl)⟩
  have T := txm X G c
  have D_law_long : Cal R.prog w K mg base CX0 3 "_law_long" P_law_long spLong := ⟨_, _, ok_law_long (P := R.prog) (w := w) (base := base) T F_law_long D_law_draw, He.glo_ok X G (c.f (.glo "_law_long") (i := 48) rfl), F_law_long.kp, F_law_long.bindsN fun _ _ _ _ _ _ us hl => match us, hl with | [_, _], _ => rfl⟩
  have T := txs X G c
  have D_law_spelled : Cal R.prog w K mg base CX0 1 "_law_spelled" P_law_spelled spSpelled := ⟨_, _, ok_law_spelled (P := R.prog) (w := w) (base := base) T F_law_spelled, He.glo_ok X G (c.f (.glo "_law_spelled") (i := 47) rfl), F_law_spelled.kp, F_law_spelled.bindsN fun _ _ _ _ _ _ us hl => match us, hl with | [_], _ => rfl⟩
  exact ok_law (base := base) (txl X G c) F_law D_law_flow D_law_text D_law_long D_law_spelled D_law_same D_words D_law_asked
end
end K09
open PySem PySem.W PySem.Calls PyProof.Rows
theorem PySem.Challenge.cw_unseenheap_k09_whole_texts_joined_holds : PySem.Challenge.rw_unseenheap_k09_whole_texts_joined.Holds := by
  w_on; o_law
  have left : LeftO (OpenLaw.row PySem.Challenge.rw_unseenheap_k09_whole_texts_joined).prog (view (OpenLaw.row PySem.Challenge.rw_unseenheap_k09_whole_texts_joined).prog [84]) K09.names (fun s => xlAt (view (OpenLaw.row PySem.Challenge.rw_unseenheap_k09_whole_texts_joined).prog [84]) [] s && recOk (OpenLaw.row PySem.Challenge.rw_unseenheap_k09_whole_texts_joined).toRowW.records s) K09.hkK.obs K09.hkK.val (12000 + 600) true :=
    HandSHeadRun.left_one (M := 12000) (by kernel_rfl) (Nat.ble_eq_true_of_le (by omega)) (fun s => by kernel_rfl) (Nat.ble_eq_true_of_le (by omega)) fun w os => by
      have z := K09.run w os
      have eo : K09.obK = fun s => K09.hkK.obs s.abs := funext K09.obK_eq
      rw [eo] at z
      simp only [HandSHeadRun.endQ_eq, HandSHeadRun.seenQ_eq]
      exact z
  exact EndN.holdsN (l := PySem.Challenge.rw_unseenheap_k09_whole_texts_joined) (n := 63) (k := 184) (n0 := K09.N0) (x := "script") (CX := fun _ => L2.CX0) (d := HandSHeadRun.topDef (OpenLaw.row PySem.Challenge.rw_unseenheap_k09_whole_texts_joined).prog 84) (XP := XL (view (OpenLaw.row PySem.Challenge.rw_unseenheap_k09_whole_texts_joined).prog [84]) []) (YP := K09.hkK.says)
    left (fun w s e => ⟨K09.hkK.of w s e, of_decide_eq_true (congrArg (fun z : K09.AlK => z.2) e)⟩) K09.hkK.keeps (fun s z => xl_of s (Bool.and_eq_true_iff.mp z).1) XL.keeps (by kernel_rfl) (by kernel_rfl) (by kernel_rfl) rfl (by rfl) (by first | assumption | decide +kernel) (by decide +kernel) ⟨rfl, rfl, rfl, rfl, rfl, by decide +kernel⟩ (by w_witness2) rfl (by decide) ⟨rfl, by decide, by decide⟩
    (fun w mg fa h Y G hmg0 => by
      obtain ⟨K, KX, c⟩ := Y
      have hmg : mg ("law" : PySem.Str) = some (.ref fa) := by
        have e : (HandSHeadRun.topDef (OpenLaw.row PySem.Challenge.rw_unseenheap_k09_whole_texts_joined).prog 84).name = ("law" : PySem.Str) := by kernel_rfl
        rw [← e]
        exact hmg0
      exact ⟨K, KX, K09.lawN KX G hmg c⟩)
    (fun _ _ _ _ _ z => z)
