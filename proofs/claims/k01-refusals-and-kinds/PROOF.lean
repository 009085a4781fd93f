import PyProof.Rows.All
import Wide.All
import OpenK.AllK
import Wide.FinOn
import HandS.ForMost
import HandS.Exc
import HandS.ExcOwn
import HandS.ExcInit
import HandS.ExcValue
import HandS.ExcIs
import HandS.IsInst
import HandS.ExcField
import PyProof.ReprRoads
import PyProof.ExcBaseAll.IndexError
import PyProof.ExcBaseAll.OverflowError
import PyProof.ExcBaseAll.RuntimeError
import PyProof.ExcBaseAll.LookupError
import HandS.Flow
import HandS.Codes
import PySem.Challenge.RW_groundsay_k01_refusals_and_kinds
set_option Elab.async false
set_option linter.all false
set_option maxRecDepth 100000
set_option maxHeartbeats 4000000
namespace Gx
open PySem PySem.Spec PyProof.Rows PySem.HandSPX L2

/-! own exception classes with an own __init__, whatever the built-in class they stand under -/
section
variable {M : Model} {prog : Program} {w : World} {A : Around} {E : Value → Shared → Prop} {R : Result → Shared → Prop} {h : Heap} {g : Array GenState} {d : Drawn} {t : Nat} {os : OsState}
variable {nm q : Str} {C N : Addr} {bs bm bmB : List Value} {hdct : Bool} {sn : List Str} {sub : List Value} {ab : Bool} {col : Option Bool} {dd : Option Addr} {k0 k1 k2 k3 k5 : Option Value} {B newId initId : String}

/-- the base's __new__ stands in the class's row of bases, and it is no error of attributes or names -/
structure Under (B : String) (bm : List Value) : Prop where
  has : bm.contains (.type B) = true
  noA : bm.contains (.type "AttributeError") = false
  noN : bm.contains (.type "NameError") = false

theorem newChecked (F : ExcBaseFacts B newId initId bmB) (U : Under B bm)
    {rest : List Value} {Q : Unit → Shared → Prop}
    (hC : h.get? C = some (excClassObj nm q C N bs bm hdct sn sub ab col dd k0 k1 k2 k3 k5 newId))
    (hq : Q () ⟨h, g, d, t, os⟩) :
    wpAny M A (checkBuiltinCall newId ⟨.ref C :: rest, []⟩) Q E ⟨h, g, d, t, os⟩ := by
  have hc : (Value.ref C :: bm).contains (.type B) = true := by
    rw [List.contains_cons, U.has, Bool.or_true]
  have hs := F.noStar
  simp only [checkBuiltinCall, F.newKind, F.newSplit, F.newRow]
  repeat (first
    | refine wpAny_loadPart_at hC ?_
    | (refine wpAny_isSubtype_exc hC ?_
       rw [hc])
    | refine wpAny_staticBase_exc hC ?_
    | refine wpAny_madeBy_exc hC ?_
    | simp only [bne_self_eq_false, Bool.false_eq_true, if_false]
    | wp_step)
  exact hq

theorem newMade (F : ExcBaseFacts B newId initId bmB) (U : Under B bm) {rest : List Value}
    (hC : h.get? C = some (excClassObj nm q C N bs bm hdct sn sub ab col dd k0 k1 k2 k3 k5 newId))
    (hr : rest.length ≤ sizeLine)
    (hq : R (.ok (.ret (.ref (h.objs.size + 1))))
      ⟨(h.push (W.kdv_tup rest)).push (excO C h.objs.size), g, d, t, os⟩) :
    codeAny (model prog w) A (.builtin newId ⟨.ref C :: rest, []⟩) R ⟨h, g, d, t, os⟩ := by
  have he := F.ends
  have c1 : (Value.ref C :: bm).contains (.type B) = true := by
    rw [List.contains_cons, U.has, Bool.or_true]
  have c2 : (Value.ref C :: bm).contains (.type "AttributeError") = false := by
    rw [List.contains_cons, U.noA]
    rfl
  have c3 : (Value.ref C :: bm).contains (.type "NameError") = false := by
    rw [List.contains_cons, U.noN]
    rfl
  refine codeAny_builtinAt F.entry ?_
  unfold Builtin.«BaseException.__new__»
  refine PySem.wpAt_bind ?_
  show PySem.wpAt _ _ _ (stack >>= _) _ _ _
  refine PySem.wpAt_bind (PySem.wpAt_stack fun p below => PySem.wpAt_of_wpAny ?_)
  wp_walk
  refine PySem.wpAt_of_wpAny ?_
  rw [F.owner]
  repeat (first
    | with_reducible refine wpAny_madeHere_exc F.canon hC ?_
    | with_reducible refine wpAny_loadPart_at hC ?_
    | (with_reducible refine wpAny_isSubtype_exc hC ?_
       first | rw [c1] | rw [c2] | rw [c3])
    | wp_step)
  show R _ _
  rw [Heap.size_push]
  exact hq

theorem typeCalled (F : ExcBaseFacts B newId initId bmB) (U : Under B bm) {rest : List Value} {fI : Addr} {Q : Fin → Shared → Prop}
    (hC : h.get? C = some (excClassObj nm q C N bs bm hdct sn sub ab col dd k0 k1 k2 k3 k5 newId))
    (hi : W.Looks (model prog w) h (typeLookup (.ref C) "__init__") (some (.ref fI)))
    (hb : ∀ self, W.Looks (model prog w) h (bindSpecial (.ref fI) self) (.ref fI, [self]))
    (hr : rest.length ≤ sizeLine)
    (hq : codeAny (model prog w) A (.call (.ref fI) ⟨.ref (h.objs.size + 1) :: rest, []⟩)
      (fun r s' => match r with
        | .ok (.ret v) => v = .none ∧ Q (.done (.ret (.ref (h.objs.size + 1)))) s'
        | .ok _ => False
        | .error e => E e s')
      ⟨(h.push (W.kdv_tup rest)).push (excO C h.objs.size), g, d, t, os⟩) :
    wpAny (model prog w) A (Builtin.«type.__call__» ⟨.ref C :: rest, []⟩) Q E ⟨h, g, d, t, os⟩ := by
  repeat (first
    | with_reducible refine wpAny_loadPart_at hC ?_
    | with_reducible refine wpAny_madeBy_exc hC ?_
    | wp_step)
  refine codeAny_call_builtin_code (Code.quiet_builtin _ F.quiet) (newChecked F U hC ?_)
  refine newMade F U hC hr ?_
  show wpAny _ _ _ _ _ _
  have k : ∀ b o, h.get? b = some o →
      ((h.push (W.kdv_tup rest)).push (excO C h.objs.size)).get? b = some o := fun b o e =>
    Heap.get?_push_of_some _ (Heap.get?_push_of_some _ e)
  have hC1 := k _ _ hC
  have hg : ((h.push (W.kdv_tup rest)).push (excO C h.objs.size)).get? (h.objs.size + 1)
      = some (excO C h.objs.size) := by heap_get
  have cc : (Value.ref C :: bm).contains (.ref C) = true := by simp
  have i1 := hi.keeps k
  have b1 := (hb (.ref (h.objs.size + 1))).keeps k
  unfold isInstance
  repeat (first
    | with_reducible refine wpAny_loadPart_at hg ?_
    | (with_reducible refine wpAny_isSubtype_exc hC1 ?_
       rw [cc])
    | wp_step)
  show wpAny _ _ (typeLookup (.ref C) _) _ _ _
  refine i1.at ?_
  refine wpAny_holding (wpAny_bind (b1.at ?_))
  refine wpAny_bind (wpAny_call (codeAny_mono hq fun r s' z => ?_))
  cases r with
  | error e => exact z
  | ok fl =>
    cases fl with
    | ret v =>
      have z' : v = .none ∧ Q (.done (.ret (.ref (h.objs.size + 1)))) s' := z
      clear z
      obtain ⟨e, z2⟩ := z'
      subst e
      first
        | exact wpAny_pure (wpAny_pure z2)
        | (wp_walk; exact z2)
    | next => exact z.elim
    | brk => exact z.elim
    | cont => exact z.elim

theorem classCalled (F : ExcBaseFacts B newId initId bmB) (U : Under B bm) {rest : List Value} {fI : Addr}
    (hC : h.get? C = some (excClassObj nm q C N bs bm hdct sn sub ab col dd k0 k1 k2 k3 k5 newId))
    (hi : W.Looks (model prog w) h (typeLookup (.ref C) "__init__") (some (.ref fI)))
    (hb : ∀ self, W.Looks (model prog w) h (bindSpecial (.ref fI) self) (.ref fI, [self]))
    (hr : rest.length ≤ sizeLine)
    (hq : codeAny (model prog w) (A.under (.builtin "type.__call__" ⟨.ref C :: rest, []⟩))
      (.call (.ref fI) ⟨.ref (h.objs.size + 1) :: rest, []⟩) (W.InitBack (h.objs.size + 1) R)
      ⟨(h.push (W.kdv_tup rest)).push (excO C h.objs.size), g, d, t, os⟩) :
    codeAny (model prog w) A (.call (.ref C) ⟨rest, []⟩) R ⟨h, g, d, t, os⟩ := by
  have f1 := tc_lookup
  have f2 := tc_bind (.ref C)
  have hTy : (⟨h, g, d, t, os⟩ : Shared).TypeIs (.ref C) "type" := ⟨_, hC, rfl⟩
  refine codeAny_of_tree ?_
  show wpAny _ _ (callAny (.ref C) _) _ _ _
  repeat (any_goals (first
    | assumption
    | with_reducible refine wpAny_loadPart_at hC ?_
    | wp_step))
  refine ⟨rfl, ?_⟩
  refine codeAny_call_builtin_at (Code.quiet_builtin _ (by decide +kernel)) entry_typeCall
    (wpAny_check_type_call_sub hC (typeCalled F U hC hi hb hr ?_))
  refine codeAny_mono hq fun r s' z => ?_
  cases r with
  | error e => exact z
  | ok fl => cases fl <;> exact z
end
end Gx

set_option Elab.async false
set_option linter.all false
set_option maxRecDepth 100000
set_option maxHeartbeats 4000000
namespace Gx
open PySem PySem.Spec PyProof.Rows PySem.HandSPX L2
open Builtin Builtin.ObjectAttr

/-! a field stored into a new error object -/
section
variable {prog : Program} {w : World} {A : Around} {E : Value → Shared → Prop} {R : Result → Shared → Prop} {hp : Heap} {g : Array GenState} {d : Drawn} {t : Nat} {os : OsState}
theorem fieldLaid {K : W.Frag} {name : Str} {tk : Tok} {v : Value} {x C : Addr} {fv : Array Value} {cd : ClassData}
    (X : K.In hp) (hx : hp.get? x = some { cls := .ref C, data := .fields fv }) (hcd : W.clsIn K C = some cd)
    (hm : ∀ self, refuseLoop self "__setattr__" cd.mro = pure ())
    (hob : cd.mro.contains (.type "object") = true) (ne : cd.mro.isEmpty = false)
    (hh : cd.hasDict = true) (ha : W.findIn K (.ref C) name = some none)
    (hq : ∀ h' tk' dx, (∀ b o, b ≠ x → hp.get? b = some o → h'.get? b = some o) → hp.objs.size ≤ dx → dx ≠ x →
      h'.get? x = some { cls := .ref C, dict := some dx, data := .fields fv } →
      h'.Ns1 dx (fun y => if y = name then some v else none) → R (.ok (.ret .none)) ⟨h', g, d, tk', os⟩) :
    codeAny (model prog w) A (.call (.builtin "object.__setattr__") ⟨[.ref x, .str name tk, v], []⟩) R ⟨hp, g, d, t, os⟩ := by
  have I : W.InstAt hp x { cls := .ref C, data := .fields fv } C none := ⟨hx, rfl, rfl, trivial⟩
  have SF := F.store_object
  have hxs : x ≠ hp.objs.size := Nat.ne_of_lt (Heap.lt_size hx)
  have sub : W.Looks (model prog w) hp (isInstance (.ref x) (.type "object")) true :=
    I.type.andThen (W.looks_mroIn X (by
      unfold W.mroIn
      rw [hcd, Option.bind_some, if_neg (by rw [ne]; decide), hob]))
  refine codeAny_call_builtin SF.slot.plain SF.entry (@W.check_slot (model prog w) _ _ ⟨hp, g, d, t, os⟩
    "object.__setattr__" "object" "__setattr__" (.ref x) [.str name tk, v] [] _ SF.kind SF.split sub
    (SF.args (.ref x) (.str name tk) v) ?_)
  have l1 : W.Looks (model prog w) hp (mroOf (.ref C)) cd.mro := (W.looks_clsIn X hcd).andThen .now
  have l2 : W.Looks (model prog w) hp (storeTaker? none) none := .now
  have l3 : W.Looks (model prog w) hp (classData C) cd := W.looks_clsIn X hcd
  rw [W.osa_eq, refuse_eq]
  refine wpAny_bind (wpAny_bind (I.type.at (wpAny_bind (l1.at ?_))))
  rw [hm]
  refine wpAny_pure (wpAny_bind (I.type.at
    (wpAny_bind ((W.looks_findIn X ha).at (wpAny_bind (l2.at ?_))))))
  show wpAny _ _ (storeInOwnDict (.ref x) (.ref C) (.str name tk) name v false) _ _ _
  obtain ⟨nm, bs, mro, ns, qn, hd, sn, sb, ab, col, del⟩ := cd
  dsimp only at hh
  subst hh
  unfold storeInOwnDict ownDictForStores
  repeat (first
    | with_reducible refine store_in_new ?_ ?_
    | with_reducible refine wpAny_loadPart_at hx ?_
    | with_reducible refine l3.at ?_
    | wp_step)
  · refine ⟨_, #[], _, (Heap.get?_update_ne _ _ _ _ hxs.symm).trans (Heap.get?_push_at rfl rfl), rfl, ?_, fun _ => rfl⟩
    exact fun e he => absurd he (by simp)
  · intro h' tk' hn hs
    have hx1 : (hp.push { cls := .type "dict", data := .dict #[] }).get? x
        = some { cls := .ref C, data := .fields fv } := Heap.get?_push_of_some _ hx
    refine hq h' tk' hp.objs.size (fun b o hb ho => ?_) (Nat.le_refl _) hxs.symm ?_ hn
    · refine (hs.2 b (Nat.ne_of_lt (Heap.lt_size ho))).trans ?_
      exact (Heap.get?_update_ne _ _ _ _ hb).trans (Heap.get?_push_of_some _ ho)
    · exact (hs.2 x hxs).trans (Heap.get?_update_self _ hx1 rfl)
end

/-- what the written part says of an own error class with an own __init__ -/
structure OxG (K : PySem.W.Frag) (C : Addr) (B newId initId : String) (bmB : List Value) : Prop where
  base : ExcBaseFacts B newId initId bmB
  cls : ∃ nm q N bs bm sn sub ab col dd k0 k1 k2 k3 k5,
    K.lookup C = some (excClassObj nm q C N bs bm true sn sub ab col dd k0 k1 k2 k3 k5 newId) ∧ Under B bm ∧
    (∀ self, refuseLoop self "__setattr__" bm = pure ()) ∧ bm.contains (.type "object") = true
  sa : PySem.W.findIn K (.ref C) "__setattr__" = some (some (.builtin "object.__setattr__"))
  kC : PySem.W.keepIn K (.ref C) = true

section
variable {X : Cx} {pins : List (Addr × Obj)} {σ : L2.St} {H : Hp} {s : Shared} {a C dx : Addr} {f : Str} {y : V} {u : Value} {Q : Unit → Shared → Prop} {E : Value → Shared → Prop} {A : Around} {B newId initId : String} {bmB : List Value}
theorem fieldSet (T : OxG X.K C B newId initId bmB) (I : Inv X pins σ H s) (e : H a = some (exo a C none))
    (hno : PySem.W.findIn X.K (.ref C) f = some none) (ry : RelV y u)
    (h : ∀ dx s', H dx = none → dx ≠ a →
      Inv X pins σ (upd (upd H dx (exd dx [(f, y)])) a (exo a C (some dx))) s' → Q () s') :
    wpAny (model X.prog X.w) A (setAttr (.ref a) f u) Q E s := by
  obtain ⟨nm, q, N, bs, bm, sn, sub, ab, col, dd, k0, k1, k2, k3, k5, hC, U, hps, hob⟩ := T.cls
  have hcl : PySem.W.clsIn X.K C = some { name := nm, bases := bs, mro := .ref C :: bm, ns := N, qualname := q, hasDict := true, slotNames := sn, subclasses := sub, abstract := ab, collection := col, hasDel := false } := by
    unfold PySem.W.clsIn
    rw [hC] <;> rfl
  obtain ⟨t1, ho⟩ := exo_at I.hok e
  obtain ⟨hp, g, d, t, os⟩ := s
  refine PySem.W.set_plain I.kIn
    (ox := { cls := .ref C, dict := none, data := .fields #[.ref t1, .none, .none, .none, .bool false, .none] })
    (od := none) ⟨ho, rfl, rfl, trivial⟩ T.sa ?_
  refine fieldLaid I.kIn ho hcl (fun self => (refuseLoop_ref self _ C bm).trans (hps self))
    (by show (Value.ref C :: bm).contains (.type "object") = true; rw [List.contains_cons, hob, Bool.or_true]) rfl rfl hno
    (fun h' tk' dx k dn dne hx hn => ?_)
  have hnd : H dx = none := I.hok.fresh dn
  have nd : ∀ {b : Addr} {o : Obj}, hp.get? b = some o → b ≠ dx := fun {b o} q =>
    Nat.ne_of_lt (Nat.lt_of_lt_of_le (Heap.lt_size q) dn)
  have na : ∀ {b : Addr}, H b = none → b ≠ a := fun {b} n z => by
    rw [z, e] at n
    cases n
  have U1 : Un X.fs [] H (upd (upd H dx (exd dx [(f, y)])) a (exo a C (some dx))) hp h' := {
    keep := fun b o q n _ _ => k b o (na n) q
    slot := fun b o q n _ _ => ⟨o.slots, k b o (na n) q⟩
    free := fun b o q n _ => by
      rw [upd_ne (na n), upd_ne (nd q)]
      exact n
    there := fun b o q _ => by
      by_cases hb : b = a
      · exact ⟨_, by rw [hb]; exact hx⟩
      · exact ⟨o, k b o hb q⟩
    tups := fun b xs q => by
      rw [upd_ne (at_ne e q exo_tup), upd_ne (ne_of_none q hnd)]
      exact q
    frzs := fun b o v q => by
      rw [upd_ne (at_ne e q exo_frz), upd_ne (ne_of_none q hnd)]
      exact q
    tbls := fun b ps q => ⟨#[], by
      rw [upd_ne (at_ne e q exo_tbl), upd_ne (ne_of_none q hnd), q]
      simp⟩ }
  refine h dx _ hnd dne (I.un (t' := tk') U1 fun b o q => ?_)
  by_cases hb : b = a
  · subst hb
    rw [upd_same] at q
    cases q
    exact exo_ok hx
  · rw [upd_ne hb] at q
    by_cases hd : b = dx
    · subst hd
      rw [upd_same] at q
      cases q
      exact exd_ok hn (relO_put (fs := []) ry fun g => True.intro)
    · rw [upd_ne hd] at q
      refine (I.hok b o q).stay (fun c v hc z => k c v ?_ z) (fun c hc => ?_) (fun c xs hc => ?_)
      · rcases hc with hc | hc
        · rw [hc]
          exact hb
        · exact at_ne e hc exo_own
      · rw [upd_ne (at_ne e hc exo_own), upd_ne (ne_of_none hc hnd)]
        exact hc
      · rw [upd_ne (at_ne e hc exo_tup), upd_ne (ne_of_none hc hnd)]
        exact hc
end

/-- self.f = e in such an __init__ -/
def tFset (K : PySem.W.Frag) (f : Str) (to te : TE) : TS := fun D σ H => te σ H fun y H1 => to σ H1 fun x H2 =>
  ∃ (a C : Addr) (B newId initId : String) (bmB : List Value), x = .ref a ∧ OxG K C B newId initId bmB ∧
    PySem.W.findIn K (.ref C) f = some none ∧ H2 a = some (exo a C none) ∧
    ∀ dx, H2 dx = none → dx ≠ a → D.nx σ (upd (upd H2 dx (exd dx [(f, y)])) a (exo a C (some dx)))
section
variable {X : Cx} {o e : Expr} {es : List Expr} {to te : TE} {ta : TA} {f : Str} {p p' pos : Pos}
theorem ps_fset (ho : PE X o to) (he : PE X e te)
    (hs : swapsWith e (some (.Attribute o f p')) pos.line X.env = pure false := by rfl) :
    PS X (.Assign [.Attribute o f p'] e pos) (tFset X.K f to te) := by
  refine ⟨fun pins s σ H D I h => ?_⟩
  refine plainObj_wpAny_Assign_Attribute (thn (he.run pins s σ H _ I h) fun v s1 ⟨y, H1, I1, r1, q1⟩ =>
    thn (ho.run pins s1 σ H1 _ I1 q1) fun u s2 ⟨x, H2, I2, r2, a, C, B, newId, initId, bmB, ex, T, hno, ea, q⟩ => ?_) hs
  subst ex
  obtain rfl : u = Value.ref a := r2
  exact fieldSet T I2 ea hno r1 fun dx s' n ne J => ⟨σ, _, J, q dx n ne⟩

/-- C(e, ..) as a value: __init__'s promise at the new object, then what follows -/
def tMkV (C : Addr) (sp : Sp) (ta : TA) : TE := fun σ H Q => ta σ H fun vs H1 => vs.length ≤ 1000 ∧
  ∀ a, H1 a = none → sp (.ref a :: vs) (upd H1 a (exo a C none)) (fun v H2 => v = .non ∧ Q (.ref a) H2) (fun _ _ _ => False)
theorem pe_mkV {CX : CXT} {x : Str} {C fI : Addr} {k : Nat} {fd : FuncData} {ps : List Str} {sp : Sp} {B newId initId : String} {bmB : List Value}
    (T : OxG X.K C B newId initId bmB) (iC : PySem.W.findIn X.K (.ref C) "__init__" = some (some (.ref fI)))
    (tI : PySem.W.typeIn X.K (.ref fI) = some (.type "function"))
    (F1 : FnOk X.prog X.w X.K X.mg X.base CX k fI fd ps sp) (hr : Room (k + 1) X.A) (hb : Binds X.K fd ps [])
    (hx : Passes CX X (fun _ _ _ => False)) (hg : Gl X x) (hm : X.mg x = some (.ref C)) (ha : PA X (e :: es) ta)
    (hdb : (x == ("__debug__" : Str)) = false := by decide)
    (he : starEach (e :: es) X.env = (false, eval e X.env) :: starEach es X.env := by rfl)
    (hpl : (backTo pos (starEach es X.env)).any (·.1) = false := by rfl) :
    PE X (.Call (.Name x p) (e :: es) [] pos) (tMkV C sp ta) := by
  refine ⟨fun pins s σ H Q I h => ?_⟩
  obtain ⟨nm, q, N, bs, bm, sn, sub, ab, col, dd, k0, k1, k2, k3, k5, hC, U, _, _⟩ := T.cls
  refine wpAny_Call_Name_kw (ld_glob I hg hm ?_ hdb)
  refine PySem.W.callWith_K (h₀ := X.base) I.ok.mod.kin T.kC
    (thn (ha.run pos pins s σ H _ I h) fun us s1 ⟨vs, H1, I1, r1, hz, q1⟩ => ⟨I1.kIn, ?_⟩) he hpl
  show wpAny _ _ (call (.ref C) us) _ _ _
  obtain ⟨hp, g, dr, tk, os⟩ := s1
  have hsz : hp.objs.size ≤ hp.objs.size + 1 := Nat.le_succ _
  have hn : H1 (hp.objs.size + 1) = none := I1.hok.fresh hsz
  have hq := q1 (hp.objs.size + 1) hn
  have kk : ∀ b o, hp.get? b = some o → ((hp.push (PySem.W.kdv_tup us)).push (excO C hp.objs.size)).get? b = some o :=
    fun b o e => Heap.get?_push_of_some _ (Heap.get?_push_of_some _ e)
  have hget : ((hp.push (PySem.W.kdv_tup us)).push (excO C hp.objs.size)).get? (hp.objs.size + 1)
      = some (excO C hp.objs.size) := by heap_get
  have I2 : Inv X pins σ (upd H1 (hp.objs.size + 1) (exo (hp.objs.size + 1) C none))
      ⟨(hp.push (PySem.W.kdv_tup us)).push (excO C hp.objs.size), g, dr, tk, os⟩ :=
    I1.laid (t' := tk) (a := hp.objs.size + 1) (o := exo (hp.objs.size + 1) C none)
      (h' := (hp.push (PySem.W.kdv_tup us)).push (excO C hp.objs.size)) kk hsz (exo_ok hget)
  have r2 : Vals (V.ref (hp.objs.size + 1) :: vs) (Value.ref (hp.objs.size + 1) :: us) := .cons rfl r1
  have hl : (Value.ref (hp.objs.size + 1) :: us).length = ps.length := by
    have e := r2.length
    rw [F1.len _ _ _ _ hq] at e
    exact e.symm
  have hus : us.length ≤ sizeLine := by
    rw [← Paired.length r1, sizeLine_eq]
    omega
  have hbb := hb ⟨(hp.push (PySem.W.kdv_tup us)).push (excO C hp.objs.size), g, dr, tk, os⟩
    (Value.ref (hp.objs.size + 1) :: us) I2.kIn (by simpa using hl)
  refine wpAny_call (classCalled T.base U (I1.kIn _ _ hC) (PySem.W.looks_findIn I1.kIn iC)
    (fun self => PySem.W.bind_fn I1.kIn self tI) hus
    (codeAny_mono (F1.run _ X.stack _ _ ⟨Value.ref (hp.objs.size + 1) :: us, []⟩ (Value.ref (hp.objs.size + 1) :: us) _ _ (fun _ _ _ => False)
      (hr.make C us []) (I2.env0.make C us []) (by simpa using hbb) r2 hq) fun r s' hq' => ?_))
  cases r with
  | error er => exact hx pins σ _ _ er s' I2 hq'
  | ok fl =>
    cases fl with
    | ret u =>
      obtain ⟨v, H2, os2, bare2, un2, hok2, rv, ev, q2⟩ := hq'
      subst ev
      have J : Inv X pins σ H2 s' := I2.call' (ch := []) os2 un2 hok2 bare2 (fun b z => absurd z (by simp))
      exact ⟨rv, .ref (hp.objs.size + 1), H2, J, rfl, q2⟩
    | next => exact False.elim hq'
    | brk => exact False.elim hq'
    | cont => exact False.elim hq'
end
end Gx

set_option Elab.async false
set_option linter.all false
set_option maxRecDepth 100000
set_option maxHeartbeats 4000000
namespace Gx
open PySem PySem.Spec PySem.Calls PyProof.Rows PySem.HandSPX L2
/-! isinstance of an error object that is held, and the reading of its fields -/
section
open PySem.W
variable {prog : Program} {w : World} {A : Around} {E : Value → Shared → Prop} {s : Shared} {K : Frag} {x D : Addr} {ox : Obj} {od : Option Obj}
theorem classAsked {Q : Option Value → Shared → Prop} (T : ExcC K D) (X : K.In s.heap) (I : InstAt s.heap x ox D od)
    (h : Q (some (.ref D)) { s with toks := s.toks + 1 }) :
    wpAny (model prog w) A (getAttr? (.ref x) "__class__") Q E s := by
  have hi : (clsIn K D).isSome = true := by
    obtain ⟨cd, hc, _⟩ := any_some T.hd
    rw [hc]
    rfl
  have hf : findObj K D od "__class__" = some (.bind (.builtin "getset_descriptor.__get__") (.builtin "object.__class__")) := by
    cases od with
    | none => exact findObj_dataN hi T.ha T.hn T.ht
    | some o => exact findObj_data hi T.ha T.hn T.ht
  obtain ⟨hp, g, d, t, os⟩ := s
  have L0 := I.type (M := model prog w)
  have L1 := looks_findIn (M := model prog w) X T.hg
  have L2 := looks_findIn (M := model prog w) X T.hk
  have L3 := looks_find (M := model prog w) X I hf
  have sub : Looks (model prog w) hp (isInstance (.ref x) (.type "BaseException")) true :=
    L0.andThen (looks_subIn X T.hs)
  have n0 : (false && onTheHeap (Value.builtin "BaseException.__getattribute__")) = false := rfl
  have n2 : (Value.builtin "BaseException.__getattribute__" == Value.builtin "object.__getattribute__") = false := by
    decide +kernel
  have n1 : (onTheHeap (Value.ref D) &&
      Value.builtin "BaseException.__getattribute__" == Value.builtin "object.__getattribute__") = false := by
    rw [n2]
    rfl
  unfold getAttr? getAttrBy? getAttrBy
  refine wpAny_bind (wpAny_mkText (wpAny_bind (wpAny_attempt (wpAny_holding
    (wpAny_bind (L0.at (wpAny_bind (L1.at ?_))))))))
  show wpAny _ _ (if (onTheHeap (Value.ref D) &&
    Value.builtin "BaseException.__getattribute__" == Value.builtin "object.__getattribute__") = true then _ else _) _ _ _
  rw [n1, if_neg Bool.false_ne_true]
  unfold getAttrByItsOwn hookBefore
  refine wpAny_bind ?_
  rw [if_pos (show onTheHeap (Value.ref D) = true from rfl)]
  refine L2.at ?_
  refine wpAny_bind (wpAny_attempt (wpAny_holding ?_))
  unfold callGetattribute
  rw [n0, if_neg Bool.false_ne_true]
  unfold boundAndCalled
  rw [PySem.F.excAttr_ValueError.ga.bind (.ref x)]
  refine wpAny_bind (wpAny_pure ?_)
  show wpAny _ _ (call (.builtin "BaseException.__getattribute__") [.ref x, .str "__class__" t]) _ _ _
  refine wpAny_call (codeAny_call_builtin PySem.F.excAttr_ValueError.ga.plain PySem.F.entry_bexc_ga ?_)
  refine @check_slot (model prog w) _ _ ⟨hp, g, d, t + 1, os⟩ "BaseException.__getattribute__" "BaseException"
    "__getattribute__" (.ref x) [.str "__class__" t] [] _ (by decide +kernel) (by decide +kernel) sub
    (PySem.F.args_bexc_ga (.ref x) (.str "__class__" t)) ?_
  unfold Builtin.«object.__getattribute__»
  refine wpAny_bind (wpAny_of_eq (a := ((Value.ref x : Value), [Value.str "__class__" t]))
    (by first | rfl | (simp only [slotArgs]; rfl)) ?_)
  refine wpAny_bind (wpAny_pure (wpAny_bind (L0.at (wpAny_bind (L3.at ?_)))))
  show wpAny _ _ (holding [Value.builtin "object.__class__"]
    (call (.builtin "getset_descriptor.__get__") [.builtin "object.__class__", .ref x, .ref D]) >>= ret) _ _ _
  refine wpAny_bind (wpAny_holding (wpAny_call
    (class_get (s := ⟨hp, g, d, t + 1, os⟩) (ox := ox) (od := od) X I T.hm ?_)))
  refine wpAny_pure ?_
  show wpAny _ _ (handedOut (.ref D)) _ _ _
  rw [handedOut_of (v := .ref D) rfl]
  first
    | exact wpAny_pure (wpAny_pure h)
    | exact wpAny_pure h
    | exact wpAny_pure (wpAny_bind (wpAny_pure (wpAny_pure h)))
theorem kitErr (T : ExcC K D) : KitX K (.ref x) (.ref D) (fun h => InstAt h x ox D od) where
  ty := fun _ _ _ I => I.type
  it := fun _ _ X _ => by
    obtain ⟨cd, hc, _⟩ := any_some T.hd
    unfold clsIn at hc
    split at hc
    · rename_i c' d' cd' sl' ho
      intro A' Q' E' s' k q
      unfold isType loadHead
      exact wpAny_bind (wpAny_loadPart (k _ _ (X _ _ ho)) (wpAny_pure q))
    · cases hc
  ne := fun h tp dd its n sl X htp => by
    obtain ⟨cd, hc, _⟩ := any_some T.hd
    refine Bool.eq_false_iff.mpr fun q => ?_
    have e : D = tp := Value.ref.inj (beq_iff_eq.mp q)
    subst e
    unfold clsIn at hc
    split at hc
    · rename_i c' d' cd' sl' ho
      have z := (X _ _ ho).symm.trans htp
      cases z
    · cases hc
  ca := fun X I k => classAsked T X I k
end

/-- at a stands a held error of the class at D -/
inductive ErrAt (H : Hp) (a D : Addr) : Prop where
  | plain (h : H a = some (ExO (.ref D) a)) : ErrAt H a D
  | own (d : Addr) (fs : List (Str × V)) (h : H a = some (exo a D (some d))) (hd : H d = some (exd d fs)) : ErrAt H a D
/-- isinstance(x, c), x a held error -/
def rIsX (K : PySem.W.Frag) : List V → Hp → VK → Prop := fun xs H Q =>
  ∃ (a D : Addr) (c : V) (u : Value) (b : Bool), xs = [.ref a, c] ∧ ErrAt H a D ∧ ExcC K D ∧ ClsV c u ∧
    PySem.W.kitOne K (.ref D) u = some b ∧ Q (.bl b) H
section
variable {X : Cx}
theorem call_isX : CallR X (.builtin "isinstance") (rIsX X.K) := by
  intro pins s σ H xs us Q I r h
  obtain ⟨a, D, c, u, b, rfl, hE, T, k, e, q⟩ := h
  obtain ⟨u1, u2, rfl, r1, r2⟩ := vals2 r
  have e2 := k.eq r2
  subst e2
  cases (show u1 = Value.ref a from r1)
  cases hE with
  | plain h1 =>
    obtain ⟨⟨oe, vs, ho, hz, hd, _⟩, _, _⟩ := I.hok a _ h1
    obtain ⟨oc, odd, oda, osl⟩ := oe
    obtain ⟨z1, z2⟩ := hz
    dsimp only at z1 z2 hd
    subst z1 z2 hd
    exact PySem.W.kia_one (kitErr (od := none) T) I.kIn ⟨ho, rfl, rfl, trivial⟩ e (fun z => nomatch z)
      fun tk => ⟨.bl b, H, I.tok tk, rfl, q⟩
  | own d fs h1 h2 =>
    obtain ⟨t0, ho⟩ := exo_at I.hok h1
    obtain ⟨mA, hns, _⟩ := exd_at I.hok h2
    obtain ⟨od, hod, _⟩ := lookIn_ns hns
    exact PySem.W.kia_one (kitErr (od := some od) T) I.kIn ⟨ho, rfl, rfl, hod⟩ e (fun z => nomatch z)
      fun tk => ⟨.bl b, H, I.tok tk, rfl, q⟩
/-- e.f, e a held error with its own fields -/
def tFget (K : PySem.W.Frag) (f : Str) (te : TE) : TE := fun σ H Q => te σ H fun x H1 =>
  ∃ (a C d : Addr) (fs : List (Str × V)) (v : V), x = .ref a ∧ XfC K C ∧ PySem.W.findIn K (.ref C) f = some none ∧
    H1 a = some (exo a C (some d)) ∧ H1 d = some (exd d fs) ∧ fs.lookup f = some v ∧ Q v H1
theorem pe_fget {e : Expr} {te : TE} {pos : Pos} {n : Str} (he : PE X e te)
    (hb : attributeBase e n X.env (eval e X.env) = eval e X.env := by rfl) :
    PE X (.Attribute e n pos) (tFget X.K n te) := by
  refine ⟨fun pins s σ H Q I h => ?_⟩
  refine attr_of hb (thn (he.run pins s σ H _ I h) fun u s1 hh => ?_)
  obtain ⟨x, H1, I1, rx, a, C, d, fs, v, ex, T, hno, h1, h2, l, q⟩ := hh
  subst ex
  obtain rfl : u = Value.ref a := rx
  obtain ⟨t0, ho⟩ := exo_at I1.hok h1
  obtain ⟨mA, hns, hr⟩ := exd_at I1.hok h2
  obtain ⟨od, hod, hl⟩ := lookIn_ns hns
  obtain ⟨u, hu, ru⟩ := RelO.some_of (v := v) (o := mA n) (by rw [← l]; exact hr n)
  exact HandSPX.exc_get I1.kIn (od := some od) ⟨ho, rfl, rfl, hod⟩ T.ga T.gg T.exC
    (PySem.W.findObj_own T.hdC hno rfl (by rw [hl, hu])) (handed_of ru) ⟨v, H1, I1.tok _, ru, q⟩
end
end Gx

set_option Elab.async false
set_option linter.all false
set_option maxRecDepth 100000
set_option maxHeartbeats 4000000
namespace Gx
open PySem PySem.Spec PyProof.Rows L2
/-! defs that are called where no repr is under way: as FnOk, with that said of what runs around -/
structure FnG (P : Program) (w : World) (K : PySem.W.Frag) (mg : Str → Option Value) (base : Heap) (CX : CXT) (k : Nat) (f : Addr) (fd : FuncData) (ps : List Str) (sp : Sp) : Prop where
  len : ∀ vs H Q E, sp vs H Q E → vs.length = ps.length
  run : ∀ (A : Around) (outer : List Env) (s : Shared) (H : Hp) (args : Args) (us : List Value) (vs : List V) (Q : VK) (E : XK),
    A.guards = some [] → Room k A → Env0 P w K mg base A outer s H → BindsTo s fd args (ps.zip us) → Vals vs us → sp vs H Q E →
    codeAny (model P w) A (.call (.ref f) args) (CR CX outer P w H s Q E) s
section
variable {P : Program} {w : World} {K : PySem.W.Frag} {mg : Str → Option Value} {base : Heap} {CX : CXT} {k : Nat} {f : Addr} {fd : FuncData} {ps N : List Str} {sp : Sp}
theorem FnG.of (F : FnOk P w K mg base CX k f fd ps sp) : FnG P w K mg base CX k f fd ps sp :=
  ⟨F.len, fun A outer s H args us vs Q E _ => F.run A outer s H args us vs Q E⟩
theorem FnG.mono {j : Nat} (F : FnG P w K mg base CX j f fd ps sp) (h : j ≤ k) : FnG P w K mg base CX k f fd ps sp :=
  ⟨F.len, fun A outer s H args us vs Q E hg hr => F.run A outer s H args us vs Q E hg (hr.mono h)⟩

theorem fnG_of {name qual : Str} {params : Arguments} {body : List Stmt} {scope : Scope} {dV kV doc pm cdv ct oc : Value} {an od : Option Addr} {osl : Array (Option Value)}
    (lk : K.lookup f = some ⟨oc, od, .func (PySem.W.fnOf name qual params body scope dV kV doc pm an cdv ct), osl⟩)
    (hcd : PySem.W.codeIn K cdv qual = true) (S : FnScope N ps scope) (len : ∀ vs H Q E, sp vs H Q E → vs.length = ps.length)
    (hbody : ∀ (A : Around) (outer : List Env) (s : Shared) (H : Hp) (vs : List V) (Q : VK) (E : XK), A.guards = some [] →
      Room k (A.deeper (envOfC qual scope s.heap.objs.size f cdv)) → sp vs H Q E →
      ∃ t, PSs (cxOf CX P w K mg base N qual scope f cdv A outer s H E) body t ∧
        t { nx := fun _ H' => Q .non H', rt := Q } (start N vs) H) :
    FnG P w K mg base CX (k + 1) f (PySem.W.fnOf name qual params body scope dV kV doc pm an cdv ct) ps sp := by
  refine ⟨len, fun A outer s H args us vs Q E hgd hr e0 hb r hsp => ?_⟩
  have hl := len _ _ _ _ hsp
  have back : ∀ b o, base.get? b = some o → s.heap.get? b = some o := fun b o e => (e0.bs b o e).1
  have KX : K.In s.heap := e0.mod.kin.keeps back
  have lim : s.heap.NoLimit := e0.mod.nolimit.keeps back
  refine codeAny_call_function hr.depth (KX _ _ lk) rfl S.co S.gen rfl (PySem.W.codeRec_of KX hcd) (hb _ _ _ _ ?_)
  refine wpAny_newFunctionEnv_cells S.kind (fun y hy => ?_) fun env he s1 x => ?_
  · obtain ⟨n, v⟩ := y
    rcases S.par n (List.of_mem_zip hy).1 with q | q
    · exact .inl q
    · exact .inr ⟨q, PySem.W.cellsFrom_some _ _ _ (.inl q)⟩
  subst he
  refine ⟨lim.keeps x.toInCall.keep, codeAny_func ?_⟩
  obtain ⟨t, ht, hq⟩ := hbody A outer s H vs Q E hgd (hr.deeper _) hsp
  have I := inv_start (CX := CX) (E := E) (mg := mg) S hr.hd e0 hl r x
  refine wpAny_mono (ht.run [] s1 (start N vs) H _ I hq) (fun fl s' hs => ?_) fun e s' hs => hs
  cases fl with
  | ret u =>
    obtain ⟨v, σ', H', J, rv, q⟩ := hs
    exact ⟨v, H', J.os, J.bare, J.base, J.hok, rv, q⟩
  | next =>
    obtain ⟨σ', H', J, q⟩ := hs
    exact ⟨.non, H', J.os, J.bare, J.base, J.hok, rfl, q⟩
  | brk =>
    obtain ⟨_, _, _, q⟩ := hs
    exact q.elim
  | cont =>
    obtain ⟨_, _, _, q⟩ := hs
    exact q.elim
/-- a def by its body, no error leaving it -/
theorem okG {x qual : Str} {st : Stmt} (F : Fun K x qual st f fd) (S : FnScope N ps (defScope st)) (len : ∀ vs H Q E, sp vs H Q E → vs.length = ps.length)
    (hbody : ∀ (cdv : Value) (A : Around) (outer : List Env) (s : Shared) (H : Hp) (vs : List V) (Q : VK) (E : XK), A.guards = some [] →
      Room k (A.deeper (envOfC qual (defScope st) s.heap.objs.size f cdv)) → sp vs H Q E →
      ∃ t, PSs (cxOf CX0 P w K mg base N qual (defScope st) f cdv A outer s H E).nox (defBody st) t ∧
        t { nx := fun _ H' => Q .non H', rt := Q } (start N vs) H) :
    FnG P w K mg base CX0 (k + 1) f fd ps sp := by
  obtain ⟨oc, od, kV, doc, pm, an, cdv, ct, osl, rfl, lk, hcd⟩ := F.ex
  refine fnG_of lk hcd S len fun A outer s H vs Q E hg hr hsp => ?_
  obtain ⟨t, h, q⟩ := hbody cdv A outer s H vs Q E hg hr hsp
  exact ⟨t, h.nox, q⟩
end

section
variable {X : Cx} {CX : CXT} {k : Nat} {f : Addr} {fd : FuncData} {ps : List Str} {sp : Sp} {dvs : List V} {ds : List Value} {E : XK} {x : Str} {p pos : Pos} {e : Expr} {es : List Expr} {t : TA}
theorem runG {pins : List (Addr × Obj)} {σ : L2.St} {H : Hp} {s : Shared} {Q : VK} {us : List Value} {vs : List V}
    (F : FnG X.prog X.w X.K X.mg X.base CX k f fd ps sp) (hgd : X.A.guards = some []) (hr : Room k X.A) (hb : Binds X.K fd ps ds)
    (hd : Vals dvs ds) (hx : Passes CX X E) (I : Inv X pins σ H s) (r : Vals vs us) (h : sp (vs ++ dvs) H Q E) :
    wpAny (model X.prog X.w) X.A (call (.ref f) us) (EP X pins σ Q) X.xe s := by
  have r2 : Vals (vs ++ dvs) (us ++ ds) := r.append hd
  have hl : (us ++ ds).length = ps.length := by
    rw [← r2.length]
    exact F.len _ _ _ _ h
  have hrun := F.run X.A X.stack s H ⟨us, []⟩ (us ++ ds) (vs ++ dvs) Q E hgd hr I.env0 (hb s us I.kIn hl) r2 h
  refine wpAny_call (codeAny_mono hrun fun r s' hq => ?_)
  cases r with
  | error e => exact hx pins σ H s e s' I hq
  | ok fl =>
    cases fl with
    | ret u => exact I.after hq
    | next => exact hq.elim
    | brk => exact hq.elim
    | cont => exact hq.elim
theorem pe_callG (F : FnG X.prog X.w X.K X.mg X.base CX k f fd ps sp) (hgd : X.A.guards = some []) (hr : Room k X.A) (hg : Gl X x)
    (hm : X.mg x = some (.ref f)) (hk : PySem.W.keepIn X.K (.ref f) = true) (hb : Binds X.K fd ps ds) (hd : Vals dvs ds)
    (hx : Passes CX X E) (ha : PA X (e :: es) t) (hdb : (x == ("__debug__" : Str)) = false := by decide)
    (he : starEach (e :: es) X.env = (false, eval e X.env) :: starEach es X.env := by rfl)
    (hpl : (backTo pos (starEach es X.env)).any (·.1) = false := by rfl) :
    PE X (.Call (.Name x p) (e :: es) [] pos) (tCall sp dvs E t) := by
  refine ⟨fun pins s σ H Q I h => ?_⟩
  refine wpAny_Call_Name_kw (ld_glob I hg hm ?_ hdb)
  refine PySem.W.callWith_K (h₀ := X.base) I.ok.mod.kin hk ?_ he hpl
  exact thn (ha.run pos pins s σ H _ I h) fun us s1 ⟨vs, H1, I1, r, q⟩ =>
    ⟨I1.kIn, runG F hgd hr hb hd hx I1 r q⟩

/-- repr(x), x data of any depth (no dict in it) -/
def rShow (K : PySem.W.Frag) : List V → Hp → VK → Prop := fun xs H Q => ∃ (v : V) (d : PyData), xs = [v] ∧ Dp K H v d ∧
  d.showable = true ∧ d.hasDict = false ∧ d.depth ≤ 20 ∧ d.shown.length ≤ sizeLine ∧ Q (.str d.shown) H
theorem call_show (hgd : X.A.guards = some []) (hr : Room k X.A) : CallR X (.builtin "repr") (rShow X.K) := by
  intro pins s σ H xs us Q I r h
  obtain ⟨v, d, rfl, hv, hs, hdd, hdp, hz, q⟩ := h
  obtain ⟨u, rfl, ru⟩ := vals1 r
  have un := hr.un
  cases hv with
  | non =>
    cases (show u = Value.none from ru)
    exact PySem.P.repr_of_none ⟨.str _, H, I.tok _, ⟨_, rfl⟩, q⟩
  | bl b =>
    cases (show u = Value.bool b from ru)
    exact PySem.P.repr_of_bool ⟨.str _, H, I.tok _, ⟨_, rfl⟩, q⟩
  | int i =>
    obtain ⟨t, rfl⟩ := (show ∃ t, u = Value.int i t from ru)
    exact PySem.P.repr_of_int (of_decide_eq_true hs) ⟨.str _, H, I.tok _, ⟨_, rfl⟩, q⟩
  | str y =>
    obtain ⟨t, rfl⟩ := (show ∃ t, u = Value.str y t from ru)
    exact PySem.P.repr_of_str ⟨.str _, H, I.tok _, ⟨_, rfl⟩, q⟩ hz
  | @lst a vs ds h1 h2 =>
    cases (show u = Value.ref a from ru)
    obtain ⟨as, rd⟩ := Dp.reads I (.list ds) (.ref a) (.ref a) (.lst h1 h2) rfl
    exact repr_of_reads' rd hs (fun z => by rw [hdd] at z; cases z) hgd (by omega) (fun _ _ e => e)
      (fun h' u tk hk => ⟨.str _, H, I.kept hk, ⟨_, rfl⟩, q⟩) hz
  | @tup a vs ds h1 h2 =>
    cases (show u = Value.ref a from ru)
    obtain ⟨as, rd⟩ := Dp.reads I (.tuple ds) (.ref a) (.ref a) (.tup h1 h2) rfl
    exact repr_of_reads' rd hs (fun z => by rw [hdd] at z; cases z) hgd (by omega) (fun _ _ e => e)
      (fun h' u tk hk => ⟨.str _, H, I.kept hk, ⟨_, rfl⟩, q⟩) hz
end
end Gx

set_option Elab.async false
set_option linter.all false
set_option maxRecDepth 100000
set_option maxHeartbeats 4000000
namespace Gx
open PySem PySem.Spec PyProof.Rows L2
/-! the end of a law's row, by a promise of its def where no repr is under way -/
section
variable {P : Program} {w : World} {K : PySem.W.Frag} {mg mb : Str → Option Value} {CX : CXT} {k : Nat} {fa a : Addr} {fd : FuncData} {x : Str} {sp : Sp} {s₁ : Shared} {vs : List Value} {ns : List Int}
/-- what the law's call must come to -/
abbrev LawEnd (s₁ : Shared) : Result → Shared → Prop := fun r s' =>
  r = .ok (.ret (.bool true)) ∧ OldK s₁.heap s'.heap ∧ s'.os = s₁.os ∧ AllBare s'.gens
theorem lawAt {H : Hp} (KX : K.In s₁.heap) (hns : s₁.heap.Ns mainGlobals mg) (hb : s₁.heap.Ns builtinsNs mb)
    (hbb : ∀ x : Str, x ≠ "__name__" → mb x = bootBuiltins x) (hlim : s₁.heap.NoLimit) (hg : s₁.gens = #[])
    (ha : s₁.heap.get? a = some { cls := .type "list", data := .seq vs.toArray }) (hr : Room k callerA)
    (F : ∀ base : Heap, K.In base → base.Ns mainGlobals mg → FnG P w K mg base CX k fa fd [x] sp)
    (hbind : ∀ (s : Shared) (u : Value), BindsTo s fd ⟨[u], []⟩ [(x, u)])
    (hsp : sp [.ref a] H (fun v _ => v = .bl true) fun _ _ _ => False)
    (hCX : ∀ H e s', CX [] H s₁ (fun _ _ _ => False) e s' → False)
    (hO : Only H) (hok : HOk P w H s₁.heap) (hA : ∀ b, H b ≠ none → b = a) (hK : H a ≠ none → K.lookup a = none) :
    codeAny (model P w) callerA (.call (.ref fa) ⟨[.ref a], []⟩) (LawEnd s₁) s₁ := by
  have eqa : ∀ {b : Addr} {u : HO}, H b = some u → b = a := fun {b u} q => hA b (by rw [q]; simp)
  have dictFree : ∀ {b : Addr} {o : Obj} {es : Array DictEntry} {ep : Nat}, s₁.heap.get? b = some o →
      o.data = .dict es ep → H b = none := fun {b o es ep} e d => by
    cases q : H b with
    | none => rfl
    | some u =>
      cases eqa q
      rw [ha] at e
      cases e
      have d' : Data.seq vs.toArray _ = Data.dict es ep := d
      cases d'
  have nsK : ∀ {b : Addr} {m : Str → Option Value}, s₁.heap.Ns b m → (hidT s₁.heap H).Ns b m :=
    fun {b m} ⟨o, es, ep, e, d, r⟩ => ⟨o, es, ep, hidT_get e (dictFree e d), d, r⟩
  have kFree : ∀ {b : Addr} {o : Obj}, K.lookup b = some o → H b = none := fun {b o} e => by
    cases q : H b with
    | none => rfl
    | some u =>
      cases eqa q
      rw [hK (by rw [q]; simp)] at e
      cases e
  have hKb : K.In (hidT s₁.heap H) := fun b o e => hidT_get (KX b o e) (kFree e)
  obtain ⟨mc, l1, l2⟩ := hlim
  have hM : Mod K mg (hidT s₁.heap H) := ⟨hKb, nsK hns, ⟨mb, nsK hb, hbb⟩, ⟨mc, nsK l1, l2⟩⟩
  have nofr : ∀ b ∈ frs [], H b = none := fun b z => absurd (show b ∈ ([] : List Addr) from z) (by simp)
  have e0 : Env0 P w K mg (hidT s₁.heap H) callerA [] s₁ H :=
    ⟨rfl, hM, fun b o e => of_hidT e, Nat.le_of_eq (hidT_size _ _), trivial, nofr, hok, .of_eq hg⟩
  have hrun := (F _ hKb (nsK hns)).run callerA [] s₁ H ⟨[.ref a], []⟩ [.ref a] [.ref a] _ _ rfl hr e0
    (hbind s₁ (.ref a)) (.cons rfl .nil) hsp
  refine codeAny_mono hrun fun r s' h => ?_
  cases r with
  | error e => exact (hCX H e s' h).elim
  | ok fl =>
    cases fl with
    | next => exact h.elim
    | brk => exact h.elim
    | cont => exact h.elim
    | ret u =>
      obtain ⟨v, H', os, bare, un, hok', r', q⟩ := h
      cases (show v = .bl true from q)
      cases (show u = Value.bool true from r')
      refine ⟨rfl, OldK.of_keep fun b o e => ?_, os, bare⟩
      cases q : H b with
      | none =>
        refine un.keep b o e q (fun z => ?_) (by simp)
        exact absurd (show b ∈ ([] : List Addr) from z) (by simp)
      | some u =>
        rcases hO b with z | ⟨ob, xs, z⟩
        · rw [q] at z
          cases z
        · obtain ⟨e1, _⟩ := hok b _ z
          obtain ⟨e2, _⟩ := hok' b _ (un.frzs b ob _ z)
          rw [e] at e1
          cases e1
          exact e2
theorem lawG (KX : K.In s₁.heap) (hns : s₁.heap.Ns mainGlobals mg) (hb : s₁.heap.Ns builtinsNs mb)
    (hbb : ∀ x : Str, x ≠ "__name__" → mb x = bootBuiltins x) (hlim : s₁.heap.NoLimit) (hg : s₁.gens = #[])
    (ha : s₁.heap.get? a = some { cls := .type "list", data := .seq vs.toArray }) (hi : IntsAre vs ns) (hl : ns.length ≤ sizeLine) (hr : Room k callerA)
    (F : ∀ base : Heap, K.In base → base.Ns mainGlobals mg → FnG P w K mg base CX k fa fd [x] sp)
    (hbind : ∀ (s : Shared) (u : Value), BindsTo s fd ⟨[u], []⟩ [(x, u)])
    (hsp : ∀ H : Hp, Only H → SqL K H a (ns.map V.int) → sp [.ref a] H (fun v _ => v = .bl true) fun _ _ _ => False)
    (hCX : ∀ H e s', CX [] H s₁ (fun _ _ _ => False) e s' → False) :
    codeAny (model P w) callerA (.call (.ref fa) ⟨[.ref a], []⟩) (LawEnd s₁) s₁ := by
  have rv := vals_ints hi
  have lenV := hi.length
  cases hk : K.lookup a with
  | some o =>
    have e := KX a o hk
    rw [ha] at e
    cases e
    refine lawAt (H := fun _ => none) KX hns hb hbb hlim hg ha hr F hbind (hsp _ (fun _ => .inl rfl) (.inr ⟨_, vs.toArray, _, hk, rfl, rfl, rfl, ?_, ?_⟩)) hCX
      (fun _ => .inl rfl) (fun b u z => ?_) (fun b z => absurd rfl z) fun z => absurd rfl z
    · rw [List.size_toArray, lenV]
      exact hl
    · simpa using rv
    · have z' : (none : Option HO) = some u := z
      cases z'
  | none =>
    let ob : Obj := { cls := .type "list", data := .seq vs.toArray }
    let H : Hp := fun b => if b = a then some (.frz ob (.lst (ns.map V.int))) else none
    have hO : Only H := fun b => by
      by_cases hb : b = a
      · exact .inr ⟨_, _, if_pos hb⟩
      · exact .inl (if_neg hb)
    refine lawAt (H := H) KX hns hb hbb hlim hg ha hr F hbind (hsp H hO (.inl (.inr ⟨ob, if_pos rfl⟩))) hCX hO (fun b u z => ?_) (fun b z => ?_) fun _ => hk
    · by_cases hb : b = a
      · have z' := (if_pos hb).symm.trans z
        cases z'
        subst hb
        refine ⟨ha, ?_, vs, _, rv, ha⟩
        rw [List.length_map]
        exact hl
      · have z' := (if_neg hb).symm.trans z
        cases z'
    · by_cases hb : b = a
      · exact hb
      · exact absurd (if_neg hb) z
end
/-- the goal that k_head leaves, from the law's promise -/
theorem walkG {l : PySem.W.OpenLaw} {n k : Nat} {q : Program} {loose : List Str} {XP : (Str → Option Value) → Heap → Prop} {YP : World → Heap → Prop} {d : DefRec} {K : Params → PySem.W.Frag} {sp : World → Sp} {x : Str}
    (hn : l.most = some n) (hn2 : n ≤ sizeLine) (hdf : d.params.defaults = []) (hr : Room k callerA)
    (hY : ∀ (w : World) (h : Heap), YP w h → (K w.params).In h)
    (F : ∀ (w : World) (mg : Str → Option Value) (fa : Addr) (h : Heap), (K w.params).In h → h.Ns mainGlobals mg → mg d.name = some (.ref fa) →
      ∃ fd : FuncData, (∀ (s : Shared) (u : Value), BindsTo s fd ⟨[u], []⟩ [(x, u)]) ∧
        ∀ base : Heap, (K w.params).In base → base.Ns mainGlobals mg → FnG l.prog w (K w.params) mg base CX0 k fa fd [x] (sp w))
    (hsp : ∀ (w : World) (H : Hp) (a : Addr) (ns : List Int), ns.length ≤ n → Only H → SqL (K w.params) H a (ns.map V.int) →
      sp w [.ref a] H (fun v _ => v = .bl true) fun _ _ _ => False) :
    PySem.W.WalkO q loose XP YP l.row.toRowW d [] (fun f vs => PySem.call f vs) := by
  refine Att.attach_call hn hdf fun w s₀ s₁ mg mb fa o pm cd doc a vs ns G Y ho hd hcd hmg hobj hints hlen hg => ?_
  have KX := hY w _ Y
  obtain ⟨fd, hb, hF⟩ := F w mg fa _ KX G.T.g hmg
  exact lawG KX G.T.g G.T.b G.T.builtins G.T.nolimit hg hobj hints (Nat.le_trans hlen hn2) hr hF hb
    (fun H hO hS => hsp w H a ns hlen hO hS) fun H e s' z => z
end Gx

set_option Elab.async false
set_option linter.all false
set_option maxRecDepth 100000
set_option maxHeartbeats 4000000
namespace Gx
open PySem PySem.Spec L2
open Builtin Builtin.ObjectAttr
/-! the facts of an own error class, read off the written part by one look -/
def dropR : List Value → List Value
  | .ref _ :: r => dropR r
  | l => l
theorem dropR_cases : ∀ l : List Value, (∃ c r, l = .ref c :: r) ∨ dropR l = l
  | [] => .inr rfl
  | .ref c :: r => .inl ⟨c, r, rfl⟩
  | .none :: _ => .inr rfl
  | .ellipsis :: _ => .inr rfl
  | .notImplemented :: _ => .inr rfl
  | .bool _ :: _ => .inr rfl
  | .int _ _ :: _ => .inr rfl
  | .float _ _ :: _ => .inr rfl
  | .str _ _ :: _ => .inr rfl
  | .bytes _ _ :: _ => .inr rfl
  | .type _ :: _ => .inr rfl
  | .builtin _ :: _ => .inr rfl
theorem dropR_pass (self : Value) (n : Str) : ∀ l : List Value, refuseLoop self n l = refuseLoop self n (dropR l) := by
  intro l
  induction l with
  | nil => rfl
  | cons a r ih =>
    rcases dropR_cases (a :: r) with ⟨c, r', q⟩ | q
    · obtain ⟨rfl, rfl⟩ := List.cons.inj q
      rw [refuseLoop_ref]
      exact ih
    · rw [q]
theorem dropR_has (X : String) : ∀ l : List Value, l.contains (.type X) = (dropR l).contains (.type X) := by
  intro l
  induction l with
  | nil => rfl
  | cons a r ih =>
    rcases dropR_cases (a :: r) with ⟨c, r', q⟩ | q
    · obtain ⟨rfl, rfl⟩ := List.cons.inj q
      rw [List.contains_cons, ih]
      rfl
    · rw [q]
abbrev tVE : List Value := [.type "ValueError", .type "Exception", .type "BaseException", .type "object"]
abbrev tKE : List Value := [.type "KeyError", .type "LookupError", .type "Exception", .type "BaseException", .type "object"]
abbrev tIE : List Value := [.type "IndexError", .type "LookupError", .type "Exception", .type "BaseException", .type "object"]
abbrev tOE : List Value := [.type "OverflowError", .type "ArithmeticError", .type "Exception", .type "BaseException", .type "object"]
abbrev tRE : List Value := [.type "RuntimeError", .type "Exception", .type "BaseException", .type "object"]
theorem pass_VE (self : Value) : refuseLoop self "__setattr__" tVE = pure () := by kernel_rfl
theorem pass_KE (self : Value) : refuseLoop self "__setattr__" tKE = pure () := by kernel_rfl
theorem pass_IE (self : Value) : refuseLoop self "__setattr__" tIE = pure () := by kernel_rfl
theorem pass_OE (self : Value) : refuseLoop self "__setattr__" tOE = pure () := by kernel_rfl
theorem pass_RE (self : Value) : refuseLoop self "__setattr__" tRE = pure () := by kernel_rfl
def oxIn (K : PySem.W.Frag) (C : Addr) (tail : List Value) (newId : String) : Bool := match K.lookup C with
  | some ⟨.type "type", _, .cls cd, sl⟩ => (match cd.mro, sl.toList with
    | .ref C' :: bm, [_, _, _, _, some (.builtin n), _] => C' == C && (n == newId && (!cd.hasDel && (cd.hasDict && dropR bm == tail)))
    | _, _ => false)
  | _ => false
theorem ox_of {K : PySem.W.Frag} {C : Addr} {tail bmB : List Value} {B newId initId : String} (F : ExcBaseFacts B newId initId bmB)
    (U : Under B tail) (hp : ∀ self, refuseLoop self "__setattr__" tail = pure ()) (ho : tail.contains (.type "object") = true)
    (q : oxIn K C tail newId = true)
    (sa : PySem.W.findIn K (.ref C) "__setattr__" = some (some (.builtin "object.__setattr__")))
    (kC : PySem.W.keepIn K (.ref C) = true) : OxG K C B newId initId bmB := by
  refine ⟨F, ?_, sa, kC⟩
  unfold oxIn at q
  split at q
  · rename_i dd cd sl hl
    split at q
    · rename_i C' bm k0 k1 k2 k3 n k5 hm hs
      simp only [Bool.and_eq_true, beq_iff_eq, Bool.not_eq_true'] at q
      obtain ⟨rfl, rfl, hdel, hd, ht⟩ := q
      obtain ⟨nm, bs, mro, ns, qn, hdc, sn, sub, ab, col, del⟩ := cd
      dsimp only at hm hdel hd
      subst hm hdel hd
      have e : sl = #[k0, k1, k2, k3, some (.builtin n), k5] := by
        obtain ⟨l⟩ := sl
        simp only at hs
        rw [hs]
      subst e
      refine ⟨nm, qn, ns, bs, bm, sn, sub, ab, col, dd, k0, k1, k2, k3, k5, hl, ⟨?_, ?_, ?_⟩, fun self => ?_, ?_⟩
      · rw [dropR_has, ht]
        exact U.has
      · rw [dropR_has, ht]
        exact U.noA
      · rw [dropR_has, ht]
        exact U.noN
      · rw [dropR_pass, ht]
        exact hp self
      · rw [dropR_has, ht]
        exact ho
    · cases q
  · cases q
theorem u_VE : Under "ValueError" tVE := ⟨by decide +kernel, by decide +kernel, by decide +kernel⟩
theorem u_KE : Under "LookupError" tKE := ⟨by decide +kernel, by decide +kernel, by decide +kernel⟩
theorem u_IE : Under "IndexError" tIE := ⟨by decide +kernel, by decide +kernel, by decide +kernel⟩
theorem u_OE : Under "OverflowError" tOE := ⟨by decide +kernel, by decide +kernel, by decide +kernel⟩
theorem u_RE : Under "RuntimeError" tRE := ⟨by decide +kernel, by decide +kernel, by decide +kernel⟩
/-- what isinstance and a field's reading ask of the class, by one look -/
def exB (K : PySem.W.Frag) (D : Addr) : Bool :=
  decide (PySem.W.findIn K (.ref D) "__getattribute__" = some (some (.builtin "BaseException.__getattribute__"))) &&
  (decide (PySem.W.findIn K (.ref D) "__getattr__" = some none) &&
  (decide (PySem.W.subIn K (.ref D) (.type "BaseException") = some true) &&
  (PySem.W.hasDictIn K D &&
  (decide (PySem.W.findIn K (.ref D) "__class__" = some (some (.builtin "object.__class__"))) &&
  (decide (PySem.W.specialIn K (.builtin "object.__class__") "__get__" = some (some (.builtin "getset_descriptor.__get__"))) &&
  (decide (PySem.W.takesIn K (.builtin "object.__class__") = some true) &&
  decide (PySem.W.mroIn K D (.type "object") = some true)))))))
theorem exB_ok {K : PySem.W.Frag} {D : Addr} (h : exB K D = true) : ExcC K D ∧ XfC K D := by
  unfold exB at h
  simp only [Bool.and_eq_true, decide_eq_true_eq] at h
  obtain ⟨h1, h2, h3, h4, h5, h6, h7, h8⟩ := h
  exact ⟨⟨h1, h2, h3, h4, h5, h6, h7, h8⟩, ⟨h1, h2, h3, h4⟩⟩
end Gx

set_option Elab.async false
set_option linter.all false
set_option maxRecDepth 100000
set_option maxHeartbeats 4000000
namespace K1
open PySem L2 Gx
def topS (i : Nat) : Stmt := PySem.Challenge.pw_groundsay_k01_refusals_and_kinds.main.body.getD i (.Pass ⟨0, 0, 0, 0⟩)
abbrev sPot : Stmt := topS 23
abbrev sTake : Stmt := topS 24

/-- the pot of draws: three numbers, the last one counts -/
def PotAt (H : Hp) (p : Addr) (n : Nat) : Prop := ∃ c m t : Int, H p = some (.lst [.int c, .int m, .int t]) ∧
  0 ≤ c ∧ 0 ≤ m ∧ m < 2147483629 ∧ 0 ≤ t ∧ t ≤ (n : Int)
theorem PotAt.mono {H : Hp} {p : Addr} {n m : Nat} (h : PotAt H p n) (l : n ≤ m) : PotAt H p m := by
  obtain ⟨a, b, c, e, h1, h2, h3, h4, h5⟩ := h
  exact ⟨a, b, c, e, h1, h2, h3, h4, by omega⟩
def spPot (K : PySem.W.Frag) : Sp := fun vs H Q _ => ∃ (a : Addr) (ns : List Int) (k : Nat), vs = [.ref a, .int k] ∧
  SqL K H a (ns.map V.int) ∧ ns.length ≤ 1000 ∧ k ≤ 1000 ∧
  ∀ p H', H p = none → Same H H' → PotAt H' p 0 → Q (.ref p) H'
def spTake : Sp := fun vs H Q _ => ∃ (p : Addr) (n : Nat) (many : Int), vs = [.ref p, .int many] ∧ PotAt H p n ∧ n ≤ 10000000 ∧
  0 < many ∧ many < 100000 ∧
  ∀ (r : Int) (H' : Hp), 0 ≤ r → r < many → PotAt H' p (n + 1) → (∀ b o, H b = some o → b ≠ p → H' b = some o) →
    (∀ b, H b = none → H' b = none) → Q (.int r) H'
/-- what the built-in names hold -/
structure Txt (mg : Str → Option Value) : Prop where
  len : mg "len" = none
  abs : mg "abs" = none
  int : mg "int" = none
section
variable {P : Program} {w : World} {K : PySem.W.Frag} {mg : Str → Option Value} {base : Heap}
theorem scPot : FnScope ["_law_script", "_law_k", "_law_cell"] ["_law_script", "_law_k"] (defScope sPot) :=
  ⟨rfl, rfl, rfl, by decide +kernel, rfl, by decide +kernel, by decide +kernel⟩
theorem ok_pot {f : Addr} {fd : FuncData} (F : Fun K "_law_pot" "_law_pot" sPot f fd) (T : Txt mg) :
    FnOk P w K mg base CX0 1 f fd ["_law_script", "_law_k"] (spPot K) := by
  refine F.ok scPot (fun vs H Q E h => ?_) (fun cdv A outer s H vs Q E hr h => ?_)
  · obtain ⟨a, ns, k, rfl, _⟩ := h
    rfl
  · obtain ⟨a, ns, k, rfl, hS, hl, hk, q⟩ := h
    refine ⟨_, pss_cons (ps_set (i := 2) scPot.nd rfl (Or.inl rfl) pe_int)
      (pss_cons (ps_if (pt_cmpR op_lt (pv 1) (pe_callB call_len_seq (by rfl) T.len PySem.boot_len (pa_cons (pv 0) pa_nil)) (nomark _))
        (pss_one (ps_set (i := 2) scPot.nd rfl (Or.inl rfl)
          (pe_callB call_abs (by rfl) T.abs (by decide +kernel) (pa_cons (pe_ix ix_list (pv 0) (pv 1) (fun _ _ => rfl)) pa_nil)))) pss_nil)
      (pss_one (ps_ret (pe_lst (pa_cons (pe_op op_mul (pv 2) (pe_callTy call_int1 (by rfl) T.int (by decide +kernel)
            (pa_cons (pe_cmpR op_ge (pv 2) (pe_op op_pow pe_int pe_int) (nomark _)) pa_nil)))
        (pa_cons (pe_op op_mod (pe_op op_pow (pe_op op_add (pe_op op_add (pe_op op_mod (pv 2) pe_int) (pe_op op_mul pe_int (pv 1))) pe_int) pe_int) pe_int)
        (pa_cons pe_int pa_nil))))))), ?_⟩
    have rest : ∀ c : Int, 0 ≤ c → ∀ p, H p = none → Q (.ref p) (upd H p (.lst [.int (c * if decide (10 ^ 18 ≤ c) = true then 1 else 0),
        .int ((c % 1000000007 + 104729 * (k : Int) + 17) ^ 3 % 2147483629), .int 0])) := fun c hc p np => by
      refine q p _ np (fun b o e => ?_) ⟨_, _, _, upd_same, ?_, Int.emod_nonneg _ (by decide), Int.emod_lt_of_pos _ (by decide), Int.le_refl _, Int.le_refl _⟩
      · rw [upd_ne (ne_of_none e np)]
        exact e
      · split <;> omega
    have h10 : (0 : Int) ≤ 18 ∧ (18 : Int) ≤ 1000000 ∧ (10 : Int).natAbs < 2 ^ 64 := by decide
    have one : ∀ b : Bool, -(2 ^ 64) < (if b = true then (1 : Int) else 0) ∧ (if b = true then (1 : Int) else 0) < 2 ^ 64 := by decide
    have third : ∀ c : Int, (0 : Int) ≤ 3 ∧ (3 : Int) ≤ 1000000 ∧ (c % 1000000007 + 104729 * (k : Int) + 17).natAbs < 2 ^ 64 := fun c => by
      have h1 := Int.emod_nonneg c (show (1000000007 : Int) ≠ 0 by decide)
      have h2 := Int.emod_lt_of_pos c (show (0 : Int) < 1000000007 by decide)
      omega
    refine ⟨_, rfl, _, rfl, a, _, rfl, .inl hS, _, _, rfl, rfl, _, rfl, ?_⟩
    refine ite2 (fun hlt => ?_) (fun hlt => ?_)
    · have hlt' := of_decide_eq_true hlt
      rw [List.length_map] at hlt'
      have hkn : k < ns.length := by omega
      refine ⟨_, rfl, _, rfl, a, _, _, _, rfl, rfl, hS, atI_nat (by rw [List.getElem?_map, List.getElem?_eq_getElem hkn]; rfl), _, rfl, ?_⟩
      refine ⟨_, rfl, _, rfl, _, _, rfl, rfl, h10, _, _, rfl, rfl, .inr ⟨_, rfl, _, _, rfl, rfl, .inr (one _), ?_⟩⟩
      refine ⟨_, rfl, _, _, rfl, rfl, (by show (0 : Int) < 1000000007; decide), _, rfl, _, _, rfl, rfl, .inl (by decide), _, _, rfl, rfl, _, _, rfl, rfl, _, _, rfl, rfl, third _, _, _, rfl, rfl, (by show (0 : Int) < 2147483629; decide), ?_⟩
      exact ⟨by show 3 ≤ sizeLine; decide, fun p np => rest _ (by split <;> omega) p np⟩
    · refine ⟨_, rfl, _, rfl, _, _, rfl, rfl, h10, _, _, rfl, rfl, .inr ⟨_, rfl, _, _, rfl, rfl, .inr (one _), ?_⟩⟩
      refine ⟨_, rfl, _, _, rfl, rfl, (by show (0 : Int) < 1000000007; decide), _, rfl, _, _, rfl, rfl, .inl (by decide), _, _, rfl, rfl, _, _, rfl, rfl, _, _, rfl, rfl, third _, _, _, rfl, rfl, (by show (0 : Int) < 2147483629; decide), ?_⟩
      exact ⟨by show 3 ≤ sizeLine; decide, fun p np => rest _ (Int.le_refl _) p np⟩
theorem scTake : FnScope ["_law_pot_here", "_law_many", "_law_digit", "_law_one", "_law_two"] ["_law_pot_here", "_law_many"] (defScope sTake) :=
  ⟨rfl, rfl, rfl, by decide +kernel, rfl, by decide +kernel, by decide +kernel⟩
theorem ok_take {f : Addr} {fd : FuncData} (F : Fun K "_law_take" "_law_take" sTake f fd) :
    FnOk P w K mg base CX0 1 f fd ["_law_pot_here", "_law_many"] spTake := by
  refine F.ok scTake (fun vs H Q E h => ?_) (fun cdv A outer s H vs Q E hr h => ?_)
  · obtain ⟨p, n, many, rfl, _⟩ := h
    rfl
  · obtain ⟨p, n, many, rfl, ⟨c, m, t, hp, hc, hm, hm2, ht, htn⟩, hn, h0, hM, q⟩ := h
    refine ⟨_, pss_cons (ps_if (pt_cmpR op_gt (pe_ix ix_list (pv 0) pe_int (fun _ _ => rfl)) pe_int (nomark _))
        (pss_cons (ps_set (i := 2) scTake.nd rfl (Or.inl rfl) (pe_op op_mod (pe_ix ix_list (pv 0) pe_int (fun _ _ => rfl)) (pv 1)))
        (pss_cons (ps_asg (pe_op op_fdiv (pe_ix ix_list (pv 0) pe_int (fun _ _ => rfl)) (pv 1)) (pg_sub (pv 0) pe_int set_list))
        (pss_one (ps_ret (pv 2))))) pss_nil)
      (pss_cons (ps_asg (pe_op op_add (pe_ix ix_list (pv 0) pe_int (fun _ _ => rfl)) pe_int) (pg_sub (pv 0) pe_int set_list))
      (pss_cons (ps_set (i := 3) scTake.nd rfl (Or.inl rfl) (pe_op op_mod (pe_op op_pow (pe_op op_add (pe_ix ix_list (pv 0) pe_int (fun _ _ => rfl))
        (pe_op op_mul pe_int (pe_ix ix_list (pv 0) pe_int (fun _ _ => rfl)))) pe_int) pe_int))
      (pss_cons (ps_set (i := 4) scTake.nd rfl (Or.inl rfl) (pe_op op_mod (pe_op op_pow (pe_op op_add (pe_op op_add (pv 3)
        (pe_op op_mul (pe_op op_mul pe_int (pe_ix ix_list (pv 0) pe_int (fun _ _ => rfl))) (pe_ix ix_list (pv 0) pe_int (fun _ _ => rfl))))
        (pe_op op_mod (pe_ix ix_list (pv 0) pe_int (fun _ _ => rfl)) pe_int)) pe_int) pe_int))
      (pss_one (ps_ret (pe_op op_mod (pe_op op_fdiv (pv 4) pe_int) (pv 1))))))), ?_⟩
    have keep : ∀ (xs : List V), (∀ b o, H b = some o → b ≠ p → (upd H p (.lst xs)) b = some o) ∧ (∀ b, H b = none → (upd H p (.lst xs)) b = none) := fun xs => by
      refine ⟨fun b o e hb => ?_, fun b e => ?_⟩
      · rw [upd_ne hb]
        exact e
      · rw [upd_ne (fun z => by rw [z, hp] at e; cases e)]
        exact e
    have hs := SqL.of (K := K) hp
    refine ⟨_, rfl, p, _, _, _, rfl, rfl, hs, atI_nat (j := 0) rfl, _, _, rfl, rfl, _, rfl, ?_⟩
    refine ite2 (fun hlt => ?_) (fun hlt => ?_)
    · refine ⟨_, rfl, p, _, _, _, rfl, rfl, hs, atI_nat (j := 0) rfl, _, rfl, _, _, rfl, rfl, h0, ?_⟩
      refine ⟨_, rfl, p, _, _, _, rfl, rfl, hs, atI_nat (j := 0) rfl, _, rfl, _, _, rfl, rfl, ⟨h0, (by omega)⟩, ?_⟩
      refine ⟨_, rfl, p, _, _, 0, rfl, rfl, hp, rfl, ?_⟩
      refine ⟨_, rfl, q _ _ (Int.emod_nonneg _ (by omega)) (Int.emod_lt_of_pos _ h0) ⟨c / many, m, t, upd_same, Int.ediv_nonneg hc (by omega), hm, hm2, ht, by omega⟩ (keep _).1 (keep _).2⟩
    · refine ⟨_, rfl, p, _, _, _, rfl, rfl, hs, atI_nat (j := 2) rfl, _, _, rfl, rfl, ?_⟩
      refine ⟨_, rfl, p, _, _, 2, rfl, rfl, hp, rfl, ?_⟩
      have hs2 := SqL.of (K := K) (H := upd H p (.lst [.int c, .int m, .int (t + 1)])) upd_same
      have e2 : (atI [V.int c, .int m, .int (t + 1)] 2) = some (.int (t + 1)) := atI_nat (j := 2) rfl
      have e1 : (atI [V.int c, .int m, .int (t + 1)] 1) = some (.int m) := atI_nat (j := 1) rfl
      have b1 := Int.emod_nonneg ((m + 7919 * (t + 1)) ^ 3) (show (2147483587 : Int) ≠ 0 by decide)
      have b2 := Int.emod_lt_of_pos ((m + 7919 * (t + 1)) ^ 3) (show (0 : Int) < 2147483587 by decide)
      have b3 := Int.emod_nonneg m (show (65521 : Int) ≠ 0 by decide)
      have b4 := Int.emod_lt_of_pos m (show (0 : Int) < 65521 by decide)
      have b5 : 31 * (t + 1) * (t + 1) ≤ 31 * 10000001 * 10000001 := by
        have z1 : 31 * (t + 1) ≤ 31 * 10000001 := by omega
        exact Int.mul_le_mul z1 (by omega) (by omega) (by decide)
      have b6 : 0 ≤ 31 * (t + 1) * (t + 1) := Int.mul_nonneg (by omega) (by omega)
      have c1 : (0 : Int) ≤ 3 ∧ (3 : Int) ≤ 1000000 ∧ (m + 7919 * (t + 1)).natAbs < 2 ^ 64 := by omega
      have c2 : (0 : Int) ≤ 5 ∧ (5 : Int) ≤ 1000000 ∧ ((m + 7919 * (t + 1)) ^ 3 % 2147483587 + 31 * (t + 1) * (t + 1) + m % 65521).natAbs < 2 ^ 64 := by
        refine ⟨by decide, by decide, ?_⟩
        generalize (m + 7919 * (t + 1)) ^ 3 % 2147483587 = x at b1 b2 ⊢
        generalize 31 * (t + 1) * (t + 1) = y at b5 b6 ⊢
        omega
      refine ⟨_, rfl, p, _, _, _, rfl, rfl, hs2, e1, _, rfl, p, _, _, _, rfl, rfl, hs2, e2, _, _, rfl, rfl, .inl (by decide), _, _, rfl, rfl, _, _, rfl, rfl, c1, _, _, rfl, rfl, (by show (0 : Int) < 2147483587; decide), ?_⟩
      refine ⟨_, rfl, _, rfl, p, _, _, _, rfl, rfl, hs2, e2, _, _, rfl, rfl, .inl (by decide), _, rfl, p, _, _, _, rfl, rfl, hs2, e2, _, _, rfl, rfl, .inl ⟨by omega, by omega⟩, _, _, rfl, rfl,
        _, rfl, p, _, _, _, rfl, rfl, hs2, e1, _, _, rfl, rfl, (by show (0 : Int) < 65521; decide), _, _, rfl, rfl, _, _, rfl, rfl, c2, _, _, rfl, rfl, (by show (0 : Int) < 2147483563; decide), ?_⟩
      refine ⟨_, rfl, _, _, rfl, rfl, ⟨by decide, by decide⟩, _, rfl, _, _, rfl, rfl, h0, ?_⟩
      exact q _ _ (Int.emod_nonneg _ (by omega)) (Int.emod_lt_of_pos _ h0) ⟨c, m, t + 1, upd_same, hc, hm, hm2, by omega, by omega⟩ (keep _).1 (keep _).2
end
end K1

set_option Elab.async false
set_option linter.all false
set_option maxRecDepth 100000
set_option maxHeartbeats 4000000
namespace K1
open PySem L2 Gx
abbrev sThing : Stmt := topS 25
mutual
def noL : PyData → Bool
  | .list _ => false
  | .dict _ => false
  | .tuple xs => noLs xs
  | .none => true
  | .bool _ => true
  | .int _ => true
  | .str _ => true
def noLs : List PyData → Bool
  | [] => true
  | x :: xs => noL x && noLs xs
end
theorem noL_t {xs : List PyData} : noL (.tuple xs) = noLs xs := by rw [noL]
theorem noL_l {xs : List PyData} : noL (.list xs) = false := by rw [noL]
theorem noLs_c {x : PyData} {xs : List PyData} (h : noLs (x :: xs) = true) : noL x = true ∧ noLs xs = true := by
  rw [noLs] at h
  exact Bool.and_eq_true_iff.mp h
def smallB (d : PyData) : Bool := noL d && (d.showable && (!d.hasDict && (decide (d.depth ≤ 20) && decide (d.shown.length ≤ 1000))))
theorem small_noL {d : PyData} (h : smallB d = true) : noL d = true := (Bool.and_eq_true_iff.mp h).1
theorem small_of {d : PyData} (h : smallB d = true) : d.showable = true ∧ d.hasDict = false ∧ d.depth ≤ 20 ∧ d.shown.length ≤ sizeLine := by
  unfold smallB at h
  simp only [Bool.and_eq_true, decide_eq_true_eq, Bool.not_eq_true'] at h
  exact ⟨h.2.1, h.2.2.1, h.2.2.2.1, Nat.le_trans h.2.2.2.2 (by decide)⟩
/-- all tuples stay -/
def Tups (H H' : Hp) : Prop := (∀ b xs, H b = some (.tup xs) → H' b = some (.tup xs)) ∧ ∀ b o u, H b = some (.frz o u) → H' b = some (.frz o u)
mutual
theorem Dp.tups {K : PySem.W.Frag} {H H' : Hp} (s : Tups H H') : ∀ {d : PyData} {v : V}, Dp K H v d → noL d = true → Dp K H' v d
  | _, _, .non, _ => .non
  | _, _, .bl b, _ => .bl b
  | _, _, .int i, _ => .int i
  | _, _, .str x, _ => .str x
  | _, _, .lst h a, n => absurd n (by rw [noL_l]; decide)
  | _, _, .tup h a, n => .tup (by
      rcases h with (h | ⟨o, h⟩) | h
      · exact .inl (.inl (s.1 _ _ h))
      · exact .inl (.inr ⟨o, s.2 _ _ _ h⟩)
      · exact .inr h) (DpAll.tups s a (noL_t.symm.trans n))
theorem DpAll.tups {K : PySem.W.Frag} {H H' : Hp} (s : Tups H H') : ∀ {ds : List PyData} {vs : List V}, DpAll K H vs ds → noLs ds = true → DpAll K H' vs ds
  | _, _, .nil, _ => .nil
  | _, _, .cons h a, n => .cons (Dp.tups s h (noLs_c n).1) (DpAll.tups s a (noLs_c n).2)
end
mutual
theorem Dp.same {K : PySem.W.Frag} {H H' : Hp} (s : Same H H') : ∀ {d : PyData} {v : V}, Dp K H v d → Dp K H' v d
  | _, _, .non => .non
  | _, _, .bl b => .bl b
  | _, _, .int i => .int i
  | _, _, .str x => .str x
  | _, _, .lst h a => .lst (s.seq h) (DpAll.same s a)
  | _, _, .tup h a => .tup (by
      rcases h with (h | ⟨o, h⟩) | h
      · exact .inl (.inl (s _ _ h))
      · exact .inl (.inr ⟨o, s _ _ h⟩)
      · exact .inr h) (DpAll.same s a)
theorem DpAll.same {K : PySem.W.Frag} {H H' : Hp} (s : Same H H') : ∀ {ds : List PyData} {vs : List V}, DpAll K H vs ds → DpAll K H' vs ds
  | _, _, .nil => .nil
  | _, _, .cons h a => .cons (Dp.same s h) (DpAll.same s a)
end
theorem DpAll.get {K : PySem.W.Frag} {H : Hp} : ∀ {vs : List V} {ds : List PyData} {j : Nat}, DpAll K H vs ds → j < vs.length →
    ∃ v d, vs[j]? = some v ∧ d ∈ ds ∧ Dp K H v d
  | _, _, 0, .cons h _, _ => ⟨_, _, rfl, List.mem_cons_self, h⟩
  | _, _, j + 1, .cons _ a, l => by
    obtain ⟨v, d, e, m, h⟩ := DpAll.get a (Nat.lt_of_succ_lt_succ l)
    exact ⟨v, d, e, List.mem_cons_of_mem _ m, h⟩
theorem same_upd {H : Hp} {p : Addr} {o : HO} (n : H p = none) : Same H (upd H p o) := fun b u e => by
  rw [upd_ne (ne_of_none e n)]
  exact e
theorem DpAll.snoc {K : PySem.W.Frag} {H : Hp} {v : V} {d : PyData} (h : Dp K H v d) : ∀ {vs : List V} {ds : List PyData}, DpAll K H vs ds → DpAll K H (vs ++ [v]) (ds ++ [d])
  | _, _, .nil => .cons h .nil
  | _, _, .cons a r => .cons a (DpAll.snoc h r)
theorem addTup {K : PySem.W.Frag} {H : Hp} {t : Addr} {vs xs : List V} {ds es : List PyData} (acc : DpAll K H vs ds) (n : H t = none) (a : DpAll K H xs es) :
    DpAll K (upd H t (.tup xs)) (vs ++ [.ref t]) (ds ++ [.tuple es]) :=
  DpAll.snoc (.tup (SqT.of upd_same) (DpAll.same (same_upd n) a)) (DpAll.same (same_upd n) acc)
theorem dpI {K : PySem.W.Frag} {H : Hp} : ∀ ns : List Int, DpAll K H (ns.map V.int) (ns.map PyData.int)
  | [] => .nil
  | n :: ns => .cons (.int n) (dpI ns)
/-- a thing that repr shows -/
def ThingOk (K : PySem.W.Frag) (H : Hp) (v : V) : Prop := ∃ d, Dp K H v d ∧ smallB d = true
theorem ThingOk.same {K : PySem.W.Frag} {H H' : Hp} {v : V} (s : Same H H') (h : ThingOk K H v) : ThingOk K H' v := by
  obtain ⟨d, h1, h2⟩ := h
  exact ⟨d, Dp.same s h1, h2⟩
def spThing (K : PySem.W.Frag) : Sp := fun vs H Q _ => ∃ (p : Addr) (n i : Nat), vs = [.ref p, .int i] ∧ PotAt H p n ∧ n ≤ 10000000 ∧ i < 20 ∧
  ∀ (v : V) (H' : Hp), ThingOk K H' v → PotAt H' p (n + 1) → (∀ b o, H b = some o → b ≠ p → H' b = some o) → Q v H'
/-- between the ways: the list of things stands in the third slot -/
def MidT (K : PySem.W.Frag) (H : Hp) (p : Addr) (i : Nat) : L2.St → Hp → Prop := fun σ H' => ∃ (L : Addr) (xs : List V) (ds : List PyData),
  σ = [some (.ref p), some (.int i), some (.ref L)] ∧ H' L = some (.lst xs) ∧ DpAll K H' xs ds ∧ ds.all smallB = true ∧ xs.length = 11 ∧ Same H H' ∧ L ≠ p
section
variable {P : Program} {w : World} {K : PySem.W.Frag} {mg : Str → Option Value} {base : Heap}
theorem scThing : FnScope ["_law_pot_here", "_law_number", "_law_some"] ["_law_pot_here", "_law_number"] (defScope sThing) :=
  ⟨rfl, rfl, rfl, by decide +kernel, rfl, by decide +kernel, by decide +kernel⟩
theorem ok_thing {f fT : Addr} {fd fdT : FuncData} (F : Fun K "_law_thing" "_law_thing" sThing f fd) (T : Txt mg)
    (FT : Fun K "_law_take" "_law_take" sTake fT fdT) (bT : Binds K fdT ["_law_pot_here", "_law_many"] []) (mT : mg "_law_take" = some (.ref fT)) :
    FnOk P w K mg base CX0 2 f fd ["_law_pot_here", "_law_number"] (spThing K) := by
  have GT : FnOk P w K mg base CX0 1 fT fdT ["_law_pot_here", "_law_many"] spTake := ok_take FT
  refine F.ok scThing (fun vs H Q E h => ?_) (fun cdv A outer s H vs Q E hr h => ?_)
  · obtain ⟨p, n, i, rfl, _⟩ := h
    rfl
  · obtain ⟨p, n, i, rfl, hp, hn, hi, q⟩ := h
    have hp0 : ∃ o, H p = some o := let ⟨c, m, t, e, _⟩ := hp; ⟨_, e⟩
    obtain ⟨op, hop⟩ := hp0
    refine ⟨_, C8.pss_cut (ps_set (i := 2) scThing.nd rfl (Or.inl rfl) (pe_lst (pa_cons pe_str (pa_cons pe_str (pa_cons pe_str (pa_cons pe_str (pa_cons pe_int
        (pa_cons (pe_un un_neg pe_int) (pa_cons (pe_op op_pow pe_int pe_int) (pa_cons pe_non (pa_cons (pe_tup (pa_cons pe_str (pa_cons pe_int pa_nil)))
        (pa_cons (pe_tup (pa_cons pe_int (pa_cons pe_int pa_nil))) (pa_cons pe_bl pa_nil)))))))))))))
      (C8.pss_cut (ps_if (pt_cmpR op_in_seq (pv 1) (pe_tup (pa_cons pe_int (pa_cons pe_int pa_nil))) (by rfl))
        (pss_one (ps_set (i := 2) scThing.nd rfl (Or.inl rfl) (pe_lst (pa_cons pe_int (pa_cons pe_int (pa_cons pe_int (pa_cons pe_int (pa_cons pe_int
          (pa_cons pe_int (pa_cons pe_int (pa_cons pe_int (pa_cons pe_int (pa_cons (pe_op op_pow pe_int pe_int) (pa_cons pe_int pa_nil)))))))))))))) pss_nil)
      (C8.pss_cut (ps_if (pt_cmpR op_eq (pv 1) pe_int (nomark _))
        (pss_one (ps_set (i := 2) scThing.nd rfl (Or.inl rfl) (pe_lst (pa_cons (pe_tup pa_nil) (pa_cons (pe_tup (pa_cons pe_int pa_nil))
          (pa_cons (pe_tup (pa_cons pe_int (pa_cons pe_int pa_nil))) (pa_cons (pe_tup (pa_cons pe_int (pa_cons pe_int pa_nil))) (pa_cons (pe_tup (pa_cons pe_int pa_nil))
          (pa_cons (pe_tup (pa_cons pe_int (pa_cons pe_int (pa_cons pe_int pa_nil)))) (pa_cons (pe_tup (pa_cons pe_int (pa_cons pe_int pa_nil)))
          (pa_cons (pe_tup (pa_cons (pe_op op_pow pe_int pe_int) pa_nil)) (pa_cons (pe_tup (pa_cons pe_int (pa_cons pe_int (pa_cons pe_int pa_nil))))
          (pa_cons (pe_tup (pa_cons pe_int (pa_cons pe_int (pa_cons pe_int (pa_cons pe_int pa_nil))))) (pa_cons (pe_tup (pa_cons pe_int pa_nil)) pa_nil)))))))))))))) pss_nil)
      (pss_one (ps_ret (pe_ix ix_list (pv 2) (pe_call GT hr (by rfl) mT FT.kp bT .nil pass0 (pa_cons (pv 0)
        (pa_cons (pe_ix ix_list (pe_lst (pa_cons pe_int (pa_cons pe_int pa_nil))) (pe_callTy call_int1 (by rfl) T.int (by decide +kernel)
          (pa_cons (pe_cmpR op_gt (pv 1) pe_int (nomark _)) pa_nil)) (fun _ _ => rfl)) pa_nil))) (fun _ _ => rfl)))))), ?_⟩
    -- the first list
    refine ⟨MidT K H p i, ?_, ?_⟩
    · refine ⟨_, rfl, _, _, rfl, rfl, ⟨by decide, by decide, by decide⟩, by show 2 ≤ sizeLine; decide, fun t1 n1 => ?_⟩
      refine ⟨by show 2 ≤ sizeLine; decide, fun t2 n2 => ?_⟩
      refine ⟨by show 11 ≤ sizeLine; decide, fun L nL => ?_⟩
      have s1 : Same H _ := same_upd (o := .tup [.str "north", .int 3]) n1
      have s2 : Same _ _ := s1.trans (same_upd (o := .tup [.int 0, .int 4]) n2)
      have d12 : t1 ≠ t2 := fun z => by rw [← z, upd_same] at n2; cases n2
      have dL1 : t1 ≠ L := fun z => by rw [← z, upd_ne d12, upd_same] at nL; cases nL
      have dL2 : t2 ≠ L := fun z => by rw [← z, upd_same] at nL; cases nL
      refine ⟨L, _, [.str "", .str "no such", .str "north", .str "a b: c", .int 0, .int (-1), .int (10 ^ 39), .none, .tuple [.str "north", .int 3], .tuple [.int 0, .int 4], .bool true],
        rfl, upd_same, ?_, by decide +kernel, rfl, s2.trans (same_upd nL), fun z => ?_⟩
      · refine .cons (.str _) (.cons (.str _) (.cons (.str _) (.cons (.str _) (.cons (.int _) (.cons (.int _) (.cons (.int _) (.cons .non (.cons (.tup (xs := [.str "north", .int 3]) ?_ (.cons (.str _) (.cons (.int _) .nil)))
          (.cons (.tup (xs := [.int 0, .int 4]) ?_ (.cons (.int _) (.cons (.int _) .nil))) (.cons (.bl _) .nil))))))))))
        · exact SqT.of (by rw [upd_ne dL1, upd_ne d12, upd_same])
        · exact SqT.of (by rw [upd_ne dL2, upd_same])
      · have e := s2 _ _ hop
        rw [← z, nL] at e
        cases e
    rintro σ1 H1 ⟨L, xs, ds, rfl, hL, hD, hs, hx, s1, nLp⟩
    -- number in (15, 18)
    refine ⟨MidT K H p i, ?_, ?_⟩
    · refine ⟨_, rfl, by show 2 ≤ sizeLine; decide, fun t nt => ?_⟩
      have sT : Same H1 _ := same_upd (o := .tup [.int 15, .int 18]) nt
      refine ⟨t, _, rfl, .inr (SqT.of upd_same), rfl, by decide, _, rfl, ?_⟩
      refine ite2 (fun _ => ?_) (fun _ => ?_)
      · refine ⟨_, _, rfl, rfl, ⟨by decide, by decide, by decide⟩, by show 11 ≤ sizeLine; decide, fun M nM => ?_⟩
        refine ⟨M, _, [.int 0, .int 1, .int 2, .int 3, .int 7, .int 12, .int 40, .int 60, .int 999, .int (10 ^ 39), .int 5], rfl, upd_same, ?_, by decide +kernel, rfl, (s1.trans sT).trans (same_upd nM), fun z => ?_⟩
        · exact .cons (.int _) (.cons (.int _) (.cons (.int _) (.cons (.int _) (.cons (.int _) (.cons (.int _) (.cons (.int _) (.cons (.int _) (.cons (.int _) (.cons (.int _) (.cons (.int _) .nil))))))))))
        · have e := (s1.trans sT) _ _ hop
          rw [← z, nM] at e
          cases e
      · exact ⟨L, xs, ds, rfl, sT _ _ hL, DpAll.same sT hD, hs, hx, s1.trans sT, nLp⟩
    clear hL hD hs hx s1 nLp
    clear xs ds L H1
    rintro σ1 H1 ⟨L, xs, ds, rfl, hL, hD, hs, hx, s1, nLp⟩
    -- number == 19
    refine ⟨MidT K H p i, ?_, ?_⟩
    · refine ⟨_, rfl, rfl, _, rfl, ?_⟩
      refine ite2 (fun _ => ?_) (fun _ => ?_)
      · skip
        refine ⟨by show 0 ≤ sizeLine; decide, fun t0 n0 => ?_⟩
        have a0 := addTup (DpAll.nil (K := K) (H := H1)) n0 (dpI [])
        have z0 := s1.trans (same_upd (o := .tup (List.map V.int [])) n0)
        refine ⟨by show 1 ≤ sizeLine; decide, fun t1 n1 => ?_⟩
        have a1 := addTup a0 n1 (dpI [0])
        have z1 := z0.trans (same_upd (o := .tup (List.map V.int [0])) n1)
        refine ⟨by show 2 ≤ sizeLine; decide, fun t2 n2 => ?_⟩
        have a2 := addTup a1 n2 (dpI [0, 1])
        have z2 := z1.trans (same_upd (o := .tup (List.map V.int [0, 1])) n2)
        refine ⟨by show 2 ≤ sizeLine; decide, fun t3 n3 => ?_⟩
        have a3 := addTup a2 n3 (dpI [1, 3])
        have z3 := z2.trans (same_upd (o := .tup (List.map V.int [1, 3])) n3)
        refine ⟨by show 1 ≤ sizeLine; decide, fun t4 n4 => ?_⟩
        have a4 := addTup a3 n4 (dpI [2])
        have z4 := z3.trans (same_upd (o := .tup (List.map V.int [2])) n4)
        refine ⟨by show 3 ≤ sizeLine; decide, fun t5 n5 => ?_⟩
        have a5 := addTup a4 n5 (dpI [0, 2, 5])
        have z5 := z4.trans (same_upd (o := .tup (List.map V.int [0, 2, 5])) n5)
        refine ⟨by show 2 ≤ sizeLine; decide, fun t6 n6 => ?_⟩
        have a6 := addTup a5 n6 (dpI [4, 6])
        have z6 := z5.trans (same_upd (o := .tup (List.map V.int [4, 6])) n6)
        refine ⟨_, _, rfl, rfl, ⟨by decide, by decide, by decide⟩, by show 1 ≤ sizeLine; decide, fun t7 n7 => ?_⟩
        have a7 := addTup a6 n7 (dpI [10 ^ 39])
        have z7 := z6.trans (same_upd (o := .tup (List.map V.int [10 ^ 39])) n7)
        refine ⟨by show 3 ≤ sizeLine; decide, fun t8 n8 => ?_⟩
        have a8 := addTup a7 n8 (dpI [7, 8, 9])
        have z8 := z7.trans (same_upd (o := .tup (List.map V.int [7, 8, 9])) n8)
        refine ⟨by show 4 ≤ sizeLine; decide, fun t9 n9 => ?_⟩
        have a9 := addTup a8 n9 (dpI [0, 1, 2, 3])
        have z9 := z8.trans (same_upd (o := .tup (List.map V.int [0, 1, 2, 3])) n9)
        refine ⟨by show 1 ≤ sizeLine; decide, fun t10 n10 => ?_⟩
        have a10 := addTup a9 n10 (dpI [5])
        have z10 := z9.trans (same_upd (o := .tup (List.map V.int [5])) n10)
        refine ⟨by show 11 ≤ sizeLine; decide, fun M nM => ?_⟩
        refine ⟨M, _, [[], [0], [0, 1], [1, 3], [2], [0, 2, 5], [4, 6], [10 ^ 39], [7, 8, 9], [0, 1, 2, 3], [5]].map (fun l => PyData.tuple (List.map PyData.int l)), rfl, upd_same, DpAll.same (same_upd nM) a10, by decide +kernel, rfl, z10.trans (same_upd nM), fun z => ?_⟩
        exact ne_of_none (z10 _ _ hop) nM z.symm
      · exact ⟨L, xs, ds, rfl, hL, hD, hs, hx, s1, nLp⟩
    clear hL hD hs hx s1 nLp
    clear xs ds L H1
    rintro σ1 H1 ⟨L, xs, ds, rfl, hL, hD, hs, hx, s1, nLp⟩
    -- the drawn one
    refine ⟨_, rfl, _, rfl, by show 2 ≤ sizeLine; decide, fun t nt => ?_⟩
    have s2 := s1.trans (same_upd (o := .lst [.int 4, .int 11]) nt)
    refine ⟨_, rfl, _, _, rfl, rfl, .inr ⟨_, rfl, t, _, _, .int (if 14 < i then 11 else 4), rfl, rfl, SqL.of upd_same, ?_, ?_⟩⟩
    · by_cases h : 14 < i
      · rw [if_pos h]
        have e : decide ((14 : Int) < (i : Int)) = true := decide_eq_true (by omega)
        show atI _ (if decide ((14 : Int) < (i : Int)) = true then 1 else 0) = _
        rw [e]
        rfl
      · rw [if_neg h]
        have e : decide ((14 : Int) < (i : Int)) = false := decide_eq_false (by omega)
        show atI _ (if decide ((14 : Int) < (i : Int)) = true then 1 else 0) = _
        rw [e]
        rfl
    · have hp2 : PotAt (upd H1 t (.lst [.int 4, .int 11])) p n := by
        obtain ⟨c, m, z, e, r⟩ := hp
        exact ⟨c, m, z, s2 _ _ e, r⟩
      refine ⟨p, n, _, rfl, hp2, hn, by split <;> decide, by split <;> decide, fun r H2 r0 r1 hp3 k1 k2 => ?_⟩
      have hr11 : r < 11 := by
        split at r1 <;> omega
      have hL2 : H2 L = some (.lst xs) := k1 _ _ (same_upd nt _ _ hL) nLp
      obtain ⟨j, rfl⟩ := Int.eq_ofNat_of_zero_le r0
      obtain ⟨v, d, e, m, hv⟩ := DpAll.get hD (show j < xs.length by omega)
      refine ⟨L, _, _, v, rfl, rfl, SqL.of hL2, atI_nat e, ?_⟩
      have sm := List.all_eq_true.mp hs d m
      refine q v H2 ⟨d, Dp.tups (H := upd H1 t (.lst [.int 4, .int 11])) ⟨fun b ys hb => k1 _ _ hb ?_, fun b o u hb => k1 _ _ hb ?_⟩ (Dp.same (same_upd nt) hv) (small_noL sm), sm⟩ hp3 fun b o hb nb => k1 b o (s2 b o hb) nb
      · obtain ⟨_, _, _, e0, _⟩ := hp2
        exact ne_of hb e0 (fun z => by cases z)
      · obtain ⟨_, _, _, e0, _⟩ := hp2
        exact ne_of hb e0 (fun z => by cases z)
end
end K1

set_option Elab.async false
set_option linter.all false
set_option maxRecDepth 100000
set_option maxHeartbeats 4000000
namespace K1
open PySem L2 Gx
abbrev sError : Stmt := topS 26
/-- objects that are plain errors of given classes -/
inductive ExAll (H : Hp) : List V → List Addr → Prop
  | nil : ExAll H [] []
  | cons {a C : Addr} {vs : List V} {cs : List Addr} (h : H a = some (ExO (.ref C) a)) (r : ExAll H vs cs) : ExAll H (.ref a :: vs) (C :: cs)
theorem ExAll.same {H H' : Hp} (s : Same H H') : ∀ {vs : List V} {cs : List Addr}, ExAll H vs cs → ExAll H' vs cs
  | _, _, .nil => .nil
  | _, _, .cons h r => .cons (s _ _ h) (ExAll.same s r)
theorem ExAll.snoc {H : Hp} {a C : Addr} (h : H a = some (ExO (.ref C) a)) : ∀ {vs : List V} {cs : List Addr}, ExAll H vs cs → ExAll H (vs ++ [.ref a]) (cs ++ [C])
  | _, _, .nil => .cons h .nil
  | _, _, .cons g r => .cons g (ExAll.snoc h r)
theorem ExAll.add {H : Hp} {a C : Addr} {vs : List V} {cs : List Addr} (r : ExAll H vs cs) (n : H a = none) : ExAll (upd H a (ExO (.ref C) a)) (vs ++ [.ref a]) (cs ++ [C]) :=
  ExAll.snoc upd_same (ExAll.same (same_upd n) r)
theorem ExAll.get {H : Hp} : ∀ {vs : List V} {cs : List Addr} {j : Nat}, ExAll H vs cs → j < vs.length → ∃ a C, vs[j]? = some (.ref a) ∧ cs[j]? = some C ∧ H a = some (ExO (.ref C) a)
  | _, _, 0, .cons h _, _ => ⟨_, _, rfl, rfl, h⟩
  | _, _, j + 1, .cons _ r, l => by
    obtain ⟨a, C, e1, e2, h⟩ := ExAll.get r (Nat.lt_of_succ_lt_succ l)
    exact ⟨a, C, e1, e2, h⟩
/-- the field that an error with a number bears -/
def fldOf (i : Nat) : Str := if i = 15 then "at" else if i = 16 then "spot" else if i = 17 then "number" else if i = 18 then "many" else "lot"
/-- at a stands the error with the number i, made of v -/
def ErrIs (H : Hp) (a : Addr) (i : Nat) (C : Addr) (v : V) : Prop := (i < 15 ∧ H a = some (ExO (.ref C) a)) ∨
  (15 ≤ i ∧ ∃ d, H a = some (exo a C (some d)) ∧ H d = some (exd d [(fldOf i, v)]))
theorem ErrIs.same {H H' : Hp} {a C : Addr} {i : Nat} {v : V} (s : Same H H') (h : ErrIs H a i C v) : ErrIs H' a i C v := by
  rcases h with ⟨l, h⟩ | ⟨l, d, h1, h2⟩
  · exact .inl ⟨l, s _ _ h⟩
  · exact .inr ⟨l, d, s _ _ h1, s _ _ h2⟩
def spError (cs : List Addr) : Sp := fun vs H Q _ => ∃ (i : Nat) (v : V), vs = [.int i, v] ∧ i < 20 ∧
  ∀ (a C : Addr) (H' : Hp), cs[i]? = some C → Same H H' → ErrIs H' a i C v → Q (.ref a) H'
def spIni (C : Addr) (f : Str) : Sp := fun vs H Q _ => ∃ (a : Addr) (v : V), vs = [.ref a, v] ∧ H a = some (exo a C none) ∧
  ∀ dx, H dx = none → dx ≠ a → Q .non (upd (upd H dx (exd dx [(f, v)])) a (exo a C (some dx)))

/-- what the top has made of the classes -/
structure ErrT (K : PySem.W.Frag) (mg : Str → Option Value) (c0 c1 c2 c3 c4 c5 c6 c7 c8 c9 c10 c11 c12 c13 c14 c15 c16 c17 c18 c19 : Addr) : Prop where
  m0 : mg "NoRule" = some (.ref c0)
  m1 : mg "NoColumn" = some (.ref c1)
  m2 : mg "NoLayers" = some (.ref c2)
  m3 : mg "NoSite" = some (.ref c3)
  m4 : mg "NoGround" = some (.ref c4)
  m5 : mg "NoGear" = some (.ref c5)
  m6 : mg "NoProbing" = some (.ref c6)
  m7 : mg "NoLog" = some (.ref c7)
  m8 : mg "NoMasks" = some (.ref c8)
  m9 : mg "NoGame" = some (.ref c9)
  m10 : mg "NoBelief" = some (.ref c10)
  m11 : mg "NoPlan" = some (.ref c11)
  m12 : mg "NoQuestion" = some (.ref c12)
  m13 : mg "NoDeed" = some (.ref c13)
  m14 : mg "TooWide" = some (.ref c14)
  m15 : mg "NoText" = some (.ref c15)
  m16 : mg "NoSpot" = some (.ref c16)
  m17 : mg "NoNumber" = some (.ref c17)
  m18 : mg "TooMany" = some (.ref c18)
  m19 : mg "Clash" = some (.ref c19)
  k0 : PySem.W.keepIn K (.ref c0) = true
  x0 : PySem.W.excIn K c0 tVE "ValueError.__new__" = true
  k1 : PySem.W.keepIn K (.ref c1) = true
  x1 : PySem.W.excIn K c1 tVE "ValueError.__new__" = true
  k2 : PySem.W.keepIn K (.ref c2) = true
  x2 : PySem.W.excIn K c2 tVE "ValueError.__new__" = true
  k3 : PySem.W.keepIn K (.ref c3) = true
  x3 : PySem.W.excIn K c3 tVE "ValueError.__new__" = true
  k4 : PySem.W.keepIn K (.ref c4) = true
  x4 : PySem.W.excIn K c4 tVE "ValueError.__new__" = true
  k5 : PySem.W.keepIn K (.ref c5) = true
  x5 : PySem.W.excIn K c5 tVE "ValueError.__new__" = true
  k6 : PySem.W.keepIn K (.ref c6) = true
  x6 : PySem.W.excIn K c6 tVE "ValueError.__new__" = true
  k7 : PySem.W.keepIn K (.ref c7) = true
  x7 : PySem.W.excIn K c7 tVE "ValueError.__new__" = true
  k8 : PySem.W.keepIn K (.ref c8) = true
  x8 : PySem.W.excIn K c8 tVE "ValueError.__new__" = true
  k9 : PySem.W.keepIn K (.ref c9) = true
  x9 : PySem.W.excIn K c9 tVE "ValueError.__new__" = true
  k10 : PySem.W.keepIn K (.ref c10) = true
  x10 : PySem.W.excIn K c10 tVE "ValueError.__new__" = true
  k11 : PySem.W.keepIn K (.ref c11) = true
  x11 : PySem.W.excIn K c11 tVE "ValueError.__new__" = true
  k12 : PySem.W.keepIn K (.ref c12) = true
  x12 : PySem.W.excIn K c12 tVE "ValueError.__new__" = true
  k13 : PySem.W.keepIn K (.ref c13) = true
  x13 : PySem.W.excIn K c13 tVE "ValueError.__new__" = true
  k14 : PySem.W.keepIn K (.ref c14) = true
  x14 : PySem.W.excIn K c14 tVE "ValueError.__new__" = true
  o15 : OxG K c15 "ValueError" "ValueError.__new__" "ValueError.__init__" tVE
  n15 : PySem.W.findIn K (.ref c15) "at" = some none
  o16 : OxG K c16 "LookupError" "LookupError.__new__" "LookupError.__init__" [.type "LookupError", .type "Exception", .type "BaseException", .type "object"]
  n16 : PySem.W.findIn K (.ref c16) "spot" = some none
  o17 : OxG K c17 "IndexError" "IndexError.__new__" "IndexError.__init__" tIE
  n17 : PySem.W.findIn K (.ref c17) "number" = some none
  o18 : OxG K c18 "OverflowError" "OverflowError.__new__" "OverflowError.__init__" tOE
  n18 : PySem.W.findIn K (.ref c18) "many" = some none
  o19 : OxG K c19 "RuntimeError" "RuntimeError.__new__" "RuntimeError.__init__" tRE
  n19 : PySem.W.findIn K (.ref c19) "lot" = some none
section
variable {P : Program} {w : World} {K : PySem.W.Frag} {mg : Str → Option Value} {base : Heap} {c0 c1 c2 c3 c4 c5 c6 c7 c8 c9 c10 c11 c12 c13 c14 c15 c16 c17 c18 c19 : Addr}
abbrev sIni15 : Stmt := inClass (topS 17) 0
theorem scIni15 : FnScope ["self", "at"] ["self", "at"] (defScope sIni15) :=
  ⟨rfl, rfl, rfl, by decide +kernel, rfl, by decide +kernel, by decide +kernel⟩
theorem ok_ini15 {f : Addr} {fd : FuncData} (F : Fun K "__init__" "NoText.__init__" sIni15 f fd) (T : ErrT K mg c0 c1 c2 c3 c4 c5 c6 c7 c8 c9 c10 c11 c12 c13 c14 c15 c16 c17 c18 c19) :
    FnOk P w K mg base CX0 1 f fd ["self", "at"] (spIni c15 "at") := by
  refine F.ok scIni15 (fun vs H Q E h => ?_) (fun cdv A outer s H vs Q E hr h => ?_)
  · obtain ⟨a, v, rfl, _⟩ := h
    rfl
  · obtain ⟨a, v, rfl, ha, q⟩ := h
    refine ⟨_, pss_one (ps_fset (pv 0) (pv 1)), ?_⟩
    refine ⟨_, rfl, _, rfl, a, c15, _, _, _, _, rfl, T.o15, T.n15, ha, fun dx n ne => q dx n ne⟩
abbrev sIni16 : Stmt := inClass (topS 18) 0
theorem scIni16 : FnScope ["self", "spot"] ["self", "spot"] (defScope sIni16) :=
  ⟨rfl, rfl, rfl, by decide +kernel, rfl, by decide +kernel, by decide +kernel⟩
theorem ok_ini16 {f : Addr} {fd : FuncData} (F : Fun K "__init__" "NoSpot.__init__" sIni16 f fd) (T : ErrT K mg c0 c1 c2 c3 c4 c5 c6 c7 c8 c9 c10 c11 c12 c13 c14 c15 c16 c17 c18 c19) :
    FnOk P w K mg base CX0 1 f fd ["self", "spot"] (spIni c16 "spot") := by
  refine F.ok scIni16 (fun vs H Q E h => ?_) (fun cdv A outer s H vs Q E hr h => ?_)
  · obtain ⟨a, v, rfl, _⟩ := h
    rfl
  · obtain ⟨a, v, rfl, ha, q⟩ := h
    refine ⟨_, pss_one (ps_fset (pv 0) (pv 1)), ?_⟩
    refine ⟨_, rfl, _, rfl, a, c16, _, _, _, _, rfl, T.o16, T.n16, ha, fun dx n ne => q dx n ne⟩
abbrev sIni17 : Stmt := inClass (topS 19) 0
theorem scIni17 : FnScope ["self", "number"] ["self", "number"] (defScope sIni17) :=
  ⟨rfl, rfl, rfl, by decide +kernel, rfl, by decide +kernel, by decide +kernel⟩
theorem ok_ini17 {f : Addr} {fd : FuncData} (F : Fun K "__init__" "NoNumber.__init__" sIni17 f fd) (T : ErrT K mg c0 c1 c2 c3 c4 c5 c6 c7 c8 c9 c10 c11 c12 c13 c14 c15 c16 c17 c18 c19) :
    FnOk P w K mg base CX0 1 f fd ["self", "number"] (spIni c17 "number") := by
  refine F.ok scIni17 (fun vs H Q E h => ?_) (fun cdv A outer s H vs Q E hr h => ?_)
  · obtain ⟨a, v, rfl, _⟩ := h
    rfl
  · obtain ⟨a, v, rfl, ha, q⟩ := h
    refine ⟨_, pss_one (ps_fset (pv 0) (pv 1)), ?_⟩
    refine ⟨_, rfl, _, rfl, a, c17, _, _, _, _, rfl, T.o17, T.n17, ha, fun dx n ne => q dx n ne⟩
abbrev sIni18 : Stmt := inClass (topS 20) 0
theorem scIni18 : FnScope ["self", "many"] ["self", "many"] (defScope sIni18) :=
  ⟨rfl, rfl, rfl, by decide +kernel, rfl, by decide +kernel, by decide +kernel⟩
theorem ok_ini18 {f : Addr} {fd : FuncData} (F : Fun K "__init__" "TooMany.__init__" sIni18 f fd) (T : ErrT K mg c0 c1 c2 c3 c4 c5 c6 c7 c8 c9 c10 c11 c12 c13 c14 c15 c16 c17 c18 c19) :
    FnOk P w K mg base CX0 1 f fd ["self", "many"] (spIni c18 "many") := by
  refine F.ok scIni18 (fun vs H Q E h => ?_) (fun cdv A outer s H vs Q E hr h => ?_)
  · obtain ⟨a, v, rfl, _⟩ := h
    rfl
  · obtain ⟨a, v, rfl, ha, q⟩ := h
    refine ⟨_, pss_one (ps_fset (pv 0) (pv 1)), ?_⟩
    refine ⟨_, rfl, _, rfl, a, c18, _, _, _, _, rfl, T.o18, T.n18, ha, fun dx n ne => q dx n ne⟩
abbrev sIni19 : Stmt := inClass (topS 21) 0
theorem scIni19 : FnScope ["self", "lot"] ["self", "lot"] (defScope sIni19) :=
  ⟨rfl, rfl, rfl, by decide +kernel, rfl, by decide +kernel, by decide +kernel⟩
theorem ok_ini19 {f : Addr} {fd : FuncData} (F : Fun K "__init__" "Clash.__init__" sIni19 f fd) (T : ErrT K mg c0 c1 c2 c3 c4 c5 c6 c7 c8 c9 c10 c11 c12 c13 c14 c15 c16 c17 c18 c19) :
    FnOk P w K mg base CX0 1 f fd ["self", "lot"] (spIni c19 "lot") := by
  refine F.ok scIni19 (fun vs H Q E h => ?_) (fun cdv A outer s H vs Q E hr h => ?_)
  · obtain ⟨a, v, rfl, _⟩ := h
    rfl
  · obtain ⟨a, v, rfl, ha, q⟩ := h
    refine ⟨_, pss_one (ps_fset (pv 0) (pv 1)), ?_⟩
    refine ⟨_, rfl, _, rfl, a, c19, _, _, _, _, rfl, T.o19, T.n19, ha, fun dx n ne => q dx n ne⟩
theorem scErr : FnScope ["_law_number", "_law_thing_here"] ["_law_number", "_law_thing_here"] (defScope sError) :=
  ⟨rfl, rfl, rfl, by decide +kernel, rfl, by decide +kernel, by decide +kernel⟩
theorem ok_error {f f15 f16 f17 f18 f19 : Addr} {fd fd15 fd16 fd17 fd18 fd19 : FuncData} (F : Fun K "_law_error" "_law_error" sError f fd) (T : ErrT K mg c0 c1 c2 c3 c4 c5 c6 c7 c8 c9 c10 c11 c12 c13 c14 c15 c16 c17 c18 c19)
    (F15 : Fun K "__init__" "NoText.__init__" sIni15 f15 fd15) (b15 : Binds K fd15 ["self", "at"] []) (i15 : PySem.W.findIn K (.ref c15) "__init__" = some (some (.ref f15))) (t15 : PySem.W.typeIn K (.ref f15) = some (.type "function"))
    (F16 : Fun K "__init__" "NoSpot.__init__" sIni16 f16 fd16) (b16 : Binds K fd16 ["self", "spot"] []) (i16 : PySem.W.findIn K (.ref c16) "__init__" = some (some (.ref f16))) (t16 : PySem.W.typeIn K (.ref f16) = some (.type "function"))
    (F17 : Fun K "__init__" "NoNumber.__init__" sIni17 f17 fd17) (b17 : Binds K fd17 ["self", "number"] []) (i17 : PySem.W.findIn K (.ref c17) "__init__" = some (some (.ref f17))) (t17 : PySem.W.typeIn K (.ref f17) = some (.type "function"))
    (F18 : Fun K "__init__" "TooMany.__init__" sIni18 f18 fd18) (b18 : Binds K fd18 ["self", "many"] []) (i18 : PySem.W.findIn K (.ref c18) "__init__" = some (some (.ref f18))) (t18 : PySem.W.typeIn K (.ref f18) = some (.type "function"))
    (F19 : Fun K "__init__" "Clash.__init__" sIni19 f19 fd19) (b19 : Binds K fd19 ["self", "lot"] []) (i19 : PySem.W.findIn K (.ref c19) "__init__" = some (some (.ref f19))) (t19 : PySem.W.typeIn K (.ref f19) = some (.type "function"))
    : FnOk P w K mg base CX0 3 f fd ["_law_number", "_law_thing_here"] (spError [c0, c1, c2, c3, c4, c5, c6, c7, c8, c9, c10, c11, c12, c13, c14, c15, c16, c17, c18, c19]) := by
  have G15 : FnOk P w K mg base CX0 1 f15 fd15 ["self", "at"] (spIni c15 "at") := ok_ini15 F15 T
  have G16 : FnOk P w K mg base CX0 1 f16 fd16 ["self", "spot"] (spIni c16 "spot") := ok_ini16 F16 T
  have G17 : FnOk P w K mg base CX0 1 f17 fd17 ["self", "number"] (spIni c17 "number") := ok_ini17 F17 T
  have G18 : FnOk P w K mg base CX0 1 f18 fd18 ["self", "many"] (spIni c18 "many") := ok_ini18 F18 T
  have G19 : FnOk P w K mg base CX0 1 f19 fd19 ["self", "lot"] (spIni c19 "lot") := ok_ini19 F19 T
  refine F.ok scErr (fun vs H Q E h => ?_) (fun cdv A outer s H vs Q E hr h => ?_)
  · obtain ⟨i, v, rfl, _⟩ := h
    rfl
  · obtain ⟨i, v, rfl, hi, q⟩ := h
    refine ⟨_, pss_cons (ps_if (pt_cmpR op_lt (pv 0) pe_int (nomark _)) (pss_one (ps_ret (pe_ix ix_list (pe_lst (pa_cons (pe_exc1 PySem.F.excBase_ValueError T.x0 T.m0 T.k0 (by rfl) (pv 1))
          (pa_cons (pe_exc1 PySem.F.excBase_ValueError T.x1 T.m1 T.k1 (by rfl) (pv 1))
          (pa_cons (pe_exc1 PySem.F.excBase_ValueError T.x2 T.m2 T.k2 (by rfl) (pv 1))
          (pa_cons (pe_exc1 PySem.F.excBase_ValueError T.x3 T.m3 T.k3 (by rfl) (pv 1))
          (pa_cons (pe_exc1 PySem.F.excBase_ValueError T.x4 T.m4 T.k4 (by rfl) (pv 1))
          (pa_cons (pe_exc1 PySem.F.excBase_ValueError T.x5 T.m5 T.k5 (by rfl) (pv 1))
          (pa_cons (pe_exc1 PySem.F.excBase_ValueError T.x6 T.m6 T.k6 (by rfl) (pv 1))
          (pa_cons (pe_exc1 PySem.F.excBase_ValueError T.x7 T.m7 T.k7 (by rfl) (pv 1))
          pa_nil))))))))) (pv 0) (fun _ _ => rfl)))) pss_nil)
      (pss_cons (ps_if (pt_cmpR op_lt (pv 0) pe_int (nomark _)) (pss_one (ps_ret (pe_ix ix_list (pe_lst (pa_cons (pe_exc1 PySem.F.excBase_ValueError T.x8 T.m8 T.k8 (by rfl) (pv 1))
          (pa_cons (pe_exc1 PySem.F.excBase_ValueError T.x9 T.m9 T.k9 (by rfl) (pv 1))
          (pa_cons (pe_exc1 PySem.F.excBase_ValueError T.x10 T.m10 T.k10 (by rfl) (pv 1))
          (pa_cons (pe_exc1 PySem.F.excBase_ValueError T.x11 T.m11 T.k11 (by rfl) (pv 1))
          (pa_cons (pe_exc1 PySem.F.excBase_ValueError T.x12 T.m12 T.k12 (by rfl) (pv 1))
          (pa_cons (pe_exc1 PySem.F.excBase_ValueError T.x13 T.m13 T.k13 (by rfl) (pv 1))
          (pa_cons (pe_exc1 PySem.F.excBase_ValueError T.x14 T.m14 T.k14 (by rfl) (pv 1))
          pa_nil)))))))) (pe_op op_sub (pv 0) pe_int) (fun _ _ => rfl)))) pss_nil)
      (pss_cons (ps_if (pt_cmpR op_eq (pv 0) pe_int (nomark _)) (pss_one (ps_ret (pe_mkV T.o15 i15 t15 G15 hr b15 pass0 (by rfl) T.m15 (pa_cons (pv 1) pa_nil)))) pss_nil)
      (pss_cons (ps_if (pt_cmpR op_eq (pv 0) pe_int (nomark _)) (pss_one (ps_ret (pe_mkV T.o16 i16 t16 G16 hr b16 pass0 (by rfl) T.m16 (pa_cons (pv 1) pa_nil)))) pss_nil)
      (pss_cons (ps_if (pt_cmpR op_eq (pv 0) pe_int (nomark _)) (pss_one (ps_ret (pe_mkV T.o17 i17 t17 G17 hr b17 pass0 (by rfl) T.m17 (pa_cons (pv 1) pa_nil)))) pss_nil)
      (pss_one (ps_ret (pe_ifExp (pt_cmpR op_eq (pv 0) pe_int (nomark _)) (pe_mkV T.o18 i18 t18 G18 hr b18 pass0 (by rfl) T.m18 (pa_cons (pv 1) pa_nil)) (pe_mkV T.o19 i19 t19 G19 hr b19 pass0 (by rfl) T.m19 (pa_cons (pv 1) pa_nil))))))))), ?_⟩
    refine ⟨_, rfl, _, _, rfl, rfl, _, rfl, ?_⟩
    refine ite2 (fun h8 => ?_) (fun h8 => ?_)
    · have h8' : (i : Int) < 8 := of_decide_eq_true h8
      refine ⟨_, rfl, fun a0 n0 => ?_⟩
      have e0 := ExAll.add (C := c0) (ExAll.nil (H := H)) n0
      have z0 := (Same.refl H).trans (same_upd (o := ExO (.ref c0) a0) n0)
      refine ⟨_, rfl, fun a1 n1 => ?_⟩
      have e1 := ExAll.add (C := c1) e0 n1
      have z1 := z0.trans (same_upd (o := ExO (.ref c1) a1) n1)
      refine ⟨_, rfl, fun a2 n2 => ?_⟩
      have e2 := ExAll.add (C := c2) e1 n2
      have z2 := z1.trans (same_upd (o := ExO (.ref c2) a2) n2)
      refine ⟨_, rfl, fun a3 n3 => ?_⟩
      have e3 := ExAll.add (C := c3) e2 n3
      have z3 := z2.trans (same_upd (o := ExO (.ref c3) a3) n3)
      refine ⟨_, rfl, fun a4 n4 => ?_⟩
      have e4 := ExAll.add (C := c4) e3 n4
      have z4 := z3.trans (same_upd (o := ExO (.ref c4) a4) n4)
      refine ⟨_, rfl, fun a5 n5 => ?_⟩
      have e5 := ExAll.add (C := c5) e4 n5
      have z5 := z4.trans (same_upd (o := ExO (.ref c5) a5) n5)
      refine ⟨_, rfl, fun a6 n6 => ?_⟩
      have e6 := ExAll.add (C := c6) e5 n6
      have z6 := z5.trans (same_upd (o := ExO (.ref c6) a6) n6)
      refine ⟨_, rfl, fun a7 n7 => ?_⟩
      have e7 := ExAll.add (C := c7) e6 n7
      have z7 := z6.trans (same_upd (o := ExO (.ref c7) a7) n7)
      refine ⟨by show 8 ≤ sizeLine; decide, fun L nL => ?_⟩
      have eL := ExAll.same (same_upd (o := .lst [.ref a0, .ref a1, .ref a2, .ref a3, .ref a4, .ref a5, .ref a6, .ref a7]) nL) e7
      obtain ⟨a, C, g1, g2, g3⟩ := ExAll.get (j := i - 0) eL (show i - 0 < 8 by omega)
      refine ⟨_, rfl, L, _, _, .ref a, rfl, rfl, SqL.of upd_same, atI_nat g1, ?_⟩
      refine q a C _ ?_ (z7.trans (same_upd nL)) (.inl ⟨by omega, g3⟩)
      rw [← g2]
      obtain ⟨j, rfl⟩ : ∃ j, i = j := ⟨i, rfl⟩
      rcases (show i = 0 ∨ i = 1 ∨ i = 2 ∨ i = 3 ∨ i = 4 ∨ i = 5 ∨ i = 6 ∨ i = 7 by omega) with rfl | rfl | rfl | rfl | rfl | rfl | rfl | rfl <;> rfl
    have h8' : ¬ (i : Int) < 8 := fun z => h8 (decide_eq_true z)
    refine ⟨_, rfl, _, _, rfl, rfl, _, rfl, ?_⟩
    refine ite2 (fun h15 => ?_) (fun h15 => ?_)
    · have h15' : (i : Int) < 15 := of_decide_eq_true h15
      refine ⟨_, rfl, fun a8 n8 => ?_⟩
      have e8 := ExAll.add (C := c8) (ExAll.nil (H := H)) n8
      have z8 := (Same.refl H).trans (same_upd (o := ExO (.ref c8) a8) n8)
      refine ⟨_, rfl, fun a9 n9 => ?_⟩
      have e9 := ExAll.add (C := c9) e8 n9
      have z9 := z8.trans (same_upd (o := ExO (.ref c9) a9) n9)
      refine ⟨_, rfl, fun a10 n10 => ?_⟩
      have e10 := ExAll.add (C := c10) e9 n10
      have z10 := z9.trans (same_upd (o := ExO (.ref c10) a10) n10)
      refine ⟨_, rfl, fun a11 n11 => ?_⟩
      have e11 := ExAll.add (C := c11) e10 n11
      have z11 := z10.trans (same_upd (o := ExO (.ref c11) a11) n11)
      refine ⟨_, rfl, fun a12 n12 => ?_⟩
      have e12 := ExAll.add (C := c12) e11 n12
      have z12 := z11.trans (same_upd (o := ExO (.ref c12) a12) n12)
      refine ⟨_, rfl, fun a13 n13 => ?_⟩
      have e13 := ExAll.add (C := c13) e12 n13
      have z13 := z12.trans (same_upd (o := ExO (.ref c13) a13) n13)
      refine ⟨_, rfl, fun a14 n14 => ?_⟩
      have e14 := ExAll.add (C := c14) e13 n14
      have z14 := z13.trans (same_upd (o := ExO (.ref c14) a14) n14)
      refine ⟨by show 7 ≤ sizeLine; decide, fun L nL => ?_⟩
      have eL := ExAll.same (same_upd (o := .lst [.ref a8, .ref a9, .ref a10, .ref a11, .ref a12, .ref a13, .ref a14]) nL) e14
      obtain ⟨a, C, g1, g2, g3⟩ := ExAll.get (j := i - 8) eL (show i - 8 < 7 by omega)
      refine ⟨_, rfl, _, _, rfl, rfl, L, _, _, .ref a, rfl, rfl, SqL.of upd_same, (by
        have e : (i : Int) - 8 = ((i - 8 : Nat) : Int) := by omega
        rw [e]
        exact atI_nat g1), ?_⟩
      refine q a C _ ?_ (z14.trans (same_upd nL)) (.inl ⟨by omega, g3⟩)
      rw [← g2]
      rcases (show i = 8 ∨ i = 9 ∨ i = 10 ∨ i = 11 ∨ i = 12 ∨ i = 13 ∨ i = 14 by omega) with rfl | rfl | rfl | rfl | rfl | rfl | rfl <;> rfl
    have h15' : ¬ (i : Int) < 15 := fun z => h15 (decide_eq_true z)
    refine ⟨_, rfl, rfl, _, rfl, ?_⟩
    refine ite2 (fun h15 => ?_) (fun h15 => ?_)
    · have e15 : i = 15 := by
        have z := of_decide_eq_true h15
        injection z with z
        omega
      subst e15
      refine ⟨_, rfl, by show 1 ≤ 1000; decide, fun a na => ⟨a, v, rfl, upd_same, fun dx nx ne => ⟨rfl, ?_⟩⟩⟩
      have nx0 : H dx = none := (same_upd na).free nx
      refine q a c15 _ rfl (fun b o e => ?_) (.inr ⟨by omega, dx, upd_same, ?_⟩)
      · rw [upd_ne (ne_of_none e na), upd_ne (ne_of_none e nx0), upd_ne (ne_of_none e na)]
        exact e
      · rw [upd_ne ne, upd_same]
        rfl
    have e15 : i ≠ 15 := fun z => h15 (by rw [z]; exact decide_eq_true rfl)
    refine ⟨_, rfl, rfl, _, rfl, ?_⟩
    refine ite2 (fun h16 => ?_) (fun h16 => ?_)
    · have e16 : i = 16 := by
        have z := of_decide_eq_true h16
        injection z with z
        omega
      subst e16
      refine ⟨_, rfl, by show 1 ≤ 1000; decide, fun a na => ⟨a, v, rfl, upd_same, fun dx nx ne => ⟨rfl, ?_⟩⟩⟩
      have nx0 : H dx = none := (same_upd na).free nx
      refine q a c16 _ rfl (fun b o e => ?_) (.inr ⟨by omega, dx, upd_same, ?_⟩)
      · rw [upd_ne (ne_of_none e na), upd_ne (ne_of_none e nx0), upd_ne (ne_of_none e na)]
        exact e
      · rw [upd_ne ne, upd_same]
        rfl
    have e16 : i ≠ 16 := fun z => h16 (by rw [z]; exact decide_eq_true rfl)
    refine ⟨_, rfl, rfl, _, rfl, ?_⟩
    refine ite2 (fun h17 => ?_) (fun h17 => ?_)
    · have e17 : i = 17 := by
        have z := of_decide_eq_true h17
        injection z with z
        omega
      subst e17
      refine ⟨_, rfl, by show 1 ≤ 1000; decide, fun a na => ⟨a, v, rfl, upd_same, fun dx nx ne => ⟨rfl, ?_⟩⟩⟩
      have nx0 : H dx = none := (same_upd na).free nx
      refine q a c17 _ rfl (fun b o e => ?_) (.inr ⟨by omega, dx, upd_same, ?_⟩)
      · rw [upd_ne (ne_of_none e na), upd_ne (ne_of_none e nx0), upd_ne (ne_of_none e na)]
        exact e
      · rw [upd_ne ne, upd_same]
        rfl
    have e17 : i ≠ 17 := fun z => h17 (by rw [z]; exact decide_eq_true rfl)
    refine ⟨_, rfl, rfl, _, rfl, ?_⟩
    refine ite2 (fun h18 => ?_) (fun h18 => ?_)
    · have e18 : i = 18 := by
        have z := of_decide_eq_true h18
        injection z with z
        omega
      subst e18
      refine ⟨_, rfl, by show 1 ≤ 1000; decide, fun a na => ⟨a, v, rfl, upd_same, fun dx nx ne => ⟨rfl, ?_⟩⟩⟩
      have nx0 : H dx = none := (same_upd na).free nx
      refine q a c18 _ rfl (fun b o e => ?_) (.inr ⟨by omega, dx, upd_same, ?_⟩)
      · rw [upd_ne (ne_of_none e na), upd_ne (ne_of_none e nx0), upd_ne (ne_of_none e na)]
        exact e
      · rw [upd_ne ne, upd_same]
        rfl
    · have e18 : i ≠ 18 := fun z => h18 (by rw [z]; exact decide_eq_true rfl)
      have e19 : i = 19 := by omega
      subst e19
      refine ⟨_, rfl, by show 1 ≤ 1000; decide, fun a na => ⟨a, v, rfl, upd_same, fun dx nx ne => ⟨rfl, ?_⟩⟩⟩
      have nx0 : H dx = none := (same_upd na).free nx
      refine q a c19 _ rfl (fun b o e => ?_) (.inr ⟨by omega, dx, upd_same, ?_⟩)
      · rw [upd_ne (ne_of_none e na), upd_ne (ne_of_none e nx0), upd_ne (ne_of_none e na)]
        exact e
      · rw [upd_ne ne, upd_same]
        rfl
end
end K1

set_option Elab.async false
set_option linter.all false
set_option maxRecDepth 100000
set_option maxHeartbeats 4000000
namespace K1
open PySem L2 Gx
abbrev sClasses : Stmt := topS 27
abbrev sUnder : Stmt := topS 28
abbrev sDue : Stmt := topS 29
abbrev sBorne : Stmt := topS 30
def dueB (i j : Nat) : Bool := if i < 16 then decide (j < 2) else ([[2, 4], [3, 4], [5], [6]].getD (i - 16) []).contains j
def kinds (cG : Addr) : List Value := [.ref cG, .type "ValueError", .type "KeyError", .type "IndexError", .type "LookupError", .type "OverflowError", .type "RuntimeError"]
/-- of which class, under which kinds each error stands -/
def kkB (K : PySem.W.Frag) (cs : List Addr) (ks : List Value) : Bool := (List.range 20).all fun i => match cs[i]? with
  | some C => exB K C && ((List.range 20).all (fun j => match cs[j]? with
      | some D => decide (PySem.W.kitOne K (.ref C) (.ref D) = some (decide (j = i)))
      | none => false) && (List.range 7).all fun j => match ks[j]? with
      | some u => decide (PySem.W.kitOne K (.ref C) u = some (dueB i j))
      | none => false)
  | none => false
theorem kk_ex {K : PySem.W.Frag} {cs : List Addr} {ks : List Value} (h : kkB K cs ks = true) {i : Nat} {C : Addr} (hi : i < 20) (e : cs[i]? = some C) : exB K C = true := by
  have z := List.all_eq_true.mp h i (List.mem_range.mpr hi)
  rw [e] at z
  exact (Bool.and_eq_true_iff.mp z).1
theorem kk_cls {K : PySem.W.Frag} {cs : List Addr} {ks : List Value} (h : kkB K cs ks = true) {i j : Nat} {C D : Addr} (hi : i < 20) (e : cs[i]? = some C) (hj : j < 20) (e' : cs[j]? = some D) :
    PySem.W.kitOne K (.ref C) (.ref D) = some (decide (j = i)) := by
  have z := List.all_eq_true.mp h i (List.mem_range.mpr hi)
  rw [e] at z
  have z2 := List.all_eq_true.mp (Bool.and_eq_true_iff.mp (Bool.and_eq_true_iff.mp z).2).1 j (List.mem_range.mpr hj)
  rw [e'] at z2
  exact of_decide_eq_true z2
theorem kk_kind {K : PySem.W.Frag} {cs : List Addr} {ks : List Value} (h : kkB K cs ks = true) {i j : Nat} {C : Addr} {u : Value} (hi : i < 20) (e : cs[i]? = some C) (hj : j < 7) (e' : ks[j]? = some u) :
    PySem.W.kitOne K (.ref C) u = some (dueB i j) := by
  have z := List.all_eq_true.mp h i (List.mem_range.mpr hi)
  rw [e] at z
  have z2 := List.all_eq_true.mp (Bool.and_eq_true_iff.mp (Bool.and_eq_true_iff.mp z).2).2 j (List.mem_range.mpr hj)
  rw [e'] at z2
  exact of_decide_eq_true z2
theorem upd_at {H : Hp} {p : Addr} {o : HO} (_ : H p = none) : upd H p o p = some o := upd_same
theorem ErrIs.at {H : Hp} {a C : Addr} {i : Nat} {v : V} (h : ErrIs H a i C v) : ErrAt H a C := by
  rcases h with ⟨_, h⟩ | ⟨_, d, h1, h2⟩
  · exact .plain h
  · exact .own d _ h1 h2
def spClasses (cs : List Addr) : Sp := fun vs H Q _ => ∃ (a C : Addr) (i : Nat) (v : V), vs = [.ref a] ∧ i < 20 ∧ cs[i]? = some C ∧ ErrIs H a i C v ∧
  ∀ (L : Addr) (H' : Hp), Same H H' → H' L = some (.lst ((List.range 20).map fun j => V.bl (decide (j = i)))) → Q (.ref L) H'
def spUnder (cs : List Addr) : Sp := fun vs H Q _ => ∃ (a C : Addr) (i : Nat) (v : V), vs = [.ref a] ∧ i < 20 ∧ cs[i]? = some C ∧ ErrIs H a i C v ∧
  ∀ (L : Addr) (H' : Hp), Same H H' → H' L = some (.lst ((List.range 7).map fun j => V.bl (dueB i j))) → Q (.ref L) H'
def spBorne (cs : List Addr) : Sp := fun vs H Q _ => ∃ (a C : Addr) (i : Nat) (v : V), vs = [.int i, .ref a] ∧ 15 ≤ i ∧ i < 20 ∧ cs[i]? = some C ∧ ErrIs H a i C v ∧ Q v H
def spDue : Sp := fun vs H Q _ => ∃ (i : Nat), vs = [.int i] ∧ i < 20 ∧
  ∀ (L : Addr) (H' : Hp), Same H H' → H' L = some (.lst ((List.range 7).map fun j => V.bl (dueB i j))) → Q (.ref L) H'
/-- the built-in names that these defs use, and GroundError -/
structure TxtB (mg : Str → Option Value) (cG : Addr) : Prop where
  isi : mg "isinstance" = none
  range : mg "range" = none
  ge : mg "GroundError" = some (.ref cG)
  ve : mg "ValueError" = none
  ke : mg "KeyError" = none
  ie : mg "IndexError" = none
  le : mg "LookupError" = none
  oe : mg "OverflowError" = none
  re : mg "RuntimeError" = none
section
variable {P : Program} {w : World} {K : PySem.W.Frag} {mg : Str → Option Value} {base : Heap} {cG c0 c1 c2 c3 c4 c5 c6 c7 c8 c9 c10 c11 c12 c13 c14 c15 c16 c17 c18 c19 : Addr}
theorem scCl : FnScope ["_law_one", "_law_some"] ["_law_one"] (defScope sClasses) :=
  ⟨rfl, rfl, rfl, by decide +kernel, rfl, by decide +kernel, by decide +kernel⟩
theorem ok_classes {f : Addr} {fd : FuncData} (F : Fun K "_law_classes" "_law_classes" sClasses f fd) (T : ErrT K mg c0 c1 c2 c3 c4 c5 c6 c7 c8 c9 c10 c11 c12 c13 c14 c15 c16 c17 c18 c19) (B : TxtB mg cG)
    (kk : kkB K [c0, c1, c2, c3, c4, c5, c6, c7, c8, c9, c10, c11, c12, c13, c14, c15, c16, c17, c18, c19] (kinds cG) = true) : FnOk P w K mg base CX0 1 f fd ["_law_one"] (spClasses [c0, c1, c2, c3, c4, c5, c6, c7, c8, c9, c10, c11, c12, c13, c14, c15, c16, c17, c18, c19]) := by
  refine F.ok scCl (fun vs H Q E h => ?_) (fun cdv A outer s H vs Q E hr h => ?_)
  · obtain ⟨a, C, i, v, rfl, _⟩ := h
    rfl
  · obtain ⟨a, C, i, v, rfl, hi, hC, hE, q⟩ := h
    have X := (exB_ok (kk_ex kk hi hC)).1
    refine ⟨_, (pss_cons (ps_set (i := 1) scCl.nd rfl (Or.inl rfl) (pe_lst (pa_cons (pe_callB call_isX (by rfl) B.isi (by decide +kernel) (pa_cons (pv 0) (pa_cons (pe_glob (v := .ref c0) (by rfl) T.m0 rfl) pa_nil)))
        (pa_cons (pe_callB call_isX (by rfl) B.isi (by decide +kernel) (pa_cons (pv 0) (pa_cons (pe_glob (v := .ref c1) (by rfl) T.m1 rfl) pa_nil)))
        (pa_cons (pe_callB call_isX (by rfl) B.isi (by decide +kernel) (pa_cons (pv 0) (pa_cons (pe_glob (v := .ref c2) (by rfl) T.m2 rfl) pa_nil)))
        (pa_cons (pe_callB call_isX (by rfl) B.isi (by decide +kernel) (pa_cons (pv 0) (pa_cons (pe_glob (v := .ref c3) (by rfl) T.m3 rfl) pa_nil)))
        pa_nil))))))
      (pss_cons (ps_set (i := 1) scCl.nd rfl (Or.inl rfl) (pe_op op_cat (pv 1) (pe_lst (pa_cons (pe_callB call_isX (by rfl) B.isi (by decide +kernel) (pa_cons (pv 0) (pa_cons (pe_glob (v := .ref c4) (by rfl) T.m4 rfl) pa_nil)))
        (pa_cons (pe_callB call_isX (by rfl) B.isi (by decide +kernel) (pa_cons (pv 0) (pa_cons (pe_glob (v := .ref c5) (by rfl) T.m5 rfl) pa_nil)))
        (pa_cons (pe_callB call_isX (by rfl) B.isi (by decide +kernel) (pa_cons (pv 0) (pa_cons (pe_glob (v := .ref c6) (by rfl) T.m6 rfl) pa_nil)))
        pa_nil))))))
      (pss_cons (ps_set (i := 1) scCl.nd rfl (Or.inl rfl) (pe_op op_cat (pv 1) (pe_lst (pa_cons (pe_callB call_isX (by rfl) B.isi (by decide +kernel) (pa_cons (pv 0) (pa_cons (pe_glob (v := .ref c7) (by rfl) T.m7 rfl) pa_nil)))
        (pa_cons (pe_callB call_isX (by rfl) B.isi (by decide +kernel) (pa_cons (pv 0) (pa_cons (pe_glob (v := .ref c8) (by rfl) T.m8 rfl) pa_nil)))
        (pa_cons (pe_callB call_isX (by rfl) B.isi (by decide +kernel) (pa_cons (pv 0) (pa_cons (pe_glob (v := .ref c9) (by rfl) T.m9 rfl) pa_nil)))
        pa_nil))))))
      (pss_cons (ps_set (i := 1) scCl.nd rfl (Or.inl rfl) (pe_op op_cat (pv 1) (pe_lst (pa_cons (pe_callB call_isX (by rfl) B.isi (by decide +kernel) (pa_cons (pv 0) (pa_cons (pe_glob (v := .ref c10) (by rfl) T.m10 rfl) pa_nil)))
        (pa_cons (pe_callB call_isX (by rfl) B.isi (by decide +kernel) (pa_cons (pv 0) (pa_cons (pe_glob (v := .ref c11) (by rfl) T.m11 rfl) pa_nil)))
        (pa_cons (pe_callB call_isX (by rfl) B.isi (by decide +kernel) (pa_cons (pv 0) (pa_cons (pe_glob (v := .ref c12) (by rfl) T.m12 rfl) pa_nil)))
        pa_nil))))))
      (pss_cons (ps_set (i := 1) scCl.nd rfl (Or.inl rfl) (pe_op op_cat (pv 1) (pe_lst (pa_cons (pe_callB call_isX (by rfl) B.isi (by decide +kernel) (pa_cons (pv 0) (pa_cons (pe_glob (v := .ref c13) (by rfl) T.m13 rfl) pa_nil)))
        (pa_cons (pe_callB call_isX (by rfl) B.isi (by decide +kernel) (pa_cons (pv 0) (pa_cons (pe_glob (v := .ref c14) (by rfl) T.m14 rfl) pa_nil)))
        (pa_cons (pe_callB call_isX (by rfl) B.isi (by decide +kernel) (pa_cons (pv 0) (pa_cons (pe_glob (v := .ref c15) (by rfl) T.m15 rfl) pa_nil)))
        pa_nil))))))
      (pss_cons (ps_set (i := 1) scCl.nd rfl (Or.inl rfl) (pe_op op_cat (pv 1) (pe_lst (pa_cons (pe_callB call_isX (by rfl) B.isi (by decide +kernel) (pa_cons (pv 0) (pa_cons (pe_glob (v := .ref c16) (by rfl) T.m16 rfl) pa_nil)))
        (pa_cons (pe_callB call_isX (by rfl) B.isi (by decide +kernel) (pa_cons (pv 0) (pa_cons (pe_glob (v := .ref c17) (by rfl) T.m17 rfl) pa_nil)))
        (pa_cons (pe_callB call_isX (by rfl) B.isi (by decide +kernel) (pa_cons (pv 0) (pa_cons (pe_glob (v := .ref c18) (by rfl) T.m18 rfl) pa_nil)))
        pa_nil))))))
      (pss_one (ps_ret (pe_op op_cat (pv 1) (pe_lst (pa_cons (pe_callB call_isX (by rfl) B.isi (by decide +kernel) (pa_cons (pv 0) (pa_cons (pe_glob (v := .ref c19) (by rfl) T.m19 rfl) pa_nil)))
        pa_nil))))))))))), ?_⟩
    refine ⟨_, rfl, a, C, _, _, _, rfl, (ErrIs.same (Same.refl H) hE).at, X, .own _, kk_cls (j := 0) kk hi hC (by decide) rfl, ?_⟩
    refine ⟨_, rfl, a, C, _, _, _, rfl, (ErrIs.same (Same.refl H) hE).at, X, .own _, kk_cls (j := 1) kk hi hC (by decide) rfl, ?_⟩
    refine ⟨_, rfl, a, C, _, _, _, rfl, (ErrIs.same (Same.refl H) hE).at, X, .own _, kk_cls (j := 2) kk hi hC (by decide) rfl, ?_⟩
    refine ⟨_, rfl, a, C, _, _, _, rfl, (ErrIs.same (Same.refl H) hE).at, X, .own _, kk_cls (j := 3) kk hi hC (by decide) rfl, ?_⟩
    refine ⟨by show 4 ≤ sizeLine; decide, fun m0 n0 => ?_⟩
    have z0 := (Same.refl H).trans (same_upd (o := .lst [V.bl (decide (0 = i)), V.bl (decide (1 = i)), V.bl (decide (2 = i)), V.bl (decide (3 = i))]) n0)
    have l0 := upd_same (H := H) (a := m0) (o := .lst [V.bl (decide (0 = i)), V.bl (decide (1 = i)), V.bl (decide (2 = i)), V.bl (decide (3 = i))])
    refine ⟨_, rfl, _, rfl, a, C, _, _, _, rfl, (ErrIs.same z0 hE).at, X, .own _, kk_cls (j := 4) kk hi hC (by decide) rfl, ?_⟩
    refine ⟨_, rfl, a, C, _, _, _, rfl, (ErrIs.same z0 hE).at, X, .own _, kk_cls (j := 5) kk hi hC (by decide) rfl, ?_⟩
    refine ⟨_, rfl, a, C, _, _, _, rfl, (ErrIs.same z0 hE).at, X, .own _, kk_cls (j := 6) kk hi hC (by decide) rfl, ?_⟩
    refine ⟨by show 3 ≤ sizeLine; decide, fun m1 n1 => ?_⟩
    have y1 := z0.trans (same_upd (o := .lst [V.bl (decide (4 = i)), V.bl (decide (5 = i)), V.bl (decide (6 = i))]) n1)
    refine ⟨m0, m1, _, _, rfl, rfl, same_upd n1 _ _ l0, upd_same, by show 7 ≤ sizeLine; decide, fun p1 k1 => ?_⟩
    have z1 := y1.trans (same_upd (o := .lst [V.bl (decide (0 = i)), V.bl (decide (1 = i)), V.bl (decide (2 = i)), V.bl (decide (3 = i)), V.bl (decide (4 = i)), V.bl (decide (5 = i)), V.bl (decide (6 = i))]) k1)
    have l1 := upd_at (o := .lst [V.bl (decide (0 = i)), V.bl (decide (1 = i)), V.bl (decide (2 = i)), V.bl (decide (3 = i)), V.bl (decide (4 = i)), V.bl (decide (5 = i)), V.bl (decide (6 = i))]) k1
    refine ⟨_, rfl, _, rfl, a, C, _, _, _, rfl, (ErrIs.same z1 hE).at, X, .own _, kk_cls (j := 7) kk hi hC (by decide) rfl, ?_⟩
    refine ⟨_, rfl, a, C, _, _, _, rfl, (ErrIs.same z1 hE).at, X, .own _, kk_cls (j := 8) kk hi hC (by decide) rfl, ?_⟩
    refine ⟨_, rfl, a, C, _, _, _, rfl, (ErrIs.same z1 hE).at, X, .own _, kk_cls (j := 9) kk hi hC (by decide) rfl, ?_⟩
    refine ⟨by show 3 ≤ sizeLine; decide, fun m2 n2 => ?_⟩
    have y2 := z1.trans (same_upd (o := .lst [V.bl (decide (7 = i)), V.bl (decide (8 = i)), V.bl (decide (9 = i))]) n2)
    refine ⟨p1, m2, _, _, rfl, rfl, same_upd n2 _ _ l1, upd_same, by show 10 ≤ sizeLine; decide, fun p2 k2 => ?_⟩
    have z2 := y2.trans (same_upd (o := .lst [V.bl (decide (0 = i)), V.bl (decide (1 = i)), V.bl (decide (2 = i)), V.bl (decide (3 = i)), V.bl (decide (4 = i)), V.bl (decide (5 = i)), V.bl (decide (6 = i)), V.bl (decide (7 = i)), V.bl (decide (8 = i)), V.bl (decide (9 = i))]) k2)
    have l2 := upd_at (o := .lst [V.bl (decide (0 = i)), V.bl (decide (1 = i)), V.bl (decide (2 = i)), V.bl (decide (3 = i)), V.bl (decide (4 = i)), V.bl (decide (5 = i)), V.bl (decide (6 = i)), V.bl (decide (7 = i)), V.bl (decide (8 = i)), V.bl (decide (9 = i))]) k2
    refine ⟨_, rfl, _, rfl, a, C, _, _, _, rfl, (ErrIs.same z2 hE).at, X, .own _, kk_cls (j := 10) kk hi hC (by decide) rfl, ?_⟩
    refine ⟨_, rfl, a, C, _, _, _, rfl, (ErrIs.same z2 hE).at, X, .own _, kk_cls (j := 11) kk hi hC (by decide) rfl, ?_⟩
    refine ⟨_, rfl, a, C, _, _, _, rfl, (ErrIs.same z2 hE).at, X, .own _, kk_cls (j := 12) kk hi hC (by decide) rfl, ?_⟩
    refine ⟨by show 3 ≤ sizeLine; decide, fun m3 n3 => ?_⟩
    have y3 := z2.trans (same_upd (o := .lst [V.bl (decide (10 = i)), V.bl (decide (11 = i)), V.bl (decide (12 = i))]) n3)
    refine ⟨p2, m3, _, _, rfl, rfl, same_upd n3 _ _ l2, upd_same, by show 13 ≤ sizeLine; decide, fun p3 k3 => ?_⟩
    have z3 := y3.trans (same_upd (o := .lst [V.bl (decide (0 = i)), V.bl (decide (1 = i)), V.bl (decide (2 = i)), V.bl (decide (3 = i)), V.bl (decide (4 = i)), V.bl (decide (5 = i)), V.bl (decide (6 = i)), V.bl (decide (7 = i)), V.bl (decide (8 = i)), V.bl (decide (9 = i)), V.bl (decide (10 = i)), V.bl (decide (11 = i)), V.bl (decide (12 = i))]) k3)
    have l3 := upd_at (o := .lst [V.bl (decide (0 = i)), V.bl (decide (1 = i)), V.bl (decide (2 = i)), V.bl (decide (3 = i)), V.bl (decide (4 = i)), V.bl (decide (5 = i)), V.bl (decide (6 = i)), V.bl (decide (7 = i)), V.bl (decide (8 = i)), V.bl (decide (9 = i)), V.bl (decide (10 = i)), V.bl (decide (11 = i)), V.bl (decide (12 = i))]) k3
    refine ⟨_, rfl, _, rfl, a, C, _, _, _, rfl, (ErrIs.same z3 hE).at, X, .own _, kk_cls (j := 13) kk hi hC (by decide) rfl, ?_⟩
    refine ⟨_, rfl, a, C, _, _, _, rfl, (ErrIs.same z3 hE).at, X, .own _, kk_cls (j := 14) kk hi hC (by decide) rfl, ?_⟩
    refine ⟨_, rfl, a, C, _, _, _, rfl, (ErrIs.same z3 hE).at, X, .own _, kk_cls (j := 15) kk hi hC (by decide) rfl, ?_⟩
    refine ⟨by show 3 ≤ sizeLine; decide, fun m4 n4 => ?_⟩
    have y4 := z3.trans (same_upd (o := .lst [V.bl (decide (13 = i)), V.bl (decide (14 = i)), V.bl (decide (15 = i))]) n4)
    refine ⟨p3, m4, _, _, rfl, rfl, same_upd n4 _ _ l3, upd_same, by show 16 ≤ sizeLine; decide, fun p4 k4 => ?_⟩
    have z4 := y4.trans (same_upd (o := .lst [V.bl (decide (0 = i)), V.bl (decide (1 = i)), V.bl (decide (2 = i)), V.bl (decide (3 = i)), V.bl (decide (4 = i)), V.bl (decide (5 = i)), V.bl (decide (6 = i)), V.bl (decide (7 = i)), V.bl (decide (8 = i)), V.bl (decide (9 = i)), V.bl (decide (10 = i)), V.bl (decide (11 = i)), V.bl (decide (12 = i)), V.bl (decide (13 = i)), V.bl (decide (14 = i)), V.bl (decide (15 = i))]) k4)
    have l4 := upd_at (o := .lst [V.bl (decide (0 = i)), V.bl (decide (1 = i)), V.bl (decide (2 = i)), V.bl (decide (3 = i)), V.bl (decide (4 = i)), V.bl (decide (5 = i)), V.bl (decide (6 = i)), V.bl (decide (7 = i)), V.bl (decide (8 = i)), V.bl (decide (9 = i)), V.bl (decide (10 = i)), V.bl (decide (11 = i)), V.bl (decide (12 = i)), V.bl (decide (13 = i)), V.bl (decide (14 = i)), V.bl (decide (15 = i))]) k4
    refine ⟨_, rfl, _, rfl, a, C, _, _, _, rfl, (ErrIs.same z4 hE).at, X, .own _, kk_cls (j := 16) kk hi hC (by decide) rfl, ?_⟩
    refine ⟨_, rfl, a, C, _, _, _, rfl, (ErrIs.same z4 hE).at, X, .own _, kk_cls (j := 17) kk hi hC (by decide) rfl, ?_⟩
    refine ⟨_, rfl, a, C, _, _, _, rfl, (ErrIs.same z4 hE).at, X, .own _, kk_cls (j := 18) kk hi hC (by decide) rfl, ?_⟩
    refine ⟨by show 3 ≤ sizeLine; decide, fun m5 n5 => ?_⟩
    have y5 := z4.trans (same_upd (o := .lst [V.bl (decide (16 = i)), V.bl (decide (17 = i)), V.bl (decide (18 = i))]) n5)
    refine ⟨p4, m5, _, _, rfl, rfl, same_upd n5 _ _ l4, upd_same, by show 19 ≤ sizeLine; decide, fun p5 k5 => ?_⟩
    have z5 := y5.trans (same_upd (o := .lst [V.bl (decide (0 = i)), V.bl (decide (1 = i)), V.bl (decide (2 = i)), V.bl (decide (3 = i)), V.bl (decide (4 = i)), V.bl (decide (5 = i)), V.bl (decide (6 = i)), V.bl (decide (7 = i)), V.bl (decide (8 = i)), V.bl (decide (9 = i)), V.bl (decide (10 = i)), V.bl (decide (11 = i)), V.bl (decide (12 = i)), V.bl (decide (13 = i)), V.bl (decide (14 = i)), V.bl (decide (15 = i)), V.bl (decide (16 = i)), V.bl (decide (17 = i)), V.bl (decide (18 = i))]) k5)
    have l5 := upd_at (o := .lst [V.bl (decide (0 = i)), V.bl (decide (1 = i)), V.bl (decide (2 = i)), V.bl (decide (3 = i)), V.bl (decide (4 = i)), V.bl (decide (5 = i)), V.bl (decide (6 = i)), V.bl (decide (7 = i)), V.bl (decide (8 = i)), V.bl (decide (9 = i)), V.bl (decide (10 = i)), V.bl (decide (11 = i)), V.bl (decide (12 = i)), V.bl (decide (13 = i)), V.bl (decide (14 = i)), V.bl (decide (15 = i)), V.bl (decide (16 = i)), V.bl (decide (17 = i)), V.bl (decide (18 = i))]) k5
    refine ⟨_, rfl, _, rfl, a, C, _, _, _, rfl, (ErrIs.same z5 hE).at, X, .own _, kk_cls (j := 19) kk hi hC (by decide) rfl, ?_⟩
    refine ⟨by show 1 ≤ sizeLine; decide, fun m6 n6 => ?_⟩
    have y6 := z5.trans (same_upd (o := .lst [V.bl (decide (19 = i))]) n6)
    refine ⟨p5, m6, _, _, rfl, rfl, same_upd n6 _ _ l5, upd_same, by show 20 ≤ sizeLine; decide, fun p6 k6 => ?_⟩
    have z6 := y6.trans (same_upd (o := .lst [V.bl (decide (0 = i)), V.bl (decide (1 = i)), V.bl (decide (2 = i)), V.bl (decide (3 = i)), V.bl (decide (4 = i)), V.bl (decide (5 = i)), V.bl (decide (6 = i)), V.bl (decide (7 = i)), V.bl (decide (8 = i)), V.bl (decide (9 = i)), V.bl (decide (10 = i)), V.bl (decide (11 = i)), V.bl (decide (12 = i)), V.bl (decide (13 = i)), V.bl (decide (14 = i)), V.bl (decide (15 = i)), V.bl (decide (16 = i)), V.bl (decide (17 = i)), V.bl (decide (18 = i)), V.bl (decide (19 = i))]) k6)
    have l6 := upd_at (o := .lst [V.bl (decide (0 = i)), V.bl (decide (1 = i)), V.bl (decide (2 = i)), V.bl (decide (3 = i)), V.bl (decide (4 = i)), V.bl (decide (5 = i)), V.bl (decide (6 = i)), V.bl (decide (7 = i)), V.bl (decide (8 = i)), V.bl (decide (9 = i)), V.bl (decide (10 = i)), V.bl (decide (11 = i)), V.bl (decide (12 = i)), V.bl (decide (13 = i)), V.bl (decide (14 = i)), V.bl (decide (15 = i)), V.bl (decide (16 = i)), V.bl (decide (17 = i)), V.bl (decide (18 = i)), V.bl (decide (19 = i))]) k6
    exact q p6 _ z6 l6
theorem scUn : FnScope ["_law_one", "_law_some"] ["_law_one"] (defScope sUnder) :=
  ⟨rfl, rfl, rfl, by decide +kernel, rfl, by decide +kernel, by decide +kernel⟩
theorem ok_under {f : Addr} {fd : FuncData} (F : Fun K "_law_kinds_under" "_law_kinds_under" sUnder f fd) (B : TxtB mg cG)
    (kk : kkB K [c0, c1, c2, c3, c4, c5, c6, c7, c8, c9, c10, c11, c12, c13, c14, c15, c16, c17, c18, c19] (kinds cG) = true) : FnOk P w K mg base CX0 1 f fd ["_law_one"] (spUnder [c0, c1, c2, c3, c4, c5, c6, c7, c8, c9, c10, c11, c12, c13, c14, c15, c16, c17, c18, c19]) := by
  refine F.ok scUn (fun vs H Q E h => ?_) (fun cdv A outer s H vs Q E hr h => ?_)
  · obtain ⟨a, C, i, v, rfl, _⟩ := h
    rfl
  · obtain ⟨a, C, i, v, rfl, hi, hC, hE, q⟩ := h
    have X := (exB_ok (kk_ex kk hi hC)).1
    refine ⟨_, (pss_cons (ps_set (i := 1) scUn.nd rfl (Or.inl rfl) (pe_lst (pa_cons (pe_callB call_isX (by rfl) B.isi (by decide +kernel) (pa_cons (pv 0) (pa_cons (pe_glob (v := .ref cG) (by rfl) B.ge rfl) pa_nil)))
        (pa_cons (pe_callB call_isX (by rfl) B.isi (by decide +kernel) (pa_cons (pv 0) (pa_cons (pe_bltn (v := .ty "ValueError") (by rfl) B.ve (by decide +kernel) rfl) pa_nil)))
        (pa_cons (pe_callB call_isX (by rfl) B.isi (by decide +kernel) (pa_cons (pv 0) (pa_cons (pe_bltn (v := .ty "KeyError") (by rfl) B.ke (by decide +kernel) rfl) pa_nil)))
        pa_nil)))))
      (pss_cons (ps_set (i := 1) scUn.nd rfl (Or.inl rfl) (pe_op op_cat (pv 1) (pe_lst (pa_cons (pe_callB call_isX (by rfl) B.isi (by decide +kernel) (pa_cons (pv 0) (pa_cons (pe_bltn (v := .ty "IndexError") (by rfl) B.ie (by decide +kernel) rfl) pa_nil)))
        (pa_cons (pe_callB call_isX (by rfl) B.isi (by decide +kernel) (pa_cons (pv 0) (pa_cons (pe_bltn (v := .ty "LookupError") (by rfl) B.le (by decide +kernel) rfl) pa_nil)))
        (pa_cons (pe_callB call_isX (by rfl) B.isi (by decide +kernel) (pa_cons (pv 0) (pa_cons (pe_bltn (v := .ty "OverflowError") (by rfl) B.oe (by decide +kernel) rfl) pa_nil)))
        pa_nil))))))
      (pss_one (ps_ret (pe_op op_cat (pv 1) (pe_lst (pa_cons (pe_callB call_isX (by rfl) B.isi (by decide +kernel) (pa_cons (pv 0) (pa_cons (pe_bltn (v := .ty "RuntimeError") (by rfl) B.re (by decide +kernel) rfl) pa_nil)))
        pa_nil))))))), ?_⟩
    refine ⟨_, rfl, a, C, _, _, _, rfl, (ErrIs.same (Same.refl H) hE).at, X, .own _, kk_kind (j := 0) kk hi hC (by decide) rfl, ?_⟩
    refine ⟨_, rfl, a, C, _, _, _, rfl, (ErrIs.same (Same.refl H) hE).at, X, .ty _, kk_kind (j := 1) kk hi hC (by decide) rfl, ?_⟩
    refine ⟨_, rfl, a, C, _, _, _, rfl, (ErrIs.same (Same.refl H) hE).at, X, .ty _, kk_kind (j := 2) kk hi hC (by decide) rfl, ?_⟩
    refine ⟨by show 3 ≤ sizeLine; decide, fun m0 n0 => ?_⟩
    have z0 := (Same.refl H).trans (same_upd (o := .lst [V.bl (dueB i 0), V.bl (dueB i 1), V.bl (dueB i 2)]) n0)
    have l0 := upd_same (H := H) (a := m0) (o := .lst [V.bl (dueB i 0), V.bl (dueB i 1), V.bl (dueB i 2)])
    refine ⟨_, rfl, _, rfl, a, C, _, _, _, rfl, (ErrIs.same z0 hE).at, X, .ty _, kk_kind (j := 3) kk hi hC (by decide) rfl, ?_⟩
    refine ⟨_, rfl, a, C, _, _, _, rfl, (ErrIs.same z0 hE).at, X, .ty _, kk_kind (j := 4) kk hi hC (by decide) rfl, ?_⟩
    refine ⟨_, rfl, a, C, _, _, _, rfl, (ErrIs.same z0 hE).at, X, .ty _, kk_kind (j := 5) kk hi hC (by decide) rfl, ?_⟩
    refine ⟨by show 3 ≤ sizeLine; decide, fun m1 n1 => ?_⟩
    have y1 := z0.trans (same_upd (o := .lst [V.bl (dueB i 3), V.bl (dueB i 4), V.bl (dueB i 5)]) n1)
    refine ⟨m0, m1, _, _, rfl, rfl, same_upd n1 _ _ l0, upd_same, by show 6 ≤ sizeLine; decide, fun p1 k1 => ?_⟩
    have z1 := y1.trans (same_upd (o := .lst [V.bl (dueB i 0), V.bl (dueB i 1), V.bl (dueB i 2), V.bl (dueB i 3), V.bl (dueB i 4), V.bl (dueB i 5)]) k1)
    have l1 := upd_at (o := .lst [V.bl (dueB i 0), V.bl (dueB i 1), V.bl (dueB i 2), V.bl (dueB i 3), V.bl (dueB i 4), V.bl (dueB i 5)]) k1
    refine ⟨_, rfl, _, rfl, a, C, _, _, _, rfl, (ErrIs.same z1 hE).at, X, .ty _, kk_kind (j := 6) kk hi hC (by decide) rfl, ?_⟩
    refine ⟨by show 1 ≤ sizeLine; decide, fun m2 n2 => ?_⟩
    have y2 := z1.trans (same_upd (o := .lst [V.bl (dueB i 6)]) n2)
    refine ⟨p1, m2, _, _, rfl, rfl, same_upd n2 _ _ l1, upd_same, by show 7 ≤ sizeLine; decide, fun p2 k2 => ?_⟩
    have z2 := y2.trans (same_upd (o := .lst [V.bl (dueB i 0), V.bl (dueB i 1), V.bl (dueB i 2), V.bl (dueB i 3), V.bl (dueB i 4), V.bl (dueB i 5), V.bl (dueB i 6)]) k2)
    have l2 := upd_at (o := .lst [V.bl (dueB i 0), V.bl (dueB i 1), V.bl (dueB i 2), V.bl (dueB i 3), V.bl (dueB i 4), V.bl (dueB i 5), V.bl (dueB i 6)]) k2
    exact q p2 _ z2 l2
theorem scBo : FnScope ["_law_number", "_law_one"] ["_law_number", "_law_one"] (defScope sBorne) :=
  ⟨rfl, rfl, rfl, by decide +kernel, rfl, by decide +kernel, by decide +kernel⟩
theorem ok_borne {f : Addr} {fd : FuncData} (F : Fun K "_law_borne" "_law_borne" sBorne f fd) (T : ErrT K mg c0 c1 c2 c3 c4 c5 c6 c7 c8 c9 c10 c11 c12 c13 c14 c15 c16 c17 c18 c19)
    (kk : kkB K [c0, c1, c2, c3, c4, c5, c6, c7, c8, c9, c10, c11, c12, c13, c14, c15, c16, c17, c18, c19] (kinds cG) = true) : FnOk P w K mg base CX0 1 f fd ["_law_number", "_law_one"] (spBorne [c0, c1, c2, c3, c4, c5, c6, c7, c8, c9, c10, c11, c12, c13, c14, c15, c16, c17, c18, c19]) := by
  refine F.ok scBo (fun vs H Q E h => ?_) (fun cdv A outer s H vs Q E hr h => ?_)
  · obtain ⟨a, C, i, v, rfl, _⟩ := h
    rfl
  · obtain ⟨a, C, i, v, rfl, h15, hi, hC, hE, q⟩ := h
    have X := (exB_ok (kk_ex kk hi hC)).2
    rcases hE with ⟨l, _⟩ | ⟨_, d, h1, h2⟩
    · omega
    refine ⟨_, pss_cons (ps_if (pt_cmpR op_eq (pv 0) pe_int (nomark _)) (pss_one (ps_ret (pe_fget (pv 1)))) pss_nil)
      (pss_cons (ps_if (pt_cmpR op_eq (pv 0) pe_int (nomark _)) (pss_one (ps_ret (pe_fget (pv 1)))) pss_nil)
      (pss_cons (ps_if (pt_cmpR op_eq (pv 0) pe_int (nomark _)) (pss_one (ps_ret (pe_fget (pv 1)))) pss_nil)
      (pss_one (ps_ret (pe_ifExp (pt_cmpR op_eq (pv 0) pe_int (nomark _)) (pe_fget (pv 1)) (pe_fget (pv 1))))))), ?_⟩
    refine ⟨_, rfl, rfl, _, rfl, ?_⟩
    refine ite2 (fun h15 => ?_) (fun h15 => ?_)
    · have e15 : i = 15 := by
        have z := of_decide_eq_true h15
        injection z with z
        omega
      subst e15
      cases (show c15 = C from Option.some.inj hC)
      exact ⟨_, rfl, a, _, d, _, v, rfl, X, T.n15, h1, h2, rfl, q⟩
    have e15 : i ≠ 15 := fun z => h15 (by rw [z]; exact decide_eq_true rfl)
    refine ⟨_, rfl, rfl, _, rfl, ?_⟩
    refine ite2 (fun h16 => ?_) (fun h16 => ?_)
    · have e16 : i = 16 := by
        have z := of_decide_eq_true h16
        injection z with z
        omega
      subst e16
      cases (show c16 = C from Option.some.inj hC)
      exact ⟨_, rfl, a, _, d, _, v, rfl, X, T.n16, h1, h2, rfl, q⟩
    have e16 : i ≠ 16 := fun z => h16 (by rw [z]; exact decide_eq_true rfl)
    refine ⟨_, rfl, rfl, _, rfl, ?_⟩
    refine ite2 (fun h17 => ?_) (fun h17 => ?_)
    · have e17 : i = 17 := by
        have z := of_decide_eq_true h17
        injection z with z
        omega
      subst e17
      cases (show c17 = C from Option.some.inj hC)
      exact ⟨_, rfl, a, _, d, _, v, rfl, X, T.n17, h1, h2, rfl, q⟩
    have e17 : i ≠ 17 := fun z => h17 (by rw [z]; exact decide_eq_true rfl)
    refine ⟨_, rfl, rfl, _, rfl, ?_⟩
    refine ite2 (fun h18 => ?_) (fun h18 => ?_)
    · have e18 : i = 18 := by
        have z := of_decide_eq_true h18
        injection z with z
        omega
      subst e18
      cases (show c18 = C from Option.some.inj hC)
      exact ⟨_, rfl, a, _, d, _, v, rfl, X, T.n18, h1, h2, rfl, q⟩
    · have e18 : i ≠ 18 := fun z => h18 (by rw [z]; exact decide_eq_true rfl)
      have e19 : i = 19 := by omega
      subst e19
      cases (show c19 = C from Option.some.inj hC)
      exact ⟨_, rfl, a, _, d, _, v, rfl, X, T.n19, h1, h2, rfl, q⟩
end
end K1

set_option Elab.async false
set_option linter.all false
set_option maxRecDepth 100000
set_option maxHeartbeats 4000000
namespace K1
open PySem L2 Gx
section
variable {P : Program} {w : World} {K : PySem.W.Frag} {mg : Str → Option Value} {base : Heap} {cG : Addr}
theorem scDu : FnScope ["_law_number", "_law_at", "_law_k"] ["_law_number"] (defScope sDue) :=
  ⟨rfl, rfl, rfl, by decide +kernel, rfl, by decide +kernel, by decide +kernel⟩
theorem ok_due {f : Addr} {fd : FuncData} (F : Fun K "_law_due_kinds" "_law_due_kinds" sDue f fd) (B : TxtB mg cG) :
    FnOk P w K mg base CX0 1 f fd ["_law_number"] spDue := by
  refine F.ok scDu (fun vs H Q E h => ?_) (fun cdv A outer s H vs Q E hr h => ?_)
  · obtain ⟨i, rfl, _⟩ := h
    rfl
  · obtain ⟨i, rfl, hi, q⟩ := h
    refine ⟨_, pss_cons (ps_if (pt_cmpR op_lt (pv 0) pe_int (nomark _)) (pss_one (ps_ret (pe_lst (pa_cons pe_bl (pa_cons pe_bl (pa_cons pe_bl (pa_cons pe_bl (pa_cons pe_bl (pa_cons pe_bl (pa_cons pe_bl pa_nil)))))))))) pss_nil)
      (pss_cons (ps_set (i := 1) scDu.nd rfl (Or.inr rfl) (pe_ix ix_list (pe_lst (pa_cons (pe_lst (pa_cons pe_int (pa_cons pe_int pa_nil))) (pa_cons (pe_lst (pa_cons pe_int (pa_cons pe_int pa_nil)))
        (pa_cons (pe_lst (pa_cons pe_int pa_nil)) (pa_cons (pe_lst (pa_cons pe_int pa_nil)) pa_nil))))) (pe_op op_sub (pv 0) pe_int) (fun _ _ => rfl)))
      (pss_one (ps_ret (pe_lc (own := [("_law_k", 2)]) (g := gName 2) (tt := tYes) rfl scDu.nd (pi_range1 (by rfl) B.range (pa_cons pe_int pa_nil))
        (blkOk_by (own := [("_law_k", 2)]) (N := ["_law_number", "_law_at", "_law_k"]) (sc := defScope sDue) (by decide +kernel))
        (fun _ _ _ _ _ => pg_name (i := 2) scDu.nd rfl (Or.inl rfl)) (fun _ _ _ _ _ => pts_nil)
        (fun _ _ _ _ _ => pe_cmpR (r := rIn K false) op_in_seq (pv 2) (pv 1) (by rfl)))))), ?_⟩
    refine ⟨_, rfl, _, _, rfl, rfl, _, rfl, ?_⟩
    refine ite2 (fun h16 => ?_) (fun h16 => ?_)
    · have h16' : (i : Int) < 16 := of_decide_eq_true h16
      refine ⟨by show 7 ≤ sizeLine; decide, fun L nL => q L _ (same_upd nL) ?_⟩
      rw [upd_same]
      have e : ∀ j, dueB i j = decide (j < 2) := fun j => by
        unfold dueB
        rw [if_pos (by omega)]
      simp only [e]
      rfl
    have h16' : ¬ (i : Int) < 16 := fun z => h16 (decide_eq_true z)
    refine ⟨by show 2 ≤ sizeLine; decide, fun a0 n0 => ⟨by show 2 ≤ sizeLine; decide, fun a1 n1 => ⟨by show 1 ≤ sizeLine; decide, fun a2 n2 => ⟨by show 1 ≤ sizeLine; decide, fun a3 n3 => ?_⟩⟩⟩⟩
    refine ⟨by show 4 ≤ sizeLine; decide, fun L nL => ?_⟩
    have z0 := same_upd (o := .lst [.int 2, .int 4]) n0
    have z1 := same_upd (o := .lst [.int 3, .int 4]) n1
    have z2 := same_upd (o := .lst [.int 5]) n2
    have z3 := same_upd (o := .lst [.int 6]) n3
    have z4 := same_upd (o := .lst [.ref a0, .ref a1, .ref a2, .ref a3]) nL
    have zz := (((z0.trans z1).trans z2).trans z3).trans z4
    have g0 := z4 _ _ (z3 _ _ (z2 _ _ (z1 _ _ (upd_at (o := .lst [.int 2, .int 4]) n0))))
    have g1 := z4 _ _ (z3 _ _ (z2 _ _ (upd_at (o := .lst [.int 3, .int 4]) n1)))
    have g2 := z4 _ _ (z3 _ _ (upd_at (o := .lst [.int 5]) n2))
    have g3 := z4 _ _ (upd_at (o := .lst [.int 6]) n3)
    have pick : ∃ (b : Addr) (ns : List Int), atI [V.ref a0, .ref a1, .ref a2, .ref a3] ((i : Int) - 16) = some (.ref b) ∧
        (upd (upd (upd (upd (upd H a0 (.lst [.int 2, .int 4])) a1 (.lst [.int 3, .int 4])) a2 (.lst [.int 5])) a3 (.lst [.int 6])) L (.lst [.ref a0, .ref a1, .ref a2, .ref a3])) b = some (.lst (ns.map V.int)) ∧
        ∀ j : Nat, j < 7 → inV (.int j) (ns.map V.int) = dueB i j := by
      rcases (show i = 16 ∨ i = 17 ∨ i = 18 ∨ i = 19 by omega) with rfl | rfl | rfl | rfl
      · exact ⟨a0, [2, 4], rfl, g0, by decide +kernel⟩
      · exact ⟨a1, [3, 4], rfl, g1, by decide +kernel⟩
      · exact ⟨a2, [5], rfl, g2, by decide +kernel⟩
      · exact ⟨a3, [6], rfl, g3, by decide +kernel⟩
    obtain ⟨b, ns, e1, e2, e3⟩ := pick
    refine ⟨_, rfl, _, _, rfl, rfl, L, _, _, .ref b, rfl, rfl, SqL.of upd_same, e1, ?_⟩
    refine ⟨7, rfl, by decide, by decide, fun D nD => ?_⟩
    generalize hG : (upd (upd (upd (upd (upd H a0 (.lst [.int 2, .int 4])) a1 (.lst [.int 3, .int 4])) a2 (.lst [.int 5])) a3 (.lst [.int 6])) L (.lst [.ref a0, .ref a1, .ref a2, .ref a3])) = G at e2 nD zz ⊢
    have fl : (ns.map V.int).all flatV = true := by
      rw [List.all_map]
      exact List.all_eq_true.mpr fun _ _ => rfl
    refine lc_range (lo := 0) (n := 7) (fun j Hx => Hx = upd G D (.lst ((List.range j).map fun t => V.bl (dueB i t)))) rfl (fun j Hx hj hx => ?_) (fun Hx hx => ?_)
    · subst hx
      refine ⟨rfl, ?_⟩
      unfold tYes
      refine iteT ?_
      refine ⟨_, rfl, _, rfl, b, _, rfl, .inl (SqL.of (by rw [upd_ne (ne_of_none e2 nD)]; exact e2)), rfl, fl, _, upd_same, ?_, ?_⟩
      · rw [List.length_map, List.length_range]
        exact small1000 (by omega)
      · rw [upd_upd, List.range_succ, List.map_append]
        have z : (V.int (0 + (j : Int))) = V.int j := by rw [Int.zero_add]
        show upd G D (.lst (_ ++ [V.bl (inV (V.int (0 + (j : Int))) (ns.map V.int))])) = _
        rw [z, e3 j hj]
        rfl
    · subst hx
      exact q D _ (zz.trans (same_upd nD)) upd_same
end
abbrev sLaw : Stmt := topS 31
theorem dpB {K : PySem.W.Frag} {H : Hp} {α : Type} (f : α → Bool) : ∀ l : List α, DpAll K H (l.map fun j => V.bl (f j)) (l.map fun j => PyData.bool (f j))
  | [] => .nil
  | _ :: l => .cons (.bl _) (dpB f l)
def spLaw (K : PySem.W.Frag) : Sp := fun vs H Q _ => ∃ (a : Addr) (ns : List Int), vs = [.ref a] ∧ SqL K H a (ns.map V.int) ∧ ns.length ≤ 63 ∧ ∀ H', Q (.bl true) H'
/-- the further built-in names of the law -/
structure TxtL (mg : Str → Option Value) : Prop where
  max : mg "max" = none
  min : mg "min" = none
  repr : mg "repr" = none
theorem scLaw : FnScope ["_law_script", "_law_k", "_law_pot_here", "_law_first", "_law_number", "_law_thing_here", "_law_one", "_law_other"] ["_law_script"] (defScope sLaw) :=
  ⟨rfl, rfl, rfl, by decide +kernel, rfl, by decide +kernel, by decide +kernel⟩
section
variable {P : Program} {w : World} {K : PySem.W.Frag} {mg : Str → Option Value} {base : Heap} {cG : Addr} {cs : List Addr}
theorem ok_law {f fP fT fH fE fC fU fD fB : Addr} {fd fdP fdT fdH fdE fdC fdU fdD fdB : FuncData} (F : Fun K "law" "law" sLaw f fd) (T : Txt mg) (B : TxtB mg cG) (L : TxtL mg) (hcs : cs.length = 20)
    (GP : FnOk P w K mg base CX0 1 fP fdP ["_law_script", "_law_k"] (spPot K)) (bP : Binds K fdP ["_law_script", "_law_k"] []) (mP : mg "_law_pot" = some (.ref fP)) (kP : PySem.W.keepIn K (.ref fP) = true)
    (GT : FnOk P w K mg base CX0 1 fT fdT ["_law_pot_here", "_law_many"] spTake) (bT : Binds K fdT ["_law_pot_here", "_law_many"] []) (mT : mg "_law_take" = some (.ref fT)) (kT : PySem.W.keepIn K (.ref fT) = true)
    (GH : FnOk P w K mg base CX0 2 fH fdH ["_law_pot_here", "_law_number"] (spThing K)) (bH : Binds K fdH ["_law_pot_here", "_law_number"] []) (mH : mg "_law_thing" = some (.ref fH)) (kH : PySem.W.keepIn K (.ref fH) = true)
    (GE : FnOk P w K mg base CX0 3 fE fdE ["_law_number", "_law_thing_here"] (spError cs)) (bE : Binds K fdE ["_law_number", "_law_thing_here"] []) (mE : mg "_law_error" = some (.ref fE)) (kE : PySem.W.keepIn K (.ref fE) = true)
    (GC : FnOk P w K mg base CX0 1 fC fdC ["_law_one"] (spClasses cs)) (bC : Binds K fdC ["_law_one"] []) (mC : mg "_law_classes" = some (.ref fC)) (kC : PySem.W.keepIn K (.ref fC) = true)
    (GU : FnOk P w K mg base CX0 1 fU fdU ["_law_one"] (spUnder cs)) (bU : Binds K fdU ["_law_one"] []) (mU : mg "_law_kinds_under" = some (.ref fU)) (kU : PySem.W.keepIn K (.ref fU) = true)
    (GD : FnOk P w K mg base CX0 1 fD fdD ["_law_number"] spDue) (bD : Binds K fdD ["_law_number"] []) (mD : mg "_law_due_kinds" = some (.ref fD)) (kD : PySem.W.keepIn K (.ref fD) = true)
    (GB : FnOk P w K mg base CX0 1 fB fdB ["_law_number", "_law_one"] (spBorne cs)) (bB : Binds K fdB ["_law_number", "_law_one"] []) (mB : mg "_law_borne" = some (.ref fB)) (kB : PySem.W.keepIn K (.ref fB) = true) :
    FnG P w K mg base CX0 4 f fd ["_law_script"] (spLaw K) := by
  refine okG F scLaw (fun vs H Q E h => ?_) (fun cdv A outer s H vs Q E hgd hr h => ?_)
  · obtain ⟨a, ns, rfl, _⟩ := h
    rfl
  · obtain ⟨a, ns, rfl, hS, hl, q⟩ := h
    have hr1 : Room 1 _ := hr.mono (by decide)
    have hr2 : Room 2 _ := hr.mono (by decide)
    refine ⟨_, pss_cons (ps_for PassesOwn.never rfl (pi_range1 (by rfl) B.range (pa_cons (pe_callB (call_max2 rfl) (by rfl) L.max (by decide +kernel) (pa_cons pe_int
        (pa_cons (pe_callB (call_min2 rfl) (by rfl) L.min (by decide +kernel) (pa_cons pe_int (pa_cons (pe_callB call_len_seq (by rfl) T.len PySem.boot_len (pa_cons (pv 0) pa_nil)) pa_nil))) pa_nil))) pa_nil))
        (pg_name (i := 1) scLaw.nd rfl (Or.inl rfl))
        (pss_cons (ps_set (i := 2) scLaw.nd rfl (Or.inl rfl) (pe_call GP hr1 (by rfl) mP kP bP .nil pass0 (pa_cons (pv 0) (pa_cons (pv 1) pa_nil))))
        (pss_cons (ps_set (i := 3) scLaw.nd rfl (Or.inl rfl) (pe_call GT hr1 (by rfl) mT kT bT .nil pass0 (pa_cons (pv 2) (pa_cons pe_int pa_nil))))
        (pss_one (ps_for PassesOwn.never rfl (pi_list (pe_lst (pa_cons (pv 3) (pa_cons (pe_op op_mod (pv 1) pe_int) pa_nil)))) (pg_name (i := 4) scLaw.nd rfl (Or.inr rfl))
          (pss_cons (ps_set (i := 5) scLaw.nd rfl (Or.inl rfl) (pe_call GH hr2 (by rfl) mH kH bH .nil pass0 (pa_cons (pv 2) (pa_cons (pv 4) pa_nil))))
          (pss_cons (ps_set (i := 6) scLaw.nd rfl (Or.inl rfl) (pe_call GE hr (by rfl) mE kE bE .nil pass0 (pa_cons (pv 4) (pa_cons (pv 5) pa_nil))))
          (pss_cons (ps_if (pt_cmpR (op_neD hr.units) (pe_call GC hr1 (by rfl) mC kC bC .nil pass0 (pa_cons (pv 6) pa_nil))
              (pe_lc (own := [("_law_other", 7)]) (g := gName 7) (tt := tYes) rfl scLaw.nd (pi_range1 (by rfl) B.range (pa_cons pe_int pa_nil))
                (blkOk_by (own := [("_law_other", 7)]) (N := ["_law_script", "_law_k", "_law_pot_here", "_law_first", "_law_number", "_law_thing_here", "_law_one", "_law_other"]) (sc := defScope sLaw) (by decide +kernel))
                (fun _ _ _ _ _ => pg_name (i := 7) scLaw.nd rfl (Or.inl rfl)) (fun _ _ _ _ _ => pts_nil) (fun _ _ _ _ _ => pe_cmpR op_eq (pv 7) (pv 4) (nomark _))) (nomark _))
            (pss_one (ps_ret pe_bl)) pss_nil)
          (pss_cons (ps_if (pt_cmpR (op_neD hr.units) (pe_call GU hr1 (by rfl) mU kU bU .nil pass0 (pa_cons (pv 6) pa_nil)) (pe_call GD hr1 (by rfl) mD kD bD .nil pass0 (pa_cons (pv 4) pa_nil)) (nomark _))
            (pss_one (ps_ret pe_bl)) pss_nil)
          (pss_one (ps_if (PW.pt (pw_and (pt_cmpR op_gt (pv 4) pe_int (nomark _)) (pw_and1 (pt_cmpR op_ne
              (pe_callB (call_show hgd hr) (by rfl) L.repr (by decide +kernel) (pa_cons (pe_call GB hr1 (by rfl) mB kB bB .nil pass0 (pa_cons (pv 4) (pa_cons (pv 6) pa_nil))) pa_nil))
              (pe_callB (call_show hgd hr) (by rfl) L.repr (by decide +kernel) (pa_cons (pv 5) pa_nil)) (nomark _)))))
            (pss_one (ps_ret pe_bl)) pss_nil)))))))))))
      (pss_one (ps_ret pe_bl)), ?_⟩
    refine ⟨_, rfl, a, _, rfl, .inl hS, _, _, rfl, _, _, rfl, _, rfl, ?_, ?_, ?_⟩
    · split <;> split <;> omega
    · rw [List.length_map]
      split <;> split <;> omega
    have turns : ((if (if ((ns.map V.int).length : Int) < 20 then ((ns.map V.int).length : Int) else 20) > 1 then (if ((ns.map V.int).length : Int) < 20 then ((ns.map V.int).length : Int) else 20) else 1) : Int).toNat ≤ 20 := by
      split <;> split <;> omega
    refine for_range (lo := 0) (fun i σ H2 => ∃ v1 v2 v3 v4 v5 v6 v7 : Option V, σ = [some (.ref a), v1, v2, v3, v4, v5, v6, v7] ∧ Same H H2)
      ⟨_, _, _, _, _, _, _, rfl, Same.refl H⟩ ?_ (fun σ H2 _ => q H2)
    rintro i σ H2 hi ⟨v1, v2, v3, v4, v5, v6, v7, rfl, s2⟩
    have hi20 : i < 20 := Nat.lt_of_lt_of_le hi turns
    rw [Int.zero_add]
    refine ⟨_, rfl, _, rfl, a, ns, i, rfl, s2.seq hS, by omega, by omega, fun p H3 np s3 hp3 => ?_⟩
    have npH : H p = none := s2.free np
    have ne0 : ∀ {b : Addr} {o : HO}, H b = some o → b ≠ p := fun e => ne_of_none e npH
    refine ⟨_, rfl, p, 0, 20, rfl, hp3, by decide, by decide, by decide, fun r H4 r0 r1 hp4 k4 _ => ?_⟩
    have s4 : Same H H4 := fun b o e => k4 b o (s3 b o (s2 b o e)) (ne0 e)
    -- for number in [first, k % 20]
    refine ⟨_, rfl, _, rfl, _, _, rfl, rfl, (by show (0 : Int) < 20; decide), by show 2 ≤ sizeLine; decide, fun M nM => ?_⟩
    have hpM : p ≠ M := fun z => by
      obtain ⟨_, _, _, e, _⟩ := hp4
      exact ne_of_none e nM z
    refine ⟨M, rfl, ⟨_, SqL.of upd_same⟩, ?_⟩
    obtain ⟨r', rfl⟩ := Int.eq_ofNat_of_zero_le r0
    have s5 : Same H _ := s4.trans (same_upd (o := .lst [.int (r' : Int), .int ((i : Int) % 20)]) nM)
    refine for_list (K := K) (a := M) (xs := [.int (r' : Int), .int ((i : Int) % 20)]) (fun t σ H6 => ∃ v4 v5 v6 v7 : Option V,
        σ = [some (.ref a), some (.int i), some (.ref p), some (.int (r' : Int)), v4, v5, v6, v7] ∧ Same H H6 ∧ PotAt H6 p (1 + t) ∧ H6 M = some (.lst [.int (r' : Int), .int ((i : Int) % 20)]))
      ⟨_, _, _, _, rfl, s5, ?_, upd_same⟩ (fun t σ H6 _ ⟨_, _, _, _, _, _, _, e⟩ => SqL.of e) ?_ ?_
    · obtain ⟨c, m, t, e, r⟩ := hp4
      exact ⟨c, m, t, by rw [upd_ne hpM]; exact e, r⟩
    · rintro t y σ H6 ht ⟨u4, u5, u6, u7, rfl, s6, hp6, hM6⟩
      obtain ⟨n, hn20, rfl⟩ : ∃ n : Nat, n < 20 ∧ y = .int n := by
        rcases t with _ | _ | t
        · exact ⟨r', by omega, (Option.some.inj ht).symm⟩
        · exact ⟨i % 20, Nat.mod_lt _ (by decide), (Option.some.inj ht).symm⟩
        · cases ht
      have ht2 : t < 2 := (List.getElem?_eq_some_iff.mp ht).1
      refine ⟨_, rfl, _, rfl, p, 1 + t, n, rfl, hp6, by omega, hn20, fun v H7 hv hp7 k7 => ?_⟩
      have s7 : Same H H7 := fun b o e => k7 b o (s6 b o e) (ne0 e)
      have hM7 : H7 M = some (.lst [.int (r' : Int), .int ((i : Int) % 20)]) := k7 _ _ hM6 hpM.symm
      refine ⟨_, rfl, _, rfl, n, v, rfl, hn20, fun e C H8 hC s8 hE => ?_⟩
      refine ⟨_, rfl, e, C, n, v, rfl, hn20, hC, hE, fun L1 H9 s9 hL1 => ?_⟩
      refine ⟨20, rfl, by decide, by decide, fun D nD => ?_⟩
      have shp : ∀ n, n < 20 → SeqAt.shaped (.list ((List.range 20).map fun j => PyData.bool (decide (j = n)))) = true ∧
          PyData.eqv (.list ((List.range 20).map fun j => PyData.bool (decide (j = n)))) (.list ((List.range 20).map fun j => PyData.bool (decide (j = n)))) = true := by decide +kernel
      have shq : ∀ n, n < 20 → SeqAt.shaped (.list ((List.range 7).map fun j => PyData.bool (dueB n j))) = true ∧
          PyData.eqv (.list ((List.range 7).map fun j => PyData.bool (dueB n j))) (.list ((List.range 7).map fun j => PyData.bool (dueB n j))) = true := by decide +kernel
      refine lc_range (lo := 0) (n := 20) (fun j Hx => Hx = upd H9 D (.lst ((List.range j).map fun t => V.bl (decide (t = n))))) rfl (fun j Hx hj hx => ?_) (fun Hx hx => ?_)
      · subst hx
        refine ⟨rfl, ?_⟩
        unfold tYes
        refine iteT ?_
        refine ⟨_, rfl, _, rfl, rfl, _, upd_same, ?_, ?_⟩
        · rw [List.length_map, List.length_range]
          exact small1000 (by omega)
        · rw [upd_upd, List.range_succ, List.map_append]
          have z : decide (V.int (0 + (j : Int)) = V.int (n : Int)) = decide (j = n) := by
            rw [Int.zero_add]
            refine decide_eq_decide.mpr ⟨fun h => ?_, fun h => by rw [h]⟩
            injection h with h
            omega
          show upd H9 D (.lst (_ ++ [V.bl (decide (V.int (0 + (j : Int)) = V.int (n : Int)))])) = _
          rw [z]
          rfl
      · subst hx
        refine ⟨_, _, .lst (SqL.of (by rw [upd_ne (ne_of_none hL1 nD)]; exact hL1)) (dpB _ _), .lst (SqL.of upd_same) (dpB _ _), (shp n hn20).1, (shp n hn20).1, _, rfl, ?_⟩
        rw [(shp n hn20).2]
        refine iteF ?_
        have sD := same_upd (o := .lst ((List.range 20).map fun t => V.bl (decide (t = n)))) nD
        have s10 := (s8.trans s9).trans sD
        refine ⟨_, rfl, e, C, n, v, rfl, hn20, hC, ErrIs.same (s9.trans sD) hE, fun L2 Ha sa hL2 => ?_⟩
        refine ⟨_, rfl, n, rfl, hn20, fun L3 Hb sb hL3 => ?_⟩
        refine ⟨_, _, .lst (SqL.of (sb _ _ hL2)) (dpB _ _), .lst (SqL.of hL3) (dpB _ _), (shq n hn20).1, (shq n hn20).1, _, rfl, ?_⟩
        rw [(shq n hn20).2]
        refine iteF ?_
        have s11 := (s10.trans sa).trans sb
        have fin : ∃ v4 v5 v6 v7 : Option V, [some (V.ref a), some (.int i), some (.ref p), some (.int (r' : Int)), some (.int n), some v, some (.ref e), u7] = [some (V.ref a), some (.int i), some (.ref p), some (.int (r' : Int)), v4, v5, v6, v7] ∧
            Same H Hb ∧ PotAt Hb p (1 + (t + 1)) ∧ Hb M = some (.lst [.int (r' : Int), .int ((i : Int) % 20)]) := by
          refine ⟨_, _, _, _, rfl, s7.trans s11, ?_, s11 _ _ hM7⟩
          obtain ⟨c, m, t', e', r⟩ := hp7
          exact ⟨c, m, t', s11 _ _ e', r⟩
        refine ⟨_, rfl, _, _, rfl, rfl, _, rfl, ?_⟩
        refine ite2 (fun h14 => ?_) (fun h14 => ?_)
        · have h14' : 15 ≤ n := by
            have z := of_decide_eq_true h14
            omega
          obtain ⟨d, hd, sm⟩ := hv
          obtain ⟨m1, m2, m3, m4⟩ := small_of sm
          refine ⟨_, rfl, _, rfl, e, C, n, v, rfl, h14', hn20, hC, ErrIs.same (((s9.trans sD).trans sa).trans sb) hE, ?_⟩
          refine ⟨v, d, rfl, Dp.same s11 hd, m1, m2, m3, m4, ?_⟩
          refine ⟨_, rfl, v, d, rfl, Dp.same s11 hd, m1, m2, m3, m4, rfl, _, rfl, ?_⟩
          exact iteNS rfl fin
        · exact iteF fin
    · rintro σ H6 ⟨u4, u5, u6, u7, rfl, s6, _, _⟩
      exact ⟨_, _, _, _, _, _, _, rfl, s6⟩
end
end K1

set_option Elab.async false
set_option linter.all false
set_option maxRecDepth 100000
set_option maxHeartbeats 4000000
namespace K1
open PySem L2 Gx
theorem all_mk {l : PySem.W.OpenLaw} {w : World} {K : PySem.W.Frag} {h : Heap} {mg : Str → Option Value} {fa cG c0 c1 c2 c3 c4 c5 c6 c7 c8 c9 c10 c11 c12 c13 c14 c15 c16 c17 c18 c19 fP fT fH fE fC fU fD fB fL fI15 fI16 fI17 fI18 fI19 : Addr} (X : K.In h) (G : h.Ns mainGlobals mg) (hfa : mg "law" = some (.ref fa))
    {odP anP odT anT odH anH odE anE odC anC odU anU odD anD odB anB odL anL odI15 anI15 odI16 anI16 odI17 anI17 odI18 anI18 odI19 anI19 : Option Addr} {slP slT slH slE slC slU slD slB slL slI15 slI16 slI17 slI18 slI19 : Array (Option Value)} {ocP kVP dcP pmP cdP ctP ocT kVT dcT pmT cdT ctT ocH kVH dcH pmH cdH ctH ocE kVE dcE pmE cdE ctE ocC kVC dcC pmC cdC ctC ocU kVU dcU pmU cdU ctU ocD kVD dcD pmD cdD ctD ocB kVB dcB pmB cdB ctB ocL kVL dcL pmL cdL ctL ocI15 kVI15 dcI15 pmI15 cdI15 ctI15 ocI16 kVI16 dcI16 pmI16 cdI16 ctI16 ocI17 kVI17 dcI17 pmI17 cdI17 ctI17 ocI18 kVI18 dcI18 pmI18 cdI18 ctI18 ocI19 kVI19 dcI19 pmI19 cdI19 ctI19 : Value}
    (aP : PySem.W.nsIn K mainGlobals "_law_pot" = some (some (.ref fP)))
    (lP : K.lookup fP = some ⟨ocP, odP, .func (PySem.W.fnOf "_law_pot" "_law_pot" (defArgs sPot) (defBody sPot) (defScope sPot) .none kVP dcP pmP anP cdP ctP), slP⟩)
    (dP : PySem.W.codeIn K cdP "_law_pot" = true)
    (kP : PySem.W.keepIn K (.ref fP) = true)
    (aT : PySem.W.nsIn K mainGlobals "_law_take" = some (some (.ref fT)))
    (lT : K.lookup fT = some ⟨ocT, odT, .func (PySem.W.fnOf "_law_take" "_law_take" (defArgs sTake) (defBody sTake) (defScope sTake) .none kVT dcT pmT anT cdT ctT), slT⟩)
    (dT : PySem.W.codeIn K cdT "_law_take" = true)
    (kT : PySem.W.keepIn K (.ref fT) = true)
    (aH : PySem.W.nsIn K mainGlobals "_law_thing" = some (some (.ref fH)))
    (lH : K.lookup fH = some ⟨ocH, odH, .func (PySem.W.fnOf "_law_thing" "_law_thing" (defArgs sThing) (defBody sThing) (defScope sThing) .none kVH dcH pmH anH cdH ctH), slH⟩)
    (dH : PySem.W.codeIn K cdH "_law_thing" = true)
    (kH : PySem.W.keepIn K (.ref fH) = true)
    (aE : PySem.W.nsIn K mainGlobals "_law_error" = some (some (.ref fE)))
    (lE : K.lookup fE = some ⟨ocE, odE, .func (PySem.W.fnOf "_law_error" "_law_error" (defArgs sError) (defBody sError) (defScope sError) .none kVE dcE pmE anE cdE ctE), slE⟩)
    (dE : PySem.W.codeIn K cdE "_law_error" = true)
    (kE : PySem.W.keepIn K (.ref fE) = true)
    (aC : PySem.W.nsIn K mainGlobals "_law_classes" = some (some (.ref fC)))
    (lC : K.lookup fC = some ⟨ocC, odC, .func (PySem.W.fnOf "_law_classes" "_law_classes" (defArgs sClasses) (defBody sClasses) (defScope sClasses) .none kVC dcC pmC anC cdC ctC), slC⟩)
    (dC : PySem.W.codeIn K cdC "_law_classes" = true)
    (kC : PySem.W.keepIn K (.ref fC) = true)
    (aU : PySem.W.nsIn K mainGlobals "_law_kinds_under" = some (some (.ref fU)))
    (lU : K.lookup fU = some ⟨ocU, odU, .func (PySem.W.fnOf "_law_kinds_under" "_law_kinds_under" (defArgs sUnder) (defBody sUnder) (defScope sUnder) .none kVU dcU pmU anU cdU ctU), slU⟩)
    (dU : PySem.W.codeIn K cdU "_law_kinds_under" = true)
    (kU : PySem.W.keepIn K (.ref fU) = true)
    (aD : PySem.W.nsIn K mainGlobals "_law_due_kinds" = some (some (.ref fD)))
    (lD : K.lookup fD = some ⟨ocD, odD, .func (PySem.W.fnOf "_law_due_kinds" "_law_due_kinds" (defArgs sDue) (defBody sDue) (defScope sDue) .none kVD dcD pmD anD cdD ctD), slD⟩)
    (dD : PySem.W.codeIn K cdD "_law_due_kinds" = true)
    (kD : PySem.W.keepIn K (.ref fD) = true)
    (aB : PySem.W.nsIn K mainGlobals "_law_borne" = some (some (.ref fB)))
    (lB : K.lookup fB = some ⟨ocB, odB, .func (PySem.W.fnOf "_law_borne" "_law_borne" (defArgs sBorne) (defBody sBorne) (defScope sBorne) .none kVB dcB pmB anB cdB ctB), slB⟩)
    (dB : PySem.W.codeIn K cdB "_law_borne" = true)
    (kB : PySem.W.keepIn K (.ref fB) = true)
    (aL : PySem.W.nsIn K mainGlobals "law" = some (some (.ref fL)))
    (lL : K.lookup fL = some ⟨ocL, odL, .func (PySem.W.fnOf "law" "law" (defArgs sLaw) (defBody sLaw) (defScope sLaw) .none kVL dcL pmL anL cdL ctL), slL⟩)
    (dL : PySem.W.codeIn K cdL "law" = true)
    (kL : PySem.W.keepIn K (.ref fL) = true)
    (aG : PySem.W.nsIn K mainGlobals "GroundError" = some (some (.ref cG)))
    (e0 : PySem.W.nsIn K mainGlobals "NoRule" = some (some (.ref c0)))
    (q0 : PySem.W.keepIn K (.ref c0) = true)
    (x0 : PySem.W.excIn K c0 tVE "ValueError.__new__" = true)
    (e1 : PySem.W.nsIn K mainGlobals "NoColumn" = some (some (.ref c1)))
    (q1 : PySem.W.keepIn K (.ref c1) = true)
    (x1 : PySem.W.excIn K c1 tVE "ValueError.__new__" = true)
    (e2 : PySem.W.nsIn K mainGlobals "NoLayers" = some (some (.ref c2)))
    (q2 : PySem.W.keepIn K (.ref c2) = true)
    (x2 : PySem.W.excIn K c2 tVE "ValueError.__new__" = true)
    (e3 : PySem.W.nsIn K mainGlobals "NoSite" = some (some (.ref c3)))
    (q3 : PySem.W.keepIn K (.ref c3) = true)
    (x3 : PySem.W.excIn K c3 tVE "ValueError.__new__" = true)
    (e4 : PySem.W.nsIn K mainGlobals "NoGround" = some (some (.ref c4)))
    (q4 : PySem.W.keepIn K (.ref c4) = true)
    (x4 : PySem.W.excIn K c4 tVE "ValueError.__new__" = true)
    (e5 : PySem.W.nsIn K mainGlobals "NoGear" = some (some (.ref c5)))
    (q5 : PySem.W.keepIn K (.ref c5) = true)
    (x5 : PySem.W.excIn K c5 tVE "ValueError.__new__" = true)
    (e6 : PySem.W.nsIn K mainGlobals "NoProbing" = some (some (.ref c6)))
    (q6 : PySem.W.keepIn K (.ref c6) = true)
    (x6 : PySem.W.excIn K c6 tVE "ValueError.__new__" = true)
    (e7 : PySem.W.nsIn K mainGlobals "NoLog" = some (some (.ref c7)))
    (q7 : PySem.W.keepIn K (.ref c7) = true)
    (x7 : PySem.W.excIn K c7 tVE "ValueError.__new__" = true)
    (e8 : PySem.W.nsIn K mainGlobals "NoMasks" = some (some (.ref c8)))
    (q8 : PySem.W.keepIn K (.ref c8) = true)
    (x8 : PySem.W.excIn K c8 tVE "ValueError.__new__" = true)
    (e9 : PySem.W.nsIn K mainGlobals "NoGame" = some (some (.ref c9)))
    (q9 : PySem.W.keepIn K (.ref c9) = true)
    (x9 : PySem.W.excIn K c9 tVE "ValueError.__new__" = true)
    (e10 : PySem.W.nsIn K mainGlobals "NoBelief" = some (some (.ref c10)))
    (q10 : PySem.W.keepIn K (.ref c10) = true)
    (x10 : PySem.W.excIn K c10 tVE "ValueError.__new__" = true)
    (e11 : PySem.W.nsIn K mainGlobals "NoPlan" = some (some (.ref c11)))
    (q11 : PySem.W.keepIn K (.ref c11) = true)
    (x11 : PySem.W.excIn K c11 tVE "ValueError.__new__" = true)
    (e12 : PySem.W.nsIn K mainGlobals "NoQuestion" = some (some (.ref c12)))
    (q12 : PySem.W.keepIn K (.ref c12) = true)
    (x12 : PySem.W.excIn K c12 tVE "ValueError.__new__" = true)
    (e13 : PySem.W.nsIn K mainGlobals "NoDeed" = some (some (.ref c13)))
    (q13 : PySem.W.keepIn K (.ref c13) = true)
    (x13 : PySem.W.excIn K c13 tVE "ValueError.__new__" = true)
    (e14 : PySem.W.nsIn K mainGlobals "TooWide" = some (some (.ref c14)))
    (q14 : PySem.W.keepIn K (.ref c14) = true)
    (x14 : PySem.W.excIn K c14 tVE "ValueError.__new__" = true)
    (e15 : PySem.W.nsIn K mainGlobals "NoText" = some (some (.ref c15)))
    (q15 : PySem.W.keepIn K (.ref c15) = true)
    (x15 : oxIn K c15 tVE "ValueError.__new__" = true)
    (s15 : PySem.W.findIn K (.ref c15) "__setattr__" = some (some (.builtin "object.__setattr__")))
    (n15 : PySem.W.findIn K (.ref c15) "at" = some none)
    (aI15 : PySem.W.findIn K (.ref c15) "__init__" = some (some (.ref fI15)))
    (lI15 : K.lookup fI15 = some ⟨ocI15, odI15, .func (PySem.W.fnOf "__init__" "NoText.__init__" (defArgs sIni15) (defBody sIni15) (defScope sIni15) .none kVI15 dcI15 pmI15 anI15 cdI15 ctI15), slI15⟩)
    (dI15 : PySem.W.codeIn K cdI15 "NoText.__init__" = true)
    (kI15 : PySem.W.keepIn K (.ref fI15) = true)
    (tI15 : PySem.W.typeIn K (.ref fI15) = some (.type "function"))
    (e16 : PySem.W.nsIn K mainGlobals "NoSpot" = some (some (.ref c16)))
    (q16 : PySem.W.keepIn K (.ref c16) = true)
    (x16 : oxIn K c16 tKE "LookupError.__new__" = true)
    (s16 : PySem.W.findIn K (.ref c16) "__setattr__" = some (some (.builtin "object.__setattr__")))
    (n16 : PySem.W.findIn K (.ref c16) "spot" = some none)
    (aI16 : PySem.W.findIn K (.ref c16) "__init__" = some (some (.ref fI16)))
    (lI16 : K.lookup fI16 = some ⟨ocI16, odI16, .func (PySem.W.fnOf "__init__" "NoSpot.__init__" (defArgs sIni16) (defBody sIni16) (defScope sIni16) .none kVI16 dcI16 pmI16 anI16 cdI16 ctI16), slI16⟩)
    (dI16 : PySem.W.codeIn K cdI16 "NoSpot.__init__" = true)
    (kI16 : PySem.W.keepIn K (.ref fI16) = true)
    (tI16 : PySem.W.typeIn K (.ref fI16) = some (.type "function"))
    (e17 : PySem.W.nsIn K mainGlobals "NoNumber" = some (some (.ref c17)))
    (q17 : PySem.W.keepIn K (.ref c17) = true)
    (x17 : oxIn K c17 tIE "IndexError.__new__" = true)
    (s17 : PySem.W.findIn K (.ref c17) "__setattr__" = some (some (.builtin "object.__setattr__")))
    (n17 : PySem.W.findIn K (.ref c17) "number" = some none)
    (aI17 : PySem.W.findIn K (.ref c17) "__init__" = some (some (.ref fI17)))
    (lI17 : K.lookup fI17 = some ⟨ocI17, odI17, .func (PySem.W.fnOf "__init__" "NoNumber.__init__" (defArgs sIni17) (defBody sIni17) (defScope sIni17) .none kVI17 dcI17 pmI17 anI17 cdI17 ctI17), slI17⟩)
    (dI17 : PySem.W.codeIn K cdI17 "NoNumber.__init__" = true)
    (kI17 : PySem.W.keepIn K (.ref fI17) = true)
    (tI17 : PySem.W.typeIn K (.ref fI17) = some (.type "function"))
    (e18 : PySem.W.nsIn K mainGlobals "TooMany" = some (some (.ref c18)))
    (q18 : PySem.W.keepIn K (.ref c18) = true)
    (x18 : oxIn K c18 tOE "OverflowError.__new__" = true)
    (s18 : PySem.W.findIn K (.ref c18) "__setattr__" = some (some (.builtin "object.__setattr__")))
    (n18 : PySem.W.findIn K (.ref c18) "many" = some none)
    (aI18 : PySem.W.findIn K (.ref c18) "__init__" = some (some (.ref fI18)))
    (lI18 : K.lookup fI18 = some ⟨ocI18, odI18, .func (PySem.W.fnOf "__init__" "TooMany.__init__" (defArgs sIni18) (defBody sIni18) (defScope sIni18) .none kVI18 dcI18 pmI18 anI18 cdI18 ctI18), slI18⟩)
    (dI18 : PySem.W.codeIn K cdI18 "TooMany.__init__" = true)
    (kI18 : PySem.W.keepIn K (.ref fI18) = true)
    (tI18 : PySem.W.typeIn K (.ref fI18) = some (.type "function"))
    (e19 : PySem.W.nsIn K mainGlobals "Clash" = some (some (.ref c19)))
    (q19 : PySem.W.keepIn K (.ref c19) = true)
    (x19 : oxIn K c19 tRE "RuntimeError.__new__" = true)
    (s19 : PySem.W.findIn K (.ref c19) "__setattr__" = some (some (.builtin "object.__setattr__")))
    (n19 : PySem.W.findIn K (.ref c19) "lot" = some none)
    (aI19 : PySem.W.findIn K (.ref c19) "__init__" = some (some (.ref fI19)))
    (lI19 : K.lookup fI19 = some ⟨ocI19, odI19, .func (PySem.W.fnOf "__init__" "Clash.__init__" (defArgs sIni19) (defBody sIni19) (defScope sIni19) .none kVI19 dcI19 pmI19 anI19 cdI19 ctI19), slI19⟩)
    (dI19 : PySem.W.codeIn K cdI19 "Clash.__init__" = true)
    (kI19 : PySem.W.keepIn K (.ref fI19) = true)
    (tI19 : PySem.W.typeIn K (.ref fI19) = some (.type "function"))
    (kk : kkB K [c0, c1, c2, c3, c4, c5, c6, c7, c8, c9, c10, c11, c12, c13, c14, c15, c16, c17, c18, c19] (kinds cG) = true)
    (z_len : PySem.W.nsIn K mainGlobals "len" = some none)
    (z_abs : PySem.W.nsIn K mainGlobals "abs" = some none)
    (z_int : PySem.W.nsIn K mainGlobals "int" = some none)
    (z_isinstance : PySem.W.nsIn K mainGlobals "isinstance" = some none)
    (z_range : PySem.W.nsIn K mainGlobals "range" = some none)
    (z_ValueError : PySem.W.nsIn K mainGlobals "ValueError" = some none)
    (z_KeyError : PySem.W.nsIn K mainGlobals "KeyError" = some none)
    (z_IndexError : PySem.W.nsIn K mainGlobals "IndexError" = some none)
    (z_LookupError : PySem.W.nsIn K mainGlobals "LookupError" = some none)
    (z_OverflowError : PySem.W.nsIn K mainGlobals "OverflowError" = some none)
    (z_RuntimeError : PySem.W.nsIn K mainGlobals "RuntimeError" = some none)
    (z_max : PySem.W.nsIn K mainGlobals "max" = some none)
    (z_min : PySem.W.nsIn K mainGlobals "min" = some none)
    (z_repr : PySem.W.nsIn K mainGlobals "repr" = some none)
    : ∃ fd : FuncData, (∀ (s : Shared) (v : Value), BindsTo s fd ⟨[v], []⟩ [("_law_script", v)]) ∧ ∀ base : Heap, K.In base → base.Ns mainGlobals mg → FnG l.prog w K mg base CX0 4 fa fd ["_law_script"] (spLaw K) := by
  have e := hfa.symm.trans (PySem.W.mg_of X G aL)
  cases e
  have T : Txt mg := ⟨PySem.W.mg_none_of X G z_len, PySem.W.mg_none_of X G z_abs, PySem.W.mg_none_of X G z_int⟩
  have B : TxtB mg cG := ⟨PySem.W.mg_none_of X G z_isinstance, PySem.W.mg_none_of X G z_range, PySem.W.mg_of X G aG, PySem.W.mg_none_of X G z_ValueError, PySem.W.mg_none_of X G z_KeyError, PySem.W.mg_none_of X G z_IndexError, PySem.W.mg_none_of X G z_LookupError, PySem.W.mg_none_of X G z_OverflowError, PySem.W.mg_none_of X G z_RuntimeError⟩
  have L : TxtL mg := ⟨PySem.W.mg_none_of X G z_max, PySem.W.mg_none_of X G z_min, PySem.W.mg_none_of X G z_repr⟩
  have R : ErrT K mg c0 c1 c2 c3 c4 c5 c6 c7 c8 c9 c10 c11 c12 c13 c14 c15 c16 c17 c18 c19 := ⟨PySem.W.mg_of X G e0, PySem.W.mg_of X G e1, PySem.W.mg_of X G e2, PySem.W.mg_of X G e3, PySem.W.mg_of X G e4, PySem.W.mg_of X G e5, PySem.W.mg_of X G e6, PySem.W.mg_of X G e7, PySem.W.mg_of X G e8, PySem.W.mg_of X G e9, PySem.W.mg_of X G e10, PySem.W.mg_of X G e11, PySem.W.mg_of X G e12, PySem.W.mg_of X G e13, PySem.W.mg_of X G e14, PySem.W.mg_of X G e15, PySem.W.mg_of X G e16, PySem.W.mg_of X G e17, PySem.W.mg_of X G e18, PySem.W.mg_of X G e19, q0, x0, q1, x1, q2, x2, q3, x3, q4, x4, q5, x5, q6, x6, q7, x7, q8, x8, q9, x9, q10, x10, q11, x11, q12, x12, q13, x13, q14, x14, ox_of PySem.F.excBase_ValueError u_VE pass_VE (by decide +kernel) x15 s15 q15, n15, ox_of PySem.F.excBase_LookupError u_KE pass_KE (by decide +kernel) x16 s16 q16, n16, ox_of PySem.F.excBase_IndexError u_IE pass_IE (by decide +kernel) x17 s17 q17, n17, ox_of PySem.F.excBase_OverflowError u_OE pass_OE (by decide +kernel) x18 s18 q18, n18, ox_of PySem.F.excBase_RuntimeError u_RE pass_RE (by decide +kernel) x19 s19 q19, n19⟩
  have FP := fun_mk (st := sPot) lP dP kP
  have bP := FP.binds (ps := ["_law_script", "_law_k"]) fun _ _ _ _ _ _ us hl => match us, hl with | [_, _], _ => rfl
  have FT := fun_mk (st := sTake) lT dT kT
  have bT := FT.binds (ps := ["_law_pot_here", "_law_many"]) fun _ _ _ _ _ _ us hl => match us, hl with | [_, _], _ => rfl
  have FH := fun_mk (st := sThing) lH dH kH
  have bH := FH.binds (ps := ["_law_pot_here", "_law_number"]) fun _ _ _ _ _ _ us hl => match us, hl with | [_, _], _ => rfl
  have FE := fun_mk (st := sError) lE dE kE
  have bE := FE.binds (ps := ["_law_number", "_law_thing_here"]) fun _ _ _ _ _ _ us hl => match us, hl with | [_, _], _ => rfl
  have FC := fun_mk (st := sClasses) lC dC kC
  have bC := FC.binds (ps := ["_law_one"]) fun _ _ _ _ _ _ us hl => match us, hl with | [_], _ => rfl
  have FU := fun_mk (st := sUnder) lU dU kU
  have bU := FU.binds (ps := ["_law_one"]) fun _ _ _ _ _ _ us hl => match us, hl with | [_], _ => rfl
  have FD := fun_mk (st := sDue) lD dD kD
  have bD := FD.binds (ps := ["_law_number"]) fun _ _ _ _ _ _ us hl => match us, hl with | [_], _ => rfl
  have FB := fun_mk (st := sBorne) lB dB kB
  have bB := FB.binds (ps := ["_law_number", "_law_one"]) fun _ _ _ _ _ _ us hl => match us, hl with | [_, _], _ => rfl
  have FL := fun_mk (st := sLaw) lL dL kL
  have FI15 := fun_mk (st := sIni15) lI15 dI15 kI15
  have bI15 := FI15.binds (ps := ["self", "at"]) fun _ _ _ _ _ _ us hl => match us, hl with | [_, _], _ => rfl
  have FI16 := fun_mk (st := sIni16) lI16 dI16 kI16
  have bI16 := FI16.binds (ps := ["self", "spot"]) fun _ _ _ _ _ _ us hl => match us, hl with | [_, _], _ => rfl
  have FI17 := fun_mk (st := sIni17) lI17 dI17 kI17
  have bI17 := FI17.binds (ps := ["self", "number"]) fun _ _ _ _ _ _ us hl => match us, hl with | [_, _], _ => rfl
  have FI18 := fun_mk (st := sIni18) lI18 dI18 kI18
  have bI18 := FI18.binds (ps := ["self", "many"]) fun _ _ _ _ _ _ us hl => match us, hl with | [_, _], _ => rfl
  have FI19 := fun_mk (st := sIni19) lI19 dI19 kI19
  have bI19 := FI19.binds (ps := ["self", "lot"]) fun _ _ _ _ _ _ us hl => match us, hl with | [_, _], _ => rfl
  refine ⟨PySem.W.fnOf "law" "law" (defArgs sLaw) (defBody sLaw) (defScope sLaw) .none kVL dcL pmL anL cdL ctL, fun s v => .of_eq rfl, fun base _ _ => ?_⟩
  exact ok_law FL T B L rfl (ok_pot FP T) bP (PySem.W.mg_of X G aP) kP (ok_take FT) bT (PySem.W.mg_of X G aT) kT (ok_thing FH T FT bT (PySem.W.mg_of X G aT)) bH (PySem.W.mg_of X G aH) kH
    (ok_error FE R FI15 bI15 aI15 tI15 FI16 bI16 aI16 tI16 FI17 bI17 aI17 tI17 FI18 bI18 aI18 tI18 FI19 bI19 aI19 tI19) bE (PySem.W.mg_of X G aE) kE
    (ok_classes FC R B kk) bC (PySem.W.mg_of X G aC) kC (ok_under FU B kk) bU (PySem.W.mg_of X G aU) kU (ok_due FD B) bD (PySem.W.mg_of X G aD) kD (ok_borne FB R kk) bB (PySem.W.mg_of X G aB) kB
theorem walk {l : PySem.W.OpenLaw} {q : Program} {loose : List Str} {XP : (Str → Option Value) → Heap → Prop} {YP : World → Heap → Prop} {d : DefRec} {K : Params → PySem.W.Frag} (hn : l.most = some 63) (hdf : d.params.defaults = [])
    (hY : ∀ (w : World) (h : Heap), YP w h → (K w.params).In h)
    (F : ∀ (w : World) (mg : Str → Option Value) (fa : Addr) (h : Heap), (K w.params).In h → h.Ns mainGlobals mg → mg d.name = some (.ref fa) →
      ∃ fd : FuncData, (∀ (s : Shared) (u : Value), BindsTo s fd ⟨[u], []⟩ [("_law_script", u)]) ∧ ∀ base : Heap, (K w.params).In base → base.Ns mainGlobals mg → FnG l.prog w (K w.params) mg base CX0 4 fa fd ["_law_script"] (spLaw (K w.params))) :
    PySem.W.WalkO q loose XP YP l.row.toRowW d [] (fun f vs => PySem.call f vs) :=
  walkG (n := 63) (k := 4) (x := "_law_script") (sp := fun w => spLaw (K w.params)) hn (by decide) hdf ⟨rfl, by decide, by decide⟩ hY F (fun _ _ a ns hl _ hS => ⟨a, ns, rfl, hS, hl, fun _ => rfl⟩)
end K1
open PySem PySem.W PyProof.Rows
set_option maxRecDepth 100000 in
set_option maxHeartbeats 0 in
theorem PySem.Challenge.cw_groundsay_k01_refusals_and_kinds_holds : PySem.Challenge.rw_groundsay_k01_refusals_and_kinds.Holds := by
  w_on; o_law; k_head; (case hw => w_witness2)
  k_fill
  refine K1.walk (l := PySem.Challenge.rw_groundsay_k01_refusals_and_kinds) rfl rfl (fun w h Y => PySem.W.kIn_of Y) ?F
  case F =>
    intro w mg fa h KX G hmg
    refine' K1.all_mk KX G hmg ?aP ?lP ?dP ?kP ?aT ?lT ?dT ?kT ?aH ?lH ?dH ?kH ?aE ?lE ?dE ?kE ?aC ?lC ?dC ?kC ?aU ?lU ?dU ?kU ?aD ?lD ?dD ?kD ?aB ?lB ?dB ?kB ?aL ?lL ?dL ?kL ?aG ?e0 ?q0 ?x0 ?e1 ?q1 ?x1 ?e2 ?q2 ?x2 ?e3 ?q3 ?x3 ?e4 ?q4 ?x4 ?e5 ?q5 ?x5 ?e6 ?q6 ?x6 ?e7 ?q7 ?x7 ?e8 ?q8 ?x8 ?e9 ?q9 ?x9 ?e10 ?q10 ?x10 ?e11 ?q11 ?x11 ?e12 ?q12 ?x12 ?e13 ?q13 ?x13 ?e14 ?q14 ?x14 ?e15 ?q15 ?x15 ?s15 ?n15 ?aI15 ?lI15 ?dI15 ?kI15 ?tI15 ?e16 ?q16 ?x16 ?s16 ?n16 ?aI16 ?lI16 ?dI16 ?kI16 ?tI16 ?e17 ?q17 ?x17 ?s17 ?n17 ?aI17 ?lI17 ?dI17 ?kI17 ?tI17 ?e18 ?q18 ?x18 ?s18 ?n18 ?aI18 ?lI18 ?dI18 ?kI18 ?tI18 ?e19 ?q19 ?x19 ?s19 ?n19 ?aI19 ?lI19 ?dI19 ?kI19 ?tI19 ?kk ?z_len ?z_abs ?z_int ?z_isinstance ?z_range ?z_ValueError ?z_KeyError ?z_IndexError ?z_LookupError ?z_OverflowError ?z_RuntimeError ?z_max ?z_min ?z_repr
    (case aP => k_is)
    (case lP => k_is)
    (case dP => k_is)
    (case kP => k_is)
    (case aT => k_is)
    (case lT => k_is)
    (case dT => k_is)
    (case kT => k_is)
    (case aH => k_is)
    (case lH => k_is)
    (case dH => k_is)
    (case kH => k_is)
    (case aE => k_is)
    (case lE => k_is)
    (case dE => k_is)
    (case kE => k_is)
    (case aC => k_is)
    (case lC => k_is)
    (case dC => k_is)
    (case kC => k_is)
    (case aU => k_is)
    (case lU => k_is)
    (case dU => k_is)
    (case kU => k_is)
    (case aD => k_is)
    (case lD => k_is)
    (case dD => k_is)
    (case kD => k_is)
    (case aB => k_is)
    (case lB => k_is)
    (case dB => k_is)
    (case kB => k_is)
    (case aL => k_is)
    (case lL => k_is)
    (case dL => k_is)
    (case kL => k_is)
    (case aG => k_is)
    (case e0 => k_is)
    (case q0 => k_is)
    (case x0 => kernel_rfl)
    (case e1 => k_is)
    (case q1 => k_is)
    (case x1 => kernel_rfl)
    (case e2 => k_is)
    (case q2 => k_is)
    (case x2 => kernel_rfl)
    (case e3 => k_is)
    (case q3 => k_is)
    (case x3 => kernel_rfl)
    (case e4 => k_is)
    (case q4 => k_is)
    (case x4 => kernel_rfl)
    (case e5 => k_is)
    (case q5 => k_is)
    (case x5 => kernel_rfl)
    (case e6 => k_is)
    (case q6 => k_is)
    (case x6 => kernel_rfl)
    (case e7 => k_is)
    (case q7 => k_is)
    (case x7 => kernel_rfl)
    (case e8 => k_is)
    (case q8 => k_is)
    (case x8 => kernel_rfl)
    (case e9 => k_is)
    (case q9 => k_is)
    (case x9 => kernel_rfl)
    (case e10 => k_is)
    (case q10 => k_is)
    (case x10 => kernel_rfl)
    (case e11 => k_is)
    (case q11 => k_is)
    (case x11 => kernel_rfl)
    (case e12 => k_is)
    (case q12 => k_is)
    (case x12 => kernel_rfl)
    (case e13 => k_is)
    (case q13 => k_is)
    (case x13 => kernel_rfl)
    (case e14 => k_is)
    (case q14 => k_is)
    (case x14 => kernel_rfl)
    (case e15 => k_is)
    (case q15 => k_is)
    (case x15 => kernel_rfl)
    (case s15 => k_is)
    (case n15 => k_is)
    (case aI15 => k_is)
    (case lI15 => k_is)
    (case dI15 => k_is)
    (case kI15 => k_is)
    (case tI15 => k_is)
    (case e16 => k_is)
    (case q16 => k_is)
    (case x16 => kernel_rfl)
    (case s16 => k_is)
    (case n16 => k_is)
    (case aI16 => k_is)
    (case lI16 => k_is)
    (case dI16 => k_is)
    (case kI16 => k_is)
    (case tI16 => k_is)
    (case e17 => k_is)
    (case q17 => k_is)
    (case x17 => kernel_rfl)
    (case s17 => k_is)
    (case n17 => k_is)
    (case aI17 => k_is)
    (case lI17 => k_is)
    (case dI17 => k_is)
    (case kI17 => k_is)
    (case tI17 => k_is)
    (case e18 => k_is)
    (case q18 => k_is)
    (case x18 => kernel_rfl)
    (case s18 => k_is)
    (case n18 => k_is)
    (case aI18 => k_is)
    (case lI18 => k_is)
    (case dI18 => k_is)
    (case kI18 => k_is)
    (case tI18 => k_is)
    (case e19 => k_is)
    (case q19 => k_is)
    (case x19 => kernel_rfl)
    (case s19 => k_is)
    (case n19 => k_is)
    (case aI19 => k_is)
    (case lI19 => k_is)
    (case dI19 => k_is)
    (case kI19 => k_is)
    (case tI19 => k_is)
    (case kk => kernel_rfl)
    (case z_len => k_is)
    (case z_abs => k_is)
    (case z_int => k_is)
    (case z_isinstance => k_is)
    (case z_range => k_is)
    (case z_ValueError => k_is)
    (case z_KeyError => k_is)
    (case z_IndexError => k_is)
    (case z_LookupError => k_is)
    (case z_OverflowError => k_is)
    (case z_RuntimeError => k_is)
    (case z_max => k_is)
    (case z_min => k_is)
    (case z_repr => k_is)
#print axioms PySem.Challenge.cw_groundsay_k01_refusals_and_kinds_holds
