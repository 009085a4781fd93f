import PyProof.Rows.All
import Wide.All
import OpenK.AllK
import Wide.FinOn
import HandS.ForMost
import HandS.Exc
import HandS.ExcOwn
import HandS.ExcInit
import HandS.ExcValue
import HandS.ExcIs
import HandS.IsInst
import HandS.ExcField
import PyProof.ReprRoads
import HandS.SetKeys
import HandS.Strs
import PyProof.SetRoads
import HandS.Walk
import KE.GoesMore
import KE.GoesEnum
import PyProof.ReprReads
import PyProof.P3Statements
import PyProof.EqLayable
import HandS.WordsExc
import HandS.Text
import HandS.TupAny
import HandS.Zip
import HandS.Style
import HandS.Deep
import HandS.SortInts
import HandS.Replace
import HandS.TupLe
import KE.GoesEnumKw
import HandS.Zip0
import PyProof.Rows.SortStrRead
import PyProof.P3Eq
import PySem.Challenge.RW_groundsay_k25_states_above_and_below
set_option Elab.async false
set_option linter.all false
set_option maxRecDepth 100000
set_option maxHeartbeats 4000000
namespace Gx
open PySem PySem.Spec PyProof.Rows PySem.HandSPX L2

/-! own exception classes with an own __init__, whatever the built-in class they stand under -/
section
variable {M : Model} {prog : Program} {w : World} {A : Around} {E : Value → Shared → Prop} {R : Result → Shared → Prop} {h : Heap} {g : Array GenState} {d : Drawn} {t : Nat} {os : OsState}
variable {nm q : Str} {C N : Addr} {bs bm bmB : List Value} {hdct : Bool} {sn : List Str} {sub : List Value} {ab : Bool} {col : Option Bool} {dd : Option Addr} {k0 k1 k2 k3 k5 : Option Value} {B newId initId : String}

/-- the base's __new__ stands in the class's row of bases, and it is no error of attributes or names -/
structure Under (B : String) (bm : List Value) : Prop where
  has : bm.contains (.type B) = true
  noA : bm.contains (.type "AttributeError") = false
  noN : bm.contains (.type "NameError") = false

theorem newChecked (F : ExcBaseFacts B newId initId bmB) (U : Under B bm)
    {rest : List Value} {Q : Unit → Shared → Prop}
    (hC : h.get? C = some (excClassObj nm q C N bs bm hdct sn sub ab col dd k0 k1 k2 k3 k5 newId))
    (hq : Q () ⟨h, g, d, t, os⟩) :
    wpAny M A (checkBuiltinCall newId ⟨.ref C :: rest, []⟩) Q E ⟨h, g, d, t, os⟩ := by
  have hc : (Value.ref C :: bm).contains (.type B) = true := by
    rw [List.contains_cons, U.has, Bool.or_true]
  have hs := F.noStar
  simp only [checkBuiltinCall, F.newKind, F.newSplit, F.newRow]
  repeat (first
    | refine wpAny_loadPart_at hC ?_
    | (refine wpAny_isSubtype_exc hC ?_
       rw [hc])
    | refine wpAny_staticBase_exc hC ?_
    | refine wpAny_madeBy_exc hC ?_
    | simp only [bne_self_eq_false, Bool.false_eq_true, if_false]
    | wp_step)
  exact hq

theorem newMade (F : ExcBaseFacts B newId initId bmB) (U : Under B bm) {rest : List Value}
    (hC : h.get? C = some (excClassObj nm q C N bs bm hdct sn sub ab col dd k0 k1 k2 k3 k5 newId))
    (hr : rest.length ≤ sizeLine)
    (hq : R (.ok (.ret (.ref (h.objs.size + 1))))
      ⟨(h.push (W.kdv_tup rest)).push (excO C h.objs.size), g, d, t, os⟩) :
    codeAny (model prog w) A (.builtin newId ⟨.ref C :: rest, []⟩) R ⟨h, g, d, t, os⟩ := by
  have he := F.ends
  have c1 : (Value.ref C :: bm).contains (.type B) = true := by
    rw [List.contains_cons, U.has, Bool.or_true]
  have c2 : (Value.ref C :: bm).contains (.type "AttributeError") = false := by
    rw [List.contains_cons, U.noA]
    rfl
  have c3 : (Value.ref C :: bm).contains (.type "NameError") = false := by
    rw [List.contains_cons, U.noN]
    rfl
  refine codeAny_builtinAt F.entry ?_
  unfold Builtin.«BaseException.__new__»
  refine PySem.wpAt_bind ?_
  show PySem.wpAt _ _ _ (stack >>= _) _ _ _
  refine PySem.wpAt_bind (PySem.wpAt_stack fun p below => PySem.wpAt_of_wpAny ?_)
  wp_walk
  refine PySem.wpAt_of_wpAny ?_
  rw [F.owner]
  repeat (first
    | with_reducible refine wpAny_madeHere_exc F.canon hC ?_
    | with_reducible refine wpAny_loadPart_at hC ?_
    | (with_reducible refine wpAny_isSubtype_exc hC ?_
       first | rw [c1] | rw [c2] | rw [c3])
    | wp_step)
  show R _ _
  rw [Heap.size_push]
  exact hq

theorem typeCalled (F : ExcBaseFacts B newId initId bmB) (U : Under B bm) {rest : List Value} {fI : Addr} {Q : Fin → Shared → Prop}
    (hC : h.get? C = some (excClassObj nm q C N bs bm hdct sn sub ab col dd k0 k1 k2 k3 k5 newId))
    (hi : W.Looks (model prog w) h (typeLookup (.ref C) "__init__") (some (.ref fI)))
    (hb : ∀ self, W.Looks (model prog w) h (bindSpecial (.ref fI) self) (.ref fI, [self]))
    (hr : rest.length ≤ sizeLine)
    (hq : codeAny (model prog w) A (.call (.ref fI) ⟨.ref (h.objs.size + 1) :: rest, []⟩)
      (fun r s' => match r with
        | .ok (.ret v) => v = .none ∧ Q (.done (.ret (.ref (h.objs.size + 1)))) s'
        | .ok _ => False
        | .error e => E e s')
      ⟨(h.push (W.kdv_tup rest)).push (excO C h.objs.size), g, d, t, os⟩) :
    wpAny (model prog w) A (Builtin.«type.__call__» ⟨.ref C :: rest, []⟩) Q E ⟨h, g, d, t, os⟩ := by
  repeat (first
    | with_reducible refine wpAny_loadPart_at hC ?_
    | with_reducible refine wpAny_madeBy_exc hC ?_
    | wp_step)
  refine codeAny_call_builtin_code (Code.quiet_builtin _ F.quiet) (newChecked F U hC ?_)
  refine newMade F U hC hr ?_
  show wpAny _ _ _ _ _ _
  have k : ∀ b o, h.get? b = some o →
      ((h.push (W.kdv_tup rest)).push (excO C h.objs.size)).get? b = some o := fun b o e =>
    Heap.get?_push_of_some _ (Heap.get?_push_of_some _ e)
  have hC1 := k _ _ hC
  have hg : ((h.push (W.kdv_tup rest)).push (excO C h.objs.size)).get? (h.objs.size + 1)
      = some (excO C h.objs.size) := by heap_get
  have cc : (Value.ref C :: bm).contains (.ref C) = true := by simp
  have i1 := hi.keeps k
  have b1 := (hb (.ref (h.objs.size + 1))).keeps k
  unfold isInstance
  repeat (first
    | with_reducible refine wpAny_loadPart_at hg ?_
    | (with_reducible refine wpAny_isSubtype_exc hC1 ?_
       rw [cc])
    | wp_step)
  show wpAny _ _ (typeLookup (.ref C) _) _ _ _
  refine i1.at ?_
  refine wpAny_holding (wpAny_bind (b1.at ?_))
  refine wpAny_bind (wpAny_call (codeAny_mono hq fun r s' z => ?_))
  cases r with
  | error e => exact z
  | ok fl =>
    cases fl with
    | ret v =>
      have z' : v = .none ∧ Q (.done (.ret (.ref (h.objs.size + 1)))) s' := z
      clear z
      obtain ⟨e, z2⟩ := z'
      subst e
      first
        | exact wpAny_pure (wpAny_pure z2)
        | (wp_walk; exact z2)
    | next => exact z.elim
    | brk => exact z.elim
    | cont => exact z.elim

theorem classCalled (F : ExcBaseFacts B newId initId bmB) (U : Under B bm) {rest : List Value} {fI : Addr}
    (hC : h.get? C = some (excClassObj nm q C N bs bm hdct sn sub ab col dd k0 k1 k2 k3 k5 newId))
    (hi : W.Looks (model prog w) h (typeLookup (.ref C) "__init__") (some (.ref fI)))
    (hb : ∀ self, W.Looks (model prog w) h (bindSpecial (.ref fI) self) (.ref fI, [self]))
    (hr : rest.length ≤ sizeLine)
    (hq : codeAny (model prog w) (A.under (.builtin "type.__call__" ⟨.ref C :: rest, []⟩))
      (.call (.ref fI) ⟨.ref (h.objs.size + 1) :: rest, []⟩) (W.InitBack (h.objs.size + 1) R)
      ⟨(h.push (W.kdv_tup rest)).push (excO C h.objs.size), g, d, t, os⟩) :
    codeAny (model prog w) A (.call (.ref C) ⟨rest, []⟩) R ⟨h, g, d, t, os⟩ := by
  have f1 := tc_lookup
  have f2 := tc_bind (.ref C)
  have hTy : (⟨h, g, d, t, os⟩ : Shared).TypeIs (.ref C) "type" := ⟨_, hC, rfl⟩
  refine codeAny_of_tree ?_
  show wpAny _ _ (callAny (.ref C) _) _ _ _
  repeat (any_goals (first
    | assumption
    | with_reducible refine wpAny_loadPart_at hC ?_
    | wp_step))
  refine ⟨rfl, ?_⟩
  refine codeAny_call_builtin_at (Code.quiet_builtin _ (by decide +kernel)) entry_typeCall
    (wpAny_check_type_call_sub hC (typeCalled F U hC hi hb hr ?_))
  refine codeAny_mono hq fun r s' z => ?_
  cases r with
  | error e => exact z
  | ok fl => cases fl <;> exact z
end
end Gx

set_option Elab.async false
set_option linter.all false
set_option maxRecDepth 100000
set_option maxHeartbeats 4000000
namespace Gx
open PySem PySem.Spec PyProof.Rows PySem.HandSPX L2
open Builtin Builtin.ObjectAttr

/-! a field stored into a new error object -/
section
variable {prog : Program} {w : World} {A : Around} {E : Value → Shared → Prop} {R : Result → Shared → Prop} {hp : Heap} {g : Array GenState} {d : Drawn} {t : Nat} {os : OsState}
theorem fieldLaid {K : W.Frag} {name : Str} {tk : Tok} {v : Value} {x C : Addr} {fv : Array Value} {cd : ClassData}
    (X : K.In hp) (hx : hp.get? x = some { cls := .ref C, data := .fields fv }) (hcd : W.clsIn K C = some cd)
    (hm : ∀ self, refuseLoop self "__setattr__" cd.mro = pure ())
    (hob : cd.mro.contains (.type "object") = true) (ne : cd.mro.isEmpty = false)
    (hh : cd.hasDict = true) (ha : W.findIn K (.ref C) name = some none)
    (hq : ∀ h' tk' dx, (∀ b o, b ≠ x → hp.get? b = some o → h'.get? b = some o) → hp.objs.size ≤ dx → dx ≠ x →
      h'.get? x = some { cls := .ref C, dict := some dx, data := .fields fv } →
      h'.Ns1 dx (fun y => if y = name then some v else none) → R (.ok (.ret .none)) ⟨h', g, d, tk', os⟩) :
    codeAny (model prog w) A (.call (.builtin "object.__setattr__") ⟨[.ref x, .str name tk, v], []⟩) R ⟨hp, g, d, t, os⟩ := by
  have I : W.InstAt hp x { cls := .ref C, data := .fields fv } C none := ⟨hx, rfl, rfl, trivial⟩
  have SF := F.store_object
  have hxs : x ≠ hp.objs.size := Nat.ne_of_lt (Heap.lt_size hx)
  have sub : W.Looks (model prog w) hp (isInstance (.ref x) (.type "object")) true :=
    I.type.andThen (W.looks_mroIn X (by
      unfold W.mroIn
      rw [hcd, Option.bind_some, if_neg (by rw [ne]; decide), hob]))
  refine codeAny_call_builtin SF.slot.plain SF.entry (@W.check_slot (model prog w) _ _ ⟨hp, g, d, t, os⟩
    "object.__setattr__" "object" "__setattr__" (.ref x) [.str name tk, v] [] _ SF.kind SF.split sub
    (SF.args (.ref x) (.str name tk) v) ?_)
  have l1 : W.Looks (model prog w) hp (mroOf (.ref C)) cd.mro := (W.looks_clsIn X hcd).andThen .now
  have l2 : W.Looks (model prog w) hp (storeTaker? none) none := .now
  have l3 : W.Looks (model prog w) hp (classData C) cd := W.looks_clsIn X hcd
  rw [W.osa_eq, refuse_eq]
  refine wpAny_bind (wpAny_bind (I.type.at (wpAny_bind (l1.at ?_))))
  rw [hm]
  refine wpAny_pure (wpAny_bind (I.type.at
    (wpAny_bind ((W.looks_findIn X ha).at (wpAny_bind (l2.at ?_))))))
  show wpAny _ _ (storeInOwnDict (.ref x) (.ref C) (.str name tk) name v false) _ _ _
  obtain ⟨nm, bs, mro, ns, qn, hd, sn, sb, ab, col, del⟩ := cd
  dsimp only at hh
  subst hh
  unfold storeInOwnDict ownDictForStores
  repeat (first
    | with_reducible refine store_in_new ?_ ?_
    | with_reducible refine wpAny_loadPart_at hx ?_
    | with_reducible refine l3.at ?_
    | wp_step)
  · refine ⟨_, #[], _, (Heap.get?_update_ne _ _ _ _ hxs.symm).trans (Heap.get?_push_at rfl rfl), rfl, ?_, fun _ => rfl⟩
    exact fun e he => absurd he (by simp)
  · intro h' tk' hn hs
    have hx1 : (hp.push { cls := .type "dict", data := .dict #[] }).get? x
        = some { cls := .ref C, data := .fields fv } := Heap.get?_push_of_some _ hx
    refine hq h' tk' hp.objs.size (fun b o hb ho => ?_) (Nat.le_refl _) hxs.symm ?_ hn
    · refine (hs.2 b (Nat.ne_of_lt (Heap.lt_size ho))).trans ?_
      exact (Heap.get?_update_ne _ _ _ _ hb).trans (Heap.get?_push_of_some _ ho)
    · exact (hs.2 x hxs).trans (Heap.get?_update_self _ hx1 rfl)
end

/-- what the written part says of an own error class with an own __init__ -/
structure OxG (K : PySem.W.Frag) (C : Addr) (B newId initId : String) (bmB : List Value) : Prop where
  base : ExcBaseFacts B newId initId bmB
  cls : ∃ nm q N bs bm sn sub ab col dd k0 k1 k2 k3 k5,
    K.lookup C = some (excClassObj nm q C N bs bm true sn sub ab col dd k0 k1 k2 k3 k5 newId) ∧ Under B bm ∧
    (∀ self, refuseLoop self "__setattr__" bm = pure ()) ∧ bm.contains (.type "object") = true
  sa : PySem.W.findIn K (.ref C) "__setattr__" = some (some (.builtin "object.__setattr__"))
  kC : PySem.W.keepIn K (.ref C) = true

section
variable {X : Cx} {pins : List (Addr × Obj)} {σ : L2.St} {H : Hp} {s : Shared} {a C dx : Addr} {f : Str} {y : V} {u : Value} {Q : Unit → Shared → Prop} {E : Value → Shared → Prop} {A : Around} {B newId initId : String} {bmB : List Value}
theorem fieldSet (T : OxG X.K C B newId initId bmB) (I : Inv X pins σ H s) (e : H a = some (exo a C none))
    (hno : PySem.W.findIn X.K (.ref C) f = some none) (ry : RelV y u)
    (h : ∀ dx s', H dx = none → dx ≠ a →
      Inv X pins σ (upd (upd H dx (exd dx [(f, y)])) a (exo a C (some dx))) s' → Q () s') :
    wpAny (model X.prog X.w) A (setAttr (.ref a) f u) Q E s := by
  obtain ⟨nm, q, N, bs, bm, sn, sub, ab, col, dd, k0, k1, k2, k3, k5, hC, U, hps, hob⟩ := T.cls
  have hcl : PySem.W.clsIn X.K C = some { name := nm, bases := bs, mro := .ref C :: bm, ns := N, qualname := q, hasDict := true, slotNames := sn, subclasses := sub, abstract := ab, collection := col, hasDel := false } := by
    unfold PySem.W.clsIn
    rw [hC] <;> rfl
  obtain ⟨t1, ho⟩ := exo_at I.hok e
  obtain ⟨hp, g, d, t, os⟩ := s
  refine PySem.W.set_plain I.kIn
    (ox := { cls := .ref C, dict := none, data := .fields #[.ref t1, .none, .none, .none, .bool false, .none] })
    (od := none) ⟨ho, rfl, rfl, trivial⟩ T.sa ?_
  refine fieldLaid I.kIn ho hcl (fun self => (refuseLoop_ref self _ C bm).trans (hps self))
    (by show (Value.ref C :: bm).contains (.type "object") = true; rw [List.contains_cons, hob, Bool.or_true]) rfl rfl hno
    (fun h' tk' dx k dn dne hx hn => ?_)
  have hnd : H dx = none := I.hok.fresh dn
  have nd : ∀ {b : Addr} {o : Obj}, hp.get? b = some o → b ≠ dx := fun {b o} q =>
    Nat.ne_of_lt (Nat.lt_of_lt_of_le (Heap.lt_size q) dn)
  have na : ∀ {b : Addr}, H b = none → b ≠ a := fun {b} n z => by
    rw [z, e] at n
    cases n
  have U1 : Un X.fs [] H (upd (upd H dx (exd dx [(f, y)])) a (exo a C (some dx))) hp h' := {
    keep := fun b o q n _ _ => k b o (na n) q
    slot := fun b o q n _ _ => ⟨o.slots, k b o (na n) q⟩
    free := fun b o q n _ => by
      rw [upd_ne (na n), upd_ne (nd q)]
      exact n
    there := fun b o q _ => by
      by_cases hb : b = a
      · exact ⟨_, by rw [hb]; exact hx⟩
      · exact ⟨o, k b o hb q⟩
    tups := fun b xs q => by
      rw [upd_ne (at_ne e q exo_tup), upd_ne (ne_of_none q hnd)]
      exact q
    frzs := fun b o v q => by
      rw [upd_ne (at_ne e q exo_frz), upd_ne (ne_of_none q hnd)]
      exact q
    tbls := fun b ps q => ⟨#[], by
      rw [upd_ne (at_ne e q exo_tbl), upd_ne (ne_of_none q hnd), q]
      simp⟩ }
  refine h dx _ hnd dne (I.un (t' := tk') U1 fun b o q => ?_)
  by_cases hb : b = a
  · subst hb
    rw [upd_same] at q
    cases q
    exact exo_ok hx
  · rw [upd_ne hb] at q
    by_cases hd : b = dx
    · subst hd
      rw [upd_same] at q
      cases q
      exact exd_ok hn (relO_put (fs := []) ry fun g => True.intro)
    · rw [upd_ne hd] at q
      refine (I.hok b o q).stay (fun c v hc z => k c v ?_ z) (fun c hc => ?_) (fun c xs hc => ?_)
      · rcases hc with hc | hc
        · rw [hc]
          exact hb
        · exact at_ne e hc exo_own
      · rw [upd_ne (at_ne e hc exo_own), upd_ne (ne_of_none hc hnd)]
        exact hc
      · rw [upd_ne (at_ne e hc exo_tup), upd_ne (ne_of_none hc hnd)]
        exact hc
end

/-- self.f = e in such an __init__ -/
def tFset (K : PySem.W.Frag) (f : Str) (to te : TE) : TS := fun D σ H => te σ H fun y H1 => to σ H1 fun x H2 =>
  ∃ (a C : Addr) (B newId initId : String) (bmB : List Value), x = .ref a ∧ OxG K C B newId initId bmB ∧
    PySem.W.findIn K (.ref C) f = some none ∧ H2 a = some (exo a C none) ∧
    ∀ dx, H2 dx = none → dx ≠ a → D.nx σ (upd (upd H2 dx (exd dx [(f, y)])) a (exo a C (some dx)))
section
variable {X : Cx} {o e : Expr} {es : List Expr} {to te : TE} {ta : TA} {f : Str} {p p' pos : Pos}
theorem ps_fset (ho : PE X o to) (he : PE X e te)
    (hs : swapsWith e (some (.Attribute o f p')) pos.line X.env = pure false := by rfl) :
    PS X (.Assign [.Attribute o f p'] e pos) (tFset X.K f to te) := by
  refine ⟨fun pins s σ H D I h => ?_⟩
  refine plainObj_wpAny_Assign_Attribute (thn (he.run pins s σ H _ I h) fun v s1 ⟨y, H1, I1, r1, q1⟩ =>
    thn (ho.run pins s1 σ H1 _ I1 q1) fun u s2 ⟨x, H2, I2, r2, a, C, B, newId, initId, bmB, ex, T, hno, ea, q⟩ => ?_) hs
  subst ex
  obtain rfl : u = Value.ref a := r2
  exact fieldSet T I2 ea hno r1 fun dx s' n ne J => ⟨σ, _, J, q dx n ne⟩

/-- C(e, ..) as a value: __init__'s promise at the new object, then what follows -/
def tMkV (C : Addr) (sp : Sp) (ta : TA) : TE := fun σ H Q => ta σ H fun vs H1 => vs.length ≤ 1000 ∧
  ∀ a, H1 a = none → sp (.ref a :: vs) (upd H1 a (exo a C none)) (fun v H2 => v = .non ∧ Q (.ref a) H2) (fun _ _ _ => False)
theorem pe_mkV {CX : CXT} {x : Str} {C fI : Addr} {k : Nat} {fd : FuncData} {ps : List Str} {sp : Sp} {B newId initId : String} {bmB : List Value}
    (T : OxG X.K C B newId initId bmB) (iC : PySem.W.findIn X.K (.ref C) "__init__" = some (some (.ref fI)))
    (tI : PySem.W.typeIn X.K (.ref fI) = some (.type "function"))
    (F1 : FnOk X.prog X.w X.K X.mg X.base CX k fI fd ps sp) (hr : Room (k + 1) X.A) (hb : Binds X.K fd ps [])
    (hx : Passes CX X (fun _ _ _ => False)) (hg : Gl X x) (hm : X.mg x = some (.ref C)) (ha : PA X (e :: es) ta)
    (hdb : (x == ("__debug__" : Str)) = false := by decide)
    (he : starEach (e :: es) X.env = (false, eval e X.env) :: starEach es X.env := by rfl)
    (hpl : (backTo pos (starEach es X.env)).any (·.1) = false := by rfl) :
    PE X (.Call (.Name x p) (e :: es) [] pos) (tMkV C sp ta) := by
  refine ⟨fun pins s σ H Q I h => ?_⟩
  obtain ⟨nm, q, N, bs, bm, sn, sub, ab, col, dd, k0, k1, k2, k3, k5, hC, U, _, _⟩ := T.cls
  refine wpAny_Call_Name_kw (ld_glob I hg hm ?_ hdb)
  refine PySem.W.callWith_K (h₀ := X.base) I.ok.mod.kin T.kC
    (thn (ha.run pos pins s σ H _ I h) fun us s1 ⟨vs, H1, I1, r1, hz, q1⟩ => ⟨I1.kIn, ?_⟩) he hpl
  show wpAny _ _ (call (.ref C) us) _ _ _
  obtain ⟨hp, g, dr, tk, os⟩ := s1
  have hsz : hp.objs.size ≤ hp.objs.size + 1 := Nat.le_succ _
  have hn : H1 (hp.objs.size + 1) = none := I1.hok.fresh hsz
  have hq := q1 (hp.objs.size + 1) hn
  have kk : ∀ b o, hp.get? b = some o → ((hp.push (PySem.W.kdv_tup us)).push (excO C hp.objs.size)).get? b = some o :=
    fun b o e => Heap.get?_push_of_some _ (Heap.get?_push_of_some _ e)
  have hget : ((hp.push (PySem.W.kdv_tup us)).push (excO C hp.objs.size)).get? (hp.objs.size + 1)
      = some (excO C hp.objs.size) := by heap_get
  have I2 : Inv X pins σ (upd H1 (hp.objs.size + 1) (exo (hp.objs.size + 1) C none))
      ⟨(hp.push (PySem.W.kdv_tup us)).push (excO C hp.objs.size), g, dr, tk, os⟩ :=
    I1.laid (t' := tk) (a := hp.objs.size + 1) (o := exo (hp.objs.size + 1) C none)
      (h' := (hp.push (PySem.W.kdv_tup us)).push (excO C hp.objs.size)) kk hsz (exo_ok hget)
  have r2 : Vals (V.ref (hp.objs.size + 1) :: vs) (Value.ref (hp.objs.size + 1) :: us) := .cons rfl r1
  have hl : (Value.ref (hp.objs.size + 1) :: us).length = ps.length := by
    have e := r2.length
    rw [F1.len _ _ _ _ hq] at e
    exact e.symm
  have hus : us.length ≤ sizeLine := by
    rw [← Paired.length r1, sizeLine_eq]
    omega
  have hbb := hb ⟨(hp.push (PySem.W.kdv_tup us)).push (excO C hp.objs.size), g, dr, tk, os⟩
    (Value.ref (hp.objs.size + 1) :: us) I2.kIn (by simpa using hl)
  refine wpAny_call (classCalled T.base U (I1.kIn _ _ hC) (PySem.W.looks_findIn I1.kIn iC)
    (fun self => PySem.W.bind_fn I1.kIn self tI) hus
    (codeAny_mono (F1.run _ X.stack _ _ ⟨Value.ref (hp.objs.size + 1) :: us, []⟩ (Value.ref (hp.objs.size + 1) :: us) _ _ (fun _ _ _ => False)
      (hr.make C us []) (I2.env0.make C us []) (by simpa using hbb) r2 hq) fun r s' hq' => ?_))
  cases r with
  | error er => exact hx pins σ _ _ er s' I2 hq'
  | ok fl =>
    cases fl with
    | ret u =>
      obtain ⟨v, H2, os2, bare2, un2, hok2, rv, ev, q2⟩ := hq'
      subst ev
      have J : Inv X pins σ H2 s' := I2.call' (ch := []) os2 un2 hok2 bare2 (fun b z => absurd z (by simp))
      exact ⟨rv, .ref (hp.objs.size + 1), H2, J, rfl, q2⟩
    | next => exact False.elim hq'
    | brk => exact False.elim hq'
    | cont => exact False.elim hq'
end
end Gx

set_option Elab.async false
set_option linter.all false
set_option maxRecDepth 100000
set_option maxHeartbeats 4000000
namespace Gx
open PySem PySem.Spec PySem.Calls PyProof.Rows PySem.HandSPX L2
/-! isinstance of an error object that is held, and the reading of its fields -/
section
open PySem.W
variable {prog : Program} {w : World} {A : Around} {E : Value → Shared → Prop} {s : Shared} {K : Frag} {x D : Addr} {ox : Obj} {od : Option Obj}
theorem classAsked {Q : Option Value → Shared → Prop} (T : ExcC K D) (X : K.In s.heap) (I : InstAt s.heap x ox D od)
    (h : Q (some (.ref D)) { s with toks := s.toks + 1 }) :
    wpAny (model prog w) A (getAttr? (.ref x) "__class__") Q E s := by
  have hi : (clsIn K D).isSome = true := by
    obtain ⟨cd, hc, _⟩ := any_some T.hd
    rw [hc]
    rfl
  have hf : findObj K D od "__class__" = some (.bind (.builtin "getset_descriptor.__get__") (.builtin "object.__class__")) := by
    cases od with
    | none => exact findObj_dataN hi T.ha T.hn T.ht
    | some o => exact findObj_data hi T.ha T.hn T.ht
  obtain ⟨hp, g, d, t, os⟩ := s
  have L0 := I.type (M := model prog w)
  have L1 := looks_findIn (M := model prog w) X T.hg
  have L2 := looks_findIn (M := model prog w) X T.hk
  have L3 := looks_find (M := model prog w) X I hf
  have sub : Looks (model prog w) hp (isInstance (.ref x) (.type "BaseException")) true :=
    L0.andThen (looks_subIn X T.hs)
  have n0 : (false && onTheHeap (Value.builtin "BaseException.__getattribute__")) = false := rfl
  have n2 : (Value.builtin "BaseException.__getattribute__" == Value.builtin "object.__getattribute__") = false := by
    decide +kernel
  have n1 : (onTheHeap (Value.ref D) &&
      Value.builtin "BaseException.__getattribute__" == Value.builtin "object.__getattribute__") = false := by
    rw [n2]
    rfl
  unfold getAttr? getAttrBy? getAttrBy
  refine wpAny_bind (wpAny_mkText (wpAny_bind (wpAny_attempt (wpAny_holding
    (wpAny_bind (L0.at (wpAny_bind (L1.at ?_))))))))
  show wpAny _ _ (if (onTheHeap (Value.ref D) &&
    Value.builtin "BaseException.__getattribute__" == Value.builtin "object.__getattribute__") = true then _ else _) _ _ _
  rw [n1, if_neg Bool.false_ne_true]
  unfold getAttrByItsOwn hookBefore
  refine wpAny_bind ?_
  rw [if_pos (show onTheHeap (Value.ref D) = true from rfl)]
  refine L2.at ?_
  refine wpAny_bind (wpAny_attempt (wpAny_holding ?_))
  unfold callGetattribute
  rw [n0, if_neg Bool.false_ne_true]
  unfold boundAndCalled
  rw [PySem.F.excAttr_ValueError.ga.bind (.ref x)]
  refine wpAny_bind (wpAny_pure ?_)
  show wpAny _ _ (call (.builtin "BaseException.__getattribute__") [.ref x, .str "__class__" t]) _ _ _
  refine wpAny_call (codeAny_call_builtin PySem.F.excAttr_ValueError.ga.plain PySem.F.entry_bexc_ga ?_)
  refine @check_slot (model prog w) _ _ ⟨hp, g, d, t + 1, os⟩ "BaseException.__getattribute__" "BaseException"
    "__getattribute__" (.ref x) [.str "__class__" t] [] _ (by decide +kernel) (by decide +kernel) sub
    (PySem.F.args_bexc_ga (.ref x) (.str "__class__" t)) ?_
  unfold Builtin.«object.__getattribute__»
  refine wpAny_bind (wpAny_of_eq (a := ((Value.ref x : Value), [Value.str "__class__" t]))
    (by first | rfl | (simp only [slotArgs]; rfl)) ?_)
  refine wpAny_bind (wpAny_pure (wpAny_bind (L0.at (wpAny_bind (L3.at ?_)))))
  show wpAny _ _ (holding [Value.builtin "object.__class__"]
    (call (.builtin "getset_descriptor.__get__") [.builtin "object.__class__", .ref x, .ref D]) >>= ret) _ _ _
  refine wpAny_bind (wpAny_holding (wpAny_call
    (class_get (s := ⟨hp, g, d, t + 1, os⟩) (ox := ox) (od := od) X I T.hm ?_)))
  refine wpAny_pure ?_
  show wpAny _ _ (handedOut (.ref D)) _ _ _
  rw [handedOut_of (v := .ref D) rfl]
  first
    | exact wpAny_pure (wpAny_pure h)
    | exact wpAny_pure h
    | exact wpAny_pure (wpAny_bind (wpAny_pure (wpAny_pure h)))
theorem kitErr (T : ExcC K D) : KitX K (.ref x) (.ref D) (fun h => InstAt h x ox D od) where
  ty := fun _ _ _ I => I.type
  it := fun _ _ X _ => by
    obtain ⟨cd, hc, _⟩ := any_some T.hd
    unfold clsIn at hc
    split at hc
    · rename_i c' d' cd' sl' ho
      intro A' Q' E' s' k q
      unfold isType loadHead
      exact wpAny_bind (wpAny_loadPart (k _ _ (X _ _ ho)) (wpAny_pure q))
    · cases hc
  ne := fun h tp dd its n sl X htp => by
    obtain ⟨cd, hc, _⟩ := any_some T.hd
    refine Bool.eq_false_iff.mpr fun q => ?_
    have e : D = tp := Value.ref.inj (beq_iff_eq.mp q)
    subst e
    unfold clsIn at hc
    split at hc
    · rename_i c' d' cd' sl' ho
      have z := (X _ _ ho).symm.trans htp
      cases z
    · cases hc
  ca := fun X I k => classAsked T X I k
end

/-- at a stands a held error of the class at D -/
inductive ErrAt (H : Hp) (a D : Addr) : Prop where
  | plain (h : H a = some (ExO (.ref D) a)) : ErrAt H a D
  | own (d : Addr) (fs : List (Str × V)) (h : H a = some (exo a D (some d))) (hd : H d = some (exd d fs)) : ErrAt H a D
/-- isinstance(x, c), x a held error -/
def rIsX (K : PySem.W.Frag) : List V → Hp → VK → Prop := fun xs H Q =>
  ∃ (a D : Addr) (c : V) (u : Value) (b : Bool), xs = [.ref a, c] ∧ ErrAt H a D ∧ ExcC K D ∧ ClsV c u ∧
    PySem.W.kitOne K (.ref D) u = some b ∧ Q (.bl b) H
section
variable {X : Cx}
theorem call_isX : CallR X (.builtin "isinstance") (rIsX X.K) := by
  intro pins s σ H xs us Q I r h
  obtain ⟨a, D, c, u, b, rfl, hE, T, k, e, q⟩ := h
  obtain ⟨u1, u2, rfl, r1, r2⟩ := vals2 r
  have e2 := k.eq r2
  subst e2
  cases (show u1 = Value.ref a from r1)
  cases hE with
  | plain h1 =>
    obtain ⟨⟨oe, vs, ho, hz, hd, _⟩, _, _⟩ := I.hok a _ h1
    obtain ⟨oc, odd, oda, osl⟩ := oe
    obtain ⟨z1, z2⟩ := hz
    dsimp only at z1 z2 hd
    subst z1 z2 hd
    exact PySem.W.kia_one (kitErr (od := none) T) I.kIn ⟨ho, rfl, rfl, trivial⟩ e (fun z => nomatch z)
      fun tk => ⟨.bl b, H, I.tok tk, rfl, q⟩
  | own d fs h1 h2 =>
    obtain ⟨t0, ho⟩ := exo_at I.hok h1
    obtain ⟨mA, hns, _⟩ := exd_at I.hok h2
    obtain ⟨od, hod, _⟩ := lookIn_ns hns
    exact PySem.W.kia_one (kitErr (od := some od) T) I.kIn ⟨ho, rfl, rfl, hod⟩ e (fun z => nomatch z)
      fun tk => ⟨.bl b, H, I.tok tk, rfl, q⟩
/-- e.f, e a held error with its own fields -/
def tFget (K : PySem.W.Frag) (f : Str) (te : TE) : TE := fun σ H Q => te σ H fun x H1 =>
  ∃ (a C d : Addr) (fs : List (Str × V)) (v : V), x = .ref a ∧ XfC K C ∧ PySem.W.findIn K (.ref C) f = some none ∧
    H1 a = some (exo a C (some d)) ∧ H1 d = some (exd d fs) ∧ fs.lookup f = some v ∧ Q v H1
theorem pe_fget {e : Expr} {te : TE} {pos : Pos} {n : Str} (he : PE X e te)
    (hb : attributeBase e n X.env (eval e X.env) = eval e X.env := by rfl) :
    PE X (.Attribute e n pos) (tFget X.K n te) := by
  refine ⟨fun pins s σ H Q I h => ?_⟩
  refine attr_of hb (thn (he.run pins s σ H _ I h) fun u s1 hh => ?_)
  obtain ⟨x, H1, I1, rx, a, C, d, fs, v, ex, T, hno, h1, h2, l, q⟩ := hh
  subst ex
  obtain rfl : u = Value.ref a := rx
  obtain ⟨t0, ho⟩ := exo_at I1.hok h1
  obtain ⟨mA, hns, hr⟩ := exd_at I1.hok h2
  obtain ⟨od, hod, hl⟩ := lookIn_ns hns
  obtain ⟨u, hu, ru⟩ := RelO.some_of (v := v) (o := mA n) (by rw [← l]; exact hr n)
  exact HandSPX.exc_get I1.kIn (od := some od) ⟨ho, rfl, rfl, hod⟩ T.ga T.gg T.exC
    (PySem.W.findObj_own T.hdC hno rfl (by rw [hl, hu])) (handed_of ru) ⟨v, H1, I1.tok _, ru, q⟩
end
end Gx

set_option Elab.async false
set_option linter.all false
set_option maxRecDepth 100000
set_option maxHeartbeats 4000000
namespace Gx
open PySem PySem.Spec PyProof.Rows L2
/-! defs that are called where no repr is under way: as FnOk, with that said of what runs around -/
structure FnG (P : Program) (w : World) (K : PySem.W.Frag) (mg : Str → Option Value) (base : Heap) (CX : CXT) (k : Nat) (f : Addr) (fd : FuncData) (ps : List Str) (sp : Sp) : Prop where
  len : ∀ vs H Q E, sp vs H Q E → vs.length = ps.length
  run : ∀ (A : Around) (outer : List Env) (s : Shared) (H : Hp) (args : Args) (us : List Value) (vs : List V) (Q : VK) (E : XK),
    A.guards = some [] → Room k A → Env0 P w K mg base A outer s H → BindsTo s fd args (ps.zip us) → Vals vs us → sp vs H Q E →
    codeAny (model P w) A (.call (.ref f) args) (CR CX outer P w H s Q E) s
section
variable {P : Program} {w : World} {K : PySem.W.Frag} {mg : Str → Option Value} {base : Heap} {CX : CXT} {k : Nat} {f : Addr} {fd : FuncData} {ps N : List Str} {sp : Sp}
theorem FnG.of (F : FnOk P w K mg base CX k f fd ps sp) : FnG P w K mg base CX k f fd ps sp :=
  ⟨F.len, fun A outer s H args us vs Q E _ => F.run A outer s H args us vs Q E⟩
theorem FnG.mono {j : Nat} (F : FnG P w K mg base CX j f fd ps sp) (h : j ≤ k) : FnG P w K mg base CX k f fd ps sp :=
  ⟨F.len, fun A outer s H args us vs Q E hg hr => F.run A outer s H args us vs Q E hg (hr.mono h)⟩

theorem fnG_of {name qual : Str} {params : Arguments} {body : List Stmt} {scope : Scope} {dV kV doc pm cdv ct oc : Value} {an od : Option Addr} {osl : Array (Option Value)}
    (lk : K.lookup f = some ⟨oc, od, .func (PySem.W.fnOf name qual params body scope dV kV doc pm an cdv ct), osl⟩)
    (hcd : PySem.W.codeIn K cdv qual = true) (S : FnScope N ps scope) (len : ∀ vs H Q E, sp vs H Q E → vs.length = ps.length)
    (hbody : ∀ (A : Around) (outer : List Env) (s : Shared) (H : Hp) (vs : List V) (Q : VK) (E : XK), A.guards = some [] →
      Room k (A.deeper (envOfC qual scope s.heap.objs.size f cdv)) → sp vs H Q E →
      ∃ t, PSs (cxOf CX P w K mg base N qual scope f cdv A outer s H E) body t ∧
        t { nx := fun _ H' => Q .non H', rt := Q } (start N vs) H) :
    FnG P w K mg base CX (k + 1) f (PySem.W.fnOf name qual params body scope dV kV doc pm an cdv ct) ps sp := by
  refine ⟨len, fun A outer s H args us vs Q E hgd hr e0 hb r hsp => ?_⟩
  have hl := len _ _ _ _ hsp
  have back : ∀ b o, base.get? b = some o → s.heap.get? b = some o := fun b o e => (e0.bs b o e).1
  have KX : K.In s.heap := e0.mod.kin.keeps back
  have lim : s.heap.NoLimit := e0.mod.nolimit.keeps back
  refine codeAny_call_function hr.depth (KX _ _ lk) rfl S.co S.gen rfl (PySem.W.codeRec_of KX hcd) (hb _ _ _ _ ?_)
  refine wpAny_newFunctionEnv_cells S.kind (fun y hy => ?_) fun env he s1 x => ?_
  · obtain ⟨n, v⟩ := y
    rcases S.par n (List.of_mem_zip hy).1 with q | q
    · exact .inl q
    · exact .inr ⟨q, PySem.W.cellsFrom_some _ _ _ (.inl q)⟩
  subst he
  refine ⟨lim.keeps x.toInCall.keep, codeAny_func ?_⟩
  obtain ⟨t, ht, hq⟩ := hbody A outer s H vs Q E hgd (hr.deeper _) hsp
  have I := inv_start (CX := CX) (E := E) (mg := mg) S hr.hd e0 hl r x
  refine wpAny_mono (ht.run [] s1 (start N vs) H _ I hq) (fun fl s' hs => ?_) fun e s' hs => hs
  cases fl with
  | ret u =>
    obtain ⟨v, σ', H', J, rv, q⟩ := hs
    exact ⟨v, H', J.os, J.bare, J.base, J.hok, rv, q⟩
  | next =>
    obtain ⟨σ', H', J, q⟩ := hs
    exact ⟨.non, H', J.os, J.bare, J.base, J.hok, rfl, q⟩
  | brk =>
    obtain ⟨_, _, _, q⟩ := hs
    exact q.elim
  | cont =>
    obtain ⟨_, _, _, q⟩ := hs
    exact q.elim
/-- a def by its body, no error leaving it -/
theorem okG {x qual : Str} {st : Stmt} (F : Fun K x qual st f fd) (S : FnScope N ps (defScope st)) (len : ∀ vs H Q E, sp vs H Q E → vs.length = ps.length)
    (hbody : ∀ (cdv : Value) (A : Around) (outer : List Env) (s : Shared) (H : Hp) (vs : List V) (Q : VK) (E : XK), A.guards = some [] →
      Room k (A.deeper (envOfC qual (defScope st) s.heap.objs.size f cdv)) → sp vs H Q E →
      ∃ t, PSs (cxOf CX0 P w K mg base N qual (defScope st) f cdv A outer s H E).nox (defBody st) t ∧
        t { nx := fun _ H' => Q .non H', rt := Q } (start N vs) H) :
    FnG P w K mg base CX0 (k + 1) f fd ps sp := by
  obtain ⟨oc, od, kV, doc, pm, an, cdv, ct, osl, rfl, lk, hcd⟩ := F.ex
  refine fnG_of lk hcd S len fun A outer s H vs Q E hg hr hsp => ?_
  obtain ⟨t, h, q⟩ := hbody cdv A outer s H vs Q E hg hr hsp
  exact ⟨t, h.nox, q⟩
end

section
variable {X : Cx} {CX : CXT} {k : Nat} {f : Addr} {fd : FuncData} {ps : List Str} {sp : Sp} {dvs : List V} {ds : List Value} {E : XK} {x : Str} {p pos : Pos} {e : Expr} {es : List Expr} {t : TA}
theorem runG {pins : List (Addr × Obj)} {σ : L2.St} {H : Hp} {s : Shared} {Q : VK} {us : List Value} {vs : List V}
    (F : FnG X.prog X.w X.K X.mg X.base CX k f fd ps sp) (hgd : X.A.guards = some []) (hr : Room k X.A) (hb : Binds X.K fd ps ds)
    (hd : Vals dvs ds) (hx : Passes CX X E) (I : Inv X pins σ H s) (r : Vals vs us) (h : sp (vs ++ dvs) H Q E) :
    wpAny (model X.prog X.w) X.A (call (.ref f) us) (EP X pins σ Q) X.xe s := by
  have r2 : Vals (vs ++ dvs) (us ++ ds) := r.append hd
  have hl : (us ++ ds).length = ps.length := by
    rw [← r2.length]
    exact F.len _ _ _ _ h
  have hrun := F.run X.A X.stack s H ⟨us, []⟩ (us ++ ds) (vs ++ dvs) Q E hgd hr I.env0 (hb s us I.kIn hl) r2 h
  refine wpAny_call (codeAny_mono hrun fun r s' hq => ?_)
  cases r with
  | error e => exact hx pins σ H s e s' I hq
  | ok fl =>
    cases fl with
    | ret u => exact I.after hq
    | next => exact hq.elim
    | brk => exact hq.elim
    | cont => exact hq.elim
theorem pe_callG (F : FnG X.prog X.w X.K X.mg X.base CX k f fd ps sp) (hgd : X.A.guards = some []) (hr : Room k X.A) (hg : Gl X x)
    (hm : X.mg x = some (.ref f)) (hk : PySem.W.keepIn X.K (.ref f) = true) (hb : Binds X.K fd ps ds) (hd : Vals dvs ds)
    (hx : Passes CX X E) (ha : PA X (e :: es) t) (hdb : (x == ("__debug__" : Str)) = false := by decide)
    (he : starEach (e :: es) X.env = (false, eval e X.env) :: starEach es X.env := by rfl)
    (hpl : (backTo pos (starEach es X.env)).any (·.1) = false := by rfl) :
    PE X (.Call (.Name x p) (e :: es) [] pos) (tCall sp dvs E t) := by
  refine ⟨fun pins s σ H Q I h => ?_⟩
  refine wpAny_Call_Name_kw (ld_glob I hg hm ?_ hdb)
  refine PySem.W.callWith_K (h₀ := X.base) I.ok.mod.kin hk ?_ he hpl
  exact thn (ha.run pos pins s σ H _ I h) fun us s1 ⟨vs, H1, I1, r, q⟩ =>
    ⟨I1.kIn, runG F hgd hr hb hd hx I1 r q⟩

/-- repr(x), x data of any depth (no dict in it) -/
def rShow (K : PySem.W.Frag) : List V → Hp → VK → Prop := fun xs H Q => ∃ (v : V) (d : PyData), xs = [v] ∧ Dp K H v d ∧
  d.showable = true ∧ d.hasDict = false ∧ d.depth ≤ 20 ∧ d.shown.length ≤ sizeLine ∧ Q (.str d.shown) H
theorem call_show (hgd : X.A.guards = some []) (hr : Room k X.A) : CallR X (.builtin "repr") (rShow X.K) := by
  intro pins s σ H xs us Q I r h
  obtain ⟨v, d, rfl, hv, hs, hdd, hdp, hz, q⟩ := h
  obtain ⟨u, rfl, ru⟩ := vals1 r
  have un := hr.un
  cases hv with
  | non =>
    cases (show u = Value.none from ru)
    exact PySem.P.repr_of_none ⟨.str _, H, I.tok _, ⟨_, rfl⟩, q⟩
  | bl b =>
    cases (show u = Value.bool b from ru)
    exact PySem.P.repr_of_bool ⟨.str _, H, I.tok _, ⟨_, rfl⟩, q⟩
  | int i =>
    obtain ⟨t, rfl⟩ := (show ∃ t, u = Value.int i t from ru)
    exact PySem.P.repr_of_int (of_decide_eq_true hs) ⟨.str _, H, I.tok _, ⟨_, rfl⟩, q⟩
  | str y =>
    obtain ⟨t, rfl⟩ := (show ∃ t, u = Value.str y t from ru)
    exact PySem.P.repr_of_str ⟨.str _, H, I.tok _, ⟨_, rfl⟩, q⟩ hz
  | @lst a vs ds h1 h2 =>
    cases (show u = Value.ref a from ru)
    obtain ⟨as, rd⟩ := Dp.reads I (.list ds) (.ref a) (.ref a) (.lst h1 h2) rfl
    exact repr_of_reads' rd hs (fun z => by rw [hdd] at z; cases z) hgd (by omega) (fun _ _ e => e)
      (fun h' u tk hk => ⟨.str _, H, I.kept hk, ⟨_, rfl⟩, q⟩) hz
  | @tup a vs ds h1 h2 =>
    cases (show u = Value.ref a from ru)
    obtain ⟨as, rd⟩ := Dp.reads I (.tuple ds) (.ref a) (.ref a) (.tup h1 h2) rfl
    exact repr_of_reads' rd hs (fun z => by rw [hdd] at z; cases z) hgd (by omega) (fun _ _ e => e)
      (fun h' u tk hk => ⟨.str _, H, I.kept hk, ⟨_, rfl⟩, q⟩) hz
end
end Gx

set_option Elab.async false
set_option linter.all false
set_option maxRecDepth 100000
set_option maxHeartbeats 4000000
namespace Gx
open PySem PySem.Spec PyProof.Rows L2
/-! the end of a law's row, by a promise of its def where no repr is under way -/
section
variable {P : Program} {w : World} {K : PySem.W.Frag} {mg mb : Str → Option Value} {CX : CXT} {k : Nat} {fa a : Addr} {fd : FuncData} {x : Str} {sp : Sp} {s₁ : Shared} {vs : List Value} {ns : List Int}
/-- what the law's call must come to -/
abbrev LawEnd (s₁ : Shared) : Result → Shared → Prop := fun r s' =>
  r = .ok (.ret (.bool true)) ∧ OldK s₁.heap s'.heap ∧ s'.os = s₁.os ∧ AllBare s'.gens
theorem lawAt {H : Hp} (KX : K.In s₁.heap) (hns : s₁.heap.Ns mainGlobals mg) (hb : s₁.heap.Ns builtinsNs mb)
    (hbb : ∀ x : Str, x ≠ "__name__" → mb x = bootBuiltins x) (hlim : s₁.heap.NoLimit) (hg : s₁.gens = #[])
    (ha : s₁.heap.get? a = some { cls := .type "list", data := .seq vs.toArray }) (hr : Room k callerA)
    (F : ∀ base : Heap, K.In base → base.Ns mainGlobals mg → FnG P w K mg base CX k fa fd [x] sp)
    (hbind : ∀ (s : Shared) (u : Value), BindsTo s fd ⟨[u], []⟩ [(x, u)])
    (hsp : sp [.ref a] H (fun v _ => v = .bl true) fun _ _ _ => False)
    (hCX : ∀ H e s', CX [] H s₁ (fun _ _ _ => False) e s' → False)
    (hO : Only H) (hok : HOk P w H s₁.heap) (hA : ∀ b, H b ≠ none → b = a) (hK : H a ≠ none → K.lookup a = none) :
    codeAny (model P w) callerA (.call (.ref fa) ⟨[.ref a], []⟩) (LawEnd s₁) s₁ := by
  have eqa : ∀ {b : Addr} {u : HO}, H b = some u → b = a := fun {b u} q => hA b (by rw [q]; simp)
  have dictFree : ∀ {b : Addr} {o : Obj} {es : Array DictEntry} {ep : Nat}, s₁.heap.get? b = some o →
      o.data = .dict es ep → H b = none := fun {b o es ep} e d => by
    cases q : H b with
    | none => rfl
    | some u =>
      cases eqa q
      rw [ha] at e
      cases e
      have d' : Data.seq vs.toArray _ = Data.dict es ep := d
      cases d'
  have nsK : ∀ {b : Addr} {m : Str → Option Value}, s₁.heap.Ns b m → (hidT s₁.heap H).Ns b m :=
    fun {b m} ⟨o, es, ep, e, d, r⟩ => ⟨o, es, ep, hidT_get e (dictFree e d), d, r⟩
  have kFree : ∀ {b : Addr} {o : Obj}, K.lookup b = some o → H b = none := fun {b o} e => by
    cases q : H b with
    | none => rfl
    | some u =>
      cases eqa q
      rw [hK (by rw [q]; simp)] at e
      cases e
  have hKb : K.In (hidT s₁.heap H) := fun b o e => hidT_get (KX b o e) (kFree e)
  obtain ⟨mc, l1, l2⟩ := hlim
  have hM : Mod K mg (hidT s₁.heap H) := ⟨hKb, nsK hns, ⟨mb, nsK hb, hbb⟩, ⟨mc, nsK l1, l2⟩⟩
  have nofr : ∀ b ∈ frs [], H b = none := fun b z => absurd (show b ∈ ([] : List Addr) from z) (by simp)
  have e0 : Env0 P w K mg (hidT s₁.heap H) callerA [] s₁ H :=
    ⟨rfl, hM, fun b o e => of_hidT e, Nat.le_of_eq (hidT_size _ _), trivial, nofr, hok, .of_eq hg⟩
  have hrun := (F _ hKb (nsK hns)).run callerA [] s₁ H ⟨[.ref a], []⟩ [.ref a] [.ref a] _ _ rfl hr e0
    (hbind s₁ (.ref a)) (.cons rfl .nil) hsp
  refine codeAny_mono hrun fun r s' h => ?_
  cases r with
  | error e => exact (hCX H e s' h).elim
  | ok fl =>
    cases fl with
    | next => exact h.elim
    | brk => exact h.elim
    | cont => exact h.elim
    | ret u =>
      obtain ⟨v, H', os, bare, un, hok', r', q⟩ := h
      cases (show v = .bl true from q)
      cases (show u = Value.bool true from r')
      refine ⟨rfl, OldK.of_keep fun b o e => ?_, os, bare⟩
      cases q : H b with
      | none =>
        refine un.keep b o e q (fun z => ?_) (by simp)
        exact absurd (show b ∈ ([] : List Addr) from z) (by simp)
      | some u =>
        rcases hO b with z | ⟨ob, xs, z⟩
        · rw [q] at z
          cases z
        · obtain ⟨e1, _⟩ := hok b _ z
          obtain ⟨e2, _⟩ := hok' b _ (un.frzs b ob _ z)
          rw [e] at e1
          cases e1
          exact e2
theorem lawG (KX : K.In s₁.heap) (hns : s₁.heap.Ns mainGlobals mg) (hb : s₁.heap.Ns builtinsNs mb)
    (hbb : ∀ x : Str, x ≠ "__name__" → mb x = bootBuiltins x) (hlim : s₁.heap.NoLimit) (hg : s₁.gens = #[])
    (ha : s₁.heap.get? a = some { cls := .type "list", data := .seq vs.toArray }) (hi : IntsAre vs ns) (hl : ns.length ≤ sizeLine) (hr : Room k callerA)
    (F : ∀ base : Heap, K.In base → base.Ns mainGlobals mg → FnG P w K mg base CX k fa fd [x] sp)
    (hbind : ∀ (s : Shared) (u : Value), BindsTo s fd ⟨[u], []⟩ [(x, u)])
    (hsp : ∀ H : Hp, Only H → SqL K H a (ns.map V.int) → sp [.ref a] H (fun v _ => v = .bl true) fun _ _ _ => False)
    (hCX : ∀ H e s', CX [] H s₁ (fun _ _ _ => False) e s' → False) :
    codeAny (model P w) callerA (.call (.ref fa) ⟨[.ref a], []⟩) (LawEnd s₁) s₁ := by
  have rv := vals_ints hi
  have lenV := hi.length
  cases hk : K.lookup a with
  | some o =>
    have e := KX a o hk
    rw [ha] at e
    cases e
    refine lawAt (H := fun _ => none) KX hns hb hbb hlim hg ha hr F hbind (hsp _ (fun _ => .inl rfl) (.inr ⟨_, vs.toArray, _, hk, rfl, rfl, rfl, ?_, ?_⟩)) hCX
      (fun _ => .inl rfl) (fun b u z => ?_) (fun b z => absurd rfl z) fun z => absurd rfl z
    · rw [List.size_toArray, lenV]
      exact hl
    · simpa using rv
    · have z' : (none : Option HO) = some u := z
      cases z'
  | none =>
    let ob : Obj := { cls := .type "list", data := .seq vs.toArray }
    let H : Hp := fun b => if b = a then some (.frz ob (.lst (ns.map V.int))) else none
    have hO : Only H := fun b => by
      by_cases hb : b = a
      · exact .inr ⟨_, _, if_pos hb⟩
      · exact .inl (if_neg hb)
    refine lawAt (H := H) KX hns hb hbb hlim hg ha hr F hbind (hsp H hO (.inl (.inr ⟨ob, if_pos rfl⟩))) hCX hO (fun b u z => ?_) (fun b z => ?_) fun _ => hk
    · by_cases hb : b = a
      · have z' := (if_pos hb).symm.trans z
        cases z'
        subst hb
        refine ⟨ha, ?_, vs, _, rv, ha⟩
        rw [List.length_map]
        exact hl
      · have z' := (if_neg hb).symm.trans z
        cases z'
    · by_cases hb : b = a
      · exact hb
      · exact absurd (if_neg hb) z
end
/-- the goal that k_head leaves, from the law's promise -/
theorem walkG {l : PySem.W.OpenLaw} {n k : Nat} {q : Program} {loose : List Str} {XP : (Str → Option Value) → Heap → Prop} {YP : World → Heap → Prop} {d : DefRec} {K : Params → PySem.W.Frag} {sp : World → Sp} {x : Str}
    (hn : l.most = some n) (hn2 : n ≤ sizeLine) (hdf : d.params.defaults = []) (hr : Room k callerA)
    (hY : ∀ (w : World) (h : Heap), YP w h → (K w.params).In h)
    (F : ∀ (w : World) (mg : Str → Option Value) (fa : Addr) (h : Heap), (K w.params).In h → h.Ns mainGlobals mg → mg d.name = some (.ref fa) →
      ∃ fd : FuncData, (∀ (s : Shared) (u : Value), BindsTo s fd ⟨[u], []⟩ [(x, u)]) ∧
        ∀ base : Heap, (K w.params).In base → base.Ns mainGlobals mg → FnG l.prog w (K w.params) mg base CX0 k fa fd [x] (sp w))
    (hsp : ∀ (w : World) (H : Hp) (a : Addr) (ns : List Int), ns.length ≤ n → Only H → SqL (K w.params) H a (ns.map V.int) →
      sp w [.ref a] H (fun v _ => v = .bl true) fun _ _ _ => False) :
    PySem.W.WalkO q loose XP YP l.row.toRowW d [] (fun f vs => PySem.call f vs) := by
  refine Att.attach_call hn hdf fun w s₀ s₁ mg mb fa o pm cd doc a vs ns G Y ho hd hcd hmg hobj hints hlen hg => ?_
  have KX := hY w _ Y
  obtain ⟨fd, hb, hF⟩ := F w mg fa _ KX G.T.g hmg
  exact lawG KX G.T.g G.T.b G.T.builtins G.T.nolimit hg hobj hints (Nat.le_trans hlen hn2) hr hF hb
    (fun H hO hS => hsp w H a ns hlen hO hS) fun H e s' z => z
end Gx

set_option Elab.async false
set_option linter.all false
set_option maxRecDepth 100000
set_option maxHeartbeats 4000000
namespace Gx
open PySem PySem.Spec PyProof.Rows L2
/-! comprehensions of any kind, with one clause or two: one lemma for a clause's loop, over what is done in each of its turns -/
/-- one turn of a clause's loop: what is done with an item that passes the tests is `emit` -/
def turnOf (c : Expr) (k : Nat) (t i : Expr) (ifs : List Expr) (it acc : Value) (env : Env) (emit : Sem Unit) : Sem Fin := do
  standAt i.pos
  match ← pyNext it with
  | none => pure (.done .next)
  | some v =>
    letOwnedTupleGo t it v
    assign t env v
    let mut ok := true
    for x in ifs do
      if ok then ok ← isTrue x env (eval x env)
    if ok then
      emit
    again (.compLoop c k it acc env)
/-- what the tests of a clause come to -/
abbrev testsOf (ifs : List Expr) (env : Env) : Sem Bool := forIn ifs true fun c r =>
  if r = true then do
    let ok ← isTrue c env (eval c env)
    pure (ForInStep.yield ok)
  else pure (ForInStep.yield r)
/-- what the machine makes of such a loop (rfl where the comprehension is written) -/
structure Plain (c : Expr) (k : Nat) : Prop where
  loopA : ∀ (A : Around) (it acc : Value) (env : Env), A.under (.compLoop c k it acc env) = A
  loopD : ∀ (prog : Program) (w : World) (it acc : Value) (env : Env), (model prog w).den (.compLoop c k it acc env) =
    (compTurn c k it acc env).onRaise (fun x => do noteFrame x env; theTreesLotGoes x)
  loopQ : ∀ (it acc : Value) (env : Env), (Code.compLoop c k it acc env).quiet = true
section
variable {prog : Program} {w : World} {A : Around} {R : Result → Shared → Prop} {s : Shared} {c t i : Expr} {k : Nat} {ifs : List Expr} {it acc : Value} {env : Env} {emit : Sem Unit}
theorem loopBy (hP : Plain c k) (hT : compTurn c k it acc env = turnOf c k t i ifs it acc env emit) (I : Nat → Shared → Prop)
    (turn : ∀ n s, I n s → wpAny (model prog w) A (pyNext it) (fun r s1 => match r with
      | none => R (.ok .next) s1
      | some v => wpAny (model prog w) A (letOwnedTupleGo t it v) (fun _ s2 =>
          wpAny (model prog w) A (assign t env v) (fun _ s3 =>
          wpAny (model prog w) A (testsOf ifs env) (fun ok s4 =>
            if ok = true then wpAny (model prog w) A emit (fun _ s5 => ∃ m, m < n ∧ I m s5) (fun _ _ => False) s4
            else ∃ m, m < n ∧ I m s4) (fun _ _ => False) s3) (fun _ _ => False) s2) (fun _ _ => False) s1)
      (fun _ _ => False) s)
    (n : Nat) (h : I n s) : codeAny (model prog w) A (.compLoop c k it acc env) R s := by
  have ff : ∀ {P : Value → Shared → Prop} (e : Value) (s' : Shared), False → P e s' := fun _ _ z => z.elim
  refine codeAny_loop (hP.loopQ it acc env) I (fun n s hI => ?_) n h
  rw [hP.loopA, hP.loopD]
  refine wpAny_noted ?_
  rw [hT]
  unfold turnOf
  refine wpAny_bind (wpAny_standAt (wpAny_bind (wpAny_mono (turn n s hI) (fun r s1 h1 => ?_) ff)))
  cases r with
  | none => exact wpAny_pure h1
  | some v =>
    refine wpAny_bind (wpAny_mono h1 (fun _ s2 h2 => ?_) ff)
    refine wpAny_bind (wpAny_mono h2 (fun _ s3 h3 => ?_) ff)
    refine wpAny_bind (wpAny_mono h3 (fun ok s4 h4 => ?_) ff)
    cases ok with
    | false => exact wpAny_pure ⟨rfl, h4⟩
    | true =>
      refine wpAny_bind (wpAny_mono h4 (fun _ s5 h5 => ?_) ff)
      exact wpAny_pure ⟨rfl, h5⟩
end
theorem plain_set {elt : Expr} {g : List Comprehension} {sc : Scope} {pos : Pos} {k : Nat} : Plain (.SetComp elt g sc pos) k :=
  ⟨fun _ _ _ _ => rfl, fun _ _ _ _ _ => rfl, fun _ _ _ => rfl⟩
theorem plain_dict {e1 e2 : Expr} {g : List Comprehension} {sc : Scope} {pos : Pos} {k : Nat} : Plain (.DictComp e1 e2 g sc pos) k :=
  ⟨fun _ _ _ _ => rfl, fun _ _ _ _ _ => rfl, fun _ _ _ => rfl⟩

/-- what is asked at each turn of a clause's loop: W its invariant with a measure, End what is reached, em what is done with an item -/
def AtTurn (J : It) (g : TG) (tt : TT) (em : L2.St → Hp → (Hp → Prop) → Prop) (vs : List Nat) (σ : L2.St) (W : Nat → Nat → Hp → Prop) (End : Hp → Prop) : Prop :=
  ∀ j m H, W j m H → (J.stop j H ∧ End H) ∨ (J.go j H ∧ ∃ Nx : Hp → Prop, (∀ H', Nx H' → ∃ m', m' < m ∧ W (j + 1) m' H') ∧
    ∀ x H', J.yld j H x H' → g x (wipe σ vs) H' fun σ2 H2 => wipe σ2 vs = wipe σ vs ∧ tt σ2 H2 fun b H3 =>
      if b = true then em σ2 H3 Nx else Nx H3)
/-- the deed of a turn, in the context Y: behind it nothing is told of the slots vs -/
def Does (Y : Cx) (emit : Sem Unit) (em : L2.St → Hp → (Hp → Prop) → Prop) (vs : List Nat) : Prop :=
  ∀ (pins : List (Addr × Obj)) (s : Shared) (σ : L2.St) (H : Hp) (Nx : Hp → Prop), Inv Y pins σ H s → em σ H Nx →
    wpAny (model Y.prog Y.w) Y.A emit (fun _ s' => ∃ H' : Hp, Inv Y pins (wipe σ vs) H' s' ∧ Nx H') (fun _ _ => False) s
theorem Inv.wiped {Y : Cx} {pins : List (Addr × Obj)} {σ : L2.St} {H : Hp} {s : Shared} (I : Inv Y pins σ H s) (vs : List Nat) : Inv Y pins (wipe σ vs) H s :=
  I.weak (wipe_length σ vs) fun _ _ e => (wipe_some e).1
section
variable {Y : Cx} {c t i : Expr} {k : Nat} {ifs : List Expr} {acc : Value} {emit : Sem Unit} {em : L2.St → Hp → (Hp → Prop) → Prop} {vs : List Nat} {σ : L2.St} {it : Addr} {fp : List Addr} {tn : Nat → Heap → Prop} {J : It} {g : TG} {tt : TT}
  {W : Nat → Nat → Hp → Prop} {End : Hp → Prop} {R : Result → Shared → Prop} {pins : List (Addr × Obj)} {j m : Nat} {H : Hp} {s : Shared}
theorem level (hP : Plain c k) (hc : Y.calm = true) (hx : Y.xe = fun _ _ => False)
    (hT : compTurn c k (.ref it) acc Y.env = turnOf c k t i ifs (.ref it) acc Y.env emit)
    (T : Turn Y.prog Y.w Y.K t J fp it tn) (pg : PG Y t g) (pt : PTs Y ifs tt) (hd : Does Y emit em vs)
    (hf : ∀ H' : Hp, (∀ b ∈ fp, H' b = none) → ∀ b ∈ fp, FpOk Y pins H' b) (turn : AtTurn J g tt em vs σ W End)
    (hend : ∀ s' H', Inv Y pins (wipe σ vs) H' s' → End H' → R (.ok .next) s')
    (I : Inv Y pins (wipe σ vs) H s) (st : tn j s.heap) (hn : ∀ b ∈ fp, H b = none) (hw : W j m H) :
    codeAny (model Y.prog Y.w) Y.A (.compLoop c k (.ref it) acc Y.env) R s := by
  have ff : ∀ {α : Type} {q : Sem α} {Q Q' : α → Shared → Prop} {s' : Shared}, wpAny (model Y.prog Y.w) Y.A q Q Y.xe s' →
      (∀ a s'', Q a s'' → Q' a s'') → wpAny (model Y.prog Y.w) Y.A q Q' (fun _ _ => False) s' := fun h k => by
    rw [hx] at h
    exact wpAny_mono h k fun _ _ z => z
  refine loopBy hP hT (fun n s' => ∃ j' H', Inv Y pins (wipe σ vs) H' s' ∧ tn j' s'.heap ∧ (∀ b ∈ fp, H' b = none) ∧ W j' n H') ?_ m ⟨j, H, I, st, hn, hw⟩
  rintro n s5 ⟨j5, H5, I5, st5, n5, w5⟩
  rcases turn j5 n H5 w5 with ⟨stop, q⟩ | ⟨go, Nx, hNx, step⟩
  · refine thnF (T.done Y rfl rfl rfl hc j5 pins s5 _ H5 (fun _ _ => False) I5 (hf H5 n5) st5 stop) fun r s6 ⟨hr, I6⟩ => ?_
    subst hr
    exact hend s6 H5 I6 q
  · refine thnF (T.item Y rfl rfl rfl hc j5 pins s5 _ H5 (fun _ _ => False) I5 (hf H5 n5) st5 go) fun r s6 ⟨u, hr, h6⟩ => ?_
    subst hr
    refine thnF h6 fun _ s7 ⟨x, H7, I7, r7, y7, st7, n7⟩ => ?_
    have I7' := I7.pinned (hf H7 n7) (T.obj _ _ st7)
    refine ff (pg.run _ s7 _ H7 x u _ I7' r7 (step x H7 y7)) fun _ s8 ⟨σ8, H8, I8, hw8, q8⟩ => ?_
    refine ff (pt.run _ s8 σ8 H8 _ I8 q8) fun b s9 ⟨H9, I9, q9⟩ => ?_
    have fin : ∀ {s' : Shared} {H' : Hp}, Inv Y (pins ++ pinsAt fp s7.heap) (wipe σ8 vs) H' s' → Nx H' →
        ∃ m, m < n ∧ ∃ j' H', Inv Y pins (wipe σ vs) H' s' ∧ tn j' s'.heap ∧ (∀ b ∈ fp, H' b = none) ∧ W j' m H' := fun {s' H'} I' nx => by
      obtain ⟨m', hm, w'⟩ := hNx H' nx
      have pin' : ∀ b ∈ fp, ∀ o, s7.heap.get? b = some o → s'.heap.get? b = some o ∧ H' b = none := fun b hb o e => by
        have z := I'.pin (b, o) (List.mem_append_right _ (List.mem_append_right _ (mem_pinsAt hb e)))
        exact ⟨z.1, z.2.1⟩
      rw [hw8] at I'
      refine ⟨m', hm, j5 + 1, H', I'.unpinned, T.keep _ _ _ st7 fun b hb o e => (pin' b hb o e).1, fun b hb => ?_, w'⟩
      obtain ⟨o, e, _⟩ := T.obj _ _ st7 b hb
      exact (pin' b hb o e).2
    cases b with
    | false =>
      rw [if_neg Bool.false_ne_true] at q9 ⊢
      exact fin (Inv.wiped I9 vs) q9
    | true =>
      rw [if_pos rfl] at q9 ⊢
      refine thnF (hd _ s9 σ8 H9 Nx I9 q9) fun _ s10 ⟨H10, I10, nx⟩ => ?_
      exact fin I10 nx
end

/-- how a clause's loop is begun -/
def startOf (c : Expr) (k : Nat) (i : Expr) (it acc : Value) (env : Env) : Sem Fin := do
  if (← ask).params.followText "comprehension-iter-twice" then return ← again (.compLoop c k it acc env)
  rule "comprehension.iter-twice"
  standAt i.pos
  again (.compLoop c k (← pyIter it) acc env)
structure Begun (c : Expr) (k : Nat) (i : Expr) : Prop where
  startA : ∀ (A : Around) (it acc : Value) (env : Env), A.under (.compStart c k it acc env) = A
  startD : ∀ (prog : Program) (w : World) (it acc : Value) (env : Env), (model prog w).den (.compStart c k it acc env) =
    (compStart c k it acc env).onRaise (fun x => do noteFrame x env; standAt theWindowsPlace)
  start : ∀ (it acc : Value) (env : Env), compStart c k it acc env = startOf c k i it acc env
section
variable {prog : Program} {w : World} {A : Around} {R : Result → Shared → Prop} {s : Shared} {c i : Expr} {k : Nat} {it acc : Value} {env : Env}
theorem startBy (hP : Plain c k) (hB : Begun c k i) (h0 : codeAny (model prog w) A (.compLoop c k it acc env) R s)
    (h : wpAny (model prog w) A (pyIter it) (fun it' s' => codeAny (model prog w) A (.compLoop c k it' acc env) R s') (fun _ _ => False) s) :
    codeAny (model prog w) A (.compStart c k it acc env) R s := by
  refine codeAny_of_tree ?_
  rw [hB.startA, hB.startD]
  refine wpAny_notedAt ?_
  rw [hB.start]
  unfold startOf
  show wpAny _ _ (ask >>= _) _ _ s
  refine wpAny_bind (wpAny_askSetting (wpAny_ite ?_))
  split
  · first
      | exact wpAny_bind (wpAny_pure (wpAny_pure (And.intro (hP.loopQ _ _ _) h0)))
      | exact wpAny_pure (And.intro (hP.loopQ _ _ _) h0)
  · refine wpAny_bind (wpAny_rule ?_)
    refine wpAny_bind (wpAny_standAt ?_)
    refine wpAny_bind (wpAny_mono h (fun it' s' h' => ?_) fun _ _ z => z.elim)
    exact wpAny_pure (And.intro (hP.loopQ _ _ _) h')
end
theorem begun_set {elt t i : Expr} {ifs : List Expr} {gs hs : List Comprehension} {sc : Scope} {pos : Pos} : Begun (.SetComp elt (⟨t, i, ifs, 0⟩ :: gs) sc pos) 0 i :=
  ⟨fun _ _ _ _ => rfl, fun _ _ _ _ _ => rfl, fun _ _ _ => rfl⟩
theorem begun_set1 {elt t i : Expr} {ifs : List Expr} {g : Comprehension} {gs : List Comprehension} {sc : Scope} {pos : Pos} : Begun (.SetComp elt (g :: ⟨t, i, ifs, 0⟩ :: gs) sc pos) 1 i :=
  ⟨fun _ _ _ _ => rfl, fun _ _ _ _ _ => rfl, fun _ _ _ => rfl⟩
theorem begun_dict {e1 e2 t i : Expr} {ifs : List Expr} {gs : List Comprehension} {sc : Scope} {pos : Pos} : Begun (.DictComp e1 e2 (⟨t, i, ifs, 0⟩ :: gs) sc pos) 0 i :=
  ⟨fun _ _ _ _ => rfl, fun _ _ _ _ _ => rfl, fun _ _ _ => rfl⟩
theorem begun_dict1 {e1 e2 t i : Expr} {ifs : List Expr} {g : Comprehension} {gs : List Comprehension} {sc : Scope} {pos : Pos} : Begun (.DictComp e1 e2 (g :: ⟨t, i, ifs, 0⟩ :: gs) sc pos) 1 i :=
  ⟨fun _ _ _ _ => rfl, fun _ _ _ _ _ => rfl, fun _ _ _ => rfl⟩

/-- the deed of the first clause where there is a second one -/
def innerOf (c : Expr) (i1 : Expr) (acc : Value) (env : Env) : Sem Unit := do
  let x ← eval i1 env
  standAt i1.pos
  let x ← foldedSetIterable i1 env x
  let _ ← runOwn (.compStart c 1 (← holding [x] (pyIter x)) acc env) env
/-- what it asks -/
def emIn (wi1 : TI) (g1 : TG) (tt1 : TT) (em1 : L2.St → Hp → (Hp → Prop) → Prop) (vs1 : List Nat) : L2.St → Hp → (Hp → Prop) → Prop := fun σ H Nx =>
  wi1 σ H fun J1 H4 => ∃ W1 : Nat → Nat → Hp → Prop, (∃ m, W1 0 m H4) ∧ AtTurn J1 g1 tt1 em1 vs1 σ W1 Nx
section
variable {Y : Cx} {c t1 i1 : Expr} {ifs1 : List Expr} {acc : Value} {emit1 : Sem Unit} {em1 : L2.St → Hp → (Hp → Prop) → Prop} {vs vs1 : List Nat} {wi1 : TI} {g1 : TG} {tt1 : TT}
theorem wipe_sub {σ : L2.St} {vs vs1 : List Nat} (h : ∀ x ∈ vs1, x ∈ vs) {j : Nat} {v : V} (e : (wipe σ vs)[j]? = some (some v)) : (wipe σ vs1)[j]? = some (some v) := by
  obtain ⟨e1, e2⟩ := wipe_some e
  rw [wipe_out fun z => e2 (h j z)]
  exact e1
theorem does_inner (hP : Plain c 1) (hB : Begun c 1 i1) (hc : Y.calm = true) (hx : Y.xe = fun _ _ => False)
    (hT : ∀ it, compTurn c 1 (.ref it) acc Y.env = turnOf c 1 t1 i1 ifs1 (.ref it) acc Y.env emit1)
    (pi : PI Y t1 i1 wi1) (pg : PG Y t1 g1) (pt : PTs Y ifs1 tt1) (hd : Does Y emit1 em1 vs1) (hv : ∀ x ∈ vs1, x ∈ vs)
    (hs : ∀ x, foldedSetIterable i1 Y.env x = pure x) :
    Does Y (innerOf c i1 acc Y.env) (emIn wi1 g1 tt1 em1 vs1) vs := by
  intro pins s σ H Nx I h
  have ff : ∀ {α : Type} {q : Sem α} {Q Q' : α → Shared → Prop} {s' : Shared}, wpAny (model Y.prog Y.w) Y.A q Q Y.xe s' →
      (∀ a s'', Q a s'' → Q' a s'') → wpAny (model Y.prog Y.w) Y.A q Q' (fun _ _ => False) s' := fun h k => by
    rw [hx] at h
    exact wpAny_mono h k fun _ _ z => z
  unfold innerOf
  refine wpAny_bind (ff (pi.run pins s σ H _ I h) fun x s1 h1 => ?_)
  refine wpAny_bind (wpAny_standAt (wpAny_bind (wpAny_of_eq (hs x) ?_)))
  refine wpAny_bind (wpAny_holding (ff h1 fun itv s2 h2 => ?_))
  obtain ⟨it, fp, tn, J, H2, e, I2, T, st, hf, W1, ⟨m1, w1⟩, turn⟩ := h2
  subst e
  have lp : codeAny (model Y.prog Y.w) Y.A (.compLoop c 1 (.ref it) acc Y.env) (fun r s' => match r with
      | .ok _ => ∃ H' : Hp, Inv Y pins (wipe σ vs) H' s' ∧ Nx H'
      | .error _ => False) s2 :=
    level hP hc hx (hT it) T pg pt hd (fun H' n b hb => ⟨n b hb, (hf b hb).2⟩) turn
      (fun s' H' J' nx => ⟨H', J'.weak (by rw [wipe_length, wipe_length]) fun _ _ e => wipe_sub hv e, nx⟩)
      (Inv.wiped I2 vs1) st (fun b hb => (hf b hb).1) w1
  refine wpAny_bind (wpAny_runOwn ?_)
  rw [Around.mark_none]
  refine codeAny_mono (startBy hP hB lp (T.self Y.A 0 _ _ _ st lp)) fun r s' hr => ?_
  cases r with
  | ok f =>
    first
      | exact wpAny_pure hr
      | exact wpAny_bind (wpAny_pure (wpAny_pure hr))
      | exact hr
  | error e => exact hr.elim
end

/-- a new accumulator -/
def Makes (X : Cx) (new : Sem Value) (o0 : Addr → HO) : Prop :=
  ∀ (pins : List (Addr × Obj)) (s : Shared) (σ : L2.St) (H : Hp) (Q : Value → Shared → Prop) (E : Value → Shared → Prop), Inv X pins σ H s →
    (∀ s', Inv X pins σ (upd H s.heap.objs.size (o0 s.heap.objs.size)) s' → (∀ b o, s.heap.get? b = some o → s'.heap.get? b = some o) →
      Q (.ref s.heap.objs.size) s') → wpAny (model X.prog X.w) X.A new Q E s
/-- a comprehension's reading: D the new accumulator -/
def tComp (wi : TI) (g : TG) (tt : TT) (em : Addr → L2.St → Hp → (Hp → Prop) → Prop) (vs : List Nat) (o0 : Addr → HO) : TE := fun σ H Q =>
  wi σ H fun J H1 => ∀ D, H1 D = none → ∃ W : Nat → Nat → Hp → Prop, (∃ m, W 0 m (upd H1 D (o0 D))) ∧ AtTurn J g tt (em D) vs σ W (fun H' => Q (.ref D) H')
section
variable {X : Cx} {pins : List (Addr × Obj)} {s : Shared} {σ : L2.St} {H : Hp} {Q : VK} {c tg iter : Expr} {ifs : List Expr} {gs : List Comprehension} {scope : Scope} {own : List (Str × Nat)} {pos' : Pos} {wi : TI} {g : TG} {tt : TT}
  {em : Addr → L2.St → Hp → (Hp → Prop) → Prop} {emit : Value → Env → Sem Unit} {new : Sem Value} {o0 : Addr → HO} {use : Option (Value → Sem Unit)} {Qf : Value → Shared → Prop}
theorem comp_core (hP : Plain c 0) (hB : Begun c 0 iter) (hcl : clausesOf c = ⟨tg, iter, ifs, 0⟩ :: gs)
    (hT : ∀ (it D : Addr) (ce : Env), compTurn c 0 (.ref it) (.ref D) ce = turnOf c 0 tg iter ifs (.ref it) (.ref D) ce (emit (.ref D) ce))
    (hc : X.calm = true) (hN : X.N.Nodup) (I : Inv X pins σ H s) (hi : PI X tg iter wi) (ok : BlkOk X.N X.env.scope scope own) (hm : Makes X new o0)
    (hg : ∀ (s : Shared) (H : Hp) (C : Addr) (cl : List (Str × Addr)) (fp : List Addr), PG (X.blk s H scope (compEnvC scope cl C X.env) fp) tg g)
    (ht : ∀ (s : Shared) (H : Hp) (C : Addr) (cl : List (Str × Addr)) (fp : List Addr), PTs (X.blk s H scope (compEnvC scope cl C X.env) fp) ifs tt)
    (hd : ∀ (D : Addr) (s : Shared) (H : Hp) (C : Addr) (cl : List (Str × Addr)) (fp : List Addr),
      Does (X.blk s H scope (compEnvC scope cl C X.env) fp) (emit (.ref D) (compEnvC scope cl C X.env)) (em D) (own.map (·.2)))
    (hs : ∀ x, foldedSetIterable iter X.env x = pure x) (h : tComp wi g tt em (own.map (·.2)) o0 σ H Q)
    (hR : ∀ D C s' m H', Inv X pins σ H' s' → Q (.ref D) H' → s'.heap.Ns C m → FpOk X pins H' C →
      compPost (model X.prog X.w) X.A X.xe use Qf (.ref D) C (.ok .next) s') :
    wpAny (model X.prog X.w) X.A (comprehension c scope X.env pos' new false (eval iter X.env) use) Qf X.xe s := by
  have hfree : ∀ y ∈ scope.names, y.2 = .free → ∃ q, X.env.cells.lookup y.1 = some q := fun y hy e =>
    (ok.free y hy e).elim (fun k => I.ok.has _ (.inl k)) fun k => I.ok.has _ (.inr k)
  refine wpAny_comprehension_free (use := use) hcl hs (closure_ok hfree) ok.kind (fun y hy e => by rw [ok.uniq y hy, e]) ?_
  refine thn (hi.run pins s σ H _ I h) fun xv s1 hx => thn hx fun itv s2 h2 => ?_
  obtain ⟨it, fp, tn, J, H2, e, I2, T, st2, f2, q⟩ := h2
  subst e
  refine hm pins s2 σ H2 _ _ I2 fun s3 I3 k3 => newEnv_comp ?_
  generalize hD : s2.heap.objs.size = D at I3 ⊢
  have hDn : H2 D = none := I2.hok.fresh (Nat.le_of_eq hD)
  obtain ⟨W, ⟨m0, w0⟩, turn⟩ := q D hDn
  have f3 : ∀ b ∈ fp, FpOk X pins (upd H2 D (o0 D)) b ∧ b < s3.heap.objs.size := fun b hb => by
    obtain ⟨o, e, _⟩ := T.obj _ _ st2 b hb
    refine ⟨⟨?_, (f2 b hb).2⟩, Heap.lt_size (k3 b o e)⟩
    rw [upd_ne (by rw [← hD]; exact Nat.ne_of_lt (Heap.lt_size e))]
    exact (f2 b hb).1
  have st3 : tn 0 s3.heap := T.keep _ _ _ st2 fun b _ o e => k3 b o e
  have I4 := block_start I3 ok hN f3
  generalize hcl2 : cellsFrom (s3.heap.objs.size + 1) scope.names (cloFrom X.env.cells scope.names []) = cl at I4 ⊢
  have nfp : ∀ b ∈ fp, (upd H2 D (o0 D)) b = none := fun b hb => (f3 b hb).1.1
  generalize hH3 : upd H2 D (o0 D) = H3 at I3 I4 w0 nfp f3
  show codeAny _ _ (.compStart c 0 (.ref it) (.ref D) (compEnvC scope cl s3.heap.objs.size X.env)) (compPost (model X.prog X.w) X.A X.xe use Qf (.ref D) s3.heap.objs.size)
    { s3 with heap := pushCells (s3.heap.push { cls := .type "dict", data := .dict #[] }) scope.names }
  generalize hs4 : ({ s3 with heap := pushCells (s3.heap.push { cls := .type "dict", data := .dict #[] }) scope.names } : Shared) = s4 at I4 ⊢
  have st4 : tn 0 s4.heap := T.keep _ _ _ st3 fun b _ o e => by
    rw [← hs4]
    exact pushCells_keeps _ _ _ _ (Heap.get?_push_of_some _ e)
  have lp : codeAny (model X.prog X.w) X.A (.compLoop c 0 (.ref it) (.ref D) (compEnvC scope cl s3.heap.objs.size X.env))
      (compPost (model X.prog X.w) X.A X.xe use Qf (.ref D) s3.heap.objs.size) s4 := by
    refine level (Y := X.blk s3 H3 scope (compEnvC scope cl s3.heap.objs.size X.env) fp) (pins := []) hP hc rfl (hT it D _) T (hg s3 H3 s3.heap.objs.size cl fp)
      (ht s3 H3 s3.heap.objs.size cl fp) (hd D s3 H3 s3.heap.objs.size cl fp) (fun H' n b hb => ?_) turn (fun s' H' J' qq => ?_) I4 st4 nfp w0
    · refine ⟨n b hb, (I4.ok.exf b hb).1, I4.ok.exfs b hb, .inl hb, fun x q e => (I4.ok.exf b hb).2 x q e, fun p hp => ?_⟩
      exact absurd (show p ∈ ([] : List (Addr × Obj)) ++ [] from hp) (by simp)
    · have I7 : Inv X pins σ H' s' := I3.call' (ch := fp) J'.os J'.base J'.hok J'.bare fun b hb => by
        obtain ⟨⟨_, a1, _, a3, a4, a5⟩, _⟩ := f3 b hb
        exact ⟨a3, a1, a4, a5⟩
      have nC : H' s3.heap.objs.size = none := J'.free
      obtain ⟨m, hn, _⟩ := J'.loc
      exact hR D s3.heap.objs.size s' m H' I7 qq hn (I3.fpOk (Nat.le_refl _) nC)
  exact startBy hP hB lp (T.self X.A 0 _ _ _ st4 lp)
end
end Gx

set_option Elab.async false
set_option linter.all false
set_option maxRecDepth 100000
set_option maxHeartbeats 4000000
namespace Gx
open PySem PySem.Spec PyProof.Rows L2
/-! comprehensions as values and behind «name =»; sets of ints and of keys -/
section
variable {X : Cx} {c tg iter : Expr} {ifs : List Expr} {gs : List Comprehension} {scope : Scope} {own : List (Str × Nat)} {pos' : Pos} {wi : TI} {g : TG} {tt : TT}
  {em : Addr → L2.St → Hp → (Hp → Prop) → Prop} {emit : Value → Env → Sem Unit} {new : Sem Value} {o0 : Addr → HO}
/-- all that a comprehension's text must say of itself (rfl where it is written) -/
structure CompOk (X : Cx) (c tg iter : Expr) (ifs : List Expr) (gs : List Comprehension) (scope : Scope) (pos' : Pos) (new : Sem Value) (emit : Value → Env → Sem Unit) : Prop where
  plain : Plain c 0
  begun : Begun c 0 iter
  cl : clausesOf c = ⟨tg, iter, ifs, 0⟩ :: gs
  turn : ∀ (it D : Addr) (ce : Env), compTurn c 0 (.ref it) (.ref D) ce = turnOf c 0 tg iter ifs (.ref it) (.ref D) ce (emit (.ref D) ce)
  ev : eval c X.env = comprehension c scope X.env pos' new false (eval iter X.env) none
  fold : ∀ x, foldedSetIterable iter X.env x = pure x
theorem pe_comp (hC : CompOk X c tg iter ifs gs scope pos' new emit) (hc : X.calm = true) (hN : X.N.Nodup) (hi : PI X tg iter wi)
    (ok : BlkOk X.N X.env.scope scope own) (hm : Makes X new o0)
    (hg : ∀ (s : Shared) (H : Hp) (C : Addr) (cl : List (Str × Addr)) (fp : List Addr), PG (X.blk s H scope (compEnvC scope cl C X.env) fp) tg g)
    (ht : ∀ (s : Shared) (H : Hp) (C : Addr) (cl : List (Str × Addr)) (fp : List Addr), PTs (X.blk s H scope (compEnvC scope cl C X.env) fp) ifs tt)
    (hd : ∀ (D : Addr) (s : Shared) (H : Hp) (C : Addr) (cl : List (Str × Addr)) (fp : List Addr),
      Does (X.blk s H scope (compEnvC scope cl C X.env) fp) (emit (.ref D) (compEnvC scope cl C X.env)) (em D) (own.map (·.2))) :
    PE X c (tComp wi g tt em (own.map (·.2)) o0) := by
  refine ⟨fun pins s σ H Q I h => ?_⟩
  rw [hC.ev]
  refine comp_core hC.plain hC.begun hC.cl hC.turn hc hN I hi ok hm hg ht hd hC.fold h fun D C s' m H' I' q hn f => ⟨m, hn, fun h'' sb => ?_⟩
  obtain ⟨f0, f1, f2, f3, f4, f5⟩ := f
  exact ⟨.ref D, H', I'.turned (t' := s'.toks) (fun b o hb e => (sb.2 b hb).trans e) f0 f1 f3 f4 f5, rfl, q⟩
/-- name = the comprehension, on one line, the name a local -/
theorem ps_comp {i : Nat} {y : Str} {py spos : Pos} (hC : CompOk X c tg iter ifs gs scope pos' new emit) (hc : X.calm = true) (hN : X.N.Nodup)
    (hy : X.N[i]? = some y) (hyl : X.env.scope.names.lookup y = some .local)
    (hsw : swapsWith c (some (.Name y py)) spos.line X.env = pure true)
    (hev : evalThenUse c X.env (assign (.Name y py) X.env) = (do
      let _ ← comprehension c scope X.env pos' new false (eval iter X.env) (some (assign (.Name y py) X.env))))
    (hi : PI X tg iter wi) (ok : BlkOk X.N X.env.scope scope own) (hm : Makes X new o0)
    (hg : ∀ (s : Shared) (H : Hp) (C : Addr) (cl : List (Str × Addr)) (fp : List Addr), PG (X.blk s H scope (compEnvC scope cl C X.env) fp) tg g)
    (ht : ∀ (s : Shared) (H : Hp) (C : Addr) (cl : List (Str × Addr)) (fp : List Addr), PTs (X.blk s H scope (compEnvC scope cl C X.env) fp) ifs tt)
    (hd : ∀ (D : Addr) (s : Shared) (H : Hp) (C : Addr) (cl : List (Str × Addr)) (fp : List Addr),
      Does (X.blk s H scope (compEnvC scope cl C X.env) fp) (emit (.ref D) (compEnvC scope cl C X.env)) (em D) (own.map (·.2))) :
    PS X (.Assign [.Name y py] c spos) (tAsg (tComp wi g tt em (own.map (·.2)) o0) (gName i)) := by
  refine ⟨fun pins s σ H D I h => ?_⟩
  rw [exec_Assign_Name_used _ _ _ _ hsw, hev]
  refine wpAny_bind (wpAny_standAt (wpAny_bind ?_))
  have h : tComp wi g tt em (own.map (·.2)) o0 σ H (fun x H1 => gName i x σ H1 D.nx) := h
  refine wpAny_bind (thn (comp_core (use := some (assign (.Name y py) X.env)) (Qf := fun _ s' => SP X pins D .next s') hC.plain hC.begun hC.cl hC.turn hc hN I hi ok hm hg ht hd hC.fold h
    fun L C s' m H' I' q hn f => ?_) fun _ s' hq => wpAny_pure (wpAny_pure hq))
  show wpAny _ _ (assign (.Name y py) X.env (.ref L)) _ _ _
  refine wpAny_assign_Name (store_ok2 (v := V.ref L) I' hN hy (.inl hyl) rfl (fun s2 I2 ⟨a, sb, ha⟩ => ?_) (.inr hyl))
  obtain ⟨f0, f1, f2, f3, f4, f5⟩ := f
  have haC : C ≠ a := ha.elim (fun z => by rw [z]; exact f1) fun z e => f4 y a z e.symm
  refine ⟨m, hn.sameBut sb haC, fun h3 sb3 => ?_⟩
  exact ⟨_, H', I2.turned (t' := s2.toks) (fun b o hb e => (sb3.2 b hb).trans e) f0 f1 f3 f4 f5, q⟩
end

/-! sets -/
def emitSet (elt : Expr) (acc : Value) (env : Env) : Sem Unit := do
  let v ← eval elt env
  standAt elt.pos
  let _ ← call (.builtin "set.add") [acc, v]
/-- an int is put into the set at D -/
def emI (w : World) (te : TE) (D : Addr) : L2.St → Hp → (Hp → Prop) → Prop := fun σ H Nx => te σ H fun y H1 =>
  ∃ (k : Int) (S : Int → Bool) (n : Nat), y = .int k ∧ H1 D = some (SetO w D S n) ∧ n + 1 < scanBound ∧
    Nx (upd H1 D (SetO w D (fun j => S j || decide (j = k)) (if S k = true then n else n + 1)))
/-- a key (an int or a text) is put into the set at D -/
def emK (P : Program) (w : World) (te : TE) (D : Addr) : L2.St → Hp → (Hp → Prop) → Prop := fun σ H Nx => te σ H fun y H1 =>
  ∃ (k : Key) (S : Key → Bool) (n : Nat), y = kV k ∧ H1 D = some (SetK P w D S n) ∧ n + 1 < scanBound ∧
    Nx (upd H1 D (SetK P w D (fun j => S j || decide (j = k)) (if S k = true then n else n + 1)))
section
variable {Y : Cx} {elt : Expr} {te : TE} {D : Addr} {vs : List Nat}
theorem does_setI (hx : Y.xe = fun _ _ => False) (he : PE Y elt te) : Does Y (emitSet elt (.ref D) Y.env) (emI Y.w te D) vs := by
  intro pins s σ H Nx I h
  have hr := he.run pins s σ H _ I h
  rw [hx] at hr
  unfold emitSet
  refine wpAny_bind (thnF hr fun u s1 ⟨y, H1, I1, r1, k, S, n, ey, hD, room, nx⟩ => ?_)
  subst ey
  refine wpAny_bind (wpAny_standAt (wpAny_bind ?_))
  obtain ⟨tk, rfl⟩ := (show ∃ t, u = Value.int k t from r1)
  refine setR_add (setO_get I1 hD) room fun h' sb new => wpAny_pure ?_
  have he2 : ∃ q, h'.get? D = some q := by
    have ⟨o, _, _, _, ho, _⟩ := new
    exact ⟨o, ho⟩
  have I2 := I1.write (x := D) (e := D) (t' := s1.toks + 1) (by rw [hD]; trivial) (.inl rfl) (fun b q hb hu => (sb.2 b hb).trans hu) he2 (setO_new new)
  exact ⟨_, Inv.wiped I2 vs, nx⟩
theorem does_setK (hx : Y.xe = fun _ _ => False) (he : PE Y elt te) : Does Y (emitSet elt (.ref D) Y.env) (emK Y.prog Y.w te D) vs := by
  intro pins s σ H Nx I h
  have hr := he.run pins s σ H _ I h
  rw [hx] at hr
  unfold emitSet
  refine wpAny_bind (thnF hr fun u s1 ⟨y, H1, I1, r1, k, S, n, ey, hD, room, nx⟩ => ?_)
  subst ey
  refine wpAny_bind (wpAny_standAt (wpAny_bind ?_))
  refine call_set_add (kV_is r1) (key_scan r1) (setK_get I1 hD) room fun h' sb new => wpAny_pure ?_
  have he2 : ∃ q, h'.get? D = some q := by
    have ⟨o, _, _, _, ho, _⟩ := new
    exact ⟨o, ho⟩
  have I2 := I1.write (x := D) (e := D) (t' := s1.toks + 1) (by rw [hD]; trivial) (.inl rfl) (fun b q hb hu => (sb.2 b hb).trans hu) he2 (setK_new new)
  exact ⟨_, Inv.wiped I2 vs, nx⟩
end
section
variable {X : Cx}
theorem newSetAt {P : Program} {w : World} {A : Around} {E : Value → Shared → Prop} {s : Shared} {Q : Value → Shared → Prop}
    (h : Q (.ref s.heap.objs.size) { s with heap := s.heap.push { cls := .type "set", dict := none, data := .set #[] 0 (.fresh 0 0 (!w.params.followText "set-order")) } }) :
    wpAny (model P w) A (newSet (.type "set")) Q E s := by
  unfold newSet
  refine wpAny_bind (wpAny_byText ?_)
  dsimp only
  simp only [newObj]
  refine wpAny_bind (wpAny_alloc ?_)
  exact wpAny_pure h
theorem makes_setI : Makes X (newSet (.type "set")) (fun D => SetO X.w D (fun _ => false) 0) := by
  intro pins s σ H Q E I h
  refine newSetAt (h _ ?_ fun b o e => Heap.get?_push_of_some _ e)
  exact I.laid (t' := s.toks) (fun b u e => Heap.get?_push_of_some _ e) (Nat.le_refl _) (setO_new (setR_fresh X.w))
theorem makes_setK : Makes X (newSet (.type "set")) (fun D => SetK X.prog X.w D (fun _ => false) 0) := by
  intro pins s σ H Q E I h
  refine newSetAt (h _ ?_ fun b o e => Heap.get?_push_of_some _ e)
  refine I.laid (t' := s.toks) (fun b u e => Heap.get?_push_of_some _ e) (Nat.le_refl _) (setK_new ?_)
  exact ⟨_, #[], 0, _, Heap.get?_push_size _ rfl, ⟨rfl, rfl, rfl⟩, rfl, (fun e he => by simp at he), (fun k => by simp), (by decide), (by rfl), rfl⟩
theorem comp_set1 {elt t i : Expr} {ifs : List Expr} {sc : Scope} {pos : Pos} (hs : ∀ x, foldedSetIterable i X.env x = pure x) :
    CompOk X (.SetComp elt [⟨t, i, ifs, 0⟩] sc pos) t i ifs [] sc (firstIterPos [⟨t, i, ifs, 0⟩] pos) (newSet (.type "set")) (emitSet elt) :=
  ⟨plain_set, begun_set (hs := []), rfl, fun _ _ _ => rfl, rfl, hs⟩
theorem turn_set0 {elt t i t1 i1 : Expr} {ifs ifs1 : List Expr} {sc : Scope} {pos : Pos} {D it : Addr} {env : Env} :
    compTurn (.SetComp elt [⟨t, i, ifs, 0⟩, ⟨t1, i1, ifs1, 0⟩] sc pos) 0 (.ref it) (.ref D) env =
      turnOf (.SetComp elt [⟨t, i, ifs, 0⟩, ⟨t1, i1, ifs1, 0⟩] sc pos) 0 t i ifs (.ref it) (.ref D) env
        (innerOf (.SetComp elt [⟨t, i, ifs, 0⟩, ⟨t1, i1, ifs1, 0⟩] sc pos) i1 (.ref D) env) := by
  unfold turnOf innerOf
  simp only [bind_assoc, pure_bind]
  rfl
theorem comp_set2 {elt t i t1 i1 : Expr} {ifs ifs1 : List Expr} {sc : Scope} {pos : Pos} (hs : ∀ x, foldedSetIterable i X.env x = pure x) :
    CompOk X (.SetComp elt [⟨t, i, ifs, 0⟩, ⟨t1, i1, ifs1, 0⟩] sc pos) t i ifs [⟨t1, i1, ifs1, 0⟩] sc (firstIterPos [⟨t, i, ifs, 0⟩, ⟨t1, i1, ifs1, 0⟩] pos) (newSet (.type "set"))
      (innerOf (.SetComp elt [⟨t, i, ifs, 0⟩, ⟨t1, i1, ifs1, 0⟩] sc pos) i1) :=
  ⟨plain_set, begun_set (hs := []), rfl, fun _ _ _ => turn_set0, rfl, hs⟩
theorem turn_set2 {elt t i t1 i1 : Expr} {ifs ifs1 : List Expr} {sc : Scope} {pos : Pos} {D it : Addr} {env : Env} :
    compTurn (.SetComp elt [⟨t, i, ifs, 0⟩, ⟨t1, i1, ifs1, 0⟩] sc pos) 1 (.ref it) (.ref D) env =
      turnOf (.SetComp elt [⟨t, i, ifs, 0⟩, ⟨t1, i1, ifs1, 0⟩] sc pos) 1 t1 i1 ifs1 (.ref it) (.ref D) env (emitSet elt (.ref D) env) := rfl
end
end Gx

set_option Elab.async false
set_option linter.all false
set_option maxRecDepth 100000
set_option maxHeartbeats 4000000
namespace Gx
open PySem PySem.Spec PyProof.Rows L2
/-! defs by name; data of any depth (dicts too); comprehensions over walks whose heap only grows -/
/-- the def x stands at the top and keeps the promise sp, at level k -/
def Has (P : Program) (w : World) (K : PySem.W.Frag) (mg : Str → Option Value) (base : Heap) (k : Nat) (x : Str) (ps : List Str) (sp : Sp) : Prop :=
  ∃ (f : Addr) (fd : FuncData), FnOk P w K mg base CX0 k f fd ps sp ∧ Binds K fd ps [] ∧ mg x = some (.ref f) ∧ PySem.W.keepIn K (.ref f) = true
section
variable {X : Cx} {k : Nat} {ps : List Str} {sp : Sp} {x : Str} {p pos : Pos} {e : Expr} {es : List Expr} {t : TA}
theorem pe_has (h : Has X.prog X.w X.K X.mg X.base k x ps sp) (hr : Room k X.A) (hg : Gl X x) (ha : PA X (e :: es) t)
    (hdb : (x == ("__debug__" : Str)) = false := by decide)
    (he : starEach (e :: es) X.env = (false, eval e X.env) :: starEach es X.env := by rfl)
    (hpl : (backTo pos (starEach es X.env)).any (·.1) = false := by rfl) :
    PE X (.Call (.Name x p) (e :: es) [] pos) (tCall sp [] E0 t) := by
  obtain ⟨f, fd, F, b, m, kp⟩ := h
  exact pe_call F hr hg m kp b .nil pass0 ha hdb he hpl
end
theorem same_new {H : Hp} {p : Addr} {o : HO} (n : H p = none) : Same H (upd H p o) := fun b u e => by
  rw [upd_ne (ne_of_none e n)]
  exact e
theorem sqT_same {K : PySem.W.Frag} {H H' : Hp} {a : Addr} {xs : List V} (s : Same H H') (h : SqT K H a xs) : SqT K H' a xs := by
  rcases h with (h | ⟨o, h⟩) | h
  · exact .inl (.inl (s _ _ h))
  · exact .inl (.inr ⟨o, s _ _ h⟩)
  · exact .inr h
mutual
inductive Rp (K : PySem.W.Frag) (H : Hp) : V → PyData → Prop
  | non : Rp K H .non .none
  | bl (b : Bool) : Rp K H (.bl b) (.bool b)
  | int (i : Int) : Rp K H (.int i) (.int i)
  | str (x : Str) : Rp K H (.str x) (.str x)
  | lst {a : Addr} {xs : List V} {ds : List PyData} (h : SqL K H a xs) (r : RpAll K H xs ds) : Rp K H (.ref a) (.list ds)
  | tup {a : Addr} {xs : List V} {ds : List PyData} (h : SqT K H a xs) (r : RpAll K H xs ds) : Rp K H (.ref a) (.tuple ds)
  | dct {a : Addr} {kvs : List (Key × V)} {ds : List (PyData × PyData)} (h : H a = some (.dK kvs)) (r : RpKv K H kvs ds) : Rp K H (.ref a) (.dict ds)
inductive RpAll (K : PySem.W.Frag) (H : Hp) : List V → List PyData → Prop
  | nil : RpAll K H [] []
  | cons {v : V} {vs : List V} {d : PyData} {ds : List PyData} (h : Rp K H v d) (r : RpAll K H vs ds) : RpAll K H (v :: vs) (d :: ds)
inductive RpKv (K : PySem.W.Frag) (H : Hp) : List (Key × V) → List (PyData × PyData) → Prop
  | nil : RpKv K H [] []
  | cons {q : Key} {v : V} {kvs : List (Key × V)} {c d : PyData} {ds : List (PyData × PyData)} (hk : Rp K H (kV q) c) (h : Rp K H v d) (r : RpKv K H kvs ds) : RpKv K H ((q, v) :: kvs) ((c, d) :: ds)
end
mutual
theorem Rp.same {K : PySem.W.Frag} {H H' : Hp} (s : Same H H') : ∀ {v : V} {d : PyData}, Rp K H v d → Rp K H' v d
  | _, _, .non => .non
  | _, _, .bl b => .bl b
  | _, _, .int i => .int i
  | _, _, .str x => .str x
  | _, _, .lst h r => .lst (s.seq h) (RpAll.same s r)
  | _, _, .tup h r => .tup (sqT_same s h) (RpAll.same s r)
  | _, _, .dct h r => .dct (s _ _ h) (RpKv.same s r)
theorem RpAll.same {K : PySem.W.Frag} {H H' : Hp} (s : Same H H') : ∀ {vs : List V} {ds : List PyData}, RpAll K H vs ds → RpAll K H' vs ds
  | _, _, .nil => .nil
  | _, _, .cons h r => .cons (Rp.same s h) (RpAll.same s r)
theorem RpKv.same {K : PySem.W.Frag} {H H' : Hp} (s : Same H H') : ∀ {vs : List (Key × V)} {ds : List (PyData × PyData)}, RpKv K H vs ds → RpKv K H' vs ds
  | _, _, .nil => .nil
  | _, _, .cons k h r => .cons (Rp.same s k) (Rp.same s h) (RpKv.same s r)
end
theorem RpAll.length {K : PySem.W.Frag} {H : Hp} : ∀ {vs : List V} {ds : List PyData}, RpAll K H vs ds → vs.length = ds.length
  | _, _, .nil => rfl
  | _, _, .cons _ r => by rw [List.length_cons, List.length_cons, RpAll.length r]
theorem RpAll.get {K : PySem.W.Frag} {H : Hp} : ∀ {vs : List V} {ds : List PyData} {j : Nat} {v : V}, RpAll K H vs ds → vs[j]? = some v → ∃ d, ds[j]? = some d ∧ Rp K H v d
  | _, _, 0, _, .cons h _, e => ⟨_, rfl, by cases e; exact h⟩
  | _, _, j + 1, v, .cons _ r, e => RpAll.get (j := j) r e
theorem RpAll.at {K : PySem.W.Frag} {H : Hp} : ∀ {vs : List V} {ds : List PyData} {j : Nat} {d : PyData}, RpAll K H vs ds → ds[j]? = some d → ∃ v, vs[j]? = some v ∧ Rp K H v d
  | _, _, 0, _, .cons h _, e => ⟨_, rfl, by cases e; exact h⟩
  | _, _, j + 1, d, .cons _ r, e => RpAll.at (j := j) r e
theorem RpAll.of {K : PySem.W.Frag} {H : Hp} : ∀ {vs : List V} {ds : List PyData}, vs.length = ds.length → (∀ (j : Nat) (v : V) (d : PyData), vs[j]? = some v → ds[j]? = some d → Rp K H v d) → RpAll K H vs ds
  | [], [], _, _ => .nil
  | v :: vs, d :: ds, l, h => .cons (h 0 v d rfl rfl) (RpAll.of (Nat.succ.inj l) fun j => h (j + 1))
theorem Rp.tup_inv {K : PySem.W.Frag} {H : Hp} {v : V} {ds : List PyData} (h : Rp K H v (.tuple ds)) : ∃ a xs, v = .ref a ∧ SqT K H a xs ∧ RpAll K H xs ds := by
  cases h with
  | tup h r => exact ⟨_, _, rfl, h, r⟩
theorem Rp.lst_inv {K : PySem.W.Frag} {H : Hp} {v : V} {ds : List PyData} (h : Rp K H v (.list ds)) : ∃ a xs, v = .ref a ∧ SqL K H a xs ∧ RpAll K H xs ds := by
  cases h with
  | lst h r => exact ⟨_, _, rfl, h, r⟩
theorem Rp.int_inv {K : PySem.W.Frag} {H : Hp} {v : V} {i : Int} (h : Rp K H v (.int i)) : v = .int i := by
  cases h
  rfl
theorem Rp.str_inv {K : PySem.W.Frag} {H : Hp} {v : V} {x : Str} (h : Rp K H v (.str x)) : v = .str x := by
  cases h
  rfl
/-- the name of a datum's type -/
def tyD : PyData → String
  | .none => "NoneType"
  | .bool _ => "bool"
  | .int _ => "int"
  | .str _ => "str"
  | .list _ => "list"
  | .tuple _ => "tuple"
  | .dict _ => "dict"
theorem Rp.ty {K : PySem.W.Frag} {H : Hp} {v : V} {d : PyData} (h : Rp K H v d) : TyX K H v (.type (tyD d)) := by
  cases h with
  | non => exact .base .non
  | bl b => exact .base (.bl b)
  | int i => exact .base (.int i)
  | str x => exact .base (.str x)
  | lst h r =>
    rcases h with (h | ⟨o, h⟩) | h
    · exact .base (.lst h)
    · exact .base (.frz h)
    · obtain ⟨o, _, _, e, c, _⟩ := h
      exact .kList e c
  | tup h r =>
    rcases h with (h | ⟨o, h⟩) | h
    · exact .base (.tup h)
    · exact .fTuple h
    · obtain ⟨o, _, _, e, c, _⟩ := h
      exact .kTuple e c
  | dct h r => exact .base (.dK h)
/-- isinstance(x, T) of a datum -/
def isiB (d : PyData) (t : String) : Bool := tyD d == t || (tyD d == "bool" && t == "int")
theorem kit_int (d : PyData) {K : PySem.W.Frag} : PySem.W.kitOne K (.type (tyD d)) (.type "int") = some (isiB d "int") := by
  cases d <;> (refine kit_ty ?_; simp only [tyD, isiB]; decide +kernel)
theorem kit_bool (d : PyData) {K : PySem.W.Frag} : PySem.W.kitOne K (.type (tyD d)) (.type "bool") = some (isiB d "bool") := by
  cases d <;> (refine kit_ty ?_; simp only [tyD, isiB]; decide +kernel)
theorem kit_str (d : PyData) {K : PySem.W.Frag} : PySem.W.kitOne K (.type (tyD d)) (.type "str") = some (isiB d "str") := by
  cases d <;> (refine kit_ty ?_; simp only [tyD, isiB]; decide +kernel)
theorem kit_tuple (d : PyData) {K : PySem.W.Frag} : PySem.W.kitOne K (.type (tyD d)) (.type "tuple") = some (isiB d "tuple") := by
  cases d <;> (refine kit_ty ?_; simp only [tyD, isiB]; decide +kernel)
theorem kit_list (d : PyData) {K : PySem.W.Frag} : PySem.W.kitOne K (.type (tyD d)) (.type "list") = some (isiB d "list") := by
  cases d <;> (refine kit_ty ?_; simp only [tyD, isiB]; decide +kernel)
theorem kit_dict (d : PyData) {K : PySem.W.Frag} : PySem.W.kitOne K (.type (tyD d)) (.type "dict") = some (isiB d "dict") := by
  cases d <;> (refine kit_ty ?_; simp only [tyD, isiB]; decide +kernel)

/-- all tuples (and what is locked) stay -/
def Tups (H H' : Hp) : Prop := (∀ b xs, H b = some (.tup xs) → H' b = some (.tup xs)) ∧ ∀ b o u, H b = some (.frz o u) → H' b = some (.frz o u)
theorem Tups.of {H H' : Hp} (s : Same H H') : Tups H H' := ⟨fun b xs e => s _ _ e, fun b o u e => s _ _ e⟩
theorem Tups.trans {H H1 H2 : Hp} (a : Tups H H1) (b : Tups H1 H2) : Tups H H2 := ⟨fun c xs e => b.1 c xs (a.1 c xs e), fun c o u e => b.2 c o u (a.2 c o u e)⟩
theorem Tups.lst {H : Hp} {D : Addr} {xs ys : List V} (h : H D = some (.lst xs)) : Tups H (upd H D (.lst ys)) :=
  ⟨fun b zs e => by rw [upd_ne (ne_of e h fun z => by cases z)]; exact e, fun b o u e => by rw [upd_ne (ne_of e h fun z => by cases z)]; exact e⟩
section
variable {J : It} {n : Nat} {G : Hp → Prop} {Y : Nat → Hp → V → Hp → Prop} {g : TG} {tt : TT} {te : TE} {vs : List Nat} {σ : L2.St} {H1 : Hp} {D : Addr} {Qd : Hp → Prop}
/-- a list comprehension without tests, whose heap only grows: R tells what each item is -/
theorem lc_data (w : Walk J n G Y) (R : Nat → V → Hp → Prop) (mono : ∀ i y H H', Tups H H' → R i y H → R i y H') (nD : H1 D = none) (hn : n < sizeLine) (hG : ∀ H, Same H1 H → G H)
    (hs : ∀ i x H H' (C : V → Hp → Prop), i < n → Same H1 H → Y i H x H' → (∀ y H4, Same H H4 → R i y H4 → C y H4) →
      g x (wipe σ vs) H' fun σ2 H2 => wipe σ2 vs = wipe σ vs ∧ te σ2 H2 C)
    (hd : ∀ ys H, Same H1 H → H D = some (.lst ys) → ys.length = n → (∀ i y, ys[i]? = some y → R i y H) → Qd H)
    (gm : ∀ x σ H (C C' : L2.St → Hp → Prop), (∀ σ' H', C σ' H' → C' σ' H') → g x σ H C → g x σ H C') :
    ∃ W : Nat → Nat → Hp → Prop, (∃ m, W 0 m (upd H1 D (.lst []))) ∧ ∀ i m H, W i m H →
      (J.stop i H ∧ Qd H) ∨ (J.go i H ∧ ∃ Nx : Hp → Prop, (∀ H', Nx H' → ∃ m', m' < m ∧ W (i + 1) m' H') ∧ ∀ x H', J.yld i H x H' →
        g x (wipe σ vs) H' fun σ2 H2 => wipe σ2 vs = wipe σ vs ∧ tYes σ2 H2 fun b H3 =>
          if b = true then te σ2 H3 fun y H4 => ∃ acc, H4 D = some (.lst acc) ∧ acc.length < sizeLine ∧ Nx (upd H4 D (.lst (acc ++ [y]))) else Nx H3) := by
  refine lc_it w (fun i H => ∃ ys : List V, Same H1 H ∧ H D = some (.lst ys) ∧ ys.length = i ∧ ∀ k y, ys[k]? = some y → R k y H)
    ⟨[], same_new nD, upd_same, rfl, fun k y e => by simp at e⟩ (fun i H _ ⟨_, s, _⟩ => hG H s) (fun i x H H' hi ⟨ys, s, hD, hl, hR⟩ y => ?_) (fun H ⟨ys, s, hD, hl, hR⟩ => hd ys H s hD hl hR)
  refine gm _ _ _ _ _ (fun σ2 H2 h => ?_) (hs i x H H' (fun y H4 => ∃ acc, H4 D = some (.lst acc) ∧ acc.length < sizeLine ∧ ∃ ys : List V, Same H1 (upd H4 D (.lst (acc ++ [y]))) ∧
      (upd H4 D (.lst (acc ++ [y]))) D = some (.lst ys) ∧ ys.length = i + 1 ∧ ∀ k z, ys[k]? = some z → R k z (upd H4 D (.lst (acc ++ [y])))) hi s y (fun z H4 s4 r4 => ?_))
  · refine ⟨h.1, ?_⟩
    unfold tYes
    refine iteT ?_
    exact h.2
  · have hD4 := s4 _ _ hD
    refine ⟨ys, hD4, by omega, ys ++ [z], fun b o e => ?_, upd_same, by rw [List.length_append, hl]; rfl, fun k q e => ?_⟩
    · rw [upd_ne (ne_of_none e nD)]
      exact s4 _ _ (s _ _ e)
    · have tt : Tups H4 (upd H4 D (.lst (ys ++ [z]))) := Tups.lst hD4
      by_cases hk : k < ys.length
      · rw [List.getElem?_append_left hk] at e
        exact mono k q _ _ ((Tups.of s4).trans tt) (hR k q e)
      · have hk2 : k = i := by
          have hz := (List.getElem?_eq_some_iff.mp e).1
          simp only [List.length_append, List.length_cons, List.length_nil] at hz
          omega
        subst hk2
        rw [List.getElem?_append_right (by omega), hl, Nat.sub_self] at e
        cases e
        exact mono k _ _ _ tt r4
/-- .. with flat items, by a function -/
theorem lc_flat (w : Walk J n G Y) (f : Nat → V) (nD : H1 D = none) (hn : n < sizeLine) (hG : ∀ H, Same H1 H → G H)
    (hs : ∀ i x H H' (C : V → Hp → Prop), i < n → Same H1 H → Y i H x H' → (∀ H4, Same H H4 → C (f i) H4) →
      g x (wipe σ vs) H' fun σ2 H2 => wipe σ2 vs = wipe σ vs ∧ te σ2 H2 C)
    (hd : ∀ H, Same H1 H → H D = some (.lst ((List.range n).map f)) → Qd H)
    (gm : ∀ x σ H (C C' : L2.St → Hp → Prop), (∀ σ' H', C σ' H' → C' σ' H') → g x σ H C → g x σ H C') :
    ∃ W : Nat → Nat → Hp → Prop, (∃ m, W 0 m (upd H1 D (.lst []))) ∧ ∀ i m H, W i m H →
      (J.stop i H ∧ Qd H) ∨ (J.go i H ∧ ∃ Nx : Hp → Prop, (∀ H', Nx H' → ∃ m', m' < m ∧ W (i + 1) m' H') ∧ ∀ x H', J.yld i H x H' →
        g x (wipe σ vs) H' fun σ2 H2 => wipe σ2 vs = wipe σ vs ∧ tYes σ2 H2 fun b H3 =>
          if b = true then te σ2 H3 fun y H4 => ∃ acc, H4 D = some (.lst acc) ∧ acc.length < sizeLine ∧ Nx (upd H4 D (.lst (acc ++ [y]))) else Nx H3) := by
  refine lc_data w (fun i y _ => y = f i) (fun _ _ _ _ _ h => h) nD hn hG (fun i x H H' C hi s y k => hs i x H H' C hi s y fun H4 s4 => k _ _ s4 rfl) (fun ys H s hD hl hR => hd H s ?_) gm
  have e : ys = (List.range n).map f := by
    refine List.ext_getElem? fun i => ?_
    rw [List.getElem?_map]
    by_cases hi : i < n
    · rw [List.getElem?_range hi]
      have q : ys[i]? = some ys[i] := List.getElem?_eq_getElem (by omega)
      rw [q, hR i _ q]
      rfl
    · rw [List.getElem?_eq_none (by omega), List.getElem?_eq_none (by rw [List.length_range]; omega)]
      rfl
  rw [hD, e]
theorem gm_name {i : Nat} : ∀ x σ H (C C' : L2.St → Hp → Prop), (∀ σ' H', C σ' H' → C' σ' H') → gName i x σ H C → gName i x σ H C' := fun x σ H C C' h k => h _ _ k
/-- a set's (or dict's) comprehension over a walk -/
theorem at_walk (w : Walk J n G Y) {em : L2.St → Hp → (Hp → Prop) → Prop} {H0 : Hp} {End : Hp → Prop} (Pv : Nat → Hp → Prop) (h0 : Pv 0 H0) (hG : ∀ i H, i ≤ n → Pv i H → G H)
    (hs : ∀ i x H H', i < n → Pv i H → Y i H x H' → g x (wipe σ vs) H' fun σ2 H2 => wipe σ2 vs = wipe σ vs ∧ tt σ2 H2 fun b H3 =>
      if b = true then em σ2 H3 (Pv (i + 1)) else Pv (i + 1) H3) (hd : ∀ H, Pv n H → End H) :
    ∃ W : Nat → Nat → Hp → Prop, (∃ m, W 0 m H0) ∧ AtTurn J g tt em vs σ W End := by
  refine ⟨fun i m H => m = n - i ∧ i ≤ n ∧ Pv i H, ⟨n, by simp, Nat.zero_le _, h0⟩, ?_⟩
  rintro i m H ⟨rfl, hi, p⟩
  have q := hG i H hi p
  by_cases hlt : i < n
  · exact .inr ⟨w.goes i H hlt q, Pv (i + 1), fun H' p' => ⟨n - (i + 1), by omega, rfl, hlt, p'⟩, fun x H' y => hs i x H H' hlt p (w.yields i H x H' hlt q y)⟩
  · have e : i = n := by omega
    subst e
    exact .inl ⟨w.stops H q, hd H p⟩
end
end Gx

set_option Elab.async false
set_option linter.all false
set_option maxRecDepth 100000
set_option maxHeartbeats 4000000
namespace Gx
open PySem PySem.Spec PyProof.Rows L2
/-! len of a set; how many of a row are unlike -/
def rLenK (P : Program) (w : World) : List V → Hp → VK → Prop := fun xs H Q => ∃ (a : Addr) (S : Key → Bool) (n : Nat), xs = [.ref a] ∧ H a = some (SetK P w a S n) ∧ Q (.int (n : Nat)) H
theorem call_lenK {X : Cx} : CallR X (.builtin "len") (rLenK X.prog X.w) := by
  intro pins s σ H xs us Q I r h
  obtain ⟨a, S, n, rfl, ha, q⟩ := h
  obtain ⟨u, rfl, ru⟩ := vals1 r
  cases (show u = Value.ref a from ru)
  obtain ⟨o, es, ep, t, ho, hx, hd, _, _, hb, hf, hn⟩ := setK_get I ha
  subst hn
  have hsz := fits_of_scanBound hb
  refine call_len_set ho hx hd hf ?_ ⟨.int es.size, H, I.tok _, ⟨_, rfl⟩, q⟩
  rw [sizeLine_eq] at hsz
  omega
/-- how many texts of a row are unlike -/
def dist (ks : List Str) : Nat := ((List.range ks.length).filter fun i => !decide (ks.getD i Str.empty ∈ ks.take i)).length
theorem dist_nil : dist [] = 0 := rfl
theorem dist_le (ks : List Str) : dist ks ≤ ks.length := by
  unfold dist
  refine Nat.le_trans (List.length_filter_le _ _) ?_
  rw [List.length_range]
  exact Nat.le_refl _
theorem dist_snoc (ks : List Str) (k : Str) : dist (ks ++ [k]) = if k ∈ ks then dist ks else dist ks + 1 := by
  unfold dist
  rw [List.length_append, show [k].length = 1 from rfl, List.range_succ, List.filter_append, List.length_append]
  have e1 : (List.range ks.length).filter (fun i => !decide ((ks ++ [k]).getD i Str.empty ∈ (ks ++ [k]).take i)) =
      (List.range ks.length).filter (fun i => !decide (ks.getD i Str.empty ∈ ks.take i)) := by
    refine List.filter_congr fun i hi => ?_
    have hi' := List.mem_range.mp hi
    rw [List.getD_eq_getElem?_getD, List.getElem?_append_left hi', ← List.getD_eq_getElem?_getD, List.take_append_of_le_length (by omega)]
  rw [e1]
  have e2 : (ks ++ [k]).getD ks.length Str.empty = k := by
    rw [List.getD_eq_getElem?_getD, List.getElem?_append_right (Nat.le_refl _), Nat.sub_self]
    rfl
  have e3 : (ks ++ [k]).take ks.length = ks := by
    rw [List.take_append_of_le_length (Nat.le_refl _), List.take_length]
  rw [List.filter_cons, e2, e3]
  by_cases h : k ∈ ks
  · rw [if_pos h, decide_eq_true h]
    rfl
  · rw [if_neg h, decide_eq_false h]
    rfl
end Gx

set_option Elab.async false
set_option linter.all false
set_option maxRecDepth 100000
set_option maxHeartbeats 4000000
namespace Gx
open PySem L2
/-! data without lists and dicts stay where lists change; sets of small numbers -/
mutual
def flatD : PyData → Bool
  | .list _ => false
  | .dict _ => false
  | .tuple xs => flatDs xs
  | .none => true
  | .bool _ => true
  | .int _ => true
  | .str _ => true
def flatDs : List PyData → Bool
  | [] => true
  | x :: xs => flatD x && flatDs xs
end
theorem flatD_t {xs : List PyData} : flatD (.tuple xs) = flatDs xs := by rw [flatD]
theorem flatD_l {xs : List PyData} : flatD (.list xs) = false := by rw [flatD]
theorem flatD_d {xs : List (PyData × PyData)} : flatD (.dict xs) = false := by rw [flatD]
theorem flatDs_c {x : PyData} {xs : List PyData} (h : flatDs (x :: xs) = true) : flatD x = true ∧ flatDs xs = true := by
  rw [flatDs] at h
  exact Bool.and_eq_true_iff.mp h
theorem sqT_tups {K : PySem.W.Frag} {H H' : Hp} {a : Addr} {xs : List V} (s : Tups H H') (h : SqT K H a xs) : SqT K H' a xs := by
  rcases h with (h | ⟨o, h⟩) | h
  · exact .inl (.inl (s.1 _ _ h))
  · exact .inl (.inr ⟨o, s.2 _ _ _ h⟩)
  · exact .inr h
mutual
theorem Rp.tups {K : PySem.W.Frag} {H H' : Hp} (s : Tups H H') : ∀ {v : V} {d : PyData}, Rp K H v d → flatD d = true → Rp K H' v d
  | _, _, .non, _ => .non
  | _, _, .bl b, _ => .bl b
  | _, _, .int i, _ => .int i
  | _, _, .str x, _ => .str x
  | _, _, .lst h r, n => absurd n (by rw [flatD_l]; decide)
  | _, _, .tup h r, n => .tup (sqT_tups s h) (RpAll.tups s r (flatD_t.symm.trans n))
  | _, _, .dct h r, n => absurd n (by rw [flatD_d]; decide)
theorem RpAll.tups {K : PySem.W.Frag} {H H' : Hp} (s : Tups H H') : ∀ {vs : List V} {ds : List PyData}, RpAll K H vs ds → flatDs ds = true → RpAll K H' vs ds
  | _, _, .nil, _ => .nil
  | _, _, .cons h r, n => .cons (Rp.tups s h (flatDs_c n).1) (RpAll.tups s r (flatDs_c n).2)
end
theorem flatDs_map {α : Type} (f : α → PyData) (h : ∀ a, flatD (f a) = true) : ∀ l : List α, flatDs (l.map f) = true
  | [] => by rw [List.map_nil, flatDs]
  | a :: l => by rw [List.map_cons, flatDs, h a, flatDs_map f h l]; rfl
/-- how many numbers below N are in S -/
def cntI (N : Nat) (S : Int → Bool) : Nat := ((List.range N).filter fun (i : Nat) => S (i : Int)).length
theorem cntI_le (N : Nat) (S : Int → Bool) : cntI N S ≤ N := by
  unfold cntI
  refine Nat.le_trans (List.length_filter_le _ _) ?_
  rw [List.length_range]
  exact Nat.le_refl _
theorem cntI_succ (N : Nat) (S : Int → Bool) : cntI (N + 1) S = cntI N S + if S (N : Int) = true then 1 else 0 := by
  unfold cntI
  rw [List.range_succ, List.filter_append, List.length_append, List.filter_cons]
  cases S (N : Int) <;> rfl
theorem cntI_none (N : Nat) : cntI N (fun _ => false) = 0 := by
  induction N with
  | zero => rfl
  | succ N ih => rw [cntI_succ, ih]; rfl
theorem cntI_big {N k : Nat} {S : Int → Bool} (h : N ≤ k) : cntI N (fun j => S j || decide (j = (k : Int))) = cntI N S := by
  induction N with
  | zero => rfl
  | succ N ih =>
    rw [cntI_succ, cntI_succ, ih (by omega)]
    have e : decide (((N : Nat) : Int) = (k : Int)) = false := decide_eq_false (by omega)
    simp only [e, Bool.or_false]
theorem cntI_add {N k : Nat} {S : Int → Bool} (h : k < N) : cntI N (fun j => S j || decide (j = (k : Int))) = if S (k : Int) = true then cntI N S else cntI N S + 1 := by
  induction N with
  | zero => omega
  | succ N ih =>
    rw [cntI_succ, cntI_succ]
    by_cases hk : k = N
    · subst hk
      rw [cntI_big (Nat.le_refl _), decide_eq_true rfl, Bool.or_true]
      cases S (k : Int) <;> rfl
    · rw [ih (by omega)]
      have e : decide (((N : Nat) : Int) = (k : Int)) = false := decide_eq_false (by omega)
      simp only [e, Bool.or_false]
      cases S (k : Int) <;> cases S (N : Int) <;> simp
/-- two rising rows with the same members are one -/
theorem rising_same : ∀ {a b : List Int}, a.Pairwise (· < ·) → b.Pairwise (· < ·) → (∀ k, k ∈ a ↔ k ∈ b) → a = b
  | [], [], _, _, _ => rfl
  | [], y :: b, _, _, h => absurd ((h y).mpr List.mem_cons_self) List.not_mem_nil
  | x :: a, [], _, _, h => absurd ((h x).mp List.mem_cons_self) List.not_mem_nil
  | x :: a, y :: b, ha, hb, h => by
    obtain ⟨h1, h2⟩ := List.pairwise_cons.mp ha
    obtain ⟨h3, h4⟩ := List.pairwise_cons.mp hb
    have e : x = y := by
      rcases List.mem_cons.mp ((h x).mp List.mem_cons_self) with z | z
      · exact z
      · rcases List.mem_cons.mp ((h y).mpr List.mem_cons_self) with z2 | z2
        · exact z2.symm
        · have := h3 x z
          have := h1 y z2
          omega
    subst e
    have e2 : a = b := rising_same h2 h4 fun k => by
      constructor
      · intro hk
        rcases List.mem_cons.mp ((h k).mp (List.mem_cons_of_mem _ hk)) with z | z
        · have := h1 k hk
          omega
        · exact z
      · intro hk
        rcases List.mem_cons.mp ((h k).mpr (List.mem_cons_of_mem _ hk)) with z | z
        · have := h3 k hk
          omega
        · exact z
    rw [e2]
theorem range_rising (p : Nat → Bool) (N : Nat) : (((List.range N).filter p).map fun (n : Nat) => (n : Int)).Pairwise (· < ·) := by
  refine List.pairwise_map.mpr ?_
  refine List.Pairwise.imp (fun h => by omega) (List.Pairwise.filter p (List.pairwise_lt_range (n := N)))
end Gx

set_option Elab.async false
set_option linter.all false
set_option maxRecDepth 100000
set_option maxHeartbeats 4000000
namespace Gx
open PySem PySem.Spec PyProof.Rows L2 HT
/-! t[::-1] of a tuple -/
section
variable {prog : Program} {w : World} {A : Around} {E : Value → Shared → Prop} {s : Shared}
theorem back_places (n : Nat) : Builtin.Slice.slicePlaces ((n : Int) - 1) (-1) (-1) = n := by
  unfold Builtin.Slice.slicePlaces
  have h1 : ¬ ((-1 : Int) > 0) := by decide
  have e : (- -1 : Int) = 1 := by decide
  simp only [h1, if_false, e, Int.ediv_one]
  split <;> omega
theorem back_adjust (n : Nat) : Builtin.Slice.sliceAdjust none none (-1) (n : Int) = ((n : Int) - 1, -1) := by
  unfold Builtin.Slice.sliceAdjust
  rfl
theorem back_pick (xs : Array Value) : ((List.range xs.size).filterMap fun (m : Nat) => xs[((xs.size : Int) - 1 + (m : Int) * (-1)).toNat]?).toArray = xs.toList.reverse.toArray := by
  have e : (List.range xs.size).filterMap (fun (m : Nat) => xs[((xs.size : Int) - 1 + (m : Int) * (-1)).toNat]?) = ((List.range xs.size).map fun k => xs.size - 1 - k).filterMap (xs[·]?) := by
    rw [List.filterMap_map]
    have z : (fun (m : Nat) => xs[((xs.size : Int) - 1 + (m : Int) * (-1)).toNat]?) = (fun x => xs[x]?) ∘ fun k => xs.size - 1 - k := by
      funext m
      show xs[((xs.size : Int) - 1 + (m : Int) * (-1)).toNat]? = xs[xs.size - 1 - m]?
      congr 1
      omega
    rw [z]
  rw [e, PySem.W.krv_range, List.filterMap_reverse, PySem.W.krv_all]
theorem back_applied {sl : Addr} {vl vu vs : Value} {n : Nat} {Q : Int × Int × Nat → Shared → Prop} (hs : s.heap.IsSliceOf sl vl vu vs) (pl : IsPart vl none) (pu : IsPart vu none) (ps : IsPart vs (some (-1)))
    (h : Q ((n : Int) - 1, -1, n) s) : wpAny (model prog w) A (Builtin.Slice.sliceApplied (.ref sl) (pure (n : Int))) Q E s := by
  obtain ⟨os, hos, hcs, hds⟩ := id hs
  unfold Builtin.Slice.sliceApplied Builtin.Slice.sliceFields
  refine wpAny_bind (wpAny_bind (wpAny_field hos hds (x := vl) rfl (wpAny_bind (wpAny_field hos hds (x := vu) rfl (wpAny_bind (wpAny_field hos hds (x := vs) rfl (wpAny_pure ?_)))))))
  refine wpAny_bind (slicePart_ ps ?_)
  show wpAny _ _ (if ((-1 : Int) == 0) = true then _ else _) _ _ s
  rw [if_neg (by decide)]
  refine wpAny_bind (slicePart_ pl (wpAny_bind (slicePart_ pu (wpAny_bind (wpAny_pure ?_)))))
  show wpAny _ _ (match Builtin.Slice.sliceAdjust none none (-1) (n : Int) with | (lo, hi) => pure (lo, (-1 : Int), Builtin.Slice.slicePlaces lo hi (-1))) _ _ s
  rw [back_adjust n]
  show wpAny _ _ (pure ((n : Int) - 1, (-1 : Int), Builtin.Slice.slicePlaces ((n : Int) - 1) (-1) (-1))) _ _ s
  rw [back_places]
  exact wpAny_pure h
theorem back_get {t sl : Addr} {items : Array Value} {vl vu vs : Value} {Q : Value → Shared → Prop} (ht : IsTup s.heap t items) (hs : s.heap.IsSliceOf sl vl vu vs) (pl : IsPart vl none) (pu : IsPart vu none) (ps : IsPart vs (some (-1)))
    (h : Q (.ref s.heap.objs.size) { s with heap := s.heap.push { cls := .type "tuple", data := .seq items.toList.reverse.toArray } })
    (hsz : items.size ≤ sizeLine) : wpAny (model prog w) A (getItem (.ref t) (.ref sl)) Q E s := by
  have hok : sizeOk (.seq items.toList.reverse.toArray) := by
    show items.toList.reverse.toArray.size ≤ sizeLine
    rw [List.size_toArray, List.length_reverse, Array.length_toList]
    omega
  obtain ⟨os, hos, hcs, hds⟩ := id hs
  have hTs : s.TypeIs (.ref sl) "slice" := ⟨os, hos, hcs⟩
  unfold getItem
  try with_reducible refine wpAny_holding ?_
  first | refine wpAny_bind (wpAny_pure ?_) | skip
  refine wpAny_bind (wpAny_sequenceKey ht.typeIs (by decide) ?_)
  refine wpAny_bind (wpAny_callSpecial?_slot (name := Str.ofString "__getitem__") ht.typeIs PyProof.Rows.slot_tuple_getitem (wpAny_call_entry PyProof.Rows.slot_tuple_getitem ht.typeIs entry_tuple_getitem ?_ (args_tuple_getitem _ _)))
  show wpAny _ _ (Builtin.Tuple.tupleItemsOf (.ref t) >>= _) _ _ s
  refine wpAny_bind (tupleItemsOf_ ht ?_)
  refine wpAny_bind (wpAny_typeOf hTs ?_)
  rw [if_pos (by decide)]
  refine wpAny_bind (back_applied hs pl pu ps ?_)
  show wpAny _ _ (if (((items.size : Int) - 1 == 0) && (-1 : Int) == 1 && items.size == items.size) = true then _ else _) _ _ s
  rw [if_neg (by simp), back_pick]
  first
    | exact wpAny_bind (m := Builtin.Tuple.tupleExact _) (wpAny_newObj_type (wpAny_pure ⟨_, rfl, wpAny_pure h⟩) hok)
    | exact wpAny_bind (m := Builtin.Tuple.tupleExact _) (wpAny_newObj_type (wpAny_bind (wpAny_pure (wpAny_pure ⟨_, rfl, wpAny_pure h⟩))) hok)
    | exact wpAny_bind (wpAny_bind (m := Builtin.Tuple.tupleExact _) (wpAny_newObj_type (wpAny_pure (wpAny_pure ⟨_, rfl, wpAny_pure h⟩)) hok))
    | exact wpAny_bind (wpAny_bind (m := Builtin.Tuple.tupleExact _) (wpAny_newObj_type (wpAny_pure ⟨_, rfl, wpAny_pure h⟩) hok))
end
section
variable {X : Cx}
def tRevT (K : PySem.W.Frag) (te : TE) : TE := fun σ H Q => te σ H fun x H1 => ∃ a xs, x = .ref a ∧ SqT K H1 a xs ∧ ∀ p, H1 p = none → Q (.ref p) (upd H1 p (.tup xs.reverse))
theorem pe_revT {e : Expr} {te : TE} {k : Nat} {p1 p2 p3 pos : Pos} (he : PE X e te) : PE X (.Subscript e (.Slice none none (some (.UnaryOp .USub (.Constant (.int 1) k p1) p2)) p3) pos) (tRevT X.K te) := by
  refine ⟨fun pn s0 st Hp0 Qv I0 hh => ?_⟩
  refine Subscript_ (thn (he.run pn s0 st Hp0 _ I0 hh) fun v s1 ⟨x, H1, I1, r1, q1⟩ => ?_)
  obtain ⟨a, xs, ex, hx, q⟩ := q1
  subst ex
  cases r1
  have hst : PO X (some (.UnaryOp .USub (.Constant (.int 1) k p1) p2)) (tPart (tUn (rU fun i => .int (-i)) (tC (.int 1)))) := po_some (pe_un un_neg pe_int)
  refine wpAny_Slice (thn (po_none.run pn s1 st H1 (fun o H2 => o = none ∧ H2 = H1) I1 ⟨rfl, rfl⟩) fun vl s2 ⟨l, H2, I2, pl, el, e2⟩ => ?_)
  subst el e2
  refine thn (po_none.run pn s2 st H2 (fun o H3 => o = none ∧ H3 = H2) I2 ⟨rfl, rfl⟩) fun vu s3 ⟨u, H3, I3, pu, eu, e3⟩ => ?_
  subst eu e3
  refine thn (hst.run pn s3 st H3 (fun o H4 => o = some (-1) ∧ H4 = H3) I3 ⟨1, rfl, -1, rfl, rfl, rfl⟩) fun vs s4 ⟨o, H4, I4, ps, eo, e4⟩ => ?_
  subst eo e4
  have I5 : Inv X pn st H4 { s4 with heap := s4.heap.push { cls := .type "slice", data := .fields #[vl, vu, vs] } } := I4.kept (t' := s4.toks) fun b ob q => Heap.get?_push_of_some _ q
  obtain ⟨its, r, ht, hz⟩ := I5.tuple hx
  have hlen := r.length
  show wpAny (model X.prog X.w) X.A (subscriptTail e (.Slice none none (some (.UnaryOp .USub (.Constant (.int 1) k p1) p2)) p3) (.ref a) (.ref s4.heap.objs.size)) (EP X pn st Qv) X.xe { s4 with heap := s4.heap.push { cls := .type "slice", data := .fields #[vl, vu, vs] } }
  refine tail_any (ops := [.ref a, .ref s4.heap.objs.size]) ht.typeIs (PyProof.Rows.slot_tuple_getitem.lookup) ?_ (by with_unfolding_all rfl)
  refine back_get ht (Heap.IsSliceOf.new _ vl vu vs) pl pu ps ?_ (by rw [List.size_toArray]; omega)
  refine ⟨.ref _, _, I5.laid (t' := s4.toks) (o := .tup xs.reverse) (fun b ob q => Heap.get?_push_of_some _ q) (Nat.le_refl _) ?_, rfl, q _ (I5.hok.fresh (Nat.le_refl _))⟩
  exact ⟨by rw [List.length_reverse]; exact hz, _, r.reverse, IsTup.new _ _⟩
end
end Gx

set_option Elab.async false
set_option linter.all false
set_option maxRecDepth 100000
set_option maxHeartbeats 4000000
namespace Gx
open PySem PySem.Spec PyProof.Rows L2 HT
/-! enumerate(t), t a tuple -/
theorem meets_enum1 {v : Value} {o : Obj} {H : Heap → Prop} (B : Begins v o H) :
    Meets (Builtin.«enumerate.__new__» ⟨[.type "enumerate", v], []⟩) (fun _ R s => H s.heap ∧
      R (.ok (.ret (.ref (s.heap.push o).objs.size))) { s with heap := (s.heap.push o).push { cls := .type "enumerate", data := .fields #[.none, .bool false, .ref s.heap.objs.size, rawInt 0, .none, .none] } }) :=
  .of_wp fun prog w A R s h => by
    obtain ⟨hp, g, d, tk, os⟩ := s
    obtain ⟨h1, h⟩ := h
    have hsub := sub_enumerate
    have begun : ∀ {A' : Around} {E : Value → Shared → Prop} {Q : Value → Shared → Prop}, Q (.ref hp.objs.size) ⟨hp.push o, g, d, tk, os⟩ → wpAny (model prog w) A' (pyIter v) Q E ⟨hp, g, d, tk, os⟩ :=
      fun q => B.iter prog w _ _ ⟨hp, g, d, tk, os⟩ _ h1 q
    wp_walk using begun
    refine wpAny_stack_any fun st => wpAny_pure ?_
    split
    · rename_i c _ _ _ _ _
      cases (c == Value.type "enumerate") <;> (wp_walk using begun; exact ⟨_, rfl, h⟩)
    · wp_walk using begun
      exact ⟨_, rfl, h⟩
section
variable {prog : Program} {w : World} {A : Around} {E : Value → Shared → Prop} {s : Shared}
theorem call_enum1 {v : Value} {o : Obj} {H : Heap → Prop} {Q : Value → Shared → Prop} (B : Begins v o H) (h1 : H s.heap)
    (h : ∀ h', IsEnum h' (s.heap.objs.size + 1) s.heap.objs.size 0 .none → h'.get? s.heap.objs.size = some o → h'.objs.size = s.heap.objs.size + 2 →
      (∀ b o, s.heap.get? b = some o → h'.get? b = some o) → Q (.ref (s.heap.objs.size + 1)) { s with heap := h' }) :
    wpAny (model prog w) A (call (.type "enumerate") [v]) Q E s := by
  refine callType_new F.called_enumerate (by decide) (F.typeCall_enumerate_1 _) (F.newCall_enumerate_1 _) (fun obj => F.args_object_init_2 obj _) F.entry_enumerate_new (meets_enum1 B) ⟨h1, ?_⟩
  have hz : (s.heap.push o).objs.size = s.heap.objs.size + 1 := Heap.size_push ..
  show _ ∧ _
  rw [hz]
  have he : IsEnum ((s.heap.push o).push { cls := .type "enumerate", data := .fields #[.none, .bool false, .ref s.heap.objs.size, rawInt 0, .none, .none] }) (s.heap.objs.size + 1) s.heap.objs.size 0 .none := by
    have z := Heap.get?_push_size (s.heap.push o) (o := { cls := .type "enumerate", data := .fields #[.none, .bool false, .ref s.heap.objs.size, rawInt 0, .none, .none] }) rfl
    rw [hz] at z
    exact z
  exact ⟨⟨_, he, rfl⟩, h _ he (Heap.get?_push_of_some _ (Heap.get?_push_size _ B.free)) (by rw [Heap.size_push, hz]) fun b o x => Heap.get?_push_of_some _ (Heap.get?_push_of_some _ x)⟩
theorem end_enumT {e it l : Addr} {k : Nat} {i : Int} {items : Array Value} {old : Value} {Q : Option Value → Shared → Prop} (hh : A.handled = none) (he : IsEnum s.heap e it i old) (hit : s.heap.IsTupleIter it l k) (hl : s.heap.IsTuple l items) (hx : items[k]? = none)
    (hQ : ∀ h', Heap.ExtBut it s.heap h' → Q none { s with heap := h' }) : wpAny (model prog w) A (pyNext (.ref e)) Q E s := by
  have hT : s.TypeIs (.ref e) "enumerate" := ⟨_, he, rfl⟩
  unfold pyNext
  refine wpAny_bind (wpAny_attempt (wpAny_callSpecial?_slot (name := Str.ofString "__next__") hT F.slot_enumerate_next (wpAny_call_entry F.slot_enumerate_next hT F.entry_enumerate_next ?_ (F.args_enumerate_next_1 _))))
  show wpAny _ _ (field (.ref e) 2 >>= _) _ _ _
  refine wpAny_bind (wpAny_field he rfl (x := .ref it) rfl ?_)
  refine wpAny_bind (wpAny_nextOf_tuple_end (show A.in1.handled = none from hh) hit hl hx fun h' x he' hx' => ?_)
  obtain ⟨o, ho, hc⟩ := hx'
  refine wpAny_bind (wpAny_isInstance (T := "StopIteration") (b := true) ⟨o, ho, hc⟩ isSubtype_stop ?_)
  exact wpAny_pure (hQ _ he')
end
/-- the tuple at a, each item in a new pair -/
def IteT (K : PySem.W.Frag) (a : Addr) : It :=
  ⟨fun i H => ∃ (xs : List V) (x : V), SqT K H a xs ∧ xs[i]? = some x, fun i H v H' => ∃ T x, v = .ref T ∧ H T = none ∧ H' = upd H T (.tup [.int (i : Nat), x]) ∧ ∀ xs, SqT K H a xs → xs[i]? = some x, fun i H => ∃ xs : List V, SqT K H a xs ∧ xs.length ≤ i⟩
theorem turn_enumT {P : Program} {w : World} {K : PySem.W.Frag} {elts : List Expr} {kk : Nat} {tpos : Pos} (a e it : Addr) :
    Turn P w K (.Tuple elts kk tpos) (IteT K a) [e, it] e (fun i h => (∃ old, IsEnum h e it ((i : Nat) : Int) old) ∧ h.IsTupleIter it a i ∧ e ≠ it ∧ a ≠ it ∧ a ≠ e) where
  mem := by simp
  obj := fun i h st b hb => by
    obtain ⟨⟨old, he⟩, ⟨o, ho, hc, hd⟩, _⟩ := st
    have e' : b = e ∨ b = it := by simpa using hb
    rcases e' with z | z
    · rw [z]; exact ⟨_, he, fun v q => nomatch q⟩
    · rw [z]; exact ⟨o, ho, fun v q => by rw [hd] at q; cases q⟩
  keep := fun i h h' st k => let ⟨⟨old, he⟩, hi, hne⟩ := st; ⟨⟨old, k e (by simp) _ he⟩, hi.at fun o q => k it (by simp) o q, hne⟩
  item := by
    intro X hP hw hK hc i pins s σ H E I hf st hg
    subst hP hw hK
    obtain ⟨⟨old, he⟩, hit, hne, hai, hae⟩ := st
    obtain ⟨xs, x, hq, hx⟩ := hg
    obtain ⟨its, rv, p, hz⟩ := I.tuple hq
    obtain ⟨u, hu, ru⟩ := rv.get hx
    have hel : e < s.heap.objs.size := Heap.lt_size he
    have hil : it < s.heap.objs.size := by obtain ⟨_, q, _⟩ := hit; exact Heap.lt_size q
    have hul : i < its.toArray.size := by
      have z := (List.getElem?_eq_some_iff.mp hu).1
      simpa using z
    refine wpAny_pyNext_enum_itemD (Draws.tuple (show X.A.in1.handled = none from I.ok.hd hc) it a hai its.toArray) he ⟨hit, p⟩ hul hne (by simp [hne, Ne.symm hae]) fun y h' tk hy ho hit' hT hsz hk => ?_
    obtain rfl : y = u := by
      have z : its.toArray[i]? = some u := by simpa using hu
      rw [z] at hy
      exact (Option.some.inj hy).symm
    refine ⟨_, rfl, wpAny_letOwnedTupleGo_enum (s := { s with heap := h', toks := tk + 1 }) ho fun h'' he' sb => ?_⟩
    have hT2 : h''.get? s.heap.objs.size = some { cls := .type "tuple", data := .seq #[.int i tk, y] } := (sb.2 _ (Nat.ne_of_gt hel)).trans hT
    have new : ObjOk X.prog X.w (upd H s.heap.objs.size (.tup [.int (i : Nat), x])) h'' s.heap.objs.size (.tup [.int (i : Nat), x]) :=
      ⟨by show 2 ≤ sizeLine; decide, [.int i tk, y], .cons ⟨_, rfl⟩ (.cons ru .nil), ⟨_, hT2, rfl, _, rfl⟩⟩
    have I1 : Inv X pins σ (upd H s.heap.objs.size (.tup [.int (i : Nat), x])) { s with heap := h'', toks := tk + 1 } :=
      I.turnedNew (ch := [e, it]) (fun b ob hb q => (sb.2 b (fun z => hb (by simp [z]))).trans (hk b ob (fun z => hb (by simp [z])) (fun z => hb (by simp [z])) q)) hf (Nat.le_refl _) new
    refine ⟨.ref s.heap.objs.size, _, I1, rfl, ⟨_, x, rfl, I.hok.fresh (Nat.le_refl _), rfl, fun ys hy => by rw [I.tuple_inj hy hq]; exact hx⟩, ⟨⟨y, ?_⟩, hit'.1.at fun o q => (sb.2 it (Ne.symm hne)).trans q, hne, hai, hae⟩, fun b hb => ?_⟩
    · have e1 : ((i + 1 : Nat) : Int) = (i : Int) + 1 := by omega
      rw [e1]
      exact he'
    · have hb' : b < s.heap.objs.size := by
        have e' : b = e ∨ b = it := by simpa using hb
        rcases e' with z | z
        · rw [z]; exact hel
        · rw [z]; exact hil
      rw [upd_ne (Nat.ne_of_lt hb')]
      exact (hf b hb).1
  done := by
    intro X hP hw hK hc i pins s σ H E I hf st hg
    subst hP hw hK
    obtain ⟨⟨old, he⟩, hit, hne, hai, hae⟩ := st
    obtain ⟨xs, hq, hx⟩ := hg
    obtain ⟨its, rv, p, hz⟩ := I.tuple hq
    obtain ⟨f0, f1, f2, f3, f4, f5⟩ := hf it (by simp)
    have hl := rv.length
    exact end_enumT (I.ok.hd hc) he hit p (by simp; omega) fun h' eb => ⟨rfl, I.turned (t' := s.toks) (fun b o hb q => eb b o hb q) f0 f1 f3 f4 f5⟩
  self := fun A i s Q E st h => let ⟨⟨_, he⟩, _⟩ := st; wpAny_pyIter_enum he h
def iEnumT (K : PySem.W.Frag) (ta : TA) : TI := fun σ H R => ta σ H fun vs H1 => ∃ a xs, vs = [.ref a] ∧ SqT K H1 a xs ∧ R (IteT K a) H1
theorem pi_enumT {X : Cx} {e : Expr} {ta : TA} {p pos tpos : Pos} {elts : List Expr} {kk : Nat} (hg : Gl X "enumerate") (hm : X.mg "enumerate" = none) (ha : PA X [e] ta) (hs : starEach [e] X.env = [(false, eval e X.env)] := by rfl) :
    PI X (.Tuple elts kk tpos) (.Call (.Name "enumerate" p) [e] [] pos) (iEnumT X.K ta) := by
  refine ⟨fun pn s0 st Hp0 R I hh => ?_⟩
  refine Call_ (ld_blt I hg hm boot_enumerate (PyProof.Rows.callWith_type1 (thn (ha.run pos pn s0 st Hp0 _ I hh) fun us s1 ⟨vs, H1, I1, r1, q1⟩ => ?_) hs rfl))
  obtain ⟨a, xs, ex, hq, q⟩ := q1
  subst ex
  cases r1 with
  | cons r rr =>
    cases rr
    cases r
    obtain ⟨its, rv, p', hz⟩ := I1.tuple hq
    obtain ⟨oa, hoa, _⟩ := id p'
    have hal := Heap.lt_size hoa
    refine call_enum1 (begins_tuple a its.toArray) p' fun h' he hit hsz hk => wpAny_pyIter_enum he ?_
    have I2 : Inv X pn st H1 { s1 with heap := h' } := I1.kept (t' := s1.toks) hk
    refine ⟨s1.heap.objs.size + 1, [s1.heap.objs.size + 1, s1.heap.objs.size], _, _, H1, rfl, I2, turn_enumT a (s1.heap.objs.size + 1) s1.heap.objs.size, ⟨⟨.none, he⟩, ⟨_, hit, rfl, rfl⟩, Nat.succ_ne_self _, Nat.ne_of_lt hal, Nat.ne_of_lt (Nat.lt_succ_of_lt hal)⟩, fun b hb => ?_, q⟩
    have e' : b = s1.heap.objs.size + 1 ∨ b = s1.heap.objs.size := by simpa using hb
    have hle : s1.heap.objs.size ≤ b := by
      rcases e' with z | z
      · rw [z]; exact Nat.le_add_right _ _
      · rw [z]; exact Nat.le_refl _
    exact I1.fpOk hle (I1.hok.fresh hle)
end Gx

set_option linter.all false
/-! the mirror: what the program's text computes, over data, with lists and dicts that change kept in a store -/
namespace Ev
open PySem
/-- what can be changed: a list, a dict, a set, of data -/
inductive Cell where
  | lst (ds : List PyData)
  | dct (kvs : List (PyData × PyData))
  | set (k : Bool) (ds : List PyData)
abbrev Store := List (Option Cell)
/-- a value: data that is never changed, a cell's number, a set that is never changed -/
inductive Val where
  | dat (d : PyData)
  | ref (n : Nat)
  | set (k : Bool) (ds : List PyData)
abbrev MEnv := List (Option Val)
/-- an error: its class's name, what it bears -/
structure Exc where
  cls : Str
  pay : Option (Str × PyData)
inductive Res (α : Type) where
  | ok (a : α) (S : Store)
  | exc (x : Exc) (S : Store)
  | bad
def Res.bind {α β : Type} (r : Res α) (g : α → Store → Res β) : Res β :=
  match r with
  | .ok a S => g a S
  | .exc x S => .exc x S
  | .bad => .bad
inductive Flow where
  | nx (env : MEnv) (S : Store)
  | rt (v : Val) (S : Store)
  | bk (env : MEnv) (S : Store)
  | ct (env : MEnv) (S : Store)
  | exc (x : Exc) (env : MEnv) (S : Store)
  | bad
abbrev Fe := MEnv → Store → Res Val
abbrev Ft := MEnv → Store → Res Bool
abbrev Fa := MEnv → Store → Res (List Val)
abbrev Fs := MEnv → Store → Flow
abbrev Fg := Val → MEnv → Option MEnv
/-- what a loop walks: its items; the cell that they are of, if any, with what it holds -/
abbrev Walks := List Val × Option (Nat × Cell)
abbrev Fi := MEnv → Store → Res Walks
/-- what a comprehension makes -/
abbrev Fc := MEnv → Store → Res (List PyData)
@[simp] theorem bind_ok {α β : Type} {a : α} {S : Store} {g : α → Store → Res β} : (Res.ok a S).bind g = g a S := rfl
@[simp] theorem bind_exc {α β : Type} {x : Exc} {S : Store} {g : α → Store → Res β} : (Res.exc x S : Res α).bind g = .exc x S := rfl
@[simp] theorem bind_bad {α β : Type} {g : α → Store → Res β} : (Res.bad : Res α).bind g = .bad := rfl
def ofOpt {α : Type} (o : Option α) (S : Store) : Res α :=
  match o with
  | some a => .ok a S
  | none => .bad
@[simp] theorem ofOpt_some {α : Type} {a : α} {S : Store} : ofOpt (some a) S = .ok a S := rfl
@[simp] theorem ofOpt_none {α : Type} {S : Store} : ofOpt (none : Option α) S = .bad := rfl
/-- a list's or dict's present content -/
def Cell.now : Cell → Option PyData
  | .lst ds => some (.list ds)
  | .dct kvs => some (.dict kvs)
  | .set _ _ => none
/-- what a value is now -/
def view (S : Store) : Val → Option PyData
  | .dat d => some d
  | .ref n => match S[n]? with
    | some (some c) => c.now
    | _ => none
  | .set _ _ => none
@[simp] theorem view_dat {S : Store} {d : PyData} : view S (.dat d) = some d := rfl

/-! expressions -/
def eV (i : Nat) : Fe := fun env S =>
  match env[i]? with
  | some (some v) => .ok v S
  | _ => .bad
def eD (d : PyData) : Fe := fun _ S => .ok (.dat d) S
/-- operations on data -/
def e1 (g : PyData → Option PyData) (a : Fe) : Fe := fun env S =>
  (a env S).bind fun x S1 => ofOpt ((view S1 x).bind g) S1 |>.bind fun d S2 => .ok (.dat d) S2
def e2 (g : PyData → PyData → Option PyData) (a b : Fe) : Fe := fun env S =>
  (a env S).bind fun x S1 => (b env S1).bind fun y S2 =>
    ofOpt ((view S2 x).bind fun c => (view S2 y).bind fun d => g c d) S2 |>.bind fun d S3 => .ok (.dat d) S3
def e3 (g : PyData → PyData → PyData → Option PyData) (a b c : Fe) : Fe := fun env S =>
  (a env S).bind fun x S1 => (b env S1).bind fun y S2 => (c env S2).bind fun z S3 =>
    ofOpt ((view S3 x).bind fun p => (view S3 y).bind fun q => (view S3 z).bind fun r => g p q r) S3 |>.bind fun d S4 => .ok (.dat d) S4
def eAnd (a b : Fe) : Fe := fun env S => (a env S).bind fun x S1 =>
  match x with
  | .dat (.bool true) => b env S1
  | .dat (.bool false) => .ok (.dat (.bool false)) S1
  | _ => .bad
def eOr (a b : Fe) : Fe := fun env S => (a env S).bind fun x S1 =>
  match x with
  | .dat (.bool true) => .ok (.dat (.bool true)) S1
  | .dat (.bool false) => b env S1
  | _ => .bad
def eNot (a : Fe) : Fe := fun env S => (a env S).bind fun x S1 =>
  match x with
  | .dat (.bool k) => .ok (.dat (.bool (!k))) S1
  | _ => .bad
def eIf (t : Ft) (a b : Fe) : Fe := fun env S => (t env S).bind fun k S1 => if k = true then a env S1 else b env S1
/-- a comparison of three -/
def eCh (g h : PyData → PyData → Option Bool) (a b c : Fe) : Fe := fun env S =>
  (a env S).bind fun x S1 => (b env S1).bind fun y S2 =>
    ofOpt ((view S2 x).bind fun p => (view S2 y).bind fun q => g p q) S2 |>.bind fun k S3 =>
      if k = true then (c env S3).bind fun z S4 =>
        ofOpt ((view S4 y).bind fun q => (view S4 z).bind fun r => h q r) S4 |>.bind fun k' S5 => .ok (.dat (.bool k')) S5
      else .ok (.dat (.bool false)) S3
/-! arguments -/
def aN : Fa := fun _ S => .ok [] S
def aC (a : Fe) (r : Fa) : Fa := fun env S => (a env S).bind fun x S1 => (r env S1).bind fun xs S2 => .ok (x :: xs) S2
/-- all are data -/
def dats : List Val → Option (List PyData)
  | [] => some []
  | .dat d :: r => (dats r).map (d :: ·)
  | _ => none
def lineN : Nat := 16777216
/-- (a, b), [a, b] -/
def eTup (a : Fa) : Fe := fun env S => (a env S).bind fun xs S1 => ofOpt (dats xs) S1 |>.bind fun ds S2 =>
  if ds.length ≤ lineN then .ok (.dat (.tuple ds)) S2 else .bad
def eLst (a : Fa) : Fe := fun env S => (a env S).bind fun xs S1 => ofOpt (dats xs) S1 |>.bind fun ds S2 =>
  if ds.length ≤ lineN then .ok (.dat (.list ds)) S2 else .bad
/-- [a, b] that will be changed -/
def eLstC (a : Fa) : Fe := fun env S => (a env S).bind fun xs S1 => ofOpt (dats xs) S1 |>.bind fun ds S2 =>
  if ds.length ≤ lineN then .ok (.ref S2.length) (S2 ++ [some (.lst ds)]) else .bad
/-- the new list that an operation gives, to be changed -/
def newC (o : Option PyData) (S : Store) : Res Val :=
  match o with
  | some (.list ds) => .ok (.ref S.length) (S ++ [some (.lst ds)])
  | _ => .bad
def e1C (g : PyData → Option PyData) (a : Fe) : Fe := fun env S => (a env S).bind fun x S1 => newC ((view S1 x).bind g) S1
def e2C (g : PyData → PyData → Option PyData) (a b : Fe) : Fe := fun env S => (a env S).bind fun x S1 => (b env S1).bind fun y S2 =>
  newC ((view S2 x).bind fun c => (view S2 y).bind fun d => g c d) S2
/-- a cell's last use: from now on its content is never changed -/
def freeze (S : Store) : Val → Res Val
  | .ref n => match S[n]? with
    | some (some c) => match c with
      | .lst ds => .ok (.dat (.list ds)) (S.set n none)
      | .dct kvs => .ok (.dat (.dict kvs)) (S.set n none)
      | .set k ds => .ok (.set k ds) (S.set n none)
    | _ => .bad
  | v => .ok v S
def eFrz (a : Fe) : Fe := fun env S => (a env S).bind fun x S1 => freeze S1 x
/-- a call of a def -/
abbrev Fn := List Val → Store → Res Val
def eCall (f : Fn) (a : Fa) : Fe := fun env S => (a env S).bind fun xs S1 => f xs S1
/-- a call with keywords: positional values, then the keywords' -/
abbrev Fk := List Val → List Val → Store → Res Val
def eCallK (f : Fk) (a k : Fa) : Fe := fun env S => (a env S).bind fun xs S1 => (k env S1).bind fun zs S2 => f xs zs S2
/-- a comparison's mirror as an operation on data -/
def cmpD (g : PyData → PyData → Option Bool) : PyData → PyData → Option PyData := fun c d => (g c d).map PyData.bool
/-! tests -/
def tB (a : Fe) : Ft := fun env S => (a env S).bind fun x S1 =>
  match x with
  | .dat (.bool k) => .ok k S1
  | _ => .bad
def truth : PyData → Option Bool
  | .none => some false
  | .bool b => some b
  | .int i => some (i != 0)
  | .str x => some (x.length != 0)
  | .list ds => some (!ds.isEmpty)
  | .tuple ds => some (!ds.isEmpty)
  | .dict _ => none
def tTru (a : Fe) : Ft := fun env S => (a env S).bind fun x S1 => ofOpt ((view S1 x).bind truth) S1
def t2 (g : PyData → PyData → Option Bool) (a b : Fe) : Ft := fun env S =>
  (a env S).bind fun x S1 => (b env S1).bind fun y S2 =>
    ofOpt ((view S2 x).bind fun c => (view S2 y).bind fun d => g c d) S2
def tCh (g h : PyData → PyData → Option Bool) (a b c : Fe) : Ft := fun env S =>
  (a env S).bind fun x S1 => (b env S1).bind fun y S2 =>
    ofOpt ((view S2 x).bind fun p => (view S2 y).bind fun q => g p q) S2 |>.bind fun k S3 =>
      if k = true then (c env S3).bind fun z S4 =>
        ofOpt ((view S4 y).bind fun q => (view S4 z).bind fun r => h q r) S4
      else .ok false S3
def tAnd (a b : Ft) : Ft := fun env S => (a env S).bind fun k S1 => if k = true then b env S1 else .ok false S1
def tOr (a b : Ft) : Ft := fun env S => (a env S).bind fun k S1 => if k = true then .ok true S1 else b env S1
def tNot (a : Ft) : Ft := fun env S => (a env S).bind fun k S1 => .ok (!k) S1
def tYes : Ft := fun _ S => .ok true S
/-! targets -/
def gN (i : Nat) : Fg := fun v env => some (env.set i (some v))
def putAll : List Fg → List PyData → MEnv → Option MEnv
  | [], [], env => some env
  | g :: gs, d :: ds, env => (g (.dat d) env).bind fun env1 => putAll gs ds env1
  | _, _, _ => none
def gT (gs : List Fg) : Fg := fun v env =>
  match v with
  | .dat (.tuple ds) => putAll gs ds env
  | _ => none
/-! statements -/
def Flow.next (f : Flow) (k : MEnv → Store → Flow) : Flow :=
  match f with
  | .nx env S => k env S
  | f => f
def sN : Fs := fun env S => .nx env S
def sQ (a b : Fs) : Fs := fun env S => (a env S).next b
def andThen (env : MEnv) (r : Res Val) (k : Val → Store → Flow) : Flow :=
  match r with
  | .ok v S => k v S
  | .exc x S => .exc x env S
  | .bad => .bad
def andTest (env : MEnv) (r : Res Bool) (k : Bool → Store → Flow) : Flow :=
  match r with
  | .ok v S => k v S
  | .exc x S => .exc x env S
  | .bad => .bad
def sE (a : Fe) : Fs := fun env S => andThen env (a env S) fun _ S1 => .nx env S1
def sR (a : Fe) : Fs := fun env S => andThen env (a env S) fun v S1 => .rt v S1
def sR0 : Fs := fun _ S => .rt (.dat .none) S
def sI (t : Ft) (a b : Fs) : Fs := fun env S => andTest env (t env S) fun k S1 => if k = true then a env S1 else b env S1
def sG (a : Fe) (g : Fg) : Fs := fun env S => andThen env (a env S) fun v S1 =>
  match g v env with
  | some env1 => .nx env1 S1
  | none => .bad
def sRaise (x : Exc) : Fs := fun env S => .exc x env S
def sBk : Fs := fun env S => .bk env S
def sCt : Fs := fun env S => .ct env S
def isLst (S : Store) : Val → Bool
  | .ref n => match S[n]? with
    | some (some (.lst _)) => true
    | _ => false
  | _ => false
/-- xs.append(e) -/
def sApp (a b : Fe) : Fs := fun env S => andThen env (a env S) fun x S1 => if isLst S1 x = true then andThen env (b env S1) fun y S2 =>
  match x, y with
  | .ref n, .dat d => match S2[n]? with
    | some (some (.lst ds)) => if ds.length < lineN then .nx env (S2.set n (some (.lst (ds ++ [d])))) else .bad
    | _ => .bad
  | _, _ => .bad
  else .bad
/-- where an item of a list of n stands -/
def ixOf (n : Nat) (i : Int) : Option Nat :=
  if 0 ≤ i then (if i.toNat < n then some i.toNat else none)
  else if 0 ≤ i + n then some (i + n).toNat else none
/-- xs[i] = e (the value first) -/
def sPut (e a b : Fe) : Fs := fun env S => andThen env (e env S) fun z S1 => andThen env (a env S1) fun x S2 => andThen env (b env S2) fun y S3 =>
  match x, y, z with
  | .ref n, .dat (.int i), .dat d => match S3[n]? with
    | some (some (.lst ds)) => match ixOf ds.length i with
      | some j => .nx env (S3.set n (some (.lst (ds.set j d))))
      | none => .bad
    | _ => .bad
  | _, _, _ => .bad
/-! loops -/
def keeps (k : Option (Nat × Cell)) (S : Store) : Prop :=
  match k with
  | none => True
  | some (n, c) => S[n]? = some (some c)
open Classical in
noncomputable def loop (g : Fg) (b : Fs) (k : Option (Nat × Cell)) : List Val → Fs
  | [], env, S => .nx env S
  | x :: xs, env, S => match g x env with
    | none => .bad
    | some env1 => match b env1 S with
      | .nx env2 S2 => if keeps k S2 then loop g b k xs env2 S2 else .bad
      | .ct env2 S2 => if keeps k S2 then loop g b k xs env2 S2 else .bad
      | .bk env2 S2 => .nx env2 S2
      | .rt v S2 => .rt v S2
      | .exc x env2 S2 => .exc x env2 S2
      | .bad => .bad
noncomputable def sF (i : Fi) (g : Fg) (b : Fs) : Fs := fun env S =>
  match i env S with
  | .ok (xs, k) S1 => loop g b k xs env S1
  | .exc x S1 => .exc x env S1
  | .bad => .bad
/-- what a list, a tuple, a text yields -/
def itemsOf : PyData → Option (List PyData)
  | .list ds => some ds
  | .tuple ds => some ds
  | .str x => some (x.cps.toList.map fun c => .str ⟨#[c]⟩)
  | _ => none
def guardOf (S : Store) : Val → Option (Nat × Cell)
  | .ref n => match S[n]? with
    | some (some c) => some (n, c)
    | _ => none
  | _ => none
def iA (a : Fe) : Fi := fun env S => (a env S).bind fun x S1 =>
  ofOpt ((view S1 x).bind itemsOf) S1 |>.bind fun ds S2 => .ok (ds.map Val.dat, guardOf S1 x) S2
/-- range(lo, hi) -/
def rangeOf (lo hi : Int) : List Val := (List.range (hi - lo).toNat).map fun (i : Nat) => Val.dat (.int (lo + (i : Int)))
def bnd (i : Int) : Bool := decide (-(2 ^ 62) ≤ i ∧ i < 2 ^ 62)
def iR1 (a : Fe) : Fi := fun env S => (a env S).bind fun x S1 =>
  match x with
  | .dat (.int j) => if bnd j = true then .ok (rangeOf 0 j, none) S1 else .bad
  | _ => .bad
def iR2 (a b : Fe) : Fi := fun env S => (a env S).bind fun x S1 => (b env S1).bind fun y S2 =>
  match x, y with
  | .dat (.int i), .dat (.int j) => if bnd i = true ∧ bnd j = true then .ok (rangeOf i j, none) S2 else .bad
  | _, _ => .bad
/-! comprehensions -/
def cE (e : Fe) : Fc := fun env S => (e env S).bind fun v S1 =>
  match v with
  | .dat d => .ok [d] S1
  | _ => .bad
open Classical in
noncomputable def compGo (g : Fg) (t : Ft) (b : Fc) (k : Option (Nat × Cell)) : List Val → Fc
  | [], _, S => .ok [] S
  | x :: xs, env, S => match g x env with
    | none => .bad
    | some env1 => (t env1 S).bind fun c S1 =>
      (if c = true then b env1 S1 else .ok [] S1).bind fun ds S2 =>
        if keeps k S2 then (compGo g t b k xs env S2).bind fun es S3 => .ok (ds ++ es) S3 else .bad
/-- the slots of a comprehension's own names are empty at its begin -/
def wipeE (env : MEnv) : List Nat → MEnv
  | [] => env
  | v :: vs => (wipeE env vs).set v none
noncomputable def cF (vs : List Nat) (i : Fi) (g : Fg) (t : Ft) (b : Fc) : Fc := fun env S =>
  (i env S).bind fun w S1 => compGo g t b w.2 w.1 (wipeE env vs) S1
/-- no error leaves a comprehension -/
def noX {α : Type} : Res α → Res α
  | .exc _ _ => .bad
  | r => r
@[simp] theorem noX_ok {α : Type} {a : α} {S : Store} : noX (.ok a S) = .ok a S := rfl
@[simp] theorem noX_exc {α : Type} {x : Exc} {S : Store} : noX (.exc x S : Res α) = .bad := rfl
@[simp] theorem noX_bad {α : Type} : noX (.bad : Res α) = .bad := rfl
/-- a list made by a comprehension -/
def eLc (c : Fc) : Fe := fun env S => (noX (c env S)).bind fun ds S1 => if ds.length ≤ lineN then .ok (.dat (.list ds)) S1 else .bad
/-- .. that will be changed -/
def eLcC (c : Fc) : Fe := fun env S => (noX (c env S)).bind fun ds S1 => if ds.length ≤ lineN then .ok (.ref S1.length) (S1 ++ [some (.lst ds)]) else .bad
/-! defs -/
def startEnv (n : Nat) (vs : List Val) : MEnv := vs.map some ++ List.replicate (n - vs.length) none
/-- behind a call what the callee made and kept is forgotten -/
def mkFn (n : Nat) (b : Fs) : Fn := fun vs S =>
  match b (startEnv n vs) S with
  | .nx _ S1 => .ok (.dat .none) (S1.take S.length)
  | .rt v S1 => match v with
    | .ref _ => .ok v S1
    | v => .ok v (S1.take S.length)
  | .exc x _ S1 => .exc x (S1.take S.length)
  | _ => .bad
end Ev

set_option Elab.async false
set_option linter.all false
set_option maxRecDepth 100000
set_option maxHeartbeats 4000000
/-! how the mirror's values and store stand in the abstract heap -/
namespace Ev
open PySem PySem.Spec PyProof.Rows L2
abbrev LSt := List (Option V)
/-- whatever can be read stays to be read -/
def Plain0 : HO → Prop
  | .frz _ _ => False
  | _ => True
/-- what is never locked: all but dicts -/
def NoLk : HO → Prop
  | .frz _ _ => False
  | .dK _ => False
  | .dT _ => False
  | _ => True
structure Sub (G G' : Hp) : Prop where
  rd : ∀ b u, Plain0 u → Rd G b u → Rd G' b u
  ex : ∀ b u, NoLk u → G b = some u → G' b = some u
theorem Sub.refl {G : Hp} : Sub G G := ⟨fun _ _ _ h => h, fun _ _ _ h => h⟩
theorem Sub.trans {G1 G2 G3 : Hp} (a : Sub G1 G2) (b : Sub G2 G3) : Sub G1 G3 := ⟨fun x u p h => b.rd x u p (a.rd x u p h), fun x u p h => b.ex x u p (a.ex x u p h)⟩
theorem Sub.of {G G' : Hp} (h : Same G G') : Sub G G' := ⟨fun b u _ r => by
  rcases r with r | ⟨o, r⟩
  · exact .inl (h b _ r)
  · exact .inr ⟨o, h b _ r⟩, fun b u _ e => h b u e⟩
theorem Sub.sqL {K : PySem.W.Frag} {G G' : Hp} {a : Addr} {xs : List V} (h : Sub G G') (q : SqL K G a xs) : SqL K G' a xs := by
  rcases q with q | q
  · exact .inl (h.rd _ _ trivial q)
  · exact .inr q
theorem Sub.sqT {K : PySem.W.Frag} {G G' : Hp} {a : Addr} {xs : List V} (h : Sub G G') (q : SqT K G a xs) : SqT K G' a xs := by
  rcases q with q | q
  · exact .inl (h.rd _ _ trivial q)
  · exact .inr q
mutual
/-- the value is that datum -/
inductive Rp (K : PySem.W.Frag) (G : Hp) : V → PyData → Prop
  | non : Rp K G .non .none
  | bl (b : Bool) : Rp K G (.bl b) (.bool b)
  | int (i : Int) : Rp K G (.int i) (.int i)
  | str (x : Str) (z : x.length ≤ sizeLine) : Rp K G (.str x) (.str x)
  | lst {a : Addr} {xs : List V} {ds : List PyData} (h : SqL K G a xs) (z : xs.length ≤ sizeLine) (r : RpAll K G xs ds) : Rp K G (.ref a) (.list ds)
  | tup {a : Addr} {xs : List V} {ds : List PyData} (h : SqT K G a xs) (z : xs.length ≤ sizeLine) (r : RpAll K G xs ds) : Rp K G (.ref a) (.tuple ds)
  | dct {a : Addr} {kvs : List (Key × V)} {ds : List (PyData × PyData)} (h : Rd G a (.dK kvs)) (z : kvs.length ≤ sizeLine) (r : RpKv K G kvs ds) : Rp K G (.ref a) (.dict ds)
inductive RpAll (K : PySem.W.Frag) (G : Hp) : List V → List PyData → Prop
  | nil : RpAll K G [] []
  | cons {v : V} {vs : List V} {d : PyData} {ds : List PyData} (h : Rp K G v d) (r : RpAll K G vs ds) : RpAll K G (v :: vs) (d :: ds)
inductive RpKv (K : PySem.W.Frag) (G : Hp) : List (Key × V) → List (PyData × PyData) → Prop
  | nil : RpKv K G [] []
  | cons {q : Key} {v : V} {kvs : List (Key × V)} {c d : PyData} {ds : List (PyData × PyData)} (hk : Rp K G (kV q) c) (h : Rp K G v d) (r : RpKv K G kvs ds) : RpKv K G ((q, v) :: kvs) ((c, d) :: ds)
end
mutual
theorem Rp.sub {K : PySem.W.Frag} {G G' : Hp} (s : Sub G G') : ∀ {v : V} {d : PyData}, Rp K G v d → Rp K G' v d
  | _, _, .non => .non
  | _, _, .bl b => .bl b
  | _, _, .int i => .int i
  | _, _, .str x z => .str x z
  | _, _, .lst h z r => .lst (s.sqL h) z (RpAll.sub s r)
  | _, _, .tup h z r => .tup (s.sqT h) z (RpAll.sub s r)
  | _, _, .dct h z r => .dct (s.rd _ _ trivial h) z (RpKv.sub s r)
theorem RpAll.sub {K : PySem.W.Frag} {G G' : Hp} (s : Sub G G') : ∀ {vs : List V} {ds : List PyData}, RpAll K G vs ds → RpAll K G' vs ds
  | _, _, .nil => .nil
  | _, _, .cons h r => .cons (Rp.sub s h) (RpAll.sub s r)
theorem RpKv.sub {K : PySem.W.Frag} {G G' : Hp} (s : Sub G G') : ∀ {vs : List (Key × V)} {ds : List (PyData × PyData)}, RpKv K G vs ds → RpKv K G' vs ds
  | _, _, .nil => .nil
  | _, _, .cons k h r => .cons (Rp.sub s k) (Rp.sub s h) (RpKv.sub s r)
end
theorem RpAll.length {K : PySem.W.Frag} {G : Hp} : ∀ {vs : List V} {ds : List PyData}, RpAll K G vs ds → vs.length = ds.length
  | _, _, .nil => rfl
  | _, _, .cons _ r => by rw [List.length_cons, List.length_cons, RpAll.length r]
theorem RpAll.get {K : PySem.W.Frag} {G : Hp} : ∀ {vs : List V} {ds : List PyData} {j : Nat} {v : V}, RpAll K G vs ds → vs[j]? = some v → ∃ d, ds[j]? = some d ∧ Rp K G v d
  | _, _, 0, _, .cons h _, e => ⟨_, rfl, by cases e; exact h⟩
  | _, _, j + 1, v, .cons _ r, e => RpAll.get (j := j) r e
theorem RpAll.at {K : PySem.W.Frag} {G : Hp} : ∀ {vs : List V} {ds : List PyData} {j : Nat} {d : PyData}, RpAll K G vs ds → ds[j]? = some d → ∃ v, vs[j]? = some v ∧ Rp K G v d
  | _, _, 0, _, .cons h _, e => ⟨_, rfl, by cases e; exact h⟩
  | _, _, j + 1, d, .cons _ r, e => RpAll.at (j := j) r e
theorem RpAll.append {K : PySem.W.Frag} {G : Hp} : ∀ {xs ys : List V} {ds es : List PyData}, RpAll K G xs ds → RpAll K G ys es → RpAll K G (xs ++ ys) (ds ++ es)
  | _, _, _, _, .nil, s => s
  | _, _, _, _, .cons r t, s => .cons r (RpAll.append t s)
theorem RpAll.snoc {K : PySem.W.Frag} {G : Hp} {xs : List V} {ds : List PyData} {v : V} {d : PyData} (r : RpAll K G xs ds) (h : Rp K G v d) : RpAll K G (xs ++ [v]) (ds ++ [d]) :=
  r.append (.cons h .nil)
theorem RpAll.set {K : PySem.W.Frag} {G : Hp} {v : V} {d : PyData} (h : Rp K G v d) : ∀ {xs : List V} {ds : List PyData} (j : Nat), RpAll K G xs ds → RpAll K G (xs.set j v) (ds.set j d)
  | _, _, _, .nil => .nil
  | _, _, 0, .cons _ t => .cons h t
  | _, _, j + 1, .cons q t => .cons q (RpAll.set h j t)
theorem Rp.tup_inv {K : PySem.W.Frag} {G : Hp} {v : V} {ds : List PyData} (h : Rp K G v (.tuple ds)) : ∃ a xs, v = .ref a ∧ SqT K G a xs ∧ xs.length ≤ sizeLine ∧ RpAll K G xs ds := by
  cases h with
  | tup h z r => exact ⟨_, _, rfl, h, z, r⟩
theorem Rp.lst_inv {K : PySem.W.Frag} {G : Hp} {v : V} {ds : List PyData} (h : Rp K G v (.list ds)) : ∃ a xs, v = .ref a ∧ SqL K G a xs ∧ xs.length ≤ sizeLine ∧ RpAll K G xs ds := by
  cases h with
  | lst h z r => exact ⟨_, _, rfl, h, z, r⟩
theorem Rp.dct_inv {K : PySem.W.Frag} {G : Hp} {v : V} {ds : List (PyData × PyData)} (h : Rp K G v (.dict ds)) : ∃ a kvs, v = .ref a ∧ Rd G a (.dK kvs) ∧ kvs.length ≤ sizeLine ∧ RpKv K G kvs ds := by
  cases h with
  | dct h z r => exact ⟨_, _, rfl, h, z, r⟩
theorem Rp.int_inv {K : PySem.W.Frag} {G : Hp} {v : V} {i : Int} (h : Rp K G v (.int i)) : v = .int i := by cases h; rfl
theorem Rp.str_inv {K : PySem.W.Frag} {G : Hp} {v : V} {x : Str} (h : Rp K G v (.str x)) : v = .str x ∧ x.length ≤ sizeLine := by
  cases h with
  | str _ z => exact ⟨rfl, z⟩
theorem Rp.bl_inv {K : PySem.W.Frag} {G : Hp} {v : V} {b : Bool} (h : Rp K G v (.bool b)) : v = .bl b := by cases h; rfl
theorem Rp.non_inv {K : PySem.W.Frag} {G : Hp} {v : V} (h : Rp K G v .none) : v = .non := by cases h; rfl

/-! the state -/
/-- the heap without the cells -/
def pur (H : Hp) (A : List Addr) : Hp := fun a => if a ∈ A then none else H a
/-- the cells that stand -/
def lv : List Addr → Store → List Addr
  | a :: l, some _ :: S => a :: lv l S
  | _ :: l, none :: S => lv l S
  | _, _ => []
/-- the program, the world, the written part -/
structure Ct where
  P : Program
  w : World
  K : PySem.W.Frag
  mg : Str → Option Value
/-- the abstract heap, the cells' places, the cells, and what is being made by comprehensions under way -/
structure MS where
  H : Hp
  L : List Addr
  S : Store
  X : List Addr
def MS.A (m : MS) : List Addr := lv m.L m.S ++ m.X
def MS.G (m : MS) : Hp := pur m.H m.A
/-- a set's members, told by its keys -/
def keyD : Key → PyData
  | .inl i => .int i
  | .inr x => .str x
def SetIs (C : Ct) (k : Bool) (a : Addr) (o : HO) (ds : List PyData) : Prop :=
  (k = true ∧ ∃ ns : List Int, ns.Nodup ∧ ds = ns.map PyData.int ∧ o = SetO C.w a (fun k => ns.any fun j => decide (k = j)) ns.length) ∨
  (k = false ∧ ∃ ks : List Key, ks.Nodup ∧ ds = ks.map keyD ∧ o = SetK C.P C.w a (fun k => ks.any fun j => decide (k = j)) ks.length)
/-- a cell at its address -/
def CellAt (C : Ct) (G H : Hp) (a : Addr) : Cell → Prop
  | .lst ds => ∃ xs, H a = some (.lst xs) ∧ xs.length ≤ sizeLine ∧ RpAll C.K G xs ds
  | .dct kvs => ∃ ks, H a = some (.dK ks) ∧ ks.length ≤ sizeLine ∧ RpKv C.K G ks kvs
  | .set k ds => ∃ o, H a = some o ∧ SetIs C k a o ds
structure SR (C : Ct) (m : MS) : Prop where
  len : m.L.length = m.S.length
  inj : m.A.Nodup
  cell : ∀ (i : Nat) c, m.S[i]? = some (some c) → ∃ a, m.L[i]? = some a ∧ CellAt C m.G m.H a c
  hid : ∀ a ∈ m.X, ∃ o, m.H a = some o
structure Grow (m m' : MS) : Prop where
  pre : m.L <+: m'.L
  sub : Sub m.G m'.G
  hX : m'.X = m.X
  hid : ∀ a ∈ m.X, m'.H a = m.H a
theorem Grow.refl {m : MS} : Grow m m := ⟨List.prefix_refl _, Sub.refl, rfl, fun _ _ => rfl⟩
theorem Grow.trans {m1 m2 m3 : MS} (a : Grow m1 m2) (b : Grow m2 m3) : Grow m1 m3 :=
  ⟨a.pre.trans b.pre, a.sub.trans b.sub, b.hX.trans a.hX, fun x h => (b.hid x (by rw [a.hX]; exact h)).trans (a.hid x h)⟩
def RV (C : Ct) (m : MS) (u : V) : Val → Prop
  | .dat d => Rp C.K m.G u d
  | .ref n => ∃ a, m.L[n]? = some a ∧ u = .ref a
  | .set k ds => ∃ a o, u = .ref a ∧ m.G a = some o ∧ NoLk o ∧ SetIs C k a o ds
theorem prefix_get {l l' : List Addr} (h : l <+: l') {n : Nat} {a : Addr} (e : l[n]? = some a) : l'[n]? = some a := by
  obtain ⟨t, rfl⟩ := h
  rw [List.getElem?_append_left (List.getElem?_eq_some_iff.mp e).1]
  exact e
theorem RV.grow {C : Ct} {m m' : MS} {u : V} {v : Val} (g : Grow m m') (h : RV C m u v) : RV C m' u v := by
  cases v with
  | dat d => exact Rp.sub g.sub h
  | ref n =>
    obtain ⟨a, e, q⟩ := h
    exact ⟨a, prefix_get g.pre e, q⟩
  | set _ _ =>
    obtain ⟨a, o, e, r, p, q⟩ := h
    exact ⟨a, o, e, g.sub.ex _ _ p r, p, q⟩
def RVs (C : Ct) (m : MS) : List V → List Val → Prop
  | [], [] => True
  | u :: us, v :: vs => RV C m u v ∧ RVs C m us vs
  | _, _ => False
theorem RVs.grow {C : Ct} {m m' : MS} (g : Grow m m') : ∀ {us : List V} {vs : List Val}, RVs C m us vs → RVs C m' us vs
  | [], [], _ => trivial
  | _ :: _, _ :: _, ⟨h, r⟩ => ⟨h.grow g, RVs.grow g r⟩
  | [], _ :: _, h => h
  | _ :: _, [], h => h
theorem RVs.length {C : Ct} {m : MS} : ∀ {us : List V} {vs : List Val}, RVs C m us vs → us.length = vs.length
  | [], [], _ => rfl
  | _ :: _, _ :: _, ⟨_, r⟩ => by rw [List.length_cons, List.length_cons, RVs.length r]
  | [], _ :: _, h => h.elim
  | _ :: _, [], h => h.elim
theorem RVs.dats {C : Ct} {m : MS} : ∀ {us : List V} {vs : List Val} {ds : List PyData}, RVs C m us vs → dats vs = some ds → RpAll C.K m.G us ds
  | [], [], ds, _, e => by cases e; exact .nil
  | u :: us, .dat d :: vs, ds, ⟨h, r⟩, e => by
    simp only [Ev.dats, Option.map_eq_some_iff] at e
    obtain ⟨es, e1, rfl⟩ := e
    exact .cons h (RVs.dats r e1)
  | _ :: _, .ref _ :: _, _, _, e => by cases e
  | _ :: _, .set _ _ :: _, _, _, e => by cases e
  | [], _ :: _, _, h, _ => h.elim
  | _ :: _, [], _, h, _ => h.elim
structure ER (C : Ct) (m : MS) (σ : LSt) (env : MEnv) : Prop where
  len : σ.length = env.length
  at_ : ∀ (i : Nat) v, env[i]? = some (some v) → ∃ u, σ[i]? = some (some u) ∧ RV C m u v
theorem ER.grow {C : Ct} {m m' : MS} {σ : LSt} {env : MEnv} (g : Grow m m') (h : ER C m σ env) : ER C m' σ env :=
  ⟨h.len, fun i v e => let ⟨u, e1, r⟩ := h.at_ i v e; ⟨u, e1, r.grow g⟩⟩
theorem ER.set {C : Ct} {m : MS} {σ : LSt} {env : MEnv} {u : V} {v : Val} (h : ER C m σ env) (r : RV C m u v) (i : Nat) : ER C m (σ.set i (some u)) (env.set i (some v)) := by
  refine ⟨by simp [h.len], fun j w e => ?_⟩
  by_cases q : i = j
  · subst q
    have hl : i < env.length := by
      have := (List.getElem?_eq_some_iff.mp e).1
      simpa using this
    rw [List.getElem?_set_self hl] at e
    cases e
    exact ⟨u, List.getElem?_set_self (by rw [h.len]; exact hl), r⟩
  · rw [List.getElem?_set_ne q] at e
    obtain ⟨u', e1, r'⟩ := h.at_ j w e
    exact ⟨u', by rw [List.getElem?_set_ne q]; exact e1, r'⟩

/-! cells that stand -/
theorem lv_mem {a : Addr} : ∀ {L : List Addr} {S : Store}, a ∈ lv L S → ∃ (i : Nat) (c : Cell), L[i]? = some a ∧ S[i]? = some (some c)
  | b :: l, some c :: S, h => by
    rcases List.mem_cons.mp h with rfl | h
    · exact ⟨0, c, rfl, rfl⟩
    · obtain ⟨i, c', e1, e2⟩ := lv_mem h
      exact ⟨i + 1, c', e1, e2⟩
  | b :: l, none :: S, h => by
    obtain ⟨i, c', e1, e2⟩ := lv_mem (L := l) (S := S) h
    exact ⟨i + 1, c', e1, e2⟩
  | [], _, h => by simp [lv] at h
  | _ :: _, [], h => by simp [lv] at h
theorem mem_lv {a : Addr} {c : Cell} : ∀ {L : List Addr} {S : Store} {i : Nat}, L[i]? = some a → S[i]? = some (some c) → a ∈ lv L S
  | b :: l, some c' :: S, 0, e1, e2 => by cases e1; exact List.mem_cons_self
  | b :: l, some c' :: S, i + 1, e1, e2 => List.mem_cons_of_mem _ (mem_lv (L := l) (S := S) (i := i) e1 e2)
  | b :: l, none :: S, 0, e1, e2 => by cases e2
  | b :: l, none :: S, i + 1, e1, e2 => mem_lv (L := l) (S := S) (i := i) e1 e2
  | [], _, _, e1, _ => by simp at e1
  | _ :: _, [], _, _, e2 => by simp at e2
theorem MS.mem_A {m : MS} {a : Addr} {c : Cell} {i : Nat} (h1 : m.L[i]? = some a) (h2 : m.S[i]? = some (some c)) : a ∈ m.A := List.mem_append_left _ (mem_lv h1 h2)
theorem SR.live {C : Ct} {m : MS} (h : SR C m) {a : Addr} (ha : a ∈ m.A) : ∃ o, m.H a = some o := by
  rcases List.mem_append.mp ha with ha | ha
  · obtain ⟨i, c, e1, e2⟩ := lv_mem ha
    obtain ⟨b, e3, q⟩ := h.cell i c e2
    rw [e1] at e3
    cases e3
    cases c with
    | lst ds => obtain ⟨xs, e, _⟩ := q; exact ⟨_, e⟩
    | dct kvs => obtain ⟨xs, e, _⟩ := q; exact ⟨_, e⟩
    | set _ ds => obtain ⟨o, e, _⟩ := q; exact ⟨_, e⟩
  · exact h.hid a ha
theorem pur_in {H : Hp} {A : List Addr} {a : Addr} (h : a ∈ A) : pur H A a = none := if_pos h
theorem pur_out {H : Hp} {A : List Addr} {a : Addr} (h : a ∉ A) : pur H A a = H a := if_neg h
theorem pur_le {H : Hp} {A : List Addr} : Same (pur H A) H := fun b u e => by
  unfold pur at e
  split at e
  · cases e
  · exact e
theorem MS.le (m : MS) : Sub m.G m.H := Sub.of pur_le
theorem CellAt.sub {C : Ct} {G G' H H' : Hp} {a : Addr} {c : Cell} (s : Sub G G') (e : ∀ o, H a = some o → H' a = some o) (h : CellAt C G H a c) : CellAt C G' H' a c := by
  cases c with
  | lst ds => obtain ⟨xs, e1, z, r⟩ := h; exact ⟨xs, e _ e1, z, r.sub s⟩
  | dct kvs => obtain ⟨xs, e1, z, r⟩ := h; exact ⟨xs, e _ e1, z, r.sub s⟩
  | set _ ds => obtain ⟨o, e1, r⟩ := h; exact ⟨o, e _ e1, r⟩
/-- the heap only grew -/
def MS.withH (m : MS) (H : Hp) : MS := ⟨H, m.L, m.S, m.X⟩
theorem pur_same {H H' : Hp} {A : List Addr} (h : Same H H') : Same (pur H A) (pur H' A) := fun b u e => by
  by_cases hb : b ∈ A
  · rw [pur_in hb] at e; cases e
  · rw [pur_out hb] at e ⊢
    exact h b u e
theorem SR.growH {C : Ct} {m : MS} {H' : Hp} (s : SR C m) (h : Same m.H H') : Grow m (m.withH H') :=
  ⟨List.prefix_refl _, Sub.of (pur_same h), rfl, fun a ha => let ⟨o, e⟩ := s.hid a ha; (h a o e).trans e.symm⟩
theorem SR.pure {C : Ct} {m : MS} {H' : Hp} (s : SR C m) (h : Same m.H H') : SR C (m.withH H') :=
  ⟨s.len, s.inj, fun i c e => let ⟨a, e1, q⟩ := s.cell i c e; ⟨a, e1, q.sub (s.growH h).sub fun o => h a o⟩, fun a ha => let ⟨o, e⟩ := s.hid a ha; ⟨o, h a o e⟩⟩
theorem same_new {H : Hp} {p : Addr} {o : HO} (n : H p = none) : Same H (upd H p o) := fun b u e => by
  rw [upd_ne (ne_of_none e n)]
  exact e
theorem SR.out {C : Ct} {m : MS} (s : SR C m) {p : Addr} (n : m.H p = none) : p ∉ m.A := fun h => by
  obtain ⟨o, e⟩ := s.live h
  rw [n] at e
  cases e
/-- a new object that is never changed -/
def MS.new (m : MS) (p : Addr) (o : HO) : MS := m.withH (upd m.H p o)
theorem SR.new {C : Ct} {m : MS} (s : SR C m) {p : Addr} {o : HO} (n : m.H p = none) : SR C (m.new p o) := s.pure (same_new n)
theorem SR.growN {C : Ct} {m : MS} (s : SR C m) {p : Addr} {o : HO} (n : m.H p = none) : Grow m (m.new p o) := s.growH (same_new n)
theorem SR.new_at {C : Ct} {m : MS} (s : SR C m) {p : Addr} {o : HO} (n : m.H p = none) : (m.new p o).G p = some o := by
  show pur (upd m.H p o) m.A p = some o
  rw [pur_out (s.out n), upd_same]
theorem SR.newT {C : Ct} {m : MS} (s : SR C m) {p : Addr} {xs : List V} {ds : List PyData} (n : m.H p = none) (z : xs.length ≤ sizeLine) (r : RpAll C.K m.G xs ds) :
    Rp C.K (m.new p (.tup xs)).G (.ref p) (.tuple ds) := .tup (.of (s.new_at n)) z (r.sub (s.growN n).sub)
theorem SR.newL {C : Ct} {m : MS} (s : SR C m) {p : Addr} {xs : List V} {ds : List PyData} (n : m.H p = none) (z : xs.length ≤ sizeLine) (r : RpAll C.K m.G xs ds) :
    Rp C.K (m.new p (.lst xs)).G (.ref p) (.list ds) := .lst (.of (s.new_at n)) z (r.sub (s.growN n).sub)
/-- a new cell -/
def MS.cell (m : MS) (p : Addr) (o : HO) (c : Cell) : MS := ⟨upd m.H p o, m.L ++ [p], m.S ++ [some c], m.X⟩
theorem lv_snoc {p : Addr} {c : Option Cell} : ∀ {L : List Addr} {S : Store}, L.length = S.length → lv (L ++ [p]) (S ++ [c]) = lv L S ++ (if c.isSome = true then [p] else [])
  | [], [], _ => by cases c <;> rfl
  | a :: l, some c' :: S, h => by
    show a :: lv (l ++ [p]) (S ++ [c]) = a :: lv l S ++ _
    rw [lv_snoc (Nat.succ.inj h)]
    rfl
  | a :: l, none :: S, h => by
    show lv (l ++ [p]) (S ++ [c]) = lv l S ++ _
    exact lv_snoc (Nat.succ.inj h)
  | [], _ :: _, h => by cases h
  | _ :: _, [], h => by cases h
theorem SR.cellA {C : Ct} {m : MS} (s : SR C m) {p : Addr} {o : HO} {c : Cell} : (m.cell p o c).A = lv m.L m.S ++ [p] ++ m.X := by
  show lv (m.L ++ [p]) (m.S ++ [some c]) ++ m.X = _
  rw [lv_snoc s.len]
  rfl
theorem SR.cellG {C : Ct} {m : MS} (s : SR C m) {p : Addr} {o : HO} {c : Cell} (n : m.H p = none) : (m.cell p o c).G = m.G := by
  funext b
  show pur (upd m.H p o) (m.cell p o c).A b = pur m.H m.A b
  rw [s.cellA]
  by_cases hb : b = p
  · subst hb
    rw [pur_in (by simp), pur_out (s.out n), n]
  · have hiff : b ∈ lv m.L m.S ++ [p] ++ m.X ↔ b ∈ m.A := by
      show _ ↔ b ∈ lv m.L m.S ++ m.X
      simp [hb]
    by_cases ha : b ∈ m.A
    · rw [pur_in (hiff.mpr ha), pur_in ha]
    · rw [pur_out fun z => ha (hiff.mp z), pur_out ha, upd_ne hb]
theorem SR.growC {C : Ct} {m : MS} (s : SR C m) {p : Addr} {o : HO} {c : Cell} (n : m.H p = none) : Grow m (m.cell p o c) :=
  ⟨⟨[p], rfl⟩, by rw [s.cellG n]; exact Sub.refl, rfl, fun a ha => by
    obtain ⟨o', e⟩ := s.hid a ha
    show upd m.H p o a = m.H a
    rw [upd_ne (ne_of_none e n)]⟩
theorem SR.newCell {C : Ct} {m : MS} (s : SR C m) {p : Addr} {o : HO} {c : Cell} (n : m.H p = none) (h : CellAt C m.G (upd m.H p o) p c) : SR C (m.cell p o c) := by
  refine ⟨by show (m.L ++ [p]).length = (m.S ++ [some c]).length; simp [s.len], ?_, fun i c' e => ?_, fun a ha => ?_⟩
  · rw [s.cellA]
    have h1 : (lv m.L m.S ++ m.X).Nodup := s.inj
    have h2 : p ∉ lv m.L m.S ++ m.X := s.out n
    rw [List.nodup_append] at h1 ⊢
    obtain ⟨a1, a2, a3⟩ := h1
    simp only [List.mem_append, not_or] at h2
    refine ⟨List.nodup_append.mpr ⟨a1, by simp, fun a ha b hb q => ?_⟩, a2, fun a ha b hb q => ?_⟩
    · have hb' : b = p := by simpa using hb
      rw [q, hb'] at ha
      exact h2.1 ha
    · rcases List.mem_append.mp ha with ha | ha
      · exact a3 a ha b hb q
      · have ha' : a = p := by simpa using ha
        rw [← q, ha'] at hb
        exact h2.2 hb
  · rw [s.cellG n]
    have e' : (m.S ++ [some c])[i]? = some (some c') := e
    by_cases hi : i < m.S.length
    · rw [List.getElem?_append_left hi] at e'
      obtain ⟨a, e1, q⟩ := s.cell i c' e'
      have hl : i < m.L.length := by rw [s.len]; exact hi
      refine ⟨a, by show (m.L ++ [p])[i]? = _; rw [List.getElem?_append_left hl]; exact e1, q.sub Sub.refl fun o' h' => ?_⟩
      show upd m.H p o a = some o'
      rw [upd_ne (ne_of_none h' n)]
      exact h'
    · have hlt := (List.getElem?_eq_some_iff.mp e').1
      have hi' : i = m.S.length := by simp at hlt; omega
      subst hi'
      rw [List.getElem?_append_right (Nat.le_refl _)] at e'
      simp at e'
      subst e'
      refine ⟨p, ?_, h⟩
      show (m.L ++ [p])[m.S.length]? = some p
      rw [← s.len, List.getElem?_append_right (Nat.le_refl _)]
      simp
  · obtain ⟨o', e⟩ := s.hid a ha
    exact ⟨o', by show upd m.H p o a = some o'; rw [upd_ne (ne_of_none e n)]; exact e⟩
/-- a cell is changed -/
def MS.put (m : MS) (n : Nat) (a : Addr) (o : HO) (c : Cell) : MS := ⟨upd m.H a o, m.L, m.S.set n (some c), m.X⟩
theorem lv_set {c : Cell} : ∀ {L : List Addr} {S : Store} {n : Nat} {c' : Cell}, S[n]? = some (some c') → lv L (S.set n (some c)) = lv L S
  | a :: l, some c0 :: S, 0, c', e => rfl
  | a :: l, some c0 :: S, n + 1, c', e => by
    show a :: lv l (S.set n (some c)) = a :: lv l S
    rw [lv_set (S := S) (n := n) e]
  | a :: l, none :: S, 0, c', e => by cases e
  | a :: l, none :: S, n + 1, c', e => lv_set (L := l) (S := S) (n := n) e
  | [], S, n, c', e => by
    cases h : S.set n (some c) <;> cases h' : S <;> rfl
  | _ :: _, [], _, _, e => by simp at e
theorem MS.putA {m : MS} {n : Nat} {a : Addr} {o : HO} {c c' : Cell} (e : m.S[n]? = some (some c')) : (m.put n a o c).A = m.A := by
  show lv m.L (m.S.set n (some c)) ++ m.X = _
  rw [lv_set e]
  rfl
theorem MS.putG {m : MS} {n : Nat} {a : Addr} {o : HO} {c c' : Cell} (e : m.S[n]? = some (some c')) (hl : m.L[n]? = some a) : (m.put n a o c).G = m.G := by
  funext b
  show pur (upd m.H a o) (m.put n a o c).A b = pur m.H m.A b
  rw [MS.putA e]
  by_cases hb : b ∈ m.A
  · rw [pur_in hb, pur_in hb]
  · rw [pur_out hb, pur_out hb, upd_ne]
    rintro rfl
    exact hb (MS.mem_A hl e)
theorem SR.hid_ne {C : Ct} {m : MS} (s : SR C m) {n : Nat} {a b : Addr} {c : Cell} (e : m.S[n]? = some (some c)) (hl : m.L[n]? = some a) (hb : b ∈ m.X) : b ≠ a := by
  rintro rfl
  exact (List.nodup_append.mp s.inj).2.2 b (mem_lv hl e) b hb rfl
theorem SR.growP {C : Ct} {m : MS} (s : SR C m) {n : Nat} {a : Addr} {o : HO} {c c' : Cell} (e : m.S[n]? = some (some c')) (hl : m.L[n]? = some a) : Grow m (m.put n a o c) :=
  ⟨List.prefix_refl _, by rw [MS.putG e hl]; exact Sub.refl, rfl, fun b hb => by
    show upd m.H a o b = m.H b
    rw [upd_ne (s.hid_ne e hl hb)]⟩
theorem lv_inj : ∀ {L : List Addr} {S : Store} {i j : Nat} {a : Addr} {c c' : Cell}, (lv L S).Nodup → L[i]? = some a → L[j]? = some a → S[i]? = some (some c) → S[j]? = some (some c') → i = j
  | [], _, _, _, _, _, _, _, e, _, _, _ => by simp at e
  | _ :: _, [], _, _, _, _, _, _, _, _, e, _ => by simp at e
  | b :: l, o :: S, 0, 0, _, _, _, _, _, _, _, _ => rfl
  | b :: l, o :: S, i + 1, j + 1, a, c, c', nd, e1, e2, e3, e4 => by
    have nd' : (lv l S).Nodup := by
      cases o with
      | none => exact nd
      | some x => exact (List.nodup_cons.mp nd).2
    rw [lv_inj (L := l) (S := S) (i := i) (j := j) nd' e1 e2 e3 e4]
  | b :: l, o :: S, 0, j + 1, a, c, c', nd, e1, e2, e3, e4 => by
    cases e1
    cases e3
    exact absurd (mem_lv (L := l) (S := S) (i := j) e2 e4) (List.nodup_cons.mp nd).1
  | b :: l, o :: S, i + 1, 0, a, c, c', nd, e1, e2, e3, e4 => by
    cases e2
    cases e4
    exact absurd (mem_lv (L := l) (S := S) (i := i) e1 e3) (List.nodup_cons.mp nd).1
theorem SR.put {C : Ct} {m : MS} (s : SR C m) {n : Nat} {a : Addr} {o : HO} {c c' : Cell} (e : m.S[n]? = some (some c')) (hl : m.L[n]? = some a) (h : CellAt C m.G (upd m.H a o) a c) : SR C (m.put n a o c) := by
  refine ⟨by show m.L.length = (m.S.set n (some c)).length; simp [s.len], by rw [MS.putA e]; exact s.inj, fun i c2 e2 => ?_, fun b hb => ?_⟩
  · rw [MS.putG e hl]
    have e2' : (m.S.set n (some c))[i]? = some (some c2) := e2
    by_cases hi : n = i
    · subst hi
      rw [List.getElem?_set_self (List.getElem?_eq_some_iff.mp e).1] at e2'
      cases e2'
      exact ⟨a, hl, h⟩
    · rw [List.getElem?_set_ne hi] at e2'
      obtain ⟨b, e1, q⟩ := s.cell i c2 e2'
      refine ⟨b, e1, q.sub Sub.refl fun o' h' => ?_⟩
      show upd m.H a o b = some o'
      rw [upd_ne]
      · exact h'
      · rintro rfl
        exact hi (lv_inj (List.nodup_append.mp s.inj).1 hl e1 e e2')
  · obtain ⟨o', e'⟩ := s.hid b hb
    exact ⟨o', by show upd m.H a o b = some o'; rw [upd_ne (s.hid_ne e hl hb)]; exact e'⟩
/-- some cells are forgotten -/
theorem SR.forget {C : Ct} {m m' : MS} (s : SR C m) (hH : m'.H = m.H) (len : m'.L.length = m'.S.length) (nd : m'.A.Nodup) (sub : ∀ a ∈ m'.A, a ∈ m.A) (hX : ∀ a ∈ m'.X, a ∈ m.X)
    (hc : ∀ (i : Nat) c, m'.S[i]? = some (some c) → m.S[i]? = some (some c) ∧ m'.L[i]? = m.L[i]?) : SR C m' ∧ Sub m.G m'.G := by
  have hs : Sub m.G m'.G := Sub.of fun b u e => by
    have e' : pur m.H m.A b = some u := e
    show pur m'.H m'.A b = some u
    by_cases hb : b ∈ m.A
    · rw [pur_in hb] at e'; cases e'
    · rw [pur_out hb] at e'
      rw [pur_out fun z => hb (sub b z), hH]
      exact e'
  refine ⟨⟨len, nd, fun i c e => ?_, fun a ha => by rw [hH]; exact s.hid a (hX a ha)⟩, hs⟩
  obtain ⟨e1, e2⟩ := hc i c e
  obtain ⟨a, e3, q⟩ := s.cell i c e1
  exact ⟨a, e2.trans e3, q.sub hs fun o h => by rw [hH]; exact h⟩
theorem lv_take {n : Nat} : ∀ {L : List Addr} {S : Store}, ∃ t, lv L S = lv (L.take n) (S.take n) ++ t := by
  induction n with
  | zero => exact fun {L S} => ⟨lv L S, by simp [lv]⟩
  | succ n ih =>
    intro L S
    match L, S with
    | [], _ => exact ⟨[], by simp [lv]⟩
    | _ :: _, [] => exact ⟨[], by simp [lv]⟩
    | a :: l, some c :: S =>
      obtain ⟨t, e⟩ := ih (L := l) (S := S)
      exact ⟨t, by show a :: lv l S = a :: lv (l.take n) (S.take n) ++ t; rw [e]; rfl⟩
    | a :: l, none :: S =>
      obtain ⟨t, e⟩ := ih (L := l) (S := S)
      exact ⟨t, e⟩
def MS.cut (m : MS) (n : Nat) : MS := ⟨m.H, m.L.take n, m.S.take n, m.X⟩
theorem SR.cut {C : Ct} {m : MS} (s : SR C m) (n : Nat) : SR C (m.cut n) ∧ Sub m.G (m.cut n).G := by
  obtain ⟨t, e⟩ := lv_take (n := n) (L := m.L) (S := m.S)
  have hA : m.A = lv (m.L.take n) (m.S.take n) ++ t ++ m.X := by
    show lv m.L m.S ++ m.X = _
    rw [e]
  have hB : (m.cut n).A = lv (m.L.take n) (m.S.take n) ++ m.X := rfl
  have key : ∀ (i : Nat) c, (m.cut n).S[i]? = some (some c) → m.S[i]? = some (some c) ∧ (m.cut n).L[i]? = m.L[i]? := fun i c h => by
    have h' : (m.S.take n)[i]? = some (some c) := h
    have hi : i < n := by
      have := (List.getElem?_eq_some_iff.mp h').1
      simp at this
      omega
    rw [List.getElem?_take_of_lt hi] at h'
    exact ⟨h', by show (m.L.take n)[i]? = _; rw [List.getElem?_take_of_lt hi]⟩
  refine s.forget rfl ?_ ?_ (fun a ha => ?_) (fun a ha => ha) key
  · show (m.L.take n).length = (m.S.take n).length
    simp [s.len]
  · have := s.inj
    rw [hA, List.nodup_append] at this
    obtain ⟨a1, a2, a3⟩ := this
    rw [hB]
    exact List.nodup_append.mpr ⟨(List.nodup_append.mp a1).1, a2, fun a ha b hb => a3 a (List.mem_append_left _ ha) b hb⟩
  · rw [hB] at ha
    rw [hA]
    rcases List.mem_append.mp ha with ha | ha
    · exact List.mem_append_left _ (List.mem_append_left _ ha)
    · exact List.mem_append_right _ ha
/-- behind a call: the callee's cells are forgotten -/
theorem SR.growCut {C : Ct} {m m' : MS} (s : SR C m) (s' : SR C m') (g : Grow m m') : Grow m (m'.cut m.S.length) := by
  refine ⟨?_, g.sub.trans (s'.cut _).2, g.hX, g.hid⟩
  obtain ⟨t, e⟩ := g.pre
  show m.L <+: m'.L.take m.S.length
  rw [← e, ← s.len, List.take_left']
  · exact List.prefix_refl _
  · rfl
theorem lv_none : ∀ {L : List Addr} {S : Store} {n : Nat}, (lv L (S.set n none)).Sublist (lv L S)
  | [], S, n => by
    cases h : S.set n none <;> cases h' : S <;> simp [lv]
  | _ :: _, [], _ => by simp [lv]
  | a :: l, some c :: S, 0 => List.sublist_cons_self _ _
  | a :: l, none :: S, 0 => List.Sublist.refl _
  | a :: l, some c :: S, n + 1 => (lv_none (n := n) (L := l) (S := S)).cons_cons a
  | a :: l, none :: S, n + 1 => lv_none (n := n) (L := l) (S := S)
def MS.frz (m : MS) (n : Nat) : MS := ⟨m.H, m.L, m.S.set n none, m.X⟩
theorem SR.frz {C : Ct} {m : MS} (s : SR C m) (n : Nat) : SR C (m.frz n) ∧ Grow m (m.frz n) := by
  have sl : (m.frz n).A.Sublist m.A := (lv_none (n := n)).append (List.Sublist.refl _)
  have key : ∀ (i : Nat) c, (m.frz n).S[i]? = some (some c) → m.S[i]? = some (some c) ∧ (m.frz n).L[i]? = m.L[i]? := fun i c h => by
    have h' : (m.S.set n none)[i]? = some (some c) := h
    by_cases hi : n = i
    · subst hi
      by_cases hl : n < m.S.length
      · rw [List.getElem?_set_self hl] at h'
        cases h'
      · have : m.S.length ≤ n := by omega
        rw [List.getElem?_eq_none (by simpa using this)] at h'
        cases h'
    · rw [List.getElem?_set_ne hi] at h'
      exact ⟨h', rfl⟩
  obtain ⟨h1, h2⟩ := s.forget (m' := m.frz n) rfl (by show m.L.length = (m.S.set n none).length; simp [s.len]) (sl.nodup s.inj) (fun a ha => sl.subset ha) (fun a ha => ha) key
  exact ⟨h1, ⟨List.prefix_refl _, h2, rfl, fun _ _ => rfl⟩⟩
/-- a cell that was frozen stands among what is never changed -/
theorem SR.frz_at {C : Ct} {m : MS} (s : SR C m) {n : Nat} {a : Addr} {c : Cell} (e : m.S[n]? = some (some c)) (hl : m.L[n]? = some a) : (m.frz n).G a = m.H a := by
  refine pur_out (fun h => ?_)
  have h' : a ∈ lv m.L (m.S.set n none) ++ m.X := h
  rcases List.mem_append.mp h' with h' | h'
  · obtain ⟨i, c', e1, e2⟩ := lv_mem h'
    by_cases hi : n = i
    · subst hi
      rw [List.getElem?_set_self (List.getElem?_eq_some_iff.mp e).1] at e2
      cases e2
    · rw [List.getElem?_set_ne hi] at e2
      exact hi (lv_inj (List.nodup_append.mp s.inj).1 hl e1 e e2)
  · exact s.hid_ne e hl h' rfl
end Ev

set_option Elab.async false
set_option linter.all false
set_option maxRecDepth 100000
set_option maxHeartbeats 4000000
/-! the judgements: an expression, a test, a statement of the text does what the mirror says -/
namespace Ev
open PySem PySem.Spec PyProof.Rows L2
abbrev XW := Exc → MEnv → LSt → MS → Prop
def WF : XW := fun _ _ _ _ => False
/-- what is asked of an outcome -/
def OutG {α β : Type} (C : Ct) (W : XW) (env : MEnv) (σ : LSt) (R : MS → β → α → Prop) (m : MS) (r : Res α) (Q : β → Hp → Prop) : Prop :=
  match r with
  | .ok a S => ∀ b m', m'.S = S → SR C m' → Grow m m' → R m' b a → Q b m'.H
  | .exc x S => ∀ m', m'.S = S → SR C m' → Grow m m' → W x env σ m'
  | .bad => False
section
variable {α β α' β' : Type} {C : Ct} {W : XW} {env : MEnv} {σ : LSt} {R : MS → β → α → Prop} {R' : MS → β' → α' → Prop} {m m1 : MS} {r : Res α} {Q : β → Hp → Prop} {Q' : β' → Hp → Prop}
theorem OutG.grow (o : OutG C W env σ R m r Q) (g : Grow m m1) : OutG C W env σ R m1 r Q := by
  cases r with
  | ok a S => exact fun b m' e s g' q => o b m' e s (g.trans g') q
  | exc x S => exact fun m' e s g' => o m' e s (g.trans g')
  | bad => exact o
theorem OutG.bind {g : α → Store → Res α'} (o : OutG C W env σ R' m (r.bind g) Q')
    (k : ∀ b m1 a, SR C m1 → Grow m m1 → R m1 b a → OutG C W env σ R' m1 (g a m1.S) Q' → Q b m1.H) : OutG C W env σ R m r Q := by
  cases r with
  | ok a S =>
    intro b m1 e s g1 q
    subst e
    exact k b m1 a s g1 q (OutG.grow o g1)
  | exc x S => exact o
  | bad => exact o
theorem OutG.opt {o : Option α'} {S : Store} {g : α' → Store → Res α} (h : OutG C W env σ R m ((ofOpt o S).bind g) Q) : ∃ a, o = some a ∧ OutG C W env σ R m (g a S) Q := by
  cases o with
  | none => exact h.elim
  | some a => exact ⟨a, rfl, h⟩
theorem OutG.opt' {o : Option α} {S : Store} (h : OutG C W env σ R m (ofOpt o S) Q) : ∃ a, o = some a ∧ OutG C W env σ R m (.ok a S) Q := by
  cases o with
  | none => exact h.elim
  | some a => exact ⟨a, rfl, h⟩
theorem OutG.here {a : α} {S : Store} (o : OutG C W env σ R m (.ok a S) Q) (e : m.S = S) (s : SR C m) {b : β} (q : R m b a) : Q b m.H := o b m e s Grow.refl q
end
abbrev Out (C : Ct) (W : XW) (env : MEnv) (σ : LSt) := OutG C W env σ (fun m u v => RV C m u v)
abbrev OutB (C : Ct) (W : XW) (env : MEnv) (σ : LSt) := OutG C W env σ (fun _ (k : Bool) (k' : Bool) => k = k')
abbrev OutL (C : Ct) (W : XW) (env : MEnv) (σ : LSt) := OutG C W env σ (fun m us vs => RVs C m us vs)
def tE (C : Ct) (W : XW) (f : Fe) : TE := fun σ H Q => ∃ m env, m.H = H ∧ SR C m ∧ ER C m σ env ∧ Out C W env σ m (f env m.S) Q
def tT (C : Ct) (W : XW) (f : Ft) : TT := fun σ H Q => ∃ m env, m.H = H ∧ SR C m ∧ ER C m σ env ∧ OutB C W env σ m (f env m.S) Q
def tA (C : Ct) (W : XW) (f : Fa) : TA := fun σ H Q => ∃ m env, m.H = H ∧ SR C m ∧ ER C m σ env ∧ OutL C W env σ m (f env m.S) Q
def OutS (C : Ct) (W : XW) (m : MS) (r : Flow) (D : Ends) : Prop :=
  match r with
  | .nx env S => ∀ σ m', m'.S = S → SR C m' → Grow m m' → ER C m' σ env → D.nx σ m'.H
  | .rt v S => ∀ u m', m'.S = S → SR C m' → Grow m m' → RV C m' u v → D.rt u m'.H
  | .bk env S => ∀ σ m', m'.S = S → SR C m' → Grow m m' → ER C m' σ env → D.bk σ m'.H
  | .ct env S => ∀ σ m', m'.S = S → SR C m' → Grow m m' → ER C m' σ env → D.ct σ m'.H
  | .exc x env S => ∀ σ m', m'.S = S → SR C m' → Grow m m' → ER C m' σ env → W x env σ m'
  | .bad => False
theorem OutS.grow {C : Ct} {W : XW} {m m1 : MS} {r : Flow} {D : Ends} (o : OutS C W m r D) (g : Grow m m1) : OutS C W m1 r D := by
  cases r with
  | nx env S => exact fun σ m' e s g' q => o σ m' e s (g.trans g') q
  | rt v S => exact fun u m' e s g' q => o u m' e s (g.trans g') q
  | bk env S => exact fun σ m' e s g' q => o σ m' e s (g.trans g') q
  | ct env S => exact fun σ m' e s g' q => o σ m' e s (g.trans g') q
  | exc x env S => exact fun σ m' e s g' q => o σ m' e s (g.trans g') q
  | bad => exact o
def tS (C : Ct) (W : XW) (f : Fs) : TS := fun D σ H => ∃ m env, m.H = H ∧ SR C m ∧ ER C m σ env ∧ OutS C W m (f env m.S) D
theorem OutS.thenE {C : Ct} {W : XW} {m : MS} {env : MEnv} {σ : LSt} {r : Res Val} {k : Val → Store → Flow} {D : Ends} {Q : VK} (er : ER C m σ env) (o : OutS C W m (andThen env r k) D)
    (h : ∀ u m1 v, SR C m1 → Grow m m1 → RV C m1 u v → OutS C W m1 (k v m1.S) D → Q u m1.H) : Out C W env σ m r Q := by
  cases r with
  | ok v S =>
    intro u m1 e s g q
    subst e
    exact h u m1 v s g q (OutS.grow o g)
  | exc x S => exact fun m' e s g => o σ m' e s g (er.grow g)
  | bad => exact o
theorem OutS.thenT {C : Ct} {W : XW} {m : MS} {env : MEnv} {σ : LSt} {r : Res Bool} {k : Bool → Store → Flow} {D : Ends} {Q : Bool → Hp → Prop} (er : ER C m σ env) (o : OutS C W m (andTest env r k) D)
    (h : ∀ b m1, SR C m1 → Grow m m1 → OutS C W m1 (k b m1.S) D → Q b m1.H) : OutB C W env σ m r Q := by
  cases r with
  | ok v S =>
    intro u m1 e s g q
    subst e
    subst q
    exact h u m1 s g (OutS.grow o g)
  | exc x S => exact fun m' e s g => o σ m' e s g (er.grow g)
  | bad => exact o
section
variable {X : Cx} {e : Expr} {st : Stmt} {sts : List Stmt}
theorem _root_.L2.PE.imp {t t' : TE} (h : PE X e t) (k : ∀ σ H Q, t' σ H Q → t σ H Q) : PE X e t' := ⟨fun pins s σ H Q I q => h.run pins s σ H Q I (k σ H Q q)⟩
theorem _root_.L2.PT.imp {t t' : TT} (h : PT X e t) (k : ∀ σ H Q, t' σ H Q → t σ H Q) : PT X e t' := ⟨fun pins s σ H Q I q => h.run pins s σ H Q I (k σ H Q q)⟩
theorem _root_.L2.PW.imp {t t' : TT} (h : PW X e t) (k : ∀ σ H Q, t' σ H Q → t σ H Q) : PW X e t' := ⟨fun w pins s σ H Q I q => h.run w pins s σ H Q I (k σ H Q q)⟩
theorem _root_.L2.PA.imp {es : List Expr} {t t' : TA} (h : PA X es t) (k : ∀ σ H Q, t' σ H Q → t σ H Q) : PA X es t' := ⟨fun pos pins s σ H Q I q => h.run pos pins s σ H Q I (k σ H Q q)⟩
theorem _root_.L2.PS.imp {t t' : TS} (h : PS X st t) (k : ∀ D σ H, t' D σ H → t D σ H) : PS X st t' := ⟨fun pins s σ H D I q => h.run pins s σ H D I (k D σ H q)⟩
theorem _root_.L2.PSs.imp {t t' : TS} (h : PSs X sts t) (k : ∀ D σ H, t' D σ H → t D σ H) : PSs X sts t' := ⟨fun pins s σ H D I q => h.run pins s σ H D I (k D σ H q)⟩
end
abbrev ctOf (X : Cx) : Ct := ⟨X.prog, X.w, X.K, X.mg⟩

/-! views -/
inductive Vw (K : PySem.W.Frag) (m : MS) : V → PyData → Prop
  | p {u : V} {d : PyData} (h : Rp K m.G u d) : Vw K m u d
  | l {a : Addr} {xs : List V} {ds : List PyData} (h : m.H a = some (.lst xs)) (z : xs.length ≤ sizeLine) (r : RpAll K m.G xs ds) : Vw K m (.ref a) (.list ds)
  | d {a : Addr} {ks : List (Key × V)} {kvs : List (PyData × PyData)} (h : m.H a = some (.dK ks)) (z : ks.length ≤ sizeLine) (r : RpKv K m.G ks kvs) : Vw K m (.ref a) (.dict kvs)
section
variable {K : PySem.W.Frag} {m : MS} {u : V} {d : PyData}
theorem Vw.full (h : Vw K m u d) : Rp K m.H u d := by
  cases h with
  | p h => exact h.sub m.le
  | l h z r => exact .lst (.of h) z (r.sub m.le)
  | d h z r => exact .dct (.of h) z (r.sub m.le)
theorem Vw.lst {ds : List PyData} (h : Vw K m u (.list ds)) : ∃ a xs, u = .ref a ∧ SqL K m.H a xs ∧ xs.length ≤ sizeLine ∧ RpAll K m.G xs ds := by
  cases h with
  | p h =>
    obtain ⟨a, xs, e, q, z, r⟩ := h.lst_inv
    exact ⟨a, xs, e, m.le.sqL q, z, r⟩
  | l h z r => exact ⟨_, _, rfl, .of h, z, r⟩
theorem Vw.tup {ds : List PyData} (h : Vw K m u (.tuple ds)) : ∃ a xs, u = .ref a ∧ SqT K m.H a xs ∧ xs.length ≤ sizeLine ∧ RpAll K m.G xs ds := by
  cases h with
  | p h =>
    obtain ⟨a, xs, e, q, z, r⟩ := h.tup_inv
    exact ⟨a, xs, e, m.le.sqT q, z, r⟩
theorem Vw.dct {ds : List (PyData × PyData)} (h : Vw K m u (.dict ds)) : ∃ a ks, u = .ref a ∧ Rd m.H a (.dK ks) ∧ ks.length ≤ sizeLine ∧ RpKv K m.G ks ds := by
  cases h with
  | p h =>
    obtain ⟨a, xs, e, q, z, r⟩ := h.dct_inv
    exact ⟨a, xs, e, m.le.rd _ _ trivial q, z, r⟩
  | d h z r => exact ⟨_, _, rfl, .of h, z, r⟩
theorem Vw.int {i : Int} (h : Vw K m u (.int i)) : u = .int i := by
  cases h with
  | p h => exact h.int_inv
theorem Vw.str {x : Str} (h : Vw K m u (.str x)) : u = .str x ∧ x.length ≤ sizeLine := by
  cases h with
  | p h => exact h.str_inv
theorem Vw.bl {b : Bool} (h : Vw K m u (.bool b)) : u = .bl b := by
  cases h with
  | p h => exact h.bl_inv
theorem Vw.non (h : Vw K m u .none) : u = .non := by
  cases h with
  | p h => exact h.non_inv
end
theorem SR.view {C : Ct} {m : MS} (s : SR C m) {u : V} {v : Val} {d : PyData} (r : RV C m u v) (e : view m.S v = some d) : Vw C.K m u d := by
  cases v with
  | dat d' => cases e; exact .p r
  | ref n =>
    obtain ⟨a, hl, rfl⟩ := r
    simp only [Ev.view] at e
    cases hS : m.S[n]? with
    | none => rw [hS] at e; cases e
    | some o =>
      cases o with
      | none => rw [hS] at e; cases e
      | some c =>
        rw [hS] at e
        obtain ⟨a', hl', q⟩ := s.cell n c hS
        rw [hl] at hl'
        cases hl'
        cases c with
        | lst ds =>
          cases e
          obtain ⟨xs, h, z, r⟩ := q
          exact .l h z r
        | dct kvs =>
          cases e
          obtain ⟨xs, h, z, r⟩ := q
          exact .d h z r
        | set _ ds => cases e
  | set _ ds => cases e

/-! operations on data: what is asked of a rule -/
/-- the answer's place: data that is new or stood there -/
def Ans (C : Ct) (m : MS) (r : PyData) (Q : VK) : Prop := ∀ u H', Same m.H H' → Rp C.K (pur H' m.A) u r → Q u H'
theorem Ans.now {C : Ct} {m : MS} {r : PyData} {Q : VK} (h : Ans C m r Q) {u : V} (q : Rp C.K m.G u r) : Q u m.H := h u m.H (fun _ _ e => e) q
def rD1 (C : Ct) (g : PyData → Option PyData) : V → Hp → VK → Prop := fun x H Q => ∃ m c r, m.H = H ∧ SR C m ∧ Vw C.K m x c ∧ g c = some r ∧ Ans C m r Q
def rD2 (C : Ct) (g : PyData → PyData → Option PyData) : R2 := fun x y H Q => ∃ m c d r, m.H = H ∧ SR C m ∧ Vw C.K m x c ∧ Vw C.K m y d ∧ g c d = some r ∧ Ans C m r Q
def rB2 (C : Ct) (g : PyData → PyData → Option Bool) : R2 := fun x y H Q => ∃ m c d r, m.H = H ∧ SR C m ∧ Vw C.K m x c ∧ Vw C.K m y d ∧ g c d = some r ∧ Q (.bl r) H
theorem out_ans {C : Ct} {W : XW} {env : MEnv} {σ : LSt} {m : MS} {r : PyData} {Q : VK} (s : SR C m) (o : Out C W env σ m (.ok (.dat r) m.S) Q) : Ans C m r Q := fun u H' sm q =>
  o u (m.withH H') rfl (s.pure sm) (s.growH sm) q
section
variable {X : Cx} {W : XW} {a b c : Expr} {fa fb fc : Fe} {pos : Pos} {f : Value → Value → Sem Value}
theorem read2 {g : PyData → PyData → Option PyData} {σ : LSt} {H : Hp} {Q : VK} (h : tE (ctOf X) W (e2 g fa fb) σ H Q) : tOp (rD2 (ctOf X) g) (tE (ctOf X) W fa) (tE (ctOf X) W fb) σ H Q := by
  obtain ⟨m, env, rfl, s, er, o⟩ := h
  refine ⟨m, env, rfl, s, er, o.bind fun x m1 v s1 g1 r1 o1 => ⟨m1, env, rfl, s1, er.grow g1, o1.bind fun y m2 w s2 g2 r2 o2 => ?_⟩⟩
  obtain ⟨d, e, o3⟩ := o2.opt
  obtain ⟨p, e1, e⟩ := Option.bind_eq_some_iff.mp e
  obtain ⟨q, e2, e⟩ := Option.bind_eq_some_iff.mp e
  exact ⟨m2, p, q, d, rfl, s2, s2.view (r1.grow g2) e1, s2.view r2 e2, e, out_ans s2 o3⟩
theorem x_op {op : Operator} {g : PyData → PyData → Option PyData} (ho : OpR X (binaryOp op) (rD2 (ctOf X) g)) (ha : PE X a (tE (ctOf X) W fa)) (hb : PE X b (tE (ctOf X) W fb)) :
    PE X (.BinOp a op b pos) (tE (ctOf X) W (e2 g fa fb)) := (pe_op ho ha hb).imp fun _ _ _ => read2
theorem x_cmp {op : CmpOp} {g : PyData → PyData → Option Bool} (ho : OpR X (compareOp op) (rB2 (ctOf X) g)) (ha : PE X a (tE (ctOf X) W fa)) (hb : PE X b (tE (ctOf X) W fb)) (hm : behindInMarks op b = false) :
    PE X (.Compare a [op] [b] pos) (tE (ctOf X) W (e2 (cmpD g) fa fb)) := by
  refine (pe_cmpR ho ha hb hm).imp fun σ H Q h => ?_
  obtain ⟨m, env, e, s, er, o⟩ := read2 h
  refine ⟨m, env, e, s, er, ?_⟩
  have go : ∀ x y H2, rD2 (ctOf X) (cmpD g) x y H2 Q → rB2 (ctOf X) g x y H2 Q := fun x y H2 ⟨m, c, d, r, e, s, v1, v2, eg, an⟩ => by
    obtain ⟨k, e1, rfl⟩ := Option.map_eq_some_iff.mp eg
    exact ⟨m, c, d, k, e, s, v1, v2, e1, by subst e; exact an.now (.bl k)⟩
  revert o
  cases fa env m.S with
  | ok v S =>
    intro o u m' e s g r
    obtain ⟨m2, env2, e2, s2, er2, o2⟩ := o u m' e s g r
    refine ⟨m2, env2, e2, s2, er2, ?_⟩
    revert o2
    cases fb env2 m2.S with
    | ok v S => exact fun o2 u m' e s g r => go _ _ _ (o2 u m' e s g r)
    | exc x S => exact fun o2 => o2
    | bad => exact fun o2 => o2
  | exc x S => exact fun o => o
  | bad => exact fun o => o
theorem x_cmpT {op : CmpOp} {g : PyData → PyData → Option Bool} (ho : OpR X (compareOp op) (rB2 (ctOf X) g)) (ha : PE X a (tE (ctOf X) W fa)) (hb : PE X b (tE (ctOf X) W fb)) (hm : behindInMarks op b = false) :
    PT X (.Compare a [op] [b] pos) (tT (ctOf X) W (t2 g fa fb)) := by
  refine (pt_cmpR ho ha hb hm).imp fun σ H Q h => ?_
  obtain ⟨m, env, rfl, s, er, o⟩ := h
  refine ⟨m, env, rfl, s, er, o.bind fun x m1 v s1 g1 r1 o1 => ⟨m1, env, rfl, s1, er.grow g1, o1.bind fun y m2 w s2 g2 r2 o2 => ?_⟩⟩
  obtain ⟨k, e, o3⟩ := o2.opt'
  obtain ⟨p, e1, e⟩ := Option.bind_eq_some_iff.mp e
  obtain ⟨q, e2, e⟩ := Option.bind_eq_some_iff.mp e
  exact ⟨m2, p, q, k, rfl, s2, s2.view (r1.grow g2) e1, s2.view r2 e2, e, k, rfl, o3.here rfl s2 rfl⟩
theorem x_chain {op op' : CmpOp} {g g' : PyData → PyData → Option Bool} (ho : OpR X (compareOp op) (rB2 (ctOf X) g)) (ho' : OpR X (compareOp op') (rB2 (ctOf X) g'))
    (ha : PE X a (tE (ctOf X) W fa)) (hb : PE X b (tE (ctOf X) W fb)) (hc : PE X c (tE (ctOf X) W fc)) (hm : lastMarks [op, op'] [b, c] = false := by with_unfolding_all rfl) :
    PE X (.Compare a [op, op'] [b, c] pos) (tE (ctOf X) W (eCh g g' fa fb fc)) := by
  refine (pe_chain ho ho' ha hb hc hm).imp fun σ H Q h => ?_
  obtain ⟨m, env, rfl, s, er, o⟩ := h
  refine ⟨m, env, rfl, s, er, o.bind fun x m1 v s1 g1 r1 o1 => ⟨m1, env, rfl, s1, er.grow g1, o1.bind fun y m2 w s2 g2 r2 o2 => ?_⟩⟩
  obtain ⟨k, e, o3⟩ := o2.opt
  obtain ⟨p, e1, e⟩ := Option.bind_eq_some_iff.mp e
  obtain ⟨q, e2, e⟩ := Option.bind_eq_some_iff.mp e
  refine ⟨m2, p, q, k, rfl, s2, s2.view (r1.grow g2) e1, s2.view r2 e2, e, k, rfl, ?_⟩
  cases k with
  | false => exact o3.here rfl s2 (.bl false)
  | true =>
    refine ⟨m2, env, rfl, s2, (er.grow g1).grow g2, OutG.bind o3 fun z m4 w' s4 g4 r4 o4 => ?_⟩
    obtain ⟨k', e', o5⟩ := o4.opt
    obtain ⟨p', e1', e'⟩ := Option.bind_eq_some_iff.mp e'
    obtain ⟨q', e2', e'⟩ := Option.bind_eq_some_iff.mp e'
    exact ⟨m4, p', q', k', rfl, s4, s4.view (r2.grow g4) e1', s4.view r4 e2', e', o5.here rfl s4 (.bl k')⟩
theorem x_chainT {op op' : CmpOp} {g g' : PyData → PyData → Option Bool} (ho : OpR X (compareOp op) (rB2 (ctOf X) g)) (ho' : OpR X (compareOp op') (rB2 (ctOf X) g'))
    (ha : PE X a (tE (ctOf X) W fa)) (hb : PE X b (tE (ctOf X) W fb)) (hc : PE X c (tE (ctOf X) W fc)) (hm : lastMarks [op, op'] [b, c] = false := by with_unfolding_all rfl) :
    PT X (.Compare a [op, op'] [b, c] pos) (tT (ctOf X) W (tCh g g' fa fb fc)) := by
  refine (pt_chain ho ho' ha hb hc hm).imp fun σ H Q h => ?_
  obtain ⟨m, env, rfl, s, er, o⟩ := h
  refine ⟨m, env, rfl, s, er, o.bind fun x m1 v s1 g1 r1 o1 => ⟨m1, env, rfl, s1, er.grow g1, o1.bind fun y m2 w s2 g2 r2 o2 => ?_⟩⟩
  obtain ⟨k, e, o3⟩ := o2.opt
  obtain ⟨p, e1, e⟩ := Option.bind_eq_some_iff.mp e
  obtain ⟨q, e2, e⟩ := Option.bind_eq_some_iff.mp e
  refine ⟨m2, p, q, k, rfl, s2, s2.view (r1.grow g2) e1, s2.view r2 e2, e, k, rfl, ?_⟩
  cases k with
  | false => exact ⟨false, rfl, OutG.here o3 rfl s2 rfl⟩
  | true =>
    refine ⟨m2, env, rfl, s2, (er.grow g1).grow g2, OutG.bind o3 fun z m4 w' s4 g4 r4 o4 => ?_⟩
    obtain ⟨k', e', o5⟩ := o4.opt'
    obtain ⟨p', e1', e'⟩ := Option.bind_eq_some_iff.mp e'
    obtain ⟨q', e2', e'⟩ := Option.bind_eq_some_iff.mp e'
    exact ⟨m4, p', q', k', rfl, s4, s4.view (r2.grow g4) e1', s4.view r4 e2', e', k', rfl, o5.here rfl s4 rfl⟩
theorem x_un {op : UnaryOp} {g : PyData → Option PyData} (ho : UnR X (unaryOp op) (rD1 (ctOf X) g)) (ha : PE X a (tE (ctOf X) W fa)) : PE X (.UnaryOp op a pos) (tE (ctOf X) W (e1 g fa)) := by
  refine (pe_un ho ha).imp fun σ H Q h => ?_
  obtain ⟨m, env, rfl, s, er, o⟩ := h
  refine ⟨m, env, rfl, s, er, o.bind fun x m1 v s1 g1 r1 o1 => ?_⟩
  obtain ⟨d, e, o3⟩ := o1.opt
  obtain ⟨p, e1, e⟩ := Option.bind_eq_some_iff.mp e
  exact ⟨m1, p, d, rfl, s1, s1.view r1 e1, e, out_ans s1 o3⟩

/-! names and constants -/
theorem x_var {i : Nat} {x : Str} (hN : X.N[i]? = some x := by rfl) (hv : Vis X.env.scope x := by first | exact Or.inl rfl | exact Or.inr (Or.inl rfl) | exact Or.inr (Or.inr rfl))
    (hd : (x == ("__debug__" : Str)) = false := by decide) (hcd : (x == ("__classdict__" : Str)) = false := by decide) : PE X (.Name x pos) (tE (ctOf X) W (eV i)) := by
  refine (pe_var hN hv hd hcd).imp fun σ H Q h => ?_
  obtain ⟨m, env, rfl, s, er, o⟩ := h
  simp only [eV] at o
  cases h : env[i]? with
  | none => rw [h] at o; exact o.elim
  | some w =>
    cases w with
    | none => rw [h] at o; exact o.elim
    | some v =>
      rw [h] at o
      obtain ⟨u, e, r⟩ := er.at_ i v h
      exact ⟨u, e, OutG.here o rfl s r⟩
theorem x_c {v : V} {d : PyData} (h : PE X a (tC v)) (r : ∀ G, Rp X.K G v d) : PE X a (tE (ctOf X) W (eD d)) := by
  refine h.imp fun σ H Q h => ?_
  obtain ⟨m, env, rfl, s, er, o⟩ := h
  exact OutG.here o rfl s (r _)
theorem x_int {i : Int} {j} : PE X (.Constant (.int i) j pos) (tE (ctOf X) W (eD (.int i))) := x_c pe_int fun _ => .int i
theorem x_bl {k : Bool} {j} : PE X (.Constant (.bool k) j pos) (tE (ctOf X) W (eD (.bool k))) := x_c pe_bl fun _ => .bl k
theorem x_non {j} : PE X (.Constant .none j pos) (tE (ctOf X) W (eD .none)) := x_c pe_non fun _ => .non
theorem x_str {x : Str} {j} (z : x.length ≤ sizeLine := by decide +kernel) : PE X (.Constant (.str x) j pos) (tE (ctOf X) W (eD (.str x))) := x_c pe_str fun _ => .str x z
/-! and, or, not, if -/
variable {rest : List Expr}
theorem x_one {op} (h : PE X a (tE (ctOf X) W fa)) : PE X (.BoolOp op [a] pos) (tE (ctOf X) W fa) := pe_one h
theorem x_and (ha : PE X a (tE (ctOf X) W fa)) (hb : PE X (.BoolOp .And (b :: rest) pos) (tE (ctOf X) W fb)) : PE X (.BoolOp .And (a :: b :: rest) pos) (tE (ctOf X) W (eAnd fa fb)) := by
  refine (pe_and ha hb).imp fun σ H Q h => ?_
  obtain ⟨m, env, rfl, s, er, o⟩ := h
  refine ⟨m, env, rfl, s, er, o.bind fun x m1 v s1 g1 r1 o1 => ?_⟩
  cases v with
  | dat d =>
    cases d with
    | bool k =>
      cases (Rp.bl_inv r1)
      refine ⟨k, rfl, ?_⟩
      cases k with
      | true => exact ⟨m1, env, rfl, s1, er.grow g1, o1⟩
      | false => exact OutG.here o1 rfl s1 (.bl false)
    | _ => exact o1.elim
  | _ => exact o1.elim
theorem x_or (ha : PE X a (tE (ctOf X) W fa)) (hb : PE X (.BoolOp .Or (b :: rest) pos) (tE (ctOf X) W fb)) : PE X (.BoolOp .Or (a :: b :: rest) pos) (tE (ctOf X) W (eOr fa fb)) := by
  refine (pe_or ha hb).imp fun σ H Q h => ?_
  obtain ⟨m, env, rfl, s, er, o⟩ := h
  refine ⟨m, env, rfl, s, er, o.bind fun x m1 v s1 g1 r1 o1 => ?_⟩
  cases v with
  | dat d =>
    cases d with
    | bool k =>
      cases (Rp.bl_inv r1)
      refine ⟨k, rfl, ?_⟩
      cases k with
      | true => exact OutG.here o1 rfl s1 (.bl true)
      | false => exact ⟨m1, env, rfl, s1, er.grow g1, o1⟩
    | _ => exact o1.elim
  | _ => exact o1.elim
theorem x_not (ha : PE X a (tE (ctOf X) W fa)) : PE X (.UnaryOp .Not a pos) (tE (ctOf X) W (eNot fa)) := by
  refine (pe_not ha).imp fun σ H Q h => ?_
  obtain ⟨m, env, rfl, s, er, o⟩ := h
  refine ⟨m, env, rfl, s, er, o.bind fun x m1 v s1 g1 r1 o1 => ?_⟩
  cases v with
  | dat d =>
    cases d with
    | bool k =>
      cases (Rp.bl_inv r1)
      exact ⟨k, rfl, OutG.here o1 rfl s1 (.bl (!k))⟩
    | _ => exact o1.elim
  | _ => exact o1.elim
variable {ft fu : Ft}
theorem t_val (h : PE X a (tE (ctOf X) W fa)) (he : ∀ whole, isTrue a X.env whole = (do let v ← whole; standAt a.pos; holding [v] (truthy v)) := by intro _; rfl) : PT X a (tT (ctOf X) W (Ev.tB fa)) := by
  refine (pt_val h he).imp fun σ H Q h => ?_
  obtain ⟨m, env, rfl, s, er, o⟩ := h
  refine ⟨m, env, rfl, s, er, o.bind fun x m1 v s1 g1 r1 o1 => ?_⟩
  cases v with
  | dat d =>
    cases d with
    | bool k =>
      cases (Rp.bl_inv r1)
      exact ⟨k, rfl, OutG.here o1 rfl s1 rfl⟩
    | _ => exact o1.elim
  | _ => exact o1.elim
theorem tAnd_read {ta tb : TT} {σ : LSt} {H : Hp} {Q : Bool → Hp → Prop} (h : tT (ctOf X) W (Ev.tAnd ft fu) σ H Q) : L2.tAnd (tT (ctOf X) W ft) (tT (ctOf X) W fu) σ H Q := by
  obtain ⟨m, env, rfl, s, er, o⟩ := h
  refine ⟨m, env, rfl, s, er, o.bind fun x m1 v s1 g1 r1 o1 => ?_⟩
  subst r1
  cases x with
  | true => exact ⟨m1, env, rfl, s1, er.grow g1, o1⟩
  | false => exact OutG.here o1 rfl s1 rfl
theorem tOr_read {σ : LSt} {H : Hp} {Q : Bool → Hp → Prop} (h : tT (ctOf X) W (Ev.tOr ft fu) σ H Q) : L2.tOr (tT (ctOf X) W ft) (tT (ctOf X) W fu) σ H Q := by
  obtain ⟨m, env, rfl, s, er, o⟩ := h
  refine ⟨m, env, rfl, s, er, o.bind fun x m1 v s1 g1 r1 o1 => ?_⟩
  subst r1
  cases x with
  | true => exact OutG.here o1 rfl s1 rfl
  | false => exact ⟨m1, env, rfl, s1, er.grow g1, o1⟩
theorem w_and1 (ha : PT X a (tT (ctOf X) W ft)) : PW X (.BoolOp .And [a] pos) (tT (ctOf X) W ft) := pw_and1 ha
theorem w_or1 (ha : PT X a (tT (ctOf X) W ft)) : PW X (.BoolOp .Or [a] pos) (tT (ctOf X) W ft) := pw_or1 ha
theorem w_and (ha : PT X a (tT (ctOf X) W ft)) (hb : PW X (.BoolOp .And (b :: rest) pos) (tT (ctOf X) W fu)) : PW X (.BoolOp .And (a :: b :: rest) pos) (tT (ctOf X) W (Ev.tAnd ft fu)) :=
  (pw_and ha hb).imp fun _ _ _ h => tAnd_read (ta := tT (ctOf X) W ft) (tb := tT (ctOf X) W ft) h
theorem w_or (ha : PT X a (tT (ctOf X) W ft)) (hb : PW X (.BoolOp .Or (b :: rest) pos) (tT (ctOf X) W fu)) : PW X (.BoolOp .Or (a :: b :: rest) pos) (tT (ctOf X) W (Ev.tOr ft fu)) :=
  (pw_or ha hb).imp fun _ _ _ => tOr_read
theorem t_not (ha : PT X a (tT (ctOf X) W ft)) : PT X (.UnaryOp .Not a pos) (tT (ctOf X) W (Ev.tNot ft)) := by
  refine (pt_not ha).imp fun σ H Q h => ?_
  obtain ⟨m, env, rfl, s, er, o⟩ := h
  refine ⟨m, env, rfl, s, er, o.bind fun x m1 v s1 g1 r1 o1 => ?_⟩
  subst r1
  exact OutG.here o1 rfl s1 rfl
theorem x_if (hc : PT X c (tT (ctOf X) W ft)) (ha : PE X a (tE (ctOf X) W fa)) (hb : PE X b (tE (ctOf X) W fb)) : PE X (.IfExp c a b pos) (tE (ctOf X) W (eIf ft fa fb)) := by
  refine (pe_ifExp hc ha hb).imp fun σ H Q h => ?_
  obtain ⟨m, env, rfl, s, er, o⟩ := h
  refine ⟨m, env, rfl, s, er, o.bind fun x m1 v s1 g1 r1 o1 => ?_⟩
  subst r1
  cases x with
  | true => exact ⟨m1, env, rfl, s1, er.grow g1, o1⟩
  | false => exact ⟨m1, env, rfl, s1, er.grow g1, o1⟩
/-- any value as a test -/
theorem t_tru (ha : PE X a (tE (ctOf X) W fa)) (he : ∀ whole, isTrue a X.env whole = (do let v ← whole; standAt a.pos; holding [v] (truthy v)) := by intro _; rfl) : PT X a (tT (ctOf X) W (tTru fa)) := by
  have hd : TruR X (fun x H Q => ∃ m c k, m.H = H ∧ SR (ctOf X) m ∧ Vw X.K m x c ∧ truth c = some k ∧ Q k H) := by
    intro pins s σ H x v Q I rx h
    obtain ⟨m, c, k, rfl, sr, vw, e, q⟩ := h
    refine tru_ok pins s σ m.H x v Q I rx ⟨k, ?_, q⟩
    cases c with
    | none => cases vw.non; cases e; rfl
    | bool b => cases vw.bl; cases e; rfl
    | int i => cases vw.int; cases e; rfl
    | str y =>
      obtain ⟨rfl, z⟩ := vw.str
      cases e
      refine ⟨z, ?_⟩
      cases hn : y.length with
      | zero => rfl
      | succ n => simp; omega
    | list ds =>
      obtain ⟨a, xs, rfl, sq, z, r⟩ := vw.lst
      cases e
      refine .inl ⟨xs, sq, ?_⟩
      cases r <;> rfl
    | tuple ds =>
      obtain ⟨a, xs, rfl, sq, z, r⟩ := vw.tup
      cases e
      refine .inr (.inl ⟨xs, sq, ?_⟩)
      cases r <;> rfl
    | dict ds => cases e
  refine ⟨fun pins s σ H Q I h => ?_⟩
  obtain ⟨m, env, rfl, sr, er, o⟩ := h
  refine isTrue_plain (thn (ha.run pins s σ m.H (fun x H1 => ∃ m1 c k, m1.H = H1 ∧ SR (ctOf X) m1 ∧ Vw X.K m1 x c ∧ truth c = some k ∧ Q k H1) I ⟨m, env, rfl, sr, er, o.bind fun x m1 v s1 g1 r1 o1 => ?_⟩) fun v s1 ⟨x, H1, I1, r1, q1⟩ => hd pins s1 σ H1 x v Q I1 r1 q1) (he _)
  obtain ⟨k, e, o2⟩ := o1.opt'
  obtain ⟨c, e1, e2⟩ := Option.bind_eq_some_iff.mp e
  exact ⟨m1, c, k, rfl, s1, s1.view r1 e1, e2, o2.here rfl s1 rfl⟩
/-! arguments, displays -/
variable {es : List Expr} {fs : Fa}
theorem a_nil : PA X [] (tA (ctOf X) W aN) := pa_nil.imp fun σ H Q h => by
  obtain ⟨m, env, rfl, s, er, o⟩ := h
  exact OutG.here o rfl s trivial
theorem a_cons (ha : PE X a (tE (ctOf X) W fa)) (hr : PA X es (tA (ctOf X) W fs)) (hs : starEach (a :: es) X.env = (false, eval a X.env) :: starEach es X.env := by rfl) : PA X (a :: es) (tA (ctOf X) W (aC fa fs)) := by
  refine (pa_cons ha hr hs).imp fun σ H Q h => ?_
  obtain ⟨m, env, rfl, s, er, o⟩ := h
  refine ⟨m, env, rfl, s, er, o.bind fun x m1 v s1 g1 r1 o1 => ⟨m1, env, rfl, s1, er.grow g1, o1.bind fun y m2 w s2 g2 r2 o2 => ?_⟩⟩
  exact OutG.here o2 rfl s2 ⟨r1.grow g2, r2⟩
theorem line_eq : sizeLine = lineN := sizeLine_eq
theorem x_tup {k} (h : PA X es (tA (ctOf X) W fs)) : PE X (.Tuple es k pos) (tE (ctOf X) W (eTup fs)) := by
  refine (pe_tup h).imp fun σ H Q h => ?_
  obtain ⟨m, env, rfl, s, er, o⟩ := h
  refine ⟨m, env, rfl, s, er, o.bind fun x m1 v s1 g1 r1 o1 => ?_⟩
  obtain ⟨ds, e, o2⟩ := o1.opt
  have r := RVs.dats r1 e
  by_cases z : ds.length ≤ lineN
  · rw [if_pos z] at o2
    have z' : x.length ≤ sizeLine := by rw [r.length, line_eq]; exact z
    exact ⟨z', fun p np => o2 (.ref p) (m1.new p (.tup x)) rfl (s1.new np) (s1.growN np) (s1.newT np z' r)⟩
  · rw [if_neg z] at o2
    exact o2.elim
theorem x_lst (h : PA X es (tA (ctOf X) W fs)) : PE X (.List es pos) (tE (ctOf X) W (eLst fs)) := by
  refine (pe_lst h).imp fun σ H Q h => ?_
  obtain ⟨m, env, rfl, s, er, o⟩ := h
  refine ⟨m, env, rfl, s, er, o.bind fun x m1 v s1 g1 r1 o1 => ?_⟩
  obtain ⟨ds, e, o2⟩ := o1.opt
  have r := RVs.dats r1 e
  by_cases z : ds.length ≤ lineN
  · rw [if_pos z] at o2
    have z' : x.length ≤ sizeLine := by rw [r.length, line_eq]; exact z
    exact ⟨z', fun p np => o2 (.ref p) (m1.new p (.lst x)) rfl (s1.new np) (s1.growN np) (s1.newL np z' r)⟩
  · rw [if_neg z] at o2
    exact o2.elim
theorem x_lstC (h : PA X es (tA (ctOf X) W fs)) : PE X (.List es pos) (tE (ctOf X) W (eLstC fs)) := by
  refine (pe_lst h).imp fun σ H Q h => ?_
  obtain ⟨m, env, rfl, s, er, o⟩ := h
  refine ⟨m, env, rfl, s, er, o.bind fun x m1 v s1 g1 r1 o1 => ?_⟩
  obtain ⟨ds, e, o2⟩ := o1.opt
  have r := RVs.dats r1 e
  by_cases z : ds.length ≤ lineN
  · rw [if_pos z] at o2
    have z' : x.length ≤ sizeLine := by rw [r.length, line_eq]; exact z
    refine ⟨z', fun p np => o2 (.ref p) (m1.cell p (.lst x) (.lst ds)) rfl (s1.newCell np ⟨x, upd_same, z', r⟩) (s1.growC np) ⟨p, ?_, rfl⟩⟩
    show (m1.L ++ [p])[m1.S.length]? = some p
    rw [← s1.len, List.getElem?_append_right (Nat.le_refl _)]
    simp
  · rw [if_neg z] at o2
    exact o2.elim
/-- the last use of a cell -/
theorem x_frz (h : PE X a (tE (ctOf X) W fa)) : PE X a (tE (ctOf X) W (eFrz fa)) := by
  refine h.imp fun σ H Q h => ?_
  obtain ⟨m, env, rfl, s, er, o⟩ := h
  refine ⟨m, env, rfl, s, er, o.bind fun u m1 v s1 g1 r1 o1 => ?_⟩
  cases v with
  | dat d => exact OutG.here o1 rfl s1 r1
  | set _ d => exact OutG.here o1 rfl s1 r1
  | ref n =>
    obtain ⟨a, hl, rfl⟩ := r1
    simp only [freeze] at o1
    cases hS : m1.S[n]? with
    | none => rw [hS] at o1; exact o1.elim
    | some q =>
      cases q with
      | none => rw [hS] at o1; exact o1.elim
      | some c =>
        rw [hS] at o1
        obtain ⟨s2, g2⟩ := s1.frz n
        have hG := s1.frz_at hS hl
        obtain ⟨a', hl', q⟩ := s1.cell n c hS
        rw [hl] at hl'
        cases hl'
        cases c with
        | lst ds =>
          obtain ⟨xs, h, z, r⟩ := q
          exact o1 (.ref a) (m1.frz n) rfl s2 g2 (.lst (.of (hG.trans h)) z (r.sub g2.sub))
        | dct kvs =>
          obtain ⟨xs, h, z, r⟩ := q
          exact o1 (.ref a) (m1.frz n) rfl s2 g2 (.dct (.of (hG.trans h)) z (r.sub g2.sub))
        | set _ ds =>
          obtain ⟨ob, h, r⟩ := q
          refine o1 (.ref a) (m1.frz n) rfl s2 g2 ⟨a, ob, rfl, hG.trans h, ?_, r⟩
          rcases r with ⟨_, _, _, _, rfl⟩ | ⟨_, _, _, _, rfl⟩ <;> trivial
end
end Ev

set_option Elab.async false
set_option linter.all false
set_option maxRecDepth 100000
set_option maxHeartbeats 4000000
/-! statements, loops, defs and their calls -/
namespace Ev
open PySem PySem.Spec PyProof.Rows L2
/-! errors -/
/-- the class and the own dict of an error that is x -/
def ExcIs (C : Ct) (m : MS) (cls : Value) (d : Option Addr) (x : Exc) : Prop :=
  C.mg x.cls = some cls ∧ match x.pay with
    | none => d = none
    | some (f, p) => ∃ a v, d = some a ∧ m.G a = some (.xd [(f, v)]) ∧ Rp C.K m.G v p
def wOf (C : Ct) (W0 : WX) : XW := fun x _ σ m => ∀ cls d, ExcIs C m cls d x → W0 cls d σ m.H
abbrev W0F : WX := fun _ _ _ _ => False
structure Cxt (X : Cx) (W0 : WX) (k : Nat) : Prop where
  calm : X.calm = true
  gd : X.A.guards = some []
  room : Room k X.A
  nd : X.N.Nodup
  tk : Takes X W0
  po : PassesOwn (model X.prog X.w) X.A X.env X.xe

/-! targets -/
def tG (C : Ct) (g : Fg) (vs : List Nat) : TG := fun u σ H Q => ∃ m v env, m.H = H ∧ SR C m ∧ ER C m σ env ∧ RV C m u v ∧
  match g v env with
  | none => False
  | some env' => ∀ σ', ER C m σ' env' → σ'.length = σ.length → (∀ i, i ∉ vs → σ'[i]? = σ[i]?) → Q σ' H
def tGs (C : Ct) (gs : List Fg) (vs : List Nat) : TGs := fun us σ H Q => ∃ m ds env, m.H = H ∧ SR C m ∧ ER C m σ env ∧ RpAll C.K m.G us ds ∧
  match putAll gs ds env with
  | none => False
  | some env' => ∀ σ', ER C m σ' env' → σ'.length = σ.length → (∀ i, i ∉ vs → σ'[i]? = σ[i]?) → Q σ' H
section
variable {X : Cx} {W0 : WX} {k : Nat} {pos : Pos}
theorem _root_.L2.PG.imp {e : Expr} {t t' : TG} (h : PG X e t) (q : ∀ v σ H Q, t' v σ H Q → t v σ H Q) : PG X e t' := ⟨fun pins s σ H v u Q I r w => h.run pins s σ H v u Q I r (q v σ H Q w)⟩
theorem _root_.L2.PGs.imp {es : List Expr} {t t' : TGs} (h : PGs X es t) (q : ∀ v σ H Q, t' v σ H Q → t v σ H Q) : PGs X es t' := ⟨fun pins s σ H v u Q I r w => h.run pins s σ H v u Q I r (q v σ H Q w)⟩
theorem g_name (i : Nat) {x : Str} (nd : X.N.Nodup) (hi : X.N[i]? = some x := by rfl) (hx : Loc X.env.scope x := by first | exact Or.inl rfl | exact Or.inr rfl)
    (hf : X.fn x = true ∨ X.env.scope.names.lookup x = some .local := by first | exact .inl rfl | exact .inr rfl | assumption) : PG X (.Name x pos) (tG (ctOf X) (gN i) [i]) := by
  refine (pg_name nd hi hx hf).imp fun u σ H Q h => ?_
  obtain ⟨m, v, env, rfl, s, er, rv, o⟩ := h
  refine o _ (er.set rv i) (by simp) fun j hj => ?_
  rw [List.getElem?_set_ne fun z => hj (by simp [z])]
theorem gs_nil : PGs X [] (tGs (ctOf X) [] []) := by
  refine pgs_nil.imp fun us σ H Q h => ?_
  obtain ⟨m, ds, env, rfl, s, er, r, o⟩ := h
  cases r with
  | nil => exact ⟨rfl, o σ er rfl fun _ _ => rfl⟩
  | cons _ _ => exact o.elim
theorem gs_cons {e : Expr} {es : List Expr} {g : Fg} {gs : List Fg} {v1 v2 : List Nat} (h1 : PG X e (tG (ctOf X) g v1)) (h2 : PGs X es (tGs (ctOf X) gs v2))
    (hs : (assignEach (e :: es) X.env).map (·.2) = assign e X.env :: (assignEach es X.env).map (·.2) := by rfl) : PGs X (e :: es) (tGs (ctOf X) (g :: gs) (v1 ++ v2)) := by
  refine (pgs_cons h1 h2 hs).imp fun us σ H Q h => ?_
  obtain ⟨m, ds, env, rfl, s, er, r, o⟩ := h
  cases r with
  | nil => exact o.elim
  | @cons u us d ds h r =>
    refine ⟨u, us, rfl, m, .dat d, env, rfl, s, er, h, ?_⟩
    simp only [putAll] at o
    cases e1 : g (.dat d) env with
    | none => rw [e1] at o; exact o.elim
    | some env1 =>
      rw [e1] at o
      intro σ1 er1 l1 k1
      refine ⟨m, ds, env1, rfl, s, er1, r, ?_⟩
      simp only [Option.bind_some] at o
      cases e2 : putAll gs ds env1 with
      | none => rw [e2] at o; exact o.elim
      | some env2 =>
        rw [e2] at o
        intro σ2 er2 l2 k2
        refine o σ2 er2 (l2.trans l1) fun i hi => ?_
        rw [k2 i fun z => hi (List.mem_append_right _ z), k1 i fun z => hi (List.mem_append_left _ z)]
theorem g_tup {es : List Expr} {j : Nat} {gs : List Fg} {vs : List Nat} (hc : X.calm = true) (h : PGs X es (tGs (ctOf X) gs vs))
    (hn : (assignEach es X.env).length = gs.length := by rfl) (hst : (assignEach es X.env).findIdx? (·.1) = none := by rfl) : PG X (.Tuple es j pos) (tG (ctOf X) (gT gs) vs) := by
  refine (pg_tup hc h hn hst).imp fun u σ H Q h => ?_
  obtain ⟨m, v, env, rfl, s, er, rv, o⟩ := h
  cases v with
  | dat d =>
    cases d with
    | tuple ds =>
      obtain ⟨a, xs, rfl, q, z, r⟩ := Rp.tup_inv rv
      refine ⟨a, xs, rfl, m.le.sqT q, ?_, m, ds, env, rfl, s, er, r, o⟩
      have hl : ∀ (gs : List Fg) (ds : List PyData) (env : MEnv), (match putAll gs ds env with | none => False | some _ => True) → ds.length = gs.length := by
        intro gs
        induction gs with
        | nil =>
          intro ds env h
          cases ds with
          | nil => rfl
          | cons _ _ => exact h.elim
        | cons g gs ih =>
          intro ds env h
          cases ds with
          | nil => exact h.elim
          | cons d ds =>
            simp only [putAll] at h
            cases e : g (.dat d) env with
            | none => rw [e] at h; exact h.elim
            | some env1 =>
              rw [e] at h
              rw [List.length_cons, List.length_cons, ih ds env1 h]
      rw [r.length]
      refine hl gs ds env ?_
      have o' := o
      simp only [gT] at o'
      cases e : putAll gs ds env with
      | none => rw [e] at o'; exact o'.elim
      | some _ => trivial
    | _ => exact o.elim
  | _ => exact o.elim

/-! statements -/
variable {W : XW} {st : Stmt} {rest : List Stmt} {f g : Fs} {e : Expr} {fe : Fe}
theorem s_nil : PSs X [] (tS (ctOf X) W sN) := pss_nil.imp fun D σ H h => by
  obtain ⟨m, env, rfl, s, er, o⟩ := h
  exact o σ m rfl s Grow.refl er
theorem s_cons (h1 : PS X st (tS (ctOf X) W f)) (h2 : PSs X rest (tS (ctOf X) W g)) : PSs X (st :: rest) (tS (ctOf X) W (sQ f g)) := by
  refine (pss_cons h1 h2).imp fun D σ H h => ?_
  obtain ⟨m, env, rfl, s, er, o⟩ := h
  refine ⟨m, env, rfl, s, er, ?_⟩
  simp only [sQ] at o
  cases hf : f env m.S with
  | nx env1 S1 =>
    rw [hf] at o
    intro σ' m' e s' g' er'
    subst e
    exact ⟨m', env1, rfl, s', er', OutS.grow o g'⟩
  | rt v S => rw [hf] at o; exact o
  | bk env S => rw [hf] at o; exact o
  | ct env S => rw [hf] at o; exact o
  | exc x env S => rw [hf] at o; exact o
  | bad => rw [hf] at o; exact o
theorem s_one (h1 : PS X st (tS (ctOf X) W f)) : PSs X [st] (tS (ctOf X) W f) := pss_one h1
theorem s_pass : PS X (.Pass pos) (tS (ctOf X) W sN) := ps_pass.imp fun D σ H h => by
  obtain ⟨m, env, rfl, s, er, o⟩ := h
  exact o σ m rfl s Grow.refl er
theorem s_break : PS X (.Break pos) (tS (ctOf X) W sBk) := ps_break.imp fun D σ H h => by
  obtain ⟨m, env, rfl, s, er, o⟩ := h
  exact o σ m rfl s Grow.refl er
theorem s_continue : PS X (.Continue pos) (tS (ctOf X) W sCt) := ps_continue.imp fun D σ H h => by
  obtain ⟨m, env, rfl, s, er, o⟩ := h
  exact o σ m rfl s Grow.refl er
theorem s_expr (he : PE X e (tE (ctOf X) W fe)) (hs : swapsWith e none pos.line X.env = pure false := by rfl) : PS X (.Expr e pos) (tS (ctOf X) W (sE fe)) := by
  refine (ps_expr he hs).imp fun D σ H h => ?_
  obtain ⟨m, env, rfl, s, er, o⟩ := h
  exact ⟨m, env, rfl, s, er, OutS.thenE er o fun u m1 v s1 g1 r1 o1 => o1 σ m1 rfl s1 Grow.refl (er.grow g1)⟩
theorem s_ret (he : PE X e (tE (ctOf X) W fe)) : PS X (.Return (some e) pos) (tS (ctOf X) W (sR fe)) := by
  refine (ps_ret he).imp fun D σ H h => ?_
  obtain ⟨m, env, rfl, s, er, o⟩ := h
  exact ⟨m, env, rfl, s, er, OutS.thenE er o fun u m1 v s1 g1 r1 o1 => o1 u m1 rfl s1 Grow.refl r1⟩
theorem s_ret0 : PS X (.Return none pos) (tS (ctOf X) W sR0) := ps_retN.imp fun D σ H h => by
  obtain ⟨m, env, rfl, s, er, o⟩ := h
  exact o .non m rfl s Grow.refl .non
theorem s_if {c : Expr} {a b : List Stmt} {ft : Ft} (hc : PT X c (tT (ctOf X) W ft)) (ha : PSs X a (tS (ctOf X) W f)) (hb : PSs X b (tS (ctOf X) W g)) : PS X (.If c a b pos) (tS (ctOf X) W (sI ft f g)) := by
  refine (ps_if hc ha hb).imp fun D σ H h => ?_
  obtain ⟨m, env, rfl, s, er, o⟩ := h
  refine ⟨m, env, rfl, s, er, OutS.thenT er o fun b m1 s1 g1 o1 => ?_⟩
  cases b with
  | true => exact ⟨m1, env, rfl, s1, er.grow g1, o1⟩
  | false => exact ⟨m1, env, rfl, s1, er.grow g1, o1⟩
theorem read_asg {gf : Fg} {vs : List Nat} {D : Ends} {σ : LSt} {H : Hp} (h : tS (ctOf X) W (sG fe gf) D σ H) : tAsg (tE (ctOf X) W fe) (tG (ctOf X) gf vs) D σ H := by
  obtain ⟨m, env, rfl, s, er, o⟩ := h
  refine ⟨m, env, rfl, s, er, OutS.thenE er o fun u m1 v s1 g1 r1 o1 => ⟨m1, v, env, rfl, s1, er.grow g1, r1, ?_⟩⟩
  cases h : gf v env with
  | none => rw [h] at o1; exact o1
  | some env1 => rw [h] at o1; exact fun σ' er' _ _ => o1 σ' m1 rfl s1 Grow.refl er'
theorem s_asg {tg : Expr} {gf : Fg} {vs : List Nat} (he : PE X e (tE (ctOf X) W fe)) (hg : PG X tg (tG (ctOf X) gf vs)) (hs : swapsWithSole [tg] e pos.line X.env = pure false := by rfl)
    (hw : swappedStores [tg] e X.env = pure none := by rfl) (h1 : (assignEach [tg] X.env).map (·.2) = [assign tg X.env] := by rfl) : PS X (.Assign [tg] e pos) (tS (ctOf X) W (sG fe gf)) :=
  (ps_asg he hg hs hw h1).imp fun _ _ _ => read_asg
theorem s_set (i : Nat) {x : Str} {pos' : Pos} (nd : X.N.Nodup) (he : PE X e (tE (ctOf X) W fe)) (hi : X.N[i]? = some x := by rfl) (hx : Loc X.env.scope x := by first | exact Or.inl rfl | exact Or.inr rfl)
    (hs : swapsWith e (some (.Name x pos')) pos.line X.env = pure false := by rfl) (hf : X.fn x = true ∨ X.env.scope.names.lookup x = some .local := by first | exact .inl rfl | exact .inr rfl | assumption) :
    PS X (.Assign [.Name x pos'] e pos) (tS (ctOf X) W (sG fe (gN i))) := by
  refine (ps_set nd hi hx he hs hf).imp fun D σ H h => ?_
  obtain ⟨m, env, rfl, s, er, o⟩ := h
  exact ⟨m, env, rfl, s, er, OutS.thenE er o fun u m1 v s1 g1 r1 o1 => o1 _ m1 rfl s1 Grow.refl ((er.grow g1).set r1 i)⟩

/-! loops -/
structure GrowW (m m' : MS) : Prop where
  pre : m.L <+: m'.L
  sub : Sub m.G m'.G
theorem Grow.w {m m' : MS} (g : Grow m m') : GrowW m m' := ⟨g.pre, g.sub⟩
theorem GrowW.trans {m1 m2 m3 : MS} (a : GrowW m1 m2) (b : GrowW m2 m3) : GrowW m1 m3 := ⟨a.pre.trans b.pre, a.sub.trans b.sub⟩
theorem RV.growW {C : Ct} {m m' : MS} {u : V} {v : Val} (g : GrowW m m') (h : RV C m u v) : RV C m' u v := by
  cases v with
  | dat d => exact Rp.sub g.sub h
  | ref n =>
    obtain ⟨a, e, q⟩ := h
    exact ⟨a, prefix_get g.pre e, q⟩
  | set _ _ =>
    obtain ⟨a, o, e, r, p, q⟩ := h
    exact ⟨a, o, e, g.sub.ex _ _ p r, p, q⟩
theorem ER.growW {C : Ct} {m m' : MS} {σ : LSt} {env : MEnv} (g : GrowW m m') (h : ER C m σ env) : ER C m' σ env :=
  ⟨h.len, fun i v e => let ⟨u, e1, r⟩ := h.at_ i v e; ⟨u, e1, r.growW g⟩⟩
/-- the iterator yields these items, as long as their list stays -/
def Steps (C : Ct) (m0 : MS) (J : It) (w : Walks) : Prop := ∀ m, SR C m → GrowW m0 m → keeps w.2 m.S →
  J.stop w.1.length m.H ∧ ∀ (i : Nat) v, w.1[i]? = some v → J.go i m.H ∧ ∀ x H', J.yld i m.H x H' → ∃ m', m'.H = H' ∧ m'.S = m.S ∧ SR C m' ∧ Grow m m' ∧ RV C m' x v
def tI (C : Ct) (W : XW) (fi : Fi) : TI := fun σ H R => ∃ m env, m.H = H ∧ SR C m ∧ ER C m σ env ∧ OutG C W env σ (fun m J w => keeps w.2 m.S ∧ Steps C m J w) m (fi env m.S) R
theorem s_for {tg iter : Expr} {body : List Stmt} {fi : Fi} {gf : Fg} {vs : List Nat} (hp : PassesOwn (model X.prog X.w) X.A X.env X.xe) (hc : X.calm = true) (hi : PI X tg iter (tI (ctOf X) W fi)) (hg : PG X tg (tG (ctOf X) gf vs))
    (hb : PSs X body (tS (ctOf X) W f)) (hs : ∀ x, foldedSetIterable iter X.env x = pure x := by intro _; rfl) : PS X (.For tg iter body [] pos) (tS (ctOf X) W (sF fi gf f)) := by
  refine (ps_for hp hc hi hg hb hs).imp fun D σ H h => ?_
  obtain ⟨m, env, rfl, s, er, o⟩ := h
  refine ⟨m, env, rfl, s, er, ?_⟩
  simp only [sF] at o
  cases hfi : fi env m.S with
  | bad => rw [hfi] at o; exact o
  | exc x S => rw [hfi] at o; exact fun m' e s' g' => o σ m' e s' g' (er.grow g')
  | ok w S =>
    rw [hfi] at o
    obtain ⟨items, kp⟩ := w
    intro J m1 e s1 g1 ⟨k1, st⟩
    subst e
    refine ⟨fun i n σ H => n = items.length - i ∧ i ≤ items.length ∧ ∃ m2 env2, m2.H = H ∧ SR (ctOf X) m2 ∧ Grow m1 m2 ∧ keeps kp m2.S ∧ ER (ctOf X) m2 σ env2 ∧ OutS (ctOf X) W m2 (loop gf f kp (items.drop i) env2 m2.S) D,
      ⟨items.length, rfl, Nat.zero_le _, m1, env, rfl, s1, Grow.refl, k1, er.grow g1, OutS.grow o g1⟩, ?_⟩
    rintro i n σ2 H2 ⟨rfl, hi, m2, env2, rfl, s2, g2, k2, er2, o2⟩
    obtain ⟨stp, nxt⟩ := st m2 s2 g2.w k2
    by_cases hlt : i < items.length
    · obtain ⟨go, yl⟩ := nxt i items[i] (by simp [hlt])
      rw [List.drop_eq_getElem_cons hlt] at o2
      simp only [loop] at o2
      refine .inr ⟨go, fun σ' H' => ∃ m3 env3, m3.H = H' ∧ SR (ctOf X) m3 ∧ Grow m1 m3 ∧ keeps kp m3.S ∧ ER (ctOf X) m3 σ' env3 ∧ OutS (ctOf X) W m3 (loop gf f kp (items.drop (i + 1)) env3 m3.S) D,
        fun σ' H' ⟨m3, env3, e3, s3, g3, k3, er3, o3⟩ => ⟨items.length - (i + 1), by omega, rfl, hlt, m3, env3, e3, s3, g3, k3, er3, o3⟩, fun x H' y => ?_⟩
      obtain ⟨m3, rfl, eS, s3, g3, r3⟩ := yl x H' y
      refine ⟨m3, items[i], env2, rfl, s3, er2.grow g3, r3, ?_⟩
      cases hg1 : gf items[i] env2 with
      | none => rw [hg1] at o2; exact o2
      | some env1 =>
        rw [hg1] at o2
        intro σ' er' _ _
        refine ⟨m3, env1, rfl, s3, er', ?_⟩
        rw [eS]
        dsimp only at o2
        cases hfb : f env1 m2.S with
        | nx env4 S4 =>
          rw [hfb] at o2
          dsimp only at o2
          intro σ4 m4 e4 s4 g4 er4
          subst e4
          by_cases hk : keeps kp m4.S
          · rw [if_pos hk] at o2
            exact ⟨m4, env4, rfl, s4, (g2.trans g3).trans g4, hk, er4, OutS.grow o2 (g3.trans g4)⟩
          · rw [if_neg hk] at o2
            exact o2.elim
        | ct env4 S4 =>
          rw [hfb] at o2
          dsimp only at o2
          intro σ4 m4 e4 s4 g4 er4
          subst e4
          by_cases hk : keeps kp m4.S
          · rw [if_pos hk] at o2
            exact ⟨m4, env4, rfl, s4, (g2.trans g3).trans g4, hk, er4, OutS.grow o2 (g3.trans g4)⟩
          · rw [if_neg hk] at o2
            exact o2.elim
        | bk env4 S4 => rw [hfb] at o2; exact fun σ4 m4 e4 s4 g4 er4 => o2 σ4 m4 e4 s4 (g3.trans g4) er4
        | rt v S4 => rw [hfb] at o2; exact fun σ4 m4 e4 s4 g4 er4 => o2 σ4 m4 e4 s4 (g3.trans g4) er4
        | exc x env4 S4 => rw [hfb] at o2; exact fun σ4 m4 e4 s4 g4 er4 => o2 σ4 m4 e4 s4 (g3.trans g4) er4
        | bad => rw [hfb] at o2; exact o2
    · have e : i = items.length := by omega
      subst e
      rw [List.drop_length] at o2
      exact .inl ⟨stp, o2 σ2 m2 rfl s2 Grow.refl er2⟩
end

/-! defs -/
/-- what a def promises: as the mirror says -/
def spE (C : Ct) (n : Nat) (f : Fn) : Sp := fun vs H Q E => vs.length = n ∧ ∃ m ds, m.H = H ∧ SR C m ∧ RVs C m vs ds ∧ Out C (wOf C fun cls d _ H => E cls d H) [] [] m (f ds m.S) Q
section
variable {P : Program} {w : World} {K : PySem.W.Frag} {mg : Str → Option Value} {base : Heap}
abbrev ctK (P : Program) (w : World) (K : PySem.W.Frag) (mg : Str → Option Value) : Ct := ⟨P, w, K, mg⟩
theorem ER.start {C : Ct} {m : MS} {N : List Str} {us : List V} {vs : List Val} (h : RVs C m us vs) : ER C m (start N us) (startEnv N.length vs) := by
  have hl := h.length
  refine ⟨by simp [L2.start, startEnv, hl], fun i v e => ?_⟩
  have key : ∀ {us : List V} {vs : List Val} {i : Nat} {v : Val}, RVs C m us vs → (vs.map some)[i]? = some (some v) → ∃ u, (us.map some)[i]? = some (some u) ∧ RV C m u v := by
    intro us
    induction us with
    | nil =>
      intro vs i v h e
      cases vs with
      | nil => simp at e
      | cons _ _ => exact h.elim
    | cons u us ih =>
      intro vs i v h e
      cases vs with
      | nil => exact h.elim
      | cons v' vs =>
        cases i with
        | zero =>
          simp at e
          subst e
          exact ⟨u, by simp, h.1⟩
        | succ i =>
          have e' : (vs.map some)[i]? = some (some v) := by simpa using e
          obtain ⟨u', q, r⟩ := ih h.2 e'
          exact ⟨u', by simpa using q, r⟩
  simp only [startEnv] at e
  by_cases hi : i < vs.length
  · rw [List.getElem?_append_left (by simpa using hi)] at e
    obtain ⟨u, q, r⟩ := key h e
    exact ⟨u, by simp only [L2.start]; rw [List.getElem?_append_left (by simp; omega)]; exact q, r⟩
  · rw [List.getElem?_append_right (by simpa using hi), List.getElem?_replicate] at e
    split at e <;> cases e
theorem ExcIs.cut {C : Ct} {m : MS} (s : SR C m) {cls : Value} {d : Option Addr} {x : Exc} {n : Nat} (h : ExcIs C (m.cut n) cls d x) (hm : ∀ a v, d = some a → (m.cut n).G a = some v → m.G a = some v) : True := trivial
/-- the body's outcome as the def's -/
theorem body_out {C : Ct} {m : MS} {n : Nat} {b : Fs} {ds : List Val} {Q : VK} {E : XK} (s : SR C m) (o : Out C (wOf C fun cls d _ H => E cls d H) [] [] m (mkFn n b ds m.S) Q) :
    OutS C (wOf C fun cls d _ H => E cls d H) m (b (startEnv n ds) m.S) { nx := fun _ H' => Q .non H', rt := Q } := by
  simp only [mkFn] at o
  cases h : b (startEnv n ds) m.S with
  | nx env S1 =>
    rw [h] at o
    intro σ m' e s' g er
    subst e
    exact o .non (m'.cut m.S.length) rfl (s'.cut _).1 (s.growCut s' g) .non
  | rt v S1 =>
    rw [h] at o
    intro u m' e s' g r
    subst e
    cases v with
    | dat d => exact o u (m'.cut m.S.length) rfl (s'.cut _).1 (s.growCut s' g) (Rp.sub (s'.cut _).2 r)
    | ref j => exact o u m' rfl s' g r
    | set _ d =>
      obtain ⟨a, ob, e, rd, pl, q⟩ := r
      exact o u (m'.cut m.S.length) rfl (s'.cut _).1 (s.growCut s' g) ⟨a, ob, e, (s'.cut _).2.ex _ _ pl rd, pl, q⟩
  | bk env S1 => rw [h] at o; exact o.elim
  | ct env S1 => rw [h] at o; exact o.elim
  | bad => rw [h] at o; exact o.elim
  | exc x env S1 =>
    rw [h] at o
    intro σ m' e s' g er cls d hx
    subst e
    refine o (m'.cut m.S.length) rfl (s'.cut _).1 (s.growCut s' g) cls d ⟨hx.1, ?_⟩
    have h2 := hx.2
    cases hp : x.pay with
    | none => rw [hp] at h2; exact h2
    | some fp =>
      obtain ⟨f, p⟩ := fp
      rw [hp] at h2
      obtain ⟨a, v, e1, e2, r⟩ := h2
      refine ⟨a, v, e1, ?_, r.sub (s'.cut _).2⟩
      have e3 : pur m'.H m'.A a = some (.xd [(f, v)]) := e2
      show pur m'.H (m'.cut m.S.length).A a = _
      have hA : a ∉ m'.A := fun z => by rw [pur_in z] at e3; cases e3
      rw [pur_out hA] at e3
      rw [pur_out, e3]
      intro z
      refine hA ?_
      obtain ⟨t, et⟩ := lv_take (n := m.S.length) (L := m'.L) (S := m'.S)
      show a ∈ lv m'.L m'.S ++ m'.X
      rw [et]
      have z' : a ∈ lv (m'.L.take m.S.length) (m'.S.take m.S.length) ++ m'.X := z
      rcases List.mem_append.mp z' with z' | z'
      · exact List.mem_append_left _ (List.mem_append_left _ z')
      · exact List.mem_append_right _ z'
abbrev bodyCx (P : Program) (w : World) (K : PySem.W.Frag) (mg : Str → Option Value) (base : Heap) (N : List Str) (qual : Str) (st : Stmt) (f : Addr) (cdv : Value) (A : Around) (outer : List Env) (s : Shared) (H : Hp) (E : XK) : Cx :=
  cxOf (L2.CX P w) P w K mg base N qual (defScope st) f cdv A outer s H E
/-- a def by its body -/
theorem fn_ev {x qual : Str} {st : Stmt} {f : Addr} {fd : FuncData} {N ps : List Str} {k np n : Nat} {b : Fs} {m : Fn} (F : Fun K x qual st f fd) (S : FnScope N ps (defScope st)) (hN : N.length = n) (hp : ps.length = np) (hm : m = mkFn n b)
    (hb : ∀ (cdv : Value) (A : Around) (outer : List Env) (s : Shared) (H : Hp) (E : XK), Cxt (bodyCx P w K mg base N qual st f cdv A outer s H E) (fun cls d _ H => E cls d H) k →
      PSs (bodyCx P w K mg base N qual st f cdv A outer s H E) (defBody st) (tS (ctK P w K mg) (wOf (ctK P w K mg) fun cls d _ H => E cls d H) b)) :
    Gx.FnG P w K mg base (L2.CX P w) (k + 1) f fd ps (spE (ctK P w K mg) np m) := by
  subst hN hp hm
  obtain ⟨oc, od, kV, doc, pm, an, cdv, ct, osl, rfl, lk, hcd⟩ := F.ex
  refine Gx.fnG_of lk hcd S (fun vs H Q E h => h.1) fun A outer s H vs Q E hg hr hsp => ?_
  obtain ⟨hl, m, ds, rfl, sr, rv, o⟩ := hsp
  refine ⟨_, hb cdv A outer s m.H E ⟨rfl, hg, hr, S.nd, takes_of rfl rfl rfl rfl, passes_of rfl⟩, ?_⟩
  exact ⟨m, startEnv N.length ds, rfl, sr, ER.start rv, body_out sr o⟩
end
section
variable {X : Cx} {W0 : WX} {k j : Nat} {f : Addr} {fd : FuncData} {ps : List Str} {fn : Fn} {x : Str} {p pos : Pos} {e : Expr} {es : List Expr} {fa : Fa}
/-- the call's wish about errors -/
theorem call_read {fn : Fn} {σ : LSt} {H : Hp} {Q : VK} {n : Nat} (h : tE (ctOf X) (wOf (ctOf X) W0) (eCall fn fa) σ H Q) (hl : ∀ env S S' vs, fa env S = .ok vs S' → vs.length = n) :
    tCall (spE (ctOf X) n fn) [] (fun cls d H => W0 cls d σ H) (tA (ctOf X) (wOf (ctOf X) W0) fa) σ H Q := by
  obtain ⟨m, env, rfl, s, er, o⟩ := h
  refine ⟨m, env, rfl, s, er, ?_⟩
  have o' := o
  simp only [eCall] at o'
  cases hfa : fa env m.S with
  | bad => rw [hfa] at o'; exact o'
  | exc y S => rw [hfa] at o'; exact o'
  | ok vs S =>
    rw [hfa] at o'
    intro us m1 e1 s1 g1 r1
    subst e1
    have hn : us.length = n := by rw [r1.length]; exact hl _ _ _ _ hfa
    rw [List.append_nil]
    refine ⟨hn, m1, vs, rfl, s1, r1, ?_⟩
    have o2 : Out (ctOf X) (wOf (ctOf X) W0) env σ m1 (fn vs m1.S) Q := OutG.grow o' g1
    revert o2
    cases fn vs m1.S with
    | ok v S => exact fun o2 => o2
    | exc y S => exact fun o2 => o2
    | bad => exact fun o2 => o2
end
/-- the number of arguments is written -/
theorem aN_len {env : MEnv} {S S' : Store} {vs : List Val} (h : aN env S = .ok vs S') : vs.length = 0 := by cases h; rfl
theorem aC_len {a : Fe} {r : Fa} {n : Nat} (hr : ∀ env S S' vs, r env S = .ok vs S' → vs.length = n) {env : MEnv} {S S' : Store} {vs : List Val} (h : aC a r env S = .ok vs S') : vs.length = n + 1 := by
  simp only [aC] at h
  cases ha : a env S with
  | bad => rw [ha] at h; cases h
  | exc x S => rw [ha] at h; cases h
  | ok v S1 =>
    rw [ha] at h
    simp only [bind_ok] at h
    cases hr' : r env S1 with
    | bad => rw [hr'] at h; cases h
    | exc x S => rw [hr'] at h; cases h
    | ok us S2 =>
      rw [hr'] at h
      cases h
      rw [List.length_cons, hr _ _ _ _ hr']
end Ev

set_option Elab.async false
set_option linter.all false
set_option maxRecDepth 100000
set_option maxHeartbeats 4000000
/-! calls of defs -/
namespace Ev
open PySem PySem.Spec PyProof.Rows L2
/-- the def called x can be called with n values and the keywords ks, at level k; it does as the mirror fn says -/
structure Cal (C : Ct) (base : Heap) (k : Nat) (x : Str) (n : Nat) (ks : List Str) (fn : Fk) : Prop where
  ex : ∃ (f : Addr) (fd : FuncData) (ps : List Str) (fn0 : Fn) (g : List Value → List Value → List Value) (gV : List V → List V → List V) (gM : List Val → List Val → List Val),
    Gx.FnG C.P C.w C.K C.mg base (L2.CX C.P C.w) k f fd ps (spE C ps.length fn0) ∧ C.mg x = some (.ref f) ∧ PySem.W.keepIn C.K (.ref f) = true ∧
    (∀ (s : Shared) (us ws : List Value), C.K.In s.heap → us.length = n → ws.length = ks.length → BindsTo s fd ⟨us, ks.zip ws⟩ (ps.zip (g us ws))) ∧
    (∀ vs us zs ws, Vals vs us → Vals zs ws → Vals (gV vs zs) (g us ws)) ∧
    (∀ m vs ds zs es, vs.length = n → zs.length = ks.length → RVs C m vs ds → RVs C m zs es → RVs C m (gV vs zs) (gM ds es) ∧ (gV vs zs).length = ps.length) ∧
    (∀ ds es, fn ds es = fn0 (gM ds es))
theorem Cal.mono {C : Ct} {base : Heap} {j k : Nat} {x : Str} {n : Nat} {ks : List Str} {fn : Fk} (h : Cal C base j x n ks fn) (l : j ≤ k) : Cal C base k x n ks fn := by
  obtain ⟨f, fd, ps, fn0, g, gV, gM, F, r⟩ := h.ex
  exact ⟨f, fd, ps, fn0, g, gV, gM, F.mono l, r⟩
/-- every parameter is given by its place -/
theorem Cal.pos {C : Ct} {base : Heap} {k : Nat} {x : Str} {f : Addr} {fd : FuncData} {ps : List Str} {fn : Fn} (F : Gx.FnG C.P C.w C.K C.mg base (L2.CX C.P C.w) k f fd ps (spE C ps.length fn)) (m : C.mg x = some (.ref f))
    (kp : PySem.W.keepIn C.K (.ref f) = true) (b : Binds C.K fd ps []) : Cal C base k x ps.length [] (fun xs _ => fn xs) :=
  ⟨f, fd, ps, fn, fun us _ => us, fun vs _ => vs, fun ds _ => ds, F, m, kp, fun s us ws hk hl _ => by have := b s us hk (by simpa using hl); simpa using this, fun _ _ _ _ r _ => r, fun _ _ _ _ _ l _ r _ => ⟨r, l⟩, fun _ _ => rfl⟩
section
variable {X : Cx} {W0 : WX} {j k : Nat} {x : Str} {p pos : Pos} {e : Expr} {es : List Expr} {fa fk : Fa} {n : Nat} {ks : List Str} {fn : Fk} {kws : List Keyword}
/-- the callee runs -/
theorem run_cal {pins : List (Addr × Obj)} {σ : LSt} {H : Hp} {s : Shared} {Q : VK} {us : List Value} {vs : List V} {f : Addr} {fd : FuncData} {ps : List Str} {fn0 : Fn} {vals : List Val} {m : MS} {env : MEnv} {args : Args}
    (F : Gx.FnG X.prog X.w X.K X.mg X.base (L2.CX X.prog X.w) j f fd ps (spE (ctOf X) ps.length fn0)) (hgd : X.A.guards = some []) (hr : Room j X.A) (hb : BindsTo s fd args (ps.zip us)) (tk : Takes X W0) (I : Inv X pins σ H s) (r : Vals vs us)
    (hl : vs.length = ps.length) (hm : m.H = H) (sr : SR (ctOf X) m) (rv : RVs (ctOf X) m vs vals) (o : Out (ctOf X) (wOf (ctOf X) W0) env σ m (fn0 vals m.S) Q) :
    wpAny (model X.prog X.w) X.A (call (.ref f) args.pos args.kw) (EP X pins σ Q) X.xe s := by
  have hsp : spE (ctOf X) ps.length fn0 vs H Q (fun cls d H' => W0 cls d σ H') := by
    refine ⟨hl, m, vals, hm, sr, rv, ?_⟩
    revert o
    cases fn0 vals m.S with
    | ok v S => exact fun o2 => o2
    | exc y S => exact fun o2 => o2
    | bad => exact fun o2 => o2
  refine wpAny_call (codeAny_mono (F.run X.A X.stack s H args us vs Q _ hgd hr I.env0 hb r hsp) fun r s' hq => ?_)
  cases r with
  | error e => exact tk e s' (XE.of_call I (fun _ _ _ h => h) hq)
  | ok fl =>
    cases fl with
    | ret u => exact I.after hq
    | next => exact False.elim hq
    | brk => exact False.elim hq
    | cont => exact False.elim hq
theorem x_call {fn : Fn} (c : Cxt X W0 k) (F : Cal (ctOf X) X.base j x n [] (fun xs _ => fn xs)) (hj : j ≤ k) (ha : PA X (e :: es) (tA (ctOf X) (wOf (ctOf X) W0) fa)) (hl : ∀ env S S' vs, fa env S = .ok vs S' → vs.length = n) (hg : Gl X x := by rfl)
    (hdb : (x == ("__debug__" : Str)) = false := by decide) (he : starEach (e :: es) X.env = (false, eval e X.env) :: starEach es X.env := by rfl) (hpl : (backTo pos (starEach es X.env)).any (·.1) = false := by rfl) :
    PE X (.Call (.Name x p) (e :: es) [] pos) (tE (ctOf X) (wOf (ctOf X) W0) (eCall fn fa)) := by
  refine ⟨fun pins s σ H Q I h => ?_⟩
  obtain ⟨f, fd, ps, fn0, g, gV, gM, F, hm, hk, b1, b2, b3, b4⟩ := F.ex
  obtain ⟨m, env, rfl, sr, er, o⟩ := h
  refine wpAny_Call_Name_kw (ld_glob I hg hm ?_ hdb)
  refine PySem.W.callWith_K (h₀ := X.base) I.ok.mod.kin hk (thn (ha.run pos pins s σ m.H (fun us H1 => us.length = n ∧ ∃ m1 vs, m1.H = H1 ∧ SR (ctOf X) m1 ∧ RVs (ctOf X) m1 us vs ∧ Out (ctOf X) (wOf (ctOf X) W0) env σ m1 (fn vs m1.S) Q) I ⟨m, env, rfl, sr, er, ?_⟩)
    fun us s1 ⟨vs, H1, I1, r, hn, m1, vals, e1, s1', rv, o1⟩ => ⟨I1.kIn, ?_⟩) he hpl
  · have o' := o
    simp only [eCall] at o'
    cases hfa : fa env m.S with
    | bad => rw [hfa] at o'; exact o'
    | exc y S => rw [hfa] at o'; exact o'
    | ok vs S =>
      rw [hfa] at o'
      intro us m1 e1 s1 g1 r1
      subst e1
      exact ⟨by rw [r1.length]; exact hl _ _ _ _ hfa, m1, vs, rfl, s1, r1, OutG.grow o' g1⟩
  · have q := b3 m1 vs vals [] [] hn rfl rv trivial
    have b := b1 s1 us [] I1.kIn (r.length.symm.trans hn) rfl
    have o2 : Out (ctOf X) (wOf (ctOf X) W0) env σ m1 (fn0 (gM vals []) m1.S) Q := by
      have e4 := b4 vals []
      rw [← e4]
      exact o1
    exact run_cal (args := ⟨us, []⟩) F c.gd (c.room.mono hj) b c.tk I1 (b2 vs us [] [] r .nil) q.2 e1 s1' q.1 o2
/-- keywords -/
theorem k_nil : PK X [] (tA (ctOf X) (wOf (ctOf X) W0) aN) := ⟨fun pos pins s σ H Q I h => pk_nil.run pos pins s σ H Q I (by
  obtain ⟨m, env, rfl, s, er, o⟩ := h
  exact OutG.here o rfl s trivial)⟩
theorem k_cons {fe : Fe} {nm : Option Str} {kpos : Pos} (ha : PE X e (tE (ctOf X) (wOf (ctOf X) W0) fe)) (hr : PK X kws (tA (ctOf X) (wOf (ctOf X) W0) fk)) : PK X (⟨nm, e, kpos⟩ :: kws) (tA (ctOf X) (wOf (ctOf X) W0) (aC fe fk)) :=
  ⟨fun pos pins s σ H Q I h => (pk_cons ha hr).run pos pins s σ H Q I (by
    obtain ⟨m, env, rfl, s, er, o⟩ := h
    refine ⟨m, env, rfl, s, er, o.bind fun x m1 v s1 g1 r1 o1 => ⟨m1, env, rfl, s1, er.grow g1, o1.bind fun y m2 w s2 g2 r2 o2 => ?_⟩⟩
    exact OutG.here o2 rfl s2 ⟨r1.grow g2, r2⟩)⟩
/-- f(k = v, ..) -/
theorem x_callK0 (c : Cxt X W0 k) (F : Cal (ctOf X) X.base j x 0 ks fn) (hj : j ≤ k) (hkw : PK X kws (tA (ctOf X) (wOf (ctOf X) W0) fk)) (hlk : ∀ env S S' vs, fk env S = .ok vs S' → vs.length = ks.length) (hg : Gl X x := by rfl)
    (hall : (backToKw pos (keywordEach kws X.env)).all (·.1.isSome) = true := by rfl) (hks : (backToKw pos (keywordEach kws X.env)).filterMap (·.1) = ks := by rfl)
    (hdb : (x == ("__debug__" : Str)) = false := by decide)
    (hpl : ((backTo pos (starEach [] X.env)).any (·.1) || (backToKw pos (keywordEach kws X.env)).any (·.1.isNone)) = false := by rfl) :
    PE X (.Call (.Name x p) [] kws pos) (tE (ctOf X) (wOf (ctOf X) W0) (eCallK fn aN fk)) := by
  refine ⟨fun pins s σ H Q I h => ?_⟩
  obtain ⟨f, fd, ps, fn0, g, gV, gM, F, hm, hk, b1, b2, b3, b4⟩ := F.ex
  obtain ⟨m, env, rfl, sr, er, o⟩ := h
  refine wpAny_Call_Name_kw (ld_glob I hg hm ?_ hdb)
  refine PySem.W.callWith_KW0 (h₀ := X.base) I.ok.mod.kin hk hall (thn (hkw.run pos pins s σ m.H (fun us H1 => us.length = ks.length ∧ ∃ m1 vs, m1.H = H1 ∧ SR (ctOf X) m1 ∧ RVs (ctOf X) m1 us vs ∧ Out (ctOf X) (wOf (ctOf X) W0) env σ m1 (fn [] vs m1.S) Q) I ⟨m, env, rfl, sr, er, ?_⟩)
    fun us s1 ⟨vs, H1, I1, r, hn, m1, vals, e1, s1', rv, o1⟩ => ⟨I1.kIn, ?_⟩) hpl
  · have o' := o
    simp only [eCallK, aN, bind_ok] at o'
    cases hfa : fk env m.S with
    | bad => rw [hfa] at o'; exact o'
    | exc y S => rw [hfa] at o'; exact o'
    | ok vs S =>
      rw [hfa] at o'
      intro us m1 e1 s1 g1 r1
      subst e1
      exact ⟨by rw [r1.length]; exact hlk _ _ _ _ hfa, m1, vs, rfl, s1, r1, OutG.grow o' g1⟩
  · rw [hks]
    have q := b3 m1 [] [] vs vals rfl hn trivial rv
    have b := b1 s1 [] us I1.kIn rfl (r.length.symm.trans hn)
    have o2 : Out (ctOf X) (wOf (ctOf X) W0) env σ m1 (fn0 (gM [] vals) m1.S) Q := by
      rw [← b4]
      exact o1
    exact run_cal (args := ⟨[], ks.zip us⟩) F c.gd (c.room.mono hj) b c.tk I1 (b2 [] [] vs us .nil r) q.2 e1 s1' q.1 o2
/-- f(e, .., k = v, ..) -/
theorem x_callK (c : Cxt X W0 k) (F : Cal (ctOf X) X.base j x n ks fn) (hj : j ≤ k) (ha : PA X (e :: es) (tA (ctOf X) (wOf (ctOf X) W0) fa)) (hl : ∀ env S S' vs, fa env S = .ok vs S' → vs.length = n)
    (hkw : PK X kws (tA (ctOf X) (wOf (ctOf X) W0) fk)) (hlk : ∀ env S S' vs, fk env S = .ok vs S' → vs.length = ks.length) (hg : Gl X x := by rfl)
    (hall : (backToKw pos (keywordEach kws X.env)).all (·.1.isSome) = true := by rfl) (hks : (backToKw pos (keywordEach kws X.env)).filterMap (·.1) = ks := by rfl)
    (hdb : (x == ("__debug__" : Str)) = false := by decide) (he : starEach (e :: es) X.env = (false, eval e X.env) :: starEach es X.env := by rfl)
    (hpl : ((backTo pos (starEach (e :: es) X.env)).any (·.1) || (backToKw pos (keywordEach kws X.env)).any (·.1.isNone)) = false := by rfl) :
    PE X (.Call (.Name x p) (e :: es) kws pos) (tE (ctOf X) (wOf (ctOf X) W0) (eCallK fn fa fk)) := by
  refine ⟨fun pins s σ H Q I h => ?_⟩
  obtain ⟨f, fd, ps, fn0, g, gV, gM, F, hm, hk, b1, b2, b3, b4⟩ := F.ex
  obtain ⟨m, env, rfl, sr, er, o⟩ := h
  refine wpAny_Call_Name_kw (ld_glob I hg hm ?_ hdb)
  have o' := o
  simp only [eCallK] at o'
  refine PySem.W.callWith_KW (h₀ := X.base) I.ok.mod.kin hk hall (thn (ha.run pos pins s σ m.H (fun us H1 => us.length = n ∧ ∃ m1 vs, m1.H = H1 ∧ SR (ctOf X) m1 ∧ Grow m m1 ∧ RVs (ctOf X) m1 us vs ∧
      Out (ctOf X) (wOf (ctOf X) W0) env σ m1 ((fk env m1.S).bind fun zs S2 => fn vs zs S2) Q) I ⟨m, env, rfl, sr, er, ?_⟩)
    fun us s1 ⟨vs, H1, I1, r, hn, m1, vals, e1, s1', g1, rv, o1⟩ => ?_) hpl he
  · cases hfa : fa env m.S with
    | bad => rw [hfa] at o'; exact o'
    | exc y S => rw [hfa] at o'; exact o'
    | ok vs S =>
      rw [hfa] at o'
      intro us m1 e1 s1 g1 r1
      subst e1
      exact ⟨by rw [r1.length]; exact hl _ _ _ _ hfa, m1, vs, rfl, s1, g1, r1, OutG.grow o' g1⟩
  · subst e1
    refine thn (hkw.run pos pins s1 σ m1.H (fun us H1 => us.length = ks.length ∧ ∃ m2 zs, m2.H = H1 ∧ SR (ctOf X) m2 ∧ Grow m1 m2 ∧ RVs (ctOf X) m2 us zs ∧ Out (ctOf X) (wOf (ctOf X) W0) env σ m2 (fn vals zs m2.S) Q) I1 ⟨m1, env, rfl, s1', er.grow g1, ?_⟩)
      fun ws s2 ⟨zs, H2, I2, rz, hz, m2, zals, e2, s2', g2, rvz, o2⟩ => ⟨I2.kIn, ?_⟩
    · cases hfk : fk env m1.S with
      | bad => rw [hfk] at o1; exact o1
      | exc y S => rw [hfk] at o1; exact o1
      | ok vs S =>
        rw [hfk] at o1
        intro us m2 e2 s2 g2 r2
        subst e2
        exact ⟨by rw [r2.length]; exact hlk _ _ _ _ hfk, m2, vs, rfl, s2, g2, r2, OutG.grow o1 g2⟩
    · rw [hks]
      have q := b3 m2 vs vals zs zals hn hz (rv.grow g2) rvz
      have b := b1 s2 us ws I2.kIn (r.length.symm.trans hn) (rz.length.symm.trans hz)
      have o3 : Out (ctOf X) (wOf (ctOf X) W0) env σ m2 (fn0 (gM vals zals) m2.S) Q := by
        rw [← b4]
        exact o2
      exact run_cal (args := ⟨us, ks.zip ws⟩) F c.gd (c.room.mono hj) b c.tk I2 (b2 vs us zs ws r rz) q.2 e2 s2' q.1 o3
end
end Ev

set_option linter.all false
/-! operations on data -/
namespace Ev
open PySem
def pAdd : PyData → PyData → Option PyData
  | .int i, .int j => some (.int (i + j))
  | .str x, .str y => if x.length + y.length ≤ lineN then some (.str (x ++ y)) else none
  | .tuple xs, .tuple ys => if xs.length + ys.length ≤ lineN then some (.tuple (xs ++ ys)) else none
  | .list xs, .list ys => if xs.length + ys.length ≤ lineN then some (.list (xs ++ ys)) else none
  | _, _ => none
def pSub : PyData → PyData → Option PyData
  | .int i, .int j => some (.int (i - j))
  | _, _ => none
/-- one of both is below 2 ^ 64 -/
def mulOk (i j : Int) : Bool := decide ((-(2 ^ 64) < i ∧ i < 2 ^ 64) ∨ (-(2 ^ 64) < j ∧ j < 2 ^ 64))
def pMul : PyData → PyData → Option PyData
  | .int i, .int j => if mulOk i j = true then some (.int (i * j)) else none
  | _, _ => none
def pMod : PyData → PyData → Option PyData
  | .int i, .int j => if 0 < j then some (.int (i % j)) else none
  | _, _ => none
def pFdiv : PyData → PyData → Option PyData
  | .int i, .int j => if 0 < j ∧ j < 1073741824 then some (.int (i / j)) else none
  | _, _ => none
def pPow : PyData → PyData → Option PyData
  | .int i, .int j => if 0 ≤ j ∧ j ≤ 1000000 ∧ i.natAbs < 2 ^ 64 then some (.int (i ^ j.toNat)) else none
  | _, _ => none
def pNeg : PyData → Option PyData
  | .int i => some (.int (-i))
  | _ => none
def ltS (x y : Str) : Bool := decide (x.cps.toList < y.cps.toList)
def pLt : PyData → PyData → Option Bool
  | .int i, .int j => some (decide (i < j))
  | .str x, .str y => some (ltS x y)
  | _, _ => none
def pLe : PyData → PyData → Option Bool
  | .int i, .int j => some (decide (i ≤ j))
  | .str x, .str y => some (!ltS y x)
  | _, _ => none
def pGt : PyData → PyData → Option Bool
  | .int i, .int j => some (decide (j < i))
  | .str x, .str y => some (ltS y x)
  | _, _ => none
def pGe : PyData → PyData → Option Bool
  | .int i, .int j => some (decide (j ≤ i))
  | .str x, .str y => some (!ltS x y)
  | _, _ => none
def pEq (c d : PyData) : Option Bool := if SeqAt.shaped c = true ∧ SeqAt.shaped d = true then some (PyData.eqv c d) else none
def pNe (c d : PyData) : Option Bool := if SeqAt.shaped c = true ∧ SeqAt.shaped d = true then some (!PyData.eqv c d) else none
def flatD : PyData → Bool
  | .none | .bool _ | .int _ | .str _ => true
  | _ => false
def pIn : PyData → PyData → Option Bool
  | .str x, .str y => match x.cps.toList with
    | [c] => some (decide (c ∈ y.cps.toList))
    | _ => none
  | c, .tuple ds => if flatD c = true ∧ ds.all flatD = true then some (ds.any fun z => PyData.eqv z c) else none
  | c, .list ds => if flatD c = true ∧ ds.all flatD = true then some (ds.any fun z => PyData.eqv z c) else
      if SeqAt.shaped c = true ∧ SeqAt.shaped (.list ds) = true then some (ds.any fun z => PyData.eqv z c) else none
  | _, _ => none
def pNotIn (c d : PyData) : Option Bool := (pIn c d).map not
def isNone : PyData → Bool
  | .none => true
  | _ => false
/-- is None, is not None -/
def pIsN (c d : PyData) : Option Bool := match d with
  | .none => some (isNone c)
  | .bool b => match c with
    | .bool a => some (decide (a = b))
    | _ => none
  | _ => none
def pNotN (c d : PyData) : Option Bool := (pIsN c d).map not
def tyD : PyData → String
  | .none => "NoneType"
  | .bool _ => "bool"
  | .int _ => "int"
  | .str _ => "str"
  | .list _ => "list"
  | .tuple _ => "tuple"
  | .dict _ => "dict"
def isiB (d : PyData) (t : String) : Bool := tyD d == t || (tyD d == "bool" && t == "int")
def pIsi (t : String) (d : PyData) : Option PyData := some (.bool (isiB d t))
def pLen : PyData → Option PyData
  | .str x => some (.int x.length)
  | .list ds => some (.int ds.length)
  | .tuple ds => some (.int ds.length)
  | _ => none
def itemAt {α : Type} (xs : List α) (i : Int) : Option α := (ixOf xs.length i).bind fun j => xs[j]?
def pIdx : PyData → PyData → Option PyData
  | .list ds, .int i => itemAt ds i
  | .tuple ds, .int i => itemAt ds i
  | .str x, .int i => (itemAt x.cps.toList i).map fun c => .str ⟨#[c]⟩
  | _, _ => none
def slAt (n d : Nat) : Option Int → Nat
  | none => d
  | some v => if v < 0 then (v + (n : Int)).toNat else min v.toNat n
def cutL {α : Type} (xs : List α) (lo hi : Option Int) : List α := (xs.drop (slAt xs.length 0 lo)).take (slAt xs.length xs.length hi - slAt xs.length 0 lo)
def cutX (x : Str) (lo hi : Option Int) : Str := ⟨(cutL x.cps.toList lo hi).toArray⟩
def pSl (d : PyData) (lo hi : Option Int) : Option PyData :=
  match d with
  | .list ds => some (.list (cutL ds lo hi))
  | .tuple ds => some (.tuple (cutL ds lo hi))
  | .str x => some (.str (cutX x lo hi))
  | _ => none
/-- an end of a slice -/
def oN : MEnv → Store → Res (Option Int) := fun _ S => .ok none S
def oS (a : Fe) : MEnv → Store → Res (Option Int) := fun env S => (a env S).bind fun x S1 =>
  match x with
  | .dat (.int i) => .ok (some i) S1
  | _ => .bad
def eSl (a : Fe) (lo hi : MEnv → Store → Res (Option Int)) : Fe := fun env S => (a env S).bind fun x S1 => (lo env S1).bind fun i S2 => (hi env S2).bind fun j S3 =>
  ofOpt ((view S3 x).bind fun d => pSl d i j) S3 |>.bind fun d S4 => .ok (.dat d) S4
def pRev : PyData → Option PyData
  | .list ds => some (.list ds.reverse)
  | .tuple ds => some (.tuple ds.reverse)
  | _ => none
def pTup : PyData → Option PyData
  | .list ds => some (.tuple ds)
  | .tuple ds => some (.tuple ds)
  | _ => none
def pLst : PyData → Option PyData
  | .list ds => some (.list ds)
  | .tuple ds => some (.list ds)
  | _ => none
def boolsD : List PyData → Option (List Bool)
  | [] => some []
  | .bool b :: r => (boolsD r).map (b :: ·)
  | _ => none
def intsD : List PyData → Option (List Int)
  | [] => some []
  | .int i :: r => (intsD r).map (i :: ·)
  | _ => none
def strsD : List PyData → Option (List Str)
  | [] => some []
  | .str x :: r => (strsD r).map (x :: ·)
  | _ => none
def pAll : PyData → Option PyData
  | .list ds => (boolsD ds).map fun bs => .bool (bs.all id)
  | _ => none
def pAny : PyData → Option PyData
  | .list ds => (boolsD ds).map fun bs => .bool (bs.any id)
  | _ => none
def pSum : PyData → Option PyData
  | .list ds => (intsD ds).map fun ns => .int ns.sum
  | _ => none
def pAbs : PyData → Option PyData
  | .int i => some (.int (if i < 0 then -i else i))
  | _ => none
def pInt : PyData → Option PyData
  | .int i => some (.int i)
  | .bool b => some (.int (if b = true then 1 else 0))
  | _ => none
def pMin2 : PyData → PyData → Option PyData
  | .int i, .int j => some (.int (if j < i then j else i))
  | _, _ => none
def pMax2 : PyData → PyData → Option PyData
  | .int i, .int j => some (.int (if j > i then j else i))
  | _, _ => none
def sortI (ns : List Int) : List Int := ns.mergeSort fun a b => decide (a ≤ b)
def sortS (xs : List Str) : List Str := xs.mergeSort fun a b => !ltS b a
def pSorted : PyData → Option PyData
  | .list ds => match intsD ds with
    | some ns => some (.list ((sortI ns).map PyData.int))
    | none => match strsD ds with
      | some xs => if xs.length < 64 then some (.list ((sortS xs).map PyData.str)) else none
      | none => none
  | _ => none
def pRepr (d : PyData) : Option PyData :=
  if d.showable = true ∧ d.hasDict = false ∧ d.depth ≤ 20 ∧ d.shown.length ≤ lineN then some (.str d.shown) else none
def pJoin : Str → PyData → Option PyData
  | a, .list ds => (strsD ds).bind fun ys => if (ys.map (·.length)).sum + ys.length * a.length ≤ lineN ∧ (Txt.join a ys).length ≤ lineN then some (.str (Txt.join a ys)) else none
  | _, _ => none
/-- text.index(sign) -/
def pIndexS : Str → PyData → Option PyData
  | x, .str y => match Builtin.Str.occurrences x y 0 x.length 1 with
    | i :: _ => some (.int ((i : Nat) : Int))
    | [] => none
  | _, _ => none
/-- a method of a text, with one argument -/
def eMs (g : Str → PyData → Option PyData) (a b : Fe) : Fe := fun env S => (a env S).bind fun x S1 =>
  match x with
  | .dat (.str z) => (b env S1).bind fun y S2 => ofOpt ((view S2 y).bind fun d => g z d) S2 |>.bind fun d S3 => .ok (.dat d) S3
  | _ => .bad
/-! sets -/
def addTo (acc : List PyData) (d : PyData) : List PyData := if acc.any (fun z => PyData.eqv z d) = true then acc else acc ++ [d]
/-- each thing once, in the order of its first place -/
def once (ds : List PyData) : List PyData := ds.foldl addTo []
/-- an element that is an int; that is an int or a text -/
def cEI (e : Fe) : Fc := fun env S => (e env S).bind fun v S1 =>
  match v with
  | .dat (.int i) => .ok [.int i] S1
  | _ => .bad
def cEK (e : Fe) : Fc := fun env S => (e env S).bind fun v S1 =>
  match v with
  | .dat (.int i) => .ok [.int i] S1
  | .dat (.str x) => .ok [.str x] S1
  | _ => .bad
/-- a set: of ints (k), of ints and texts -/
def eSc (k : Bool) (c : Fc) : Fe := fun env S => (noX (c env S)).bind fun ds S1 => if ds.length < 2000 then .ok (.set k (once ds)) S1 else .bad
/-- sorted(set), len(set) -/
def eSortSet (a : Fe) : Fe := fun env S => (a env S).bind fun x S1 =>
  match x with
  | .set true ds => ofOpt (pSorted (.list ds)) S1 |>.bind fun d S2 => if ds.length < 64 then .ok (.dat d) S2 else .bad
  | _ => .bad
def eLenSet (a : Fe) : Fe := fun env S => (a env S).bind fun x S1 =>
  match x with
  | .set false ds => .ok (.dat (.int ds.length)) S1
  | _ => .bad
/-! what loops walk -/
def pairUp : List PyData → List PyData → List PyData
  | a :: as, b :: bs => .tuple [a, b] :: pairUp as bs
  | _, _ => []
def enumD : Nat → List PyData → List PyData
  | _, [] => []
  | n, d :: ds => .tuple [.int (n : Int), d] :: enumD (n + 1) ds
/-- two lists, or two tuples -/
def zipD : PyData → PyData → Option (List PyData × List PyData)
  | .list cs, .list ds => some (cs, ds)
  | .tuple cs, .tuple ds => some (cs, ds)
  | _, _ => none
/-- zip of two that are never changed -/
def iZip (a b : Fe) : Fi := fun env S => (a env S).bind fun x S1 => (b env S1).bind fun y S2 =>
  match x, y with
  | .dat c, .dat d => ofOpt (zipD c d) S2 |>.bind fun p S3 => .ok ((pairUp p.1 p.2).map Val.dat, none) S3
  | _, _ => .bad
/-- .. two tuples of one length -/
def zipT : PyData → PyData → Option (List PyData × List PyData)
  | .tuple cs, .tuple ds => some (cs, ds)
  | _, _ => none
def iZipS (a b : Fe) : Fi := fun env S => (a env S).bind fun x S1 => (b env S1).bind fun y S2 =>
  match x, y with
  | .dat c, .dat d => ofOpt (zipT c d) S2 |>.bind fun p S3 => if p.1.length = p.2.length then .ok ((pairUp p.1 p.2).map Val.dat, none) S3 else .bad
  | _, _ => .bad
def seqD : PyData → Option (List PyData)
  | .list cs => some cs
  | .tuple cs => some cs
  | _ => none
def iEnum (a : Fe) : Fi := fun env S => (a env S).bind fun x S1 =>
  match x with
  | .dat c => ofOpt (seqD c) S1 |>.bind fun cs S2 => .ok ((enumD 0 cs).map Val.dat, none) S2
  | _ => .bad
/-- range(a, b, -1) -/
def downOf (lo hi : Int) : List Val := (List.range (lo - hi).toNat).map fun (i : Nat) => Val.dat (.int (lo + (i : Int) * -1))
def iRd (a b : Fe) : Fi := fun env S => (a env S).bind fun x S1 => (b env S1).bind fun y S2 =>
  match x, y with
  | .dat (.int i), .dat (.int j) => if bnd i = true ∧ bnd j = true then .ok (downOf i j, none) S2 else .bad
  | _, _ => .bad
end Ev

set_option Elab.async false
set_option linter.all false
set_option maxRecDepth 100000
set_option maxHeartbeats 4000000
/-! comprehensions -/
namespace Ev
open PySem PySem.Spec PyProof.Rows L2 Gx
/-- all stays but what is being made at D -/
structure GrowD (D : Addr) (m m' : MS) : Prop where
  pre : m.L <+: m'.L
  sub : Sub m.G m'.G
  hX : m'.X = m.X
  hid : ∀ a ∈ m.X, a ≠ D → m'.H a = m.H a
theorem Grow.d {D : Addr} {m m' : MS} (g : Grow m m') : GrowD D m m' := ⟨g.pre, g.sub, g.hX, fun a h _ => g.hid a h⟩
theorem GrowD.refl {D : Addr} {m : MS} : GrowD D m m := Grow.refl.d
theorem GrowD.trans {D : Addr} {m1 m2 m3 : MS} (a : GrowD D m1 m2) (b : GrowD D m2 m3) : GrowD D m1 m3 :=
  ⟨a.pre.trans b.pre, a.sub.trans b.sub, b.hX.trans a.hX, fun x h n => (b.hid x (by rw [a.hX]; exact h) n).trans (a.hid x h n)⟩
theorem GrowD.w {D : Addr} {m m' : MS} (g : GrowD D m m') : GrowW m m' := ⟨g.pre, g.sub⟩
/-- what is being made: its description stays where the rest grows -/
structure AccOk (Acc : MS → Addr → List PyData → Prop) : Prop where
  stay : ∀ {m m' : MS} {D : Addr} {acc : List PyData}, D ∈ m.X → Grow m m' → Acc m D acc → Acc m' D acc
def emC (C : Ct) (Acc : MS → Addr → List PyData → Prop) (lim : Nat) (c : Fc) (D : Addr) : L2.St → Hp → (Hp → Prop) → Prop := fun σ H Nx =>
  ∃ m env acc ds S', m.H = H ∧ SR C m ∧ D ∈ m.X ∧ ER C m σ env ∧ Acc m D acc ∧ c env m.S = .ok ds S' ∧ acc.length + ds.length ≤ lim ∧
    ∀ m', m'.S = S' → SR C m' → GrowD D m m' → Acc m' D (acc ++ ds) → Nx m'.H
theorem wipe_in {σ : LSt} {i : Nat} : ∀ {vs : List Nat}, i ∈ vs → (wipe σ vs)[i]? = σ[i]?.map fun _ => none
  | [], h => by cases h
  | v :: vs, h => by
    unfold wipe
    by_cases e : v = i
    · subst e
      by_cases hl : v < σ.length
      · rw [List.getElem?_set_self (by rw [wipe_length]; exact hl), List.getElem?_eq_getElem hl]
        rfl
      · rw [List.getElem?_eq_none (by simp [wipe_length]; omega), List.getElem?_eq_none (by omega)]
        rfl
    · rw [List.getElem?_set_ne e]
      exact wipe_in ((List.mem_cons.mp h).resolve_left fun z => e z.symm)
theorem wipe_again {σ σ2 : LSt} {vs us : List Nat} (hl : σ2.length = σ.length) (hu : ∀ i ∈ us, i ∈ vs) (h : ∀ i, i ∉ us → σ2[i]? = (wipe σ vs)[i]?) : wipe σ2 vs = wipe σ vs := by
  refine List.ext_getElem? fun i => ?_
  by_cases hi : i ∈ vs
  · rw [wipe_in hi, wipe_in hi]
    by_cases hq : i < σ.length
    · rw [List.getElem?_eq_getElem hq, List.getElem?_eq_getElem (by omega)]
      rfl
    · rw [List.getElem?_eq_none (by omega), List.getElem?_eq_none (by omega)]
  · rw [wipe_out hi, h i fun z => hi (hu i z)]
theorem wipeE_length (env : MEnv) : ∀ vs : List Nat, (wipeE env vs).length = env.length
  | [] => rfl
  | v :: vs => by unfold wipeE; rw [List.length_set, wipeE_length env vs]
theorem wipeE_some {env : MEnv} {i : Nat} {x : Val} : ∀ {vs : List Nat}, (wipeE env vs)[i]? = some (some x) → env[i]? = some (some x) ∧ i ∉ vs
  | [], h => ⟨h, by simp⟩
  | v :: vs, h => by
    unfold wipeE at h
    by_cases e : v = i
    · subst e
      by_cases hl : v < env.length
      · rw [List.getElem?_set_self (by rw [wipeE_length]; exact hl)] at h
        cases h
      · rw [List.getElem?_eq_none (by simp [wipeE_length]; omega)] at h
        cases h
    · rw [List.getElem?_set_ne e] at h
      obtain ⟨a, b⟩ := wipeE_some h
      refine ⟨a, ?_⟩
      intro z
      rcases List.mem_cons.mp z with z | z
      · exact e z.symm
      · exact b z
theorem ER.wipe {C : Ct} {m : MS} {σ : LSt} {env : MEnv} (h : ER C m σ env) (vs : List Nat) : ER C m (L2.wipe σ vs) (wipeE env vs) := by
  refine ⟨by rw [wipe_length, wipeE_length, h.len], fun i v e => ?_⟩
  obtain ⟨e1, e2⟩ := wipeE_some e
  obtain ⟨u, e3, r⟩ := h.at_ i v e1
  exact ⟨u, by rw [wipe_out e2]; exact e3, r⟩
section
variable {C : Ct} {W : XW} {Acc : MS → Addr → List PyData → Prop} {lim : Nat} {D : Addr} {J : It} {w : Walks} {g : Fg} {t : Ft} {b : Fc} {us vs : List Nat} {σ : LSt} {End : Hp → Prop}
theorem at_turn (hA : AccOk Acc) {m0 m1 : MS} {env : MEnv} {acc ds : List PyData} {S' : Store} (st : Steps C m0 J w) (g0 : GrowW m0 m1) (hS : keeps w.2 m1.S) (s1 : SR C m1) (hD : D ∈ m1.X) (er : ER C m1 (L2.wipe σ vs) env)
    (ha : Acc m1 D acc) (hc : compGo g t b w.2 w.1 env m1.S = .ok ds S') (hl : acc.length + ds.length ≤ lim) (hu : ∀ i ∈ us, i ∈ vs)
    (fin : ∀ m', m'.S = S' → SR C m' → GrowD D m1 m' → Acc m' D (acc ++ ds) → End m'.H) :
    ∃ W1 : Nat → Nat → Hp → Prop, (∃ n, W1 0 n m1.H) ∧ AtTurn J (tG C g us) (tT C W t) (emC C Acc lim b D) vs σ W1 End := by
  obtain ⟨items, kp⟩ := w
  refine ⟨fun j n H => n = items.length - j ∧ j ≤ items.length ∧ ∃ m acc' ds', m.H = H ∧ SR C m ∧ D ∈ m.X ∧ GrowD D m1 m ∧ keeps kp m.S ∧ Acc m D acc' ∧ compGo g t b kp (items.drop j) env m.S = .ok ds' S' ∧ acc' ++ ds' = acc ++ ds,
    ⟨items.length, rfl, Nat.zero_le _, m1, acc, ds, rfl, s1, hD, GrowD.refl, hS, ha, hc, rfl⟩, ?_⟩
  rintro j n H ⟨rfl, hj, m, acc', ds', rfl, s, hDm, gd, kS, aM, hgo, ea⟩
  obtain ⟨stp, nxt⟩ := st m s (g0.trans gd.w) kS
  by_cases hlt : j < items.length
  · rw [List.drop_eq_getElem_cons hlt] at hgo
    simp only [compGo] at hgo
    obtain ⟨go, yl⟩ := nxt j items[j] (by simp [hlt])
    refine .inr ⟨go, fun H' => ∃ m acc' ds', m.H = H' ∧ SR C m ∧ D ∈ m.X ∧ GrowD D m1 m ∧ keeps kp m.S ∧ Acc m D acc' ∧ compGo g t b kp (items.drop (j + 1)) env m.S = .ok ds' S' ∧ acc' ++ ds' = acc ++ ds,
      fun H' h => ⟨items.length - (j + 1), by omega, rfl, hlt, h⟩, fun x H' y => ?_⟩
    obtain ⟨m2, rfl, eS, s2, g2, r2⟩ := yl x H' y
    have er2 : ER C m2 (L2.wipe σ vs) env := (er.growW gd.w).grow g2
    have aM2 := hA.stay hDm g2 aM
    have hD2 : D ∈ m2.X := by rw [g2.hX]; exact hDm
    refine ⟨m2, items[j], env, rfl, s2, er2, r2, ?_⟩
    cases hg1 : g items[j] env with
    | none => rw [hg1] at hgo; cases hgo
    | some env1 =>
      rw [hg1] at hgo
      dsimp only at hgo
      intro σ2 er3 l2 k2
      refine ⟨wipe_again (by rw [l2, wipe_length]) hu k2, m2, env1, rfl, s2, er3, ?_⟩
      rw [eS]
      cases ht : t env1 m.S with
      | bad => rw [ht] at hgo; cases hgo
      | exc y S => rw [ht] at hgo; cases hgo
      | ok c S1 =>
        rw [ht] at hgo
        simp only [bind_ok] at hgo
        intro b' m3 e3 s3 g3 eb
        subst eb
        subst e3
        have aM3 := hA.stay hD2 g3 aM2
        have hD3 : D ∈ m3.X := by rw [g3.hX]; exact hD2
        cases b' with
        | false =>
          rw [if_neg (by simp)] at hgo ⊢
          simp only [bind_ok] at hgo
          by_cases hk : keeps kp m3.S
          · rw [if_pos hk] at hgo
            cases hr : compGo g t b kp (items.drop (j + 1)) env m3.S with
            | bad => rw [hr] at hgo; cases hgo
            | exc y S => rw [hr] at hgo; cases hgo
            | ok es S3 =>
              rw [hr] at hgo
              cases hgo
              exact ⟨m3, acc', es, rfl, s3, hD3, (gd.trans g2.d).trans g3.d, hk, aM3, hr, ea⟩
          · rw [if_neg hk] at hgo
            cases hgo
        | true =>
          rw [if_pos rfl] at hgo ⊢
          cases hb : b env1 m3.S with
          | bad => rw [hb] at hgo; cases hgo
          | exc y S => rw [hb] at hgo; cases hgo
          | ok ds1 S2 =>
            rw [hb] at hgo
            simp only [bind_ok] at hgo
            by_cases hk : keeps kp S2
            · rw [if_pos hk] at hgo
              cases hr : compGo g t b kp (items.drop (j + 1)) env S2 with
              | bad => rw [hr] at hgo; cases hgo
              | exc y S => rw [hr] at hgo; cases hgo
              | ok es S3 =>
                rw [hr] at hgo
                cases hgo
                refine ⟨m3, env1, acc', ds1, S2, rfl, s3, hD3, er3.grow g3, aM3, hb, ?_, fun m4 e4 s4 g4 a4 => ?_⟩
                · have := congrArg List.length ea
                  simp only [List.length_append] at this
                  omega
                · subst e4
                  exact ⟨m4, acc' ++ ds1, es, rfl, s4, by rw [g4.hX]; exact hD3, ((gd.trans g2.d).trans g3.d).trans g4, hk, a4, hr, by rw [← ea]; simp⟩
            · rw [if_neg hk] at hgo
              cases hgo
  · have e : j = items.length := by omega
    subst e
    rw [List.drop_length] at hgo
    simp only [compGo] at hgo
    cases hgo
    rw [List.append_nil] at ea
    subst ea
    exact .inl ⟨stp, fin m rfl s gd aM⟩
/-- a second clause -/
theorem em_inner (hA : AccOk Acc) {fi : Fi} {Nx : Hp → Prop} {H : Hp} (hu : ∀ i ∈ us, i ∈ vs) (h : emC C Acc lim (cF vs fi g t b) D σ H Nx) : emIn (tI C W fi) (tG C g us) (tT C W t) (emC C Acc lim b D) vs σ H Nx := by
  obtain ⟨m, env, acc, ds, S', rfl, s, hD, er, ha, hc, hl, fin⟩ := h
  simp only [cF] at hc
  refine ⟨m, env, rfl, s, er, ?_⟩
  cases hi : fi env m.S with
  | bad => rw [hi] at hc; cases hc
  | exc y S => rw [hi] at hc; cases hc
  | ok w S1 =>
    rw [hi] at hc
    simp only [bind_ok] at hc
    intro J m1 e1 s1 g1 ⟨k1, st⟩
    subst e1
    exact at_turn hA st (Grow.w Grow.refl) k1 s1 (by rw [g1.hX]; exact hD) ((er.grow g1).wipe vs) (hA.stay hD g1 ha) hc hl hu fun m' e s' g' a' => fin m' e s' (g1.d.trans g') a'
end

/-! lists -/
def AccL (K : PySem.W.Frag) : MS → Addr → List PyData → Prop := fun m D acc => ∃ xs, m.H D = some (.lst xs) ∧ RpAll K m.G xs acc
theorem accL {K : PySem.W.Frag} : AccOk (AccL K) := ⟨fun hD g ⟨xs, e, r⟩ => ⟨xs, (g.hid _ hD).trans e, r.sub g.sub⟩⟩
def emitLst (elt : Expr) (acc : Value) (env : Env) : Sem Unit := do
  let _ ← call (.builtin "list.append") [acc, ← eval elt env]
/-- what is being made is changed -/
def MS.putX (m : MS) (D : Addr) (o : HO) : MS := m.withH (upd m.H D o)
theorem MS.putX_G {m : MS} {D : Addr} {o : HO} (hD : D ∈ m.X) : (m.putX D o).G = m.G := by
  funext a
  show pur (upd m.H D o) m.A a = pur m.H m.A a
  by_cases ha : a ∈ m.A
  · rw [pur_in ha, pur_in ha]
  · rw [pur_out ha, pur_out ha, upd_ne]
    rintro rfl
    exact ha (List.mem_append_right _ hD)
theorem SR.putX {C : Ct} {m : MS} (s : SR C m) {D : Addr} {o : HO} (hD : D ∈ m.X) : SR C (m.putX D o) ∧ GrowD D m (m.putX D o) := by
  refine ⟨⟨s.len, s.inj, fun i c e => ?_, fun a ha => ?_⟩, ⟨List.prefix_refl _, by rw [MS.putX_G hD]; exact Sub.refl, rfl, fun a _ n => upd_ne n⟩⟩
  · obtain ⟨a, hl, q⟩ := s.cell i c e
    rw [MS.putX_G hD]
    refine ⟨a, hl, q.sub Sub.refl fun o' h' => ?_⟩
    show upd m.H D o a = some o'
    rw [upd_ne (Ne.symm (s.hid_ne e hl hD))]
    exact h'
  · by_cases e : a = D
    · subst e
      exact ⟨o, upd_same⟩
    · obtain ⟨o', h'⟩ := s.hid a ha
      exact ⟨o', by show upd m.H D o a = some o'; rw [upd_ne e]; exact h'⟩
section
variable {Y : Cx} {elt : Expr} {W : XW} {fe : Fe} {D : Addr} {vs : List Nat}
theorem cE_ok {fe : Fe} {env : MEnv} {S S' : Store} {ds : List PyData} (h : cE fe env S = .ok ds S') : ∃ d, fe env S = .ok (.dat d) S' ∧ ds = [d] := by
  simp only [cE] at h
  cases hf : fe env S with
  | bad => rw [hf] at h; cases h
  | exc y S => rw [hf] at h; cases h
  | ok v S1 =>
    rw [hf] at h
    cases v with
    | dat d => cases h; exact ⟨d, rfl, rfl⟩
    | _ => cases h
theorem does_lst (hx : Y.xe = fun _ _ => False) (he : PE Y elt (tE (ctOf Y) W fe)) : Does Y (emitLst elt (.ref D) Y.env) (emC (ctOf Y) (AccL Y.K) lineN (cE fe) D) vs := by
  intro pins s σ H Nx I h
  obtain ⟨m, env, acc, ds, S', rfl, sr, hD, er, ⟨xs, eD, rA⟩, hc, hl, fin⟩ := h
  obtain ⟨d, hf, rfl⟩ := cE_ok hc
  have hr := he.run pins s σ m.H (fun u H1 => ∃ m1, m1.H = H1 ∧ m1.S = S' ∧ SR (ctOf Y) m1 ∧ Grow m m1 ∧ Rp Y.K m1.G u d) I ⟨m, env, rfl, sr, er, by
    rw [hf]
    exact fun u m1 e s1 g1 r => ⟨m1, rfl, e, s1, g1, r⟩⟩
  rw [hx] at hr
  unfold emitLst
  refine wpAny_bind (thnF hr fun u s1 ⟨y, H1, I1, r1, m1, e1, eS, s1', g1, rd⟩ => ?_)
  subst e1
  have hD1 : D ∈ m1.X := by rw [g1.hX]; exact hD
  have eD1 : m1.H D = some (.lst xs) := (g1.hid D hD).trans eD
  have hlen : xs.length + 1 ≤ sizeLine := by
    rw [rA.length, line_eq]
    simpa using hl
  obtain ⟨s2, g2⟩ := s1'.putX (o := .lst (xs ++ [y])) hD1
  refine wpAny_bind (thnF (Q := EP Y pins σ fun _ H2 => H2 = upd m1.H D (.lst (xs ++ [y]))) ?_ fun _ s3 ⟨_, H3, I3, _, e3⟩ => wpAny_pure ⟨H3, Inv.wiped I3 vs, ?_⟩)
  · have q := mt_append (X := Y) pins s1 σ m1.H (.ref D) [y] (.ref D) [u] (fun _ H2 => H2 = upd m1.H D (.lst (xs ++ [y]))) I1 rfl (.cons r1 .nil) ⟨D, xs, y, rfl, rfl, eD1, by omega, rfl⟩
    rw [hx] at q
    exact q
  · subst e3
    exact fin (m1.putX D (.lst (xs ++ [y]))) eS s2 (g1.d.trans g2) ⟨_, upd_same, by rw [MS.putX_G hD1]; exact (rA.sub g1.sub).snoc rd⟩
theorem plain_lst {elt : Expr} {g : List Comprehension} {sc : Scope} {pos : Pos} {k : Nat} : Plain (.ListComp elt g sc pos) k :=
  ⟨fun _ _ _ _ => rfl, fun _ _ _ _ _ => rfl, fun _ _ _ => rfl⟩
theorem begun_lst {elt t i : Expr} {ifs : List Expr} {gs : List Comprehension} {sc : Scope} {pos : Pos} : Begun (.ListComp elt (⟨t, i, ifs, 0⟩ :: gs) sc pos) 0 i :=
  ⟨fun _ _ _ _ => rfl, fun _ _ _ _ _ => rfl, fun _ _ _ => rfl⟩
theorem begun_lst1 {elt t i : Expr} {ifs : List Expr} {g : Comprehension} {gs : List Comprehension} {sc : Scope} {pos : Pos} : Begun (.ListComp elt (g :: ⟨t, i, ifs, 0⟩ :: gs) sc pos) 1 i :=
  ⟨fun _ _ _ _ => rfl, fun _ _ _ _ _ => rfl, fun _ _ _ => rfl⟩
end
section
variable {X : Cx}
theorem makes_lst : Makes X (newList []) (fun _ => .lst []) := by
  intro pins s σ H Q E I h
  refine PySem.wpAny_newObj_type (h _ ?_ fun b o e => Heap.get?_push_of_some _ e) (by show 0 ≤ sizeLine; decide)
  exact I.laid (t' := s.toks) (fun b u e => Heap.get?_push_of_some _ e) (Nat.le_refl _) ⟨by simp, [], 0, .nil, Heap.get?_push_size _ rfl⟩
theorem comp_lst1 {elt t i : Expr} {ifs : List Expr} {sc : Scope} {pos : Pos} (hs : ∀ x, foldedSetIterable i X.env x = pure x) :
    CompOk X (.ListComp elt [⟨t, i, ifs, 0⟩] sc pos) t i ifs [] sc (firstIterPos [⟨t, i, ifs, 0⟩] pos) (newList []) (emitLst elt) :=
  ⟨plain_lst, begun_lst, rfl, fun _ _ _ => rfl, rfl, hs⟩
theorem turn_lst0 {elt t i t1 i1 : Expr} {ifs ifs1 : List Expr} {sc : Scope} {pos : Pos} {D it : Addr} {env : Env} :
    compTurn (.ListComp elt [⟨t, i, ifs, 0⟩, ⟨t1, i1, ifs1, 0⟩] sc pos) 0 (.ref it) (.ref D) env =
      turnOf (.ListComp elt [⟨t, i, ifs, 0⟩, ⟨t1, i1, ifs1, 0⟩] sc pos) 0 t i ifs (.ref it) (.ref D) env
        (innerOf (.ListComp elt [⟨t, i, ifs, 0⟩, ⟨t1, i1, ifs1, 0⟩] sc pos) i1 (.ref D) env) := by
  unfold turnOf innerOf
  simp only [bind_assoc, pure_bind]
  rfl
theorem comp_lst2 {elt t i t1 i1 : Expr} {ifs ifs1 : List Expr} {sc : Scope} {pos : Pos} (hs : ∀ x, foldedSetIterable i X.env x = pure x) :
    CompOk X (.ListComp elt [⟨t, i, ifs, 0⟩, ⟨t1, i1, ifs1, 0⟩] sc pos) t i ifs [⟨t1, i1, ifs1, 0⟩] sc (firstIterPos [⟨t, i, ifs, 0⟩, ⟨t1, i1, ifs1, 0⟩] pos) (newList [])
      (innerOf (.ListComp elt [⟨t, i, ifs, 0⟩, ⟨t1, i1, ifs1, 0⟩] sc pos) i1) :=
  ⟨plain_lst, begun_lst, rfl, fun _ _ _ => turn_lst0, rfl, hs⟩
theorem turn_lst2 {elt t i t1 i1 : Expr} {ifs ifs1 : List Expr} {sc : Scope} {pos : Pos} {D it : Addr} {env : Env} :
    compTurn (.ListComp elt [⟨t, i, ifs, 0⟩, ⟨t1, i1, ifs1, 0⟩] sc pos) 1 (.ref it) (.ref D) env =
      turnOf (.ListComp elt [⟨t, i, ifs, 0⟩, ⟨t1, i1, ifs1, 0⟩] sc pos) 1 t1 i1 ifs1 (.ref it) (.ref D) env (emitLst elt (.ref D) env) := rfl
/-- tests of a clause -/
theorem ts_nil {W : XW} : PTs X [] (tT (ctOf X) W Ev.tYes) := ⟨fun pins s σ H Q I h => pts_nil.run pins s σ H Q I (by
  obtain ⟨m, env, rfl, s, er, o⟩ := h
  exact OutG.here o rfl s rfl)⟩
theorem ts_one {W : XW} {c : Expr} {t : Ft} (h : PT X c (tT (ctOf X) W t)) : PTs X [c] (tT (ctOf X) W t) := pts_one h
/-- the reading of a comprehension: Mk what is made of the accumulator at the end -/
theorem comp_read {C : Ct} {W Wi : XW} {Acc : MS → Addr → List PyData → Prop} {lim : Nat} {o0 : Addr → HO} {fi : Fi} {g : Fg} {t : Ft} {b : Fc} {us vs : List Nat} {σ : LSt} {Q : VK} {m : MS} {env : MEnv} (hA : AccOk Acc)
    (h0 : ∀ m D, D ∈ m.X → m.H D = some (o0 D) → Acc m D []) (hu : ∀ i ∈ us, i ∈ vs) (s : SR C m) (er : ER C m σ env) {ds : List PyData} {S' : Store} (hc : cF vs fi g t b env m.S = .ok ds S') (hl : ds.length ≤ lim)
    (fin : ∀ D m', m'.S = S' → SR C m' → (∃ m0, m0.X = m.X ∧ m0.H D = none ∧ Grow m m0 ∧ m'.X = D :: m.X ∧ GrowW m0 m' ∧ ∀ a ∈ m.X, m'.H a = m.H a) → Acc m' D ds → Q (.ref D) m'.H) :
    tComp (tI C W fi) (tG C g us) (tT C Wi t) (emC C Acc lim b) vs o0 σ m.H Q := by
  simp only [cF] at hc
  refine ⟨m, env, rfl, s, er, ?_⟩
  cases hi : fi env m.S with
  | bad => rw [hi] at hc; cases hc
  | exc y S => rw [hi] at hc; cases hc
  | ok w S1 =>
    rw [hi] at hc
    simp only [bind_ok] at hc
    intro J m1 e1 s1 g1 ⟨k1, st⟩ D nD
    subst e1
    let m2 : MS := ⟨upd m1.H D (o0 D), m1.L, m1.S, D :: m1.X⟩
    have hout := s1.out nD
    have hA2 : ∀ a, a ∈ m2.A ↔ a = D ∨ a ∈ m1.A := fun a => by
      show a ∈ lv m1.L m1.S ++ D :: m1.X ↔ a = D ∨ a ∈ lv m1.L m1.S ++ m1.X
      simp only [List.mem_append, List.mem_cons]
      exact ⟨fun h => by rcases h with h | h | h; exact .inr (.inl h); exact .inl h; exact .inr (.inr h), fun h => by rcases h with h | h | h; exact .inr (.inl h); exact .inl h; exact .inr (.inr h)⟩
    have hG : m2.G = m1.G := by
      funext a
      show pur (upd m1.H D (o0 D)) m2.A a = pur m1.H m1.A a
      by_cases ha : a = D
      · subst ha
        rw [pur_in ((hA2 a).mpr (.inl rfl)), pur_out hout, nD]
      · by_cases hm : a ∈ m1.A
        · rw [pur_in ((hA2 a).mpr (.inr hm)), pur_in hm]
        · rw [pur_out fun z => (((hA2 a).mp z).elim ha hm), pur_out hm, upd_ne ha]
    have s2 : SR C m2 := by
      refine ⟨s1.len, ?_, fun i c e => ?_, fun a ha => ?_⟩
      · show (lv m1.L m1.S ++ D :: m1.X).Nodup
        have h1 : (lv m1.L m1.S ++ m1.X).Nodup := s1.inj
        have h2 : D ∉ lv m1.L m1.S ++ m1.X := hout
        rw [List.nodup_append] at h1 ⊢
        obtain ⟨a1, a2, a3⟩ := h1
        simp only [List.mem_append, not_or] at h2
        refine ⟨a1, List.nodup_cons.mpr ⟨h2.2, a2⟩, fun a ha b hb q => ?_⟩
        rcases List.mem_cons.mp hb with hb | hb
        · rw [q, hb] at ha
          exact h2.1 ha
        · exact a3 a ha b hb q
      · obtain ⟨a, hl, q⟩ := s1.cell i c e
        rw [hG]
        refine ⟨a, hl, q.sub Sub.refl fun o' h' => ?_⟩
        show upd m1.H D (o0 D) a = some o'
        rw [upd_ne (ne_of_none h' nD)]
        exact h'
      · rcases List.mem_cons.mp (show a ∈ D :: m1.X from ha) with ha | ha
        · subst ha
          exact ⟨o0 a, upd_same⟩
        · obtain ⟨o', h'⟩ := s1.hid a ha
          exact ⟨o', by show upd m1.H D (o0 D) a = some o'; rw [upd_ne (ne_of_none h' nD)]; exact h'⟩
    have g12 : GrowW m1 m2 := ⟨List.prefix_refl _, by rw [hG]; exact Sub.refl⟩
    have hD2 : D ∈ m2.X := List.mem_cons_self
    refine at_turn hA st g12 k1 s2 hD2 (((er.grow g1).growW g12).wipe vs) (h0 m2 D hD2 upd_same) hc (by simpa using hl) hu fun m' e s' g' a' => ?_
    refine fin D m' e s' ⟨m1, g1.hX, nD, g1, g'.hX.trans (by show D :: m1.X = _; rw [g1.hX]), g12.trans g'.w, fun a ha => ?_⟩ (by simpa using a')
    have ha1 : a ∈ m1.X := by rw [g1.hX]; exact ha
    obtain ⟨o', h'⟩ := s1.hid a ha1
    have ne : a ≠ D := ne_of_none h' nD
    rw [g'.hid a (List.mem_cons_of_mem _ ha1) ne]
    show upd m1.H D (o0 D) a = _
    rw [upd_ne ne, g1.hid a ha]
/-- what was made is put among what is never changed -/
theorem SR.done {C : Ct} {m m' : MS} {D : Addr} (s' : SR C m') (hX : m'.X = D :: m.X) (g : GrowW m m') (hid : ∀ a ∈ m.X, m'.H a = m.H a) :
    SR C ⟨m'.H, m'.L, m'.S, m.X⟩ ∧ Grow m ⟨m'.H, m'.L, m'.S, m.X⟩ ∧ (MS.mk m'.H m'.L m'.S m.X).G D = m'.H D ∧ Sub m'.G (MS.mk m'.H m'.L m'.S m.X).G := by
  have hn : (lv m'.L m'.S ++ D :: m.X).Nodup := by
    have := s'.inj
    unfold MS.A at this
    rw [hX] at this
    exact this
  have hn' := List.nodup_append.mp hn
  obtain ⟨a1, a2⟩ := s'.forget (m' := ⟨m'.H, m'.L, m'.S, m.X⟩) rfl s'.len (List.nodup_append.mpr ⟨hn'.1, (List.nodup_cons.mp hn'.2.1).2, fun a ha b hb => hn'.2.2 a ha b (List.mem_cons_of_mem _ hb)⟩) (fun a ha => by
      show a ∈ lv m'.L m'.S ++ m'.X
      rw [hX]
      rcases List.mem_append.mp (show a ∈ lv m'.L m'.S ++ m.X from ha) with h | h
      · exact List.mem_append_left _ h
      · exact List.mem_append_right _ (List.mem_cons_of_mem _ h)) (fun a ha => by rw [hX]; exact List.mem_cons_of_mem _ ha) fun i c h => ⟨h, rfl⟩
  refine ⟨a1, ⟨g.pre, g.sub.trans a2, rfl, hid⟩, ?_, a2⟩
  show pur m'.H (lv m'.L m'.S ++ m.X) D = m'.H D
  refine pur_out fun h => ?_
  rcases List.mem_append.mp h with h | h
  · exact hn'.2.2 D h D List.mem_cons_self rfl
  · exact (List.nodup_cons.mp hn'.2.1).1 h
theorem lc_read {C : Ct} {W Wi : XW} {fi : Fi} {g : Fg} {t : Ft} {b : Fc} {us vs : List Nat} {σ : LSt} {H : Hp} {Q : VK} (hu : ∀ i ∈ us, i ∈ vs) (h : tE C W (eLc (cF vs fi g t b)) σ H Q) :
    tComp (tI C W fi) (tG C g us) (tT C Wi t) (emC C (AccL C.K) lineN b) vs (fun _ => .lst []) σ H Q := by
  obtain ⟨m, env, rfl, s, er, o⟩ := h
  simp only [eLc] at o
  cases hc : cF vs fi g t b env m.S with
  | bad => rw [hc] at o; exact o.elim
  | exc y S => rw [hc] at o; exact o.elim
  | ok ds S' =>
    rw [hc] at o
    simp only [noX_ok, bind_ok] at o
    by_cases z : ds.length ≤ lineN
    · rw [if_pos z] at o
      refine comp_read accL (fun m D _ e => ⟨[], e, .nil⟩) hu s er hc z fun D m' e s' ⟨m0, e0, n0, g0, eX, gw, hh⟩ ⟨xs, eD, r⟩ => ?_
      obtain ⟨q1, q2, q3, q4⟩ := s'.done (m := m) (D := D) eX (g0.w.trans gw) hh
      exact o (.ref D) ⟨m'.H, m'.L, m'.S, m.X⟩ e q1 q2 (.lst (.of (q3.trans eD)) (by rw [r.length, line_eq]; exact z) (r.sub q4))
    · rw [if_neg z] at o
      exact o.elim
/-- .. a list that will be changed -/
theorem lcC_read {C : Ct} {W Wi : XW} {fi : Fi} {g : Fg} {t : Ft} {b : Fc} {us vs : List Nat} {σ : LSt} {H : Hp} {Q : VK} (hu : ∀ i ∈ us, i ∈ vs) (h : tE C W (eLcC (cF vs fi g t b)) σ H Q) :
    tComp (tI C W fi) (tG C g us) (tT C Wi t) (emC C (AccL C.K) lineN b) vs (fun _ => .lst []) σ H Q := by
  obtain ⟨m, env, rfl, s, er, o⟩ := h
  simp only [eLcC] at o
  cases hc : cF vs fi g t b env m.S with
  | bad => rw [hc] at o; exact o.elim
  | exc y S => rw [hc] at o; exact o.elim
  | ok ds S' =>
    rw [hc] at o
    simp only [noX_ok, bind_ok] at o
    by_cases z : ds.length ≤ lineN
    · rw [if_pos z] at o
      refine comp_read accL (fun m D _ e => ⟨[], e, .nil⟩) hu s er hc z fun D m' e s' ⟨m0, e0, n0, g0, eX, gw, hh⟩ ⟨xs, eD, r⟩ => ?_
      have zx : xs.length ≤ sizeLine := by rw [r.length, line_eq]; exact z
      have hA : ∀ a, a ∈ lv (m'.L ++ [D]) (m'.S ++ [some (.lst ds)]) ++ m.X ↔ a ∈ m'.A := fun a => by
        rw [lv_snoc s'.len]
        show _ ↔ a ∈ lv m'.L m'.S ++ m'.X
        rw [eX]
        simp
      have hG : (MS.mk m'.H (m'.L ++ [D]) (m'.S ++ [some (.lst ds)]) m.X).G = m'.G := by
        funext a
        show pur m'.H (lv (m'.L ++ [D]) (m'.S ++ [some (.lst ds)]) ++ m.X) a = pur m'.H m'.A a
        by_cases ha : a ∈ m'.A
        · rw [pur_in ha, pur_in ((hA a).mpr ha)]
        · rw [pur_out ha, pur_out fun q => ha ((hA a).mp q)]
      have hn : (lv m'.L m'.S ++ D :: m.X).Nodup := by
        have := s'.inj
        unfold MS.A at this
        rw [eX] at this
        exact this
      have g2 : Grow m ⟨m'.H, m'.L ++ [D], m'.S ++ [some (.lst ds)], m.X⟩ :=
        ⟨(g0.pre.trans gw.pre).trans ⟨[D], rfl⟩, by rw [hG]; exact g0.sub.trans gw.sub, rfl, hh⟩
      have s2 : SR C ⟨m'.H, m'.L ++ [D], m'.S ++ [some (.lst ds)], m.X⟩ := by
        refine ⟨by simp [s'.len], ?_, fun i c e' => ?_, fun a ha => ?_⟩
        · show (lv (m'.L ++ [D]) (m'.S ++ [some (.lst ds)]) ++ m.X).Nodup
          rw [lv_snoc s'.len]
          simpa using hn
        · rw [hG]
          have e'' : (m'.S ++ [some (.lst ds)])[i]? = some (some c) := e'
          by_cases hi : i < m'.S.length
          · rw [List.getElem?_append_left hi] at e''
            obtain ⟨a, hl, q⟩ := s'.cell i c e''
            exact ⟨a, by show (m'.L ++ [D])[i]? = _; rw [List.getElem?_append_left (by rw [s'.len]; exact hi)]; exact hl, q⟩
          · have hlt := (List.getElem?_eq_some_iff.mp e'').1
            have hi' : i = m'.S.length := by simp at hlt; omega
            subst hi'
            rw [List.getElem?_append_right (Nat.le_refl _)] at e''
            simp at e''
            subst e''
            refine ⟨D, ?_, xs, eD, zx, r⟩
            show (m'.L ++ [D])[m'.S.length]? = some D
            rw [← s'.len, List.getElem?_append_right (Nat.le_refl _)]
            simp
        · exact s'.hid a (by rw [eX]; exact List.mem_cons_of_mem _ ha)
      refine o (.ref D) ⟨m'.H, m'.L ++ [D], m'.S ++ [some (.lst ds)], m.X⟩ (by show m'.S ++ _ = _; rw [e]) s2 g2 ⟨D, ?_, rfl⟩
      show (m'.L ++ [D])[S'.length]? = some D
      rw [← e, ← s'.len, List.getElem?_append_right (Nat.le_refl _)]
      simp
    · rw [if_neg z] at o
      exact o.elim
/-! the rules -/
variable {W0 : WX} {k : Nat} {elt t i t1 i1 : Expr} {ifs ifs1 : List Expr} {sc : Scope} {pos : Pos} {fe : Fe} {fi fi1 : Fi} {g g1 : Fg} {ft ft1 : Ft} {us us1 vs1 : List Nat} {own : List (Str × Nat)}
/-- a block's context -/
abbrev blkOf (X : Cx) (sc : Scope) (s : Shared) (H : Hp) (C : Addr) (cl : List (Str × Addr)) (fp : List Addr) : Cx := X.blk s H sc (compEnvC sc cl C X.env) fp
theorem Cxt.blk (c : Cxt X W0 k) (sc : Scope) (s : Shared) (H : Hp) (C : Addr) (cl : List (Str × Addr)) (fp : List Addr) : Cxt (blkOf X sc s H C cl fp) W0F k :=
  ⟨c.calm, c.gd, c.room, c.nd, fun u s' x => by
    obtain ⟨a, B, sI, pins, σ, H, cls, d, e, I, nb, up, sky, na, os, ag, w⟩ := x
    exact w, PassesOwn.never⟩
abbrev WB (X : Cx) : XW := wOf (ctOf X) W0F
/-- what stands in a clause of a comprehension -/
structure Cl1 (X : Cx) (sc : Scope) (k : Nat) (t : Expr) (ifs : List Expr) (g : Fg) (us : List Nat) (ft : Ft) : Prop where
  tg : ∀ s H C cl fp, Cxt (blkOf X sc s H C cl fp) W0F k → PG (blkOf X sc s H C cl fp) t (tG (ctOf X) g us)
  ts : ∀ s H C cl fp, Cxt (blkOf X sc s H C cl fp) W0F k → PTs (blkOf X sc s H C cl fp) ifs (tT (ctOf X) (WB X) ft)
theorem x_lc1 (c : Cxt X W0 k) (hi : PI X t i (tI (ctOf X) (wOf (ctOf X) W0) fi)) (ok : BlkOk X.N X.env.scope sc own) (cl : Cl1 X sc k t ifs g us ft)
    (he : ∀ s H C cl fp, Cxt (blkOf X sc s H C cl fp) W0F k → PE (blkOf X sc s H C cl fp) elt (tE (ctOf X) (WB X) fe)) (hu : ∀ j ∈ us, j ∈ own.map (·.2) := by decide)
    (hs : ∀ x, foldedSetIterable i X.env x = pure x := by intro _; rfl) :
    PE X (.ListComp elt [⟨t, i, ifs, 0⟩] sc pos) (tE (ctOf X) (wOf (ctOf X) W0) (eLc (cF (own.map (·.2)) fi g ft (cE fe)))) :=
  (pe_comp (comp_lst1 hs) c.calm c.nd hi ok makes_lst (fun s H C l fp => cl.tg s H C l fp (c.blk sc s H C l fp)) (fun s H C l fp => cl.ts s H C l fp (c.blk sc s H C l fp))
    (fun D s H C l fp => does_lst rfl (he s H C l fp (c.blk sc s H C l fp)))).imp fun _ _ _ h => lc_read hu h
theorem x_lc1C (c : Cxt X W0 k) (hi : PI X t i (tI (ctOf X) (wOf (ctOf X) W0) fi)) (ok : BlkOk X.N X.env.scope sc own) (cl : Cl1 X sc k t ifs g us ft)
    (he : ∀ s H C cl fp, Cxt (blkOf X sc s H C cl fp) W0F k → PE (blkOf X sc s H C cl fp) elt (tE (ctOf X) (WB X) fe)) (hu : ∀ j ∈ us, j ∈ own.map (·.2) := by decide)
    (hs : ∀ x, foldedSetIterable i X.env x = pure x := by intro _; rfl) :
    PE X (.ListComp elt [⟨t, i, ifs, 0⟩] sc pos) (tE (ctOf X) (wOf (ctOf X) W0) (eLcC (cF (own.map (·.2)) fi g ft (cE fe)))) :=
  (pe_comp (comp_lst1 hs) c.calm c.nd hi ok makes_lst (fun s H C l fp => cl.tg s H C l fp (c.blk sc s H C l fp)) (fun s H C l fp => cl.ts s H C l fp (c.blk sc s H C l fp))
    (fun D s H C l fp => does_lst rfl (he s H C l fp (c.blk sc s H C l fp)))).imp fun _ _ _ h => lcC_read hu h
theorem does2 (c : Cxt X W0 k) (hi1 : ∀ s H C cl fp, Cxt (blkOf X sc s H C cl fp) W0F k → PI (blkOf X sc s H C cl fp) t1 i1 (tI (ctOf X) (WB X) fi1)) (cl1 : Cl1 X sc k t1 ifs1 g1 us1 ft1)
    (he : ∀ s H C cl fp, Cxt (blkOf X sc s H C cl fp) W0F k → PE (blkOf X sc s H C cl fp) elt (tE (ctOf X) (WB X) fe)) (hu1 : ∀ j ∈ us1, j ∈ vs1) (hv : ∀ j ∈ vs1, j ∈ own.map (·.2))
    (hs1 : ∀ (env : Env) x, foldedSetIterable i1 env x = pure x) (D : Addr) (s : Shared) (H : Hp) (C : Addr) (l : List (Str × Addr)) (fp : List Addr) :
    Does (blkOf X sc s H C l fp) (innerOf (.ListComp elt [⟨t, i, ifs, 0⟩, ⟨t1, i1, ifs1, 0⟩] sc pos) i1 (.ref D) (compEnvC sc l C X.env)) (emC (ctOf X) (AccL X.K) lineN (cF vs1 fi1 g1 ft1 (cE fe)) D) (own.map (·.2)) := by
  have cb := c.blk sc s H C l fp
  have dd := does_inner (c := .ListComp elt [⟨t, i, ifs, 0⟩, ⟨t1, i1, ifs1, 0⟩] sc pos) (Y := blkOf X sc s H C l fp) (vs := own.map (·.2)) plain_lst begun_lst1 cb.calm rfl (fun it => turn_lst2) (hi1 s H C l fp cb) (cl1.tg s H C l fp cb) (cl1.ts s H C l fp cb)
    (does_lst (vs := vs1) (D := D) rfl (he s H C l fp cb)) hv (hs1 _)
  intro pins s' σ H' Nx I h
  exact dd pins s' σ H' Nx I (em_inner accL hu1 h)
theorem x_lc2 (c : Cxt X W0 k) (hi : PI X t i (tI (ctOf X) (wOf (ctOf X) W0) fi)) (ok : BlkOk X.N X.env.scope sc own) (cl : Cl1 X sc k t ifs g us ft)
    (hi1 : ∀ s H C cl fp, Cxt (blkOf X sc s H C cl fp) W0F k → PI (blkOf X sc s H C cl fp) t1 i1 (tI (ctOf X) (WB X) fi1)) (cl1 : Cl1 X sc k t1 ifs1 g1 us1 ft1)
    (he : ∀ s H C cl fp, Cxt (blkOf X sc s H C cl fp) W0F k → PE (blkOf X sc s H C cl fp) elt (tE (ctOf X) (WB X) fe)) (hu : ∀ j ∈ us, j ∈ own.map (·.2) := by decide) (hu1 : ∀ j ∈ us1, j ∈ vs1 := by decide) (hv : ∀ j ∈ vs1, j ∈ own.map (·.2) := by decide)
    (hs : ∀ x, foldedSetIterable i X.env x = pure x := by intro _; rfl) (hs1 : ∀ (env : Env) x, foldedSetIterable i1 env x = pure x := by intro _ _; rfl) :
    PE X (.ListComp elt [⟨t, i, ifs, 0⟩, ⟨t1, i1, ifs1, 0⟩] sc pos) (tE (ctOf X) (wOf (ctOf X) W0) (eLc (cF (own.map (·.2)) fi g ft (cF vs1 fi1 g1 ft1 (cE fe))))) :=
  (pe_comp (comp_lst2 hs) c.calm c.nd hi ok makes_lst (fun s H C l fp => cl.tg s H C l fp (c.blk sc s H C l fp)) (fun s H C l fp => cl.ts s H C l fp (c.blk sc s H C l fp))
    (does2 c hi1 cl1 he hu1 hv hs1)).imp fun _ _ _ h => lc_read hu h
/-- name = [..], on one line, the name a local -/
theorem s_lc1 (j : Nat) {y : Str} {py spos : Pos} (c : Cxt X W0 k) (hi : PI X t i (tI (ctOf X) (wOf (ctOf X) W0) fi)) (ok : BlkOk X.N X.env.scope sc own) (cl : Cl1 X sc k t ifs g us ft)
    (he : ∀ s H C cl fp, Cxt (blkOf X sc s H C cl fp) W0F k → PE (blkOf X sc s H C cl fp) elt (tE (ctOf X) (WB X) fe))
    (hsw : swapsWith (.ListComp elt [⟨t, i, ifs, 0⟩] sc pos) (some (.Name y py)) spos.line X.env = pure true := by exact sw_true rfl rfl rfl (by decide +kernel))
    (hu : ∀ j ∈ us, j ∈ own.map (·.2) := by decide) (hs : ∀ x, foldedSetIterable i X.env x = pure x := by intro _; rfl) (hy : X.N[j]? = some y := by rfl) (hyl : X.env.scope.names.lookup y = some .local := by rfl) :
    PS X (.Assign [.Name y py] (.ListComp elt [⟨t, i, ifs, 0⟩] sc pos) spos) (tS (ctOf X) (wOf (ctOf X) W0) (sG (eLc (cF (own.map (·.2)) fi g ft (cE fe))) (gN j))) := by
  refine (ps_comp (comp_lst1 hs) c.calm c.nd hy hyl hsw rfl hi ok makes_lst (fun s H C l fp => cl.tg s H C l fp (c.blk sc s H C l fp)) (fun s H C l fp => cl.ts s H C l fp (c.blk sc s H C l fp))
    (fun D s H C l fp => does_lst rfl (he s H C l fp (c.blk sc s H C l fp)))).imp fun D σ H h => lc_read hu ?_
  obtain ⟨m, env, rfl, s, er, o⟩ := h
  exact ⟨m, env, rfl, s, er, OutS.thenE er o fun u m1 v s1 g1 r1 o1 => o1 _ m1 rfl s1 Grow.refl ((er.grow g1).set r1 j)⟩
theorem s_lc1C (j : Nat) {y : Str} {py spos : Pos} (c : Cxt X W0 k) (hi : PI X t i (tI (ctOf X) (wOf (ctOf X) W0) fi)) (ok : BlkOk X.N X.env.scope sc own) (cl : Cl1 X sc k t ifs g us ft)
    (he : ∀ s H C cl fp, Cxt (blkOf X sc s H C cl fp) W0F k → PE (blkOf X sc s H C cl fp) elt (tE (ctOf X) (WB X) fe))
    (hsw : swapsWith (.ListComp elt [⟨t, i, ifs, 0⟩] sc pos) (some (.Name y py)) spos.line X.env = pure true := by exact sw_true rfl rfl rfl (by decide +kernel))
    (hu : ∀ j ∈ us, j ∈ own.map (·.2) := by decide) (hs : ∀ x, foldedSetIterable i X.env x = pure x := by intro _; rfl) (hy : X.N[j]? = some y := by rfl) (hyl : X.env.scope.names.lookup y = some .local := by rfl) :
    PS X (.Assign [.Name y py] (.ListComp elt [⟨t, i, ifs, 0⟩] sc pos) spos) (tS (ctOf X) (wOf (ctOf X) W0) (sG (eLcC (cF (own.map (·.2)) fi g ft (cE fe))) (gN j))) := by
  refine (ps_comp (comp_lst1 hs) c.calm c.nd hy hyl hsw rfl hi ok makes_lst (fun s H C l fp => cl.tg s H C l fp (c.blk sc s H C l fp)) (fun s H C l fp => cl.ts s H C l fp (c.blk sc s H C l fp))
    (fun D s H C l fp => does_lst rfl (he s H C l fp (c.blk sc s H C l fp)))).imp fun D σ H h => lcC_read hu ?_
  obtain ⟨m, env, rfl, s, er, o⟩ := h
  exact ⟨m, env, rfl, s, er, OutS.thenE er o fun u m1 v s1 g1 r1 o1 => o1 _ m1 rfl s1 Grow.refl ((er.grow g1).set r1 j)⟩
theorem s_lc2 (j : Nat) {y : Str} {py spos : Pos} (c : Cxt X W0 k) (hi : PI X t i (tI (ctOf X) (wOf (ctOf X) W0) fi)) (ok : BlkOk X.N X.env.scope sc own) (cl : Cl1 X sc k t ifs g us ft)
    (hi1 : ∀ s H C cl fp, Cxt (blkOf X sc s H C cl fp) W0F k → PI (blkOf X sc s H C cl fp) t1 i1 (tI (ctOf X) (WB X) fi1)) (cl1 : Cl1 X sc k t1 ifs1 g1 us1 ft1)
    (he : ∀ s H C cl fp, Cxt (blkOf X sc s H C cl fp) W0F k → PE (blkOf X sc s H C cl fp) elt (tE (ctOf X) (WB X) fe))
    (hsw : swapsWith (.ListComp elt [⟨t, i, ifs, 0⟩, ⟨t1, i1, ifs1, 0⟩] sc pos) (some (.Name y py)) spos.line X.env = pure true := by exact sw_true rfl rfl rfl (by decide +kernel))
    (hu : ∀ j ∈ us, j ∈ own.map (·.2) := by decide) (hu1 : ∀ j ∈ us1, j ∈ vs1 := by decide) (hv : ∀ j ∈ vs1, j ∈ own.map (·.2) := by decide)
    (hs : ∀ x, foldedSetIterable i X.env x = pure x := by intro _; rfl) (hs1 : ∀ (env : Env) x, foldedSetIterable i1 env x = pure x := by intro _ _; rfl)
    (hy : X.N[j]? = some y := by rfl) (hyl : X.env.scope.names.lookup y = some .local := by rfl) :
    PS X (.Assign [.Name y py] (.ListComp elt [⟨t, i, ifs, 0⟩, ⟨t1, i1, ifs1, 0⟩] sc pos) spos) (tS (ctOf X) (wOf (ctOf X) W0) (sG (eLc (cF (own.map (·.2)) fi g ft (cF vs1 fi1 g1 ft1 (cE fe)))) (gN j))) := by
  refine (ps_comp (comp_lst2 hs) c.calm c.nd hy hyl hsw rfl hi ok makes_lst (fun s H C l fp => cl.tg s H C l fp (c.blk sc s H C l fp)) (fun s H C l fp => cl.ts s H C l fp (c.blk sc s H C l fp))
    (does2 c hi1 cl1 he hu1 hv hs1)).imp fun D σ H h => lc_read hu ?_
  obtain ⟨m, env, rfl, s, er, o⟩ := h
  exact ⟨m, env, rfl, s, er, OutS.thenE er o fun u m1 v s1 g1 r1 o1 => o1 _ m1 rfl s1 Grow.refl ((er.grow g1).set r1 j)⟩
end
end Ev

set_option Elab.async false
set_option linter.all false
set_option maxRecDepth 100000
set_option maxHeartbeats 4000000
/-! the built-in operations keep what the mirror says of them -/
namespace Ev
open PySem PySem.Spec PyProof.Rows L2 Gx
section
variable {X : Cx} {C : Ct}
/-! data as the library reads it -/
mutual
theorem Rp.dp {K : PySem.W.Frag} {G : Hp} : ∀ {v : V} {d : PyData}, d.hasDict = false → Rp K G v d → Dp K G v d
  | _, _, _, .non => .non
  | _, _, _, .bl b => .bl b
  | _, _, _, .int i => .int i
  | _, _, _, .str x _ => .str x
  | _, .list ds, h, .lst q _ r => .lst q (RpAll.dp (by simpa [PyData.hasDict] using h) r)
  | _, .tuple ds, h, .tup q _ r => .tup q (RpAll.dp (by simpa [PyData.hasDict] using h) r)
  | _, .dict ds, h, .dct _ _ _ => by simp [PyData.hasDict] at h
theorem RpAll.dp {K : PySem.W.Frag} {G : Hp} : ∀ {vs : List V} {ds : List PyData}, PyData.hasDictAll ds = false → RpAll K G vs ds → DpAll K G vs ds
  | _, _, _, .nil => .nil
  | _, d :: ds, h, .cons q r => by
    simp only [PyData.hasDictAll, Bool.or_eq_false_iff] at h
    exact .cons (Rp.dp h.1 q) (RpAll.dp h.2 r)
end
theorem Vw.dp {K : PySem.W.Frag} {m : MS} {u : V} {d : PyData} (h : Vw K m u d) (hd : d.hasDict = false) : Dp K m.H u d := h.full.dp hd
theorem noDict_shaped {d : PyData} (h : SeqAt.shaped d = true) : d.hasDict = false := PyData.hasDict_of_canLay d (SeqAt.canLay_of_shaped h)
/-! comparisons -/
theorem o_eq {k : Nat} (hr : Room k X.A) : OpR X (compareOp .Eq) (rB2 (ctOf X) pEq) := by
  intro pins s σ H x y v u Q I rx ry h
  obtain ⟨m, c, d, r, rfl, sr, v1, v2, e, q⟩ := h
  unfold pEq at e
  split at e
  · rename_i hs
    cases e
    exact op_eqD hr.units pins s σ m.H x y v u Q I rx ry ⟨c, d, v1.dp (noDict_shaped hs.1), v2.dp (noDict_shaped hs.2), hs.1, hs.2, q⟩
  · cases e
theorem o_ne {k : Nat} (hr : Room k X.A) : OpR X (compareOp .NotEq) (rB2 (ctOf X) pNe) := by
  intro pins s σ H x y v u Q I rx ry h
  obtain ⟨m, c, d, r, rfl, sr, v1, v2, e, q⟩ := h
  unfold pNe at e
  split at e
  · rename_i hs
    cases e
    exact op_neD hr.units pins s σ m.H x y v u Q I rx ry ⟨c, d, v1.dp (noDict_shaped hs.1), v2.dp (noDict_shaped hs.2), hs.1, hs.2, q⟩
  · cases e
theorem o_lt : OpR X (compareOp .Lt) (rB2 (ctOf X) pLt) := by
  intro pins s σ H x y v u Q I rx ry h
  obtain ⟨m, c, d, r, rfl, sr, v1, v2, e, q⟩ := h
  cases c <;> cases d <;> first
    | (cases e; done)
    | (cases e; cases v1.int; cases v2.int; exact op_lt pins s σ m.H _ _ v u Q I rx ry ⟨_, _, rfl, rfl, q⟩)
    | (cases e; cases v1.str.1; cases v2.str.1; exact op_lt_str pins s σ m.H _ _ v u Q I rx ry ⟨_, _, rfl, rfl, q⟩)
theorem o_le : OpR X (compareOp .LtE) (rB2 (ctOf X) pLe) := by
  intro pins s σ H x y v u Q I rx ry h
  obtain ⟨m, c, d, r, rfl, sr, v1, v2, e, q⟩ := h
  cases c <;> cases d <;> first
    | (cases e; done)
    | (cases e; cases v1.int; cases v2.int; exact op_le pins s σ m.H _ _ v u Q I rx ry ⟨_, _, rfl, rfl, q⟩)
    | (cases e; cases v1.str.1; cases v2.str.1; exact op_le_str pins s σ m.H _ _ v u Q I rx ry ⟨_, _, rfl, rfl, q⟩)
theorem o_gt : OpR X (compareOp .Gt) (rB2 (ctOf X) pGt) := by
  intro pins s σ H x y v u Q I rx ry h
  obtain ⟨m, c, d, r, rfl, sr, v1, v2, e, q⟩ := h
  cases c <;> cases d <;> first
    | (cases e; done)
    | (cases e; cases v1.int; cases v2.int; exact op_gt pins s σ m.H _ _ v u Q I rx ry ⟨_, _, rfl, rfl, q⟩)
    | (cases e; cases v1.str.1; cases v2.str.1; exact op_gt_str pins s σ m.H _ _ v u Q I rx ry ⟨_, _, rfl, rfl, q⟩)
theorem o_ge : OpR X (compareOp .GtE) (rB2 (ctOf X) pGe) := by
  intro pins s σ H x y v u Q I rx ry h
  obtain ⟨m, c, d, r, rfl, sr, v1, v2, e, q⟩ := h
  cases c <;> cases d <;> first
    | (cases e; done)
    | (cases e; cases v1.int; cases v2.int; exact op_ge pins s σ m.H _ _ v u Q I rx ry ⟨_, _, rfl, rfl, q⟩)
    | (cases e; cases v1.str.1; cases v2.str.1; exact op_ge_str pins s σ m.H _ _ v u Q I rx ry ⟨_, _, rfl, rfl, q⟩)
/-! membership -/
theorem flat_rp {K : PySem.W.Frag} {G : Hp} {v : V} {d : PyData} (h : Rp K G v d) (f : flatD d = true) : flatV v = true := by
  cases h <;> first | rfl | cases f
theorem eqV_rp {K : PySem.W.Frag} {G G' : Hp} {v w : V} {d e : PyData} (h : Rp K G v d) (h' : Rp K G' w e) (f : flatD d = true) (f' : flatD e = true) : eqV v w = PyData.eqv d e := by
  cases h <;> first | (cases f; done) | (cases h' <;> first | (cases f'; done) | rfl)
theorem any_rp {K : PySem.W.Frag} {G G' : Hp} {w : V} {c : PyData} (h : Rp K G' w c) (f : flatD c = true) : ∀ {vs : List V} {ds : List PyData}, RpAll K G vs ds → ds.all flatD = true → vs.all flatV = true ∧ inV w vs = ds.any fun z => PyData.eqv z c
  | _, _, .nil, _ => ⟨rfl, rfl⟩
  | _, _, .cons q r, g => by
    simp only [List.all_cons, Bool.and_eq_true] at g
    obtain ⟨a, b⟩ := any_rp h f r g.2
    unfold inV at b ⊢
    exact ⟨by rw [List.all_cons, flat_rp q g.1, a]; rfl, by rw [List.any_cons, List.any_cons, eqV_rp q h g.1 f, b]⟩
theorem in_read {k : Nat} (hr : Room k X.A) {x y : V} {m : MS} {c d : PyData} {r : Bool} (v1 : Vw X.K m x c) (v2 : Vw X.K m y d) (e : pIn c d = some r) :
    (∃ (n : Nat) (z : Str), x = .str ⟨#[n]⟩ ∧ y = .str z ∧ r = decide (n ∈ z.cps.toList)) ∨
    (∃ p xs, y = .ref p ∧ (SqL X.K m.H p xs ∨ SqT X.K m.H p xs) ∧ flatV x = true ∧ xs.all flatV = true ∧ r = inV x xs) ∨
    (∃ ds, d = .list ds ∧ SeqAt.shaped c = true ∧ SeqAt.shaped (.list ds) = true ∧ r = ds.any fun z => PyData.eqv z c) := by
  cases d with
  | str z =>
    cases c with
    | str w =>
      obtain ⟨rfl, _⟩ := v1.str
      obtain ⟨rfl, _⟩ := v2.str
      simp only [pIn] at e
      split at e
      · rename_i n hn
        cases e
        refine .inl ⟨n, z, ?_, rfl, rfl⟩
        obtain ⟨cs⟩ := w
        have : cs = #[n] := by
          apply Array.toList_inj.mp
          exact hn
        rw [this]
      · cases e
    | _ => simp [pIn] at e
  | tuple ds =>
    obtain ⟨a, xs, rfl, sq, z, ra⟩ := v2.tup
    have e' : (if flatD c = true ∧ ds.all flatD = true then some (ds.any fun z => PyData.eqv z c) else none) = some r := by
      cases c <;> exact e
    split at e'
    · rename_i hf
      cases e'
      obtain ⟨q1, q2⟩ := any_rp v1.full hf.1 ra hf.2
      exact .inr (.inl ⟨a, xs, rfl, .inr sq, flat_rp v1.full hf.1, q1, q2.symm⟩)
    · cases e'
  | list ds =>
    have e' : (if flatD c = true ∧ ds.all flatD = true then some (ds.any fun z => PyData.eqv z c) else
      if SeqAt.shaped c = true ∧ SeqAt.shaped (.list ds) = true then some (ds.any fun z => PyData.eqv z c) else none) = some r := by
      cases c <;> exact e
    split at e'
    · rename_i hf
      cases e'
      obtain ⟨a, xs, rfl, sq, z, ra⟩ := v2.lst
      obtain ⟨q1, q2⟩ := any_rp v1.full hf.1 ra hf.2
      exact .inr (.inl ⟨a, xs, rfl, .inl sq, flat_rp v1.full hf.1, q1, q2.symm⟩)
    · split at e'
      · rename_i hs
        cases e'
        exact .inr (.inr ⟨ds, rfl, hs.1, hs.2, rfl⟩)
      · cases e'
  | none => cases c <;> cases e
  | bool _ => cases c <;> cases e
  | int _ => cases c <;> cases e
  | dict _ => cases c <;> cases e
theorem o_in {k : Nat} (hr : Room k X.A) : OpR X (compareOp .In) (rB2 (ctOf X) pIn) := by
  intro pins s σ H x y v u Q I rx ry h
  obtain ⟨m, c, d, r, rfl, sr, v1, v2, e, q⟩ := h
  rcases in_read hr v1 v2 e with ⟨n, z, rfl, rfl, rfl⟩ | ⟨p, xs, rfl, sq, f1, f2, rfl⟩ | ⟨ds, rfl, s1, s2, rfl⟩
  · exact op_in_sign pins s σ m.H _ _ v u Q I rx ry ⟨n, z, rfl, rfl, q⟩
  · exact op_in_seq pins s σ m.H _ _ v u Q I rx ry ⟨p, xs, rfl, sq, f1, f2, q⟩
  · exact op_inD (by have := hr.un; omega) pins s σ m.H _ _ v u Q I rx ry ⟨c, ds, v1.dp (noDict_shaped s1), v2.dp (noDict_shaped s2), s1, s2, q⟩
theorem o_notin {k : Nat} (hr : Room k X.A) : OpR X (compareOp .NotIn) (rB2 (ctOf X) pNotIn) := by
  intro pins s σ H x y v u Q I rx ry h
  obtain ⟨m, c, d, r, rfl, sr, v1, v2, e, q⟩ := h
  obtain ⟨r', e', rfl⟩ := Option.map_eq_some_iff.mp e
  rcases in_read hr v1 v2 e' with ⟨n, z, rfl, rfl, rfl⟩ | ⟨p, xs, rfl, sq, f1, f2, rfl⟩ | ⟨ds, rfl, s1, s2, rfl⟩
  · exact op_notIn_sign pins s σ m.H _ _ v u Q I rx ry ⟨n, z, rfl, rfl, q⟩
  · exact op_notIn_seq pins s σ m.H _ _ v u Q I rx ry ⟨p, xs, rfl, sq, f1, f2, q⟩
  · exact op_notInD (by have := hr.un; omega) pins s σ m.H _ _ v u Q I rx ry ⟨c, ds, v1.dp (noDict_shaped s1), v2.dp (noDict_shaped s2), s1, s2, q⟩
/-! is -/
theorem o_is : OpR X (compareOp .Is) (rB2 (ctOf X) pIsN) := by
  intro pins s σ H x y v u Q I rx ry h
  obtain ⟨m, c, d, r, rfl, sr, v1, v2, e, q⟩ := h
  cases d with
  | none =>
    cases v2.non
    cases e
    refine op_isN pins s σ m.H _ _ v u Q I rx ry ⟨rfl, ?_⟩
    have : decide (x = V.non) = isNone c := by
      cases v1.full <;> rfl
    rw [this]
    exact q
  | bool b =>
    cases c with
    | bool a =>
      cases v2.bl
      cases v1.bl
      cases e
      exact op_is_bl pins s σ m.H _ _ v u Q I rx ry ⟨a, b, rfl, rfl, q⟩
    | _ => cases e
  | _ => cases e
theorem o_isnot : OpR X (compareOp .IsNot) (rB2 (ctOf X) pNotN) := by
  intro pins s σ H x y v u Q I rx ry h
  obtain ⟨m, c, d, r, rfl, sr, v1, v2, e, q⟩ := h
  obtain ⟨r', e', rfl⟩ := Option.map_eq_some_iff.mp e
  cases d with
  | none =>
    cases v2.non
    cases e'
    refine op_notN pins s σ m.H _ _ v u Q I rx ry ⟨rfl, ?_⟩
    have : decide (x = V.non) = isNone c := by
      cases v1.full <;> rfl
    rw [this]
    exact q
  | bool b =>
    cases c with
    | bool a =>
      cases v2.bl
      cases v1.bl
      cases e'
      exact op_isnot_bl pins s σ m.H _ _ v u Q I rx ry ⟨a, b, rfl, rfl, q⟩
    | _ => cases e'
  | _ => cases e'
/-! arithmetic -/
theorem o_sub : OpR X (binaryOp .Sub) (rD2 (ctOf X) pSub) := by
  intro pins s σ H x y v u Q I rx ry h
  obtain ⟨m, c, d, r, rfl, sr, v1, v2, e, q⟩ := h
  cases c <;> cases d <;> first
    | (cases e; done)
    | (cases e; cases v1.int; cases v2.int; exact op_sub pins s σ m.H _ _ v u Q I rx ry ⟨_, _, rfl, rfl, q.now (.int _)⟩)
theorem o_mul : OpR X (binaryOp .Mult) (rD2 (ctOf X) pMul) := by
  intro pins s σ H x y v u Q I rx ry h
  obtain ⟨m, c, d, r, rfl, sr, v1, v2, e, q⟩ := h
  cases c <;> cases d <;> first
    | (cases e; done)
    | (simp only [pMul] at e
       split at e
       · rename_i hm
         cases e; cases v1.int; cases v2.int
         have hm' := of_decide_eq_true (show decide _ = true from hm)
         exact op_mul pins s σ m.H _ _ v u Q I rx ry ⟨_, _, rfl, rfl, hm', q.now (.int _)⟩
       · cases e)
theorem o_mod : OpR X (binaryOp .Mod) (rD2 (ctOf X) pMod) := by
  intro pins s σ H x y v u Q I rx ry h
  obtain ⟨m, c, d, r, rfl, sr, v1, v2, e, q⟩ := h
  cases c <;> cases d <;> first
    | (cases e; done)
    | (simp only [pMod] at e
       split at e
       · rename_i hm
         cases e; cases v1.int; cases v2.int
         exact op_mod pins s σ m.H _ _ v u Q I rx ry ⟨_, _, rfl, rfl, hm, q.now (.int _)⟩
       · cases e)
theorem o_fdiv : OpR X (binaryOp .FloorDiv) (rD2 (ctOf X) pFdiv) := by
  intro pins s σ H x y v u Q I rx ry h
  obtain ⟨m, c, d, r, rfl, sr, v1, v2, e, q⟩ := h
  cases c <;> cases d <;> first
    | (cases e; done)
    | (simp only [pFdiv] at e
       split at e
       · rename_i hm
         cases e; cases v1.int; cases v2.int
         exact op_fdiv pins s σ m.H _ _ v u Q I rx ry ⟨_, _, rfl, rfl, hm, q.now (.int _)⟩
       · cases e)
theorem o_pow : OpR X (binaryOp .Pow) (rD2 (ctOf X) pPow) := by
  intro pins s σ H x y v u Q I rx ry h
  obtain ⟨m, c, d, r, rfl, sr, v1, v2, e, q⟩ := h
  cases c <;> cases d <;> first
    | (cases e; done)
    | (simp only [pPow] at e
       split at e
       · rename_i hm
         cases e; cases v1.int; cases v2.int
         exact op_pow pins s σ m.H _ _ v u Q I rx ry ⟨_, _, rfl, rfl, hm, q.now (.int _)⟩
       · cases e)
theorem o_neg : UnR X (unaryOp .USub) (rD1 (ctOf X) pNeg) := by
  intro pins s σ H x v Q I rx h
  obtain ⟨m, c, r, rfl, sr, v1, e, q⟩ := h
  cases c <;> first
    | (cases e; done)
    | (cases e; cases v1.int; exact un_neg pins s σ m.H _ v Q I rx ⟨_, rfl, q.now (.int _)⟩)
/-- list + list -/
theorem op_catL : OpR X (binaryOp .Add) (fun x y H Q => ∃ l b xs zs, x = .ref l ∧ y = .ref b ∧ SqL X.K H l xs ∧ SqL X.K H b zs ∧ xs.length + zs.length ≤ sizeLine ∧ ∀ p, H p = none → Q (.ref p) (upd H p (.lst (xs ++ zs)))) := by
  intro pins s σ H x y v u Q I rx ry h
  obtain ⟨l, b, xs, zs, rfl, rfl, hH, hB, hz, q⟩ := h
  cases rx
  cases ry
  obtain ⟨its, r, ⟨⟨cls, dd, data, sl⟩, n, e, c1, c2, c3⟩, _⟩ := I.list hH
  obtain ⟨its2, r2, ⟨⟨cls2, dd2, data2, sl2⟩, n2, e2, d1, d2, d3⟩, _⟩ := I.list hB
  simp only at c1 c2 c3 d1 d2 d3
  subst c1 c2 c3 d1 d2 d3
  have hl := r.length
  have hl2 := r2.length
  have ea : its.toArray ++ its2.toArray = (its ++ its2).toArray := by simp
  refine concat_meets ⟨_, e, rfl⟩ ⟨_, e2, rfl⟩ noFill_list_add seq_list_add PySem.F.slot_list_add PySem.F.entry_list_add (PySem.F.args_list_add_2 _ _) (list_addW l b its.toArray its2.toArray n n2 none none sl sl2 (by simp; omega)) ⟨e, e2, ?_⟩
  rw [ea]
  exact ⟨.ref _, _, I.lnew (t' := s.toks) (r.append r2) (by rw [List.length_append]; omega), rfl, q _ I.fresh⟩
theorem o_add : OpR X (binaryOp .Add) (rD2 (ctOf X) pAdd) := by
  intro pins s σ H x y v u Q I rx ry h
  obtain ⟨m, c, d, r, rfl, sr, v1, v2, e, q⟩ := h
  cases c <;> cases d <;> try (cases e; done)
  case int.int i j =>
    cases e; cases v1.int; cases v2.int
    exact op_add pins s σ m.H _ _ v u Q I rx ry ⟨_, _, rfl, rfl, q.now (.int _)⟩
  case str.str i j =>
    simp only [pAdd] at e
    split at e
    · rename_i hz
      cases e; cases v1.str.1; cases v2.str.1
      rw [← line_eq] at hz
      refine op_add_str pins s σ m.H _ _ v u Q I rx ry ⟨_, _, rfl, rfl, hz, q.now (.str _ ?_)⟩
      have : (i ++ j).length = i.length + j.length := strLen_append i j
      omega
    · cases e
  case tuple.tuple xs ys =>
    simp only [pAdd] at e
    split at e
    · rename_i hz
      cases e
      rw [← line_eq] at hz
      have w1 := v1
      have w2 := v2
      obtain ⟨a, as, rfl, sa, za, ra⟩ := v1.tup
      obtain ⟨b, bs, rfl, sb, zb, rb⟩ := v2.tup
      have la := ra.length
      have lb := rb.length
      have p1 : Rp X.K m.G (.ref a) (.tuple xs) := by cases w1 with | p h => exact h
      have p2 : Rp X.K m.G (.ref b) (.tuple ys) := by cases w2 with | p h => exact h
      refine op_catA pins s σ m.H _ _ v u Q I rx ry ⟨a, b, as, bs, rfl, rfl, sa, sb, by omega, fun e0 => ?_, fun _ e0 => ?_, fun _ _ p np => ?_⟩
      · subst e0
        cases ra
        exact q.now p2
      · subst e0
        cases rb
        rw [List.append_nil] at q
        exact q.now p1
      · exact q (.ref p) _ (same_new np) (sr.newT np (by rw [List.length_append]; omega) (ra.append rb))
    · cases e
  case list.list xs ys =>
    simp only [pAdd] at e
    split at e
    · rename_i hz
      cases e
      rw [← line_eq] at hz
      obtain ⟨a, as, rfl, sa, za, ra⟩ := v1.lst
      obtain ⟨b, bs, rfl, sb, zb, rb⟩ := v2.lst
      have la := ra.length
      have lb := rb.length
      refine op_catL pins s σ m.H _ _ v u Q I rx ry ⟨a, b, as, bs, rfl, rfl, sa, sb, by omega, fun p np => ?_⟩
      exact q (.ref p) _ (same_new np) (sr.newL np (by rw [List.length_append]; omega) (ra.append rb))
    · cases e
/-! calls of built-ins with data -/
def rC1 (C : Ct) (g : PyData → Option PyData) : List V → Hp → VK → Prop := fun xs H Q => ∃ x, xs = [x] ∧ rD1 C g x H Q
def rC2 (C : Ct) (g : PyData → PyData → Option PyData) : List V → Hp → VK → Prop := fun xs H Q => ∃ x y, xs = [x, y] ∧ rD2 C g x y H Q
variable {W : XW} {x : Str} {p pos : Pos} {a b : Expr} {fa fb : Fe} {id T : String}
theorem readC1 {g : PyData → Option PyData} {σ : LSt} {H : Hp} {Q : VK} (h : tE (ctOf X) W (e1 g fa) σ H Q) : tCB (rC1 (ctOf X) g) (tCons (tE (ctOf X) W fa) tNil) σ H Q := by
  obtain ⟨m, env, rfl, s, er, o⟩ := h
  refine ⟨m, env, rfl, s, er, o.bind fun x m1 v s1 g1 r1 o1 => ⟨x, rfl, ?_⟩⟩
  obtain ⟨d, e, o3⟩ := o1.opt
  obtain ⟨p, e1, e⟩ := Option.bind_eq_some_iff.mp e
  exact ⟨m1, p, d, rfl, s1, s1.view r1 e1, e, out_ans s1 o3⟩
theorem readC2 {g : PyData → PyData → Option PyData} {σ : LSt} {H : Hp} {Q : VK} (h : tE (ctOf X) W (e2 g fa fb) σ H Q) : tCB (rC2 (ctOf X) g) (tCons (tE (ctOf X) W fa) (tCons (tE (ctOf X) W fb) tNil)) σ H Q := by
  obtain ⟨m, env, rfl, s, er, o⟩ := read2 h
  refine ⟨m, env, rfl, s, er, ?_⟩
  revert o
  cases fa env m.S with
  | ok v S =>
    intro o u m' e s g r
    obtain ⟨m2, env2, e2, s2, er2, o2⟩ := o u m' e s g r
    refine ⟨m2, env2, e2, s2, er2, ?_⟩
    revert o2
    cases fb env2 m2.S with
    | ok v S => exact fun o2 u m' e s g r => ⟨_, _, rfl, o2 u m' e s g r⟩
    | exc x S => exact fun o2 => o2
    | bad => exact fun o2 => o2
  | exc x S => exact fun o => o
  | bad => exact fun o => o
/-- f(a), f a built-in function; T(a), T a built-in type; f(a, b) -/
theorem x_b1 {g : PyData → Option PyData} (hc : CallR X (.builtin id) (rC1 (ctOf X) g)) (ha : PE X a (tE (ctOf X) W fa)) (hm : X.mg x = none) (hv : bootBuiltins x = some (.builtin id)) (hg : Gl X x := by rfl) (hn : x ≠ "__name__" := by decide)
    (hdb : (x == ("__debug__" : Str)) = false := by decide) (hs : starEach [a] X.env = [(false, eval a X.env)] := by rfl) : PE X (.Call (.Name x p) [a] [] pos) (tE (ctOf X) W (e1 g fa)) :=
  (pe_callB hc hg hm hv (pa_cons ha pa_nil hs) hn hdb hs rfl).imp fun _ _ _ => readC1
theorem x_t1 {g : PyData → Option PyData} (hc : CallR X (.type T) (rC1 (ctOf X) g)) (ha : PE X a (tE (ctOf X) W fa)) (hm : X.mg x = none) (hv : bootBuiltins x = some (.type T)) (hg : Gl X x := by rfl) (hn : x ≠ "__name__" := by decide)
    (hdb : (x == ("__debug__" : Str)) = false := by decide) (hs : starEach [a] X.env = [(false, eval a X.env)] := by rfl) : PE X (.Call (.Name x p) [a] [] pos) (tE (ctOf X) W (e1 g fa)) :=
  (pe_callTy hc hg hm hv (pa_cons ha pa_nil hs) hn hdb hs rfl).imp fun _ _ _ => readC1
theorem x_b2 {g : PyData → PyData → Option PyData} (hc : CallR X (.builtin id) (rC2 (ctOf X) g)) (ha : PE X a (tE (ctOf X) W fa)) (hb : PE X b (tE (ctOf X) W fb)) (hm : X.mg x = none) (hv : bootBuiltins x = some (.builtin id)) (hg : Gl X x := by rfl)
    (hn : x ≠ "__name__" := by decide) (hdb : (x == ("__debug__" : Str)) = false := by decide) (hs : starEach [b] X.env = [(false, eval b X.env)] := by rfl) (hs2 : starEach [a, b] X.env = (false, eval a X.env) :: starEach [b] X.env := by rfl)
    (hpl : (backTo pos (starEach [b] X.env)).any (·.1) = false := by rfl) :
    PE X (.Call (.Name x p) [a, b] [] pos) (tE (ctOf X) W (e2 g fa fb)) :=
  (pe_callB hc hg hm hv (pa_cons ha (pa_cons hb pa_nil hs) hs2) hn hdb hs2 hpl).imp fun _ _ _ => readC2
/-! isinstance(x, T) -/
theorem Rp.tyx {K : PySem.W.Frag} {H : Hp} {u : V} {d : PyData} (h : Rp K H u d) : TyX K H u (.type (tyD d)) := by
  cases h with
  | non => exact .base .non
  | bl b => exact .base (.bl b)
  | int i => exact .base (.int i)
  | str x z => exact .base (.str x)
  | lst q z r =>
    rcases q with (q | ⟨o, q⟩) | q
    · exact .base (.lst q)
    · exact .base (.frz q)
    · obtain ⟨o, _, _, e, c, _⟩ := q
      exact .kList e c
  | tup q z r =>
    rcases q with (q | ⟨o, q⟩) | q
    · exact .base (.tup q)
    · exact .fTuple q
    · obtain ⟨o, _, _, e, c, _⟩ := q
      exact .kTuple e c
  | dct q z r =>
    rcases q with q | ⟨o, q⟩
    · exact .base (.dK q)
    · exact .fDict q
theorem kit_D (t : String) (d : PyData) {K : PySem.W.Frag} (ht : t ∈ ["int", "bool", "str", "list", "tuple", "dict"]) : PySem.W.kitOne K (.type (tyD d)) (.type t) = some (isiB d t) := by
  simp only [List.mem_cons, List.not_mem_nil, or_false] at ht
  rcases ht with rfl | rfl | rfl | rfl | rfl | rfl <;> cases d <;> (refine kit_ty ?_; simp only [tyD, isiB]; decide +kernel)
def rIsi1 (C : Ct) (t : String) : List V → Hp → VK → Prop := fun xs H Q => ∃ x, xs = [x, .ty t] ∧ rD1 C (pIsi t) x H Q
theorem c_isi {t : String} (ht : t ∈ ["int", "bool", "str", "list", "tuple", "dict"]) : CallR X (.builtin "isinstance") (rIsi1 (ctOf X) t) := by
  intro pins s σ H xs us Q I rs h
  obtain ⟨x, rfl, m, c, r, rfl, sr, v1, e, q⟩ := h
  cases e
  exact call_isi pins s σ m.H _ us Q I rs ⟨x, .ty t, _, _, _, rfl, .ty _, v1.full.tyx, kit_D t c ht, q.now (.bl _)⟩
theorem readIsi {t : String} {σ : LSt} {H : Hp} {Q : VK} (h : tE (ctOf X) W (e1 (pIsi t) fa) σ H Q) : tCB (rIsi1 (ctOf X) t) (tCons (tE (ctOf X) W fa) (tCons (tC (.ty t)) tNil)) σ H Q := by
  obtain ⟨m, env, rfl, s, er, o⟩ := h
  refine ⟨m, env, rfl, s, er, o.bind fun x m1 v s1 g1 r1 o1 => ⟨x, rfl, ?_⟩⟩
  obtain ⟨d, e, o3⟩ := o1.opt
  obtain ⟨p, e1, e⟩ := Option.bind_eq_some_iff.mp e
  exact ⟨m1, p, d, rfl, s1, s1.view r1 e1, e, out_ans s1 o3⟩
/-- isinstance(a, T) -/
theorem x_isi (t : String) {y : Str} {py : Pos} (ha : PE X a (tE (ctOf X) W fa)) (hm : X.mg "isinstance" = none) (hy : X.mg y = none) (hb : bootBuiltins y = some (.type t)) (ht : t ∈ ["int", "bool", "str", "list", "tuple", "dict"] := by decide)
    (hg : Gl X "isinstance" := by rfl) (hgy : Gl X y := by rfl) (hny : y ≠ "__name__" := by decide) (hdy : (y == ("__debug__" : Str)) = false := by decide)
    (hs : starEach [a, .Name y py] X.env = (false, eval a X.env) :: starEach [.Name y py] X.env := by rfl) :
    PE X (.Call (.Name "isinstance" p) [a, .Name y py] [] pos) (tE (ctOf X) W (e1 (pIsi t) fa)) :=
  (pe_callB (c_isi ht) hg hm (by decide +kernel) (pa_cons ha (pa_cons (pe_bltn (v := .ty t) hgy hy hb rfl hny hdy) pa_nil rfl) hs) (by decide) (by decide) hs rfl).imp fun _ _ _ => readIsi
/-! len, all, any, sum, .. -/
theorem c_len : CallR X (.builtin "len") (rC1 (ctOf X) pLen) := by
  intro pins s σ H xs us Q I rs h
  obtain ⟨x, rfl, m, c, r, rfl, sr, v1, e, q⟩ := h
  cases c <;> try (cases e; done)
  case str z =>
    cases e
    obtain ⟨rfl, hz⟩ := v1.str
    exact call_len_str pins s σ m.H _ us Q I rs ⟨z, rfl, hz, q.now (.int _)⟩
  case list ds =>
    cases e
    obtain ⟨a, as, rfl, sq, hz, ra⟩ := v1.lst
    refine call_len_seq pins s σ m.H _ us Q I rs ⟨a, as, rfl, .inl sq, ?_⟩
    rw [ra.length]
    exact q.now (.int _)
  case tuple ds =>
    cases e
    obtain ⟨a, as, rfl, sq, hz, ra⟩ := v1.tup
    refine call_len_seq pins s σ m.H _ us Q I rs ⟨a, as, rfl, .inr sq, ?_⟩
    rw [ra.length]
    exact q.now (.int _)
theorem bools_rp {K : PySem.W.Frag} {G : Hp} : ∀ {ds : List PyData} {bs : List Bool} {vs : List V}, boolsD ds = some bs → RpAll K G vs ds → vs = bs.map V.bl
  | [], bs, _, e, .nil => by cases e; rfl
  | .bool b :: ds, bs, _, e, .cons h r => by
    obtain ⟨bs', e', rfl⟩ := Option.map_eq_some_iff.mp e
    rw [List.map_cons, h.bl_inv, bools_rp e' r]
  | .none :: _, _, _, e, _ => by cases e
  | .int _ :: _, _, _, e, _ => by cases e
  | .str _ :: _, _, _, e, _ => by cases e
  | .list _ :: _, _, _, e, _ => by cases e
  | .tuple _ :: _, _, _, e, _ => by cases e
  | .dict _ :: _, _, _, e, _ => by cases e
theorem ints_rp {K : PySem.W.Frag} {G : Hp} : ∀ {ds : List PyData} {bs : List Int} {vs : List V}, intsD ds = some bs → RpAll K G vs ds → vs = bs.map V.int
  | [], bs, _, e, .nil => by cases e; rfl
  | .int b :: ds, bs, _, e, .cons h r => by
    obtain ⟨bs', e', rfl⟩ := Option.map_eq_some_iff.mp e
    rw [List.map_cons, h.int_inv, ints_rp e' r]
  | .none :: _, _, _, e, _ => by cases e
  | .bool _ :: _, _, _, e, _ => by cases e
  | .str _ :: _, _, _, e, _ => by cases e
  | .list _ :: _, _, _, e, _ => by cases e
  | .tuple _ :: _, _, _, e, _ => by cases e
  | .dict _ :: _, _, _, e, _ => by cases e
theorem strs_rp {K : PySem.W.Frag} {G : Hp} : ∀ {ds : List PyData} {bs : List Str} {vs : List V}, strsD ds = some bs → RpAll K G vs ds → vs = bs.map V.str ∧ ∀ x ∈ bs, x.length ≤ sizeLine
  | [], bs, _, e, .nil => by cases e; exact ⟨rfl, fun _ h => by cases h⟩
  | .str b :: ds, bs, _, e, .cons h r => by
    obtain ⟨bs', e', rfl⟩ := Option.map_eq_some_iff.mp e
    obtain ⟨q1, q2⟩ := strs_rp e' r
    refine ⟨by rw [List.map_cons, h.str_inv.1, q1], fun x hx => ?_⟩
    rcases List.mem_cons.mp hx with rfl | hx
    · exact h.str_inv.2
    · exact q2 x hx
  | .none :: _, _, _, e, _ => by cases e
  | .bool _ :: _, _, _, e, _ => by cases e
  | .int _ :: _, _, _, e, _ => by cases e
  | .list _ :: _, _, _, e, _ => by cases e
  | .tuple _ :: _, _, _, e, _ => by cases e
  | .dict _ :: _, _, _, e, _ => by cases e
theorem rp_ints {K : PySem.W.Frag} {G : Hp} : ∀ (ns : List Int), RpAll K G (ns.map V.int) (ns.map PyData.int)
  | [] => .nil
  | n :: ns => .cons (.int n) (rp_ints ns)
theorem rp_strs {K : PySem.W.Frag} {G : Hp} : ∀ (xs : List Str), (∀ x ∈ xs, x.length ≤ sizeLine) → RpAll K G (xs.map V.str) (xs.map PyData.str)
  | [], _ => .nil
  | x :: xs, h => .cons (.str x (h x List.mem_cons_self)) (rp_strs xs fun y hy => h y (List.mem_cons_of_mem _ hy))
theorem c_all (hc : X.calm = true) : CallR X (.builtin "all") (rC1 (ctOf X) pAll) := by
  intro pins s σ H xs us Q I rs h
  obtain ⟨x, rfl, m, c, r, rfl, sr, v1, e, q⟩ := h
  cases c <;> try (cases e; done)
  case list ds =>
    obtain ⟨bs, e', rfl⟩ := Option.map_eq_some_iff.mp e
    obtain ⟨a, as, rfl, sq, hz, ra⟩ := v1.lst
    rw [bools_rp e' ra] at sq
    exact cr_all hc pins s σ m.H _ us Q I rs ⟨a, bs, rfl, sq, q.now (.bl _)⟩
theorem c_any (hc : X.calm = true) : CallR X (.builtin "any") (rC1 (ctOf X) pAny) := by
  intro pins s σ H xs us Q I rs h
  obtain ⟨x, rfl, m, c, r, rfl, sr, v1, e, q⟩ := h
  cases c <;> try (cases e; done)
  case list ds =>
    obtain ⟨bs, e', rfl⟩ := Option.map_eq_some_iff.mp e
    obtain ⟨a, as, rfl, sq, hz, ra⟩ := v1.lst
    rw [bools_rp e' ra] at sq
    exact cr_any hc pins s σ m.H _ us Q I rs ⟨a, bs, rfl, sq, q.now (.bl _)⟩
theorem c_sum (hc : X.calm = true) : CallR X (.builtin "sum") (rC1 (ctOf X) pSum) := by
  intro pins s σ H xs us Q I rs h
  obtain ⟨x, rfl, m, c, r, rfl, sr, v1, e, q⟩ := h
  cases c <;> try (cases e; done)
  case list ds =>
    obtain ⟨bs, e', rfl⟩ := Option.map_eq_some_iff.mp e
    obtain ⟨a, as, rfl, sq, hz, ra⟩ := v1.lst
    rw [ints_rp e' ra] at sq
    exact cr_sum hc pins s σ m.H _ us Q I rs ⟨a, bs, rfl, sq, q.now (.int _)⟩
theorem c_abs : CallR X (.builtin "abs") (rC1 (ctOf X) pAbs) := by
  intro pins s σ H xs us Q I rs h
  obtain ⟨x, rfl, m, c, r, rfl, sr, v1, e, q⟩ := h
  cases c <;> try (cases e; done)
  case int i =>
    cases e
    cases v1.int
    exact call_abs pins s σ m.H _ us Q I rs ⟨i, rfl, q.now (.int _)⟩
theorem c_int : CallR X (.type "int") (rC1 (ctOf X) pInt) := by
  intro pins s σ H xs us Q I rs h
  obtain ⟨x, rfl, m, c, r, rfl, sr, v1, e, q⟩ := h
  cases c <;> try (cases e; done)
  case int i =>
    cases e
    cases v1.int
    exact call_int1 pins s σ m.H _ us Q I rs (.inl ⟨i, rfl, q.now (.int _)⟩)
  case bool b =>
    cases e
    cases v1.bl
    exact call_int1 pins s σ m.H _ us Q I rs (.inr ⟨b, rfl, q.now (.int _)⟩)
theorem c_min2 (hc : X.calm = true) : CallR X (.builtin "min") (rC2 (ctOf X) pMin2) := by
  intro pins s σ H xs us Q I rs h
  obtain ⟨x, y, rfl, m, c, d, r, rfl, sr, v1, v2, e, q⟩ := h
  cases c <;> cases d <;> try (cases e; done)
  case int.int i j =>
    cases e
    cases v1.int
    cases v2.int
    exact call_min2 hc pins s σ m.H _ us Q I rs ⟨i, j, rfl, q.now (.int _)⟩
theorem c_max2 (hc : X.calm = true) : CallR X (.builtin "max") (rC2 (ctOf X) pMax2) := by
  intro pins s σ H xs us Q I rs h
  obtain ⟨x, y, rfl, m, c, d, r, rfl, sr, v1, v2, e, q⟩ := h
  cases c <;> cases d <;> try (cases e; done)
  case int.int i j =>
    cases e
    cases v1.int
    cases v2.int
    exact call_max2 hc pins s σ m.H _ us Q I rs ⟨i, j, rfl, q.now (.int _)⟩
theorem c_tuple : CallR X (.type "tuple") (rC1 (ctOf X) pTup) := by
  intro pins s σ H xs us Q I rs h
  obtain ⟨x, rfl, m, c, r, rfl, sr, v1, e, q⟩ := h
  cases c <;> try (cases e; done)
  case list ds =>
    cases e
    obtain ⟨a, as, rfl, sq, hz, ra⟩ := v1.lst
    exact call_tuple_of pins s σ m.H _ us Q I rs ⟨a, as, rfl, .inl ⟨sq, fun l nl => q (.ref l) _ (same_new nl) (sr.newT nl hz ra)⟩⟩
  case tuple ds =>
    cases e
    have w1 : Rp X.K m.G x (.tuple ds) := by cases v1 with | p h => exact h
    obtain ⟨a, as, rfl, sq, hz, ra⟩ := v1.tup
    exact call_tuple_of pins s σ m.H _ us Q I rs ⟨a, as, rfl, .inr ⟨sq, q.now w1⟩⟩
theorem c_list : CallR X (.type "list") (rC1 (ctOf X) pLst) := by
  intro pins s σ H xs us Q I rs h
  obtain ⟨x, rfl, m, c, r, rfl, sr, v1, e, q⟩ := h
  cases c <;> try (cases e; done)
  case list ds =>
    cases e
    obtain ⟨a, as, rfl, sq, hz, ra⟩ := v1.lst
    exact call_list_of pins s σ m.H _ us Q I rs ⟨a, as, rfl, .inl sq, fun l nl => q (.ref l) _ (same_new nl) (sr.newL nl hz ra)⟩
  case tuple ds =>
    cases e
    obtain ⟨a, as, rfl, sq, hz, ra⟩ := v1.tup
    exact call_list_of pins s σ m.H _ us Q I rs ⟨a, as, rfl, .inr sq, fun l nl => q (.ref l) _ (same_new nl) (sr.newL nl hz ra)⟩
theorem c_repr {k : Nat} (hgd : X.A.guards = some []) (hr : Room k X.A) : CallR X (.builtin "repr") (rC1 (ctOf X) pRepr) := by
  intro pins s σ H xs us Q I rs h
  obtain ⟨x, rfl, m, c, r, rfl, sr, v1, e, q⟩ := h
  unfold pRepr at e
  split at e
  · rename_i hs
    cases e
    rw [← line_eq] at hs
    exact call_show hgd hr pins s σ m.H _ us Q I rs ⟨x, c, rfl, v1.dp hs.2.1, hs.1, hs.2.1, hs.2.2.1, hs.2.2.2, q.now (.str _ hs.2.2.2)⟩
  · cases e
end
end Ev

set_option Elab.async false
set_option linter.all false
set_option maxRecDepth 100000
set_option maxHeartbeats 4000000
/-! sorts, places, slices, texts, loops' walks, sets -/
namespace Ev
open PySem PySem.Spec PyProof.Rows L2 Gx
/-! sorting -/
theorem sortI_of {ns ys : List Int} (hp : ys.Perm ns) (hs : ys.Pairwise (· ≤ ·)) : ys = sortI ns := by
  refine List.Perm.eq_of_pairwise (le := fun a b => a ≤ b) (fun a b _ _ h1 h2 => Int.le_antisymm h1 h2) hs ?_ (hp.trans (List.mergeSort_perm ns _).symm)
  have := List.pairwise_mergeSort (le := fun a b : Int => decide (a ≤ b)) (fun a b c h1 h2 => by simp at *; omega) (fun a b => by simp; omega) ns
  exact this.imp fun h => by simpa using h
theorem leS_trans {a b c : Str} (h1 : (!ltS b a) = true) (h2 : (!ltS c b) = true) : (!ltS c a) = true := by
  simp only [ltS, Bool.not_eq_true', decide_eq_false_iff_not] at *
  exact fun h => h1 (by
    have h2' : b.cps.toList ≤ c.cps.toList := h2
    exact List.lt_of_le_of_lt h2' h)
theorem leS_total (a b : Str) : ((!ltS b a) || (!ltS a b)) = true := by
  simp only [ltS, Bool.or_eq_true, Bool.not_eq_true', decide_eq_false_iff_not]
  rcases List.le_total a.cps.toList b.cps.toList with h | h
  · exact .inl h
  · exact .inr h
theorem leS_anti {a b : Str} (h1 : (!ltS b a) = true) (h2 : (!ltS a b) = true) : a = b := by
  simp only [ltS, Bool.not_eq_true', decide_eq_false_iff_not] at *
  have : a.cps.toList = b.cps.toList := List.le_antisymm h1 h2
  obtain ⟨ca⟩ := a
  obtain ⟨cb⟩ := b
  simpa using this
theorem sortedS_pw : ∀ {l : List Str}, sortedS l = true → l.Pairwise fun a b => (!ltS b a) = true
  | [], _ => .nil
  | [x], _ => by simp
  | x :: y :: r, h => by
    have h' : (!ltCps y.cps.toList x.cps.toList && risingS y r) = true := h
    simp only [Bool.and_eq_true] at h'
    have ih : (y :: r).Pairwise fun a b => (!ltS b a) = true := sortedS_pw h'.2
    have hxy : (!ltS y x) = true := by
      unfold ltS
      rw [← ltCps_eq]
      exact h'.1
    refine List.pairwise_cons.mpr ⟨fun z hz => ?_, ih⟩
    rcases List.mem_cons.mp hz with rfl | hz
    · exact hxy
    · exact leS_trans hxy ((List.pairwise_cons.mp ih).1 z hz)
theorem sortS_pw (xs : List Str) : (sortS xs).Pairwise fun a b => (!ltS b a) = true :=
  List.pairwise_mergeSort (le := fun a b => !ltS b a) (fun a b c h1 h2 => leS_trans (a := a) (b := b) (c := c) h1 h2) (fun a b => leS_total a b) xs
theorem sortS_of {xs ys : List Str} (hp : ys.Perm xs) (hs : sortedS ys = true) : ys = sortS xs :=
  List.Perm.eq_of_pairwise (le := fun a b => (!ltS b a) = true) (fun a b _ _ h1 h2 => leS_anti h1 h2) (sortedS_pw hs) (sortS_pw xs) (hp.trans (List.mergeSort_perm xs _).symm)
section
variable {X : Cx} {W : XW} {x : Str} {p pos : Pos} {a b : Expr} {fa fb : Fe} {id T : String}
theorem c_sorted : CallR X (.builtin "sorted") (rC1 (ctOf X) pSorted) := by
  intro pins s σ H xs us Q I rs h
  obtain ⟨x, rfl, m, c, r, rfl, sr, v1, e, q⟩ := h
  cases c <;> try (cases e; done)
  case list ds =>
    obtain ⟨a, as, rfl, sq, hz, ra⟩ := v1.lst
    simp only [pSorted] at e
    split at e
    · rename_i ns hn
      cases e
      rw [ints_rp hn ra] at sq hz
      refine cr_sortedI pins s σ m.H _ us Q I rs ⟨a, ns, rfl, sq, fun ns' p hp hs np => ?_⟩
      rw [sortI_of hp hs]
      refine q (.ref p) _ (same_new np) (sr.newL np ?_ (rp_ints _))
      simpa [sortI] using hz
    · split at e
      · rename_i xs hx
        split at e
        · rename_i hl
          cases e
          obtain ⟨q1, q2⟩ := strs_rp hx ra
          rw [q1] at sq hz
          refine cr_sortedS pins s σ m.H _ us Q I rs ⟨a, xs, rfl, sq, hl, fun ys p hp hs np => ?_⟩
          rw [sortS_of hp hs]
          refine q (.ref p) _ (same_new np) (sr.newL np ?_ (rp_strs _ fun x hx => q2 x (by simpa [sortS] using hx)))
          simpa [sortS] using hz
        · cases e
      · cases e
/-! places -/
theorem ixOf_eq {n : Nat} {i : Int} : ixOf n i = ixN n i := by
  unfold ixOf ixN
  by_cases h : 0 ≤ i
  · rw [if_pos h, if_pos h]
    by_cases h2 : i.toNat < n
    · rw [if_pos h2, if_pos (by omega)]
    · rw [if_neg h2, if_neg (by omega)]
  · rw [if_neg h, if_neg h]
    by_cases h2 : 0 ≤ i + n
    · rw [if_pos h2, if_pos (by omega)]
    · rw [if_neg h2, if_neg (by omega)]
theorem itemAt_rp {K : PySem.W.Frag} {G : Hp} {vs : List V} {ds : List PyData} {i : Int} {d : PyData} (r : RpAll K G vs ds) (e : itemAt ds i = some d) : ∃ v, atI vs i = some v ∧ Rp K G v d := by
  unfold itemAt at e
  obtain ⟨j, e1, e2⟩ := Option.bind_eq_some_iff.mp e
  obtain ⟨v, e3, q⟩ := r.at e2
  refine ⟨v, ?_, q⟩
  unfold atI
  rw [r.length, ← ixOf_eq, e1]
  exact e3
theorem i_ix : IxR X (rD2 (ctOf X) pIdx) := by
  intro ea eb pins s σ H x y v u Q I rx ry h
  obtain ⟨m, c, d, r, rfl, sr, v1, v2, e, q⟩ := h
  cases d <;> try (cases c <;> cases e; done)
  case int i =>
    cases v2.int
    cases c <;> try (cases e; done)
    case list ds =>
      obtain ⟨a, as, rfl, sq, hz, ra⟩ := v1.lst
      obtain ⟨w, e1, rw1⟩ := itemAt_rp ra e
      exact ix_list ea eb pins s σ m.H _ _ v u Q I rx ry ⟨a, as, i, w, rfl, rfl, sq, e1, q.now rw1⟩
    case tuple ds =>
      obtain ⟨a, as, rfl, sq, hz, ra⟩ := v1.tup
      obtain ⟨w, e1, rw1⟩ := itemAt_rp ra e
      exact ix_tup ea eb pins s σ m.H _ _ v u Q I rx ry ⟨a, as, i, w, rfl, rfl, sq, e1, q.now rw1⟩
    case str z =>
      obtain ⟨rfl, hz⟩ := v1.str
      obtain ⟨k, e1, rfl⟩ := Option.map_eq_some_iff.mp e
      refine ix_str ea eb pins s σ m.H _ _ v u Q I rx ry ⟨z, i, k, rfl, rfl, hz, ?_, q.now (.str _ (by show 1 ≤ sizeLine; decide))⟩
      unfold itemAt at e1
      unfold atI
      rw [← ixOf_eq]
      exact e1
theorem x_ix (ha : PE X a (tE (ctOf X) W fa)) (hb : PE X b (tE (ctOf X) W fb)) (hs : PlainIx b := by exact fun _ _ => rfl) : PE X (.Subscript a b pos) (tE (ctOf X) W (e2 pIdx fa fb)) :=
  (pe_ix i_ix ha hb hs).imp fun _ _ _ => read2
/-! slices -/
theorem slAt_eq {n d : Nat} {o : Option Int} : slAt n d o = HT.sIx n d o := by cases o <;> rfl
theorem cutV_eq (xs : List V) (lo hi : Option Int) : cutV xs lo hi = cutL xs lo hi := by
  unfold cutV cutL
  rw [slAt_eq, slAt_eq]
theorem RpAll.drop {K : PySem.W.Frag} {G : Hp} : ∀ {vs : List V} {ds : List PyData} (n : Nat), RpAll K G vs ds → RpAll K G (vs.drop n) (ds.drop n)
  | _, _, 0, r => r
  | _, _, _ + 1, .nil => .nil
  | _, _, n + 1, .cons _ r => RpAll.drop n r
theorem RpAll.take {K : PySem.W.Frag} {G : Hp} : ∀ {vs : List V} {ds : List PyData} (n : Nat), RpAll K G vs ds → RpAll K G (vs.take n) (ds.take n)
  | _, _, 0, _ => .nil
  | _, _, _ + 1, .nil => .nil
  | _, _, n + 1, .cons h r => .cons h (RpAll.take n r)
theorem RpAll.cut {K : PySem.W.Frag} {G : Hp} {vs : List V} {ds : List PyData} (r : RpAll K G vs ds) (lo hi : Option Int) : RpAll K G (cutL vs lo hi) (cutL ds lo hi) := by
  unfold cutL
  rw [r.length]
  exact (r.drop _).take _
theorem RpAll.reverse {K : PySem.W.Frag} {G : Hp} : ∀ {vs : List V} {ds : List PyData}, RpAll K G vs ds → RpAll K G vs.reverse ds.reverse
  | _, _, .nil => .nil
  | _, _, .cons h r => by
    rw [List.reverse_cons, List.reverse_cons]
    exact (RpAll.reverse r).snoc h
theorem cutL_le {α : Type} (xs : List α) (lo hi : Option Int) : (cutL xs lo hi).length ≤ xs.length := by
  unfold cutL
  rw [List.length_take, List.length_drop]
  omega
def rSlD (C : Ct) : V → Option Int → Option Int → Hp → VK → Prop := fun x lo hi H Q => ∃ m c r, m.H = H ∧ SR C m ∧ Vw C.K m x c ∧ pSl c lo hi = some r ∧ Ans C m r Q
theorem sl_D : SlR X (rSlD (ctOf X)) := by
  have hall : SlR X (fun x lo hi H Q => rSlL X.K x lo hi H Q ∨ (rSlA X.K x lo hi H Q ∨ rSlS x lo hi H Q)) := SlR.or sl_list (SlR.or sl_tupA sl_str)
  have key : ∀ x lo hi H Q, rSlD (ctOf X) x lo hi H Q → rSlL X.K x lo hi H Q ∨ (rSlA X.K x lo hi H Q ∨ rSlS x lo hi H Q) := by
    intro x lo hi H Q h
    obtain ⟨m, c, r, rfl, sr, v1, e, q⟩ := h
    cases c <;> try (cases e; done)
    case list ds =>
      cases e
      obtain ⟨a, as, rfl, sq, hz, ra⟩ := v1.lst
      refine .inl ⟨a, as, rfl, sq, fun p np => ?_⟩
      rw [cutV_eq]
      exact q (.ref p) _ (same_new np) (sr.newL np (Nat.le_trans (cutL_le _ _ _) hz) (ra.cut lo hi))
    case tuple ds =>
      cases e
      have w1 : Rp X.K m.G x (.tuple ds) := by cases v1 with | p h => exact h
      obtain ⟨a, as, rfl, sq, hz, ra⟩ := v1.tup
      refine .inr (.inl ⟨a, as, rfl, sq, fun h0 => ?_, fun _ p np => ?_⟩)
      · have : cutL ds lo hi = ds := by
          unfold cutL
          rw [slAt_eq, slAt_eq, ← ra.length, h0.1, h0.2]
          simp [ra.length]
        rw [this] at q
        exact q.now w1
      · rw [cutV_eq]
        exact q (.ref p) _ (same_new np) (sr.newT np (Nat.le_trans (cutL_le _ _ _) hz) (ra.cut lo hi))
    case str z =>
      cases e
      obtain ⟨rfl, hz⟩ := v1.str
      refine .inr (.inr ⟨z, rfl, hz, ?_⟩)
      have : cutS z lo hi = cutX z lo hi := by
        unfold cutS cutX cutL
        simp only [slAt_eq]
        first | rfl | simp
      rw [this]
      refine q.now (.str _ ?_)
      show (cutL z.cps.toList lo hi).toArray.size ≤ sizeLine
      have h1 := cutL_le z.cps.toList lo hi
      have h2 : z.length = z.cps.size := rfl
      simp only [List.size_toArray]
      simp only [Array.length_toList] at h1
      omega
  intro pins s σ H x v vl vu lo hi sl Q I rx hs pl pu q
  exact hall pins s σ H x v vl vu lo hi sl Q I rx hs pl pu (key _ _ _ _ _ q)
def tO (C : Ct) (W : XW) (f : MEnv → Store → Res (Option Int)) : L2.St → Hp → (Option Int → Hp → Prop) → Prop := fun σ H Q => ∃ m env, m.H = H ∧ SR C m ∧ ER C m σ env ∧ OutG C W env σ (fun _ i j => i = j) m (f env m.S) Q
theorem p_none : PO X none (tO (ctOf X) W oN) := ⟨fun pins s σ H Q I h => po_none.run pins s σ H Q I (by
  obtain ⟨m, env, rfl, s, er, o⟩ := h
  exact OutG.here o rfl s rfl)⟩
theorem p_some (h : PE X a (tE (ctOf X) W fa)) : PO X (some a) (tO (ctOf X) W (oS fa)) := ⟨fun pins s σ H Q I hw => (po_some h).run pins s σ H Q I (by
  obtain ⟨m, env, rfl, s, er, o⟩ := hw
  refine ⟨m, env, rfl, s, er, OutG.bind o fun x m1 v s1 g1 r1 o1 => ?_⟩
  cases v with
  | dat d =>
    cases d with
    | int i =>
      cases (Rp.int_inv r1)
      exact ⟨i, rfl, OutG.here o1 rfl s1 rfl⟩
    | _ => exact o1.elim
  | _ => exact o1.elim)⟩
theorem x_sl {lo hi : Option Expr} {fl fh : MEnv → Store → Res (Option Int)} {p2 : Pos} (ha : PE X a (tE (ctOf X) W fa)) (hl : PO X lo (tO (ctOf X) W fl)) (hu : PO X hi (tO (ctOf X) W fh)) :
    PE X (.Subscript a (.Slice lo hi none p2) pos) (tE (ctOf X) W (eSl fa fl fh)) := by
  refine (pe_slice sl_D ha hl hu).imp fun σ H Q h => ?_
  obtain ⟨m, env, rfl, s, er, o⟩ := h
  refine ⟨m, env, rfl, s, er, OutG.bind o fun x m1 v s1 g1 r1 o1 => ⟨m1, env, rfl, s1, er.grow g1, OutG.bind o1 fun i m2 j s2 g2 r2 o2 => ⟨m2, env, rfl, s2, (er.grow g1).grow g2, OutG.bind o2 fun i3 m3 j3 s3 g3 r3 o3 => ?_⟩⟩⟩
  subst r2
  subst r3
  obtain ⟨d, e, o4⟩ := o3.opt
  obtain ⟨p, e1, e⟩ := Option.bind_eq_some_iff.mp e
  exact ⟨m3, p, d, rfl, s3, s3.view ((r1.grow g2).grow g3) e1, e, out_ans s3 o4⟩
/-- a[::-1] -/
theorem x_rev {k : Nat} {p1 p2 p3 : Pos} (ha : PE X a (tE (ctOf X) W fa)) : PE X (.Subscript a (.Slice none none (some (.UnaryOp .USub (.Constant (.int 1) k p1) p2)) p3) pos) (tE (ctOf X) W (e1 pRev fa)) := by
  refine ⟨fun pins s σ H Q I h => ?_⟩
  obtain ⟨m, env, rfl, sr, er, o⟩ := h
  have o' := o
  simp only [e1] at o'
  cases hfa : fa env m.S with
  | bad => rw [hfa] at o'; exact o'.elim
  | exc y S =>
    rw [hfa] at o'
    exact (pe_revT (X := X) ha).run pins s σ m.H Q I ⟨m, env, rfl, sr, er, by rw [hfa]; exact o'⟩
  | ok v S =>
    rw [hfa] at o'
    simp only [bind_ok] at o'
    obtain ⟨d, e, o3⟩ := OutG.opt o'
    obtain ⟨c, e1, e⟩ := Option.bind_eq_some_iff.mp e
    cases c <;> try (cases e; done)
    case list ds =>
      cases e
      refine (pe_revL (X := X) ha).run pins s σ m.H Q I ⟨m, env, rfl, sr, er, ?_⟩
      rw [hfa]
      intro u m1 eS s1 g1 r1
      subst eS
      obtain ⟨a', as, rfl, sq, hz, ra⟩ := (s1.view r1 e1).lst
      exact ⟨a', as, rfl, sq, fun p np => out_ans s1 (OutG.grow o3 g1) (.ref p) _ (same_new np) (s1.newL np (by simpa using hz) ra.reverse)⟩
    case tuple ds =>
      cases e
      refine (pe_revT (X := X) ha).run pins s σ m.H Q I ⟨m, env, rfl, sr, er, ?_⟩
      rw [hfa]
      intro u m1 eS s1 g1 r1
      subst eS
      obtain ⟨a', as, rfl, sq, hz, ra⟩ := (s1.view r1 e1).tup
      exact ⟨a', as, rfl, sq, fun p np => out_ans s1 (OutG.grow o3 g1) (.ref p) _ (same_new np) (s1.newT np (by simpa using hz) ra.reverse)⟩
/-! methods of texts with one argument -/
def rM1 (C : Ct) (g : Str → PyData → Option PyData) : V → List V → Hp → VK → Prop := fun x xs H Q => ∃ z y m d r, x = .str z ∧ z.length ≤ sizeLine ∧ xs = [y] ∧ m.H = H ∧ SR C m ∧ Vw C.K m y d ∧ g z d = some r ∧ Ans C m r Q
theorem x_m1s {name : Str} {apos cpos : Pos} {g : Str → PyData → Option PyData} (slot : Slot "str" name id) (hty : typeOf (.builtin id) = pure (.type "method_descriptor"))
    (hm : MtR X id (rM1 (ctOf X) g))
    (ha : PE X a (tE (ctOf X) W fa)) (hb : PE X b (tE (ctOf X) W fb)) (hbase : attributeBase a name X.env (eval a X.env) = eval a X.env := by rfl)
    (hfew : ((backTo cpos (starEach [b] X.env)).all (fun x => !x.1) && (backToKw cpos (keywordEach [] X.env)).all (fun x => x.1.isSome)
      && decide ([b].length + ([] : List Keyword).length + (if ([] : List Keyword).isEmpty then 0 else 1) < 30)) = true := by rfl)
    (hline : (apos.endLine == cpos.line) = true := by rfl) (hs : starEach [b] X.env = (false, eval b X.env) :: starEach [] X.env := by rfl) (hplain : (backTo cpos (starEach [] X.env)).any (·.1) = false := by rfl) :
    PE X (.Call (.Attribute a name apos) [b] [] cpos) (tE (ctOf X) W (eMs g fa fb)) := by
  refine (pe_bm PySem.F.plainAttrs_str slot hty hm ha (pa_cons hb pa_nil hs) hbase hfew hline hs hplain).imp fun σ H Q h => ?_
  obtain ⟨m, env, rfl, s, er, o⟩ := h
  refine ⟨m, env, rfl, s, er, OutG.bind o fun x m1 v s1 g1 r1 o1 => ?_⟩
  cases v with
  | dat c =>
    cases c with
    | str z =>
      obtain ⟨rfl, hz⟩ := Rp.str_inv r1
      refine ⟨rfl, m1, env, rfl, s1, er.grow g1, OutG.bind o1 fun y m2 w s2 g2 r2 o2 => ?_⟩
      obtain ⟨d, e, o3⟩ := o2.opt
      obtain ⟨p, e1, e⟩ := Option.bind_eq_some_iff.mp e
      exact ⟨z, y, m2, p, d, rfl, hz, rfl, rfl, s2, s2.view r2 e1, e, out_ans s2 o3⟩
    | _ => exact o1.elim
  | _ => exact o1.elim
theorem m_join : MtR X "str.join" (rM1 (ctOf X) pJoin) := by
  intro pins s σ H x xs v us Q I rx rs h
  obtain ⟨z, y, m, d, r, rfl, hz, rfl, rfl, sr, v1, e, q⟩ := h
  cases d <;> try (cases e; done)
  case list ds =>
    obtain ⟨a, as, rfl, sq, hz', ra⟩ := v1.lst
    obtain ⟨ys, e1, e⟩ := Option.bind_eq_some_iff.mp e
    split at e
    · rename_i hl
      cases e
      obtain ⟨q1, q2⟩ := strs_rp e1 ra
      rw [q1] at sq
      refine mt_join pins s σ m.H _ _ v us Q I rx rs ⟨z, a, ys, rfl, rfl, .inl sq, hl.1, q.now (.str _ (by rw [line_eq]; exact hl.2))⟩
    · cases e
theorem m_index : MtR X "str.index" (rM1 (ctOf X) pIndexS) := by
  intro pins s σ H x xs v us Q I rx rs h
  obtain ⟨z, y, m, d, r, rfl, hz, rfl, rfl, sr, v1, e, q⟩ := h
  cases d <;> try (cases e; done)
  case str w =>
    obtain ⟨rfl, hw⟩ := v1.str
    simp only [pIndexS] at e
    split at e
    · rename_i i rest ho
      cases e
      exact mt_sindex pins s σ m.H _ _ v us Q I rx rs ⟨z, w, i, rest, rfl, rfl, ho, q.now (.int _)⟩
    · cases e
/-! what loops walk -/
theorem _root_.L2.PI.imp {tg it : Expr} {w w' : TI} (h : PI X tg it w) (k : ∀ σ H R, w' σ H R → w σ H R) : PI X tg it w' := ⟨fun pins s σ H R I q => h.run pins s σ H R I (k σ H R q)⟩
theorem _root_.L2.PI.or {tg it : Expr} {w w' : TI} (h : PI X tg it w) (h' : PI X tg it w') : PI X tg it (fun σ H R => w σ H R ∨ w' σ H R) := ⟨fun pins s σ H R I q => q.elim (h.run pins s σ H R I) (h'.run pins s σ H R I)⟩
theorem dats_get {ds : List PyData} {i : Nat} {v : Val} (e : (ds.map Val.dat)[i]? = some v) : ∃ d, v = .dat d ∧ ds[i]? = some d := by
  rw [List.getElem?_map] at e
  obtain ⟨d, e1, rfl⟩ := Option.map_eq_some_iff.mp e
  exact ⟨d, rfl, e1⟩
/-- a list that stands among what is never changed, or a cell -/
theorem steps_list {C : Ct} {m0 : MS} {u : V} {v : Val} {ds : List PyData} (s0 : SR C m0) (rv : RV C m0 u v) (e : view m0.S v = some (.list ds)) :
    ∃ a, u = .ref a ∧ (∃ xs, SqL C.K m0.H a xs) ∧ keeps (guardOf m0.S v) m0.S ∧ Steps C m0 (Itl C.K a) (ds.map Val.dat, guardOf m0.S v) := by
  have vw := s0.view rv e
  obtain ⟨a, xs, rfl, sq, hz, ra⟩ := vw.lst
  have key : keeps (guardOf m0.S v) m0.S ∧ ∀ m, SR C m → GrowW m0 m → keeps (guardOf m0.S v) m.S → ∃ ys, SqL C.K m.H a ys ∧ RpAll C.K m.G ys ds := by
    cases v with
    | dat d =>
      cases e
      refine ⟨trivial, fun m sm g _ => ?_⟩
      obtain ⟨a', ys, e1, q, _, r⟩ := Rp.lst_inv rv
      cases e1
      exact ⟨ys, m.le.sqL (g.sub.sqL q), r.sub g.sub⟩
    | ref n =>
      obtain ⟨a', hl, e1⟩ := rv
      cases e1
      simp only [Ev.view] at e
      cases hS : m0.S[n]? with
      | none => rw [hS] at e; cases e
      | some o =>
        cases o with
        | none => rw [hS] at e; cases e
        | some c =>
          rw [hS] at e
          have hgd : guardOf m0.S (.ref n) = some (n, c) := by simp only [guardOf, hS]
          rw [hgd]
          refine ⟨hS, fun m sm g hk => ?_⟩
          obtain ⟨b, hl', q⟩ := sm.cell n c hk
          rw [prefix_get g.pre hl] at hl'
          cases hl'
          cases c with
          | lst es =>
            cases e
            obtain ⟨ys, h, _, r⟩ := q
            exact ⟨ys, .of h, r⟩
          | dct _ => cases e
          | set _ _ => cases e
    | set _ _ => cases e
  refine ⟨a, rfl, ⟨xs, sq⟩, key.1, fun m sm g hk => ?_⟩
  obtain ⟨ys, q, r⟩ := key.2 m sm g hk
  have hlen := r.length
  refine ⟨⟨ys, q, by simp [hlen]⟩, fun i v' e' => ?_⟩
  obtain ⟨d, rfl, e2⟩ := dats_get e'
  obtain ⟨y, e3, ry⟩ := r.at e2
  refine ⟨⟨ys, y, q, e3⟩, fun x H' yl => ?_⟩
  obtain ⟨rfl, yl⟩ := yl
  have := yl ys q
  rw [e3] at this
  cases this
  exact ⟨m, rfl, rfl, sm, Grow.refl, ry⟩
theorem steps_tup {C : Ct} {m0 : MS} {u : V} {ds : List PyData} (rv : Rp C.K m0.G u (.tuple ds)) :
    ∃ a, u = .ref a ∧ (∃ xs, SqT C.K m0.H a xs) ∧ Steps C m0 (Itt C.K a) (ds.map Val.dat, none) := by
  obtain ⟨a, xs, rfl, sq, hz, ra⟩ := rv.tup_inv
  refine ⟨a, rfl, ⟨xs, m0.le.sqT sq⟩, fun m sm g hk => ?_⟩
  have q := m.le.sqT (g.sub.sqT sq)
  have r := ra.sub g.sub
  have hlen := r.length
  refine ⟨⟨xs, q, by simp [hlen]⟩, fun i v' e' => ?_⟩
  obtain ⟨d, rfl, e2⟩ := dats_get e'
  obtain ⟨y, e3, ry⟩ := r.at e2
  refine ⟨⟨xs, y, q, e3⟩, fun x H' yl => ?_⟩
  obtain ⟨rfl, yl⟩ := yl
  have := yl xs q
  rw [e3] at this
  cases this
  exact ⟨m, rfl, rfl, sm, Grow.refl, ry⟩
theorem steps_str {C : Ct} {m0 : MS} {z : Str} : Steps C m0 (Its z) ((z.cps.toList.map fun c => PyData.str ⟨#[c]⟩).map Val.dat, none) := by
  intro m sm g hk
  refine ⟨by show z.cps.size ≤ _; simp, fun i v' e' => ?_⟩
  obtain ⟨d, rfl, e2⟩ := dats_get e'
  rw [List.getElem?_map] at e2
  obtain ⟨c, e3, rfl⟩ := Option.map_eq_some_iff.mp e2
  have e4 : z.cps[i]? = some c := by simpa using e3
  refine ⟨(Array.getElem?_eq_some_iff.mp e4).1, fun x H' yl => ?_⟩
  obtain ⟨rfl, c', e5, rfl⟩ := yl
  rw [e4] at e5
  cases e5
  exact ⟨m, rfl, rfl, sm, Grow.refl, .str _ (by show 1 ≤ sizeLine; decide)⟩
variable {tg : Expr}
/-- for x in a: a list, a tuple, a text -/
theorem i_any (ha : PE X a (tE (ctOf X) W fa)) : PI X tg a (tI (ctOf X) W (iA fa)) := by
  refine (PI.or (pi_list ha) (PI.or (pi_tup ha) (pi_str ha))).imp fun σ H R h => ?_
  obtain ⟨m, env, rfl, s, er, o⟩ := h
  simp only [iA] at o
  cases hfa : fa env m.S with
  | bad => rw [hfa] at o; exact o.elim
  | exc y S => rw [hfa] at o; exact .inl ⟨m, env, rfl, s, er, by rw [hfa]; exact o⟩
  | ok v S =>
    rw [hfa] at o
    simp only [bind_ok] at o
    obtain ⟨ds, e, o2⟩ := OutG.opt o
    obtain ⟨c, e1, e⟩ := Option.bind_eq_some_iff.mp e
    cases c <;> try (cases e; done)
    case list es =>
      cases e
      refine .inl ⟨m, env, rfl, s, er, ?_⟩
      rw [hfa]
      intro u m1 eS s1 g1 r1
      subst eS
      obtain ⟨a', q1, q2, q3, q4⟩ := steps_list s1 r1 e1
      exact ⟨a', q1, q2, (OutG.grow o2 g1).here rfl s1 ⟨q3, q4⟩⟩
    case tuple es =>
      cases e
      refine .inr (.inl ⟨m, env, rfl, s, er, ?_⟩)
      rw [hfa]
      intro u m1 eS s1 g1 r1
      subst eS
      cases v with
      | dat d =>
        cases e1
        obtain ⟨a', q1, q2, q4⟩ := steps_tup r1
        exact ⟨a', q1, q2, (OutG.grow o2 g1).here rfl s1 ⟨trivial, q4⟩⟩
      | ref n =>
        simp only [Ev.view] at e1
        split at e1
        · rename_i c hc
          cases c <;> cases e1
        · cases e1
      | set _ _ => cases e1
    case str z =>
      cases e
      refine .inr (.inr ⟨m, env, rfl, s, er, ?_⟩)
      rw [hfa]
      intro u m1 eS s1 g1 r1
      subst eS
      cases v with
      | dat d =>
        cases e1
        obtain ⟨rfl, _⟩ := Rp.str_inv r1
        exact ⟨z, rfl, (OutG.grow o2 g1).here rfl s1 ⟨trivial, steps_str⟩⟩
      | ref n =>
        simp only [Ev.view] at e1
        split at e1
        · rename_i c hc
          cases c <;> cases e1
        · cases e1
      | set _ _ => cases e1
theorem steps_range {C : Ct} {m0 : MS} {lo hi : Int} : Steps C m0 (Itr lo (hi - lo).toNat) (rangeOf lo hi, none) := by
  intro m sm g hk
  refine ⟨by show (hi - lo).toNat ≤ _; simp [rangeOf], fun i v' e' => ?_⟩
  simp only [rangeOf, List.getElem?_map] at e'
  obtain ⟨j, e2, rfl⟩ := Option.map_eq_some_iff.mp e'
  have hj := List.getElem?_eq_some_iff.mp e2
  obtain ⟨hlt, ej⟩ := hj
  simp at ej hlt
  subst ej
  refine ⟨by show _ < (hi - lo).toNat; omega, fun x H' yl => ?_⟩
  obtain ⟨rfl, rfl⟩ := yl
  exact ⟨m, rfl, rfl, sm, Grow.refl, .int _⟩
theorem i_range1 (ha : PE X a (tE (ctOf X) W fa)) (hm : X.mg "range" = none) (hg : Gl X "range" := by rfl) (hs : starEach [a] X.env = [(false, eval a X.env)] := by rfl) :
    PI X tg (.Call (.Name "range" p) [a] [] pos) (tI (ctOf X) W (iR1 fa)) := by
  refine (pi_range1 hg hm (pa_cons ha pa_nil hs) hs).imp fun σ H R h => ?_
  obtain ⟨m, env, rfl, s, er, o⟩ := h
  refine ⟨m, env, rfl, s, er, OutG.bind o fun x m1 v s1 g1 r1 o1 => ?_⟩
  cases v with
  | dat d =>
    cases d with
    | int j =>
      cases (Rp.int_inv r1)
      dsimp only at o1
      by_cases hb : bnd j = true
      · rw [if_pos hb] at o1
        have hb' := of_decide_eq_true (show decide _ = true from hb)
        refine ⟨j, rfl, hb'.1, hb'.2, ?_⟩
        have q := OutG.here o1 rfl s1 (b := Itr 0 (j - 0).toNat) ⟨trivial, steps_range⟩
        rw [Int.sub_zero] at q
        exact q
      · rw [if_neg hb] at o1
        exact o1.elim
    | _ => exact o1.elim
  | _ => exact o1.elim
theorem i_range2 (ha : PE X a (tE (ctOf X) W fa)) (hb : PE X b (tE (ctOf X) W fb)) (hm : X.mg "range" = none) (hg : Gl X "range" := by rfl) (hs : starEach [a, b] X.env = [(false, eval a X.env), (false, eval b X.env)] := by rfl)
    (hs2 : starEach [b] X.env = [(false, eval b X.env)] := by rfl) : PI X tg (.Call (.Name "range" p) [a, b] [] pos) (tI (ctOf X) W (iR2 fa fb)) := by
  refine (pi_range2 hg hm (pa_cons ha (pa_cons hb pa_nil hs2) (by rw [hs, hs2])) hs hs2).imp fun σ H R h => ?_
  obtain ⟨m, env, rfl, s, er, o⟩ := h
  refine ⟨m, env, rfl, s, er, OutG.bind o fun x m1 v s1 g1 r1 o1 => ⟨m1, env, rfl, s1, er.grow g1, OutG.bind o1 fun y m2 w s2 g2 r2 o2 => ?_⟩⟩
  have bad : ∀ {v w : Val} {S : Store} {Q}, OutG (ctOf X) W env σ (fun m J w => keeps w.2 m.S ∧ Steps (ctOf X) m J w) m2 (match v, w with
      | .dat (.int i), .dat (.int j) => if bnd i = true ∧ bnd j = true then .ok (rangeOf i j, none) S else .bad
      | _, _ => .bad) Q → ∃ i j, v = .dat (.int i) ∧ w = .dat (.int j) := by
    intro v w S Q h
    split at h
    · exact ⟨_, _, rfl, rfl⟩
    · exact h.elim
  obtain ⟨i, j, rfl, rfl⟩ := bad o2
  cases (Rp.int_inv r1)
  cases (Rp.int_inv r2)
  dsimp only at o2
  by_cases hbd : bnd i = true ∧ bnd j = true
  · rw [if_pos hbd] at o2
    have h1 := of_decide_eq_true (show decide _ = true from hbd.1)
    have h2 := of_decide_eq_true (show decide _ = true from hbd.2)
    exact ⟨i, j, rfl, ⟨h1.1, h1.2, h2.1, h2.2⟩, OutG.here o2 rfl s2 ⟨trivial, steps_range⟩⟩
  · rw [if_neg hbd] at o2
    exact o2.elim
/-! zip, enumerate -/
theorem pair_get : ∀ {cs ds : List PyData} {i : Nat} {d : PyData}, (pairUp cs ds)[i]? = some d → ∃ x y, cs[i]? = some x ∧ ds[i]? = some y ∧ d = .tuple [x, y]
  | c :: cs, e :: ds, 0, d, h => by cases h; exact ⟨c, e, rfl, rfl, rfl⟩
  | c :: cs, e :: ds, i + 1, d, h => by
    obtain ⟨x, y, a, b, q⟩ := pair_get (cs := cs) (ds := ds) (i := i) h
    exact ⟨x, y, a, b, q⟩
  | [], _, _, _, h => by simp [pairUp] at h
  | _ :: _, [], _, _, h => by simp [pairUp] at h
theorem pair_len : ∀ {cs ds : List PyData}, (pairUp cs ds).length = min cs.length ds.length
  | c :: cs, e :: ds => by simp [pairUp, pair_len]
  | [], _ => by simp [pairUp]
  | _ :: _, [] => by simp [pairUp]
theorem enum_get : ∀ {cs : List PyData} {n i : Nat} {d : PyData}, (enumD n cs)[i]? = some d → ∃ x, cs[i]? = some x ∧ d = .tuple [.int ((n + i : Nat) : Int), x]
  | c :: cs, n, 0, d, h => by cases h; exact ⟨c, rfl, rfl⟩
  | c :: cs, n, i + 1, d, h => by
    obtain ⟨x, a, q⟩ := enum_get (cs := cs) (n := n + 1) (i := i) h
    refine ⟨x, a, ?_⟩
    rw [q]
    congr 4
    omega
  | [], _, _, _, h => by simp [enumD] at h
theorem enum_len : ∀ {cs : List PyData} {n : Nat}, (enumD n cs).length = cs.length
  | c :: cs, n => by simp [enumD, enum_len]
  | [], _ => rfl
theorem two_line : (2 : Nat) ≤ sizeLine := by decide
/-- a new pair is yielded -/
theorem yield_pair {C : Ct} {m : MS} {T : Addr} {x y : V} {c d : PyData} (s : SR C m) (n : m.H T = none) (r1 : Rp C.K m.G x c) (r2 : Rp C.K m.G y d) :
    ∃ m', m'.H = upd m.H T (.tup [x, y]) ∧ m'.S = m.S ∧ SR C m' ∧ Grow m m' ∧ RV C m' (.ref T) (.dat (.tuple [c, d])) :=
  ⟨m.new T (.tup [x, y]), rfl, rfl, s.new n, s.growN n, s.newT n two_line (.cons r1 (.cons r2 .nil))⟩
theorem steps_zipT {C : Ct} {m0 : MS} {a b : Addr} {xs ys : List V} {cs ds : List PyData} (sa : SqT C.K m0.G a xs) (sb : SqT C.K m0.G b ys) (ra : RpAll C.K m0.G xs cs) (rb : RpAll C.K m0.G ys ds) :
    Steps C m0 (RZ.ItzT C.K a b) ((pairUp cs ds).map Val.dat, none) := by
  intro m sm g hk
  have qa := m.le.sqT (g.sub.sqT sa)
  have qb := m.le.sqT (g.sub.sqT sb)
  have la := ra.length
  have lb := rb.length
  refine ⟨⟨xs, ys, qa, qb, by simp only [List.length_map, pair_len]; omega⟩, fun i v' e' => ?_⟩
  obtain ⟨d, rfl, e2⟩ := dats_get e'
  obtain ⟨c, d', e3, e4, rfl⟩ := pair_get e2
  obtain ⟨x, e5, rx⟩ := ra.at e3
  obtain ⟨y, e6, ry⟩ := rb.at e4
  refine ⟨⟨xs, ys, x, y, qa, qb, e5, e6⟩, fun z H' yl => ?_⟩
  obtain ⟨T, x', y', rfl, nT, rfl, h1, h2⟩ := yl
  have h1' := h1 xs qa
  have h2' := h2 ys qb
  rw [e5] at h1'
  rw [e6] at h2'
  cases h1'
  cases h2'
  exact yield_pair sm nT (rx.sub g.sub) (ry.sub g.sub)
theorem steps_zipL {C : Ct} {m0 : MS} {a b : Addr} {xs ys : List V} {cs ds : List PyData} (sa : SqL C.K m0.G a xs) (sb : SqL C.K m0.G b ys) (ra : RpAll C.K m0.G xs cs) (rb : RpAll C.K m0.G ys ds) :
    Steps C m0 (Itz C.K a b) ((pairUp cs ds).map Val.dat, none) := by
  intro m sm g hk
  have qa := m.le.sqL (g.sub.sqL sa)
  have qb := m.le.sqL (g.sub.sqL sb)
  have la := ra.length
  have lb := rb.length
  refine ⟨⟨xs, ys, qa, qb, by simp only [List.length_map, pair_len]; omega⟩, fun i v' e' => ?_⟩
  obtain ⟨d, rfl, e2⟩ := dats_get e'
  obtain ⟨c, d', e3, e4, rfl⟩ := pair_get e2
  obtain ⟨x, e5, rx⟩ := ra.at e3
  obtain ⟨y, e6, ry⟩ := rb.at e4
  refine ⟨⟨xs, ys, x, y, qa, qb, e5, e6⟩, fun z H' yl => ?_⟩
  obtain ⟨T, x', y', rfl, nT, rfl, h1, h2⟩ := yl
  have h1' := h1 xs qa
  have h2' := h2 ys qb
  rw [e5] at h1'
  rw [e6] at h2'
  cases h1'
  cases h2'
  exact yield_pair sm nT (rx.sub g.sub) (ry.sub g.sub)
theorem i_zip {elts : List Expr} {kk : Nat} {tpos : Pos} (ha : PE X a (tE (ctOf X) W fa)) (hb : PE X b (tE (ctOf X) W fb)) (hm : X.mg "zip" = none) (hg : Gl X "zip" := by rfl) (hs2 : starEach [b] X.env = [(false, eval b X.env)] := by rfl)
    (hs : starEach [a, b] X.env = (false, eval a X.env) :: starEach [b] X.env := by rfl) (hpl : (backTo pos (starEach [b] X.env)).any (·.1) = false := by rfl) :
    PI X (.Tuple elts kk tpos) (.Call (.Name "zip" p) [a, b] [] pos) (tI (ctOf X) W (Ev.iZip fa fb)) := by
  refine (RZ.pi_zipA hg hm (pa_cons ha (pa_cons hb pa_nil hs2) hs) hs hpl).imp fun σ H R h => ?_
  obtain ⟨m, env, rfl, s, er, o⟩ := h
  refine ⟨m, env, rfl, s, er, OutG.bind o fun x m1 v s1 g1 r1 o1 => ⟨m1, env, rfl, s1, er.grow g1, OutG.bind o1 fun y m2 w s2 g2 r2 o2 => ?_⟩⟩
  cases v with
  | dat c =>
    cases w with
    | dat d =>
      dsimp only at o2
      obtain ⟨pr, e, o3⟩ := OutG.opt o2
      have rc := Rp.sub g2.sub r1
      cases c <;> cases d <;> try (cases e; done)
      case list.list cs ds =>
        cases e
        obtain ⟨a', xs, rfl, sa, _, ra⟩ := rc.lst_inv
        obtain ⟨b', ys, rfl, sb, _, rb⟩ := Rp.lst_inv r2
        exact ⟨a', b', xs, ys, rfl, .inl ⟨m2.le.sqL sa, m2.le.sqL sb, o3.here rfl s2 ⟨trivial, steps_zipL sa sb ra rb⟩⟩⟩
      case tuple.tuple cs ds =>
        cases e
        obtain ⟨a', xs, rfl, sa, _, ra⟩ := rc.tup_inv
        obtain ⟨b', ys, rfl, sb, _, rb⟩ := Rp.tup_inv r2
        exact ⟨a', b', xs, ys, rfl, .inr ⟨m2.le.sqT sa, m2.le.sqT sb, o3.here rfl s2 ⟨trivial, steps_zipT sa sb ra rb⟩⟩⟩
    | _ => exact o2.elim
  | _ => exact o2.elim
theorem steps_enumL {C : Ct} {m0 : MS} {a : Addr} {xs : List V} {cs : List PyData} (sa : SqL C.K m0.G a xs) (ra : RpAll C.K m0.G xs cs) : Steps C m0 (Ite C.K a) ((enumD 0 cs).map Val.dat, none) := by
  intro m sm g hk
  have qa := m.le.sqL (g.sub.sqL sa)
  have la := ra.length
  refine ⟨⟨xs, qa, by simp only [List.length_map, enum_len]; omega⟩, fun i v' e' => ?_⟩
  obtain ⟨d, rfl, e2⟩ := dats_get e'
  obtain ⟨c, e3, rfl⟩ := enum_get e2
  obtain ⟨x, e5, rx⟩ := ra.at e3
  refine ⟨⟨xs, x, qa, e5⟩, fun z H' yl => ?_⟩
  obtain ⟨T, x', rfl, nT, rfl, h1⟩ := yl
  have h1' := h1 xs qa
  rw [e5] at h1'
  cases h1'
  rw [Nat.zero_add]
  exact yield_pair sm nT (.int _) (rx.sub g.sub)
theorem steps_enumT {C : Ct} {m0 : MS} {a : Addr} {xs : List V} {cs : List PyData} (sa : SqT C.K m0.G a xs) (ra : RpAll C.K m0.G xs cs) : Steps C m0 (IteT C.K a) ((enumD 0 cs).map Val.dat, none) := by
  intro m sm g hk
  have qa := m.le.sqT (g.sub.sqT sa)
  have la := ra.length
  refine ⟨⟨xs, qa, by simp only [List.length_map, enum_len]; omega⟩, fun i v' e' => ?_⟩
  obtain ⟨d, rfl, e2⟩ := dats_get e'
  obtain ⟨c, e3, rfl⟩ := enum_get e2
  obtain ⟨x, e5, rx⟩ := ra.at e3
  refine ⟨⟨xs, x, qa, e5⟩, fun z H' yl => ?_⟩
  obtain ⟨T, x', rfl, nT, rfl, h1⟩ := yl
  have h1' := h1 xs qa
  rw [e5] at h1'
  cases h1'
  rw [Nat.zero_add]
  exact yield_pair sm nT (.int _) (rx.sub g.sub)
theorem i_enum {elts : List Expr} {kk : Nat} {tpos : Pos} (ha : PE X a (tE (ctOf X) W fa)) (hm : X.mg "enumerate" = none) (hg : Gl X "enumerate" := by rfl) (hs : starEach [a] X.env = [(false, eval a X.env)] := by rfl) :
    PI X (.Tuple elts kk tpos) (.Call (.Name "enumerate" p) [a] [] pos) (tI (ctOf X) W (Ev.iEnum fa)) := by
  refine (PI.or (pi_enum hg hm (pa_cons ha pa_nil hs) hs) (pi_enumT hg hm (pa_cons ha pa_nil hs) hs)).imp fun σ H R h => ?_
  obtain ⟨m, env, rfl, s, er, o⟩ := h
  simp only [Ev.iEnum] at o
  cases hfa : fa env m.S with
  | bad => rw [hfa] at o; exact o.elim
  | exc y S => rw [hfa] at o; exact .inl ⟨m, env, rfl, s, er, by rw [hfa]; exact o⟩
  | ok v S =>
    rw [hfa] at o
    simp only [bind_ok] at o
    cases v with
    | dat c =>
      dsimp only at o
      obtain ⟨cs, e, o2⟩ := OutG.opt o
      cases c <;> try (cases e; done)
      case list es =>
        cases e
        refine .inl ⟨m, env, rfl, s, er, ?_⟩
        rw [hfa]
        intro u m1 eS s1 g1 r1
        subst eS
        obtain ⟨a', xs, rfl, sa, _, ra⟩ := Rp.lst_inv r1
        exact ⟨a', xs, rfl, m1.le.sqL sa, (OutG.grow o2 g1).here rfl s1 ⟨trivial, steps_enumL sa ra⟩⟩
      case tuple es =>
        cases e
        refine .inr ⟨m, env, rfl, s, er, ?_⟩
        rw [hfa]
        intro u m1 eS s1 g1 r1
        subst eS
        obtain ⟨a', xs, rfl, sa, _, ra⟩ := Rp.tup_inv r1
        exact ⟨a', xs, rfl, m1.le.sqT sa, (OutG.grow o2 g1).here rfl s1 ⟨trivial, steps_enumT sa ra⟩⟩
    | _ => exact o.elim
/-! a list that is changed -/
theorem s_app {W : XW} {apos cpos spos : Pos} (ha : PE X a (tE (ctOf X) W fa)) (hb : PE X b (tE (ctOf X) W fb)) (hbase : attributeBase a "append" X.env (eval a X.env) = eval a X.env := by rfl)
    (hfew : ((backTo cpos (starEach [b] X.env)).all (fun x => !x.1) && (backToKw cpos (keywordEach [] X.env)).all (fun x => x.1.isSome)
      && decide ([b].length + ([] : List Keyword).length + (if ([] : List Keyword).isEmpty then 0 else 1) < 30)) = true := by rfl)
    (hline : (apos.endLine == cpos.line) = true := by rfl) (hs : starEach [b] X.env = (false, eval b X.env) :: starEach [] X.env := by rfl) (hplain : (backTo cpos (starEach [] X.env)).any (·.1) = false := by rfl)
    (hsw : swapsWith (.Call (.Attribute a "append" apos) [b] [] cpos) none spos.line X.env = pure false := by rfl) :
    PS X (.Expr (.Call (.Attribute a "append" apos) [b] [] cpos) spos) (tS (ctOf X) W (sApp fa fb)) := by
  refine (ps_expr (pe_bm PySem.F.plainAttrs_list PySem.F.slot_list_append PySem.F.type_list_append mt_append ha (pa_cons hb pa_nil hs) hbase hfew hline hs hplain) hsw).imp fun D σ H h => ?_
  obtain ⟨m, env, rfl, s, er, o⟩ := h
  refine ⟨m, env, rfl, s, er, ?_⟩
  simp only [sApp] at o
  cases hfa : fa env m.S with
  | bad => rw [hfa] at o; exact o
  | exc y S => rw [hfa] at o; exact fun m' e s' g => o σ m' e s' g (er.grow g)
  | ok v S =>
    rw [hfa] at o
    simp only [andThen] at o
    intro u m1 eS s1 g1 r1
    subst eS
    have o1 := OutS.grow o g1
    by_cases hL : isLst m1.S v = true
    · rw [if_pos hL] at o1
      obtain ⟨n, ds, rfl, hS⟩ : ∃ n ds, v = .ref n ∧ m1.S[n]? = some (some (.lst ds)) := by
        cases v with
        | ref n =>
          simp only [isLst] at hL
          split at hL
          · rename_i ds hS
            exact ⟨n, ds, rfl, hS⟩
          · cases hL
        | _ => cases hL
      obtain ⟨a', hl, rfl⟩ := r1
      obtain ⟨a2, hl2, xs, hx, zx, rx⟩ := s1.cell n _ hS
      rw [hl] at hl2
      cases hl2
      refine ⟨.inl ⟨rfl, xs, .of hx⟩, m1, env, rfl, s1, er.grow g1, OutS.thenE (er.grow g1) o1 fun y m2 w s2 g2 r2 o2 => ?_⟩
      cases w with
      | dat d =>
        dsimp only at o2
        cases hS2 : m2.S[n]? with
        | none => rw [hS2] at o2; exact o2.elim
        | some q =>
          rw [hS2] at o2
          cases q with
          | none => exact o2.elim
          | some c =>
            cases c with
            | lst es =>
              dsimp only at o2
              by_cases hz : es.length < lineN
              · rw [if_pos hz] at o2
                have hl' := prefix_get g2.pre hl
                obtain ⟨a3, hl3, ys, hy, zy, ry⟩ := s2.cell n _ hS2
                rw [hl'] at hl3
                cases hl3
                rw [← line_eq, ← ry.length] at hz
                refine ⟨a', ys, y, rfl, rfl, hy, hz, ?_⟩
                have hc : CellAt (ctOf X) m2.G (upd m2.H a' (.lst (ys ++ [y]))) a' (.lst (es ++ [d])) := ⟨ys ++ [y], upd_same, by rw [List.length_append]; exact hz, ry.snoc r2⟩
                exact o2 σ (m2.put n a' (.lst (ys ++ [y])) (.lst (es ++ [d]))) rfl (s2.put hS2 hl' hc) (s2.growP hS2 hl') (((er.grow g1).grow g2).grow (s2.growP hS2 hl'))
              · rw [if_neg hz] at o2
                exact o2.elim
            | _ => exact o2.elim
      | _ => exact o2.elim
    · rw [if_neg hL] at o1
      exact o1.elim
/-- xs[i] = e -/
theorem s_put {W : XW} {c : Expr} {fc : Fe} {spos : Pos} (hc : PE X c (tE (ctOf X) W fc)) (ha : PE X a (tE (ctOf X) W fa)) (hb : PE X b (tE (ctOf X) W fb))
    (hA : ∀ v, assign (.Subscript a b pos) X.env v = (do
      let ov ← holding [v] (eval a X.env)
      let iv ← holding [v, ov] (eval b X.env)
      standAt pos
      holding [v, ov, iv] (setItem ov iv v)
      release [v, ov, iv] []) := by intro _; rfl)
    (hs : swapsWithSole [.Subscript a b pos] c spos.line X.env = pure false := by rfl) (hw : swappedStores [.Subscript a b pos] c X.env = pure none := by rfl)
    (h1 : (assignEach [.Subscript a b pos] X.env).map (·.2) = [assign (.Subscript a b pos) X.env] := by rfl) :
    PS X (.Assign [.Subscript a b pos] c spos) (tS (ctOf X) W (sPut fc fa fb)) := by
  refine (ps_asg hc (pg_sub ha hb set_list hA) hs hw h1).imp fun D σ H h => ?_
  obtain ⟨m, env, rfl, s, er, o⟩ := h
  refine ⟨m, env, rfl, s, er, OutS.thenE er o fun z m1 vz s1 g1 r1 o1 => ⟨m1, env, rfl, s1, er.grow g1, OutS.thenE (er.grow g1) o1 fun x m2 vx s2 g2 r2 o2 => ⟨m2, env, rfl, s2, (er.grow g1).grow g2, OutS.thenE ((er.grow g1).grow g2) o2 fun y m3 vy s3 g3 r3 o3 => ?_⟩⟩⟩
  have er3 := ((er.grow g1).grow g2).grow g3
  split at o3
  · rename_i n i d
    cases hS : m3.S[n]? with
    | none => rw [hS] at o3; exact o3.elim
    | some q =>
      rw [hS] at o3
      cases q with
      | none => exact o3.elim
      | some c =>
        cases c with
        | lst es =>
          dsimp only at o3
          cases hi : ixOf es.length i with
          | none => rw [hi] at o3; exact o3.elim
          | some j =>
            rw [hi] at o3
            obtain ⟨a', hl, rfl⟩ := r2
            cases (Rp.int_inv r3)
            have hl' := prefix_get g3.pre hl
            obtain ⟨a3, hl3, ys, hy, zy, ry⟩ := s3.cell n _ hS
            rw [hl'] at hl3
            cases hl3
            have rd : Rp X.K m3.G z d := (Rp.sub g3.sub (Rp.sub g2.sub r1))
            refine ⟨a', ys, i, j, rfl, rfl, hy, by rw [ry.length, ← ixOf_eq]; exact hi, ?_⟩
            have hcell : CellAt (ctOf X) m3.G (upd m3.H a' (.lst (ys.set j z))) a' (.lst (es.set j d)) := ⟨ys.set j z, upd_same, by simpa using zy, ry.set rd j⟩
            exact o3 σ (m3.put n a' (.lst (ys.set j z)) (.lst (es.set j d))) rfl (s3.put hS hl' hcell) (s3.growP hS hl') (er3.grow (s3.growP hS hl'))
        | _ => exact o3.elim
  · exact o3.elim
end
end Ev

set_option Elab.async false
set_option linter.all false
set_option maxRecDepth 100000
set_option maxHeartbeats 4000000
/-! sets made by comprehensions -/
namespace Ev
open PySem PySem.Spec PyProof.Rows L2 Gx
/-- each int once -/
def addI (acc : List Int) (d : Int) : List Int := if (acc.any fun j => decide (d = j)) = true then acc else acc ++ [d]
def onceI (ns : List Int) : List Int := ns.foldl addI []
def addK (acc : List Key) (d : Key) : List Key := if (acc.any fun j => decide (d = j)) = true then acc else acc ++ [d]
def onceK (ns : List Key) : List Key := ns.foldl addK []
theorem addTo_int (acc : List Int) (i : Int) : addTo (acc.map PyData.int) (.int i) = (addI acc i).map PyData.int := by
  unfold addTo addI
  have h : ((acc.map PyData.int).any fun z => PyData.eqv z (.int i)) = acc.any fun j => decide (i = j) := by
    rw [List.any_map]
    congr 1
    funext j
    show (j == i) = decide (i = j)
    by_cases e : i = j
    · subst e; simp
    · simp [e, Ne.symm e]
  rw [h]
  split <;> simp
theorem once_int (ns : List Int) : once (ns.map PyData.int) = (onceI ns).map PyData.int := by
  have key : ∀ (l acc : List Int), (l.map PyData.int).foldl addTo (acc.map PyData.int) = (l.foldl addI acc).map PyData.int := by
    intro l
    induction l with
    | nil => intro acc; rfl
    | cons a l ih =>
      intro acc
      rw [List.map_cons, List.foldl_cons, List.foldl_cons, addTo_int, ih]
  exact key ns []
theorem eqv_key (a b : Key) : PyData.eqv (keyD a) (keyD b) = decide (b = a) := by
  cases a with
  | inl i =>
    cases b with
    | inl j =>
      show (i == j) = _
      by_cases e : i = j
      · subst e; simp
      · have : ¬ (Sum.inl j : Key) = Sum.inl i := fun q => e (Sum.inl.inj q).symm
        simp [e, this]
    | inr y => rfl
  | inr x =>
    cases b with
    | inl j => rfl
    | inr y =>
      show (x == y) = _
      by_cases e : x = y
      · subst e; simp
      · have : ¬ (Sum.inr y : Key) = Sum.inr x := fun q => e (Sum.inr.inj q).symm
        rw [decide_eq_false this]
        exact beq_eq_false_iff_ne.mpr e
theorem addTo_key (acc : List Key) (i : Key) : addTo (acc.map keyD) (keyD i) = (addK acc i).map keyD := by
  unfold addTo addK
  have h : ((acc.map keyD).any fun z => PyData.eqv z (keyD i)) = acc.any fun j => decide (i = j) := by
    rw [List.any_map]
    congr 1
    funext j
    exact eqv_key j i
  rw [h]
  split <;> simp
theorem once_key (ns : List Key) : once (ns.map keyD) = (onceK ns).map keyD := by
  have key : ∀ (l acc : List Key), (l.map keyD).foldl addTo (acc.map keyD) = (l.foldl addK acc).map keyD := by
    intro l
    induction l with
    | nil => intro acc; rfl
    | cons a l ih =>
      intro acc
      rw [List.map_cons, List.foldl_cons, List.foldl_cons, addTo_key, ih]
  exact key ns []
theorem addI_nodup {acc : List Int} (h : acc.Nodup) (i : Int) : (addI acc i).Nodup := by
  unfold addI
  split
  · exact h
  · rename_i hn
    refine List.nodup_append.mpr ⟨h, by simp, fun a ha b hb e => hn ?_⟩
    have : b = i := by simpa using hb
    subst this
    subst e
    exact List.any_eq_true.mpr ⟨a, ha, by simp⟩
theorem addK_nodup {acc : List Key} (h : acc.Nodup) (i : Key) : (addK acc i).Nodup := by
  unfold addK
  split
  · exact h
  · rename_i hn
    refine List.nodup_append.mpr ⟨h, by simp, fun a ha b hb e => hn ?_⟩
    have : b = i := by simpa using hb
    subst this
    subst e
    exact List.any_eq_true.mpr ⟨a, ha, by simp⟩
theorem onceI_nodup (ns : List Int) : (onceI ns).Nodup := by
  have key : ∀ (l acc : List Int), acc.Nodup → (l.foldl addI acc).Nodup := by
    intro l
    induction l with
    | nil => exact fun _ h => h
    | cons a l ih => exact fun acc h => ih _ (addI_nodup h a)
  exact key ns [] .nil
theorem onceK_nodup (ns : List Key) : (onceK ns).Nodup := by
  have key : ∀ (l acc : List Key), acc.Nodup → (l.foldl addK acc).Nodup := by
    intro l
    induction l with
    | nil => exact fun _ h => h
    | cons a l ih => exact fun acc h => ih _ (addK_nodup h a)
  exact key ns [] .nil
theorem onceI_len (ns : List Int) : (onceI ns).length ≤ ns.length := by
  have key : ∀ (l acc : List Int), (l.foldl addI acc).length ≤ acc.length + l.length := by
    intro l
    induction l with
    | nil => intro acc; simp
    | cons a l ih =>
      intro acc
      have h1 := ih (addI acc a)
      have h2 : (addI acc a).length ≤ acc.length + 1 := by unfold addI; split <;> simp
      rw [List.foldl_cons, List.length_cons]
      omega
  unfold onceI
  simpa using key ns []
theorem onceK_len (ns : List Key) : (onceK ns).length ≤ ns.length := by
  have key : ∀ (l acc : List Key), (l.foldl addK acc).length ≤ acc.length + l.length := by
    intro l
    induction l with
    | nil => intro acc; simp
    | cons a l ih =>
      intro acc
      have h1 := ih (addK acc a)
      have h2 : (addK acc a).length ≤ acc.length + 1 := by unfold addK; split <;> simp
      rw [List.foldl_cons, List.length_cons]
      omega
  unfold onceK
  simpa using key ns []
theorem onceI_snoc (ns : List Int) (i : Int) : onceI (ns ++ [i]) = addI (onceI ns) i := by unfold onceI; rw [List.foldl_append]; rfl
theorem onceK_snoc (ns : List Key) (i : Key) : onceK (ns ++ [i]) = addK (onceK ns) i := by unfold onceK; rw [List.foldl_append]; rfl
/-- the set's description behind one more -/
theorem addI_set (w : World) (D : Addr) (l : List Int) (k : Int) :
    SetO w D (fun j => (l.any fun i => decide (j = i)) || decide (j = k)) (if (l.any fun i => decide (k = i)) = true then l.length else l.length + 1) = SetO w D (fun j => (addI l k).any fun i => decide (j = i)) (addI l k).length := by
  unfold addI
  by_cases h : (l.any fun i => decide (k = i)) = true
  · rw [if_pos h, if_pos h]
    congr 1
    funext j
    by_cases e : j = k
    · subst e
      rw [h]
      rfl
    · simp [e]
  · rw [if_neg h, if_neg h]
    congr 1
    · funext j
      rw [List.any_append]
      simp
    · simp
theorem addK_set (P : Program) (w : World) (D : Addr) (l : List Key) (k : Key) :
    SetK P w D (fun j => (l.any fun i => decide (j = i)) || decide (j = k)) (if (l.any fun i => decide (k = i)) = true then l.length else l.length + 1) = SetK P w D (fun j => (addK l k).any fun i => decide (j = i)) (addK l k).length := by
  unfold addK
  by_cases h : (l.any fun i => decide (k = i)) = true
  · rw [if_pos h, if_pos h]
    congr 1
    funext j
    by_cases e : j = k
    · subst e
      rw [h]
      simp
    · simp [e]
  · rw [if_neg h, if_neg h]
    congr 1
    · funext j
      rw [List.any_append]
      simp
    · simp
def AccI (w : World) : MS → Addr → List PyData → Prop := fun m D acc => ∃ ns : List Int, acc = ns.map PyData.int ∧ m.H D = some (SetO w D (fun j => (onceI ns).any fun i => decide (j = i)) (onceI ns).length)
def AccK (P : Program) (w : World) : MS → Addr → List PyData → Prop := fun m D acc => ∃ ns : List Key, acc = ns.map keyD ∧ m.H D = some (SetK P w D (fun j => (onceK ns).any fun i => decide (j = i)) (onceK ns).length)
theorem accI {w : World} : AccOk (AccI w) := ⟨fun hD g ⟨ns, e, h⟩ => ⟨ns, e, (g.hid _ hD).trans h⟩⟩
theorem accK {P : Program} {w : World} : AccOk (AccK P w) := ⟨fun hD g ⟨ns, e, h⟩ => ⟨ns, e, (g.hid _ hD).trans h⟩⟩
def limS : Nat := 2000
section
variable {Y : Cx} {elt : Expr} {W : XW} {fe : Fe} {D : Addr} {vs : List Nat}
theorem cEI_ok {fe : Fe} {env : MEnv} {S S' : Store} {ds : List PyData} (h : cEI fe env S = .ok ds S') : ∃ i : Int, fe env S = .ok (.dat (.int i)) S' ∧ ds = [.int i] := by
  simp only [cEI] at h
  cases hf : fe env S with
  | bad => rw [hf] at h; cases h
  | exc y S => rw [hf] at h; cases h
  | ok v S1 =>
    rw [hf] at h
    simp only [bind_ok] at h
    split at h
    · cases h; exact ⟨_, rfl, rfl⟩
    · cases h
theorem cEK_ok {fe : Fe} {env : MEnv} {S S' : Store} {ds : List PyData} (h : cEK fe env S = .ok ds S') : ∃ k : Key, fe env S = .ok (.dat (keyD k)) S' ∧ ds = [keyD k] := by
  simp only [cEK] at h
  cases hf : fe env S with
  | bad => rw [hf] at h; cases h
  | exc y S => rw [hf] at h; cases h
  | ok v S1 =>
    rw [hf] at h
    simp only [bind_ok] at h
    split at h
    · rename_i i; cases h; exact ⟨.inl i, rfl, rfl⟩
    · rename_i i; cases h; exact ⟨.inr i, rfl, rfl⟩
    · cases h
theorem rp_key {K : PySem.W.Frag} {G : Hp} {u : V} {k : Key} (h : Rp K G u (keyD k)) : u = kV k := by
  cases k with
  | inl i => exact h.int_inv
  | inr x => exact h.str_inv.1
theorem does_sI (hx : Y.xe = fun _ _ => False) (he : PE Y elt (tE (ctOf Y) W fe)) : Does Y (emitSet elt (.ref D) Y.env) (emC (ctOf Y) (AccI Y.w) limS (cEI fe) D) vs := by
  intro pins s σ H Nx I h
  refine does_setI hx he pins s σ H Nx I ?_
  obtain ⟨m, env, acc, ds, S', rfl, sr, hD, er, ⟨ns, rfl, eD⟩, hc, hl, fin⟩ := h
  obtain ⟨i, hf, rfl⟩ := cEI_ok hc
  refine ⟨m, env, rfl, sr, er, ?_⟩
  rw [hf]
  intro u m1 eS s1 g1 r1
  have hD1 : D ∈ m1.X := by rw [g1.hX]; exact hD
  refine ⟨i, _, _, Rp.int_inv r1, (g1.hid D hD).trans eD, ?_, ?_⟩
  · have h1 := onceI_len ns
    have h2 : scanBound = 4096 := rfl
    simp only [List.length_map, List.length_singleton] at hl
    have h3 : limS = 2000 := rfl
    omega
  · obtain ⟨s2, g2⟩ := s1.putX (o := SetO Y.w D (fun j => (addI (onceI ns) i).any fun i => decide (j = i)) (addI (onceI ns) i).length) hD1
    have q := fin (m1.putX D (SetO Y.w D (fun j => (addI (onceI ns) i).any fun i => decide (j = i)) (addI (onceI ns) i).length)) eS s2 (g1.d.trans g2)
      ⟨ns ++ [i], by simp, by rw [onceI_snoc]; exact upd_same⟩
    have e : upd m1.H D (SetO Y.w D (fun j => ((onceI ns).any fun i => decide (j = i)) || decide (j = i)) (if ((onceI ns).any fun i_1 => decide (i = i_1)) = true then (onceI ns).length else (onceI ns).length + 1)) =
        (m1.putX D (SetO Y.w D (fun j => (addI (onceI ns) i).any fun i => decide (j = i)) (addI (onceI ns) i).length)).H := by
      rw [addI_set]
      rfl
    rw [e]
    exact q
theorem does_sK (hx : Y.xe = fun _ _ => False) (he : PE Y elt (tE (ctOf Y) W fe)) : Does Y (emitSet elt (.ref D) Y.env) (emC (ctOf Y) (AccK Y.prog Y.w) limS (cEK fe) D) vs := by
  intro pins s σ H Nx I h
  refine does_setK hx he pins s σ H Nx I ?_
  obtain ⟨m, env, acc, ds, S', rfl, sr, hD, er, ⟨ns, rfl, eD⟩, hc, hl, fin⟩ := h
  obtain ⟨i, hf, rfl⟩ := cEK_ok hc
  refine ⟨m, env, rfl, sr, er, ?_⟩
  rw [hf]
  intro u m1 eS s1 g1 r1
  have hD1 : D ∈ m1.X := by rw [g1.hX]; exact hD
  refine ⟨i, _, _, rp_key r1, (g1.hid D hD).trans eD, ?_, ?_⟩
  · have h1 := onceK_len ns
    have h2 : scanBound = 4096 := rfl
    simp only [List.length_map, List.length_singleton] at hl
    have h3 : limS = 2000 := rfl
    omega
  · obtain ⟨s2, g2⟩ := s1.putX (o := SetK Y.prog Y.w D (fun j => (addK (onceK ns) i).any fun i => decide (j = i)) (addK (onceK ns) i).length) hD1
    have q := fin (m1.putX D (SetK Y.prog Y.w D (fun j => (addK (onceK ns) i).any fun i => decide (j = i)) (addK (onceK ns) i).length)) eS s2 (g1.d.trans g2)
      ⟨ns ++ [i], by simp, by rw [onceK_snoc]; exact upd_same⟩
    have e : upd m1.H D (SetK Y.prog Y.w D (fun j => ((onceK ns).any fun i => decide (j = i)) || decide (j = i)) (if ((onceK ns).any fun i_1 => decide (i = i_1)) = true then (onceK ns).length else (onceK ns).length + 1)) =
        (m1.putX D (SetK Y.prog Y.w D (fun j => (addK (onceK ns) i).any fun i => decide (j = i)) (addK (onceK ns) i).length)).H := by
      rw [addK_set]
      rfl
    rw [e]
    exact q
end
section
variable {X : Cx} {W0 : WX} {k : Nat} {elt t i t1 i1 : Expr} {ifs ifs1 : List Expr} {sc : Scope} {pos : Pos} {fe : Fe} {fi fi1 : Fi} {g g1 : Fg} {ft ft1 : Ft} {us us1 vs1 : List Nat} {own : List (Str × Nat)}
theorem sc_read {kd : Bool} {C : Ct} {W Wi : XW} {Acc : MS → Addr → List PyData → Prop} {o0 : Addr → HO} {fi : Fi} {g : Fg} {t : Ft} {b : Fc} {us vs : List Nat} {σ : LSt} {H : Hp} {Q : VK} (hA : AccOk Acc) (h0 : ∀ m D, D ∈ m.X → m.H D = some (o0 D) → Acc m D [])
    (hEnd : ∀ m D acc, Acc m D acc → ∃ o, m.H D = some o ∧ NoLk o ∧ SetIs C kd D o (once acc)) (hu : ∀ i ∈ us, i ∈ vs) (h : tE C W (eSc kd (cF vs fi g t b)) σ H Q) :
    tComp (tI C W fi) (tG C g us) (tT C Wi t) (emC C Acc limS b) vs o0 σ H Q := by
  obtain ⟨m, env, rfl, s, er, o⟩ := h
  simp only [eSc] at o
  cases hc : cF vs fi g t b env m.S with
  | bad => rw [hc] at o; exact o.elim
  | exc y S => rw [hc] at o; exact o.elim
  | ok ds S' =>
    rw [hc] at o
    simp only [noX_ok, bind_ok] at o
    by_cases z : ds.length < 2000
    · rw [if_pos z] at o
      refine comp_read hA h0 hu s er hc (Nat.le_of_lt z) fun D m' e s' ⟨m0, e0, n0, g0, eX, gw, hh⟩ ha => ?_
      obtain ⟨q1, q2, q3, q4⟩ := s'.done (m := m) (D := D) eX (g0.w.trans gw) hh
      obtain ⟨ob, eo, pl, si⟩ := hEnd m' D ds ha
      exact o (.ref D) ⟨m'.H, m'.L, m'.S, m.X⟩ e q1 q2 ⟨D, ob, rfl, q3.trans eo, pl, si⟩
    · rw [if_neg z] at o
      exact o.elim
theorem endI {C : Ct} (m : MS) (D : Addr) (acc : List PyData) (h : AccI C.w m D acc) : ∃ o, m.H D = some o ∧ NoLk o ∧ SetIs C true D o (once acc) := by
  obtain ⟨ns, rfl, e⟩ := h
  exact ⟨_, e, trivial, .inl ⟨rfl, onceI ns, onceI_nodup ns, once_int ns, rfl⟩⟩
theorem endK {C : Ct} (m : MS) (D : Addr) (acc : List PyData) (h : AccK C.P C.w m D acc) : ∃ o, m.H D = some o ∧ NoLk o ∧ SetIs C false D o (once acc) := by
  obtain ⟨ns, rfl, e⟩ := h
  exact ⟨_, e, trivial, .inr ⟨rfl, onceK ns, onceK_nodup ns, once_key ns, rfl⟩⟩
theorem x_sc1I (c : Cxt X W0 k) (hi : PI X t i (tI (ctOf X) (wOf (ctOf X) W0) fi)) (ok : BlkOk X.N X.env.scope sc own) (cl : Cl1 X sc k t ifs g us ft)
    (he : ∀ s H C cl fp, Cxt (blkOf X sc s H C cl fp) W0F k → PE (blkOf X sc s H C cl fp) elt (tE (ctOf X) (WB X) fe)) (hu : ∀ j ∈ us, j ∈ own.map (·.2) := by decide)
    (hs : ∀ x, foldedSetIterable i X.env x = pure x := by intro _; rfl) :
    PE X (.SetComp elt [⟨t, i, ifs, 0⟩] sc pos) (tE (ctOf X) (wOf (ctOf X) W0) (eSc true (cF (own.map (·.2)) fi g ft (cEI fe)))) :=
  (pe_comp (comp_set1 hs) c.calm c.nd hi ok makes_setI (fun s H C l fp => cl.tg s H C l fp (c.blk sc s H C l fp)) (fun s H C l fp => cl.ts s H C l fp (c.blk sc s H C l fp))
    (fun D s H C l fp => does_sI rfl (he s H C l fp (c.blk sc s H C l fp)))).imp fun _ _ _ h => sc_read accI (fun m D _ e => ⟨[], rfl, e⟩) (endI (C := ctOf X)) hu h
theorem x_sc1K (c : Cxt X W0 k) (hi : PI X t i (tI (ctOf X) (wOf (ctOf X) W0) fi)) (ok : BlkOk X.N X.env.scope sc own) (cl : Cl1 X sc k t ifs g us ft)
    (he : ∀ s H C cl fp, Cxt (blkOf X sc s H C cl fp) W0F k → PE (blkOf X sc s H C cl fp) elt (tE (ctOf X) (WB X) fe)) (hu : ∀ j ∈ us, j ∈ own.map (·.2) := by decide)
    (hs : ∀ x, foldedSetIterable i X.env x = pure x := by intro _; rfl) :
    PE X (.SetComp elt [⟨t, i, ifs, 0⟩] sc pos) (tE (ctOf X) (wOf (ctOf X) W0) (eSc false (cF (own.map (·.2)) fi g ft (cEK fe)))) :=
  (pe_comp (comp_set1 hs) c.calm c.nd hi ok makes_setK (fun s H C l fp => cl.tg s H C l fp (c.blk sc s H C l fp)) (fun s H C l fp => cl.ts s H C l fp (c.blk sc s H C l fp))
    (fun D s H C l fp => does_sK rfl (he s H C l fp (c.blk sc s H C l fp)))).imp fun _ _ _ h => sc_read accK (fun m D _ e => ⟨[], rfl, e⟩) (endK (C := ctOf X)) hu h
theorem doesS2 {Acc : MS → Addr → List PyData → Prop} {b : Fc} (hA : AccOk Acc) (c : Cxt X W0 k) (hi1 : ∀ s H C cl fp, Cxt (blkOf X sc s H C cl fp) W0F k → PI (blkOf X sc s H C cl fp) t1 i1 (tI (ctOf X) (WB X) fi1)) (cl1 : Cl1 X sc k t1 ifs1 g1 us1 ft1)
    (hb : ∀ D s H C cl fp, Cxt (blkOf X sc s H C cl fp) W0F k → Does (blkOf X sc s H C cl fp) (emitSet elt (.ref D) (compEnvC sc cl C X.env)) (emC (ctOf X) Acc limS b D) vs1) (hu1 : ∀ j ∈ us1, j ∈ vs1) (hv : ∀ j ∈ vs1, j ∈ own.map (·.2))
    (hs1 : ∀ (env : Env) x, foldedSetIterable i1 env x = pure x) (D : Addr) (s : Shared) (H : Hp) (C : Addr) (l : List (Str × Addr)) (fp : List Addr) :
    Does (blkOf X sc s H C l fp) (innerOf (.SetComp elt [⟨t, i, ifs, 0⟩, ⟨t1, i1, ifs1, 0⟩] sc pos) i1 (.ref D) (compEnvC sc l C X.env)) (emC (ctOf X) Acc limS (cF vs1 fi1 g1 ft1 b) D) (own.map (·.2)) := by
  have cb := c.blk sc s H C l fp
  have dd := does_inner (c := .SetComp elt [⟨t, i, ifs, 0⟩, ⟨t1, i1, ifs1, 0⟩] sc pos) (Y := blkOf X sc s H C l fp) (vs := own.map (·.2)) plain_set begun_set1 cb.calm rfl (fun it => turn_set2) (hi1 s H C l fp cb) (cl1.tg s H C l fp cb) (cl1.ts s H C l fp cb)
    (hb D s H C l fp cb) hv (hs1 _)
  intro pins s' σ H' Nx I h
  exact dd pins s' σ H' Nx I (em_inner hA hu1 h)
theorem x_sc2I (c : Cxt X W0 k) (hi : PI X t i (tI (ctOf X) (wOf (ctOf X) W0) fi)) (ok : BlkOk X.N X.env.scope sc own) (cl : Cl1 X sc k t ifs g us ft)
    (hi1 : ∀ s H C cl fp, Cxt (blkOf X sc s H C cl fp) W0F k → PI (blkOf X sc s H C cl fp) t1 i1 (tI (ctOf X) (WB X) fi1)) (cl1 : Cl1 X sc k t1 ifs1 g1 us1 ft1)
    (he : ∀ s H C cl fp, Cxt (blkOf X sc s H C cl fp) W0F k → PE (blkOf X sc s H C cl fp) elt (tE (ctOf X) (WB X) fe)) (hu : ∀ j ∈ us, j ∈ own.map (·.2) := by decide) (hu1 : ∀ j ∈ us1, j ∈ vs1 := by decide) (hv : ∀ j ∈ vs1, j ∈ own.map (·.2) := by decide)
    (hs : ∀ x, foldedSetIterable i X.env x = pure x := by intro _; rfl) (hs1 : ∀ (env : Env) x, foldedSetIterable i1 env x = pure x := by intro _ _; rfl) :
    PE X (.SetComp elt [⟨t, i, ifs, 0⟩, ⟨t1, i1, ifs1, 0⟩] sc pos) (tE (ctOf X) (wOf (ctOf X) W0) (eSc true (cF (own.map (·.2)) fi g ft (cF vs1 fi1 g1 ft1 (cEI fe))))) :=
  (pe_comp (comp_set2 hs) c.calm c.nd hi ok makes_setI (fun s H C l fp => cl.tg s H C l fp (c.blk sc s H C l fp)) (fun s H C l fp => cl.ts s H C l fp (c.blk sc s H C l fp))
    (doesS2 accI c hi1 cl1 (fun D s H C l fp cb => does_sI rfl (he s H C l fp cb)) hu1 hv hs1)).imp fun _ _ _ h => sc_read accI (fun m D _ e => ⟨[], rfl, e⟩) (endI (C := ctOf X)) hu h
theorem x_sc2K (c : Cxt X W0 k) (hi : PI X t i (tI (ctOf X) (wOf (ctOf X) W0) fi)) (ok : BlkOk X.N X.env.scope sc own) (cl : Cl1 X sc k t ifs g us ft)
    (hi1 : ∀ s H C cl fp, Cxt (blkOf X sc s H C cl fp) W0F k → PI (blkOf X sc s H C cl fp) t1 i1 (tI (ctOf X) (WB X) fi1)) (cl1 : Cl1 X sc k t1 ifs1 g1 us1 ft1)
    (he : ∀ s H C cl fp, Cxt (blkOf X sc s H C cl fp) W0F k → PE (blkOf X sc s H C cl fp) elt (tE (ctOf X) (WB X) fe)) (hu : ∀ j ∈ us, j ∈ own.map (·.2) := by decide) (hu1 : ∀ j ∈ us1, j ∈ vs1 := by decide) (hv : ∀ j ∈ vs1, j ∈ own.map (·.2) := by decide)
    (hs : ∀ x, foldedSetIterable i X.env x = pure x := by intro _; rfl) (hs1 : ∀ (env : Env) x, foldedSetIterable i1 env x = pure x := by intro _ _; rfl) :
    PE X (.SetComp elt [⟨t, i, ifs, 0⟩, ⟨t1, i1, ifs1, 0⟩] sc pos) (tE (ctOf X) (wOf (ctOf X) W0) (eSc false (cF (own.map (·.2)) fi g ft (cF vs1 fi1 g1 ft1 (cEK fe))))) :=
  (pe_comp (comp_set2 hs) c.calm c.nd hi ok makes_setK (fun s H C l fp => cl.tg s H C l fp (c.blk sc s H C l fp)) (fun s H C l fp => cl.ts s H C l fp (c.blk sc s H C l fp))
    (doesS2 accK c hi1 cl1 (fun D s H C l fp cb => does_sK rfl (he s H C l fp cb)) hu1 hv hs1)).imp fun _ _ _ h => sc_read accK (fun m D _ e => ⟨[], rfl, e⟩) (endK (C := ctOf X)) hu h
end
/-! sorted and len of a set -/
section
variable {X : Cx} {W : XW} {a : Expr} {fa : Fe} {p pos : Pos}
theorem sortI_set {ns l : List Int} (hn : l.Nodup) (hp : ns.Pairwise (· < ·)) (hm : ∀ k : Int, k ∈ ns ↔ (l.any fun j => decide (k = j)) = true) : ns = sortI l := by
  refine sortI_of ?_ (hp.imp fun h => Int.le_of_lt h)
  refine (List.perm_ext_iff_of_nodup (hp.imp fun h => Int.ne_of_lt h) hn).mpr fun k => (hm k).trans ?_
  rw [List.any_eq_true]
  constructor
  · rintro ⟨j, hj, e⟩
    have := of_decide_eq_true e
    subst this
    exact hj
  · intro h
    exact ⟨k, h, by simp⟩
theorem intsD_map (ns : List Int) : intsD (ns.map PyData.int) = some ns := by
  induction ns with
  | nil => rfl
  | cons n ns ih =>
    show (intsD (ns.map PyData.int)).map _ = _
    rw [ih]
    rfl
theorem x_sortSet (ha : PE X a (tE (ctOf X) W fa)) (hc : X.calm = true) (hm : X.mg "sorted" = none) (hg : Gl X "sorted" := by rfl) (hs : starEach [a] X.env = [(false, eval a X.env)] := by rfl) :
    PE X (.Call (.Name "sorted" p) [a] [] pos) (tE (ctOf X) W (eSortSet fa)) := by
  refine (pe_callB (cr_sortedSet hc) hg hm (by decide +kernel) (pa_cons ha pa_nil hs) (by decide) (by decide) hs rfl).imp fun σ H Q h => ?_
  obtain ⟨m, env, rfl, s, er, o⟩ := h
  refine ⟨m, env, rfl, s, er, OutG.bind o fun x m1 v s1 g1 r1 o1 => ?_⟩
  cases v with
  | set kd ds =>
    cases kd with
    | false => exact o1.elim
    | true =>
    obtain ⟨d, e, o2⟩ := OutG.opt o1
    by_cases hl : ds.length < 64
    · rw [if_pos hl] at o2
      obtain ⟨b, ob, rfl, hb, nl, si⟩ := r1
      rcases si with ⟨_, ns, nd, rfl, rfl⟩ | ⟨_, ks, nd, rfl, rfl⟩
      · have e' : pSorted (.list (ns.map PyData.int)) = some (.list ((sortI ns).map PyData.int)) := by
          simp only [pSorted, intsD_map]
        rw [e'] at e
        cases e
        refine ⟨b, _, _, rfl, m1.le.ex _ _ trivial hb, by simpa using hl, fun ns' q hp hm' _ nq => ?_⟩
        rw [sortI_set nd hp hm']
        exact out_ans s1 o2 (.ref q) _ (same_new nq) (s1.newL nq (by
          have : sizeLine = 16777216 := sizeLine_eq
          simp [sortI] at hl ⊢
          omega) (rp_ints _))
      · rename_i hk
        cases hk
    · rw [if_neg hl] at o2
      exact o2.elim
  | _ => exact o1.elim
end
end Ev

set_option Elab.async false
set_option linter.all false
set_option maxRecDepth 100000
set_option maxHeartbeats 4000000
namespace Ev
open PySem PySem.Spec PyProof.Rows L2 Gx
/-- the built-in names are the built-ins -/
structure Bl (mg : Str → Option Value) : Prop where
  len : mg "len" = none
  abs : mg "abs" = none
  int : mg "int" = none
  range : mg "range" = none
  isinstance : mg "isinstance" = none
  all : mg "all" = none
  any : mg "any" = none
  sum : mg "sum" = none
  zip : mg "zip" = none
  enumerate : mg "enumerate" = none
  sorted : mg "sorted" = none
  tuple : mg "tuple" = none
  list : mg "list" = none
  dict : mg "dict" = none
  set : mg "set" = none
  min : mg "min" = none
  max : mg "max" = none
  repr : mg "repr" = none
  str : mg "str" = none
  bool : mg "bool" = none
section
variable {X : Cx} {W : XW} {x : Str} {p pos : Pos} {a b : Expr} {fa fb : Fe}
theorem x_gI {i : Int} (h : ∃ t, X.mg x = some (.int i t)) (hg : Gl X x := by rfl) (hd : (x == ("__debug__" : Str)) = false := by decide) : PE X (.Name x pos) (tE (ctOf X) W (eD (.int i))) := by
  obtain ⟨t, h⟩ := h
  exact x_c (pe_glob (v := .int i) hg h ⟨t, rfl⟩ hd) fun _ => .int i
theorem x_gS {z : Str} (h : ∃ t, X.mg x = some (.str z t)) (hg : Gl X x := by rfl) (hd : (x == ("__debug__" : Str)) = false := by decide) (hz : z.length ≤ sizeLine := by decide +kernel) : PE X (.Name x pos) (tE (ctOf X) W (eD (.str z))) := by
  obtain ⟨t, h⟩ := h
  exact x_c (pe_glob (v := .str z) hg h ⟨t, rfl⟩ hd) fun _ => .str z hz
theorem len0 : ∀ (env : MEnv) (S S' : Store) (vs : List Val), aN env S = .ok vs S' → vs.length = 0 := fun _ _ _ _ h => aN_len h
theorem lenS {a : Fe} {r : Fa} {n : Nat} (hr : ∀ env S S' vs, r env S = .ok vs S' → vs.length = n) : ∀ (env : MEnv) (S S' : Store) (vs : List Val), aC a r env S = .ok vs S' → vs.length = n + 1 := fun _ _ _ _ h => aC_len hr h
/-- len of a set of keys -/
theorem x_lenSet (ha : PE X a (tE (ctOf X) W fa)) (hm : X.mg "len" = none) (hg : Gl X "len" := by rfl) (hs : starEach [a] X.env = [(false, eval a X.env)] := by rfl) :
    PE X (.Call (.Name "len" p) [a] [] pos) (tE (ctOf X) W (eLenSet fa)) := by
  refine (pe_callB call_lenK hg hm (by decide +kernel) (pa_cons ha pa_nil hs) (by decide) (by decide) hs rfl).imp fun σ H Q h => ?_
  obtain ⟨m, env, rfl, s, er, o⟩ := h
  refine ⟨m, env, rfl, s, er, OutG.bind o fun x m1 v s1 g1 r1 o1 => ?_⟩
  cases v with
  | set kd ds =>
    cases kd with
    | true => exact o1.elim
    | false =>
    obtain ⟨b, ob, rfl, hb, nl, si⟩ := r1
    rcases si with ⟨hk, ns, nd, rfl, rfl⟩ | ⟨_, ks, nd, rfl, rfl⟩
    · cases hk
    · refine ⟨b, _, _, rfl, m1.le.ex _ _ trivial hb, ?_⟩
      have q := OutG.here o1 rfl s1 (b := .int (ks.length : Nat)) (by
        rw [List.length_map]
        exact Rp.int _)
      exact q
  | _ => exact o1.elim
/-- an own error class without __init__, over ValueError -/
structure XcV (K : PySem.W.Frag) (mg : Str → Option Value) (x : Str) : Prop where
  ex : ∃ C : Addr, mg x = some (.ref C) ∧ PySem.W.excIn K C [.type "ValueError", .type "Exception", .type "BaseException", .type "object"] "ValueError.__new__" = true ∧ PySem.W.keepIn K (.ref C) = true ∧
    PySem.W.subIn K (.ref C) (.type "BaseException") = some true ∧ PySem.W.typeIn K (.ref C) = some (.type "type")
theorem s_raise {W0 : WX} {k : Nat} {z : Str} {j : Nat} {p2 pos2 : Pos} (c : Cxt X W0 k) (h : XcV X.K X.mg x) (hg : Gl X x := by rfl) (hdb : (x == ("__debug__" : Str)) = false := by decide) :
    PS X (.Raise (some (.Call (.Name x p) [.Constant (.str z) j p2] [] pos)) none pos2) (tS (ctOf X) (wOf (ctOf X) W0) (sRaise ⟨x, none⟩)) := by
  obtain ⟨C, gC, xC, kC, b, t⟩ := h.ex
  refine (ps_raise c.calm c.tk (pmk_own PySem.F.excBase_ValueError xC gC kC (raises_own b t) hg hdb)).imp fun D σ H hh => ?_
  obtain ⟨m, env, rfl, s, er, o⟩ := hh
  exact o σ m rfl s Grow.refl er (.ref C) none ⟨gC, rfl⟩
/-! operations that give a new list, as a cell -/
/-- the answer is a new list -/
def AnsF (C : Ct) (m : MS) (r : PyData) (Q : VK) : Prop := ∃ ds, r = .list ds ∧ ∀ p xs, m.H p = none → xs.length ≤ sizeLine → RpAll C.K m.G xs ds → Q (.ref p) (upd m.H p (.lst xs))
def rF1 (C : Ct) (g : PyData → Option PyData) : List V → Hp → VK → Prop := fun xs H Q => ∃ x m c r, xs = [x] ∧ m.H = H ∧ SR C m ∧ Vw C.K m x c ∧ g c = some r ∧ AnsF C m r Q
def rF2 (C : Ct) (g : PyData → PyData → Option PyData) : R2 := fun x y H Q => ∃ m c d r, m.H = H ∧ SR C m ∧ Vw C.K m x c ∧ Vw C.K m y d ∧ g c d = some r ∧ AnsF C m r Q
theorem newC_ans {C : Ct} {env : MEnv} {σ : LSt} {m : MS} {o : Option PyData} {Q : VK} (s : SR C m) (h : Out C W env σ m (newC o m.S) Q) : ∃ r, o = some r ∧ AnsF C m r Q := by
  unfold newC at h
  split at h
  · rename_i ds
    refine ⟨_, rfl, ds, rfl, fun p xs np z r => ?_⟩
    refine h (.ref p) (m.cell p (.lst xs) (.lst ds)) rfl (s.newCell np ⟨xs, upd_same, z, r⟩) (s.growC np) ⟨p, ?_, rfl⟩
    show (m.L ++ [p])[m.S.length]? = some p
    rw [← s.len, List.getElem?_append_right (Nat.le_refl _)]
    simp
  · exact h.elim
theorem c_listF : CallR X (.type "list") (rF1 (ctOf X) pLst) := by
  intro pins s σ H xs us Q I rs h
  obtain ⟨x, m, c, r, rfl, rfl, sr, v1, e, ds', er, q⟩ := h
  cases c <;> try (cases e; done)
  case list ds =>
    cases e
    cases er
    obtain ⟨a, as, rfl, sq, hz, ra⟩ := v1.lst
    exact call_list_of pins s σ m.H _ us Q I rs ⟨a, as, rfl, .inl sq, fun l nl => q l as nl hz ra⟩
  case tuple ds =>
    cases e
    cases er
    obtain ⟨a, as, rfl, sq, hz, ra⟩ := v1.tup
    exact call_list_of pins s σ m.H _ us Q I rs ⟨a, as, rfl, .inr sq, fun l nl => q l as nl hz ra⟩
theorem o_addF : OpR X (binaryOp .Add) (rF2 (ctOf X) pAdd) := by
  intro pins s σ H x y v u Q I rx ry h
  obtain ⟨m, c, d, r, rfl, sr, v1, v2, e, ds', er, q⟩ := h
  subst er
  cases c <;> cases d <;> try (cases e; done)
  case str.str i j =>
    simp only [pAdd] at e
    split at e <;> cases e
  case tuple.tuple i j =>
    simp only [pAdd] at e
    split at e <;> cases e
  case list.list xs ys =>
    simp only [pAdd] at e
    split at e
    · rename_i hz
      cases e
      rw [← line_eq] at hz
      obtain ⟨a, as, rfl, sa, za, ra⟩ := v1.lst
      obtain ⟨b, bs, rfl, sb, zb, rb⟩ := v2.lst
      have la := ra.length
      have lb := rb.length
      exact op_catL pins s σ m.H _ _ v u Q I rx ry ⟨a, b, as, bs, rfl, rfl, sa, sb, by omega, fun p np => q p _ np (by rw [List.length_append]; omega) (ra.append rb)⟩
    · cases e
theorem x_t1C {T : String} {g : PyData → Option PyData} (hc : CallR X (.type T) (rF1 (ctOf X) g)) (ha : PE X a (tE (ctOf X) W fa)) (hm : X.mg x = none) (hv : bootBuiltins x = some (.type T)) (hg : Gl X x := by rfl) (hn : x ≠ "__name__" := by decide)
    (hdb : (x == ("__debug__" : Str)) = false := by decide) (hs : starEach [a] X.env = [(false, eval a X.env)] := by rfl) : PE X (.Call (.Name x p) [a] [] pos) (tE (ctOf X) W (e1C g fa)) := by
  refine (pe_callTy hc hg hm hv (pa_cons ha pa_nil hs) hn hdb hs rfl).imp fun σ H Q h => ?_
  obtain ⟨m, env, rfl, s, er, o⟩ := h
  refine ⟨m, env, rfl, s, er, OutG.bind o fun x m1 v s1 g1 r1 o1 => ?_⟩
  obtain ⟨r, e, an⟩ := newC_ans s1 o1
  obtain ⟨c, e1, e⟩ := Option.bind_eq_some_iff.mp e
  exact ⟨x, m1, c, r, rfl, rfl, s1, s1.view r1 e1, e, an⟩
theorem x_opC {op : Operator} {g : PyData → PyData → Option PyData} (ho : OpR X (binaryOp op) (rF2 (ctOf X) g)) (ha : PE X a (tE (ctOf X) W fa)) (hb : PE X b (tE (ctOf X) W fb)) :
    PE X (.BinOp a op b pos) (tE (ctOf X) W (e2C g fa fb)) := by
  refine (pe_op ho ha hb).imp fun σ H Q h => ?_
  obtain ⟨m, env, rfl, s, er, o⟩ := h
  refine ⟨m, env, rfl, s, er, OutG.bind o fun x m1 v s1 g1 r1 o1 => ⟨m1, env, rfl, s1, er.grow g1, OutG.bind o1 fun y m2 w s2 g2 r2 o2 => ?_⟩⟩
  obtain ⟨r, e, an⟩ := newC_ans s2 o2
  obtain ⟨c, e1, e⟩ := Option.bind_eq_some_iff.mp e
  obtain ⟨d, e2, e⟩ := Option.bind_eq_some_iff.mp e
  exact ⟨m2, c, d, r, rfl, s2, s2.view (r1.grow g2) e1, s2.view r2 e2, e, an⟩
/-! range(a, b, -1) -/
theorem steps_down {C : Ct} {m0 : MS} {lo hi : Int} : Steps C m0 (Itc lo (-1) (lo - hi).toNat) (downOf lo hi, none) := by
  intro m sm g hk
  refine ⟨by show (lo - hi).toNat ≤ _; simp [downOf], fun i v' e' => ?_⟩
  simp only [downOf, List.getElem?_map] at e'
  obtain ⟨j, e2, rfl⟩ := Option.map_eq_some_iff.mp e'
  obtain ⟨hlt, ej⟩ := List.getElem?_eq_some_iff.mp e2
  simp at ej hlt
  subst ej
  refine ⟨by show _ < (lo - hi).toNat; omega, fun x H' yl => ?_⟩
  obtain ⟨rfl, rfl⟩ := yl
  exact ⟨m, rfl, rfl, sm, Grow.refl, .int _⟩
theorem i_rangeD {tg : Expr} {k : Nat} {p1 p2 : Pos} (ha : PE X a (tE (ctOf X) W fa)) (hb : PE X b (tE (ctOf X) W fb)) (hm : X.mg "range" = none) (hg : Gl X "range" := by rfl)
    (hs : starEach [a, b, .UnaryOp .USub (.Constant (.int 1) k p1) p2] X.env = (false, eval a X.env) :: starEach [b, .UnaryOp .USub (.Constant (.int 1) k p1) p2] X.env := by rfl)
    (hs2 : starEach [b, .UnaryOp .USub (.Constant (.int 1) k p1) p2] X.env = (false, eval b X.env) :: starEach [.UnaryOp .USub (.Constant (.int 1) k p1) p2] X.env := by rfl)
    (hpl : (backTo pos (starEach [b, .UnaryOp .USub (.Constant (.int 1) k p1) p2] X.env)).any (·.1) = false := by rfl) :
    PI X tg (.Call (.Name "range" p) [a, b, .UnaryOp .USub (.Constant (.int 1) k p1) p2] [] pos) (tI (ctOf X) W (iRd fa fb)) := by
  refine (pi_range3 hg hm (pa_cons ha (pa_cons hb (pa_cons (pe_un un_neg pe_int) pa_nil rfl) hs2) hs) hs hpl).imp fun σ H R h => ?_
  obtain ⟨m, env, rfl, s, er, o⟩ := h
  refine ⟨m, env, rfl, s, er, OutG.bind o fun x m1 v s1 g1 r1 o1 => ⟨m1, env, rfl, s1, er.grow g1, OutG.bind o1 fun y m2 w s2 g2 r2 o2 => ?_⟩⟩
  have bad : ∀ {v w : Val} {S : Store} {Q}, OutG (ctOf X) W env σ (fun m J w => keeps w.2 m.S ∧ Steps (ctOf X) m J w) m2 (match v, w with
      | .dat (.int i), .dat (.int j) => if bnd i = true ∧ bnd j = true then .ok (downOf i j, none) S else .bad
      | _, _ => .bad) Q → ∃ i j, v = .dat (.int i) ∧ w = .dat (.int j) := by
    intro v w S Q h
    split at h
    · exact ⟨_, _, rfl, rfl⟩
    · exact h.elim
  obtain ⟨i, j, rfl, rfl⟩ := bad o2
  cases (Rp.int_inv r1)
  cases (Rp.int_inv r2)
  dsimp only at o2
  by_cases hbd : bnd i = true ∧ bnd j = true
  · rw [if_pos hbd] at o2
    have h1 := of_decide_eq_true (show decide _ = true from hbd.1)
    have h2 := of_decide_eq_true (show decide _ = true from hbd.2)
    exact ⟨1, rfl, i, j, -1, _, rfl, RgC.neg h1.1 h1.2 h2.1 h2.2, OutG.here o2 rfl s2 ⟨trivial, steps_down⟩⟩
  · rw [if_neg hbd] at o2
    exact o2.elim
end
/-! name = {..} -/
/-- a set comprehension set into a plain local is a swap -/
theorem sw_set {elt : Expr} {gs : List Comprehension} {scope : Scope} {pos py : Pos} {y : Str} {l : Nat} {env : Env} (k1 : env.scope.kind = .function) (k2 : env.scope.names.lookup y = some .local) (k3 : (py.line == pos.line) = true)
    (k4 : (scope.names.any fun (n, k) => n == y && (k == .local || k == .cell)) = false) : swapsWith (.SetComp elt gs scope pos) (some (.Name y py)) l env = pure true := by
  have e1 : env.kindOf y = some .local := k2
  have e2 : env.blockKind = .function := by unfold Env.blockKind; rw [k1]; rfl
  unfold swapsWith
  simp only [e2, e1, k4, Expr.pos, k3]
  rfl

section
variable {X : Cx} {W0 : WX} {k : Nat} {elt t i t1 i1 : Expr} {ifs ifs1 : List Expr} {sc : Scope} {pos : Pos} {fe : Fe} {fi fi1 : Fi} {g g1 : Fg} {ft ft1 : Ft} {us us1 vs1 : List Nat} {own : List (Str × Nat)}
theorem s_sc1I (j : Nat) {y : Str} {py spos : Pos} (c : Cxt X W0 k) (hi : PI X t i (tI (ctOf X) (wOf (ctOf X) W0) fi)) (ok : BlkOk X.N X.env.scope sc own) (cl : Cl1 X sc k t ifs g us ft)
    (he : ∀ s H C cl fp, Cxt (blkOf X sc s H C cl fp) W0F k → PE (blkOf X sc s H C cl fp) elt (tE (ctOf X) (WB X) fe))
    (hsw : swapsWith (.SetComp elt [⟨t, i, ifs, 0⟩] sc pos) (some (.Name y py)) spos.line X.env = pure true := by exact sw_set rfl rfl rfl (by decide +kernel))
    (hu : ∀ j ∈ us, j ∈ own.map (·.2) := by decide) (hs : ∀ x, foldedSetIterable i X.env x = pure x := by intro _; rfl) (hy : X.N[j]? = some y := by rfl) (hyl : X.env.scope.names.lookup y = some .local := by rfl) :
    PS X (.Assign [.Name y py] (.SetComp elt [⟨t, i, ifs, 0⟩] sc pos) spos) (tS (ctOf X) (wOf (ctOf X) W0) (sG (eSc true (cF (own.map (·.2)) fi g ft (cEI fe))) (gN j))) := by
  refine (ps_comp (comp_set1 hs) c.calm c.nd hy hyl hsw rfl hi ok makes_setI (fun s H C l fp => cl.tg s H C l fp (c.blk sc s H C l fp)) (fun s H C l fp => cl.ts s H C l fp (c.blk sc s H C l fp))
    (fun D s H C l fp => does_sI rfl (he s H C l fp (c.blk sc s H C l fp)))).imp fun D σ H h => sc_read accI (fun m D _ e => ⟨[], rfl, e⟩) (endI (C := ctOf X)) hu ?_
  obtain ⟨m, env, rfl, s, er, o⟩ := h
  exact ⟨m, env, rfl, s, er, OutS.thenE er o fun u m1 v s1 g1 r1 o1 => o1 _ m1 rfl s1 Grow.refl ((er.grow g1).set r1 j)⟩
theorem s_sc1K (j : Nat) {y : Str} {py spos : Pos} (c : Cxt X W0 k) (hi : PI X t i (tI (ctOf X) (wOf (ctOf X) W0) fi)) (ok : BlkOk X.N X.env.scope sc own) (cl : Cl1 X sc k t ifs g us ft)
    (he : ∀ s H C cl fp, Cxt (blkOf X sc s H C cl fp) W0F k → PE (blkOf X sc s H C cl fp) elt (tE (ctOf X) (WB X) fe))
    (hsw : swapsWith (.SetComp elt [⟨t, i, ifs, 0⟩] sc pos) (some (.Name y py)) spos.line X.env = pure true := by exact sw_set rfl rfl rfl (by decide +kernel))
    (hu : ∀ j ∈ us, j ∈ own.map (·.2) := by decide) (hs : ∀ x, foldedSetIterable i X.env x = pure x := by intro _; rfl) (hy : X.N[j]? = some y := by rfl) (hyl : X.env.scope.names.lookup y = some .local := by rfl) :
    PS X (.Assign [.Name y py] (.SetComp elt [⟨t, i, ifs, 0⟩] sc pos) spos) (tS (ctOf X) (wOf (ctOf X) W0) (sG (eSc false (cF (own.map (·.2)) fi g ft (cEK fe))) (gN j))) := by
  refine (ps_comp (comp_set1 hs) c.calm c.nd hy hyl hsw rfl hi ok makes_setK (fun s H C l fp => cl.tg s H C l fp (c.blk sc s H C l fp)) (fun s H C l fp => cl.ts s H C l fp (c.blk sc s H C l fp))
    (fun D s H C l fp => does_sK rfl (he s H C l fp (c.blk sc s H C l fp)))).imp fun D σ H h => sc_read accK (fun m D _ e => ⟨[], rfl, e⟩) (endK (C := ctOf X)) hu ?_
  obtain ⟨m, env, rfl, s, er, o⟩ := h
  exact ⟨m, env, rfl, s, er, OutS.thenE er o fun u m1 v s1 g1 r1 o1 => o1 _ m1 rfl s1 Grow.refl ((er.grow g1).set r1 j)⟩
theorem s_sc2I (j : Nat) {y : Str} {py spos : Pos} (c : Cxt X W0 k) (hi : PI X t i (tI (ctOf X) (wOf (ctOf X) W0) fi)) (ok : BlkOk X.N X.env.scope sc own) (cl : Cl1 X sc k t ifs g us ft)
    (hi1 : ∀ s H C cl fp, Cxt (blkOf X sc s H C cl fp) W0F k → PI (blkOf X sc s H C cl fp) t1 i1 (tI (ctOf X) (WB X) fi1)) (cl1 : Cl1 X sc k t1 ifs1 g1 us1 ft1)
    (he : ∀ s H C cl fp, Cxt (blkOf X sc s H C cl fp) W0F k → PE (blkOf X sc s H C cl fp) elt (tE (ctOf X) (WB X) fe))
    (hsw : swapsWith (.SetComp elt [⟨t, i, ifs, 0⟩, ⟨t1, i1, ifs1, 0⟩] sc pos) (some (.Name y py)) spos.line X.env = pure true := by exact sw_set rfl rfl rfl (by decide +kernel))
    (hu : ∀ j ∈ us, j ∈ own.map (·.2) := by decide) (hu1 : ∀ j ∈ us1, j ∈ vs1 := by decide) (hv : ∀ j ∈ vs1, j ∈ own.map (·.2) := by decide) (hs : ∀ x, foldedSetIterable i X.env x = pure x := by intro _; rfl) (hs1 : ∀ (env : Env) x, foldedSetIterable i1 env x = pure x := by intro _ _; rfl) (hy : X.N[j]? = some y := by rfl) (hyl : X.env.scope.names.lookup y = some .local := by rfl) :
    PS X (.Assign [.Name y py] (.SetComp elt [⟨t, i, ifs, 0⟩, ⟨t1, i1, ifs1, 0⟩] sc pos) spos) (tS (ctOf X) (wOf (ctOf X) W0) (sG (eSc true (cF (own.map (·.2)) fi g ft (cF vs1 fi1 g1 ft1 (cEI fe)))) (gN j))) := by
  refine (ps_comp (comp_set2 hs) c.calm c.nd hy hyl hsw rfl hi ok makes_setI (fun s H C l fp => cl.tg s H C l fp (c.blk sc s H C l fp)) (fun s H C l fp => cl.ts s H C l fp (c.blk sc s H C l fp))
    (doesS2 accI c hi1 cl1 (fun D s H C l fp cb => does_sI rfl (he s H C l fp cb)) hu1 hv hs1)).imp fun D σ H h => sc_read accI (fun m D _ e => ⟨[], rfl, e⟩) (endI (C := ctOf X)) hu ?_
  obtain ⟨m, env, rfl, s, er, o⟩ := h
  exact ⟨m, env, rfl, s, er, OutS.thenE er o fun u m1 v s1 g1 r1 o1 => o1 _ m1 rfl s1 Grow.refl ((er.grow g1).set r1 j)⟩
theorem s_sc2K (j : Nat) {y : Str} {py spos : Pos} (c : Cxt X W0 k) (hi : PI X t i (tI (ctOf X) (wOf (ctOf X) W0) fi)) (ok : BlkOk X.N X.env.scope sc own) (cl : Cl1 X sc k t ifs g us ft)
    (hi1 : ∀ s H C cl fp, Cxt (blkOf X sc s H C cl fp) W0F k → PI (blkOf X sc s H C cl fp) t1 i1 (tI (ctOf X) (WB X) fi1)) (cl1 : Cl1 X sc k t1 ifs1 g1 us1 ft1)
    (he : ∀ s H C cl fp, Cxt (blkOf X sc s H C cl fp) W0F k → PE (blkOf X sc s H C cl fp) elt (tE (ctOf X) (WB X) fe))
    (hsw : swapsWith (.SetComp elt [⟨t, i, ifs, 0⟩, ⟨t1, i1, ifs1, 0⟩] sc pos) (some (.Name y py)) spos.line X.env = pure true := by exact sw_set rfl rfl rfl (by decide +kernel))
    (hu : ∀ j ∈ us, j ∈ own.map (·.2) := by decide) (hu1 : ∀ j ∈ us1, j ∈ vs1 := by decide) (hv : ∀ j ∈ vs1, j ∈ own.map (·.2) := by decide) (hs : ∀ x, foldedSetIterable i X.env x = pure x := by intro _; rfl) (hs1 : ∀ (env : Env) x, foldedSetIterable i1 env x = pure x := by intro _ _; rfl) (hy : X.N[j]? = some y := by rfl) (hyl : X.env.scope.names.lookup y = some .local := by rfl) :
    PS X (.Assign [.Name y py] (.SetComp elt [⟨t, i, ifs, 0⟩, ⟨t1, i1, ifs1, 0⟩] sc pos) spos) (tS (ctOf X) (wOf (ctOf X) W0) (sG (eSc false (cF (own.map (·.2)) fi g ft (cF vs1 fi1 g1 ft1 (cEK fe)))) (gN j))) := by
  refine (ps_comp (comp_set2 hs) c.calm c.nd hy hyl hsw rfl hi ok makes_setK (fun s H C l fp => cl.tg s H C l fp (c.blk sc s H C l fp)) (fun s H C l fp => cl.ts s H C l fp (c.blk sc s H C l fp))
    (doesS2 accK c hi1 cl1 (fun D s H C l fp cb => does_sK rfl (he s H C l fp cb)) hu1 hv hs1)).imp fun D σ H h => sc_read accK (fun m D _ e => ⟨[], rfl, e⟩) (endK (C := ctOf X)) hu ?_
  obtain ⟨m, env, rfl, s, er, o⟩ := h
  exact ⟨m, env, rfl, s, er, OutS.thenE er o fun u m1 v s1 g1 r1 o1 => o1 _ m1 rfl s1 Grow.refl ((er.grow g1).set r1 j)⟩
end
end Ev

set_option Elab.async false
set_option linter.all false
set_option maxRecDepth 100000
set_option maxHeartbeats 4000000
/-! zip(.., strict=True) of two tuples of one length -/
namespace Zs
open PySem
open PySem.Sem (wp)
abbrev IsZs (h : Heap) (z TI TO : Addr) (f0 : Value) : Prop :=
  h.get? z = some { cls := .type "zip", dict := none, data := .fields #[f0, .bool false, .bool true, .ref TI, .ref TO], slots := #[] }
section
variable {prog : Program} {w : World} {A : Around} {E : Value → Shared → Prop} {s : Shared} {z TI TO i1 i2 l1 l2 : Addr} {k1 k2 : Nat} {xs ys : Array Value} {x y a b : Value}
theorem nxt_item {it l : Addr} {i : Nat} {items : Array Value} {Q : Option Value → Shared → Prop} (hit : s.heap.IsTupleIter it l i) (hl : s.heap.IsTuple l items) (hx : items[i]? = some x)
    (hQ : ∀ h', h'.IsTupleIter it l (i + 1) → Heap.SameBut it s.heap h' → Q (some x) { s with heap := h' }) : wpAny (model prog w) A (Builtin.SmallTypes.nextOrEnd (.ref it)) Q E s :=
  wpAny_bind (wpAny_attempt (RZ.nextOf_tuple_item hit hl hx fun h' a b => wpAny_pure (hQ h' a b)))
theorem nxt_end {it l : Addr} {i : Nat} {items : Array Value} {Q : Option Value → Shared → Prop} (hh : A.handled = none) (hit : s.heap.IsTupleIter it l i) (hl : s.heap.IsTuple l items) (hx : items[i]? = none)
    (hQ : ∀ h', Heap.ExtBut it s.heap h' → Q none { s with heap := h' }) : wpAny (model prog w) A (Builtin.SmallTypes.nextOrEnd (.ref it)) Q E s :=
  wpAny_bind (wpAny_attempt (RZ.nextOf_tuple_end hh hit hl hx fun h' e he ⟨o, ho, hc⟩ => wpAny_bind (wpAny_isInstance (T := "StopIteration") (b := true) ⟨o, ho, hc⟩ isSubtype_stop (wpAny_pure (hQ h' he)))))
/-- the record's head is read, its tuple is free -/
theorem zs_item {Q : Value → Shared → Prop} (D : ZipApart z TI TO i1 i2 l1 l2) (hz : IsZs s.heap z TI TO .none) (hTI : IsPair s.heap TI (.ref i1) (.ref i2)) (hTO : IsPair s.heap TO a b)
    (h1 : s.heap.IsTupleIter i1 l1 k1) (h2 : s.heap.IsTupleIter i2 l2 k2) (hl1 : s.heap.IsTuple l1 xs) (hl2 : s.heap.IsTuple l2 ys) (hx : xs[k1]? = some x) (hy : ys[k2]? = some y)
    (hQ : ∀ h', IsZs h' z TI TO (rawInt s.heap.objs.size) → IsPair h' TO x y → h'.IsTupleIter i1 l1 (k1 + 1) → h'.IsTupleIter i2 l2 (k2 + 1) → IsPair h' s.heap.objs.size x y → h'.objs.size = s.heap.objs.size + 1 →
      (∀ c o, c ≠ z → c ≠ TO → c ≠ i1 → c ≠ i2 → s.heap.get? c = some o → h'.get? c = some o) → Q (.ref s.heap.objs.size) { s with heap := h' }) :
    wpAny (model prog w) A (Builtin.«zip.__next__» ⟨[.ref z], []⟩) (fun fin s' => ∃ v, fin = .done (.ret v) ∧ Q v s') E s := by
  show wpAny _ _ (field (.ref z) 2 >>= _) _ _ _
  refine wpAny_bind (wpAny_field hz rfl (x := .bool true) rfl ?_)
  show wpAny _ _ (field (.ref z) 3 >>= _) _ _ _
  refine wpAny_bind (wpAny_field hz rfl (x := .ref TI) rfl (wpAny_bind (wpAny_seqItems hTI rfl ?_)))
  show wpAny _ _ (Builtin.SmallTypes.ownedTupleIsFree (.ref z) >>= _) _ _ _
  unfold Builtin.SmallTypes.ownedTupleIsFree
  refine wpAny_bind (wpAny_bind (wpAny_field hz rfl (x := .none) rfl (wpAny_pure ?_)))
  simp only [if_true]
  refine wpAny_bind (wpAny_rule (wpAny_bind (wpAny_field hz rfl (x := .ref TO) rfl (wpAny_bind (wpAny_setField_rec hz (by simp) fun g1 z1 s1 => ?_)))))
  replace z1 : IsZs g1 z TI TO .ellipsis := z1
  simp only [List.zipIdx_cons, List.zipIdx_nil, List.forIn_cons, List.forIn_nil]
  refine wpAny_bind (wpAny_bind (wpAny_bind (wpAny_onRaise ?_)))
  show wpAny _ _ (Builtin.SmallTypes.nextOrEnd (.ref i1)) _ _ _
  refine nxt_item (h1.extBut s1.extBut D.i1z) (hl1.extBut s1.extBut D.l1z) hx fun g2 u2 s2 => ?_
  have t2 : IsPair g2 TO a b := s2.extBut _ _ D.TOi1 (s1.extBut _ _ D.TOz hTO)
  refine wpAny_bind (wpAny_seqItems t2 rfl (wpAny_bind (wpAny_updateSeq_pair t2 fun g3 t3 s3 => wpAny_bind (wpAny_letGo (wpAny_pure ?_)))))
  replace t3 : IsPair g3 TO x b := t3
  refine wpAny_bind (wpAny_bind (wpAny_onRaise ?_))
  show wpAny _ _ (Builtin.SmallTypes.nextOrEnd (.ref i2)) _ _ _
  refine nxt_item (((h2.extBut s1.extBut D.i2z).extBut s2.extBut D.i12.symm).extBut s3.extBut D.TOi2.symm)
    (((hl2.extBut s1.extBut D.l2z).extBut s2.extBut D.l2i1).extBut s3.extBut D.l2TO) hy fun g4 u4 s4 => ?_
  have t4 : IsPair g4 TO x b := s4.extBut _ _ D.TOi2 t3
  refine wpAny_bind (wpAny_seqItems t4 rfl (wpAny_bind (wpAny_updateSeq_pair t4 fun g5 t5 s5 => wpAny_bind (wpAny_letGo (wpAny_pure (wpAny_pure ?_))))))
  replace t5 : IsPair g5 TO x y := t5
  refine wpAny_bind (wpAny_seqItems t5 rfl (wpAny_bind (wpAny_newTuple ?_)))
  have hsz : g5.objs.size = s.heap.objs.size := by rw [s5.1, s4.1, s3.1, s2.1, s1.1]
  have z5 : IsZs g5 z TI TO .ellipsis := s5.extBut _ _ D.TOz.symm (s4.extBut _ _ D.i2z.symm (s3.extBut _ _ D.TOz.symm (s2.extBut _ _ D.i1z.symm z1)))
  have k5 : ∀ c o, c ≠ z → c ≠ TO → c ≠ i1 → c ≠ i2 → s.heap.get? c = some o → g5.get? c = some o := fun c o c1 c2 c3 c4 e =>
    s5.extBut _ _ c2 (s4.extBut _ _ c4 (s3.extBut _ _ c2 (s2.extBut _ _ c3 (s1.extBut _ _ c1 e))))
  have u5 : g5.IsTupleIter i1 l1 (k1 + 1) := ((u2.extBut s3.extBut D.TOi1.symm).extBut s4.extBut D.i12).extBut s5.extBut D.TOi1.symm
  have v5 : g5.IsTupleIter i2 l2 (k2 + 1) := u4.extBut s5.extBut D.TOi2.symm
  have zlt : z < g5.objs.size := Heap.lt_size z5
  show wpAny _ _ (Builtin.SmallTypes.ownedTupleHandOut (.ref z) (.ref g5.objs.size) >>= _) _ _ _
  unfold Builtin.SmallTypes.ownedTupleHandOut
  have z6 : IsZs (g5.push { cls := .type "tuple", data := .seq #[x, y] }) z TI TO .ellipsis := Heap.get?_push_of_some _ z5
  refine wpAny_bind (wpAny_bind (wpAny_setField_rec z6 (by simp) fun g7 z7 s7 => ?_))
  replace z7 : IsZs g7 z TI TO (rawInt g5.objs.size) := z7
  refine wpAny_setField_rec z7 (by simp) fun g8 z8 s8 => ?_
  replace z8 : IsZs g8 z TI TO (rawInt g5.objs.size) := z8
  have up : ∀ c o, c ≠ z → g5.get? c = some o → g8.get? c = some o := fun c o c1 e => s8.extBut _ _ c1 (s7.extBut _ _ c1 (Heap.get?_push_of_some _ e))
  have t8 : IsPair g8 g5.objs.size x y := s8.extBut _ _ (Nat.ne_of_gt zlt) (s7.extBut _ _ (Nat.ne_of_gt zlt) (Heap.get?_push_size _ rfl))
  have n8 : g8.objs.size = g5.objs.size + 1 := by rw [s8.1, s7.1, Heap.size_push]
  rw [hsz] at z8 t8 n8
  refine wpAny_pure ⟨_, rfl, ?_⟩
  show Q (.ref g5.objs.size) _
  rw [hsz]
  exact hQ g8 z8 (up _ _ D.TOz t5) (u5.at fun o e => up _ o D.i1z e) (v5.at fun o e => up _ o D.i2z e) t8 n8 fun c o c1 c2 c3 c4 e => up c o c1 (k5 c o c1 c2 c3 c4 e)
theorem stop_now {α : Type} {Q : α → Shared → Prop} (hh : A.handled = none)
    (hE : ∀ h' e, (∀ c o, s.heap.get? c = some o → h'.get? c = some o) → (∃ o, h'.get? e = some o ∧ o.cls = .type "StopIteration") → E (.ref e) { s with heap := h' }) :
    wpAny (model prog w) A (Builtin.SmallTypes.stopIteration : Sem α) Q E s := by
  unfold Builtin.SmallTypes.stopIteration
  refine wpAny_bind ?_
  simp only [newExc, newTuple]
  refine wpAny_bind (wpAny_newObj_type (wpAny_bind (m := firstArgMember _ _) (wpAny_of_eq (a := Value.none) (by first | rfl | (simp only [firstArgMember]; rfl)) (wpAny_newObj_type ?_ (by size_fits)))) (by size_fits))
  simp only [raiseNew]
  refine wpAny_bind (wpAny_handled ?_)
  rw [hh]
  refine wpAny_bind (wpAny_pure (wpAny_throw (hE _ _ (fun c o e => Heap.get?_push_of_some _ (Heap.get?_push_of_some _ e)) ⟨_, Heap.get?_push_size _ rfl, rfl⟩)))
theorem zs_end {Q : Fin → Shared → Prop} (hh : A.handled = none) (D : ZipApart z TI TO i1 i2 l1 l2) (hz : IsZs s.heap z TI TO .none) (hTI : IsPair s.heap TI (.ref i1) (.ref i2))
    (h1 : s.heap.IsTupleIter i1 l1 k1) (h2 : s.heap.IsTupleIter i2 l2 k2) (hl1 : s.heap.IsTuple l1 xs) (hl2 : s.heap.IsTuple l2 ys) (hx : xs[k1]? = none) (hy : ys[k2]? = none)
    (hE : ∀ h' e, (∀ c o, c ≠ z → c ≠ i1 → c ≠ i2 → s.heap.get? c = some o → h'.get? c = some o) → (∃ o, h'.get? e = some o ∧ o.cls = .type "StopIteration") → E (.ref e) { s with heap := h' }) :
    wpAny (model prog w) A (Builtin.«zip.__next__» ⟨[.ref z], []⟩) Q E s := by
  show wpAny _ _ (field (.ref z) 2 >>= _) _ _ _
  refine wpAny_bind (wpAny_field hz rfl (x := .bool true) rfl ?_)
  show wpAny _ _ (field (.ref z) 3 >>= _) _ _ _
  refine wpAny_bind (wpAny_field hz rfl (x := .ref TI) rfl (wpAny_bind (wpAny_seqItems hTI rfl ?_)))
  show wpAny _ _ (Builtin.SmallTypes.ownedTupleIsFree (.ref z) >>= _) _ _ _
  unfold Builtin.SmallTypes.ownedTupleIsFree
  refine wpAny_bind (wpAny_bind (wpAny_field hz rfl (x := .none) rfl (wpAny_pure ?_)))
  simp only [if_true]
  refine wpAny_bind (wpAny_rule (wpAny_bind (wpAny_field hz rfl (x := .ref TO) rfl (wpAny_bind (wpAny_setField_rec hz (by simp) fun g1 z1 s1 => ?_)))))
  replace z1 : IsZs g1 z TI TO .ellipsis := z1
  simp only [List.zipIdx_cons, List.zipIdx_nil, List.forIn_cons, List.forIn_nil]
  refine wpAny_bind (wpAny_bind (wpAny_bind (wpAny_onRaise ?_)))
  show wpAny _ _ (Builtin.SmallTypes.nextOrEnd (.ref i1)) _ _ _
  refine nxt_end hh (h1.extBut s1.extBut D.i1z) (hl1.extBut s1.extBut D.l1z) hx fun g2 s2 => ?_
  have z2 : IsZs g2 z TI TO .ellipsis := s2 _ _ D.i1z.symm z1
  refine wpAny_bind (wpAny_setField_rec z2 (by simp) fun g3 z3 s3 => ?_)
  have w3 : ∀ c o, c ≠ z → c ≠ i1 → s.heap.get? c = some o → g3.get? c = some o := fun c o c1 c2 e => s3.extBut _ _ c1 (s2 _ _ c2 (s1.extBut _ _ c1 e))
  refine wpAny_bind ?_
  show wpAny _ _ (forIn [(Value.ref i2, 1)] PUnit.unit _ >>= fun _ => rule "zip.__next__.all-ended" >>= fun _ => Builtin.SmallTypes.stopIteration) _ _ _
  simp only [List.forIn_cons, List.forIn_nil]
  have v3 : g3.IsTupleIter i2 l2 k2 := h2.at fun o e => w3 _ o D.i2z D.i12.symm e
  have q3 : g3.IsTuple l2 ys := ((hl2.extBut s1.extBut D.l2z).extBut s2 D.l2i1).extBut s3.extBut D.l2z
  refine wpAny_bind (wpAny_bind (wpAny_bind (nxt_end hh v3 q3 hy fun g4 s4 => ?_)))
  rw [if_neg (by simp)]
  refine wpAny_pure (wpAny_pure (wpAny_bind (wpAny_rule (stop_now hh fun g5 e k5 he => ?_))))
  exact hE g5 e (fun c o c1 c2 c3 x => k5 c o (s4 _ _ c3 (w3 c o c1 c2 x))) he
theorem next_item {Q : Option Value → Shared → Prop} (D : ZipApart z TI TO i1 i2 l1 l2) (hz : IsZs s.heap z TI TO .none) (hTI : IsPair s.heap TI (.ref i1) (.ref i2)) (hTO : IsPair s.heap TO a b)
    (h1 : s.heap.IsTupleIter i1 l1 k1) (h2 : s.heap.IsTupleIter i2 l2 k2) (hl1 : s.heap.IsTuple l1 xs) (hl2 : s.heap.IsTuple l2 ys) (hx : xs[k1]? = some x) (hy : ys[k2]? = some y)
    (hQ : ∀ h', IsZs h' z TI TO (rawInt s.heap.objs.size) → IsPair h' TO x y → h'.IsTupleIter i1 l1 (k1 + 1) → h'.IsTupleIter i2 l2 (k2 + 1) → IsPair h' s.heap.objs.size x y → h'.objs.size = s.heap.objs.size + 1 →
      (∀ c o, c ≠ z → c ≠ TO → c ≠ i1 → c ≠ i2 → s.heap.get? c = some o → h'.get? c = some o) → Q (some (.ref s.heap.objs.size)) { s with heap := h' }) :
    wpAny (model prog w) A (pyNext (.ref z)) Q E s :=
  wpAny_bind (wpAny_attempt (wpAny_callSpecial?_slot (name := Str.ofString "__next__") ⟨_, hz, rfl⟩ F.slot_zip_next (wpAny_call_entry F.slot_zip_next ⟨_, hz, rfl⟩ F.entry_zip_next
    (zs_item D hz hTI hTO h1 h2 hl1 hl2 hx hy fun h' a1 a2 a3 a4 a5 a6 a7 => wpAny_pure (hQ h' a1 a2 a3 a4 a5 a6 a7)) (F.args_zip_next_1 _))))
theorem next_end {Q : Option Value → Shared → Prop} (hh : A.handled = none) (D : ZipApart z TI TO i1 i2 l1 l2) (hz : IsZs s.heap z TI TO .none) (hTI : IsPair s.heap TI (.ref i1) (.ref i2))
    (h1 : s.heap.IsTupleIter i1 l1 k1) (h2 : s.heap.IsTupleIter i2 l2 k2) (hl1 : s.heap.IsTuple l1 xs) (hl2 : s.heap.IsTuple l2 ys) (hx : xs[k1]? = none) (hy : ys[k2]? = none)
    (hQ : ∀ h', (∀ c o, c ≠ z → c ≠ i1 → c ≠ i2 → s.heap.get? c = some o → h'.get? c = some o) → Q none { s with heap := h' }) : wpAny (model prog w) A (pyNext (.ref z)) Q E s := by
  refine wpAny_bind (wpAny_attempt (wpAny_callSpecial?_slot (name := Str.ofString "__next__") ⟨_, hz, rfl⟩ F.slot_zip_next
    (wpAny_call_entry F.slot_zip_next ⟨_, hz, rfl⟩ F.entry_zip_next (zs_end hh D hz hTI h1 h2 hl1 hl2 hx hy fun h' e hk ⟨o, ho, hc⟩ => ?_) (F.args_zip_next_1 _))))
  exact wpAny_bind (wpAny_isInstance (T := "StopIteration") (b := true) ⟨o, ho, hc⟩ isSubtype_stop (wpAny_pure (hQ _ hk)))
theorem zs_go {elts : List Expr} {x1} {pos : Pos} {T : Addr} {Q : Unit → Shared → Prop} (hz : IsZs s.heap z TI TO (rawInt T)) (hQ : ∀ h', IsZs h' z TI TO .none → Heap.SameBut z s.heap h' → Q () { s with heap := h' }) :
    wpAny (model prog w) A (letOwnedTupleGo (.Tuple elts x1 pos) (.ref z) (.ref T)) Q E s := by
  unfold letOwnedTupleGo
  refine wpAny_bind (wpAny_load hz ?_)
  show wpAny _ _ (if (_ && (#[rawInt T, .bool false, .bool true, .ref TI, .ref TO] : Array Value)[0]? == some (rawInt T)) = true then _ else _) Q E s
  rw [if_pos (by simp)]
  refine wpAny_bind (wpAny_rule (wpAny_setField_rec hz (by simp) fun h' hz' hs' => hQ h' hz' hs'))
theorem zs_iter {f0 : Value} {Q : Value → Shared → Prop} (hz : IsZs s.heap z TI TO f0) (h : Q (.ref z) s) : wpAny (model prog w) A (pyIter (.ref z)) Q E s := by
  have hT : s.TypeIs (.ref z) "zip" := ⟨_, hz, rfl⟩
  exact wpAny_pyIter_slot hT F.slot_zip_iter (wpAny_call_entry F.slot_zip_iter hT F.entry_zip_iter (wpAny_pure ⟨_, rfl, "zip", _, hT, F.slot_zip_next.lookup, h⟩) (F.args_zip_iter_1 _))
end
theorem tc_zs (a b c : Value) : checkTypeCall "zip" ⟨[a, b], [(Str.ofString "strict", c)]⟩ = pure () := by kernel_rfl
theorem nc_zs (a b c : Value) : checkBuiltinCall "zip.__new__" ⟨[.type "zip", a, b], [(Str.ofString "strict", c)]⟩ = pure () := by kernel_rfl
theorem oi_zs (o a b c : Value) : argsOk "object.__init__" ⟨[o, a, b], [(Str.ofString "strict", c)]⟩ := by unfold argsOk; kernel_rfl
abbrev zh5 (h : Heap) (l1 l2 : Addr) : Heap := (RZ.zipTH4 h l1 l2).push { cls := .type "zip", data := .fields #[.none, .bool false, .bool true, .ref (RZ.zipTH2 h l1 l2).objs.size, .ref (RZ.zipTH3 h l1 l2).objs.size] }
theorem new_zs (l1 l2 : Addr) (xs ys : Array Value) :
    Meets (Builtin.«zip.__new__» ⟨[.type "zip", .ref l1, .ref l2], [(Str.ofString "strict", .bool true)]⟩) (fun _ R s => s.heap.IsTuple l1 xs ∧ s.heap.IsTuple l2 ys ∧
      R (.ok (.ret (.ref (RZ.zipTH4 s.heap l1 l2).objs.size))) { s with heap := zh5 s.heap l1 l2 }) :=
  .of_wp fun prog w A R s ⟨hl1, hl2, h⟩ => by
    obtain ⟨hp, g, d, tk, os⟩ := s
    have hsub := sub_zip
    have p1 : Heap.IsTuple (Shared.heap ⟨hp, g, d, tk, os⟩) l1 xs := hl1
    have p2 : Heap.IsTuple (Shared.heap ⟨hp.push { cls := .type "tuple_iterator", data := .fields #[.ref l1, .int 0 0] }, g, d, tk, os⟩) l2 ys := Heap.IsTuple.push hl2 _
    wp_walk using wpAny_pyIter_tuple p1, wpAny_pyIter_tuple p2
    exact ⟨_, rfl, h⟩
section
variable {prog : Program} {w : World} {A : Around} {E : Value → Shared → Prop} {s : Shared}
theorem call_zs {l1 l2 : Addr} {xs ys : Array Value} {Q : Value → Shared → Prop} (hl1 : s.heap.IsTuple l1 xs) (hl2 : s.heap.IsTuple l2 ys)
    (h : ∀ h', IsZs h' (s.heap.objs.size + 4) (s.heap.objs.size + 2) (s.heap.objs.size + 3) .none → IsPair h' (s.heap.objs.size + 2) (.ref s.heap.objs.size) (.ref (s.heap.objs.size + 1)) →
      IsPair h' (s.heap.objs.size + 3) .none .none → h'.IsTupleIter s.heap.objs.size l1 0 → h'.IsTupleIter (s.heap.objs.size + 1) l2 0 →
      (∀ c o, s.heap.get? c = some o → h'.get? c = some o) → Q (.ref (s.heap.objs.size + 4)) { s with heap := h' }) :
    wpAny (model prog w) A (call (.type "zip") [.ref l1, .ref l2] [(Str.ofString "strict", .bool true)]) Q E s := by
  refine callType_newKw F.called_zip (by decide) (tc_zs _ _ _) (nc_zs _ _ _) (fun obj => oi_zs obj _ _ _) F.entry_zip_new (new_zs l1 l2 xs ys) ⟨hl1, hl2, ?_⟩
  have e1 : (RZ.zipTH1 s.heap l1).objs.size = s.heap.objs.size + 1 := Heap.size_push ..
  have e2 : (RZ.zipTH2 s.heap l1 l2).objs.size = s.heap.objs.size + 2 := by rw [Heap.size_push, e1]
  have e3 : (RZ.zipTH3 s.heap l1 l2).objs.size = s.heap.objs.size + 3 := by rw [Heap.size_push, e2]
  have e4 : (RZ.zipTH4 s.heap l1 l2).objs.size = s.heap.objs.size + 4 := by rw [Heap.size_push, e3]
  have g5 : (zh5 s.heap l1 l2).get? (RZ.zipTH4 s.heap l1 l2).objs.size = some _ := Heap.get?_push_size _ rfl
  have g4 : (zh5 s.heap l1 l2).get? (RZ.zipTH3 s.heap l1 l2).objs.size = some _ := Heap.get?_push_of_some _ (Heap.get?_push_size _ rfl)
  have g3 : (zh5 s.heap l1 l2).get? (RZ.zipTH2 s.heap l1 l2).objs.size = some _ := Heap.get?_push_of_some _ (Heap.get?_push_of_some _ (Heap.get?_push_size _ rfl))
  have g2 : (zh5 s.heap l1 l2).get? (RZ.zipTH1 s.heap l1).objs.size = some _ := Heap.get?_push_of_some _ (Heap.get?_push_of_some _ (Heap.get?_push_of_some _ (Heap.get?_push_size _ rfl)))
  have g1 : (zh5 s.heap l1 l2).get? s.heap.objs.size = some _ := Heap.get?_push_of_some _ (Heap.get?_push_of_some _ (Heap.get?_push_of_some _ (Heap.get?_push_of_some _ (Heap.get?_push_size _ rfl))))
  show _ ∧ _
  rw [e2, e3, e4] at g5
  rw [e1, e2] at g3
  rw [e3] at g4
  rw [e1] at g2
  rw [e4]
  exact ⟨⟨_, g5, rfl⟩, h _ g5 g3 g4 ⟨_, g1, rfl, rfl⟩ ⟨_, g2, rfl, rfl⟩ fun c o q =>
    Heap.get?_push_of_some _ (Heap.get?_push_of_some _ (Heap.get?_push_of_some _ (Heap.get?_push_of_some _ (Heap.get?_push_of_some _ q))))⟩
end
end Zs
namespace Ev
open PySem PySem.Spec PyProof.Rows L2 Gx
/-- two tuples of one length, in pairs -/
def ItzS (K : PySem.W.Frag) (a b : Addr) : It :=
  ⟨fun j H => ∃ (xs ys : List V) (x y : V), SqT K H a xs ∧ SqT K H b ys ∧ xs[j]? = some x ∧ ys[j]? = some y,
    fun j H v H' => ∃ T x y, v = .ref T ∧ H T = none ∧ H' = upd H T (.tup [x, y]) ∧ (∀ xs, SqT K H a xs → xs[j]? = some x) ∧ ∀ ys, SqT K H b ys → ys[j]? = some y,
    fun j H => ∃ xs ys : List V, SqT K H a xs ∧ SqT K H b ys ∧ xs.length ≤ j ∧ ys.length ≤ j⟩
theorem turn_zs {P : Program} {w : World} {K : PySem.W.Frag} {elts : List Expr} {kk : Nat} {tpos : Pos} {a b z TI TO i1 i2 : Addr} (D : ZipApart z TI TO i1 i2 a b) :
    Turn P w K (.Tuple elts kk tpos) (ItzS K a b) [z, TI, TO, i1, i2] z (fun j h => Zs.IsZs h z TI TO .none ∧ IsPair h TI (.ref i1) (.ref i2) ∧ (∃ x y, IsPair h TO x y) ∧ h.IsTupleIter i1 a j ∧ h.IsTupleIter i2 b j) where
  mem := List.mem_cons_self
  obj := fun j h st c hc => by
    obtain ⟨hz, hTI, ⟨x, y, hTO⟩, ⟨o1, e1, _, d1⟩, ⟨o2, e2, _, d2⟩⟩ := st
    simp only [List.mem_cons, List.not_mem_nil, or_false] at hc
    rcases hc with rfl | rfl | rfl | rfl | rfl
    · exact ⟨_, hz, fun v => nofun⟩
    · exact ⟨_, hTI, fun v => nofun⟩
    · exact ⟨_, hTO, fun v => nofun⟩
    · exact ⟨o1, e1, fun v => by rw [d1]; nofun⟩
    · exact ⟨o2, e2, fun v => by rw [d2]; nofun⟩
  keep := fun j h h' ⟨hz, hTI, ⟨x, y, hTO⟩, h1, h2⟩ k =>
    ⟨k z (by simp) _ hz, k TI (by simp) _ hTI, ⟨x, y, k TO (by simp) _ hTO⟩, h1.at fun o => k i1 (by simp) o, h2.at fun o => k i2 (by simp) o⟩
  item := by
    rintro X rfl rfl rfl hc j pins s σ H E I hf ⟨hz, hTI, ⟨x0, y0, hTO⟩, h1, h2⟩ ⟨xs, ys, x, y, qx, qy, hx, hy⟩
    obtain ⟨its, rv, p, _⟩ := I.tuple qx
    obtain ⟨its2, rv2, p2, _⟩ := I.tuple qy
    obtain ⟨u, hu, ru⟩ := rv.get hx
    obtain ⟨u2, hu2, ru2⟩ := rv2.get hy
    have zl : z < s.heap.objs.size := Heap.lt_size hz
    refine Zs.next_item D hz hTI hTO h1 h2 p p2 (x := u) (y := u2) (by simpa using hu) (by simpa using hu2) fun h' z' TO' h1' h2' hT hsz hk => ⟨_, rfl, ?_⟩
    refine Zs.zs_go (s := { s with heap := h' }) z' fun h'' z'' sb => ?_
    have hT2 : h''.get? s.heap.objs.size = some { cls := .type "tuple", data := .seq #[u, u2] } := (sb.2 _ (Nat.ne_of_gt zl)).trans hT
    have new : ObjOk X.prog X.w (upd H s.heap.objs.size (.tup [x, y])) h'' s.heap.objs.size (.tup [x, y]) := ⟨two_line, [u, u2], .cons ru (.cons ru2 .nil), ⟨_, hT2, rfl, _, rfl⟩⟩
    have I1 : L2.Inv X pins σ (upd H s.heap.objs.size (.tup [x, y])) { s with heap := h'' } :=
      I.turnedNew (t' := s.toks) (ch := [z, TI, TO, i1, i2]) (fun c o hb q => (sb.2 c (fun q' => hb (by simp [q']))).trans (hk c o (fun q' => hb (by simp [q'])) (fun q' => hb (by simp [q'])) (fun q' => hb (by simp [q'])) (fun q' => hb (by simp [q'])) q)) hf (Nat.le_refl _) new
    refine ⟨.ref s.heap.objs.size, _, I1, rfl, ⟨_, x, y, rfl, I.hok.fresh (Nat.le_refl _), rfl, fun l hl => by rw [I.tuple_inj hl qx]; exact hx, fun l hl => by rw [I.tuple_inj hl qy]; exact hy⟩,
      ⟨z'', (sb.2 _ D.TIz).trans (hk _ _ D.TIz D.TITO D.TIi1 D.TIi2 hTI), ⟨u, u2, (sb.2 _ D.TOz).trans TO'⟩, h1'.at fun o q => (sb.2 _ D.i1z).trans q, h2'.at fun o q => (sb.2 _ D.i2z).trans q⟩, fun c hcm => ?_⟩
    have hlt : c < s.heap.objs.size := by
      simp only [List.mem_cons, List.not_mem_nil, or_false] at hcm
      rcases hcm with rfl | rfl | rfl | rfl | rfl
      · exact zl
      · exact Heap.lt_size hTI
      · exact Heap.lt_size hTO
      · obtain ⟨_, e1, _⟩ := h1; exact Heap.lt_size e1
      · obtain ⟨_, e2, _⟩ := h2; exact Heap.lt_size e2
    rw [upd_ne (Nat.ne_of_lt hlt)]
    exact (hf c hcm).1
  done := by
    rintro X rfl rfl rfl hc j pins s σ H E I hf ⟨hz, hTI, ⟨x0, y0, hTO⟩, h1, h2⟩ ⟨xs, ys, qx, qy, ex, ey⟩
    obtain ⟨its, rv, p, _⟩ := I.tuple qx
    obtain ⟨its2, rv2, p2, _⟩ := I.tuple qy
    have l1 := rv.length
    have l2 := rv2.length
    exact Zs.next_end (I.ok.hd hc) D hz hTI h1 h2 p p2 (by simp; omega) (by simp; omega) fun h' hk => ⟨rfl, I.turnedL (t' := s.toks) (ch := [z, TI, TO, i1, i2]) (fun c o hb q =>
      hk c o (fun q' => hb (by simp [q'])) (fun q' => hb (by simp [q'])) (fun q' => hb (by simp [q'])) q) hf⟩
  self := fun A j s Q E st h => Zs.zs_iter st.1 h
theorem call_tyKw {M : Model} {A : Around} {E : Value → Shared → Prop} {s : Shared} {pos : Pos} {T : String} {args : List (Bool × Sem Value)} {kws : List (Option Str × Sem Value)} {Q : Value → Shared → Prop} (h1 : args.any (·.1) = false) (h2 : kws.any (·.1.isNone) = false)
    (h : wpAny M A (evalArgs (.type T) true args kws) (fun a s₁ => wpAny M A (call (.type T) a.pos a.kw) Q E s₁) E s) : wpAny M A (callWith pos (.type T) [] args kws) Q E s := by
  unfold callWith
  refine wpAny_bind (wpAny_holding (thn h fun a s1 q1 => wpAny_bind (wpAny_standAt ?_)))
  simp only [h1, h2, Bool.or_false]
  exact wpAny_bind (wpAny_pure (wpAny_bind (thn q1 fun r s2 hr => wpAny_bind (wpAny_holding (wpAny_point (wpAny_pure hr))))))
section
variable {X : Cx} {W : XW} {p pos : Pos} {a b : Expr} {fa fb : Fe}
theorem steps_zipS {C : Ct} {m0 : MS} {a b : Addr} {xs ys : List V} {cs ds : List PyData} (sa : SqT C.K m0.G a xs) (sb : SqT C.K m0.G b ys) (ra : RpAll C.K m0.G xs cs) (rb : RpAll C.K m0.G ys ds) (hl : cs.length = ds.length) :
    Steps C m0 (ItzS C.K a b) ((pairUp cs ds).map Val.dat, none) := by
  intro m sm g hk
  obtain ⟨_, st⟩ := steps_zipT sa sb ra rb m sm g hk
  have la := ra.length
  have lb := rb.length
  refine ⟨⟨xs, ys, m.le.sqT (g.sub.sqT sa), m.le.sqT (g.sub.sqT sb), ?_, ?_⟩, st⟩
  · simp only [List.length_map, pair_len]; omega
  · simp only [List.length_map, pair_len]; omega
/-- zip(a, b, strict=True) -/
theorem i_zipS {W0 : WX} {k kk kj : Nat} {elts : List Expr} {tpos kp cp : Pos} (c : Cxt X W0 k) (ha : PE X a (tE (ctOf X) W fa)) (hb : PE X b (tE (ctOf X) W fb)) (hm : X.mg "zip" = none) (hg : Gl X "zip" := by rfl) (hs2 : starEach [b] X.env = [(false, eval b X.env)] := by rfl)
    (hs : starEach [a, b] X.env = (false, eval a X.env) :: starEach [b] X.env := by rfl) (hpl : (backTo pos (starEach [a, b] X.env)).any (·.1) = false := by rfl) :
    PI X (.Tuple elts kk tpos) (.Call (.Name "zip" p) [a, b] [⟨some "strict", .Constant (.bool true) kj cp, kp⟩] pos) (tI (ctOf X) W (Ev.iZipS fa fb)) := by
  refine ⟨fun pins s σ H R I h => ?_⟩
  obtain ⟨m, env, rfl, sr, er, o⟩ := h
  refine wpAny_Call_Name_kw (ld_blt I hg hm PyProof.Rows.boot_zip (call_tyKw hpl rfl ?_) (by decide) (by decide))
  have hA : PA X [a, b] (tA (ctOf X) W (aC fa (aC fb aN))) := a_cons ha (a_cons hb a_nil hs2) hs
  have hK : PK X [⟨some "strict", .Constant (.bool true) kj cp, kp⟩] (tCons (tC (.bl true)) tNil) := pk_cons pe_bl pk_nil
  refine PyProof.Rows.evalArgs_kw2 rfl (thn (hA.run pos pins s σ m.H (fun us H1 => ∃ m2 c d, ∃ a' b' xs ys, us = [.ref a', .ref b'] ∧ m2.H = H1 ∧ SR (ctOf X) m2 ∧ c.length = d.length ∧ SqT X.K m2.G a' xs ∧ SqT X.K m2.G b' ys ∧ RpAll X.K m2.G xs c ∧ RpAll X.K m2.G ys d ∧
    OutG (ctOf X) W env σ (fun m J w => keeps w.2 m.S ∧ Steps (ctOf X) m J w) m2 (.ok ((pairUp c d).map Val.dat, none) m2.S) R) I ⟨m, env, rfl, sr, er, ?_⟩) fun us s1 ⟨vs, H1, I1, r1, q1⟩ => ?_) hs
  · have o' := o
    simp only [Ev.iZipS] at o'
    have hf : aC fa (aC fb aN) env m.S = (fa env m.S).bind fun x S1 => ((fb env S1).bind fun y S2 => .ok [y] S2).bind fun xs S2 => .ok (x :: xs) S2 := rfl
    rw [hf]
    cases hfa : fa env m.S with
    | bad => rw [hfa] at o'; exact o'
    | exc y S => rw [hfa] at o'; exact o'
    | ok v S1 =>
      rw [hfa] at o'
      simp only [bind_ok] at o' ⊢
      cases hfb : fb env S1 with
      | bad => rw [hfb] at o'; exact o'
      | exc y S => rw [hfb] at o'; exact o'
      | ok w S2 =>
        rw [hfb] at o'
        simp only [bind_ok] at o' ⊢
        intro us m2 e2 s2 g2 r2
        subst e2
        have o2 := OutG.grow o' g2
        match us, r2 with
        | [u1, u2], ⟨q1, q2, _⟩ =>
          cases v with
          | dat cv =>
            cases w with
            | dat dv =>
              dsimp only at o2
              obtain ⟨pr, e, o3⟩ := OutG.opt o2
              cases cv <;> cases dv <;> try (cases e; done)
              case tuple.tuple cs ds =>
                cases e
                by_cases hl : cs.length = ds.length
                · rw [if_pos hl] at o3
                  obtain ⟨a', xs, rfl, sa, _, ra⟩ := Rp.tup_inv q1
                  obtain ⟨b', ys, rfl, sb, _, rb⟩ := Rp.tup_inv q2
                  exact ⟨m2, cs, ds, a', b', xs, ys, rfl, rfl, s2, hl, sa, sb, ra, rb, o3⟩
                · rw [if_neg hl] at o3
                  exact o3.elim
            | _ => exact o2.elim
          | _ => exact o2.elim
        | [], h => exact h.elim
        | [_], h => exact h.2.elim
        | _ :: _ :: _ :: _, h => exact h.2.2.elim
  · obtain ⟨m2, cs, ds, a', b', xs, ys, rfl, rfl, s2, hl, sa, sb, ra, rb, o3⟩ := q1
    refine thn (hK.run pos pins s1 σ m2.H (fun zs H2 => zs = [.bl true] ∧ H2 = m2.H) I1 ⟨rfl, rfl⟩) fun ws s2' ⟨zs, H2, I2, r2, ez, eH⟩ => ?_
    subst ez
    subst eH
    cases r2 with
    | cons r rr =>
      cases rr
      cases r
      cases r1 with
      | cons r rr =>
        cases rr with
        | cons r' rr =>
          cases rr
          cases r
          cases r'
          obtain ⟨its, rv, p1, _⟩ := I2.tuple (m2.le.sqT sa)
          obtain ⟨its2, rv2, p2, _⟩ := I2.tuple (m2.le.sqT sb)
          obtain ⟨o1, ho1, _⟩ := id p1
          obtain ⟨o2, ho2, _⟩ := id p2
          refine Zs.call_zs (show s2'.heap.IsTuple a' its.toArray from p1) (show s2'.heap.IsTuple b' its2.toArray from p2) fun h' hz hTI hTO h1 h2 hk => Zs.zs_iter hz ?_
          have I3 : L2.Inv X pins σ m2.H { s2' with heap := h' } := I2.kept (t' := s2'.toks) hk
          refine ⟨s2'.heap.objs.size + 4, [s2'.heap.objs.size + 4, s2'.heap.objs.size + 2, s2'.heap.objs.size + 3, s2'.heap.objs.size, s2'.heap.objs.size + 1], _, _, m2.H, rfl, I3,
            turn_zs (PySem.W.ktu_apart s2'.heap.objs.size a' b' (Heap.lt_size ho1) (Heap.lt_size ho2)), ⟨hz, hTI, ⟨_, _, hTO⟩, h1, h2⟩, fun c hcm => ?_, o3.here rfl s2 ⟨trivial, steps_zipS sa sb ra rb hl⟩⟩
          have hle : s2'.heap.objs.size ≤ c := by
            simp only [List.mem_cons, List.not_mem_nil, or_false] at hcm
            rcases hcm with rfl | rfl | rfl | rfl | rfl <;> first | exact Nat.le_add_right _ _ | exact Nat.le_refl _
          exact I2.fpOk hle (I2.hok.fresh hle)
end
end Ev

set_option Elab.async false
set_option linter.all false
set_option maxRecDepth 100000
set_option maxHeartbeats 4000000
/-! the end of a law: from its mirror's answer -/
namespace Ev
open PySem PySem.Spec PyProof.Rows L2 Gx
/-- the law's promise -/
def spL (K : PySem.W.Frag) : Sp := fun vs H Q _ => ∃ (a : Addr) (ns : List Int), vs = [.ref a] ∧ SqL K H a (ns.map V.int) ∧ ns.length ≤ 63 ∧ ∀ H', Q (.bl true) H'
theorem ms0 {C : Ct} {H : Hp} : SR C ⟨H, [], [], []⟩ := ⟨rfl, .nil, fun i c e => by simp at e, fun a h => by cases h⟩
theorem ms0_G {H : Hp} : (MS.mk H [] [] []).G = H := by
  funext a
  exact pur_out (show a ∉ ([] : List Addr) from by simp)
theorem law_of {P : Program} {w : World} {K : PySem.W.Frag} {mg : Str → Option Value} {base : Heap} {k : Nat} {f : Addr} {fd : FuncData} {x : Str} {m : Fn} (F : Gx.FnG P w K mg base (L2.CX P w) k f fd [x] (spE (ctK P w K mg) 1 m))
    (hm : ∀ ns : List Int, ns.length ≤ 63 → ∃ S, m [.dat (.list (ns.map PyData.int))] [] = .ok (.dat (.bool true)) S) : Gx.FnG P w K mg base CX0 k f fd [x] (spL K) := by
  refine ⟨fun vs H Q E h => ?_, fun A outer s H args us vs Q E hg hr e0 hb rv h => ?_⟩
  · obtain ⟨a, ns, rfl, _⟩ := h
    rfl
  · obtain ⟨a, ns, rfl, sq, hl, q⟩ := h
    obtain ⟨S, e⟩ := hm ns hl
    have z : (ns.map V.int).length ≤ sizeLine := by
      have : sizeLine = 16777216 := sizeLine_eq
      rw [List.length_map]
      omega
    have hsp : spE (ctK P w K mg) 1 m [.ref a] H Q (fun _ _ _ => False) := by
      refine ⟨rfl, ⟨H, [], [], []⟩, [.dat (.list (ns.map PyData.int))], rfl, ms0, ⟨?_, trivial⟩, ?_⟩
      · show Rp K (MS.mk H [] [] []).G (.ref a) (.list (ns.map PyData.int))
        rw [ms0_G]
        exact .lst sq z (rp_ints ns)
      · show Out _ _ _ _ _ (m _ []) _
        rw [e]
        intro u m' _ _ _ r
        cases (Rp.bl_inv r)
        exact q _
    refine codeAny_mono (F.run A outer s H args us [.ref a] Q (fun _ _ _ => False) hg hr e0 hb rv hsp) fun r s' hq => ?_
    cases r with
    | ok fl =>
      cases fl with
      | ret v => exact hq
      | next => exact hq.elim
      | brk => exact hq.elim
      | cont => exact hq.elim
    | error e =>
      obtain ⟨_, _, _, _, _, _, _, _, _, _, _, _, hE⟩ := hq
      exact hE
theorem walkE {l : PySem.W.OpenLaw} {q : Program} {loose : List Str} {XP : (Str → Option Value) → Heap → Prop} {YP : World → Heap → Prop} {d : DefRec} {K : Params → PySem.W.Frag} {x : Str} {k : Nat} (hk : Room k callerA) (hn : l.most = some 63) (hdf : d.params.defaults = [])
    (hY : ∀ (w : World) (h : Heap), YP w h → (K w.params).In h)
    (F : ∀ (w : World) (mg : Str → Option Value) (fa : Addr) (h : Heap), (K w.params).In h → h.Ns mainGlobals mg → mg d.name = some (.ref fa) →
      ∃ fd : FuncData, (∀ (s : Shared) (u : Value), BindsTo s fd ⟨[u], []⟩ [(x, u)]) ∧ ∀ base : Heap, (K w.params).In base → base.Ns mainGlobals mg → FnG l.prog w (K w.params) mg base CX0 k fa fd [x] (spL (K w.params))) :
    PySem.W.WalkO q loose XP YP l.row.toRowW d [] (fun f vs => PySem.call f vs) :=
  walkG (n := 63) (k := k) (x := x) (sp := fun w => spL (K w.params)) hn (by decide) hdf hk hY F (fun _ _ a ns hl _ hS => ⟨a, ns, rfl, hS, hl, fun _ => rfl⟩)
/-- a def called by keywords, every parameter given -/
theorem Cal.kw {C : Ct} {base : Heap} {k n : Nat} {x qual : Str} {st : Stmt} {f : Addr} {fd : FuncData} {ps ks : List Str} {fn0 : Fn} {fn : Fk} (F : Gx.FnG C.P C.w C.K C.mg base (L2.CX C.P C.w) k f fd ps (spE C ps.length fn0)) (U : Fun C.K x qual st f fd) (m : C.mg x = some (.ref f))
    (g : {α : Type} → List α → List α → List α)
    (hb : ∀ (kV doc pm : Value) (an : Option Addr) (cdv ct : Value) (us ws : List Value), us.length = n → ws.length = ks.length → bindArgs (PySem.W.fnOf x qual (defArgs st) (defBody st) (defScope st) .none kV doc pm an cdv ct) ⟨us, ks.zip ws⟩ = pure (ps.zip (g us ws)))
    (hv : ∀ vs us zs ws, Vals vs us → Vals zs ws → Vals (g vs zs) (g us ws))
    (hr : ∀ mm vs ds zs es, vs.length = n → zs.length = ks.length → RVs C mm vs ds → RVs C mm zs es → RVs C mm (g vs zs) (g ds es) ∧ (g vs zs).length = ps.length)
    (hf : ∀ ds es, fn ds es = fn0 (g ds es)) : Cal C base k x n ks fn := by
  refine ⟨f, fd, ps, fn0, g, g, g, F, m, U.kp, fun s us ws _ l1 l2 => ?_, hv, hr, hf⟩
  obtain ⟨oc, od, kV, doc, pm, an, cdv, ct, osl, rfl, lk, hcd⟩ := U.ex
  exact .of_eq (hb kV doc pm an cdv ct us ws l1 l2)
def one? {α : Type} : Option α → List α
  | some x => [x]
  | none => []
/-- which argument goes where -/
def pick {α : Type} : List (Bool × Nat) → List α → List α → List α
  | [], _, _ => []
  | (true, k) :: r, us, ws => (one? us[k]?) ++ pick r us ws
  | (false, k) :: r, us, ws => (one? ws[k]?) ++ pick r us ws
theorem opt_vals {vs : List V} {us : List Value} (r : Vals vs us) (k : Nat) : Vals (one? vs[k]?) (one? us[k]?) := by
  cases e : vs[k]? with
  | some x =>
    obtain ⟨u, e2, ru⟩ := r.get e
    rw [e2]
    exact .cons ru .nil
  | none =>
    have : us[k]? = none := by
      rw [List.getElem?_eq_none_iff] at e ⊢
      rw [← r.length]
      exact e
    rw [this]
    exact .nil
theorem pick_vals {vs zs : List V} {us ws : List Value} (r1 : Vals vs us) (r2 : Vals zs ws) : ∀ is : List (Bool × Nat), Vals (pick is vs zs) (pick is us ws)
  | [] => .nil
  | (true, k) :: r => (opt_vals r1 k).append (pick_vals r1 r2 r)
  | (false, k) :: r => (opt_vals r2 k).append (pick_vals r1 r2 r)
theorem rvs_get {C : Ct} {m : MS} : ∀ {vs : List V} {ds : List Val} (k : Nat), RVs C m vs ds → k < vs.length → ∃ v d, vs[k]? = some v ∧ ds[k]? = some d ∧ RV C m v d
  | v :: vs, d :: ds, 0, ⟨h, _⟩, _ => ⟨v, d, rfl, rfl, h⟩
  | v :: vs, d :: ds, k + 1, ⟨_, r⟩, l => by
    obtain ⟨v', d', e1, e2, h⟩ := rvs_get k r (by simpa using l)
    exact ⟨v', d', by simpa using e1, by simpa using e2, h⟩
theorem pick_rvs {C : Ct} {m : MS} {vs zs : List V} {ds es : List Val} (r1 : RVs C m vs ds) (r2 : RVs C m zs es) : ∀ is : List (Bool × Nat), (∀ p ∈ is, p.2 < (if p.1 then vs.length else zs.length)) → RVs C m (pick is vs zs) (pick is ds es) ∧ (pick is vs zs).length = is.length
  | [], _ => ⟨trivial, rfl⟩
  | (true, k) :: r, h => by
    obtain ⟨v, d, e1, e2, hv⟩ := rvs_get k r1 (h (true, k) (by simp))
    obtain ⟨a, b⟩ := pick_rvs r1 r2 r fun p hp => h p (by simp [hp])
    simp only [pick, e1, e2, one?]
    exact ⟨⟨hv, a⟩, by simp [b]⟩
  | (false, k) :: r, h => by
    obtain ⟨v, d, e1, e2, hv⟩ := rvs_get k r2 (h (false, k) (by simp))
    obtain ⟨a, b⟩ := pick_rvs r1 r2 r fun p hp => h p (by simp [hp])
    simp only [pick, e1, e2, one?]
    exact ⟨⟨hv, a⟩, by simp [b]⟩
/-- a def called by keywords -/
theorem Cal.pk {C : Ct} {base : Heap} {k : Nat} {x qual : Str} {st : Stmt} {f : Addr} {fd : FuncData} {ps : List Str} {fn0 : Fn} (n : Nat) (ks : List Str) (is : List (Bool × Nat)) (F : Gx.FnG C.P C.w C.K C.mg base (L2.CX C.P C.w) k f fd ps (spE C ps.length fn0)) (U : Fun C.K x qual st f fd) (m : C.mg x = some (.ref f))
    (hb : ∀ (kV doc pm : Value) (an : Option Addr) (cdv ct : Value) (us ws : List Value), us.length = n → ws.length = ks.length → bindArgs (PySem.W.fnOf x qual (defArgs st) (defBody st) (defScope st) .none kV doc pm an cdv ct) ⟨us, ks.zip ws⟩ = pure (ps.zip (pick is us ws)))
    (hl : is.length = ps.length) (hi : ∀ p ∈ is, p.2 < (if p.1 then n else ks.length)) : Cal C base k x n ks (fun us ws => fn0 (pick is us ws)) :=
  Cal.kw F U m (fun us ws => pick is us ws) hb (fun _ _ _ _ r1 r2 => pick_vals r1 r2 is)
    (fun mm vs ds zs es l1 l2 r1 r2 => by
      have := pick_rvs r1 r2 is (fun p hp => by have := hi p hp; rw [l1, l2]; exact this)
      exact ⟨this.1, this.2.trans hl⟩) (fun _ _ => rfl)
theorem xc_mk {K : PySem.W.Frag} {mg : Str → Option Value} {x : Str} {C : Addr} (h : mg x = some (.ref C)) (k : PySem.W.keepIn K (.ref C) = true) (e : PySem.W.excIn K C [.type "ValueError", .type "Exception", .type "BaseException", .type "object"] "ValueError.__new__" = true)
    (s : PySem.W.subIn K (.ref C) (.type "BaseException") = some true) (t : PySem.W.typeIn K (.ref C) = some (.type "type")) : XcV K mg x := ⟨C, h, e, k, s, t⟩
end Ev

set_option linter.all false
set_option maxHeartbeats 1000000
/-! more operations -/
namespace Ev
open PySem L2 Gx
/-- a text, n times -/
def pRepS : PyData → PyData → Option PyData
  | .str x, .int n => if n ≤ 1048576 ∧ -1048576 ≤ n ∧ x.length ≤ 15 then some (.str (Txt.mul x n)) else none
  | _, _ => none
theorem mul_len (x : Str) (n : Int) : (Txt.mul x n).length ≤ x.length * n.toNat := by
  unfold Txt.mul
  split
  · simp [Str.length, Str.empty]
  · rename_i h
    split
    · rename_i h2
      have : 1 ≤ n.toNat := by omega
      exact Nat.le_mul_of_pos_right _ this
    · show (List.foldl (· ++ ·) #[] (List.replicate n.toNat x.cps)).size ≤ _
      have key : ∀ (k : Nat) (acc : Array Nat), (List.foldl (· ++ ·) acc (List.replicate k x.cps)).size = acc.size + x.cps.size * k := by
        intro k
        induction k with
        | zero => intro acc; simp
        | succ k ih => intro acc; rw [List.replicate_succ, List.foldl_cons, ih, Array.size_append, Nat.mul_succ]; omega
      rw [key]
      simp [Str.length]
variable {X : Cx}
theorem o_repS : OpR X (binaryOp .Mult) (rD2 (ctOf X) pRepS) := by
  intro pins s σ H x y v u Q I rx ry h
  obtain ⟨m, c, d, r, rfl, sr, v1, v2, e, q⟩ := h
  cases c <;> cases d <;> try (cases e; done)
  rename_i x n
  simp only [pRepS] at e
  split at e
  · rename_i hz
    cases e; cases v1.str.1; cases v2.int
    obtain ⟨t, rfl⟩ := rx
    obtain ⟨t2, rfl⟩ := ry
    obtain ⟨z1, z2, z3⟩ := hz
    have le : x.length * n.toNat ≤ 15 * 1048576 := Nat.mul_le_mul z3 (by omega)
    refine SB.mul ⟨?_, fun h1 _ => ?_, fun h1 _ => ?_⟩ fun t' k => ?_
    · have : ¬ n < -(2 ^ 63) := by omega
      have : ¬ n ≥ 2 ^ 63 := by omega
      simp only [Bool.or_eq_false_iff, decide_eq_false_iff_not]
      exact ⟨‹_›, ‹_›⟩
    · have : (2 ^ 63 - 1) / n ≥ (15 : Int) := by
        rw [ge_iff_le, Int.le_ediv_iff_mul_le (by omega)]
        omega
      omega
    · have e0 : sizeLine = 16777216 := sizeLine_eq
      show decide (_ > sizeLine) = false
      rw [decide_eq_false_iff_not, e0]
      omega
    · refine ⟨.str (Txt.mul x n), m.H, I.tok _, ⟨_, rfl⟩, q.now (.str _ ?_)⟩
      have e0 : sizeLine = 16777216 := sizeLine_eq
      have := mul_len x n
      omega
  · cases e
end Ev

set_option linter.all false
namespace Ev
open PySem
noncomputable def b_is_whole : Fs :=
  sR (eAnd (e1 (pIsi "int") (eV 0)) (eAnd (eNot (e1 (pIsi "bool") (eV 0))) (eCh pLe pLe (eV 1) (eV 0) (eV 2))))
noncomputable def m_is_whole : Fn := mkFn 3 b_is_whole

noncomputable def b_is_name : Fs :=
  sQ (sI (tOr (tNot (tTru (e1 (pIsi "str") (eV 0)))) (tNot (tCh pLe pLe (eD (.int 1)) (e1 pLen (eV 0)) (eD (.int 8))))) (sR (eD (.bool false))) (sN))
  (sR (e1 pAll (eLc (cF [1] (iA (eV 0)) (gN 1) (tYes) (cE (e2 (cmpD pIn) (eV 1) (eD (.str "abcdefghijklmnopqrstuvwxyz"))))))))
noncomputable def m_is_name : Fn := mkFn 2 b_is_name

noncomputable def b_are_rising : Fs :=
  sR (e1 pAll (eLc (cF [1, 2] (iZip (eV 0) (eSl (eV 0) (oS (eD (.int 1))) (oN))) (gT [gN 1, gN 2]) (tYes) (cE (e2 (cmpD pLt) (eV 1) (eV 2))))))
noncomputable def m_are_rising : Fn := mkFn 3 b_are_rising

noncomputable def b_states_above : Fs :=
  sQ (sG (eV 0) (gT [gN 2, gN 3]))
  (sQ (sG (eLstC (aC (eTup (aC (eD (.int 0)) (aN))) (aN))) (gN 4))
  (sQ (sF (iA (eV 1)) (gN 5) (sQ (sG (eSc true (cF [6, 7, 8] (iA (e2 pIdx (eV 4) (e1 pNeg (eD (.int 1))))) (gN 6) (tYes) (cF [7, 8] (iA (e2 pIdx (eV 2) (eV 6))) (gT [gN 7, gN 8]) (t2 pIn (eV 7) (eV 5)) (cEI (eV 8))))) (gN 9))
  (sApp (eV 4) (e1 pTup (eSortSet (eV 9))))))
  (sR (e1 pTup (eV 4)))))
noncomputable def m_states_above : Fn := mkFn 10 b_states_above

noncomputable def b_states_below : Fs :=
  sQ (sG (eV 0) (gT [gN 2, gN 3]))
  (sQ (sG (eLstC (aC (eV 3) (aN))) (gN 4))
  (sQ (sF (iA (e1 pRev (eV 1))) (gN 5) (sQ (sG (e2 pIdx (eV 4) (e1 pNeg (eD (.int 1)))) (gN 6))
  (sQ (sG (eSc true (cF [7, 8, 9, 10] (iEnum (eV 2)) (gT [gN 7, gN 8]) (tYes) (cF [9, 10] (iA (eV 8)) (gT [gN 9, gN 10]) (tAnd (t2 pIn (eV 9) (eV 5)) (t2 pIn (eV 10) (eV 6))) (cEI (eV 7))))) (gN 11))
  (sApp (eV 4) (e1 pTup (eSortSet (eV 11)))))))
  (sR (e1 pTup (e1 pRev (eV 4))))))
noncomputable def m_states_below : Fn := mkFn 12 b_states_below

noncomputable def b__law_pot : Fs :=
  sQ (sG (eD (.int 0)) (gN 2))
  (sQ (sI (t2 pLt (eV 1) (e1 pLen (eV 0))) (sG (e1 pAbs (e2 pIdx (eV 0) (eV 1))) (gN 2)) (sN))
  (sR (eLstC (aC (e2 pMul (eV 2) (e1 pInt (e2 (cmpD pGe) (eV 2) (e2 pPow (eD (.int 10)) (eD (.int 18)))))) (aC (e2 pMod (e2 pPow (e2 pAdd (e2 pAdd (e2 pMod (eV 2) (eD (.int 1000000007))) (e2 pMul (eD (.int 104729)) (eV 1))) (eD (.int 17))) (eD (.int 3))) (eD (.int 2147483629))) (aC (eD (.int 0)) (aN)))))))
noncomputable def m__law_pot : Fn := mkFn 3 b__law_pot

noncomputable def b__law_take : Fs :=
  sQ (sI (t2 pGt (e2 pIdx (eV 0) (eD (.int 0))) (eD (.int 0))) (sQ (sG (e2 pMod (e2 pIdx (eV 0) (eD (.int 0))) (eV 1)) (gN 2))
  (sQ (sPut (e2 pFdiv (e2 pIdx (eV 0) (eD (.int 0))) (eV 1)) (eV 0) (eD (.int 0)))
  (sR (eV 2)))) (sN))
  (sQ (sPut (e2 pAdd (e2 pIdx (eV 0) (eD (.int 2))) (eD (.int 1))) (eV 0) (eD (.int 2)))
  (sQ (sG (e2 pMod (e2 pPow (e2 pAdd (e2 pIdx (eV 0) (eD (.int 1))) (e2 pMul (eD (.int 7919)) (e2 pIdx (eV 0) (eD (.int 2))))) (eD (.int 3))) (eD (.int 2147483587))) (gN 3))
  (sQ (sG (e2 pMod (e2 pPow (e2 pAdd (e2 pAdd (eV 3) (e2 pMul (e2 pMul (eD (.int 31)) (e2 pIdx (eV 0) (eD (.int 2)))) (e2 pIdx (eV 0) (eD (.int 2))))) (e2 pMod (e2 pIdx (eV 0) (eD (.int 1))) (eD (.int 65521)))) (eD (.int 5))) (eD (.int 2147483563))) (gN 4))
  (sR (e2 pMod (e2 pFdiv (eV 4) (eD (.int 256))) (eV 1))))))
noncomputable def m__law_take : Fn := mkFn 5 b__law_take

noncomputable def b__law_above : Fs :=
  sQ (sG (eLstC (aC (eLst (aC (eD (.int 0)) (aN))) (aN))) (gN 2))
  (sQ (sF (iA (eV 1)) (gN 3) (sQ (sG (eLstC (aN)) (gN 4))
  (sQ (sF (iA (e2 pIdx (eV 2) (e1 pNeg (eD (.int 1))))) (gN 5) (sF (iA (e2 pIdx (e2 pIdx (eV 0) (eD (.int 0))) (eV 5))) (gT [gN 6, gN 7]) (sI (tAnd (t2 pIn (eV 6) (eV 3)) (t2 pNotIn (eV 7) (eV 4))) (sApp (eV 4) (eV 7)) (sN))))
  (sApp (eV 2) (e1 pSorted (eV 4))))))
  (sR (eFrz (eV 2))))
noncomputable def m__law_above : Fn := mkFn 8 b__law_above

noncomputable def b__law_below : Fs :=
  sQ (sG (eLst (aC (e1 pLst (e2 pIdx (eV 0) (eD (.int 1)))) (aN))) (gN 2))
  (sQ (sF (iRd (e2 pSub (e1 pLen (eV 1)) (eD (.int 1))) (e1 pNeg (eD (.int 1)))) (gN 3) (sQ (sG (eLstC (aN)) (gN 4))
  (sQ (sF (iEnum (e2 pIdx (eV 0) (eD (.int 0)))) (gT [gN 5, gN 6]) (sI (t2 pNe (eLc (cF [7, 8] (iA (eV 6)) (gT [gN 7, gN 8]) (tAnd (t2 pIn (eV 7) (e2 pIdx (eV 1) (eV 3))) (t2 pIn (eV 8) (e2 pIdx (eV 2) (eD (.int 0))))) (cE (eD (.int 1))))) (eLst (aN))) (sApp (eV 4) (eV 5)) (sN)))
  (sG (e2 pAdd (eLst (aC (eFrz (eV 4)) (aN))) (eV 2)) (gN 2)))))
  (sR (eV 2)))
noncomputable def m__law_below : Fn := mkFn 9 b__law_below

noncomputable def b__law_rows : Fs :=
  sR (e1 pTup (eLc (cF [1] (iA (eV 0)) (gN 1) (tYes) (cE (e1 pTup (eV 1))))))
noncomputable def m__law_rows : Fn := mkFn 2 b__law_rows

noncomputable def b_are_names : Fs :=
  sR (eAnd (e1 (pIsi "tuple") (eV 0)) (eAnd (e1 pAll (eLc (cF [1] (iA (eV 0)) (gN 1) (tYes) (cE (eCall m_is_name (aC (eV 1) (aN))))))) (eCall m_are_rising (aC (eV 0) (aN)))))
noncomputable def m_are_names : Fn := mkFn 2 b_are_names

noncomputable def b_is_mask : Fs :=
  sQ (sI (tOr (tNot (tTru (e1 (pIsi "tuple") (eV 0)))) (tNot (tTru (e1 pAll (eLc (cF [1] (iA (eV 0)) (gN 1) (tYes) (cE (eCall m_is_name (aC (eV 1) (aN)))))))))) (sR (eD (.bool false))) (sN))
  (sR (e1 pAll (eLc (cF [2, 3] (iZip (eV 0) (eSl (eV 0) (oS (eD (.int 1))) (oN))) (gT [gN 2, gN 3]) (tYes) (cE (e2 (cmpD pLt) (eV 2) (eV 3)))))))
noncomputable def m_is_mask : Fn := mkFn 4 b_is_mask

noncomputable def b_states_open : Fs :=
  sQ (sG (eLstC (aN)) (gN 2))
  (sQ (sF (iZipS (eCall m_states_above (aC (eV 0) (aC (eV 1) (aN)))) (eCall m_states_below (aC (eV 0) (aC (eV 1) (aN))))) (gT [gN 3, gN 4]) (sApp (eV 2) (e1 pTup (eLc (cF [5] (iA (eV 3)) (gN 5) (t2 pIn (eV 5) (eV 4)) (cE (eV 5)))))))
  (sR (e1 pTup (eV 2))))
noncomputable def m_states_open : Fn := mkFn 6 b_states_open

noncomputable def b__law_names : Fs :=
  sQ (sG (eD (.str "abcdefghijklmnopqrstuvwxyz")) (gN 2))
  (sQ (sG (eLstC (aN)) (gN 3))
  (sQ (sF (iR1 (eV 1)) (gN 4) (sQ (sG (eMs pJoin (eD (.str "")) (eLc (cF [5] (iR1 (e2 pIdx (eLst (aC (eD (.int 1)) (aC (eD (.int 2)) (aC (eD (.int 3)) (aC (eD (.int 8)) (aN)))))) (eCall m__law_take (aC (eV 0) (aC (eD (.int 4)) (aN)))))) (gN 5) (tYes) (cE (e2 pIdx (eV 2) (eCall m__law_take (aC (eV 0) (aC (eD (.int 26)) (aN))))))))) (gN 6))
  (sQ (sI (tAnd (t2 pNe (eV 3) (eLst (aN))) (t2 pEq (eCall m__law_take (aC (eV 0) (aC (eD (.int 3)) (aN)))) (eD (.int 0)))) (sG (eSl (e2 pAdd (e2 pIdx (eV 3) (e1 pNeg (eD (.int 1)))) (eD (.str "a"))) (oN) (oS (eD (.int 8)))) (gN 6)) (sN))
  (sQ (sF (iR1 (eV 1)) (gN 5) (sI (t2 pIn (eV 6) (eV 3)) (sG (e2 pAdd (e2 pIdx (eV 2) (e2 pMod (e2 pAdd (eMs pIndexS (eV 2) (e2 pIdx (eV 6) (eD (.int 0)))) (eD (.int 1))) (eD (.int 26)))) (eSl (eV 6) (oS (eD (.int 1))) (oN))) (gN 6)) (sN)))
  (sApp (eV 3) (eV 6))))))
  (sR (eFrz (eV 3)))))
noncomputable def m__law_names : Fn := mkFn 7 b__law_names

noncomputable def b__law_rule : Fs :=
  sQ (sG (e2 pAdd (eD (.int 1)) (eCall m__law_take (aC (eV 0) (aC (eV 2) (aN))))) (gN 3))
  (sQ (sG (eLstC (aN)) (gN 4))
  (sQ (sF (iR1 (eV 3)) (gN 5) (sQ (sG (eLc (cF [6] (iA (eV 1)) (gN 6) (t2 pGt (eCall m__law_take (aC (eV 0) (aC (eD (.int 4)) (aN)))) (eD (.int 0))) (cE (eV 6)))) (gN 7))
  (sApp (eV 4) (e1 pTup (eLc (cF [6] (iA (eV 7)) (gN 6) (tYes) (cE (eTup (aC (eV 6) (aC (eCall m__law_take (aC (eV 0) (aC (eV 3) (aN)))) (aN)))))))))))
  (sR (eTup (aC (e1 pTup (eV 4)) (aC (e1 pTup (eLc (cF [5] (iR1 (eV 3)) (gN 5) (t2 pGt (eCall m__law_take (aC (eV 0) (aC (eD (.int 3)) (aN)))) (eD (.int 0))) (cE (eV 5))))) (aN)))))))
noncomputable def m__law_rule : Fn := mkFn 8 b__law_rule

noncomputable def b__law_strip : Fs :=
  sQ (sG (e2 pIdx (eLc (cF [3] (iA (eLc (cF [4] (iR2 (eD (.int 1)) (eD (.int 9))) (gN 4) (tYes) (cE (e2 pRepS (eD (.str "q")) (eV 4)))))) (gN 3) (t2 pNotIn (eV 3) (eV 1)) (cE (eV 3)))) (eD (.int 0))) (gN 5))
  (sQ (sG (eLstC (aN)) (gN 6))
  (sQ (sF (iR1 (eV 2)) (gN 7) (sQ (sG (eCall m__law_take (aC (eV 0) (aC (eD (.int 8)) (aN)))) (gN 8))
  (sQ (sG (eLcC (cF [9] (iA (eV 1)) (gN 9) (t2 pGt (eCall m__law_take (aC (eV 0) (aC (eD (.int 3)) (aN)))) (eD (.int 0))) (cE (eV 9)))) (gN 10))
  (sQ (sI (t2 pLt (eV 8) (eD (.int 3))) (sG (e1C pLst (eV 1)) (gN 10)) (sN))
  (sQ (sI (t2 pEq (eV 8) (eD (.int 3))) (sG (eLstC (aC (e2 pIdx (eV 1) (eCall m__law_take (aC (eV 0) (aC (e1 pLen (eV 1)) (aN))))) (aN))) (gN 10)) (sN))
  (sQ (sI (tAnd (t2 pEq (eV 8) (eD (.int 4))) (t2 pEq (eCall m__law_take (aC (eV 0) (aC (eD (.int 3)) (aN)))) (eD (.int 0)))) (sG (eLstC (aN)) (gN 10)) (sN))
  (sQ (sI (t2 pEq (eV 8) (eD (.int 5))) (sApp (eV 10) (eV 5)) (sN))
  (sQ (sI (tAnd (t2 pEq (eV 8) (eD (.int 6))) (t2 pEq (eCall m__law_take (aC (eV 0) (aC (eD (.int 3)) (aN)))) (eD (.int 0)))) (sG (e2C pAdd (eV 10) (eLc (cF [11] (iA (eD (.str "abcdefghijklmnopqrstuvwxyz"))) (gN 11) (t2 pNotIn (eV 11) (eV 10)) (cE (eV 11))))) (gN 10)) (sN))
  (sApp (eV 6) (e1 pTup (e1 pSorted (eV 10))))))))))))
  (sR (e1 pTup (eV 6)))))
noncomputable def m__law_strip : Fn := mkFn 12 b__law_strip

noncomputable def b__law_open : Fs :=
  sQ (sG (eLstC (aN)) (gN 2))
  (sQ (sF (iZip (eCall m__law_above (aC (eV 0) (aC (eV 1) (aN)))) (eCall m__law_below (aC (eV 0) (aC (eV 1) (aN))))) (gT [gN 3, gN 4]) (sApp (eV 2) (eLc (cF [5] (iA (eV 3)) (gN 5) (t2 pIn (eV 5) (eV 4)) (cE (eV 5))))))
  (sR (eFrz (eV 2))))
noncomputable def m__law_open : Fn := mkFn 6 b__law_open

noncomputable def b_is_state : Fs :=
  sQ (sI (tOr (tNot (tTru (e1 (pIsi "tuple") (eV 0)))) (tNot (tTru (e1 pAll (eLc (cF [2] (iA (eV 0)) (gN 2) (tYes) (cE (eAnd (e1 (pIsi "tuple") (eV 2)) (e2 (cmpD pEq) (e1 pLen (eV 2)) (eD (.int 2))))))))))) (sR (eD (.bool false))) (sN))
  (sQ (sI (tNot (tTru (eCall m_are_names (aC (e1 pTup (eLc (cF [3, 4] (iA (eV 0)) (gT [gN 3, gN 4]) (tYes) (cE (eV 3))))) (aN))))) (sR (eD (.bool false))) (sN))
  (sR (e1 pAll (eLc (cF [3, 4] (iA (eV 0)) (gT [gN 3, gN 4]) (tYes) (cE (eCall m_is_whole (aC (eV 4) (aC (eD (.int 0)) (aC (e2 pSub (eV 1) (eD (.int 1))) (aN)))))))))))
noncomputable def m_is_state : Fn := mkFn 5 b_is_state

noncomputable def b_is_strip : Fs :=
  sQ (sI (tOr (tNot (tTru (e1 (pIsi "tuple") (eV 0)))) (tNot (tCh pLe pLe (eD (.int 1)) (e1 pLen (eV 0)) (eD (.int 12))))) (sR (eD (.bool false))) (sN))
  (sR (e1 pAll (eLc (cF [1] (iA (eV 0)) (gN 1) (tYes) (cE (eCall m_is_mask (aC (eV 1) (aN))))))))
noncomputable def m_is_strip : Fn := mkFn 2 b_is_strip

noncomputable def b__law_kinds : Fs :=
  sQ (sG (e2 pMin2 (eV 1) (e2 pIdx (eLst (aC (eD (.int 2)) (aC (eD (.int 3)) (aC (eD (.int 4)) (aC (eD (.int 2)) (aC (eD (.int 3)) (aC (eD (.int 1)) (aN)))))))) (eCall m__law_take (aC (eV 0) (aC (eD (.int 6)) (aN)))))) (gN 2))
  (sR (e1 pTup (e1 pSorted (eCall m__law_names (aC (eV 0) (aC (eV 2) (aN)))))))
noncomputable def m__law_kinds : Fn := mkFn 3 b__law_kinds

noncomputable def b__law_poor_rule : Fs :=
  sQ (sG (eCall m__law_rule (aC (eV 0) (aC (eV 1) (aC (eV 2) (aN))))) (gT [gN 3, gN 4]))
  (sR (eTup (aC (eV 3) (aC (e2 pIdx (eLst (aC (eV 4) (aC (eSl (eV 4) (oN) (oS (eD (.int 1)))) (aC (eSl (eV 4) (oS (eD (.int 1))) (oS (eD (.int 2)))) (aC (eTup (aN)) (aN)))))) (eCall m__law_take (aC (eV 0) (aC (eD (.int 4)) (aN))))) (aN)))))
noncomputable def m__law_poor_rule : Fn := mkFn 5 b__law_poor_rule

noncomputable def b_are_states : Fs :=
  sQ (sI (tOr (tNot (tTru (e1 (pIsi "tuple") (eV 0)))) (tNot (tCh pLe pLe (eD (.int 1)) (e1 pLen (eV 0)) (eD (.int 40))))) (sR (eD (.bool false))) (sN))
  (sQ (sI (tNot (tTru (e1 pAll (eLc (cF [1] (iA (eV 0)) (gN 1) (tYes) (cE (eCall m_is_state (aC (eV 1) (aC (e1 pLen (eV 0)) (aN)))))))))) (sR (eD (.bool false))) (sN))
  (sR (e2 (cmpD pLe) (eLenSet (eSc false (cF [1, 2, 3] (iA (eV 0)) (gN 1) (tYes) (cF [2, 3] (iA (eV 1)) (gT [gN 2, gN 3]) (tYes) (cEK (eV 2)))))) (eD (.int 4)))))
noncomputable def m_are_states : Fn := mkFn 4 b_are_states

noncomputable def b_is_rule : Fs :=
  sQ (sI (tOr (tNot (tTru (e1 (pIsi "tuple") (eV 0)))) (tOr (t2 pNe (e1 pLen (eV 0)) (eD (.int 2))) (tOr (tNot (tTru (eCall m_are_states (aC (e2 pIdx (eV 0) (eD (.int 0))) (aN))))) (tNot (tTru (e1 (pIsi "tuple") (e2 pIdx (eV 0) (eD (.int 1))))))))) (sR (eD (.bool false))) (sN))
  (sQ (sG (eV 0) (gT [gN 1, gN 2]))
  (sR (eAnd (e1 pAll (eLc (cF [3] (iA (eV 2)) (gN 3) (tYes) (cE (eCall m_is_whole (aC (eV 3) (aC (eD (.int 0)) (aC (e2 pSub (e1 pLen (eV 1)) (eD (.int 1))) (aN))))))))) (eCall m_are_rising (aC (eV 2) (aN))))))
noncomputable def m_is_rule : Fn := mkFn 4 b_is_rule

noncomputable def b_need_strip : Fs :=
  sQ (sI (tNot (tTru (eCall m_is_rule (aC (eV 0) (aN))))) (sRaise ⟨"NoRule", none⟩) (sN))
  (sI (tNot (tTru (eCall m_is_strip (aC (eV 1) (aN))))) (sRaise ⟨"NoMasks", none⟩) (sN))
noncomputable def m_need_strip : Fn := mkFn 2 b_need_strip

noncomputable def b_from_above : Fs :=
  sQ (sE (eCall m_need_strip (aC (eV 0) (aC (eV 1) (aN)))))
  (sR (eCall m_states_above (aC (eV 0) (aC (eV 1) (aN)))))
noncomputable def m_from_above : Fn := mkFn 2 b_from_above

noncomputable def b_from_below : Fs :=
  sQ (sE (eCall m_need_strip (aC (eV 0) (aC (eV 1) (aN)))))
  (sR (eCall m_states_below (aC (eV 0) (aC (eV 1) (aN)))))
noncomputable def m_from_below : Fn := mkFn 2 b_from_below

noncomputable def b_sure_states : Fs :=
  sQ (sE (eCall m_need_strip (aC (eV 0) (aC (eV 1) (aN)))))
  (sR (e1 pTup (eLc (cF [2] (iA (eCall m_states_open (aC (eV 0) (aC (eV 1) (aN))))) (gN 2) (tYes) (cE (eIf (t2 pEq (e1 pLen (eV 2)) (eD (.int 1))) (e2 pIdx (eV 2) (eD (.int 0))) (eD .none)))))))
noncomputable def m_sure_states : Fn := mkFn 3 b_sure_states

noncomputable def m_from_below__0_strip_rule : Fk := fun us ws => m_from_below (pick [(false, 1), (false, 0)] us ws)
noncomputable def m_sure_states__0_strip_rule : Fk := fun us ws => m_sure_states (pick [(false, 1), (false, 0)] us ws)
noncomputable def m_from_above__0_strip_rule : Fk := fun us ws => m_from_above (pick [(false, 1), (false, 0)] us ws)
noncomputable def b__law_right : Fs :=
  sQ (sG (e1 pRepr (eTup (aC (eV 0) (aC (eV 1) (aN))))) (gN 2))
  (sQ (sG (e1 pRepr (eCall m__law_rows (aC (eCall m__law_above (aC (eV 0) (aC (eV 1) (aN)))) (aN)))) (gN 3))
  (sQ (sG (e1 pRepr (eCall m__law_rows (aC (eCall m__law_below (aC (eV 0) (aC (eV 1) (aN)))) (aN)))) (gN 4))
  (sQ (sG (e1 pRepr (e1 pTup (eLc (cF [5] (iA (eCall m__law_open (aC (eV 0) (aC (eV 1) (aN))))) (gN 5) (tYes) (cE (eIf (t2 pEq (e1 pLen (eV 5)) (eD (.int 1))) (e2 pIdx (eV 5) (eD (.int 0))) (eD .none))))))) (gN 6))
  (sQ (sG (eLst (aC (e1 pRepr (eCall m_from_above (aC (eV 0) (aC (eV 1) (aN))))) (aC (e1 pRepr (eCall m_from_below (aC (eV 0) (aC (eV 1) (aN))))) (aC (e1 pRepr (eCall m_sure_states (aC (eV 0) (aC (eV 1) (aN))))) (aN))))) (gN 7))
  (sQ (sI (tOr (t2 pNe (eV 7) (eLst (aC (eV 3) (aC (eV 4) (aC (eV 6) (aN)))))) (t2 pNe (e1 pRepr (eTup (aC (eV 0) (aC (eV 1) (aN))))) (eV 2))) (sR (eD (.bool false))) (sN))
  (sQ (sG (eLst (aC (e1 pRepr (eCallK m_sure_states__0_strip_rule aN (aC (eV 1) (aC (eV 0) (aN))))) (aC (e1 pRepr (eCallK m_from_below__0_strip_rule aN (aC (eV 1) (aC (eV 0) (aN))))) (aN)))) (gN 8))
  (sR (eAnd (e2 (cmpD pEq) (eV 8) (eLst (aC (eV 6) (aC (eV 4) (aN))))) (e2 (cmpD pEq) (e1 pRepr (eCallK m_from_above__0_strip_rule aN (aC (eV 1) (aC (eV 0) (aN))))) (eV 3))))))))))
noncomputable def m__law_right : Fn := mkFn 9 b__law_right

noncomputable def b_law : Fs :=
  sQ (sF (iR1 (e2 pMax2 (eD (.int 1)) (e2 pMin2 (eD (.int 12)) (e1 pLen (eV 0))))) (gN 1) (sQ (sG (eCall m__law_pot (aC (eV 0) (aC (eV 1) (aN)))) (gN 2))
  (sQ (sG (eCall m__law_kinds (aC (eV 2) (aC (eD (.int 4)) (aN)))) (gN 3))
  (sF (iR1 (eD (.int 3))) (gN 4) (sQ (sG (eCall m__law_poor_rule (aC (eV 2) (aC (eV 3) (aC (e2 pIdx (eLst (aC (eD (.int 8)) (aC (eD (.int 40)) (aN)))) (e1 pInt (eAnd (e2 (cmpD pEq) (eV 1) (eD (.int 0))) (e2 (cmpD pEq) (eV 4) (eD (.int 2)))))) (aN))))) (gN 5))
  (sI (tNot (tTru (eCall m__law_right (aC (eV 5) (aC (eCall m__law_strip (aC (eV 2) (aC (eV 3) (aC (e2 pAdd (eD (.int 1)) (eCall m__law_take (aC (eV 2) (aC (eD (.int 12)) (aN))))) (aN))))) (aN)))))) (sR (eD (.bool false))) (sN)))))))
  (sR (eD (.bool true)))
noncomputable def m_law : Fn := mkFn 6 b_law

end Ev

set_option Elab.async false
set_option linter.all false
set_option maxRecDepth 100000
set_option maxHeartbeats 4000000
namespace K25
open PySem L2 Gx Ev
def topS (i : Nat) : Stmt := PySem.Challenge.pw_groundsay_k25_states_above_and_below.main.body.getD i (.Pass ⟨0, 0, 0, 0⟩)
structure Cs (mg : Str → Option Value) : Prop where
  LETTERS : ∃ t, mg "LETTERS" = some (.str "abcdefghijklmnopqrstuvwxyz" t)
  MOST_LETTERS : ∃ t, mg "MOST_LETTERS" = some (.int 8 t)
  MOST_KINDS : ∃ t, mg "MOST_KINDS" = some (.int 4 t)
  MOST_STATES : ∃ t, mg "MOST_STATES" = some (.int 40 t)
  MOST_DEPTH : ∃ t, mg "MOST_DEPTH" = some (.int 12 t)
section
variable {P : Program} {w : World} {K : PySem.W.Frag} {mg : Str → Option Value} {base : Heap}
abbrev s_is_whole : Stmt := topS 10
abbrev n_is_whole : List Str := ["thing", "low", "high"]
theorem sc_is_whole : FnScope n_is_whole ["thing", "low", "high"] (defScope s_is_whole) :=
  ⟨rfl, rfl, rfl, by decide +kernel, rfl, by decide +kernel, by decide +kernel⟩
theorem ok_is_whole {f : Addr} {fd : FuncData} (F : Fun K "is_whole" "is_whole" s_is_whole f fd) (B : Bl mg) :
    Gx.FnG P w K mg base (L2.CX P w) 1 f fd ["thing", "low", "high"] (spE (ctK P w K mg) 3 m_is_whole) :=
  fn_ev (k := 0) (b := b_is_whole) F sc_is_whole rfl rfl rfl fun cdv A outer s H E c =>
  s_one (s_ret (x_and (x_isi "int" (x_var (i := 0)) B.isinstance B.int (by decide +kernel)) (x_and (x_not (x_isi "bool" (x_var (i := 0)) B.isinstance B.bool (by decide +kernel))) (x_one (x_chain o_le o_le (x_var (i := 1)) (x_var (i := 0)) (x_var (i := 2)))))))
abbrev s_is_name : Stmt := topS 11
abbrev n_is_name : List Str := ["thing", "sign"]
theorem sc_is_name : FnScope n_is_name ["thing"] (defScope s_is_name) :=
  ⟨rfl, rfl, rfl, by decide +kernel, rfl, by decide +kernel, by decide +kernel⟩
theorem ok_is_name {f : Addr} {fd : FuncData} (F : Fun K "is_name" "is_name" s_is_name f fd) (B : Bl mg) (T : Cs mg) :
    Gx.FnG P w K mg base (L2.CX P w) 1 f fd ["thing"] (spE (ctK P w K mg) 1 m_is_name) :=
  fn_ev (k := 0) (b := b_is_name) F sc_is_name rfl rfl rfl fun cdv A outer s H E c =>
  s_cons (s_if (PW.pt (w_or (t_not (t_tru (x_isi "str" (x_var (i := 0)) B.isinstance B.str (by decide +kernel)))) (w_or1 (t_not (x_chainT o_le o_le (x_int) (x_b1 c_len (x_var (i := 0)) B.len (by decide +kernel)) (x_gI T.MOST_LETTERS)))))) (s_one (s_ret (x_bl))) (s_nil))
  (s_one (s_ret (x_b1 (c_all c.calm) (x_lc1 (own := [("sign", 1)]) c (i_any (x_var (i := 0))) (blkOk_by (N := n_is_name) (sc := defScope s_is_name) (by decide +kernel)) ⟨fun _ _ _ _ _ c1 => g_name 1 c1.nd, fun _ _ _ _ _ c1 => ts_nil⟩ (fun _ _ _ _ _ c1 => x_cmp (o_in c1.room) (x_var (i := 1)) (x_gS T.LETTERS) (by rfl))) B.all (by decide +kernel))))
abbrev s_are_rising : Stmt := topS 12
abbrev n_are_rising : List Str := ["row", "one", "other"]
theorem sc_are_rising : FnScope n_are_rising ["row"] (defScope s_are_rising) :=
  ⟨rfl, rfl, rfl, by decide +kernel, rfl, by decide +kernel, by decide +kernel⟩
theorem ok_are_rising {f : Addr} {fd : FuncData} (F : Fun K "are_rising" "are_rising" s_are_rising f fd) (B : Bl mg) :
    Gx.FnG P w K mg base (L2.CX P w) 1 f fd ["row"] (spE (ctK P w K mg) 1 m_are_rising) :=
  fn_ev (k := 0) (b := b_are_rising) F sc_are_rising rfl rfl rfl fun cdv A outer s H E c =>
  s_one (s_ret (x_b1 (c_all c.calm) (x_lc1 (own := [("one", 1), ("other", 2)]) c (i_zip (x_var (i := 0)) (x_sl (x_var (i := 0)) (p_some (x_int)) (p_none)) B.zip) (blkOk_by (N := n_are_rising) (sc := defScope s_are_rising) (by decide +kernel)) ⟨fun _ _ _ _ _ c1 => g_tup c1.calm (gs_cons (g_name 1 c1.nd) (gs_cons (g_name 2 c1.nd) (gs_nil))), fun _ _ _ _ _ c1 => ts_nil⟩ (fun _ _ _ _ _ c1 => x_cmp o_lt (x_var (i := 1)) (x_var (i := 2)) (nomark _))) B.all (by decide +kernel)))
abbrev s_states_above : Stmt := topS 21
abbrev n_states_above : List Str := ["rule", "strip", "states", "ends", "found", "mask", "state", "kind", "there", "later"]
theorem sc_states_above : FnScope n_states_above ["rule", "strip"] (defScope s_states_above) :=
  ⟨rfl, rfl, rfl, by decide +kernel, rfl, by decide +kernel, by decide +kernel⟩
theorem ok_states_above {f : Addr} {fd : FuncData} (F : Fun K "states_above" "states_above" s_states_above f fd) (B : Bl mg) :
    Gx.FnG P w K mg base (L2.CX P w) 1 f fd ["rule", "strip"] (spE (ctK P w K mg) 2 m_states_above) :=
  fn_ev (k := 0) (b := b_states_above) F sc_states_above rfl rfl rfl fun cdv A outer s H E c =>
  s_cons (s_asg (x_var (i := 0)) (g_tup c.calm (gs_cons (g_name 2 c.nd) (gs_cons (g_name 3 c.nd) (gs_nil)))))
  (s_cons (s_set 4 c.nd (x_lstC (a_cons (x_tup (a_cons (x_int) (a_nil))) (a_nil))))
  (s_cons (s_for c.po c.calm (i_any (x_var (i := 1))) (g_name 5 c.nd) (s_cons (s_sc2I 9 (own := [("state", 6), ("kind", 7), ("there", 8)]) (vs1 := [7, 8]) c (i_any (x_ix (x_var (i := 4)) (x_un o_neg (x_int)))) (blkOk_by (N := n_states_above) (sc := defScope s_states_above) (by decide +kernel)) ⟨fun _ _ _ _ _ c1 => g_name 6 c1.nd, fun _ _ _ _ _ c1 => ts_nil⟩ (fun _ _ _ _ _ c1 => i_any (x_ix (x_var (i := 2)) (x_var (i := 6)))) ⟨fun _ _ _ _ _ c1 => g_tup c1.calm (gs_cons (g_name 7 c1.nd) (gs_cons (g_name 8 c1.nd) (gs_nil))), fun _ _ _ _ _ c1 => ts_one (x_cmpT (o_in c1.room) (x_var (i := 7)) (x_var (i := 5)) (by rfl))⟩ (fun _ _ _ _ _ c1 => x_var (i := 8)))
  (s_one (s_app (x_var (i := 4)) (x_t1 c_tuple (x_sortSet (x_var (i := 9)) c.calm B.sorted) B.tuple (by decide +kernel))))))
  (s_one (s_ret (x_t1 c_tuple (x_var (i := 4)) B.tuple (by decide +kernel))))))
abbrev s_states_below : Stmt := topS 22
abbrev n_states_below : List Str := ["rule", "strip", "states", "ends", "found", "mask", "good", "state", "pairs", "kind", "there", "some"]
theorem sc_states_below : FnScope n_states_below ["rule", "strip"] (defScope s_states_below) :=
  ⟨rfl, rfl, rfl, by decide +kernel, rfl, by decide +kernel, by decide +kernel⟩
theorem ok_states_below {f : Addr} {fd : FuncData} (F : Fun K "states_below" "states_below" s_states_below f fd) (B : Bl mg) :
    Gx.FnG P w K mg base (L2.CX P w) 1 f fd ["rule", "strip"] (spE (ctK P w K mg) 2 m_states_below) :=
  fn_ev (k := 0) (b := b_states_below) F sc_states_below rfl rfl rfl fun cdv A outer s H E c =>
  s_cons (s_asg (x_var (i := 0)) (g_tup c.calm (gs_cons (g_name 2 c.nd) (gs_cons (g_name 3 c.nd) (gs_nil)))))
  (s_cons (s_set 4 c.nd (x_lstC (a_cons (x_var (i := 3)) (a_nil))))
  (s_cons (s_for c.po c.calm (i_any (x_rev (x_var (i := 1)))) (g_name 5 c.nd) (s_cons (s_set 6 c.nd (x_ix (x_var (i := 4)) (x_un o_neg (x_int))))
  (s_cons (s_sc2I 11 (own := [("state", 7), ("pairs", 8), ("kind", 9), ("there", 10)]) (vs1 := [9, 10]) c (i_enum (x_var (i := 2)) B.enumerate) (blkOk_by (N := n_states_below) (sc := defScope s_states_below) (by decide +kernel)) ⟨fun _ _ _ _ _ c1 => g_tup c1.calm (gs_cons (g_name 7 c1.nd) (gs_cons (g_name 8 c1.nd) (gs_nil))), fun _ _ _ _ _ c1 => ts_nil⟩ (fun _ _ _ _ _ c1 => i_any (x_var (i := 8))) ⟨fun _ _ _ _ _ c1 => g_tup c1.calm (gs_cons (g_name 9 c1.nd) (gs_cons (g_name 10 c1.nd) (gs_nil))), fun _ _ _ _ _ c1 => ts_one (PW.pt (w_and (x_cmpT (o_in c1.room) (x_var (i := 9)) (x_var (i := 5)) (by rfl)) (w_and1 (x_cmpT (o_in c1.room) (x_var (i := 10)) (x_var (i := 6)) (by rfl)))))⟩ (fun _ _ _ _ _ c1 => x_var (i := 7)))
  (s_one (s_app (x_var (i := 4)) (x_t1 c_tuple (x_sortSet (x_var (i := 11)) c.calm B.sorted) B.tuple (by decide +kernel)))))))
  (s_one (s_ret (x_t1 c_tuple (x_rev (x_var (i := 4))) B.tuple (by decide +kernel))))))
abbrev s__law_pot : Stmt := topS 28
abbrev n__law_pot : List Str := ["_law_script", "_law_k", "_law_cell"]
theorem sc__law_pot : FnScope n__law_pot ["_law_script", "_law_k"] (defScope s__law_pot) :=
  ⟨rfl, rfl, rfl, by decide +kernel, rfl, by decide +kernel, by decide +kernel⟩
theorem ok__law_pot {f : Addr} {fd : FuncData} (F : Fun K "_law_pot" "_law_pot" s__law_pot f fd) (B : Bl mg) :
    Gx.FnG P w K mg base (L2.CX P w) 1 f fd ["_law_script", "_law_k"] (spE (ctK P w K mg) 2 m__law_pot) :=
  fn_ev (k := 0) (b := b__law_pot) F sc__law_pot rfl rfl rfl fun cdv A outer s H E c =>
  s_cons (s_set 2 c.nd (x_int))
  (s_cons (s_if (x_cmpT o_lt (x_var (i := 1)) (x_b1 c_len (x_var (i := 0)) B.len (by decide +kernel)) (nomark _)) (s_one (s_set 2 c.nd (x_b1 c_abs (x_ix (x_var (i := 0)) (x_var (i := 1))) B.abs (by decide +kernel)))) (s_nil))
  (s_one (s_ret (x_lstC (a_cons (x_op o_mul (x_var (i := 2)) (x_t1 c_int (x_cmp o_ge (x_var (i := 2)) (x_op o_pow (x_int) (x_int)) (nomark _)) B.int (by decide +kernel))) (a_cons (x_op o_mod (x_op o_pow (x_op o_add (x_op o_add (x_op o_mod (x_var (i := 2)) (x_int)) (x_op o_mul (x_int) (x_var (i := 1)))) (x_int)) (x_int)) (x_int)) (a_cons (x_int) (a_nil))))))))
abbrev s__law_take : Stmt := topS 29
abbrev n__law_take : List Str := ["_law_pot_here", "_law_many", "_law_digit", "_law_one", "_law_two"]
theorem sc__law_take : FnScope n__law_take ["_law_pot_here", "_law_many"] (defScope s__law_take) :=
  ⟨rfl, rfl, rfl, by decide +kernel, rfl, by decide +kernel, by decide +kernel⟩
theorem ok__law_take {f : Addr} {fd : FuncData} (F : Fun K "_law_take" "_law_take" s__law_take f fd)  :
    Gx.FnG P w K mg base (L2.CX P w) 1 f fd ["_law_pot_here", "_law_many"] (spE (ctK P w K mg) 2 m__law_take) :=
  fn_ev (k := 0) (b := b__law_take) F sc__law_take rfl rfl rfl fun cdv A outer s H E c =>
  s_cons (s_if (x_cmpT o_gt (x_ix (x_var (i := 0)) (x_int)) (x_int) (nomark _)) (s_cons (s_set 2 c.nd (x_op o_mod (x_ix (x_var (i := 0)) (x_int)) (x_var (i := 1))))
  (s_cons (s_put (x_op o_fdiv (x_ix (x_var (i := 0)) (x_int)) (x_var (i := 1))) (x_var (i := 0)) (x_int))
  (s_one (s_ret (x_var (i := 2)))))) (s_nil))
  (s_cons (s_put (x_op o_add (x_ix (x_var (i := 0)) (x_int)) (x_int)) (x_var (i := 0)) (x_int))
  (s_cons (s_set 3 c.nd (x_op o_mod (x_op o_pow (x_op o_add (x_ix (x_var (i := 0)) (x_int)) (x_op o_mul (x_int) (x_ix (x_var (i := 0)) (x_int)))) (x_int)) (x_int)))
  (s_cons (s_set 4 c.nd (x_op o_mod (x_op o_pow (x_op o_add (x_op o_add (x_var (i := 3)) (x_op o_mul (x_op o_mul (x_int) (x_ix (x_var (i := 0)) (x_int))) (x_ix (x_var (i := 0)) (x_int)))) (x_op o_mod (x_ix (x_var (i := 0)) (x_int)) (x_int))) (x_int)) (x_int)))
  (s_one (s_ret (x_op o_mod (x_op o_fdiv (x_var (i := 4)) (x_int)) (x_var (i := 1))))))))
abbrev s__law_above : Stmt := topS 35
abbrev n__law_above : List Str := ["_law_walk", "_law_sieve", "_law_found", "_law_mask", "_law_later", "_law_state", "_law_kind", "_law_there"]
theorem sc__law_above : FnScope n__law_above ["_law_walk", "_law_sieve"] (defScope s__law_above) :=
  ⟨rfl, rfl, rfl, by decide +kernel, rfl, by decide +kernel, by decide +kernel⟩
theorem ok__law_above {f : Addr} {fd : FuncData} (F : Fun K "_law_above" "_law_above" s__law_above f fd) (B : Bl mg) :
    Gx.FnG P w K mg base (L2.CX P w) 1 f fd ["_law_walk", "_law_sieve"] (spE (ctK P w K mg) 2 m__law_above) :=
  fn_ev (k := 0) (b := b__law_above) F sc__law_above rfl rfl rfl fun cdv A outer s H E c =>
  s_cons (s_set 2 c.nd (x_lstC (a_cons (x_lst (a_cons (x_int) (a_nil))) (a_nil))))
  (s_cons (s_for c.po c.calm (i_any (x_var (i := 1))) (g_name 3 c.nd) (s_cons (s_set 4 c.nd (x_lstC (a_nil)))
  (s_cons (s_for c.po c.calm (i_any (x_ix (x_var (i := 2)) (x_un o_neg (x_int)))) (g_name 5 c.nd) (s_one (s_for c.po c.calm (i_any (x_ix (x_ix (x_var (i := 0)) (x_int)) (x_var (i := 5)))) (g_tup c.calm (gs_cons (g_name 6 c.nd) (gs_cons (g_name 7 c.nd) (gs_nil)))) (s_one (s_if (PW.pt (w_and (x_cmpT (o_in c.room) (x_var (i := 6)) (x_var (i := 3)) (by rfl)) (w_and1 (x_cmpT (o_notin c.room) (x_var (i := 7)) (x_var (i := 4)) (by rfl))))) (s_one (s_app (x_var (i := 4)) (x_var (i := 7)))) (s_nil))))))
  (s_one (s_app (x_var (i := 2)) (x_b1 c_sorted (x_var (i := 4)) B.sorted (by decide +kernel)))))))
  (s_one (s_ret (x_frz (x_var (i := 2))))))
abbrev s__law_below : Stmt := topS 36
abbrev n__law_below : List Str := ["_law_walk", "_law_sieve", "_law_found", "_law_place", "_law_here", "_law_state", "_law_pairs", "_law_kind", "_law_there"]
theorem sc__law_below : FnScope n__law_below ["_law_walk", "_law_sieve"] (defScope s__law_below) :=
  ⟨rfl, rfl, rfl, by decide +kernel, rfl, by decide +kernel, by decide +kernel⟩
theorem ok__law_below {f : Addr} {fd : FuncData} (F : Fun K "_law_below" "_law_below" s__law_below f fd) (B : Bl mg) :
    Gx.FnG P w K mg base (L2.CX P w) 1 f fd ["_law_walk", "_law_sieve"] (spE (ctK P w K mg) 2 m__law_below) :=
  fn_ev (k := 0) (b := b__law_below) F sc__law_below rfl rfl rfl fun cdv A outer s H E c =>
  s_cons (s_set 2 c.nd (x_lst (a_cons (x_t1 c_list (x_ix (x_var (i := 0)) (x_int)) B.list (by decide +kernel)) (a_nil))))
  (s_cons (s_for c.po c.calm (i_rangeD (x_op o_sub (x_b1 c_len (x_var (i := 1)) B.len (by decide +kernel)) (x_int)) (x_un o_neg (x_int)) B.range) (g_name 3 c.nd) (s_cons (s_set 4 c.nd (x_lstC (a_nil)))
  (s_cons (s_for c.po c.calm (i_enum (x_ix (x_var (i := 0)) (x_int)) B.enumerate) (g_tup c.calm (gs_cons (g_name 5 c.nd) (gs_cons (g_name 6 c.nd) (gs_nil)))) (s_one (s_if (x_cmpT (o_ne c.room) (x_lc1 (own := [("_law_kind", 7), ("_law_there", 8)]) c (i_any (x_var (i := 6))) (blkOk_by (N := n__law_below) (sc := defScope s__law_below) (by decide +kernel)) ⟨fun _ _ _ _ _ c1 => g_tup c1.calm (gs_cons (g_name 7 c1.nd) (gs_cons (g_name 8 c1.nd) (gs_nil))), fun _ _ _ _ _ c1 => ts_one (PW.pt (w_and (x_cmpT (o_in c1.room) (x_var (i := 7)) (x_ix (x_var (i := 1)) (x_var (i := 3))) (by rfl)) (w_and1 (x_cmpT (o_in c1.room) (x_var (i := 8)) (x_ix (x_var (i := 2)) (x_int)) (by rfl)))))⟩ (fun _ _ _ _ _ c1 => x_int)) (x_lst (a_nil)) (nomark _)) (s_one (s_app (x_var (i := 4)) (x_var (i := 5)))) (s_nil))))
  (s_one (s_set 2 c.nd (x_op o_add (x_lst (a_cons (x_frz (x_var (i := 4))) (a_nil))) (x_var (i := 2))))))))
  (s_one (s_ret (x_var (i := 2)))))
abbrev s__law_rows : Stmt := topS 38
abbrev n__law_rows : List Str := ["_law_rows_here", "_law_row"]
theorem sc__law_rows : FnScope n__law_rows ["_law_rows_here"] (defScope s__law_rows) :=
  ⟨rfl, rfl, rfl, by decide +kernel, rfl, by decide +kernel, by decide +kernel⟩
theorem ok__law_rows {f : Addr} {fd : FuncData} (F : Fun K "_law_rows" "_law_rows" s__law_rows f fd) (B : Bl mg) :
    Gx.FnG P w K mg base (L2.CX P w) 1 f fd ["_law_rows_here"] (spE (ctK P w K mg) 1 m__law_rows) :=
  fn_ev (k := 0) (b := b__law_rows) F sc__law_rows rfl rfl rfl fun cdv A outer s H E c =>
  s_one (s_ret (x_t1 c_tuple (x_lc1 (own := [("_law_row", 1)]) c (i_any (x_var (i := 0))) (blkOk_by (N := n__law_rows) (sc := defScope s__law_rows) (by decide +kernel)) ⟨fun _ _ _ _ _ c1 => g_name 1 c1.nd, fun _ _ _ _ _ c1 => ts_nil⟩ (fun _ _ _ _ _ c1 => x_t1 c_tuple (x_var (i := 1)) B.tuple (by decide +kernel))) B.tuple (by decide +kernel)))
abbrev s_are_names : Stmt := topS 13
abbrev n_are_names : List Str := ["thing", "name"]
theorem sc_are_names : FnScope n_are_names ["thing"] (defScope s_are_names) :=
  ⟨rfl, rfl, rfl, by decide +kernel, rfl, by decide +kernel, by decide +kernel⟩
theorem ok_are_names {f : Addr} {fd : FuncData} (F : Fun K "are_names" "are_names" s_are_names f fd) (B : Bl mg) (h_are_rising : Cal (ctK P w K mg) base 1 "are_rising" 1 [] (fun xs _ => m_are_rising xs)) (h_is_name : Cal (ctK P w K mg) base 1 "is_name" 1 [] (fun xs _ => m_is_name xs)) :
    Gx.FnG P w K mg base (L2.CX P w) 2 f fd ["thing"] (spE (ctK P w K mg) 1 m_are_names) :=
  fn_ev (k := 1) (b := b_are_names) F sc_are_names rfl rfl rfl fun cdv A outer s H E c =>
  s_one (s_ret (x_and (x_isi "tuple" (x_var (i := 0)) B.isinstance B.tuple (by decide +kernel)) (x_and (x_b1 (c_all c.calm) (x_lc1 (own := [("name", 1)]) c (i_any (x_var (i := 0))) (blkOk_by (N := n_are_names) (sc := defScope s_are_names) (by decide +kernel)) ⟨fun _ _ _ _ _ c1 => g_name 1 c1.nd, fun _ _ _ _ _ c1 => ts_nil⟩ (fun _ _ _ _ _ c1 => x_call c1 h_is_name (by decide) (a_cons (x_var (i := 1)) (a_nil)) (lenS (len0)))) B.all (by decide +kernel)) (x_one (x_call c h_are_rising (by decide) (a_cons (x_var (i := 0)) (a_nil)) (lenS (len0)))))))
abbrev s_is_mask : Stmt := topS 18
abbrev n_is_mask : List Str := ["thing", "kind", "one", "other"]
theorem sc_is_mask : FnScope n_is_mask ["thing"] (defScope s_is_mask) :=
  ⟨rfl, rfl, rfl, by decide +kernel, rfl, by decide +kernel, by decide +kernel⟩
theorem ok_is_mask {f : Addr} {fd : FuncData} (F : Fun K "is_mask" "is_mask" s_is_mask f fd) (B : Bl mg) (h_is_name : Cal (ctK P w K mg) base 1 "is_name" 1 [] (fun xs _ => m_is_name xs)) :
    Gx.FnG P w K mg base (L2.CX P w) 2 f fd ["thing"] (spE (ctK P w K mg) 1 m_is_mask) :=
  fn_ev (k := 1) (b := b_is_mask) F sc_is_mask rfl rfl rfl fun cdv A outer s H E c =>
  s_cons (s_if (PW.pt (w_or (t_not (t_tru (x_isi "tuple" (x_var (i := 0)) B.isinstance B.tuple (by decide +kernel)))) (w_or1 (t_not (t_tru (x_b1 (c_all c.calm) (x_lc1 (own := [("kind", 1)]) c (i_any (x_var (i := 0))) (blkOk_by (N := n_is_mask) (sc := defScope s_is_mask) (by decide +kernel)) ⟨fun _ _ _ _ _ c1 => g_name 1 c1.nd, fun _ _ _ _ _ c1 => ts_nil⟩ (fun _ _ _ _ _ c1 => x_call c1 h_is_name (by decide) (a_cons (x_var (i := 1)) (a_nil)) (lenS (len0)))) B.all (by decide +kernel))))))) (s_one (s_ret (x_bl))) (s_nil))
  (s_one (s_ret (x_b1 (c_all c.calm) (x_lc1 (own := [("one", 2), ("other", 3)]) c (i_zip (x_var (i := 0)) (x_sl (x_var (i := 0)) (p_some (x_int)) (p_none)) B.zip) (blkOk_by (N := n_is_mask) (sc := defScope s_is_mask) (by decide +kernel)) ⟨fun _ _ _ _ _ c1 => g_tup c1.calm (gs_cons (g_name 2 c1.nd) (gs_cons (g_name 3 c1.nd) (gs_nil))), fun _ _ _ _ _ c1 => ts_nil⟩ (fun _ _ _ _ _ c1 => x_cmp o_lt (x_var (i := 2)) (x_var (i := 3)) (nomark _))) B.all (by decide +kernel))))
abbrev s_states_open : Stmt := topS 23
abbrev n_states_open : List Str := ["rule", "strip", "found", "one", "other", "state"]
theorem sc_states_open : FnScope n_states_open ["rule", "strip"] (defScope s_states_open) :=
  ⟨rfl, rfl, rfl, by decide +kernel, rfl, by decide +kernel, by decide +kernel⟩
theorem ok_states_open {f : Addr} {fd : FuncData} (F : Fun K "states_open" "states_open" s_states_open f fd) (B : Bl mg) (h_states_above : Cal (ctK P w K mg) base 1 "states_above" 2 [] (fun xs _ => m_states_above xs)) (h_states_below : Cal (ctK P w K mg) base 1 "states_below" 2 [] (fun xs _ => m_states_below xs)) :
    Gx.FnG P w K mg base (L2.CX P w) 2 f fd ["rule", "strip"] (spE (ctK P w K mg) 2 m_states_open) :=
  fn_ev (k := 1) (b := b_states_open) F sc_states_open rfl rfl rfl fun cdv A outer s H E c =>
  s_cons (s_set 2 c.nd (x_lstC (a_nil)))
  (s_cons (s_for c.po c.calm (i_zipS c (x_call c h_states_above (by decide) (a_cons (x_var (i := 0)) (a_cons (x_var (i := 1)) (a_nil))) (lenS (lenS (len0)))) (x_call c h_states_below (by decide) (a_cons (x_var (i := 0)) (a_cons (x_var (i := 1)) (a_nil))) (lenS (lenS (len0)))) B.zip) (g_tup c.calm (gs_cons (g_name 3 c.nd) (gs_cons (g_name 4 c.nd) (gs_nil)))) (s_one (s_app (x_var (i := 2)) (x_t1 c_tuple (x_lc1 (own := [("state", 5)]) c (i_any (x_var (i := 3))) (blkOk_by (N := n_states_open) (sc := defScope s_states_open) (by decide +kernel)) ⟨fun _ _ _ _ _ c1 => g_name 5 c1.nd, fun _ _ _ _ _ c1 => ts_one (x_cmpT (o_in c1.room) (x_var (i := 5)) (x_var (i := 4)) (by rfl))⟩ (fun _ _ _ _ _ c1 => x_var (i := 5))) B.tuple (by decide +kernel)))))
  (s_one (s_ret (x_t1 c_tuple (x_var (i := 2)) B.tuple (by decide +kernel)))))
abbrev s__law_names : Stmt := topS 30
abbrev n__law_names : List Str := ["_law_pot_here", "_law_many", "_law_letters", "_law_found", "_law_k", "_law_turn", "_law_name"]
theorem sc__law_names : FnScope n__law_names ["_law_pot_here", "_law_many"] (defScope s__law_names) :=
  ⟨rfl, rfl, rfl, by decide +kernel, rfl, by decide +kernel, by decide +kernel⟩
theorem ok__law_names {f : Addr} {fd : FuncData} (F : Fun K "_law_names" "_law_names" s__law_names f fd) (B : Bl mg) (h__law_take : Cal (ctK P w K mg) base 1 "_law_take" 2 [] (fun xs _ => m__law_take xs)) :
    Gx.FnG P w K mg base (L2.CX P w) 2 f fd ["_law_pot_here", "_law_many"] (spE (ctK P w K mg) 2 m__law_names) :=
  fn_ev (k := 1) (b := b__law_names) F sc__law_names rfl rfl rfl fun cdv A outer s H E c =>
  s_cons (s_set 2 c.nd (x_str))
  (s_cons (s_set 3 c.nd (x_lstC (a_nil)))
  (s_cons (s_for c.po c.calm (i_range1 (x_var (i := 1)) B.range) (g_name 4 c.nd) (s_cons (s_set 6 c.nd (x_m1s PySem.F.slot_str_join PySem.F.type_str_join m_join (x_str) (x_lc1 (own := [("_law_turn", 5)]) c (i_range1 (x_ix (x_lst (a_cons (x_int) (a_cons (x_int) (a_cons (x_int) (a_cons (x_int) (a_nil)))))) (x_call c h__law_take (by decide) (a_cons (x_var (i := 0)) (a_cons (x_int) (a_nil))) (lenS (lenS (len0))))) B.range) (blkOk_by (N := n__law_names) (sc := defScope s__law_names) (by decide +kernel)) ⟨fun _ _ _ _ _ c1 => g_name 5 c1.nd, fun _ _ _ _ _ c1 => ts_nil⟩ (fun _ _ _ _ _ c1 => x_ix (x_var (i := 2)) (x_call c1 h__law_take (by decide) (a_cons (x_var (i := 0)) (a_cons (x_int) (a_nil))) (lenS (lenS (len0))))))))
  (s_cons (s_if (PW.pt (w_and (x_cmpT (o_ne c.room) (x_var (i := 3)) (x_lst (a_nil)) (nomark _)) (w_and1 (x_cmpT (o_eq c.room) (x_call c h__law_take (by decide) (a_cons (x_var (i := 0)) (a_cons (x_int) (a_nil))) (lenS (lenS (len0)))) (x_int) (nomark _))))) (s_one (s_set 6 c.nd (x_sl (x_op o_add (x_ix (x_var (i := 3)) (x_un o_neg (x_int))) (x_str)) (p_none) (p_some (x_int))))) (s_nil))
  (s_cons (s_for c.po c.calm (i_range1 (x_var (i := 1)) B.range) (g_name 5 c.nd) (s_one (s_if (x_cmpT (o_in c.room) (x_var (i := 6)) (x_var (i := 3)) (by rfl)) (s_one (s_set 6 c.nd (x_op o_add (x_ix (x_var (i := 2)) (x_op o_mod (x_op o_add (x_m1s PySem.F.slot_str_index PySem.F.type_str_index m_index (x_var (i := 2)) (x_ix (x_var (i := 6)) (x_int))) (x_int)) (x_int))) (x_sl (x_var (i := 6)) (p_some (x_int)) (p_none))))) (s_nil))))
  (s_one (s_app (x_var (i := 3)) (x_var (i := 6))))))))
  (s_one (s_ret (x_frz (x_var (i := 3)))))))
abbrev s__law_rule : Stmt := topS 32
abbrev n__law_rule : List Str := ["_law_pot_here", "_law_kinds_here", "_law_most", "_law_many", "_law_states", "_law_state", "_law_kind", "_law_some"]
theorem sc__law_rule : FnScope n__law_rule ["_law_pot_here", "_law_kinds_here", "_law_most"] (defScope s__law_rule) :=
  ⟨rfl, rfl, rfl, by decide +kernel, rfl, by decide +kernel, by decide +kernel⟩
theorem ok__law_rule {f : Addr} {fd : FuncData} (F : Fun K "_law_rule" "_law_rule" s__law_rule f fd) (B : Bl mg) (h__law_take : Cal (ctK P w K mg) base 1 "_law_take" 2 [] (fun xs _ => m__law_take xs)) :
    Gx.FnG P w K mg base (L2.CX P w) 2 f fd ["_law_pot_here", "_law_kinds_here", "_law_most"] (spE (ctK P w K mg) 3 m__law_rule) :=
  fn_ev (k := 1) (b := b__law_rule) F sc__law_rule rfl rfl rfl fun cdv A outer s H E c =>
  s_cons (s_set 3 c.nd (x_op o_add (x_int) (x_call c h__law_take (by decide) (a_cons (x_var (i := 0)) (a_cons (x_var (i := 2)) (a_nil))) (lenS (lenS (len0))))))
  (s_cons (s_set 4 c.nd (x_lstC (a_nil)))
  (s_cons (s_for c.po c.calm (i_range1 (x_var (i := 3)) B.range) (g_name 5 c.nd) (s_cons (s_lc1 7 (own := [("_law_kind", 6)]) c (i_any (x_var (i := 1))) (blkOk_by (N := n__law_rule) (sc := defScope s__law_rule) (by decide +kernel)) ⟨fun _ _ _ _ _ c1 => g_name 6 c1.nd, fun _ _ _ _ _ c1 => ts_one (x_cmpT o_gt (x_call c1 h__law_take (by decide) (a_cons (x_var (i := 0)) (a_cons (x_int) (a_nil))) (lenS (lenS (len0)))) (x_int) (nomark _))⟩ (fun _ _ _ _ _ c1 => x_var (i := 6)))
  (s_one (s_app (x_var (i := 4)) (x_t1 c_tuple (x_lc1 (own := [("_law_kind", 6)]) c (i_any (x_var (i := 7))) (blkOk_by (N := n__law_rule) (sc := defScope s__law_rule) (by decide +kernel)) ⟨fun _ _ _ _ _ c1 => g_name 6 c1.nd, fun _ _ _ _ _ c1 => ts_nil⟩ (fun _ _ _ _ _ c1 => x_tup (a_cons (x_var (i := 6)) (a_cons (x_call c1 h__law_take (by decide) (a_cons (x_var (i := 0)) (a_cons (x_var (i := 3)) (a_nil))) (lenS (lenS (len0)))) (a_nil))))) B.tuple (by decide +kernel))))))
  (s_one (s_ret (x_tup (a_cons (x_t1 c_tuple (x_var (i := 4)) B.tuple (by decide +kernel)) (a_cons (x_t1 c_tuple (x_lc1 (own := [("_law_state", 5)]) c (i_range1 (x_var (i := 3)) B.range) (blkOk_by (N := n__law_rule) (sc := defScope s__law_rule) (by decide +kernel)) ⟨fun _ _ _ _ _ c1 => g_name 5 c1.nd, fun _ _ _ _ _ c1 => ts_one (x_cmpT o_gt (x_call c1 h__law_take (by decide) (a_cons (x_var (i := 0)) (a_cons (x_int) (a_nil))) (lenS (lenS (len0)))) (x_int) (nomark _))⟩ (fun _ _ _ _ _ c1 => x_var (i := 5))) B.tuple (by decide +kernel)) (a_nil))))))))
abbrev s__law_strip : Stmt := topS 34
abbrev n__law_strip : List Str := ["_law_pot_here", "_law_kinds_here", "_law_depth", "_law_name", "_law_many", "_law_strange", "_law_found", "_law_place", "_law_way", "_law_kind", "_law_mask", "_law_letter"]
theorem sc__law_strip : FnScope n__law_strip ["_law_pot_here", "_law_kinds_here", "_law_depth"] (defScope s__law_strip) :=
  ⟨rfl, rfl, rfl, by decide +kernel, rfl, by decide +kernel, by decide +kernel⟩
theorem ok__law_strip {f : Addr} {fd : FuncData} (F : Fun K "_law_strip" "_law_strip" s__law_strip f fd) (B : Bl mg) (h__law_take : Cal (ctK P w K mg) base 1 "_law_take" 2 [] (fun xs _ => m__law_take xs)) :
    Gx.FnG P w K mg base (L2.CX P w) 2 f fd ["_law_pot_here", "_law_kinds_here", "_law_depth"] (spE (ctK P w K mg) 3 m__law_strip) :=
  fn_ev (k := 1) (b := b__law_strip) F sc__law_strip rfl rfl rfl fun cdv A outer s H E c =>
  s_cons (s_set 5 c.nd (x_ix (x_lc1 (own := [("_law_name", 3)]) c (i_any (x_lc1 (own := [("_law_many", 4)]) c (i_range2 (x_int) (x_int) B.range) (blkOk_by (N := n__law_strip) (sc := defScope s__law_strip) (by decide +kernel)) ⟨fun _ _ _ _ _ c1 => g_name 4 c1.nd, fun _ _ _ _ _ c1 => ts_nil⟩ (fun _ _ _ _ _ c1 => x_op o_repS (x_str) (x_var (i := 4))))) (blkOk_by (N := n__law_strip) (sc := defScope s__law_strip) (by decide +kernel)) ⟨fun _ _ _ _ _ c1 => g_name 3 c1.nd, fun _ _ _ _ _ c1 => ts_one (x_cmpT (o_notin c1.room) (x_var (i := 3)) (x_var (i := 1)) (by rfl))⟩ (fun _ _ _ _ _ c1 => x_var (i := 3))) (x_int)))
  (s_cons (s_set 6 c.nd (x_lstC (a_nil)))
  (s_cons (s_for c.po c.calm (i_range1 (x_var (i := 2)) B.range) (g_name 7 c.nd) (s_cons (s_set 8 c.nd (x_call c h__law_take (by decide) (a_cons (x_var (i := 0)) (a_cons (x_int) (a_nil))) (lenS (lenS (len0)))))
  (s_cons (s_set 10 c.nd (x_lc1C (own := [("_law_kind", 9)]) c (i_any (x_var (i := 1))) (blkOk_by (N := n__law_strip) (sc := defScope s__law_strip) (by decide +kernel)) ⟨fun _ _ _ _ _ c1 => g_name 9 c1.nd, fun _ _ _ _ _ c1 => ts_one (x_cmpT o_gt (x_call c1 h__law_take (by decide) (a_cons (x_var (i := 0)) (a_cons (x_int) (a_nil))) (lenS (lenS (len0)))) (x_int) (nomark _))⟩ (fun _ _ _ _ _ c1 => x_var (i := 9))))
  (s_cons (s_if (x_cmpT o_lt (x_var (i := 8)) (x_int) (nomark _)) (s_one (s_set 10 c.nd (x_t1C c_listF (x_var (i := 1)) B.list (by decide +kernel)))) (s_nil))
  (s_cons (s_if (x_cmpT (o_eq c.room) (x_var (i := 8)) (x_int) (nomark _)) (s_one (s_set 10 c.nd (x_lstC (a_cons (x_ix (x_var (i := 1)) (x_call c h__law_take (by decide) (a_cons (x_var (i := 0)) (a_cons (x_b1 c_len (x_var (i := 1)) B.len (by decide +kernel)) (a_nil))) (lenS (lenS (len0))))) (a_nil))))) (s_nil))
  (s_cons (s_if (PW.pt (w_and (x_cmpT (o_eq c.room) (x_var (i := 8)) (x_int) (nomark _)) (w_and1 (x_cmpT (o_eq c.room) (x_call c h__law_take (by decide) (a_cons (x_var (i := 0)) (a_cons (x_int) (a_nil))) (lenS (lenS (len0)))) (x_int) (nomark _))))) (s_one (s_set 10 c.nd (x_lstC (a_nil)))) (s_nil))
  (s_cons (s_if (x_cmpT (o_eq c.room) (x_var (i := 8)) (x_int) (nomark _)) (s_one (s_app (x_var (i := 10)) (x_var (i := 5)))) (s_nil))
  (s_cons (s_if (PW.pt (w_and (x_cmpT (o_eq c.room) (x_var (i := 8)) (x_int) (nomark _)) (w_and1 (x_cmpT (o_eq c.room) (x_call c h__law_take (by decide) (a_cons (x_var (i := 0)) (a_cons (x_int) (a_nil))) (lenS (lenS (len0)))) (x_int) (nomark _))))) (s_one (s_set 10 c.nd (x_opC o_addF (x_var (i := 10)) (x_lc1 (own := [("_law_letter", 11)]) c (i_any (x_str)) (blkOk_by (N := n__law_strip) (sc := defScope s__law_strip) (by decide +kernel)) ⟨fun _ _ _ _ _ c1 => g_name 11 c1.nd, fun _ _ _ _ _ c1 => ts_one (x_cmpT (o_notin c1.room) (x_var (i := 11)) (x_var (i := 10)) (by rfl))⟩ (fun _ _ _ _ _ c1 => x_var (i := 11)))))) (s_nil))
  (s_one (s_app (x_var (i := 6)) (x_t1 c_tuple (x_b1 c_sorted (x_var (i := 10)) B.sorted (by decide +kernel)) B.tuple (by decide +kernel))))))))))))
  (s_one (s_ret (x_t1 c_tuple (x_var (i := 6)) B.tuple (by decide +kernel))))))
abbrev s__law_open : Stmt := topS 37
abbrev n__law_open : List Str := ["_law_walk", "_law_sieve", "_law_found", "_law_one", "_law_other", "_law_state"]
theorem sc__law_open : FnScope n__law_open ["_law_walk", "_law_sieve"] (defScope s__law_open) :=
  ⟨rfl, rfl, rfl, by decide +kernel, rfl, by decide +kernel, by decide +kernel⟩
theorem ok__law_open {f : Addr} {fd : FuncData} (F : Fun K "_law_open" "_law_open" s__law_open f fd) (B : Bl mg) (h__law_above : Cal (ctK P w K mg) base 1 "_law_above" 2 [] (fun xs _ => m__law_above xs)) (h__law_below : Cal (ctK P w K mg) base 1 "_law_below" 2 [] (fun xs _ => m__law_below xs)) :
    Gx.FnG P w K mg base (L2.CX P w) 2 f fd ["_law_walk", "_law_sieve"] (spE (ctK P w K mg) 2 m__law_open) :=
  fn_ev (k := 1) (b := b__law_open) F sc__law_open rfl rfl rfl fun cdv A outer s H E c =>
  s_cons (s_set 2 c.nd (x_lstC (a_nil)))
  (s_cons (s_for c.po c.calm (i_zip (x_call c h__law_above (by decide) (a_cons (x_var (i := 0)) (a_cons (x_var (i := 1)) (a_nil))) (lenS (lenS (len0)))) (x_call c h__law_below (by decide) (a_cons (x_var (i := 0)) (a_cons (x_var (i := 1)) (a_nil))) (lenS (lenS (len0)))) B.zip) (g_tup c.calm (gs_cons (g_name 3 c.nd) (gs_cons (g_name 4 c.nd) (gs_nil)))) (s_one (s_app (x_var (i := 2)) (x_lc1 (own := [("_law_state", 5)]) c (i_any (x_var (i := 3))) (blkOk_by (N := n__law_open) (sc := defScope s__law_open) (by decide +kernel)) ⟨fun _ _ _ _ _ c1 => g_name 5 c1.nd, fun _ _ _ _ _ c1 => ts_one (x_cmpT (o_in c1.room) (x_var (i := 5)) (x_var (i := 4)) (by rfl))⟩ (fun _ _ _ _ _ c1 => x_var (i := 5))))))
  (s_one (s_ret (x_frz (x_var (i := 2))))))
abbrev s_is_state : Stmt := topS 14
abbrev n_is_state : List Str := ["thing", "many", "pair", "kind", "there"]
theorem sc_is_state : FnScope n_is_state ["thing", "many"] (defScope s_is_state) :=
  ⟨rfl, rfl, rfl, by decide +kernel, rfl, by decide +kernel, by decide +kernel⟩
theorem ok_is_state {f : Addr} {fd : FuncData} (F : Fun K "is_state" "is_state" s_is_state f fd) (B : Bl mg) (h_are_names : Cal (ctK P w K mg) base 2 "are_names" 1 [] (fun xs _ => m_are_names xs)) (h_is_whole : Cal (ctK P w K mg) base 1 "is_whole" 3 [] (fun xs _ => m_is_whole xs)) :
    Gx.FnG P w K mg base (L2.CX P w) 3 f fd ["thing", "many"] (spE (ctK P w K mg) 2 m_is_state) :=
  fn_ev (k := 2) (b := b_is_state) F sc_is_state rfl rfl rfl fun cdv A outer s H E c =>
  s_cons (s_if (PW.pt (w_or (t_not (t_tru (x_isi "tuple" (x_var (i := 0)) B.isinstance B.tuple (by decide +kernel)))) (w_or1 (t_not (t_tru (x_b1 (c_all c.calm) (x_lc1 (own := [("pair", 2)]) c (i_any (x_var (i := 0))) (blkOk_by (N := n_is_state) (sc := defScope s_is_state) (by decide +kernel)) ⟨fun _ _ _ _ _ c1 => g_name 2 c1.nd, fun _ _ _ _ _ c1 => ts_nil⟩ (fun _ _ _ _ _ c1 => x_and (x_isi "tuple" (x_var (i := 2)) B.isinstance B.tuple (by decide +kernel)) (x_one (x_cmp (o_eq c1.room) (x_b1 c_len (x_var (i := 2)) B.len (by decide +kernel)) (x_int) (nomark _))))) B.all (by decide +kernel))))))) (s_one (s_ret (x_bl))) (s_nil))
  (s_cons (s_if (t_not (t_tru (x_call c h_are_names (by decide) (a_cons (x_t1 c_tuple (x_lc1 (own := [("kind", 3), ("there", 4)]) c (i_any (x_var (i := 0))) (blkOk_by (N := n_is_state) (sc := defScope s_is_state) (by decide +kernel)) ⟨fun _ _ _ _ _ c1 => g_tup c1.calm (gs_cons (g_name 3 c1.nd) (gs_cons (g_name 4 c1.nd) (gs_nil))), fun _ _ _ _ _ c1 => ts_nil⟩ (fun _ _ _ _ _ c1 => x_var (i := 3))) B.tuple (by decide +kernel)) (a_nil)) (lenS (len0))))) (s_one (s_ret (x_bl))) (s_nil))
  (s_one (s_ret (x_b1 (c_all c.calm) (x_lc1 (own := [("kind", 3), ("there", 4)]) c (i_any (x_var (i := 0))) (blkOk_by (N := n_is_state) (sc := defScope s_is_state) (by decide +kernel)) ⟨fun _ _ _ _ _ c1 => g_tup c1.calm (gs_cons (g_name 3 c1.nd) (gs_cons (g_name 4 c1.nd) (gs_nil))), fun _ _ _ _ _ c1 => ts_nil⟩ (fun _ _ _ _ _ c1 => x_call c1 h_is_whole (by decide) (a_cons (x_var (i := 4)) (a_cons (x_int) (a_cons (x_op o_sub (x_var (i := 1)) (x_int)) (a_nil)))) (lenS (lenS (lenS (len0)))))) B.all (by decide +kernel)))))
abbrev s_is_strip : Stmt := topS 19
abbrev n_is_strip : List Str := ["thing", "mask"]
theorem sc_is_strip : FnScope n_is_strip ["thing"] (defScope s_is_strip) :=
  ⟨rfl, rfl, rfl, by decide +kernel, rfl, by decide +kernel, by decide +kernel⟩
theorem ok_is_strip {f : Addr} {fd : FuncData} (F : Fun K "is_strip" "is_strip" s_is_strip f fd) (B : Bl mg) (T : Cs mg) (h_is_mask : Cal (ctK P w K mg) base 2 "is_mask" 1 [] (fun xs _ => m_is_mask xs)) :
    Gx.FnG P w K mg base (L2.CX P w) 3 f fd ["thing"] (spE (ctK P w K mg) 1 m_is_strip) :=
  fn_ev (k := 2) (b := b_is_strip) F sc_is_strip rfl rfl rfl fun cdv A outer s H E c =>
  s_cons (s_if (PW.pt (w_or (t_not (t_tru (x_isi "tuple" (x_var (i := 0)) B.isinstance B.tuple (by decide +kernel)))) (w_or1 (t_not (x_chainT o_le o_le (x_int) (x_b1 c_len (x_var (i := 0)) B.len (by decide +kernel)) (x_gI T.MOST_DEPTH)))))) (s_one (s_ret (x_bl))) (s_nil))
  (s_one (s_ret (x_b1 (c_all c.calm) (x_lc1 (own := [("mask", 1)]) c (i_any (x_var (i := 0))) (blkOk_by (N := n_is_strip) (sc := defScope s_is_strip) (by decide +kernel)) ⟨fun _ _ _ _ _ c1 => g_name 1 c1.nd, fun _ _ _ _ _ c1 => ts_nil⟩ (fun _ _ _ _ _ c1 => x_call c1 h_is_mask (by decide) (a_cons (x_var (i := 1)) (a_nil)) (lenS (len0)))) B.all (by decide +kernel))))
abbrev s__law_kinds : Stmt := topS 31
abbrev n__law_kinds : List Str := ["_law_pot_here", "_law_most", "_law_many"]
theorem sc__law_kinds : FnScope n__law_kinds ["_law_pot_here", "_law_most"] (defScope s__law_kinds) :=
  ⟨rfl, rfl, rfl, by decide +kernel, rfl, by decide +kernel, by decide +kernel⟩
theorem ok__law_kinds {f : Addr} {fd : FuncData} (F : Fun K "_law_kinds" "_law_kinds" s__law_kinds f fd) (B : Bl mg) (h__law_take : Cal (ctK P w K mg) base 1 "_law_take" 2 [] (fun xs _ => m__law_take xs)) (h__law_names : Cal (ctK P w K mg) base 2 "_law_names" 2 [] (fun xs _ => m__law_names xs)) :
    Gx.FnG P w K mg base (L2.CX P w) 3 f fd ["_law_pot_here", "_law_most"] (spE (ctK P w K mg) 2 m__law_kinds) :=
  fn_ev (k := 2) (b := b__law_kinds) F sc__law_kinds rfl rfl rfl fun cdv A outer s H E c =>
  s_cons (s_set 2 c.nd (x_b2 (c_min2 c.calm) (x_var (i := 1)) (x_ix (x_lst (a_cons (x_int) (a_cons (x_int) (a_cons (x_int) (a_cons (x_int) (a_cons (x_int) (a_cons (x_int) (a_nil)))))))) (x_call c h__law_take (by decide) (a_cons (x_var (i := 0)) (a_cons (x_int) (a_nil))) (lenS (lenS (len0))))) B.min (by decide +kernel)))
  (s_one (s_ret (x_t1 c_tuple (x_b1 c_sorted (x_call c h__law_names (by decide) (a_cons (x_var (i := 0)) (a_cons (x_var (i := 2)) (a_nil))) (lenS (lenS (len0)))) B.sorted (by decide +kernel)) B.tuple (by decide +kernel))))
abbrev s__law_poor_rule : Stmt := topS 33
abbrev n__law_poor_rule : List Str := ["_law_pot_here", "_law_kinds_here", "_law_most", "_law_states", "_law_ends"]
theorem sc__law_poor_rule : FnScope n__law_poor_rule ["_law_pot_here", "_law_kinds_here", "_law_most"] (defScope s__law_poor_rule) :=
  ⟨rfl, rfl, rfl, by decide +kernel, rfl, by decide +kernel, by decide +kernel⟩
theorem ok__law_poor_rule {f : Addr} {fd : FuncData} (F : Fun K "_law_poor_rule" "_law_poor_rule" s__law_poor_rule f fd) (h__law_rule : Cal (ctK P w K mg) base 2 "_law_rule" 3 [] (fun xs _ => m__law_rule xs)) (h__law_take : Cal (ctK P w K mg) base 1 "_law_take" 2 [] (fun xs _ => m__law_take xs)) :
    Gx.FnG P w K mg base (L2.CX P w) 3 f fd ["_law_pot_here", "_law_kinds_here", "_law_most"] (spE (ctK P w K mg) 3 m__law_poor_rule) :=
  fn_ev (k := 2) (b := b__law_poor_rule) F sc__law_poor_rule rfl rfl rfl fun cdv A outer s H E c =>
  s_cons (s_asg (x_call c h__law_rule (by decide) (a_cons (x_var (i := 0)) (a_cons (x_var (i := 1)) (a_cons (x_var (i := 2)) (a_nil)))) (lenS (lenS (lenS (len0))))) (g_tup c.calm (gs_cons (g_name 3 c.nd) (gs_cons (g_name 4 c.nd) (gs_nil)))))
  (s_one (s_ret (x_tup (a_cons (x_var (i := 3)) (a_cons (x_ix (x_lst (a_cons (x_var (i := 4)) (a_cons (x_sl (x_var (i := 4)) (p_none) (p_some (x_int))) (a_cons (x_sl (x_var (i := 4)) (p_some (x_int)) (p_some (x_int))) (a_cons (x_tup (a_nil)) (a_nil)))))) (x_call c h__law_take (by decide) (a_cons (x_var (i := 0)) (a_cons (x_int) (a_nil))) (lenS (lenS (len0))))) (a_nil))))))
abbrev s_are_states : Stmt := topS 15
abbrev n_are_states : List Str := ["thing", "state", "kind", "there"]
theorem sc_are_states : FnScope n_are_states ["thing"] (defScope s_are_states) :=
  ⟨rfl, rfl, rfl, by decide +kernel, rfl, by decide +kernel, by decide +kernel⟩
theorem ok_are_states {f : Addr} {fd : FuncData} (F : Fun K "are_states" "are_states" s_are_states f fd) (B : Bl mg) (T : Cs mg) (h_is_state : Cal (ctK P w K mg) base 3 "is_state" 2 [] (fun xs _ => m_is_state xs)) :
    Gx.FnG P w K mg base (L2.CX P w) 4 f fd ["thing"] (spE (ctK P w K mg) 1 m_are_states) :=
  fn_ev (k := 3) (b := b_are_states) F sc_are_states rfl rfl rfl fun cdv A outer s H E c =>
  s_cons (s_if (PW.pt (w_or (t_not (t_tru (x_isi "tuple" (x_var (i := 0)) B.isinstance B.tuple (by decide +kernel)))) (w_or1 (t_not (x_chainT o_le o_le (x_int) (x_b1 c_len (x_var (i := 0)) B.len (by decide +kernel)) (x_gI T.MOST_STATES)))))) (s_one (s_ret (x_bl))) (s_nil))
  (s_cons (s_if (t_not (t_tru (x_b1 (c_all c.calm) (x_lc1 (own := [("state", 1)]) c (i_any (x_var (i := 0))) (blkOk_by (N := n_are_states) (sc := defScope s_are_states) (by decide +kernel)) ⟨fun _ _ _ _ _ c1 => g_name 1 c1.nd, fun _ _ _ _ _ c1 => ts_nil⟩ (fun _ _ _ _ _ c1 => x_call c1 h_is_state (by decide) (a_cons (x_var (i := 1)) (a_cons (x_b1 c_len (x_var (i := 0)) B.len (by decide +kernel)) (a_nil))) (lenS (lenS (len0))))) B.all (by decide +kernel)))) (s_one (s_ret (x_bl))) (s_nil))
  (s_one (s_ret (x_cmp o_le (x_lenSet (x_sc2K (own := [("state", 1), ("kind", 2), ("there", 3)]) (vs1 := [2, 3]) c (i_any (x_var (i := 0))) (blkOk_by (N := n_are_states) (sc := defScope s_are_states) (by decide +kernel)) ⟨fun _ _ _ _ _ c1 => g_name 1 c1.nd, fun _ _ _ _ _ c1 => ts_nil⟩ (fun _ _ _ _ _ c1 => i_any (x_var (i := 1))) ⟨fun _ _ _ _ _ c1 => g_tup c1.calm (gs_cons (g_name 2 c1.nd) (gs_cons (g_name 3 c1.nd) (gs_nil))), fun _ _ _ _ _ c1 => ts_nil⟩ (fun _ _ _ _ _ c1 => x_var (i := 2))) B.len) (x_gI T.MOST_KINDS) (nomark _)))))
abbrev s_is_rule : Stmt := topS 16
abbrev n_is_rule : List Str := ["thing", "states", "ends", "end"]
theorem sc_is_rule : FnScope n_is_rule ["thing"] (defScope s_is_rule) :=
  ⟨rfl, rfl, rfl, by decide +kernel, rfl, by decide +kernel, by decide +kernel⟩
theorem ok_is_rule {f : Addr} {fd : FuncData} (F : Fun K "is_rule" "is_rule" s_is_rule f fd) (B : Bl mg) (h_are_states : Cal (ctK P w K mg) base 4 "are_states" 1 [] (fun xs _ => m_are_states xs)) (h_are_rising : Cal (ctK P w K mg) base 1 "are_rising" 1 [] (fun xs _ => m_are_rising xs)) (h_is_whole : Cal (ctK P w K mg) base 1 "is_whole" 3 [] (fun xs _ => m_is_whole xs)) :
    Gx.FnG P w K mg base (L2.CX P w) 5 f fd ["thing"] (spE (ctK P w K mg) 1 m_is_rule) :=
  fn_ev (k := 4) (b := b_is_rule) F sc_is_rule rfl rfl rfl fun cdv A outer s H E c =>
  s_cons (s_if (PW.pt (w_or (t_not (t_tru (x_isi "tuple" (x_var (i := 0)) B.isinstance B.tuple (by decide +kernel)))) (w_or (x_cmpT (o_ne c.room) (x_b1 c_len (x_var (i := 0)) B.len (by decide +kernel)) (x_int) (nomark _)) (w_or (t_not (t_tru (x_call c h_are_states (by decide) (a_cons (x_ix (x_var (i := 0)) (x_int)) (a_nil)) (lenS (len0))))) (w_or1 (t_not (t_tru (x_isi "tuple" (x_ix (x_var (i := 0)) (x_int)) B.isinstance B.tuple (by decide +kernel))))))))) (s_one (s_ret (x_bl))) (s_nil))
  (s_cons (s_asg (x_var (i := 0)) (g_tup c.calm (gs_cons (g_name 1 c.nd) (gs_cons (g_name 2 c.nd) (gs_nil)))))
  (s_one (s_ret (x_and (x_b1 (c_all c.calm) (x_lc1 (own := [("end", 3)]) c (i_any (x_var (i := 2))) (blkOk_by (N := n_is_rule) (sc := defScope s_is_rule) (by decide +kernel)) ⟨fun _ _ _ _ _ c1 => g_name 3 c1.nd, fun _ _ _ _ _ c1 => ts_nil⟩ (fun _ _ _ _ _ c1 => x_call c1 h_is_whole (by decide) (a_cons (x_var (i := 3)) (a_cons (x_int) (a_cons (x_op o_sub (x_b1 c_len (x_var (i := 1)) B.len (by decide +kernel)) (x_int)) (a_nil)))) (lenS (lenS (lenS (len0)))))) B.all (by decide +kernel)) (x_one (x_call c h_are_rising (by decide) (a_cons (x_var (i := 2)) (a_nil)) (lenS (len0))))))))
abbrev s_need_strip : Stmt := topS 20
abbrev n_need_strip : List Str := ["rule", "strip"]
theorem sc_need_strip : FnScope n_need_strip ["rule", "strip"] (defScope s_need_strip) :=
  ⟨rfl, rfl, rfl, by decide +kernel, rfl, by decide +kernel, by decide +kernel⟩
theorem ok_need_strip {f : Addr} {fd : FuncData} (F : Fun K "need_strip" "need_strip" s_need_strip f fd) (x_NoRule : XcV K mg "NoRule") (x_NoMasks : XcV K mg "NoMasks") (h_is_rule : Cal (ctK P w K mg) base 5 "is_rule" 1 [] (fun xs _ => m_is_rule xs)) (h_is_strip : Cal (ctK P w K mg) base 3 "is_strip" 1 [] (fun xs _ => m_is_strip xs)) :
    Gx.FnG P w K mg base (L2.CX P w) 6 f fd ["rule", "strip"] (spE (ctK P w K mg) 2 m_need_strip) :=
  fn_ev (k := 5) (b := b_need_strip) F sc_need_strip rfl rfl rfl fun cdv A outer s H E c =>
  s_cons (s_if (t_not (t_tru (x_call c h_is_rule (by decide) (a_cons (x_var (i := 0)) (a_nil)) (lenS (len0))))) (s_one (s_raise c x_NoRule)) (s_nil))
  (s_one (s_if (t_not (t_tru (x_call c h_is_strip (by decide) (a_cons (x_var (i := 1)) (a_nil)) (lenS (len0))))) (s_one (s_raise c x_NoMasks)) (s_nil)))
abbrev s_from_above : Stmt := topS 24
abbrev n_from_above : List Str := ["rule", "strip"]
theorem sc_from_above : FnScope n_from_above ["rule", "strip"] (defScope s_from_above) :=
  ⟨rfl, rfl, rfl, by decide +kernel, rfl, by decide +kernel, by decide +kernel⟩
theorem ok_from_above {f : Addr} {fd : FuncData} (F : Fun K "from_above" "from_above" s_from_above f fd) (h_need_strip : Cal (ctK P w K mg) base 6 "need_strip" 2 [] (fun xs _ => m_need_strip xs)) (h_states_above : Cal (ctK P w K mg) base 1 "states_above" 2 [] (fun xs _ => m_states_above xs)) :
    Gx.FnG P w K mg base (L2.CX P w) 7 f fd ["rule", "strip"] (spE (ctK P w K mg) 2 m_from_above) :=
  fn_ev (k := 6) (b := b_from_above) F sc_from_above rfl rfl rfl fun cdv A outer s H E c =>
  s_cons (s_expr (x_call c h_need_strip (by decide) (a_cons (x_var (i := 0)) (a_cons (x_var (i := 1)) (a_nil))) (lenS (lenS (len0)))))
  (s_one (s_ret (x_call c h_states_above (by decide) (a_cons (x_var (i := 0)) (a_cons (x_var (i := 1)) (a_nil))) (lenS (lenS (len0))))))
abbrev s_from_below : Stmt := topS 25
abbrev n_from_below : List Str := ["rule", "strip"]
theorem sc_from_below : FnScope n_from_below ["rule", "strip"] (defScope s_from_below) :=
  ⟨rfl, rfl, rfl, by decide +kernel, rfl, by decide +kernel, by decide +kernel⟩
theorem ok_from_below {f : Addr} {fd : FuncData} (F : Fun K "from_below" "from_below" s_from_below f fd) (h_need_strip : Cal (ctK P w K mg) base 6 "need_strip" 2 [] (fun xs _ => m_need_strip xs)) (h_states_below : Cal (ctK P w K mg) base 1 "states_below" 2 [] (fun xs _ => m_states_below xs)) :
    Gx.FnG P w K mg base (L2.CX P w) 7 f fd ["rule", "strip"] (spE (ctK P w K mg) 2 m_from_below) :=
  fn_ev (k := 6) (b := b_from_below) F sc_from_below rfl rfl rfl fun cdv A outer s H E c =>
  s_cons (s_expr (x_call c h_need_strip (by decide) (a_cons (x_var (i := 0)) (a_cons (x_var (i := 1)) (a_nil))) (lenS (lenS (len0)))))
  (s_one (s_ret (x_call c h_states_below (by decide) (a_cons (x_var (i := 0)) (a_cons (x_var (i := 1)) (a_nil))) (lenS (lenS (len0))))))
abbrev s_sure_states : Stmt := topS 26
abbrev n_sure_states : List Str := ["rule", "strip", "some"]
theorem sc_sure_states : FnScope n_sure_states ["rule", "strip"] (defScope s_sure_states) :=
  ⟨rfl, rfl, rfl, by decide +kernel, rfl, by decide +kernel, by decide +kernel⟩
theorem ok_sure_states {f : Addr} {fd : FuncData} (F : Fun K "sure_states" "sure_states" s_sure_states f fd) (B : Bl mg) (h_need_strip : Cal (ctK P w K mg) base 6 "need_strip" 2 [] (fun xs _ => m_need_strip xs)) (h_states_open : Cal (ctK P w K mg) base 2 "states_open" 2 [] (fun xs _ => m_states_open xs)) :
    Gx.FnG P w K mg base (L2.CX P w) 7 f fd ["rule", "strip"] (spE (ctK P w K mg) 2 m_sure_states) :=
  fn_ev (k := 6) (b := b_sure_states) F sc_sure_states rfl rfl rfl fun cdv A outer s H E c =>
  s_cons (s_expr (x_call c h_need_strip (by decide) (a_cons (x_var (i := 0)) (a_cons (x_var (i := 1)) (a_nil))) (lenS (lenS (len0)))))
  (s_one (s_ret (x_t1 c_tuple (x_lc1 (own := [("some", 2)]) c (i_any (x_call c h_states_open (by decide) (a_cons (x_var (i := 0)) (a_cons (x_var (i := 1)) (a_nil))) (lenS (lenS (len0))))) (blkOk_by (N := n_sure_states) (sc := defScope s_sure_states) (by decide +kernel)) ⟨fun _ _ _ _ _ c1 => g_name 2 c1.nd, fun _ _ _ _ _ c1 => ts_nil⟩ (fun _ _ _ _ _ c1 => x_if (x_cmpT (o_eq c1.room) (x_b1 c_len (x_var (i := 2)) B.len (by decide +kernel)) (x_int) (nomark _)) (x_ix (x_var (i := 2)) (x_int)) (x_non))) B.tuple (by decide +kernel))))
abbrev s__law_right : Stmt := topS 39
abbrev n__law_right : List Str := ["_law_walk", "_law_sieve", "_law_kept", "_law_above_here", "_law_below_here", "_law_some", "_law_sure", "_law_told", "_law_again"]
theorem sc__law_right : FnScope n__law_right ["_law_walk", "_law_sieve"] (defScope s__law_right) :=
  ⟨rfl, rfl, rfl, by decide +kernel, rfl, by decide +kernel, by decide +kernel⟩
theorem ok__law_right {f : Addr} {fd : FuncData} (F : Fun K "_law_right" "_law_right" s__law_right f fd) (B : Bl mg) (h__law_above : Cal (ctK P w K mg) base 1 "_law_above" 2 [] (fun xs _ => m__law_above xs)) (h__law_rows : Cal (ctK P w K mg) base 1 "_law_rows" 1 [] (fun xs _ => m__law_rows xs)) (h__law_below : Cal (ctK P w K mg) base 1 "_law_below" 2 [] (fun xs _ => m__law_below xs)) (h__law_open : Cal (ctK P w K mg) base 2 "_law_open" 2 [] (fun xs _ => m__law_open xs)) (h_sure_states : Cal (ctK P w K mg) base 7 "sure_states" 2 [] (fun xs _ => m_sure_states xs)) (h_from_below : Cal (ctK P w K mg) base 7 "from_below" 2 [] (fun xs _ => m_from_below xs)) (h_from_above : Cal (ctK P w K mg) base 7 "from_above" 2 [] (fun xs _ => m_from_above xs)) (h_from_below__0_strip_rule : Cal (ctK P w K mg) base 7 "from_below" 0 ["strip", "rule"] m_from_below__0_strip_rule) (h_sure_states__0_strip_rule : Cal (ctK P w K mg) base 7 "sure_states" 0 ["strip", "rule"] m_sure_states__0_strip_rule) (h_from_above__0_strip_rule : Cal (ctK P w K mg) base 7 "from_above" 0 ["strip", "rule"] m_from_above__0_strip_rule) :
    Gx.FnG P w K mg base (L2.CX P w) 8 f fd ["_law_walk", "_law_sieve"] (spE (ctK P w K mg) 2 m__law_right) :=
  fn_ev (k := 7) (b := b__law_right) F sc__law_right rfl rfl rfl fun cdv A outer s H E c =>
  s_cons (s_set 2 c.nd (x_b1 (c_repr c.gd c.room) (x_tup (a_cons (x_var (i := 0)) (a_cons (x_var (i := 1)) (a_nil)))) B.repr (by decide +kernel)))
  (s_cons (s_set 3 c.nd (x_b1 (c_repr c.gd c.room) (x_call c h__law_rows (by decide) (a_cons (x_call c h__law_above (by decide) (a_cons (x_var (i := 0)) (a_cons (x_var (i := 1)) (a_nil))) (lenS (lenS (len0)))) (a_nil)) (lenS (len0))) B.repr (by decide +kernel)))
  (s_cons (s_set 4 c.nd (x_b1 (c_repr c.gd c.room) (x_call c h__law_rows (by decide) (a_cons (x_call c h__law_below (by decide) (a_cons (x_var (i := 0)) (a_cons (x_var (i := 1)) (a_nil))) (lenS (lenS (len0)))) (a_nil)) (lenS (len0))) B.repr (by decide +kernel)))
  (s_cons (s_set 6 c.nd (x_b1 (c_repr c.gd c.room) (x_t1 c_tuple (x_lc1 (own := [("_law_some", 5)]) c (i_any (x_call c h__law_open (by decide) (a_cons (x_var (i := 0)) (a_cons (x_var (i := 1)) (a_nil))) (lenS (lenS (len0))))) (blkOk_by (N := n__law_right) (sc := defScope s__law_right) (by decide +kernel)) ⟨fun _ _ _ _ _ c1 => g_name 5 c1.nd, fun _ _ _ _ _ c1 => ts_nil⟩ (fun _ _ _ _ _ c1 => x_if (x_cmpT (o_eq c1.room) (x_b1 c_len (x_var (i := 5)) B.len (by decide +kernel)) (x_int) (nomark _)) (x_ix (x_var (i := 5)) (x_int)) (x_non))) B.tuple (by decide +kernel)) B.repr (by decide +kernel)))
  (s_cons (s_set 7 c.nd (x_lst (a_cons (x_b1 (c_repr c.gd c.room) (x_call c h_from_above (by decide) (a_cons (x_var (i := 0)) (a_cons (x_var (i := 1)) (a_nil))) (lenS (lenS (len0)))) B.repr (by decide +kernel)) (a_cons (x_b1 (c_repr c.gd c.room) (x_call c h_from_below (by decide) (a_cons (x_var (i := 0)) (a_cons (x_var (i := 1)) (a_nil))) (lenS (lenS (len0)))) B.repr (by decide +kernel)) (a_cons (x_b1 (c_repr c.gd c.room) (x_call c h_sure_states (by decide) (a_cons (x_var (i := 0)) (a_cons (x_var (i := 1)) (a_nil))) (lenS (lenS (len0)))) B.repr (by decide +kernel)) (a_nil))))))
  (s_cons (s_if (PW.pt (w_or (x_cmpT (o_ne c.room) (x_var (i := 7)) (x_lst (a_cons (x_var (i := 3)) (a_cons (x_var (i := 4)) (a_cons (x_var (i := 6)) (a_nil))))) (nomark _)) (w_or1 (x_cmpT (o_ne c.room) (x_b1 (c_repr c.gd c.room) (x_tup (a_cons (x_var (i := 0)) (a_cons (x_var (i := 1)) (a_nil)))) B.repr (by decide +kernel)) (x_var (i := 2)) (nomark _))))) (s_one (s_ret (x_bl))) (s_nil))
  (s_cons (s_set 8 c.nd (x_lst (a_cons (x_b1 (c_repr c.gd c.room) (x_callK0 c h_sure_states__0_strip_rule (by decide) (k_cons (x_var (i := 1)) (k_cons (x_var (i := 0)) (k_nil))) (lenS (lenS (len0)))) B.repr (by decide +kernel)) (a_cons (x_b1 (c_repr c.gd c.room) (x_callK0 c h_from_below__0_strip_rule (by decide) (k_cons (x_var (i := 1)) (k_cons (x_var (i := 0)) (k_nil))) (lenS (lenS (len0)))) B.repr (by decide +kernel)) (a_nil)))))
  (s_one (s_ret (x_and (x_cmp (o_eq c.room) (x_var (i := 8)) (x_lst (a_cons (x_var (i := 6)) (a_cons (x_var (i := 4)) (a_nil)))) (nomark _)) (x_one (x_cmp (o_eq c.room) (x_b1 (c_repr c.gd c.room) (x_callK0 c h_from_above__0_strip_rule (by decide) (k_cons (x_var (i := 1)) (k_cons (x_var (i := 0)) (k_nil))) (lenS (lenS (len0)))) B.repr (by decide +kernel)) (x_var (i := 3)) (nomark _))))))))))))
abbrev s_law : Stmt := topS 40
abbrev n_law : List Str := ["_law_script", "_law_k", "_law_pot_here", "_law_kinds_here", "_law_turn", "_law_walk"]
theorem sc_law : FnScope n_law ["_law_script"] (defScope s_law) :=
  ⟨rfl, rfl, rfl, by decide +kernel, rfl, by decide +kernel, by decide +kernel⟩
theorem ok_law {f : Addr} {fd : FuncData} (F : Fun K "law" "law" s_law f fd) (B : Bl mg) (h__law_pot : Cal (ctK P w K mg) base 1 "_law_pot" 2 [] (fun xs _ => m__law_pot xs)) (h__law_kinds : Cal (ctK P w K mg) base 3 "_law_kinds" 2 [] (fun xs _ => m__law_kinds xs)) (h__law_poor_rule : Cal (ctK P w K mg) base 3 "_law_poor_rule" 3 [] (fun xs _ => m__law_poor_rule xs)) (h__law_take : Cal (ctK P w K mg) base 1 "_law_take" 2 [] (fun xs _ => m__law_take xs)) (h__law_strip : Cal (ctK P w K mg) base 2 "_law_strip" 3 [] (fun xs _ => m__law_strip xs)) (h__law_right : Cal (ctK P w K mg) base 8 "_law_right" 2 [] (fun xs _ => m__law_right xs)) :
    Gx.FnG P w K mg base (L2.CX P w) 9 f fd ["_law_script"] (spE (ctK P w K mg) 1 m_law) :=
  fn_ev (k := 8) (b := b_law) F sc_law rfl rfl rfl fun cdv A outer s H E c =>
  s_cons (s_for c.po c.calm (i_range1 (x_b2 (c_max2 c.calm) (x_int) (x_b2 (c_min2 c.calm) (x_int) (x_b1 c_len (x_var (i := 0)) B.len (by decide +kernel)) B.min (by decide +kernel)) B.max (by decide +kernel)) B.range) (g_name 1 c.nd) (s_cons (s_set 2 c.nd (x_call c h__law_pot (by decide) (a_cons (x_var (i := 0)) (a_cons (x_var (i := 1)) (a_nil))) (lenS (lenS (len0)))))
  (s_cons (s_set 3 c.nd (x_call c h__law_kinds (by decide) (a_cons (x_var (i := 2)) (a_cons (x_int) (a_nil))) (lenS (lenS (len0)))))
  (s_one (s_for c.po c.calm (i_range1 (x_int) B.range) (g_name 4 c.nd) (s_cons (s_set 5 c.nd (x_call c h__law_poor_rule (by decide) (a_cons (x_var (i := 2)) (a_cons (x_var (i := 3)) (a_cons (x_ix (x_lst (a_cons (x_int) (a_cons (x_int) (a_nil)))) (x_t1 c_int (x_and (x_cmp (o_eq c.room) (x_var (i := 1)) (x_int) (nomark _)) (x_one (x_cmp (o_eq c.room) (x_var (i := 4)) (x_int) (nomark _)))) B.int (by decide +kernel))) (a_nil)))) (lenS (lenS (lenS (len0))))))
  (s_one (s_if (t_not (t_tru (x_call c h__law_right (by decide) (a_cons (x_var (i := 5)) (a_cons (x_call c h__law_strip (by decide) (a_cons (x_var (i := 2)) (a_cons (x_var (i := 3)) (a_cons (x_op o_add (x_int) (x_call c h__law_take (by decide) (a_cons (x_var (i := 2)) (a_cons (x_int) (a_nil))) (lenS (lenS (len0))))) (a_nil)))) (lenS (lenS (lenS (len0))))) (a_nil))) (lenS (lenS (len0)))))) (s_one (s_ret (x_bl))) (s_nil)))))))))
  (s_one (s_ret (x_bl)))
end
end K25

set_option linter.all false
set_option maxHeartbeats 1000000
/-! how mirrors are read -/
namespace Ev
open PySem
theorem loop_ok {g : Fg} {b : Fs} {k : Option (Nat × Cell)} (I : List Val → MEnv → Store → Prop)
    (step : ∀ x xs env S, I (x :: xs) env S → ∃ env1, g x env = some env1 ∧ ∃ env2 S2, b env1 S = .nx env2 S2 ∧ keeps k S2 ∧ I xs env2 S2) :
    ∀ xs env S, I xs env S → ∃ env' S', loop g b k xs env S = .nx env' S' ∧ I [] env' S'
  | [], env, S, h => ⟨env, S, rfl, h⟩
  | x :: xs, env, S, h => by
    obtain ⟨env1, e1, env2, S2, e2, hk, h2⟩ := step x xs env S h
    obtain ⟨env', S', e3, h3⟩ := loop_ok I step xs env2 S2 h2
    refine ⟨env', S', ?_, h3⟩
    simp only [loop, e1, e2, hk, if_true]
    exact e3
theorem comp_ok {g : Fg} {t : Ft} {b : Fc} {k : Option (Nat × Cell)} {env : MEnv} (I : List PyData → List Val → Store → Prop)
    (step : ∀ acc x xs S, I acc (x :: xs) S → ∃ env1, g x env = some env1 ∧ ∃ c S1, t env1 S = .ok c S1 ∧ ∃ ds S2, (if c = true then b env1 S1 else .ok [] S1) = .ok ds S2 ∧ keeps k S2 ∧ I (acc ++ ds) xs S2) :
    ∀ xs acc S, I acc xs S → ∃ ds S', compGo g t b k xs env S = .ok ds S' ∧ I (acc ++ ds) [] S'
  | [], acc, S, h => ⟨[], S, rfl, by simpa using h⟩
  | x :: xs, acc, S, h => by
    obtain ⟨env1, e1, c, S1, e2, ds, S2, e3, hk, h2⟩ := step acc x xs S h
    obtain ⟨es, S', e4, h4⟩ := comp_ok I step xs (acc ++ ds) S2 h2
    refine ⟨ds ++ es, S', ?_, by simpa [List.append_assoc] using h4⟩
    simp only [compGo, e1, e2, bind_ok, e3, hk, if_true, e4]
/-- a comprehension that changes nothing -/
theorem comp_pure {g : Fg} {t : Ft} {b : Fc} {k : Option (Nat × Cell)} {env : MEnv} {S : Store} (f : Val → List PyData) (hk : keeps k S) :
    ∀ xs : List Val, (∀ x ∈ xs, ∃ env1, g x env = some env1 ∧ ∃ c, t env1 S = .ok c S ∧ (if c = true then b env1 S else .ok [] S) = .ok (f x) S) →
    compGo g t b k xs env S = .ok (xs.flatMap f) S
  | [], _ => rfl
  | x :: xs, h => by
    obtain ⟨env1, e1, c, e2, e3⟩ := h x (by simp)
    have ih := comp_pure f hk xs fun y hy => h y (by simp [hy])
    simp only [compGo, e1, e2, bind_ok, e3, hk, if_true, ih, List.flatMap_cons]
@[simp] theorem eV_0 {v : Val} {r : MEnv} {S : Store} : eV 0 (some v :: r) S = .ok v S := rfl
@[simp] theorem eV_s {x : Option Val} {i : Nat} {r : MEnv} {S : Store} : eV (i + 1) (x :: r) S = eV i r S := by simp [eV]
@[simp] theorem eD_ {d : PyData} {env : MEnv} {S : Store} : eD d env S = .ok (.dat d) S := rfl
@[simp] theorem keeps_none {S : Store} : keeps none S = True := rfl
@[simp] theorem view_lst {S : Store} {n : Nat} {ds : List PyData} (h : S[n]? = some (some (.lst ds))) : view S (.ref n) = some (.list ds) := by simp [view, h, Cell.now]
@[simp] theorem next_nx {env : MEnv} {S : Store} {k : MEnv → Store → Flow} : (Flow.nx env S).next k = k env S := rfl
@[simp] theorem next_rt {v : Val} {S : Store} {k : MEnv → Store → Flow} : (Flow.rt v S).next k = .rt v S := rfl
@[simp] theorem andThen_ok {env : MEnv} {v : Val} {S : Store} {k : Val → Store → Flow} : andThen env (.ok v S) k = k v S := rfl
@[simp] theorem andTest_ok {env : MEnv} {v : Bool} {S : Store} {k : Bool → Store → Flow} : andTest env (.ok v S) k = k v S := rfl
@[simp] theorem take_set_self {S : Store} {r : Nat} {x : Option Cell} : List.take S.length (S.set r x) = S.set r x := List.take_of_length_le (by simp)
@[simp] theorem take_self {S : Store} : List.take S.length S = S := List.take_of_length_le (by simp)
theorem set_get {S : Store} {r : Nat} {c x : Option Cell} (h : S[r]? = some c) : (S.set r x)[r]? = some x := by
  have := (List.getElem?_eq_some_iff.1 h).1
  simp [this]
theorem view_set {S : Store} {r : Nat} {c : Option Cell} {ds : List PyData} (h : S[r]? = some c) : view (S.set r (some (.lst ds))) (.ref r) = some (.list ds) := view_lst (set_get h)
section ops
variable {i j : Int} {x y : Str} {xs ys ds : List PyData}
@[simp] theorem pAdd_ii : pAdd (.int i) (.int j) = some (.int (i + j)) := rfl
@[simp] theorem pAdd_ss : pAdd (.str x) (.str y) = if x.length + y.length ≤ lineN then some (.str (x ++ y)) else none := by simp only [pAdd]
@[simp] theorem pAdd_ll : pAdd (.list xs) (.list ys) = if xs.length + ys.length ≤ lineN then some (.list (xs ++ ys)) else none := by simp only [pAdd]
@[simp] theorem pAdd_tt : pAdd (.tuple xs) (.tuple ys) = if xs.length + ys.length ≤ lineN then some (.tuple (xs ++ ys)) else none := by simp only [pAdd]
@[simp] theorem pSub_ii : pSub (.int i) (.int j) = some (.int (i - j)) := rfl
@[simp] theorem pMul_ii (h : mulOk i j = true) : pMul (.int i) (.int j) = some (.int (i * j)) := by simp only [pMul, h, if_true]
@[simp] theorem pMod_ii (h : 0 < j) : pMod (.int i) (.int j) = some (.int (i % j)) := by simp only [pMod, h, if_true]
@[simp] theorem pFdiv_ii (h : 0 < j) (h2 : j < 1073741824) : pFdiv (.int i) (.int j) = some (.int (i / j)) := by simp only [pFdiv, h, h2, and_self, if_true]
@[simp] theorem pPow_ii (h : 0 ≤ j) (h2 : j ≤ 1000000) (h3 : i.natAbs < 2 ^ 64) : pPow (.int i) (.int j) = some (.int (i ^ j.toNat)) := by simp only [pPow, h, h2, h3, and_self, if_true]
@[simp] theorem pNeg_i : pNeg (.int i) = some (.int (-i)) := rfl
@[simp] theorem pLt_ii : pLt (.int i) (.int j) = some (decide (i < j)) := rfl
@[simp] theorem pLt_ss : pLt (.str x) (.str y) = some (ltS x y) := rfl
@[simp] theorem pLe_ii : pLe (.int i) (.int j) = some (decide (i ≤ j)) := rfl
@[simp] theorem pGt_ii : pGt (.int i) (.int j) = some (decide (j < i)) := rfl
@[simp] theorem pGe_ii : pGe (.int i) (.int j) = some (decide (j ≤ i)) := rfl
@[simp] theorem eqv_ii : PyData.eqv (.int i) (.int j) = decide (i = j) := rfl
@[simp] theorem pEq_ii : pEq (.int i) (.int j) = some (decide (i = j)) := by simp [pEq, SeqAt.shaped, PyData.canLay0, PyData.depth]
@[simp] theorem pNe_ii : pNe (.int i) (.int j) = some (!decide (i = j)) := by simp [pNe, SeqAt.shaped, PyData.canLay0, PyData.depth]
@[simp] theorem pIdx_l : pIdx (.list ds) (.int i) = itemAt ds i := rfl
@[simp] theorem pIdx_t : pIdx (.tuple ds) (.int i) = itemAt ds i := rfl
@[simp] theorem pLen_s : pLen (.str x) = some (.int x.length) := rfl
@[simp] theorem pLen_l : pLen (.list ds) = some (.int ds.length) := rfl
@[simp] theorem pLen_t : pLen (.tuple ds) = some (.int ds.length) := rfl
@[simp] theorem pTup_l : pTup (.list ds) = some (.tuple ds) := rfl
@[simp] theorem pTup_t : pTup (.tuple ds) = some (.tuple ds) := rfl
@[simp] theorem pLst_l : pLst (.list ds) = some (.list ds) := rfl
@[simp] theorem pLst_t : pLst (.tuple ds) = some (.list ds) := rfl
@[simp] theorem pRev_l : pRev (.list ds) = some (.list ds.reverse) := rfl
@[simp] theorem pRev_t : pRev (.tuple ds) = some (.tuple ds.reverse) := rfl
@[simp] theorem pSl_l {lo hi : Option Int} : pSl (.list ds) lo hi = some (.list (cutL ds lo hi)) := rfl
@[simp] theorem pSl_t {lo hi : Option Int} : pSl (.tuple ds) lo hi = some (.tuple (cutL ds lo hi)) := rfl
@[simp] theorem pSl_s {lo hi : Option Int} : pSl (.str x) lo hi = some (.str (cutX x lo hi)) := rfl
@[simp] theorem pAll_l : pAll (.list ds) = (boolsD ds).map fun bs => .bool (bs.all id) := rfl
@[simp] theorem pAbs_i : pAbs (.int i) = some (.int (if i < 0 then -i else i)) := rfl
@[simp] theorem pInt_i : pInt (.int i) = some (.int i) := rfl
@[simp] theorem pInt_b {b : Bool} : pInt (.bool b) = some (.int (if b = true then 1 else 0)) := rfl
@[simp] theorem pMin2_ii : pMin2 (.int i) (.int j) = some (.int (if j < i then j else i)) := rfl
@[simp] theorem pMax2_ii : pMax2 (.int i) (.int j) = some (.int (if j > i then j else i)) := rfl
@[simp] theorem itemAt_nat {α : Type} {zs : List α} {k : Nat} (h : k < zs.length) : itemAt zs (k : Int) = zs[k]? := by simp [itemAt, ixOf, h]
@[simp] theorem itemAt_0 {α : Type} {z : α} {zs : List α} : itemAt (z :: zs) 0 = some z := by simp [itemAt, ixOf]
@[simp] theorem itemAt_1 {α : Type} {z z1 : α} {zs : List α} : itemAt (z :: z1 :: zs) 1 = some z1 := by simp [itemAt, ixOf]
@[simp] theorem itemAt_2 {α : Type} {z z1 z2 : α} {zs : List α} : itemAt (z :: z1 :: z2 :: zs) 2 = some z2 := by simp [itemAt, ixOf]
@[simp] theorem itemAt_3 {α : Type} {z z1 z2 z3 : α} {zs : List α} : itemAt (z :: z1 :: z2 :: z3 :: zs) 3 = some z3 := by simp [itemAt, ixOf]
@[simp] theorem itemAt_last {α : Type} {zs : List α} {z : α} : itemAt (zs ++ [z]) (-1) = some z := by
  have e : (-1 + ((zs.length : Int) + 1)).toNat = zs.length := by omega
  have e2 : (0 : Int) ≤ -1 + ((zs.length : Int) + 1) := by omega
  simp [itemAt, ixOf, e, e2]
end ops
/-- a drawing pot: what is left of its cell, its seed, how often it was asked; asked at most c times -/
def PotAt (S : Store) (r c : Nat) : Prop := ∃ a b : Int, ∃ n : Nat, S[r]? = some (some (.lst [.int a, .int b, .int n])) ∧ 0 ≤ a ∧ 0 ≤ b ∧ b < 2147483648 ∧ n ≤ c
/-- only r has changed -/
def Chg (r : Nat) (S T : Store) : Prop := T.length = S.length ∧ ∀ i, i ≠ r → T[i]? = S[i]?
theorem Chg.refl {r : Nat} {S : Store} : Chg r S S := ⟨rfl, fun _ _ => rfl⟩
theorem Chg.trans {r : Nat} {S T U : Store} (h : Chg r S T) (k : Chg r T U) : Chg r S U := ⟨k.1.trans h.1, fun i hi => (k.2 i hi).trans (h.2 i hi)⟩
theorem Chg.set {r : Nat} {S : Store} {x : Option Cell} : Chg r S (S.set r x) := ⟨by simp, fun i hi => by rw [List.getElem?_set_ne (Ne.symm hi)]⟩
theorem PotAt.mono {S : Store} {r c d : Nat} (h : PotAt S r c) (l : c ≤ d) : PotAt S r d := by
  obtain ⟨a, b, n, e, h1, h2, h3, h4⟩ := h
  exact ⟨a, b, n, e, h1, h2, h3, by omega⟩
theorem PotAt.lt {S : Store} {r c : Nat} (h : PotAt S r c) : r < S.length := by
  obtain ⟨a, b, n, e, _⟩ := h
  exact (List.getElem?_eq_some_iff.1 e).1
end Ev

set_option linter.all false
set_option maxHeartbeats 1000000
namespace Ev
open PySem
theorem tk1 {b x : Int} (h2 : 0 ≤ b) (h3 : b < 2147483648) (h4 : 0 ≤ x) (h5 : x ≤ 16777216) : (b + 7919 * x).natAbs < 2 ^ 64 := by omega
theorem tk2 {one b x : Int} (o1 : 0 ≤ one) (o2 : one < 2147483587) (h4 : 0 ≤ x) (h5 : x ≤ 16777216) : (one + 31 * x * x + b % 65521).natAbs < 2 ^ 64 := by
  have q1 : x * x ≤ 16777216 * 16777216 := Int.mul_le_mul h5 h5 h4 (by omega)
  have q0 : 0 ≤ x * x := Int.mul_nonneg h4 h4
  have q2 : 31 * x * x = 31 * (x * x) := Int.mul_assoc _ _ _
  omega
theorem tk3 {x : Int} (h4 : 0 ≤ x) (h5 : x ≤ 16777216) : mulOk (31 * x) x = true := by
  unfold mulOk
  rw [decide_eq_true_eq]
  omega
theorem tk4 {k z : Int} (h : -1000000 < k) (h2 : k < 1000000) : mulOk k z = true := by
  unfold mulOk
  rw [decide_eq_true_eq]
  omega
theorem take_ok {S : Store} {r c : Nat} {n : Int} (h : PotAt S r c) (hc : c < 2 ^ 24) (hn : 0 < n) (hn2 : n < 1000000) :
    ∃ d S', m__law_take [.ref r, .dat (.int n)] S = .ok (.dat (.int d)) S' ∧ PotAt S' r (c + 1) ∧ Chg r S S' ∧ 0 ≤ d ∧ d < n := by
  have hl := h.lt
  obtain ⟨a, b, m, e, h1, h2, h3, h4⟩ := h
  by_cases ha : 0 < a
  · refine ⟨a % n, S.set r (some (.lst [.int (a / n), .int b, .int m])), ?_, ⟨a / n, b, m, by simp [hl], Int.ediv_nonneg h1 (by omega), h2, h3, by omega⟩, Chg.set, Int.emod_nonneg _ (by omega), Int.emod_lt_of_pos _ hn⟩
    simp [m__law_take, mkFn, startEnv, b__law_take, sQ, sI, t2, e2, view_lst e, ha, sG, gN, hn, sPut, ixOf, e, sR, show n < 1073741824 by omega]
  · obtain ⟨x, hx⟩ : ∃ x : Int, x = (m : Int) + 1 := ⟨_, rfl⟩
    have h5 : 0 ≤ x ∧ x ≤ 16777216 := by omega
    obtain ⟨one, hone⟩ : ∃ one, one = (b + 7919 * x) ^ 3 % 2147483587 := ⟨_, rfl⟩
    have o1 : 0 ≤ one := by rw [hone]; exact Int.emod_nonneg _ (by omega)
    have o2 : one < 2147483587 := by rw [hone]; exact Int.emod_lt_of_pos _ (by omega)
    obtain ⟨two, htwo⟩ : ∃ two, two = (one + 31 * x * x + b % 65521) ^ 5 % 2147483563 := ⟨_, rfl⟩
    refine ⟨two / 256 % n, S.set r (some (.lst [.int a, .int b, .int x])), ?_, ⟨a, b, m + 1, by simp [hl, hx], h1, h2, h3, by omega⟩, Chg.set, Int.emod_nonneg _ (by omega), Int.emod_lt_of_pos _ hn⟩
    have k1 := tk1 h2 h3 h5.1 h5.2
    have k2 := tk2 (b := b) o1 o2 h5.1 h5.2
    have k3 := tk3 h5.1 h5.2
    have k4 : mulOk 31 x = true := tk4 (by omega) (by omega)
    have k5 : mulOk 7919 x = true := tk4 (by omega) (by omega)
    simp [m__law_take, mkFn, startEnv, b__law_take, sQ, sI, t2, e2, view_lst e, view_set e, set_get e, ha, sG, gN, hn, sPut, ixOf, sN, e, sR, show n < 1073741824 by omega,
      k1, k2, k3, k4, k5, ← hone, ← htwo, ← hx]
end Ev

set_option linter.all false
set_option maxHeartbeats 1000000
namespace Ev
open PySem
theorem Chg.get {r i : Nat} {S T : Store} {x : Option Cell} (h : Chg r S T) (hi : i ≠ r) (e : S[i]? = some x) : T[i]? = some x := (h.2 i hi).trans e
theorem pot_ok {S : Store} {ns : List Int} {k : Nat} (hk : k < 64) : ∃ S', m__law_pot [.dat (.list (ns.map PyData.int)), .dat (.int (k : Int))] S = .ok (.ref S.length) S' ∧ S'.length = S.length + 1 ∧ PotAt S' S.length 0 := by
  obtain ⟨c, hc, h0⟩ : ∃ c : Int, c = (if k < ns.length then (if ns.getD k 0 < 0 then - ns.getD k 0 else ns.getD k 0) else 0) ∧ 0 ≤ c := by
    refine ⟨_, rfl, ?_⟩
    split
    · split <;> omega
    · omega
  obtain ⟨z, hz⟩ : ∃ z : Int, z = (k : Int) := ⟨_, rfl⟩
  obtain ⟨a, ha⟩ : ∃ a : Int, a = c * (if 1000000000000000000 ≤ c then 1 else 0) := ⟨_, rfl⟩
  obtain ⟨b, hb⟩ : ∃ b : Int, b = (c % 1000000007 + 104729 * z + 17) ^ 3 % 2147483629 := ⟨_, rfl⟩
  have c1 : 0 ≤ c % 1000000007 := Int.emod_nonneg _ (by omega)
  have c2 : c % 1000000007 < 1000000007 := Int.emod_lt_of_pos _ (by omega)
  have k1 : (c % 1000000007 + 104729 * z + 17).natAbs < 2 ^ 64 := by omega
  have k2 : mulOk 104729 z = true := tk4 (by omega) (by omega)
  have k3 : mulOk c (if 1000000000000000000 ≤ c then 1 else 0) = true := by
    unfold mulOk
    rw [decide_eq_true_eq]
    split <;> omega
  have hbb : 0 ≤ b ∧ b < 2147483648 := by
    have h1 : 0 ≤ b := by rw [hb]; exact Int.emod_nonneg _ (by omega)
    have h2 : b < 2147483629 := by rw [hb]; exact Int.emod_lt_of_pos _ (by omega)
    omega
  have haa : 0 ≤ a := by
    rw [ha]
    split <;> omega
  refine ⟨S ++ [some (.lst [.int a, .int b, .int 0])], ?_, by simp, ⟨a, b, 0, by simp, haa, hbb.1, hbb.2, by omega⟩⟩
  have fin : ∀ env : MEnv, env = [some (.dat (.list (ns.map PyData.int))), some (.dat (.int z)), some (.dat (.int c))] →
      (eLstC (aC (e2 pMul (eV 2) (e1 pInt (e2 (cmpD pGe) (eV 2) (e2 pPow (eD (.int 10)) (eD (.int 18)))))) (aC (e2 pMod (e2 pPow (e2 pAdd (e2 pAdd (e2 pMod (eV 2) (eD (.int 1000000007))) (e2 pMul (eD (.int 104729)) (eV 1))) (eD (.int 17))) (eD (.int 3))) (eD (.int 2147483629))) (aC (eD (.int 0)) (aN))))) env S = .ok (.ref S.length) (S ++ [some (.lst [.int a, .int b, .int 0])]) := by
    intro env he
    subst he
    simp [eLstC, aC, aN, e2, e1, cmpD, dats, lineN, k1, k2, k3, ← ha, ← hb]
  by_cases hlt : k < ns.length
  · rw [if_pos hlt] at hc
    have hidx : itemAt (ns.map PyData.int) z = some (.int (ns.getD k 0)) := by
      rw [hz, itemAt_nat (by simpa using hlt)]
      simp [hlt]
    have hlt' : z < (ns.length : Int) := by omega
    rw [← hz]
    generalize ns.getD k 0 = y at hidx hc
    simp [m__law_pot, mkFn, startEnv, b__law_pot, sQ, sG, gN, sI, sR, t2, e1, e2, hlt', hidx, ← hc, fin _ rfl]
  · rw [if_neg hlt] at hc
    have hlt' : ¬ z < (ns.length : Int) := by omega
    rw [← hz]
    simp [m__law_pot, mkFn, startEnv, b__law_pot, sQ, sG, gN, sI, sN, sR, t2, e1, hlt', fin _ (by rw [hc])]

/-- names -/
def Ltr : Str := "abcdefghijklmnopqrstuvwxyz"
def IsNm (x : Str) : Prop := 1 ≤ x.length ∧ x.length ≤ 8 ∧ ∀ c ∈ x.cps.toList, 97 ≤ c ∧ c ≤ 122
theorem ltr_at : ∀ k : Nat, k < 26 → itemAt Ltr.cps.toList (k : Int) = some (97 + k) := by decide +kernel
theorem ltr_idx {d : Int} (h0 : 0 ≤ d) (h1 : d < 26) : pIdx (.str Ltr) (.int d) = some (.str ⟨#[97 + d.toNat]⟩) := by
  obtain ⟨k, rfl⟩ := Int.eq_ofNat_of_zero_le h0
  show (itemAt Ltr.cps.toList _).map _ = _
  rw [ltr_at k (by omega)]
  rfl
theorem ltr_index : ∀ k : Nat, k < 26 → Builtin.Str.occurrences Ltr ⟨#[97 + k]⟩ 0 Ltr.length 1 = [k] := by decide +kernel
theorem rangeOf_len {lo hi : Int} : (rangeOf lo hi).length = (hi - lo).toNat := by simp [rangeOf]
end Ev

set_option linter.all false
set_option maxHeartbeats 1000000
namespace Ev
open PySem
theorem strsD_map (xs : List Str) : strsD (xs.map PyData.str) = some xs := by
  induction xs with
  | nil => rfl
  | cons x xs ih => simp [strsD, ih]
def sg (c : Nat) : Str := ⟨#[c]⟩
theorem join_sg (cs : List Nat) : Txt.join "" (cs.map sg) = ⟨cs.toArray⟩ := by
  have key : ∀ cs : List Nat, (Txt.join "" (cs.map sg)).cps.toList = cs := by
    intro cs
    induction cs with
    | nil => rfl
    | cons c cs ih =>
      cases cs with
      | nil => rfl
      | cons d ds =>
        have e : Txt.join "" ((c :: d :: ds).map sg) = sg c ++ "" ++ Txt.join "" ((d :: ds).map sg) := by
          show Builtin.Str.glued _ _ = _ ++ _ ++ Builtin.Str.glued _ _
          rw [StrLaws.glued_eq_join, StrLaws.glued_eq_join]
          rfl
        rw [e]
        show ((sg c).cps ++ (Str.ofString "").cps ++ (Txt.join "" ((d :: ds).map sg)).cps).toList = _
        rw [Array.toList_append, Array.toList_append, ih]
        rfl
  exact Str.ext' (Array.toList_inj.mp (key cs))
theorem nmA {T : Store} {r c : Nat} {v1 v3 v4 v5 v6 : Option Val} (h : PotAt T r c) (hc : c + 9 < 2 ^ 24) : ∃ x T', (eMs pJoin (eD (.str "")) (eLc (cF [5] (iR1 (e2 pIdx (eLst (aC (eD (.int 1)) (aC (eD (.int 2)) (aC (eD (.int 3)) (aC (eD (.int 8)) (aN)))))) (eCall m__law_take (aC (eV 0) (aC (eD (.int 4)) (aN)))))) (gN 5) (tYes) (cE (e2 pIdx (eV 2) (eCall m__law_take (aC (eV 0) (aC (eD (.int 26)) (aN))))))))) [some (.ref r), v1, some (.dat (.str Ltr)), v3, v4, v5, v6] T = .ok (.dat (.str x)) T' ∧ IsNm x ∧ PotAt T' r (c + 9) ∧ Chg r T T' := by
  obtain ⟨d, T1, et, p1, ch1, d0, d1⟩ := take_ok h (by omega) (n := 4) (by omega) (by omega)
  obtain ⟨j, j1, j2, hidx⟩ : ∃ j : Nat, 1 ≤ j ∧ j ≤ 8 ∧ itemAt [PyData.int 1, .int 2, .int 3, .int 8] d = some (.int (j : Int)) := by
    have : d = 0 ∨ d = 1 ∨ d = 2 ∨ d = 3 := by omega
    rcases this with rfl | rfl | rfl | rfl
    · exact ⟨1, by omega, by omega, rfl⟩
    · exact ⟨2, by omega, by omega, rfl⟩
    · exact ⟨3, by omega, by omega, rfl⟩
    · exact ⟨8, by omega, by omega, rfl⟩
  obtain ⟨ds, T', ec, cs, hcs, hlet, hlen, pT, chT⟩ := comp_ok (g := gN 5) (t := tYes) (b := cE (e2 pIdx (eV 2) (eCall m__law_take (aC (eV 0) (aC (eD (.int 26)) (aN)))))) (k := none) (env := [some (.ref r), v1, some (.dat (.str Ltr)), v3, v4, none, v6])
    (fun acc rest U => ∃ cs : List Nat, acc = (cs.map sg).map PyData.str ∧ (∀ z ∈ cs, 97 ≤ z ∧ z ≤ 122) ∧ cs.length + rest.length = j ∧ PotAt U r (c + 1 + cs.length) ∧ Chg r T1 U)
    (by
      rintro acc x xs U ⟨cs, rfl, hl, hn, pU, chU⟩
      have hn' : cs.length + (xs.length + 1) = j := by simpa using hn
      obtain ⟨e, U1, eu, p2, ch2, e0, e1⟩ := take_ok pU (by omega) (n := 26) (by omega) (by omega)
      refine ⟨_, rfl, true, U, rfl, [.str (sg (97 + e.toNat))], U1, ?_, trivial, cs ++ [97 + e.toNat], by simp, ?_, by simp; omega, by simpa [Nat.add_assoc] using p2, chU.trans ch2⟩
      · simp [cE, e2, eCall, aC, aN, eu, ltr_idx e0 e1, sg]
      · intro z hz
        rw [List.mem_append] at hz
        rcases hz with hz | hz
        · exact hl z hz
        · simp at hz
          omega)
    (rangeOf 0 (j : Int)) [] T1 ⟨[], rfl, by simp, by simp [rangeOf_len], p1, Chg.refl⟩
  simp only [List.nil_append] at hcs
  simp only [List.length_nil, Nat.add_zero] at hlen
  refine ⟨⟨cs.toArray⟩, T', ?_, ⟨?_, ?_, ?_⟩, pT.mono (by omega), ch1.trans chT⟩
  · have b1 : bnd (j : Int) = true := by
      unfold bnd
      rw [decide_eq_true_eq]
      omega
    have hl2 : ds.length = j := by rw [hcs]; simp [hlen]
    obtain ⟨z, hz⟩ : ∃ z : Int, z = (j : Int) := ⟨_, rfl⟩
    rw [← hz] at b1 hidx ec
    have hj : pJoin "" (.list ds) = some (.str ⟨cs.toArray⟩) := by
      have e1 : ((cs.map sg).map (·.length)).sum = cs.length := by
        clear hcs hlet hlen pT
        induction cs with
        | nil => rfl
        | cons c cs ih => rw [List.map_cons, List.map_cons, List.sum_cons, ih]; simp [sg, Str.length]; omega
      simp only [pJoin, hcs, strsD_map, Option.bind_some, join_sg, e1]
      rw [if_pos]
      constructor
      · simp [lineN, Str.length]
        have : (Str.ofString "").cps.size = 0 := rfl
        rw [this]
        omega
      · simp [Str.length, lineN]; omega
    simp [eMs, eLc, cF, iR1, e2, eLst, eCall, aC, aN, dats, lineN, et, hidx, b1, wipeE, ec, hl2, show j ≤ 16777216 by omega, hj]
  · simp [Str.length]; omega
  · simp [Str.length]; omega
  · simpa using hlet
end Ev

set_option linter.all false
set_option maxHeartbeats 1000000
namespace Ev
open PySem
theorem IsNm.ok {x : Str} (h : IsNm x) : PyData.strOk x = true := by
  unfold PyData.strOk
  rw [Array.all_eq_true_iff_forall_mem]
  intro c hc
  have := h.2.2 c (by simpa using hc)
  simp
  omega
theorem depthAll_strs (xs : List Str) : PyData.depthAll (xs.map PyData.str) ≤ 1 := by
  induction xs with
  | nil => simp [PyData.depthAll]
  | cons x xs ih => simp [PyData.depthAll, PyData.depth]; omega
theorem shaped_strs {xs : List Str} (h : ∀ x ∈ xs, PyData.strOk x = true) : SeqAt.shaped (.list (xs.map PyData.str)) = true := by
  have h1 : PyData.canLayAll0 (xs.map PyData.str) = true := by
    induction xs with
    | nil => rfl
    | cons x xs ih => simp [PyData.canLayAll0, PyData.canLay0, h x (by simp)]; exact ih fun y hy => h y (by simp [hy])
  have h2 := depthAll_strs xs
  simp [SeqAt.shaped, PyData.canLay0, h1, PyData.depth]
  omega
theorem pNe_nil {xs : List Str} (h : ∀ x ∈ xs, PyData.strOk x = true) : pNe (.list (xs.map PyData.str)) (.list []) = some (!xs.isEmpty) := by
  unfold pNe
  rw [if_pos ⟨shaped_strs h, shaped_strs (xs := []) (by simp)⟩]
  cases xs <;> rfl
theorem pIn_strs {x : Str} {xs : List Str} : pIn (.str x) (.list (xs.map PyData.str)) = some (decide (x ∈ xs)) := by
  have h : (xs.map PyData.str).all flatD = true := by simp [flatD]
  simp only [pIn, h, flatD, and_self, if_true]
  congr 1
  rw [Bool.eq_iff_iff, List.any_eq_true, decide_eq_true_iff]
  constructor
  · rintro ⟨z, hz, e⟩
    obtain ⟨y, hy, rfl⟩ := List.mem_map.1 hz
    have : y = x := by simpa [PyData.eqv] using e
    exact this ▸ hy
  · intro hx
    exact ⟨.str x, List.mem_map.2 ⟨x, hx, rfl⟩, by simp [PyData.eqv]⟩
def nm (l : List Nat) : Str := ⟨l.toArray⟩
theorem nm_eta (x : Str) : nm x.cps.toList = x := by simp [nm]
theorem nm_inj {l m : List Nat} (h : nm l = nm m) : l = m := by
  have := congrArg (fun x : Str => x.cps.toList) h
  simpa [nm] using this
@[simp] theorem nm_len {l : List Nat} : (nm l).length = l.length := by simp [nm, Str.length]
theorem nm_app (l m : List Nat) : nm l ++ nm m = nm (l ++ m) := by
  apply Str.ext'
  show (nm l).cps ++ (nm m).cps = _
  simp [nm]
theorem cutX_nm (l : List Nat) (lo hi : Option Int) : cutX (nm l) lo hi = nm (cutL l lo hi) := by simp [cutX, nm]
theorem isNm_nm {l : List Nat} : IsNm (nm l) ↔ 1 ≤ l.length ∧ l.length ≤ 8 ∧ ∀ c ∈ l, 97 ≤ c ∧ c ≤ 122 := by simp [IsNm, nm, Str.length]
theorem str_a : (Str.ofString "a") = nm [97] := rfl
theorem nmB {T : Store} {r q c : Nat} {xs : List Str} {x : Str} {v1 v4 v5 : Option Val} (h : PotAt T r c) (hc : c + 1 < 2 ^ 24) (hq : T[q]? = some (some (.lst (xs.map PyData.str)))) (hqr : q ≠ r) (hx : IsNm x) (hxs : ∀ y ∈ xs, IsNm y) :
    ∃ x' T', (sI (tAnd (t2 pNe (eV 3) (eLst (aN))) (t2 pEq (eCall m__law_take (aC (eV 0) (aC (eD (.int 3)) (aN)))) (eD (.int 0)))) (sG (eSl (e2 pAdd (e2 pIdx (eV 3) (e1 pNeg (eD (.int 1)))) (eD (.str "a"))) (oN) (oS (eD (.int 8)))) (gN 6)) (sN)) [some (.ref r), v1, some (.dat (.str Ltr)), some (.ref q), v4, v5, some (.dat (.str x))] T = .nx [some (.ref r), v1, some (.dat (.str Ltr)), some (.ref q), v4, v5, some (.dat (.str x'))] T' ∧ IsNm x' ∧ PotAt T' r (c + 1) ∧ Chg r T T' := by
  have hne := pNe_nil (xs := xs) fun y hy => (hxs y hy).ok
  rcases List.eq_nil_or_concat xs with rfl | ⟨ys, y, rfl⟩
  · refine ⟨x, T, ?_, hx, h.mono (by omega), Chg.refl⟩
    simp at hne hq
    simp [sI, tAnd, t2, eLst, aN, dats, lineN, view_lst hq, hne, sN]
  · obtain ⟨d, T1, et, p1, ch1, d0, d1⟩ := take_ok h (by omega) (n := 3) (by omega) (by omega)
    have hv := view_lst hq
    have hv1 := view_lst (ch1.get hqr hq)
    simp only [List.concat_eq_append, List.map_append, List.map_cons, List.map_nil] at hne hv hv1
    have hem : (ys ++ [y]).isEmpty = false := by simp
    rw [hem, Bool.not_false] at hne
    by_cases hd : d = 0
    · refine ⟨nm ((y.cps.toList ++ [97]).take 8), T1, ?_, ?_, p1, ch1⟩
      · have hy := hxs y (by simp)
        have f1 : y ++ Str.ofString "a" = nm (y.cps.toList ++ [97]) := by
          rw [str_a]
          conv => lhs; rw [← nm_eta y]
          exact nm_app _ _
        have f2 : y.length + (Str.ofString "a").length ≤ 16777216 := by
          rw [str_a, nm_len]
          have := hy.2.1
          simp
          omega
        have e3 : cutL (y.cps.toList ++ [97]) none (some 8) = (y.cps.toList ++ [97]).take 8 := by
          have hl : y.cps.toList.length = y.length := rfl
          have := hy.2.1
          simp only [cutL, slAt]
          simp
        simp [sI, tAnd, t2, eLst, aN, dats, lineN, hv, hne, eCall, aC, et, hd, sG, eSl, Ev.e2, Ev.e1, hv1, f1, f2, oN, oS, cutX_nm, e3, gN]
      · have hy := hxs y (by simp)
        rw [isNm_nm]
        refine ⟨by simp; omega, by simp; omega, fun z hz => ?_⟩
        have hz' := List.mem_of_mem_take hz
        rw [List.mem_append] at hz'
        rcases hz' with hz' | hz'
        · exact hy.2.2 z hz'
        · simp at hz'
          omega
    · refine ⟨x, T1, ?_, hx, p1, ch1⟩
      simp [sI, tAnd, t2, eLst, aN, dats, lineN, hv, hne, eCall, aC, et, hd, sN]
end Ev

set_option linter.all false
set_option maxHeartbeats 1000000
namespace Ev
open PySem
def cand (h : Nat) (t : List Nat) (k : Nat) : Str := nm ((97 + (h + k) % 26) :: t)
theorem cand_inj {h : Nat} {t : List Nat} {j k : Nat} (hj : j < 26) (hk : k < 26) (e : cand h t j = cand h t k) : j = k := by
  have := nm_inj e
  simp at this
  omega
theorem bump_ok {T : Store} {k : Nat} {t : List Nat} {v0 v1 v3 v4 v5 : Option Val} (hk : k < 26) (ht : t.length ≤ 7) :
    (e2 pAdd (e2 pIdx (eV 2) (e2 pMod (e2 pAdd (eMs pIndexS (eV 2) (e2 pIdx (eV 6) (eD (.int 0)))) (eD (.int 1))) (eD (.int 26)))) (eSl (eV 6) (oS (eD (.int 1))) (oN))) [v0, v1, some (.dat (.str Ltr)), v3, v4, v5, some (.dat (.str (nm ((97 + k) :: t))))] T = .ok (.dat (.str (nm ((97 + (k + 1) % 26) :: t)))) T := by
  have a1 : pIdx (.str (nm ((97 + k) :: t))) (.int 0) = some (.str ⟨#[97 + k]⟩) := by
    simp only [pIdx]
    rw [show (nm ((97 + k) :: t)).cps.toList = (97 + k) :: t from rfl, itemAt_0]
    rfl
  have a2 : pIndexS Ltr (.str ⟨#[97 + k]⟩) = some (.int (k : Int)) := by
    simp only [pIndexS, ltr_index k hk]
  have a3 : pIdx (.str Ltr) (.int (((k : Int) + 1) % 26)) = some (.str (nm [97 + (k + 1) % 26])) := by
    rw [ltr_idx (Int.emod_nonneg _ (by omega)) (Int.emod_lt_of_pos _ (by omega))]
    have : (((k : Int) + 1) % 26).toNat = (k + 1) % 26 := by omega
    rw [this]
    rfl
  have a4 : cutL ((97 + k) :: t) (some 1) none = t := by
    simp [cutL, slAt]
  have a5 : nm [97 + (k + 1) % 26] ++ nm t = nm ((97 + (k + 1) % 26) :: t) := nm_app _ _
  obtain ⟨z, hz⟩ : ∃ z : Int, z = (k : Int) := ⟨_, rfl⟩
  rw [← hz] at a2 a3
  have a6 : 1 + t.length ≤ 16777216 := by omega
  generalize hA : nm ((97 + k) :: t) = A at *
  generalize hB : nm [97 + (k + 1) % 26] = B at *
  have hcut : cutX A (some 1) none = nm t := by rw [← hA, cutX_nm, a4]
  have hBl : B.length = 1 := by rw [← hB]; simp
  simp [e2, eMs, a1, a2, a3, eSl, oS, oN, hcut, hBl, lineN, a6, a5]
theorem bump_loop {T : Store} {q : Nat} {xs : List Str} {h : Nat} {t : List Nat} {v0 v1 v4 v5 : Option Val} {many : Nat} (hh : h < 26) (ht : t.length ≤ 7) (htl : ∀ z ∈ t, 97 ≤ z ∧ z ≤ 122) (hq : T[q]? = some (some (.lst (xs.map PyData.str)))) (hm : xs.length < many) (hm2 : many < 26) (vs : List Val) (hvs : vs.length = many) :
    ∃ x v5', loop (gN 5) (sI (t2 pIn (eV 6) (eV 3)) (sG (e2 pAdd (e2 pIdx (eV 2) (e2 pMod (e2 pAdd (eMs pIndexS (eV 2) (e2 pIdx (eV 6) (eD (.int 0)))) (eD (.int 1))) (eD (.int 26)))) (eSl (eV 6) (oS (eD (.int 1))) (oN))) (gN 6)) (sN)) none vs [v0, v1, some (.dat (.str Ltr)), some (.ref q), v4, v5, some (.dat (.str (cand h t 0)))] T
      = .nx [v0, v1, some (.dat (.str Ltr)), some (.ref q), v4, v5', some (.dat (.str x))] T ∧ IsNm x ∧ x ∉ xs := by
  have hnm : ∀ k, IsNm (cand h t k) := fun k => by
    unfold cand
    rw [isNm_nm]
    refine ⟨by simp, by simp; omega, fun z hz => ?_⟩
    rw [List.mem_cons] at hz
    rcases hz with rfl | hz
    · omega
    · exact htl z hz
  have hv := view_lst hq
  obtain ⟨env', S', el, x, v5', rfl, rfl, hcase⟩ := loop_ok (g := gN 5) (k := none) (b := (sI (t2 pIn (eV 6) (eV 3)) (sG (e2 pAdd (e2 pIdx (eV 2) (e2 pMod (e2 pAdd (eMs pIndexS (eV 2) (e2 pIdx (eV 6) (eD (.int 0)))) (eD (.int 1))) (eD (.int 26)))) (eSl (eV 6) (oS (eD (.int 1))) (oN))) (gN 6)) (sN)))
    (fun rest env U => ∃ x v5', env = [v0, v1, some (.dat (.str Ltr)), some (.ref q), v4, v5', some (.dat (.str x))] ∧ U = T ∧ ((IsNm x ∧ x ∉ xs) ∨ (∃ i, i + rest.length = many ∧ x = cand h t i ∧ ∃ L : List Str, L.length + i ≤ xs.length ∧ ∀ y ∈ xs, (∀ j, j < i → y ≠ cand h t j) → y ∈ L)))
    (by
      rintro y ys env U ⟨x, v5', rfl, rfl, hc⟩
      refine ⟨_, rfl, ?_⟩
      by_cases hx : x ∈ xs
      · rcases hc with hc | ⟨i, hi, rfl, L, hL, hLs⟩
        · exact absurd hx hc.2
        · simp only [List.length_cons] at hi
          have hb := bump_ok (T := U) (k := (h + i) % 26) (t := t) (v0 := v0) (v1 := v1) (v3 := some (.ref q)) (v4 := v4) (v5 := some y) (by omega) ht
          have he : nm ((97 + ((h + i) % 26 + 1) % 26) :: t) = cand h t (i + 1) := by
            unfold cand
            rw [show ((h + i) % 26 + 1) % 26 = (h + (i + 1)) % 26 by omega]
          rw [he] at hb
          have hp : pIn (.str (cand h t i)) (.list (xs.map PyData.str)) = some true := by rw [pIn_strs, decide_eq_true hx]
          refine ⟨[v0, v1, some (.dat (.str Ltr)), some (.ref q), v4, some y, some (.dat (.str (cand h t (i + 1))))], U, ?_, trivial, cand h t (i + 1), some y, rfl, rfl, .inr ⟨i + 1, by omega, rfl, L.filter (fun z => !decide (z = cand h t i)), ?_, ?_⟩⟩
          · have hb' := hb
            rw [show nm ((97 + (h + i) % 26) :: t) = cand h t i from rfl] at hb'
            simp only [sI, t2, gN, List.set, eV_s, eV_0, bind_ok, view_dat, hv, Option.bind_some, hp, ofOpt_some, andTest_ok, if_true, sG, hb', andThen_ok]
          · have hmem : cand h t i ∈ L := hLs _ hx fun j hj e => by
              have := cand_inj (by omega) (by omega) e
              omega
            have : (L.filter (fun z => !decide (z = cand h t i))).length < L.length := by
              rw [List.length_filter_lt_length_iff_exists]
              exact ⟨_, hmem, by simp⟩
            omega
          · intro z hz hj
            rw [List.mem_filter]
            refine ⟨hLs z hz fun j hji => hj j (by omega), ?_⟩
            have := hj i (by omega)
            simpa using this
      · have hp : pIn (.str x) (.list (xs.map PyData.str)) = some false := by rw [pIn_strs, decide_eq_false hx]
        have hxn : IsNm x := by
          rcases hc with hc | ⟨i, _, rfl, _⟩
          · exact hc.1
          · exact hnm i
        refine ⟨[v0, v1, some (.dat (.str Ltr)), some (.ref q), v4, some y, some (.dat (.str x))], U, ?_, trivial, x, some y, rfl, rfl, .inl ⟨hxn, hx⟩⟩
        simp only [sI, t2, gN, List.set, eV_s, eV_0, bind_ok, view_dat, hv, Option.bind_some, hp, ofOpt_some, andTest_ok, Bool.false_eq_true, if_false, sN])
    vs _ T ⟨cand h t 0, v5, rfl, rfl, .inr ⟨0, by omega, rfl, xs, by omega, fun y hy _ => hy⟩⟩
  rcases hcase with hc | ⟨i, hi, rfl, L, hL, _⟩
  · exact ⟨x, v5', el, hc.1, hc.2⟩
  · simp at hi
    omega
end Ev

set_option linter.all false
set_option maxHeartbeats 1000000
namespace Ev
open PySem
/-- of the cells of S only r has changed; there may be new ones -/
def Fr (r : Nat) (S T : Store) : Prop := S.length ≤ T.length ∧ ∀ i, i < S.length → i ≠ r → T[i]? = S[i]?
theorem Fr.refl {r : Nat} {S : Store} : Fr r S S := ⟨Nat.le_refl _, fun _ _ _ => rfl⟩
theorem Fr.chg {r : Nat} {S T U : Store} (h : Fr r S T) (k : Chg r T U) : Fr r S U := ⟨by rw [k.1]; exact h.1, fun i hi hr => (k.2 i hr).trans (h.2 i hi hr)⟩
theorem Fr.new {r : Nat} {S T : Store} {x : Option Cell} (h : Fr r S T) : Fr r S (T ++ [x]) := ⟨by have := h.1; simp; omega, fun i hi hr => by rw [List.getElem?_append_left (by have := h.1; omega)]; exact h.2 i hi hr⟩
theorem Fr.set {r q : Nat} {S T : Store} {x : Option Cell} (h : Fr r S T) (hq : S.length ≤ q) : Fr r S (T.set q x) := ⟨by simpa using h.1, fun i hi hr => by rw [List.getElem?_set_ne (by omega)]; exact h.2 i hi hr⟩
theorem Fr.done {r : Nat} {S T : Store} (h : Fr r S T) : Chg r S (T.take S.length) := by
  refine ⟨by have := h.1; simp; omega, fun i hr => ?_⟩
  by_cases hi : i < S.length
  · rw [List.getElem?_take_of_lt hi]
    exact h.2 i hi hr
  · rw [List.getElem?_eq_none (by simp; omega), List.getElem?_eq_none (by omega)]
theorem PotAt.cut {T : Store} {r c n : Nat} (h : PotAt T r c) (hr : r < n) : PotAt (T.take n) r c := by
  obtain ⟨a, b, m, e, k⟩ := h
  exact ⟨a, b, m, by rw [List.getElem?_take_of_lt hr]; exact e, k⟩
theorem PotAt.set {T : Store} {r c q : Nat} {x : Option Cell} (h : PotAt T r c) (hq : q ≠ r) : PotAt (T.set q x) r c := by
  obtain ⟨a, b, m, e, k⟩ := h
  exact ⟨a, b, m, by rw [List.getElem?_set_ne hq]; exact e, k⟩
theorem PotAt.new {T : Store} {r c : Nat} {x : Option Cell} (h : PotAt T r c) : PotAt (T ++ [x]) r c := by
  have hl := h.lt
  obtain ⟨a, b, m, e, k⟩ := h
  exact ⟨a, b, m, by rw [List.getElem?_append_left hl]; exact e, k⟩
theorem sApp_ok {a b : Fe} {env : MEnv} {S S2 : Store} {n : Nat} {ds : List PyData} {d : PyData} (ha : a env S = .ok (.ref n) S) (hn : S[n]? = some (some (.lst ds))) (hb : b env S = .ok (.dat d) S2) (hn2 : S2[n]? = some (some (.lst ds))) (hl : ds.length < 16777216) :
    sApp a b env S = .nx env (S2.set n (some (.lst (ds ++ [d])))) := by
  simp only [sApp, ha, andThen_ok, isLst, hn, if_true, hb, hn2]
  rw [if_pos (show ds.length < lineN from hl)]
theorem names_ok {S : Store} {r c many : Nat} (h : PotAt S r c) (hm : many < 26) (hc : c + 10 * many < 2 ^ 24) :
    ∃ (xs : List Str) (S' : Store), m__law_names [.ref r, .dat (.int (many : Int))] S = .ok (.dat (.list (xs.map PyData.str))) S' ∧ xs.length = many ∧ xs.Nodup ∧ (∀ x ∈ xs, IsNm x) ∧ PotAt S' r (c + 10 * many) ∧ Chg r S S' := by
  have hr := h.lt
  obtain ⟨z, hz⟩ : ∃ z : Int, z = (many : Int) := ⟨_, rfl⟩
  rw [← hz]
  have hbn : bnd z = true := by
    unfold bnd
    rw [decide_eq_true_eq]
    omega
  have hrl : (rangeOf 0 z).length = many := by rw [rangeOf_len]; omega
  obtain ⟨env', T, el, xs, w4, w5, w6, rfl, hT, hfr, pT, hnd, hnm, hlen⟩ := loop_ok (g := gN 4) (k := none) (b :=
      (sQ (sG (eMs pJoin (eD (.str "")) (eLc (cF [5] (iR1 (e2 pIdx (eLst (aC (eD (.int 1)) (aC (eD (.int 2)) (aC (eD (.int 3)) (aC (eD (.int 8)) (aN)))))) (eCall m__law_take (aC (eV 0) (aC (eD (.int 4)) (aN)))))) (gN 5) (tYes) (cE (e2 pIdx (eV 2) (eCall m__law_take (aC (eV 0) (aC (eD (.int 26)) (aN))))))))) (gN 6))
  (sQ (sI (tAnd (t2 pNe (eV 3) (eLst (aN))) (t2 pEq (eCall m__law_take (aC (eV 0) (aC (eD (.int 3)) (aN)))) (eD (.int 0)))) (sG (eSl (e2 pAdd (e2 pIdx (eV 3) (e1 pNeg (eD (.int 1)))) (eD (.str "a"))) (oN) (oS (eD (.int 8)))) (gN 6)) (sN))
  (sQ (sF (iR1 (eV 1)) (gN 5) (sI (t2 pIn (eV 6) (eV 3)) (sG (e2 pAdd (e2 pIdx (eV 2) (e2 pMod (e2 pAdd (eMs pIndexS (eV 2) (e2 pIdx (eV 6) (eD (.int 0)))) (eD (.int 1))) (eD (.int 26)))) (eSl (eV 6) (oS (eD (.int 1))) (oN))) (gN 6)) (sN)))
  (sApp (eV 3) (eV 6))))))
    (fun rest env T => ∃ (xs : List Str) (w4 w5 w6 : Option Val), env = [some (.ref r), some (.dat (.int z)), some (.dat (.str Ltr)), some (.ref S.length), w4, w5, w6] ∧ T[S.length]? = some (some (.lst (xs.map PyData.str))) ∧ Fr r S T ∧ PotAt T r (c + 10 * xs.length) ∧ xs.Nodup ∧ (∀ x ∈ xs, IsNm x) ∧ xs.length + rest.length = many)
    (by
      rintro y ys env T ⟨xs, w4, w5, w6, rfl, hT, hfr, pT, hnd, hnm, hlen⟩
      refine ⟨_, rfl, ?_⟩
      simp only [List.length_cons] at hlen
      obtain ⟨x1, T1, e1, n1, p1, ch1⟩ := nmA (v1 := some (.dat (.int z))) (v3 := some (.ref S.length)) (v4 := some y) (v5 := w5) (v6 := w6) pT (by omega)
      obtain ⟨x2, T2, e2, n2, p2, ch2⟩ := nmB (v1 := some (.dat (.int z))) (v4 := some y) (v5 := w5) p1 (by omega) (ch1.get (by omega) hT) (by omega) n1 hnm
      have hT2 := ch2.get (by omega) (ch1.get (by omega) hT)
      obtain ⟨k, t, hx2, hk, ht, htl⟩ : ∃ k t, x2 = cand k t 0 ∧ k < 26 ∧ t.length ≤ 7 ∧ ∀ z ∈ t, 97 ≤ z ∧ z ≤ 122 := by
        have hx := n2
        rw [← nm_eta x2, isNm_nm] at hx
        rcases hl : x2.cps.toList with _ | ⟨a, t⟩
        · rw [hl] at hx
          simp at hx
        · rw [hl] at hx
          simp at hx
          refine ⟨a - 97, t, ?_, by omega, by omega, fun z hz => hx.2.2 z hz⟩
          rw [← nm_eta x2, hl]
          unfold cand
          rw [show 97 + (a - 97 + 0) % 26 = a by omega]
      obtain ⟨x3, w5', e3, n3, h3⟩ := bump_loop (T := T2) (v0 := some (.ref r)) (v1 := some (.dat (.int z))) (v4 := some y) (v5 := w5) hk ht htl hT2 (by omega : xs.length < many) hm (rangeOf 0 z) hrl
      rw [← hx2] at e3
      refine ⟨_, T2.set S.length (some (.lst ((xs ++ [x3]).map PyData.str))), ?_, trivial, xs ++ [x3], some y, w5', some (.dat (.str x3)), rfl, set_get hT2, ((hfr.chg ch1).chg ch2).set (Nat.le_refl _), (p2.mono (by simp; omega)).set (by omega), ?_, ?_, by simp; omega⟩
      · simp only [sQ, sG, gN, List.set, e1, andThen_ok, next_nx, e2, sF, iR1, eV_s, eV_0, bind_ok, hbn, if_true, e3]
        rw [sApp_ok (n := S.length) (ds := xs.map PyData.str) (d := .str x3) (S2 := T2) rfl hT2 rfl hT2 (by simp; omega)]
        simp
      · rw [List.nodup_append]
        refine ⟨hnd, by simp, ?_⟩
        intro a ha b hb
        simp at hb
        rintro rfl
        exact h3 (hb ▸ ha)
      · intro x hx
        rw [List.mem_append] at hx
        rcases hx with hx | hx
        · exact hnm x hx
        · simp at hx
          exact hx ▸ n3)
    (rangeOf 0 z) [some (.ref r), some (.dat (.int z)), some (.dat (.str Ltr)), some (.ref S.length), none, none, none] (S ++ [some (.lst [])])
    ⟨[], none, none, none, rfl, by simp, Fr.refl.new, h.new, by simp, by simp, by simp [hrl]⟩
  simp only [List.length_nil, Nat.add_zero] at hlen
  refine ⟨xs, (T.set S.length none).take S.length, ?_, hlen, hnd, hnm, hlen ▸ ((pT.set (by omega)).cut hr), (hfr.set (Nat.le_refl _)).done⟩
  have hL : Str.ofString "abcdefghijklmnopqrstuvwxyz" = Ltr := rfl
  simp only [m__law_names, mkFn, startEnv, b__law_names, hL, sQ, sG, gN, List.map_cons, List.map_nil, List.length_cons, List.length_nil, List.replicate, List.cons_append, List.nil_append, Nat.reduceAdd, Nat.reduceSub, eD_, andThen_ok, next_nx, List.set, eLstC, aN, bind_ok, dats, ofOpt_some, lineN, Nat.zero_le, if_true, sF, iR1, eV_s, eV_0, hbn]
  rw [el]
  simp only [next_nx, sR, eFrz, eV_s, eV_0, bind_ok, freeze, hT, andThen_ok]
end Ev

set_option linter.all false
set_option maxHeartbeats 1000000
namespace Ev
open PySem
def Rise (xs : List Str) : Prop := xs.Pairwise fun a b => ltS a b = true
theorem ltS_iff {a b : Str} : ltS a b = true ↔ a.cps.toList < b.cps.toList := by unfold ltS; rw [decide_eq_true_iff]
theorem sortS_perm (xs : List Str) : (sortS xs).Perm xs := List.mergeSort_perm _ _
theorem sortS_le (xs : List Str) : (sortS xs).Pairwise fun a b => (!ltS b a) = true := by
  refine List.pairwise_mergeSort (fun a b c h1 h2 => ?_) (fun a b => ?_) xs
  · simp only [Bool.not_eq_true', ← Bool.not_eq_true, ltS_iff] at *
    exact List.le_trans h1 h2
  · simp only [Bool.or_eq_true, Bool.not_eq_true', ← Bool.not_eq_true, ltS_iff]
    exact List.le_total _ _
theorem sortS_rise {xs : List Str} (h : xs.Nodup) : Rise (sortS xs) := by
  have h1 := sortS_le xs
  have h2 : (sortS xs).Nodup := (sortS_perm xs).nodup_iff.2 h
  unfold Rise
  have h3 := h1.and h2
  refine h3.imp fun {a b} hab => ?_
  obtain ⟨hle, hne⟩ := hab
  simp only [Bool.not_eq_true', ← Bool.not_eq_true, ltS_iff] at hle
  rw [ltS_iff]
  apply Classical.byContradiction
  intro hlt
  exact hne (Str.ext' (Array.toList_inj.mp (List.le_antisymm hle hlt)))
theorem pSorted_strs {xs : List Str} (hl : xs.length < 64) : pSorted (.list (xs.map PyData.str)) = some (.list ((sortS xs).map PyData.str)) := by
  cases xs with
  | nil => simp [pSorted, intsD, sortI, sortS]
  | cons x xs =>
    simp only [pSorted, List.map_cons, intsD]
    rw [← List.map_cons (f := PyData.str), strsD_map]
    simp only [hl, if_true]
theorem kinds_ok {S : Store} {r c most : Nat} (h : PotAt S r c) (hm1 : 1 ≤ most) (hc : c + 50 < 2 ^ 24) :
    ∃ (ks : List Str) (S' : Store), m__law_kinds [.ref r, .dat (.int (most : Int))] S = .ok (.dat (.tuple (ks.map PyData.str))) S' ∧ 1 ≤ ks.length ∧ ks.length ≤ 4 ∧ ks.length ≤ most ∧ Rise ks ∧ (∀ x ∈ ks, IsNm x) ∧ PotAt S' r (c + 41) ∧ Chg r S S' := by
  obtain ⟨d, T, et, p1, ch1, d0, d1⟩ := take_ok h (by omega) (n := 6) (by omega) (by omega)
  obtain ⟨j, j1, j2, hidx⟩ : ∃ j : Nat, 1 ≤ j ∧ j ≤ 4 ∧ itemAt [PyData.int 2, .int 3, .int 4, .int 2, .int 3, .int 1] d = some (.int (j : Int)) := by
    have : d = 0 ∨ d = 1 ∨ d = 2 ∨ d = 3 ∨ d = 4 ∨ d = 5 := by omega
    rcases this with rfl | rfl | rfl | rfl | rfl | rfl
    · exact ⟨2, by omega, by omega, rfl⟩
    · exact ⟨3, by omega, by omega, rfl⟩
    · exact ⟨4, by omega, by omega, rfl⟩
    · exact ⟨2, by omega, by omega, rfl⟩
    · exact ⟨3, by omega, by omega, rfl⟩
    · exact ⟨1, by omega, by omega, rfl⟩
  obtain ⟨many, hmany⟩ : ∃ many : Nat, many = min most j := ⟨_, rfl⟩
  obtain ⟨xs, S', en, hl, hnd, hnm, pS, chS⟩ := names_ok (many := many) p1 (by omega) (by omega)
  refine ⟨sortS xs, S', ?_, ?_, ?_, ?_, sortS_rise hnd, fun x hx => hnm x ((sortS_perm xs).mem_iff.1 hx), pS.mono (by omega), ch1.trans chS⟩
  · obtain ⟨z, hz⟩ : ∃ z : Int, z = (most : Int) := ⟨_, rfl⟩
    obtain ⟨y, hy⟩ : ∃ y : Int, y = (j : Int) := ⟨_, rfl⟩
    obtain ⟨u, hu⟩ : ∃ u : Int, u = (many : Int) := ⟨_, rfl⟩
    have hmin : (if y < z then y else z) = u := by split <;> omega
    rw [← hz]
    rw [← hy] at hidx
    rw [← hu] at en
    simp [m__law_kinds, mkFn, startEnv, b__law_kinds, sQ, sG, gN, sR, e1, e2, eLst, eCall, aC, aN, dats, lineN, et, hidx, hmin, en, pSorted_strs (show xs.length < 64 by omega)]
    exact List.take_of_length_le (by rw [chS.1, ch1.1]; omega)
  all_goals rw [(sortS_perm xs).length_eq]; omega
end Ev

set_option linter.all false
set_option maxHeartbeats 1000000
namespace Ev
open PySem
def encP (p : Str × Int) : PyData := .tuple [.str p.1, .int p.2]
def encS (s : List (Str × Int)) : PyData := .tuple (s.map encP)
def encR (st : List (List (Str × Int))) (en : List Int) : PyData := .tuple [.tuple (st.map encS), .tuple (en.map PyData.int)]
/-- a comprehension that keeps some of the kinds -/
theorem some_ok {T : Store} {r c i : Nat} {n : Int} {w : List PyData} {env : MEnv} {ev0 : ∀ U : Store, ∀ v, eV 0 (env.set i (some v)) U = .ok (.ref r) U} {evi : ∀ U : Store, ∀ v, eV i (env.set i (some v)) U = .ok v U} (h : PotAt T r c) (hn : 0 < n) (hn2 : n < 1000000) (hc : c + w.length < 2 ^ 24) :
    ∃ (ys : List PyData) (T' : Store), compGo (gN i) (t2 pGt (eCall m__law_take (aC (eV 0) (aC (eD (.int n)) (aN)))) (eD (.int 0))) (cE (eV i)) none (w.map Val.dat) env T = .ok ys T' ∧ ys.Sublist w ∧ PotAt T' r (c + w.length) ∧ Chg r T T' := by
  obtain ⟨ds, T', e, ys, rest', hds, hrest, hsub, k, hk, pT, chT⟩ := comp_ok (g := gN i) (t := t2 pGt (eCall m__law_take (aC (eV 0) (aC (eD (.int n)) (aN)))) (eD (.int 0))) (b := cE (eV i)) (k := none) (env := env)
    (fun acc rest U => ∃ (ys rest' : List PyData), acc = ys ∧ rest = rest'.map Val.dat ∧ (ys ++ rest').Sublist w ∧ ∃ k : Nat, k + rest'.length = w.length ∧ PotAt U r (c + k) ∧ Chg r T U)
    (by
      rintro acc x xs U ⟨ys, rest', rfl, hrest, hsub, k, hk, pU, chU⟩
      cases rest' with
      | nil => cases hrest
      | cons y rest' =>
        simp only [List.map_cons, List.cons.injEq] at hrest
        obtain ⟨rfl, rfl⟩ := hrest
        simp only [List.length_cons] at hk
        obtain ⟨d, U1, et, p1, ch1, d0, d1⟩ := take_ok pU (by omega) hn hn2
        refine ⟨_, rfl, ?_⟩
        have ht : t2 pGt (eCall m__law_take (aC (eV 0) (aC (eD (.int n)) (aN)))) (eD (.int 0)) (env.set i (some (.dat y))) U = .ok (decide (0 < d)) U1 := by
          simp [t2, eCall, aC, aN, ev0, et]
        by_cases hd : 0 < d
        · refine ⟨true, U1, by rw [ht, decide_eq_true hd], [y], U1, ?_, trivial, acc ++ [y], rest', by simp, rfl, by simpa using hsub, k + 1, by omega, by simpa [Nat.add_assoc] using p1, chU.trans ch1⟩
          simp [cE, evi]
        · refine ⟨false, U1, by rw [ht, decide_eq_false hd], [], U1, rfl, trivial, acc, rest', by simp, rfl, ?_, k + 1, by omega, by simpa [Nat.add_assoc] using p1, chU.trans ch1⟩
          exact ((List.sublist_cons_self y rest').append_left acc).trans hsub)
    (w.map Val.dat) [] T ⟨[], w, rfl, rfl, by simp, 0, by omega, h, Chg.refl⟩
  have hr0 : rest' = [] := by
    cases rest' with
    | nil => rfl
    | cons y r => cases hrest
  subst hr0
  simp only [List.nil_append] at hds
  subst hds
  simp only [List.append_nil] at hsub
  simp only [List.length_nil, Nat.add_zero] at hk
  exact ⟨_, T', e, hsub, hk ▸ pT, chT⟩

theorem sub_map {α β : Type} {f : α → β} {w : List α} {ys : List β} (h : ys.Sublist (w.map f)) : ∃ zs : List α, zs.Sublist w ∧ ys = zs.map f := by
  obtain ⟨l, h1, h2⟩ := List.sublist_map_iff.1 h
  exact ⟨l, h1, h2⟩
/-- a kind, with a state drawn -/
theorem pairs_ok {T : Store} {r c many : Nat} {z : Int} {ws : List Str} {v1 v2 v4 v5 v7 : Option Val} (h : PotAt T r c) (hz : z = (many : Int)) (hm : 0 < many) (hm2 : many < 1000) (hc : c + ws.length < 2 ^ 24) :
    ∃ (ps : List (Str × Int)) (T' : Store), compGo (gN 6) tYes (cE (eTup (aC (eV 6) (aC (eCall m__law_take (aC (eV 0) (aC (eV 3) (aN)))) (aN))))) none ((ws.map PyData.str).map Val.dat) [some (.ref r), v1, v2, some (.dat (.int z)), v4, v5, none, v7] T = .ok (ps.map encP) T' ∧ ps.map Prod.fst = ws ∧ (∀ p ∈ ps, 0 ≤ p.2 ∧ p.2 < z) ∧ PotAt T' r (c + ws.length) ∧ Chg r T T' := by
  obtain ⟨ds, T', e, ps, rest', hds, hrest, hw, hb, pT, chT⟩ := comp_ok (g := gN 6) (t := tYes) (b := cE (eTup (aC (eV 6) (aC (eCall m__law_take (aC (eV 0) (aC (eV 3) (aN)))) (aN))))) (k := none) (env := [some (.ref r), v1, v2, some (.dat (.int z)), v4, v5, none, v7])
    (fun acc rest U => ∃ (ps : List (Str × Int)) (rest' : List Str), acc = ps.map encP ∧ rest = (rest'.map PyData.str).map Val.dat ∧ ps.map Prod.fst ++ rest' = ws ∧ (∀ p ∈ ps, 0 ≤ p.2 ∧ p.2 < z) ∧ PotAt U r (c + ps.length) ∧ Chg r T U)
    (by
      rintro acc x xs U ⟨ps, rest', rfl, hrest, hw, hb, pU, chU⟩
      cases rest' with
      | nil => cases hrest
      | cons y rest' =>
        simp only [List.map_cons, List.cons.injEq] at hrest
        obtain ⟨rfl, rfl⟩ := hrest
        have hl : ps.length + (rest'.length + 1) = ws.length := by rw [← hw]; simp
        obtain ⟨d, U1, et, p1, ch1, d0, d1⟩ := take_ok pU (by omega) (n := z) (by omega) (by omega)
        refine ⟨_, rfl, true, U, rfl, [encP (y, d)], U1, ?_, trivial, ps ++ [(y, d)], rest', by simp, rfl, by simpa using hw, ?_, by simpa [Nat.add_assoc] using p1, chU.trans ch1⟩
        · simp [cE, eTup, eCall, aC, aN, dats, lineN, et, encP]
        · intro p hp
          rw [List.mem_append] at hp
          rcases hp with hp | hp
          · exact hb p hp
          · simp at hp
            subst hp
            exact ⟨d0, d1⟩)
    ((ws.map PyData.str).map Val.dat) [] T ⟨[], ws, rfl, rfl, by simp, by simp, h, Chg.refl⟩
  have hr0 : rest' = [] := by
    cases rest' with
    | nil => rfl
    | cons y r => cases hrest
  subst hr0
  simp only [List.nil_append] at hds
  subst hds
  simp only [List.append_nil] at hw
  exact ⟨ps, T', e, hw, hb, by rw [← hw, List.length_map]; exact pT, chT⟩
/-- a drawn rule -/
structure RuleOk (ks : List Str) (st : List (List (Str × Int))) (en : List Int) : Prop where
  some1 : 1 ≤ st.length
  kinds : ∀ s ∈ st, (s.map Prod.fst).Sublist ks
  there : ∀ s ∈ st, ∀ p ∈ s, 0 ≤ p.2 ∧ p.2 < (st.length : Int)
  ends : ∀ e ∈ en, 0 ≤ e ∧ e < (st.length : Int)
  rise : en.Pairwise (· < ·)
theorem rangeOf_eq {z : Int} : rangeOf 0 z = ((List.range z.toNat).map fun (i : Nat) => PyData.int (i : Int)).map Val.dat := by
  simp [rangeOf]
theorem rule_ok {S : Store} {r c most : Nat} {ks : List Str} (h : PotAt S r c) (hm1 : 1 ≤ most) (hm2 : most < 100) (hk : ks.length ≤ 26) (hc : c + 10000 < 2 ^ 24) :
    ∃ (st : List (List (Str × Int))) (en : List Int) (S' : Store), m__law_rule [.ref r, .dat (.tuple (ks.map PyData.str)), .dat (.int (most : Int))] S = .ok (.dat (encR st en)) S' ∧ RuleOk ks st en ∧ st.length ≤ most ∧ PotAt S' r (c + 10000) ∧ Chg r S S' := by
  have hr := h.lt
  obtain ⟨y, hy⟩ : ∃ y : Int, y = (most : Int) := ⟨_, rfl⟩
  rw [← hy]
  obtain ⟨d, S1, et, p1, ch1, d0, d1⟩ := take_ok h (by omega) (n := y) (by omega) (by omega)
  obtain ⟨many, hmany⟩ : ∃ many : Nat, (many : Int) = 1 + d := ⟨(1 + d).toNat, by omega⟩
  obtain ⟨z, hz⟩ : ∃ z : Int, z = (many : Int) := ⟨_, rfl⟩
  have hzd : 1 + d = z := by omega
  have hbn : bnd z = true := by
    unfold bnd
    rw [decide_eq_true_eq]
    omega
  have hl1 : S1.length = S.length := ch1.1
  have hrl : (rangeOf 0 z).length = many := by rw [rangeOf_len]; omega
  obtain ⟨env', T, el, st, w5, w6, w7, rfl, hT, hfr, pT, hst, hlen⟩ := loop_ok (g := gN 5) (k := none) (b :=
      (sQ (sG (eLc (cF [6] (iA (eV 1)) (gN 6) (t2 pGt (eCall m__law_take (aC (eV 0) (aC (eD (.int 4)) (aN)))) (eD (.int 0))) (cE (eV 6)))) (gN 7))
  (sApp (eV 4) (e1 pTup (eLc (cF [6] (iA (eV 7)) (gN 6) (tYes) (cE (eTup (aC (eV 6) (aC (eCall m__law_take (aC (eV 0) (aC (eV 3) (aN)))) (aN))))))))))) 
    (fun rest env T => ∃ (st : List (List (Str × Int))) (w5 w6 w7 : Option Val), env = [some (.ref r), some (.dat (.tuple (ks.map PyData.str))), some (.dat (.int y)), some (.dat (.int z)), some (.ref S.length), w5, w6, w7] ∧ T[S.length]? = some (some (.lst (st.map encS))) ∧ Fr r S T ∧ PotAt T r (c + 1 + 52 * st.length) ∧
      (∀ s ∈ st, (s.map Prod.fst).Sublist ks ∧ ∀ p ∈ s, 0 ≤ p.2 ∧ p.2 < z) ∧ st.length + rest.length = many)
    (by
      rintro x xs env T ⟨st, w5, w6, w7, rfl, hT, hfr, pT, hst, hlen⟩
      refine ⟨_, rfl, ?_⟩
      simp only [List.length_cons] at hlen
      obtain ⟨ys, T1, e1, s1, p1, ch1⟩ := some_ok (i := 6) (n := 4) (w := ks.map PyData.str) (env := [some (.ref r), some (.dat (.tuple (ks.map PyData.str))), some (.dat (.int y)), some (.dat (.int z)), some (.ref S.length), some x, none, w7]) (ev0 := fun _ _ => rfl) (evi := fun _ _ => rfl) pT (by omega) (by omega) (by simp; omega)
      obtain ⟨ws, hws, rfl⟩ := sub_map s1
      have hwl := hws.length_le
      simp only [List.length_map] at p1
      obtain ⟨ps, T2, e2, h2, b2, p2, ch2⟩ := pairs_ok (z := z) (ws := ws) (v1 := some (.dat (.tuple (ks.map PyData.str)))) (v2 := some (.dat (.int y))) (v4 := some (.ref S.length)) (v5 := some x) (v7 := some (.dat (.list (ws.map PyData.str)))) p1 hz (by omega) (by omega) (by omega)
      have hT1 := ch1.get (by omega) hT
      have hT2 := ch2.get (by omega) hT1
      have hpl : ps.length = ws.length := by rw [← h2, List.length_map]
      refine ⟨_, T2.set S.length (some (.lst ((st ++ [ps]).map encS))), ?_, trivial, st ++ [ps], some x, w6, some (.dat (.list (ws.map PyData.str))), rfl, set_get hT2, ((hfr.chg ch1).chg ch2).set (Nat.le_refl _), (p2.mono (by simp; omega)).set (by omega), ?_, by simp; omega⟩
      · have hA : (eLc (cF [6] (iA (eV 1)) (gN 6) (t2 pGt (eCall m__law_take (aC (eV 0) (aC (eD (.int 4)) (aN)))) (eD (.int 0))) (cE (eV 6)))) [some (.ref r), some (.dat (.tuple (ks.map PyData.str))), some (.dat (.int y)), some (.dat (.int z)), some (.ref S.length), some x, w6, w7] T = .ok (.dat (.list (ws.map PyData.str))) T1 := by
          simp only [eLc, cF, iA, eV_s, eV_0, bind_ok, view_dat, Option.bind_some, itemsOf, ofOpt_some, guardOf, wipeE, List.set, e1, noX_ok, List.length_map]
          rw [if_pos (by unfold lineN; omega)]
        have hB : (Ev.e1 pTup (eLc (cF [6] (iA (eV 7)) (gN 6) (tYes) (cE (eTup (aC (eV 6) (aC (eCall m__law_take (aC (eV 0) (aC (eV 3) (aN)))) (aN)))))))) [some (.ref r), some (.dat (.tuple (ks.map PyData.str))), some (.dat (.int y)), some (.dat (.int z)), some (.ref S.length), some x, w6, some (.dat (.list (ws.map PyData.str)))] T1 = .ok (.dat (encS ps)) T2 := by
          simp only [Ev.e1, eLc, cF, iA, eV_s, eV_0, bind_ok, view_dat, Option.bind_some, itemsOf, ofOpt_some, guardOf, wipeE, List.set, e2, noX_ok, List.length_map]
          rw [if_pos (by unfold lineN; omega)]
          rfl
        simp only [sQ, sG, gN, List.set, hA, andThen_ok, next_nx]
        rw [sApp_ok (n := S.length) (ds := st.map encS) (d := encS ps) (S2 := T2) rfl hT1 hB hT2 (by simp; omega)]
        simp
      · intro s hs
        rw [List.mem_append] at hs
        rcases hs with hs | hs
        · exact hst s hs
        · simp at hs
          subst hs
          exact ⟨h2 ▸ hws, b2⟩)
    (rangeOf 0 z) [some (.ref r), some (.dat (.tuple (ks.map PyData.str))), some (.dat (.int y)), some (.dat (.int z)), some (.ref S.length), none, none, none] (S1 ++ [some (.lst [])])
    ⟨[], none, none, none, rfl, by simp [← hl1], (Fr.refl.chg ch1).new, p1.new, by simp, by simp [hrl]⟩
  simp only [List.length_nil, Nat.add_zero] at hlen
  obtain ⟨es, T3, e3, s3, p3, ch3⟩ := some_ok (i := 5) (n := 3) (w := (List.range z.toNat).map fun (i : Nat) => PyData.int (i : Int)) (env := [some (.ref r), some (.dat (.tuple (ks.map PyData.str))), some (.dat (.int y)), some (.dat (.int z)), some (.ref S.length), none, w6, w7]) (ev0 := fun _ _ => rfl) (evi := fun _ _ => rfl) pT (by omega) (by omega) (by simp; omega)
  obtain ⟨is, his, rfl⟩ := sub_map s3
  have hisl := his.length_le
  simp only [List.length_map, List.length_range] at p3 hisl
  have hfr3 := hfr.chg ch3
  refine ⟨st, is.map (fun (i : Nat) => (i : Int)), T3.take S.length, ?_, ⟨by omega, fun s hs => (hst s hs).1, fun s hs p hp => ?_, ?_, ?_⟩, by omega, (p3.mono (by omega)).cut hr, hfr3.done⟩
  · have hv := view_lst hT
    have hD : (e1 pTup (eLc (cF [5] (iR1 (eV 3)) (gN 5) (t2 pGt (eCall m__law_take (aC (eV 0) (aC (eD (.int 3)) (aN)))) (eD (.int 0))) (cE (eV 5))))) [some (.ref r), some (.dat (.tuple (ks.map PyData.str))), some (.dat (.int y)), some (.dat (.int z)), some (.ref S.length), w5, w6, w7] T = .ok (.dat (.tuple ((is.map (fun (i : Nat) => (i : Int))).map PyData.int))) T3 := by
      simp only [e1, eLc, cF, iR1, eV_s, eV_0, bind_ok, hbn, if_true, wipeE, List.set, rangeOf_eq, e3, noX_ok, List.length_map]
      rw [if_pos (by unfold lineN; omega)]
      simp
    have hC : (e1 pTup (eV 4)) [some (.ref r), some (.dat (.tuple (ks.map PyData.str))), some (.dat (.int y)), some (.dat (.int z)), some (.ref S.length), w5, w6, w7] T = .ok (.dat (.tuple (st.map encS))) T := by
      simp only [e1, eV_s, eV_0, bind_ok, hv, Option.bind_some, pTup_l, ofOpt_some]
    have h0 : (e2 pAdd (eD (.int 1)) (eCall m__law_take (aC (eV 0) (aC (eV 2) (aN))))) [some (.ref r), some (.dat (.tuple (ks.map PyData.str))), some (.dat (.int y)), none, none, none, none, none] S = .ok (.dat (.int z)) S1 := by
      simp only [e2, eCall, aC, aN, eV_s, eV_0, eD_, bind_ok, et, view_dat, Option.bind_some, pAdd_ii, ofOpt_some, hzd]
    simp only [m__law_rule, mkFn, startEnv, b__law_rule, sQ, sG, gN, List.map_cons, List.map_nil, List.length_cons, List.length_nil, List.replicate, List.cons_append, List.nil_append, Nat.reduceAdd, Nat.reduceSub, h0, andThen_ok, next_nx, List.set, eLstC, aN, bind_ok, dats, ofOpt_some, lineN, Nat.zero_le, if_true, sF, iR1, eV_s, eV_0, hbn, hl1]
    rw [el]
    simp only [next_nx, sR, eTup, aC, aN, hC, hD, bind_ok, dats, Option.map_some, ofOpt_some, List.length_cons, List.length_nil, lineN]
    rfl
  · have := (hst s hs).2 p hp
    omega
  · intro e he
    obtain ⟨i, hi, rfl⟩ := List.mem_map.1 he
    have := List.mem_range.1 (his.mem hi)
    omega
  · rw [List.pairwise_map]
    have := List.Pairwise.sublist his (List.pairwise_lt_range)
    exact this.imp fun h => by omega
end Ev

set_option linter.all false
set_option maxHeartbeats 1000000
namespace Ev
open PySem
theorem RuleOk.less {ks : List Str} {st : List (List (Str × Int))} {en fn : List Int} (h : RuleOk ks st en) (hs : fn.Sublist en) : RuleOk ks st fn :=
  ⟨h.some1, h.kinds, h.there, fun e he => h.ends e (hs.mem he), h.rise.sublist hs⟩
theorem poor_ok {S : Store} {r c most : Nat} {ks : List Str} (h : PotAt S r c) (hm1 : 1 ≤ most) (hm2 : most < 100) (hk : ks.length ≤ 26) (hc : c + 10001 < 2 ^ 24) :
    ∃ (st : List (List (Str × Int))) (en : List Int) (S' : Store), m__law_poor_rule [.ref r, .dat (.tuple (ks.map PyData.str)), .dat (.int (most : Int))] S = .ok (.dat (encR st en)) S' ∧ RuleOk ks st en ∧ st.length ≤ most ∧ PotAt S' r (c + 10001) ∧ Chg r S S' := by
  obtain ⟨st, en, S1, e, ok, hl, p1, ch1⟩ := rule_ok (ks := ks) h hm1 hm2 hk (by omega)
  obtain ⟨d, S2, et, p2, ch2, d0, d1⟩ := take_ok p1 (by omega) (n := 4) (by omega) (by omega)
  obtain ⟨y, hy⟩ : ∃ y : Int, y = (most : Int) := ⟨_, rfl⟩
  rw [← hy] at e ⊢
  have c1 : cutL (en.map PyData.int) none (some 1) = (en.take 1).map PyData.int := by
    simp only [cutL, slAt, List.length_map, List.drop_zero, Nat.sub_zero]
    rw [← List.map_take]
    congr 1
    cases en with
    | nil => rfl
    | cons a t => simp
  have c2 : cutL (en.map PyData.int) (some 1) (some 2) = ((en.drop 1).take 1).map PyData.int := by
    simp only [cutL, slAt, List.length_map]
    rw [← List.map_drop, ← List.map_take]
    congr 1
    rcases en with _ | ⟨a, _ | ⟨b, t⟩⟩ <;> simp
  obtain ⟨fn, hfn, hsub⟩ : ∃ fn : List Int, itemAt [PyData.tuple (en.map PyData.int), .tuple ((en.take 1).map PyData.int), .tuple (((en.drop 1).take 1).map PyData.int), .tuple []] d = some (.tuple (fn.map PyData.int)) ∧ fn.Sublist en := by
    have : d = 0 ∨ d = 1 ∨ d = 2 ∨ d = 3 := by omega
    rcases this with rfl | rfl | rfl | rfl
    · exact ⟨en, rfl, List.Sublist.refl _⟩
    · exact ⟨en.take 1, rfl, List.take_sublist _ _⟩
    · exact ⟨(en.drop 1).take 1, rfl, (List.take_sublist _ _).trans (List.drop_sublist _ _)⟩
    · exact ⟨[], rfl, List.nil_sublist _⟩
  refine ⟨st, fn, S2, ?_, ok.less hsub, hl, p2, ch1.trans ch2⟩
  have hl2 : S2.length = S.length := by rw [ch2.1, ch1.1]
  generalize (en.take 1).map PyData.int = L1 at c1 hfn
  generalize ((en.drop 1).take 1).map PyData.int = L2 at c2 hfn
  have hE : (eTup (aC (eV 3) (aC (e2 pIdx (eLst (aC (eV 4) (aC (eSl (eV 4) (oN) (oS (eD (.int 1)))) (aC (eSl (eV 4) (oS (eD (.int 1))) (oS (eD (.int 2)))) (aC (eTup (aN)) (aN)))))) (eCall m__law_take (aC (eV 0) (aC (eD (.int 4)) (aN))))) (aN)))) [some (.ref r), some (.dat (.tuple (ks.map PyData.str))), some (.dat (.int y)), some (.dat (.tuple (st.map encS))), some (.dat (.tuple (en.map PyData.int)))] S1 = .ok (.dat (encR st fn)) S2 := by
    simp [eTup, e2, eLst, eSl, oN, oS, eCall, aC, aN, dats, lineN, et, c1, c2, hfn, encR]
  simp only [m__law_poor_rule, mkFn, startEnv, b__law_poor_rule, sQ, sG, gT, gN, putAll, sR, eCall, aC, aN, e, encR, List.map_cons, List.map_nil, List.length_cons, List.length_nil, List.replicate, List.cons_append, List.nil_append, Nat.reduceAdd, Nat.reduceSub, eV_s, eV_0, bind_ok, andThen_ok, next_nx, List.set, Option.bind_some]
  rw [hE]
  simp only [andThen_ok]
  rw [← hl2, take_self]
  rfl
end Ev

set_option linter.all false
set_option maxHeartbeats 1000000
namespace Ev
open PySem
theorem pIn_strsT {x : Str} {xs : List Str} : pIn (.str x) (.tuple (xs.map PyData.str)) = some (decide (x ∈ xs)) := by
  have h : (xs.map PyData.str).all flatD = true := by simp [flatD]
  simp only [pIn, h, flatD, and_self, if_true]
  congr 1
  rw [Bool.eq_iff_iff, List.any_eq_true, decide_eq_true_iff]
  constructor
  · rintro ⟨z, hz, e⟩
    obtain ⟨y, hy, rfl⟩ := List.mem_map.1 hz
    have : y = x := by simpa [PyData.eqv] using e
    exact this ▸ hy
  · intro hx
    exact ⟨.str x, List.mem_map.2 ⟨x, hx, rfl⟩, by simp [PyData.eqv]⟩
theorem pNotIn_strsT {x : Str} {xs : List Str} : pNotIn (.str x) (.tuple (xs.map PyData.str)) = some (!decide (x ∈ xs)) := by rw [pNotIn, pIn_strsT]; rfl
theorem pNotIn_strs {x : Str} {xs : List Str} : pNotIn (.str x) (.list (xs.map PyData.str)) = some (!decide (x ∈ xs)) := by rw [pNotIn, pIn_strs]; rfl
theorem pigeon : ∀ (qs ks : List Str), qs.Nodup → (∀ x ∈ qs, x ∈ ks) → qs.length ≤ ks.length
  | [], _, _, _ => Nat.zero_le _
  | q :: qs, ks, hn, hs => by
    rw [List.nodup_cons] at hn
    have h1 := hs q (by simp)
    have := pigeon qs (ks.erase q) hn.2 fun x hx => (List.mem_erase_of_ne (by rintro rfl; exact hn.1 hx)).2 (hs x (by simp [hx]))
    rw [List.length_erase_of_mem h1] at this
    have : 0 < ks.length := List.length_pos_of_mem h1
    simp
    omega
def qs : List Str := (List.range 8).map fun i => nm (List.replicate (i + 1) 113)
theorem qs_nodup : qs.Nodup := by decide +kernel
theorem qs_nm : ∀ x ∈ qs, IsNm x := by
  intro x hx
  obtain ⟨i, hi, rfl⟩ := List.mem_map.1 hx
  have := List.mem_range.1 hi
  rw [isNm_nm]
  refine ⟨by simp, by simp; omega, fun c hc => ?_⟩
  have := (List.mem_replicate.1 hc).2
  omega
theorem q_mul : ∀ i : Nat, i < 8 → Txt.mul "q" (1 + (i : Int)) = nm (List.replicate (i + 1) 113) := by decide +kernel
theorem range19 : rangeOf 1 9 = (List.range 8).map fun (i : Nat) => Val.dat (.int (1 + (i : Int))) := rfl
def fq : Val → List PyData
  | .dat (.int n) => [.str (nm (List.replicate n.toNat 113))]
  | _ => []
theorem strange_ok {S : Store} {ks : List Str} {v0 v2 v3 v4 v5 v6 v7 v8 v9 v10 v11 : Option Val} (hk : ks.length ≤ 7) :
    ∃ q0, (e2 pIdx (eLc (cF [3] (iA (eLc (cF [4] (iR2 (eD (.int 1)) (eD (.int 9))) (gN 4) (tYes) (cE (e2 pRepS (eD (.str "q")) (eV 4)))))) (gN 3) (t2 pNotIn (eV 3) (eV 1)) (cE (eV 3)))) (eD (.int 0))) [v0, some (.dat (.tuple (ks.map PyData.str))), v2, v3, v4, v5, v6, v7, v8, v9, v10, v11] S = .ok (.dat (.str q0)) S ∧ IsNm q0 ∧ q0 ∉ ks := by
  have i1 : compGo (gN 4) tYes (cE (e2 pRepS (eD (.str "q")) (eV 4))) none (rangeOf 1 9) [v0, some (.dat (.tuple (ks.map PyData.str))), v2, v3, none, v5, v6, v7, v8, v9, v10, v11] S = .ok (qs.map PyData.str) S := by
    rw [comp_pure (k := none) fq trivial]
    · congr 1
    · intro x hx
      rw [range19] at hx
      obtain ⟨i, hi, rfl⟩ := List.mem_map.1 hx
      have hi' := List.mem_range.1 hi
      refine ⟨_, rfl, true, rfl, ?_⟩
      have : pRepS (.str "q") (.int (1 + (i : Int))) = some (.str (nm (List.replicate (1 + (i : Int)).toNat 113))) := by
        simp only [pRepS, q_mul i hi']
        rw [if_pos ⟨by omega, by omega, by decide⟩]
        rw [show (1 + (i : Int)).toNat = i + 1 by omega]
      obtain ⟨z, hz⟩ : ∃ z : Int, z = 1 + (i : Int) := ⟨_, rfl⟩
      rw [← hz] at this ⊢
      simp [cE, e2, gN, this, fq]
  have i2 : compGo (gN 3) (t2 pNotIn (eV 3) (eV 1)) (cE (eV 3)) none ((qs.map PyData.str).map Val.dat) [v0, some (.dat (.tuple (ks.map PyData.str))), v2, none, v4, v5, v6, v7, v8, v9, v10, v11] S = .ok ((qs.filter fun x => !decide (x ∈ ks)).map PyData.str) S := by
    have key : ∀ l : List Str, compGo (gN 3) (t2 pNotIn (eV 3) (eV 1)) (cE (eV 3)) none ((l.map PyData.str).map Val.dat) [v0, some (.dat (.tuple (ks.map PyData.str))), v2, none, v4, v5, v6, v7, v8, v9, v10, v11] S = .ok ((l.filter fun x => !decide (x ∈ ks)).map PyData.str) S := by
      intro l
      induction l with
      | nil => rfl
      | cons x l ih =>
        by_cases hx : x ∈ ks <;> simp [-List.map_map, compGo, gN, t2, pNotIn_strsT, hx, cE, ih]
    exact key qs
  have hne : (qs.filter fun x => !decide (x ∈ ks)) ≠ [] := by
    intro hf
    rw [List.filter_eq_nil_iff] at hf
    have := pigeon qs ks qs_nodup fun x hx => by simpa using hf x hx
    simp [qs] at this
    omega
  rcases hf : (qs.filter fun x => !decide (x ∈ ks)) with _ | ⟨q0, rest⟩
  · exact absurd hf hne
  · have hm : q0 ∈ qs.filter fun x => !decide (x ∈ ks) := by rw [hf]; simp
    rw [List.mem_filter] at hm
    refine ⟨q0, ?_, qs_nm q0 hm.1, by simpa using hm.2⟩
    rw [hf] at i2
    have hlen : (q0 :: rest).length ≤ 8 := by
      rw [← hf]
      exact Nat.le_trans (List.length_filter_le _ _) (by simp [qs])
    have hb : bnd 1 = true ∧ bnd 9 = true := by decide
    have hq8 : (qs.map PyData.str).length ≤ 16777216 := by simp [qs]
    have hr8 : ((q0 :: rest).map PyData.str).length ≤ 16777216 := by rw [List.length_map]; omega
    simp only [e2, eLc, cF, iA, iR2, eD_, bind_ok, hb, and_self, if_true, wipeE, List.set, i1, noX_ok, lineN, hq8, view_dat, Option.bind_some, itemsOf, ofOpt_some, guardOf, i2, hr8, pIdx_l]
    simp
end Ev

set_option linter.all false
set_option maxHeartbeats 1000000
namespace Ev
open PySem
noncomputable def mC1 : Fs := sI (t2 pLt (eV 8) (eD (.int 3))) (sG (e1C pLst (eV 1)) (gN 10)) (sN)
noncomputable def mC2 : Fs := sI (t2 pEq (eV 8) (eD (.int 3))) (sG (eLstC (aC (e2 pIdx (eV 1) (eCall m__law_take (aC (eV 0) (aC (e1 pLen (eV 1)) (aN))))) (aN))) (gN 10)) (sN)
noncomputable def mC3 : Fs := sI (tAnd (t2 pEq (eV 8) (eD (.int 4))) (t2 pEq (eCall m__law_take (aC (eV 0) (aC (eD (.int 3)) (aN)))) (eD (.int 0)))) (sG (eLstC (aN)) (gN 10)) (sN)
noncomputable def mC4 : Fs := sI (t2 pEq (eV 8) (eD (.int 5))) (sApp (eV 10) (eV 5)) (sN)
noncomputable def mC5 : Fs := sI (tAnd (t2 pEq (eV 8) (eD (.int 6))) (t2 pEq (eCall m__law_take (aC (eV 0) (aC (eD (.int 3)) (aN)))) (eD (.int 0)))) (sG (e2C pAdd (eV 10) (eLc (cF [11] (iA (eD (.str "abcdefghijklmnopqrstuvwxyz"))) (gN 11) (t2 pNotIn (eV 11) (eV 10)) (cE (eV 11))))) (gN 10)) (sN)
noncomputable def mD : Fs := sApp (eV 6) (e1 pTup (e1 pSorted (eV 10)))
noncomputable def mB1 : Fs := sG (eCall m__law_take (aC (eV 0) (aC (eD (.int 8)) (aN)))) (gN 8)
noncomputable def mB2 : Fs := sG (eLcC (cF [9] (iA (eV 1)) (gN 9) (t2 pGt (eCall m__law_take (aC (eV 0) (aC (eD (.int 3)) (aN)))) (eD (.int 0))) (cE (eV 9)))) (gN 10)
noncomputable def mBody : Fs := sQ mB1 (sQ mB2 (sQ mC1 (sQ mC2 (sQ mC3 (sQ mC4 (sQ mC5 mD))))))
section
variable {v0 v1 v2 v3 v4 v5 v6 v7 v9 v10 v11 : Option Val} {T : Store} {d j : Int} {X : Fs} {Y : Ft}
theorem skip_lt (h : ¬ d < j) : sI (t2 pLt (eV 8) (eD (.int j))) X sN [v0, v1, v2, v3, v4, v5, v6, v7, some (.dat (.int d)), v9, v10, v11] T = .nx [v0, v1, v2, v3, v4, v5, v6, v7, some (.dat (.int d)), v9, v10, v11] T := by
  simp [sI, t2, h, sN]
theorem skip_eq (h : d ≠ j) : sI (t2 pEq (eV 8) (eD (.int j))) X sN [v0, v1, v2, v3, v4, v5, v6, v7, some (.dat (.int d)), v9, v10, v11] T = .nx [v0, v1, v2, v3, v4, v5, v6, v7, some (.dat (.int d)), v9, v10, v11] T := by
  simp [sI, t2, h, sN]
theorem skip_and (h : d ≠ j) : sI (tAnd (t2 pEq (eV 8) (eD (.int j))) Y) X sN [v0, v1, v2, v3, v4, v5, v6, v7, some (.dat (.int d)), v9, v10, v11] T = .nx [v0, v1, v2, v3, v4, v5, v6, v7, some (.dat (.int d)), v9, v10, v11] T := by
  simp [sI, tAnd, t2, h, sN]
end
def ltrs : List Str := Ltr.cps.toList.map sg
theorem ltrs_nodup : ltrs.Nodup := by decide +kernel
theorem ltrs_nm : ∀ x ∈ ltrs, IsNm x := by
  intro x hx
  obtain ⟨c, hc, rfl⟩ := List.mem_map.1 hx
  have h : ∀ c ∈ Ltr.cps.toList, 97 ≤ c ∧ c ≤ 122 := by decide +kernel
  refine ⟨by simp [sg, Str.length], by simp [sg, Str.length], fun z hz => ?_⟩
  simp [sg] at hz
  subst hz
  exact h z hc
theorem ltrs_len : ltrs.length = 26 := by decide +kernel
theorem ltrs_items : itemsOf (.str Ltr) = some (ltrs.map PyData.str) := by
  simp [itemsOf, ltrs, sg]
/-- a mask in the making -/
structure MaskAt (T : Store) (m : Nat) (ws : List Str) : Prop where
  cell : T[m]? = some (some (.lst (ws.map PyData.str)))
  nodup : ws.Nodup
  names : ∀ x ∈ ws, IsNm x
  few : ws.length ≤ 40
/-- what stands at q stands there still -/
def Kp (r q : Nat) (T U : Store) : Prop := T.length ≤ U.length ∧ ∀ i, i < q → i ≠ r → U[i]? = T[i]?
theorem masks_ok {T : Store} {r c q m : Nat} {d dep : Int} {ks ws : List Str} {q0 : Str} {fs : List PyData} {v3 v4 v7 v9 v11 : Option Val} (h : PotAt T r c) (hc : c + 1 < 2 ^ 24) (hkr : Rise ks) (hkn : ∀ x ∈ ks, IsNm x) (hk1 : 1 ≤ ks.length) (hk2 : ks.length ≤ 7) (d0 : 0 ≤ d) (d8 : d < 8) (hq0 : IsNm q0) (hq0k : q0 ∉ ks)
    (hmk : MaskAt T m ws) (hws : ws.Sublist ks) (hq : T[q]? = some (some (.lst fs))) (hqm : q < m) (hrq : r < q) :
    ∃ m' ws' T', (∀ Z : Fs, sQ mC1 (sQ mC2 (sQ mC3 (sQ mC4 (sQ mC5 Z)))) [some (.ref r), some (.dat (.tuple (ks.map PyData.str))), some (.dat (.int dep)), v3, v4, some (.dat (.str q0)), some (.ref q), v7, some (.dat (.int d)), v9, some (.ref m), v11] T
      = Z [some (.ref r), some (.dat (.tuple (ks.map PyData.str))), some (.dat (.int dep)), v3, v4, some (.dat (.str q0)), some (.ref q), v7, some (.dat (.int d)), v9, some (.ref m'), v11] T') ∧ MaskAt T' m' ws' ∧ PotAt T' r (c + 1) ∧ Fr r (T.take (q + 1)) T' := by
  have hml := (List.getElem?_eq_some_iff.1 hmk.cell).1
  have hfr : Fr r (T.take (q + 1)) T := ⟨by simp; omega, fun i hi _ => by rw [List.getElem?_take_of_lt (by simp at hi; omega)]⟩
  have hknd : ks.Nodup := hkr.imp fun {a b} hab => by
    rintro rfl
    rw [ltS_iff] at hab
    exact List.lt_irrefl _ hab
  have h3 : d < 3 ∨ d = 3 ∨ d = 4 ∨ d = 5 ∨ d = 6 ∨ d = 7 := by omega
  rcases h3 with hd | rfl | rfl | rfl | rfl | rfl
  · refine ⟨T.length, ks, T ++ [some (.lst (ks.map PyData.str))], fun Z => ?_, ⟨by simp, hknd, hkn, by omega⟩, h.new.mono (by omega), hfr.new⟩
    have e1 : mC1 [some (.ref r), some (.dat (.tuple (ks.map PyData.str))), some (.dat (.int dep)), v3, v4, some (.dat (.str q0)), some (.ref q), v7, some (.dat (.int d)), v9, some (.ref m), v11] T = .nx [some (.ref r), some (.dat (.tuple (ks.map PyData.str))), some (.dat (.int dep)), v3, v4, some (.dat (.str q0)), some (.ref q), v7, some (.dat (.int d)), v9, some (.ref T.length), v11] (T ++ [some (.lst (ks.map PyData.str))]) := by
      simp [mC1, sI, t2, hd, sG, e1C, newC, gN]
    simp only [sQ, e1, next_nx, mC2, mC3, mC4, mC5, skip_eq (show d ≠ 3 by omega), skip_and (show d ≠ 4 by omega), skip_eq (show d ≠ 5 by omega), skip_and (show d ≠ 6 by omega)]
  · obtain ⟨e, U, et, p1, ch1, e0, e9⟩ := take_ok h (by omega) (n := (ks.length : Int)) (by omega) (by omega)
    obtain ⟨k, rfl⟩ := Int.eq_ofNat_of_zero_le e0
    have hkl : k < ks.length := by omega
    have hidx : itemAt (ks.map PyData.str) (k : Int) = some (.str ks[k]) := by
      rw [itemAt_nat (by simpa using hkl)]
      simp [hkl]
    refine ⟨U.length, [ks[k]], U ++ [some (.lst [.str ks[k]])], fun Z => ?_, ⟨by simp, by simp, by simpa using hkn _ (List.getElem_mem hkl), by simp⟩, p1.new, (hfr.chg ch1).new⟩
    have e2 : mC2 [some (.ref r), some (.dat (.tuple (ks.map PyData.str))), some (.dat (.int dep)), v3, v4, some (.dat (.str q0)), some (.ref q), v7, some (.dat (.int 3)), v9, some (.ref m), v11] T = .nx [some (.ref r), some (.dat (.tuple (ks.map PyData.str))), some (.dat (.int dep)), v3, v4, some (.dat (.str q0)), some (.ref q), v7, some (.dat (.int 3)), v9, some (.ref U.length), v11] (U ++ [some (.lst [.str ks[k]])]) := by
      have hpl : pLen (.tuple (ks.map PyData.str)) = some (.int (ks.length : Int)) := by simp
      generalize (ks.length : Int) = zl at et hpl
      generalize hzk : (k : Int) = zk at et hidx
      simp [-pLen_t, mC2, sI, t2, sG, eLstC, aC, aN, Ev.e2, Ev.e1, eCall, hpl, et, hidx, dats, lineN, gN]
    simp only [sQ, mC1, next_nx, e2, mC3, mC4, mC5, skip_lt (show ¬ (3 : Int) < 3 by omega), skip_and (show (3 : Int) ≠ 4 by omega), skip_eq (show (3 : Int) ≠ 5 by omega), skip_and (show (3 : Int) ≠ 6 by omega)]
  · obtain ⟨e, U, et, p1, ch1, e0, e9⟩ := take_ok h (by omega) (n := 3) (by omega) (by omega)
    by_cases he : e = 0
    · refine ⟨U.length, [], U ++ [some (.lst [])], fun Z => ?_, ⟨by simp, by simp, by simp, by simp⟩, p1.new, (hfr.chg ch1).new⟩
      have e3 : mC3 [some (.ref r), some (.dat (.tuple (ks.map PyData.str))), some (.dat (.int dep)), v3, v4, some (.dat (.str q0)), some (.ref q), v7, some (.dat (.int 4)), v9, some (.ref m), v11] T = .nx [some (.ref r), some (.dat (.tuple (ks.map PyData.str))), some (.dat (.int dep)), v3, v4, some (.dat (.str q0)), some (.ref q), v7, some (.dat (.int 4)), v9, some (.ref U.length), v11] (U ++ [some (.lst [])]) := by
        simp [mC3, sI, tAnd, t2, eCall, aC, aN, et, he, sG, eLstC, dats, lineN, gN]
      simp only [sQ, mC1, mC2, next_nx, e3, mC4, mC5, skip_lt (show ¬ (4 : Int) < 3 by omega), skip_eq (show (4 : Int) ≠ 3 by omega), skip_eq (show (4 : Int) ≠ 5 by omega), skip_and (show (4 : Int) ≠ 6 by omega)]
    · refine ⟨m, ws, U, fun Z => ?_, ⟨ch1.get (by omega) hmk.cell, hmk.nodup, hmk.names, hmk.few⟩, p1, hfr.chg ch1⟩
      have e3 : mC3 [some (.ref r), some (.dat (.tuple (ks.map PyData.str))), some (.dat (.int dep)), v3, v4, some (.dat (.str q0)), some (.ref q), v7, some (.dat (.int 4)), v9, some (.ref m), v11] T = .nx [some (.ref r), some (.dat (.tuple (ks.map PyData.str))), some (.dat (.int dep)), v3, v4, some (.dat (.str q0)), some (.ref q), v7, some (.dat (.int 4)), v9, some (.ref m), v11] U := by
        simp [mC3, sI, tAnd, t2, eCall, aC, aN, et, he, sN]
      simp only [sQ, mC1, mC2, next_nx, e3, mC4, mC5, skip_lt (show ¬ (4 : Int) < 3 by omega), skip_eq (show (4 : Int) ≠ 3 by omega), skip_eq (show (4 : Int) ≠ 5 by omega), skip_and (show (4 : Int) ≠ 6 by omega)]
  · have hq0w : q0 ∉ ws := fun hx => hq0k (hws.mem hx)
    refine ⟨m, ws ++ [q0], T.set m (some (.lst ((ws ++ [q0]).map PyData.str))), fun Z => ?_, ⟨set_get hmk.cell, ?_, ?_, by have := hws.length_le; simp; omega⟩, (h.set (by omega)).mono (by omega), hfr.set (by simp; omega)⟩
    · have e4 : mC4 [some (.ref r), some (.dat (.tuple (ks.map PyData.str))), some (.dat (.int dep)), v3, v4, some (.dat (.str q0)), some (.ref q), v7, some (.dat (.int 5)), v9, some (.ref m), v11] T = .nx [some (.ref r), some (.dat (.tuple (ks.map PyData.str))), some (.dat (.int dep)), v3, v4, some (.dat (.str q0)), some (.ref q), v7, some (.dat (.int 5)), v9, some (.ref m), v11] (T.set m (some (.lst ((ws ++ [q0]).map PyData.str)))) := by
        have hs := sApp_ok (a := eV 10) (b := eV 5) (env := [some (.ref r), some (.dat (.tuple (ks.map PyData.str))), some (.dat (.int dep)), v3, v4, some (.dat (.str q0)), some (.ref q), v7, some (.dat (.int 5)), v9, some (.ref m), v11]) (S := T) (S2 := T) (n := m) (ds := ws.map PyData.str) (d := .str q0) rfl hmk.cell rfl hmk.cell (by have := hmk.few; simp; omega)
        simp [mC4, sI, t2, hs]
      simp only [sQ, mC1, mC2, mC3, next_nx, e4, mC5, skip_lt (show ¬ (5 : Int) < 3 by omega), skip_eq (show (5 : Int) ≠ 3 by omega), skip_and (show (5 : Int) ≠ 4 by omega), skip_and (show (5 : Int) ≠ 6 by omega)]
    · rw [List.nodup_append]
      refine ⟨hmk.nodup, by simp, fun a ha b hb => ?_⟩
      simp at hb
      rintro rfl
      exact hq0w (hb ▸ ha)
    · intro x hx
      rw [List.mem_append] at hx
      rcases hx with hx | hx
      · exact hmk.names x hx
      · simp at hx
        exact hx ▸ hq0
  · obtain ⟨e, U, et, p1, ch1, e0, e9⟩ := take_ok h (by omega) (n := 3) (by omega) (by omega)
    have hU := ch1.get (show m ≠ r by omega) hmk.cell
    have hv := view_lst hU
    by_cases he : e = 0
    · obtain ⟨fl, hfl⟩ : ∃ fl, fl = ltrs.filter fun x => !decide (x ∈ ws) := ⟨_, rfl⟩
      have hcg : compGo (gN 11) (t2 pNotIn (eV 11) (eV 10)) (cE (eV 11)) none ((ltrs.map PyData.str).map Val.dat) [some (.ref r), some (.dat (.tuple (ks.map PyData.str))), some (.dat (.int dep)), v3, v4, some (.dat (.str q0)), some (.ref q), v7, some (.dat (.int 6)), v9, some (.ref m), none] U = .ok (fl.map PyData.str) U := by
        have key : ∀ l : List Str, compGo (gN 11) (t2 pNotIn (eV 11) (eV 10)) (cE (eV 11)) none ((l.map PyData.str).map Val.dat) [some (.ref r), some (.dat (.tuple (ks.map PyData.str))), some (.dat (.int dep)), v3, v4, some (.dat (.str q0)), some (.ref q), v7, some (.dat (.int 6)), v9, some (.ref m), none] U = .ok ((l.filter fun x => !decide (x ∈ ws)).map PyData.str) U := by
          intro l
          induction l with
          | nil => rfl
          | cons x l ih =>
            by_cases hx : x ∈ ws <;> simp [-List.map_map, compGo, gN, t2, hv, pNotIn_strs, hx, cE, ih]
        rw [hfl]
        exact key ltrs
      have hfll : fl.length ≤ 26 := by
        rw [hfl, ← ltrs_len]
        exact List.length_filter_le _ _
      have hwl := hws.length_le
      refine ⟨U.length, ws ++ fl, U ++ [some (.lst ((ws ++ fl).map PyData.str))], fun Z => ?_, ⟨by simp, ?_, ?_, by simp; omega⟩, p1.new, (hfr.chg ch1).new⟩
      · have e5 : mC5 [some (.ref r), some (.dat (.tuple (ks.map PyData.str))), some (.dat (.int dep)), v3, v4, some (.dat (.str q0)), some (.ref q), v7, some (.dat (.int 6)), v9, some (.ref m), v11] T = .nx [some (.ref r), some (.dat (.tuple (ks.map PyData.str))), some (.dat (.int dep)), v3, v4, some (.dat (.str q0)), some (.ref q), v7, some (.dat (.int 6)), v9, some (.ref U.length), v11] (U ++ [some (.lst ((ws ++ fl).map PyData.str))]) := by
          have hL : Str.ofString "abcdefghijklmnopqrstuvwxyz" = Ltr := rfl
          have hadd : (ws.map PyData.str).length + (fl.map PyData.str).length ≤ 16777216 := by simp; omega
          have hlen : (fl.map PyData.str).length ≤ 16777216 := by simp; omega
          have hE : (e2C pAdd (eV 10) (eLc (cF [11] (iA (eD (.str "abcdefghijklmnopqrstuvwxyz"))) (gN 11) (t2 pNotIn (eV 11) (eV 10)) (cE (eV 11))))) [some (.ref r), some (.dat (.tuple (ks.map PyData.str))), some (.dat (.int dep)), v3, v4, some (.dat (.str q0)), some (.ref q), v7, some (.dat (.int 6)), v9, some (.ref m), v11] U = .ok (.ref U.length) (U ++ [some (.lst ((ws ++ fl).map PyData.str))]) := by
            simp only [e2C, eV_s, eV_0, bind_ok, eLc, cF, iA, eD_, hL, view_dat, Option.bind_some, ltrs_items, ofOpt_some, guardOf, wipeE, List.set, hcg, noX_ok, lineN, hlen, if_true, hv, pAdd_ll, hadd, newC, List.map_append]
          have hT : (tAnd (t2 pEq (eV 8) (eD (.int 6))) (t2 pEq (eCall m__law_take (aC (eV 0) (aC (eD (.int 3)) (aN)))) (eD (.int 0)))) [some (.ref r), some (.dat (.tuple (ks.map PyData.str))), some (.dat (.int dep)), v3, v4, some (.dat (.str q0)), some (.ref q), v7, some (.dat (.int 6)), v9, some (.ref m), v11] T = .ok true U := by
            simp [tAnd, t2, eCall, aC, aN, et, he]
          simp only [mC5, sI, hT, andTest_ok, if_true, sG, hE, andThen_ok, gN, List.set]
        simp only [sQ, mC1, mC2, mC3, mC4, next_nx, e5, skip_lt (show ¬ (6 : Int) < 3 by omega), skip_eq (show (6 : Int) ≠ 3 by omega), skip_and (show (6 : Int) ≠ 4 by omega), skip_eq (show (6 : Int) ≠ 5 by omega)]
      · rw [List.nodup_append]
        refine ⟨hmk.nodup, hfl ▸ List.Nodup.sublist List.filter_sublist ltrs_nodup, fun a ha b hb => ?_⟩
        rintro rfl
        rw [hfl, List.mem_filter] at hb
        simp at hb
        exact hb.2 ha
      · intro x hx
        rw [List.mem_append] at hx
        rcases hx with hx | hx
        · exact hmk.names x hx
        · rw [hfl, List.mem_filter] at hx
          exact ltrs_nm x hx.1
    · refine ⟨m, ws, U, fun Z => ?_, ⟨hU, hmk.nodup, hmk.names, hmk.few⟩, p1, hfr.chg ch1⟩
      have e5 : mC5 [some (.ref r), some (.dat (.tuple (ks.map PyData.str))), some (.dat (.int dep)), v3, v4, some (.dat (.str q0)), some (.ref q), v7, some (.dat (.int 6)), v9, some (.ref m), v11] T = .nx [some (.ref r), some (.dat (.tuple (ks.map PyData.str))), some (.dat (.int dep)), v3, v4, some (.dat (.str q0)), some (.ref q), v7, some (.dat (.int 6)), v9, some (.ref m), v11] U := by
        simp [mC5, sI, tAnd, t2, eCall, aC, aN, et, he, sN]
      simp only [sQ, mC1, mC2, mC3, mC4, next_nx, e5, skip_lt (show ¬ (6 : Int) < 3 by omega), skip_eq (show (6 : Int) ≠ 3 by omega), skip_and (show (6 : Int) ≠ 4 by omega), skip_eq (show (6 : Int) ≠ 5 by omega)]
  · refine ⟨m, ws, T, fun Z => ?_, hmk, h.mono (by omega), hfr⟩
    simp only [sQ, mC1, mC2, mC3, mC4, mC5, next_nx, skip_lt (show ¬ (7 : Int) < 3 by omega), skip_eq (show (7 : Int) ≠ 3 by omega), skip_and (show (7 : Int) ≠ 4 by omega), skip_eq (show (7 : Int) ≠ 5 by omega), skip_and (show (7 : Int) ≠ 6 by omega)]
theorem mBody_ok {T : Store} {r c q : Nat} {dep : Int} {ks : List Str} {q0 : Str} {fs : List PyData} {v3 v4 v7 v8 v9 v10 v11 : Option Val} (h : PotAt T r c) (hc : c + 40 < 2 ^ 24) (hkr : Rise ks) (hkn : ∀ x ∈ ks, IsNm x) (hk1 : 1 ≤ ks.length) (hk2 : ks.length ≤ 7) (hq0 : IsNm q0) (hq0k : q0 ∉ ks)
    (hq : T[q]? = some (some (.lst fs))) (hrq : r < q) (hfs : fs.length < 1000) :
    ∃ (ms : List Str) (T' : Store) (v8' v10' : Option Val), mBody [some (.ref r), some (.dat (.tuple (ks.map PyData.str))), some (.dat (.int dep)), v3, v4, some (.dat (.str q0)), some (.ref q), v7, v8, v9, v10, v11] T
      = .nx [some (.ref r), some (.dat (.tuple (ks.map PyData.str))), some (.dat (.int dep)), v3, v4, some (.dat (.str q0)), some (.ref q), v7, v8', v9, v10', v11] T' ∧ Rise ms ∧ (∀ x ∈ ms, IsNm x) ∧ ms.length ≤ 40 ∧ T'[q]? = some (some (.lst (fs ++ [.tuple (ms.map PyData.str)]))) ∧ PotAt T' r (c + 40) ∧ Fr r (T.take q) T' := by
  have hql := (List.getElem?_eq_some_iff.1 hq).1
  obtain ⟨d, T1, et, p1, ch1, d0, d8⟩ := take_ok h (by omega) (n := 8) (by omega) (by omega)
  obtain ⟨ys, T2, e2, s2, p2, ch2⟩ := some_ok (i := 9) (n := 3) (w := ks.map PyData.str) (env := [some (.ref r), some (.dat (.tuple (ks.map PyData.str))), some (.dat (.int dep)), v3, v4, some (.dat (.str q0)), some (.ref q), v7, some (.dat (.int d)), none, v10, v11]) (ev0 := fun _ _ => rfl) (evi := fun _ _ => rfl) p1 (by omega) (by omega) (by simp; omega)
  obtain ⟨ws, hws, rfl⟩ := sub_map s2
  have hwl := hws.length_le
  simp only [List.length_map] at p2
  have hq2 : (T2 ++ [some (.lst (ws.map PyData.str))])[q]? = some (some (.lst fs)) := by
    rw [List.getElem?_append_left (by rw [ch2.1, ch1.1]; exact hql)]
    exact ch2.get (by omega) (ch1.get (by omega) hq)
  have hknd : ks.Nodup := hkr.imp fun {a b} hab => by
    rintro rfl
    rw [ltS_iff] at hab
    exact List.lt_irrefl _ hab
  obtain ⟨m', ws', T3, e3, mk3, p3, fr3⟩ := masks_ok (T := T2 ++ [some (.lst (ws.map PyData.str))]) (m := T2.length) (d := d) (dep := dep) (ws := ws) (q0 := q0) (v3 := v3) (v4 := v4) (v7 := v7) (v9 := v9) (v11 := v11) p2.new (by omega) hkr hkn hk1 hk2 d0 d8 hq0 hq0k ⟨by simp, hknd.sublist hws, fun x hx => hkn x (hws.mem hx), by omega⟩ hws hq2 (by rw [ch2.1, ch1.1]; exact hql) hrq
  have hq3 : T3[q]? = some (some (.lst fs)) := by
    rw [fr3.2 q (by simp; rw [ch2.1, ch1.1]; omega) (by omega), List.getElem?_take_of_lt (by omega)]
    exact hq2
  refine ⟨sortS ws', T3.set q (some (.lst (fs ++ [.tuple ((sortS ws').map PyData.str)]))), some (.dat (.int d)), some (.ref m'), ?_, sortS_rise mk3.nodup, fun x hx => mk3.names x ((sortS_perm ws').mem_iff.1 hx), by rw [(sortS_perm ws').length_eq]; exact mk3.few, set_get hq3, (p3.mono (by omega)).set (by omega), ?_⟩
  · have hB1 : mB1 [some (.ref r), some (.dat (.tuple (ks.map PyData.str))), some (.dat (.int dep)), v3, v4, some (.dat (.str q0)), some (.ref q), v7, v8, v9, v10, v11] T = .nx [some (.ref r), some (.dat (.tuple (ks.map PyData.str))), some (.dat (.int dep)), v3, v4, some (.dat (.str q0)), some (.ref q), v7, some (.dat (.int d)), v9, v10, v11] T1 := by
      simp [mB1, sG, eCall, aC, aN, et, gN]
    have hB2 : mB2 [some (.ref r), some (.dat (.tuple (ks.map PyData.str))), some (.dat (.int dep)), v3, v4, some (.dat (.str q0)), some (.ref q), v7, some (.dat (.int d)), v9, v10, v11] T1 = .nx [some (.ref r), some (.dat (.tuple (ks.map PyData.str))), some (.dat (.int dep)), v3, v4, some (.dat (.str q0)), some (.ref q), v7, some (.dat (.int d)), v9, some (.ref T2.length), v11] (T2 ++ [some (.lst (ws.map PyData.str))]) := by
      have hl : (ws.map PyData.str).length ≤ 16777216 := by simp; omega
      simp only [mB2, sG, eLcC, cF, iA, eV_s, eV_0, bind_ok, view_dat, Option.bind_some, itemsOf, ofOpt_some, guardOf, wipeE, List.set, e2, noX_ok, lineN, hl, if_true, andThen_ok, gN]
    have hv := view_lst mk3.cell
    have hf := mk3.few
    have hD := sApp_ok (a := eV 6) (b := e1 pTup (e1 pSorted (eV 10))) (env := [some (.ref r), some (.dat (.tuple (ks.map PyData.str))), some (.dat (.int dep)), v3, v4, some (.dat (.str q0)), some (.ref q), v7, some (.dat (.int d)), v9, some (.ref m'), v11]) (S := T3) (S2 := T3) (n := q) (ds := fs) (d := .tuple ((sortS ws').map PyData.str)) rfl hq3
      (by simp only [e1, eV_s, eV_0, bind_ok, hv, Option.bind_some, pSorted_strs (show ws'.length < 64 by omega), ofOpt_some, view_dat, pTup_l]) hq3 (by omega)
    unfold mBody
    simp only [sQ, hB1, next_nx, hB2]
    have := e3 mD
    simp only [sQ] at this
    rw [this]
    exact hD
  · refine Fr.set ⟨?_, fun i hi hr => ?_⟩ (by simp; omega)
    · have := fr3.1
      simp at this ⊢
      have h1 := ch1.1
      have h2 := ch2.1
      omega
    · simp at hi
      rw [fr3.2 i (by simp; rw [ch2.1, ch1.1]; omega) hr, List.getElem?_take_of_lt (by omega), List.getElem?_take_of_lt (by omega), List.getElem?_append_left (by rw [ch2.1, ch1.1]; omega), ch2.2 i hr, ch1.2 i hr]
end Ev

set_option linter.all false
set_option maxHeartbeats 1000000
namespace Ev
open PySem
def encT (m : List Str) : PyData := .tuple (m.map PyData.str)
def encM (ms : List (List Str)) : PyData := .tuple (ms.map encT)
theorem Fr.mono {r n : Nat} {S T : Store} (h : Fr r (S.take n) T) (hn : n ≤ S.length) {S0 : Store} (k : Fr r S0 S) (hl : S0.length ≤ n) : Fr r S0 T :=
  ⟨by have := h.1; simp at this; omega, fun i hi hr => by rw [h.2 i (by simp; omega) hr, List.getElem?_take_of_lt (by omega), k.2 i hi hr]⟩
theorem strip_ok {S : Store} {r c dep : Nat} {ks : List Str} (h : PotAt S r c) (hc : c + 40 * dep < 2 ^ 24) (hd : dep < 1000) (hkr : Rise ks) (hkn : ∀ x ∈ ks, IsNm x) (hk1 : 1 ≤ ks.length) (hk2 : ks.length ≤ 7) :
    ∃ (ms : List (List Str)) (S' : Store), m__law_strip [.ref r, .dat (.tuple (ks.map PyData.str)), .dat (.int (dep : Int))] S = .ok (.dat (encM ms)) S' ∧ ms.length = dep ∧ (∀ m ∈ ms, Rise m ∧ (∀ x ∈ m, IsNm x) ∧ m.length ≤ 40) ∧ PotAt S' r (c + 40 * dep) ∧ Chg r S S' := by
  have hr := h.lt
  obtain ⟨z, hz⟩ : ∃ z : Int, z = (dep : Int) := ⟨_, rfl⟩
  rw [← hz]
  have hbn : bnd z = true := by
    unfold bnd
    rw [decide_eq_true_eq]
    omega
  have hrl : (rangeOf 0 z).length = dep := by rw [rangeOf_len]; omega
  obtain ⟨q0, eq0, nq0, hq0⟩ := strange_ok (S := S) (ks := ks) (v0 := some (.ref r)) (v2 := some (.dat (.int z))) (v3 := none) (v4 := none) (v5 := none) (v6 := none) (v7 := none) (v8 := none) (v9 := none) (v10 := none) (v11 := none) hk2
  obtain ⟨env', T, el, ms, w7, w8, w10, rfl, hT, hfr, pT, hms, hlen⟩ := loop_ok (g := gN 7) (k := none) (b := mBody)
    (fun rest env T => ∃ (ms : List (List Str)) (w7 w8 w10 : Option Val), env = [some (.ref r), some (.dat (.tuple (ks.map PyData.str))), some (.dat (.int z)), none, none, some (.dat (.str q0)), some (.ref S.length), w7, w8, none, w10, none] ∧ T[S.length]? = some (some (.lst (ms.map encT))) ∧ Fr r S T ∧ PotAt T r (c + 40 * ms.length) ∧ (∀ m ∈ ms, Rise m ∧ (∀ x ∈ m, IsNm x) ∧ m.length ≤ 40) ∧ ms.length + rest.length = dep)
    (by
      rintro x xs env T ⟨ms, w7, w8, w10, rfl, hT, hfr, pT, hms, hlen⟩
      refine ⟨_, rfl, ?_⟩
      simp only [List.length_cons] at hlen
      obtain ⟨m, T', w8', w10', e, hm1, hm2, hm3, hT', pT', fr'⟩ := mBody_ok (dep := z) (v3 := none) (v4 := none) (v7 := some x) (v8 := w8) (v9 := none) (v10 := w10) (v11 := none) pT (by omega) hkr hkn hk1 hk2 nq0 hq0 hT hr (by simp; omega)
      have hTl := (List.getElem?_eq_some_iff.1 hT).1
      refine ⟨_, T', e, trivial, ms ++ [m], some x, w8', w10', rfl, by rw [hT']; simp [encT], fr'.mono (by omega) hfr (Nat.le_refl _), pT'.mono (by simp; omega), ?_, by simp; omega⟩
      intro m' hm'
      rw [List.mem_append] at hm'
      rcases hm' with hm' | hm'
      · exact hms m' hm'
      · simp at hm'
        subst hm'
        exact ⟨hm1, hm2, hm3⟩)
    (rangeOf 0 z) [some (.ref r), some (.dat (.tuple (ks.map PyData.str))), some (.dat (.int z)), none, none, some (.dat (.str q0)), some (.ref S.length), none, none, none, none, none] (S ++ [some (.lst [])])
    ⟨[], none, none, none, rfl, by simp, Fr.refl.new, h.new, by simp, by simp [hrl]⟩
  simp only [List.length_nil, Nat.add_zero] at hlen
  refine ⟨ms, T.take S.length, ?_, hlen, hms, hlen ▸ pT.cut hr, hfr.done⟩
  have hb : b__law_strip = sQ (sG (e2 pIdx (eLc (cF [3] (iA (eLc (cF [4] (iR2 (eD (.int 1)) (eD (.int 9))) (gN 4) (tYes) (cE (e2 pRepS (eD (.str "q")) (eV 4)))))) (gN 3) (t2 pNotIn (eV 3) (eV 1)) (cE (eV 3)))) (eD (.int 0))) (gN 5)) (sQ (sG (eLstC (aN)) (gN 6)) (sQ (sF (iR1 (eV 2)) (gN 7) mBody) (sR (e1 pTup (eV 6))))) := rfl
  have hv := view_lst hT
  simp only [m__law_strip, mkFn, startEnv, hb, sQ, List.map_cons, List.map_nil, List.length_cons, List.length_nil, List.replicate, List.cons_append, List.nil_append, Nat.reduceAdd, Nat.reduceSub]
  simp only [sQ, sG, eq0, andThen_ok, gN, List.set, next_nx, eLstC, aN, bind_ok, dats, ofOpt_some, lineN, List.length_nil, Nat.zero_le, if_true, sF, iR1, eV_s, eV_0, hbn]
  rw [el]
  simp only [next_nx, sR, e1, eV_s, eV_0, bind_ok, hv, Option.bind_some, pTup_l, ofOpt_some, andThen_ok]
  rfl
end Ev

set_option linter.all false
set_option maxHeartbeats 1000000
namespace Ev
open PySem
abbrev Sts := List (List (Str × Int))
def addJ (acc : List Int) (x : Int) : List Int := if x ∈ acc then acc else acc ++ [x]
def onceJ (xs : List Int) : List Int := xs.foldl addJ []
def outs (st : Sts) (mask : List Str) (s : Int) : List Int := ((st[s.toNat]?.getD []).filter fun p => decide (p.1 ∈ mask)).map Prod.snd
def nxt (st : Sts) (cur : List Int) (mask : List Str) : List Int := sortI (onceJ (cur.flatMap (outs st mask)))
def abT (st : Sts) : List (List Str) → List Int → List (List Int)
  | [], _ => []
  | m :: ms, cur => nxt st cur m :: abT st ms (nxt st cur m)
def encI (row : List Int) : PyData := .tuple (row.map PyData.int)
def encL (row : List Int) : PyData := .list (row.map PyData.int)
theorem pSorted_ints {xs : List Int} : pSorted (.list (xs.map PyData.int)) = some (.list ((sortI xs).map PyData.int)) := by
  simp only [pSorted, intsD_map]
theorem any_eqv {x : Int} {acc : List Int} : (acc.map PyData.int).any (fun z => PyData.eqv z (.int x)) = decide (x ∈ acc) := by
  rw [Bool.eq_iff_iff, List.any_eq_true, decide_eq_true_iff]
  constructor
  · rintro ⟨z, hz, e⟩
    obtain ⟨y, hy, rfl⟩ := List.mem_map.1 hz
    have : y = x := by simpa using e
    exact this ▸ hy
  · intro hx
    exact ⟨.int x, List.mem_map.2 ⟨x, hx, rfl⟩, by simp⟩
theorem once_ints (xs : List Int) : once (xs.map PyData.int) = (onceJ xs).map PyData.int := by
  have key : ∀ (xs acc : List Int), (xs.map PyData.int).foldl addTo (acc.map PyData.int) = (xs.foldl addJ acc).map PyData.int := by
    intro xs
    induction xs with
    | nil => intro acc; rfl
    | cons x xs ih =>
      intro acc
      rw [List.map_cons, List.foldl_cons, List.foldl_cons, ← ih]
      congr 1
      unfold addTo addJ
      rw [any_eqv]
      by_cases h : x ∈ acc <;> simp [h]
  exact key xs []
theorem addJ_mem {acc : List Int} {x y : Int} : y ∈ addJ acc x ↔ y ∈ acc ∨ y = x := by
  unfold addJ
  split
  · constructor
    · exact .inl
    · rintro (h | rfl) <;> assumption
  · simp
theorem addJ_nodup {acc : List Int} {x : Int} (h : acc.Nodup) : (addJ acc x).Nodup := by
  unfold addJ
  split
  · exact h
  · rename_i hx
    rw [List.nodup_append]
    refine ⟨h, by simp, fun a ha b hb => ?_⟩
    simp at hb
    rintro rfl
    exact hx (hb ▸ ha)
theorem foldI (xs : List Int) : ∀ acc : List Int, acc.Nodup → (xs.foldl addJ acc).Nodup ∧ ∀ y, y ∈ xs.foldl addJ acc ↔ y ∈ acc ∨ y ∈ xs := by
  induction xs with
  | nil => intro acc h; exact ⟨h, by simp⟩
  | cons x xs ih =>
    intro acc h
    obtain ⟨h1, h2⟩ := ih (addJ acc x) (addJ_nodup h)
    refine ⟨h1, fun y => ?_⟩
    rw [List.foldl_cons, h2, addJ_mem, List.mem_cons, or_assoc]
theorem onceJ_nodup (xs : List Int) : (onceJ xs).Nodup := (foldI xs [] (by simp)).1
theorem onceJ_mem {xs : List Int} {y : Int} : y ∈ onceJ xs ↔ y ∈ xs := by
  have h := (foldI xs [] (by simp)).2 y
  unfold onceJ
  rw [h]
  simp
theorem sortI_perm (xs : List Int) : (sortI xs).Perm xs := List.mergeSort_perm _ _
theorem sortI_mem {xs : List Int} {y : Int} : y ∈ sortI xs ↔ y ∈ xs := (sortI_perm xs).mem_iff
theorem sortI_asc {xs : List Int} (h : xs.Nodup) : (sortI xs).Pairwise (· < ·) := by
  have h1 : (sortI xs).Pairwise fun a b => decide (a ≤ b) = true := List.pairwise_mergeSort (fun a b c h1 h2 => by simp at *; omega) (fun a b => by simp; omega) xs
  have h2 : (sortI xs).Nodup := (sortI_perm xs).nodup_iff.2 h
  refine (h1.and h2).imp fun {a b} hab => ?_
  obtain ⟨hle, hne⟩ := hab
  simp at hle
  have : a ≠ b := hne
  omega
theorem asc_ext : ∀ {l m : List Int}, l.Pairwise (· < ·) → m.Pairwise (· < ·) → (∀ x, x ∈ l ↔ x ∈ m) → l = m
  | [], [], _, _, _ => rfl
  | [], y :: m, _, _, h => absurd ((h y).2 (by simp)) (by simp)
  | x :: l, [], _, _, h => absurd ((h x).1 (by simp)) (by simp)
  | x :: l, y :: m, hl, hm, h => by
    rw [List.pairwise_cons] at hl hm
    have hx := (h x).1 (by simp)
    have hy := (h y).2 (by simp)
    rw [List.mem_cons] at hx hy
    have hxy : x = y := by
      rcases hx with rfl | hx
      · rfl
      · rcases hy with rfl | hy
        · rfl
        · have := hl.1 y hy
          have := hm.1 x hx
          omega
    subst hxy
    rw [asc_ext hl.2 hm.2 fun z => ?_]
    have := h z
    rw [List.mem_cons, List.mem_cons] at this
    constructor
    · intro hz
      rcases this.1 (.inr hz) with rfl | hz'
      · have := hl.1 z hz
        omega
      · exact hz'
    · intro hz
      rcases this.2 (.inr hz) with rfl | hz'
      · have := hm.1 z hz
        omega
      · exact hz'
theorem asc_len {n : Nat} {l : List Int} (h : l.Nodup) (hb : ∀ x ∈ l, 0 ≤ x ∧ x < (n : Int)) : l.length ≤ n := by
  have key : ∀ (qs ks : List Int), qs.Nodup → (∀ x ∈ qs, x ∈ ks) → qs.length ≤ ks.length := by
    intro qs
    induction qs with
    | nil => intro ks _ _; exact Nat.zero_le _
    | cons q qs ih =>
      intro ks hn hs
      rw [List.nodup_cons] at hn
      have h1 := hs q (by simp)
      have := ih (ks.erase q) hn.2 fun x hx => (List.mem_erase_of_ne (by rintro rfl; exact hn.1 hx)).2 (hs x (by simp [hx]))
      rw [List.length_erase_of_mem h1] at this
      have : 0 < ks.length := List.length_pos_of_mem h1
      simp
      omega
  have := key l ((List.range n).map fun (i : Nat) => (i : Int)) h fun x hx => by
    obtain ⟨h1, h2⟩ := hb x hx
    exact List.mem_map.2 ⟨x.toNat, List.mem_range.2 (by omega), by omega⟩
  simpa using this
/-- a good rule, small -/
structure Good (st : Sts) : Prop where
  some1 : 1 ≤ st.length
  few : st.length ≤ 40
  wide : ∀ s ∈ st, s.length ≤ 4
  there : ∀ s ∈ st, ∀ p ∈ s, 0 ≤ p.2 ∧ p.2 < (st.length : Int)
def Row (st : Sts) (row : List Int) : Prop := row.Pairwise (· < ·) ∧ ∀ x ∈ row, 0 ≤ x ∧ x < (st.length : Int)
theorem Row.nodup {st : Sts} {row : List Int} (h : Row st row) : row.Nodup := h.1.imp fun {a b} hab => by
  show a ≠ b
  omega
theorem Row.len {st : Sts} {row : List Int} (h : Row st row) : row.length ≤ st.length := asc_len h.nodup h.2
theorem outs_len {st : Sts} (g : Good st) (mask : List Str) (s : Int) : (outs st mask s).length ≤ 4 := by
  unfold outs
  rw [List.length_map]
  refine Nat.le_trans (List.length_filter_le _ _) ?_
  by_cases hs : s.toNat < st.length
  · rw [List.getElem?_eq_getElem hs, Option.getD_some]
    exact g.wide _ (List.getElem_mem hs)
  · rw [List.getElem?_eq_none (by omega)]
    simp
theorem outs_in {st : Sts} (g : Good st) (mask : List Str) (s : Int) : ∀ x ∈ outs st mask s, 0 ≤ x ∧ x < (st.length : Int) := by
  intro x hx
  unfold outs at hx
  obtain ⟨p, hp, rfl⟩ := List.mem_map.1 hx
  rw [List.mem_filter] at hp
  by_cases hs : s.toNat < st.length
  · rw [List.getElem?_eq_getElem hs, Option.getD_some] at hp
    exact g.there _ (List.getElem_mem hs) p hp.1
  · rw [List.getElem?_eq_none (by omega)] at hp
    simp at hp
theorem nxt_row {st : Sts} (g : Good st) (cur : List Int) (mask : List Str) : Row st (nxt st cur mask) := by
  refine ⟨sortI_asc (onceJ_nodup _), fun x hx => ?_⟩
  unfold nxt at hx
  rw [sortI_mem, onceJ_mem, List.mem_flatMap] at hx
  obtain ⟨s, _, h⟩ := hx
  exact outs_in g mask s x h
theorem flat_len {st : Sts} (g : Good st) (mask : List Str) : ∀ cur : List Int, (cur.flatMap (outs st mask)).length ≤ 4 * cur.length
  | [] => by simp
  | s :: cur => by
    have := flat_len g mask cur
    have := outs_len g mask s
    rw [List.flatMap_cons, List.length_append, List.length_cons]
    omega
end Ev

set_option linter.all false
set_option maxHeartbeats 1000000
namespace Ev
open PySem
theorem gT_R {g1 g2 : Fg} {st : Sts} {en : List Int} {env : MEnv} : gT [g1, g2] (.dat (encR st en)) env = putAll [g1, g2] [.tuple (st.map encS), .tuple (en.map PyData.int)] env := rfl
theorem items_M {ms : List (List Str)} : itemsOf (encM ms) = some (ms.map encT) := rfl
theorem row_0 {st : Sts} (g : Good st) : Row st [0] := ⟨by simp, fun x hx => by simp at hx; have := g.some1; omega⟩
theorem st_at {st : Sts} {s : Int} (h0 : 0 ≤ s) (h1 : s < (st.length : Int)) : itemAt (st.map encS) s = some (encS (st[s.toNat]?.getD [])) := by
  obtain ⟨k, rfl⟩ := Int.eq_ofNat_of_zero_le h0
  rw [itemAt_nat (by simp; omega)]
  have : k < st.length := by omega
  simp [this]
theorem ab_in {v0 v1 v2 v3 v4 v6 v9 : Option Val} {T : Store} {mask : List Str} (l : List (Str × Int)) : compGo (gT [gN 7, gN 8]) (t2 pIn (eV 7) (eV 5)) (cEI (eV 8)) none ((l.map encP).map Val.dat) [v0, v1, v2, v3, v4, some (.dat (encT mask)), v6, none, none, v9] T = .ok (((l.filter fun p => decide (p.1 ∈ mask)).map Prod.snd).map PyData.int) T := by
  induction l with
  | nil => rfl
  | cons p l ih =>
    by_cases hx : p.1 ∈ mask <;> simp [-List.map_map, compGo, gT, gN, putAll, encP, encT, t2, pIn_strsT, hx, cEI, ih] <;> simp only [encP, encT] at ih <;> rw [ih] <;> rfl
theorem ab_out {st : Sts} {v0 v1 v3 v4 v9 : Option Val} {T : Store} {mask : List Str} : ∀ cur : List Int, (∀ x ∈ cur, 0 ≤ x ∧ x < (st.length : Int)) →
    compGo (gN 6) tYes (cF [7, 8] (iA (e2 pIdx (eV 2) (eV 6))) (gT [gN 7, gN 8]) (t2 pIn (eV 7) (eV 5)) (cEI (eV 8))) none ((cur.map PyData.int).map Val.dat) [v0, v1, some (.dat (.tuple (st.map encS))), v3, v4, some (.dat (encT mask)), none, none, none, v9] T = .ok ((cur.flatMap (outs st mask)).map PyData.int) T
  | [], _ => rfl
  | s :: cur, h => by
    have ih := ab_out (v0 := v0) (v1 := v1) (v3 := v3) (v4 := v4) (v9 := v9) (T := T) (mask := mask) cur fun x hx => h x (by simp [hx])
    obtain ⟨h0, h1⟩ := h s (by simp)
    have hs := st_at (st := st) h0 h1
    have hin := ab_in (v0 := v0) (v1 := v1) (v2 := some (.dat (.tuple (st.map encS)))) (v3 := v3) (v4 := v4) (v6 := some (.dat (.int s))) (v9 := v9) (T := T) (mask := mask) (st[s.toNat]?.getD [])
    have hb : (cF [7, 8] (iA (e2 pIdx (eV 2) (eV 6))) (gT [gN 7, gN 8]) (t2 pIn (eV 7) (eV 5)) (cEI (eV 8))) [v0, v1, some (.dat (.tuple (st.map encS))), v3, v4, some (.dat (encT mask)), some (.dat (.int s)), none, none, v9] T = .ok ((outs st mask s).map PyData.int) T := by
      simp only [cF, iA, e2, eV_s, eV_0, bind_ok, view_dat, Option.bind_some, pIdx_t, hs, ofOpt_some, encS, itemsOf, guardOf, wipeE, List.set]
      exact hin
    simp only [List.map_cons, compGo, gN, List.set, tYes, bind_ok, if_true, hb, keeps_none, ih, List.flatMap_cons, List.map_append]
theorem eSc_ok {c : Fc} {env : MEnv} {S : Store} {xs : List Int} (h : c env S = .ok (xs.map PyData.int) S) (hl : xs.length < 2000) : eSc true c env S = .ok (.set true ((onceJ xs).map PyData.int)) S := by
  simp only [eSc, h, noX_ok, bind_ok, List.length_map, hl, if_true, once_ints]
theorem eSort_ok {a : Fe} {env : MEnv} {S : Store} {xs : List Int} (h : a env S = .ok (.set true (xs.map PyData.int)) S) (hl : xs.length < 64) : e1 pTup (eSortSet a) env S = .ok (.dat (encI (sortI xs))) S := by
  simp only [e1, eSortSet, h, bind_ok, pSorted_ints, ofOpt_some, List.length_map, hl, if_true, view_dat, Option.bind_some, pTup_l, encI]
theorem above_ok {S : Store} {st : Sts} {en : List Int} {ms : List (List Str)} (g : Good st) (hm : ms.length < 1000) : m_states_above [.dat (encR st en), .dat (encM ms)] S = .ok (.dat (.tuple (([0] :: abT st ms [0]).map encI))) S := by
  obtain ⟨env', T, el, rest', R, cur, w5, w6, w7, w8, w9, rfl, hrest, hT, hRc, hrow, hlen, hbase⟩ := loop_ok (g := gN 5) (k := none) (b := (sQ (sG (eSc true (cF [6, 7, 8] (iA (e2 pIdx (eV 4) (e1 pNeg (eD (.int 1))))) (gN 6) (tYes) (cF [7, 8] (iA (e2 pIdx (eV 2) (eV 6))) (gT [gN 7, gN 8]) (t2 pIn (eV 7) (eV 5)) (cEI (eV 8))))) (gN 9))
  (sApp (eV 4) (e1 pTup (eSortSet (eV 9))))))
    (fun rest env T => ∃ (rest' : List (List Str)) (R : List (List Int)) (cur : List Int) (w5 w6 w7 w8 w9 : Option Val), env = [some (.dat (encR st en)), some (.dat (encM ms)), some (.dat (.tuple (st.map encS))), some (.dat (.tuple (en.map PyData.int))), some (.ref S.length), w5, w6, w7, w8, w9] ∧ rest = (rest'.map encT).map Val.dat ∧ T[S.length]? = some (some (.lst ((R ++ [cur]).map encI))) ∧ (R ++ [cur]) ++ abT st rest' cur = [0] :: abT st ms [0] ∧ Row st cur ∧ R.length + rest'.length = ms.length ∧ T.take S.length = S)
    (by
      rintro x xs env T ⟨rest', R, cur, w5, w6, w7, w8, w9, rfl, hrest, hT, hRc, hrow, hlen, hbase⟩
      cases rest' with
      | nil => cases hrest
      | cons mask rest' =>
        simp only [List.map_cons, List.cons.injEq] at hrest
        obtain ⟨rfl, rfl⟩ := hrest
        refine ⟨_, rfl, ?_⟩
        have hv := view_lst hT
        have hfl := flat_len g mask cur
        have hrl := hrow.len
        have hg := g.few
        have hset : (eSc true (cF [6, 7, 8] (iA (e2 pIdx (eV 4) (e1 pNeg (eD (.int 1))))) (gN 6) (tYes) (cF [7, 8] (iA (e2 pIdx (eV 2) (eV 6))) (gT [gN 7, gN 8]) (t2 pIn (eV 7) (eV 5)) (cEI (eV 8))))) [some (.dat (encR st en)), some (.dat (encM ms)), some (.dat (.tuple (st.map encS))), some (.dat (.tuple (en.map PyData.int))), some (.ref S.length), some (.dat (encT mask)), w6, w7, w8, w9] T = .ok (.set true ((onceJ (cur.flatMap (outs st mask))).map PyData.int)) T := by
          refine eSc_ok ?_ (by omega)
          have hit : (iA (e2 pIdx (eV 4) (e1 pNeg (eD (.int 1))))) [some (.dat (encR st en)), some (.dat (encM ms)), some (.dat (.tuple (st.map encS))), some (.dat (.tuple (en.map PyData.int))), some (.ref S.length), some (.dat (encT mask)), w6, w7, w8, w9] T = .ok ((cur.map PyData.int).map Val.dat, none) T := by
            simp only [iA, e2, e1, eV_s, eV_0, eD_, bind_ok, view_dat, Option.bind_some, pNeg_i, ofOpt_some, hv, pIdx_l, List.map_append, List.map_cons, List.map_nil, itemAt_last, encI, itemsOf, guardOf]
          simp only [cF, hit, bind_ok, wipeE, List.set]
          exact ab_out cur hrow.2
        have hol : (onceJ (cur.flatMap (outs st mask))).length < 64 := by
          have := (nxt_row g cur mask).len
          unfold nxt at this
          rw [(sortI_perm _).length_eq] at this
          omega
        refine ⟨_, T.set S.length (some (.lst ((R ++ [cur] ++ [nxt st cur mask]).map encI))), ?_, trivial, rest', R ++ [cur], nxt st cur mask, some (.dat (encT mask)), w6, w7, w8, some (.set true ((onceJ (cur.flatMap (outs st mask))).map PyData.int)), rfl, rfl, set_get hT, ?_, nxt_row g cur mask, by simp at hlen ⊢; omega, ?_⟩
        · simp only [sQ, sG, gN, List.set, hset, andThen_ok, next_nx]
          rw [sApp_ok (n := S.length) (ds := (R ++ [cur]).map encI) (d := encI (nxt st cur mask)) (S2 := T) rfl hT (eSort_ok rfl hol) hT (by simp at hlen ⊢; omega)]
          simp
        · rw [← hRc, abT]
          simp
        · rw [List.take_set_of_le (by omega)]
          exact hbase)
    ((ms.map encT).map Val.dat) [some (.dat (encR st en)), some (.dat (encM ms)), some (.dat (.tuple (st.map encS))), some (.dat (.tuple (en.map PyData.int))), some (.ref S.length), none, none, none, none, none] (S ++ [some (.lst [encI [0]])])
    ⟨ms, [], [0], none, none, none, none, none, rfl, rfl, by simp, by simp, row_0 g, by simp, by simp⟩
  have hr0 : rest' = [] := by
    cases rest' with
    | nil => rfl
    | cons y r => cases hrest
  subst hr0
  simp only [abT, List.append_nil] at hRc
  have hv := view_lst hT
  have q0 : (eLstC (aC (eTup (aC (eD (.int 0)) (aN))) (aN))) [some (.dat (encR st en)), some (.dat (encM ms)), some (.dat (.tuple (st.map encS))), some (.dat (.tuple (en.map PyData.int))), none, none, none, none, none, none] S = .ok (.ref S.length) (S ++ [some (.lst [encI [0]])]) := by
    simp [eLstC, eTup, aC, aN, dats, lineN, encI]
  simp only [m_states_above, mkFn, startEnv, b_states_above, sQ, List.map_cons, List.map_nil, List.length_cons, List.length_nil, List.replicate, List.cons_append, List.nil_append, Nat.reduceAdd, Nat.reduceSub]
  simp only [sQ, sG, gT_R, gN, putAll, eV_s, eV_0, andThen_ok, next_nx, List.set, Option.bind_some, q0, sF, iA, bind_ok, view_dat, items_M, ofOpt_some, guardOf]
  rw [el]
  simp only [next_nx, sR, e1, eV_s, eV_0, bind_ok, hv, Option.bind_some, pTup_l, ofOpt_some, andThen_ok, hbase, hRc]
  rfl
end Ev

set_option linter.all false
set_option maxHeartbeats 1000000
namespace Ev
open PySem
theorem loop_nx {g : Fg} {b : Fs} {x : Val} {xs : List Val} {env env1 env2 : MEnv} {S S2 : Store} (hg : g x env = some env1) (hb : b env1 S = .nx env2 S2) : loop g b none (x :: xs) env S = loop g b none xs env2 S2 := by
  simp only [loop, hg, hb]
  rw [if_pos (show keeps none S2 from trivial)]
theorem pIn_intsL {x : Int} {xs : List Int} : pIn (.int x) (.list (xs.map PyData.int)) = some (decide (x ∈ xs)) := by
  have h : (xs.map PyData.int).all flatD = true := by simp [flatD]
  simp only [pIn, h, flatD, and_self, if_true, any_eqv]
theorem pIn_intsT {x : Int} {xs : List Int} : pIn (.int x) (.tuple (xs.map PyData.int)) = some (decide (x ∈ xs)) := by
  have h : (xs.map PyData.int).all flatD = true := by simp [flatD]
  simp only [pIn, h, flatD, and_self, if_true, any_eqv]
theorem pNotIn_intsL {x : Int} {xs : List Int} : pNotIn (.int x) (.list (xs.map PyData.int)) = some (!decide (x ∈ xs)) := by rw [pNotIn, pIn_intsL]; rfl
noncomputable def lI : Fs := sI (tAnd (t2 pIn (eV 6) (eV 3)) (t2 pNotIn (eV 7) (eV 4))) (sApp (eV 4) (eV 7)) (sN)
def fl1 (mask : List Str) (l : List (Str × Int)) : List Int := (l.filter fun p => decide (p.1 ∈ mask)).map Prod.snd
theorem la_in {v0 v1 v2 v5 : Option Val} {mask : List Str} {m : Nat} : ∀ (l : List (Str × Int)) (acc : List Int) (T : Store) (v6 v7 : Option Val), T[m]? = some (some (.lst (acc.map PyData.int))) → acc.length + l.length < 100000 →
    ∃ w6 w7, loop (gT [gN 6, gN 7]) lI none ((l.map encP).map Val.dat) [v0, v1, v2, some (.dat (encT mask)), some (.ref m), v5, v6, v7] T = .nx [v0, v1, v2, some (.dat (encT mask)), some (.ref m), v5, w6, w7] (T.set m (some (.lst (((fl1 mask l).foldl addJ acc).map PyData.int))))
  | [], acc, T, v6, v7, hT, _ => ⟨v6, v7, by
      have : T.set m (some (.lst (acc.map PyData.int))) = T := by
        apply List.ext_getElem?
        intro i
        by_cases hi : i = m
        · subst hi
          rw [set_get hT, hT]
        · rw [List.getElem?_set_ne (Ne.symm hi)]
      show Flow.nx _ _ = Flow.nx _ (T.set m (some (.lst (acc.map PyData.int))))
      rw [this]⟩
  | p :: l, acc, T, v6, v7, hT, hl => by
    simp only [List.length_cons] at hl
    have hv := view_lst hT
    have hg : ∀ env : MEnv, gT [gN 6, gN 7] (.dat (encP p)) env = some ((env.set 6 (some (.dat (.str p.1)))).set 7 (some (.dat (.int p.2)))) := fun _ => rfl
    by_cases h1 : p.1 ∈ mask
    · by_cases h2 : p.2 ∈ acc
      · obtain ⟨w6, w7, e⟩ := la_in (v0 := v0) (v1 := v1) (v2 := v2) (v5 := v5) (mask := mask) l acc T (some (.dat (.str p.1))) (some (.dat (.int p.2))) hT (by omega)
        refine ⟨w6, w7, ?_⟩
        have hb : lI [v0, v1, v2, some (.dat (encT mask)), some (.ref m), v5, some (.dat (.str p.1)), some (.dat (.int p.2))] T = .nx [v0, v1, v2, some (.dat (encT mask)), some (.ref m), v5, some (.dat (.str p.1)), some (.dat (.int p.2))] T := by
          simp [lI, sI, tAnd, t2, encT, pIn_strsT, h1, hv, pNotIn_intsL, h2, sN]
        have hf : (fl1 mask (p :: l)).foldl addJ acc = (fl1 mask l).foldl addJ acc := by
          simp [fl1, h1, addJ, h2]
        rw [hf]
        rw [List.map_cons, List.map_cons, loop_nx (hg _) hb]
        exact e
      · obtain ⟨w6, w7, e⟩ := la_in (v0 := v0) (v1 := v1) (v2 := v2) (v5 := v5) (mask := mask) l (acc ++ [p.2]) (T.set m (some (.lst ((acc ++ [p.2]).map PyData.int)))) (some (.dat (.str p.1))) (some (.dat (.int p.2))) (set_get hT) (by simp; omega)
        refine ⟨w6, w7, ?_⟩
        have hs := sApp_ok (a := eV 4) (b := eV 7) (env := [v0, v1, v2, some (.dat (encT mask)), some (.ref m), v5, some (.dat (.str p.1)), some (.dat (.int p.2))]) (S := T) (S2 := T) (n := m) (ds := acc.map PyData.int) (d := .int p.2) rfl hT rfl hT (by simp; omega)
        have hb : lI [v0, v1, v2, some (.dat (encT mask)), some (.ref m), v5, some (.dat (.str p.1)), some (.dat (.int p.2))] T = .nx [v0, v1, v2, some (.dat (encT mask)), some (.ref m), v5, some (.dat (.str p.1)), some (.dat (.int p.2))] (T.set m (some (.lst ((acc ++ [p.2]).map PyData.int)))) := by
          simp [lI, sI, tAnd, t2, encT, pIn_strsT, h1, hv, pNotIn_intsL, h2]
          simp only [encT] at hs
          rw [hs]
        have hf : (fl1 mask (p :: l)).foldl addJ acc = (fl1 mask l).foldl addJ (acc ++ [p.2]) := by
          simp [fl1, h1, addJ, h2]
        rw [hf]
        rw [List.map_cons, List.map_cons, loop_nx (hg _) hb]
        rw [List.set_set] at e
        exact e
    · obtain ⟨w6, w7, e⟩ := la_in (v0 := v0) (v1 := v1) (v2 := v2) (v5 := v5) (mask := mask) l acc T (some (.dat (.str p.1))) (some (.dat (.int p.2))) hT (by omega)
      refine ⟨w6, w7, ?_⟩
      have hb : lI [v0, v1, v2, some (.dat (encT mask)), some (.ref m), v5, some (.dat (.str p.1)), some (.dat (.int p.2))] T = .nx [v0, v1, v2, some (.dat (encT mask)), some (.ref m), v5, some (.dat (.str p.1)), some (.dat (.int p.2))] T := by
        simp [lI, sI, tAnd, t2, encT, pIn_strsT, h1, sN]
      have hf : (fl1 mask (p :: l)).foldl addJ acc = (fl1 mask l).foldl addJ acc := by
        simp [fl1, h1]
      rw [hf]
      rw [List.map_cons, List.map_cons, loop_nx (hg _) hb]
      exact e
noncomputable def lS : Fs := sF (iA (e2 pIdx (e2 pIdx (eV 0) (eD (.int 0))) (eV 5))) (gT [gN 6, gN 7]) lI
theorem idx_R0 {st : Sts} {en : List Int} : pIdx (encR st en) (.int 0) = some (.tuple (st.map encS)) := rfl
theorem idx_R1 {st : Sts} {en : List Int} : pIdx (encR st en) (.int 1) = some (.tuple (en.map PyData.int)) := rfl
theorem fold_len (xs : List Int) : ∀ acc : List Int, (xs.foldl addJ acc).length ≤ acc.length + xs.length := by
  induction xs with
  | nil => intro acc; simp
  | cons x xs ih =>
    intro acc
    have := ih (addJ acc x)
    have h2 : (addJ acc x).length ≤ acc.length + 1 := by
      unfold addJ
      split <;> simp
    rw [List.foldl_cons, List.length_cons]
    omega
theorem la_out {st : Sts} {en : List Int} {v1 v2 : Option Val} {mask : List Str} {m : Nat} (g : Good st) : ∀ (cur : List Int) (acc : List Int) (T : Store) (v5 v6 v7 : Option Val), (∀ x ∈ cur, 0 ≤ x ∧ x < (st.length : Int)) → T[m]? = some (some (.lst (acc.map PyData.int))) → acc.length + 4 * cur.length < 10000 →
    ∃ w5 w6 w7, loop (gN 5) lS none ((cur.map PyData.int).map Val.dat) [some (.dat (encR st en)), v1, v2, some (.dat (encT mask)), some (.ref m), v5, v6, v7] T = .nx [some (.dat (encR st en)), v1, v2, some (.dat (encT mask)), some (.ref m), w5, w6, w7] (T.set m (some (.lst (((cur.flatMap (outs st mask)).foldl addJ acc).map PyData.int))))
  | [], acc, T, v5, v6, v7, _, hT, _ => ⟨v5, v6, v7, by
      have : T.set m (some (.lst (acc.map PyData.int))) = T := by
        apply List.ext_getElem?
        intro i
        by_cases hi : i = m
        · subst hi
          rw [set_get hT, hT]
        · rw [List.getElem?_set_ne (Ne.symm hi)]
      show Flow.nx _ _ = Flow.nx _ (T.set m (some (.lst (acc.map PyData.int))))
      rw [this]⟩
  | s :: cur, acc, T, v5, v6, v7, hc, hT, hl => by
    simp only [List.length_cons] at hl
    obtain ⟨h0, h1⟩ := hc s (by simp)
    have hs := st_at (st := st) h0 h1
    have hol := outs_len g mask s
    have hw : (st[s.toNat]?.getD []).length ≤ 4 := by
      by_cases hs : s.toNat < st.length
      · rw [List.getElem?_eq_getElem hs, Option.getD_some]
        exact g.wide _ (List.getElem_mem hs)
      · omega
    obtain ⟨w6, w7, e⟩ := la_in (v0 := some (.dat (encR st en))) (v1 := v1) (v2 := v2) (v5 := some (.dat (.int s))) (mask := mask) (m := m) (st[s.toNat]?.getD []) acc T v6 v7 hT (by omega)
    have hb : lS [some (.dat (encR st en)), v1, v2, some (.dat (encT mask)), some (.ref m), some (.dat (.int s)), v6, v7] T = .nx [some (.dat (encR st en)), v1, v2, some (.dat (encT mask)), some (.ref m), some (.dat (.int s)), w6, w7] (T.set m (some (.lst (((outs st mask s).foldl addJ acc).map PyData.int)))) := by
      simp only [lS, sF, iA, e2, eV_s, eV_0, eD_, bind_ok, view_dat, Option.bind_some, idx_R0, ofOpt_some, pIdx_t, hs, encS, itemsOf, guardOf]
      exact e
    have hfl := fold_len (outs st mask s) acc
    obtain ⟨x5, x6, x7, e2⟩ := la_out (en := en) (v1 := v1) (v2 := v2) (mask := mask) (m := m) g cur ((outs st mask s).foldl addJ acc) (T.set m (some (.lst (((outs st mask s).foldl addJ acc).map PyData.int)))) (some (.dat (.int s))) w6 w7 (fun x hx => hc x (by simp [hx])) (set_get hT) (by omega)
    refine ⟨x5, x6, x7, ?_⟩
    rw [List.map_cons, List.map_cons, loop_nx (show gN 5 _ _ = some _ from rfl) hb, e2, List.set_set, List.flatMap_cons, List.foldl_append]
theorem labove_ok {S : Store} {st : Sts} {en : List Int} {ms : List (List Str)} (g : Good st) (hm : ms.length < 1000) : m__law_above [.dat (encR st en), .dat (encM ms)] S = .ok (.dat (.list (([0] :: abT st ms [0]).map encL))) S := by
  obtain ⟨env', T, el, rest', R, cur, w3, w4, w5, w6, w7, rfl, hrest, hT, hRc, hrow, hlen, hbase⟩ := loop_ok (g := gN 3) (k := none) (b := (sQ (sG (eLstC (aN)) (gN 4)) (sQ (sF (iA (e2 pIdx (eV 2) (e1 pNeg (eD (.int 1))))) (gN 5) lS) (sApp (eV 2) (e1 pSorted (eV 4))))))
    (fun rest env T => ∃ (rest' : List (List Str)) (R : List (List Int)) (cur : List Int) (w3 w4 w5 w6 w7 : Option Val), env = [some (.dat (encR st en)), some (.dat (encM ms)), some (.ref S.length), w3, w4, w5, w6, w7] ∧ rest = (rest'.map encT).map Val.dat ∧ T[S.length]? = some (some (.lst ((R ++ [cur]).map encL))) ∧ (R ++ [cur]) ++ abT st rest' cur = [0] :: abT st ms [0] ∧ Row st cur ∧ R.length + rest'.length = ms.length ∧ T.take S.length = S)
    (by
      rintro x xs env T ⟨rest', R, cur, w3, w4, w5, w6, w7, rfl, hrest, hT, hRc, hrow, hlen, hbase⟩
      cases rest' with
      | nil => cases hrest
      | cons mask rest' =>
        simp only [List.map_cons, List.cons.injEq] at hrest
        obtain ⟨rfl, rfl⟩ := hrest
        refine ⟨_, rfl, ?_⟩
        have hTl := (List.getElem?_eq_some_iff.1 hT).1
        have hT1 : (T ++ [some (Cell.lst [])])[S.length]? = some (some (.lst ((R ++ [cur]).map encL))) := by
          rw [List.getElem?_append_left hTl]
          exact hT
        have hv := view_lst hT1
        have hrl := hrow.len
        have hg := g.few
        obtain ⟨x5, x6, x7, e⟩ := la_out (en := en) (v1 := some (.dat (encM ms))) (v2 := some (.ref S.length)) (mask := mask) (m := T.length) g cur [] (T ++ [some (Cell.lst [])]) w5 w6 w7 hrow.2 (by simp) (by simp; omega)
        have hT2 : ((T ++ [some (Cell.lst [])]).set T.length (some (.lst ((onceJ (cur.flatMap (outs st mask))).map PyData.int))))[S.length]? = some (some (.lst ((R ++ [cur]).map encL))) := by
          rw [List.getElem?_set_ne (by omega)]
          exact hT1
        have hM : ((T ++ [some (Cell.lst [])]).set T.length (some (.lst ((onceJ (cur.flatMap (outs st mask))).map PyData.int))))[T.length]? = some (some (.lst ((onceJ (cur.flatMap (outs st mask))).map PyData.int))) := by simp
        have hv2 := view_lst hM
        refine ⟨[some (.dat (encR st en)), some (.dat (encM ms)), some (.ref S.length), some (.dat (encT mask)), some (.ref T.length), x5, x6, x7], ((T ++ [some (Cell.lst [])]).set T.length (some (.lst ((onceJ (cur.flatMap (outs st mask))).map PyData.int)))).set S.length (some (.lst ((R ++ [cur] ++ [nxt st cur mask]).map encL))), ?_, trivial, rest', R ++ [cur], nxt st cur mask, _, _, x5, x6, x7, rfl, rfl, set_get hT2, ?_, nxt_row g cur mask, by simp at hlen ⊢; omega, ?_⟩
        · have hit : (iA (e2 pIdx (eV 2) (e1 pNeg (eD (.int 1))))) [some (.dat (encR st en)), some (.dat (encM ms)), some (.ref S.length), some (.dat (encT mask)), some (.ref T.length), w5, w6, w7] (T ++ [some (Cell.lst [])]) = .ok ((cur.map PyData.int).map Val.dat, none) (T ++ [some (Cell.lst [])]) := by
            simp only [iA, e2, e1, eV_s, eV_0, eD_, bind_ok, view_dat, Option.bind_some, pNeg_i, ofOpt_some, hv, pIdx_l, List.map_append, List.map_cons, List.map_nil, itemAt_last, encL, itemsOf, guardOf]
          have hsa := sApp_ok (a := eV 2) (b := e1 pSorted (eV 4)) (env := [some (.dat (encR st en)), some (.dat (encM ms)), some (.ref S.length), some (.dat (encT mask)), some (.ref T.length), x5, x6, x7]) (S := (T ++ [some (Cell.lst [])]).set T.length (some (.lst ((onceJ (cur.flatMap (outs st mask))).map PyData.int)))) (S2 := (T ++ [some (Cell.lst [])]).set T.length (some (.lst ((onceJ (cur.flatMap (outs st mask))).map PyData.int)))) (n := S.length) (ds := (R ++ [cur]).map encL) (d := encL (nxt st cur mask)) rfl hT2
            (by simp only [e1, eV_s, eV_0, bind_ok, hv2, Option.bind_some, pSorted_ints, ofOpt_some]; rfl) hT2 (by simp at hlen ⊢; omega)
          simp only [sQ, sG, gN, List.set, eLstC, aN, bind_ok, dats, ofOpt_some, List.length_nil, lineN, Nat.zero_le, if_true, andThen_ok, next_nx, sF, hit]
          rw [e]
          simp only [next_nx]
          refine hsa.trans ?_
          simp
        · rw [← hRc, abT]
          simp
        · rw [List.take_set_of_le (by omega), List.take_set_of_le (by omega), List.take_append_of_le_length (by omega)]
          exact hbase)
    ((ms.map encT).map Val.dat) [some (.dat (encR st en)), some (.dat (encM ms)), some (.ref S.length), none, none, none, none, none] (S ++ [some (.lst [encL [0]])])
    ⟨ms, [], [0], none, none, none, none, none, rfl, rfl, by simp, by simp, row_0 g, by simp, by simp⟩
  have hr0 : rest' = [] := by
    cases rest' with
    | nil => rfl
    | cons y r => cases hrest
  subst hr0
  simp only [abT, List.append_nil] at hRc
  have hbd : b__law_above = sQ (sG (eLstC (aC (eLst (aC (eD (.int 0)) (aN))) (aN))) (gN 2)) (sQ (sF (iA (eV 1)) (gN 3) (sQ (sG (eLstC (aN)) (gN 4)) (sQ (sF (iA (e2 pIdx (eV 2) (e1 pNeg (eD (.int 1))))) (gN 5) lS) (sApp (eV 2) (e1 pSorted (eV 4)))))) (sR (eFrz (eV 2)))) := rfl
  have q0 : (eLstC (aC (eLst (aC (eD (.int 0)) (aN))) (aN))) [some (.dat (encR st en)), some (.dat (encM ms)), none, none, none, none, none, none] S = .ok (.ref S.length) (S ++ [some (.lst [encL [0]])]) := by
    simp [eLstC, eLst, aC, aN, dats, lineN, encL]
  simp only [m__law_above, mkFn, startEnv, hbd, sQ, List.map_cons, List.map_nil, List.length_cons, List.length_nil, List.replicate, List.cons_append, List.nil_append, Nat.reduceAdd, Nat.reduceSub]
  simp only [sQ, sG, gN, eV_s, eV_0, andThen_ok, next_nx, List.set, q0, sF, iA, bind_ok, view_dat, items_M, Option.bind_some, ofOpt_some, guardOf]
  rw [el]
  simp only [next_nx, sR, eFrz, eV_s, eV_0, bind_ok, freeze, hT, andThen_ok, hRc]
  rw [List.take_set_of_le (by omega), hbase]
  rfl
end Ev

set_option linter.all false
set_option maxHeartbeats 1000000
namespace Ev
open PySem
def hit (mask : List Str) (good : List Int) (p : Str × Int) : Bool := decide (p.1 ∈ mask) && decide (p.2 ∈ good)
def prvF (mask : List Str) (good : List Int) : Nat → Sts → List Int
  | _, [] => []
  | n, s :: st => if s.any (hit mask good) = true then (n : Int) :: prvF mask good (n + 1) st else prvF mask good (n + 1) st
def flatF (mask : List Str) (good : List Int) : Nat → Sts → List Int
  | _, [] => []
  | n, s :: st => (s.filter (hit mask good)).map (fun _ => (n : Int)) ++ flatF mask good (n + 1) st
theorem prvF_ge (mask : List Str) (good : List Int) : ∀ (st : Sts) (n : Nat), ∀ x ∈ prvF mask good n st, (n : Int) ≤ x ∧ x < ((n + st.length : Nat) : Int)
  | [], n, x, h => by cases h
  | s :: st, n, x, h => by
    unfold prvF at h
    split at h
    · rw [List.mem_cons] at h
      rcases h with rfl | h
      · simp
        omega
      · have := prvF_ge mask good st (n + 1) x h
        simp at *
        omega
    · have := prvF_ge mask good st (n + 1) x h
      simp at *
      omega
theorem prvF_asc (mask : List Str) (good : List Int) : ∀ (st : Sts) (n : Nat), (prvF mask good n st).Pairwise (· < ·)
  | [], n => by simp [prvF]
  | s :: st, n => by
    unfold prvF
    split
    · rw [List.pairwise_cons]
      refine ⟨fun x hx => ?_, prvF_asc mask good st (n + 1)⟩
      have := prvF_ge mask good st (n + 1) x hx
      omega
    · exact prvF_asc mask good st (n + 1)
theorem flatF_mem (mask : List Str) (good : List Int) (x : Int) : ∀ (st : Sts) (n : Nat), x ∈ flatF mask good n st ↔ x ∈ prvF mask good n st
  | [], n => by simp [flatF, prvF]
  | s :: st, n => by
    unfold flatF prvF
    rw [List.mem_append, flatF_mem mask good x st (n + 1)]
    split
    · rename_i h
      rw [List.any_eq_true] at h
      obtain ⟨p, hp, hh⟩ := h
      rw [List.mem_cons]
      constructor
      · rintro (h | h)
        · obtain ⟨_, _, rfl⟩ := List.mem_map.1 h
          exact .inl rfl
        · exact .inr h
      · rintro (rfl | h)
        · exact .inl (List.mem_map.2 ⟨p, List.mem_filter.2 ⟨hp, hh⟩, rfl⟩)
        · exact .inr h
    · rename_i h
      constructor
      · rintro (h' | h')
        · obtain ⟨p, hp, rfl⟩ := List.mem_map.1 h'
          rw [List.mem_filter] at hp
          exact absurd (List.any_eq_true.2 ⟨p, hp.1, hp.2⟩) h
        · exact h'
      · exact .inr
def prv (st : Sts) (mask : List Str) (good : List Int) : List Int := prvF mask good 0 st
theorem prv_eq (st : Sts) (mask : List Str) (good : List Int) : sortI (onceJ (flatF mask good 0 st)) = prv st mask good :=
  asc_ext (sortI_asc (onceJ_nodup _)) (prvF_asc mask good st 0) fun x => by rw [sortI_mem, onceJ_mem, flatF_mem]; rfl
theorem prv_row (st : Sts) (mask : List Str) (good : List Int) : Row st (prv st mask good) :=
  ⟨prvF_asc mask good st 0, fun x hx => by have := prvF_ge mask good st 0 x hx; simp at this; omega⟩
def beR (st : Sts) : List (List Str) → List Int → List (List Int)
  | [], _ => []
  | m :: ms, good => prv st m good :: beR st ms (prv st m good)
theorem flatF_len {mask : List Str} {good : List Int} : ∀ (st : Sts) (n : Nat), (∀ s ∈ st, s.length ≤ 4) → (flatF mask good n st).length ≤ 4 * st.length
  | [], n, _ => by simp [flatF]
  | s :: st, n, h => by
    have h1 := flatF_len (mask := mask) (good := good) st (n + 1) fun t ht => h t (by simp [ht])
    have h2 := h s (by simp)
    have h3 := List.length_filter_le (hit mask good) s
    unfold flatF
    rw [List.length_append, List.length_map, List.length_cons]
    omega
theorem be_in {v0 v1 v2 v3 v4 v8 v11 : Option Val} {T : Store} {mask : List Str} {good : List Int} {z : Int} (l : List (Str × Int)) : compGo (gT [gN 9, gN 10]) (tAnd (t2 pIn (eV 9) (eV 5)) (t2 pIn (eV 10) (eV 6))) (cEI (eV 7)) none ((l.map encP).map Val.dat) [v0, v1, v2, v3, v4, some (.dat (encT mask)), some (.dat (encI good)), some (.dat (.int z)), v8, none, none, v11] T = .ok (((l.filter (hit mask good)).map fun _ => z).map PyData.int) T := by
  induction l with
  | nil => rfl
  | cons p l ih =>
    have hg : gT [gN 9, gN 10] (.dat (encP p)) [v0, v1, v2, v3, v4, some (.dat (encT mask)), some (.dat (encI good)), some (.dat (.int z)), v8, none, none, v11] = some [v0, v1, v2, v3, v4, some (.dat (encT mask)), some (.dat (encI good)), some (.dat (.int z)), v8, some (.dat (.str p.1)), some (.dat (.int p.2)), v11] := rfl
    have ht : (tAnd (t2 pIn (eV 9) (eV 5)) (t2 pIn (eV 10) (eV 6))) [v0, v1, v2, v3, v4, some (.dat (encT mask)), some (.dat (encI good)), some (.dat (.int z)), v8, some (.dat (.str p.1)), some (.dat (.int p.2)), v11] T = .ok (hit mask good p) T := by
      by_cases h1 : p.1 ∈ mask <;> by_cases h2 : p.2 ∈ good <;> simp [tAnd, t2, encT, encI, pIn_strsT, pIn_intsT, h1, h2, hit]
    have hc : cEI (eV 7) [v0, v1, v2, v3, v4, some (.dat (encT mask)), some (.dat (encI good)), some (.dat (.int z)), v8, some (.dat (.str p.1)), some (.dat (.int p.2)), v11] T = .ok [.int z] T := by simp [cEI]
    rw [List.map_cons, List.map_cons]
    simp only [compGo, hg, ht, bind_ok]
    cases hh : hit mask good p
    · simp only [Bool.false_eq_true, if_false, bind_ok]
      rw [if_pos (show keeps none T from trivial), ih]
      simp [hh]
    · simp only [if_true, hc, bind_ok]
      rw [if_pos (show keeps none T from trivial), ih]
      simp [hh]
theorem be_out {v0 v1 v2 v3 v4 v11 : Option Val} {T : Store} {mask : List Str} {good : List Int} : ∀ (st : Sts) (n : Nat),
    compGo (gT [gN 7, gN 8]) tYes (cF [9, 10] (iA (eV 8)) (gT [gN 9, gN 10]) (tAnd (t2 pIn (eV 9) (eV 5)) (t2 pIn (eV 10) (eV 6))) (cEI (eV 7))) none ((enumD n (st.map encS)).map Val.dat) [v0, v1, v2, v3, v4, some (.dat (encT mask)), some (.dat (encI good)), none, none, none, none, v11] T = .ok ((flatF mask good n st).map PyData.int) T
  | [], n => rfl
  | s :: st, n => by
    have ih := be_out (v0 := v0) (v1 := v1) (v2 := v2) (v3 := v3) (v4 := v4) (v11 := v11) (T := T) (mask := mask) (good := good) st (n + 1)
    obtain ⟨z, hz⟩ : ∃ z : Int, z = (n : Int) := ⟨_, rfl⟩
    have hg : gT [gN 7, gN 8] (.dat (.tuple [.int z, encS s])) [v0, v1, v2, v3, v4, some (.dat (encT mask)), some (.dat (encI good)), none, none, none, none, v11] = some [v0, v1, v2, v3, v4, some (.dat (encT mask)), some (.dat (encI good)), some (.dat (.int z)), some (.dat (encS s)), none, none, v11] := rfl
    have hb : (cF [9, 10] (iA (eV 8)) (gT [gN 9, gN 10]) (tAnd (t2 pIn (eV 9) (eV 5)) (t2 pIn (eV 10) (eV 6))) (cEI (eV 7))) [v0, v1, v2, v3, v4, some (.dat (encT mask)), some (.dat (encI good)), some (.dat (.int z)), some (.dat (encS s)), none, none, v11] T = .ok (((s.filter (hit mask good)).map fun _ => z).map PyData.int) T := by
      simp only [cF, iA, eV_s, eV_0, bind_ok, view_dat, Option.bind_some, encS, itemsOf, ofOpt_some, guardOf, wipeE, List.set]
      exact be_in s
    rw [List.map_cons, enumD, ← hz, List.map_cons]
    simp only [compGo, hg, tYes, bind_ok, if_true, hb]
    rw [if_pos (show keeps none T from trivial), ih]
    simp only [bind_ok, flatF, List.map_append, ← hz]
noncomputable def pB : Fs := (sQ (sG (e2 pIdx (eV 4) (e1 pNeg (eD (.int 1)))) (gN 6))
  (sQ (sG (eSc true (cF [7, 8, 9, 10] (iEnum (eV 2)) (gT [gN 7, gN 8]) (tYes) (cF [9, 10] (iA (eV 8)) (gT [gN 9, gN 10]) (tAnd (t2 pIn (eV 9) (eV 5)) (t2 pIn (eV 10) (eV 6))) (cEI (eV 7))))) (gN 11))
  (sApp (eV 4) (e1 pTup (eSortSet (eV 11))))))
theorem below_ok {S : Store} {st : Sts} {en : List Int} {ms : List (List Str)} (g : Good st) (hen : Row st en) (hm : ms.length < 1000) : m_states_below [.dat (encR st en), .dat (encM ms)] S = .ok (.dat (.tuple ((en :: beR st ms.reverse en).reverse.map encI))) S := by
  obtain ⟨env', T, el, rest', R, cur, w5, w6, w7, w8, w9, w10, w11, rfl, hrest, hT, hRc, hrow, hlen, hbase⟩ := loop_ok (g := gN 5) (k := none) (b := pB)
    (fun rest env T => ∃ (rest' : List (List Str)) (R : List (List Int)) (cur : List Int) (w5 w6 w7 w8 w9 w10 w11 : Option Val), env = [some (.dat (encR st en)), some (.dat (encM ms)), some (.dat (.tuple (st.map encS))), some (.dat (.tuple (en.map PyData.int))), some (.ref S.length), w5, w6, w7, w8, w9, w10, w11] ∧ rest = (rest'.map encT).map Val.dat ∧ T[S.length]? = some (some (.lst ((R ++ [cur]).map encI))) ∧ (R ++ [cur]) ++ beR st rest' cur = en :: beR st ms.reverse en ∧ Row st cur ∧ R.length + rest'.length = ms.length ∧ T.take S.length = S)
    (by
      rintro x xs env T ⟨rest', R, cur, w5, w6, w7, w8, w9, w10, w11, rfl, hrest, hT, hRc, hrow, hlen, hbase⟩
      cases rest' with
      | nil => cases hrest
      | cons mask rest' =>
        simp only [List.map_cons, List.cons.injEq] at hrest
        obtain ⟨rfl, rfl⟩ := hrest
        refine ⟨_, rfl, ?_⟩
        have hv := view_lst hT
        have hfl := flatF_len (mask := mask) (good := cur) st 0 g.wide
        have hg := g.few
        have hgd : (e2 pIdx (eV 4) (e1 pNeg (eD (.int 1)))) [some (.dat (encR st en)), some (.dat (encM ms)), some (.dat (.tuple (st.map encS))), some (.dat (.tuple (en.map PyData.int))), some (.ref S.length), some (.dat (encT mask)), w6, w7, w8, w9, w10, w11] T = .ok (.dat (encI cur)) T := by
          simp only [e2, e1, eV_s, eV_0, eD_, bind_ok, view_dat, Option.bind_some, pNeg_i, ofOpt_some, hv, pIdx_l, List.map_append, List.map_cons, List.map_nil, itemAt_last]
        have hset : (eSc true (cF [7, 8, 9, 10] (iEnum (eV 2)) (gT [gN 7, gN 8]) (tYes) (cF [9, 10] (iA (eV 8)) (gT [gN 9, gN 10]) (tAnd (t2 pIn (eV 9) (eV 5)) (t2 pIn (eV 10) (eV 6))) (cEI (eV 7))))) [some (.dat (encR st en)), some (.dat (encM ms)), some (.dat (.tuple (st.map encS))), some (.dat (.tuple (en.map PyData.int))), some (.ref S.length), some (.dat (encT mask)), some (.dat (encI cur)), w7, w8, w9, w10, w11] T = .ok (.set true ((onceJ (flatF mask cur 0 st)).map PyData.int)) T := by
          refine eSc_ok ?_ (by omega)
          simp only [cF, iEnum, eV_s, eV_0, bind_ok, seqD, ofOpt_some, wipeE, List.set]
          exact be_out st 0
        have hol : (onceJ (flatF mask cur 0 st)).length < 64 := by
          have := (prv_row st mask cur).len
          rw [← prv_eq, (sortI_perm _).length_eq] at this
          omega
        refine ⟨_, T.set S.length (some (.lst ((R ++ [cur] ++ [prv st mask cur]).map encI))), ?_, trivial, rest', R ++ [cur], prv st mask cur, some (.dat (encT mask)), some (.dat (encI cur)), w7, w8, w9, w10, some (.set true ((onceJ (flatF mask cur 0 st)).map PyData.int)), rfl, rfl, set_get hT, ?_, prv_row st mask cur, by simp at hlen ⊢; omega, ?_⟩
        · have hs := eSort_ok (a := eV 11) (env := [some (.dat (encR st en)), some (.dat (encM ms)), some (.dat (.tuple (st.map encS))), some (.dat (.tuple (en.map PyData.int))), some (.ref S.length), some (.dat (encT mask)), some (.dat (encI cur)), w7, w8, w9, w10, some (.set true ((onceJ (flatF mask cur 0 st)).map PyData.int))]) (S := T) rfl hol
          rw [prv_eq] at hs
          simp only [pB, sQ, sG, gN, List.set, hgd, andThen_ok, next_nx, hset]
          rw [sApp_ok (n := S.length) (ds := (R ++ [cur]).map encI) (d := encI (prv st mask cur)) (S2 := T) rfl hT hs hT (by simp at hlen ⊢; omega)]
          simp
        · rw [← hRc, beR]
          simp
        · rw [List.take_set_of_le (by omega)]
          exact hbase)
    ((ms.reverse.map encT).map Val.dat) [some (.dat (encR st en)), some (.dat (encM ms)), some (.dat (.tuple (st.map encS))), some (.dat (.tuple (en.map PyData.int))), some (.ref S.length), none, none, none, none, none, none, none] (S ++ [some (.lst [encI en])])
    ⟨ms.reverse, [], en, none, none, none, none, none, none, none, rfl, rfl, by simp, by simp, hen, by simp, by simp⟩
  have hr0 : rest' = [] := by
    cases rest' with
    | nil => rfl
    | cons y r => cases hrest
  subst hr0
  simp only [beR, List.append_nil] at hRc
  have hv := view_lst hT
  have hbd : b_states_below = sQ (sG (eV 0) (gT [gN 2, gN 3])) (sQ (sG (eLstC (aC (eV 3) (aN))) (gN 4)) (sQ (sF (iA (e1 pRev (eV 1))) (gN 5) pB) (sR (e1 pTup (e1 pRev (eV 4)))))) := rfl
  have q0 : (eLstC (aC (eV 3) (aN))) [some (.dat (encR st en)), some (.dat (encM ms)), some (.dat (.tuple (st.map encS))), some (.dat (.tuple (en.map PyData.int))), none, none, none, none, none, none, none, none] S = .ok (.ref S.length) (S ++ [some (.lst [encI en])]) := by
    simp [eLstC, aC, aN, dats, lineN, encI]
  have hrv : pRev (encM ms) = some (.tuple (ms.reverse.map encT)) := by
    show some (PyData.tuple (ms.map encT).reverse) = _
    rw [List.map_reverse]
  simp only [m_states_below, mkFn, startEnv, hbd, sQ, List.map_cons, List.map_nil, List.length_cons, List.length_nil, List.replicate, List.cons_append, List.nil_append, Nat.reduceAdd, Nat.reduceSub]
  simp only [sQ, sG, gT_R, gN, putAll, eV_s, eV_0, andThen_ok, next_nx, List.set, Option.bind_some, q0, sF, iA, e1, bind_ok, view_dat, hrv, itemsOf, ofOpt_some, guardOf]
  rw [el]
  simp only [next_nx, sR, e1, eV_s, eV_0, bind_ok, hv, Option.bind_some, pRev_l, pTup_l, ofOpt_some, view_dat, andThen_ok, hbase, hRc, List.map_reverse]
end Ev

set_option linter.all false
set_option maxHeartbeats 1000000
namespace Ev
open PySem
theorem pNe_inil {xs : List Int} : pNe (.list (xs.map PyData.int)) (.list []) = some (!xs.isEmpty) := by
  have h1 : PyData.canLayAll0 (xs.map PyData.int) = true := by
    induction xs with
    | nil => rfl
    | cons x xs ih => simp [PyData.canLayAll0, PyData.canLay0, ih]
  have h2 : PyData.depthAll (xs.map PyData.int) ≤ 1 := by
    clear h1
    induction xs with
    | nil => simp [PyData.depthAll]
    | cons x xs ih => simp [PyData.depthAll, PyData.depth]; omega
  have h3 : SeqAt.shaped (.list (xs.map PyData.int)) = true := by
    simp [SeqAt.shaped, PyData.canLay0, h1, PyData.depth]
    omega
  unfold pNe
  rw [if_pos ⟨h3, by decide⟩]
  cases xs <;> rfl
theorem lb_in {v0 v4 v5 v6 : Option Val} {T : Store} {ms : List (List Str)} {F : List (List Int)} {mask : List Str} {good : List Int} {z : Int} (hz : pIdx (encM ms) (.int z) = some (encT mask)) (l : List (Str × Int)) : compGo (gT [gN 7, gN 8]) (tAnd (t2 pIn (eV 7) (e2 pIdx (eV 1) (eV 3))) (t2 pIn (eV 8) (e2 pIdx (eV 2) (eD (.int 0))))) (cE (eD (.int 1))) none ((l.map encP).map Val.dat) [v0, some (.dat (encM ms)), some (.dat (.list ((good :: F).map encL))), some (.dat (.int z)), v4, v5, v6, none, none] T = .ok (((l.filter (hit mask good)).map fun _ => (1 : Int)).map PyData.int) T := by
  induction l with
  | nil => rfl
  | cons p l ih =>
    have hg : gT [gN 7, gN 8] (.dat (encP p)) [v0, some (.dat (encM ms)), some (.dat (.list ((good :: F).map encL))), some (.dat (.int z)), v4, v5, v6, none, none] = some [v0, some (.dat (encM ms)), some (.dat (.list ((good :: F).map encL))), some (.dat (.int z)), v4, v5, v6, some (.dat (.str p.1)), some (.dat (.int p.2))] := rfl
    have ht : (tAnd (t2 pIn (eV 7) (e2 pIdx (eV 1) (eV 3))) (t2 pIn (eV 8) (e2 pIdx (eV 2) (eD (.int 0))))) [v0, some (.dat (encM ms)), some (.dat (.list ((good :: F).map encL))), some (.dat (.int z)), v4, v5, v6, some (.dat (.str p.1)), some (.dat (.int p.2))] T = .ok (hit mask good p) T := by
      by_cases h1 : p.1 ∈ mask <;> by_cases h2 : p.2 ∈ good <;> simp [tAnd, t2, e2, hz, encT, encL, pIn_strsT, pIn_intsL, h1, h2, hit]
    rw [List.map_cons, List.map_cons]
    simp only [compGo, hg, ht, bind_ok]
    cases hh : hit mask good p
    · simp only [Bool.false_eq_true, if_false, bind_ok]
      rw [if_pos (show keeps none T from trivial), ih]
      simp [hh]
    · simp only [if_true, cE, eD_, bind_ok]
      rw [if_pos (show keeps none T from trivial), ih]
      simp [hh]
noncomputable def lH : Fs := (sI (t2 pNe (eLc (cF [7, 8] (iA (eV 6)) (gT [gN 7, gN 8]) (tAnd (t2 pIn (eV 7) (e2 pIdx (eV 1) (eV 3))) (t2 pIn (eV 8) (e2 pIdx (eV 2) (eD (.int 0))))) (cE (eD (.int 1))))) (eLst (aN))) (sApp (eV 4) (eV 5)) (sN))
theorem lb_out {v0 v7 v8 : Option Val} {ms : List (List Str)} {F : List (List Int)} {mask : List Str} {good : List Int} {z : Int} {m : Nat} (hz : pIdx (encM ms) (.int z) = some (encT mask)) : ∀ (st : Sts) (n : Nat) (acc : List Int) (T : Store) (v5 v6 : Option Val), (∀ s ∈ st, s.length ≤ 4) → T[m]? = some (some (.lst (acc.map PyData.int))) → acc.length + st.length < 10000 →
    ∃ w5 w6, loop (gT [gN 5, gN 6]) lH none ((enumD n (st.map encS)).map Val.dat) [v0, some (.dat (encM ms)), some (.dat (.list ((good :: F).map encL))), some (.dat (.int z)), some (.ref m), v5, v6, v7, v8] T = .nx [v0, some (.dat (encM ms)), some (.dat (.list ((good :: F).map encL))), some (.dat (.int z)), some (.ref m), w5, w6, v7, v8] (T.set m (some (.lst ((acc ++ prvF mask good n st).map PyData.int))))
  | [], n, acc, T, v5, v6, _, hT, _ => ⟨v5, v6, by
      have : T.set m (some (.lst (acc.map PyData.int))) = T := by
        apply List.ext_getElem?
        intro i
        by_cases hi : i = m
        · subst hi
          rw [set_get hT, hT]
        · rw [List.getElem?_set_ne (Ne.symm hi)]
      show Flow.nx _ _ = Flow.nx _ (T.set m (some (.lst ((acc ++ []).map PyData.int))))
      rw [List.append_nil, this]⟩
  | s :: st, n, acc, T, v5, v6, hw, hT, hl => by
    simp only [List.length_cons] at hl
    obtain ⟨y, hy⟩ : ∃ y : Int, y = (n : Int) := ⟨_, rfl⟩
    have hws := hw s (by simp)
    have hg : ∀ env : MEnv, gT [gN 5, gN 6] (.dat (.tuple [.int y, encS s])) env = some ((env.set 5 (some (.dat (.int y)))).set 6 (some (.dat (encS s)))) := fun _ => rfl
    have hin := lb_in (v0 := v0) (v4 := some (.ref m)) (v5 := some (.dat (.int y))) (v6 := some (.dat (encS s))) (T := T) (F := F) (good := good) hz s
    have hfl := List.length_filter_le (hit mask good) s
    have hc : (t2 pNe (eLc (cF [7, 8] (iA (eV 6)) (gT [gN 7, gN 8]) (tAnd (t2 pIn (eV 7) (e2 pIdx (eV 1) (eV 3))) (t2 pIn (eV 8) (e2 pIdx (eV 2) (eD (.int 0))))) (cE (eD (.int 1))))) (eLst (aN))) [v0, some (.dat (encM ms)), some (.dat (.list ((good :: F).map encL))), some (.dat (.int z)), some (.ref m), some (.dat (.int y)), some (.dat (encS s)), v7, v8] T = .ok (s.any (hit mask good)) T := by
      have hle : (((s.filter (hit mask good)).map fun _ => (1 : Int)).map PyData.int).length ≤ 16777216 := by simp; omega
      have hit0 : (iA (eV 6)) [v0, some (.dat (encM ms)), some (.dat (.list ((good :: F).map encL))), some (.dat (.int z)), some (.ref m), some (.dat (.int y)), some (.dat (encS s)), v7, v8] T = .ok ((s.map encP).map Val.dat, none) T := rfl
      have hem : (!((s.filter (hit mask good)).map fun _ => (1 : Int)).isEmpty) = s.any (hit mask good) := by
        rw [Bool.eq_iff_iff]
        simp [List.isEmpty_iff]
      simp only [t2, eLc, cF, hit0, bind_ok, wipeE, List.set, hin, noX_ok, lineN, hle, if_true, eLst, aN, dats, ofOpt_some, List.length_nil, Nat.zero_le, view_dat, Option.bind_some, pNe_inil, hem]
    rw [List.map_cons, enumD, ← hy, List.map_cons]
    unfold prvF
    cases hh : s.any (hit mask good)
    · obtain ⟨w5, w6, e⟩ := lb_out (v0 := v0) (v7 := v7) (v8 := v8) (F := F) (good := good) hz st (n + 1) acc T (some (.dat (.int y))) (some (.dat (encS s))) (fun t ht => hw t (by simp [ht])) hT (by omega)
      refine ⟨w5, w6, ?_⟩
      have hb : lH [v0, some (.dat (encM ms)), some (.dat (.list ((good :: F).map encL))), some (.dat (.int z)), some (.ref m), some (.dat (.int y)), some (.dat (encS s)), v7, v8] T = .nx [v0, some (.dat (encM ms)), some (.dat (.list ((good :: F).map encL))), some (.dat (.int z)), some (.ref m), some (.dat (.int y)), some (.dat (encS s)), v7, v8] T := by
        simp only [lH, sI, hc, hh, andTest_ok, Bool.false_eq_true, if_false, sN]
      rw [loop_nx (hg _) hb, e]
      simp
    · obtain ⟨w5, w6, e⟩ := lb_out (v0 := v0) (v7 := v7) (v8 := v8) (F := F) (good := good) hz st (n + 1) (acc ++ [y]) (T.set m (some (.lst ((acc ++ [y]).map PyData.int)))) (some (.dat (.int y))) (some (.dat (encS s))) (fun t ht => hw t (by simp [ht])) (set_get hT) (by simp; omega)
      refine ⟨w5, w6, ?_⟩
      have hs := sApp_ok (a := eV 4) (b := eV 5) (env := [v0, some (.dat (encM ms)), some (.dat (.list ((good :: F).map encL))), some (.dat (.int z)), some (.ref m), some (.dat (.int y)), some (.dat (encS s)), v7, v8]) (S := T) (S2 := T) (n := m) (ds := acc.map PyData.int) (d := .int y) rfl hT rfl hT (by simp; omega)
      have hb : lH [v0, some (.dat (encM ms)), some (.dat (.list ((good :: F).map encL))), some (.dat (.int z)), some (.ref m), some (.dat (.int y)), some (.dat (encS s)), v7, v8] T = .nx [v0, some (.dat (encM ms)), some (.dat (.list ((good :: F).map encL))), some (.dat (.int z)), some (.ref m), some (.dat (.int y)), some (.dat (encS s)), v7, v8] (T.set m (some (.lst ((acc ++ [y]).map PyData.int)))) := by
        simp only [lH, sI, hc, hh, andTest_ok, if_true]
        rw [hs]
        simp
      rw [loop_nx (hg _) hb, e, List.set_set]
      simp [← hy]
noncomputable def lP : Fs := (sQ (sG (eLstC (aN)) (gN 4)) (sQ (sF (iEnum (e2 pIdx (eV 0) (eD (.int 0)))) (gT [gN 5, gN 6]) lH) (sG (e2 pAdd (eLst (aC (eFrz (eV 4)) (aN))) (eV 2)) (gN 2))))
theorem m_at {ms : List (List Str)} {k : Nat} (h : k < ms.length) : pIdx (encM ms) (.int (k : Int)) = some (encT ms[k]) := by
  show itemAt (ms.map encT) (k : Int) = _
  rw [itemAt_nat (by simpa using h)]
  simp [h]
theorem lbelow_ok {S : Store} {st : Sts} {en : List Int} {ms : List (List Str)} (g : Good st) (hen : Row st en) (hm : ms.length < 1000) : m__law_below [.dat (encR st en), .dat (encM ms)] S = .ok (.dat (.list ((en :: beR st ms.reverse en).reverse.map encL))) S := by
  obtain ⟨env', T, el, i, R, cur, w3, w4, w5, w6, rfl, hi, hrest, hRc, hlen, hbase⟩ := loop_ok (g := gN 3) (k := none) (b := lP)
    (fun rest env T => ∃ (i : Nat) (R : List (List Int)) (cur : List Int) (w3 w4 w5 w6 : Option Val), env = [some (.dat (encR st en)), some (.dat (encM ms)), some (.dat (.list ((cur :: R).map encL))), w3, w4, w5, w6, none, none] ∧ i ≤ ms.length ∧ rest = ((List.range ms.length).drop i).map (fun (i : Nat) => Val.dat (.int (((ms.length : Int) - 1) + (i : Int) * -1))) ∧ (cur :: R).reverse ++ beR st (ms.reverse.drop i) cur = en :: beR st ms.reverse en ∧ R.length = i ∧ T.take S.length = S)
    (by
      rintro x xs env T ⟨i, R, cur, w3, w4, w5, w6, rfl, hi, hrest, hRc, hlen, hbase⟩
      have hil : i < ms.length := by
        apply Classical.byContradiction
        intro hn
        rw [List.drop_eq_nil_of_le (by simp; omega)] at hrest
        cases hrest
      rw [List.drop_eq_getElem_cons (by simpa using hil), List.map_cons, List.cons.injEq] at hrest
      obtain ⟨rfl, rfl⟩ := hrest
      rw [List.getElem_range]
      refine ⟨_, rfl, ?_⟩
      have hk : ms.length - 1 - i < ms.length := by omega
      have hat := m_at hk
      have hke : ((ms.length : Int) - 1) + (i : Int) * -1 = ((ms.length - 1 - i : Nat) : Int) := by omega
      rw [hke]
      obtain ⟨z, hz⟩ : ∃ z : Int, z = ((ms.length - 1 - i : Nat) : Int) := ⟨_, rfl⟩
      rw [← hz] at hat ⊢
      obtain ⟨mask, hmask⟩ : ∃ mask, mask = ms[ms.length - 1 - i] := ⟨_, rfl⟩
      rw [← hmask] at hat
      have hTl : S.length ≤ T.length := by
        have := congrArg List.length hbase
        simp at this
        omega
      have hg := g.few
      obtain ⟨x5, x6, e⟩ := lb_out (v0 := some (.dat (encR st en))) (v7 := none) (v8 := none) (F := R) (good := cur) (m := T.length) hat st 0 [] (T ++ [some (Cell.lst [])]) w5 w6 g.wide (by simp) (by simp; omega)
      refine ⟨[some (.dat (encR st en)), some (.dat (encM ms)), some (.dat (.list ((prv st mask cur :: cur :: R).map encL))), some (.dat (.int z)), some (.ref T.length), x5, x6, none, none], ((T ++ [some (Cell.lst [])]).set T.length (some (.lst ((prv st mask cur).map PyData.int)))).set T.length none, ?_, trivial, i + 1, cur :: R, prv st mask cur, _, _, x5, x6, rfl, by omega, rfl, ?_, by simp [hlen], ?_⟩
      · have hM : ((T ++ [some (Cell.lst [])]).set T.length (some (.lst ((prv st mask cur).map PyData.int))))[T.length]? = some (some (.lst ((prv st mask cur).map PyData.int))) := by simp
        have hen : (iEnum (e2 pIdx (eV 0) (eD (.int 0)))) [some (.dat (encR st en)), some (.dat (encM ms)), some (.dat (.list ((cur :: R).map encL))), some (.dat (.int z)), some (.ref T.length), w5, w6, none, none] (T ++ [some (Cell.lst [])]) = .ok ((enumD 0 (st.map encS)).map Val.dat, none) (T ++ [some (Cell.lst [])]) := by
          simp only [iEnum, e2, eV_0, eD_, bind_ok, view_dat, Option.bind_some, idx_R0, ofOpt_some, seqD]
        have hpa : pAdd (.list [.list ((prv st mask cur).map PyData.int)]) (.list ((cur :: R).map encL)) = some (.list ((prv st mask cur :: cur :: R).map encL)) := by
          rw [pAdd_ll, if_pos (by simp [lineN]; omega)]
          rfl
        have hfin : (e2 pAdd (eLst (aC (eFrz (eV 4)) (aN))) (eV 2)) [some (.dat (encR st en)), some (.dat (encM ms)), some (.dat (.list ((cur :: R).map encL))), some (.dat (.int z)), some (.ref T.length), x5, x6, none, none] ((T ++ [some (Cell.lst [])]).set T.length (some (.lst ((prv st mask cur).map PyData.int)))) = .ok (.dat (.list ((prv st mask cur :: cur :: R).map encL))) (((T ++ [some (Cell.lst [])]).set T.length (some (.lst ((prv st mask cur).map PyData.int)))).set T.length none) := by
          simp only [e2, eLst, aC, aN, eFrz, eV_s, eV_0, bind_ok, freeze, hM, dats, Option.map_some, ofOpt_some, List.length_cons, List.length_nil, lineN, Nat.reduceAdd, Nat.reduceLeDiff, if_true, view_dat, Option.bind_some, hpa]
        rw [List.nil_append] at e
        simp only [lP, sQ, sG, gN, List.set, eLstC, aN, bind_ok, dats, ofOpt_some, List.length_nil, lineN, Nat.zero_le, if_true, andThen_ok, next_nx, sF, hen]
        rw [e]
        have hfin' := hfin
        unfold prv at hfin'
        simp only [next_nx, sG, hfin', andThen_ok, gN, List.set]
        rfl
      · rw [← hRc]
        have hd : ms.reverse.drop i = mask :: ms.reverse.drop (i + 1) := by
          rw [List.drop_eq_getElem_cons (by simpa using hil), List.getElem_reverse, hmask]
        rw [hd, beR]
        simp
      · rw [List.take_set_of_le (by omega), List.take_set_of_le (by omega), List.take_append_of_le_length (by omega)]
        exact hbase)
    ((List.range ms.length).map (fun (i : Nat) => Val.dat (.int (((ms.length : Int) - 1) + (i : Int) * -1)))) [some (.dat (encR st en)), some (.dat (encM ms)), some (.dat (.list ([en].map encL))), none, none, none, none, none, none] S
    ⟨0, [], en, none, none, none, none, rfl, by omega, by simp, by simp, rfl, by simp⟩
  have hie : i = ms.length := by
    have := congrArg List.length hrest
    simp at this
    omega
  subst hie
  rw [List.drop_eq_nil_of_le (by simp)] at hRc
  simp only [beR, List.append_nil] at hRc
  have hbd : b__law_below = sQ (sG (eLst (aC (e1 pLst (e2 pIdx (eV 0) (eD (.int 1)))) (aN))) (gN 2)) (sQ (sF (iRd (e2 pSub (e1 pLen (eV 1)) (eD (.int 1))) (e1 pNeg (eD (.int 1)))) (gN 3) lP) (sR (eV 2))) := rfl
  have q0 : (eLst (aC (e1 pLst (e2 pIdx (eV 0) (eD (.int 1)))) (aN))) [some (.dat (encR st en)), some (.dat (encM ms)), none, none, none, none, none, none, none] S = .ok (.dat (.list ([en].map encL))) S := by
    simp [eLst, aC, aN, dats, lineN, e1, e2, idx_R1, encL]
  have q1 : (iRd (e2 pSub (e1 pLen (eV 1)) (eD (.int 1))) (e1 pNeg (eD (.int 1)))) [some (.dat (encR st en)), some (.dat (encM ms)), some (.dat (.list ([en].map encL))), none, none, none, none, none, none] S = .ok ((List.range ms.length).map (fun (i : Nat) => Val.dat (.int (((ms.length : Int) - 1) + (i : Int) * -1))), none) S := by
    have hpl : pLen (encM ms) = some (.int (ms.length : Int)) := by
      show some (PyData.int ((ms.map encT).length : Int)) = _
      rw [List.length_map]
    obtain ⟨z, hz⟩ : ∃ z : Int, z = (ms.length : Int) := ⟨_, rfl⟩
    rw [← hz] at hpl ⊢
    have hb : bnd (z - 1) = true ∧ bnd (-1) = true := by
      unfold bnd
      rw [decide_eq_true_eq, decide_eq_true_eq]
      omega
    have hd : downOf (z - 1) (-1) = (List.range ms.length).map (fun (i : Nat) => Val.dat (.int ((z - 1) + (i : Int) * -1))) := by
      unfold downOf
      rw [show (z - 1 - -1).toNat = ms.length by omega]
    simp only [iRd, e2, e1, eV_s, eV_0, eD_, bind_ok, view_dat, Option.bind_some, hpl, ofOpt_some, pSub_ii, pNeg_i]
    rw [if_pos hb, hd]
  simp only [m__law_below, mkFn, startEnv, hbd, sQ, List.map_cons, List.map_nil, List.length_cons, List.length_nil, List.replicate, List.cons_append, List.nil_append, Nat.reduceAdd, Nat.reduceSub]
  simp only [List.map_cons, List.map_nil] at q1 el q0
  simp only [sQ, sG, gN, andThen_ok, next_nx, List.set, q0, sF, q1]
  rw [el]
  simp only [next_nx, sR, eV_s, eV_0, andThen_ok, hbase]
  rw [← hRc, List.reverse_reverse]
  rfl
end Ev

set_option linter.all false
set_option maxHeartbeats 1000000
namespace Ev
open PySem
def opR : List (List Int) → List (List Int) → List (List Int)
  | a :: as, b :: bs => a.filter (fun x => decide (x ∈ b)) :: opR as bs
  | _, _ => []
theorem op_in {v0 v1 v2 v3 : Option Val} {T : Store} {b : List Int} {e4 : PyData} (h4 : ∀ x, pIn (.int x) e4 = some (decide (x ∈ b))) (l : List Int) : compGo (gN 5) (t2 pIn (eV 5) (eV 4)) (cE (eV 5)) none ((l.map PyData.int).map Val.dat) [v0, v1, v2, v3, some (.dat e4), none] T = .ok ((l.filter fun x => decide (x ∈ b)).map PyData.int) T := by
  induction l with
  | nil => rfl
  | cons x l ih =>
    have ht : t2 pIn (eV 5) (eV 4) [v0, v1, v2, v3, some (.dat e4), some (.dat (.int x))] T = .ok (decide (x ∈ b)) T := by simp [t2, h4]
    rw [List.map_cons, List.map_cons]
    simp only [compGo, gN, List.set, ht, bind_ok]
    by_cases hx : x ∈ b
    · simp only [hx, decide_true, if_true, cE, eV_s, eV_0, bind_ok]
      rw [if_pos (show keeps none T from trivial)]
      rw [ih]
      simp [hx]
    · simp only [hx, decide_false, Bool.false_eq_true, if_false, bind_ok]
      rw [if_pos (show keeps none T from trivial), ih]
      simp [hx]
noncomputable def oP : Fs := (sApp (eV 2) (e1 pTup (eLc (cF [5] (iA (eV 3)) (gN 5) (t2 pIn (eV 5) (eV 4)) (cE (eV 5))))))
noncomputable def oL : Fs := (sApp (eV 2) (eLc (cF [5] (iA (eV 3)) (gN 5) (t2 pIn (eV 5) (eV 4)) (cE (eV 5)))))
theorem op_loopP {v0 v1 v5 : Option Val} {m : Nat} : ∀ (A B : List (List Int)) (acc : List PyData) (T : Store) (v3 v4 : Option Val), (∀ a ∈ A, a.length < 1000) → T[m]? = some (some (.lst acc)) → acc.length + A.length < 10000 →
    ∃ w3 w4, loop (gT [gN 3, gN 4]) oP none ((pairUp (A.map encI) (B.map encI)).map Val.dat) [v0, v1, some (.ref m), v3, v4, v5] T = .nx [v0, v1, some (.ref m), w3, w4, v5] (T.set m (some (.lst (acc ++ (opR A B).map encI))))
  | a :: A, b :: B, acc, T, v3, v4, hA, hT, hl => by
    simp only [List.length_cons] at hl
    have ha := hA a (by simp)
    have hin := op_in (v0 := v0) (v1 := v1) (v2 := some (.ref m)) (v3 := some (.dat (encI a))) (T := T) (b := b) (e4 := encI b) (fun x => pIn_intsT) a
    have hfl := List.length_filter_le (fun x => decide (x ∈ b)) a
    have hE : (e1 pTup (eLc (cF [5] (iA (eV 3)) (gN 5) (t2 pIn (eV 5) (eV 4)) (cE (eV 5))))) [v0, v1, some (.ref m), some (.dat (encI a)), some (.dat (encI b)), v5] T = .ok (.dat (encI (a.filter fun x => decide (x ∈ b)))) T := by
      have hle : ((a.filter fun x => decide (x ∈ b)).map PyData.int).length ≤ 16777216 := by simp; omega
      have hit0 : (iA (eV 3)) [v0, v1, some (.ref m), some (.dat (encI a)), some (.dat (encI b)), v5] T = .ok ((a.map PyData.int).map Val.dat, none) T := rfl
      simp only [e1, eLc, cF, hit0, bind_ok, wipeE, List.set, hin, noX_ok, lineN, hle, if_true, view_dat, Option.bind_some, pTup_l, ofOpt_some]
      rfl
    have hs := sApp_ok (a := eV 2) (b := (e1 pTup (eLc (cF [5] (iA (eV 3)) (gN 5) (t2 pIn (eV 5) (eV 4)) (cE (eV 5)))))) (env := [v0, v1, some (.ref m), some (.dat (encI a)), some (.dat (encI b)), v5]) (S := T) (S2 := T) (n := m) (ds := acc) rfl hT hE hT (by omega)
    obtain ⟨w3, w4, e⟩ := op_loopP (v0 := v0) (v1 := v1) (v5 := v5) (m := m) A B (acc ++ [encI (a.filter fun x => decide (x ∈ b))]) (T.set m (some (.lst (acc ++ [encI (a.filter fun x => decide (x ∈ b))])))) (some (.dat (encI a))) (some (.dat (encI b))) (fun c hc => hA c (by simp [hc])) (set_get hT) (by simp; omega)
    refine ⟨w3, w4, ?_⟩
    have hg : gT [gN 3, gN 4] (.dat (.tuple [encI a, encI b])) [v0, v1, some (.ref m), v3, v4, v5] = some [v0, v1, some (.ref m), some (.dat (encI a)), some (.dat (encI b)), v5] := rfl
    rw [List.map_cons, List.map_cons, pairUp, List.map_cons, loop_nx (b := oP) hg hs, e, List.set_set, opR]
    simp
  | [], B, acc, T, v3, v4, _, hT, _ => ⟨v3, v4, by
      have : T.set m (some (.lst acc)) = T := by
        apply List.ext_getElem?
        intro i
        by_cases hi : i = m
        · subst hi
          rw [set_get hT, hT]
        · rw [List.getElem?_set_ne (Ne.symm hi)]
      show Flow.nx _ _ = Flow.nx _ (T.set m (some (.lst (acc ++ []))))
      rw [List.append_nil, this]⟩
  | a :: A, [], acc, T, v3, v4, _, hT, _ => ⟨v3, v4, by
      have : T.set m (some (.lst acc)) = T := by
        apply List.ext_getElem?
        intro i
        by_cases hi : i = m
        · subst hi
          rw [set_get hT, hT]
        · rw [List.getElem?_set_ne (Ne.symm hi)]
      show Flow.nx _ _ = Flow.nx _ (T.set m (some (.lst (acc ++ []))))
      rw [List.append_nil, this]⟩
theorem op_loopL {v0 v1 v5 : Option Val} {m : Nat} : ∀ (A B : List (List Int)) (acc : List PyData) (T : Store) (v3 v4 : Option Val), (∀ a ∈ A, a.length < 1000) → T[m]? = some (some (.lst acc)) → acc.length + A.length < 10000 →
    ∃ w3 w4, loop (gT [gN 3, gN 4]) oL none ((pairUp (A.map encL) (B.map encL)).map Val.dat) [v0, v1, some (.ref m), v3, v4, v5] T = .nx [v0, v1, some (.ref m), w3, w4, v5] (T.set m (some (.lst (acc ++ (opR A B).map encL))))
  | a :: A, b :: B, acc, T, v3, v4, hA, hT, hl => by
    simp only [List.length_cons] at hl
    have ha := hA a (by simp)
    have hin := op_in (v0 := v0) (v1 := v1) (v2 := some (.ref m)) (v3 := some (.dat (encL a))) (T := T) (b := b) (e4 := encL b) (fun x => pIn_intsL) a
    have hfl := List.length_filter_le (fun x => decide (x ∈ b)) a
    have hE : (eLc (cF [5] (iA (eV 3)) (gN 5) (t2 pIn (eV 5) (eV 4)) (cE (eV 5)))) [v0, v1, some (.ref m), some (.dat (encL a)), some (.dat (encL b)), v5] T = .ok (.dat (encL (a.filter fun x => decide (x ∈ b)))) T := by
      have hle : ((a.filter fun x => decide (x ∈ b)).map PyData.int).length ≤ 16777216 := by simp; omega
      have hit0 : (iA (eV 3)) [v0, v1, some (.ref m), some (.dat (encL a)), some (.dat (encL b)), v5] T = .ok ((a.map PyData.int).map Val.dat, none) T := rfl
      simp only [eLc, cF, hit0, bind_ok, wipeE, List.set, hin, noX_ok, lineN, hle, if_true]
      rfl
    have hs := sApp_ok (a := eV 2) (b := (eLc (cF [5] (iA (eV 3)) (gN 5) (t2 pIn (eV 5) (eV 4)) (cE (eV 5))))) (env := [v0, v1, some (.ref m), some (.dat (encL a)), some (.dat (encL b)), v5]) (S := T) (S2 := T) (n := m) (ds := acc) rfl hT hE hT (by omega)
    obtain ⟨w3, w4, e⟩ := op_loopL (v0 := v0) (v1 := v1) (v5 := v5) (m := m) A B (acc ++ [encL (a.filter fun x => decide (x ∈ b))]) (T.set m (some (.lst (acc ++ [encL (a.filter fun x => decide (x ∈ b))])))) (some (.dat (encL a))) (some (.dat (encL b))) (fun c hc => hA c (by simp [hc])) (set_get hT) (by simp; omega)
    refine ⟨w3, w4, ?_⟩
    have hg : gT [gN 3, gN 4] (.dat (.tuple [encL a, encL b])) [v0, v1, some (.ref m), v3, v4, v5] = some [v0, v1, some (.ref m), some (.dat (encL a)), some (.dat (encL b)), v5] := rfl
    rw [List.map_cons, List.map_cons, pairUp, List.map_cons, loop_nx (b := oL) hg hs, e, List.set_set, opR]
    simp
  | [], B, acc, T, v3, v4, _, hT, _ => ⟨v3, v4, by
      have : T.set m (some (.lst acc)) = T := by
        apply List.ext_getElem?
        intro i
        by_cases hi : i = m
        · subst hi
          rw [set_get hT, hT]
        · rw [List.getElem?_set_ne (Ne.symm hi)]
      show Flow.nx _ _ = Flow.nx _ (T.set m (some (.lst (acc ++ []))))
      rw [List.append_nil, this]⟩
  | a :: A, [], acc, T, v3, v4, _, hT, _ => ⟨v3, v4, by
      have : T.set m (some (.lst acc)) = T := by
        apply List.ext_getElem?
        intro i
        by_cases hi : i = m
        · subst hi
          rw [set_get hT, hT]
        · rw [List.getElem?_set_ne (Ne.symm hi)]
      show Flow.nx _ _ = Flow.nx _ (T.set m (some (.lst (acc ++ []))))
      rw [List.append_nil, this]⟩
end Ev

set_option linter.all false
set_option maxHeartbeats 1000000
namespace Ev
open PySem
theorem abT_len (st : Sts) : ∀ (ms : List (List Str)) (cur : List Int), (abT st ms cur).length = ms.length
  | [], _ => rfl
  | m :: ms, cur => by simp [abT, abT_len st ms]
theorem beR_len (st : Sts) : ∀ (ms : List (List Str)) (cur : List Int), (beR st ms cur).length = ms.length
  | [], _ => rfl
  | m :: ms, cur => by simp [beR, beR_len st ms]
theorem abT_rows {st : Sts} (g : Good st) : ∀ (ms : List (List Str)) (cur : List Int), ∀ a ∈ abT st ms cur, Row st a
  | [], _, a, h => by cases h
  | m :: ms, cur, a, h => by
    rw [abT, List.mem_cons] at h
    rcases h with rfl | h
    · exact nxt_row g cur m
    · exact abT_rows g ms _ a h
theorem beR_rows {st : Sts} : ∀ (ms : List (List Str)) (cur : List Int), ∀ a ∈ beR st ms cur, Row st a
  | [], _, a, h => by cases h
  | m :: ms, cur, a, h => by
    rw [beR, List.mem_cons] at h
    rcases h with rfl | h
    · exact prv_row st m cur
    · exact beR_rows ms _ a h
/-- the rows from above, from below, both -/
def Ab (st : Sts) (ms : List (List Str)) : List (List Int) := [0] :: abT st ms [0]
def Be (st : Sts) (en : List Int) (ms : List (List Str)) : List (List Int) := (en :: beR st ms.reverse en).reverse
def Op (st : Sts) (en : List Int) (ms : List (List Str)) : List (List Int) := opR (Ab st ms) (Be st en ms)
theorem Ab_len {st : Sts} {ms : List (List Str)} : (Ab st ms).length = ms.length + 1 := by simp [Ab, abT_len]
theorem Be_len {st : Sts} {en : List Int} {ms : List (List Str)} : (Be st en ms).length = ms.length + 1 := by simp [Be, beR_len]
theorem Ab_rows {st : Sts} {ms : List (List Str)} (g : Good st) : ∀ a ∈ Ab st ms, Row st a := by
  intro a ha
  rw [Ab, List.mem_cons] at ha
  rcases ha with rfl | ha
  · exact row_0 g
  · exact abT_rows g ms _ a ha
theorem Be_rows {st : Sts} {en : List Int} {ms : List (List Str)} (hen : Row st en) : ∀ a ∈ Be st en ms, Row st a := by
  intro a ha
  rw [Be, List.mem_reverse, List.mem_cons] at ha
  rcases ha with rfl | ha
  · exact hen
  · exact beR_rows _ _ a ha
theorem Ab_short {st : Sts} {ms : List (List Str)} (g : Good st) : ∀ a ∈ Ab st ms, a.length < 1000 := fun a ha => by
  have := (Ab_rows g a ha).len
  have := g.few
  omega
theorem opn_ok {S : Store} {st : Sts} {en : List Int} {ms : List (List Str)} (g : Good st) (hen : Row st en) (hm : ms.length < 1000) : m_states_open [.dat (encR st en), .dat (encM ms)] S = .ok (.dat (.tuple ((Op st en ms).map encI))) S := by
  have hA : ∀ T, m_states_above [.dat (encR st en), .dat (encM ms)] T = .ok (.dat (.tuple ((Ab st ms).map encI))) T := fun T => above_ok g hm
  have hB : ∀ T, m_states_below [.dat (encR st en), .dat (encM ms)] T = .ok (.dat (.tuple ((Be st en ms).map encI))) T := fun T => below_ok g hen hm
  obtain ⟨w3, w4, e⟩ := op_loopP (v0 := some (.dat (encR st en))) (v1 := some (.dat (encM ms))) (v5 := none) (m := S.length) (Ab st ms) (Be st en ms) [] (S ++ [some (.lst [])]) none none (Ab_short g) (by simp) (by simp [Ab_len]; omega)
  have hbd : b_states_open = sQ (sG (eLstC (aN)) (gN 2)) (sQ (sF (iZipS (eCall m_states_above (aC (eV 0) (aC (eV 1) (aN)))) (eCall m_states_below (aC (eV 0) (aC (eV 1) (aN))))) (gT [gN 3, gN 4]) oP) (sR (e1 pTup (eV 2)))) := rfl
  have q1 : (iZipS (eCall m_states_above (aC (eV 0) (aC (eV 1) (aN)))) (eCall m_states_below (aC (eV 0) (aC (eV 1) (aN))))) [some (.dat (encR st en)), some (.dat (encM ms)), some (.ref S.length), none, none, none] (S ++ [some (.lst [])]) = .ok ((pairUp ((Ab st ms).map encI) ((Be st en ms).map encI)).map Val.dat, none) (S ++ [some (.lst [])]) := by
    have hl : ((Ab st ms).map encI).length = ((Be st en ms).map encI).length := by rw [List.length_map, List.length_map, Ab_len, Be_len]
    simp only [iZipS, eCall, aC, aN, eV_s, eV_0, bind_ok, hA, hB, zipT, ofOpt_some]
    rw [if_pos hl]
  have hv : view ((S ++ [some (Cell.lst [])]).set S.length (some (.lst ([] ++ (opR (Ab st ms) (Be st en ms)).map encI)))) (.ref S.length) = some (.list ((Op st en ms).map encI)) := view_lst (by simp [Op])
  simp only [m_states_open, mkFn, startEnv, hbd, sQ, List.map_cons, List.map_nil, List.length_cons, List.length_nil, List.replicate, List.cons_append, List.nil_append, Nat.reduceAdd, Nat.reduceSub]
  simp only [sQ, sG, gN, eLstC, aN, bind_ok, dats, ofOpt_some, List.length_nil, lineN, Nat.zero_le, if_true, andThen_ok, next_nx, List.set, sF, q1]
  rw [e]
  simp only [next_nx, sR, e1, eV_s, eV_0, bind_ok, hv, Option.bind_some, pTup_l, ofOpt_some, andThen_ok]
  rw [List.take_set_of_le (by omega)]
  simp
theorem lopn_ok {S : Store} {st : Sts} {en : List Int} {ms : List (List Str)} (g : Good st) (hen : Row st en) (hm : ms.length < 1000) : m__law_open [.dat (encR st en), .dat (encM ms)] S = .ok (.dat (.list ((Op st en ms).map encL))) S := by
  have hA : ∀ T, m__law_above [.dat (encR st en), .dat (encM ms)] T = .ok (.dat (.list ((Ab st ms).map encL))) T := fun T => labove_ok g hm
  have hB : ∀ T, m__law_below [.dat (encR st en), .dat (encM ms)] T = .ok (.dat (.list ((Be st en ms).map encL))) T := fun T => lbelow_ok g hen hm
  obtain ⟨w3, w4, e⟩ := op_loopL (v0 := some (.dat (encR st en))) (v1 := some (.dat (encM ms))) (v5 := none) (m := S.length) (Ab st ms) (Be st en ms) [] (S ++ [some (.lst [])]) none none (Ab_short g) (by simp) (by simp [Ab_len]; omega)
  have hbd : b__law_open = sQ (sG (eLstC (aN)) (gN 2)) (sQ (sF (iZip (eCall m__law_above (aC (eV 0) (aC (eV 1) (aN)))) (eCall m__law_below (aC (eV 0) (aC (eV 1) (aN))))) (gT [gN 3, gN 4]) oL) (sR (eFrz (eV 2)))) := rfl
  have q1 : (iZip (eCall m__law_above (aC (eV 0) (aC (eV 1) (aN)))) (eCall m__law_below (aC (eV 0) (aC (eV 1) (aN))))) [some (.dat (encR st en)), some (.dat (encM ms)), some (.ref S.length), none, none, none] (S ++ [some (.lst [])]) = .ok ((pairUp ((Ab st ms).map encL) ((Be st en ms).map encL)).map Val.dat, none) (S ++ [some (.lst [])]) := by
    simp only [iZip, eCall, aC, aN, eV_s, eV_0, bind_ok, hA, hB, zipD, ofOpt_some]
  have hc : ((S ++ [some (Cell.lst [])]).set S.length (some (.lst ([] ++ (opR (Ab st ms) (Be st en ms)).map encL))))[S.length]? = some (some (.lst ((Op st en ms).map encL))) := by simp [Op]
  simp only [m__law_open, mkFn, startEnv, hbd, sQ, List.map_cons, List.map_nil, List.length_cons, List.length_nil, List.replicate, List.cons_append, List.nil_append, Nat.reduceAdd, Nat.reduceSub]
  simp only [sQ, sG, gN, eLstC, aN, bind_ok, dats, ofOpt_some, List.length_nil, lineN, Nat.zero_le, if_true, andThen_ok, next_nx, List.set, sF, q1]
  rw [e]
  simp only [next_nx, sR, eFrz, eV_s, eV_0, bind_ok, freeze, hc, andThen_ok]
  rw [List.take_set_of_le (by omega), List.take_set_of_le (by omega)]
  simp
end Ev

set_option linter.all false
set_option maxHeartbeats 1000000
namespace Ev
open PySem
theorem comp_map {g : Fg} {t : Ft} {b : Fc} {env : MEnv} {S : Store} {α : Type} (enc : α → PyData) (f : α → PyData) : ∀ xs : List α, (∀ d ∈ xs, ∃ env1, g (.dat (enc d)) env = some env1 ∧ t env1 S = .ok true S ∧ b env1 S = .ok [f d] S) → compGo g t b none ((xs.map enc).map Val.dat) env S = .ok (xs.map f) S
  | [], _ => rfl
  | x :: xs, h => by
    obtain ⟨env1, e1, e2, e3⟩ := h x (by simp)
    have ih := comp_map enc f xs fun d hd => h d (by simp [hd])
    rw [List.map_cons, List.map_cons]
    simp only [compGo, e1, e2, bind_ok, if_true, e3]
    rw [if_pos (show keeps none S from trivial), ih]
    rfl
theorem rows_ok {S : Store} {R : List (List Int)} (hR : R.length < 10000) : m__law_rows [.dat (.list (R.map encL))] S = .ok (.dat (.tuple (R.map encI))) S := by
  have key : compGo (gN 1) tYes (cE (e1 pTup (eV 1))) none ((R.map encL).map Val.dat) [some (.dat (.list (R.map encL))), none] S = .ok (R.map encI) S :=
    comp_map encL encI R fun d _ => ⟨_, rfl, rfl, by simp [cE, e1, gN, encL, encI]⟩
  have hle : (R.map encI).length ≤ 16777216 := by simp; omega
  simp only [m__law_rows, mkFn, startEnv, b__law_rows, sR, List.map_cons, List.map_nil, List.length_cons, List.length_nil, List.replicate, List.cons_append, List.nil_append, Nat.reduceAdd, Nat.reduceSub]
  have hE : (e1 pTup (eLc (cF [1] (iA (eV 0)) (gN 1) (tYes) (cE (e1 pTup (eV 1)))))) [some (.dat (.list (R.map encL))), none] S = .ok (.dat (.tuple (R.map encI))) S := by
    have hit0 : (iA (eV 0)) [some (.dat (.list (R.map encL))), none] S = .ok ((R.map encL).map Val.dat, none) S := rfl
    simp only [e1, eLc, cF, hit0, bind_ok, wipeE, List.set]
    rw [key]
    simp only [noX_ok, bind_ok, lineN, hle, if_true, view_dat, Option.bind_some, pTup_l, ofOpt_some]
  simp only [hE, andThen_ok]
  simp
/-- the one state, or none -/
def one1 (row : List Int) : PyData := match row with
  | [x] => .int x
  | _ => .none
theorem sure_el {a : Fe} {env : MEnv} {S : Store} {row : List Int} {e : PyData} (h : a env S = .ok (.dat e) S) (hl : pLen e = some (.int (row.length : Int))) (hi : ∀ x, row = [x] → pIdx e (.int 0) = some (.int x)) : cE (eIf (t2 pEq (e1 pLen a) (eD (.int 1))) (e2 pIdx a (eD (.int 0))) (eD .none)) env S = .ok [one1 row] S := by
  rcases row with _ | ⟨x, _ | ⟨y, r⟩⟩
  · simp [cE, eIf, t2, e1, e2, h, hl, one1]
  · simp [cE, eIf, t2, e1, e2, h, hl, hi x rfl, one1]
  · have : ¬ ((((x :: y :: r).length : Nat) : Int) = 1) := by simp; omega
    obtain ⟨z, hz⟩ : ∃ z : Int, z = (((x :: y :: r).length : Nat) : Int) := ⟨_, rfl⟩
    rw [← hz] at this hl
    simp [cE, eIf, t2, e1, e2, h, hl, this, one1]
end Ev

set_option linter.all false
set_option maxHeartbeats 1000000
namespace Ev
open PySem
theorem pAll_yes {α : Type} (xs : List α) : pAll (.list (xs.map fun _ => PyData.bool true)) = some (.bool true) := by
  have : ∀ xs : List α, boolsD (xs.map fun _ => PyData.bool true) = some (xs.map fun _ => true) := by
    intro xs
    induction xs with
    | nil => rfl
    | cons x xs ih => simp [boolsD, ih]
  simp [this]
theorem ltr_in {c : Nat} (h : 97 ≤ c ∧ c ≤ 122) : c ∈ Ltr.cps.toList := by
  have : ∀ k : Nat, k < 26 → 97 + k ∈ Ltr.cps.toList := by decide +kernel
  have := this (c - 97) (by omega)
  rwa [show 97 + (c - 97) = c by omega] at this
theorem name_ok {S : Store} {x : Str} (h : IsNm x) : m_is_name [.dat (.str x)] S = .ok (.dat (.bool true)) S := by
  have hx : (1 : Int) ≤ (x.length : Int) ∧ (x.length : Int) ≤ 8 := by have := h.1; have := h.2.1; omega
  have key : compGo (gN 1) tYes (cE (e2 (cmpD pIn) (eV 1) (eD (.str Ltr)))) none ((x.cps.toList.map fun c => PyData.str ⟨#[c]⟩).map Val.dat) [some (.dat (.str x)), none] S = .ok (x.cps.toList.map fun _ => PyData.bool true) S :=
    comp_map (fun c => PyData.str ⟨#[c]⟩) (fun _ => PyData.bool true) x.cps.toList fun c hc => ⟨_, rfl, rfl, by
      have hm := ltr_in (h.2.2 c hc)
      have hp : pIn (.str ⟨#[c]⟩) (.str Ltr) = some true := by
        show some (decide (c ∈ Ltr.cps.toList)) = _
        rw [decide_eq_true hm]
      simp [cE, e2, gN, cmpD, hp]⟩
  have hle : (x.cps.toList.map fun _ => PyData.bool true).length ≤ 16777216 := by
    have : x.cps.toList.length = x.length := rfl
    have := h.2.1
    simp only [List.length_map]
    omega
  have hL : Str.ofString "abcdefghijklmnopqrstuvwxyz" = Ltr := rfl
  have hE : (e1 pAll (eLc (cF [1] (iA (eV 0)) (gN 1) (tYes) (cE (e2 (cmpD pIn) (eV 1) (eD (.str Ltr))))))) [some (.dat (.str x)), none] S = .ok (.dat (.bool true)) S := by
    have hit0 : (iA (eV 0)) [some (.dat (.str x)), none] S = .ok ((x.cps.toList.map fun c => PyData.str ⟨#[c]⟩).map Val.dat, none) S := rfl
    simp only [e1, eLc, cF, hit0, bind_ok, wipeE, List.set]
    rw [key]
    simp only [noX_ok, bind_ok, lineN, hle, if_true, view_dat, Option.bind_some, pAll_yes, ofOpt_some]
  have hT : (tOr (tNot (tTru (e1 (pIsi "str") (eV 0)))) (tNot (tCh pLe pLe (eD (.int 1)) (e1 pLen (eV 0)) (eD (.int 8))))) [some (.dat (.str x)), none] S = .ok false S := by
    obtain ⟨z, hz⟩ : ∃ z : Int, z = (x.length : Int) := ⟨_, rfl⟩
    have hl : pLen (.str x) = some (.int z) := by rw [hz]; rfl
    rw [← hz] at hx
    have hi : pIsi "str" (.str x) = some (.bool true) := rfl
    simp [-pLen_s, tOr, tNot, tTru, tCh, e1, hi, hl, truth, hx.1, hx.2]
  simp only [m_is_name, mkFn, startEnv, b_is_name, hL, sQ, List.map_cons, List.map_nil, List.length_cons, List.length_nil, List.replicate, List.cons_append, List.nil_append, Nat.reduceAdd, Nat.reduceSub]
  simp only [sI, hT, andTest_ok, Bool.false_eq_true, if_false, sN, next_nx, sR, hE, andThen_ok, take_self]
/-- one < other, all along -/
theorem rise_comp {g : Fg} {b : Fc} {env : MEnv} {S : Store} {α : Type} (enc : α → PyData) (lt : α → α → Prop) (hs : ∀ x y, lt x y → ∃ env1, g (.dat (.tuple [enc x, enc y])) env = some env1 ∧ b env1 S = .ok [.bool true] S) : ∀ xs : List α, xs.Pairwise lt → compGo g tYes b none ((pairUp (xs.map enc) ((xs.map enc).drop 1)).map Val.dat) env S = .ok ((xs.drop 1).map fun _ => PyData.bool true) S
  | [], _ => rfl
  | [x], _ => rfl
  | x :: y :: r, h => by
    have ih := rise_comp enc lt hs (y :: r) (List.pairwise_cons.1 h).2
    obtain ⟨env1, e1, e2⟩ := hs x y ((List.pairwise_cons.1 h).1 y (by simp))
    simp only [List.map_cons, List.drop_succ_cons, List.drop_zero] at ih ⊢
    rw [pairUp, List.map_cons]
    simp only [compGo, e1, tYes, bind_ok, if_true, e2]
    rw [if_pos (show keeps none S from trivial), ih]
    rfl
theorem cut1 {α : Type} (xs : List α) : cutL xs (some 1) none = xs.drop 1 := by
  simp only [cutL, slAt]
  cases xs with
  | nil => rfl
  | cons x xs => simp
theorem rising_strs {S : Store} {xs : List Str} (h : Rise xs) (hl : xs.length < 10000) : m_are_rising [.dat (.tuple (xs.map PyData.str))] S = .ok (.dat (.bool true)) S := by
  have key := rise_comp (g := gT [gN 1, gN 2]) (b := cE (e2 (cmpD pLt) (eV 1) (eV 2))) (env := [some (.dat (.tuple (xs.map PyData.str))), none, none]) (S := S) PyData.str (fun a b => ltS a b = true) (fun x y hxy => ⟨_, rfl, by simp [cE, e2, cmpD, gN, hxy]⟩) xs h
  have hle : ((xs.drop 1).map fun _ => PyData.bool true).length ≤ 16777216 := by simp; omega
  have hit0 : (iZip (eV 0) (eSl (eV 0) (oS (eD (.int 1))) (oN))) [some (.dat (.tuple (xs.map PyData.str))), none, none] S = .ok ((pairUp (xs.map PyData.str) ((xs.map PyData.str).drop 1)).map Val.dat, none) S := by
    simp only [iZip, eSl, oS, oN, eV_0, eD_, bind_ok, view_dat, Option.bind_some, pSl_t, ofOpt_some, cut1, zipD]
  have hE : (e1 pAll (eLc (cF [1, 2] (iZip (eV 0) (eSl (eV 0) (oS (eD (.int 1))) (oN))) (gT [gN 1, gN 2]) (tYes) (cE (e2 (cmpD pLt) (eV 1) (eV 2)))))) [some (.dat (.tuple (xs.map PyData.str))), none, none] S = .ok (.dat (.bool true)) S := by
    simp only [e1, eLc, cF, hit0, bind_ok, wipeE, List.set]
    rw [key]
    simp only [noX_ok, bind_ok, lineN, hle, if_true, view_dat, Option.bind_some, pAll_yes, ofOpt_some]
  simp only [m_are_rising, mkFn, startEnv, b_are_rising, sR, List.map_cons, List.map_nil, List.length_cons, List.length_nil, List.replicate, List.cons_append, List.nil_append, Nat.reduceAdd, Nat.reduceSub]
  simp only [hE, andThen_ok, take_self]
theorem rising_ints {S : Store} {xs : List Int} (h : xs.Pairwise (· < ·)) (hl : xs.length < 10000) : m_are_rising [.dat (.tuple (xs.map PyData.int))] S = .ok (.dat (.bool true)) S := by
  have key := rise_comp (g := gT [gN 1, gN 2]) (b := cE (e2 (cmpD pLt) (eV 1) (eV 2))) (env := [some (.dat (.tuple (xs.map PyData.int))), none, none]) (S := S) PyData.int (fun a b => a < b) (fun x y hxy => ⟨_, rfl, by simp [cE, e2, cmpD, gN, hxy]⟩) xs h
  have hle : ((xs.drop 1).map fun _ => PyData.bool true).length ≤ 16777216 := by simp; omega
  have hit0 : (iZip (eV 0) (eSl (eV 0) (oS (eD (.int 1))) (oN))) [some (.dat (.tuple (xs.map PyData.int))), none, none] S = .ok ((pairUp (xs.map PyData.int) ((xs.map PyData.int).drop 1)).map Val.dat, none) S := by
    simp only [iZip, eSl, oS, oN, eV_0, eD_, bind_ok, view_dat, Option.bind_some, pSl_t, ofOpt_some, cut1, zipD]
  have hE : (e1 pAll (eLc (cF [1, 2] (iZip (eV 0) (eSl (eV 0) (oS (eD (.int 1))) (oN))) (gT [gN 1, gN 2]) (tYes) (cE (e2 (cmpD pLt) (eV 1) (eV 2)))))) [some (.dat (.tuple (xs.map PyData.int))), none, none] S = .ok (.dat (.bool true)) S := by
    simp only [e1, eLc, cF, hit0, bind_ok, wipeE, List.set]
    rw [key]
    simp only [noX_ok, bind_ok, lineN, hle, if_true, view_dat, Option.bind_some, pAll_yes, ofOpt_some]
  simp only [m_are_rising, mkFn, startEnv, b_are_rising, sR, List.map_cons, List.map_nil, List.length_cons, List.length_nil, List.replicate, List.cons_append, List.nil_append, Nat.reduceAdd, Nat.reduceSub]
  simp only [hE, andThen_ok, take_self]
end Ev

set_option linter.all false
set_option maxHeartbeats 1000000
namespace Ev
open PySem
theorem whole_ok {S : Store} {x lo hi : Int} (h0 : lo ≤ x) (h1 : x ≤ hi) : m_is_whole [.dat (.int x), .dat (.int lo), .dat (.int hi)] S = .ok (.dat (.bool true)) S := by
  have i1 : pIsi "int" (.int x) = some (.bool true) := rfl
  have i2 : pIsi "bool" (.int x) = some (.bool false) := rfl
  simp [m_is_whole, mkFn, startEnv, b_is_whole, sR, eAnd, eNot, eCh, e1, i1, i2, h0, h1]
theorem names_comp {S : Store} {xs : List Str} {env : MEnv} {i : Nat} (hi : ∀ v, eV i (env.set i (some v)) S = .ok v S) (h : ∀ x ∈ xs, IsNm x) : compGo (gN i) tYes (cE (eCall m_is_name (aC (eV i) (aN)))) none ((xs.map PyData.str).map Val.dat) env S = .ok (xs.map fun _ => PyData.bool true) S :=
  comp_map PyData.str (fun _ => PyData.bool true) xs fun x hx => ⟨_, rfl, rfl, by simp [cE, eCall, aC, aN, hi, name_ok (h x hx)]⟩
theorem arenames_ok {S : Store} {xs : List Str} (hr : Rise xs) (hn : ∀ x ∈ xs, IsNm x) (hl : xs.length < 10000) : m_are_names [.dat (.tuple (xs.map PyData.str))] S = .ok (.dat (.bool true)) S := by
  have key := names_comp (S := S) (xs := xs) (env := [some (.dat (.tuple (xs.map PyData.str))), none]) (i := 1) (fun _ => rfl) hn
  have hle : (xs.map fun _ => PyData.bool true).length ≤ 16777216 := by simp; omega
  have hit0 : (iA (eV 0)) [some (.dat (.tuple (xs.map PyData.str))), none] S = .ok ((xs.map PyData.str).map Val.dat, none) S := rfl
  have hE : (e1 pAll (eLc (cF [1] (iA (eV 0)) (gN 1) (tYes) (cE (eCall m_is_name (aC (eV 1) (aN))))))) [some (.dat (.tuple (xs.map PyData.str))), none] S = .ok (.dat (.bool true)) S := by
    simp only [e1, eLc, cF, hit0, bind_ok, wipeE, List.set]
    rw [key]
    simp only [noX_ok, bind_ok, lineN, hle, if_true, view_dat, Option.bind_some, pAll_yes, ofOpt_some]
  have i1 : pIsi "tuple" (.tuple (xs.map PyData.str)) = some (.bool true) := rfl
  have hc := rising_strs (S := S) hr hl
  have h1 : e1 (pIsi "tuple") (eV 0) [some (.dat (.tuple (xs.map PyData.str))), none] S = .ok (.dat (.bool true)) S := by simp [e1, i1]
  have h2 : eCall m_are_rising (aC (eV 0) (aN)) [some (.dat (.tuple (xs.map PyData.str))), none] S = .ok (.dat (.bool true)) S := by simp [eCall, aC, aN, hc]
  simp only [m_are_names, mkFn, startEnv, b_are_names, sR, List.map_cons, List.map_nil, List.length_cons, List.length_nil, List.replicate, List.cons_append, List.nil_append, Nat.reduceAdd, Nat.reduceSub]
  simp only [eAnd, h1, hE, h2, bind_ok, andThen_ok, take_self]
theorem mask_ok {S : Store} {xs : List Str} (hr : Rise xs) (hn : ∀ x ∈ xs, IsNm x) (hl : xs.length < 10000) : m_is_mask [.dat (encT xs)] S = .ok (.dat (.bool true)) S := by
  have key := names_comp (S := S) (xs := xs) (env := [some (.dat (.tuple (xs.map PyData.str))), none, none, none]) (i := 1) (fun _ => rfl) hn
  have hle : (xs.map fun _ => PyData.bool true).length ≤ 16777216 := by simp; omega
  have hit0 : (iA (eV 0)) [some (.dat (.tuple (xs.map PyData.str))), none, none, none] S = .ok ((xs.map PyData.str).map Val.dat, none) S := rfl
  have hE : (e1 pAll (eLc (cF [1] (iA (eV 0)) (gN 1) (tYes) (cE (eCall m_is_name (aC (eV 1) (aN))))))) [some (.dat (.tuple (xs.map PyData.str))), none, none, none] S = .ok (.dat (.bool true)) S := by
    simp only [e1, eLc, cF, hit0, bind_ok, wipeE, List.set]
    rw [key]
    simp only [noX_ok, bind_ok, lineN, hle, if_true, view_dat, Option.bind_some, pAll_yes, ofOpt_some]
  have key2 := rise_comp (g := gT [gN 2, gN 3]) (b := cE (e2 (cmpD pLt) (eV 2) (eV 3))) (env := [some (.dat (.tuple (xs.map PyData.str))), none, none, none]) (S := S) PyData.str (fun a b => ltS a b = true) (fun x y hxy => ⟨_, rfl, by simp [cE, e2, cmpD, gN, hxy]⟩) xs hr
  have hle2 : ((xs.drop 1).map fun _ => PyData.bool true).length ≤ 16777216 := by simp; omega
  have hit2 : (iZip (eV 0) (eSl (eV 0) (oS (eD (.int 1))) (oN))) [some (.dat (.tuple (xs.map PyData.str))), none, none, none] S = .ok ((pairUp (xs.map PyData.str) ((xs.map PyData.str).drop 1)).map Val.dat, none) S := by
    simp only [iZip, eSl, oS, oN, eV_0, eD_, bind_ok, view_dat, Option.bind_some, pSl_t, ofOpt_some, cut1, zipD]
  have hF : (e1 pAll (eLc (cF [2, 3] (iZip (eV 0) (eSl (eV 0) (oS (eD (.int 1))) (oN))) (gT [gN 2, gN 3]) (tYes) (cE (e2 (cmpD pLt) (eV 2) (eV 3)))))) [some (.dat (.tuple (xs.map PyData.str))), none, none, none] S = .ok (.dat (.bool true)) S := by
    simp only [e1, eLc, cF, hit2, bind_ok, wipeE, List.set]
    rw [key2]
    simp only [noX_ok, bind_ok, lineN, hle2, if_true, view_dat, Option.bind_some, pAll_yes, ofOpt_some]
  have i1 : pIsi "tuple" (.tuple (xs.map PyData.str)) = some (.bool true) := rfl
  have h1 : e1 (pIsi "tuple") (eV 0) [some (.dat (.tuple (xs.map PyData.str))), none, none, none] S = .ok (.dat (.bool true)) S := by simp [e1, i1]
  simp only [encT, m_is_mask, mkFn, startEnv, b_is_mask, sQ, List.map_cons, List.map_nil, List.length_cons, List.length_nil, List.replicate, List.cons_append, List.nil_append, Nat.reduceAdd, Nat.reduceSub]
  simp only [sI, tOr, tNot, tTru, h1, hE, bind_ok, view_dat, Option.bind_some, truth, ofOpt_some, Bool.not_true, Bool.false_eq_true, if_false, andTest_ok, sN, next_nx, sR, hF, andThen_ok, take_self]
theorem isstrip_ok {S : Store} {ms : List (List Str)} (h1 : 1 ≤ ms.length) (h2 : ms.length ≤ 12) (h : ∀ m ∈ ms, Rise m ∧ (∀ x ∈ m, IsNm x) ∧ m.length ≤ 40) : m_is_strip [.dat (encM ms)] S = .ok (.dat (.bool true)) S := by
  have key : compGo (gN 1) tYes (cE (eCall m_is_mask (aC (eV 1) (aN)))) none ((ms.map encT).map Val.dat) [some (.dat (encM ms)), none] S = .ok (ms.map fun _ => PyData.bool true) S :=
    comp_map encT (fun _ => PyData.bool true) ms fun m hm => ⟨_, rfl, rfl, by
      obtain ⟨a, b, c⟩ := h m hm
      simp [cE, eCall, aC, aN, gN, mask_ok (S := S) a b (by omega)]⟩
  have hle : (ms.map fun _ => PyData.bool true).length ≤ 16777216 := by simp; omega
  have hit0 : (iA (eV 0)) [some (.dat (encM ms)), none] S = .ok ((ms.map encT).map Val.dat, none) S := rfl
  have hE : (e1 pAll (eLc (cF [1] (iA (eV 0)) (gN 1) (tYes) (cE (eCall m_is_mask (aC (eV 1) (aN))))))) [some (.dat (encM ms)), none] S = .ok (.dat (.bool true)) S := by
    simp only [e1, eLc, cF, hit0, bind_ok, wipeE, List.set]
    rw [key]
    simp only [noX_ok, bind_ok, lineN, hle, if_true, view_dat, Option.bind_some, pAll_yes, ofOpt_some]
  have hT : (tOr (tNot (tTru (e1 (pIsi "tuple") (eV 0)))) (tNot (tCh pLe pLe (eD (.int 1)) (e1 pLen (eV 0)) (eD (.int 12))))) [some (.dat (encM ms)), none] S = .ok false S := by
    obtain ⟨z, hz⟩ : ∃ z : Int, z = (ms.length : Int) := ⟨_, rfl⟩
    have hl : pLen (encM ms) = some (.int z) := by
      show some (PyData.int ((ms.map encT).length : Int)) = _
      rw [List.length_map, hz]
    have hx : 1 ≤ z ∧ z ≤ 12 := by omega
    have hi : pIsi "tuple" (encM ms) = some (.bool true) := rfl
    simp [tOr, tNot, tTru, tCh, e1, hi, hl, truth, hx.1, hx.2]
  simp only [m_is_strip, mkFn, startEnv, b_is_strip, sQ, List.map_cons, List.map_nil, List.length_cons, List.length_nil, List.replicate, List.cons_append, List.nil_append, Nat.reduceAdd, Nat.reduceSub]
  simp only [sI, hT, andTest_ok, Bool.false_eq_true, if_false, sN, next_nx, sR, hE, andThen_ok, take_self]
end Ev

set_option linter.all false
set_option maxHeartbeats 1000000
namespace Ev
open PySem
theorem isstate_ok {S : Store} {s : List (Str × Int)} {z : Int} (hr : Rise (s.map Prod.fst)) (hn : ∀ p ∈ s, IsNm p.1) (ht : ∀ p ∈ s, 0 ≤ p.2 ∧ p.2 < z) (hl : s.length < 10000) : m_is_state [.dat (encS s), .dat (.int z)] S = .ok (.dat (.bool true)) S := by
  have hle : (s.map fun _ => PyData.bool true).length ≤ 16777216 := by simp; omega
  have hit0 : ∀ v2 v3 v4, (iA (eV 0)) [some (.dat (encS s)), some (.dat (.int z)), v2, v3, v4] S = .ok ((s.map encP).map Val.dat, none) S := fun _ _ _ => rfl
  have k1 : compGo (gN 2) tYes (cE (eAnd (e1 (pIsi "tuple") (eV 2)) (e2 (cmpD pEq) (e1 pLen (eV 2)) (eD (.int 2))))) none ((s.map encP).map Val.dat) [some (.dat (encS s)), some (.dat (.int z)), none, none, none] S = .ok (s.map fun _ => PyData.bool true) S :=
    comp_map encP (fun _ => PyData.bool true) s fun p _ => ⟨_, rfl, rfl, by
      have i1 : pIsi "tuple" (encP p) = some (.bool true) := rfl
      have i2 : pLen (encP p) = some (.int 2) := rfl
      simp [cE, eAnd, e1, e2, gN, cmpD, i1, i2]⟩
  have k2 : compGo (gT [gN 3, gN 4]) tYes (cE (eV 3)) none ((s.map encP).map Val.dat) [some (.dat (encS s)), some (.dat (.int z)), none, none, none] S = .ok (s.map fun p => PyData.str p.1) S :=
    comp_map encP (fun p => PyData.str p.1) s fun p _ => ⟨_, rfl, rfl, by simp [cE, gN]⟩
  have k3 : compGo (gT [gN 3, gN 4]) tYes (cE (eCall m_is_whole (aC (eV 4) (aC (eD (.int 0)) (aC (e2 pSub (eV 1) (eD (.int 1))) (aN)))))) none ((s.map encP).map Val.dat) [some (.dat (encS s)), some (.dat (.int z)), none, none, none] S = .ok (s.map fun _ => PyData.bool true) S :=
    comp_map encP (fun _ => PyData.bool true) s fun p hp => ⟨_, rfl, rfl, by
      have := ht p hp
      have hw := whole_ok (S := S) (x := p.2) (lo := 0) (hi := z - 1) (by omega) (by omega)
      simp [cE, eCall, aC, aN, e2, gN, hw]⟩
  have hle2 : (s.map fun p => PyData.str p.1).length ≤ 16777216 := by simp; omega
  have i1 : pIsi "tuple" (encS s) = some (.bool true) := rfl
  have h1 : e1 (pIsi "tuple") (eV 0) [some (.dat (encS s)), some (.dat (.int z)), none, none, none] S = .ok (.dat (.bool true)) S := by simp [e1, i1]
  have hE1 : (e1 pAll (eLc (cF [2] (iA (eV 0)) (gN 2) (tYes) (cE (eAnd (e1 (pIsi "tuple") (eV 2)) (e2 (cmpD pEq) (e1 pLen (eV 2)) (eD (.int 2)))))))) [some (.dat (encS s)), some (.dat (.int z)), none, none, none] S = .ok (.dat (.bool true)) S := by
    simp only [e1, eLc, cF, hit0, bind_ok, wipeE, List.set]
    rw [k1]
    simp only [noX_ok, bind_ok, lineN, hle, if_true, view_dat, Option.bind_some, pAll_yes, ofOpt_some]
  have hE2 : (eCall m_are_names (aC (e1 pTup (eLc (cF [3, 4] (iA (eV 0)) (gT [gN 3, gN 4]) (tYes) (cE (eV 3))))) (aN))) [some (.dat (encS s)), some (.dat (.int z)), none, none, none] S = .ok (.dat (.bool true)) S := by
    have ha := arenames_ok (S := S) hr (fun x hx => by obtain ⟨p, hp, rfl⟩ := List.mem_map.1 hx; exact hn p hp) (by simpa using hl)
    rw [List.map_map] at ha
    simp only [eCall, aC, aN, e1, eLc, cF, hit0, bind_ok, wipeE, List.set]
    rw [k2]
    simp only [noX_ok, bind_ok, lineN, hle2, if_true, view_dat, Option.bind_some, pTup_l, ofOpt_some]
    exact ha
  have hE3 : (e1 pAll (eLc (cF [3, 4] (iA (eV 0)) (gT [gN 3, gN 4]) (tYes) (cE (eCall m_is_whole (aC (eV 4) (aC (eD (.int 0)) (aC (e2 pSub (eV 1) (eD (.int 1))) (aN))))))))) [some (.dat (encS s)), some (.dat (.int z)), none, none, none] S = .ok (.dat (.bool true)) S := by
    simp only [e1, eLc, cF, hit0, bind_ok, wipeE, List.set]
    rw [k3]
    simp only [noX_ok, bind_ok, lineN, hle, if_true, view_dat, Option.bind_some, pAll_yes, ofOpt_some]
  simp only [m_is_state, mkFn, startEnv, b_is_state, sQ, List.map_cons, List.map_nil, List.length_cons, List.length_nil, List.replicate, List.cons_append, List.nil_append, Nat.reduceAdd, Nat.reduceSub]
  simp only [sQ, sI, tOr, tNot, tTru, h1, hE1, hE2, bind_ok, view_dat, Option.bind_some, truth, ofOpt_some, Bool.not_true, Bool.false_eq_true, if_false, andTest_ok, sN, next_nx, sR, hE3, andThen_ok, take_self]
end Ev

set_option linter.all false
set_option maxHeartbeats 1000000
namespace Ev
open PySem
def addX (acc : List Str) (x : Str) : List Str := if x ∈ acc then acc else acc ++ [x]
def onceX (xs : List Str) : List Str := xs.foldl addX []
theorem any_eqvS {x : Str} {acc : List Str} : (acc.map PyData.str).any (fun z => PyData.eqv z (.str x)) = decide (x ∈ acc) := by
  rw [Bool.eq_iff_iff, List.any_eq_true, decide_eq_true_iff]
  constructor
  · rintro ⟨z, hz, e⟩
    obtain ⟨y, hy, rfl⟩ := List.mem_map.1 hz
    have : y = x := by simpa [PyData.eqv] using e
    exact this ▸ hy
  · intro hx
    exact ⟨.str x, List.mem_map.2 ⟨x, hx, rfl⟩, by simp [PyData.eqv]⟩
theorem once_strs (xs : List Str) : once (xs.map PyData.str) = (onceX xs).map PyData.str := by
  have key : ∀ (xs acc : List Str), (xs.map PyData.str).foldl addTo (acc.map PyData.str) = (xs.foldl addX acc).map PyData.str := by
    intro xs
    induction xs with
    | nil => intro acc; rfl
    | cons x xs ih =>
      intro acc
      rw [List.map_cons, List.foldl_cons, List.foldl_cons, ← ih]
      congr 1
      unfold addTo addX
      rw [any_eqvS]
      by_cases h : x ∈ acc <;> simp [h]
  exact key xs []
theorem foldX (xs : List Str) : ∀ acc : List Str, acc.Nodup → (xs.foldl addX acc).Nodup ∧ ∀ y, y ∈ xs.foldl addX acc → y ∈ acc ∨ y ∈ xs := by
  induction xs with
  | nil => intro acc h; exact ⟨h, fun y hy => .inl hy⟩
  | cons x xs ih =>
    intro acc h
    have hn : (addX acc x).Nodup := by
      unfold addX
      split
      · exact h
      · rename_i hx
        rw [List.nodup_append]
        refine ⟨h, by simp, fun a ha b hb => ?_⟩
        simp at hb
        rintro rfl
        exact hx (hb ▸ ha)
    obtain ⟨h1, h2⟩ := ih (addX acc x) hn
    refine ⟨h1, fun y hy => ?_⟩
    rcases h2 y hy with h3 | h3
    · unfold addX at h3
      split at h3
      · exact .inl h3
      · rw [List.mem_append] at h3
        rcases h3 with h3 | h3
        · exact .inl h3
        · simp at h3
          exact .inr (by simp [h3])
    · exact .inr (by simp [h3])
theorem onceX_len {xs ks : List Str} (h : ∀ x ∈ xs, x ∈ ks) : (onceX xs).length ≤ ks.length := by
  obtain ⟨h1, h2⟩ := foldX xs [] (by simp)
  exact pigeon _ _ h1 fun x hx => by
    rcases h2 x hx with h3 | h3
    · cases h3
    · exact h x h3
theorem RuleOk.good {ks : List Str} {st : Sts} {en : List Int} (h : RuleOk ks st en) (hk : ks.length ≤ 4) (hf : st.length ≤ 40) : Good st :=
  ⟨h.some1, hf, fun s hs => by have := (h.kinds s hs).length_le; simp at this; omega, h.there⟩
theorem RuleOk.row {ks : List Str} {st : Sts} {en : List Int} (h : RuleOk ks st en) : Row st en := ⟨h.rise, h.ends⟩
theorem kinds_comp {S : Store} {v0 : Option Val} : ∀ st : Sts, compGo (gN 1) tYes (cF [2, 3] (iA (eV 1)) (gT [gN 2, gN 3]) (tYes) (cEK (eV 2))) none ((st.map encS).map Val.dat) [v0, none, none, none] S = .ok ((st.flatMap fun s => s.map Prod.fst).map PyData.str) S
  | [] => rfl
  | s :: st => by
    have ih := kinds_comp (S := S) (v0 := v0) st
    have k2 : compGo (gT [gN 2, gN 3]) tYes (cEK (eV 2)) none ((s.map encP).map Val.dat) [v0, some (.dat (encS s)), none, none] S = .ok (s.map fun p => PyData.str p.1) S :=
      comp_map encP (fun p => PyData.str p.1) s fun p _ => ⟨_, rfl, rfl, by simp [cEK, gN]⟩
    have hb : (cF [2, 3] (iA (eV 1)) (gT [gN 2, gN 3]) (tYes) (cEK (eV 2))) [v0, some (.dat (encS s)), none, none] S = .ok (s.map fun p => PyData.str p.1) S := by
      have hit0 : (iA (eV 1)) [v0, some (.dat (encS s)), none, none] S = .ok ((s.map encP).map Val.dat, none) S := rfl
      simp only [cF, hit0, bind_ok, wipeE, List.set]
      exact k2
    rw [List.map_cons, List.map_cons]
    simp only [compGo, gN, List.set, tYes, bind_ok, if_true, hb]
    rw [if_pos (show keeps none S from trivial)]
    have ih' := ih
    rw [ih']
    simp
end Ev

set_option linter.all false
/-! texts that repr makes hold signs only -/
namespace Ev
open PySem
def okL (l : List Nat) : Prop := ∀ c ∈ l, c < 0x110000
theorem strOk_iff {x : Str} : PyData.strOk x = true ↔ okL x.cps.toList := by
  unfold PyData.strOk okL
  rw [Array.all_eq_true_iff_forall_mem]
  simp
theorem chr_lt (c : Char) : c.toNat < 0x110000 := by
  have h := c.valid
  have h2 : c.toNat.isValidChar := h
  rcases h2 with h2 | h2 <;> omega
theorem ofS_ok (s : String) : PyData.strOk (Str.ofString s) = true := by
  rw [strOk_iff, Str.ofString_eq_toList]
  intro c hc
  simp only [List.mem_map] at hc
  obtain ⟨a, _, rfl⟩ := hc
  exact chr_lt a
theorem app_cps {x y : Str} : (x ++ y).cps.toList = x.cps.toList ++ y.cps.toList := by
  show (x.cps ++ y.cps).toList = _
  simp
theorem app_sok {x y : Str} (hx : PyData.strOk x = true) (hy : PyData.strOk y = true) : PyData.strOk (x ++ y) = true := by
  rw [strOk_iff] at *
  rw [app_cps]
  intro c hc
  rw [List.mem_append] at hc
  rcases hc with hc | hc
  · exact hx c hc
  · exact hy c hc
theorem reprChar_ok {q c : Nat} (hc : c < 0x110000) : okL (Builtin.Str.reprChar q c) := by
  have hex : ∀ w, okL (List.replicate (w - ((Nat.toDigits 16 c).map Char.toNat).length) 48 ++ (Nat.toDigits 16 c).map Char.toNat) := by
    intro w d hd
    rw [List.mem_append] at hd
    rcases hd with hd | hd
    · have := (List.mem_replicate.1 hd).2
      omega
    · obtain ⟨a, _, rfl⟩ := List.mem_map.1 hd
      exact chr_lt a
  have two : ∀ a b : Nat, a < 0x110000 → b < 0x110000 → okL [a, b] := by
    intro a b ha hb d hd
    simp at hd
    rcases hd with rfl | rfl <;> assumption
  have cat : ∀ l m : List Nat, okL l → okL m → okL (l ++ m) := by
    intro l m hl hm d hd
    rw [List.mem_append] at hd
    rcases hd with hd | hd
    · exact hl d hd
    · exact hm d hd
  unfold Builtin.Str.reprChar
  simp only
  split
  · exact two _ _ (by omega) hc
  split
  · exact two _ _ (by omega) (by omega)
  split
  · exact two _ _ (by omega) (by omega)
  split
  · exact two _ _ (by omega) (by omega)
  split
  · intro d hd
    simp at hd
    omega
  split
  · exact cat _ _ (two _ _ (by omega) (by omega)) (hex 2)
  split
  · exact cat _ _ (two _ _ (by omega) (by omega)) (hex 4)
  · exact cat _ _ (two _ _ (by omega) (by omega)) (hex 8)
theorem reprText_ok {x : Str} (hx : PyData.strOk x = true) : PyData.strOk (reprText x) = true := by
  rw [strOk_iff] at *
  have hq : reprQuote x < 0x110000 := by
    unfold reprQuote
    split <;> omega
  have key : ∀ (l : List Nat) (acc : Array Nat), okL l → okL acc.toList → okL (l.foldl (fun out c => out ++ (Builtin.Str.reprChar (reprQuote x) c).toArray) acc).toList := by
    intro l
    induction l with
    | nil => intro acc _ h; exact h
    | cons c l ih =>
      intro acc hl ha
      rw [List.foldl_cons]
      refine ih _ (fun d hd => hl d (by simp [hd])) ?_
      intro d hd
      simp only [Array.toList_append, List.mem_append] at hd
      rcases hd with hd | hd
      · exact ha d hd
      · exact reprChar_ok (hl c (by simp)) d hd
  unfold reprText
  intro d hd
  simp only [Array.toList_push, List.mem_append, List.mem_singleton] at hd
  rcases hd with hd | rfl
  · rw [← Array.foldl_toList] at hd
    exact key _ _ hx (by intro e he; simp at he; omega) d hd
  · exact hq
theorem textFrom_sok : ∀ (ts : List Str) (k : Nat) (acc : Str), (∀ t ∈ ts, PyData.strOk t = true) → PyData.strOk acc = true → PyData.strOk (textFrom k acc ts) = true
  | [], _, _, _, h => h
  | t :: ts, k, acc, h, ha => by
    unfold textFrom
    refine textFrom_sok ts _ _ (fun u hu => h u (by simp [hu])) ?_
    exact app_sok (app_sok ha (ofS_ok _)) (h t (by simp))
theorem join_sok {sep : Str} (hs : PyData.strOk sep = true) : ∀ ts : List Str, (∀ t ∈ ts, PyData.strOk t = true) → PyData.strOk (Str.join sep ts) = true
  | [], _ => by rw [strOk_iff]; intro c hc; cases hc
  | [x], h => h x (by simp)
  | x :: y :: r, h => app_sok (app_sok (h x (by simp)) hs) (join_sok hs (y :: r) fun t ht => h t (by simp only [List.mem_cons] at ht ⊢; exact .inr ht))
mutual
theorem shown_sok : ∀ d : PyData, d.canLay0 = true → PyData.strOk d.shown = true
  | .none, _ => by unfold PyData.shown; exact ofS_ok _
  | .bool b, _ => by unfold PyData.shown; cases b <;> exact ofS_ok _
  | .int i, _ => by unfold PyData.shown; exact ofS_ok _
  | .str x, h => by unfold PyData.shown; exact reprText_ok (by simpa [PyData.canLay0] using h)
  | .list xs, h => by
    unfold PyData.shown listText
    exact app_sok (textFrom_sok _ _ _ (shownAll_sok xs (by simpa [PyData.canLay0] using h)) (ofS_ok _)) (ofS_ok _)
  | .tuple xs, h => by
    unfold PyData.shown tupleText
    exact app_sok (app_sok (ofS_ok _) (join_sok (ofS_ok _) _ (shownAll_sok xs (by simpa [PyData.canLay0] using h)))) (ofS_ok _)
  | .dict _, h => by simp [PyData.canLay0] at h
theorem shownAll_sok : ∀ xs : List PyData, PyData.canLayAll0 xs = true → ∀ t ∈ PyData.shownAll xs, PyData.strOk t = true
  | [], _ => by intro t ht; simp [PyData.shownAll] at ht
  | x :: xs, h => by
    have h' : x.canLay0 = true ∧ PyData.canLayAll0 xs = true := by simpa [PyData.canLayAll0] using h
    intro t ht
    simp only [PyData.shownAll, List.mem_cons] at ht
    rcases ht with rfl | ht
    · exact shown_sok x h'.1
    · exact shownAll_sok xs h'.2 t ht
end
/-- small data: at most n deep, of at most w signs -/
structure Sm (n w : Nat) (d : PyData) : Prop where
  lay : d.canLay0 = true
  dep : d.depth ≤ n
  wt : d.weight ≤ w
  shrt : d.intsShort 13 = true
  shw : d.showable = true
theorem Sm.mono {n w n' w' : Nat} {d : PyData} (h : Sm n w d) (hn : n ≤ n') (hw : w ≤ w') : Sm n' w' d := ⟨h.lay, Nat.le_trans h.dep hn, Nat.le_trans h.wt hw, h.shrt, h.shw⟩
theorem Sm.repr {n w : Nat} {d : PyData} (h : Sm n w d) (hn : n ≤ 20) (hw : w ≤ 1048576) : pRepr d = some (.str d.shown) := by
  have h1 : d.layable0 = true := by
    show (d.canLay0 && decide (d.depth ≤ 64) && decide (d.weight ≤ 2 ^ 20)) = true
    have e : (2 : Nat) ^ 20 = 1048576 := by decide
    have hd := h.dep
    have hw := h.wt
    rw [h.lay, decide_eq_true (show d.depth ≤ 64 by omega), decide_eq_true (show d.weight ≤ 2 ^ 20 by omega)]
    rfl
  have h2 : d.shown.length ≤ lineN := PyData.shown_fits_of_layable0 (B := 13) (by decide) (by decide) h1 h.shrt
  unfold pRepr
  rw [if_pos ⟨h.shw, PyData.hasDict_of_canLay d h.lay, Nat.le_trans h.dep hn, h2⟩]
theorem Sm.none : Sm 0 0 .none := ⟨rfl, by simp [PyData.depth], by simp [PyData.weight], rfl, rfl⟩
theorem Sm.bool {b : Bool} : Sm 0 0 (.bool b) := ⟨rfl, by simp [PyData.depth], by simp [PyData.weight], rfl, rfl⟩
theorem Sm.int {i : Int} (h : i.natAbs < 1000000000000) : Sm 0 64 (.int i) := by
  have hl : i.natAbs.log2 < 64 := by
    by_cases h0 : i.natAbs = 0
    · rw [h0]; decide
    · rw [Nat.log2_lt h0]
      exact Nat.lt_trans h (by decide)
  refine ⟨rfl, by simp [PyData.depth], ?_, ?_, ?_⟩
  · unfold PyData.weight
    split <;> omega
  · simp only [PyData.intsShort, decide_eq_true_eq]
    exact PyData.shown_int_le (Nat.lt_of_lt_of_eq h (by decide))
  · simp only [PyData.showable, decide_eq_true_eq]
    omega
theorem Sm.str {x : Str} (h : PyData.strOk x = true) : Sm 0 x.length (.str x) := ⟨by simpa [PyData.canLay0] using h, by simp [PyData.depth], by simp [PyData.weight, Str.length], rfl, rfl⟩
theorem Sm.all {n w : Nat} : ∀ xs : List PyData, (∀ x ∈ xs, Sm n w x) → PyData.canLayAll0 xs = true ∧ PyData.depthAll xs ≤ n ∧ PyData.weightAll xs ≤ xs.length * (w + 1) ∧ PyData.intsShortAll 13 xs = true ∧ PyData.showableAll xs = true
  | [], _ => ⟨rfl, by simp [PyData.depthAll], by simp [PyData.weightAll], rfl, rfl⟩
  | x :: xs, h => by
    obtain ⟨h1, h2, h3, h4, h5⟩ := Sm.all xs fun y hy => h y (by simp [hy])
    have hx := h x (by simp)
    have e : (xs.length + 1) * (w + 1) = xs.length * (w + 1) + (w + 1) := by rw [Nat.add_mul]; omega
    refine ⟨by simp [PyData.canLayAll0, hx.lay, h1], ?_, ?_, by simp [PyData.intsShortAll, hx.shrt, h4], by simp [PyData.showableAll, hx.shw, h5]⟩
    · have := hx.dep
      simp only [PyData.depthAll]
      omega
    · have := hx.wt
      simp only [PyData.weightAll, List.length_cons]
      omega
theorem Sm.tup {n w : Nat} {xs : List PyData} (h : ∀ x ∈ xs, Sm n w x) : Sm (n + 1) (xs.length * (w + 1)) (.tuple xs) := by
  obtain ⟨h1, h2, h3, h4, h5⟩ := Sm.all xs h
  exact ⟨by simpa [PyData.canLay0] using h1, by simp only [PyData.depth]; omega, by simpa only [PyData.weight] using h3, by simpa only [PyData.intsShort] using h4, by simpa only [PyData.showable] using h5⟩
theorem Sm.lst {n w : Nat} {xs : List PyData} (h : ∀ x ∈ xs, Sm n w x) : Sm (n + 1) (xs.length * (w + 1)) (.list xs) := by
  obtain ⟨h1, h2, h3, h4, h5⟩ := Sm.all xs h
  exact ⟨by simpa [PyData.canLay0] using h1, by simp only [PyData.depth]; omega, by simpa only [PyData.weight] using h3, by simpa only [PyData.intsShort] using h4, by simpa only [PyData.showable] using h5⟩
theorem Sm.shaped {n w : Nat} {d : PyData} (h : Sm n w d) (hn : n ≤ 64) : SeqAt.shaped d = true := by
  show (d.canLay0 && decide (d.depth ≤ 64)) = true
  rw [h.lay, decide_eq_true (Nat.le_trans h.dep hn)]
  rfl
/-- texts that repr made -/
theorem shown_shaped {d : PyData} (h : d.canLay0 = true) : SeqAt.shaped (.str d.shown) = true := by
  show (PyData.canLay0 (.str d.shown) && decide (PyData.depth (.str d.shown) ≤ 64)) = true
  have h1 : PyData.canLay0 (.str d.shown) = true := by simpa [PyData.canLay0] using shown_sok d h
  rw [h1, decide_eq_true (by simp [PyData.depth])]
  rfl
theorem shaped_texts : ∀ xs : List Str, (∀ x ∈ xs, PyData.strOk x = true) → SeqAt.shaped (.list (xs.map PyData.str)) = true := by
  intro xs h
  exact (Sm.lst (n := 0) (w := (xs.map Str.length).sum) fun d hd => by
    obtain ⟨x, hx, rfl⟩ := List.mem_map.1 hd
    refine (Sm.str (h x hx)).mono (Nat.le_refl _) ?_
    clear h hd
    induction xs with
    | nil => cases hx
    | cons y ys ih =>
      simp only [List.mem_cons] at hx
      simp only [List.map_cons, List.sum_cons]
      rcases hx with rfl | hx
      · omega
      · have := ih hx
        omega).shaped (by decide)
end Ev

set_option linter.all false
set_option maxHeartbeats 1000000
namespace Ev
open PySem
theorem opR_len : ∀ A B : List (List Int), A.length = B.length → (opR A B).length = A.length
  | [], [], _ => rfl
  | a :: A, b :: B, h => by
    simp only [List.length_cons] at h
    simp [opR, opR_len A B (by omega)]
theorem Op_len {st : Sts} {en : List Int} {ms : List (List Str)} : (Op st en ms).length = ms.length + 1 := by
  rw [Op, opR_len _ _ (by rw [Ab_len, Be_len]), Ab_len]
/-- a drawn rule with its kinds -/
structure RK (ks : List Str) (st : Sts) (en : List Int) : Prop where
  rule : RuleOk ks st en
  rise : Rise ks
  nm : ∀ x ∈ ks, IsNm x
  k4 : ks.length ≤ 4
  few : st.length ≤ 40
theorem arestates_ok {S : Store} {ks : List Str} {st : Sts} {en : List Int} (h : RK ks st en) : m_are_states [.dat (.tuple (st.map encS))] S = .ok (.dat (.bool true)) S := by
  have hf := h.few
  have hle : (st.map fun _ => PyData.bool true).length ≤ 16777216 := by simp; omega
  have hit0 : ∀ v1 v2 v3, (iA (eV 0)) [some (.dat (.tuple (st.map encS))), v1, v2, v3] S = .ok ((st.map encS).map Val.dat, none) S := fun _ _ _ => rfl
  obtain ⟨z, hz⟩ : ∃ z : Int, z = (st.length : Int) := ⟨_, rfl⟩
  have hl : pLen (.tuple (st.map encS)) = some (.int z) := by
    show some (PyData.int ((st.map encS).length : Int)) = _
    rw [List.length_map, hz]
  have k1 : compGo (gN 1) tYes (cE (eCall m_is_state (aC (eV 1) (aC (e1 pLen (eV 0)) (aN))))) none ((st.map encS).map Val.dat) [some (.dat (.tuple (st.map encS))), none, none, none] S = .ok (st.map fun _ => PyData.bool true) S :=
    comp_map encS (fun _ => PyData.bool true) st fun s hs => ⟨_, rfl, rfl, by
      have hsub := h.rule.kinds s hs
      have hln := hsub.length_le
      have h4 := h.k4
      simp only [List.length_map] at hln
      have hw := isstate_ok (S := S) (s := s) (z := z) (List.Pairwise.sublist hsub h.rise) (fun p hp => h.nm _ (hsub.mem (List.mem_map.2 ⟨p, hp, rfl⟩))) (fun p hp => by rw [hz]; exact h.rule.there s hs p hp) (by omega)
      simp only [gN, cE, eCall, aC, aN, e1, List.set, eV_s, eV_0, bind_ok, view_dat, Option.bind_some, hl, ofOpt_some, hw]⟩
  have i1 : pIsi "tuple" (.tuple (st.map encS)) = some (.bool true) := rfl
  have hx : 1 ≤ z ∧ z ≤ 40 := by have := h.rule.some1; omega
  have hT : (tOr (tNot (tTru (e1 (pIsi "tuple") (eV 0)))) (tNot (tCh pLe pLe (eD (.int 1)) (e1 pLen (eV 0)) (eD (.int 40))))) [some (.dat (.tuple (st.map encS))), none, none, none] S = .ok false S := by
    simp [-pLen_t, tOr, tNot, tTru, tCh, e1, i1, hl, truth, hx.1, hx.2]
  have hE : (e1 pAll (eLc (cF [1] (iA (eV 0)) (gN 1) (tYes) (cE (eCall m_is_state (aC (eV 1) (aC (e1 pLen (eV 0)) (aN)))))))) [some (.dat (.tuple (st.map encS))), none, none, none] S = .ok (.dat (.bool true)) S := by
    simp only [e1, eLc, cF, hit0, bind_ok, wipeE, List.set]
    rw [k1]
    simp only [noX_ok, bind_ok, lineN, hle, if_true, view_dat, Option.bind_some, pAll_yes, ofOpt_some]
  have k2 := kinds_comp (S := S) (v0 := some (.dat (.tuple (st.map encS)))) st
  have hfl : (st.flatMap fun s => s.map Prod.fst).length < 2000 := by
    have : ∀ st : Sts, (∀ s ∈ st, s.length ≤ 4) → (st.flatMap fun s => s.map Prod.fst).length ≤ 4 * st.length := by
      intro st
      induction st with
      | nil => intro _; simp
      | cons s st ih =>
        intro hs
        have := ih fun t ht => hs t (by simp [ht])
        have := hs s (by simp)
        simp only [List.flatMap_cons, List.length_append, List.length_map, List.length_cons]
        omega
    have := this st (h.rule.good h.k4 h.few).wide
    omega
  have hon : (onceX (st.flatMap fun s => s.map Prod.fst)).length ≤ ks.length := onceX_len fun x hx => by
    obtain ⟨s, hs, hxs⟩ := List.mem_flatMap.1 hx
    exact (h.rule.kinds s hs).mem hxs
  have hS : eLenSet (eSc false (cF [1, 2, 3] (iA (eV 0)) (gN 1) (tYes) (cF [2, 3] (iA (eV 1)) (gT [gN 2, gN 3]) (tYes) (cEK (eV 2))))) [some (.dat (.tuple (st.map encS))), none, none, none] S = .ok (.dat (.int ((onceX (st.flatMap fun s => s.map Prod.fst)).length : Int))) S := by
    simp only [eLenSet, eSc, cF, hit0, bind_ok, wipeE, List.set]
    rw [k2]
    simp only [noX_ok, bind_ok, List.length_map, hfl, if_true, once_strs]
  obtain ⟨y, hy⟩ : ∃ y : Int, y = ((onceX (st.flatMap fun s => s.map Prod.fst)).length : Int) := ⟨_, rfl⟩
  rw [← hy] at hS
  have hy4 : y ≤ 4 := by have := h.k4; omega
  simp only [m_are_states, mkFn, startEnv, b_are_states, sQ, List.map_cons, List.map_nil, List.length_cons, List.length_nil, List.replicate, List.cons_append, List.nil_append, Nat.reduceAdd, Nat.reduceSub]
  simp only [sQ, sI, hT, andTest_ok, Bool.false_eq_true, if_false, sN, next_nx, sR, tNot, tTru, hE, bind_ok, view_dat, Option.bind_some, truth, ofOpt_some, Bool.not_true, e2, hS, eD_, cmpD, pLe_ii, decide_eq_true hy4, Option.map_some, andThen_ok, take_self]
theorem isrule_ok {S : Store} {ks : List Str} {st : Sts} {en : List Int} (h : RK ks st en) : m_is_rule [.dat (encR st en)] S = .ok (.dat (.bool true)) S := by
  have ha := arestates_ok (S := S) h
  have hrow := h.rule.row
  have hel := hrow.len
  have hf := h.few
  have hle : (en.map fun _ => PyData.bool true).length ≤ 16777216 := by simp; omega
  have i1 : pIsi "tuple" (encR st en) = some (.bool true) := rfl
  have i2 : pIsi "tuple" (.tuple (en.map PyData.int)) = some (.bool true) := rfl
  have i3 : pLen (encR st en) = some (.int 2) := rfl
  have hr := rising_ints (S := S) hrow.1 (by omega)
  obtain ⟨z, hz⟩ : ∃ z : Int, z = (st.length : Int) := ⟨_, rfl⟩
  have hl : pLen (.tuple (st.map encS)) = some (.int z) := by
    show some (PyData.int ((st.map encS).length : Int)) = _
    rw [List.length_map, hz]
  have k1 : compGo (gN 3) tYes (cE (eCall m_is_whole (aC (eV 3) (aC (eD (.int 0)) (aC (e2 pSub (e1 pLen (eV 1)) (eD (.int 1))) (aN)))))) none ((en.map PyData.int).map Val.dat) [some (.dat (encR st en)), some (.dat (.tuple (st.map encS))), some (.dat (.tuple (en.map PyData.int))), none] S = .ok (en.map fun _ => PyData.bool true) S :=
    comp_map PyData.int (fun _ => PyData.bool true) en fun e he => ⟨_, rfl, rfl, by
      have := hrow.2 e he
      have hw := whole_ok (S := S) (x := e) (lo := 0) (hi := z - 1) (by omega) (by omega)
      simp only [gN, cE, eCall, aC, aN, e1, e2, List.set, eV_s, eV_0, eD_, bind_ok, view_dat, Option.bind_some, hl, ofOpt_some, pSub_ii, hw]⟩
  have hT : (tOr (tNot (tTru (e1 (pIsi "tuple") (eV 0)))) (tOr (t2 pNe (e1 pLen (eV 0)) (eD (.int 2))) (tOr (tNot (tTru (eCall m_are_states (aC (e2 pIdx (eV 0) (eD (.int 0))) (aN))))) (tNot (tTru (e1 (pIsi "tuple") (e2 pIdx (eV 0) (eD (.int 1)))))))))  [some (.dat (encR st en)), none, none, none] S = .ok false S := by
    simp [tOr, tNot, tTru, t2, e1, e2, eCall, aC, aN, i1, i2, i3, truth, idx_R0, idx_R1, ha]
  have hit : (iA (eV 2)) [some (.dat (encR st en)), some (.dat (.tuple (st.map encS))), some (.dat (.tuple (en.map PyData.int))), none] S = .ok ((en.map PyData.int).map Val.dat, none) S := rfl
  have hE : (e1 pAll (eLc (cF [3] (iA (eV 2)) (gN 3) (tYes) (cE (eCall m_is_whole (aC (eV 3) (aC (eD (.int 0)) (aC (e2 pSub (e1 pLen (eV 1)) (eD (.int 1))) (aN))))))))) [some (.dat (encR st en)), some (.dat (.tuple (st.map encS))), some (.dat (.tuple (en.map PyData.int))), none] S = .ok (.dat (.bool true)) S := by
    simp only [e1, eLc, cF, hit, bind_ok, wipeE, List.set]
    rw [k1]
    simp only [noX_ok, bind_ok, lineN, hle, if_true, view_dat, Option.bind_some, pAll_yes, ofOpt_some]
  have hR : eCall m_are_rising (aC (eV 2) (aN)) [some (.dat (encR st en)), some (.dat (.tuple (st.map encS))), some (.dat (.tuple (en.map PyData.int))), none] S = .ok (.dat (.bool true)) S := by simp only [eCall, aC, aN, eV_s, eV_0, bind_ok, hr]
  simp only [m_is_rule, mkFn, startEnv, b_is_rule, sQ, List.map_cons, List.map_nil, List.length_cons, List.length_nil, List.replicate, List.cons_append, List.nil_append, Nat.reduceAdd, Nat.reduceSub]
  simp only [sQ, sI, hT, andTest_ok, Bool.false_eq_true, if_false, sN, next_nx, sG, eV_s, eV_0, andThen_ok, gT_R, gN, putAll, List.set, Option.bind_some, sR, eAnd, hE, hR, bind_ok, take_self]
/-- a drawn strip -/
def SK (ms : List (List Str)) : Prop := 1 ≤ ms.length ∧ ms.length ≤ 12 ∧ ∀ m ∈ ms, Rise m ∧ (∀ x ∈ m, IsNm x) ∧ m.length ≤ 40
theorem need_ok {S : Store} {ks : List Str} {st : Sts} {en : List Int} {ms : List (List Str)} (h : RK ks st en) (hs : SK ms) : m_need_strip [.dat (encR st en), .dat (encM ms)] S = .ok (.dat .none) S := by
  have h1 := isrule_ok (S := S) h
  have h2 := isstrip_ok (S := S) hs.1 hs.2.1 hs.2.2
  have q1 : (tNot (tTru (eCall m_is_rule (aC (eV 0) (aN))))) [some (.dat (encR st en)), some (.dat (encM ms))] S = .ok false S := by
    simp only [tNot, tTru, eCall, aC, aN, eV_0, bind_ok, h1, view_dat, Option.bind_some, truth, ofOpt_some, Bool.not_true]
  have q2 : (tNot (tTru (eCall m_is_strip (aC (eV 1) (aN))))) [some (.dat (encR st en)), some (.dat (encM ms))] S = .ok false S := by
    simp only [tNot, tTru, eCall, aC, aN, eV_s, eV_0, bind_ok, h2, view_dat, Option.bind_some, truth, ofOpt_some, Bool.not_true]
  simp only [m_need_strip, mkFn, startEnv, b_need_strip, List.map_cons, List.map_nil, List.length_cons, List.length_nil, List.replicate, List.cons_append, List.nil_append, Nat.reduceAdd, Nat.reduceSub]
  simp only [sQ, sI, q1, q2, andTest_ok, Bool.false_eq_true, if_false, sN, next_nx, take_self]
section
variable {S : Store} {ks : List Str} {st : Sts} {en : List Int} {ms : List (List Str)}
theorem fabove_ok (h : RK ks st en) (hs : SK ms) : m_from_above [.dat (encR st en), .dat (encM ms)] S = .ok (.dat (.tuple ((Ab st ms).map encI))) S := by
  have h1 := need_ok (S := S) h hs
  have h2 := above_ok (S := S) (en := en) (ms := ms) (h.rule.good h.k4 h.few) (by have := hs.2.1; omega)
  simp only [m_from_above, mkFn, startEnv, b_from_above, sQ, List.map_cons, List.map_nil, List.length_cons, List.length_nil, List.replicate, List.cons_append, List.nil_append, Nat.reduceAdd, Nat.reduceSub]
  simp only [sE, sR, eCall, aC, aN, eV_s, eV_0, bind_ok, h1, andThen_ok, next_nx, h2, take_self]
  rfl
theorem fbelow_ok (h : RK ks st en) (hs : SK ms) : m_from_below [.dat (encR st en), .dat (encM ms)] S = .ok (.dat (.tuple ((Be st en ms).map encI))) S := by
  have h1 := need_ok (S := S) h hs
  have h2 := below_ok (S := S) (en := en) (ms := ms) (h.rule.good h.k4 h.few) h.rule.row (by have := hs.2.1; omega)
  simp only [m_from_below, mkFn, startEnv, b_from_below, sQ, List.map_cons, List.map_nil, List.length_cons, List.length_nil, List.replicate, List.cons_append, List.nil_append, Nat.reduceAdd, Nat.reduceSub]
  simp only [sE, sR, eCall, aC, aN, eV_s, eV_0, bind_ok, h1, andThen_ok, next_nx, h2, take_self]
  rfl
theorem sure_ok (h : RK ks st en) (hs : SK ms) : m_sure_states [.dat (encR st en), .dat (encM ms)] S = .ok (.dat (.tuple ((Op st en ms).map one1))) S := by
  have h1 := need_ok (S := S) h hs
  have h2 := opn_ok (S := S) (en := en) (ms := ms) (h.rule.good h.k4 h.few) h.rule.row (by have := hs.2.1; omega)
  have hle : ((Op st en ms).map one1).length ≤ 16777216 := by
    have := hs.2.1
    rw [List.length_map, Op_len]
    omega
  have k1 : compGo (gN 2) tYes (cE (eIf (t2 pEq (e1 pLen (eV 2)) (eD (.int 1))) (e2 pIdx (eV 2) (eD (.int 0))) (eD .none))) none (((Op st en ms).map encI).map Val.dat) [some (.dat (encR st en)), some (.dat (encM ms)), none] S = .ok ((Op st en ms).map one1) S :=
    comp_map encI one1 (Op st en ms) fun row _ => ⟨_, rfl, rfl, sure_el (e := encI row) rfl (by simp [encI]) (by rintro x rfl; rfl)⟩
  have hit : (iA (eCall m_states_open (aC (eV 0) (aC (eV 1) (aN))))) [some (.dat (encR st en)), some (.dat (encM ms)), none] S = .ok (((Op st en ms).map encI).map Val.dat, none) S := by
    simp only [iA, eCall, aC, aN, eV_s, eV_0, bind_ok, h2, view_dat, Option.bind_some, itemsOf, ofOpt_some, guardOf]
  have hE : (e1 pTup (eLc (cF [2] (iA (eCall m_states_open (aC (eV 0) (aC (eV 1) (aN))))) (gN 2) (tYes) (cE (eIf (t2 pEq (e1 pLen (eV 2)) (eD (.int 1))) (e2 pIdx (eV 2) (eD (.int 0))) (eD .none)))))) [some (.dat (encR st en)), some (.dat (encM ms)), none] S = .ok (.dat (.tuple ((Op st en ms).map one1))) S := by
    simp only [e1, eLc, cF, hit, bind_ok, wipeE, List.set]
    rw [k1]
    simp only [noX_ok, bind_ok, lineN, hle, if_true, view_dat, Option.bind_some, pTup_l, ofOpt_some]
  have hN : (eCall m_need_strip (aC (eV 0) (aC (eV 1) (aN)))) [some (.dat (encR st en)), some (.dat (encM ms)), none] S = .ok (.dat .none) S := by
    simp only [eCall, aC, aN, eV_s, eV_0, bind_ok, h1]
  simp only [m_sure_states, mkFn, startEnv, b_sure_states, sQ, List.map_cons, List.map_nil, List.length_cons, List.length_nil, List.replicate, List.cons_append, List.nil_append, Nat.reduceAdd, Nat.reduceSub]
  simp only [sE, sR, hN, hE, andThen_ok, next_nx, take_self]
end
end Ev

set_option linter.all false
set_option maxHeartbeats 1000000
namespace Ev
open PySem
theorem pNe_self {d : PyData} (h : SeqAt.shaped d = true) : pNe d d = some false := by
  simp only [pNe, h, and_self, if_true, SeqAt.eqv_refl d (SeqAt.canLay_of_shaped h), Bool.not_true]
theorem pEq_self {d : PyData} (h : SeqAt.shaped d = true) : pEq d d = some true := by
  simp only [pEq, h, and_self, if_true, SeqAt.eqv_refl d (SeqAt.canLay_of_shaped h)]
theorem IsNm.sm {x : Str} (h : IsNm x) : Sm 0 8 (.str x) := (Sm.str h.ok).mono (Nat.le_refl _) h.2.1
theorem sm_row {st : Sts} {row : List Int} (h : Row st row) (hf : st.length ≤ 40) : Sm 1 2600 (encI row) := by
  have hl := h.len
  refine (Sm.tup (n := 0) (w := 64) fun d hd => ?_).mono (Nat.le_refl _) (by rw [List.length_map]; have := Nat.mul_le_mul_right 65 (show row.length ≤ 40 by omega); omega)
  obtain ⟨x, hx, rfl⟩ := List.mem_map.1 hd
  have := h.2 x hx
  exact Sm.int (by omega)
theorem sm_rows {st : Sts} {R : List (List Int)} (h : ∀ r ∈ R, Row st r) (hf : st.length ≤ 40) (hR : R.length ≤ 20) : Sm 2 52020 (.tuple (R.map encI)) := by
  refine (Sm.tup (n := 1) (w := 2600) fun d hd => ?_).mono (Nat.le_refl _) (by rw [List.length_map]; have := Nat.mul_le_mul_right 2601 hR; omega)
  obtain ⟨x, hx, rfl⟩ := List.mem_map.1 hd
  exact sm_row (h x hx) hf
theorem sm_one {st : Sts} {row : List Int} (h : ∀ x ∈ row, 0 ≤ x ∧ x < (st.length : Int)) (hf : st.length ≤ 40) : Sm 0 64 (one1 row) := by
  rcases row with _ | ⟨x, _ | ⟨y, r⟩⟩
  · exact Sm.none.mono (Nat.le_refl _) (by omega)
  · have := h x (by simp)
    exact Sm.int (by omega)
  · exact Sm.none.mono (Nat.le_refl _) (by omega)
theorem sm_encR {ks : List Str} {st : Sts} {en : List Int} (h : RK ks st en) : Sm 4 42002 (encR st en) := by
  have hp : ∀ s ∈ st, ∀ p ∈ s, Sm 1 130 (encP p) := by
    intro s hs p hp
    refine (Sm.tup (n := 0) (w := 64) (xs := [.str p.1, .int p.2]) fun d hd => ?_).mono (Nat.le_refl _) (by simp)
    have h1 := h.nm _ ((h.rule.kinds s hs).mem (List.mem_map.2 ⟨p, hp, rfl⟩))
    have h2 := h.rule.there s hs p hp
    have hf := h.few
    simp only [List.mem_cons, List.not_mem_nil, or_false] at hd
    rcases hd with rfl | rfl
    · exact h1.sm.mono (Nat.le_refl _) (by omega)
    · exact Sm.int (by omega)
  have hg := h.rule.good h.k4 h.few
  have hs : ∀ s ∈ st, Sm 2 524 (encS s) := by
    intro s hs
    refine (Sm.tup (n := 1) (w := 130) fun d hd => ?_).mono (Nat.le_refl _) (by rw [List.length_map]; have := Nat.mul_le_mul_right 131 (hg.wide s hs); omega)
    obtain ⟨p, hpp, rfl⟩ := List.mem_map.1 hd
    exact hp s hs p hpp
  have h1 : Sm 3 21000 (.tuple (st.map encS)) := by
    refine (Sm.tup (n := 2) (w := 524) fun d hd => ?_).mono (Nat.le_refl _) (by rw [List.length_map]; have := Nat.mul_le_mul_right 525 h.few; omega)
    obtain ⟨s, hss, rfl⟩ := List.mem_map.1 hd
    exact hs s hss
  refine (Sm.tup (n := 3) (w := 21000) (xs := [.tuple (st.map encS), .tuple (en.map PyData.int)]) fun d hd => ?_).mono (Nat.le_refl _) (by simp)
  simp only [List.mem_cons, List.not_mem_nil, or_false] at hd
  rcases hd with rfl | rfl
  · exact h1
  · exact (sm_row h.rule.row h.few).mono (by omega) (by omega)
theorem sm_encM {ms : List (List Str)} (h : SK ms) : Sm 2 4332 (encM ms) := by
  refine (Sm.tup (n := 1) (w := 360) fun d hd => ?_).mono (Nat.le_refl _) (by rw [List.length_map]; have := Nat.mul_le_mul_right 361 h.2.1; omega)
  obtain ⟨m, hm, rfl⟩ := List.mem_map.1 hd
  obtain ⟨_, h2, h3⟩ := h.2.2 m hm
  refine (Sm.tup (n := 0) (w := 8) fun d hd => ?_).mono (Nat.le_refl _) (by rw [List.length_map]; have := Nat.mul_le_mul_right 9 h3; omega)
  obtain ⟨x, hx, rfl⟩ := List.mem_map.1 hd
  exact (h2 x hx).sm
theorem sm_both {ks : List Str} {st : Sts} {en : List Int} {ms : List (List Str)} (h : RK ks st en) (hs : SK ms) : Sm 5 84006 (.tuple [encR st en, encM ms]) := by
  refine (Sm.tup (n := 4) (w := 42002) (xs := [encR st en, encM ms]) fun d hd => ?_).mono (Nat.le_refl _) (by simp)
  simp only [List.mem_cons, List.not_mem_nil, or_false] at hd
  rcases hd with rfl | rfl
  · exact sm_encR h
  · exact (sm_encM hs).mono (by omega) (by omega)
theorem opR_rows {st : Sts} : ∀ A B : List (List Int), (∀ a ∈ A, Row st a) → ∀ r ∈ opR A B, Row st r
  | [], _, _ => by intro r hr; simp [opR] at hr
  | a :: A, [], _ => by intro r hr; simp [opR] at hr
  | a :: A, b :: B, h => by
    intro r hr
    simp only [opR, List.mem_cons] at hr
    rcases hr with rfl | hr
    · have ha := h a (by simp)
      exact ⟨ha.1.sublist List.filter_sublist, fun x hx => ha.2 x (List.mem_filter.1 hx).1⟩
    · exact opR_rows A B (fun c hc => h c (by simp [hc])) r hr
theorem eTup_ds {a : Fa} {env : MEnv} {S S1 : Store} {xs : List Val} {ds : List PyData} (h : a env S = .ok xs S1) (hd : dats xs = some ds) (hl : ds.length ≤ 16777216) : eTup a env S = .ok (.dat (.tuple ds)) S1 := by
  simp only [eTup, h, bind_ok, hd, ofOpt_some]
  rw [if_pos (show ds.length ≤ lineN from hl)]
theorem eLst_ds {a : Fa} {env : MEnv} {S S1 : Store} {xs : List Val} {ds : List PyData} (h : a env S = .ok xs S1) (hd : dats xs = some ds) (hl : ds.length ≤ 16777216) : eLst a env S = .ok (.dat (.list ds)) S1 := by
  simp only [eLst, h, bind_ok, hd, ofOpt_some]
  rw [if_pos (show ds.length ≤ lineN from hl)]
theorem right_ok {S : Store} {ks : List Str} {st : Sts} {en : List Int} {ms : List (List Str)} (h : RK ks st en) (hs : SK ms) : m__law_right [.dat (encR st en), .dat (encM ms)] S = .ok (.dat (.bool true)) S := by
  have hg := h.rule.good h.k4 h.few
  have hen := h.rule.row
  have hm : ms.length < 1000 := by have := hs.2.1; omega
  have hf := h.few
  have hm12 := hs.2.1
  obtain ⟨A, hA⟩ : ∃ A : PyData, A = .tuple ((Ab st ms).map encI) := ⟨_, rfl⟩
  obtain ⟨B, hB⟩ : ∃ B : PyData, B = .tuple ((Be st en ms).map encI) := ⟨_, rfl⟩
  obtain ⟨O, hO⟩ : ∃ O : PyData, O = .tuple ((Op st en ms).map one1) := ⟨_, rfl⟩
  obtain ⟨X, hX⟩ : ∃ X : PyData, X = .tuple [encR st en, encM ms] := ⟨_, rfl⟩
  have sA : Sm 2 52020 A := hA ▸ sm_rows (Ab_rows hg) hf (by rw [Ab_len]; omega)
  have sB : Sm 2 52020 B := hB ▸ sm_rows (Be_rows hen) hf (by rw [Be_len]; omega)
  have sX : Sm 5 84006 X := hX ▸ sm_both h hs
  have sO : Sm 1 1300 O := by
    rw [hO]
    refine (Sm.tup (n := 0) (w := 64) fun d hd => ?_).mono (Nat.le_refl _) (by rw [List.length_map, Op_len]; have := Nat.mul_le_mul_right 65 (show ms.length + 1 ≤ 20 by omega); omega)
    obtain ⟨r, hr, rfl⟩ := List.mem_map.1 hd
    exact sm_one (opR_rows _ _ (Ab_rows hg) r hr).2 hf
  have rA := sA.repr (by omega) (by omega)
  have rB := sB.repr (by omega) (by omega)
  have rX := sX.repr (by omega) (by omega)
  have rO := sO.repr (by omega) (by omega)
  have la := labove_ok (S := S) (en := en) (ms := ms) hg hm
  have lb := lbelow_ok (S := S) (en := en) (ms := ms) hg hen hm
  have lo := lopn_ok (S := S) (en := en) (ms := ms) hg hen hm
  have fa := fabove_ok (S := S) h hs
  have fb := fbelow_ok (S := S) h hs
  have fo := sure_ok (S := S) h hs
  have ra := rows_ok (S := S) (R := Ab st ms) (by rw [Ab_len]; omega)
  have rb := rows_ok (S := S) (R := Be st en ms) (by rw [Be_len]; omega)
  rw [← hA] at fa ra
  rw [← hB] at fb rb
  rw [← hO] at fo
  have la' : m__law_above [.dat (encR st en), .dat (encM ms)] S = .ok (.dat (.list ((Ab st ms).map encL))) S := la
  have lb' : m__law_below [.dat (encR st en), .dat (encM ms)] S = .ok (.dat (.list ((Be st en ms).map encL))) S := lb
  have q2 : ∀ r : MEnv, (e1 pRepr (eTup (aC (eV 0) (aC (eV 1) (aN))))) (some (.dat (encR st en)) :: some (.dat (encM ms)) :: r) S = .ok (.dat (.str X.shown)) S := by
    intro r
    have e := eTup_ds (a := aC (eV 0) (aC (eV 1) (aN))) (env := some (.dat (encR st en)) :: some (.dat (encM ms)) :: r) (S := S) (S1 := S) (xs := [.dat (encR st en), .dat (encM ms)]) (ds := [encR st en, encM ms]) rfl rfl (by simp)
    rw [← hX] at e
    simp only [e1, e, bind_ok, view_dat, Option.bind_some, rX, ofOpt_some]
  have q3 : ∀ r : MEnv, (e1 pRepr (eCall m__law_rows (aC (eCall m__law_above (aC (eV 0) (aC (eV 1) (aN)))) (aN)))) (some (.dat (encR st en)) :: some (.dat (encM ms)) :: r) S = .ok (.dat (.str A.shown)) S := by
    intro r
    simp only [e1, eCall, aC, aN, eV_s, eV_0, bind_ok, la', ra, view_dat, Option.bind_some, rA, ofOpt_some]
  have q4 : ∀ r : MEnv, (e1 pRepr (eCall m__law_rows (aC (eCall m__law_below (aC (eV 0) (aC (eV 1) (aN)))) (aN)))) (some (.dat (encR st en)) :: some (.dat (encM ms)) :: r) S = .ok (.dat (.str B.shown)) S := by
    intro r
    simp only [e1, eCall, aC, aN, eV_s, eV_0, bind_ok, lb', rb, view_dat, Option.bind_some, rB, ofOpt_some]
  have hle : ((Op st en ms).map one1).length ≤ 16777216 := by rw [List.length_map, Op_len]; omega
  have k1 : ∀ v2 v3 v4 v6 v7 v8 : Option Val, compGo (gN 5) tYes (cE (eIf (t2 pEq (e1 pLen (eV 5)) (eD (.int 1))) (e2 pIdx (eV 5) (eD (.int 0))) (eD .none))) none (((Op st en ms).map encL).map Val.dat) [some (.dat (encR st en)), some (.dat (encM ms)), v2, v3, v4, none, v6, v7, v8] S = .ok ((Op st en ms).map one1) S := fun v2 v3 v4 v6 v7 v8 =>
    comp_map encL one1 (Op st en ms) fun row _ => ⟨_, rfl, rfl, sure_el (e := encL row) rfl (by simp [encL]) (by rintro x rfl; rfl)⟩
  have hit : ∀ r : MEnv, (iA (eCall m__law_open (aC (eV 0) (aC (eV 1) (aN))))) (some (.dat (encR st en)) :: some (.dat (encM ms)) :: r) S = .ok (((Op st en ms).map encL).map Val.dat, none) S := by
    intro r
    simp only [iA, eCall, aC, aN, eV_s, eV_0, bind_ok, lo, view_dat, Option.bind_some, itemsOf, ofOpt_some, guardOf]
  have q6 : ∀ v2 v3 v4 v5 v6 v7 v8 : Option Val, (e1 pRepr (e1 pTup (eLc (cF [5] (iA (eCall m__law_open (aC (eV 0) (aC (eV 1) (aN))))) (gN 5) (tYes) (cE (eIf (t2 pEq (e1 pLen (eV 5)) (eD (.int 1))) (e2 pIdx (eV 5) (eD (.int 0))) (eD .none))))))) [some (.dat (encR st en)), some (.dat (encM ms)), v2, v3, v4, v5, v6, v7, v8] S = .ok (.dat (.str O.shown)) S := by
    intro v2 v3 v4 v5 v6 v7 v8
    simp only [e1, eLc, cF, hit, bind_ok, wipeE, List.set]
    rw [k1]
    simp only [noX_ok, bind_ok, lineN, hle, if_true, view_dat, Option.bind_some, pTup_l, ofOpt_some, ← hO, rO]
  have q7 : ∀ r : MEnv, (eLst (aC (e1 pRepr (eCall m_from_above (aC (eV 0) (aC (eV 1) (aN))))) (aC (e1 pRepr (eCall m_from_below (aC (eV 0) (aC (eV 1) (aN))))) (aC (e1 pRepr (eCall m_sure_states (aC (eV 0) (aC (eV 1) (aN))))) (aN))))) (some (.dat (encR st en)) :: some (.dat (encM ms)) :: r) S = .ok (.dat (.list [.str A.shown, .str B.shown, .str O.shown])) S := by
    intro r
    refine eLst_ds (xs := [.dat (.str A.shown), .dat (.str B.shown), .dat (.str O.shown)]) ?_ rfl (by simp)
    simp only [e1, eCall, aC, aN, eV_s, eV_0, bind_ok, fa, fb, fo, view_dat, Option.bind_some, rA, rB, rO, ofOpt_some]
  have q8 : ∀ r : MEnv, (eLst (aC (e1 pRepr (eCallK m_sure_states__0_strip_rule aN (aC (eV 1) (aC (eV 0) (aN))))) (aC (e1 pRepr (eCallK m_from_below__0_strip_rule aN (aC (eV 1) (aC (eV 0) (aN))))) (aN)))) (some (.dat (encR st en)) :: some (.dat (encM ms)) :: r) S = .ok (.dat (.list [.str O.shown, .str B.shown])) S := by
    intro r
    have p1 : m_sure_states__0_strip_rule [] [.dat (encM ms), .dat (encR st en)] S = .ok (.dat O) S := fo
    have p2 : m_from_below__0_strip_rule [] [.dat (encM ms), .dat (encR st en)] S = .ok (.dat B) S := fb
    refine eLst_ds (xs := [.dat (.str O.shown), .dat (.str B.shown)]) ?_ rfl (by simp)
    simp only [e1, eCallK, aC, aN, eV_s, eV_0, bind_ok, p1, p2, view_dat, Option.bind_some, rB, rO, ofOpt_some]
  have q9 : ∀ r : MEnv, (e1 pRepr (eCallK m_from_above__0_strip_rule aN (aC (eV 1) (aC (eV 0) (aN))))) (some (.dat (encR st en)) :: some (.dat (encM ms)) :: r) S = .ok (.dat (.str A.shown)) S := by
    intro r
    have p1 : m_from_above__0_strip_rule [] [.dat (encM ms), .dat (encR st en)] S = .ok (.dat A) S := fa
    simp only [e1, eCallK, aC, aN, eV_s, eV_0, bind_ok, p1, view_dat, Option.bind_some, rA, ofOpt_some]
  have oA := shown_sok A sA.lay
  have oB := shown_sok B sB.lay
  have oO := shown_sok O sO.lay
  have n3 : pNe (.list [.str A.shown, .str B.shown, .str O.shown]) (.list [.str A.shown, .str B.shown, .str O.shown]) = some false :=
    pNe_self (shaped_texts [A.shown, B.shown, O.shown] (by simp [oA, oB, oO]))
  have n1 : pNe (.str X.shown) (.str X.shown) = some false := pNe_self (shown_shaped sX.lay)
  have n2 : pEq (.list [.str O.shown, .str B.shown]) (.list [.str O.shown, .str B.shown]) = some true :=
    pEq_self (shaped_texts [O.shown, B.shown] (by simp [oB, oO]))
  have n4 : pEq (.str A.shown) (.str A.shown) = some true := pEq_self (shown_shaped sA.lay)
  have lst3 : ∀ a b c : Str, ∀ v2 v5 v7 v8 : Option Val, eLst (aC (eV 3) (aC (eV 4) (aC (eV 6) (aN)))) [some (.dat (encR st en)), some (.dat (encM ms)), v2, some (.dat (.str a)), some (.dat (.str b)), v5, some (.dat (.str c)), v7, v8] S = .ok (.dat (.list [.str a, .str b, .str c])) S := by
    intro a b c v2 v5 v7 v8
    exact eLst_ds (xs := [.dat (.str a), .dat (.str b), .dat (.str c)]) rfl rfl (by simp)
  have lst2 : ∀ b c : Str, ∀ v2 v3 v5 v7 v8 : Option Val, eLst (aC (eV 6) (aC (eV 4) (aN))) [some (.dat (encR st en)), some (.dat (encM ms)), v2, v3, some (.dat (.str b)), v5, some (.dat (.str c)), v7, v8] S = .ok (.dat (.list [.str c, .str b])) S := by
    intro b c v2 v3 v5 v7 v8
    exact eLst_ds (xs := [.dat (.str c), .dat (.str b)]) rfl rfl (by simp)
  simp only [m__law_right, mkFn, startEnv, b__law_right, List.map_cons, List.map_nil, List.length_cons, List.length_nil, List.replicate, List.cons_append, List.nil_append, Nat.reduceAdd, Nat.reduceSub]
  simp only [sQ, sG, gN, q2, q3, q4, q6, q7, q8, q9, andThen_ok, next_nx, List.set, sI, tOr, t2, eV_s, eV_0, bind_ok, lst3, view_dat, Option.bind_some, n3, ofOpt_some, Bool.false_eq_true, if_false, n1, andTest_ok, sN, sR, eAnd, e2, lst2, cmpD, n2, Option.map_some, n4, take_self]
end Ev

set_option linter.all false
set_option maxHeartbeats 1000000
namespace Ev
open PySem
noncomputable def lawIn : Fs := sQ (sG (eCall m__law_poor_rule (aC (eV 2) (aC (eV 3) (aC (e2 pIdx (eLst (aC (eD (.int 8)) (aC (eD (.int 40)) (aN)))) (e1 pInt (eAnd (e2 (cmpD pEq) (eV 1) (eD (.int 0))) (e2 (cmpD pEq) (eV 4) (eD (.int 2)))))) (aN))))) (gN 5))
  (sI (tNot (tTru (eCall m__law_right (aC (eV 5) (aC (eCall m__law_strip (aC (eV 2) (aC (eV 3) (aC (e2 pAdd (eD (.int 1)) (eCall m__law_take (aC (eV 2) (aC (eD (.int 12)) (aN))))) (aN))))) (aN)))))) (sR (eD (.bool false))) (sN))
noncomputable def lawOut : Fs := sQ (sG (eCall m__law_pot (aC (eV 0) (aC (eV 1) (aN)))) (gN 2))
  (sQ (sG (eCall m__law_kinds (aC (eV 2) (aC (eD (.int 4)) (aN)))) (gN 3))
  (sF (iR1 (eD (.int 3))) (gN 4) lawIn))
theorem most_ok {k t : Int} {env : MEnv} {S : Store} (h1 : eV 1 env S = .ok (.dat (.int k)) S) (h4 : eV 4 env S = .ok (.dat (.int t)) S) : ∃ m : Nat, 1 ≤ m ∧ m ≤ 40 ∧ (e2 pIdx (eLst (aC (eD (.int 8)) (aC (eD (.int 40)) (aN)))) (e1 pInt (eAnd (e2 (cmpD pEq) (eV 1) (eD (.int 0))) (e2 (cmpD pEq) (eV 4) (eD (.int 2)))))) env S = .ok (.dat (.int (m : Int))) S := by
  have hL : eLst (aC (eD (.int 8)) (aC (eD (.int 40)) (aN))) env S = .ok (.dat (.list [.int 8, .int 40])) S := eLst_ds (xs := [.dat (.int 8), .dat (.int 40)]) rfl rfl (by simp)
  by_cases a : k = 0
  · by_cases b : t = 2
    · exact ⟨40, by omega, by omega, by simp [e2, hL, e1, eAnd, h1, h4, cmpD, a, b]⟩
    · exact ⟨8, by omega, by omega, by simp [e2, hL, e1, eAnd, h1, h4, cmpD, a, b]⟩
  · exact ⟨8, by omega, by omega, by simp [e2, hL, e1, eAnd, h1, h4, cmpD, a]⟩
theorem in_ok {S : Store} {r c : Nat} {ks : List Str} {k t : Int} {v0 v5 : Option Val} (h : PotAt S r c) (hc : c + 20000 < 2 ^ 24) (hk1 : 1 ≤ ks.length) (hk4 : ks.length ≤ 4) (hr : Rise ks) (hn : ∀ x ∈ ks, IsNm x) :
    ∃ w5 S', lawIn [v0, some (.dat (.int k)), some (.ref r), some (.dat (.tuple (ks.map PyData.str))), some (.dat (.int t)), v5] S = .nx [v0, some (.dat (.int k)), some (.ref r), some (.dat (.tuple (ks.map PyData.str))), some (.dat (.int t)), w5] S' ∧ PotAt S' r (c + 20000) := by
  obtain ⟨m, m1, m2, hm⟩ := most_ok (k := k) (t := t) (env := [v0, some (.dat (.int k)), some (.ref r), some (.dat (.tuple (ks.map PyData.str))), some (.dat (.int t)), v5]) (S := S) rfl rfl
  obtain ⟨st, en, S1, e1, ok, hl, p1, ch1⟩ := poor_ok (ks := ks) h m1 (by omega) (by omega) (by omega)
  obtain ⟨d, S2, et, p2, ch2, d0, d1⟩ := take_ok p1 (by omega) (n := 12) (by omega) (by omega)
  obtain ⟨dep, hdep⟩ : ∃ dep : Nat, (dep : Int) = 1 + d := ⟨(1 + d).toNat, by omega⟩
  obtain ⟨ms, S3, e3, hml, hms, p3, ch3⟩ := strip_ok (dep := dep) p2 (by omega) (by omega) hr hn hk1 (by omega)
  have hR : RK ks st en := ⟨ok, hr, hn, hk4, by omega⟩
  have hS : SK ms := ⟨by omega, by omega, hms⟩
  have hri := right_ok (S := S3) hR hS
  refine ⟨some (.dat (encR st en)), S3, ?_, p3.mono (by omega)⟩
  have hA : (eCall m__law_poor_rule (aC (eV 2) (aC (eV 3) (aC (e2 pIdx (eLst (aC (eD (.int 8)) (aC (eD (.int 40)) (aN)))) (Ev.e1 pInt (eAnd (e2 (cmpD pEq) (eV 1) (eD (.int 0))) (e2 (cmpD pEq) (eV 4) (eD (.int 2)))))) (aN))))) [v0, some (.dat (.int k)), some (.ref r), some (.dat (.tuple (ks.map PyData.str))), some (.dat (.int t)), v5] S = .ok (.dat (encR st en)) S1 := by
    simp only [eCall, aC, aN, hm, eV_s, eV_0, bind_ok, e1]
  have hB : (eCall m__law_right (aC (eV 5) (aC (eCall m__law_strip (aC (eV 2) (aC (eV 3) (aC (e2 pAdd (eD (.int 1)) (eCall m__law_take (aC (eV 2) (aC (eD (.int 12)) (aN))))) (aN))))) (aN)))) [v0, some (.dat (.int k)), some (.ref r), some (.dat (.tuple (ks.map PyData.str))), some (.dat (.int t)), some (.dat (encR st en))] S1 = .ok (.dat (.bool true)) S3 := by
    simp only [eCall, aC, aN, e2, eV_s, eV_0, eD_, bind_ok, et, view_dat, Option.bind_some, pAdd_ii, ← hdep, ofOpt_some, e3, hri]
  simp only [lawIn, sQ, sG, hA, andThen_ok, gN, List.set, next_nx, sI, tNot, tTru, hB, bind_ok, view_dat, Option.bind_some, truth, ofOpt_some, Bool.not_true, andTest_ok, Bool.false_eq_true, if_false, sN]
theorem out_ok {S : Store} {ns : List Int} {k : Nat} (hk : k < 64) {v2 v3 v4 v5 : Option Val} :
    ∃ w2 w3 w4 w5 S', lawOut [some (.dat (.list (ns.map PyData.int))), some (.dat (.int (k : Int))), v2, v3, v4, v5] S = .nx [some (.dat (.list (ns.map PyData.int))), some (.dat (.int (k : Int))), w2, w3, w4, w5] S' := by
  obtain ⟨S1, e1, hl1, p1⟩ := pot_ok (S := S) (ns := ns) hk
  obtain ⟨z, hz⟩ : ∃ z : Int, z = (k : Int) := ⟨_, rfl⟩
  rw [← hz] at e1 ⊢
  obtain ⟨ks, S2, e2, hk1, hk4, _, hr, hn, p2, ch2⟩ := kinds_ok (most := 4) p1 (by omega) (by omega)
  have e2' : m__law_kinds [.ref S.length, .dat (.int 4)] S1 = .ok (.dat (.tuple (ks.map PyData.str))) S2 := e2
  obtain ⟨env', T, el, j, w4, w5, hj, hrest, rfl, pT⟩ := loop_ok (g := gN 4) (b := lawIn) (k := none)
    (fun rest env T => ∃ (j : Nat) (w4 w5 : Option Val), rest.length + j = 3 ∧ (∀ x ∈ rest, ∃ t : Int, x = .dat (.int t)) ∧ env = [some (.dat (.list (ns.map PyData.int))), some (.dat (.int z)), some (.ref S.length), some (.dat (.tuple (ks.map PyData.str))), w4, w5] ∧ PotAt T S.length (41 + 20000 * j))
    (by
      rintro x xs env T ⟨j, w4, w5, hj, hrest, rfl, pT⟩
      obtain ⟨t, rfl⟩ := hrest x (by simp)
      refine ⟨_, rfl, ?_⟩
      simp only [List.length_cons] at hj
      obtain ⟨u5, T1, e, p⟩ := in_ok (k := z) (t := t) (v0 := some (.dat (.list (ns.map PyData.int)))) (v5 := w5) pT (by omega) hk1 hk4 hr hn
      exact ⟨_, T1, e, trivial, j + 1, some (.dat (.int t)), u5, by omega, fun y hy => hrest y (by simp [hy]), rfl, p.mono (by omega)⟩)
    (rangeOf 0 3) [some (.dat (.list (ns.map PyData.int))), some (.dat (.int z)), some (.ref S.length), some (.dat (.tuple (ks.map PyData.str))), v4, v5] S2
    ⟨0, v4, v5, by simp [rangeOf], by intro x hx; simp only [rangeOf, List.mem_map] at hx; obtain ⟨i, _, rfl⟩ := hx; exact ⟨_, rfl⟩, rfl, p2.mono (by omega)⟩
  refine ⟨some (.ref S.length), some (.dat (.tuple (ks.map PyData.str))), w4, w5, T, ?_⟩
  have hb3 : bnd 3 = true := by decide
  simp only [lawOut, sQ, sG, eCall, aC, aN, eV_s, eV_0, eD_, bind_ok, e1, e2', andThen_ok, gN, List.set, next_nx, sF, iR1, hb3, if_true]
  exact el
end Ev
namespace K25
open PySem Ev
theorem law_fact : ∀ ns : List Int, ns.length ≤ 63 → ∃ S, m_law [.dat (.list (ns.map PyData.int))] [] = .ok (.dat (.bool true)) S := by
  intro ns hn
  obtain ⟨z, hz⟩ : ∃ z : Int, z = (ns.length : Int) := ⟨_, rfl⟩
  have hl : pLen (.list (ns.map PyData.int)) = some (.int z) := by
    show some (PyData.int ((ns.map PyData.int).length : Int)) = _
    rw [List.length_map, hz]
  obtain ⟨q, hq⟩ : ∃ q : Int, q = if (if z < 12 then z else 12) > 1 then (if z < 12 then z else 12) else 1 := ⟨_, rfl⟩
  have hq12 : 0 ≤ q ∧ q ≤ 12 := by rw [hq]; split <;> (try split) <;> omega
  have hbq : bnd q = true := by
    unfold bnd
    rw [decide_eq_true_eq]
    omega
  obtain ⟨env', T, el, w1, w2, w3, w4, w5, hrest, rfl⟩ := loop_ok (g := gN 1) (b := lawOut) (k := none)
    (fun rest env T => ∃ (w1 w2 w3 w4 w5 : Option Val), (∀ x ∈ rest, ∃ t : Nat, x = .dat (.int (t : Int)) ∧ t < 64) ∧ env = [some (.dat (.list (ns.map PyData.int))), w1, w2, w3, w4, w5])
    (by
      rintro x xs env T ⟨w1, w2, w3, w4, w5, hrest, rfl⟩
      obtain ⟨t, rfl, ht⟩ := hrest x (by simp)
      refine ⟨_, rfl, ?_⟩
      obtain ⟨u2, u3, u4, u5, T1, e⟩ := out_ok (S := T) (ns := ns) ht (v2 := w2) (v3 := w3) (v4 := w4) (v5 := w5)
      exact ⟨_, T1, e, trivial, some (.dat (.int (t : Int))), u2, u3, u4, u5, fun y hy => hrest y (by simp [hy]), rfl⟩)
    (rangeOf 0 q) [some (.dat (.list (ns.map PyData.int))), none, none, none, none, none] []
    ⟨none, none, none, none, none, by
      intro x hx
      simp only [rangeOf, List.mem_map, List.mem_range] at hx
      obtain ⟨i, hi, rfl⟩ := hx
      exact ⟨i, by simp, by omega⟩, rfl⟩
  refine ⟨T.take 0, ?_⟩
  have hE : (e2 pMax2 (eD (.int 1)) (e2 pMin2 (eD (.int 12)) (e1 pLen (eV 0)))) [some (.dat (.list (ns.map PyData.int))), none, none, none, none, none] [] = .ok (.dat (.int q)) [] := by
    simp only [e2, e1, eV_0, eD_, bind_ok, view_dat, Option.bind_some, hl, ofOpt_some, pMin2_ii, pMax2_ii, ← hq]
  have hbd : b_law = sQ (sF (iR1 (e2 pMax2 (eD (.int 1)) (e2 pMin2 (eD (.int 12)) (e1 pLen (eV 0))))) (gN 1) lawOut) (sR (eD (.bool true))) := rfl
  simp only [m_law, mkFn, startEnv, hbd, List.map_cons, List.map_nil, List.length_cons, List.length_nil, List.replicate, List.cons_append, List.nil_append, Nat.reduceAdd, Nat.reduceSub]
  simp only [sQ, sF, iR1, hE, bind_ok, hbq, if_true]
  rw [el]
  simp only [next_nx, sR, eD_, andThen_ok]
end K25

set_option Elab.async false
set_option linter.all false
set_option maxRecDepth 100000
set_option maxHeartbeats 4000000
namespace K25
open PySem L2 Gx Ev
theorem all_mk {l : PySem.W.OpenLaw} {w : World} {K : PySem.W.Frag} {h : Heap} {mg : Str → Option Value} {fa fv0 fv1 fv2 fv3 fv4 fv5 fv6 fv7 fv8 fv9 fv10 fv11 fv12 fv13 fv14 fv15 fv16 fv17 fv18 fv19 fv20 fv21 fv22 fv23 fv24 fv25 fv26 fv27 fv28 g0 g1 : Addr} (X : K.In h) (G : h.Ns mainGlobals mg) (hfa : mg "law" = some (.ref fa))
    {odv0 anv0 odv1 anv1 odv2 anv2 odv3 anv3 odv4 anv4 odv5 anv5 odv6 anv6 odv7 anv7 odv8 anv8 odv9 anv9 odv10 anv10 odv11 anv11 odv12 anv12 odv13 anv13 odv14 anv14 odv15 anv15 odv16 anv16 odv17 anv17 odv18 anv18 odv19 anv19 odv20 anv20 odv21 anv21 odv22 anv22 odv23 anv23 odv24 anv24 odv25 anv25 odv26 anv26 odv27 anv27 odv28 anv28 : Option Addr} {slv0 slv1 slv2 slv3 slv4 slv5 slv6 slv7 slv8 slv9 slv10 slv11 slv12 slv13 slv14 slv15 slv16 slv17 slv18 slv19 slv20 slv21 slv22 slv23 slv24 slv25 slv26 slv27 slv28 : Array (Option Value)} {ocv0 kVv0 dcv0 pmv0 cdv0 ctv0 ocv1 kVv1 dcv1 pmv1 cdv1 ctv1 ocv2 kVv2 dcv2 pmv2 cdv2 ctv2 ocv3 kVv3 dcv3 pmv3 cdv3 ctv3 ocv4 kVv4 dcv4 pmv4 cdv4 ctv4 ocv5 kVv5 dcv5 pmv5 cdv5 ctv5 ocv6 kVv6 dcv6 pmv6 cdv6 ctv6 ocv7 kVv7 dcv7 pmv7 cdv7 ctv7 ocv8 kVv8 dcv8 pmv8 cdv8 ctv8 ocv9 kVv9 dcv9 pmv9 cdv9 ctv9 ocv10 kVv10 dcv10 pmv10 cdv10 ctv10 ocv11 kVv11 dcv11 pmv11 cdv11 ctv11 ocv12 kVv12 dcv12 pmv12 cdv12 ctv12 ocv13 kVv13 dcv13 pmv13 cdv13 ctv13 ocv14 kVv14 dcv14 pmv14 cdv14 ctv14 ocv15 kVv15 dcv15 pmv15 cdv15 ctv15 ocv16 kVv16 dcv16 pmv16 cdv16 ctv16 ocv17 kVv17 dcv17 pmv17 cdv17 ctv17 ocv18 kVv18 dcv18 pmv18 cdv18 ctv18 ocv19 kVv19 dcv19 pmv19 cdv19 ctv19 ocv20 kVv20 dcv20 pmv20 cdv20 ctv20 ocv21 kVv21 dcv21 pmv21 cdv21 ctv21 ocv22 kVv22 dcv22 pmv22 cdv22 ctv22 ocv23 kVv23 dcv23 pmv23 cdv23 ctv23 ocv24 kVv24 dcv24 pmv24 cdv24 ctv24 ocv25 kVv25 dcv25 pmv25 cdv25 ctv25 ocv26 kVv26 dcv26 pmv26 cdv26 ctv26 ocv27 kVv27 dcv27 pmv27 cdv27 ctv27 ocv28 kVv28 dcv28 pmv28 cdv28 ctv28 : Value}
    {tg0 tg1 tg2 tg3 tg4 : Tok}
    (av0 : PySem.W.nsIn K mainGlobals "is_whole" = some (some (.ref fv0)))
    (lv0 : K.lookup fv0 = some ⟨ocv0, odv0, .func (PySem.W.fnOf "is_whole" "is_whole" (defArgs s_is_whole) (defBody s_is_whole) (defScope s_is_whole) .none kVv0 dcv0 pmv0 anv0 cdv0 ctv0), slv0⟩)
    (dv0 : PySem.W.codeIn K cdv0 "is_whole" = true)
    (kv0 : PySem.W.keepIn K (.ref fv0) = true)
    (av1 : PySem.W.nsIn K mainGlobals "is_name" = some (some (.ref fv1)))
    (lv1 : K.lookup fv1 = some ⟨ocv1, odv1, .func (PySem.W.fnOf "is_name" "is_name" (defArgs s_is_name) (defBody s_is_name) (defScope s_is_name) .none kVv1 dcv1 pmv1 anv1 cdv1 ctv1), slv1⟩)
    (dv1 : PySem.W.codeIn K cdv1 "is_name" = true)
    (kv1 : PySem.W.keepIn K (.ref fv1) = true)
    (av2 : PySem.W.nsIn K mainGlobals "are_rising" = some (some (.ref fv2)))
    (lv2 : K.lookup fv2 = some ⟨ocv2, odv2, .func (PySem.W.fnOf "are_rising" "are_rising" (defArgs s_are_rising) (defBody s_are_rising) (defScope s_are_rising) .none kVv2 dcv2 pmv2 anv2 cdv2 ctv2), slv2⟩)
    (dv2 : PySem.W.codeIn K cdv2 "are_rising" = true)
    (kv2 : PySem.W.keepIn K (.ref fv2) = true)
    (av3 : PySem.W.nsIn K mainGlobals "states_above" = some (some (.ref fv3)))
    (lv3 : K.lookup fv3 = some ⟨ocv3, odv3, .func (PySem.W.fnOf "states_above" "states_above" (defArgs s_states_above) (defBody s_states_above) (defScope s_states_above) .none kVv3 dcv3 pmv3 anv3 cdv3 ctv3), slv3⟩)
    (dv3 : PySem.W.codeIn K cdv3 "states_above" = true)
    (kv3 : PySem.W.keepIn K (.ref fv3) = true)
    (av4 : PySem.W.nsIn K mainGlobals "states_below" = some (some (.ref fv4)))
    (lv4 : K.lookup fv4 = some ⟨ocv4, odv4, .func (PySem.W.fnOf "states_below" "states_below" (defArgs s_states_below) (defBody s_states_below) (defScope s_states_below) .none kVv4 dcv4 pmv4 anv4 cdv4 ctv4), slv4⟩)
    (dv4 : PySem.W.codeIn K cdv4 "states_below" = true)
    (kv4 : PySem.W.keepIn K (.ref fv4) = true)
    (av5 : PySem.W.nsIn K mainGlobals "_law_pot" = some (some (.ref fv5)))
    (lv5 : K.lookup fv5 = some ⟨ocv5, odv5, .func (PySem.W.fnOf "_law_pot" "_law_pot" (defArgs s__law_pot) (defBody s__law_pot) (defScope s__law_pot) .none kVv5 dcv5 pmv5 anv5 cdv5 ctv5), slv5⟩)
    (dv5 : PySem.W.codeIn K cdv5 "_law_pot" = true)
    (kv5 : PySem.W.keepIn K (.ref fv5) = true)
    (av6 : PySem.W.nsIn K mainGlobals "_law_take" = some (some (.ref fv6)))
    (lv6 : K.lookup fv6 = some ⟨ocv6, odv6, .func (PySem.W.fnOf "_law_take" "_law_take" (defArgs s__law_take) (defBody s__law_take) (defScope s__law_take) .none kVv6 dcv6 pmv6 anv6 cdv6 ctv6), slv6⟩)
    (dv6 : PySem.W.codeIn K cdv6 "_law_take" = true)
    (kv6 : PySem.W.keepIn K (.ref fv6) = true)
    (av7 : PySem.W.nsIn K mainGlobals "_law_above" = some (some (.ref fv7)))
    (lv7 : K.lookup fv7 = some ⟨ocv7, odv7, .func (PySem.W.fnOf "_law_above" "_law_above" (defArgs s__law_above) (defBody s__law_above) (defScope s__law_above) .none kVv7 dcv7 pmv7 anv7 cdv7 ctv7), slv7⟩)
    (dv7 : PySem.W.codeIn K cdv7 "_law_above" = true)
    (kv7 : PySem.W.keepIn K (.ref fv7) = true)
    (av8 : PySem.W.nsIn K mainGlobals "_law_below" = some (some (.ref fv8)))
    (lv8 : K.lookup fv8 = some ⟨ocv8, odv8, .func (PySem.W.fnOf "_law_below" "_law_below" (defArgs s__law_below) (defBody s__law_below) (defScope s__law_below) .none kVv8 dcv8 pmv8 anv8 cdv8 ctv8), slv8⟩)
    (dv8 : PySem.W.codeIn K cdv8 "_law_below" = true)
    (kv8 : PySem.W.keepIn K (.ref fv8) = true)
    (av9 : PySem.W.nsIn K mainGlobals "_law_rows" = some (some (.ref fv9)))
    (lv9 : K.lookup fv9 = some ⟨ocv9, odv9, .func (PySem.W.fnOf "_law_rows" "_law_rows" (defArgs s__law_rows) (defBody s__law_rows) (defScope s__law_rows) .none kVv9 dcv9 pmv9 anv9 cdv9 ctv9), slv9⟩)
    (dv9 : PySem.W.codeIn K cdv9 "_law_rows" = true)
    (kv9 : PySem.W.keepIn K (.ref fv9) = true)
    (av10 : PySem.W.nsIn K mainGlobals "are_names" = some (some (.ref fv10)))
    (lv10 : K.lookup fv10 = some ⟨ocv10, odv10, .func (PySem.W.fnOf "are_names" "are_names" (defArgs s_are_names) (defBody s_are_names) (defScope s_are_names) .none kVv10 dcv10 pmv10 anv10 cdv10 ctv10), slv10⟩)
    (dv10 : PySem.W.codeIn K cdv10 "are_names" = true)
    (kv10 : PySem.W.keepIn K (.ref fv10) = true)
    (av11 : PySem.W.nsIn K mainGlobals "is_mask" = some (some (.ref fv11)))
    (lv11 : K.lookup fv11 = some ⟨ocv11, odv11, .func (PySem.W.fnOf "is_mask" "is_mask" (defArgs s_is_mask) (defBody s_is_mask) (defScope s_is_mask) .none kVv11 dcv11 pmv11 anv11 cdv11 ctv11), slv11⟩)
    (dv11 : PySem.W.codeIn K cdv11 "is_mask" = true)
    (kv11 : PySem.W.keepIn K (.ref fv11) = true)
    (av12 : PySem.W.nsIn K mainGlobals "states_open" = some (some (.ref fv12)))
    (lv12 : K.lookup fv12 = some ⟨ocv12, odv12, .func (PySem.W.fnOf "states_open" "states_open" (defArgs s_states_open) (defBody s_states_open) (defScope s_states_open) .none kVv12 dcv12 pmv12 anv12 cdv12 ctv12), slv12⟩)
    (dv12 : PySem.W.codeIn K cdv12 "states_open" = true)
    (kv12 : PySem.W.keepIn K (.ref fv12) = true)
    (av13 : PySem.W.nsIn K mainGlobals "_law_names" = some (some (.ref fv13)))
    (lv13 : K.lookup fv13 = some ⟨ocv13, odv13, .func (PySem.W.fnOf "_law_names" "_law_names" (defArgs s__law_names) (defBody s__law_names) (defScope s__law_names) .none kVv13 dcv13 pmv13 anv13 cdv13 ctv13), slv13⟩)
    (dv13 : PySem.W.codeIn K cdv13 "_law_names" = true)
    (kv13 : PySem.W.keepIn K (.ref fv13) = true)
    (av14 : PySem.W.nsIn K mainGlobals "_law_rule" = some (some (.ref fv14)))
    (lv14 : K.lookup fv14 = some ⟨ocv14, odv14, .func (PySem.W.fnOf "_law_rule" "_law_rule" (defArgs s__law_rule) (defBody s__law_rule) (defScope s__law_rule) .none kVv14 dcv14 pmv14 anv14 cdv14 ctv14), slv14⟩)
    (dv14 : PySem.W.codeIn K cdv14 "_law_rule" = true)
    (kv14 : PySem.W.keepIn K (.ref fv14) = true)
    (av15 : PySem.W.nsIn K mainGlobals "_law_strip" = some (some (.ref fv15)))
    (lv15 : K.lookup fv15 = some ⟨ocv15, odv15, .func (PySem.W.fnOf "_law_strip" "_law_strip" (defArgs s__law_strip) (defBody s__law_strip) (defScope s__law_strip) .none kVv15 dcv15 pmv15 anv15 cdv15 ctv15), slv15⟩)
    (dv15 : PySem.W.codeIn K cdv15 "_law_strip" = true)
    (kv15 : PySem.W.keepIn K (.ref fv15) = true)
    (av16 : PySem.W.nsIn K mainGlobals "_law_open" = some (some (.ref fv16)))
    (lv16 : K.lookup fv16 = some ⟨ocv16, odv16, .func (PySem.W.fnOf "_law_open" "_law_open" (defArgs s__law_open) (defBody s__law_open) (defScope s__law_open) .none kVv16 dcv16 pmv16 anv16 cdv16 ctv16), slv16⟩)
    (dv16 : PySem.W.codeIn K cdv16 "_law_open" = true)
    (kv16 : PySem.W.keepIn K (.ref fv16) = true)
    (av17 : PySem.W.nsIn K mainGlobals "is_state" = some (some (.ref fv17)))
    (lv17 : K.lookup fv17 = some ⟨ocv17, odv17, .func (PySem.W.fnOf "is_state" "is_state" (defArgs s_is_state) (defBody s_is_state) (defScope s_is_state) .none kVv17 dcv17 pmv17 anv17 cdv17 ctv17), slv17⟩)
    (dv17 : PySem.W.codeIn K cdv17 "is_state" = true)
    (kv17 : PySem.W.keepIn K (.ref fv17) = true)
    (av18 : PySem.W.nsIn K mainGlobals "is_strip" = some (some (.ref fv18)))
    (lv18 : K.lookup fv18 = some ⟨ocv18, odv18, .func (PySem.W.fnOf "is_strip" "is_strip" (defArgs s_is_strip) (defBody s_is_strip) (defScope s_is_strip) .none kVv18 dcv18 pmv18 anv18 cdv18 ctv18), slv18⟩)
    (dv18 : PySem.W.codeIn K cdv18 "is_strip" = true)
    (kv18 : PySem.W.keepIn K (.ref fv18) = true)
    (av19 : PySem.W.nsIn K mainGlobals "_law_kinds" = some (some (.ref fv19)))
    (lv19 : K.lookup fv19 = some ⟨ocv19, odv19, .func (PySem.W.fnOf "_law_kinds" "_law_kinds" (defArgs s__law_kinds) (defBody s__law_kinds) (defScope s__law_kinds) .none kVv19 dcv19 pmv19 anv19 cdv19 ctv19), slv19⟩)
    (dv19 : PySem.W.codeIn K cdv19 "_law_kinds" = true)
    (kv19 : PySem.W.keepIn K (.ref fv19) = true)
    (av20 : PySem.W.nsIn K mainGlobals "_law_poor_rule" = some (some (.ref fv20)))
    (lv20 : K.lookup fv20 = some ⟨ocv20, odv20, .func (PySem.W.fnOf "_law_poor_rule" "_law_poor_rule" (defArgs s__law_poor_rule) (defBody s__law_poor_rule) (defScope s__law_poor_rule) .none kVv20 dcv20 pmv20 anv20 cdv20 ctv20), slv20⟩)
    (dv20 : PySem.W.codeIn K cdv20 "_law_poor_rule" = true)
    (kv20 : PySem.W.keepIn K (.ref fv20) = true)
    (av21 : PySem.W.nsIn K mainGlobals "are_states" = some (some (.ref fv21)))
    (lv21 : K.lookup fv21 = some ⟨ocv21, odv21, .func (PySem.W.fnOf "are_states" "are_states" (defArgs s_are_states) (defBody s_are_states) (defScope s_are_states) .none kVv21 dcv21 pmv21 anv21 cdv21 ctv21), slv21⟩)
    (dv21 : PySem.W.codeIn K cdv21 "are_states" = true)
    (kv21 : PySem.W.keepIn K (.ref fv21) = true)
    (av22 : PySem.W.nsIn K mainGlobals "is_rule" = some (some (.ref fv22)))
    (lv22 : K.lookup fv22 = some ⟨ocv22, odv22, .func (PySem.W.fnOf "is_rule" "is_rule" (defArgs s_is_rule) (defBody s_is_rule) (defScope s_is_rule) .none kVv22 dcv22 pmv22 anv22 cdv22 ctv22), slv22⟩)
    (dv22 : PySem.W.codeIn K cdv22 "is_rule" = true)
    (kv22 : PySem.W.keepIn K (.ref fv22) = true)
    (av23 : PySem.W.nsIn K mainGlobals "need_strip" = some (some (.ref fv23)))
    (lv23 : K.lookup fv23 = some ⟨ocv23, odv23, .func (PySem.W.fnOf "need_strip" "need_strip" (defArgs s_need_strip) (defBody s_need_strip) (defScope s_need_strip) .none kVv23 dcv23 pmv23 anv23 cdv23 ctv23), slv23⟩)
    (dv23 : PySem.W.codeIn K cdv23 "need_strip" = true)
    (kv23 : PySem.W.keepIn K (.ref fv23) = true)
    (av24 : PySem.W.nsIn K mainGlobals "from_above" = some (some (.ref fv24)))
    (lv24 : K.lookup fv24 = some ⟨ocv24, odv24, .func (PySem.W.fnOf "from_above" "from_above" (defArgs s_from_above) (defBody s_from_above) (defScope s_from_above) .none kVv24 dcv24 pmv24 anv24 cdv24 ctv24), slv24⟩)
    (dv24 : PySem.W.codeIn K cdv24 "from_above" = true)
    (kv24 : PySem.W.keepIn K (.ref fv24) = true)
    (av25 : PySem.W.nsIn K mainGlobals "from_below" = some (some (.ref fv25)))
    (lv25 : K.lookup fv25 = some ⟨ocv25, odv25, .func (PySem.W.fnOf "from_below" "from_below" (defArgs s_from_below) (defBody s_from_below) (defScope s_from_below) .none kVv25 dcv25 pmv25 anv25 cdv25 ctv25), slv25⟩)
    (dv25 : PySem.W.codeIn K cdv25 "from_below" = true)
    (kv25 : PySem.W.keepIn K (.ref fv25) = true)
    (av26 : PySem.W.nsIn K mainGlobals "sure_states" = some (some (.ref fv26)))
    (lv26 : K.lookup fv26 = some ⟨ocv26, odv26, .func (PySem.W.fnOf "sure_states" "sure_states" (defArgs s_sure_states) (defBody s_sure_states) (defScope s_sure_states) .none kVv26 dcv26 pmv26 anv26 cdv26 ctv26), slv26⟩)
    (dv26 : PySem.W.codeIn K cdv26 "sure_states" = true)
    (kv26 : PySem.W.keepIn K (.ref fv26) = true)
    (av27 : PySem.W.nsIn K mainGlobals "_law_right" = some (some (.ref fv27)))
    (lv27 : K.lookup fv27 = some ⟨ocv27, odv27, .func (PySem.W.fnOf "_law_right" "_law_right" (defArgs s__law_right) (defBody s__law_right) (defScope s__law_right) .none kVv27 dcv27 pmv27 anv27 cdv27 ctv27), slv27⟩)
    (dv27 : PySem.W.codeIn K cdv27 "_law_right" = true)
    (kv27 : PySem.W.keepIn K (.ref fv27) = true)
    (av28 : PySem.W.nsIn K mainGlobals "law" = some (some (.ref fv28)))
    (lv28 : K.lookup fv28 = some ⟨ocv28, odv28, .func (PySem.W.fnOf "law" "law" (defArgs s_law) (defBody s_law) (defScope s_law) .none kVv28 dcv28 pmv28 anv28 cdv28 ctv28), slv28⟩)
    (dv28 : PySem.W.codeIn K cdv28 "law" = true)
    (kv28 : PySem.W.keepIn K (.ref fv28) = true)
    (t0 : PySem.W.nsIn K mainGlobals "LETTERS" = some (some (.str "abcdefghijklmnopqrstuvwxyz" tg0)))
    (t1 : PySem.W.nsIn K mainGlobals "MOST_LETTERS" = some (some (.int 8 tg1)))
    (t2 : PySem.W.nsIn K mainGlobals "MOST_KINDS" = some (some (.int 4 tg2)))
    (t3 : PySem.W.nsIn K mainGlobals "MOST_STATES" = some (some (.int 40 tg3)))
    (t4 : PySem.W.nsIn K mainGlobals "MOST_DEPTH" = some (some (.int 12 tg4)))
    (e0 : PySem.W.nsIn K mainGlobals "NoMasks" = some (some (.ref g0)))
    (q0 : PySem.W.keepIn K (.ref g0) = true)
    (x0 : PySem.W.excIn K g0 [.type "ValueError", .type "Exception", .type "BaseException", .type "object"] "ValueError.__new__" = true)
    (y0 : PySem.W.subIn K (.ref g0) (.type "BaseException") = some true)
    (u0 : PySem.W.typeIn K (.ref g0) = some (.type "type"))
    (e1 : PySem.W.nsIn K mainGlobals "NoRule" = some (some (.ref g1)))
    (q1 : PySem.W.keepIn K (.ref g1) = true)
    (x1 : PySem.W.excIn K g1 [.type "ValueError", .type "Exception", .type "BaseException", .type "object"] "ValueError.__new__" = true)
    (y1 : PySem.W.subIn K (.ref g1) (.type "BaseException") = some true)
    (u1 : PySem.W.typeIn K (.ref g1) = some (.type "type"))
    (z_len : PySem.W.nsIn K mainGlobals "len" = some none)
    (z_abs : PySem.W.nsIn K mainGlobals "abs" = some none)
    (z_int : PySem.W.nsIn K mainGlobals "int" = some none)
    (z_range : PySem.W.nsIn K mainGlobals "range" = some none)
    (z_isinstance : PySem.W.nsIn K mainGlobals "isinstance" = some none)
    (z_all : PySem.W.nsIn K mainGlobals "all" = some none)
    (z_any : PySem.W.nsIn K mainGlobals "any" = some none)
    (z_sum : PySem.W.nsIn K mainGlobals "sum" = some none)
    (z_zip : PySem.W.nsIn K mainGlobals "zip" = some none)
    (z_enumerate : PySem.W.nsIn K mainGlobals "enumerate" = some none)
    (z_sorted : PySem.W.nsIn K mainGlobals "sorted" = some none)
    (z_tuple : PySem.W.nsIn K mainGlobals "tuple" = some none)
    (z_list : PySem.W.nsIn K mainGlobals "list" = some none)
    (z_dict : PySem.W.nsIn K mainGlobals "dict" = some none)
    (z_set : PySem.W.nsIn K mainGlobals "set" = some none)
    (z_min : PySem.W.nsIn K mainGlobals "min" = some none)
    (z_max : PySem.W.nsIn K mainGlobals "max" = some none)
    (z_repr : PySem.W.nsIn K mainGlobals "repr" = some none)
    (z_str : PySem.W.nsIn K mainGlobals "str" = some none)
    (z_bool : PySem.W.nsIn K mainGlobals "bool" = some none)
    : ∃ fd : FuncData, (∀ (s : Shared) (v : Value), BindsTo s fd ⟨[v], []⟩ [("_law_script", v)]) ∧ ∀ base : Heap, K.In base → base.Ns mainGlobals mg → FnG l.prog w K mg base CX0 9 fa fd ["_law_script"] (spL K) := by
  have e := hfa.symm.trans (PySem.W.mg_of X G av28)
  cases e
  have B : Bl mg := ⟨PySem.W.mg_none_of X G z_len, PySem.W.mg_none_of X G z_abs, PySem.W.mg_none_of X G z_int, PySem.W.mg_none_of X G z_range, PySem.W.mg_none_of X G z_isinstance, PySem.W.mg_none_of X G z_all, PySem.W.mg_none_of X G z_any, PySem.W.mg_none_of X G z_sum, PySem.W.mg_none_of X G z_zip, PySem.W.mg_none_of X G z_enumerate, PySem.W.mg_none_of X G z_sorted, PySem.W.mg_none_of X G z_tuple, PySem.W.mg_none_of X G z_list, PySem.W.mg_none_of X G z_dict, PySem.W.mg_none_of X G z_set, PySem.W.mg_none_of X G z_min, PySem.W.mg_none_of X G z_max, PySem.W.mg_none_of X G z_repr, PySem.W.mg_none_of X G z_str, PySem.W.mg_none_of X G z_bool⟩
  have T : Cs mg := ⟨⟨_, PySem.W.mg_of X G t0⟩, ⟨_, PySem.W.mg_of X G t1⟩, ⟨_, PySem.W.mg_of X G t2⟩, ⟨_, PySem.W.mg_of X G t3⟩, ⟨_, PySem.W.mg_of X G t4⟩⟩
  have x_NoMasks : XcV K mg "NoMasks" := xc_mk (PySem.W.mg_of X G e0) q0 x0 y0 u0
  have x_NoRule : XcV K mg "NoRule" := xc_mk (PySem.W.mg_of X G e1) q1 x1 y1 u1
  refine ⟨PySem.W.fnOf "law" "law" (defArgs s_law) (defBody s_law) (defScope s_law) .none kVv28 dcv28 pmv28 anv28 cdv28 ctv28, fun s v => .of_eq rfl, fun base _ _ => ?_⟩
  have Fv0 := fun_mk (st := s_is_whole) lv0 dv0 kv0
  have okv0 := ok_is_whole (P := l.prog) (w := w) (mg := mg) (base := base) Fv0 B
  have bv0 := Fv0.binds (ps := ["thing", "low", "high"]) fun _ _ _ _ _ _ us hl => match us, hl with | [_, _, _], _ => rfl
  have h_is_whole := Cal.pos (C := ctK l.prog w K mg) okv0 (PySem.W.mg_of X G av0) kv0 bv0
  have Fv1 := fun_mk (st := s_is_name) lv1 dv1 kv1
  have okv1 := ok_is_name (P := l.prog) (w := w) (mg := mg) (base := base) Fv1 B T
  have bv1 := Fv1.binds (ps := ["thing"]) fun _ _ _ _ _ _ us hl => match us, hl with | [_], _ => rfl
  have h_is_name := Cal.pos (C := ctK l.prog w K mg) okv1 (PySem.W.mg_of X G av1) kv1 bv1
  have Fv2 := fun_mk (st := s_are_rising) lv2 dv2 kv2
  have okv2 := ok_are_rising (P := l.prog) (w := w) (mg := mg) (base := base) Fv2 B
  have bv2 := Fv2.binds (ps := ["row"]) fun _ _ _ _ _ _ us hl => match us, hl with | [_], _ => rfl
  have h_are_rising := Cal.pos (C := ctK l.prog w K mg) okv2 (PySem.W.mg_of X G av2) kv2 bv2
  have Fv3 := fun_mk (st := s_states_above) lv3 dv3 kv3
  have okv3 := ok_states_above (P := l.prog) (w := w) (mg := mg) (base := base) Fv3 B
  have bv3 := Fv3.binds (ps := ["rule", "strip"]) fun _ _ _ _ _ _ us hl => match us, hl with | [_, _], _ => rfl
  have h_states_above := Cal.pos (C := ctK l.prog w K mg) okv3 (PySem.W.mg_of X G av3) kv3 bv3
  have Fv4 := fun_mk (st := s_states_below) lv4 dv4 kv4
  have okv4 := ok_states_below (P := l.prog) (w := w) (mg := mg) (base := base) Fv4 B
  have bv4 := Fv4.binds (ps := ["rule", "strip"]) fun _ _ _ _ _ _ us hl => match us, hl with | [_, _], _ => rfl
  have h_states_below := Cal.pos (C := ctK l.prog w K mg) okv4 (PySem.W.mg_of X G av4) kv4 bv4
  have Fv5 := fun_mk (st := s__law_pot) lv5 dv5 kv5
  have okv5 := ok__law_pot (P := l.prog) (w := w) (mg := mg) (base := base) Fv5 B
  have bv5 := Fv5.binds (ps := ["_law_script", "_law_k"]) fun _ _ _ _ _ _ us hl => match us, hl with | [_, _], _ => rfl
  have h__law_pot := Cal.pos (C := ctK l.prog w K mg) okv5 (PySem.W.mg_of X G av5) kv5 bv5
  have Fv6 := fun_mk (st := s__law_take) lv6 dv6 kv6
  have okv6 := ok__law_take (P := l.prog) (w := w) (mg := mg) (base := base) Fv6 
  have bv6 := Fv6.binds (ps := ["_law_pot_here", "_law_many"]) fun _ _ _ _ _ _ us hl => match us, hl with | [_, _], _ => rfl
  have h__law_take := Cal.pos (C := ctK l.prog w K mg) okv6 (PySem.W.mg_of X G av6) kv6 bv6
  have Fv7 := fun_mk (st := s__law_above) lv7 dv7 kv7
  have okv7 := ok__law_above (P := l.prog) (w := w) (mg := mg) (base := base) Fv7 B
  have bv7 := Fv7.binds (ps := ["_law_walk", "_law_sieve"]) fun _ _ _ _ _ _ us hl => match us, hl with | [_, _], _ => rfl
  have h__law_above := Cal.pos (C := ctK l.prog w K mg) okv7 (PySem.W.mg_of X G av7) kv7 bv7
  have Fv8 := fun_mk (st := s__law_below) lv8 dv8 kv8
  have okv8 := ok__law_below (P := l.prog) (w := w) (mg := mg) (base := base) Fv8 B
  have bv8 := Fv8.binds (ps := ["_law_walk", "_law_sieve"]) fun _ _ _ _ _ _ us hl => match us, hl with | [_, _], _ => rfl
  have h__law_below := Cal.pos (C := ctK l.prog w K mg) okv8 (PySem.W.mg_of X G av8) kv8 bv8
  have Fv9 := fun_mk (st := s__law_rows) lv9 dv9 kv9
  have okv9 := ok__law_rows (P := l.prog) (w := w) (mg := mg) (base := base) Fv9 B
  have bv9 := Fv9.binds (ps := ["_law_rows_here"]) fun _ _ _ _ _ _ us hl => match us, hl with | [_], _ => rfl
  have h__law_rows := Cal.pos (C := ctK l.prog w K mg) okv9 (PySem.W.mg_of X G av9) kv9 bv9
  have Fv10 := fun_mk (st := s_are_names) lv10 dv10 kv10
  have okv10 := ok_are_names (P := l.prog) (w := w) (mg := mg) (base := base) Fv10 B h_are_rising h_is_name
  have bv10 := Fv10.binds (ps := ["thing"]) fun _ _ _ _ _ _ us hl => match us, hl with | [_], _ => rfl
  have h_are_names := Cal.pos (C := ctK l.prog w K mg) okv10 (PySem.W.mg_of X G av10) kv10 bv10
  have Fv11 := fun_mk (st := s_is_mask) lv11 dv11 kv11
  have okv11 := ok_is_mask (P := l.prog) (w := w) (mg := mg) (base := base) Fv11 B h_is_name
  have bv11 := Fv11.binds (ps := ["thing"]) fun _ _ _ _ _ _ us hl => match us, hl with | [_], _ => rfl
  have h_is_mask := Cal.pos (C := ctK l.prog w K mg) okv11 (PySem.W.mg_of X G av11) kv11 bv11
  have Fv12 := fun_mk (st := s_states_open) lv12 dv12 kv12
  have okv12 := ok_states_open (P := l.prog) (w := w) (mg := mg) (base := base) Fv12 B h_states_above h_states_below
  have bv12 := Fv12.binds (ps := ["rule", "strip"]) fun _ _ _ _ _ _ us hl => match us, hl with | [_, _], _ => rfl
  have h_states_open := Cal.pos (C := ctK l.prog w K mg) okv12 (PySem.W.mg_of X G av12) kv12 bv12
  have Fv13 := fun_mk (st := s__law_names) lv13 dv13 kv13
  have okv13 := ok__law_names (P := l.prog) (w := w) (mg := mg) (base := base) Fv13 B h__law_take
  have bv13 := Fv13.binds (ps := ["_law_pot_here", "_law_many"]) fun _ _ _ _ _ _ us hl => match us, hl with | [_, _], _ => rfl
  have h__law_names := Cal.pos (C := ctK l.prog w K mg) okv13 (PySem.W.mg_of X G av13) kv13 bv13
  have Fv14 := fun_mk (st := s__law_rule) lv14 dv14 kv14
  have okv14 := ok__law_rule (P := l.prog) (w := w) (mg := mg) (base := base) Fv14 B h__law_take
  have bv14 := Fv14.binds (ps := ["_law_pot_here", "_law_kinds_here", "_law_most"]) fun _ _ _ _ _ _ us hl => match us, hl with | [_, _, _], _ => rfl
  have h__law_rule := Cal.pos (C := ctK l.prog w K mg) okv14 (PySem.W.mg_of X G av14) kv14 bv14
  have Fv15 := fun_mk (st := s__law_strip) lv15 dv15 kv15
  have okv15 := ok__law_strip (P := l.prog) (w := w) (mg := mg) (base := base) Fv15 B h__law_take
  have bv15 := Fv15.binds (ps := ["_law_pot_here", "_law_kinds_here", "_law_depth"]) fun _ _ _ _ _ _ us hl => match us, hl with | [_, _, _], _ => rfl
  have h__law_strip := Cal.pos (C := ctK l.prog w K mg) okv15 (PySem.W.mg_of X G av15) kv15 bv15
  have Fv16 := fun_mk (st := s__law_open) lv16 dv16 kv16
  have okv16 := ok__law_open (P := l.prog) (w := w) (mg := mg) (base := base) Fv16 B h__law_above h__law_below
  have bv16 := Fv16.binds (ps := ["_law_walk", "_law_sieve"]) fun _ _ _ _ _ _ us hl => match us, hl with | [_, _], _ => rfl
  have h__law_open := Cal.pos (C := ctK l.prog w K mg) okv16 (PySem.W.mg_of X G av16) kv16 bv16
  have Fv17 := fun_mk (st := s_is_state) lv17 dv17 kv17
  have okv17 := ok_is_state (P := l.prog) (w := w) (mg := mg) (base := base) Fv17 B h_are_names h_is_whole
  have bv17 := Fv17.binds (ps := ["thing", "many"]) fun _ _ _ _ _ _ us hl => match us, hl with | [_, _], _ => rfl
  have h_is_state := Cal.pos (C := ctK l.prog w K mg) okv17 (PySem.W.mg_of X G av17) kv17 bv17
  have Fv18 := fun_mk (st := s_is_strip) lv18 dv18 kv18
  have okv18 := ok_is_strip (P := l.prog) (w := w) (mg := mg) (base := base) Fv18 B T h_is_mask
  have bv18 := Fv18.binds (ps := ["thing"]) fun _ _ _ _ _ _ us hl => match us, hl with | [_], _ => rfl
  have h_is_strip := Cal.pos (C := ctK l.prog w K mg) okv18 (PySem.W.mg_of X G av18) kv18 bv18
  have Fv19 := fun_mk (st := s__law_kinds) lv19 dv19 kv19
  have okv19 := ok__law_kinds (P := l.prog) (w := w) (mg := mg) (base := base) Fv19 B h__law_take h__law_names
  have bv19 := Fv19.binds (ps := ["_law_pot_here", "_law_most"]) fun _ _ _ _ _ _ us hl => match us, hl with | [_, _], _ => rfl
  have h__law_kinds := Cal.pos (C := ctK l.prog w K mg) okv19 (PySem.W.mg_of X G av19) kv19 bv19
  have Fv20 := fun_mk (st := s__law_poor_rule) lv20 dv20 kv20
  have okv20 := ok__law_poor_rule (P := l.prog) (w := w) (mg := mg) (base := base) Fv20 h__law_rule h__law_take
  have bv20 := Fv20.binds (ps := ["_law_pot_here", "_law_kinds_here", "_law_most"]) fun _ _ _ _ _ _ us hl => match us, hl with | [_, _, _], _ => rfl
  have h__law_poor_rule := Cal.pos (C := ctK l.prog w K mg) okv20 (PySem.W.mg_of X G av20) kv20 bv20
  have Fv21 := fun_mk (st := s_are_states) lv21 dv21 kv21
  have okv21 := ok_are_states (P := l.prog) (w := w) (mg := mg) (base := base) Fv21 B T h_is_state
  have bv21 := Fv21.binds (ps := ["thing"]) fun _ _ _ _ _ _ us hl => match us, hl with | [_], _ => rfl
  have h_are_states := Cal.pos (C := ctK l.prog w K mg) okv21 (PySem.W.mg_of X G av21) kv21 bv21
  have Fv22 := fun_mk (st := s_is_rule) lv22 dv22 kv22
  have okv22 := ok_is_rule (P := l.prog) (w := w) (mg := mg) (base := base) Fv22 B h_are_states h_are_rising h_is_whole
  have bv22 := Fv22.binds (ps := ["thing"]) fun _ _ _ _ _ _ us hl => match us, hl with | [_], _ => rfl
  have h_is_rule := Cal.pos (C := ctK l.prog w K mg) okv22 (PySem.W.mg_of X G av22) kv22 bv22
  have Fv23 := fun_mk (st := s_need_strip) lv23 dv23 kv23
  have okv23 := ok_need_strip (P := l.prog) (w := w) (mg := mg) (base := base) Fv23 x_NoRule x_NoMasks h_is_rule h_is_strip
  have bv23 := Fv23.binds (ps := ["rule", "strip"]) fun _ _ _ _ _ _ us hl => match us, hl with | [_, _], _ => rfl
  have h_need_strip := Cal.pos (C := ctK l.prog w K mg) okv23 (PySem.W.mg_of X G av23) kv23 bv23
  have Fv24 := fun_mk (st := s_from_above) lv24 dv24 kv24
  have okv24 := ok_from_above (P := l.prog) (w := w) (mg := mg) (base := base) Fv24 h_need_strip h_states_above
  have bv24 := Fv24.binds (ps := ["rule", "strip"]) fun _ _ _ _ _ _ us hl => match us, hl with | [_, _], _ => rfl
  have h_from_above := Cal.pos (C := ctK l.prog w K mg) okv24 (PySem.W.mg_of X G av24) kv24 bv24
  have h_from_above__0_strip_rule := Cal.pk (C := ctK l.prog w K mg) 0 ["strip", "rule"] [(false, 1), (false, 0)] okv24 Fv24 (PySem.W.mg_of X G av24) (fun _ _ _ _ _ _ us ws h1 h2 => match us, ws, h1, h2 with | [], [_, _], _, _ => rfl) rfl (by decide)
  have Fv25 := fun_mk (st := s_from_below) lv25 dv25 kv25
  have okv25 := ok_from_below (P := l.prog) (w := w) (mg := mg) (base := base) Fv25 h_need_strip h_states_below
  have bv25 := Fv25.binds (ps := ["rule", "strip"]) fun _ _ _ _ _ _ us hl => match us, hl with | [_, _], _ => rfl
  have h_from_below := Cal.pos (C := ctK l.prog w K mg) okv25 (PySem.W.mg_of X G av25) kv25 bv25
  have h_from_below__0_strip_rule := Cal.pk (C := ctK l.prog w K mg) 0 ["strip", "rule"] [(false, 1), (false, 0)] okv25 Fv25 (PySem.W.mg_of X G av25) (fun _ _ _ _ _ _ us ws h1 h2 => match us, ws, h1, h2 with | [], [_, _], _, _ => rfl) rfl (by decide)
  have Fv26 := fun_mk (st := s_sure_states) lv26 dv26 kv26
  have okv26 := ok_sure_states (P := l.prog) (w := w) (mg := mg) (base := base) Fv26 B h_need_strip h_states_open
  have bv26 := Fv26.binds (ps := ["rule", "strip"]) fun _ _ _ _ _ _ us hl => match us, hl with | [_, _], _ => rfl
  have h_sure_states := Cal.pos (C := ctK l.prog w K mg) okv26 (PySem.W.mg_of X G av26) kv26 bv26
  have h_sure_states__0_strip_rule := Cal.pk (C := ctK l.prog w K mg) 0 ["strip", "rule"] [(false, 1), (false, 0)] okv26 Fv26 (PySem.W.mg_of X G av26) (fun _ _ _ _ _ _ us ws h1 h2 => match us, ws, h1, h2 with | [], [_, _], _, _ => rfl) rfl (by decide)
  have Fv27 := fun_mk (st := s__law_right) lv27 dv27 kv27
  have okv27 := ok__law_right (P := l.prog) (w := w) (mg := mg) (base := base) Fv27 B h__law_above h__law_rows h__law_below h__law_open h_sure_states h_from_below h_from_above h_from_below__0_strip_rule h_sure_states__0_strip_rule h_from_above__0_strip_rule
  have bv27 := Fv27.binds (ps := ["_law_walk", "_law_sieve"]) fun _ _ _ _ _ _ us hl => match us, hl with | [_, _], _ => rfl
  have h__law_right := Cal.pos (C := ctK l.prog w K mg) okv27 (PySem.W.mg_of X G av27) kv27 bv27
  have Fv28 := fun_mk (st := s_law) lv28 dv28 kv28
  have okv28 := ok_law (P := l.prog) (w := w) (mg := mg) (base := base) Fv28 B h__law_pot h__law_kinds h__law_poor_rule h__law_take h__law_strip h__law_right
  exact law_of okv28 law_fact
end K25
open PySem PySem.W PyProof.Rows
set_option maxRecDepth 100000 in
set_option maxHeartbeats 0 in
theorem PySem.Challenge.cw_groundsay_k25_states_above_and_below_holds : PySem.Challenge.rw_groundsay_k25_states_above_and_below.Holds := by
  w_on; o_law; k_head; (case hw => w_witness2)
  k_fill
  refine Ev.walkE (l := PySem.Challenge.rw_groundsay_k25_states_above_and_below) (k := 9) (x := "_law_script") ⟨rfl, by decide, by decide⟩ rfl rfl (fun w h Y => PySem.W.kIn_of Y) ?F
  case F =>
    intro w mg fa h KX G hmg
    refine' K25.all_mk KX G hmg ?av0 ?lv0 ?dv0 ?kv0 ?av1 ?lv1 ?dv1 ?kv1 ?av2 ?lv2 ?dv2 ?kv2 ?av3 ?lv3 ?dv3 ?kv3 ?av4 ?lv4 ?dv4 ?kv4 ?av5 ?lv5 ?dv5 ?kv5 ?av6 ?lv6 ?dv6 ?kv6 ?av7 ?lv7 ?dv7 ?kv7 ?av8 ?lv8 ?dv8 ?kv8 ?av9 ?lv9 ?dv9 ?kv9 ?av10 ?lv10 ?dv10 ?kv10 ?av11 ?lv11 ?dv11 ?kv11 ?av12 ?lv12 ?dv12 ?kv12 ?av13 ?lv13 ?dv13 ?kv13 ?av14 ?lv14 ?dv14 ?kv14 ?av15 ?lv15 ?dv15 ?kv15 ?av16 ?lv16 ?dv16 ?kv16 ?av17 ?lv17 ?dv17 ?kv17 ?av18 ?lv18 ?dv18 ?kv18 ?av19 ?lv19 ?dv19 ?kv19 ?av20 ?lv20 ?dv20 ?kv20 ?av21 ?lv21 ?dv21 ?kv21 ?av22 ?lv22 ?dv22 ?kv22 ?av23 ?lv23 ?dv23 ?kv23 ?av24 ?lv24 ?dv24 ?kv24 ?av25 ?lv25 ?dv25 ?kv25 ?av26 ?lv26 ?dv26 ?kv26 ?av27 ?lv27 ?dv27 ?kv27 ?av28 ?lv28 ?dv28 ?kv28 ?t0 ?t1 ?t2 ?t3 ?t4 ?e0 ?q0 ?x0 ?y0 ?u0 ?e1 ?q1 ?x1 ?y1 ?u1 ?z_len ?z_abs ?z_int ?z_range ?z_isinstance ?z_all ?z_any ?z_sum ?z_zip ?z_enumerate ?z_sorted ?z_tuple ?z_list ?z_dict ?z_set ?z_min ?z_max ?z_repr ?z_str ?z_bool
    (case av0 => k_is)
    (case lv0 => k_is)
    (case dv0 => k_is)
    (case kv0 => k_is)
    (case av1 => k_is)
    (case lv1 => k_is)
    (case dv1 => k_is)
    (case kv1 => k_is)
    (case av2 => k_is)
    (case lv2 => k_is)
    (case dv2 => k_is)
    (case kv2 => k_is)
    (case av3 => k_is)
    (case lv3 => k_is)
    (case dv3 => k_is)
    (case kv3 => k_is)
    (case av4 => k_is)
    (case lv4 => k_is)
    (case dv4 => k_is)
    (case kv4 => k_is)
    (case av5 => k_is)
    (case lv5 => k_is)
    (case dv5 => k_is)
    (case kv5 => k_is)
    (case av6 => k_is)
    (case lv6 => k_is)
    (case dv6 => k_is)
    (case kv6 => k_is)
    (case av7 => k_is)
    (case lv7 => k_is)
    (case dv7 => k_is)
    (case kv7 => k_is)
    (case av8 => k_is)
    (case lv8 => k_is)
    (case dv8 => k_is)
    (case kv8 => k_is)
    (case av9 => k_is)
    (case lv9 => k_is)
    (case dv9 => k_is)
    (case kv9 => k_is)
    (case av10 => k_is)
    (case lv10 => k_is)
    (case dv10 => k_is)
    (case kv10 => k_is)
    (case av11 => k_is)
    (case lv11 => k_is)
    (case dv11 => k_is)
    (case kv11 => k_is)
    (case av12 => k_is)
    (case lv12 => k_is)
    (case dv12 => k_is)
    (case kv12 => k_is)
    (case av13 => k_is)
    (case lv13 => k_is)
    (case dv13 => k_is)
    (case kv13 => k_is)
    (case av14 => k_is)
    (case lv14 => k_is)
    (case dv14 => k_is)
    (case kv14 => k_is)
    (case av15 => k_is)
    (case lv15 => k_is)
    (case dv15 => k_is)
    (case kv15 => k_is)
    (case av16 => k_is)
    (case lv16 => k_is)
    (case dv16 => k_is)
    (case kv16 => k_is)
    (case av17 => k_is)
    (case lv17 => k_is)
    (case dv17 => k_is)
    (case kv17 => k_is)
    (case av18 => k_is)
    (case lv18 => k_is)
    (case dv18 => k_is)
    (case kv18 => k_is)
    (case av19 => k_is)
    (case lv19 => k_is)
    (case dv19 => k_is)
    (case kv19 => k_is)
    (case av20 => k_is)
    (case lv20 => k_is)
    (case dv20 => k_is)
    (case kv20 => k_is)
    (case av21 => k_is)
    (case lv21 => k_is)
    (case dv21 => k_is)
    (case kv21 => k_is)
    (case av22 => k_is)
    (case lv22 => k_is)
    (case dv22 => k_is)
    (case kv22 => k_is)
    (case av23 => k_is)
    (case lv23 => k_is)
    (case dv23 => k_is)
    (case kv23 => k_is)
    (case av24 => k_is)
    (case lv24 => k_is)
    (case dv24 => k_is)
    (case kv24 => k_is)
    (case av25 => k_is)
    (case lv25 => k_is)
    (case dv25 => k_is)
    (case kv25 => k_is)
    (case av26 => k_is)
    (case lv26 => k_is)
    (case dv26 => k_is)
    (case kv26 => k_is)
    (case av27 => k_is)
    (case lv27 => k_is)
    (case dv27 => k_is)
    (case kv27 => k_is)
    (case av28 => k_is)
    (case lv28 => k_is)
    (case dv28 => k_is)
    (case kv28 => k_is)
    (case t0 => k_is)
    (case t1 => k_is)
    (case t2 => k_is)
    (case t3 => k_is)
    (case t4 => k_is)
    (case e0 => k_is)
    (case q0 => k_is)
    (case x0 => kernel_rfl)
    (case y0 => k_is)
    (case u0 => k_is)
    (case e1 => k_is)
    (case q1 => k_is)
    (case x1 => kernel_rfl)
    (case y1 => k_is)
    (case u1 => k_is)
    (case z_len => k_is)
    (case z_abs => k_is)
    (case z_int => k_is)
    (case z_range => k_is)
    (case z_isinstance => k_is)
    (case z_all => k_is)
    (case z_any => k_is)
    (case z_sum => k_is)
    (case z_zip => k_is)
    (case z_enumerate => k_is)
    (case z_sorted => k_is)
    (case z_tuple => k_is)
    (case z_list => k_is)
    (case z_dict => k_is)
    (case z_set => k_is)
    (case z_min => k_is)
    (case z_max => k_is)
    (case z_repr => k_is)
    (case z_str => k_is)
    (case z_bool => k_is)
#print axioms PySem.Challenge.cw_groundsay_k25_states_above_and_below_holds
