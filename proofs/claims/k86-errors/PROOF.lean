import PyProof.Rows.All
import Wide.All
import OpenK.AllK
import Wide.FinOn
import KE.KIsAll
import KE.KExcIs
import HandS.Base
import HandS.Call
import HandS.Exc
import HandS.ExcInit
import HandS.ExcIs
import HandS.New
import PyProof.ExcBaseAll.LookupError
import PyProof.ExcBaseAll.RuntimeError
import PyProof.ExcBaseAll.OverflowError
import HandS.IsInst
import PySem.Challenge.RW_nevergoback_k86_errors_required
import HandS.List
import HandS.Comp
import HandS.Dict
import HandS.Iter
import HandS.Walk
import HandS.Wide
import HandS.Words
import HandS.Defaults
import HandS.More
import PyProof.ReprRoads
import KE.KxText
import PyProof.ReprLen
import KE.KStateDown
import HandS.Ends
import HandS.Head0
import HandS.Head1
import HandS.Head2
import HandS.HeadEnd
import HandS.HeadHook1
import HandS.HeadHook2
set_option Elab.async false
set_option linter.all false
set_option maxRecDepth 100000
set_option maxHeartbeats 0
/-! Own exceptions over any built-in base: made by position or by name, their own maker calling the base's. -/
namespace PySem
namespace NB
open PySem.W PySem.Calls PyProof.Rows PySem.HandSPX
/-- what is asked of the built-in base -/
structure Bas (B nid iid : String) (bm : List Value) : Prop where
  ex : ExcBaseFacts B nid iid bm
  pass : ∀ self : Value, refuseLoop self "__setattr__" bm = pure ()
  ob : bm.contains (.type "object") = true
  typ : typeOf (.type B) = pure (.type "type")
theorem bas_val : Bas "ValueError" "ValueError.__new__" "ValueError.__init__" [.type "ValueError", .type "Exception", .type "BaseException", .type "object"] :=
  ⟨F.excBase_ValueError, fun self => by kernel_rfl, by decide +kernel, by kernel_rfl⟩
theorem bas_look : Bas "LookupError" "LookupError.__new__" "LookupError.__init__" [.type "LookupError", .type "Exception", .type "BaseException", .type "object"] :=
  ⟨F.excBase_LookupError, fun self => by kernel_rfl, by decide +kernel, by kernel_rfl⟩
theorem bas_run : Bas "RuntimeError" "RuntimeError.__new__" "RuntimeError.__init__" [.type "RuntimeError", .type "Exception", .type "BaseException", .type "object"] :=
  ⟨F.excBase_RuntimeError, fun self => by kernel_rfl, by decide +kernel, by kernel_rfl⟩
theorem bas_over : Bas "OverflowError" "OverflowError.__new__" "OverflowError.__init__" [.type "OverflowError", .type "ArithmeticError", .type "Exception", .type "BaseException", .type "object"] :=
  ⟨F.excBase_OverflowError, fun self => by kernel_rfl, by decide +kernel, by kernel_rfl⟩

section
variable {prog : Program} {w : World} {A : Around} {E : Value → Shared → Prop} {R : Result → Shared → Prop} {hp : Heap} {g : Array GenState} {d : Drawn} {t : Nat} {os : OsState}
variable {nm q : Str} {C N : Addr} {bs bm : List Value} {hd : Bool} {sn : List Str} {sub : List Value} {ab : Bool} {col : Option Bool} {dd : Option Addr} {m0 m1 m2 m3 m5 : Option Value} {B nid iid : String}

/-- the maker of the base's kind lets a call with names pass -/
theorem chk_new (Z : Bas B nid iid bm) {us : List Value} {kw : List (Str × Value)} {Q : Unit → Shared → Prop} {M : Model} (cls : hp.get? C = some (excClassObj nm q C N bs bm hd sn sub ab col dd m0 m1 m2 m3 m5 nid))
    (go : Q () ⟨hp, g, d, t, os⟩) : wpAny M A (checkBuiltinCall nid ⟨.ref C :: us, kw⟩) Q E ⟨hp, g, d, t, os⟩ := by
  have isB : (Value.ref C :: bm).contains (.type B) = true := by rw [List.contains_cons, Z.ex.hasB, Bool.or_true]
  have ns := Z.ex.noStar
  simp only [checkBuiltinCall, Z.ex.newKind, Z.ex.newSplit, Z.ex.newRow]
  repeat (first | refine wpAny_loadPart_at cls ?_ | (refine wpAny_isSubtype_exc cls ?_; rw [isB]) | refine wpAny_staticBase_exc cls ?_ | refine wpAny_madeBy_exc cls ?_ | simp only [bne_self_eq_false, Bool.false_eq_true, if_false] | wp_step)
  exact go
theorem run_new (Z : Bas B nid iid bm) {us : List Value} {kw : List (Str × Value)} (cls : hp.get? C = some (excClassObj nm q C N bs bm hd sn sub ab col dd m0 m1 m2 m3 m5 nid))
    (go : R (.ok (.ret (.ref (hp.objs.size + 1)))) ⟨(hp.push (kdv_tup us)).push (excO C hp.objs.size), g, d, t, os⟩) (sm : us.length ≤ sizeLine) :
    codeAny (model prog w) A (.builtin nid ⟨.ref C :: us, kw⟩) R ⟨hp, g, d, t, os⟩ := by
  have e1 := Z.ex.ends
  have isB : (Value.ref C :: bm).contains (.type B) = true := by rw [List.contains_cons, Z.ex.hasB, Bool.or_true]
  have noA : (Value.ref C :: bm).contains (.type "AttributeError") = false := by rw [List.contains_cons, Z.ex.noAttr]; rfl
  have noN : (Value.ref C :: bm).contains (.type "NameError") = false := by rw [List.contains_cons, Z.ex.noName]; rfl
  refine codeAny_builtinAt Z.ex.entry ?_
  unfold Builtin.«BaseException.__new__»
  refine wpAt_bind ?_
  show wpAt _ _ _ (stack >>= _) _ _ _
  refine wpAt_bind (wpAt_stack fun p below => wpAt_of_wpAny ?_)
  wp_walk
  refine wpAt_of_wpAny ?_
  rw [Z.ex.owner]
  repeat (first | with_reducible refine wpAny_madeHere_exc Z.ex.canon cls ?_ | with_reducible refine wpAny_loadPart_at cls ?_ | (with_reducible refine wpAny_isSubtype_exc cls ?_; first | rw [isB] | rw [noA] | rw [noN]) | wp_step)
  show R _ _
  rw [Heap.size_push]
  exact go
/-- C(us.., kw..): the new object, then the own maker with the same arguments -/
theorem ty_call (Z : Bas B nid iid bm) {us : List Value} {kw : List (Str × Value)} {fI : Addr} {Q : Fin → Shared → Prop}
    (cls : hp.get? C = some (excClassObj nm q C N bs bm hd sn sub ab col dd m0 m1 m2 m3 m5 nid)) (lk : Looks (model prog w) hp (typeLookup (.ref C) "__init__") (some (.ref fI)))
    (bd : ∀ self, Looks (model prog w) hp (bindSpecial (.ref fI) self) (.ref fI, [self])) (sm : us.length ≤ sizeLine)
    (go : codeAny (model prog w) A (.call (.ref fI) ⟨.ref (hp.objs.size + 1) :: us, kw⟩)
      (fun r s' => match r with | .ok (.ret v) => v = .none ∧ Q (.done (.ret (.ref (hp.objs.size + 1)))) s' | .ok _ => False | .error e => E e s') ⟨(hp.push (kdv_tup us)).push (excO C hp.objs.size), g, d, t, os⟩) :
    wpAny (model prog w) A (Builtin.«type.__call__» ⟨.ref C :: us, kw⟩) Q E ⟨hp, g, d, t, os⟩ := by
  repeat (first | with_reducible refine wpAny_loadPart_at cls ?_ | with_reducible refine wpAny_madeBy_exc cls ?_ | wp_step)
  refine codeAny_call_builtin_code (Code.quiet_builtin _ Z.ex.quiet) (chk_new Z cls ?_)
  refine run_new Z cls ?_ sm
  show wpAny _ _ _ _ _ _
  have k : ∀ b o, hp.get? b = some o → ((hp.push (kdv_tup us)).push (excO C hp.objs.size)).get? b = some o := fun b o e => Heap.get?_push_of_some _ (Heap.get?_push_of_some _ e)
  have cls1 := k _ _ cls
  have new1 : ((hp.push (kdv_tup us)).push (excO C hp.objs.size)).get? (hp.objs.size + 1) = some (excO C hp.objs.size) := by heap_get
  have isC : (Value.ref C :: bm).contains (.ref C) = true := by simp
  have lk1 := lk.keeps k
  have bd1 := (bd (.ref (hp.objs.size + 1))).keeps k
  unfold isInstance
  repeat (first | with_reducible refine wpAny_loadPart_at new1 ?_ | (with_reducible refine wpAny_isSubtype_exc cls1 ?_; rw [isC]) | wp_step)
  show wpAny _ _ (typeLookup (.ref C) _) _ _ _
  refine lk1.at ?_
  refine wpAny_holding (wpAny_bind (bd1.at ?_))
  refine wpAny_bind (wpAny_call (codeAny_mono go fun r s' z => ?_))
  rcases r with e | (v | _ | _ | _) <;> first | exact z | exact z.elim | skip
  obtain ⟨rfl, z⟩ := z
  first
    | exact wpAny_pure (wpAny_pure z)
    | (wp_walk; exact z)
theorem own_call (Z : Bas B nid iid bm) {us : List Value} {kw : List (Str × Value)} {fI : Addr} (cls : hp.get? C = some (excClassObj nm q C N bs bm hd sn sub ab col dd m0 m1 m2 m3 m5 nid))
    (lk : Looks (model prog w) hp (typeLookup (.ref C) "__init__") (some (.ref fI))) (bd : ∀ self, Looks (model prog w) hp (bindSpecial (.ref fI) self) (.ref fI, [self])) (sm : us.length ≤ sizeLine)
    (go : codeAny (model prog w) (A.under (.builtin "type.__call__" ⟨.ref C :: us, kw⟩)) (.call (.ref fI) ⟨.ref (hp.objs.size + 1) :: us, kw⟩) (InitBack (hp.objs.size + 1) R) ⟨(hp.push (kdv_tup us)).push (excO C hp.objs.size), g, d, t, os⟩) :
    codeAny (model prog w) A (.call (.ref C) ⟨us, kw⟩) R ⟨hp, g, d, t, os⟩ := by
  have f1 := tc_lookup
  have f2 := tc_bind (.ref C)
  have ty : (⟨hp, g, d, t, os⟩ : Shared).TypeIs (.ref C) "type" := ⟨_, cls, rfl⟩
  refine codeAny_of_tree ?_
  show wpAny _ _ (callAny (.ref C) _) _ _ _
  repeat (any_goals (first | assumption | with_reducible refine wpAny_loadPart_at cls ?_ | wp_step))
  refine ⟨rfl, ?_⟩
  refine codeAny_call_builtin_at (Code.quiet_builtin _ (by decide +kernel)) entry_typeCall (wpAny_check_type_call_sub cls (ty_call Z cls lk bd sm ?_))
  refine codeAny_mono go fun r s' z => ?_
  rcases r with e | (v | _ | _ | _) <;> exact z
/-- B.__init__(e, ..) -/
theorem base_init (Z : Bas B nid iid bm) {e t0 : Addr} {us : List Value} (cls : hp.get? C = some (excClassObj nm q C N bs bm hd sn sub ab col dd m0 m1 m2 m3 m5 nid)) (he : hp.get? e = some (excO C t0)) (sm : us.length ≤ sizeLine)
    (go : ∀ h' t1, (∀ b o, b ≠ e → hp.get? b = some o → h'.get? b = some o) → h'.get? e = some (excO C t1) → R (.ok (.ret .none)) ⟨h', g, d, t, os⟩) :
    codeAny (model prog w) A (.call (.builtin iid) ⟨.ref e :: us, []⟩) R ⟨hp, g, d, t, os⟩ :=
  init_base Z.ex (fun _ => rfl) cls he sm go
end
end NB
end PySem

/-! Own exceptions as values: readings and rules. -/
namespace L2
namespace NB
open PySem PySem.Spec PyProof.Rows PySem.NB Builtin Builtin.ObjectAttr
open PySem.W (Frag findIn typeIn keepIn subIn hasDictIn mroIn clsIn InstAt)
/-- what the written part says of an exception's class at C, its own maker at fI -/
structure Oe (K : Frag) (bm : List Value) (nid : String) (C fI : Addr) : Prop where
  cls : ∃ nm q N bs sn sub ab col dd m0 m1 m2 m3 m5, K.lookup C = some (excClassObj nm q C N bs bm true sn sub ab col dd m0 m1 m2 m3 m5 nid)
  sa : findIn K (.ref C) "__setattr__" = some (some (.builtin "object.__setattr__"))
  xc : ExcC K C
  ty : typeIn K (.ref C) = some (.type "type")
  kc : keepIn K (.ref C) = true
  ini : findIn K (.ref C) "__init__" = some (some (.ref fI))
  tyI : typeIn K (.ref fI) = some (.type "function")
section
variable {B nid iid : String} {bm : List Value} {X : Cx} {C fI : Addr}
theorem Oe.data {K : Frag} (T : Oe K bm nid C fI) : ∃ cd, clsIn K C = some cd ∧ cd.mro = .ref C :: bm ∧ cd.hasDict = true := by
  obtain ⟨nm, q, N, bs, sn, sub, ab, col, dd, m0, m1, m2, m3, m5, h⟩ := T.cls
  exact ⟨_, by unfold clsIn; rw [h] <;> rfl, rfl, rfl⟩
/-- a store to such an object, as the type's own store does it; no dict as yet -/
theorem put_new {prog : Program} {w : World} {A : Around} {R : Result → Shared → Prop} {hp : Heap} {g : Array GenState} {d : Drawn} {t : Nat} {os : OsState} {K : Frag} {name : Str} {tk : Tok} {v : Value} {x : Addr} {fv : Array Value}
    (Z : Bas B nid iid bm) (T : Oe K bm nid C fI) (X : K.In hp) (hx : hp.get? x = some { cls := .ref C, data := .fields fv }) (no : findIn K (.ref C) name = some none)
    (go : ∀ h' tk' dx, (∀ b o, b ≠ x → hp.get? b = some o → h'.get? b = some o) → hp.objs.size ≤ dx → dx ≠ x → h'.get? x = some { cls := .ref C, dict := some dx, data := .fields fv } →
      h'.Ns1 dx (fun y => if y = name then some v else none) → R (.ok (.ret .none)) ⟨h', g, d, tk', os⟩) :
    codeAny (model prog w) A (.call (.builtin "object.__setattr__") ⟨[.ref x, .str name tk, v], []⟩) R ⟨hp, g, d, t, os⟩ := by
  obtain ⟨cd, c1, c2, c3⟩ := T.data
  have I : InstAt hp x { cls := .ref C, data := .fields fv } C none := ⟨hx, rfl, rfl, trivial⟩
  have SF := F.store_object
  have nem : cd.mro.isEmpty = false := by rw [c2]; rfl
  have hob : cd.mro.contains (.type "object") = true := by rw [c2, List.contains_cons, Z.ob, Bool.or_true]
  have lt : x ≠ hp.objs.size := Nat.ne_of_lt (Heap.lt_size hx)
  have isO : PySem.W.Looks (model prog w) hp (isInstance (.ref x) (.type "object")) true := I.type.andThen (PySem.W.looks_mroIn X (by unfold mroIn; rw [c1, Option.bind_some, if_neg (by rw [nem]; decide), hob]))
  refine codeAny_call_builtin SF.slot.plain SF.entry (@PySem.W.check_slot (model prog w) _ _ ⟨hp, g, d, t, os⟩ "object.__setattr__" "object" "__setattr__" (.ref x) [.str name tk, v] [] _ SF.kind SF.split isO (SF.args (.ref x) (.str name tk) v) ?_)
  have lm : PySem.W.Looks (model prog w) hp (mroOf (.ref C)) cd.mro := (PySem.W.looks_clsIn X c1).andThen .now
  have l3 : PySem.W.Looks (model prog w) hp (storeTaker? none) none := .now
  have lc : PySem.W.Looks (model prog w) hp (classData C) cd := PySem.W.looks_clsIn X c1
  rw [PySem.W.osa_eq, refuse_eq]
  refine wpAny_bind (wpAny_bind (I.type.at (wpAny_bind (lm.at ?_))))
  rw [c2, refuseLoop_ref, Z.pass]
  refine wpAny_pure (wpAny_bind (I.type.at (wpAny_bind ((PySem.W.looks_findIn X no).at (wpAny_bind (l3.at ?_))))))
  show wpAny _ _ (Builtin.ObjectAttr.storeInOwnDict (.ref x) (.ref C) (.str name tk) name v false) _ _ _
  obtain ⟨nm, bs, mro, ns, qn, hd, sn, sb, ab, col, del⟩ := cd
  dsimp only at c3
  subst c3
  unfold Builtin.ObjectAttr.storeInOwnDict Builtin.ObjectAttr.ownDictForStores
  repeat (first | with_reducible refine PySem.HandSPX.store_in_new ?_ ?_ | with_reducible refine wpAny_loadPart_at hx ?_ | with_reducible refine lc.at ?_ | wp_step)
  · exact ⟨_, #[], _, (Heap.get?_update_ne _ _ _ _ lt.symm).trans (Heap.get?_push_at rfl rfl), rfl, fun e he => absurd he (by simp), fun _ => rfl⟩
  · intro h' tk' ns1 same
    have hx1 : (hp.push { cls := .type "dict", data := .dict #[] }).get? x = some { cls := .ref C, data := .fields fv } := Heap.get?_push_of_some _ hx
    refine go h' tk' hp.objs.size (fun b o nb ho => ?_) (Nat.le_refl _) lt.symm ?_ ns1
    · exact (same.2 b (Nat.ne_of_lt (Heap.lt_size ho))).trans ((Heap.get?_update_ne _ _ _ _ nb).trans (Heap.get?_push_of_some _ ho))
    · exact (same.2 x lt).trans (Heap.get?_update_self _ hx1 rfl)
/-- a further store -/
theorem put_old {prog : Program} {w : World} {A : Around} {R : Result → Shared → Prop} {hp : Heap} {g : Array GenState} {d : Drawn} {t : Nat} {os : OsState} {K : Frag} {name : Str} {tk : Tok} {v : Value} {x dx : Addr} {fv : Array Value} {mA : Str → Option Value} {nl : List Str}
    (Z : Bas B nid iid bm) (T : Oe K bm nid C fI) (X : K.In hp) (hx : hp.get? x = some { cls := .ref C, dict := some dx, data := .fields fv }) (ns0 : hp.Ns1 dx mA) (win : Within mA nl) (few : nl.length ≤ 1000) (no : findIn K (.ref C) name = some none)
    (go : ∀ h' tk', (∀ b o, b ≠ dx → hp.get? b = some o → h'.get? b = some o) → h'.Ns1 dx (fun y => if y = name then some v else mA y) → R (.ok (.ret .none)) ⟨h', g, d, tk', os⟩) :
    codeAny (model prog w) A (.call (.builtin "object.__setattr__") ⟨[.ref x, .str name tk, v], []⟩) R ⟨hp, g, d, t, os⟩ := by
  obtain ⟨cd, c1, c2, c3⟩ := T.data
  obtain ⟨oD, esD, epD, hoD, hdD, _⟩ := ns0.count win
  have I : InstAt hp x { cls := .ref C, dict := some dx, data := .fields fv } C (some oD) := ⟨hx, rfl, rfl, hoD⟩
  have SF := F.store_object
  have nem : cd.mro.isEmpty = false := by rw [c2]; rfl
  have hob : cd.mro.contains (.type "object") = true := by rw [c2, List.contains_cons, Z.ob, Bool.or_true]
  have isO : PySem.W.Looks (model prog w) hp (isInstance (.ref x) (.type "object")) true := I.type.andThen (PySem.W.looks_mroIn X (by unfold mroIn; rw [c1, Option.bind_some, if_neg (by rw [nem]; decide), hob]))
  refine codeAny_call_builtin SF.slot.plain SF.entry (@PySem.W.check_slot (model prog w) _ _ ⟨hp, g, d, t, os⟩ "object.__setattr__" "object" "__setattr__" (.ref x) [.str name tk, v] [] _ SF.kind SF.split isO (SF.args (.ref x) (.str name tk) v) ?_)
  have lm : PySem.W.Looks (model prog w) hp (mroOf (.ref C)) cd.mro := (PySem.W.looks_clsIn X c1).andThen .now
  have l3 : PySem.W.Looks (model prog w) hp (storeTaker? none) none := .now
  have lc : PySem.W.Looks (model prog w) hp (classData C) cd := PySem.W.looks_clsIn X c1
  rw [PySem.W.osa_eq, refuse_eq]
  refine wpAny_bind (wpAny_bind (I.type.at (wpAny_bind (lm.at ?_))))
  rw [c2, refuseLoop_ref, Z.pass]
  refine wpAny_pure (wpAny_bind (I.type.at (wpAny_bind ((PySem.W.looks_findIn X no).at (wpAny_bind (l3.at ?_))))))
  show wpAny _ _ (Builtin.ObjectAttr.storeInOwnDict (.ref x) (.ref C) (.str name tk) name v false) _ _ _
  obtain ⟨nm, bs, mro, ns, qn, hd, sn, sb, ab, col, del⟩ := cd
  dsimp only at c3
  subst c3
  unfold Builtin.ObjectAttr.storeInOwnDict Builtin.ObjectAttr.ownDictForStores
  repeat (first | with_reducible refine PySem.OEX.store_in_old ns0 win few ?_ | with_reducible refine wpAny_loadPart_at hx ?_ | with_reducible refine lc.at ?_ | wp_step)
  intro h' tk' ns1 same
  exact go h' tk' (fun b o nb ho => (same.2 b nb).trans ho) ns1
end
section
variable {B nid iid : String} {bm : List Value} {X : Cx} {pins : List (Addr × Obj)} {σ : St} {H : Hp} {s : Shared} {a C fI dx : Addr} {f : Str} {y : V} {u : Value} {fs : List (Str × V)}
theorem sto_new {Q : Unit → Shared → Prop} {E : Value → Shared → Prop} {A : Around} (Z : Bas B nid iid bm) (T : Oe X.K bm nid C fI) (I : Inv X pins σ H s) (e : H a = some (exo a C none)) (no : findIn X.K (.ref C) f = some none) (ry : RelV y u)
    (go : ∀ dx s', H dx = none → dx ≠ a → Inv X pins σ (upd (upd H dx (exd dx [(f, y)])) a (exo a C (some dx))) s' → Q () s') : wpAny (model X.prog X.w) A (setAttr (.ref a) f u) Q E s := by
  obtain ⟨t1, ho⟩ := exo_at I.hok e
  obtain ⟨hp, g, d, t, os⟩ := s
  refine PySem.W.set_plain I.kIn (ox := { cls := .ref C, dict := none, data := .fields #[.ref t1, .none, .none, .none, .bool false, .none] }) (od := none) ⟨ho, rfl, rfl, trivial⟩ T.sa ?_
  refine put_new Z T I.kIn ho no (fun h' tk' dx k big ne hx hn => ?_)
  have fr : H dx = none := I.hok.fresh big
  have n1 : ∀ {b : Addr} {o : Obj}, hp.get? b = some o → b ≠ dx := fun {b o} q => Nat.ne_of_lt (Nat.lt_of_lt_of_le (Heap.lt_size q) big)
  have n2 : ∀ {b : Addr}, H b = none → b ≠ a := fun {b} n z => by
    rw [z, e] at n
    cases n
  have U : Un X.fs [] H (upd (upd H dx (exd dx [(f, y)])) a (exo a C (some dx))) hp h' := {
    keep := fun b o q n _ _ => k b o (n2 n) q
    slot := fun b o q n _ _ => ⟨o.slots, k b o (n2 n) q⟩
    free := fun b o q n _ => by rw [upd_ne (n2 n), upd_ne (n1 q)]; exact n
    there := fun b o q _ => by
      by_cases hb : b = a
      · exact ⟨_, by rw [hb]; exact hx⟩
      · exact ⟨o, k b o hb q⟩
    tups := fun b xs q => by rw [upd_ne (at_ne e q exo_tup), upd_ne (ne_of_none q fr)]; exact q
    frzs := fun b o v q => by rw [upd_ne (at_ne e q exo_frz), upd_ne (ne_of_none q fr)]; exact q
    tbls := fun b ps q => ⟨#[], by rw [upd_ne (at_ne e q exo_tbl), upd_ne (ne_of_none q fr), q]; simp⟩ }
  refine go dx _ fr ne (I.un (t' := tk') U fun b o q => ?_)
  by_cases hb : b = a
  · subst hb
    rw [upd_same] at q
    cases q
    exact exo_ok hx
  · rw [upd_ne hb] at q
    by_cases hd : b = dx
    · subst hd
      rw [upd_same] at q
      cases q
      exact exd_ok hn (relO_put (fs := []) ry fun g => True.intro)
    · rw [upd_ne hd] at q
      exact (I.hok b o q).stay (fun c v hc z => k c v (by
          rcases hc with hc | hc
          · rw [hc]
            exact hb
          · exact at_ne e hc exo_own) z)
        (fun c hc => by rw [upd_ne (at_ne e hc exo_own), upd_ne (ne_of_none hc fr)]; exact hc) (fun c xs hc => by rw [upd_ne (at_ne e hc exo_tup), upd_ne (ne_of_none hc fr)]; exact hc)
theorem sto_old {Q : Unit → Shared → Prop} {E : Value → Shared → Prop} {A : Around} (Z : Bas B nid iid bm) (T : Oe X.K bm nid C fI) (I : Inv X pins σ H s) (e : H a = some (exo a C (some dx))) (ed : H dx = some (exd dx fs)) (few : fs.length ≤ 900)
    (no : findIn X.K (.ref C) f = some none) (ry : RelV y u) (go : ∀ s', Inv X pins σ (upd H dx (exd dx ((f, y) :: fs))) s' → Q () s') : wpAny (model X.prog X.w) A (setAttr (.ref a) f u) Q E s := by
  obtain ⟨t1, ho⟩ := exo_at I.hok e
  obtain ⟨mA, hns, rel⟩ := exd_at I.hok ed
  have win := within_of rel
  obtain ⟨hp, g, d, t, os⟩ := s
  obtain ⟨oD, _, _, hoD, _, _⟩ := hns.count win
  refine PySem.W.set_plain I.kIn (ox := { cls := .ref C, dict := some dx, data := .fields #[.ref t1, .none, .none, .none, .bool false, .none] }) (od := some oD) ⟨ho, rfl, rfl, hoD⟩ T.sa ?_
  refine put_old Z T I.kIn ho hns win (by rw [List.length_map]; omega) no (fun h' tk' k hn => ?_)
  have hd : ∃ o, h'.get? dx = some o := by
    obtain ⟨o, _, _, e', _⟩ := hn
    exact ⟨o, e'⟩
  exact go _ (I.write (t' := tk') (x := dx) (e := dx) (o := exd dx ((f, y) :: fs)) (by rw [ed]; exact True.intro) (.inl rfl) k hd (exd_ok hn (relO_put ry rel)))
/-- B.__init__(e, ..) -/
def rIni (K : Frag) (bm : List Value) (nid : String) : List V → Hp → VK → Prop := fun vs H Q => ∃ (a C fI : Addr) (ws : List V), vs = .ref a :: ws ∧ ws.length ≤ 1000 ∧ Oe K bm nid C fI ∧ H a = some (exo a C none) ∧ Q .non H
theorem call_ini (Z : Bas B nid iid bm) : CallR X (.builtin iid) (rIni X.K bm nid) := by
  intro pins s σ H xs us Q I r h
  obtain ⟨a, C, fI, ws, rfl, few, T, e, q⟩ := h
  cases r with
  | @cons _ u0 _ ur ra rw' =>
    obtain rfl : u0 = Value.ref a := ra
    have few' : ur.length ≤ sizeLine := by
      rw [← Paired.length rw', sizeLine_eq]
      omega
    obtain ⟨nm, q', N, bs, sn, sub, ab, col, dd, m0, m1, m2, m3, m5, hC⟩ := T.cls
    obtain ⟨t1, ho⟩ := exo_at I.hok e
    obtain ⟨hp, g, d, t, os⟩ := s
    refine wpAny_call (base_init Z (I.kIn _ _ hC) ho few' fun h' t2 k hx => ?_)
    have J := I.write (t' := t) (x := a) (e := a) (o := exo a C none) (by rw [e]; exact True.intro) (.inl rfl) k ⟨_, hx⟩ (exo_ok hx)
    have same : upd H a (exo a C none) = H := by
      funext b
      by_cases hb : b = a
      · rw [hb, upd_same, e]
      · rw [upd_ne hb]
    rw [same] at J
    exact ⟨.non, H, J, rfl, q⟩
theorem tyAt_ini (Z : Bas B nid iid bm) (st : Manifest.isStub B = false) (hd : PySem.W.handedIn (.builtin iid) = true) (fi : ∀ K : Frag, PySem.W.findCls K (.type B) (.type "type") "__init__" = some (.val (.builtin iid))) : NwS.TyAt B "__init__" iid := ⟨st, Z.typ, fi, hd⟩
theorem ta_val : NwS.TyAt "ValueError" "__init__" "ValueError.__init__" := tyAt_ini bas_val (by decide +kernel) (by decide +kernel) fun K => by kernel_rfl
theorem ta_look : NwS.TyAt "LookupError" "__init__" "LookupError.__init__" := tyAt_ini bas_look (by decide +kernel) (by decide +kernel) fun K => by kernel_rfl
theorem ta_run : NwS.TyAt "RuntimeError" "__init__" "RuntimeError.__init__" := tyAt_ini bas_run (by decide +kernel) (by decide +kernel) fun K => by kernel_rfl
theorem ta_over : NwS.TyAt "OverflowError" "__init__" "OverflowError.__init__" := tyAt_ini bas_over (by decide +kernel) (by decide +kernel) fun K => by kernel_rfl
/-- self.f = e in an exception's own maker -/
def tSto (K : Frag) (bm : List Value) (nid : String) (f : Str) (to te : TE) : TS := fun D σ H => te σ H fun y H1 => to σ H1 fun x H2 => ∃ a C fI : Addr, x = .ref a ∧ Oe K bm nid C fI ∧ findIn K (.ref C) f = some none ∧
  ((H2 a = some (exo a C none) ∧ ∀ dx, H2 dx = none → dx ≠ a → D.nx σ (upd (upd H2 dx (exd dx [(f, y)])) a (exo a C (some dx)))) ∨
    ∃ (dx : Addr) (fs : List (Str × V)), H2 a = some (exo a C (some dx)) ∧ H2 dx = some (exd dx fs) ∧ fs.length ≤ 900 ∧ D.nx σ (upd H2 dx (exd dx ((f, y) :: fs))))
theorem ps_sto {o e : Expr} {to te : TE} {p' pos : Pos} (Z : Bas B nid iid bm) (ho : PE X o to) (he : PE X e te) (hs : swapsWith e (some (.Attribute o f p')) pos.line X.env = pure false := by rfl) : PS X (.Assign [.Attribute o f p'] e pos) (tSto X.K bm nid f to te) := by
  refine ⟨fun pins s σ H D I h => ?_⟩
  refine plainObj_wpAny_Assign_Attribute (thn (he.run pins s σ H _ I h) fun v s1 ⟨y, H1, I1, r1, q1⟩ => thn (ho.run pins s1 σ H1 _ I1 q1) fun u s2 ⟨x, H2, I2, r2, a, C, fI, ex, T, no, q⟩ => ?_) hs
  subst ex
  obtain rfl : u = Value.ref a := r2
  rcases q with ⟨ea, q⟩ | ⟨dx, fs, ea, ed, hl, q⟩
  · exact sto_new Z T I2 ea no r1 fun dx s' n ne J => ⟨σ, _, J, q dx n ne⟩
  · exact sto_old Z T I2 ea ed hl no r1 fun s' J => ⟨σ, _, J, q⟩
end
end NB
end L2

/-! Own exceptions as values: made, asked, read. -/
namespace L2
namespace NB
open PySem PySem.Spec PyProof.Rows PySem.NB
open PySem.W (Frag findIn typeIn keepIn subIn hasDictIn mroIn clsIn InstAt)
section
variable {B nid iid : String} {bm : List Value} {X : Cx} {CX : CXT} {C fI : Addr} {k : Nat} {fd : FuncData} {ps ks : List Str} {g : List Value → List Value → List Value} {gV : List V → List V → List V} {sp : Sp}
theorem kb_pos {K : Frag} {fd : FuncData} {ps : List Str} (h : Binds K fd ps []) : KBinds K fd ps [] (fun us _ => us) (fun vs _ => vs) where
  to := fun s us ws X hl => by
    have q := h s us X (by rw [List.append_nil]; exact hl)
    rw [List.append_nil] at q
    exact q
  rel := fun r _ => r
/-- C(us.., kw..), C's own maker keeping sp -/
theorem run_mk {pins : List (Addr × Obj)} {σ : St} {H : Hp} {s : Shared} {Q : VK} {us ws : List Value} {vs zs : List V} (Z : Bas B nid iid bm) (T : Oe X.K bm nid C fI) (F1 : FnOk X.prog X.w X.K X.mg X.base CX k fI fd ps sp) (hr : Room (k + 1) X.A) (hb : KBinds X.K fd ps ks g gV)
    (hx : Passes CX X (fun _ _ _ => False)) (I : Inv X pins σ H s) (r : Vals vs us) (rz : Vals zs ws)
    (h : vs.length ≤ 1000 ∧ ∀ a, H a = none → sp (gV (.ref a :: vs) zs) (upd H a (exo a C none)) (fun v H2 => v = .non ∧ Q (.ref a) H2) (fun _ _ _ => False)) :
    wpAny (model X.prog X.w) X.A (call (.ref C) us (ks.zip ws)) (EP X pins σ Q) X.xe s := by
  obtain ⟨few, h⟩ := h
  obtain ⟨nm, q, N, bs, sn, sub, ab, col, dd, m0, m1, m2, m3, m5, hC⟩ := T.cls
  obtain ⟨hp, gs, dr, tk, os⟩ := s
  have big : hp.objs.size ≤ hp.objs.size + 1 := Nat.le_succ _
  have go := h (hp.objs.size + 1) (I.hok.fresh big)
  have kk : ∀ b o, hp.get? b = some o → ((hp.push (PySem.W.kdv_tup us)).push (PySem.HandSPX.excO C hp.objs.size)).get? b = some o := fun b o e => Heap.get?_push_of_some _ (Heap.get?_push_of_some _ e)
  have there : ((hp.push (PySem.W.kdv_tup us)).push (PySem.HandSPX.excO C hp.objs.size)).get? (hp.objs.size + 1) = some (PySem.HandSPX.excO C hp.objs.size) := by heap_get
  have I2 : Inv X pins σ (upd H (hp.objs.size + 1) (exo (hp.objs.size + 1) C none)) ⟨(hp.push (PySem.W.kdv_tup us)).push (PySem.HandSPX.excO C hp.objs.size), gs, dr, tk, os⟩ :=
    I.laid (t' := tk) (a := hp.objs.size + 1) (o := exo (hp.objs.size + 1) C none) (h' := (hp.push (PySem.W.kdv_tup us)).push (PySem.HandSPX.excO C hp.objs.size)) kk big (exo_ok there)
  have r2 : Vals (gV (.ref (hp.objs.size + 1) :: vs) zs) (g (Value.ref (hp.objs.size + 1) :: us) ws) := hb.rel (.cons rfl r) rz
  have hl : (g (Value.ref (hp.objs.size + 1) :: us) ws).length = ps.length := by rw [← r2.length]; exact F1.len _ _ _ _ go
  have few' : us.length ≤ sizeLine := by
    rw [← Paired.length r, sizeLine_eq]
    omega
  refine wpAny_call (own_call Z (I.kIn _ _ hC) (PySem.W.looks_findIn I.kIn T.ini) (fun self => PySem.W.bind_fn I.kIn self T.tyI) few'
    (codeAny_mono (F1.run _ X.stack _ _ ⟨Value.ref (hp.objs.size + 1) :: us, ks.zip ws⟩ (g (Value.ref (hp.objs.size + 1) :: us) ws) _ _ (fun _ _ _ => False) (hr.make C us (ks.zip ws)) (I2.env0.make C us (ks.zip ws))
      (hb.to _ (Value.ref (hp.objs.size + 1) :: us) ws I2.kIn hl) r2 go) fun r s' hq' => ?_))
  cases r with
  | error er => exact hx pins σ _ _ er s' I2 hq'
  | ok fl =>
    cases fl with
    | ret u =>
      obtain ⟨v, H2, I3, rv, ev, q2⟩ := I2.after hq'
      subst ev
      exact ⟨rv, ⟨V.ref _, H2, I3, rfl, q2⟩⟩
    | next => exact False.elim hq'
    | brk => exact False.elim hq'
    | cont => exact False.elim hq'
@[irreducible] def rMk (C : Addr) (sp : Sp) : List V → Hp → VK → Prop := fun vs H Q => vs.length ≤ 1000 ∧ ∀ a, H a = none → sp (.ref a :: vs) (upd H a (exo a C none)) (fun v H2 => v = .non ∧ Q (.ref a) H2) (fun _ _ _ => False)
def tMk (C : Addr) (sp : Sp) (ta : TA) : TE := fun σ H Q => ta σ H fun vs H1 => rMk C sp vs H1 Q
@[irreducible] def rMkK (C : Addr) (sp : Sp) (gV : List V → List V → List V) : List V → Hp → VK → Prop := fun zs H1 Q => ∀ a, H1 a = none → sp (gV [.ref a] zs) (upd H1 a (exo a C none)) (fun v H2 => v = .non ∧ Q (.ref a) H2) (fun _ _ _ => False)
def tMkK (C : Addr) (sp : Sp) (gV : List V → List V → List V) (tk : TA) : TE := fun σ H Q => tk σ H fun zs H1 => rMkK C sp gV zs H1 Q
theorem pe_mk {x : Str} {p pos : Pos} {e : Expr} {es : List Expr} {ta : TA} (Z : Bas B nid iid bm) (T : Oe X.K bm nid C fI) (F1 : FnOk X.prog X.w X.K X.mg X.base CX k fI fd ps sp) (hr : Room (k + 1) X.A) (hb : Binds X.K fd ps []) (hx : Passes CX X (fun _ _ _ => False))
    (hg : Gl X x) (hm : X.mg x = some (.ref C)) (ha : PA X (e :: es) ta) (hdb : (x == ("__debug__" : Str)) = false := by decide) (he : starEach (e :: es) X.env = (false, eval e X.env) :: starEach es X.env := by rfl) (hpl : (backTo pos (starEach es X.env)).any (·.1) = false := by rfl) :
    PE X (.Call (.Name x p) (e :: es) [] pos) (tMk C sp ta) := by
  refine ⟨fun pins s σ H Q I h => ?_⟩
  refine wpAny_Call_Name_kw (ld_glob I hg hm ?_ hdb)
  refine PySem.W.callWith_K (h₀ := X.base) I.ok.mod.kin T.kc (thn (ha.run pos pins s σ H _ I h) fun us s1 ⟨vs, H1, I1, r, q⟩ => ⟨I1.kIn, ?_⟩) he hpl
  unfold rMk at q
  exact run_mk (ks := []) (ws := []) (zs := []) Z T F1 hr (kb_pos hb) hx I1 r .nil q
theorem pe_mk0 {x : Str} {p pos : Pos} (Z : Bas B nid iid bm) (T : Oe X.K bm nid C fI) (F1 : FnOk X.prog X.w X.K X.mg X.base CX k fI fd ps sp) (hr : Room (k + 1) X.A) (hb : Binds X.K fd ps []) (hx : Passes CX X (fun _ _ _ => False))
    (hg : Gl X x) (hm : X.mg x = some (.ref C)) (hdb : (x == ("__debug__" : Str)) = false := by decide) : PE X (.Call (.Name x p) [] [] pos) (tMk C sp tNil) := by
  refine ⟨fun pins s σ H Q I h => ?_⟩
  refine wpAny_Call_Name_kw (ld_glob I hg hm ?_ hdb)
  replace h : rMk C sp [] H Q := h
  unfold rMk at h
  exact PySem.W.callWith_K0 I.kIn T.kc (run_mk (us := []) (vs := []) (ks := []) (ws := []) (zs := []) Z T F1 hr (kb_pos hb) hx I .nil .nil h)
theorem pe_mkK {x : Str} {p pos : Pos} {kws : List Keyword} {tk : TA} (Z : Bas B nid iid bm) (T : Oe X.K bm nid C fI) (F1 : FnOk X.prog X.w X.K X.mg X.base CX k fI fd ps sp) (hr : Room (k + 1) X.A) (hb : KBinds X.K fd ps ks g gV) (hx : Passes CX X (fun _ _ _ => False))
    (hg : Gl X x) (hm : X.mg x = some (.ref C)) (hkw : PK X kws tk) (hdb : (x == ("__debug__" : Str)) = false := by decide) (hall : (backToKw pos (keywordEach kws X.env)).all (·.1.isSome) = true := by rfl) (hks : (backToKw pos (keywordEach kws X.env)).filterMap (·.1) = ks := by rfl)
    (hpl : ((backTo pos (starEach [] X.env)).any (·.1) || (backToKw pos (keywordEach kws X.env)).any (·.1.isNone)) = false := by rfl) : PE X (.Call (.Name x p) [] kws pos) (tMkK C sp gV tk) := by
  refine ⟨fun pins s σ H Q I h => ?_⟩
  refine wpAny_Call_Name_kw (ld_glob I hg hm ?_ hdb)
  refine PySem.W.callWith_KW0 (h₀ := X.base) I.ok.mod.kin T.kc hall (thn (hkw.run pos pins s σ H _ I h) fun ws s2 ⟨zs, H2, I2, rz, q2⟩ => ⟨I2.kIn, ?_⟩) hpl
  rw [hks]
  unfold rMkK at q2
  exact run_mk (us := []) (vs := []) Z T F1 hr hb hx I2 .nil rz ⟨by simp, q2⟩

/-! ### asked and read -/
/-- isinstance(e, c) -/
def rAsk (K : Frag) : List V → Hp → VK → Prop := fun xs H Q => ∃ (a C : Addr) (d : Option Addr) (c : V) (cv : Value) (b : Bool), xs = [.ref a, c] ∧ ExcC K C ∧ H a = some (exo a C d) ∧ (∀ dx, d = some dx → ∃ fs, H dx = some (exd dx fs)) ∧
  (∀ u, RelV c u → u = cv) ∧ PySem.W.kitOne K (.ref C) cv = some b ∧ Q (.bl b) H
theorem kx_any {K : Frag} {a C : Addr} {ox : Obj} {od : Option Obj} (x : ExcC K C) : PySem.W.KitX K (.ref a) (.ref C) (fun h => InstAt h a ox C od) := by
  have hcl : (clsIn K C).isSome = true := by
    obtain ⟨cd, hc, _⟩ := PySem.W.any_some x.hd
    rw [hc]
    rfl
  exact PySem.W.kitx_exc hcl x.hg x.hk x.hs x.ha x.hn x.ht x.hm
theorem call_ask : CallR X (.builtin "isinstance") (rAsk X.K) := by
  intro pins s σ H xs us Q I r h
  obtain ⟨a, C, d, c, cv, b, rfl, T, e, ed, only, kit, q⟩ := h
  obtain ⟨u1, u2, rfl, r1, r2⟩ := vals2 r
  obtain rfl : u1 = Value.ref a := r1
  obtain rfl := only u2 r2
  obtain ⟨t1, ho⟩ := exo_at I.hok e
  cases d with
  | none =>
    have J : InstAt s.heap a { cls := .ref C, dict := none, data := .fields #[.ref t1, .none, .none, .none, .bool false, .none] } C none := ⟨ho, rfl, rfl, trivial⟩
    exact PySem.W.kia_one (kx_any T) I.kIn J kit (fun z => nomatch z) fun tk => ⟨.bl b, H, I.tok tk, rfl, q⟩
  | some dx =>
    obtain ⟨fs, hd⟩ := ed dx rfl
    obtain ⟨mA, ⟨od, es, ep, hod, _⟩, _⟩ := exd_at I.hok hd
    have J : InstAt s.heap a { cls := .ref C, dict := some dx, data := .fields #[.ref t1, .none, .none, .none, .bool false, .none] } C (some od) := ⟨ho, rfl, rfl, hod⟩
    exact PySem.W.kia_one (kx_any T) I.kIn J kit (fun z => nomatch z) fun tk => ⟨.bl b, H, I.tok tk, rfl, q⟩
/-- e.f, an exception's field -/
def tFel (K : Frag) (f : Str) (te : TE) : TE := fun σ H Q => te σ H fun x H1 => ∃ (a C dx : Addr) (fs : List (Str × V)) (v : V), x = .ref a ∧ ExcC K C ∧ H1 a = some (exo a C (some dx)) ∧ H1 dx = some (exd dx fs) ∧
  findIn K (.ref C) f = some none ∧ fs.lookup f = some v ∧ Q v H1
theorem pe_fel {e : Expr} {te : TE} {f : Str} {pos : Pos} (he : PE X e te) (hb : attributeBase e f X.env (eval e X.env) = eval e X.env := by rfl) : PE X (.Attribute e f pos) (tFel X.K f te) := by
  refine ⟨fun pins s σ H Q I h => ?_⟩
  refine attr_of hb (thn (he.run pins s σ H _ I h) fun u s1 hh => ?_)
  obtain ⟨x, H1, I1, rx, a, C, dx, fs, v, ex, T, ea, ed, no, hv, q⟩ := hh
  subst ex
  obtain rfl : u = Value.ref a := rx
  obtain ⟨t1, ho⟩ := exo_at I1.hok ea
  obtain ⟨mA, hns, hr⟩ := exd_at I1.hok ed
  obtain ⟨od, hod, hl⟩ := lookIn_ns hns
  obtain ⟨u, hu, ru⟩ := RelO.some_of (v := v) (o := mA f) (by rw [← hv]; exact hr f)
  have J : InstAt s1.heap a { cls := .ref C, dict := some dx, data := .fields #[.ref t1, .none, .none, .none, .bool false, .none] } C (some od) := ⟨ho, rfl, rfl, hod⟩
  exact PySem.HandSPX.exc_get I1.kIn J T.hg T.hk T.hs (PySem.W.findObj_own T.hd no rfl (by rw [hl, hu])) (handed_of ru) ⟨v, H1, I1.tok _, ru, q⟩
end
end NB
end L2

/-! k86: the draws. -/
namespace K86
open PySem PySem.Spec PyProof.Rows L2 L2.NB
section
variable {X : Cx} {a b : Expr} {ta tb : TE} {p pos : Pos}
theorem pix (ha : PE X a ta) (hb : PE X b tb) (hs : PlainIx b := by exact fun _ _ => rfl) : PE X (.Subscript a b pos) (tOp (rIxL X.K) ta tb) := pe_ix ix_list ha hb hs
end
def top (i : Nat) : Stmt := PySem.Challenge.pw_nevergoback_k86_errors_required.main.body.getD i (.Pass ⟨0, 0, 0, 0⟩)
abbrev FnP (K : PySem.W.Frag) (x : Str) (st : Stmt) (f : Addr) (fd : FuncData) : Prop := FunD K x x (defArgs st) (defBody st) (defScope st) [] [] f fd
/-- the pen: what is left of the draws -/
def Pen (H : Hp) (p : Addr) (n : Nat) : Prop := ∃ (g : Addr) (seat rest : Int) (ns : List Int), H p = some (.lst [.ref g, .int seat, .int rest]) ∧ H g = some (.lst (ns.map V.int)) ∧ ns.length ≤ 63 ∧ 0 ≤ seat ∧ seat ≤ n
theorem Pen.mono {H : Hp} {p : Addr} {n m : Nat} (h : Pen H p n) (l : n ≤ m) : Pen H p m := by
  obtain ⟨g, seat, rest, ns, h1, h2, h3, h4, h5⟩ := h
  exact ⟨g, seat, rest, ns, h1, h2, h3, h4, by omega⟩
/-- what stays of the tracked things, but the pen -/
def Beside (p : Addr) (H H' : Hp) : Prop := ∀ b o, b ≠ p → H b = some o → H' b = some o
theorem Beside.same {p : Addr} {H : Hp} : Beside p H H := fun _ _ _ e => e
theorem Beside.pen {p : Addr} {H H' : Hp} {o : HO} (h : Beside p H H') : Beside p H (upd H' p o) := fun b u n e => by rw [upd_ne n]; exact h b u n e
theorem Beside.new {p q : Addr} {H H' : Hp} {o : HO} (h : Beside p H H') (n : H' q = none) : Beside p H (upd H' q o) := fun b u nb e => by
  have z := h b u nb e
  rw [upd_ne (ne_of_none z n)]
  exact z
theorem Beside.trans {p : Addr} {H H' H'' : Hp} (h : Beside p H H') (h' : Beside p H' H'') : Beside p H H'' := fun b u nb e => h' b u nb (h b u nb e)
theorem both {c : Bool} {A B : Prop} (h1 : A) (h2 : B) : if c = true then A else B := by
  cases c
  · rw [if_neg Bool.false_ne_true]
    exact h2
  · rw [if_pos rfl]
    exact h1
theorem yes {c : Bool} {A B : Prop} (hc : c = true) (h : A) : if c = true then A else B := by
  rw [if_pos hc]
  exact h
theorem no {c : Bool} {A B : Prop} (hc : c = false) (h : B) : if c = true then A else B := by
  rw [hc, if_neg Bool.false_ne_true]
  exact h
theorem dpAll_ints {K : PySem.W.Frag} {H : Hp} : ∀ ns : List Int, DpAll K H (ns.map V.int) (ns.map PyData.int)
  | [] => .nil
  | n :: ns => .cons (.int n) (dpAll_ints ns)
theorem dp_ints {K : PySem.W.Frag} {H : Hp} {a : Addr} {ns : List Int} (h : SqL K H a (ns.map V.int)) : Dp K H (.ref a) (.list (ns.map PyData.int)) := .lst h (dpAll_ints ns)
theorem eqv_ints : ∀ a b : List Int, PyData.eqv (.list (a.map PyData.int)) (.list (b.map PyData.int)) = decide (a = b)
  | [], [] => rfl
  | [], _ :: _ => rfl
  | _ :: _, [] => rfl
  | x :: a, y :: b => by
    have ih := eqv_ints a b
    have ih' : PyData.eqvAll (a.map PyData.int) (b.map PyData.int) = decide (a = b) := by simpa only [PyData.eqv] using ih
    show PyData.eqv (.list (.int x :: a.map PyData.int)) (.list (.int y :: b.map PyData.int)) = _
    simp only [PyData.eqv, PyData.eqvAll, ih']
    by_cases h1 : x = y <;> by_cases h2 : a = b <;> simp [h1, h2]
theorem atI_some {xs : List V} {i : Int} (h0 : 0 ≤ i) (h1 : i < xs.length) : ∃ v, atI xs i = some v ∧ v ∈ xs := by
  have hn : i.toNat < xs.length := by omega
  refine ⟨xs[i.toNat], ?_, List.getElem_mem _⟩
  unfold atI ixN
  rw [if_pos h0, if_pos h1, Option.bind_some]
  simp [hn]
theorem mem_ints {ns : List Int} {v : V} (h : v ∈ ns.map V.int) : ∃ i, v = .int i := by
  obtain ⟨i, _, e⟩ := List.mem_map.mp h
  exact ⟨i, e.symm⟩
theorem cp18 : CPow 10 18 := ⟨by decide, by decide, by decide⟩
theorem pr0 : (0 : Int) < 2305843009213693951 := by decide
def spFresh : Sp := fun vs H Q _ => ∃ (p g : Addr) (seat rest : Int) (ns : List Int), vs = [.ref p] ∧ H p = some (.lst [.ref g, .int seat, .int rest]) ∧ H g = some (.lst (ns.map V.int)) ∧ ns.length ≤ 63 ∧ 0 ≤ seat ∧ seat ≤ 1000 ∧
  ∀ (x : Int) (H' : Hp), H' p = some (.lst [.ref g, .int (seat + 1), .int rest]) → Beside p H H' → Q (.int x) H'
section
variable {P : Program} {w : World} {K : PySem.W.Frag} {mg : Str → Option Value} {base : Heap} {f : Addr} {fd : FuncData}
theorem scF : FnScope ["pen", "seat", "given", "cell", "prime", "state", "found", "lap"] ["pen"] (defScope (top 17)) := ⟨rfl, rfl, rfl, by decide +kernel, rfl, by decide +kernel, by decide +kernel⟩
theorem ok_fresh (F : FnP K "_law_fresh" (top 17) f fd) (gI : mg "int" = none) (gL : mg "len" = none) (gR : mg "range" = none) : FnOk P w K mg base CX0 1 f fd ["pen"] spFresh := by
  refine F.ok scF (fun vs H Q E h => ?_) (fun cdv A outer s H vs Q E hr h => ⟨_, PSs.nox (
    pss_cons (ps_par (i := 1) (j := 2) rfl scF.nd rfl rfl (by decide) rfl rfl (pa_cons (pix (pv 0) pe_int) (pa_cons (pix (pv 0) pe_int) pa_nil)) rfl)
    (pss_cons (ps_asg (pe_op op_add (pv 1) pe_int) (pg_sub (pv 0) pe_int set_list))
    (pss_cons (ps_set (i := 3) scF.nd rfl (Or.inl rfl) (pe_ifExp (pt_cmpR (op_neD hr.units) (pv 2) (pe_lst pa_nil) (nomark _))
      (pix (pv 2) (pe_op op_mod (pe_callTy call_int1 rfl gI (by decide +kernel) (pa_cons (pv 1) pa_nil)) (pe_callB call_len_seq rfl gL boot_len (pa_cons (pv 2) pa_nil)))) pe_int))
    (pss_cons (ps_if (PW.pt (pw_and (pt_cmpR op_lt (pv 1) (pe_callB call_len_seq rfl gL boot_len (pa_cons (pv 2) pa_nil)) (nomark _)) (pw_and1 (pt_cmpR op_ge (pv 3) (pe_op op_pow pe_int pe_int) (nomark _)))))
      (pss_one (ps_ret (pe_op op_sub (pv 3) (pe_op op_pow pe_int pe_int)))) pss_nil)
    (pss_cons (ps_set (i := 4) scF.nd rfl (Or.inl rfl) pe_int)
    (pss_cons (ps_set (i := 5) scF.nd rfl (Or.inl rfl) (pe_op op_mod (pe_callTy call_int1 rfl gI (by decide +kernel) (pa_cons (pe_op op_add (pe_op op_add (pe_op op_mul (pv 3) pe_int) (pe_op op_mul pe_int (pv 1))) pe_int) pa_nil)) (pv 4)))
    (pss_cons (ps_set (i := 6) scF.nd rfl (Or.inl rfl) (pv 5))
    (pss_cons (ps_for PassesOwn.never rfl (pi_range1 rfl gR (pa_cons pe_int pa_nil)) (pg_name (i := 7) scF.nd rfl (Or.inl rfl))
      (pss_cons (ps_set (i := 5) scF.nd rfl (Or.inl rfl) (pe_op op_mod (pe_callTy call_int1 rfl gI (by decide +kernel) (pa_cons (pe_op op_add (pe_op op_add (pe_op op_mul (pv 5) (pv 5)) (pe_op op_mul (pe_op op_mul pe_int (pe_op op_add (pv 7) pe_int)) (pe_op op_add (pv 1) pe_int))) (pv 3)) pa_nil)) (pv 4)))
      (pss_one (ps_set (i := 6) scF.nd rfl (Or.inl rfl) (pe_op op_add (pe_op op_mul (pv 6) (pv 4)) (pv 5))))))
    (pss_one (ps_ret (pv 6)))))))))))
    , ?_⟩)
  · obtain ⟨p, g, seat, rest, ns, rfl, _⟩ := h
    rfl
  · obtain ⟨p, g, seat, rest, ns, rfl, h1, h2, h3, h4, h5, q⟩ := h
    have hgp : g ≠ p := fun e => by
      rw [e, h1] at h2
      have z := congrArg (fun o : Option HO => match o with | some (.lst (.ref _ :: _)) => true | _ => false) h2
      cases ns <;> simp at z
    have b1 : Beside p H (upd H p (.lst [.ref g, .int (seat + 1), .int rest])) := Beside.same.pen
    have g1 := b1 g _ hgp h2
    have p1 : (upd H p (.lst [.ref g, .int (seat + 1), .int rest])) p = some (.lst [.ref g, .int (seat + 1), .int rest]) := upd_same
    refine ⟨_, rfl, p, _, 1, _, rfl, rfl, SqL.of h1, rfl, _, rfl, p, _, 0, _, rfl, rfl, SqL.of h1, rfl, _, _, rfl, ?_⟩
    refine ⟨_, rfl, _, _, rfl, rfl, _, rfl, p, _, 1, 1, rfl, rfl, h1, rfl, ?_⟩
    refine ⟨_, rfl, by decide, fun q0 hq0 => ⟨.list (ns.map PyData.int), .list (([] : List Int).map PyData.int), dp_ints (SqL.of ((upd_ne (ne_of_none g1 hq0)).trans g1)), dp_ints (SqL.of upd_same), PySem.W.ke_shaped_ints ns, PySem.W.ke_shaped_ints [], _, rfl, ?_⟩⟩
    have b2 : Beside p H (upd (upd H p (.lst [.ref g, .int (seat + 1), .int rest])) q0 (.lst [])) := b1.new hq0
    have g2 : upd (upd H p (.lst [.ref g, .int (seat + 1), .int rest])) q0 (.lst []) g = some (.lst (ns.map V.int)) := b2 g _ hgp h2
    have p2 : upd (upd H p (.lst [.ref g, .int (seat + 1), .int rest])) q0 (.lst []) p = some (.lst [.ref g, .int (seat + 1), .int rest]) := (upd_ne (ne_of_none p1 hq0)).trans p1
    have lg : (ns.map V.int).length = ns.length := List.length_map ..
    rcases Decidable.em (ns = []) with e | e
    have k : (!PyData.eqv (.list (ns.map PyData.int)) (.list (([] : List Int).map PyData.int))) = false := by rw [eqv_ints, e]; rfl
    refine no k ?_
    rotate_left
    have k : (!PyData.eqv (.list (ns.map PyData.int)) (.list (([] : List Int).map PyData.int))) = true := by rw [eqv_ints]; simp [e]
    refine yes k ?_
    have l0 : 0 < ns.length := List.length_pos_iff.mpr e
    obtain ⟨v, hv, hm⟩ := atI_some (xs := ns.map V.int) (i := seat % ((ns.map V.int).length : Int)) (Int.emod_nonneg _ (by rw [lg]; omega)) (Int.emod_lt_of_pos _ (by rw [lg]; omega))
    obtain ⟨cell, rfl⟩ := mem_ints hm
    refine ⟨_, rfl, _, rfl, .inl ⟨seat, rfl, _, rfl, g, _, rfl, .inl (SqL.of g2), seat, _, rfl, rfl, by rw [lg]; omega, g, _, _, _, rfl, rfl, SqL.of g2, hv, ?_⟩⟩
    all_goals
      refine ⟨_, rfl, _, rfl, g, _, rfl, .inl (SqL.of g2), _, _, rfl, rfl, _, rfl, ?_⟩
      refine both ⟨_, rfl, _, _, rfl, rfl, cp18, _, _, rfl, rfl, _, rfl, both ⟨_, rfl, _, _, rfl, rfl, cp18, _, _, rfl, rfl, q _ _ p2 b2⟩ ?_⟩ (no rfl ?_)
    all_goals
      refine ⟨_, rfl, _, _, rfl, rfl, .inr (by decide), _, rfl, _, _, rfl, rfl, .inl (by decide), _, _, rfl, rfl, _, _, rfl, rfl, .inl ⟨_, rfl, _, rfl, _, _, rfl, rfl, pr0, ?_⟩⟩
      refine ⟨_, rfl, 6, rfl, by decide, by decide, for_range (n := 6) (fun i σ H' => ∃ (cell st fd : Int) (lap : Option V), σ = [some (.ref p), some (.int seat), some (.ref g), some (.int cell), some (.int 2305843009213693951), some (.int st), some (.int fd), lap] ∧ 0 ≤ st ∧ st < 2305843009213693951 ∧
        H' p = some (.lst [.ref g, .int (seat + 1), .int rest]) ∧ Beside p H H') ⟨_, _, _, _, rfl, Int.emod_nonneg _ (by decide), Int.emod_lt_of_pos _ (by decide), p2, b2⟩ ?_ ?_⟩
    all_goals first
      | (rintro i σ H' hi ⟨cell, st, fd, lap, rfl, l0, l1, p3, b3⟩
         refine ⟨_, rfl, _, rfl, _, _, rfl, rfl, .inl ⟨by omega, by omega⟩, _, rfl, _, _, rfl, rfl, _, _, rfl, rfl, .inl (by decide), _, rfl, _, _, rfl, rfl, _, _, rfl, rfl, .inr ⟨by omega, by omega⟩, _, _, rfl, rfl, _, rfl, _, _, rfl, rfl, .inl ⟨_, rfl, _, rfl, _, _, rfl, rfl, pr0, ?_⟩⟩
         exact ⟨_, rfl, _, rfl, _, _, rfl, rfl, .inr (by decide), _, rfl, _, _, rfl, rfl, _, _, _, _, rfl, Int.emod_nonneg _ (by decide), Int.emod_lt_of_pos _ (by decide), p3, b3⟩)
      | (rintro σ H' ⟨cell, st, fd, lap, rfl, l0, l1, p3, b3⟩
         exact ⟨_, rfl, q _ _ p3 b3⟩)

/-- tracked things stay -/
def Kept (H H' : Hp) : Prop := ∀ b o, H b = some o → H' b = some o
theorem Kept.same {H : Hp} : Kept H H := fun _ _ e => e
theorem Kept.new {q : Addr} {H H' : Hp} {o : HO} (h : Kept H H') (n : H' q = none) : Kept H (upd H' q o) := fun b u e => (upd_ne (ne_of_none (h b u e) n)).trans (h b u e)
theorem Kept.trans {H H' H'' : Hp} (h : Kept H H') (h' : Kept H' H'') : Kept H H'' := fun b u e => h' b u (h b u e)
theorem Kept.beside {p : Addr} {H H' : Hp} (h : Kept H H') : Beside p H H' := fun b u _ e => h b u e
theorem Pen.kept {H H' : Hp} {p : Addr} {n : Nat} (h : Pen H p n) (k : Kept H H') : Pen H' p n := by
  obtain ⟨g, seat, rest, ns, h1, h2, r⟩ := h
  exact ⟨g, seat, rest, ns, k _ _ h1, k _ _ h2, r⟩
def spPen (K : PySem.W.Frag) : Sp := fun vs H Q _ => ∃ (a : Addr) (ns : List Int), vs = [.ref a] ∧ SqL K H a (ns.map V.int) ∧ ns.length ≤ 63 ∧ ∀ (p : Addr) (H' : Hp), Pen H' p 0 → Kept H H' → Q (.ref p) H'
theorem cut_ints (ns : List Int) (lo hi : Option Int) (h : ns.length ≤ 63) : ∃ ms : List Int, cutV (ns.map V.int) lo hi = ms.map V.int ∧ ms.length ≤ 63 := by
  unfold cutV
  refine ⟨(ns.drop (HT.sIx (ns.map V.int).length 0 lo)).take (HT.sIx (ns.map V.int).length (ns.map V.int).length hi - HT.sIx (ns.map V.int).length 0 lo), by rw [List.map_take, List.map_drop], ?_⟩
  rw [List.length_take, List.length_drop]
  omega
theorem scP : FnScope ["script"] ["script"] (defScope (top 16)) := ⟨rfl, rfl, rfl, by decide +kernel, rfl, by decide +kernel, by decide +kernel⟩
theorem ok_pen (F : FnP K "_law_pen" (top 16) f fd) (gL : mg "list" = none) : FnOk P w K mg base CX0 1 f fd ["script"] (spPen K) := by
  refine F.ok scP (fun vs H Q E h => ?_) (fun cdv A outer s H vs Q E hr h => ⟨_, PSs.nox (
    pss_one (ps_ret (pe_lst (pa_cons (pe_callTy call_list_of rfl gL (by decide +kernel) (pa_cons (pe_slice sl_list (pv 0) po_none (po_some pe_int)) pa_nil)) (pa_cons pe_int (pa_cons pe_int pa_nil)))))), ?_⟩)
  · obtain ⟨a, ns, rfl, _⟩ := h
    rfl
  · obtain ⟨a, ns, rfl, h1, h2, q⟩ := h
    obtain ⟨ms, e1, e2⟩ := cut_ints ns none (some 63) h2
    refine ⟨_, rfl, 63, rfl, a, _, rfl, h1, fun c hc => ⟨c, _, rfl, .inl (SqL.of upd_same), fun l hl => ⟨(by decide : 3 ≤ sizeLine), fun p hp => q p _ ⟨l, 0, 0, ms, upd_same, ?_, e2, by decide, by decide⟩ ?_⟩⟩⟩
    · refine (upd_ne (ne_of_none upd_same hp)).trans ?_
      rw [← e1]
      exact upd_same
    · exact ((Kept.same.new hc).new hl).new hp
def spDraw : Sp := fun vs H Q _ => ∃ (p : Addr) (b : Int) (n : Nat), vs = [.ref p, .int b] ∧ Pen H p n ∧ n ≤ 999 ∧ 0 < b ∧ b.natAbs.log2 < 9000 ∧ ∀ (x : Int) (H' : Hp), 0 ≤ x → x < b → Pen H' p (n + 1) → Beside p H H' → Q (.int x) H'
theorem scD : FnScope ["pen", "bound", "digit"] ["pen", "bound"] (defScope (top 18)) := ⟨rfl, rfl, rfl, by decide +kernel, rfl, by decide +kernel, by decide +kernel⟩
theorem ok_draw {fF : Addr} {fdF : FuncData} (F : FnP K "_law_draw" (top 18) f fd) (FF : FnP K "_law_fresh" (top 17) fF fdF) (gF : mg "_law_fresh" = some (.ref fF)) (gI : mg "int" = none) (gL : mg "len" = none) (gR : mg "range" = none) :
    FnOk P w K mg base CX0 2 f fd ["pen", "bound"] spDraw := by
  have GF : FnOk P w K mg base CX0 1 fF fdF ["pen"] spFresh := ok_fresh FF gI gL gR
  have bF : Binds K fdF ["pen"] [] := FF.bindsN fun _ _ _ _ _ _ us hl => match us, hl with | [_], _ => rfl
  refine F.ok scD (fun vs H Q E h => ?_) (fun cdv A outer s H vs Q E hr h => ⟨_, PSs.nox (
    pss_cons (ps_if (pt_cmpR op_lt (pix (pv 0) pe_int) (pv 1) (nomark _)) (pss_one (ps_asg (pe_call GF hr rfl gF FF.kp bF .nil pass0 (pa_cons (pv 0) pa_nil)) (pg_sub (pv 0) pe_int set_list))) pss_nil)
    (pss_cons (ps_set (i := 2) scD.nd rfl (Or.inl rfl) (pe_op op_mod (pe_callTy call_int1 rfl gI (by decide +kernel) (pa_cons (pix (pv 0) pe_int) pa_nil)) (pv 1)))
    (pss_cons (ps_asg (pe_op op_fdivW (pe_callTy call_int1 rfl gI (by decide +kernel) (pa_cons (pix (pv 0) pe_int) pa_nil)) (pv 1)) (pg_sub (pv 0) pe_int set_list))
    (pss_one (ps_ret (pv 2)))))), ?_⟩)
  · obtain ⟨p, b, n, rfl, _⟩ := h
    rfl
  · obtain ⟨p, b, n, rfl, ⟨g, seat, rest, ns, h1, h2, h3, h4, h5⟩, hn, b0, b9, q⟩ := h
    have hgp : g ≠ p := fun e => by
      rw [e, h1] at h2
      have z := congrArg (fun o : Option HO => match o with | some (.lst (.ref _ :: _)) => true | _ => false) h2
      cases ns <;> simp at z
    refine ⟨_, rfl, p, _, 2, _, rfl, rfl, SqL.of h1, rfl, _, rfl, _, _, rfl, rfl, _, rfl, both ?_ ?_⟩
    · refine ⟨_, rfl, p, g, seat, rest, ns, rfl, h1, h2, h3, h4, by omega, fun x H1 p1 b1 => ⟨_, rfl, p, _, 2, 2, rfl, rfl, p1, rfl, ?_⟩⟩
      have p2 : upd H1 p (.lst [.ref g, .int (seat + 1), .int x]) p = some (.lst [.ref g, .int (seat + 1), .int x]) := upd_same
      refine ⟨_, rfl, p, _, 2, _, rfl, rfl, SqL.of p2, rfl, .inl ⟨_, rfl, _, rfl, _, _, rfl, rfl, b0, ?_⟩⟩
      refine ⟨_, rfl, p, _, 2, _, rfl, rfl, SqL.of p2, rfl, .inl ⟨_, rfl, _, rfl, _, _, rfl, rfl, ⟨b0, b9⟩, _, rfl, p, _, 2, 2, rfl, rfl, p2, rfl, _, rfl, ?_⟩⟩
      refine q _ _ (Int.emod_nonneg _ (by omega)) (Int.emod_lt_of_pos _ b0) ⟨g, seat + 1, x / b, ns, upd_same, (upd_ne hgp).trans ((upd_ne hgp).trans (b1 g _ hgp h2)), h3, by omega, by omega⟩ b1.pen.pen
    · refine ⟨_, rfl, p, _, 2, _, rfl, rfl, SqL.of h1, rfl, .inl ⟨_, rfl, _, rfl, _, _, rfl, rfl, b0, ?_⟩⟩
      refine ⟨_, rfl, p, _, 2, _, rfl, rfl, SqL.of h1, rfl, .inl ⟨_, rfl, _, rfl, _, _, rfl, rfl, ⟨b0, b9⟩, _, rfl, p, _, 2, 2, rfl, rfl, h1, rfl, _, rfl, ?_⟩⟩
      exact q _ _ (Int.emod_nonneg _ (by omega)) (Int.emod_lt_of_pos _ b0) ⟨g, seat, rest / b, ns, upd_same, (upd_ne hgp).trans h2, h3, h4, by omega⟩ Beside.same.pen
def spOne : Sp := fun vs H Q _ => ∃ (p l : Addr) (xs : List V) (n : Nat), vs = [.ref p, .ref l] ∧ Pen H p n ∧ n ≤ 999 ∧ H l = some (.lst xs) ∧ l ≠ p ∧ 0 < xs.length ∧ xs.length ≤ 1000 ∧ ∀ (v : V) (H' : Hp), v ∈ xs → Pen H' p (n + 1) → Beside p H H' → Q v H'
theorem scO : FnScope ["pen", "some"] ["pen", "some"] (defScope (top 19)) := ⟨rfl, rfl, rfl, by decide +kernel, rfl, by decide +kernel, by decide +kernel⟩
theorem ok_one {fD fF : Addr} {fdD fdF : FuncData} (F : FnP K "_law_one_of" (top 19) f fd) (FD : FnP K "_law_draw" (top 18) fD fdD) (FF : FnP K "_law_fresh" (top 17) fF fdF) (gD : mg "_law_draw" = some (.ref fD)) (gF : mg "_law_fresh" = some (.ref fF)) (gI : mg "int" = none)
    (gL : mg "len" = none) (gR : mg "range" = none) : FnOk P w K mg base CX0 3 f fd ["pen", "some"] spOne := by
  have GD : FnOk P w K mg base CX0 2 fD fdD ["pen", "bound"] spDraw := ok_draw FD FF gF gI gL gR
  have bD : Binds K fdD ["pen", "bound"] [] := FD.bindsN fun _ _ _ _ _ _ us hl => match us, hl with | [_, _], _ => rfl
  refine F.ok scO (fun vs H Q E h => ?_) (fun cdv A outer s H vs Q E hr h => ⟨_, PSs.nox (
    pss_one (ps_ret (pix (pv 1) (pe_call GD hr rfl gD FD.kp bD .nil pass0 (pa_cons (pv 0) (pa_cons (pe_callB call_len_seq rfl gL boot_len (pa_cons (pv 1) pa_nil)) pa_nil)))))), ?_⟩)
  · obtain ⟨p, l, xs, n, rfl, _⟩ := h
    rfl
  · obtain ⟨p, l, xs, n, rfl, hp, hn, hl, ne, l0, l1, q⟩ := h
    refine ⟨_, rfl, _, rfl, _, rfl, l, _, rfl, .inl (SqL.of hl), p, _, n, rfl, hp, hn, by omega, ?_, fun x H1 x0 x1 p1 b1 => ?_⟩
    · exact Nat.lt_of_le_of_lt (Nat.log2_le_self _) (by omega)
    · obtain ⟨v, hv, hm⟩ := atI_some (xs := xs) x0 x1
      exact ⟨l, xs, x, v, rfl, rfl, SqL.of (b1 l _ ne hl), hv, q v H1 hm p1 b1⟩
end
end K86

/-! k86: each exception's own maker. Printed by gen86e.py. -/
namespace K86
open PySem PySem.Spec PyProof.Rows L2 L2.NB PySem.NB NwS
def mth (i : Nat) : Stmt := match top i with
  | .ClassDef _ _ _ (m :: _) _ _ _ _ _ _ _ => m
  | _ => .Pass ⟨0, 0, 0, 0⟩
abbrev valL : List Value := [.type "ValueError", .type "Exception", .type "BaseException", .type "object"]
abbrev lookL : List Value := [.type "LookupError", .type "Exception", .type "BaseException", .type "object"]
abbrev runL : List Value := [.type "RuntimeError", .type "Exception", .type "BaseException", .type "object"]
abbrev overL : List Value := [.type "OverflowError", .type "ArithmeticError", .type "Exception", .type "BaseException", .type "object"]
theorem call_inival {X : Cx} : CallR X (.builtin "ValueError.__init__") (rIni X.K valL "ValueError.__new__") := call_ini bas_val
theorem call_inilook {X : Cx} : CallR X (.builtin "LookupError.__init__") (rIni X.K lookL "LookupError.__new__") := call_ini bas_look
theorem call_inirun {X : Cx} : CallR X (.builtin "RuntimeError.__init__") (rIni X.K runL "RuntimeError.__new__") := call_ini bas_run
theorem call_iniover {X : Cx} : CallR X (.builtin "OverflowError.__init__") (rIni X.K overL "OverflowError.__new__") := call_ini bas_over
/-- the fields fs hold ys, in the dict at d -/
def HasD (fs : List Str) (ys : List V) (d : Option Addr) (H : Hp) : Prop := (fs = [] ∧ d = none) ∨ ∃ dx, d = some dx ∧ H dx = some (exd dx (fs.zip ys).reverse)
def spI (K : PySem.W.Frag) (bm : List Value) (nid : String) (fs : List Str) : Sp := fun vs H Q _ => ∃ (a C fI : Addr) (ys : List V), vs = .ref a :: ys ∧ ys.length = fs.length ∧ Oe K bm nid C fI ∧ H a = some (exo a C none) ∧ (∀ f ∈ fs, PySem.W.findIn K (.ref C) f = some none) ∧
  ∀ (H' : Hp) (d : Option Addr), H' a = some (exo a C d) → HasD fs ys d H' → (∀ b o, b ≠ a → H b = some o → H' b = some o) → Q .non H'
theorem len1 {α : Type} {l : List α} (h : l.length = 1) : ∃ x, l = [x] := List.length_eq_one_iff.mp h
theorem len2 {α : Type} {l : List α} (h : l.length = 2) : ∃ x y, l = [x, y] := match l, h with
  | [x, y], _ => ⟨x, y, rfl⟩
def kg1 {α : Type} : List α → List α → List α
  | [x], [y] => [x, y]
  | _, _ => []
def kg2 {α : Type} : List α → List α → List α
  | [x], [z, y] => [x, y, z]
  | _, _ => []
section
variable {P : Program} {w : World} {K : PySem.W.Frag} {mg : Str → Option Value} {base : Heap} {f : Addr} {fd : FuncData}
theorem mk_by {bm : List Value} {nid : String} {C fI : Addr} {fs : List Str} {ys : List V} {H : Hp} {Q : VK} (T : Oe K bm nid C fI) (no : ∀ f ∈ fs, PySem.W.findIn K (.ref C) f = some none) (hl : ys.length = fs.length) (few : fs.length ≤ 5)
    (q : ∀ a H' d, H' a = some (exo a C d) → HasD fs ys d H' → Kept H H' → Q (.ref a) H') : rMk C (spI K bm nid fs) ys H Q := by
  unfold rMk
  exact ⟨by omega, fun a ha => ⟨a, C, fI, ys, rfl, hl, T, upd_same, no, fun H' d h1 h2 h3 => ⟨rfl, q a H' d h1 h2 fun b o e => h3 b o (ne_of_none e ha) ((upd_ne (ne_of_none e ha)).trans e)⟩⟩⟩
theorem kb_one {n qn x : Str} {ar : Arguments} {bd : List Stmt} {sc : Scope} (F : FunD K n qn ar bd sc [] [] f fd)
    (h : ∀ (kV doc pm : Value) (an : Option Addr) (cdv ct : Value) (u v : Value), bindArgs (PySem.W.fnOf n qn ar bd sc .none kV doc pm an cdv ct) ⟨[u], [(x, v)]⟩ = pure ((["self", x] : List Str).zip [u, v])) : KBinds K fd ["self", x] [x] kg1 kg1 := by
  obtain ⟨oc, od, dV, kV, doc, pm, an, cdv, ct, osl, rfl, lk, hcd, hD, hK⟩ := F.ex
  rcases hD with ⟨_, rfl⟩ | ⟨e, _⟩
  · refine ⟨fun s us ws X hl => ?_, fun r rz => ?_⟩
    · match us, ws, hl with
      | [u], [v], _ => exact .of_eq (h kV doc pm an cdv ct u v)
    · cases r with
      | nil => exact .nil
      | cons a r => cases r with
        | cons b r => exact .nil
        | nil => cases rz with
          | nil => exact .nil
          | cons c rz => cases rz with
            | cons d rz => exact .nil
            | nil => exact .cons a (.cons c .nil)
  · exact absurd rfl e
theorem kb_two {n qn x y : Str} {ar : Arguments} {bd : List Stmt} {sc : Scope} (F : FunD K n qn ar bd sc [] [] f fd)
    (h : ∀ (kV doc pm : Value) (an : Option Addr) (cdv ct : Value) (u v z : Value), bindArgs (PySem.W.fnOf n qn ar bd sc .none kV doc pm an cdv ct) ⟨[u], [(y, z), (x, v)]⟩ = pure ((["self", x, y] : List Str).zip [u, v, z])) : KBinds K fd ["self", x, y] [y, x] kg2 kg2 := by
  obtain ⟨oc, od, dV, kV, doc, pm, an, cdv, ct, osl, rfl, lk, hcd, hD, hK⟩ := F.ex
  rcases hD with ⟨_, rfl⟩ | ⟨e, _⟩
  · refine ⟨fun s us ws X hl => ?_, fun r rz => ?_⟩
    · match us, ws, hl with
      | [u], [z, v], _ => exact .of_eq (h kV doc pm an cdv ct u v z)
    · cases r with
      | nil => exact .nil
      | cons a r => cases r with
        | cons b r => exact .nil
        | nil => cases rz with
          | nil => exact .nil
          | cons c rz => cases rz with
            | nil => exact .nil
            | cons d rz => cases rz with
              | cons e rz => exact .nil
              | nil => exact .cons a (.cons d (.cons c .nil))
  · exact absurd rfl e
theorem sc1 : FnScope ["self", "index"] ["self", "index"] (defScope (mth 1)) := ⟨rfl, rfl, rfl, by decide +kernel, rfl, by decide +kernel, by decide +kernel⟩
theorem ini1 (F : FunD K "__init__" "InvalidTable.__init__" (defArgs (mth 1)) (defBody (mth 1)) (defScope (mth 1)) [] [] f fd) (gB : mg "ValueError" = none) : FnOk P w K mg base CX0 1 f fd ["self", "index"] (spI K valL "ValueError.__new__" ["index"]) := by
  refine F.ok sc1 (fun vs H Q E h => ?_) (fun cdv A outer s H vs Q E hr h => ⟨_, PSs.nox (pss_cons (ps_expr (pe_tyat call_inival ta_val rfl gB (by decide +kernel) (pa_cons (pv 0) (pa_cons pe_str pa_nil)))) (pss_one (ps_sto bas_val (pv 0) (pv 1)))), ?_⟩)
  · obtain ⟨a, C, fI, ys, rfl, hl, _⟩ := h
    rw [List.length_cons, hl] <;> rfl
  · obtain ⟨a, C, fI, ys, rfl, hl, T, ha, no, go⟩ := h
    obtain ⟨y0, rfl⟩ := len1 hl
    exact ⟨_, rfl, a, C, fI, [.str _], rfl, by decide, T, ha, _, rfl, _, rfl, a, C, fI, rfl, T, no _ (by simp), .inl ⟨ha, fun dx n ne => go _ (some dx) upd_same (.inr ⟨dx, rfl, (upd_ne ne).trans upd_same⟩) fun b o nb e => (upd_ne nb).trans ((upd_ne (ne_of_none e n)).trans e)⟩⟩
theorem bi1 (F : FunD K "__init__" "InvalidTable.__init__" (defArgs (mth 1)) (defBody (mth 1)) (defScope (mth 1)) [] [] f fd) : Binds K fd ["self", "index"] [] := F.bindsN fun _ _ _ _ _ _ us hl => match us, hl with | [_, _], _ => rfl
theorem kb1 (F : FunD K "__init__" "InvalidTable.__init__" (defArgs (mth 1)) (defBody (mth 1)) (defScope (mth 1)) [] [] f fd) : KBinds K fd ["self", "index"] ["index"] kg1 kg1 := kb_one F fun _ _ _ _ _ _ _ _ => rfl
theorem sc2 : FnScope ["self", "index"] ["self", "index"] (defScope (mth 2)) := ⟨rfl, rfl, rfl, by decide +kernel, rfl, by decide +kernel, by decide +kernel⟩
theorem ini2 (F : FunD K "__init__" "InvalidWaits.__init__" (defArgs (mth 2)) (defBody (mth 2)) (defScope (mth 2)) [] [] f fd) (gB : mg "ValueError" = none) : FnOk P w K mg base CX0 1 f fd ["self", "index"] (spI K valL "ValueError.__new__" ["index"]) := by
  refine F.ok sc2 (fun vs H Q E h => ?_) (fun cdv A outer s H vs Q E hr h => ⟨_, PSs.nox (pss_cons (ps_expr (pe_tyat call_inival ta_val rfl gB (by decide +kernel) (pa_cons (pv 0) (pa_cons pe_str pa_nil)))) (pss_one (ps_sto bas_val (pv 0) (pv 1)))), ?_⟩)
  · obtain ⟨a, C, fI, ys, rfl, hl, _⟩ := h
    rw [List.length_cons, hl] <;> rfl
  · obtain ⟨a, C, fI, ys, rfl, hl, T, ha, no, go⟩ := h
    obtain ⟨y0, rfl⟩ := len1 hl
    exact ⟨_, rfl, a, C, fI, [.str _], rfl, by decide, T, ha, _, rfl, _, rfl, a, C, fI, rfl, T, no _ (by simp), .inl ⟨ha, fun dx n ne => go _ (some dx) upd_same (.inr ⟨dx, rfl, (upd_ne ne).trans upd_same⟩) fun b o nb e => (upd_ne nb).trans ((upd_ne (ne_of_none e n)).trans e)⟩⟩
theorem bi2 (F : FunD K "__init__" "InvalidWaits.__init__" (defArgs (mth 2)) (defBody (mth 2)) (defScope (mth 2)) [] [] f fd) : Binds K fd ["self", "index"] [] := F.bindsN fun _ _ _ _ _ _ us hl => match us, hl with | [_, _], _ => rfl
theorem kb2 (F : FunD K "__init__" "InvalidWaits.__init__" (defArgs (mth 2)) (defBody (mth 2)) (defScope (mth 2)) [] [] f fd) : KBinds K fd ["self", "index"] ["index"] kg1 kg1 := kb_one F fun _ _ _ _ _ _ _ _ => rfl
theorem sc3 : FnScope ["self", "index"] ["self", "index"] (defScope (mth 3)) := ⟨rfl, rfl, rfl, by decide +kernel, rfl, by decide +kernel, by decide +kernel⟩
theorem ini3 (F : FunD K "__init__" "InvalidOptions.__init__" (defArgs (mth 3)) (defBody (mth 3)) (defScope (mth 3)) [] [] f fd) (gB : mg "ValueError" = none) : FnOk P w K mg base CX0 1 f fd ["self", "index"] (spI K valL "ValueError.__new__" ["index"]) := by
  refine F.ok sc3 (fun vs H Q E h => ?_) (fun cdv A outer s H vs Q E hr h => ⟨_, PSs.nox (pss_cons (ps_expr (pe_tyat call_inival ta_val rfl gB (by decide +kernel) (pa_cons (pv 0) (pa_cons pe_str pa_nil)))) (pss_one (ps_sto bas_val (pv 0) (pv 1)))), ?_⟩)
  · obtain ⟨a, C, fI, ys, rfl, hl, _⟩ := h
    rw [List.length_cons, hl] <;> rfl
  · obtain ⟨a, C, fI, ys, rfl, hl, T, ha, no, go⟩ := h
    obtain ⟨y0, rfl⟩ := len1 hl
    exact ⟨_, rfl, a, C, fI, [.str _], rfl, by decide, T, ha, _, rfl, _, rfl, a, C, fI, rfl, T, no _ (by simp), .inl ⟨ha, fun dx n ne => go _ (some dx) upd_same (.inr ⟨dx, rfl, (upd_ne ne).trans upd_same⟩) fun b o nb e => (upd_ne nb).trans ((upd_ne (ne_of_none e n)).trans e)⟩⟩
theorem bi3 (F : FunD K "__init__" "InvalidOptions.__init__" (defArgs (mth 3)) (defBody (mth 3)) (defScope (mth 3)) [] [] f fd) : Binds K fd ["self", "index"] [] := F.bindsN fun _ _ _ _ _ _ us hl => match us, hl with | [_, _], _ => rfl
theorem kb3 (F : FunD K "__init__" "InvalidOptions.__init__" (defArgs (mth 3)) (defBody (mth 3)) (defScope (mth 3)) [] [] f fd) : KBinds K fd ["self", "index"] ["index"] kg1 kg1 := kb_one F fun _ _ _ _ _ _ _ _ => rfl
theorem sc4 : FnScope ["self", "index"] ["self", "index"] (defScope (mth 4)) := ⟨rfl, rfl, rfl, by decide +kernel, rfl, by decide +kernel, by decide +kernel⟩
theorem ini4 (F : FunD K "__init__" "InvalidLinks.__init__" (defArgs (mth 4)) (defBody (mth 4)) (defScope (mth 4)) [] [] f fd) (gB : mg "ValueError" = none) : FnOk P w K mg base CX0 1 f fd ["self", "index"] (spI K valL "ValueError.__new__" ["index"]) := by
  refine F.ok sc4 (fun vs H Q E h => ?_) (fun cdv A outer s H vs Q E hr h => ⟨_, PSs.nox (pss_cons (ps_expr (pe_tyat call_inival ta_val rfl gB (by decide +kernel) (pa_cons (pv 0) (pa_cons pe_str pa_nil)))) (pss_one (ps_sto bas_val (pv 0) (pv 1)))), ?_⟩)
  · obtain ⟨a, C, fI, ys, rfl, hl, _⟩ := h
    rw [List.length_cons, hl] <;> rfl
  · obtain ⟨a, C, fI, ys, rfl, hl, T, ha, no, go⟩ := h
    obtain ⟨y0, rfl⟩ := len1 hl
    exact ⟨_, rfl, a, C, fI, [.str _], rfl, by decide, T, ha, _, rfl, _, rfl, a, C, fI, rfl, T, no _ (by simp), .inl ⟨ha, fun dx n ne => go _ (some dx) upd_same (.inr ⟨dx, rfl, (upd_ne ne).trans upd_same⟩) fun b o nb e => (upd_ne nb).trans ((upd_ne (ne_of_none e n)).trans e)⟩⟩
theorem bi4 (F : FunD K "__init__" "InvalidLinks.__init__" (defArgs (mth 4)) (defBody (mth 4)) (defScope (mth 4)) [] [] f fd) : Binds K fd ["self", "index"] [] := F.bindsN fun _ _ _ _ _ _ us hl => match us, hl with | [_, _], _ => rfl
theorem kb4 (F : FunD K "__init__" "InvalidLinks.__init__" (defArgs (mth 4)) (defBody (mth 4)) (defScope (mth 4)) [] [] f fd) : KBinds K fd ["self", "index"] ["index"] kg1 kg1 := kb_one F fun _ _ _ _ _ _ _ _ => rfl
theorem sc5 : FnScope ["self"] ["self"] (defScope (mth 5)) := ⟨rfl, rfl, rfl, by decide +kernel, rfl, by decide +kernel, by decide +kernel⟩
theorem ini5 (F : FunD K "__init__" "InvalidClaim.__init__" (defArgs (mth 5)) (defBody (mth 5)) (defScope (mth 5)) [] [] f fd) (gB : mg "ValueError" = none) : FnOk P w K mg base CX0 1 f fd ["self"] (spI K valL "ValueError.__new__" []) := by
  refine F.ok sc5 (fun vs H Q E h => ?_) (fun cdv A outer s H vs Q E hr h => ⟨_, PSs.nox (pss_one (ps_expr (pe_tyat call_inival ta_val rfl gB (by decide +kernel) (pa_cons (pv 0) (pa_cons pe_str pa_nil))))), ?_⟩)
  · obtain ⟨a, C, fI, ys, rfl, hl, _⟩ := h
    rw [List.length_cons, hl] <;> rfl
  · obtain ⟨a, C, fI, ys, rfl, hl, T, ha, no, go⟩ := h
    obtain rfl : ys = [] := List.length_eq_zero_iff.mp hl
    exact ⟨_, rfl, a, C, fI, [.str _], rfl, by decide, T, ha, go _ none ha (.inl ⟨rfl, rfl⟩) fun b o nb e => e⟩
theorem bi5 (F : FunD K "__init__" "InvalidClaim.__init__" (defArgs (mth 5)) (defBody (mth 5)) (defScope (mth 5)) [] [] f fd) : Binds K fd ["self"] [] := F.bindsN fun _ _ _ _ _ _ us hl => match us, hl with | [_], _ => rfl
theorem sc6 : FnScope ["self", "line"] ["self", "line"] (defScope (mth 6)) := ⟨rfl, rfl, rfl, by decide +kernel, rfl, by decide +kernel, by decide +kernel⟩
theorem ini6 (F : FunD K "__init__" "ParseError.__init__" (defArgs (mth 6)) (defBody (mth 6)) (defScope (mth 6)) [] [] f fd) (gB : mg "ValueError" = none) : FnOk P w K mg base CX0 1 f fd ["self", "line"] (spI K valL "ValueError.__new__" ["line"]) := by
  refine F.ok sc6 (fun vs H Q E h => ?_) (fun cdv A outer s H vs Q E hr h => ⟨_, PSs.nox (pss_cons (ps_expr (pe_tyat call_inival ta_val rfl gB (by decide +kernel) (pa_cons (pv 0) (pa_cons pe_str pa_nil)))) (pss_one (ps_sto bas_val (pv 0) (pv 1)))), ?_⟩)
  · obtain ⟨a, C, fI, ys, rfl, hl, _⟩ := h
    rw [List.length_cons, hl] <;> rfl
  · obtain ⟨a, C, fI, ys, rfl, hl, T, ha, no, go⟩ := h
    obtain ⟨y0, rfl⟩ := len1 hl
    exact ⟨_, rfl, a, C, fI, [.str _], rfl, by decide, T, ha, _, rfl, _, rfl, a, C, fI, rfl, T, no _ (by simp), .inl ⟨ha, fun dx n ne => go _ (some dx) upd_same (.inr ⟨dx, rfl, (upd_ne ne).trans upd_same⟩) fun b o nb e => (upd_ne nb).trans ((upd_ne (ne_of_none e n)).trans e)⟩⟩
theorem bi6 (F : FunD K "__init__" "ParseError.__init__" (defArgs (mth 6)) (defBody (mth 6)) (defScope (mth 6)) [] [] f fd) : Binds K fd ["self", "line"] [] := F.bindsN fun _ _ _ _ _ _ us hl => match us, hl with | [_, _], _ => rfl
theorem kb6 (F : FunD K "__init__" "ParseError.__init__" (defArgs (mth 6)) (defBody (mth 6)) (defScope (mth 6)) [] [] f fd) : KBinds K fd ["self", "line"] ["line"] kg1 kg1 := kb_one F fun _ _ _ _ _ _ _ _ => rfl
theorem sc7 : FnScope ["self", "value"] ["self", "value"] (defScope (mth 7)) := ⟨rfl, rfl, rfl, by decide +kernel, rfl, by decide +kernel, by decide +kernel⟩
theorem ini7 (F : FunD K "__init__" "UnknownName.__init__" (defArgs (mth 7)) (defBody (mth 7)) (defScope (mth 7)) [] [] f fd) (gB : mg "LookupError" = none) : FnOk P w K mg base CX0 1 f fd ["self", "value"] (spI K lookL "LookupError.__new__" ["value"]) := by
  refine F.ok sc7 (fun vs H Q E h => ?_) (fun cdv A outer s H vs Q E hr h => ⟨_, PSs.nox (pss_cons (ps_expr (pe_tyat call_inilook ta_look rfl gB (by decide +kernel) (pa_cons (pv 0) (pa_cons pe_str pa_nil)))) (pss_one (ps_sto bas_look (pv 0) (pv 1)))), ?_⟩)
  · obtain ⟨a, C, fI, ys, rfl, hl, _⟩ := h
    rw [List.length_cons, hl] <;> rfl
  · obtain ⟨a, C, fI, ys, rfl, hl, T, ha, no, go⟩ := h
    obtain ⟨y0, rfl⟩ := len1 hl
    exact ⟨_, rfl, a, C, fI, [.str _], rfl, by decide, T, ha, _, rfl, _, rfl, a, C, fI, rfl, T, no _ (by simp), .inl ⟨ha, fun dx n ne => go _ (some dx) upd_same (.inr ⟨dx, rfl, (upd_ne ne).trans upd_same⟩) fun b o nb e => (upd_ne nb).trans ((upd_ne (ne_of_none e n)).trans e)⟩⟩
theorem bi7 (F : FunD K "__init__" "UnknownName.__init__" (defArgs (mth 7)) (defBody (mth 7)) (defScope (mth 7)) [] [] f fd) : Binds K fd ["self", "value"] [] := F.bindsN fun _ _ _ _ _ _ us hl => match us, hl with | [_, _], _ => rfl
theorem kb7 (F : FunD K "__init__" "UnknownName.__init__" (defArgs (mth 7)) (defBody (mth 7)) (defScope (mth 7)) [] [] f fd) : KBinds K fd ["self", "value"] ["value"] kg1 kg1 := kb_one F fun _ _ _ _ _ _ _ _ => rfl
theorem sc8 : FnScope ["self"] ["self"] (defScope (mth 8)) := ⟨rfl, rfl, rfl, by decide +kernel, rfl, by decide +kernel, by decide +kernel⟩
theorem ini8 (F : FunD K "__init__" "NoRing.__init__" (defArgs (mth 8)) (defBody (mth 8)) (defScope (mth 8)) [] [] f fd) (gB : mg "RuntimeError" = none) : FnOk P w K mg base CX0 1 f fd ["self"] (spI K runL "RuntimeError.__new__" []) := by
  refine F.ok sc8 (fun vs H Q E h => ?_) (fun cdv A outer s H vs Q E hr h => ⟨_, PSs.nox (pss_one (ps_expr (pe_tyat call_inirun ta_run rfl gB (by decide +kernel) (pa_cons (pv 0) (pa_cons pe_str pa_nil))))), ?_⟩)
  · obtain ⟨a, C, fI, ys, rfl, hl, _⟩ := h
    rw [List.length_cons, hl] <;> rfl
  · obtain ⟨a, C, fI, ys, rfl, hl, T, ha, no, go⟩ := h
    obtain rfl : ys = [] := List.length_eq_zero_iff.mp hl
    exact ⟨_, rfl, a, C, fI, [.str _], rfl, by decide, T, ha, go _ none ha (.inl ⟨rfl, rfl⟩) fun b o nb e => e⟩
theorem bi8 (F : FunD K "__init__" "NoRing.__init__" (defArgs (mth 8)) (defBody (mth 8)) (defScope (mth 8)) [] [] f fd) : Binds K fd ["self"] [] := F.bindsN fun _ _ _ _ _ _ us hl => match us, hl with | [_], _ => rfl
theorem sc9 : FnScope ["self"] ["self"] (defScope (mth 9)) := ⟨rfl, rfl, rfl, by decide +kernel, rfl, by decide +kernel, by decide +kernel⟩
theorem ini9 (F : FunD K "__init__" "NotSafe.__init__" (defArgs (mth 9)) (defBody (mth 9)) (defScope (mth 9)) [] [] f fd) (gB : mg "RuntimeError" = none) : FnOk P w K mg base CX0 1 f fd ["self"] (spI K runL "RuntimeError.__new__" []) := by
  refine F.ok sc9 (fun vs H Q E h => ?_) (fun cdv A outer s H vs Q E hr h => ⟨_, PSs.nox (pss_one (ps_expr (pe_tyat call_inirun ta_run rfl gB (by decide +kernel) (pa_cons (pv 0) (pa_cons pe_str pa_nil))))), ?_⟩)
  · obtain ⟨a, C, fI, ys, rfl, hl, _⟩ := h
    rw [List.length_cons, hl] <;> rfl
  · obtain ⟨a, C, fI, ys, rfl, hl, T, ha, no, go⟩ := h
    obtain rfl : ys = [] := List.length_eq_zero_iff.mp hl
    exact ⟨_, rfl, a, C, fI, [.str _], rfl, by decide, T, ha, go _ none ha (.inl ⟨rfl, rfl⟩) fun b o nb e => e⟩
theorem bi9 (F : FunD K "__init__" "NotSafe.__init__" (defArgs (mth 9)) (defBody (mth 9)) (defScope (mth 9)) [] [] f fd) : Binds K fd ["self"] [] := F.bindsN fun _ _ _ _ _ _ us hl => match us, hl with | [_], _ => rfl
theorem sc10 : FnScope ["self", "index", "reason"] ["self", "index", "reason"] (defScope (mth 10)) := ⟨rfl, rfl, rfl, by decide +kernel, rfl, by decide +kernel, by decide +kernel⟩
theorem ini10 (F : FunD K "__init__" "Refused.__init__" (defArgs (mth 10)) (defBody (mth 10)) (defScope (mth 10)) [] [] f fd) (gB : mg "RuntimeError" = none) : FnOk P w K mg base CX0 1 f fd ["self", "index", "reason"] (spI K runL "RuntimeError.__new__" ["index", "reason"]) := by
  refine F.ok sc10 (fun vs H Q E h => ?_) (fun cdv A outer s H vs Q E hr h => ⟨_, PSs.nox (pss_cons (ps_expr (pe_tyat call_inirun ta_run rfl gB (by decide +kernel) (pa_cons (pv 0) (pa_cons pe_str pa_nil)))) (pss_cons (ps_sto bas_run (pv 0) (pv 1)) (pss_one (ps_sto bas_run (pv 0) (pv 2))))), ?_⟩)
  · obtain ⟨a, C, fI, ys, rfl, hl, _⟩ := h
    rw [List.length_cons, hl] <;> rfl
  · obtain ⟨a, C, fI, ys, rfl, hl, T, ha, no, go⟩ := h
    obtain ⟨y0, y1, rfl⟩ := len2 hl
    exact ⟨_, rfl, a, C, fI, [.str _], rfl, by decide, T, ha, _, rfl, _, rfl, a, C, fI, rfl, T, no _ (by simp), .inl ⟨ha, fun dx n ne => ⟨_, rfl, _, rfl, a, C, fI, rfl, T, no _ (by simp), .inr ⟨dx, _, upd_same, (upd_ne ne).trans upd_same, Nat.le_of_ble_eq_true rfl, go _ (some dx) ((upd_ne (Ne.symm ne)).trans upd_same) (.inr ⟨dx, rfl, upd_same⟩) fun b o nb e => (upd_ne (ne_of_none e n)).trans ((upd_ne nb).trans ((upd_ne (ne_of_none e n)).trans e))⟩⟩⟩⟩
theorem bi10 (F : FunD K "__init__" "Refused.__init__" (defArgs (mth 10)) (defBody (mth 10)) (defScope (mth 10)) [] [] f fd) : Binds K fd ["self", "index", "reason"] [] := F.bindsN fun _ _ _ _ _ _ us hl => match us, hl with | [_, _, _], _ => rfl
theorem kb10 (F : FunD K "__init__" "Refused.__init__" (defArgs (mth 10)) (defBody (mth 10)) (defScope (mth 10)) [] [] f fd) : KBinds K fd ["self", "index", "reason"] ["reason", "index"] kg2 kg2 := kb_two F fun _ _ _ _ _ _ _ _ _ => rfl
theorem sc11 : FnScope ["self", "waited"] ["self", "waited"] (defScope (mth 11)) := ⟨rfl, rfl, rfl, by decide +kernel, rfl, by decide +kernel, by decide +kernel⟩
theorem ini11 (F : FunD K "__init__" "CannotGo.__init__" (defArgs (mth 11)) (defBody (mth 11)) (defScope (mth 11)) [] [] f fd) (gB : mg "RuntimeError" = none) : FnOk P w K mg base CX0 1 f fd ["self", "waited"] (spI K runL "RuntimeError.__new__" ["waited"]) := by
  refine F.ok sc11 (fun vs H Q E h => ?_) (fun cdv A outer s H vs Q E hr h => ⟨_, PSs.nox (pss_cons (ps_expr (pe_tyat call_inirun ta_run rfl gB (by decide +kernel) (pa_cons (pv 0) (pa_cons pe_str pa_nil)))) (pss_one (ps_sto bas_run (pv 0) (pv 1)))), ?_⟩)
  · obtain ⟨a, C, fI, ys, rfl, hl, _⟩ := h
    rw [List.length_cons, hl] <;> rfl
  · obtain ⟨a, C, fI, ys, rfl, hl, T, ha, no, go⟩ := h
    obtain ⟨y0, rfl⟩ := len1 hl
    exact ⟨_, rfl, a, C, fI, [.str _], rfl, by decide, T, ha, _, rfl, _, rfl, a, C, fI, rfl, T, no _ (by simp), .inl ⟨ha, fun dx n ne => go _ (some dx) upd_same (.inr ⟨dx, rfl, (upd_ne ne).trans upd_same⟩) fun b o nb e => (upd_ne nb).trans ((upd_ne (ne_of_none e n)).trans e)⟩⟩
theorem bi11 (F : FunD K "__init__" "CannotGo.__init__" (defArgs (mth 11)) (defBody (mth 11)) (defScope (mth 11)) [] [] f fd) : Binds K fd ["self", "waited"] [] := F.bindsN fun _ _ _ _ _ _ us hl => match us, hl with | [_, _], _ => rfl
theorem kb11 (F : FunD K "__init__" "CannotGo.__init__" (defArgs (mth 11)) (defBody (mth 11)) (defScope (mth 11)) [] [] f fd) : KBinds K fd ["self", "waited"] ["waited"] kg1 kg1 := kb_one F fun _ _ _ _ _ _ _ _ => rfl
theorem sc12 : FnScope ["self"] ["self"] (defScope (mth 12)) := ⟨rfl, rfl, rfl, by decide +kernel, rfl, by decide +kernel, by decide +kernel⟩
theorem ini12 (F : FunD K "__init__" "CannotHop.__init__" (defArgs (mth 12)) (defBody (mth 12)) (defScope (mth 12)) [] [] f fd) (gB : mg "RuntimeError" = none) : FnOk P w K mg base CX0 1 f fd ["self"] (spI K runL "RuntimeError.__new__" []) := by
  refine F.ok sc12 (fun vs H Q E h => ?_) (fun cdv A outer s H vs Q E hr h => ⟨_, PSs.nox (pss_one (ps_expr (pe_tyat call_inirun ta_run rfl gB (by decide +kernel) (pa_cons (pv 0) (pa_cons pe_str pa_nil))))), ?_⟩)
  · obtain ⟨a, C, fI, ys, rfl, hl, _⟩ := h
    rw [List.length_cons, hl] <;> rfl
  · obtain ⟨a, C, fI, ys, rfl, hl, T, ha, no, go⟩ := h
    obtain rfl : ys = [] := List.length_eq_zero_iff.mp hl
    exact ⟨_, rfl, a, C, fI, [.str _], rfl, by decide, T, ha, go _ none ha (.inl ⟨rfl, rfl⟩) fun b o nb e => e⟩
theorem bi12 (F : FunD K "__init__" "CannotHop.__init__" (defArgs (mth 12)) (defBody (mth 12)) (defScope (mth 12)) [] [] f fd) : Binds K fd ["self"] [] := F.bindsN fun _ _ _ _ _ _ us hl => match us, hl with | [_], _ => rfl
theorem sc13 : FnScope ["self"] ["self"] (defScope (mth 13)) := ⟨rfl, rfl, rfl, by decide +kernel, rfl, by decide +kernel, by decide +kernel⟩
theorem ini13 (F : FunD K "__init__" "NothingDone.__init__" (defArgs (mth 13)) (defBody (mth 13)) (defScope (mth 13)) [] [] f fd) (gB : mg "RuntimeError" = none) : FnOk P w K mg base CX0 1 f fd ["self"] (spI K runL "RuntimeError.__new__" []) := by
  refine F.ok sc13 (fun vs H Q E h => ?_) (fun cdv A outer s H vs Q E hr h => ⟨_, PSs.nox (pss_one (ps_expr (pe_tyat call_inirun ta_run rfl gB (by decide +kernel) (pa_cons (pv 0) (pa_cons pe_str pa_nil))))), ?_⟩)
  · obtain ⟨a, C, fI, ys, rfl, hl, _⟩ := h
    rw [List.length_cons, hl] <;> rfl
  · obtain ⟨a, C, fI, ys, rfl, hl, T, ha, no, go⟩ := h
    obtain rfl : ys = [] := List.length_eq_zero_iff.mp hl
    exact ⟨_, rfl, a, C, fI, [.str _], rfl, by decide, T, ha, go _ none ha (.inl ⟨rfl, rfl⟩) fun b o nb e => e⟩
theorem bi13 (F : FunD K "__init__" "NothingDone.__init__" (defArgs (mth 13)) (defBody (mth 13)) (defScope (mth 13)) [] [] f fd) : Binds K fd ["self"] [] := F.bindsN fun _ _ _ _ _ _ us hl => match us, hl with | [_], _ => rfl
theorem sc14 : FnScope ["self", "limit"] ["self", "limit"] (defScope (mth 14)) := ⟨rfl, rfl, rfl, by decide +kernel, rfl, by decide +kernel, by decide +kernel⟩
theorem ini14 (F : FunD K "__init__" "LimitExceeded.__init__" (defArgs (mth 14)) (defBody (mth 14)) (defScope (mth 14)) [] [] f fd) (gB : mg "OverflowError" = none) : FnOk P w K mg base CX0 1 f fd ["self", "limit"] (spI K overL "OverflowError.__new__" ["limit"]) := by
  refine F.ok sc14 (fun vs H Q E h => ?_) (fun cdv A outer s H vs Q E hr h => ⟨_, PSs.nox (pss_cons (ps_expr (pe_tyat call_iniover ta_over rfl gB (by decide +kernel) (pa_cons (pv 0) (pa_cons pe_str pa_nil)))) (pss_one (ps_sto bas_over (pv 0) (pv 1)))), ?_⟩)
  · obtain ⟨a, C, fI, ys, rfl, hl, _⟩ := h
    rw [List.length_cons, hl] <;> rfl
  · obtain ⟨a, C, fI, ys, rfl, hl, T, ha, no, go⟩ := h
    obtain ⟨y0, rfl⟩ := len1 hl
    exact ⟨_, rfl, a, C, fI, [.str _], rfl, by decide, T, ha, _, rfl, _, rfl, a, C, fI, rfl, T, no _ (by simp), .inl ⟨ha, fun dx n ne => go _ (some dx) upd_same (.inr ⟨dx, rfl, (upd_ne ne).trans upd_same⟩) fun b o nb e => (upd_ne nb).trans ((upd_ne (ne_of_none e n)).trans e)⟩⟩
theorem bi14 (F : FunD K "__init__" "LimitExceeded.__init__" (defArgs (mth 14)) (defBody (mth 14)) (defScope (mth 14)) [] [] f fd) : Binds K fd ["self", "limit"] [] := F.bindsN fun _ _ _ _ _ _ us hl => match us, hl with | [_, _], _ => rfl
theorem kb14 (F : FunD K "__init__" "LimitExceeded.__init__" (defArgs (mth 14)) (defBody (mth 14)) (defScope (mth 14)) [] [] f fd) : KBinds K fd ["self", "limit"] ["limit"] kg1 kg1 := kb_one F fun _ _ _ _ _ _ _ _ => rfl
end
end K86

/-! k86: which error is it. Printed by gen86f.py from K86f.tpl. -/
namespace K86
open PySem PySem.Spec PyProof.Rows L2 L2.NB PySem.NB NwS
def bmI (i : Nat) : List Value := if i ≤ 6 then valL else if i = 7 then lookL else if i = 14 then overL else runL
def nidI (i : Nat) : String := if i ≤ 6 then "ValueError.__new__" else if i = 7 then "LookupError.__new__" else if i = 14 then "OverflowError.__new__" else "RuntimeError.__new__"
structure Tab (K : PySem.W.Frag) (mg : Str → Option Value) (C fI : Nat → Addr) : Prop where
  oe : ∀ i, 1 ≤ i → i ≤ 14 → Oe K (bmI i) (nidI i) (C i) (fI i)
  inj : ∀ i j, 1 ≤ i → i ≤ 14 → 1 ≤ j → j ≤ 14 → C i = C j → i = j
  g1 : mg "InvalidTable" = some (.ref (C 1))
  g2 : mg "InvalidWaits" = some (.ref (C 2))
  g3 : mg "InvalidOptions" = some (.ref (C 3))
  g4 : mg "InvalidLinks" = some (.ref (C 4))
  g5 : mg "InvalidClaim" = some (.ref (C 5))
  g6 : mg "ParseError" = some (.ref (C 6))
  g7 : mg "UnknownName" = some (.ref (C 7))
  g8 : mg "NoRing" = some (.ref (C 8))
  g9 : mg "NotSafe" = some (.ref (C 9))
  g10 : mg "Refused" = some (.ref (C 10))
  g11 : mg "CannotGo" = some (.ref (C 11))
  g12 : mg "CannotHop" = some (.ref (C 12))
  g13 : mg "NothingDone" = some (.ref (C 13))
  g14 : mg "LimitExceeded" = some (.ref (C 14))
theorem bm_noref (i : Nat) (D : Addr) : (bmI i).contains (.ref D) = false := by
  unfold bmI
  split
  · rfl
  · split
    · rfl
    · split
      · rfl
      · rfl
section
variable {P : Program} {w : World} {K : PySem.W.Frag} {mg : Str → Option Value} {base : Heap} {f : Addr} {fd : FuncData} {C fI : Nat → Addr}
theorem Tab.sub (T : Tab K mg C fI) {i : Nat} (h1 : 1 ≤ i) (h2 : i ≤ 14) (b : Value) : PySem.W.subIn K (.ref (C i)) b = some ((Value.ref (C i) :: bmI i).contains b) := by
  obtain ⟨cd, c1, c2, _⟩ := (T.oe i h1 h2).data
  show PySem.W.mroIn K (C i) b = _
  unfold PySem.W.mroIn
  rw [c1, Option.bind_some, c2]
  rfl
theorem Tab.kit (T : Tab K mg C fI) {i j : Nat} (h1 : 1 ≤ i) (h2 : i ≤ 14) (h3 : 1 ≤ j) (h4 : j ≤ 14) : PySem.W.kitOne K (.ref (C i)) (.ref (C j)) = some (decide (i = j)) := by
  by_cases e : i = j
  · subst e
    unfold PySem.W.kitOne
    rw [if_pos (by simp), decide_eq_true rfl]
  · have ne : C i ≠ C j := fun z => e (T.inj i j h1 h2 h3 h4 z)
    have nb : (Value.ref (C i) == Value.ref (C j)) = false := by simpa using ne
    obtain ⟨cd, c1, _, _⟩ := (T.oe j h3 h4).data
    unfold PySem.W.kitOne
    rw [nb, if_neg Bool.false_ne_true]
    unfold PySem.W.kitCls
    dsimp only
    rw [c1, (T.oe j h3 h4).ty, if_pos (by simp), T.sub h1 h2, List.contains_cons, bm_noref, decide_eq_false e]
    have nb2 : (Value.ref (C j) == Value.ref (C i)) = false := by simpa using Ne.symm ne
    rw [nb2] <;> rfl
theorem Tab.kitT (T : Tab K mg C fI) {i : Nat} (h1 : 1 ≤ i) (h2 : i ≤ 14) {t : String} (h : PySem.W.kitMeta t = true) : PySem.W.kitOne K (.ref (C i)) (.type t) = some ((bmI i).contains (.type t)) := by
  unfold PySem.W.kitOne
  rw [if_neg (by intro z; have z' := beq_iff_eq.mp z; cases z')]
  unfold PySem.W.kitCls
  dsimp only
  rw [if_pos h, T.sub h1 h2, List.contains_cons]
  have nb : (Value.type t == Value.ref (C i)) = false := by
    cases e : (Value.type t == Value.ref (C i)) with
    | false => rfl
    | true => cases beq_iff_eq.mp e
  rw [nb] <;> rfl
/-- the places of true -/
def hit (k : Nat) : List Bool → List Int
  | [] => []
  | b :: bs => if b then (k : Int) :: hit (k + 1) bs else hit (k + 1) bs
theorem hit_more : ∀ (k n : Nat) (bs : List Bool) (b : Bool), bs[n]? = some b → hit k (bs.take (n + 1)) = hit k (bs.take n) ++ (if b then [((k + n : Nat) : Int)] else [])
  | k, _, [], _, h => nomatch h
  | k, 0, c :: bs, b, h => by
    obtain rfl : c = b := by simpa using h
    cases c <;> simp [hit]
  | k, n + 1, c :: bs, b, h => by
    have ih := hit_more (k + 1) n bs b (by simpa using h)
    have e : k + 1 + n = k + (n + 1) := by omega
    rw [List.take_succ_cons, List.take_succ_cons]
    cases c
    · simp only [hit, if_neg Bool.false_ne_true, ih, e] <;> rfl
    · simp only [hit, if_pos, ih, e, List.cons_append] <;> rfl
theorem hit_len : ∀ (k : Nat) (bs : List Bool), (hit k bs).length ≤ bs.length
  | _, [] => Nat.le_refl _
  | k, b :: bs => by
    have := hit_len (k + 1) bs
    cases b <;> simp [hit] <;> omega
def ord : List Nat := [1, 2, 3, 4, 5, 6, 7, 8, 10, 11, 12, 13, 14, 9]
def seatOf (i : Nat) : Int := if i = 9 then 13 else if i ≤ 8 then (i : Int) - 1 else (i : Int) - 2
theorem hit_seat : ∀ i ∈ List.range 15, 1 ≤ i → hit 0 (ord.map fun j => decide (i = j)) = [seatOf i] := by decide
def baseNs : List String := ["ValueError", "LookupError", "RuntimeError", "OverflowError", "KeyError", "IndexError", "NotImplementedError"]
def baseOf (i : Nat) : Int := if i ≤ 6 then 0 else if i = 7 then 1 else if i = 14 then 3 else 2
theorem hit_base : ∀ i ∈ List.range 15, hit 0 (baseNs.map fun t => (bmI i).contains (.type t)) = [baseOf i] := by decide +kernel
/-- an exception of the i-th class at a, with its fields -/
def Ex (C : Nat → Addr) (H : Hp) (a : Addr) (i : Nat) (fs : List Str) (ys : List V) : Prop := 1 ≤ i ∧ i ≤ 14 ∧ ∃ d, H a = some (exo a (C i) d) ∧ HasD fs ys d H
theorem Ex.kept {H H' : Hp} {a : Addr} {i : Nat} {fs : List Str} {ys : List V} (x : Ex C H a i fs ys) (k : Kept H H') : Ex C H' a i fs ys := by
  obtain ⟨h1, h2, d, e, hd⟩ := x
  refine ⟨h1, h2, d, k _ _ e, ?_⟩
  rcases hd with hd | ⟨dx, e1, e2⟩
  · exact .inl hd
  · exact .inr ⟨dx, e1, k _ _ e2⟩
theorem HasD.dict {H : Hp} {fs : List Str} {ys : List V} {d : Option Addr} (h : HasD fs ys d H) : ∀ dx, d = some dx → ∃ gs, H dx = some (exd dx gs) := fun dx e => by
  rcases h with ⟨_, rfl⟩ | ⟨dy, rfl, e2⟩
  · cases e
  · cases e
    exact ⟨_, e2⟩
/-- isinstance(e, a class of the table) -/
theorem asked (T : Tab K mg C fI) {H : Hp} {a : Addr} {i j : Nat} {fs : List Str} {ys : List V} {Q : VK} (x : Ex C H a i fs ys) (h1 : 1 ≤ j) (h2 : j ≤ 14) (q : Q (.bl (decide (i = j))) H) : rAsk K [.ref a, .ref (C j)] H Q := by
  obtain ⟨i1, i2, d, e, hd⟩ := x
  exact ⟨a, C i, d, .ref (C j), .ref (C j), _, rfl, (T.oe i i1 i2).xc, e, hd.dict, fun u h => h, T.kit i1 i2 h1 h2, q⟩
/-- isinstance(e, a built-in class) -/
theorem askedT (T : Tab K mg C fI) {H : Hp} {a : Addr} {i : Nat} {fs : List Str} {ys : List V} {t : String} {Q : VK} (x : Ex C H a i fs ys) (h : PySem.W.kitMeta t = true) (q : Q (.bl ((bmI i).contains (.type t))) H) : rAsk K [.ref a, .ty t] H Q := by
  obtain ⟨i1, i2, d, e, hd⟩ := x
  exact ⟨a, C i, d, .ty t, .type t, _, rfl, (T.oe i i1 i2).xc, e, hd.dict, fun u h => h, T.kitT i1 i2 h, q⟩
/-- the walk of «the places of true» -/
theorem enum_hits {p D : Addr} {bs : List Bool} {s0 s1 s2 s3 : Option V} {H0 H1 : Hp} {Qd : Hp → Prop} (h : H1 p = some (.lst (bs.map V.bl))) (few : bs.length ≤ 100) (k : Kept H0 H1) (hD : H1 D = none)
    (hd : ∀ H', H' D = some (.lst ((hit 0 bs).map V.int)) → Kept H0 H' → Qd H') :
    ∃ W : Nat → Nat → Hp → Prop, (∃ m, W 0 m (upd H1 D (.lst []))) ∧ ∀ i m H, W i m H → ((Ite K p).stop i H ∧ Qd H) ∨ ((Ite K p).go i H ∧ ∃ Nx : Hp → Prop, (∀ H', Nx H' → ∃ m', m' < m ∧ W (i + 1) m' H') ∧
      ∀ x H', (Ite K p).yld i H x H' → gTup K 2 (gCons (gName 2) (gCons (gName 3) gNil)) x (wipe [s0, s1, s2, s3] [2, 3]) H' fun σ2 H2 => wipe σ2 [2, 3] = wipe [s0, s1, s2, s3] [2, 3] ∧
        tB (tVar 3) σ2 H2 fun b H3 => if b = true then tVar 2 σ2 H3 fun y H4 => ∃ acc, H4 D = some (.lst acc) ∧ acc.length < sizeLine ∧ Nx (upd H4 D (.lst (acc ++ [y]))) else Nx H3) := by
  have pD : p ≠ D := ne_of_none h hD
  have lb : (bs.map V.bl).length = bs.length := List.length_map ..
  refine lc_it (walk_enum (K := K) (a := p) (xs := bs.map V.bl)) (fun n H' => H' D = some (.lst ((hit 0 (bs.take n)).map V.int)) ∧ H' p = some (.lst (bs.map V.bl)) ∧ ∀ b o, b ≠ D → H0 b = some o → H' b = some o) ?_ ?_ ?_ ?_
  · exact ⟨upd_same, (upd_ne pD).trans h, fun b o nb e => (upd_ne nb).trans (k b o e)⟩
  · rintro n H' _ ⟨_, h2, _⟩
    exact SqL.of h2
  · rintro n x H' H'' hn ⟨h1, h2, h3⟩ ⟨T, y, z, rfl, hT, rfl, hy, hz⟩
    cases hy
    replace hz : (bs.map V.bl)[n]? = some z := hz
    rw [List.getElem?_map] at hz
    obtain ⟨b, hb, rfl⟩ := Option.map_eq_some_iff.mp hz
    have more := hit_more 0 n bs b hb
    have DT : D ≠ T := ne_of_none h1 hT
    have pT : p ≠ T := ne_of_none h2 hT
    have h3' : ∀ c o, c ≠ D → H0 c = some o → upd H' T (.tup [.int (n : Nat), .bl b]) c = some o := fun c o nc e => by
      have z := h3 c o nc e
      exact (upd_ne (ne_of_none z hT)).trans z
    refine ⟨T, _, rfl, SqT.of upd_same, rfl, _, _, rfl, _, _, rfl, rfl, rfl, _, rfl, b, rfl, ?_⟩
    cases b with
    | true =>
      refine yes rfl ⟨_, rfl, _, (upd_ne DT).trans h1, ?_, ?_, (upd_ne pD).trans ((upd_ne pT).trans h2), fun c o nc e => (upd_ne nc).trans (h3' c o nc e)⟩
      · rw [List.length_map]
        have q := hit_len 0 (bs.take n)
        have q2 : (bs.take n).length ≤ bs.length := by rw [List.length_take]; omega
        exact Nat.lt_of_le_of_lt (Nat.le_trans q (Nat.le_trans q2 few)) (by decide)
      · rw [more, List.map_append, if_pos rfl, Nat.zero_add]
        exact upd_same
    | false =>
      refine no rfl ⟨?_, (upd_ne pT).trans h2, h3'⟩
      rw [more, if_neg Bool.false_ne_true, List.append_nil]
      exact (upd_ne DT).trans h1
  · rintro H' ⟨h1, h2, h3⟩
    rw [lb, List.take_length] at h1
    refine hd H' h1 fun b o e => ?_
    by_cases nb : b = D
    · subst nb
      have z := k _ _ e
      rw [hD] at z
      cases z
    · exact h3 b o nb e
theorem Kept.none {H H' : Hp} {p : Addr} (k : Kept H H') (h : H' p = .none) : H p = .none := by
  cases e : H p with
  | none => rfl
  | some o =>
    rw [k p o e] at h
    cases h
/-- the answers to isinstance(e, ..), one behind another -/
def tAsks (K : PySem.W.Frag) : List V → TA
  | [] => tNil
  | c :: cs => tCons (tCB (rAsk K) (tCons (tVar 0) (tCons (tC c) tNil))) (tAsks K cs)
def Asks (K : PySem.W.Frag) (H : Hp) (a : Addr) (c : V) (b : Bool) : Prop := ∀ (H' : Hp) (Q : VK), Kept H H' → Q (.bl b) H' → rAsk K [.ref a, c] H' Q
theorem asksC (T : Tab K mg C fI) {H : Hp} {a : Addr} {i j : Nat} {fs : List Str} {ys : List V} (x : Ex C H a i fs ys) (h1 : 1 ≤ j) (h2 : j ≤ 14) : Asks K H a (.ref (C j)) (decide (i = j)) := fun H' Q k q => asked T (x.kept k) h1 h2 q
theorem asksT (T : Tab K mg C fI) {H : Hp} {a : Addr} {i : Nat} {fs : List Str} {ys : List V} {t : String} (x : Ex C H a i fs ys) (h : PySem.W.kitMeta t = true) : Asks K H a (.ty t) ((bmI i).contains (.type t)) := fun H' Q k q => askedT T (x.kept k) h q
theorem asks_all {H : Hp} {a : Addr} {σ : L2.St} (hσ : σ[0]? = some (some (.ref a))) : ∀ {cs : List V} {bs : List Bool} {Q : List V → Hp → Prop}, Paired (Asks K H a) cs bs → Q (bs.map V.bl) H → tAsks K cs σ H Q
  | _, _, _, .nil, q => q
  | c :: cs, b :: bs, Q, .cons r rs, q => ⟨_, hσ, r H (fun x H1 => tAsks K cs σ H1 fun xs H2 => Q (x :: xs) H2) Kept.same (asks_all hσ (Q := fun vs H2 => Q (.bl b :: vs) H2) rs q)⟩
theorem ask_list {H : Hp} {a : Addr} {σ : L2.St} {cs : List V} {bs : List Bool} {Q : VK} (hσ : σ[0]? = some (some (.ref a))) (r : Paired (Asks K H a) cs bs) (few : bs.length ≤ 100) (q : ∀ p H', H p = none → H' p = some (.lst (bs.map V.bl)) → Kept H H' → Q (.ref p) H') :
    tLst (tAsks K cs) σ H Q := asks_all hσ (Q := fun xs H1 => xs.length ≤ sizeLine ∧ ∀ p, H1 p = none → Q (.ref p) (upd H1 p (.lst xs))) r ⟨by rw [List.length_map]; exact Nat.le_trans few (by decide), fun p hp => q p _ hp upd_same (Kept.same.new hp)⟩
theorem cat_list {H : Hp} {a p0 : Addr} {σ : L2.St} {cs : List V} {bs bs0 : List Bool} {Q : VK} (hσ : σ[0]? = some (some (.ref a))) (hσ1 : σ[1]? = some (some (.ref p0))) (e0 : H p0 = some (.lst (bs0.map V.bl))) (r : Paired (Asks K H a) cs bs) (few : bs.length ≤ 100) (few0 : bs0.length ≤ 100)
    (q : ∀ p H', H p = none → H' p = some (.lst ((bs0 ++ bs).map V.bl)) → Kept H H' → Q (.ref p) H') : tOp rCat (tVar 1) (tLst (tAsks K cs)) σ H Q := by
  refine ⟨_, hσ1, ask_list hσ r few fun p H' _ e k => ⟨p0, p, _, _, rfl, rfl, k _ _ e0, e, ?_, fun p' hp' => q p' _ (k.none hp') ?_ (k.new hp')⟩⟩
  · rw [List.length_map, List.length_map]
    have : 200 ≤ sizeLine := by decide
    omega
  · rw [List.map_append]
    exact upd_same
theorem seqI {a b : TS} {D : Ends} {σ : L2.St} {H : Hp} (h : a { D with nx := fun σ' H' => b D σ' H' } σ H) : tSeq a b D σ H := h
theorem nameI {i : Nat} {v : V} {σ : L2.St} {H : Hp} {Q : L2.St → Hp → Prop} (h : Q (σ.set i (some v)) H) : gName i v σ H Q := h
theorem asgI {te : TE} {g : TG} {D : Ends} {σ : L2.St} {H : Hp} (h : te σ H fun x H1 => g x σ H1 D.nx) : tAsg te g D σ H := h
def spWhich (C : Nat → Addr) : Sp := fun vs H Q _ => ∃ (a : Addr) (i : Nat) (fs : List Str) (ys : List V), vs = [.ref a] ∧ Ex C H a i fs ys ∧ ∀ (q : Addr) (H' : Hp), H' q = some (.lst [.int (seatOf i)]) → Kept H H' → Q (.ref q) H'
def spBase (C : Nat → Addr) : Sp := fun vs H Q _ => ∃ (a : Addr) (i : Nat) (fs : List Str) (ys : List V), vs = [.ref a] ∧ Ex C H a i fs ys ∧ ∀ (q : Addr) (H' : Hp), H' q = some (.lst [.int (baseOf i)]) → Kept H H' → Q (.ref q) H'
theorem scW : FnScope ["e", "found", "seat", "is_it"] ["e"] (defScope (top 20)) := ⟨rfl, rfl, rfl, by decide +kernel, rfl, by decide +kernel, by decide +kernel⟩
theorem scB : FnScope ["e", "found", "seat", "is_it"] ["e"] (defScope (top 21)) := ⟨rfl, rfl, rfl, by decide +kernel, rfl, by decide +kernel, by decide +kernel⟩
theorem pe_hits {X : Cx} {p1 p2 p3 p4 p5 p6 p7 p8 p9 : Pos} {kk : Nat} (hc : X.calm = true) (hN : X.N = (["e", "found", "seat", "is_it"] : List Str)) (hv : X.env.scope.names.lookup ("found" : Str) = some NameKind.local) (gE : X.mg "enumerate" = none) (glE : Gl X "enumerate")
    (hs : ∀ x, foldedSetIterable (.Call (.Name "enumerate" p5) [.Name "found" p6] [] p7) X.env x = pure x) (hst : starEach [.Name "found" p6] X.env = [(false, eval (.Name "found" p6) X.env)]) :
    PE X (.ListComp (.Name "seat" p1) [⟨.Tuple [.Name "seat" p2, .Name "is_it" p3] kk p4, .Call (.Name "enumerate" p5) [.Name "found" p6] [] p7, [.Name "is_it" p8], 0⟩] { kind := .function, names := [(Str.ofString ".0", .local), (Str.ofString "seat", .local), (Str.ofString "is_it", .local)], isGenerator := false, isCoroutine := false, more := [] } p9)
      (tLc (iEnum X.K (tCons (tVar 1) tNil)) (gTup X.K 2 (gCons (gName 2) (gCons (gName 3) gNil))) (tB (tVar 3)) (tVar 2) [2, 3]) := by
  have nd : X.N.Nodup := by rw [hN]; decide +kernel
  have n1 : X.N[1]? = some ("found" : Str) := by rw [hN]; rfl
  have n2 : X.N[2]? = some ("seat" : Str) := by rw [hN]; rfl
  have n3 : X.N[3]? = some ("is_it" : Str) := by rw [hN]; rfl
  refine pe_lc (own := [("seat", 2), ("is_it", 3)]) hc nd (pi_enum glE gE (pa_cons (pv 1 n1 (.inl hv)) pa_nil) hst) ?_ ?_ ?_ ?_ hs
  · have nf : ∀ y ∈ ([(Str.ofString ".0", .local), (Str.ofString "seat", .local), (Str.ofString "is_it", .local)] : List (Str × NameKind)), y.2 ≠ .free := by decide +kernel
    refine ⟨rfl, by decide +kernel, by rw [hN]; decide +kernel, fun y hy e => absurd e (nf y hy), by rw [hN]; decide +kernel⟩
  · intro s H C cl fp
    exact pg_tup hc (pgs_cons (pg_name (i := 2) nd n2 (Or.inl rfl)) (pgs_cons (pg_name (i := 3) nd n3 (Or.inl rfl)) pgs_nil))
  · intro s H C cl fp
    exact pts_one (pt_val (pv 3 n3 (Or.inl rfl)))
  · intro s H C cl fp
    exact pv 2 n2 (Or.inl rfl)
theorem ok_which (F : FnP K "_law_which" (top 20) f fd) (T : Tab K mg C fI) (gI : mg "isinstance" = none) (gE : mg "enumerate" = none) : FnOk P w K mg base CX0 1 f fd ["e"] (spWhich C) := by
  refine F.ok scW (fun vs H Q E h => ?_) (fun cdv A outer s H vs Q E hr h => ⟨_, PSs.nox (
    pss_cons (ps_set (i := 1) scW.nd rfl (Or.inl rfl) (pe_lst (pa_cons (pe_callB call_ask rfl gI (by decide +kernel) (pa_cons (pv 0) (pa_cons (pe_glob (v := .ref (C 1)) rfl T.g1 rfl) pa_nil))) (pa_cons (pe_callB call_ask rfl gI (by decide +kernel) (pa_cons (pv 0) (pa_cons (pe_glob (v := .ref (C 2)) rfl T.g2 rfl) pa_nil))) (pa_cons (pe_callB call_ask rfl gI (by decide +kernel) (pa_cons (pv 0) (pa_cons (pe_glob (v := .ref (C 3)) rfl T.g3 rfl) pa_nil))) pa_nil)))))
    (pss_cons (ps_set (i := 1) scW.nd rfl (Or.inl rfl) (pe_op op_cat (pv 1) (pe_lst (pa_cons (pe_callB call_ask rfl gI (by decide +kernel) (pa_cons (pv 0) (pa_cons (pe_glob (v := .ref (C 4)) rfl T.g4 rfl) pa_nil))) (pa_cons (pe_callB call_ask rfl gI (by decide +kernel) (pa_cons (pv 0) (pa_cons (pe_glob (v := .ref (C 5)) rfl T.g5 rfl) pa_nil))) (pa_cons (pe_callB call_ask rfl gI (by decide +kernel) (pa_cons (pv 0) (pa_cons (pe_glob (v := .ref (C 6)) rfl T.g6 rfl) pa_nil))) pa_nil))))))
    (pss_cons (ps_set (i := 1) scW.nd rfl (Or.inl rfl) (pe_op op_cat (pv 1) (pe_lst (pa_cons (pe_callB call_ask rfl gI (by decide +kernel) (pa_cons (pv 0) (pa_cons (pe_glob (v := .ref (C 7)) rfl T.g7 rfl) pa_nil))) (pa_cons (pe_callB call_ask rfl gI (by decide +kernel) (pa_cons (pv 0) (pa_cons (pe_glob (v := .ref (C 8)) rfl T.g8 rfl) pa_nil))) (pa_cons (pe_callB call_ask rfl gI (by decide +kernel) (pa_cons (pv 0) (pa_cons (pe_glob (v := .ref (C 10)) rfl T.g10 rfl) pa_nil))) pa_nil))))))
    (pss_cons (ps_set (i := 1) scW.nd rfl (Or.inl rfl) (pe_op op_cat (pv 1) (pe_lst (pa_cons (pe_callB call_ask rfl gI (by decide +kernel) (pa_cons (pv 0) (pa_cons (pe_glob (v := .ref (C 11)) rfl T.g11 rfl) pa_nil))) (pa_cons (pe_callB call_ask rfl gI (by decide +kernel) (pa_cons (pv 0) (pa_cons (pe_glob (v := .ref (C 12)) rfl T.g12 rfl) pa_nil))) (pa_cons (pe_callB call_ask rfl gI (by decide +kernel) (pa_cons (pv 0) (pa_cons (pe_glob (v := .ref (C 13)) rfl T.g13 rfl) pa_nil))) pa_nil))))))
    (pss_cons (ps_set (i := 1) scW.nd rfl (Or.inl rfl) (pe_op op_cat (pv 1) (pe_lst (pa_cons (pe_callB call_ask rfl gI (by decide +kernel) (pa_cons (pv 0) (pa_cons (pe_glob (v := .ref (C 14)) rfl T.g14 rfl) pa_nil))) (pa_cons (pe_callB call_ask rfl gI (by decide +kernel) (pa_cons (pv 0) (pa_cons (pe_glob (v := .ref (C 9)) rfl T.g9 rfl) pa_nil))) pa_nil)))))
    (pss_one (ps_ret (pe_hits rfl rfl rfl gE rfl (fun _ => rfl) rfl)))))))), ?_⟩)
  · obtain ⟨a, i, fs, ys, rfl, _⟩ := h
    rfl
  · obtain ⟨a, i, fs, ys, rfl, x, go⟩ := h
    refine seqI (asgI ?_)
    refine ask_list (cs := [.ref (C 1), .ref (C 2), .ref (C 3)]) (bs := [decide (i = 1), decide (i = 2), decide (i = 3)]) rfl (.cons (asksC T x (j := 1) (by decide) (by decide)) (.cons (asksC T x (j := 2) (by decide) (by decide)) (.cons (asksC T x (j := 3) (by decide) (by decide)) .nil))) (Nat.le_of_ble_eq_true rfl) fun p0 H0 n0 e0 k0 => ?_
    have x0 := x.kept k0
    refine nameI ?_
    dsimp only
    refine seqI (asgI ?_)
    refine cat_list (cs := [.ref (C 4), .ref (C 5), .ref (C 6)]) (bs := [decide (i = 4), decide (i = 5), decide (i = 6)]) rfl rfl e0 (.cons (asksC T x0 (j := 4) (by decide) (by decide)) (.cons (asksC T x0 (j := 5) (by decide) (by decide)) (.cons (asksC T x0 (j := 6) (by decide) (by decide)) .nil))) (Nat.le_of_ble_eq_true rfl) (Nat.le_of_ble_eq_true rfl) fun p1 H1 n1 e1 k1 => ?_
    replace k1 := k0.trans k1
    have x1 := x.kept k1
    refine nameI ?_
    dsimp only
    refine seqI (asgI ?_)
    refine cat_list (cs := [.ref (C 7), .ref (C 8), .ref (C 10)]) (bs := [decide (i = 7), decide (i = 8), decide (i = 10)]) rfl rfl e1 (.cons (asksC T x1 (j := 7) (by decide) (by decide)) (.cons (asksC T x1 (j := 8) (by decide) (by decide)) (.cons (asksC T x1 (j := 10) (by decide) (by decide)) .nil))) (Nat.le_of_ble_eq_true rfl) (Nat.le_of_ble_eq_true rfl) fun p2 H2 n2 e2 k2 => ?_
    replace k2 := k1.trans k2
    have x2 := x.kept k2
    refine nameI ?_
    dsimp only
    refine seqI (asgI ?_)
    refine cat_list (cs := [.ref (C 11), .ref (C 12), .ref (C 13)]) (bs := [decide (i = 11), decide (i = 12), decide (i = 13)]) rfl rfl e2 (.cons (asksC T x2 (j := 11) (by decide) (by decide)) (.cons (asksC T x2 (j := 12) (by decide) (by decide)) (.cons (asksC T x2 (j := 13) (by decide) (by decide)) .nil))) (Nat.le_of_ble_eq_true rfl) (Nat.le_of_ble_eq_true rfl) fun p3 H3 n3 e3 k3 => ?_
    replace k3 := k2.trans k3
    have x3 := x.kept k3
    refine nameI ?_
    dsimp only
    refine seqI (asgI ?_)
    refine cat_list (cs := [.ref (C 14), .ref (C 9)]) (bs := [decide (i = 14), decide (i = 9)]) rfl rfl e3 (.cons (asksC T x3 (j := 14) (by decide) (by decide)) (.cons (asksC T x3 (j := 9) (by decide) (by decide)) .nil)) (Nat.le_of_ble_eq_true rfl) (Nat.le_of_ble_eq_true rfl) fun p4 H4 n4 e4 k4 => ?_
    replace k4 := k3.trans k4
    have x4 := x.kept k4
    refine nameI ?_
    dsimp only
    refine ⟨_, rfl, p4, _, rfl, SqL.of e4, fun D hD => enum_hits (bs := ord.map fun j => decide (i = j)) e4 (Nat.le_of_ble_eq_true rfl) k4 hD fun H' h1 h2 => go D H' ?_ h2⟩
    rw [h1, hit_seat i (List.mem_range.mpr (by have := x.2.1; omega)) x.1] <;> rfl
theorem ok_base (F : FnP K "_law_base" (top 21) f fd) (T : Tab K mg C fI) (gI : mg "isinstance" = none) (gE : mg "enumerate" = none) (gValueError : mg "ValueError" = none) (gLookupError : mg "LookupError" = none) (gRuntimeError : mg "RuntimeError" = none)
    (gOverflowError : mg "OverflowError" = none) (gKeyError : mg "KeyError" = none) (gIndexError : mg "IndexError" = none) (gNotImplementedError : mg "NotImplementedError" = none) : FnOk P w K mg base CX0 1 f fd ["e"] (spBase C) := by
  refine F.ok scB (fun vs H Q E h => ?_) (fun cdv A outer s H vs Q E hr h => ⟨_, PSs.nox (
    pss_cons (ps_set (i := 1) scB.nd rfl (Or.inl rfl) (pe_lst (pa_cons (pe_callB call_ask rfl gI (by decide +kernel) (pa_cons (pv 0) (pa_cons (pe_bltn (v := .ty "ValueError") rfl gValueError (by decide +kernel) rfl) pa_nil))) (pa_cons (pe_callB call_ask rfl gI (by decide +kernel) (pa_cons (pv 0) (pa_cons (pe_bltn (v := .ty "LookupError") rfl gLookupError (by decide +kernel) rfl) pa_nil))) (pa_cons (pe_callB call_ask rfl gI (by decide +kernel) (pa_cons (pv 0) (pa_cons (pe_bltn (v := .ty "RuntimeError") rfl gRuntimeError (by decide +kernel) rfl) pa_nil))) pa_nil)))))
    (pss_cons (ps_set (i := 1) scB.nd rfl (Or.inl rfl) (pe_op op_cat (pv 1) (pe_lst (pa_cons (pe_callB call_ask rfl gI (by decide +kernel) (pa_cons (pv 0) (pa_cons (pe_bltn (v := .ty "OverflowError") rfl gOverflowError (by decide +kernel) rfl) pa_nil))) (pa_cons (pe_callB call_ask rfl gI (by decide +kernel) (pa_cons (pv 0) (pa_cons (pe_bltn (v := .ty "KeyError") rfl gKeyError (by decide +kernel) rfl) pa_nil))) (pa_cons (pe_callB call_ask rfl gI (by decide +kernel) (pa_cons (pv 0) (pa_cons (pe_bltn (v := .ty "IndexError") rfl gIndexError (by decide +kernel) rfl) pa_nil))) pa_nil))))))
    (pss_cons (ps_expr (pe_bm PySem.F.plainAttrs_list PySem.F.slot_list_append PySem.F.type_list_append mt_append (pv 1) (pa_cons (pe_callB call_ask rfl gI (by decide +kernel) (pa_cons (pv 0) (pa_cons (pe_bltn (v := .ty "NotImplementedError") rfl gNotImplementedError (by decide +kernel) rfl) pa_nil))) pa_nil)))
    (pss_one (ps_ret (pe_hits rfl rfl rfl gE rfl (fun _ => rfl) rfl)))))), ?_⟩)
  · obtain ⟨a, i, fs, ys, rfl, _⟩ := h
    rfl
  · obtain ⟨a, i, fs, ys, rfl, x, go⟩ := h
    refine seqI (asgI ?_)
    refine ask_list (cs := [.ty "ValueError", .ty "LookupError", .ty "RuntimeError"]) (bs := [(bmI i).contains (.type "ValueError"), (bmI i).contains (.type "LookupError"), (bmI i).contains (.type "RuntimeError")]) rfl (.cons (asksT T x (t := "ValueError") (by decide +kernel)) (.cons (asksT T x (t := "LookupError") (by decide +kernel)) (.cons (asksT T x (t := "RuntimeError") (by decide +kernel)) .nil))) (Nat.le_of_ble_eq_true rfl) fun p0 H0 n0 e0 k0 => ?_
    have x0 := x.kept k0
    refine nameI ?_
    dsimp only
    refine seqI (asgI ?_)
    refine cat_list (cs := [.ty "OverflowError", .ty "KeyError", .ty "IndexError"]) (bs := [(bmI i).contains (.type "OverflowError"), (bmI i).contains (.type "KeyError"), (bmI i).contains (.type "IndexError")]) rfl rfl e0 (.cons (asksT T x0 (t := "OverflowError") (by decide +kernel)) (.cons (asksT T x0 (t := "KeyError") (by decide +kernel)) (.cons (asksT T x0 (t := "IndexError") (by decide +kernel)) .nil))) (Nat.le_of_ble_eq_true rfl) (Nat.le_of_ble_eq_true rfl) fun p1 H1 n1 e1 k1 => ?_
    replace k1 := k0.trans k1
    have x1 := x.kept k1
    refine nameI ?_
    dsimp only
    refine ⟨_, rfl, .inl ⟨rfl, _, .inl (.inl e1)⟩, ?_⟩
    refine ⟨_, rfl, ?_⟩
    dsimp only [tCons, tC, tNil]
    refine asksT T x1 (t := "NotImplementedError") (by decide +kernel) H1 _ Kept.same ?_
    refine ⟨p1, _, _, rfl, rfl, e1, Nat.lt_of_lt_of_le (Nat.lt_of_succ_le (Nat.le_of_ble_eq_true rfl) : 6 < 100) (by decide), ?_⟩
    have e2 : upd H1 p1 (.lst ((baseNs.map fun t => (bmI i).contains (.type t)).map V.bl)) p1 = some (.lst ((baseNs.map fun t => (bmI i).contains (.type t)).map V.bl)) := upd_same
    have k2 : Kept H (upd H1 p1 (.lst ((baseNs.map fun t => (bmI i).contains (.type t)).map V.bl))) := fun b o e => (upd_ne (ne_of_none e (k0.none n1))).trans (k1 b o e)
    refine ⟨_, rfl, p1, _, rfl, SqL.of e2, fun D hD => enum_hits (bs := baseNs.map fun t => (bmI i).contains (.type t)) e2 (Nat.le_of_ble_eq_true rfl) k2 hD fun H' h1 h2 => go D H' ?_ h2⟩
    rw [h1, hit_base i (List.mem_range.mpr (by have := x.2.1; omega))] <;> rfl
end
end K86

/-! k86: no error is another one; what repr says of two values; defs where no repr runs around. -/
namespace K86
open PySem PySem.Spec PyProof.Rows L2 L2.NB PySem.NB NwS
abbrev badSc : Scope := { kind := .function, names := [(Str.ofString ".0", .local), (Str.ofString "e", .local), (Str.ofString "_law_which", .globalImplicit), (Str.ofString "_law_base", .globalImplicit), (Str.ofString "base", .free), (Str.ofString "seat", .free)], isGenerator := false, isCoroutine := false, more := [] }
theorem pe_bad {X : Cx} {p1 p2 p3 p4 p5 p6 p7 p8 p9 q4 q5 q6 q7 q8 q9 q10 p10 : Pos} {C : Nat → Addr} {fW fB : Addr} {fdW fdB : FuncData} (hc : X.calm = true) (hN : X.N = (["seat", "base", "made", "e"] : List Str)) (hr : Room 1 X.A)
    (l0 : X.env.scope.names.lookup ("seat" : Str) = some NameKind.cell) (l1 : X.env.scope.names.lookup ("base" : Str) = some NameKind.cell) (l2 : X.env.scope.names.lookup ("made" : Str) = some NameKind.local)
    (GW : FnOk X.prog X.w X.K X.mg X.base CX0 1 fW fdW ["e"] (spWhich C)) (GB : FnOk X.prog X.w X.K X.mg X.base CX0 1 fB fdB ["e"] (spBase C)) (gW : X.mg "_law_which" = some (.ref fW)) (gB : X.mg "_law_base" = some (.ref fB))
    (kW : PySem.W.keepIn X.K (.ref fW) = true) (kB : PySem.W.keepIn X.K (.ref fB) = true) (bW : Binds X.K fdW ["e"] []) (bB : Binds X.K fdB ["e"] []) (v0 : ∀ cl C, Vis (compEnvC badSc cl C X.env).scope ("seat" : Str)) (v1 : ∀ cl C, Vis (compEnvC badSc cl C X.env).scope ("base" : Str))
    (hs : ∀ x, foldedSetIterable (.Name "made" p3) X.env x = pure x) :
    PE X (.ListComp (.Name "e" p1) [⟨.Name "e" p2, .Name "made" p3, [.BoolOp .Or [.Compare (.Call (.Name "_law_which" p4) [.Name "e" p5] [] p6) [.NotEq] [.List [.Name "seat" p7] p8] p9,
        .Compare (.Call (.Name "_law_base" q4) [.Name "e" q5] [] q6) [.NotEq] [.List [.Name "base" q7] q8] q9] q10], 0⟩]
      badSc p10)
      (tLc (iList X.K (tVar 2)) (gName 3) (tOr (tTest (tOp (rNeD X.K) (tCall (spWhich C) [] E0 (tCons (tVar 3) tNil)) (tLst (tCons (tVar 0) tNil)))) (tTest (tOp (rNeD X.K) (tCall (spBase C) [] E0 (tCons (tVar 3) tNil)) (tLst (tCons (tVar 1) tNil))))) (tVar 3) [3]) := by
  have nd : X.N.Nodup := by rw [hN]; decide +kernel
  have n0 : X.N[0]? = some ("seat" : Str) := by rw [hN]; rfl
  have n1 : X.N[1]? = some ("base" : Str) := by rw [hN]; rfl
  have n2 : X.N[2]? = some ("made" : Str) := by rw [hN]; rfl
  have n3 : X.N[3]? = some ("e" : Str) := by rw [hN]; rfl
  refine pe_lc (own := [("e", 3)]) hc nd (pi_list (pv 2 n2 (.inl l2))) ?_ ?_ ?_ ?_ hs
  · refine ⟨rfl, by decide +kernel, by rw [hN]; decide +kernel, fun y hy e => ?_, by rw [hN]; decide +kernel⟩
    have z : ∀ y ∈ ([(Str.ofString ".0", .local), (Str.ofString "e", .local), (Str.ofString "_law_which", .globalImplicit), (Str.ofString "_law_base", .globalImplicit), (Str.ofString "base", .free), (Str.ofString "seat", .free)] : List (Str × NameKind)), y.2 = .free →
      y.1 = ("base" : Str) ∨ y.1 = ("seat" : Str) := by decide +kernel
    rcases z y hy e with z | z
    · exact .inl (by rw [z]; exact l1)
    · exact .inl (by rw [z]; exact l0)
  · intro s H C cl fp
    exact pg_name (i := 3) nd n3 (Or.inl rfl)
  · intro s H C cl fp
    refine pts_one (PW.pt (pw_or (pt_cmpR (op_neD hr.units) ?_ ?_ (nomark _)) (pw_or1 (pt_cmpR (op_neD hr.units) ?_ ?_ (nomark _)))))
    · exact pe_call GW hr rfl gW kW bW .nil pass0 (pa_cons (pv 3 n3 (Or.inl rfl)) pa_nil)
    · exact pe_lst (pa_cons (pv 0 n0 (v0 _ _)) pa_nil)
    · exact pe_call GB hr rfl gB kB bB .nil pass0 (pa_cons (pv 3 n3 (Or.inl rfl)) pa_nil)
    · exact pe_lst (pa_cons (pv 1 n1 (v1 _ _)) pa_nil)
  · intro s H C cl fp
    exact pv 3 n3 (Or.inl rfl)
/-- no error of made is another one than the one told -/
def spRight (C : Nat → Addr) : Sp := fun vs H Q _ => ∃ (i b : Int) (l : Addr) (xs : List V), vs = [.int i, .int b, .ref l] ∧ H l = some (.lst xs) ∧ (∀ v ∈ xs, ∃ (a : Addr) (n : Nat) (fs : List Str) (ys : List V), v = .ref a ∧ Ex C H a n fs ys ∧ seatOf n = i ∧ baseOf n = b) ∧ ∀ H', Kept H H' → Q (.bl true) H'
theorem scR : FnScope ["seat", "base", "made", "e"] ["seat", "base", "made"] (defScope (top 22)) := ⟨rfl, rfl, rfl, by decide +kernel, rfl, by decide +kernel, by decide +kernel⟩
section
variable {P : Program} {w : World} {K : PySem.W.Frag} {mg : Str → Option Value} {base : Heap} {f : Addr} {fd : FuncData} {C fI : Nat → Addr}
theorem one_ne (z : Int) : (!PyData.eqv (.list (([z] : List Int).map PyData.int)) (.list (([z] : List Int).map PyData.int))) = false := by
  rw [eqv_ints]
  simp
theorem ok_right {fW fB : Addr} {fdW fdB : FuncData} (F : FnP K "_law_right" (top 22) f fd) (FW : FnP K "_law_which" (top 20) fW fdW) (FB : FnP K "_law_base" (top 21) fB fdB) (GW : FnOk P w K mg base CX0 1 fW fdW ["e"] (spWhich C)) (GB : FnOk P w K mg base CX0 1 fB fdB ["e"] (spBase C))
    (gW : mg "_law_which" = some (.ref fW)) (gB : mg "_law_base" = some (.ref fB)) : FnOk P w K mg base CX0 2 f fd ["seat", "base", "made"] (spRight C) := by
  have bW : Binds K fdW ["e"] [] := FW.bindsN fun _ _ _ _ _ _ us hl => match us, hl with | [_], _ => rfl
  have bB : Binds K fdB ["e"] [] := FB.bindsN fun _ _ _ _ _ _ us hl => match us, hl with | [_], _ => rfl
  refine F.ok scR (fun vs H Q E h => ?_) (fun cdv A outer s H vs Q E hr h => ⟨_, PSs.nox (
    pss_one (ps_ret (pe_cmpR (op_eqD hr.units) (pe_bad rfl rfl hr (by kernel_rfl) (by kernel_rfl) (by kernel_rfl) GW GB gW gB FW.kp FB.kp bW bB (fun _ _ => Or.inr (Or.inl (by kernel_rfl))) (fun _ _ => Or.inr (Or.inl (by kernel_rfl))) (fun _ => rfl)) (pe_lst pa_nil) (nomark _)))), ?_⟩)
  · obtain ⟨i, b, l, xs, rfl, _⟩ := h
    rfl
  · obtain ⟨i, b, l, xs, rfl, hl, all, go⟩ := h
    refine ⟨_, rfl, l, rfl, ⟨_, SqL.of hl⟩, fun D hD => ?_⟩
    have lD : l ≠ D := ne_of_none hl hD
    refine lc_list (K := K) (a := l) (xs := xs) (fun n H' => H' D = some (.lst []) ∧ ∀ c o, c ≠ D → H c = some o → H' c = some o) ⟨upd_same, fun c o nc e => (upd_ne nc).trans e⟩ (fun n H' _ q => SqL.of (q.2 l _ lD hl)) ?_ ?_
    · rintro n x H' hx ⟨h1, h2⟩
      obtain ⟨a, m, fs, ys, rfl, ex, rfl, rfl⟩ := all x (List.mem_of_getElem? hx)
      have hk : Kept H H' := fun c o e => h2 c o (ne_of_none e hD) e
      refine ⟨rfl, _, rfl, a, m, fs, ys, rfl, ex.kept hk, fun q1 H1 e1 k1 => ⟨_, rfl, (by decide : 1 ≤ sizeLine), fun q2 hq2 => ?_⟩⟩
      have k2 : Kept H' (upd H1 q2 (.lst [.int (seatOf m)])) := k1.new hq2
      refine ⟨_, _, dp_ints (ns := [seatOf m]) (SqL.of ((upd_ne (ne_of_none e1 hq2)).trans e1)), dp_ints (ns := [seatOf m]) (SqL.of upd_same), PySem.W.ke_shaped_ints _, PySem.W.ke_shaped_ints _, _, rfl, no (one_ne _) ?_⟩
      refine ⟨_, rfl, a, m, fs, ys, rfl, ex.kept (hk.trans k2), fun q3 H3 e3 k3 => ⟨_, rfl, (by decide : 1 ≤ sizeLine), fun q4 hq4 => ?_⟩⟩
      have k4 : Kept H' (upd H3 q4 (.lst [.int (baseOf m)])) := k2.trans (k3.new hq4)
      refine ⟨_, _, dp_ints (ns := [baseOf m]) (SqL.of ((upd_ne (ne_of_none e3 hq4)).trans e3)), dp_ints (ns := [baseOf m]) (SqL.of upd_same), PySem.W.ke_shaped_ints _, PySem.W.ke_shaped_ints _, _, rfl, ?_⟩
      rw [one_ne]
      refine no rfl ⟨k4 D _ h1, fun c o nc e => k4 c o (h2 c o nc e)⟩
    · rintro H' ⟨h1, h2⟩
      have hk : Kept H H' := fun c o e => h2 c o (ne_of_none e hD) e
      refine ⟨by decide, fun p hp => ⟨_, _, dp_ints (ns := []) (SqL.of ((upd_ne (ne_of_none h1 hp)).trans h1)), dp_ints (ns := []) (SqL.of upd_same), PySem.W.ke_shaped_ints [], PySem.W.ke_shaped_ints [], go _ (hk.new hp)⟩⟩
end

/-! ### repr -/
/-- a value reads as d, in every state -/
def Rds (X : Cx) (H : Hp) (v : V) (d : PyData) : Prop := ∀ (pins : List (Addr × Obj)) (σ : L2.St) (s : Shared) (u : Value), Inv X pins σ H s → RelV v u → ∃ as, Reads s.heap u d as ∧ sysModules ∉ as
inductive Sc : V → PyData → Prop
  | non : Sc .non .none
  | bl (b : Bool) : Sc (.bl b) (.bool b)
  | int (i : Int) : Sc (.int i) (.int i)
  | str (x : Str) : Sc (.str x) (.str x)
theorem Sc.reads {h : Heap} {v : V} {d : PyData} {u : Value} (c : Sc v d) (r : RelV v u) : Reads h u d [] := by
  cases c with
  | non =>
    cases r
    exact .none
  | bl b =>
    cases r
    exact .bool b
  | int i =>
    obtain ⟨t, rfl⟩ := r
    exact .int i t
  | str x =>
    obtain ⟨t, rfl⟩ := r
    exact .str x t
theorem sc_all {h : Heap} : ∀ {vs : List V} {ds : List PyData} {us : List Value}, Paired Sc vs ds → Vals vs us → ReadsAll h us ds []
  | _, _, _, .nil, r => by
    cases r
    exact .nil
  | _, _, _, .cons c cs, r => by
    cases r with
    | cons r rs => exact .cons (c.reads r) (sc_all cs rs)
theorem rds_sc {X : Cx} {H : Hp} {v : V} {d : PyData} (c : Sc v d) : Rds X H v d := fun _ _ _ _ _ r => ⟨[], c.reads r, by simp⟩
theorem rds_tup {X : Cx} {H : Hp} {a : Addr} {vs : List V} {ds : List PyData} (h : H a = some (.tup vs)) (c : Paired Sc vs ds) : Rds X H (.ref a) (.tuple ds) := fun pins σ s u I r => by
  obtain rfl : u = Value.ref a := r
  obtain ⟨its, rv, ⟨o, ho, hc, n, hd⟩, _⟩ := I.tuple (SqT.of (K := X.K) h)
  exact ⟨[], Reads.tuple ho hc hd (sc_all c rv), by simp⟩
theorem not_sys {K : PySem.W.Frag} {h : Heap} {a : Addr} {o : Obj} (hS : ∃ o, K.lookup sysModules = some o ∧ o.cls = .type "dict") (X : K.In h) (ho : h.get? a = some o) (hc : o.cls = .type "list") : a ≠ sysModules := fun e => by
  obtain ⟨om, lm, cm⟩ := hS
  have z := X _ _ lm
  rw [← e, ho] at z
  cases z
  rw [hc] at cm
  simp at cm
theorem rds_list0 {X : Cx} {H : Hp} {a : Addr} (hS : ∃ o, X.K.lookup sysModules = some o ∧ o.cls = .type "dict") (h : H a = some (.lst [])) : Rds X H (.ref a) (.list []) := fun pins σ s u I r => by
  obtain rfl : u = Value.ref a := r
  obtain ⟨its, rv, ⟨o, n, ho, hc, _, hd⟩, _⟩ := I.list (SqL.of (K := X.K) h)
  cases rv
  refine ⟨[a], Reads.list ho hc hd .nil, fun hm => not_sys hS I.kIn ho hc (List.mem_singleton.mp hm).symm⟩
theorem rds_dict {X : Cx} {H : Hp} {a : Addr} (h : H a = some (.dK [])) : Rds X H (.ref a) (.dict []) := fun pins σ s u I r => by
  obtain rfl : u = Value.ref a := r
  obtain ⟨_, na, vs, kv, di⟩ := (show ObjOk X.prog X.w H s.heap a (.dK []) from I.hok a _ h)
  cases kv
  obtain ⟨o, es, ep, ho, ⟨hc, _⟩, hd, _, pr, _⟩ := di
  have e0 : es.toList = [] := by
    generalize es.toList = l at pr
    cases pr
    rfl
  refine ⟨_, Reads.dict ho hc hd (kvs := []) (by rw [e0]; exact ReadsAll.nil) (by rw [e0]; exact ReadsAll.nil), fun hm => ?_⟩
  have hm' : sysModules ∈ [a] := by simpa using hm
  have z := List.mem_singleton.mp hm'
  rw [z] at na
  simp at na
/-- repr([x, y]) -/
def rRep2 (X : Cx) : List V → Hp → VK → Prop := fun vs H Q => ∃ (a : Addr) (x y : V) (d1 d2 : PyData), vs = [.ref a] ∧ H a = some (.lst [x, y]) ∧ Rds X H x d1 ∧ Rds X H y d2 ∧ (d1.showable && d2.showable) = true ∧ d1.depth ≤ 30 ∧ d2.depth ≤ 30 ∧ (PyData.list [d1, d2]).shown.length ≤ sizeLine ∧ Q (.str (PyData.list [d1, d2]).shown) H
theorem call_rep2 {X : Cx} (hS : ∃ o, X.K.lookup sysModules = some o ∧ o.cls = .type "dict") (hg : X.A.guards = some []) (hu : X.A.units + 64 < cLine) : CallR X (.builtin "repr") (rRep2 X) := by
  intro pins s σ H xs us Q I r h
  obtain ⟨a, x, y, d1, d2, rfl, ha, r1, r2, sh, dp1, dp2, few, q⟩ := h
  cases r with
  | cons ra rr =>
    cases rr
    rename_i u
    obtain rfl : u = Value.ref a := ra
    obtain ⟨its, rv, ⟨o, n, ho, hc, _, hd⟩, _⟩ := I.list (SqL.of (K := X.K) ha)
    cases rv with
    | cons v1 rv =>
      cases rv with
      | cons v2 rv =>
        cases rv
        obtain ⟨as1, q1, m1⟩ := r1 pins σ s _ I v1
        obtain ⟨as2, q2, m2⟩ := r2 pins σ s _ I v2
        have na := not_sys hS I.kIn ho hc
        refine repr_of_reads' (h₀ := s.heap) (d := .list [d1, d2]) (Reads.list ho hc hd (.cons q1 (.cons q2 .nil))) ?_ (fun hh hm => ?_) hg ?_ (fun _ _ e => e) (fun h' u tk k => ⟨.str _, H, I.kept (t' := tk) k, ⟨u, rfl⟩, q⟩) few
        · have sh' := Bool.and_eq_true_iff.mp sh
          simp [PyData.showable, PyData.showableAll, sh'.1, sh'.2]
        · rw [List.append_nil, List.mem_cons, List.mem_append] at hm
          rcases hm with e | e | e
          · exact na e.symm
          · exact m1 e
          · exact m2 e
        · simp only [PyData.depth, PyData.depthAll]
          omega
end K86

/-! k86: the errors that take something. Printed by gen86h.py from K86h.tpl. -/
namespace K86
open PySem PySem.Spec PyProof.Rows L2 L2.NB PySem.NB NwS
structure FnG (P : Program) (w : World) (K : PySem.W.Frag) (mg : Str → Option Value) (base : Heap) (k : Nat) (f : Addr) (fd : FuncData) (ps : List Str) (sp : Sp) : Prop where
  len : ∀ vs H Q, sp vs H Q E0 → vs.length = ps.length
  run : ∀ (A : Around) (outer : List Env) (s : Shared) (H : Hp) (args : Args) (us : List Value) (vs : List V) (Q : VK), Room k A → A.guards = some [] → Env0 P w K mg base A outer s H →
    BindsTo s fd args (ps.zip us) → Vals vs us → sp vs H Q E0 → codeAny (model P w) A (.call (.ref f) args) (CR CX0 outer P w H s Q E0) s
theorem fnG_of {P : Program} {w : World} {K : PySem.W.Frag} {mg : Str → Option Value} {base : Heap} {k : Nat} {f : Addr} {x qual : Str} {params : Arguments} {body : List Stmt} {scope : Scope} {fd : FuncData} {N ps : List Str} {sp : Sp} (F : FunD K x qual params body scope [] [] f fd) (S : FnScope N ps scope)
    (len : ∀ vs H Q, sp vs H Q E0 → vs.length = ps.length)
    (hbody : ∀ (cdv : Value) (A : Around) (outer : List Env) (s : Shared) (H : Hp) (vs : List V) (Q : VK), Room k (A.deeper (envOfC qual scope s.heap.objs.size f cdv)) → (A.deeper (envOfC qual scope s.heap.objs.size f cdv)).guards = some [] → sp vs H Q E0 →
      ∃ t, PSs (cxOf CX0 P w K mg base N qual scope f cdv A outer s H E0).nox body t ∧ t { nx := fun _ H' => Q .non H', rt := Q } (start N vs) H) :
    FnG P w K mg base (k + 1) f fd ps sp := by
  obtain ⟨oc, od, dV, kV, doc, pm, an, cdv, ct, osl, rfl, lk, hcd, hD, hK⟩ := F.ex
  refine ⟨len, fun A outer s H args us vs Q hr hgd e0 hb r hsp => ?_⟩
  have hvl := len _ _ _ hsp
  have inK : K.In s.heap := e0.mod.kin.keeps fun b o e => (e0.bs b o e).1
  have nolim : s.heap.NoLimit := e0.mod.nolimit.keeps fun b o e => (e0.bs b o e).1
  have kinds : ∀ y ∈ ps.zip us, scope.names.lookup y.1 = some .local ∨ (scope.names.lookup y.1 = some .cell ∧ ((cellsFrom (s.heap.objs.size + 1) scope.names []).lookup y.1).isSome = true) := by
    intro ⟨n, v⟩ hy
    rcases S.par n (List.of_mem_zip hy).1 with q | q
    · exact Or.inl q
    · exact Or.inr ⟨q, PySem.W.cellsFrom_some _ _ _ (.inl q)⟩
  refine codeAny_call_function hr.depth (inK _ _ lk) rfl S.co S.gen rfl (PySem.W.codeRec_of inK hcd) (hb _ _ _ _ ?_)
  refine wpAny_newFunctionEnv_cells S.kind kinds fun env he s1 hx => ?_
  subst he
  refine ⟨nolim.keeps hx.toInCall.keep, codeAny_func ?_⟩
  have gd : (A.deeper (envOfC qual scope s.heap.objs.size f cdv)).guards = some [] := hgd
  obtain ⟨t, ht, hq⟩ := hbody cdv A outer s H vs Q (hr.deeper _) gd hsp
  have I : Inv (cxOf CX0 P w K mg base N qual scope f cdv A outer s H E0) [] (start N vs) H s1 := inv_start S hr.hd e0 hvl r hx
  refine wpAny_mono (ht.nox.run [] s1 (start N vs) H _ I hq) (fun fl s' hs => ?_) fun e s' hs => hs
  have done : ∀ {σ' : L2.St} {H' : Hp} {v : V} {u : Value}, Inv (cxOf CX0 P w K mg base N qual scope f cdv A outer s H E0) [] σ' H' s' → RelV v u → Q v H' → L2.CE outer P w H s Q u s' :=
    fun {σ' H' v u} J rv q => ⟨v, H', J.os, J.bare, J.base, J.hok, rv, q⟩
  cases fl with
  | next =>
    obtain ⟨σ', H', J, q⟩ := hs
    exact done (v := V.non) (u := Value.none) J rfl q
  | ret u =>
    obtain ⟨v, σ', H', J, rv, q⟩ := hs
    exact done J rv q
  | brk =>
    obtain ⟨_, _, _, q⟩ := hs
    exact q.elim
  | cont =>
    obtain ⟨_, _, _, q⟩ := hs
    exact q.elim
/-- a call of such a def -/
theorem pe_callG {X : Cx} {x : Str} {k : Nat} {f : Addr} {fd : FuncData} {ps : List Str} {sp : Sp} {e : Expr} {es : List Expr} {t : TA} {p pos : Pos} (F : FnG X.prog X.w X.K X.mg X.base k f fd ps sp) (hr : Room k X.A) (hgd : X.A.guards = some []) (hg : Gl X x) (hm : X.mg x = some (.ref f))
    (hk : PySem.W.keepIn X.K (.ref f) = true) (hb : Binds X.K fd ps []) (ha : PA X (e :: es) t) (hdb : (x == ("__debug__" : Str)) = false := by decide) (he : starEach (e :: es) X.env = (false, eval e X.env) :: starEach es X.env := by rfl) (hpl : (backTo pos (starEach es X.env)).any (·.1) = false := by rfl) :
    PE X (.Call (.Name x p) (e :: es) [] pos) (fun σ H Q => t σ H fun vs H1 => sp vs H1 Q E0) := by
  refine ⟨fun pins s σ H Q I h => ?_⟩
  refine wpAny_Call_Name_kw (ld_glob I hg hm ?_ hdb)
  refine PySem.W.callWith_K (h₀ := X.base) I.ok.mod.kin hk (thn (ha.run pos pins s σ H _ I h) fun us s1 ⟨vs, H1, I1, r, q⟩ => ⟨I1.kIn, ?_⟩) he hpl
  have hl : (us ++ []).length = ps.length := by rw [List.append_nil, ← r.length]; exact F.len _ _ _ q
  have hbt := hb s1 us I1.kIn hl
  rw [List.append_nil] at hbt
  refine wpAny_call (codeAny_mono (F.run X.A X.stack s1 H1 ⟨us, []⟩ us vs Q hr hgd I1.env0 hbt r q) fun r s' hq => ?_)
  cases r with
  | error e => exact hq.elim
  | ok fl =>
    cases fl with
    | ret u => exact I1.after hq
    | next => exact False.elim hq
    | brk => exact False.elim hq
    | cont => exact False.elim hq
/-! ### what is told by repr -/
theorem two_fit : 2 ≤ sizeLine := by decide
structure Fine (d : PyData) : Prop where
  sh : d.showable = true
  dp : d.depth ≤ 20
  len : d.shown.length ≤ 1000
theorem fine_int {i : Int} (h0 : 0 ≤ i) (h1 : i < 10 ^ 60) : Fine (.int i) := by
  refine ⟨?_, by simp [PyData.depth], ?_⟩
  · have z : i.natAbs < 2 ^ 200 := by
      have e : (10 : Int) ^ 60 < 2 ^ 200 := by decide
      omega
    have y := PySem.Flt.log2_lt_of (by decide : 0 < 200) z
    simp only [PyData.showable, decide_eq_true_eq]
    omega
  · exact Nat.le_trans (toString_length_le h0 (by decide : 0 < 60) h1) (by decide)
section
variable {X : Cx} {H0 : Hp}
/-- the value v reads as d from H0 on -/
def Kd (X : Cx) (H0 : Hp) (v : V) (d : PyData) : Prop := ∀ H, Kept H0 H → Rds X H v d
theorem Kd.later {H1 : Hp} {v : V} {d : PyData} (k : Kd X H0 v d) (l : Kept H0 H1) : Kd X H1 v d := fun H h => k H (l.trans h)
theorem kd_sc {v : V} {d : PyData} (c : Sc v d) : Kd X H0 v d := fun _ _ => rds_sc c
theorem kd_tup {a : Addr} {vs : List V} {ds : List PyData} (h : H0 a = some (.tup vs)) (c : Paired Sc vs ds) : Kd X H0 (.ref a) (.tuple ds) := fun _ k => rds_tup (k _ _ h) c
theorem kd_list0 {a : Addr} (hS : ∃ o, X.K.lookup sysModules = some o ∧ o.cls = .type "dict") (h : H0 a = some (.lst [])) : Kd X H0 (.ref a) (.list []) := fun _ k => rds_list0 hS (k _ _ h)
theorem kd_dict {a : Addr} (h : H0 a = some (.dK [])) : Kd X H0 (.ref a) (.dict []) := fun _ k => rds_dict (k _ _ h)
/-- te gives a value that reads as d -/
def Giv (X : Cx) (H0 : Hp) (σ : L2.St) (te : TE) (d : PyData) : Prop := ∀ (H : Hp) (Q : VK), Kept H0 H → (∀ v H', Kept H H' → Kd X H' v d → Q v H') → te σ H Q
theorem giv_var {σ : L2.St} {i : Nat} {v : V} {d : PyData} (h : σ[i]? = some (some v)) (k : Kd X H0 v d) : Giv X H0 σ (tVar i) d := fun H Q l q => ⟨v, h, q v H Kept.same (k.later l)⟩
theorem giv_c {σ : L2.St} {v : V} {d : PyData} (c : Sc v d) : Giv X H0 σ (tC v) d := fun H Q l q => q v H Kept.same (kd_sc c)
theorem giv_neg {σ : L2.St} {i : Int} : Giv X H0 σ (tUn (rU fun i => .int (-i)) (tC (.int i))) (.int (-i)) := fun H Q l q => ⟨i, rfl, q _ H Kept.same (kd_sc (.int _))⟩
theorem giv_tup2 {σ : L2.St} {v1 v2 : V} {d1 d2 : PyData} (c1 : Sc v1 d1) (c2 : Sc v2 d2) : Giv X H0 σ (tTup (tCons (tC v1) (tCons (tC v2) tNil))) (.tuple [d1, d2]) := fun H Q l q => ⟨two_fit, fun p hp => q _ _ (Kept.same.new hp) (kd_tup upd_same (.cons c1 (.cons c2 .nil)))⟩
theorem giv_tup0 {σ : L2.St} : Giv X H0 σ (tTup tNil) (.tuple []) := fun H Q l q => ⟨by decide, fun p hp => q _ _ (Kept.same.new hp) (kd_tup upd_same .nil)⟩
theorem giv_fel {σ : L2.St} {j : Nat} {a C dx : Addr} {f : Str} {fs : List (Str × V)} {v : V} {d : PyData} (h : σ[j]? = some (some (.ref a))) (xc : ExcC X.K C) (ha : H0 a = some (exo a C (some dx))) (hd : H0 dx = some (exd dx fs)) (no : PySem.W.findIn X.K (.ref C) f = some none)
    (hl : fs.lookup f = some v) (k : Kd X H0 v d) : Giv X H0 σ (tFel X.K f (tVar j)) d := fun H Q l q => ⟨_, h, a, C, dx, fs, v, rfl, xc, l _ _ ha, l _ _ hd, no, hl, q v H Kept.same (k.later l)⟩
theorem HasD.get {fs : List Str} {ys : List V} {d : Option Addr} {H : Hp} (h : HasD fs ys d H) (ne : fs ≠ []) : ∃ dx, d = some dx ∧ H dx = some (exd dx (fs.zip ys).reverse) := h.elim (fun z => absurd z.1 ne) fun z => z
theorem giv_ex {mg : Str → Option Value} {C fI : Nat → Addr} (T : Tab X.K mg C fI) {σ : L2.St} {j : Nat} {a : Addr} {n : Nat} {f : Str} {fs : List Str} {ys : List V} {v : V} {d : PyData} (h : σ[j]? = some (some (.ref a))) (x : Ex C H0 a n fs ys) (ne : fs ≠ []) (no : PySem.W.findIn X.K (.ref (C n)) f = some none)
    (hl : (fs.zip ys).reverse.lookup f = some v) (k : Kd X H0 v d) : Giv X H0 σ (tFel X.K f (tVar j)) d := by
  obtain ⟨n1, n2, dd, e, hd⟩ := x
  obtain ⟨dx, rfl, hx⟩ := hd.get ne
  exact giv_fel h (T.oe n n1 n2).xc e hx no hl k
/-- what a thing is -/
inductive Th (H : Hp) : V → PyData → Prop
  | sc {v : V} {d : PyData} : Sc v d → Th H v d
  | tup {a : Addr} {vs : List V} {ds : List PyData} : H a = some (.tup vs) → Paired Sc vs ds → Th H (.ref a) (.tuple ds)
  | lst {a : Addr} : H a = some (.lst []) → Th H (.ref a) (.list [])
  | dct {a : Addr} : H a = some (.dK []) → Th H (.ref a) (.dict [])
theorem Th.kd {v : V} {d : PyData} (hS : ∃ o, X.K.lookup sysModules = some o ∧ o.cls = .type "dict") (t : Th H0 v d) : Kd X H0 v d := by
  cases t with
  | sc c => exact kd_sc c
  | tup h c => exact kd_tup h c
  | lst h => exact kd_list0 hS h
  | dct h => exact kd_dict h
theorem Th.kept {H H' : Hp} {v : V} {d : PyData} (t : Th H v d) (k : Kept H H') : Th H' v d := by
  cases t with
  | sc c => exact .sc c
  | tup h c => exact .tup (k _ _ h) c
  | lst h => exact .lst (k _ _ h)
  | dct h => exact .dct (k _ _ h)
/-- repr([e, e']) -/
theorem rep_pair {σ : L2.St} {t1 t2 : TE} {d1 d2 : PyData} {H : Hp} {Q : VK} (g1 : Giv X H0 σ t1 d1) (g2 : Giv X H0 σ t2 d2) (f1 : Fine d1) (f2 : Fine d2) (l : Kept H0 H) (q : ∀ H', Kept H H' → Q (.str (PyData.list [d1, d2]).shown) H') :
    tCB (rRep2 X) (tCons (tLst (tCons t1 (tCons t2 tNil))) tNil) σ H Q := by
  refine g1 H _ l fun v1 H1 k1 e1 => g2 H1 _ (l.trans k1) fun v2 H2 k2 e2 => ⟨two_fit, fun p hp => ?_⟩
  have k3 : Kept H2 (upd H2 p (.lst [v1, v2])) := Kept.same.new hp
  refine ⟨p, v1, v2, d1, d2, rfl, upd_same, e1 _ (k2.trans k3), e2 _ k3, by rw [f1.sh, f2.sh] <;> rfl, by have := f1.dp; omega, by have := f2.dp; omega, ?_, q _ (k1.trans (k2.trans k3))⟩
  have z := listText_len_le [d1.shown, d2.shown]
  have y : (PyData.list [d1, d2]).shown = listText [d1.shown, d2.shown] := by simp only [PyData.shown, PyData.shownAll]
  rw [y]
  have l1 := f1.len
  have l2 := f2.len
  simp only [List.map_cons, List.map_nil, List.sum_cons, List.sum_nil, List.length_cons, List.length_nil] at z
  have s : 3000 ≤ sizeLine := by decide
  omega
/-- repr([e, e']) == repr([g, g']), both of the same data -/
theorem rep_eq {σ : L2.St} {t1 t2 t3 t4 : TE} {d1 d2 : PyData} {H : Hp} {Q : VK} (g1 : Giv X H0 σ t1 d1) (g2 : Giv X H0 σ t2 d2) (g3 : Giv X H0 σ t3 d1) (g4 : Giv X H0 σ t4 d2) (f1 : Fine d1) (f2 : Fine d2) (l : Kept H0 H) (q : ∀ H', Kept H H' → Q (.bl true) H') :
    tOp rEq (tCB (rRep2 X) (tCons (tLst (tCons t1 (tCons t2 tNil))) tNil)) (tCB (rRep2 X) (tCons (tLst (tCons t3 (tCons t4 tNil))) tNil)) σ H Q := by
  refine rep_pair g1 g2 f1 f2 l fun H1 k1 => rep_pair g3 g4 f1 f2 (l.trans k1) fun H2 k2 => ⟨rfl, ?_⟩
  rw [decide_eq_true rfl]
  exact q H2 (k1.trans k2)
/-- _law_right(i, b, [x, y]) -/
theorem right_ok {C : Nat → Addr} {σ : L2.St} {ia ib : Nat} {a b : Addr} {n : Nat} {i bs : Int} {fs gs : List Str} {ys zs : List V} {H : Hp} {Q : VK} (ha : σ[ia]? = some (some (.ref a))) (hb : σ[ib]? = some (some (.ref b))) (xa : Ex C H a n fs ys) (xb : Ex C H b n gs zs)
    (e1 : seatOf n = i) (e2 : baseOf n = bs) (q : ∀ H', Kept H H' → Q (.bl true) H') : tCall (spRight C) [] E0 (tCons (tC (.int i)) (tCons (tC (.int bs)) (tCons (tLst (tCons (tVar ia) (tCons (tVar ib) tNil))) tNil))) σ H Q := by
  refine ⟨_, ha, _, hb, two_fit, fun p hp => ⟨i, bs, p, _, rfl, upd_same, ?_, fun H' k => q H' ((Kept.same.new hp).trans k)⟩⟩
  have k : Kept H (upd H p (.lst [.ref a, .ref b])) := Kept.same.new hp
  intro v hv
  rcases List.mem_cons.mp hv with e | hv
  · exact ⟨a, n, fs, ys, e, xa.kept k, e1, e2⟩
  · exact ⟨b, n, gs, zs, List.mem_singleton.mp hv, xb.kept k, e1, e2⟩
end
/-- a new error of the n-th class, its fields ys -/
theorem made {K : PySem.W.Frag} {mg : Str → Option Value} {C fI : Nat → Addr} (T : Tab K mg C fI) {n : Nat} {bm : List Value} {nid : String} {fs : List Str} {ys : List V} {H : Hp} {Q : VK} (h1 : 1 ≤ n) (h2 : n ≤ 14) (eb : bmI n = bm) (en : nidI n = nid) (no : ∀ f ∈ fs, PySem.W.findIn K (.ref (C n)) f = some none) (hl : ys.length = fs.length) (few : fs.length ≤ 5)
    (q : ∀ a H' d, H' a = some (exo a (C n) d) → HasD fs ys d H' → Kept H H' → Q (.ref a) H') : rMk (C n) (spI K bm nid fs) ys H Q := by
  subst eb en
  exact mk_by (T.oe n h1 h2) no hl few q
theorem madeK {K : PySem.W.Frag} {mg : Str → Option Value} {C fI : Nat → Addr} (T : Tab K mg C fI) {n : Nat} {bm : List Value} {nid : String} {fs : List Str} {ys zs : List V} {gV : List V → List V → List V} {H : Hp} {Q : VK} (hg : ∀ a, gV [.ref a] zs = .ref a :: ys) (h1 : 1 ≤ n) (h2 : n ≤ 14) (eb : bmI n = bm) (en : nidI n = nid)
    (no : ∀ f ∈ fs, PySem.W.findIn K (.ref (C n)) f = some none) (hl : ys.length = fs.length) (few : fs.length ≤ 5) (q : ∀ a H' d, H' a = some (exo a (C n) d) → HasD fs ys d H' → Kept H H' → Q (.ref a) H') : rMkK (C n) (spI K bm nid fs) gV zs H Q := by
  have m := made T h1 h2 eb en no hl few q
  unfold rMk at m
  unfold rMkK
  intro a ha
  rw [hg]
  exact m.2 a ha
theorem nxI {Q : L2.St → Hp → Prop} {σ σ' : L2.St} {H : Hp} (e : σ = σ') (h : Q σ' H) : Q σ H := by
  rw [e]
  exact h
theorem nameS {i : Nat} {v : V} {σ σ' : L2.St} {H : Hp} {Q : L2.St → Hp → Prop} (e : σ.set i (some v) = σ') (h : Q σ' H) : gName i v σ H Q := by
  show Q (σ.set i (some v)) H
  rw [e]
  exact h
def flds : List (Nat × Str) := [(1, "index"), (2, "index"), (3, "index"), (4, "index"), (6, "line"), (7, "value"), (10, "index"), (10, "reason"), (11, "waited"), (14, "limit")]
/-- what the top has written -/
structure Env (K : PySem.W.Frag) (mg : Str → Option Value) (C fI : Nat → Addr) : Prop where
  T : Tab K mg C fI
  no : ∀ p ∈ flds, PySem.W.findIn K (.ref (C p.1)) p.2 = some none
  hS : ∃ o, K.lookup sysModules = some o ∧ o.cls = .type "dict"
  i1 : ∃ fd, FunD K "__init__" "InvalidTable.__init__" (defArgs (mth 1)) (defBody (mth 1)) (defScope (mth 1)) [] [] (fI 1) fd
  i2 : ∃ fd, FunD K "__init__" "InvalidWaits.__init__" (defArgs (mth 2)) (defBody (mth 2)) (defScope (mth 2)) [] [] (fI 2) fd
  i3 : ∃ fd, FunD K "__init__" "InvalidOptions.__init__" (defArgs (mth 3)) (defBody (mth 3)) (defScope (mth 3)) [] [] (fI 3) fd
  i4 : ∃ fd, FunD K "__init__" "InvalidLinks.__init__" (defArgs (mth 4)) (defBody (mth 4)) (defScope (mth 4)) [] [] (fI 4) fd
  i5 : ∃ fd, FunD K "__init__" "InvalidClaim.__init__" (defArgs (mth 5)) (defBody (mth 5)) (defScope (mth 5)) [] [] (fI 5) fd
  i6 : ∃ fd, FunD K "__init__" "ParseError.__init__" (defArgs (mth 6)) (defBody (mth 6)) (defScope (mth 6)) [] [] (fI 6) fd
  i7 : ∃ fd, FunD K "__init__" "UnknownName.__init__" (defArgs (mth 7)) (defBody (mth 7)) (defScope (mth 7)) [] [] (fI 7) fd
  i8 : ∃ fd, FunD K "__init__" "NoRing.__init__" (defArgs (mth 8)) (defBody (mth 8)) (defScope (mth 8)) [] [] (fI 8) fd
  i9 : ∃ fd, FunD K "__init__" "NotSafe.__init__" (defArgs (mth 9)) (defBody (mth 9)) (defScope (mth 9)) [] [] (fI 9) fd
  i10 : ∃ fd, FunD K "__init__" "Refused.__init__" (defArgs (mth 10)) (defBody (mth 10)) (defScope (mth 10)) [] [] (fI 10) fd
  i11 : ∃ fd, FunD K "__init__" "CannotGo.__init__" (defArgs (mth 11)) (defBody (mth 11)) (defScope (mth 11)) [] [] (fI 11) fd
  i12 : ∃ fd, FunD K "__init__" "CannotHop.__init__" (defArgs (mth 12)) (defBody (mth 12)) (defScope (mth 12)) [] [] (fI 12) fd
  i13 : ∃ fd, FunD K "__init__" "NothingDone.__init__" (defArgs (mth 13)) (defBody (mth 13)) (defScope (mth 13)) [] [] (fI 13) fd
  i14 : ∃ fd, FunD K "__init__" "LimitExceeded.__init__" (defArgs (mth 14)) (defBody (mth 14)) (defScope (mth 14)) [] [] (fI 14) fd
  n_ValueError : mg "ValueError" = none
  n_LookupError : mg "LookupError" = none
  n_RuntimeError : mg "RuntimeError" = none
  n_OverflowError : mg "OverflowError" = none
  n_KeyError : mg "KeyError" = none
  n_IndexError : mg "IndexError" = none
  n_NotImplementedError : mg "NotImplementedError" = none
  n_int : mg "int" = none
  n_len : mg "len" = none
  n_list : mg "list" = none
  n_range : mg "range" = none
  n_isinstance : mg "isinstance" = none
  n_enumerate : mg "enumerate" = none
  n_repr : mg "repr" = none
theorem scI : FnScope ["count", "a", "b", "good"] ["count"] (defScope (top 23)) := ⟨rfl, rfl, rfl, by decide +kernel, rfl, by decide +kernel, by decide +kernel⟩
def spIndexed : Sp := fun vs H Q _ => ∃ c : Int, vs = [.int c] ∧ 0 ≤ c ∧ c < 10 ^ 60 ∧ ∀ H', Kept H H' → Q (.bl true) H'
section
variable {P : Program} {w : World} {K : PySem.W.Frag} {mg : Str → Option Value} {base : Heap} {f : Addr} {fd : FuncData} {C fI : Nat → Addr}
theorem ok_indexed {fR : Addr} {fdR : FuncData} (F : FnP K "_law_indexed" (top 23) f fd) (V : Env K mg C fI) (FR : FnP K "_law_right" (top 22) fR fdR) (GR : FnOk P w K mg base CX0 2 fR fdR ["seat", "base", "made"] (spRight C)) (gR : mg "_law_right" = some (.ref fR)) : FnG P w K mg base 3 f fd ["count"] spIndexed := by
  have bR : Binds K fdR ["seat", "base", "made"] [] := FR.bindsN fun _ _ _ _ _ _ us hl => match us, hl with | [_, _, _], _ => rfl
  have o1 : Oe K valL "ValueError.__new__" (C 1) (fI 1) := V.T.oe 1 (by decide) (by decide)
  obtain ⟨fd1, I1⟩ := V.i1
  have G1 : FnOk P w K mg base CX0 1 (fI 1) fd1 ["self", "index"] (spI K valL "ValueError.__new__" ["index"]) := ini1 I1 V.n_ValueError
  have B1 := bi1 I1
  have w1_index : PySem.W.findIn K (.ref (C 1)) "index" = some none := V.no (1, "index") (by decide +kernel)
  have wf1 : ∀ f ∈ (["index"] : List Str), PySem.W.findIn K (.ref (C 1)) f = some none := fun f hf => V.no (1, f) (by revert f; decide +kernel)
  have M1 := kb1 I1
  have o2 : Oe K valL "ValueError.__new__" (C 2) (fI 2) := V.T.oe 2 (by decide) (by decide)
  obtain ⟨fd2, I2⟩ := V.i2
  have G2 : FnOk P w K mg base CX0 1 (fI 2) fd2 ["self", "index"] (spI K valL "ValueError.__new__" ["index"]) := ini2 I2 V.n_ValueError
  have B2 := bi2 I2
  have w2_index : PySem.W.findIn K (.ref (C 2)) "index" = some none := V.no (2, "index") (by decide +kernel)
  have wf2 : ∀ f ∈ (["index"] : List Str), PySem.W.findIn K (.ref (C 2)) f = some none := fun f hf => V.no (2, f) (by revert f; decide +kernel)
  have M2 := kb2 I2
  have o3 : Oe K valL "ValueError.__new__" (C 3) (fI 3) := V.T.oe 3 (by decide) (by decide)
  obtain ⟨fd3, I3⟩ := V.i3
  have G3 : FnOk P w K mg base CX0 1 (fI 3) fd3 ["self", "index"] (spI K valL "ValueError.__new__" ["index"]) := ini3 I3 V.n_ValueError
  have B3 := bi3 I3
  have w3_index : PySem.W.findIn K (.ref (C 3)) "index" = some none := V.no (3, "index") (by decide +kernel)
  have wf3 : ∀ f ∈ (["index"] : List Str), PySem.W.findIn K (.ref (C 3)) f = some none := fun f hf => V.no (3, f) (by revert f; decide +kernel)
  have M3 := kb3 I3
  have o4 : Oe K valL "ValueError.__new__" (C 4) (fI 4) := V.T.oe 4 (by decide) (by decide)
  obtain ⟨fd4, I4⟩ := V.i4
  have G4 : FnOk P w K mg base CX0 1 (fI 4) fd4 ["self", "index"] (spI K valL "ValueError.__new__" ["index"]) := ini4 I4 V.n_ValueError
  have B4 := bi4 I4
  have w4_index : PySem.W.findIn K (.ref (C 4)) "index" = some none := V.no (4, "index") (by decide +kernel)
  have wf4 : ∀ f ∈ (["index"] : List Str), PySem.W.findIn K (.ref (C 4)) f = some none := fun f hf => V.no (4, f) (by revert f; decide +kernel)
  have M4 := kb4 I4
  refine fnG_of F scI (fun vs H Q h => ?_) (fun cdv A outer s H vs Q hr hgd h => ⟨_, PSs.nox (
    pss_cons (ps_par (i := 1) (j := 2) rfl scI.nd rfl rfl (by decide) rfl rfl (pa_cons (pe_mk bas_val o1 G1 hr B1 pass0 rfl V.T.g1 (pa_cons (pv 0) pa_nil)) (pa_cons (pe_mkK bas_val o1 G1 hr M1 pass0 rfl V.T.g1 (pk_cons pe_non pk_nil)) pa_nil)) rfl)
    (pss_cons (ps_set (i := 3) scI.nd rfl (Or.inl rfl) (pe_and (pe_call GR hr rfl gR FR.kp bR .nil pass0 (pa_cons pe_int (pa_cons pe_int (pa_cons (pe_lst (pa_cons (pv 1) (pa_cons (pv 2) pa_nil))) pa_nil)))) (pe_one (pe_cmpR op_eq (pe_callB (call_rep2 V.hS hgd hr.units) rfl V.n_repr (by decide +kernel) (pa_cons (pe_lst (pa_cons (pe_fel (pv 1)) (pa_cons (pe_fel (pv 2)) pa_nil))) pa_nil)) (pe_callB (call_rep2 V.hS hgd hr.units) rfl V.n_repr (by decide +kernel) (pa_cons (pe_lst (pa_cons (pv 0) (pa_cons pe_non pa_nil))) pa_nil)) (nomark _)))))
    (pss_cons (ps_par (i := 1) (j := 2) rfl scI.nd rfl rfl (by decide) rfl rfl (pa_cons (pe_mk bas_val o2 G2 hr B2 pass0 rfl V.T.g2 (pa_cons (pv 0) pa_nil)) (pa_cons (pe_mkK bas_val o2 G2 hr M2 pass0 rfl V.T.g2 (pk_cons pe_non pk_nil)) pa_nil)) rfl)
    (pss_cons (ps_set (i := 3) scI.nd rfl (Or.inl rfl) (pe_and (pv 3) (pe_and (pe_call GR hr rfl gR FR.kp bR .nil pass0 (pa_cons pe_int (pa_cons pe_int (pa_cons (pe_lst (pa_cons (pv 1) (pa_cons (pv 2) pa_nil))) pa_nil)))) (pe_one (pe_cmpR op_eq (pe_callB (call_rep2 V.hS hgd hr.units) rfl V.n_repr (by decide +kernel) (pa_cons (pe_lst (pa_cons (pe_fel (pv 1)) (pa_cons (pe_fel (pv 2)) pa_nil))) pa_nil)) (pe_callB (call_rep2 V.hS hgd hr.units) rfl V.n_repr (by decide +kernel) (pa_cons (pe_lst (pa_cons (pv 0) (pa_cons pe_non pa_nil))) pa_nil)) (nomark _))))))
    (pss_cons (ps_par (i := 1) (j := 2) rfl scI.nd rfl rfl (by decide) rfl rfl (pa_cons (pe_mk bas_val o3 G3 hr B3 pass0 rfl V.T.g3 (pa_cons (pv 0) pa_nil)) (pa_cons (pe_mkK bas_val o3 G3 hr M3 pass0 rfl V.T.g3 (pk_cons pe_non pk_nil)) pa_nil)) rfl)
    (pss_cons (ps_set (i := 3) scI.nd rfl (Or.inl rfl) (pe_and (pv 3) (pe_and (pe_call GR hr rfl gR FR.kp bR .nil pass0 (pa_cons pe_int (pa_cons pe_int (pa_cons (pe_lst (pa_cons (pv 1) (pa_cons (pv 2) pa_nil))) pa_nil)))) (pe_one (pe_cmpR op_eq (pe_callB (call_rep2 V.hS hgd hr.units) rfl V.n_repr (by decide +kernel) (pa_cons (pe_lst (pa_cons (pe_fel (pv 1)) (pa_cons (pe_fel (pv 2)) pa_nil))) pa_nil)) (pe_callB (call_rep2 V.hS hgd hr.units) rfl V.n_repr (by decide +kernel) (pa_cons (pe_lst (pa_cons (pv 0) (pa_cons pe_non pa_nil))) pa_nil)) (nomark _))))))
    (pss_cons (ps_par (i := 1) (j := 2) rfl scI.nd rfl rfl (by decide) rfl rfl (pa_cons (pe_mk bas_val o4 G4 hr B4 pass0 rfl V.T.g4 (pa_cons (pv 0) pa_nil)) (pa_cons (pe_mkK bas_val o4 G4 hr M4 pass0 rfl V.T.g4 (pk_cons pe_non pk_nil)) pa_nil)) rfl)
    (pss_one (ps_ret (pe_and (pv 3) (pe_and (pe_call GR hr rfl gR FR.kp bR .nil pass0 (pa_cons pe_int (pa_cons pe_int (pa_cons (pe_lst (pa_cons (pv 1) (pa_cons (pv 2) pa_nil))) pa_nil)))) (pe_one (pe_cmpR op_eq (pe_callB (call_rep2 V.hS hgd hr.units) rfl V.n_repr (by decide +kernel) (pa_cons (pe_lst (pa_cons (pe_fel (pv 1)) (pa_cons (pe_fel (pv 2)) pa_nil))) pa_nil)) (pe_callB (call_rep2 V.hS hgd hr.units) rfl V.n_repr (by decide +kernel) (pa_cons (pe_lst (pa_cons (pv 0) (pa_cons pe_non pa_nil))) pa_nil)) (nomark _)))))))))))))), ?_⟩)
  · obtain ⟨c, rfl, _⟩ := h
    rfl
  · obtain ⟨c, rfl, c0, c1, go⟩ := h
    have fc := fine_int c0 c1
    have fn : Fine .none := ⟨by decide, by decide, by decide⟩
    refine ⟨_, rfl, made V.T (n := 1) (bm := valL) (nid := "ValueError.__new__") (fs := ["index"]) (ys := [.int c]) (by decide) (by decide) rfl rfl wf1 rfl (by decide) fun a1 A1 d1 e1 f1 k1 => ?_⟩
    refine madeK V.T (n := 1) (bm := valL) (nid := "ValueError.__new__") (fs := ["index"]) (ys := [.non]) (fun _ => rfl) (by decide) (by decide) rfl rfl wf1 rfl (by decide) fun b1 D1 g1 m1 n1 l1 => ⟨_, _, rfl, ?_⟩
    refine nxI (σ' := [some (.int c), some (.ref a1), some (.ref b1), none]) rfl ?_
    have xa1 : Ex C D1 a1 1 ["index"] [.int c] := Ex.kept ⟨by decide, by decide, d1, e1, f1⟩ l1
    have xb1 : Ex C D1 b1 1 ["index"] [.non] := ⟨by decide, by decide, g1, m1, n1⟩
    dsimp only
    refine seqI (asgI ?_)
    refine right_ok (C := C) (ia := 1) (ib := 2) rfl rfl xa1 xb1 rfl rfl fun R1 r1 => ⟨true, rfl, yes rfl (rep_eq (H0 := D1) (giv_ex V.T (n := 1) rfl xa1 (by simp) w1_index (by kernel_rfl) (kd_sc (.int c))) (giv_ex V.T (n := 1) rfl xb1 (by simp) w1_index (by kernel_rfl) (kd_sc .non)) (giv_var rfl (kd_sc (.int c))) (giv_c .non) fc fn r1 fun S1 s1 => ?_)⟩
    have t1 : Kept H S1 := k1.trans (l1.trans (r1.trans s1))
    refine nameS (σ' := [some (.int c), some (.ref a1), some (.ref b1), some (.bl true)]) rfl ?_
    dsimp only
    refine ⟨_, rfl, made V.T (n := 2) (bm := valL) (nid := "ValueError.__new__") (fs := ["index"]) (ys := [.int c]) (by decide) (by decide) rfl rfl wf2 rfl (by decide) fun a2 A2 d2 e2 f2 k2 => ?_⟩
    refine madeK V.T (n := 2) (bm := valL) (nid := "ValueError.__new__") (fs := ["index"]) (ys := [.non]) (fun _ => rfl) (by decide) (by decide) rfl rfl wf2 rfl (by decide) fun b2 D2 g2 m2 n2 l2 => ⟨_, _, rfl, ?_⟩
    refine nxI (σ' := [some (.int c), some (.ref a2), some (.ref b2), some (.bl true)]) rfl ?_
    have xa2 : Ex C D2 a2 2 ["index"] [.int c] := Ex.kept ⟨by decide, by decide, d2, e2, f2⟩ l2
    have xb2 : Ex C D2 b2 2 ["index"] [.non] := ⟨by decide, by decide, g2, m2, n2⟩
    dsimp only
    refine seqI (asgI ?_)
    refine ⟨_, rfl, true, rfl, yes rfl (right_ok (C := C) (ia := 1) (ib := 2) rfl rfl xa2 xb2 rfl rfl fun R2 r2 => ⟨true, rfl, yes rfl (rep_eq (H0 := D2) (giv_ex V.T (n := 2) rfl xa2 (by simp) w2_index (by kernel_rfl) (kd_sc (.int c))) (giv_ex V.T (n := 2) rfl xb2 (by simp) w2_index (by kernel_rfl) (kd_sc .non)) (giv_var rfl (kd_sc (.int c))) (giv_c .non) fc fn r2 fun S2 s2 => ?_)⟩)⟩
    have t2 : Kept H S2 := t1.trans (k2.trans (l2.trans (r2.trans s2)))
    refine nameS (σ' := [some (.int c), some (.ref a2), some (.ref b2), some (.bl true)]) rfl ?_
    dsimp only
    refine ⟨_, rfl, made V.T (n := 3) (bm := valL) (nid := "ValueError.__new__") (fs := ["index"]) (ys := [.int c]) (by decide) (by decide) rfl rfl wf3 rfl (by decide) fun a3 A3 d3 e3 f3 k3 => ?_⟩
    refine madeK V.T (n := 3) (bm := valL) (nid := "ValueError.__new__") (fs := ["index"]) (ys := [.non]) (fun _ => rfl) (by decide) (by decide) rfl rfl wf3 rfl (by decide) fun b3 D3 g3 m3 n3 l3 => ⟨_, _, rfl, ?_⟩
    refine nxI (σ' := [some (.int c), some (.ref a3), some (.ref b3), some (.bl true)]) rfl ?_
    have xa3 : Ex C D3 a3 3 ["index"] [.int c] := Ex.kept ⟨by decide, by decide, d3, e3, f3⟩ l3
    have xb3 : Ex C D3 b3 3 ["index"] [.non] := ⟨by decide, by decide, g3, m3, n3⟩
    dsimp only
    refine seqI (asgI ?_)
    refine ⟨_, rfl, true, rfl, yes rfl (right_ok (C := C) (ia := 1) (ib := 2) rfl rfl xa3 xb3 rfl rfl fun R3 r3 => ⟨true, rfl, yes rfl (rep_eq (H0 := D3) (giv_ex V.T (n := 3) rfl xa3 (by simp) w3_index (by kernel_rfl) (kd_sc (.int c))) (giv_ex V.T (n := 3) rfl xb3 (by simp) w3_index (by kernel_rfl) (kd_sc .non)) (giv_var rfl (kd_sc (.int c))) (giv_c .non) fc fn r3 fun S3 s3 => ?_)⟩)⟩
    have t3 : Kept H S3 := t2.trans (k3.trans (l3.trans (r3.trans s3)))
    refine nameS (σ' := [some (.int c), some (.ref a3), some (.ref b3), some (.bl true)]) rfl ?_
    dsimp only
    refine ⟨_, rfl, made V.T (n := 4) (bm := valL) (nid := "ValueError.__new__") (fs := ["index"]) (ys := [.int c]) (by decide) (by decide) rfl rfl wf4 rfl (by decide) fun a4 A4 d4 e4 f4 k4 => ?_⟩
    refine madeK V.T (n := 4) (bm := valL) (nid := "ValueError.__new__") (fs := ["index"]) (ys := [.non]) (fun _ => rfl) (by decide) (by decide) rfl rfl wf4 rfl (by decide) fun b4 D4 g4 m4 n4 l4 => ⟨_, _, rfl, ?_⟩
    refine nxI (σ' := [some (.int c), some (.ref a4), some (.ref b4), some (.bl true)]) rfl ?_
    have xa4 : Ex C D4 a4 4 ["index"] [.int c] := Ex.kept ⟨by decide, by decide, d4, e4, f4⟩ l4
    have xb4 : Ex C D4 b4 4 ["index"] [.non] := ⟨by decide, by decide, g4, m4, n4⟩
    dsimp only
    show tAndV _ _ _ _ _
    refine ⟨_, rfl, true, rfl, yes rfl (right_ok (C := C) (ia := 1) (ib := 2) rfl rfl xa4 xb4 rfl rfl fun R4 r4 => ⟨true, rfl, yes rfl (rep_eq (H0 := D4) (giv_ex V.T (n := 4) rfl xa4 (by simp) w4_index (by kernel_rfl) (kd_sc (.int c))) (giv_ex V.T (n := 4) rfl xb4 (by simp) w4_index (by kernel_rfl) (kd_sc .non)) (giv_var rfl (kd_sc (.int c))) (giv_c .non) fc fn r4 fun S4 s4 => ?_)⟩)⟩
    have t4 : Kept H S4 := t3.trans (k4.trans (l4.trans (r4.trans s4)))
    exact go _ t4
end
theorem scT : FnScope ["count", "thing", "a", "b", "good"] ["count", "thing"] (defScope (top 24)) := ⟨rfl, rfl, rfl, by decide +kernel, rfl, by decide +kernel, by decide +kernel⟩
def spOthers : Sp := fun vs H Q _ => ∃ (c : Int) (x : V) (d : PyData), vs = [.int c, x] ∧ 0 ≤ c ∧ c < 10 ^ 60 ∧ Th H x d ∧ Fine d ∧ ∀ H', Kept H H' → Q (.bl true) H'
section
variable {P : Program} {w : World} {K : PySem.W.Frag} {mg : Str → Option Value} {base : Heap} {f : Addr} {fd : FuncData} {C fI : Nat → Addr}
theorem ok_others {fR : Addr} {fdR : FuncData} (F : FnP K "_law_others" (top 24) f fd) (V : Env K mg C fI) (FR : FnP K "_law_right" (top 22) fR fdR) (GR : FnOk P w K mg base CX0 2 fR fdR ["seat", "base", "made"] (spRight C)) (gR : mg "_law_right" = some (.ref fR)) : FnG P w K mg base 3 f fd ["count", "thing"] spOthers := by
  have bR : Binds K fdR ["seat", "base", "made"] [] := FR.bindsN fun _ _ _ _ _ _ us hl => match us, hl with | [_, _, _], _ => rfl
  have o6 : Oe K valL "ValueError.__new__" (C 6) (fI 6) := V.T.oe 6 (by decide) (by decide)
  obtain ⟨fd6, I6⟩ := V.i6
  have G6 : FnOk P w K mg base CX0 1 (fI 6) fd6 ["self", "line"] (spI K valL "ValueError.__new__" ["line"]) := ini6 I6 V.n_ValueError
  have B6 := bi6 I6
  have w6_line : PySem.W.findIn K (.ref (C 6)) "line" = some none := V.no (6, "line") (by decide +kernel)
  have wf6 : ∀ f ∈ (["line"] : List Str), PySem.W.findIn K (.ref (C 6)) f = some none := fun f hf => V.no (6, f) (by revert f; decide +kernel)
  have M6 := kb6 I6
  have o7 : Oe K lookL "LookupError.__new__" (C 7) (fI 7) := V.T.oe 7 (by decide) (by decide)
  obtain ⟨fd7, I7⟩ := V.i7
  have G7 : FnOk P w K mg base CX0 1 (fI 7) fd7 ["self", "value"] (spI K lookL "LookupError.__new__" ["value"]) := ini7 I7 V.n_LookupError
  have B7 := bi7 I7
  have w7_value : PySem.W.findIn K (.ref (C 7)) "value" = some none := V.no (7, "value") (by decide +kernel)
  have wf7 : ∀ f ∈ (["value"] : List Str), PySem.W.findIn K (.ref (C 7)) f = some none := fun f hf => V.no (7, f) (by revert f; decide +kernel)
  have M7 := kb7 I7
  have o10 : Oe K runL "RuntimeError.__new__" (C 10) (fI 10) := V.T.oe 10 (by decide) (by decide)
  obtain ⟨fd10, I10⟩ := V.i10
  have G10 : FnOk P w K mg base CX0 1 (fI 10) fd10 ["self", "index", "reason"] (spI K runL "RuntimeError.__new__" ["index", "reason"]) := ini10 I10 V.n_RuntimeError
  have B10 := bi10 I10
  have w10_index : PySem.W.findIn K (.ref (C 10)) "index" = some none := V.no (10, "index") (by decide +kernel)
  have w10_reason : PySem.W.findIn K (.ref (C 10)) "reason" = some none := V.no (10, "reason") (by decide +kernel)
  have wf10 : ∀ f ∈ (["index", "reason"] : List Str), PySem.W.findIn K (.ref (C 10)) f = some none := fun f hf => V.no (10, f) (by revert f; decide +kernel)
  have M10 := kb10 I10
  have o11 : Oe K runL "RuntimeError.__new__" (C 11) (fI 11) := V.T.oe 11 (by decide) (by decide)
  obtain ⟨fd11, I11⟩ := V.i11
  have G11 : FnOk P w K mg base CX0 1 (fI 11) fd11 ["self", "waited"] (spI K runL "RuntimeError.__new__" ["waited"]) := ini11 I11 V.n_RuntimeError
  have B11 := bi11 I11
  have w11_waited : PySem.W.findIn K (.ref (C 11)) "waited" = some none := V.no (11, "waited") (by decide +kernel)
  have wf11 : ∀ f ∈ (["waited"] : List Str), PySem.W.findIn K (.ref (C 11)) f = some none := fun f hf => V.no (11, f) (by revert f; decide +kernel)
  have M11 := kb11 I11
  have o14 : Oe K overL "OverflowError.__new__" (C 14) (fI 14) := V.T.oe 14 (by decide) (by decide)
  obtain ⟨fd14, I14⟩ := V.i14
  have G14 : FnOk P w K mg base CX0 1 (fI 14) fd14 ["self", "limit"] (spI K overL "OverflowError.__new__" ["limit"]) := ini14 I14 V.n_OverflowError
  have B14 := bi14 I14
  have w14_limit : PySem.W.findIn K (.ref (C 14)) "limit" = some none := V.no (14, "limit") (by decide +kernel)
  have wf14 : ∀ f ∈ (["limit"] : List Str), PySem.W.findIn K (.ref (C 14)) f = some none := fun f hf => V.no (14, f) (by revert f; decide +kernel)
  have M14 := kb14 I14
  refine fnG_of F scT (fun vs H Q h => ?_) (fun cdv A outer s H vs Q hr hgd h => ⟨_, PSs.nox (
    pss_cons (ps_par (i := 2) (j := 3) rfl scT.nd rfl rfl (by decide) rfl rfl (pa_cons (pe_mk bas_val o6 G6 hr B6 pass0 rfl V.T.g6 (pa_cons (pv 0) pa_nil)) (pa_cons (pe_mkK bas_val o6 G6 hr M6 pass0 rfl V.T.g6 (pk_cons (pv 0) pk_nil)) pa_nil)) rfl)
    (pss_cons (ps_set (i := 4) scT.nd rfl (Or.inl rfl) (pe_and (pe_call GR hr rfl gR FR.kp bR .nil pass0 (pa_cons pe_int (pa_cons pe_int (pa_cons (pe_lst (pa_cons (pv 2) (pa_cons (pv 3) pa_nil))) pa_nil)))) (pe_one (pe_cmpR op_eq (pe_callB (call_rep2 V.hS hgd hr.units) rfl V.n_repr (by decide +kernel) (pa_cons (pe_lst (pa_cons (pe_fel (pv 2)) (pa_cons (pe_fel (pv 3)) pa_nil))) pa_nil)) (pe_callB (call_rep2 V.hS hgd hr.units) rfl V.n_repr (by decide +kernel) (pa_cons (pe_lst (pa_cons (pv 0) (pa_cons (pv 0) pa_nil))) pa_nil)) (nomark _)))))
    (pss_cons (ps_par (i := 2) (j := 3) rfl scT.nd rfl rfl (by decide) rfl rfl (pa_cons (pe_mk bas_look o7 G7 hr B7 pass0 rfl V.T.g7 (pa_cons (pv 1) pa_nil)) (pa_cons (pe_mkK bas_look o7 G7 hr M7 pass0 rfl V.T.g7 (pk_cons (pv 1) pk_nil)) pa_nil)) rfl)
    (pss_cons (ps_set (i := 4) scT.nd rfl (Or.inl rfl) (pe_and (pv 4) (pe_and (pe_call GR hr rfl gR FR.kp bR .nil pass0 (pa_cons pe_int (pa_cons pe_int (pa_cons (pe_lst (pa_cons (pv 2) (pa_cons (pv 3) pa_nil))) pa_nil)))) (pe_one (pe_cmpR op_eq (pe_callB (call_rep2 V.hS hgd hr.units) rfl V.n_repr (by decide +kernel) (pa_cons (pe_lst (pa_cons (pe_fel (pv 2)) (pa_cons (pe_fel (pv 3)) pa_nil))) pa_nil)) (pe_callB (call_rep2 V.hS hgd hr.units) rfl V.n_repr (by decide +kernel) (pa_cons (pe_lst (pa_cons (pv 1) (pa_cons (pv 1) pa_nil))) pa_nil)) (nomark _))))))
    (pss_cons (ps_par (i := 2) (j := 3) rfl scT.nd rfl rfl (by decide) rfl rfl (pa_cons (pe_mk bas_run o10 G10 hr B10 pass0 rfl V.T.g10 (pa_cons (pv 0) (pa_cons pe_str pa_nil))) (pa_cons (pe_mkK bas_run o10 G10 hr M10 pass0 rfl V.T.g10 (pk_cons pe_non (pk_cons (pe_un un_neg pe_int) pk_nil))) pa_nil)) rfl)
    (pss_cons (ps_set (i := 4) scT.nd rfl (Or.inl rfl) (pe_and (pv 4) (pe_and (pe_call GR hr rfl gR FR.kp bR .nil pass0 (pa_cons pe_int (pa_cons pe_int (pa_cons (pe_lst (pa_cons (pv 2) (pa_cons (pv 3) pa_nil))) pa_nil)))) (pe_one (pe_cmpR op_eq (pe_callB (call_rep2 V.hS hgd hr.units) rfl V.n_repr (by decide +kernel) (pa_cons (pe_lst (pa_cons (pe_fel (pv 2)) (pa_cons (pe_fel (pv 3)) pa_nil))) pa_nil)) (pe_callB (call_rep2 V.hS hgd hr.units) rfl V.n_repr (by decide +kernel) (pa_cons (pe_lst (pa_cons (pv 0) (pa_cons (pe_un un_neg pe_int) pa_nil))) pa_nil)) (nomark _))))))
    (pss_cons (ps_set (i := 4) scT.nd rfl (Or.inl rfl) (pe_and (pv 4) (pe_one (pe_cmpR op_eq (pe_callB (call_rep2 V.hS hgd hr.units) rfl V.n_repr (by decide +kernel) (pa_cons (pe_lst (pa_cons (pe_fel (pv 2)) (pa_cons (pe_fel (pv 3)) pa_nil))) pa_nil)) (pe_callB (call_rep2 V.hS hgd hr.units) rfl V.n_repr (by decide +kernel) (pa_cons (pe_lst (pa_cons pe_str (pa_cons pe_non pa_nil))) pa_nil)) (nomark _)))))
    (pss_cons (ps_par (i := 2) (j := 3) rfl scT.nd rfl rfl (by decide) rfl rfl (pa_cons (pe_mk bas_run o11 G11 hr B11 pass0 rfl V.T.g11 (pa_cons (pe_tup (pa_cons pe_str (pa_cons pe_str pa_nil))) pa_nil)) (pa_cons (pe_mkK bas_run o11 G11 hr M11 pass0 rfl V.T.g11 (pk_cons (pe_tup pa_nil) pk_nil)) pa_nil)) rfl)
    (pss_cons (ps_set (i := 4) scT.nd rfl (Or.inl rfl) (pe_and (pv 4) (pe_and (pe_call GR hr rfl gR FR.kp bR .nil pass0 (pa_cons pe_int (pa_cons pe_int (pa_cons (pe_lst (pa_cons (pv 2) (pa_cons (pv 3) pa_nil))) pa_nil)))) (pe_one (pe_cmpR op_eq (pe_callB (call_rep2 V.hS hgd hr.units) rfl V.n_repr (by decide +kernel) (pa_cons (pe_lst (pa_cons (pe_fel (pv 2)) (pa_cons (pe_fel (pv 3)) pa_nil))) pa_nil)) (pe_callB (call_rep2 V.hS hgd hr.units) rfl V.n_repr (by decide +kernel) (pa_cons (pe_lst (pa_cons (pe_tup (pa_cons pe_str (pa_cons pe_str pa_nil))) (pa_cons (pe_tup pa_nil) pa_nil))) pa_nil)) (nomark _))))))
    (pss_cons (ps_par (i := 2) (j := 3) rfl scT.nd rfl rfl (by decide) rfl rfl (pa_cons (pe_mk bas_over o14 G14 hr B14 pass0 rfl V.T.g14 (pa_cons (pv 0) pa_nil)) (pa_cons (pe_mkK bas_over o14 G14 hr M14 pass0 rfl V.T.g14 (pk_cons pe_int pk_nil)) pa_nil)) rfl)
    (pss_one (ps_ret (pe_and (pv 4) (pe_and (pe_call GR hr rfl gR FR.kp bR .nil pass0 (pa_cons pe_int (pa_cons pe_int (pa_cons (pe_lst (pa_cons (pv 2) (pa_cons (pv 3) pa_nil))) pa_nil)))) (pe_one (pe_cmpR op_eq (pe_callB (call_rep2 V.hS hgd hr.units) rfl V.n_repr (by decide +kernel) (pa_cons (pe_lst (pa_cons (pe_fel (pv 2)) (pa_cons (pe_fel (pv 3)) pa_nil))) pa_nil)) (pe_callB (call_rep2 V.hS hgd hr.units) rfl V.n_repr (by decide +kernel) (pa_cons (pe_lst (pa_cons (pv 0) (pa_cons pe_int pa_nil))) pa_nil)) (nomark _))))))))))))))))), ?_⟩)
  · obtain ⟨c, x, d, rfl, _⟩ := h
    rfl
  · obtain ⟨c, x, d, rfl, c0, c1, th, fd, go⟩ := h
    have fc := fine_int c0 c1
    have fn : Fine .none := ⟨by decide, by decide, by decide⟩
    have fm : Fine (.int (-1)) := ⟨by decide +kernel, by decide, by decide +kernel⟩
    have f2h : Fine (.int 200) := ⟨by decide +kernel, by decide, by decide +kernel⟩
    have fs1 : Fine (.str "CannotGo") := ⟨by decide +kernel, by decide, by decide +kernel⟩
    have ft2 : Fine (.tuple [.str "a", .str "zz"]) := ⟨by decide +kernel, by decide +kernel, by decide +kernel⟩
    have ft0 : Fine (.tuple []) := ⟨by decide +kernel, by decide +kernel, by decide +kernel⟩
    refine ⟨_, rfl, made V.T (n := 6) (bm := valL) (nid := "ValueError.__new__") (fs := ["line"]) (ys := [.int c]) (by decide) (by decide) rfl rfl wf6 rfl (by decide) fun a6 A6 d6 e6 f6 k6 => ?_⟩
    refine ⟨_, rfl, madeK V.T (n := 6) (bm := valL) (nid := "ValueError.__new__") (fs := ["line"]) (ys := [.int c]) (fun _ => rfl) (by decide) (by decide) rfl rfl wf6 rfl (by decide) fun b6 D6 g6 m6 n6 l6 => ⟨_, _, rfl, ?_⟩⟩
    refine nxI (σ' := [some (.int c), some x, some (.ref a6), some (.ref b6), none]) rfl ?_
    have xa6 : Ex C D6 a6 6 ["line"] [.int c] := Ex.kept ⟨by decide, by decide, d6, e6, f6⟩ l6
    have xb6 : Ex C D6 b6 6 ["line"] [.int c] := ⟨by decide, by decide, g6, m6, n6⟩
    dsimp only
    refine seqI (asgI ?_)
    have u6 : Kept H D6 := k6.trans l6
    refine right_ok (C := C) (ia := 2) (ib := 3) rfl rfl xa6 xb6 rfl rfl fun R6 r6 => ⟨true, rfl, yes rfl (rep_eq (H0 := D6) (giv_ex V.T (n := 6) rfl xa6 (by simp) w6_line (by kernel_rfl) (kd_sc (.int c))) (giv_ex V.T (n := 6) rfl xb6 (by simp) w6_line (by kernel_rfl) (kd_sc (.int c))) (giv_var rfl (kd_sc (.int c))) (giv_var rfl (kd_sc (.int c))) fc fc r6 fun S6 s6 => ?_)⟩
    have t6 : Kept H S6 := u6.trans (r6.trans s6)
    refine nameS (σ' := [some (.int c), some x, some (.ref a6), some (.ref b6), some (.bl true)]) rfl ?_
    dsimp only
    refine ⟨_, rfl, made V.T (n := 7) (bm := lookL) (nid := "LookupError.__new__") (fs := ["value"]) (ys := [x]) (by decide) (by decide) rfl rfl wf7 rfl (by decide) fun a7 A7 d7 e7 f7 k7 => ?_⟩
    refine ⟨_, rfl, madeK V.T (n := 7) (bm := lookL) (nid := "LookupError.__new__") (fs := ["value"]) (ys := [x]) (fun _ => rfl) (by decide) (by decide) rfl rfl wf7 rfl (by decide) fun b7 D7 g7 m7 n7 l7 => ⟨_, _, rfl, ?_⟩⟩
    refine nxI (σ' := [some (.int c), some x, some (.ref a7), some (.ref b7), some (.bl true)]) rfl ?_
    have xa7 : Ex C D7 a7 7 ["value"] [x] := Ex.kept ⟨by decide, by decide, d7, e7, f7⟩ l7
    have xb7 : Ex C D7 b7 7 ["value"] [x] := ⟨by decide, by decide, g7, m7, n7⟩
    dsimp only
    refine seqI (asgI ?_)
    have u7 : Kept H D7 := t6.trans (k7.trans l7)
    have kx : Kd (cxOf CX0 P w K mg base ["count", "thing", "a", "b", "good"] "_law_others" (defScope (top 24)) f cdv A outer s H E0).nox.nox D7 x d := (th.kept u7).kd V.hS
    refine ⟨_, rfl, true, rfl, yes rfl (right_ok (C := C) (ia := 2) (ib := 3) rfl rfl xa7 xb7 rfl rfl fun R7 r7 => ⟨true, rfl, yes rfl (rep_eq (H0 := D7) (giv_ex V.T (n := 7) rfl xa7 (by simp) w7_value (by kernel_rfl) kx) (giv_ex V.T (n := 7) rfl xb7 (by simp) w7_value (by kernel_rfl) kx) (giv_var rfl kx) (giv_var rfl kx) fd fd r7 fun S7 s7 => ?_)⟩)⟩
    have t7 : Kept H S7 := u7.trans (r7.trans s7)
    refine nameS (σ' := [some (.int c), some x, some (.ref a7), some (.ref b7), some (.bl true)]) rfl ?_
    dsimp only
    refine ⟨_, rfl, made V.T (n := 10) (bm := runL) (nid := "RuntimeError.__new__") (fs := ["index", "reason"]) (ys := [.int c, .str "CannotGo"]) (by decide) (by decide) rfl rfl wf10 rfl (by decide) fun a10 A10 d10 e10 f10 k10 => ?_⟩
    refine ⟨_, rfl, madeK V.T (n := 10) (bm := runL) (nid := "RuntimeError.__new__") (fs := ["index", "reason"]) (ys := [.int (-1), .non]) (fun _ => rfl) (by decide) (by decide) rfl rfl wf10 rfl (by decide) fun b10 D10 g10 m10 n10 l10 => ⟨_, _, rfl, ?_⟩⟩
    refine nxI (σ' := [some (.int c), some x, some (.ref a10), some (.ref b10), some (.bl true)]) rfl ?_
    have xa10 : Ex C D10 a10 10 ["index", "reason"] [.int c, .str "CannotGo"] := Ex.kept ⟨by decide, by decide, d10, e10, f10⟩ l10
    have xb10 : Ex C D10 b10 10 ["index", "reason"] [.int (-1), .non] := ⟨by decide, by decide, g10, m10, n10⟩
    dsimp only
    refine seqI (asgI ?_)
    have u10 : Kept H D10 := t7.trans (k10.trans l10)
    refine ⟨_, rfl, true, rfl, yes rfl (right_ok (C := C) (ia := 2) (ib := 3) rfl rfl xa10 xb10 rfl rfl fun R10 r10 => ⟨true, rfl, yes rfl (rep_eq (H0 := D10) (giv_ex V.T (n := 10) rfl xa10 (by simp) w10_index (by kernel_rfl) (kd_sc (.int c))) (giv_ex V.T (n := 10) rfl xb10 (by simp) w10_index (by kernel_rfl) (kd_sc (.int (-1)))) (giv_var rfl (kd_sc (.int c))) giv_neg fc fm r10 fun S10 s10 => ?_)⟩)⟩
    have t10 : Kept H S10 := u10.trans (r10.trans s10)
    refine nameS (σ' := [some (.int c), some x, some (.ref a10), some (.ref b10), some (.bl true)]) rfl ?_
    dsimp only
    refine seqI (asgI ?_)
    have v10 : Kept D10 S10 := r10.trans s10
    refine ⟨_, rfl, true, rfl, yes rfl (rep_eq (H0 := S10) (giv_ex V.T (n := 10) rfl (xa10.kept v10) (by simp) w10_reason (by kernel_rfl) (kd_sc (.str "CannotGo"))) (giv_ex V.T (n := 10) rfl (xb10.kept v10) (by simp) w10_reason (by kernel_rfl) (kd_sc .non)) (giv_c (.str "CannotGo")) (giv_c .non) fs1 fn Kept.same fun S10b s10b => ?_)⟩
    replace t10 := t10.trans s10b
    refine nameS (σ' := [some (.int c), some x, some (.ref a10), some (.ref b10), some (.bl true)]) rfl ?_
    dsimp only
    have t10b := t10
    refine ⟨two_fit, fun p1 hp1 => ?_⟩
    have kp1 : Kept S10b (upd S10b p1 (.tup [.str "a", .str "zz"])) := Kept.same.new hp1
    have ep1 : (upd S10b p1 (.tup [.str "a", .str "zz"])) p1 = some (.tup [.str "a", .str "zz"]) := upd_same
    refine made V.T (n := 11) (bm := runL) (nid := "RuntimeError.__new__") (fs := ["waited"]) (ys := [.ref p1]) (by decide) (by decide) rfl rfl wf11 rfl (by decide) fun a11 A11 d11 e11 f11 k11 => ?_
    refine ⟨by decide, fun p2 hp2 => ?_⟩
    have kp2 : Kept A11 (upd A11 p2 (.tup [])) := Kept.same.new hp2
    have ep2 : (upd A11 p2 (.tup [])) p2 = some (.tup []) := upd_same
    refine madeK V.T (n := 11) (bm := runL) (nid := "RuntimeError.__new__") (fs := ["waited"]) (ys := [.ref p2]) (fun _ => rfl) (by decide) (by decide) rfl rfl wf11 rfl (by decide) fun b11 D11 g11 m11 n11 l11 => ⟨_, _, rfl, ?_⟩
    have q12 : D11 p2 = some (.tup []) := l11 _ _ ep2
    have q11 : A11 p1 = some (.tup [.str "a", .str "zz"]) := k11 _ _ ep1
    replace l11 := kp2.trans l11
    replace k11 := kp1.trans k11
    refine nxI (σ' := [some (.int c), some x, some (.ref a11), some (.ref b11), some (.bl true)]) rfl ?_
    have xa11 : Ex C D11 a11 11 ["waited"] [.ref p1] := Ex.kept ⟨by decide, by decide, d11, e11, f11⟩ l11
    have xb11 : Ex C D11 b11 11 ["waited"] [.ref p2] := ⟨by decide, by decide, g11, m11, n11⟩
    dsimp only
    refine seqI (asgI ?_)
    have u11 : Kept H D11 := t10b.trans (k11.trans l11)
    have e1 : D11 p1 = some (.tup [.str "a", .str "zz"]) := l11 _ _ q11
    have e2 : D11 p2 = some (.tup []) := q12
    refine ⟨_, rfl, true, rfl, yes rfl (right_ok (C := C) (ia := 2) (ib := 3) rfl rfl xa11 xb11 rfl rfl fun R11 r11 => ⟨true, rfl, yes rfl (rep_eq (H0 := D11) (giv_ex V.T (n := 11) rfl xa11 (by simp) w11_waited (by kernel_rfl) (kd_tup e1 (.cons (.str "a") (.cons (.str "zz") .nil)))) (giv_ex V.T (n := 11) rfl xb11 (by simp) w11_waited (by kernel_rfl) (kd_tup e2 .nil)) (giv_tup2 (.str "a") (.str "zz")) giv_tup0 ft2 ft0 r11 fun S11 s11 => ?_)⟩)⟩
    have t11 : Kept H S11 := u11.trans (r11.trans s11)
    refine nameS (σ' := [some (.int c), some x, some (.ref a11), some (.ref b11), some (.bl true)]) rfl ?_
    dsimp only
    refine ⟨_, rfl, made V.T (n := 14) (bm := overL) (nid := "OverflowError.__new__") (fs := ["limit"]) (ys := [.int c]) (by decide) (by decide) rfl rfl wf14 rfl (by decide) fun a14 A14 d14 e14 f14 k14 => ?_⟩
    refine madeK V.T (n := 14) (bm := overL) (nid := "OverflowError.__new__") (fs := ["limit"]) (ys := [.int 200]) (fun _ => rfl) (by decide) (by decide) rfl rfl wf14 rfl (by decide) fun b14 D14 g14 m14 n14 l14 => ⟨_, _, rfl, ?_⟩
    refine nxI (σ' := [some (.int c), some x, some (.ref a14), some (.ref b14), some (.bl true)]) rfl ?_
    have xa14 : Ex C D14 a14 14 ["limit"] [.int c] := Ex.kept ⟨by decide, by decide, d14, e14, f14⟩ l14
    have xb14 : Ex C D14 b14 14 ["limit"] [.int 200] := ⟨by decide, by decide, g14, m14, n14⟩
    dsimp only
    show tAndV _ _ _ _ _
    have u14 : Kept H D14 := t11.trans (k14.trans l14)
    refine ⟨_, rfl, true, rfl, yes rfl (right_ok (C := C) (ia := 2) (ib := 3) rfl rfl xa14 xb14 rfl rfl fun R14 r14 => ⟨true, rfl, yes rfl (rep_eq (H0 := D14) (giv_ex V.T (n := 14) rfl xa14 (by simp) w14_limit (by kernel_rfl) (kd_sc (.int c))) (giv_ex V.T (n := 14) rfl xb14 (by simp) w14_limit (by kernel_rfl) (kd_sc (.int 200))) (giv_var rfl (kd_sc (.int c))) (giv_c (.int 200)) fc f2h r14 fun S14 s14 => ?_)⟩)⟩
    have t14 : Kept H S14 := u14.trans (r14.trans s14)
    exact go _ t14
end

end K86

/-! k86: the law's def. -/
namespace K86
open PySem PySem.Spec PyProof.Rows L2 L2.NB PySem.NB NwS
/-- c is one of the counts -/
theorem counts {x : Int} {v : V} (x0 : 0 ≤ x) (x1 : x < 10 ^ 60) (h : v ∈ [V.int 0, V.int 1, V.int 17, V.int x]) : ∃ c : Int, v = .int c ∧ 0 ≤ c ∧ c < 10 ^ 60 := by
  simp only [List.mem_cons, List.mem_nil_iff, or_false] at h
  rcases h with rfl | rfl | rfl | rfl
  · exact ⟨0, rfl, by decide, by decide⟩
  · exact ⟨1, rfl, by decide, by decide⟩
  · exact ⟨17, rfl, by decide, by decide⟩
  · exact ⟨x, rfl, x0, x1⟩
/-- v is one of the things -/
theorem things {H : Hp} {c : Int} {t l d : Addr} {v : V} (c0 : 0 ≤ c) (c1 : c < 10 ^ 60) (ht : H t = some (.tup [.int 0, .int 1])) (hl : H l = some (.lst [])) (hd : H d = some (.dK [])) (h : v ∈ [V.non, V.bl true, V.str "zz", V.ref t, V.ref l, V.ref d, V.int c, V.int (-1)]) : ∃ e, Th H v e ∧ Fine e := by
  simp only [List.mem_cons, List.mem_nil_iff, or_false] at h
  rcases h with rfl | rfl | rfl | rfl | rfl | rfl | rfl | rfl
  · exact ⟨_, .sc .non, by decide, by decide, by decide⟩
  · exact ⟨_, .sc (.bl true), by decide, by decide, by decide +kernel⟩
  · exact ⟨_, .sc (.str "zz"), by decide +kernel, by decide, by decide +kernel⟩
  · exact ⟨_, .tup ht (.cons (.int 0) (.cons (.int 1) .nil)), by decide +kernel, by decide +kernel, by decide +kernel⟩
  · exact ⟨_, .lst hl, by decide +kernel, by decide +kernel, by decide +kernel⟩
  · exact ⟨_, .dct hd, by decide +kernel, by decide +kernel, by decide +kernel⟩
  · exact ⟨_, .sc (.int c), fine_int c0 c1⟩
  · exact ⟨_, .sc (.int (-1)), by decide +kernel, by decide, by decide +kernel⟩
theorem four_fit : 4 ≤ sizeLine := by decide
theorem eight_fit : 8 ≤ sizeLine := by decide
theorem ifI {c : TT} {t u : TS} {D : Ends} {σ : L2.St} {H : Hp} (h : c σ H fun b H1 => if b = true then t D σ H1 else u D σ H1) : tIfS c t u D σ H := h
theorem orI {t u : TT} {σ : L2.St} {H : Hp} {Q : Bool → Hp → Prop} (h : t σ H fun c H1 => if c = true then Q true H1 else u σ H1 Q) : tOr t u σ H Q := h
theorem notBI {te : TE} {σ : L2.St} {H : Hp} {Q : Bool → Hp → Prop} (h : te σ H fun x H1 => ∃ c, x = .bl c ∧ Q (!c) H1) : tNot (tB te) σ H Q := h
theorem retI {te : TE} {D : Ends} {σ : L2.St} {H : Hp} (h : te σ H D.rt) : tRet te D σ H := h
theorem big60 : (0 : Int) < 10 ^ (60 : Int).toNat ∧ ((10 : Int) ^ (60 : Int).toNat).natAbs.log2 < 9000 := by decide +kernel
theorem cp60 : CPow 10 60 := ⟨by decide, by decide, by decide⟩
theorem right1 {K : PySem.W.Frag} {mg : Str → Option Value} {C fI : Nat → Addr} (T : Tab K mg C fI) {n : Nat} {bm : List Value} {nid : String} {i b : Int} {σ : L2.St} {H : Hp} {Q : VK} (h1 : 1 ≤ n) (h2 : n ≤ 14) (eb : bmI n = bm) (en : nidI n = nid) (e1 : seatOf n = i) (e2 : baseOf n = b)
    (q : ∀ H', Kept H H' → Q (.bl true) H') : tCall (spRight C) [] E0 (tCons (tC (.int i)) (tCons (tC (.int b)) (tCons (tLst (tCons (tMk (C n) (spI K bm nid []) tNil) tNil)) tNil))) σ H Q := by
  dsimp only [tCall, tCons, tC, tLst, tMk, tNil]
  refine made (fs := []) (ys := []) T h1 h2 eb en (fun f (hf : f ∈ ([] : List Str)) => by cases hf) rfl (by decide) fun a H1 d ea hd k1 => ⟨(by decide : 1 ≤ sizeLine), fun p hp => ⟨i, b, p, [.ref a], rfl, upd_same, fun v hv => ?_, fun H' k => q H' (k1.trans ((Kept.same.new hp).trans k))⟩⟩
  obtain rfl := List.mem_singleton.mp hv
  exact ⟨a, n, [], [], rfl, Ex.kept ⟨h1, h2, d, ea, hd⟩ (Kept.same.new hp), e1, e2⟩
def spLaw (K : PySem.W.Frag) : Sp := fun vs H Q _ => ∃ (a : Addr) (ns : List Int), vs = [.ref a] ∧ SqL K H a (ns.map V.int) ∧ ns.length ≤ 63 ∧ ∀ H', Q (.bl true) H'
theorem scL : FnScope ["script", "pen", "lap", "count", "thing"] ["script"] (defScope (top 25)) := ⟨rfl, rfl, rfl, by decide +kernel, rfl, by decide +kernel, by decide +kernel⟩
section
variable {P : Program} {w : World} {K : PySem.W.Frag} {mg : Str → Option Value} {base : Heap} {f fP fD fO fR fX fT : Addr} {fd fdP fdD fdO fdR fdX fdT : FuncData} {C fI : Nat → Addr}
theorem ok_law (F : FnP K "law" (top 25) f fd) (V : Env K mg C fI) (FP : FnP K "_law_pen" (top 16) fP fdP) (FD : FnP K "_law_draw" (top 18) fD fdD) (FO : FnP K "_law_one_of" (top 19) fO fdO) (FR : FnP K "_law_right" (top 22) fR fdR) (FX : FnP K "_law_indexed" (top 23) fX fdX) (FT : FnP K "_law_others" (top 24) fT fdT)
    (GP : FnOk P w K mg base CX0 1 fP fdP ["script"] (spPen K)) (GD : FnOk P w K mg base CX0 2 fD fdD ["pen", "bound"] spDraw) (GO : FnOk P w K mg base CX0 3 fO fdO ["pen", "some"] spOne) (GR : FnOk P w K mg base CX0 2 fR fdR ["seat", "base", "made"] (spRight C))
    (GX : FnG P w K mg base 3 fX fdX ["count"] spIndexed) (GT : FnG P w K mg base 3 fT fdT ["count", "thing"] spOthers) (gP : mg "_law_pen" = some (.ref fP)) (gD : mg "_law_draw" = some (.ref fD)) (gO : mg "_law_one_of" = some (.ref fO)) (gR : mg "_law_right" = some (.ref fR))
    (gX : mg "_law_indexed" = some (.ref fX)) (gT : mg "_law_others" = some (.ref fT)) : FnG P w K mg base 4 f fd ["script"] (spLaw K) := by
  have bP : Binds K fdP ["script"] [] := FP.bindsN fun _ _ _ _ _ _ us hl => match us, hl with | [_], _ => rfl
  have bD : Binds K fdD ["pen", "bound"] [] := FD.bindsN fun _ _ _ _ _ _ us hl => match us, hl with | [_, _], _ => rfl
  have bO : Binds K fdO ["pen", "some"] [] := FO.bindsN fun _ _ _ _ _ _ us hl => match us, hl with | [_, _], _ => rfl
  have bR : Binds K fdR ["seat", "base", "made"] [] := FR.bindsN fun _ _ _ _ _ _ us hl => match us, hl with | [_, _, _], _ => rfl
  have bX : Binds K fdX ["count"] [] := FX.bindsN fun _ _ _ _ _ _ us hl => match us, hl with | [_], _ => rfl
  have bT : Binds K fdT ["count", "thing"] [] := FT.bindsN fun _ _ _ _ _ _ us hl => match us, hl with | [_, _], _ => rfl
  have o5 : Oe K valL "ValueError.__new__" (C 5) (fI 5) := V.T.oe 5 (by decide) (by decide)
  obtain ⟨fd5, I5⟩ := V.i5
  have G5 : FnOk P w K mg base CX0 1 (fI 5) fd5 ["self"] (spI K valL "ValueError.__new__" []) := ini5 I5 V.n_ValueError
  have o8 : Oe K runL "RuntimeError.__new__" (C 8) (fI 8) := V.T.oe 8 (by decide) (by decide)
  obtain ⟨fd8, I8⟩ := V.i8
  have G8 : FnOk P w K mg base CX0 1 (fI 8) fd8 ["self"] (spI K runL "RuntimeError.__new__" []) := ini8 I8 V.n_RuntimeError
  have o9 : Oe K runL "RuntimeError.__new__" (C 9) (fI 9) := V.T.oe 9 (by decide) (by decide)
  obtain ⟨fd9, I9⟩ := V.i9
  have G9 : FnOk P w K mg base CX0 1 (fI 9) fd9 ["self"] (spI K runL "RuntimeError.__new__" []) := ini9 I9 V.n_RuntimeError
  have o12 : Oe K runL "RuntimeError.__new__" (C 12) (fI 12) := V.T.oe 12 (by decide) (by decide)
  obtain ⟨fd12, I12⟩ := V.i12
  have G12 : FnOk P w K mg base CX0 1 (fI 12) fd12 ["self"] (spI K runL "RuntimeError.__new__" []) := ini12 I12 V.n_RuntimeError
  have o13 : Oe K runL "RuntimeError.__new__" (C 13) (fI 13) := V.T.oe 13 (by decide) (by decide)
  obtain ⟨fd13, I13⟩ := V.i13
  have G13 : FnOk P w K mg base CX0 1 (fI 13) fd13 ["self"] (spI K runL "RuntimeError.__new__" []) := ini13 I13 V.n_RuntimeError
  refine fnG_of F scL (fun vs H Q h => ?_) (fun cdv A outer s H vs Q hr hgd h => ?_)
  · obtain ⟨a, ns, rfl, _⟩ := h
    rfl
  have hr1 := hr.mono (by decide : 1 ≤ 3)
  have hr2 := hr.mono (by decide : 2 ≤ 3)
  refine ⟨_, PSs.nox (
    pss_cons (ps_set (i := 1) scL.nd rfl (Or.inl rfl) (pe_call GP hr1 rfl gP FP.kp bP .nil pass0 (pa_cons (pv 0) pa_nil)))
    (pss_cons (ps_for PassesOwn.never rfl (pi_range1 rfl V.n_range (pa_cons pe_int pa_nil)) (pg_name (i := 2) scL.nd rfl (Or.inl rfl))
      (pss_cons (ps_set (i := 3) scL.nd rfl (Or.inl rfl) (pe_call GO hr rfl gO FO.kp bO .nil pass0 (pa_cons (pv 1) (pa_cons (pe_lst (pa_cons pe_int (pa_cons pe_int (pa_cons pe_int (pa_cons (pe_call GD hr2 rfl gD FD.kp bD .nil pass0 (pa_cons (pv 1) (pa_cons (pe_op op_pow pe_int pe_int) pa_nil))) pa_nil))))) pa_nil))))
      (pss_cons (ps_set (i := 4) scL.nd rfl (Or.inl rfl) (pe_call GO hr rfl gO FO.kp bO .nil pass0 (pa_cons (pv 1) (pa_cons (pe_lst (pa_cons pe_non (pa_cons pe_bl (pa_cons pe_str (pa_cons (pe_tup (pa_cons pe_int (pa_cons pe_int pa_nil))) (pa_cons (pe_lst pa_nil) (pa_cons pe_dnewK (pa_cons (pv 3) (pa_cons (pe_un un_neg pe_int) pa_nil))))))))) pa_nil))))
      (pss_one (ps_if (PW.pt (pw_or (pt_not (pt_val (pe_callG GX hr hgd rfl gX FX.kp bX (pa_cons (pv 3) pa_nil)))) (pw_or1 (pt_not (pt_val (pe_callG GT hr hgd rfl gT FT.kp bT (pa_cons (pv 3) (pa_cons (pv 4) pa_nil)))))))) (pss_one (ps_ret pe_bl)) pss_nil)))))
    (pss_cons (ps_if (PW.pt (pw_or (pt_not (pt_val (pe_call GR hr2 rfl gR FR.kp bR .nil pass0 (pa_cons pe_int (pa_cons pe_int (pa_cons (pe_lst (pa_cons (pe_mk0 bas_val o5 G5 hr2 (bi5 I5) pass0 rfl V.T.g5) pa_nil)) pa_nil))))))
      (pw_or1 (pt_not (pt_val (pe_call GR hr2 rfl gR FR.kp bR .nil pass0 (pa_cons pe_int (pa_cons pe_int (pa_cons (pe_lst (pa_cons (pe_mk0 bas_run o8 G8 hr2 (bi8 I8) pass0 rfl V.T.g8) pa_nil)) pa_nil))))))))) (pss_one (ps_ret pe_bl)) pss_nil)
    (pss_cons (ps_if (PW.pt (pw_or (pt_not (pt_val (pe_call GR hr2 rfl gR FR.kp bR .nil pass0 (pa_cons pe_int (pa_cons pe_int (pa_cons (pe_lst (pa_cons (pe_mk0 bas_run o12 G12 hr2 (bi12 I12) pass0 rfl V.T.g12) pa_nil)) pa_nil))))))
      (pw_or1 (pt_not (pt_val (pe_call GR hr2 rfl gR FR.kp bR .nil pass0 (pa_cons pe_int (pa_cons pe_int (pa_cons (pe_lst (pa_cons (pe_mk0 bas_run o9 G9 hr2 (bi9 I9) pass0 rfl V.T.g9) pa_nil)) pa_nil))))))))) (pss_one (ps_ret pe_bl)) pss_nil)
    (pss_one (ps_ret (pe_call GR hr2 rfl gR FR.kp bR .nil pass0 (pa_cons pe_int (pa_cons pe_int (pa_cons (pe_lst (pa_cons (pe_mk0 bas_run o13 G13 hr2 (bi13 I13) pass0 rfl V.T.g13) pa_nil)) pa_nil)))))))))), ?_⟩
  obtain ⟨a, ns, rfl, hS, few, go⟩ := h
  refine ⟨_, rfl, a, ns, rfl, hS, few, fun p H0 pen0 k0 => ?_⟩
  refine ⟨3, rfl, by decide, by decide, for_range (n := 3) (fun i σ H' => ∃ (l c t : Option L2.V), σ = [some (.ref a), some (.ref p), l, c, t] ∧ Pen H' p (3 * i)) ⟨none, none, none, rfl, pen0⟩ ?_ ?_⟩
  · rintro i σ H1 hi ⟨l, c0, t0, rfl, pen1⟩
    refine ⟨_, rfl, _, rfl, _, _, rfl, rfl, cp60, p, _, 3 * i, rfl, pen1, by omega, big60.1, big60.2, fun x H2 x0 x1 pen2 b2 => ⟨four_fit, fun q1 hq1 => ?_⟩⟩
    have q1p : q1 ≠ p := by
      obtain ⟨g, seat, rest, ms, e1, _⟩ := pen2
      exact Ne.symm (ne_of_none e1 hq1)
    refine ⟨p, q1, _, 3 * i + 1, rfl, pen2.kept (Kept.same.new hq1), by omega, upd_same, q1p, Nat.le_of_ble_eq_true rfl, Nat.le_of_ble_eq_true rfl, fun v H3 hv pen3 b3 => ?_⟩
    obtain ⟨c, rfl, cl0, cl1⟩ := counts x0 x1 hv
    refine nameS (σ' := [some (.ref a), some (.ref p), some (.int (0 + (i : Int))), some (.int c), t0]) rfl ?_
    dsimp only
    refine seqI (asgI ?_)
    refine ⟨_, rfl, two_fit, fun t ht => ⟨Nat.zero_le _, fun l' hl => fun d hd => ⟨_, rfl, 1, rfl, eight_fit, fun q2 hq2 => ?_⟩⟩⟩
    have notp : ∀ {G : Hp} {z : Addr}, Kept H3 G → G z = none → z ≠ p := fun {G z} kG hz => by
      obtain ⟨g, seat, rest, ms, e1, _⟩ := pen3
      exact Ne.symm (ne_of_none (kG _ _ e1) hz)
    have kt : Kept H3 (upd H3 t (.tup [.int 0, .int 1])) := Kept.same.new ht
    have kl : Kept (upd H3 t (.tup [.int 0, .int 1])) (upd (upd H3 t (.tup [.int 0, .int 1])) l' (.lst [])) := Kept.same.new hl
    have kd : Kept (upd (upd H3 t (.tup [.int 0, .int 1])) l' (.lst [])) (upd (upd (upd H3 t (.tup [.int 0, .int 1])) l' (.lst [])) d (.dK [])) := Kept.same.new hd
    have kq : Kept (upd (upd (upd H3 t (.tup [.int 0, .int 1])) l' (.lst [])) d (.dK [])) (upd (upd (upd (upd H3 t (.tup [.int 0, .int 1])) l' (.lst [])) d (.dK [])) q2 (.lst [.non, .bl true, .str "zz", .ref t, .ref l', .ref d, .int c, .int (-1)])) := Kept.same.new hq2
    refine ⟨p, q2, _, 3 * i + 2, rfl, pen3.kept (kt.trans (kl.trans (kd.trans kq))), by omega, upd_same, notp (kt.trans (kl.trans kd)) hq2, Nat.le_of_ble_eq_true rfl, Nat.le_of_ble_eq_true rfl, fun v H4 hv pen4 b4 => ?_⟩
    obtain ⟨e, th, fe⟩ := things cl0 cl1 (b4 t _ (notp Kept.same ht) (kq _ _ (kd _ _ (kl _ _ upd_same)))) (b4 l' _ (notp kt hl) (kq _ _ (kd _ _ upd_same))) (b4 d _ (notp (kt.trans kl) hd) (kq _ _ upd_same)) hv
    refine nameS (σ' := [some (.ref a), some (.ref p), some (.int (0 + (i : Int))), some (.int c), some v]) rfl ?_
    dsimp only
    refine ifI (orI (notBI ?_))
    refine ⟨_, rfl, c, rfl, cl0, cl1, fun H5 k5 => ⟨true, rfl, no rfl ?_⟩⟩
    refine notBI ⟨_, rfl, _, rfl, c, v, e, rfl, cl0, cl1, th.kept k5, fe, fun H6 k6 => ⟨true, rfl, no rfl (no (c := false) (A := True) rfl ?_)⟩⟩
    exact ⟨_, _, _, rfl, (pen4.kept (k5.trans k6)).mono (by omega)⟩
  · rintro σ H1 ⟨l, c0, t0, rfl, pen1⟩
    dsimp only
    refine seqI (ifI (orI (notBI ?_)))
    refine right1 V.T (n := 5) (by decide) (by decide) rfl rfl rfl rfl fun H2 k2 => ⟨true, rfl, no rfl (notBI ?_)⟩
    refine right1 V.T (n := 8) (by decide) (by decide) rfl rfl rfl rfl fun H3 k3 => ⟨true, rfl, no rfl (no (c := false) (A := True) rfl ?_)⟩
    dsimp only
    refine seqI (ifI (orI (notBI ?_)))
    refine right1 V.T (n := 12) (by decide) (by decide) rfl rfl rfl rfl fun H4 k4 => ⟨true, rfl, no rfl (notBI ?_)⟩
    refine right1 V.T (n := 9) (by decide) (by decide) rfl rfl rfl rfl fun H5 k5 => ⟨true, rfl, no rfl (no (c := false) (A := True) rfl ?_)⟩
    dsimp only
    refine retI ?_
    exact right1 V.T (n := 13) (by decide) (by decide) rfl rfl rfl rfl fun H6 k6 => go H6
end
end K86

/-! k86: what the top leaves. -/
namespace K86
open PySem PySem.Spec PyProof.Rows L2 L2.NB PySem.NB NwS
/-! ### what is looked at -/
def cn (i : Nat) : Str := (["", "InvalidTable", "InvalidWaits", "InvalidOptions", "InvalidLinks", "InvalidClaim", "ParseError", "UnknownName", "NoRing", "NotSafe", "Refused", "CannotGo", "CannotHop", "NothingDone", "LimitExceeded"] : List Str).getD i ""
def cA (K : PySem.W.Frag) (i : Nat) : Addr := He.ga K (cn i)
def iA (K : PySem.W.Frag) (i : Nat) : Addr := He.ma K (cA K i) "__init__"
def dF (i : Nat) (x : Str) : He.DefD := ⟨(x, none), x, x, defArgs (top i), defBody (top i), defScope (top i), [], []⟩
def dI (i : Nat) (q : Str) : He.DefD := ⟨(cn i, some "__init__"), "__init__", q, defArgs (mth i), defBody (mth i), defScope (mth i), [], []⟩
def fns : List He.DefD := [dF 16 "_law_pen", dF 17 "_law_fresh", dF 18 "_law_draw", dF 19 "_law_one_of", dF 20 "_law_which", dF 21 "_law_base", dF 22 "_law_right", dF 23 "_law_indexed", dF 24 "_law_others", dF 25 "law",
  dI 1 "InvalidTable.__init__", dI 2 "InvalidWaits.__init__", dI 3 "InvalidOptions.__init__", dI 4 "InvalidLinks.__init__", dI 5 "InvalidClaim.__init__", dI 6 "ParseError.__init__", dI 7 "UnknownName.__init__", dI 8 "NoRing.__init__", dI 9 "NotSafe.__init__", dI 10 "Refused.__init__",
  dI 11 "CannotGo.__init__", dI 12 "CannotHop.__init__", dI 13 "NothingDone.__init__", dI 14 "LimitExceeded.__init__"]
def glos : List Str := ["_law_pen", "_law_fresh", "_law_draw", "_law_one_of", "_law_which", "_law_base", "_law_right", "_law_indexed", "_law_others", "law"]
def frees : List Str := ["ValueError", "LookupError", "RuntimeError", "OverflowError", "KeyError", "IndexError", "NotImplementedError", "int", "len", "list", "range", "isinstance", "enumerate", "repr"]
def clsB (K : PySem.W.Frag) (bm : List Value) (nid : String) (C : Addr) : Bool := match K.lookup C with
  | some ⟨.type t, _, .cls cd, sl⟩ => (match cd.mro, sl.toList with
    | .ref C' :: bm', [_, _, _, _, some (.builtin n), _] => t == "type" && C' == C && bm' == bm && n == nid && cd.hasDict && !cd.hasDel
    | _, _ => false)
  | _ => false
def xcB (K : PySem.W.Frag) (C : Addr) : Bool :=
  He.eqO (PySem.W.findIn K (.ref C) "__getattribute__") (some (some (.builtin "BaseException.__getattribute__"))) && He.eqO (PySem.W.findIn K (.ref C) "__getattr__") (some none) && decide (PySem.W.subIn K (.ref C) (.type "BaseException") = some true) &&
  PySem.W.hasDictIn K C && He.eqO (PySem.W.findIn K (.ref C) "__class__") (some (some (.builtin "object.__class__"))) && He.eqO (PySem.W.specialIn K (.builtin "object.__class__") "__get__") (some (some (.builtin "getset_descriptor.__get__"))) &&
  decide (PySem.W.takesIn K (.builtin "object.__class__") = some true) && decide (PySem.W.mroIn K C (.type "object") = some true)
def oeB (K : PySem.W.Frag) (bm : List Value) (nid : String) (C fI : Addr) : Bool :=
  clsB K bm nid C && He.eqO (PySem.W.findIn K (.ref C) "__setattr__") (some (some (.builtin "object.__setattr__"))) && xcB K C && decide (PySem.W.typeIn K (.ref C) = some (.type "type")) && PySem.W.keepIn K (.ref C) &&
  He.eqO (PySem.W.findIn K (.ref C) "__init__") (some (some (.ref fI))) && decide (PySem.W.typeIn K (.ref fI) = some (.type "function"))
def ids : List Nat := [1, 2, 3, 4, 5, 6, 7, 8, 9, 10, 11, 12, 13, 14]
def sysB (K : PySem.W.Frag) : Bool := match K.lookup sysModules with
  | some o => decide (o.cls = .type "dict")
  | none => false
def okB (K : PySem.W.Frag) : Bool :=
  (ids.all fun i => oeB K (bmI i) (nidI i) (cA K i) (iA K i)) && (ids.all fun i => He.eqO (PySem.W.nsIn K mainGlobals (cn i)) (some (some (.ref (cA K i))))) && decide (ids.map (cA K)).Nodup && (flds.all fun p => He.eqO (PySem.W.findIn K (.ref (cA K p.1)) p.2) (some none)) &&
  (frees.all fun x => He.eqO (PySem.W.nsIn K mainGlobals x) (some none)) && (glos.all fun x => He.eqO (PySem.W.nsIn K mainGlobals x) (some (some (.ref (He.ga K x))))) && sysB K
theorem clsB_ok {K : PySem.W.Frag} {bm : List Value} {nid : String} {C : Addr} (h : clsB K bm nid C = true) : ∃ nm q N bs sn sub ab col dd m0 m1 m2 m3 m5, K.lookup C = some (excClassObj nm q C N bs bm true sn sub ab col dd m0 m1 m2 m3 m5 nid) := by
  unfold clsB at h
  split at h
  · rename_i t dd cd sl ho
    split at h
    · rename_i C' bm' m0 m1 m2 m3 n m5 hm hs
      simp only [Bool.and_eq_true, beq_iff_eq, Bool.not_eq_true'] at h
      obtain ⟨⟨⟨⟨⟨rfl, rfl⟩, rfl⟩, rfl⟩, hd⟩, hdel⟩ := h
      obtain ⟨nm, bs, mro, ns, qn, hd', sn, sb, ab, col, del⟩ := cd
      dsimp only at hm hd hdel
      subst hm hd hdel
      obtain ⟨l⟩ := sl
      have hs' : l = [m0, m1, m2, m3, some (.builtin n), m5] := hs
      subst hs'
      exact ⟨nm, qn, ns, bs, sn, sb, ab, col, dd, m0, m1, m2, m3, m5, ho⟩
    · cases h
  · cases h
theorem oeB_ok {K : PySem.W.Frag} {bm : List Value} {nid : String} {C fI : Addr} (h : oeB K bm nid C fI = true) : Oe K bm nid C fI := by
  unfold oeB xcB at h
  simp only [Bool.and_eq_true, decide_eq_true_eq] at h
  obtain ⟨⟨⟨⟨⟨⟨h1, h2⟩, ⟨⟨⟨⟨⟨⟨⟨x1, x2⟩, x3⟩, x4⟩, x5⟩, x6⟩, x7⟩, x8⟩⟩, h3⟩, h4⟩, h5⟩, h6⟩ := h
  exact ⟨clsB_ok h1, He.eqO_ok h2, ⟨He.eqO_ok x1, He.eqO_ok x2, x3, x4, He.eqO_ok x5, He.eqO_ok x6, x7, x8⟩, h3, h4, He.eqO_ok h5, h6⟩
section
variable {P : Program} {w : World} {K : PySem.W.Frag} {h : Heap} {mg : Str → Option Value} {f : Addr}
theorem env_of (X : K.In h) (G : h.Ns mainGlobals mg) (ok : okB K = true) (c : He.SaysD [] fns K) : Env K mg (cA K) (iA K) := by
  unfold okB at ok
  simp only [Bool.and_eq_true, decide_eq_true_eq, List.all_eq_true] at ok
  obtain ⟨⟨⟨⟨⟨⟨o1, o2⟩, o3⟩, o4⟩, o5⟩, o6⟩, o7⟩ := ok
  have mem : ∀ i, 1 ≤ i → i ≤ 14 → i ∈ ids := fun i h1 h2 => by
    have z : ∀ j ∈ List.range 15, 1 ≤ j → j ∈ ids := by decide
    exact z i (List.mem_range.mpr (by omega)) h1
  have gl : ∀ i, 1 ≤ i → i ≤ 14 → mg (cn i) = some (.ref (cA K i)) := fun i h1 h2 => PySem.W.mg_of X G (He.eqO_ok (o2 i (mem i h1 h2)))
  have fr : ∀ x ∈ frees, mg x = none := fun x hx => PySem.W.mg_none_of X G (He.eqO_ok (o5 x hx))
  have inj : ∀ i j, 1 ≤ i → i ≤ 14 → 1 ≤ j → j ≤ 14 → cA K i = cA K j → i = j := fun i j h1 h2 h3 h4 e => by
    have hi : ids[i - 1]? = some i := by
      have z : ∀ j ∈ ids, ids[j - 1]? = some j := by decide
      exact z i (mem i h1 h2)
    have hj : ids[j - 1]? = some j := by
      have z : ∀ j ∈ ids, ids[j - 1]? = some j := by decide
      exact z j (mem j h3 h4)
    have li : i - 1 < (ids.map (cA K)).length := by
      rw [List.length_map]
      show i - 1 < 14
      omega
    have q := (List.getElem?_inj (j := j - 1) li o3).mp (by rw [List.getElem?_map, List.getElem?_map, hi, hj, Option.map_some, Option.map_some, e])
    omega
  have hS : ∃ o, K.lookup sysModules = some o ∧ o.cls = .type "dict" := by
    unfold sysB at o7
    split at o7
    · rename_i o ho
      exact ⟨o, ho, of_decide_eq_true o7⟩
    · cases o7
  have T : Tab K mg (cA K) (iA K) := ⟨fun i h1 h2 => oeB_ok (o1 i (mem i h1 h2)), inj, gl 1 (by decide) (by decide), gl 2 (by decide) (by decide), gl 3 (by decide) (by decide), gl 4 (by decide) (by decide), gl 5 (by decide) (by decide), gl 6 (by decide) (by decide), gl 7 (by decide) (by decide), gl 8 (by decide) (by decide), gl 9 (by decide) (by decide), gl 10 (by decide) (by decide), gl 11 (by decide) (by decide), gl 12 (by decide) (by decide), gl 13 (by decide) (by decide), gl 14 (by decide) (by decide)⟩
  exact {
    T := T
    no := fun p hp => He.eqO_ok (o4 p hp)
    hS := hS
    i1 := c.def_ 10 (d := dI 1 "InvalidTable.__init__") rfl, i2 := c.def_ 11 (d := dI 2 "InvalidWaits.__init__") rfl, i3 := c.def_ 12 (d := dI 3 "InvalidOptions.__init__") rfl, i4 := c.def_ 13 (d := dI 4 "InvalidLinks.__init__") rfl
    i5 := c.def_ 14 (d := dI 5 "InvalidClaim.__init__") rfl, i6 := c.def_ 15 (d := dI 6 "ParseError.__init__") rfl, i7 := c.def_ 16 (d := dI 7 "UnknownName.__init__") rfl, i8 := c.def_ 17 (d := dI 8 "NoRing.__init__") rfl
    i9 := c.def_ 18 (d := dI 9 "NotSafe.__init__") rfl, i10 := c.def_ 19 (d := dI 10 "Refused.__init__") rfl, i11 := c.def_ 20 (d := dI 11 "CannotGo.__init__") rfl, i12 := c.def_ 21 (d := dI 12 "CannotHop.__init__") rfl
    i13 := c.def_ 22 (d := dI 13 "NothingDone.__init__") rfl, i14 := c.def_ 23 (d := dI 14 "LimitExceeded.__init__") rfl
    n_ValueError := fr _ (by decide +kernel), n_LookupError := fr _ (by decide +kernel), n_RuntimeError := fr _ (by decide +kernel), n_OverflowError := fr _ (by decide +kernel), n_KeyError := fr _ (by decide +kernel), n_IndexError := fr _ (by decide +kernel)
    n_NotImplementedError := fr _ (by decide +kernel), n_int := fr _ (by decide +kernel), n_len := fr _ (by decide +kernel), n_list := fr _ (by decide +kernel), n_range := fr _ (by decide +kernel), n_isinstance := fr _ (by decide +kernel), n_enumerate := fr _ (by decide +kernel), n_repr := fr _ (by decide +kernel) }
theorem law_of (X : K.In h) (G : h.Ns mainGlobals mg) (ok : okB K = true) (c : He.SaysD [] fns K) (hf : mg ("law" : Str) = some (.ref f)) :
    ∃ fd : FuncData, (∀ (s : Shared) (v : Value), BindsTo s fd ⟨[v], []⟩ [("script", v)]) ∧ ∀ base : Heap, K.In base → base.Ns mainGlobals mg → FnG P w K mg base 4 f fd ["script"] (spLaw K) := by
  have V := env_of X G ok c
  have gl : ∀ x ∈ glos, mg x = some (.ref (He.ga K x)) := fun x hx => by
    unfold okB at ok
    simp only [Bool.and_eq_true, decide_eq_true_eq, List.all_eq_true] at ok
    exact PySem.W.mg_of X G (He.eqO_ok (ok.1.2 x hx))
  obtain ⟨fdP, FP⟩ := c.def_ 0 (d := dF 16 "_law_pen") rfl
  obtain ⟨fdF, FF⟩ := c.def_ 1 (d := dF 17 "_law_fresh") rfl
  obtain ⟨fdD, FD⟩ := c.def_ 2 (d := dF 18 "_law_draw") rfl
  obtain ⟨fdO, FO⟩ := c.def_ 3 (d := dF 19 "_law_one_of") rfl
  obtain ⟨fdW, FW⟩ := c.def_ 4 (d := dF 20 "_law_which") rfl
  obtain ⟨fdB, FB⟩ := c.def_ 5 (d := dF 21 "_law_base") rfl
  obtain ⟨fdR, FR⟩ := c.def_ 6 (d := dF 22 "_law_right") rfl
  obtain ⟨fdX, FX⟩ := c.def_ 7 (d := dF 23 "_law_indexed") rfl
  obtain ⟨fdT, FT⟩ := c.def_ 8 (d := dF 24 "_law_others") rfl
  obtain ⟨fd, F⟩ := c.def_ 9 (d := dF 25 "law") rfl
  have e := hf.symm.trans (gl "law" (by decide +kernel))
  cases e
  have b := FunD.bindsA (ps := ["script"]) F fun _ _ _ _ _ _ us hl => match us, hl with | [_], _ => rfl
  refine ⟨fd, fun s v => b s [v] rfl, fun base _ _ => ?_⟩
  have gP := gl "_law_pen" (by decide +kernel)
  have gF := gl "_law_fresh" (by decide +kernel)
  have gD := gl "_law_draw" (by decide +kernel)
  have gO := gl "_law_one_of" (by decide +kernel)
  have gW := gl "_law_which" (by decide +kernel)
  have gB := gl "_law_base" (by decide +kernel)
  have gR := gl "_law_right" (by decide +kernel)
  have gX := gl "_law_indexed" (by decide +kernel)
  have gT := gl "_law_others" (by decide +kernel)
  have GW := ok_which (P := P) (w := w) (base := base) FW V.T V.n_isinstance V.n_enumerate
  have GB := ok_base (P := P) (w := w) (base := base) FB V.T V.n_isinstance V.n_enumerate V.n_ValueError V.n_LookupError V.n_RuntimeError V.n_OverflowError V.n_KeyError V.n_IndexError V.n_NotImplementedError
  have GR := ok_right FR FW FB GW GB gW gB
  exact ok_law F V FP FD FO FR FX FT (ok_pen FP V.n_list) (ok_draw FD FF gF V.n_int V.n_len V.n_range) (ok_one FO FD FF gD gF V.n_int V.n_len V.n_range) GR (ok_indexed FX V FR GR gR) (ok_others FT V FR GR gR) gP gD gO gR gX gT
end
end K86

/-! k86: the end. -/
namespace K86
open PySem PySem.Spec PyProof.Rows L2 L2.NB PySem.NB NwS
/-- the law is called where nothing is guarded -/
theorem callLaw {P : Program} {w : World} {K : PySem.W.Frag} {mg mb : Str → Option Value} {k : Nat} {fa a : Addr} {fd : FuncData} {x : Str} {sp : Sp} {s1 : Shared} {vs : List Value} {ns : List Int}
    (KX : K.In s1.heap) (hns : s1.heap.Ns mainGlobals mg) (hb : s1.heap.Ns builtinsNs mb) (hbb : ∀ x : Str, x ≠ "__name__" → mb x = bootBuiltins x) (hlim : s1.heap.NoLimit) (hg : s1.gens = #[])
    (ha : s1.heap.get? a = some { cls := .type "list", data := .seq vs.toArray }) (hi : IntsAre vs ns) (hl : ns.length ≤ sizeLine) (hr : Room k callerA)
    (F : ∀ base : Heap, K.In base → base.Ns mainGlobals mg → FnG P w K mg base k fa fd [x] sp) (hbind : ∀ (s : Shared) (u : Value), BindsTo s fd ⟨[u], []⟩ [(x, u)])
    (hsp : ∀ H : Hp, Only H → SqL K H a (ns.map V.int) → sp [.ref a] H (fun v _ => v = .bl true) E0) :
    codeAny (model P w) callerA (.call (.ref fa) ⟨[.ref a], []⟩) (fun r s' => r = .ok (.ret (.bool true)) ∧ OldK s1.heap s'.heap ∧ s'.os = s1.os ∧ AllBare s'.gens) s1 := by
  have lenV := hi.length
  -- the script tracked alone, or nothing tracked
  suffices main : ∀ H : Hp, Only H → SqL K H a (ns.map V.int) → HOk P w H s1.heap → (∀ b, H b ≠ none → b = a) → (H a ≠ none → K.lookup a = none) →
      codeAny (model P w) callerA (.call (.ref fa) ⟨[.ref a], []⟩) (fun r s' => r = .ok (.ret (.bool true)) ∧ OldK s1.heap s'.heap ∧ s'.os = s1.os ∧ AllBare s'.gens) s1 by
    cases hk : K.lookup a with
    | some o =>
      have e := KX a o hk
      rw [ha] at e
      cases e
      exact main (fun _ => none) (fun _ => .inl rfl) (.inr ⟨_, vs.toArray, _, hk, rfl, rfl, rfl, by rw [List.size_toArray, lenV]; exact hl, by simpa using vals_ints hi⟩) (fun b u z => by
        have z' : (none : Option HO) = some u := z
        cases z') (fun b z => absurd rfl z) fun z => absurd rfl z
    | none =>
      have at_a : ∀ b, (if b = a then some (HO.frz { cls := .type "list", data := .seq vs.toArray } (.lst (ns.map V.int))) else none) ≠ none → b = a := fun b z => by
        by_cases q : b = a
        · exact q
        · exact absurd (if_neg q) z
      refine main (fun b => if b = a then some (.frz { cls := .type "list", data := .seq vs.toArray } (.lst (ns.map V.int))) else none) (fun b => ?_) (.inl (.inr ⟨{ cls := .type "list", data := .seq vs.toArray }, if_pos rfl⟩)) (fun b u z => ?_) at_a fun _ => hk
      · by_cases q : b = a
        · exact .inr ⟨_, _, if_pos q⟩
        · exact .inl (if_neg q)
      · have q := at_a b fun y => by
          have y' := z.symm.trans y
          cases y'
        subst q
        have z' := (if_pos rfl).symm.trans z
        cases z'
        exact ⟨ha, by rw [List.length_map]; exact hl, vs, _, vals_ints hi, ha⟩
  intro H hO hS hok hA hK
  have notdict : ∀ {b : Addr} {o : Obj} {es : Array DictEntry} {ep : Nat}, s1.heap.get? b = some o → o.data = .dict es ep → H b = none := fun {b o es ep} e d => by
    cases q : H b with
    | none => rfl
    | some u =>
      have z := hA b (by rw [q]; simp)
      rw [z, ha] at e
      cases e
      have d' : Data.seq vs.toArray _ = Data.dict es ep := d
      cases d'
  have ns2 : ∀ {b : Addr} {m : Str → Option Value}, s1.heap.Ns b m → (hidT s1.heap H).Ns b m := fun {b m} ⟨o, es, ep, e, d, r⟩ => ⟨o, es, ep, hidT_get e (notdict e d), d, r⟩
  have hKb : K.In (hidT s1.heap H) := fun b o e => hidT_get (KX b o e) (by
    cases q : H b with
    | none => rfl
    | some u =>
      have z := hA b (by rw [q]; simp)
      subst z
      rw [hK (by rw [q]; simp)] at e
      cases e)
  have hM : Mod K mg (hidT s1.heap H) := ⟨hKb, ns2 hns, ⟨mb, ns2 hb, hbb⟩, let ⟨mc, h1, h2⟩ := hlim; ⟨mc, ns2 h1, h2⟩⟩
  have e0 : Env0 P w K mg (hidT s1.heap H) callerA [] s1 H := ⟨rfl, hM, fun b o e => of_hidT e, Nat.le_of_eq (hidT_size _ _), trivial, fun b hb => absurd (show b ∈ ([] : List Addr) from hb) (by simp), hok, .of_eq hg⟩
  refine codeAny_mono ((F _ hKb (ns2 hns)).run callerA [] s1 H ⟨[.ref a], []⟩ [.ref a] [.ref a] _ hr rfl e0 (hbind s1 (.ref a)) (.cons rfl .nil) (hsp H hO hS)) fun r s' h => ?_
  cases r with
  | error e => exact h.elim
  | ok fl =>
    cases fl with
    | next => exact False.elim h
    | brk => exact False.elim h
    | cont => exact False.elim h
    | ret u =>
      obtain ⟨v, H', os, bare, un, hok', r', q⟩ := h
      obtain rfl : v = V.bl true := q
      obtain rfl : u = Value.bool true := r'
      refine ⟨rfl, OldK.of_keep fun b o e => ?_, os, bare⟩
      cases q : H b with
      | none => exact un.keep b o e q (by intro z; exact absurd (show b ∈ ([] : List Addr) from z) (by simp)) (by simp)
      | some u =>
        rcases hO b with z | ⟨ob, xs, z⟩
        · rw [q] at z
          cases z
        · have z2 := un.frzs b ob _ z
          obtain ⟨e1, _⟩ := hok b _ z
          obtain ⟨e2, _⟩ := hok' b _ z2
          rw [e] at e1
          cases e1
          exact e2
theorem walkG {l : PySem.W.OpenLaw} {n k : Nat} {q : Program} {loose : List Str} {XP : (Str → Option Value) → Heap → Prop} {YP : World → Heap → Prop} {d : DefRec} {x : Str}
    (hn : l.most = some n) (hn2 : n ≤ sizeLine) (hdf : d.params.defaults = []) (hr : Room k callerA)
    (F : ∀ (w : World) (mg : Str → Option Value) (fa : Addr) (h : Heap), YP w h → h.Ns mainGlobals mg → mg d.name = some (.ref fa) →
      ∃ (K : PySem.W.Frag) (fd : FuncData) (sp : Sp), K.In h ∧ (∀ (s : Shared) (u : Value), BindsTo s fd ⟨[u], []⟩ [(x, u)]) ∧
        (∀ (H : Hp) (a : Addr) (ns : List Int), ns.length ≤ n → Only H → SqL K H a (ns.map V.int) → sp [.ref a] H (fun v _ => v = .bl true) E0) ∧
        ∀ base : Heap, K.In base → base.Ns mainGlobals mg → FnG l.prog w K mg base k fa fd [x] sp) :
    PySem.W.WalkO q loose XP YP l.row.toRowW d [] (fun f vs => PySem.call f vs) := by
  refine Att.attach_call hn hdf fun w s0 s1 mg mb fa o pm cd doc a vs ns G Y ho hd hcd hmg hobj hints hlen hg => ?_
  obtain ⟨K, fd, sp, KX, hb, hsp, hF⟩ := F w mg fa _ Y G.T.g hmg
  exact callLaw KX G.T.g G.T.b G.T.builtins G.T.nolimit hg hobj hints (Nat.le_trans hlen hn2) hr hF hb fun H hO hS => hsp H a ns hlen hO hS
/-! ### the head -/
abbrev R : PySem.W.OpenRow := PySem.W.OpenLaw.row PySem.Challenge.rw_nevergoback_k86_errors_required
abbrev qv : Program := PySem.W.view R.prog [25]
def names : List PySem.Str := ["InvalidTable", "InvalidWaits", "InvalidOptions", "InvalidLinks", "InvalidClaim", "ParseError", "UnknownName", "NoRing", "NotSafe", "Refused", "CannotGo", "CannotHop", "NothingDone", "LimitExceeded", "_law_pen", "_law_fresh", "_law_draw", "_law_one_of", "_law_which", "_law_base", "_law_right", "_law_indexed", "_law_others"]
def seen (K : PySem.W.Frag) : Bool × He.AlD := (okB K, He.obsD [] fns K)
def obsG (g : Addr → Option Obj) : Bool × He.AlD := seen (He.frG g (sysModules :: He.asD g 5))
def hk : PySem.W.Hook where
  α := Bool × He.AlD
  obs := fun s => obsG s.heap.get?
  val := fun _ => (true, He.valD fns)
  says := fun _ h => ∃ K : PySem.W.Frag, K.In h ∧ okB K = true ∧ He.SaysD [] fns K
  of := fun _ _ e => ⟨_, He.frG_in, congrArg Prod.fst e, congrArg Prod.snd e⟩
  keeps := fun _ _ _ ⟨K, hK, c⟩ k => ⟨K, PySem.W.Frag.In.keeps hK k, c⟩
def ob (s : PySem.W.SharedT) : Bool × He.AlD := obsG (HandSHeadRun.getT s)
theorem ob_eq (s : PySem.W.SharedT) : ob s = hk.obs s.abs := by
  have e : HandSHeadRun.getT s = s.abs.heap.get? := funext (HandSHeadRun.getT_eq s)
  show obsG (HandSHeadRun.getT s) = obsG s.abs.heap.get?
  rw [e]
theorem run (w : World) : HandSHeadRun.RunEq R qv hk ob 15000 names w := by
  intro os
  kernel_rfl
end K86
open PySem PySem.W PySem.Calls PyProof.Rows
theorem PySem.Challenge.cw_nevergoback_k86_errors_required_holds : PySem.Challenge.rw_nevergoback_k86_errors_required.Holds := by
  w_on; o_law
  refine HandSHeadRun.head_any (r := OpenLaw.row PySem.Challenge.rw_nevergoback_k86_errors_required) (q := K86.qv) (H := K86.hk) (ob := K86.ob) (M := 15000) (loose := K86.names) (d := HandSHeadRun.topDef (OpenLaw.row PySem.Challenge.rw_nevergoback_k86_errors_required).prog 25) (kwd := []) K86.ob_eq
    (by kernel_rfl) (fun s => by kernel_rfl) K86.run (by kernel_rfl) (by kernel_rfl) (by kernel_rfl) (by rfl) (by first | assumption | decide +kernel) (by decide +kernel) ⟨rfl, rfl, rfl, rfl, rfl, by decide +kernel⟩ ?hw ?hc
  case hw => w_witness2
  case hc =>
    refine K86.walkG (l := PySem.Challenge.rw_nevergoback_k86_errors_required) (n := 63) (k := 4) (x := "script") rfl (by decide) (by kernel_rfl) ⟨rfl, by decide, by decide⟩ ?F
    intro w mg fa h Y G hmg0
    obtain ⟨K, KX, ok, c⟩ := Y
    have hmg : mg ("law" : PySem.Str) = some (.ref fa) := by
      have e : (HandSHeadRun.topDef (OpenLaw.row PySem.Challenge.rw_nevergoback_k86_errors_required).prog 25).name = ("law" : PySem.Str) := by kernel_rfl
      rw [← e]
      exact hmg0
    obtain ⟨fd, hb, hF⟩ := K86.law_of (P := (PySem.Challenge.rw_nevergoback_k86_errors_required).prog) (w := w) KX G ok c hmg
    exact ⟨K, fd, K86.spLaw K, KX, hb, fun H a ns hl _ hS => ⟨a, ns, rfl, hS, hl, fun _ => rfl⟩, hF⟩

