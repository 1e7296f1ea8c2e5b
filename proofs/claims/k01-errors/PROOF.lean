import PyProof.Rows.All
import Wide.All
import OpenK.AllK
import Wide.FinOn
import KE.KExcSuper
import HandS.ForMost
import HandS.Exc
import HandS.ExcInit
import HandS.Defaults
import HandS.ExcField
import HandS.IsInst
import KE.KExcIs
import HandS.HeadEnd
import HandS.Head0
import HandS.Head1
import HandS.Head2
import HandS.HeadHook1
import HandS.HeadHook2
import HandS.HeadHook3
import HandS.HeadHook4
import PySem.Challenge.RW_wholelots_k01_errors
set_option Elab.async false
set_option linter.all false
set_option maxRecDepth 100000
set_option maxHeartbeats 4000000
namespace Xr
open PySem PySem.W PySem.Calls PyProof.Rows PySem.Spec
/-! KeyError, as the other bases -/
theorem keySuper : KxsFacts "KeyError" "KeyError.__init__" :=
  ⟨by show builtinType _ = _; rw [builtinType_eq_fast]; kernel_rfl, by first | kernel_rfl | rfl⟩
theorem keyBound : builtinKind "KeyError.__init__" = some .slot ∧ splitId "KeyError.__init__" = some ("KeyError", "__init__") := ⟨by kernel_rfl, by kernel_rfl⟩
theorem keyRow : Manifest.signature? "KeyError.__init__" = some ⟨.positional, "*", "KeyError", .self, [⟨"args", .varPos, false⟩]⟩ := by kernel_rfl
theorem keyEntry : entryFor table "KeyError.__init__" = some Builtin.«BaseException.__init__» :=
  entryFor_alias (id' := "BaseException.__init__") (by rw [fastTable_eq_tree]; kernel_rfl) (by first | rfl | decide +kernel)
    (by decide +kernel) (by rw [fastTable_eq_tree]; kernel_rfl)
theorem keyPlain : plainId "KeyError.__init__" = true := by decide +kernel
theorem keyMade : Bind.madeBy (.type "KeyError") = pure (some "LookupError.__new__") := by kernel_rfl
end Xr
set_option maxHeartbeats 4000000
namespace Xr
open PySem PySem.W PySem.Calls PyProof.Rows PySem.Spec
/-- one base of the errors: the class B whose __init__ is ini; its __new__ is nw, of the class N -/
structure BaseF (B ini N nw : String) (bmB : List Value) : Prop where
  f : ∃ i bm, ExcBaseFacts N nw i bm
  hN : bmB.contains (.type N) = true
  hB : bmB.contains (.type B) = true
  noA : bmB.contains (.type "AttributeError") = false
  noE : bmB.contains (.type "NameError") = false
  exc : bmB.contains (.type "BaseException") = true
  obj : bmB.contains (.type "object") = true
  k : KxsFacts B ini
  kind : builtinKind ini = some .slot
  row : Manifest.signature? ini = some ⟨.positional, "*", B, .self, [⟨"args", .varPos, false⟩]⟩
  entry : entryFor table ini = some Builtin.«BaseException.__init__»
  plain : plainId ini = true
  ns : (B != "*") = true
  pass : ∀ self : Value, refuseLoop self "__setattr__" bmB = pure ()
theorem of_facts {B ini nw : String} {bm : List Value} (F : ExcBaseFacts B nw ini bm) (k : KxsFacts B ini) (h : bm.contains (.type "object") = true) (p : ∀ self : Value, refuseLoop self "__setattr__" bm = pure ()) : BaseF B ini B nw bm :=
  ⟨⟨_, _, F⟩, F.hasB, F.hasB, F.noAttr, F.noName, F.hasBase, h, k, F.initKind, F.initRow, F.initEntry, F.init.plain, F.noStar, p⟩
abbrev tlV : List Value := [.type "ValueError", .type "Exception", .type "BaseException", .type "object"]
abbrev tlK : List Value := [.type "KeyError", .type "LookupError", .type "Exception", .type "BaseException", .type "object"]
abbrev tlL : List Value := [.type "LookupError", .type "Exception", .type "BaseException", .type "object"]
abbrev tlI : List Value := [.type "IndexError", .type "LookupError", .type "Exception", .type "BaseException", .type "object"]
abbrev tlR : List Value := [.type "RuntimeError", .type "Exception", .type "BaseException", .type "object"]
abbrev tlO : List Value := [.type "OverflowError", .type "ArithmeticError", .type "Exception", .type "BaseException", .type "object"]
theorem bfV : BaseF "ValueError" "ValueError.__init__" "ValueError" "ValueError.__new__" tlV := of_facts F.excBase_ValueError kxs_ValueError (by decide +kernel) fun _ => by kernel_rfl
theorem bfL : BaseF "LookupError" "LookupError.__init__" "LookupError" "LookupError.__new__" tlL := of_facts F.excBase_LookupError kxs_LookupError (by decide +kernel) fun _ => by kernel_rfl
theorem bfI : BaseF "IndexError" "IndexError.__init__" "IndexError" "IndexError.__new__" tlI := of_facts F.excBase_IndexError kxs_IndexError (by decide +kernel) fun _ => by kernel_rfl
theorem bfR : BaseF "RuntimeError" "RuntimeError.__init__" "RuntimeError" "RuntimeError.__new__" tlR := of_facts F.excBase_RuntimeError kxs_RuntimeError (by decide +kernel) fun _ => by kernel_rfl
theorem bfO : BaseF "OverflowError" "OverflowError.__init__" "OverflowError" "OverflowError.__new__" tlO := of_facts F.excBase_OverflowError kxs_OverflowError (by decide +kernel) fun _ => by kernel_rfl
theorem bfK : BaseF "KeyError" "KeyError.__init__" "LookupError" "LookupError.__new__" tlK :=
  ⟨⟨_, _, F.excBase_LookupError⟩, by decide +kernel, by decide +kernel, by decide +kernel, by decide +kernel, by decide +kernel, by decide +kernel, keySuper, keyBound.1, keyRow, keyEntry, keyPlain, by decide +kernel, fun _ => by kernel_rfl⟩

/-- the object of an error that has no dict yet | whose dict is at d -/
abbrev exOb (C t : Addr) (d : Option Addr) : Obj := { cls := .ref C, dict := d, data := .fields #[.ref t, .none, .none, .none, .bool false, .none] }
section
variable {M : Model} {A : Around} {E : Value → Shared → Prop} {h : Heap} {g : Array GenState} {d : Drawn} {t : Nat} {os : OsState}
variable {nm q : Str} {C NS : Addr} {bs bm bmB : List Value} {hdct : Bool} {sn : List Str} {sub : List Value} {ab : Bool} {col : Option Bool} {dd : Option Addr} {k0 k1 k2 k3 k5 : Option Value} {B ini N nw : String}
abbrev clO (nm q : Str) (C NS : Addr) (bs bm : List Value) (hdct : Bool) (sn : List Str) (sub : List Value) (ab : Bool) (col : Option Bool) (dd : Option Addr) (k0 k1 k2 k3 k5 : Option Value) (nw : String) : Obj :=
  excClassObj nm q C NS bs bm hdct sn sub ab col dd k0 k1 k2 k3 k5 nw
theorem chkNew {i : String} {bN : List Value} (F : ExcBaseFacts N nw i bN) (hb : bm.contains (.type N) = true) {rest : List Value} {kw : List (Str × Value)} {Q : Unit → Shared → Prop}
    (hC : h.get? C = some (clO nm q C NS bs bm hdct sn sub ab col dd k0 k1 k2 k3 k5 nw)) (hq : Q () ⟨h, g, d, t, os⟩) :
    wpAny M A (checkBuiltinCall nw ⟨.ref C :: rest, kw⟩) Q E ⟨h, g, d, t, os⟩ := by
  have hin : (Value.ref C :: bm).contains (.type N) = true := by rw [List.contains_cons, hb, Bool.or_true]
  have hs := F.noStar
  simp only [checkBuiltinCall, F.newKind, F.newSplit, F.newRow]
  repeat (first
    | refine wpAny_loadPart_at hC ?_
    | (refine wpAny_isSubtype_exc hC ?_; rw [hin])
    | refine wpAny_staticBase_exc hC ?_
    | refine wpAny_madeBy_exc hC ?_
    | simp only [bne_self_eq_false, Bool.false_eq_true, if_false]
    | wp_step)
  exact hq
end
section
variable {prog : Program} {w : World} {A : Around} {E : Value → Shared → Prop} {R : Result → Shared → Prop} {h : Heap} {g : Array GenState} {d : Drawn} {t : Nat} {os : OsState}
variable {nm q : Str} {C NS : Addr} {bs bm bmB : List Value} {hdct : Bool} {sn : List Str} {sub : List Value} {ab : Bool} {col : Option Bool} {dd : Option Addr} {k0 k1 k2 k3 k5 : Option Value} {B ini N nw : String}
theorem newRun {i : String} {bN : List Value} (F : ExcBaseFacts N nw i bN) (hB : bm.contains (.type N) = true) (hA : bm.contains (.type "AttributeError") = false) (hE : bm.contains (.type "NameError") = false)
    {rest : List Value} {kw : List (Str × Value)} (hC : h.get? C = some (clO nm q C NS bs bm hdct sn sub ab col dd k0 k1 k2 k3 k5 nw)) (hz : rest.length ≤ sizeLine)
    (hq : R (.ok (.ret (.ref (h.objs.size + 1)))) ⟨(h.push (kdv_tup rest)).push (exOb C h.objs.size none), g, d, t, os⟩) :
    codeAny (model prog w) A (.builtin nw ⟨.ref C :: rest, kw⟩) R ⟨h, g, d, t, os⟩ := by
  have he := F.ends
  have c1 : (Value.ref C :: bm).contains (.type N) = true := by rw [List.contains_cons, hB, Bool.or_true]
  have c2 : (Value.ref C :: bm).contains (.type "AttributeError") = false := by rw [List.contains_cons, hA]; rfl
  have c3 : (Value.ref C :: bm).contains (.type "NameError") = false := by rw [List.contains_cons, hE]; rfl
  refine codeAny_builtinAt F.entry ?_
  unfold Builtin.«BaseException.__new__»
  refine PySem.wpAt_bind ?_
  show PySem.wpAt _ _ _ (stack >>= _) _ _ _
  refine PySem.wpAt_bind (PySem.wpAt_stack fun p below => PySem.wpAt_of_wpAny ?_)
  wp_walk
  refine PySem.wpAt_of_wpAny ?_
  rw [F.owner]
  repeat (first
    | with_reducible refine wpAny_madeHere_exc F.canon hC ?_
    | with_reducible refine wpAny_loadPart_at hC ?_
    | (with_reducible refine wpAny_isSubtype_exc hC ?_; first | rw [c1] | rw [c2] | rw [c3])
    | wp_step)
  show R _ _
  rw [Heap.size_push]
  exact hq
theorem typeCall {i : String} {bN : List Value} (F : ExcBaseFacts N nw i bN) (hB : bm.contains (.type N) = true) (hA : bm.contains (.type "AttributeError") = false) (hE : bm.contains (.type "NameError") = false)
    {rest : List Value} {kw : List (Str × Value)} {fI : Addr} {Q : Fin → Shared → Prop} (hC : h.get? C = some (clO nm q C NS bs bm hdct sn sub ab col dd k0 k1 k2 k3 k5 nw))
    (hi : Looks (model prog w) h (typeLookup (.ref C) "__init__") (some (.ref fI))) (hb : ∀ self, Looks (model prog w) h (bindSpecial (.ref fI) self) (.ref fI, [self])) (hz : rest.length ≤ sizeLine)
    (hq : codeAny (model prog w) A (.call (.ref fI) ⟨.ref (h.objs.size + 1) :: rest, kw⟩)
      (fun r s' => match r with
        | .ok (.ret v) => v = .none ∧ Q (.done (.ret (.ref (h.objs.size + 1)))) s'
        | .ok _ => False
        | .error e => E e s')
      ⟨(h.push (kdv_tup rest)).push (exOb C h.objs.size none), g, d, t, os⟩) :
    wpAny (model prog w) A (Builtin.«type.__call__» ⟨.ref C :: rest, kw⟩) Q E ⟨h, g, d, t, os⟩ := by
  repeat (first
    | with_reducible refine wpAny_loadPart_at hC ?_
    | with_reducible refine wpAny_madeBy_exc hC ?_
    | wp_step)
  refine codeAny_call_builtin_code (Code.quiet_builtin _ F.quiet) (chkNew F hB hC ?_)
  refine newRun F hB hA hE hC hz ?_
  show wpAny _ _ _ _ _ _
  have k : ∀ b o, h.get? b = some o → ((h.push (kdv_tup rest)).push (exOb C h.objs.size none)).get? b = some o :=
    fun b o e => Heap.get?_push_of_some _ (Heap.get?_push_of_some _ e)
  have c1 := k _ _ hC
  have c2 : ((h.push (kdv_tup rest)).push (exOb C h.objs.size none)).get? (h.objs.size + 1) = some (exOb C h.objs.size none) := by heap_get
  have c3 : (Value.ref C :: bm).contains (.ref C) = true := by simp
  have i1 := hi.keeps k
  have b1 := (hb (.ref (h.objs.size + 1))).keeps k
  unfold isInstance
  repeat (first
    | with_reducible refine wpAny_loadPart_at c2 ?_
    | (with_reducible refine wpAny_isSubtype_exc c1 ?_; rw [c3])
    | wp_step)
  show wpAny _ _ (typeLookup (.ref C) _) _ _ _
  refine i1.at ?_
  refine wpAny_holding (wpAny_bind (b1.at ?_))
  refine wpAny_bind (wpAny_call (codeAny_mono hq fun r s' z => ?_))
  rcases r with e | (v | _ | _ | _) <;> first | exact z | exact z.elim | skip
  obtain ⟨rfl, z⟩ := z
  first
    | exact wpAny_pure (wpAny_pure z)
    | (wp_walk; exact z)
/-- C(..) for an error's class: __new__ lays the args and the object, then the own __init__ -/
theorem callOwn {i : String} {bN : List Value} (F : ExcBaseFacts N nw i bN) (hB : bm.contains (.type N) = true) (hA : bm.contains (.type "AttributeError") = false) (hE : bm.contains (.type "NameError") = false)
    {rest : List Value} {kw : List (Str × Value)} {fI : Addr} (hC : h.get? C = some (clO nm q C NS bs bm hdct sn sub ab col dd k0 k1 k2 k3 k5 nw))
    (hi : Looks (model prog w) h (typeLookup (.ref C) "__init__") (some (.ref fI))) (hb : ∀ self, Looks (model prog w) h (bindSpecial (.ref fI) self) (.ref fI, [self])) (hz : rest.length ≤ sizeLine)
    (hq : codeAny (model prog w) (A.under (.builtin "type.__call__" ⟨.ref C :: rest, kw⟩)) (.call (.ref fI) ⟨.ref (h.objs.size + 1) :: rest, kw⟩) (InitBack (h.objs.size + 1) R)
      ⟨(h.push (kdv_tup rest)).push (exOb C h.objs.size none), g, d, t, os⟩) :
    codeAny (model prog w) A (.call (.ref C) ⟨rest, kw⟩) R ⟨h, g, d, t, os⟩ := by
  have f1 := tc_lookup
  have f2 := tc_bind (.ref C)
  have hTy : (⟨h, g, d, t, os⟩ : Shared).TypeIs (.ref C) "type" := ⟨_, hC, rfl⟩
  refine codeAny_of_tree ?_
  show wpAny _ _ (callAny (.ref C) _) _ _ _
  repeat (any_goals (first
    | assumption
    | with_reducible refine wpAny_loadPart_at hC ?_
    | wp_step))
  refine ⟨rfl, ?_⟩
  refine codeAny_call_builtin_at (Code.quiet_builtin _ (by decide +kernel)) entry_typeCall (wpAny_check_type_call_sub hC (typeCall F hB hA hE hC hi hb hz ?_))
  refine codeAny_mono hq fun r s' z => ?_
  rcases r with e | (v | _ | _ | _) <;> exact z
end
end Xr
set_option maxHeartbeats 4000000
namespace Xr
open PySem PySem.W PySem.Calls PyProof.Rows PySem.Spec
section
open Builtin Builtin.ObjectAttr
variable {prog : Program} {w : World} {A : Around} {E : Value → Shared → Prop} {R : Result → Shared → Prop} {hp : Heap} {g : Array GenState} {d : Drawn} {t : Nat} {os : OsState}
/-- the way of object.__setattr__ on an error, to its own dict -/
theorem saWay {bmB : List Value} {K : Frag} {name : Str} {tk : Tok} {v : Value} {x C : Addr} {ox : Obj} {od : Option Obj} {cd : ClassData}
    (X : K.In hp) (I : InstAt hp x ox C od) (hcd : clsIn K C = some cd) (hm : excTail bmB cd.mro = true) (ho : bmB.contains (.type "object") = true) (hp0 : ∀ self : Value, refuseLoop self "__setattr__" bmB = pure ())
    (ha : findIn K (.ref C) name = some none)
    (hq : wpAny (model prog w) A.in1 (storeInOwnDict (.ref x) (.ref C) (.str name tk) name v false)
      (fun fin s' => match fin with
        | .done f => R (.ok f) s'
        | .again c' => c'.quiet = true ∧ codeAny (model prog w) A c' R s') (fun e s' => R (.error e) s') ⟨hp, g, d, t, os⟩) :
    codeAny (model prog w) A (.call (.builtin "object.__setattr__") ⟨[.ref x, .str name tk, v], []⟩) R ⟨hp, g, d, t, os⟩ := by
  have SF := F.store_object
  have hob : cd.mro.contains (.type "object") = true := (excTail_contains "object" _ hm).trans ho
  have hne : cd.mro.isEmpty = false := by
    cases q : cd.mro with
    | nil =>
      rw [q] at hob
      cases hob
    | cons a r => rfl
  have sub : Looks (model prog w) hp (isInstance (.ref x) (.type "object")) true :=
    I.type.andThen (looks_mroIn X (by unfold mroIn; rw [hcd, Option.bind_some, if_neg (by rw [hne]; decide), hob]))
  refine codeAny_call_builtin SF.slot.plain SF.entry (@check_slot (model prog w) _ _ ⟨hp, g, d, t, os⟩ "object.__setattr__" "object" "__setattr__" (.ref x)
    [.str name tk, v] [] _ SF.kind SF.split sub (SF.args (.ref x) (.str name tk) v) ?_)
  have hmr : Looks (model prog w) hp (mroOf (.ref C)) cd.mro := (looks_clsIn X hcd).andThen .now
  have L3 : Looks (model prog w) hp (storeTaker? none) none := .now
  rw [osa_eq, refuse_eq]
  refine wpAny_bind (wpAny_bind (I.type.at (wpAny_bind (hmr.at ?_))))
  rw [excTail_pass _ (hp0 _) _ hm]
  refine wpAny_pure (wpAny_bind (I.type.at ?_))
  exact wpAny_bind ((looks_findIn X ha).at (wpAny_bind (L3.at hq)))
/-- e.f = v, the first one: the dict is laid -/
theorem saNew {bmB : List Value} {K : Frag} {name : Str} {tk : Tok} {v : Value} {x C : Addr} {fv : Array Value} {cd : ClassData}
    (X : K.In hp) (hx : hp.get? x = some { cls := .ref C, data := .fields fv }) (hcd : clsIn K C = some cd) (hm : excTail bmB cd.mro = true) (ho : bmB.contains (.type "object") = true)
    (hp0 : ∀ self : Value, refuseLoop self "__setattr__" bmB = pure ()) (hh : cd.hasDict = true) (ha : findIn K (.ref C) name = some none)
    (hq : ∀ h' tk' dx, (∀ b o, b ≠ x → hp.get? b = some o → h'.get? b = some o) → hp.objs.size ≤ dx → dx ≠ x → h'.get? x = some { cls := .ref C, dict := some dx, data := .fields fv } →
      h'.Ns1 dx (fun y => if y = name then some v else none) → R (.ok (.ret .none)) ⟨h', g, d, tk', os⟩) :
    codeAny (model prog w) A (.call (.builtin "object.__setattr__") ⟨[.ref x, .str name tk, v], []⟩) R ⟨hp, g, d, t, os⟩ := by
  have I : InstAt hp x { cls := .ref C, data := .fields fv } C none := ⟨hx, rfl, rfl, trivial⟩
  have hxs : x ≠ hp.objs.size := Nat.ne_of_lt (Heap.lt_size hx)
  refine saWay X I hcd hm ho hp0 ha ?_
  have hcls : Looks (model prog w) hp (classData C) cd := looks_clsIn X hcd
  obtain ⟨nm, bs, mro, ns, qn, hd, sn, sb, ab, col, del⟩ := cd
  dsimp only at hh
  subst hh
  unfold storeInOwnDict ownDictForStores
  repeat (first
    | with_reducible refine HandSPX.store_in_new ?_ ?_
    | with_reducible refine wpAny_loadPart_at hx ?_
    | with_reducible refine hcls.at ?_
    | wp_step)
  · exact ⟨_, #[], _, (Heap.get?_update_ne _ _ _ _ hxs.symm).trans (Heap.get?_push_at rfl rfl), rfl, fun e he => absurd he (by simp), fun _ => rfl⟩
  · intro h' tk' hn' hs
    have h1 : (hp.push { cls := .type "dict", data := .dict #[] }).get? x = some { cls := .ref C, data := .fields fv } := Heap.get?_push_of_some _ hx
    refine hq h' tk' hp.objs.size (fun b o hb ho => ?_) (Nat.le_refl _) hxs.symm ?_ hn'
    · exact (hs.2 b (Nat.ne_of_lt (Heap.lt_size ho))).trans
        ((Heap.get?_update_ne _ _ _ _ hb).trans (Heap.get?_push_of_some _ ho))
    · exact (hs.2 x hxs).trans (Heap.get?_update_self _ h1 rfl)
/-- e.f = v, a further one -/
theorem saOld {bmB : List Value} {K : Frag} {name : Str} {tk : Tok} {v : Value} {x C dx : Addr} {fv : Array Value} {cd : ClassData} {m0 : Str → Option Value} {nl : List Str}
    (X : K.In hp) (hx : hp.get? x = some { cls := .ref C, dict := some dx, data := .fields fv }) (hns : hp.Ns1 dx m0) (hw : Within m0 nl) (hz : nl.length ≤ 1000)
    (hcd : clsIn K C = some cd) (hm : excTail bmB cd.mro = true) (ho : bmB.contains (.type "object") = true)
    (hp0 : ∀ self : Value, refuseLoop self "__setattr__" bmB = pure ()) (hh : cd.hasDict = true) (ha : findIn K (.ref C) name = some none)
    (hq : ∀ h' tk', (∀ b o, b ≠ dx → hp.get? b = some o → h'.get? b = some o) → h'.Ns1 dx (fun y => if y = name then some v else m0 y) → R (.ok (.ret .none)) ⟨h', g, d, tk', os⟩) :
    codeAny (model prog w) A (.call (.builtin "object.__setattr__") ⟨[.ref x, .str name tk, v], []⟩) R ⟨hp, g, d, t, os⟩ := by
  obtain ⟨oD, esD, epD, hoD, hdD, _⟩ := hns.count hw
  have I : InstAt hp x { cls := .ref C, dict := some dx, data := .fields fv } C (some oD) := ⟨hx, rfl, rfl, hoD⟩
  refine saWay X I hcd hm ho hp0 ha ?_
  have hcls : Looks (model prog w) hp (classData C) cd := looks_clsIn X hcd
  obtain ⟨nm, bs, mro, ns, qn, hd, sn, sb, ab, col, del⟩ := cd
  dsimp only at hh
  subst hh
  unfold storeInOwnDict ownDictForStores
  repeat (first
    | with_reducible refine OEX.store_in_old hns hw hz ?_
    | with_reducible refine wpAny_loadPart_at hx ?_
    | with_reducible refine hcls.at ?_
    | wp_step)
  intro h' tk' hn' hs
  exact hq h' tk' (fun b o hb ho => (hs.2 b hb).trans ho) hn'
end
section
variable {M : Model} {A : Around} {E : Value → Shared → Prop} {h : Heap} {g : Array GenState} {d : Drawn} {t : Nat} {os : OsState}
variable {nm q : Str} {C NS : Addr} {bs bm bmB : List Value} {hdct : Bool} {sn : List Str} {sub : List Value} {ab : Bool} {col : Option Bool} {dd : Option Addr} {k0 k1 k2 k3 k5 : Option Value} {B ini N nw : String}
theorem chkBound (T : BaseF B ini N nw bmB) {e : Addr} {oe : Obj} {rest : List Value} {Q : Unit → Shared → Prop}
    (hC : h.get? C = some (clO nm q C NS bs bm hdct sn sub ab col dd k0 k1 k2 k3 k5 nw)) (he : h.get? e = some oe) (hcls : oe.cls = .ref C) (hq : Q () ⟨h, g, d, t, os⟩) :
    wpAny M A (checkBoundCall ini ⟨.ref e :: rest, []⟩) Q E ⟨h, g, d, t, os⟩ := by
  have hshort := T.ns
  simp only [checkBoundCall, T.kind, T.row]
  repeat (first
    | (with_reducible refine wpAny_loadPart_at he ?_; rw [hcls])
    | with_reducible refine wpAny_loadPart_at hC ?_
    | wp_step)
  refine wpAny_onRaise ?_
  rw [show ∀ (a b : String) (n : Nat), Bind.check ⟨.positional, "*", B, .self, [⟨"args", .varPos, false⟩]⟩ a b n
    (List.map (fun x => x.fst) ({ pos := Value.ref e :: rest } : Args).kw) = pure () from fun a b n => check_star_args _ _ _ _ _ _]
  exact wpAny_pure hq
end
section
variable {prog : Program} {w : World} {A : Around} {E : Value → Shared → Prop} {h : Heap} {g : Array GenState} {d : Drawn} {t : Nat} {os : OsState}
variable {nm q : Str} {C NS : Addr} {bs bm bmB : List Value} {hdct : Bool} {sn : List Str} {sub : List Value} {ab : Bool} {col : Option Bool} {dd : Option Addr} {k0 k1 k2 k3 k5 : Option Value} {B ini N nw : String}
/-- the bound __init__ of the base, called -/
theorem callBound (T : BaseF B ini N nw bmB) {u e t0 : Addr} {dx : Option Addr} {rest : List Value} {Q : Value → Shared → Prop}
    (hC : h.get? C = some (clO nm q C NS bs bm hdct sn sub ab col dd k0 k1 k2 k3 k5 nw)) (he : h.get? e = some (exOb C t0 dx)) (hu : h.get? u = some (kxs_mw ini e)) (hz : rest.length ≤ sizeLine)
    (hq : ∀ h' t1, (∀ b o, b ≠ e → h.get? b = some o → h'.get? b = some o) → h'.get? e = some (exOb C t1 dx) → Q .none ⟨h', g, d, t, os⟩) :
    wpAny (model prog w) A (call (.ref u) rest) Q E ⟨h, g, d, t, os⟩ := by
  refine wpAny_call (codeAny_of_tree ?_)
  show wpAny _ A.in1 (callAny (.ref u) ⟨rest, []⟩) _ _ _
  simp only [callAny]
  refine wpAny_bind (wpAny_load hu ?_)
  have z1 : (Value.type "method-wrapper" == Value.type "method" || Value.type "method-wrapper" == Value.type "builtin_function_or_method" || Value.type "method-wrapper" == Value.type "method-wrapper") = true := by decide
  simp only [kxs_mw, z1, if_true]
  refine KFB.if_so (by decide) ?_
  refine wpAny_bind (chkBound T hC he rfl ?_)
  refine wpAny_bind (wpAny_pure (wpAny_pure ?_))
  refine ⟨plainId_quiet T.plain _, codeAny_builtin T.entry ?_⟩
  exact exc_init_tree (cls := .ref C) (t0 := t0) (dv := dx) (c2 := .none) (c3 := .none) (b4 := .bool false) he hz fun h' k1 k2 _ => hq h' _ k1 k2
end
end Xr
set_option maxHeartbeats 4000000
namespace Xr
open PySem PySem.W PySem.Calls PyProof.Rows PySem.Spec
abbrev supCall (p0 p1 p2 p4 : Pos) (es : List Expr) : Expr := .Call (.Attribute (.Call (.Name "super" p0) [] [] p1) "__init__" p2) es [] p4
abbrev selfSt (f : Str) (p6 p7 p8 p9 : Pos) : Stmt := .Assign [.Attribute (.Name "self" p6) f p7] (.Name f p8) p9
/-- how super().__init__(es) is evaluated -/
def SupEv (p0 p1 p2 p4 : Pos) (es : List Expr) : Prop := ∀ env : Env, ∃ pl : Sem Bool, eval (supCall p0 p1 p2 p4 es) env = (do
  let ov ← attributeBase (.Call (.Name "super" p0) [] [] p1) "__init__" env (eval (.Call (.Name "super" p0) [] [] p1) env)
  standAt p2.atName
  let (f, first) ← holding [ov] (getMethod ov "__init__" pl)
  callWith p4 f first (backTo p4 (starEach es env)) [])
/-- the text of an error's __init__ -/
def InitBody (body : List Stmt) (fs : List Str) : Prop :=
  (∃ f p0 p1 p2 p3 p4 p5 p6 p7 p8 p9, fs = [f] ∧ SupEv p0 p1 p2 p4 [.Name f p3] ∧ body = [.Expr (supCall p0 p1 p2 p4 [.Name f p3]) p5, selfSt f p6 p7 p8 p9]) ∨
  ∃ f k p0 p1 p2 p3 p4 p5 p6 p7 p8 p9 q3 q6 q7 q8 q9, fs = [f, k] ∧ SupEv p0 p1 p2 p4 [.Name f p3, .Name k q3] ∧ body = [.Expr (supCall p0 p1 p2 p4 [.Name f p3, .Name k q3]) p5, selfSt f p6 p7 p8 p9, selfSt k q6 q7 q8 q9]
structure InitT (args : Arguments) (body : List Stmt) (sc : Scope) (fs : List Str) : Prop where
  body : InitBody body fs
  kind : sc.kind = .function
  co : sc.isCoroutine = false
  gen : sc.isGenerator = false
  cell : ∀ x ∈ sc.names, x.2 ≠ .cell
  sup : sc.names.lookup ("super" : Str) = some .globalImplicit
  cls : sc.names.lookup ("__class__" : Str) = some .free
  loc : ∀ f ∈ ("self" : Str) :: fs, sc.names.lookup f = some .local
  par : ∃ ar, (args.posonlyargs ++ args.args).head? = some ar ∧ ar.arg = "self"
  nd : (("self" : Str) :: fs).Nodup
  nde : ∀ f ∈ ("self" : Str) :: fs, (f == ("__debug__" : Str)) = false
structure ErrC (P : Program) (K : Frag) (C fI : Addr) (fd : FuncData) (fs : List Str) : Prop where
  ex : ∃ B ini N nw bmB, BaseF B ini N nw bmB ∧ excInitIn K C bmB nw = true ∧ ks_superIn K C C "__init__" = some (some (.builtin ini)) ∧ subIn K (.ref C) (.type B) = some true
  dct : (clsIn K C).map (·.hasDict) = some true
  sa : findIn K (.ref C) "__setattr__" = some (some (.builtin "object.__setattr__"))
  iC : findIn K (.ref C) "__init__" = some (some (.ref fI))
  tI : typeIn K (.ref fI) = some (.type "function")
  fn : ∃ q params body scope kV doc pm an cda ct cc oc od osl, fd = ksFn "__init__" q params body scope .none kV doc pm an (.ref cda) ct cc ∧ K.lookup fI = some ⟨oc, od, .func fd, osl⟩ ∧ InitT params body scope fs ∧ codeIn K (.ref cda) q = true ∧
    (∃ cl cld csl, K.lookup cc = some ⟨cl, cld, .cell (some (.ref C)), csl⟩) ∧ ∃ ccl cdd vs ccs tf, K.lookup cda = some ⟨ccl, cdd, .fields vs, ccs⟩ ∧ vs[2]? = some (.str P.main.file tf)
  opq : nsIn K cStatics "thirdparty.any" = some none
  sup : nsIn K mainGlobals "super" = some none
  top : (P.main.scope.names.lookup ("super" : Str)).isSome = false
  no : ∀ f ∈ fs, findIn K (.ref C) f = some none
  exc : subIn K (.ref C) (.type "BaseException") = some true
  typ : typeIn K (.ref C) = some (.type "type")
  keep : keepIn K (.ref C) = true

section
variable {prog : Program} {w : World} {A : Around} {E : Value → Shared → Prop} {K : Frag} {mg : Str → Option Value} {base : Heap} {C fI cda cc : Addr}
theorem bootSuper : bootBuiltins "super" = some (.type "super") := by decide +kernel
/-- super().__init__ in an error's __init__: the receiver's way -/
theorem supBase {s : Shared} {body body' : List Stmt} {name q q' : Str} {args : Arguments} {sc : Scope} {L e t0 : Addr} {m : Str → Option Value} {oc ccl cl kV doc pm ct : Value} {an od cdd cld : Option Addr} {osl ccs csl : Array (Option Value)} {vs : Array Value} {tf : Tok} {p0 p1 : Pos} {whole : Sem Value} {Q : Value → Shared → Prop} {dx : Option Addr}
    {fs : List Str} (T : InitT args body' sc fs) (M : L2.Mod K mg base) (st : ∀ b o, base.get? b = some o → s.heap.get? b = some o) (hns : s.heap.Ns L m) (hm : m "self" = some (.ref e)) (he : s.heap.get? e = some (exOb C t0 dx))
    (hf : K.lookup fI = some ⟨oc, od, .func (ksFn name q args body' sc .none kV doc pm an (.ref cda) ct cc), osl⟩) (hc : K.lookup cda = some ⟨ccl, cdd, .fields vs, ccs⟩) (hv : vs[2]? = some (.str prog.main.file tf))
    (hcell : K.lookup cc = some ⟨cl, cld, .cell (some (.ref C)), csl⟩) {cd : ClassData} (hC : clsIn K C = some cd) (hsub : subIn K (.ref C) (.ref C) = some true) (hsup : nsIn K mainGlobals "super" = some none) (htop : (prog.main.scope.names.lookup ("super" : Str)).isSome = false)
    (h : ∀ h', h'.get? s.heap.objs.size = some (ks_superObj C e C) → (∀ b o, s.heap.get? b = some o → h'.get? b = some o) → Q (.ref s.heap.objs.size) { s with heap := h' }) :
    PySem.wpAt (model prog w) A (.func body (ksEnv q' sc L fI (.ref cda) cc)) (attributeBase (.Call (.Name "super" p0) [] [] p1) "__init__" (ksEnv q' sc L fI (.ref cda) cc) whole) Q E s := by
  have X : K.In s.heap := M.kin.keeps st
  obtain ⟨ar, ha, hn⟩ := T.par
  obtain ⟨hh, g, d, t, os⟩ := s
  obtain ⟨oD, hD1, hD2⟩ : ∃ oD, hh.get? C = some oD ∧ oD.data = .cls cd := by
    unfold clsIn at hC
    split at hC
    · rename_i c d cd' sl ho
      cases hC
      exact ⟨_, X _ _ ho, rfl⟩
    · cases hC
  obtain ⟨mb, hb, hbv⟩ := M.blt
  refine ks_wpAt_super_base (env := ksEnv q' sc L fI (.ref cda) cc) T.sup T.cls (by decide) rfl (X _ _ hf) rfl ha rfl (X _ _ hc) rfl hv (by simp) htop ?_
  refine ks_loadName_global T.kind T.sup (loadGlobal_builtin (env := ksEnv q' sc L fI (.ref cda) cc) (M.glob.keeps st) (mg_none_of M.kin M.glob hsup) (hb.keeps st) ((hbv _ (by decide +kernel)).trans bootSuper) ⟨rfl, ?_⟩)
  refine wpAny_loadName_free T.kind T.cls rfl ⟨_, X _ _ hcell, rfl⟩ ?_
  refine wpAny_loadName_local T.kind (by rw [hn]; exact T.loc _ (List.mem_cons_self ..)) hns (by rw [hn]; exact hm) ?_
  refine ks_wpAny_isType_cls hD1 hD2 ⟨rfl, ?_⟩
  exact ks_wpAny_call_super hD1 hD2 he rfl (fun c z => by cases z) (looks_subIn X hsub) fun h' z k => h h' z k
/-- the run of super().__init__(us) behind its receiver -/
theorem supCallRun {s : Shared} {nm q : Str} {NS e so t0 : Addr} {bs bm bmB : List Value} {hdct : Bool} {sn : List Str} {sub : List Value} {ab : Bool} {col : Option Bool} {dd : Option Addr} {k0 k1 k2 k3 k5 : Option Value} {B ini N nw : String}
    {env : Env} {pos : Pos} {e1 : Expr} {es : List Expr} {us : List Value} {pl : Sem Bool} {Q : Value → Shared → Prop} (T : BaseF B ini N nw bmB) (X : K.In s.heap) (hs : s.heap.get? so = some (ks_superObj C e C)) (he : s.heap.get? e = some (exOb C t0 none))
    (hC : s.heap.get? C = some (clO nm q C NS bs bm hdct sn sub ab col dd k0 k1 k2 k3 k5 nw)) (hne : e ≠ C) (hsup : ks_superIn K C C "__init__" = some (some (.builtin ini))) (hB : subIn K (.ref C) (.type B) = some true) (hop : nsIn K cStatics "thirdparty.any" = some none)
    (hz : us.length ≤ sizeLine)
    (hev : ∀ (h' : Heap) (tk : Nat) (Q' : List Value → Shared → Prop), (∀ b o, s.heap.get? b = some o → h'.get? b = some o) → (∀ tk', Q' us { s with heap := h', toks := tk' }) → wpAny (model prog w) A (spliced (backTo pos (starEach (e1 :: es) env))) Q' E { s with heap := h', toks := tk })
    (hq : ∀ h' t1 tk, (∀ b o, b ≠ e → s.heap.get? b = some o → h'.get? b = some o) → h'.get? e = some (exOb C t1 none) → Q .none { s with heap := h', toks := tk })
    (hst : starEach (e1 :: es) env = (false, eval e1 env) :: starEach es env := by rfl) (hpl : (backTo pos (starEach es env)).any (·.1) = false := by rfl) :
    wpAny (model prog w) A (getMethod (.ref so) "__init__" pl) (fun fx s2 => wpAny (model prog w) A (callWith pos fx.1 fx.2 (backTo pos (starEach (e1 :: es) env)) []) Q E s2) E s := by
  have hI : Looks (model prog w) s.heap (isInstance (.ref e) (.type B)) true := (show InstAt s.heap e (exOb C t0 none) C none from ⟨he, rfl, rfl, trivial⟩).type.andThen (looks_subIn X hB)
  obtain ⟨hh, g, d, t, os⟩ := s
  cases hc : clsIn K C with
  | none =>
    unfold ks_superIn at hsup
    rw [hc] at hsup
    cases hsup
  | some cd =>
    unfold ks_superIn at hsup
    rw [hc] at hsup
    refine kxs_getMethod T.k hs (looks_opaque X hop) (l₀ := cd.mro) (fun A Q E s k z => wpAny_bind ((looks_clsIn X hc) A _ E s k (wpAny_pure z))) rfl X hsup hI hne (by decide) ?_
    have k1 : ∀ b o, hh.get? b = some o → (hh.push (kxs_mw ini e)).get? b = some o := fun b o z => Heap.get?_push_of_some _ z
    have ku : (hh.push (kxs_mw ini e)).get? hh.objs.size = some (kxs_mw ini e) := Heap.get?_push_at rfl rfl
    rw [hst]
    refine kxs_callWith (i := ini) (x := e) (by show (false || (backTo pos (starEach es env)).any (·.1)) = false; rw [hpl]; rfl) ?_
    refine evalArgs_plain ?_
    have hev' := hev (hh.push (kxs_mw ini e)) (t + 1)
    rw [hst] at hev'
    refine hev' _ k1 fun tk' => ⟨ku, ?_⟩
    refine callBound T (k1 _ _ hC) (k1 _ _ he) ku hz fun h' t1 k2 z => ?_
    exact hq h' t1 tk' (fun b o hb ho => k2 b o hb (k1 b o ho)) z
end
end Xr
set_option maxHeartbeats 4000000
namespace Xr
open PySem PySem.W PySem.Calls PyProof.Rows PySem.Spec
section
variable {prog : Program} {w : World} {A : Around} {E : Value → Shared → Prop} {K : Frag} {mg : Str → Option Value} {base : Heap} {C fI cda cc : Addr}
theorem ldN {s : Shared} {q : Str} {sc : Scope} {L : Addr} {cd : Value} {x : Str} {p : Pos} {m : Str → Option Value} {v : Value} {Q : Value → Shared → Prop} (hk : sc.kind = .function) (hl : sc.names.lookup x = some .local)
    (hn : s.heap.Ns L m) (hv : m x = some v) (hd : (x == ("__debug__" : Str)) = false) (h : Q v s) : wpAny (model prog w) A (eval (.Name x p) (ksEnv q sc L fI cd cc)) Q E s :=
  wpAny_Name (wpAny_loadName_local hk hl hn hv h) hd
/-- an error whose fields are being stored -/
structure Got (base : Heap) (s0 : Heap) (C L e : Addr) (m : Str → Option Value) (h : Heap) : Prop where
  keep : ∀ b o, b ≠ e → s0.get? b = some o → h.get? b = some o
  ns : h.Ns L m
  big : s0.objs.size ≤ h.objs.size
theorem clsOf {C : Addr} {bmB : List Value} {nw : String} (h : excInitIn K C bmB nw = true) (d : (clsIn K C).map (·.hasDict) = some true) : ∃ cd, clsIn K C = some cd ∧ excTail bmB cd.mro = true ∧ cd.hasDict = true := by
  unfold excInitIn at h
  unfold clsIn at d ⊢
  split at h
  · rename_i dd cd sl ho
    split at h
    · rename_i C' bm k0 k1 k2 k3 n k5 hm hs
      simp only [Bool.and_eq_true, beq_iff_eq, Bool.not_eq_true'] at h
      rw [ho] at d ⊢
      refine ⟨cd, rfl, ?_, Option.some.inj d⟩
      rw [hm]
      exact h.2
    · cases h
  · cases h
theorem setFirst {s : Shared} {fd : FuncData} {fs : List Str} {e t0 : Addr} {f : Str} {v : Value} {Q : Unit → Shared → Prop} (T : ErrC prog K C fI fd fs) (X : K.In s.heap) (he : s.heap.get? e = some (exOb C t0 none)) (hf : f ∈ fs)
    (h : ∀ h' tk dx, (∀ b o, b ≠ e → s.heap.get? b = some o → h'.get? b = some o) → s.heap.objs.size ≤ dx → dx ≠ e → h'.get? e = some (exOb C t0 (some dx)) → h'.Ns1 dx (fun y => if y = f then some v else none) → Q () { s with heap := h', toks := tk }) :
    wpAny (model prog w) A (setAttr (.ref e) f v) Q E s := by
  obtain ⟨B, ini, N, nw, bmB, b, hi, hsu, hsb⟩ := T.ex
  obtain ⟨cd, hcd, hm, hh⟩ := clsOf hi T.dct
  obtain ⟨hp, g, d, t, os⟩ := s
  refine set_plain X (ox := exOb C t0 none) (od := none) ⟨he, rfl, rfl, trivial⟩ T.sa ?_
  exact saNew X he hcd hm b.obj b.pass hh (T.no f hf) fun h' tk dx k1 k2 k3 k4 k5 => h h' tk dx k1 k2 k3 k4 k5
theorem setNext {s : Shared} {fd : FuncData} {fs nl : List Str} {e t0 dx : Addr} {f : Str} {v : Value} {m0 : Str → Option Value} {Q : Unit → Shared → Prop} (T : ErrC prog K C fI fd fs) (X : K.In s.heap) (he : s.heap.get? e = some (exOb C t0 (some dx))) (hf : f ∈ fs)
    (hn : s.heap.Ns1 dx m0) (hw : Within m0 nl) (hz : nl.length ≤ 1000)
    (h : ∀ h' tk, (∀ b o, b ≠ dx → s.heap.get? b = some o → h'.get? b = some o) → h'.Ns1 dx (fun y => if y = f then some v else m0 y) → Q () { s with heap := h', toks := tk }) :
    wpAny (model prog w) A (setAttr (.ref e) f v) Q E s := by
  obtain ⟨B, ini, N, nw, bmB, b, hi, hsu, hsb⟩ := T.ex
  obtain ⟨cd, hcd, hm, hh⟩ := clsOf hi T.dct
  obtain ⟨oD, _, _, hoD, _, _⟩ := hn.count hw
  obtain ⟨hp, g, d, t, os⟩ := s
  refine set_plain X (ox := exOb C t0 (some dx)) (od := some oD) ⟨he, rfl, rfl, hoD⟩ T.sa ?_
  exact saOld X he hn hw hz hcd hm b.obj b.pass hh (T.no f hf) fun h' tk k1 k2 => h h' tk k1 k2
theorem kLt {s : Heap} {b c : Addr} {o : Obj} (h : s.get? b = some o) (hc : s.objs.size ≤ c) : b ≠ c := Nat.ne_of_lt (Nat.lt_of_lt_of_le (Heap.lt_size h) hc)
/-- an error's __init__ runs: its fields are told -/
theorem initRun {s : Shared} {R : Result → Shared → Prop} {fd : FuncData} {fs : List Str} {e t0 : Addr} {args : Args} {us : List Value} (T : ErrC prog K C fI fd fs) (M : L2.Mod K mg base) (st : ∀ b o, base.get? b = some o → s.heap.get? b = some o) (nb : base.get? e = none)
    (he : s.heap.get? e = some (exOb C t0 none)) (hroom : A.depth < recursionLimit) (hl : us.length = fs.length) (hb : BindsTo s fd args ((("self" : Str), Value.ref e) :: fs.zip us))
    (hR : ∀ h' tk dx t1 mA, (∀ b o, b ≠ e → s.heap.get? b = some o → h'.get? b = some o) → s.heap.objs.size ≤ dx → dx ≠ e → h'.get? e = some (exOb C t1 (some dx)) → h'.Ns1 dx mA → (∀ y, mA y = (fs.zip us).lookup y) → R (.ok (.ret .none)) { s with heap := h', toks := tk }) :
    codeAny (model prog w) A (.call (.ref fI) args) R s := by
  obtain ⟨q, params, body, scope, kV, doc, pm, an, cda, ct, cc, oc, od, osl, rfl, lk, I, hcode, ⟨cl, cld, csl, hcell⟩, ccl, cdd, vs, ccs, tf, hcda, hvs⟩ := T.fn
  obtain ⟨B, ini, N, nw, bmB, b, hi, hsu, hsb⟩ := T.ex
  obtain ⟨cd, hcd, hm, hh⟩ := clsOf hi T.dct
  have hsub : subIn K (.ref C) (.ref C) = some true := by
    unfold subIn
    show mroIn K C (.ref C) = some true
    unfold mroIn
    rw [hcd, Option.bind_some]
    unfold excInitIn at hi
    unfold clsIn at hcd
    split at hi
    · rename_i dd cd2 sl ho
      rw [ho] at hcd
      cases hcd
      split at hi
      · rename_i C' bm k0 k1 k2 k3 n k5 hm2 hs2
        simp only [Bool.and_eq_true, beq_iff_eq] at hi
        rw [hm2, hi.1.1.1]
        simp
      · cases hi
    · cases hi
  have X0 : K.In s.heap := M.kin.keeps st
  have neC : e ≠ C := fun z => by
    have z1 := he
    rw [z] at z1
    obtain ⟨oc2, hoc2⟩ : ∃ o, K.lookup C = some o := by
      unfold clsIn at hcd
      split at hcd
      · rename_i c d cd' sl ho
        exact ⟨_, ho⟩
      · cases hcd
    have z2 := M.kin _ _ hoc2
    rw [← z, nb] at z2
    cases z2
  have hloc : ∀ y ∈ (("self" : Str), Value.ref e) :: fs.zip us, scope.names.lookup y.1 = some .local := fun y hy => by
    rcases List.mem_cons.mp hy with rfl | hy
    · exact I.loc _ (List.mem_cons_self ..)
    · exact I.loc _ (List.mem_cons_of_mem _ (List.of_mem_zip (show (y.1, y.2) ∈ fs.zip us from hy)).1)
  refine ks_codeAny_call_defAt (fd := ksFn "__init__" q params body scope .none kV doc pm an (.ref cda) ct cc) (body := body) (binds := (("self" : Str), Value.ref e) :: fs.zip us)
    hroom (X0 _ _ lk) rfl (M.nolimit.keeps st) (codeRec_of X0 hcode) rfl hb I.cell hloc (fun h0 hns k0 => ?_) I.co I.gen I.kind
  show PySem.wpAt _ _ (.func body (ksEnv q scope s.heap.objs.size fI (.ref cda) cc)) (execs body (ksEnv q scope s.heap.objs.size fI (.ref cda) cc)) _ _ _
  have Ll : ∀ {b : Addr} {o : Obj}, s.heap.get? b = some o → b ≠ s.heap.objs.size := fun z => kLt z (Nat.le_refl _)
  have eL : s.heap.objs.size ≠ e := (Ll he).symm
  have big0 : s.heap.objs.size ≤ h0.objs.size := Nat.le_of_lt hns.lt
  have hself : ∀ (l : List (Str × Value)), (∀ y ∈ l, y.1 ≠ ("self" : Str)) → (((("self" : Str), Value.ref e) :: l).reverse.lookup ("self" : Str)) = some (Value.ref e) := fun l hl => by
    rw [List.reverse_cons, List.lookup_append]
    have z : l.reverse.lookup ("self" : Str) = none := by
      rw [List.lookup_eq_none_iff]
      intro y hy
      have := hl y (List.mem_reverse.mp hy)
      simpa [beq_eq_false_iff_ne] using fun z => this z.symm
    rw [z]
    simp [List.lookup]
  have base0 : ∀ (h : Heap), (∀ b o, b ≠ e → h0.get? b = some o → h.get? b = some o) → ∀ b o, base.get? b = some o → h.get? b = some o := fun h k b o z =>
    k b o (fun y => by rw [y, nb] at z; cases z) (k0 b o (st b o z))
  rcases I.body with ⟨f, p0, p1, p2, p3, p4, p5, p6, p7, p8, p9, rfl, ev, rfl⟩ | ⟨f, k, p0, p1, p2, p3, p4, p5, p6, p7, p8, p9, q3, q6, q7, q8, q9, rfl, ev, rfl⟩
  · obtain ⟨u, rfl⟩ : ∃ u, us = [u] := match us, hl with | [u], _ => ⟨u, rfl⟩
    have nsf : f ≠ ("self" : Str) := fun z => (List.nodup_cons.mp I.nd).1 (by rw [z]; exact List.mem_cons_self ..)
    have m1 : ((("self" : Str), Value.ref e) :: List.zip [f] [u]).reverse.lookup ("self" : Str) = some (Value.ref e) := hself _ fun y hy => by
      rcases List.mem_cons.mp hy with rfl | hy
      · exact nsf
      · cases hy
    have m2 : ((("self" : Str), Value.ref e) :: List.zip [f] [u]).reverse.lookup f = some u := by simp [List.lookup]
    have lf := I.loc f (List.mem_cons_of_mem _ (List.mem_cons_self ..))
    have ls := I.loc _ (List.mem_cons_self (a := ("self" : Str)) (l := [f]))
    have df := I.nde f (List.mem_cons_of_mem _ (List.mem_cons_self ..))
    have ds := I.nde _ (List.mem_cons_self (a := ("self" : Str)) (l := [f]))
    have hint : interactive (ksEnv q scope s.heap.objs.size fI (.ref cda) cc) = false := by
      unfold interactive
      simp [I.kind]
    obtain ⟨pl, hpl⟩ := ev (ksEnv q scope s.heap.objs.size fI (.ref cda) cc)
    refine ks_wpAt_execs_cons (ks_wpAt_Expr_any (hi := hint) (ks_wpAt_MethodCall (he := hpl) (supBase I M (base0 h0 fun b o _ z => z) hns m1 (k0 _ _ he) lk hcda hvs hcell hcd hsub T.sup T.top (fun h1 hs1 k1 => ?_))))
    have X1 : K.In h1 := M.kin.keeps (base0 h1 fun b o _ z => k1 b o z)
    obtain ⟨nm, NS, qn, bs, bm, hdct, sn, sub, ab, col, dd, c0, c1, c2, c3, c5, hC, hT⟩ := excInit_of X1 hi
    refine supCallRun (us := [u]) b X1 hs1 (k1 _ _ (k0 _ _ he)) hC neC hsu hsb T.opq (by show 1 ≤ sizeLine; decide) (fun h2 tk Q' k2 z => ?_) (fun h2 t1 tk k2 z => ?_)
    · exact spliced_more (ldN I.kind lf (hns.at fun o y => k2 _ _ (k1 _ _ y)) m2 df (spliced_none (z _)))
    have kk : ∀ b o, b ≠ e → h0.get? b = some o → h2.get? b = some o := fun b o hb y => k2 b o hb (k1 b o y)
    refine PySem.wpAt_of_wpAny (wpAny_execs_cons (plainObj_wpAny_Assign_Attribute (ldN I.kind lf (hns.at fun o y => kk _ _ eL y) m2 df (ldN I.kind ls (hns.at fun o y => kk _ _ eL y) m1 ds ?_)) (by rfl)))
    refine setFirst T (M.kin.keeps (base0 h2 kk)) z (List.mem_cons_self ..) fun h3 tk3 dx k3 g1 g2 g3 g4 => ?_
    refine wpAny_execs_nil ?_
    have bz : s.heap.objs.size ≤ h2.objs.size := Nat.le_of_lt ((hns.at fun o y => kk _ _ eL y).lt)
    refine hR h3 _ dx t1 _ (fun b o hb y => k3 b o hb (kk b o hb (k0 b o y))) (Nat.le_trans bz g1) g2 g3 g4 fun y => ?_
    by_cases hy : y = f
    · rw [if_pos hy, hy]
      simp [List.lookup]
    · rw [if_neg hy]
      have z2 : (y == f) = false := beq_eq_false_iff_ne.mpr hy
      simp [List.lookup, z2]
  · obtain ⟨u, v, rfl⟩ : ∃ u v, us = [u, v] := match us, hl with | [u, v], _ => ⟨u, v, rfl⟩
    have nd := I.nd
    simp only [List.nodup_cons, List.mem_cons, not_or, List.not_mem_nil, not_false_eq_true, and_true] at nd
    obtain ⟨⟨ns1, ns2⟩, n12, _⟩ := nd
    have m1 : ((("self" : Str), Value.ref e) :: List.zip [f, k] [u, v]).reverse.lookup ("self" : Str) = some (Value.ref e) := hself _ fun y hy => by
      rcases List.mem_cons.mp hy with rfl | hy
      · exact fun z => ns1 z.symm
      · rcases List.mem_cons.mp hy with rfl | hy
        · exact fun z => ns2 z.symm
        · cases hy
    have fk : (f == k) = false := beq_eq_false_iff_ne.mpr n12
    have m2 : ((("self" : Str), Value.ref e) :: List.zip [f, k] [u, v]).reverse.lookup f = some u := by simp [List.lookup, fk]
    have m3 : ((("self" : Str), Value.ref e) :: List.zip [f, k] [u, v]).reverse.lookup k = some v := by simp [List.lookup]
    have hfm : f ∈ [f, k] := List.mem_cons_self ..
    have hkm : k ∈ [f, k] := List.mem_cons_of_mem _ (List.mem_cons_self ..)
    have lf := I.loc f (List.mem_cons_of_mem _ hfm)
    have lk2 := I.loc k (List.mem_cons_of_mem _ hkm)
    have ls := I.loc _ (List.mem_cons_self (a := ("self" : Str)) (l := [f, k]))
    have df := I.nde f (List.mem_cons_of_mem _ hfm)
    have dk := I.nde k (List.mem_cons_of_mem _ hkm)
    have ds := I.nde _ (List.mem_cons_self (a := ("self" : Str)) (l := [f, k]))
    have hint : interactive (ksEnv q scope s.heap.objs.size fI (.ref cda) cc) = false := by
      unfold interactive
      simp [I.kind]
    obtain ⟨pl, hpl⟩ := ev (ksEnv q scope s.heap.objs.size fI (.ref cda) cc)
    refine ks_wpAt_execs_cons (ks_wpAt_Expr_any (hi := hint) (ks_wpAt_MethodCall (he := hpl) (supBase I M (base0 h0 fun b o _ z => z) hns m1 (k0 _ _ he) lk hcda hvs hcell hcd hsub T.sup T.top (fun h1 hs1 k1 => ?_))))
    have X1 : K.In h1 := M.kin.keeps (base0 h1 fun b o _ z => k1 b o z)
    obtain ⟨nm, NS, qn, bs, bm, hdct, sn, sub, ab, col, dd, c0, c1, c2, c3, c5, hC, hT⟩ := excInit_of X1 hi
    refine supCallRun (us := [u, v]) b X1 hs1 (k1 _ _ (k0 _ _ he)) hC neC hsu hsb T.opq (by show 2 ≤ sizeLine; decide) (fun h2 tk Q' k2 z => ?_) (fun h2 t1 tk k2 z => ?_)
    · have n2 := hns.at (h' := h2) fun o y => k2 _ _ (k1 _ _ y)
      exact spliced_more (ldN I.kind lf n2 m2 df (spliced_more (ldN I.kind lk2 n2 m3 dk (spliced_none (z _)))))
    have kk : ∀ b o, b ≠ e → h0.get? b = some o → h2.get? b = some o := fun b o hb y => k2 b o hb (k1 b o y)
    have n2 := hns.at (h' := h2) fun o y => kk _ _ eL y
    refine PySem.wpAt_of_wpAny (wpAny_execs_cons (plainObj_wpAny_Assign_Attribute (ldN I.kind lf n2 m2 df (ldN I.kind ls n2 m1 ds ?_)) (by rfl)))
    refine setFirst T (M.kin.keeps (base0 h2 kk)) z hfm fun h3 tk3 dx k3 g1 g2 g3 g4 => ?_
    have bz : s.heap.objs.size ≤ h2.objs.size := Nat.le_of_lt n2.lt
    have kk3 : ∀ b o, b ≠ e → h0.get? b = some o → h3.get? b = some o := fun b o hb y => k3 b o hb (kk b o hb y)
    have n3 := hns.at (h' := h3) fun o y => kk3 _ _ eL y
    refine wpAny_execs_cons (plainObj_wpAny_Assign_Attribute (ldN I.kind lk2 n3 m3 dk (ldN I.kind ls n3 m1 ds ?_)) (by rfl))
    refine setNext (nl := [f]) T (M.kin.keeps (base0 h3 kk3)) g3 hkm g4 (fun y hy => ?_) (by show 1 ≤ 1000; decide) fun h4 tk4 k4 g5 => ?_
    · by_cases hyf : y = f
      · rw [hyf]
        exact List.mem_cons_self ..
      · rw [if_neg hyf] at hy
        exact absurd rfl hy
    refine wpAny_execs_nil ?_
    have dxn : ∀ {b : Addr} {o : Obj}, s.heap.get? b = some o → b ≠ dx := fun y => kLt y (Nat.le_trans bz g1)
    refine hR h4 _ dx t1 _ (fun b o hb y => k4 b o (dxn y) (kk3 b o hb (k0 b o y))) (Nat.le_trans bz g1) g2 (k4 _ _ (fun z => g2 z.symm) g3) g5 fun y => ?_
    by_cases hy : y = k
    · rw [if_pos hy, hy]
      have kf : (k == f) = false := beq_eq_false_iff_ne.mpr fun z => n12 z.symm
      simp [List.lookup, kf]
    · rw [if_neg hy]
      have z2 : (y == k) = false := beq_eq_false_iff_ne.mpr hy
      by_cases hyf : y = f
      · rw [if_pos hyf, hyf]
        simp [List.lookup]
      · have z3 : (y == f) = false := beq_eq_false_iff_ne.mpr hyf
        rw [if_neg hyf]
        simp [List.lookup, z2, z3]
end
end Xr
set_option maxHeartbeats 4000000
namespace Xr
open PySem PySem.Spec PyProof.Rows L2
theorem relZip : ∀ (fs : List Str) {vs : List V} {us : List Value}, Vals vs us → ∀ f, RelO ((fs.zip vs).lookup f) ((fs.zip us).lookup f)
  | [], _, _, _, _ => trivial
  | g :: r, _, _, .nil, _ => trivial
  | g :: r, _, _, .cons h t, f => by
    show RelO ((match f == g with | true => _ | false => _) : Option V) ((match f == g with | true => _ | false => _) : Option Value)
    cases f == g with
    | true => exact h
    | false => exact relZip r t f
section
variable {X : Cx} {pins : List (Addr × Obj)} {σ : L2.St} {H : Hp} {s : Shared}
/-- two new objects, an error and its dict -/
theorem layErr (I : Inv X pins σ H s) {h' : Heap} {tk : Nat} {e d C t1 : Addr} {fs : List (Str × V)} {mA : Str → Option Value} (k : ∀ b o, s.heap.get? b = some o → h'.get? b = some o) (he : s.heap.objs.size ≤ e) (hd : s.heap.objs.size ≤ d) (ne : d ≠ e)
    (oe : h'.get? e = some (exOb C t1 (some d))) (od : h'.Ns1 d mA) (r : ∀ f, RelO (fs.lookup f) (mA f)) : Inv X pins σ (upd (upd H d (exd d fs)) e (exo e C (some d))) { s with heap := h', toks := tk } := by
  have hne : H e = none := I.hok.fresh he
  have hnd : H d = none := I.hok.fresh hd
  have b1 : ∀ {b : Addr} {o : Obj}, s.heap.get? b = some o → b ≠ e := fun z => kLt z he
  have b2 : ∀ {b : Addr} {o : Obj}, s.heap.get? b = some o → b ≠ d := fun z => kLt z hd
  have un : Un X.fs [] H (upd (upd H d (exd d fs)) e (exo e C (some d))) s.heap h' := {
    keep := fun b o q _ _ _ => k b o q
    slot := fun b o q _ _ _ => ⟨o.slots, k b o q⟩
    free := fun b o q n _ => by rw [upd_ne (b1 q), upd_ne (b2 q)]; exact n
    there := fun b o q _ => ⟨o, k b o q⟩
    tups := fun b xs q => by rw [upd_ne (ne_of_none q hne), upd_ne (ne_of_none q hnd)]; exact q
    frzs := fun b o v q => by rw [upd_ne (ne_of_none q hne), upd_ne (ne_of_none q hnd)]; exact q
    tbls := fun b ps q => ⟨#[], by rw [upd_ne (ne_of_none q hne), upd_ne (ne_of_none q hnd), q]; simp⟩ }
  refine I.un (t' := tk) un fun b o q => ?_
  by_cases hb : b = e
  · subst hb
    rw [upd_same] at q
    cases q
    exact exo_ok oe
  · rw [upd_ne hb] at q
    by_cases hd2 : b = d
    · subst hd2
      rw [upd_same] at q
      cases q
      exact exd_ok od r
    · rw [upd_ne hd2] at q
      exact (I.hok b o q).stay (fun c v _ z => k c v z)
        (fun c hc => by rw [upd_ne (ne_of_none hc hne), upd_ne (ne_of_none hc hnd)]; exact hc)
        fun c xs hc => by rw [upd_ne (ne_of_none hc hne), upd_ne (ne_of_none hc hnd)]; exact hc
/-- E(..) is made: a new error with its fields -/
theorem callErr {A : Around} {E : Value → Shared → Prop} {Q : Value → Shared → Prop} {C fI : Addr} {fd : FuncData} {fs : List Str} {us ws : List Value} {vs : List V} {kw : List (Str × Value)} (T : ErrC X.prog X.K C fI fd fs) (I : Inv X pins σ H s) (hr : Room 1 A)
    (hb : ∀ (s' : Shared) (self : Value), X.K.In s'.heap → BindsTo s' fd ⟨self :: us, kw⟩ ((("self" : Str), self) :: fs.zip ws)) (rel : Vals vs ws) (hl : vs.length = fs.length) (hz : us.length ≤ 1000)
    (h : ∀ e d s', H e = none → H d = none → d ≠ e → Inv X pins σ (upd (upd H d (exd d (fs.zip vs))) e (exo e C (some d))) s' → Q (.ref e) s') :
    wpAny (model X.prog X.w) A (call (.ref C) us kw) Q E s := by
  obtain ⟨B, ini, N, nw, bmB, b, hi, hsu, hsb⟩ := T.ex
  obtain ⟨i, bN, F⟩ := b.f
  have KX := I.kIn
  obtain ⟨nm, NS, qn, bs, bm, hdct, sn, sub, ab, col, dd, c0, c1, c2, c3, c5, hC, hT⟩ := PySem.W.excInit_of KX hi
  obtain ⟨hp, g, dr, tk, os⟩ := s
  have hz2 : us.length ≤ sizeLine := by rw [sizeLine_eq]; omega
  have kk : ∀ b o, hp.get? b = some o → ((hp.push (PySem.W.kdv_tup us)).push (exOb C hp.objs.size none)).get? b = some o := fun b o e => Heap.get?_push_of_some _ (Heap.get?_push_of_some _ e)
  have hget : ((hp.push (PySem.W.kdv_tup us)).push (exOb C hp.objs.size none)).get? (hp.objs.size + 1) = some (exOb C hp.objs.size none) := by heap_get
  have nbase : X.base.get? (hp.objs.size + 1) = none := by
    cases z : X.base.get? (hp.objs.size + 1) with
    | none => rfl
    | some o => exact absurd (Heap.lt_size (I.bk _ _ z)) (by show ¬ hp.objs.size + 1 < hp.objs.size; omega)
  refine wpAny_call (callOwn F (by rw [hT]; exact b.hN) (by rw [hT]; exact b.noA) (by rw [hT]; exact b.noE) hC (PySem.W.looks_findIn KX T.iC) (fun self => PySem.W.bind_fn KX self T.tI) hz2 ?_)
  refine initRun (base := X.base) T I.mod (fun b o z => kk b o (I.bk b o z)) nbase hget (hr.make C us kw).depth (by rw [← rel.length, hl]) (hb _ _ (I.mod.kin.keeps fun b o z => kk b o (I.bk b o z))) fun h' tk' dx t1 mA k1 g1 g2 g3 g4 g5 => ?_
  have z1 : hp.objs.size ≤ hp.objs.size + 1 := Nat.le_succ _
  have z2 : hp.objs.size ≤ dx := Nat.le_trans (by rw [Heap.size_push, Heap.size_push]; omega) g1
  have J := layErr (tk := tk') (fs := fs.zip vs) I (fun b o z => k1 b o (kLt z z1) (kk b o z)) z1 z2 g2 g3 g4 fun f => by rw [g5 f]; exact relZip fs rel f
  exact ⟨rfl, h _ dx _ (I.hok.fresh z1) (I.hok.fresh z2) g2 J⟩
end
end Xr
set_option maxHeartbeats 4000000
namespace Xr
open PySem PySem.Spec PyProof.Rows L2
/-- a new error and its dict -/
def putErr (H : Hp) (e d C : Addr) (fs : List (Str × V)) : Hp := upd (upd H d (exd d fs)) e (exo e C (some d))
def tErr (C : Addr) (fs : List Str) (t : TA) : TE := fun σ H Q => t σ H fun vs H1 => vs.length = fs.length ∧ ∀ e d, H1 e = none → H1 d = none → d ≠ e → Q (.ref e) (putErr H1 e d C (fs.zip vs))
def tErrK (C : Addr) (fs : List Str) (t : TA) : TE := fun σ H Q => t σ H fun vs H1 => vs.length = fs.length ∧ ∀ e d, H1 e = none → H1 d = none → d ≠ e → Q (.ref e) (putErr H1 e d C (fs.zip vs.reverse))
/-- how the fields come to the parameters, by place and by name (the names the other way round) -/
structure ErrB (fd : FuncData) (fs : List Str) : Prop where
  p : ∀ (s : Shared) (self : Value) (us : List Value), us.length = fs.length → BindsTo s fd ⟨self :: us, []⟩ ((("self" : Str), self) :: fs.zip us)
  k : ∀ (s : Shared) (self : Value) (us : List Value), us.length = fs.length → BindsTo s fd ⟨[self], fs.reverse.zip us⟩ ((("self" : Str), self) :: fs.zip us.reverse)
theorem vals_rev : ∀ {vs : List V} {us : List Value}, Vals vs us → Vals vs.reverse us.reverse
  | _, _, .nil => .nil
  | _, _, .cons h t => by
    rw [List.reverse_cons, List.reverse_cons]
    exact (vals_rev t).append (.cons h .nil)
section
variable {X : Cx} {C fI : Addr} {fd : FuncData} {fs : List Str} {x : Str} {p pos : Pos} {e : Expr} {es : List Expr} {t : TA} {kws : List Keyword}
theorem pe_err (T : ErrC X.prog X.K C fI fd fs) (b : ErrB fd fs) (h3 : fs.length ≤ 3) (hr : Room 1 X.A) (hg : Gl X x) (hm : X.mg x = some (.ref C)) (ha : PA X (e :: es) t)
    (hdb : (x == ("__debug__" : Str)) = false := by decide) (he : starEach (e :: es) X.env = (false, eval e X.env) :: starEach es X.env := by rfl) (hpl : (backTo pos (starEach es X.env)).any (·.1) = false := by rfl) :
    PE X (.Call (.Name x p) (e :: es) [] pos) (tErr C fs t) := by
  refine ⟨fun pins s σ H Q I h => ?_⟩
  refine wpAny_Call_Name_kw (ld_glob I hg hm ?_ hdb)
  refine PySem.W.callWith_K (h₀ := X.base) I.ok.mod.kin T.keep (thn (ha.run pos pins s σ H _ I h) fun us s1 ⟨vs, H1, I1, r1, hl, q1⟩ => ⟨I1.kIn, ?_⟩) he hpl
  have hlu : us.length = fs.length := by rw [← r1.length, hl]
  exact callErr T I1 hr (fun s' self _ => b.p s' self us hlu) r1 hl (by show us.length ≤ 1000; omega) fun e d s' h1 h2 h3 J => ⟨.ref e, _, J, rfl, q1 e d h1 h2 h3⟩
theorem pe_errK (T : ErrC X.prog X.K C fI fd fs) (b : ErrB fd fs) (hr : Room 1 X.A) (hg : Gl X x) (hm : X.mg x = some (.ref C)) (hkw : PK X kws t)
    (hall : (backToKw pos (keywordEach kws X.env)).all (·.1.isSome) = true := by rfl) (hks : (backToKw pos (keywordEach kws X.env)).filterMap (·.1) = fs.reverse := by rfl) (hdb : (x == ("__debug__" : Str)) = false := by decide)
    (hpl : ((backTo pos (starEach [] X.env)).any (·.1) || (backToKw pos (keywordEach kws X.env)).any (·.1.isNone)) = false := by rfl) :
    PE X (.Call (.Name x p) [] kws pos) (tErrK C fs t) := by
  refine ⟨fun pins s σ H Q I h => ?_⟩
  refine wpAny_Call_Name_kw (ld_glob I hg hm ?_ hdb)
  refine PySem.W.callWith_KW0 (h₀ := X.base) I.ok.mod.kin T.keep hall ?_ hpl
  refine thn (hkw.run pos pins s σ H _ I h) fun ws s2 ⟨zs, H2, I2, rz, hl, q2⟩ => ⟨I2.kIn, ?_⟩
  rw [hks]
  have hlu : ws.length = fs.length := by rw [← rz.length, hl]
  exact callErr (ws := ws.reverse) T I2 hr (fun s' self _ => b.k s' self ws hlu) (vals_rev rz) (by rw [List.length_reverse]; exact hl) (by show 0 ≤ 1000; decide) fun e d s' h1 h2 h3 J => ⟨.ref e, _, J, rfl, q2 e d h1 h2 h3⟩
/-- e.f of an error that is a value -/
def tXv (K : PySem.W.Frag) (f : Str) (te : TE) : TE := fun σ H Q => te σ H fun x H1 => ∃ (a C d : Addr) (fs : List (Str × V)) (v : V), x = .ref a ∧ H1 a = some (exo a C (some d)) ∧ H1 d = some (exd d fs) ∧ XfC K C ∧ PySem.W.findIn K (.ref C) f = some none ∧ fs.lookup f = some v ∧ Q v H1
theorem pe_xv {te : TE} {n : Str} (he : PE X e te) (hb : attributeBase e n X.env (eval e X.env) = eval e X.env := by rfl) : PE X (.Attribute e n pos) (tXv X.K n te) := by
  refine ⟨fun pins s σ H Q I h => ?_⟩
  refine attr_of hb (thn (he.run pins s σ H _ I h) fun u s1 hh => ?_)
  obtain ⟨x, H1, I1, rx, a, C, d, fs, v, rfl, ha, hd, T, hno, l, q⟩ := hh
  obtain rfl : u = Value.ref a := rx
  obtain ⟨t1, ho⟩ := exo_at I1.hok ha
  obtain ⟨mA, hns, hr⟩ := exd_at I1.hok hd
  obtain ⟨od, ho2, hl⟩ := lookIn_ns hns
  obtain ⟨u, hu, ru⟩ := RelO.some_of (v := v) (o := mA n) (by rw [← l]; exact hr n)
  have J : PySem.W.InstAt s1.heap a (exOb C t1 (some d)) C (some od) := ⟨ho, rfl, rfl, ho2⟩
  exact HandSPX.exc_get I1.kIn J T.ga T.gg T.exC (PySem.W.findObj_own T.hdC hno rfl (by rw [hl, hu])) (handed_of ru) ⟨v, H1, I1.tok _, ru, q⟩
/-- what isinstance asks of an error's class -/
structure XiC (K : PySem.W.Frag) (C : Addr) : Prop where
  cl : (PySem.W.clsIn K C).isSome = true
  ga : PySem.W.findIn K (.ref C) "__getattribute__" = some (some (.builtin "BaseException.__getattribute__"))
  gg : PySem.W.findIn K (.ref C) "__getattr__" = some none
  exC : PySem.W.subIn K (.ref C) (.type "BaseException") = some true
  ca : PySem.W.findIn K (.ref C) "__class__" = some (some (.builtin "object.__class__"))
  sg : PySem.W.specialIn K (.builtin "object.__class__") "__get__" = some (some (.builtin "getset_descriptor.__get__"))
  tk : PySem.W.takesIn K (.builtin "object.__class__") = some true
  ob : PySem.W.mroIn K C (.type "object") = some true
def rIsX (K : PySem.W.Frag) : List V → Hp → VK → Prop := fun xs H Q => ∃ (a C : Addr) (d : Addr) (fs : List (Str × V)) (c : V) (cv : Value) (b : Bool), xs = [.ref a, c] ∧ H a = some (exo a C (some d)) ∧ H d = some (exd d fs) ∧ XiC K C ∧ ClsV c cv ∧ PySem.W.kitOne K (.ref C) cv = some b ∧ Q (.bl b) H
theorem call_isX : CallR X (.builtin "isinstance") (rIsX X.K) := by
  intro pins s σ H xs us Q I r h
  obtain ⟨a, C, d, fs, c, cv, b, rfl, ha, hd, T, k, e, q⟩ := h
  obtain ⟨u1, u2, rfl, r1, r2⟩ := vals2 r
  have e2 := k.eq r2
  subst e2
  cases r1
  obtain ⟨t1, ho⟩ := exo_at I.hok ha
  obtain ⟨mA, hns, hr⟩ := exd_at I.hok hd
  obtain ⟨od, ho2, hl⟩ := lookIn_ns hns
  have J : PySem.W.InstAt s.heap a (exOb C t1 (some d)) C (some od) := ⟨ho, rfl, rfl, ho2⟩
  exact PySem.W.kia_one (PySem.W.kitx_exc T.cl T.ga T.gg T.exC T.ca T.sg T.tk T.ob) I.kIn J e (fun z => nomatch z) fun tk => ⟨.bl b, H, I.tok tk, rfl, q⟩
end
end Xr
set_option maxHeartbeats 4000000
namespace Xr
open PySem PySem.Spec PyProof.Rows L2
/-- sys.modules is written: no list or tuple of ours stands there -/
def KSys (K : PySem.W.Frag) : Prop := ∃ o, K.lookup sysModules = some o ∧ o.cls = .type "dict"
def keyD : Key → PyData
  | .inl i => .int i
  | .inr x => .str x
mutual
/-- a value is data: numbers, texts, lists, tuples, dicts by numbers and texts -/
inductive Dq (K : PySem.W.Frag) (H : Hp) : V → PyData → Prop
  | non : Dq K H .non .none
  | bl (b : Bool) : Dq K H (.bl b) (.bool b)
  | int (i : Int) : Dq K H (.int i) (.int i)
  | str (x : Str) : Dq K H (.str x) (.str x)
  | lst {a : Addr} {xs : List V} {ds : List PyData} : SqL K H a xs → DqAll K H xs ds → Dq K H (.ref a) (.list ds)
  | tup {a : Addr} {xs : List V} {ds : List PyData} : SqT K H a xs → DqAll K H xs ds → Dq K H (.ref a) (.tuple ds)
  | dic {a : Addr} {kvs : List (Key × V)} {ds : List PyData} : H a = some (.dK kvs) → DqAll K H (kvs.map (·.2)) ds → Dq K H (.ref a) (.dict ((kvs.map fun q => keyD q.1).zip ds))
inductive DqAll (K : PySem.W.Frag) (H : Hp) : List V → List PyData → Prop
  | nil : DqAll K H [] []
  | cons {v : V} {vs : List V} {d : PyData} {ds : List PyData} : Dq K H v d → DqAll K H vs ds → DqAll K H (v :: vs) (d :: ds)
end
theorem DqAll.len {K : PySem.W.Frag} {H : Hp} : ∀ {vs : List V} {ds : List PyData}, DqAll K H vs ds → vs.length = ds.length
  | _, _, .nil => rfl
  | _, _, .cons _ t => congrArg Nat.succ (DqAll.len t)
section
variable {X : Cx} {pins : List (Addr × Obj)} {σ : L2.St} {H : Hp} {s : Shared}
theorem not_sys {h : Heap} {K : PySem.W.Frag} (X : K.In h) (S : KSys K) {a : Addr} {o : Obj} (ho : h.get? a = some o) (hc : o.cls ≠ .type "dict") : sysModules ≠ a := fun z => by
  obtain ⟨u, hu, hd⟩ := S
  have := X _ _ hu
  rw [z, ho] at this
  cases this
  exact hc hd
theorem readsKeys : ∀ {es : List DictEntry} {vs : List (Key × Value)} (h : Heap) {P : Program} {w : World}, Pairs (mixKind P w) es vs → ReadsAll h (es.map (·.key)) (vs.map fun q => keyD q.1) []
  | _, _, _, _, _, .nil => .nil
  | _, _, h, P, w, @Pairs.cons _ _ _ _ _ e kv es kvs hk hv t => by
    have r : Reads h e.key (keyD kv.1) [] := by
      rcases keyIs_shape hk with ⟨i, tk, e1, e2⟩ | ⟨x, tk, e1, e2⟩
      · rw [e1, e2]
        exact Reads.int i tk
      · rw [e1, e2]
        exact Reads.str x tk
    exact ReadsAll.cons r (readsKeys h t)
theorem pairs_vals : ∀ {es : List DictEntry} {vs : List (Key × Value)} {P : Program} {w : World}, Pairs (mixKind P w) es vs → es.map (·.val) = vs.map (·.2)
  | _, _, _, _, .nil => rfl
  | _, _, _, _, .cons _ hv t => by rw [List.map_cons, List.map_cons, hv, pairs_vals t]
theorem kv_vals : ∀ {kvs : List (Key × V)} {vs : List (Key × Value)}, KV kvs vs → Vals (kvs.map (·.2)) (vs.map (·.2)) ∧ kvs.map (·.1) = vs.map (·.1)
  | _, _, .nil => ⟨.nil, rfl⟩
  | _, _, .cons h t => ⟨.cons h.2 (kv_vals t).1, by rw [List.map_cons, List.map_cons, h.1, (kv_vals t).2]⟩
mutual
theorem Dq.reads (S : KSys X.K) (I : Inv X pins σ H s) : ∀ {d : PyData} {v : V} (u : Value), Dq X.K H v d → RelV v u → ∃ as, Reads s.heap u d as ∧ sysModules ∉ as
  | _, _, u, .non, r => by cases r; exact ⟨_, Reads.none, by simp⟩
  | _, _, u, .bl b, r => by cases r; exact ⟨_, Reads.bool b, by simp⟩
  | _, _, u, .int i, r => by obtain ⟨t, rfl⟩ := r; exact ⟨_, Reads.int i t, by simp⟩
  | _, _, u, .str x, r => by obtain ⟨t, rfl⟩ := r; exact ⟨_, Reads.str x t, by simp⟩
  | _, _, u, .lst hs ha, r => by
    cases r
    obtain ⟨its, rv, ⟨o, n, ho, hc, _, hd⟩, _⟩ := I.list hs
    obtain ⟨as, hr, hn⟩ := DqAll.reads S I its ha rv
    refine ⟨_, Reads.list ho hc hd hr, fun z => ?_⟩
    rcases List.mem_cons.mp z with z | z
    · exact not_sys I.kIn S ho (by rw [hc]; decide) z
    · exact hn z
  | _, _, u, .tup hs ha, r => by
    cases r
    obtain ⟨its, rv, ⟨o, ho, hc, n, hd⟩, _⟩ := I.tuple hs
    obtain ⟨as, hr, hn⟩ := DqAll.reads S I its ha rv
    exact ⟨_, Reads.tuple ho hc hd hr, hn⟩
  | _, _, u, @Dq.dic _ _ a kvs ds hk ha, r => by
    cases r
    obtain ⟨_, hs, vs, kv, o, es, ep, ho, hex, hd, _, hp, _⟩ := (show ObjOk X.prog X.w H s.heap a (.dK kvs) from I.hok a _ hk)
    obtain ⟨k1, k2⟩ := kv_vals kv
    obtain ⟨bs, hr, hn⟩ := DqAll.reads S I _ ha k1
    have e1 : (((kvs.map fun q => keyD q.1).zip ds).map (·.1)) = vs.map fun q => keyD q.1 := by
      have h1 : (kvs.map fun q => keyD q.1) = vs.map fun q => keyD q.1 := by
        have := congrArg (List.map keyD) k2
        rw [List.map_map, List.map_map] at this
        exact this
      rw [List.map_fst_zip (by rw [List.length_map, ← DqAll.len ha, List.length_map]; exact Nat.le_refl _), h1]
    have e2 : (((kvs.map fun q => keyD q.1).zip ds).map (·.2)) = ds := by
      rw [List.map_snd_zip (by rw [List.length_map, ← DqAll.len ha, List.length_map]; exact Nat.le_refl _)]
    refine ⟨_, Reads.dict (as := []) (bs := bs) ho hex.1 hd ?_ ?_, fun z => ?_⟩
    · rw [e1]
      exact readsKeys _ hp
    · rw [e2, pairs_vals hp]
      exact hr
    · rcases List.mem_append.mp z with z | z
      · rcases List.mem_cons.mp z with z | z
        · rw [← z] at hs
          simp at hs
        · cases z
      · exact hn z
theorem DqAll.reads (S : KSys X.K) (I : Inv X pins σ H s) : ∀ {ds : List PyData} {vs : List V} (us : List Value), DqAll X.K H vs ds → Vals vs us → ∃ as, ReadsAll s.heap us ds as ∧ sysModules ∉ as
  | _, _, _, .nil, .nil => ⟨_, ReadsAll.nil, by simp⟩
  | _, _, _, .cons h t, .cons r rs => by
    obtain ⟨as, h1, n1⟩ := Dq.reads S I _ h r
    obtain ⟨bs, h2, n2⟩ := DqAll.reads S I _ t rs
    exact ⟨_, ReadsAll.cons h1 h2, fun z => (List.mem_append.mp z).elim n1 n2⟩
end
/-- repr(x) of a list, a tuple, a dict -/
def rRepr (K : PySem.W.Frag) : List V → Hp → VK → Prop := fun xs H Q => ∃ (a : Addr) (d : PyData), xs = [.ref a] ∧ Dq K H (.ref a) d ∧ d.showable = true ∧ d.depth ≤ 20 ∧ d.shown.length ≤ sizeLine ∧ Q (.str d.shown) H
theorem call_repr (S : KSys X.K) (hg : X.A.guards = some []) (hu : X.A.units + 64 < cLine) : CallR X (.builtin "repr") (rRepr X.K) := by
  intro pins s σ H xs us Q I r h
  obtain ⟨a, d, rfl, hd, hs, hdep, hz, q⟩ := h
  cases r with
  | cons r0 rr =>
    cases rr
    cases (show _ = Value.ref a from r0)
    obtain ⟨as, hr, hn⟩ := Dq.reads S I _ hd rfl
    exact repr_of_reads' hr hs (fun _ => hn) hg (by omega) (fun _ _ z => z) (fun h' u tk k => ⟨.str d.shown, H, I.kept (t' := tk) k, ⟨u, rfl⟩, q⟩) hz
end
end Xr
set_option maxHeartbeats 4000000
namespace Xr
open PySem PySem.Spec PyProof.Rows L2
/-- a promise that holds where no repr is under way -/
structure FnG (P : Program) (w : World) (K : PySem.W.Frag) (mg : Str → Option Value) (base : Heap) (CX : CXT) (k : Nat) (f : Addr) (fd : FuncData) (ps : List Str) (sp : Sp) : Prop where
  len : ∀ vs H Q E, sp vs H Q E → vs.length = ps.length
  run : ∀ (A : Around) (outer : List Env) (s : Shared) (H : Hp) (args : Args) (us : List Value) (vs : List V) (Q : VK) (E : XK),
    Room k A → A.guards = some [] → Env0 P w K mg base A outer s H → BindsTo s fd args (ps.zip us) → Vals vs us → sp vs H Q E →
    codeAny (model P w) A (.call (.ref f) args) (CR CX outer P w H s Q E) s
theorem FnG.of {P : Program} {w : World} {K : PySem.W.Frag} {mg : Str → Option Value} {base : Heap} {CX : CXT} {k : Nat} {f : Addr} {fd : FuncData} {ps : List Str} {sp : Sp} (F : FnOk P w K mg base CX k f fd ps sp) : FnG P w K mg base CX k f fd ps sp :=
  ⟨F.len, fun A outer s H args us vs Q E hr _ => F.run A outer s H args us vs Q E hr⟩
section
variable {P : Program} {w : World} {K : PySem.W.Frag} {mg : Str → Option Value} {base : Heap} {CX : CXT} {k : Nat} {f : Addr} {x qual : Str} {params : Arguments} {body : List Stmt} {scope : Scope} {dvs : List V} {kws : List (Str × V)} {fd : FuncData} {N ps : List Str} {sp : Sp}
/-- a def's body keeps its promise, the guards known -/
theorem okG (F : FunD K x qual params body scope dvs kws f fd) (S : FnScope N ps scope) (len : ∀ vs H Q E, sp vs H Q E → vs.length = ps.length)
    (hbody : ∀ (cdv : Value) (A : Around) (outer : List Env) (s : Shared) (H : Hp) (vs : List V) (Q : VK) (E : XK), Room k (A.deeper (envOfC qual scope s.heap.objs.size f cdv)) → A.guards = some [] → sp vs H Q E →
      ∃ t, PSs (cxOf CX P w K mg base N qual scope f cdv A outer s H E) body t ∧ t { nx := fun _ H' => Q .non H', rt := Q } (start N vs) H) :
    FnG P w K mg base CX (k + 1) f fd ps sp := by
  obtain ⟨oc, od, dV, kV, doc, pm, an, cdv, ct, osl, rfl, lk, hcd, _, _⟩ := F.ex
  refine ⟨len, fun A outer s H args us vs Q E hr hgd e0 hb r hsp => ?_⟩
  have keep0 : ∀ b o, base.get? b = some o → s.heap.get? b = some o := fun b o z => (e0.bs b o z).1
  have KX : K.In s.heap := e0.mod.kin.keeps keep0
  have hk : ∀ y ∈ ps.zip us, scope.names.lookup y.1 = some .local ∨
      (scope.names.lookup y.1 = some .cell ∧ ((cellsFrom (s.heap.objs.size + 1) scope.names []).lookup y.1).isSome = true) := by
    rintro ⟨n, v⟩ hy
    rcases S.par n (List.of_mem_zip hy).1 with z | z
    · exact Or.inl z
    · exact Or.inr ⟨z, PySem.W.cellsFrom_some _ _ _ (Or.inl z)⟩
  refine codeAny_call_function hr.depth (KX _ _ lk) rfl S.co S.gen rfl (PySem.W.codeRec_of KX hcd) (hb _ _ _ _ ?_)
  refine wpAny_newFunctionEnv_cells S.kind hk fun env he s1 z => ?_
  subst he
  refine ⟨(e0.mod.nolimit.keeps keep0).keeps z.toInCall.keep, codeAny_func ?_⟩
  obtain ⟨t, ht, hq⟩ := hbody cdv A outer s H vs Q E (hr.deeper _) hgd hsp
  have J := inv_start (CX := CX) (E := E) S hr.hd e0 (len _ _ _ _ hsp) r z
  refine wpAny_mono (ht.run [] s1 (start N vs) H _ J hq) (fun fl s' hs => ?_) fun e s' hs => hs
  rcases fl with _ | _ | _ | u
  · obtain ⟨σ', H', J', q⟩ := hs
    exact ⟨V.non, H', J'.os, J'.bare, J'.base, J'.hok, rfl, q⟩
  · obtain ⟨_, _, _, q⟩ := hs
    exact q.elim
  · obtain ⟨_, _, _, q⟩ := hs
    exact q.elim
  · obtain ⟨v, σ', H', J', rv, q⟩ := hs
    exact ⟨v, H', J'.os, J'.bare, J'.base, J'.hok, rv, q⟩
end
section
variable {X : Cx} {CX : CXT} {k : Nat} {f : Addr} {fd : FuncData} {ps : List Str} {sp : Sp} {E : XK} {ds : List Value} {dvs : List V} {x : Str} {p pos : Pos} {e : Expr} {es : List Expr} {t : TA}
theorem run_fnG {pins : List (Addr × Obj)} {σ : L2.St} {H : Hp} {s : Shared} {Q : VK} {us : List Value} {vs : List V} (F : FnG X.prog X.w X.K X.mg X.base CX k f fd ps sp) (hr : Room k X.A) (hg : X.A.guards = some []) (hb : Binds X.K fd ps ds) (hd : Vals dvs ds) (hx : Passes CX X E)
    (I : Inv X pins σ H s) (r : Vals vs us) (h : sp (vs ++ dvs) H Q E) : wpAny (model X.prog X.w) X.A (call (.ref f) us) (EP X pins σ Q) X.xe s := by
  have r2 := r.append hd
  have hl : (us ++ ds).length = ps.length := r2.length.symm.trans (F.len _ _ _ _ h)
  refine wpAny_call (codeAny_mono (F.run X.A X.stack s H ⟨us, []⟩ (us ++ ds) (vs ++ dvs) Q E hr hg I.env0 (hb s us I.kIn hl) r2 h) fun r s' hq => ?_)
  rcases r with er | (_ | _ | _ | u)
  · exact hx pins σ H s er s' I hq
  · exact hq.elim
  · exact hq.elim
  · exact hq.elim
  · exact I.after hq
theorem pe_callG (F : FnG X.prog X.w X.K X.mg X.base CX k f fd ps sp) (hr : Room k X.A) (hgd : X.A.guards = some []) (hg : Gl X x) (hm : X.mg x = some (.ref f)) (hk : PySem.W.keepIn X.K (.ref f) = true) (hb : Binds X.K fd ps ds) (hd : Vals dvs ds) (hx : Passes CX X E)
    (ha : PA X (e :: es) t) (hdb : (x == ("__debug__" : Str)) = false := by decide) (he : starEach (e :: es) X.env = (false, eval e X.env) :: starEach es X.env := by rfl) (hpl : (backTo pos (starEach es X.env)).any (·.1) = false := by rfl) :
    PE X (.Call (.Name x p) (e :: es) [] pos) (tCall sp dvs E t) := by
  refine ⟨fun pins s σ H Q I h => wpAny_Call_Name_kw (ld_glob I hg hm ?_ hdb)⟩
  refine PySem.W.callWith_K (h₀ := X.base) I.ok.mod.kin hk (thn (ha.run pos pins s σ H _ I h) fun us s1 hh => ?_) he hpl
  obtain ⟨vs, H1, I1, r, q⟩ := hh
  exact ⟨I1.kIn, run_fnG F hr hgd hb hd hx I1 r q⟩
end
/-- the script, locked -/
def scrH (a : Addr) (o : Obj) (xs : List V) : Hp := fun b => if b = a then some (.frz o (.lst xs)) else none
theorem lawCallG {P : Program} {w : World} {K : PySem.W.Frag} {mg mb : Str → Option Value} {CX : CXT} {k : Nat} {fa a : Addr} {fd : FuncData} {x : Str} {sp : Sp} {s1 : Shared} {vs : List Value} {ns : List Int}
    (KX : K.In s1.heap) (hns : s1.heap.Ns mainGlobals mg) (hb : s1.heap.Ns builtinsNs mb) (hbb : ∀ x : Str, x ≠ "__name__" → mb x = bootBuiltins x) (hlim : s1.heap.NoLimit) (hg : s1.gens = #[])
    (ha : s1.heap.get? a = some { cls := .type "list", data := .seq vs.toArray }) (hi : IntsAre vs ns) (hl : ns.length ≤ sizeLine) (hr : Room k callerA)
    (F : ∀ base : Heap, K.In base → base.Ns mainGlobals mg → FnG P w K mg base CX k fa fd [x] sp) (hbind : ∀ (s : Shared) (u : Value), BindsTo s fd ⟨[u], []⟩ [(x, u)])
    (hsp : ∀ H : Hp, Only H → SqL K H a (ns.map V.int) → sp [.ref a] H (fun v _ => v = .bl true) fun _ _ _ => False)
    (hCX : ∀ H e s', CX [] H s1 (fun _ _ _ => False) e s' → False) :
    codeAny (model P w) callerA (.call (.ref fa) ⟨[.ref a], []⟩) (fun r s' => r = .ok (.ret (.bool true)) ∧ OldK s1.heap s'.heap ∧ s'.os = s1.os ∧ AllBare s'.gens) s1 := by
  have go : ∀ H : Hp, Only H → SqL K H a (ns.map V.int) → HOk P w H s1.heap → (∀ b, H b ≠ none → b = a) → (H a ≠ none → K.lookup a = none) →
      codeAny (model P w) callerA (.call (.ref fa) ⟨[.ref a], []⟩) (fun r s' => r = .ok (.ret (.bool true)) ∧ OldK s1.heap s'.heap ∧ s'.os = s1.os ∧ AllBare s'.gens) s1 := by
    intro H hO hS hok hA hK
    have isA : ∀ {b : Addr} {u : HO}, H b = some u → b = a := fun {b u} z => hA b (by rw [z]; exact Option.some_ne_none _)
    have dictFree : ∀ {b : Addr} {o : Obj} {es : Array DictEntry} {ep : Nat}, s1.heap.get? b = some o → o.data = .dict es ep → H b = none := by
      intro b o es ep z d
      cases q : H b with
      | none => rfl
      | some u =>
        cases isA q
        rw [ha] at z
        cases z
        cases (show Data.seq vs.toArray _ = Data.dict es ep from d)
    have nsB : ∀ {b : Addr} {m : Str → Option Value}, s1.heap.Ns b m → (hidT s1.heap H).Ns b m := by
      rintro b m ⟨o, es, ep, z, d, r⟩
      exact ⟨o, es, ep, hidT_get z (dictFree z d), d, r⟩
    have KB : K.In (hidT s1.heap H) := fun b o z => hidT_get (KX b o z) (by
      cases q : H b with
      | none => rfl
      | some u =>
        cases isA q
        rw [hK (by rw [q]; exact Option.some_ne_none _)] at z
        cases z)
    obtain ⟨mc, l1, l2⟩ := hlim
    have M : Mod K mg (hidT s1.heap H) := ⟨KB, nsB hns, ⟨mb, nsB hb, hbb⟩, ⟨mc, nsB l1, l2⟩⟩
    have e0 : Env0 P w K mg (hidT s1.heap H) callerA [] s1 H :=
      ⟨rfl, M, fun b o z => of_hidT z, Nat.le_of_eq (hidT_size _ _), trivial, fun b hb => absurd (show b ∈ ([] : List Addr) from hb) (by simp), hok, .of_eq hg⟩
    have run := (F _ KB (nsB hns)).run callerA [] s1 H ⟨[.ref a], []⟩ [.ref a] [.ref a] _ _ hr rfl e0 (hbind s1 (.ref a)) (.cons rfl .nil) (hsp H hO hS)
    refine codeAny_mono run fun r s' h => ?_
    rcases r with er | (_ | _ | _ | u)
    · exact (hCX H er s' h).elim
    · exact h.elim
    · exact h.elim
    · exact h.elim
    · obtain ⟨v, H', os, bare, un, hok', r', q⟩ := h
      cases (show v = .bl true from q)
      cases (show u = Value.bool true from r')
      refine ⟨rfl, OldK.of_keep fun b o z => ?_, os, bare⟩
      rcases hO b with n | ⟨ob, xs, y⟩
      · exact un.keep b o z n (fun y => absurd (show b ∈ ([] : List Addr) from y) (by simp)) (by simp)
      · have e1 := (hok b _ y).1
        rw [z] at e1
        cases e1
        exact (hok' b _ (un.frzs b _ _ y)).1
  have rv := vals_ints hi
  cases hk : K.lookup a with
  | some o =>
    have z := KX a o hk
    rw [ha] at z
    cases z
    refine go (fun _ => none) (fun _ => Or.inl rfl) (Or.inr ⟨_, vs.toArray, _, hk, rfl, rfl, rfl, by rw [List.size_toArray, hi.length]; exact hl, by simpa using rv⟩) ?_ (fun b z => absurd rfl z) fun z => absurd rfl z
    intro b u z
    cases (show (none : Option HO) = some u from z)
  | none =>
    have hit : scrH a { cls := .type "list", data := .seq vs.toArray } (ns.map V.int) a = some (.frz { cls := .type "list", data := .seq vs.toArray } (.lst (ns.map V.int))) := if_pos rfl
    have miss : ∀ {b : Addr}, b ≠ a → scrH a { cls := .type "list", data := .seq vs.toArray } (ns.map V.int) b = none := fun z => if_neg z
    refine go (scrH a { cls := .type "list", data := .seq vs.toArray } (ns.map V.int)) (fun b => ?_) (Or.inl (Or.inr ⟨_, hit⟩)) (fun b u z => ?_) (fun b z => Classical.byContradiction fun y => z (miss y)) fun _ => hk
    · by_cases hba : b = a
      · cases hba
        exact Or.inr ⟨_, _, hit⟩
      · exact Or.inl (miss hba)
    · by_cases hba : b = a
      · cases hba
        rw [hit] at z
        cases z
        exact ⟨ha, by rw [List.length_map]; exact hl, vs, _, rv, ha⟩
      · rw [miss hba] at z
        cases z
theorem walkG {l : PySem.W.OpenLaw} {n k : Nat} {q : Program} {loose : List Str} {XP : (Str → Option Value) → Heap → Prop} {YP : World → Heap → Prop} {d : DefRec} {CX : CXT} {x : Str}
    (hn : l.most = some n) (hn2 : n ≤ sizeLine) (hdf : d.params.defaults = []) (hr : Room k callerA)
    (F : ∀ (w : World) (mg : Str → Option Value) (fa : Addr) (h : Heap), YP w h → h.Ns mainGlobals mg → mg d.name = some (.ref fa) →
      ∃ (K : PySem.W.Frag) (fd : FuncData) (sp : Sp), K.In h ∧ (∀ (s : Shared) (u : Value), BindsTo s fd ⟨[u], []⟩ [(x, u)]) ∧
        (∀ (H : Hp) (a : Addr) (ns : List Int), ns.length ≤ n → Only H → SqL K H a (ns.map V.int) → sp [.ref a] H (fun v _ => v = .bl true) fun _ _ _ => False) ∧
        ∀ base : Heap, K.In base → base.Ns mainGlobals mg → FnG l.prog w K mg base CX k fa fd [x] sp)
    (hCX : ∀ (H : Hp) (s : Shared) (e : Value) (s' : Shared), CX [] H s (fun _ _ _ => False) e s' → False) :
    PySem.W.WalkO q loose XP YP l.row.toRowW d [] (fun f vs => PySem.call f vs) := by
  refine Att.attach_call hn hdf fun w s0 s1 mg mb fa o pm cd doc a vs ns G Y ho hd hcd hmg hobj hints hlen hg => ?_
  obtain ⟨K, fd, sp, KX, hb, hsp, hF⟩ := F w mg fa _ Y G.T.g hmg
  exact lawCallG KX G.T.g G.T.b G.T.builtins G.T.nolimit hg hobj hints (Nat.le_trans hlen hn2) hr hF hb (fun H hO hS => hsp H a ns hlen hO hS) fun H e s' => hCX H s1 e s'
end Xr
set_option maxHeartbeats 4000000
namespace Xr
open PySem PySem.Spec PyProof.Rows L2
/-! ### the written part: what the module's names reach, the cells of closures, sys.modules, the statics -/
def closOf (g : Addr → Option Obj) (as : List Addr) : List Addr := as.flatMap fun a => match g a with
  | some ⟨_, _, .func fd, _⟩ => fd.closure.map (·.2)
  | _ => []
def asE (g : Addr → Option Obj) (n : Nat) : List Addr := sysModules :: cStatics :: (He.asD g n ++ closOf g (He.asD g n))
def KE (g : Addr → Option Obj) (n : Nat) : PySem.W.Frag := He.frT g (asE g n)
abbrev FnC : Type := Option (Str × Str × Arguments × FuncBody × Scope × Addr × List Str × Addr)
/-- a def with a closure -/
def fnC (K : PySem.W.Frag) (p : He.Defn) : FnC := match K.lookup (He.fAd K p) with
  | some ⟨_, _, .func fd, _⟩ => some (fd.name, fd.qualname, fd.params, fd.body, fd.scope, fd.globals, fd.closure.map (·.1), fd.builtins)
  | _ => none
/-- one def with a closure: where it stands, and what is told of it -/
abbrev DefC : Type := He.Defn × FnC
abbrev AlE : Type := He.AlX × List FnC
def obsE (n : Nat) (fa : List He.Fa) (fn : List He.DefD) (ts : List He.Tab) (tf : List He.Defn) (cl : List DefC) (ex : PySem.W.Frag → Bool) (g : Addr → Option Obj) : AlE :=
  ((He.obsT fa fn ts (KE g n), ex (KE g n) && He.tabsB g tf (KE g n)), cl.map fun q => fnC (KE g n) q.1)
def valE (fn : List He.DefD) (ts : List He.Tab) (cl : List DefC) (w : World) : AlE := ((He.valT fn ts w, true), cl.map (·.2))
structure SaysE (fa : List He.Fa) (fn : List He.DefD) (ts : List He.Tab) (tf : List He.Defn) (cl : List DefC) (ex : PySem.W.Frag → Bool) (w : World) (h : Heap) (K : PySem.W.Frag) : Prop where
  x : He.SaysX fa fn ts tf ex w h K
  c : cl.map (fun q => fnC K q.1) = cl.map (·.2)
theorem says_of {n : Nat} {fa : List He.Fa} {fn : List He.DefD} {ts : List He.Tab} {tf : List He.Defn} {cl : List DefC} {ex : PySem.W.Frag → Bool} {w : World} {h : Heap} (e : obsE n fa fn ts tf cl ex h.get? = valE fn ts cl w) : SaysE fa fn ts tf cl ex w h (KE h.get? n) := by
  have e1 : He.obsT fa fn ts (KE h.get? n) = He.valT fn ts w := congrArg (fun z : AlE => z.1.1) e
  have e2 : (ex (KE h.get? n) && He.tabsB h.get? tf (KE h.get? n)) = true := congrArg (fun z : AlE => z.1.2) e
  have e3 : cl.map (fun q => fnC (KE h.get? n) q.1) = cl.map (·.2) := congrArg (fun z : AlE => z.2) e
  obtain ⟨a1, a2⟩ := He.ba e2
  have key : ∀ p ∈ tf, PySem.W.codeHdIn (KE h.get? n) (He.cT (KE h.get? n) p).1 (He.cT (KE h.get? n) p).2 = true ∧
      ∃ o, h.get? (He.cT (KE h.get? n) p).2 = some o ∧ He.emptyTab o = true := by
    intro p hp
    obtain ⟨b1, b2⟩ := He.ba (List.all_eq_true.mp a2 p hp)
    refine ⟨b1, ?_⟩
    cases q : h.get? (He.cT (KE h.get? n) p).2 with
    | none =>
      rw [q] at b2
      cases b2
    | some o =>
      rw [q] at b2
      exact ⟨o, rfl, b2⟩
  refine ⟨⟨e1, a1, fun p hp => (key p hp).1, fun p hp => ?_, fun p hp => ?_⟩, e3⟩
  · obtain ⟨_, o, q, z⟩ := key p hp
    exact He.frT_none q z
  · obtain ⟨_, o, q, z⟩ := key p hp
    rw [q, He.emptyTab_eq z]
def hookE (n : Nat) (fa : List He.Fa) (fn : List He.DefD) (ts : List He.Tab) (tf : List He.Defn) (cl : List DefC) (ex : PySem.W.Frag → Bool) : PySem.W.Hook where
  α := AlE
  obs := fun s => obsE n fa fn ts tf cl ex s.heap.get?
  val := fun w => valE fn ts cl w
  says := fun w h => ∃ K : PySem.W.Frag, K.In h ∧ SaysE fa fn ts tf cl ex w h K
  of := fun _ _ e => ⟨_, He.frT_in, says_of e⟩
  keeps := fun _ _ _ ⟨K, hK, c⟩ k => ⟨K, PySem.W.Frag.In.keeps hK k, ⟨⟨c.x.t, c.x.more, c.x.hd, c.x.out, fun p hp => k _ _ (c.x.empty p hp)⟩, c.c⟩⟩
theorem obsE_eq {n : Nat} {fa : List He.Fa} {fn : List He.DefD} {ts : List He.Tab} {tf : List He.Defn} {cl : List DefC} {ex : PySem.W.Frag → Bool} {g : Addr → Option Obj} {s : Shared} (h : ∀ a, g a = s.heap.get? a) : obsE n fa fn ts tf cl ex g = (hookE n fa fn ts tf cl ex).obs s := by
  have e : g = s.heap.get? := funext h
  rw [e] <;> rfl
theorem SaysE.clo {fa : List He.Fa} {fn : List He.DefD} {ts : List He.Tab} {tf : List He.Defn} {cl : List DefC} {ex : PySem.W.Frag → Bool} {w : World} {h : Heap} {K : PySem.W.Frag} (c : SaysE fa fn ts tf cl ex w h K) {q : DefC} (hq : q ∈ cl) : fnC K q.1 = q.2 := by
  obtain ⟨i, hi, e⟩ := List.mem_iff_getElem.mp hq
  have z : (cl.map (fun q => fnC K q.1))[i]? = (cl.map (·.2))[i]? := by rw [c.c]
  rw [List.getElem?_map, List.getElem?_map, List.getElem?_eq_getElem hi, e] at z
  exact Option.some.inj z
/-! ### an error's class -/
def oV (a b : Option Value) : Bool := decide (a = b)
def codeRest (K : PySem.W.Frag) (C fI : Addr) (file : Str) : Bool := match K.lookup fI with
  | some ⟨_, _, .func fd, _⟩ => (match fd.code, fd.closure, fd.defaults with
    | .ref cda, [(_, cc)], .none => PySem.W.codeIn K (.ref cda) fd.qualname && ((match K.lookup cc with
      | some ⟨_, _, .cell (some (.ref D)), _⟩ => decide (D = C)
      | _ => false) && (match K.lookup cda with
      | some ⟨_, _, .fields vs, _⟩ => (match (vs[2]? : Option Value) with
        | some (Value.str f _) => decide (f = file)
        | _ => false)
      | _ => false))
    | _, _, _ => false)
  | _ => false
def errB (file : Str) (K : PySem.W.Frag) (x : Str) (B ini nw : String) (bmB : List Value) (fs : List Str) : Bool :=
  (PySem.W.excInitIn K (He.ga K x) bmB nw && (He.eqO (PySem.W.ks_superIn K (He.ga K x) (He.ga K x) "__init__") (some (some (.builtin ini))) && decide (PySem.W.subIn K (.ref (He.ga K x)) (.type B) = some true))) &&
  ((decide ((PySem.W.clsIn K (He.ga K x)).map (·.hasDict) = some true) && (He.eqO (PySem.W.findIn K (.ref (He.ga K x)) "__setattr__") (some (some (.builtin "object.__setattr__"))) &&
    He.eqO (PySem.W.findIn K (.ref (He.ga K x)) "__init__") (some (some (.ref (He.ma K (He.ga K x) "__init__")))))) &&
  ((oV (PySem.W.typeIn K (.ref (He.ma K (He.ga K x) "__init__"))) (some (.type "function")) && (codeRest K (He.ga K x) (He.ma K (He.ga K x) "__init__") file && fs.all fun f => He.eqO (PySem.W.findIn K (.ref (He.ga K x)) f) (some none))) &&
  ((decide (PySem.W.subIn K (.ref (He.ga K x)) (.type "BaseException") = some true) && (oV (PySem.W.typeIn K (.ref (He.ga K x))) (some (.type "type")) && PySem.W.keepIn K (.ref (He.ga K x)))) &&
  ((He.eqO (PySem.W.findIn K (.ref (He.ga K x)) "__getattribute__") (some (some (.builtin "BaseException.__getattribute__"))) && (He.eqO (PySem.W.findIn K (.ref (He.ga K x)) "__getattr__") (some none) && PySem.W.hasDictIn K (He.ga K x))) &&
  (He.eqO (PySem.W.findIn K (.ref (He.ga K x)) "__class__") (some (some (.builtin "object.__class__"))) && (decide (PySem.W.mroIn K (He.ga K x) (.type "object") = some true) && He.eqO (PySem.W.nsIn K mainGlobals x) (some (some (.ref (He.ga K x))))))))))
def allB (K : PySem.W.Frag) : Bool := (He.eqO (PySem.W.nsIn K cStatics "thirdparty.any") (some none) && He.eqO (PySem.W.nsIn K mainGlobals "super") (some none)) &&
  ((He.eqO (PySem.W.specialIn K (.builtin "object.__class__") "__get__") (some (some (.builtin "getset_descriptor.__get__"))) && decide (PySem.W.takesIn K (.builtin "object.__class__") = some true)) &&
  (match K.lookup sysModules with
  | some o => decide (o.cls = .type "dict")
  | none => false))
structure AllF (K : PySem.W.Frag) : Prop where
  opq : PySem.W.nsIn K cStatics "thirdparty.any" = some none
  sup : PySem.W.nsIn K mainGlobals "super" = some none
  sg : PySem.W.specialIn K (.builtin "object.__class__") "__get__" = some (some (.builtin "getset_descriptor.__get__"))
  tk : PySem.W.takesIn K (.builtin "object.__class__") = some true
  sys : KSys K
theorem allB_ok {K : PySem.W.Frag} (h : allB K = true) : AllF K := by
  obtain ⟨h1, h⟩ := He.ba h
  obtain ⟨h1, h2⟩ := He.ba h1
  obtain ⟨h3, h⟩ := He.ba h
  obtain ⟨h3, h4⟩ := He.ba h3
  refine ⟨He.eqO_ok h1, He.eqO_ok h2, He.eqO_ok h3, of_decide_eq_true h4, ?_⟩
  split at h
  · rename_i o ho
    exact ⟨o, ho, of_decide_eq_true h⟩
  · cases h
/-- all that is known of an error's class -/
structure Err (P : Program) (K : PySem.W.Frag) (C : Addr) (fs : List Str) : Prop where
  made : ∃ fI fd, ErrC P K C fI fd fs ∧ ErrB fd fs
  xf : XfC K C
  xi : XiC K C
  no : ∀ f ∈ fs, PySem.W.findIn K (.ref C) f = some none
theorem err_ok {P : Program} {K : PySem.W.Frag} {x q : Str} {B ini N nw : String} {bmB : List Value} {fs : List Str} {params : Arguments} {body : List Stmt} {sc : Scope} (bf : BaseF B ini N nw bmB) (h : errB P.main.file K x B ini nw bmB fs = true) (ha : AllF K)
    (hF : fnC K (x, some "__init__") = (some ("__init__", q, params, .stmts body, sc, mainGlobals, ["__class__"], builtinsNs) : FnC)) (IT : InitT params body sc fs) (htop : (P.main.scope.names.lookup ("super" : Str)).isSome = false)
    (hb : ∀ (kV doc pm : Value) (an : Option Addr) (cdv ct : Value) (cc : Addr), ErrB (PySem.W.ksFn "__init__" q params body sc .none kV doc pm an cdv ct cc) fs) : Err P K (He.ga K x) fs := by
  unfold errB at h
  obtain ⟨h1, h⟩ := He.ba h
  obtain ⟨h1, h2⟩ := He.ba h1
  obtain ⟨h2, h3⟩ := He.ba h2
  obtain ⟨h4, h⟩ := He.ba h
  obtain ⟨h4, h5⟩ := He.ba h4
  obtain ⟨h5, h6⟩ := He.ba h5
  obtain ⟨h7, h⟩ := He.ba h
  obtain ⟨h7, h8⟩ := He.ba h7
  obtain ⟨h8, h9⟩ := He.ba h8
  obtain ⟨h10, h⟩ := He.ba h
  obtain ⟨h10, h11⟩ := He.ba h10
  obtain ⟨h11, h12⟩ := He.ba h11
  obtain ⟨h13, h⟩ := He.ba h
  obtain ⟨h13, h14⟩ := He.ba h13
  obtain ⟨h14, h15⟩ := He.ba h14
  obtain ⟨h16, h⟩ := He.ba h
  obtain ⟨h17, h18⟩ := He.ba h
  have no : ∀ f ∈ fs, PySem.W.findIn K (.ref (He.ga K x)) f = some none := fun f hf => He.eqO_ok (List.all_eq_true.mp h9 f hf)
  have cl : (PySem.W.clsIn K (He.ga K x)).isSome = true := by
    have z := of_decide_eq_true h4
    cases q : PySem.W.clsIn K (He.ga K x) with
    | none =>
      rw [q] at z
      cases z
    | some c => rfl
  refine ⟨?_, ⟨He.eqO_ok h13, He.eqO_ok h14, of_decide_eq_true h10, h15⟩, ⟨cl, He.eqO_ok h13, He.eqO_ok h14, of_decide_eq_true h10, He.eqO_ok h16, ha.sg, ha.tk, of_decide_eq_true h17⟩, no⟩
  have e1 : He.fAd K (x, some "__init__") = He.ma K (He.ga K x) "__init__" := rfl
  unfold fnC at hF
  rw [e1] at hF
  unfold codeRest at h8
  cases lk : K.lookup (He.ma K (He.ga K x) "__init__") with
  | none =>
    rw [lk] at h8
    cases h8
  | some o =>
    obtain ⟨oc, od, dt, osl⟩ := o
    rw [lk] at h8 hF
    cases dt with
    | func fd =>
      obtain ⟨n1, n2, n3, n4, n5, n6, n7, n8, n9, n10, n11, n12, n13, n14, n15⟩ := fd
      have e2 : (some (n1, n2, n3, n4, n5, n6, n7.map (·.1), n15) : FnC) = (some ("__init__", q, params, .stmts body, sc, mainGlobals, ["__class__"], builtinsNs) : FnC) := hF
      simp only [Option.some.injEq, Prod.mk.injEq] at e2
      obtain ⟨g1, g2, g3, g4, g5, g6, g7, g8⟩ := e2
      subst g1 g2 g3 g4 g5 g6 g8
      dsimp only at h8
      split at h8
      · rename_i cda z cc
        have ez : z = "__class__" := by
          have := g7
          simpa using this
        subst ez
        obtain ⟨c1, c2⟩ := He.ba h8
        obtain ⟨c2, c3⟩ := He.ba c2
        refine ⟨_, _, ⟨⟨B, ini, N, nw, bmB, bf, h1, He.eqO_ok h2, of_decide_eq_true h3⟩, of_decide_eq_true h4, He.eqO_ok h5, He.eqO_ok h6, of_decide_eq_true h7,
          ⟨_, _, _, _, _, _, _, _, cda, _, cc, _, _, _, rfl, lk, IT, c1, ?_, ?_⟩, ha.opq, ha.sup, htop, no, of_decide_eq_true h10, of_decide_eq_true h11, h12⟩, hb _ _ _ _ _ _ _⟩
        · split at c2
          · rename_i D _ hc
            cases of_decide_eq_true c2
            exact ⟨_, _, _, hc⟩
          · cases c2
        · split at c3
          · rename_i vs _ hc
            split at c3
            · rename_i f tf hv
              cases of_decide_eq_true c3
              exact ⟨_, _, vs, _, tf, hc, hv⟩
            · cases c3
          · cases c3
      · cases h8
    | _ => cases h8
end Xr
set_option maxHeartbeats 4000000
namespace Xr
open PySem PySem.Spec PyProof.Rows L2
/-- a def that keeps its promise, however its function object looks -/
def OkF (P : Program) (w : World) (K : PySem.W.Frag) (mg : Str → Option Value) (base : Heap) (CX : CXT) (k : Nat) (f : Addr) (ps : List Str) (sp : Sp) : Prop :=
  ∃ fd, FnOk P w K mg base CX k f fd ps sp ∧ Binds K fd ps [] ∧ PySem.W.keepIn K (.ref f) = true
section
variable {X : Cx} {CX : CXT} {k : Nat} {f C : Addr} {ps fs : List Str} {sp : Sp} {E : XK} {x : Str} {p pos : Pos} {e : Expr} {es : List Expr} {t : TA} {kws : List Keyword}
theorem pe_f (G : OkF X.prog X.w X.K X.mg X.base CX k f ps sp) (hr : Room k X.A) (hg : Gl X x) (hm : X.mg x = some (.ref f)) (hx : Passes CX X E) (ha : PA X (e :: es) t)
    (hdb : (x == ("__debug__" : Str)) = false := by decide) (he : starEach (e :: es) X.env = (false, eval e X.env) :: starEach es X.env := by rfl) (hpl : (backTo pos (starEach es X.env)).any (·.1) = false := by rfl) :
    PE X (.Call (.Name x p) (e :: es) [] pos) (tCall sp [] E t) := by
  obtain ⟨fd, F, b, kp⟩ := G
  exact pe_call F hr hg hm kp b .nil hx ha hdb he hpl
theorem pe_errP (T : Err X.prog X.K C fs) (h3 : fs.length ≤ 3) (hr : Room 1 X.A) (hg : Gl X x) (hm : X.mg x = some (.ref C)) (ha : PA X (e :: es) t)
    (hdb : (x == ("__debug__" : Str)) = false := by decide) (he : starEach (e :: es) X.env = (false, eval e X.env) :: starEach es X.env := by rfl) (hpl : (backTo pos (starEach es X.env)).any (·.1) = false := by rfl) :
    PE X (.Call (.Name x p) (e :: es) [] pos) (tErr C fs t) := by
  obtain ⟨fI, fd, T1, b⟩ := T.made
  exact pe_err T1 b h3 hr hg hm ha hdb he hpl
theorem pe_errE (T : Err X.prog X.K C fs) (hr : Room 1 X.A) (hg : Gl X x) (hm : X.mg x = some (.ref C)) (hkw : PK X kws t)
    (hall : (backToKw pos (keywordEach kws X.env)).all (·.1.isSome) = true := by rfl) (hks : (backToKw pos (keywordEach kws X.env)).filterMap (·.1) = fs.reverse := by rfl) (hdb : (x == ("__debug__" : Str)) = false := by decide)
    (hpl : ((backTo pos (starEach [] X.env)).any (·.1) || (backToKw pos (keywordEach kws X.env)).any (·.1.isNone)) = false := by rfl) :
    PE X (.Call (.Name x p) [] kws pos) (tErrK C fs t) := by
  obtain ⟨fI, fd, T1, b⟩ := T.made
  exact pe_errK T1 b hr hg hm hkw hall hks hdb hpl
end
/-- a statement and what follows it, met at a word of one's own -/
inductive CutP (t u : TS) (D : Ends) (σ : L2.St) (H : Hp) : Prop
  | mk (J : L2.St → Hp → Prop) (h : t { D with nx := J } σ H) (k : ∀ σ' H', J σ' H' → u D σ' H') : CutP t u D σ H
def tCut (t u : TS) : TS := CutP t u
theorem pss_cut {X : Cx} {st : Stmt} {rest : List Stmt} {t u : TS} (h1 : PS X st t) (h2 : PSs X rest u) : PSs X (st :: rest) (tCut t u) := by
  constructor
  rintro pins s σ H D I ⟨J, h, hJ⟩
  refine wpAny_execs_cons (thn (h1.run pins s σ H { D with nx := J } I h) ?_)
  rintro (_ | _ | _ | v) s1 q
  · obtain ⟨σ', H', I', q⟩ := q
    exact h2.run pins s1 σ' H' D I' (hJ _ _ q)
  · exact q
  · exact q
  · exact q
/-- an expression, met at a word of one's own -/
inductive CutE (t : TE) (σ : L2.St) (H : Hp) (Q : VK) : Prop
  | mk (J : V → Hp → Prop) (h : t σ H J) (k : ∀ v H', J v H' → Q v H') : CutE t σ H Q
def tCutE (t : TE) : TE := CutE t
theorem pe_cut {X : Cx} {e : Expr} {t : TE} (h : PE X e t) : PE X e (tCutE t) := by
  constructor
  rintro pins s σ H Q I ⟨J, h1, h2⟩
  refine thn (h.run pins s σ H J I h1) ?_
  rintro u s1 ⟨v, H1, I1, r, q⟩
  exact ⟨v, H1, I1, r, h2 _ _ q⟩
/-! the heads of readings, unfolded one by one -/
section
variable {t u : TS} {D : Ends} {σ : L2.St} {H : Hp} {te ta tb : TE} {g : TG} {Q : VK} {ts : TA} {QL : List V → Hp → Prop} {c : TT} {QB : Bool → Hp → Prop} {r : R2}
theorem hd_seq : tSeq t u D σ H = t { D with nx := u D } σ H := rfl
theorem hd_asg : tAsg te g D σ H = te σ H fun x H1 => g x σ H1 D.nx := rfl
theorem hd_lst : tLst ts σ H Q = ts σ H fun xs H1 => xs.length ≤ sizeLine ∧ ∀ p, H1 p = none → Q (.ref p) (upd H1 p (.lst xs)) := rfl
theorem hd_tup : tTup ts σ H Q = ts σ H fun xs H1 => xs.length ≤ sizeLine ∧ ∀ p, H1 p = none → Q (.ref p) (upd H1 p (.tup xs)) := rfl
theorem hd_cons : tCons te ts σ H QL = te σ H fun x H1 => ts σ H1 fun xs H2 => QL (x :: xs) H2 := rfl
theorem hd_op : tOp r ta tb σ H Q = ta σ H fun x H1 => tb σ H1 fun y H2 => r x y H2 Q := rfl
theorem hd_ret : tRet te D σ H = te σ H D.rt := rfl
theorem hd_test : tTest te σ H QB = te σ H fun x H' => ∃ k, x = .bl k ∧ QB k H' := rfl
theorem hd_if : tIfS c t u D σ H = c σ H fun b H1 => if b = true then t D σ H1 else u D σ H1 := rfl
end
theorem same_new {H : Hp} {q : Addr} {o : HO} (n : H q = none) : Same H (upd H q o) := fun c u h => by
  rw [upd_ne (ne_of_none h n)]
  exact h
/-- a comprehension over a range whose test and element only read -/
theorem lcR {lo : Int} {n k : Nat} {tt : TT} {te : TE} {vs : List Nat} {σ : L2.St} {H1 : Hp} {D : Addr} {Qd : Hp → Prop} (B : Nat → Bool) (F : Nat → V) (hD : H1 D = none) (hn : n ≤ 100000)
    (hw : ∀ i : Nat, wipe ((wipe σ vs).set k (some (.int (lo + i)))) vs = wipe σ vs)
    (ht : ∀ (i : Nat) H', i < n → Same H1 H' → ∀ Qb : Bool → Hp → Prop, (∀ H'', Same H' H'' → Qb (B i) H'') → tt ((wipe σ vs).set k (some (.int (lo + i)))) H' Qb)
    (he : ∀ (i : Nat) H', i < n → B i = true → Same H1 H' → ∀ Q : VK, (∀ H'', Same H' H'' → Q (F i) H'') → te ((wipe σ vs).set k (some (.int (lo + i)))) H' Q)
    (hd : ∀ H', Same H1 H' → H' D = some (.lst (((List.range n).filter B).map F)) → Qd H') :
    ∃ W : Nat → Nat → Hp → Prop, (∃ m, W 0 m (upd H1 D (.lst []))) ∧ ∀ i m H, W i m H →
      ((Itr lo n).stop i H ∧ Qd H) ∨ ((Itr lo n).go i H ∧ ∃ Nx : Hp → Prop, (∀ H', Nx H' → ∃ m', m' < m ∧ W (i + 1) m' H') ∧ ∀ x H', (Itr lo n).yld i H x H' → (gName k) x (wipe σ vs) H' fun σ2 H2 => wipe σ2 vs = wipe σ vs ∧ tt σ2 H2 fun b H3 =>
        if b = true then te σ2 H3 fun y H4 => ∃ acc, H4 D = some (.lst acc) ∧ acc.length < sizeLine ∧ Nx (upd H4 D (.lst (acc ++ [y]))) else Nx H3) := by
  have up : ∀ {H' : Hp} {o : HO}, Same H1 H' → Same H1 (upd H' D o) := fun s b u z => by
    rw [upd_ne (ne_of_none z hD)]
    exact s b u z
  have nx : ∀ i, (List.range (i + 1)).filter B = if B i = true then (List.range i).filter B ++ [i] else (List.range i).filter B := fun i => by
    rw [List.range_succ, List.filter_append, List.filter_cons]
    split <;> simp
  refine lc_range (fun i H' => Same H1 H' ∧ H' D = some (.lst (((List.range i).filter B).map F))) ⟨same_new hD, upd_same⟩ ?_ fun H' h => hd H' h.1 h.2
  rintro i H' hi ⟨s, hl⟩
  refine ⟨hw i, ht i H' hi s _ fun H2 s2 => ?_⟩
  cases hb : B i with
  | false =>
    refine iteF ⟨s.trans s2, ?_⟩
    rw [nx i, hb]
    exact s2 _ _ hl
  | true =>
    refine iteT (he i H2 hi hb (s.trans s2) _ fun H3 s3 => ⟨_, s3 _ _ (s2 _ _ hl), ?_, up ((s.trans s2).trans s3), ?_⟩)
    · rw [List.length_map, sizeLine_eq]
      have z := List.length_filter_le B (List.range i)
      rw [List.length_range] at z
      omega
    · rw [upd_same, nx i, hb, if_pos rfl, List.map_append]
      rfl
/-! rules whose readings name K itself, for blocks -/
theorem ix_listK {X : Cx} (K : PySem.W.Frag) (h : X.K = K := by rfl) : IxR X (rIxL K) := by
  subst h
  exact ix_list
theorem cut_ints {ns : List Int} {lo hi : Option Int} (h : ns.length ≤ 63) : ∃ ns' : List Int, cutV (ns.map V.int) lo hi = ns'.map V.int ∧ ns'.length ≤ 63 := by
  have z := cutV_length (ns.map V.int) lo hi
  rw [List.length_map] at z
  unfold cutV at z ⊢
  rw [← List.map_drop, ← List.map_take] at z ⊢
  rw [List.length_map] at z
  exact ⟨_, rfl, by omega⟩
theorem iteD {p : Prop} [Decidable p] {A B : Prop} (h1 : p → A) (h2 : ¬ p → B) : if decide p = true then A else B := by
  by_cases h : p
  · rw [if_pos (decide_eq_true h)]
    exact h1 h
  · rw [if_neg (by rw [decide_eq_false h]; exact Bool.false_ne_true)]
    exact h2 h
theorem iteN {p : Prop} [Decidable p] {A B : Prop} (h1 : ¬ p → A) (h2 : p → B) : if (!decide p) = true then A else B := by
  by_cases h : p
  · rw [decide_eq_true h]
    exact h2 h
  · rw [decide_eq_false h]
    exact h1 h
theorem iteFa {b : Bool} {A B : Prop} (h : b = false) (k : B) : if b = true then A else B := by
  subst h
  exact k
theorem iteTr {b : Bool} {A B : Prop} (h : b = true) (k : A) : if b = true then A else B := by
  subst h
  exact k
theorem iteB {b : Bool} {A B : Prop} (h1 : b = true → A) (h2 : b = false → B) : if b = true then A else B := by
  cases b with
  | true => exact h1 rfl
  | false => exact h2 rfl
theorem dp_ints {K : PySem.W.Frag} {H : Hp} : ∀ ns : List Int, DpAll K H (ns.map V.int) (ns.map PyData.int)
  | [] => .nil
  | n :: l => .cons (.int n) (dp_ints l)
theorem eqv_nil : ∀ ns : List Int, PyData.eqv (.list (ns.map PyData.int)) (.list []) = ns.isEmpty
  | [] => rfl
  | n :: l => rfl
/-- what stood at other places than p stays -/
def But (p : Addr) (H H' : Hp) : Prop := ∀ b o, H b = some o → b ≠ p → H' b = some o
theorem But.refl {p : Addr} {H : Hp} : But p H H := fun _ _ h _ => h
theorem But.of {p : Addr} {H H' : Hp} (h : Same H H') : But p H H' := fun b o e _ => h b o e
theorem But.trans {p : Addr} {H H1 H2 : Hp} (a : But p H H1) (b : But p H1 H2) : But p H H2 := fun c o h n => b c o (a c o h n) n
theorem But.upd {p : Addr} {H H1 : Hp} {o : HO} (a : But p H H1) : But p H (upd H1 p o) := fun c u h n => by
  rw [upd_ne n]
  exact a c u h n
theorem But.new {p q : Addr} {H H1 : Hp} {o : HO} (a : But p H H1) (n : H1 q = none) : But p H (L2.upd H1 q o) := fun c u h z => by
  rw [upd_ne (ne_of_none (a c u h z) n)]
  exact a c u h z
/-- the pen: its cells, the index of the next one, the rest of a great one -/
structure PenAt (H : Hp) (p q : Addr) (ns : List Int) (at_ rest : Int) : Prop where
  pen : H p = some (.lst [.ref q, .int at_, .int rest])
  cells : H q = some (.lst (ns.map V.int))
  len : ns.length ≤ 63
  a0 : 0 ≤ at_
  r0 : 0 ≤ rest
theorem PenAt.ne {H : Hp} {p q : Addr} {ns : List Int} {a r : Int} (h : PenAt H p q ns a r) : q ≠ p := fun z => by
  have h1 := h.pen
  have h2 := h.cells
  rw [z, h1] at h2
  cases ns with
  | nil => cases h2
  | cons n l => cases h2
theorem PenAt.keep {H H' : Hp} {p q : Addr} {ns : List Int} {a r a' r' : Int} (h : PenAt H p q ns a r) (b : But p H H') (hp : H' p = some (.lst [.ref q, .int a', .int r'])) (h1 : 0 ≤ a') (h2 : 0 ≤ r') : PenAt H' p q ns a' r' :=
  ⟨hp, b q _ h.cells h.ne, h.len, h1, h2⟩
theorem PenAt.same {H H' : Hp} {p q : Addr} {ns : List Int} {a r : Int} (h : PenAt H p q ns a r) (b : Same H H') : PenAt H' p q ns a r :=
  ⟨b p _ h.pen, b q _ h.cells, h.len, h.a0, h.r0⟩
/-- a draw: a number below many; the pen goes on -/
def spDraw : Sp := fun vs H Q _ => ∃ (p q : Addr) (ns : List Int) (a r m : Int), vs = [.ref p, .int m] ∧ PenAt H p q ns a r ∧ 1 ≤ m ∧ m ≤ 100000 ∧ a ≤ 1000000 ∧
  ∀ (d a' r' : Int) (H' : Hp), 0 ≤ d → d < m → a ≤ a' → a' ≤ a + 1 → But p H H' → PenAt H' p q ns a' r' → Q (.int d) H'
def spPen (K : PySem.W.Frag) : Sp := fun vs H Q _ => ∃ (a : Addr) (ns : List Int), vs = [.ref a] ∧ SqL K H a (ns.map V.int) ∧ ns.length ≤ 63 ∧
  ∀ (p q : Addr) (ns' : List Int) (H' : Hp), H p = none → Same H H' → PenAt H' p q ns' 0 0 → Q (.ref p) H'
end Xr
set_option maxHeartbeats 0
namespace Kx
open PySem PySem.Spec PyProof.Rows L2 Xr
def top (i : Nat) : Stmt := PySem.Challenge.pw_wholelots_k01_errors.main.body.getD i (.Pass ⟨0, 0, 0, 0⟩)
def dD (x : Str) (i : Nat) : He.DefD := ⟨(x, none), x, x, defArgs (top i), defBody (top i), defScope (top i), [], []⟩
def fn : List He.DefD := [dD "_law_pen" 18, dD "_law_draw" 19, dD "_law_pick" 20, dD "_law_thing" 21, dD "_law_made" 22, dD "_law_fields" 23, dD "_law_own" 24, dD "_law_bases" 25, dD "_law_due" 26, dD "law" 27]
def fa : List He.Fa := [.glo "LotError", .glo "InvalidLegs", .glo "InvalidStrategy", .glo "InvalidList", .glo "InvalidOrder", .glo "InvalidPrices", .glo "InvalidRound", .glo "NotWhole", .glo "InvalidText", .glo "UnknownCommand", .glo "UnknownName", .glo "UnknownOrder", .glo "InvalidUndo", .glo "Held", .glo "Unstill", .glo "TooMany", .glo "_law_pen", .glo "_law_draw", .glo "_law_pick", .glo "_law_thing", .glo "_law_made", .glo "_law_fields", .glo "_law_own", .glo "_law_bases", .glo "_law_due", .glo "law", .free "len", .free "repr", .free "isinstance", .free "int", .free "abs", .free "list", .free "range", .free "ValueError", .free "KeyError", .free "IndexError", .free "LookupError", .free "RuntimeError", .free "OverflowError"]
abbrev file : Str := PySem.Challenge.pw_wholelots_k01_errors.main.file
abbrev sInvalidLegs : Stmt := inClass (top 2) 0
abbrev sInvalidStrategy : Stmt := inClass (top 3) 0
abbrev sInvalidList : Stmt := inClass (top 4) 0
abbrev sInvalidOrder : Stmt := inClass (top 5) 0
abbrev sInvalidPrices : Stmt := inClass (top 6) 0
abbrev sInvalidRound : Stmt := inClass (top 7) 0
abbrev sNotWhole : Stmt := inClass (top 8) 0
abbrev sInvalidText : Stmt := inClass (top 9) 0
abbrev sUnknownCommand : Stmt := inClass (top 10) 0
abbrev sUnknownName : Stmt := inClass (top 11) 0
abbrev sUnknownOrder : Stmt := inClass (top 12) 0
abbrev sInvalidUndo : Stmt := inClass (top 13) 0
abbrev sHeld : Stmt := inClass (top 14) 0
abbrev sUnstill : Stmt := inClass (top 15) 0
abbrev sTooMany : Stmt := inClass (top 16) 0
def cl : List DefC := [(("InvalidLegs", some "__init__"), some ("__init__", "InvalidLegs.__init__", defArgs sInvalidLegs, .stmts (defBody sInvalidLegs), defScope sInvalidLegs, mainGlobals, ["__class__"], builtinsNs)),
  (("InvalidStrategy", some "__init__"), some ("__init__", "InvalidStrategy.__init__", defArgs sInvalidStrategy, .stmts (defBody sInvalidStrategy), defScope sInvalidStrategy, mainGlobals, ["__class__"], builtinsNs)),
  (("InvalidList", some "__init__"), some ("__init__", "InvalidList.__init__", defArgs sInvalidList, .stmts (defBody sInvalidList), defScope sInvalidList, mainGlobals, ["__class__"], builtinsNs)),
  (("InvalidOrder", some "__init__"), some ("__init__", "InvalidOrder.__init__", defArgs sInvalidOrder, .stmts (defBody sInvalidOrder), defScope sInvalidOrder, mainGlobals, ["__class__"], builtinsNs)),
  (("InvalidPrices", some "__init__"), some ("__init__", "InvalidPrices.__init__", defArgs sInvalidPrices, .stmts (defBody sInvalidPrices), defScope sInvalidPrices, mainGlobals, ["__class__"], builtinsNs)),
  (("InvalidRound", some "__init__"), some ("__init__", "InvalidRound.__init__", defArgs sInvalidRound, .stmts (defBody sInvalidRound), defScope sInvalidRound, mainGlobals, ["__class__"], builtinsNs)),
  (("NotWhole", some "__init__"), some ("__init__", "NotWhole.__init__", defArgs sNotWhole, .stmts (defBody sNotWhole), defScope sNotWhole, mainGlobals, ["__class__"], builtinsNs)),
  (("InvalidText", some "__init__"), some ("__init__", "InvalidText.__init__", defArgs sInvalidText, .stmts (defBody sInvalidText), defScope sInvalidText, mainGlobals, ["__class__"], builtinsNs)),
  (("UnknownCommand", some "__init__"), some ("__init__", "UnknownCommand.__init__", defArgs sUnknownCommand, .stmts (defBody sUnknownCommand), defScope sUnknownCommand, mainGlobals, ["__class__"], builtinsNs)),
  (("UnknownName", some "__init__"), some ("__init__", "UnknownName.__init__", defArgs sUnknownName, .stmts (defBody sUnknownName), defScope sUnknownName, mainGlobals, ["__class__"], builtinsNs)),
  (("UnknownOrder", some "__init__"), some ("__init__", "UnknownOrder.__init__", defArgs sUnknownOrder, .stmts (defBody sUnknownOrder), defScope sUnknownOrder, mainGlobals, ["__class__"], builtinsNs)),
  (("InvalidUndo", some "__init__"), some ("__init__", "InvalidUndo.__init__", defArgs sInvalidUndo, .stmts (defBody sInvalidUndo), defScope sInvalidUndo, mainGlobals, ["__class__"], builtinsNs)),
  (("Held", some "__init__"), some ("__init__", "Held.__init__", defArgs sHeld, .stmts (defBody sHeld), defScope sHeld, mainGlobals, ["__class__"], builtinsNs)),
  (("Unstill", some "__init__"), some ("__init__", "Unstill.__init__", defArgs sUnstill, .stmts (defBody sUnstill), defScope sUnstill, mainGlobals, ["__class__"], builtinsNs)),
  (("TooMany", some "__init__"), some ("__init__", "TooMany.__init__", defArgs sTooMany, .stmts (defBody sTooMany), defScope sTooMany, mainGlobals, ["__class__"], builtinsNs))]
def errs : List (Str × List Str) := [("InvalidLegs", ["reason"]), ("InvalidStrategy", ["reason"]), ("InvalidList", ["reason", "name"]), ("InvalidOrder", ["reason"]), ("InvalidPrices", ["reason"]), ("InvalidRound", ["reason"]), ("NotWhole", ["first", "second"]), ("InvalidText", ["line", "word"]), ("UnknownCommand", ["line"]), ("UnknownName", ["name"]), ("UnknownOrder", ["number"]), ("InvalidUndo", ["count"]), ("Held", ["deed"]), ("Unstill", ["amounts"]), ("TooMany", ["count"])]
def eInvalidLegs (K : PySem.W.Frag) : Bool := errB file K "InvalidLegs" "ValueError" "ValueError.__init__" "ValueError.__new__" tlV ["reason"]
def eInvalidStrategy (K : PySem.W.Frag) : Bool := errB file K "InvalidStrategy" "ValueError" "ValueError.__init__" "ValueError.__new__" tlV ["reason"]
def eInvalidList (K : PySem.W.Frag) : Bool := errB file K "InvalidList" "ValueError" "ValueError.__init__" "ValueError.__new__" tlV ["reason", "name"]
def eInvalidOrder (K : PySem.W.Frag) : Bool := errB file K "InvalidOrder" "ValueError" "ValueError.__init__" "ValueError.__new__" tlV ["reason"]
def eInvalidPrices (K : PySem.W.Frag) : Bool := errB file K "InvalidPrices" "ValueError" "ValueError.__init__" "ValueError.__new__" tlV ["reason"]
def eInvalidRound (K : PySem.W.Frag) : Bool := errB file K "InvalidRound" "ValueError" "ValueError.__init__" "ValueError.__new__" tlV ["reason"]
def eNotWhole (K : PySem.W.Frag) : Bool := errB file K "NotWhole" "ValueError" "ValueError.__init__" "ValueError.__new__" tlV ["first", "second"]
def eInvalidText (K : PySem.W.Frag) : Bool := errB file K "InvalidText" "ValueError" "ValueError.__init__" "ValueError.__new__" tlV ["line", "word"]
def eUnknownCommand (K : PySem.W.Frag) : Bool := errB file K "UnknownCommand" "ValueError" "ValueError.__init__" "ValueError.__new__" tlV ["line"]
def eUnknownName (K : PySem.W.Frag) : Bool := errB file K "UnknownName" "KeyError" "KeyError.__init__" "LookupError.__new__" tlK ["name"]
def eUnknownOrder (K : PySem.W.Frag) : Bool := errB file K "UnknownOrder" "LookupError" "LookupError.__init__" "LookupError.__new__" tlL ["number"]
def eInvalidUndo (K : PySem.W.Frag) : Bool := errB file K "InvalidUndo" "IndexError" "IndexError.__init__" "IndexError.__new__" tlI ["count"]
def eHeld (K : PySem.W.Frag) : Bool := errB file K "Held" "RuntimeError" "RuntimeError.__init__" "RuntimeError.__new__" tlR ["deed"]
def eUnstill (K : PySem.W.Frag) : Bool := errB file K "Unstill" "RuntimeError" "RuntimeError.__init__" "RuntimeError.__new__" tlR ["amounts"]
def eTooMany (K : PySem.W.Frag) : Bool := errB file K "TooMany" "OverflowError" "OverflowError.__init__" "OverflowError.__new__" tlO ["count"]
/-- the numbers of an error, those of its bases -/
def names : List Str := ["InvalidLegs", "InvalidStrategy", "InvalidList", "InvalidOrder", "InvalidPrices", "InvalidRound", "NotWhole", "InvalidText", "UnknownCommand", "UnknownName", "UnknownOrder", "InvalidUndo", "Held", "Unstill", "TooMany"]
def tys : List String := ["ValueError", "KeyError", "IndexError", "LookupError", "RuntimeError", "OverflowError"]
def isOwn (K : PySem.W.Frag) : Bool := names.all fun x => names.all fun y => decide (PySem.W.kitOne K (.ref (He.ga K x)) (.ref (He.ga K y)) = some (decide (x = y)))
def bases : List (Str × Bool × List String) := [("InvalidLegs", true, ["ValueError"]), ("InvalidStrategy", true, ["ValueError"]), ("InvalidList", true, ["ValueError"]), ("InvalidOrder", true, ["ValueError"]), ("InvalidPrices", true, ["ValueError"]), ("InvalidRound", true, ["ValueError"]), ("NotWhole", true, ["ValueError"]), ("InvalidText", true, ["ValueError"]), ("UnknownCommand", true, ["ValueError"]), ("UnknownName", false, ["KeyError", "LookupError"]), ("UnknownOrder", false, ["LookupError"]), ("InvalidUndo", false, ["IndexError", "LookupError"]), ("Held", false, ["RuntimeError"]), ("Unstill", false, ["RuntimeError"]), ("TooMany", false, ["OverflowError"])]
def isBase (K : PySem.W.Frag) : Bool := bases.all fun q => decide (PySem.W.kitOne K (.ref (He.ga K q.1)) (.ref (He.ga K "LotError")) = some q.2.1) && tys.all fun t => decide (PySem.W.kitOne K (.ref (He.ga K q.1)) (.type t) = some (q.2.2.contains t))
def exB (K : PySem.W.Frag) : Bool := allB K && ((eInvalidLegs K && (eInvalidStrategy K && (eInvalidList K && (eInvalidOrder K && (eInvalidPrices K && (eInvalidRound K && (eNotWhole K && (eInvalidText K && (eUnknownCommand K && (eUnknownName K && (eUnknownOrder K && (eInvalidUndo K && (eHeld K && (eUnstill K && (eTooMany K && (isOwn K && isBase K)))))))))))))))))
abbrev R : PySem.W.OpenRow := PySem.W.OpenLaw.row PySem.Challenge.rw_wholelots_k01_errors
abbrev hk : PySem.W.Hook := hookE 6 fa fn [] [] cl exB
def ob (s : PySem.W.SharedT) : AlE := obsE 6 fa fn [] [] cl exB (HandSHeadRun.getT s)
theorem ob_eq (s : PySem.W.SharedT) : ob s = hk.obs s.abs := obsE_eq (HandSHeadRun.getT_eq s)
def loose : List Str := ["LotError", "InvalidLegs", "InvalidStrategy", "InvalidList", "InvalidOrder", "InvalidPrices", "InvalidRound", "NotWhole", "InvalidText", "UnknownCommand", "UnknownName", "UnknownOrder", "InvalidUndo", "Held", "Unstill", "TooMany", "_law_pen", "_law_draw", "_law_pick", "_law_thing", "_law_made", "_law_fields", "_law_own", "_law_bases", "_law_due"]
theorem run (w : World) : HandSHeadRun.RunEq R (PySem.W.view R.prog [27]) hk ob 6000 loose w := by
  intro os
  kernel_rfl
end Kx
set_option maxHeartbeats 4000000
namespace Kx
open PySem PySem.Spec PyProof.Rows L2 Xr
/-- what the walk asks of the text as the top has made it -/
structure Txt (P : Program) (K : PySem.W.Frag) (mg : Str → Option Value) : Prop where
  all : AllF K
  g_LotError : mg "LotError" = some (.ref (He.ga K "LotError"))
  g_InvalidLegs : mg "InvalidLegs" = some (.ref (He.ga K "InvalidLegs"))
  g_InvalidStrategy : mg "InvalidStrategy" = some (.ref (He.ga K "InvalidStrategy"))
  g_InvalidList : mg "InvalidList" = some (.ref (He.ga K "InvalidList"))
  g_InvalidOrder : mg "InvalidOrder" = some (.ref (He.ga K "InvalidOrder"))
  g_InvalidPrices : mg "InvalidPrices" = some (.ref (He.ga K "InvalidPrices"))
  g_InvalidRound : mg "InvalidRound" = some (.ref (He.ga K "InvalidRound"))
  g_NotWhole : mg "NotWhole" = some (.ref (He.ga K "NotWhole"))
  g_InvalidText : mg "InvalidText" = some (.ref (He.ga K "InvalidText"))
  g_UnknownCommand : mg "UnknownCommand" = some (.ref (He.ga K "UnknownCommand"))
  g_UnknownName : mg "UnknownName" = some (.ref (He.ga K "UnknownName"))
  g_UnknownOrder : mg "UnknownOrder" = some (.ref (He.ga K "UnknownOrder"))
  g_InvalidUndo : mg "InvalidUndo" = some (.ref (He.ga K "InvalidUndo"))
  g_Held : mg "Held" = some (.ref (He.ga K "Held"))
  g_Unstill : mg "Unstill" = some (.ref (He.ga K "Unstill"))
  g_TooMany : mg "TooMany" = some (.ref (He.ga K "TooMany"))
  g__law_pen : mg "_law_pen" = some (.ref (He.ga K "_law_pen"))
  g__law_draw : mg "_law_draw" = some (.ref (He.ga K "_law_draw"))
  g__law_pick : mg "_law_pick" = some (.ref (He.ga K "_law_pick"))
  g__law_thing : mg "_law_thing" = some (.ref (He.ga K "_law_thing"))
  g__law_made : mg "_law_made" = some (.ref (He.ga K "_law_made"))
  g__law_fields : mg "_law_fields" = some (.ref (He.ga K "_law_fields"))
  g__law_own : mg "_law_own" = some (.ref (He.ga K "_law_own"))
  g__law_bases : mg "_law_bases" = some (.ref (He.ga K "_law_bases"))
  g__law_due : mg "_law_due" = some (.ref (He.ga K "_law_due"))
  g_law : mg "law" = some (.ref (He.ga K "law"))
  z_len : mg "len" = none
  z_repr : mg "repr" = none
  z_isinstance : mg "isinstance" = none
  z_int : mg "int" = none
  z_abs : mg "abs" = none
  z_list : mg "list" = none
  z_range : mg "range" = none
  z_ValueError : mg "ValueError" = none
  z_KeyError : mg "KeyError" = none
  z_IndexError : mg "IndexError" = none
  z_LookupError : mg "LookupError" = none
  z_RuntimeError : mg "RuntimeError" = none
  z_OverflowError : mg "OverflowError" = none
  F__law_pen : ∃ fd, FunD K "_law_pen" "_law_pen" (defArgs (top 18)) (defBody (top 18)) (defScope (top 18)) [] [] (He.ga K "_law_pen") fd
  F__law_draw : ∃ fd, FunD K "_law_draw" "_law_draw" (defArgs (top 19)) (defBody (top 19)) (defScope (top 19)) [] [] (He.ga K "_law_draw") fd
  F__law_pick : ∃ fd, FunD K "_law_pick" "_law_pick" (defArgs (top 20)) (defBody (top 20)) (defScope (top 20)) [] [] (He.ga K "_law_pick") fd
  F__law_thing : ∃ fd, FunD K "_law_thing" "_law_thing" (defArgs (top 21)) (defBody (top 21)) (defScope (top 21)) [] [] (He.ga K "_law_thing") fd
  F__law_made : ∃ fd, FunD K "_law_made" "_law_made" (defArgs (top 22)) (defBody (top 22)) (defScope (top 22)) [] [] (He.ga K "_law_made") fd
  F__law_fields : ∃ fd, FunD K "_law_fields" "_law_fields" (defArgs (top 23)) (defBody (top 23)) (defScope (top 23)) [] [] (He.ga K "_law_fields") fd
  F__law_own : ∃ fd, FunD K "_law_own" "_law_own" (defArgs (top 24)) (defBody (top 24)) (defScope (top 24)) [] [] (He.ga K "_law_own") fd
  F__law_bases : ∃ fd, FunD K "_law_bases" "_law_bases" (defArgs (top 25)) (defBody (top 25)) (defScope (top 25)) [] [] (He.ga K "_law_bases") fd
  F__law_due : ∃ fd, FunD K "_law_due" "_law_due" (defArgs (top 26)) (defBody (top 26)) (defScope (top 26)) [] [] (He.ga K "_law_due") fd
  F_law : ∃ fd, FunD K "law" "law" (defArgs (top 27)) (defBody (top 27)) (defScope (top 27)) [] [] (He.ga K "law") fd
  e_InvalidLegs : Err P K (He.ga K "InvalidLegs") ["reason"]
  e_InvalidStrategy : Err P K (He.ga K "InvalidStrategy") ["reason"]
  e_InvalidList : Err P K (He.ga K "InvalidList") ["reason", "name"]
  e_InvalidOrder : Err P K (He.ga K "InvalidOrder") ["reason"]
  e_InvalidPrices : Err P K (He.ga K "InvalidPrices") ["reason"]
  e_InvalidRound : Err P K (He.ga K "InvalidRound") ["reason"]
  e_NotWhole : Err P K (He.ga K "NotWhole") ["first", "second"]
  e_InvalidText : Err P K (He.ga K "InvalidText") ["line", "word"]
  e_UnknownCommand : Err P K (He.ga K "UnknownCommand") ["line"]
  e_UnknownName : Err P K (He.ga K "UnknownName") ["name"]
  e_UnknownOrder : Err P K (He.ga K "UnknownOrder") ["number"]
  e_InvalidUndo : Err P K (He.ga K "InvalidUndo") ["count"]
  e_Held : Err P K (He.ga K "Held") ["deed"]
  e_Unstill : Err P K (He.ga K "Unstill") ["amounts"]
  e_TooMany : Err P K (He.ga K "TooMany") ["count"]
  own : isOwn K = true
  bas : isBase K = true
local macro_rules | `(tactic| walk_at "rd") => `(tactic| (repeat (first | apply Exists.intro | (refine And.intro rfl ?_) | (refine And.intro (SqL.of (by assumption)) ?_) | (refine And.intro (Or.inl (SqL.of (by assumption))) ?_) | (refine Or.inl ⟨_, rfl, ?_⟩) | (refine Or.inr ⟨_, rfl, ?_⟩) | (refine And.intro (by assumption) ?_) | (refine And.intro (Or.inl (by assumption)) ?_))))
section
variable {P : Program} {w : World} {K : PySem.W.Frag} {mg : Str → Option Value} {base : Heap}
theorem atI_ints {ns : List Int} {i : Int} (h0 : 0 ≤ i) (h1 : i < (ns.length : Int)) : ∃ c : Int, atI (ns.map V.int) i = some (.int c) := by
  have hl : i.toNat < ns.length := by omega
  refine ⟨ns[i.toNat], ?_⟩
  unfold atI ixN
  rw [List.length_map, if_pos h0, if_pos h1]
  show (ns.map V.int)[i.toNat]? = _
  rw [List.getElem?_map, List.getElem?_eq_getElem hl]
  rfl
theorem pw5 {x : Int} (h0 : 0 ≤ x) (h1 : x < 18446744073709551616) : CPow x 5 := ⟨by decide, by decide, by omega⟩
theorem pw3 {x : Int} (h0 : 0 ≤ x) (h1 : x < 18446744073709551616) : CPow x 3 := ⟨by decide, by decide, by omega⟩
theorem mul_lt {a b c d : Int} (h0 : 0 ≤ a) (h1 : a < c) (h2 : 0 ≤ b) (h3 : b ≤ d) : 0 ≤ a * b ∧ a * b ≤ c * d :=
  ⟨Int.mul_nonneg h0 h2, Int.mul_le_mul (Int.le_of_lt h1) h3 h2 (Int.le_trans h0 (Int.le_of_lt h1))⟩
theorem mix_ok {x a : Int} (h : 0 ≤ x ∧ x < 2147483629) (a0 : 0 ≤ a) (a2 : a ≤ 1000000) : (-(2 ^ 64 : Int) < x ∧ x < 2 ^ 64) ∧ 0 ≤ x * (a + 20013) + 50025 * a * a + 23 ∧ x * (a + 20013) + 50025 * a * a + 23 < 18446744073709551616 := by
  have y1 := mul_lt (a := x) (b := a + 20013) (c := 2147483629) (d := 1020013) h.1 h.2 (by omega) (by omega)
  have y2 := mul_lt (a := 50025 * a) (b := a) (c := 50025000001) (d := 1000000) (by omega) (by omega) (by omega) (by omega)
  omega
theorem sc__law_draw : FnScope ["_law_pen_here", "_law_many", "_law_digit", "_law_at", "_law_cell", "_law_great", "_law_mixed"] ["_law_pen_here", "_law_many"] (defScope (top 19)) := ⟨rfl, rfl, rfl, by decide +kernel, rfl, by decide +kernel, by decide +kernel⟩
set_option maxHeartbeats 4000000 in
theorem ok__law_draw (T : Txt P K mg) : OkF P w K mg base CX0 1 (He.ga K "_law_draw") ["_law_pen_here", "_law_many"] spDraw := by
  obtain ⟨fd, F⟩ := T.F__law_draw
  refine ⟨fd, F.ok sc__law_draw (fun vs H Q E h => ?_) (fun cdv A outer s H vs Q E hr h => ?_), F.bindsN fun _ _ _ _ _ _ us hl => match us, hl with | [_, _], _ => rfl, F.kp⟩
  · obtain ⟨p, q, ns, a, r, m, rfl, _⟩ := h
    rfl
  · obtain ⟨p, q, ns, a, r, m, rfl, S, m1, m2, a2, k⟩ := h
    have hu64 := hr.units
    have hp := S.pen
    have hq := S.cells
    have a0 := S.a0
    have r0 := S.r0
    have mp : 0 < m := by omega
    have md : CDiv r m := ⟨mp, by omega⟩
    refine ⟨_, PSs.nox (pss_cons (ps_if (pt_cmpR op_gt (pe_ix (ix_listK K) (pv 0) pe_int (fun _ _ => rfl)) pe_int (nomark _))
      (pss_cons (ps_asg (pe_op op_mod (pe_callTy call_int1 (by rfl) T.z_int (by decide +kernel) (pa_cons (pe_ix (ix_listK K) (pv 0) pe_int (fun _ _ => rfl)) pa_nil)) (pv 1)) (pg_name (i := 2) sc__law_draw.nd rfl (.inl rfl)))
    (pss_cons (ps_asg (pe_op op_fdiv (pe_callTy call_int1 (by rfl) T.z_int (by decide +kernel) (pa_cons (pe_ix (ix_listK K) (pv 0) pe_int (fun _ _ => rfl)) pa_nil)) (pv 1)) (pg_sub (pv 0) pe_int set_list))
    (pss_one (ps_ret (pv 2)))))
      pss_nil)
    (pss_cons (ps_asg (pe_ix (ix_listK K) (pv 0) pe_int (fun _ _ => rfl)) (pg_name (i := 3) sc__law_draw.nd rfl (.inl rfl)))
    (pss_cons (ps_asg (pe_op op_add (pv 3) pe_int) (pg_sub (pv 0) pe_int set_list))
    (pss_cons (ps_asg (pe_op op_add (pe_op op_mul pe_int (pv 3)) pe_int) (pg_name (i := 4) sc__law_draw.nd rfl (.inl rfl)))
    (pss_cut (ps_if (pt_cmpR (op_neD hu64) (pe_ix (ix_listK K) (pv 0) pe_int (fun _ _ => rfl)) (pe_lst pa_nil) (nomark _))
      (pss_one (ps_asg (pe_ix (ix_listK K) (pe_ix (ix_listK K) (pv 0) pe_int (fun _ _ => rfl)) (pe_op op_mod (pe_callTy call_int1 (by rfl) T.z_int (by decide +kernel) (pa_cons (pv 3) pa_nil)) (pe_callB call_len_seq (by rfl) T.z_len (by decide +kernel) (pa_cons (pe_ix (ix_listK K) (pv 0) pe_int (fun _ _ => rfl)) pa_nil))) (fun _ _ => rfl)) (pg_name (i := 4) sc__law_draw.nd rfl (.inl rfl))))
      pss_nil)
    (pss_cut (ps_if (PW.pt (pw_and (pt_cmpR op_lt (pv 3) (pe_callB call_len_seq (by rfl) T.z_len (by decide +kernel) (pa_cons (pe_ix (ix_listK K) (pv 0) pe_int (fun _ _ => rfl)) pa_nil)) (nomark _)) (pw_and1 (pt_cmpR op_ge (pe_callB call_abs (by rfl) T.z_abs (by decide +kernel) (pa_cons (pv 4) pa_nil)) (pe_op op_pow pe_int pe_int) (nomark _)))))
      (pss_cons (ps_asg (pe_op op_add (pe_op op_mul pe_int (pe_callB call_abs (by rfl) T.z_abs (by decide +kernel) (pa_cons (pv 4) pa_nil))) (pe_callTy call_int1 (by rfl) T.z_int (by decide +kernel) (pa_cons (pe_cmpR op_lt (pv 4) pe_int (nomark _)) pa_nil))) (pg_name (i := 5) sc__law_draw.nd rfl (.inl rfl)))
    (pss_cons (ps_asg (pe_op op_fdiv (pe_callTy call_int1 (by rfl) T.z_int (by decide +kernel) (pa_cons (pv 5) pa_nil)) (pv 1)) (pg_sub (pv 0) pe_int set_list))
    (pss_one (ps_ret (pe_op op_mod (pe_callTy call_int1 (by rfl) T.z_int (by decide +kernel) (pa_cons (pv 5) pa_nil)) (pv 1))))))
      pss_nil)
    (pss_cons (ps_asg (pe_op op_mod (pe_callTy call_int1 (by rfl) T.z_int (by decide +kernel) (pa_cons (pe_op op_pow (pe_op op_add (pe_op op_add (pe_op op_mod (pe_callTy call_int1 (by rfl) T.z_int (by decide +kernel) (pa_cons (pv 4) pa_nil)) pe_int) (pe_op op_mul pe_int (pv 3))) pe_int) pe_int) pa_nil)) pe_int) (pg_name (i := 6) sc__law_draw.nd rfl (.inl rfl)))
    (pss_cons (ps_asg (pe_op op_mod (pe_callTy call_int1 (by rfl) T.z_int (by decide +kernel) (pa_cons (pe_op op_pow (pe_op op_add (pe_op op_add (pe_op op_mul (pv 6) (pe_op op_add (pv 3) pe_int)) (pe_op op_mul (pe_op op_mul pe_int (pv 3)) (pv 3))) pe_int) pe_int) pa_nil)) pe_int) (pg_name (i := 6) sc__law_draw.nd rfl (.inl rfl)))
    (pss_one (ps_ret (pe_op op_mod (pe_callTy call_int1 (by rfl) T.z_int (by decide +kernel) (pa_cons (pe_op op_fdiv (pv 6) pe_int) pa_nil)) (pv 1)))))))))))), ?_⟩
    walk_at "rd"
    show (if decide (0 < r) = true then _ else _)
    by_cases hr0 : 0 < r
    · rw [if_pos (decide_eq_true hr0)]
      walk_at "rd"
      refine k (r % m) a (r / m) _ (Int.emod_nonneg _ (by omega)) (Int.emod_lt_of_pos _ mp) (Int.le_refl _) (by omega) (But.refl.upd) (S.keep But.refl.upd upd_same a0 (Int.ediv_nonneg r0 (by omega)))
    · rw [if_neg (by simpa using hr0)]
      walk_at "rd"
      have hp1 : upd H p (.lst [.ref q, .int (a + 1), .int r]) p = some (.lst [.ref q, .int (a + 1), .int r]) := upd_same
      have hq1 : upd H p (.lst [.ref q, .int (a + 1), .int r]) q = some (.lst (ns.map V.int)) := (upd_ne S.ne).trans hq
      refine And.intro (.inl ⟨by decide, by decide⟩) ?_
      walk_at "rd"
      refine CutP.mk (fun σ' H' => ∃ c : Int, σ' = [some (.ref p), some (.int m), none, some (.int a), some (.int c), none, none] ∧ But p H H' ∧ PenAt H' p q ns (a + 1) r) ?_ ?_
      · refine ⟨_, rfl, p, _, _, _, rfl, rfl, SqL.of hp1, rfl, show (0 : Nat) ≤ sizeLine by decide, fun z hz => ?_⟩
        have S2 : PenAt (upd (upd H p (.lst [.ref q, .int (a + 1), .int r])) z (.lst [])) p q ns (a + 1) r :=
          (S.keep But.refl.upd upd_same (by omega) r0).same (same_new hz)
        have B2 : But p H (upd (upd H p (.lst [.ref q, .int (a + 1), .int r])) z (.lst [])) := But.refl.upd.new hz
        have hp2 := S2.pen
        have hq2 := S2.cells
        refine ⟨_, _, Dp.lst (SqL.of hq2) (dp_ints ns), Dp.lst (SqL.of upd_same) .nil, PySem.W.ke_shaped_ints ns, rfl, _, rfl, ?_⟩
        rw [eqv_nil]
        cases hn : ns.isEmpty with
        | true => exact ⟨_, rfl, B2, S2⟩
        | false =>
          have lp : 0 < ns.length := List.length_pos_iff.mpr fun z => by rw [z] at hn; cases hn
          refine iteT ?_
          obtain ⟨c, hc⟩ := atI_ints (ns := ns) (i := a % ((ns.map V.int).length : Int)) (Int.emod_nonneg _ (by rw [List.length_map]; omega)) (by rw [List.length_map]; exact Int.emod_lt_of_pos _ (by omega))
          refine ⟨_, rfl, p, _, _, _, rfl, rfl, SqL.of hp2, rfl, _, rfl, Or.inl ⟨_, rfl, ?_⟩⟩
          refine ⟨_, rfl, p, _, _, _, rfl, rfl, SqL.of hp2, rfl, q, _, rfl, Or.inl (SqL.of hq2), _, _, rfl, rfl, (by rw [List.length_map]; omega), ?_⟩
          exact ⟨q, _, _, _, rfl, rfl, SqL.of hq2, hc, c, rfl, B2, S2⟩
      · rintro σ' H' ⟨c, rfl, B, S2⟩
        have hp2 := S2.pen
        have hq2 := S2.cells
        have b31 : ∀ x k : Int, 0 < k → 0 ≤ x % k ∧ x % k < k := fun x k h => ⟨Int.emod_nonneg _ (by omega), Int.emod_lt_of_pos _ h⟩
        obtain ⟨c0, c1⟩ := b31 c 2147483549 (by decide)
        refine CutP.mk (fun σ' H' => ∃ c : Int, σ' = [some (.ref p), some (.int m), none, some (.int a), some (.int c), none, none] ∧ But p H H' ∧ PenAt H' p q ns (a + 1) r) ?_ ?_
        · walk_at "rd"
          refine iteD (fun _ => ?_) (fun _ => ?_)
          · walk_at "rd"
            refine And.intro ⟨by decide, by decide, by decide⟩ ?_
            walk_at "rd"
            refine iteD (fun _ => ?_) (fun _ => ⟨c, rfl, B, S2⟩)
            walk_at "rd"
            refine And.intro (.inl ⟨by decide, by decide⟩) ?_
            walk_at "rd"
            have g0 : ∀ v : Int, 0 ≤ v → 0 ≤ v / m := fun v h => Int.ediv_nonneg h (by omega)
            refine k _ (a + 1) _ _ (Int.emod_nonneg _ (by omega)) (Int.emod_lt_of_pos _ mp) (by omega) (by omega) B.upd (S.keep B.upd upd_same (by omega) (g0 _ ?_))
            show 0 ≤ 2 * (if c < 0 then -c else c) + (if decide (c < 0) = true then 1 else 0)
            have e1 : (0 : Int) ≤ if c < 0 then -c else c := by split <;> omega
            have e2 : (0 : Int) ≤ if decide (c < 0) = true then 1 else 0 := by split <;> omega
            omega
          · exact ⟨c, rfl, B, S2⟩
        · rintro σ' H' ⟨c, rfl, B, S2⟩
          have b31 : ∀ x k : Int, 0 < k → 0 ≤ x % k ∧ x % k < k := fun x k h => ⟨Int.emod_nonneg _ (by omega), Int.emod_lt_of_pos _ h⟩
          obtain ⟨c0, c1⟩ := b31 c 2147483549 (by decide)
          have fin0 : 0 ≤ c % 2147483549 + 6135 * a + 337 ∧ c % 2147483549 + 6135 * a + 337 < 18446744073709551616 := by omega
          walk_at "rd"
          refine And.intro (show (0 : Int) < 2147483549 by decide) ?_
          walk_at "rd"
          refine And.intro (.inl ⟨by decide, by decide⟩) ?_
          walk_at "rd"
          refine And.intro (pw5 fin0.1 fin0.2) ?_
          walk_at "rd"
          refine And.intro (show (0 : Int) < 2147483629 by decide) ?_
          have fin1 := mix_ok (b31 ((c % 2147483549 + 6135 * a + 337) ^ (5 : Int).toNat) 2147483629 (by decide)) a0 a2
          walk_at "rd"
          refine And.intro (.inl fin1.1) ?_
          walk_at "rd"
          refine And.intro (.inl ⟨by decide, by decide⟩) ?_
          walk_at "rd"
          refine And.intro (.inl ⟨by show -(2 ^ 64 : Int) < 50025 * a; omega, by show 50025 * a < 2 ^ 64; omega⟩) ?_
          walk_at "rd"
          refine And.intro (pw3 fin1.2.1 fin1.2.2) ?_
          walk_at "rd"
          refine And.intro (show (0 : Int) < 2147483587 by decide) ?_
          walk_at "rd"
          refine And.intro ⟨by decide, by decide⟩ ?_
          walk_at "rd"
          exact k _ (a + 1) r _ (Int.emod_nonneg _ (by omega)) (Int.emod_lt_of_pos _ mp) (by omega) (by omega) B S2
end
end Kx
set_option maxHeartbeats 4000000
namespace Kx
open PySem PySem.Spec PyProof.Rows L2 Xr
local macro_rules | `(tactic| walk_at "rd") => `(tactic| (repeat (first | apply Exists.intro | (refine And.intro rfl ?_) | (refine And.intro (SqL.of (by assumption)) ?_) | (refine And.intro (Or.inl (SqL.of (by assumption))) ?_) | (refine Or.inl ⟨_, rfl, ?_⟩) | (refine Or.inr ⟨_, rfl, ?_⟩) | (refine And.intro (by assumption) ?_) | (refine And.intro (Or.inl (by assumption)) ?_))))
section
variable {P : Program} {w : World} {K : PySem.W.Frag} {mg : Str → Option Value} {base : Heap}
theorem atI_at {xs : List V} {d : Int} (h0 : 0 ≤ d) (h1 : d < (xs.length : Int)) : atI xs d = some (xs[d.toNat]'(by omega)) := by
  unfold atI ixN
  rw [if_pos h0, if_pos h1]
  show xs[d.toNat]? = _
  rw [List.getElem?_eq_getElem (by omega)]
theorem sc__law_pen : FnScope ["_law_script"] ["_law_script"] (defScope (top 18)) := ⟨rfl, rfl, rfl, by decide +kernel, rfl, by decide +kernel, by decide +kernel⟩
theorem ok__law_pen (T : Txt P K mg) : OkF P w K mg base CX0 1 (He.ga K "_law_pen") ["_law_script"] (spPen K) := by
  obtain ⟨fd, F⟩ := T.F__law_pen
  refine ⟨fd, F.ok sc__law_pen (fun vs H Q E h => ?_) (fun cdv A outer s H vs Q E hr h => ?_), F.bindsN fun _ _ _ _ _ _ us hl => match us, hl with | [_], _ => rfl, F.kp⟩
  · obtain ⟨a, ns, rfl, _⟩ := h
    rfl
  · obtain ⟨a, ns, rfl, hS, hl, k⟩ := h
    refine ⟨_, PSs.nox (pss_one (ps_ret (pe_lst (pa_cons (pe_callTy call_list_of (by rfl) T.z_list (by decide +kernel) (pa_cons (pe_slice sl_list (pv 0) po_none (po_some pe_int)) pa_nil)) (pa_cons pe_int (pa_cons pe_int pa_nil)))))), ?_⟩
    walk_at "rd"
    intro p1 n1
    obtain ⟨ns', hc, hl'⟩ : ∃ ns' : List Int, cutV (ns.map V.int) none (some 63) = ns'.map V.int ∧ ns'.length ≤ 63 := cut_ints hl
    have h1 : upd H p1 (.lst (cutV (ns.map V.int) none (some 63))) p1 = some (.lst (cutV (ns.map V.int) none (some 63))) := upd_same
    walk_at "rd"
    intro p2 n2
    refine ⟨show 3 ≤ sizeLine by decide, fun p3 n3 => ?_⟩
    have n23 : p2 ≠ p3 := fun z => by rw [← z, upd_same] at n3; cases n3
    have s1 : Same H (upd H p1 (.lst (cutV (ns.map V.int) none (some 63)))) := same_new n1
    refine k p3 p2 ns' _ (s1.free (Same.free (same_new n2) n3)) (fun b o z => ?_) ⟨upd_same, ?_, hl', Int.le_refl _, Int.le_refl _⟩
    · exact same_new n3 _ _ (same_new n2 _ _ (s1 b o z))
    · rw [upd_ne n23, upd_same, hc]
theorem sc__law_pick : FnScope ["_law_pen_here", "_law_some"] ["_law_pen_here", "_law_some"] (defScope (top 20)) := ⟨rfl, rfl, rfl, by decide +kernel, rfl, by decide +kernel, by decide +kernel⟩
def spPick (K : PySem.W.Frag) : Sp := fun vs H Q _ => ∃ (p q l : Addr) (ns : List Int) (a r : Int) (xs : List V), vs = [.ref p, .ref l] ∧ PenAt H p q ns a r ∧ a ≤ 1000000 ∧ H l = some (.lst xs) ∧ l ≠ p ∧ 1 ≤ xs.length ∧ xs.length ≤ 1000 ∧
  ∀ (v : V) (a' r' : Int) (H' : Hp), v ∈ xs → a ≤ a' → a' ≤ a + 1 → But p H H' → PenAt H' p q ns a' r' → Q v H'
theorem ok__law_pick (T : Txt P K mg) : OkF P w K mg base CX0 2 (He.ga K "_law_pick") ["_law_pen_here", "_law_some"] (spPick K) := by
  have G__law_draw := ok__law_draw (P := P) (w := w) (base := base) T
  obtain ⟨fd, F⟩ := T.F__law_pick
  refine ⟨fd, F.ok sc__law_pick (fun vs H Q E h => ?_) (fun cdv A outer s H vs Q E hr h => ?_), F.bindsN fun _ _ _ _ _ _ us hl => match us, hl with | [_, _], _ => rfl, F.kp⟩
  · obtain ⟨p, q, l, ns, a, r, xs, rfl, _⟩ := h
    rfl
  · obtain ⟨p, q, l, ns, a, r, xs, rfl, S, a2, hx, np, l1, l2, k⟩ := h
    refine ⟨_, PSs.nox (pss_one (ps_ret (pe_ix (ix_listK K) (pv 1) (pe_f G__law_draw (hr.mono (by decide)) (by rfl) T.g__law_draw pass0 (pa_cons (pv 0) (pa_cons (pe_callB call_len_seq (by rfl) T.z_len (by decide +kernel) (pa_cons (pv 1) pa_nil)) pa_nil))) (fun _ _ => rfl)))), ?_⟩
    walk_at "rd"
    refine And.intro (by omega) (And.intro (by omega) (And.intro a2 ?_))
    intro d a' r' H' d0 d1 e0 e1 B S'
    have hx' : H' l = some (.lst xs) := B l _ hx np
    have hd : d.toNat < xs.length := by omega
    walk_at "rd"
    refine And.intro (atI_at d0 (by omega)) ?_
    exact k _ a' r' H' (List.getElem_mem hd) e0 e1 B S'
end
end Kx
set_option maxHeartbeats 4000000
namespace Kx
open PySem PySem.Spec PyProof.Rows L2 Xr
local macro_rules | `(tactic| walk_at "rd") => `(tactic| (repeat (first | apply Exists.intro | (refine And.intro rfl ?_) | (refine And.intro (SqL.of (by assumption)) ?_) | (refine And.intro (Or.inl (SqL.of (by assumption))) ?_) | (refine Or.inl ⟨_, rfl, ?_⟩) | (refine Or.inr ⟨_, rfl, ?_⟩) | (refine And.intro (by assumption) ?_) | (refine And.intro (Or.inl (by assumption)) ?_))))
/-- the things that are drawn, as data -/
def things : List PyData := [.none, .bool true, .bool false, .int 0, .int 1, .int (-7), .int (10 ^ 59), .str "", .str "c", .str "a b", .tuple [], .tuple [.str "c", .int 1], .list [], .list [.str "d", .list [.int 2]], .dict [], .dict [(.str "c", .int 3)], .str "0"]
section
variable {P : Program} {w : World} {K : PySem.W.Frag} {mg : Str → Option Value} {base : Heap}
theorem sc__law_thing : FnScope ["_law_pen_here", "_law_some"] ["_law_pen_here"] (defScope (top 21)) := ⟨rfl, rfl, rfl, by decide +kernel, rfl, by decide +kernel, by decide +kernel⟩
def spThing (K : PySem.W.Frag) : Sp := fun vs H Q _ => ∃ (p q : Addr) (ns : List Int) (a r : Int), vs = [.ref p] ∧ PenAt H p q ns a r ∧ a ≤ 1000000 ∧
  ∀ (v : V) (d : PyData) (a' r' : Int) (H' : Hp), d ∈ things → (∀ H'', But p H' H'' → Dq K H'' v d) → a ≤ a' → a' ≤ a + 1 → But p H H' → PenAt H' p q ns a' r' → Q v H'
theorem memT (i : Nat) {d : PyData} (h : things[i]? = some d) : d ∈ things := List.mem_of_getElem? h
theorem ok__law_thing (T : Txt P K mg) : OkF P w K mg base CX0 3 (He.ga K "_law_thing") ["_law_pen_here"] (spThing K) := by
  have G__law_pick := ok__law_pick (P := P) (w := w) (base := base) T
  obtain ⟨fd, F⟩ := T.F__law_thing
  refine ⟨fd, F.ok sc__law_thing (fun vs H Q E h => ?_) (fun cdv A outer s H vs Q E hr h => ?_), F.bindsN fun _ _ _ _ _ _ us hl => match us, hl with | [_], _ => rfl, F.kp⟩
  · obtain ⟨p, q, ns, a, r, rfl, _⟩ := h
    rfl
  · obtain ⟨p, q, ns, a, r, rfl, S, a2, k⟩ := h
    refine ⟨_, PSs.nox (pss_cons (ps_asg (pe_lst (pa_cons pe_non (pa_cons pe_bl (pa_cons pe_bl (pa_cons pe_int (pa_cons pe_int (pa_cons (pe_un un_neg pe_int) (pa_cons (pe_op op_pow pe_int pe_int) (pa_cons pe_str (pa_cons pe_str (pa_cons pe_str (pa_cons (pe_tup pa_nil) (pa_cons (pe_tup (pa_cons pe_str (pa_cons pe_int pa_nil))) (pa_cons (pe_lst pa_nil) (pa_cons (pe_lst (pa_cons pe_str (pa_cons (pe_lst (pa_cons pe_int pa_nil)) pa_nil))) (pa_cons pe_dnewK (pa_cons (pe_disp (pps_cons pe_str pe_int pps_nil) rfl rfl (by decide) (by decide)) (pa_cons pe_str pa_nil)))))))))))))))))) (pg_name (i := 1) sc__law_thing.nd rfl (.inl rfl)))
    (pss_one (ps_ret (pe_f G__law_pick (hr.mono (by decide)) (by rfl) T.g__law_pick pass0 (pa_cons (pv 0) (pa_cons (pv 1) pa_nil)))))), ?_⟩
    walk_at "rd"
    refine And.intro ⟨by decide, by decide, by decide⟩ ?_
    walk_at "rd"
    refine And.intro (by decide) ?_
    intro t1 n1
    have h1 : (upd H t1 (HO.tup [])) t1 = _ := upd_same
    have s1 : Same H (upd H t1 (HO.tup [])) := same_new n1
    generalize upd H t1 (HO.tup []) = H1 at h1 s1 ⊢
    refine ⟨by decide, fun t2 n2 => ?_⟩
    have h2 : (upd H1 t2 (HO.tup [.str "c", .int 1])) t2 = _ := upd_same
    have s2 : Same H1 (upd H1 t2 (HO.tup [.str "c", .int 1])) := same_new n2
    generalize upd H1 t2 (HO.tup [.str "c", .int 1]) = H2 at h2 s2 ⊢
    refine ⟨by decide, fun l1 m1 => ?_⟩
    have h3 : (upd H2 l1 (HO.lst [])) l1 = _ := upd_same
    have s3 : Same H2 (upd H2 l1 (HO.lst [])) := same_new m1
    generalize upd H2 l1 (HO.lst []) = H3 at h3 s3 ⊢
    refine ⟨by decide, fun l2 m2 => ?_⟩
    have h4 : (upd H3 l2 (HO.lst [.int 2])) l2 = _ := upd_same
    have s4 : Same H3 (upd H3 l2 (HO.lst [.int 2])) := same_new m2
    generalize upd H3 l2 (HO.lst [.int 2]) = H4 at h4 s4 ⊢
    refine ⟨show 2 ≤ sizeLine by decide, fun l3 m3 => ?_⟩
    have h5 : (upd H4 l3 (HO.lst [.str "d", .ref l2])) l3 = _ := upd_same
    have s5 : Same H4 (upd H4 l3 (HO.lst [.str "d", .ref l2])) := same_new m3
    generalize upd H4 l3 (HO.lst [.str "d", .ref l2]) = H5 at h5 s5 ⊢
    intro d1 e1
    have h6 : (upd H5 d1 (HO.dK [])) d1 = _ := upd_same
    have s6 : Same H5 (upd H5 d1 (HO.dK [])) := same_new e1
    generalize upd H5 d1 (HO.dK []) = H6 at h6 s6 ⊢
    intro d2 e2
    refine ⟨upd_same, [(.inr "c", .int 3)], rfl, by decide, ?_⟩
    have s7 : Same H6 (upd (upd H6 d2 (HO.dK [])) d2 (.dK (mergeK [] [(Sum.inr "c", V.int 3)]))) := by rw [upd_upd]; exact same_new e2
    have h7 : upd (upd H6 d2 (HO.dK [])) d2 (.dK (mergeK [] [(Sum.inr "c", V.int 3)])) d2 = some (.dK [(.inr "c", .int 3)]) := upd_same
    generalize upd (upd H6 d2 (HO.dK [])) d2 (.dK (mergeK [] [(Sum.inr "c", V.int 3)])) = H7 at h7 s7 ⊢
    have hp7 : H7 p = some (.lst [.ref q, .int a, .int r]) := s7 _ _ (s6 _ _ (s5 _ _ (s4 _ _ (s3 _ _ (s2 _ _ (s1 _ _ S.pen))))))
    have g1 : H7 t1 = some (.tup []) := s7 _ _ (s6 _ _ (s5 _ _ (s4 _ _ (s3 _ _ (s2 _ _ h1)))))
    have g2 : H7 t2 = some (.tup [.str "c", .int 1]) := s7 _ _ (s6 _ _ (s5 _ _ (s4 _ _ (s3 _ _ h2))))
    have g3 : H7 l1 = some (.lst []) := s7 _ _ (s6 _ _ (s5 _ _ (s4 _ _ h3)))
    have g4 : H7 l2 = some (.lst [.int 2]) := s7 _ _ (s6 _ _ (s5 _ _ h4))
    have g5 : H7 l3 = some (.lst [.str "d", .ref l2]) := s7 _ _ (s6 _ _ h5)
    have g6 : H7 d1 = some (.dK []) := s7 _ _ h6
    have sa : Same H H7 := fun b o z => s7 _ _ (s6 _ _ (s5 _ _ (s4 _ _ (s3 _ _ (s2 _ _ (s1 _ _ z))))))
    refine ⟨show 17 ≤ sizeLine by decide, fun L hL => ?_⟩
    have s8 := same_new (o := HO.lst [.non, .bl true, .bl false, .int 0, .int 1, .int (-7), .int (10 ^ (59 : Int).toNat), .str "", .str "c", .str "a b", .ref t1, .ref t2, .ref l1, .ref l3, .ref d1, .ref d2, .str "0"]) hL
    have h8 : (upd H7 L (HO.lst [.non, .bl true, .bl false, .int 0, .int 1, .int (-7), .int (10 ^ (59 : Int).toNat), .str "", .str "c", .str "a b", .ref t1, .ref t2, .ref l1, .ref l3, .ref d1, .ref d2, .str "0"])) L = _ := upd_same
    generalize upd H7 L (HO.lst [.non, .bl true, .bl false, .int 0, .int 1, .int (-7), .int (10 ^ (59 : Int).toNat), .str "", .str "c", .str "a b", .ref t1, .ref t2, .ref l1, .ref l3, .ref d1, .ref d2, .str "0"]) = H8 at h8 s8 ⊢
    have S8 : PenAt H8 p q ns a r := S.same fun b o z => s8 _ _ (sa _ _ z)
    have nl : L ≠ p := fun z => by rw [z, hp7] at hL; cases hL
    refine ⟨_, rfl, _, rfl, ?_⟩
    refine ⟨p, q, L, ns, a, r, _, rfl, S8, a2, h8, nl, show 1 ≤ 17 by decide, show 17 ≤ 1000 by decide, ?_⟩
    intro v a' r' H' hv b1 b2 B S'
    have np : ∀ {x : Addr} {o : HO}, H7 x = some o → o ≠ .lst [.ref q, .int a, .int r] → x ≠ p := fun h d z => by
      rw [z, hp7] at h
      exact d (Option.some.inj h).symm
    have st : ∀ {x : Addr} {o : HO}, H7 x = some o → o ≠ .lst [.ref q, .int a, .int r] → ∀ H'', But p H' H'' → H'' x = some o := fun h d H'' z => z _ _ (B _ _ (s8 _ _ h) (np h d)) (np h d)
    have f1 := st g1 (by intro z; cases z)
    have f2 := st g2 (by intro z; cases z)
    have f3 := st g3 (by intro z; cases z)
    have f4 := st g4 (by intro z; cases z)
    have f5 := st g5 (by intro z; cases z)
    have f6 := st g6 (by intro z; cases z)
    have f7 := st h7 (by intro z; cases z)
    have B2 : But p H H' := fun b o z n => B b o (s8 _ _ (sa _ _ z)) n
    have go : ∀ {v : V} (i : Nat) {d : PyData}, things[i]? = some d → (∀ H'', But p H' H'' → Dq K H'' v d) → Q v H' := fun i d hd hq => k _ _ a' r' H' (memT i hd) hq b1 b2 B2 S'
    simp only [List.mem_cons, List.not_mem_nil, or_false] at hv
    rcases hv with rfl | rfl | rfl | rfl | rfl | rfl | rfl | rfl | rfl | rfl | rfl | rfl | rfl | rfl | rfl | rfl | rfl
    · exact go 0 rfl fun _ _ => .non
    · exact go 1 rfl fun _ _ => .bl _
    · exact go 2 rfl fun _ _ => .bl _
    · exact go 3 rfl fun _ _ => .int _
    · exact go 4 rfl fun _ _ => .int _
    · exact go 5 rfl fun _ _ => .int _
    · exact go 6 rfl fun _ _ => .int _
    · exact go 7 rfl fun _ _ => .str _
    · exact go 8 rfl fun _ _ => .str _
    · exact go 9 rfl fun _ _ => .str _
    · exact go 10 rfl fun _ z => .tup (SqT.of (f1 _ z)) .nil
    · exact go 11 rfl fun _ z => .tup (SqT.of (f2 _ z)) (.cons (.str _) (.cons (.int _) .nil))
    · exact go 12 rfl fun _ z => .lst (SqL.of (f3 _ z)) .nil
    · exact go 13 rfl fun _ z => .lst (SqL.of (f5 _ z)) (.cons (.str _) (.cons (.lst (SqL.of (f4 _ z)) (.cons (.int _) .nil)) .nil))
    · exact go 14 rfl fun _ z => .dic (kvs := []) (f6 _ z) .nil
    · exact go 15 rfl fun _ z => .dic (kvs := [(.inr "c", .int 3)]) (f7 _ z) (.cons (.int _) .nil)
    · exact go 16 rfl fun _ _ => .str _
end
end Kx
set_option maxHeartbeats 4000000
namespace Kx
open PySem PySem.Spec PyProof.Rows L2 Xr
local macro_rules | `(tactic| walk_at "rd") => `(tactic| (repeat (first | apply Exists.intro | (refine And.intro rfl ?_) | (refine And.intro (SqL.of (by assumption)) ?_) | (refine And.intro (Or.inl (SqL.of (by assumption))) ?_) | (refine Or.inl ⟨_, rfl, ?_⟩) | (refine Or.inr ⟨_, rfl, ?_⟩) | (refine And.intro (by assumption) ?_) | (refine And.intro (Or.inl (by assumption)) ?_))))
/-- an error stands at e, of the class at C, with these fields -/
def ErrAt (H : Hp) (e C : Addr) (fs : List (Str × V)) : Prop := ∃ d, H e = some (exo e C (some d)) ∧ H d = some (exd d fs)
def PairAt (H : Hp) (t C : Addr) (fs : List (Str × V)) : Prop := ∃ e1 e2, H t = some (.tup [.ref e1, .ref e2]) ∧ ErrAt H e1 C fs ∧ ErrAt H e2 C fs
theorem ErrAt.same {H H' : Hp} {e C : Addr} {fs : List (Str × V)} (h : ErrAt H e C fs) (s : Same H H') : ErrAt H' e C fs := let ⟨d, a, b⟩ := h; ⟨d, s _ _ a, s _ _ b⟩
theorem PairAt.same {H H' : Hp} {t C : Addr} {fs : List (Str × V)} (h : PairAt H t C fs) (s : Same H H') : PairAt H' t C fs := let ⟨e1, e2, a, b, c⟩ := h; ⟨e1, e2, s _ _ a, b.same s, c.same s⟩
theorem exo_lst {e C : Addr} {d : Option Addr} {xs : List V} : exo e C d ≠ .lst xs := fun z => by
  have z' : HO.ext _ = HO.lst xs := z
  cases z'
theorem exd_lst {e : Addr} {fs : List (Str × V)} {xs : List V} : exd e fs ≠ .lst xs := fun z => by
  have z' : HO.ext _ = HO.lst xs := z
  cases z'
theorem ErrAt.upd {H : Hp} {e C l : Addr} {fs : List (Str × V)} {xs : List V} {o : HO} (h : ErrAt H e C fs) (hl : H l = some (.lst xs)) : ErrAt (L2.upd H l o) e C fs := by
  obtain ⟨d, a, b⟩ := h
  exact ⟨d, by rw [upd_ne (ne_of a hl exo_lst)]; exact a, by rw [upd_ne (ne_of b hl exd_lst)]; exact b⟩
theorem PairAt.upd {H : Hp} {t C l : Addr} {fs : List (Str × V)} {xs : List V} {o : HO} (h : PairAt H t C fs) (hl : H l = some (.lst xs)) : PairAt (L2.upd H l o) t C fs := by
  obtain ⟨e1, e2, a, b, c⟩ := h
  exact ⟨e1, e2, by rw [upd_ne (ne_of a hl (by intro z; cases z))]; exact a, b.upd hl, c.upd hl⟩
theorem putErr_same {H : Hp} {e d C : Addr} {fs : List (Str × V)} (h1 : H e = none) (h2 : H d = none) : Same H (putErr H e d C fs) := fun b o z => by
  unfold putErr
  rw [upd_ne (ne_of_none z h1), upd_ne (ne_of_none z h2)]
  exact z
theorem putErr_at {H : Hp} {e d C : Addr} {fs : List (Str × V)} (h : d ≠ e) : ErrAt (putErr H e d C fs) e C fs := ⟨d, upd_same, by unfold putErr; rw [upd_ne h, upd_same]⟩
/-- (E(a), E(f=a)) -/
theorem pair1 {C : Addr} {f : Str} {σ : L2.St} {H : Hp} {Q : VK} {v : V} (hv : σ[0]? = some (some v)) (h : ∀ t H', Same H H' → PairAt H' t C [(f, v)] → Q (.ref t) H') :
    tTup (tCons (tErr C [f] (tCons (tVar 0) tNil)) (tCons (tErrK C [f] (tCons (tVar 0) tNil)) tNil)) σ H Q := by
  refine ⟨v, hv, rfl, fun e d h1 h2 h3 => ⟨v, hv, rfl, fun e' d' g1 g2 g3 => ⟨by show 2 ≤ sizeLine; decide, fun t ht => ?_⟩⟩⟩
  have s1 := putErr_same (C := C) (fs := [(f, v)]) h1 h2
  have s2 := putErr_same (C := C) (fs := [(f, v)]) g1 g2
  have s3 := same_new (o := .tup [.ref e, .ref e']) ht
  have a1 : ErrAt _ e C [(f, v)] := putErr_at (H := H) h3
  have a2 : ErrAt _ e' C [(f, v)] := putErr_at (H := putErr H e d C [(f, v)]) g3
  exact h t _ (fun b o z => s3 _ _ (s2 _ _ (s1 _ _ z))) ⟨e, e', upd_same, (a1.same s2).same s3, a2.same s3⟩
theorem pair2 {C : Addr} {f k : Str} {σ : L2.St} {H : Hp} {Q : VK} {v u : V} (hv : σ[0]? = some (some v)) (hu : σ[1]? = some (some u)) (h : ∀ t H', Same H H' → PairAt H' t C [(f, v), (k, u)] → Q (.ref t) H') :
    tTup (tCons (tErr C [f, k] (tCons (tVar 0) (tCons (tVar 1) tNil))) (tCons (tErrK C [f, k] (tCons (tVar 1) (tCons (tVar 0) tNil))) tNil)) σ H Q := by
  refine ⟨v, hv, u, hu, rfl, fun e d h1 h2 h3 => ⟨u, hu, v, hv, rfl, fun e' d' g1 g2 g3 => ⟨by show 2 ≤ sizeLine; decide, fun t ht => ?_⟩⟩⟩
  have s1 := putErr_same (C := C) (fs := [(f, v), (k, u)]) h1 h2
  have s2 := putErr_same (C := C) (fs := [(f, v), (k, u)]) g1 g2
  have s3 := same_new (o := .tup [.ref e, .ref e']) ht
  have a1 : ErrAt _ e C [(f, v), (k, u)] := putErr_at (H := H) h3
  have a2 : ErrAt _ e' C [(f, v), (k, u)] := putErr_at (H := putErr H e d C [(f, v), (k, u)]) g3
  exact h t _ (fun b o z => s3 _ _ (s2 _ _ (s1 _ _ z))) ⟨e, e', upd_same, (a1.same s2).same s3, a2.same s3⟩
/-- pairs, one behind the other -/
abbrev Row : Type := Addr × Addr × List (Str × V)
def AllP (H : Hp) (L : List Row) : Prop := ∀ x ∈ L, PairAt H x.1 x.2.1 x.2.2
theorem AllP.add {H H' : Hp} {L : List Row} {t C : Addr} {fs : List (Str × V)} (a : AllP H L) (s : Same H H') (g : PairAt H' t C fs) : AllP H' (L ++ [(t, C, fs)]) := fun x hx => by
  rcases List.mem_append.mp hx with h | h
  · exact (a x h).same s
  · rcases List.mem_cons.mp h with rfl | h
    · exact g
    · cases h
theorem AllP.same {H H' : Hp} {L : List Row} (a : AllP H L) (s : Same H H') : AllP H' L := fun x hx => (a x hx).same s
theorem AllP.upd {H : Hp} {L : List Row} {l : Addr} {xs : List V} {o : HO} (a : AllP H L) (hl : H l = some (.lst xs)) : AllP (L2.upd H l o) L := fun x hx => (a x hx).upd hl
theorem AllP.nil {H : Hp} : AllP H [] := fun x hx => by cases hx
def refs (L : List Row) : List V := L.map fun x => .ref x.1
theorem sc__law_made : FnScope ["_law_one", "_law_two", "_law_found"] ["_law_one", "_law_two"] (defScope (top 22)) := ⟨rfl, rfl, rfl, by decide +kernel, rfl, by decide +kernel, by decide +kernel⟩
/-- the errors, in order: their class and fields -/
def madeL (v u : V) : List (Str × List (Str × V)) := [("InvalidLegs", [("reason", v)]), ("InvalidStrategy", [("reason", v)]), ("InvalidList", [("reason", v), ("name", u)]), ("InvalidOrder", [("reason", v)]), ("InvalidPrices", [("reason", v)]), ("InvalidRound", [("reason", v)]),
  ("NotWhole", [("first", v), ("second", u)]), ("InvalidText", [("line", v), ("word", u)]), ("UnknownCommand", [("line", v)]), ("UnknownName", [("name", v)]), ("UnknownOrder", [("number", v)]), ("InvalidUndo", [("count", v)]), ("Held", [("deed", v)]), ("Unstill", [("amounts", v)]), ("TooMany", [("count", v)])]
def spMade (K : PySem.W.Frag) : Sp := fun vs H Q _ => ∃ (v u : V), vs = [v, u] ∧ ∀ (l : Addr) (L : List Row) (H' : Hp), Same H H' → H' l = some (.lst (refs L)) → AllP H' L → L.map (·.2) = (madeL v u).map (fun q => (He.ga K q.1, q.2)) → Q (.ref l) H'
/-- between two statements of _law_made: n pairs are made -/
def Jm (K : PySem.W.Frag) (v u : V) (H : Hp) (n : Nat) (σ : L2.St) (H' : Hp) : Prop := ∃ (l : Addr) (L : List Row), σ = [some v, some u, some (.ref l)] ∧ H l = none ∧ Same H H' ∧ H' l = some (.lst (refs L)) ∧ AllP H' L ∧ L.map (·.2) = ((madeL v u).take n).map (fun q => (He.ga K q.1, q.2))
theorem take1 {K : PySem.W.Frag} {v u : V} {n : Nat} {L : List Row} {x : Str} {fs : List (Str × V)} {t : Addr} (h : L.map (·.2) = ((madeL v u).take n).map (fun q => (He.ga K q.1, q.2))) (hn : (madeL v u)[n]? = some (x, fs)) :
    (L ++ [(t, He.ga K x, fs)]).map (·.2) = ((madeL v u).take (n + 1)).map (fun q => (He.ga K q.1, q.2)) := by
  rw [List.take_add_one, hn, List.map_append, h, List.map_append]
  rfl
theorem len15 {K : PySem.W.Frag} {v u : V} {n : Nat} {L : List Row} (h : L.map (·.2) = ((madeL v u).take n).map (fun q => (He.ga K q.1, q.2))) : L.length ≤ 15 := by
  have z := congrArg List.length h
  rw [List.length_map, List.length_map, List.length_take] at z
  have y : (madeL v u).length = 15 := rfl
  omega
/-- the list grows by one pair -/
theorem grow1 {K : PySem.W.Frag} {v u : V} {H H1 H2 : Hp} {n : Nat} {D : Ends} {l t : Addr} {L : List Row} {x : Str} {fs : List (Str × V)} (h0 : H l = none) (s0 : Same H H1) (hl : H1 l = some (.lst (refs L))) (A : AllP H1 L)
    (h : L.map (·.2) = ((madeL v u).take n).map (fun q => (He.ga K q.1, q.2))) (hn : (madeL v u)[n]? = some (x, fs)) (s1 : Same H1 H2) (g : PairAt H2 t (He.ga K x) fs) (k : ∀ σ' H', Jm K v u H (n + 1) σ' H' → D.nx σ' H') :
    rAppend (.ref l) [.ref t] H2 fun _ H3 => D.nx [some v, some u, some (.ref l)] H3 := by
  have hl2 := s1 _ _ hl
  refine ⟨l, refs L, .ref t, rfl, rfl, hl2, ?_, k _ _ ⟨l, L ++ [(t, He.ga K x, fs)], rfl, h0, ?_, ?_, ?_, take1 h hn⟩⟩
  · have z := len15 h
    unfold refs
    rw [List.length_map, sizeLine_eq]
    omega
  · intro b o z
    rw [upd_ne (ne_of_none z h0)]
    exact s1 _ _ (s0 _ _ z)
  · rw [upd_same]
    unfold refs
    rw [List.map_append]
    rfl
  · exact (A.add s1 g).upd hl2
section
variable {K : PySem.W.Frag} {v u : V} {H H1 : Hp} {n : Nat} {D : Ends} {σ : L2.St} {x f y g : Str}
theorem stepA (hn : (madeL v u)[n]? = some (x, [(f, v)])) (j : Jm K v u H n σ H1) (k : ∀ σ' H', Jm K v u H (n + 1) σ' H' → D.nx σ' H') :
    tDrop (tBM K "list" rAppend (tVar 2) (tCons (tTup (tCons (tErr (He.ga K x) [f] (tCons (tVar 0) tNil)) (tCons (tErrK (He.ga K x) [f] (tCons (tVar 0) tNil)) tNil))) tNil)) D σ H1 := by
  obtain ⟨l, L, rfl, h0, s0, hl, A, h⟩ := j
  refine ⟨_, rfl, Or.inl ⟨rfl, _, SqL.of hl⟩, ?_⟩
  exact pair1 (v := v) rfl fun t H2 s1 g1 => grow1 h0 s0 hl A h hn s1 g1 k
theorem stepA2 {z : Str} (hn : (madeL v u)[n]? = some (x, [(f, v), (z, u)])) (j : Jm K v u H n σ H1) (k : ∀ σ' H', Jm K v u H (n + 1) σ' H' → D.nx σ' H') :
    tDrop (tBM K "list" rAppend (tVar 2) (tCons (tTup (tCons (tErr (He.ga K x) [f, z] (tCons (tVar 0) (tCons (tVar 1) tNil))) (tCons (tErrK (He.ga K x) [f, z] (tCons (tVar 1) (tCons (tVar 0) tNil))) tNil))) tNil)) D σ H1 := by
  obtain ⟨l, L, rfl, h0, s0, hl, A, h⟩ := j
  refine ⟨_, rfl, Or.inl ⟨rfl, _, SqL.of hl⟩, ?_⟩
  exact pair2 (v := v) (u := u) rfl rfl fun t H2 s1 g1 => grow1 h0 s0 hl A h hn s1 g1 k
/-- [pair, pair] behind the list -/
theorem stepC {Q : VK} (hn : (madeL v u)[n]? = some (x, [(f, v)])) (hm : (madeL v u)[n + 1]? = some (y, [(g, v)])) (j : Jm K v u H n σ H1)
    (k : ∀ (l' : Addr) (L : List Row) (H' : Hp), H l' = none → Same H H' → H' l' = some (.lst (refs L)) → AllP H' L → L.map (·.2) = ((madeL v u).take (n + 2)).map (fun q => (He.ga K q.1, q.2)) → Q (.ref l') H') :
    tOp rCat (tVar 2) (tLst (tCons (tTup (tCons (tErr (He.ga K x) [f] (tCons (tVar 0) tNil)) (tCons (tErrK (He.ga K x) [f] (tCons (tVar 0) tNil)) tNil))) (tCons (tTup (tCons (tErr (He.ga K y) [g] (tCons (tVar 0) tNil)) (tCons (tErrK (He.ga K y) [g] (tCons (tVar 0) tNil)) tNil))) tNil))) σ H1 Q := by
  obtain ⟨l, L, rfl, h0, s0, hl, A, h⟩ := j
  refine ⟨_, rfl, ?_⟩
  try dsimp only
  rw [hd_lst, hd_cons]
  refine pair1 (v := v) rfl fun t H2 s1 g1 => ?_
  try dsimp only
  rw [hd_cons]
  refine pair1 (v := v) rfl fun t' H3 s2 g2 => ?_
  have z := len15 h
  have s3 : Same H1 H3 := s1.trans s2
  have A3 := (A.add s1 g1).add s2 g2
  refine ⟨by show 2 ≤ sizeLine; decide, fun q hq => ?_⟩
  have s4 := same_new (o := .lst [.ref t, .ref t']) hq
  refine ⟨l, q, refs L, [.ref t, .ref t'], rfl, rfl, s4 _ _ (s3 _ _ hl), upd_same, ?_, fun l' hl' => ?_⟩
  · unfold refs
    rw [List.length_map, sizeLine_eq]
    show L.length + 2 ≤ 16777216
    omega
  · have s5 := same_new (o := .lst (refs L ++ [.ref t, .ref t'])) hl'
    refine k l' (L ++ [(t, He.ga K x, [(f, v)])] ++ [(t', He.ga K y, [(g, v)])]) _ ?_ (fun b o z => s5 _ _ (s4 _ _ (s3 _ _ (s0 _ _ z)))) ?_ ((A3.same s4).same s5) (take1 (take1 h hn) hm)
    · exact s0.free (s3.free (s4.free hl'))
    · rw [upd_same]
      unfold refs
      rw [List.append_assoc, List.map_append]
      rfl
end
section
variable {P : Program} {w : World} {K : PySem.W.Frag} {mg : Str → Option Value} {base : Heap}
theorem ok__law_made (T : Txt P K mg) : OkF P w K mg base CX0 2 (He.ga K "_law_made") ["_law_one", "_law_two"] (spMade K) := by
  obtain ⟨fd, F⟩ := T.F__law_made
  refine ⟨fd, F.ok sc__law_made (fun vs H Q E h => ?_) (fun cdv A outer s H vs Q E hr h => ?_), F.bindsN fun _ _ _ _ _ _ us hl => match us, hl with | [_, _], _ => rfl, F.kp⟩
  · obtain ⟨v, u, rfl, _⟩ := h
    rfl
  · obtain ⟨v, u, rfl, k⟩ := h
    have hrE : Room 1 _ := hr
    refine ⟨_, PSs.nox (pss_cut (ps_asg (pe_lst (pa_cons (pe_tup (pa_cons (pe_errP T.e_InvalidLegs (by decide) hrE (by rfl) T.g_InvalidLegs (pa_cons (pv 0) pa_nil)) (pa_cons (pe_errE T.e_InvalidLegs hrE (by rfl) T.g_InvalidLegs (pk_cons (pv 0) pk_nil)) pa_nil))) (pa_cons (pe_tup (pa_cons (pe_errP T.e_InvalidStrategy (by decide) hrE (by rfl) T.g_InvalidStrategy (pa_cons (pv 0) pa_nil)) (pa_cons (pe_errE T.e_InvalidStrategy hrE (by rfl) T.g_InvalidStrategy (pk_cons (pv 0) pk_nil)) pa_nil))) pa_nil))) (pg_name (i := 2) sc__law_made.nd rfl (.inl rfl)))
    (pss_cut (ps_expr (pe_bm PySem.F.plainAttrs_list PySem.F.slot_list_append PySem.F.type_list_append mt_append (pv 2) (pa_cons (pe_tup (pa_cons (pe_errP T.e_InvalidList (by decide) hrE (by rfl) T.g_InvalidList (pa_cons (pv 0) (pa_cons (pv 1) pa_nil))) (pa_cons (pe_errE T.e_InvalidList hrE (by rfl) T.g_InvalidList (pk_cons (pv 1) (pk_cons (pv 0) pk_nil))) pa_nil))) pa_nil)))
    (pss_cut (ps_asg (pe_op op_cat (pv 2) (pe_lst (pa_cons (pe_tup (pa_cons (pe_errP T.e_InvalidOrder (by decide) hrE (by rfl) T.g_InvalidOrder (pa_cons (pv 0) pa_nil)) (pa_cons (pe_errE T.e_InvalidOrder hrE (by rfl) T.g_InvalidOrder (pk_cons (pv 0) pk_nil)) pa_nil))) (pa_cons (pe_tup (pa_cons (pe_errP T.e_InvalidPrices (by decide) hrE (by rfl) T.g_InvalidPrices (pa_cons (pv 0) pa_nil)) (pa_cons (pe_errE T.e_InvalidPrices hrE (by rfl) T.g_InvalidPrices (pk_cons (pv 0) pk_nil)) pa_nil))) pa_nil)))) (pg_name (i := 2) sc__law_made.nd rfl (.inl rfl)))
    (pss_cut (ps_expr (pe_bm PySem.F.plainAttrs_list PySem.F.slot_list_append PySem.F.type_list_append mt_append (pv 2) (pa_cons (pe_tup (pa_cons (pe_errP T.e_InvalidRound (by decide) hrE (by rfl) T.g_InvalidRound (pa_cons (pv 0) pa_nil)) (pa_cons (pe_errE T.e_InvalidRound hrE (by rfl) T.g_InvalidRound (pk_cons (pv 0) pk_nil)) pa_nil))) pa_nil)))
    (pss_cut (ps_expr (pe_bm PySem.F.plainAttrs_list PySem.F.slot_list_append PySem.F.type_list_append mt_append (pv 2) (pa_cons (pe_tup (pa_cons (pe_errP T.e_NotWhole (by decide) hrE (by rfl) T.g_NotWhole (pa_cons (pv 0) (pa_cons (pv 1) pa_nil))) (pa_cons (pe_errE T.e_NotWhole hrE (by rfl) T.g_NotWhole (pk_cons (pv 1) (pk_cons (pv 0) pk_nil))) pa_nil))) pa_nil)))
    (pss_cut (ps_expr (pe_bm PySem.F.plainAttrs_list PySem.F.slot_list_append PySem.F.type_list_append mt_append (pv 2) (pa_cons (pe_tup (pa_cons (pe_errP T.e_InvalidText (by decide) hrE (by rfl) T.g_InvalidText (pa_cons (pv 0) (pa_cons (pv 1) pa_nil))) (pa_cons (pe_errE T.e_InvalidText hrE (by rfl) T.g_InvalidText (pk_cons (pv 1) (pk_cons (pv 0) pk_nil))) pa_nil))) pa_nil)))
    (pss_cut (ps_expr (pe_bm PySem.F.plainAttrs_list PySem.F.slot_list_append PySem.F.type_list_append mt_append (pv 2) (pa_cons (pe_tup (pa_cons (pe_errP T.e_UnknownCommand (by decide) hrE (by rfl) T.g_UnknownCommand (pa_cons (pv 0) pa_nil)) (pa_cons (pe_errE T.e_UnknownCommand hrE (by rfl) T.g_UnknownCommand (pk_cons (pv 0) pk_nil)) pa_nil))) pa_nil)))
    (pss_cut (ps_asg (pe_op op_cat (pv 2) (pe_lst (pa_cons (pe_tup (pa_cons (pe_errP T.e_UnknownName (by decide) hrE (by rfl) T.g_UnknownName (pa_cons (pv 0) pa_nil)) (pa_cons (pe_errE T.e_UnknownName hrE (by rfl) T.g_UnknownName (pk_cons (pv 0) pk_nil)) pa_nil))) (pa_cons (pe_tup (pa_cons (pe_errP T.e_UnknownOrder (by decide) hrE (by rfl) T.g_UnknownOrder (pa_cons (pv 0) pa_nil)) (pa_cons (pe_errE T.e_UnknownOrder hrE (by rfl) T.g_UnknownOrder (pk_cons (pv 0) pk_nil)) pa_nil))) pa_nil)))) (pg_name (i := 2) sc__law_made.nd rfl (.inl rfl)))
    (pss_cut (ps_asg (pe_op op_cat (pv 2) (pe_lst (pa_cons (pe_tup (pa_cons (pe_errP T.e_InvalidUndo (by decide) hrE (by rfl) T.g_InvalidUndo (pa_cons (pv 0) pa_nil)) (pa_cons (pe_errE T.e_InvalidUndo hrE (by rfl) T.g_InvalidUndo (pk_cons (pv 0) pk_nil)) pa_nil))) (pa_cons (pe_tup (pa_cons (pe_errP T.e_Held (by decide) hrE (by rfl) T.g_Held (pa_cons (pv 0) pa_nil)) (pa_cons (pe_errE T.e_Held hrE (by rfl) T.g_Held (pk_cons (pv 0) pk_nil)) pa_nil))) pa_nil)))) (pg_name (i := 2) sc__law_made.nd rfl (.inl rfl)))
    (pss_one (ps_ret (pe_op op_cat (pv 2) (pe_lst (pa_cons (pe_tup (pa_cons (pe_errP T.e_Unstill (by decide) hrE (by rfl) T.g_Unstill (pa_cons (pv 0) pa_nil)) (pa_cons (pe_errE T.e_Unstill hrE (by rfl) T.g_Unstill (pk_cons (pv 0) pk_nil)) pa_nil))) (pa_cons (pe_tup (pa_cons (pe_errP T.e_TooMany (by decide) hrE (by rfl) T.g_TooMany (pa_cons (pv 0) pa_nil)) (pa_cons (pe_errE T.e_TooMany hrE (by rfl) T.g_TooMany (pk_cons (pv 0) pk_nil)) pa_nil))) pa_nil))))))))))))))), ?_⟩
    refine CutP.mk (Jm K v u H 2) ?_ fun σ1 H1 j1 => ?_
    · rw [hd_asg, hd_lst, hd_cons]
      refine pair1 (v := v) rfl fun t1 H1 s1 g1 => ?_
      try dsimp only
      rw [hd_cons]
      refine pair1 (v := v) rfl fun t2 H2 s2 g2 => ?_
      have A2 := (AllP.nil.add (Same.refl H1) g1).add s2 g2
      refine ⟨by show 2 ≤ sizeLine; decide, fun l n => ?_⟩
      have s3 := same_new (o := .lst [.ref t1, .ref t2]) n
      exact ⟨l, _, rfl, s1.free (s2.free n), fun b o z => s3 _ _ (s2 _ _ (s1 _ _ z)), upd_same, A2.same s3, rfl⟩
    refine CutP.mk (Jm K v u H 3) (stepA2 (n := 2) rfl j1 fun _ _ z => z) fun σ2 H2 j2 => ?_
    refine CutP.mk (Jm K v u H 5) (stepC (n := 3) rfl rfl j2 fun l L H' a b c d e => ⟨l, L, ?_, a, b, c, d, e⟩) fun σ3 H3 j3 => ?_
    · obtain ⟨_, _, rfl, _⟩ := j2
      rfl
    refine CutP.mk (Jm K v u H 6) (stepA (n := 5) rfl j3 fun _ _ z => z) fun σ4 H4 j4 => ?_
    refine CutP.mk (Jm K v u H 7) (stepA2 (n := 6) rfl j4 fun _ _ z => z) fun σ5 H5 j5 => ?_
    refine CutP.mk (Jm K v u H 8) (stepA2 (n := 7) rfl j5 fun _ _ z => z) fun σ6 H6 j6 => ?_
    refine CutP.mk (Jm K v u H 9) (stepA (n := 8) rfl j6 fun _ _ z => z) fun σ7 H7 j7 => ?_
    refine CutP.mk (Jm K v u H 11) (stepC (n := 9) rfl rfl j7 fun l L H' a b c d e => ⟨l, L, ?_, a, b, c, d, e⟩) fun σ8 H8 j8 => ?_
    · obtain ⟨_, _, rfl, _⟩ := j7
      rfl
    refine CutP.mk (Jm K v u H 13) (stepC (n := 11) rfl rfl j8 fun l L H' a b c d e => ⟨l, L, ?_, a, b, c, d, e⟩) fun σ9 H9 j9 => ?_
    · obtain ⟨_, _, rfl, _⟩ := j8
      rfl
    exact stepC (n := 13) rfl rfl j9 fun l L H' a b c d e => k l L H' b c d e
end
end Kx
set_option maxHeartbeats 4000000
namespace Kx
open PySem PySem.Spec PyProof.Rows L2 Xr
local macro_rules | `(tactic| walk_at "rd") => `(tactic| (repeat (first | apply Exists.intro | (refine And.intro rfl ?_) | (refine And.intro (SqL.of (by assumption)) ?_) | (refine And.intro (Or.inl (SqL.of (by assumption))) ?_) | (refine Or.inl ⟨_, rfl, ?_⟩) | (refine Or.inr ⟨_, rfl, ?_⟩) | (refine And.intro (by assumption) ?_) | (refine And.intro (Or.inl (by assumption)) ?_))))
theorem lk1 {f : Str} {v : V} {r : List (Str × V)} : List.lookup f ((f, v) :: r) = some v := by simp [List.lookup]
theorem lk2 {f k : Str} {v u : V} {r : List (Str × V)} (h : (k == f) = false) : List.lookup k ((f, v) :: (k, u) :: r) = some u := by simp [List.lookup, h]
section
variable {P : Program} {w : World} {K : PySem.W.Frag} {mg : Str → Option Value} {base : Heap}
theorem sc__law_fields : FnScope ["_law_k", "_law_caught"] ["_law_k", "_law_caught"] (defScope (top 23)) := ⟨rfl, rfl, rfl, by decide +kernel, rfl, by decide +kernel, by decide +kernel⟩
def spFields (K : PySem.W.Frag) : Sp := fun vs H Q _ => ∃ (i : Nat) (e : Addr) (x : Str) (v u : V) (fs : List (Str × V)), vs = [.int (i : Int), .ref e] ∧ (madeL v u)[i]? = some (x, fs) ∧ ErrAt H e (He.ga K x) fs ∧
  ∀ (p : Addr) (H' : Hp), Same H H' → H' p = some (.lst (fs.map (·.2))) → Q (.ref p) H'
theorem ok__law_fields (T : Txt P K mg) : OkF P w K mg base CX0 1 (He.ga K "_law_fields") ["_law_k", "_law_caught"] (spFields K) := by
  obtain ⟨fd, F⟩ := T.F__law_fields
  refine ⟨fd, F.ok sc__law_fields (fun vs H Q E h => ?_) (fun cdv A outer s H vs Q E hr h => ?_), F.bindsN fun _ _ _ _ _ _ us hl => match us, hl with | [_, _], _ => rfl, F.kp⟩
  · obtain ⟨i, e, x, v, u, fs, rfl, _⟩ := h
    rfl
  · obtain ⟨i, e, x, v, u, fs, rfl, hi, E1, k⟩ := h
    refine ⟨_, PSs.nox (pss_cons (ps_if (pt_cmpR op_in_seq (pv 0) (pe_tup (pa_cons pe_int (pa_cons pe_int (pa_cons pe_int (pa_cons pe_int (pa_cons pe_int pa_nil)))))) (by rfl))
      (pss_one (ps_ret (pe_lst (pa_cons (pe_xv (pv 1)) pa_nil))))
      pss_nil)
    (pss_cons (ps_if (pt_cmpR op_eq (pv 0) pe_int (nomark _))
      (pss_one (ps_ret (pe_lst (pa_cons (pe_xv (pv 1)) (pa_cons (pe_xv (pv 1)) pa_nil)))))
      pss_nil)
    (pss_cons (ps_if (pt_cmpR op_eq (pv 0) pe_int (nomark _))
      (pss_one (ps_ret (pe_lst (pa_cons (pe_xv (pv 1)) (pa_cons (pe_xv (pv 1)) pa_nil)))))
      pss_nil)
    (pss_cons (ps_if (pt_cmpR op_eq (pv 0) pe_int (nomark _))
      (pss_one (ps_ret (pe_lst (pa_cons (pe_xv (pv 1)) (pa_cons (pe_xv (pv 1)) pa_nil)))))
      pss_nil)
    (pss_cons (ps_if (pt_cmpR op_eq (pv 0) pe_int (nomark _))
      (pss_one (ps_ret (pe_lst (pa_cons (pe_xv (pv 1)) pa_nil))))
      pss_nil)
    (pss_cons (ps_if (pt_cmpR op_eq (pv 0) pe_int (nomark _))
      (pss_one (ps_ret (pe_lst (pa_cons (pe_xv (pv 1)) pa_nil))))
      pss_nil)
    (pss_cons (ps_if (pt_cmpR op_eq (pv 0) pe_int (nomark _))
      (pss_one (ps_ret (pe_lst (pa_cons (pe_xv (pv 1)) pa_nil))))
      pss_nil)
    (pss_cons (ps_if (pt_cmpR op_eq (pv 0) pe_int (nomark _))
      (pss_one (ps_ret (pe_lst (pa_cons (pe_xv (pv 1)) pa_nil))))
      pss_nil)
    (pss_one (ps_ret (pe_ifExp (pt_cmpR op_eq (pv 0) pe_int (nomark _)) (pe_lst (pa_cons (pe_xv (pv 1)) pa_nil)) (pe_lst (pa_cons (pe_xv (pv 1)) pa_nil))))))))))))), ?_⟩
    have hlt : i < 15 := by
      have z := (List.getElem?_eq_some_iff.mp hi).1
      exact z
    rcases (show i = 0 ∨ i = 1 ∨ i = 2 ∨ i = 3 ∨ i = 4 ∨ i = 5 ∨ i = 6 ∨ i = 7 ∨ i = 8 ∨ i = 9 ∨ i = 10 ∨ i = 11 ∨ i = 12 ∨ i = 13 ∨ i = 14 by omega) with rfl | rfl | rfl | rfl | rfl | rfl | rfl | rfl | rfl | rfl | rfl | rfl | rfl | rfl | rfl <;> cases hi
    · have T1 := T.e_InvalidLegs
      refine ⟨_, rfl, by show 5 ≤ sizeLine; decide, fun p0 hp0 => ⟨p0, _, rfl, .inr (SqT.of upd_same), rfl, rfl, _, rfl, ?_⟩⟩
      have s0 := same_new (o := .tup [.int 0, .int 1, .int 3, .int 4, .int 5]) hp0
      obtain ⟨d, h1, h2⟩ := E1.same s0
      refine iteT ?_
      refine ⟨_, rfl, e, _, d, _, _, rfl, h1, h2, T1.xf, T1.no _ (List.mem_cons_self ..), lk1, by show 1 ≤ sizeLine; decide, fun p hp => ?_⟩
      exact k p _ (s0.trans (same_new hp)) upd_same
    · have T1 := T.e_InvalidStrategy
      refine ⟨_, rfl, by show 5 ≤ sizeLine; decide, fun p0 hp0 => ⟨p0, _, rfl, .inr (SqT.of upd_same), rfl, rfl, _, rfl, ?_⟩⟩
      have s0 := same_new (o := .tup [.int 0, .int 1, .int 3, .int 4, .int 5]) hp0
      obtain ⟨d, h1, h2⟩ := E1.same s0
      refine iteT ?_
      refine ⟨_, rfl, e, _, d, _, _, rfl, h1, h2, T1.xf, T1.no _ (List.mem_cons_self ..), lk1, by show 1 ≤ sizeLine; decide, fun p hp => ?_⟩
      exact k p _ (s0.trans (same_new hp)) upd_same
    · have T1 := T.e_InvalidList
      refine ⟨_, rfl, by show 5 ≤ sizeLine; decide, fun p0 hp0 => ⟨p0, _, rfl, .inr (SqT.of upd_same), rfl, rfl, _, rfl, ?_⟩⟩
      have s0 := same_new (o := .tup [.int 0, .int 1, .int 3, .int 4, .int 5]) hp0
      obtain ⟨d, h1, h2⟩ := E1.same s0
      refine iteF ?_
      refine ⟨_, rfl, rfl, _, rfl, ?_⟩
      refine iteT ?_
      refine ⟨_, rfl, e, _, d, _, _, rfl, h1, h2, T1.xf, T1.no _ (List.mem_cons_self ..), lk1, _, rfl, e, _, d, _, _, rfl, h1, h2, T1.xf, T1.no _ (List.mem_cons_of_mem _ (List.mem_cons_self ..)), lk2 (by decide +kernel), by show 2 ≤ sizeLine; decide, fun p hp => ?_⟩
      exact k p _ (s0.trans (same_new hp)) upd_same
    · have T1 := T.e_InvalidOrder
      refine ⟨_, rfl, by show 5 ≤ sizeLine; decide, fun p0 hp0 => ⟨p0, _, rfl, .inr (SqT.of upd_same), rfl, rfl, _, rfl, ?_⟩⟩
      have s0 := same_new (o := .tup [.int 0, .int 1, .int 3, .int 4, .int 5]) hp0
      obtain ⟨d, h1, h2⟩ := E1.same s0
      refine iteT ?_
      refine ⟨_, rfl, e, _, d, _, _, rfl, h1, h2, T1.xf, T1.no _ (List.mem_cons_self ..), lk1, by show 1 ≤ sizeLine; decide, fun p hp => ?_⟩
      exact k p _ (s0.trans (same_new hp)) upd_same
    · have T1 := T.e_InvalidPrices
      refine ⟨_, rfl, by show 5 ≤ sizeLine; decide, fun p0 hp0 => ⟨p0, _, rfl, .inr (SqT.of upd_same), rfl, rfl, _, rfl, ?_⟩⟩
      have s0 := same_new (o := .tup [.int 0, .int 1, .int 3, .int 4, .int 5]) hp0
      obtain ⟨d, h1, h2⟩ := E1.same s0
      refine iteT ?_
      refine ⟨_, rfl, e, _, d, _, _, rfl, h1, h2, T1.xf, T1.no _ (List.mem_cons_self ..), lk1, by show 1 ≤ sizeLine; decide, fun p hp => ?_⟩
      exact k p _ (s0.trans (same_new hp)) upd_same
    · have T1 := T.e_InvalidRound
      refine ⟨_, rfl, by show 5 ≤ sizeLine; decide, fun p0 hp0 => ⟨p0, _, rfl, .inr (SqT.of upd_same), rfl, rfl, _, rfl, ?_⟩⟩
      have s0 := same_new (o := .tup [.int 0, .int 1, .int 3, .int 4, .int 5]) hp0
      obtain ⟨d, h1, h2⟩ := E1.same s0
      refine iteT ?_
      refine ⟨_, rfl, e, _, d, _, _, rfl, h1, h2, T1.xf, T1.no _ (List.mem_cons_self ..), lk1, by show 1 ≤ sizeLine; decide, fun p hp => ?_⟩
      exact k p _ (s0.trans (same_new hp)) upd_same
    · have T1 := T.e_NotWhole
      refine ⟨_, rfl, by show 5 ≤ sizeLine; decide, fun p0 hp0 => ⟨p0, _, rfl, .inr (SqT.of upd_same), rfl, rfl, _, rfl, ?_⟩⟩
      have s0 := same_new (o := .tup [.int 0, .int 1, .int 3, .int 4, .int 5]) hp0
      obtain ⟨d, h1, h2⟩ := E1.same s0
      refine iteF ?_
      refine ⟨_, rfl, rfl, _, rfl, ?_⟩
      refine iteF ?_
      refine ⟨_, rfl, rfl, _, rfl, ?_⟩
      refine iteT ?_
      refine ⟨_, rfl, e, _, d, _, _, rfl, h1, h2, T1.xf, T1.no _ (List.mem_cons_self ..), lk1, _, rfl, e, _, d, _, _, rfl, h1, h2, T1.xf, T1.no _ (List.mem_cons_of_mem _ (List.mem_cons_self ..)), lk2 (by decide +kernel), by show 2 ≤ sizeLine; decide, fun p hp => ?_⟩
      exact k p _ (s0.trans (same_new hp)) upd_same
    · have T1 := T.e_InvalidText
      refine ⟨_, rfl, by show 5 ≤ sizeLine; decide, fun p0 hp0 => ⟨p0, _, rfl, .inr (SqT.of upd_same), rfl, rfl, _, rfl, ?_⟩⟩
      have s0 := same_new (o := .tup [.int 0, .int 1, .int 3, .int 4, .int 5]) hp0
      obtain ⟨d, h1, h2⟩ := E1.same s0
      refine iteF ?_
      refine ⟨_, rfl, rfl, _, rfl, ?_⟩
      refine iteF ?_
      refine ⟨_, rfl, rfl, _, rfl, ?_⟩
      refine iteF ?_
      refine ⟨_, rfl, rfl, _, rfl, ?_⟩
      refine iteT ?_
      refine ⟨_, rfl, e, _, d, _, _, rfl, h1, h2, T1.xf, T1.no _ (List.mem_cons_self ..), lk1, _, rfl, e, _, d, _, _, rfl, h1, h2, T1.xf, T1.no _ (List.mem_cons_of_mem _ (List.mem_cons_self ..)), lk2 (by decide +kernel), by show 2 ≤ sizeLine; decide, fun p hp => ?_⟩
      exact k p _ (s0.trans (same_new hp)) upd_same
    · have T1 := T.e_UnknownCommand
      refine ⟨_, rfl, by show 5 ≤ sizeLine; decide, fun p0 hp0 => ⟨p0, _, rfl, .inr (SqT.of upd_same), rfl, rfl, _, rfl, ?_⟩⟩
      have s0 := same_new (o := .tup [.int 0, .int 1, .int 3, .int 4, .int 5]) hp0
      obtain ⟨d, h1, h2⟩ := E1.same s0
      refine iteF ?_
      refine ⟨_, rfl, rfl, _, rfl, ?_⟩
      refine iteF ?_
      refine ⟨_, rfl, rfl, _, rfl, ?_⟩
      refine iteF ?_
      refine ⟨_, rfl, rfl, _, rfl, ?_⟩
      refine iteF ?_
      refine ⟨_, rfl, rfl, _, rfl, ?_⟩
      refine iteT ?_
      refine ⟨_, rfl, e, _, d, _, _, rfl, h1, h2, T1.xf, T1.no _ (List.mem_cons_self ..), lk1, by show 1 ≤ sizeLine; decide, fun p hp => ?_⟩
      exact k p _ (s0.trans (same_new hp)) upd_same
    · have T1 := T.e_UnknownName
      refine ⟨_, rfl, by show 5 ≤ sizeLine; decide, fun p0 hp0 => ⟨p0, _, rfl, .inr (SqT.of upd_same), rfl, rfl, _, rfl, ?_⟩⟩
      have s0 := same_new (o := .tup [.int 0, .int 1, .int 3, .int 4, .int 5]) hp0
      obtain ⟨d, h1, h2⟩ := E1.same s0
      refine iteF ?_
      refine ⟨_, rfl, rfl, _, rfl, ?_⟩
      refine iteF ?_
      refine ⟨_, rfl, rfl, _, rfl, ?_⟩
      refine iteF ?_
      refine ⟨_, rfl, rfl, _, rfl, ?_⟩
      refine iteF ?_
      refine ⟨_, rfl, rfl, _, rfl, ?_⟩
      refine iteF ?_
      refine ⟨_, rfl, rfl, _, rfl, ?_⟩
      refine iteT ?_
      refine ⟨_, rfl, e, _, d, _, _, rfl, h1, h2, T1.xf, T1.no _ (List.mem_cons_self ..), lk1, by show 1 ≤ sizeLine; decide, fun p hp => ?_⟩
      exact k p _ (s0.trans (same_new hp)) upd_same
    · have T1 := T.e_UnknownOrder
      refine ⟨_, rfl, by show 5 ≤ sizeLine; decide, fun p0 hp0 => ⟨p0, _, rfl, .inr (SqT.of upd_same), rfl, rfl, _, rfl, ?_⟩⟩
      have s0 := same_new (o := .tup [.int 0, .int 1, .int 3, .int 4, .int 5]) hp0
      obtain ⟨d, h1, h2⟩ := E1.same s0
      refine iteF ?_
      refine ⟨_, rfl, rfl, _, rfl, ?_⟩
      refine iteF ?_
      refine ⟨_, rfl, rfl, _, rfl, ?_⟩
      refine iteF ?_
      refine ⟨_, rfl, rfl, _, rfl, ?_⟩
      refine iteF ?_
      refine ⟨_, rfl, rfl, _, rfl, ?_⟩
      refine iteF ?_
      refine ⟨_, rfl, rfl, _, rfl, ?_⟩
      refine iteF ?_
      refine ⟨_, rfl, rfl, _, rfl, ?_⟩
      refine iteT ?_
      refine ⟨_, rfl, e, _, d, _, _, rfl, h1, h2, T1.xf, T1.no _ (List.mem_cons_self ..), lk1, by show 1 ≤ sizeLine; decide, fun p hp => ?_⟩
      exact k p _ (s0.trans (same_new hp)) upd_same
    · have T1 := T.e_InvalidUndo
      refine ⟨_, rfl, by show 5 ≤ sizeLine; decide, fun p0 hp0 => ⟨p0, _, rfl, .inr (SqT.of upd_same), rfl, rfl, _, rfl, ?_⟩⟩
      have s0 := same_new (o := .tup [.int 0, .int 1, .int 3, .int 4, .int 5]) hp0
      obtain ⟨d, h1, h2⟩ := E1.same s0
      refine iteF ?_
      refine ⟨_, rfl, rfl, _, rfl, ?_⟩
      refine iteF ?_
      refine ⟨_, rfl, rfl, _, rfl, ?_⟩
      refine iteF ?_
      refine ⟨_, rfl, rfl, _, rfl, ?_⟩
      refine iteF ?_
      refine ⟨_, rfl, rfl, _, rfl, ?_⟩
      refine iteF ?_
      refine ⟨_, rfl, rfl, _, rfl, ?_⟩
      refine iteF ?_
      refine ⟨_, rfl, rfl, _, rfl, ?_⟩
      refine iteF ?_
      refine ⟨_, rfl, rfl, _, rfl, ?_⟩
      refine iteF ?_
      refine ⟨_, rfl, rfl, _, rfl, ?_⟩
      refine iteF ?_
      refine ⟨_, rfl, e, _, d, _, _, rfl, h1, h2, T1.xf, T1.no _ (List.mem_cons_self ..), lk1, by show 1 ≤ sizeLine; decide, fun p hp => ?_⟩
      exact k p _ (s0.trans (same_new hp)) upd_same
    · have T1 := T.e_Held
      refine ⟨_, rfl, by show 5 ≤ sizeLine; decide, fun p0 hp0 => ⟨p0, _, rfl, .inr (SqT.of upd_same), rfl, rfl, _, rfl, ?_⟩⟩
      have s0 := same_new (o := .tup [.int 0, .int 1, .int 3, .int 4, .int 5]) hp0
      obtain ⟨d, h1, h2⟩ := E1.same s0
      refine iteF ?_
      refine ⟨_, rfl, rfl, _, rfl, ?_⟩
      refine iteF ?_
      refine ⟨_, rfl, rfl, _, rfl, ?_⟩
      refine iteF ?_
      refine ⟨_, rfl, rfl, _, rfl, ?_⟩
      refine iteF ?_
      refine ⟨_, rfl, rfl, _, rfl, ?_⟩
      refine iteF ?_
      refine ⟨_, rfl, rfl, _, rfl, ?_⟩
      refine iteF ?_
      refine ⟨_, rfl, rfl, _, rfl, ?_⟩
      refine iteF ?_
      refine ⟨_, rfl, rfl, _, rfl, ?_⟩
      refine iteT ?_
      refine ⟨_, rfl, e, _, d, _, _, rfl, h1, h2, T1.xf, T1.no _ (List.mem_cons_self ..), lk1, by show 1 ≤ sizeLine; decide, fun p hp => ?_⟩
      exact k p _ (s0.trans (same_new hp)) upd_same
    · have T1 := T.e_Unstill
      refine ⟨_, rfl, by show 5 ≤ sizeLine; decide, fun p0 hp0 => ⟨p0, _, rfl, .inr (SqT.of upd_same), rfl, rfl, _, rfl, ?_⟩⟩
      have s0 := same_new (o := .tup [.int 0, .int 1, .int 3, .int 4, .int 5]) hp0
      obtain ⟨d, h1, h2⟩ := E1.same s0
      refine iteF ?_
      refine ⟨_, rfl, rfl, _, rfl, ?_⟩
      refine iteF ?_
      refine ⟨_, rfl, rfl, _, rfl, ?_⟩
      refine iteF ?_
      refine ⟨_, rfl, rfl, _, rfl, ?_⟩
      refine iteF ?_
      refine ⟨_, rfl, rfl, _, rfl, ?_⟩
      refine iteF ?_
      refine ⟨_, rfl, rfl, _, rfl, ?_⟩
      refine iteF ?_
      refine ⟨_, rfl, rfl, _, rfl, ?_⟩
      refine iteF ?_
      refine ⟨_, rfl, rfl, _, rfl, ?_⟩
      refine iteF ?_
      refine ⟨_, rfl, rfl, _, rfl, ?_⟩
      refine iteT ?_
      refine ⟨_, rfl, e, _, d, _, _, rfl, h1, h2, T1.xf, T1.no _ (List.mem_cons_self ..), lk1, by show 1 ≤ sizeLine; decide, fun p hp => ?_⟩
      exact k p _ (s0.trans (same_new hp)) upd_same
    · have T1 := T.e_TooMany
      refine ⟨_, rfl, by show 5 ≤ sizeLine; decide, fun p0 hp0 => ⟨p0, _, rfl, .inr (SqT.of upd_same), rfl, rfl, _, rfl, ?_⟩⟩
      have s0 := same_new (o := .tup [.int 0, .int 1, .int 3, .int 4, .int 5]) hp0
      obtain ⟨d, h1, h2⟩ := E1.same s0
      refine iteF ?_
      refine ⟨_, rfl, rfl, _, rfl, ?_⟩
      refine iteF ?_
      refine ⟨_, rfl, rfl, _, rfl, ?_⟩
      refine iteF ?_
      refine ⟨_, rfl, rfl, _, rfl, ?_⟩
      refine iteF ?_
      refine ⟨_, rfl, rfl, _, rfl, ?_⟩
      refine iteF ?_
      refine ⟨_, rfl, rfl, _, rfl, ?_⟩
      refine iteF ?_
      refine ⟨_, rfl, rfl, _, rfl, ?_⟩
      refine iteF ?_
      refine ⟨_, rfl, rfl, _, rfl, ?_⟩
      refine iteF ?_
      refine ⟨_, rfl, rfl, _, rfl, ?_⟩
      refine iteF ?_
      refine ⟨_, rfl, e, _, d, _, _, rfl, h1, h2, T1.xf, T1.no _ (List.mem_cons_self ..), lk1, by show 1 ≤ sizeLine; decide, fun p hp => ?_⟩
      exact k p _ (s0.trans (same_new hp)) upd_same
end
end Kx
set_option maxHeartbeats 4000000
namespace Kx
open PySem PySem.Spec PyProof.Rows L2 Xr
local macro_rules | `(tactic| walk_at "rd") => `(tactic| (repeat (first | apply Exists.intro | (refine And.intro rfl ?_) | (refine And.intro (SqL.of (by assumption)) ?_) | (refine And.intro (Or.inl (SqL.of (by assumption))) ?_) | (refine Or.inl ⟨_, rfl, ?_⟩) | (refine Or.inr ⟨_, rfl, ?_⟩) | (refine And.intro (by assumption) ?_) | (refine And.intro (Or.inl (by assumption)) ?_))))
section
variable {P : Program} {w : World} {K : PySem.W.Frag} {mg : Str → Option Value} {base : Heap}
theorem is_own (T : Txt P K mg) {x y : Str} (hx : x ∈ names) (hy : y ∈ names) : PySem.W.kitOne K (.ref (He.ga K x)) (.ref (He.ga K y)) = some (decide (x = y)) :=
  of_decide_eq_true (List.all_eq_true.mp (List.all_eq_true.mp T.own x hx) y hy)
theorem xi_of (T : Txt P K mg) {v u : V} {i : Nat} {x : Str} {fs : List (Str × V)} (h : (madeL v u)[i]? = some (x, fs)) : x ∈ names ∧ names[i]? = some x ∧ XiC K (He.ga K x) := by
  have hlt : i < 15 := (List.getElem?_eq_some_iff.mp h).1
  rcases (show i = 0 ∨ i = 1 ∨ i = 2 ∨ i = 3 ∨ i = 4 ∨ i = 5 ∨ i = 6 ∨ i = 7 ∨ i = 8 ∨ i = 9 ∨ i = 10 ∨ i = 11 ∨ i = 12 ∨ i = 13 ∨ i = 14 by omega) with rfl | rfl | rfl | rfl | rfl | rfl | rfl | rfl | rfl | rfl | rfl | rfl | rfl | rfl | rfl <;> cases h
  · exact ⟨List.mem_of_getElem? (i := 0) rfl, rfl, T.e_InvalidLegs.xi⟩
  · exact ⟨List.mem_of_getElem? (i := 1) rfl, rfl, T.e_InvalidStrategy.xi⟩
  · exact ⟨List.mem_of_getElem? (i := 2) rfl, rfl, T.e_InvalidList.xi⟩
  · exact ⟨List.mem_of_getElem? (i := 3) rfl, rfl, T.e_InvalidOrder.xi⟩
  · exact ⟨List.mem_of_getElem? (i := 4) rfl, rfl, T.e_InvalidPrices.xi⟩
  · exact ⟨List.mem_of_getElem? (i := 5) rfl, rfl, T.e_InvalidRound.xi⟩
  · exact ⟨List.mem_of_getElem? (i := 6) rfl, rfl, T.e_NotWhole.xi⟩
  · exact ⟨List.mem_of_getElem? (i := 7) rfl, rfl, T.e_InvalidText.xi⟩
  · exact ⟨List.mem_of_getElem? (i := 8) rfl, rfl, T.e_UnknownCommand.xi⟩
  · exact ⟨List.mem_of_getElem? (i := 9) rfl, rfl, T.e_UnknownName.xi⟩
  · exact ⟨List.mem_of_getElem? (i := 10) rfl, rfl, T.e_UnknownOrder.xi⟩
  · exact ⟨List.mem_of_getElem? (i := 11) rfl, rfl, T.e_InvalidUndo.xi⟩
  · exact ⟨List.mem_of_getElem? (i := 12) rfl, rfl, T.e_Held.xi⟩
  · exact ⟨List.mem_of_getElem? (i := 13) rfl, rfl, T.e_Unstill.xi⟩
  · exact ⟨List.mem_of_getElem? (i := 14) rfl, rfl, T.e_TooMany.xi⟩
local macro_rules | `(tactic| walk_at "rdo") => `(tactic| (repeat (first | apply Exists.intro | (refine And.intro rfl ?_) | (refine And.intro (by assumption) ?_) | (refine And.intro (ClsV.own _) ?_) | (refine And.intro (is_own ‹Txt _ _ _› ‹_ ∈ names› (by decide +kernel)) ?_))))
theorem own_filter {i : Nat} {x : Str} (h : names[i]? = some x) : ((List.range 15).filter fun j => decide (x = names.getD j "")).map (fun j : Nat => V.int (0 + (j : Int))) = [.int (i : Int)] := by
  have hlt : i < 15 := (List.getElem?_eq_some_iff.mp h).1
  rcases (show i = 0 ∨ i = 1 ∨ i = 2 ∨ i = 3 ∨ i = 4 ∨ i = 5 ∨ i = 6 ∨ i = 7 ∨ i = 8 ∨ i = 9 ∨ i = 10 ∨ i = 11 ∨ i = 12 ∨ i = 13 ∨ i = 14 by omega) with rfl | rfl | rfl | rfl | rfl | rfl | rfl | rfl | rfl | rfl | rfl | rfl | rfl | rfl | rfl <;> cases h <;> decide +kernel
theorem own_at {x : Str} (j : Nat) (hj : j < 15) : atI [.bl (decide (x = "InvalidLegs")), .bl (decide (x = "InvalidStrategy")), .bl (decide (x = "InvalidList")), .bl (decide (x = "InvalidOrder")), .bl (decide (x = "InvalidPrices")), .bl (decide (x = "InvalidRound")), .bl (decide (x = "NotWhole")), .bl (decide (x = "InvalidText")), .bl (decide (x = "UnknownCommand")), .bl (decide (x = "UnknownName")), .bl (decide (x = "UnknownOrder")), .bl (decide (x = "InvalidUndo")), .bl (decide (x = "Held")), .bl (decide (x = "Unstill")), .bl (decide (x = "TooMany"))] (0 + (j : Int)) = some (V.bl (decide (x = names.getD j ""))) := by
  rcases (show j = 0 ∨ j = 1 ∨ j = 2 ∨ j = 3 ∨ j = 4 ∨ j = 5 ∨ j = 6 ∨ j = 7 ∨ j = 8 ∨ j = 9 ∨ j = 10 ∨ j = 11 ∨ j = 12 ∨ j = 13 ∨ j = 14 by omega) with rfl | rfl | rfl | rfl | rfl | rfl | rfl | rfl | rfl | rfl | rfl | rfl | rfl | rfl | rfl <;> rfl
theorem sc__law_own : FnScope ["_law_caught", "_law_flags", "_law_k"] ["_law_caught"] (defScope (top 24)) := ⟨rfl, rfl, rfl, by decide +kernel, rfl, by decide +kernel, by decide +kernel⟩
def spOwn (K : PySem.W.Frag) : Sp := fun vs H Q _ => ∃ (i : Nat) (e : Addr) (x : Str) (v u : V) (fs : List (Str × V)), vs = [.ref e] ∧ (madeL v u)[i]? = some (x, fs) ∧ ErrAt H e (He.ga K x) fs ∧
  ∀ (p : Addr) (H' : Hp), Same H H' → H' p = some (.lst [.int (i : Int)]) → Q (.ref p) H'
theorem ok__law_own (T : Txt P K mg) : OkF P w K mg base CX0 1 (He.ga K "_law_own") ["_law_caught"] (spOwn K) := by
  obtain ⟨fd, F⟩ := T.F__law_own
  refine ⟨fd, F.ok sc__law_own (fun vs H Q E h => ?_) (fun cdv A outer s H vs Q E hr h => ?_), F.bindsN fun _ _ _ _ _ _ us hl => match us, hl with | [_], _ => rfl, F.kp⟩
  · obtain ⟨i, e, x, v, u, fs, rfl, _⟩ := h
    rfl
  · obtain ⟨i, e, x, v, u, fs, rfl, hi, E1, k⟩ := h
    refine ⟨_, PSs.nox (pss_cons (ps_asg (pe_lst (pa_cons (pe_callB call_isX (by rfl) T.z_isinstance (by decide +kernel) (pa_cons (pv 0) (pa_cons (pe_glob (v := .ref (He.ga K "InvalidLegs")) (by rfl) T.g_InvalidLegs rfl) pa_nil))) (pa_cons (pe_callB call_isX (by rfl) T.z_isinstance (by decide +kernel) (pa_cons (pv 0) (pa_cons (pe_glob (v := .ref (He.ga K "InvalidStrategy")) (by rfl) T.g_InvalidStrategy rfl) pa_nil))) (pa_cons (pe_callB call_isX (by rfl) T.z_isinstance (by decide +kernel) (pa_cons (pv 0) (pa_cons (pe_glob (v := .ref (He.ga K "InvalidList")) (by rfl) T.g_InvalidList rfl) pa_nil))) pa_nil)))) (pg_name (i := 1) sc__law_own.nd rfl (.inr rfl)))
    (pss_cons (ps_asg (pe_op op_cat (pv 1) (pe_lst (pa_cons (pe_callB call_isX (by rfl) T.z_isinstance (by decide +kernel) (pa_cons (pv 0) (pa_cons (pe_glob (v := .ref (He.ga K "InvalidOrder")) (by rfl) T.g_InvalidOrder rfl) pa_nil))) (pa_cons (pe_callB call_isX (by rfl) T.z_isinstance (by decide +kernel) (pa_cons (pv 0) (pa_cons (pe_glob (v := .ref (He.ga K "InvalidPrices")) (by rfl) T.g_InvalidPrices rfl) pa_nil))) pa_nil)))) (pg_name (i := 1) sc__law_own.nd rfl (.inr rfl)))
    (pss_cons (ps_asg (pe_op op_cat (pv 1) (pe_lst (pa_cons (pe_callB call_isX (by rfl) T.z_isinstance (by decide +kernel) (pa_cons (pv 0) (pa_cons (pe_glob (v := .ref (He.ga K "InvalidRound")) (by rfl) T.g_InvalidRound rfl) pa_nil))) (pa_cons (pe_callB call_isX (by rfl) T.z_isinstance (by decide +kernel) (pa_cons (pv 0) (pa_cons (pe_glob (v := .ref (He.ga K "NotWhole")) (by rfl) T.g_NotWhole rfl) pa_nil))) (pa_cons (pe_callB call_isX (by rfl) T.z_isinstance (by decide +kernel) (pa_cons (pv 0) (pa_cons (pe_glob (v := .ref (He.ga K "InvalidText")) (by rfl) T.g_InvalidText rfl) pa_nil))) pa_nil))))) (pg_name (i := 1) sc__law_own.nd rfl (.inr rfl)))
    (pss_cons (ps_asg (pe_op op_cat (pv 1) (pe_lst (pa_cons (pe_callB call_isX (by rfl) T.z_isinstance (by decide +kernel) (pa_cons (pv 0) (pa_cons (pe_glob (v := .ref (He.ga K "UnknownCommand")) (by rfl) T.g_UnknownCommand rfl) pa_nil))) (pa_cons (pe_callB call_isX (by rfl) T.z_isinstance (by decide +kernel) (pa_cons (pv 0) (pa_cons (pe_glob (v := .ref (He.ga K "UnknownName")) (by rfl) T.g_UnknownName rfl) pa_nil))) pa_nil)))) (pg_name (i := 1) sc__law_own.nd rfl (.inr rfl)))
    (pss_cons (ps_asg (pe_op op_cat (pv 1) (pe_lst (pa_cons (pe_callB call_isX (by rfl) T.z_isinstance (by decide +kernel) (pa_cons (pv 0) (pa_cons (pe_glob (v := .ref (He.ga K "UnknownOrder")) (by rfl) T.g_UnknownOrder rfl) pa_nil))) (pa_cons (pe_callB call_isX (by rfl) T.z_isinstance (by decide +kernel) (pa_cons (pv 0) (pa_cons (pe_glob (v := .ref (He.ga K "InvalidUndo")) (by rfl) T.g_InvalidUndo rfl) pa_nil))) (pa_cons (pe_callB call_isX (by rfl) T.z_isinstance (by decide +kernel) (pa_cons (pv 0) (pa_cons (pe_glob (v := .ref (He.ga K "Held")) (by rfl) T.g_Held rfl) pa_nil))) pa_nil))))) (pg_name (i := 1) sc__law_own.nd rfl (.inr rfl)))
    (pss_cons (ps_asg (pe_op op_cat (pv 1) (pe_lst (pa_cons (pe_callB call_isX (by rfl) T.z_isinstance (by decide +kernel) (pa_cons (pv 0) (pa_cons (pe_glob (v := .ref (He.ga K "Unstill")) (by rfl) T.g_Unstill rfl) pa_nil))) (pa_cons (pe_callB call_isX (by rfl) T.z_isinstance (by decide +kernel) (pa_cons (pv 0) (pa_cons (pe_glob (v := .ref (He.ga K "TooMany")) (by rfl) T.g_TooMany rfl) pa_nil))) pa_nil)))) (pg_name (i := 1) sc__law_own.nd rfl (.inr rfl)))
    (pss_one (ps_ret (pe_lc (own := [("_law_k", 2)]) (g := gName 2) rfl sc__law_own.nd (pi_range1 (by rfl) T.z_range (pa_cons pe_int pa_nil)) (blkOk_by (N := ["_law_caught", "_law_flags", "_law_k"]) (sc := defScope (top 24)) (by decide +kernel)) (fun _ _ _ _ _ => pg_name (i := 2) sc__law_own.nd rfl (Or.inl rfl)) (fun _ _ _ _ _ => (pts_one (pt_val (pe_ix (ix_listK K) (pv 1) (pv 2) (fun _ _ => rfl))))) (fun _ _ _ _ _ => (pv 2))))))))))), ?_⟩
    obtain ⟨hx, hxi, xi⟩ := xi_of T hi
    obtain ⟨d, h1, h2⟩ := E1
    walk_at "rdo"
    refine ⟨by show 3 ≤ sizeLine; decide, fun p1 n1 => ?_⟩
    have s1 := same_new (o := .lst [.bl (decide (x = "InvalidLegs")), .bl (decide (x = "InvalidStrategy")), .bl (decide (x = "InvalidList"))]) n1
    have f1 : upd H p1 (.lst [.bl (decide (x = "InvalidLegs")), .bl (decide (x = "InvalidStrategy")), .bl (decide (x = "InvalidList"))]) p1 = some (.lst [.bl (decide (x = "InvalidLegs")), .bl (decide (x = "InvalidStrategy")), .bl (decide (x = "InvalidList"))]) := upd_same
    generalize upd H p1 (.lst [.bl (decide (x = "InvalidLegs")), .bl (decide (x = "InvalidStrategy")), .bl (decide (x = "InvalidList"))]) = H1 at s1 f1 ⊢
    replace h1 := s1 _ _ h1
    replace h2 := s1 _ _ h2
    walk_at "rdo"
    refine ⟨by show 2 ≤ sizeLine; decide, fun q2 m2 => ?_⟩
    have u2 := same_new (o := .lst [.bl (decide (x = "InvalidOrder")), .bl (decide (x = "InvalidPrices"))]) m2
    refine ⟨p1, q2, _, _, rfl, rfl, u2 _ _ f1, upd_same, by show 5 ≤ sizeLine; decide, fun p2 n2 => ?_⟩
    have v2 := u2.trans (same_new (o := .lst ([.bl (decide (x = "InvalidLegs")), .bl (decide (x = "InvalidStrategy")), .bl (decide (x = "InvalidList"))] ++ [.bl (decide (x = "InvalidOrder")), .bl (decide (x = "InvalidPrices"))])) n2)
    have f2 : upd (upd H1 q2 (.lst [.bl (decide (x = "InvalidOrder")), .bl (decide (x = "InvalidPrices"))])) p2 (.lst ([.bl (decide (x = "InvalidLegs")), .bl (decide (x = "InvalidStrategy")), .bl (decide (x = "InvalidList"))] ++ [.bl (decide (x = "InvalidOrder")), .bl (decide (x = "InvalidPrices"))])) p2 = some (.lst ([.bl (decide (x = "InvalidLegs")), .bl (decide (x = "InvalidStrategy")), .bl (decide (x = "InvalidList"))] ++ [.bl (decide (x = "InvalidOrder")), .bl (decide (x = "InvalidPrices"))])) := upd_same
    have s2 := s1.trans v2
    replace h1 := v2 _ _ h1
    replace h2 := v2 _ _ h2
    generalize upd (upd H1 q2 (.lst [.bl (decide (x = "InvalidOrder")), .bl (decide (x = "InvalidPrices"))])) p2 (.lst ([.bl (decide (x = "InvalidLegs")), .bl (decide (x = "InvalidStrategy")), .bl (decide (x = "InvalidList"))] ++ [.bl (decide (x = "InvalidOrder")), .bl (decide (x = "InvalidPrices"))])) = H2 at f2 s2 h1 h2 ⊢
    replace f2 : H2 p2 = some (.lst [.bl (decide (x = "InvalidLegs")), .bl (decide (x = "InvalidStrategy")), .bl (decide (x = "InvalidList")), .bl (decide (x = "InvalidOrder")), .bl (decide (x = "InvalidPrices"))]) := f2
    walk_at "rdo"
    refine ⟨by show 3 ≤ sizeLine; decide, fun q3 m3 => ?_⟩
    have u3 := same_new (o := .lst [.bl (decide (x = "InvalidRound")), .bl (decide (x = "NotWhole")), .bl (decide (x = "InvalidText"))]) m3
    refine ⟨p2, q3, _, _, rfl, rfl, u3 _ _ f2, upd_same, by show 8 ≤ sizeLine; decide, fun p3 n3 => ?_⟩
    have v3 := u3.trans (same_new (o := .lst ([.bl (decide (x = "InvalidLegs")), .bl (decide (x = "InvalidStrategy")), .bl (decide (x = "InvalidList")), .bl (decide (x = "InvalidOrder")), .bl (decide (x = "InvalidPrices"))] ++ [.bl (decide (x = "InvalidRound")), .bl (decide (x = "NotWhole")), .bl (decide (x = "InvalidText"))])) n3)
    have f3 : upd (upd H2 q3 (.lst [.bl (decide (x = "InvalidRound")), .bl (decide (x = "NotWhole")), .bl (decide (x = "InvalidText"))])) p3 (.lst ([.bl (decide (x = "InvalidLegs")), .bl (decide (x = "InvalidStrategy")), .bl (decide (x = "InvalidList")), .bl (decide (x = "InvalidOrder")), .bl (decide (x = "InvalidPrices"))] ++ [.bl (decide (x = "InvalidRound")), .bl (decide (x = "NotWhole")), .bl (decide (x = "InvalidText"))])) p3 = some (.lst ([.bl (decide (x = "InvalidLegs")), .bl (decide (x = "InvalidStrategy")), .bl (decide (x = "InvalidList")), .bl (decide (x = "InvalidOrder")), .bl (decide (x = "InvalidPrices"))] ++ [.bl (decide (x = "InvalidRound")), .bl (decide (x = "NotWhole")), .bl (decide (x = "InvalidText"))])) := upd_same
    have s3 := s2.trans v3
    replace h1 := v3 _ _ h1
    replace h2 := v3 _ _ h2
    generalize upd (upd H2 q3 (.lst [.bl (decide (x = "InvalidRound")), .bl (decide (x = "NotWhole")), .bl (decide (x = "InvalidText"))])) p3 (.lst ([.bl (decide (x = "InvalidLegs")), .bl (decide (x = "InvalidStrategy")), .bl (decide (x = "InvalidList")), .bl (decide (x = "InvalidOrder")), .bl (decide (x = "InvalidPrices"))] ++ [.bl (decide (x = "InvalidRound")), .bl (decide (x = "NotWhole")), .bl (decide (x = "InvalidText"))])) = H3 at f3 s3 h1 h2 ⊢
    replace f3 : H3 p3 = some (.lst [.bl (decide (x = "InvalidLegs")), .bl (decide (x = "InvalidStrategy")), .bl (decide (x = "InvalidList")), .bl (decide (x = "InvalidOrder")), .bl (decide (x = "InvalidPrices")), .bl (decide (x = "InvalidRound")), .bl (decide (x = "NotWhole")), .bl (decide (x = "InvalidText"))]) := f3
    walk_at "rdo"
    refine ⟨by show 2 ≤ sizeLine; decide, fun q4 m4 => ?_⟩
    have u4 := same_new (o := .lst [.bl (decide (x = "UnknownCommand")), .bl (decide (x = "UnknownName"))]) m4
    refine ⟨p3, q4, _, _, rfl, rfl, u4 _ _ f3, upd_same, by show 10 ≤ sizeLine; decide, fun p4 n4 => ?_⟩
    have v4 := u4.trans (same_new (o := .lst ([.bl (decide (x = "InvalidLegs")), .bl (decide (x = "InvalidStrategy")), .bl (decide (x = "InvalidList")), .bl (decide (x = "InvalidOrder")), .bl (decide (x = "InvalidPrices")), .bl (decide (x = "InvalidRound")), .bl (decide (x = "NotWhole")), .bl (decide (x = "InvalidText"))] ++ [.bl (decide (x = "UnknownCommand")), .bl (decide (x = "UnknownName"))])) n4)
    have f4 : upd (upd H3 q4 (.lst [.bl (decide (x = "UnknownCommand")), .bl (decide (x = "UnknownName"))])) p4 (.lst ([.bl (decide (x = "InvalidLegs")), .bl (decide (x = "InvalidStrategy")), .bl (decide (x = "InvalidList")), .bl (decide (x = "InvalidOrder")), .bl (decide (x = "InvalidPrices")), .bl (decide (x = "InvalidRound")), .bl (decide (x = "NotWhole")), .bl (decide (x = "InvalidText"))] ++ [.bl (decide (x = "UnknownCommand")), .bl (decide (x = "UnknownName"))])) p4 = some (.lst ([.bl (decide (x = "InvalidLegs")), .bl (decide (x = "InvalidStrategy")), .bl (decide (x = "InvalidList")), .bl (decide (x = "InvalidOrder")), .bl (decide (x = "InvalidPrices")), .bl (decide (x = "InvalidRound")), .bl (decide (x = "NotWhole")), .bl (decide (x = "InvalidText"))] ++ [.bl (decide (x = "UnknownCommand")), .bl (decide (x = "UnknownName"))])) := upd_same
    have s4 := s3.trans v4
    replace h1 := v4 _ _ h1
    replace h2 := v4 _ _ h2
    generalize upd (upd H3 q4 (.lst [.bl (decide (x = "UnknownCommand")), .bl (decide (x = "UnknownName"))])) p4 (.lst ([.bl (decide (x = "InvalidLegs")), .bl (decide (x = "InvalidStrategy")), .bl (decide (x = "InvalidList")), .bl (decide (x = "InvalidOrder")), .bl (decide (x = "InvalidPrices")), .bl (decide (x = "InvalidRound")), .bl (decide (x = "NotWhole")), .bl (decide (x = "InvalidText"))] ++ [.bl (decide (x = "UnknownCommand")), .bl (decide (x = "UnknownName"))])) = H4 at f4 s4 h1 h2 ⊢
    replace f4 : H4 p4 = some (.lst [.bl (decide (x = "InvalidLegs")), .bl (decide (x = "InvalidStrategy")), .bl (decide (x = "InvalidList")), .bl (decide (x = "InvalidOrder")), .bl (decide (x = "InvalidPrices")), .bl (decide (x = "InvalidRound")), .bl (decide (x = "NotWhole")), .bl (decide (x = "InvalidText")), .bl (decide (x = "UnknownCommand")), .bl (decide (x = "UnknownName"))]) := f4
    walk_at "rdo"
    refine ⟨by show 3 ≤ sizeLine; decide, fun q5 m5 => ?_⟩
    have u5 := same_new (o := .lst [.bl (decide (x = "UnknownOrder")), .bl (decide (x = "InvalidUndo")), .bl (decide (x = "Held"))]) m5
    refine ⟨p4, q5, _, _, rfl, rfl, u5 _ _ f4, upd_same, by show 13 ≤ sizeLine; decide, fun p5 n5 => ?_⟩
    have v5 := u5.trans (same_new (o := .lst ([.bl (decide (x = "InvalidLegs")), .bl (decide (x = "InvalidStrategy")), .bl (decide (x = "InvalidList")), .bl (decide (x = "InvalidOrder")), .bl (decide (x = "InvalidPrices")), .bl (decide (x = "InvalidRound")), .bl (decide (x = "NotWhole")), .bl (decide (x = "InvalidText")), .bl (decide (x = "UnknownCommand")), .bl (decide (x = "UnknownName"))] ++ [.bl (decide (x = "UnknownOrder")), .bl (decide (x = "InvalidUndo")), .bl (decide (x = "Held"))])) n5)
    have f5 : upd (upd H4 q5 (.lst [.bl (decide (x = "UnknownOrder")), .bl (decide (x = "InvalidUndo")), .bl (decide (x = "Held"))])) p5 (.lst ([.bl (decide (x = "InvalidLegs")), .bl (decide (x = "InvalidStrategy")), .bl (decide (x = "InvalidList")), .bl (decide (x = "InvalidOrder")), .bl (decide (x = "InvalidPrices")), .bl (decide (x = "InvalidRound")), .bl (decide (x = "NotWhole")), .bl (decide (x = "InvalidText")), .bl (decide (x = "UnknownCommand")), .bl (decide (x = "UnknownName"))] ++ [.bl (decide (x = "UnknownOrder")), .bl (decide (x = "InvalidUndo")), .bl (decide (x = "Held"))])) p5 = some (.lst ([.bl (decide (x = "InvalidLegs")), .bl (decide (x = "InvalidStrategy")), .bl (decide (x = "InvalidList")), .bl (decide (x = "InvalidOrder")), .bl (decide (x = "InvalidPrices")), .bl (decide (x = "InvalidRound")), .bl (decide (x = "NotWhole")), .bl (decide (x = "InvalidText")), .bl (decide (x = "UnknownCommand")), .bl (decide (x = "UnknownName"))] ++ [.bl (decide (x = "UnknownOrder")), .bl (decide (x = "InvalidUndo")), .bl (decide (x = "Held"))])) := upd_same
    have s5 := s4.trans v5
    replace h1 := v5 _ _ h1
    replace h2 := v5 _ _ h2
    generalize upd (upd H4 q5 (.lst [.bl (decide (x = "UnknownOrder")), .bl (decide (x = "InvalidUndo")), .bl (decide (x = "Held"))])) p5 (.lst ([.bl (decide (x = "InvalidLegs")), .bl (decide (x = "InvalidStrategy")), .bl (decide (x = "InvalidList")), .bl (decide (x = "InvalidOrder")), .bl (decide (x = "InvalidPrices")), .bl (decide (x = "InvalidRound")), .bl (decide (x = "NotWhole")), .bl (decide (x = "InvalidText")), .bl (decide (x = "UnknownCommand")), .bl (decide (x = "UnknownName"))] ++ [.bl (decide (x = "UnknownOrder")), .bl (decide (x = "InvalidUndo")), .bl (decide (x = "Held"))])) = H5 at f5 s5 h1 h2 ⊢
    replace f5 : H5 p5 = some (.lst [.bl (decide (x = "InvalidLegs")), .bl (decide (x = "InvalidStrategy")), .bl (decide (x = "InvalidList")), .bl (decide (x = "InvalidOrder")), .bl (decide (x = "InvalidPrices")), .bl (decide (x = "InvalidRound")), .bl (decide (x = "NotWhole")), .bl (decide (x = "InvalidText")), .bl (decide (x = "UnknownCommand")), .bl (decide (x = "UnknownName")), .bl (decide (x = "UnknownOrder")), .bl (decide (x = "InvalidUndo")), .bl (decide (x = "Held"))]) := f5
    walk_at "rdo"
    refine ⟨by show 2 ≤ sizeLine; decide, fun q6 m6 => ?_⟩
    have u6 := same_new (o := .lst [.bl (decide (x = "Unstill")), .bl (decide (x = "TooMany"))]) m6
    refine ⟨p5, q6, _, _, rfl, rfl, u6 _ _ f5, upd_same, by show 15 ≤ sizeLine; decide, fun p6 n6 => ?_⟩
    have v6 := u6.trans (same_new (o := .lst ([.bl (decide (x = "InvalidLegs")), .bl (decide (x = "InvalidStrategy")), .bl (decide (x = "InvalidList")), .bl (decide (x = "InvalidOrder")), .bl (decide (x = "InvalidPrices")), .bl (decide (x = "InvalidRound")), .bl (decide (x = "NotWhole")), .bl (decide (x = "InvalidText")), .bl (decide (x = "UnknownCommand")), .bl (decide (x = "UnknownName")), .bl (decide (x = "UnknownOrder")), .bl (decide (x = "InvalidUndo")), .bl (decide (x = "Held"))] ++ [.bl (decide (x = "Unstill")), .bl (decide (x = "TooMany"))])) n6)
    have f6 : upd (upd H5 q6 (.lst [.bl (decide (x = "Unstill")), .bl (decide (x = "TooMany"))])) p6 (.lst ([.bl (decide (x = "InvalidLegs")), .bl (decide (x = "InvalidStrategy")), .bl (decide (x = "InvalidList")), .bl (decide (x = "InvalidOrder")), .bl (decide (x = "InvalidPrices")), .bl (decide (x = "InvalidRound")), .bl (decide (x = "NotWhole")), .bl (decide (x = "InvalidText")), .bl (decide (x = "UnknownCommand")), .bl (decide (x = "UnknownName")), .bl (decide (x = "UnknownOrder")), .bl (decide (x = "InvalidUndo")), .bl (decide (x = "Held"))] ++ [.bl (decide (x = "Unstill")), .bl (decide (x = "TooMany"))])) p6 = some (.lst ([.bl (decide (x = "InvalidLegs")), .bl (decide (x = "InvalidStrategy")), .bl (decide (x = "InvalidList")), .bl (decide (x = "InvalidOrder")), .bl (decide (x = "InvalidPrices")), .bl (decide (x = "InvalidRound")), .bl (decide (x = "NotWhole")), .bl (decide (x = "InvalidText")), .bl (decide (x = "UnknownCommand")), .bl (decide (x = "UnknownName")), .bl (decide (x = "UnknownOrder")), .bl (decide (x = "InvalidUndo")), .bl (decide (x = "Held"))] ++ [.bl (decide (x = "Unstill")), .bl (decide (x = "TooMany"))])) := upd_same
    have s6 := s5.trans v6
    replace h1 := v6 _ _ h1
    replace h2 := v6 _ _ h2
    generalize upd (upd H5 q6 (.lst [.bl (decide (x = "Unstill")), .bl (decide (x = "TooMany"))])) p6 (.lst ([.bl (decide (x = "InvalidLegs")), .bl (decide (x = "InvalidStrategy")), .bl (decide (x = "InvalidList")), .bl (decide (x = "InvalidOrder")), .bl (decide (x = "InvalidPrices")), .bl (decide (x = "InvalidRound")), .bl (decide (x = "NotWhole")), .bl (decide (x = "InvalidText")), .bl (decide (x = "UnknownCommand")), .bl (decide (x = "UnknownName")), .bl (decide (x = "UnknownOrder")), .bl (decide (x = "InvalidUndo")), .bl (decide (x = "Held"))] ++ [.bl (decide (x = "Unstill")), .bl (decide (x = "TooMany"))])) = H6 at f6 s6 h1 h2 ⊢
    replace f6 : H6 p6 = some (.lst [.bl (decide (x = "InvalidLegs")), .bl (decide (x = "InvalidStrategy")), .bl (decide (x = "InvalidList")), .bl (decide (x = "InvalidOrder")), .bl (decide (x = "InvalidPrices")), .bl (decide (x = "InvalidRound")), .bl (decide (x = "NotWhole")), .bl (decide (x = "InvalidText")), .bl (decide (x = "UnknownCommand")), .bl (decide (x = "UnknownName")), .bl (decide (x = "UnknownOrder")), .bl (decide (x = "InvalidUndo")), .bl (decide (x = "Held")), .bl (decide (x = "Unstill")), .bl (decide (x = "TooMany"))]) := f6
    refine ⟨15, rfl, by decide, by decide, fun D hD => ?_⟩
    refine lcR (fun j => decide (x = names.getD j "")) (fun j : Nat => .int (0 + (j : Int))) hD (by decide) (fun j => rfl) (fun j H' hj sj Qb q => ?_) (fun j H' hj _ sj Q' q => ?_) fun H' sj hl => ?_
    · exact ⟨_, rfl, _, rfl, p6, _, _, _, rfl, rfl, SqL.of (sj _ _ f6), own_at j hj, _, rfl, q H' (Same.refl _)⟩
    · exact ⟨_, rfl, q H' (Same.refl _)⟩
    · exact k D H' (s6.trans sj) (hl.trans (congrArg (fun l => some (HO.lst l)) (own_filter hxi)))
end
end Kx
set_option maxHeartbeats 4000000
namespace Kx
open PySem PySem.Spec PyProof.Rows L2 Xr
local macro_rules | `(tactic| walk_at "rd") => `(tactic| (repeat (first | apply Exists.intro | (refine And.intro rfl ?_) | (refine And.intro (SqL.of (by assumption)) ?_) | (refine And.intro (Or.inl (SqL.of (by assumption))) ?_) | (refine Or.inl ⟨_, rfl, ?_⟩) | (refine Or.inr ⟨_, rfl, ?_⟩) | (refine And.intro (by assumption) ?_) | (refine And.intro (Or.inl (by assumption)) ?_))))
local macro_rules | `(tactic| walk_at "rdb") => `(tactic| (repeat (first | apply Exists.intro | (refine And.intro rfl ?_) | (refine And.intro (by assumption) ?_) | (refine And.intro (ClsV.own _) ?_) | (refine And.intro (ClsV.ty _) ?_))))
section
variable {P : Program} {w : World} {K : PySem.W.Frag} {mg : Str → Option Value} {base : Heap}
theorem bas_of (T : Txt P K mg) {q : Str × Bool × List String} (h : q ∈ bases) : PySem.W.kitOne K (.ref (He.ga K q.1)) (.ref (He.ga K "LotError")) = some q.2.1 ∧ ∀ t ∈ tys, PySem.W.kitOne K (.ref (He.ga K q.1)) (.type t) = some (q.2.2.contains t) := by
  obtain ⟨h1, h2⟩ := He.ba (List.all_eq_true.mp T.bas q h)
  exact ⟨of_decide_eq_true h1, fun t ht => of_decide_eq_true (List.all_eq_true.mp h2 t ht)⟩
/-- the words of the bases of the i-th error -/
def dueW (i : Nat) : List Str := if i < 9 then ["lot", "value"] else ([["key", "lookup"], ["lookup"], ["index", "lookup"], ["runtime"], ["runtime"], ["overflow"]] : List (List Str)).getD (i - 9) []
def wordS : List Str := ["lot", "value", "key", "index", "lookup", "runtime", "overflow"]
def flagB (q : Str × Bool × List String) : List Bool := [q.2.1, q.2.2.contains "ValueError", q.2.2.contains "KeyError", q.2.2.contains "IndexError", q.2.2.contains "LookupError", q.2.2.contains "RuntimeError", q.2.2.contains "OverflowError"]
theorem fl_at (q : Str × Bool × List String) (j : Nat) (hj : j < 7) : atI [.bl q.2.1, .bl (q.2.2.contains "ValueError"), .bl (q.2.2.contains "KeyError"), .bl (q.2.2.contains "IndexError"), .bl (q.2.2.contains "LookupError"), .bl (q.2.2.contains "RuntimeError"), .bl (q.2.2.contains "OverflowError")] (0 + (j : Int)) = some (V.bl ((flagB q).getD j false)) := by
  rcases (show j = 0 ∨ j = 1 ∨ j = 2 ∨ j = 3 ∨ j = 4 ∨ j = 5 ∨ j = 6 by omega) with rfl | rfl | rfl | rfl | rfl | rfl | rfl <;> rfl
theorem wd_at (j : Nat) (hj : j < 7) : atI [.str "lot", .str "value", .str "key", .str "index", .str "lookup", .str "runtime", .str "overflow"] (0 + (j : Int)) = some (V.str (wordS.getD j "")) := by
  rcases (show j = 0 ∨ j = 1 ∨ j = 2 ∨ j = 3 ∨ j = 4 ∨ j = 5 ∨ j = 6 by omega) with rfl | rfl | rfl | rfl | rfl | rfl | rfl <;> rfl
theorem bas_filter : ∀ i < 15, ∀ q, bases[i]? = some q → names[i]? = some q.1 ∧ ((List.range 7).filter fun j => (flagB q).getD j false).map (fun j : Nat => V.str (wordS.getD j "")) = (dueW i).map V.str := by
  intro i hi q hq
  rcases (show i = 0 ∨ i = 1 ∨ i = 2 ∨ i = 3 ∨ i = 4 ∨ i = 5 ∨ i = 6 ∨ i = 7 ∨ i = 8 ∨ i = 9 ∨ i = 10 ∨ i = 11 ∨ i = 12 ∨ i = 13 ∨ i = 14 by omega) with rfl | rfl | rfl | rfl | rfl | rfl | rfl | rfl | rfl | rfl | rfl | rfl | rfl | rfl | rfl <;> cases hq <;> exact ⟨rfl, by decide +kernel⟩
theorem sc__law_bases : FnScope ["_law_caught", "_law_flags", "_law_words", "_law_k"] ["_law_caught"] (defScope (top 25)) := ⟨rfl, rfl, rfl, by decide +kernel, rfl, by decide +kernel, by decide +kernel⟩
def spBases (K : PySem.W.Frag) : Sp := fun vs H Q _ => ∃ (i : Nat) (e : Addr) (x : Str) (v u : V) (fs : List (Str × V)), vs = [.ref e] ∧ (madeL v u)[i]? = some (x, fs) ∧ ErrAt H e (He.ga K x) fs ∧
  ∀ (p : Addr) (H' : Hp), Same H H' → H' p = some (.lst ((dueW i).map V.str)) → Q (.ref p) H'
theorem ok__law_bases (T : Txt P K mg) : OkF P w K mg base CX0 1 (He.ga K "_law_bases") ["_law_caught"] (spBases K) := by
  obtain ⟨fd, F⟩ := T.F__law_bases
  refine ⟨fd, F.ok sc__law_bases (fun vs H Q E h => ?_) (fun cdv A outer s H vs Q E hr h => ?_), F.bindsN fun _ _ _ _ _ _ us hl => match us, hl with | [_], _ => rfl, F.kp⟩
  · obtain ⟨i, e, x, v, u, fs, rfl, _⟩ := h
    rfl
  · obtain ⟨i, e, x, v, u, fs, rfl, hi, E1, k⟩ := h
    refine ⟨_, PSs.nox (pss_cons (ps_asg (pe_lst (pa_cons (pe_callB call_isX (by rfl) T.z_isinstance (by decide +kernel) (pa_cons (pv 0) (pa_cons (pe_glob (v := .ref (He.ga K "LotError")) (by rfl) T.g_LotError rfl) pa_nil))) (pa_cons (pe_callB call_isX (by rfl) T.z_isinstance (by decide +kernel) (pa_cons (pv 0) (pa_cons (pe_bltn (v := .ty "ValueError") (by rfl) T.z_ValueError (by decide +kernel) rfl) pa_nil))) (pa_cons (pe_callB call_isX (by rfl) T.z_isinstance (by decide +kernel) (pa_cons (pv 0) (pa_cons (pe_bltn (v := .ty "KeyError") (by rfl) T.z_KeyError (by decide +kernel) rfl) pa_nil))) pa_nil)))) (pg_name (i := 1) sc__law_bases.nd rfl (.inr rfl)))
    (pss_cons (ps_asg (pe_op op_cat (pv 1) (pe_lst (pa_cons (pe_callB call_isX (by rfl) T.z_isinstance (by decide +kernel) (pa_cons (pv 0) (pa_cons (pe_bltn (v := .ty "IndexError") (by rfl) T.z_IndexError (by decide +kernel) rfl) pa_nil))) (pa_cons (pe_callB call_isX (by rfl) T.z_isinstance (by decide +kernel) (pa_cons (pv 0) (pa_cons (pe_bltn (v := .ty "LookupError") (by rfl) T.z_LookupError (by decide +kernel) rfl) pa_nil))) pa_nil)))) (pg_name (i := 1) sc__law_bases.nd rfl (.inr rfl)))
    (pss_cons (ps_asg (pe_op op_cat (pv 1) (pe_lst (pa_cons (pe_callB call_isX (by rfl) T.z_isinstance (by decide +kernel) (pa_cons (pv 0) (pa_cons (pe_bltn (v := .ty "RuntimeError") (by rfl) T.z_RuntimeError (by decide +kernel) rfl) pa_nil))) (pa_cons (pe_callB call_isX (by rfl) T.z_isinstance (by decide +kernel) (pa_cons (pv 0) (pa_cons (pe_bltn (v := .ty "OverflowError") (by rfl) T.z_OverflowError (by decide +kernel) rfl) pa_nil))) pa_nil)))) (pg_name (i := 1) sc__law_bases.nd rfl (.inr rfl)))
    (pss_cons (ps_asg (pe_lst (pa_cons pe_str (pa_cons pe_str (pa_cons pe_str (pa_cons pe_str (pa_cons pe_str (pa_cons pe_str (pa_cons pe_str pa_nil)))))))) (pg_name (i := 2) sc__law_bases.nd rfl (.inr rfl)))
    (pss_one (ps_ret (pe_lc (own := [("_law_k", 3)]) (g := gName 3) rfl sc__law_bases.nd (pi_range1 (by rfl) T.z_range (pa_cons pe_int pa_nil)) (blkOk_by (N := ["_law_caught", "_law_flags", "_law_words", "_law_k"]) (sc := defScope (top 25)) (by decide +kernel)) (fun _ _ _ _ _ => pg_name (i := 3) sc__law_bases.nd rfl (Or.inl rfl)) (fun _ _ _ _ _ => (pts_one (pt_val (pe_ix (ix_listK K) (pv 1) (pv 3) (fun _ _ => rfl))))) (fun _ _ _ _ _ => (pe_ix (ix_listK K) (pv 2) (pv 3) (fun _ _ => rfl)))))))))), ?_⟩
    obtain ⟨hx, hxi, xi⟩ := xi_of T hi
    have hlt : i < 15 := (List.getElem?_eq_some_iff.mp hi).1
    obtain ⟨q, hq⟩ : ∃ q, bases[i]? = some q := ⟨_, List.getElem?_eq_getElem (show i < bases.length from hlt)⟩
    obtain ⟨hqx, hfil⟩ := bas_filter i hlt q hq
    rw [hxi] at hqx
    cases hqx
    obtain ⟨b1, bt⟩ := bas_of T (List.mem_of_getElem? hq)
    have b2 := bt "ValueError" (by decide +kernel)
    have b3 := bt "KeyError" (by decide +kernel)
    have b4 := bt "IndexError" (by decide +kernel)
    have b5 := bt "LookupError" (by decide +kernel)
    have b6 := bt "RuntimeError" (by decide +kernel)
    have b7 := bt "OverflowError" (by decide +kernel)
    obtain ⟨d, h1, h2⟩ := E1
    walk_at "rdb"
    refine ⟨by show 3 ≤ sizeLine; decide, fun p1 n1 => ?_⟩
    have s1 := same_new (o := .lst [.bl q.2.1, .bl (q.2.2.contains "ValueError"), .bl (q.2.2.contains "KeyError")]) n1
    have f1 : upd H p1 (.lst [.bl q.2.1, .bl (q.2.2.contains "ValueError"), .bl (q.2.2.contains "KeyError")]) p1 = some (.lst [.bl q.2.1, .bl (q.2.2.contains "ValueError"), .bl (q.2.2.contains "KeyError")]) := upd_same
    generalize upd H p1 (.lst [.bl q.2.1, .bl (q.2.2.contains "ValueError"), .bl (q.2.2.contains "KeyError")]) = H1 at s1 f1 ⊢
    replace h1 := s1 _ _ h1
    replace h2 := s1 _ _ h2
    walk_at "rdb"
    refine ⟨by show 2 ≤ sizeLine; decide, fun q2 m2 => ?_⟩
    have u2 := same_new (o := .lst [.bl (q.2.2.contains "IndexError"), .bl (q.2.2.contains "LookupError")]) m2
    refine ⟨p1, q2, _, _, rfl, rfl, u2 _ _ f1, upd_same, by show 5 ≤ sizeLine; decide, fun p2 n2 => ?_⟩
    have v2 := u2.trans (same_new (o := .lst ([.bl q.2.1, .bl (q.2.2.contains "ValueError"), .bl (q.2.2.contains "KeyError")] ++ [.bl (q.2.2.contains "IndexError"), .bl (q.2.2.contains "LookupError")])) n2)
    have f2 : upd (upd H1 q2 (.lst [.bl (q.2.2.contains "IndexError"), .bl (q.2.2.contains "LookupError")])) p2 (.lst ([.bl q.2.1, .bl (q.2.2.contains "ValueError"), .bl (q.2.2.contains "KeyError")] ++ [.bl (q.2.2.contains "IndexError"), .bl (q.2.2.contains "LookupError")])) p2 = some (.lst ([.bl q.2.1, .bl (q.2.2.contains "ValueError"), .bl (q.2.2.contains "KeyError")] ++ [.bl (q.2.2.contains "IndexError"), .bl (q.2.2.contains "LookupError")])) := upd_same
    have s2 := s1.trans v2
    replace h1 := v2 _ _ h1
    replace h2 := v2 _ _ h2
    generalize upd (upd H1 q2 (.lst [.bl (q.2.2.contains "IndexError"), .bl (q.2.2.contains "LookupError")])) p2 (.lst ([.bl q.2.1, .bl (q.2.2.contains "ValueError"), .bl (q.2.2.contains "KeyError")] ++ [.bl (q.2.2.contains "IndexError"), .bl (q.2.2.contains "LookupError")])) = H2 at f2 s2 h1 h2 ⊢
    replace f2 : H2 p2 = some (.lst [.bl q.2.1, .bl (q.2.2.contains "ValueError"), .bl (q.2.2.contains "KeyError"), .bl (q.2.2.contains "IndexError"), .bl (q.2.2.contains "LookupError")]) := f2
    walk_at "rdb"
    refine ⟨by show 2 ≤ sizeLine; decide, fun q3 m3 => ?_⟩
    have u3 := same_new (o := .lst [.bl (q.2.2.contains "RuntimeError"), .bl (q.2.2.contains "OverflowError")]) m3
    refine ⟨p2, q3, _, _, rfl, rfl, u3 _ _ f2, upd_same, by show 7 ≤ sizeLine; decide, fun p3 n3 => ?_⟩
    have v3 := u3.trans (same_new (o := .lst ([.bl q.2.1, .bl (q.2.2.contains "ValueError"), .bl (q.2.2.contains "KeyError"), .bl (q.2.2.contains "IndexError"), .bl (q.2.2.contains "LookupError")] ++ [.bl (q.2.2.contains "RuntimeError"), .bl (q.2.2.contains "OverflowError")])) n3)
    have f3 : upd (upd H2 q3 (.lst [.bl (q.2.2.contains "RuntimeError"), .bl (q.2.2.contains "OverflowError")])) p3 (.lst ([.bl q.2.1, .bl (q.2.2.contains "ValueError"), .bl (q.2.2.contains "KeyError"), .bl (q.2.2.contains "IndexError"), .bl (q.2.2.contains "LookupError")] ++ [.bl (q.2.2.contains "RuntimeError"), .bl (q.2.2.contains "OverflowError")])) p3 = some (.lst ([.bl q.2.1, .bl (q.2.2.contains "ValueError"), .bl (q.2.2.contains "KeyError"), .bl (q.2.2.contains "IndexError"), .bl (q.2.2.contains "LookupError")] ++ [.bl (q.2.2.contains "RuntimeError"), .bl (q.2.2.contains "OverflowError")])) := upd_same
    have s3 := s2.trans v3
    replace h1 := v3 _ _ h1
    replace h2 := v3 _ _ h2
    generalize upd (upd H2 q3 (.lst [.bl (q.2.2.contains "RuntimeError"), .bl (q.2.2.contains "OverflowError")])) p3 (.lst ([.bl q.2.1, .bl (q.2.2.contains "ValueError"), .bl (q.2.2.contains "KeyError"), .bl (q.2.2.contains "IndexError"), .bl (q.2.2.contains "LookupError")] ++ [.bl (q.2.2.contains "RuntimeError"), .bl (q.2.2.contains "OverflowError")])) = H3 at f3 s3 h1 h2 ⊢
    replace f3 : H3 p3 = some (.lst [.bl q.2.1, .bl (q.2.2.contains "ValueError"), .bl (q.2.2.contains "KeyError"), .bl (q.2.2.contains "IndexError"), .bl (q.2.2.contains "LookupError"), .bl (q.2.2.contains "RuntimeError"), .bl (q.2.2.contains "OverflowError")]) := f3
    refine ⟨by show 7 ≤ sizeLine; decide, fun pw nw => ?_⟩
    have sw := same_new (o := .lst [.str "lot", .str "value", .str "key", .str "index", .str "lookup", .str "runtime", .str "overflow"]) nw
    have fw : upd H3 pw (.lst [.str "lot", .str "value", .str "key", .str "index", .str "lookup", .str "runtime", .str "overflow"]) pw = some (.lst [.str "lot", .str "value", .str "key", .str "index", .str "lookup", .str "runtime", .str "overflow"]) := upd_same
    generalize upd H3 pw (.lst [.str "lot", .str "value", .str "key", .str "index", .str "lookup", .str "runtime", .str "overflow"]) = H4 at sw fw ⊢
    replace f3 := sw _ _ f3
    refine ⟨7, rfl, by decide, by decide, fun D hD => ?_⟩
    refine lcR (fun j => (flagB q).getD j false) (fun j : Nat => .str (wordS.getD j "")) hD (by decide) (fun j => rfl) (fun j H' hj sj Qb z => ?_) (fun j H' hj _ sj Q' z => ?_) fun H' sj hl => ?_
    · exact ⟨_, rfl, _, rfl, p3, _, _, _, rfl, rfl, SqL.of (sj _ _ f3), fl_at q j hj, _, rfl, z H' (Same.refl _)⟩
    · exact ⟨_, rfl, _, rfl, pw, _, _, _, rfl, rfl, SqL.of (sj _ _ fw), wd_at j hj, z H' (Same.refl _)⟩
    · exact k D H' ((s3.trans sw).trans sj) (hl.trans (congrArg (fun l => some (HO.lst l)) hfil))
theorem sc__law_due : FnScope ["_law_k"] ["_law_k"] (defScope (top 26)) := ⟨rfl, rfl, rfl, by decide +kernel, rfl, by decide +kernel, by decide +kernel⟩
def spDue (K : PySem.W.Frag) : Sp := fun vs H Q _ => ∃ (i : Nat), vs = [.int (i : Int)] ∧ i < 15 ∧ ∀ (p : Addr) (H' : Hp), Same H H' → H' p = some (.lst ((dueW i).map V.str)) → Q (.ref p) H'
theorem ok__law_due (T : Txt P K mg) : OkF P w K mg base CX0 1 (He.ga K "_law_due") ["_law_k"] (spDue K) := by
  obtain ⟨fd, F⟩ := T.F__law_due
  refine ⟨fd, F.ok sc__law_due (fun vs H Q E h => ?_) (fun cdv A outer s H vs Q E hr h => ?_), F.bindsN fun _ _ _ _ _ _ us hl => match us, hl with | [_], _ => rfl, F.kp⟩
  · obtain ⟨i, rfl, _⟩ := h
    rfl
  · obtain ⟨i, rfl, hlt, k⟩ := h
    refine ⟨_, PSs.nox (pss_cons (ps_if (pt_cmpR op_lt (pv 0) pe_int (nomark _))
      (pss_one (ps_ret (pe_lst (pa_cons pe_str (pa_cons pe_str pa_nil)))))
      pss_nil)
    (pss_one (ps_ret (pe_ix (ix_listK K) (pe_lst (pa_cons (pe_lst (pa_cons pe_str (pa_cons pe_str pa_nil))) (pa_cons (pe_lst (pa_cons pe_str pa_nil)) (pa_cons (pe_lst (pa_cons pe_str (pa_cons pe_str pa_nil))) (pa_cons (pe_lst (pa_cons pe_str pa_nil)) (pa_cons (pe_lst (pa_cons pe_str pa_nil)) (pa_cons (pe_lst (pa_cons pe_str pa_nil)) pa_nil))))))) (pe_op op_sub (pv 0) pe_int) (fun _ _ => rfl))))), ?_⟩
    walk_at "rd"
    refine iteD (fun h9 => ?_) (fun h9 => ?_)
    · refine ⟨by show 2 ≤ sizeLine; decide, fun p hp => k p _ (same_new hp) ?_⟩
      have h9' : i < 9 := by omega
      unfold dueW
      rw [if_pos h9', upd_same]
      rfl
    · refine ⟨by show 2 ≤ sizeLine; decide, fun l1 m1 => ?_⟩
      have g1 : upd H l1 (.lst [.str "key", .str "lookup"]) l1 = some (.lst [.str "key", .str "lookup"]) := upd_same
      have s1 : Same H (upd H l1 (.lst [.str "key", .str "lookup"])) := same_new m1
      generalize upd H l1 (.lst [.str "key", .str "lookup"]) = H1 at g1 s1 ⊢
      refine ⟨by show 1 ≤ sizeLine; decide, fun l2 m2 => ?_⟩
      have g2 : upd H1 l2 (.lst [.str "lookup"]) l2 = some (.lst [.str "lookup"]) := upd_same
      have s2 : Same H1 (upd H1 l2 (.lst [.str "lookup"])) := same_new m2
      generalize upd H1 l2 (.lst [.str "lookup"]) = H2 at g2 s2 ⊢
      refine ⟨by show 2 ≤ sizeLine; decide, fun l3 m3 => ?_⟩
      have g3 : upd H2 l3 (.lst [.str "index", .str "lookup"]) l3 = some (.lst [.str "index", .str "lookup"]) := upd_same
      have s3 : Same H2 (upd H2 l3 (.lst [.str "index", .str "lookup"])) := same_new m3
      generalize upd H2 l3 (.lst [.str "index", .str "lookup"]) = H3 at g3 s3 ⊢
      refine ⟨by show 1 ≤ sizeLine; decide, fun l4 m4 => ?_⟩
      have g4 : upd H3 l4 (.lst [.str "runtime"]) l4 = some (.lst [.str "runtime"]) := upd_same
      have s4 : Same H3 (upd H3 l4 (.lst [.str "runtime"])) := same_new m4
      generalize upd H3 l4 (.lst [.str "runtime"]) = H4 at g4 s4 ⊢
      refine ⟨by show 1 ≤ sizeLine; decide, fun l5 m5 => ?_⟩
      have g5 : upd H4 l5 (.lst [.str "runtime"]) l5 = some (.lst [.str "runtime"]) := upd_same
      have s5 : Same H4 (upd H4 l5 (.lst [.str "runtime"])) := same_new m5
      generalize upd H4 l5 (.lst [.str "runtime"]) = H5 at g5 s5 ⊢
      refine ⟨by show 1 ≤ sizeLine; decide, fun l6 m6 => ?_⟩
      have g6 : upd H5 l6 (.lst [.str "overflow"]) l6 = some (.lst [.str "overflow"]) := upd_same
      have s6 : Same H5 (upd H5 l6 (.lst [.str "overflow"])) := same_new m6
      generalize upd H5 l6 (.lst [.str "overflow"]) = H6 at g6 s6 ⊢
      refine ⟨by show 6 ≤ sizeLine; decide, fun L hL => ?_⟩
      have s7 := same_new (o := .lst [.ref l1, .ref l2, .ref l3, .ref l4, .ref l5, .ref l6]) hL
      have st : Same H (upd H6 L (.lst [.ref l1, .ref l2, .ref l3, .ref l4, .ref l5, .ref l6])) := fun b o z => s7 _ _ (s6 _ _ (s5 _ _ (s4 _ _ (s3 _ _ (s2 _ _ (s1 _ _ z))))))
      replace g1 := s7 _ _ (s6 _ _ (s5 _ _ (s4 _ _ (s3 _ _ (s2 _ _ g1)))))
      replace g2 := s7 _ _ (s6 _ _ (s5 _ _ (s4 _ _ (s3 _ _ g2))))
      replace g3 := s7 _ _ (s6 _ _ (s5 _ _ (s4 _ _ g3)))
      replace g4 := s7 _ _ (s6 _ _ (s5 _ _ g4))
      replace g5 := s7 _ _ (s6 _ _ g5)
      replace g6 := s7 _ _ g6
      rcases (show i = 9 ∨ i = 10 ∨ i = 11 ∨ i = 12 ∨ i = 13 ∨ i = 14 by omega) with rfl | rfl | rfl | rfl | rfl | rfl
      · exact ⟨_, rfl, _, _, rfl, rfl, L, _, _, .ref l1, rfl, rfl, SqL.of upd_same, rfl, k _ _ st g1⟩
      · exact ⟨_, rfl, _, _, rfl, rfl, L, _, _, .ref l2, rfl, rfl, SqL.of upd_same, rfl, k _ _ st g2⟩
      · exact ⟨_, rfl, _, _, rfl, rfl, L, _, _, .ref l3, rfl, rfl, SqL.of upd_same, rfl, k _ _ st g3⟩
      · exact ⟨_, rfl, _, _, rfl, rfl, L, _, _, .ref l4, rfl, rfl, SqL.of upd_same, rfl, k _ _ st g4⟩
      · exact ⟨_, rfl, _, _, rfl, rfl, L, _, _, .ref l5, rfl, rfl, SqL.of upd_same, rfl, k _ _ st g5⟩
      · exact ⟨_, rfl, _, _, rfl, rfl, L, _, _, .ref l6, rfl, rfl, SqL.of upd_same, rfl, k _ _ st g6⟩
end
end Kx
set_option maxHeartbeats 4000000
namespace Kx
open PySem PySem.Spec PyProof.Rows L2 Xr
local macro_rules | `(tactic| walk_at "rd") => `(tactic| (repeat (first | apply Exists.intro | (refine And.intro rfl ?_) | (refine And.intro (SqL.of (by assumption)) ?_) | (refine And.intro (Or.inl (SqL.of (by assumption))) ?_) | (refine Or.inl ⟨_, rfl, ?_⟩) | (refine Or.inr ⟨_, rfl, ?_⟩) | (refine And.intro (by assumption) ?_) | (refine And.intro (Or.inl (by assumption)) ?_))))
def okD (d : PyData) : Bool := d.showable && (decide (d.depth ≤ 20) && decide (d.shown.length ≤ 1000))
def okAll : Bool := things.all fun a => okD (.list [a]) && things.all fun b => okD (.list [a, b])
theorem okAll_true : okAll = true := by decide +kernel
theorem okD_ok {d : PyData} (h : okD d = true) : d.showable = true ∧ d.depth ≤ 20 ∧ d.shown.length ≤ sizeLine := by
  obtain ⟨h1, h2⟩ := He.ba h
  obtain ⟨h2, h3⟩ := He.ba h2
  exact ⟨h1, of_decide_eq_true h2, Nat.le_trans (of_decide_eq_true h3) (by decide)⟩
theorem ok1 {a : PyData} (h : a ∈ things) : okD (.list [a]) = true := (He.ba (List.all_eq_true.mp okAll_true a h)).1
theorem ok2 {a b : PyData} (h : a ∈ things) (h' : b ∈ things) : okD (.list [a, b]) = true := List.all_eq_true.mp (He.ba (List.all_eq_true.mp okAll_true a h)).2 b h'
theorem fields_of {v u : V} {i : Nat} {x : Str} {fs : List (Str × V)} (h : (madeL v u)[i]? = some (x, fs)) : fs.map (·.2) = if inV (.int (i : Int)) [.int 2, .int 6, .int 7] = true then [v, u] else [v] := by
  have hlt : i < 15 := (List.getElem?_eq_some_iff.mp h).1
  rcases (show i = 0 ∨ i = 1 ∨ i = 2 ∨ i = 3 ∨ i = 4 ∨ i = 5 ∨ i = 6 ∨ i = 7 ∨ i = 8 ∨ i = 9 ∨ i = 10 ∨ i = 11 ∨ i = 12 ∨ i = 13 ∨ i = 14 by omega) with rfl | rfl | rfl | rfl | rfl | rfl | rfl | rfl | rfl | rfl | rfl | rfl | rfl | rfl | rfl <;> cases h <;> rfl
theorem sqT_same {K : PySem.W.Frag} {H H' : Hp} {a : Addr} {xs : List V} (s : Same H H') (h : SqT K H a xs) : SqT K H' a xs := by
  rcases h with (h | ⟨o, h⟩) | h
  · exact Or.inl (Or.inl (s _ _ h))
  · exact Or.inl (Or.inr ⟨o, s _ _ h⟩)
  · exact Or.inr h
mutual
theorem Dq.same {K : PySem.W.Frag} {H H' : Hp} (s : Same H H') : ∀ {v : V} {d : PyData}, Dq K H v d → Dq K H' v d
  | _, _, .non => .non
  | _, _, .bl b => .bl b
  | _, _, .int i => .int i
  | _, _, .str x => .str x
  | _, _, .lst h t => .lst (s.seq h) (DqAll.same s t)
  | _, _, .tup h t => .tup (sqT_same s h) (DqAll.same s t)
  | _, _, .dic h t => .dic (s _ _ h) (DqAll.same s t)
theorem DqAll.same {K : PySem.W.Frag} {H H' : Hp} (s : Same H H') : ∀ {vs : List V} {ds : List PyData}, DqAll K H vs ds → DqAll K H' vs ds
  | _, _, .nil => .nil
  | _, _, .cons h t => .cons (Dq.same s h) (DqAll.same s t)
end
theorem due_shaped : ∀ i, i < 15 → SeqAt.shaped (.list ((dueW i).map PyData.str)) = true := by decide +kernel
theorem dp_strs {K : PySem.W.Frag} {H : Hp} : ∀ ns : List Str, DpAll K H (ns.map V.str) (ns.map PyData.str)
  | [] => .nil
  | n :: l => .cons (.str n) (dp_strs l)
section
variable {P : Program} {w : World} {K : PySem.W.Frag} {mg : Str → Option Value} {base : Heap}
theorem sc_law : FnScope ["_law_script", "_law_pen_here", "_law_turn", "_law_one", "_law_two", "_law_made_here", "_law_k", "_law_caught", "_law_due_here"] ["_law_script"] (defScope (top 27)) := ⟨rfl, rfl, rfl, by decide +kernel, rfl, by decide +kernel, by decide +kernel⟩
def spLaw (K : PySem.W.Frag) : Sp := fun vs H Q _ => ∃ (a : Addr) (ns : List Int), vs = [.ref a] ∧ SqL K H a (ns.map V.int) ∧ ns.length ≤ 63 ∧ ∀ H', Q (.bl true) H'
theorem ok_law (T : Txt P K mg) {fd : FuncData} (F : FunD K "law" "law" (defArgs (top 27)) (defBody (top 27)) (defScope (top 27)) [] [] (He.ga K "law") fd) : FnG P w K mg base CX0 4 (He.ga K "law") fd ["_law_script"] (spLaw K) := by
  have G__law_pen := ok__law_pen (P := P) (w := w) (base := base) T
  have G__law_thing := ok__law_thing (P := P) (w := w) (base := base) T
  have G__law_made := ok__law_made (P := P) (w := w) (base := base) T
  have G__law_fields := ok__law_fields (P := P) (w := w) (base := base) T
  have G__law_own := ok__law_own (P := P) (w := w) (base := base) T
  have G__law_bases := ok__law_bases (P := P) (w := w) (base := base) T
  have G__law_due := ok__law_due (P := P) (w := w) (base := base) T
  refine okG F sc_law (fun vs H Q E h => ?_) (fun cdv A outer s H vs Q E hr hgd h => ?_)
  · obtain ⟨a, ns, rfl, _⟩ := h
    rfl
  · obtain ⟨a, ns, rfl, hS, hl, k⟩ := h
    have hu64 := hr.units
    refine ⟨_, PSs.nox (pss_cons (ps_asg (pe_f G__law_pen (hr.mono (by decide)) (by rfl) T.g__law_pen pass0 (pa_cons (pv 0) pa_nil)) (pg_name (i := 1) sc_law.nd rfl (.inl rfl)))
    (pss_cons (ps_for PassesOwn.never rfl (pi_range1 (by rfl) T.z_range (pa_cons pe_int pa_nil)) (pg_name (i := 2) sc_law.nd rfl (.inl rfl))
      (pss_cons (ps_par (i := 3) (j := 4) (by rfl) sc_law.nd rfl rfl (by decide) rfl rfl (pa_cons (pe_f G__law_thing (hr.mono (by decide)) (by rfl) T.g__law_thing pass0 (pa_cons (pv 1) pa_nil)) (pa_cons (pe_f G__law_thing (hr.mono (by decide)) (by rfl) T.g__law_thing pass0 (pa_cons (pv 1) pa_nil)) pa_nil)) (by rfl))
    (pss_cons (ps_asg (pe_f G__law_made (hr.mono (by decide)) (by rfl) T.g__law_made pass0 (pa_cons (pv 3) (pa_cons (pv 4) pa_nil))) (pg_name (i := 5) sc_law.nd rfl (.inl rfl)))
    (pss_one (ps_for PassesOwn.never rfl (pi_range1 (by rfl) T.z_range (pa_cons pe_int pa_nil)) (pg_name (i := 6) sc_law.nd rfl (.inl rfl))
      (pss_one (ps_for PassesOwn.never rfl (pi_tup (pe_ix (ix_listK K) (pv 5) (pv 6) (fun _ _ => rfl))) (pg_name (i := 7) sc_law.nd rfl (.inl rfl))
      (pss_cons (ps_asg (pe_cut (pe_ifExp (pt_cmpR op_in_seq (pv 6) (pe_tup (pa_cons pe_int (pa_cons pe_int (pa_cons pe_int pa_nil)))) (by rfl)) (pe_lst (pa_cons (pv 3) (pa_cons (pv 4) pa_nil))) (pe_lst (pa_cons (pv 3) pa_nil)))) (pg_name (i := 8) sc_law.nd rfl (.inl rfl)))
    (pss_cons (ps_if (pt_cmpR op_ne (pe_callB (call_repr T.all.sys hgd hu64) (by rfl) T.z_repr (by decide +kernel) (pa_cons (pe_f G__law_fields (hr.mono (by decide)) (by rfl) T.g__law_fields pass0 (pa_cons (pv 6) (pa_cons (pv 7) pa_nil))) pa_nil)) (pe_callB (call_repr T.all.sys hgd hu64) (by rfl) T.z_repr (by decide +kernel) (pa_cons (pv 8) pa_nil)) (nomark _))
      (pss_one (ps_ret pe_bl))
      pss_nil)
    (pss_one (ps_if (PW.pt (pw_or (pt_cmpR (op_neD hu64) (pe_f G__law_own (hr.mono (by decide)) (by rfl) T.g__law_own pass0 (pa_cons (pv 7) pa_nil)) (pe_lst (pa_cons (pv 6) pa_nil)) (nomark _)) (pw_or1 (pt_cmpR (op_neD hu64) (pe_f G__law_bases (hr.mono (by decide)) (by rfl) T.g__law_bases pass0 (pa_cons (pv 7) pa_nil)) (pe_f G__law_due (hr.mono (by decide)) (by rfl) T.g__law_due pass0 (pa_cons (pv 6) pa_nil)) (nomark _)))))
      (pss_one (ps_ret pe_bl))
      pss_nil)))))))))))
    (pss_one (ps_ret pe_bl)))), ?_⟩
    walk_at "rd"
    intro p q ns' H1 n1 s1 S1
    refine ⟨4, rfl, by decide, by decide, for_range (n := 4) (fun t σ H2 => ∃ (x2 x3 x4 x5 x6 x7 x8 : Option V) (at_ r : Int), σ = [some (.ref a), some (.ref p), x2, x3, x4, x5, x6, x7, x8] ∧ PenAt H2 p q ns' at_ r ∧ at_ ≤ 2 * t) ⟨_, _, _, _, _, _, _, _, _, rfl, S1, by decide⟩ ?_ ?_⟩
    · rintro t σ H2 ht ⟨x2, x3, x4, x5, x6, x7, x8, at_, r, rfl, S2, hat⟩
      walk_at "rd"
      refine And.intro (by omega) fun v d1 a1 r1 H3 hd1 q1 a10 a11 B3 S3 => ?_
      walk_at "rd"
      refine And.intro (by omega) fun u d2 a2 r2 H4 hd2 q2 a20 a21 B4 S4 => ?_
      have D1 : Dq K H4 v d1 := q1 H4 B4
      have D2 : Dq K H4 u d2 := q2 H4 But.refl
      walk_at "rd"
      intro l L H5 s5 hl5 A5 hL
      refine ⟨15, rfl, by decide, by decide, for_range (n := 15) (fun i σ H6 => ∃ (x6 x7 x8 : Option V), σ = [some (.ref a), some (.ref p), some (.int (0 + (t : Int))), some v, some u, some (.ref l), x6, x7, x8] ∧ Same H5 H6) ⟨_, _, _, rfl, Same.refl _⟩ ?_ ?_⟩
      · rintro i σ H6 hi ⟨x6, x7, x8, rfl, s6⟩
        obtain ⟨⟨x, fs⟩, hm⟩ : ∃ z, (madeL v u)[i]? = some z := ⟨_, List.getElem?_eq_getElem (show i < (madeL v u).length from hi)⟩
        obtain ⟨row, hrow⟩ : ∃ row, L[i]? = some row := by
          have z := congrArg List.length hL
          rw [List.length_map, List.length_map] at z
          have y : (madeL v u).length = 15 := rfl
          exact ⟨_, List.getElem?_eq_getElem (show i < L.length by omega)⟩
        have hrow2 : row.2 = (He.ga K x, fs) := by
          have z : (L.map (·.2))[i]? = ((madeL v u).map (fun q => (He.ga K q.1, q.2)))[i]? := by rw [hL]
          rw [List.getElem?_map, List.getElem?_map, hrow, hm] at z
          exact Option.some.inj z
        obtain ⟨e1, e2, ht6, E1, E2⟩ : PairAt H6 row.1 (He.ga K x) fs := by
          have z := (A5.same s6) row (List.mem_of_getElem? hrow)
          rw [hrow2] at z
          exact z
        have hat : atI (refs L) (0 + (i : Int)) = some (.ref row.1) := by
          have z := (List.getElem?_eq_some_iff.mp hrow).1
          rw [atI_at (by omega) (by unfold refs; rw [List.length_map]; omega)]
          have y : (0 + (i : Int)).toNat = i := by omega
          have e : (refs L)[i]? = some (.ref row.1) := by
            unfold refs
            rw [List.getElem?_map, hrow]
            rfl
          simp only [y]
          rw [← List.getElem?_eq_getElem, e]
        have hl6 : H6 l = some (.lst (refs L)) := s6 _ _ hl5
        refine ⟨_, rfl, _, rfl, l, _, _, _, rfl, rfl, SqL.of hl6, hat, row.1, rfl, ⟨_, SqT.of ht6⟩, ?_⟩
        refine for_tup (xs := [.ref e1, .ref e2]) (fun j σ H7 => ∃ (x7 x8 : Option V), σ = [some (.ref a), some (.ref p), some (.int (0 + (t : Int))), some v, some u, some (.ref l), some (.int (i : Int)), x7, x8] ∧ Same H6 H7) ⟨x7, x8, by show [some (V.ref a), some (V.ref p), some (V.int (0 + (t : Int))), some v, some u, some (V.ref l), some (V.int (0 + (i : Int))), x7, x8] = _; rw [Int.zero_add (i : Int)], Same.refl _⟩ ?_ ?_ ?_
        · rintro j σ H7 hj ⟨x7, x8, rfl, s7⟩
          exact SqT.of (s7 _ _ ht6)
        · rintro j y σ H7 hj ⟨x7, x8, rfl, s7⟩
          obtain ⟨e, rfl, Ee⟩ : ∃ e, y = .ref e ∧ ErrAt H6 e (He.ga K x) fs := by
            match j, hj with
            | 0, hj => exact ⟨e1, (Option.some.inj hj).symm, E1⟩
            | 1, hj => exact ⟨e2, (Option.some.inj hj).symm, E2⟩
          have E7 := Ee.same s7
          have D71 : Dq K H7 v d1 := Dq.same (s5.trans (s6.trans s7)) D1
          have D72 : Dq K H7 u d2 := Dq.same (s5.trans (s6.trans s7)) D2
          have hfs := fields_of hm
          obtain ⟨d, hdd, okd⟩ : ∃ d, (∀ H', Same H7 H' → ∀ b, H' b = some (.lst (fs.map (·.2))) → Dq K H' (.ref b) d) ∧ okD d = true := by
            cases hin : inV (.int (i : Int)) [.int 2, .int 6, .int 7] with
            | true =>
              rw [hin, if_pos rfl] at hfs
              exact ⟨.list [d1, d2], fun H' z b hb => .lst (SqL.of hb) (by rw [hfs]; exact .cons (Dq.same z D71) (.cons (Dq.same z D72) .nil)), ok2 hd1 hd2⟩
            | false =>
              rw [hin, if_neg Bool.false_ne_true] at hfs
              exact ⟨.list [d1], fun H' z b hb => .lst (SqL.of hb) (by rw [hfs]; exact .cons (Dq.same z D71) .nil), ok1 hd1⟩
          obtain ⟨k1, k2, k3⟩ := okD_ok okd
          refine CutE.mk (fun y H8 => ∃ q8, y = .ref q8 ∧ Same H7 H8 ∧ H8 q8 = some (.lst (fs.map (·.2)))) ?_ ?_
          · refine ⟨_, rfl, by show 3 ≤ sizeLine; decide, fun p0 n0 => ⟨p0, _, rfl, .inr (SqT.of upd_same), rfl, rfl, _, rfl, ?_⟩⟩
            have s0 := same_new (o := .tup [.int 2, .int 6, .int 7]) n0
            refine iteB (fun hin => ?_) (fun hin => ?_)
            · refine ⟨_, rfl, _, rfl, by show 2 ≤ sizeLine; decide, fun q8 n8 => ⟨q8, rfl, s0.trans (same_new n8), ?_⟩⟩
              rw [upd_same, hfs, if_pos (show inV (.int (i : Int)) [.int 2, .int 6, .int 7] = true from hin)]
            · refine ⟨_, rfl, by show 1 ≤ sizeLine; decide, fun q8 n8 => ⟨q8, rfl, s0.trans (same_new n8), ?_⟩⟩
              rw [upd_same, hfs, if_neg (by rw [show inV (.int (i : Int)) [.int 2, .int 6, .int 7] = false from hin]; exact Bool.false_ne_true)]
          · rintro y H8 ⟨q8, rfl, s8, hq8⟩
            have E8 := E7.same s8
            refine ⟨_, rfl, _, rfl, i, e, x, v, u, fs, rfl, hm, E8, fun p9 H9 s9 hp9 => ?_⟩
            refine ⟨p9, d, rfl, hdd H9 (s8.trans s9) p9 hp9, k1, k2, k3, ?_⟩
            refine ⟨_, rfl, q8, d, rfl, hdd H9 (s8.trans s9) q8 (s9 _ _ hq8), k1, k2, k3, rfl, _, rfl, ?_⟩
            refine iteNS rfl ?_
            have E9 := E8.same s9
            refine ⟨_, rfl, i, e, x, v, u, fs, rfl, hm, E9, fun po Ho so hpo => ?_⟩
            refine ⟨_, rfl, by show 1 ≤ sizeLine; decide, fun pk nk => ?_⟩
            have sk := same_new (o := .lst [.int (i : Int)]) nk
            refine ⟨_, _, Dp.lst (SqL.of (sk _ _ hpo)) (dp_ints [(i : Int)]), Dp.lst (SqL.of upd_same) (dp_ints [(i : Int)]), PySem.W.ke_shaped_ints [(i : Int)], PySem.W.ke_shaped_ints [(i : Int)], _, rfl, ?_⟩
            refine iteFa (by rw [SeqAt.eqv_refl _ (SeqAt.canLay_of_shaped (PySem.W.ke_shaped_ints [(i : Int)]))]; rfl) ?_
            refine ⟨_, rfl, i, e, x, v, u, fs, rfl, hm, (E9.same so).same sk, fun pb Hb sb hpb => ?_⟩
            refine ⟨_, rfl, i, rfl, hi, fun pd Hd sd hpd => ?_⟩
            have shp : SeqAt.shaped (.list ((dueW i).map PyData.str)) = true := due_shaped i hi
            refine ⟨_, _, Dp.lst (SqL.of (sd _ _ hpb)) (dp_strs _), Dp.lst (SqL.of hpd) (dp_strs _), shp, shp, _, rfl, ?_⟩
            refine iteFa (by rw [SeqAt.eqv_refl _ (SeqAt.canLay_of_shaped shp)]; rfl) ?_
            exact ⟨_, _, rfl, fun b o z => sd _ _ (sb _ _ (sk _ _ (so _ _ (s9 _ _ (s8 _ _ (s7 _ _ z))))))⟩
        · rintro σ H7 ⟨x7, x8, rfl, s7⟩
          exact ⟨_, _, _, rfl, s6.trans s7⟩
      · rintro σ H6 ⟨x6, x7, x8, rfl, s6⟩
        exact ⟨_, _, _, _, _, _, _, a2, r2, rfl, S4.same (s5.trans s6), by omega⟩
    · rintro σ H2 ⟨x2, x3, x4, x5, x6, x7, x8, at_, r, rfl, S2, hat⟩
      exact k H2
end
end Kx
set_option maxHeartbeats 0
namespace Kx
open PySem PySem.Spec PyProof.Rows L2 Xr
abbrev prog : Program := PySem.Challenge.pw_wholelots_k01_errors
theorem it_InvalidLegs : InitT (defArgs sInvalidLegs) (defBody sInvalidLegs) (defScope sInvalidLegs) ["reason"] :=
  ⟨.inl ⟨"reason", _, _, _, _, _, _, _, _, _, _, rfl, fun env => ⟨_, rfl⟩, rfl⟩, rfl, rfl, rfl, by decide +kernel, by decide +kernel, by decide +kernel, by decide +kernel, ⟨_, rfl, rfl⟩, by decide +kernel, by decide +kernel⟩
theorem ib_InvalidLegs (kV doc pm : Value) (an : Option Addr) (cdv ct : Value) (cc : Addr) : ErrB (PySem.W.ksFn "__init__" "InvalidLegs.__init__" (defArgs sInvalidLegs) (defBody sInvalidLegs) (defScope sInvalidLegs) .none kV doc pm an cdv ct cc) ["reason"] :=
  ⟨fun s self us hl => match us, hl with | [_], _ => .of_eq rfl, fun s self us hl => match us, hl with | [_], _ => .of_eq rfl⟩
theorem it_InvalidStrategy : InitT (defArgs sInvalidStrategy) (defBody sInvalidStrategy) (defScope sInvalidStrategy) ["reason"] :=
  ⟨.inl ⟨"reason", _, _, _, _, _, _, _, _, _, _, rfl, fun env => ⟨_, rfl⟩, rfl⟩, rfl, rfl, rfl, by decide +kernel, by decide +kernel, by decide +kernel, by decide +kernel, ⟨_, rfl, rfl⟩, by decide +kernel, by decide +kernel⟩
theorem ib_InvalidStrategy (kV doc pm : Value) (an : Option Addr) (cdv ct : Value) (cc : Addr) : ErrB (PySem.W.ksFn "__init__" "InvalidStrategy.__init__" (defArgs sInvalidStrategy) (defBody sInvalidStrategy) (defScope sInvalidStrategy) .none kV doc pm an cdv ct cc) ["reason"] :=
  ⟨fun s self us hl => match us, hl with | [_], _ => .of_eq rfl, fun s self us hl => match us, hl with | [_], _ => .of_eq rfl⟩
theorem it_InvalidList : InitT (defArgs sInvalidList) (defBody sInvalidList) (defScope sInvalidList) ["reason", "name"] :=
  ⟨.inr ⟨"reason", "name", _, _, _, _, _, _, _, _, _, _, _, _, _, _, _, rfl, fun env => ⟨_, rfl⟩, rfl⟩, rfl, rfl, rfl, by decide +kernel, by decide +kernel, by decide +kernel, by decide +kernel, ⟨_, rfl, rfl⟩, by decide +kernel, by decide +kernel⟩
theorem ib_InvalidList (kV doc pm : Value) (an : Option Addr) (cdv ct : Value) (cc : Addr) : ErrB (PySem.W.ksFn "__init__" "InvalidList.__init__" (defArgs sInvalidList) (defBody sInvalidList) (defScope sInvalidList) .none kV doc pm an cdv ct cc) ["reason", "name"] :=
  ⟨fun s self us hl => match us, hl with | [_, _], _ => .of_eq rfl, fun s self us hl => match us, hl with | [_, _], _ => .of_eq rfl⟩
theorem it_InvalidOrder : InitT (defArgs sInvalidOrder) (defBody sInvalidOrder) (defScope sInvalidOrder) ["reason"] :=
  ⟨.inl ⟨"reason", _, _, _, _, _, _, _, _, _, _, rfl, fun env => ⟨_, rfl⟩, rfl⟩, rfl, rfl, rfl, by decide +kernel, by decide +kernel, by decide +kernel, by decide +kernel, ⟨_, rfl, rfl⟩, by decide +kernel, by decide +kernel⟩
theorem ib_InvalidOrder (kV doc pm : Value) (an : Option Addr) (cdv ct : Value) (cc : Addr) : ErrB (PySem.W.ksFn "__init__" "InvalidOrder.__init__" (defArgs sInvalidOrder) (defBody sInvalidOrder) (defScope sInvalidOrder) .none kV doc pm an cdv ct cc) ["reason"] :=
  ⟨fun s self us hl => match us, hl with | [_], _ => .of_eq rfl, fun s self us hl => match us, hl with | [_], _ => .of_eq rfl⟩
theorem it_InvalidPrices : InitT (defArgs sInvalidPrices) (defBody sInvalidPrices) (defScope sInvalidPrices) ["reason"] :=
  ⟨.inl ⟨"reason", _, _, _, _, _, _, _, _, _, _, rfl, fun env => ⟨_, rfl⟩, rfl⟩, rfl, rfl, rfl, by decide +kernel, by decide +kernel, by decide +kernel, by decide +kernel, ⟨_, rfl, rfl⟩, by decide +kernel, by decide +kernel⟩
theorem ib_InvalidPrices (kV doc pm : Value) (an : Option Addr) (cdv ct : Value) (cc : Addr) : ErrB (PySem.W.ksFn "__init__" "InvalidPrices.__init__" (defArgs sInvalidPrices) (defBody sInvalidPrices) (defScope sInvalidPrices) .none kV doc pm an cdv ct cc) ["reason"] :=
  ⟨fun s self us hl => match us, hl with | [_], _ => .of_eq rfl, fun s self us hl => match us, hl with | [_], _ => .of_eq rfl⟩
theorem it_InvalidRound : InitT (defArgs sInvalidRound) (defBody sInvalidRound) (defScope sInvalidRound) ["reason"] :=
  ⟨.inl ⟨"reason", _, _, _, _, _, _, _, _, _, _, rfl, fun env => ⟨_, rfl⟩, rfl⟩, rfl, rfl, rfl, by decide +kernel, by decide +kernel, by decide +kernel, by decide +kernel, ⟨_, rfl, rfl⟩, by decide +kernel, by decide +kernel⟩
theorem ib_InvalidRound (kV doc pm : Value) (an : Option Addr) (cdv ct : Value) (cc : Addr) : ErrB (PySem.W.ksFn "__init__" "InvalidRound.__init__" (defArgs sInvalidRound) (defBody sInvalidRound) (defScope sInvalidRound) .none kV doc pm an cdv ct cc) ["reason"] :=
  ⟨fun s self us hl => match us, hl with | [_], _ => .of_eq rfl, fun s self us hl => match us, hl with | [_], _ => .of_eq rfl⟩
theorem it_NotWhole : InitT (defArgs sNotWhole) (defBody sNotWhole) (defScope sNotWhole) ["first", "second"] :=
  ⟨.inr ⟨"first", "second", _, _, _, _, _, _, _, _, _, _, _, _, _, _, _, rfl, fun env => ⟨_, rfl⟩, rfl⟩, rfl, rfl, rfl, by decide +kernel, by decide +kernel, by decide +kernel, by decide +kernel, ⟨_, rfl, rfl⟩, by decide +kernel, by decide +kernel⟩
theorem ib_NotWhole (kV doc pm : Value) (an : Option Addr) (cdv ct : Value) (cc : Addr) : ErrB (PySem.W.ksFn "__init__" "NotWhole.__init__" (defArgs sNotWhole) (defBody sNotWhole) (defScope sNotWhole) .none kV doc pm an cdv ct cc) ["first", "second"] :=
  ⟨fun s self us hl => match us, hl with | [_, _], _ => .of_eq rfl, fun s self us hl => match us, hl with | [_, _], _ => .of_eq rfl⟩
theorem it_InvalidText : InitT (defArgs sInvalidText) (defBody sInvalidText) (defScope sInvalidText) ["line", "word"] :=
  ⟨.inr ⟨"line", "word", _, _, _, _, _, _, _, _, _, _, _, _, _, _, _, rfl, fun env => ⟨_, rfl⟩, rfl⟩, rfl, rfl, rfl, by decide +kernel, by decide +kernel, by decide +kernel, by decide +kernel, ⟨_, rfl, rfl⟩, by decide +kernel, by decide +kernel⟩
theorem ib_InvalidText (kV doc pm : Value) (an : Option Addr) (cdv ct : Value) (cc : Addr) : ErrB (PySem.W.ksFn "__init__" "InvalidText.__init__" (defArgs sInvalidText) (defBody sInvalidText) (defScope sInvalidText) .none kV doc pm an cdv ct cc) ["line", "word"] :=
  ⟨fun s self us hl => match us, hl with | [_, _], _ => .of_eq rfl, fun s self us hl => match us, hl with | [_, _], _ => .of_eq rfl⟩
theorem it_UnknownCommand : InitT (defArgs sUnknownCommand) (defBody sUnknownCommand) (defScope sUnknownCommand) ["line"] :=
  ⟨.inl ⟨"line", _, _, _, _, _, _, _, _, _, _, rfl, fun env => ⟨_, rfl⟩, rfl⟩, rfl, rfl, rfl, by decide +kernel, by decide +kernel, by decide +kernel, by decide +kernel, ⟨_, rfl, rfl⟩, by decide +kernel, by decide +kernel⟩
theorem ib_UnknownCommand (kV doc pm : Value) (an : Option Addr) (cdv ct : Value) (cc : Addr) : ErrB (PySem.W.ksFn "__init__" "UnknownCommand.__init__" (defArgs sUnknownCommand) (defBody sUnknownCommand) (defScope sUnknownCommand) .none kV doc pm an cdv ct cc) ["line"] :=
  ⟨fun s self us hl => match us, hl with | [_], _ => .of_eq rfl, fun s self us hl => match us, hl with | [_], _ => .of_eq rfl⟩
theorem it_UnknownName : InitT (defArgs sUnknownName) (defBody sUnknownName) (defScope sUnknownName) ["name"] :=
  ⟨.inl ⟨"name", _, _, _, _, _, _, _, _, _, _, rfl, fun env => ⟨_, rfl⟩, rfl⟩, rfl, rfl, rfl, by decide +kernel, by decide +kernel, by decide +kernel, by decide +kernel, ⟨_, rfl, rfl⟩, by decide +kernel, by decide +kernel⟩
theorem ib_UnknownName (kV doc pm : Value) (an : Option Addr) (cdv ct : Value) (cc : Addr) : ErrB (PySem.W.ksFn "__init__" "UnknownName.__init__" (defArgs sUnknownName) (defBody sUnknownName) (defScope sUnknownName) .none kV doc pm an cdv ct cc) ["name"] :=
  ⟨fun s self us hl => match us, hl with | [_], _ => .of_eq rfl, fun s self us hl => match us, hl with | [_], _ => .of_eq rfl⟩
theorem it_UnknownOrder : InitT (defArgs sUnknownOrder) (defBody sUnknownOrder) (defScope sUnknownOrder) ["number"] :=
  ⟨.inl ⟨"number", _, _, _, _, _, _, _, _, _, _, rfl, fun env => ⟨_, rfl⟩, rfl⟩, rfl, rfl, rfl, by decide +kernel, by decide +kernel, by decide +kernel, by decide +kernel, ⟨_, rfl, rfl⟩, by decide +kernel, by decide +kernel⟩
theorem ib_UnknownOrder (kV doc pm : Value) (an : Option Addr) (cdv ct : Value) (cc : Addr) : ErrB (PySem.W.ksFn "__init__" "UnknownOrder.__init__" (defArgs sUnknownOrder) (defBody sUnknownOrder) (defScope sUnknownOrder) .none kV doc pm an cdv ct cc) ["number"] :=
  ⟨fun s self us hl => match us, hl with | [_], _ => .of_eq rfl, fun s self us hl => match us, hl with | [_], _ => .of_eq rfl⟩
theorem it_InvalidUndo : InitT (defArgs sInvalidUndo) (defBody sInvalidUndo) (defScope sInvalidUndo) ["count"] :=
  ⟨.inl ⟨"count", _, _, _, _, _, _, _, _, _, _, rfl, fun env => ⟨_, rfl⟩, rfl⟩, rfl, rfl, rfl, by decide +kernel, by decide +kernel, by decide +kernel, by decide +kernel, ⟨_, rfl, rfl⟩, by decide +kernel, by decide +kernel⟩
theorem ib_InvalidUndo (kV doc pm : Value) (an : Option Addr) (cdv ct : Value) (cc : Addr) : ErrB (PySem.W.ksFn "__init__" "InvalidUndo.__init__" (defArgs sInvalidUndo) (defBody sInvalidUndo) (defScope sInvalidUndo) .none kV doc pm an cdv ct cc) ["count"] :=
  ⟨fun s self us hl => match us, hl with | [_], _ => .of_eq rfl, fun s self us hl => match us, hl with | [_], _ => .of_eq rfl⟩
theorem it_Held : InitT (defArgs sHeld) (defBody sHeld) (defScope sHeld) ["deed"] :=
  ⟨.inl ⟨"deed", _, _, _, _, _, _, _, _, _, _, rfl, fun env => ⟨_, rfl⟩, rfl⟩, rfl, rfl, rfl, by decide +kernel, by decide +kernel, by decide +kernel, by decide +kernel, ⟨_, rfl, rfl⟩, by decide +kernel, by decide +kernel⟩
theorem ib_Held (kV doc pm : Value) (an : Option Addr) (cdv ct : Value) (cc : Addr) : ErrB (PySem.W.ksFn "__init__" "Held.__init__" (defArgs sHeld) (defBody sHeld) (defScope sHeld) .none kV doc pm an cdv ct cc) ["deed"] :=
  ⟨fun s self us hl => match us, hl with | [_], _ => .of_eq rfl, fun s self us hl => match us, hl with | [_], _ => .of_eq rfl⟩
theorem it_Unstill : InitT (defArgs sUnstill) (defBody sUnstill) (defScope sUnstill) ["amounts"] :=
  ⟨.inl ⟨"amounts", _, _, _, _, _, _, _, _, _, _, rfl, fun env => ⟨_, rfl⟩, rfl⟩, rfl, rfl, rfl, by decide +kernel, by decide +kernel, by decide +kernel, by decide +kernel, ⟨_, rfl, rfl⟩, by decide +kernel, by decide +kernel⟩
theorem ib_Unstill (kV doc pm : Value) (an : Option Addr) (cdv ct : Value) (cc : Addr) : ErrB (PySem.W.ksFn "__init__" "Unstill.__init__" (defArgs sUnstill) (defBody sUnstill) (defScope sUnstill) .none kV doc pm an cdv ct cc) ["amounts"] :=
  ⟨fun s self us hl => match us, hl with | [_], _ => .of_eq rfl, fun s self us hl => match us, hl with | [_], _ => .of_eq rfl⟩
theorem it_TooMany : InitT (defArgs sTooMany) (defBody sTooMany) (defScope sTooMany) ["count"] :=
  ⟨.inl ⟨"count", _, _, _, _, _, _, _, _, _, _, rfl, fun env => ⟨_, rfl⟩, rfl⟩, rfl, rfl, rfl, by decide +kernel, by decide +kernel, by decide +kernel, by decide +kernel, ⟨_, rfl, rfl⟩, by decide +kernel, by decide +kernel⟩
theorem ib_TooMany (kV doc pm : Value) (an : Option Addr) (cdv ct : Value) (cc : Addr) : ErrB (PySem.W.ksFn "__init__" "TooMany.__init__" (defArgs sTooMany) (defBody sTooMany) (defScope sTooMany) .none kV doc pm an cdv ct cc) ["count"] :=
  ⟨fun s self us hl => match us, hl with | [_], _ => .of_eq rfl, fun s self us hl => match us, hl with | [_], _ => .of_eq rfl⟩
theorem mkTxt {h : Heap} {w : World} {K : PySem.W.Frag} {mg : Str → Option Value} (X : K.In h) (G : h.Ns mainGlobals mg) (c : SaysE fa fn [] [] cl exB w h K) : Txt prog K mg := by
  have d := c.x.t.d
  have e := c.x.more
  obtain ⟨z0, e⟩ := He.ba e
  have al := allB_ok z0
  obtain ⟨z1, e⟩ := He.ba e
  obtain ⟨z2, e⟩ := He.ba e
  obtain ⟨z3, e⟩ := He.ba e
  obtain ⟨z4, e⟩ := He.ba e
  obtain ⟨z5, e⟩ := He.ba e
  obtain ⟨z6, e⟩ := He.ba e
  obtain ⟨z7, e⟩ := He.ba e
  obtain ⟨z8, e⟩ := He.ba e
  obtain ⟨z9, e⟩ := He.ba e
  obtain ⟨z10, e⟩ := He.ba e
  obtain ⟨z11, e⟩ := He.ba e
  obtain ⟨z12, e⟩ := He.ba e
  obtain ⟨z13, e⟩ := He.ba e
  obtain ⟨z14, e⟩ := He.ba e
  obtain ⟨z15, e⟩ := He.ba e
  obtain ⟨zo, zb⟩ := He.ba e
  exact ⟨al,
    He.glo_ok X G (d.fact 0 (f := .glo "LotError") rfl),
    He.glo_ok X G (d.fact 1 (f := .glo "InvalidLegs") rfl),
    He.glo_ok X G (d.fact 2 (f := .glo "InvalidStrategy") rfl),
    He.glo_ok X G (d.fact 3 (f := .glo "InvalidList") rfl),
    He.glo_ok X G (d.fact 4 (f := .glo "InvalidOrder") rfl),
    He.glo_ok X G (d.fact 5 (f := .glo "InvalidPrices") rfl),
    He.glo_ok X G (d.fact 6 (f := .glo "InvalidRound") rfl),
    He.glo_ok X G (d.fact 7 (f := .glo "NotWhole") rfl),
    He.glo_ok X G (d.fact 8 (f := .glo "InvalidText") rfl),
    He.glo_ok X G (d.fact 9 (f := .glo "UnknownCommand") rfl),
    He.glo_ok X G (d.fact 10 (f := .glo "UnknownName") rfl),
    He.glo_ok X G (d.fact 11 (f := .glo "UnknownOrder") rfl),
    He.glo_ok X G (d.fact 12 (f := .glo "InvalidUndo") rfl),
    He.glo_ok X G (d.fact 13 (f := .glo "Held") rfl),
    He.glo_ok X G (d.fact 14 (f := .glo "Unstill") rfl),
    He.glo_ok X G (d.fact 15 (f := .glo "TooMany") rfl),
    He.glo_ok X G (d.fact 16 (f := .glo "_law_pen") rfl),
    He.glo_ok X G (d.fact 17 (f := .glo "_law_draw") rfl),
    He.glo_ok X G (d.fact 18 (f := .glo "_law_pick") rfl),
    He.glo_ok X G (d.fact 19 (f := .glo "_law_thing") rfl),
    He.glo_ok X G (d.fact 20 (f := .glo "_law_made") rfl),
    He.glo_ok X G (d.fact 21 (f := .glo "_law_fields") rfl),
    He.glo_ok X G (d.fact 22 (f := .glo "_law_own") rfl),
    He.glo_ok X G (d.fact 23 (f := .glo "_law_bases") rfl),
    He.glo_ok X G (d.fact 24 (f := .glo "_law_due") rfl),
    He.glo_ok X G (d.fact 25 (f := .glo "law") rfl),
    He.free_ok X G (d.fact 26 (f := .free "len") rfl),
    He.free_ok X G (d.fact 27 (f := .free "repr") rfl),
    He.free_ok X G (d.fact 28 (f := .free "isinstance") rfl),
    He.free_ok X G (d.fact 29 (f := .free "int") rfl),
    He.free_ok X G (d.fact 30 (f := .free "abs") rfl),
    He.free_ok X G (d.fact 31 (f := .free "list") rfl),
    He.free_ok X G (d.fact 32 (f := .free "range") rfl),
    He.free_ok X G (d.fact 33 (f := .free "ValueError") rfl),
    He.free_ok X G (d.fact 34 (f := .free "KeyError") rfl),
    He.free_ok X G (d.fact 35 (f := .free "IndexError") rfl),
    He.free_ok X G (d.fact 36 (f := .free "LookupError") rfl),
    He.free_ok X G (d.fact 37 (f := .free "RuntimeError") rfl),
    He.free_ok X G (d.fact 38 (f := .free "OverflowError") rfl),
    d.def_ 0 (d := dD "_law_pen" 18) rfl,
    d.def_ 1 (d := dD "_law_draw" 19) rfl,
    d.def_ 2 (d := dD "_law_pick" 20) rfl,
    d.def_ 3 (d := dD "_law_thing" 21) rfl,
    d.def_ 4 (d := dD "_law_made" 22) rfl,
    d.def_ 5 (d := dD "_law_fields" 23) rfl,
    d.def_ 6 (d := dD "_law_own" 24) rfl,
    d.def_ 7 (d := dD "_law_bases" 25) rfl,
    d.def_ 8 (d := dD "_law_due" 26) rfl,
    d.def_ 9 (d := dD "law" 27) rfl,
    err_ok (P := prog) bfV z1 al (c.clo (List.mem_of_getElem? (i := 0) rfl)) it_InvalidLegs (by decide +kernel) ib_InvalidLegs,
    err_ok (P := prog) bfV z2 al (c.clo (List.mem_of_getElem? (i := 1) rfl)) it_InvalidStrategy (by decide +kernel) ib_InvalidStrategy,
    err_ok (P := prog) bfV z3 al (c.clo (List.mem_of_getElem? (i := 2) rfl)) it_InvalidList (by decide +kernel) ib_InvalidList,
    err_ok (P := prog) bfV z4 al (c.clo (List.mem_of_getElem? (i := 3) rfl)) it_InvalidOrder (by decide +kernel) ib_InvalidOrder,
    err_ok (P := prog) bfV z5 al (c.clo (List.mem_of_getElem? (i := 4) rfl)) it_InvalidPrices (by decide +kernel) ib_InvalidPrices,
    err_ok (P := prog) bfV z6 al (c.clo (List.mem_of_getElem? (i := 5) rfl)) it_InvalidRound (by decide +kernel) ib_InvalidRound,
    err_ok (P := prog) bfV z7 al (c.clo (List.mem_of_getElem? (i := 6) rfl)) it_NotWhole (by decide +kernel) ib_NotWhole,
    err_ok (P := prog) bfV z8 al (c.clo (List.mem_of_getElem? (i := 7) rfl)) it_InvalidText (by decide +kernel) ib_InvalidText,
    err_ok (P := prog) bfV z9 al (c.clo (List.mem_of_getElem? (i := 8) rfl)) it_UnknownCommand (by decide +kernel) ib_UnknownCommand,
    err_ok (P := prog) bfK z10 al (c.clo (List.mem_of_getElem? (i := 9) rfl)) it_UnknownName (by decide +kernel) ib_UnknownName,
    err_ok (P := prog) bfL z11 al (c.clo (List.mem_of_getElem? (i := 10) rfl)) it_UnknownOrder (by decide +kernel) ib_UnknownOrder,
    err_ok (P := prog) bfI z12 al (c.clo (List.mem_of_getElem? (i := 11) rfl)) it_InvalidUndo (by decide +kernel) ib_InvalidUndo,
    err_ok (P := prog) bfR z13 al (c.clo (List.mem_of_getElem? (i := 12) rfl)) it_Held (by decide +kernel) ib_Held,
    err_ok (P := prog) bfR z14 al (c.clo (List.mem_of_getElem? (i := 13) rfl)) it_Unstill (by decide +kernel) ib_Unstill,
    err_ok (P := prog) bfO z15 al (c.clo (List.mem_of_getElem? (i := 14) rfl)) it_TooMany (by decide +kernel) ib_TooMany,
    zo,
    zb⟩
theorem lawF {w : World} {h : Heap} {K : PySem.W.Frag} {mg : Str → Option Value} {f : Addr} (X : K.In h) (G : h.Ns mainGlobals mg) (hfa : mg ("law" : Str) = some (.ref f)) (c : SaysE fa fn [] [] cl exB w h K) :
    ∃ fd : FuncData, (∀ (s : Shared) (v : Value), BindsTo s fd ⟨[v], []⟩ [("_law_script", v)]) ∧ ∀ base : Heap, K.In base → base.Ns mainGlobals mg → FnG prog w K mg base CX0 4 f fd ["_law_script"] (spLaw K) := by
  have T := mkTxt X G c
  have e := hfa.symm.trans T.g_law
  cases e
  obtain ⟨fd, F⟩ := T.F_law
  exact ⟨fd, fun s v => FunD.bindsA (ps := ["_law_script"]) F (fun _ _ _ _ _ _ us hl => match us, hl with | [_], _ => rfl) s [v] rfl, fun base _ _ => ok_law T F⟩
end Kx
open PySem PySem.W PySem.Calls PyProof.Rows
theorem PySem.Challenge.cw_wholelots_k01_errors_holds : PySem.Challenge.rw_wholelots_k01_errors.Holds := by
  w_on; o_law
  refine HandSHeadRun.head_any (r := OpenLaw.row PySem.Challenge.rw_wholelots_k01_errors) (q := view (OpenLaw.row PySem.Challenge.rw_wholelots_k01_errors).prog [27]) (H := Kx.hk) (ob := Kx.ob) (M := 6000) (loose := Kx.loose)
    (d := HandSHeadRun.topDef (OpenLaw.row PySem.Challenge.rw_wholelots_k01_errors).prog 27) (kwd := []) Kx.ob_eq
    (by kernel_rfl) (fun s => by kernel_rfl) Kx.run (by kernel_rfl) (by kernel_rfl) (by kernel_rfl) (by rfl) (by first | assumption | decide +kernel) (by decide +kernel) ⟨rfl, rfl, rfl, rfl, rfl, by decide +kernel⟩ ?hw ?hc
  case hw => w_witness2
  case hc =>
    refine Xr.walkG (l := PySem.Challenge.rw_wholelots_k01_errors) (n := 63) (k := 4) (x := "_law_script") (CX := L2.CX0) rfl (by decide) (by kernel_rfl) ⟨rfl, by decide, by decide⟩ ?F (fun _ _ _ _ z => z)
    intro w mg fa h Y G hmg0
    obtain ⟨K, KX, c⟩ := Y
    have hmg : mg ("law" : PySem.Str) = some (.ref fa) := by
      have e : (HandSHeadRun.topDef (OpenLaw.row PySem.Challenge.rw_wholelots_k01_errors).prog 27).name = ("law" : PySem.Str) := by kernel_rfl
      rw [← e]
      exact hmg0
    obtain ⟨fd, hb, hF⟩ := Kx.lawF (w := w) KX G hmg c
    exact ⟨K, fd, Kx.spLaw K, KX, hb, fun H a ns hl _ hS => ⟨a, ns, rfl, hS, hl, fun _ => rfl⟩, hF⟩
