import PyProof.Rows.All
import Wide.All
import OpenK.AllK
import Wide.FinOn
import KE.KExcSuper
import HandS.ForMost
import HandS.Exc
import HandS.ExcInit
import HandS.Defaults
import HandS.ExcField
import HandS.IsInst
import KE.KExcIs
import HandS.HeadEnd
import HandS.Head0
import HandS.Head1
import HandS.Head2
import HandS.HeadHook1
import HandS.HeadHook2
import HandS.HeadHook3
import HandS.HeadHook4
import HandS.ClsMeth
import HandS.Star
import HandS.Property
import HandS.Records
import PyProof.InstNe
import HandS.SlotsOwn
import HandS.Nested
import HandS.DictComp
import HandS.Conv
import HandS.More
import HandS.HeadNt
import HandS.Wide
import HandS.WordsDict
import PyProof.Rows.RegStrFacts
import HandS.Text
import HandS.ListItems
import HandS.RaiseMore
import KE.KCallOwn
import HandS.MakeKwOnly
import KE.KParD
import HandS.TryOnly
import HandS.Lambda
import KE.KTryMore
import HandS.EndTab
import HandS.OwnEq
import PyProof.SliceSyntax
import PyProof.StrOps2
import HandS.FStr
import PyProof.RulesMatch
import HandS.Walk
import KE.KDictList
import HandS.GenList
import HandS.GenYield
import HandS.GenCall
import PySem.Challenge.RW_wholelots_k08_lists_refused
set_option Elab.async false
set_option linter.all false
set_option maxRecDepth 100000
set_option maxHeartbeats 4000000
namespace Xr
open PySem PySem.W PySem.Calls PyProof.Rows PySem.Spec
/-! KeyError, as the other bases -/
theorem keySuper : KxsFacts "KeyError" "KeyError.__init__" :=
  ⟨by show builtinType _ = _; rw [builtinType_eq_fast]; kernel_rfl, by first | kernel_rfl | rfl⟩
theorem keyBound : builtinKind "KeyError.__init__" = some .slot ∧ splitId "KeyError.__init__" = some ("KeyError", "__init__") := ⟨by kernel_rfl, by kernel_rfl⟩
theorem keyRow : Manifest.signature? "KeyError.__init__" = some ⟨.positional, "*", "KeyError", .self, [⟨"args", .varPos, false⟩]⟩ := by kernel_rfl
theorem keyEntry : entryFor table "KeyError.__init__" = some Builtin.«BaseException.__init__» :=
  entryFor_alias (id' := "BaseException.__init__") (by rw [fastTable_eq_tree]; kernel_rfl) (by first | rfl | decide +kernel)
    (by decide +kernel) (by rw [fastTable_eq_tree]; kernel_rfl)
theorem keyPlain : plainId "KeyError.__init__" = true := by decide +kernel
theorem keyMade : Bind.madeBy (.type "KeyError") = pure (some "LookupError.__new__") := by kernel_rfl
end Xr
set_option maxHeartbeats 4000000
namespace Xr
open PySem PySem.W PySem.Calls PyProof.Rows PySem.Spec
/-- one base of the errors: the class B whose __init__ is ini; its __new__ is nw, of the class N -/
structure BaseF (B ini N nw : String) (bmB : List Value) : Prop where
  f : ∃ i bm, ExcBaseFacts N nw i bm
  hN : bmB.contains (.type N) = true
  hB : bmB.contains (.type B) = true
  noA : bmB.contains (.type "AttributeError") = false
  noE : bmB.contains (.type "NameError") = false
  exc : bmB.contains (.type "BaseException") = true
  obj : bmB.contains (.type "object") = true
  k : KxsFacts B ini
  kind : builtinKind ini = some .slot
  row : Manifest.signature? ini = some ⟨.positional, "*", B, .self, [⟨"args", .varPos, false⟩]⟩
  entry : entryFor table ini = some Builtin.«BaseException.__init__»
  plain : plainId ini = true
  ns : (B != "*") = true
  pass : ∀ self : Value, refuseLoop self "__setattr__" bmB = pure ()
theorem of_facts {B ini nw : String} {bm : List Value} (F : ExcBaseFacts B nw ini bm) (k : KxsFacts B ini) (h : bm.contains (.type "object") = true) (p : ∀ self : Value, refuseLoop self "__setattr__" bm = pure ()) : BaseF B ini B nw bm :=
  ⟨⟨_, _, F⟩, F.hasB, F.hasB, F.noAttr, F.noName, F.hasBase, h, k, F.initKind, F.initRow, F.initEntry, F.init.plain, F.noStar, p⟩
abbrev tlV : List Value := [.type "ValueError", .type "Exception", .type "BaseException", .type "object"]
abbrev tlK : List Value := [.type "KeyError", .type "LookupError", .type "Exception", .type "BaseException", .type "object"]
abbrev tlL : List Value := [.type "LookupError", .type "Exception", .type "BaseException", .type "object"]
abbrev tlI : List Value := [.type "IndexError", .type "LookupError", .type "Exception", .type "BaseException", .type "object"]
abbrev tlR : List Value := [.type "RuntimeError", .type "Exception", .type "BaseException", .type "object"]
abbrev tlO : List Value := [.type "OverflowError", .type "ArithmeticError", .type "Exception", .type "BaseException", .type "object"]
theorem bfV : BaseF "ValueError" "ValueError.__init__" "ValueError" "ValueError.__new__" tlV := of_facts F.excBase_ValueError kxs_ValueError (by decide +kernel) fun _ => by kernel_rfl
theorem bfL : BaseF "LookupError" "LookupError.__init__" "LookupError" "LookupError.__new__" tlL := of_facts F.excBase_LookupError kxs_LookupError (by decide +kernel) fun _ => by kernel_rfl
theorem bfI : BaseF "IndexError" "IndexError.__init__" "IndexError" "IndexError.__new__" tlI := of_facts F.excBase_IndexError kxs_IndexError (by decide +kernel) fun _ => by kernel_rfl
theorem bfR : BaseF "RuntimeError" "RuntimeError.__init__" "RuntimeError" "RuntimeError.__new__" tlR := of_facts F.excBase_RuntimeError kxs_RuntimeError (by decide +kernel) fun _ => by kernel_rfl
theorem bfO : BaseF "OverflowError" "OverflowError.__init__" "OverflowError" "OverflowError.__new__" tlO := of_facts F.excBase_OverflowError kxs_OverflowError (by decide +kernel) fun _ => by kernel_rfl
theorem bfK : BaseF "KeyError" "KeyError.__init__" "LookupError" "LookupError.__new__" tlK :=
  ⟨⟨_, _, F.excBase_LookupError⟩, by decide +kernel, by decide +kernel, by decide +kernel, by decide +kernel, by decide +kernel, by decide +kernel, keySuper, keyBound.1, keyRow, keyEntry, keyPlain, by decide +kernel, fun _ => by kernel_rfl⟩

/-- the object of an error that has no dict yet | whose dict is at d -/
abbrev exOb (C t : Addr) (d : Option Addr) : Obj := { cls := .ref C, dict := d, data := .fields #[.ref t, .none, .none, .none, .bool false, .none] }
section
variable {M : Model} {A : Around} {E : Value → Shared → Prop} {h : Heap} {g : Array GenState} {d : Drawn} {t : Nat} {os : OsState}
variable {nm q : Str} {C NS : Addr} {bs bm bmB : List Value} {hdct : Bool} {sn : List Str} {sub : List Value} {ab : Bool} {col : Option Bool} {dd : Option Addr} {k0 k1 k2 k3 k5 : Option Value} {B ini N nw : String}
abbrev clO (nm q : Str) (C NS : Addr) (bs bm : List Value) (hdct : Bool) (sn : List Str) (sub : List Value) (ab : Bool) (col : Option Bool) (dd : Option Addr) (k0 k1 k2 k3 k5 : Option Value) (nw : String) : Obj :=
  excClassObj nm q C NS bs bm hdct sn sub ab col dd k0 k1 k2 k3 k5 nw
theorem chkNew {i : String} {bN : List Value} (F : ExcBaseFacts N nw i bN) (hb : bm.contains (.type N) = true) {rest : List Value} {kw : List (Str × Value)} {Q : Unit → Shared → Prop}
    (hC : h.get? C = some (clO nm q C NS bs bm hdct sn sub ab col dd k0 k1 k2 k3 k5 nw)) (hq : Q () ⟨h, g, d, t, os⟩) :
    wpAny M A (checkBuiltinCall nw ⟨.ref C :: rest, kw⟩) Q E ⟨h, g, d, t, os⟩ := by
  have hin : (Value.ref C :: bm).contains (.type N) = true := by rw [List.contains_cons, hb, Bool.or_true]
  have hs := F.noStar
  simp only [checkBuiltinCall, F.newKind, F.newSplit, F.newRow]
  repeat (first
    | refine wpAny_loadPart_at hC ?_
    | (refine wpAny_isSubtype_exc hC ?_; rw [hin])
    | refine wpAny_staticBase_exc hC ?_
    | refine wpAny_madeBy_exc hC ?_
    | simp only [bne_self_eq_false, Bool.false_eq_true, if_false]
    | wp_step)
  exact hq
end
section
variable {prog : Program} {w : World} {A : Around} {E : Value → Shared → Prop} {R : Result → Shared → Prop} {h : Heap} {g : Array GenState} {d : Drawn} {t : Nat} {os : OsState}
variable {nm q : Str} {C NS : Addr} {bs bm bmB : List Value} {hdct : Bool} {sn : List Str} {sub : List Value} {ab : Bool} {col : Option Bool} {dd : Option Addr} {k0 k1 k2 k3 k5 : Option Value} {B ini N nw : String}
theorem newRun {i : String} {bN : List Value} (F : ExcBaseFacts N nw i bN) (hB : bm.contains (.type N) = true) (hA : bm.contains (.type "AttributeError") = false) (hE : bm.contains (.type "NameError") = false)
    {rest : List Value} {kw : List (Str × Value)} (hC : h.get? C = some (clO nm q C NS bs bm hdct sn sub ab col dd k0 k1 k2 k3 k5 nw)) (hz : rest.length ≤ sizeLine)
    (hq : R (.ok (.ret (.ref (h.objs.size + 1)))) ⟨(h.push (kdv_tup rest)).push (exOb C h.objs.size none), g, d, t, os⟩) :
    codeAny (model prog w) A (.builtin nw ⟨.ref C :: rest, kw⟩) R ⟨h, g, d, t, os⟩ := by
  have he := F.ends
  have c1 : (Value.ref C :: bm).contains (.type N) = true := by rw [List.contains_cons, hB, Bool.or_true]
  have c2 : (Value.ref C :: bm).contains (.type "AttributeError") = false := by rw [List.contains_cons, hA]; rfl
  have c3 : (Value.ref C :: bm).contains (.type "NameError") = false := by rw [List.contains_cons, hE]; rfl
  refine codeAny_builtinAt F.entry ?_
  unfold Builtin.«BaseException.__new__»
  refine PySem.wpAt_bind ?_
  show PySem.wpAt _ _ _ (stack >>= _) _ _ _
  refine PySem.wpAt_bind (PySem.wpAt_stack fun p below => PySem.wpAt_of_wpAny ?_)
  wp_walk
  refine PySem.wpAt_of_wpAny ?_
  rw [F.owner]
  repeat (first
    | with_reducible refine wpAny_madeHere_exc F.canon hC ?_
    | with_reducible refine wpAny_loadPart_at hC ?_
    | (with_reducible refine wpAny_isSubtype_exc hC ?_; first | rw [c1] | rw [c2] | rw [c3])
    | wp_step)
  show R _ _
  rw [Heap.size_push]
  exact hq
theorem typeCall {i : String} {bN : List Value} (F : ExcBaseFacts N nw i bN) (hB : bm.contains (.type N) = true) (hA : bm.contains (.type "AttributeError") = false) (hE : bm.contains (.type "NameError") = false)
    {rest : List Value} {kw : List (Str × Value)} {fI : Addr} {Q : Fin → Shared → Prop} (hC : h.get? C = some (clO nm q C NS bs bm hdct sn sub ab col dd k0 k1 k2 k3 k5 nw))
    (hi : Looks (model prog w) h (typeLookup (.ref C) "__init__") (some (.ref fI))) (hb : ∀ self, Looks (model prog w) h (bindSpecial (.ref fI) self) (.ref fI, [self])) (hz : rest.length ≤ sizeLine)
    (hq : codeAny (model prog w) A (.call (.ref fI) ⟨.ref (h.objs.size + 1) :: rest, kw⟩)
      (fun r s' => match r with
        | .ok (.ret v) => v = .none ∧ Q (.done (.ret (.ref (h.objs.size + 1)))) s'
        | .ok _ => False
        | .error e => E e s')
      ⟨(h.push (kdv_tup rest)).push (exOb C h.objs.size none), g, d, t, os⟩) :
    wpAny (model prog w) A (Builtin.«type.__call__» ⟨.ref C :: rest, kw⟩) Q E ⟨h, g, d, t, os⟩ := by
  repeat (first
    | with_reducible refine wpAny_loadPart_at hC ?_
    | with_reducible refine wpAny_madeBy_exc hC ?_
    | wp_step)
  refine codeAny_call_builtin_code (Code.quiet_builtin _ F.quiet) (chkNew F hB hC ?_)
  refine newRun F hB hA hE hC hz ?_
  show wpAny _ _ _ _ _ _
  have k : ∀ b o, h.get? b = some o → ((h.push (kdv_tup rest)).push (exOb C h.objs.size none)).get? b = some o :=
    fun b o e => Heap.get?_push_of_some _ (Heap.get?_push_of_some _ e)
  have c1 := k _ _ hC
  have c2 : ((h.push (kdv_tup rest)).push (exOb C h.objs.size none)).get? (h.objs.size + 1) = some (exOb C h.objs.size none) := by heap_get
  have c3 : (Value.ref C :: bm).contains (.ref C) = true := by simp
  have i1 := hi.keeps k
  have b1 := (hb (.ref (h.objs.size + 1))).keeps k
  unfold isInstance
  repeat (first
    | with_reducible refine wpAny_loadPart_at c2 ?_
    | (with_reducible refine wpAny_isSubtype_exc c1 ?_; rw [c3])
    | wp_step)
  show wpAny _ _ (typeLookup (.ref C) _) _ _ _
  refine i1.at ?_
  refine wpAny_holding (wpAny_bind (b1.at ?_))
  refine wpAny_bind (wpAny_call (codeAny_mono hq fun r s' z => ?_))
  rcases r with e | (v | _ | _ | _) <;> first | exact z | exact z.elim | skip
  obtain ⟨rfl, z⟩ := z
  first
    | exact wpAny_pure (wpAny_pure z)
    | (wp_walk; exact z)
/-- C(..) for an error's class: __new__ lays the args and the object, then the own __init__ -/
theorem callOwn {i : String} {bN : List Value} (F : ExcBaseFacts N nw i bN) (hB : bm.contains (.type N) = true) (hA : bm.contains (.type "AttributeError") = false) (hE : bm.contains (.type "NameError") = false)
    {rest : List Value} {kw : List (Str × Value)} {fI : Addr} (hC : h.get? C = some (clO nm q C NS bs bm hdct sn sub ab col dd k0 k1 k2 k3 k5 nw))
    (hi : Looks (model prog w) h (typeLookup (.ref C) "__init__") (some (.ref fI))) (hb : ∀ self, Looks (model prog w) h (bindSpecial (.ref fI) self) (.ref fI, [self])) (hz : rest.length ≤ sizeLine)
    (hq : codeAny (model prog w) (A.under (.builtin "type.__call__" ⟨.ref C :: rest, kw⟩)) (.call (.ref fI) ⟨.ref (h.objs.size + 1) :: rest, kw⟩) (InitBack (h.objs.size + 1) R)
      ⟨(h.push (kdv_tup rest)).push (exOb C h.objs.size none), g, d, t, os⟩) :
    codeAny (model prog w) A (.call (.ref C) ⟨rest, kw⟩) R ⟨h, g, d, t, os⟩ := by
  have f1 := tc_lookup
  have f2 := tc_bind (.ref C)
  have hTy : (⟨h, g, d, t, os⟩ : Shared).TypeIs (.ref C) "type" := ⟨_, hC, rfl⟩
  refine codeAny_of_tree ?_
  show wpAny _ _ (callAny (.ref C) _) _ _ _
  repeat (any_goals (first
    | assumption
    | with_reducible refine wpAny_loadPart_at hC ?_
    | wp_step))
  refine ⟨rfl, ?_⟩
  refine codeAny_call_builtin_at (Code.quiet_builtin _ (by decide +kernel)) entry_typeCall (wpAny_check_type_call_sub hC (typeCall F hB hA hE hC hi hb hz ?_))
  refine codeAny_mono hq fun r s' z => ?_
  rcases r with e | (v | _ | _ | _) <;> exact z
end
end Xr
set_option maxHeartbeats 4000000
namespace Xr
open PySem PySem.W PySem.Calls PyProof.Rows PySem.Spec
section
open Builtin Builtin.ObjectAttr
variable {prog : Program} {w : World} {A : Around} {E : Value → Shared → Prop} {R : Result → Shared → Prop} {hp : Heap} {g : Array GenState} {d : Drawn} {t : Nat} {os : OsState}
/-- the way of object.__setattr__ on an error, to its own dict -/
theorem saWay {bmB : List Value} {K : Frag} {name : Str} {tk : Tok} {v : Value} {x C : Addr} {ox : Obj} {od : Option Obj} {cd : ClassData}
    (X : K.In hp) (I : InstAt hp x ox C od) (hcd : clsIn K C = some cd) (hm : excTail bmB cd.mro = true) (ho : bmB.contains (.type "object") = true) (hp0 : ∀ self : Value, refuseLoop self "__setattr__" bmB = pure ())
    (ha : findIn K (.ref C) name = some none)
    (hq : wpAny (model prog w) A.in1 (storeInOwnDict (.ref x) (.ref C) (.str name tk) name v false)
      (fun fin s' => match fin with
        | .done f => R (.ok f) s'
        | .again c' => c'.quiet = true ∧ codeAny (model prog w) A c' R s') (fun e s' => R (.error e) s') ⟨hp, g, d, t, os⟩) :
    codeAny (model prog w) A (.call (.builtin "object.__setattr__") ⟨[.ref x, .str name tk, v], []⟩) R ⟨hp, g, d, t, os⟩ := by
  have SF := F.store_object
  have hob : cd.mro.contains (.type "object") = true := (excTail_contains "object" _ hm).trans ho
  have hne : cd.mro.isEmpty = false := by
    cases q : cd.mro with
    | nil =>
      rw [q] at hob
      cases hob
    | cons a r => rfl
  have sub : Looks (model prog w) hp (isInstance (.ref x) (.type "object")) true :=
    I.type.andThen (looks_mroIn X (by unfold mroIn; rw [hcd, Option.bind_some, if_neg (by rw [hne]; decide), hob]))
  refine codeAny_call_builtin SF.slot.plain SF.entry (@check_slot (model prog w) _ _ ⟨hp, g, d, t, os⟩ "object.__setattr__" "object" "__setattr__" (.ref x)
    [.str name tk, v] [] _ SF.kind SF.split sub (SF.args (.ref x) (.str name tk) v) ?_)
  have hmr : Looks (model prog w) hp (mroOf (.ref C)) cd.mro := (looks_clsIn X hcd).andThen .now
  have L3 : Looks (model prog w) hp (storeTaker? none) none := .now
  rw [osa_eq, refuse_eq]
  refine wpAny_bind (wpAny_bind (I.type.at (wpAny_bind (hmr.at ?_))))
  rw [excTail_pass _ (hp0 _) _ hm]
  refine wpAny_pure (wpAny_bind (I.type.at ?_))
  exact wpAny_bind ((looks_findIn X ha).at (wpAny_bind (L3.at hq)))
/-- e.f = v, the first one: the dict is laid -/
theorem saNew {bmB : List Value} {K : Frag} {name : Str} {tk : Tok} {v : Value} {x C : Addr} {fv : Array Value} {cd : ClassData}
    (X : K.In hp) (hx : hp.get? x = some { cls := .ref C, data := .fields fv }) (hcd : clsIn K C = some cd) (hm : excTail bmB cd.mro = true) (ho : bmB.contains (.type "object") = true)
    (hp0 : ∀ self : Value, refuseLoop self "__setattr__" bmB = pure ()) (hh : cd.hasDict = true) (ha : findIn K (.ref C) name = some none)
    (hq : ∀ h' tk' dx, (∀ b o, b ≠ x → hp.get? b = some o → h'.get? b = some o) → hp.objs.size ≤ dx → dx ≠ x → h'.get? x = some { cls := .ref C, dict := some dx, data := .fields fv } →
      h'.Ns1 dx (fun y => if y = name then some v else none) → R (.ok (.ret .none)) ⟨h', g, d, tk', os⟩) :
    codeAny (model prog w) A (.call (.builtin "object.__setattr__") ⟨[.ref x, .str name tk, v], []⟩) R ⟨hp, g, d, t, os⟩ := by
  have I : InstAt hp x { cls := .ref C, data := .fields fv } C none := ⟨hx, rfl, rfl, trivial⟩
  have hxs : x ≠ hp.objs.size := Nat.ne_of_lt (Heap.lt_size hx)
  refine saWay X I hcd hm ho hp0 ha ?_
  have hcls : Looks (model prog w) hp (classData C) cd := looks_clsIn X hcd
  obtain ⟨nm, bs, mro, ns, qn, hd, sn, sb, ab, col, del⟩ := cd
  dsimp only at hh
  subst hh
  unfold storeInOwnDict ownDictForStores
  repeat (first
    | with_reducible refine HandSPX.store_in_new ?_ ?_
    | with_reducible refine wpAny_loadPart_at hx ?_
    | with_reducible refine hcls.at ?_
    | wp_step)
  · exact ⟨_, #[], _, (Heap.get?_update_ne _ _ _ _ hxs.symm).trans (Heap.get?_push_at rfl rfl), rfl, fun e he => absurd he (by simp), fun _ => rfl⟩
  · intro h' tk' hn' hs
    have h1 : (hp.push { cls := .type "dict", data := .dict #[] }).get? x = some { cls := .ref C, data := .fields fv } := Heap.get?_push_of_some _ hx
    refine hq h' tk' hp.objs.size (fun b o hb ho => ?_) (Nat.le_refl _) hxs.symm ?_ hn'
    · exact (hs.2 b (Nat.ne_of_lt (Heap.lt_size ho))).trans
        ((Heap.get?_update_ne _ _ _ _ hb).trans (Heap.get?_push_of_some _ ho))
    · exact (hs.2 x hxs).trans (Heap.get?_update_self _ h1 rfl)
/-- e.f = v, a further one -/
theorem saOld {bmB : List Value} {K : Frag} {name : Str} {tk : Tok} {v : Value} {x C dx : Addr} {fv : Array Value} {cd : ClassData} {m0 : Str → Option Value} {nl : List Str}
    (X : K.In hp) (hx : hp.get? x = some { cls := .ref C, dict := some dx, data := .fields fv }) (hns : hp.Ns1 dx m0) (hw : Within m0 nl) (hz : nl.length ≤ 1000)
    (hcd : clsIn K C = some cd) (hm : excTail bmB cd.mro = true) (ho : bmB.contains (.type "object") = true)
    (hp0 : ∀ self : Value, refuseLoop self "__setattr__" bmB = pure ()) (hh : cd.hasDict = true) (ha : findIn K (.ref C) name = some none)
    (hq : ∀ h' tk', (∀ b o, b ≠ dx → hp.get? b = some o → h'.get? b = some o) → h'.Ns1 dx (fun y => if y = name then some v else m0 y) → R (.ok (.ret .none)) ⟨h', g, d, tk', os⟩) :
    codeAny (model prog w) A (.call (.builtin "object.__setattr__") ⟨[.ref x, .str name tk, v], []⟩) R ⟨hp, g, d, t, os⟩ := by
  obtain ⟨oD, esD, epD, hoD, hdD, _⟩ := hns.count hw
  have I : InstAt hp x { cls := .ref C, dict := some dx, data := .fields fv } C (some oD) := ⟨hx, rfl, rfl, hoD⟩
  refine saWay X I hcd hm ho hp0 ha ?_
  have hcls : Looks (model prog w) hp (classData C) cd := looks_clsIn X hcd
  obtain ⟨nm, bs, mro, ns, qn, hd, sn, sb, ab, col, del⟩ := cd
  dsimp only at hh
  subst hh
  unfold storeInOwnDict ownDictForStores
  repeat (first
    | with_reducible refine OEX.store_in_old hns hw hz ?_
    | with_reducible refine wpAny_loadPart_at hx ?_
    | with_reducible refine hcls.at ?_
    | wp_step)
  intro h' tk' hn' hs
  exact hq h' tk' (fun b o hb ho => (hs.2 b hb).trans ho) hn'
end
section
variable {M : Model} {A : Around} {E : Value → Shared → Prop} {h : Heap} {g : Array GenState} {d : Drawn} {t : Nat} {os : OsState}
variable {nm q : Str} {C NS : Addr} {bs bm bmB : List Value} {hdct : Bool} {sn : List Str} {sub : List Value} {ab : Bool} {col : Option Bool} {dd : Option Addr} {k0 k1 k2 k3 k5 : Option Value} {B ini N nw : String}
theorem chkBound (T : BaseF B ini N nw bmB) {e : Addr} {oe : Obj} {rest : List Value} {Q : Unit → Shared → Prop}
    (hC : h.get? C = some (clO nm q C NS bs bm hdct sn sub ab col dd k0 k1 k2 k3 k5 nw)) (he : h.get? e = some oe) (hcls : oe.cls = .ref C) (hq : Q () ⟨h, g, d, t, os⟩) :
    wpAny M A (checkBoundCall ini ⟨.ref e :: rest, []⟩) Q E ⟨h, g, d, t, os⟩ := by
  have hshort := T.ns
  simp only [checkBoundCall, T.kind, T.row]
  repeat (first
    | (with_reducible refine wpAny_loadPart_at he ?_; rw [hcls])
    | with_reducible refine wpAny_loadPart_at hC ?_
    | wp_step)
  refine wpAny_onRaise ?_
  rw [show ∀ (a b : String) (n : Nat), Bind.check ⟨.positional, "*", B, .self, [⟨"args", .varPos, false⟩]⟩ a b n
    (List.map (fun x => x.fst) ({ pos := Value.ref e :: rest } : Args).kw) = pure () from fun a b n => check_star_args _ _ _ _ _ _]
  exact wpAny_pure hq
end
section
variable {prog : Program} {w : World} {A : Around} {E : Value → Shared → Prop} {h : Heap} {g : Array GenState} {d : Drawn} {t : Nat} {os : OsState}
variable {nm q : Str} {C NS : Addr} {bs bm bmB : List Value} {hdct : Bool} {sn : List Str} {sub : List Value} {ab : Bool} {col : Option Bool} {dd : Option Addr} {k0 k1 k2 k3 k5 : Option Value} {B ini N nw : String}
/-- the bound __init__ of the base, called -/
theorem callBound (T : BaseF B ini N nw bmB) {u e t0 : Addr} {dx : Option Addr} {rest : List Value} {Q : Value → Shared → Prop}
    (hC : h.get? C = some (clO nm q C NS bs bm hdct sn sub ab col dd k0 k1 k2 k3 k5 nw)) (he : h.get? e = some (exOb C t0 dx)) (hu : h.get? u = some (kxs_mw ini e)) (hz : rest.length ≤ sizeLine)
    (hq : ∀ h' t1, (∀ b o, b ≠ e → h.get? b = some o → h'.get? b = some o) → h'.get? e = some (exOb C t1 dx) → Q .none ⟨h', g, d, t, os⟩) :
    wpAny (model prog w) A (call (.ref u) rest) Q E ⟨h, g, d, t, os⟩ := by
  refine wpAny_call (codeAny_of_tree ?_)
  show wpAny _ A.in1 (callAny (.ref u) ⟨rest, []⟩) _ _ _
  simp only [callAny]
  refine wpAny_bind (wpAny_load hu ?_)
  have z1 : (Value.type "method-wrapper" == Value.type "method" || Value.type "method-wrapper" == Value.type "builtin_function_or_method" || Value.type "method-wrapper" == Value.type "method-wrapper") = true := by decide
  simp only [kxs_mw, z1, if_true]
  refine KFB.if_so (by decide) ?_
  refine wpAny_bind (chkBound T hC he rfl ?_)
  refine wpAny_bind (wpAny_pure (wpAny_pure ?_))
  refine ⟨plainId_quiet T.plain _, codeAny_builtin T.entry ?_⟩
  exact exc_init_tree (cls := .ref C) (t0 := t0) (dv := dx) (c2 := .none) (c3 := .none) (b4 := .bool false) he hz fun h' k1 k2 _ => hq h' _ k1 k2
end
end Xr
set_option maxHeartbeats 4000000
namespace Xr
open PySem PySem.W PySem.Calls PyProof.Rows PySem.Spec
abbrev supCall (p0 p1 p2 p4 : Pos) (es : List Expr) : Expr := .Call (.Attribute (.Call (.Name "super" p0) [] [] p1) "__init__" p2) es [] p4
abbrev selfSt (f : Str) (p6 p7 p8 p9 : Pos) : Stmt := .Assign [.Attribute (.Name "self" p6) f p7] (.Name f p8) p9
/-- how super().__init__(es) is evaluated -/
def SupEv (p0 p1 p2 p4 : Pos) (es : List Expr) : Prop := ∀ env : Env, ∃ pl : Sem Bool, eval (supCall p0 p1 p2 p4 es) env = (do
  let ov ← attributeBase (.Call (.Name "super" p0) [] [] p1) "__init__" env (eval (.Call (.Name "super" p0) [] [] p1) env)
  standAt p2.atName
  let (f, first) ← holding [ov] (getMethod ov "__init__" pl)
  callWith p4 f first (backTo p4 (starEach es env)) [])
/-- the text of an error's __init__ -/
def InitBody (body : List Stmt) (fs : List Str) : Prop :=
  (∃ f p0 p1 p2 p3 p4 p5 p6 p7 p8 p9, fs = [f] ∧ SupEv p0 p1 p2 p4 [.Name f p3] ∧ body = [.Expr (supCall p0 p1 p2 p4 [.Name f p3]) p5, selfSt f p6 p7 p8 p9]) ∨
  ∃ f k p0 p1 p2 p3 p4 p5 p6 p7 p8 p9 q3 q6 q7 q8 q9, fs = [f, k] ∧ SupEv p0 p1 p2 p4 [.Name f p3, .Name k q3] ∧ body = [.Expr (supCall p0 p1 p2 p4 [.Name f p3, .Name k q3]) p5, selfSt f p6 p7 p8 p9, selfSt k q6 q7 q8 q9]
structure InitT (args : Arguments) (body : List Stmt) (sc : Scope) (fs : List Str) : Prop where
  body : InitBody body fs
  kind : sc.kind = .function
  co : sc.isCoroutine = false
  gen : sc.isGenerator = false
  cell : ∀ x ∈ sc.names, x.2 ≠ .cell
  sup : sc.names.lookup ("super" : Str) = some .globalImplicit
  cls : sc.names.lookup ("__class__" : Str) = some .free
  loc : ∀ f ∈ ("self" : Str) :: fs, sc.names.lookup f = some .local
  par : ∃ ar, (args.posonlyargs ++ args.args).head? = some ar ∧ ar.arg = "self"
  nd : (("self" : Str) :: fs).Nodup
  nde : ∀ f ∈ ("self" : Str) :: fs, (f == ("__debug__" : Str)) = false
structure ErrC (P : Program) (K : Frag) (C fI : Addr) (fd : FuncData) (fs : List Str) : Prop where
  ex : ∃ B ini N nw bmB, BaseF B ini N nw bmB ∧ excInitIn K C bmB nw = true ∧ ks_superIn K C C "__init__" = some (some (.builtin ini)) ∧ subIn K (.ref C) (.type B) = some true
  dct : (clsIn K C).map (·.hasDict) = some true
  sa : findIn K (.ref C) "__setattr__" = some (some (.builtin "object.__setattr__"))
  iC : findIn K (.ref C) "__init__" = some (some (.ref fI))
  tI : typeIn K (.ref fI) = some (.type "function")
  fn : ∃ q params body scope kV doc pm an cda ct cc oc od osl, fd = ksFn "__init__" q params body scope .none kV doc pm an (.ref cda) ct cc ∧ K.lookup fI = some ⟨oc, od, .func fd, osl⟩ ∧ InitT params body scope fs ∧ codeIn K (.ref cda) q = true ∧
    (∃ cl cld csl, K.lookup cc = some ⟨cl, cld, .cell (some (.ref C)), csl⟩) ∧ ∃ ccl cdd vs ccs tf, K.lookup cda = some ⟨ccl, cdd, .fields vs, ccs⟩ ∧ vs[2]? = some (.str P.main.file tf)
  opq : nsIn K cStatics "thirdparty.any" = some none
  sup : nsIn K mainGlobals "super" = some none
  top : (P.main.scope.names.lookup ("super" : Str)).isSome = false
  no : ∀ f ∈ fs, findIn K (.ref C) f = some none
  exc : subIn K (.ref C) (.type "BaseException") = some true
  typ : typeIn K (.ref C) = some (.type "type")
  keep : keepIn K (.ref C) = true

section
variable {prog : Program} {w : World} {A : Around} {E : Value → Shared → Prop} {K : Frag} {mg : Str → Option Value} {base : Heap} {C fI cda cc : Addr}
theorem bootSuper : bootBuiltins "super" = some (.type "super") := by decide +kernel
/-- super().__init__ in an error's __init__: the receiver's way -/
theorem supBase {s : Shared} {body body' : List Stmt} {name q q' : Str} {args : Arguments} {sc : Scope} {L e t0 : Addr} {m : Str → Option Value} {oc ccl cl kV doc pm ct : Value} {an od cdd cld : Option Addr} {osl ccs csl : Array (Option Value)} {vs : Array Value} {tf : Tok} {p0 p1 : Pos} {whole : Sem Value} {Q : Value → Shared → Prop} {dx : Option Addr}
    {fs : List Str} (T : InitT args body' sc fs) (M : L2.Mod K mg base) (st : ∀ b o, base.get? b = some o → s.heap.get? b = some o) (hns : s.heap.Ns L m) (hm : m "self" = some (.ref e)) (he : s.heap.get? e = some (exOb C t0 dx))
    (hf : K.lookup fI = some ⟨oc, od, .func (ksFn name q args body' sc .none kV doc pm an (.ref cda) ct cc), osl⟩) (hc : K.lookup cda = some ⟨ccl, cdd, .fields vs, ccs⟩) (hv : vs[2]? = some (.str prog.main.file tf))
    (hcell : K.lookup cc = some ⟨cl, cld, .cell (some (.ref C)), csl⟩) {cd : ClassData} (hC : clsIn K C = some cd) (hsub : subIn K (.ref C) (.ref C) = some true) (hsup : nsIn K mainGlobals "super" = some none) (htop : (prog.main.scope.names.lookup ("super" : Str)).isSome = false)
    (h : ∀ h', h'.get? s.heap.objs.size = some (ks_superObj C e C) → (∀ b o, s.heap.get? b = some o → h'.get? b = some o) → Q (.ref s.heap.objs.size) { s with heap := h' }) :
    PySem.wpAt (model prog w) A (.func body (ksEnv q' sc L fI (.ref cda) cc)) (attributeBase (.Call (.Name "super" p0) [] [] p1) "__init__" (ksEnv q' sc L fI (.ref cda) cc) whole) Q E s := by
  have X : K.In s.heap := M.kin.keeps st
  obtain ⟨ar, ha, hn⟩ := T.par
  obtain ⟨hh, g, d, t, os⟩ := s
  obtain ⟨oD, hD1, hD2⟩ : ∃ oD, hh.get? C = some oD ∧ oD.data = .cls cd := by
    unfold clsIn at hC
    split at hC
    · rename_i c d cd' sl ho
      cases hC
      exact ⟨_, X _ _ ho, rfl⟩
    · cases hC
  obtain ⟨mb, hb, hbv⟩ := M.blt
  refine ks_wpAt_super_base (env := ksEnv q' sc L fI (.ref cda) cc) T.sup T.cls (by decide) rfl (X _ _ hf) rfl ha rfl (X _ _ hc) rfl hv (by simp) htop ?_
  refine ks_loadName_global T.kind T.sup (loadGlobal_builtin (env := ksEnv q' sc L fI (.ref cda) cc) (M.glob.keeps st) (mg_none_of M.kin M.glob hsup) (hb.keeps st) ((hbv _ (by decide +kernel)).trans bootSuper) ⟨rfl, ?_⟩)
  refine wpAny_loadName_free T.kind T.cls rfl ⟨_, X _ _ hcell, rfl⟩ ?_
  refine wpAny_loadName_local T.kind (by rw [hn]; exact T.loc _ (List.mem_cons_self ..)) hns (by rw [hn]; exact hm) ?_
  refine ks_wpAny_isType_cls hD1 hD2 ⟨rfl, ?_⟩
  exact ks_wpAny_call_super hD1 hD2 he rfl (fun c z => by cases z) (looks_subIn X hsub) fun h' z k => h h' z k
/-- the run of super().__init__(us) behind its receiver -/
theorem supCallRun {s : Shared} {nm q : Str} {NS e so t0 : Addr} {bs bm bmB : List Value} {hdct : Bool} {sn : List Str} {sub : List Value} {ab : Bool} {col : Option Bool} {dd : Option Addr} {k0 k1 k2 k3 k5 : Option Value} {B ini N nw : String}
    {env : Env} {pos : Pos} {e1 : Expr} {es : List Expr} {us : List Value} {pl : Sem Bool} {Q : Value → Shared → Prop} (T : BaseF B ini N nw bmB) (X : K.In s.heap) (hs : s.heap.get? so = some (ks_superObj C e C)) (he : s.heap.get? e = some (exOb C t0 none))
    (hC : s.heap.get? C = some (clO nm q C NS bs bm hdct sn sub ab col dd k0 k1 k2 k3 k5 nw)) (hne : e ≠ C) (hsup : ks_superIn K C C "__init__" = some (some (.builtin ini))) (hB : subIn K (.ref C) (.type B) = some true) (hop : nsIn K cStatics "thirdparty.any" = some none)
    (hz : us.length ≤ sizeLine)
    (hev : ∀ (h' : Heap) (tk : Nat) (Q' : List Value → Shared → Prop), (∀ b o, s.heap.get? b = some o → h'.get? b = some o) → (∀ tk', Q' us { s with heap := h', toks := tk' }) → wpAny (model prog w) A (spliced (backTo pos (starEach (e1 :: es) env))) Q' E { s with heap := h', toks := tk })
    (hq : ∀ h' t1 tk, (∀ b o, b ≠ e → s.heap.get? b = some o → h'.get? b = some o) → h'.get? e = some (exOb C t1 none) → Q .none { s with heap := h', toks := tk })
    (hst : starEach (e1 :: es) env = (false, eval e1 env) :: starEach es env := by rfl) (hpl : (backTo pos (starEach es env)).any (·.1) = false := by rfl) :
    wpAny (model prog w) A (getMethod (.ref so) "__init__" pl) (fun fx s2 => wpAny (model prog w) A (callWith pos fx.1 fx.2 (backTo pos (starEach (e1 :: es) env)) []) Q E s2) E s := by
  have hI : Looks (model prog w) s.heap (isInstance (.ref e) (.type B)) true := (show InstAt s.heap e (exOb C t0 none) C none from ⟨he, rfl, rfl, trivial⟩).type.andThen (looks_subIn X hB)
  obtain ⟨hh, g, d, t, os⟩ := s
  cases hc : clsIn K C with
  | none =>
    unfold ks_superIn at hsup
    rw [hc] at hsup
    cases hsup
  | some cd =>
    unfold ks_superIn at hsup
    rw [hc] at hsup
    refine kxs_getMethod T.k hs (looks_opaque X hop) (l₀ := cd.mro) (fun A Q E s k z => wpAny_bind ((looks_clsIn X hc) A _ E s k (wpAny_pure z))) rfl X hsup hI hne (by decide) ?_
    have k1 : ∀ b o, hh.get? b = some o → (hh.push (kxs_mw ini e)).get? b = some o := fun b o z => Heap.get?_push_of_some _ z
    have ku : (hh.push (kxs_mw ini e)).get? hh.objs.size = some (kxs_mw ini e) := Heap.get?_push_at rfl rfl
    rw [hst]
    refine kxs_callWith (i := ini) (x := e) (by show (false || (backTo pos (starEach es env)).any (·.1)) = false; rw [hpl]; rfl) ?_
    refine evalArgs_plain ?_
    have hev' := hev (hh.push (kxs_mw ini e)) (t + 1)
    rw [hst] at hev'
    refine hev' _ k1 fun tk' => ⟨ku, ?_⟩
    refine callBound T (k1 _ _ hC) (k1 _ _ he) ku hz fun h' t1 k2 z => ?_
    exact hq h' t1 tk' (fun b o hb ho => k2 b o hb (k1 b o ho)) z
end
end Xr
set_option maxHeartbeats 4000000
namespace Xr
open PySem PySem.W PySem.Calls PyProof.Rows PySem.Spec
section
variable {prog : Program} {w : World} {A : Around} {E : Value → Shared → Prop} {K : Frag} {mg : Str → Option Value} {base : Heap} {C fI cda cc : Addr}
theorem ldN {s : Shared} {q : Str} {sc : Scope} {L : Addr} {cd : Value} {x : Str} {p : Pos} {m : Str → Option Value} {v : Value} {Q : Value → Shared → Prop} (hk : sc.kind = .function) (hl : sc.names.lookup x = some .local)
    (hn : s.heap.Ns L m) (hv : m x = some v) (hd : (x == ("__debug__" : Str)) = false) (h : Q v s) : wpAny (model prog w) A (eval (.Name x p) (ksEnv q sc L fI cd cc)) Q E s :=
  wpAny_Name (wpAny_loadName_local hk hl hn hv h) hd
/-- an error whose fields are being stored -/
structure Got (base : Heap) (s0 : Heap) (C L e : Addr) (m : Str → Option Value) (h : Heap) : Prop where
  keep : ∀ b o, b ≠ e → s0.get? b = some o → h.get? b = some o
  ns : h.Ns L m
  big : s0.objs.size ≤ h.objs.size
theorem clsOf {C : Addr} {bmB : List Value} {nw : String} (h : excInitIn K C bmB nw = true) (d : (clsIn K C).map (·.hasDict) = some true) : ∃ cd, clsIn K C = some cd ∧ excTail bmB cd.mro = true ∧ cd.hasDict = true := by
  unfold excInitIn at h
  unfold clsIn at d ⊢
  split at h
  · rename_i dd cd sl ho
    split at h
    · rename_i C' bm k0 k1 k2 k3 n k5 hm hs
      simp only [Bool.and_eq_true, beq_iff_eq, Bool.not_eq_true'] at h
      rw [ho] at d ⊢
      refine ⟨cd, rfl, ?_, Option.some.inj d⟩
      rw [hm]
      exact h.2
    · cases h
  · cases h
theorem setFirst {s : Shared} {fd : FuncData} {fs : List Str} {e t0 : Addr} {f : Str} {v : Value} {Q : Unit → Shared → Prop} (T : ErrC prog K C fI fd fs) (X : K.In s.heap) (he : s.heap.get? e = some (exOb C t0 none)) (hf : f ∈ fs)
    (h : ∀ h' tk dx, (∀ b o, b ≠ e → s.heap.get? b = some o → h'.get? b = some o) → s.heap.objs.size ≤ dx → dx ≠ e → h'.get? e = some (exOb C t0 (some dx)) → h'.Ns1 dx (fun y => if y = f then some v else none) → Q () { s with heap := h', toks := tk }) :
    wpAny (model prog w) A (setAttr (.ref e) f v) Q E s := by
  obtain ⟨B, ini, N, nw, bmB, b, hi, hsu, hsb⟩ := T.ex
  obtain ⟨cd, hcd, hm, hh⟩ := clsOf hi T.dct
  obtain ⟨hp, g, d, t, os⟩ := s
  refine set_plain X (ox := exOb C t0 none) (od := none) ⟨he, rfl, rfl, trivial⟩ T.sa ?_
  exact saNew X he hcd hm b.obj b.pass hh (T.no f hf) fun h' tk dx k1 k2 k3 k4 k5 => h h' tk dx k1 k2 k3 k4 k5
theorem setNext {s : Shared} {fd : FuncData} {fs nl : List Str} {e t0 dx : Addr} {f : Str} {v : Value} {m0 : Str → Option Value} {Q : Unit → Shared → Prop} (T : ErrC prog K C fI fd fs) (X : K.In s.heap) (he : s.heap.get? e = some (exOb C t0 (some dx))) (hf : f ∈ fs)
    (hn : s.heap.Ns1 dx m0) (hw : Within m0 nl) (hz : nl.length ≤ 1000)
    (h : ∀ h' tk, (∀ b o, b ≠ dx → s.heap.get? b = some o → h'.get? b = some o) → h'.Ns1 dx (fun y => if y = f then some v else m0 y) → Q () { s with heap := h', toks := tk }) :
    wpAny (model prog w) A (setAttr (.ref e) f v) Q E s := by
  obtain ⟨B, ini, N, nw, bmB, b, hi, hsu, hsb⟩ := T.ex
  obtain ⟨cd, hcd, hm, hh⟩ := clsOf hi T.dct
  obtain ⟨oD, _, _, hoD, _, _⟩ := hn.count hw
  obtain ⟨hp, g, d, t, os⟩ := s
  refine set_plain X (ox := exOb C t0 (some dx)) (od := some oD) ⟨he, rfl, rfl, hoD⟩ T.sa ?_
  exact saOld X he hn hw hz hcd hm b.obj b.pass hh (T.no f hf) fun h' tk k1 k2 => h h' tk k1 k2
theorem kLt {s : Heap} {b c : Addr} {o : Obj} (h : s.get? b = some o) (hc : s.objs.size ≤ c) : b ≠ c := Nat.ne_of_lt (Nat.lt_of_lt_of_le (Heap.lt_size h) hc)
/-- an error's __init__ runs: its fields are told -/
theorem initRun {s : Shared} {R : Result → Shared → Prop} {fd : FuncData} {fs : List Str} {e t0 : Addr} {args : Args} {us : List Value} (T : ErrC prog K C fI fd fs) (M : L2.Mod K mg base) (st : ∀ b o, base.get? b = some o → s.heap.get? b = some o) (nb : base.get? e = none)
    (he : s.heap.get? e = some (exOb C t0 none)) (hroom : A.depth < recursionLimit) (hl : us.length = fs.length) (hb : BindsTo s fd args ((("self" : Str), Value.ref e) :: fs.zip us))
    (hR : ∀ h' tk dx t1 mA, (∀ b o, b ≠ e → s.heap.get? b = some o → h'.get? b = some o) → s.heap.objs.size ≤ dx → dx ≠ e → h'.get? e = some (exOb C t1 (some dx)) → h'.Ns1 dx mA → (∀ y, mA y = (fs.zip us).lookup y) → R (.ok (.ret .none)) { s with heap := h', toks := tk }) :
    codeAny (model prog w) A (.call (.ref fI) args) R s := by
  obtain ⟨q, params, body, scope, kV, doc, pm, an, cda, ct, cc, oc, od, osl, rfl, lk, I, hcode, ⟨cl, cld, csl, hcell⟩, ccl, cdd, vs, ccs, tf, hcda, hvs⟩ := T.fn
  obtain ⟨B, ini, N, nw, bmB, b, hi, hsu, hsb⟩ := T.ex
  obtain ⟨cd, hcd, hm, hh⟩ := clsOf hi T.dct
  have hsub : subIn K (.ref C) (.ref C) = some true := by
    unfold subIn
    show mroIn K C (.ref C) = some true
    unfold mroIn
    rw [hcd, Option.bind_some]
    unfold excInitIn at hi
    unfold clsIn at hcd
    split at hi
    · rename_i dd cd2 sl ho
      rw [ho] at hcd
      cases hcd
      split at hi
      · rename_i C' bm k0 k1 k2 k3 n k5 hm2 hs2
        simp only [Bool.and_eq_true, beq_iff_eq] at hi
        rw [hm2, hi.1.1.1]
        simp
      · cases hi
    · cases hi
  have X0 : K.In s.heap := M.kin.keeps st
  have neC : e ≠ C := fun z => by
    have z1 := he
    rw [z] at z1
    obtain ⟨oc2, hoc2⟩ : ∃ o, K.lookup C = some o := by
      unfold clsIn at hcd
      split at hcd
      · rename_i c d cd' sl ho
        exact ⟨_, ho⟩
      · cases hcd
    have z2 := M.kin _ _ hoc2
    rw [← z, nb] at z2
    cases z2
  have hloc : ∀ y ∈ (("self" : Str), Value.ref e) :: fs.zip us, scope.names.lookup y.1 = some .local := fun y hy => by
    rcases List.mem_cons.mp hy with rfl | hy
    · exact I.loc _ (List.mem_cons_self ..)
    · exact I.loc _ (List.mem_cons_of_mem _ (List.of_mem_zip (show (y.1, y.2) ∈ fs.zip us from hy)).1)
  refine ks_codeAny_call_defAt (fd := ksFn "__init__" q params body scope .none kV doc pm an (.ref cda) ct cc) (body := body) (binds := (("self" : Str), Value.ref e) :: fs.zip us)
    hroom (X0 _ _ lk) rfl (M.nolimit.keeps st) (codeRec_of X0 hcode) rfl hb I.cell hloc (fun h0 hns k0 => ?_) I.co I.gen I.kind
  show PySem.wpAt _ _ (.func body (ksEnv q scope s.heap.objs.size fI (.ref cda) cc)) (execs body (ksEnv q scope s.heap.objs.size fI (.ref cda) cc)) _ _ _
  have Ll : ∀ {b : Addr} {o : Obj}, s.heap.get? b = some o → b ≠ s.heap.objs.size := fun z => kLt z (Nat.le_refl _)
  have eL : s.heap.objs.size ≠ e := (Ll he).symm
  have big0 : s.heap.objs.size ≤ h0.objs.size := Nat.le_of_lt hns.lt
  have hself : ∀ (l : List (Str × Value)), (∀ y ∈ l, y.1 ≠ ("self" : Str)) → (((("self" : Str), Value.ref e) :: l).reverse.lookup ("self" : Str)) = some (Value.ref e) := fun l hl => by
    rw [List.reverse_cons, List.lookup_append]
    have z : l.reverse.lookup ("self" : Str) = none := by
      rw [List.lookup_eq_none_iff]
      intro y hy
      have := hl y (List.mem_reverse.mp hy)
      simpa [beq_eq_false_iff_ne] using fun z => this z.symm
    rw [z]
    simp [List.lookup]
  have base0 : ∀ (h : Heap), (∀ b o, b ≠ e → h0.get? b = some o → h.get? b = some o) → ∀ b o, base.get? b = some o → h.get? b = some o := fun h k b o z =>
    k b o (fun y => by rw [y, nb] at z; cases z) (k0 b o (st b o z))
  rcases I.body with ⟨f, p0, p1, p2, p3, p4, p5, p6, p7, p8, p9, rfl, ev, rfl⟩ | ⟨f, k, p0, p1, p2, p3, p4, p5, p6, p7, p8, p9, q3, q6, q7, q8, q9, rfl, ev, rfl⟩
  · obtain ⟨u, rfl⟩ : ∃ u, us = [u] := match us, hl with | [u], _ => ⟨u, rfl⟩
    have nsf : f ≠ ("self" : Str) := fun z => (List.nodup_cons.mp I.nd).1 (by rw [z]; exact List.mem_cons_self ..)
    have m1 : ((("self" : Str), Value.ref e) :: List.zip [f] [u]).reverse.lookup ("self" : Str) = some (Value.ref e) := hself _ fun y hy => by
      rcases List.mem_cons.mp hy with rfl | hy
      · exact nsf
      · cases hy
    have m2 : ((("self" : Str), Value.ref e) :: List.zip [f] [u]).reverse.lookup f = some u := by simp [List.lookup]
    have lf := I.loc f (List.mem_cons_of_mem _ (List.mem_cons_self ..))
    have ls := I.loc _ (List.mem_cons_self (a := ("self" : Str)) (l := [f]))
    have df := I.nde f (List.mem_cons_of_mem _ (List.mem_cons_self ..))
    have ds := I.nde _ (List.mem_cons_self (a := ("self" : Str)) (l := [f]))
    have hint : interactive (ksEnv q scope s.heap.objs.size fI (.ref cda) cc) = false := by
      unfold interactive
      simp [I.kind]
    obtain ⟨pl, hpl⟩ := ev (ksEnv q scope s.heap.objs.size fI (.ref cda) cc)
    refine ks_wpAt_execs_cons (ks_wpAt_Expr_any (hi := hint) (ks_wpAt_MethodCall (he := hpl) (supBase I M (base0 h0 fun b o _ z => z) hns m1 (k0 _ _ he) lk hcda hvs hcell hcd hsub T.sup T.top (fun h1 hs1 k1 => ?_))))
    have X1 : K.In h1 := M.kin.keeps (base0 h1 fun b o _ z => k1 b o z)
    obtain ⟨nm, NS, qn, bs, bm, hdct, sn, sub, ab, col, dd, c0, c1, c2, c3, c5, hC, hT⟩ := excInit_of X1 hi
    refine supCallRun (us := [u]) b X1 hs1 (k1 _ _ (k0 _ _ he)) hC neC hsu hsb T.opq (by show 1 ≤ sizeLine; decide) (fun h2 tk Q' k2 z => ?_) (fun h2 t1 tk k2 z => ?_)
    · exact spliced_more (ldN I.kind lf (hns.at fun o y => k2 _ _ (k1 _ _ y)) m2 df (spliced_none (z _)))
    have kk : ∀ b o, b ≠ e → h0.get? b = some o → h2.get? b = some o := fun b o hb y => k2 b o hb (k1 b o y)
    refine PySem.wpAt_of_wpAny (wpAny_execs_cons (plainObj_wpAny_Assign_Attribute (ldN I.kind lf (hns.at fun o y => kk _ _ eL y) m2 df (ldN I.kind ls (hns.at fun o y => kk _ _ eL y) m1 ds ?_)) (by rfl)))
    refine setFirst T (M.kin.keeps (base0 h2 kk)) z (List.mem_cons_self ..) fun h3 tk3 dx k3 g1 g2 g3 g4 => ?_
    refine wpAny_execs_nil ?_
    have bz : s.heap.objs.size ≤ h2.objs.size := Nat.le_of_lt ((hns.at fun o y => kk _ _ eL y).lt)
    refine hR h3 _ dx t1 _ (fun b o hb y => k3 b o hb (kk b o hb (k0 b o y))) (Nat.le_trans bz g1) g2 g3 g4 fun y => ?_
    by_cases hy : y = f
    · rw [if_pos hy, hy]
      simp [List.lookup]
    · rw [if_neg hy]
      have z2 : (y == f) = false := beq_eq_false_iff_ne.mpr hy
      simp [List.lookup, z2]
  · obtain ⟨u, v, rfl⟩ : ∃ u v, us = [u, v] := match us, hl with | [u, v], _ => ⟨u, v, rfl⟩
    have nd := I.nd
    simp only [List.nodup_cons, List.mem_cons, not_or, List.not_mem_nil, not_false_eq_true, and_true] at nd
    obtain ⟨⟨ns1, ns2⟩, n12, _⟩ := nd
    have m1 : ((("self" : Str), Value.ref e) :: List.zip [f, k] [u, v]).reverse.lookup ("self" : Str) = some (Value.ref e) := hself _ fun y hy => by
      rcases List.mem_cons.mp hy with rfl | hy
      · exact fun z => ns1 z.symm
      · rcases List.mem_cons.mp hy with rfl | hy
        · exact fun z => ns2 z.symm
        · cases hy
    have fk : (f == k) = false := beq_eq_false_iff_ne.mpr n12
    have m2 : ((("self" : Str), Value.ref e) :: List.zip [f, k] [u, v]).reverse.lookup f = some u := by simp [List.lookup, fk]
    have m3 : ((("self" : Str), Value.ref e) :: List.zip [f, k] [u, v]).reverse.lookup k = some v := by simp [List.lookup]
    have hfm : f ∈ [f, k] := List.mem_cons_self ..
    have hkm : k ∈ [f, k] := List.mem_cons_of_mem _ (List.mem_cons_self ..)
    have lf := I.loc f (List.mem_cons_of_mem _ hfm)
    have lk2 := I.loc k (List.mem_cons_of_mem _ hkm)
    have ls := I.loc _ (List.mem_cons_self (a := ("self" : Str)) (l := [f, k]))
    have df := I.nde f (List.mem_cons_of_mem _ hfm)
    have dk := I.nde k (List.mem_cons_of_mem _ hkm)
    have ds := I.nde _ (List.mem_cons_self (a := ("self" : Str)) (l := [f, k]))
    have hint : interactive (ksEnv q scope s.heap.objs.size fI (.ref cda) cc) = false := by
      unfold interactive
      simp [I.kind]
    obtain ⟨pl, hpl⟩ := ev (ksEnv q scope s.heap.objs.size fI (.ref cda) cc)
    refine ks_wpAt_execs_cons (ks_wpAt_Expr_any (hi := hint) (ks_wpAt_MethodCall (he := hpl) (supBase I M (base0 h0 fun b o _ z => z) hns m1 (k0 _ _ he) lk hcda hvs hcell hcd hsub T.sup T.top (fun h1 hs1 k1 => ?_))))
    have X1 : K.In h1 := M.kin.keeps (base0 h1 fun b o _ z => k1 b o z)
    obtain ⟨nm, NS, qn, bs, bm, hdct, sn, sub, ab, col, dd, c0, c1, c2, c3, c5, hC, hT⟩ := excInit_of X1 hi
    refine supCallRun (us := [u, v]) b X1 hs1 (k1 _ _ (k0 _ _ he)) hC neC hsu hsb T.opq (by show 2 ≤ sizeLine; decide) (fun h2 tk Q' k2 z => ?_) (fun h2 t1 tk k2 z => ?_)
    · have n2 := hns.at (h' := h2) fun o y => k2 _ _ (k1 _ _ y)
      exact spliced_more (ldN I.kind lf n2 m2 df (spliced_more (ldN I.kind lk2 n2 m3 dk (spliced_none (z _)))))
    have kk : ∀ b o, b ≠ e → h0.get? b = some o → h2.get? b = some o := fun b o hb y => k2 b o hb (k1 b o y)
    have n2 := hns.at (h' := h2) fun o y => kk _ _ eL y
    refine PySem.wpAt_of_wpAny (wpAny_execs_cons (plainObj_wpAny_Assign_Attribute (ldN I.kind lf n2 m2 df (ldN I.kind ls n2 m1 ds ?_)) (by rfl)))
    refine setFirst T (M.kin.keeps (base0 h2 kk)) z hfm fun h3 tk3 dx k3 g1 g2 g3 g4 => ?_
    have bz : s.heap.objs.size ≤ h2.objs.size := Nat.le_of_lt n2.lt
    have kk3 : ∀ b o, b ≠ e → h0.get? b = some o → h3.get? b = some o := fun b o hb y => k3 b o hb (kk b o hb y)
    have n3 := hns.at (h' := h3) fun o y => kk3 _ _ eL y
    refine wpAny_execs_cons (plainObj_wpAny_Assign_Attribute (ldN I.kind lk2 n3 m3 dk (ldN I.kind ls n3 m1 ds ?_)) (by rfl))
    refine setNext (nl := [f]) T (M.kin.keeps (base0 h3 kk3)) g3 hkm g4 (fun y hy => ?_) (by show 1 ≤ 1000; decide) fun h4 tk4 k4 g5 => ?_
    · by_cases hyf : y = f
      · rw [hyf]
        exact List.mem_cons_self ..
      · rw [if_neg hyf] at hy
        exact absurd rfl hy
    refine wpAny_execs_nil ?_
    have dxn : ∀ {b : Addr} {o : Obj}, s.heap.get? b = some o → b ≠ dx := fun y => kLt y (Nat.le_trans bz g1)
    refine hR h4 _ dx t1 _ (fun b o hb y => k4 b o (dxn y) (kk3 b o hb (k0 b o y))) (Nat.le_trans bz g1) g2 (k4 _ _ (fun z => g2 z.symm) g3) g5 fun y => ?_
    by_cases hy : y = k
    · rw [if_pos hy, hy]
      have kf : (k == f) = false := beq_eq_false_iff_ne.mpr fun z => n12 z.symm
      simp [List.lookup, kf]
    · rw [if_neg hy]
      have z2 : (y == k) = false := beq_eq_false_iff_ne.mpr hy
      by_cases hyf : y = f
      · rw [if_pos hyf, hyf]
        simp [List.lookup]
      · have z3 : (y == f) = false := beq_eq_false_iff_ne.mpr hyf
        rw [if_neg hyf]
        simp [List.lookup, z2, z3]
end
end Xr
set_option maxHeartbeats 4000000
namespace Xr
open PySem PySem.Spec PyProof.Rows L2
theorem relZip : ∀ (fs : List Str) {vs : List V} {us : List Value}, Vals vs us → ∀ f, RelO ((fs.zip vs).lookup f) ((fs.zip us).lookup f)
  | [], _, _, _, _ => trivial
  | g :: r, _, _, .nil, _ => trivial
  | g :: r, _, _, .cons h t, f => by
    show RelO ((match f == g with | true => _ | false => _) : Option V) ((match f == g with | true => _ | false => _) : Option Value)
    cases f == g with
    | true => exact h
    | false => exact relZip r t f
section
variable {X : Cx} {pins : List (Addr × Obj)} {σ : L2.St} {H : Hp} {s : Shared}
/-- two new objects, an error and its dict -/
theorem layErr (I : Inv X pins σ H s) {h' : Heap} {tk : Nat} {e d C t1 : Addr} {fs : List (Str × V)} {mA : Str → Option Value} (k : ∀ b o, s.heap.get? b = some o → h'.get? b = some o) (he : s.heap.objs.size ≤ e) (hd : s.heap.objs.size ≤ d) (ne : d ≠ e)
    (oe : h'.get? e = some (exOb C t1 (some d))) (od : h'.Ns1 d mA) (r : ∀ f, RelO (fs.lookup f) (mA f)) : Inv X pins σ (upd (upd H d (exd d fs)) e (exo e C (some d))) { s with heap := h', toks := tk } := by
  have hne : H e = none := I.hok.fresh he
  have hnd : H d = none := I.hok.fresh hd
  have b1 : ∀ {b : Addr} {o : Obj}, s.heap.get? b = some o → b ≠ e := fun z => kLt z he
  have b2 : ∀ {b : Addr} {o : Obj}, s.heap.get? b = some o → b ≠ d := fun z => kLt z hd
  have un : Un X.fs [] H (upd (upd H d (exd d fs)) e (exo e C (some d))) s.heap h' := {
    keep := fun b o q _ _ _ => k b o q
    slot := fun b o q _ _ _ => ⟨o.slots, k b o q⟩
    free := fun b o q n _ => by rw [upd_ne (b1 q), upd_ne (b2 q)]; exact n
    there := fun b o q _ => ⟨o, k b o q⟩
    tups := fun b xs q => by rw [upd_ne (ne_of_none q hne), upd_ne (ne_of_none q hnd)]; exact q
    frzs := fun b o v q => by rw [upd_ne (ne_of_none q hne), upd_ne (ne_of_none q hnd)]; exact q
    tbls := fun b ps q => ⟨#[], by rw [upd_ne (ne_of_none q hne), upd_ne (ne_of_none q hnd), q]; simp⟩ }
  refine I.un (t' := tk) un fun b o q => ?_
  by_cases hb : b = e
  · subst hb
    rw [upd_same] at q
    cases q
    exact exo_ok oe
  · rw [upd_ne hb] at q
    by_cases hd2 : b = d
    · subst hd2
      rw [upd_same] at q
      cases q
      exact exd_ok od r
    · rw [upd_ne hd2] at q
      exact (I.hok b o q).stay (fun c v _ z => k c v z)
        (fun c hc => by rw [upd_ne (ne_of_none hc hne), upd_ne (ne_of_none hc hnd)]; exact hc)
        fun c xs hc => by rw [upd_ne (ne_of_none hc hne), upd_ne (ne_of_none hc hnd)]; exact hc
/-- E(..) is made: a new error with its fields -/
theorem callErr {A : Around} {E : Value → Shared → Prop} {Q : Value → Shared → Prop} {C fI : Addr} {fd : FuncData} {fs : List Str} {us ws : List Value} {vs : List V} {kw : List (Str × Value)} (T : ErrC X.prog X.K C fI fd fs) (I : Inv X pins σ H s) (hr : Room 1 A)
    (hb : ∀ (s' : Shared) (self : Value), X.K.In s'.heap → BindsTo s' fd ⟨self :: us, kw⟩ ((("self" : Str), self) :: fs.zip ws)) (rel : Vals vs ws) (hl : vs.length = fs.length) (hz : us.length ≤ 1000)
    (h : ∀ e d s', H e = none → H d = none → d ≠ e → Inv X pins σ (upd (upd H d (exd d (fs.zip vs))) e (exo e C (some d))) s' → Q (.ref e) s') :
    wpAny (model X.prog X.w) A (call (.ref C) us kw) Q E s := by
  obtain ⟨B, ini, N, nw, bmB, b, hi, hsu, hsb⟩ := T.ex
  obtain ⟨i, bN, F⟩ := b.f
  have KX := I.kIn
  obtain ⟨nm, NS, qn, bs, bm, hdct, sn, sub, ab, col, dd, c0, c1, c2, c3, c5, hC, hT⟩ := PySem.W.excInit_of KX hi
  obtain ⟨hp, g, dr, tk, os⟩ := s
  have hz2 : us.length ≤ sizeLine := by rw [sizeLine_eq]; omega
  have kk : ∀ b o, hp.get? b = some o → ((hp.push (PySem.W.kdv_tup us)).push (exOb C hp.objs.size none)).get? b = some o := fun b o e => Heap.get?_push_of_some _ (Heap.get?_push_of_some _ e)
  have hget : ((hp.push (PySem.W.kdv_tup us)).push (exOb C hp.objs.size none)).get? (hp.objs.size + 1) = some (exOb C hp.objs.size none) := by heap_get
  have nbase : X.base.get? (hp.objs.size + 1) = none := by
    cases z : X.base.get? (hp.objs.size + 1) with
    | none => rfl
    | some o => exact absurd (Heap.lt_size (I.bk _ _ z)) (by show ¬ hp.objs.size + 1 < hp.objs.size; omega)
  refine wpAny_call (callOwn F (by rw [hT]; exact b.hN) (by rw [hT]; exact b.noA) (by rw [hT]; exact b.noE) hC (PySem.W.looks_findIn KX T.iC) (fun self => PySem.W.bind_fn KX self T.tI) hz2 ?_)
  refine initRun (base := X.base) T I.mod (fun b o z => kk b o (I.bk b o z)) nbase hget (hr.make C us kw).depth (by rw [← rel.length, hl]) (hb _ _ (I.mod.kin.keeps fun b o z => kk b o (I.bk b o z))) fun h' tk' dx t1 mA k1 g1 g2 g3 g4 g5 => ?_
  have z1 : hp.objs.size ≤ hp.objs.size + 1 := Nat.le_succ _
  have z2 : hp.objs.size ≤ dx := Nat.le_trans (by rw [Heap.size_push, Heap.size_push]; omega) g1
  have J := layErr (tk := tk') (fs := fs.zip vs) I (fun b o z => k1 b o (kLt z z1) (kk b o z)) z1 z2 g2 g3 g4 fun f => by rw [g5 f]; exact relZip fs rel f
  exact ⟨rfl, h _ dx _ (I.hok.fresh z1) (I.hok.fresh z2) g2 J⟩
end
end Xr
set_option maxHeartbeats 4000000
namespace Xr
open PySem PySem.Spec PyProof.Rows L2
/-- a new error and its dict -/
def putErr (H : Hp) (e d C : Addr) (fs : List (Str × V)) : Hp := upd (upd H d (exd d fs)) e (exo e C (some d))
def tErr (C : Addr) (fs : List Str) (t : TA) : TE := fun σ H Q => t σ H fun vs H1 => vs.length = fs.length ∧ ∀ e d, H1 e = none → H1 d = none → d ≠ e → Q (.ref e) (putErr H1 e d C (fs.zip vs))
def tErrK (C : Addr) (fs : List Str) (t : TA) : TE := fun σ H Q => t σ H fun vs H1 => vs.length = fs.length ∧ ∀ e d, H1 e = none → H1 d = none → d ≠ e → Q (.ref e) (putErr H1 e d C (fs.zip vs.reverse))
/-- how the fields come to the parameters, by place and by name (the names the other way round) -/
structure ErrB (fd : FuncData) (fs : List Str) : Prop where
  p : ∀ (s : Shared) (self : Value) (us : List Value), us.length = fs.length → BindsTo s fd ⟨self :: us, []⟩ ((("self" : Str), self) :: fs.zip us)
  k : ∀ (s : Shared) (self : Value) (us : List Value), us.length = fs.length → BindsTo s fd ⟨[self], fs.reverse.zip us⟩ ((("self" : Str), self) :: fs.zip us.reverse)
theorem vals_rev : ∀ {vs : List V} {us : List Value}, Vals vs us → Vals vs.reverse us.reverse
  | _, _, .nil => .nil
  | _, _, .cons h t => by
    rw [List.reverse_cons, List.reverse_cons]
    exact (vals_rev t).append (.cons h .nil)
section
variable {X : Cx} {C fI : Addr} {fd : FuncData} {fs : List Str} {x : Str} {p pos : Pos} {e : Expr} {es : List Expr} {t : TA} {kws : List Keyword}
theorem pe_err (T : ErrC X.prog X.K C fI fd fs) (b : ErrB fd fs) (h3 : fs.length ≤ 3) (hr : Room 1 X.A) (hg : Gl X x) (hm : X.mg x = some (.ref C)) (ha : PA X (e :: es) t)
    (hdb : (x == ("__debug__" : Str)) = false := by decide) (he : starEach (e :: es) X.env = (false, eval e X.env) :: starEach es X.env := by rfl) (hpl : (backTo pos (starEach es X.env)).any (·.1) = false := by rfl) :
    PE X (.Call (.Name x p) (e :: es) [] pos) (tErr C fs t) := by
  refine ⟨fun pins s σ H Q I h => ?_⟩
  refine wpAny_Call_Name_kw (ld_glob I hg hm ?_ hdb)
  refine PySem.W.callWith_K (h₀ := X.base) I.ok.mod.kin T.keep (thn (ha.run pos pins s σ H _ I h) fun us s1 ⟨vs, H1, I1, r1, hl, q1⟩ => ⟨I1.kIn, ?_⟩) he hpl
  have hlu : us.length = fs.length := by rw [← r1.length, hl]
  exact callErr T I1 hr (fun s' self _ => b.p s' self us hlu) r1 hl (by show us.length ≤ 1000; omega) fun e d s' h1 h2 h3 J => ⟨.ref e, _, J, rfl, q1 e d h1 h2 h3⟩
theorem pe_errK (T : ErrC X.prog X.K C fI fd fs) (b : ErrB fd fs) (hr : Room 1 X.A) (hg : Gl X x) (hm : X.mg x = some (.ref C)) (hkw : PK X kws t)
    (hall : (backToKw pos (keywordEach kws X.env)).all (·.1.isSome) = true := by rfl) (hks : (backToKw pos (keywordEach kws X.env)).filterMap (·.1) = fs.reverse := by rfl) (hdb : (x == ("__debug__" : Str)) = false := by decide)
    (hpl : ((backTo pos (starEach [] X.env)).any (·.1) || (backToKw pos (keywordEach kws X.env)).any (·.1.isNone)) = false := by rfl) :
    PE X (.Call (.Name x p) [] kws pos) (tErrK C fs t) := by
  refine ⟨fun pins s σ H Q I h => ?_⟩
  refine wpAny_Call_Name_kw (ld_glob I hg hm ?_ hdb)
  refine PySem.W.callWith_KW0 (h₀ := X.base) I.ok.mod.kin T.keep hall ?_ hpl
  refine thn (hkw.run pos pins s σ H _ I h) fun ws s2 ⟨zs, H2, I2, rz, hl, q2⟩ => ⟨I2.kIn, ?_⟩
  rw [hks]
  have hlu : ws.length = fs.length := by rw [← rz.length, hl]
  exact callErr (ws := ws.reverse) T I2 hr (fun s' self _ => b.k s' self ws hlu) (vals_rev rz) (by rw [List.length_reverse]; exact hl) (by show 0 ≤ 1000; decide) fun e d s' h1 h2 h3 J => ⟨.ref e, _, J, rfl, q2 e d h1 h2 h3⟩
/-- e.f of an error that is a value -/
def tXv (K : PySem.W.Frag) (f : Str) (te : TE) : TE := fun σ H Q => te σ H fun x H1 => ∃ (a C d : Addr) (fs : List (Str × V)) (v : V), x = .ref a ∧ H1 a = some (exo a C (some d)) ∧ H1 d = some (exd d fs) ∧ XfC K C ∧ PySem.W.findIn K (.ref C) f = some none ∧ fs.lookup f = some v ∧ Q v H1
theorem pe_xv {te : TE} {n : Str} (he : PE X e te) (hb : attributeBase e n X.env (eval e X.env) = eval e X.env := by rfl) : PE X (.Attribute e n pos) (tXv X.K n te) := by
  refine ⟨fun pins s σ H Q I h => ?_⟩
  refine attr_of hb (thn (he.run pins s σ H _ I h) fun u s1 hh => ?_)
  obtain ⟨x, H1, I1, rx, a, C, d, fs, v, rfl, ha, hd, T, hno, l, q⟩ := hh
  obtain rfl : u = Value.ref a := rx
  obtain ⟨t1, ho⟩ := exo_at I1.hok ha
  obtain ⟨mA, hns, hr⟩ := exd_at I1.hok hd
  obtain ⟨od, ho2, hl⟩ := lookIn_ns hns
  obtain ⟨u, hu, ru⟩ := RelO.some_of (v := v) (o := mA n) (by rw [← l]; exact hr n)
  have J : PySem.W.InstAt s1.heap a (exOb C t1 (some d)) C (some od) := ⟨ho, rfl, rfl, ho2⟩
  exact HandSPX.exc_get I1.kIn J T.ga T.gg T.exC (PySem.W.findObj_own T.hdC hno rfl (by rw [hl, hu])) (handed_of ru) ⟨v, H1, I1.tok _, ru, q⟩
/-- what isinstance asks of an error's class -/
structure XiC (K : PySem.W.Frag) (C : Addr) : Prop where
  cl : (PySem.W.clsIn K C).isSome = true
  ga : PySem.W.findIn K (.ref C) "__getattribute__" = some (some (.builtin "BaseException.__getattribute__"))
  gg : PySem.W.findIn K (.ref C) "__getattr__" = some none
  exC : PySem.W.subIn K (.ref C) (.type "BaseException") = some true
  ca : PySem.W.findIn K (.ref C) "__class__" = some (some (.builtin "object.__class__"))
  sg : PySem.W.specialIn K (.builtin "object.__class__") "__get__" = some (some (.builtin "getset_descriptor.__get__"))
  tk : PySem.W.takesIn K (.builtin "object.__class__") = some true
  ob : PySem.W.mroIn K C (.type "object") = some true
def rIsX (K : PySem.W.Frag) : List V → Hp → VK → Prop := fun xs H Q => ∃ (a C : Addr) (d : Addr) (fs : List (Str × V)) (c : V) (cv : Value) (b : Bool), xs = [.ref a, c] ∧ H a = some (exo a C (some d)) ∧ H d = some (exd d fs) ∧ XiC K C ∧ ClsV c cv ∧ PySem.W.kitOne K (.ref C) cv = some b ∧ Q (.bl b) H
theorem call_isX : CallR X (.builtin "isinstance") (rIsX X.K) := by
  intro pins s σ H xs us Q I r h
  obtain ⟨a, C, d, fs, c, cv, b, rfl, ha, hd, T, k, e, q⟩ := h
  obtain ⟨u1, u2, rfl, r1, r2⟩ := vals2 r
  have e2 := k.eq r2
  subst e2
  cases r1
  obtain ⟨t1, ho⟩ := exo_at I.hok ha
  obtain ⟨mA, hns, hr⟩ := exd_at I.hok hd
  obtain ⟨od, ho2, hl⟩ := lookIn_ns hns
  have J : PySem.W.InstAt s.heap a (exOb C t1 (some d)) C (some od) := ⟨ho, rfl, rfl, ho2⟩
  exact PySem.W.kia_one (PySem.W.kitx_exc T.cl T.ga T.gg T.exC T.ca T.sg T.tk T.ob) I.kIn J e (fun z => nomatch z) fun tk => ⟨.bl b, H, I.tok tk, rfl, q⟩
end
end Xr
set_option maxHeartbeats 4000000
namespace Xr
open PySem PySem.Spec PyProof.Rows L2
/-- sys.modules is written: no list or tuple of ours stands there -/
def KSys (K : PySem.W.Frag) : Prop := ∃ o, K.lookup sysModules = some o ∧ o.cls = .type "dict"
def keyD : Key → PyData
  | .inl i => .int i
  | .inr x => .str x
mutual
/-- a value is data: numbers, texts, lists, tuples, dicts by numbers and texts -/
inductive Dq (K : PySem.W.Frag) (H : Hp) : V → PyData → Prop
  | non : Dq K H .non .none
  | bl (b : Bool) : Dq K H (.bl b) (.bool b)
  | int (i : Int) : Dq K H (.int i) (.int i)
  | str (x : Str) : Dq K H (.str x) (.str x)
  | lst {a : Addr} {xs : List V} {ds : List PyData} : SqL K H a xs → DqAll K H xs ds → Dq K H (.ref a) (.list ds)
  | tup {a : Addr} {xs : List V} {ds : List PyData} : SqT K H a xs → DqAll K H xs ds → Dq K H (.ref a) (.tuple ds)
  | dic {a : Addr} {kvs : List (Key × V)} {ds : List PyData} : H a = some (.dK kvs) → DqAll K H (kvs.map (·.2)) ds → Dq K H (.ref a) (.dict ((kvs.map fun q => keyD q.1).zip ds))
inductive DqAll (K : PySem.W.Frag) (H : Hp) : List V → List PyData → Prop
  | nil : DqAll K H [] []
  | cons {v : V} {vs : List V} {d : PyData} {ds : List PyData} : Dq K H v d → DqAll K H vs ds → DqAll K H (v :: vs) (d :: ds)
end
theorem DqAll.len {K : PySem.W.Frag} {H : Hp} : ∀ {vs : List V} {ds : List PyData}, DqAll K H vs ds → vs.length = ds.length
  | _, _, .nil => rfl
  | _, _, .cons _ t => congrArg Nat.succ (DqAll.len t)
section
variable {X : Cx} {pins : List (Addr × Obj)} {σ : L2.St} {H : Hp} {s : Shared}
theorem not_sys {h : Heap} {K : PySem.W.Frag} (X : K.In h) (S : KSys K) {a : Addr} {o : Obj} (ho : h.get? a = some o) (hc : o.cls ≠ .type "dict") : sysModules ≠ a := fun z => by
  obtain ⟨u, hu, hd⟩ := S
  have := X _ _ hu
  rw [z, ho] at this
  cases this
  exact hc hd
theorem readsKeys : ∀ {es : List DictEntry} {vs : List (Key × Value)} (h : Heap) {P : Program} {w : World}, Pairs (mixKind P w) es vs → ReadsAll h (es.map (·.key)) (vs.map fun q => keyD q.1) []
  | _, _, _, _, _, .nil => .nil
  | _, _, h, P, w, @Pairs.cons _ _ _ _ _ e kv es kvs hk hv t => by
    have r : Reads h e.key (keyD kv.1) [] := by
      rcases keyIs_shape hk with ⟨i, tk, e1, e2⟩ | ⟨x, tk, e1, e2⟩
      · rw [e1, e2]
        exact Reads.int i tk
      · rw [e1, e2]
        exact Reads.str x tk
    exact ReadsAll.cons r (readsKeys h t)
theorem pairs_vals : ∀ {es : List DictEntry} {vs : List (Key × Value)} {P : Program} {w : World}, Pairs (mixKind P w) es vs → es.map (·.val) = vs.map (·.2)
  | _, _, _, _, .nil => rfl
  | _, _, _, _, .cons _ hv t => by rw [List.map_cons, List.map_cons, hv, pairs_vals t]
theorem kv_vals : ∀ {kvs : List (Key × V)} {vs : List (Key × Value)}, KV kvs vs → Vals (kvs.map (·.2)) (vs.map (·.2)) ∧ kvs.map (·.1) = vs.map (·.1)
  | _, _, .nil => ⟨.nil, rfl⟩
  | _, _, .cons h t => ⟨.cons h.2 (kv_vals t).1, by rw [List.map_cons, List.map_cons, h.1, (kv_vals t).2]⟩
mutual
theorem Dq.reads (S : KSys X.K) (I : Inv X pins σ H s) : ∀ {d : PyData} {v : V} (u : Value), Dq X.K H v d → RelV v u → ∃ as, Reads s.heap u d as ∧ sysModules ∉ as
  | _, _, u, .non, r => by cases r; exact ⟨_, Reads.none, by simp⟩
  | _, _, u, .bl b, r => by cases r; exact ⟨_, Reads.bool b, by simp⟩
  | _, _, u, .int i, r => by obtain ⟨t, rfl⟩ := r; exact ⟨_, Reads.int i t, by simp⟩
  | _, _, u, .str x, r => by obtain ⟨t, rfl⟩ := r; exact ⟨_, Reads.str x t, by simp⟩
  | _, _, u, .lst hs ha, r => by
    cases r
    obtain ⟨its, rv, ⟨o, n, ho, hc, _, hd⟩, _⟩ := I.list hs
    obtain ⟨as, hr, hn⟩ := DqAll.reads S I its ha rv
    refine ⟨_, Reads.list ho hc hd hr, fun z => ?_⟩
    rcases List.mem_cons.mp z with z | z
    · exact not_sys I.kIn S ho (by rw [hc]; decide) z
    · exact hn z
  | _, _, u, .tup hs ha, r => by
    cases r
    obtain ⟨its, rv, ⟨o, ho, hc, n, hd⟩, _⟩ := I.tuple hs
    obtain ⟨as, hr, hn⟩ := DqAll.reads S I its ha rv
    exact ⟨_, Reads.tuple ho hc hd hr, hn⟩
  | _, _, u, @Dq.dic _ _ a kvs ds hk ha, r => by
    cases r
    obtain ⟨_, hs, vs, kv, o, es, ep, ho, hex, hd, _, hp, _⟩ := (show ObjOk X.prog X.w H s.heap a (.dK kvs) from I.hok a _ hk)
    obtain ⟨k1, k2⟩ := kv_vals kv
    obtain ⟨bs, hr, hn⟩ := DqAll.reads S I _ ha k1
    have e1 : (((kvs.map fun q => keyD q.1).zip ds).map (·.1)) = vs.map fun q => keyD q.1 := by
      have h1 : (kvs.map fun q => keyD q.1) = vs.map fun q => keyD q.1 := by
        have := congrArg (List.map keyD) k2
        rw [List.map_map, List.map_map] at this
        exact this
      rw [List.map_fst_zip (by rw [List.length_map, ← DqAll.len ha, List.length_map]; exact Nat.le_refl _), h1]
    have e2 : (((kvs.map fun q => keyD q.1).zip ds).map (·.2)) = ds := by
      rw [List.map_snd_zip (by rw [List.length_map, ← DqAll.len ha, List.length_map]; exact Nat.le_refl _)]
    refine ⟨_, Reads.dict (as := []) (bs := bs) ho hex.1 hd ?_ ?_, fun z => ?_⟩
    · rw [e1]
      exact readsKeys _ hp
    · rw [e2, pairs_vals hp]
      exact hr
    · rcases List.mem_append.mp z with z | z
      · rcases List.mem_cons.mp z with z | z
        · rw [← z] at hs
          simp at hs
        · cases z
      · exact hn z
theorem DqAll.reads (S : KSys X.K) (I : Inv X pins σ H s) : ∀ {ds : List PyData} {vs : List V} (us : List Value), DqAll X.K H vs ds → Vals vs us → ∃ as, ReadsAll s.heap us ds as ∧ sysModules ∉ as
  | _, _, _, .nil, .nil => ⟨_, ReadsAll.nil, by simp⟩
  | _, _, _, .cons h t, .cons r rs => by
    obtain ⟨as, h1, n1⟩ := Dq.reads S I _ h r
    obtain ⟨bs, h2, n2⟩ := DqAll.reads S I _ t rs
    exact ⟨_, ReadsAll.cons h1 h2, fun z => (List.mem_append.mp z).elim n1 n2⟩
end
/-- repr(x) of a list, a tuple, a dict -/
def rRepr (K : PySem.W.Frag) : List V → Hp → VK → Prop := fun xs H Q => ∃ (a : Addr) (d : PyData), xs = [.ref a] ∧ Dq K H (.ref a) d ∧ d.showable = true ∧ d.depth ≤ 20 ∧ d.shown.length ≤ sizeLine ∧ Q (.str d.shown) H
theorem call_repr (S : KSys X.K) (hg : X.A.guards = some []) (hu : X.A.units + 64 < cLine) : CallR X (.builtin "repr") (rRepr X.K) := by
  intro pins s σ H xs us Q I r h
  obtain ⟨a, d, rfl, hd, hs, hdep, hz, q⟩ := h
  cases r with
  | cons r0 rr =>
    cases rr
    cases (show _ = Value.ref a from r0)
    obtain ⟨as, hr, hn⟩ := Dq.reads S I _ hd rfl
    exact repr_of_reads' hr hs (fun _ => hn) hg (by omega) (fun _ _ z => z) (fun h' u tk k => ⟨.str d.shown, H, I.kept (t' := tk) k, ⟨u, rfl⟩, q⟩) hz
end
end Xr
set_option maxHeartbeats 4000000
namespace Xr
open PySem PySem.Spec PyProof.Rows L2
/-- a promise that holds where no repr is under way -/
structure FnG (P : Program) (w : World) (K : PySem.W.Frag) (mg : Str → Option Value) (base : Heap) (CX : CXT) (k : Nat) (f : Addr) (fd : FuncData) (ps : List Str) (sp : Sp) : Prop where
  len : ∀ vs H Q E, sp vs H Q E → vs.length = ps.length
  run : ∀ (A : Around) (outer : List Env) (s : Shared) (H : Hp) (args : Args) (us : List Value) (vs : List V) (Q : VK) (E : XK),
    Room k A → A.guards = some [] → Env0 P w K mg base A outer s H → BindsTo s fd args (ps.zip us) → Vals vs us → sp vs H Q E →
    codeAny (model P w) A (.call (.ref f) args) (CR CX outer P w H s Q E) s
theorem FnG.of {P : Program} {w : World} {K : PySem.W.Frag} {mg : Str → Option Value} {base : Heap} {CX : CXT} {k : Nat} {f : Addr} {fd : FuncData} {ps : List Str} {sp : Sp} (F : FnOk P w K mg base CX k f fd ps sp) : FnG P w K mg base CX k f fd ps sp :=
  ⟨F.len, fun A outer s H args us vs Q E hr _ => F.run A outer s H args us vs Q E hr⟩
section
variable {P : Program} {w : World} {K : PySem.W.Frag} {mg : Str → Option Value} {base : Heap} {CX : CXT} {k : Nat} {f : Addr} {x qual : Str} {params : Arguments} {body : List Stmt} {scope : Scope} {dvs : List V} {kws : List (Str × V)} {fd : FuncData} {N ps : List Str} {sp : Sp}
/-- a def's body keeps its promise, the guards known -/
theorem okG (F : FunD K x qual params body scope dvs kws f fd) (S : FnScope N ps scope) (len : ∀ vs H Q E, sp vs H Q E → vs.length = ps.length)
    (hbody : ∀ (cdv : Value) (A : Around) (outer : List Env) (s : Shared) (H : Hp) (vs : List V) (Q : VK) (E : XK), Room k (A.deeper (envOfC qual scope s.heap.objs.size f cdv)) → A.guards = some [] → sp vs H Q E →
      ∃ t, PSs (cxOf CX P w K mg base N qual scope f cdv A outer s H E) body t ∧ t { nx := fun _ H' => Q .non H', rt := Q } (start N vs) H) :
    FnG P w K mg base CX (k + 1) f fd ps sp := by
  obtain ⟨oc, od, dV, kV, doc, pm, an, cdv, ct, osl, rfl, lk, hcd, _, _⟩ := F.ex
  refine ⟨len, fun A outer s H args us vs Q E hr hgd e0 hb r hsp => ?_⟩
  have keep0 : ∀ b o, base.get? b = some o → s.heap.get? b = some o := fun b o z => (e0.bs b o z).1
  have KX : K.In s.heap := e0.mod.kin.keeps keep0
  have hk : ∀ y ∈ ps.zip us, scope.names.lookup y.1 = some .local ∨
      (scope.names.lookup y.1 = some .cell ∧ ((cellsFrom (s.heap.objs.size + 1) scope.names []).lookup y.1).isSome = true) := by
    rintro ⟨n, v⟩ hy
    rcases S.par n (List.of_mem_zip hy).1 with z | z
    · exact Or.inl z
    · exact Or.inr ⟨z, PySem.W.cellsFrom_some _ _ _ (Or.inl z)⟩
  refine codeAny_call_function hr.depth (KX _ _ lk) rfl S.co S.gen rfl (PySem.W.codeRec_of KX hcd) (hb _ _ _ _ ?_)
  refine wpAny_newFunctionEnv_cells S.kind hk fun env he s1 z => ?_
  subst he
  refine ⟨(e0.mod.nolimit.keeps keep0).keeps z.toInCall.keep, codeAny_func ?_⟩
  obtain ⟨t, ht, hq⟩ := hbody cdv A outer s H vs Q E (hr.deeper _) hgd hsp
  have J := inv_start (CX := CX) (E := E) S hr.hd e0 (len _ _ _ _ hsp) r z
  refine wpAny_mono (ht.run [] s1 (start N vs) H _ J hq) (fun fl s' hs => ?_) fun e s' hs => hs
  rcases fl with _ | _ | _ | u
  · obtain ⟨σ', H', J', q⟩ := hs
    exact ⟨V.non, H', J'.os, J'.bare, J'.base, J'.hok, rfl, q⟩
  · obtain ⟨_, _, _, q⟩ := hs
    exact q.elim
  · obtain ⟨_, _, _, q⟩ := hs
    exact q.elim
  · obtain ⟨v, σ', H', J', rv, q⟩ := hs
    exact ⟨v, H', J'.os, J'.bare, J'.base, J'.hok, rv, q⟩
end
section
variable {X : Cx} {CX : CXT} {k : Nat} {f : Addr} {fd : FuncData} {ps : List Str} {sp : Sp} {E : XK} {ds : List Value} {dvs : List V} {x : Str} {p pos : Pos} {e : Expr} {es : List Expr} {t : TA}
theorem run_fnG {pins : List (Addr × Obj)} {σ : L2.St} {H : Hp} {s : Shared} {Q : VK} {us : List Value} {vs : List V} (F : FnG X.prog X.w X.K X.mg X.base CX k f fd ps sp) (hr : Room k X.A) (hg : X.A.guards = some []) (hb : Binds X.K fd ps ds) (hd : Vals dvs ds) (hx : Passes CX X E)
    (I : Inv X pins σ H s) (r : Vals vs us) (h : sp (vs ++ dvs) H Q E) : wpAny (model X.prog X.w) X.A (call (.ref f) us) (EP X pins σ Q) X.xe s := by
  have r2 := r.append hd
  have hl : (us ++ ds).length = ps.length := r2.length.symm.trans (F.len _ _ _ _ h)
  refine wpAny_call (codeAny_mono (F.run X.A X.stack s H ⟨us, []⟩ (us ++ ds) (vs ++ dvs) Q E hr hg I.env0 (hb s us I.kIn hl) r2 h) fun r s' hq => ?_)
  rcases r with er | (_ | _ | _ | u)
  · exact hx pins σ H s er s' I hq
  · exact hq.elim
  · exact hq.elim
  · exact hq.elim
  · exact I.after hq
theorem pe_callG (F : FnG X.prog X.w X.K X.mg X.base CX k f fd ps sp) (hr : Room k X.A) (hgd : X.A.guards = some []) (hg : Gl X x) (hm : X.mg x = some (.ref f)) (hk : PySem.W.keepIn X.K (.ref f) = true) (hb : Binds X.K fd ps ds) (hd : Vals dvs ds) (hx : Passes CX X E)
    (ha : PA X (e :: es) t) (hdb : (x == ("__debug__" : Str)) = false := by decide) (he : starEach (e :: es) X.env = (false, eval e X.env) :: starEach es X.env := by rfl) (hpl : (backTo pos (starEach es X.env)).any (·.1) = false := by rfl) :
    PE X (.Call (.Name x p) (e :: es) [] pos) (tCall sp dvs E t) := by
  refine ⟨fun pins s σ H Q I h => wpAny_Call_Name_kw (ld_glob I hg hm ?_ hdb)⟩
  refine PySem.W.callWith_K (h₀ := X.base) I.ok.mod.kin hk (thn (ha.run pos pins s σ H _ I h) fun us s1 hh => ?_) he hpl
  obtain ⟨vs, H1, I1, r, q⟩ := hh
  exact ⟨I1.kIn, run_fnG F hr hgd hb hd hx I1 r q⟩
end
/-- the script, locked -/
def scrH (a : Addr) (o : Obj) (xs : List V) : Hp := fun b => if b = a then some (.frz o (.lst xs)) else none
theorem lawCallG {P : Program} {w : World} {K : PySem.W.Frag} {mg mb : Str → Option Value} {CX : CXT} {k : Nat} {fa a : Addr} {fd : FuncData} {x : Str} {sp : Sp} {s1 : Shared} {vs : List Value} {ns : List Int}
    (KX : K.In s1.heap) (hns : s1.heap.Ns mainGlobals mg) (hb : s1.heap.Ns builtinsNs mb) (hbb : ∀ x : Str, x ≠ "__name__" → mb x = bootBuiltins x) (hlim : s1.heap.NoLimit) (hg : s1.gens = #[])
    (ha : s1.heap.get? a = some { cls := .type "list", data := .seq vs.toArray }) (hi : IntsAre vs ns) (hl : ns.length ≤ sizeLine) (hr : Room k callerA)
    (F : ∀ base : Heap, K.In base → base.Ns mainGlobals mg → FnG P w K mg base CX k fa fd [x] sp) (hbind : ∀ (s : Shared) (u : Value), BindsTo s fd ⟨[u], []⟩ [(x, u)])
    (hsp : ∀ H : Hp, Only H → SqL K H a (ns.map V.int) → sp [.ref a] H (fun v _ => v = .bl true) fun _ _ _ => False)
    (hCX : ∀ H e s', CX [] H s1 (fun _ _ _ => False) e s' → False) :
    codeAny (model P w) callerA (.call (.ref fa) ⟨[.ref a], []⟩) (fun r s' => r = .ok (.ret (.bool true)) ∧ OldK s1.heap s'.heap ∧ s'.os = s1.os ∧ AllBare s'.gens) s1 := by
  have go : ∀ H : Hp, Only H → SqL K H a (ns.map V.int) → HOk P w H s1.heap → (∀ b, H b ≠ none → b = a) → (H a ≠ none → K.lookup a = none) →
      codeAny (model P w) callerA (.call (.ref fa) ⟨[.ref a], []⟩) (fun r s' => r = .ok (.ret (.bool true)) ∧ OldK s1.heap s'.heap ∧ s'.os = s1.os ∧ AllBare s'.gens) s1 := by
    intro H hO hS hok hA hK
    have isA : ∀ {b : Addr} {u : HO}, H b = some u → b = a := fun {b u} z => hA b (by rw [z]; exact Option.some_ne_none _)
    have dictFree : ∀ {b : Addr} {o : Obj} {es : Array DictEntry} {ep : Nat}, s1.heap.get? b = some o → o.data = .dict es ep → H b = none := by
      intro b o es ep z d
      cases q : H b with
      | none => rfl
      | some u =>
        cases isA q
        rw [ha] at z
        cases z
        cases (show Data.seq vs.toArray _ = Data.dict es ep from d)
    have nsB : ∀ {b : Addr} {m : Str → Option Value}, s1.heap.Ns b m → (hidT s1.heap H).Ns b m := by
      rintro b m ⟨o, es, ep, z, d, r⟩
      exact ⟨o, es, ep, hidT_get z (dictFree z d), d, r⟩
    have KB : K.In (hidT s1.heap H) := fun b o z => hidT_get (KX b o z) (by
      cases q : H b with
      | none => rfl
      | some u =>
        cases isA q
        rw [hK (by rw [q]; exact Option.some_ne_none _)] at z
        cases z)
    obtain ⟨mc, l1, l2⟩ := hlim
    have M : Mod K mg (hidT s1.heap H) := ⟨KB, nsB hns, ⟨mb, nsB hb, hbb⟩, ⟨mc, nsB l1, l2⟩⟩
    have e0 : Env0 P w K mg (hidT s1.heap H) callerA [] s1 H :=
      ⟨rfl, M, fun b o z => of_hidT z, Nat.le_of_eq (hidT_size _ _), trivial, fun b hb => absurd (show b ∈ ([] : List Addr) from hb) (by simp), hok, .of_eq hg⟩
    have run := (F _ KB (nsB hns)).run callerA [] s1 H ⟨[.ref a], []⟩ [.ref a] [.ref a] _ _ hr rfl e0 (hbind s1 (.ref a)) (.cons rfl .nil) (hsp H hO hS)
    refine codeAny_mono run fun r s' h => ?_
    rcases r with er | (_ | _ | _ | u)
    · exact (hCX H er s' h).elim
    · exact h.elim
    · exact h.elim
    · exact h.elim
    · obtain ⟨v, H', os, bare, un, hok', r', q⟩ := h
      cases (show v = .bl true from q)
      cases (show u = Value.bool true from r')
      refine ⟨rfl, OldK.of_keep fun b o z => ?_, os, bare⟩
      rcases hO b with n | ⟨ob, xs, y⟩
      · exact un.keep b o z n (fun y => absurd (show b ∈ ([] : List Addr) from y) (by simp)) (by simp)
      · have e1 := (hok b _ y).1
        rw [z] at e1
        cases e1
        exact (hok' b _ (un.frzs b _ _ y)).1
  have rv := vals_ints hi
  cases hk : K.lookup a with
  | some o =>
    have z := KX a o hk
    rw [ha] at z
    cases z
    refine go (fun _ => none) (fun _ => Or.inl rfl) (Or.inr ⟨_, vs.toArray, _, hk, rfl, rfl, rfl, by rw [List.size_toArray, hi.length]; exact hl, by simpa using rv⟩) ?_ (fun b z => absurd rfl z) fun z => absurd rfl z
    intro b u z
    cases (show (none : Option HO) = some u from z)
  | none =>
    have hit : scrH a { cls := .type "list", data := .seq vs.toArray } (ns.map V.int) a = some (.frz { cls := .type "list", data := .seq vs.toArray } (.lst (ns.map V.int))) := if_pos rfl
    have miss : ∀ {b : Addr}, b ≠ a → scrH a { cls := .type "list", data := .seq vs.toArray } (ns.map V.int) b = none := fun z => if_neg z
    refine go (scrH a { cls := .type "list", data := .seq vs.toArray } (ns.map V.int)) (fun b => ?_) (Or.inl (Or.inr ⟨_, hit⟩)) (fun b u z => ?_) (fun b z => Classical.byContradiction fun y => z (miss y)) fun _ => hk
    · by_cases hba : b = a
      · cases hba
        exact Or.inr ⟨_, _, hit⟩
      · exact Or.inl (miss hba)
    · by_cases hba : b = a
      · cases hba
        rw [hit] at z
        cases z
        exact ⟨ha, by rw [List.length_map]; exact hl, vs, _, rv, ha⟩
      · rw [miss hba] at z
        cases z
theorem walkG {l : PySem.W.OpenLaw} {n k : Nat} {q : Program} {loose : List Str} {XP : (Str → Option Value) → Heap → Prop} {YP : World → Heap → Prop} {d : DefRec} {CX : CXT} {x : Str}
    (hn : l.most = some n) (hn2 : n ≤ sizeLine) (hdf : d.params.defaults = []) (hr : Room k callerA)
    (F : ∀ (w : World) (mg : Str → Option Value) (fa : Addr) (h : Heap), YP w h → h.Ns mainGlobals mg → mg d.name = some (.ref fa) →
      ∃ (K : PySem.W.Frag) (fd : FuncData) (sp : Sp), K.In h ∧ (∀ (s : Shared) (u : Value), BindsTo s fd ⟨[u], []⟩ [(x, u)]) ∧
        (∀ (H : Hp) (a : Addr) (ns : List Int), ns.length ≤ n → Only H → SqL K H a (ns.map V.int) → sp [.ref a] H (fun v _ => v = .bl true) fun _ _ _ => False) ∧
        ∀ base : Heap, K.In base → base.Ns mainGlobals mg → FnG l.prog w K mg base CX k fa fd [x] sp)
    (hCX : ∀ (H : Hp) (s : Shared) (e : Value) (s' : Shared), CX [] H s (fun _ _ _ => False) e s' → False) :
    PySem.W.WalkO q loose XP YP l.row.toRowW d [] (fun f vs => PySem.call f vs) := by
  refine Att.attach_call hn hdf fun w s0 s1 mg mb fa o pm cd doc a vs ns G Y ho hd hcd hmg hobj hints hlen hg => ?_
  obtain ⟨K, fd, sp, KX, hb, hsp, hF⟩ := F w mg fa _ Y G.T.g hmg
  exact lawCallG KX G.T.g G.T.b G.T.builtins G.T.nolimit hg hobj hints (Nat.le_trans hlen hn2) hr hF hb (fun H hO hS => hsp H a ns hlen hO hS) fun H e s' => hCX H s1 e s'
end Xr
set_option maxHeartbeats 4000000
namespace Xr
open PySem PySem.Spec PyProof.Rows L2
/-! ### the written part: what the module's names reach, the cells of closures, sys.modules, the statics -/
def closOf (g : Addr → Option Obj) (as : List Addr) : List Addr := as.flatMap fun a => match g a with
  | some ⟨_, _, .func fd, _⟩ => fd.closure.map (·.2)
  | _ => []
/-- what is reached from q, each address once; m: the bits of those that are told already -/
def dfsE (g : Addr → Option Obj) : Nat → Nat → List Addr → List Addr
  | 0, _, _ => []
  | _ + 1, _, [] => []
  | k + 1, m, a :: q => match Nat.beq (Nat.land (Nat.shiftRight m a) 1) 0 with
    | true => a :: dfsE g k (Nat.lor m (Nat.shiftLeft 1 a)) ((match g a with
      | some o => He.refsD o
      | none => []) ++ q)
    | false => dfsE g k m q
def asE (g : Addr → Option Obj) (n : Nat) : List Addr := sysModules :: cStatics :: dfsE g (n * 1000) 0 [mainGlobals]
def KE (g : Addr → Option Obj) (n : Nat) : PySem.W.Frag := He.frT g (asE g n)
abbrev FnC : Type := Option (Str × Str × Arguments × FuncBody × Scope × Addr × List Str × Addr)
/-- a def with a closure -/
def fnC (K : PySem.W.Frag) (p : He.Defn) : FnC := match K.lookup (He.fAd K p) with
  | some ⟨_, _, .func fd, _⟩ => some (fd.name, fd.qualname, fd.params, fd.body, fd.scope, fd.globals, fd.closure.map (·.1), fd.builtins)
  | _ => none
/-- one def with a closure: where it stands, and what is told of it -/
abbrev DefC : Type := He.Defn × FnC
abbrev AlE : Type := He.AlX × List FnC
def obsE (n : Nat) (fa : List He.Fa) (fn : List He.DefD) (ts : List He.Tab) (tf : List He.Defn) (cl : List DefC) (ex : PySem.W.Frag → Bool) (g : Addr → Option Obj) : AlE :=
  ((He.obsT fa fn ts (KE g n), ex (KE g n) && He.tabsB g tf (KE g n)), cl.map fun q => fnC (KE g n) q.1)
def valE (fn : List He.DefD) (ts : List He.Tab) (cl : List DefC) (w : World) : AlE := ((He.valT fn ts w, true), cl.map (·.2))
structure SaysE (fa : List He.Fa) (fn : List He.DefD) (ts : List He.Tab) (tf : List He.Defn) (cl : List DefC) (ex : PySem.W.Frag → Bool) (w : World) (h : Heap) (K : PySem.W.Frag) : Prop where
  x : He.SaysX fa fn ts tf ex w h K
  c : cl.map (fun q => fnC K q.1) = cl.map (·.2)
theorem says_of {n : Nat} {fa : List He.Fa} {fn : List He.DefD} {ts : List He.Tab} {tf : List He.Defn} {cl : List DefC} {ex : PySem.W.Frag → Bool} {w : World} {h : Heap} (e : obsE n fa fn ts tf cl ex h.get? = valE fn ts cl w) : SaysE fa fn ts tf cl ex w h (KE h.get? n) := by
  have e1 : He.obsT fa fn ts (KE h.get? n) = He.valT fn ts w := congrArg (fun z : AlE => z.1.1) e
  have e2 : (ex (KE h.get? n) && He.tabsB h.get? tf (KE h.get? n)) = true := congrArg (fun z : AlE => z.1.2) e
  have e3 : cl.map (fun q => fnC (KE h.get? n) q.1) = cl.map (·.2) := congrArg (fun z : AlE => z.2) e
  obtain ⟨a1, a2⟩ := He.ba e2
  have key : ∀ p ∈ tf, PySem.W.codeHdIn (KE h.get? n) (He.cT (KE h.get? n) p).1 (He.cT (KE h.get? n) p).2 = true ∧
      ∃ o, h.get? (He.cT (KE h.get? n) p).2 = some o ∧ He.emptyTab o = true := by
    intro p hp
    obtain ⟨b1, b2⟩ := He.ba (List.all_eq_true.mp a2 p hp)
    refine ⟨b1, ?_⟩
    cases q : h.get? (He.cT (KE h.get? n) p).2 with
    | none =>
      rw [q] at b2
      cases b2
    | some o =>
      rw [q] at b2
      exact ⟨o, rfl, b2⟩
  refine ⟨⟨e1, a1, fun p hp => (key p hp).1, fun p hp => ?_, fun p hp => ?_⟩, e3⟩
  · obtain ⟨_, o, q, z⟩ := key p hp
    exact He.frT_none q z
  · obtain ⟨_, o, q, z⟩ := key p hp
    rw [q, He.emptyTab_eq z]
def hookE (n : Nat) (fa : List He.Fa) (fn : List He.DefD) (ts : List He.Tab) (tf : List He.Defn) (cl : List DefC) (ex : PySem.W.Frag → Bool) : PySem.W.Hook where
  α := AlE
  obs := fun s => obsE n fa fn ts tf cl ex s.heap.get?
  val := fun w => valE fn ts cl w
  says := fun w h => ∃ K : PySem.W.Frag, K.In h ∧ SaysE fa fn ts tf cl ex w h K
  of := fun _ _ e => ⟨_, He.frT_in, says_of e⟩
  keeps := fun _ _ _ ⟨K, hK, c⟩ k => ⟨K, PySem.W.Frag.In.keeps hK k, ⟨⟨c.x.t, c.x.more, c.x.hd, c.x.out, fun p hp => k _ _ (c.x.empty p hp)⟩, c.c⟩⟩
theorem obsE_eq {n : Nat} {fa : List He.Fa} {fn : List He.DefD} {ts : List He.Tab} {tf : List He.Defn} {cl : List DefC} {ex : PySem.W.Frag → Bool} {g : Addr → Option Obj} {s : Shared} (h : ∀ a, g a = s.heap.get? a) : obsE n fa fn ts tf cl ex g = (hookE n fa fn ts tf cl ex).obs s := by
  have e : g = s.heap.get? := funext h
  rw [e] <;> rfl
theorem SaysE.clo {fa : List He.Fa} {fn : List He.DefD} {ts : List He.Tab} {tf : List He.Defn} {cl : List DefC} {ex : PySem.W.Frag → Bool} {w : World} {h : Heap} {K : PySem.W.Frag} (c : SaysE fa fn ts tf cl ex w h K) {q : DefC} (hq : q ∈ cl) : fnC K q.1 = q.2 := by
  obtain ⟨i, hi, e⟩ := List.mem_iff_getElem.mp hq
  have z : (cl.map (fun q => fnC K q.1))[i]? = (cl.map (·.2))[i]? := by rw [c.c]
  rw [List.getElem?_map, List.getElem?_map, List.getElem?_eq_getElem hi, e] at z
  exact Option.some.inj z
/-! ### an error's class -/
def oV (a b : Option Value) : Bool := decide (a = b)
def codeRest (K : PySem.W.Frag) (C fI : Addr) (file : Str) : Bool := match K.lookup fI with
  | some ⟨_, _, .func fd, _⟩ => (match fd.code, fd.closure, fd.defaults with
    | .ref cda, [(_, cc)], .none => PySem.W.codeIn K (.ref cda) fd.qualname && ((match K.lookup cc with
      | some ⟨_, _, .cell (some (.ref D)), _⟩ => decide (D = C)
      | _ => false) && (match K.lookup cda with
      | some ⟨_, _, .fields vs, _⟩ => (match (vs[2]? : Option Value) with
        | some (Value.str f _) => decide (f = file)
        | _ => false)
      | _ => false))
    | _, _, _ => false)
  | _ => false
def errB (file : Str) (K : PySem.W.Frag) (x : Str) (B ini nw : String) (bmB : List Value) (fs : List Str) : Bool :=
  (PySem.W.excInitIn K (He.ga K x) bmB nw && (He.eqO (PySem.W.ks_superIn K (He.ga K x) (He.ga K x) "__init__") (some (some (.builtin ini))) && decide (PySem.W.subIn K (.ref (He.ga K x)) (.type B) = some true))) &&
  ((decide ((PySem.W.clsIn K (He.ga K x)).map (·.hasDict) = some true) && (He.eqO (PySem.W.findIn K (.ref (He.ga K x)) "__setattr__") (some (some (.builtin "object.__setattr__"))) &&
    He.eqO (PySem.W.findIn K (.ref (He.ga K x)) "__init__") (some (some (.ref (He.ma K (He.ga K x) "__init__")))))) &&
  ((oV (PySem.W.typeIn K (.ref (He.ma K (He.ga K x) "__init__"))) (some (.type "function")) && (codeRest K (He.ga K x) (He.ma K (He.ga K x) "__init__") file && fs.all fun f => He.eqO (PySem.W.findIn K (.ref (He.ga K x)) f) (some none))) &&
  ((decide (PySem.W.subIn K (.ref (He.ga K x)) (.type "BaseException") = some true) && (oV (PySem.W.typeIn K (.ref (He.ga K x))) (some (.type "type")) && PySem.W.keepIn K (.ref (He.ga K x)))) &&
  ((He.eqO (PySem.W.findIn K (.ref (He.ga K x)) "__getattribute__") (some (some (.builtin "BaseException.__getattribute__"))) && (He.eqO (PySem.W.findIn K (.ref (He.ga K x)) "__getattr__") (some none) && PySem.W.hasDictIn K (He.ga K x))) &&
  (He.eqO (PySem.W.findIn K (.ref (He.ga K x)) "__class__") (some (some (.builtin "object.__class__"))) && (decide (PySem.W.mroIn K (He.ga K x) (.type "object") = some true) && He.eqO (PySem.W.nsIn K mainGlobals x) (some (some (.ref (He.ga K x))))))))))
def allB (K : PySem.W.Frag) : Bool := (He.eqO (PySem.W.nsIn K cStatics "thirdparty.any") (some none) && He.eqO (PySem.W.nsIn K mainGlobals "super") (some none)) &&
  ((He.eqO (PySem.W.specialIn K (.builtin "object.__class__") "__get__") (some (some (.builtin "getset_descriptor.__get__"))) && decide (PySem.W.takesIn K (.builtin "object.__class__") = some true)) &&
  (match K.lookup sysModules with
  | some o => decide (o.cls = .type "dict")
  | none => false))
structure AllF (K : PySem.W.Frag) : Prop where
  opq : PySem.W.nsIn K cStatics "thirdparty.any" = some none
  sup : PySem.W.nsIn K mainGlobals "super" = some none
  sg : PySem.W.specialIn K (.builtin "object.__class__") "__get__" = some (some (.builtin "getset_descriptor.__get__"))
  tk : PySem.W.takesIn K (.builtin "object.__class__") = some true
  sys : KSys K
theorem allB_ok {K : PySem.W.Frag} (h : allB K = true) : AllF K := by
  obtain ⟨h1, h⟩ := He.ba h
  obtain ⟨h1, h2⟩ := He.ba h1
  obtain ⟨h3, h⟩ := He.ba h
  obtain ⟨h3, h4⟩ := He.ba h3
  refine ⟨He.eqO_ok h1, He.eqO_ok h2, He.eqO_ok h3, of_decide_eq_true h4, ?_⟩
  split at h
  · rename_i o ho
    exact ⟨o, ho, of_decide_eq_true h⟩
  · cases h
/-- all that is known of an error's class -/
structure Err (P : Program) (K : PySem.W.Frag) (C : Addr) (fs : List Str) : Prop where
  made : ∃ fI fd, ErrC P K C fI fd fs ∧ ErrB fd fs
  xf : XfC K C
  xi : XiC K C
  no : ∀ f ∈ fs, PySem.W.findIn K (.ref C) f = some none
theorem err_ok {P : Program} {K : PySem.W.Frag} {x q : Str} {B ini N nw : String} {bmB : List Value} {fs : List Str} {params : Arguments} {body : List Stmt} {sc : Scope} (bf : BaseF B ini N nw bmB) (h : errB P.main.file K x B ini nw bmB fs = true) (ha : AllF K)
    (hF : fnC K (x, some "__init__") = (some ("__init__", q, params, .stmts body, sc, mainGlobals, ["__class__"], builtinsNs) : FnC)) (IT : InitT params body sc fs) (htop : (P.main.scope.names.lookup ("super" : Str)).isSome = false)
    (hb : ∀ (kV doc pm : Value) (an : Option Addr) (cdv ct : Value) (cc : Addr), ErrB (PySem.W.ksFn "__init__" q params body sc .none kV doc pm an cdv ct cc) fs) : Err P K (He.ga K x) fs := by
  unfold errB at h
  obtain ⟨h1, h⟩ := He.ba h
  obtain ⟨h1, h2⟩ := He.ba h1
  obtain ⟨h2, h3⟩ := He.ba h2
  obtain ⟨h4, h⟩ := He.ba h
  obtain ⟨h4, h5⟩ := He.ba h4
  obtain ⟨h5, h6⟩ := He.ba h5
  obtain ⟨h7, h⟩ := He.ba h
  obtain ⟨h7, h8⟩ := He.ba h7
  obtain ⟨h8, h9⟩ := He.ba h8
  obtain ⟨h10, h⟩ := He.ba h
  obtain ⟨h10, h11⟩ := He.ba h10
  obtain ⟨h11, h12⟩ := He.ba h11
  obtain ⟨h13, h⟩ := He.ba h
  obtain ⟨h13, h14⟩ := He.ba h13
  obtain ⟨h14, h15⟩ := He.ba h14
  obtain ⟨h16, h⟩ := He.ba h
  obtain ⟨h17, h18⟩ := He.ba h
  have no : ∀ f ∈ fs, PySem.W.findIn K (.ref (He.ga K x)) f = some none := fun f hf => He.eqO_ok (List.all_eq_true.mp h9 f hf)
  have cl : (PySem.W.clsIn K (He.ga K x)).isSome = true := by
    have z := of_decide_eq_true h4
    cases q : PySem.W.clsIn K (He.ga K x) with
    | none =>
      rw [q] at z
      cases z
    | some c => rfl
  refine ⟨?_, ⟨He.eqO_ok h13, He.eqO_ok h14, of_decide_eq_true h10, h15⟩, ⟨cl, He.eqO_ok h13, He.eqO_ok h14, of_decide_eq_true h10, He.eqO_ok h16, ha.sg, ha.tk, of_decide_eq_true h17⟩, no⟩
  have e1 : He.fAd K (x, some "__init__") = He.ma K (He.ga K x) "__init__" := rfl
  unfold fnC at hF
  rw [e1] at hF
  unfold codeRest at h8
  cases lk : K.lookup (He.ma K (He.ga K x) "__init__") with
  | none =>
    rw [lk] at h8
    cases h8
  | some o =>
    obtain ⟨oc, od, dt, osl⟩ := o
    rw [lk] at h8 hF
    cases dt with
    | func fd =>
      obtain ⟨n1, n2, n3, n4, n5, n6, n7, n8, n9, n10, n11, n12, n13, n14, n15⟩ := fd
      have e2 : (some (n1, n2, n3, n4, n5, n6, n7.map (·.1), n15) : FnC) = (some ("__init__", q, params, .stmts body, sc, mainGlobals, ["__class__"], builtinsNs) : FnC) := hF
      simp only [Option.some.injEq, Prod.mk.injEq] at e2
      obtain ⟨g1, g2, g3, g4, g5, g6, g7, g8⟩ := e2
      subst g1 g2 g3 g4 g5 g6 g8
      dsimp only at h8
      split at h8
      · rename_i cda z cc
        have ez : z = "__class__" := by
          have := g7
          simpa using this
        subst ez
        obtain ⟨c1, c2⟩ := He.ba h8
        obtain ⟨c2, c3⟩ := He.ba c2
        refine ⟨_, _, ⟨⟨B, ini, N, nw, bmB, bf, h1, He.eqO_ok h2, of_decide_eq_true h3⟩, of_decide_eq_true h4, He.eqO_ok h5, He.eqO_ok h6, of_decide_eq_true h7,
          ⟨_, _, _, _, _, _, _, _, cda, _, cc, _, _, _, rfl, lk, IT, c1, ?_, ?_⟩, ha.opq, ha.sup, htop, no, of_decide_eq_true h10, of_decide_eq_true h11, h12⟩, hb _ _ _ _ _ _ _⟩
        · split at c2
          · rename_i D _ hc
            cases of_decide_eq_true c2
            exact ⟨_, _, _, hc⟩
          · cases c2
        · split at c3
          · rename_i vs _ hc
            split at c3
            · rename_i f tf hv
              cases of_decide_eq_true c3
              exact ⟨_, _, vs, _, tf, hc, hv⟩
            · cases c3
          · cases c3
      · cases h8
    | _ => cases h8
end Xr
set_option maxHeartbeats 4000000
namespace Xr
open PySem PySem.Spec PyProof.Rows L2
/-- a def that keeps its promise, however its function object looks -/
def OkF (P : Program) (w : World) (K : PySem.W.Frag) (mg : Str → Option Value) (base : Heap) (CX : CXT) (k : Nat) (f : Addr) (ps : List Str) (sp : Sp) : Prop :=
  ∃ fd, FnOk P w K mg base CX k f fd ps sp ∧ Binds K fd ps [] ∧ PySem.W.keepIn K (.ref f) = true
section
variable {X : Cx} {CX : CXT} {k : Nat} {f C : Addr} {ps fs : List Str} {sp : Sp} {E : XK} {x : Str} {p pos : Pos} {e : Expr} {es : List Expr} {t : TA} {kws : List Keyword}
theorem pe_f (G : OkF X.prog X.w X.K X.mg X.base CX k f ps sp) (hr : Room k X.A) (hg : Gl X x) (hm : X.mg x = some (.ref f)) (hx : Passes CX X E) (ha : PA X (e :: es) t)
    (hdb : (x == ("__debug__" : Str)) = false := by decide) (he : starEach (e :: es) X.env = (false, eval e X.env) :: starEach es X.env := by rfl) (hpl : (backTo pos (starEach es X.env)).any (·.1) = false := by rfl) :
    PE X (.Call (.Name x p) (e :: es) [] pos) (tCall sp [] E t) := by
  obtain ⟨fd, F, b, kp⟩ := G
  exact pe_call F hr hg hm kp b .nil hx ha hdb he hpl
theorem pe_errP (T : Err X.prog X.K C fs) (h3 : fs.length ≤ 3) (hr : Room 1 X.A) (hg : Gl X x) (hm : X.mg x = some (.ref C)) (ha : PA X (e :: es) t)
    (hdb : (x == ("__debug__" : Str)) = false := by decide) (he : starEach (e :: es) X.env = (false, eval e X.env) :: starEach es X.env := by rfl) (hpl : (backTo pos (starEach es X.env)).any (·.1) = false := by rfl) :
    PE X (.Call (.Name x p) (e :: es) [] pos) (tErr C fs t) := by
  obtain ⟨fI, fd, T1, b⟩ := T.made
  exact pe_err T1 b h3 hr hg hm ha hdb he hpl
theorem pe_errE (T : Err X.prog X.K C fs) (hr : Room 1 X.A) (hg : Gl X x) (hm : X.mg x = some (.ref C)) (hkw : PK X kws t)
    (hall : (backToKw pos (keywordEach kws X.env)).all (·.1.isSome) = true := by rfl) (hks : (backToKw pos (keywordEach kws X.env)).filterMap (·.1) = fs.reverse := by rfl) (hdb : (x == ("__debug__" : Str)) = false := by decide)
    (hpl : ((backTo pos (starEach [] X.env)).any (·.1) || (backToKw pos (keywordEach kws X.env)).any (·.1.isNone)) = false := by rfl) :
    PE X (.Call (.Name x p) [] kws pos) (tErrK C fs t) := by
  obtain ⟨fI, fd, T1, b⟩ := T.made
  exact pe_errK T1 b hr hg hm hkw hall hks hdb hpl
end
/-- a statement and what follows it, met at a word of one's own -/
inductive CutP (t u : TS) (D : Ends) (σ : L2.St) (H : Hp) : Prop
  | mk (J : L2.St → Hp → Prop) (h : t { D with nx := J } σ H) (k : ∀ σ' H', J σ' H' → u D σ' H') : CutP t u D σ H
def tCut (t u : TS) : TS := CutP t u
theorem pss_cut {X : Cx} {st : Stmt} {rest : List Stmt} {t u : TS} (h1 : PS X st t) (h2 : PSs X rest u) : PSs X (st :: rest) (tCut t u) := by
  constructor
  rintro pins s σ H D I ⟨J, h, hJ⟩
  refine wpAny_execs_cons (thn (h1.run pins s σ H { D with nx := J } I h) ?_)
  rintro (_ | _ | _ | v) s1 q
  · obtain ⟨σ', H', I', q⟩ := q
    exact h2.run pins s1 σ' H' D I' (hJ _ _ q)
  · exact q
  · exact q
  · exact q
/-- an expression, met at a word of one's own -/
inductive CutE (t : TE) (σ : L2.St) (H : Hp) (Q : VK) : Prop
  | mk (J : V → Hp → Prop) (h : t σ H J) (k : ∀ v H', J v H' → Q v H') : CutE t σ H Q
def tCutE (t : TE) : TE := CutE t
theorem pe_cut {X : Cx} {e : Expr} {t : TE} (h : PE X e t) : PE X e (tCutE t) := by
  constructor
  rintro pins s σ H Q I ⟨J, h1, h2⟩
  refine thn (h.run pins s σ H J I h1) ?_
  rintro u s1 ⟨v, H1, I1, r, q⟩
  exact ⟨v, H1, I1, r, h2 _ _ q⟩
/-! the heads of readings, unfolded one by one -/
section
variable {t u : TS} {D : Ends} {σ : L2.St} {H : Hp} {te ta tb : TE} {g : TG} {Q : VK} {ts : TA} {QL : List V → Hp → Prop} {c : TT} {QB : Bool → Hp → Prop} {r : R2}
theorem hd_seq : tSeq t u D σ H = t { D with nx := u D } σ H := rfl
theorem hd_asg : tAsg te g D σ H = te σ H fun x H1 => g x σ H1 D.nx := rfl
theorem hd_lst : tLst ts σ H Q = ts σ H fun xs H1 => xs.length ≤ sizeLine ∧ ∀ p, H1 p = none → Q (.ref p) (upd H1 p (.lst xs)) := rfl
theorem hd_tup : tTup ts σ H Q = ts σ H fun xs H1 => xs.length ≤ sizeLine ∧ ∀ p, H1 p = none → Q (.ref p) (upd H1 p (.tup xs)) := rfl
theorem hd_cons : tCons te ts σ H QL = te σ H fun x H1 => ts σ H1 fun xs H2 => QL (x :: xs) H2 := rfl
theorem hd_op : tOp r ta tb σ H Q = ta σ H fun x H1 => tb σ H1 fun y H2 => r x y H2 Q := rfl
theorem hd_ret : tRet te D σ H = te σ H D.rt := rfl
theorem hd_test : tTest te σ H QB = te σ H fun x H' => ∃ k, x = .bl k ∧ QB k H' := rfl
theorem hd_if : tIfS c t u D σ H = c σ H fun b H1 => if b = true then t D σ H1 else u D σ H1 := rfl
end
theorem same_new {H : Hp} {q : Addr} {o : HO} (n : H q = none) : Same H (upd H q o) := fun c u h => by
  rw [upd_ne (ne_of_none h n)]
  exact h
/-- a comprehension over a range whose test and element only read -/
theorem lcR {lo : Int} {n k : Nat} {tt : TT} {te : TE} {vs : List Nat} {σ : L2.St} {H1 : Hp} {D : Addr} {Qd : Hp → Prop} (B : Nat → Bool) (F : Nat → V) (hD : H1 D = none) (hn : n ≤ 100000)
    (hw : ∀ i : Nat, wipe ((wipe σ vs).set k (some (.int (lo + i)))) vs = wipe σ vs)
    (ht : ∀ (i : Nat) H', i < n → Same H1 H' → ∀ Qb : Bool → Hp → Prop, (∀ H'', Same H' H'' → Qb (B i) H'') → tt ((wipe σ vs).set k (some (.int (lo + i)))) H' Qb)
    (he : ∀ (i : Nat) H', i < n → B i = true → Same H1 H' → ∀ Q : VK, (∀ H'', Same H' H'' → Q (F i) H'') → te ((wipe σ vs).set k (some (.int (lo + i)))) H' Q)
    (hd : ∀ H', Same H1 H' → H' D = some (.lst (((List.range n).filter B).map F)) → Qd H') :
    ∃ W : Nat → Nat → Hp → Prop, (∃ m, W 0 m (upd H1 D (.lst []))) ∧ ∀ i m H, W i m H →
      ((Itr lo n).stop i H ∧ Qd H) ∨ ((Itr lo n).go i H ∧ ∃ Nx : Hp → Prop, (∀ H', Nx H' → ∃ m', m' < m ∧ W (i + 1) m' H') ∧ ∀ x H', (Itr lo n).yld i H x H' → (gName k) x (wipe σ vs) H' fun σ2 H2 => wipe σ2 vs = wipe σ vs ∧ tt σ2 H2 fun b H3 =>
        if b = true then te σ2 H3 fun y H4 => ∃ acc, H4 D = some (.lst acc) ∧ acc.length < sizeLine ∧ Nx (upd H4 D (.lst (acc ++ [y]))) else Nx H3) := by
  have up : ∀ {H' : Hp} {o : HO}, Same H1 H' → Same H1 (upd H' D o) := fun s b u z => by
    rw [upd_ne (ne_of_none z hD)]
    exact s b u z
  have nx : ∀ i, (List.range (i + 1)).filter B = if B i = true then (List.range i).filter B ++ [i] else (List.range i).filter B := fun i => by
    rw [List.range_succ, List.filter_append, List.filter_cons]
    split <;> simp
  refine lc_range (fun i H' => Same H1 H' ∧ H' D = some (.lst (((List.range i).filter B).map F))) ⟨same_new hD, upd_same⟩ ?_ fun H' h => hd H' h.1 h.2
  rintro i H' hi ⟨s, hl⟩
  refine ⟨hw i, ht i H' hi s _ fun H2 s2 => ?_⟩
  cases hb : B i with
  | false =>
    refine iteF ⟨s.trans s2, ?_⟩
    rw [nx i, hb]
    exact s2 _ _ hl
  | true =>
    refine iteT (he i H2 hi hb (s.trans s2) _ fun H3 s3 => ⟨_, s3 _ _ (s2 _ _ hl), ?_, up ((s.trans s2).trans s3), ?_⟩)
    · rw [List.length_map, sizeLine_eq]
      have z := List.length_filter_le B (List.range i)
      rw [List.length_range] at z
      omega
    · rw [upd_same, nx i, hb, if_pos rfl, List.map_append]
      rfl
/-! rules whose readings name K itself, for blocks -/
theorem ix_listK {X : Cx} (K : PySem.W.Frag) (h : X.K = K := by rfl) : IxR X (rIxL K) := by
  subst h
  exact ix_list
theorem cut_ints {ns : List Int} {lo hi : Option Int} (h : ns.length ≤ 63) : ∃ ns' : List Int, cutV (ns.map V.int) lo hi = ns'.map V.int ∧ ns'.length ≤ 63 := by
  have z := cutV_length (ns.map V.int) lo hi
  rw [List.length_map] at z
  unfold cutV at z ⊢
  rw [← List.map_drop, ← List.map_take] at z ⊢
  rw [List.length_map] at z
  exact ⟨_, rfl, by omega⟩
theorem iteD {p : Prop} [Decidable p] {A B : Prop} (h1 : p → A) (h2 : ¬ p → B) : if decide p = true then A else B := by
  by_cases h : p
  · rw [if_pos (decide_eq_true h)]
    exact h1 h
  · rw [if_neg (by rw [decide_eq_false h]; exact Bool.false_ne_true)]
    exact h2 h
theorem iteN {p : Prop} [Decidable p] {A B : Prop} (h1 : ¬ p → A) (h2 : p → B) : if (!decide p) = true then A else B := by
  by_cases h : p
  · rw [decide_eq_true h]
    exact h2 h
  · rw [decide_eq_false h]
    exact h1 h
theorem iteFa {b : Bool} {A B : Prop} (h : b = false) (k : B) : if b = true then A else B := by
  subst h
  exact k
theorem iteTr {b : Bool} {A B : Prop} (h : b = true) (k : A) : if b = true then A else B := by
  subst h
  exact k
theorem iteB {b : Bool} {A B : Prop} (h1 : b = true → A) (h2 : b = false → B) : if b = true then A else B := by
  cases b with
  | true => exact h1 rfl
  | false => exact h2 rfl
theorem dp_ints {K : PySem.W.Frag} {H : Hp} : ∀ ns : List Int, DpAll K H (ns.map V.int) (ns.map PyData.int)
  | [] => .nil
  | n :: l => .cons (.int n) (dp_ints l)
theorem eqv_nil : ∀ ns : List Int, PyData.eqv (.list (ns.map PyData.int)) (.list []) = ns.isEmpty
  | [] => rfl
  | n :: l => rfl
/-- what stood at other places than p stays -/
def But (p : Addr) (H H' : Hp) : Prop := ∀ b o, H b = some o → b ≠ p → H' b = some o
theorem But.refl {p : Addr} {H : Hp} : But p H H := fun _ _ h _ => h
theorem But.of {p : Addr} {H H' : Hp} (h : Same H H') : But p H H' := fun b o e _ => h b o e
theorem But.trans {p : Addr} {H H1 H2 : Hp} (a : But p H H1) (b : But p H1 H2) : But p H H2 := fun c o h n => b c o (a c o h n) n
theorem But.upd {p : Addr} {H H1 : Hp} {o : HO} (a : But p H H1) : But p H (upd H1 p o) := fun c u h n => by
  rw [upd_ne n]
  exact a c u h n
theorem But.new {p q : Addr} {H H1 : Hp} {o : HO} (a : But p H H1) (n : H1 q = none) : But p H (L2.upd H1 q o) := fun c u h z => by
  rw [upd_ne (ne_of_none (a c u h z) n)]
  exact a c u h z
/-- the pen: its cells, the index of the next one, the rest of a great one -/
structure PenAt (H : Hp) (p q : Addr) (ns : List Int) (at_ rest : Int) : Prop where
  pen : H p = some (.lst [.ref q, .int at_, .int rest])
  cells : H q = some (.lst (ns.map V.int))
  len : ns.length ≤ 63
  a0 : 0 ≤ at_
  r0 : 0 ≤ rest
theorem PenAt.ne {H : Hp} {p q : Addr} {ns : List Int} {a r : Int} (h : PenAt H p q ns a r) : q ≠ p := fun z => by
  have h1 := h.pen
  have h2 := h.cells
  rw [z, h1] at h2
  cases ns with
  | nil => cases h2
  | cons n l => cases h2
theorem PenAt.keep {H H' : Hp} {p q : Addr} {ns : List Int} {a r a' r' : Int} (h : PenAt H p q ns a r) (b : But p H H') (hp : H' p = some (.lst [.ref q, .int a', .int r'])) (h1 : 0 ≤ a') (h2 : 0 ≤ r') : PenAt H' p q ns a' r' :=
  ⟨hp, b q _ h.cells h.ne, h.len, h1, h2⟩
theorem PenAt.same {H H' : Hp} {p q : Addr} {ns : List Int} {a r : Int} (h : PenAt H p q ns a r) (b : Same H H') : PenAt H' p q ns a r :=
  ⟨b p _ h.pen, b q _ h.cells, h.len, h.a0, h.r0⟩
/-- a draw: a number below many; the pen goes on -/
def spDraw : Sp := fun vs H Q _ => ∃ (p q : Addr) (ns : List Int) (a r m : Int), vs = [.ref p, .int m] ∧ PenAt H p q ns a r ∧ 1 ≤ m ∧ m ≤ 100000 ∧ a ≤ 1000000 ∧
  ∀ (d a' r' : Int) (H' : Hp), 0 ≤ d → d < m → a ≤ a' → a' ≤ a + 1 → But p H H' → PenAt H' p q ns a' r' → Q (.int d) H'
def spPen (K : PySem.W.Frag) : Sp := fun vs H Q _ => ∃ (a : Addr) (ns : List Int), vs = [.ref a] ∧ SqL K H a (ns.map V.int) ∧ ns.length ≤ 63 ∧
  ∀ (p q : Addr) (ns' : List Int) (H' : Hp), H p = none → Same H H' → PenAt H' p q ns' 0 0 → Q (.ref p) H'
end Xr
set_option maxHeartbeats 4000000
/-! operators, comparisons, truth, length, subscripts of instances of own classes -/
namespace Xr
open PySem PySem.Spec L2
section low
open PySem.W
variable {prog : Program} {w : World} {A : Around} {E : Value → Shared → Prop} {s : Shared} {K : Frag} {x C L f : Addr} {h₀ : Heap} {m : Str → Option Value} {ox : Obj} {od : Option Obj}
/-- truth by an own __len__ -/
theorem truthy_len {Q : Bool → Shared → Prop} (X : K.In s.heap) (I : InstAt s.heap x ox C od) (hb : findIn K (.ref C) "__bool__" = some none) (hs : findIn K (.ref C) "__len__" = some (some (.ref f))) (hf : isFn K (.ref f) = true)
    (h : wpAny (model prog w) A.in1 (call (.ref f) [.ref x]) (LenBack fun v s' => ∃ n t, v = .int n t ∧ Q (n != 0) s') E s) : wpAny (model prog w) A (truthy (.ref x)) Q E s := by
  unfold truthy
  refine wpAny_bind (m := callSpecial? (.ref x) (Str.ofString "__bool__")) (wpAny_bind (wpAny_bind (I.type.here ((looks_findIn X hb).here (wpAny_pure ?_)))))
  refine wpAny_bind (wpAny_bind (I.type.here ((looks_findIn X hs).here ?_)))
  rw [if_neg (by simp)]
  refine wpAny_bind (wpAny_runValue (codeAny_builtin PySem.entry_len ?_))
  rw [Around.under_plainId PySem.plain_len]
  unfold Builtin.«len»
  refine wpAny_bind (m := oneArg "len" _) (wpAny_pure ?_)
  refine wpAny_bind (m := callSpecial? (.ref x) (Str.ofString "__len__")) (special_fn X I hs (beq_iff_eq.mp hf) (wpAny_mono h (fun r s' hr => ?_) fun _ _ y => y))
  cases r <;> first | exact hr.elim | skip
  rename_i n u
  obtain ⟨⟨h0, h1⟩, n', t', e, hq⟩ := hr
  cases e
  refine wpAny_bind (wpAny_holding (wpAny_pure ?_))
  refine wpAny_bind (wpAny_letGo ?_)
  show wpAny _ _ (if n < 0 then _ else _) _ _ _
  rw [if_neg (by omega)]
  show wpAny _ _ (if n ≥ 2 ^ 63 then _ else _) _ _ _
  rw [if_neg (by omega)]
  exact wpAny_bind (wpAny_mkInt (wpAny_pure (wpAny_pure hq)))
/-- != where the class has an own __eq__ alone -/
theorem ne_K {b tb : Value} {Q : Value → Shared → Prop} (hu : A.units + 1 < cLine) (X : K.In s.heap) (I : InstAt s.heap x ox C od) (hb : Looks (model prog w) s.heap (typeOf b) tb) (hn : notFirst K C tb = true)
    (ho : mroIn K C (.type "object") = some true) (hs : findIn K (.ref C) "__ne__" = some (some (.builtin "object.__ne__"))) (he : findIn K (.ref C) "__eq__" = some (some (.ref f))) (hf : isFn K (.ref f) = true)
    (h : wpAny (model prog w) A.in1 (call (.ref f) [.ref x, b]) (fun v s' => ∃ k, v = .bool k ∧ Q (.bool (!k)) s') E s) : wpAny (model prog w) A (richCompare .NotEq (.ref x) b) Q E s := by
  have sub : Looks (model prog w) s.heap (isInstance (.ref x) (.type "object")) true := I.type.andThen (looks_mroIn X ho)
  have one : wpAny (model prog w) A (tryCompare (.ref x) "__ne__" b) (fun r s' => ∃ v, r = some v ∧ Q v s') E s := by
    unfold tryCompare
    simp only [callSpecialIfBound?, bindSpecialIfBound?]
    have ob : ∀ self : Value, bindSpecial (.builtin "object.__ne__") self = pure (.builtin "object.__ne__", [self]) := fun self => by kernel_rfl
    have fin : wpAny (model prog w) A (call (.builtin "object.__ne__") ([.ref x] ++ [b]) >>= fun v => pure (some v)) (fun r s' => ∃ k, r = some (.bool k) ∧ Q (.bool k) s') E s := by
      refine wpAny_bind (wpAny_call (codeAny_call_builtin (by decide +kernel) F.cmpEntry_ne (check_slot F.cmpKind_ne F.cmpSplit_ne sub (F.cmpArgs_ne _ _) ?_)))
      unfold Builtin.«object.__ne__»
      refine wpAny_bind (m := slotArgs "__ne__" 1 _) (wpAny_pure ?_)
      refine wpAny_bind (wpAny_cRoomFor hu ?_)
      refine wpAny_bind (m := callSpecialIfBound? (.ref x) (Str.ofString "__eq__") _) (ifBound_K X I he hf (wpAny_mono h (fun r s' hr => ?_) fun _ _ y => y))
      obtain ⟨k, rfl, hq⟩ := hr
      exact wpAny_bind (wpAny_truthy_bool (wpAny_pure (wpAny_pure ⟨!k, rfl, hq⟩)))
    have fin2 := wpAny_mono fin (Q' := fun a s' => wpAny (model prog w) A (match a with
        | some Value.notImplemented => pure none
        | none => pure none
        | some r => pure (some r)) (fun r s' => ∃ v, r = some v ∧ Q v s') E s') (fun r s' hr => by
      obtain ⟨k, rfl, hq⟩ := hr
      exact wpAny_pure ⟨_, rfl, hq⟩) fun _ _ z => z
    refine wpAny_bind (wpAny_holding (wpAny_bind (wpAny_bind (wpAny_bind (I.type.here ((looks_findIn X hs).here ?_))))))
    refine wpAny_bind (wpAny_askSetting (wpAny_ite ?_))
    split
    · rw [ob]
      exact wpAny_bind (wpAny_pure (wpAny_pure (by exact fin2)))
    · rw [ob]
      exact wpAny_tryCatch (wpAny_bind (wpAny_pure (wpAny_pure (by exact fin2))))
  unfold richCompare
  simp only [oneThing_ref]
  refine wpAny_holding (wpAny_bind (wpAny_cRoomFor (Nat.lt_of_succ_lt hu) ?_))
  rw [cmpInfo_NotEq]
  dsimp only
  refine wpAny_bind (I.type.here (wpAny_bind (hb.here ?_)))
  split
  · rename_i q
    have e : subIn K tb (.ref C) = some false := by
      rcases Bool.or_eq_true_iff.mp hn with e | e
      · rw [beq_iff_eq.mp e] at q; simp at q
      · exact beq_iff_eq.mp e
    refine wpAny_bind ((looks_subIn X e).here ?_)
    simp only [Bool.false_eq_true, if_false]
    refine wpAny_bind (wpAny_mono one (fun r s' z => ?_) fun _ _ e => e)
    obtain ⟨v, rfl, hq⟩ := z
    exact wpAny_pure hq
  · refine wpAny_bind (wpAny_pure ?_)
    simp only [Bool.false_eq_true, if_false]
    refine wpAny_bind (wpAny_mono one (fun r s' z => ?_) fun _ _ e => e)
    obtain ⟨v, rfl, hq⟩ := z
    exact wpAny_pure hq
end low
end Xr
set_option maxHeartbeats 4000000
namespace Xr
open PySem PySem.Spec PyProof.Rows L2
section
variable {prog : Program} {w : World} {A : Around} {E : Value → Shared → Prop} {s : Shared}
/-- bool(x), by truth -/
theorem bool_of {x : Value} {Q : Value → Shared → Prop} (h : wpAny (model prog w) A.in1.in1 (truthy x) (fun b s' => Q (.bool b) s') E s) : wpAny (model prog w) A (call (.type "bool") [x]) Q E s := by
  refine callType_codes (T := "bool") (Bi := Builtin.«object.__init__») (Q₁ := fun r s₁ => ∃ b, r = Value.bool b ∧ Q r s₁) PySem.F.called_bool (PySem.F.typeCall_bool_1 _) PySem.F.entry_object_init ?_ ?_
  · refine codeAny_of_tree ?_
    show wpAny _ A.in1.in1 (do checkBuiltinCall "bool.__new__" ⟨[.type "bool", x], []⟩; again (.builtin "bool.__new__" ⟨[.type "bool", x], []⟩)) _ _ s
    refine wpAny_bind (wpAny_of_eq (PySem.F.newCall_bool_1 _) (wpAny_pure ⟨plainId_quiet (by decide +kernel) _, codeAny_builtin PySem.F.entry_bool_new ?_⟩))
    rw [Around.under_plainId (by decide +kernel) _]
    unfold Builtin.«bool.__new__»
    refine wpAny_bind (wpAny_of_eq (a := true) (by kernel_rfl) ?_)
    refine PySem.W.KFB.if_not rfl ?_
    refine wpAny_bind (wpAny_of_eq (a := true) PySem.F.conv_sub_bool ?_)
    refine PySem.W.KFB.if_not rfl ?_
    refine wpAny_bind (wpAny_of_eq (a := [x]) rfl ?_)
    refine wpAny_bind (wpAny_mono h (fun b s' q => ?_) fun _ _ y => y)
    exact wpAny_pure ⟨b, rfl, q⟩
  · rintro obj s₁ ⟨b, rfl, hq⟩
    exact ⟨PySem.typeIs_bool _ _, PySem.F.args_object_init_2 _ _, object_init_meets PySem.F.called_bool.init.lookup PySem.F.called_bool.made (by decide) prog w A.in1 _ s₁ ⟨PySem.typeIs_bool _ _, rfl, hq⟩⟩
end
section
variable {X : Cx} {CX : CXT} {pins : List (Addr × Obj)} {σ : L2.St} {H : Hp} {s : Shared} {a C f : Addr} {k : Nat} {sp : Sp} {E : XK}
theorem back_of {Q : VK} {u : Value} {s' : Shared} (h : EP X pins σ Q u s') : PySem.W.CmpBack (EP X pins σ Q) u s' := by
  obtain ⟨v, H', I, r, q⟩ := id h
  unfold PySem.W.CmpBack
  split
  · cases v with
    | int i =>
      obtain ⟨t, z⟩ := r
      cases z
    | str i =>
      obtain ⟨t, z⟩ := r
      cases z
    | byt i =>
      obtain ⟨t, z⟩ := r
      cases z
    | flt i =>
      obtain ⟨t, z⟩ := r
      cases z
    | _ => cases r
  · exact h
/-- an own def runs below the running body -/
theorem run_in {A : Around} {Q : VK} {us : List Value} {vs : List V} (F : FnR X.prog X.w X.K X.mg X.base CX k f sp) (hr : Room k A) (hA : A.frames = X.A.frames) (hx : Passes CX X E) (I : Inv X pins σ H s) (r : Vals vs us) (h : sp vs H Q E) :
    wpAny (model X.prog X.w) A (call (.ref f) us) (EP X pins σ Q) X.xe s := by
  have e := I.env0
  exact wpAny_call (SlX.run_at F hr ⟨by rw [hA]; exact e.frames, e.mod, e.bs, e.bsz, e.funs, e.frf, e.hok, e.bare⟩ hx I r h)
theorem inst_of {dx : Addr} {fs : List (Str × V)} (I : Inv X pins σ H s) (e : H a = some (.ins C dx fs)) : ∃ od, PySem.W.InstAt s.heap a (PySem.W.instObj C dx) C (some od) := by
  obtain ⟨mA, O, _⟩ := ins_get I.hok e
  obtain ⟨od, J, _⟩ := O.look
  exact ⟨od, J⟩
/-- the type of a value, as typeOf tells it -/
theorem ty_looks {x : V} {u t : Value} (I : Inv X pins σ H s) (rx : RelV x u) (ty : TyX X.K H x t) : PySem.W.Looks (model X.prog X.w) s.heap (typeOf u) t := by
  obtain ⟨P, k, p, _⟩ := kit_of I rx ty
  exact k.ty _ _ I.kIn p
/-- a special method of the class at C, found as the def at f -/
structure Sm (K : PySem.W.Frag) (C : Addr) (m : Str) (f : Addr) : Prop where
  at_ : PySem.W.findIn K (.ref C) m = some (some (.ref f))
  fn : PySem.W.isFn K (.ref f) = true
def rOp (C : Addr) (sp : Sp) (E : XK) : R2 := fun x y H Q => ∃ a b dx dy fs gs, x = .ref a ∧ y = .ref b ∧ H a = some (.ins C dx fs) ∧ H b = some (.ins C dy gs) ∧ sp [x, y] H Q E
/-- a op b, both of the class at C -/
theorem op_own {op : Operator} (hc : PySem.W.selfFirst X.K C = true) (h : Sm X.K C (PySem.dunder op.info.2) f) (F : FnR X.prog X.w X.K X.mg X.base CX k f sp) (hr : Room k X.A) (hx : Passes CX X E) : OpR X (binaryOp op) (rOp C sp E) := by
  intro pins s σ H x y v u Q I rx ry q
  obtain ⟨a, b, dx, dy, fs, gs, rfl, rfl, ha, hb, q⟩ := q
  cases rx
  cases ry
  obtain ⟨od, J⟩ := inst_of I ha
  obtain ⟨od', J'⟩ := inst_of I hb
  obtain ⟨m, hF⟩ := I.fr
  refine PySem.W.binop_K hF I.ok.mod.kin J J'.type hc h.at_ h.fn (wpAny_mono (run_in (us := [.ref a, .ref b]) (vs := [.ref a, .ref b]) F hr rfl hx I (.cons rfl (.cons rfl .nil)) q) (fun _ _ z => back_of z) fun _ _ z => z)
def rOpI (C : Addr) (sp : Sp) (E : XK) : R2 := fun x y H Q => ∃ a dx fs i, x = .ref a ∧ y = .int i ∧ H a = some (.ins C dx fs) ∧ sp [x, y] H Q E
/-- a op n, n a whole number -/
theorem op_ownI {op : Operator} {fo ro : Option Value} (hc : PySem.W.selfFirst X.K C = true) (h : Sm X.K C (PySem.dunder op.info.2) f) (h0 : PySem.W.findIn X.K (.ref C) (dunderR op.info.2) = some none) (h1 : PySem.W.findIn X.K (.type "int") (PySem.dunder op.info.2) = some fo)
    (h2 : PySem.W.findIn X.K (.type "int") (dunderR op.info.2) = some ro) (hs : PySem.W.subIn X.K (.type "int") (.ref C) = some false) (F : FnR X.prog X.w X.K X.mg X.base CX k f sp) (hr : Room k X.A) (hx : Passes CX X E) : OpR X (binaryOp op) (rOpI C sp E) := by
  intro pins s σ H x y v u Q I rx ry q
  obtain ⟨a, dx, fs, i, rfl, rfl, ha, q⟩ := q
  cases rx
  obtain ⟨t, rfl⟩ := ry
  obtain ⟨od, J⟩ := inst_of I ha
  obtain ⟨m, hF⟩ := I.fr
  exact PySem.W.ksp_binT hF I.ok.mod.kin J rfl hc h.at_ h.fn h0 (.inl rfl) h1 h2 hs (wpAny_mono (run_in (us := [.ref a, .int i t]) (vs := [.ref a, .int i]) F hr rfl hx I (.cons rfl (.cons ⟨t, rfl⟩ .nil)) q) (fun _ _ z => back_of z) fun _ _ z => z)
def rUn (C : Addr) (sp : Sp) (E : XK) : V → Hp → VK → Prop := fun x H Q => ∃ a dx fs, x = .ref a ∧ H a = some (.ins C dx fs) ∧ sp [x] H Q E
/-- -a -/
theorem un_own (h : Sm X.K C "__neg__" f) (F : FnR X.prog X.w X.K X.mg X.base CX k f sp) (hr : Room k X.A) (hx : Passes CX X E) : UnR X (unaryOp .USub) (rUn C sp E) := by
  intro pins s σ H x v Q I rx q
  obtain ⟨a, dx, fs, rfl, ha, q⟩ := q
  cases rx
  obtain ⟨od, J⟩ := inst_of I ha
  obtain ⟨m, hF⟩ := I.fr
  exact PySem.W.ksp_neg hF I.ok.mod.kin J h.at_ h.fn (run_in (us := [.ref a]) (vs := [.ref a]) F hr rfl hx I (.cons rfl .nil) q)
/-- a == y by an own __eq__ -/
def rEqO (K : PySem.W.Frag) (C : Addr) (sp : Sp) (E : XK) : R2 := fun x y H Q => ∃ a dx fs t, x = .ref a ∧ H a = some (.ins C dx fs) ∧ TyX K H y t ∧ PySem.W.notFirst K C t = true ∧ sp [x, y] H Q E
theorem op_eqO (h : Sm X.K C "__eq__" f) (F : FnR X.prog X.w X.K X.mg X.base CX k f sp) (hr : Room k X.A) (hx : Passes CX X E) : OpR X (compareOp .Eq) (rEqO X.K C sp E) := by
  intro pins s σ H x y v u Q I rx ry q
  obtain ⟨a, dx, fs, t, rfl, ha, ht, hn, q⟩ := q
  cases rx
  obtain ⟨od, J⟩ := inst_of I ha
  obtain ⟨m, hF⟩ := I.fr
  exact PySem.W.cmp_K (op := .Eq) hr.units0 hF I.ok.mod.kin J (ty_looks I ry ht) hn h.at_ h.fn (wpAny_mono (run_in (us := [.ref a, u]) (vs := [.ref a, y]) F hr rfl hx I (.cons rfl (.cons ry .nil)) q) (fun _ _ z => back_of z) fun _ _ z => z)
/-- a != y where the class has an own __eq__ alone -/
def rNeO (K : PySem.W.Frag) (C : Addr) (sp : Sp) (E : XK) : R2 := fun x y H Q => ∃ a dx fs t, x = .ref a ∧ H a = some (.ins C dx fs) ∧ TyX K H y t ∧ PySem.W.notFirst K C t = true ∧ sp [x, y] H (fun v H' => ∃ k, v = .bl k ∧ Q (.bl (!k)) H') E
theorem op_neO (h : Sm X.K C "__eq__" f) (hne : PySem.W.findIn X.K (.ref C) "__ne__" = some (some (.builtin "object.__ne__"))) (ho : PySem.W.mroIn X.K C (.type "object") = some true) (F : FnR X.prog X.w X.K X.mg X.base CX k f sp) (hr : Room (k + 1) X.A) (hx : Passes CX X E) :
    OpR X (compareOp .NotEq) (rNeO X.K C sp E) := by
  intro pins s σ H x y v u Q I rx ry q
  obtain ⟨a, dx, fs, t, rfl, ha, ht, hn, q⟩ := q
  cases rx
  obtain ⟨od, J⟩ := inst_of I ha
  refine ne_K (by have := hr.units; omega) I.kIn J (ty_looks I ry ht) hn ho hne h.at_ h.fn (wpAny_mono (run_in (us := [.ref a, u]) (vs := [.ref a, y]) F hr.in1 rfl hx I (.cons rfl (.cons ry .nil)) q) (fun w s' z => ?_) fun _ _ z => z)
  obtain ⟨v', H', I', r', kk, rfl, q'⟩ := z
  cases r'
  exact ⟨kk, rfl, .bl (!kk), H', I', rfl, q'⟩
/-- what len tells -/
def rLenO (C : Addr) (sp : Sp) (E : XK) : List V → Hp → VK → Prop := fun xs H Q => ∃ a dx fs, xs = [.ref a] ∧ H a = some (.ins C dx fs) ∧ sp xs H (fun v H' => ∃ n : Int, v = .int n ∧ 0 ≤ n ∧ n < 2 ^ 63 ∧ Q (.int n) H') E
theorem len_back {Q : Value → Shared → Prop} {Q' : Int → Hp → Prop} (hq : ∀ (n : Int) (H' : Hp) (s' : Shared) (t : Nat), Inv X pins σ H' s' → Q' n H' → Q (.int n t) { s' with toks := t + 1 }) {u : Value} {s' : Shared}
    (h : EP X pins σ (fun v H' => ∃ n : Int, v = .int n ∧ 0 ≤ n ∧ n < 2 ^ 63 ∧ Q' n H') u s') : PySem.W.LenBack Q u s' := by
  obtain ⟨v, H', I, r, n, rfl, h0, h1, q⟩ := h
  obtain ⟨t, rfl⟩ := r
  exact ⟨⟨h0, h1⟩, hq n H' s' _ I q⟩
theorem call_lenO (h : Sm X.K C "__len__" f) (F : FnR X.prog X.w X.K X.mg X.base CX k f sp) (hr : Room (k + 1) X.A) (hx : Passes CX X E) : CallR X (.builtin "len") (rLenO C sp E) := by
  intro pins s σ H xs us Q I r q
  obtain ⟨a, dx, fs, rfl, ha, q⟩ := q
  obtain ⟨u, rfl, ru⟩ := vals1 r
  cases ru
  obtain ⟨od, J⟩ := inst_of I ha
  obtain ⟨m, hF⟩ := I.fr
  refine PySem.W.len_K hF I.ok.mod.kin J h.at_ h.fn (wpAny_mono (run_in (us := [.ref a]) (vs := [.ref a]) F hr.in1 rfl hx I (.cons rfl .nil) q) (fun w s' z => len_back (Q' := fun n H' => Q (.int n) H') (fun n H' s' t I' q' => ?_) z) fun _ _ z => z)
  exact ⟨.int n, H', I'.tok _, ⟨_, rfl⟩, q'⟩
def rTruO (C : Addr) (sp : Sp) (E : XK) : V → Hp → (Bool → Hp → Prop) → Prop := fun x H Q => ∃ a dx fs, x = .ref a ∧ H a = some (.ins C dx fs) ∧ sp [x] H (fun v H' => ∃ n : Int, v = .int n ∧ 0 ≤ n ∧ n < 2 ^ 63 ∧ Q (n != 0) H') E
theorem tru_in {A : Around} {x : V} {v : Value} {Q : Bool → Hp → Prop} (hb : PySem.W.findIn X.K (.ref C) "__bool__" = some none) (h : Sm X.K C "__len__" f) (F : FnR X.prog X.w X.K X.mg X.base CX k f sp) (hr : Room (k + 1) A) (hA : A.frames = X.A.frames) (hx : Passes CX X E)
    (I : Inv X pins σ H s) (rx : RelV x v) (q : rTruO C sp E x H Q) : wpAny (model X.prog X.w) A (truthy v) (TP X pins σ Q) X.xe s := by
  obtain ⟨a, dx, fs, rfl, ha, q⟩ := q
  cases rx
  obtain ⟨od, J⟩ := inst_of I ha
  refine truthy_len I.kIn J hb h.at_ h.fn (wpAny_mono (run_in (us := [.ref a]) (vs := [.ref a]) F hr.in1 hA hx I (.cons rfl .nil) q) (fun w s' z => len_back (Q' := fun n H' => Q (n != 0) H') (fun n H' s' t I' q' => ?_) z) fun _ _ z => z)
  exact ⟨n, t, rfl, H', I'.tok _, q'⟩
theorem tru_own (hb : PySem.W.findIn X.K (.ref C) "__bool__" = some none) (h : Sm X.K C "__len__" f) (F : FnR X.prog X.w X.K X.mg X.base CX k f sp) (hr : Room (k + 1) X.A) (hx : Passes CX X E) : TruR X (rTruO C sp E) :=
  fun pins s σ H x v Q I rx q => tru_in hb h F hr rfl hx I rx q
/-- bool(a) -/
theorem call_boolO (hb : PySem.W.findIn X.K (.ref C) "__bool__" = some none) (h : Sm X.K C "__len__" f) (F : FnR X.prog X.w X.K X.mg X.base CX k f sp) (hr : Room (k + 3) X.A) (hx : Passes CX X E) :
    CallR X (.type "bool") (fun xs H Q => ∃ x, xs = [x] ∧ rTruO C sp E x H fun b H' => Q (.bl b) H') := by
  intro pins s σ H xs us Q I r q
  obtain ⟨x, rfl, q⟩ := q
  obtain ⟨u, rfl, ru⟩ := vals1 r
  have hr2 : Room (k + 1) X.A.in1.in1 := (show Room (k + 2) X.A.in1 from Room.in1 hr).in1
  refine bool_of (wpAny_mono (tru_in hb h F hr2 rfl hx I ru q) (fun b s' z => ?_) fun _ _ z => z)
  obtain ⟨H', I', q'⟩ := z
  exact ⟨.bl b, H', I', rfl, q'⟩
/-- not a, as a value -/
theorem pe_notO {e : Expr} {pos : Pos} {ta : TE} (hb : PySem.W.findIn X.K (.ref C) "__bool__" = some none) (h : Sm X.K C "__len__" f) (F : FnR X.prog X.w X.K X.mg X.base CX k f sp) (hr : Room (k + 1) X.A) (hx : Passes CX X E) (ha : PE X e ta) :
    PE X (.UnaryOp .Not e pos) (fun σ H Q => ta σ H fun x H1 => rTruO C sp E x H1 fun b H2 => Q (.bl (!b)) H2) := by
  refine ⟨fun pins s σ H Q I h' => ?_⟩
  refine UnaryOp_ (thn (ha.run pins s σ H _ I h') fun v s1 ⟨x, H1, I1, r1, q1⟩ => ?_)
  exact not_of (thn (tru_in hb h F hr rfl hx I1 r1 q1) fun c s2 ⟨H2, I2, q2⟩ => ⟨.bl (!c), H2, I2, rfl, q2⟩)
def rIxO (C : Addr) (sp : Sp) (E : XK) : R2 := fun x y H Q => ∃ a dx fs, x = .ref a ∧ H a = some (.ins C dx fs) ∧ sp [x, y] H Q E
/-- a[y] -/
theorem pe_ixO {e i : Expr} {pos : Pos} {ta tb : TE} (h : Sm X.K C "__getitem__" f) (hfn : PySem.W.fnIn X.K f = true) (F : FnR X.prog X.w X.K X.mg X.base CX k f sp) (hr : Room (k + 1) X.A) (hx : Passes CX X E) (ha : PE X e ta) (hb : PE X i tb)
    (hsl : ∀ o j, subscripted i true o j = runValue (.builtin "lifetime.subscript" ⟨[o, j], []⟩) := by intros; rfl) : PE X (.Subscript e i pos) (tOp (rIxO C sp E) ta tb) := by
  refine ⟨fun pins s σ H Q I h' => ?_⟩
  refine Subscript_ (binT ha hb I h' fun v u s2 x y H2 I2 rx ry q => ?_)
  obtain ⟨a, dx, fs, rfl, he, q⟩ := q
  cases rx
  obtain ⟨od, J⟩ := inst_of I2 he
  obtain ⟨m, hF⟩ := I2.fr
  exact PySem.W.sub_K hF I2.ok.mod.kin J h.at_ hfn h.fn (run_in (us := [.ref a, u]) (vs := [.ref a, y]) F hr.in1 rfl hx I2 (.cons rfl (.cons ry .nil)) q) (hsl _ _)
end
end Xr
set_option maxHeartbeats 4000000
/-! super().__init__() in a plain class; def f(self, **d) -/
namespace Xr
open PySem PySem.Spec PyProof.Rows L2
section
open PySem.W
variable {prog : Program} {w : World} {A : Around} {E : Value → Shared → Prop} {K : Frag} {mg : Str → Option Value} {base : Heap} {C fI cda cc : Addr}
/-- super() of an instance: the receiver -/
theorem supRecv {s : Shared} {body : List Stmt} {q' : Str} {fd : FuncData} {sc : Scope} {L e : Addr} {m : Str → Option Value} {oc ccl cl : Value} {od cdd cld : Option Addr} {osl ccs csl : Array (Option Value)} {vs : Array Value} {tf : Tok} {p0 p1 : Pos} {whole : Sem Value} {Q : Value → Shared → Prop} {ox : Obj} {ar : Arg}
    (hk : sc.kind = .function) (hks : sc.names.lookup ("super" : Str) = some .globalImplicit) (hkc : sc.names.lookup ("__class__" : Str) = some .free) (ha : (fd.params.posonlyargs ++ fd.params.args).head? = some ar) (hla : sc.names.lookup ar.arg = some .local)
    (M : L2.Mod K mg base) (st : ∀ b o, base.get? b = some o → s.heap.get? b = some o) (hns : s.heap.Ns L m) (hm : m ar.arg = some (.ref e)) (he : s.heap.get? e = some ox) (hx : ox.cls = .ref C) (hxc : ∀ c, ox.data ≠ .cls c)
    (hf : K.lookup fI = some ⟨oc, od, .func fd, osl⟩) (hc : K.lookup cda = some ⟨ccl, cdd, .fields vs, ccs⟩) (hv : vs[2]? = some (.str prog.main.file tf))
    (hcell : K.lookup cc = some ⟨cl, cld, .cell (some (.ref C)), csl⟩) {cd : ClassData} (hC : clsIn K C = some cd) (hsub : subIn K (.ref C) (.ref C) = some true) (hsup : nsIn K mainGlobals "super" = some none) (htop : (prog.main.scope.names.lookup ("super" : Str)).isSome = false)
    (h : ∀ h', h'.get? s.heap.objs.size = some (ks_superObj C e C) → (∀ b o, s.heap.get? b = some o → h'.get? b = some o) → Q (.ref s.heap.objs.size) { s with heap := h' }) :
    PySem.wpAt (model prog w) A (.func body (ksEnv q' sc L fI (.ref cda) cc)) (attributeBase (.Call (.Name "super" p0) [] [] p1) "__init__" (ksEnv q' sc L fI (.ref cda) cc) whole) Q E s := by
  have X : K.In s.heap := M.kin.keeps st
  obtain ⟨hh, g, d, t, os⟩ := s
  obtain ⟨oD, hD1, hD2⟩ : ∃ oD, hh.get? C = some oD ∧ oD.data = .cls cd := by
    unfold clsIn at hC
    split at hC
    · rename_i c d cd' sl ho
      cases hC
      exact ⟨_, X _ _ ho, rfl⟩
    · cases hC
  obtain ⟨mb, hb, hbv⟩ := M.blt
  refine ks_wpAt_super_base (env := ksEnv q' sc L fI (.ref cda) cc) hks hkc (by decide) rfl (X _ _ hf) rfl ha rfl (X _ _ hc) rfl hv (by simp) htop ?_
  refine ks_loadName_global hk hks (PySem.Calls.loadGlobal_builtin (env := ksEnv q' sc L fI (.ref cda) cc) (M.glob.keeps st) (mg_none_of M.kin M.glob hsup) (hb.keeps st) ((hbv _ (by decide +kernel)).trans bootSuper) ⟨rfl, ?_⟩)
  refine wpAny_loadName_free hk hkc rfl ⟨_, X _ _ hcell, rfl⟩ ?_
  refine wpAny_loadName_local hk hla hns hm ?_
  refine ks_wpAny_isType_cls hD1 hD2 ⟨rfl, ?_⟩
  exact ks_wpAny_call_super hD1 hD2 he hx hxc (looks_subIn X hsub) fun h' z k => h h' z k
end
/-- a def of the class at C that says super().__init__(..): the def above it is at g -/
structure SupF (P : Program) (K : PySem.W.Frag) (C f g : Addr) (q : Str) (params : Arguments) (body : List Stmt) (sc : Scope) (fd : FuncData) (cda cc : Addr) : Prop where
  fn : ∃ kV doc pm an ct oc od osl, fd = PySem.W.ksFn "__init__" q params body sc .none kV doc pm an (.ref cda) ct cc ∧ K.lookup f = some ⟨oc, od, .func fd, osl⟩
  code : PySem.W.codeIn K (.ref cda) q = true
  cell : ∃ cl cld csl, K.lookup cc = some ⟨cl, cld, .cell (some (.ref C)), csl⟩
  file : ∃ ccl cdd vs ccs tf, K.lookup cda = some ⟨ccl, cdd, .fields vs, ccs⟩ ∧ vs[2]? = some (.str P.main.file tf)
  cls : ∃ cd, PySem.W.clsIn K C = some cd
  sub : PySem.W.subIn K (.ref C) (.ref C) = some true
  up : PySem.W.ks_superIn K C C "__init__" = some (some (.ref g))
  tg : PySem.W.typeIn K (.ref g) = some (.type "function")
  fg : PySem.W.fnIn K g = true
  opq : PySem.W.nsIn K cStatics "thirdparty.any" = some none
  sup : PySem.W.nsIn K mainGlobals "super" = some none
  top : (P.main.scope.names.lookup ("super" : Str)).isSome = false
abbrev supNF (q : Str) (params : Arguments) (body : List Stmt) (sc : Scope) (cda cc : Addr) : NdefX.NF := ⟨"__init__", q, params, body, sc, [("__class__", cc)], cda⟩
/-- super().__init__() behind its receiver -/
theorem sup_go {X : Cx} {CX' : CXT} {k : Nat} {σ : L2.St} {H : Hp} {s : Shared} {h1 : Heap} {C g a dx : Addr} {fs : List (Str × V)} {spG : Sp} {E' : XK} {Q : VK} {pl : Sem Bool} {p4 : Pos} (I : Inv X [] σ H s) (ea : H a = some (.ins C dx fs)) (G : FnR X.prog X.w X.K X.mg X.base CX' k g spG) (hr : Room k X.A) (hx : Passes CX' X E')
    (hs1 : h1.get? s.heap.objs.size = some (PySem.W.ks_superObj C a C)) (k1 : ∀ b o, s.heap.get? b = some o → h1.get? b = some o) (hcd : ∃ cd, PySem.W.clsIn X.K C = some cd) (up : PySem.W.ks_superIn X.K C C "__init__" = some (some (.ref g))) (tg : PySem.W.typeIn X.K (.ref g) = some (.type "function"))
    (fg : PySem.W.fnIn X.K g = true) (opq : PySem.W.nsIn X.K cStatics "thirdparty.any" = some none) (h : spG [.ref a] H Q E') :
    wpAny (model X.prog X.w) X.A (getMethod (.ref s.heap.objs.size) "__init__" pl) (fun fx s2 => wpAny (model X.prog X.w) X.A (callWith p4 fx.1 fx.2 (backTo p4 (starEach [] X.env)) []) (EP X [] σ Q) X.xe s2) X.xe { s with heap := h1 } := by
  have I1 : Inv X [(s.heap.objs.size, PySem.W.ks_superObj C a C)] σ H { s with heap := h1, toks := s.toks } := ClX.pin_new I k1 (Nat.le_refl _) hs1 (fun v z => nomatch z)
  obtain ⟨cd, hc⟩ := hcd
  have X1 : X.K.In h1 := I1.kIn
  obtain ⟨od0, J0⟩ := inst_of I1 ea
  unfold PySem.W.ks_superIn at up
  rw [hc] at up
  obtain ⟨of, hof, hofc⟩ : ∃ of, h1.get? g = some of ∧ of.cls = .type "function" := by
    have ht' : (X.K.lookup g).map (·.cls) = some (.type "function") := tg
    cases z : X.K.lookup g with
    | none => rw [z] at ht'; cases ht'
    | some of => rw [z] at ht'; exact ⟨of, X1 _ _ z, Option.some.inj ht'⟩
  obtain ⟨hh, gg, d, t, os⟩ := s
  refine PySem.ks_wpAny_getMethod_super hs1 (PySem.W.looks_opaque X1 opq) (l₀ := cd.mro) (fun A Q E s k q => wpAny_bind ((PySem.W.looks_clsIn X1 hc) A _ E s k (wpAny_pure q))) rfl X1 up hof hofc (PySem.W.ks_ne X1 J0 hc) (by decide) ?_
  have I2 : Inv X [(h1.objs.size, PySem.W.methodObj (.ref g) (.ref a)), (hh.objs.size, PySem.W.ks_superObj C a C)] σ H ⟨h1.push (PySem.W.methodObj (.ref g) (.ref a)), gg, d, t + 1, os⟩ :=
    ClX.pin_new (s := ⟨h1, gg, d, t, os⟩) (t' := t + 1) I1 (fun _ _ z => Heap.get?_push_of_some _ z) (Nat.le_refl _) (Heap.get?_push_size h1 rfl) (fun v z => nomatch z)
  refine PySem.W.callWith_M0 (X := ⟨ClX.pin_at I2, I2.kIn⟩) fg ?_
  have z := ClX.run_cm (us := []) (vs := []) (Q := Q) G hr hx I2 .nil h
  exact thn z fun _ _ y => ClX.unpinE y
section
variable {CX CX' : CXT} {P : Program} {w : World} {K : PySem.W.Frag} {mg : Str → Option Value} {base : Heap} {k : Nat} {f C g : Addr} {q : Str} {params : Arguments} {rest : List Stmt} {sc : Scope} {fd : FuncData} {N ps : List Str} {sp spG : Sp} {cda cc : Addr} {p0 p1 p2 p4 p5 : Pos}
theorem fn_sup0 (T : SupF P K C f g q params (.Expr (supCall p0 p1 p2 p4 []) p5 :: rest) sc fd cda cc) (S : NdefX.NScope N (("self" : Str) :: ps) ["__class__"] sc) (hks : sc.names.lookup ("super" : Str) = some .globalImplicit) (ha : ∃ ar, (params.posonlyargs ++ params.args).head? = some ar ∧ ar.arg = "self") (ev : SupEv p0 p1 p2 p4 [])
    (G : FnR P w K mg base CX' k g spG) (len : ∀ vs H Q E, sp vs H Q E → vs.length = ps.length + 1)
    (hbody : ∀ (A : Around) (outer : List Env) (s : Shared) (H : Hp) (vs : List V) (Q : VK) (E : XK), Room k (A.deeper (NdefX.envF (supNF q params (.Expr (supCall p0 p1 p2 p4 []) p5 :: rest) sc cda cc) f s.heap.objs.size)) → sp vs H Q E →
      ∃ a dx fs ws u E', vs = .ref a :: ws ∧ H a = some (.ins C dx fs) ∧ Passes CX' (NdefX.ncx CX P w K mg base N (supNF q params (.Expr (supCall p0 p1 p2 p4 []) p5 :: rest) sc cda cc) f A outer s H E) E' ∧
        PSs (NdefX.ncx CX P w K mg base N (supNF q params (.Expr (supCall p0 p1 p2 p4 []) p5 :: rest) sc cda cc) f A outer s H E) rest u ∧
        spG [.ref a] H (fun _ H2 => u { nx := fun _ H' => Q .non H', rt := Q } (NdefX.startF N vs [none]) H2) E') :
    FnOk P w K mg base CX (k + 1) f fd (("self" : Str) :: ps) sp := by
  obtain ⟨kV, doc, pm, an, ct, oc, od, osl, rfl, lk⟩ := T.fn
  obtain ⟨cl, cld, csl, hcell⟩ := T.cell
  obtain ⟨ccl, cdd, vs0, ccs, tf, hcda, hvs⟩ := T.file
  obtain ⟨cd, hcd⟩ := T.cls
  obtain ⟨ar, har, hself⟩ := ha
  refine ⟨len, fun A outer s H args us vs Q E hr e0 hb r hsp => ?_⟩
  have hl := len _ _ _ _ hsp
  have keep0 : ∀ b o, base.get? b = some o → s.heap.get? b = some o := fun b o z => (e0.bs b o z).1
  have KX : K.In s.heap := e0.mod.kin.keeps keep0
  have hloc : ∀ y ∈ (("self" : Str) :: ps).zip us, sc.names.lookup y.1 = some .local := fun y hy => S.par _ (List.of_mem_zip (show (y.1, y.2) ∈ _ from hy)).1
  obtain ⟨a, dx, fs, ws, u, E', rfl, ea, hx, hu, hg⟩ := hbody A outer s H vs Q E (hr.deeper _) hsp
  obtain ⟨ua, uw, rfl, ra, rw'⟩ : ∃ ua uw, us = ua :: uw ∧ RelV (.ref a) ua ∧ Vals ws uw := by
    cases r with
    | cons a b => exact ⟨_, _, rfl, a, b⟩
  cases ra
  refine PySem.ks_codeAny_call_defAt (fd := PySem.W.ksFn "__init__" q params (.Expr (supCall p0 p1 p2 p4 []) p5 :: rest) sc .none kV doc pm an (.ref cda) ct cc) (body := .Expr (supCall p0 p1 p2 p4 []) p5 :: rest) (binds := (("self" : Str) :: ps).zip (Value.ref a :: uw))
    hr.depth (KX _ _ lk) rfl (e0.mod.nolimit.keeps keep0) (PySem.W.codeRec_of KX T.code) rfl hb S.nocell hloc (fun h0 hns k0 => ?_) S.co S.gen S.kind
  show PySem.wpAt _ _ (.func (.Expr (supCall p0 p1 p2 p4 []) p5 :: rest) (PySem.W.ksEnv q sc s.heap.objs.size f (.ref cda) cc)) (execs (.Expr (supCall p0 p1 p2 p4 []) p5 :: rest) (PySem.W.ksEnv q sc s.heap.objs.size f (.ref cda) cc)) _ _ _
  have ok : ∀ y c, ([("__class__", cc)] : List (Str × Addr)).lookup y = some c → y = "__class__" ∧ c = cc := fun y c e => by
    by_cases hy : y = "__class__"
    · subst hy
      simp [List.lookup] at e
      exact ⟨rfl, e.symm⟩
    · have : (y == ("__class__" : Str)) = false := beq_eq_false_iff_ne.mpr hy
      simp [List.lookup, this] at e
  have cells : NdefX.CellsAt [("__class__", cc)] ["__class__"] [none] s.heap H := by
    refine ⟨rfl, fun y c e => ?_, fun x y c e1 e2 => (ok x c e1).1.trans (ok y c e2).1.symm, fun i y e => ?_⟩
    · rw [(ok y c e).2]
      have z := e0.mod.kin _ _ hcell
      exact ⟨(e0.bs _ _ z).2, _, _, (e0.bs _ _ z).1, rfl⟩
    · cases i with
      | zero =>
        cases e
        exact ⟨cc, by simp [List.lookup], fun v e => by cases e⟩
      | succ i => cases e
  have I0 : Inv (NdefX.ncx CX P w K mg base N (supNF q params (.Expr (supCall p0 p1 p2 p4 []) p5 :: rest) sc cda cc) f A outer s H E) [] (NdefX.startF N (.ref a :: ws) [none]) H { s with heap := h0, toks := s.toks + ((("self" : Str) :: ps).zip (Value.ref a :: uw)).length } :=
    NdefX.inv_startN (F := supNF q params (.Expr (supCall p0 p1 p2 p4 []) p5 :: rest) sc cda cc) S hr.hd e0 hl (.cons rfl rw') cells hns k0
  have hint : interactive (PySem.W.ksEnv q sc s.heap.objs.size f (.ref cda) cc) = false := by
    unfold interactive
    simp [S.kind]
  obtain ⟨pl, hpl⟩ := ev (PySem.W.ksEnv q sc s.heap.objs.size f (.ref cda) cc)
  obtain ⟨od0, J0⟩ := inst_of I0 ea
  refine ks_wpAt_execs_cons (ks_wpAt_Expr_any (hi := hint) (ks_wpAt_MethodCall (he := hpl) (supRecv (fd := PySem.W.ksFn "__init__" q params (.Expr (supCall p0 p1 p2 p4 []) p5 :: rest) sc .none kV doc pm an (.ref cda) ct cc) (ar := ar) S.kind hks (S.frk _ (List.mem_cons_self ..)) har
    (by rw [hself]; exact S.par _ (List.mem_cons_self ..)) e0.mod (fun b o z => k0 b o (keep0 b o z)) hns ?_ J0.at_ J0.cls (fun c z => by cases z) lk hcda hvs hcell hcd T.sub T.sup T.top (fun h1 hs1 k1 => ?_))))
  · have nd : (("self" : Str) :: ps).Nodup := by
      have z := S.nd.sublist (List.take_sublist ((("self" : Str) :: ps).length + (["__class__"] : List Str).length) N)
      rw [S.pre] at z
      exact (List.nodup_append.mp z).1
    rw [hself]
    exact NdefX.zip_look (i := 0) nd rfl rfl
  · have z := sup_go (p4 := p4) (pl := pl) I0 ea G (hr.deeper _) hx hs1 k1 T.cls T.up T.tg T.fg T.opq hg
    refine wpAny_mono z (fun fx s2 z2 => ?_) fun _ _ z => z
    refine wpAny_mono z2 (fun v s3 z3 => ?_) fun _ _ z => z
    obtain ⟨v', H3, I3, _, q3⟩ := z3
    refine PySem.wpAt_of_wpAny (wpAny_mono (hu.run [] s3 _ H3 _ I3 q3) (fun fl s' hs => ?_) fun e s' hs => hs)
    rcases fl with _ | _ | _ | u'
    · obtain ⟨σ', H', J', q⟩ := hs
      exact ⟨V.non, H', J'.os, J'.bare, J'.base, J'.hok, rfl, q⟩
    · obtain ⟨_, _, _, q⟩ := hs
      exact q.elim
    · obtain ⟨_, _, _, q⟩ := hs
      exact q.elim
    · obtain ⟨v2, σ', H', J', rv, q⟩ := hs
      exact ⟨v2, H', J'.os, J'.bare, J'.base, J'.hok, rv, q⟩
end
end Xr
set_option maxHeartbeats 4000000
/-! walks and comprehensions over anything that yields known items; dicts of flat values compared -/
namespace Xr
open PySem PySem.Spec PyProof.Rows L2
/-- J yields the items xs, as long as P holds of the heap -/
structure Yl (J : It) (xs : List V) (P : Hp → Prop) : Prop where
  stop : ∀ i H, P H → xs.length ≤ i → J.stop i H
  go : ∀ i H, P H → i < xs.length → J.go i H
  yld : ∀ i H x H', P H → i < xs.length → J.yld i H x H' → H' = H ∧ xs[i]? = some x
theorem yl_list {K : PySem.W.Frag} {a : Addr} {xs : List V} : Yl (Itl K a) xs (fun H => SqL K H a xs) :=
  ⟨fun i H h l => ⟨xs, h, l⟩, fun i H h l => ⟨xs, xs[i], h, List.getElem?_eq_getElem l⟩, fun i H x H' h l y => ⟨y.1, y.2 xs h⟩⟩
theorem yl_tup {K : PySem.W.Frag} {a : Addr} {xs : List V} : Yl (Itt K a) xs (fun H => SqT K H a xs) :=
  ⟨fun i H h l => ⟨xs, h, l⟩, fun i H h l => ⟨xs, xs[i], h, List.getElem?_eq_getElem l⟩, fun i H x H' h l y => ⟨y.1, y.2 xs h⟩⟩
theorem yl_keys {d : Addr} {o : Obj} {kvs : List (Key × V)} : Yl (Itk d o kvs) (kvs.map fun p => kV p.1) (fun H => H d = some (.frz o (.dK kvs))) := by
  refine ⟨fun i H h l => ⟨h, by simpa using l⟩, fun i H h l => ⟨h, by simpa using l⟩, fun i H x H' h l y => ?_⟩
  obtain ⟨e, k, v, hi, rfl⟩ := y
  exact ⟨e, by rw [List.getElem?_map, hi]; rfl⟩
theorem yl_vals {d : Addr} {o : Obj} {kvs : List (Key × V)} : Yl (Itd d o kvs) (kvs.map (·.2)) (fun H => H d = some (.frz o (.dK kvs))) := by
  refine ⟨fun i H h l => ⟨h, by simpa using l⟩, fun i H h l => ⟨h, by simpa using l⟩, fun i H x H' h l y => ?_⟩
  obtain ⟨e, k, hi⟩ := y
  exact ⟨e, by rw [List.getElem?_map, hi]; rfl⟩
/-- the signs of a text, each a text -/
def signsV (x : Str) : List V := x.cps.toList.map fun c => .str ⟨#[c]⟩
theorem yl_str {x : Str} : Yl (Its x) (signsV x) (fun _ => True) := by
  refine ⟨fun i H h l => show x.cps.size ≤ i by simpa [signsV] using l, fun i H h l => show i < x.cps.size by simpa [signsV] using l, fun i H v H' h l y => ?_⟩
  obtain ⟨e, c, hi, rfl⟩ := y
  refine ⟨e, ?_⟩
  unfold signsV
  rw [List.getElem?_map, Array.getElem?_toList, hi]
  rfl
theorem yl_range {lo : Int} {n : Nat} : Yl (Itr lo n) ((List.range n).map fun i : Nat => V.int (lo + (i : Int))) (fun _ => True) := by
  refine ⟨fun i H h l => show n ≤ i by simpa using l, fun i H h l => show i < n by simpa using l, fun i H x H' h l y => ⟨y.1, ?_⟩⟩
  rw [y.2, List.getElem?_map, List.getElem?_range (by simpa using l)]
  rfl
section
variable {J : It} {xs : List V} {P : Hp → Prop}
/-- a for over J -/
theorem forP (Y : Yl J xs P) {g : TG} {tb : TS} {D : Ends} {σ : L2.St} {H : Hp} (Pv : Nat → L2.St → Hp → Prop) (h0 : Pv 0 σ H) (hl : ∀ i σ H, i ≤ xs.length → Pv i σ H → P H)
    (hs : ∀ i x σ H, xs[i]? = some x → Pv i σ H → g x σ H fun σ2 H2 => tb { D with nx := Pv (i + 1), ct := Pv (i + 1), bk := D.nx } σ2 H2) (hd : ∀ σ H, Pv xs.length σ H → D.nx σ H) :
    ∃ W : Nat → Nat → L2.St → Hp → Prop, (∃ m, W 0 m σ H) ∧ ∀ i m σ H, W i m σ H →
      (J.stop i H ∧ D.nx σ H) ∨ (J.go i H ∧ ∃ N : L2.St → Hp → Prop, (∀ σ' H', N σ' H' → ∃ m', m' < m ∧ W (i + 1) m' σ' H') ∧ ∀ x H', J.yld i H x H' → g x σ H' fun σ2 H2 => tb { D with nx := N, ct := N, bk := D.nx } σ2 H2) := by
  refine ⟨fun i m σ H => m = xs.length - i ∧ i ≤ xs.length ∧ Pv i σ H, ⟨xs.length, by simp, Nat.zero_le _, h0⟩, ?_⟩
  rintro i m σ H ⟨rfl, hi, p⟩
  have q := hl i σ H hi p
  by_cases hlt : i < xs.length
  · refine .inr ⟨Y.go i H q hlt, Pv (i + 1), fun σ' H' p' => ⟨xs.length - (i + 1), by omega, rfl, hlt, p'⟩, fun x H' y => ?_⟩
    obtain ⟨rfl, hx⟩ := Y.yld i H x H' q hlt y
    exact hs i x σ _ hx p
  · obtain rfl : i = xs.length := by omega
    exact .inl ⟨Y.stop _ H q (Nat.le_refl _), hd σ H p⟩
/-- a list comprehension over J -/
theorem lcG (Y : Yl J xs P) {g : TG} {tt : TT} {te : TE} {vs : List Nat} {σ : L2.St} {H1 : Hp} {D : Addr} {Qd : Hp → Prop} (Pv : Nat → Hp → Prop) (h0 : Pv 0 (upd H1 D (.lst []))) (hl : ∀ i H, i ≤ xs.length → Pv i H → P H)
    (hs : ∀ i x H, xs[i]? = some x → Pv i H → g x (wipe σ vs) H fun σ2 H2 => wipe σ2 vs = wipe σ vs ∧ tt σ2 H2 fun b H3 =>
      if b = true then te σ2 H3 fun y H4 => ∃ acc, H4 D = some (.lst acc) ∧ acc.length < sizeLine ∧ Pv (i + 1) (upd H4 D (.lst (acc ++ [y]))) else Pv (i + 1) H3) (hd : ∀ H, Pv xs.length H → Qd H) :
    ∃ W : Nat → Nat → Hp → Prop, (∃ m, W 0 m (upd H1 D (.lst []))) ∧ ∀ i m H, W i m H →
      (J.stop i H ∧ Qd H) ∨ (J.go i H ∧ ∃ Nx : Hp → Prop, (∀ H', Nx H' → ∃ m', m' < m ∧ W (i + 1) m' H') ∧ ∀ x H', J.yld i H x H' → g x (wipe σ vs) H' fun σ2 H2 => wipe σ2 vs = wipe σ vs ∧ tt σ2 H2 fun b H3 =>
        if b = true then te σ2 H3 fun y H4 => ∃ acc, H4 D = some (.lst acc) ∧ acc.length < sizeLine ∧ Nx (upd H4 D (.lst (acc ++ [y]))) else Nx H3) := by
  refine ⟨fun i m H => m = xs.length - i ∧ i ≤ xs.length ∧ Pv i H, ⟨xs.length, by simp, Nat.zero_le _, h0⟩, ?_⟩
  rintro i m H ⟨rfl, hi, p⟩
  have q := hl i H hi p
  by_cases hlt : i < xs.length
  · refine .inr ⟨Y.go i H q hlt, Pv (i + 1), fun H' p' => ⟨xs.length - (i + 1), by omega, rfl, hlt, p'⟩, fun x H' y => ?_⟩
    obtain ⟨rfl, hx⟩ := Y.yld i H x H' q hlt y
    exact hs i x _ hx p
  · obtain rfl : i = xs.length := by omega
    exact .inl ⟨Y.stop _ H q (Nat.le_refl _), hd H p⟩
/-- a dict comprehension over J -/
theorem dcG (Y : Yl J xs P) {g : TG} {tt : TT} {tk tv : TE} {vs : List Nat} {σ : L2.St} {H1 : Hp} {D : Addr} {Qd : Hp → Prop} (Pv : Nat → Hp → Prop) (h0 : Pv 0 (upd H1 D (.dK []))) (hl : ∀ i H, i ≤ xs.length → Pv i H → P H)
    (hs : ∀ i x H, xs[i]? = some x → Pv i H → g x (wipe σ vs) H fun σ2 H2 => wipe σ2 vs = wipe σ vs ∧ tt σ2 H2 fun b H3 =>
      if b = true then tk σ2 H3 fun y H4 => tv σ2 H4 fun z H5 => ∃ kvs k, y = kV k ∧ H5 D = some (.dK kvs) ∧ kvs.length < sizeLine ∧ Pv (i + 1) (upd H5 D (.dK (putK kvs k z))) else Pv (i + 1) H3) (hd : ∀ H, Pv xs.length H → Qd H) :
    ∃ W : Nat → Nat → Hp → Prop, (∃ m, W 0 m (upd H1 D (.dK []))) ∧ ∀ i m H, W i m H →
      (J.stop i H ∧ Qd H) ∨ (J.go i H ∧ ∃ Nx : Hp → Prop, (∀ H', Nx H' → ∃ m', m' < m ∧ W (i + 1) m' H') ∧ ∀ x H', J.yld i H x H' → g x (wipe σ vs) H' fun σ2 H2 => wipe σ2 vs = wipe σ vs ∧ tt σ2 H2 fun b H3 =>
        if b = true then tk σ2 H3 fun y H4 => tv σ2 H4 fun z H5 => ∃ kvs k, y = kV k ∧ H5 D = some (.dK kvs) ∧ kvs.length < sizeLine ∧ Nx (upd H5 D (.dK (putK kvs k z))) else Nx H3) := by
  refine ⟨fun i m H => m = xs.length - i ∧ i ≤ xs.length ∧ Pv i H, ⟨xs.length, by simp, Nat.zero_le _, h0⟩, ?_⟩
  rintro i m H ⟨rfl, hi, p⟩
  have q := hl i H hi p
  by_cases hlt : i < xs.length
  · refine .inr ⟨Y.go i H q hlt, Pv (i + 1), fun H' p' => ⟨xs.length - (i + 1), by omega, rfl, hlt, p'⟩, fun x H' y => ?_⟩
    obtain ⟨rfl, hx⟩ := Y.yld i H x H' q hlt y
    exact hs i x _ hx p
  · obtain rfl : i = xs.length := by omega
    exact .inl ⟨Y.stop _ H q (Nat.le_refl _), hd H p⟩
theorem same_upd {H1 H' : Hp} {D : Addr} {o : HO} (hD : H1 D = none) (s : Same H1 H') : Same H1 (upd H' D o) := fun b u z => by
  rw [upd_ne (ne_of_none z hD)]
  exact s b u z
theorem take_filter {B : V → Bool} {i : Nat} {x : V} (h : xs[i]? = some x) : (xs.take (i + 1)).filter B = if B x = true then (xs.take i).filter B ++ [x] else (xs.take i).filter B := by
  rw [List.take_add_one, h, List.filter_append]
  show _ ++ List.filter B [x] = _
  rw [List.filter_cons]
  split <;> simp
/-- a comprehension whose test only reads, whose elements are R's -/
theorem lcQ (Y : Yl J xs P) {k : Nat} {tt : TT} {te : TE} {vs : List Nat} {σ : L2.St} {H1 : Hp} {D : Addr} {Qd : Hp → Prop} (B : V → Bool) (R : V → V → Hp → Prop) (hR : ∀ x y H H', Same H H' → R x y H → R x y H')
    (hU : ∀ x y H l l', H D = some (.lst l) → R x y H → R x y (upd H D (.lst l'))) (hD : H1 D = none) (hn : xs.length ≤ 100000) (hP : ∀ H', Same H1 H' → P H') (hw : ∀ x : V, wipe ((wipe σ vs).set k (some x)) vs = wipe σ vs)
    (ht : ∀ x H', x ∈ xs → Same H1 H' → ∀ Qb : Bool → Hp → Prop, (∀ H'', Same H' H'' → Qb (B x) H'') → tt ((wipe σ vs).set k (some x)) H' Qb)
    (he : ∀ x H', x ∈ xs → B x = true → Same H1 H' → ∀ Q : VK, (∀ y H'', Same H' H'' → R x y H'' → Q y H'') → te ((wipe σ vs).set k (some x)) H' Q)
    (hd : ∀ H' ys, Same H1 H' → H' D = some (.lst ys) → Paired (fun x y => R x y H') (xs.filter B) ys → Qd H') :
    ∃ W : Nat → Nat → Hp → Prop, (∃ m, W 0 m (upd H1 D (.lst []))) ∧ ∀ i m H, W i m H →
      (J.stop i H ∧ Qd H) ∨ (J.go i H ∧ ∃ Nx : Hp → Prop, (∀ H', Nx H' → ∃ m', m' < m ∧ W (i + 1) m' H') ∧ ∀ x H', J.yld i H x H' → (gName k) x (wipe σ vs) H' fun σ2 H2 => wipe σ2 vs = wipe σ vs ∧ tt σ2 H2 fun b H3 =>
        if b = true then te σ2 H3 fun y H4 => ∃ acc, H4 D = some (.lst acc) ∧ acc.length < sizeLine ∧ Nx (upd H4 D (.lst (acc ++ [y]))) else Nx H3) := by
  refine lcG Y (fun i H' => Same H1 H' ∧ ∃ ys, H' D = some (.lst ys) ∧ Paired (fun x y => R x y H') ((xs.take i).filter B) ys) ⟨same_new hD, [], upd_same, .nil⟩ (fun i H' _ h => hP H' h.1) ?_ fun H' h => ?_
  · rintro i x H' hx ⟨s, ys, hl, hp⟩
    have hm := List.mem_of_getElem? hx
    refine ⟨hw x, ht x H' hm s _ fun H2 s2 => ?_⟩
    rw [take_filter hx]
    cases hb : B x with
    | false =>
      refine iteF ⟨s.trans s2, ys, s2 _ _ hl, ?_⟩
      exact Paired.mapP hp fun a b r => hR a b _ _ s2 r
    | true =>
      refine iteT (he x H2 hm hb (s.trans s2) _ fun y H3 s3 r => ?_)
      have hl3 := s3 _ _ (s2 _ _ hl)
      refine ⟨_, hl3, ?_, same_upd hD ((s.trans s2).trans s3), _, upd_same, ?_⟩
      · have z : ys.length ≤ xs.length := by
          have z1 := List.length_filter_le B (xs.take i)
          have z2 : (xs.take i).length ≤ xs.length := by rw [List.length_take]; exact Nat.min_le_right _ _
          have z3 : ((xs.take i).filter B).length = ys.length := Paired.length hp
          omega
        rw [sizeLine_eq]
        omega
      · refine Paired.snoc (Paired.mapP hp fun a b r => hU a b _ _ _ hl3 (hR a b _ _ (s2.trans s3) r)) (hU x y _ _ _ hl3 r)
  · obtain ⟨s, ys, hl, hp⟩ := h
    rw [List.take_length] at hp
    exact hd H' ys s hl hp
/-- .. whose elements are told by a function -/
theorem lcF (Y : Yl J xs P) {k : Nat} {tt : TT} {te : TE} {vs : List Nat} {σ : L2.St} {H1 : Hp} {D : Addr} {Qd : Hp → Prop} (B : V → Bool) (F : V → V) (hD : H1 D = none) (hn : xs.length ≤ 100000) (hP : ∀ H', Same H1 H' → P H') (hw : ∀ x : V, wipe ((wipe σ vs).set k (some x)) vs = wipe σ vs)
    (ht : ∀ x H', x ∈ xs → Same H1 H' → ∀ Qb : Bool → Hp → Prop, (∀ H'', Same H' H'' → Qb (B x) H'') → tt ((wipe σ vs).set k (some x)) H' Qb)
    (he : ∀ x H', x ∈ xs → B x = true → Same H1 H' → ∀ Q : VK, (∀ H'', Same H' H'' → Q (F x) H'') → te ((wipe σ vs).set k (some x)) H' Q)
    (hd : ∀ H', Same H1 H' → H' D = some (.lst ((xs.filter B).map F)) → Qd H') :
    ∃ W : Nat → Nat → Hp → Prop, (∃ m, W 0 m (upd H1 D (.lst []))) ∧ ∀ i m H, W i m H →
      (J.stop i H ∧ Qd H) ∨ (J.go i H ∧ ∃ Nx : Hp → Prop, (∀ H', Nx H' → ∃ m', m' < m ∧ W (i + 1) m' H') ∧ ∀ x H', J.yld i H x H' → (gName k) x (wipe σ vs) H' fun σ2 H2 => wipe σ2 vs = wipe σ vs ∧ tt σ2 H2 fun b H3 =>
        if b = true then te σ2 H3 fun y H4 => ∃ acc, H4 D = some (.lst acc) ∧ acc.length < sizeLine ∧ Nx (upd H4 D (.lst (acc ++ [y]))) else Nx H3) := by
  refine lcQ Y B (fun x y _ => y = F x) (fun _ _ _ _ _ h => h) (fun _ _ _ _ _ _ h => h) hD hn hP hw ht (fun x H' hm hb s Q q => he x H' hm hb s Q fun H'' s' => q _ _ s' rfl) fun H' ys s hl hp => hd H' s ?_
  have e : ∀ {l ys : List V}, Paired (fun x y => y = F x) l ys → ys = l.map F := fun h => by
    induction h with
    | nil => rfl
    | cons a _ ih => rw [a, ih]; rfl
  rw [← e hp]
  exact hl
/-- a dict comprehension that only reads, its keys all different -/
theorem dcF (Y : Yl J xs P) {k : Nat} {tt : TT} {tk tv : TE} {vs : List Nat} {σ : L2.St} {H1 : Hp} {D : Addr} {Qd : Hp → Prop} (B : V → Bool) (key : V → Key) (F : V → V) (hD : H1 D = none) (hn : xs.length ≤ 100000) (hnd : ((xs.filter B).map key).Nodup) (hP : ∀ H', Same H1 H' → P H')
    (hw : ∀ x : V, wipe ((wipe σ vs).set k (some x)) vs = wipe σ vs)
    (ht : ∀ x H', x ∈ xs → Same H1 H' → ∀ Qb : Bool → Hp → Prop, (∀ H'', Same H' H'' → Qb (B x) H'') → tt ((wipe σ vs).set k (some x)) H' Qb)
    (hk : ∀ x H', x ∈ xs → B x = true → Same H1 H' → ∀ Q : VK, (∀ H'', Same H' H'' → Q (kV (key x)) H'') → tk ((wipe σ vs).set k (some x)) H' Q)
    (he : ∀ x H', x ∈ xs → B x = true → Same H1 H' → ∀ Q : VK, (∀ H'', Same H' H'' → Q (F x) H'') → tv ((wipe σ vs).set k (some x)) H' Q)
    (hd : ∀ H', Same H1 H' → H' D = some (.dK ((xs.filter B).map fun x => (key x, F x))) → Qd H') :
    ∃ W : Nat → Nat → Hp → Prop, (∃ m, W 0 m (upd H1 D (.dK []))) ∧ ∀ i m H, W i m H →
      (J.stop i H ∧ Qd H) ∨ (J.go i H ∧ ∃ Nx : Hp → Prop, (∀ H', Nx H' → ∃ m', m' < m ∧ W (i + 1) m' H') ∧ ∀ x H', J.yld i H x H' → (gName k) x (wipe σ vs) H' fun σ2 H2 => wipe σ2 vs = wipe σ vs ∧ tt σ2 H2 fun b H3 =>
        if b = true then tk σ2 H3 fun y H4 => tv σ2 H4 fun z H5 => ∃ kvs k, y = kV k ∧ H5 D = some (.dK kvs) ∧ kvs.length < sizeLine ∧ Nx (upd H5 D (.dK (putK kvs k z))) else Nx H3) := by
  have pre : ∀ i, List.Sublist (((xs.take i).filter B).map key) ((xs.filter B).map key) := fun i => ((List.take_sublist i xs).filter B).map key
  refine dcG Y (fun i H' => Same H1 H' ∧ H' D = some (.dK (((xs.take i).filter B).map fun x => (key x, F x)))) ⟨same_new hD, upd_same⟩ (fun i H' _ h => hP H' h.1) ?_ fun H' h => ?_
  · rintro i x H' hx ⟨s, hl⟩
    have hm := List.mem_of_getElem? hx
    refine ⟨hw x, ht x H' hm s _ fun H2 s2 => ?_⟩
    have tf := take_filter (B := B) hx
    rw [tf]
    cases hb : B x with
    | false => exact iteF ⟨s.trans s2, s2 _ _ hl⟩
    | true =>
      refine iteT (hk x H2 hm hb (s.trans s2) _ fun H3 s3 => he x H3 hm hb ((s.trans s2).trans s3) _ fun H4 s4 => ?_)
      have hl4 := s4 _ _ (s3 _ _ (s2 _ _ hl))
      refine ⟨_, key x, rfl, hl4, ?_, same_upd hD (((s.trans s2).trans s3).trans s4), ?_⟩
      · rw [List.length_map, sizeLine_eq]
        have z1 := List.length_filter_le B (xs.take i)
        have z2 : (xs.take i).length ≤ xs.length := by rw [List.length_take]; exact Nat.min_le_right _ _
        omega
      · rw [upd_same, if_pos rfl, List.map_append]
        have nd := hnd.sublist (pre (i + 1))
        rw [tf, hb, if_pos rfl, List.map_append] at nd
        rw [putK_new]
        · rfl
        · unfold valV
          rw [Option.map_eq_none_iff, List.find?_eq_none]
          intro p hp hk'
          obtain ⟨y, hy, rfl⟩ := List.mem_map.mp hp
          have e : key y = key x := of_decide_eq_true hk'
          have z := (List.nodup_append.mp nd).2.2 (key y) (List.mem_map.mpr ⟨y, hy, rfl⟩) (key x) (List.mem_singleton.mpr rfl)
          exact z e
  · obtain ⟨s, hl⟩ := h
    rw [List.take_length] at hl
    exact hd H' s hl
end
section
variable {X : Cx}
/-- whether each entry of ks stands in ls -/
def subK (ks ls : List (Key × V)) : Bool := ks.all fun p => match valV ls p.1 with
  | some v => eqV p.2 v
  | none => false
theorem hits_sub {A : Around} {s : Shared} {ls : List (Key × V)} {vb : List (Key × Value)} (rb : KV ls vb) (fb : ∀ p ∈ ls, flatV p.2 = true) {ks : List (Key × V)} {va : List (Key × Value)} (ra : KV ks va) :
    (∀ p ∈ ks, flatV p.2 = true) → PySem.W.KeqHits A s vb va (subK ks ls) := by
  unfold KV at ra
  induction ra with
  | nil => intro _; exact .nil
  | @cons p q ps qs h t ih =>
    intro hp
    obtain ⟨h1, h2⟩ := h
    obtain ⟨k, v⟩ := q
    have h1' : p.1 = k := h1
    unfold subK
    rw [List.all_cons]
    cases e : valV ls p.1 with
    | none =>
      have rr : RelO none (valueAt vb p.1) := by rw [← e]; exact rb.val p.1
      have z := rr.none_of
      rw [h1'] at z
      exact .miss z
    | some y =>
      have rr : RelO (some y) (valueAt vb p.1) := by rw [← e]; exact rb.val p.1
      obtain ⟨u, hu, ru⟩ := rr.some_of
      rw [h1'] at hu
      have fy : flatV y = true := by
        unfold valV at e
        obtain ⟨q, hq, rfl⟩ := Option.map_eq_some_iff.mp e
        exact fb q (List.mem_of_find?_eq_some hq)
      exact .hit hu (eqAt_V h2 ru (hp p List.mem_cons_self) fy) (ih fun p' hm => hp p' (List.mem_cons_of_mem _ hm))
/-- d == e, dicts of flat values -/
def rEqDF : R2 := fun x y H Q => ∃ a b ks ls, x = .ref a ∧ y = .ref b ∧ H a = some (.dK ks) ∧ H b = some (.dK ls) ∧ (∀ p ∈ ks, flatV p.2 = true) ∧ (∀ p ∈ ls, flatV p.2 = true) ∧ Q (.bl (ks.length == ls.length && subK ks ls)) H
theorem op_eqDF (hu : X.A.units < cLine) : OpR X (compareOp .Eq) rEqDF := by
  intro pins s σ H x y v u Q I rx ry h
  obtain ⟨a, b, ks, ls, rfl, rfl, ea, eb, fa, fb, q⟩ := h
  obtain rfl : v = Value.ref a := rx
  obtain rfl : u = Value.ref b := ry
  obtain ⟨_, ya, va, ra, da⟩ := (show ObjOk X.prog X.w H s.heap a (.dK ks) from I.hok a _ ea)
  obtain ⟨_, yb, vb, rb, db⟩ := (show ObjOk X.prog X.w H s.heap b (.dK ls) from I.hok b _ eb)
  exact PySem.W.keq_eq (knd := mixKind X.prog X.w) ya yb da db hu (fun _ => hits_sub rb fb ra fa) (fin_bl I q (by rw [← ra.length, ← rb.length]))
end
end Xr
set_option maxHeartbeats 4000000
namespace Xr
open PySem PySem.Spec PyProof.Rows L2
section
variable {X : Cx} {pins : List (Addr × Obj)} {σ : L2.St} {H : Hp} {s : Shared}
/-- what a dict's keys are, as values -/
def keysV (kvs : List (Key × V)) : List V := kvs.map fun kv => kV kv.1
theorem star_dict {a : Addr} {kvs : List (Key × V)} {E : Value → Shared → Prop} {Q : List Value → Shared → Prop} (hc : X.calm = true) (I : Inv X pins σ H s) (h : Rd H a (.dK kvs)) (hQ : ∀ us s', Inv X pins σ H s' → Vals (keysV kvs) us → Q us s') :
    PySem.W.StarOf (model X.prog X.w) X.A E (.ref a) Q s := by
  obtain ⟨z, lo, vs, rk, hd⟩ := (show ObjOk X.prog X.w H s.heap a (.dK kvs) from h.ok I.hok)
  obtain ⟨ep, hat⟩ := hd.dictAt
  have hl : kvs.length = vs.length := Paired.length rk
  have zz : wpAny (model X.prog X.w) X.A (collect (.ref a)) Q E s := by
    refine PySem.W.kdu_collect (PySem.W.kdl_dict (knd := mixKind X.prog X.w) (kvs := vs) (ep := ep) lo) (I.ok.hd hc) hat (by rw [← hl]; exact z) fun h' tk acc hk hacc => ?_
    refine hQ _ _ (I.kept (t' := tk) hk) ?_
    have el : acc.toList.length = acc.size := by simp
    unfold keysV
    refine vals_of_at (by rw [List.length_map, el, hacc.1, hl]) fun j x w h1 h2 => ?_
    obtain ⟨k, y, hky, hi⟩ := hacc.2 j w (by rw [← Array.getElem?_toList]; exact h2)
    have e1 : (kvs.map (·.1))[j]? = some k := by
      rw [KV.keys rk, List.getElem?_map, hky] <;> rfl
    have e2 : (kvs.map fun kv => kV kv.1)[j]? = some (kV k) := by
      have e3 : (kvs.map fun kv => kV kv.1) = (kvs.map (·.1)).map kV := by rw [List.map_map] <;> rfl
      rw [e3, List.getElem?_map, e1] <;> rfl
    rw [e2] at h1
    cases h1
    exact keyIs_rel hi
  unfold PySem.W.StarOf notIterableAtAll
  exact wpAny_bind (wpAny_specialOf hd.typeIs PySem.F.slot_dict_iter.lookup (wpAny_pure ⟨rfl, zz⟩))
end
/-- *d in a display: its keys -/
def tStarD (te : TE) (t : TA) : TA := fun σ H Q => te σ H fun x H1 => ∃ p kvs, x = V.ref p ∧ Rd H1 p (.dK kvs) ∧ t σ H1 fun ys H2 => Q (keysV kvs ++ ys) H2
theorem pa_starD {X : Cx} {e : Expr} {es : List Expr} {te : TE} {t : TA} {p : Pos} (hc : X.calm = true) (he : PE X e te) (hr : PA X es t) (hs : starEach (.Starred e p :: es) X.env = (true, eval e X.env) :: starEach es X.env := by rfl) : PA X (.Starred e p :: es) (tStarD te t) := by
  refine ⟨fun pos pins s σ H Q I h => ?_⟩
  refine PySem.W.items_star (thn (he.run pins s σ H _ I h) fun v s1 ⟨y, H1, I1, ry, a, kvs, ey, hx, q⟩ => ?_) hs
  subst ey
  obtain rfl : v = Value.ref a := ry
  refine star_dict hc I1 hx fun us s2 I2 rv => ?_
  exact thn (hr.run pos pins s2 σ H1 _ I2 q) fun ws s3 ⟨vs, H3, I3, r3, q3⟩ => ⟨keysV kvs ++ vs, H3, I3, rv.append r3, q3⟩
section
variable {CX : CXT} {P : Program} {w : World} {K : PySem.W.Frag} {mg : Str → Option Value} {base : Heap} {k : Nat} {f : Addr} {x qual : Str} {params : Arguments} {body : List Stmt} {scope : Scope} {fd : FuncData} {N : List Str} {sp : Sp} {p1 pd : Str} {kws : List (Str × V)}
/-- def f(a, **d), called without keywords: d is a new empty dict -/
theorem fn_kw0 (F : FunD K x qual params body scope [] kws f fd) (S : FnScope N [p1, pd] scope) (hCX : StX.CXUp CX)
    (hb : ∀ (kV doc pm : Value) (an : Option Addr) (cdv ct u : Value), bindArgs (PySem.W.fnOf x qual params body scope .none kV doc pm an cdv ct) ⟨[u], []⟩ = ((alloc ({ cls := .type "dict", data := .dict #[] } : Obj) : Sem Addr) >>= fun d => pure [(p1, u), (pd, Value.ref d)]))
    (hbody : ∀ (cdv : Value) (A : Around) (outer : List Env) (s : Shared) (H : Hp) (vs : List V) (Q : VK) (E : XK), Room k (A.deeper (envOfC qual scope s.heap.objs.size f cdv)) → sp vs H Q E →
      ∃ t, PSs (cxOf CX P w K mg base N qual scope f cdv A outer s H E) body t ∧ t { nx := fun _ H' => Q .non H', rt := Q } (start N vs) H) :
    FnR P w K mg base CX (k + 1) f (fun vs H Q E => ∃ v, vs = [v] ∧ ∀ d, H d = Option.none → sp [v, V.ref d] (upd H d (.dK [])) Q E) := by
  obtain ⟨oc, od, dV, kV', doc, pm, an, cdv, ct, osl, rfl, lk, hcd, hDf, _⟩ := F.ex
  obtain rfl : dV = .none := by
    rcases hDf with ⟨_, e⟩ | ⟨e, _⟩
    · exact e
    · exact absurd rfl e
  intro A outer s H us vs Q E hr e0 r hsp
  obtain ⟨v, rfl, hq⟩ := hsp
  obtain ⟨u, rfl, ru⟩ := vals1 r
  have hn : H s.heap.objs.size = Option.none := e0.hok.fresh (Nat.le_refl _)
  refine StX.run_bnd lk hcd S hr e0 (G := fun xs H2 => ∃ d, H d = Option.none ∧ xs = [v, V.ref d] ∧ H2 = upd H d (.dK [])) (fun A' Ex Q' h => ?_) fun s2 H2 xs ⟨d, hd, ex, eH⟩ hr' => ?_
  · rw [hb _ _ _ _ _ _ u]
    refine wpAny_bind (wpAny_alloc (wpAny_pure ?_))
    have e1 := StX.env0_laid (u := .dK []) (o := ({ cls := .type "dict", data := .dict #[] } : Obj)) e0 (dk_empty _ (StX.env0_big e0))
    have un1 := StX.un_laid (fs := frs outer) (s := s) (o := ({ cls := .type "dict", data := .dict #[] } : Obj)) (u := .dK []) hn
    exact h _ _ [v, V.ref s.heap.objs.size] [u, Value.ref s.heap.objs.size] e1 un1 rfl (fun e s' => hCX outer s H _ _ E e s' un1 (fun b o q => Heap.get?_push_of_some _ q) rfl) (.cons ru (.cons rfl .nil)) rfl ⟨_, hn, rfl, rfl⟩
  · subst ex eH
    exact hbody cdv A outer s2 _ _ Q E hr' (hq d hd)
end
/-! ### a hook that tells defs at any address, too -/
abbrev AlF : Type := AlE × (Bool × List He.FnW)
def obsF (n : Nat) (fa : List He.Fa) (fn : List He.DefD) (ts : List He.Tab) (tf : List He.Defn) (cl : List DefC) (da : List He5.DefA) (ex : PySem.W.Frag → Bool) (g : Addr → Option Obj) : AlF :=
  (obsE n fa fn ts tf cl ex g, (da.all (fun d => d.ok (KE g n)), da.map fun d => He5.fnA (KE g n) (d.at_ (KE g n))))
def valF (fn : List He.DefD) (ts : List He.Tab) (cl : List DefC) (da : List He5.DefA) (w : World) : AlF := (valE fn ts cl w, (true, da.map He5.DefA.val))
structure SaysF (fa : List He.Fa) (fn : List He.DefD) (ts : List He.Tab) (tf : List He.Defn) (cl : List DefC) (da : List He5.DefA) (ex : PySem.W.Frag → Bool) (w : World) (h : Heap) (K : PySem.W.Frag) : Prop where
  e : SaysE fa fn ts tf cl ex w h K
  ok : da.all (fun d => d.ok K) = true
  at_ : da.map (fun d => He5.fnA K (d.at_ K)) = da.map He5.DefA.val
theorem SaysF.dA {fa : List He.Fa} {fn : List He.DefD} {ts : List He.Tab} {tf : List He.Defn} {cl : List DefC} {da : List He5.DefA} {ex : PySem.W.Frag → Bool} {w : World} {h : Heap} {K : PySem.W.Frag} (c : SaysF fa fn ts tf cl da ex w h K) (i : Nat) {d : He5.DefA} (hd : da[i]? = some d) :
    ∃ fd, FunD K d.name d.qual d.params d.body d.scope (d.dvs K) (d.kws K) (d.at_ K) fd := by
  refine He5.DefA.funD ?_ (List.all_eq_true.mp c.ok d (List.mem_of_getElem? hd))
  have z : (da.map (fun d => He5.fnA K (d.at_ K)))[i]? = (da.map He5.DefA.val)[i]? := by rw [c.at_]
  rw [List.getElem?_map, List.getElem?_map, hd] at z
  exact Option.some.inj z
def hookF (n : Nat) (fa : List He.Fa) (fn : List He.DefD) (ts : List He.Tab) (tf : List He.Defn) (cl : List DefC) (da : List He5.DefA) (ex : PySem.W.Frag → Bool) : PySem.W.Hook where
  α := AlF
  obs := fun s => obsF n fa fn ts tf cl da ex s.heap.get?
  val := fun w => valF fn ts cl da w
  says := fun w h => ∃ K : PySem.W.Frag, K.In h ∧ SaysF fa fn ts tf cl da ex w h K
  of := fun _ _ e => ⟨_, He.frT_in, ⟨says_of (congrArg (fun z : AlF => z.1) e), congrArg (fun z : AlF => z.2.1) e, congrArg (fun z : AlF => z.2.2) e⟩⟩
  keeps := fun _ _ _ ⟨K, hK, c⟩ k => ⟨K, PySem.W.Frag.In.keeps hK k, ⟨⟨⟨c.e.x.t, c.e.x.more, c.e.x.hd, c.e.x.out, fun p hp => k _ _ (c.e.x.empty p hp)⟩, c.e.c⟩, c.ok, c.at_⟩⟩
theorem obsF_eq {n : Nat} {fa : List He.Fa} {fn : List He.DefD} {ts : List He.Tab} {tf : List He.Defn} {cl : List DefC} {da : List He5.DefA} {ex : PySem.W.Frag → Bool} {g : Addr → Option Obj} {s : Shared} (h : ∀ a, g a = s.heap.get? a) : obsF n fa fn ts tf cl da ex g = (hookF n fa fn ts tf cl da ex).obs s := by
  have e : g = s.heap.get? := funext h
  rw [e] <;> rfl
end Xr
set_option maxHeartbeats 4000000
/-! what the head tells of own plain classes -/
namespace Xr
open PySem PySem.Spec PyProof.Rows L2
/-- an own plain class: its attributes are plain, isinstance goes by its class -/
def plB (K : PySem.W.Frag) (C : Addr) : Bool := (PySem.W.plainGet K C Str.empty && (PySem.W.hasDictIn K C && (PySem.W.plainOver K C && He.eqO (PySem.W.findIn K (.ref C) "__setattr__") (some (some (.builtin "object.__setattr__")))))) &&
  (He.eqO (PySem.W.findIn K (.ref C) "__class__") (some (some (.builtin "object.__class__"))) && (decide (PySem.W.mroIn K C (.type "object") = some true) && (PySem.W.selfFirst K C && PySem.W.keepIn K (.ref C))))
structure Pl (K : PySem.W.Frag) (C : Addr) : Prop where
  cls : Cls K C
  ca : PySem.W.findIn K (.ref C) "__class__" = some (some (.builtin "object.__class__"))
  cm : PySem.W.mroIn K C (.type "object") = some true
  sf : PySem.W.selfFirst K C = true
  kp : PySem.W.keepIn K (.ref C) = true
theorem plB_ok {K : PySem.W.Frag} {C : Addr} (h : plB K C = true) : Pl K C := by
  obtain ⟨h1, h⟩ := He.ba h
  obtain ⟨a1, h1⟩ := He.ba h1
  obtain ⟨a2, h1⟩ := He.ba h1
  obtain ⟨a3, a4⟩ := He.ba h1
  obtain ⟨b1, h⟩ := He.ba h
  obtain ⟨b2, h⟩ := He.ba h
  obtain ⟨b3, b4⟩ := He.ba h
  exact ⟨⟨a1, a2, a3, He.eqO_ok a4⟩, He.eqO_ok b1, of_decide_eq_true b2, b3, b4⟩
theorem Pl.ty {K : PySem.W.Frag} {C a dx : Addr} {H : Hp} {fs : List (Str × V)} (p : Pl K C) (A : AllF K) (e : H a = some (.ins C dx fs)) : TyX K H (.ref a) (.ref C) :=
  .base (.ins e p.cls p.ca A.sg A.tk p.cm)
/-- the method m of C is the def at f -/
def smB (K : PySem.W.Frag) (C f : Addr) (m : Str) : Bool := He.eqO (PySem.W.findIn K (.ref C) m) (some (some (.ref f))) && (PySem.W.isFn K (.ref f) && (PySem.W.fnIn K f && PySem.W.keepIn K (.ref f)))
structure Sm2 (K : PySem.W.Frag) (C : Addr) (m : Str) (f : Addr) : Prop where
  sm : Sm K C m f
  fnI : PySem.W.fnIn K f = true
  kp : PySem.W.keepIn K (.ref f) = true
theorem smB_ok {K : PySem.W.Frag} {C f : Addr} {m : Str} (h : smB K C f m = true) : Sm2 K C m f := by
  obtain ⟨h1, h⟩ := He.ba h
  obtain ⟨h2, h⟩ := He.ba h
  obtain ⟨h3, h4⟩ := He.ba h
  exact ⟨⟨He.eqO_ok h1, h2⟩, h3, h4⟩
theorem Sm2.meth {K : PySem.W.Frag} {C f : Addr} {m : Str} (s : Sm2 K C m f) : Meth K C m f := ⟨s.sm.at_, s.sm.fn, s.kp⟩
/-- C may be made, its __init__ is the def at f -/
def mkB (K : PySem.W.Frag) (C f : Addr) : Bool := PySem.W.makesIn K C && (He.eqO (PySem.W.findIn K (.ref C) "__init__") (some (some (.ref f))) && (PySem.W.isFn K (.ref f) && PySem.W.keepIn K (.ref C)))
theorem mkB_ok {K : PySem.W.Frag} {C f : Addr} (h : mkB K C f = true) : Mk K C f := by
  obtain ⟨h1, h⟩ := He.ba h
  obtain ⟨h2, h⟩ := He.ba h
  obtain ⟨h3, h4⟩ := He.ba h
  exact ⟨h1, He.eqO_ok h2, h3, h4⟩
/-- m is a property of C: its record at p, its def at g -/
def prB (K : PySem.W.Frag) (C p g : Addr) (m : Str) : Bool := He.eqO (PySem.W.findIn K (.ref C) m) (some (some (.ref p))) && (He.eqO (PySem.W.specialIn K (.ref p) "__get__") (some (some (.builtin "property.__get__"))) && (decide (PySem.W.takesIn K (.ref p) = some true) && (match PySem.W.recIn K p "property" with
  | some (.ref f :: _) => decide (f = g)
  | _ => false)))
theorem prB_ok {K : PySem.W.Frag} {C p g : Addr} {m : Str} (h : prB K C p g m = true) : PropOf K C m p g := by
  obtain ⟨h1, h⟩ := He.ba h
  obtain ⟨h2, h⟩ := He.ba h
  obtain ⟨h3, h4⟩ := He.ba h
  refine ⟨He.eqO_ok h1, He.eqO_ok h2, of_decide_eq_true h3, ?_⟩
  split at h4
  · rename_i f r e
    exact ⟨r, by rw [e, of_decide_eq_true h4]⟩
  · cases h4
/-- m is a classmethod of C -/
def cmB (K : PySem.W.Frag) (C : Addr) (m : Str) : Bool := He5.wrapB K C "classmethod" "classmethod.__get__" m && (PySem.W.fnIn K (He5.wf K C "classmethod" m) && PySem.W.readsIn K C (.type "type"))
structure CmF (K : PySem.W.Frag) (C : Addr) (m : Str) : Prop where
  rd : ClX.CRead K C (.type "type")
  met : ClX.CMet K C (.type "type") m (He.ma K C m) (He5.wf K C "classmethod" m)
theorem cmB_ok {K : PySem.W.Frag} {C : Addr} {m : Str} (h : cmB K C m = true) : CmF K C m := by
  obtain ⟨h1, h⟩ := He.ba h
  obtain ⟨h2, h3⟩ := He.ba h
  refine ⟨⟨h3, ?_⟩, He5.cmet_of h1 h2⟩
  unfold PySem.W.readsIn at h3
  obtain ⟨h, _⟩ := He.ba h3
  obtain ⟨h, _⟩ := He.ba h
  obtain ⟨h, h3⟩ := He.ba h
  obtain ⟨_, h2⟩ := He.ba h
  unfold PySem.W.specialIn
  rw [beq_iff_eq.mp h2, Option.bind_some]
  exact beq_iff_eq.mp h3
/-- C's __init__ says super().__init__(..), which is the def at g -/
def supB (file : Str) (K : PySem.W.Frag) (C g : Addr) : Bool := codeRest K C (He.ma K C "__init__") file && ((PySem.W.clsIn K C).isSome && (decide (PySem.W.subIn K (.ref C) (.ref C) = some true) &&
  (He.eqO (PySem.W.ks_superIn K C C "__init__") (some (some (.ref g))) && (PySem.W.isFn K (.ref g) && PySem.W.fnIn K g))))
theorem sup_ok {P : Program} {K : PySem.W.Frag} {x q : Str} {g : Addr} {params : Arguments} {body : List Stmt} {sc : Scope} (h : supB P.main.file K (He.ga K x) g = true) (ha : AllF K)
    (hF : fnC K (x, some "__init__") = (some ("__init__", q, params, .stmts body, sc, mainGlobals, ["__class__"], builtinsNs) : FnC)) (htop : (P.main.scope.names.lookup ("super" : Str)).isSome = false) :
    ∃ fd cda cc, SupF P K (He.ga K x) (He.ma K (He.ga K x) "__init__") g q params body sc fd cda cc := by
  unfold supB at h
  obtain ⟨h8, h⟩ := He.ba h
  obtain ⟨h1, h⟩ := He.ba h
  obtain ⟨h2, h⟩ := He.ba h
  obtain ⟨h3, h⟩ := He.ba h
  obtain ⟨h4, h5⟩ := He.ba h
  have e1 : He.fAd K (x, some "__init__") = He.ma K (He.ga K x) "__init__" := rfl
  unfold fnC at hF
  rw [e1] at hF
  unfold codeRest at h8
  cases lk : K.lookup (He.ma K (He.ga K x) "__init__") with
  | none =>
    rw [lk] at h8
    cases h8
  | some o =>
    obtain ⟨oc, od, dt, osl⟩ := o
    rw [lk] at h8 hF
    cases dt with
    | func fd =>
      obtain ⟨n1, n2, n3, n4, n5, n6, n7, n8, n9, n10, n11, n12, n13, n14, n15⟩ := fd
      have e2 : (some (n1, n2, n3, n4, n5, n6, n7.map (·.1), n15) : FnC) = (some ("__init__", q, params, .stmts body, sc, mainGlobals, ["__class__"], builtinsNs) : FnC) := hF
      simp only [Option.some.injEq, Prod.mk.injEq] at e2
      obtain ⟨g1, g2, g3, g4, g5, g6, g7, g8⟩ := e2
      subst g1 g2 g3 g4 g5 g6 g8
      dsimp only at h8
      split at h8
      · rename_i cda z cc
        have ez : z = "__class__" := by
          have := g7
          simpa using this
        subst ez
        obtain ⟨c1, c2⟩ := He.ba h8
        obtain ⟨c2, c3⟩ := He.ba c2
        refine ⟨_, cda, cc, ⟨⟨_, _, _, _, _, _, _, _, rfl, lk⟩, c1, ?_, ?_, Option.isSome_iff_exists.mp h1, of_decide_eq_true h2, He.eqO_ok h3, beq_iff_eq.mp h4, h5, ha.opq, ha.sup, htop⟩⟩
        · split at c2
          · rename_i D _ hc
            cases of_decide_eq_true c2
            exact ⟨_, _, _, hc⟩
          · cases c2
        · split at c3
          · rename_i vs _ hc
            split at c3
            · rename_i f tf hv
              cases of_decide_eq_true c3
              exact ⟨_, _, vs, _, tf, hc, hv⟩
            · cases c3
          · cases c3
      · cases h8
    | _ => cases h8
/-! ### legs -/
abbrev aL (K : PySem.W.Frag) : Addr := He.ga K "Legs"
abbrev aT (K : PySem.W.Frag) : Addr := He.ga K "TableLegs"
def legMs : List Str := ["__add__", "__sub__", "__neg__", "__mul__", "__eq__", "__len__", "__getitem__", "__str__"]
def cLB (K : PySem.W.Frag) (C : Addr) : Bool := plB K C && (He.eqO (PySem.W.findIn K (.ref C) "by_month") (some none) && (legMs.all (fun m => smB K C (He.ma K (aL K) m) m) && (He.eqO (PySem.W.findIn K (.ref C) "__ne__") (some (some (.builtin "object.__ne__"))) && (He.eqO (PySem.W.findIn K (.ref C) "__bool__") (some none) &&
  (He.eqO (PySem.W.findIn K (.ref C) "__rmul__") (some none) && (decide (PySem.W.subIn K (.type "int") (.ref C) = some false) && (prB K C (He.ma K (aL K) "months") (He5.wf K (aL K) "property" "months") "months" && decide (PySem.W.kitOne K (.ref C) (.ref (aL K)) = some true))))))))
structure CL (K : PySem.W.Frag) (C : Addr) : Prop where
  pl : Pl K C
  no : NoAttr K C "by_month"
  sm : ∀ m ∈ legMs, Sm2 K C m (He.ma K (aL K) m)
  ne : PySem.W.findIn K (.ref C) "__ne__" = some (some (.builtin "object.__ne__"))
  nb : PySem.W.findIn K (.ref C) "__bool__" = some none
  rm : PySem.W.findIn K (.ref C) "__rmul__" = some none
  si : PySem.W.subIn K (.type "int") (.ref C) = some false
  mo : PropOf K C "months" (He.ma K (aL K) "months") (He5.wf K (aL K) "property" "months")
  ki : PySem.W.kitOne K (.ref C) (.ref (aL K)) = some true
theorem cLB_ok {K : PySem.W.Frag} {C : Addr} (h : cLB K C = true) : CL K C := by
  obtain ⟨h1, h⟩ := He.ba h
  obtain ⟨h2, h⟩ := He.ba h
  obtain ⟨h3, h⟩ := He.ba h
  obtain ⟨h4, h⟩ := He.ba h
  obtain ⟨h5, h⟩ := He.ba h
  obtain ⟨h6, h⟩ := He.ba h
  obtain ⟨h7, h⟩ := He.ba h
  obtain ⟨h8, h9⟩ := He.ba h
  exact ⟨plB_ok h1, He.eqO_ok h2, fun m hm => smB_ok (List.all_eq_true.mp h3 m hm), He.eqO_ok h4, He.eqO_ok h5, He.eqO_ok h6, of_decide_eq_true h7, prB_ok h8, of_decide_eq_true h9⟩
def legB (file : Str) (K : PySem.W.Frag) : Bool := cLB K (aL K) && (cLB K (aT K) && (mkB K (aT K) (He.ma K (aT K) "__init__") && (mkB K (aL K) (He.ma K (aL K) "__init__") && (supB file K (aT K) (He.ma K (aL K) "__init__") &&
  (PySem.W.notFirst K (aT K) (.ref (aL K)) && ((PySem.W.findIn K (.type "int") "__mul__").isSome && ((PySem.W.findIn K (.type "int") "__rmul__").isSome && (cmB K (aL K) "of" && (cmB K (aL K) "month" && cmB K (aL K) "read")))))))))
structure LegF (P : Program) (K : PySem.W.Frag) (q : Str) (params : Arguments) (body : List Stmt) (sc : Scope) : Prop where
  cL : CL K (aL K)
  cT : CL K (aT K)
  mT : Mk K (aT K) (He.ma K (aT K) "__init__")
  mL : Mk K (aL K) (He.ma K (aL K) "__init__")
  sup : ∃ fd cda cc, SupF P K (aT K) (He.ma K (aT K) "__init__") (He.ma K (aL K) "__init__") q params body sc fd cda cc
  nf : PySem.W.notFirst K (aT K) (.ref (aL K)) = true
  i1 : ∃ o, PySem.W.findIn K (.type "int") "__mul__" = some o
  i2 : ∃ o, PySem.W.findIn K (.type "int") "__rmul__" = some o
  of_ : CmF K (aL K) "of"
  month : CmF K (aL K) "month"
  read : CmF K (aL K) "read"
theorem legB_ok {P : Program} {K : PySem.W.Frag} {q : Str} {params : Arguments} {body : List Stmt} {sc : Scope} (h : legB P.main.file K = true) (ha : AllF K)
    (hF : fnC K ("TableLegs", some "__init__") = (some ("__init__", q, params, .stmts body, sc, mainGlobals, ["__class__"], builtinsNs) : FnC)) (htop : (P.main.scope.names.lookup ("super" : Str)).isSome = false) : LegF P K q params body sc := by
  obtain ⟨h1, h⟩ := He.ba h
  obtain ⟨h2, h⟩ := He.ba h
  obtain ⟨h3, h⟩ := He.ba h
  obtain ⟨h4, h⟩ := He.ba h
  obtain ⟨h5, h⟩ := He.ba h
  obtain ⟨h6, h⟩ := He.ba h
  obtain ⟨h7, h⟩ := He.ba h
  obtain ⟨h8, h⟩ := He.ba h
  obtain ⟨h9, h⟩ := He.ba h
  obtain ⟨h10, h11⟩ := He.ba h
  exact ⟨cLB_ok h1, cLB_ok h2, mkB_ok h3, mkB_ok h4, sup_ok h5 ha hF htop, h6, Option.isSome_iff_exists.mp h7, Option.isSome_iff_exists.mp h8, cmB_ok h9, cmB_ok h10, cmB_ok h11⟩
end Xr
set_option maxHeartbeats 4000000
/-! calls of own classes, properties, classmethods whose defs keep their promises -/
namespace Xr
open PySem PySem.Spec PyProof.Rows L2
section
variable {P : Program} {w : World} {K : PySem.W.Frag} {mg : Str → Option Value} {base : Heap} {CX : CXT} {j k : Nat} {f : Addr} {ps : List Str} {sp sp' : Sp}
theorem OkF.fnR (G : OkF P w K mg base CX k f ps sp) : FnR P w K mg base CX k f sp := by
  obtain ⟨fd, F, b, _⟩ := G
  refine (F.raw b .nil).imp fun vs H Q E h => ?_
  show sp (vs ++ []) H Q E
  rw [List.append_nil]
  exact h
theorem OkF.mono (G : OkF P w K mg base CX j f ps sp) (h : j ≤ k) : OkF P w K mg base CX k f ps sp := by
  obtain ⟨fd, F, b, kp⟩ := G
  exact ⟨fd, F.mono h, b, kp⟩
theorem OkF.imp (G : OkF P w K mg base CX k f ps sp) (h : ∀ vs H Q E, sp' vs H Q E → sp vs H Q E) : OkF P w K mg base CX k f ps sp' := by
  obtain ⟨fd, F, b, kp⟩ := G
  exact ⟨fd, F.imp h, b, kp⟩
end
section
variable {X : Cx} {CX : CXT} {k : Nat} {f C g p : Addr} {ps : List Str} {sp : Sp} {E : XK} {x m : Str} {np pos apos : Pos} {e o : Expr} {es : List Expr} {t : TA} {ta : TE}
theorem pe_mkF (M : Mk X.K C f) (G : OkF X.prog X.w X.K X.mg X.base CX k f ps sp) (hr : Room (k + 1) X.A) (hg : Gl X x) (hm : X.mg x = some (.ref C)) (hx : Passes CX X E) (ha : PA X (e :: es) t)
    (hdb : (x == ("__debug__" : Str)) = false := by decide) (he : starEach (e :: es) X.env = (false, eval e X.env) :: starEach es X.env := by rfl) (hpl : (backTo pos (starEach es X.env)).any (·.1) = false := by rfl) :
    PE X (.Call (.Name x np) (e :: es) [] pos) (tMake C sp [] E t) := by
  obtain ⟨fd, F, b, kp⟩ := G
  exact pe_make M F hr hg hm b .nil hx ha hdb he hpl
/-- C() -/
theorem pe_makeR0 (M : Mk X.K C f) (F : FnR X.prog X.w X.K X.mg X.base CX k f sp) (hr : Room (k + 1) X.A) (hg : Gl X x) (hm : X.mg x = some (.ref C)) (hx : Passes CX X E) (hdb : (x == ("__debug__" : Str)) = false := by decide) :
    PE X (.Call (.Name x np) [] [] pos) (StX.tMakeR C sp E tNil) := by
  refine ⟨fun pins s σ H Q I h => wpAny_Call_Name_kw (ld_glob I hg hm ?_ hdb)⟩
  exact PySem.W.callWith_K0 I.kIn M.kp (StX.run_makeR (us := []) M F hr hx I .nil h)
theorem pe_prF (he : PE X e ta) (c : Cls X.K C) (hp : PropOf X.K C m p g) (G : OkF X.prog X.w X.K X.mg X.base CX k g ps sp) (hr : Room (k + 1) X.A) (hx : Passes CX X.nox E)
    (hab : attributeBase e m X.env (eval e X.env) = eval e X.env := by rfl) : PE X (.Attribute e m pos) (tProp C sp [] E ta) := by
  obtain ⟨fd, F, b, kp⟩ := G
  exact pe_prop he c hp F hr b .nil hx hab
theorem pe_cmF {pl : Sem Bool} (he : PE X o ta) (c : CmF X.K C m) (F : FnR X.prog X.w X.K X.mg X.base CX k (He5.wf X.K C "classmethod" m) sp) (hr : Room k X.A) (hx : Passes CX X E) (ha : PA X (e :: es) t)
    (hst : starEach (e :: es) X.env = (false, eval e X.env) :: starEach es X.env := by rfl) (hpl : (backTo pos (starEach es X.env)).any (·.1) = false := by rfl)
    (ht : eval (.Call (.Attribute o m apos) (e :: es) [] pos) X.env = (do
      let ov ← eval o X.env
      standAt apos.atName
      let (f, first) ← holding [ov] (getMethod ov m pl)
      callWith pos f first (backTo pos (starEach (e :: es) X.env)) (backToKw pos (keywordEach [] X.env))) := by rfl) :
    PE X (.Call (.Attribute o m apos) (e :: es) [] pos) (ClX.tCMeth C sp E ta t) := ClX.pe_cmeth he c.rd c.met F hr hx ha hst hpl ht
theorem pe_fG {fd : FuncData} (F : FnG X.prog X.w X.K X.mg X.base CX k f fd ps sp) (b : Binds X.K fd ps []) (hk : PySem.W.keepIn X.K (.ref f) = true) (hr : Room k X.A) (hgd : X.A.guards = some []) (hg : Gl X x) (hm : X.mg x = some (.ref f)) (hx : Passes CX X E)
    (ha : PA X (e :: es) t) (hdb : (x == ("__debug__" : Str)) = false := by decide) (he : starEach (e :: es) X.env = (false, eval e X.env) :: starEach es X.env := by rfl) (hpl : (backTo pos (starEach es X.env)).any (·.1) = false := by rfl) :
    PE X (.Call (.Name x np) (e :: es) [] pos) (tCall sp [] E t) := pe_callG F hr hgd hg hm hk b .nil hx ha hdb he hpl
end
/-- a def, called by itself -/
def OkI (P : Program) (w : World) (K : PySem.W.Frag) (mg : Str → Option Value) (base : Heap) (CX : CXT) (k : Nat) (f : Addr) (ps : List Str) (sp : Sp) : Prop :=
  ∃ fd, FnOk P w K mg base CX k f fd ps sp ∧ Binds K fd ps []
theorem OkF.i {P : Program} {w : World} {K : PySem.W.Frag} {mg : Str → Option Value} {base : Heap} {CX : CXT} {k : Nat} {f : Addr} {ps : List Str} {sp : Sp} (G : OkF P w K mg base CX k f ps sp) : OkI P w K mg base CX k f ps sp := by
  obtain ⟨fd, F, b, _⟩ := G
  exact ⟨fd, F, b⟩
theorem OkI.fnR {P : Program} {w : World} {K : PySem.W.Frag} {mg : Str → Option Value} {base : Heap} {CX : CXT} {k : Nat} {f : Addr} {ps : List Str} {sp : Sp} (G : OkI P w K mg base CX k f ps sp) : FnR P w K mg base CX k f sp := by
  obtain ⟨fd, F, b⟩ := G
  refine (F.raw b .nil).imp fun vs H Q E h => ?_
  show sp (vs ++ []) H Q E
  rw [List.append_nil]
  exact h
theorem pe_mkI {X : Cx} {CX : CXT} {k : Nat} {f C : Addr} {ps : List Str} {sp : Sp} {E : XK} {x : Str} {np pos : Pos} {e : Expr} {es : List Expr} {t : TA} (M : Mk X.K C f) (G : OkI X.prog X.w X.K X.mg X.base CX k f ps sp) (hr : Room (k + 1) X.A) (hg : Gl X x) (hm : X.mg x = some (.ref C)) (hx : Passes CX X E) (ha : PA X (e :: es) t)
    (hdb : (x == ("__debug__" : Str)) = false := by decide) (he : starEach (e :: es) X.env = (false, eval e X.env) :: starEach es X.env := by rfl) (hpl : (backTo pos (starEach es X.env)).any (·.1) = false := by rfl) :
    PE X (.Call (.Name x np) (e :: es) [] pos) (tMake C sp [] E t) := by
  obtain ⟨fd, F, b⟩ := G
  exact pe_make M F hr hg hm b .nil hx ha hdb he hpl
/-! ### locks -/
theorem same_lock {H H' : Hp} {d : Addr} {u : HO} {od : Obj} (h : H d = some u) (s : Same (upd H d (.frz od u)) H') : Same H (upd H' d u) := fun b o z => by
  by_cases hb : b = d
  · subst hb
    rw [upd_same]
    exact h.symm.trans z |>.symm ▸ z ▸ h.symm ▸ rfl
  · rw [upd_ne hb]
    exact s b o (by rw [upd_ne hb]; exact z)
end Xr
set_option maxHeartbeats 4000000
/-! tables of whole numbers by names; their ascending form without zeros -/
namespace Xr
open PySem PySem.Spec PyProof.Rows L2
theorem ix_tupK {X : Cx} (K : PySem.W.Frag) (h : X.K = K := by rfl) : IxR X (rIxT K) := by
  subst h
  exact ix_tup
theorem call_isiK {X : Cx} (K : PySem.W.Frag) (h : X.K = K := by rfl) : CallR X (.builtin "isinstance") (rIsi K) := by
  subst h
  exact call_isi
abbrev Tab := List (Str × Int)
def ks (t : Tab) : List Str := t.map (·.1)
def tabK (t : Tab) : List (Key × V) := t.map fun p => (.inr p.1, .int p.2)
def val (t : Tab) (k : Str) : Int := match t.find? (fun p => decide (p.1 = k)) with
  | some p => p.2
  | none => 0
theorem find_tab (t : Tab) (k : Str) : valV (tabK t) (.inr k) = (t.find? fun p => decide (p.1 = k)).map fun p => V.int p.2 := by
  unfold valV tabK
  induction t with
  | nil => rfl
  | cons p r ih =>
    rw [List.map_cons, List.find?_cons, List.find?_cons]
    have e : decide ((Sum.inr p.1 : Key) = Sum.inr k) = decide (p.1 = k) := by
      by_cases h : p.1 = k <;> simp [h]
    dsimp only
    rw [e]
    cases decide (p.1 = k) with
    | true => rfl
    | false => exact ih
theorem find_none {t : Tab} {k : Str} : (t.find? fun p => decide (p.1 = k)) = none ↔ k ∉ ks t := by
  rw [List.find?_eq_none]
  unfold ks
  constructor
  · intro h hm
    obtain ⟨p, hp, e⟩ := List.mem_map.mp hm
    exact h p hp (decide_eq_true e)
  · intro h p hp e
    exact h (List.mem_map.mpr ⟨p, hp, of_decide_eq_true e⟩)
theorem valV_out {t : Tab} {k : Str} (h : k ∉ ks t) : valV (tabK t) (.inr k) = none := by
  rw [find_tab, find_none.mpr h]
  rfl
theorem valV_in {t : Tab} {k : Str} (h : k ∈ ks t) : valV (tabK t) (.inr k) = some (.int (val t k)) := by
  rw [find_tab]
  unfold val
  cases e : t.find? fun p => decide (p.1 = k) with
  | none => exact absurd h (find_none.mp e)
  | some p => rfl
theorem valV_getD {t : Tab} {k : Str} : (valV (tabK t) (.inr k)).getD (.int 0) = .int (val t k) := by
  rw [find_tab]
  unfold val
  cases t.find? fun p => decide (p.1 = k) <;> rfl
theorem val_out {t : Tab} {k : Str} (h : k ∉ ks t) : val t k = 0 := by
  unfold val
  rw [find_none.mpr h]
theorem val_map {f : Str → Int} {l : List Str} {k : Str} : val (l.map fun x => (x, f x)) k = if k ∈ l then f k else 0 := by
  unfold val
  induction l with
  | nil => rfl
  | cons x r ih =>
    rw [List.map_cons, List.find?_cons]
    by_cases h : x = k
    · subst h
      simp
    · have h2 : k ≠ x := fun z => h z.symm
      simp only [h, decide_false, List.mem_cons, h2, false_or]
      exact ih
theorem val_mem {t : Tab} (nd : (ks t).Nodup) {p : Str × Int} (h : p ∈ t) : val t p.1 = p.2 := by
  unfold val
  induction t with
  | nil => cases h
  | cons q r ih =>
    unfold ks at nd
    rw [List.map_cons, List.nodup_cons] at nd
    rw [List.find?_cons]
    rcases List.mem_cons.mp h with e | hm
    · subst e
      simp
    · have hne : q.1 ≠ p.1 := fun z => nd.1 (List.mem_map.mpr ⟨p, hm, z.symm⟩)
      simp only [hne, decide_false]
      exact ih nd.2 hm
theorem ks_tab (t : Tab) : (tabK t).map (·.1) = (ks t).map Sum.inr := by
  unfold tabK ks
  rw [List.map_map, List.map_map]
  rfl
theorem keysV_tab (t : Tab) : keysV (tabK t) = (ks t).map V.str := by
  unfold keysV tabK ks
  rw [List.map_map, List.map_map]
  rfl
theorem tab_eq_map {t : Tab} (nd : (ks t).Nodup) : t = (ks t).map fun k => (k, val t k) := by
  unfold ks
  rw [List.map_map]
  conv => lhs; rw [← List.map_id t]
  refine List.map_congr_left fun p hp => ?_
  show p = (p.1, val t p.1)
  rw [val_mem nd hp]
/-! ### order -/
def leS (a b : Str) : Prop := ltCps b.cps.toList a.cps.toList = false
theorem leS_iff {a b : Str} : leS a b ↔ a.cps.toList ≤ b.cps.toList := by
  unfold leS
  rw [ltCps_eq, decide_eq_false_iff_not]
  exact Iff.rfl
theorem leS_trans {a b c : Str} (h1 : leS a b) (h2 : leS b c) : leS a c := leS_iff.mpr (List.le_trans (leS_iff.mp h1) (leS_iff.mp h2))
theorem str_ext {a b : Str} (h : a.cps.toList = b.cps.toList) : a = b := by
  cases a with
  | mk x =>
    cases b with
    | mk y =>
      cases x
      cases y
      cases h
      rfl
theorem leS_antisymm {a b : Str} (h1 : leS a b) (h2 : leS b a) : a = b := str_ext (List.le_antisymm (leS_iff.mp h1) (leS_iff.mp h2))
theorem pairwise_rising : ∀ (l : List Str) (p : Str), risingS p l = true → (p :: l).Pairwise leS
  | [], p, _ => List.pairwise_singleton _ _
  | x :: r, p, h => by
    have h' : (!ltCps x.cps.toList p.cps.toList && risingS x r) = true := h
    obtain ⟨h1, h2⟩ := He.ba h'
    have ih := pairwise_rising r x h2
    have px : leS p x := by simpa [leS] using h1
    refine List.pairwise_cons.mpr ⟨fun y hy => ?_, ih⟩
    rcases List.mem_cons.mp hy with rfl | hy
    · exact px
    · exact leS_trans px (List.rel_of_pairwise_cons ih hy)
theorem pairwise_sorted {l : List Str} (h : sortedS l = true) : l.Pairwise leS := by
  cases l with
  | nil => exact List.Pairwise.nil
  | cons x r => exact pairwise_rising r x h
/-- ascending, without zeros -/
structure Canon (m : Tab) : Prop where
  up : (ks m).Pairwise leS
  nd : (ks m).Nodup
  nz : ∀ p ∈ m, p.2 ≠ 0
theorem Canon.mem {m : Tab} (c : Canon m) {k : Str} : k ∈ ks m ↔ val m k ≠ 0 := by
  constructor
  · intro h
    obtain ⟨p, hp, rfl⟩ := List.mem_map.mp h
    rw [val_mem c.nd hp]
    exact c.nz p hp
  · intro h
    by_cases hm : k ∈ ks m
    · exact hm
    · exact absurd (val_out hm) h
theorem canon_eq {m m' : Tab} (c : Canon m) (c' : Canon m') (h : ∀ k, val m k = val m' k) : m = m' := by
  have e : ks m = ks m' := by
    refine List.Perm.eq_of_pairwise (le := leS) (fun a b _ _ => leS_antisymm) c.up c'.up ((List.perm_ext_iff_of_nodup c.nd c'.nd).mpr fun k => ?_)
    rw [c.mem, c'.mem, h]
  rw [tab_eq_map c.nd, tab_eq_map c'.nd, e]
  exact List.map_congr_left fun k _ => by rw [h]
/-- the ascending form of a table, from its keys sorted -/
def norm (ys : List Str) (t : Tab) : Tab := (ys.filter fun k => decide (val t k ≠ 0)).map fun k => (k, val t k)
theorem ks_norm (ys : List Str) (t : Tab) : ks (norm ys t) = ys.filter fun k => decide (val t k ≠ 0) := by
  unfold ks norm
  rw [List.map_map]
  exact List.map_id _
theorem canon_norm {ys : List Str} {t : Tab} (nd : (ks t).Nodup) (hp : ys.Perm (ks t)) (hs : sortedS ys = true) : Canon (norm ys t) ∧ ∀ k, val (norm ys t) k = val t k := by
  refine ⟨⟨?_, ?_, ?_⟩, fun k => ?_⟩
  · rw [ks_norm]
    exact (pairwise_sorted hs).filter _
  · rw [ks_norm]
    exact (hp.nodup_iff.mpr nd).filter _
  · intro p h
    obtain ⟨k, hk, rfl⟩ := List.mem_map.mp h
    have := (List.mem_filter.mp hk).2
    exact of_decide_eq_true this
  · unfold norm
    rw [val_map]
    by_cases h0 : val t k = 0
    · rw [if_neg (by simp [h0]), h0]
    · have hm : k ∈ ks t := by
        by_cases hm : k ∈ ks t
        · exact hm
        · exact absurd (val_out hm) h0
      rw [if_pos (by simp [h0, hp.mem_iff, hm])]
theorem norm_length {ys : List Str} {t : Tab} (hp : ys.Perm (ks t)) : (norm ys t).length ≤ t.length := by
  unfold norm
  rw [List.length_map]
  have z := List.length_filter_le (fun k => decide (val t k ≠ 0)) ys
  have z2 : ys.length = t.length := by rw [hp.length_eq]; unfold ks; rw [List.length_map]
  omega
/-! ### sums -/
def addT (one other : Tab) (s : Int) : Tab := (ks one ++ (ks other).filter fun k => decide (k ∉ ks one)).map fun k => (k, val one k + s * val other k)
theorem ks_addT (one other : Tab) (s : Int) : ks (addT one other s) = ks one ++ (ks other).filter fun k => decide (k ∉ ks one) := by
  unfold ks addT
  rw [List.map_map]
  exact List.map_id _
theorem addT_nd {one other : Tab} {s : Int} (h1 : (ks one).Nodup) (h2 : (ks other).Nodup) : (ks (addT one other s)).Nodup := by
  rw [ks_addT]
  refine List.nodup_append.mpr ⟨h1, h2.filter _, fun a ha b hb e => ?_⟩
  subst e
  exact of_decide_eq_true (List.mem_filter.mp hb).2 ha
theorem val_addT {one other : Tab} {s : Int} {k : Str} : val (addT one other s) k = val one k + s * val other k := by
  unfold addT
  rw [val_map]
  by_cases h1 : k ∈ ks one
  · rw [if_pos (List.mem_append_left _ h1)]
  · by_cases h2 : k ∈ ks other
    · rw [if_pos (List.mem_append_right _ (List.mem_filter.mpr ⟨h2, decide_eq_true h1⟩))]
    · rw [if_neg, val_out h1, val_out h2, Int.mul_zero]
      · rfl
      · intro h
        rcases List.mem_append.mp h with h | h
        · exact h1 h
        · exact h2 (List.mem_filter.mp h).1
theorem addT_length {one other : Tab} {s : Int} : (addT one other s).length ≤ one.length + other.length := by
  unfold addT
  rw [List.length_map, List.length_append]
  have z := List.length_filter_le (fun k => decide (k ∉ ks one)) (ks other)
  have z1 : (ks one).length = one.length := by unfold ks; rw [List.length_map]
  have z2 : (ks other).length = other.length := by unfold ks; rw [List.length_map]
  omega
theorem nodup_le : ∀ {l l' : List Str}, l.Nodup → l ⊆ l' → l.length ≤ l'.length
  | [], _, _, _ => Nat.zero_le _
  | x :: r, l', nd, h => by
    obtain ⟨n1, n2⟩ := List.nodup_cons.mp nd
    have hx : x ∈ l' := h (List.mem_cons_self ..)
    have z := nodup_le (l := r) (l' := l'.erase x) n2 fun y hy => by
      have hne : y ≠ x := fun e => n1 (e ▸ hy)
      exact (List.mem_erase_of_ne hne).mpr (h (List.mem_cons_of_mem _ hy))
    rw [List.length_erase_of_mem hx] at z
    have := List.length_pos_of_mem hx
    rw [List.length_cons]
    omega
/-! ### dicts compared -/
theorem subK_tab {m m' : Tab} (nd : (ks m).Nodup) : subK (tabK m) (tabK m') = decide (∀ k ∈ ks m, k ∈ ks m' ∧ val m k = val m' k) := by
  unfold subK tabK
  rw [List.all_map, Bool.eq_iff_iff, List.all_eq_true, decide_eq_true_iff]
  constructor
  · intro h k hk
    obtain ⟨p, hp, rfl⟩ := List.mem_map.mp hk
    have z := h p hp
    by_cases hm : p.1 ∈ ks m'
    · refine ⟨hm, ?_⟩
      have e := valV_in hm
      unfold tabK at e
      simp only [Function.comp] at z
      rw [e] at z
      rw [val_mem nd hp]
      simpa [eqV] using z
    · have e := valV_out hm
      unfold tabK at e
      simp only [Function.comp] at z
      rw [e] at z
      cases z
  · intro h p hp
    obtain ⟨hm, hv⟩ := h p.1 (List.mem_map.mpr ⟨p, hp, rfl⟩)
    have e := valV_in hm
    unfold tabK at e
    simp only [Function.comp]
    rw [e, ← hv, val_mem nd hp]
    simp [eqV]
theorem eq_tab {m m' : Tab} (c : Canon m) (c' : Canon m') : ((tabK m).length == (tabK m').length && subK (tabK m) (tabK m')) = decide (m = m') := by
  rw [subK_tab c.nd, Bool.eq_iff_iff, Bool.and_eq_true, decide_eq_true_iff, decide_eq_true_iff]
  constructor
  · rintro ⟨h1, h2⟩
    have hl : (ks m).length = (ks m').length := by
      have := beq_iff_eq.mp h1
      unfold tabK at this
      unfold ks
      simpa using this
    have sub : ks m ⊆ ks m' := fun k hk => (h2 k hk).1
    have pm : (ks m).Perm (ks m') := by
      refine (List.perm_ext_iff_of_nodup c.nd c'.nd).mpr fun k => ⟨fun h => sub h, fun h => ?_⟩
      by_cases hk : k ∈ ks m
      · exact hk
      · have z : (k :: ks m).Nodup := List.nodup_cons.mpr ⟨hk, c.nd⟩
        have z2 : (k :: ks m) ⊆ ks m' := fun x hx => (List.mem_cons.mp hx).elim (fun e => e ▸ h) fun hx => sub hx
        have z3 := nodup_le z z2
        rw [List.length_cons] at z3
        omega
    refine canon_eq c c' fun k => ?_
    by_cases hk : k ∈ ks m
    · exact (h2 k hk).2
    · rw [val_out hk, val_out fun h => hk (pm.mem_iff.mpr h)]
  · rintro rfl
    exact ⟨beq_self_eq_true _, fun k hk => ⟨hk, rfl⟩⟩
theorem flat_tab (t : Tab) : ∀ p ∈ tabK t, flatV p.2 = true := fun p hp => by
  obtain ⟨q, _, rfl⟩ := List.mem_map.mp hp
  rfl
end Xr
set_option maxHeartbeats 4000000
/-! a table with an entry put in -/
namespace Xr
open PySem PySem.Spec PyProof.Rows L2
def putT (t : Tab) (k : Str) (v : Int) : Tab := if k ∈ ks t then t.map (fun p => if p.1 = k then (p.1, v) else p) else t ++ [(k, v)]
theorem any_tab {t : Tab} {k : Str} : ((tabK t).any fun kv => decide (kv.1 = Sum.inr k)) = decide (k ∈ ks t) := by
  rw [Bool.eq_iff_iff, List.any_eq_true, decide_eq_true_iff]
  unfold tabK ks
  constructor
  · rintro ⟨q, hq, e⟩
    obtain ⟨p, hp, rfl⟩ := List.mem_map.mp hq
    have e2 : (Sum.inr p.1 : Key) = Sum.inr k := of_decide_eq_true e
    exact List.mem_map.mpr ⟨p, hp, Sum.inr.inj e2⟩
  · intro h
    obtain ⟨p, hp, rfl⟩ := List.mem_map.mp h
    exact ⟨_, List.mem_map.mpr ⟨p, hp, rfl⟩, decide_eq_true rfl⟩
theorem put_tab {t : Tab} {k : Str} {v : Int} : putK (tabK t) (.inr k) (.int v) = tabK (putT t k v) := by
  unfold putK putT
  rw [any_tab]
  by_cases h : k ∈ ks t
  · rw [if_pos (decide_eq_true h), if_pos h]
    unfold tabK
    rw [List.map_map, List.map_map]
    refine List.map_congr_left fun p _ => ?_
    show (if (Sum.inr p.1 : Key) = Sum.inr k then ((Sum.inr p.1 : Key), V.int v) else (Sum.inr p.1, V.int p.2)) = _
    by_cases e : p.1 = k
    · subst e
      rw [if_pos rfl]
      simp
    · rw [if_neg fun z => e (Sum.inr.inj z)]
      simp [e]
  · rw [if_neg (by rw [decide_eq_false h]; exact Bool.false_ne_true), if_neg h]
    unfold tabK
    rw [List.map_append]
    rfl
theorem val_put {t : Tab} {k j : Str} {v : Int} : val (putT t k v) j = if j = k then v else val t j := by
  have e := valV_getD (t := putT t k v) (k := j)
  rw [← put_tab, valV_put] at e
  by_cases h : j = k
  · subst h
    rw [if_pos rfl] at e ⊢
    exact (V.int.inj e).symm
  · rw [if_neg fun z => h (Sum.inr.inj z), valV_getD] at e
    rw [if_neg h]
    exact (V.int.inj e).symm
theorem ks_put {t : Tab} {k : Str} {v : Int} : ks (putT t k v) = if k ∈ ks t then ks t else ks t ++ [k] := by
  unfold putT
  split
  · unfold ks
    rw [List.map_map]
    refine List.map_congr_left fun p _ => ?_
    show (if p.1 = k then (p.1, v) else p).1 = p.1
    split <;> rfl
  · unfold ks
    rw [List.map_append]
    rfl
theorem nd_put {t : Tab} {k : Str} {v : Int} (h : (ks t).Nodup) : (ks (putT t k v)).Nodup := by
  rw [ks_put]
  split
  · exact h
  · rename_i hn
    refine List.nodup_append.mpr ⟨h, by simp, fun a ha b hb e => ?_⟩
    rw [List.mem_singleton.mp hb] at e
    exact hn (e ▸ ha)
theorem mem_put {t : Tab} {k : Str} {v : Int} {p : Str × Int} (h : p ∈ putT t k v) : p.2 = v ∨ p ∈ t := by
  unfold putT at h
  split at h
  · obtain ⟨q, hq, e⟩ := List.mem_map.mp h
    by_cases z : q.1 = k
    · rw [if_pos z] at e
      rw [← e]
      exact .inl rfl
    · rw [if_neg z] at e
      rw [← e]
      exact .inr hq
  · rcases List.mem_append.mp h with h | h
    · exact .inr h
    · rw [List.mem_singleton.mp h]
      exact .inl rfl
theorem put_len {t : Tab} {k : Str} {v : Int} : (putT t k v).length ≤ t.length + 1 := by
  unfold putT
  split
  · rw [List.length_map]
    omega
  · rw [List.length_append]
    exact Nat.le_refl _
/-- the months of the laws -/
def monthsL : List Str := ["z", "m", "aa", "self", "zzzzzzzz", "b", "zz"]
structure TabM (t : Tab) : Prop where
  nd : (ks t).Nodup
  sub : ks t ⊆ monthsL
theorem TabM.len {t : Tab} (h : TabM t) : t.length ≤ 7 := by
  have z := nodup_le h.nd h.sub
  unfold ks at z
  rw [List.length_map] at z
  exact z
theorem TabM.put {t : Tab} {k : Str} {v : Int} (h : TabM t) (hk : k ∈ monthsL) : TabM (putT t k v) := by
  refine ⟨nd_put h.nd, ?_⟩
  rw [ks_put]
  split
  · exact h.sub
  · intro x hx
    rcases List.mem_append.mp hx with hx | hx
    · exact h.sub hx
    · rw [List.mem_singleton.mp hx]
      exact hk
theorem tabM_nil : TabM [] := ⟨List.nodup_nil, fun _ h => (List.not_mem_nil h).elim⟩
theorem erase_map {α β : Type} (f : α → β) : ∀ (l : List α) (i : Nat), (l.map f).eraseIdx i = (l.eraseIdx i).map f
  | [], _ => rfl
  | _ :: _, 0 => rfl
  | x :: r, i + 1 => by
    show f x :: (r.map f).eraseIdx i = f x :: (r.eraseIdx i).map f
    rw [erase_map f r i]
theorem erase_perm {α : Type} : ∀ {l : List α} {i : Nat} (h : i < l.length), (l[i] :: l.eraseIdx i).Perm l
  | _ :: _, 0, _ => List.Perm.refl _
  | x :: r, i + 1, h => (List.Perm.swap x (r[i]'(Nat.lt_of_succ_lt_succ h)) (r.eraseIdx i)).trans ((erase_perm (l := r) (i := i) (Nat.lt_of_succ_lt_succ h)).cons x)
theorem seqI {i : Int} {n : Nat} (h0 : 0 ≤ i) (h1 : i < (n : Int)) : seqIndex? i n = some i.toNat := by
  have h2 : ¬ i < 0 := by omega
  unfold seqIndex?
  simp [h0, h1, h2]
end Xr
set_option maxHeartbeats 4000000
/-! the text of a list of pairs of a name and a whole number -/
namespace Xr
open PySem PySem.Spec PyProof.Rows L2
def pairD (p : Str × Int) : PyData := .tuple [.str p.1, .int p.2]
def pairsD (m : Tab) : PyData := .list (m.map pairD)
theorem app_len (a b : Str) : (a ++ b).length = a.length + b.length := by
  show (a.cps ++ b.cps).size = _
  rw [Array.size_append]
  rfl
theorem textFrom_le {B : Nat} : ∀ (ts : List Str) (k : Nat) (acc : Str), (∀ t ∈ ts, t.length ≤ B) → (textFrom k acc ts).length ≤ acc.length + ts.length * (B + 2)
  | [], k, acc, _ => by
    show acc.length ≤ _
    omega
  | t :: r, k, acc, h => by
    have ih := textFrom_le r (k + 1) (acc ++ (if k > 0 then ", " else "" : String) ++ t) fun x hx => h x (List.mem_cons_of_mem _ hx)
    have e : textFrom k acc (t :: r) = textFrom (k + 1) (acc ++ (if k > 0 then ", " else "" : String) ++ t) r := rfl
    rw [e]
    rw [app_len, app_len] at ih
    have ht := h t (List.mem_cons_self ..)
    have hs : (Str.ofString (if k > 0 then ", " else "" : String)).length ≤ 2 := by split <;> decide
    rw [List.length_cons, Nat.succ_mul]
    omega
theorem pair_len {p : Str × Int} (h : (reprText p.1).length ≤ 100) (hn : p.2.natAbs.log2 < 1920) : (pairD p).shown.length ≤ 2025 := by
  have e : (pairD p).shown = ("(" : Str) ++ Str.join ", " [reprText p.1, (Str.ofString (toString p.2))] ++ (")" : Str) := rfl
  have z := int_text_len_1921 hn
  have j := join_length_add [reprText p.1, (Str.ofString (toString p.2))] (by simp)
  rw [e, app_len, app_len]
  have pl : piled [reprText p.1, (Str.ofString (toString p.2))] = (reprText p.1).length + 2 + ((Str.ofString (toString p.2)).length + 2) := by simp [piled]
  rw [pl] at j
  have e1 : (Str.ofString "(").length = 1 := rfl
  have e2 : (Str.ofString ")").length = 1 := rfl
  omega
theorem shownAll_map (m : Tab) : PyData.shownAll (m.map pairD) = m.map fun p => (pairD p).shown := by
  induction m with
  | nil => rfl
  | cons p r ih =>
    show (pairD p).shown :: PyData.shownAll (r.map pairD) = _
    rw [ih]
    rfl
theorem pairs_len {m : Tab} (hl : m.length ≤ 64) (h : ∀ p ∈ m, (reprText p.1).length ≤ 100 ∧ p.2.natAbs.log2 < 1920) : (pairsD m).shown.length ≤ sizeLine := by
  have e : (pairsD m).shown = textFrom 0 "[" (PyData.shownAll (m.map pairD)) ++ ("]" : Str) := rfl
  have z := textFrom_le (B := 2025) (PyData.shownAll (m.map pairD)) 0 "[" fun t ht => by
    rw [shownAll_map] at ht
    obtain ⟨p, hp, rfl⟩ := List.mem_map.mp ht
    exact pair_len (h p hp).1 (h p hp).2
  rw [shownAll_map, List.length_map] at z
  have e1 : (Str.ofString "[").length = 1 := rfl
  have e2 : (Str.ofString "]").length = 1 := rfl
  rw [e, app_len, shownAll_map, sizeLine_eq]
  have : m.length * (2025 + 2) ≤ 64 * (2025 + 2) := Nat.mul_le_mul_right _ hl
  omega
theorem pairs_show {m : Tab} (h : ∀ p ∈ m, p.2.natAbs.log2 < 1920) : (pairsD m).showable = true := by
  show PyData.showableAll (m.map pairD) = true
  induction m with
  | nil => rfl
  | cons p r ih =>
    show ((pairD p).showable && PyData.showableAll (r.map pairD)) = true
    rw [ih fun q hq => h q (List.mem_cons_of_mem _ hq), Bool.and_true]
    show (true && (decide (p.2.natAbs.log2 < 1920) && true)) = true
    rw [decide_eq_true (h p (List.mem_cons_self ..))]
    rfl
theorem pairs_depth (m : Tab) : (pairsD m).depth ≤ 2 := by
  show PyData.depthAll (m.map pairD) + 1 ≤ 2
  have z : PyData.depthAll (m.map pairD) ≤ 1 := by
    induction m with
    | nil => exact Nat.zero_le _
    | cons p r ih =>
      show max (pairD p).depth (PyData.depthAll (r.map pairD)) ≤ 1
      exact Nat.max_le.mpr ⟨Nat.le_refl _, ih⟩
  omega
theorem months_repr : ∀ k ∈ monthsL, (reprText k).length ≤ 100 := by decide +kernel
end Xr
set_option maxHeartbeats 4000000
/-! texts of terms: written and read -/
namespace Xr
open PySem PySem.Spec PyProof.Rows L2 TL
def digS : Str := "0123456789"
def numIn (x : Str) : Option Int := if ((decide (1 ≤ x.length) && decide (x.length ≤ 60)) && x.cps.toList.all fun c => decide (c ∈ digS.cps.toList)) = true then
  (if x = "0" ∨ x.cps.toList.headD 0 ≠ 48 then some ((NumText.digitsVal x.cps.toList : Nat) : Int) else none) else none
theorem dig_iff {c : Nat} : c ∈ digS.cps.toList ↔ 48 ≤ c ∧ c ≤ 57 := by
  have e : digS.cps.toList = [48, 49, 50, 51, 52, 53, 54, 55, 56, 57] := by decide +kernel
  rw [e]
  simp
  omega
def lettersS : Str := "abcdefghijklmnopqrstuvwxyz"
theorem let_iff {c : Nat} : c ∈ lettersS.cps.toList ↔ 97 ≤ c ∧ c ≤ 122 := by
  have e : lettersS.cps.toList = (List.range 26).map (· + 97) := by decide +kernel
  rw [e, List.mem_map]
  constructor
  · rintro ⟨a, h, rfl⟩
    have := List.mem_range.mp h
    omega
  · rintro ⟨h1, h2⟩
    exact ⟨c - 97, List.mem_range.mpr (by omega), by omega⟩
def nameS (x : Str) : Bool := (decide (1 ≤ x.length) && decide (x.length ≤ 8)) && x.cps.toList.all fun c => decide (c ∈ lettersS.cps.toList)
def numS (n : Int) : Str := Str.ofString (toString n)
theorem tl_numS {n : Int} (h : 0 ≤ n) : (numS n).cps.toList = numL n.natAbs := by
  have e : n = ((n.natAbs : Nat) : Int) := by omega
  unfold numS
  conv => lhs; rw [e]
  exact tl_num n.natAbs
theorem numL_head : ∀ {n : Nat}, 1 ≤ n → (numL n).headD 0 ≠ 48 := by
  intro n
  induction n using Nat.strongRecOn with
  | _ n ih =>
    intro h1
    by_cases h : n < 10
    · rw [numL_lt h]
      show 48 + n ≠ 48
      omega
    · rw [numL_step (by omega)]
      have z := ih (n / 10) (by omega) (by omega)
      have ne := numL_ne (n / 10)
      cases e : numL (n / 10) with
      | nil => exact absurd e ne
      | cons c r => rw [e] at z; exact z
theorem len_toList (x : Str) : x.cps.toList.length = x.length := Array.length_toList
theorem numIn_num {n : Int} (h0 : 0 ≤ n) (h1 : n < 10 ^ 60) : numIn (numS n) = some n := by
  have e := tl_numS h0
  have hl : (numS n).length ≤ 60 := by
    rw [← len_toList, e]
    refine numL_len (by decide) ?_
    have z : ((10 : Int) ^ 60) = ((10 ^ 60 : Nat) : Int) := by decide
    rw [z] at h1
    omega
  have hp : 1 ≤ (numS n).length := by
    rw [← len_toList, e]
    have := numL_ne n.natAbs
    cases h : numL n.natAbs with
    | nil => exact absurd h this
    | cons c r => simp
  have ha : ((numS n).cps.toList.all fun c => decide (c ∈ digS.cps.toList)) = true := by
    rw [e, List.all_eq_true]
    intro c hc
    rw [decide_eq_true_iff, dig_iff]
    exact numL_digits _ c hc
  unfold numIn
  rw [decide_eq_true hp, decide_eq_true hl, ha]
  rw [if_pos (by rfl), if_pos, e, numL_val]
  · congr 1
    omega
  · by_cases z : n = 0
    · subst z
      left
      decide +kernel
    · right
      rw [e]
      exact numL_head (by omega)
theorem numIn_name {x : Str} (h : nameS x = true) : numIn x = none := by
  unfold nameS at h
  obtain ⟨h1, h2⟩ := Bool.and_eq_true_iff.mp h
  obtain ⟨h1, _⟩ := Bool.and_eq_true_iff.mp h1
  have h1 := of_decide_eq_true h1
  unfold numIn
  rw [if_neg]
  intro z
  obtain ⟨_, z⟩ := Bool.and_eq_true_iff.mp z
  rw [← len_toList] at h1
  cases e : x.cps.toList with
  | nil => rw [e] at h1; simp at h1
  | cons c r =>
    have z1 := List.all_eq_true.mp z c (by rw [e]; exact List.mem_cons_self ..)
    have z2 := List.all_eq_true.mp h2 c (by rw [e]; exact List.mem_cons_self ..)
    have z1 := dig_iff.mp (of_decide_eq_true z1)
    have z2 := let_iff.mp (of_decide_eq_true z2)
    omega
/-! ### words -/
abbrev absI (i : Int) : Int := if i < 0 then -i else i
def termW (e : Bool) (p : Str × Int) : List Str := (if p.2 < 0 then [("-" : Str)] else if e then [] else [("+" : Str)]) ++ ((if absI p.2 ≠ 1 then [numS (absI p.2)] else []) ++ [p.1])
/-- the words of terms, behind words that stand already -/
def wordsB (b : Bool) : Tab → List Str
  | [] => []
  | p :: r => termW b p ++ wordsB false r
def wordsT (m : Tab) : List Str := wordsB true m
theorem termW_ne {e : Bool} {p : Str × Int} : termW e p ≠ [] := by
  unfold termW
  simp
theorem wordsT_nil {m : Tab} : wordsT m = [] ↔ m = [] := by
  cases m with
  | nil => simp [wordsT, wordsB]
  | cons p r =>
    show termW true p ++ _ = [] ↔ _
    simp [termW_ne]
def wordsZ (m : Tab) : List Str := if wordsT m ≠ [] then wordsT m else ["0"]
def textT (m : Tab) : Str := if wordsT m ≠ [] then Txt.join " " (wordsT m) else "0"
/-! ### reading -/
def wordAt (ws : List Str) (at_ : Nat) : Except Nat Str := match ws[at_]? with
  | some w => .ok w
  | none => .error ws.length
def signAt (ws : List Str) (at_ : Nat) (first : Bool) : Except Nat (Int × Nat) := match wordAt ws at_ with
  | .error e => .error e
  | .ok w => if w = "-" then .ok (-1, at_ + 1) else if first = true then .ok (1, at_) else if w = "+" then .ok (1, at_ + 1) else .error at_
def sizeAt (ws : List Str) (at_ : Nat) : Except Nat (Int × Nat) := match wordAt ws at_ with
  | .error e => .error e
  | .ok w => match numIn w with
    | none => .ok (1, at_)
    | some n => if n < 2 then .error at_ else .ok (n, at_ + 1)
def termAt (ws : List Str) (at_ : Nat) (acc : Tab) : Except Nat (Tab × Nat) := match signAt ws at_ acc.isEmpty with
  | .error e => .error e
  | .ok (s, a1) => match sizeAt ws a1 with
    | .error e => .error e
    | .ok (n, a2) => match wordAt ws a2 with
      | .error e => .error e
      | .ok m => if nameS m = true ∧ m ∉ ks acc then .ok (acc ++ [(m, s * n)], a2 + 1) else .error a2
def termsFrom (ws : List Str) : Nat → Nat → Tab → Except Nat Tab
  | 0, _, _ => .error 0
  | f + 1, at_, acc => if acc.isEmpty = true ∨ at_ < ws.length then (match termAt ws at_ acc with
    | .error e => .error e
    | .ok (acc', at') => termsFrom ws f at' acc') else .ok acc
def termsIn (ws : List Str) (at_ : Nat) : Except Nat Tab := if ws[at_]? = some ("0" : Str) then (if at_ + 1 < ws.length then .error (at_ + 1) else .ok []) else termsFrom ws (ws.length + 1) at_ []
theorem signAt_le {ws : List Str} {a b : Nat} {f : Bool} {s : Int} (h : signAt ws a f = .ok (s, b)) : a ≤ b ∧ b ≤ a + 1 ∧ (s = 1 ∨ s = -1) := by
  unfold signAt at h
  cases hw : wordAt ws a with
  | error e => rw [hw] at h; cases h
  | ok w =>
    rw [hw] at h
    dsimp only at h
    split at h
    · cases h; omega
    · split at h
      · cases h; omega
      · split at h
        · cases h; omega
        · cases h
theorem sizeAt_le {ws : List Str} {a b : Nat} {n : Int} (h : sizeAt ws a = .ok (n, b)) : a ≤ b ∧ b ≤ a + 1 ∧ 1 ≤ n := by
  unfold sizeAt at h
  cases hw : wordAt ws a with
  | error e => rw [hw] at h; cases h
  | ok w =>
    rw [hw] at h
    dsimp only at h
    cases hn : numIn w with
    | none => rw [hn] at h; cases h; omega
    | some k =>
      rw [hn] at h
      dsimp only at h
      split at h
      · cases h
      · cases h; omega
structure GoodP (p : Str × Int) : Prop where
  name : nameS p.1 = true
  ne : p.2 ≠ 0
  wh : absI p.2 < 10 ^ 60
theorem name_minus {x : Str} (h : nameS x = true) : x ≠ "-" ∧ x ≠ "+" ∧ x ≠ "0" := by
  refine ⟨?_, ?_, ?_⟩ <;> (intro z; rw [z] at h; revert h; decide +kernel)
theorem num_minus {n : Int} (h : 2 ≤ n) : numS n ≠ "-" ∧ numS n ≠ "+" ∧ numS n ≠ "0" := by
  have e := tl_numS (n := n) (by omega)
  have hd := numL_digits n.natAbs
  have hv := numL_val n.natAbs
  rw [← e] at hd hv
  refine ⟨?_, ?_, ?_⟩ <;> (intro z; rw [z] at hd hv)
  · have := hd 45 (by decide +kernel)
    omega
  · have := hd 43 (by decide +kernel)
    omega
  · have z2 : NumText.digitsVal (Str.ofString "0").cps.toList = 0 := by decide +kernel
    rw [z2] at hv
    omega
theorem at_app {pre suf : List Str} {w : Str} : wordAt (pre ++ w :: suf) pre.length = .ok w := by
  unfold wordAt
  rw [List.getElem?_append_right (Nat.le_refl _), Nat.sub_self]
  rfl
theorem at_app1 {pre suf : List Str} {v w : Str} : wordAt (pre ++ v :: w :: suf) (pre.length + 1) = .ok w := by
  have e : pre ++ v :: w :: suf = (pre ++ [v]) ++ w :: suf := by simp
  have l : (pre ++ [v]).length = pre.length + 1 := by simp
  rw [e, ← l]
  exact at_app
/-- behind the sign: size and name -/
theorem size_term {pre suf : List Str} {p : Str × Int} (g : GoodP p) : ∃ a2, sizeAt (pre ++ ((if absI p.2 ≠ 1 then [numS (absI p.2)] else []) ++ [p.1]) ++ suf) pre.length = .ok (absI p.2, a2) ∧
    wordAt (pre ++ ((if absI p.2 ≠ 1 then [numS (absI p.2)] else []) ++ [p.1]) ++ suf) a2 = .ok p.1 ∧ a2 + 1 = pre.length + ((if absI p.2 ≠ 1 then [numS (absI p.2)] else []) ++ [p.1]).length := by
  have gn := g.ne
  have g0 : 1 ≤ absI p.2 := by unfold absI; split <;> omega
  by_cases h : absI p.2 ≠ 1
  · rw [if_pos h]
    refine ⟨pre.length + 1, ?_, ?_, by simp⟩
    · unfold sizeAt
      have e : pre ++ ([numS (absI p.2)] ++ [p.1]) ++ suf = pre ++ numS (absI p.2) :: (p.1 :: suf) := by simp
      rw [e, at_app]
      dsimp only
      rw [numIn_num (by omega) g.wh]
      dsimp only
      rw [if_neg (by omega)]
    · have e : pre ++ ([numS (absI p.2)] ++ [p.1]) ++ suf = pre ++ numS (absI p.2) :: p.1 :: suf := by simp
      rw [e]
      exact at_app1
  · rw [if_neg h]
    have e : pre ++ ([] ++ [p.1]) ++ suf = pre ++ p.1 :: suf := by simp
    refine ⟨pre.length, ?_, ?_, by simp⟩
    · unfold sizeAt
      rw [e, at_app]
      dsimp only
      rw [numIn_name g.name]
      have : absI p.2 = 1 := by omega
      rw [this]
    · rw [e]
      exact at_app
theorem head_term {p : Str × Int} (g : GoodP p) : ∃ w r, (if absI p.2 ≠ 1 then [numS (absI p.2)] else []) ++ [p.1] = w :: r ∧ w ≠ "-" ∧ w ≠ "+" ∧ w ≠ "0" := by
  have gn := g.ne
  have g0 : 1 ≤ absI p.2 := by unfold absI; split <;> omega
  by_cases h : absI p.2 ≠ 1
  · rw [if_pos h]
    exact ⟨_, _, rfl, num_minus (by omega)⟩
  · rw [if_neg h]
    exact ⟨_, _, rfl, name_minus g.name⟩
theorem termAt_term {pre suf : List Str} {p : Str × Int} {acc : Tab} (g : GoodP p) (hn : p.1 ∉ ks acc) : termAt (pre ++ termW acc.isEmpty p ++ suf) pre.length acc = .ok (acc ++ [p], pre.length + (termW acc.isEmpty p).length) := by
  obtain ⟨w, r, ew, w1, w2, w3⟩ := head_term g
  unfold termW termAt
  by_cases hneg : p.2 < 0
  · rw [if_pos hneg]
    have es : pre ++ ([("-" : Str)] ++ ((if absI p.2 ≠ 1 then [numS (absI p.2)] else []) ++ [p.1])) ++ suf = (pre ++ [("-" : Str)]) ++ ((if absI p.2 ≠ 1 then [numS (absI p.2)] else []) ++ [p.1]) ++ suf := by simp
    have hs : signAt (pre ++ ([("-" : Str)] ++ ((if absI p.2 ≠ 1 then [numS (absI p.2)] else []) ++ [p.1])) ++ suf) pre.length acc.isEmpty = .ok (-1, pre.length + 1) := by
      have e : pre ++ ([("-" : Str)] ++ ((if absI p.2 ≠ 1 then [numS (absI p.2)] else []) ++ [p.1])) ++ suf = pre ++ ("-" : Str) :: (((if absI p.2 ≠ 1 then [numS (absI p.2)] else []) ++ [p.1]) ++ suf) := by simp
      unfold signAt
      rw [e, at_app]
      exact if_pos rfl
    rw [hs]
    dsimp only
    obtain ⟨a2, h1, h2, h3⟩ := size_term (pre := pre ++ [("-" : Str)]) (suf := suf) g
    have l : (pre ++ [("-" : Str)]).length = pre.length + 1 := by simp
    rw [l] at h1 h3
    rw [es, h1]
    dsimp only
    rw [h2]
    dsimp only
    rw [if_pos ⟨g.name, hn⟩]
    have e1 : -1 * absI p.2 = p.2 := by unfold absI; rw [if_pos hneg]; omega
    rw [e1]
    have e2 : ([("-" : Str)] ++ ((if absI p.2 ≠ 1 then [numS (absI p.2)] else []) ++ [p.1])).length = ((if absI p.2 ≠ 1 then [numS (absI p.2)] else []) ++ [p.1]).length + 1 := by simp
    rw [e2]
    have e3 : a2 + 1 = pre.length + (((if absI p.2 ≠ 1 then [numS (absI p.2)] else []) ++ [p.1]).length + 1) := by omega
    rw [e3]
  · rw [if_neg hneg]
    have e1 : 1 * absI p.2 = p.2 := by unfold absI; rw [if_neg hneg]; omega
    cases hf : acc.isEmpty with
    | true =>
      rw [if_pos rfl]
      have es : pre ++ ([] ++ ((if absI p.2 ≠ 1 then [numS (absI p.2)] else []) ++ [p.1])) ++ suf = pre ++ ((if absI p.2 ≠ 1 then [numS (absI p.2)] else []) ++ [p.1]) ++ suf := by simp
      have hs : signAt (pre ++ ((if absI p.2 ≠ 1 then [numS (absI p.2)] else []) ++ [p.1]) ++ suf) pre.length true = .ok (1, pre.length) := by
        have e : pre ++ ((if absI p.2 ≠ 1 then [numS (absI p.2)] else []) ++ [p.1]) ++ suf = pre ++ w :: (r ++ suf) := by rw [ew]; simp
        unfold signAt
        rw [e, at_app]
        dsimp only
        rw [if_neg w1, if_pos rfl]
      rw [es, hs]
      dsimp only
      obtain ⟨a2, h1, h2, h3⟩ := size_term (pre := pre) (suf := suf) g
      rw [h1]
      dsimp only
      rw [h2]
      dsimp only
      rw [if_pos ⟨g.name, hn⟩, e1, h3]
      simp
    | false =>
      rw [if_neg (by simp)]
      have es : pre ++ ([("+" : Str)] ++ ((if absI p.2 ≠ 1 then [numS (absI p.2)] else []) ++ [p.1])) ++ suf = (pre ++ [("+" : Str)]) ++ ((if absI p.2 ≠ 1 then [numS (absI p.2)] else []) ++ [p.1]) ++ suf := by simp
      have hs : signAt (pre ++ ([("+" : Str)] ++ ((if absI p.2 ≠ 1 then [numS (absI p.2)] else []) ++ [p.1])) ++ suf) pre.length false = .ok (1, pre.length + 1) := by
        have e : pre ++ ([("+" : Str)] ++ ((if absI p.2 ≠ 1 then [numS (absI p.2)] else []) ++ [p.1])) ++ suf = pre ++ ("+" : Str) :: (((if absI p.2 ≠ 1 then [numS (absI p.2)] else []) ++ [p.1]) ++ suf) := by simp
        unfold signAt
        rw [e, at_app]
        dsimp only
        rw [if_neg (by decide), if_neg (by simp), if_pos rfl]
      rw [hs]
      dsimp only
      obtain ⟨a2, h1, h2, h3⟩ := size_term (pre := pre ++ [("+" : Str)]) (suf := suf) g
      have l : (pre ++ [("+" : Str)]).length = pre.length + 1 := by simp
      rw [l] at h1 h3
      rw [es, h1]
      dsimp only
      rw [h2]
      dsimp only
      rw [if_pos ⟨g.name, hn⟩, e1]
      have e2 : ([("+" : Str)] ++ ((if absI p.2 ≠ 1 then [numS (absI p.2)] else []) ++ [p.1])).length = ((if absI p.2 ≠ 1 then [numS (absI p.2)] else []) ++ [p.1]).length + 1 := by simp
      rw [e2]
      have e3 : a2 + 1 = pre.length + (((if absI p.2 ≠ 1 then [numS (absI p.2)] else []) ++ [p.1]).length + 1) := by omega
      rw [e3]
theorem termsFrom_words : ∀ (r : Tab) (pre : List Str) (acc : Tab) (f : Nat), (∀ p ∈ r, GoodP p) → (ks (acc ++ r)).Nodup → r.length < f → (acc = [] → r ≠ []) → termsFrom (pre ++ wordsB acc.isEmpty r) f pre.length acc = .ok (acc ++ r)
  | [], pre, acc, 0, _, _, hl, _ => absurd hl (Nat.not_lt_zero _)
  | [], pre, acc, f + 1, _, _, _, hne => by
    have ha : acc.isEmpty = false := by
      cases acc with
      | nil => exact absurd rfl (hne rfl)
      | cons _ _ => rfl
    unfold termsFrom
    rw [if_neg]
    · rw [List.append_nil]
    · simp [wordsB, ha]
  | p :: r, pre, acc, 0, _, _, hl, _ => absurd hl (Nat.not_lt_zero _)
  | p :: r, pre, acc, f + 1, hg, nd, hl, _ => by
    have e : pre ++ wordsB acc.isEmpty (p :: r) = pre ++ termW acc.isEmpty p ++ wordsB false r := by simp [wordsB]
    have hn : p.1 ∉ ks acc := by
      unfold ks at nd
      rw [List.map_append, List.nodup_append] at nd
      exact fun z => nd.2.2 _ z _ (List.mem_map.mpr ⟨p, List.mem_cons_self .., rfl⟩) rfl
    unfold termsFrom
    rw [if_pos, e, termAt_term (hg p (List.mem_cons_self ..)) hn]
    · dsimp only
      have l : pre.length + (termW acc.isEmpty p).length = (pre ++ termW acc.isEmpty p).length := by simp
      have ie : (acc ++ [p]).isEmpty = false := by simp
      have ih := termsFrom_words r (pre ++ termW acc.isEmpty p) (acc ++ [p]) f (fun q hq => hg q (List.mem_cons_of_mem _ hq)) (by rw [List.append_assoc]; exact nd) (by simp at hl; omega) (by simp)
      rw [ie] at ih
      rw [l, ih, List.append_assoc]
      rfl
    · right
      rw [e]
      have := termW_ne (e := acc.isEmpty) (p := p)
      cases h : termW acc.isEmpty p with
      | nil => exact absurd h this
      | cons a b =>
        simp
theorem termW_pos {e : Bool} {p : Str × Int} : 1 ≤ (termW e p).length := by
  have := termW_ne (e := e) (p := p)
  cases h : termW e p with
  | nil => exact absurd h this
  | cons a b => simp
theorem wordsB_len : ∀ (b : Bool) (m : Tab), m.length ≤ (wordsB b m).length
  | _, [] => Nat.zero_le _
  | b, p :: r => by
    have z := wordsB_len false r
    have t := termW_pos (e := b) (p := p)
    unfold wordsB
    rw [List.length_append, List.length_cons]
    omega
theorem terms_words {m : Tab} (hg : ∀ p ∈ m, GoodP p) (nd : (ks m).Nodup) : termsIn (wordsZ m) 0 = .ok m := by
  cases m with
  | nil => rfl
  | cons p r =>
    have hne : wordsT (p :: r) ≠ [] := fun z => by rw [wordsT_nil] at z; cases z
    unfold wordsZ
    rw [if_pos hne]
    unfold termsIn
    have h0 : (wordsT (p :: r))[0]? ≠ some ("0" : Str) := by
      obtain ⟨w, t, ew, w1, w2, w3⟩ := head_term (hg p (List.mem_cons_self ..))
      show (termW true p ++ wordsB false r)[0]? ≠ _
      unfold termW
      by_cases hneg : p.2 < 0
      · rw [if_pos hneg]
        simp
        decide +kernel
      · rw [if_neg hneg, if_pos rfl, ew]
        simpa using w3
    rw [if_neg h0]
    have z : termsFrom ([] ++ wordsT (p :: r)) _ _ _ = _ := termsFrom_words (p :: r) [] [] ((wordsT (p :: r)).length + 1) hg nd (Nat.lt_succ_of_le (wordsB_len _ _)) (by simp)
    have z2 : termsFrom (wordsT (p :: r)) ((wordsT (p :: r)).length + 1) 0 [] = .ok (p :: r) := by simpa using z
    exact z2
/-! ### the text of words -/
theorem words_free : ∀ (b : Bool) (m : Tab), (∀ p ∈ m, GoodP p) → ∀ w ∈ wordsB b m, (32 : Nat) ∉ w.cps.toList ∧ w.length ≤ 60
  | _, [], _, w, hw => (List.not_mem_nil hw).elim
  | b, p :: r, hg, w, hw => by
    unfold wordsB at hw
    rcases List.mem_append.mp hw with h | h
    · have g := hg p (List.mem_cons_self ..)
      have gn := g.ne
      have g0 : 1 ≤ absI p.2 := by unfold absI; split <;> omega
      have nm : (32 : Nat) ∉ p.1.cps.toList ∧ p.1.length ≤ 60 := by
        have z := g.name
        unfold nameS at z
        obtain ⟨z1, z2⟩ := Bool.and_eq_true_iff.mp z
        obtain ⟨_, z1⟩ := Bool.and_eq_true_iff.mp z1
        have z1 := of_decide_eq_true z1
        refine ⟨fun hm => ?_, by omega⟩
        have := let_iff.mp (of_decide_eq_true (List.all_eq_true.mp z2 _ hm))
        omega
      have nn : (32 : Nat) ∉ (numS (absI p.2)).cps.toList ∧ (numS (absI p.2)).length ≤ 60 := by
        rw [← len_toList, tl_numS (by omega)]
        refine ⟨numL_free (by omega), numL_len (by decide) ?_⟩
        have z : ((10 : Int) ^ 60) = ((10 ^ 60 : Nat) : Int) := by decide
        have := g.wh
        rw [z] at this
        omega
      have sg : ∀ x ∈ (["-", "+"] : List Str), (32 : Nat) ∉ x.cps.toList ∧ x.length ≤ 60 := by decide +kernel
      unfold termW at h
      rcases List.mem_append.mp h with h | h
      · split at h
        · exact sg w (by simp at h; simp [h])
        · split at h
          · cases h
          · exact sg w (by simp at h; simp [h])
      · rcases List.mem_append.mp h with h | h
        · split at h
          · rw [List.mem_singleton.mp h]
            exact nn
          · cases h
        · rw [List.mem_singleton.mp h]
          exact nm
    · exact words_free false r (fun q hq => hg q (List.mem_cons_of_mem _ hq)) w h
theorem split_text {m : Tab} (hg : ∀ p ∈ m, GoodP p) : Txt.split (textT m) " " = wordsZ m := by
  unfold textT wordsZ
  by_cases h : wordsT m ≠ []
  · rw [if_pos h, if_pos h]
    exact split_join (s := 32) (S := []) (by decide +kernel) (by decide +kernel) h fun w hw => (words_free true m hg w hw).1
  · rw [if_neg h, if_neg h]
    have := split_join (y := " ") (s := 32) (S := []) (by decide +kernel) (by decide +kernel) (parts := ["0"]) (by simp) (fun p hp => by rw [List.mem_singleton.mp hp]; decide +kernel)
    have e : Txt.join " " ["0"] = "0" := by decide +kernel
    rw [e] at this
    exact this
theorem words_all (Pw : Str → Prop) (h1 : Pw "-") (h2 : Pw "+") (hn : ∀ x, nameS x = true → Pw x) (hd : ∀ n : Int, 0 ≤ n → n < 10 ^ 60 → Pw (numS n)) : ∀ (b : Bool) (m : Tab), (∀ p ∈ m, GoodP p) → ∀ w ∈ wordsB b m, Pw w
  | _, [], _, w, hw => (List.not_mem_nil hw).elim
  | b, p :: r, hg, w, hw => by
    unfold wordsB at hw
    rcases List.mem_append.mp hw with h | h
    · have g := hg p (List.mem_cons_self ..)
      have gn := g.ne
      have g0 : 1 ≤ absI p.2 := by unfold absI; split <;> omega
      unfold termW at h
      rcases List.mem_append.mp h with h | h
      · split at h
        · rw [List.mem_singleton.mp h]
          exact h1
        · split at h
          · cases h
          · rw [List.mem_singleton.mp h]
            exact h2
      · rcases List.mem_append.mp h with h | h
        · split at h
          · rw [List.mem_singleton.mp h]
            exact hd _ (by omega) g.wh
          · cases h
        · rw [List.mem_singleton.mp h]
          exact hn _ g.name
    · exact words_all Pw h1 h2 hn hd false r (fun q hq => hg q (List.mem_cons_of_mem _ hq)) w h
theorem ok_of {x : Str} (h : ∀ c ∈ x.cps.toList, c < 1114112) : PyData.strOk x = true := by
  unfold PyData.strOk
  rw [← Array.all_toList, List.all_eq_true]
  intro c hc
  exact decide_eq_true (h c hc)
theorem name_ok {x : Str} (z : nameS x = true) : PyData.strOk x = true := by
  unfold nameS at z
  obtain ⟨_, z2⟩ := Bool.and_eq_true_iff.mp z
  refine ok_of fun c hc => ?_
  have := let_iff.mp (of_decide_eq_true (List.all_eq_true.mp z2 _ hc))
  omega
theorem num_ok {n : Int} (h : 0 ≤ n) : PyData.strOk (numS n) = true := by
  refine ok_of fun c hc => ?_
  rw [tl_numS h] at hc
  have := numL_digits _ c hc
  omega
theorem words_ok {b : Bool} {m : Tab} (hg : ∀ p ∈ m, GoodP p) : ∀ w ∈ wordsB b m, PyData.strOk w = true :=
  words_all (fun w => PyData.strOk w = true) (by decide +kernel) (by decide +kernel) (fun _ h => name_ok h) (fun _ h _ => num_ok h) b m hg
theorem wordsB_app : ∀ (b : Bool) (l : Tab) (p : Str × Int), wordsB b (l ++ [p]) = wordsB b l ++ termW (b && l.isEmpty) p
  | b, [], p => by simp [wordsB]
  | b, q :: l, p => by
    show termW b q ++ wordsB false (l ++ [p]) = (termW b q ++ wordsB false l) ++ termW (b && false) p
    rw [wordsB_app false l p]
    simp
theorem wordsT_app (l : Tab) (p : Str × Int) : wordsT (l ++ [p]) = wordsT l ++ termW (wordsT l).isEmpty p := by
  have e : (wordsT l).isEmpty = l.isEmpty := by
    rw [Bool.eq_iff_iff, List.isEmpty_iff, List.isEmpty_iff, wordsT_nil]
  rw [e]
  have z := wordsB_app true l p
  rw [Bool.true_and] at z
  exact z
theorem termW_le {e : Bool} {p : Str × Int} : (termW e p).length ≤ 3 := by
  unfold termW
  rw [List.length_append, List.length_append]
  have e1 : (if p.2 < 0 then [("-" : Str)] else if e then [] else [("+" : Str)]).length ≤ 1 := by split <;> (try split) <;> simp
  have e2 : (if absI p.2 ≠ 1 then [numS (absI p.2)] else []).length ≤ 1 := by generalize absI p.2 = z; split <;> simp
  have e3 : [p.1].length = 1 := rfl
  omega
theorem wordsB_le : ∀ (b : Bool) (m : Tab), (wordsB b m).length ≤ 3 * m.length
  | _, [] => Nat.le_refl _
  | b, p :: r => by
    have z := wordsB_le false r
    have t := termW_le (e := b) (p := p)
    unfold wordsB
    rw [List.length_append, List.length_cons]
    omega
theorem sum_le {B : Nat} : ∀ (l : List Nat), (∀ x ∈ l, x ≤ B) → l.sum ≤ l.length * B
  | [], _ => by simp
  | x :: r, h => by
    have z := sum_le r fun y hy => h y (List.mem_cons_of_mem _ hy)
    have := h x (List.mem_cons_self ..)
    rw [List.sum_cons, List.length_cons, Nat.succ_mul]
    omega
end Xr
set_option maxHeartbeats 4000000
/-! str of an instance of an own class -/
namespace Xr
open PySem PySem.Spec PyProof.Rows L2
section
variable {X : Cx} {CX : CXT} {k : Nat} {f C : Addr} {sp : Sp} {E : XK}
def rStrO (C : Addr) (sp : Sp) (E : XK) : List V → Hp → VK → Prop := fun xs H Q => ∃ a dx fs, xs = [.ref a] ∧ H a = some (.ins C dx fs) ∧ sp [.ref a] H (fun v H' => ∃ x, v = .str x ∧ Q (.str x) H') E
theorem call_strO (h : Sm X.K C "__str__" f) (F : FnR X.prog X.w X.K X.mg X.base CX k f sp) (hr : Room (k + 2) X.A) (hx : Passes CX X E) : CallR X (.type "str") (rStrO C sp E) := by
  intro pins s σ H xs us Q I r q
  obtain ⟨a, dx, fs, rfl, ha, q⟩ := q
  obtain ⟨u, rfl, ru⟩ := vals1 r
  cases ru
  obtain ⟨od, J⟩ := inst_of I ha
  have hr1 : Room (k + 1) X.A.in1 := hr.in1
  have hr2 : Room k X.A.in1.in1 := hr1.in1
  refine PySem.W.kso_call (by have := hr2.units; omega) I.kIn J h.at_ h.fn (wpAny_mono (run_in (us := [.ref a]) (vs := [.ref a]) F hr2 rfl hx I (.cons rfl .nil) q) (fun w s' z => ?_) fun _ _ z => z)
  obtain ⟨v, H', I', rv, x, rfl, q'⟩ := z
  obtain ⟨t, rfl⟩ := rv
  exact ⟨.str x, H', I', ⟨t, rfl⟩, q'⟩
end
end Xr
set_option maxHeartbeats 4000000
/-! calls by keywords: classmethods, a class whose __init__ takes **names -/
namespace Xr
open PySem PySem.Spec PyProof.Rows L2
/-- a def that is called with n values by place and ks by keywords -/
def FnRK (P : Program) (w : World) (K : PySem.W.Frag) (mg : Str → Option Value) (base : Heap) (CX : CXT) (k : Nat) (f : Addr) (n : Nat) (ks : List Str) (sp : Sp) : Prop :=
  ∀ (A : Around) (outer : List Env) (s : Shared) (H : Hp) (us ws : List Value) (vs zs : List V) (Q : VK) (E : XK), Room k A → Env0 P w K mg base A outer s H → Vals vs us → Vals zs ws → vs.length = n → zs.length = ks.length → sp (vs ++ zs) H Q E →
    codeAny (model P w) A (.call (.ref f) ⟨us, ks.zip ws⟩) (CR CX outer P w H s Q E) s
section
variable {P : Program} {w : World} {K : PySem.W.Frag} {mg : Str → Option Value} {base : Heap} {CX : CXT} {k n : Nat} {f : Addr} {fd : FuncData} {ps ks : List Str} {sp : Sp}
theorem fnOk_kw (F : FnOk P w K mg base CX k f fd ps sp) (hb : ∀ (s : Shared) (us ws : List Value), us.length = n → ws.length = ks.length → BindsTo s fd ⟨us, ks.zip ws⟩ (ps.zip (us ++ ws))) : FnRK P w K mg base CX k f n ks sp := by
  intro A outer s H us ws vs zs Q E hr e0 r rz l1 l2 h
  exact F.run A outer s H ⟨us, ks.zip ws⟩ (us ++ ws) (vs ++ zs) Q E hr e0 (hb s us ws (r.length.symm.trans l1) (rz.length.symm.trans l2)) (r.append rz) h
theorem funD_kb {x qual : Str} {params : Arguments} {body : List Stmt} {scope : Scope} {kws : List (Str × V)} (F : FunD K x qual params body scope [] kws f fd)
    (hb : ∀ (kV doc pm : Value) (an : Option Addr) (cdv ct : Value) (us ws : List Value), us.length = n → ws.length = ks.length → bindArgs (PySem.W.fnOf x qual params body scope .none kV doc pm an cdv ct) ⟨us, ks.zip ws⟩ = pure (ps.zip (us ++ ws))) :
    ∀ (s : Shared) (us ws : List Value), us.length = n → ws.length = ks.length → BindsTo s fd ⟨us, ks.zip ws⟩ (ps.zip (us ++ ws)) := by
  obtain ⟨oc, od, dV, kV', doc, pm, an, cdv, ct, osl, rfl, lk, hcd, hDf, _⟩ := F.ex
  obtain rfl : dV = .none := by
    rcases hDf with ⟨_, e⟩ | ⟨e, _⟩
    · exact e
    · exact absurd rfl e
  intro s us ws l1 l2
  exact .of_eq (hb _ _ _ _ _ _ us ws l1 l2)
end
/-- e.m(k = v, ..), e the class at C, m a classmethod -/
def tCMethK (C : Addr) (m : Nat) (sp : Sp) (E : XK) (ta : TE) (tk : TA) : TE := fun σ H Q => ta σ H fun x H1 => x = .ref C ∧ tk σ H1 fun zs H2 => zs.length = m ∧ sp ([.ref C] ++ zs) H2 Q E
section
variable {X : Cx} {CX : CXT} {k : Nat} {f C : Addr} {sp : Sp} {E : XK} {o : Expr} {m x : Str} {pos apos p : Pos} {ta : TE} {tk : TA} {ks : List Str} {kws : List Keyword}
theorem pe_cmK {pl : Sem Bool} (he : PE X o ta) (c : CmF X.K C m) (F : FnRK X.prog X.w X.K X.mg X.base CX k (He5.wf X.K C "classmethod" m) 1 ks sp) (hr : Room k X.A) (hx : Passes CX X E) (hkw : PK X kws tk)
    (hall : (backToKw pos (keywordEach kws X.env)).all (·.1.isSome) = true := by rfl) (hks : (backToKw pos (keywordEach kws X.env)).filterMap (·.1) = ks := by rfl)
    (hpl : ((backTo pos (starEach [] X.env)).any (·.1) || (backToKw pos (keywordEach kws X.env)).any (·.1.isNone)) = false := by rfl)
    (ht : eval (.Call (.Attribute o m apos) [] kws pos) X.env = (do
      let ov ← eval o X.env
      standAt apos.atName
      let (f, first) ← holding [ov] (getMethod ov m pl)
      callWith pos f first (backTo pos (starEach [] X.env)) (backToKw pos (keywordEach kws X.env))) := by rfl) :
    PE X (.Call (.Attribute o m apos) [] kws pos) (tCMethK C ks.length sp E ta tk) := by
  refine ⟨fun pins s σ H Q I h => ?_⟩
  refine PySem.W.methodCall_KW (pl := pl) (thn (he.run pins s σ H _ I h) fun u s1 ⟨x, H1, I1, rx, ex, q⟩ => ?_) ht
  subst ex
  obtain rfl : u = Value.ref C := rx
  refine ClX.getmethcm_ok I1 c.rd c.met fun s2 I2 => ?_
  refine PySem.W.callWith_of hpl (PySem.W.keeps_M c.met.fi) (evalArgs_kw2_nil hall (thn (hkw.run pos _ s2 σ H1 _ I2 q) fun ws s3 ⟨zs, H2, I3, rz, l2, q2⟩ => ⟨⟨ClX.pin_at I3, I3.kIn⟩, ?_⟩))
  rw [hks]
  have z : wpAny (model X.prog X.w) X.A (call (.ref s1.heap.objs.size) [] (ks.zip ws)) (EP X ((s1.heap.objs.size, PySem.W.methodObj (.ref (He5.wf X.K C "classmethod" m)) (.ref C)) :: pins) σ Q) X.xe s3 := by
    refine wpAny_call (PySem.W.method_call (ClX.pin_at I3) (codeAny_mono (F X.A X.stack s3 H2 [.ref C] ws [.ref C] zs Q E hr I3.env0 (.cons rfl .nil) rz rfl l2 q2) fun r s' hq => ?_))
    cases r with
    | error e => exact hx _ σ H2 s3 e s' I3 hq
    | ok fl =>
      cases fl with
      | ret u => exact I3.after hq
      | next => exact False.elim hq
      | brk => exact False.elim hq
      | cont => exact False.elim hq
  exact thn z fun _ _ y => ClX.unpinE y
end
/-! ### def f(a, **d) called by keywords -/
def fillN (d : Addr) (ex : List (Str × Value)) : Sem PUnit := forIn ex PUnit.unit fun x _ => (nsSet d x.1 x.2 >>= fun _ => pure (ForInStep.yield PUnit.unit))
theorem update_last (h : Heap) (o : Obj) (f : Obj → Obj) : (h.push o).update h.objs.size f = h.push (f o) := by
  obtain ⟨objs, l⟩ := h
  show (⟨(objs.push o).modify objs.size f, l⟩ : Heap) = ⟨objs.push (f o), l⟩
  congr 1
  apply Array.ext
  · simp
  · intro i h1 h2
    simp only [Array.getElem_modify]
    by_cases hi : i < objs.size
    · rw [if_neg (by omega), Array.getElem_push_lt hi, Array.getElem_push_lt hi]
    · have : i = objs.size := by simp at h2; omega
      subst this
      simp
theorem fill_run {prog : Program} {w : World} {A : Around} {E : Value → Shared → Prop} {Q : PUnit → Shared → Prop} (h0 : Heap) : ∀ (ex : List (Str × Value)) (s : Shared) (es : List DictEntry) (n : Nat), s.heap = h0.push (PySem.W.dictOf es n) →
    (∀ e ∈ es, ∀ x ∈ ex, e.key.isStr x.1 = false) → (∀ e ∈ es, e.refKey = false) → (ex.map (·.1)).Nodup →
    Q ⟨⟩ { s with heap := h0.push (PySem.W.dictOf (es ++ PySem.W.kwEs w.params s.toks ex) (n + ex.length)), toks := s.toks + ex.length } → wpAny (model prog w) A (fillN h0.objs.size ex) Q E s
  | [], s, es, n, hh, _, _, _, q => by
    unfold fillN
    rw [List.forIn_nil]
    refine wpAny_pure ?_
    have e : es ++ PySem.W.kwEs w.params s.toks [] = es := List.append_nil _
    rw [e] at q
    have e2 : ({ s with heap := h0.push (PySem.W.dictOf es (n + ([] : List (Str × Value)).length)), toks := s.toks + ([] : List (Str × Value)).length } : Shared) = s := by
      obtain ⟨a, b, c, d, e⟩ := s
      dsimp only at hh ⊢
      rw [hh]
      rfl
    rw [e2] at q
    exact q
  | x :: r, s, es, n, hh, hs, hr, nd, q => by
    have nd' := List.nodup_cons.mp (show (x.1 :: r.map (·.1)).Nodup from nd)
    have hsx : ∀ e ∈ es, e.key.isStr x.1 = false := fun e he => hs e he x (List.mem_cons_self ..)
    have e1 : es.any (·.key.isStr x.1) = false := by
      cases z : es.any (·.key.isStr x.1) with
      | false => rfl
      | true => obtain ⟨e, he, z⟩ := List.any_eq_true.mp z; rw [hsx e he] at z; cases z
    have e2 : es.any (·.refKey) = false := by
      cases z : es.any (·.refKey) with
      | false => rfl
      | true => obtain ⟨e, he, z⟩ := List.any_eq_true.mp z; rw [hr e he] at z; cases z
    have e : Obj.putName x.1 (PyData.keyHash w.params x.1) (.str x.1 s.toks) x.2 (PySem.W.dictOf es n) = PySem.W.dictOf (es ++ [⟨PyData.keyHash w.params x.1, .str x.1 s.toks, x.2⟩]) (n + 1) := by
      rw [PySem.W.putName_dict, PySem.W.putL_new hsx]
      show PySem.W.dictOf _ (if es.any (·.key.isStr x.1) then n else n + 1) = _
      rw [e1, if_neg Bool.false_ne_true]
    have D : s.heap.get? h0.objs.size = some (PySem.W.dictOf es n) := by
      rw [hh]
      exact Heap.get?_push_size h0 rfl
    have c : aRefKeyMayBeTheName x.1 es.toArray = false := by
      rw [aRefKeyMayBeTheName_at, ← Array.any_toList, ← Array.any_toList]
      show (!es.any (·.key.isStr x.1) && es.any (·.refKey)) = false
      rw [e2, Bool.and_false]
    have next := fill_run (prog := prog) (w := w) (A := A) (E := E) (Q := Q) h0 r { s with heap := s.heap.update h0.objs.size (Obj.putName x.1 (PyData.keyHash w.params x.1) (.str x.1 s.toks) x.2), toks := s.toks + 1 } (es ++ [⟨PyData.keyHash w.params x.1, .str x.1 s.toks, x.2⟩]) (n + 1)
    unfold fillN at next ⊢
    rw [List.forIn_cons]
    refine wpAny_bind (wpAny_bind ?_)
    unfold nsSet
    refine wpAny_bind (wpAny_bind (wpAny_askSetting (wpAny_pure (wpAny_bind (wpAny_mkText (wpAny_bind (wpAny_loadPart D ?_)))))))
    dsimp only
    rw [c]
    refine wpAny_updatePart D (wpAny_pure (next ?_ ?_ ?_ nd'.2 ?_))
    · show s.heap.update _ _ = _
      rw [hh, update_last]
      exact congrArg h0.push e
    · intro z hz y hy
      rcases List.mem_append.mp hz with h | h
      · exact hs z h y (List.mem_cons_of_mem _ hy)
      · rw [List.mem_singleton.mp h]
        show Value.isStr (.str x.1 s.toks) y.1 = false
        have ne : x.1 ≠ y.1 := fun z => nd'.1 (List.mem_map.mpr ⟨y, hy, z.symm⟩)
        simp [Value.isStr, ne]
    · intro z hz
      rcases List.mem_append.mp hz with h | h
      · exact hr z h
      · rw [List.mem_singleton.mp h]
        rfl
    · have e3 : es ++ [⟨PyData.keyHash w.params x.1, .str x.1 s.toks, x.2⟩] ++ PySem.W.kwEs w.params (s.toks + 1) r = es ++ PySem.W.kwEs w.params s.toks (x :: r) := by
        rw [List.append_assoc]
        rfl
      have e4 : n + 1 + r.length = n + (x :: r).length := by rw [List.length_cons]; omega
      have e5 : s.toks + 1 + r.length = s.toks + (x :: r).length := by rw [List.length_cons]; omega
      dsimp only
      rw [e3, e4, e5]
      exact q
def kwK {α : Type} (ks : List Str) (zs : List α) : List (Key × α) := (ks.zip zs).map fun p => (Sum.inr p.1, p.2)
theorem kw_pairs {P : Program} {w : World} : ∀ (t : Tok) (ex : List (Str × Value)), Pairs (mixKind P w) (PySem.W.kwEs w.params t ex) (ex.map fun p => ((Sum.inr p.1 : Key), p.2))
  | _, [] => .nil
  | t, x :: r => .cons (by show keyIs (.inr x.1) (.str x.1 t) = true; simp [keyIs, Value.isStrOf]) rfl (kw_pairs (t + 1) r)
theorem kw_keys {P : Program} {w : World} : ∀ (t : Tok) (ex : List (Str × Value)), ∀ e ∈ PySem.W.kwEs w.params t ex, ∃ k : Key, keyIs k e.key = true ∧ e.hash = keyH w k
  | _, [], e, h => (List.not_mem_nil h).elim
  | t, x :: r, e, h => by
    rcases List.mem_cons.mp h with rfl | h
    · exact ⟨.inr x.1, by simp [keyIs, Value.isStrOf], rfl⟩
    · exact kw_keys (P := P) (t + 1) r e h
theorem kw_rel : ∀ (ks : List Str) {zs : List V} {ws : List Value}, Vals zs ws → KV (kwK ks zs) (kwK ks ws)
  | [], _, _, _ => .nil
  | k :: ks, _, _, .nil => .nil
  | k :: ks, _, _, .cons h r => .cons ⟨rfl, h⟩ (kw_rel ks r)
theorem zip_fst : ∀ {ks : List Str} {ws : List Value}, ws.length = ks.length → (ks.zip ws).map (·.1) = ks
  | [], _, _ => rfl
  | k :: ks, [], h => by cases h
  | k :: ks, w :: ws, h => by
    show k :: (ks.zip ws).map (·.1) = k :: ks
    rw [zip_fst (Nat.succ.inj h)]
theorem dk_kw {P : Program} {w : World} {H : Hp} {h : Heap} {ks : List Str} {zs : List V} {ws : List Value} {t : Tok} {n : Nat} (hb : sysModules < h.objs.size) (hk : ks.length ≤ 1000) (nd : ks.Nodup) (r : Vals zs ws) (l : zs.length = ks.length) :
    ObjOk P w H (h.push (PySem.W.dictOf (PySem.W.kwEs w.params t (ks.zip ws)) n)) h.objs.size (.dK (kwK ks zs)) := by
  have l2 : ws.length = ks.length := r.length.symm.trans l
  refine ⟨?_, beq_eq_false_iff_ne.mpr (Ne.symm (Nat.ne_of_lt hb)), kwK ks ws, kw_rel ks r, _, _, _, Heap.get?_push_size h rfl, ⟨rfl, rfl, rfl⟩, rfl, ?_, ?_, ?_⟩
  · unfold kwK
    rw [List.length_map, List.length_zip, sizeLine_eq]
    omega
  · intro e he
    exact kw_keys (P := P) t (ks.zip ws) e (by simpa using he)
  · show Pairs _ (PySem.W.kwEs w.params t (ks.zip ws)).toArray.toList _
    exact kw_pairs t (ks.zip ws)
  · unfold kwK
    rw [List.map_map]
    have e : ((fun x : Key × Value => x.1) ∘ fun p : Str × Value => ((Sum.inr p.1 : Key), p.2)) = (Sum.inr ∘ fun p : Str × Value => p.1) := rfl
    rw [e, ← List.map_map, zip_fst l2]
    exact List.Pairwise.map _ (fun a b h z => h (by injection z)) nd
section
variable {CX : CXT} {P : Program} {w : World} {K : PySem.W.Frag} {mg : Str → Option Value} {base : Heap} {k : Nat} {f : Addr} {x qual : Str} {params : Arguments} {body : List Stmt} {scope : Scope} {fd : FuncData} {N : List Str} {sp : Sp} {p1 pd : Str} {kws : List (Str × V)} {ks : List Str}
theorem fn_kwN (F : FunD K x qual params body scope [] kws f fd) (S : FnScope N [p1, pd] scope) (hCX : StX.CXUp CX) (nd : ks.Nodup) (hk : ks.length ≤ 1000)
    (hb : ∀ (kV doc pm : Value) (an : Option Addr) (cdv ct u : Value) (ws : List Value), ws.length = ks.length → bindArgs (PySem.W.fnOf x qual params body scope .none kV doc pm an cdv ct) ⟨[u], ks.zip ws⟩ = ((alloc ({ cls := .type "dict", data := .dict #[] } : Obj) : Sem Addr) >>= fun d => fillN d (ks.zip ws) >>= fun _ => pure [(p1, u), (pd, Value.ref d)]))
    (hbody : ∀ (cdv : Value) (A : Around) (outer : List Env) (s : Shared) (H : Hp) (vs : List V) (Q : VK) (E : XK), Room k (A.deeper (envOfC qual scope s.heap.objs.size f cdv)) → sp vs H Q E →
      ∃ t, PSs (cxOf CX P w K mg base N qual scope f cdv A outer s H E) body t ∧ t { nx := fun _ H' => Q .non H', rt := Q } (start N vs) H) :
    FnRK P w K mg base CX (k + 1) f 1 ks (fun vs H Q E => ∃ v zs, vs = v :: zs ∧ ∀ d, H d = Option.none → sp [v, V.ref d] (upd H d (.dK (kwK ks zs))) Q E) := by
  obtain ⟨oc, od, dV, kV', doc, pm, an, cdv, ct, osl, rfl, lk, hcd, hDf, _⟩ := F.ex
  obtain rfl : dV = .none := by
    rcases hDf with ⟨_, e⟩ | ⟨e, _⟩
    · exact e
    · exact absurd rfl e
  intro A outer s H us ws vs zs Q E hr e0 r rz l1 l2 hsp
  obtain ⟨v, zs', ev, hq⟩ := hsp
  obtain ⟨v0, rfl⟩ : ∃ v0, vs = [v0] := by
    match vs, l1 with
    | [v0], _ => exact ⟨v0, rfl⟩
  obtain ⟨rfl, rfl⟩ : v0 = v ∧ zs = zs' := by
    have : v0 :: zs = v :: zs' := ev
    injection this with a b
    exact ⟨a, b⟩
  obtain ⟨u, rfl, ru⟩ := vals1 r
  have hn : H s.heap.objs.size = Option.none := e0.hok.fresh (Nat.le_refl _)
  have l3 : ws.length = ks.length := rz.length.symm.trans l2
  refine StX.run_bnd lk hcd S hr e0 (G := fun xs H2 => ∃ d, H d = Option.none ∧ xs = [v0, V.ref d] ∧ H2 = upd H d (.dK (kwK ks zs))) (fun A' Ex Q' h => ?_) fun s2 H2 xs ⟨d, hd, ex, eH⟩ hr' => ?_
  · rw [hb _ _ _ _ _ _ u ws l3]
    refine wpAny_bind (wpAny_alloc (wpAny_bind (fill_run s.heap (ks.zip ws) _ [] 0 rfl (fun _ h => (List.not_mem_nil h).elim) (fun _ h => (List.not_mem_nil h).elim) (by rw [zip_fst l3]; exact nd) (wpAny_pure ?_))))
    have e1 := StX.env0_laid (u := .dK (kwK ks zs)) (o := PySem.W.dictOf ([] ++ PySem.W.kwEs w.params s.toks (ks.zip ws)) (0 + (ks.zip ws).length)) e0 (dk_kw (StX.env0_big e0) hk nd rz l2)
    have un1 := StX.un_laid (fs := frs outer) (s := s) (o := PySem.W.dictOf ([] ++ PySem.W.kwEs w.params s.toks (ks.zip ws)) (0 + (ks.zip ws).length)) (u := .dK (kwK ks zs)) hn
    refine h _ _ [v0, V.ref s.heap.objs.size] [u, Value.ref s.heap.objs.size] ?_ un1 rfl (fun e s' => hCX outer s H _ _ E e s' un1 (fun b o q => Heap.get?_push_of_some _ q) rfl) (.cons ru (.cons rfl .nil)) rfl ⟨_, hn, rfl, rfl⟩
    obtain ⟨a1, a2, a3, a4, a5, a6, a7, a8⟩ := e1
    exact ⟨a1, a2, a3, a4, a5, a6, a7, a8⟩
  · subst ex eH
    exact hbody cdv A outer s2 _ _ Q E hr' (hq d hd)
end
/-- C(k = v, ..) by a promise of its __init__ by keywords -/
def tMakeKR (C : Addr) (m : Nat) (sp : Sp) (E : XK) (tk : TA) : TE := fun σ H Q => tk σ H fun zs H2 => zs.length = m ∧ ∀ x dx, H2 x = Option.none → H2 dx = Option.none → dx ≠ x →
  sp ([V.ref x] ++ zs) (upd (upd H2 dx (.own x)) x (.ins C dx [])) (fun v H3 => v = .non ∧ Q (.ref x) H3) E
section
variable {X : Cx} {CX : CXT} {k : Nat} {f C : Addr} {sp : Sp} {E : XK} {x : Str} {pos p : Pos} {tk : TA} {ks : List Str} {kws : List Keyword}
theorem pe_makeKR (M : Mk X.K C f) (F : FnRK X.prog X.w X.K X.mg X.base CX k f 1 ks sp) (hr : Room (k + 1) X.A) (hg : Gl X x) (hm : X.mg x = some (.ref C)) (hx : Passes CX X E) (hkw : PK X kws tk)
    (hall : (backToKw pos (keywordEach kws X.env)).all (·.1.isSome) = true := by rfl) (hks : (backToKw pos (keywordEach kws X.env)).filterMap (·.1) = ks := by rfl) (hdb : (x == ("__debug__" : Str)) = false := by decide)
    (hpl : ((backTo pos (starEach [] X.env)).any (·.1) || (backToKw pos (keywordEach kws X.env)).any (·.1.isNone)) = false := by rfl) :
    PE X (.Call (.Name x p) [] kws pos) (tMakeKR C ks.length sp E tk) := by
  refine ⟨fun pins s σ H Q I h => ?_⟩
  refine wpAny_Call_Name_kw (ld_glob I hg hm ?_ hdb)
  refine PySem.W.callWith_KW0 (h₀ := X.base) I.ok.mod.kin M.kp hall ?_ hpl
  refine thn (hkw.run pos pins s σ H _ I h) fun ws s2 ⟨zs, H2, I2, rz, l2, q2⟩ => ⟨I2.kIn, ?_⟩
  rw [hks]
  have hq := q2 (s2.heap.objs.size + 1) s2.heap.objs.size (I2.hok.fresh (Nat.le_succ _)) (I2.hok.fresh (Nat.le_refl _)) (Nat.ne_of_lt (Nat.lt_succ_self _))
  have I3 := Inv.made (C := C) I2
  refine wpAny_call (make_map (f := f) I2.kIn M.makes M.init (beq_iff_eq.mp M.fn) (codeAny_mono (F _ X.stack _ _ [Value.ref (s2.heap.objs.size + 1)] ws [V.ref (s2.heap.objs.size + 1)] zs _ E (hr.make C [] (ks.zip ws)) (I3.env0.make C [] (ks.zip ws)) (.cons rfl .nil) rz rfl l2 hq) fun r s' hq' => ?_))
  cases r with
  | error e => exact hx pins σ _ _ e s' I3 hq'
  | ok fl =>
    cases fl with
    | ret u =>
      obtain ⟨v, H', I4, rv, ev, q3⟩ := I3.after hq'
      subst ev
      exact ⟨rv, ⟨V.ref (s2.heap.objs.size + 1), H', I4, rfl, q3⟩⟩
    | next => exact False.elim hq'
    | brk => exact False.elim hq'
    | cont => exact False.elim hq'
end
end Xr
set_option maxHeartbeats 4000000
/-! raising an error of the program's own -/
namespace Xr
open PySem PySem.Spec PyProof.Rows L2
section
variable {X : Cx} {pins : List (Addr × Obj)} {σ : L2.St} {H : Hp} {s : Shared}
theorem callErrR {A : Around} {E : Value → Shared → Prop} {Q : XK} {C fI : Addr} {fd : FuncData} {fs : List Str} {us ws : List Value} {vs : List V} {kw : List (Str × Value)} (T : ErrC X.prog X.K C fI fd fs) (I : Inv X pins σ H s) (hr : Room 1 A)
    (hb : ∀ (s' : Shared) (self : Value), X.K.In s'.heap → BindsTo s' fd ⟨self :: us, kw⟩ ((("self" : Str), self) :: fs.zip ws)) (rel : Vals vs ws) (hl : vs.length = fs.length) (hz : us.length ≤ 1000)
    (h : ∀ d, H d = none → Q (.ref C) (some d) (upd H d (.xd (fs.zip vs)))) :
    wpAny (model X.prog X.w) A (call (.ref C) us kw) (MkP X pins σ Q) E s := by
  obtain ⟨B, ini, N, nw, bmB, b, hi, hsu, hsb⟩ := T.ex
  obtain ⟨i, bN, F⟩ := b.f
  have KX := I.kIn
  obtain ⟨nm, NS, qn, bs, bm, hdct, sn, sub, ab, col, dd, c0, c1, c2, c3, c5, hC, hT⟩ := PySem.W.excInit_of KX hi
  obtain ⟨hp, g, dr, tk, os⟩ := s
  have hz2 : us.length ≤ sizeLine := by rw [sizeLine_eq]; omega
  have kk : ∀ b o, hp.get? b = some o → ((hp.push (PySem.W.kdv_tup us)).push (exOb C hp.objs.size none)).get? b = some o := fun b o e => Heap.get?_push_of_some _ (Heap.get?_push_of_some _ e)
  have hget : ((hp.push (PySem.W.kdv_tup us)).push (exOb C hp.objs.size none)).get? (hp.objs.size + 1) = some (exOb C hp.objs.size none) := by heap_get
  have nbase : X.base.get? (hp.objs.size + 1) = none := by
    cases z : X.base.get? (hp.objs.size + 1) with
    | none => rfl
    | some o => exact absurd (Heap.lt_size (I.bk _ _ z)) (by show ¬ hp.objs.size + 1 < hp.objs.size; omega)
  refine wpAny_call (callOwn F (by rw [hT]; exact b.hN) (by rw [hT]; exact b.noA) (by rw [hT]; exact b.noE) hC (PySem.W.looks_findIn KX T.iC) (fun self => PySem.W.bind_fn KX self T.tI) hz2 ?_)
  refine initRun (base := X.base) T I.mod (fun b o z => kk b o (I.bk b o z)) nbase hget (hr.make C us kw).depth (by rw [← rel.length, hl]) (hb _ _ (I.mod.kin.keeps fun b o z => kk b o (I.bk b o z))) fun h' tk' dx t1 mA k1 g1 g2 g3 g4 g5 => ?_
  have z1 : hp.objs.size ≤ hp.objs.size + 1 := Nat.le_succ _
  have z2 : hp.objs.size ≤ dx := Nat.le_trans (by rw [Heap.size_push, Heap.size_push]; omega) g1
  have J := layErr (tk := tk') (fs := fs.zip vs) I (fun b o z => k1 b o (kLt z z1) (kk b o z)) z1 z2 g2 g3 g4 fun f => by rw [g5 f]; exact relZip fs rel f
  have nE : H (hp.objs.size + 1) = none := I.hok.fresh z1
  have nD : H dx = none := I.hok.fresh z2
  have lt2 : ∀ {b : Addr} {o : Obj}, ((hp.push (PySem.W.kdv_tup us)).push (exOb C hp.objs.size none)).get? b = some o → b ≠ dx := fun {b o} z e => by
    rw [e] at z
    exact absurd (Heap.lt_size z) (Nat.not_lt.mpr g1)
  have un : Un (frs X.stack) [] (upd H (hp.objs.size + 1) (exo (hp.objs.size + 1) C none)) (upd (upd H dx (exd dx (fs.zip vs))) (hp.objs.size + 1) (exo (hp.objs.size + 1) C (some dx))) ((hp.push (PySem.W.kdv_tup us)).push (exOb C hp.objs.size none)) h' := {
    keep := fun b o z n hf hx => by
      by_cases hb : b = hp.objs.size + 1
      · rw [hb, upd_same] at n
        cases n
      · exact k1 b o hb z
    slot := fun b o z n hf hx => by
      by_cases hb : b = hp.objs.size + 1
      · rw [hb, upd_same] at n
        cases n
      · exact ⟨o.slots, k1 b o hb z⟩
    free := fun b o z n hx => by
      by_cases hb : b = hp.objs.size + 1
      · rw [hb, upd_same] at n
        cases n
      · rw [upd_ne hb, upd_ne (lt2 z)]
        rw [upd_ne hb] at n
        exact n
    there := fun b o z hx => by
      by_cases hb : b = hp.objs.size + 1
      · rw [hb]
        exact ⟨_, g3⟩
      · exact ⟨o, k1 b o hb z⟩
    tups := fun b xs z => by
      by_cases hb : b = hp.objs.size + 1
      · rw [hb, upd_same] at z
        exact absurd (Option.some.inj z) exo_tup
      · rw [upd_ne hb] at z
        rw [upd_ne hb, upd_ne (ne_of_none z nD)]
        exact z
    frzs := fun b o v z => by
      by_cases hb : b = hp.objs.size + 1
      · rw [hb, upd_same] at z
        exact absurd (Option.some.inj z) exo_frz
      · rw [upd_ne hb] at z
        rw [upd_ne hb, upd_ne (ne_of_none z nD)]
        exact z
    tbls := fun b ps z => by
      by_cases hb : b = hp.objs.size + 1
      · rw [hb, upd_same] at z
        exact absurd (Option.some.inj z) exo_tbl
      · rw [upd_ne hb] at z
        rw [upd_ne hb, upd_ne (ne_of_none z nD)]
        exact ⟨#[], by simpa using z⟩ }
  have eH : upd (del (upd (upd H dx (exd dx (fs.zip vs))) (hp.objs.size + 1) (exo (hp.objs.size + 1) C (some dx))) (hp.objs.size + 1)) dx (.xd (fs.zip vs)) = upd H dx (.xd (fs.zip vs)) := by
    funext b
    by_cases hb : b = dx
    · subst hb
      rw [upd_same, upd_same]
    · rw [upd_ne hb, upd_ne hb]
      by_cases hb2 : b = hp.objs.size + 1
      · subst hb2
        rw [del_same, nE]
      · rw [del_ne hb2, upd_ne hb2, upd_ne hb]
  refine ⟨rfl, mk_end (raises_own T.exc T.typ) I z1 kk un J.hok rfl I.bare upd_same ((upd_ne g2).trans upd_same) nD ?_⟩
  rw [eH]
  exact h dx nD
end
/-- raise C(..) -/
def tMkE (C : Addr) (fs : List Str) (t : TA) : L2.St → Hp → XK → Prop := fun σ H Q => t σ H fun vs H1 => vs.length = fs.length ∧ ∀ d, H1 d = none → Q (.ref C) (some d) (upd H1 d (.xd (fs.zip vs)))
section
variable {X : Cx} {C fI : Addr} {fd : FuncData} {fs : List Str} {x : Str} {p pos : Pos} {e : Expr} {es : List Expr} {t : TA}
theorem pmk_err (T : ErrC X.prog X.K C fI fd fs) (b : ErrB fd fs) (h3 : fs.length ≤ 3) (hr : Room 1 X.A) (hg : Gl X x) (hm : X.mg x = some (.ref C)) (ha : PA X (e :: es) t)
    (hdb : (x == ("__debug__" : Str)) = false := by decide) (he : starEach (e :: es) X.env = (false, eval e X.env) :: starEach es X.env := by rfl) (hpl : (backTo pos (starEach es X.env)).any (·.1) = false := by rfl) :
    PMk X (.Call (.Name x p) (e :: es) [] pos) (tMkE C fs t) := by
  intro pins s σ H Q I h
  refine wpAny_Call_Name_kw (ld_glob I hg hm ?_ hdb)
  refine PySem.W.callWith_K (h₀ := X.base) I.ok.mod.kin T.keep (thn (ha.run pos pins s σ H _ I h) fun us s1 ⟨vs, H1, I1, r1, hl, q1⟩ => ⟨I1.kIn, ?_⟩) he hpl
  have hlu : us.length = fs.length := by rw [← r1.length, hl]
  exact callErrR T I1 hr (fun s' self _ => b.p s' self us hlu) r1 hl (by show us.length ≤ 1000; omega) q1
end
end Xr
set_option maxHeartbeats 4000000
/-! an error that was caught and is kept -/
namespace Xr
open PySem PySem.Spec PyProof.Rows L2
/-- an exception that has been caught: its class, its dict -/
def exr (e : Addr) (cls : Value) (d : Option Addr) : HO := .ext fun h => ∃ (oe : Obj) (vs : Array Value), h.get? e = some oe ∧ oe.cls = cls ∧ oe.dict = d ∧ oe.data = .fields vs
theorem exr_ok {P : Program} {w : World} {H : Hp} {h : Heap} {e : Addr} {cls : Value} {d : Option Addr} {oe : Obj} {vs : Array Value} (h1 : h.get? e = some oe) (h2 : oe.cls = cls) (h3 : oe.dict = d) (h4 : oe.data = .fields vs) : ObjOk P w H h e (exr e cls d) :=
  ⟨⟨oe, vs, h1, h2, h3, h4⟩, ⟨oe, h1⟩, fun _ _ ⟨oe, vs, a, b, c, d⟩ st => ⟨oe, vs, st _ a, b, c, d⟩⟩
theorem exr_at {P : Program} {w : World} {H : Hp} {h : Heap} {e : Addr} {cls : Value} {d : Option Addr} (hok : HOk P w H h) (he : H e = some (exr e cls d)) : ∃ (oe : Obj) (vs : Array Value), h.get? e = some oe ∧ oe.cls = cls ∧ oe.dict = d ∧ oe.data = .fields vs := (hok e _ he).1
section
variable {X : Cx} {pins : List (Addr × Obj)} {σ : L2.St} {H : Hp} {s : Shared}
/-- an object that stands there is known from now on -/
theorem adopt {a : Addr} {u : HO} (I : Inv X pins σ H s) (hn : H a = none) (h0 : X.s_0.heap.get? a = none) (hL : a ≠ X.env.locals) (hc : ∀ x c, X.env.cells.lookup x = some c → c ≠ a) (hp : ∀ p ∈ X.pn ++ pins, p.1 ≠ a) (hu : ObjOk X.prog X.w (upd H a u) s.heap a u) : Inv X pins σ (upd H a u) s := by
  have nb : ∀ {b : Addr} {o : HO}, H b = some o → b ≠ a := fun h => ne_of_none h hn
  refine ⟨I.ok, I.os, I.bare, ⟨I.base.keep, I.base.slot, fun b o e n hx => ?_, I.base.there, fun b xs e => ?_, fun b o v e => ?_, fun b ps e => ?_⟩, I.loc, I.cell, ?_, fun x c e => ?_, fun p h => ?_, fun b o e => ?_, I.len⟩
  · have hb : b ≠ a := fun z => by rw [z, h0] at e; cases e
    rw [upd_ne hb]
    exact I.base.free b o e n hx
  · have z := I.base.tups b xs e
    rw [upd_ne (nb z)]
    exact z
  · have z := I.base.frzs b o v e
    rw [upd_ne (nb z)]
    exact z
  · obtain ⟨more, z⟩ := I.base.tbls b ps e
    exact ⟨more, by rw [upd_ne (nb z)]; exact z⟩
  · rw [upd_ne hL.symm]
    exact I.free
  · rw [upd_ne (hc x c e)]
    exact I.freeC x c e
  · obtain ⟨p1, p2, p3⟩ := I.pin p h
    exact ⟨p1, by rw [upd_ne (hp p h)]; exact p2, p3⟩
  · by_cases hb : b = a
    · subst hb
      rw [upd_same] at e
      cases e
      exact hu
    · rw [upd_ne hb] at e
      exact (I.hok b o e).stay (fun _ _ _ q => q) (fun c q => by rw [upd_ne (nb q)]; exact q) fun c xs q => by rw [upd_ne (nb q)]; exact q
end
/-- except (c1, c2) as n: suite: behind it the exception is known -/
def wAsK (K : PySem.W.Frag) (c1 c2 : Value) (i : Nat) (ts : Addr → Value → Option Addr → TS) (Wout : WX) (D : Ends) : WX := fun cls d σ H =>
  ∃ b, PySem.W.exmAny K cls [c1, c2] = some b ∧ (b = true → ∀ a, H a = none → ts a cls d { nx := fun σ' H' => H' a = none → D.nx (σ'.set i none) (upd H' a (exr a cls d)), rt := D.rt, bk := fun σ' H' => D.bk (σ'.set i none) H', ct := fun σ' H' => D.ct (σ'.set i none) H' } (σ.set i (some (.ref a))) H) ∧
    (b = false → Wout cls d σ H)
section
variable {X : Cx} {x1 x2 n : Str} {c1 c2 : Value} {i : Nat} {body suite : List Stmt} {b₀ : Stmt} {np1 np2 tpos pos pos' : Pos} {tb : WX → TS} {ts : Addr → Value → Option Addr → TS} {Wout : WX} {kk : Nat}
theorem flying_push {B h : Heap} {l : List Env} {e : Addr} {Z : Obj → Prop} (o : Obj) (x : HandSPX.FlyingZ B l e Z h) : HandSPX.FlyingZ B l e Z (h.push o) := by
  obtain ⟨a1, a2, a3, oe, vs, T, oT, ts', he, hz, hd, h1, hr⟩ := x
  refine ⟨fun b u q => Heap.get?_push_of_some _ (a1 b u q), a2, Heap.FunFrames.of_keeps (fun b u q _ => ⟨u, Heap.get?_push_of_some _ q, rfl⟩) a3, oe, vs, T, oT, ts', Heap.get?_push_of_some _ he, hz, hd, h1, ?_⟩
  exact ⟨hr.1, hr.2.1, Heap.get?_push_of_some _ hr.2.2.1, hr.2.2.2⟩
theorem ps_try_keep (hst : X.stack = X.env :: X.outer) (hfm : X.env.frame = some X.env.locals) (hex : X.ex = []) (hN : X.N.Nodup) (hi : X.N[i]? = some n) (hln : X.env.kindOf n = some .local) (hc1 : Names X x1 c1) (hc2 : Names X x2 c2) (tk : Takes X Wout)
    (hbd : ∀ (W : WX) (pn : List (Addr × Obj)) (xe : Value → Shared → Prop), Takes (X.tr pn xe) W → PassesOwn (model X.prog X.w) X.A X.env xe → PSs (X.tr pn xe) body (tb W))
    (hsu : ∀ (a : Addr) (oe : Obj) (cls : Value) (d : Option Addr) (pn : List (Addr × Obj)), Zc cls d oe → (∃ vs, oe.data = .fields vs) → PSs (X.suite a ((a, oe) :: pn)) (b₀ :: suite) (ts a cls d)) :
    PS X (.Try body [.ExceptHandler (some (.Tuple [.Name x1 np1, .Name x2 np2] kk tpos)) (some n) (b₀ :: suite) pos'] [] [] pos) (fun D σ H => tb (wAsK X.K c1 c2 i ts Wout D) D σ H) := by
  refine ⟨fun pins s σ H D I0 rd => ?_⟩
  have okX := I0.ok
  have frm : X.A.frames = some (X.env :: X.outer) := okX.frames.trans (congrArg some hst)
  refine wpAny_Try_except (wpAny_mono ((hbd (wAsK X.K c1 c2 i ts Wout D) (X.pn ++ pins) (fun e sa => wpAny (model X.prog X.w) X.A (noteFrame e X.env) (fun _ sb => wpAny (model X.prog X.w) X.A (setFlight e none) (fun _ sc =>
    wpAny (model X.prog X.w) X.A (handleBy e X.env [.ExceptHandler (some (.Tuple [.Name x1 np1, .Name x2 np2] kk tpos)) (some n) (b₀ :: suite) pos']) (SP X pins D) X.xe sc) X.xe sb) X.xe sa) (fun u s' xx => ?_) PassesOwn.looking).run [] s σ H D (I0.toTry _) rd) (fun f s1 hsp => ?_) fun _ _ he => he)
  · obtain ⟨a, B, sI, pins', σ', H', cls, d, rfl, J', nb, up, sky, na, os, ag, b, hb1, hyes, hno⟩ := xx
    have J : Inv X pins σ' H' sI := J'.ofTry okX
    show wpAny (model X.prog X.w) X.A (noteFrame (.ref a) X.env) _ _ _
    refine Sky.land Zc.steady frm hfm (hst ▸ sky) fun g3 fy3 u3 => ?_
    obtain ⟨e3, v3, at3, zc3, dt3⟩ := fy3.there
    have nfr : a ∉ frs (X.env :: X.outer) := fun hm => by
      obtain ⟨_, o', q, hnf⟩ := fy3.2.2.1.mem hm
      rw [at3] at q
      cases q
      exact hnf _ dt3
    have nL : a ≠ X.env.locals := fun z => nfr (List.mem_filterMap.mpr ⟨X.env, List.mem_cons_self, hfm.trans (congrArg some z.symm)⟩)
    have nF : a ∉ X.fs := fun hm => by
      obtain ⟨e, he, q⟩ := List.mem_filterMap.mp hm
      exact nfr (List.mem_filterMap.mpr ⟨e, List.mem_cons_of_mem _ he, q⟩)
    have nA : sI.heap.get? a = none := by
      cases q : sI.heap.get? a with
      | none => rfl
      | some o =>
        have z := nb a o q (hst ▸ nfr)
        rw [fy3.2.1] at z
        cases z
    have n0 : X.s_0.heap.get? a = none := by
      cases q : X.s_0.heap.get? a with
      | none => rfl
      | some o =>
        obtain ⟨o', z⟩ := J.base.there a o q (by rw [hex]; simp)
        rw [nA] at z
        cases z
    have J3 : Inv X pins σ' H' { s' with heap := g3 } := J.landed nb fy3.1 (up.trans u3) os ag
    have S3 := J3.suite at3 dt3 na nL nF
    refine wpAny_handleBy_cons (codeAny_handlers_test ?_) (by intro q; cases q)
    have nameOf : ∀ {x : Str} {c : Value} {np : Pos} {Q : Value → Shared → Prop} {E : Value → Shared → Prop}, Names X x c → Q c { s' with heap := g3 } → wpAny (model X.prog X.w) (X.A.mark (some (.ref a))) (eval (.Name x np) X.env) Q E { s' with heap := g3 } := fun {x c np Q E} hc q => by
      obtain ⟨hg, hdbg, hm | ⟨hm, hv, hnn⟩⟩ := hc
      · exact ld_glob (X := X.suite a ((a, e3) :: (X.pn ++ pins))) S3 hg hm q hdbg
      · exact ld_blt (X := X.suite a ((a, e3) :: (X.pn ++ pins))) S3 hg hm hv q hnn hdbg
    refine wpAny_Tuple_spliced ?_
    show wpAny _ _ (spliced ((false, eval (.Name x1 np1) X.env) :: (false, eval (.Name x2 np2) X.env) :: backTo tpos (starEach [] X.env))) _ _ _
    refine Calls.spliced_cons (nameOf hc1 (Calls.spliced_cons (nameOf hc2 (Calls.spliced_nil ⟨by show 2 ≤ sizeLine; decide, ?_⟩))))
    have fy5 := flying_push { cls := .type "tuple", data := .seq [c1, c2].toArray } fy3
    have u5 : g3.UpToSlots (g3.push { cls := .type "tuple", data := .seq [c1, c2].toArray }) := .of_keeps fun b o q => Heap.get?_push_of_some _ q
    have tp5 : (g3.push { cls := .type "tuple", data := .seq [c1, c2].toArray }).get? g3.objs.size = some { cls := .type "tuple", data := .seq [c1, c2].toArray } := Heap.get?_push_size g3 rfl
    have at5 : (g3.push { cls := .type "tuple", data := .seq [c1, c2].toArray }).get? a = some e3 := Heap.get?_push_of_some _ at3
    have J5 : Inv X pins σ' H' { s' with heap := g3.push { cls := .type "tuple", data := .seq [c1, c2].toArray } } := J.landed nb fy5.1 ((up.trans u3).trans u5) os ag
    have LT : PySem.W.Looks (model X.prog X.w) (g3.push { cls := .type "tuple", data := .seq [c1, c2].toArray }) (typeOf (.ref a)) cls := fun A Q E s k q => wpAny_typeOf_ref (k _ _ at5) (by rw [zc3.1]; exact q)
    refine (PySem.W.exm_tup2 (M := model X.prog X.w) J5.kIn LT tp5 hb1).here ?_
    cases b with
    | true =>
      refine codeAny_handlers_suite_as (HandSPX.lands_againZ fy5 fun g4 fy4 u4 => ?_)
      have J4 : Inv X pins σ' H' { s' with heap := g4 } := J.landed nb fy4.1 (((up.trans u3).trans u5).trans u4) os ag
      obtain ⟨e4, v4, at4, zc4, dt4⟩ := fy4.there
      refine store_ok (X := X.suite a ((a, e4) :: (X.pn ++ pins))) (v := .ref a) (J4.suite at4 dt4 na nL nF) hN hi (.inl hln) rfl (fun s5 S5 => ?_) (.inr hln)
      refine wpAny_mono ((hsu a e4 cls d (X.pn ++ pins) zc4 ⟨_, dt4⟩).run [] s5 _ H' _ S5 (hyes rfl a na)) (fun f s6 hsp => ?_) fun _ _ z => False.elim z
      have leave : ∀ {σ6 : L2.St} {H6 : Hp} {Q : Shared → Prop}, Inv (X.suite a ((a, e4) :: (X.pn ++ pins))) [] σ6 H6 s6 → (∀ s7, Inv X pins (σ6.set i none) H6 s7 → Q s7) → wpAny (model X.prog X.w) X.A (do bindName X.env n .none; unbindBehindTheSuite X.env n pos') (fun _ s7 => Q s7) X.xe s6 :=
        fun S6 hq => gone_ok (S6.unsuite okX) hN hi hln hq
      cases f with
      | next =>
        obtain ⟨σ6, H6, S6, q6⟩ := hsp
        have S6' : Inv X ((a, e4) :: pins) σ6 H6 s6 := ⟨okX, S6.os, S6.bare, S6.base, S6.loc, S6.cell, S6.free, S6.freeC, fun p hp => S6.pin p (by
          show p ∈ ((a, e4) :: (X.pn ++ pins)) ++ []
          rw [List.append_nil]
          rcases List.mem_append.mp hp with z | z
          · exact List.mem_cons_of_mem _ (List.mem_append_left _ z)
          · rcases List.mem_cons.mp z with z | z
            · rw [z]
              exact List.mem_cons_self
            · exact List.mem_cons_of_mem _ (List.mem_append_right _ z)), S6.hok, S6.len⟩
        refine gone_ok S6' hN hi hln fun s7 J7 => ?_
        obtain ⟨p1, p2, _⟩ := J7.pin (a, e4) (List.mem_append_right _ List.mem_cons_self)
        have J8 : Inv X pins (σ6.set i none) H6 s7 := J7.pins_of fun p hp => J7.pin p (List.mem_append_right _ (List.mem_cons_of_mem _ hp))
        refine ⟨_, _, adopt J8 p2 n0 nL (fun x c hc z => ?_) (fun p hp z => ?_) (exr_ok p1 zc4.1 zc4.2 dt4), q6 p2⟩
        · obtain ⟨v, o, ho, hd⟩ := J7.cell x c hc
          rw [z, p1] at ho
          cases ho
          rw [dt4] at hd
          cases hd
        · have q := (J.pin p hp).1
          rw [z, nA] at q
          cases q
      | brk =>
        obtain ⟨σ6, H6, S6, q6⟩ := hsp
        exact leave S6 fun s7 J7 => ⟨_, _, J7, q6⟩
      | cont =>
        obtain ⟨σ6, H6, S6, q6⟩ := hsp
        exact leave S6 fun s7 J7 => ⟨_, _, J7, q6⟩
      | ret u =>
        obtain ⟨v6, σ6, H6, S6, r6, q6⟩ := hsp
        exact leave S6 fun s7 J7 => ⟨_, _, _, J7, r6, q6⟩
    | false =>
      refine (show wpAny _ X.A (handleBy (.ref a) X.env []) _ _ _ from wpAny_handleBy_nil ?_)
      obtain ⟨k1, k2, k3, oe, vs, T, oT, ts', he, hz, hd, h1, hr⟩ := id fy5
      unfold PySem.passOn
      refine wpAny_bind (wpAny_field he hd h1 ?_)
      rw [if_neg (show ¬ ((Value.ref T == Value.none) = true) from by simp)]
      have out : wpAny (model X.prog X.w) X.A (setFlight (.ref a) X.env.frame) (fun _ s4 => wpAny (model X.prog X.w) X.A (throw (.ref a) : Sem Flow) (SP X pins D) X.xe s4) X.xe { s' with heap := g3.push { cls := .type "tuple", data := .seq [c1, c2].toArray } } := by
        rw [hfm]
        refine HandSPX.setFlight_upZ fy5 fun g4 hh4 u4 => wpAny_throw (tk _ _ ⟨a, B, sI, pins, σ', H', cls, d, rfl, J, nb, ((up.trans u3).trans u5).trans u4, .inr (.inr (by rw [hst]; exact hh4)), na, os, ag, hno rfl⟩)
      first
        | exact wpAny_bind (wpAny_pure (wpAny_bind out))
        | exact wpAny_bind out
  · cases f with
    | next =>
      obtain ⟨σ', H', K', q⟩ := hsp
      exact wpAny_execs_nil ⟨σ', H', K'.ofTry okX, q⟩
    | brk =>
      obtain ⟨σ', H', K', q⟩ := hsp
      exact ⟨σ', H', K'.ofTry okX, q⟩
    | cont =>
      obtain ⟨σ', H', K', q⟩ := hsp
      exact ⟨σ', H', K'.ofTry okX, q⟩
    | ret u =>
      obtain ⟨v, σ', H', K', r, q⟩ := hsp
      exact ⟨v, σ', H', K'.ofTry okX, r, q⟩
end
end Xr
set_option maxHeartbeats 4000000
/-! what a caught error tells -/
namespace Xr
open PySem PySem.Spec PyProof.Rows L2
theorem xd_at {P : Program} {w : World} {H : Hp} {h : Heap} {d : Addr} {fs : List (Str × V)} (hok : HOk P w H h) (he : H d = some (.xd fs)) : ∃ mA, h.Ns1 d mA ∧ ∀ f, RelO (fs.lookup f) (mA f) := hok d _ he
section
variable {X : Cx} {pins : List (Addr × Obj)} {σ : L2.St} {H : Hp} {s : Shared} {pos : Pos} {e : Expr}
/-- a caught error is an instance -/
theorem exr_inst {a C d : Addr} {fs : List (Str × V)} (hok : HOk X.prog X.w H s.heap) (ha : H a = some (exr a (.ref C) (some d))) (hd : H d = some (.xd fs)) :
    ∃ (ox od : Obj) (mA : Str → Option Value), PySem.W.InstAt s.heap a ox C (some od) ∧ (∀ n, PySem.W.lookIn n od = some (mA n)) ∧ ∀ f, RelO (fs.lookup f) (mA f) := by
  obtain ⟨oe, vs, h1, h2, h3, h4⟩ := exr_at hok ha
  obtain ⟨mA, hns, hr⟩ := xd_at hok hd
  obtain ⟨od, ho2, hl⟩ := lookIn_ns hns
  refine ⟨oe, od, mA, ⟨h1, h2, ?_, ?_⟩, hl, hr⟩
  · obtain ⟨c, dd, dt, sl⟩ := oe
    cases h4
    rfl
  · rw [h3]
    exact ho2
/-- e.f of a caught error -/
def tXr (K : PySem.W.Frag) (f : Str) (te : TE) : TE := fun σ H Q => te σ H fun x H1 => ∃ (a C d : Addr) (fs : List (Str × V)) (v : V), x = .ref a ∧ H1 a = some (exr a (.ref C) (some d)) ∧ H1 d = some (.xd fs) ∧ XfC K C ∧ PySem.W.findIn K (.ref C) f = some none ∧ fs.lookup f = some v ∧ Q v H1
theorem pe_xr {te : TE} {n : Str} (he : PE X e te) (hb : attributeBase e n X.env (eval e X.env) = eval e X.env := by rfl) : PE X (.Attribute e n pos) (tXr X.K n te) := by
  refine ⟨fun pins s σ H Q I h => ?_⟩
  refine attr_of hb (thn (he.run pins s σ H _ I h) fun u s1 hh => ?_)
  obtain ⟨x, H1, I1, rx, a, C, d, fs, v, rfl, ha, hd, T, hno, l, q⟩ := hh
  obtain rfl : u = Value.ref a := rx
  obtain ⟨ox, od, mA, J, hl, hr⟩ := exr_inst I1.hok ha hd
  obtain ⟨u, hu, ru⟩ := RelO.some_of (v := v) (o := mA n) (by rw [← l]; exact hr n)
  exact HandSPX.exc_get I1.kIn J T.ga T.gg T.exC (PySem.W.findObj_own T.hdC hno rfl (by rw [hl, hu])) (handed_of ru) ⟨v, H1, I1.tok _, ru, q⟩
/-- isinstance(e, C) of a caught error -/
def rIsR (K : PySem.W.Frag) : List V → Hp → VK → Prop := fun xs H Q => ∃ (a C : Addr) (d : Addr) (fs : List (Str × V)) (c : V) (cv : Value) (b : Bool), xs = [.ref a, c] ∧ H a = some (exr a (.ref C) (some d)) ∧ H d = some (.xd fs) ∧ XiC K C ∧ ClsV c cv ∧ PySem.W.kitOne K (.ref C) cv = some b ∧ Q (.bl b) H
theorem call_isR : CallR X (.builtin "isinstance") (rIsR X.K) := by
  intro pins s σ H xs us Q I r h
  obtain ⟨a, C, d, fs, c, cv, b, rfl, ha, hd, T, k, e, q⟩ := h
  obtain ⟨u1, u2, rfl, r1, r2⟩ := vals2 r
  have e2 := k.eq r2
  subst e2
  cases r1
  obtain ⟨ox, od, mA, J, hl, hr⟩ := exr_inst I.hok ha hd
  exact PySem.W.kia_one (PySem.W.kitx_exc T.cl T.ga T.gg T.exC T.ca T.sg T.tk T.ob) I.kIn J e (fun z => nomatch z) fun tk => ⟨.bl b, H, I.tok tk, rfl, q⟩
end
end Xr
set_option maxHeartbeats 4000000
/-! defs that make lambdas; the end of a law with tables of code objects, the guards known -/
namespace Xr
open PySem PySem.Spec PyProof.Rows L2 LamX
section
variable {P : Program} {w : World} {K : PySem.W.Frag} {mg : Str → Option Value} {base : Heap} {CX : CXT} {k : Nat} {f : Addr} {x qual : Str} {params : Arguments} {body : List Stmt} {scope : Scope} {dvs : List V} {kws : List (Str × V)} {fd : FuncData} {N ps : List Str} {sp : Sp} {p : He.Defn}
/-- as okG, the def's code object known -/
theorem okGC (F : FunD K x qual params body scope dvs kws (He.fAd K p) fd) (S : FnScope N ps scope) (len : ∀ vs H Q E, sp vs H Q E → vs.length = ps.length)
    (hbody : ∀ (A : Around) (outer : List Env) (s : Shared) (H : Hp) (vs : List V) (Q : VK) (E : XK), Room k (A.deeper (envOfC qual scope s.heap.objs.size (He.fAd K p) (.ref (He.codeOf K p)))) → A.guards = some [] → sp vs H Q E →
      ∃ t, PSs (cxOf CX P w K mg base N qual scope (He.fAd K p) (.ref (He.codeOf K p)) A outer s H E) body t ∧ t { nx := fun _ H' => Q .non H', rt := Q } (start N vs) H) :
    FnG P w K mg base CX (k + 1) (He.fAd K p) fd ps sp := by
  obtain ⟨oc, od, dV, kV, doc, pm, an, cdv, ct, osl, rfl, lk, hcd, _, _⟩ := F.ex
  obtain ⟨c, rfl⟩ := He.codeIn_ref hcd
  obtain rfl : He.codeOf K p = c := He.codeOf_eq lk rfl
  refine ⟨len, fun A outer s H args us vs Q E hr hgd e0 hb r hsp => ?_⟩
  have keep0 : ∀ b o, base.get? b = some o → s.heap.get? b = some o := fun b o z => (e0.bs b o z).1
  have KX : K.In s.heap := e0.mod.kin.keeps keep0
  have hk : ∀ y ∈ ps.zip us, scope.names.lookup y.1 = some .local ∨
      (scope.names.lookup y.1 = some .cell ∧ ((cellsFrom (s.heap.objs.size + 1) scope.names []).lookup y.1).isSome = true) := by
    rintro ⟨n, v⟩ hy
    rcases S.par n (List.of_mem_zip hy).1 with z | z
    · exact Or.inl z
    · exact Or.inr ⟨z, PySem.W.cellsFrom_some _ _ _ (Or.inl z)⟩
  refine codeAny_call_function hr.depth (KX _ _ lk) rfl S.co S.gen rfl (PySem.W.codeRec_of KX hcd) (hb _ _ _ _ ?_)
  refine wpAny_newFunctionEnv_cells S.kind hk fun env he s1 z => ?_
  subst he
  refine ⟨(e0.mod.nolimit.keeps keep0).keeps z.toInCall.keep, codeAny_func ?_⟩
  obtain ⟨t, ht, hq⟩ := hbody A outer s H vs Q E (hr.deeper _) hgd hsp
  have J := inv_start (CX := CX) (E := E) S hr.hd e0 (len _ _ _ _ hsp) r z
  refine wpAny_mono (ht.run [] s1 (start N vs) H _ J hq) (fun fl s' hs => ?_) fun e s' hs => hs
  rcases fl with _ | _ | _ | u
  · obtain ⟨σ', H', J', q⟩ := hs
    exact ⟨V.non, H', J'.os, J'.bare, J'.base, J'.hok, rfl, q⟩
  · obtain ⟨_, _, _, q⟩ := hs
    exact q.elim
  · obtain ⟨_, _, _, q⟩ := hs
    exact q.elim
  · obtain ⟨v, σ', H', J', rv, q⟩ := hs
    exact ⟨v, H', J'.os, J'.bare, J'.base, J'.hok, rv, q⟩
end
/-- the script, locked, and empty tables -/
def scrT (S : Option (Addr × HO)) (tb : List Addr) : Hp := fun b => if (S.map (·.1)) = some b then S.map (·.2) else if b ∈ tb then some (.tbl #[]) else none
theorem lawCallGT {P : Program} {w : World} {K : PySem.W.Frag} {mg mb : Str → Option Value} {CX : CXT} {k : Nat} {fa a : Addr} {cs : List (Addr × Addr)} {fd : FuncData} {x : Str} {sp : Sp} {s1 : Shared} {vs : List Value} {ns : List Int}
    (KX : K.In s1.heap) (hns : s1.heap.Ns mainGlobals mg) (hb : s1.heap.Ns builtinsNs mb) (hbb : ∀ x : Str, x ≠ "__name__" → mb x = bootBuiltins x) (hlim : s1.heap.NoLimit) (hg : s1.gens = #[])
    (tE : ∀ p ∈ cs, s1.heap.get? p.2 = some { cls := .none, data := .fields #[] }) (tO : ∀ p ∈ cs, K.lookup p.2 = none) (tC : ∀ p ∈ cs, PySem.W.CodeHd s1.heap p.1 p.2)
    (hbm : ∃ (bm : Addr) (ob : Obj), mg "__builtins__" = some (.ref bm) ∧ bm ≠ builtinsNs ∧ s1.heap.get? bm = some ob ∧ ob.cls = .type "module" ∧ ob.dict = some builtinsNs ∧ ob.data = .plain)
    (ha : s1.heap.get? a = some { cls := .type "list", data := .seq vs.toArray }) (hi : IntsAre vs ns) (hl : ns.length ≤ sizeLine) (hr : Room k callerA)
    (F : ∀ base : Heap, K.In base → base.Ns mainGlobals mg → (∀ p ∈ cs, TabB base mg p.1 p.2) → FnG P w K mg base CX k fa fd [x] sp) (hbind : ∀ (s : Shared) (u : Value), BindsTo s fd ⟨[u], []⟩ [(x, u)])
    (hsp : ∀ H : Hp, (∀ p ∈ cs, H p.2 = some (.tbl #[])) → SqL K H a (ns.map V.int) → sp [.ref a] H (fun v _ => v = .bl true) fun _ _ _ => False)
    (hCX : ∀ H e s', CX [] H s1 (fun _ _ _ => False) e s' → False) :
    codeAny (model P w) callerA (.call (.ref fa) ⟨[.ref a], []⟩) (fun r s' => r = .ok (.ret (.bool true)) ∧ OldK s1.heap s'.heap ∧ s'.os = s1.os ∧ AllBare s'.gens) s1 := by
  have rv := vals_ints hi
  have mT : ∀ {b : Addr}, b ∈ cs.map (·.2) → ∃ p ∈ cs, p.2 = b := fun h => List.mem_map.mp h
  have tA : ∀ {b : Addr}, b ∈ cs.map (·.2) → s1.heap.get? b = some { cls := .none, data := .fields #[] } := fun h => by
    obtain ⟨p, hp, rfl⟩ := mT h
    exact tE p hp
  have aN : a ∉ cs.map (·.2) := fun h => by
    have z := tA h
    rw [ha] at z
    injection z with z
    injection z with _ _ z
    cases z
  have go : ∀ H : Hp, (∀ p ∈ cs, H p.2 = some (.tbl #[])) → (∀ b u, H b = some u → b ∈ cs.map (·.2) ∨ (b = a ∧ ∃ o xs, u = .frz o (.lst xs))) → SqL K H a (ns.map V.int) → HOk P w H s1.heap → (H a ≠ none → K.lookup a = none) →
      codeAny (model P w) callerA (.call (.ref fa) ⟨[.ref a], []⟩) (fun r s' => r = .ok (.ret (.bool true)) ∧ OldK s1.heap s'.heap ∧ s'.os = s1.os ∧ AllBare s'.gens) s1 := by
    intro H hH hO hS hok hK
    have free : ∀ {b : Addr} {o : Obj}, s1.heap.get? b = some o → (∀ us n, o.data ≠ .seq us n) → o.data ≠ .fields #[] → H b = none := by
      intro b o z d1 d2
      cases q : H b with
      | none => rfl
      | some u =>
        exfalso
        rcases hO b u q with h | ⟨rfl, _⟩
        · rw [tA h] at z
          cases z
          exact d2 rfl
        · rw [ha] at z
          cases z
          exact d1 _ _ rfl
    have nsB : ∀ {b : Addr} {m : Str → Option Value}, s1.heap.Ns b m → (hidT s1.heap H).Ns b m := by
      rintro b m ⟨o, es, ep, z, d, r⟩
      exact ⟨o, es, ep, hidT_get z (free z (fun _ _ y => by rw [d] at y; cases y) fun y => by rw [d] at y; cases y), d, r⟩
    have KB : K.In (hidT s1.heap H) := fun b o z => hidT_get (KX b o z) (by
      cases q : H b with
      | none => rfl
      | some u =>
        exfalso
        rcases hO b u q with h | ⟨rfl, _⟩
        · obtain ⟨p, hp, rfl⟩ := mT h
          rw [tO p hp] at z
          cases z
        · rw [hK (by rw [q]; exact Option.some_ne_none _)] at z
          cases z)
    obtain ⟨mc, l1, l2⟩ := hlim
    have M : Mod K mg (hidT s1.heap H) := ⟨KB, nsB hns, ⟨mb, nsB hb, hbb⟩, ⟨mc, nsB l1, l2⟩⟩
    have TB : ∀ p ∈ cs, TabB (hidT s1.heap H) mg p.1 p.2 := by
      intro p hp
      have e := tE p hp
      obtain ⟨o, us, file, tf, flags, tg, inF, text, tt, y1, r1, r2, r3, r4, r5, r6, r7, r8, hne⟩ := tC p hp
      obtain ⟨bm, ob, b1, b2, b3, b4, b5, b6⟩ := hbm
      obtain ⟨og, es, ep, g1, g2, _⟩ := id hns
      refine ⟨⟨o, us, file, tf, flags, tg, inF, text, tt, hidT_get y1 (free y1 (fun _ _ y => by rw [r2] at y; cases y) fun y => ?_), r1, r2, r3, r4, r5, r6, r7, r8, hne⟩, ⟨bm, ob, b1, b2, fun y => ?_, fun y => ?_, hidT_get b3 (free b3 (fun _ _ y => by rw [b6] at y; cases y) fun y => by rw [b6] at y; cases y), b4, b5, b6⟩, fun y => ?_⟩
      · rw [r2] at y
        cases y
        simp at r3
      · rw [y, g1] at b3
        cases b3
        rw [g2] at b6
        cases b6
      · rw [y, e] at b3
        cases b3
        cases b6
      · rw [y, e] at g1
        cases g1
        cases g2
    have e0 : Env0 P w K mg (hidT s1.heap H) callerA [] s1 H :=
      ⟨rfl, M, fun b o z => of_hidT z, Nat.le_of_eq (hidT_size _ _), trivial, fun b hb => absurd (show b ∈ ([] : List Addr) from hb) (by simp), hok, .of_eq hg⟩
    have run := (F _ KB (nsB hns) TB).run callerA [] s1 H ⟨[.ref a], []⟩ [.ref a] [.ref a] _ _ hr rfl e0 (hbind s1 (.ref a)) (.cons rfl .nil) (hsp H hH hS)
    refine codeAny_mono run fun r s' h => ?_
    rcases r with er | (_ | _ | _ | u)
    · exact (hCX H er s' h).elim
    · exact h.elim
    · exact h.elim
    · exact h.elim
    · obtain ⟨v, H', os, bare, un, hok', r', q⟩ := h
      cases (show v = .bl true from q)
      cases (show u = Value.bool true from r')
      have stays : ∀ b o, b ∉ cs.map (·.2) → s1.heap.get? b = some o → s'.heap.get? b = some o := by
        intro b o hb z
        cases y : H b with
        | none => exact un.keep b o z y (fun y => absurd (show b ∈ ([] : List Addr) from y) (by simp)) (by simp)
        | some u =>
          rcases hO b u y with h | ⟨rfl, ob, xs, rfl⟩
          · exact absurd h hb
          · have e1 := (hok b _ y).1
            rw [z] at e1
            cases e1
            exact (hok' b _ (un.frzs b _ _ y)).1
      have grows : ∀ p ∈ cs, ∃ more : Array Value, s'.heap.get? p.2 = some { cls := .none, data := .fields more } := fun p hp => by
        obtain ⟨more, z⟩ := un.tbls p.2 #[] (hH p hp)
        exact ⟨_, hok' p.2 _ z⟩
      refine ⟨rfl, ⟨fun b o z => ?_, fun b o z => ?_⟩, os, bare⟩
      · by_cases hb : b ∈ cs.map (·.2)
        · obtain ⟨p, hp, rfl⟩ := mT hb
          obtain ⟨more, hm⟩ := grows p hp
          rw [tE p hp] at z
          cases z
          exact .inr (.inl ⟨((tC p hp).tab (tE p hp)).isCodeTable, rfl, #[], more, rfl, by rw [Array.empty_append]; exact hm⟩)
        · exact .inl (stays b o hb z)
      · by_cases hb : b ∈ cs.map (·.2)
        · obtain ⟨p, hp, rfl⟩ := mT hb
          obtain ⟨more, hm⟩ := grows p hp
          exact ⟨_, hm⟩
        · exact ⟨o, stays b o hb z⟩
  cases hk : K.lookup a with
  | some o =>
    have z := KX a o hk
    rw [ha] at z
    cases z
    have at1 : ∀ b, scrT none (cs.map (·.2)) b = if b ∈ cs.map (·.2) then some (.tbl #[]) else none := fun b => rfl
    refine go (scrT none (cs.map (·.2))) (fun p hp => ?_) (fun b u z => ?_) (Or.inr ⟨_, vs.toArray, _, hk, rfl, rfl, rfl, by rw [List.size_toArray, hi.length]; exact hl, by simpa using rv⟩) (fun b u z => ?_) fun z => ?_
    · rw [at1]
      exact if_pos (List.mem_map.mpr ⟨p, hp, rfl⟩)
    · rw [at1] at z
      by_cases hb : b ∈ cs.map (·.2)
      · exact .inl hb
      · rw [if_neg hb] at z
        cases z
    · rw [at1] at z
      by_cases hb : b ∈ cs.map (·.2)
      · rw [if_pos hb] at z
        cases z
        exact tA hb
      · rw [if_neg hb] at z
        cases z
    · rw [at1, if_neg aN] at z
      exact absurd rfl z
  | none =>
    have hit : scrT (some (a, .frz { cls := .type "list", data := .seq vs.toArray } (.lst (ns.map V.int)))) (cs.map (·.2)) a = some (.frz { cls := .type "list", data := .seq vs.toArray } (.lst (ns.map V.int))) := if_pos rfl
    have miss : ∀ {b : Addr}, b ≠ a → scrT (some (a, .frz { cls := .type "list", data := .seq vs.toArray } (.lst (ns.map V.int)))) (cs.map (·.2)) b = if b ∈ cs.map (·.2) then some (.tbl #[]) else none := fun z => if_neg fun y => z (Option.some.inj y).symm
    refine go (scrT (some (a, .frz { cls := .type "list", data := .seq vs.toArray } (.lst (ns.map V.int)))) (cs.map (·.2))) (fun p hp => ?_) (fun b u z => ?_) (Or.inl (Or.inr ⟨_, hit⟩)) (fun b u z => ?_) fun _ => hk
    · have h : p.2 ∈ cs.map (·.2) := List.mem_map.mpr ⟨p, hp, rfl⟩
      rw [miss fun y => aN (y ▸ h)]
      exact if_pos h
    · by_cases hba : b = a
      · cases hba
        rw [hit] at z
        cases z
        exact .inr ⟨rfl, _, _, rfl⟩
      · rw [miss hba] at z
        by_cases hb : b ∈ cs.map (·.2)
        · exact .inl hb
        · rw [if_neg hb] at z
          cases z
    · by_cases hba : b = a
      · cases hba
        rw [hit] at z
        cases z
        exact ⟨ha, by rw [List.length_map]; exact hl, vs, _, rv, ha⟩
      · rw [miss hba] at z
        by_cases hb : b ∈ cs.map (·.2)
        · rw [if_pos hb] at z
          cases z
          exact tA hb
        · rw [if_neg hb] at z
          cases z
theorem walkGT {l : PySem.W.OpenLaw} {n k : Nat} {q : Program} {loose : List Str} {XP : (Str → Option Value) → Heap → Prop} {YP : World → Heap → Prop} {d : DefRec} {CX : CXT} {x : Str}
    (hn : l.most = some n) (hn2 : n ≤ sizeLine) (hdf : d.params.defaults = []) (hr : Room k callerA)
    (F : ∀ (w : World) (mg : Str → Option Value) (fa : Addr) (h : Heap), YP w h → h.Ns mainGlobals mg → mg d.name = some (.ref fa) →
      ∃ (K : PySem.W.Frag) (fd : FuncData) (cs : List (Addr × Addr)) (sp : Sp), K.In h ∧ (∀ p ∈ cs, h.get? p.2 = some { cls := .none, data := .fields #[] }) ∧ (∀ p ∈ cs, K.lookup p.2 = none) ∧ (∀ p ∈ cs, PySem.W.CodeHd h p.1 p.2) ∧ (∀ (s : Shared) (u : Value), BindsTo s fd ⟨[u], []⟩ [(x, u)]) ∧
        (∀ (H : Hp) (a : Addr) (ns : List Int), ns.length ≤ n → (∀ p ∈ cs, H p.2 = some (.tbl #[])) → SqL K H a (ns.map V.int) → sp [.ref a] H (fun v _ => v = .bl true) fun _ _ _ => False) ∧
        ∀ base : Heap, K.In base → base.Ns mainGlobals mg → (∀ p ∈ cs, TabB base mg p.1 p.2) → FnG l.prog w K mg base CX k fa fd [x] sp)
    (hCX : ∀ (H : Hp) (s : Shared) (e : Value) (s' : Shared), CX [] H s (fun _ _ _ => False) e s' → False) :
    PySem.W.WalkO q loose XP YP l.row.toRowW d [] (fun f vs => PySem.call f vs) := by
  refine Att.attach_call hn hdf fun w s0 s1 mg mb fa o pm cd doc a vs ns G Y ho hd hcd hmg hobj hints hlen hg => ?_
  obtain ⟨K, fd, cs, sp, KX, t1, t2, t3, hb, hsp, hF⟩ := F w mg fa _ Y G.T.g hmg
  exact lawCallGT KX G.T.g G.T.b G.T.builtins G.T.nolimit hg t1 t2 t3 G.T.bmain hobj hints (Nat.le_trans hlen hn2) hr hF hb (fun H hT hS => hsp H a ns hlen hT hS) fun H e s' => hCX H s1 e s'
end Xr
set_option maxHeartbeats 4000000
/-! a text times a number; a list the other way round -/
namespace Xr
open PySem PySem.Spec PyProof.Rows L2
def repS (a : Str) (k : Int) : Str := ⟨(List.replicate k.toNat a.cps).foldl (· ++ ·) #[]⟩
section
variable {X : Cx}
theorem op_repS : OpR X (binaryOp .Mult) (fun x y H Q => ∃ a k, x = .str a ∧ y = .int k ∧ 2 ≤ k ∧ k ≤ 1000 ∧ 1 ≤ a.length ∧ a.length ≤ 1000 ∧ (repS a k).length ≤ sizeLine ∧ Q (.str (repS a k)) H) := by
  intro pins s σ H x y v u Q I rx ry h
  obtain ⟨a, k, rfl, rfl, k1, k2, a1, a2, hs, q⟩ := h
  obtain ⟨t, rfl⟩ := rx
  obtain ⟨t', rfl⟩ := ry
  have e3 : (k == 1 || a.length == 0) = false := by
    have z1 : (k == 1) = false := beq_eq_false_iff_ne.mpr (by omega)
    have z2 : (a.length == 0) = false := beq_eq_false_iff_ne.mpr (by omega)
    rw [z1, z2]
    rfl
  have tl : Builtin.Str.tooLong (a.length * k.toNat) = false := by
    have z : a.length * k.toNat ≤ 1000 * 1000 := Nat.mul_le_mul a2 (by omega)
    unfold Builtin.Str.tooLong
    rw [sizeLine_eq]
    exact decide_eq_false (by omega)
  refine P.mul_str (by rw [decide_eq_false (by omega), decide_eq_false (by omega)]; rfl) (fun _ _ => ?_) (fun _ _ => tl) ?_
  · have : (1000 : Int) ≤ (2 ^ 63 - 1) / k := Int.le_ediv_of_mul_le (by omega) (by omega)
    omega
  · rw [if_neg (by omega), e3, if_neg (by simp)]
    exact ⟨hs, ⟨.str (repS a k), H, I.tok _, ⟨_, rfl⟩, q⟩⟩
theorem fm_some {α β : Type} {f : α → Option β} {g : α → β} : ∀ {l : List α}, (∀ k ∈ l, f k = some (g k)) → l.filterMap f = l.map g
  | [], _ => rfl
  | k :: l, h => by
    rw [List.filterMap_cons, h k (List.mem_cons_self ..), fm_some fun j hj => h j (List.mem_cons_of_mem _ hj)]
    rfl
theorem pick_rev (its : List Value) : slicePick its.toArray none none (some (-1)) = its.reverse.toArray := by
  have hb : sliceBounds none none (some (-1)) its.length = ((its.length : Int) - 1, -1, -1) := by
    unfold sliceBounds
    simp
  unfold slicePick
  rw [List.size_toArray, hb]
  dsimp only
  congr 1
  have hr : sliceRange ((its.length : Int) - 1) (-1) (-1) = (List.range its.length).map fun k => its.length - 1 - k := by
    unfold sliceRange
    rw [if_neg (by omega)]
    by_cases h : its.length = 0
    · rw [h]
      rfl
    · rw [if_pos (by omega)]
      have e : (((its.length : Int) - 1 - -1 - -1 - 1) / (- -1)).toNat = its.length := by
        have : ((its.length : Int) - 1 - -1 - -1 - 1) / (- -1) = (its.length : Int) := by
          rw [show (- -1 : Int) = 1 from rfl, Int.ediv_one]
          omega
        rw [this]
        omega
      show List.map (fun (k : Nat) => ((its.length : Int) - 1 + -1 * (k : Int)).toNat) (List.range (((its.length : Int) - 1 - -1 - -1 - 1) / (- -1)).toNat) = _
      rw [e]
      refine List.map_congr_left fun k hk => ?_
      have := List.mem_range.mp hk
      omega
  rw [hr]
  refine List.ext_getElem? fun i => ?_
  rw [List.filterMap_map]
  have e2 : (List.range its.length).filterMap ((fun x => its.toArray[x]?) ∘ fun k => its.length - 1 - k) = (List.range its.length).map fun k => its.reverse.getD k .none := by
    refine fm_some fun k hk => ?_
    have := List.mem_range.mp hk
    show its.toArray[its.length - 1 - k]? = some (its.reverse.getD k .none)
    rw [List.getElem?_toArray, List.getD_eq_getElem?_getD, List.getElem?_reverse this, List.getElem?_eq_getElem (by omega)]
    rfl
  rw [e2, List.getElem?_map]
  by_cases hi : i < its.length
  · rw [List.getElem?_range hi]
    show some (its.reverse.getD i .none) = _
    rw [List.getD_eq_getElem?_getD, List.getElem?_reverse hi, List.getElem?_eq_getElem (by omega)]
    rfl
  · rw [List.getElem?_eq_none (by simp; omega), List.getElem?_eq_none (by simp; omega)]
    rfl
/-- e[::-1] of a list -/
theorem pe_revL {e st : Expr} {te : TE} {p2 pos : Pos} (he : PE X e te) (hst : PE X st (fun _ H Q => Q (.int (-1)) H)) : PE X (.Subscript e (.Slice none none (some st) p2) pos) (fun σ H Q => te σ H fun x H1 => ∃ a xs, x = .ref a ∧ SqL X.K H1 a xs ∧ ∀ p, H1 p = none → Q (.ref p) (upd H1 p (.lst xs.reverse))) := by
  refine ⟨fun pins s σ H Q I h => ?_⟩
  refine Subscript_ (thn (he.run pins s σ H _ I h) fun v s1 ⟨x, H1, I1, r1, a, xs, ex, hx, q⟩ => ?_)
  subst ex
  obtain rfl : v = Value.ref a := r1
  refine wpAny_Slice ?_
  rw [evalPart_none, evalPart_some]
  refine wpAny_pure (wpAny_pure (thn (hst.run pins s1 σ H1 (fun v H2 => v = .int (-1) ∧ H2 = H1) I1 ⟨rfl, rfl⟩) fun u s3 ⟨y, H3, I3, r3, ey, eH⟩ => ?_))
  subst ey eH
  obtain ⟨t, rfl⟩ := r3
  have I4 : Inv X pins σ H3 { s3 with heap := s3.heap.push { cls := .type "slice", data := .fields #[.none, .none, .int (-1) t] } } := I3.kept (t' := s3.toks) fun b ob q => Heap.get?_push_of_some _ q
  obtain ⟨its, r, ht, hz⟩ := I4.list hx
  have hlen := r.length
  show wpAny (model X.prog X.w) X.A (subscriptTail e (.Slice none none (some st) p2) (.ref a) (.ref s3.heap.objs.size)) (EP X pins σ Q) X.xe _
  refine tail_any (ops := [.ref a, .ref s3.heap.objs.size]) (T := "list") (id := "list.__getitem__") ht.isList.typeIs slot_list_getitem.lookup ?_ (by with_unfolding_all rfl)
  refine wpAny_getItem_list_slice ht.isList (Heap.IsSliceOf.new ..) .none .none (.int (-1) t) (by simp) ?_ (by rw [List.size_toArray] <;> omega)
  rw [pick_rev]
  refine ⟨.ref _, _, I4.laid (t' := s3.toks) (o := .lst xs.reverse) (fun b ob q => Heap.get?_push_of_some _ q) (Nat.le_refl _) ?_, rfl, q _ (I4.hok.fresh (Nat.le_refl _))⟩
  exact ⟨by rw [List.length_reverse]; exact hz, _, 0, vals_rev r, Heap.get?_push_size _ rfl⟩
theorem pe_m1 {j : Nat} {p1 p2 : Pos} : PE X (.UnaryOp .USub (.Constant (.int 1) j p1) p2) (fun _ H Q => Q (.int (-1)) H) := ⟨fun pins s σ H Q I h => (pe_un un_neg pe_int).run pins s σ H Q I ⟨1, rfl, h⟩⟩
/-- d != e, dicts of flat values -/
def rNeDF : R2 := fun x y H Q => ∃ a b ks ls, x = .ref a ∧ y = .ref b ∧ H a = some (.dK ks) ∧ H b = some (.dK ls) ∧ (∀ p ∈ ks, flatV p.2 = true) ∧ (∀ p ∈ ls, flatV p.2 = true) ∧ Q (.bl (!(ks.length == ls.length && subK ks ls))) H
theorem op_neDF (hu : X.A.units < cLine) : OpR X (compareOp .NotEq) rNeDF := by
  intro pins s σ H x y v u Q I rx ry h
  obtain ⟨a, b, ks, ls, rfl, rfl, ea, eb, fa, fb, q⟩ := h
  obtain rfl : v = Value.ref a := rx
  obtain rfl : u = Value.ref b := ry
  obtain ⟨_, ya, va, ra, da⟩ := (show ObjOk X.prog X.w H s.heap a (.dK ks) from I.hok a _ ea)
  obtain ⟨_, yb, vb, rb, db⟩ := (show ObjOk X.prog X.w H s.heap b (.dK ls) from I.hok b _ eb)
  exact PySem.W.keq_ne (knd := mixKind X.prog X.w) ya yb da db hu (fun _ => hits_sub rb fb ra fa) (fin_bl I q (by rw [← ra.length, ← rb.length]))
end
end Xr
set_option maxHeartbeats 4000000
/-! x(lambda: ..) with x known as a def; ExtN and Same -/
namespace Xr
open PySem PySem.Spec PyProof.Rows L2 LamX
theorem pe_lamF {X : Cx} {T : List (Addr × Str)} {TT : (XK → Hp → VK → Prop) → Hp → VK → Prop} {x a : Str} {g c Pt : Addr} {k : Nat} {pg : Arguments} {bg : List Stmt} {sg : Scope} {kws : List (Str × V)} {fd : FuncData} {Ng : List Str}
    {params : Arguments} {body : Expr} {scope : Scope} {t : XK → TE} {p lpos pos : Pos} (F : FunD X.K x x pg bg sg [] kws g fd) (hb : L2.Binds X.K fd [a] []) (hg : Gl X x) (hm : X.mg x = some (.ref g)) (Sg : FnScope Ng [a] sg) (hNg : Ng[0]? = some a) (hva : Vis sg a)
    (hG : ∀ cdv, GivesTo X Ng x sg g cdv bg a (X.env.qual ++ "<lambda>") TT)
    (TB : TabB X.base X.mg c Pt) (hcode : X.env.code = .ref c) (hmT : (Pt, X.env.qual ++ "<lambda>") ∈ T) (hu : ∀ p ∈ T, p.1 = Pt → p.2 = X.env.qual ++ "<lambda>") (hr : Room (k + 2) X.A) (L : LamS X.env.scope scope)
    (hbody : ∀ (A : Around) (outer : List Env) (s : Shared) (H : Hp) (E : XK) (f c' : Addr), Room k (A.deeper (lamEnv X scope s.heap.objs.size f c')) → PE (lamCx X A outer s H E scope f c') body (t E))
    (hdef : defaultsOf params X.env = ([], []) := by rfl)
    (hbind : ∀ (q : Str) (cl : List (Str × Addr)) (pm cv ctv : Value), bindArgs (PySem.W.kla_fn "<lambda>" q params body scope cl pm cv ctv) ⟨[], []⟩ = pure [] := by intros; rfl)
    (hdb : (x == ("__debug__" : Str)) = false := by decide) (hd : (a == ("__debug__" : Str)) = false := by decide) (hcd : (a == ("__classdict__" : Str)) = false := by decide) :
    PE X (.Call (.Name x p) [.Lambda params body scope lpos] [] pos) (tLam T TT t) := by
  obtain ⟨oc, od, dV, kV, doc, pm, an, cdv, ct, osl, rfl, lk, hcg, _, _⟩ := F.ex
  exact pe_lamcall hg hm F.kp lk hcg hb Sg hNg hva (hG cdv) TB hcode hmT hu hr L hdef hbind hbody hdb hd hcd
theorem ExtN.same {H H1 H2 : Hp} (a : ExtN H H1) (s : Same H1 H2) : ExtN H H2 := fun b o h n => s b o (a b o h n)
theorem Same.extN {H H1 H2 : Hp} (s : Same H H1) (a : ExtN H1 H2) : ExtN H H2 := fun b o h n => a b o (s b o h) n
theorem Same.toN {H H1 : Hp} (s : Same H H1) : ExtN H H1 := fun b o h _ => s b o h
/-- a wish for slots of the right length alone -/
theorem takes_len {X : Cx} {W : WX} {n : Nat} (hn : X.N.length = n) (tk : Takes X W) : Takes X (fun cls d σ H => σ.length = n → W cls d σ H) := fun u s' ⟨a, B, sI, pins, σ, H, cls, d, e, I, nb, up, sky, na, os, ag, w⟩ =>
  tk u s' ⟨a, B, sI, pins, σ, H, cls, d, e, I, nb, up, sky, na, os, ag, w (I.len.trans hn)⟩
theorem tabs_put {T : List (Addr × Str)} {H : Hp} {l : Addr} {xs : List V} {o : HO} (t : Tabs T H) (h : H l = some (.lst xs)) : Tabs T (upd H l o) := fun p hp => by
  obtain ⟨ps, h1, h2, h3⟩ := t p hp
  have n1 : p.1 ≠ l := fun z => by rw [z, h] at h1; cases h1
  refine ⟨ps, (upd_ne n1).trans h1, h2, fun pos cv hc => ?_⟩
  obtain ⟨c, e1, e2⟩ := h3 pos cv hc
  have n2 : c ≠ l := fun z => by
    rw [z, h] at e2
    have e3 := Option.some.inj e2
    unfold CodeO at e3
    cases e3
  exact ⟨c, e1, (upd_ne n2).trans e2⟩
theorem extN_put {H H1 H2 : Hp} {l : Addr} {o : HO} (a : ExtN H H1) (n : H1 l = none) (b : ExtN H H2) : ExtN H (upd H2 l o) := fun c u h nt => by
  have z := a c u h nt
  rw [upd_ne (ne_of_none z n)]
  exact b c u h nt
end Xr
set_option maxHeartbeats 4000000
/-! f-strings of instances of own classes -/
namespace Xr
open PySem PySem.Spec PyProof.Rows L2
section
open PySem.W
variable {prog : Program} {w : World} {A : Around} {E : Value → Shared → Prop} {s : Shared} {K : PySem.W.Frag} {x C f : Addr} {ox : Obj} {od : Option Obj}
theorem check_met {i o n : String} {me : Value} {r : List Value} {q : Unit → Shared → Prop} (hk : builtinKind i = some .method) (hs : splitId i = some (o, n)) (hi : Looks (model prog w) s.heap (isInstance me (.type o)) true) (ha : argsOk i ⟨me :: r, []⟩) (hq : q () s) :
    wpAny (model prog w) A (checkBuiltinCall i ⟨me :: r, []⟩) q E s := by
  simp only [checkBuiltinCall, hk, hs]
  refine wpAny_bind (hi.here ?_)
  rw [Bool.not_true, if_neg Bool.false_ne_true]
  cases hg : Manifest.signature? i with
  | none => exact wpAny_pure hq
  | some g =>
    have h2 : Bind.checkArgs i g ⟨me :: r, []⟩ = pure () := by simpa only [argsOk, hg] using ha
    have h3 : wpAny (model prog w) A (Bind.checkArgs i g ⟨me :: r, []⟩) q E s := by rw [h2]; exact wpAny_pure hq
    exact h3
theorem fmt_K {Q : Value → Shared → Prop} (hu : A.units + 1 < cLine) (X : K.In s.heap) (I : InstAt s.heap x ox C od) (ho : mroIn K C (.type "object") = some true) (hs : findIn K (.ref C) "__format__" = some (some (.builtin "object.__format__")))
    (he : findIn K (.ref C) "__str__" = some (some (.ref f))) (hf : isFn K (.ref f) = true)
    (h : wpAny (model prog w) A.in1 (call (.ref f) [.ref x]) (fun r s' => ∃ y t, r = .str y t ∧ Q r s') E { s with toks := s.toks + 1 }) : wpAny (model prog w) A (formatField (.ref x) Str.empty) Q E s := by
  have sub : Looks (model prog w) s.heap (isInstance (.ref x) (.type "object")) true := I.type.andThen (looks_mroIn X ho)
  have e : formatField (.ref x) Str.empty = holding [.ref x] (pyFormat (.ref x) Str.empty) := rfl
  rw [e]
  refine wpAny_holding ?_
  unfold pyFormat
  refine wpAny_bind (wpAny_mkStr ?_)
  have X' : K.In ({ s with toks := s.toks + 1 } : Shared).heap := X
  have I' : InstAt ({ s with toks := s.toks + 1 } : Shared).heap x ox C od := I
  have sub' : Looks (model prog w) ({ s with toks := s.toks + 1 } : Shared).heap (isInstance (.ref x) (.type "object")) true := sub
  have ob : ∀ self : Value, bindSpecial (.builtin "object.__format__") self = pure (.builtin "object.__format__", [self]) := fun self => by kernel_rfl
  refine wpAny_bind (m := callSpecial? (.ref x) (Str.ofString "__format__") [.str Str.empty s.toks]) ?_
  refine wpAny_bind (wpAny_bind (I'.type.here ((looks_findIn X' hs).here (wpAny_holding ?_))))
  rw [ob]
  refine wpAny_bind (wpAny_pure (wpAny_bind ?_))
  have kd : builtinKind "object.__format__" = some .method := by decide +kernel
  have sp : splitId "object.__format__" = some ("object", "__format__") := by decide +kernel
  show wpAny (model prog w) A (call (.builtin "object.__format__") [.ref x, .str Str.empty s.toks]) _ _ _
  refine wpAny_call ?_
  refine codeAny_call_builtin (by decide +kernel) PySem.F.entry_object_format ?_
  have ha := PySem.F.args_object_format_2 (.ref x) (.str Str.empty s.toks)
  have go := fun q => @check_met prog w A.in1 (fun e s' => E e s') { s with toks := s.toks + 1 } "object.__format__" "object" "__format__" (.ref x) [.str Str.empty s.toks] q kd sp sub' ha
  refine go _ ?_
  show wpAny _ _ (do let _shown ← typeNameOf (.str Str.empty s.toks); (do ret (← pyStrObj (.ref x)))) _ _ _
  refine wpAny_bind (wpAny_typeNameOf (T := "str") (typeIs_str _ _ _) (by decide) fun _ => ?_)
  refine wpAny_bind (m := pyStrObj (.ref x)) ?_
  unfold pyStrObj
  refine wpAny_bind (m := cRoomFor _ _) (wpAny_cRoomFor hu ?_)
  refine wpAny_bind (m := callSpecial? (.ref x) (Str.ofString "__str__")) (special_fn X' I' he (beq_iff_eq.mp hf) (wpAny_mono h (fun r s' hr => ?_) fun _ _ y => y))
  obtain ⟨y, t, rfl, hq⟩ := hr
  refine wpAny_bind (wpAny_isInstance (T := "str") (b := true) rfl isSubtype_str_str (wpAny_pure (wpAny_pure ?_)))
  exact wpAny_pure (wpAny_bind (wpAny_isInstance (T := "str") (b := true) rfl isSubtype_str_str (wpAny_pure hq)))
end
section
variable {X : Cx} {CX : CXT} {k : Nat} {f C : Addr} {sp : Sp} {E : XK} {e : Expr} {te : TE} {pos : Pos}
/-- {x}, x an instance of the class at C -/
def tFmtO (C : Addr) (sp : Sp) (E : XK) (te : TE) : TE := fun σ H Q => te σ H fun x H1 => ∃ a dx fs, x = .ref a ∧ H1 a = some (.ins C dx fs) ∧ sp [.ref a] H1 (fun v H' => ∃ x, v = .str x ∧ Q (.str x) H') E
theorem pe_fmtO (he : PE X e te) (c : PySem.W.mroIn X.K C (.type "object") = some true) (hf : PySem.W.findIn X.K (.ref C) "__format__" = some (some (.builtin "object.__format__"))) (h : Sm X.K C "__str__" f) (F : FnR X.prog X.w X.K X.mg X.base CX k f sp) (hr : Room (k + 1) X.A) (hx : Passes CX X E) :
    PE X (.FormattedValue e (-1) none pos) (tFmtO C sp E te) := by
  refine ⟨fun pins s σ H Q I q => ?_⟩
  refine wpAny_FormattedValue_plain (thn (he.run pins s σ H _ I q) fun v s1 hv => ?_)
  obtain ⟨x, H1, I1, r1, a, dx, fs, rfl, ha, q⟩ := hv
  cases r1
  obtain ⟨od, J⟩ := inst_of I1 ha
  have hr1 : Room k X.A.in1 := hr.in1
  have I2 := I1.tok (s1.toks + 1)
  refine fmt_K (by have := hr.units; omega) I1.kIn J c hf h.at_ h.fn (wpAny_mono (run_in (us := [.ref a]) (vs := [.ref a]) F hr1 rfl hx I2 (.cons rfl .nil) q) (fun w s' z => ?_) fun _ _ z => z)
  obtain ⟨v, H', I', rv, x, rfl, q'⟩ := z
  obtain ⟨t, rfl⟩ := rv
  exact ⟨x, t, rfl, .str x, H', I', ⟨t, rfl⟩, q'⟩
end
end Xr
set_option maxHeartbeats 4000000
/-! isinstance of a caught error with a tuple of classes; a class by a local name; own classes as the head tells them -/
namespace Xr
open PySem PySem.Spec PyProof.Rows L2
section
variable {X : Cx}
/-- isinstance(e, (C, ..)) of a caught error -/
def rIsRT (K : PySem.W.Frag) : List V → Hp → VK → Prop := fun xs H Q => ∃ (a C d tp : Addr) (fs : List (Str × V)) (cs : List V) (us : List Value) (b : Bool), xs = [.ref a, .ref tp] ∧ H a = some (exr a (.ref C) (some d)) ∧ H d = some (.xd fs) ∧ XiC K C ∧ H tp = some (.tup cs) ∧ Paired ClsV cs us ∧ PySem.W.kitAny K (.ref C) us = some b ∧ Q (.bl b) H
theorem call_isRT : CallR X (.builtin "isinstance") (rIsRT X.K) := by
  intro pins s σ H xs us Q I r h
  obtain ⟨a, C, d, tp, fs, cs, ws, b, rfl, ha, hd, T, ht, hc, e, q⟩ := h
  obtain ⟨u1, u2, rfl, r1, r2⟩ := vals2 r
  cases r1
  cases r2
  obtain ⟨ox, od, mA, J, hl, hr⟩ := exr_inst I.hok ha hd
  obtain ⟨_, its, rv, o, h1, h2, n, h3⟩ := (show ObjOk X.prog X.w H s.heap tp (.tup cs) from I.hok tp _ ht)
  obtain rfl := ClsV.all hc rv
  obtain ⟨oc, od', dt, sl⟩ := o
  dsimp only at h2 h3
  subst h2 h3
  exact PySem.W.kia_tup (PySem.W.kitx_exc T.cl T.ga T.gg T.exC T.ca T.sg T.tk T.ob) I.kIn J h1 e (fun z => nomatch z) fun tk => ⟨.bl b, H, I.tok tk, rfl, q⟩
end
section
variable {X : Cx} {CX : CXT} {k : Nat} {f C : Addr} {sp : Sp} {E : XK} {x : Str} {np pos : Pos} {e : Expr} {es : List Expr} {tf : TE} {t : TA}
/-- C(e, ..), the class at C by a local name -/
def tMakeV (C : Addr) (sp : Sp) (E : XK) (tf : TE) (t : TA) : TE := fun σ H Q => tf σ H fun c H1 => c = .ref C ∧ StX.tMakeR C sp E t σ H1 Q
theorem pe_makeV (M : Mk X.K C f) (F : FnR X.prog X.w X.K X.mg X.base CX k f sp) (hr : Room (k + 1) X.A) (hx : Passes CX X E) (hf : PE X (.Name x np) tf) (ha : PA X (e :: es) t)
    (he : starEach (e :: es) X.env = (false, eval e X.env) :: starEach es X.env := by rfl) (hpl : (backTo pos (starEach es X.env)).any (·.1) = false := by rfl) : PE X (.Call (.Name x np) (e :: es) [] pos) (tMakeV C sp E tf t) := by
  refine ⟨fun pins s σ H Q I h => wpAny_Call_Name_kw (thn (hf.run pins s σ H _ I h) fun u s1 ⟨c, H1, I1, rc, ec, q1⟩ => ?_)⟩
  subst ec
  cases rc
  exact PySem.W.callWith_K (h₀ := X.base) I.ok.mod.kin M.kp (thn (ha.run pos pins s1 σ H1 _ I1 q1) fun us s2 ⟨vs, H2, I2, r, q⟩ => ⟨I2.kIn, StX.run_makeR M F hr hx I2 r q⟩) he hpl
end
/-- an own plain class: its methods ms, its properties ps, its classmethods cs; the names fs are no attributes of the class -/
def ocB (K : PySem.W.Frag) (C : Addr) (ms ps cs fs : List Str) : Bool := plB K C && (ms.all (fun m => smB K C (He.ma K C m) m) && (ps.all (fun m => prB K C (He.ma K C m) (He5.wf K C "property" m) m) && (cs.all (fun m => cmB K C m) && (fs.all (fun m => He.eqO (PySem.W.findIn K (.ref C) m) (some none)) && mkB K C (He.ma K C "__init__")))))
structure OC (K : PySem.W.Frag) (C : Addr) (ms ps cs fs : List Str) : Prop where
  pl : Pl K C
  sm : ∀ m ∈ ms, Sm2 K C m (He.ma K C m)
  pr : ∀ m ∈ ps, PropOf K C m (He.ma K C m) (He5.wf K C "property" m)
  cm : ∀ m ∈ cs, CmF K C m
  no : ∀ m ∈ fs, NoAttr K C m
  mks : Mk K C (He.ma K C "__init__")
theorem ocB_ok {K : PySem.W.Frag} {C : Addr} {ms ps cs fs : List Str} (h : ocB K C ms ps cs fs = true) : OC K C ms ps cs fs := by
  obtain ⟨h1, h⟩ := He.ba h
  obtain ⟨h2, h⟩ := He.ba h
  obtain ⟨h3, h⟩ := He.ba h
  obtain ⟨h4, h⟩ := He.ba h
  obtain ⟨h5, h6⟩ := He.ba h
  exact ⟨plB_ok h1, fun m hm => smB_ok (List.all_eq_true.mp h2 m hm), fun m hm => prB_ok (List.all_eq_true.mp h3 m hm), fun m hm => cmB_ok (List.all_eq_true.mp h4 m hm), fun m hm => He.eqO_ok (List.all_eq_true.mp h5 m hm), mkB_ok h6⟩
/-- the class has object's own way for the method m -/
def obB (K : PySem.W.Frag) (C : Addr) (m : Str) (b : String) : Bool := He.eqO (PySem.W.findIn K (.ref C) m) (some (some (.builtin b)))
/-! ### strategies -/
abbrev aS (K : PySem.W.Frag) : Addr := He.ga K "Strategy"
def plainTs : List String := ["NoneType", "bool", "int", "str", "tuple", "list", "dict"]
def stgB (K : PySem.W.Frag) : Bool := ocB K (aS K) ["__eq__", "__str__"] [] ["month", "read"] ["name", "legs"] && (obB K (aT K) "__format__" "object.__format__" && (obB K (aL K) "__format__" "object.__format__" && (obB K (aS K) "__ne__" "object.__ne__" && (obB K (aS K) "__format__" "object.__format__" &&
  (decide (PySem.W.kitOne K (.ref (aS K)) (.ref (aS K)) = some true) && (decide (PySem.W.kitOne K (.ref (aT K)) (.ref (aS K)) = some false) && (decide (PySem.W.kitOne K (.ref (aS K)) (.ref (aL K)) = some false) && (plainTs.all (fun t => PySem.W.notFirst K (aS K) (.type t)) && (PySem.W.notFirst K (aS K) (.ref (aT K)) && (plainTs.all (fun t => decide (PySem.W.kitOne K (.type t) (.ref (aL K)) = some false)) && plainTs.all (fun t => decide (PySem.W.kitOne K (.type t) (.ref (aS K)) = some false))))))))))))
structure StF (K : PySem.W.Frag) : Prop where
  oc : OC K (aS K) ["__eq__", "__str__"] [] ["month", "read"] ["name", "legs"]
  fT : PySem.W.findIn K (.ref (aT K)) "__format__" = some (some (.builtin "object.__format__"))
  fL : PySem.W.findIn K (.ref (aL K)) "__format__" = some (some (.builtin "object.__format__"))
  ne : PySem.W.findIn K (.ref (aS K)) "__ne__" = some (some (.builtin "object.__ne__"))
  fS : PySem.W.findIn K (.ref (aS K)) "__format__" = some (some (.builtin "object.__format__"))
  kS : PySem.W.kitOne K (.ref (aS K)) (.ref (aS K)) = some true
  kT : PySem.W.kitOne K (.ref (aT K)) (.ref (aS K)) = some false
  kL : PySem.W.kitOne K (.ref (aS K)) (.ref (aL K)) = some false
  nt : ∀ t ∈ plainTs, PySem.W.notFirst K (aS K) (.type t) = true
  nT : PySem.W.notFirst K (aS K) (.ref (aT K)) = true
  pL : ∀ t ∈ plainTs, PySem.W.kitOne K (.type t) (.ref (aL K)) = some false
  pS : ∀ t ∈ plainTs, PySem.W.kitOne K (.type t) (.ref (aS K)) = some false
theorem stgB_ok {K : PySem.W.Frag} (h : stgB K = true) : StF K := by
  obtain ⟨h1, h⟩ := He.ba h
  obtain ⟨h2, h⟩ := He.ba h
  obtain ⟨h3, h⟩ := He.ba h
  obtain ⟨h4, h⟩ := He.ba h
  obtain ⟨h5, h⟩ := He.ba h
  obtain ⟨h6, h⟩ := He.ba h
  obtain ⟨h7, h⟩ := He.ba h
  obtain ⟨h8, h⟩ := He.ba h
  obtain ⟨h9, h⟩ := He.ba h
  obtain ⟨h10, h⟩ := He.ba h
  obtain ⟨h11, h12⟩ := He.ba h
  exact ⟨ocB_ok h1, He.eqO_ok h2, He.eqO_ok h3, He.eqO_ok h4, He.eqO_ok h5, of_decide_eq_true h6, of_decide_eq_true h7, of_decide_eq_true h8, fun t ht => List.all_eq_true.mp h9 t ht, h10, fun t ht => of_decide_eq_true (List.all_eq_true.mp h11 t ht), fun t ht => of_decide_eq_true (List.all_eq_true.mp h12 t ht)⟩
end Xr
set_option maxHeartbeats 4000000
/-! words read behind other words -/
namespace Xr
open PySem PySem.Spec PyProof.Rows L2
theorem word_sh {pre ws : List Str} {a : Nat} {x : Str} (h : wordAt ws a = .ok x) : wordAt (pre ++ ws) (pre.length + a) = .ok x := by
  unfold wordAt at h ⊢
  rw [List.getElem?_append_right (Nat.le_add_right ..), Nat.add_sub_cancel_left]
  cases e : ws[a]? with
  | none => rw [e] at h; cases h
  | some y => rw [e] at h; exact h
theorem sign_sh {pre ws : List Str} {a b : Nat} {f : Bool} {s : Int} (h : signAt ws a f = .ok (s, b)) : signAt (pre ++ ws) (pre.length + a) f = .ok (s, pre.length + b) := by
  unfold signAt at h ⊢
  cases hw : wordAt ws a with
  | error e => rw [hw] at h; cases h
  | ok x =>
    rw [hw] at h
    rw [word_sh hw]
    dsimp only at h ⊢
    by_cases h1 : x = "-"
    · rw [if_pos h1] at h ⊢
      cases h
      rfl
    · rw [if_neg h1] at h ⊢
      by_cases h2 : f = true
      · rw [if_pos h2] at h ⊢
        cases h
        rfl
      · rw [if_neg h2] at h ⊢
        by_cases h3 : x = "+"
        · rw [if_pos h3] at h ⊢
          cases h
          rfl
        · rw [if_neg h3] at h
          cases h
theorem size_sh {pre ws : List Str} {a b : Nat} {n : Int} (h : sizeAt ws a = .ok (n, b)) : sizeAt (pre ++ ws) (pre.length + a) = .ok (n, pre.length + b) := by
  unfold sizeAt at h ⊢
  cases hw : wordAt ws a with
  | error e => rw [hw] at h; cases h
  | ok x =>
    rw [hw] at h
    rw [word_sh hw]
    dsimp only at h ⊢
    cases hn : numIn x with
    | none =>
      rw [hn] at h
      cases h
      rfl
    | some m =>
      rw [hn] at h
      dsimp only at h ⊢
      by_cases h2 : m < 2
      · rw [if_pos h2] at h
        cases h
      · rw [if_neg h2] at h ⊢
        cases h
        rfl
theorem term_sh {pre ws : List Str} {a b : Nat} {acc acc' : Tab} (h : termAt ws a acc = .ok (acc', b)) : termAt (pre ++ ws) (pre.length + a) acc = .ok (acc', pre.length + b) := by
  unfold termAt at h ⊢
  cases h1 : signAt ws a acc.isEmpty with
  | error e => rw [h1] at h; cases h
  | ok q =>
    obtain ⟨s, a1⟩ := q
    rw [h1] at h
    rw [sign_sh h1]
    dsimp only at h ⊢
    cases h2 : sizeAt ws a1 with
    | error e => rw [h2] at h; cases h
    | ok q =>
      obtain ⟨n, a2⟩ := q
      rw [h2] at h
      rw [size_sh h2]
      dsimp only at h ⊢
      cases h3 : wordAt ws a2 with
      | error e => rw [h3] at h; cases h
      | ok m =>
        rw [h3] at h
        rw [word_sh h3]
        dsimp only at h ⊢
        by_cases h4 : nameS m = true ∧ m ∉ ks acc
        · rw [if_pos h4] at h ⊢
          cases h
          rfl
        · rw [if_neg h4] at h
          cases h
theorem from_sh {pre ws : List Str} (j : Nat) : ∀ (f a : Nat) (acc t : Tab), termsFrom ws f a acc = .ok t → termsFrom (pre ++ ws) (f + j) (pre.length + a) acc = .ok t
  | 0, _, _, _, h => by cases h
  | f + 1, a, acc, t, h => by
    rw [show f + 1 + j = (f + j) + 1 by omega]
    unfold termsFrom at h ⊢
    have hl : (pre ++ ws).length = pre.length + ws.length := List.length_append
    by_cases hc : acc.isEmpty = true ∨ a < ws.length
    · rw [if_pos hc] at h
      rw [if_pos (hc.elim .inl fun z => .inr (by omega))]
      cases hta : termAt ws a acc with
      | error e => rw [hta] at h; cases h
      | ok q =>
        obtain ⟨acc', at'⟩ := q
        rw [hta] at h
        rw [term_sh hta]
        exact from_sh j f at' acc' t h
    · rw [if_neg hc] at h
      rw [if_neg (fun z => hc (z.elim .inl fun y => .inr (by omega)))]
      exact h
theorem terms_sh {pre ws : List Str} {a : Nat} {t : Tab} (h : termsIn ws a = .ok t) : termsIn (pre ++ ws) (pre.length + a) = .ok t := by
  unfold termsIn at h ⊢
  rw [List.getElem?_append_right (Nat.le_add_right ..), Nat.add_sub_cancel_left]
  have hl : (pre ++ ws).length = pre.length + ws.length := List.length_append
  by_cases h0 : ws[a]? = some ("0" : Str)
  · rw [if_pos h0] at h ⊢
    by_cases h1 : a + 1 < ws.length
    · rw [if_pos h1] at h
      cases h
    · rw [if_neg h1] at h
      rw [if_neg (by omega)]
      exact h
  · rw [if_neg h0] at h ⊢
    have z := from_sh (pre := pre) pre.length (ws.length + 1) a [] t h
    rw [hl, show pre.length + ws.length + 1 = ws.length + 1 + pre.length by omega]
    exact z
end Xr
set_option maxHeartbeats 4000000
/-! comparisons: a tuple with a text; by an own == within a block -/
namespace Xr
open PySem PySem.Spec PyProof.Rows L2
section
variable {X : Cx}
/-- x == y, scalars, or a tuple and a text -/
def rEqT (K : PySem.W.Frag) : R2 := fun x y H Q => (scal x y = true ∧ Q (.bl (decide (x = y))) H) ∨ ∃ a xs z, x = .ref a ∧ y = .str z ∧ SqT K H a xs ∧ Q (.bl false) H
theorem op_eqT (hu : X.A.units < cLine) : OpR X (compareOp .Eq) (rEqT X.K) := by
  intro pins s σ H x y v u Q I rx ry h
  rcases h with ⟨h1, h2⟩ | ⟨a, xs, z, rfl, rfl, ha, q⟩
  · exact op_eq pins s σ H x y v u Q I rx ry ⟨h1, h2⟩
  · obtain rfl : v = Value.ref a := rx
    obtain ⟨t, rfl⟩ := ry
    obtain ⟨its, _, ht, _⟩ := I.tuple ha
    exact SeqAt.RcAt.tuple_str z t ht hu _ _ _ _ ⟨.bl false, H, I, rfl, q⟩
theorem op_eqOK {CX : CXT} {k : Nat} {f C : Addr} {sp : Sp} {E : XK} (K : PySem.W.Frag) (eK : X.K = K) (h : Sm K C "__eq__" f) (F : FnR X.prog X.w X.K X.mg X.base CX k f sp) (hr : Room k X.A) (hx : Passes CX X E) : OpR X (compareOp .Eq) (rEqO K C sp E) := by
  subst eK
  exact op_eqO h F hr hx
end
end Xr
set_option maxHeartbeats 4000000
/-! super().__init__(e, .., k = v, ..); o.m(k = v); C(e, .., k = v, ..); match of a text -/
namespace Xr
open PySem PySem.Spec PyProof.Rows L2
abbrev supCallK (p0 p1 p2 p4 : Pos) (es : List Expr) (kws : List Keyword) : Expr := .Call (.Attribute (.Call (.Name "super" p0) [] [] p1) "__init__" p2) es kws p4
def SupEvK (p0 p1 p2 p4 : Pos) (es : List Expr) (kws : List Keyword) : Prop := ∀ env : Env, ∃ pl : Sem Bool, eval (supCallK p0 p1 p2 p4 es kws) env = (do
  let ov ← attributeBase (.Call (.Name "super" p0) [] [] p1) "__init__" env (eval (.Call (.Name "super" p0) [] [] p1) env)
  standAt p2.atName
  let (f, first) ← holding [ov] (getMethod ov "__init__" pl)
  callWith p4 f first (backTo p4 (starEach es env)) (backToKw p4 (keywordEach kws env)))
/-- a method's call with keywords, its receiver by attributeBase -/
theorem at_MethodCallK {M : Model} {A : Around} {E : Value → Shared → Prop} {s : Shared} {env : Env} {c : Code} {o : Expr} {name : Str} {apos pos : Pos} {args : List Expr} {kws : List Keyword} {pl : Sem Bool} {Q : Value → Shared → Prop}
    (he : eval (.Call (.Attribute o name apos) args kws pos) env = (do
      let ov ← attributeBase o name env (eval o env)
      standAt apos.atName
      let (f, first) ← holding [ov] (getMethod ov name pl)
      callWith pos f first (backTo pos (starEach args env)) (backToKw pos (keywordEach kws env))))
    (h : PySem.wpAt M A c (attributeBase o name env (eval o env)) (fun ov s1 => wpAny M A (getMethod ov name pl) (fun fx s2 => wpAny M A (callWith pos fx.1 fx.2 (backTo pos (starEach args env)) (backToKw pos (keywordEach kws env))) Q E s2) E s1) E s) :
    PySem.wpAt M A c (eval (.Call (.Attribute o name apos) args kws pos) env) Q E s := by
  rw [he]
  exact PySem.wpAt_bind (PySem.wpAt_mono h (fun ov s1 h1 => PySem.wpAt_of_wpAny (wpAny_bind (wpAny_standAt (wpAny_bind (wpAny_holding (wpAny_mono h1 (fun fx s2 h2 => h2) fun _ _ x => x)))))) fun _ _ x => x)
/-- super().__init__(..) behind its receiver -/
theorem sup_goK {X : Cx} {CX' : CXT} {k n : Nat} {ks : List Str} {σ : L2.St} {H : Hp} {s : Shared} {h1 : Heap} {C g a dx : Addr} {fs : List (Str × V)} {spG : Sp} {E' : XK} {Q : VK} {pl : Sem Bool} {p4 : Pos} {e : Expr} {es : List Expr} {kws : List Keyword} {t tk : TA} (I : Inv X [] σ H s) (ea : H a = some (.ins C dx fs)) (G : FnRK X.prog X.w X.K X.mg X.base CX' k g (n + 1) ks spG) (hr : Room k X.A) (hx : Passes CX' X E')
    (hs1 : h1.get? s.heap.objs.size = some (PySem.W.ks_superObj C a C)) (k1 : ∀ b o, s.heap.get? b = some o → h1.get? b = some o) (hcd : ∃ cd, PySem.W.clsIn X.K C = some cd) (up : PySem.W.ks_superIn X.K C C "__init__" = some (some (.ref g))) (tg : PySem.W.typeIn X.K (.ref g) = some (.type "function"))
    (fg : PySem.W.fnIn X.K g = true) (opq : PySem.W.nsIn X.K cStatics "thirdparty.any" = some none) (ha : PA X (e :: es) t) (hkw : PK X kws tk)
    (hall : (backToKw p4 (keywordEach kws X.env)).all (·.1.isSome) = true) (hks : (backToKw p4 (keywordEach kws X.env)).filterMap (·.1) = ks)
    (hpl : ((backTo p4 (starEach (e :: es) X.env)).any (·.1) || (backToKw p4 (keywordEach kws X.env)).any (·.1.isNone)) = false) (he : starEach (e :: es) X.env = (false, eval e X.env) :: starEach es X.env)
    (h : t σ H fun vs H1 => tk σ H1 fun zs H2 => vs.length = n ∧ zs.length = ks.length ∧ spG ((.ref a :: vs) ++ zs) H2 Q E') :
    wpAny (model X.prog X.w) X.A (getMethod (.ref s.heap.objs.size) "__init__" pl) (fun fx s2 => wpAny (model X.prog X.w) X.A (callWith p4 fx.1 fx.2 (backTo p4 (starEach (e :: es) X.env)) (backToKw p4 (keywordEach kws X.env))) (EP X [] σ Q) X.xe s2) X.xe { s with heap := h1 } := by
  have I1 : Inv X [(s.heap.objs.size, PySem.W.ks_superObj C a C)] σ H { s with heap := h1, toks := s.toks } := ClX.pin_new I k1 (Nat.le_refl _) hs1 (fun v z => nomatch z)
  obtain ⟨cd, hc⟩ := hcd
  have X1 : X.K.In h1 := I1.kIn
  obtain ⟨od0, J0⟩ := inst_of I1 ea
  unfold PySem.W.ks_superIn at up
  rw [hc] at up
  obtain ⟨of, hof, hofc⟩ : ∃ of, h1.get? g = some of ∧ of.cls = .type "function" := by
    have ht' : (X.K.lookup g).map (·.cls) = some (.type "function") := tg
    cases z : X.K.lookup g with
    | none => rw [z] at ht'; cases ht'
    | some of => rw [z] at ht'; exact ⟨of, X1 _ _ z, Option.some.inj ht'⟩
  obtain ⟨hh, gg, d, t', os⟩ := s
  refine PySem.ks_wpAny_getMethod_super hs1 (PySem.W.looks_opaque X1 opq) (l₀ := cd.mro) (fun A Q E s k q => wpAny_bind ((PySem.W.looks_clsIn X1 hc) A _ E s k (wpAny_pure q))) rfl X1 up hof hofc (PySem.W.ks_ne X1 J0 hc) (by decide) ?_
  have I2 : Inv X [(h1.objs.size, PySem.W.methodObj (.ref g) (.ref a)), (hh.objs.size, PySem.W.ks_superObj C a C)] σ H ⟨h1.push (PySem.W.methodObj (.ref g) (.ref a)), gg, d, t' + 1, os⟩ :=
    ClX.pin_new (s := ⟨h1, gg, d, t', os⟩) (t' := t' + 1) I1 (fun _ _ z => Heap.get?_push_of_some _ z) (Nat.le_refl _) (Heap.get?_push_size h1 rfl) (fun v z => nomatch z)
  show wpAny _ _ (callWith p4 (.ref h1.objs.size) [] (backTo p4 (starEach (e :: es) X.env)) (backToKw p4 (keywordEach kws X.env))) _ _ _
  refine PySem.W.callWith_of hpl (PySem.W.keeps_M fg) (evalArgs_kw2 hall (thn (ha.run p4 _ _ σ H _ I2 h) fun us s3 ⟨vs, H1, I3, r, q⟩ => thn (hkw.run p4 _ s3 σ H1 _ I3 q) fun ws s4 ⟨zs, H2, I4, rz, l1, l2, q2⟩ => ⟨⟨ClX.pin_at I4, I4.kIn⟩, ?_⟩) he)
  rw [hks]
  have z : wpAny (model X.prog X.w) X.A (call (.ref h1.objs.size) us (ks.zip ws)) (EP X [(h1.objs.size, PySem.W.methodObj (.ref g) (.ref a)), (hh.objs.size, PySem.W.ks_superObj C a C)] σ Q) X.xe s4 := by
    refine wpAny_call (PySem.W.method_call (ClX.pin_at I4) (codeAny_mono (G X.A X.stack s4 H2 (.ref a :: us) ws (.ref a :: vs) zs Q E' hr I4.env0 (.cons rfl r) rz (by rw [List.length_cons, l1]) l2 q2) fun r s' hq => ?_))
    cases r with
    | error e => exact hx _ σ H2 s4 e s' I4 hq
    | ok fl =>
      cases fl with
      | ret u => exact I4.after hq
      | next => exact False.elim hq
      | brk => exact False.elim hq
      | cont => exact False.elim hq
  exact thn z fun _ _ y => ClX.unpinE (ClX.unpinE y)
section
variable {CX CX' : CXT} {P : Program} {w : World} {K : PySem.W.Frag} {mg : Str → Option Value} {base : Heap} {k n : Nat} {ks : List Str} {f C g : Addr} {q : Str} {params : Arguments} {rest : List Stmt} {sc : Scope} {fd : FuncData} {N ps : List Str} {sp spG : Sp} {cda cc : Addr} {p0 p1 p2 p4 p5 : Pos} {e : Expr} {es : List Expr} {kws : List Keyword}
theorem fn_supN (T : SupF P K C f g q params (.Expr (supCallK p0 p1 p2 p4 (e :: es) kws) p5 :: rest) sc fd cda cc) (S : NdefX.NScope N (("self" : Str) :: ps) ["__class__"] sc) (hks : sc.names.lookup ("super" : Str) = some .globalImplicit) (ha : ∃ ar, (params.posonlyargs ++ params.args).head? = some ar ∧ ar.arg = "self") (ev : SupEvK p0 p1 p2 p4 (e :: es) kws)
    (G : FnRK P w K mg base CX' k g (n + 1) ks spG) (len : ∀ vs H Q E, sp vs H Q E → vs.length = ps.length + 1)
    (hkw1 : ∀ env, (backToKw p4 (keywordEach kws env)).all (·.1.isSome) = true) (hkw2 : ∀ env, (backToKw p4 (keywordEach kws env)).filterMap (·.1) = ks)
    (hkw3 : ∀ env, ((backTo p4 (starEach (e :: es) env)).any (·.1) || (backToKw p4 (keywordEach kws env)).any (·.1.isNone)) = false) (hkw4 : ∀ env, starEach (e :: es) env = (false, eval e env) :: starEach es env)
    (hbody : ∀ (A : Around) (outer : List Env) (s : Shared) (H : Hp) (vs : List V) (Q : VK) (E : XK), Room k (A.deeper (NdefX.envF (supNF q params (.Expr (supCallK p0 p1 p2 p4 (e :: es) kws) p5 :: rest) sc cda cc) f s.heap.objs.size)) → sp vs H Q E →
      ∃ a dx fs ws t tk u E', vs = .ref a :: ws ∧ H a = some (.ins C dx fs) ∧ Passes CX' (NdefX.ncx CX P w K mg base N (supNF q params (.Expr (supCallK p0 p1 p2 p4 (e :: es) kws) p5 :: rest) sc cda cc) f A outer s H E) E' ∧
        PA (NdefX.ncx CX P w K mg base N (supNF q params (.Expr (supCallK p0 p1 p2 p4 (e :: es) kws) p5 :: rest) sc cda cc) f A outer s H E) (e :: es) t ∧
        PK (NdefX.ncx CX P w K mg base N (supNF q params (.Expr (supCallK p0 p1 p2 p4 (e :: es) kws) p5 :: rest) sc cda cc) f A outer s H E) kws tk ∧
        PSs (NdefX.ncx CX P w K mg base N (supNF q params (.Expr (supCallK p0 p1 p2 p4 (e :: es) kws) p5 :: rest) sc cda cc) f A outer s H E) rest u ∧
        t (NdefX.startF N vs [none]) H fun vs' H1 => tk (NdefX.startF N vs [none]) H1 fun zs H2 => vs'.length = n ∧ zs.length = ks.length ∧
          spG ((.ref a :: vs') ++ zs) H2 (fun _ H3 => u { nx := fun _ H' => Q .non H', rt := Q } (NdefX.startF N vs [none]) H3) E') :
    FnOk P w K mg base CX (k + 1) f fd (("self" : Str) :: ps) sp := by
  obtain ⟨kV, doc, pm, an, ct, oc, od, osl, rfl, lk⟩ := T.fn
  obtain ⟨cl, cld, csl, hcell⟩ := T.cell
  obtain ⟨ccl, cdd, vs0, ccs, tf, hcda, hvs⟩ := T.file
  obtain ⟨cd, hcd⟩ := T.cls
  obtain ⟨ar, har, hself⟩ := ha
  refine ⟨len, fun A outer s H args us vs Q E hr e0 hb r hsp => ?_⟩
  have hl := len _ _ _ _ hsp
  have keep0 : ∀ b o, base.get? b = some o → s.heap.get? b = some o := fun b o z => (e0.bs b o z).1
  have KX : K.In s.heap := e0.mod.kin.keeps keep0
  have hloc : ∀ y ∈ (("self" : Str) :: ps).zip us, sc.names.lookup y.1 = some .local := fun y hy => S.par _ (List.of_mem_zip (show (y.1, y.2) ∈ _ from hy)).1
  obtain ⟨a, dx, fs, ws, t, tk, u, E', rfl, ea, hx, hta, htk, hu, hg⟩ := hbody A outer s H vs Q E (hr.deeper _) hsp
  obtain ⟨ua, uw, rfl, ra, rw'⟩ : ∃ ua uw, us = ua :: uw ∧ RelV (.ref a) ua ∧ Vals ws uw := by
    cases r with
    | cons a b => exact ⟨_, _, rfl, a, b⟩
  cases ra
  refine PySem.ks_codeAny_call_defAt (fd := PySem.W.ksFn "__init__" q params (.Expr (supCallK p0 p1 p2 p4 (e :: es) kws) p5 :: rest) sc .none kV doc pm an (.ref cda) ct cc) (body := .Expr (supCallK p0 p1 p2 p4 (e :: es) kws) p5 :: rest) (binds := (("self" : Str) :: ps).zip (Value.ref a :: uw))
    hr.depth (KX _ _ lk) rfl (e0.mod.nolimit.keeps keep0) (PySem.W.codeRec_of KX T.code) rfl hb S.nocell hloc (fun h0 hns k0 => ?_) S.co S.gen S.kind
  show PySem.wpAt _ _ (.func (.Expr (supCallK p0 p1 p2 p4 (e :: es) kws) p5 :: rest) (PySem.W.ksEnv q sc s.heap.objs.size f (.ref cda) cc)) (execs (.Expr (supCallK p0 p1 p2 p4 (e :: es) kws) p5 :: rest) (PySem.W.ksEnv q sc s.heap.objs.size f (.ref cda) cc)) _ _ _
  have ok : ∀ y c, ([("__class__", cc)] : List (Str × Addr)).lookup y = some c → y = "__class__" ∧ c = cc := fun y c e => by
    by_cases hy : y = "__class__"
    · subst hy
      simp [List.lookup] at e
      exact ⟨rfl, e.symm⟩
    · have : (y == ("__class__" : Str)) = false := beq_eq_false_iff_ne.mpr hy
      simp [List.lookup, this] at e
  have cells : NdefX.CellsAt [("__class__", cc)] ["__class__"] [none] s.heap H := by
    refine ⟨rfl, fun y c e => ?_, fun x y c e1 e2 => (ok x c e1).1.trans (ok y c e2).1.symm, fun i y e => ?_⟩
    · rw [(ok y c e).2]
      have z := e0.mod.kin _ _ hcell
      exact ⟨(e0.bs _ _ z).2, _, _, (e0.bs _ _ z).1, rfl⟩
    · cases i with
      | zero =>
        cases e
        exact ⟨cc, by simp [List.lookup], fun v e => by cases e⟩
      | succ i => cases e
  have I0 : Inv (NdefX.ncx CX P w K mg base N (supNF q params (.Expr (supCallK p0 p1 p2 p4 (e :: es) kws) p5 :: rest) sc cda cc) f A outer s H E) [] (NdefX.startF N (.ref a :: ws) [none]) H { s with heap := h0, toks := s.toks + ((("self" : Str) :: ps).zip (Value.ref a :: uw)).length } :=
    NdefX.inv_startN (F := supNF q params (.Expr (supCallK p0 p1 p2 p4 (e :: es) kws) p5 :: rest) sc cda cc) S hr.hd e0 hl (.cons rfl rw') cells hns k0
  have hint : interactive (PySem.W.ksEnv q sc s.heap.objs.size f (.ref cda) cc) = false := by
    unfold interactive
    simp [S.kind]
  obtain ⟨pl, hpl⟩ := ev (PySem.W.ksEnv q sc s.heap.objs.size f (.ref cda) cc)
  obtain ⟨od0, J0⟩ := inst_of I0 ea
  refine ks_wpAt_execs_cons (ks_wpAt_Expr_any (hi := hint) (at_MethodCallK hpl (supRecv (fd := PySem.W.ksFn "__init__" q params (.Expr (supCallK p0 p1 p2 p4 (e :: es) kws) p5 :: rest) sc .none kV doc pm an (.ref cda) ct cc) (ar := ar) S.kind hks (S.frk _ (List.mem_cons_self ..)) har
    (by rw [hself]; exact S.par _ (List.mem_cons_self ..)) e0.mod (fun b o z => k0 b o (keep0 b o z)) hns ?_ J0.at_ J0.cls (fun c z => by cases z) lk hcda hvs hcell hcd T.sub T.sup T.top (fun h1 hs1 k1 => ?_))))
  · have nd : (("self" : Str) :: ps).Nodup := by
      have z := S.nd.sublist (List.take_sublist ((("self" : Str) :: ps).length + (["__class__"] : List Str).length) N)
      rw [S.pre] at z
      exact (List.nodup_append.mp z).1
    rw [hself]
    exact NdefX.zip_look (i := 0) nd rfl rfl
  · have z := sup_goK (p4 := p4) (pl := pl) I0 ea G (hr.deeper _) hx hs1 k1 T.cls T.up T.tg T.fg T.opq hta htk (hkw1 _) (hkw2 _) (hkw3 _) (hkw4 _) hg
    refine wpAny_mono z (fun fx s2 z2 => ?_) fun _ _ z => z
    refine wpAny_mono z2 (fun v s3 z3 => ?_) fun _ _ z => z
    obtain ⟨v', H3, I3, _, q3⟩ := z3
    refine PySem.wpAt_of_wpAny (wpAny_mono (hu.run [] s3 _ H3 _ I3 q3) (fun fl s' hs => ?_) fun e s' hs => hs)
    rcases fl with _ | _ | _ | u'
    · obtain ⟨σ', H', J', q⟩ := hs
      exact ⟨V.non, H', J'.os, J'.bare, J'.base, J'.hok, rfl, q⟩
    · obtain ⟨_, _, _, q⟩ := hs
      exact q.elim
    · obtain ⟨_, _, _, q⟩ := hs
      exact q.elim
    · obtain ⟨v2, σ', H', J', rv, q⟩ := hs
      exact ⟨v2, H', J'.os, J'.bare, J'.base, J'.hok, rv, q⟩
end
/-! ### o.m(k = v) -/
def tMethK (C : Addr) (m : Str) (n : Nat) (sp : Sp) (E : XK) (ta : TE) (tk : TA) : TE := fun σ H Q => ta σ H fun x H1 => ∃ a dx fs, x = .ref a ∧ H1 a = some (.ins C dx fs) ∧ fs.lookup m = none ∧ tk σ H1 fun zs H2 => zs.length = n ∧ sp ([.ref a] ++ zs) H2 Q E
section
variable {X : Cx} {CX : CXT} {k n : Nat} {f C : Addr} {sp : Sp} {E : XK} {o e : Expr} {es : List Expr} {m x : Str} {pos apos p : Pos} {ta : TE} {t tk : TA} {ks : List Str} {kws : List Keyword}
theorem run_fnRK {pins : List (Addr × Obj)} {σ : L2.St} {H : Hp} {s : Shared} {Q : VK} {us ws : List Value} {vs zs : List V} (F : FnRK X.prog X.w X.K X.mg X.base CX k f n ks sp) (hr : Room k X.A) (hx : Passes CX X E) (I : Inv X pins σ H s) (r : Vals vs us) (rz : Vals zs ws) (l1 : vs.length = n) (l2 : zs.length = ks.length) (h : sp (vs ++ zs) H Q E) :
    wpAny (model X.prog X.w) X.A (call (.ref f) us (ks.zip ws)) (EP X pins σ Q) X.xe s := by
  refine wpAny_call (codeAny_mono (F X.A X.stack s H us ws vs zs Q E hr I.env0 r rz l1 l2 h) fun r s' hq => ?_)
  cases r with
  | error e => exact hx pins σ H s e s' I hq
  | ok fl =>
    cases fl with
    | ret u => exact I.after hq
    | next => exact False.elim hq
    | brk => exact False.elim hq
    | cont => exact False.elim hq
theorem pe_methK {pl : Sem Bool} (he : PE X o ta) (c : Cls X.K C) (hm : Meth X.K C m f) (F : FnRK X.prog X.w X.K X.mg X.base CX k f 1 ks sp) (hr : Room k X.A) (hx : Passes CX X E) (hkw : PK X kws tk)
    (hall : (backToKw pos (keywordEach kws X.env)).all (·.1.isSome) = true := by rfl) (hks : (backToKw pos (keywordEach kws X.env)).filterMap (·.1) = ks := by rfl)
    (hpl : ((backTo pos (starEach [] X.env)).any (·.1) || (backToKw pos (keywordEach kws X.env)).any (·.1.isNone)) = false := by rfl)
    (ht : eval (.Call (.Attribute o m apos) [] kws pos) X.env = (do
      let ov ← eval o X.env
      standAt apos.atName
      let (f, first) ← holding [ov] (getMethod ov m pl)
      callWith pos f first (backTo pos (starEach [] X.env)) (backToKw pos (keywordEach kws X.env))) := by rfl) :
    PE X (.Call (.Attribute o m apos) [] kws pos) (tMethK C m ks.length sp E ta tk) := by
  refine ⟨fun pins s σ H Q I h => ?_⟩
  refine PySem.W.methodCall_KW (pl := pl) (thn (he.run pins s σ H _ I h) fun u s1 ⟨x, H1, I1, rx, a, dx, fs, ex, ea, l, q⟩ => ?_) ht
  subst ex
  obtain rfl : u = Value.ref a := rx
  refine getmeth_ok I1 ea c hm l ?_
  refine PySem.W.callWith_KW0 (first := [.ref a]) (h₀ := X.base) I.ok.mod.kin hm.kp hall (thn (hkw.run pos pins s1 σ H1 _ I1 q) fun ws s2 ⟨zs, H2, I2, rz, l2, q2⟩ => ⟨I2.kIn, ?_⟩) hpl
  rw [hks]
  exact run_fnRK (us := [.ref a]) (vs := [.ref a]) F hr hx I2 (.cons rfl .nil) rz rfl l2 q2
end
/-! ### C(e, .., k = v, ..) -/
def tMakeRK (C : Addr) (n m : Nat) (sp : Sp) (E : XK) (t tk : TA) : TE := fun σ H Q => t σ H fun vs H1 => tk σ H1 fun zs H2 => vs.length = n ∧ zs.length = m ∧ ∀ x dx, H2 x = none → H2 dx = none → dx ≠ x →
  sp ((.ref x :: vs) ++ zs) (upd (upd H2 dx (.own x)) x (.ins C dx [])) (fun v H3 => v = .non ∧ Q (.ref x) H3) E
section
variable {X : Cx} {CX : CXT} {k n : Nat} {f C : Addr} {sp : Sp} {E : XK} {o e : Expr} {es : List Expr} {m x : Str} {pos apos p : Pos} {ta : TE} {t tk : TA} {ks : List Str} {kws : List Keyword}
theorem run_makeRK {pins : List (Addr × Obj)} {σ : L2.St} {H : Hp} {s : Shared} {Q : VK} {us ws : List Value} {vs zs : List V} (M : Mk X.K C f) (F : FnRK X.prog X.w X.K X.mg X.base CX k f (n + 1) ks sp) (hr : Room (k + 1) X.A) (hx : Passes CX X E) (I : Inv X pins σ H s) (r : Vals vs us) (rz : Vals zs ws) (l1 : vs.length = n) (l2 : zs.length = ks.length)
    (h : ∀ x dx, H x = none → H dx = none → dx ≠ x → sp ((.ref x :: vs) ++ zs) (upd (upd H dx (.own x)) x (.ins C dx [])) (fun v H2 => v = .non ∧ Q (.ref x) H2) E) :
    wpAny (model X.prog X.w) X.A (call (.ref C) us (ks.zip ws)) (EP X pins σ Q) X.xe s := by
  have hq := h (s.heap.objs.size + 1) s.heap.objs.size (I.hok.fresh (Nat.le_succ _)) (I.hok.fresh (Nat.le_refl _)) (Nat.ne_of_lt (Nat.lt_succ_self _))
  have I2 := Inv.made (C := C) I
  refine wpAny_call (make_map (f := f) I.kIn M.makes M.init (beq_iff_eq.mp M.fn) (codeAny_mono (F _ X.stack _ _ (Value.ref (s.heap.objs.size + 1) :: us) ws (V.ref (s.heap.objs.size + 1) :: vs) zs _ E (hr.make C us (ks.zip ws))
    (I2.env0.make C us (ks.zip ws)) (.cons rfl r) rz (by rw [List.length_cons, l1]) l2 hq) fun r s' hq' => ?_))
  cases r with
  | error e => exact hx pins σ _ _ e s' I2 hq'
  | ok fl =>
    cases fl with
    | ret u =>
      obtain ⟨v, H', I3, rv, ev, q3⟩ := I2.after hq'
      subst ev
      exact ⟨rv, ⟨V.ref (s.heap.objs.size + 1), H', I3, rfl, q3⟩⟩
    | next => exact False.elim hq'
    | brk => exact False.elim hq'
    | cont => exact False.elim hq'
theorem pe_makeRK (M : Mk X.K C f) (F : FnRK X.prog X.w X.K X.mg X.base CX k f (n + 1) ks sp) (hr : Room (k + 1) X.A) (hg : Gl X x) (hm : X.mg x = some (.ref C)) (hx : Passes CX X E) (ha : PA X (e :: es) t) (hkw : PK X kws tk)
    (hall : (backToKw pos (keywordEach kws X.env)).all (·.1.isSome) = true := by rfl) (hks : (backToKw pos (keywordEach kws X.env)).filterMap (·.1) = ks := by rfl) (hdb : (x == ("__debug__" : Str)) = false := by decide)
    (he : starEach (e :: es) X.env = (false, eval e X.env) :: starEach es X.env := by rfl)
    (hpl : ((backTo pos (starEach (e :: es) X.env)).any (·.1) || (backToKw pos (keywordEach kws X.env)).any (·.1.isNone)) = false := by rfl) :
    PE X (.Call (.Name x p) (e :: es) kws pos) (tMakeRK C n ks.length sp E t tk) := by
  refine ⟨fun pins s σ H Q I h => ?_⟩
  refine wpAny_Call_Name_kw (ld_glob I hg hm ?_ hdb)
  refine PySem.W.callWith_KW (h₀ := X.base) I.ok.mod.kin M.kp hall (thn (ha.run pos pins s σ H _ I h) fun us s1 ⟨vs, H1, I1, r, q⟩ => ?_) hpl he
  refine thn (hkw.run pos pins s1 σ H1 _ I1 q) fun ws s2 ⟨zs, H2, I2, rz, l1, l2, q2⟩ => ⟨I2.kIn, ?_⟩
  rw [hks]
  exact run_makeRK M F hr hx I2 r rz l1 l2 q2
end
/-! ### match of a text -/
/-- case "..": suite, one behind another -/
def tCases : List (Str × TS) → Str → TS
  | [], _ => fun D σ H => D.nx σ H
  | (y, t) :: r, x => fun D σ H => if decide (x = y) = true then t D σ H else tCases r x D σ H
def tMatch (te : TE) (cs : List (Str × TS)) : TS := fun D σ H => te σ H fun v H1 => ∃ x, v = .str x ∧ tCases cs x D σ H1
structure PCs (X : Cx) (cases : List MatchCase) (cs : List (Str × TS)) : Prop where
  run : ∀ (first : Bool) (pins : List (Addr × Obj)) (s : Shared) (σ : L2.St) (H : Hp) (D : Ends) (x : Str) (tok : Tok), Inv X pins σ H s → tCases cs x D σ H → wpAny (model X.prog X.w) X.A (matchCases cases X.env (.str x tok) first) (SP X pins D) X.xe s
section
variable {X : Cx} {te : TE} {cs : List (Str × TS)} {t : TS} {cases : List MatchCase} {e : Expr} {body : List Stmt} {y : Str} {pos p1 p2 : Pos}
theorem pcs_nil : PCs X [] [] := ⟨fun first pins s σ H D x tok I h => wpAny_matchCases_nil ⟨σ, H, I, h⟩⟩
theorem pcs_cons {v : Expr} (hv : PE X v (tC (.str y))) (hb : PSs X body t) (hr : PCs X cases cs) : PCs X (⟨.MatchValue v p2, none, body⟩ :: cases) ((y, t) :: cs) := by
  refine ⟨fun first pins s σ H D x tok I h => wpAny_matchCases_cons (wpAny_matchPattern_Value (thn (hv.run pins s σ H (fun v H' => v = .str y ∧ H' = H) I ⟨rfl, rfl⟩) fun u s1 ⟨v, H1, I1, r, e1, e2⟩ => ?_))⟩
  subst e1 e2
  have r' : RelV (.str x) (.str x tok) := ⟨tok, rfl⟩
  refine thn (op_eq pins s1 σ H1 (.str x) (.str y) (.str x tok) u (fun v H' => v = .bl (decide (V.str x = V.str y)) ∧ H' = H1) I1 r' r ⟨rfl, rfl, rfl⟩) fun c s2 ⟨v2, H2, I2, r2, e3, e4⟩ => ?_
  subst e3 e4
  cases r2
  refine wpAny_truthy_bool ?_
  have h' : (if decide (x = y) = true then t D σ H2 else tCases cs x D σ H2) := h
  have ed : decide (V.str x = V.str y) = decide (x = y) := by
    by_cases z : x = y
    · subst z; simp
    · rw [decide_eq_false z, decide_eq_false fun q => z (V.str.inj q)]
  rw [ed]
  cases hd : decide (x = y) with
  | true =>
    rw [hd, if_pos rfl] at h'
    show wpAny _ _ (assignInOrder [] []) _ _ _
    exact assignInOrder_nil (hb.run pins s2 σ H2 D I2 h')
  | false =>
    rw [hd, if_neg Bool.false_ne_true] at h'
    exact hr.run false pins s2 σ H2 D x tok I2 h'
theorem ps_match (he : PE X e te) (hc : PCs X cases cs) : PS X (.Match e cases pos) (tMatch te cs) := by
  refine ⟨fun pins s σ H D I h => wpAny_Match (thn (he.run pins s σ H _ I h) fun u s1 ⟨v, H1, I1, r, x, e1, q⟩ => ?_)⟩
  subst e1
  obtain ⟨tok, rfl⟩ := r
  exact hc.run true pins s1 σ H1 D x tok I1 q
end
end Xr
set_option maxHeartbeats 4000000
/-! == and != where the right side's class lies below the left one's; == and str of instances of any of some classes -/
namespace Xr
open PySem PySem.Spec PyProof.Rows L2
section low
open PySem.W
variable {prog : Program} {w : World} {A : Around} {E : Value → Shared → Prop} {s : Shared} {K : Frag} {x y C D f : Addr} {ox oy : Obj} {od od' : Option Obj}
theorem eq_KR {Q : Value → Shared → Prop} (hu : A.units < cLine) (X : K.In s.heap) (I : InstAt s.heap x ox C od) (J : InstAt s.heap y oy D od') (hne : D ≠ C) (hsub : subIn K (.ref D) (.ref C) = some true)
    (hs : findIn K (.ref D) "__eq__" = some (some (.ref f))) (hf : isFn K (.ref f) = true)
    (h : wpAny (model prog w) A (call (.ref f) [.ref y, .ref x]) (PySem.W.CmpBack Q) E s) : wpAny (model prog w) A (richCompare .Eq (.ref x) (.ref y)) Q E s := by
  have one : wpAny (model prog w) A (tryCompare (.ref y) "__eq__" (.ref x)) (fun r s' => ∃ v, r = some v ∧ Q v s') E s := by
    unfold tryCompare
    refine wpAny_bind (ifBound_K X J hs hf (wpAny_mono h (fun v s' hv => ?_) fun _ _ e => e))
    cases v <;> first | exact hv.elim | exact wpAny_pure ⟨_, rfl, hv⟩
  unfold richCompare
  simp only [oneThing_ref]
  refine wpAny_holding (wpAny_bind (wpAny_cRoomFor hu ?_))
  refine wpAny_bind (I.type.here (wpAny_bind (J.type.here ?_)))
  have q : (Value.ref C != Value.ref D) = true := by
    rw [bne_iff_ne]
    intro z
    cases z
    exact hne rfl
  rw [if_pos q]
  refine wpAny_bind ((looks_subIn X hsub).here ?_)
  simp only [if_true]
  refine wpAny_bind (wpAny_mono one (fun r s' z => ?_) fun _ _ e => e)
  obtain ⟨v, rfl, hq⟩ := z
  exact wpAny_bind (wpAny_rule (wpAny_pure hq))
theorem ne_KR {Q : Value → Shared → Prop} (hu : A.units + 1 < cLine) (X : K.In s.heap) (I : InstAt s.heap x ox C od) (J : InstAt s.heap y oy D od') (hne : D ≠ C) (hsub : subIn K (.ref D) (.ref C) = some true)
    (ho : mroIn K D (.type "object") = some true) (hs : findIn K (.ref D) "__ne__" = some (some (.builtin "object.__ne__"))) (he : findIn K (.ref D) "__eq__" = some (some (.ref f))) (hf : isFn K (.ref f) = true)
    (h : wpAny (model prog w) A.in1 (call (.ref f) [.ref y, .ref x]) (fun v s' => ∃ k, v = .bool k ∧ Q (.bool (!k)) s') E s) : wpAny (model prog w) A (richCompare .NotEq (.ref x) (.ref y)) Q E s := by
  have sub : Looks (model prog w) s.heap (isInstance (.ref y) (.type "object")) true := J.type.andThen (looks_mroIn X ho)
  have one : wpAny (model prog w) A (tryCompare (.ref y) "__ne__" (.ref x)) (fun r s' => ∃ v, r = some v ∧ Q v s') E s := by
    unfold tryCompare
    simp only [callSpecialIfBound?, bindSpecialIfBound?]
    have ob : ∀ self : Value, bindSpecial (.builtin "object.__ne__") self = pure (.builtin "object.__ne__", [self]) := fun self => by kernel_rfl
    have fin : wpAny (model prog w) A (call (.builtin "object.__ne__") ([.ref y] ++ [.ref x]) >>= fun v => pure (some v)) (fun r s' => ∃ k, r = some (.bool k) ∧ Q (.bool k) s') E s := by
      refine wpAny_bind (wpAny_call (codeAny_call_builtin (by decide +kernel) F.cmpEntry_ne (check_slot F.cmpKind_ne F.cmpSplit_ne sub (F.cmpArgs_ne _ _) ?_)))
      unfold Builtin.«object.__ne__»
      refine wpAny_bind (m := slotArgs "__ne__" 1 _) (wpAny_pure ?_)
      refine wpAny_bind (wpAny_cRoomFor hu ?_)
      refine wpAny_bind (m := callSpecialIfBound? (.ref y) (Str.ofString "__eq__") _) (ifBound_K X J he hf (wpAny_mono h (fun r s' hr => ?_) fun _ _ y => y))
      obtain ⟨k, rfl, hq⟩ := hr
      exact wpAny_bind (wpAny_truthy_bool (wpAny_pure (wpAny_pure ⟨!k, rfl, hq⟩)))
    have fin2 := wpAny_mono fin (Q' := fun a s' => wpAny (model prog w) A (match a with
        | some Value.notImplemented => pure none
        | none => pure none
        | some r => pure (some r)) (fun r s' => ∃ v, r = some v ∧ Q v s') E s') (fun r s' hr => by
      obtain ⟨k, rfl, hq⟩ := hr
      exact wpAny_pure ⟨_, rfl, hq⟩) fun _ _ z => z
    refine wpAny_bind (wpAny_holding (wpAny_bind (wpAny_bind (wpAny_bind (J.type.here ((looks_findIn X hs).here ?_))))))
    refine wpAny_bind (wpAny_askSetting (wpAny_ite ?_))
    split
    · rw [ob]
      exact wpAny_bind (wpAny_pure (wpAny_pure (by exact fin2)))
    · rw [ob]
      exact wpAny_tryCatch (wpAny_bind (wpAny_pure (wpAny_pure (by exact fin2))))
  unfold richCompare
  simp only [oneThing_ref]
  refine wpAny_holding (wpAny_bind (wpAny_cRoomFor (Nat.lt_of_succ_lt hu) ?_))
  rw [cmpInfo_NotEq]
  dsimp only
  refine wpAny_bind (I.type.here (wpAny_bind (J.type.here ?_)))
  have q : (Value.ref C != Value.ref D) = true := by
    rw [bne_iff_ne]
    intro z
    cases z
    exact hne rfl
  rw [if_pos q]
  refine wpAny_bind ((looks_subIn X hsub).here ?_)
  simp only [if_true]
  refine wpAny_bind (wpAny_mono one (fun r s' z => ?_) fun _ _ e => e)
  obtain ⟨v, rfl, hq⟩ := z
  exact wpAny_bind (wpAny_rule (wpAny_pure hq))
end low
/-- x == y by the own == at f, whichever of the classes that have it; the right side first where its class lies below -/
def rEqOX (K : PySem.W.Frag) (f : Addr) (sp : Sp) (E : XK) : R2 := fun x y H Q => ∃ a C dx fs, x = .ref a ∧ H a = some (.ins C dx fs) ∧ Sm K C "__eq__" f ∧
  ((∃ t, TyX K H y t ∧ PySem.W.notFirst K C t = true ∧ sp [x, y] H Q E) ∨ ∃ b D dy gs, y = .ref b ∧ H b = some (.ins D dy gs) ∧ D ≠ C ∧ PySem.W.subIn K (.ref D) (.ref C) = some true ∧ Sm K D "__eq__" f ∧ sp [y, x] H Q E)
def rNeOX (K : PySem.W.Frag) (f : Addr) (sp : Sp) (E : XK) : R2 := fun x y H Q => ∃ a C dx fs, x = .ref a ∧ H a = some (.ins C dx fs) ∧ Sm K C "__eq__" f ∧ PySem.W.findIn K (.ref C) "__ne__" = some (some (.builtin "object.__ne__")) ∧ PySem.W.mroIn K C (.type "object") = some true ∧
  ((∃ t, TyX K H y t ∧ PySem.W.notFirst K C t = true ∧ sp [x, y] H (fun v H' => ∃ k, v = .bl k ∧ Q (.bl (!k)) H') E) ∨
    ∃ b D dy gs, y = .ref b ∧ H b = some (.ins D dy gs) ∧ D ≠ C ∧ PySem.W.subIn K (.ref D) (.ref C) = some true ∧ Sm K D "__eq__" f ∧ PySem.W.findIn K (.ref D) "__ne__" = some (some (.builtin "object.__ne__")) ∧ PySem.W.mroIn K D (.type "object") = some true ∧ sp [y, x] H (fun v H' => ∃ k, v = .bl k ∧ Q (.bl (!k)) H') E)
section
variable {X : Cx} {CX : CXT} {k k2 : Nat} {f f2 : Addr} {sp sp2 : Sp} {E : XK}
theorem op_eqOX (F : FnR X.prog X.w X.K X.mg X.base CX k f sp) (hr : Room k X.A) (hx : Passes CX X E) : OpR X (compareOp .Eq) (rEqOX X.K f sp E) := by
  intro pins s σ H x y v u Q I rx ry q
  obtain ⟨a, C, dx, fs, rfl, ha, h, ⟨t, ht, hn, q⟩ | ⟨b, D, dy, gs, rfl, hb, hne, hsub, h2, q⟩⟩ := q
  · exact op_eqO h F hr hx pins s σ H _ y v u Q I rx ry ⟨a, dx, fs, t, rfl, ha, ht, hn, q⟩
  · cases rx
    cases ry
    obtain ⟨od, J⟩ := inst_of I ha
    obtain ⟨od', J'⟩ := inst_of I hb
    exact eq_KR hr.units0 I.kIn J J' hne hsub h2.at_ h2.fn (wpAny_mono (run_in (us := [.ref b, .ref a]) (vs := [.ref b, .ref a]) F hr rfl hx I (.cons rfl (.cons rfl .nil)) q) (fun _ _ z => back_of z) fun _ _ z => z)
theorem op_neOX (F : FnR X.prog X.w X.K X.mg X.base CX k f sp) (hr : Room (k + 1) X.A) (hx : Passes CX X E) : OpR X (compareOp .NotEq) (rNeOX X.K f sp E) := by
  intro pins s σ H x y v u Q I rx ry q
  obtain ⟨a, C, dx, fs, rfl, ha, h, hne1, ho1, ⟨t, ht, hn, q⟩ | ⟨b, D, dy, gs, rfl, hb, hne, hsub, h2, hne2, ho2, q⟩⟩ := q
  · exact op_neO h hne1 ho1 F hr hx pins s σ H _ y v u Q I rx ry ⟨a, dx, fs, t, rfl, ha, ht, hn, q⟩
  · cases rx
    cases ry
    obtain ⟨od, J⟩ := inst_of I ha
    obtain ⟨od', J'⟩ := inst_of I hb
    refine ne_KR (by have := hr.units; omega) I.kIn J J' hne hsub ho2 hne2 h2.at_ h2.fn (wpAny_mono (run_in (us := [.ref b, .ref a]) (vs := [.ref b, .ref a]) F hr.in1 rfl hx I (.cons rfl (.cons rfl .nil)) q) (fun w s' z => ?_) fun _ _ z => z)
    obtain ⟨v', H', I', r', kk, rfl, q'⟩ := z
    cases r'
    exact ⟨kk, rfl, .bl (!kk), H', I', rfl, q'⟩
/-- str of an instance whose __str__ is the def at f or the one at f2 -/
def rStrOX (K : PySem.W.Frag) (f f2 : Addr) (sp sp2 : Sp) (E : XK) : List V → Hp → VK → Prop := fun xs H Q => (∃ C, Sm K C "__str__" f ∧ rStrO C sp E xs H Q) ∨ ∃ C, Sm K C "__str__" f2 ∧ rStrO C sp2 E xs H Q
theorem call_strOX (F : FnR X.prog X.w X.K X.mg X.base CX k f sp) (F2 : FnR X.prog X.w X.K X.mg X.base CX k f2 sp2) (hr : Room (k + 2) X.A) (hx : Passes CX X E) : CallR X (.type "str") (rStrOX X.K f f2 sp sp2 E) := by
  intro pins s σ H xs us Q I r q
  rcases q with ⟨C, h, q⟩ | ⟨C, h, q⟩
  · exact call_strO h F hr hx pins s σ H xs us Q I r q
  · exact call_strO h F2 hr hx pins s σ H xs us Q I r q
end
/-! ### a written tuple of texts; in -/
theorem sqT_K {K : PySem.W.Frag} {H : Hp} {a : Addr} {o : Obj} {its : Array Value} {n : Nat} {xs : List V} (h : K.lookup a = some o) (h1 : o.cls = .type "tuple") (h2 : o.data = .seq its n) (h3 : its.size ≤ sizeLine) (r : Vals xs its.toList) : SqT K H a xs := .inr ⟨o, its, n, h, h1, h2, h3, r⟩
/-- the global x is a tuple of the texts zs -/
def tupB (K : PySem.W.Frag) (x : Str) (zs : List Str) : Bool := He.eqO (PySem.W.nsIn K mainGlobals x) (some (some (.ref (He.ga K x)))) && (match K.lookup (He.ga K x) with
  | some ⟨.type "tuple", _, .seq its _, _⟩ => decide (its.size ≤ sizeLine) && decide (its.toList.map (fun v => match v with | .str z _ => some z | _ => none) = zs.map some)
  | _ => false)
structure TupF (K : PySem.W.Frag) (x : Str) (zs : List Str) : Prop where
  at_ : ∀ H : Hp, SqT K H (He.ga K x) (zs.map V.str)
theorem vals_strs : ∀ {l : List Value} {zs : List Str}, l.map (fun v => match v with | Value.str z _ => some z | _ => none) = zs.map some → Vals (zs.map V.str) l
  | [], [], _ => .nil
  | [], _ :: _, h => by cases h
  | _ :: _, [], h => by cases h
  | v :: l, z :: zs, h => by
    rw [List.map_cons, List.map_cons, List.cons.injEq] at h
    obtain ⟨h1, h2⟩ := h
    cases v with
    | str y t =>
      cases h1
      exact .cons ⟨t, rfl⟩ (vals_strs h2)
    | _ => cases h1
theorem tupB_ok {K : PySem.W.Frag} {x : Str} {zs : List Str} (h : tupB K x zs = true) : TupF K x zs := by
  obtain ⟨_, h⟩ := He.ba h
  split at h
  · rename_i od its n sl e
    obtain ⟨h1, h2⟩ := He.ba h
    exact ⟨fun H => sqT_K e rfl rfl (of_decide_eq_true h1) (vals_strs (of_decide_eq_true h2))⟩
  · cases h
/-! ### orders -/
abbrev aO (K : PySem.W.Frag) : Addr := He.ga K "Order"
abbrev aN (K : PySem.W.Frag) : Addr := He.ga K "NowOrder"
abbrev aA (K : PySem.W.Frag) : Addr := He.ga K "AllOrder"
abbrev aV (K : PySem.W.Frag) : Addr := He.ga K "VeiledOrder"
def ordPs : List Str := ["side", "limit", "lots", "owner", "visible", "sign"]
def ordMs : List Str := ["__eq__", "with_lots", "with_limit"]
def conB (K : PySem.W.Frag) (C : Addr) (f z : Str) : Bool := (match PySem.W.findIn K (.ref C) f with
  | some (some (.str y t)) => decide (y = z) && He.eqO (PySem.W.specialIn K (.str y t) "__get__") (some none)
  | _ => false) && !PySem.W.copiedNames.contains f
theorem conB_ok {K : PySem.W.Frag} {C : Addr} {f z : Str} (h : conB K C f z = true) : ∃ u, Con K C f (.str z) u := by
  obtain ⟨h1, h2⟩ := He.ba h
  split at h1
  · rename_i y t e
    obtain ⟨h3, h4⟩ := He.ba h1
    cases of_decide_eq_true h3
    exact ⟨_, e, ⟨t, rfl⟩, He.eqO_ok h4, by simpa using h2⟩
  · cases h1
/-- C.f by the class itself -/
def cvB (K : PySem.W.Frag) (C : Addr) (f z : Str) : Bool := PySem.W.readsIn K C (.type "type") && (He.eqO (PySem.W.specialIn K (.ref C) "__getattribute__") (some (some (.builtin "type.__getattribute__"))) && (match PySem.W.findCls K (.ref C) (.type "type") f with
  | some (.val (.str y _)) => decide (y = z)
  | _ => false))
theorem cvB_ok {K : PySem.W.Frag} {C : Addr} {f z : Str} (h : cvB K C f z = true) : ClX.CRead K C (.type "type") ∧ ∃ u, ClX.CVal K C (.type "type") f (.str z) u := by
  obtain ⟨h1, h⟩ := He.ba h
  obtain ⟨h2, h⟩ := He.ba h
  refine ⟨⟨h1, He.eqO_ok h2⟩, ?_⟩
  split at h
  · rename_i y t e
    cases of_decide_eq_true h
    exact ⟨_, e, t, rfl⟩
  · cases h
/-- one of the classes of orders: its word, its head in texts, its __str__ at fs -/
def oCB (K : PySem.W.Frag) (C fs : Addr) (kind hd : Str) : Bool := plB K C && (ordPs.all (fun m => prB K C (He.ma K (aO K) m) (He5.wf K (aO K) "property" m) m) && (ordMs.all (fun m => smB K C (He.ma K (aO K) m) m) && (smB K C fs "__str__" && ((["name", "told"] : List Str).all (fun m => He.eqO (PySem.W.findIn K (.ref C) m) (some none)) &&
  (conB K C "KIND" kind && (conB K C "HEAD" hd && (cvB K C "KIND" kind && (obB K C "__ne__" "object.__ne__" && (mkB K C (He.ma K C "__init__") && (decide (PySem.W.kitOne K (.ref C) (.ref (aO K)) = some true) && plainTs.all (fun t => PySem.W.notFirst K C (.type t))))))))))))
structure OCl (K : PySem.W.Frag) (C fs : Addr) (kind hd : Str) : Prop where
  pl : Pl K C
  pr : ∀ m ∈ ordPs, PropOf K C m (He.ma K (aO K) m) (He5.wf K (aO K) "property" m)
  sm : ∀ m ∈ ordMs, Sm2 K C m (He.ma K (aO K) m)
  st : Sm2 K C "__str__" fs
  no : ∀ m ∈ (["name", "told"] : List Str), NoAttr K C m
  kd : ∃ u, Con K C "KIND" (.str kind) u
  hd_ : ∃ u, Con K C "HEAD" (.str hd) u
  cv : ClX.CRead K C (.type "type") ∧ ∃ u, ClX.CVal K C (.type "type") "KIND" (.str kind) u
  ne : PySem.W.findIn K (.ref C) "__ne__" = some (some (.builtin "object.__ne__"))
  mks : Mk K C (He.ma K C "__init__")
  ko : PySem.W.kitOne K (.ref C) (.ref (aO K)) = some true
  nt : ∀ t ∈ plainTs, PySem.W.notFirst K C (.type t) = true
theorem oCB_ok {K : PySem.W.Frag} {C fs : Addr} {kind hd : Str} (h : oCB K C fs kind hd = true) : OCl K C fs kind hd := by
  obtain ⟨h1, h⟩ := He.ba h
  obtain ⟨h2, h⟩ := He.ba h
  obtain ⟨h3, h⟩ := He.ba h
  obtain ⟨h4, h⟩ := He.ba h
  obtain ⟨h5, h⟩ := He.ba h
  obtain ⟨h6, h⟩ := He.ba h
  obtain ⟨h7, h⟩ := He.ba h
  obtain ⟨h8, h⟩ := He.ba h
  obtain ⟨h9, h⟩ := He.ba h
  obtain ⟨h10, h⟩ := He.ba h
  obtain ⟨h11, h12⟩ := He.ba h
  exact ⟨plB_ok h1, fun m hm => prB_ok (List.all_eq_true.mp h2 m hm), fun m hm => smB_ok (List.all_eq_true.mp h3 m hm), smB_ok h4, fun m hm => He.eqO_ok (List.all_eq_true.mp h5 m hm), conB_ok h6, conB_ok h7, cvB_ok h8, He.eqO_ok h9, mkB_ok h10, of_decide_eq_true h11, fun t ht => List.all_eq_true.mp h12 t ht⟩
/-- the keyword-only defaults of the def at f -/
def kwF (K : PySem.W.Frag) (f : Addr) (kws : List (Str × V)) : Bool := match K.lookup f with
  | some ⟨_, _, .func fd, _⟩ => He.kwdB K fd.kwdefaults kws
  | _ => false
theorem sup_kw {P : Program} {K : PySem.W.Frag} {C f g : Addr} {q : Str} {params : Arguments} {body : List Stmt} {sc : Scope} {fd : FuncData} {cda cc : Addr} {kws : List (Str × V)} (T : SupF P K C f g q params body sc fd cda cc) (h : kwF K f kws = true) : KwdV K fd.kwdefaults kws := by
  obtain ⟨kV, doc, pm, an, ct, oc, od, osl, rfl, lk⟩ := T.fn
  unfold kwF at h
  rw [lk] at h
  exact He.kwdB_ok h
def nobK : List (Str × V) := [("owner", .str "nobody")]
def clsO (K : PySem.W.Frag) : List Addr := [aO K, aN K, aA K, aV K]
/-- which class of orders lies below which -/
def belowB (K : PySem.W.Frag) (i j : Nat) : Bool := i == j || j == 0
def relO (K : PySem.W.Frag) : Bool := (List.range 4).all fun i => (List.range 4).all fun j =>
  decide (PySem.W.kitOne K (.ref ((clsO K).getD i 0)) (.ref ((clsO K).getD j 0)) = some (belowB K i j)) && (if i ≠ j ∧ j = 0 then decide (PySem.W.subIn K (.ref ((clsO K).getD i 0)) (.ref ((clsO K).getD j 0)) = some true) && decide ((clsO K).getD i 0 ≠ (clsO K).getD j 0) else PySem.W.notFirst K ((clsO K).getD j 0) (.ref ((clsO K).getD i 0)))
def ordB (file : Str) (K : PySem.W.Frag) : Bool := oCB K (aO K) (He.ma K (aO K) "__str__") "limit" "" && (oCB K (aN K) (He.ma K (aO K) "__str__") "now" "now " && (oCB K (aA K) (He.ma K (aO K) "__str__") "all" "all " && (oCB K (aV K) (He.ma K (aV K) "__str__") "veiled" "" &&
  (prB K (aV K) (He.ma K (aV K) "shown") (He5.wf K (aV K) "property" "shown") "shown" && (supB file K (aN K) (He.ma K (aO K) "__init__") && (supB file K (aA K) (He.ma K (aO K) "__init__") && (supB file K (aV K) (He.ma K (aO K) "__init__") &&
  (kwF K (He.ma K (aN K) "__init__") nobK && (kwF K (He.ma K (aA K) "__init__") nobK && (kwF K (He.ma K (aV K) "__init__") nobK && (tupB K "SIDES" ["buy", "sell"] && (relO K && plainTs.all (fun t => decide (PySem.W.kitOne K (.type t) (.ref (aO K)) = some false))))))))))))))
structure OrdF (P : Program) (K : PySem.W.Frag) (qN qA qV : Str) (pN pA pV : Arguments) (bN bA bV : List Stmt) (sN sA sV : Scope) : Prop where
  o : OCl K (aO K) (He.ma K (aO K) "__str__") "limit" ""
  n : OCl K (aN K) (He.ma K (aO K) "__str__") "now" "now "
  a : OCl K (aA K) (He.ma K (aO K) "__str__") "all" "all "
  v : OCl K (aV K) (He.ma K (aV K) "__str__") "veiled" ""
  sh : PropOf K (aV K) "shown" (He.ma K (aV K) "shown") (He5.wf K (aV K) "property" "shown")
  supN : ∃ fd cda cc, SupF P K (aN K) (He.ma K (aN K) "__init__") (He.ma K (aO K) "__init__") qN pN bN sN fd cda cc ∧ KwdV K fd.kwdefaults nobK
  supA : ∃ fd cda cc, SupF P K (aA K) (He.ma K (aA K) "__init__") (He.ma K (aO K) "__init__") qA pA bA sA fd cda cc ∧ KwdV K fd.kwdefaults nobK
  supV : ∃ fd cda cc, SupF P K (aV K) (He.ma K (aV K) "__init__") (He.ma K (aO K) "__init__") qV pV bV sV fd cda cc ∧ KwdV K fd.kwdefaults nobK
  sides : TupF K "SIDES" ["buy", "sell"]
  rel : relO K = true
  po : ∀ t ∈ plainTs, PySem.W.kitOne K (.type t) (.ref (aO K)) = some false
abbrev FnI (q : Str) (params : Arguments) (body : List Stmt) (sc : Scope) : FnC := some ("__init__", q, params, .stmts body, sc, mainGlobals, ["__class__"], builtinsNs)
theorem ordB_ok {P : Program} {K : PySem.W.Frag} {qN qA qV : Str} {pN pA pV : Arguments} {bN bA bV : List Stmt} {sN sA sV : Scope} (h : ordB P.main.file K = true) (ha : AllF K)
    (hN : fnC K ("NowOrder", some "__init__") = FnI qN pN bN sN) (hA : fnC K ("AllOrder", some "__init__") = FnI qA pA bA sA) (hV : fnC K ("VeiledOrder", some "__init__") = FnI qV pV bV sV)
    (htop : (P.main.scope.names.lookup ("super" : Str)).isSome = false) : OrdF P K qN qA qV pN pA pV bN bA bV sN sA sV := by
  obtain ⟨h1, h⟩ := He.ba h
  obtain ⟨h2, h⟩ := He.ba h
  obtain ⟨h3, h⟩ := He.ba h
  obtain ⟨h4, h⟩ := He.ba h
  obtain ⟨h5, h⟩ := He.ba h
  obtain ⟨h6, h⟩ := He.ba h
  obtain ⟨h7, h⟩ := He.ba h
  obtain ⟨h8, h⟩ := He.ba h
  obtain ⟨h9, h⟩ := He.ba h
  obtain ⟨h10, h⟩ := He.ba h
  obtain ⟨h11, h⟩ := He.ba h
  obtain ⟨h12, h⟩ := He.ba h
  obtain ⟨h13, h14⟩ := He.ba h
  obtain ⟨fN, cN, eN, SN⟩ := sup_ok h6 ha hN htop
  obtain ⟨fA, cA, eA, SA⟩ := sup_ok h7 ha hA htop
  obtain ⟨fV, cV, eV, SV⟩ := sup_ok h8 ha hV htop
  exact ⟨oCB_ok h1, oCB_ok h2, oCB_ok h3, oCB_ok h4, prB_ok h5, ⟨fN, cN, eN, SN, sup_kw SN h9⟩, ⟨fA, cA, eA, SA, sup_kw SA h10⟩, ⟨fV, cV, eV, SV, sup_kw SV h11⟩, tupB_ok h12, h13, fun t ht => of_decide_eq_true (List.all_eq_true.mp h14 t ht)⟩
end Xr
set_option maxHeartbeats 4000000
/-! rules with the written part named, for blocks -/
namespace Xr
open PySem PySem.Spec PyProof.Rows L2
theorem pe_bmK {X : Cx} (K : PySem.W.Frag) (hK : X.K = K) {T : String} {name : Str} {id : String} {r : V → List V → Hp → VK → Prop} {o e : Expr} {es : List Expr} {to : TE} {t : TA} {apos cpos : Pos} (pa : PlainAttrs T) (slot : Slot T name id) (hty : typeOf (.builtin id) = pure (.type "method_descriptor")) (hm : MtR X id r) (ho : PE X o to) (ha : PA X (e :: es) t)
    (hbase : attributeBase o name X.env (eval o X.env) = eval o X.env := by rfl)
    (hfew : ((backTo cpos (starEach (e :: es) X.env)).all (fun x => !x.1) && (backToKw cpos (keywordEach [] X.env)).all (fun x => x.1.isSome)
      && decide ((e :: es).length + ([] : List Keyword).length + (if ([] : List Keyword).isEmpty then 0 else 1) < 30)) = true := by rfl)
    (hline : (apos.endLine == cpos.line) = true := by rfl) (hs : starEach (e :: es) X.env = (false, eval e X.env) :: starEach es X.env := by rfl) (hplain : (backTo cpos (starEach es X.env)).any (·.1) = false := by rfl) :
    PE X (.Call (.Attribute o name apos) (e :: es) [] cpos) (tBM K T r to t) := by
  subst hK
  exact pe_bm pa slot hty hm ho ha hbase hfew hline hs hplain
theorem call_len_seqK {X : Cx} (K : PySem.W.Frag) (hK : X.K = K) : CallR X (.builtin "len") (fun xs H Q => ∃ a ys, xs = [.ref a] ∧ (SqL K H a ys ∨ SqT K H a ys) ∧ Q (.int (ys.length : Nat)) H) := by
  subst hK
  exact call_len_seq
end Xr
set_option maxHeartbeats 4000000
/-! except C as n: the error is kept (one class) -/
namespace Xr
open PySem PySem.Spec PyProof.Rows L2
/-- except c1 as n: suite, one class: behind it the exception is known -/
def wAsK1 (K : PySem.W.Frag) (c1 : Value) (i : Nat) (ts : Addr → Value → Option Addr → TS) (Wout : WX) (D : Ends) : WX := fun cls d σ H =>
  ∃ b, PySem.W.exmOne K cls c1 = some b ∧ (b = true → ∀ a, H a = none → ts a cls d { nx := fun σ' H' => H' a = none → D.nx (σ'.set i none) (upd H' a (exr a cls d)), rt := D.rt, bk := fun σ' H' => D.bk (σ'.set i none) H', ct := fun σ' H' => D.ct (σ'.set i none) H' } (σ.set i (some (.ref a))) H) ∧
    (b = false → Wout cls d σ H)
section
variable {X : Cx} {x1 n : Str} {c1 : Value} {i : Nat} {body suite : List Stmt} {b₀ : Stmt} {np1 pos pos' : Pos} {tb : WX → TS} {ts : Addr → Value → Option Addr → TS} {Wout : WX}
theorem ps_try_keep1 (hst : X.stack = X.env :: X.outer) (hfm : X.env.frame = some X.env.locals) (hex : X.ex = []) (hN : X.N.Nodup) (hi : X.N[i]? = some n) (hln : X.env.kindOf n = some .local) (hc1 : Names X x1 c1) (tk : Takes X Wout)
    (hbd : ∀ (W : WX) (pn : List (Addr × Obj)) (xe : Value → Shared → Prop), Takes (X.tr pn xe) W → PassesOwn (model X.prog X.w) X.A X.env xe → PSs (X.tr pn xe) body (tb W))
    (hsu : ∀ (a : Addr) (oe : Obj) (cls : Value) (d : Option Addr) (pn : List (Addr × Obj)), Zc cls d oe → (∃ vs, oe.data = .fields vs) → PSs (X.suite a ((a, oe) :: pn)) (b₀ :: suite) (ts a cls d)) :
    PS X (.Try body [.ExceptHandler (some (.Name x1 np1)) (some n) (b₀ :: suite) pos'] [] [] pos) (fun D σ H => tb (wAsK1 X.K c1 i ts Wout D) D σ H) := by
  refine ⟨fun pins s σ H D I0 rd => ?_⟩
  have okX := I0.ok
  have frm : X.A.frames = some (X.env :: X.outer) := okX.frames.trans (congrArg some hst)
  refine wpAny_Try_except (wpAny_mono ((hbd (wAsK1 X.K c1 i ts Wout D) (X.pn ++ pins) (fun e sa => wpAny (model X.prog X.w) X.A (noteFrame e X.env) (fun _ sb => wpAny (model X.prog X.w) X.A (setFlight e none) (fun _ sc =>
    wpAny (model X.prog X.w) X.A (handleBy e X.env [.ExceptHandler (some (.Name x1 np1)) (some n) (b₀ :: suite) pos']) (SP X pins D) X.xe sc) X.xe sb) X.xe sa) (fun u s' xx => ?_) PassesOwn.looking).run [] s σ H D (I0.toTry _) rd) (fun f s1 hsp => ?_) fun _ _ he => he)
  · obtain ⟨a, B, sI, pins', σ', H', cls, d, rfl, J', nb, up, sky, na, os, ag, b, hb1, hyes, hno⟩ := xx
    have J : Inv X pins σ' H' sI := J'.ofTry okX
    show wpAny (model X.prog X.w) X.A (noteFrame (.ref a) X.env) _ _ _
    refine Sky.land Zc.steady frm hfm (hst ▸ sky) fun g3 fy3 u3 => ?_
    obtain ⟨e3, v3, at3, zc3, dt3⟩ := fy3.there
    have nfr : a ∉ frs (X.env :: X.outer) := fun hm => by
      obtain ⟨_, o', q, hnf⟩ := fy3.2.2.1.mem hm
      rw [at3] at q
      cases q
      exact hnf _ dt3
    have nL : a ≠ X.env.locals := fun z => nfr (List.mem_filterMap.mpr ⟨X.env, List.mem_cons_self, hfm.trans (congrArg some z.symm)⟩)
    have nF : a ∉ X.fs := fun hm => by
      obtain ⟨e, he, q⟩ := List.mem_filterMap.mp hm
      exact nfr (List.mem_filterMap.mpr ⟨e, List.mem_cons_of_mem _ he, q⟩)
    have nA : sI.heap.get? a = none := by
      cases q : sI.heap.get? a with
      | none => rfl
      | some o =>
        have z := nb a o q (hst ▸ nfr)
        rw [fy3.2.1] at z
        cases z
    have n0 : X.s_0.heap.get? a = none := by
      cases q : X.s_0.heap.get? a with
      | none => rfl
      | some o =>
        obtain ⟨o', z⟩ := J.base.there a o q (by rw [hex]; simp)
        rw [nA] at z
        cases z
    have J3 : Inv X pins σ' H' { s' with heap := g3 } := J.landed nb fy3.1 (up.trans u3) os ag
    have S3 := J3.suite at3 dt3 na nL nF
    refine wpAny_handleBy_cons (codeAny_handlers_test ?_) (by intro q; cases q)
    have nameOf : ∀ {x : Str} {c : Value} {np : Pos} {Q : Value → Shared → Prop} {E : Value → Shared → Prop}, Names X x c → Q c { s' with heap := g3 } → wpAny (model X.prog X.w) (X.A.mark (some (.ref a))) (eval (.Name x np) X.env) Q E { s' with heap := g3 } := fun {x c np Q E} hc q => by
      obtain ⟨hg, hdbg, hm | ⟨hm, hv, hnn⟩⟩ := hc
      · exact ld_glob (X := X.suite a ((a, e3) :: (X.pn ++ pins))) S3 hg hm q hdbg
      · exact ld_blt (X := X.suite a ((a, e3) :: (X.pn ++ pins))) S3 hg hm hv q hnn hdbg
    refine nameOf hc1 ?_
    have LT : PySem.W.Looks (model X.prog X.w) g3 (typeOf (.ref a)) cls := fun A Q E s k q => wpAny_typeOf_ref (k _ _ at3) (by rw [zc3.1]; exact q)
    refine (PySem.W.exm_one (M := model X.prog X.w) J3.kIn LT hb1).here ?_
    cases b with
    | true =>
      refine codeAny_handlers_suite_as (HandSPX.lands_againZ fy3 fun g4 fy4 u4 => ?_)
      have J4 : Inv X pins σ' H' { s' with heap := g4 } := J.landed nb fy4.1 ((up.trans u3).trans u4) os ag
      obtain ⟨e4, v4, at4, zc4, dt4⟩ := fy4.there
      refine store_ok (X := X.suite a ((a, e4) :: (X.pn ++ pins))) (v := .ref a) (J4.suite at4 dt4 na nL nF) hN hi (.inl hln) rfl (fun s5 S5 => ?_) (.inr hln)
      refine wpAny_mono ((hsu a e4 cls d (X.pn ++ pins) zc4 ⟨_, dt4⟩).run [] s5 _ H' _ S5 (hyes rfl a na)) (fun f s6 hsp => ?_) fun _ _ z => False.elim z
      have leave : ∀ {σ6 : L2.St} {H6 : Hp} {Q : Shared → Prop}, Inv (X.suite a ((a, e4) :: (X.pn ++ pins))) [] σ6 H6 s6 → (∀ s7, Inv X pins (σ6.set i none) H6 s7 → Q s7) → wpAny (model X.prog X.w) X.A (do bindName X.env n .none; unbindBehindTheSuite X.env n pos') (fun _ s7 => Q s7) X.xe s6 :=
        fun S6 hq => gone_ok (S6.unsuite okX) hN hi hln hq
      cases f with
      | next =>
        obtain ⟨σ6, H6, S6, q6⟩ := hsp
        have S6' : Inv X ((a, e4) :: pins) σ6 H6 s6 := ⟨okX, S6.os, S6.bare, S6.base, S6.loc, S6.cell, S6.free, S6.freeC, fun p hp => S6.pin p (by
          show p ∈ ((a, e4) :: (X.pn ++ pins)) ++ []
          rw [List.append_nil]
          rcases List.mem_append.mp hp with z | z
          · exact List.mem_cons_of_mem _ (List.mem_append_left _ z)
          · rcases List.mem_cons.mp z with z | z
            · rw [z]
              exact List.mem_cons_self
            · exact List.mem_cons_of_mem _ (List.mem_append_right _ z)), S6.hok, S6.len⟩
        refine gone_ok S6' hN hi hln fun s7 J7 => ?_
        obtain ⟨p1, p2, _⟩ := J7.pin (a, e4) (List.mem_append_right _ List.mem_cons_self)
        have J8 : Inv X pins (σ6.set i none) H6 s7 := J7.pins_of fun p hp => J7.pin p (List.mem_append_right _ (List.mem_cons_of_mem _ hp))
        refine ⟨_, _, adopt J8 p2 n0 nL (fun x c hc z => ?_) (fun p hp z => ?_) (exr_ok p1 zc4.1 zc4.2 dt4), q6 p2⟩
        · obtain ⟨v, o, ho, hd⟩ := J7.cell x c hc
          rw [z, p1] at ho
          cases ho
          rw [dt4] at hd
          cases hd
        · have q := (J.pin p hp).1
          rw [z, nA] at q
          cases q
      | brk =>
        obtain ⟨σ6, H6, S6, q6⟩ := hsp
        exact leave S6 fun s7 J7 => ⟨_, _, J7, q6⟩
      | cont =>
        obtain ⟨σ6, H6, S6, q6⟩ := hsp
        exact leave S6 fun s7 J7 => ⟨_, _, J7, q6⟩
      | ret u =>
        obtain ⟨v6, σ6, H6, S6, r6, q6⟩ := hsp
        exact leave S6 fun s7 J7 => ⟨_, _, _, J7, r6, q6⟩
    | false =>
      refine (show wpAny _ X.A (handleBy (.ref a) X.env []) _ _ _ from wpAny_handleBy_nil ?_)
      obtain ⟨k1, k2, k3, oe, vs, T, oT, ts', he, hz, hd, h1, hr⟩ := id fy3
      unfold PySem.passOn
      refine wpAny_bind (wpAny_field he hd h1 ?_)
      rw [if_neg (show ¬ ((Value.ref T == Value.none) = true) from by simp)]
      have out : wpAny (model X.prog X.w) X.A (setFlight (.ref a) X.env.frame) (fun _ s4 => wpAny (model X.prog X.w) X.A (throw (.ref a) : Sem Flow) (SP X pins D) X.xe s4) X.xe { s' with heap := g3 } := by
        rw [hfm]
        refine HandSPX.setFlight_upZ fy3 fun g4 hh4 u4 => wpAny_throw (tk _ _ ⟨a, B, sI, pins, σ', H', cls, d, rfl, J, nb, (up.trans u3).trans u4, .inr (.inr (by rw [hst]; exact hh4)), na, os, ag, hno rfl⟩)
      first
        | exact wpAny_bind (wpAny_pure (wpAny_bind out))
        | exact wpAny_bind out
  · cases f with
    | next =>
      obtain ⟨σ', H', K', q⟩ := hsp
      exact wpAny_execs_nil ⟨σ', H', K'.ofTry okX, q⟩
    | brk =>
      obtain ⟨σ', H', K', q⟩ := hsp
      exact ⟨σ', H', K'.ofTry okX, q⟩
    | cont =>
      obtain ⟨σ', H', K', q⟩ := hsp
      exact ⟨σ', H', K'.ofTry okX, q⟩
    | ret u =>
      obtain ⟨v, σ', H', K', r, q⟩ := hsp
      exact ⟨v, σ', H', K'.ofTry okX, r, q⟩
end
end Xr
set_option maxHeartbeats 4000000
/-! the classes Steps and Listing as the head tells them -/
namespace Xr
open PySem PySem.Spec PyProof.Rows L2
/-- C.f read off the class is the whole number z -/
def cvI (K : PySem.W.Frag) (C : Addr) (f : Str) (z : Int) : Bool := PySem.W.readsIn K C (.type "type") && (He.eqO (PySem.W.specialIn K (.ref C) "__getattribute__") (some (some (.builtin "type.__getattribute__"))) && (match PySem.W.findCls K (.ref C) (.type "type") f with
  | some (.val (.int i _)) => decide (i = z)
  | _ => false))
abbrev aSt (K : PySem.W.Frag) : Addr := He.ga K "Steps"
abbrev aLi (K : PySem.W.Frag) : Addr := He.ga K "Listing"
theorem cvI_ok {K : PySem.W.Frag} {C : Addr} {f : Str} {z : Int} (h : cvI K C f z = true) : ClX.CRead K C (.type "type") ∧ ∃ u, ClX.CVal K C (.type "type") f (.int z) u := by
  obtain ⟨h1, h⟩ := He.ba h
  obtain ⟨h2, h⟩ := He.ba h
  refine ⟨⟨h1, He.eqO_ok h2⟩, ?_⟩
  split at h
  · rename_i y t e
    cases of_decide_eq_true h
    exact ⟨_, e, t, rfl⟩
  · cases h
def listB (K : PySem.W.Frag) : Bool := ocB K (aSt K) ["reduced", "take"] [] [] ["width", "stairs"] && (ocB K (aLi K) ["strategies", "with_strategy", "__len__", "__eq__"] [] ["of"] ["own_rows", "by_name", "own_rank", "known_rings"] && (cvI K (aLi K) "MOST" 12 && (cvI K (aLi K) "MOST_MONTHS" 6 && (obB K (aLi K) "__ne__" "object.__ne__" &&
  (decide (PySem.W.kitOne K (.ref (aLi K)) (.ref (aLi K)) = some true) && (decide (PySem.W.kitOne K (.ref (aL K)) (.ref (aS K)) = some false) && (decide (PySem.W.kitOne K (.ref (aLi K)) (.ref (aS K)) = some false) && [aS K, aL K, aLi K].all (fun C => decide (PySem.W.kitOne K (.ref C) (.type "list") = some false) && decide (PySem.W.kitOne K (.ref C) (.type "tuple") = some false)))))))))
structure LiF (K : PySem.W.Frag) : Prop where
  st : OC K (aSt K) ["reduced", "take"] [] [] ["width", "stairs"]
  oc : OC K (aLi K) ["strategies", "with_strategy", "__len__", "__eq__"] [] ["of"] ["own_rows", "by_name", "own_rank", "known_rings"]
  cr : ClX.CRead K (aLi K) (.type "type")
  c1 : ∃ u, ClX.CVal K (aLi K) (.type "type") "MOST" (.int 12) u
  c2 : ∃ u, ClX.CVal K (aLi K) (.type "type") "MOST_MONTHS" (.int 6) u
  ne : PySem.W.findIn K (.ref (aLi K)) "__ne__" = some (some (.builtin "object.__ne__"))
  kk : PySem.W.kitOne K (.ref (aLi K)) (.ref (aLi K)) = some true
  kL : PySem.W.kitOne K (.ref (aL K)) (.ref (aS K)) = some false
  kS : PySem.W.kitOne K (.ref (aLi K)) (.ref (aS K)) = some false
  kt : ∀ C ∈ [aS K, aL K, aLi K], PySem.W.kitOne K (.ref C) (.type "list") = some false ∧ PySem.W.kitOne K (.ref C) (.type "tuple") = some false
theorem listB_ok {K : PySem.W.Frag} (h : listB K = true) : LiF K := by
  obtain ⟨h1, h⟩ := He.ba h
  obtain ⟨h2, h⟩ := He.ba h
  obtain ⟨h3, h⟩ := He.ba h
  obtain ⟨h4, h⟩ := He.ba h
  obtain ⟨h5, h⟩ := He.ba h
  obtain ⟨h6, h⟩ := He.ba h
  obtain ⟨h7, h⟩ := He.ba h
  obtain ⟨h8, h9⟩ := He.ba h
  refine ⟨ocB_ok h1, ocB_ok h2, (cvI_ok h3).1, (cvI_ok h3).2, (cvI_ok h4).2, He.eqO_ok h5, of_decide_eq_true h6, of_decide_eq_true h7, of_decide_eq_true h8, fun C hC => ?_⟩
  obtain ⟨z1, z2⟩ := He.ba (List.all_eq_true.mp h9 C hC)
  exact ⟨of_decide_eq_true z1, of_decide_eq_true z2⟩
end Xr
set_option maxHeartbeats 4000000
/-! comprehensions over zip; // by any divisor that fits; d.update(e); list(d.values()); C(*xs) by a local name; methods by OkF -/
namespace Xr
open PySem PySem.Spec PyProof.Rows L2
theorem op_fdivA {X : Cx} : OpR X (binaryOp .FloorDiv) (rI (fun i j => CDivW i j ∨ CDivN i j) fun i j => .int (i.fdiv j)) := by
  intro pins s σ H x y v u Q I rx ry h
  obtain ⟨i, j, ex, ey, hc, q⟩ := h
  rcases hc with hc | hc
  · have e : i.fdiv j = i / j := Int.fdiv_eq_ediv_of_nonneg i (Int.le_of_lt hc.1)
    dsimp only at q
    rw [e] at q
    exact op_fdivW pins s σ H x y v u Q I rx ry ⟨i, j, ex, ey, hc, q⟩
  · exact op_fdivN pins s σ H x y v u Q I rx ry ⟨i, j, ex, ey, hc, q⟩
theorem zip_take {α β γ : Type} {F : α → β → γ} {xs : List α} {ys : List β} {i : Nat} {x : α} {y : β} (h1 : xs[i]? = some x) (h2 : ys[i]? = some y) : (List.zipWith F xs ys).take (i + 1) = (List.zipWith F xs ys).take i ++ [F x y] := by
  rw [List.take_add_one, List.getElem?_zipWith, h1, h2]
  rfl
/-- [.. for x, y in zip(xs, ys)], the element only reads -/
theorem lcZ {K : PySem.W.Frag} {a b : Addr} {xs ys : List V} {g : TG} {te : TE} {vs : List Nat} {σ : L2.St} {H1 : Hp} {D : Addr} {Qd : Hp → Prop} (S : V → V → L2.St) (F : V → V → V) (hD : H1 D = none) (hl : xs.length = ys.length) (hn : xs.length ≤ 100000) (hP : ∀ H', Same H1 H' → SqL K H' a xs ∧ SqL K H' b ys)
    (hg : ∀ (T : Addr) (x y : V) (H' : Hp) (C : L2.St → Hp → Prop), H' T = some (.tup [x, y]) → C (S x y) H' → g (.ref T) (wipe σ vs) H' C) (hw : ∀ x y, wipe (S x y) vs = wipe σ vs)
    (he : ∀ (i : Nat) x y H', xs[i]? = some x → ys[i]? = some y → Same H1 H' → ∀ Q : VK, (∀ H'', Same H' H'' → Q (F x y) H'') → te (S x y) H' Q)
    (hd : ∀ H', Same H1 H' → H' D = some (.lst (List.zipWith F xs ys)) → Qd H') :
    ∃ W : Nat → Nat → Hp → Prop, (∃ m, W 0 m (upd H1 D (.lst []))) ∧ ∀ i m H, W i m H →
      ((Itz K a b).stop i H ∧ Qd H) ∨ ((Itz K a b).go i H ∧ ∃ Nx : Hp → Prop, (∀ H', Nx H' → ∃ m', m' < m ∧ W (i + 1) m' H') ∧ ∀ x H', (Itz K a b).yld i H x H' → g x (wipe σ vs) H' fun σ2 H2 => wipe σ2 vs = wipe σ vs ∧ tYes σ2 H2 fun b H3 =>
        if b = true then te σ2 H3 fun y H4 => ∃ acc, H4 D = some (.lst acc) ∧ acc.length < sizeLine ∧ Nx (upd H4 D (.lst (acc ++ [y]))) else Nx H3) := by
  refine lc_it (walk_zip (n := xs.length) (by omega)) (fun i H' => Same H1 H' ∧ H' D = some (.lst ((List.zipWith F xs ys).take i))) ⟨same_new hD, upd_same⟩ (fun i H' _ h => hP H' h.1) ?_ fun H' h => hd H' h.1 ?_
  · rintro i v H' H2 hi ⟨s, hl'⟩ ⟨T, x, y, rfl, nT, rfl, hx, hy⟩
    have sT : Same H' (upd H' T (.tup [x, y])) := same_new nT
    refine hg T x y _ _ upd_same ⟨hw x y, ?_⟩
    unfold tYes
    dsimp only
    rw [if_pos rfl]
    refine he i x y _ hx hy (s.trans sT) _ fun H4 s4 => ?_
    have h4 := s4 _ _ (sT _ _ hl')
    refine ⟨_, h4, ?_, same_upd hD ((s.trans sT).trans s4), ?_⟩
    · rw [List.length_take, sizeLine_eq]
      have : (List.zipWith F xs ys).length ≤ xs.length := by rw [List.length_zipWith]; omega
      omega
    · rw [upd_same, zip_take hx hy]
  · have e : (List.zipWith F xs ys).take xs.length = List.zipWith F xs ys := List.take_of_length_le (by rw [List.length_zipWith]; omega)
    rw [h.2, e]
/-- d.update(e), both of ints and texts -/
def rDupd : V → List V → Hp → VK → Prop := fun x vs H Q => ∃ a b kvs more, x = .ref a ∧ vs = [.ref b] ∧ a ≠ b ∧ H a = some (.dK kvs) ∧ H b = some (.dK more) ∧ kvs.length + more.length ≤ sizeLine ∧ Q .non (upd H a (.dK (mergeK kvs more)))
theorem mt_dupd {X : Cx} : MtR X "dict.update" rDupd := by
  intro pins s σ H x vs v us Q I rx rv h
  obtain ⟨a, b, kvs, more, rfl, rfl, nab, ha, hb, hz, q⟩ := h
  cases rx
  obtain ⟨u, rfl, ru⟩ := rv.one
  cases ru
  obtain ⟨z, hd, vs, rel, dd⟩ := dk_of I.hok ha
  obtain ⟨z2, hd2, vs2, rel2, dd2⟩ := dk_of I.hok hb
  refine call_meetsIn PySem.F.slot_dict_update dd.typeIs PySem.F.entry_dict_update (PySem.F.args_dict_update_2 _ _) (meets_dict_update (mixKind X.prog X.w) a b nab hd2) ⟨vs, vs2, dd, dd2, by rw [← rel.length, ← rel2.length]; exact hz, fun h' dd' _ hs => ?_⟩
  have he : ∃ q, h'.get? a = some q := let ⟨q, _, _, hq, _⟩ := dd'; ⟨q, hq⟩
  exact ⟨.non, _, d_write I (by rw [ha]; exact True.intro) hs he (dk_new (Nat.le_trans (length_mergeK ..) hz) hd (KV.merge rel2 rel) dd'), rfl, q⟩
/-- list(e.values()) -/
def tListVals (te : TE) : TE := fun σ H Q => te σ H fun x H1 => ∃ d kvs, x = .ref d ∧ H1 d = some (.dK kvs) ∧ ∀ p, H1 p = none → Q (.ref p) (upd H1 p (.lst (kvs.map (·.2))))
section
variable {X : Cx} {CX : CXT} {k : Nat} {C f : Addr} {ps : List Str} {sp : Sp} {E : XK} {x m : Str} {e o : Expr} {es : List Expr} {te ta tf : TE} {t : TA} {p np apos cpos pos sp_ : Pos}
theorem pe_listVals (hc : X.calm = true) (he : PE X e te) (hg : Gl X "list") (hm : X.mg "list" = none) (hv : bootBuiltins "list" = some (.type "list")) (hbase : attributeBase e "values" X.env (eval e X.env) = eval e X.env := by rfl) (hline : (apos.endLine == cpos.line) = true := by rfl)
    (hs : starEach [.Call (.Attribute e "values" apos) [] [] cpos] X.env = (false, eval (.Call (.Attribute e "values" apos) [] [] cpos) X.env) :: starEach [] X.env := by rfl) :
    PE X (.Call (.Name "list" p) [.Call (.Attribute e "values" apos) [] [] cpos] [] pos) (tListVals te) := by
  refine ⟨fun pins s σ H Q I hq => ?_⟩
  refine wpAny_Call_Name_kw (ld_blt I hg hm hv ?_)
  refine PyProof.Rows.callWith_type1 ?_ hs rfl
  rw [hs]
  show wpAny _ _ (spliced ((false, eval (.Call (.Attribute e "values" apos) [] [] cpos) X.env) :: backTo pos (starEach [] X.env))) _ _ s
  refine Calls.spliced_cons ?_
  refine wpAny_Call_method (T := "dict") (id := "dict.values") hbase rfl hline F.plainAttrs_dict F.slot_dict_values F.type_dict_values (thn (he.run pins s σ H _ I hq) fun u s1 ⟨x, H1, I1, rx, d, kvs, ex, hd, q⟩ => ?_)
  subst ex
  obtain rfl : u = Value.ref d := rx
  obtain ⟨hz, hs0, vs, kv, hdo⟩ := I1.hok d _ hd
  obtain ⟨ep, hat⟩ := hdo.dictAt
  have lk : kvs.length = vs.length := Paired.length kv
  have I2 : Inv X pins σ H1 { s1 with heap := s1.heap.push { cls := .type "dict_values", data := .fields #[.ref d] } } := I1.kept (t' := s1.toks) fun b ob q => Heap.get?_push_of_some _ q
  refine ⟨hdo.typeIs, hdo.mapOf.noDict, ?_⟩
  show wpAny _ _ (callWith cpos (.builtin "dict.values") [.ref d] [] []) _ X.xe s1
  refine method_meetsIn F.slot_dict_values F.entry_dict_values rfl (PySem.evalArgs_none ⟨rfl, hdo.typeIs, F.args_dict_values_1 _, _, meets_dict_values (mixKind X.prog X.w) d hs0, ⟨vs, hdo⟩, ?_⟩)
  refine Calls.spliced_nil ?_
  refine PySem.W.kdl_call (PySem.W.kdl_values (knd := mixKind X.prog X.w) (kvs := vs) (ep := ep)) (I1.ok.hd hc) ⟨⟨_, Heap.get?_push_size _ rfl, rfl, rfl⟩, hat.push _⟩ (by omega) fun h' tk acc' c' hkeep hS hacc => ?_
  refine ⟨.ref _, upd H1 _ (.lst (kvs.map (·.2))), I2.laid hkeep (Nat.le_refl _) (show ObjOk X.prog X.w _ _ _ (.lst (kvs.map (·.2))) from ⟨?_, acc'.toList, c', ?_, ?_⟩), rfl, q _ (I2.hok.fresh (Nat.le_refl _))⟩
  · rw [List.length_map]; exact hz
  · have el : acc'.toList.length = acc'.size := by simp
    refine vals_of_at (by rw [List.length_map, el, hacc.1, lk]) fun j x w h1 h2 => ?_
    obtain ⟨key, hky⟩ := hacc.2 j w (by rw [← Array.getElem?_toList]; exact h2)
    rw [List.getElem?_map] at h1
    obtain ⟨pv, hp, rfl⟩ := Option.map_eq_some_iff.mp h1
    obtain ⟨qv, g1, g2, g3⟩ := LiI.paired_get kv hp
    rw [hky] at g1
    cases g1
    exact g3
  · rw [Array.toArray_toList]; exact hS
/-- C(*e), the class at C by a local name -/
def tMakeVS (K : PySem.W.Frag) (C : Addr) (sp : Sp) (E : XK) (tf te : TE) : TE := fun σ H Q => tf σ H fun c H0 => c = .ref C ∧ te σ H0 fun y H1 => ∃ a xs, y = V.ref a ∧ (SqT K H1 a xs ∨ SqL K H1 a xs) ∧ ∀ x dx, H1 x = Option.none → H1 dx = Option.none → dx ≠ x →
  sp (V.ref x :: xs) (upd (upd H1 dx (.own x)) x (.ins C dx [])) (fun v H2 => v = .non ∧ Q (.ref x) H2) E
theorem pe_makeVS (M : Mk X.K C f) (F : FnR X.prog X.w X.K X.mg X.base CX k f sp) (hr : Room (k + 1) X.A) (hx : Passes CX X E) (hf : PE X (.Name x np) tf) (he : PE X e te)
    (hst : starEach [.Starred e sp_] X.env = [(true, eval e X.env)] := by rfl) : PE X (.Call (.Name x np) [.Starred e sp_] [] pos) (tMakeVS X.K C sp E tf te) := by
  refine ⟨fun pins s σ H Q I h => wpAny_Call_Name_kw (thn (hf.run pins s σ H _ I h) fun u s1 ⟨c, H1, I1, rc, ec, q1⟩ => ?_)⟩
  subst ec
  cases rc
  refine PySem.W.callWith_S (h₀ := X.base) I1.ok.mod.kin M.kp (thn (he.run pins s1 σ H1 _ I1 q1) fun v s2 ⟨y, H2, I2, ry, a, xs, ey, hxs, q⟩ => ?_) hst
  subst ey
  obtain rfl : v = Value.ref a := ry
  exact StX.star_any I2 hxs fun us s3 I3 rv => ⟨I3.kIn, StX.run_makeR M F hr hx I3 rv q⟩
/-- o.m(e, ..), the method's def keeps its promise -/
theorem pe_methF {pl : Sem Bool} (he : PE X o ta) (c : Cls X.K C) (hm : Meth X.K C m f) (G : OkF X.prog X.w X.K X.mg X.base CX k f ps sp) (hr : Room k X.A) (hx : Passes CX X E) (ha : PA X (e :: es) t)
    (hst : starEach (e :: es) X.env = (false, eval e X.env) :: starEach es X.env := by rfl) (hpl : (backTo pos (starEach es X.env)).any (·.1) = false := by rfl)
    (ht : eval (.Call (.Attribute o m apos) (e :: es) [] pos) X.env = (do
      let ov ← eval o X.env
      standAt apos.atName
      let (f, first) ← holding [ov] (getMethod ov m pl)
      callWith pos f first (backTo pos (starEach (e :: es) X.env)) (backToKw pos (keywordEach [] X.env))) := by rfl) :
    PE X (.Call (.Attribute o m apos) (e :: es) [] pos) (tMeth C m sp [] E ta t) := by
  obtain ⟨fd, F, b, kp⟩ := G
  exact pe_meth he c hm F hr b .nil hx ha hst hpl ht
theorem pe_methF0 {pl : Sem Bool} (he : PE X o ta) (c : Cls X.K C) (hm : Meth X.K C m f) (G : OkF X.prog X.w X.K X.mg X.base CX k f ps sp) (hr : Room k X.A) (hx : Passes CX X E)
    (ht : eval (.Call (.Attribute o m apos) [] [] pos) X.env = (do
      let ov ← eval o X.env
      standAt apos.atName
      let (f, first) ← holding [ov] (getMethod ov m pl)
      callWith pos f first (backTo pos (starEach [] X.env)) (backToKw pos (keywordEach [] X.env))) := by rfl) :
    PE X (.Call (.Attribute o m apos) [] [] pos) (tMeth C m sp [] E ta tNil) := by
  obtain ⟨fd, F, b, kp⟩ := G
  exact pe_meth0 he c hm F hr b .nil hx ht
end
end Xr
set_option maxHeartbeats 4000000
/-! lists and tuples compared whose items are flat or the same objects; def f(a, *v) -/
namespace Xr
open PySem PySem.Spec PyProof.Rows L2
def okI : V → V → Bool
  | .ref a, .ref b => a == b
  | x, y => flatV x && flatV y
def eqI : V → V → Bool
  | .ref a, .ref b => a == b
  | x, y => eqV x y
theorem okI_flat {x y : V} (hx : ∀ a, x ≠ .ref a) (h : okI x y = true) : flatV x = true ∧ flatV y = true ∧ eqI x y = eqV x y := by
  cases x <;> cases y <;> first
    | exact absurd rfl (hx _)
    | (unfold okI at h; obtain ⟨a, b⟩ := He.ba h; exact ⟨a, b, rfl⟩)
theorem eqAt_I {A : Around} {s : Shared} {x y : V} {u v : Value} (rx : RelV x u) (ry : RelV y v) (h : okI x y = true) : SeqAt.EqAt A s u v (eqI x y) := by
  cases x with
  | ref a =>
    cases y with
    | ref b =>
      have e : a = b := eq_of_beq h
      subst e
      cases rx
      cases ry
      have e2 : eqI (.ref a) (.ref a) = true := beq_self_eq_true a
      rw [e2]
      exact SeqAt.EqAt.same _
    | _ => unfold okI at h; simp [flatV] at h
  | _ =>
    obtain ⟨h1, h2, h3⟩ := okI_flat (fun a z => by cases z) h
    rw [h3]
    exact eqAt_V rx ry h1 h2
def eqAtI (xs ys : List V) (i : Nat) : Bool := eqI (xs.getD i .non) (ys.getD i .non)
def eqIs (xs ys : List V) : Bool := xs.length == ys.length && (List.range xs.length).all (eqAtI xs ys)
def OkIs (xs ys : List V) : Prop := xs.length = ys.length → ∀ (i : Nat) (x y : V), xs[i]? = some x → ys[i]? = some y → okI x y = true
theorem okI_self {x : V} (h : okI x x = true) : eqI x x = true := by
  cases x with
  | ref a => exact beq_self_eq_true a
  | non => rfl
  | bl b => cases b <;> rfl
  | int i => exact beq_self_eq_true i
  | str z => exact beq_self_eq_true z
  | _ => unfold okI at h; simp [flatV] at h
theorem eqIs_self {xs : List V} (h : ∀ x ∈ xs, okI x x = true) : OkIs xs xs ∧ eqIs xs xs = true := by
  refine ⟨fun _ i x y h1 h2 => ?_, ?_⟩
  · rw [h1] at h2
    cases h2
    exact h x (List.mem_of_getElem? h1)
  · unfold eqIs
    rw [beq_self_eq_true, Bool.true_and, List.all_eq_true]
    intro i hi
    have hl := List.mem_range.mp hi
    unfold eqAtI
    rw [List.getD_eq_getElem?_getD, List.getElem?_eq_getElem hl]
    exact okI_self (h _ (List.getElem_mem hl))
theorem eqIs_nil (xs : List V) : OkIs xs [] ∧ eqIs xs [] = xs.isEmpty := by
  cases xs with
  | nil => exact ⟨fun _ i x y h _ => by simp at h, rfl⟩
  | cons a r => exact ⟨fun h => by simp at h, rfl⟩
theorem okI_of {v : V} (h : match v with | .ref _ => True | _ => flatV v = true) : okI v v = true := by
  cases v with
  | ref a => exact beq_self_eq_true a
  | _ => unfold okI; simp [h]
section
variable {X : Cx} {pins : List (Addr × Obj)} {σ : L2.St} {H : Hp} {s : Shared}
theorem eqAt_its {A : Around} {xs ys : List V} {its its2 : List Value} (r : Vals xs its) (r2 : Vals ys its2) (hl : xs.length = ys.length) (ok : OkIs xs ys) : ∀ j (h1 : j < its.toArray.size) (h2 : j < its2.toArray.size), SeqAt.EqAt A s its.toArray[j] its2.toArray[j] (eqAtI xs ys j) := by
  intro j h1 h2
  have l1 := Paired.length r
  have l2 := Paired.length r2
  have j1 : j < xs.length := by simp at h1; omega
  have j2 : j < ys.length := by simp at h2; omega
  obtain ⟨u, hu, ru⟩ := r.get (List.getElem?_eq_getElem j1)
  obtain ⟨v, hv, rv⟩ := r2.get (List.getElem?_eq_getElem j2)
  have e1 : its.toArray[j] = u := by
    have z : its[j]? = some its[j] := List.getElem?_eq_getElem (by simpa using h1)
    rw [hu] at z
    simpa using (Option.some.inj z).symm
  have e2 : its2.toArray[j] = v := by
    have z : its2[j]? = some its2[j] := List.getElem?_eq_getElem (by simpa using h2)
    rw [hv] at z
    simpa using (Option.some.inj z).symm
  rw [e1, e2]
  have e3 : eqAtI xs ys j = eqI xs[j] ys[j] := by
    unfold eqAtI
    rw [List.getD_eq_getElem?_getD, List.getD_eq_getElem?_getD, List.getElem?_eq_getElem j1, List.getElem?_eq_getElem j2]
    rfl
  rw [e3]
  exact eqAt_I ru rv (ok hl j _ _ (List.getElem?_eq_getElem j1) (List.getElem?_eq_getElem j2))
/-- xs == ys, lists -/
def rEqIL (K : PySem.W.Frag) : R2 := fun x y H Q => ∃ a b xs ys, x = .ref a ∧ y = .ref b ∧ SqL K H a xs ∧ SqL K H b ys ∧ OkIs xs ys ∧ Q (.bl (eqIs xs ys)) H
def rNeIL (K : PySem.W.Frag) : R2 := fun x y H Q => ∃ a b xs ys, x = .ref a ∧ y = .ref b ∧ SqL K H a xs ∧ SqL K H b ys ∧ OkIs xs ys ∧ Q (.bl (!eqIs xs ys)) H
def rEqIT (K : PySem.W.Frag) : R2 := fun x y H Q => ∃ a b xs ys, x = .ref a ∧ y = .ref b ∧ SqT K H a xs ∧ SqT K H b ys ∧ xs.length = ys.length ∧ OkIs xs ys ∧ Q (.bl (eqIs xs ys)) H
theorem op_eqIL (hu : X.A.units < cLine) : OpR X (compareOp .Eq) (rEqIL X.K) := by
  intro pins s σ H x y v u Q I rx ry h
  obtain ⟨a, b, xs, ys, rfl, rfl, ha, hb, ok, q⟩ := h
  obtain rfl : v = Value.ref a := rx
  obtain rfl : u = Value.ref b := ry
  obtain ⟨its, r, pl, _⟩ := I.list ha
  obtain ⟨its2, r2, pl2, _⟩ := I.list hb
  have l1 := Paired.length r
  have l2 := Paired.length r2
  by_cases hl : xs.length = ys.length
  · have z := SeqAt.RcAt.lists (A := X.A) (s := s) (e := eqAtI xs ys) pl.isList pl2.isList (by simp; omega) hu (eqAt_its r r2 hl ok)
    have e : eqIs xs ys = (List.range its.toArray.size).all (eqAtI xs ys) := by
      unfold eqIs
      rw [beq_iff_eq.mpr hl, Bool.true_and, List.size_toArray, ← l1]
    rw [e] at q
    exact z _ _ _ _ ⟨.bl _, H, I, rfl, q⟩
  · have z := SeqAt.RcAt.lists_lengths (A := X.A) (s := s) pl.isList pl2.isList (by simp; omega) hu
    have e : eqIs xs ys = false := by
      unfold eqIs
      rw [beq_eq_false_iff_ne.mpr hl, Bool.false_and]
    rw [e] at q
    exact z _ _ _ _ ⟨.bl _, H, I, rfl, q⟩
theorem op_neIL (hu : X.A.units < cLine) : OpR X (compareOp .NotEq) (rNeIL X.K) := by
  intro pins s σ H x y v u Q I rx ry h
  obtain ⟨a, b, xs, ys, rfl, rfl, ha, hb, ok, q⟩ := h
  obtain rfl : v = Value.ref a := rx
  obtain rfl : u = Value.ref b := ry
  obtain ⟨its, r, pl, _⟩ := I.list ha
  obtain ⟨its2, r2, pl2, _⟩ := I.list hb
  have l1 := Paired.length r
  have l2 := Paired.length r2
  by_cases hl : xs.length = ys.length
  · have z := SeqAt.RcNeAt.lists (A := X.A) (s := s) (e := eqAtI xs ys) pl.isList pl2.isList (by simp; omega) hu (eqAt_its r r2 hl ok)
    have e : eqIs xs ys = (List.range its.toArray.size).all (eqAtI xs ys) := by
      unfold eqIs
      rw [beq_iff_eq.mpr hl, Bool.true_and, List.size_toArray, ← l1]
    rw [e] at q
    exact z _ _ _ _ ⟨.bl _, H, I, rfl, q⟩
  · have z := SeqAt.RcNeAt.lists_lengths (A := X.A) (s := s) pl.isList pl2.isList (by simp; omega) hu
    have e : eqIs xs ys = false := by
      unfold eqIs
      rw [beq_eq_false_iff_ne.mpr hl, Bool.false_and]
    rw [e] at q
    exact z _ _ _ _ ⟨.bl _, H, I, rfl, q⟩
theorem op_eqIT (hu : X.A.units < cLine) : OpR X (compareOp .Eq) (rEqIT X.K) := by
  intro pins s σ H x y v u Q I rx ry h
  obtain ⟨a, b, xs, ys, rfl, rfl, ha, hb, hl, ok, q⟩ := h
  obtain rfl : v = Value.ref a := rx
  obtain rfl : u = Value.ref b := ry
  obtain ⟨its, r, pl, _⟩ := I.tuple ha
  obtain ⟨its2, r2, pl2, _⟩ := I.tuple hb
  have l1 := Paired.length r
  have l2 := Paired.length r2
  have z := SeqAt.RcAt.tuples (A := X.A) (s := s) (e := eqAtI xs ys) pl pl2 hu (eqAt_its r r2 hl ok)
  have e : eqIs xs ys = ((List.range (min its.toArray.size its2.toArray.size)).all (eqAtI xs ys) && its.toArray.size == its2.toArray.size) := by
    unfold eqIs
    rw [beq_iff_eq.mpr hl, Bool.true_and, List.size_toArray, List.size_toArray, ← l1, ← l2, ← hl, Nat.min_self, beq_self_eq_true, Bool.and_true]
  rw [e] at q
  exact z _ _ _ _ ⟨.bl _, H, I, rfl, q⟩
theorem op_eqITK (K : PySem.W.Frag) (eK : X.K = K := by rfl) (hu : X.A.units < cLine) : OpR X (compareOp .Eq) (rEqIT K) := by
  subst eK
  exact op_eqIT hu
end
theorem pe_fldK {X : Cx} {e : Expr} {f : Str} {pos : Pos} {ta : TE} (K : PySem.W.Frag) (he : PE X e ta) (hb : attributeBase e f X.env (eval e X.env) = eval e X.env) (h : X.K = K := by rfl) : PE X (.Attribute e f pos) (tFld K ta f) := by
  subst h
  exact pe_fld he hb
theorem op_inK {X : Cx} (K : PySem.W.Frag) (h : X.K = K := by rfl) : OpR X (compareOp .In) (rIn K false) := by
  subst h
  exact op_in_seq
theorem op_notInK {X : Cx} (K : PySem.W.Frag) (h : X.K = K := by rfl) : OpR X (compareOp .NotIn) (rIn K true) := by
  subst h
  exact op_notIn_seq
theorem inV_str {x : Str} {l : List Str} : inV (.str x) (l.map V.str) = decide (x ∈ l) := by
  unfold inV
  rw [List.any_map, Bool.eq_iff_iff, List.any_eq_true, decide_eq_true_iff]
  constructor
  · rintro ⟨y, hy, e⟩
    have e2 : (y == x) = true := e
    exact eq_of_beq e2 ▸ hy
  · exact fun h => ⟨x, h, beq_self_eq_true x⟩
theorem flat_strs (l : List Str) : (l.map V.str).all flatV = true := List.all_eq_true.mpr fun v hv => by
  obtain ⟨x, _, rfl⟩ := List.mem_map.mp hv
  rfl
section
variable {CX : CXT} {P : Program} {w : World} {K : PySem.W.Frag} {mg : Str → Option Value} {base : Heap} {k : Nat} {f : Addr} {x qual : Str} {params : Arguments} {body : List Stmt} {scope : Scope} {fd : FuncData} {N ps : List Str} {sp : Sp} {pv : Str} {kws : List (Str × V)}
/-- def f(a, .., *v) -/
theorem fn_starF (F : FunD K x qual params body scope [] kws f fd) (S : FnScope N (ps ++ [pv]) scope) (hCX : StX.CXUp CX)
    (hb : ∀ (kV doc pm : Value) (an : Option Addr) (cdv ct : Value) (us rest : List Value), us.length = ps.length → bindArgs (PySem.W.fnOf x qual params body scope .none kV doc pm an cdv ct) ⟨us ++ rest, []⟩ = (newTuple rest >>= fun t => pure (ps.zip us ++ [(pv, t)])))
    (hbody : ∀ (cdv : Value) (A : Around) (outer : List Env) (s : Shared) (H : Hp) (vs : List V) (Q : VK) (E : XK), Room k (A.deeper (envOfC qual scope s.heap.objs.size f cdv)) → sp vs H Q E →
      ∃ t, PSs (cxOf CX P w K mg base N qual scope f cdv A outer s H E) body t ∧ t { nx := fun _ H' => Q .non H', rt := Q } (start N vs) H) :
    FnR P w K mg base CX (k + 1) f (fun vs H Q E => ∃ ws rest, vs = ws ++ rest ∧ ws.length = ps.length ∧ rest.length ≤ sizeLine ∧ ∀ p, H p = Option.none → sp (ws ++ [V.ref p]) (upd H p (.tup rest)) Q E) := by
  obtain ⟨oc, od, dV, kV', doc, pm, an, cdv, ct, osl, rfl, lk, hcd, hDf, _⟩ := F.ex
  obtain rfl : dV = .none := by
    rcases hDf with ⟨_, e⟩ | ⟨e, _⟩
    · exact e
    · exact absurd rfl e
  exact StX.fn_star lk hcd S hCX (hb _ _ _ _ _ _) fun A outer s H vs Q E hr h => hbody _ A outer s H vs Q E hr h
end
end Xr
set_option maxHeartbeats 4000000
/-! for and if in the body of a generator -/
namespace Xr
open PySem PySem.Spec PyProof.Rows L2 GenW
section
variable {M : Model} {A : Around} {R : GenEnd} {Y : Protocol} {n : Nat} {s₀ : Shared} {c : Code} {fs : List Frame} {s : Shared} {env : Env} {K : Flow → Sem PySem.Fin} {J : Value → Sem PySem.Fin} {gd : Bool → Bool} {lv : List Value → List Value}
theorem seg_For {target iter : Expr} {body : List Stmt} {pos : Pos}
    (h : wpAny M (A.over c fs) (eval iter env) (fun x s1 => wpAny M (A.over c fs) (pyIter x) (fun it s2 => ∀ p, Seg M A R Y n s₀ (.forLoop target it body [] env) (M.den (.forLoop target it body [] env))
      (.ret (fun r => ((match r with | .ok f => (.pure f : Sem Flow) | .error e => .raise e).onRaise (cameBack env)).wrap K J gd lv) none (gd false) (lv []) c p [] :: fs) s2) (fun x s' => Seg M A R Y n s₀ c (J x) fs s') s1) (fun x s' => Seg M A R Y n s₀ c (J x) fs s') s)
    (hs : ∀ x, foldedSetIterable iter env x = pure x) : Seg M A R Y n s₀ c ((exec (.For target iter body [] pos) env).wrap K J gd lv) fs s := by
  rw [exec_For]
  refine seg_bind_wrap (wpAny_standAt ?_)
  refine seg_bind_wrap (wpAny_mono h (fun x s1 h1 => ?_) fun _ _ z => z)
  refine seg_bind_wrap (wpAny_of_eq (hs x) ?_)
  refine seg_bind_wrap (wpAny_standAt ?_)
  refine seg_bind_wrap (wpAny_holding (wpAny_mono h1 (fun it s2 h2 => ?_) fun _ _ z => z))
  exact seg_call h2
end
section
variable {prog : Program} {w : World} {A : Around} {R : GenEnd} {Y : Protocol} {n : Nat} {s₀ : Shared} {fs : List Frame} {s : Shared} {env : Env}
/-- what a turn of a loop does with an exception -/
abbrev noted (env : Env) (e : Value) : Sem PySem.Fin := (do noteFrame e env; theTreesLotGoes e : Sem Unit).wrap (fun _ => .raise e) .raise id id
theorem seg_block0 (h : Seg (model prog w) A R Y n s₀ (.block [] env) (.pure (.done .next)) fs s) : Seg (model prog w) A R Y n s₀ (.block [] env) ((model prog w).den (.block [] env)) fs s := h
theorem seg_forLoop {target : Expr} {it : Value} {body : List Stmt}
    (h : wpAny (model prog w) (A.over (.forLoop target it body [] env) fs) (pyNext it) (fun r s1 => match r with
      | none => Seg (model prog w) A R Y n s₀ (.block [] env) (.pure (.done .next)) fs s1
      | some v => wpAny (model prog w) (A.over (.forLoop target it body [] env) fs) (letOwnedTupleGo target it v) (fun _ s2 => wpAny (model prog w) (A.over (.forLoop target it body [] env) fs) (assign target env v) (fun _ s3 =>
          Seg (model prog w) A R Y n s₀ (.forLoop target it body [] env) ((execs body env).wrap (fun f => match f with
            | .next | .cont => .pure (.again (.forLoop target it body [] env))
            | .brk => .pure (.done .next)
            | .ret v => .pure (.done (.ret v))) (noted env) id id) fs s3)
          (fun x s' => Seg (model prog w) A R Y n s₀ (.forLoop target it body [] env) (noted env x) fs s') s2)
          (fun x s' => Seg (model prog w) A R Y n s₀ (.forLoop target it body [] env) (noted env x) fs s') s1)
      (fun x s' => Seg (model prog w) A R Y n s₀ (.forLoop target it body [] env) (noted env x) fs s') s) :
    Seg (model prog w) A R Y n s₀ (.forLoop target it body [] env) ((model prog w).den (.forLoop target it body [] env)) fs s := by
  show Seg _ A R Y n s₀ _ ((forTurn target it body [] env).onRaise (fun x => do noteFrame x env; theTreesLotGoes x)) fs s
  rw [Sem.onRaise_eq_wrap]
  have ej : ∀ e : Value, (do noteFrame e env; theTreesLotGoes e : Sem Unit).bind (fun _ => (.raise e : Sem PySem.Fin)) = noted env e := fun e => Sem.bind_eq_wrap _ _
  rw [Sem.wrap_congr (forTurn target it body [] env) _ _ (K' := fun f => (.pure f : Sem PySem.Fin)) (H' := noted env) (fun _ => rfl) ej]
  unfold forTurn
  refine seg_bind_wrap (wpAny_standAt ?_)
  refine seg_bind_wrap (wpAny_onRaise (wpAny_mono h (fun r s1 h1 => ?_) fun _ _ h' => wpAny_standAt h'))
  cases r with
  | none => exact seg_again rfl (seg_block0 h1)
  | some v =>
    refine seg_bind_wrap (wpAny_mono h1 (fun _ s2 h2 => ?_) fun _ _ z => z)
    refine seg_bind_wrap (wpAny_mono h2 (fun _ s3 h3 => ?_) fun _ _ z => z)
    rw [Sem.bind_eq_wrap', Sem.wrap_wrap]
    refine Eq.mpr (congrArg (fun t => Seg (model prog w) A R Y n s₀ (.forLoop target it body [] env) t fs s3) (Sem.wrap_congr (execs body env) (fun g => id (id g)) (fun l => id (id l)) (K' := fun f => match f with
            | .next | .cont => .pure (.again (.forLoop target it body [] env))
            | .brk => .pure (.done .next)
            | .ret v => .pure (.done (.ret v))) (H' := noted env) (fun f => ?_) (fun e => ?_))) h3
    · cases f <;> rfl
    · rfl
end
/-- a test, met at a word of one's own -/
inductive CutT (t : TT) (σ : L2.St) (H : Hp) (Q : Bool → Hp → Prop) : Prop
  | mk (J : Bool → Hp → Prop) (h : t σ H J) (k : ∀ b H', J b H' → Q b H') : CutT t σ H Q
def tCutT (t : TT) : TT := CutT t
theorem pt_cut {X : Cx} {e : Expr} {t : TT} (h : PT X e t) : PT X e (tCutT t) := by
  constructor
  rintro pins s σ H Q I ⟨J, h1, h2⟩
  refine thn (h.run pins s σ H J I h1) ?_
  rintro b s1 ⟨H1, I1, q⟩
  exact ⟨H1, I1, h2 _ _ q⟩
section
variable {X : Cx}
def tGFor (wi : TI) (g : TG) (tb : TGn) : TGn := fun D ys σ H => wi σ H fun J H1 => ∃ W : Nat → Nat → List V → L2.St → Hp → Prop, (∃ m, W 0 m ys σ H1) ∧ ∀ i m ys σ H, W i m ys σ H →
  (J.stop i H ∧ D.nx ys σ H) ∨ (J.go i H ∧ ∃ N : List V → L2.St → Hp → Prop, (∀ ys' σ' H', N ys' σ' H' → ∃ m', m' < m ∧ W (i + 1) m' ys' σ' H') ∧ ∀ x H', J.yld i H x H' → g x σ H' fun σ2 H2 => tb { D with nx := N, ct := N, bk := D.nx } ys σ2 H2)
theorem gs_for {tg iter : Expr} {body : List Stmt} {pos : Pos} {wi : TI} {g : TG} {tb : TGn} (hp : PassesOwn (model X.prog X.w) X.A X.env X.xe) (hc : X.calm = true) (hi : PI X tg iter wi) (hg : PG X tg g) (hb : GSs X body tb)
    (hs : ∀ x, foldedSetIterable iter X.env x = pure x := by intro _; rfl) : GS X (.For tg iter body [] pos) (tGFor wi g tb) := by
  refine ⟨fun A S ip R n ys s₀ c fs K J gd lv s σ H D gc hn k hI ht => ?_⟩
  obtain ⟨acc, cc, r, I⟩ := hI
  refine seg_For ?_ hs
  rw [gc.over]
  refine wpAny_mono (hi.run _ s σ H _ I ht) (fun v s1 h1 => wpAny_mono h1 (fun itv s2 h2 => ?_) fun x s' hx => k.exc n s₀ x s' hx) fun x s' hx => k.exc n s₀ x s' hx
  obtain ⟨it, fp, tn, Jt, H2, e, I2, T, st2, f2, W, ⟨m0, w0⟩, turn⟩ := h2
  subst e
  intro p
  have stat : ∀ {H' : Hp} {a1 : Array Value} {c1 : Nat}, (∀ b ∈ fp, H' b = none) → ∀ b ∈ fp, FpOk X ((S, lstObj a1 c1) :: ip) H' b := fun hn b hb => by
    obtain ⟨_, g1, g2, g3, g4, g5⟩ := f2 b hb
    refine ⟨hn b hb, g1, g2, g3, g4, fun q hq => ?_⟩
    rcases List.mem_append.mp hq with hq | hq
    · exact g5 q (List.mem_append_left _ hq)
    · rcases List.mem_cons.mp hq with rfl | hq
      · exact g5 (S, lstObj acc cc) (List.mem_append_right _ (List.mem_cons_self ..))
      · exact g5 q (List.mem_append_right _ (List.mem_cons_of_mem _ hq))
  have neS : ∀ b ∈ fp, b ≠ S := fun b hb z => (f2 b hb).2.2.2.2.2 (S, lstObj acc cc) (List.mem_append_right _ (List.mem_cons_self ..)) z.symm
  have gl := fun (kk : Result → Sem PySem.Fin) => gc_loop (k := kk) (c' := .forLoop tg (.ref it) body [] X.env) (l := lv []) (kp := []) (p := p) gc rfl rfl
  have loop : ∀ (m i n : Nat) (ys : List V) (s₀ s : Shared) (σ : L2.St) (H : Hp), n + ys.length = sizeLine → W i m ys σ H → GI X S ip ys σ H s → tn i s.heap → (∀ b ∈ fp, H b = none) →
      Seg (model X.prog X.w) A R (GY X S) n s₀ (.forLoop tg (.ref it) body [] X.env) ((model X.prog X.w).den (.forLoop tg (.ref it) body [] X.env))
        (.ret (fun r => ((match r with | .ok f => (.pure f : Sem Flow) | .error e => .raise e).onRaise (cameBack X.env)).wrap K J gd lv) none (gd false) (lv []) c p [] :: fs) s := by
    intro m
    induction m using Nat.strongRecOn with
    | ind m ih =>
      intro i n ys s₀ s σ H hn w hI st3 fr3
      have ee : ∀ (n : Nat) (s₀ : Shared) (x : Value) (s' : Shared), X.xe x s' → Seg (model X.prog X.w) A R (GY X S) n s₀ (.forLoop tg (.ref it) body [] X.env) (noted X.env x)
          (.ret (fun r => ((match r with | .ok f => (.pure f : Sem Flow) | .error e => .raise e).onRaise (cameBack X.env)).wrap K J gd lv) none (gd false) (lv []) c p [] :: fs) s' := fun n s₀ x s' hx => by
        refine seg_wrap ?_
        rw [(gl _).over]
        refine wpAny_bind (wpAny_mono (hp x s' hx) (fun _ s'' hcb => wpAny_theTreesLotGoes ?_) fun y s'' hcb => ?_)
        · exact seg_leaf (.error x) (seg_cameBack gc k hcb)
        · exact seg_leaf (.error y) (seg_cameBack gc k hcb)
      refine seg_forLoop ?_
      rw [(gl _).over]
      obtain ⟨acc, cc, r, I⟩ := hI
      rcases turn i m ys σ H w with ⟨stop, qn⟩ | ⟨go, N, hN, step⟩
      · refine wpAny_mono (T.done X rfl rfl rfl hc i _ s σ H X.xe I (stat fr3) st3 stop) (fun r' s4 ⟨hr, I4⟩ => ?_) fun x s' hx => ee n s₀ x s' hx
        subst hr
        exact seg_leaf (.ok .next) (k.ok n ys s₀ s4 .next hn ⟨σ, H, ⟨acc, cc, r, I4⟩, qn⟩)
      · refine wpAny_mono (T.item X rfl rfl rfl hc i _ s σ H X.xe I (stat fr3) st3 go) (fun r' s4 ⟨u, hr, h4⟩ => ?_) fun x s' hx => ee n s₀ x s' hx
        subst hr
        refine wpAny_mono h4 (fun _ s5 ⟨x, H5, I5, r5, y5, st5, fr5⟩ => ?_) fun x s' hx => ee n s₀ x s' hx
        have I5' := I5.pinned (stat fr5) (T.obj _ _ st5)
        refine wpAny_mono (hg.run _ s5 σ H5 x u _ I5' r5 (step x H5 y5)) (fun _ s6 ⟨σ6, H6, I6, q6⟩ => ?_) fun x s' hx => ee n s₀ x s' hx
        have gl2 : GC X S (ip ++ pinsAt fp s5.heap) A (.forLoop tg (.ref it) body [] X.env) (.ret (fun r => ((match r with | .ok f => (.pure f : Sem Flow) | .error e => .raise e).onRaise (cameBack X.env)).wrap K J gd lv) none (gd false) (lv []) c p [] :: fs) id := by
          have z := gl (fun r => ((match r with | .ok f => (.pure f : Sem Flow) | .error e => .raise e).onRaise (cameBack X.env)).wrap K J gd lv)
          refine ⟨z.pn, fun q hq => ?_, z.apart, z.over, z.split, z.guard, z.gd⟩
          rcases List.mem_append.mp hq with hq | hq
          · exact gc.ip q hq
          · exact neS _ (of_pinsAt hq).1
        have unp : ∀ {ys' : List V} {σ' : L2.St} {H' : Hp} {s' : Shared}, GI X S (ip ++ pinsAt fp s5.heap) ys' σ' H' s' → GI X S ip ys' σ' H' s' ∧ tn (i + 1) s'.heap ∧ ∀ b ∈ fp, H' b = none := fun h => by
          obtain ⟨a3, c3, r3, I3⟩ := h
          refine ⟨⟨a3, c3, r3, (show Inv X (((S, lstObj a3 c3) :: ip) ++ pinsAt fp s5.heap) _ _ _ from I3).unpinned⟩, T.keep _ _ _ st5 fun b hb o e => (I3.pin (b, o) (List.mem_append_right _ (List.mem_cons_of_mem _ (List.mem_append_right _ (mem_pinsAt hb e))))).1, fun b hb => ?_⟩
          obtain ⟨o, e, d⟩ := T.obj _ _ st5 b hb
          exact (I3.pin (b, o) (List.mem_append_right _ (List.mem_cons_of_mem _ (List.mem_append_right _ (mem_pinsAt hb e))))).2.1
        refine hb.run A S (ip ++ pinsAt fp s5.heap) R n ys s₀ _ _ _ _ id id s6 σ6 H6 { D with nx := N, ct := N, bk := D.nx } gl2 hn ⟨fun n' ys' s₀' s7 f hn' hs => ?_, fun n' s₀' x s7 hx => ee n' s₀' x s7 hx⟩ ⟨acc, cc, r, I6⟩ q6
        cases f with
        | next =>
          obtain ⟨σ7, H7, I7, n7⟩ := hs
          obtain ⟨m', hm, w7⟩ := hN ys' σ7 H7 n7
          obtain ⟨J7, t7, f7⟩ := unp I7
          exact seg_again rfl (ih m' hm (i + 1) n' ys' s₀' s7 σ7 H7 hn' w7 J7 t7 f7)
        | cont =>
          obtain ⟨σ7, H7, I7, n7⟩ := hs
          obtain ⟨m', hm, w7⟩ := hN ys' σ7 H7 n7
          obtain ⟨J7, t7, f7⟩ := unp I7
          exact seg_again rfl (ih m' hm (i + 1) n' ys' s₀' s7 σ7 H7 hn' w7 J7 t7 f7)
        | brk =>
          obtain ⟨σ7, H7, I7, q7⟩ := hs
          exact seg_leaf (.ok .next) (k.ok n' ys' s₀' s7 .next hn' ⟨σ7, H7, (unp I7).1, q7⟩)
        | ret v =>
          obtain ⟨x7, σ7, H7, I7, r7, q7⟩ := hs
          exact seg_leaf (.ok (.ret v)) (k.ok n' ys' s₀' s7 (.ret v) hn' ⟨x7, σ7, H7, (unp I7).1, r7, q7⟩)
  exact loop m0 0 n ys s₀ s2 σ H2 hn w0 ⟨acc, cc, r, I2⟩ st2 fun b hb => (f2 b hb).1
def tGIf (c : TT) (t u : TGn) : TGn := fun D ys σ H => c σ H fun b H1 => if b = true then t D ys σ H1 else u D ys σ H1
theorem gs_if {c : Expr} {a b : List Stmt} {pos : Pos} {tc : TT} {t u : TGn} (hc : PT X c tc) (ha : GSs X a t) (hb : GSs X b u) : GS X (.If c a b pos) (tGIf tc t u) := by
  refine ⟨fun A S ip R n ys s₀ c fs K J gd lv s σ H D gc hn k hI ht => ?_⟩
  obtain ⟨acc, cc, r, I⟩ := hI
  rw [exec_If]
  refine seg_bind_wrap (wpAny_standAt ?_)
  refine seg_bind_wrap ?_
  rw [gc.over]
  refine wpAny_mono (hc.run _ s σ H _ I ht) (fun d s1 ⟨H1, I1, q1⟩ => ?_) fun x s' hx => k.exc n s₀ x s' hx
  cases d with
  | true => exact ha.run A S ip R n ys s₀ _ fs K J gd lv s1 σ H1 D gc hn k ⟨acc, cc, r, I1⟩ q1
  | false => exact hb.run A S ip R n ys s₀ _ fs K J gd lv s1 σ H1 D gc hn k ⟨acc, cc, r, I1⟩ q1
/-- one statement alone -/
theorem gss_one {st : Stmt} {t : TGn} (a : GS X st t) : GSs X [st] (tGThen t tG0) := gss_cons a gss_nil
end
section
variable {P : Program} {w : World} {K : PySem.W.Frag} {mg : Str → Option Value} {base : Heap} {k : Nat} {f : Addr} {x qual : Str} {params : Arguments} {body : List Stmt} {scope : Scope} {fd : FuncData} {N ps : List Str} {sp : SpG} {kws : List (Str × V)}
/-- a generator def as the head tells it -/
theorem gfnF (F : FunD K x qual params body scope [] kws f fd) (S : GScope N ps scope) (len : ∀ vs H Q E, sp vs H Q E → vs.length = ps.length)
    (hbody : ∀ (cdv : Value) (A : Around) (outer : List Env) (s : Shared) (H : Hp) (vs : List V) (Q : List V → Hp → Prop) (E : XK) (pn : List (Addr × Obj)), Room k (A.deeper (envOfC qual scope s.heap.objs.size f cdv)) → sp vs H Q E →
      ∃ t, GSs (gcxOf P w K mg base N qual scope f cdv A outer s H E pn) body t ∧ t { nx := fun ys _ H' => Q ys H', rt := fun ys v H' => v = .non ∧ Q ys H' } [] (start N vs) H) : GFn P w K mg base (k + 1) f fd ps sp := by
  obtain ⟨oc, od, dV, kV', doc, pm, an, cdv, ct, osl, rfl, lk, hcd, hDf, _⟩ := F.ex
  exact gfn_of lk hcd S len fun A outer s H vs Q E pn hr h => hbody _ A outer s H vs Q E pn hr h
end
theorem call_tuple_ofK {X : Cx} (K : PySem.W.Frag) (h : X.K = K := by rfl) : CallR X (.type "tuple") (fun xs H Q => ∃ p ys, xs = [.ref p] ∧ ((SqL K H p ys ∧ ∀ l, H l = none → Q (.ref l) (upd H l (.tup ys))) ∨ (SqT K H p ys ∧ Q (.ref p) H))) := by
  subst h
  exact call_tuple_of
/-- e.f, a property that classes share: the class is told with the value -/
def tPropA (K : PySem.W.Frag) (m : Str) (p g : Addr) (sp : Sp) (E : XK) (ta : TE) : TE := fun σ H Q => ta σ H fun x H1 => ∃ C a dx fs, Cls K C ∧ PropOf K C m p g ∧ x = .ref a ∧ H1 a = some (.ins C dx fs) ∧ sp [.ref a] H1 Q E
theorem pe_prA {X : Cx} {CX : CXT} {k : Nat} {p g : Addr} {m : Str} {ps : List Str} {sp : Sp} {E : XK} {e : Expr} {pos : Pos} {ta : TE} (K : PySem.W.Frag) (he : PE X e ta) (G : OkF X.prog X.w X.K X.mg X.base CX k g ps sp) (hr : Room (k + 1) X.A) (hx : Passes CX X.nox E) (eK : X.K = K := by rfl)
    (hab : attributeBase e m X.env (eval e X.env) = eval e X.env := by rfl) : PE X (.Attribute e m pos) (tPropA K m p g sp E ta) := by
  subst eK
  obtain ⟨fd, F, b, kp⟩ := G
  refine ⟨fun pins s σ H Q I h => ?_⟩
  refine attr_of hab (thn (he.run pins s σ H _ I h) fun u s1 ⟨x, H1, I1, rx, C, a, dx, fs, c, hp, ex, ea, q⟩ => ?_)
  subst ex
  obtain rfl : u = Value.ref a := rx
  exact getprop_ok I1 ea c hp F hr b .nil hx q
end Xr
set_option maxHeartbeats 0
namespace Kx
open PySem PySem.Spec PyProof.Rows L2 Xr
def top (i : Nat) : Stmt := PySem.Challenge.pw_wholelots_k08_lists_refused.main.body.getD i (.Pass ⟨0, 0, 0, 0⟩)
def dD (x : Str) (i : Nat) : He.DefD := ⟨(x, none), x, x, defArgs (top i), defBody (top i), defScope (top i), [], []⟩
def dA (g : PySem.W.Frag → Addr) (x q : Str) (i j : Nat) (kw : List (Str × He.Dv) := []) : He5.DefA := ⟨g, x, q, defArgs (inClass (top i) j), defBody (inClass (top i) j), defScope (inClass (top i) j), [], kw⟩
def fn : List He.DefD := [dD "_wall" 0, dD "is_integer" 13, dD "is_whole" 14, dD "is_name" 15, dD "number_in" 16, dD "terms_text" 20, dD "word_at" 21, dD "sign_at" 22, dD "size_at" 23, dD "terms_in" 24, dD "strategy_in" 25, dD "need_numbers" 26, dD "without_zeros" 27, dD "added" 28, dD "are_strategy_legs" 31, dD "common_divisor" 34, dD "divided" 35, dD "independent_of" 37, dD "months_of" 39, dD "vectors_of" 40, dD "need_strategies" 41, dD "_law_pen" 44, dD "_law_draw" 45, dD "_law_pick" 46, dD "_law_strategy" 47, dD "_law_some" 48, dD "_law_bent" 49, dD "_law_reason" 50, dD "_law_heard" 51, dD "_law_direct" 52, dD "_law_right" 53, dD "law" 54]
def fa : List He.Fa := [.glo "_wall", .glo "LotError", .glo "InvalidLegs", .glo "InvalidStrategy", .glo "InvalidList", .glo "InvalidText", .glo "UnknownName", .glo "is_integer", .glo "is_whole", .glo "is_name", .glo "number_in", .glo "terms_text", .glo "word_at", .glo "sign_at", .glo "size_at", .glo "terms_in", .glo "strategy_in", .glo "need_numbers", .glo "without_zeros", .glo "added", .glo "Legs", .glo "TableLegs", .glo "are_strategy_legs", .glo "Strategy", .glo "common_divisor", .glo "divided", .glo "Steps", .glo "independent_of", .glo "months_of", .glo "vectors_of", .glo "need_strategies", .glo "Listing", .glo "_law_pen", .glo "_law_draw", .glo "_law_pick", .glo "_law_strategy", .glo "_law_some", .glo "_law_bent", .glo "_law_reason", .glo "_law_heard", .glo "_law_direct", .glo "_law_right", .glo "law", .free "KeyError", .free "TypeError", .free "ValueError", .free "abs", .free "all", .free "bool", .free "classmethod", .free "dict", .free "enumerate", .free "int", .free "isinstance", .free "len", .free "list", .free "property", .free "range", .free "repr", .free "sorted", .free "str", .free "super", .free "tuple", .free "zip", .str "LETTERS" "abcdefghijklmnopqrstuvwxyz", .str "DIGITS" "0123456789", .int "MOST_LETTERS" 8, .int "MOST_DIGITS" 60, .int "MOST_LEGS" 6, .int "GREATEST_LEG" 4]
abbrev file : Str := PySem.Challenge.pw_wholelots_k08_lists_refused.main.file
def da : List He5.DefA := [dA (fun K => (He.ma K (He.ga K "Legs") "__init__")) "__init__" "Legs.__init__" 29 0,
  dA (fun K => (He5.wf K (He.ga K "Legs") "classmethod" "of")) "of" "Legs.of" 29 1,
  dA (fun K => (He5.wf K (He.ga K "Legs") "classmethod" "month")) "month" "Legs.month" 29 2,
  dA (fun K => (He5.wf K (He.ga K "Legs") "classmethod" "read")) "read" "Legs.read" 29 3,
  dA (fun K => (He5.wf K (He.ga K "Legs") "property" "months")) "months" "Legs.months" 29 4,
  dA (fun K => (He.ma K (He.ga K "Legs") "__getitem__")) "__getitem__" "Legs.__getitem__" 29 5,
  dA (fun K => (He.ma K (He.ga K "Legs") "__iter__")) "__iter__" "Legs.__iter__" 29 6,
  dA (fun K => (He.ma K (He.ga K "Legs") "__len__")) "__len__" "Legs.__len__" 29 7,
  dA (fun K => (He.ma K (He.ga K "Legs") "__add__")) "__add__" "Legs.__add__" 29 8,
  dA (fun K => (He.ma K (He.ga K "Legs") "__sub__")) "__sub__" "Legs.__sub__" 29 9,
  dA (fun K => (He.ma K (He.ga K "Legs") "__neg__")) "__neg__" "Legs.__neg__" 29 10,
  dA (fun K => (He.ma K (He.ga K "Legs") "__mul__")) "__mul__" "Legs.__mul__" 29 11,
  dA (fun K => (He.ma K (He.ga K "Legs") "__eq__")) "__eq__" "Legs.__eq__" 29 12,
  dA (fun K => (He.ma K (He.ga K "Legs") "__str__")) "__str__" "Legs.__str__" 29 13,
  dA (fun K => (He.ma K (He.ga K "Strategy") "__init__")) "__init__" "Strategy.__init__" 32 0,
  dA (fun K => (He5.wf K (He.ga K "Strategy") "classmethod" "month")) "month" "Strategy.month" 32 1,
  dA (fun K => (He5.wf K (He.ga K "Strategy") "classmethod" "read")) "read" "Strategy.read" 32 2,
  dA (fun K => (He.ma K (He.ga K "Strategy") "__eq__")) "__eq__" "Strategy.__eq__" 32 3,
  dA (fun K => (He.ma K (He.ga K "Strategy") "__str__")) "__str__" "Strategy.__str__" 32 4,
  dA (fun K => (He.ma K (He.ga K "Steps") "__init__")) "__init__" "Steps.__init__" 36 0,
  dA (fun K => (He.ma K (He.ga K "Steps") "reduced")) "reduced" "Steps.reduced" 36 1,
  dA (fun K => (He.ma K (He.ga K "Steps") "take")) "take" "Steps.take" 36 2,
  dA (fun K => (He.ma K (He.ga K "Listing") "__init__")) "__init__" "Listing.__init__" 42 2,
  dA (fun K => (He5.wf K (He.ga K "Listing") "classmethod" "of")) "of" "Listing.of" 42 3,
  dA (fun K => (He5.wf K (He.ga K "Listing") "property" "names")) "names" "Listing.names" 42 4,
  dA (fun K => (He5.wf K (He.ga K "Listing") "property" "months")) "months" "Listing.months" 42 5,
  dA (fun K => (He5.wf K (He.ga K "Listing") "property" "rank")) "rank" "Listing.rank" 42 6,
  dA (fun K => (He.ma K (He.ga K "Listing") "vectors")) "vectors" "Listing.vectors" 42 7,
  dA (fun K => (He.ma K (He.ga K "Listing") "strategies")) "strategies" "Listing.strategies" 42 8,
  dA (fun K => (He.ma K (He.ga K "Listing") "with_strategy")) "with_strategy" "Listing.with_strategy" 42 9,
  dA (fun K => (He.ma K (He.ga K "Listing") "without")) "without" "Listing.without" 42 10,
  dA (fun K => (He.ma K (He.ga K "Listing") "__getitem__")) "__getitem__" "Listing.__getitem__" 42 11,
  dA (fun K => (He.ma K (He.ga K "Listing") "__iter__")) "__iter__" "Listing.__iter__" 42 12,
  dA (fun K => (He.ma K (He.ga K "Listing") "__contains__")) "__contains__" "Listing.__contains__" 42 13,
  dA (fun K => (He.ma K (He.ga K "Listing") "__len__")) "__len__" "Listing.__len__" 42 14,
  dA (fun K => (He.ma K (He.ga K "Listing") "__eq__")) "__eq__" "Listing.__eq__" 42 15]
abbrev sInvalidLegs : Stmt := inClass (top 3) 0
abbrev sInvalidStrategy : Stmt := inClass (top 4) 0
abbrev sInvalidList : Stmt := inClass (top 5) 0
abbrev sInvalidText : Stmt := inClass (top 6) 0
abbrev sUnknownName : Stmt := inClass (top 7) 0
def cl : List DefC := [(("InvalidLegs", some "__init__"), some ("__init__", "InvalidLegs.__init__", defArgs (inClass (top 3) 0), .stmts (defBody (inClass (top 3) 0)), defScope (inClass (top 3) 0), mainGlobals, ["__class__"], builtinsNs)),
  (("InvalidStrategy", some "__init__"), some ("__init__", "InvalidStrategy.__init__", defArgs (inClass (top 4) 0), .stmts (defBody (inClass (top 4) 0)), defScope (inClass (top 4) 0), mainGlobals, ["__class__"], builtinsNs)),
  (("InvalidList", some "__init__"), some ("__init__", "InvalidList.__init__", defArgs (inClass (top 5) 0), .stmts (defBody (inClass (top 5) 0)), defScope (inClass (top 5) 0), mainGlobals, ["__class__"], builtinsNs)),
  (("InvalidText", some "__init__"), some ("__init__", "InvalidText.__init__", defArgs (inClass (top 6) 0), .stmts (defBody (inClass (top 6) 0)), defScope (inClass (top 6) 0), mainGlobals, ["__class__"], builtinsNs)),
  (("UnknownName", some "__init__"), some ("__init__", "UnknownName.__init__", defArgs (inClass (top 7) 0), .stmts (defBody (inClass (top 7) 0)), defScope (inClass (top 7) 0), mainGlobals, ["__class__"], builtinsNs)),
  (("TableLegs", some "__init__"), some ("__init__", "TableLegs.__init__", defArgs (inClass (top 30) 0), .stmts (defBody (inClass (top 30) 0)), defScope (inClass (top 30) 0), mainGlobals, ["__class__"], builtinsNs))]
def eInvalidLegs (K : PySem.W.Frag) : Bool := errB file K "InvalidLegs" "ValueError" "ValueError.__init__" "ValueError.__new__" tlV ["reason"]
def eInvalidStrategy (K : PySem.W.Frag) : Bool := errB file K "InvalidStrategy" "ValueError" "ValueError.__init__" "ValueError.__new__" tlV ["reason"]
def eInvalidList (K : PySem.W.Frag) : Bool := errB file K "InvalidList" "ValueError" "ValueError.__init__" "ValueError.__new__" tlV ["reason", "name"]
def eInvalidText (K : PySem.W.Frag) : Bool := errB file K "InvalidText" "ValueError" "ValueError.__init__" "ValueError.__new__" tlV ["line", "word"]
def eUnknownName (K : PySem.W.Frag) : Bool := errB file K "UnknownName" "KeyError" "KeyError.__init__" "LookupError.__new__" tlK ["name"]
def errNs : List Str := ["InvalidLegs", "InvalidStrategy", "InvalidList", "InvalidText", "UnknownName"]
/-- which error is which, what is caught -/
def errR (K : PySem.W.Frag) : Bool := errNs.all fun x => decide (PySem.W.exmAny K (.ref (He.ga K x)) [.ref (He.ga K "LotError"), .ref (He.ga K "UnknownName")] = some true) && errNs.all fun y => decide (PySem.W.kitOne K (.ref (He.ga K x)) (.ref (He.ga K y)) = some (decide (x = y)))
def tf : List He.Defn := [("_law_right", none), ("law", none)]
def tabNd (K : PySem.W.Frag) : Bool := decide ((tf.map fun p => (He.cT K p).2).Nodup)
def exB (K : PySem.W.Frag) : Bool := allB K && (legB file K && (stgB K && (listB K && ((errR K && tabNd K) && (eInvalidLegs K && (eInvalidStrategy K && (eInvalidList K && (eInvalidText K && (eUnknownName K)))))))))
abbrev R : PySem.W.OpenRow := PySem.W.OpenLaw.row PySem.Challenge.rw_wholelots_k08_lists_refused
abbrev hk : PySem.W.Hook := hookF 6 fa fn [] tf cl da exB
def ob (s : PySem.W.SharedT) : AlF := obsF 6 fa fn [] tf cl da exB (HandSHeadRun.getT s)
theorem ob_eq (s : PySem.W.SharedT) : ob s = hk.obs s.abs := obsF_eq (HandSHeadRun.getT_eq s)
def loose : List Str := (["_wall", "LotError", "InvalidLegs", "InvalidStrategy", "InvalidList", "InvalidText", "UnknownName", "is_integer", "is_whole", "is_name", "number_in", "terms_text", "word_at", "sign_at", "size_at", "terms_in", "strategy_in", "need_numbers", "without_zeros", "added"] : List Str) ++ (["Legs", "TableLegs", "are_strategy_legs", "Strategy", "common_divisor", "divided", "Steps", "independent_of", "months_of", "vectors_of", "need_strategies", "Listing", "_law_pen", "_law_draw", "_law_pick", "_law_strategy", "_law_some", "_law_bent", "_law_reason", "_law_heard"] : List Str) ++ (["_law_direct", "_law_right", "LETTERS", "DIGITS", "MOST_LETTERS", "MOST_DIGITS", "MOST_LEGS", "GREATEST_LEG"] : List Str)

theorem run (w : World) : HandSHeadRun.RunEq R (PySem.W.view R.prog [54]) hk ob 12000 loose w := by
  intro os
  kernel_rfl
end Kx
set_option maxHeartbeats 4000000
namespace Kx
open PySem PySem.Spec PyProof.Rows L2 Xr
/-- what the walk asks of the text as the top has made it -/
structure Txt (P : Program) (K : PySem.W.Frag) (mg : Str → Option Value) : Prop where
  all : AllF K
  g__wall : mg "_wall" = some (.ref (He.ga K "_wall"))
  g_LotError : mg "LotError" = some (.ref (He.ga K "LotError"))
  g_InvalidLegs : mg "InvalidLegs" = some (.ref (He.ga K "InvalidLegs"))
  g_InvalidStrategy : mg "InvalidStrategy" = some (.ref (He.ga K "InvalidStrategy"))
  g_InvalidList : mg "InvalidList" = some (.ref (He.ga K "InvalidList"))
  g_InvalidText : mg "InvalidText" = some (.ref (He.ga K "InvalidText"))
  g_UnknownName : mg "UnknownName" = some (.ref (He.ga K "UnknownName"))
  g_is_integer : mg "is_integer" = some (.ref (He.ga K "is_integer"))
  g_is_whole : mg "is_whole" = some (.ref (He.ga K "is_whole"))
  g_is_name : mg "is_name" = some (.ref (He.ga K "is_name"))
  g_number_in : mg "number_in" = some (.ref (He.ga K "number_in"))
  g_terms_text : mg "terms_text" = some (.ref (He.ga K "terms_text"))
  g_word_at : mg "word_at" = some (.ref (He.ga K "word_at"))
  g_sign_at : mg "sign_at" = some (.ref (He.ga K "sign_at"))
  g_size_at : mg "size_at" = some (.ref (He.ga K "size_at"))
  g_terms_in : mg "terms_in" = some (.ref (He.ga K "terms_in"))
  g_strategy_in : mg "strategy_in" = some (.ref (He.ga K "strategy_in"))
  g_need_numbers : mg "need_numbers" = some (.ref (He.ga K "need_numbers"))
  g_without_zeros : mg "without_zeros" = some (.ref (He.ga K "without_zeros"))
  g_added : mg "added" = some (.ref (He.ga K "added"))
  g_Legs : mg "Legs" = some (.ref (He.ga K "Legs"))
  g_TableLegs : mg "TableLegs" = some (.ref (He.ga K "TableLegs"))
  g_are_strategy_legs : mg "are_strategy_legs" = some (.ref (He.ga K "are_strategy_legs"))
  g_Strategy : mg "Strategy" = some (.ref (He.ga K "Strategy"))
  g_common_divisor : mg "common_divisor" = some (.ref (He.ga K "common_divisor"))
  g_divided : mg "divided" = some (.ref (He.ga K "divided"))
  g_Steps : mg "Steps" = some (.ref (He.ga K "Steps"))
  g_independent_of : mg "independent_of" = some (.ref (He.ga K "independent_of"))
  g_months_of : mg "months_of" = some (.ref (He.ga K "months_of"))
  g_vectors_of : mg "vectors_of" = some (.ref (He.ga K "vectors_of"))
  g_need_strategies : mg "need_strategies" = some (.ref (He.ga K "need_strategies"))
  g_Listing : mg "Listing" = some (.ref (He.ga K "Listing"))
  g__law_pen : mg "_law_pen" = some (.ref (He.ga K "_law_pen"))
  g__law_draw : mg "_law_draw" = some (.ref (He.ga K "_law_draw"))
  g__law_pick : mg "_law_pick" = some (.ref (He.ga K "_law_pick"))
  g__law_strategy : mg "_law_strategy" = some (.ref (He.ga K "_law_strategy"))
  g__law_some : mg "_law_some" = some (.ref (He.ga K "_law_some"))
  g__law_bent : mg "_law_bent" = some (.ref (He.ga K "_law_bent"))
  g__law_reason : mg "_law_reason" = some (.ref (He.ga K "_law_reason"))
  g__law_heard : mg "_law_heard" = some (.ref (He.ga K "_law_heard"))
  g__law_direct : mg "_law_direct" = some (.ref (He.ga K "_law_direct"))
  g__law_right : mg "_law_right" = some (.ref (He.ga K "_law_right"))
  g_law : mg "law" = some (.ref (He.ga K "law"))
  z_KeyError : mg "KeyError" = none
  z_TypeError : mg "TypeError" = none
  z_ValueError : mg "ValueError" = none
  z_abs : mg "abs" = none
  z_all : mg "all" = none
  z_bool : mg "bool" = none
  z_classmethod : mg "classmethod" = none
  z_dict : mg "dict" = none
  z_enumerate : mg "enumerate" = none
  z_int : mg "int" = none
  z_isinstance : mg "isinstance" = none
  z_len : mg "len" = none
  z_list : mg "list" = none
  z_property : mg "property" = none
  z_range : mg "range" = none
  z_repr : mg "repr" = none
  z_sorted : mg "sorted" = none
  z_str : mg "str" = none
  z_super : mg "super" = none
  z_tuple : mg "tuple" = none
  z_zip : mg "zip" = none
  c_LETTERS : ∃ t, mg "LETTERS" = some (.str "abcdefghijklmnopqrstuvwxyz" t)
  c_DIGITS : ∃ t, mg "DIGITS" = some (.str "0123456789" t)
  c_MOST_LETTERS : ∃ t, mg "MOST_LETTERS" = some (.int 8 t)
  c_MOST_DIGITS : ∃ t, mg "MOST_DIGITS" = some (.int 60 t)
  c_MOST_LEGS : ∃ t, mg "MOST_LEGS" = some (.int 6 t)
  c_GREATEST_LEG : ∃ t, mg "GREATEST_LEG" = some (.int 4 t)
  F__wall : ∃ fd, FunD K "_wall" "_wall" (defArgs (top 0)) (defBody (top 0)) (defScope (top 0)) [] [] (He.ga K "_wall") fd
  F_is_integer : ∃ fd, FunD K "is_integer" "is_integer" (defArgs (top 13)) (defBody (top 13)) (defScope (top 13)) [] [] (He.ga K "is_integer") fd
  F_is_whole : ∃ fd, FunD K "is_whole" "is_whole" (defArgs (top 14)) (defBody (top 14)) (defScope (top 14)) [] [] (He.ga K "is_whole") fd
  F_is_name : ∃ fd, FunD K "is_name" "is_name" (defArgs (top 15)) (defBody (top 15)) (defScope (top 15)) [] [] (He.ga K "is_name") fd
  F_number_in : ∃ fd, FunD K "number_in" "number_in" (defArgs (top 16)) (defBody (top 16)) (defScope (top 16)) [] [] (He.ga K "number_in") fd
  F_terms_text : ∃ fd, FunD K "terms_text" "terms_text" (defArgs (top 20)) (defBody (top 20)) (defScope (top 20)) [] [] (He.ga K "terms_text") fd
  F_word_at : ∃ fd, FunD K "word_at" "word_at" (defArgs (top 21)) (defBody (top 21)) (defScope (top 21)) [] [] (He.ga K "word_at") fd
  F_sign_at : ∃ fd, FunD K "sign_at" "sign_at" (defArgs (top 22)) (defBody (top 22)) (defScope (top 22)) [] [] (He.ga K "sign_at") fd
  F_size_at : ∃ fd, FunD K "size_at" "size_at" (defArgs (top 23)) (defBody (top 23)) (defScope (top 23)) [] [] (He.ga K "size_at") fd
  F_terms_in : ∃ fd, FunD K "terms_in" "terms_in" (defArgs (top 24)) (defBody (top 24)) (defScope (top 24)) [] [] (He.ga K "terms_in") fd
  F_strategy_in : ∃ fd, FunD K "strategy_in" "strategy_in" (defArgs (top 25)) (defBody (top 25)) (defScope (top 25)) [] [] (He.ga K "strategy_in") fd
  F_need_numbers : ∃ fd, FunD K "need_numbers" "need_numbers" (defArgs (top 26)) (defBody (top 26)) (defScope (top 26)) [] [] (He.ga K "need_numbers") fd
  F_without_zeros : ∃ fd, FunD K "without_zeros" "without_zeros" (defArgs (top 27)) (defBody (top 27)) (defScope (top 27)) [] [] (He.ga K "without_zeros") fd
  F_added : ∃ fd, FunD K "added" "added" (defArgs (top 28)) (defBody (top 28)) (defScope (top 28)) [] [] (He.ga K "added") fd
  F_are_strategy_legs : ∃ fd, FunD K "are_strategy_legs" "are_strategy_legs" (defArgs (top 31)) (defBody (top 31)) (defScope (top 31)) [] [] (He.ga K "are_strategy_legs") fd
  F_common_divisor : ∃ fd, FunD K "common_divisor" "common_divisor" (defArgs (top 34)) (defBody (top 34)) (defScope (top 34)) [] [] (He.ga K "common_divisor") fd
  F_divided : ∃ fd, FunD K "divided" "divided" (defArgs (top 35)) (defBody (top 35)) (defScope (top 35)) [] [] (He.ga K "divided") fd
  F_independent_of : ∃ fd, FunD K "independent_of" "independent_of" (defArgs (top 37)) (defBody (top 37)) (defScope (top 37)) [] [] (He.ga K "independent_of") fd
  F_months_of : ∃ fd, FunD K "months_of" "months_of" (defArgs (top 39)) (defBody (top 39)) (defScope (top 39)) [] [] (He.ga K "months_of") fd
  F_vectors_of : ∃ fd, FunD K "vectors_of" "vectors_of" (defArgs (top 40)) (defBody (top 40)) (defScope (top 40)) [] [] (He.ga K "vectors_of") fd
  F_need_strategies : ∃ fd, FunD K "need_strategies" "need_strategies" (defArgs (top 41)) (defBody (top 41)) (defScope (top 41)) [] [] (He.ga K "need_strategies") fd
  F__law_pen : ∃ fd, FunD K "_law_pen" "_law_pen" (defArgs (top 44)) (defBody (top 44)) (defScope (top 44)) [] [] (He.ga K "_law_pen") fd
  F__law_draw : ∃ fd, FunD K "_law_draw" "_law_draw" (defArgs (top 45)) (defBody (top 45)) (defScope (top 45)) [] [] (He.ga K "_law_draw") fd
  F__law_pick : ∃ fd, FunD K "_law_pick" "_law_pick" (defArgs (top 46)) (defBody (top 46)) (defScope (top 46)) [] [] (He.ga K "_law_pick") fd
  F__law_strategy : ∃ fd, FunD K "_law_strategy" "_law_strategy" (defArgs (top 47)) (defBody (top 47)) (defScope (top 47)) [] [] (He.ga K "_law_strategy") fd
  F__law_some : ∃ fd, FunD K "_law_some" "_law_some" (defArgs (top 48)) (defBody (top 48)) (defScope (top 48)) [] [] (He.ga K "_law_some") fd
  F__law_bent : ∃ fd, FunD K "_law_bent" "_law_bent" (defArgs (top 49)) (defBody (top 49)) (defScope (top 49)) [] [] (He.ga K "_law_bent") fd
  F__law_reason : ∃ fd, FunD K "_law_reason" "_law_reason" (defArgs (top 50)) (defBody (top 50)) (defScope (top 50)) [] [] (He.ga K "_law_reason") fd
  F__law_heard : ∃ fd, FunD K "_law_heard" "_law_heard" (defArgs (top 51)) (defBody (top 51)) (defScope (top 51)) [] [] (He.ga K "_law_heard") fd
  F__law_direct : ∃ fd, FunD K "_law_direct" "_law_direct" (defArgs (top 52)) (defBody (top 52)) (defScope (top 52)) [] [] (He.ga K "_law_direct") fd
  F__law_right : ∃ fd, FunD K "_law_right" "_law_right" (defArgs (top 53)) (defBody (top 53)) (defScope (top 53)) [] [] (He.ga K "_law_right") fd
  F_law : ∃ fd, FunD K "law" "law" (defArgs (top 54)) (defBody (top 54)) (defScope (top 54)) [] [] (He.ga K "law") fd
  F_Legs___init__ : ∃ fd, FunD K "__init__" "Legs.__init__" (defArgs (inClass (top 29) 0)) (defBody (inClass (top 29) 0)) (defScope (inClass (top 29) 0)) [] [] (He.ma K (He.ga K "Legs") "__init__") fd
  F_Legs_of : ∃ fd, FunD K "of" "Legs.of" (defArgs (inClass (top 29) 1)) (defBody (inClass (top 29) 1)) (defScope (inClass (top 29) 1)) [] [] (He5.wf K (He.ga K "Legs") "classmethod" "of") fd
  F_Legs_month : ∃ fd, FunD K "month" "Legs.month" (defArgs (inClass (top 29) 2)) (defBody (inClass (top 29) 2)) (defScope (inClass (top 29) 2)) [] [] (He5.wf K (He.ga K "Legs") "classmethod" "month") fd
  F_Legs_read : ∃ fd, FunD K "read" "Legs.read" (defArgs (inClass (top 29) 3)) (defBody (inClass (top 29) 3)) (defScope (inClass (top 29) 3)) [] [] (He5.wf K (He.ga K "Legs") "classmethod" "read") fd
  F_Legs_months : ∃ fd, FunD K "months" "Legs.months" (defArgs (inClass (top 29) 4)) (defBody (inClass (top 29) 4)) (defScope (inClass (top 29) 4)) [] [] (He5.wf K (He.ga K "Legs") "property" "months") fd
  F_Legs___getitem__ : ∃ fd, FunD K "__getitem__" "Legs.__getitem__" (defArgs (inClass (top 29) 5)) (defBody (inClass (top 29) 5)) (defScope (inClass (top 29) 5)) [] [] (He.ma K (He.ga K "Legs") "__getitem__") fd
  F_Legs___iter__ : ∃ fd, FunD K "__iter__" "Legs.__iter__" (defArgs (inClass (top 29) 6)) (defBody (inClass (top 29) 6)) (defScope (inClass (top 29) 6)) [] [] (He.ma K (He.ga K "Legs") "__iter__") fd
  F_Legs___len__ : ∃ fd, FunD K "__len__" "Legs.__len__" (defArgs (inClass (top 29) 7)) (defBody (inClass (top 29) 7)) (defScope (inClass (top 29) 7)) [] [] (He.ma K (He.ga K "Legs") "__len__") fd
  F_Legs___add__ : ∃ fd, FunD K "__add__" "Legs.__add__" (defArgs (inClass (top 29) 8)) (defBody (inClass (top 29) 8)) (defScope (inClass (top 29) 8)) [] [] (He.ma K (He.ga K "Legs") "__add__") fd
  F_Legs___sub__ : ∃ fd, FunD K "__sub__" "Legs.__sub__" (defArgs (inClass (top 29) 9)) (defBody (inClass (top 29) 9)) (defScope (inClass (top 29) 9)) [] [] (He.ma K (He.ga K "Legs") "__sub__") fd
  F_Legs___neg__ : ∃ fd, FunD K "__neg__" "Legs.__neg__" (defArgs (inClass (top 29) 10)) (defBody (inClass (top 29) 10)) (defScope (inClass (top 29) 10)) [] [] (He.ma K (He.ga K "Legs") "__neg__") fd
  F_Legs___mul__ : ∃ fd, FunD K "__mul__" "Legs.__mul__" (defArgs (inClass (top 29) 11)) (defBody (inClass (top 29) 11)) (defScope (inClass (top 29) 11)) [] [] (He.ma K (He.ga K "Legs") "__mul__") fd
  F_Legs___eq__ : ∃ fd, FunD K "__eq__" "Legs.__eq__" (defArgs (inClass (top 29) 12)) (defBody (inClass (top 29) 12)) (defScope (inClass (top 29) 12)) [] [] (He.ma K (He.ga K "Legs") "__eq__") fd
  F_Legs___str__ : ∃ fd, FunD K "__str__" "Legs.__str__" (defArgs (inClass (top 29) 13)) (defBody (inClass (top 29) 13)) (defScope (inClass (top 29) 13)) [] [] (He.ma K (He.ga K "Legs") "__str__") fd
  F_Strategy___init__ : ∃ fd, FunD K "__init__" "Strategy.__init__" (defArgs (inClass (top 32) 0)) (defBody (inClass (top 32) 0)) (defScope (inClass (top 32) 0)) [] [] (He.ma K (He.ga K "Strategy") "__init__") fd
  F_Strategy_month : ∃ fd, FunD K "month" "Strategy.month" (defArgs (inClass (top 32) 1)) (defBody (inClass (top 32) 1)) (defScope (inClass (top 32) 1)) [] [] (He5.wf K (He.ga K "Strategy") "classmethod" "month") fd
  F_Strategy_read : ∃ fd, FunD K "read" "Strategy.read" (defArgs (inClass (top 32) 2)) (defBody (inClass (top 32) 2)) (defScope (inClass (top 32) 2)) [] [] (He5.wf K (He.ga K "Strategy") "classmethod" "read") fd
  F_Strategy___eq__ : ∃ fd, FunD K "__eq__" "Strategy.__eq__" (defArgs (inClass (top 32) 3)) (defBody (inClass (top 32) 3)) (defScope (inClass (top 32) 3)) [] [] (He.ma K (He.ga K "Strategy") "__eq__") fd
  F_Strategy___str__ : ∃ fd, FunD K "__str__" "Strategy.__str__" (defArgs (inClass (top 32) 4)) (defBody (inClass (top 32) 4)) (defScope (inClass (top 32) 4)) [] [] (He.ma K (He.ga K "Strategy") "__str__") fd
  F_Steps___init__ : ∃ fd, FunD K "__init__" "Steps.__init__" (defArgs (inClass (top 36) 0)) (defBody (inClass (top 36) 0)) (defScope (inClass (top 36) 0)) [] [] (He.ma K (He.ga K "Steps") "__init__") fd
  F_Steps_reduced : ∃ fd, FunD K "reduced" "Steps.reduced" (defArgs (inClass (top 36) 1)) (defBody (inClass (top 36) 1)) (defScope (inClass (top 36) 1)) [] [] (He.ma K (He.ga K "Steps") "reduced") fd
  F_Steps_take : ∃ fd, FunD K "take" "Steps.take" (defArgs (inClass (top 36) 2)) (defBody (inClass (top 36) 2)) (defScope (inClass (top 36) 2)) [] [] (He.ma K (He.ga K "Steps") "take") fd
  F_Listing___init__ : ∃ fd, FunD K "__init__" "Listing.__init__" (defArgs (inClass (top 42) 2)) (defBody (inClass (top 42) 2)) (defScope (inClass (top 42) 2)) [] [] (He.ma K (He.ga K "Listing") "__init__") fd
  F_Listing_of : ∃ fd, FunD K "of" "Listing.of" (defArgs (inClass (top 42) 3)) (defBody (inClass (top 42) 3)) (defScope (inClass (top 42) 3)) [] [] (He5.wf K (He.ga K "Listing") "classmethod" "of") fd
  F_Listing_names : ∃ fd, FunD K "names" "Listing.names" (defArgs (inClass (top 42) 4)) (defBody (inClass (top 42) 4)) (defScope (inClass (top 42) 4)) [] [] (He5.wf K (He.ga K "Listing") "property" "names") fd
  F_Listing_months : ∃ fd, FunD K "months" "Listing.months" (defArgs (inClass (top 42) 5)) (defBody (inClass (top 42) 5)) (defScope (inClass (top 42) 5)) [] [] (He5.wf K (He.ga K "Listing") "property" "months") fd
  F_Listing_rank : ∃ fd, FunD K "rank" "Listing.rank" (defArgs (inClass (top 42) 6)) (defBody (inClass (top 42) 6)) (defScope (inClass (top 42) 6)) [] [] (He5.wf K (He.ga K "Listing") "property" "rank") fd
  F_Listing_vectors : ∃ fd, FunD K "vectors" "Listing.vectors" (defArgs (inClass (top 42) 7)) (defBody (inClass (top 42) 7)) (defScope (inClass (top 42) 7)) [] [] (He.ma K (He.ga K "Listing") "vectors") fd
  F_Listing_strategies : ∃ fd, FunD K "strategies" "Listing.strategies" (defArgs (inClass (top 42) 8)) (defBody (inClass (top 42) 8)) (defScope (inClass (top 42) 8)) [] [] (He.ma K (He.ga K "Listing") "strategies") fd
  F_Listing_with_strategy : ∃ fd, FunD K "with_strategy" "Listing.with_strategy" (defArgs (inClass (top 42) 9)) (defBody (inClass (top 42) 9)) (defScope (inClass (top 42) 9)) [] [] (He.ma K (He.ga K "Listing") "with_strategy") fd
  F_Listing_without : ∃ fd, FunD K "without" "Listing.without" (defArgs (inClass (top 42) 10)) (defBody (inClass (top 42) 10)) (defScope (inClass (top 42) 10)) [] [] (He.ma K (He.ga K "Listing") "without") fd
  F_Listing___getitem__ : ∃ fd, FunD K "__getitem__" "Listing.__getitem__" (defArgs (inClass (top 42) 11)) (defBody (inClass (top 42) 11)) (defScope (inClass (top 42) 11)) [] [] (He.ma K (He.ga K "Listing") "__getitem__") fd
  F_Listing___iter__ : ∃ fd, FunD K "__iter__" "Listing.__iter__" (defArgs (inClass (top 42) 12)) (defBody (inClass (top 42) 12)) (defScope (inClass (top 42) 12)) [] [] (He.ma K (He.ga K "Listing") "__iter__") fd
  F_Listing___contains__ : ∃ fd, FunD K "__contains__" "Listing.__contains__" (defArgs (inClass (top 42) 13)) (defBody (inClass (top 42) 13)) (defScope (inClass (top 42) 13)) [] [] (He.ma K (He.ga K "Listing") "__contains__") fd
  F_Listing___len__ : ∃ fd, FunD K "__len__" "Listing.__len__" (defArgs (inClass (top 42) 14)) (defBody (inClass (top 42) 14)) (defScope (inClass (top 42) 14)) [] [] (He.ma K (He.ga K "Listing") "__len__") fd
  F_Listing___eq__ : ∃ fd, FunD K "__eq__" "Listing.__eq__" (defArgs (inClass (top 42) 15)) (defBody (inClass (top 42) 15)) (defScope (inClass (top 42) 15)) [] [] (He.ma K (He.ga K "Listing") "__eq__") fd
  e_InvalidLegs : Err P K (He.ga K "InvalidLegs") ["reason"]
  e_InvalidStrategy : Err P K (He.ga K "InvalidStrategy") ["reason"]
  e_InvalidList : Err P K (He.ga K "InvalidList") ["reason", "name"]
  e_InvalidText : Err P K (He.ga K "InvalidText") ["line", "word"]
  e_UnknownName : Err P K (He.ga K "UnknownName") ["name"]
  exm : ∀ x ∈ errNs, PySem.W.exmAny K (.ref (He.ga K x)) [.ref (He.ga K "LotError"), .ref (He.ga K "UnknownName")] = some true
  tnd : (tf.map fun p => (He.cT K p).2).Nodup
  kitE : ∀ x ∈ errNs, ∀ y ∈ errNs, PySem.W.kitOne K (.ref (He.ga K x)) (.ref (He.ga K y)) = some (decide (x = y))
  leg : LegF P K "TableLegs.__init__" (defArgs (inClass (top 30) 0)) (defBody (inClass (top 30) 0)) (defScope (inClass (top 30) 0))
  stg : StF K
  lis : LiF K
local macro_rules | `(tactic| walk_at "rd") => `(tactic| (repeat (first | apply Exists.intro | (refine And.intro rfl ?_) | (refine And.intro (SqL.of (by assumption)) ?_) | (refine And.intro (Or.inl (SqL.of (by assumption))) ?_) | (refine Or.inl ⟨_, rfl, ?_⟩) | (refine Or.inr ⟨_, rfl, ?_⟩) | (refine And.intro (by assumption) ?_) | (refine And.intro (Or.inl (by assumption)) ?_))))
section
variable {P : Program} {w : World} {K : PySem.W.Frag} {mg : Str → Option Value} {base : Heap}
theorem sc_is_integer : FnScope ["value"] ["value"] (defScope (top 13)) := ⟨rfl, rfl, rfl, by decide +kernel, rfl, by decide +kernel, by decide +kernel⟩
def spIsInt (K : PySem.W.Frag) : Sp := fun vs H Q _ => ∃ v t b1 b2, vs = [v] ∧ TyX K H v t ∧ PySem.W.kitOne K t (.type "int") = some b1 ∧ PySem.W.kitOne K t (.type "bool") = some b2 ∧ Q (.bl (b1 && !b2)) H
theorem ok_is_integer (T : Txt P K mg) : OkF P w K mg base CX0 1 (He.ga K "is_integer") ["value"] (spIsInt K) := by
  obtain ⟨fd, F⟩ := T.F_is_integer
  refine ⟨fd, F.ok sc_is_integer (fun vs H Q E h => ?_) (fun cdv A outer s H vs Q E hr h => ?_), F.bindsN fun _ _ _ _ _ _ us hl => match us, hl with | [_], _ => rfl, F.kp⟩
  · obtain ⟨v, t, b1, b2, rfl, _⟩ := h
    rfl
  · obtain ⟨v, t, b1, b2, rfl, ty, e1, e2, k⟩ := h
    refine ⟨_, PSs.nox (pss_one (ps_ret (pe_and (pe_callB (call_isiK K) (by rfl) T.z_isinstance (by decide +kernel) (pa_cons (pv 0) (pa_cons (pe_bltn (v := .ty "int") (by rfl) T.z_int (by decide +kernel) rfl) pa_nil))) (pe_one (pe_not (pe_callB (call_isiK K) (by rfl) T.z_isinstance (by decide +kernel) (pa_cons (pv 0) (pa_cons (pe_bltn (v := .ty "bool") (by rfl) T.z_bool (by decide +kernel) rfl) pa_nil)))))))), ?_⟩
    refine ⟨v, rfl, ⟨_, _, _, _, _, rfl, .ty "int", ty, e1, _, rfl, ?_⟩⟩
    cases b1 with
    | false => exact k
    | true => exact ⟨v, rfl, _, _, _, _, _, rfl, .ty "bool", ty, e2, _, rfl, k⟩
theorem sc_is_whole : FnScope ["value"] ["value"] (defScope (top 14)) := ⟨rfl, rfl, rfl, by decide +kernel, rfl, by decide +kernel, by decide +kernel⟩
abbrev absV (i : Int) : Int := if i < 0 then -i else i
def spWhole (K : PySem.W.Frag) : Sp := fun vs H Q _ => ∃ v, vs = [v] ∧ ((∃ i, v = .int i ∧ Q (.bl (decide (absV i < 10 ^ 60))) H) ∨ ∃ t b1 b2, TyX K H v t ∧ PySem.W.kitOne K t (.type "int") = some b1 ∧ PySem.W.kitOne K t (.type "bool") = some b2 ∧ (b1 && !b2) = false ∧ Q (.bl false) H)
theorem kit_ii : PySem.W.kitOne K (.type "int") (.type "int") = some true := kit_ty (by decide +kernel)
theorem kit_ib : PySem.W.kitOne K (.type "int") (.type "bool") = some false := kit_ty (by decide +kernel)
theorem ok_is_whole (T : Txt P K mg) : OkF P w K mg base CX0 2 (He.ga K "is_whole") ["value"] (spWhole K) := by
  have G_is_integer := ok_is_integer (P := P) (w := w) (base := base) T
  obtain ⟨fd, F⟩ := T.F_is_whole
  refine ⟨fd, F.ok sc_is_whole (fun vs H Q E h => ?_) (fun cdv A outer s H vs Q E hr h => ?_), F.bindsN fun _ _ _ _ _ _ us hl => match us, hl with | [_], _ => rfl, F.kp⟩
  · obtain ⟨v, rfl, _⟩ := h
    rfl
  · obtain ⟨v, rfl, k⟩ := h
    refine ⟨_, PSs.nox (pss_one (ps_ret (pe_and (pe_f G_is_integer (hr.mono (by decide)) (by rfl) T.g_is_integer pass0 (pa_cons (pv 0) pa_nil)) (pe_one (pe_cmpR op_lt (pe_callB call_abs (by rfl) T.z_abs (by decide +kernel) (pa_cons (pv 0) pa_nil)) (pe_op op_pow pe_int pe_int) (nomark _)))))), ?_⟩
    rcases k with ⟨i, rfl, k⟩ | ⟨t, b1, b2, ty, e1, e2, e, k⟩
    · refine ⟨_, rfl, _, _, _, _, rfl, .base (.int i), kit_ii, kit_ib, _, rfl, ?_⟩
      refine iteT ⟨_, rfl, _, rfl, _, _, rfl, rfl, ⟨by decide, by decide, by decide⟩, _, _, rfl, rfl, k⟩
    · refine ⟨_, rfl, _, _, _, _, rfl, ty, e1, e2, _, rfl, ?_⟩
      rw [e]
      exact k
theorem sc_is_name : FnScope ["value", "letter"] ["value"] (defScope (top 15)) := ⟨rfl, rfl, rfl, by decide +kernel, rfl, by decide +kernel, by decide +kernel⟩
def letters : Str := "abcdefghijklmnopqrstuvwxyz"
def nameB (x : Str) : Bool := (decide (1 ≤ x.length) && decide (x.length ≤ 8)) && x.cps.toList.all fun c => decide (c ∈ letters.cps.toList)
def spName (K : PySem.W.Frag) : Sp := fun vs H Q _ => ∃ v, vs = [v] ∧ ((∃ x, v = .str x ∧ x.length ≤ 100000 ∧ ∀ H', Same H H' → Q (.bl (nameB x)) H') ∨ ∃ t, TyX K H v t ∧ PySem.W.kitOne K t (.type "str") = some false ∧ Q (.bl false) H)
theorem kit_ss : PySem.W.kitOne K (.type "str") (.type "str") = some true := kit_ty (by decide +kernel)
theorem ok_is_name (T : Txt P K mg) : OkF P w K mg base CX0 1 (He.ga K "is_name") ["value"] (spName K) := by
  obtain ⟨t1, c_MOST_LETTERS⟩ := T.c_MOST_LETTERS
  obtain ⟨t2, c_LETTERS⟩ := T.c_LETTERS
  obtain ⟨fd, F⟩ := T.F_is_name
  refine ⟨fd, F.ok sc_is_name (fun vs H Q E h => ?_) (fun cdv A outer s H vs Q E hr h => ?_), F.bindsN fun _ _ _ _ _ _ us hl => match us, hl with | [_], _ => rfl, F.kp⟩
  · obtain ⟨v, rfl, _⟩ := h
    rfl
  · obtain ⟨v, rfl, k⟩ := h
    refine ⟨_, PSs.nox (pss_cons (ps_if (PW.pt (pw_or (pt_not (pt_val (pe_callB (call_isiK K) (by rfl) T.z_isinstance (by decide +kernel) (pa_cons (pv 0) (pa_cons (pe_bltn (v := .ty "str") (by rfl) T.z_str (by decide +kernel) rfl) pa_nil))))) (pw_or1 (pt_not (pt_chain op_le op_le pe_int (pe_callB call_len (by rfl) T.z_len (by decide +kernel) (pa_cons (pv 0) pa_nil)) (pe_glob (v := .int 8) (by rfl) c_MOST_LETTERS ⟨_, rfl⟩))))))
      (pss_one (ps_ret pe_bl))
      pss_nil)
    (pss_one (ps_ret (pe_callB (cr_all rfl) (by rfl) T.z_all (by decide +kernel) (pa_cons (pe_lc (own := [("letter", 1)]) (g := gName 1) (tt := tYes) rfl sc_is_name.nd (pi_str (pv 0)) (blkOk_by (N := ["value", "letter"]) (sc := defScope (top 15)) (by decide +kernel)) (fun _ _ _ _ _ => pg_name (i := 1) sc_is_name.nd rfl (Or.inl rfl)) (fun _ _ _ _ _ => pts_nil) (fun _ _ _ _ _ => (pe_cmpR op_in_sign (pv 1) (pe_glob (v := .str "abcdefghijklmnopqrstuvwxyz") (by rfl) c_LETTERS ⟨_, rfl⟩) (by rfl)))) pa_nil))))), ?_⟩
    rcases k with ⟨x, rfl, hx, k⟩ | ⟨t, ty, e, k⟩
    · refine ⟨_, rfl, _, _, _, _, _, rfl, .ty "str", .base (.str x), kit_ss, _, rfl, ?_⟩
      refine iteFa rfl ?_
      have fin : nameB x = false → Q (.bl false) H := fun e => e ▸ k H (Same.refl H)
      refine ⟨_, rfl, _, x.length, rfl, ⟨by rw [sizeLine_eq]; omega, rfl⟩, 1, (x.length : Int), rfl, rfl, _, rfl, ?_⟩
      refine iteD (fun h1 => ?_) (fun h1 => ⟨false, rfl, fin (by unfold nameB; rw [decide_eq_false (by omega)]; rfl)⟩)
      refine ⟨_, _, rfl, rfl, _, rfl, ?_⟩
      by_cases h2 : (x.length : Int) ≤ 8
      · refine iteFa (by rw [decide_eq_true h2]; rfl) ?_
        refine ⟨_, rfl, x, rfl, fun D hD => ?_⟩
        refine lcF yl_str (fun _ => true) (fun v => .bl (match v with | .str c => decide (c.cps.toList.headD 0 ∈ letters.cps.toList) | _ => false)) hD (by unfold signsV; rw [List.length_map]; exact hx) (fun _ _ => trivial) (fun _ => rfl) (fun v H' _ _ Qb q => q H' (Same.refl H')) (fun v H' hm _ s2 Q2 q => ?_) fun H' s2 hl => ?_
        · obtain ⟨c, _, rfl⟩ := List.mem_map.mp hm
          exact ⟨_, rfl, c, _, rfl, rfl, q H' (Same.refl H')⟩
        · have e : (List.map (fun v => V.bl (match v with | .str c => decide (c.cps.toList.headD 0 ∈ letters.cps.toList) | _ => false)) (List.filter (fun _ => true) (signsV x))) = (x.cps.toList.map fun c => decide (c ∈ letters.cps.toList)).map V.bl := by
            unfold signsV
            rw [List.filter_eq_self.mpr fun _ _ => rfl, List.map_map, List.map_map]
            rfl
          rw [e] at hl
          refine ⟨D, _, rfl, SqL.of hl, ?_⟩
          have e2 : ((x.cps.toList.map fun c => decide (c ∈ letters.cps.toList)).all id) = nameB x := by
            unfold nameB
            rw [decide_eq_true (show 1 ≤ x.length by omega), decide_eq_true (show x.length ≤ 8 by omega), List.all_map]
            rfl
          rw [e2]
          exact k H' s2
      · refine iteTr (by rw [decide_eq_false h2]; rfl) (fin ?_)
        unfold nameB
        rw [decide_eq_false (show ¬ x.length ≤ 8 by omega), Bool.and_false]
        rfl
    · refine ⟨_, rfl, _, _, _, _, _, rfl, .ty "str", ty, e, _, rfl, ?_⟩
      exact k
end
end Kx
set_option maxHeartbeats 4000000
namespace Kx
open PySem PySem.Spec PyProof.Rows L2 Xr
local macro_rules | `(tactic| walk_at "rd") => `(tactic| (repeat (first | apply Exists.intro | (refine And.intro rfl ?_) | (refine And.intro (SqL.of (by assumption)) ?_) | (refine And.intro (Or.inl (SqL.of (by assumption))) ?_) | (refine Or.inl ⟨_, rfl, ?_⟩) | (refine Or.inr ⟨_, rfl, ?_⟩) | (refine And.intro (by assumption) ?_) | (refine And.intro (Or.inl (by assumption)) ?_))))
section
variable {P : Program} {w : World} {K : PySem.W.Frag} {mg : Str → Option Value} {base : Heap}
theorem sc_need_numbers : FnScope ["table", "month", "number"] ["table"] (defScope (top 26)) := ⟨rfl, rfl, rfl, by decide +kernel, rfl, by decide +kernel, by decide +kernel⟩
/-- a table that legs may be made of -/
structure GoodT (t : Tab) : Prop where
  nd : (ks t).Nodup
  nm : ∀ k ∈ ks t, nameB k = true
  wh : ∀ p ∈ t, absV p.2 < 10 ^ 60
  len : t.length < 64
theorem name_len {x : Str} (h : nameB x = true) : x.length ≤ 100000 := by
  unfold nameB at h
  have h1 := (He.ba (He.ba h).1).2
  have := of_decide_eq_true h1
  omega
def spNeed : Sp := fun vs H Q _ => ∃ d t, vs = [.ref d] ∧ H d = some (.dK (tabK t)) ∧ GoodT t ∧ ∀ H', Same H H' → Q .non H'
theorem all_true {bs : List Bool} (h : ∀ b ∈ bs, b = true) : bs.all id = true := List.all_eq_true.mpr h
theorem ok_need_numbers (T : Txt P K mg) : OkF P w K mg base CX0 3 (He.ga K "need_numbers") ["table"] spNeed := by
  have G_is_name := ok_is_name (P := P) (w := w) (base := base) T
  have G_is_whole := ok_is_whole (P := P) (w := w) (base := base) T
  obtain ⟨fd, F⟩ := T.F_need_numbers
  refine ⟨fd, F.ok sc_need_numbers (fun vs H Q E h => ?_) (fun cdv A outer s H vs Q E hr h => ?_), F.bindsN fun _ _ _ _ _ _ us hl => match us, hl with | [_], _ => rfl, F.kp⟩
  · obtain ⟨d, t, rfl, _⟩ := h
    rfl
  · obtain ⟨d, t, rfl, hd, g, k⟩ := h
    refine ⟨_, PSs.nox (pss_cons (ps_if (pt_not (pt_val (pe_callB (cr_all rfl) (by rfl) T.z_all (by decide +kernel) (pa_cons (pe_lock (pe_lc (own := [("month", 1)]) (g := gName 1) (tt := tYes) rfl sc_need_numbers.nd (pi_keys (pv 0)) (blkOk_by (N := ["table", "month", "number"]) (sc := defScope (top 26)) (by decide +kernel)) (fun _ _ _ _ _ => pg_name (i := 1) sc_need_numbers.nd rfl (Or.inl rfl)) (fun _ _ _ _ _ => pts_nil) (fun _ _ _ _ _ => (pe_f G_is_name (hr.mono (by decide)) (by rfl) T.g_is_name pass0 (pa_cons (pv 1) pa_nil))))) pa_nil))))
      (pss_one ps_never)
      pss_nil)
    (pss_one (ps_if (pt_not (pt_val (pe_callB (cr_all rfl) (by rfl) T.z_all (by decide +kernel) (pa_cons (pe_lock (pe_lc (own := [("number", 2)]) (g := gName 2) (tt := tYes) rfl sc_need_numbers.nd (pi_values (pv 0)) (blkOk_by (N := ["table", "month", "number"]) (sc := defScope (top 26)) (by decide +kernel)) (fun _ _ _ _ _ => pg_name (i := 2) sc_need_numbers.nd rfl (Or.inl rfl)) (fun _ _ _ _ _ => pts_nil) (fun _ _ _ _ _ => (pe_f G_is_whole (hr.mono (by decide)) (by rfl) T.g_is_whole pass0 (pa_cons (pv 2) pa_nil))))) pa_nil))))
      (pss_one ps_never)
      pss_nil))), ?_⟩
    refine ⟨d, _, hd, trivial, fun od => ?_⟩
    refine ⟨_, rfl, d, od, rfl, .inl ⟨_, upd_same, fun D hD => ?_⟩⟩
    have nd : D ≠ d := fun z => by rw [z, upd_same] at hD; cases hD
    refine lcF yl_keys (fun _ => true) (fun v => .bl (match v with | .str x => nameB x | _ => false)) hD (by rw [List.length_map]; unfold tabK; rw [List.length_map]; have := g.len; omega) (fun H' s => s _ _ upd_same) (fun _ => rfl) (fun v H' _ _ Qb q => q H' (Same.refl H')) (fun v H' hm _ s2 Q2 q => ?_) fun H' s2 hl => ?_
    · obtain ⟨p, hp, rfl⟩ := List.mem_map.mp hm
      obtain ⟨p', hp', rfl⟩ := List.mem_map.mp hp
      exact ⟨_, rfl, _, rfl, .inl ⟨_, rfl, name_len (g.nm _ (List.mem_map.mpr ⟨p', hp', rfl⟩)), q⟩⟩
    · refine ⟨s2 _ _ upd_same, ?_⟩
      have s3 := same_lock hd s2
      have e : (List.map (fun v => V.bl (match v with | .str x => nameB x | _ => false)) (List.filter (fun _ => true) (List.map (fun p => kV p.1) (tabK t)))) = ((ks t).map nameB).map V.bl := by
        unfold ks tabK
        rw [List.filter_eq_self.mpr fun _ _ => rfl, List.map_map, List.map_map, List.map_map, List.map_map]
        rfl
      rw [e] at hl
      refine ⟨D, _, rfl, SqL.of ((upd_ne nd).trans hl), _, rfl, ?_⟩
      rw [all_true fun b hb => by obtain ⟨x, hx, rfl⟩ := List.mem_map.mp hb; exact g.nm x hx]
      have hd3 := s3 _ _ hd
      generalize upd H' d (.dK (tabK t)) = H3 at s3 hd3
      refine ⟨d, _, hd3, trivial, fun od => ?_⟩
      refine ⟨_, rfl, d, od, _, rfl, upd_same, fun D hD => ?_⟩
      have nd : D ≠ d := fun z => by rw [z, upd_same] at hD; cases hD
      refine lcF yl_vals (fun _ => true) (fun v => .bl (match v with | .int i => decide (absV i < 10 ^ 60) | _ => false)) hD (by rw [List.length_map]; unfold tabK; rw [List.length_map]; have := g.len; omega) (fun H' s => s _ _ upd_same) (fun _ => rfl) (fun v H' _ _ Qb q => q H' (Same.refl H')) (fun v H' hm _ s2 Q2 q => ?_) fun H' s2 hl => ?_
      · obtain ⟨p, hp, rfl⟩ := List.mem_map.mp hm
        obtain ⟨p', hp', rfl⟩ := List.mem_map.mp hp
        exact ⟨_, rfl, _, rfl, .inl ⟨_, rfl, q H' (Same.refl H')⟩⟩
      · refine ⟨s2 _ _ upd_same, ?_⟩
        have s4 := same_lock hd3 s2
        have e : (List.map (fun v => V.bl (match v with | .int i => decide (absV i < 10 ^ 60) | _ => false)) (List.filter (fun _ => true) (List.map (·.2) (tabK t)))) = (t.map fun p => decide (absV p.2 < 10 ^ 60)).map V.bl := by
          unfold tabK
          rw [List.filter_eq_self.mpr fun _ _ => rfl, List.map_map, List.map_map, List.map_map]
          rfl
        rw [e] at hl
        refine ⟨D, _, rfl, SqL.of ((upd_ne nd).trans hl), _, rfl, ?_⟩
        rw [all_true fun b hb => by obtain ⟨x, hx, rfl⟩ := List.mem_map.mp hb; exact decide_eq_true (g.wh x hx)]
        exact k _ (s3.trans s4)
end
end Kx
set_option maxHeartbeats 4000000
namespace Kx
open PySem PySem.Spec PyProof.Rows L2 Xr
local macro_rules | `(tactic| walk_at "rd") => `(tactic| (repeat (first | apply Exists.intro | (refine And.intro rfl ?_) | (refine And.intro (SqL.of (by assumption)) ?_) | (refine And.intro (Or.inl (SqL.of (by assumption))) ?_) | (refine Or.inl ⟨_, rfl, ?_⟩) | (refine Or.inr ⟨_, rfl, ?_⟩) | (refine And.intro (by assumption) ?_) | (refine And.intro (Or.inl (by assumption)) ?_))))
section
variable {P : Program} {w : World} {K : PySem.W.Frag} {mg : Str → Option Value} {base : Heap}
theorem sc_without_zeros : FnScope ["table", "month"] ["table"] (defScope (top 27)) := ⟨rfl, rfl, rfl, by decide +kernel, rfl, by decide +kernel, by decide +kernel⟩
def spWz : Sp := fun vs H Q _ => ∃ d t, vs = [.ref d] ∧ H d = some (.dK (tabK t)) ∧ (ks t).Nodup ∧ t.length < 64 ∧
  ∀ p m H', Canon m → (∀ k, val m k = val t k) → m.length ≤ t.length → H p = none → Same H H' → H' p = some (.dK (tabK m)) → Q (.ref p) H'
def strOf : V → Str
  | .str x => x
  | _ => ""
theorem ok_without_zeros (T : Txt P K mg) : OkF P w K mg base CX0 1 (He.ga K "without_zeros") ["table"] spWz := by
  obtain ⟨fd, F⟩ := T.F_without_zeros
  refine ⟨fd, F.ok sc_without_zeros (fun vs H Q E h => ?_) (fun cdv A outer s H vs Q E hr h => ?_), F.bindsN fun _ _ _ _ _ _ us hl => match us, hl with | [_], _ => rfl, F.kp⟩
  · obtain ⟨d, t, rfl, _⟩ := h
    rfl
  · obtain ⟨d, t, rfl, hd, nd, hl, k⟩ := h
    have hu := hu_of hr
    refine ⟨_, PSs.nox (pss_one (ps_ret (pe_dc (own := [("month", 1)]) (g := gName 1) rfl sc_without_zeros.nd (pi_list (pe_callB (call_sortedD rfl) (by rfl) T.z_sorted (by decide +kernel) (pa_cons (pv 0) pa_nil))) (blkOk_by (N := ["table", "month"]) (sc := defScope (top 27)) (by decide +kernel)) (fun _ _ _ _ _ => pg_name (i := 1) sc_without_zeros.nd rfl (Or.inl rfl)) (fun _ _ _ _ _ => (pts_one (pt_cmpR op_ne (pe_dget hu (pv 0) (pv 1) (fun _ _ => rfl)) pe_int (nomark _)))) (fun _ _ _ _ _ => (pv 1)) (fun _ _ _ _ _ => (pe_dget hu (pv 0) (pv 1) (fun _ _ => rfl)))))), ?_⟩
    refine ⟨_, rfl, d, _, ks t, rfl, .inl hd, ks_tab t, by unfold ks; rw [List.length_map]; exact hl, fun ys l hp hs nl => ?_⟩
    have s1 : Same H (upd H l (.lst (ys.map V.str))) := same_new nl
    have h1 : upd H l (.lst (ys.map V.str)) l = some (.lst (ys.map V.str)) := upd_same
    generalize upd H l (.lst (ys.map V.str)) = H1 at s1 h1
    have hd1 := s1 _ _ hd
    refine ⟨l, rfl, ⟨_, SqL.of h1⟩, fun D hD => ?_⟩
    have mem : ∀ v, v ∈ ys.map V.str → ∃ x, x ∈ ks t ∧ v = .str x := fun v hv => by
      obtain ⟨x, hx, rfl⟩ := List.mem_map.mp hv
      exact ⟨x, hp.mem_iff.mp hx, rfl⟩
    refine dcF yl_list (fun v => !decide (V.int (val t (strOf v)) = V.int 0)) (fun v => .inr (strOf v)) (fun v => .int (val t (strOf v))) hD (by rw [List.length_map, hp.length_eq]; unfold ks; rw [List.length_map]; omega) ?_ (fun H' s => SqL.of (s _ _ h1)) (fun _ => rfl)
      (fun v H' hm s Qb q => ?_) (fun v H' hm _ s Q2 q => ?_) (fun v H' hm _ s Q2 q => ?_) fun H' s hl2 => ?_
    · rw [List.filter_map, List.map_map]
      have e : ((fun v => (Sum.inr (strOf v) : Key)) ∘ V.str) = fun x => Sum.inr x := rfl
      rw [e]
      have z := (hp.nodup_iff.mpr nd).filter ((fun v => !decide (V.int (val t (strOf v)) = V.int 0)) ∘ V.str)
      exact List.Pairwise.map _ (fun a b hab z => hab (Sum.inr.inj z)) z
    · obtain ⟨x, hx, rfl⟩ := mem v hm
      exact ⟨_, rfl, _, rfl, d, _, rfl, .inl ⟨_, .inr x, .inl (s _ _ hd1), rfl, (valV_in hx).symm⟩, rfl, _, rfl, q H' (Same.refl H')⟩
    · obtain ⟨x, hx, rfl⟩ := mem v hm
      exact ⟨_, rfl, q H' (Same.refl H')⟩
    · obtain ⟨x, hx, rfl⟩ := mem v hm
      exact ⟨_, rfl, _, rfl, d, _, rfl, .inl ⟨_, .inr x, .inl (s _ _ hd1), rfl, (valV_in hx).symm⟩, q H' (Same.refl H')⟩
    · have e : (List.map (fun v => ((Sum.inr (strOf v) : Key), V.int (val t (strOf v)))) (List.filter (fun v => !decide (V.int (val t (strOf v)) = V.int 0)) (ys.map V.str))) = tabK (norm ys t) := by
        unfold tabK norm
        rw [List.filter_map, List.map_map, List.map_map]
        have e2 : ((fun v => !decide (V.int (val t (strOf v)) = V.int 0)) ∘ V.str) = fun k => decide (val t k ≠ 0) := by
          funext k
          show (!decide (V.int (val t k) = V.int 0)) = decide (val t k ≠ 0)
          by_cases h : val t k = 0 <;> simp [h]
        rw [e2]
        rfl
      rw [e] at hl2
      obtain ⟨c, hv⟩ := canon_norm nd hp hs
      exact k D _ H' c hv (norm_length hp) (s1.free hD) (s1.trans s) hl2
theorem sc_added : FnScope ["one", "other", "sign", "months", "month"] ["one", "other", "sign"] (defScope (top 28)) := ⟨rfl, rfl, rfl, by decide +kernel, rfl, by decide +kernel, by decide +kernel⟩
def Bnd3 (i : Int) : Prop := i.natAbs < 2 ^ 900
def spAdded : Sp := fun vs H Q _ => ∃ a b one other sg, vs = [.ref a, .ref b, .int sg] ∧ H a = some (.dK (tabK one)) ∧ H b = some (.dK (tabK other)) ∧ (ks one).Nodup ∧ (ks other).Nodup ∧ one.length + other.length < 64 ∧ Bnd3 sg ∧ (∀ k, Bnd3 (val other k)) ∧
  ∀ p H', H p = none → Same H H' → H' p = some (.dK (tabK (addT one other sg))) → Q (.ref p) H'
theorem ok_added (T : Txt P K mg) : OkF P w K mg base CX0 1 (He.ga K "added") ["one", "other", "sign"] spAdded := by
  obtain ⟨fd, F⟩ := T.F_added
  refine ⟨fd, F.ok sc_added (fun vs H Q E h => ?_) (fun cdv A outer s H vs Q E hr h => ?_), F.bindsN fun _ _ _ _ _ _ us hl => match us, hl with | [_, _, _], _ => rfl, F.kp⟩
  · obtain ⟨a, b, one, other, sg, rfl, _⟩ := h
    rfl
  · obtain ⟨a, b, one, other, sg, rfl, ha, hb, n1, n2, hl, b1, b2, k⟩ := h
    have hu := hu_of hr
    refine ⟨_, PSs.nox (pss_cons (ps_asg (pe_lst (pa_starD rfl (pv 0) (StX.pa_star (pe_lock (pe_lc (own := [("month", 4)]) (g := gName 4) rfl sc_added.nd (pi_keys (pv 1)) (blkOk_by (N := ["one", "other", "sign", "months", "month"]) (sc := defScope (top 28)) (by decide +kernel)) (fun _ _ _ _ _ => pg_name (i := 4) sc_added.nd rfl (Or.inl rfl)) (fun _ _ _ _ _ => (pts_one (pt_cmp (pc_dnotin hu (pv 4) (pv 0)) rfl))) (fun _ _ _ _ _ => (pv 4)))) pa_nil))) (pg_name (i := 3) sc_added.nd rfl (.inl rfl)))
    (pss_one (ps_ret (pe_dc (own := [("month", 4)]) (g := gName 4) (tt := tYes) rfl sc_added.nd (pi_list (pv 3)) (blkOk_by (N := ["one", "other", "sign", "months", "month"]) (sc := defScope (top 28)) (by decide +kernel)) (fun _ _ _ _ _ => pg_name (i := 4) sc_added.nd rfl (Or.inl rfl)) (fun _ _ _ _ _ => pts_nil) (fun _ _ _ _ _ => (pv 4)) (fun _ _ _ _ _ => (pe_op op_add (pe_dget2 hu (pv 0) (pv 4) pe_int ⟨rfl, rfl, rfl, rfl⟩) (pe_op op_mulW (pv 2) (pe_dget2 hu (pv 1) (pv 4) pe_int ⟨rfl, rfl, rfl, rfl⟩)))))))), ?_⟩
    refine ⟨_, rfl, a, _, rfl, .inl ha, b, _, hb, trivial, fun od => ?_⟩
    refine ⟨_, rfl, b, od, rfl, .inl ⟨_, upd_same, fun D hD => ?_⟩⟩
    have nd : D ≠ b := fun z => by rw [z, upd_same] at hD; cases hD
    have rd : ∀ H', Same (upd H b (.frz od (.dK (tabK other)))) H' → Rd H' a (.dK (tabK one)) := fun H' s => by
      by_cases e : a = b
      · subst e
        have : one = other ∨ True := .inr trivial
        have e2 : tabK one = tabK other := by
          have z := ha.symm.trans hb
          simpa using z
        rw [e2]
        exact .inr ⟨od, s _ _ upd_same⟩
      · exact .inl (s _ _ (by rw [upd_ne e]; exact ha))
    refine lcF yl_keys (fun v => !decide (strOf v ∈ ks one)) (fun v => v) hD (by rw [List.length_map]; unfold tabK; rw [List.length_map]; omega) (fun H' s => s _ _ upd_same) (fun _ => rfl) (fun v H' hm s2 Qb q => ?_) (fun v H' hm _ s2 Q2 q => ⟨_, rfl, q H' (Same.refl H')⟩) fun H' s2 hl2 => ?_
    · obtain ⟨p, hp, rfl⟩ := List.mem_map.mp hm
      obtain ⟨p', hp', rfl⟩ := List.mem_map.mp hp
      refine ⟨_, rfl, _, rfl, a, _, rfl, .inl ⟨_, .inr p'.1, rd H' s2, rfl, rfl⟩, _, rfl, ?_⟩
      have e : (!(valV (tabK one) (Sum.inr p'.1)).isSome) = !decide (p'.1 ∈ ks one) := by
        by_cases h : p'.1 ∈ ks one
        · rw [valV_in h, decide_eq_true h]
          rfl
        · rw [valV_out h, decide_eq_false h]
          rfl
      rw [e]
      exact q H' (Same.refl H')
    · refine ⟨s2 _ _ upd_same, ?_⟩
      have s3 := same_lock hb s2
      have e : (List.map (fun v => v) (List.filter (fun v => !decide (strOf v ∈ ks one)) (List.map (fun p => kV p.1) (tabK other)))) = ((ks other).filter fun k => decide (k ∉ ks one)).map V.str := by
        unfold tabK ks
        rw [List.map_id', List.map_map, List.filter_map, List.filter_map, List.map_map]
        have e2 : ((fun v => !decide (strOf v ∈ List.map (fun x => x.fst) one)) ∘ ((fun p => kV p.1) ∘ fun p : Str × Int => ((Sum.inr p.1 : Key), V.int p.2))) = ((fun k => decide (k ∉ List.map (fun x => x.fst) one)) ∘ fun x : Str × Int => x.fst) := by
          funext p
          show (!decide (p.1 ∈ List.map (fun x => x.fst) one)) = decide (p.1 ∉ List.map (fun x => x.fst) one)
          by_cases h : p.1 ∈ List.map (fun x => x.fst) one <;> simp [h]
        rw [e2]
        rfl
      rw [e] at hl2
      have hl3 : upd H' b (.dK (tabK other)) D = some (.lst (((ks other).filter fun k => decide (k ∉ ks one)).map V.str)) := (upd_ne nd).trans hl2
      generalize upd H' b (.dK (tabK other)) = H3 at s3 hl3
      have elen := List.length_filter_le (fun k => decide (k ∉ ks one)) (ks other)
      have l1 : (ks one).length = one.length := by unfold ks; rw [List.length_map]
      have l2 : (ks other).length = other.length := by unfold ks; rw [List.length_map]
      refine ⟨D, _, rfl, .inr (SqL.of hl3), ?_⟩
      dsimp only [tNil]
      rw [keysV_tab, List.append_nil, ← List.map_append]
      refine ⟨by rw [List.length_map, List.length_append, sizeLine_eq]; omega, fun l nl => ?_⟩
      have s4 : Same H3 (upd H3 l (.lst ((ks one ++ (ks other).filter fun k => decide (k ∉ ks one)).map V.str))) := same_new nl
      have h4 : upd H3 l (.lst ((ks one ++ (ks other).filter fun k => decide (k ∉ ks one)).map V.str)) l = _ := upd_same
      generalize upd H3 l (.lst ((ks one ++ (ks other).filter fun k => decide (k ∉ ks one)).map V.str)) = H4 at s4 h4
      have s5 := s3.trans s4
      have ha4 := s5 _ _ ha
      have hb4 := s5 _ _ hb
      refine ⟨_, rfl, l, rfl, ⟨_, SqL.of h4⟩, fun D hD => ?_⟩
      have nd3 := addT_nd (s := sg) n1 n2
      rw [ks_addT] at nd3
      refine dcF yl_list (fun _ => true) (fun v => .inr (strOf v)) (fun v => .int (val one (strOf v) + sg * val other (strOf v))) hD (by rw [List.length_map, List.length_append]; omega) ?_ (fun H' s => SqL.of (s _ _ h4)) (fun _ => rfl)
        (fun v H' hm s Qb q => q H' (Same.refl H')) (fun v H' hm _ s Q2 q => ?_) (fun v H' hm _ s Q2 q => ?_) fun H' s hl5 => ?_
      · rw [List.filter_eq_self.mpr fun _ _ => rfl, List.map_map]
        exact List.Pairwise.map _ (fun a b hab z => hab (Sum.inr.inj z)) nd3
      · obtain ⟨x, hx, rfl⟩ := List.mem_map.mp hm
        exact ⟨_, rfl, q H' (Same.refl H')⟩
      · obtain ⟨x, hx, rfl⟩ := List.mem_map.mp hm
        refine ⟨_, rfl, a, rfl, .inl ⟨_, .inl (s _ _ ha4)⟩, _, rfl, _, .inl ⟨_, .inr x, .inl (s _ _ ha4), rfl, rfl⟩, ?_⟩
        rw [valV_getD]
        refine ⟨_, rfl, _, rfl, b, rfl, .inl ⟨_, .inl (s _ _ hb4)⟩, _, rfl, _, .inl ⟨_, .inr x, .inl (s _ _ hb4), rfl, rfl⟩, ?_⟩
        rw [valV_getD]
        exact ⟨_, _, rfl, rfl, wide_mul b1 (b2 x) (by decide) (by decide) (by decide), _, _, rfl, rfl, q H' (Same.refl H')⟩
      · have e : (List.map (fun v => ((Sum.inr (strOf v) : Key), V.int (val one (strOf v) + sg * val other (strOf v)))) (List.filter (fun _ => true) ((ks one ++ (ks other).filter fun k => decide (k ∉ ks one)).map V.str))) = tabK (addT one other sg) := by
          unfold tabK addT
          rw [List.filter_eq_self.mpr fun _ _ => rfl, List.map_map, List.map_map]
          rfl
        rw [e] at hl5
        exact k D H' (s5.free hD) (s5.trans s) hl5
end
end Kx
set_option maxHeartbeats 4000000
namespace Kx
open PySem PySem.Spec PyProof.Rows L2 Xr
local macro_rules | `(tactic| walk_at "rd") => `(tactic| (repeat (first | apply Exists.intro | (refine And.intro rfl ?_) | (refine And.intro (SqL.of (by assumption)) ?_) | (refine And.intro (Or.inl (SqL.of (by assumption))) ?_) | (refine Or.inl ⟨_, rfl, ?_⟩) | (refine Or.inr ⟨_, rfl, ?_⟩) | (refine And.intro (by assumption) ?_) | (refine And.intro (Or.inl (by assumption)) ?_))))
/-- legs of the class at C, their table -/
structure LegsAt (H : Hp) (C a : Addr) (m : Tab) : Prop where
  at_ : ∃ dx d, H a = some (.ins C dx [("by_month", .ref d)]) ∧ H d = some (.dK (tabK m))
  can : Canon m
  len : m.length < 64
theorem LegsAt.same {H H' : Hp} {C a : Addr} {m : Tab} (l : LegsAt H C a m) (s : Same H H') : LegsAt H' C a m := by
  obtain ⟨dx, d, h1, h2⟩ := l.at_
  exact ⟨⟨dx, d, s _ _ h1, s _ _ h2⟩, l.can, l.len⟩
section
variable {P : Program} {w : World} {K : PySem.W.Frag} {mg : Str → Option Value} {base : Heap}
theorem sc_Legs___init__ : FnScope ["self", "months"] ["self", "months"] (defScope (inClass (top 29) 0)) := ⟨rfl, rfl, rfl, by decide +kernel, rfl, by decide +kernel, by decide +kernel⟩
/-- legs made of nothing -/
def spLI (K : PySem.W.Frag) : Sp := fun vs H Q _ => ∃ x C dx d, vs = [.ref x, .ref d] ∧ H x = some (.ins C dx []) ∧ CL K C ∧ H d = some (.dK (tabK [])) ∧
  ∀ p H1, Same H H1 → H1 p = some (.dK (tabK [])) → H p = none → Q .non (upd H1 x (.ins C dx [("by_month", .ref p)]))
theorem good_nil : GoodT [] := ⟨List.nodup_nil, fun _ h => (List.not_mem_nil h).elim, fun _ h => (List.not_mem_nil h).elim, by decide⟩
theorem canon_nil {m : Tab} (c : Canon m) (h : ∀ k, val m k = val [] k) : m = [] := canon_eq c ⟨List.Pairwise.nil, List.nodup_nil, fun _ h => (List.not_mem_nil h).elim⟩ h
theorem ok_Legs_init (T : Txt P K mg) : FnR P w K mg base CX0 4 (He.ma K (He.ga K "Legs") "__init__") (fun vs H Q E => ∃ v, vs = [v] ∧ ∀ d, H d = Option.none → spLI K [v, V.ref d] (upd H d (.dK [])) Q E) := by
  have G_need_numbers := ok_need_numbers (P := P) (w := w) (base := base) T
  have G_without_zeros := ok_without_zeros (P := P) (w := w) (base := base) T
  obtain ⟨fd, F⟩ := T.F_Legs___init__
  refine fn_kw0 F sc_Legs___init__ StX.cxUp_none (fun _ _ _ _ _ _ _ => rfl) fun cdv A outer s H vs Q E hr h => ?_
  obtain ⟨x, C, dx, d, rfl, hx, c, hd, k⟩ := h
  refine ⟨_, PSs.nox (pss_cons (ps_expr (pe_f G_need_numbers (hr.mono (by decide)) (by rfl) T.g_need_numbers pass0 (pa_cons (pv 1) pa_nil)))
    (pss_one (ps_fld (pv 0) (pe_f G_without_zeros (hr.mono (by decide)) (by rfl) T.g_without_zeros pass0 (pa_cons (pv 1) pa_nil)) rfl))), ?_⟩
  refine ⟨_, rfl, d, [], rfl, hd, good_nil, fun H1 s1 => ?_⟩
  refine ⟨_, rfl, d, [], rfl, s1 _ _ hd, List.nodup_nil, by decide, fun p m H2 cm hv _ np s2 hp => ?_⟩
  rw [canon_nil cm hv] at hp
  exact ⟨_, rfl, x, C, dx, [], rfl, s2 _ _ (s1 _ _ hx), c.pl.cls, c.no, by decide, k p H2 (s1.trans s2) hp (s1.free np)⟩
theorem nsc_T : NdefX.NScope ["self", "table", "__class__"] ["self", "table"] ["__class__"] (defScope (inClass (top 30) 0)) := NdefX.nscope_by (by decide +kernel)
theorem sc_TableLegs___init__nd : (["self", "table", "__class__"] : List Str).Nodup := by decide +kernel
def spTI (K : PySem.W.Frag) : Sp := fun vs H Q _ => ∃ x dx d t, vs = [.ref x, .ref d] ∧ H x = some (.ins (aT K) dx []) ∧ H d = some (.dK (tabK t)) ∧ (ks t).Nodup ∧ t.length < 64 ∧
  ∀ p m H', Canon m → (∀ k, val m k = val t k) → m.length ≤ t.length → But x H H' → H' x = some (.ins (aT K) dx [("by_month", .ref p)]) → H' p = some (.dK (tabK m)) → Q .non H'
theorem ok_TableLegs (T : Txt P K mg) : OkI P w K mg base CX0 5 (He.ma K (aT K) "__init__") ["self", "table"] (spTI K) := by
  have G_without_zeros := ok_without_zeros (P := P) (w := w) (base := base) T
  have GL := ok_Legs_init (P := P) (w := w) (base := base) T
  obtain ⟨fd, cda, cc, S⟩ := T.leg.sup
  obtain ⟨kV, doc, pm, an, ct, oc, od, osl, efd, lk⟩ := S.fn
  refine ⟨fd, fn_sup0 S nsc_T (by decide +kernel) ⟨_, rfl, rfl⟩ (fun env => ⟨_, rfl⟩) GL (fun vs H Q E h => ?_) (fun A outer s H vs Q E hr h => ?_), ?_⟩
  · obtain ⟨x, dx, d, t, rfl, _⟩ := h
    rfl
  · obtain ⟨x, dx, d, t, rfl, hx, hd, nd, hl, k⟩ := h
    refine ⟨x, dx, [], _, _, _, rfl, hx, pass0, PSs.nox (pss_one (ps_fld (pv 0) (pe_f G_without_zeros (hr.mono (by decide)) (by rfl) T.g_without_zeros pass0 (pa_cons (pv 1) pa_nil)) rfl)), ?_⟩
    refine ⟨_, rfl, fun e he => ?_⟩
    have s0 : Same H (upd H e (.dK [])) := same_new he
    refine ⟨x, aT K, dx, e, rfl, s0 _ _ hx, T.leg.cT, upd_same, fun p H1 s1 hp np => ?_⟩
    have hxd : ∀ {y : Addr} {t' : List (Key × V)} {G : Hp} {fs : List (Str × V)}, G y = some (.dK t') → G x = some (.ins (aT K) dx fs) → y ≠ x := fun h1 h2 z => by
      rw [z, h2] at h1
      cases h1
    have hd1 : upd H1 x (.ins (aT K) dx [("by_month", .ref p)]) d = some (.dK (tabK t)) := (upd_ne (hxd hd hx)).trans (s1 _ _ (s0 _ _ hd))
    refine ⟨_, rfl, d, t, rfl, hd1, nd, hl, fun p2 m H2 cm hv hlen np2 s2 hp2 => ?_⟩
    have hx2 := s2 _ _ (upd_same (H := H1) (a := x) (o := .ins (aT K) dx [("by_month", .ref p)]))
    refine ⟨_, rfl, x, aT K, dx, _, rfl, hx2, T.leg.cT.pl.cls, T.leg.cT.no, (show 1 < 1000 by decide), k p2 m _ cm hv hlen (fun b o hb nb => ?_) upd_same ((upd_ne (hxd hp2 hx2)).trans hp2)⟩
    rw [upd_ne nb]
    exact s2 _ _ ((upd_ne nb).trans (s1 _ _ (s0 _ _ hb)))
  · subst efd
    exact .all fun us hl => match us, hl with | [_, _], _ => rfl
end
end Kx
set_option maxHeartbeats 4000000
namespace Kx
open PySem PySem.Spec PyProof.Rows L2 Xr
local macro_rules | `(tactic| walk_at "rd") => `(tactic| (repeat (first | apply Exists.intro | (refine And.intro rfl ?_) | (refine And.intro (SqL.of (by assumption)) ?_) | (refine And.intro (Or.inl (SqL.of (by assumption))) ?_) | (refine Or.inl ⟨_, rfl, ?_⟩) | (refine Or.inr ⟨_, rfl, ?_⟩) | (refine And.intro (by assumption) ?_) | (refine And.intro (Or.inl (by assumption)) ?_))))
section
variable {P : Program} {w : World} {K : PySem.W.Frag} {mg : Str → Option Value} {base : Heap}
theorem mkT_ok {H1 : Hp} {d : Addr} {t : Tab} {Q : VK} {E : XK} (hd : H1 d = some (.dK (tabK t))) (nd : (ks t).Nodup) (hl : t.length < 64)
    (k : ∀ x m H2, Canon m → (∀ k, val m k = val t k) → m.length ≤ t.length → Same H1 H2 → LegsAt H2 (aT K) x m → H1 x = none → Q (.ref x) H2) :
    ∀ x dx, H1 x = none → H1 dx = none → dx ≠ x → spTI K [.ref x, .ref d] (upd (upd H1 dx (.own x)) x (.ins (aT K) dx [])) (fun v H2 => v = .non ∧ Q (.ref x) H2) E := by
  intro x dx nx ndx ne
  have s1 : Same H1 (upd (upd H1 dx (.own x)) x (.ins (aT K) dx [])) := fun b o hb => by
    rw [upd_ne (ne_of_none hb nx), upd_ne (ne_of_none hb ndx)]
    exact hb
  refine ⟨x, dx, d, t, rfl, upd_same, s1 _ _ hd, nd, hl, fun p m H' c hv hlen B hx hp => ⟨rfl, k x m H' c hv hlen (fun b o hb => B b o (s1 _ _ hb) (ne_of_none hb nx)) ⟨⟨dx, p, hx, hp⟩, c, by omega⟩ nx⟩⟩
/-- what a sum promises -/
def spSum (K : PySem.W.Frag) (sg : Int) : Sp := fun vs H Q _ => ∃ a b C C' m m', vs = [.ref a, .ref b] ∧ LegsAt H C a m ∧ CL K C ∧ LegsAt H C' b m' ∧ CL K C' ∧ m.length + m'.length < 64 ∧ (∀ k, Bnd3 (val m' k)) ∧
  ∀ x m2 H', Canon m2 → (∀ k, val m2 k = val m k + sg * val m' k) → m2.length ≤ m.length + m'.length → Same H H' → LegsAt H' (aT K) x m2 → Q (.ref x) H'
theorem sc_Legs___add__ : FnScope ["self", "other"] ["self", "other"] (defScope (inClass (top 29) 8)) := ⟨rfl, rfl, rfl, by decide +kernel, rfl, by decide +kernel, by decide +kernel⟩
theorem ok_Legs___add__ (T : Txt P K mg) : OkF P w K mg base CX0 7 (He.ma K (He.ga K "Legs") "__add__") ["self", "other"] (spSum K 1) := by
  have G_added := ok_added (P := P) (w := w) (base := base) T
  have G_TableLegs := ok_TableLegs (P := P) (w := w) (base := base) T
  obtain ⟨fd, F⟩ := T.F_Legs___add__
  refine ⟨fd, F.ok sc_Legs___add__ (fun vs H Q E h => ?_) (fun cdv A outer s H vs Q E hr h => ?_), F.bindsN fun _ _ _ _ _ _ us hl => match us, hl with | [_, _], _ => rfl, F.kp⟩
  · obtain ⟨a, b, C, C', m, m', rfl, _⟩ := h
    rfl
  · obtain ⟨a, b, C, C', m, m', rfl, l, c, l', c', hl, hb, k⟩ := h
    obtain ⟨dx, d, h1, h2⟩ := l.at_
    obtain ⟨dx', d', h1', h2'⟩ := l'.at_
    refine ⟨_, PSs.nox (pss_one (ps_ret (pe_mkI T.leg.mT G_TableLegs (hr.mono (by decide)) (by rfl) T.g_TableLegs pass0 (pa_cons (pe_f G_added (hr.mono (by decide)) (by rfl) T.g_added pass0 (pa_cons (pe_fld (pv 0) rfl) (pa_cons (pe_fld (pv 1) rfl) (pa_cons pe_int pa_nil)))) pa_nil)))), ?_⟩
    refine ⟨_, rfl, a, C, dx, _, _, rfl, h1, c.pl.cls, c.no, rfl, _, rfl, b, C', dx', _, _, rfl, h1', c'.pl.cls, c'.no, rfl, ?_⟩
    
    refine ⟨d, d', m, m', 1, rfl, h2, h2', l.can.nd, l'.can.nd, hl, by unfold Bnd3; decide, hb, fun p H1 np s1 hp => ?_⟩
    refine mkT_ok hp (addT_nd l.can.nd l'.can.nd) (Nat.lt_of_le_of_lt addT_length hl) fun x m2 H2 cm hv hlen s2 lm _ => ?_
    exact k x m2 H2 cm (fun k => (hv k).trans val_addT) (Nat.le_trans hlen addT_length) (s1.trans s2) lm
theorem sc_Legs___sub__ : FnScope ["self", "other"] ["self", "other"] (defScope (inClass (top 29) 9)) := ⟨rfl, rfl, rfl, by decide +kernel, rfl, by decide +kernel, by decide +kernel⟩
theorem ok_Legs___sub__ (T : Txt P K mg) : OkF P w K mg base CX0 7 (He.ma K (He.ga K "Legs") "__sub__") ["self", "other"] (spSum K (-1)) := by
  have G_added := ok_added (P := P) (w := w) (base := base) T
  have G_TableLegs := ok_TableLegs (P := P) (w := w) (base := base) T
  obtain ⟨fd, F⟩ := T.F_Legs___sub__
  refine ⟨fd, F.ok sc_Legs___sub__ (fun vs H Q E h => ?_) (fun cdv A outer s H vs Q E hr h => ?_), F.bindsN fun _ _ _ _ _ _ us hl => match us, hl with | [_, _], _ => rfl, F.kp⟩
  · obtain ⟨a, b, C, C', m, m', rfl, _⟩ := h
    rfl
  · obtain ⟨a, b, C, C', m, m', rfl, l, c, l', c', hl, hb, k⟩ := h
    obtain ⟨dx, d, h1, h2⟩ := l.at_
    obtain ⟨dx', d', h1', h2'⟩ := l'.at_
    refine ⟨_, PSs.nox (pss_one (ps_ret (pe_mkI T.leg.mT G_TableLegs (hr.mono (by decide)) (by rfl) T.g_TableLegs pass0 (pa_cons (pe_f G_added (hr.mono (by decide)) (by rfl) T.g_added pass0 (pa_cons (pe_fld (pv 0) rfl) (pa_cons (pe_fld (pv 1) rfl) (pa_cons (pe_un un_neg pe_int) pa_nil)))) pa_nil)))), ?_⟩
    refine ⟨_, rfl, a, C, dx, _, _, rfl, h1, c.pl.cls, c.no, rfl, _, rfl, b, C', dx', _, _, rfl, h1', c'.pl.cls, c'.no, rfl, ?_⟩
    refine ⟨_, rfl, ?_⟩
    refine ⟨d, d', m, m', (-1), rfl, h2, h2', l.can.nd, l'.can.nd, hl, by unfold Bnd3; decide, hb, fun p H1 np s1 hp => ?_⟩
    refine mkT_ok hp (addT_nd l.can.nd l'.can.nd) (Nat.lt_of_le_of_lt addT_length hl) fun x m2 H2 cm hv hlen s2 lm _ => ?_
    exact k x m2 H2 cm (fun k => (hv k).trans val_addT) (Nat.le_trans hlen addT_length) (s1.trans s2) lm
def spNegL (K : PySem.W.Frag) : Sp := fun vs H Q _ => ∃ a C m, vs = [.ref a] ∧ LegsAt H C a m ∧ CL K C ∧ (∀ k, Bnd3 (val m k)) ∧
  ∀ x m2 H', Canon m2 → (∀ k, val m2 k = -1 * val m k) → m2.length ≤ m.length → Same H H' → LegsAt H' (aT K) x m2 → Q (.ref x) H'
def spMulL (K : PySem.W.Frag) : Sp := fun vs H Q _ => ∃ a C m n, vs = [.ref a, .int n] ∧ LegsAt H C a m ∧ CL K C ∧ Bnd3 n ∧ (∀ k, Bnd3 (val m k)) ∧
  ∀ x m2 H', Canon m2 → (∀ k, val m2 k = n * val m k) → m2.length ≤ m.length → Same H H' → LegsAt H' (aT K) x m2 → Q (.ref x) H'
theorem sc_Legs___neg__ : FnScope ["self"] ["self"] (defScope (inClass (top 29) 10)) := ⟨rfl, rfl, rfl, by decide +kernel, rfl, by decide +kernel, by decide +kernel⟩
theorem ok_Legs___neg__ (T : Txt P K mg) : OkF P w K mg base CX0 7 (He.ma K (He.ga K "Legs") "__neg__") ["self"] (spNegL K) := by
  have G_added := ok_added (P := P) (w := w) (base := base) T
  have G_TableLegs := ok_TableLegs (P := P) (w := w) (base := base) T
  obtain ⟨fd, F⟩ := T.F_Legs___neg__
  refine ⟨fd, F.ok sc_Legs___neg__ (fun vs H Q E h => ?_) (fun cdv A outer s H vs Q E hr h => ?_), F.bindsN fun _ _ _ _ _ _ us hl => match us, hl with | [_], _ => rfl, F.kp⟩
  · obtain ⟨a, C, m, rfl, _⟩ := h
    rfl
  · obtain ⟨a, C, m, rfl, l, c, hb, k⟩ := h
    obtain ⟨dx, d, h1, h2⟩ := l.at_
    refine ⟨_, PSs.nox (pss_one (ps_ret (pe_mkI T.leg.mT G_TableLegs (hr.mono (by decide)) (by rfl) T.g_TableLegs pass0 (pa_cons (pe_f G_added (hr.mono (by decide)) (by rfl) T.g_added pass0 (pa_cons pe_dnewK (pa_cons (pe_fld (pv 0) rfl) (pa_cons (pe_un un_neg pe_int) pa_nil)))) pa_nil)))), ?_⟩
    refine fun e he => ?_
    have s0 : Same H (upd H e (.dK [])) := same_new he
    refine ⟨_, rfl, a, C, dx, _, _, rfl, s0 _ _ h1, c.pl.cls, c.no, rfl, ?_⟩
    refine ⟨_, rfl, ?_⟩
    refine ⟨e, d, [], m, (-1), rfl, upd_same, s0 _ _ h2, List.nodup_nil, l.can.nd, by have := l.len; simpa using this, by unfold Bnd3; decide, hb, fun p H1 np s1 hp => ?_⟩
    have al : (addT [] m (-1)).length ≤ m.length := by have := addT_length (one := []) (other := m) (s := (-1)); simpa using this
    refine mkT_ok hp (addT_nd List.nodup_nil l.can.nd) (Nat.lt_of_le_of_lt al l.len) fun x m2 H2 cm hv hlen s2 lm _ => ?_
    refine k x m2 H2 cm (fun k => ?_) (Nat.le_trans hlen al) ((s0.trans s1).trans s2) lm
    rw [hv k, val_addT]
    show 0 + _ = _
    rw [Int.zero_add]
theorem sc_Legs___mul__ : FnScope ["self", "number"] ["self", "number"] (defScope (inClass (top 29) 11)) := ⟨rfl, rfl, rfl, by decide +kernel, rfl, by decide +kernel, by decide +kernel⟩
theorem ok_Legs___mul__ (T : Txt P K mg) : OkF P w K mg base CX0 7 (He.ma K (He.ga K "Legs") "__mul__") ["self", "number"] (spMulL K) := by
  have G_added := ok_added (P := P) (w := w) (base := base) T
  have G_TableLegs := ok_TableLegs (P := P) (w := w) (base := base) T
  obtain ⟨fd, F⟩ := T.F_Legs___mul__
  refine ⟨fd, F.ok sc_Legs___mul__ (fun vs H Q E h => ?_) (fun cdv A outer s H vs Q E hr h => ?_), F.bindsN fun _ _ _ _ _ _ us hl => match us, hl with | [_, _], _ => rfl, F.kp⟩
  · obtain ⟨a, C, m, n, rfl, _⟩ := h
    rfl
  · obtain ⟨a, C, m, n, rfl, l, c, hn, hb, k⟩ := h
    obtain ⟨dx, d, h1, h2⟩ := l.at_
    refine ⟨_, PSs.nox (pss_one (ps_ret (pe_mkI T.leg.mT G_TableLegs (hr.mono (by decide)) (by rfl) T.g_TableLegs pass0 (pa_cons (pe_f G_added (hr.mono (by decide)) (by rfl) T.g_added pass0 (pa_cons pe_dnewK (pa_cons (pe_fld (pv 0) rfl) (pa_cons (pv 1) pa_nil)))) pa_nil)))), ?_⟩
    refine fun e he => ?_
    have s0 : Same H (upd H e (.dK [])) := same_new he
    refine ⟨_, rfl, a, C, dx, _, _, rfl, s0 _ _ h1, c.pl.cls, c.no, rfl, ?_⟩
    refine ⟨_, rfl, ?_⟩
    refine ⟨e, d, [], m, n, rfl, upd_same, s0 _ _ h2, List.nodup_nil, l.can.nd, by have := l.len; simpa using this, hn, hb, fun p H1 np s1 hp => ?_⟩
    have al : (addT [] m n).length ≤ m.length := by have := addT_length (one := []) (other := m) (s := n); simpa using this
    refine mkT_ok hp (addT_nd List.nodup_nil l.can.nd) (Nat.lt_of_le_of_lt al l.len) fun x m2 H2 cm hv hlen s2 lm _ => ?_
    refine k x m2 H2 cm (fun k => ?_) (Nat.le_trans hlen al) ((s0.trans s1).trans s2) lm
    rw [hv k, val_addT]
    show 0 + _ = _
    rw [Int.zero_add]
end
end Kx
set_option maxHeartbeats 4000000
namespace Kx
open PySem PySem.Spec PyProof.Rows L2 Xr
local macro_rules | `(tactic| walk_at "rd") => `(tactic| (repeat (first | apply Exists.intro | (refine And.intro rfl ?_) | (refine And.intro (SqL.of (by assumption)) ?_) | (refine And.intro (Or.inl (SqL.of (by assumption))) ?_) | (refine Or.inl ⟨_, rfl, ?_⟩) | (refine Or.inr ⟨_, rfl, ?_⟩) | (refine And.intro (by assumption) ?_) | (refine And.intro (Or.inl (by assumption)) ?_))))
section
variable {P : Program} {w : World} {K : PySem.W.Frag} {mg : Str → Option Value} {base : Heap}
theorem sc_Legs___eq__ : FnScope ["self", "other"] ["self", "other"] (defScope (inClass (top 29) 12)) := ⟨rfl, rfl, rfl, by decide +kernel, rfl, by decide +kernel, by decide +kernel⟩
def spEqL (K : PySem.W.Frag) : Sp := fun vs H Q _ => ∃ a v C m, vs = [.ref a, v] ∧ LegsAt H C a m ∧ CL K C ∧ ((∃ b C' m', v = .ref b ∧ LegsAt H C' b m' ∧ CL K C' ∧ Q (.bl (decide (m = m'))) H) ∨ ∃ t, TyX K H v t ∧ PySem.W.kitOne K t (.ref (aL K)) = some false ∧ Q (.bl false) H)
theorem ok_Legs___eq__ (T : Txt P K mg) : OkF P w K mg base CX0 1 (He.ma K (He.ga K "Legs") "__eq__") ["self", "other"] (spEqL K) := by
  obtain ⟨fd, F⟩ := T.F_Legs___eq__
  refine ⟨fd, F.ok sc_Legs___eq__ (fun vs H Q E h => ?_) (fun cdv A outer s H vs Q E hr h => ?_), F.bindsN fun _ _ _ _ _ _ us hl => match us, hl with | [_, _], _ => rfl, F.kp⟩
  · obtain ⟨a, v, C, m, rfl, _⟩ := h
    rfl
  · obtain ⟨a, v, C, m, rfl, l, c, k⟩ := h
    obtain ⟨dx, d, h1, h2⟩ := l.at_
    refine ⟨_, PSs.nox (pss_one (ps_ret (pe_and (pe_callB (call_isiK K) (by rfl) T.z_isinstance (by decide +kernel) (pa_cons (pv 1) (pa_cons (pe_glob (v := .ref (He.ga K "Legs")) (by rfl) T.g_Legs rfl) pa_nil))) (pe_one (pe_cmpR (op_eqDF hr.units0) (pe_fld (pv 0) rfl) (pe_fld (pv 1) rfl) (nomark _)))))), ?_⟩
    rcases k with ⟨b, C', m', rfl, l', c', k⟩ | ⟨t, ty, e, k⟩
    · obtain ⟨dx', d', h1', h2'⟩ := l'.at_
      refine ⟨_, rfl, _, _, _, _, _, rfl, .own (aL K), c'.pl.ty T.all h1', c'.ki, _, rfl, iteT ?_⟩
      refine ⟨_, rfl, a, C, dx, _, _, rfl, h1, c.pl.cls, c.no, rfl, _, rfl, b, C', dx', _, _, rfl, h1', c'.pl.cls, c'.no, rfl, d, d', _, _, rfl, rfl, h2, h2', flat_tab m, flat_tab m', ?_⟩
      rw [eq_tab l.can l'.can]
      exact k
    · exact ⟨_, rfl, _, _, _, _, _, rfl, .own (aL K), ty, e, _, rfl, k⟩
theorem sc_Legs___len__ : FnScope ["self"] ["self"] (defScope (inClass (top 29) 7)) := ⟨rfl, rfl, rfl, by decide +kernel, rfl, by decide +kernel, by decide +kernel⟩
def spLenL (K : PySem.W.Frag) : Sp := fun vs H Q _ => ∃ a C m, vs = [.ref a] ∧ LegsAt H C a m ∧ CL K C ∧ Q (.int m.length) H
theorem tab_len (m : Tab) : (tabK m).length = m.length := List.length_map _
theorem ok_Legs___len__ (T : Txt P K mg) : OkF P w K mg base CX0 1 (He.ma K (He.ga K "Legs") "__len__") ["self"] (spLenL K) := by
  obtain ⟨fd, F⟩ := T.F_Legs___len__
  refine ⟨fd, F.ok sc_Legs___len__ (fun vs H Q E h => ?_) (fun cdv A outer s H vs Q E hr h => ?_), F.bindsN fun _ _ _ _ _ _ us hl => match us, hl with | [_], _ => rfl, F.kp⟩
  · obtain ⟨a, C, m, rfl, _⟩ := h
    rfl
  · obtain ⟨a, C, m, rfl, l, c, k⟩ := h
    obtain ⟨dx, d, h1, h2⟩ := l.at_
    refine ⟨_, PSs.nox (pss_one (ps_ret (pe_callB call_lenD (by rfl) T.z_len (by decide +kernel) (pa_cons (pe_fld (pv 0) rfl) pa_nil)))), ?_⟩
    refine ⟨_, rfl, a, C, dx, _, _, rfl, h1, c.pl.cls, c.no, rfl, d, _, rfl, h2, ?_⟩
    rw [tab_len]
    exact k
theorem sc_Legs___getitem__ : FnScope ["self", "month"] ["self", "month"] (defScope (inClass (top 29) 5)) := ⟨rfl, rfl, rfl, by decide +kernel, rfl, by decide +kernel, by decide +kernel⟩
def spItemL (K : PySem.W.Frag) : Sp := fun vs H Q _ => ∃ a v C m, vs = [.ref a, v] ∧ LegsAt H C a m ∧ CL K C ∧ ((∃ x, v = .str x ∧ Q (.int (val m x)) H) ∨ ∃ t, TyX K H v t ∧ PySem.W.kitOne K t (.type "str") = some false ∧ Q (.int 0) H)
theorem ok_Legs___getitem__ (T : Txt P K mg) : OkF P w K mg base CX0 1 (He.ma K (He.ga K "Legs") "__getitem__") ["self", "month"] (spItemL K) := by
  obtain ⟨fd, F⟩ := T.F_Legs___getitem__
  refine ⟨fd, F.ok sc_Legs___getitem__ (fun vs H Q E h => ?_) (fun cdv A outer s H vs Q E hr h => ?_), F.bindsN fun _ _ _ _ _ _ us hl => match us, hl with | [_, _], _ => rfl, F.kp⟩
  · obtain ⟨a, v, C, m, rfl, _⟩ := h
    rfl
  · obtain ⟨a, v, C, m, rfl, l, c, k⟩ := h
    obtain ⟨dx, d, h1, h2⟩ := l.at_
    have hu := hu_of hr
    refine ⟨_, PSs.nox (pss_cons (ps_if (PW.pt (pw_and (pt_val (pe_callB (call_isiK K) (by rfl) T.z_isinstance (by decide +kernel) (pa_cons (pv 1) (pa_cons (pe_bltn (v := .ty "str") (by rfl) T.z_str (by decide +kernel) rfl) pa_nil)))) (pw_and1 (pt_cmp (pc_din hu (pv 1) (pe_fld (pv 0) rfl)) rfl))))
      (pss_one (ps_ret (pe_dget hu (pe_fld (pv 0) rfl) (pv 1) (fun _ _ => rfl))))
      pss_nil)
    (pss_one (ps_ret pe_int))), ?_⟩
    rcases k with ⟨x, rfl, k⟩ | ⟨t, ty, e, k⟩
    · refine ⟨_, rfl, _, _, _, _, _, rfl, .ty "str", .base (.str x), kit_ss, _, rfl, iteT ?_⟩
      by_cases hm : x ∈ ks m
      · refine ⟨_, rfl, _, rfl, a, C, dx, _, _, rfl, h1, c.pl.cls, c.no, rfl, d, _, rfl, .inl ⟨_, .inr x, .inl h2, rfl, (valV_in hm).symm⟩, _, rfl, ?_⟩
        refine iteT ⟨_, rfl, a, C, dx, _, _, rfl, h1, c.pl.cls, c.no, rfl, _, rfl, d, _, rfl, .inl ⟨_, .inr x, .inl h2, rfl, (valV_in hm).symm⟩, k⟩
      · refine ⟨_, rfl, _, rfl, a, C, dx, _, _, rfl, h1, c.pl.cls, c.no, rfl, d, _, rfl, .inl ⟨_, .inr x, .inl h2, rfl, (valV_out hm).symm⟩, _, rfl, ?_⟩
        rw [val_out hm] at k
        exact k
    · exact ⟨_, rfl, _, _, _, _, _, rfl, .ty "str", ty, e, _, rfl, k⟩
theorem sc_Legs_months : FnScope ["self"] ["self"] (defScope (inClass (top 29) 4)) := ⟨rfl, rfl, rfl, by decide +kernel, rfl, by decide +kernel, by decide +kernel⟩
def spMonths (K : PySem.W.Frag) : Sp := fun vs H Q _ => ∃ a C m, vs = [.ref a] ∧ LegsAt H C a m ∧ CL K C ∧ ∀ p H', H p = none → Same H H' → H' p = some (.tup ((ks m).map V.str)) → Q (.ref p) H'
theorem ok_Legs_months (T : Txt P K mg) : OkF P w K mg base CX0 1 (He5.wf K (He.ga K "Legs") "property" "months") ["self"] (spMonths K) := by
  obtain ⟨fd, F⟩ := T.F_Legs_months
  refine ⟨fd, F.ok sc_Legs_months (fun vs H Q E h => ?_) (fun cdv A outer s H vs Q E hr h => ?_), F.bindsN fun _ _ _ _ _ _ us hl => match us, hl with | [_], _ => rfl, F.kp⟩
  · obtain ⟨a, C, m, rfl, _⟩ := h
    rfl
  · obtain ⟨a, C, m, rfl, l, c, k⟩ := h
    obtain ⟨dx, d, h1, h2⟩ := l.at_
    refine ⟨_, PSs.nox (pss_one (ps_ret (pe_callTy call_tuple_of (by rfl) T.z_tuple (by decide +kernel) (pa_cons (pe_callTy (call_list_dK rfl) (by rfl) T.z_list (by decide +kernel) (pa_cons (pe_fld (pv 0) rfl) pa_nil)) pa_nil)))), ?_⟩
    refine ⟨_, rfl, a, C, dx, _, _, rfl, h1, c.pl.cls, c.no, rfl, d, _, rfl, h2, fun l nl => ?_⟩
    refine ⟨l, _, rfl, .inl ⟨SqL.of upd_same, fun p np => ?_⟩⟩
    have s1 : Same H (upd H l (.lst ((tabK m).map fun kv => kV kv.1))) := same_new nl
    have e : ((tabK m).map fun kv => kV kv.1) = (ks m).map V.str := keysV_tab m
    refine k p _ (s1.free np) (s1.trans (same_new np)) ?_
    rw [upd_same, e]
theorem sc_Legs_of : FnScope ["cls", "table"] ["cls", "table"] (defScope (inClass (top 29) 1)) := ⟨rfl, rfl, rfl, by decide +kernel, rfl, by decide +kernel, by decide +kernel⟩
def spOf (K : PySem.W.Frag) : Sp := fun vs H Q _ => ∃ c d t, vs = [.ref c, .ref d] ∧ H d = some (.dK (tabK t)) ∧ GoodT t ∧ ∀ x m H', Canon m → (∀ k, val m k = val t k) → m.length ≤ t.length → Same H H' → LegsAt H' (aT K) x m → Q (.ref x) H'
theorem kit_dd : PySem.W.kitOne K (.type "dict") (.type "dict") = some true := kit_ty (by decide +kernel)
theorem ok_Legs_of (T : Txt P K mg) : OkF P w K mg base CX0 7 (He5.wf K (He.ga K "Legs") "classmethod" "of") ["cls", "table"] (spOf K) := by
  have G_need_numbers := ok_need_numbers (P := P) (w := w) (base := base) T
  have G_TableLegs := ok_TableLegs (P := P) (w := w) (base := base) T
  obtain ⟨fd, F⟩ := T.F_Legs_of
  refine ⟨fd, F.ok sc_Legs_of (fun vs H Q E h => ?_) (fun cdv A outer s H vs Q E hr h => ?_), F.bindsN fun _ _ _ _ _ _ us hl => match us, hl with | [_, _], _ => rfl, F.kp⟩
  · obtain ⟨c, d, t, rfl, _⟩ := h
    rfl
  · obtain ⟨c, d, t, rfl, hd, g, k⟩ := h
    refine ⟨_, PSs.nox (pss_cons (ps_if (pt_not (pt_val (pe_callB (call_isiK K) (by rfl) T.z_isinstance (by decide +kernel) (pa_cons (pv 1) (pa_cons (pe_bltn (v := .ty "dict") (by rfl) T.z_dict (by decide +kernel) rfl) pa_nil)))))
      (pss_one ps_never)
      pss_nil)
    (pss_cons (ps_expr (pe_f G_need_numbers (hr.mono (by decide)) (by rfl) T.g_need_numbers pass0 (pa_cons (pv 1) pa_nil)))
    (pss_one (ps_ret (pe_mkI T.leg.mT G_TableLegs (hr.mono (by decide)) (by rfl) T.g_TableLegs pass0 (pa_cons (pv 1) pa_nil)))))), ?_⟩
    refine ⟨_, rfl, _, _, _, _, _, rfl, .ty "dict", .base (.dK hd), kit_dd, _, rfl, ?_⟩
    refine ⟨_, rfl, d, t, rfl, hd, g, fun H1 s1 => ?_⟩
    refine ⟨_, rfl, mkT_ok (s1 _ _ hd) g.nd g.len fun x m H2 cm hv hlen s2 lm _ => k x m H2 cm hv hlen (s1.trans s2) lm⟩
end
end Kx
set_option maxHeartbeats 4000000
namespace Kx
open PySem PySem.Spec PyProof.Rows L2 Xr
local macro_rules | `(tactic| walk_at "rd") => `(tactic| (repeat (first | apply Exists.intro | (refine And.intro rfl ?_) | (refine And.intro (SqL.of (by assumption)) ?_) | (refine And.intro (Or.inl (SqL.of (by assumption))) ?_) | (refine Or.inl ⟨_, rfl, ?_⟩) | (refine Or.inr ⟨_, rfl, ?_⟩) | (refine And.intro (by assumption) ?_) | (refine And.intro (Or.inl (by assumption)) ?_))))
section
variable {P : Program} {w : World} {K : PySem.W.Frag} {mg : Str → Option Value} {base : Heap}
theorem atI_ints {ns : List Int} {i : Int} (h0 : 0 ≤ i) (h1 : i < (ns.length : Int)) : ∃ c : Int, atI (ns.map V.int) i = some (.int c) := by
  have hl : i.toNat < ns.length := by omega
  refine ⟨ns[i.toNat], ?_⟩
  unfold atI ixN
  rw [List.length_map, if_pos h0, if_pos h1]
  show (ns.map V.int)[i.toNat]? = _
  rw [List.getElem?_map, List.getElem?_eq_getElem hl]
  rfl
theorem pw5 {x : Int} (h0 : 0 ≤ x) (h1 : x < 18446744073709551616) : CPow x 5 := ⟨by decide, by decide, by omega⟩
theorem pw3 {x : Int} (h0 : 0 ≤ x) (h1 : x < 18446744073709551616) : CPow x 3 := ⟨by decide, by decide, by omega⟩
theorem mul_lt {a b c d : Int} (h0 : 0 ≤ a) (h1 : a < c) (h2 : 0 ≤ b) (h3 : b ≤ d) : 0 ≤ a * b ∧ a * b ≤ c * d :=
  ⟨Int.mul_nonneg h0 h2, Int.mul_le_mul (Int.le_of_lt h1) h3 h2 (Int.le_trans h0 (Int.le_of_lt h1))⟩
theorem mix_ok {x a : Int} (h : 0 ≤ x ∧ x < 2147483629) (a0 : 0 ≤ a) (a2 : a ≤ 1000000) : (-(2 ^ 64 : Int) < x ∧ x < 2 ^ 64) ∧ 0 ≤ x * (a + 20027) + 50053 * a * a + 23 ∧ x * (a + 20027) + 50053 * a * a + 23 < 18446744073709551616 := by
  have y1 := mul_lt (a := x) (b := a + 20027) (c := 2147483629) (d := 1020027) h.1 h.2 (by omega) (by omega)
  have y2 := mul_lt (a := 50053 * a) (b := a) (c := 50053000001) (d := 1000000) (by omega) (by omega) (by omega) (by omega)
  omega
theorem sc__law_draw : FnScope ["_law_pen_here", "_law_many", "_law_digit", "_law_at", "_law_cell", "_law_great", "_law_mixed"] ["_law_pen_here", "_law_many"] (defScope (top 45)) := ⟨rfl, rfl, rfl, by decide +kernel, rfl, by decide +kernel, by decide +kernel⟩
set_option maxHeartbeats 4000000 in
theorem ok__law_draw (T : Txt P K mg) : OkF P w K mg base CX0 1 (He.ga K "_law_draw") ["_law_pen_here", "_law_many"] spDraw := by
  obtain ⟨fd, F⟩ := T.F__law_draw
  refine ⟨fd, F.ok sc__law_draw (fun vs H Q E h => ?_) (fun cdv A outer s H vs Q E hr h => ?_), F.bindsN fun _ _ _ _ _ _ us hl => match us, hl with | [_, _], _ => rfl, F.kp⟩
  · obtain ⟨p, q, ns, a, r, m, rfl, _⟩ := h
    rfl
  · obtain ⟨p, q, ns, a, r, m, rfl, S, m1, m2, a2, k⟩ := h
    have hu64 := hr.units
    have hp := S.pen
    have hq := S.cells
    have a0 := S.a0
    have r0 := S.r0
    have mp : 0 < m := by omega
    have md : CDiv r m := ⟨mp, by omega⟩
    refine ⟨_, PSs.nox (pss_cons (ps_if (pt_cmpR op_gt (pe_ix (ix_listK K) (pv 0) pe_int (fun _ _ => rfl)) pe_int (nomark _))
      (pss_cons (ps_asg (pe_op op_mod (pe_callTy call_int1 (by rfl) T.z_int (by decide +kernel) (pa_cons (pe_ix (ix_listK K) (pv 0) pe_int (fun _ _ => rfl)) pa_nil)) (pv 1)) (pg_name (i := 2) sc__law_draw.nd rfl (.inl rfl)))
    (pss_cons (ps_asg (pe_op op_fdiv (pe_callTy call_int1 (by rfl) T.z_int (by decide +kernel) (pa_cons (pe_ix (ix_listK K) (pv 0) pe_int (fun _ _ => rfl)) pa_nil)) (pv 1)) (pg_sub (pv 0) pe_int set_list))
    (pss_one (ps_ret (pv 2)))))
      pss_nil)
    (pss_cons (ps_asg (pe_ix (ix_listK K) (pv 0) pe_int (fun _ _ => rfl)) (pg_name (i := 3) sc__law_draw.nd rfl (.inl rfl)))
    (pss_cons (ps_asg (pe_op op_add (pv 3) pe_int) (pg_sub (pv 0) pe_int set_list))
    (pss_cons (ps_asg (pe_op op_add (pe_op op_mul pe_int (pv 3)) pe_int) (pg_name (i := 4) sc__law_draw.nd rfl (.inl rfl)))
    (pss_cut (ps_if (pt_cmpR (op_neD hu64) (pe_ix (ix_listK K) (pv 0) pe_int (fun _ _ => rfl)) (pe_lst pa_nil) (nomark _))
      (pss_one (ps_asg (pe_ix (ix_listK K) (pe_ix (ix_listK K) (pv 0) pe_int (fun _ _ => rfl)) (pe_op op_mod (pe_callTy call_int1 (by rfl) T.z_int (by decide +kernel) (pa_cons (pv 3) pa_nil)) (pe_callB call_len_seq (by rfl) T.z_len (by decide +kernel) (pa_cons (pe_ix (ix_listK K) (pv 0) pe_int (fun _ _ => rfl)) pa_nil))) (fun _ _ => rfl)) (pg_name (i := 4) sc__law_draw.nd rfl (.inl rfl))))
      pss_nil)
    (pss_cut (ps_if (PW.pt (pw_and (pt_cmpR op_lt (pv 3) (pe_callB call_len_seq (by rfl) T.z_len (by decide +kernel) (pa_cons (pe_ix (ix_listK K) (pv 0) pe_int (fun _ _ => rfl)) pa_nil)) (nomark _)) (pw_and1 (pt_cmpR op_ge (pe_callB call_abs (by rfl) T.z_abs (by decide +kernel) (pa_cons (pv 4) pa_nil)) (pe_op op_pow pe_int pe_int) (nomark _)))))
      (pss_cons (ps_asg (pe_op op_add (pe_op op_mul pe_int (pe_callB call_abs (by rfl) T.z_abs (by decide +kernel) (pa_cons (pv 4) pa_nil))) (pe_callTy call_int1 (by rfl) T.z_int (by decide +kernel) (pa_cons (pe_cmpR op_lt (pv 4) pe_int (nomark _)) pa_nil))) (pg_name (i := 5) sc__law_draw.nd rfl (.inl rfl)))
    (pss_cons (ps_asg (pe_op op_fdiv (pe_callTy call_int1 (by rfl) T.z_int (by decide +kernel) (pa_cons (pv 5) pa_nil)) (pv 1)) (pg_sub (pv 0) pe_int set_list))
    (pss_one (ps_ret (pe_op op_mod (pe_callTy call_int1 (by rfl) T.z_int (by decide +kernel) (pa_cons (pv 5) pa_nil)) (pv 1))))))
      pss_nil)
    (pss_cons (ps_asg (pe_op op_mod (pe_callTy call_int1 (by rfl) T.z_int (by decide +kernel) (pa_cons (pe_op op_pow (pe_op op_add (pe_op op_add (pe_op op_mod (pe_callTy call_int1 (by rfl) T.z_int (by decide +kernel) (pa_cons (pv 4) pa_nil)) pe_int) (pe_op op_mul pe_int (pv 3))) pe_int) pe_int) pa_nil)) pe_int) (pg_name (i := 6) sc__law_draw.nd rfl (.inl rfl)))
    (pss_cons (ps_asg (pe_op op_mod (pe_callTy call_int1 (by rfl) T.z_int (by decide +kernel) (pa_cons (pe_op op_pow (pe_op op_add (pe_op op_add (pe_op op_mul (pv 6) (pe_op op_add (pv 3) pe_int)) (pe_op op_mul (pe_op op_mul pe_int (pv 3)) (pv 3))) pe_int) pe_int) pa_nil)) pe_int) (pg_name (i := 6) sc__law_draw.nd rfl (.inl rfl)))
    (pss_one (ps_ret (pe_op op_mod (pe_callTy call_int1 (by rfl) T.z_int (by decide +kernel) (pa_cons (pe_op op_fdiv (pv 6) pe_int) pa_nil)) (pv 1)))))))))))), ?_⟩
    walk_at "rd"
    show (if decide (0 < r) = true then _ else _)
    by_cases hr0 : 0 < r
    · rw [if_pos (decide_eq_true hr0)]
      walk_at "rd"
      refine k (r % m) a (r / m) _ (Int.emod_nonneg _ (by omega)) (Int.emod_lt_of_pos _ mp) (Int.le_refl _) (by omega) (But.refl.upd) (S.keep But.refl.upd upd_same a0 (Int.ediv_nonneg r0 (by omega)))
    · rw [if_neg (by simpa using hr0)]
      walk_at "rd"
      have hp1 : upd H p (.lst [.ref q, .int (a + 1), .int r]) p = some (.lst [.ref q, .int (a + 1), .int r]) := upd_same
      have hq1 : upd H p (.lst [.ref q, .int (a + 1), .int r]) q = some (.lst (ns.map V.int)) := (upd_ne S.ne).trans hq
      refine And.intro (.inl ⟨by decide, by decide⟩) ?_
      walk_at "rd"
      refine CutP.mk (fun σ' H' => ∃ c : Int, σ' = [some (.ref p), some (.int m), none, some (.int a), some (.int c), none, none] ∧ But p H H' ∧ PenAt H' p q ns (a + 1) r) ?_ ?_
      · refine ⟨_, rfl, p, _, _, _, rfl, rfl, SqL.of hp1, rfl, show (0 : Nat) ≤ sizeLine by decide, fun z hz => ?_⟩
        have S2 : PenAt (upd (upd H p (.lst [.ref q, .int (a + 1), .int r])) z (.lst [])) p q ns (a + 1) r :=
          (S.keep But.refl.upd upd_same (by omega) r0).same (same_new hz)
        have B2 : But p H (upd (upd H p (.lst [.ref q, .int (a + 1), .int r])) z (.lst [])) := But.refl.upd.new hz
        have hp2 := S2.pen
        have hq2 := S2.cells
        refine ⟨_, _, Dp.lst (SqL.of hq2) (dp_ints ns), Dp.lst (SqL.of upd_same) .nil, PySem.W.ke_shaped_ints ns, rfl, _, rfl, ?_⟩
        rw [eqv_nil]
        cases hn : ns.isEmpty with
        | true => exact ⟨_, rfl, B2, S2⟩
        | false =>
          have lp : 0 < ns.length := List.length_pos_iff.mpr fun z => by rw [z] at hn; cases hn
          refine iteT ?_
          obtain ⟨c, hc⟩ := atI_ints (ns := ns) (i := a % ((ns.map V.int).length : Int)) (Int.emod_nonneg _ (by rw [List.length_map]; omega)) (by rw [List.length_map]; exact Int.emod_lt_of_pos _ (by omega))
          refine ⟨_, rfl, p, _, _, _, rfl, rfl, SqL.of hp2, rfl, _, rfl, Or.inl ⟨_, rfl, ?_⟩⟩
          refine ⟨_, rfl, p, _, _, _, rfl, rfl, SqL.of hp2, rfl, q, _, rfl, Or.inl (SqL.of hq2), _, _, rfl, rfl, (by rw [List.length_map]; omega), ?_⟩
          exact ⟨q, _, _, _, rfl, rfl, SqL.of hq2, hc, c, rfl, B2, S2⟩
      · rintro σ' H' ⟨c, rfl, B, S2⟩
        have hp2 := S2.pen
        have hq2 := S2.cells
        have b31 : ∀ x k : Int, 0 < k → 0 ≤ x % k ∧ x % k < k := fun x k h => ⟨Int.emod_nonneg _ (by omega), Int.emod_lt_of_pos _ h⟩
        obtain ⟨c0, c1⟩ := b31 c 2147483549 (by decide)
        refine CutP.mk (fun σ' H' => ∃ c : Int, σ' = [some (.ref p), some (.int m), none, some (.int a), some (.int c), none, none] ∧ But p H H' ∧ PenAt H' p q ns (a + 1) r) ?_ ?_
        · walk_at "rd"
          refine iteD (fun _ => ?_) (fun _ => ?_)
          · walk_at "rd"
            refine And.intro ⟨by decide, by decide, by decide⟩ ?_
            walk_at "rd"
            refine iteD (fun _ => ?_) (fun _ => ⟨c, rfl, B, S2⟩)
            walk_at "rd"
            refine And.intro (.inl ⟨by decide, by decide⟩) ?_
            walk_at "rd"
            have g0 : ∀ v : Int, 0 ≤ v → 0 ≤ v / m := fun v h => Int.ediv_nonneg h (by omega)
            refine k _ (a + 1) _ _ (Int.emod_nonneg _ (by omega)) (Int.emod_lt_of_pos _ mp) (by omega) (by omega) B.upd (S.keep B.upd upd_same (by omega) (g0 _ ?_))
            show 0 ≤ 2 * (if c < 0 then -c else c) + (if decide (c < 0) = true then 1 else 0)
            have e1 : (0 : Int) ≤ if c < 0 then -c else c := by split <;> omega
            have e2 : (0 : Int) ≤ if decide (c < 0) = true then 1 else 0 := by split <;> omega
            omega
          · exact ⟨c, rfl, B, S2⟩
        · rintro σ' H' ⟨c, rfl, B, S2⟩
          have b31 : ∀ x k : Int, 0 < k → 0 ≤ x % k ∧ x % k < k := fun x k h => ⟨Int.emod_nonneg _ (by omega), Int.emod_lt_of_pos _ h⟩
          obtain ⟨c0, c1⟩ := b31 c 2147483549 (by decide)
          have fin0 : 0 ≤ c % 2147483549 + 6373 * a + 519 ∧ c % 2147483549 + 6373 * a + 519 < 18446744073709551616 := by omega
          walk_at "rd"
          refine And.intro (show (0 : Int) < 2147483549 by decide) ?_
          walk_at "rd"
          refine And.intro (.inl ⟨by decide, by decide⟩) ?_
          walk_at "rd"
          refine And.intro (pw5 fin0.1 fin0.2) ?_
          walk_at "rd"
          refine And.intro (show (0 : Int) < 2147483629 by decide) ?_
          have fin1 := mix_ok (b31 ((c % 2147483549 + 6373 * a + 519) ^ (5 : Int).toNat) 2147483629 (by decide)) a0 a2
          walk_at "rd"
          refine And.intro (.inl fin1.1) ?_
          walk_at "rd"
          refine And.intro (.inl ⟨by decide, by decide⟩) ?_
          walk_at "rd"
          refine And.intro (.inl ⟨by show -(2 ^ 64 : Int) < 50053 * a; omega, by show 50053 * a < 2 ^ 64; omega⟩) ?_
          walk_at "rd"
          refine And.intro (pw3 fin1.2.1 fin1.2.2) ?_
          walk_at "rd"
          refine And.intro (show (0 : Int) < 2147483587 by decide) ?_
          walk_at "rd"
          refine And.intro ⟨by decide, by decide⟩ ?_
          walk_at "rd"
          exact k _ (a + 1) r _ (Int.emod_nonneg _ (by omega)) (Int.emod_lt_of_pos _ mp) (by omega) (by omega) B S2
theorem atI_at {xs : List V} {d : Int} (h0 : 0 ≤ d) (h1 : d < (xs.length : Int)) : atI xs d = some (xs[d.toNat]'(by omega)) := by
  unfold atI ixN
  rw [if_pos h0, if_pos h1]
  show xs[d.toNat]? = _
  rw [List.getElem?_eq_getElem (by omega)]
theorem sc__law_pen : FnScope ["_law_script"] ["_law_script"] (defScope (top 44)) := ⟨rfl, rfl, rfl, by decide +kernel, rfl, by decide +kernel, by decide +kernel⟩
theorem ok__law_pen (T : Txt P K mg) : OkF P w K mg base CX0 1 (He.ga K "_law_pen") ["_law_script"] (spPen K) := by
  obtain ⟨fd, F⟩ := T.F__law_pen
  refine ⟨fd, F.ok sc__law_pen (fun vs H Q E h => ?_) (fun cdv A outer s H vs Q E hr h => ?_), F.bindsN fun _ _ _ _ _ _ us hl => match us, hl with | [_], _ => rfl, F.kp⟩
  · obtain ⟨a, ns, rfl, _⟩ := h
    rfl
  · obtain ⟨a, ns, rfl, hS, hl, k⟩ := h
    refine ⟨_, PSs.nox (pss_one (ps_ret (pe_lst (pa_cons (pe_callTy call_list_of (by rfl) T.z_list (by decide +kernel) (pa_cons (pe_slice sl_list (pv 0) po_none (po_some pe_int)) pa_nil)) (pa_cons pe_int (pa_cons pe_int pa_nil)))))), ?_⟩
    walk_at "rd"
    intro p1 n1
    obtain ⟨ns', hc, hl'⟩ : ∃ ns' : List Int, cutV (ns.map V.int) none (some 63) = ns'.map V.int ∧ ns'.length ≤ 63 := cut_ints hl
    have h1 : upd H p1 (.lst (cutV (ns.map V.int) none (some 63))) p1 = some (.lst (cutV (ns.map V.int) none (some 63))) := upd_same
    walk_at "rd"
    intro p2 n2
    refine ⟨show 3 ≤ sizeLine by decide, fun p3 n3 => ?_⟩
    have n23 : p2 ≠ p3 := fun z => by rw [← z, upd_same] at n3; cases n3
    have s1 : Same H (upd H p1 (.lst (cutV (ns.map V.int) none (some 63)))) := same_new n1
    refine k p3 p2 ns' _ (s1.free (Same.free (same_new n2) n3)) (fun b o z => ?_) ⟨upd_same, ?_, hl', Int.le_refl _, Int.le_refl _⟩
    · exact same_new n3 _ _ (same_new n2 _ _ (s1 b o z))
    · rw [upd_ne n23, upd_same, hc]
theorem sc__law_pick : FnScope ["_law_pen_here", "_law_some_here"] ["_law_pen_here", "_law_some_here"] (defScope (top 46)) := ⟨rfl, rfl, rfl, by decide +kernel, rfl, by decide +kernel, by decide +kernel⟩
def spPick (K : PySem.W.Frag) : Sp := fun vs H Q _ => ∃ (p q l : Addr) (ns : List Int) (a r : Int) (xs : List V), vs = [.ref p, .ref l] ∧ PenAt H p q ns a r ∧ a ≤ 1000000 ∧ H l = some (.lst xs) ∧ l ≠ p ∧ 1 ≤ xs.length ∧ xs.length ≤ 1000 ∧
  ∀ (v : V) (a' r' : Int) (H' : Hp), v ∈ xs → a ≤ a' → a' ≤ a + 1 → But p H H' → PenAt H' p q ns a' r' → Q v H'
theorem ok__law_pick (T : Txt P K mg) : OkF P w K mg base CX0 2 (He.ga K "_law_pick") ["_law_pen_here", "_law_some_here"] (spPick K) := by
  have G__law_draw := ok__law_draw (P := P) (w := w) (base := base) T
  obtain ⟨fd, F⟩ := T.F__law_pick
  refine ⟨fd, F.ok sc__law_pick (fun vs H Q E h => ?_) (fun cdv A outer s H vs Q E hr h => ?_), F.bindsN fun _ _ _ _ _ _ us hl => match us, hl with | [_, _], _ => rfl, F.kp⟩
  · obtain ⟨p, q, l, ns, a, r, xs, rfl, _⟩ := h
    rfl
  · obtain ⟨p, q, l, ns, a, r, xs, rfl, S, a2, hx, np, l1, l2, k⟩ := h
    refine ⟨_, PSs.nox (pss_one (ps_ret (pe_ix (ix_listK K) (pv 1) (pe_f G__law_draw (hr.mono (by decide)) (by rfl) T.g__law_draw pass0 (pa_cons (pv 0) (pa_cons (pe_callB call_len_seq (by rfl) T.z_len (by decide +kernel) (pa_cons (pv 1) pa_nil)) pa_nil))) (fun _ _ => rfl)))), ?_⟩
    walk_at "rd"
    refine And.intro (by omega) (And.intro (by omega) (And.intro a2 ?_))
    intro d a' r' H' d0 d1 e0 e1 B S'
    have hx' : H' l = some (.lst xs) := B l _ hx np
    have hd : d.toNat < xs.length := by omega
    walk_at "rd"
    refine And.intro (atI_at d0 (by omega)) ?_
    exact k _ a' r' H' (List.getElem_mem hd) e0 e1 B S'
end
end Kx
set_option maxHeartbeats 4000000
namespace Kx
open PySem PySem.Spec PyProof.Rows L2 Xr
local macro_rules | `(tactic| walk_at "rd") => `(tactic| (repeat (first | apply Exists.intro | (refine And.intro rfl ?_) | (refine And.intro (SqL.of (by assumption)) ?_) | (refine And.intro (Or.inl (SqL.of (by assumption))) ?_) | (refine Or.inl ⟨_, rfl, ?_⟩) | (refine Or.inr ⟨_, rfl, ?_⟩) | (refine And.intro (by assumption) ?_) | (refine And.intro (Or.inl (by assumption)) ?_))))
section
variable {P : Program} {w : World} {K : PySem.W.Frag} {mg : Str → Option Value} {base : Heap}
theorem name_eq (x : Str) : nameB x = nameS x := rfl
theorem sc_number_in : FnScope ["word", "digit"] ["word"] (defScope (top 16)) := ⟨rfl, rfl, rfl, by decide +kernel, rfl, by decide +kernel, by decide +kernel⟩
def numV : Option Int → V
  | none => .non
  | some n => .int n
/-- the number that a word writes -/
def spNumIn : Sp := fun vs H Q _ => ∃ x, vs = [.str x] ∧ x.length ≤ 100000 ∧ ∀ H', Same H H' → Q (numV (numIn x)) H'
theorem ok_number_in (T : Txt P K mg) : OkF P w K mg base CX0 1 (He.ga K "number_in") ["word"] spNumIn := by
  obtain ⟨t1, c_MOST_DIGITS⟩ := T.c_MOST_DIGITS
  obtain ⟨t2, c_DIGITS⟩ := T.c_DIGITS
  obtain ⟨fd, F⟩ := T.F_number_in
  refine ⟨fd, F.ok sc_number_in (fun vs H Q E h => ?_) (fun cdv A outer s H vs Q E hr h => ?_), F.bindsN fun _ _ _ _ _ _ us hl => match us, hl with | [_], _ => rfl, F.kp⟩
  · obtain ⟨x, rfl, _⟩ := h
    rfl
  · obtain ⟨x, rfl, hx, k⟩ := h
    refine ⟨_, PSs.nox (pss_cons (ps_if (PW.pt (pw_or (pt_not (pt_chain op_le op_le pe_int (pe_callB call_len (by rfl) T.z_len (by decide +kernel) (pa_cons (pv 0) pa_nil)) (pe_glob (v := .int 60) (by rfl) c_MOST_DIGITS ⟨_, rfl⟩))) (pw_or1 (pt_not (pt_val (pe_callB (cr_all rfl) (by rfl) T.z_all (by decide +kernel) (pa_cons (pe_lc (own := [("digit", 1)]) (g := gName 1) (tt := tYes) rfl sc_number_in.nd (pi_str (pv 0)) (blkOk_by (N := ["word", "digit"]) (sc := defScope (top 16)) (by decide +kernel)) (fun _ _ _ _ _ => pg_name (i := 1) sc_number_in.nd rfl (Or.inl rfl)) (fun _ _ _ _ _ => pts_nil) (fun _ _ _ _ _ => (pe_cmpR op_in_sign (pv 1) (pe_glob (v := .str "0123456789") (by rfl) c_DIGITS ⟨_, rfl⟩) (by rfl)))) pa_nil)))))))
      (pss_one (ps_ret pe_non))
      pss_nil)
    (pss_one (ps_ret (pe_ifExp (PW.pt (pw_or (pt_cmpR op_eq (pv 0) pe_str (nomark _)) (pw_or1 (pt_cmpR op_ne (pe_ix ix_str (pv 0) pe_int (fun _ _ => rfl)) pe_str (nomark _))))) (pe_callTy call_int_str (by rfl) T.z_int (by decide +kernel) (pa_cons (pv 0) pa_nil)) pe_non)))), ?_⟩
    have fin : numIn x = none → ∀ H', Same H H' → Q .non H' := fun e H' s => by have z := k H' s; rw [e] at z; exact z
    refine ⟨_, rfl, _, x.length, rfl, ⟨by rw [sizeLine_eq]; omega, rfl⟩, 1, (x.length : Int), rfl, rfl, _, rfl, ?_⟩
    have lB : ¬ (1 ≤ x.length ∧ x.length ≤ 60) → numIn x = none := fun h => by
      unfold numIn
      rw [if_neg]
      intro z
      obtain ⟨z, _⟩ := Bool.and_eq_true_iff.mp z
      obtain ⟨z1, z2⟩ := Bool.and_eq_true_iff.mp z
      exact h ⟨of_decide_eq_true z1, of_decide_eq_true z2⟩
    refine iteD (fun h1 => ?_) (fun h1 => ⟨false, rfl, fin (lB (by omega)) H (Same.refl H)⟩)
    refine ⟨_, _, rfl, rfl, _, rfl, ?_⟩
    by_cases h2 : (x.length : Int) ≤ 60
    · refine iteFa (by rw [decide_eq_true h2]; rfl) ?_
      refine ⟨_, rfl, x, rfl, fun D hD => ?_⟩
      refine lcF yl_str (fun _ => true) (fun v => .bl (match v with | .str c => decide (c.cps.toList.headD 0 ∈ digS.cps.toList) | _ => false)) hD (by unfold signsV; rw [List.length_map]; exact hx) (fun _ _ => trivial) (fun _ => rfl) (fun v H' _ _ Qb q => q H' (Same.refl H')) (fun v H' hm _ s2 Q2 q => ?_) fun H' s2 hl => ?_
      · obtain ⟨c, _, rfl⟩ := List.mem_map.mp hm
        exact ⟨_, rfl, c, _, rfl, rfl, q H' (Same.refl H')⟩
      · have e : (List.map (fun v => V.bl (match v with | .str c => decide (c.cps.toList.headD 0 ∈ digS.cps.toList) | _ => false)) (List.filter (fun _ => true) (signsV x))) = (x.cps.toList.map fun c => decide (c ∈ digS.cps.toList)).map V.bl := by
          unfold signsV
          rw [List.filter_eq_self.mpr fun _ _ => rfl, List.map_map, List.map_map]
          rfl
        rw [e] at hl
        refine ⟨D, _, rfl, SqL.of hl, _, rfl, ?_⟩
        have e2 : ((x.cps.toList.map fun c => decide (c ∈ digS.cps.toList)).all id) = (x.cps.toList.all fun c => decide (c ∈ digS.cps.toList)) := by
          rw [List.all_map]
          rfl
        rw [e2]
        cases ha : (x.cps.toList.all fun c => decide (c ∈ digS.cps.toList)) with
        | false =>
          refine fin ?_ H' s2
          unfold numIn
          rw [ha, Bool.and_false]
          rfl
        | true =>
          have hl1 : 1 ≤ x.length := by omega
          have hl2 : x.length ≤ 60 := by omega
          have en : numIn x = if x = "0" ∨ x.cps.toList.headD 0 ≠ 48 then some ((NumText.digitsVal x.cps.toList : Nat) : Int) else none := by
            unfold numIn
            rw [ha, decide_eq_true hl1, decide_eq_true hl2]
            rfl
          have hint : PySem.intText? x = some ((NumText.digitsVal x.cps.toList : Nat) : Int) := by
            refine PySem.intText_digits (fun c hc => dig_iff.mp (of_decide_eq_true (List.all_eq_true.mp ha c hc))) (fun z => ?_) (by omega)
            rw [← len_toList, z] at hl1
            simp at hl1
          have hne : ∃ c r, x.cps.toList = c :: r := by
            cases h : x.cps.toList with
            | nil => rw [← len_toList, h] at hl1; simp at hl1
            | cons c r => exact ⟨c, r, rfl⟩
          obtain ⟨c, r, hc⟩ := hne
          have yes : (x = "0" ∨ x.cps.toList.headD 0 ≠ 48) → Q (.int ((NumText.digitsVal x.cps.toList : Nat) : Int)) H' := fun z => by
            have q := k H' s2
            rw [en, if_pos z] at q
            exact q
          have no : ¬ (x = "0" ∨ x.cps.toList.headD 0 ≠ 48) → Q .non H' := fun z => by
            have q := k H' s2
            rw [en, if_neg z] at q
            exact q
          refine ⟨_, rfl, rfl, _, rfl, ?_⟩
          by_cases h0 : x = "0"
          · refine iteTr (by rw [h0]; rfl) ⟨_, rfl, x, _, rfl, hint, by omega, yes (.inl h0)⟩
          · refine iteFa (by simp [h0]) ⟨_, rfl, x, 0, c, rfl, rfl, by rw [sizeLine_eq]; omega, by rw [hc]; unfold atI ixN; rw [if_pos (by decide), if_pos (by simp)]; rfl, rfl, _, rfl, ?_⟩
            have ec : decide (V.str ⟨#[c]⟩ = V.str "0") = decide (c = 48) := by
              have z : (Str.ofString "0") = ⟨#[48]⟩ := by decide +kernel
              by_cases hc2 : c = 48
              · subst hc2
                rw [z]
                simp
              · rw [decide_eq_false hc2, z]
                simp [hc2]
            rw [ec]
            by_cases hc2 : c = 48
            · exact iteFa (by rw [decide_eq_true hc2]; rfl) (no (by rw [hc]; simp [h0, hc2]))
            · exact iteTr (by rw [decide_eq_false hc2]; rfl) ⟨_, rfl, x, _, rfl, hint, by omega, yes (.inr (by rw [hc]; exact hc2))⟩
    · exact iteTr (by rw [decide_eq_false h2]; rfl) (fin (lB (by omega)) H (Same.refl H))
end
end Kx
set_option maxHeartbeats 4000000
namespace Kx
open PySem PySem.Spec PyProof.Rows L2 Xr
local macro_rules | `(tactic| walk_at "rd") => `(tactic| (repeat (first | apply Exists.intro | (refine And.intro rfl ?_) | (refine And.intro (SqL.of (by assumption)) ?_) | (refine And.intro (Or.inl (SqL.of (by assumption))) ?_) | (refine Or.inl ⟨_, rfl, ?_⟩) | (refine Or.inr ⟨_, rfl, ?_⟩) | (refine And.intro (by assumption) ?_) | (refine And.intro (Or.inl (by assumption)) ?_))))
section
variable {P : Program} {w : World} {K : PySem.W.Frag} {mg : Str → Option Value} {base : Heap}
/-- words at l -/
structure Wds (H : Hp) (l : Addr) (ws : List Str) : Prop where
  at_ : H l = some (.lst (ws.map V.str))
  len : ws.length ≤ 100000
  each : ∀ w ∈ ws, w.length ≤ 100000
  ok : ∀ w ∈ ws, PyData.strOk w = true
theorem Wds.same {H H' : Hp} {l : Addr} {ws : List Str} (h : Wds H l ws) (s : Same H H') : Wds H' l ws := ⟨s _ _ h.at_, h.len, h.each, h.ok⟩
theorem atI_word {ws : List Str} {a : Nat} {x : Str} (h : wordAt ws a = .ok x) : atI (ws.map V.str) (a : Int) = some (.str x) ∧ a < ws.length ∧ x ∈ ws := by
  unfold wordAt at h
  cases e : ws[a]? with
  | none => rw [e] at h; cases h
  | some y =>
    rw [e] at h
    cases h
    have hl : a < ws.length := by
      rcases Nat.lt_or_ge a ws.length with z | z
      · exact z
      · rw [List.getElem?_eq_none z] at e
        cases e
    refine ⟨?_, hl, List.mem_of_getElem? e⟩
    unfold atI ixN
    rw [List.length_map, if_pos (by omega), if_pos (by omega)]
    show (ws.map V.str)[(a : Int).toNat]? = _
    rw [Int.toNat_natCast, List.getElem?_map, e]
    rfl
theorem sc_word_at : FnScope ["words", "line", "at"] ["words", "line", "at"] (defScope (top 21)) := ⟨rfl, rfl, rfl, by decide +kernel, rfl, by decide +kernel, by decide +kernel⟩
def spWordAt (K : PySem.W.Frag) : Sp := fun vs H Q _ => ∃ l ln a ws x, vs = [.ref l, ln, .int ((a : Nat) : Int)] ∧ Wds H l ws ∧ wordAt ws a = .ok x ∧ Q (.str x) H
theorem ok_word_at (T : Txt P K mg) : OkF P w K mg base CX0 1 (He.ga K "word_at") ["words", "line", "at"] (spWordAt K) := by
  obtain ⟨fd, F⟩ := T.F_word_at
  refine ⟨fd, F.ok sc_word_at (fun vs H Q E h => ?_) (fun cdv A outer s H vs Q E hr h => ?_), F.bindsN fun _ _ _ _ _ _ us hl => match us, hl with | [_, _, _], _ => rfl, F.kp⟩
  · obtain ⟨l, ln, a, ws, x, rfl, _⟩ := h
    rfl
  · obtain ⟨l, ln, a, ws, x, rfl, hw, hx, k⟩ := h
    refine ⟨_, PSs.nox (pss_cons (ps_if (pt_cmpR op_ge (pv 2) (pe_callB call_len_seq (by rfl) T.z_len (by decide +kernel) (pa_cons (pv 0) pa_nil)) (nomark _))
      (pss_one ps_never)
      pss_nil)
    (pss_one (ps_ret (pe_ix (ix_listK K) (pv 0) (pv 2) (fun _ _ => rfl))))), ?_⟩
    obtain ⟨h1, h2, _⟩ := atI_word hx
    refine ⟨_, rfl, _, rfl, l, _, rfl, .inl (SqL.of hw.at_), _, _, rfl, rfl, _, rfl, iteFa (by rw [List.length_map]; simp; omega) ?_⟩
    exact ⟨_, rfl, _, rfl, l, _, _, _, rfl, rfl, SqL.of hw.at_, h1, k⟩
theorem sc_sign_at : FnScope ["words", "line", "at", "is_first", "word"] ["words", "line", "at", "is_first"] (defScope (top 22)) := ⟨rfl, rfl, rfl, by decide +kernel, rfl, by decide +kernel, by decide +kernel⟩
def spSignAt (K : PySem.W.Frag) : Sp := fun vs H Q _ => ∃ l ln a ws f s b, vs = [.ref l, ln, .int ((a : Nat) : Int), .bl f] ∧ Wds H l ws ∧ signAt ws a f = .ok (s, b) ∧ ∀ p H', Same H H' → H' p = some (.tup [.int s, .int ((b : Nat) : Int)]) → Q (.ref p) H'
theorem ok_sign_at (T : Txt P K mg) : OkF P w K mg base CX0 2 (He.ga K "sign_at") ["words", "line", "at", "is_first"] (spSignAt K) := by
  have G_word_at := ok_word_at (P := P) (w := w) (base := base) T
  obtain ⟨fd, F⟩ := T.F_sign_at
  refine ⟨fd, F.ok sc_sign_at (fun vs H Q E h => ?_) (fun cdv A outer s H vs Q E hr h => ?_), F.bindsN fun _ _ _ _ _ _ us hl => match us, hl with | [_, _, _, _], _ => rfl, F.kp⟩
  · obtain ⟨l, ln, a, ws, f, s, b, rfl, _⟩ := h
    rfl
  · obtain ⟨l, ln, a, ws, f, sg, b, rfl, hw, hx, k⟩ := h
    refine ⟨_, PSs.nox (pss_cons (ps_asg (pe_f G_word_at (hr.mono (by decide)) (by rfl) T.g_word_at pass0 (pa_cons (pv 0) (pa_cons (pv 1) (pa_cons (pv 2) pa_nil)))) (pg_name (i := 4) sc_sign_at.nd rfl (.inl rfl)))
    (pss_cons (ps_if (pt_cmpR op_eq (pv 4) pe_str (nomark _))
      (pss_one (ps_ret (pe_tup (pa_cons (pe_un un_neg pe_int) (pa_cons (pe_op op_add (pv 2) pe_int) pa_nil)))))
      pss_nil)
    (pss_cons (ps_if (pt_val (pv 3))
      (pss_one (ps_ret (pe_tup (pa_cons pe_int (pa_cons (pv 2) pa_nil)))))
      pss_nil)
    (pss_cons (ps_if (pt_cmpR op_ne (pv 4) pe_str (nomark _))
      (pss_one ps_never)
      pss_nil)
    (pss_one (ps_ret (pe_tup (pa_cons pe_int (pa_cons (pe_op op_add (pv 2) pe_int) pa_nil))))))))), ?_⟩
    unfold signAt at hx
    cases hwd : wordAt ws a with
    | error e => rw [hwd] at hx; cases hx
    | ok x =>
      rw [hwd] at hx
      dsimp only at hx
      refine ⟨_, rfl, _, rfl, _, rfl, l, ln, a, ws, x, rfl, hw, hwd, ?_⟩
      refine ⟨_, rfl, rfl, _, rfl, ?_⟩
      by_cases h1 : x = "-"
      · rw [if_pos h1] at hx
        cases hx
        refine iteTr (by rw [h1]; simp) ⟨_, rfl, _, rfl, _, _, rfl, rfl, show 2 ≤ sizeLine by decide, fun p np => ?_⟩
        exact k p _ (same_new np) upd_same
      · rw [if_neg h1] at hx
        refine iteFa (by simp [h1]) ⟨_, rfl, f, rfl, ?_⟩
        cases f with
        | true =>
          rw [if_pos rfl] at hx
          cases hx
          refine ⟨_, rfl, show 2 ≤ sizeLine by decide, fun p np => ?_⟩
          exact k p _ (same_new np) upd_same
        | false =>
          rw [if_neg (by simp)] at hx
          refine ⟨_, rfl, rfl, _, rfl, ?_⟩
          by_cases h2 : x = "+"
          · rw [if_pos h2] at hx
            cases hx
            refine iteFa (by rw [h2]; simp) ⟨_, rfl, _, _, rfl, rfl, show 2 ≤ sizeLine by decide, fun p np => ?_⟩
            exact k p _ (same_new np) upd_same
          · rw [if_neg h2] at hx
            cases hx
theorem sc_size_at : FnScope ["words", "line", "at", "number"] ["words", "line", "at"] (defScope (top 23)) := ⟨rfl, rfl, rfl, by decide +kernel, rfl, by decide +kernel, by decide +kernel⟩
def spSizeAt (K : PySem.W.Frag) : Sp := fun vs H Q _ => ∃ l ln a ws n b, vs = [.ref l, ln, .int ((a : Nat) : Int)] ∧ Wds H l ws ∧ sizeAt ws a = .ok (n, b) ∧ ∀ p H', Same H H' → H' p = some (.tup [.int n, .int ((b : Nat) : Int)]) → Q (.ref p) H'
theorem ok_size_at (T : Txt P K mg) : OkF P w K mg base CX0 2 (He.ga K "size_at") ["words", "line", "at"] (spSizeAt K) := by
  have G_word_at := ok_word_at (P := P) (w := w) (base := base) T
  have G_number_in := ok_number_in (P := P) (w := w) (base := base) T
  obtain ⟨fd, F⟩ := T.F_size_at
  refine ⟨fd, F.ok sc_size_at (fun vs H Q E h => ?_) (fun cdv A outer s H vs Q E hr h => ?_), F.bindsN fun _ _ _ _ _ _ us hl => match us, hl with | [_, _, _], _ => rfl, F.kp⟩
  · obtain ⟨l, ln, a, ws, n, b, rfl, _⟩ := h
    rfl
  · obtain ⟨l, ln, a, ws, n, b, rfl, hw, hx, k⟩ := h
    refine ⟨_, PSs.nox (pss_cons (ps_asg (pe_f G_number_in (hr.mono (by decide)) (by rfl) T.g_number_in pass0 (pa_cons (pe_f G_word_at (hr.mono (by decide)) (by rfl) T.g_word_at pass0 (pa_cons (pv 0) (pa_cons (pv 1) (pa_cons (pv 2) pa_nil)))) pa_nil)) (pg_name (i := 3) sc_size_at.nd rfl (.inl rfl)))
    (pss_cons (ps_if (pt_cmpR op_isN (pv 3) pe_non (nomark _))
      (pss_one (ps_ret (pe_tup (pa_cons pe_int (pa_cons (pv 2) pa_nil)))))
      pss_nil)
    (pss_cons (ps_if (pt_cmpR op_lt (pv 3) pe_int (nomark _))
      (pss_one ps_never)
      pss_nil)
    (pss_one (ps_ret (pe_tup (pa_cons (pv 3) (pa_cons (pe_op op_add (pv 2) pe_int) pa_nil)))))))), ?_⟩
    unfold sizeAt at hx
    cases hwd : wordAt ws a with
    | error e => rw [hwd] at hx; cases hx
    | ok x =>
      rw [hwd] at hx
      dsimp only at hx
      refine ⟨_, rfl, _, rfl, _, rfl, l, ln, a, ws, x, rfl, hw, hwd, ?_⟩
      refine ⟨x, rfl, hw.each x (atI_word hwd).2.2, fun H1 s1 => ?_⟩
      cases hn : numIn x with
      | none =>
        rw [hn] at hx
        cases hx
        refine ⟨_, rfl, rfl, _, rfl, ⟨_, rfl, show 2 ≤ sizeLine by decide, fun p np => ?_⟩⟩
        exact k p _ (s1.trans (same_new np)) upd_same
      | some m =>
        rw [hn] at hx
        dsimp only at hx
        refine ⟨_, rfl, rfl, _, rfl, iteFa (by simp [numV]) ⟨_, rfl, _, _, rfl, rfl, _, rfl, ?_⟩⟩
        by_cases h2 : m < 2
        · rw [if_pos h2] at hx
          cases hx
        · rw [if_neg h2] at hx
          cases hx
          refine iteFa (by simp [h2]) ⟨_, rfl, _, rfl, _, _, rfl, rfl, show 2 ≤ sizeLine by decide, fun p np => ?_⟩
          exact k p _ (s1.trans (same_new np)) upd_same
end
end Kx
set_option maxHeartbeats 4000000
namespace Kx
open PySem PySem.Spec PyProof.Rows L2 Xr
local macro_rules | `(tactic| walk_at "rd") => `(tactic| (repeat (first | apply Exists.intro | (refine And.intro rfl ?_) | (refine And.intro (SqL.of (by assumption)) ?_) | (refine And.intro (Or.inl (SqL.of (by assumption))) ?_) | (refine Or.inl ⟨_, rfl, ?_⟩) | (refine Or.inr ⟨_, rfl, ?_⟩) | (refine And.intro (by assumption) ?_) | (refine And.intro (Or.inl (by assumption)) ?_))))
section
variable {P : Program} {w : World} {K : PySem.W.Frag} {mg : Str → Option Value} {base : Heap}
theorem ite_both {b : Bool} {X A B : Prop} (h1 : b = true → X → A) (h2 : b = false → X → B) (hX : X) : if b = true then A else B := by
  cases b with
  | true => exact h1 rfl hX
  | false => exact h2 rfl hX
theorem dp_strsB {H : Hp} : ∀ l : List Str, DpAll K H (l.map V.str) (l.map PyData.str)
  | [] => .nil
  | n :: l => .cons (.str n) (dp_strsB l)
theorem lay_strsB : ∀ l : List Str, (∀ x ∈ l, PyData.strOk x = true) → PyData.canLayAll0 (l.map PyData.str) = true
  | [], _ => rfl
  | x :: r, h => by simp [PyData.canLayAll0, PyData.canLay0, lay_strsB r fun y hy => h y (List.mem_cons_of_mem _ hy), h x (List.mem_cons_self ..)]
theorem depth_strsB : ∀ l : List Str, PyData.depthAll (l.map PyData.str) = 0
  | [] => rfl
  | _ :: r => by simp [PyData.depthAll, PyData.depth, depth_strsB r]
theorem shaped_strsB (l : List Str) (h : ∀ x ∈ l, PyData.strOk x = true) : SeqAt.shaped (.list (l.map PyData.str)) = true := by
  simp [SeqAt.shaped, PyData.canLay0, PyData.depth, lay_strsB l h, depth_strsB]
theorem eqv_nilB : ∀ l : List Str, PyData.eqv (.list (l.map PyData.str)) (.list []) = l.isEmpty
  | [] => rfl
  | n :: l => rfl
theorem eqv_one (l : List Str) (y : Str) : PyData.eqv (.list (l.map PyData.str)) (.list [.str y]) = decide (l = [y]) := by
  match l with
  | [] => rfl
  | [x] =>
    show ((x == y) && true) = decide ([x] = [y])
    by_cases h : x = y <;> simp [h]
  | x :: z :: r =>
    show ((x == y) && false) = _
    simp
theorem cut1 {ws : List Str} {a : Nat} : cutV (ws.map V.str) (some (a : Int)) (some ((a : Int) + 1)) = (ws[a]?.toList).map V.str := by
  unfold cutV
  rw [List.length_map]
  rcases Nat.lt_or_ge a ws.length with h | h
  · have e1 : HT.sIx ws.length 0 (some (a : Int)) = a := by
      unfold HT.sIx
      simp
      rw [if_neg (by omega)]
      omega
    have e2 : HT.sIx ws.length ws.length (some ((a : Int) + 1)) = a + 1 := by
      unfold HT.sIx
      simp
      rw [if_neg (by omega)]
      omega
    rw [e1, e2, ← List.map_drop, ← List.map_take, List.getElem?_eq_getElem h]
    have e3 : a + 1 - a = 1 := by omega
    rw [e3, List.drop_eq_getElem_cons h]
    rfl
  · have e1 : HT.sIx ws.length 0 (some (a : Int)) = ws.length := by
      unfold HT.sIx
      simp
      rw [if_neg (by omega)]
      omega
    rw [e1, ← List.map_drop, List.drop_length, List.getElem?_eq_none h]
    simp
theorem eq_nilD {t : Tab} : ((tabK t).length == ([] : List (Key × V)).length && subK (tabK t) []) = t.isEmpty := by
  cases t with
  | nil => rfl
  | cons p r => rfl
theorem same_newer {H H1 : Hp} {d : Addr} {o : HO} (s : Same H H1) (h : H d = none) : Same H (upd H1 d o) := fun b x hb => by
  rw [upd_ne (ne_of_none hb h)]
  exact s b x hb
theorem putT_new {t : Tab} {k : Str} {v : Int} (h : k ∉ ks t) : Xr.putT t k v = t ++ [(k, v)] := if_neg h
theorem sc_terms_in : FnScope ["words", "line", "at", "found", "sign", "size", "month"] ["words", "line", "at"] (defScope (top 24)) := ⟨rfl, rfl, rfl, by decide +kernel, rfl, by decide +kernel, by decide +kernel⟩
def spTermsIn (K : PySem.W.Frag) : Sp := fun vs H Q _ => ∃ l ln a ws t, vs = [.ref l, ln, .int ((a : Nat) : Int)] ∧ Wds H l ws ∧ termsIn ws a = .ok t ∧ ∀ d H', Same H H' → H d = none → H' d = some (.dK (tabK t)) → Q (.ref d) H'
theorem termAt_inv {ws : List Str} {a : Nat} {acc t : Tab} {b : Nat} (h : termAt ws a acc = .ok (t, b)) : ∃ s a1 n a2 m, signAt ws a acc.isEmpty = .ok (s, a1) ∧ sizeAt ws a1 = .ok (n, a2) ∧ wordAt ws a2 = .ok m ∧ nameS m = true ∧ m ∉ ks acc ∧ t = acc ++ [(m, s * n)] ∧ b = a2 + 1 := by
  unfold termAt at h
  cases h1 : signAt ws a acc.isEmpty with
  | error e => rw [h1] at h; cases h
  | ok p =>
    obtain ⟨s, a1⟩ := p
    rw [h1] at h
    dsimp only at h
    cases h2 : sizeAt ws a1 with
    | error e => rw [h2] at h; cases h
    | ok p =>
      obtain ⟨n, a2⟩ := p
      rw [h2] at h
      dsimp only at h
      cases h3 : wordAt ws a2 with
      | error e => rw [h3] at h; cases h
      | ok m =>
        rw [h3] at h
        dsimp only at h
        by_cases h4 : nameS m = true ∧ m ∉ ks acc
        · rw [if_pos h4] at h
          cases h
          exact ⟨s, a1, n, a2, m, rfl, h2, h3, h4.1, h4.2, rfl, rfl⟩
        · rw [if_neg h4] at h
          cases h
theorem ok_terms_in (T : Txt P K mg) : OkF P w K mg base CX0 3 (He.ga K "terms_in") ["words", "line", "at"] (spTermsIn K) := by
  have G_word_at := ok_word_at (P := P) (w := w) (base := base) T
  have G_sign_at := ok_sign_at (P := P) (w := w) (base := base) T
  have G_size_at := ok_size_at (P := P) (w := w) (base := base) T
  have G_is_name := ok_is_name (P := P) (w := w) (base := base) T
  obtain ⟨fd, F⟩ := T.F_terms_in
  refine ⟨fd, F.ok sc_terms_in (fun vs H Q E h => ?_) (fun cdv A outer s H vs Q E hr h => ?_), F.bindsN fun _ _ _ _ _ _ us hl => match us, hl with | [_, _, _], _ => rfl, F.kp⟩
  · obtain ⟨l, ln, a, ws, t, rfl, _⟩ := h
    rfl
  · obtain ⟨l, ln, a, ws, t, rfl, hw, ht, k⟩ := h
    have hu := hu_of hr
    have hu64 := hr.units
    refine ⟨_, PSs.nox (pss_cons (ps_if (pt_cmpR (op_eqD hu64) (pe_slice sl_list (pv 0) (po_some (pv 2)) (po_some (pe_op op_add (pv 2) pe_int))) (pe_lst (pa_cons pe_str pa_nil)) (nomark _))
      (pss_cons (ps_if (pt_cmpR op_lt (pe_op op_add (pv 2) pe_int) (pe_callB call_len_seq (by rfl) T.z_len (by decide +kernel) (pa_cons (pv 0) pa_nil)) (nomark _))
      (pss_one ps_never)
      pss_nil)
    (pss_one (ps_ret pe_dnewK)))
      pss_nil)
    (pss_cons (ps_asg pe_dnewK (pg_name (i := 3) sc_terms_in.nd rfl (.inl rfl)))
    (pss_cons (ps_while PassesOwn.never (PW.pt (pw_or (pt_cmpR (op_eqDF hr.units0) (pv 3) pe_dnewK (nomark _)) (pw_or1 (pt_cmpR op_lt (pv 2) (pe_callB call_len_seq (by rfl) T.z_len (by decide +kernel) (pa_cons (pv 0) pa_nil)) (nomark _)))))
      (pss_cons (ps_asg (pe_f G_sign_at (hr.mono (by decide)) (by rfl) T.g_sign_at pass0 (pa_cons (pv 0) (pa_cons (pv 1) (pa_cons (pv 2) (pa_cons (pe_cmpR (op_eqDF hr.units0) (pv 3) pe_dnewK (nomark _)) pa_nil))))) (pg_tup rfl (pgs_cons (pg_name (i := 4) sc_terms_in.nd rfl (.inl rfl)) (pgs_cons (pg_name (i := 2) sc_terms_in.nd rfl (.inl rfl)) pgs_nil))))
    (pss_cons (ps_asg (pe_f G_size_at (hr.mono (by decide)) (by rfl) T.g_size_at pass0 (pa_cons (pv 0) (pa_cons (pv 1) (pa_cons (pv 2) pa_nil)))) (pg_tup rfl (pgs_cons (pg_name (i := 5) sc_terms_in.nd rfl (.inl rfl)) (pgs_cons (pg_name (i := 2) sc_terms_in.nd rfl (.inl rfl)) pgs_nil))))
    (pss_cons (ps_asg (pe_f G_word_at (hr.mono (by decide)) (by rfl) T.g_word_at pass0 (pa_cons (pv 0) (pa_cons (pv 1) (pa_cons (pv 2) pa_nil)))) (pg_name (i := 6) sc_terms_in.nd rfl (.inl rfl)))
    (pss_cons (ps_if (PW.pt (pw_or (pt_not (pt_val (pe_f G_is_name (hr.mono (by decide)) (by rfl) T.g_is_name pass0 (pa_cons (pv 6) pa_nil)))) (pw_or1 (pt_cmp (pc_din hu (pv 6) (pv 3)) rfl))))
      (pss_one ps_never)
      pss_nil)
    (pss_cons (ps_dput hu (pv 3) (pv 6) (pe_op op_mul (pv 4) (pv 5)) rfl)
    (pss_one (ps_aug (i := 2) sc_terms_in.nd rfl (.inl rfl) pe_int ip_add))))))))
    (pss_one (ps_ret (pv 3)))))), ?_⟩
    refine ⟨_, rfl, _, rfl, _, rfl, _, rfl, _, _, rfl, rfl, _, rfl, l, _, rfl, SqL.of hw.at_, fun p1 n1 => ?_⟩
    rw [cut1]
    have s1 : Same H (upd H p1 (.lst ((ws[a]?.toList).map V.str))) := same_new n1
    have h1 : upd H p1 (.lst ((ws[a]?.toList).map V.str)) p1 = _ := upd_same
    generalize upd H p1 (.lst ((ws[a]?.toList).map V.str)) = H1 at s1 h1
    refine ⟨show 1 ≤ sizeLine by decide, fun p2 n2 => ?_⟩
    have s2 : Same H1 (upd H1 p2 (.lst [.str "0"])) := same_new n2
    have hm : ∀ x ∈ ws[a]?.toList, PyData.strOk x = true := fun x hx => by
      cases e : ws[a]? with
      | none => rw [e] at hx; cases hx
      | some y =>
        rw [e] at hx
        rw [List.mem_singleton.mp hx]
        exact hw.ok y (List.mem_of_getElem? e)
    refine ⟨_, _, Dp.lst (SqL.of (s2 _ _ h1)) (dp_strsB _), Dp.lst (SqL.of upd_same) (.cons (.str "0") .nil), shaped_strsB _ hm, by decide +kernel, ?_⟩
    rw [eqv_one]
    have s12 := s1.trans s2
    generalize upd H1 p2 (.lst [.str "0"]) = H2 at s12
    clear s2 h1 n2 s1
    have ez : decide (ws[a]?.toList = [("0" : Str)]) = decide (ws[a]? = some ("0" : Str)) := by
      cases ws[a]? <;> simp
    rw [ez]
    have hw2 := hw.same s12
    unfold termsIn at ht
    refine ⟨_, rfl, ?_⟩
    by_cases h0 : ws[a]? = some ("0" : Str)
    · rw [if_pos h0] at ht
      refine iteTr (decide_eq_true h0) ?_
      refine ⟨_, rfl, _, _, rfl, rfl, _, rfl, l, _, rfl, .inl (SqL.of hw2.at_), _, _, rfl, rfl, _, rfl, ?_⟩
      rw [List.length_map]
      by_cases h3 : a + 1 < ws.length
      · rw [if_pos h3] at ht
        cases ht
      · rw [if_neg h3] at ht
        cases ht
        refine iteFa (by simp; omega) fun d nd => ?_
        exact k d _ (s12.trans (same_new nd)) (s12.free nd) upd_same
    · rw [if_neg h0] at ht
      refine iteFa (decide_eq_false h0) fun d nd => ?_
      have ndH := s12.free nd
      have s3 := s12.trans (same_new (o := .dK []) nd)
      refine ⟨fun m σ H' => ∃ (a' f : Nat) (acc : Tab) (v4 v5 v6 : Option V), σ = [some (.ref l), some ln, some (.int (a' : Int)), some (.ref d), v4, v5, v6] ∧ m = ws.length + 1 - a' ∧ Same H H' ∧ H' d = some (.dK (tabK acc)) ∧ termsFrom ws f a' acc = .ok t ∧ acc.length ≤ a', ⟨_, a, _, [], none, none, none, rfl, rfl, s3, upd_same, ht, Nat.zero_le _⟩, ?_⟩
      rintro m σ H' ⟨a', f, acc, v4, v5, v6, rfl, rfl, s4, hd, hf, ha'⟩
      refine ⟨_, rfl, fun e1 ne1 => ⟨d, e1, _, _, rfl, rfl, same_new ne1 _ _ hd, upd_same, flat_tab _, fun _ h => (List.not_mem_nil h).elim, ?_⟩⟩
      rw [eq_nilD]
      have s5 := s4.trans (same_new (o := .dK []) ne1)
      have hd5 : upd H' e1 (.dK []) d = _ := same_new ne1 _ _ hd
      generalize upd H' e1 (.dK []) = H5 at s5 hd5
      have hw5 := hw.same s5
      refine ⟨_, rfl, ?_⟩
      cases f with
      | zero => cases hf
      | succ f =>
        unfold termsFrom at hf
        by_cases hc : acc.isEmpty = true ∨ a' < ws.length
        · rw [if_pos hc] at hf
          refine ite_both (fun _ x => iteT x) (fun hb x => ⟨_, rfl, _, rfl, l, _, rfl, .inl (SqL.of hw5.at_), _, _, rfl, rfl, _, rfl, iteTr (by rw [List.length_map]; rw [hb] at hc; simp at hc; simpa using hc) x⟩) ?_
          cases hta : termAt ws a' acc with
          | error e => rw [hta] at hf; cases hf
          | ok q =>
            obtain ⟨acc', at'⟩ := q
            rw [hta] at hf
            dsimp only at hf
            obtain ⟨sg, a1, n, a2, mo, g1, g2, g3, g4, g5, rfl, rfl⟩ := termAt_inv hta
            refine ⟨_, fun _ _ h => h, ?_⟩
            refine ⟨_, rfl, _, rfl, _, rfl, _, rfl, fun e2 ne2 => ⟨d, e2, _, _, rfl, rfl, same_new ne2 _ _ hd5, upd_same, flat_tab _, fun _ h => (List.not_mem_nil h).elim, ?_⟩⟩
            rw [eq_nilD]
            have s6 := s5.trans (same_new (o := .dK []) ne2)
            have hd6 : upd H5 e2 (.dK []) d = _ := same_new ne2 _ _ hd5
            generalize upd H5 e2 (.dK []) = H6 at s6 hd6
            refine ⟨l, ln, a', ws, acc.isEmpty, sg, a1, rfl, hw.same s6, g1, fun p7 H7 s7 h7 => ?_⟩
            refine ⟨p7, _, rfl, SqT.of h7, rfl, _, _, rfl, _, _, rfl, rfl, ?_⟩
            refine ⟨_, rfl, _, rfl, _, rfl, l, ln, a1, ws, n, a2, rfl, (hw.same s6).same s7, g2, fun p8 H8 s8 h8 => ?_⟩
            refine ⟨p8, _, rfl, SqT.of h8, rfl, _, _, rfl, _, _, rfl, rfl, ?_⟩
            have s68 := (s6.trans s7).trans s8
            refine ⟨_, rfl, _, rfl, _, rfl, l, ln, a2, ws, mo, rfl, hw.same s68, g3, ?_⟩
            refine ⟨_, rfl, _, rfl, .inl ⟨mo, rfl, hw.each mo (atI_word g3).2.2, fun H9 s9 => ?_⟩⟩
            have s69 := s68.trans s9
            have hd9 := s9 _ _ (s8 _ _ (s7 _ _ hd6))
            refine ⟨_, rfl, ?_⟩
            rw [name_eq, g4]
            refine ⟨_, rfl, _, rfl, d, _, rfl, DGet.k (k := Sum.inr mo) hd9, _, rfl, ?_⟩
            rw [valV_out g5]
            obtain ⟨q1, q2, q3⟩ := signAt_le g1
            obtain ⟨q4, q5, q6⟩ := sizeAt_le g2
            have q7 := (atI_word g3).2.1
            refine ⟨_, rfl, _, rfl, _, _, rfl, rfl, .inl (by rcases q3 with rfl | rfl <;> decide), ?_⟩
            refine ⟨_, rfl, _, rfl, d, _, rfl, DPut.k (k := Sum.inr mo) hd9 (by unfold tabK; rw [List.length_map, sizeLine_eq]; have := hw.len; omega), ?_⟩
            rw [put_tab, putT_new g5]
            refine ⟨_, rfl, _, _, rfl, rfl, ?_⟩
            exact ⟨ws.length + 1 - (a2 + 1), by omega, a2 + 1, f, _, _, _, _, rfl, rfl, same_newer s69 ndH, upd_same, hf, by simp; omega⟩
        · rw [if_neg hc] at hf
          have et : acc = t := Except.ok.inj hf
          have hb : acc.isEmpty = false := by
            cases h : acc.isEmpty with
            | true => exact absurd (.inl h) hc
            | false => rfl
          rw [hb]
          refine ⟨_, rfl, _, rfl, l, _, rfl, .inl (SqL.of hw5.at_), _, _, rfl, rfl, _, rfl, iteFa (by rw [List.length_map]; simp; omega) ?_⟩
          exact ⟨_, rfl, k d H5 s5 ndH (et ▸ hd5)⟩
end
end Kx
set_option maxHeartbeats 4000000
namespace Kx
open PySem PySem.Spec PyProof.Rows L2 Xr
local macro_rules | `(tactic| walk_at "rd") => `(tactic| (repeat (first | apply Exists.intro | (refine And.intro rfl ?_) | (refine And.intro (SqL.of (by assumption)) ?_) | (refine And.intro (Or.inl (SqL.of (by assumption))) ?_) | (refine Or.inl ⟨_, rfl, ?_⟩) | (refine Or.inr ⟨_, rfl, ?_⟩) | (refine And.intro (by assumption) ?_) | (refine And.intro (Or.inl (by assumption)) ?_))))
section
variable {P : Program} {w : World} {K : PySem.W.Frag} {mg : Str → Option Value} {base : Heap}
/-- a list of pairs at l -/
def PairsAt (H : Hp) (l : Addr) (m : Tab) : Prop := ∃ as : List Addr, H l = some (.lst (as.map V.ref)) ∧ Paired (fun a (p : Str × Int) => H a = some (.tup [.str p.1, .int p.2])) as m
theorem PairsAt.same {H H' : Hp} {l : Addr} {m : Tab} (h : PairsAt H l m) (s : Same H H') : PairsAt H' l m := by
  obtain ⟨as, h1, h2⟩ := h
  exact ⟨as, s _ _ h1, Paired.mapP h2 fun _ _ z => s _ _ z⟩
/-- tables of names and numbers that are written -/
structure GoodW (m : Tab) : Prop where
  g : ∀ p ∈ m, GoodP p
  len : m.length ≤ 1000
theorem take_next {m : Tab} {i : Nat} {p : Str × Int} (h : m[i]? = some p) : m.take (i + 1) = m.take i ++ [p] := by
  rw [List.take_add_one, h]
  rfl
theorem get_pair {as : List Addr} {m : Tab} {F : Addr → (Str × Int) → Prop} (h : Paired F as m) {i : Nat} {x : V} (hx : (as.map V.ref)[i]? = some x) : ∃ a p, x = .ref a ∧ m[i]? = some p ∧ F a p := by
  rw [List.getElem?_map] at hx
  obtain ⟨a, ha, rfl⟩ := Option.map_eq_some_iff.mp hx
  obtain ⟨p, hp, f⟩ := paired_get h ha
  exact ⟨a, p, rfl, hp, f⟩
theorem str_log {n : Int} (h0 : 0 ≤ n) (h : n < 10 ^ 60) : n.natAbs.log2 < 1920 := by
  by_cases z : n.natAbs = 0
  · rw [z]
    decide
  · have e : (10 : Int) ^ 60 = ((10 ^ 60 : Nat) : Int) := by decide
    rw [e] at h
    have h2 : n.natAbs < 2 ^ 200 := Nat.lt_of_lt_of_le (by omega : n.natAbs < 10 ^ 60) (by decide)
    have := (Nat.log2_lt z).mpr h2
    omega
theorem sc_terms_text : FnScope ["terms", "words", "name", "number"] ["terms"] (defScope (top 20)) := ⟨rfl, rfl, rfl, by decide +kernel, rfl, by decide +kernel, by decide +kernel⟩
def spText (K : PySem.W.Frag) : Sp := fun vs H Q _ => ∃ l m, vs = [.ref l] ∧ PairsAt H l m ∧ GoodW m ∧ ∀ H', Same H H' → Q (.str (textT m)) H'
theorem ok_terms_text (T : Txt P K mg) : OkF P w K mg base CX0 1 (He.ga K "terms_text") ["terms"] (spText K) := by
  obtain ⟨fd, F⟩ := T.F_terms_text
  refine ⟨fd, F.ok sc_terms_text (fun vs H Q E h => ?_) (fun cdv A outer s H vs Q E hr h => ?_), F.bindsN fun _ _ _ _ _ _ us hl => match us, hl with | [_], _ => rfl, F.kp⟩
  · obtain ⟨l, m, rfl, _⟩ := h
    rfl
  · obtain ⟨l, m, rfl, hp, gw, k⟩ := h
    have hu64 := hr.units
    refine ⟨_, PSs.nox (pss_cons (ps_asg (pe_lst pa_nil) (pg_name (i := 1) sc_terms_text.nd rfl (.inl rfl)))
    (pss_cons (ps_for PassesOwn.never rfl (pi_list (pv 0)) (pg_tup rfl (pgs_cons (pg_name (i := 2) sc_terms_text.nd rfl (.inl rfl)) (pgs_cons (pg_name (i := 3) sc_terms_text.nd rfl (.inl rfl)) pgs_nil)))
      (pss_cut (ps_if (pt_cmpR op_lt (pv 3) pe_int (nomark _))
      (pss_one (ps_expr (pe_bm PySem.F.plainAttrs_list PySem.F.slot_list_append PySem.F.type_list_append mt_append (pv 1) (pa_cons pe_str pa_nil))))
      (pss_one (ps_if (pt_cmpR (op_neD hu64) (pv 1) (pe_lst pa_nil) (nomark _))
      (pss_one (ps_expr (pe_bm PySem.F.plainAttrs_list PySem.F.slot_list_append PySem.F.type_list_append mt_append (pv 1) (pa_cons pe_str pa_nil))))
      pss_nil)))
    (pss_cut (ps_if (pt_cmpR op_ne (pe_callB call_abs (by rfl) T.z_abs (by decide +kernel) (pa_cons (pv 3) pa_nil)) pe_int (nomark _))
      (pss_one (ps_expr (pe_bm PySem.F.plainAttrs_list PySem.F.slot_list_append PySem.F.type_list_append mt_append (pv 1) (pa_cons (pe_callTy call_str_int (by rfl) T.z_str (by decide +kernel) (pa_cons (pe_callB call_abs (by rfl) T.z_abs (by decide +kernel) (pa_cons (pv 3) pa_nil)) pa_nil)) pa_nil))))
      pss_nil)
    (pss_one (ps_expr (pe_bm PySem.F.plainAttrs_list PySem.F.slot_list_append PySem.F.type_list_append mt_append (pv 1) (pa_cons (pv 2) pa_nil)))))))
    (pss_one (ps_ret (pe_ifExp (pt_cmpR (op_neD hu64) (pv 1) (pe_lst pa_nil) (nomark _)) (pe_join pe_str (pv 1)) pe_str))))), ?_⟩
    obtain ⟨as, hl, hpr⟩ := hp
    refine ⟨show 0 ≤ sizeLine by decide, fun wl nwl => ?_⟩
    have s1 : Same H (upd H wl (.lst [])) := same_new nwl
    have gt : ∀ i, ∀ p ∈ m.take i, GoodP p := fun i p hp => gw.g p (List.mem_of_mem_take hp)
    have lenB : ∀ i, (wordsT (m.take i)).length ≤ 3000 := fun i => by
      have z := wordsB_le true (m.take i)
      have z2 : (m.take i).length ≤ m.length := by rw [List.length_take]; omega
      have := gw.len
      unfold wordsT
      omega
    have elen : as.length = m.length := Paired.length hpr
    refine ⟨_, rfl, l, rfl, ⟨_, SqL.of (s1 _ _ hl)⟩, ?_⟩
    refine forP (yl_list (xs := as.map V.ref)) (fun i σ' H' => ∃ v2 v3 : Option V, σ' = [some (.ref l), some (.ref wl), v2, v3] ∧ Same H H' ∧ H' wl = some (.lst ((wordsT (m.take i)).map V.str))) ⟨none, none, rfl, s1, upd_same⟩ ?_ ?_ ?_
    · rintro i σ' H' _ ⟨v2, v3, rfl, s, _⟩
      exact SqL.of (s _ _ hl)
    · rintro i x σ' H' hx ⟨v2, v3, rfl, s, hw⟩
      obtain ⟨a, p, rfl, hmi, hap⟩ := get_pair hpr hx
      have gp := gw.g p (List.mem_of_getElem? hmi)
      have gn := gp.ne
      have g0 : 1 ≤ absI p.2 := by unfold absI; split <;> omega
      refine ⟨a, _, rfl, SqT.of (s _ _ hap), rfl, _, _, rfl, _, _, rfl, rfl, ?_⟩
      have lb := lenB i
      refine CutP.mk (fun σ' H' => σ' = [some (.ref l), some (.ref wl), some (.str p.1), some (.int p.2)] ∧ Same H H' ∧ H' wl = some (.lst ((wordsT (m.take i) ++ (if p.2 < 0 then [("-" : Str)] else if (wordsT (m.take i)).isEmpty then [] else [("+" : Str)])).map V.str))) ?_ ?_
      · refine ⟨_, rfl, _, _, rfl, rfl, _, rfl, ?_⟩
        refine iteD (fun h1 => ?_) (fun h1 => ?_)
        · refine ⟨_, rfl, .inl ⟨rfl, _, SqL.of hw⟩, wl, _, _, rfl, rfl, hw, by rw [List.length_map, sizeLine_eq]; omega, rfl, same_newer s nwl, ?_⟩
          rw [if_pos h1, List.map_append]
          exact upd_same
        · refine ⟨_, rfl, show 0 ≤ sizeLine by decide, fun e ne => ?_⟩
          have s2 := s.trans (same_new (o := .lst []) ne)
          have hw2 : upd H' e (.lst []) wl = _ := same_new ne _ _ hw
          refine ⟨_, _, Dp.lst (SqL.of hw2) (dp_strsB _), Dp.lst (SqL.of upd_same) .nil, shaped_strsB _ (words_ok (gt i)), rfl, _, rfl, ?_⟩
          rw [eqv_nilB]
          generalize upd H' e (.lst []) = H2 at s2 hw2
          cases hE : (wordsT (m.take i)).isEmpty with
          | true =>
            refine iteFa rfl ⟨rfl, s2, ?_⟩
            rw [if_neg h1, if_pos rfl, List.append_nil]
            exact hw2
          | false =>
            refine iteTr rfl ⟨_, rfl, .inl ⟨rfl, _, SqL.of hw2⟩, wl, _, _, rfl, rfl, hw2, by rw [List.length_map, sizeLine_eq]; omega, rfl, same_newer s2 nwl, ?_⟩
            rw [if_neg h1, if_neg (by simp), List.map_append]
            exact upd_same
      · rintro σ' H' ⟨rfl, s, hw⟩
        have lb2 : (wordsT (m.take i) ++ (if p.2 < 0 then [("-" : Str)] else if (wordsT (m.take i)).isEmpty then [] else [("+" : Str)])).length ≤ 3001 := by
          rw [List.length_append]
          have : (if p.2 < 0 then [("-" : Str)] else if (wordsT (m.take i)).isEmpty then [] else [("+" : Str)]).length ≤ 1 := by split <;> (try split) <;> simp
          omega
        generalize eW : wordsT (m.take i) ++ (if p.2 < 0 then [("-" : Str)] else if (wordsT (m.take i)).isEmpty then [] else [("+" : Str)]) = W at hw lb2
        refine CutP.mk (fun σ' H' => σ' = [some (.ref l), some (.ref wl), some (.str p.1), some (.int p.2)] ∧ Same H H' ∧ H' wl = some (.lst ((W ++ (if absI p.2 ≠ 1 then [numS (absI p.2)] else [])).map V.str))) ?_ ?_
        · refine ⟨_, rfl, _, rfl, rfl, _, rfl, ?_⟩
          by_cases h1 : absI p.2 = 1
          · refine iteFa (by show (!decide (V.int (absI p.2) = V.int 1)) = false; rw [h1]; rfl) ⟨rfl, s, ?_⟩
            rw [if_neg (by simpa using h1), List.append_nil]
            exact hw
          · refine iteTr (by show (!decide (V.int (absI p.2) = V.int 1)) = true; simp [h1]) ?_
            refine ⟨_, rfl, .inl ⟨rfl, _, SqL.of hw⟩, _, rfl, _, rfl, absI p.2, rfl, str_log (by omega) gp.wh, wl, _, _, rfl, rfl, hw, by rw [List.length_map, sizeLine_eq]; omega, rfl, same_newer s nwl, ?_⟩
            rw [if_pos h1, List.map_append]
            exact upd_same
        · rintro σ' H' ⟨rfl, s, hw⟩
          have lb3 : (W ++ (if absI p.2 ≠ 1 then [numS (absI p.2)] else [])).length ≤ 3002 := by
            rw [List.length_append]
            have : (if absI p.2 ≠ 1 then [numS (absI p.2)] else []).length ≤ 1 := by generalize absI p.2 = z; split <;> simp
            omega
          generalize eW2 : W ++ (if absI p.2 ≠ 1 then [numS (absI p.2)] else []) = W2 at hw lb3
          refine ⟨_, rfl, .inl ⟨rfl, _, SqL.of hw⟩, _, rfl, wl, _, _, rfl, rfl, hw, by rw [List.length_map, sizeLine_eq]; omega, _, _, rfl, same_newer s nwl, ?_⟩
          rw [take_next hmi, wordsT_app]
          unfold termW
          rw [← List.append_assoc, eW, ← List.append_assoc, eW2, List.map_append]
          exact upd_same
    · rintro σ' H' ⟨v2, v3, rfl, s, hw⟩
      have et : m.take (as.map V.ref).length = m := by
        rw [List.length_map, elen]
        exact List.take_length
      rw [et] at hw
      have lb := lenB m.length
      rw [List.take_length] at lb
      refine ⟨_, rfl, show 0 ≤ sizeLine by decide, fun e ne => ?_⟩
      have s2 := s.trans (same_new (o := .lst []) ne)
      have hw2 : upd H' e (.lst []) wl = _ := same_new ne _ _ hw
      refine ⟨_, _, Dp.lst (SqL.of hw2) (dp_strsB _), Dp.lst (SqL.of upd_same) .nil, shaped_strsB _ (words_ok gw.g), rfl, _, rfl, ?_⟩
      rw [eqv_nilB]
      generalize upd H' e (.lst []) = H2 at s2 hw2
      have fin := k H2 s2
      unfold textT at fin
      by_cases hE : wordsT m = []
      · rw [if_neg (by simpa using hE)] at fin
        exact iteFa (by rw [hE]; rfl) fin
      · rw [if_pos hE] at fin
        refine iteTr (by simp [hE]) ⟨⟨_, rfl⟩, _, rfl, _, wl, _, rfl, rfl, .inl (SqL.of hw2), ?_, fin⟩
        have z := sum_le (B := 60) ((wordsT m).map (·.length)) fun x hx => by
          obtain ⟨y, hy, rfl⟩ := List.mem_map.mp hx
          exact (words_free true m gw.g y hy).2
        rw [List.length_map] at z
        have e1 : (Str.ofString " ").length = 1 := rfl
        rw [e1]
        omega
end
end Kx
set_option maxHeartbeats 4000000
namespace Kx
open PySem PySem.Spec PyProof.Rows L2 Xr
local macro_rules | `(tactic| walk_at "rd") => `(tactic| (repeat (first | apply Exists.intro | (refine And.intro rfl ?_) | (refine And.intro (SqL.of (by assumption)) ?_) | (refine And.intro (Or.inl (SqL.of (by assumption))) ?_) | (refine Or.inl ⟨_, rfl, ?_⟩) | (refine Or.inr ⟨_, rfl, ?_⟩) | (refine And.intro (by assumption) ?_) | (refine And.intro (Or.inl (by assumption)) ?_))))
section
variable {P : Program} {w : World} {K : PySem.W.Frag} {mg : Str → Option Value} {base : Heap}
theorem pair_tab {H : Hp} : ∀ {ts : List Addr} {m : Tab}, Paired (fun (t : Addr) (q : Key × V) => H t = some (.tup [kV q.1, q.2])) ts (tabK m) → Paired (fun a (p : Str × Int) => H a = some (.tup [.str p.1, .int p.2])) ts m
  | [], [], .nil => .nil
  | t :: ts, p :: m, .cons h r => .cons h (pair_tab r)
theorem sc_Legs___str__ : FnScope ["self"] ["self"] (defScope (inClass (top 29) 13)) := ⟨rfl, rfl, rfl, by decide +kernel, rfl, by decide +kernel, by decide +kernel⟩
def spStrL (K : PySem.W.Frag) : Sp := fun vs H Q _ => ∃ a C m, vs = [.ref a] ∧ LegsAt H C a m ∧ CL K C ∧ GoodW m ∧ ∀ H', Same H H' → Q (.str (textT m)) H'
theorem ok_Legs___str__ (T : Txt P K mg) : OkF P w K mg base CX0 2 (He.ma K (He.ga K "Legs") "__str__") ["self"] (spStrL K) := by
  have G_terms_text := ok_terms_text (P := P) (w := w) (base := base) T
  obtain ⟨fd, F⟩ := T.F_Legs___str__
  refine ⟨fd, F.ok sc_Legs___str__ (fun vs H Q E h => ?_) (fun cdv A outer s H vs Q E hr h => ?_), F.bindsN fun _ _ _ _ _ _ us hl => match us, hl with | [_], _ => rfl, F.kp⟩
  · obtain ⟨a, C, m, rfl, _⟩ := h
    rfl
  · obtain ⟨a, C, m, rfl, l, c, g, k⟩ := h
    obtain ⟨dx, d, h1, h2⟩ := l.at_
    refine ⟨_, PSs.nox (pss_one (ps_ret (pe_callTy SkE.call_str_str (by rfl) T.z_str (by decide +kernel) (pa_cons (pe_f G_terms_text (hr.mono (by decide)) (by rfl) T.g_terms_text pass0 (pa_cons (LiI.pe_listItems rfl (pe_fld (pv 0) rfl) (by rfl) T.z_list (by decide +kernel)) pa_nil)) pa_nil)))), ?_⟩
    refine ⟨_, rfl, a, C, dx, _, _, rfl, h1, c.pl.cls, c.no, rfl, d, _, rfl, h2, fun H1 p ts s1 _ _ _ hp hpr => ?_⟩
    refine ⟨p, m, rfl, ⟨ts, hp, pair_tab hpr⟩, g, fun H2 s2 => ?_⟩
    exact ⟨_, rfl, k H2 (Same.trans s1 s2)⟩
theorem sc_Legs_read : FnScope ["cls", "text"] ["cls", "text"] (defScope (inClass (top 29) 3)) := ⟨rfl, rfl, rfl, by decide +kernel, rfl, by decide +kernel, by decide +kernel⟩
/-- words that a text is split into -/
structure WdL (ws : List Str) : Prop where
  len : ws.length ≤ 100000
  each : ∀ w ∈ ws, w.length ≤ 100000
  ok : ∀ w ∈ ws, PyData.strOk w = true
def spRead (K : PySem.W.Frag) : Sp := fun vs H Q _ => ∃ c x t, vs = [c, .str x] ∧ x.length ≤ 100000 ∧ WdL (Txt.split x " ") ∧ termsIn (Txt.split x " ") 0 = .ok t ∧ (ks t).Nodup ∧ t.length < 64 ∧ ∀ y m H', Canon m → (∀ k, val m k = val t k) → m.length ≤ t.length → Same H H' → LegsAt H' (aT K) y m → Q (.ref y) H'
theorem fn_Legs_read (T : Txt P K mg) {fd : FuncData} (F : FunD K "read" "Legs.read" (defArgs (inClass (top 29) 3)) (defBody (inClass (top 29) 3)) (defScope (inClass (top 29) 3)) [] [] (He5.wf K (He.ga K "Legs") "classmethod" "read") fd) : FnOk P w K mg base CX0 7 (He5.wf K (He.ga K "Legs") "classmethod" "read") fd ["cls", "text"] (spRead K) := by
  have G_terms_in := ok_terms_in (P := P) (w := w) (base := base) T
  have G_TableLegs := ok_TableLegs (P := P) (w := w) (base := base) T
  refine F.ok sc_Legs_read (fun vs H Q E h => ?_) (fun cdv A outer s H vs Q E hr h => ?_)
  · obtain ⟨c, x, t, rfl, _⟩ := h
    rfl
  · obtain ⟨c, x, t, rfl, hx, hw, ht, nd, hl, k⟩ := h
    refine ⟨_, PSs.nox (pss_cons (ps_if (pt_not (pt_val (pe_callB (call_isiK K) (by rfl) T.z_isinstance (by decide +kernel) (pa_cons (pv 1) (pa_cons (pe_bltn (v := .ty "str") (by rfl) T.z_str (by decide +kernel) rfl) pa_nil)))))
      (pss_one ps_never)
      pss_nil)
    (pss_one (ps_ret (pe_mkI T.leg.mT G_TableLegs (hr.mono (by decide)) (by rfl) T.g_TableLegs pass0 (pa_cons (pe_f G_terms_in (hr.mono (by decide)) (by rfl) T.g_terms_in pass0 (pa_cons (pe_split (pv 1) pe_str) (pa_cons pe_int (pa_cons pe_int pa_nil)))) pa_nil))))), ?_⟩
    refine ⟨_, rfl, _, _, _, _, _, rfl, .ty "str", .base (.str x), kit_ss, _, rfl, ?_⟩
    refine iteFa rfl ⟨_, rfl, ⟨_, rfl⟩, x, " ", rfl, rfl, rfl, by rw [sizeLine_eq]; omega, fun p np => ?_⟩
    have s1 : Same H (upd H p (.lst ((Txt.split x " ").map V.str))) := same_new np
    refine ⟨p, _, 0, _, t, rfl, ⟨upd_same, hw.len, hw.each, hw.ok⟩, ht, fun d H2 s2 _ hd => ?_⟩
    exact mkT_ok hd nd hl fun y m H3 cm hv hlen s3 lm _ => k y m H3 cm hv hlen ((s1.trans s2).trans s3) lm
theorem ok_Legs_read (T : Txt P K mg) : OkF P w K mg base CX0 7 (He5.wf K (He.ga K "Legs") "classmethod" "read") ["cls", "text"] (spRead K) := by
  obtain ⟨fd, F⟩ := T.F_Legs_read
  exact ⟨fd, fn_Legs_read T F, F.bindsN fun _ _ _ _ _ _ us hl => match us, hl with | [_, _], _ => rfl, F.kp⟩
/-- Legs.read(text=..) -/
theorem okK_Legs_read (T : Txt P K mg) : FnRK P w K mg base CX0 7 (He5.wf K (He.ga K "Legs") "classmethod" "read") 1 ["text"] (spRead K) := by
  obtain ⟨fd, F⟩ := T.F_Legs_read
  exact fnOk_kw (fn_Legs_read T F) (funD_kb F fun _ _ _ _ _ _ us ws hu hw => match us, ws, hu, hw with | [_], [_], _, _ => rfl)
/-- legs made by keywords -/
def spLG (K : PySem.W.Frag) : Sp := fun vs H Q _ => ∃ x C dx d t, vs = [.ref x, .ref d] ∧ H x = some (.ins C dx []) ∧ CL K C ∧ H d = some (.dK (tabK t)) ∧ GoodT t ∧
  ∀ p m H1, Canon m → (∀ k, val m k = val t k) → m.length ≤ t.length → Same H H1 → H1 p = some (.dK (tabK m)) → H p = none → Q .non (upd H1 x (.ins C dx [("by_month", .ref p)]))
theorem okK_Legs_init (T : Txt P K mg) {kn : List Str} (nd : kn.Nodup) (hl : kn.length ≤ 1000)
    (hb : ∀ (kV doc pm : Value) (an : Option Addr) (cdv ct u : Value) (ws : List Value), ws.length = kn.length → bindArgs (PySem.W.fnOf "__init__" "Legs.__init__" (defArgs (inClass (top 29) 0)) (defBody (inClass (top 29) 0)) (defScope (inClass (top 29) 0)) .none kV doc pm an cdv ct) ⟨[u], kn.zip ws⟩ = ((alloc ({ cls := .type "dict", data := .dict #[] } : Obj) : Sem Addr) >>= fun d => fillN d (kn.zip ws) >>= fun _ => pure [(("self" : Str), u), (("months" : Str), Value.ref d)])) :
    FnRK P w K mg base CX0 4 (He.ma K (He.ga K "Legs") "__init__") 1 kn (fun vs H Q E => ∃ v zs, vs = v :: zs ∧ ∀ d, H d = Option.none → spLG K [v, V.ref d] (upd H d (.dK (kwK kn zs))) Q E) := by
  have G_need_numbers := ok_need_numbers (P := P) (w := w) (base := base) T
  have G_without_zeros := ok_without_zeros (P := P) (w := w) (base := base) T
  obtain ⟨fd, F⟩ := T.F_Legs___init__
  refine fn_kwN F sc_Legs___init__ StX.cxUp_none nd hl hb fun cdv A outer s H vs Q E hr h => ?_
  obtain ⟨x, C, dx, d, t, rfl, hx, c, hd, g, k⟩ := h
  refine ⟨_, PSs.nox (pss_cons (ps_expr (pe_f G_need_numbers (hr.mono (by decide)) (by rfl) T.g_need_numbers pass0 (pa_cons (pv 1) pa_nil)))
    (pss_one (ps_fld (pv 0) (pe_f G_without_zeros (hr.mono (by decide)) (by rfl) T.g_without_zeros pass0 (pa_cons (pv 1) pa_nil)) rfl))), ?_⟩
  refine ⟨_, rfl, d, t, rfl, hd, g, fun H1 s1 => ?_⟩
  refine ⟨_, rfl, d, t, rfl, s1 _ _ hd, g.nd, g.len, fun p m H2 cm hv hlen np s2 hp => ?_⟩
  exact ⟨_, rfl, x, C, dx, [], rfl, s2 _ _ (s1 _ _ hx), c.pl.cls, c.no, by decide, k p m H2 cm hv hlen (s1.trans s2) hp (s1.free np)⟩
theorem sc_Legs_month : FnScope ["cls", "name"] ["cls", "name"] (defScope (inClass (top 29) 2)) := ⟨rfl, rfl, rfl, by decide +kernel, rfl, by decide +kernel, by decide +kernel⟩
def spMonth (K : PySem.W.Frag) : Sp := fun vs H Q _ => ∃ c x, vs = [c, .str x] ∧ nameS x = true ∧ ∀ y m H', Canon m → (∀ k, val m k = val [(x, 1)] k) → m.length ≤ 1 → Same H H' → LegsAt H' (aT K) y m → Q (.ref y) H'
theorem ok_Legs_month (T : Txt P K mg) : OkF P w K mg base CX0 7 (He5.wf K (He.ga K "Legs") "classmethod" "month") ["cls", "name"] (spMonth K) := by
  have G_is_name := ok_is_name (P := P) (w := w) (base := base) T
  have G_TableLegs := ok_TableLegs (P := P) (w := w) (base := base) T
  obtain ⟨fd, F⟩ := T.F_Legs_month
  refine ⟨fd, F.ok sc_Legs_month (fun vs H Q E h => ?_) (fun cdv A outer s H vs Q E hr h => ?_), F.bindsN fun _ _ _ _ _ _ us hl => match us, hl with | [_, _], _ => rfl, F.kp⟩
  · obtain ⟨c, x, rfl, _⟩ := h
    rfl
  · obtain ⟨c, x, rfl, hx, k⟩ := h
    refine ⟨_, PSs.nox (pss_cons (ps_if (pt_not (pt_val (pe_f G_is_name (hr.mono (by decide)) (by rfl) T.g_is_name pass0 (pa_cons (pv 1) pa_nil))))
      (pss_one ps_never)
      pss_nil)
    (pss_one (ps_ret (pe_mkI T.leg.mT G_TableLegs (hr.mono (by decide)) (by rfl) T.g_TableLegs pass0 (pa_cons (pe_disp (pps_cons (pv 1) pe_int pps_nil) rfl rfl (fun z => by cases z) (by decide)) pa_nil))))), ?_⟩
    have hl : x.length ≤ 100000 := by
      have z := hx
      unfold nameS at z
      obtain ⟨z1, _⟩ := Bool.and_eq_true_iff.mp z
      obtain ⟨_, z1⟩ := Bool.and_eq_true_iff.mp z1
      have z1 := of_decide_eq_true z1
      omega
    refine ⟨_, rfl, _, rfl, .inl ⟨x, rfl, hl, fun H1 s1 => ?_⟩⟩
    rw [name_eq, hx]
    refine ⟨_, rfl, iteFa rfl fun p np => ?_⟩
    refine ⟨_, rfl, upd_same, [(.inr x, .int 1)], rfl, by simp, ?_⟩
    have s2 : Same H1 (upd (upd H1 p (.dK [])) p (.dK (tabK [(x, 1)]))) := fun b o hb => by
      rw [upd_ne (ne_of_none hb np), upd_ne (ne_of_none hb np)]
      exact hb
    have hd : upd (upd H1 p (.dK [])) p (.dK (tabK [(x, 1)])) p = some (.dK (tabK [(x, 1)])) := upd_same
    exact mkT_ok (t := [(x, 1)]) hd (by unfold ks; simp) (by simp) fun y m H3 cm hv hlen s3 lm _ => k y m H3 cm hv hlen ((s1.trans s2).trans s3) lm
end
end Kx
set_option maxHeartbeats 4000000
namespace Kx
open PySem PySem.Spec PyProof.Rows L2 Xr
local macro_rules | `(tactic| walk_at "rd") => `(tactic| (repeat (first | apply Exists.intro | (refine And.intro rfl ?_) | (refine And.intro (SqL.of (by assumption)) ?_) | (refine And.intro (Or.inl (SqL.of (by assumption))) ?_) | (refine Or.inl ⟨_, rfl, ?_⟩) | (refine Or.inr ⟨_, rfl, ?_⟩) | (refine And.intro (by assumption) ?_) | (refine And.intro (Or.inl (by assumption)) ?_))))
section
variable {P : Program} {w : World} {K : PySem.W.Frag} {mg : Str → Option Value} {base : Heap}
theorem sc_are_strategy_legs : FnScope ["value", "month"] ["value"] (defScope (top 31)) := ⟨rfl, rfl, rfl, by decide +kernel, rfl, by decide +kernel, by decide +kernel⟩
/-- numbers that may be a strategy's -/
def stgOk (m : Tab) : Bool := (decide (1 ≤ m.length) && decide (m.length ≤ 6)) && m.all fun p => decide (absI p.2 ≤ 4)
def spAre (K : PySem.W.Frag) : Sp := fun vs H Q _ => ∃ v, vs = [v] ∧ ((∃ a C m, v = .ref a ∧ LegsAt H C a m ∧ CL K C ∧ ∀ H', Same H H' → Q (.bl (stgOk m)) H') ∨ ∃ t, TyX K H v t ∧ PySem.W.kitOne K t (.ref (aL K)) = some false ∧ Q (.bl false) H)
theorem ok_are_strategy_legs (T : Txt P K mg) : OkF P w K mg base CX0 3 (He.ga K "are_strategy_legs") ["value"] (spAre K) := by
  obtain ⟨t1, c_MOST_LEGS⟩ := T.c_MOST_LEGS
  obtain ⟨t2, c_GREATEST_LEG⟩ := T.c_GREATEST_LEG
  have G_months := ok_Legs_months (P := P) (w := w) (base := base) T
  have G_item := (ok_Legs___getitem__ (P := P) (w := w) (base := base) T).fnR
  have G_len := (ok_Legs___len__ (P := P) (w := w) (base := base) T).fnR
  obtain ⟨fd, F⟩ := T.F_are_strategy_legs
  refine ⟨fd, F.ok sc_are_strategy_legs (fun vs H Q E h => ?_) (fun cdv A outer s H vs Q E hr h => ?_), F.bindsN fun _ _ _ _ _ _ us hl => match us, hl with | [_], _ => rfl, F.kp⟩
  · obtain ⟨v, rfl, _⟩ := h
    rfl
  · obtain ⟨v, rfl, k⟩ := h
    rcases k with ⟨a, C, m, rfl, l, c, k⟩ | ⟨t, ty, e, k⟩
    · have si := c.sm "__getitem__" (by decide)
      have sl := c.sm "__len__" (by decide)
      refine ⟨_, PSs.nox (pss_cons (ps_if (PW.pt (pw_or (pt_not (pt_val (pe_callB (call_isiK K) (by rfl) T.z_isinstance (by decide +kernel) (pa_cons (pv 0) (pa_cons (pe_glob (v := .ref (He.ga K "Legs")) (by rfl) T.g_Legs rfl) pa_nil))))) (pw_or1 (pt_not (pt_chain op_le op_le pe_int (pe_callB (call_lenO sl.sm G_len (hr.mono (by decide)) pass0) (by rfl) T.z_len (by decide +kernel) (pa_cons (pv 0) pa_nil)) (pe_glob (v := .int 6) (by rfl) c_MOST_LEGS ⟨_, rfl⟩))))))
      (pss_one (ps_ret pe_bl))
      pss_nil)
    (pss_one (ps_ret (pe_callB (cr_all rfl) (by rfl) T.z_all (by decide +kernel) (pa_cons (pe_lc (own := [("month", 1)]) (g := gName 1) (tt := tYes) rfl sc_are_strategy_legs.nd (pi_tup (pe_prF (pv 0) c.pl.cls c.mo G_months (hr.mono (by decide)) pass0)) (blkOk_by (N := ["value", "month"]) (sc := defScope (top 31)) (by decide +kernel)) (fun _ _ _ _ _ => pg_name (i := 1) sc_are_strategy_legs.nd rfl (Or.inl rfl)) (fun _ _ _ _ _ => pts_nil) (fun _ _ _ _ _ => (pe_cmpR op_le (pe_callB call_abs (by rfl) T.z_abs (by decide +kernel) (pa_cons (pe_ixO si.sm si.fnI G_item (hr.mono (by decide)) pass0 (pv 0) (pv 1)) pa_nil)) (pe_glob (v := .int 4) (by rfl) c_GREATEST_LEG ⟨_, rfl⟩) (nomark _)))) pa_nil))))), ?_⟩
      obtain ⟨dx, d, h1, h2⟩ := l.at_
      have ll := l.len
      have fin : stgOk m = false → Q (.bl false) H := fun e => e ▸ k H (Same.refl H)
      refine ⟨_, rfl, _, _, _, _, _, rfl, .own (aL K), c.pl.ty T.all h1, c.ki, _, rfl, iteFa rfl ?_⟩
      refine ⟨_, rfl, a, dx, _, rfl, h1, ⟨a, C, m, rfl, l, c, _, rfl, by omega, by omega, ?_⟩⟩
      refine ⟨1, _, rfl, rfl, _, rfl, ?_⟩
      refine iteD (fun g1 => ?_) (fun g1 => ⟨false, rfl, fin (by unfold stgOk; rw [decide_eq_false (by omega)]; rfl)⟩)
      refine ⟨_, _, rfl, rfl, _, rfl, ?_⟩
      by_cases g2 : (m.length : Int) ≤ 6
      · refine iteFa (by rw [decide_eq_true g2]; rfl) ?_
        refine ⟨_, rfl, a, dx, _, rfl, h1, ⟨a, C, m, rfl, l, c, fun p H1 np s1 hp => ?_⟩⟩
        have l1 := l.same s1
        obtain ⟨dx1, d1, h3, _⟩ := l1.at_
        refine ⟨p, rfl, ⟨_, SqT.of hp⟩, fun D hD => ?_⟩
        refine lcF (yl_tup (xs := (ks m).map V.str)) (fun _ => true) (fun v => .bl (decide (absI (val m (strOf v)) ≤ 4))) hD (by unfold ks; rw [List.length_map, List.length_map]; omega) (fun H' s => SqT.of (s _ _ hp)) (fun _ => rfl) (fun v H' _ _ Qb q => q H' (Same.refl H')) (fun v H' hm _ s2 Q2 q => ?_) fun H' s2 hl => ?_
        · obtain ⟨x, _, rfl⟩ := List.mem_map.mp hm
          have l2 := l1.same s2
          obtain ⟨dx2, d2, h4, _⟩ := l2.at_
          exact ⟨_, rfl, _, rfl, a, dx2, _, rfl, h4, ⟨a, _, C, m, rfl, l2, c, .inl ⟨x, rfl, _, rfl, _, _, rfl, rfl, q H' (Same.refl H')⟩⟩⟩
        · have e : (List.map (fun v => V.bl (decide (absI (val m (strOf v)) ≤ 4))) (List.filter (fun _ => true) ((ks m).map V.str))) = (m.map fun p => decide (absI p.2 ≤ 4)).map V.bl := by
            unfold ks
            rw [List.filter_eq_self.mpr fun _ _ => rfl, List.map_map, List.map_map, List.map_map]
            refine List.map_congr_left fun p hp => ?_
            show V.bl (decide (absI (val m p.1) ≤ 4)) = V.bl (decide (absI p.2 ≤ 4))
            rw [val_mem l.can.nd hp]
          rw [e] at hl
          refine ⟨D, _, rfl, SqL.of hl, ?_⟩
          have e2 : ((m.map fun p => decide (absI p.2 ≤ 4)).all id) = stgOk m := by
            unfold stgOk
            rw [decide_eq_true (show 1 ≤ m.length by omega), decide_eq_true (show m.length ≤ 6 by omega), List.all_map]
            rfl
          rw [e2]
          exact k H' (s1.trans s2)
      · refine iteTr (by rw [decide_eq_false g2]; rfl) (fin ?_)
        unfold stgOk
        rw [decide_eq_false (show ¬ m.length ≤ 6 by omega), Bool.and_false]
        rfl
    · have c := T.leg.cT
      have si := c.sm "__getitem__" (by decide)
      have sl := c.sm "__len__" (by decide)
      refine ⟨_, PSs.nox (pss_cons (ps_if (PW.pt (pw_or (pt_not (pt_val (pe_callB (call_isiK K) (by rfl) T.z_isinstance (by decide +kernel) (pa_cons (pv 0) (pa_cons (pe_glob (v := .ref (He.ga K "Legs")) (by rfl) T.g_Legs rfl) pa_nil))))) (pw_or1 (pt_not (pt_chain op_le op_le pe_int (pe_callB (call_lenO sl.sm G_len (hr.mono (by decide)) pass0) (by rfl) T.z_len (by decide +kernel) (pa_cons (pv 0) pa_nil)) (pe_glob (v := .int 6) (by rfl) c_MOST_LEGS ⟨_, rfl⟩))))))
      (pss_one (ps_ret pe_bl))
      pss_nil)
    (pss_one (ps_ret (pe_callB (cr_all rfl) (by rfl) T.z_all (by decide +kernel) (pa_cons (pe_lc (own := [("month", 1)]) (g := gName 1) (tt := tYes) rfl sc_are_strategy_legs.nd (pi_tup (pe_prF (pv 0) c.pl.cls c.mo G_months (hr.mono (by decide)) pass0)) (blkOk_by (N := ["value", "month"]) (sc := defScope (top 31)) (by decide +kernel)) (fun _ _ _ _ _ => pg_name (i := 1) sc_are_strategy_legs.nd rfl (Or.inl rfl)) (fun _ _ _ _ _ => pts_nil) (fun _ _ _ _ _ => (pe_cmpR op_le (pe_callB call_abs (by rfl) T.z_abs (by decide +kernel) (pa_cons (pe_ixO si.sm si.fnI G_item (hr.mono (by decide)) pass0 (pv 0) (pv 1)) pa_nil)) (pe_glob (v := .int 4) (by rfl) c_GREATEST_LEG ⟨_, rfl⟩) (nomark _)))) pa_nil))))), ?_⟩
      exact ⟨_, rfl, _, _, _, _, _, rfl, .own (aL K), ty, e, _, rfl, k⟩
end
end Kx
set_option maxHeartbeats 4000000
namespace Kx
open PySem PySem.Spec PyProof.Rows L2 Xr
local macro_rules | `(tactic| walk_at "rd") => `(tactic| (repeat (first | apply Exists.intro | (refine And.intro rfl ?_) | (refine And.intro (SqL.of (by assumption)) ?_) | (refine And.intro (Or.inl (SqL.of (by assumption))) ?_) | (refine Or.inl ⟨_, rfl, ?_⟩) | (refine Or.inr ⟨_, rfl, ?_⟩) | (refine And.intro (by assumption) ?_) | (refine And.intro (Or.inl (by assumption)) ?_))))
section
variable {P : Program} {w : World} {K : PySem.W.Frag} {mg : Str → Option Value} {base : Heap}
theorem tyX_same {H H' : Hp} {v : V} {t : Value} (ty : TyX K H v t) (s : Same H H') : TyX K H' v t := by
  cases ty with
  | base h =>
    refine .base ?_
    cases h with
    | non => exact .non
    | bl x => exact .bl x
    | int i => exact .int i
    | str x => exact .str x
    | flt x => exact .flt x
    | lst e => exact .lst (s _ _ e)
    | frz e => exact .frz (s _ _ e)
    | tup e => exact .tup (s _ _ e)
    | dK e => exact .dK (s _ _ e)
    | dT e => exact .dT (s _ _ e)
    | ins e a b c d f => exact .ins (s _ _ e) a b c d f
  | byt b => exact .byt b
  | set e => exact .set (s _ _ e)
  | kList e c => exact .kList e c
  | kTuple e c => exact .kTuple e c
  | kDict e c => exact .kDict e c
  | fTuple e => exact .fTuple (s _ _ e)
  | fDict e => exact .fDict (s _ _ e)
/-- whether a value is a name -/
def NameV (K : PySem.W.Frag) (H : Hp) (v : V) (b : Bool) : Prop := (∃ x, v = .str x ∧ x.length ≤ 100000 ∧ nameB x = b) ∨ (b = false ∧ ∃ t, TyX K H v t ∧ PySem.W.kitOne K t (.type "str") = some false)
/-- whether a value is legs of a strategy -/
def LegsV (K : PySem.W.Frag) (H : Hp) (v : V) (b : Bool) : Prop := (∃ a C m, v = .ref a ∧ LegsAt H C a m ∧ CL K C ∧ stgOk m = b) ∨ (b = false ∧ ∃ t, TyX K H v t ∧ PySem.W.kitOne K t (.ref (aL K)) = some false)
theorem NameV.same {H H' : Hp} {v : V} {b : Bool} (h : NameV K H v b) (s : Same H H') : NameV K H' v b := by
  rcases h with h | ⟨e, t, ty, k⟩
  · exact .inl h
  · exact .inr ⟨e, t, tyX_same ty s, k⟩
theorem LegsV.same {H H' : Hp} {v : V} {b : Bool} (h : LegsV K H v b) (s : Same H H') : LegsV K H' v b := by
  rcases h with ⟨a, C, m, e, l, c, k⟩ | ⟨e, t, ty, k⟩
  · exact .inl ⟨a, C, m, e, l.same s, c, k⟩
  · exact .inr ⟨e, t, tyX_same ty s, k⟩
def spNameV (K : PySem.W.Frag) : Sp := fun vs H Q _ => ∃ v b, vs = [v] ∧ NameV K H v b ∧ ∀ H', Same H H' → Q (.bl b) H'
theorem okV_is_name (T : Txt P K mg) : OkF P w K mg base CX0 1 (He.ga K "is_name") ["value"] (spNameV K) := (ok_is_name T).imp fun vs H Q E ⟨v, b, e, h, k⟩ => by
  subst e
  rcases h with ⟨x, rfl, hl, rfl⟩ | ⟨rfl, t, ty, e⟩
  · exact ⟨_, rfl, .inl ⟨x, rfl, hl, k⟩⟩
  · exact ⟨_, rfl, .inr ⟨t, ty, e, k H (Same.refl H)⟩⟩
def spAreV (K : PySem.W.Frag) : Sp := fun vs H Q _ => ∃ v b, vs = [v] ∧ LegsV K H v b ∧ ∀ H', Same H H' → Q (.bl b) H'
theorem okV_are_strategy_legs (T : Txt P K mg) : OkF P w K mg base CX0 3 (He.ga K "are_strategy_legs") ["value"] (spAreV K) := (ok_are_strategy_legs T).imp fun vs H Q E ⟨v, b, e, h, k⟩ => by
  subst e
  rcases h with ⟨a, C, m, rfl, l, c, rfl⟩ | ⟨rfl, t, ty, e⟩
  · exact ⟨_, rfl, .inl ⟨a, C, m, rfl, l, c, k⟩⟩
  · exact ⟨_, rfl, .inr ⟨t, ty, e, k H (Same.refl H)⟩⟩
/-- a strategy's fault -/
def FltS (K : PySem.W.Frag) (r : Str) (H : Hp) (E : XK) : Prop := ∀ d H', Same H H' → H d = none → H' d = some (.xd [("reason", .str r)]) → E (.ref (He.ga K "InvalidStrategy")) (some d) H'
theorem FltS.same {r : Str} {H H1 : Hp} {E : XK} (f : FltS K r H E) (s : Same H H1) : FltS K r H1 E := fun d H' s' n h => f d H' (s.trans s') (s.free n) h
theorem FltS.new {r : Str} {H : Hp} {E : XK} (f : FltS K r H E) : ∀ d, H d = none → E (.ref (He.ga K "InvalidStrategy")) (some d) (upd H d (.xd [("reason", .str r)])) := fun d n => f d _ (same_new n) n upd_same
theorem sc_Strategy___init__ : FnScope ["self", "name", "legs"] ["self", "name", "legs"] (defScope (inClass (top 32) 0)) := ⟨rfl, rfl, rfl, by decide +kernel, rfl, by decide +kernel, by decide +kernel⟩
def spStgI (K : PySem.W.Frag) : Sp := fun vs H Q E => ∃ x dx nv lv bn bl, vs = [.ref x, nv, lv] ∧ H x = some (.ins (aS K) dx []) ∧ NameV K H nv bn ∧ LegsV K H lv bl ∧ (bn = false → FltS K "name" H E) ∧ (bn = true → bl = false → FltS K "legs" H E) ∧
  (bn = true → bl = true → ∀ H', But x H H' → H' x = some (.ins (aS K) dx [("name", nv), ("legs", lv)]) → Q .non H')
theorem fn_Strategy_init (T : Txt P K mg) {fd : FuncData} (F : FunD K "__init__" "Strategy.__init__" (defArgs (inClass (top 32) 0)) (defBody (inClass (top 32) 0)) (defScope (inClass (top 32) 0)) [] [] (He.ma K (He.ga K "Strategy") "__init__") fd) : FnOk P w K mg base (L2.CX P w) 4 (He.ma K (He.ga K "Strategy") "__init__") fd ["self", "name", "legs"] (spStgI K) := by
  obtain ⟨fI, fdI, ErC_InvalidStrategy, ErB_InvalidStrategy⟩ := T.e_InvalidStrategy.made
  have G_is_name := okV_is_name (P := P) (w := w) (base := base) T
  have G_are_strategy_legs := okV_are_strategy_legs (P := P) (w := w) (base := base) T
  have so := T.stg.oc
  refine F.ok sc_Strategy___init__ (fun vs H Q E h => ?_) (fun cdv A outer s H vs Q E hr h => ?_)
  · obtain ⟨x, dx, nv, lv, bn, bl, rfl, _⟩ := h
    rfl
  · obtain ⟨x, dx, nv, lv, bn, bl, rfl, hx, vn, vl, k1, k2, k3⟩ := h
    refine ⟨_, (pss_cons (ps_if (pt_not (pt_val (pe_f G_is_name (hr.mono (by decide)) (by rfl) T.g_is_name pass0 (pa_cons (pv 1) pa_nil))))
      (pss_one (ps_raise rfl (takes_of rfl rfl rfl rfl) (pmk_err ErC_InvalidStrategy ErB_InvalidStrategy (by decide) (hr.mono (by decide)) (by rfl) T.g_InvalidStrategy (pa_cons pe_str pa_nil))))
      pss_nil)
    (pss_cons (ps_if (pt_not (pt_val (pe_f G_are_strategy_legs (hr.mono (by decide)) (by rfl) T.g_are_strategy_legs pass0 (pa_cons (pv 2) pa_nil))))
      (pss_one (ps_raise rfl (takes_of rfl rfl rfl rfl) (pmk_err ErC_InvalidStrategy ErB_InvalidStrategy (by decide) (hr.mono (by decide)) (by rfl) T.g_InvalidStrategy (pa_cons pe_str pa_nil))))
      pss_nil)
    (pss_cons (ps_fld (pv 0) (pv 1) rfl)
    (pss_one (ps_fld (pv 0) (pv 2) rfl))))), ?_⟩
    refine ⟨_, rfl, _, _, rfl, vn, fun H1 s1 => ⟨_, rfl, ?_⟩⟩
    cases bn with
    | false => exact iteTr rfl ⟨rfl, ((k1 rfl).same s1).new⟩
    | true =>
      refine iteFa rfl ?_
      refine ⟨_, rfl, _, _, rfl, vl.same s1, fun H2 s2 => ⟨_, rfl, ?_⟩⟩
      have s12 := s1.trans s2
      cases bl with
      | false => exact iteTr rfl ⟨rfl, ((k2 rfl rfl).same s12).new⟩
      | true =>
        refine iteFa rfl ?_
        refine ⟨_, rfl, _, rfl, x, aS K, dx, _, rfl, s12 _ _ hx, so.pl.cls, so.no _ (by decide), by decide, ?_⟩
        refine ⟨_, rfl, _, rfl, x, aS K, dx, _, rfl, upd_same, so.pl.cls, so.no _ (by decide), (show 1 < 1000 by decide), ?_⟩
        refine k3 rfl rfl _ (fun b o hb nb => ?_) upd_same
        rw [upd_ne nb, upd_ne nb]
        exact s12 _ _ hb
theorem ok_Strategy_init (T : Txt P K mg) : OkI P w K mg base (L2.CX P w) 4 (He.ma K (He.ga K "Strategy") "__init__") ["self", "name", "legs"] (spStgI K) := by
  obtain ⟨fd, F⟩ := T.F_Strategy___init__
  exact ⟨fd, fn_Strategy_init T F, F.bindsN fun _ _ _ _ _ _ us hl => match us, hl with | [_, _, _], _ => rfl⟩
/-- Strategy(legs=.., name=..) -/
theorem okK_Strategy_init (T : Txt P K mg) : FnRK P w K mg base (L2.CX P w) 4 (He.ma K (He.ga K "Strategy") "__init__") 1 ["legs", "name"] (fun vs H Q E => ∃ u a b, vs = [u, a, b] ∧ spStgI K [u, b, a] H Q E) := by
  obtain ⟨fd, F⟩ := T.F_Strategy___init__
  have G := fn_Strategy_init (P := P) (w := w) (base := base) T F
  obtain ⟨oc, od, dV, kV', doc, pm, an, cdv, ct, osl, rfl, lk, hcd, hDf, _⟩ := F.ex
  obtain rfl : dV = .none := by
    rcases hDf with ⟨_, e⟩ | ⟨e, _⟩
    · exact e
    · exact absurd rfl e
  intro A outer s H us ws vs zs Q E hr e0 r rz l1 l2 ⟨u, a, b, e, h⟩
  match vs, zs, l1, l2, us, ws, r, rz, e with
  | [v0], [z0, z1], _, _, [u0], [w0, w1], .cons q0 .nil, .cons q1 (.cons q2 .nil), e =>
    cases e
    exact G.run A outer s H ⟨[u0], [("legs", w0), ("name", w1)]⟩ [u0, w1, w0] [u, b, a] Q E hr e0 (.of_eq rfl) (.cons q0 (.cons q2 (.cons q1 .nil))) h
/-- a strategy: its name, its legs (of the class at C) -/
structure StgAt (K : PySem.W.Frag) (H : Hp) (C a : Addr) (n : Str) (m : Tab) : Prop where
  at_ : ∃ dx l, H a = some (.ins (aS K) dx [("name", .str n), ("legs", .ref l)]) ∧ LegsAt H C l m
theorem StgAt.same {H H' : Hp} {C a : Addr} {n : Str} {m : Tab} (g : StgAt K H C a n m) (s : Same H H') : StgAt K H' C a n m := by
  obtain ⟨dx, l, h1, h2⟩ := g.at_
  exact ⟨dx, l, s _ _ h1, h2.same s⟩
theorem mkS_ok {H : Hp} {nv lv : V} {bn bl : Bool} {Q : VK} {E : XK} (vn : NameV K H nv bn) (vl : LegsV K H lv bl) (k1 : bn = false → FltS K "name" H E) (k2 : bn = true → bl = false → FltS K "legs" H E)
    (k3 : bn = true → bl = true → ∀ x dx H', Same H H' → H' x = some (.ins (aS K) dx [("name", nv), ("legs", lv)]) → H x = none → Q (.ref x) H') :
    ∀ x dx, H x = none → H dx = none → dx ≠ x → spStgI K [.ref x, nv, lv] (upd (upd H dx (.own x)) x (.ins (aS K) dx [])) (fun v H2 => v = .non ∧ Q (.ref x) H2) E := by
  intro x dx nx ndx ne
  have s1 : Same H (upd (upd H dx (.own x)) x (.ins (aS K) dx [])) := fun b o hb => by
    rw [upd_ne (ne_of_none hb nx), upd_ne (ne_of_none hb ndx)]
    exact hb
  exact ⟨x, dx, nv, lv, bn, bl, rfl, upd_same, vn.same s1, vl.same s1, fun e => (k1 e).same s1, fun e f => (k2 e f).same s1, fun e f H' B hx => ⟨rfl, k3 e f x dx H' (fun b o hb => B b o (s1 _ _ hb) (ne_of_none hb nx)) hx nx⟩⟩
end
end Kx
set_option maxHeartbeats 4000000
namespace Kx
open PySem PySem.Spec PyProof.Rows L2 Xr
local macro_rules | `(tactic| walk_at "rd") => `(tactic| (repeat (first | apply Exists.intro | (refine And.intro rfl ?_) | (refine And.intro (SqL.of (by assumption)) ?_) | (refine And.intro (Or.inl (SqL.of (by assumption))) ?_) | (refine Or.inl ⟨_, rfl, ?_⟩) | (refine Or.inr ⟨_, rfl, ?_⟩) | (refine And.intro (by assumption) ?_) | (refine And.intro (Or.inl (by assumption)) ?_))))
section
variable {P : Program} {w : World} {K : PySem.W.Frag} {mg : Str → Option Value} {base : Heap}
theorem canon_one (x : Str) : Canon [(x, 1)] := ⟨List.pairwise_singleton .., by unfold ks; simp, fun p hp => by rw [List.mem_singleton.mp hp]; exact Int.one_ne_zero⟩
theorem nfS {C : Addr} : PySem.W.notFirst K C (.ref C) = true := by
  unfold PySem.W.notFirst
  simp
theorem empty_app (x : Str) : Str.empty ++ x = x := by
  obtain ⟨c⟩ := x
  show (⟨#[] ++ c⟩ : Str) = ⟨c⟩
  rw [Array.empty_append]
theorem app_len (x y : Str) : (x ++ y).length = x.length + y.length := by
  obtain ⟨c⟩ := x
  obtain ⟨d⟩ := y
  exact Array.size_append
theorem dec_str {x y : Str} : decide (V.str x = V.str y) = decide (x = y) := by
  by_cases h : x = y
  · subst h; simp
  · rw [decide_eq_false h, decide_eq_false fun z => h (V.str.inj z)]
theorem sc_Strategy_month : FnScope ["cls", "name"] ["cls", "name"] (defScope (inClass (top 32) 1)) := ⟨rfl, rfl, rfl, by decide +kernel, rfl, by decide +kernel, by decide +kernel⟩
def spSMonth (K : PySem.W.Frag) : Sp := fun vs H Q E => ∃ nv bn, vs = [.ref (aS K), nv] ∧ NameV K H nv bn ∧ (bn = false → FltS K "name" H E) ∧ (bn = true → ∀ x, nv = .str x → ∀ y H', Same H H' → StgAt K H' (aT K) y x [(x, 1)] → Q (.ref y) H')
theorem fn_Strategy_month (T : Txt P K mg) {fd : FuncData} (F : FunD K "month" "Strategy.month" (defArgs (inClass (top 32) 1)) (defBody (inClass (top 32) 1)) (defScope (inClass (top 32) 1)) [] [] (He5.wf K (He.ga K "Strategy") "classmethod" "month") fd) : FnOk P w K mg base (L2.CX P w) 8 (He5.wf K (He.ga K "Strategy") "classmethod" "month") fd ["cls", "name"] (spSMonth K) := by
  obtain ⟨fI, fdI, ErC_InvalidStrategy, ErB_InvalidStrategy⟩ := T.e_InvalidStrategy.made
  have G_is_name := okV_is_name (P := P) (w := w) (base := base) T
  have G_init := (ok_Strategy_init (P := P) (w := w) (base := base) T).fnR
  have G_month := (ok_Legs_month (P := P) (w := w) (base := base) T).fnR
  refine F.ok sc_Strategy_month (fun vs H Q E h => ?_) (fun cdv A outer s H vs Q E hr h => ?_)
  · obtain ⟨nv, bn, rfl, _⟩ := h
    rfl
  · obtain ⟨nv, bn, rfl, vn, k1, k2⟩ := h
    refine ⟨_, (pss_cons (ps_if (pt_not (pt_val (pe_f G_is_name (hr.mono (by decide)) (by rfl) T.g_is_name pass0 (pa_cons (pv 1) pa_nil))))
      (pss_one (ps_raise rfl (takes_of rfl rfl rfl rfl) (pmk_err ErC_InvalidStrategy ErB_InvalidStrategy (by decide) (hr.mono (by decide)) (by rfl) T.g_InvalidStrategy (pa_cons pe_str pa_nil))))
      pss_nil)
    (pss_one (ps_ret (pe_makeV T.stg.oc.mks G_init (hr.mono (by decide)) (passes_call (takes_of rfl rfl rfl rfl) (fun _ _ _ _ h => h)) (pv 0) (pa_cons (pv 1) (pa_cons (pe_cmF (pe_glob (v := .ref (He.ga K "Legs")) (by rfl) T.g_Legs rfl) T.leg.month G_month (hr.mono (by decide)) pass0 (pa_cons (pv 1) pa_nil)) pa_nil)))))), ?_⟩
    refine ⟨_, rfl, _, _, rfl, vn, fun H1 s1 => ⟨_, rfl, ?_⟩⟩
    cases bn with
    | false => exact iteTr rfl ⟨rfl, ((k1 rfl).same s1).new⟩
    | true =>
      refine iteFa rfl ?_
      rcases id vn with ⟨x, rfl, hl, hn⟩ | ⟨z, _⟩
      · refine ⟨_, rfl, rfl, _, rfl, rfl, _, rfl, _, x, rfl, hn, fun y m H2 cm hv hlen s2 lm => ?_⟩
        have em : m = [(x, 1)] := canon_eq cm (canon_one x) hv
        subst em
        have s12 := s1.trans s2
        exact mkS_ok (bl := true) (vn.same s12) (.inl ⟨y, aT K, _, rfl, lm, T.leg.cT, rfl⟩) (fun z => by cases z) (fun _ z => by cases z) fun _ _ z dx H3 s3 h3 _ => k2 rfl x rfl z H3 (s12.trans s3) ⟨dx, y, h3, lm.same s3⟩
      · cases z
theorem ok_Strategy_month (T : Txt P K mg) : OkF P w K mg base (L2.CX P w) 8 (He5.wf K (He.ga K "Strategy") "classmethod" "month") ["cls", "name"] (spSMonth K) := by
  obtain ⟨fd, F⟩ := T.F_Strategy_month
  exact ⟨fd, fn_Strategy_month T F, F.bindsN fun _ _ _ _ _ _ us hl => match us, hl with | [_, _], _ => rfl, F.kp⟩
theorem okK_Strategy_month (T : Txt P K mg) : FnRK P w K mg base (L2.CX P w) 8 (He5.wf K (He.ga K "Strategy") "classmethod" "month") 1 ["name"] (spSMonth K) := by
  obtain ⟨fd, F⟩ := T.F_Strategy_month
  exact fnOk_kw (fn_Strategy_month T F) (funD_kb F fun _ _ _ _ _ _ us ws hu hw => match us, ws, hu, hw with | [_], [_], _, _ => rfl)
theorem sc_Strategy___eq__ : FnScope ["self", "other"] ["self", "other"] (defScope (inClass (top 32) 3)) := ⟨rfl, rfl, rfl, by decide +kernel, rfl, by decide +kernel, by decide +kernel⟩
def spEqS (K : PySem.W.Frag) : Sp := fun vs H Q _ => ∃ a v n m, vs = [.ref a, v] ∧ StgAt K H (aT K) a n m ∧ ((∃ b n' m', v = .ref b ∧ StgAt K H (aT K) b n' m' ∧ Q (.bl (decide (n = n') && decide (m = m'))) H) ∨ ∃ t, TyX K H v t ∧ PySem.W.kitOne K t (.ref (aS K)) = some false ∧ Q (.bl false) H)
theorem ok_Strategy___eq__ (T : Txt P K mg) : OkF P w K mg base CX0 3 (He.ma K (He.ga K "Strategy") "__eq__") ["self", "other"] (spEqS K) := by
  have sm_eq := T.leg.cT.sm "__eq__" (by decide)
  have G_eq := (ok_Legs___eq__ (P := P) (w := w) (base := base) T).fnR
  have so := T.stg.oc
  obtain ⟨fd, F⟩ := T.F_Strategy___eq__
  refine ⟨fd, F.ok sc_Strategy___eq__ (fun vs H Q E h => ?_) (fun cdv A outer s H vs Q E hr h => ?_), F.bindsN fun _ _ _ _ _ _ us hl => match us, hl with | [_, _], _ => rfl, F.kp⟩
  · obtain ⟨a, v, n, m, rfl, _⟩ := h
    rfl
  · obtain ⟨a, v, n, m, rfl, g, k⟩ := h
    obtain ⟨dx, l, h1, h2⟩ := g.at_
    refine ⟨_, PSs.nox (pss_one (ps_ret (pe_and (pe_callB (call_isiK K) (by rfl) T.z_isinstance (by decide +kernel) (pa_cons (pv 1) (pa_cons (pe_glob (v := .ref (He.ga K "Strategy")) (by rfl) T.g_Strategy rfl) pa_nil))) (pe_and (pe_cmpR op_eq (pe_fld (pv 0) rfl) (pe_fld (pv 1) rfl) (nomark _)) (pe_one (pe_cmpR (op_eqO sm_eq.sm G_eq (hr.mono (by decide)) pass0) (pe_fld (pv 0) rfl) (pe_fld (pv 1) rfl) (nomark _))))))), ?_⟩
    rcases k with ⟨b, n', m', rfl, g', k⟩ | ⟨t, ty, e, k⟩
    · obtain ⟨dx', l', h1', h2'⟩ := g'.at_
      refine ⟨_, rfl, _, _, _, _, _, rfl, .own (aS K), so.pl.ty T.all h1', T.stg.kS, _, rfl, iteT ?_⟩
      refine ⟨_, rfl, a, aS K, dx, _, _, rfl, h1, so.pl.cls, so.no _ (by decide), rfl, _, rfl, b, aS K, dx', _, _, rfl, h1', so.pl.cls, so.no _ (by decide), rfl, rfl, _, rfl, ?_⟩
      rw [dec_str]
      by_cases hn : n = n'
      · rw [decide_eq_true hn] at k ⊢
        refine iteT ⟨_, rfl, a, aS K, dx, _, _, rfl, h1, so.pl.cls, so.no _ (by decide), rfl, _, rfl, b, aS K, dx', _, _, rfl, h1', so.pl.cls, so.no _ (by decide), rfl, ?_⟩
        obtain ⟨d1, t1, g1, g2⟩ := h2.at_
        obtain ⟨d2, t2, g3, g4⟩ := h2'.at_
        exact ⟨l, d1, _, .ref (aT K), rfl, g1, T.leg.cT.pl.ty T.all g3, nfS, ⟨l, _, _, m, rfl, h2, T.leg.cT, .inl ⟨l', _, m', rfl, h2', T.leg.cT, k⟩⟩⟩
      · rw [decide_eq_false hn] at k ⊢
        exact iteFa rfl k
    · exact ⟨_, rfl, _, _, _, _, _, rfl, .own (aS K), ty, e, _, rfl, k⟩
theorem sc_Strategy___str__ : FnScope ["self"] ["self"] (defScope (inClass (top 32) 4)) := ⟨rfl, rfl, rfl, by decide +kernel, rfl, by decide +kernel, by decide +kernel⟩
def spStrS (K : PySem.W.Frag) : Sp := fun vs H Q _ => ∃ a n m, vs = [.ref a] ∧ StgAt K H (aT K) a n m ∧ GoodW m ∧ n.length ≤ 100 ∧ (textT m).length ≤ 100000 ∧ ∀ H', Same H H' → Q (.str (n ++ " = " ++ textT m)) H'
theorem ok_Strategy___str__ (T : Txt P K mg) : OkF P w K mg base CX0 4 (He.ma K (He.ga K "Strategy") "__str__") ["self"] (spStrS K) := by
  have sm_str := T.leg.cT.sm "__str__" (by decide)
  have G_str := (ok_Legs___str__ (P := P) (w := w) (base := base) T).fnR
  have so := T.stg.oc
  obtain ⟨fd, F⟩ := T.F_Strategy___str__
  refine ⟨fd, F.ok sc_Strategy___str__ (fun vs H Q E h => ?_) (fun cdv A outer s H vs Q E hr h => ?_), F.bindsN fun _ _ _ _ _ _ us hl => match us, hl with | [_], _ => rfl, F.kp⟩
  · obtain ⟨a, n, m, rfl, _⟩ := h
    rfl
  · obtain ⟨a, n, m, rfl, g, gw, l1, l2, k⟩ := h
    obtain ⟨dx, l, h1, h2⟩ := g.at_
    refine ⟨_, PSs.nox (pss_one (ps_ret (pe_joined (.cons (pe_fmt (pe_fld (pv 0) rfl)) (.cons pe_str (.cons (pe_fmtO (pe_fld (pv 0) rfl) T.leg.cT.pl.cm T.stg.fT sm_str.sm G_str (hr.mono (by decide)) pass0) .nil)))))), ?_⟩
    refine ⟨_, rfl, a, aS K, dx, _, _, rfl, h1, so.pl.cls, so.no _ (by decide), rfl, .inl ⟨n, rfl, by rw [sizeLine_eq]; omega, n, rfl, by rw [empty_app, sizeLine_eq]; omega, ?_⟩⟩
    have e1 : (" = " : Str).length = 3 := by decide
    refine ⟨_, rfl, by rw [empty_app, app_len, e1, sizeLine_eq]; omega, ?_⟩
    obtain ⟨d1, t1, g1, g2⟩ := h2.at_
    refine ⟨_, rfl, a, aS K, dx, _, _, rfl, h1, so.pl.cls, so.no _ (by decide), rfl, l, d1, _, rfl, g1, l, aT K, m, rfl, h2, T.leg.cT, gw, fun H' s' => ⟨_, rfl, _, rfl, by rw [empty_app, app_len, app_len, e1, sizeLine_eq]; omega, ?_⟩⟩
    rw [empty_app]
    exact k H' s'
end
end Kx
set_option maxHeartbeats 4000000
namespace Kx
open PySem PySem.Spec PyProof.Rows L2 Xr
local macro_rules | `(tactic| walk_at "rd") => `(tactic| (repeat (first | apply Exists.intro | (refine And.intro rfl ?_) | (refine And.intro (SqL.of (by assumption)) ?_) | (refine And.intro (Or.inl (SqL.of (by assumption))) ?_) | (refine Or.inl ⟨_, rfl, ?_⟩) | (refine Or.inr ⟨_, rfl, ?_⟩) | (refine And.intro (by assumption) ?_) | (refine And.intro (Or.inl (by assumption)) ?_))))
/-- the greatest common divisor of some numbers -/
def cdN (l : List Int) : Nat := l.foldl (fun g n => Nat.gcd g n.natAbs) 0
theorem cd_snoc (l : List Int) (n : Int) : cdN (l ++ [n]) = Nat.gcd (cdN l) n.natAbs := by
  unfold cdN
  rw [List.foldl_append]
  rfl
theorem gcd_fold (l : List Int) : ∀ g : Nat, l.foldl (fun g n => Nat.gcd g n.natAbs) g ∣ g ∧ (∀ n ∈ l, l.foldl (fun g n => Nat.gcd g n.natAbs) g ∣ n.natAbs) ∧ ∀ d : Nat, d ∣ g → (∀ n ∈ l, d ∣ n.natAbs) → d ∣ l.foldl (fun g n => Nat.gcd g n.natAbs) g := by
  induction l with
  | nil => exact fun g => ⟨Nat.dvd_refl _, fun _ h => (List.not_mem_nil h).elim, fun d h _ => h⟩
  | cons x r ih =>
    intro g
    obtain ⟨h1, h2, h3⟩ := ih (Nat.gcd g x.natAbs)
    rw [List.foldl_cons]
    refine ⟨Nat.dvd_trans h1 (Nat.gcd_dvd_left _ _), fun n hn => ?_, fun d hd hr => h3 d (Nat.dvd_gcd hd (hr x (List.mem_cons_self ..))) fun n hn => hr n (List.mem_cons_of_mem _ hn)⟩
    rcases List.mem_cons.mp hn with rfl | hn
    · exact Nat.dvd_trans h1 (Nat.gcd_dvd_right _ _)
    · exact h2 n hn
theorem cd_dvd {l : List Int} {n : Int} (h : n ∈ l) : ((cdN l : Nat) : Int) ∣ n := Int.ofNat_dvd_left.mpr ((gcd_fold l 0).2.1 n h)
theorem dvd_cd {l : List Int} {d : Nat} (h : ∀ n ∈ l, (d : Int) ∣ n) : d ∣ cdN l := (gcd_fold l 0).2.2 d (Nat.dvd_zero _) fun n hn => Int.ofNat_dvd_left.mp (h n hn)
theorem cd_pos {l : List Int} {n : Int} (h : n ∈ l) (h0 : n ≠ 0) : 0 < cdN l := by
  rcases Nat.eq_zero_or_pos (cdN l) with z | z
  · have := cd_dvd h
    rw [z] at this
    exact absurd (Int.zero_dvd.mp this) h0
  · exact z
section
variable {P : Program} {w : World} {K : PySem.W.Frag} {mg : Str → Option Value} {base : Heap}
theorem sc_common_divisor : FnScope ["numbers", "found", "number", "one", "other"] ["numbers"] (defScope (top 34)) := ⟨rfl, rfl, rfl, by decide +kernel, rfl, by decide +kernel, by decide +kernel⟩
def spCd (K : PySem.W.Frag) : Sp := fun vs H Q _ => ∃ (a : Addr) (ns : List Int), vs = [.ref a] ∧ SqL K H a (ns.map V.int) ∧ Q (.int (cdN ns)) H
theorem ok_common_divisor (T : Txt P K mg) : OkF P w K mg base CX0 1 (He.ga K "common_divisor") ["numbers"] (spCd K) := by
  obtain ⟨fd, F⟩ := T.F_common_divisor
  refine ⟨fd, F.ok sc_common_divisor (fun vs H Q E h => ?_) (fun cdv A outer s H vs Q E hr h => ?_), F.bindsN fun _ _ _ _ _ _ us hl => match us, hl with | [_], _ => rfl, F.kp⟩
  · obtain ⟨a, ns, rfl, _⟩ := h
    rfl
  · obtain ⟨a, ns, rfl, ha, k⟩ := h
    refine ⟨_, PSs.nox (pss_cons (ps_asg pe_int (pg_name (i := 1) sc_common_divisor.nd rfl (.inl rfl)))
    (pss_cons (ps_for PassesOwn.never rfl (pi_list (pv 0)) (pg_name (i := 2) sc_common_divisor.nd rfl (.inl rfl))
      (pss_cons (ps_par (i := 3) (j := 4) (by rfl) sc_common_divisor.nd rfl rfl (by decide) rfl rfl (pa_cons (pv 1) (pa_cons (pe_callB call_abs (by rfl) T.z_abs (by decide +kernel) (pa_cons (pv 2) pa_nil)) pa_nil)) (by rfl))
    (pss_cons (ps_while PassesOwn.never (pt_cmpR op_ne (pv 4) pe_int (nomark _))
      (pss_one (ps_par (i := 3) (j := 4) (by rfl) sc_common_divisor.nd rfl rfl (by decide) rfl rfl (pa_cons (pv 4) (pa_cons (pe_op op_mod (pv 3) (pv 4)) pa_nil)) (by rfl))))
    (pss_one (ps_asg (pv 3) (pg_name (i := 1) sc_common_divisor.nd rfl (.inl rfl)))))))
    (pss_one (ps_ret (pv 1))))), ?_⟩
    refine ⟨_, rfl, a, rfl, ⟨_, ha⟩, ?_⟩
    refine forP yl_list (fun i σ H' => ∃ v2 v3 v4, σ = [some (.ref a), some (.int (cdN (ns.take i))), v2, v3, v4] ∧ H' = H) ⟨_, _, _, rfl, rfl⟩ (fun i σ H' _ h => by obtain ⟨_, _, _, _, rfl⟩ := h; exact ha) ?_ ?_
    · rintro i x σ H' hx ⟨v2, v3, v4, rfl, rfl⟩
      rw [List.getElem?_map] at hx
      obtain ⟨n, hn, rfl⟩ := Option.map_eq_some_iff.mp hx
      have e : cdN (ns.take (i + 1)) = Nat.gcd (cdN (ns.take i)) n.natAbs := by
        rw [List.take_add_one, hn]
        exact cd_snoc _ _
      refine ⟨_, rfl, _, rfl, _, rfl, _, _, rfl, ?_⟩
      refine ⟨fun m σ H2 => ∃ x y : Nat, σ = [some (.ref a), some (.int (cdN (ns.take i))), some (.int n), some (.int x), some (.int y)] ∧ m = y ∧ H2 = H' ∧ Nat.gcd x y = Nat.gcd (cdN (ns.take i)) n.natAbs, ⟨_, cdN (ns.take i), n.natAbs, ?_, rfl, rfl, rfl⟩, ?_⟩
      · have e2 : (if n < 0 then -n else n) = (n.natAbs : Int) := by split <;> omega
        show [_, _, _, _, some (V.int (if n < 0 then -n else n))] = _
        rw [e2]
      · rintro m σ H2 ⟨x, y, rfl, hm, rfl, g⟩
        refine ⟨_, rfl, rfl, _, rfl, ?_⟩
        by_cases hy : y = 0
        · subst hy
          exact iteFa (by simp) ⟨_, rfl, some (.int n), some (.int x), some (.int (0 : Nat)), by rw [e, ← g, Nat.gcd_zero_right]; rfl, rfl⟩
        · refine iteTr (by simp [hy]) ?_
          refine ⟨_, fun _ _ h => h, _, rfl, _, rfl, _, rfl, _, _, rfl, rfl, show (0 : Int) < (y : Int) by omega, _, _, rfl, x % y, by rw [hm]; exact Nat.mod_lt _ (by omega), y, x % y, ?_, rfl, rfl, ?_⟩
          · show [_, _, _, _, some (V.int ((x : Int) % (y : Int)))] = _
            rw [← Int.natCast_emod]
          · rw [← g, Nat.gcd_comm x y, Nat.gcd_rec y x, Nat.gcd_comm]
    · rintro σ H' ⟨v2, v3, v4, rfl, rfl⟩
      rw [List.length_map, List.take_length]
      exact ⟨_, rfl, k⟩
theorem sc_divided : FnScope ["numbers", "divisor", "number"] ["numbers", "divisor"] (defScope (top 35)) := ⟨rfl, rfl, rfl, by decide +kernel, rfl, by decide +kernel, by decide +kernel⟩
def spDivided (K : PySem.W.Frag) : Sp := fun vs H Q _ => ∃ (a : Addr) (ns : List Int) (d : Int), vs = [.ref a, .int d] ∧ SqL K H a (ns.map V.int) ∧ ns.length ≤ 1000 ∧ (∀ n : Int, CDivW n d ∨ CDivN n d) ∧ ∀ p H', H p = none → Same H H' → H' p = some (.lst ((ns.map fun n => n.fdiv d).map V.int)) → Q (.ref p) H'
theorem ok_divided (T : Txt P K mg) : OkF P w K mg base CX0 1 (He.ga K "divided") ["numbers", "divisor"] (spDivided K) := by
  obtain ⟨fd, F⟩ := T.F_divided
  refine ⟨fd, F.ok sc_divided (fun vs H Q E h => ?_) (fun cdv A outer s H vs Q E hr h => ?_), F.bindsN fun _ _ _ _ _ _ us hl => match us, hl with | [_, _], _ => rfl, F.kp⟩
  · obtain ⟨a, ns, d, rfl, _⟩ := h
    rfl
  · obtain ⟨a, (ns : List Int), d, rfl, ha, hl, hd, k⟩ := h
    refine ⟨_, PSs.nox (pss_one (ps_ret (pe_lc (own := [("number", 2)]) (g := gName 2) (tt := tYes) rfl sc_divided.nd (pi_list (pv 0)) (blkOk_by (N := ["numbers", "divisor", "number"]) (sc := defScope (top 35)) (by decide +kernel)) (fun _ _ _ _ _ => pg_name (i := 2) sc_divided.nd rfl (Or.inl rfl)) (fun _ _ _ _ _ => pts_nil) (fun _ _ _ _ _ => (pe_op op_fdivA (pv 2) (pv 1)))))), ?_⟩
    refine ⟨_, rfl, a, rfl, ⟨_, ha⟩, fun D hD => ?_⟩
    refine lcF (yl_list (xs := ns.map V.int)) (fun _ => true) (fun v => match v with | .int n => .int (n.fdiv d) | _ => .non) hD (by rw [List.length_map]; omega) (fun H' s => s.seq ha) (fun _ => rfl) (fun v H' _ _ Qb q => q H' (Same.refl H')) (fun v H' hm _ s2 Q2 q => ?_) fun H' s2 hl => ?_
    · obtain ⟨n, _, rfl⟩ := List.mem_map.mp hm
      exact ⟨_, rfl, _, rfl, _, _, rfl, rfl, hd n, q H' (Same.refl H')⟩
    · refine k D H' hD s2 (hl.trans ?_)
      rw [List.filter_eq_self.mpr fun _ _ => rfl, List.map_map, List.map_map]
      rfl
end
end Kx
set_option maxHeartbeats 4000000
namespace Kx
open PySem PySem.Spec PyProof.Rows L2 Xr
/-! rows reduced by stairs: what is computed, and how great it gets -/
abbrev Stair := Nat × List Int × List Int
def comb (one two : Int) (xs ys : List Int) : List Int := List.zipWith (fun x y => one * x - two * y) xs ys
def byD (d : Int) (xs : List Int) : List Int := xs.map fun n => n.fdiv d
def redR (rm : List Int × List Int) (st : Stair) : List Int := comb (st.2.1.getD st.1 0) (rm.1.getD st.1 0) rm.1 st.2.1
def redM (rm : List Int × List Int) (st : Stair) : List Int := comb (st.2.1.getD st.1 0) (rm.1.getD st.1 0) rm.2 st.2.2
def redD (rm : List Int × List Int) (st : Stair) : Nat := cdN (redR rm st ++ redM rm st)
def redStep (rm : List Int × List Int) (st : Stair) : List Int × List Int :=
  if rm.1.getD st.1 0 = 0 then rm else (byD (redD rm st) (redR rm st), byD (redD rm st) (redM rm st))
def unitR (w i : Nat) : List Int := (List.range w).map fun j => if j = i then 1 else 0
def redF (sts : List Stair) (w : Nat) (row : List Int) (i : Nat) : List Int × List Int := sts.foldl redStep (row, unitR w i)
def Bd (b : Nat) (l : List Int) : Prop := ∀ x ∈ l, x.natAbs < 2 ^ b
def tb (s : Nat) : Nat := 2 ^ (s + 2) - 1
theorem tb_succ (s : Nat) : tb (s + 1) = 2 * tb s + 1 := by
  unfold tb
  have h1 : 2 ^ (s + 1 + 2) = 2 * 2 ^ (s + 2) := by rw [show s + 1 + 2 = (s + 2) + 1 by omega, Nat.pow_succ]; omega
  have h2 : 0 < 2 ^ (s + 2) := Nat.two_pow_pos _
  omega
theorem tb_mono {a b : Nat} (h : a ≤ b) : tb a ≤ tb b := by
  unfold tb
  have := Nat.pow_le_pow_right (show 0 < 2 by decide) (show a + 2 ≤ b + 2 by omega)
  omega
theorem Bd.mono {a b : Nat} {l : List Int} (h : Bd a l) (e : a ≤ b) : Bd b l := fun x hx => Nat.lt_of_lt_of_le (h x hx) (Nat.pow_le_pow_right (by decide) e)
theorem Bd.getD {b : Nat} {l : List Int} (h : Bd b l) (j : Nat) : (l.getD j 0).natAbs < 2 ^ b := by
  rw [List.getD_eq_getElem?_getD]
  cases e : l[j]? with
  | none => exact Nat.two_pow_pos _
  | some x => exact h x (List.mem_of_getElem? e)
theorem comb_getD {o t : Int} {xs ys : List Int} (h : xs.length = ys.length) (j : Nat) : (comb o t xs ys).getD j 0 = o * xs.getD j 0 - t * ys.getD j 0 := by
  unfold comb
  rw [List.getD_eq_getElem?_getD, List.getD_eq_getElem?_getD, List.getD_eq_getElem?_getD, List.getElem?_zipWith]
  by_cases hj : j < xs.length
  · rw [List.getElem?_eq_getElem hj, List.getElem?_eq_getElem (show j < ys.length by omega)]
    rfl
  · rw [List.getElem?_eq_none (show xs.length ≤ j by omega), List.getElem?_eq_none (show ys.length ≤ j by omega)]
    simp
theorem comb_length {o t : Int} {xs ys : List Int} (h : xs.length = ys.length) : (comb o t xs ys).length = xs.length := by
  unfold comb
  rw [List.length_zipWith]
  omega
theorem byD_getD {d : Int} {xs : List Int} (j : Nat) : (byD d xs).getD j 0 = (xs.getD j 0).fdiv d := by
  unfold byD
  rw [List.getD_eq_getElem?_getD, List.getD_eq_getElem?_getD, List.getElem?_map]
  cases xs[j]? with
  | none => exact (Int.zero_fdiv d).symm
  | some x => rfl
theorem byD_length {d : Int} {xs : List Int} : (byD d xs).length = xs.length := List.length_map ..
theorem fdiv_ex {x d : Int} (hd : 0 < d) (h : d ∣ x) : ∃ q, x = d * q ∧ x.fdiv d = q := by
  obtain ⟨q, rfl⟩ := h
  exact ⟨q, rfl, Int.mul_fdiv_cancel_left q (by omega)⟩
theorem fdiv_le {x d : Int} (hd : 0 < d) (h : d ∣ x) : (x.fdiv d).natAbs ≤ x.natAbs := by
  obtain ⟨q, rfl, e⟩ := fdiv_ex hd h
  rw [e, Int.natAbs_mul]
  exact Nat.le_mul_of_pos_left _ (by omega)
theorem fdiv_nz {x d : Int} (hd : 0 < d) (h : d ∣ x) (h0 : x ≠ 0) : x.fdiv d ≠ 0 := by
  obtain ⟨q, rfl, e⟩ := fdiv_ex hd h
  rw [e]
  exact fun z => h0 (by rw [z, Int.mul_zero])
theorem mul_bd {a b : Int} {n : Nat} (h1 : a.natAbs < 2 ^ n) (h2 : b.natAbs < 2 ^ n) : (a * b).natAbs < 2 ^ (2 * n) := by
  rw [Int.natAbs_mul, show 2 * n = n + n by omega, Nat.pow_add]
  exact Nat.mul_lt_mul'' h1 h2
theorem comb_bd {o t : Int} {xs ys : List Int} {n : Nat} (ho : o.natAbs < 2 ^ n) (ht : t.natAbs < 2 ^ n) (h1 : Bd n xs) (h2 : Bd n ys) : Bd (2 * n + 1) (comb o t xs ys) := by
  intro x hx
  obtain ⟨j, hj⟩ := List.mem_iff_getElem?.mp hx
  unfold comb at hj
  rw [List.getElem?_zipWith] at hj
  cases e1 : xs[j]? with
  | none => rw [e1] at hj; cases hj
  | some a =>
    cases e2 : ys[j]? with
    | none => rw [e1, e2] at hj; cases hj
    | some b =>
      rw [e1, e2] at hj
      obtain rfl : o * a - t * b = x := Option.some.inj hj
      have k1 := mul_bd ho (h1 a (List.mem_of_getElem? e1))
      have k2 := mul_bd ht (h2 b (List.mem_of_getElem? e2))
      have k3 : (o * a - t * b).natAbs ≤ (o * a).natAbs + (t * b).natAbs := Int.natAbs_sub_le _ _
      rw [Nat.pow_succ]
      omega
theorem byD_bd {d : Int} {xs : List Int} {n : Nat} (hd : 0 < d) (h : ∀ x ∈ xs, d ∣ x) (hb : Bd n xs) : Bd n (byD d xs) := by
  intro y hy
  obtain ⟨x, hx, rfl⟩ := List.mem_map.mp hy
  exact Nat.lt_of_le_of_lt (fdiv_le hd (h x hx)) (hb x hx)
structure StOk (n w s idx : Nat) (st : Stair) : Prop where
  l1 : st.2.1.length = n
  l2 : st.2.2.length = w
  c : st.1 < n
  nz : st.2.1.getD st.1 0 ≠ 0
  b1 : Bd (tb s) st.2.1
  b2 : Bd (tb s) st.2.2
  z : ∀ j, idx ≤ j → st.2.2.getD j 0 = 0
structure RmOk (n w s idx : Nat) (rm : List Int × List Int) : Prop where
  l1 : rm.1.length = n
  l2 : rm.2.length = w
  b1 : Bd (tb s) rm.1
  b2 : Bd (tb s) rm.2
  nz : rm.2.getD idx 0 ≠ 0
  z : ∀ j, idx < j → rm.2.getD j 0 = 0
theorem getD_mem {l : List Int} {j : Nat} (h : l.getD j 0 ≠ 0) : l.getD j 0 ∈ l := by
  rw [List.getD_eq_getElem?_getD] at h ⊢
  cases e : l[j]? with
  | none => rw [e] at h; exact absurd rfl h
  | some x => exact List.mem_of_getElem? e
theorem StOk.up {n w s s' idx idx' : Nat} {st : Stair} (h : StOk n w s idx st) (e : s ≤ s') (f : idx ≤ idx') : StOk n w s' idx' st :=
  ⟨h.l1, h.l2, h.c, h.nz, h.b1.mono (tb_mono e), h.b2.mono (tb_mono e), fun j hj => h.z j (by omega)⟩
section
variable {n w s idx : Nat} {rm : List Int × List Int} {st : Stair}
theorem red_nz (h : RmOk n w s idx rm) (g : StOk n w s idx st) : (redM rm st).getD idx 0 ≠ 0 := by
  unfold redM
  rw [comb_getD (h.l2.trans g.l2.symm), g.z idx (Nat.le_refl _), Int.mul_zero, Int.sub_zero]
  exact Int.mul_ne_zero g.nz h.nz
theorem red_d (h : RmOk n w s idx rm) (g : StOk n w s idx st) : 0 < redD rm st ∧ redD rm st < 2 ^ tb (s + 1) := by
  have z := red_nz h g
  have m := getD_mem z
  refine ⟨cd_pos (List.mem_append.mpr (.inr m)) z, ?_⟩
  have k := cd_dvd (List.mem_append.mpr (.inr m) : _ ∈ redR rm st ++ redM rm st)
  have k2 : redD rm st ≤ ((redM rm st).getD idx 0).natAbs := Nat.le_of_dvd (by omega) (Int.ofNat_dvd_left.mp k)
  have k3 : Bd (tb (s + 1)) (redM rm st) := by
    rw [tb_succ]
    exact comb_bd (g.b1.getD _) (h.b1.getD _) h.b2 g.b2
  exact Nat.lt_of_le_of_lt k2 (k3 _ m)
theorem redStep_ok (h : RmOk n w s idx rm) (g : StOk n w s idx st) : RmOk n w (s + 1) idx (redStep rm st) := by
  unfold redStep
  by_cases e : rm.1.getD st.1 0 = 0
  · rw [if_pos e]
    exact ⟨h.l1, h.l2, h.b1.mono (tb_mono (Nat.le_succ s)), h.b2.mono (tb_mono (Nat.le_succ s)), h.nz, h.z⟩
  · rw [if_neg e]
    obtain ⟨d1, d2⟩ := red_d h g
    have d1' : (0 : Int) < (redD rm st : Int) := by omega
    have v1 : ∀ x ∈ redR rm st, ((redD rm st : Nat) : Int) ∣ x := fun x hx => cd_dvd (List.mem_append.mpr (.inl hx))
    have v2 : ∀ x ∈ redM rm st, ((redD rm st : Nat) : Int) ∣ x := fun x hx => cd_dvd (List.mem_append.mpr (.inr hx))
    have k1 : Bd (tb (s + 1)) (redR rm st) := by
      rw [tb_succ]
      exact comb_bd (g.b1.getD _) (h.b1.getD _) h.b1 g.b1
    have k2 : Bd (tb (s + 1)) (redM rm st) := by
      rw [tb_succ]
      exact comb_bd (g.b1.getD _) (h.b1.getD _) h.b2 g.b2
    refine ⟨?_, ?_, byD_bd d1' v1 k1, byD_bd d1' v2 k2, ?_, fun j hj => ?_⟩
    · rw [byD_length]
      unfold redR
      rw [comb_length (h.l1.trans g.l1.symm), h.l1]
    · rw [byD_length]
      unfold redM
      rw [comb_length (h.l2.trans g.l2.symm), h.l2]
    · show (byD _ _).getD idx 0 ≠ 0
      rw [byD_getD]
      exact fdiv_nz d1' (v2 _ (getD_mem (red_nz h g))) (red_nz h g)
    · show (byD _ _).getD j 0 = 0
      rw [byD_getD]
      unfold redM
      rw [comb_getD (h.l2.trans g.l2.symm), g.z j (by omega), h.z j hj, Int.mul_zero, Int.mul_zero]
      exact Int.zero_fdiv _
end
def StsOk (n w idx : Nat) (sts : List Stair) : Prop := ∀ i st, sts[i]? = some st → StOk n w i idx st
theorem unit_getD {w i : Nat} (j : Nat) : (unitR w i).getD j 0 = if j < w ∧ j = i then 1 else 0 := by
  unfold unitR
  rw [List.getD_eq_getElem?_getD, List.getElem?_map]
  by_cases h : j < w
  · rw [List.getElem?_range h]
    by_cases e : j = i
    · subst e; simp [h]
    · simp [e]
  · rw [List.getElem?_eq_none (by rw [List.length_range]; omega)]
    simp [h]
theorem rm0_ok {n w idx : Nat} {row : List Int} (hl : row.length = n) (hb : Bd 3 row) (hi : idx < w) : RmOk n w 0 idx (row, unitR w idx) := by
  refine ⟨hl, ?_, hb, fun x hx => ?_, ?_, fun j hj => ?_⟩
  · unfold unitR
    rw [List.length_map, List.length_range]
  · obtain ⟨j, _, rfl⟩ := List.mem_map.mp hx
    show (if j = idx then (1 : Int) else 0).natAbs < 8
    split <;> decide
  · show (unitR w idx).getD idx 0 ≠ 0
    rw [unit_getD, if_pos ⟨hi, rfl⟩]
    decide
  · show (unitR w idx).getD j 0 = 0
    rw [unit_getD, if_neg (by omega)]
theorem red_take {n w idx : Nat} {sts : List Stair} {row : List Int} (g : StsOk n w idx sts) (hl : row.length = n) (hb : Bd 3 row) (hi : idx < w) : ∀ i, i ≤ sts.length → RmOk n w i idx ((sts.take i).foldl redStep (row, unitR w idx))
  | 0, _ => rm0_ok hl hb hi
  | i + 1, h => by
    have z := red_take g hl hb hi i (by omega)
    have e : sts[i]? = some sts[i] := List.getElem?_eq_getElem (by omega)
    rw [List.take_add_one, e, List.foldl_append]
    exact redStep_ok z (g i _ e)
theorem red_ok {n w idx : Nat} {sts : List Stair} {row : List Int} (g : StsOk n w idx sts) (hl : row.length = n) (hb : Bd 3 row) (hi : idx < w) : RmOk n w sts.length idx (redF sts w row idx) := by
  have z := red_take g hl hb hi sts.length (Nat.le_refl _)
  rw [List.take_length] at z
  exact z
/-- a row taken: none if it is a new stair -/
def takeF (sts : List Stair) (w : Nat) (row : List Int) (i : Nat) : Option (List Int) × List Stair :=
  match (redF sts w row i).1.findIdx? (· ≠ 0) with
  | some c => (none, sts ++ [(c, (redF sts w row i).1, (redF sts w row i).2)])
  | none => (some (redF sts w row i).2, sts)
theorem take_stsOk {n w idx : Nat} {sts : List Stair} {row : List Int} (g : StsOk n w idx sts) (hl : row.length = n) (hb : Bd 3 row) (hi : idx < w) : StsOk n w (idx + 1) (takeF sts w row idx).2 := by
  have r := red_ok g hl hb hi
  have up : StsOk n w (idx + 1) sts := fun i st e => (g i st e).up (Nat.le_refl _) (Nat.le_succ _)
  unfold takeF
  cases e : (redF sts w row idx).1.findIdx? (· ≠ 0) with
  | none => exact up
  | some c =>
    have hc := List.findIdx?_eq_some_iff_getElem.mp e
    obtain ⟨h1, h2, _⟩ := hc
    intro i st hst
    by_cases hi2 : i < sts.length
    · rw [List.getElem?_append_left hi2] at hst
      exact up i st hst
    · rw [List.getElem?_append_right (by omega)] at hst
      have hi3 : i = sts.length := by
        rcases Nat.lt_or_ge (i - sts.length) 1 with h | h
        · omega
        · rw [List.getElem?_eq_none (by simpa using h)] at hst
          cases hst
      subst hi3
      rw [Nat.sub_self] at hst
      obtain rfl : (c, (redF sts w row idx).1, (redF sts w row idx).2) = st := Option.some.inj hst
      refine ⟨r.l1, r.l2, by rw [← r.l1]; exact h1, ?_, r.b1, r.b2, fun j hj => r.z j (by omega)⟩
      show (redF sts w row idx).1.getD c 0 ≠ 0
      rw [List.getD_eq_getElem?_getD, List.getElem?_eq_getElem h1]
      simpa using h2
theorem take_length {sts : List Stair} {w i : Nat} {row : List Int} : (takeF sts w row i).2.length ≤ sts.length + 1 := by
  unfold takeF
  split
  · simp
  · exact Nat.le_succ _
/-- the stairs behind the first rows; the indexes of the independent ones -/
def stsF (w : Nat) (rows : List (List Int)) : Nat → List Stair
  | 0 => []
  | i + 1 => (takeF (stsF w rows i) w (rows.getD i []) i).2
def indepF (rows : List (List Int)) : List Nat := (List.range rows.length).filter fun i => (takeF (stsF rows.length rows i) rows.length (rows.getD i []) i).1.isNone
theorem stsF_ok {n w : Nat} {rows : List (List Int)} (h : ∀ r ∈ rows, r.length = n ∧ Bd 3 r) (hw : rows.length ≤ w) : ∀ i, i ≤ rows.length → StsOk n w i (stsF w rows i) ∧ (stsF w rows i).length ≤ i
  | 0, _ => ⟨fun i st e => (by unfold stsF at e; rw [List.getElem?_nil] at e; cases e), Nat.le_refl _⟩
  | i + 1, hi => by
    obtain ⟨h1, h2⟩ := stsF_ok h hw i (by omega)
    have e : rows.getD i [] ∈ rows := by
      rw [List.getD_eq_getElem?_getD, List.getElem?_eq_getElem (show i < rows.length by omega)]
      exact List.getElem_mem ..
    obtain ⟨l, b⟩ := h _ e
    refine ⟨take_stsOk h1 l b (by omega), ?_⟩
    have := take_length (sts := stsF w rows i) (w := w) (i := i) (row := rows.getD i [])
    show (takeF _ _ _ _).2.length ≤ _
    omega
end Kx
set_option maxHeartbeats 4000000
namespace Kx
open PySem PySem.Spec PyProof.Rows L2 Xr
local macro_rules | `(tactic| walk_at "rd") => `(tactic| (repeat (first | apply Exists.intro | (refine And.intro rfl ?_) | (refine And.intro (SqL.of (by assumption)) ?_) | (refine And.intro (Or.inl (SqL.of (by assumption))) ?_) | (refine Or.inl ⟨_, rfl, ?_⟩) | (refine Or.inr ⟨_, rfl, ?_⟩) | (refine And.intro (by assumption) ?_) | (refine And.intro (Or.inl (by assumption)) ?_))))
def StairAt (av : List Addr) (H : Hp) (v : V) (st : Stair) : Prop := ∃ t r m, v = .ref t ∧ t ∉ av ∧ r ∉ av ∧ m ∉ av ∧ H t = some (.tup [.int (st.1 : Nat), .ref r, .ref m]) ∧ H r = some (.lst (st.2.1.map V.int)) ∧ H m = some (.lst (st.2.2.map V.int))
theorem StairAt.but {av : List Addr} {S : Addr} {H H' : Hp} {v : V} {st : Stair} (h : StairAt av H v st) (hS : S ∈ av) (b : But S H H') : StairAt av H' v st := by
  obtain ⟨t, r, m, rfl, n1, n2, n3, h1, h2, h3⟩ := h
  exact ⟨t, r, m, rfl, n1, n2, n3, b _ _ h1 fun e => n1 (e ▸ hS), b _ _ h2 fun e => n2 (e ▸ hS), b _ _ h3 fun e => n3 (e ▸ hS)⟩
theorem StairAt.same {av : List Addr} {H H' : Hp} {v : V} {st : Stair} (h : StairAt av H v st) (s : Same H H') : StairAt av H' v st := by
  obtain ⟨t, r, m, rfl, n1, n2, n3, h1, h2, h3⟩ := h
  exact ⟨t, r, m, rfl, n1, n2, n3, s _ _ h1, s _ _ h2, s _ _ h3⟩
/-- steps: their stairs; no part of them stands at av -/
structure StepsAt (K : PySem.W.Frag) (H : Hp) (x S : Addr) (av : List Addr) (w : Nat) (sts : List Stair) : Prop where
  at_ : ∃ dx, H x = some (.ins (aSt K) dx [("width", .int (w : Nat)), ("stairs", .ref S)])
  vs : ∃ vs, H S = some (.lst vs) ∧ Paired (StairAt (S :: av) H) vs sts
  nx : x ∉ av
  nS : S ∉ av
theorem StepsAt.same {K : PySem.W.Frag} {H H' : Hp} {x S : Addr} {av : List Addr} {w : Nat} {sts : List Stair} (h : StepsAt K H x S av w sts) (s : Same H H') : StepsAt K H' x S av w sts := by
  obtain ⟨⟨dx, h1⟩, ⟨vs, h2, h3⟩, n1, n2⟩ := h
  exact ⟨⟨dx, s _ _ h1⟩, ⟨vs, s _ _ h2, Paired.mapP h3 fun _ _ z => z.same s⟩, n1, n2⟩
theorem StepsAt.put {K : PySem.W.Frag} {H : Hp} {x S D : Addr} {av : List Addr} {w : Nat} {sts : List Stair} {o : HO} (h : StepsAt K H x S av w sts) (hD : D ∈ av) : StepsAt K (upd H D o) x S av w sts := by
  obtain ⟨⟨dx, h1⟩, ⟨vs, h2, h3⟩, n1, n2⟩ := h
  have u : ∀ {y : Addr}, y ∉ av → upd H D o y = H y := fun n => upd_ne fun e => n (e ▸ hD)
  refine ⟨⟨dx, (u n1).trans h1⟩, ⟨vs, (u n2).trans h2, Paired.mapP h3 fun _ _ z => ?_⟩, n1, n2⟩
  obtain ⟨t, r, m, rfl, m1, m2, m3, g1, g2, g3⟩ := z
  exact ⟨t, r, m, rfl, m1, m2, m3, (u fun z => m1 (List.mem_cons_of_mem _ z)).trans g1, (u fun z => m2 (List.mem_cons_of_mem _ z)).trans g2, (u fun z => m3 (List.mem_cons_of_mem _ z)).trans g3⟩
theorem StepsAt.av {K : PySem.W.Frag} {H : Hp} {x S D : Addr} {av : List Addr} {w : Nat} {sts : List Stair} (h : StepsAt K H x S av w sts) (hD : H D = none) : StepsAt K H x S (D :: av) w sts := by
  obtain ⟨⟨dx, h1⟩, ⟨vs, h2, h3⟩, n1, n2⟩ := h
  have u : ∀ {y : Addr} {o : HO}, H y = some o → y ≠ D := fun e z => by rw [z, hD] at e; cases e
  refine ⟨⟨dx, h1⟩, ⟨vs, h2, Paired.mapP h3 fun _ _ z => ?_⟩, fun z => (List.mem_cons.mp z).elim (u h1) n1, fun z => (List.mem_cons.mp z).elim (u h2) n2⟩
  obtain ⟨t, r, m, rfl, m1, m2, m3, g1, g2, g3⟩ := z
  have ad : ∀ {y : Addr} {o : HO}, H y = some o → y ∉ S :: av → y ∉ S :: D :: av := fun e n z => by
    rcases List.mem_cons.mp z with rfl | z
    · exact n (List.mem_cons_self ..)
    · rcases List.mem_cons.mp z with e2 | z
      · exact u e e2
      · exact n (List.mem_cons_of_mem _ z)
  exact ⟨t, r, m, rfl, ad g1 m1, ad g2 m2, ad g3 m3, g1, g2, g3⟩
theorem paired_get {R : V → Stair → Prop} : ∀ {vs : List V} {sts : List Stair}, Paired R vs sts → ∀ (i : Nat) (x : V), vs[i]? = some x → ∃ st, sts[i]? = some st ∧ R x st
  | _, _, .nil, i, x, h => by cases h
  | _, _, .cons a b, 0, x, h => by cases h; exact ⟨_, rfl, a⟩
  | _, _, .cons a b, i + 1, x, h => paired_get b i x h
theorem ne_ok {a : Int} (h : a ≠ 0) : (!decide (V.int a = V.int 0)) = true := by simp [h]
theorem zipV {o t : Int} : ∀ (xs ys : List Int), List.zipWith (fun x y => match x, y with | V.int a, V.int b => V.int (o * a - t * b) | _, _ => V.non) (xs.map V.int) (ys.map V.int) = (comb o t xs ys).map V.int
  | [], _ => rfl
  | _ :: _, [] => rfl
  | x :: xs, y :: ys => by
    show _ :: _ = _ :: _
    rw [zipV xs ys]
    rfl
section
variable {P : Program} {w : World} {K : PySem.W.Frag} {mg : Str → Option Value} {base : Heap}
theorem sc_Steps___init__ : FnScope ["self", "count"] ["self", "count"] (defScope (inClass (top 36) 0)) := ⟨rfl, rfl, rfl, by decide +kernel, rfl, by decide +kernel, by decide +kernel⟩
def spStepsI (K : PySem.W.Frag) : Sp := fun vs H Q _ => ∃ (x dx : Addr) (n : Nat), vs = [.ref x, .int n] ∧ H x = some (.ins (aSt K) dx []) ∧ ∀ S H', H S = none → But x H H' → StepsAt K H' x S [] n [] → Q .non H'
theorem ok_Steps_init (T : Txt P K mg) : OkI P w K mg base CX0 1 (He.ma K (He.ga K "Steps") "__init__") ["self", "count"] (spStepsI K) := by
  have so := T.lis.st
  obtain ⟨fd, F⟩ := T.F_Steps___init__
  refine ⟨fd, F.ok sc_Steps___init__ (fun vs H Q E h => ?_) (fun cdv A outer s H vs Q E hr h => ?_), F.bindsN fun _ _ _ _ _ _ us hl => match us, hl with | [_, _], _ => rfl⟩
  · obtain ⟨x, dx, n, rfl, _⟩ := h
    rfl
  · obtain ⟨x, dx, n, rfl, hx, k⟩ := h
    refine ⟨_, PSs.nox (pss_cons (ps_fld (pv 0) (pv 1) rfl)
    (pss_one (ps_fld (pv 0) (pe_lst pa_nil) rfl))), ?_⟩
    refine ⟨_, rfl, _, rfl, x, aSt K, dx, _, rfl, hx, so.pl.cls, so.no _ (by decide), by decide, ?_⟩
    refine ⟨by decide, fun S nS => ?_⟩
    have sx : S ≠ x := fun z => by rw [z, upd_same] at nS; cases nS
    have nS' : H S = none := by rw [upd_ne sx] at nS; exact nS
    refine ⟨_, rfl, x, aSt K, dx, _, rfl, (upd_ne (Ne.symm sx)).trans upd_same, so.pl.cls, so.no _ (by decide), (show 1 < 1000 by decide), ?_⟩
    refine k S _ nS' (((But.refl).upd.new nS).upd) ⟨⟨dx, upd_same⟩, ⟨[], ?_, .nil⟩, List.not_mem_nil, List.not_mem_nil⟩
    rw [upd_ne sx, upd_same]
theorem sc_Steps_reduced : FnScope ["self", "row", "index", "rest", "mix", "column", "other", "others", "one", "two", "divisor", "place", "mine", "its"] ["self", "row", "index"] (defScope (inClass (top 36) 1)) := ⟨rfl, rfl, rfl, by decide +kernel, rfl, by decide +kernel, by decide +kernel⟩
def spReduced (K : PySem.W.Frag) : Sp := fun vs H Q _ => ∃ (x S ra : Addr) (av : List Addr) (i w n : Nat) (sts : List Stair) (row : List Int), vs = [.ref x, .ref ra, .int i] ∧ StepsAt K H x S av w sts ∧ H ra = some (.lst (row.map V.int)) ∧ StsOk n w i sts ∧ row.length = n ∧ Bd 3 row ∧ i < w ∧ w ≤ 1000 ∧ n ≤ 1000 ∧ sts.length ≤ 11 ∧
  ∀ t r m H', Same H H' → H' t = some (.tup [.ref r, .ref m]) → H r = none → H m = none → H' r = some (.lst ((redF sts w row i).1.map V.int)) → H' m = some (.lst ((redF sts w row i).2.map V.int)) → Q (.ref t) H'
theorem tb_le {s : Nat} (h : s ≤ 11) : tb s ≤ 8191 := Nat.le_trans (tb_mono h) (by decide)
theorem tb_pos {s : Nat} : 0 < tb s := Nat.lt_of_lt_of_le (by decide : 0 < tb 0) (tb_mono (Nat.zero_le s))
theorem ok_Steps_reduced (T : Txt P K mg) : OkF P w K mg base CX0 2 (He.ma K (He.ga K "Steps") "reduced") ["self", "row", "index"] (spReduced K) := by
  have so := T.lis.st
  have G_common_divisor := ok_common_divisor (P := P) (w := w) (base := base) T
  have G_divided := ok_divided (P := P) (w := w) (base := base) T
  obtain ⟨fd, F⟩ := T.F_Steps_reduced
  refine ⟨fd, F.ok sc_Steps_reduced (fun vs H Q E h => ?_) (fun cdv A outer s H vs Q E hr h => ?_), F.bindsN fun _ _ _ _ _ _ us hl => match us, hl with | [_, _, _], _ => rfl, F.kp⟩
  · obtain ⟨x, S, ra, av, i, w, n, sts, row, rfl, _⟩ := h
    rfl
  · obtain ⟨x, S, ra, av, i, w, n, sts, row, rfl, sa, hra, so1, ln, bd, iw, w1, n1, s11, k⟩ := h
    obtain ⟨⟨dx, hx⟩, ⟨vs, hS, hp⟩, _, _⟩ := sa
    refine ⟨_, PSs.nox (pss_cons (ps_par (i := 3) (j := 4) (by rfl) sc_Steps_reduced.nd rfl rfl (by decide) rfl rfl (pa_cons (pe_callTy call_list_of (by rfl) T.z_list (by decide +kernel) (pa_cons (pv 1) pa_nil)) (pa_cons (pe_lc (own := [("place", 11)]) (g := gName 11) (tt := tYes) rfl sc_Steps_reduced.nd (pi_range1 (by rfl) T.z_range (pa_cons (pe_fld (pv 0) rfl) pa_nil)) (blkOk_by (N := ["self", "row", "index", "rest", "mix", "column", "other", "others", "one", "two", "divisor", "place", "mine", "its"]) (sc := defScope (inClass (top 36) 1)) (by decide +kernel)) (fun _ _ _ _ _ => pg_name (i := 11) sc_Steps_reduced.nd rfl (Or.inl rfl)) (fun _ _ _ _ _ => pts_nil) (fun _ _ _ _ _ => (pe_callTy call_int1 (by rfl) T.z_int (by decide +kernel) (pa_cons (pe_cmpR op_eq (pv 11) (pv 2) (nomark _)) pa_nil)))) pa_nil)) (by rfl))
    (pss_cons (ps_for PassesOwn.never rfl (pi_list (pe_fld (pv 0) rfl)) (pg_tup rfl (pgs_cons (pg_name (i := 5) sc_Steps_reduced.nd rfl (.inl rfl)) (pgs_cons (pg_name (i := 6) sc_Steps_reduced.nd rfl (.inl rfl)) (pgs_cons (pg_name (i := 7) sc_Steps_reduced.nd rfl (.inl rfl)) pgs_nil))))
      (pss_cons (ps_asg (pe_tup (pa_cons (pe_ix (ix_listK K) (pv 6) (pv 5) (fun _ _ => rfl)) (pa_cons (pe_ix (ix_listK K) (pv 3) (pv 5) (fun _ _ => rfl)) pa_nil))) (pg_tup rfl (pgs_cons (pg_name (i := 8) sc_Steps_reduced.nd rfl (.inr rfl)) (pgs_cons (pg_name (i := 9) sc_Steps_reduced.nd rfl (.inr rfl)) pgs_nil))))
    (pss_one (ps_if (pt_cmpR op_ne (pv 9) pe_int (nomark _))
      (pss_cons (ps_setLc (i := 3) (own := [("mine", 12), ("its", 13)]) (g := gTup K 2 (gCons (gName 12) (gCons (gName 13) gNil))) (tt := tYes) rfl sc_Steps_reduced.nd rfl rfl (sw_true rfl rfl rfl (by decide +kernel)) (pi_zip (by rfl) T.z_zip (pa_cons (pv 3) (pa_cons (pv 6) pa_nil))) (blkOk_by (N := ["self", "row", "index", "rest", "mix", "column", "other", "others", "one", "two", "divisor", "place", "mine", "its"]) (sc := defScope (inClass (top 36) 1)) (by decide +kernel)) (fun _ _ _ _ _ => pg_tup rfl (pgs_cons (pg_name (i := 12) sc_Steps_reduced.nd rfl (Or.inl rfl)) (pgs_cons (pg_name (i := 13) sc_Steps_reduced.nd rfl (Or.inl rfl)) pgs_nil))) (fun _ _ _ _ _ => pts_nil) (fun _ _ _ _ _ => (pe_op op_sub (pe_op op_mulW (pv 8) (pv 12)) (pe_op op_mulW (pv 9) (pv 13)))))
    (pss_cons (ps_setLc (i := 4) (own := [("mine", 12), ("its", 13)]) (g := gTup K 2 (gCons (gName 12) (gCons (gName 13) gNil))) (tt := tYes) rfl sc_Steps_reduced.nd rfl rfl (sw_true rfl rfl rfl (by decide +kernel)) (pi_zip (by rfl) T.z_zip (pa_cons (pv 4) (pa_cons (pv 7) pa_nil))) (blkOk_by (N := ["self", "row", "index", "rest", "mix", "column", "other", "others", "one", "two", "divisor", "place", "mine", "its"]) (sc := defScope (inClass (top 36) 1)) (by decide +kernel)) (fun _ _ _ _ _ => pg_tup rfl (pgs_cons (pg_name (i := 12) sc_Steps_reduced.nd rfl (Or.inl rfl)) (pgs_cons (pg_name (i := 13) sc_Steps_reduced.nd rfl (Or.inl rfl)) pgs_nil))) (fun _ _ _ _ _ => pts_nil) (fun _ _ _ _ _ => (pe_op op_sub (pe_op op_mulW (pv 8) (pv 12)) (pe_op op_mulW (pv 9) (pv 13)))))
    (pss_cons (ps_asg (pe_f G_common_divisor (hr.mono (by decide)) (by rfl) T.g_common_divisor pass0 (pa_cons (pe_op op_cat (pv 3) (pv 4)) pa_nil)) (pg_name (i := 10) sc_Steps_reduced.nd rfl (.inl rfl)))
    (pss_one (ps_par (i := 3) (j := 4) (by rfl) sc_Steps_reduced.nd rfl rfl (by decide) rfl rfl (pa_cons (pe_f G_divided (hr.mono (by decide)) (by rfl) T.g_divided pass0 (pa_cons (pv 3) (pa_cons (pv 10) pa_nil))) (pa_cons (pe_f G_divided (hr.mono (by decide)) (by rfl) T.g_divided pass0 (pa_cons (pv 4) (pa_cons (pv 10) pa_nil))) pa_nil)) (by rfl))))))
      pss_nil))))
    (pss_one (ps_ret (pe_tup (pa_cons (pv 3) (pa_cons (pv 4) pa_nil))))))), ?_⟩
    refine ⟨_, rfl, ra, _, rfl, .inl (SqL.of hra), fun l nl => ?_⟩
    have s1 : Same H (upd H l (.lst (row.map V.int))) := same_new nl
    have h1 : upd H l (.lst (row.map V.int)) l = some (.lst (row.map V.int)) := upd_same
    generalize upd H l (.lst (row.map V.int)) = H1 at s1 h1
    refine ⟨_, rfl, x, aSt K, dx, _, _, rfl, s1 _ _ hx, so.pl.cls, so.no _ (by decide), rfl, (w : Int), rfl, by omega, by omega, fun D hD => ?_⟩
    refine lcR (fun _ => true) (fun j : Nat => .int (if j = i then 1 else 0)) hD (by omega) (fun j => rfl) (fun j H' _ _ Qb z => z H' (Same.refl H')) (fun j H' hj _ sj Q' z => ?_) fun H2 s2 h2 => ?_
    · refine ⟨_, rfl, _, rfl, rfl, .inr ⟨_, rfl, ?_⟩⟩
      have e : (if decide (V.int (0 + (j : Int)) = V.int (i : Int)) = true then (1 : Int) else 0) = if j = i then 1 else 0 := by
        by_cases h : j = i
        · subst h; simp
        · rw [if_neg h, if_neg]
          simp
          omega
      rw [e]
      exact z H' (Same.refl H')
    · have e : (List.map (fun j : Nat => V.int (if j = i then 1 else 0)) (List.filter (fun _ => true) (List.range ((w : Int)).toNat))) = (unitR w i).map V.int := by
        rw [List.filter_eq_self.mpr fun _ _ => rfl, Int.toNat_natCast]
        unfold unitR
        rw [List.map_map]
        rfl
      rw [e] at h2
      have s12 := s1.trans s2
      have nD := s1.free hD
      have h12 := s2 _ _ h1
      refine ⟨_, _, rfl, ?_⟩
      refine ⟨_, rfl, x, aSt K, dx, _, _, rfl, s12 _ _ hx, so.pl.cls, so.no _ (by decide), rfl, S, rfl, ⟨_, SqL.of (s12 _ _ hS)⟩, ?_⟩
      refine forP yl_list (fun j σ H' => ∃ r m rm v5 v6 v7 v8 v9 v10 v11 v12 v13, σ = [some (.ref x), some (.ref ra), some (.int i), some (.ref r), some (.ref m), v5, v6, v7, v8, v9, v10, v11, v12, v13] ∧ Same H H' ∧ H r = none ∧ H m = none ∧ rm = (sts.take j).foldl redStep (row, unitR w i) ∧ H' r = some (.lst (rm.1.map V.int)) ∧ H' m = some (.lst (rm.2.map V.int)))
        ⟨l, D, _, _, _, _, _, _, _, _, _, _, rfl, s12, nl, nD, rfl, h12, h2⟩ (fun j σ H' _ h => by obtain ⟨_, _, _, _, _, _, _, _, _, _, _, _, _, s, _⟩ := h; exact SqL.of (s _ _ hS)) ?_ ?_
      · rintro j v σ H' hv ⟨r, m, rm, v5, v6, v7, v8, v9, v10, v11, v12, v13, rfl, s, nr, nm, erm, hr1, hm1⟩
        obtain ⟨st, hst, t, r', m', rfl, _, _, _, ht, hr', hm'⟩ := paired_get hp j v hv
        have jl : j < sts.length := by
          rcases Nat.lt_or_ge j sts.length with h | h
          · exact h
          · rw [List.getElem?_eq_none h] at hst; cases hst
        have ro : RmOk n w j i rm := erm ▸ red_take so1 ln bd iw j (by omega)
        have go := so1 j st hst
        have erm' : (sts.take (j + 1)).foldl redStep (row, unitR w i) = redStep rm st := by
          rw [List.take_add_one, hst, List.foldl_append, erm]
          rfl
        refine ⟨t, _, rfl, SqT.of (s _ _ ht), rfl, _, _, rfl, _, _, rfl, _, _, rfl, rfl, ?_⟩
        have c1 : st.1 < (st.2.1.map V.int).length := by rw [List.length_map, go.l1]; exact go.c
        have c2 : st.1 < (rm.1.map V.int).length := by rw [List.length_map, ro.l1]; exact go.c
        have a1 : atI (st.2.1.map V.int) ((st.1 : Nat) : Int) = some (.int (st.2.1.getD st.1 0)) := atI_nat (by
          rw [List.getElem?_map, List.getD_eq_getElem?_getD, List.getElem?_eq_getElem (by rw [go.l1]; exact go.c)]
          rfl)
        have a2 : atI (rm.1.map V.int) ((st.1 : Nat) : Int) = some (.int (rm.1.getD st.1 0)) := atI_nat (by
          rw [List.getElem?_map, List.getD_eq_getElem?_getD, List.getElem?_eq_getElem (by rw [ro.l1]; exact go.c)]
          rfl)
        refine ⟨_, rfl, _, rfl, _, _, _, _, rfl, rfl, SqL.of (s _ _ hr'), a1, _, rfl, _, rfl, _, _, _, _, rfl, rfl, SqL.of hr1, a2, (show 2 ≤ sizeLine by decide), fun q nq => ?_⟩
        have sq : Same H' (upd H' q (.tup [.int (st.2.1.getD st.1 0), .int (rm.1.getD st.1 0)])) := same_new nq
        refine ⟨q, _, rfl, SqT.of upd_same, rfl, _, _, rfl, _, _, rfl, rfl, ?_⟩
        generalize upd H' q (.tup [.int (st.2.1.getD st.1 0), .int (rm.1.getD st.1 0)]) = H3 at sq
        have s3 := s.trans sq
        have hr3 := sq _ _ hr1
        have hm3 := sq _ _ hm1
        refine ⟨_, rfl, rfl, _, rfl, ?_⟩
        by_cases e0 : rm.1.getD st.1 0 = 0
        · refine iteFa (by rw [e0]; simp) ⟨r, m, rm, _, _, _, _, _, _, _, _, _, rfl, s3, nr, nm, ?_, hr3, hm3⟩
          rw [erm']
          unfold redStep
          rw [if_pos e0]
        · refine iteTr (ne_ok e0) ?_
          have t8 : tb (j + 1) ≤ 8191 := tb_le (by omega)
          have tj : tb j ≤ 8191 := tb_le (by omega)
          have wm : ∀ {a b : Int}, a.natAbs < 2 ^ tb j → b.natAbs < 2 ^ tb j → CMulW a b := fun h1 h2 => wide_mul h1 h2 tb_pos tb_pos (by omega)
          refine ⟨_, rfl, _, rfl, r, r', _, _, rfl, SqL.of hr3, SqL.of (s3 _ _ hr'), fun D1 n1 => ?_⟩
          refine lcZ (fun u v => [some (.ref x), some (.ref ra), some (.int i), some (.ref r), some (.ref m), some (.int st.1), some (.ref r'), some (.ref m'), some (.int (st.2.1.getD st.1 0)), some (.int (rm.1.getD st.1 0)), v10, v11, some u, some v]) (fun u v => match u, v with | .int a, .int b => .int (st.2.1.getD st.1 0 * a - rm.1.getD st.1 0 * b) | _, _ => .non) n1 (by rw [List.length_map, List.length_map, ro.l1, go.l1]) (by rw [List.length_map, ro.l1]; omega)
            (fun H' s' => ⟨SqL.of (s' _ _ hr3), SqL.of (s' _ _ (s3 _ _ hr'))⟩) (fun T0 u v H' C hT c => ⟨T0, _, rfl, SqT.of hT, rfl, _, _, rfl, _, _, rfl, rfl, c⟩) (fun _ _ => rfl) (fun j u v H' hu hv s' Q' q' => ?_) fun H4 s4 h4 => ?_
          · rw [List.getElem?_map] at hu hv
            obtain ⟨a, ha, rfl⟩ := Option.map_eq_some_iff.mp hu
            obtain ⟨b, hb, rfl⟩ := Option.map_eq_some_iff.mp hv
            exact ⟨_, rfl, _, rfl, _, _, rfl, rfl, wm (go.b1.getD _) (ro.b1 a (List.mem_of_getElem? ha)), _, rfl, _, rfl, _, _, rfl, rfl, wm (ro.b1.getD _) (go.b1 b (List.mem_of_getElem? hb)), _, _, rfl, rfl, q' H' (Same.refl H')⟩
          · rw [zipV] at h4
            have s5 := s3.trans s4
            have hm4 := s4 _ _ hm3
            refine ⟨_, rfl, _, rfl, m, m', _, _, rfl, SqL.of hm4, SqL.of (s5 _ _ hm'), fun D2 n2 => ?_⟩
            refine lcZ (fun u v => [some (.ref x), some (.ref ra), some (.int i), some (.ref D1), some (.ref m), some (.int st.1), some (.ref r'), some (.ref m'), some (.int (st.2.1.getD st.1 0)), some (.int (rm.1.getD st.1 0)), v10, v11, some u, some v]) (fun u v => match u, v with | .int a, .int b => .int (st.2.1.getD st.1 0 * a - rm.1.getD st.1 0 * b) | _, _ => .non) n2 (by rw [List.length_map, List.length_map, ro.l2, go.l2]) (by rw [List.length_map, ro.l2]; omega)
              (fun H' s' => ⟨SqL.of (s' _ _ hm4), SqL.of (s' _ _ (s5 _ _ hm'))⟩) (fun T0 u v H' C hT c => ⟨T0, _, rfl, SqT.of hT, rfl, _, _, rfl, _, _, rfl, rfl, c⟩) (fun _ _ => rfl) (fun j u v H' hu hv s' Q' q' => ?_) fun H6 s6 h6 => ?_
            · rw [List.getElem?_map] at hu hv
              obtain ⟨a, ha, rfl⟩ := Option.map_eq_some_iff.mp hu
              obtain ⟨b, hb, rfl⟩ := Option.map_eq_some_iff.mp hv
              exact ⟨_, rfl, _, rfl, _, _, rfl, rfl, wm (go.b1.getD _) (ro.b2 a (List.mem_of_getElem? ha)), _, rfl, _, rfl, _, _, rfl, rfl, wm (ro.b1.getD _) (go.b2 b (List.mem_of_getElem? hb)), _, _, rfl, rfl, q' H' (Same.refl H')⟩
            · rw [zipV] at h6
              have s7 := s5.trans s6
              have h46 := s6 _ _ h4
              have lR : (redR rm st).length = n := by unfold redR; rw [comb_length (ro.l1.trans go.l1.symm), ro.l1]
              have lM : (redM rm st).length = w := by unfold redM; rw [comb_length (ro.l2.trans go.l2.symm), ro.l2]
              have h46' : H6 D1 = some (.lst ((redR rm st).map V.int)) := h46
              have h6' : H6 D2 = some (.lst ((redM rm st).map V.int)) := h6
              refine ⟨_, rfl, _, rfl, _, _, _, _, rfl, rfl, h46', h6', by rw [List.length_map, List.length_map, lR, lM, sizeLine_eq]; omega, fun p np => ?_⟩
              have s8 : Same H6 (upd H6 p (.lst ((redR rm st).map V.int ++ (redM rm st).map V.int))) := same_new np
              refine ⟨p, redR rm st ++ redM rm st, rfl, by rw [List.map_append]; exact SqL.of upd_same, ?_⟩
              generalize upd H6 p (.lst ((redR rm st).map V.int ++ (redM rm st).map V.int)) = H8 at s8
              obtain ⟨d1, d2⟩ := red_d ro go
              have cd : ∀ y : Int, CDivW y ((redD rm st : Nat) : Int) ∨ CDivN y ((redD rm st : Nat) : Int) := fun y => .inl (wide_div (b := tb (j + 1)) (by omega) (by omega) tb_pos (by omega))
              refine ⟨_, rfl, _, rfl, D1, redR rm st, _, rfl, SqL.of (s8 _ _ h46'), by omega, cd, fun p1 H9 np1 s9 h9 => ?_⟩
              refine ⟨_, rfl, _, rfl, D2, redM rm st, _, rfl, SqL.of (s9 _ _ (s8 _ _ h6')), by omega, cd, fun p2 H10 np2 s10 h10 => ?_⟩
              have s78 := s7.trans s8
              refine ⟨_, _, rfl, p1, p2, redStep rm st, _, _, _, _, _, _, _, _, _, rfl, (s78.trans s9).trans s10, s78.free np1, (s78.trans s9).free np2, erm'.symm, ?_, ?_⟩
              · rw [s10 _ _ h9]
                unfold redStep
                rw [if_neg e0]
                rfl
              · rw [h10]
                unfold redStep
                rw [if_neg e0]
                rfl
      · rintro σ H' ⟨r, m, rm, v5, v6, v7, v8, v9, v10, v11, v12, v13, rfl, s, nr, nm, erm, hr1, hm1⟩
        have el : vs.length = sts.length := Paired.length hp
        rw [el, List.take_length] at erm
        subst erm
        refine ⟨_, rfl, _, rfl, (show 2 ≤ sizeLine by decide), fun t nt => ?_⟩
        exact k t r m _ (s.trans (same_new nt)) upd_same nr nm (same_new nt _ _ hr1) (same_new nt _ _ hm1)
end
end Kx
set_option maxHeartbeats 4000000
namespace Kx
open PySem PySem.Spec PyProof.Rows L2 Xr
local macro_rules | `(tactic| walk_at "rd") => `(tactic| (repeat (first | apply Exists.intro | (refine And.intro rfl ?_) | (refine And.intro (SqL.of (by assumption)) ?_) | (refine And.intro (Or.inl (SqL.of (by assumption))) ?_) | (refine Or.inl ⟨_, rfl, ?_⟩) | (refine Or.inr ⟨_, rfl, ?_⟩) | (refine And.intro (by assumption) ?_) | (refine And.intro (Or.inl (by assumption)) ?_))))
theorem paired_getR {R : V → List Int → Prop} : ∀ {vs : List V} {sts : List (List Int)}, Paired R vs sts → ∀ (i : Nat) (x : V), vs[i]? = some x → ∃ st, sts[i]? = some st ∧ R x st
  | _, _, .nil, i, x, h => by cases h
  | _, _, .cons a b, 0, x, h => by cases h; exact ⟨_, rfl, a⟩
  | _, _, .cons a b, i + 1, x, h => paired_getR b i x h
section
variable {P : Program} {w : World} {K : PySem.W.Frag} {mg : Str → Option Value} {base : Heap}
theorem sc_Steps_take : FnScope ["self", "row", "index", "rest", "mix", "column", "number"] ["self", "row", "index"] (defScope (inClass (top 36) 2)) := ⟨rfl, rfl, rfl, by decide +kernel, rfl, by decide +kernel, by decide +kernel⟩
/-- what take tells -/
def TakeV (H H' : Hp) (o : Option (List Int)) (v : V) : Prop := match o with
  | none => v = .non
  | some mix => ∃ m, v = .ref m ∧ H m = none ∧ H' m = some (.lst (mix.map V.int))
def spTake (K : PySem.W.Frag) : Sp := fun vs H Q _ => ∃ (x S ra : Addr) (av : List Addr) (i w n : Nat) (sts : List Stair) (row : List Int), vs = [.ref x, .ref ra, .int i] ∧ StepsAt K H x S av w sts ∧ (∀ d ∈ av, H d ≠ none) ∧ H ra = some (.lst (row.map V.int)) ∧ StsOk n w i sts ∧ row.length = n ∧ Bd 3 row ∧ i < w ∧ w ≤ 1000 ∧ n ≤ 1000 ∧ sts.length ≤ 11 ∧
  ∀ v H', But S H H' → StepsAt K H' x S av w (takeF sts w row i).2 → TakeV H H' (takeF sts w row i).1 v → Q v H'
theorem ok_Steps_take (T : Txt P K mg) : OkF P w K mg base CX0 3 (He.ma K (He.ga K "Steps") "take") ["self", "row", "index"] (spTake K) := by
  have so := T.lis.st
  have G_reduced := ok_Steps_reduced (P := P) (w := w) (base := base) T
  obtain ⟨fd, F⟩ := T.F_Steps_take
  refine ⟨fd, F.ok sc_Steps_take (fun vs H Q E h => ?_) (fun cdv A outer s H vs Q E hr h => ?_), F.bindsN fun _ _ _ _ _ _ us hl => match us, hl with | [_, _, _], _ => rfl, F.kp⟩
  · obtain ⟨x, S, ra, av, i, w, n, sts, row, rfl, _⟩ := h
    rfl
  · obtain ⟨x, S, ra, av, i, w, n, sts, row, rfl, sa, hav, hra, so1, ln, bd, iw, w1, n1, s11, k⟩ := h
    obtain ⟨dx, hx⟩ := id sa.at_
    refine ⟨_, PSs.nox (pss_cons (ps_asg (pe_methF (pv 0) so.pl.cls (so.sm "reduced" (by decide)).meth G_reduced (hr.mono (by decide)) pass0 (pa_cons (pv 1) (pa_cons (pv 2) pa_nil))) (pg_tup rfl (pgs_cons (pg_name (i := 3) sc_Steps_take.nd rfl (.inl rfl)) (pgs_cons (pg_name (i := 4) sc_Steps_take.nd rfl (.inl rfl)) pgs_nil))))
    (pss_cons (ps_for PassesOwn.never rfl (pi_enum (by rfl) T.z_enumerate (pa_cons (pv 3) pa_nil)) (pg_tup rfl (pgs_cons (pg_name (i := 5) sc_Steps_take.nd rfl (.inl rfl)) (pgs_cons (pg_name (i := 6) sc_Steps_take.nd rfl (.inl rfl)) pgs_nil)))
      (pss_one (ps_if (pt_cmpR op_ne (pv 6) pe_int (nomark _))
      (pss_cons (ps_expr (pe_bm PySem.F.plainAttrs_list PySem.F.slot_list_append PySem.F.type_list_append mt_append (pe_fld (pv 0) rfl) (pa_cons (pe_tup (pa_cons (pv 5) (pa_cons (pv 3) (pa_cons (pv 4) pa_nil)))) pa_nil)))
    (pss_one (ps_ret pe_non)))
      pss_nil)))
    (pss_one (ps_ret (pv 4))))), ?_⟩
    refine ⟨_, rfl, x, dx, _, rfl, hx, rfl, _, rfl, _, rfl, x, S, ra, av, i, w, n, sts, row, rfl, sa, hra, so1, ln, bd, iw, w1, n1, s11, fun t r m H1 s1 ht nr nm hr1 hm1 => ?_⟩
    refine ⟨t, _, rfl, SqT.of ht, rfl, _, _, rfl, _, _, rfl, rfl, ?_⟩
    have ro := red_ok so1 ln bd iw
    refine ⟨_, rfl, r, _, rfl, SqL.of hr1, ?_⟩
    refine for_it walk_enum (fun j σ H' => ∃ v5 v6, σ = [some (.ref x), some (.ref ra), some (.int i), some (.ref r), some (.ref m), v5, v6] ∧ Same H1 H' ∧ ∀ q, q < j → (redF sts w row i).1.getD q 0 = 0) ⟨_, _, rfl, Same.refl H1, fun q hq => absurd hq (Nat.not_lt_zero q)⟩ (fun j σ H' _ h => by obtain ⟨_, _, _, s, _⟩ := h; exact SqL.of (s _ _ hr1)) ?_ ?_
    · rintro j v σ H2 H3 hj ⟨v5, v6, rfl, s2, hz⟩ ⟨q, a, b, rfl, nq, rfl, ea, eb⟩
      rw [List.length_map] at hj
      obtain rfl : V.int (j : Nat) = a := Option.some.inj ea
      dsimp only at eb
      rw [List.getElem?_map, List.getElem?_eq_getElem hj] at eb
      have eg : (redF sts w row i).1.getD j 0 = (redF sts w row i).1[j] := by
        rw [List.getD_eq_getElem?_getD, List.getElem?_eq_getElem hj]
        rfl
      have eb' : b = V.int ((redF sts w row i).1.getD j 0) := by rw [eg]; exact (Option.some.inj eb).symm
      subst eb'
      have s3 := s2.trans (same_new (o := .tup [.int (j : Nat), .int ((redF sts w row i).1.getD j 0)]) nq)
      refine ⟨q, _, rfl, SqT.of upd_same, rfl, _, _, rfl, _, _, rfl, rfl, ?_⟩
      refine ⟨_, rfl, rfl, _, rfl, ?_⟩
      by_cases e0 : (redF sts w row i).1.getD j 0 = 0
      · refine iteFa (by rw [e0]; simp) ⟨_, _, rfl, s3, fun q hq => ?_⟩
        rcases Nat.lt_succ_iff_lt_or_eq.mp hq with h | rfl
        · exact hz q h
        · exact e0
      · refine iteTr (ne_ok e0) ?_
        have s13 := s1.trans s3
        obtain ⟨vs, hS, hp⟩ := sa.vs
        have ef : (redF sts w row i).1.findIdx? (· ≠ 0) = some j := by
          rw [List.findIdx?_eq_some_iff_getElem]
          refine ⟨hj, by rw [← eg]; simpa using e0, fun q hq => ?_⟩
          have := hz q hq
          rw [List.getD_eq_getElem?_getD, List.getElem?_eq_getElem (by omega)] at this
          simpa using this
        have et : takeF sts w row i = (none, sts ++ [(j, (redF sts w row i).1, (redF sts w row i).2)]) := by
          unfold takeF
          rw [ef]
        rw [et] at k
        refine ⟨_, rfl, x, aSt K, dx, _, _, rfl, s13 _ _ hx, so.pl.cls, so.no _ (by decide), rfl, .inl ⟨rfl, _, SqL.of (s13 _ _ hS)⟩, _, rfl, _, rfl, _, rfl, (show 3 ≤ sizeLine by decide), fun z nz => ?_⟩
        have s4 := s13.trans (same_new (o := .tup [.int (j : Nat), .ref r, .ref m]) nz)
        have hS4 := s4 _ _ hS
        have ad : ∀ {y : Addr}, H y = none → y ∉ S :: av := fun {y} e z => by
          rcases List.mem_cons.mp z with rfl | z
          · rw [e] at hS; cases hS
          · exact hav y z e
        have nz' : z ≠ S := fun e => by rw [← e, s13.free nz] at hS; cases hS
        have nr' : r ≠ S := fun e => by rw [← e, nr] at hS; cases hS
        have nm' : m ≠ S := fun e => by rw [← e, nm] at hS; cases hS
        refine ⟨S, vs, _, rfl, rfl, hS4, by rw [Paired.length hp, sizeLine_eq]; omega, ?_⟩
        have b : But S H (upd (upd _ z (.tup [.int (j : Nat), .ref r, .ref m])) S (.lst (vs ++ [V.ref z]))) := (But.of s4).upd
        have sx : x ≠ S := fun e => by rw [← e, hx] at hS; cases hS
        refine k .non _ b ⟨⟨dx, (upd_ne sx).trans (s4 _ _ hx)⟩, ⟨_, upd_same, ?_⟩, sa.nx, sa.nS⟩ rfl
        refine Paired.snoc (Paired.mapP hp fun _ _ h => h.but (List.mem_cons_self ..) b) ⟨z, r, m, rfl, ad (s13.free nz), ad nr, ad nm, (upd_ne nz').trans upd_same, (upd_ne nr').trans (same_new nz _ _ (s3 _ _ hr1)), (upd_ne nm').trans (same_new nz _ _ (s3 _ _ hm1))⟩
    · rintro σ H' ⟨v5, v6, rfl, s2, hz⟩
      rw [List.length_map] at hz
      have ef : (redF sts w row i).1.findIdx? (· ≠ 0) = none := by
        rw [List.findIdx?_eq_none_iff]
        intro y hy
        obtain ⟨q, hq, rfl⟩ := List.mem_iff_getElem.mp hy
        have := hz q hq
        rw [List.getD_eq_getElem?_getD, List.getElem?_eq_getElem hq] at this
        simpa using this
      have et : takeF sts w row i = (some (redF sts w row i).2, sts) := by
        unfold takeF
        rw [ef]
      rw [et] at k
      have s12 := s1.trans s2
      exact ⟨_, rfl, k _ H' (But.of s12) (sa.same s12) ⟨m, rfl, nm, s2 _ _ hm1⟩⟩
theorem sc_independent_of : FnScope ["rows", "steps", "index", "row"] ["rows"] (defScope (top 37)) := ⟨rfl, rfl, rfl, by decide +kernel, rfl, by decide +kernel, by decide +kernel⟩
/-- a list of rows -/
def RowsAt (H : Hp) (R : Addr) (rows : List (List Int)) : Prop := ∃ vs, H R = some (.lst vs) ∧ Paired (fun v r => ∃ a, v = .ref a ∧ H a = some (.lst (r.map V.int))) vs rows
def spIndep (K : PySem.W.Frag) : Sp := fun vs H Q _ => ∃ (R : Addr) (rows : List (List Int)) (n : Nat), vs = [.ref R] ∧ RowsAt H R rows ∧ (∀ r ∈ rows, r.length = n ∧ Bd 3 r) ∧ rows.length ≤ 12 ∧ n ≤ 1000 ∧
  ∀ p H', H p = none → Same H H' → H' p = some (.lst ((indepF rows).map fun i => .int (i : Nat))) → Q (.ref p) H'
theorem ok_independent_of (T : Txt P K mg) : OkF P w K mg base CX0 4 (He.ga K "independent_of") ["rows"] (spIndep K) := by
  have so := T.lis.st
  have G_Steps := ok_Steps_init (P := P) (w := w) (base := base) T
  have G_take := ok_Steps_take (P := P) (w := w) (base := base) T
  obtain ⟨fd, F⟩ := T.F_independent_of
  refine ⟨fd, F.ok sc_independent_of (fun vs H Q E h => ?_) (fun cdv A outer s H vs Q E hr h => ?_), F.bindsN fun _ _ _ _ _ _ us hl => match us, hl with | [_], _ => rfl, F.kp⟩
  · obtain ⟨R, rows, n, rfl, _⟩ := h
    rfl
  · obtain ⟨R, rows, n, rfl, ⟨vs, hR, hp⟩, hok, l12, n1, k⟩ := h
    refine ⟨_, PSs.nox (pss_cons (ps_asg (pe_mkI T.lis.st.mks G_Steps (hr.mono (by decide)) (by rfl) T.g_Steps pass0 (pa_cons (pe_callB call_len_seq (by rfl) T.z_len (by decide +kernel) (pa_cons (pv 0) pa_nil)) pa_nil)) (pg_name (i := 1) sc_independent_of.nd rfl (.inr rfl)))
    (pss_one (ps_ret (pe_lc (own := [("index", 2), ("row", 3)]) (g := gTup K 2 (gCons (gName 2) (gCons (gName 3) gNil))) rfl sc_independent_of.nd (pi_enum (by rfl) T.z_enumerate (pa_cons (pv 0) pa_nil)) (blkOk_by (N := ["rows", "steps", "index", "row"]) (sc := defScope (top 37)) (by decide +kernel)) (fun _ _ _ _ _ => pg_tup rfl (pgs_cons (pg_name (i := 2) sc_independent_of.nd rfl (Or.inl rfl)) (pgs_cons (pg_name (i := 3) sc_independent_of.nd rfl (Or.inl rfl)) pgs_nil))) (fun _ _ _ _ _ => (pts_one (pt_cmpR op_isN (pe_methF (pv 1) so.pl.cls (so.sm "take" (by decide)).meth G_take (hr.mono (by decide)) pass0 (pa_cons (pv 3) (pa_cons (pv 2) pa_nil))) pe_non (nomark _)))) (fun _ _ _ _ _ => (pv 2)))))), ?_⟩
    have el : vs.length = rows.length := Paired.length hp
    refine ⟨_, rfl, R, _, rfl, .inl (SqL.of hR), fun x dx nx ndx ne => ?_⟩
    refine ⟨x, dx, vs.length, rfl, upd_same, fun S H1 nS b1 sa => ⟨rfl, ?_⟩⟩
    have s0 : Same H (upd (upd H dx (.own x)) x (.ins (aSt K) dx [])) := fun b o hb => by
      rw [upd_ne (ne_of_none hb nx), upd_ne (ne_of_none hb ndx)]
      exact hb
    have s1 : Same H H1 := fun b o hb => b1 b o (s0 b o hb) (ne_of_none hb nx)
    have nS' : H S = none := s0.free nS
    rw [el] at sa
    refine ⟨_, rfl, R, _, rfl, SqL.of (s1 _ _ hR), fun D hD => ?_⟩
    have nDS : D ≠ S := fun z => by
      obtain ⟨vs', hS, _⟩ := sa.vs
      rw [← z, hD] at hS
      cases hS
    refine lc_it walk_enum (fun j H' => Same H H' ∧ StepsAt K H' x S [D] rows.length (stsF rows.length rows j) ∧ H' D = some (.lst (((List.range j).filter fun i => (takeF (stsF rows.length rows i) rows.length (rows.getD i []) i).1.isNone).map fun i => V.int (i : Nat)))) ⟨s1.trans (same_new hD), (sa.av hD).put (List.mem_singleton.mpr rfl), upd_same⟩
      (fun j H' _ h => SqL.of (h.1 _ _ hR)) ?_ fun H' h => ?_
    · rintro j v H2 H3 hj ⟨s2, sa2, hD2⟩ ⟨q, a, b, rfl, nq, rfl, ea, eb⟩
      obtain rfl : V.int (j : Nat) = a := Option.some.inj ea
      obtain ⟨row, hrow, ra, rfl, hra⟩ := paired_getR hp j b eb
      have hj' : j < rows.length := by omega
      have egr : rows.getD j [] = row := by
        rw [List.getD_eq_getElem?_getD, hrow]
        rfl
      have sq := same_new (o := .tup [.int (j : Nat), .ref ra]) nq
      have s3 := s2.trans sq
      refine ⟨q, _, rfl, SqT.of upd_same, rfl, _, _, rfl, _, _, rfl, rfl, rfl, ?_⟩
      obtain ⟨so2, l2⟩ := stsF_ok hok (Nat.le_refl _) j (by omega)
      obtain ⟨ln, bd⟩ := hok row (List.mem_of_getElem? hrow)
      have sa3 := sa2.same sq
      obtain ⟨dx3, hx3⟩ := id sa3.at_
      refine ⟨_, rfl, x, dx3, _, rfl, hx3, rfl, _, rfl, _, rfl, x, S, ra, [D], j, rows.length, n, _, row, rfl, sa3, (fun d hd => by rw [List.mem_singleton.mp hd, sq _ _ hD2]; exact fun z => nomatch z), s3 _ _ hra, so2, ln, bd, hj', by omega, n1, by omega, fun v H4 b4 sa4 tv => ?_⟩
      have s4 : Same H H4 := fun b o hb => b4 b o (s3 b o hb) (ne_of_none hb nS')
      have hD4 := b4 _ _ (sq _ _ hD2) nDS
      have e5 : stsF rows.length rows (j + 1) = (takeF (stsF rows.length rows j) rows.length row j).2 := by
        show (takeF _ _ (rows.getD j []) _).2 = _
        rw [egr]
      have key : ∀ bb : Bool, (takeF (stsF rows.length rows j) rows.length row j).1.isNone = bb → (((List.range (j + 1)).filter fun i => (takeF (stsF rows.length rows i) rows.length (rows.getD i []) i).1.isNone).map fun i => V.int (i : Nat)) = (((List.range j).filter fun i => (takeF (stsF rows.length rows i) rows.length (rows.getD i []) i).1.isNone).map fun i => V.int (i : Nat)) ++ (if bb = true then [V.int (j : Nat)] else []) := fun bb hb => by
        rw [List.range_succ, List.filter_append, List.map_append, List.filter_cons, egr, hb]
        cases bb <;> rfl
      cases et : (takeF (stsF rows.length rows j) rows.length row j).1 with
      | none =>
        rw [et] at tv
        obtain rfl : v = .non := tv
        refine ⟨rfl, _, rfl, iteTr rfl ⟨_, rfl, _, hD4, ?_, same_upd (s1.free hD) s4, by rw [e5]; exact sa4.put (List.mem_singleton.mpr rfl), ?_⟩⟩
        · rw [List.length_map, sizeLine_eq]
          have z := List.length_filter_le (fun i => (takeF (stsF rows.length rows i) rows.length (rows.getD i []) i).1.isNone) (List.range j)
          rw [List.length_range] at z
          omega
        · rw [upd_same, key true (by rw [et]; rfl), if_pos rfl]
      | some mix =>
        rw [et] at tv
        obtain ⟨m, rfl, _, _⟩ := tv
        refine ⟨rfl, _, rfl, iteFa rfl ⟨s4, by rw [e5]; exact sa4, ?_⟩⟩
        rw [key false (by rw [et]; rfl), if_neg (by decide), List.append_nil]
        exact hD4
    · obtain ⟨s, _, hl⟩ := h
      rw [el] at hl
      exact k D H' (s1.free hD) s hl
end
end Kx
set_option maxHeartbeats 4000000
namespace Kx
open PySem PySem.Spec PyProof.Rows L2 Xr
local macro_rules | `(tactic| walk_at "rd") => `(tactic| (repeat (first | apply Exists.intro | (refine And.intro rfl ?_) | (refine And.intro (SqL.of (by assumption)) ?_) | (refine And.intro (Or.inl (SqL.of (by assumption))) ?_) | (refine Or.inl ⟨_, rfl, ?_⟩) | (refine Or.inr ⟨_, rfl, ?_⟩) | (refine And.intro (by assumption) ?_) | (refine And.intro (Or.inl (by assumption)) ?_))))
/-! ### sets of names as dicts -/
def addAll (l m : List Str) : List Str := m.foldl (fun l x => if x ∈ l then l else l ++ [x]) l
def setD (l : List Str) : List (Key × V) := l.map fun x => (.inr x, .bl true)
theorem valV_set {l : List Str} {x : Str} : valV (setD l) (.inr x) = if x ∈ l then some (.bl true) else none := by
  unfold valV setD
  induction l with
  | nil => rfl
  | cons y r ih =>
    rw [List.map_cons, List.find?_cons]
    by_cases h : y = x
    · subst h
      simp
    · have h2 : ¬ (Sum.inr y : Key) = Sum.inr x := fun z => h (Sum.inr.inj z)
      have h3 : x ≠ y := fun z => h z.symm
      simp only [h2, decide_false, List.mem_cons, h3, false_or]
      exact ih
theorem putK_set {l : List Str} {x : Str} : putK (setD l) (.inr x) (.bl true) = setD (if x ∈ l then l else l ++ [x]) := by
  by_cases h : x ∈ l
  · rw [if_pos h]
    unfold putK
    rw [if_pos]
    · unfold setD
      rw [List.map_map]
      refine List.map_congr_left fun y _ => ?_
      show (if (Sum.inr y : Key) = Sum.inr x then ((Sum.inr y : Key), V.bl true) else (Sum.inr y, V.bl true)) = _
      split <;> rfl
    · refine List.any_eq_true.mpr ⟨(.inr x, .bl true), List.mem_map.mpr ⟨x, h, rfl⟩, by simp⟩
  · rw [if_neg h, putK_new]
    · unfold setD
      rw [List.map_append]
      rfl
    · rw [valV_set, if_neg h]
theorem merge_set : ∀ (b a : List Str), mergeK (setD a) (setD b) = setD (addAll a b)
  | [], _ => rfl
  | x :: r, a => by
    show mergeK (putK (setD a) (.inr x) (.bl true)) (setD r) = _
    rw [putK_set, merge_set r]
    rfl
theorem addAll_length : ∀ (b a : List Str), (addAll a b).length ≤ a.length + b.length
  | [], _ => Nat.le_refl _
  | x :: r, a => by
    have z := addAll_length r (if x ∈ a then a else a ++ [x])
    show (addAll (if x ∈ a then a else a ++ [x]) r).length ≤ _
    have : (if x ∈ a then a else a ++ [x]).length ≤ a.length + 1 := by split <;> simp
    rw [List.length_cons]
    omega
theorem addAll_mem : ∀ (b a : List Str) (x : Str), x ∈ addAll a b ↔ x ∈ a ∨ x ∈ b
  | [], a, x => by simp [addAll]
  | y :: r, a, x => by
    show x ∈ addAll (if y ∈ a then a else a ++ [y]) r ↔ _
    rw [addAll_mem r, List.mem_cons]
    by_cases h : y ∈ a
    · rw [if_pos h]
      constructor
      · rintro (h | h)
        · exact .inl h
        · exact .inr (.inr h)
      · rintro (h | h | h)
        · exact .inl h
        · exact .inl (h ▸ ‹y ∈ a›)
        · exact .inr h
    · rw [if_neg h, List.mem_append, List.mem_singleton, or_assoc]
theorem addAll_nd : ∀ (b a : List Str), a.Nodup → (addAll a b).Nodup
  | [], _, h => h
  | y :: r, a, h => by
    refine addAll_nd r _ ?_
    show (if y ∈ a then a else a ++ [y]).Nodup
    by_cases e : y ∈ a
    · rw [if_pos e]
      exact h
    · rw [if_neg e]
      exact List.nodup_append.mpr ⟨h, List.nodup_cons.mpr ⟨List.not_mem_nil, List.nodup_nil⟩, fun x hx z hz => fun q => e (by rw [← List.mem_singleton.mp hz, ← q]; exact hx)⟩
theorem leS_total (a b : Str) : leS a b ∨ leS b a := by
  rw [leS_iff, leS_iff]
  exact List.le_total _ _
instance (a b : Str) : Decidable (leS a b) := by unfold leS; infer_instance
def sortS (l : List Str) : List Str := l.mergeSort fun a b => decide (leS a b)
theorem sort_perm (l : List Str) : (sortS l).Perm l := List.mergeSort_perm ..
theorem sort_up (l : List Str) : (sortS l).Pairwise leS := by
  have z := List.pairwise_mergeSort (le := fun a b : Str => decide (leS a b)) (fun a b c h1 h2 => decide_eq_true (leS_trans (of_decide_eq_true h1) (of_decide_eq_true h2)))
    (fun a b => by rcases leS_total a b with h | h <;> simp [h]) l
  exact z.imp fun h => of_decide_eq_true h
theorem sort_eq {ys l : List Str} (h : ys.Perm l) (u : ys.Pairwise leS) : ys = sortS l :=
  List.Perm.eq_of_pairwise (le := leS) (fun a b _ _ h1 h2 => leS_antisymm h1 h2) u (sort_up l) (h.trans (sort_perm l).symm)
/-- the months of some legs -/
def monU (ms : List Tab) : List Str := ms.foldl (fun l m => addAll l (ks m)) []
def monthsF (ms : List Tab) : List Str := sortS (monU ms)
def rowsF (ms : List Tab) : List (List Int) := ms.map fun m => (monthsF ms).map (val m)
theorem monU_take {ms : List Tab} {i : Nat} {m : Tab} (h : ms[i]? = some m) : monU (ms.take (i + 1)) = addAll (monU (ms.take i)) (ks m) := by
  unfold monU
  rw [List.take_add_one, h, List.foldl_append]
  rfl
theorem monU_len {ms : List Tab} (h : ∀ m ∈ ms, m.length < 64) : ∀ i, i ≤ ms.length → (monU (ms.take i)).length ≤ 64 * i
  | 0, _ => Nat.zero_le _
  | i + 1, hi => by
    have z := monU_len h i (by omega)
    have e : ms[i]? = some ms[i] := List.getElem?_eq_getElem (by omega)
    rw [monU_take e]
    have := addAll_length (ks ms[i]) (monU (ms.take i))
    have l : (ks ms[i]).length < 64 := by unfold ks; rw [List.length_map]; exact h _ (List.getElem_mem ..)
    omega
theorem paired_getT {R : V → Tab → Prop} : ∀ {vs : List V} {sts : List Tab}, Paired R vs sts → ∀ (i : Nat) (x : V), vs[i]? = some x → ∃ st, sts[i]? = some st ∧ R x st
  | _, _, .nil, i, x, h => by cases h
  | _, _, .cons a b, 0, x, h => by cases h; exact ⟨_, rfl, a⟩
  | _, _, .cons a b, i + 1, x, h => paired_getT b i x h
section
variable {P : Program} {w : World} {K : PySem.W.Frag} {mg : Str → Option Value} {base : Heap}
/-- legs of any of their classes -/
def LegA (K : PySem.W.Frag) (H : Hp) (a : Addr) (m : Tab) : Prop := ∃ C, CL K C ∧ LegsAt H C a m
theorem LegA.same {H H' : Hp} {a : Addr} {m : Tab} (h : LegA K H a m) (s : Same H H') : LegA K H' a m := by
  obtain ⟨C, c, l⟩ := h
  exact ⟨C, c, l.same s⟩
theorem LegA.len {H : Hp} {a : Addr} {m : Tab} (h : LegA K H a m) : m.length < 64 := by
  obtain ⟨C, c, l⟩ := h
  exact l.len
/-- a list of legs -/
structure LegsL (K : PySem.W.Frag) (H : Hp) (R : Addr) (ms : List Tab) : Prop where
  at_ : ∃ vs, H R = some (.lst vs) ∧ Paired (fun v m => ∃ a, v = .ref a ∧ LegA K H a m) vs ms
theorem LegsL.same {H H' : Hp} {R : Addr} {ms : List Tab} (h : LegsL K H R ms) (s : Same H H') : LegsL K H' R ms := by
  obtain ⟨vs, h1, h2⟩ := h.at_
  exact ⟨vs, s _ _ h1, Paired.mapP h2 fun _ _ ⟨a, e, l⟩ => ⟨a, e, l.same s⟩⟩
theorem sc_months_of : FnScope ["many", "found", "legs", "month"] ["many"] (defScope (top 39)) := ⟨rfl, rfl, rfl, by decide +kernel, rfl, by decide +kernel, by decide +kernel⟩
def spMonthsOf (K : PySem.W.Frag) : Sp := fun vs H Q _ => ∃ (R : Addr) (ms : List Tab), vs = [.ref R] ∧ LegsL K H R ms ∧ ms.length ≤ 100 ∧ (monU ms).length < 64 ∧ ∀ p H', H p = none → Same H H' → H' p = some (.lst ((monthsF ms).map V.str)) → Q (.ref p) H'
theorem ok_months_of (T : Txt P K mg) : OkF P w K mg base CX0 1 (He.ga K "months_of") ["many"] (spMonthsOf K) := by
  have c := T.leg.cT
  obtain ⟨fd, F⟩ := T.F_months_of
  refine ⟨fd, F.ok sc_months_of (fun vs H Q E h => ?_) (fun cdv A outer s H vs Q E hr h => ?_), F.bindsN fun _ _ _ _ _ _ us hl => match us, hl with | [_], _ => rfl, F.kp⟩
  · obtain ⟨R, ms, rfl, _⟩ := h
    rfl
  · obtain ⟨R, ms, rfl, lr, l100, l64, k⟩ := h
    have hu := hu_of hr
    obtain ⟨vs, hR, hp⟩ := lr.at_
    have hlen : ∀ m ∈ ms, m.length < 64 := fun m hm => by
      obtain ⟨i, hi⟩ := List.mem_iff_getElem?.mp hm
      have hv : i < vs.length := by
        rw [Paired.length hp]
        rcases Nat.lt_or_ge i ms.length with h | h
        · exact h
        · rw [List.getElem?_eq_none h] at hi; cases hi
      obtain ⟨m', h1, a, _, l⟩ := paired_getT hp i vs[i] (List.getElem?_eq_getElem hv)
      rw [hi] at h1
      cases h1
      exact l.len
    refine ⟨_, PSs.nox (pss_cons (ps_asg pe_dnewK (pg_name (i := 1) sc_months_of.nd rfl (.inl rfl)))
    (pss_cons (ps_for PassesOwn.never rfl (pi_list (pv 0)) (pg_name (i := 2) sc_months_of.nd rfl (.inl rfl))
      (pss_one (ps_expr (pe_bm PySem.F.plainAttrs_dict PySem.F.slot_dict_update PySem.F.type_dict_update mt_dupd (pv 1) (pa_cons (pe_lock (pe_dc (own := [("month", 3)]) (g := gName 3) (tt := tYes) rfl sc_months_of.nd (pi_keys (pe_fld (pv 2) rfl)) (blkOk_by (N := ["many", "found", "legs", "month"]) (sc := defScope (top 39)) (by decide +kernel)) (fun _ _ _ _ _ => pg_name (i := 3) sc_months_of.nd rfl (Or.inl rfl)) (fun _ _ _ _ _ => pts_nil) (fun _ _ _ _ _ => (pv 3)) (fun _ _ _ _ _ => pe_bl))) pa_nil)))))
    (pss_one (ps_ret (pe_callB (call_sortedD rfl) (by rfl) T.z_sorted (by decide +kernel) (pa_cons (pv 1) pa_nil)))))), ?_⟩
    refine fun d nd => ?_
    have nR : R ≠ d := ne_of_none hR nd
    have lg : ∀ {H' : Hp} {i : Nat} {v : V}, But d H H' → vs[i]? = some v → ∃ m a C, ms[i]? = some m ∧ v = .ref a ∧ CL K C ∧ LegsAt H' C a m := fun b hv => by
      obtain ⟨m, hm, a, rfl, C, c, l⟩ := paired_getT hp _ _ hv
      obtain ⟨dx, t, h1, h2⟩ := l.at_
      exact ⟨m, a, C, hm, rfl, c, ⟨⟨dx, t, b _ _ h1 (ne_of_none h1 nd), b _ _ h2 (ne_of_none h2 nd)⟩, l.can, l.len⟩⟩
    refine ⟨_, rfl, R, rfl, ⟨_, SqL.of ((upd_ne nR).trans hR)⟩, ?_⟩
    refine forP (yl_list (xs := vs)) (fun i σ H' => ∃ v2 v3, σ = [some (.ref R), some (.ref d), v2, v3] ∧ But d H H' ∧ H' d = some (.dK (setD (monU (ms.take i))))) ⟨_, _, rfl, But.refl.upd, upd_same⟩ (fun i σ H' _ h => by obtain ⟨_, _, _, b, _⟩ := h; exact SqL.of (b _ _ hR nR)) ?_ ?_
    · rintro i v σ H' hv ⟨v2, v3, rfl, b, hd⟩
      obtain ⟨m, a, C, hm, rfl, c, l⟩ := lg b hv
      obtain ⟨dx, t, h1, h2⟩ := l.at_
      have il : i < ms.length := by
        rcases Nat.lt_or_ge i ms.length with h | h
        · exact h
        · rw [List.getElem?_eq_none h] at hm; cases hm
      refine ⟨_, rfl, .inr (.inr (.inl ⟨rfl, .inl ⟨_, hd⟩⟩)), t, _, h2, trivial, fun od => ?_⟩
      have ha1 : upd H' t (.frz od (.dK (tabK m))) a = some (.ins C dx [("by_month", .ref t)]) := (upd_ne fun z => by rw [z, h2] at h1; cases h1).trans h1
      refine ⟨_, rfl, a, C, dx, _, _, rfl, ha1, c.pl.cls, c.no, rfl, t, od, rfl, .inl ⟨_, upd_same, fun D hD => ?_⟩⟩
      have nDt : D ≠ t := fun z => by rw [z, upd_same] at hD; cases hD
      refine dcF yl_keys (fun _ => true) (fun v => .inr (strOf v)) (fun _ => .bl true) hD (by rw [List.length_map]; unfold tabK; rw [List.length_map]; have := l.len; omega) ?_ (fun H' s => s _ _ upd_same) (fun _ => rfl)
        (fun v H' hm s Qb q => q H' (Same.refl H')) (fun v H' hm _ s Q2 q => ?_) (fun v H' hm _ s Q2 q => q H' (Same.refl H')) fun H2 s2 hl2 => ?_
      · rw [List.filter_eq_self.mpr fun _ _ => rfl, List.map_map]
        have e : ((fun v => (Sum.inr (strOf v) : Key)) ∘ fun p : Key × V => kV p.1) = fun p => Sum.inr (strOf (kV p.1)) := rfl
        have e2 : (tabK m).map ((fun v => (Sum.inr (strOf v) : Key)) ∘ fun p : Key × V => kV p.1) = (ks m).map Sum.inr := by
          unfold tabK ks
          rw [List.map_map, List.map_map]
          rfl
        rw [e2]
        exact List.Pairwise.map _ (fun a b hab z => hab (Sum.inr.inj z)) l.can.nd
      · obtain ⟨p, hp, rfl⟩ := List.mem_map.mp hm
        obtain ⟨p', hp', rfl⟩ := List.mem_map.mp hp
        exact ⟨_, rfl, q H' (Same.refl H')⟩
      · refine ⟨s2 _ _ upd_same, ?_⟩
        have s3 := same_lock h2 s2
        have e : (List.map (fun v => ((Sum.inr (strOf v) : Key), V.bl true)) (List.filter (fun _ => true) (List.map (fun p => kV p.1) (tabK m)))) = setD (ks m) := by
          unfold tabK ks setD
          rw [List.filter_eq_self.mpr fun _ _ => rfl, List.map_map, List.map_map, List.map_map]
          rfl
        rw [e] at hl2
        have hD3 : upd H2 t (.dK (tabK m)) D = some (.dK (setD (ks m))) := (upd_ne nDt).trans hl2
        have hd3 := s3 _ _ hd
        have nDd : D ≠ d := fun z => by
          subst z
          have : upd H' t (.frz od (.dK (tabK m))) D = some (.dK (setD (monU (ms.take i)))) := (upd_ne nDt).trans hd
          rw [hD] at this
          cases this
        generalize upd H2 t (.dK (tabK m)) = H3 at s3 hD3 hd3
        have z1 := monU_len hlen i (by omega)
        have z2 : (ks m).length < 64 := by unfold ks; rw [List.length_map]; exact l.len
        refine ⟨d, D, _, _, rfl, rfl, Ne.symm nDd, hd3, hD3, by unfold setD; rw [List.length_map, List.length_map, sizeLine_eq]; omega, ?_⟩
        refine ⟨_, _, rfl, (b.trans (But.of s3)).upd, ?_⟩
        rw [upd_same, merge_set, monU_take hm]
    · rintro σ H' ⟨v2, v3, rfl, b, hd⟩
      rw [Paired.length hp, List.take_length] at hd
      refine ⟨_, rfl, d, _, monU ms, rfl, .inl hd, by unfold setD; rw [List.map_map]; rfl, l64, fun ys l hp2 hs nl => ?_⟩
      have e : ys = monthsF ms := sort_eq hp2 (pairwise_sorted hs)
      subst e
      have nl' : H l = none := by
        cases z : H l with
        | none => rfl
        | some o =>
          have hl : l ≠ d := fun z => by rw [z, hd] at nl; cases nl
          rw [b _ _ z (ne_of_none z nd)] at nl
          cases nl
      exact k l _ nl' (fun y o hy => (upd_ne (ne_of_none hy nl')).trans (b _ _ hy (ne_of_none hy nd))) upd_same
/-- the scope of a returned comprehension -/
def retScope : Stmt → Scope
  | .Return (some (.ListComp _ _ sc _)) _ => sc
  | _ => defScope (top 0)
/-- the scope of a comprehension within a def: names that are cells there -/
def relS (sc d : Scope) : Scope := { sc with names := sc.names.map fun (n, k) => if (k == .free && d.kind == .function && d.names.lookup n == some .cell) then (n, .cell) else (n, k) }
theorem sc_vectors_of : FnScope ["many", "months", "legs", "month"] ["many"] (defScope (top 40)) := ⟨rfl, rfl, rfl, by decide +kernel, rfl, by decide +kernel, by decide +kernel⟩
def spVectorsOf (K : PySem.W.Frag) : Sp := fun vs H Q _ => ∃ (R : Addr) (ms : List Tab), vs = [.ref R] ∧ LegsL K H R ms ∧ ms.length ≤ 100 ∧ (monU ms).length < 64 ∧ ∀ p H', H p = none → Same H H' → RowsAt H' p (rowsF ms) → Q (.ref p) H'
theorem ok_vectors_of (T : Txt P K mg) : OkF P w K mg base CX0 2 (He.ga K "vectors_of") ["many"] (spVectorsOf K) := by
  have c := T.leg.cT
  have G_months_of := ok_months_of (P := P) (w := w) (base := base) T
  obtain ⟨fd, F⟩ := T.F_vectors_of
  refine ⟨fd, F.ok sc_vectors_of (fun vs H Q E h => ?_) (fun cdv A outer s H vs Q E hr h => ?_), F.bindsN fun _ _ _ _ _ _ us hl => match us, hl with | [_], _ => rfl, F.kp⟩
  · obtain ⟨R, ms, rfl, _⟩ := h
    rfl
  · obtain ⟨R, ms, rfl, lr, l100, l64, k⟩ := h
    have hu := hu_of hr
    refine ⟨_, PSs.nox (pss_cons (ps_asg (pe_f G_months_of (hr.mono (by decide)) (by rfl) T.g_months_of pass0 (pa_cons (pv 0) pa_nil)) (pg_name (i := 1) sc_vectors_of.nd rfl (.inr rfl)))
    (pss_one (ps_ret (pe_lc (own := [("legs", 2)]) (g := gName 2) (tt := tYes) (te := tLc (iList K (tVar 1)) (gName 3) tYes (tDGet2 (tFld K (tVar 2) "by_month") (tVar 3) (tC (.int 0))) [3]) rfl sc_vectors_of.nd (pi_list (pv 0)) (blkOk_by (N := ["many", "months", "legs", "month"]) (sc := defScope (top 40)) (by decide +kernel)) (fun _ _ _ _ _ => pg_name (i := 2) sc_vectors_of.nd rfl (Or.inr rfl)) (fun _ _ _ _ _ => pts_nil) (fun _ _ _ _ _ => (pe_lc (own := [("month", 3)]) (g := gName 3) (tt := tYes) rfl sc_vectors_of.nd (pi_list (pv 1)) (blkOk_by (N := ["many", "months", "legs", "month"]) (sc := relS (retScope ((defBody (top 40)).getD 1 (.Pass ⟨0, 0, 0, 0⟩))) (defScope (top 40))) (by decide +kernel)) (fun _ _ _ _ _ => pg_name (i := 3) sc_vectors_of.nd rfl (Or.inl rfl)) (fun _ _ _ _ _ => pts_nil) (fun _ _ _ _ _ => (pe_dget2 hu (pe_fldK K (pv 2) rfl) (pv 3) pe_int ⟨rfl, rfl, rfl, rfl⟩)))))))), ?_⟩
    refine ⟨_, rfl, R, ms, rfl, lr, l100, l64, fun M H1 nM s1 hM => ?_⟩
    obtain ⟨vs, hR, hp⟩ := (lr.same s1).at_
    refine ⟨_, rfl, R, rfl, ⟨_, SqL.of hR⟩, fun D hD => ?_⟩
    refine lcG (yl_list (xs := vs)) (fun i H' => Same H1 H' ∧ ∃ ys, H' D = some (.lst ys) ∧ Paired (fun v r => ∃ a, v = .ref a ∧ a ≠ D ∧ H' a = some (.lst (r.map V.int))) ys ((rowsF ms).take i)) ⟨same_new hD, [], upd_same, .nil⟩ (fun i H' _ h => SqL.of (h.1 _ _ hR)) ?_ fun H' h => ?_
    · rintro i v H' hv ⟨s2, ys, hl, hy⟩
      obtain ⟨m, hm, a, rfl, C, c, l⟩ := paired_getT hp i v hv
      have l2 := l.same s2
      obtain ⟨dx, t, h1, h2⟩ := l2.at_
      refine ⟨rfl, ?_⟩
      unfold tYes
      dsimp only
      rw [if_pos rfl]
      refine ⟨_, rfl, M, rfl, ⟨_, SqL.of (s2 _ _ hM)⟩, fun D2 hD2 => ?_⟩
      have l64' : (monthsF ms).length < 64 := by unfold monthsF; rw [(sort_perm _).length_eq]; exact l64
      refine lcF (te := tDGet2 (tFld K (tVar 2) "by_month") (tVar 3) (tC (.int 0))) (σ := [some (.ref R), some (.ref M), some (.ref a), none]) (tt := tYes) (k := 3) (vs := [3]) (yl_list (K := K) (xs := (monthsF ms).map V.str)) (fun _ => true) (fun v => .int (val m (strOf v))) hD2 (by rw [List.length_map]; omega) (fun H' s => SqL.of (s _ _ (s2 _ _ hM))) ?_ (fun v H' _ _ Qb q => q H' (Same.refl H')) (fun v H' hm' _ s3 Q2 q => ?_) fun H3 s3 hl3 => ?_
      · exact fun _ => rfl
      · obtain ⟨x, _, rfl⟩ := List.mem_map.mp hm'
        refine ⟨_, rfl, a, C, dx, _, _, rfl, s3 _ _ h1, c.pl.cls, c.no, rfl, t, rfl, .inl ⟨_, .inl (s3 _ _ h2)⟩, _, rfl, _, .inl ⟨_, .inr x, .inl (s3 _ _ h2), rfl, rfl⟩, ?_⟩
        rw [valV_getD]
        exact q H' (Same.refl H')
      · have e : (List.map (fun v => V.int (val m (strOf v))) (List.filter (fun _ => true) ((monthsF ms).map V.str))) = ((monthsF ms).map (val m)).map V.int := by
          rw [List.filter_eq_self.mpr fun _ _ => rfl, List.map_map, List.map_map]
          rfl
        rw [e] at hl3
        have hD3 := s3 _ _ hl
        have nD2 : D2 ≠ D := fun z => by rw [z, hl] at hD2; cases hD2
        have il : i < ms.length := by
          rcases Nat.lt_or_ge i ms.length with h | h
          · exact h
          · rw [List.getElem?_eq_none h] at hm; cases hm
        have er : (rowsF ms).take (i + 1) = (rowsF ms).take i ++ [(monthsF ms).map (val m)] := by
          unfold rowsF
          rw [List.take_add_one, List.getElem?_map, hm]
          rfl
        have ly : ys.length ≤ 100 := by
          rw [Paired.length hy, List.length_take]
          omega
        refine ⟨_, hD3, by rw [sizeLine_eq]; omega, same_upd hD (s2.trans s3), _, upd_same, ?_⟩
        rw [er]
        refine Paired.snoc (Paired.mapP hy fun _ _ ⟨a, e, n, h⟩ => ⟨a, e, n, (upd_ne n).trans (s3 _ _ h)⟩) ⟨D2, rfl, nD2, (upd_ne nD2).trans hl3⟩
    · obtain ⟨s, ys, hl, hy⟩ := h
      have el : vs.length = (rowsF ms).length := by
        unfold rowsF
        rw [Paired.length hp, List.length_map]
      rw [el, List.take_length] at hy
      exact k D H' (s1.free hD) (s1.trans s) ⟨ys, hl, Paired.mapP hy fun _ _ ⟨a, e, _, h⟩ => ⟨a, e, h⟩⟩
end
end Kx
set_option maxHeartbeats 4000000
namespace Kx
open PySem PySem.Spec PyProof.Rows L2 Xr
local macro_rules | `(tactic| walk_at "rd") => `(tactic| (repeat (first | apply Exists.intro | (refine And.intro rfl ?_) | (refine And.intro (SqL.of (by assumption)) ?_) | (refine And.intro (Or.inl (SqL.of (by assumption))) ?_) | (refine Or.inl ⟨_, rfl, ?_⟩) | (refine Or.inr ⟨_, rfl, ?_⟩) | (refine And.intro (by assumption) ?_) | (refine And.intro (Or.inl (by assumption)) ?_))))
/-! ### why values are no listing -/
abbrev SP := Str × Tab
def dupGo : List Str → List Str → Option Str
  | _, [] => none
  | k, n :: r => if n ∈ k then some n else dupGo (k ++ [n]) r
def monGo : List Str → List SP → Option Str
  | _, [] => none
  | l, (n, m) :: r => if 6 < (addAll l (ks m)).length then some n else monGo (addAll l (ks m)) r
def reason2 (ps : List SP) : Option (Str × Option Str) :=
  if 12 < ps.length then some ("many", none) else
  match dupGo [] (ps.map (·.1)) with
  | some n => some ("name", some n)
  | none => match monGo [] ps with
    | some n => some ("months", some n)
    | none => none
def reasonF (os : List (Option SP)) : Option (Str × Option Str) := if (os.all (·.isSome)) = false then some ("strategy", none) else reason2 (os.filterMap id)
theorem drop_at {α : Type} {l : List α} {i : Nat} {x : α} (h : l[i]? = some x) : l.drop i = x :: l.drop (i + 1) := by
  obtain ⟨hi, e⟩ := List.getElem?_eq_some_iff.mp h
  rw [List.drop_eq_getElem_cons hi, e]
theorem dupGo_cons {k r : List Str} {n : Str} : dupGo k (n :: r) = if n ∈ k then some n else dupGo (k ++ [n]) r := rfl
theorem monGo_cons {l : List Str} {r : List SP} {q : SP} : monGo l (q :: r) = if 6 < (addAll l (ks q.2)).length then some q.1 else monGo (addAll l (ks q.2)) r := rfl
theorem dup_take {ns : List Str} : ∀ i, i ≤ ns.length → (∀ j n, j < i → ns[j]? = some n → n ∉ ns.take j) → dupGo [] ns = dupGo (ns.take i) (ns.drop i)
  | 0, _, _ => rfl
  | i + 1, h, g => by
    rw [dup_take i (by omega) fun j n hj => g j n (by omega)]
    have e : ns[i]? = some ns[i] := List.getElem?_eq_getElem (by omega)
    rw [drop_at e, List.take_add_one, e, dupGo_cons, if_neg (g i _ (by omega) e)]
    rfl
def monT (ps : List SP) : List Str := monU (ps.map (·.2))
theorem monT_succ {ps : List SP} {i : Nat} {q : SP} (e : ps[i]? = some q) : monT (ps.take (i + 1)) = addAll (monT (ps.take i)) (ks q.2) := by
  unfold monT monU
  rw [List.take_add_one, e, List.map_append, List.foldl_append]
  rfl
theorem mon_take {ps : List SP} : ∀ i, i ≤ ps.length → (∀ j, j < i → (monT (ps.take (j + 1))).length ≤ 6) → monGo [] ps = monGo (monT (ps.take i)) (ps.drop i)
  | 0, _, _ => rfl
  | i + 1, h, g => by
    rw [mon_take i (by omega) fun j hj => g j (by omega)]
    have e : ps[i]? = some ps[i] := List.getElem?_eq_getElem (by omega)
    have g6 := g i (by omega)
    rw [monT_succ e] at g6 ⊢
    rw [drop_at e, monGo_cons, if_neg (by omega)]
theorem some_map (ps : List SP) : (ps.map some).filterMap id = ps ∧ ((ps.map some).all (·.isSome)) = true := by
  refine ⟨?_, ?_⟩
  · rw [List.filterMap_map]
    show List.filterMap (fun x => some x) ps = ps
    rw [List.filterMap_some]
  · rw [List.all_eq_true]
    intro o ho
    obtain ⟨p, _, rfl⟩ := List.mem_map.mp ho
    rfl
theorem all_some {os : List (Option SP)} (h : (os.all (·.isSome)) = true) : os = (os.filterMap id).map some := by
  induction os with
  | nil => rfl
  | cons o r ih =>
    rw [List.all_cons] at h
    obtain ⟨h1, h2⟩ := He.ba h
    cases o with
    | none => cases h1
    | some p =>
      show some p :: r = some p :: (r.filterMap id).map some
      rw [← ih h2]
section
variable {P : Program} {w : World} {K : PySem.W.Frag} {mg : Str → Option Value} {base : Heap}
/-- a strategy with legs of any of their classes -/
def StgA (K : PySem.W.Frag) (H : Hp) (a : Addr) (n : Str) (m : Tab) : Prop := ∃ C, CL K C ∧ StgAt K H C a n m
theorem StgA.same {H H' : Hp} {a : Addr} {n : Str} {m : Tab} (g : StgA K H a n m) (s : Same H H') : StgA K H' a n m := by
  obtain ⟨C, c, g⟩ := g
  exact ⟨C, c, g.same s⟩
/-- a value that is a strategy, or none -/
def StgV (K : PySem.W.Frag) (H : Hp) (v : V) (o : Option SP) : Prop := match o with
  | some p => ∃ a, v = .ref a ∧ StgA K H a p.1 p.2 ∧ stgOk p.2 = true
  | none => ∃ t, TyX K H v t ∧ PySem.W.kitOne K t (.ref (aS K)) = some false
theorem StgV.same {H H' : Hp} {v : V} {o : Option SP} (h : StgV K H v o) (s : Same H H') : StgV K H' v o := by
  cases o with
  | some p =>
    obtain ⟨a, e, g, k⟩ := h
    exact ⟨a, e, g.same s, k⟩
  | none =>
    obtain ⟨t, ty, e⟩ := h
    exact ⟨t, tyX_same ty s, e⟩
theorem paired_getO {R : V → Option SP → Prop} : ∀ {vs : List V} {sts : List (Option SP)}, Paired R vs sts → ∀ (i : Nat) (x : V), vs[i]? = some x → ∃ st, sts[i]? = some st ∧ R x st
  | _, _, .nil, i, x, h => by cases h
  | _, _, .cons a b, 0, x, h => by cases h; exact ⟨_, rfl, a⟩
  | _, _, .cons a b, i + 1, x, h => paired_getO b i x h
def nmV : Option Str → V
  | none => .non
  | some n => .str n
/-- a listing's fault -/
def FltL (K : PySem.W.Frag) (r : Str) (n : Option Str) (H : Hp) (E : XK) : Prop := ∀ d H', Same H H' → H d = none → H' d = some (.xd [("reason", .str r), ("name", nmV n)]) → E (.ref (He.ga K "InvalidList")) (some d) H'
theorem FltL.same {r : Str} {n : Option Str} {H H1 : Hp} {E : XK} (f : FltL K r n H E) (s : Same H H1) : FltL K r n H1 E := fun d H' s' n h => f d H' (s.trans s') (s.free n) h
theorem FltL.new {r : Str} {n : Option Str} {H : Hp} {E : XK} (f : FltL K r n H E) : ∀ d, H d = none → E (.ref (He.ga K "InvalidList")) (some d) (upd H d (.xd [("reason", .str r), ("name", nmV n)])) := fun d n => f d _ (same_new n) n upd_same
theorem sc_need_strategies : FnScope ["strategies", "known", "strategy", "months", "month"] ["strategies"] (defScope (top 41)) := ⟨rfl, rfl, rfl, by decide +kernel, rfl, by decide +kernel, by decide +kernel⟩
def spNeedS (K : PySem.W.Frag) : Sp := fun vs H Q E => ∃ (p : Addr) (xs : List V) (os : List (Option SP)), vs = [.ref p] ∧ H p = some (.tup xs) ∧ Paired (StgV K H) xs os ∧ os.length ≤ 1000 ∧ (∀ r n, reasonF os = some (r, n) → FltL K r n H E) ∧ (reasonF os = none → ∀ H', Same H H' → Q .non H')
theorem but_same {H H1 H2 : Hp} {d : Addr} (s : Same H H1) (n : H d = none) (b : But d H1 H2) : Same H H2 := fun y o hy => b _ _ (s _ _ hy) (ne_of_none hy n)
set_option maxHeartbeats 8000000 in
theorem ok_need_strategies (T : Txt P K mg) : OkF P w K mg base (L2.CX P w) 4 (He.ga K "need_strategies") ["strategies"] (spNeedS K) := by
  obtain ⟨fI, fdI, ErC_InvalidList, ErB_InvalidList⟩ := T.e_InvalidList.made
  have c := T.leg.cT
  have so := T.stg.oc
  have G_months := ok_Legs_months (P := P) (w := w) (base := base) T
  obtain ⟨fd, F⟩ := T.F_need_strategies
  refine ⟨fd, F.ok sc_need_strategies (fun vs H Q E h => ?_) (fun cdv A outer s H vs Q E hr h => ?_), F.bindsN fun _ _ _ _ _ _ us hl => match us, hl with | [_], _ => rfl, F.kp⟩
  · obtain ⟨p, xs, os, rfl, _⟩ := h
    rfl
  · obtain ⟨p, xs, os, rfl, hxs, hp, l1000, kE, kQ⟩ := h
    have hu := hu_of hr
    have el : xs.length = os.length := Paired.length hp
    refine ⟨_, (pss_cons (ps_if (pt_not (pt_val (pe_callB (cr_all rfl) (by rfl) T.z_all (by decide +kernel) (pa_cons (pe_lc (own := [("strategy", 2)]) (g := gName 2) (tt := tYes) rfl sc_need_strategies.nd (pi_tup (pv 0)) (blkOk_by (N := ["strategies", "known", "strategy", "months", "month"]) (sc := defScope (top 41)) (by decide +kernel)) (fun _ _ _ _ _ => pg_name (i := 2) sc_need_strategies.nd rfl (Or.inl rfl)) (fun _ _ _ _ _ => pts_nil) (fun _ _ _ _ _ => (pe_callB (call_isiK K) (by rfl) T.z_isinstance (by decide +kernel) (pa_cons (pv 2) (pa_cons (pe_glob (v := .ref (He.ga K "Strategy")) (by rfl) T.g_Strategy rfl) pa_nil))))) pa_nil))))
      (pss_one (ps_raise rfl (takes_of rfl rfl rfl rfl) (pmk_err ErC_InvalidList ErB_InvalidList (by decide) (hr.mono (by decide)) (by rfl) T.g_InvalidList (pa_cons pe_str (pa_cons pe_non pa_nil)))))
      pss_nil)
    (pss_cons (ps_if (pt_cmpR op_gt (pe_callB call_len_seq (by rfl) T.z_len (by decide +kernel) (pa_cons (pv 0) pa_nil)) (ClX.pe_cval (pe_glob (v := .ref (He.ga K "Listing")) (by rfl) T.g_Listing rfl)) (nomark _))
      (pss_one (ps_raise rfl (takes_of rfl rfl rfl rfl) (pmk_err ErC_InvalidList ErB_InvalidList (by decide) (hr.mono (by decide)) (by rfl) T.g_InvalidList (pa_cons pe_str (pa_cons pe_non pa_nil)))))
      pss_nil)
    (pss_cons (ps_asg pe_dnewK (pg_name (i := 1) sc_need_strategies.nd rfl (.inl rfl)))
    (pss_cons (ps_for (passes_of rfl) rfl (pi_tup (pv 0)) (pg_name (i := 2) sc_need_strategies.nd rfl (.inl rfl))
      (pss_cons (ps_if (pt_cmp (pc_din hu (pe_fld (pv 2) rfl) (pv 1)) rfl)
      (pss_one (ps_raise rfl (takes_of rfl rfl rfl rfl) (pmk_err ErC_InvalidList ErB_InvalidList (by decide) (hr.mono (by decide)) (by rfl) T.g_InvalidList (pa_cons pe_str (pa_cons (pe_fld (pv 2) rfl) pa_nil)))))
      pss_nil)
    (pss_one (ps_dput hu (pv 1) (pe_fld (pv 2) rfl) pe_bl rfl))))
    (pss_cons (ps_asg pe_dnewK (pg_name (i := 3) sc_need_strategies.nd rfl (.inl rfl)))
    (pss_one (ps_for (passes_of rfl) rfl (pi_tup (pv 0)) (pg_name (i := 2) sc_need_strategies.nd rfl (.inl rfl))
      (pss_cons (ps_expr (pe_bm PySem.F.plainAttrs_dict PySem.F.slot_dict_update PySem.F.type_dict_update mt_dupd (pv 3) (pa_cons (pe_dc (own := [("month", 4)]) (g := gName 4) (tt := tYes) rfl sc_need_strategies.nd (pi_tup (pe_prA (p := He.ma K (aL K) "months") K (pe_fld (pv 2) rfl) G_months (hr.mono (by decide)) pass0)) (blkOk_by (N := ["strategies", "known", "strategy", "months", "month"]) (sc := defScope (top 41)) (by decide +kernel)) (fun _ _ _ _ _ => pg_name (i := 4) sc_need_strategies.nd rfl (Or.inl rfl)) (fun _ _ _ _ _ => pts_nil) (fun _ _ _ _ _ => (pv 4)) (fun _ _ _ _ _ => pe_bl)) pa_nil)))
    (pss_one (ps_if (pt_cmpR op_gt (pe_callB call_lenD (by rfl) T.z_len (by decide +kernel) (pa_cons (pv 3) pa_nil)) (ClX.pe_cval (pe_glob (v := .ref (He.ga K "Listing")) (by rfl) T.g_Listing rfl)) (nomark _))
      (pss_one (ps_raise rfl (takes_of rfl rfl rfl rfl) (pmk_err ErC_InvalidList ErB_InvalidList (by decide) (hr.mono (by decide)) (by rfl) T.g_InvalidList (pa_cons pe_str (pa_cons (pe_fld (pv 2) rfl) pa_nil)))))
      pss_nil)))))))))), ?_⟩
    refine ⟨_, rfl, p, rfl, ⟨_, SqT.of hxs⟩, fun D hD => ?_⟩
    refine lcG (yl_tup (xs := xs)) (fun i H' => Same H H' ∧ H' D = some (.lst ((os.take i).map fun o => V.bl o.isSome))) ⟨same_new hD, upd_same⟩ (fun i H' _ h => SqT.of (h.1 _ _ hxs)) ?_ fun H1 h => ?_
    · rintro i v H' hv ⟨s, hl⟩
      obtain ⟨o, ho, so'⟩ := paired_getO hp i v hv
      have so' := so'.same s
      refine ⟨rfl, ?_⟩
      unfold tYes
      dsimp only
      rw [if_pos rfl]
      have fin : ∃ acc, H' D = some (.lst acc) ∧ acc.length < sizeLine ∧ Same H (upd H' D (.lst (acc ++ [V.bl o.isSome]))) ∧ (upd H' D (.lst (acc ++ [V.bl o.isSome]))) D = some (.lst ((os.take (i + 1)).map fun o => V.bl o.isSome)) := by
        refine ⟨_, hl, ?_, same_upd hD s, ?_⟩
        · rw [List.length_map, List.length_take, sizeLine_eq]
          omega
        · rw [upd_same, List.take_add_one, ho, List.map_append]
          rfl
      cases o with
      | some q =>
        obtain ⟨a, rfl, g, _⟩ := so'
        obtain ⟨C, c, ⟨dx, l, h1, h2⟩⟩ := g
        exact ⟨_, rfl, _, _, _, _, _, rfl, .own (aS K), so.pl.ty T.all h1, T.stg.kS, fin⟩
      | none =>
        obtain ⟨t, ty, e⟩ := so'
        exact ⟨_, rfl, _, _, _, _, _, rfl, .own (aS K), ty, e, fin⟩
    · obtain ⟨s1, hl⟩ := h
      rw [el, List.take_length] at hl
      have e1 : (os.map fun o => V.bl o.isSome) = (os.map (·.isSome)).map V.bl := by rw [List.map_map]; rfl
      rw [e1] at hl
      refine ⟨D, _, rfl, SqL.of hl, _, rfl, ?_⟩
      have e2 : (os.map (·.isSome)).all id = os.all (·.isSome) := by rw [List.all_map]; rfl
      rw [e2]
      by_cases ha : (os.all (·.isSome)) = false
      · refine iteTr (by rw [ha]; rfl) ?_
        exact ⟨rfl, ((kE "strategy" none (by unfold reasonF; rw [if_pos ha])).same s1).new⟩
      · have ha' : (os.all (·.isSome)) = true := by
          cases z : os.all (·.isSome) with
          | true => rfl
          | false => exact absurd z ha
        refine iteFa (by rw [ha']; rfl) ?_
        refine ⟨_, rfl, p, _, rfl, .inr (SqT.of (s1 _ _ hxs)), ?_⟩
        obtain ⟨u1, c1⟩ := T.lis.c1
        obtain ⟨u2, c2⟩ := T.lis.c2
        refine ⟨_, _, _, _, rfl, T.lis.cr, c1, _, _, rfl, rfl, _, rfl, ?_⟩
        obtain ⟨ps, rfl⟩ : ∃ ps : List SP, os = ps.map some := ⟨_, all_some ha'⟩
        obtain ⟨ef, _⟩ := some_map ps
        have lps : xs.length = ps.length := by rw [el, List.length_map]
        have rE : ∀ r n, reason2 ps = some (r, n) → FltL K r n H E := fun r n e => kE r n (by
            unfold reasonF
            rw [ha', if_neg (by decide), ef]
            exact e)
        have rQ : reason2 ps = none → ∀ H', Same H H' → Q .non H' := fun e => kQ (by
            unfold reasonF
            rw [ha', if_neg (by decide), ef]
            exact e)
        unfold reason2 at rE rQ
        clear kE kQ
        refine iteD (fun g => ⟨rfl, ((rE "many" none (by rw [if_pos (by omega)])).same s1).new⟩) (fun g => ?_)
        have l12 : ¬ 12 < ps.length := by omega
        rw [if_neg l12] at rQ
        simp only [if_neg l12] at rE
        have gt : ∀ {H' : Hp} {i : Nat} {v : V}, Same H H' → xs[i]? = some v → ∃ q a dx l, ps[i]? = some q ∧ v = .ref a ∧ H' a = some (.ins (aS K) dx [("name", .str q.1), ("legs", .ref l)]) ∧ LegA K H' l q.2 := fun s hv => by
          obtain ⟨o, ho, so'⟩ := paired_getO hp _ _ hv
          rw [List.getElem?_map] at ho
          obtain ⟨q, hq, rfl⟩ := Option.map_eq_some_iff.mp ho
          obtain ⟨a, rfl, ⟨C, c, g⟩, _⟩ := so'.same s
          obtain ⟨dx, l, h1, h2⟩ := g.at_
          exact ⟨q, a, dx, l, hq, rfl, h1, C, c, h2⟩
        refine fun d nd => ?_
        have nd0 : H d = none := s1.free nd
        have s2 : Same H (upd H1 d (.dK [])) := s1.trans (same_new nd)
        refine ⟨_, rfl, p, rfl, ⟨_, SqT.of (s2 _ _ hxs)⟩, ?_⟩
        refine forP (yl_tup (xs := xs)) (fun i σ H' => ∃ v2 v3 v4, σ = [some (.ref p), some (.ref d), v2, v3, v4] ∧ Same H H' ∧ H' d = some (.dK (setD ((ps.map (·.1)).take i))) ∧ ∀ j n, j < i → (ps.map (·.1))[j]? = some n → n ∉ (ps.map (·.1)).take j) ⟨_, _, _, rfl, s2, upd_same, fun j n hj => absurd hj (Nat.not_lt_zero j)⟩ (fun i σ H' _ h => by obtain ⟨_, _, _, _, s, _⟩ := h; exact SqT.of (s _ _ hxs)) ?_ ?_
        · rintro i v σ H' hv ⟨v2, v3, v4, rfl, s, hd, hn⟩
          obtain ⟨q, a, dx, l, hq, rfl, h1, h2⟩ := gt s hv
          have il : i < ps.length := by
            rcases Nat.lt_or_ge i ps.length with h | h
            · exact h
            · rw [List.getElem?_eq_none h] at hq; cases hq
          have hqn : (ps.map (·.1))[i]? = some q.1 := by rw [List.getElem?_map, hq]; rfl
          refine ⟨_, rfl, a, aS K, dx, _, _, rfl, h1, so.pl.cls, so.no _ (by decide), rfl, _, rfl, d, _, rfl, DGet.k (k := Sum.inr q.1) hd, _, rfl, ?_⟩
          rw [valV_set]
          by_cases hm : q.1 ∈ (ps.map (·.1)).take i
          · rw [if_pos hm]
            refine iteTr rfl ⟨_, rfl, a, aS K, dx, _, _, rfl, h1, so.pl.cls, so.no _ (by decide), rfl, rfl, ((rE "name" (some q.1) ?_).same s).new⟩
            have e := dup_take (ns := ps.map (·.1)) i (by rw [List.length_map]; omega) hn
            rw [e, drop_at hqn, dupGo_cons, if_pos hm]
          · rw [if_neg hm]
            refine iteFa rfl ?_
            refine ⟨_, rfl, _, rfl, a, aS K, dx, _, _, rfl, h1, so.pl.cls, so.no _ (by decide), rfl, d, _, rfl, DPut.k (k := Sum.inr q.1) hd (by unfold setD; rw [List.length_map, List.length_take, List.length_map, sizeLine_eq]; omega), ?_⟩
            rw [putK_set, if_neg hm]
            refine ⟨_, _, _, rfl, ?_, ?_, ?_⟩
            · exact same_upd nd0 s
            · rw [upd_same, List.take_add_one, hqn]
              rfl
            · intro j n hj hjn
              rcases Nat.lt_succ_iff_lt_or_eq.mp hj with h | rfl
              · exact hn j n h hjn
              · rw [hqn] at hjn
                cases hjn
                exact hm
        · rintro σ H' ⟨v2, v3, v4, rfl, s, hd, hn⟩
          rw [lps] at hn
          have dz : dupGo [] (ps.map (·.1)) = none := by
            rw [dup_take (ns := ps.map (·.1)) ps.length (by rw [List.length_map]; exact Nat.le_refl _) hn]
            have e : (ps.map (·.1)).drop ps.length = [] := List.drop_eq_nil_of_le (by rw [List.length_map]; exact Nat.le_refl _)
            rw [e]
            rfl
          rw [dz] at rQ
          simp only [dz] at rE
          clear hd
          refine fun d2 nd2 => ?_
          have nd3 : H d2 = none := s.free nd2
          have s3 : Same H (upd H' d2 (.dK [])) := s.trans (same_new nd2)
          refine ⟨_, rfl, p, rfl, ⟨_, SqT.of (s3 _ _ hxs)⟩, ?_⟩
          have hlen : ∀ m ∈ ps.map (·.2), m.length < 64 := fun m hm => by
            obtain ⟨i, hi⟩ := List.mem_iff_getElem?.mp hm
            rw [List.getElem?_map] at hi
            obtain ⟨q, hq, rfl⟩ := Option.map_eq_some_iff.mp hi
            have hv : i < xs.length := by
              rw [lps]
              rcases Nat.lt_or_ge i ps.length with h | h
              · exact h
              · rw [List.getElem?_eq_none h] at hq; cases hq
            obtain ⟨q', a, dx, l, hq', _, _, h2⟩ := gt (Same.refl H) (List.getElem?_eq_getElem hv)
            rw [hq] at hq'
            cases hq'
            exact h2.len
          have tk : ∀ i, monT (ps.take i) = monU ((ps.map (·.2)).take i) := fun i => by
            unfold monT
            rw [List.map_take]
          refine forP (yl_tup (xs := xs)) (fun i σ H' => ∃ v2 v4, σ = [some (.ref p), some (.ref d), v2, some (.ref d2), v4] ∧ Same H H' ∧ H' d2 = some (.dK (setD (monT (ps.take i)))) ∧ ∀ j, j < i → (monT (ps.take (j + 1))).length ≤ 6) ⟨_, _, rfl, s3, upd_same, fun j hj => absurd hj (Nat.not_lt_zero j)⟩ (fun i σ H' _ h => by obtain ⟨_, _, _, s, _⟩ := h; exact SqT.of (s _ _ hxs)) ?_ ?_
          · rintro i v σ H4 hv ⟨v2, v4, rfl, s4, hd, h6⟩
            obtain ⟨q, a, dx, l, hq, rfl, h1, C, c, h2⟩ := gt s4 hv
            have il : i < ps.length := by
              rcases Nat.lt_or_ge i ps.length with h | h
              · exact h
              · rw [List.getElem?_eq_none h] at hq; cases hq
            obtain ⟨dx2, t, g1, g2⟩ := h2.at_
            refine ⟨_, rfl, .inr (.inr (.inl ⟨rfl, .inl ⟨_, hd⟩⟩)), _, rfl, a, aS K, dx, _, _, rfl, h1, so.pl.cls, so.no _ (by decide), rfl, C, l, dx2, _, c.pl.cls, c.mo, rfl, g1, l, C, q.2, rfl, h2, c, fun tp H5 ntp s5 h5 => ?_⟩
            refine ⟨tp, rfl, ⟨_, SqT.of h5⟩, fun D hD => ?_⟩
            refine dcF (yl_tup (xs := (ks q.2).map V.str)) (fun _ => true) (fun v => .inr (strOf v)) (fun _ => .bl true) hD (by rw [List.length_map]; unfold ks; rw [List.length_map]; have := h2.len; omega) ?_ (fun H' s => SqT.of (s _ _ h5)) (fun _ => rfl)
              (fun v H' hm s Qb q => q H' (Same.refl H')) (fun v H' hm _ s Q2 q => ?_) (fun v H' hm _ s Q2 q => q H' (Same.refl H')) fun H6 s6 hl6 => ?_
            · rw [List.filter_eq_self.mpr fun _ _ => rfl, List.map_map]
              have e2 : ((ks q.2).map ((fun v => (Sum.inr (strOf v) : Key)) ∘ V.str)) = (ks q.2).map Sum.inr := rfl
              rw [e2]
              exact List.Pairwise.map _ (fun a b hab z => hab (Sum.inr.inj z)) h2.can.nd
            · obtain ⟨x, _, rfl⟩ := List.mem_map.mp hm
              exact ⟨_, rfl, q H' (Same.refl H')⟩
            · have e : (List.map (fun v => ((Sum.inr (strOf v) : Key), V.bl true)) (List.filter (fun _ => true) ((ks q.2).map V.str))) = setD (ks q.2) := by
                unfold setD
                rw [List.filter_eq_self.mpr fun _ _ => rfl, List.map_map]
                rfl
              rw [e] at hl6
              have s7 := s5.trans s6
              have hd7 := s7 _ _ hd
              have nDd : D ≠ d2 := fun z => by
                rw [z, s5 _ _ hd] at hD
                cases hD
              have z1 := monU_len hlen i (by rw [List.length_map]; omega)
              rw [← tk] at z1
              have z2 : (ks q.2).length < 64 := by unfold ks; rw [List.length_map]; exact h2.len
              refine ⟨d2, D, _, _, rfl, rfl, Ne.symm nDd, hd7, hl6, by unfold setD; rw [List.length_map, List.length_map, sizeLine_eq]; omega, ?_⟩
              rw [merge_set]
              have e8 : addAll (monT (ps.take i)) (ks q.2) = monT (ps.take (i + 1)) := by
                rw [tk, tk, monU_take (m := q.2) (by rw [List.getElem?_map, hq]; rfl)]
              rw [e8]
              have s8 : Same H (upd H6 d2 (.dK (setD (monT (ps.take (i + 1)))))) := same_upd nd3 (s4.trans s7)
              have hd8 : upd H6 d2 (.dK (setD (monT (ps.take (i + 1))))) d2 = some (.dK (setD (monT (ps.take (i + 1))))) := upd_same
              have h18 : upd H6 d2 (.dK (setD (monT (ps.take (i + 1))))) a = some (.ins (aS K) dx [("name", .str q.1), ("legs", .ref l)]) := (upd_ne fun z => by rw [z, hd] at h1; cases h1).trans (s7 _ _ h1)
              generalize upd H6 d2 (.dK (setD (monT (ps.take (i + 1))))) = H8 at s8 hd8 h18
              refine ⟨_, rfl, d2, _, rfl, hd8, _, _, _, _, rfl, T.lis.cr, c2, _, _, rfl, rfl, _, rfl, ?_⟩
              have lz : (setD (monT (ps.take (i + 1)))).length = (monT (ps.take (i + 1))).length := by unfold setD; rw [List.length_map]
              rw [lz]
              refine iteD (fun g => ?_) (fun g => ⟨_, _, rfl, s8, hd8, fun j hj => ?_⟩)
              · refine ⟨_, rfl, a, aS K, dx, _, _, rfl, h18, so.pl.cls, so.no _ (by decide), rfl, rfl, ((rE "months" (some q.1) ?_).same s8).new⟩
                have e := mon_take (ps := ps) i (by omega) h6
                rw [e, drop_at hq, monGo_cons, e8, if_pos (by omega)]
              · rcases Nat.lt_succ_iff_lt_or_eq.mp hj with h | rfl
                · exact h6 j h
                · omega
          · rintro σ H4 ⟨v2, v4, rfl, s4, hd, h6⟩
            rw [lps] at h6
            have mz : monGo [] ps = none := by
              rw [mon_take ps.length (Nat.le_refl _) h6, List.drop_length]
              rfl
            rw [mz] at rQ
            exact rQ rfl H4 s4
end
end Kx
set_option maxHeartbeats 4000000
namespace Kx
open PySem PySem.Spec PyProof.Rows L2 Xr
local macro_rules | `(tactic| walk_at "rd") => `(tactic| (repeat (first | apply Exists.intro | (refine And.intro rfl ?_) | (refine And.intro (SqL.of (by assumption)) ?_) | (refine And.intro (Or.inl (SqL.of (by assumption))) ?_) | (refine Or.inl ⟨_, rfl, ?_⟩) | (refine Or.inr ⟨_, rfl, ?_⟩) | (refine And.intro (by assumption) ?_) | (refine And.intro (Or.inl (by assumption)) ?_))))
/-! ### listings: plain facts -/
theorem dup_none {ns : List Str} : ∀ (k : List Str), dupGo k ns = none → ∀ i n, ns[i]? = some n → n ∉ k ++ ns.take i := by
  induction ns with
  | nil => intro k _ i n h; simp at h
  | cons x r ih =>
    intro k h i n hi
    rw [dupGo_cons] at h
    by_cases hx : x ∈ k
    · rw [if_pos hx] at h; cases h
    · rw [if_neg hx] at h
      cases i with
      | zero =>
        have : x = n := by simpa using hi
        subst this
        simpa using hx
      | succ i =>
        have z := ih (k ++ [x]) h i n (by simpa using hi)
        rw [List.append_assoc] at z
        exact z
theorem mon_none : ∀ {ps : List SP} {l : List Str}, l.length ≤ 6 → monGo l ps = none → (ps.foldl (fun l p => addAll l (ks p.2)) l).length ≤ 6
  | [], _, h, _ => h
  | q :: r, l, h, e => by
    rw [monGo_cons] at e
    by_cases hx : 6 < (addAll l (ks q.2)).length
    · rw [if_pos hx] at e; cases e
    · rw [if_neg hx] at e
      exact mon_none (l := addAll l (ks q.2)) (by omega) e
theorem monT_fold (ps : List SP) : monT ps = ps.foldl (fun l p => addAll l (ks p.2)) [] := by
  unfold monT monU
  rw [List.foldl_map]
/-- strategies that make a listing -/
structure GoodL (ps : List SP) : Prop where
  len : ps.length ≤ 12
  nd : ∀ i n, (ps.map (·.1))[i]? = some n → n ∉ (ps.map (·.1)).take i
  mon : (monT ps).length ≤ 6
theorem good_of {ps : List SP} (h : reason2 ps = none) : GoodL ps := by
  unfold reason2 at h
  by_cases h1 : 12 < ps.length
  · rw [if_pos h1] at h; cases h
  · rw [if_neg h1] at h
    cases h2 : dupGo [] (ps.map (·.1)) with
    | some n => rw [h2] at h; cases h
    | none =>
      rw [h2] at h
      cases h3 : monGo [] ps with
      | some n =>
        simp only [h3] at h
        cases h
      | none =>
        refine ⟨by omega, fun i n hi => ?_, ?_⟩
        · have := dup_none [] h2 i n hi
          simpa using this
        · rw [monT_fold]
          exact mon_none (Nat.zero_le _) h3
theorem val_bd {m : Tab} (h : stgOk m = true) (k : Str) : (val m k).natAbs < 2 ^ 3 := by
  unfold val
  cases e : m.find? fun p => decide (p.1 = k) with
  | none => decide
  | some p =>
    have hp := List.mem_of_find?_eq_some e
    unfold stgOk at h
    have z := of_decide_eq_true (List.all_eq_true.mp (He.ba h).2 p hp)
    show p.2.natAbs < 8
    unfold absI at z
    split at z <;> omega
def rankF (ps : List SP) : Nat := (indepF (rowsF (ps.map (·.2)))).length
section
variable {P : Program} {w : World} {K : PySem.W.Frag} {mg : Str → Option Value} {base : Heap}
/-- a listing: its strategies xs, told by ps; kv: its rings, if they were asked for -/
structure ListAt (K : PySem.W.Frag) (H : Hp) (a : Addr) (kv : V) (xs : List V) (ps : List SP) : Prop where
  at_ : ∃ dx rw bn kvs, H a = some (.ins (aLi K) dx [("own_rows", .ref rw), ("by_name", .ref bn), ("own_rank", .int (rankF ps)), ("known_rings", kv)]) ∧ H rw = some (.tup xs) ∧ H bn = some (.dK kvs) ∧ Paired (fun (p : Key × V) (q : SP) => p.1 = .inr q.1 ∧ ∃ l, p.2 = .ref l ∧ LegA K H l q.2) kvs ps
  st : Paired (fun v p => StgV K H v (some p)) xs ps
  good : GoodL ps
theorem ListAt.same {H H' : Hp} {a : Addr} {kv : V} {xs : List V} {ps : List SP} (h : ListAt K H a kv xs ps) (s : Same H H') : ListAt K H' a kv xs ps := by
  obtain ⟨dx, rw', bn, kvs, h1, h2, h3, h4⟩ := h.at_
  exact ⟨⟨dx, rw', bn, kvs, s _ _ h1, s _ _ h2, s _ _ h3, Paired.mapP h4 fun _ _ ⟨e, l, e2, g⟩ => ⟨e, l, e2, g.same s⟩⟩, Paired.mapP h.st fun _ _ g => g.same s, h.good⟩
theorem paired_some {H : Hp} : ∀ {xs : List V} {ps : List SP}, Paired (StgV K H) xs (ps.map some) → Paired (fun v p => StgV K H v (some p)) xs ps
  | [], [], .nil => .nil
  | _ :: _, _ :: _, .cons a b => .cons a (paired_some b)
theorem some_paired {H : Hp} : ∀ {xs : List V} {ps : List SP}, Paired (fun v p => StgV K H v (some p)) xs ps → Paired (StgV K H) xs (ps.map some)
  | [], [], .nil => .nil
  | _ :: _, _ :: _, .cons a b => .cons a (some_paired b)
theorem paired_getP {R : V → SP → Prop} : ∀ {vs : List V} {sts : List SP}, Paired R vs sts → ∀ (i : Nat) (x : V), vs[i]? = some x → ∃ st, sts[i]? = some st ∧ R x st
  | _, _, .nil, i, x, h => by cases h
  | _, _, .cons a b, 0, x, h => by cases h; exact ⟨_, rfl, a⟩
  | _, _, .cons a b, i + 1, x, h => paired_getP b i x h
theorem keys_of {H : Hp} : ∀ {kvs : List (Key × V)} {ps : List SP}, Paired (fun (p : Key × V) (q : SP) => p.1 = .inr q.1 ∧ ∃ l, p.2 = .ref l ∧ LegA K H l q.2) kvs ps → ∀ x, (∀ q ∈ ps, q.1 ≠ x) → valV kvs (.inr x) = none
  | [], [], .nil, x, _ => rfl
  | p :: kvs, q :: ps, .cons a b, x, h => by
    have ih := keys_of b x fun q hq => h q (List.mem_cons_of_mem _ hq)
    unfold valV at ih ⊢
    rw [List.find?_cons]
    have e : decide (p.1 = .inr x) = false := by
      rw [a.1]
      exact decide_eq_false fun z => h q (List.mem_cons_self ..) (Sum.inr.inj z)
    rw [e]
    exact ih
theorem vals_legs {H : Hp} : ∀ {kvs : List (Key × V)} {ps : List SP}, Paired (fun (p : Key × V) (q : SP) => p.1 = .inr q.1 ∧ ∃ l, p.2 = .ref l ∧ LegA K H l q.2) kvs ps → Paired (fun v m => ∃ a, v = .ref a ∧ LegA K H a m) (kvs.map (·.2)) (ps.map (·.2))
  | [], [], .nil => .nil
  | _ :: _, _ :: _, .cons a b => .cons a.2 (vals_legs b)
theorem stg_ok {H : Hp} : ∀ {xs : List V} {ps : List SP}, Paired (fun v p => StgV K H v (some p)) xs ps → ∀ m ∈ ps.map (·.2), stgOk m = true
  | [], [], .nil, m, h => (List.not_mem_nil h).elim
  | _ :: _, _ :: _, .cons a b, m, h => by
    rcases List.mem_cons.mp h with rfl | h
    · obtain ⟨_, _, _, k⟩ := a
      exact k
    · exact stg_ok b m h
theorem sc_Listing___init__ : FnScope ["self", "strategies", "strategy"] ["self", "strategies"] (defScope (inClass (top 42) 2)) := ⟨rfl, rfl, rfl, by decide +kernel, rfl, by decide +kernel, by decide +kernel⟩
def spLstI (K : PySem.W.Frag) : Sp := fun vs H Q E => ∃ (x dx p : Addr) (xs : List V) (os : List (Option SP)), vs = [.ref x, .ref p] ∧ H x = some (.ins (aLi K) dx []) ∧ H p = some (.tup xs) ∧ Paired (StgV K H) xs os ∧ os.length ≤ 1000 ∧ (∀ r n, reasonF os = some (r, n) → FltL K r n H E) ∧
  (reasonF os = none → ∀ ps, os = ps.map some → ∀ H', But x H H' → ListAt K H' x .non xs ps → Q .non H')
set_option maxHeartbeats 8000000 in
theorem ok_Listing_init (T : Txt P K mg) : FnR P w K mg base (L2.CX P w) 6 (He.ma K (He.ga K "Listing") "__init__") (fun vs H Q E => ∃ ws rest, vs = ws ++ rest ∧ ws.length = (["self"] : List Str).length ∧ rest.length ≤ sizeLine ∧ ∀ p, H p = Option.none → spLstI K (ws ++ [V.ref p]) (upd H p (.tup rest)) Q E) := by
  have so := T.stg.oc
  have lo := T.lis.oc
  have G_need_strategies := ok_need_strategies (P := P) (w := w) (base := base) T
  have G_vectors_of := ok_vectors_of (P := P) (w := w) (base := base) T
  have G_independent_of := ok_independent_of (P := P) (w := w) (base := base) T
  obtain ⟨fd, F⟩ := T.F_Listing___init__
  refine fn_starF F sc_Listing___init__ StX.cxUp (fun kV doc pm an cdv ct => StX.bind_star1 (B := fun us => bindArgs (PySem.W.fnOf _ _ _ _ _ _ _ _ _ _ _ _) ⟨us, []⟩) (fun a => rfl) (fun a r rs => rfl)) fun cdv A outer s H vs Q E hr h => ?_
  obtain ⟨x, dx, p, xs, os, rfl, hx, hxs, hp, l1000, kE, kQ⟩ := h
  refine ⟨_, (pss_cons (ps_expr (pe_f G_need_strategies (hr.mono (by decide)) (by rfl) T.g_need_strategies (passes_call (takes_of rfl rfl rfl rfl) (fun _ _ _ _ h => h)) (pa_cons (pv 1) pa_nil)))
    (pss_cons (ps_fld (pv 0) (pv 1) rfl)
    (pss_cons (ps_fld (pv 0) (pe_dc (own := [("strategy", 2)]) (g := gName 2) (tt := tYes) rfl sc_Listing___init__.nd (pi_tup (pv 1)) (blkOk_by (N := ["self", "strategies", "strategy"]) (sc := defScope (inClass (top 42) 2)) (by decide +kernel)) (fun _ _ _ _ _ => pg_name (i := 2) sc_Listing___init__.nd rfl (Or.inl rfl)) (fun _ _ _ _ _ => pts_nil) (fun _ _ _ _ _ => (pe_fldK K (pv 2) rfl)) (fun _ _ _ _ _ => (pe_fldK K (pv 2) rfl))) rfl)
    (pss_cons (ps_fld (pv 0) (pe_callB call_len_seq (by rfl) T.z_len (by decide +kernel) (pa_cons (pe_f G_independent_of (hr.mono (by decide)) (by rfl) T.g_independent_of pass0 (pa_cons (pe_f G_vectors_of (hr.mono (by decide)) (by rfl) T.g_vectors_of pass0 (pa_cons (pe_listVals rfl (pe_fld (pv 0) rfl) (by rfl) T.z_list (by decide +kernel)) pa_nil)) pa_nil)) pa_nil)) rfl)
    (pss_one (ps_fld (pv 0) pe_non rfl)))))), ?_⟩
  refine ⟨_, rfl, p, xs, os, rfl, hxs, hp, l1000, kE, fun rz H1 s1 => ?_⟩
  obtain ⟨ps, rfl⟩ : ∃ ps : List SP, os = ps.map some := by
    refine ⟨_, all_some ?_⟩
    cases z : os.all (·.isSome) with
    | true => rfl
    | false =>
      unfold reasonF at rz
      rw [z, if_pos rfl] at rz
      cases rz
  have gl : GoodL ps := by
    refine good_of ?_
    obtain ⟨e1, e2⟩ := some_map ps
    unfold reasonF at rz
    rw [e2, if_neg (by decide), e1] at rz
    exact rz
  have kQ := kQ rz ps rfl
  have pp := paired_some hp
  have hx1 := s1 _ _ hx
  have px : p ≠ x := fun z => by rw [z, hx] at hxs; cases hxs
  have ne : ∀ {y : Addr} {C dy : Addr} {fs : List (Str × V)}, H y = some (.ins C dy fs) → fs ≠ [] → y ≠ x := fun {y C dy fs} e n z => by
    rw [z, hx] at e
    cases e
    exact n rfl
  have legC : ∀ {H' : Hp} {C l : Addr} {m : Tab}, But x H H' → LegsAt H C l m → LegsAt H' C l m := fun b h => by
    obtain ⟨⟨dx2, t, h2, h3⟩, c2, c3⟩ := h
    exact ⟨⟨dx2, t, b _ _ h2 (ne h2 (by simp)), b _ _ h3 fun z => by rw [z, hx] at h3; cases h3⟩, c2, c3⟩
  have legB : ∀ {H' : Hp} {l : Addr} {m : Tab}, But x H H' → LegA K H l m → LegA K H' l m := fun b h => by
    obtain ⟨C, c, h⟩ := h
    exact ⟨C, c, legC b h⟩
  have stB : ∀ {H' : Hp} {v : V} {q : SP}, But x H H' → StgV K H v (some q) → StgV K H' v (some q) := fun b h => by
    obtain ⟨a, e, ⟨C, c, ⟨dx', l, h1, h2⟩⟩, k⟩ := h
    exact ⟨a, e, ⟨C, c, ⟨dx', l, b _ _ h1 (ne h1 (by simp)), legC b h2⟩⟩, k⟩
  have gt : ∀ {i : Nat} {v : V}, xs[i]? = some v → ∃ q a dx l, ps[i]? = some q ∧ v = .ref a ∧ H a = some (.ins (aS K) dx [("name", .str q.1), ("legs", .ref l)]) ∧ a ≠ x ∧ LegA K H l q.2 := fun hv => by
    obtain ⟨q, hq, a, rfl, ⟨C, c, g⟩, _⟩ := paired_getP pp _ _ hv
    obtain ⟨dx, l, h1, h2⟩ := g.at_
    exact ⟨q, a, dx, l, hq, rfl, h1, ne h1 (by simp), C, c, h2⟩
  refine ⟨_, rfl, _, rfl, x, aLi K, dx, _, rfl, hx1, lo.pl.cls, lo.no _ (by decide), by decide, ?_⟩
  have b2 : But x H (upd H1 x (.ins (aLi K) dx (putF "own_rows" (.ref p) []))) := (But.of s1).upd
  have hx2 : upd H1 x (.ins (aLi K) dx (putF "own_rows" (.ref p) [])) x = some (.ins (aLi K) dx [("own_rows", .ref p)]) := upd_same
  generalize upd H1 x (.ins (aLi K) dx (putF "own_rows" (.ref p) [])) = H2 at b2 hx2
  have hxs2 := b2 _ _ hxs px
  refine ⟨_, rfl, p, rfl, ⟨_, SqT.of hxs2⟩, fun D hD => ?_⟩
  refine dcG (yl_tup (xs := xs)) (fun i H' => Same H2 H' ∧ ∃ kvs, H' D = some (.dK kvs) ∧ Paired (fun (p : Key × V) (q : SP) => p.1 = .inr q.1 ∧ ∃ l, p.2 = .ref l ∧ LegA K H l q.2) kvs (ps.take i)) ⟨same_new hD, [], upd_same, .nil⟩ (fun i H' _ h => SqT.of (h.1 _ _ hxs2)) ?_ fun H3 h => ?_
  · rintro i v H' hv ⟨s3, kvs, hd, hk⟩
    obtain ⟨q, a, dx', l, hq, rfl, h1, ax, h2⟩ := gt hv
    have h1 := s3 _ _ (b2 _ _ h1 ax)
    refine ⟨rfl, ?_⟩
    unfold tYes
    dsimp only
    rw [if_pos rfl]
    refine ⟨_, rfl, a, aS K, dx', _, _, rfl, h1, so.pl.cls, so.no _ (by decide), rfl, _, rfl, a, aS K, dx', _, _, rfl, h1, so.pl.cls, so.no _ (by decide), rfl, kvs, .inr q.1, rfl, hd, ?_, same_upd hD s3, _, upd_same, ?_⟩
    · rw [Paired.length hk, List.length_take, sizeLine_eq]
      have := gl.len
      omega
    · have qn : (ps.map (·.1))[i]? = some q.1 := by rw [List.getElem?_map, hq]; rfl
      have nn := gl.nd i _ qn
      rw [putK_new]
      · have e : ps.take (i + 1) = ps.take i ++ [q] := by rw [List.take_add_one, hq]; rfl
        rw [e]
        exact Paired.snoc hk ⟨rfl, l, rfl, h2⟩
      · refine keys_of hk _ fun q' hq' z => nn ?_
        rw [← z, ← List.map_take]
        exact List.mem_map.mpr ⟨q', hq', rfl⟩
  · obtain ⟨s3, kvs, hd, hk⟩ := h
    have lx : xs.length = ps.length := Paired.length pp
    rw [lx, List.take_length] at hk
    have hx3 := s3 _ _ hx2
    have b3 : But x H H3 := b2.trans (But.of s3)
    refine ⟨_, rfl, x, aLi K, dx, _, rfl, hx3, lo.pl.cls, lo.no _ (by decide), (show 1 < 1000 by decide), ?_⟩
    have Dx : D ≠ x := fun z => by rw [z, hx2] at hD; cases hD
    have b4 : But x H (upd H3 x (.ins (aLi K) dx (putF "by_name" (.ref D) [("own_rows", .ref p)]))) := b3.upd
    have hx4 : upd H3 x (.ins (aLi K) dx (putF "by_name" (.ref D) [("own_rows", .ref p)])) x = some (.ins (aLi K) dx [("own_rows", .ref p), ("by_name", .ref D)]) := upd_same
    have hd4 : upd H3 x (.ins (aLi K) dx (putF "by_name" (.ref D) [("own_rows", .ref p)])) D = some (.dK kvs) := (upd_ne Dx).trans hd
    generalize upd H3 x (.ins (aLi K) dx (putF "by_name" (.ref D) [("own_rows", .ref p)])) = H4 at b4 hx4 hd4
    have pm : ∀ {α β : Type} {R R' : α → β → Prop} {xs : List α} {ys : List β}, Paired R xs ys → (∀ a b, R a b → R' a b) → Paired R' xs ys := fun h f => Paired.mapP h f
    have hkB : ∀ {H' : Hp}, But x H H' → Paired (fun (p : Key × V) (q : SP) => p.1 = .inr q.1 ∧ ∃ l, p.2 = .ref l ∧ LegA K H' l q.2) kvs ps := fun b => Paired.mapP hk fun _ _ ⟨e, l, e2, g⟩ => ⟨e, l, e2, legB b g⟩
    have e6 : monU (ps.map (·.2)) = monT ps := rfl
    have m6 := gl.mon
    have l12 := gl.len
    refine ⟨_, rfl, x, aLi K, dx, _, _, rfl, hx4, lo.pl.cls, lo.no _ (by decide), rfl, D, kvs, rfl, hd4, fun lv nlv => ?_⟩
    have s5 := same_new (o := .lst (kvs.map (·.2))) nlv
    refine ⟨lv, ps.map (·.2), rfl, ⟨⟨_, upd_same, vals_legs (hkB (b4.trans (But.of s5)))⟩⟩, by rw [List.length_map]; omega, by rw [e6]; omega, fun R H6 nR s6 hR => ?_⟩
    refine ⟨R, rowsF (ps.map (·.2)), (monthsF (ps.map (·.2))).length, rfl, hR, fun r hr => ?_, by unfold rowsF; rw [List.length_map, List.length_map]; exact l12, ?_, fun q H7 nq s7 hq => ?_⟩
    · unfold rowsF at hr
      obtain ⟨m, hm, rfl⟩ := List.mem_map.mp hr
      refine ⟨List.length_map .., fun z hz => ?_⟩
      obtain ⟨k, _, rfl⟩ := List.mem_map.mp hz
      exact val_bd (stg_ok pp m hm) k
    · have : (monthsF (ps.map (·.2))).length = (monT ps).length := (sort_perm _).length_eq
      omega
    · have s47 : Same H4 H7 := (s5.trans s6).trans s7
      have b7 : But x H H7 := b4.trans (But.of s47)
      have hx7 := s47 _ _ hx4
      refine ⟨q, _, rfl, .inl (SqL.of hq), ?_⟩
      have er : ((indepF (rowsF (ps.map (·.2)))).map fun i => V.int (i : Nat)).length = rankF ps := List.length_map ..
      rw [er]
      refine ⟨_, rfl, x, aLi K, dx, _, rfl, hx7, lo.pl.cls, lo.no _ (by decide), (show 2 < 1000 by decide), ?_⟩
      refine ⟨_, rfl, x, aLi K, dx, _, rfl, upd_same, lo.pl.cls, lo.no _ (by decide), (show 3 < 1000 by decide), ?_⟩
      have b8 := (b7.upd (o := .ins (aLi K) dx (putF "own_rank" (.int (rankF ps)) [("own_rows", .ref p), ("by_name", .ref D)]))).upd (o := .ins (aLi K) dx (putF "known_rings" .non (putF "own_rank" (.int (rankF ps)) [("own_rows", .ref p), ("by_name", .ref D)])))
      refine kQ _ b8 ⟨⟨dx, p, D, kvs, upd_same, b8 _ _ hxs px, ?_, hkB b8⟩, Paired.mapP pp fun _ _ g => stB b8 g, gl⟩
      exact (upd_ne Dx).trans ((upd_ne Dx).trans (s47 _ _ hd4))
end
end Kx
set_option maxHeartbeats 4000000
namespace Kx
open PySem PySem.Spec PyProof.Rows L2 Xr
local macro_rules | `(tactic| walk_at "rd") => `(tactic| (repeat (first | apply Exists.intro | (refine And.intro rfl ?_) | (refine And.intro (SqL.of (by assumption)) ?_) | (refine And.intro (Or.inl (SqL.of (by assumption))) ?_) | (refine Or.inl ⟨_, rfl, ?_⟩) | (refine Or.inr ⟨_, rfl, ?_⟩) | (refine And.intro (by assumption) ?_) | (refine And.intro (Or.inl (by assumption)) ?_))))
section
variable {P : Program} {w : World} {K : PySem.W.Frag} {mg : Str → Option Value} {base : Heap}
/-- making a listing of some values: one by one, or from a tuple -/
theorem mkL_ok {H : Hp} {xs : List V} {os : List (Option SP)} {Q : VK} {E : XK} (hp : Paired (StgV K H) xs os) (l : os.length ≤ 1000) (kE : ∀ r n, reasonF os = some (r, n) → FltL K r n H E)
    (kQ : reasonF os = none → ∀ ps, os = ps.map some → ∀ y H', Same H H' → H y = none → ListAt K H' y .non xs ps → Q (.ref y) H') :
    ∀ x dx, H x = none → H dx = none → dx ≠ x → (fun (vs : List V) (H : Hp) (Q : VK) (E : XK) => ∃ ws rest, vs = ws ++ rest ∧ ws.length = (["self"] : List Str).length ∧ rest.length ≤ sizeLine ∧ ∀ p, H p = Option.none → spLstI K (ws ++ [V.ref p]) (upd H p (.tup rest)) Q E) (V.ref x :: xs) (upd (upd H dx (.own x)) x (.ins (aLi K) dx [])) (fun v H2 => v = .non ∧ Q (.ref x) H2) E := by
  intro x dx nx ndx ne
  have s1 : Same H (upd (upd H dx (.own x)) x (.ins (aLi K) dx [])) := fun b o hb => by
    rw [upd_ne (ne_of_none hb nx), upd_ne (ne_of_none hb ndx)]
    exact hb
  refine ⟨[.ref x], xs, rfl, rfl, by rw [Paired.length hp, sizeLine_eq]; omega, fun p np => ?_⟩
  have s2 := s1.trans (same_new (o := .tup xs) np)
  have px : x ≠ p := fun z => by rw [← z, upd_same] at np; cases np
  refine ⟨x, dx, p, xs, os, rfl, (upd_ne px).trans upd_same, upd_same, Paired.mapP hp fun _ _ g => g.same s2, l, fun r n e => (kE r n e).same s2, fun e ps e2 H' b la => ⟨rfl, kQ e ps e2 x H' (fun y o hy => b _ _ (s2 _ _ hy) (ne_of_none hy nx)) nx la⟩⟩
/-- values in a list or a tuple -/
def SeqV (H : Hp) (v : V) (xs : List V) : Prop := ∃ p, v = .ref p ∧ (H p = some (.lst xs) ∨ H p = some (.tup xs))
theorem kit2 {t : Value} {b1 b2 : Bool} (h1 : PySem.W.kitOne K t (.type "list") = some b1) (h2 : PySem.W.kitOne K t (.type "tuple") = some b2) : PySem.W.kitAny K t [.type "list", .type "tuple"] = some (b1 || b2) := by
  unfold PySem.W.kitAny
  rw [h1]
  cases b1 with
  | true => rfl
  | false =>
    show PySem.W.kitAny K t [.type "tuple"] = _
    unfold PySem.W.kitAny
    rw [h2]
    cases b2 <;> rfl
theorem sc_Listing_of : FnScope ["cls", "strategies"] ["cls", "strategies"] (defScope (inClass (top 42) 3)) := ⟨rfl, rfl, rfl, by decide +kernel, rfl, by decide +kernel, by decide +kernel⟩
def spLof (K : PySem.W.Frag) : Sp := fun vs H Q E => ∃ v, vs = [.ref (aLi K), v] ∧ ((∃ xs os, SeqV H v xs ∧ Paired (StgV K H) xs os ∧ os.length ≤ 1000 ∧ (∀ r n, reasonF os = some (r, n) → FltL K r n H E) ∧ (reasonF os = none → ∀ ps, os = ps.map some → ∀ y H', Same H H' → H y = none → ListAt K H' y .non xs ps → Q (.ref y) H')) ∨
  ((∃ t, TyX K H v t ∧ PySem.W.kitOne K t (.type "list") = some false ∧ PySem.W.kitOne K t (.type "tuple") = some false) ∧ FltL K "strategies" none H E))
theorem fn_Listing_of (T : Txt P K mg) {fd : FuncData} (F : FunD K "of" "Listing.of" (defArgs (inClass (top 42) 3)) (defBody (inClass (top 42) 3)) (defScope (inClass (top 42) 3)) [] [] (He5.wf K (He.ga K "Listing") "classmethod" "of") fd) : FnOk P w K mg base (L2.CX P w) 8 (He5.wf K (He.ga K "Listing") "classmethod" "of") fd ["cls", "strategies"] (spLof K) := by
  obtain ⟨fI, fdI, ErC_InvalidList, ErB_InvalidList⟩ := T.e_InvalidList.made
  have G_init := ok_Listing_init (P := P) (w := w) (base := base) T
  refine F.ok sc_Listing_of (fun vs H Q E h => ?_) (fun cdv A outer s H vs Q E hr h => ?_)
  · obtain ⟨v, rfl, _⟩ := h
    rfl
  · obtain ⟨v, rfl, h⟩ := h
    refine ⟨_, (pss_cons (ps_if (pt_not (pt_val (pe_callB call_isiT (by rfl) T.z_isinstance (by decide +kernel) (pa_cons (pv 1) (pa_cons (pe_tup (pa_cons (pe_bltn (v := .ty "list") (by rfl) T.z_list (by decide +kernel) rfl) (pa_cons (pe_bltn (v := .ty "tuple") (by rfl) T.z_tuple (by decide +kernel) rfl) pa_nil))) pa_nil)))))
      (pss_one (ps_raise rfl (takes_of rfl rfl rfl rfl) (pmk_err ErC_InvalidList ErB_InvalidList (by decide) (hr.mono (by decide)) (by rfl) T.g_InvalidList (pa_cons pe_str (pa_cons pe_non pa_nil)))))
      pss_nil)
    (pss_one (ps_ret (pe_makeVS T.lis.oc.mks G_init (hr.mono (by decide)) (passes_call (takes_of rfl rfl rfl rfl) (fun _ _ _ _ h => h)) (pv 0) (pv 1))))), ?_⟩
    refine ⟨_, rfl, (show 2 ≤ sizeLine by decide), fun t nt => ?_⟩
    have s1 := same_new (o := .tup [.ty "list", .ty "tuple"]) nt
    have ht : upd H t (.tup [.ty "list", .ty "tuple"]) t = some (.tup [.ty "list", .ty "tuple"]) := upd_same
    generalize upd H t (.tup [.ty "list", .ty "tuple"]) = H1 at s1 ht
    have cls : Paired ClsV [.ty "list", .ty "tuple"] [.type "list", .type "tuple"] := .cons (.ty "list") (.cons (.ty "tuple") .nil)
    rcases h with ⟨xs, os, ⟨p, rfl, hv⟩, hp, l, kE, kQ⟩ | ⟨⟨u, ty, k1, k2⟩, kE⟩
    · obtain ⟨u, b1, b2, ty, k1, k2, hb, sq⟩ : ∃ (u : Value) (b1 b2 : Bool), TyX K H (.ref p) u ∧ PySem.W.kitOne K u (.type "list") = some b1 ∧ PySem.W.kitOne K u (.type "tuple") = some b2 ∧ (b1 || b2) = true ∧ (SqT K H1 p xs ∨ SqL K H1 p xs) := by
        rcases hv with hv | hv
        · exact ⟨_, true, false, .base (.lst hv), kit_ty (by decide +kernel), kit_ty (by decide +kernel), rfl, .inr (SqL.of (s1 _ _ hv))⟩
        · exact ⟨_, false, true, .base (.tup hv), kit_ty (by decide +kernel), kit_ty (by decide +kernel), rfl, .inl (SqT.of (s1 _ _ hv))⟩
      refine ⟨.ref p, t, _, _, _, _, rfl, ht, cls, tyX_same ty s1, kit2 k1 k2, _, rfl, iteFa (by rw [hb]; rfl) ?_⟩
      exact ⟨_, rfl, rfl, _, rfl, p, xs, rfl, sq, mkL_ok (Paired.mapP hp fun _ _ g => g.same s1) l (fun r n e => (kE r n e).same s1) fun e ps e2 y H' s2 ny la => kQ e ps e2 y H' (s1.trans s2) (s1.free ny) la⟩
    · exact ⟨v, t, _, _, _, _, rfl, ht, cls, tyX_same ty s1, kit2 k1 k2, _, rfl, iteTr rfl ⟨rfl, (kE.same s1).new⟩⟩
theorem ok_Listing_of (T : Txt P K mg) : OkF P w K mg base (L2.CX P w) 8 (He5.wf K (He.ga K "Listing") "classmethod" "of") ["cls", "strategies"] (spLof K) := by
  obtain ⟨fd, F⟩ := T.F_Listing_of
  exact ⟨fd, fn_Listing_of T F, F.bindsN fun _ _ _ _ _ _ us hl => match us, hl with | [_, _], _ => rfl, F.kp⟩
theorem okK_Listing_of (T : Txt P K mg) : FnRK P w K mg base (L2.CX P w) 8 (He5.wf K (He.ga K "Listing") "classmethod" "of") 1 ["strategies"] (spLof K) := by
  obtain ⟨fd, F⟩ := T.F_Listing_of
  exact fnOk_kw (fn_Listing_of T F) (funD_kb F fun _ _ _ _ _ _ us ws hu hw => match us, ws, hu, hw with | [_], [_], _, _ => rfl)
theorem sc_Listing_with_strategy : FnScope ["self", "strategy"] ["self", "strategy"] (defScope (inClass (top 42) 9)) := ⟨rfl, rfl, rfl, by decide +kernel, rfl, by decide +kernel, by decide +kernel⟩
def spLwith (K : PySem.W.Frag) : Sp := fun vs H Q E => ∃ (a : Addr) (kv v : V) (xs : List V) (ps : List SP) (o : Option SP), vs = [.ref a, v] ∧ ListAt K H a kv xs ps ∧ StgV K H v o ∧ (∀ r n, reasonF (ps.map some ++ [o]) = some (r, n) → FltL K r n H E) ∧ (reasonF (ps.map some ++ [o]) = none → ∀ qs, ps.map some ++ [o] = qs.map some → ∀ y H', Same H H' → H y = none → ListAt K H' y .non (xs ++ [v]) qs → Q (.ref y) H')
theorem paired_app {R : V → Option SP → Prop} : ∀ {xs : List V} {os : List (Option SP)} {xs' : List V} {os' : List (Option SP)}, Paired R xs os → Paired R xs' os' → Paired R (xs ++ xs') (os ++ os')
  | [], [], _, _, .nil, h => h
  | _ :: _, _ :: _, _, _, .cons a b, h => .cons a (paired_app b h)
theorem fn_Listing_with (T : Txt P K mg) {fd : FuncData} (F : FunD K "with_strategy" "Listing.with_strategy" (defArgs (inClass (top 42) 9)) (defBody (inClass (top 42) 9)) (defScope (inClass (top 42) 9)) [] [] (He.ma K (He.ga K "Listing") "with_strategy") fd) : FnOk P w K mg base (L2.CX P w) 9 (He.ma K (He.ga K "Listing") "with_strategy") fd ["self", "strategy"] (spLwith K) := by
  have lo := T.lis.oc
  have G_Lof := (ok_Listing_of (P := P) (w := w) (base := base) T).fnR
  refine F.ok sc_Listing_with_strategy (fun vs H Q E h => ?_) (fun cdv A outer s H vs Q E hr h => ?_)
  · obtain ⟨a, kv, v, xs, ps, o, rfl, _⟩ := h
    rfl
  · obtain ⟨a, kv, v, xs, ps, o, rfl, la, so, kE, kQ⟩ := h
    refine ⟨_, (pss_one (ps_ret (pe_cmF (pe_glob (v := .ref (He.ga K "Listing")) (by rfl) T.g_Listing rfl) (T.lis.oc.cm "of" (by decide)) G_Lof (hr.mono (by decide)) (passes_call (takes_of rfl rfl rfl rfl) (fun _ _ _ _ h => h)) (pa_cons (pe_lst (StX.pa_star (pe_fld (pv 0) rfl) (pa_cons (pv 1) pa_nil))) pa_nil)))), ?_⟩
    obtain ⟨dx, rw', bn, kvs, h1, h2, h3, h4⟩ := la.at_
    have pp := paired_app (some_paired la.st) (.cons so .nil : Paired (StgV K H) [v] [o])
    have l12 := la.good.len
    have lx : xs.length = ps.length := Paired.length la.st
    refine ⟨rfl, _, rfl, a, aLi K, dx, _, _, rfl, h1, lo.pl.cls, lo.no _ (by decide), rfl, rw', xs, rfl, .inl (SqT.of h2), _, rfl, by rw [List.length_append, lx, sizeLine_eq]; show ps.length + 1 ≤ _; omega, fun l nl => ?_⟩
    have s1 := same_new (o := .lst (xs ++ [v])) nl
    exact ⟨_, rfl, .inl ⟨xs ++ [v], _, ⟨l, rfl, .inl upd_same⟩, Paired.mapP pp fun _ _ g => g.same s1, by rw [List.length_append, List.length_map]; show ps.length + 1 ≤ _; omega, fun r n e => (kE r n e).same s1, fun e qs e2 y H' s2 ny lb => kQ e qs e2 y H' (s1.trans s2) (s1.free ny) lb⟩⟩
theorem ok_Listing_with (T : Txt P K mg) : OkF P w K mg base (L2.CX P w) 9 (He.ma K (He.ga K "Listing") "with_strategy") ["self", "strategy"] (spLwith K) := by
  obtain ⟨fd, F⟩ := T.F_Listing_with_strategy
  exact ⟨fd, fn_Listing_with T F, F.bindsN fun _ _ _ _ _ _ us hl => match us, hl with | [_, _], _ => rfl, F.kp⟩
theorem okK_Listing_with (T : Txt P K mg) : FnRK P w K mg base (L2.CX P w) 9 (He.ma K (He.ga K "Listing") "with_strategy") 1 ["strategy"] (spLwith K) := by
  obtain ⟨fd, F⟩ := T.F_Listing_with_strategy
  exact fnOk_kw (fn_Listing_with T F) (funD_kb F fun _ _ _ _ _ _ us ws hu hw => match us, ws, hu, hw with | [_], [_], _, _ => rfl)
theorem sc_Listing___len__ : FnScope ["self"] ["self"] (defScope (inClass (top 42) 14)) := ⟨rfl, rfl, rfl, by decide +kernel, rfl, by decide +kernel, by decide +kernel⟩
theorem ok_Listing_len (T : Txt P K mg) : OkF P w K mg base CX0 1 (He.ma K (He.ga K "Listing") "__len__") ["self"] (fun vs H Q _ => ∃ a kv xs ps, vs = [.ref a] ∧ ListAt K H a kv xs ps ∧ Q (.int (ps.length : Nat)) H) := by
  have lo := T.lis.oc
  obtain ⟨fd, F⟩ := T.F_Listing___len__
  refine ⟨fd, F.ok sc_Listing___len__ (fun vs H Q E h => ?_) (fun cdv A outer s H vs Q E hr h => ?_), F.bindsN fun _ _ _ _ _ _ us hl => match us, hl with | [_], _ => rfl, F.kp⟩
  · obtain ⟨a, kv, xs, ps, rfl, _⟩ := h
    rfl
  · obtain ⟨a, kv, xs, ps, rfl, la, k⟩ := h
    refine ⟨_, PSs.nox (pss_one (ps_ret (pe_callB call_len_seq (by rfl) T.z_len (by decide +kernel) (pa_cons (pe_fld (pv 0) rfl) pa_nil)))), ?_⟩
    obtain ⟨dx, rw', bn, kvs, h1, h2, h3, h4⟩ := la.at_
    rw [← Paired.length la.st] at k
    exact ⟨_, rfl, a, aLi K, dx, _, _, rfl, h1, lo.pl.cls, lo.no _ (by decide), rfl, rw', _, rfl, .inr (SqT.of h2), k⟩
theorem gsc_Listing_strategies : GScope ["self", "strategy"] ["self"] (defScope (inClass (top 42) 8)) := ⟨rfl, rfl, rfl, by decide +kernel, rfl, by decide +kernel, by decide +kernel⟩
def spLstr (K : PySem.W.Frag) : SpG := fun vs H cont _ => ∃ a kv xs ps, vs = [.ref a] ∧ ListAt K H a kv xs ps ∧ cont xs H
theorem gfn_Listing_strategies (T : Txt P K mg) {fd : FuncData} (F : FunD K "strategies" "Listing.strategies" (defArgs (inClass (top 42) 8)) (defBody (inClass (top 42) 8)) (defScope (inClass (top 42) 8)) [] [] (He.ma K (He.ga K "Listing") "strategies") fd) : GFn P w K mg base 1 (He.ma K (He.ga K "Listing") "strategies") fd ["self"] (spLstr K) := by
  have lo := T.lis.oc
  refine gfnF F gsc_Listing_strategies (fun vs H Q E h => ?_) fun cdv A outer s H vs Q E pn hr h => ?_
  · obtain ⟨a, kv, xs, ps, rfl, _⟩ := h
    rfl
  · obtain ⟨a, kv, xs, ps, rfl, la, k⟩ := h
    obtain ⟨dx, rw', bn, kvs, h1, h2, h3, h4⟩ := la.at_
    refine ⟨_, gss_one (gs_for owns_gcx rfl (pi_tup (pe_fld (pv 0) rfl)) (pg_name (i := 1) gsc_Listing_strategies.nd rfl (.inl rfl)) (gss_one (gs_yield (pv 1)))), ?_⟩
    have l12 := la.good.len
    have lx : xs.length = ps.length := Paired.length la.st
    refine ⟨_, rfl, a, aLi K, dx, _, _, rfl, h1, lo.pl.cls, lo.no _ (by decide), rfl, rw', rfl, ⟨_, SqT.of h2⟩, ?_⟩
    refine ⟨fun i m ys σ H' => m = xs.length - i ∧ i ≤ xs.length ∧ ys = xs.take i ∧ H' = H ∧ ∃ v1, σ = [some (.ref a), v1], ⟨_, rfl, Nat.zero_le _, rfl, rfl, _, rfl⟩, ?_⟩
    rintro i m ys σ H' ⟨rfl, hi, rfl, rfl, v1, rfl⟩
    by_cases hlt : i < xs.length
    · refine .inr ⟨⟨xs, xs[i], SqT.of h2, List.getElem?_eq_getElem hlt⟩, _, fun _ _ _ h => h, fun x H2 y => ?_⟩
      obtain ⟨rfl, hx⟩ := y
      have hx := hx xs (SqT.of h2)
      refine ⟨by rw [List.length_take, sizeLine_eq]; omega, _, rfl, xs.length - (i + 1), by omega, rfl, by omega, ?_, rfl, _, rfl⟩
      rw [List.take_add_one, hx]
      rfl
    · have e : i = xs.length := by omega
      subst e
      refine .inl ⟨⟨xs, SqT.of h2, Nat.le_refl _⟩, ?_⟩
      rw [List.take_length]
      exact k
theorem sc_Listing___eq__ : FnScope ["self", "other"] ["self", "other"] (defScope (inClass (top 42) 15)) := ⟨rfl, rfl, rfl, by decide +kernel, rfl, by decide +kernel, by decide +kernel⟩
def spEqLi (K : PySem.W.Frag) : Sp := fun vs H Q _ => ∃ a v kv xs ps, vs = [.ref a, v] ∧ ListAt K H a kv xs ps ∧ ((∃ b kv' xs' ps', v = .ref b ∧ ListAt K H b kv' xs' ps' ∧ xs.length = xs'.length ∧ OkIs xs xs' ∧ Q (.bl (eqIs xs xs')) H) ∨ ∃ t, TyX K H v t ∧ PySem.W.kitOne K t (.ref (aLi K)) = some false ∧ Q (.bl false) H)
theorem ok_Listing_eq (T : Txt P K mg) : OkF P w K mg base CX0 2 (He.ma K (He.ga K "Listing") "__eq__") ["self", "other"] (spEqLi K) := by
  have lo := T.lis.oc
  obtain ⟨fd, F⟩ := T.F_Listing___eq__
  refine ⟨fd, F.ok sc_Listing___eq__ (fun vs H Q E h => ?_) (fun cdv A outer s H vs Q E hr h => ?_), F.bindsN fun _ _ _ _ _ _ us hl => match us, hl with | [_, _], _ => rfl, F.kp⟩
  · obtain ⟨a, v, kv, xs, ps, rfl, _⟩ := h
    rfl
  · obtain ⟨a, v, kv, xs, ps, rfl, la, h⟩ := h
    refine ⟨_, PSs.nox (pss_one (ps_ret (pe_and (pe_callB (call_isiK K) (by rfl) T.z_isinstance (by decide +kernel) (pa_cons (pv 1) (pa_cons (pe_glob (v := .ref (He.ga K "Listing")) (by rfl) T.g_Listing rfl) pa_nil))) (pe_one (pe_cmpR (op_eqIT hr.units0) (pe_fld (pv 0) rfl) (pe_fld (pv 1) rfl) (nomark _)))))), ?_⟩
    obtain ⟨dx, rw', bn, kvs, h1, h2, h3, h4⟩ := la.at_
    rcases h with ⟨b, kv', xs', ps', rfl, lb, hl, ok, k⟩ | ⟨t, ty, e, k⟩
    · obtain ⟨dx', rw2, bn', kvs', g1, g2, g3, g4⟩ := lb.at_
      refine ⟨_, rfl, _, _, _, _, _, rfl, .own (aLi K), lo.pl.ty T.all g1, T.lis.kk, _, rfl, iteT ?_⟩
      exact ⟨_, rfl, a, aLi K, dx, _, _, rfl, h1, lo.pl.cls, lo.no _ (by decide), rfl, _, rfl, b, aLi K, dx', _, _, rfl, g1, lo.pl.cls, lo.no _ (by decide), rfl, rw', rw2, xs, xs', rfl, rfl, SqT.of h2, SqT.of g2, hl, ok, k⟩
    · exact ⟨_, rfl, _, _, _, _, _, rfl, .own (aLi K), ty, e, _, rfl, k⟩
end
end Kx
set_option maxHeartbeats 4000000
namespace Kx
open PySem PySem.Spec PyProof.Rows L2 Xr LamX
section
variable {P : Program} {w : World} {K : PySem.W.Frag} {mg : Str → Option Value} {base : Heap}
def qOf (x : Str) : Str := (x ++ ".<locals>.") ++ "<lambda>"
def tabsT (K : PySem.W.Frag) : List (Addr × Str) := tf.map fun p => ((He.cT K p).2, qOf p.1)
theorem tabs_mem {p : He.Defn} (h : p ∈ tf) : ((He.cT K p).2, qOf p.1) ∈ tabsT K := List.mem_map.mpr ⟨p, h, rfl⟩
theorem tabs_one (T : Txt P K mg) {p : He.Defn} (h : p ∈ tf) : ∀ e ∈ tabsT K, e.1 = (He.cT K p).2 → e.2 = qOf p.1 := fun e he z => by
  obtain ⟨p', hp', rfl⟩ := List.mem_map.mp he
  have nd : (tf.map fun p => (He.cT K p).2).Nodup := T.tnd
  have key : ∀ (l : List He.Defn), (l.map fun p => (He.cT K p).2).Nodup → ∀ a ∈ l, ∀ b ∈ l, (He.cT K a).2 = (He.cT K b).2 → a = b := by
    intro l
    induction l with
    | nil => intro _ a ha; exact (List.not_mem_nil ha).elim
    | cons c r ih =>
      intro nd a ha b hb e
      rw [List.map_cons, List.nodup_cons] at nd
      rcases List.mem_cons.mp ha with rfl | ha'
      · rcases List.mem_cons.mp hb with rfl | hb'
        · rfl
        · exact absurd (List.mem_map.mpr ⟨b, hb', e.symm⟩) nd.1
      · rcases List.mem_cons.mp hb with rfl | hb'
        · exact absurd (List.mem_map.mpr ⟨a, ha', e⟩) nd.1
        · exact ih nd.2 a ha' b hb' e
  rw [key tf nd p' hp' p h z]
/-- all but the pen and the tables stays -/
def ButN (p : Addr) (H H' : Hp) : Prop := ∀ b o, H b = some o → b ≠ p → (∀ ps, o ≠ .tbl ps) → H' b = some o
theorem ButN.but {p : Addr} {H H' : Hp} (b : But p H H') : ButN p H H' := fun x o h n _ => b x o h n
theorem ButN.extN {p : Addr} {H H' : Hp} (b : ExtN H H') : ButN p H H' := fun x o h _ n => b x o h n
theorem ButN.trans {p : Addr} {H H1 H2 : Hp} (a : ButN p H H1) (b : ButN p H1 H2) : ButN p H H2 := fun x o h n t => b _ _ (a _ _ h n t) n t
theorem PenAt.extN {H H' : Hp} {p q : Addr} {ns : List Int} {a r : Int} (S : PenAt H p q ns a r) (s : ExtN H H') : PenAt H' p q ns a r := ⟨s _ _ S.pen (fun _ z => by cases z), s _ _ S.cells (fun _ z => by cases z), S.len, S.a0, S.r0⟩
theorem tabs_but {T : List (Addr × Str)} {H H' : Hp} {l : Addr} {xs : List V} (t : Tabs T H) (h : H l = some (.lst xs)) (B : But l H H') : Tabs T H' := fun p hp => by
  obtain ⟨ps, h1, h2, h3⟩ := t p hp
  have n1 : p.1 ≠ l := fun z => by rw [z, h] at h1; cases h1
  refine ⟨ps, B _ _ h1 n1, h2, fun pos cv hc => ?_⟩
  obtain ⟨c, e1, e2⟩ := h3 pos cv hc
  have n2 : c ≠ l := fun z => by
    rw [z, h] at e2
    have e3 := Option.some.inj e2
    unfold CodeO at e3
    cases e3
  exact ⟨c, e1, B _ _ e2 n2⟩
end
end Kx
set_option maxHeartbeats 4000000
namespace Kx
open PySem PySem.Spec PyProof.Rows L2 Xr LamX
local macro_rules | `(tactic| walk_at "rd") => `(tactic| (repeat (first | apply Exists.intro | (refine And.intro rfl ?_) | (refine And.intro (SqL.of (by assumption)) ?_) | (refine And.intro (Or.inl (SqL.of (by assumption))) ?_) | (refine Or.inl ⟨_, rfl, ?_⟩) | (refine Or.inr ⟨_, rfl, ?_⟩) | (refine And.intro (by assumption) ?_) | (refine And.intro (Or.inl (by assumption)) ?_))))
theorem passN {X : Cx} {P : Program} {w : World} : Passes (L2.CX P w) X (fun _ _ _ => False) := fun _ _ _ _ _ _ _ h => by
  obtain ⟨_, _, _, _, _, _, _, _, _, _, _, _, z⟩ := h
  exact z.elim
theorem perm_canon {m t : Tab} (c : Canon m) (nd : (ks t).Nodup) (nz : ∀ p ∈ t, p.2 ≠ 0) (h : ∀ k, val m k = val t k) : m.Perm t := by
  have n1 : m.Nodup := (List.Pairwise.of_map (fun p : Str × Int => p.1) (fun a b h e => h (by rw [e])) c.nd)
  have n2 : t.Nodup := (List.Pairwise.of_map (fun p : Str × Int => p.1) (fun a b h e => h (by rw [e])) nd)
  refine (List.perm_ext_iff_of_nodup n1 n2).mpr fun p => ⟨fun hp => ?_, fun hp => ?_⟩
  · have e := val_mem c.nd hp
    have z := c.nz p hp
    rw [h] at e
    by_cases hk : p.1 ∈ ks t
    · obtain ⟨p', hp', e'⟩ := List.mem_map.mp hk
      have e2 := val_mem nd hp'
      rw [e', e] at e2
      have : p' = p := Prod.ext e' e2.symm
      exact this ▸ hp'
    · rw [val_out hk] at e
      exact absurd e.symm z
  · have e := val_mem nd hp
    have z := nz p hp
    rw [← h] at e
    by_cases hk : p.1 ∈ ks m
    · obtain ⟨p', hp', e'⟩ := List.mem_map.mp hk
      have e2 := val_mem c.nd hp'
      rw [e', e] at e2
      have : p' = p := Prod.ext e' e2.symm
      exact this ▸ hp'
    · rw [val_out hk] at e
      exact absurd e.symm z
theorem stgOk_perm {m t : Tab} (h : m.Perm t) : stgOk m = stgOk t := by
  unfold stgOk
  rw [h.length_eq]
  congr 1
  rw [Bool.eq_iff_iff, List.all_eq_true, List.all_eq_true]
  exact ⟨fun z p hp => z p (h.mem_iff.mpr hp), fun z p hp => z p (h.mem_iff.mp hp)⟩
def namesL : List Str := ["s", "fly", "c", "zz", "a", "top", "m", "abcdefgh", "b", "j", "x", "k", "n", "o", "p", "r"]
def mons9 : List Str := ["z", "m", "aa", "jan", "q", "b", "zz", "c", "d"]
/-- names as the law draws them -/
def NmOk (n : Str) : Prop := nameB n = true ∧ PyData.strOk n = true
theorem names_ok : ∀ n ∈ namesL, NmOk n := by
  unfold NmOk
  decide +kernel
theorem mons_ok : ∀ n ∈ mons9, nameB n = true := by decide +kernel
/-- drawn numbers of months -/
structure SmT (t : Tab) : Prop where
  nd : (ks t).Nodup
  sub : ∀ k ∈ ks t, k ∈ mons9
  sm : ∀ p ∈ t, 1 ≤ p.2 ∧ p.2 ≤ 4
theorem smT_nil : SmT [] := ⟨List.nodup_nil, fun _ h => (List.not_mem_nil h).elim, fun _ h => (List.not_mem_nil h).elim⟩
theorem SmT.put {t : Tab} {k : Str} {v : Int} (g : SmT t) (hk : k ∈ mons9) (h1 : 1 ≤ v) (h2 : v ≤ 4) : SmT (putT t k v) := by
  refine ⟨nd_put g.nd, fun j hj => ?_, fun p hp => (mem_put hp).elim (fun e => e ▸ ⟨h1, h2⟩) (g.sm p)⟩
  rw [ks_put] at hj
  split at hj
  · exact g.sub j hj
  · rcases List.mem_append.mp hj with h | h
    · exact g.sub j h
    · rw [List.mem_singleton.mp h]; exact hk
theorem SmT.good {t : Tab} (g : SmT t) (l : t.length ≤ 3) : GoodT t := ⟨g.nd, fun k hk => mons_ok k (g.sub k hk), fun p hp => by
  have := g.sm p hp
  show absV p.2 < 10 ^ 60
  unfold absV
  split <;> omega, by omega⟩
theorem SmT.ok {t m : Tab} (g : SmT t) (l1 : 1 ≤ t.length) (l : t.length ≤ 3) (c : Canon m) (h : ∀ k, val m k = val t k) : stgOk m = true := by
  have hp := perm_canon c g.nd (fun p hp => by have := g.sm p hp; omega) h
  rw [stgOk_perm hp]
  unfold stgOk
  rw [decide_eq_true l1, decide_eq_true (show t.length ≤ 6 by omega), Bool.true_and, Bool.true_and, List.all_eq_true]
  intro p hp
  have := g.sm p hp
  refine decide_eq_true ?_
  unfold absI
  split <;> omega
theorem put_pos {t : Tab} {k : Str} {v : Int} : 1 ≤ (putT t k v).length := by
  have z : k ∈ ks (putT t k v) := by
    rw [ks_put]
    split
    · assumption
    · simp
  obtain ⟨p, hp, _⟩ := List.mem_map.mp z
  exact List.length_pos_of_mem hp
theorem penBut {H H' : Hp} {p q l : Addr} {ns : List Int} {a r : Int} (S : PenAt H p q ns a r) (b : But l H H') (n1 : p ≠ l) (n2 : q ≠ l) : PenAt H' p q ns a r := ⟨b _ _ S.pen n1, b _ _ S.cells n2, S.len, S.a0, S.r0⟩
section
variable {P : Program} {w : World} {K : PySem.W.Frag} {mg : Str → Option Value} {base : Heap}
/-- a value of the law's lists: a strategy, or another one -/
def ItV (K : PySem.W.Frag) (H : Hp) (v : V) (o : Option SP) : Prop := match o with
  | some q => (∃ a, v = .ref a ∧ StgA K H a q.1 q.2) ∧ stgOk q.2 = true ∧ NmOk q.1
  | none => v = .non ∨ v = .str "s" ∨ v = .int 0 ∨ v = .bl true ∨ (∃ a, v = .ref a ∧ (H a = some (.tup [.str "s", .int 1]) ∨ H a = some (.lst [.str "s"]) ∨ H a = some (.dK []))) ∨ ∃ a m, v = .ref a ∧ LegsAt H (aL K) a m
theorem LegsAt.map {H H' : Hp} {C a : Addr} {m : Tab} (l : LegsAt H C a m) (s : ∀ b o, H b = some o → ((∃ C dx fs, o = .ins C dx fs) ∨ ∃ t, o = .dK t) → H' b = some o) : LegsAt H' C a m := by
  obtain ⟨⟨dx, d, h1, h2⟩, c, n⟩ := l
  exact ⟨⟨dx, d, s _ _ h1 (.inl ⟨_, _, _, rfl⟩), s _ _ h2 (.inr ⟨_, rfl⟩)⟩, c, n⟩
theorem StgAt.map {H H' : Hp} {C a : Addr} {n : Str} {m : Tab} (g : StgAt K H C a n m) (s : ∀ b o, H b = some o → ((∃ C dx fs, o = .ins C dx fs) ∨ ∃ t, o = .dK t) → H' b = some o) : StgAt K H' C a n m := by
  obtain ⟨dx, l, h1, h2⟩ := g.at_
  exact ⟨dx, l, s _ _ h1 (.inl ⟨_, _, _, rfl⟩), h2.map s⟩
theorem LegA.map {H H' : Hp} {a : Addr} {m : Tab} (g : LegA K H a m) (s : ∀ b o, H b = some o → ((∃ C dx fs, o = .ins C dx fs) ∨ ∃ t, o = .dK t) → H' b = some o) : LegA K H' a m := by
  obtain ⟨C, c, g⟩ := g
  exact ⟨C, c, g.map s⟩
theorem StgA.map {H H' : Hp} {a : Addr} {n : Str} {m : Tab} (g : StgA K H a n m) (s : ∀ b o, H b = some o → ((∃ C dx fs, o = .ins C dx fs) ∨ ∃ t, o = .dK t) → H' b = some o) : StgA K H' a n m := by
  obtain ⟨C, c, g⟩ := g
  exact ⟨C, c, g.map s⟩
theorem ItV.map {H H' : Hp} {v : V} {o : Option SP} (h : ItV K H v o) (s : ∀ b o, H b = some o → ((∃ C dx fs, o = .ins C dx fs) ∨ ∃ t, o = .dK t) → H' b = some o) (s2 : ∀ a o, v = .ref a → H a = some o → (o = .tup [.str "s", .int 1] ∨ o = .lst [.str "s"]) → H' a = some o) : ItV K H' v o := by
  cases o with
  | some q =>
    obtain ⟨⟨a, e, g⟩, k⟩ := h
    exact ⟨⟨a, e, g.map s⟩, k⟩
  | none =>
    rcases h with h | h | h | h | ⟨a, e, h | h | h⟩ | ⟨a, m, e, l⟩
    · exact .inl h
    · exact .inr (.inl h)
    · exact .inr (.inr (.inl h))
    · exact .inr (.inr (.inr (.inl h)))
    · exact .inr (.inr (.inr (.inr (.inl ⟨a, e, .inl (s2 a _ e h (.inl rfl))⟩))))
    · exact .inr (.inr (.inr (.inr (.inl ⟨a, e, .inr (.inl (s2 a _ e h (.inr rfl)))⟩))))
    · exact .inr (.inr (.inr (.inr (.inl ⟨a, e, .inr (.inr (s _ _ h (.inr ⟨_, rfl⟩)))⟩))))
    · exact .inr (.inr (.inr (.inr (.inr ⟨a, m, e, l.map s⟩))))
theorem ItV.same {H H' : Hp} {v : V} {o : Option SP} (h : ItV K H v o) (s : Same H H') : ItV K H' v o := h.map (fun b o e _ => s b o e) fun a o _ e _ => s a o e
theorem ItV.extN {H H' : Hp} {v : V} {o : Option SP} (h : ItV K H v o) (s : ExtN H H') : ItV K H' v o := h.map (fun b o e z => s b o e fun ps z2 => by rcases z with ⟨_, _, _, rfl⟩ | ⟨_, rfl⟩ <;> cases z2) fun a o _ e z => s a o e fun ps z2 => by rcases z with rfl | rfl <;> cases z2
theorem ItV.but {H H' : Hp} {v : V} {o : Option SP} {p : Addr} {xs : List V} (h : ItV K H v o) (hp : H p = some (.lst xs)) (n : v ≠ .ref p) (b : But p H H') : ItV K H' v o :=
  h.map (fun c o e z => b c o e fun z2 => by rw [z2, hp] at e; cases e; rcases z with ⟨_, _, _, z⟩ | ⟨_, z⟩ <;> cases z) fun a o e h2 _ => b a o h2 fun z => n (by rw [e, z])
theorem ItV.ne_lst {H : Hp} {v : V} {o : Option SP} {p : Addr} {xs : List V} (h : ItV K H v o) (hp : H p = some (.lst xs)) (hx : xs ≠ [.str "s"]) : v ≠ .ref p := by
  intro e
  subst e
  cases o with
  | some q =>
    obtain ⟨⟨a, e, ⟨C, c, g⟩⟩, _⟩ := h
    cases e
    obtain ⟨dx, l, h1, _⟩ := g.at_
    rw [hp] at h1
    cases h1
  | none =>
    rcases h with h | h | h | h | ⟨a, e, h | h | h⟩ | ⟨a, m, e, l⟩
    · cases h
    · cases h
    · cases h
    · cases h
    · cases e; rw [hp] at h; cases h
    · cases e; rw [hp] at h; cases h; exact hx rfl
    · cases e; rw [hp] at h; cases h
    · cases e
      obtain ⟨dx, d, h1, _⟩ := l.at_
      rw [hp] at h1
      cases h1
theorem ItV.ne_pen {H : Hp} {v : V} {o : Option SP} {p q : Addr} {ns : List Int} {a r : Int} (h : ItV K H v o) (S : PenAt H p q ns a r) : v ≠ .ref p := h.ne_lst S.pen (by simp)
theorem ItV.pen {H H' : Hp} {v : V} {o : Option SP} {p q : Addr} {ns : List Int} {a r : Int} (h : ItV K H v o) (S : PenAt H p q ns a r) (b : But p H H') : ItV K H' v o := h.but S.pen (h.ne_pen S) b
theorem ItV.ne_mem {H : Hp} {v : V} {o : Option SP} {l : Addr} {xs : List V} (h : ItV K H v o) (hl : H l = some (.lst xs)) (hm : v ∈ xs) : v ≠ .ref l := by
  by_cases hx : xs = [.str "s"]
  · rw [hx] at hm
    rw [List.mem_singleton.mp hm]
    exact fun z => by cases z
  · exact h.ne_lst hl hx
theorem ItV.ok {H : Hp} {v : V} {o : Option SP} (h : ItV K H v o) : okI v v = true := by
  cases o with
  | some q =>
    obtain ⟨⟨a, e, _⟩, _⟩ := h
    rw [e]
    exact beq_self_eq_true a
  | none => rcases h with h | h | h | h | ⟨a, e, _⟩ | ⟨a, m, e, _⟩ <;> subst_vars <;> first | rfl | exact beq_self_eq_true _
theorem ItV.stg {H : Hp} {v : V} {o : Option SP} (T : Txt P K mg) (h : ItV K H v o) : StgV K H v o := by
  have so := T.stg.oc
  cases o with
  | some q =>
    obtain ⟨⟨a, e, g⟩, k, _⟩ := h
    exact ⟨a, e, g, k⟩
  | none =>
    rcases h with rfl | rfl | rfl | rfl | ⟨a, rfl, h | h | h⟩ | ⟨a, m, rfl, l⟩
    · exact ⟨_, .base .non, T.stg.pS _ (by decide)⟩
    · exact ⟨_, .base (.str _), T.stg.pS _ (by decide)⟩
    · exact ⟨_, .base (.int _), T.stg.pS _ (by decide)⟩
    · exact ⟨_, .base (.bl _), T.stg.pS _ (by decide)⟩
    · exact ⟨_, .base (.tup h), T.stg.pS _ (by decide)⟩
    · exact ⟨_, .base (.lst h), T.stg.pS _ (by decide)⟩
    · exact ⟨_, .base (.dK h), T.stg.pS _ (by decide)⟩
    · obtain ⟨dx, d, h1, _⟩ := l.at_
      exact ⟨_, T.leg.cL.pl.ty T.all h1, T.lis.kL⟩
theorem sc__law_strategy : FnScope ["_law_pen_here", "_law_most", "_law_months_so", "_law_found", "_law_turn", "_law_names_so"] ["_law_pen_here", "_law_most"] (defScope (top 47)) := ⟨rfl, rfl, rfl, by decide +kernel, rfl, by decide +kernel, by decide +kernel⟩
def spDrawS (K : PySem.W.Frag) : Sp := fun vs H Q _ => ∃ (p q : Addr) (ns : List Int) (a r n : Int), vs = [.ref p, .int n] ∧ PenAt H p q ns a r ∧ a ≤ 800000 ∧ (n = 3 ∨ n = 6 ∨ n = 9) ∧
  ∀ (v : V) (s : SP) (a' r' : Int) (H' : Hp), ItV K H' v (some s) → (∀ x, v = .ref x → H x = none) → a ≤ a' → a' ≤ a + 10 → But p H H' → PenAt H' p q ns a' r' → Q v H'
theorem cut9 {n : Int} (h : n = 3 ∨ n = 6 ∨ n = 9) : (∀ v ∈ cutV (mons9.map V.str) none (some n), ∃ k ∈ mons9, v = .str k) ∧ 1 ≤ (cutV (mons9.map V.str) none (some n)).length ∧ (cutV (mons9.map V.str) none (some n)).length ≤ 1000 := by
  have go : ∀ l : List Str, (∀ k ∈ l, k ∈ mons9) → ∀ v ∈ l.map V.str, ∃ k ∈ mons9, v = .str k := fun l h v hv => by
    obtain ⟨k, hk, rfl⟩ := List.mem_map.mp hv
    exact ⟨k, h k hk, rfl⟩
  rcases h with rfl | rfl | rfl
  · exact ⟨go ["z", "m", "aa"] (by decide), by decide +kernel, by decide +kernel⟩
  · exact ⟨go ["z", "m", "aa", "jan", "q", "b"] (by decide), by decide +kernel, by decide +kernel⟩
  · exact ⟨go mons9 (by decide), by decide +kernel, by decide +kernel⟩
theorem ok__law_strategy (T : Txt P K mg) : OkF P w K mg base CX0 9 (He.ga K "_law_strategy") ["_law_pen_here", "_law_most"] (spDrawS K) := by
  have G__law_draw := ok__law_draw (P := P) (w := w) (base := base) T
  have G__law_pick := ok__law_pick (P := P) (w := w) (base := base) T
  have G_Strategy := ok_Strategy_init (P := P) (w := w) (base := base) T
  have G_of := (ok_Legs_of (P := P) (w := w) (base := base) T).fnR
  obtain ⟨fd, F⟩ := T.F__law_strategy
  refine ⟨fd, F.ok sc__law_strategy (fun vs H Q E h => ?_) (fun cdv A outer s H vs Q E hr h => ?_), F.bindsN fun _ _ _ _ _ _ us hl => match us, hl with | [_, _], _ => rfl, F.kp⟩
  · obtain ⟨p, q, ns, a, r, n, rfl, _⟩ := h
    rfl
  · obtain ⟨p, q, ns, a, r, n, rfl, S, a2, hn, k⟩ := h
    have hu := hu_of hr
    refine ⟨_, PSs.nox (pss_cons (ps_asg (pe_slice sl_list (pe_lst (pa_cons pe_str (pa_cons pe_str (pa_cons pe_str (pa_cons pe_str (pa_cons pe_str (pa_cons pe_str (pa_cons pe_str (pa_cons pe_str (pa_cons pe_str pa_nil)))))))))) po_none (po_some (pv 1))) (pg_name (i := 2) sc__law_strategy.nd rfl (.inl rfl)))
    (pss_cons (ps_asg pe_dnewK (pg_name (i := 3) sc__law_strategy.nd rfl (.inl rfl)))
    (pss_cons (ps_for PassesOwn.never rfl (pi_range1 (by rfl) T.z_range (pa_cons (pe_op op_add pe_int (pe_f G__law_draw (hr.mono (by decide)) (by rfl) T.g__law_draw pass0 (pa_cons (pv 0) (pa_cons pe_int pa_nil)))) pa_nil)) (pg_name (i := 4) sc__law_strategy.nd rfl (.inl rfl))
      (pss_one (ps_dput hu (pv 3) (pe_f G__law_pick (hr.mono (by decide)) (by rfl) T.g__law_pick pass0 (pa_cons (pv 0) (pa_cons (pv 2) pa_nil))) (pe_op op_add (pe_f G__law_draw (hr.mono (by decide)) (by rfl) T.g__law_draw pass0 (pa_cons (pv 0) (pa_cons pe_int pa_nil))) pe_int) rfl)))
    (pss_cons (ps_asg (pe_lst (pa_cons pe_str (pa_cons pe_str (pa_cons pe_str (pa_cons pe_str (pa_cons pe_str (pa_cons pe_str (pa_cons pe_str (pa_cons pe_str (pa_cons pe_str (pa_cons pe_str (pa_cons pe_str (pa_cons pe_str (pa_cons pe_str (pa_cons pe_str (pa_cons pe_str (pa_cons pe_str pa_nil))))))))))))))))) (pg_name (i := 5) sc__law_strategy.nd rfl (.inl rfl)))
    (pss_one (ps_ret (pe_mkI T.stg.oc.mks G_Strategy (hr.mono (by decide)) (by rfl) T.g_Strategy passN (pa_cons (pe_f G__law_pick (hr.mono (by decide)) (by rfl) T.g__law_pick pass0 (pa_cons (pv 0) (pa_cons (pv 5) pa_nil))) (pa_cons (pe_cmF (pe_glob (v := .ref (He.ga K "Legs")) (by rfl) T.g_Legs rfl) T.leg.of_ G_of (hr.mono (by decide)) pass0 (pa_cons (pv 3) pa_nil)) pa_nil))))))))), ?_⟩
    refine ⟨show 9 ≤ sizeLine by decide, fun l0 nl0 => ?_⟩
    have s0 : Same H (upd H l0 (.lst (mons9.map V.str))) := same_new nl0
    have h0 : upd H l0 (.lst (mons9.map V.str)) l0 = some (.lst (mons9.map V.str)) := upd_same
    generalize hG0 : upd H l0 (.lst _) = H0
    have eG0 : upd H l0 (.lst (mons9.map V.str)) = H0 := hG0
    rw [eG0] at s0 h0
    clear hG0 eG0
    refine ⟨_, rfl, n, rfl, l0, _, rfl, SqL.of h0, fun l nl => ?_⟩
    obtain ⟨c1, c2, c3⟩ := cut9 hn
    generalize cutV (mons9.map V.str) none (some n) = ms at c1 c2 c3
    have s1 : Same H0 (upd H0 l (.lst ms)) := same_new nl
    have h1 : upd H0 l (.lst ms) l = some (.lst ms) := upd_same
    generalize upd H0 l (.lst ms) = H1 at s1 h1
    refine fun f nf => ?_
    have s2 : Same H1 (upd H1 f (.dK [])) := same_new nf
    have h2 : upd H1 f (.dK []) f = some (.dK (tabK [])) := upd_same
    generalize upd H1 f (.dK []) = H2 at s2 h2
    have hl2 := s2 _ _ h1
    have s02 := (s0.trans s1).trans s2
    have S2 := S.same s02
    have nlp : l ≠ p := fun z => by rw [z, (S.same s0).pen] at nl; cases nl
    have nfp : f ≠ p := fun z => by rw [z, ((S.same s0).same s1).pen] at nf; cases nf
    have nfq : q ≠ f := fun z => by rw [← z, ((S.same s0).same s1).cells] at nf; cases nf
    have nfl : l ≠ f := fun z => by rw [← z, h1] at nf; cases nf
    have nfH : H f = none := (s0.trans s1).free nf
    refine ⟨_, rfl, p, q, ns, a, r, 3, rfl, S2, by decide, by decide, by omega, fun d a3 r3 H3 d0 d1 e1 e2 B3 S3 => ?_⟩
    have d1 : d < 3 := d1
    refine ⟨1, d, rfl, rfl, 1 + d, rfl, by omega, by omega, ?_⟩
    refine for_range (fun i σ' H' => ∃ (t : Tab) (v v5 : Option V) (a' r' : Int), σ' = [some (.ref p), some (.int n), some (.ref l), some (.ref f), v, v5] ∧ H' l = some (.lst ms) ∧ H' f = some (.dK (tabK t)) ∧ SmT t ∧ t.length ≤ i ∧ (1 ≤ i → 1 ≤ t.length) ∧
      a ≤ a' ∧ a' ≤ a + 1 + 2 * i ∧ But p H H' ∧ PenAt H' p q ns a' r') ?_ ?_ ?_
    · exact ⟨[], none, none, a3, r3, rfl, B3 _ _ hl2 nlp, B3 _ _ h2 nfp, smT_nil, Nat.le_refl _, fun z => absurd z (by decide), e1, by omega, fun b o hb nb => B3 _ _ (s02 _ _ hb) nb, S3⟩
    · rintro i σ' H' hi ⟨t, v, v5, a', r', rfl, hl, ht, g, tl, t1, b1, b2, B, S'⟩
      have hi3 : i < 3 := by omega
      refine ⟨_, rfl, p, q, ns, a', r', 4, rfl, S', by decide, by decide, by omega, fun x a4 r4 H4 x0 x1 c4 c5 B4 S4 => ?_⟩
      have x1 : x < 4 := x1
      have hl4 := B4 _ _ hl nlp
      refine ⟨x, 1, rfl, rfl, _, rfl, _, rfl, _, rfl, p, q, l, ns, a4, r4, ms, rfl, S4, by omega, hl4, nlp, c2, c3, fun y a5 r5 H5 hy c6 c7 B5 S5 => ?_⟩
      obtain ⟨kk, hk, rfl⟩ := c1 y hy
      have ht5 := B5 _ _ (B4 _ _ ht nfp) nfp
      refine ⟨f, _, rfl, DPut.k (k := Sum.inr kk) ht5 (by unfold tabK; rw [List.length_map, sizeLine_eq]; omega), ?_⟩
      rw [put_tab]
      have bl : But f H5 (upd H5 f (.dK (tabK (putT t kk (x + 1))))) := But.upd But.refl
      refine ⟨putT t kk (x + 1), _, v5, a5, r5, rfl, bl _ _ (B5 _ _ hl4 nlp) nfl, upd_same, g.put hk (by omega) (by omega), ?_, fun _ => put_pos, by omega, by omega, fun b o hb nb => ?_, penBut S5 bl (Ne.symm nfp) nfq⟩
      · have := put_len (t := t) (k := kk) (v := x + 1)
        omega
      · exact bl _ _ (B5 _ _ (B4 _ _ (B _ _ hb nb) nb) nb) (ne_of_none hb nfH)
    · rintro σ' H4 ⟨t, v, v5, a4, r4, rfl, hl, ht, g, tl, t1, b1, b2, B, S4⟩
      have t1 := t1 (by omega)
      have tl : t.length ≤ 3 := by omega
      refine ⟨show 16 ≤ sizeLine by decide, fun l5 n5 => ?_⟩
      have s5 : Same H4 (upd H4 l5 (.lst (namesL.map V.str))) := same_new n5
      have h5 : upd H4 l5 (.lst (namesL.map V.str)) l5 = some (.lst (namesL.map V.str)) := upd_same
      generalize hG5 : upd H4 l5 (.lst _) = H5
      have eG5 : upd H4 l5 (.lst (namesL.map V.str)) = H5 := hG5
      rw [eG5] at s5 h5
      clear hG5 eG5
      have S5 := S4.same s5
      have n5p : l5 ≠ p := fun z => by rw [z, S4.pen] at n5; cases n5
      refine ⟨_, rfl, _, rfl, p, q, l5, ns, a4, r4, _, rfl, S5, by omega, h5, n5p, by decide +kernel, by decide +kernel, fun y a6 r6 H6 hy c6 c7 B6 S6 => ?_⟩
      obtain ⟨nm, hnm, rfl⟩ := List.mem_map.mp hy
      have ht6 := B6 _ _ (s5 _ _ ht) nfp
      have ok := names_ok nm hnm
      refine ⟨rfl, _, rfl, _, f, t, rfl, ht6, g.good tl, fun y m H7 cm hv hlen s7 lm => ?_⟩
      have om := g.ok t1 tl cm hv
      refine mkS_ok (bn := true) (bl := true) (.inl ⟨nm, rfl, name_len ok.1, ok.1⟩) (.inl ⟨y, aT K, m, rfl, lm, T.leg.cT, om⟩) (fun z => by cases z) (fun _ z => by cases z) fun _ _ x dx H8 s8 hx nx => ?_
      have b08 : But p H H8 := fun b o hb nb => s8 _ _ (s7 _ _ (B6 _ _ (s5 _ _ (B _ _ hb nb)) nb))
      refine k (.ref x) (nm, m) a6 r6 H8 ⟨⟨x, rfl, ⟨aT K, T.leg.cT, ⟨dx, y, hx, lm.same s8⟩⟩⟩, om, ok⟩ (fun z e => ?_) (by omega) (by omega) b08 ((S6.same s7).same s8)
      cases e
      cases hz : H x with
      | none => rfl
      | some o =>
        by_cases hp : x = p
        · rw [hp, (S6.same s7).pen] at nx
          cases nx
        · have := s7 _ _ (B6 _ _ (s5 _ _ (B _ _ hz hp)) hp)
          rw [nx] at this
          cases this
end
end Kx
set_option maxHeartbeats 4000000
namespace Kx
open PySem PySem.Spec PyProof.Rows L2 Xr LamX
local macro_rules | `(tactic| walk_at "rd") => `(tactic| (repeat (first | apply Exists.intro | (refine And.intro rfl ?_) | (refine And.intro (SqL.of (by assumption)) ?_) | (refine And.intro (Or.inl (SqL.of (by assumption))) ?_) | (refine Or.inl ⟨_, rfl, ?_⟩) | (refine Or.inr ⟨_, rfl, ?_⟩) | (refine And.intro (by assumption) ?_) | (refine And.intro (Or.inl (by assumption)) ?_))))
section
variable {P : Program} {w : World} {K : PySem.W.Frag} {mg : Str → Option Value} {base : Heap}
/-- a list of the law -/
structure ItL (K : PySem.W.Frag) (H : Hp) (l : Addr) (xs : List V) (os : List (Option SP)) : Prop where
  at_ : H l = some (.lst xs)
  it : Paired (ItV K H) xs os
theorem ItL.same {H H' : Hp} {l : Addr} {xs : List V} {os : List (Option SP)} (h : ItL K H l xs os) (s : Same H H') : ItL K H' l xs os := ⟨s _ _ h.at_, Paired.mapP h.it fun _ _ z => z.same s⟩
theorem ItL.extN {H H' : Hp} {l : Addr} {xs : List V} {os : List (Option SP)} (h : ItL K H l xs os) (s : ExtN H H') : ItL K H' l xs os := ⟨s _ _ h.at_ (fun _ z => by cases z), Paired.mapP h.it fun _ _ z => z.extN s⟩
theorem it_pen {H H' : Hp} {p q : Addr} {ns : List Int} {a r : Int} {xs : List V} {os : List (Option SP)} (h : Paired (ItV K H) xs os) (S : PenAt H p q ns a r) (b : But p H H') : Paired (ItV K H') xs os := Paired.mapP h fun _ _ z => z.pen S b
theorem ItL.pen {H H' : Hp} {p q l : Addr} {ns : List Int} {a r : Int} {xs : List V} {os : List (Option SP)} (h : ItL K H l xs os) (S : PenAt H p q ns a r) (n : l ≠ p) (b : But p H H') : ItL K H' l xs os := ⟨b _ _ h.at_ n, it_pen h.it S b⟩
theorem pair_mem {α β : Type} {R R' : α → β → Prop} : ∀ {xs : List α} {ys : List β}, Paired R xs ys → (∀ a b, a ∈ xs → R a b → R' a b) → Paired R' xs ys
  | [], [], .nil, _ => .nil
  | _ :: _, _ :: _, .cons h t, f => .cons (f _ _ (List.mem_cons_self ..) h) (pair_mem t fun a b ha => f a b (List.mem_cons_of_mem _ ha))
/-- the items, where the list itself changes -/
theorem it_self {H H' : Hp} {l : Addr} {xs : List V} {os : List (Option SP)} (h : Paired (ItV K H) xs os) (hl : H l = some (.lst xs)) (b : But l H H') : Paired (ItV K H') xs os := pair_mem h fun _ _ hm z => z.but hl (z.ne_mem hl hm) b
theorem it_stg {H : Hp} {xs : List V} {os : List (Option SP)} (T : Txt P K mg) (h : Paired (ItV K H) xs os) : Paired (StgV K H) xs os := Paired.mapP h fun _ _ z => z.stg T
theorem paired_getI {R : V → Option SP → Prop} : ∀ {vs : List V} {sts : List (Option SP)}, Paired R vs sts → ∀ (i : Nat) (x : V), vs[i]? = some x → ∃ st, sts[i]? = some st ∧ R x st
  | _, _, .nil, i, x, h => by cases h
  | _, _, .cons a b, 0, x, h => by cases h; exact ⟨_, rfl, a⟩
  | _, _, .cons a b, i + 1, x, h => paired_getI b i x h
theorem paired_appI {R : V → Option SP → Prop} : ∀ {xs : List V} {os : List (Option SP)} {xs' : List V} {os' : List (Option SP)}, Paired R xs os → Paired R xs' os' → Paired R (xs ++ xs') (os ++ os')
  | [], [], _, _, .nil, h => h
  | _ :: _, _ :: _, _, _, .cons a b, h => .cons a (paired_appI b h)
theorem paired_takeI {R : V → Option SP → Prop} : ∀ {xs : List V} {os : List (Option SP)} (i : Nat), Paired R xs os → Paired R (xs.take i) (os.take i)
  | _, _, 0, _ => by rw [List.take_zero, List.take_zero]; exact .nil
  | [], [], i + 1, .nil => .nil
  | _ :: _, _ :: _, i + 1, .cons a b => .cons a (paired_takeI i b)
theorem paired_dropI {R : V → Option SP → Prop} : ∀ {xs : List V} {os : List (Option SP)} (i : Nat), Paired R xs os → Paired R (xs.drop i) (os.drop i)
  | _, _, 0, h => h
  | [], [], i + 1, .nil => .nil
  | _ :: _, _ :: _, i + 1, .cons a b => paired_dropI i b
theorem sc__law_some : FnScope ["_law_pen_here", "_law_found", "_law_most", "_law_turn", "_law_one", "_law_other"] ["_law_pen_here"] (defScope (top 48)) := ⟨rfl, rfl, rfl, by decide +kernel, rfl, by decide +kernel, by decide +kernel⟩
theorem four6 {d : Int} (h0 : 0 ≤ d) (h1 : d < 4) : ∃ n : Int, atI ([3, 6, 6, 9].map V.int) d = some (.int n) ∧ (n = 3 ∨ n = 6 ∨ n = 9) := by
  have : d = 0 ∨ d = 1 ∨ d = 2 ∨ d = 3 := by omega
  rcases this with rfl | rfl | rfl | rfl
  · exact ⟨3, rfl, by decide⟩
  · exact ⟨6, rfl, by decide⟩
  · exact ⟨6, rfl, by decide⟩
  · exact ⟨9, rfl, by decide⟩
theorem eight20 {d : Int} (h0 : 0 ≤ d) (h1 : d < 8) : ∃ n : Nat, atI ([0, 1, 2, 3, 4, 6, 12, 20].map V.int) d = some (.int (n : Nat)) ∧ n ≤ 20 := by
  have : d = 0 ∨ d = 1 ∨ d = 2 ∨ d = 3 ∨ d = 4 ∨ d = 5 ∨ d = 6 ∨ d = 7 := by omega
  rcases this with rfl | rfl | rfl | rfl | rfl | rfl | rfl | rfl
  · exact ⟨0, rfl, by decide⟩
  · exact ⟨1, rfl, by decide⟩
  · exact ⟨2, rfl, by decide⟩
  · exact ⟨3, rfl, by decide⟩
  · exact ⟨4, rfl, by decide⟩
  · exact ⟨6, rfl, by decide⟩
  · exact ⟨12, rfl, by decide⟩
  · exact ⟨20, rfl, by decide⟩
def spSome (K : PySem.W.Frag) : Sp := fun vs H Q _ => ∃ (p q : Addr) (ns : List Int) (a r : Int), vs = [.ref p] ∧ PenAt H p q ns a r ∧ a ≤ 600000 ∧
  ∀ (l : Addr) (xs : List V) (ps : List SP) (a' r' : Int) (H' : Hp), ItL K H' l xs (ps.map some) → ps.length ≤ 20 → H l = none → a ≤ a' → a' ≤ a + 300 → But p H H' → PenAt H' p q ns a' r' → Q (.ref l) H'
theorem ok__law_some (T : Txt P K mg) : OkF P w K mg base CX0 10 (He.ga K "_law_some") ["_law_pen_here"] (spSome K) := by
  have G__law_draw := ok__law_draw (P := P) (w := w) (base := base) T
  have G__law_strategy := ok__law_strategy (P := P) (w := w) (base := base) T
  have so := T.stg.oc
  obtain ⟨fd, F⟩ := T.F__law_some
  refine ⟨fd, F.ok sc__law_some (fun vs H Q E h => ?_) (fun cdv A outer s H vs Q E hr h => ?_), F.bindsN fun _ _ _ _ _ _ us hl => match us, hl with | [_], _ => rfl, F.kp⟩
  · obtain ⟨p, q, ns, a, r, rfl, _⟩ := h
    rfl
  · obtain ⟨p, q, ns, a, r, rfl, S, a2, k⟩ := h
    refine ⟨_, PSs.nox (pss_cons (ps_asg (pe_lst pa_nil) (pg_name (i := 1) sc__law_some.nd rfl (.inl rfl)))
    (pss_cons (ps_asg (pe_ix (ix_listK K) (pe_lst (pa_cons pe_int (pa_cons pe_int (pa_cons pe_int (pa_cons pe_int pa_nil))))) (pe_f G__law_draw (hr.mono (by decide)) (by rfl) T.g__law_draw pass0 (pa_cons (pv 0) (pa_cons pe_int pa_nil))) (fun _ _ => rfl)) (pg_name (i := 2) sc__law_some.nd rfl (.inl rfl)))
    (pss_cons (ps_for PassesOwn.never rfl (pi_range1 (by rfl) T.z_range (pa_cons (pe_ix (ix_listK K) (pe_lst (pa_cons pe_int (pa_cons pe_int (pa_cons pe_int (pa_cons pe_int (pa_cons pe_int (pa_cons pe_int (pa_cons pe_int (pa_cons pe_int pa_nil))))))))) (pe_f G__law_draw (hr.mono (by decide)) (by rfl) T.g__law_draw pass0 (pa_cons (pv 0) (pa_cons pe_int pa_nil))) (fun _ _ => rfl)) pa_nil)) (pg_name (i := 3) sc__law_some.nd rfl (.inl rfl))
      (pss_cons (ps_asg (pe_f G__law_strategy (hr.mono (by decide)) (by rfl) T.g__law_strategy pass0 (pa_cons (pv 0) (pa_cons (pv 2) pa_nil))) (pg_name (i := 4) sc__law_some.nd rfl (.inl rfl)))
    (pss_one (ps_if (pt_cut (PW.pt (pw_or (pt_cmpR op_notIn_seq (pe_fld (pv 4) rfl) (pe_lc (own := [("_law_other", 5)]) (g := gName 5) (tt := tYes) rfl sc__law_some.nd (pi_list (pv 1)) (blkOk_by (N := ["_law_pen_here", "_law_found", "_law_most", "_law_turn", "_law_one", "_law_other"]) (sc := defScope (top 48)) (by decide +kernel)) (fun _ _ _ _ _ => pg_name (i := 5) sc__law_some.nd rfl (Or.inl rfl)) (fun _ _ _ _ _ => pts_nil) (fun _ _ _ _ _ => (pe_fldK K (pv 5) rfl))) (by rfl)) (pw_or1 (pt_cmpR op_eq (pe_f G__law_draw (hr.mono (by decide)) (by rfl) T.g__law_draw pass0 (pa_cons (pv 0) (pa_cons pe_int pa_nil))) pe_int (nomark _))))))
      (pss_one (ps_expr (pe_bm PySem.F.plainAttrs_list PySem.F.slot_list_append PySem.F.type_list_append mt_append (pv 1) (pa_cons (pv 4) pa_nil))))
      pss_nil))))
    (pss_one (ps_ret (pv 1)))))), ?_⟩
    refine ⟨show 0 ≤ sizeLine by decide, fun l nl => ?_⟩
    have s1 := same_new (o := .lst []) nl
    have h1 : upd H l (.lst []) l = some (.lst []) := upd_same
    generalize upd H l (.lst []) = H1 at s1 h1
    have S1 := S.same s1
    have nlp : l ≠ p := fun z => by rw [z, S.pen] at nl; cases nl
    have nlq : q ≠ l := fun z => by rw [← z, S.cells] at nl; cases nl
    refine ⟨show 4 ≤ sizeLine by decide, fun x1 n1 => ?_⟩
    have s2 : Same H1 (upd H1 x1 (.lst ([3, 6, 6, 9].map V.int))) := same_new n1
    have h2 : upd H1 x1 (.lst ([3, 6, 6, 9].map V.int)) x1 = some (.lst ([3, 6, 6, 9].map V.int)) := upd_same
    generalize hG : upd H1 x1 (.lst _) = H2
    have eG : upd H1 x1 (.lst ([3, 6, 6, 9].map V.int)) = H2 := hG
    rw [eG] at s2 h2
    clear hG eG
    have S2 := S1.same s2
    have x1p : x1 ≠ p := fun z => by rw [z, S1.pen] at n1; cases n1
    refine ⟨_, rfl, p, q, ns, a, r, 4, rfl, S2, by decide, by decide, by omega, fun d a3 r3 H3 d0 d1 e1 e2 B3 S3 => ?_⟩
    obtain ⟨mo, hmo, hm3⟩ := four6 d0 d1
    refine ⟨x1, _, _, _, rfl, rfl, SqL.of (B3 _ _ h2 x1p), hmo, ?_⟩
    refine ⟨show 8 ≤ sizeLine by decide, fun x4 n4 => ?_⟩
    have s4 : Same H3 (upd H3 x4 (.lst ([0, 1, 2, 3, 4, 6, 12, 20].map V.int))) := same_new n4
    have h4 : upd H3 x4 (.lst ([0, 1, 2, 3, 4, 6, 12, 20].map V.int)) x4 = some (.lst ([0, 1, 2, 3, 4, 6, 12, 20].map V.int)) := upd_same
    generalize hG : upd H3 x4 (.lst _) = H4
    have eG : upd H3 x4 (.lst ([0, 1, 2, 3, 4, 6, 12, 20].map V.int)) = H4 := hG
    rw [eG] at s4 h4
    clear hG eG
    have S4 := S3.same s4
    have x4p : x4 ≠ p := fun z => by rw [z, S3.pen] at n4; cases n4
    refine ⟨_, rfl, p, q, ns, a3, r3, 8, rfl, S4, by decide, by decide, by omega, fun d5 a5 r5 H5 d50 d51 e3 e4 B5 S5 => ?_⟩
    obtain ⟨n, hn, hn20⟩ := eight20 d50 d51
    refine ⟨x4, _, _, _, rfl, rfl, SqL.of (B5 _ _ h4 x4p), hn, n, rfl, by omega, by omega, ?_⟩
    have l5 := B5 _ _ (s4 _ _ (B3 _ _ (s2 _ _ h1) nlp)) nlp
    have b05 : But p H H5 := fun b o hb nb => B5 _ _ (s4 _ _ (B3 _ _ (s2 _ _ (s1 _ _ hb)) nb)) nb
    refine for_range (fun i σ' H' => ∃ (xs : List V) (ps : List SP) (v3 v4 v5 : Option V) (a' r' : Int), σ' = [some (.ref p), some (.ref l), some (.int mo), v3, v4, v5] ∧ ItL K H' l xs (ps.map some) ∧ ps.length ≤ i ∧ a ≤ a' ∧ a' ≤ a + 2 + 12 * i ∧ But p H H' ∧ PenAt H' p q ns a' r')
      ⟨[], [], none, none, none, a5, r5, rfl, ⟨l5, .nil⟩, Nat.le_refl _, by omega, by omega, b05, S5⟩ ?_ ?_
    · rintro i σ' H6 hi ⟨xs, ps, v3, v4, v5, a6, r6, rfl, il, lp, b1, b2, B6, S6⟩
      have hi20 : i < 20 := by have : i < ((n : Int)).toNat := hi; omega
      refine ⟨_, rfl, _, rfl, p, q, ns, a6, r6, mo, rfl, S6, by omega, hm3, fun v s a7 r7 H7 iv nv c1 c2 B7 S7 => ?_⟩
      obtain ⟨⟨y, rfl, gy⟩, oky, nmy⟩ := id iv
      obtain ⟨Cy, cy, ⟨dy, ly, y1, y2⟩⟩ := id gy
      have il7 := il.pen S6 nlp B7
      have hx7 := il7.at_
      have lx : xs.length = ps.length := by rw [Paired.length il7.it, List.length_map]
      -- the test: either way the pen goes on
      refine .mk (fun b H' => ∃ a' r', a7 ≤ a' ∧ a' ≤ a7 + 1 ∧ But p H7 H' ∧ PenAt H' p q ns a' r') ?_ ?_
      · refine ⟨_, rfl, y, aS K, dy, _, _, rfl, y1, so.pl.cls, so.no _ (by decide), rfl, _, rfl, l, rfl, ⟨_, SqL.of hx7⟩, fun D hD => ?_⟩
        refine lcG (yl_list (xs := xs)) (fun j H' => Same H7 H' ∧ H' D = some (.lst (((ps.map (·.1)).take j).map V.str))) ⟨same_new hD, upd_same⟩ (fun j H' _ h => SqL.of (h.1 _ _ hx7)) ?_ fun H8 h8 => ?_
        · rintro j u H' hu ⟨s, hl⟩
          obtain ⟨o, ho, so'⟩ := paired_getI il7.it j u hu
          rw [List.getElem?_map] at ho
          obtain ⟨q', hq, rfl⟩ := Option.map_eq_some_iff.mp ho
          obtain ⟨⟨a', rfl, g'⟩, _⟩ := so'
          obtain ⟨C', c', ⟨dx', l', h1', h2'⟩⟩ := g'
          refine ⟨rfl, ?_⟩
          unfold tYes
          dsimp only
          rw [if_pos rfl]
          refine ⟨_, rfl, a', aS K, dx', _, _, rfl, s _ _ h1', so.pl.cls, so.no _ (by decide), rfl, _, hl, ?_, same_upd hD s, ?_⟩
          · rw [List.length_map, List.length_take, List.length_map, sizeLine_eq]
            omega
          · rw [upd_same, List.take_add_one, List.getElem?_map, hq, List.map_append]
            rfl
        · obtain ⟨s8, h8⟩ := h8
          rw [lx, ← List.length_map (as := ps) (f := (·.1)), List.take_length] at h8
          have fl : ∀ v ∈ (ps.map (·.1)).map V.str, flatV v = true := fun v hv => by
            obtain ⟨x, _, rfl⟩ := List.mem_map.mp hv
            rfl
          refine ⟨D, _, rfl, .inl (SqL.of h8), rfl, List.all_eq_true.mpr fl, _, rfl, ?_⟩
          have S8 := S7.same s8
          cases inV (V.str s.1) ((ps.map (·.1)).map V.str) with
          | false => exact iteT ⟨a7, r7, Int.le_refl _, by omega, But.of s8, S8⟩
          | true =>
            refine iteF ⟨_, rfl, p, q, ns, a7, r7, 16, rfl, S8, by decide, by decide, by omega, fun d9 a9 r9 H9 _ _ f1 f2 B9 S9 => ?_⟩
            exact ⟨rfl, _, rfl, a9, r9, f1, f2, (But.of s8).trans B9, S9⟩
      · rintro b H8 ⟨a8, r8, f1, f2, B8, S8⟩
        have il8 := il7.pen S7 nlp B8
        have iv8 := iv.pen S7 B8
        have B08 : But p H H8 := (B6.trans B7).trans B8
        cases b with
        | false => exact iteF ⟨xs, ps, _, _, _, a8, r8, rfl, il8, by omega, by omega, by omega, B08, S8⟩
        | true =>
          refine iteT ?_
          refine ⟨_, rfl, .inl ⟨rfl, _, SqL.of il8.at_⟩, _, rfl, l, xs, _, rfl, rfl, il8.at_, by rw [lx, sizeLine_eq]; omega, ?_⟩
          have yl : (V.ref y) ≠ .ref l := fun z => by
            cases z
            have := nv _ rfl
            rw [il.at_] at this
            cases this
          have bl : But l H8 (upd H8 l (.lst (xs ++ [.ref y]))) := But.upd But.refl
          refine ⟨xs ++ [.ref y], ps ++ [s], _, _, _, a8, r8, rfl, ⟨upd_same, ?_⟩, by rw [List.length_append]; show ps.length + 1 ≤ _; omega, by omega, by omega, fun b o hb nb => bl _ _ (B08 _ _ hb nb) (ne_of_none hb nl), penBut S8 bl (Ne.symm nlp) nlq⟩
          rw [List.map_append]
          exact paired_appI (it_self il8.it il8.at_ bl) (.cons (iv8.but il8.at_ yl bl) .nil)
    · rintro σ' H6 ⟨xs, ps, v3, v4, v5, a6, r6, rfl, il, lp, b1, b2, B6, S6⟩
      have : ((n : Int)).toNat = n := Int.toNat_natCast n
      exact ⟨_, rfl, k l xs ps a6 r6 H6 il (by omega) nl (by omega) (by omega) B6 S6⟩
end
end Kx
set_option maxHeartbeats 4000000
namespace Kx
open PySem PySem.Spec PyProof.Rows L2 Xr LamX
local macro_rules | `(tactic| walk_at "rd") => `(tactic| (repeat (first | apply Exists.intro | (refine And.intro rfl ?_) | (refine And.intro (SqL.of (by assumption)) ?_) | (refine And.intro (Or.inl (SqL.of (by assumption))) ?_) | (refine Or.inl ⟨_, rfl, ?_⟩) | (refine Or.inr ⟨_, rfl, ?_⟩) | (refine And.intro (by assumption) ?_) | (refine And.intro (Or.inl (by assumption)) ?_))))
section
variable {P : Program} {w : World} {K : PySem.W.Frag} {mg : Str → Option Value} {base : Heap}
def c1T : Tab := [("c", 1)]
theorem canon_c : Canon c1T := canon_one "c"
theorem good_c : GoodT c1T := ⟨by decide, by decide +kernel, by decide +kernel, by decide⟩
def spLC1 (K : PySem.W.Frag) : Sp := fun vs H Q E => ∃ v zs, vs = v :: zs ∧ ∀ d, H d = Option.none → spLG K [v, V.ref d] (upd H d (.dK (kwK ["c"] zs))) Q E
theorem okC1 (T : Txt P K mg) : FnRK P w K mg base CX0 4 (He.ma K (He.ga K "Legs") "__init__") 1 ["c"] (spLC1 K) := okK_Legs_init (P := P) (w := w) (base := base) T (kn := ["c"]) (by decide) (by decide) fun _ _ _ _ _ _ _ ws hw => match ws, hw with | [_], _ => rfl
/-- Legs(c=1) -/
theorem legsC1 (T : Txt P K mg) {H : Hp} {R : Addr → Hp → Prop} {E : XK} (k : ∀ x H', Same H H' → H x = none → LegsAt H' (aL K) x c1T → R x H') :
    ∀ x dx, H x = none → H dx = none → dx ≠ x → spLC1 K ([.ref x] ++ [.int 1]) (upd (upd H dx (.own x)) x (.ins (aL K) dx [])) (fun v H3 => v = .non ∧ R x H3) E := by
  intro x dx nx ndx ne
  have s1 : Same H (upd (upd H dx (.own x)) x (.ins (aL K) dx [])) := fun b o hb => by
    rw [upd_ne (ne_of_none hb nx), upd_ne (ne_of_none hb ndx)]
    exact hb
  refine ⟨_, _, rfl, fun d nd => ?_⟩
  have xd : x ≠ d := fun z => by rw [← z, upd_same] at nd; cases nd
  refine ⟨x, aL K, dx, d, c1T, rfl, (upd_ne xd).trans upd_same, T.leg.cL, upd_same, good_c, fun p m H1 cm hv hl s hp np => ⟨rfl, ?_⟩⟩
  have em : m = c1T := canon_eq cm canon_c hv
  subst em
  have px : p ≠ x := fun z => by rw [z, upd_ne xd, upd_same] at np; cases np
  refine k x _ (fun b o hb => ?_) nx ⟨⟨dx, p, upd_same, (upd_ne px).trans hp⟩, canon_c, by decide⟩
  rw [upd_ne (ne_of_none hb nx)]
  exact s _ _ (same_new nd _ _ (s1 _ _ hb))
theorem sc__law_bent : FnScope ["_law_pen_here", "_law_found", "_law_at", "_law_odd"] ["_law_pen_here", "_law_found"] (defScope (top 49)) := ⟨rfl, rfl, rfl, by decide +kernel, rfl, by decide +kernel, by decide +kernel⟩
def spBent (K : PySem.W.Frag) : Sp := fun vs H Q _ => ∃ (p q l : Addr) (ns : List Int) (a r : Int) (xs : List V) (os : List (Option SP)), vs = [.ref p, .ref l] ∧ PenAt H p q ns a r ∧ a ≤ 900000 ∧ ItL K H l xs os ∧ os.length ≤ 30 ∧ l ≠ p ∧
  ∀ (y : Addr) (ys : List V) (us : List (Option SP)) (a' r' : Int) (H' : Hp), ItL K H' y ys us → us.length = os.length + 1 → H y = none → a ≤ a' → a' ≤ a + 2 → But p H H' → PenAt H' p q ns a' r' → Q (.ref y) H'
theorem sIx_nat {n d a : Nat} : HT.sIx n d (some (a : Int)) = min a n := by
  show (if (a : Int) < 0 then ((a : Int) + n).toNat else min (a : Int).toNat n) = min a n
  rw [if_neg (by omega), Int.toNat_natCast]
theorem cut_take {xs : List V} {a : Nat} : cutV xs none (some (a : Int)) = xs.take a := by
  unfold cutV
  have e1 : HT.sIx xs.length 0 none = 0 := rfl
  have e2 : HT.sIx xs.length xs.length (some (a : Int)) = min a xs.length := sIx_nat
  rw [e1, e2, List.drop_zero, Nat.sub_zero]
  rcases Nat.le_total a xs.length with h | h
  · rw [Nat.min_eq_left h]
  · rw [Nat.min_eq_right h, List.take_of_length_le (Nat.le_refl _), List.take_of_length_le h]
theorem cut_drop {xs : List V} {a : Nat} : cutV xs (some (a : Int)) none = xs.drop a := by
  unfold cutV
  have e1 : HT.sIx xs.length 0 (some (a : Int)) = min a xs.length := sIx_nat
  have e2 : HT.sIx xs.length xs.length none = xs.length := rfl
  rw [e1, e2]
  rcases Nat.le_total a xs.length with h | h
  · rw [Nat.min_eq_left h, List.take_of_length_le (by rw [List.length_drop]; omega)]
  · rw [Nat.min_eq_right h, List.drop_of_length_le (Nat.le_refl _), List.drop_of_length_le h, List.take_nil]
theorem ok__law_bent (T : Txt P K mg) : OkF P w K mg base CX0 6 (He.ga K "_law_bent") ["_law_pen_here", "_law_found"] (spBent K) := by
  have G__law_draw := ok__law_draw (P := P) (w := w) (base := base) T
  have G__law_pick := ok__law_pick (P := P) (w := w) (base := base) T
  have G_LC := okC1 (P := P) (w := w) (base := base) T
  obtain ⟨fd, F⟩ := T.F__law_bent
  refine ⟨fd, F.ok sc__law_bent (fun vs H Q E h => ?_) (fun cdv A outer s H vs Q E hr h => ?_), F.bindsN fun _ _ _ _ _ _ us hl => match us, hl with | [_, _], _ => rfl, F.kp⟩
  · obtain ⟨p, q, l, ns, a, r, xs, os, rfl, _⟩ := h
    rfl
  · obtain ⟨p, q, l, ns, a, r, xs, os, rfl, S, a2, il, l30, nlp, k⟩ := h
    refine ⟨_, PSs.nox (pss_cons (ps_asg (pe_f G__law_draw (hr.mono (by decide)) (by rfl) T.g__law_draw pass0 (pa_cons (pv 0) (pa_cons (pe_op op_add (pe_callB call_len_seq (by rfl) T.z_len (by decide +kernel) (pa_cons (pv 1) pa_nil)) pe_int) pa_nil))) (pg_name (i := 2) sc__law_bent.nd rfl (.inl rfl)))
    (pss_cons (ps_asg (pe_f G__law_pick (hr.mono (by decide)) (by rfl) T.g__law_pick pass0 (pa_cons (pv 0) (pa_cons (pe_lst (pa_cons pe_non (pa_cons pe_str (pa_cons (pe_tup (pa_cons pe_str (pa_cons pe_int pa_nil))) (pa_cons (pe_makeKR T.leg.mL G_LC (hr.mono (by decide)) (by rfl) T.g_Legs pass0 (pk_cons pe_int pk_nil)) (pa_cons pe_int (pa_cons pe_bl (pa_cons (pe_lst (pa_cons pe_str pa_nil)) (pa_cons pe_dnewK pa_nil))))))))) pa_nil))) (pg_name (i := 3) sc__law_bent.nd rfl (.inl rfl)))
    (pss_one (ps_ret (pe_op op_cat (pe_op op_cat (pe_slice sl_list (pv 1) po_none (po_some (pv 2))) (pe_lst (pa_cons (pv 3) pa_nil))) (pe_slice sl_list (pv 1) (po_some (pv 2)) po_none)))))), ?_⟩
    have lx : xs.length = os.length := Paired.length il.it
    refine ⟨_, rfl, _, rfl, l, _, rfl, .inl (SqL.of il.at_), _, 1, rfl, rfl, p, q, ns, a, r, _, rfl, S, by omega, by omega, by omega, fun d a1 r1 H1 d0 d1 e1 e2 B1 S1 => ?_⟩
    have il1 := il.pen S nlp B1
    obtain ⟨n, rfl⟩ := Int.eq_ofNat_of_zero_le d0
    -- the values that are no strategies
    refine ⟨_, rfl, show 2 ≤ sizeLine by decide, fun x2 n2 => ?_⟩
    have s2 := same_new (o := .tup [.str "s", .int 1]) n2
    have h2 : upd H1 x2 (.tup [.str "s", .int 1]) x2 = some (.tup [.str "s", .int 1]) := upd_same
    generalize upd H1 x2 (.tup [.str "s", .int 1]) = H2 at s2 h2
    refine ⟨rfl, legsC1 T fun x3 H3 s3 nx3 lx3 => ?_⟩
    refine ⟨show 1 ≤ sizeLine by decide, fun x4 n4 => ?_⟩
    have s4 := same_new (o := .lst [.str "s"]) n4
    have h4 : upd H3 x4 (.lst [.str "s"]) x4 = some (.lst [.str "s"]) := upd_same
    generalize upd H3 x4 (.lst [.str "s"]) = H4 at s4 h4
    refine fun x5 n5 => ?_
    have s5 := same_new (o := .dK []) n5
    have h5 : upd H4 x5 (.dK []) x5 = some (.dK []) := upd_same
    generalize upd H4 x5 (.dK []) = H5 at s5 h5
    refine ⟨show 8 ≤ sizeLine by decide, fun x6 n6 => ?_⟩
    generalize hXS : [V.non, V.str "s", V.ref x2, V.ref x3, V.int 0, V.bl true, V.ref x4, V.ref x5] = XS
    have hlen : XS.length = 8 := by rw [← hXS]; rfl
    have s6 := same_new (o := .lst XS) n6
    have h6 : upd H5 x6 (.lst XS) x6 = some (.lst XS) := upd_same
    generalize upd H5 x6 (.lst XS) = H6 at s6 h6
    have s16 := (((s2.trans s3).trans s4).trans s5).trans s6
    have S6 := S1.same s16
    have n6p : x6 ≠ p := fun z => by
      have z2 := (S1.same (((s2.trans s3).trans s4).trans s5)).pen
      rw [← z, n6] at z2
      cases z2
    have hv : ∀ v ∈ XS, ItV K H6 v none := fun v hm => by
      rw [← hXS] at hm
      simp only [List.mem_cons, List.not_mem_nil, or_false] at hm
      rcases hm with rfl | rfl | rfl | rfl | rfl | rfl | rfl | rfl
      · exact .inl rfl
      · exact .inr (.inl rfl)
      · exact .inr (.inr (.inr (.inr (.inl ⟨_, rfl, .inl (s6 _ _ (s5 _ _ (s4 _ _ (s3 _ _ h2))))⟩))))
      · exact .inr (.inr (.inr (.inr (.inr ⟨_, _, rfl, lx3.same ((s4.trans s5).trans s6)⟩))))
      · exact .inr (.inr (.inl rfl))
      · exact .inr (.inr (.inr (.inl rfl)))
      · exact .inr (.inr (.inr (.inr (.inl ⟨_, rfl, .inr (.inl (s6 _ _ (s5 _ _ h4)))⟩))))
      · exact .inr (.inr (.inr (.inr (.inl ⟨_, rfl, .inr (.inr (s6 _ _ h5))⟩))))
    refine ⟨p, q, x6, ns, a1, r1, XS, rfl, S6, by omega, h6, n6p, by omega, by omega, fun v a7 r7 H7 hvm c1 c2 B7 S7 => ?_⟩
    have iv7 := (hv v hvm).pen S6 B7
    have il7 := (il1.same s16).pen S6 nlp B7
    refine ⟨_, rfl, _, rfl, _, rfl, l, xs, rfl, SqL.of il7.at_, fun x8 n8 => ?_⟩
    rw [cut_take]
    have s8 := same_new (o := .lst (xs.take n)) n8
    have h8 : upd H7 x8 (.lst (xs.take n)) x8 = some (.lst (xs.take n)) := upd_same
    generalize upd H7 x8 (.lst (xs.take n)) = H8 at s8 h8
    refine ⟨_, rfl, show 1 ≤ sizeLine by decide, fun x9 n9 => ?_⟩
    have s9 := same_new (o := .lst [v]) n9
    have h9 : upd H8 x9 (.lst [v]) x9 = some (.lst [v]) := upd_same
    generalize upd H8 x9 (.lst [v]) = H9 at s9 h9
    refine ⟨x8, x9, _, _, rfl, rfl, s9 _ _ h8, h9, by rw [List.length_take, sizeLine_eq]; show _ + 1 ≤ _; omega, fun x10 n10 => ?_⟩
    have s10 := same_new (o := .lst (xs.take n ++ [v])) n10
    have h10 : upd H9 x10 (.lst (xs.take n ++ [v])) x10 = some (.lst (xs.take n ++ [v])) := upd_same
    generalize upd H9 x10 (.lst (xs.take n ++ [v])) = H10 at s10 h10
    have s710 := (s8.trans s9).trans s10
    refine ⟨_, rfl, _, rfl, _, rfl, l, xs, rfl, SqL.of (s710 _ _ il7.at_), fun x11 n11 => ?_⟩
    rw [cut_drop]
    have s11 := same_new (o := .lst (xs.drop n)) n11
    have h11 : upd H10 x11 (.lst (xs.drop n)) x11 = some (.lst (xs.drop n)) := upd_same
    generalize upd H10 x11 (.lst (xs.drop n)) = H11 at s11 h11
    refine ⟨x10, x11, _, _, rfl, rfl, s11 _ _ h10, h11, by rw [List.length_append, List.length_take, List.length_drop, sizeLine_eq]; show _ + 1 + _ ≤ _; omega, fun x12 n12 => ?_⟩
    have s12 := same_new (o := .lst (xs.take n ++ [v] ++ xs.drop n)) n12
    have s712 := (s710.trans s11).trans s12
    have b : But p H (upd H11 x12 (.lst (xs.take n ++ [v] ++ xs.drop n))) := fun b o hb nb => s712 _ _ (B7 _ _ (s16 _ _ (B1 _ _ hb nb)) nb)
    refine k x12 _ (os.take n ++ [none] ++ os.drop n) a7 r7 _ ⟨upd_same, ?_⟩ ?_ ?_ (by omega) (by omega) b (S7.same s712)
    · have z : Paired (ItV K H7) (xs.take n ++ [v] ++ xs.drop n) (os.take n ++ [none] ++ os.drop n) := paired_appI (paired_appI (paired_takeI n il7.it) (.cons iv7 .nil)) (paired_dropI n il7.it)
      exact Paired.mapP z fun _ _ g => g.same s712
    · rw [List.length_append, List.length_append, List.length_take, List.length_drop]
      show _ + 1 + _ = _
      omega
    · cases hz : H x12 with
      | none => rfl
      | some o =>
        by_cases hp : x12 = p
        · rw [hp] at n12
          have := (S7.same (s710.trans s11)).pen
          rw [n12] at this
          cases this
        · have := (s710.trans s11) _ _ (B7 _ _ (s16 _ _ (B1 _ _ hz hp)) hp)
          rw [n12] at this
          cases this
end
end Kx
set_option maxHeartbeats 4000000
namespace Kx
open PySem PySem.Spec PyProof.Rows L2 Xr LamX
local macro_rules | `(tactic| walk_at "rd") => `(tactic| (repeat (first | apply Exists.intro | (refine And.intro rfl ?_) | (refine And.intro (SqL.of (by assumption)) ?_) | (refine And.intro (Or.inl (SqL.of (by assumption))) ?_) | (refine Or.inl ⟨_, rfl, ?_⟩) | (refine Or.inr ⟨_, rfl, ?_⟩) | (refine And.intro (by assumption) ?_) | (refine And.intro (Or.inl (by assumption)) ?_))))
theorem addAll_filter : ∀ (b a : List Str), b.Nodup → addAll a b = a ++ b.filter fun x => decide (x ∉ a)
  | [], a, _ => by simp [addAll]
  | y :: r, a, h => by
    obtain ⟨h1, h2⟩ := List.nodup_cons.mp h
    show addAll (if y ∈ a then a else a ++ [y]) r = _
    by_cases hy : y ∈ a
    · rw [if_pos hy, addAll_filter r a h2, List.filter_cons, if_neg (by simp [hy])]
    · rw [if_neg hy, addAll_filter r _ h2, List.filter_cons, if_pos (by simp [hy]), List.append_assoc]
      congr 1
      show y :: _ = y :: _
      congr 1
      refine List.filter_congr fun x hx => ?_
      have : x ≠ y := fun z => h1 (z ▸ hx)
      simp [this]
section
variable {P : Program} {w : World} {K : PySem.W.Frag} {mg : Str → Option Value} {base : Heap}
/-- a reason as the law tells it -/
def ReasV (H : Hp) (o : Option (Str × Option Str)) (v : V) : Prop := match o with
  | none => v = .non
  | some (r, n) => ∃ t, v = .ref t ∧ H t = some (.tup [.str r, nmV n])
theorem ReasV.same {H H' : Hp} {o : Option (Str × Option Str)} {v : V} (h : ReasV H o v) (s : Same H H') : ReasV H' o v := by
  cases o with
  | none => exact h
  | some p => obtain ⟨t, e, h⟩ := h; exact ⟨t, e, s _ _ h⟩
def badF (xs : List V) (os : List (Option SP)) : List V := ((xs.zip os).filter fun p => p.2.isNone).map (·.1)
theorem bad_take {xs : List V} {os : List (Option SP)} {i : Nat} {v : V} {o : Option SP} (h1 : xs[i]? = some v) (h2 : os[i]? = some o) : badF (xs.take (i + 1)) (os.take (i + 1)) = badF (xs.take i) (os.take i) ++ (if o.isNone = true then [v] else []) := by
  unfold badF
  have e : (xs.take (i + 1)).zip (os.take (i + 1)) = (xs.take i).zip (os.take i) ++ [(v, o)] := by
    rw [List.take_add_one, List.take_add_one, h1, h2]
    have l1 : i < xs.length := (List.getElem?_eq_some_iff.mp h1).1
    have l2 : i < os.length := (List.getElem?_eq_some_iff.mp h2).1
    rw [List.zip_append (by rw [List.length_take, List.length_take]; omega)]
    rfl
  rw [e, List.filter_append, List.map_append, List.filter_cons]
  cases o <;> rfl
theorem bad_nil : ∀ {xs : List V} {os : List (Option SP)}, xs.length = os.length → (badF xs os).isEmpty = os.all (·.isSome)
  | [], [], _ => rfl
  | x :: xs, none :: os, _ => rfl
  | x :: xs, some s :: os, h => bad_nil (xs := xs) (os := os) (by simpa using h)
theorem sc__law_reason : FnScope ["_law_found", "_law_k", "_law_months_so", "_law_one", "_law_month"] ["_law_found"] (defScope (top 50)) := ⟨rfl, rfl, rfl, by decide +kernel, rfl, by decide +kernel, by decide +kernel⟩
def spReasL (K : PySem.W.Frag) : Sp := fun vs H Q _ => ∃ (l : Addr) (xs : List V) (os : List (Option SP)), vs = [.ref l] ∧ ItL K H l xs os ∧ os.length ≤ 40 ∧ ∀ v H', Same H H' → ReasV H' (reasonF os) v → Q v H'
set_option maxHeartbeats 8000000 in
theorem ok__law_reason (T : Txt P K mg) : OkF P w K mg base CX0 3 (He.ga K "_law_reason") ["_law_found"] (spReasL K) := by
  have so := T.stg.oc
  have c := T.leg.cT
  have G_months := ok_Legs_months (P := P) (w := w) (base := base) T
  obtain ⟨fd, F⟩ := T.F__law_reason
  refine ⟨fd, F.ok sc__law_reason (fun vs H Q E h => ?_) (fun cdv A outer s H vs Q E hr h => ?_), F.bindsN fun _ _ _ _ _ _ us hl => match us, hl with | [_], _ => rfl, F.kp⟩
  · obtain ⟨l, xs, os, rfl, _⟩ := h
    rfl
  · obtain ⟨l, xs, os, rfl, il, l40, k⟩ := h
    have hl := il.at_
    have lx : xs.length = os.length := Paired.length il.it
    refine ⟨_, PSs.nox (pss_cons (ps_if (pt_cmpR (op_neIL hr.units0) (pe_lc (own := [("_law_one", 3)]) (g := gName 3) rfl sc__law_reason.nd (pi_list (pv 0)) (blkOk_by (N := ["_law_found", "_law_k", "_law_months_so", "_law_one", "_law_month"]) (sc := defScope (top 50)) (by decide +kernel)) (fun _ _ _ _ _ => pg_name (i := 3) sc__law_reason.nd rfl (Or.inl rfl)) (fun _ _ _ _ _ => (pts_one (pt_not (pt_val (pe_callB (call_isiK K) (by rfl) T.z_isinstance (by decide +kernel) (pa_cons (pv 3) (pa_cons (pe_glob (v := .ref (He.ga K "Strategy")) (by rfl) T.g_Strategy rfl) pa_nil))))))) (fun _ _ _ _ _ => (pv 3))) (pe_lst pa_nil) (nomark _))
      (pss_one (ps_ret (pe_tup (pa_cons pe_str (pa_cons pe_non pa_nil)))))
      pss_nil)
    (pss_cons (ps_if (pt_cmpR op_gt (pe_callB call_len_seq (by rfl) T.z_len (by decide +kernel) (pa_cons (pv 0) pa_nil)) pe_int (nomark _))
      (pss_one (ps_ret (pe_tup (pa_cons pe_str (pa_cons pe_non pa_nil)))))
      pss_nil)
    (pss_cons (ps_for PassesOwn.never rfl (pi_range1 (by rfl) T.z_range (pa_cons (pe_callB call_len_seq (by rfl) T.z_len (by decide +kernel) (pa_cons (pv 0) pa_nil)) pa_nil)) (pg_name (i := 1) sc__law_reason.nd rfl (.inl rfl))
      (pss_one (ps_if (pt_cmpR op_in_seq (pe_fld (pe_ix (ix_listK K) (pv 0) (pv 1) (fun _ _ => rfl)) rfl) (pe_lc (own := [("_law_one", 3)]) (g := gName 3) (tt := tYes) rfl sc__law_reason.nd (pi_list (pe_slice sl_list (pv 0) po_none (po_some (pv 1)))) (blkOk_by (N := ["_law_found", "_law_k", "_law_months_so", "_law_one", "_law_month"]) (sc := defScope (top 50)) (by decide +kernel)) (fun _ _ _ _ _ => pg_name (i := 3) sc__law_reason.nd rfl (Or.inl rfl)) (fun _ _ _ _ _ => pts_nil) (fun _ _ _ _ _ => (pe_fldK K (pv 3) rfl))) (by rfl))
      (pss_one (ps_ret (pe_tup (pa_cons pe_str (pa_cons (pe_fld (pe_ix (ix_listK K) (pv 0) (pv 1) (fun _ _ => rfl)) rfl) pa_nil)))))
      pss_nil)))
    (pss_cons (ps_asg (pe_lst pa_nil) (pg_name (i := 2) sc__law_reason.nd rfl (.inr rfl)))
    (pss_cons (ps_for PassesOwn.never rfl (pi_list (pv 0)) (pg_name (i := 3) sc__law_reason.nd rfl (.inl rfl))
      (pss_cons (ps_asg (pe_op op_cat (pv 2) (pe_lc (own := [("_law_month", 4)]) (g := gName 4) rfl sc__law_reason.nd (pi_tup (pe_prA (p := He.ma K (aL K) "months") K (pe_fld (pv 3) rfl) G_months (hr.mono (by decide)) pass0)) (blkOk_by (N := ["_law_found", "_law_k", "_law_months_so", "_law_one", "_law_month"]) (sc := defScope (top 50)) (by decide +kernel)) (fun _ _ _ _ _ => pg_name (i := 4) sc__law_reason.nd rfl (Or.inl rfl)) (fun _ _ _ _ _ => (pts_one (pt_cmpR (op_notInK K) (pv 4) (pv 2) (by rfl)))) (fun _ _ _ _ _ => (pv 4)))) (pg_name (i := 2) sc__law_reason.nd rfl (.inr rfl)))
    (pss_one (ps_if (pt_cmpR op_gt (pe_callB call_len_seq (by rfl) T.z_len (by decide +kernel) (pa_cons (pv 2) pa_nil)) pe_int (nomark _))
      (pss_one (ps_ret (pe_tup (pa_cons pe_str (pa_cons (pe_fld (pv 3) rfl) pa_nil)))))
      pss_nil))))
    (pss_one (ps_ret pe_non))))))), ?_⟩
    -- a value that is no strategy
    refine ⟨_, rfl, l, rfl, ⟨_, SqL.of hl⟩, fun D hD => ?_⟩
    refine lcG (yl_list (xs := xs)) (fun j H' => Same H H' ∧ H' D = some (.lst (badF (xs.take j) (os.take j)))) ⟨same_new hD, upd_same⟩ (fun j H' _ h => SqL.of (h.1 _ _ hl)) ?_ fun H1 h1 => ?_
    · rintro j u H' hu ⟨s, hd⟩
      obtain ⟨o, ho, io⟩ := paired_getI il.it j u hu
      have st := (io.same s).stg T
      have bt := bad_take hu ho
      have le : (badF (xs.take j) (os.take j)).length ≤ 40 := by
        unfold badF
        rw [List.length_map]
        have z := List.length_filter_le (fun p : V × Option SP => p.2.isNone) ((xs.take j).zip (os.take j))
        rw [List.length_zip, List.length_take, List.length_take] at z
        omega
      refine ⟨rfl, ?_⟩
      cases o with
      | some q =>
        obtain ⟨a, rfl, g, _⟩ := st
        obtain ⟨C, c, ⟨dx, l', h1', _⟩⟩ := g
        refine ⟨_, rfl, _, _, _, _, _, rfl, .own (aS K), so.pl.ty T.all h1', T.stg.kS, _, rfl, iteFa rfl ⟨s, ?_⟩⟩
        rw [bt]
        show H' D = some (.lst (badF (xs.take j) (os.take j) ++ []))
        rw [List.append_nil]
        exact hd
      | none =>
        obtain ⟨t, ty, e⟩ := st
        refine ⟨_, rfl, _, _, _, _, _, rfl, .own (aS K), ty, e, _, rfl, iteTr rfl ?_⟩
        refine ⟨_, rfl, _, hd, by rw [sizeLine_eq]; omega, same_upd hD s, ?_⟩
        rw [upd_same, bt]
        rfl
    · obtain ⟨s1, hd⟩ := h1
      have e1 : badF (xs.take xs.length) (os.take xs.length) = badF xs os := by rw [List.take_length, lx, List.take_length]
      rw [e1] at hd
      refine ⟨show 0 ≤ sizeLine by decide, fun z nz => ?_⟩
      have s2 := s1.trans (same_new (o := .lst []) nz)
      obtain ⟨ok1, e2⟩ := eqIs_nil (badF xs os)
      refine ⟨D, z, _, _, rfl, rfl, SqL.of (same_new nz _ _ hd), SqL.of upd_same, ok1, _, rfl, ?_⟩
      rw [e2, bad_nil lx]
      generalize upd H1 z (.lst []) = H2 at s2
      have tup : ∀ {H' : Hp} {r : Str} {n : Option Str}, Same H H' → reasonF os = some (r, n) → 2 ≤ sizeLine ∧ ∀ t, H' t = none → Q (.ref t) (upd H' t (.tup [.str r, nmV n])) := fun s e => ⟨show 2 ≤ sizeLine by decide, fun t nt => k _ _ (s.trans (same_new nt)) (by rw [e]; exact ⟨t, rfl, upd_same⟩)⟩
      by_cases ha : (os.all (·.isSome)) = false
      · exact iteTr (by rw [ha]; rfl) (tup (n := none) s2 (by unfold reasonF; rw [if_pos ha]))
      have ha' : (os.all (·.isSome)) = true := by
        cases z : os.all (·.isSome) with
        | true => rfl
        | false => exact absurd z ha
      refine iteFa (by rw [ha']; rfl) ?_
      obtain ⟨ps, rfl⟩ : ∃ ps : List SP, os = ps.map some := ⟨_, all_some ha'⟩
      obtain ⟨ef, _⟩ := some_map ps
      have er : reasonF (ps.map some) = reason2 ps := by
        unfold reasonF
        rw [ha', if_neg (by decide), ef]
      rw [er] at k
      simp only [er] at tup
      clear er ha ha' hd e1 e2 ok1
      rw [List.length_map] at lx l40
      refine ⟨_, rfl, l, _, rfl, .inl (SqL.of (s2 _ _ hl)), _, _, rfl, rfl, _, rfl, ?_⟩
      unfold reason2 at tup k
      refine iteD (fun g => tup (n := none) s2 (by rw [if_pos (by omega)])) (fun g => ?_)
      have l12 : ¬ 12 < ps.length := by omega
      rw [if_neg l12] at k
      simp only [if_neg l12] at tup
      have gt : ∀ {H' : Hp} {i : Nat} {v : V}, Same H H' → xs[i]? = some v → ∃ q a dx l, ps[i]? = some q ∧ v = .ref a ∧ H' a = some (.ins (aS K) dx [("name", .str q.1), ("legs", .ref l)]) ∧ LegA K H' l q.2 := fun s hv => by
        obtain ⟨o, ho, io⟩ := paired_getI il.it _ _ hv
        rw [List.getElem?_map] at ho
        obtain ⟨q, hq, rfl⟩ := Option.map_eq_some_iff.mp ho
        obtain ⟨⟨a, rfl, ⟨C, c, g⟩⟩, _⟩ := io.same s
        obtain ⟨dx, l, h1, h2⟩ := g.at_
        exact ⟨q, a, dx, l, hq, rfl, h1, C, c, h2⟩
      -- names
      refine ⟨_, rfl, l, _, rfl, .inl (SqL.of (s2 _ _ hl)), _, rfl, by omega, by omega, ?_⟩
      refine for_range (fun i σ' H' => ∃ v1 v3 v4, σ' = [some (.ref l), v1, none, v3, v4] ∧ Same H H' ∧ ∀ j n, j < i → (ps.map (·.1))[j]? = some n → n ∉ (ps.map (·.1)).take j) ⟨_, _, _, rfl, s2, fun j n hj => absurd hj (Nat.not_lt_zero j)⟩ ?_ ?_
      · rintro i σ' H' hi ⟨v1, v3, v4, rfl, s, hn⟩
        have hi : i < xs.length := by have : i < ((xs.length : Int)).toNat := hi; omega
        have hv : xs[i]? = some xs[i] := List.getElem?_eq_getElem hi
        obtain ⟨q, a, dx, lg, hq, ea, h1, h2⟩ := gt s hv
        have hqn : (ps.map (·.1))[i]? = some q.1 := by rw [List.getElem?_map, hq]; rfl
        have ei : (0 : Int) + (i : Int) = (i : Nat) := by omega
        rw [ei]
        have at1 : atI xs ((i : Nat) : Int) = some (.ref a) := atI_nat (by rw [hv, ea])
        refine ⟨_, rfl, _, rfl, l, _, _, _, rfl, rfl, SqL.of (s _ _ hl), at1, a, aS K, dx, _, _, rfl, h1, so.pl.cls, so.no _ (by decide), rfl, ?_⟩
        refine ⟨_, rfl, _, rfl, _, rfl, l, xs, rfl, SqL.of (s _ _ hl), fun C nC => ?_⟩
        rw [cut_take]
        have s3 := same_new (o := .lst (xs.take i)) nC
        have h3 : upd H' C (.lst (xs.take i)) C = some (.lst (xs.take i)) := upd_same
        generalize upd H' C (.lst (xs.take i)) = H3 at s3 h3
        have s03 := s.trans s3
        refine ⟨C, rfl, ⟨_, SqL.of h3⟩, fun D hD => ?_⟩
        refine lcG (yl_list (xs := xs.take i)) (fun j H' => Same H3 H' ∧ H' D = some (.lst ((((ps.map (·.1)).take i).take j).map V.str))) ⟨same_new hD, upd_same⟩ (fun j H' _ h => SqL.of (h.1 _ _ h3)) ?_ fun H4 h4 => ?_
        · rintro j u H5 hu ⟨s5, hd5⟩
          have hu2 : xs[j]? = some u := by
            rw [List.getElem?_take] at hu
            split at hu
            · exact hu
            · cases hu
          have ji : j < i := by
            rw [List.getElem?_take] at hu
            split at hu
            · assumption
            · cases hu
          obtain ⟨q', a', dx', l', hq', rfl, h1', h2'⟩ := gt (s03.trans s5) hu2
          refine ⟨rfl, ?_⟩
          unfold tYes
          dsimp only
          rw [if_pos rfl]
          refine ⟨_, rfl, a', aS K, dx', _, _, rfl, h1', so.pl.cls, so.no _ (by decide), rfl, _, hd5, ?_, same_upd hD s5, ?_⟩
          · rw [List.length_map, List.length_take, List.length_take, List.length_map, sizeLine_eq]
            omega
          · rw [upd_same, List.take_add_one, List.getElem?_take, if_pos ji, List.getElem?_map, hq', List.map_append]
            rfl
        · obtain ⟨s4, hd4⟩ := h4
          have e4 : ((ps.map (·.1)).take i).take (xs.take i).length = (ps.map (·.1)).take i := by
            rw [List.take_take, List.length_take, lx]
            congr 1
            omega
          rw [e4] at hd4
          refine ⟨D, _, rfl, .inl (SqL.of hd4), rfl, flat_strs _, _, rfl, ?_⟩
          have s04 := s03.trans s4
          rw [if_neg (by decide), inV_str]
          by_cases hm : q.1 ∈ (ps.map (·.1)).take i
          · refine iteTr (decide_eq_true hm) ?_
            obtain ⟨q2, a2, dx2, lg2, hq2, ea2, h12, h22⟩ := gt s04 hv
            rw [ea] at ea2
            cases ea2
            refine ⟨_, rfl, _, rfl, l, _, _, _, rfl, rfl, SqL.of (s04 _ _ hl), at1, a, aS K, dx2, _, _, rfl, h12, so.pl.cls, so.no _ (by decide), rfl, ?_⟩
            rw [hq] at hq2
            cases hq2
            refine tup (n := some q.1) s04 ?_
            have e := dup_take (ns := ps.map (·.1)) i (by rw [List.length_map]; omega) hn
            rw [e, drop_at hqn, dupGo_cons, if_pos hm]
          · refine iteFa (decide_eq_false hm) ⟨_, _, _, rfl, s04, fun j n hj hjn => ?_⟩
            rcases Nat.lt_succ_iff_lt_or_eq.mp hj with h | rfl
            · exact hn j n h hjn
            · rw [hqn] at hjn
              cases hjn
              exact hm
      · rintro σ' H3 ⟨v1, v3, v4, rfl, s3, hn⟩
        have hn : ∀ j n, j < ps.length → (ps.map (·.1))[j]? = some n → n ∉ (ps.map (·.1)).take j := fun j n hj => hn j n (by have : ((xs.length : Int)).toNat = xs.length := Int.toNat_natCast _; omega)
        have dz : dupGo [] (ps.map (·.1)) = none := by
          rw [dup_take (ns := ps.map (·.1)) ps.length (by rw [List.length_map]; exact Nat.le_refl _) hn]
          have e : (ps.map (·.1)).drop ps.length = [] := List.drop_eq_nil_of_le (by rw [List.length_map]; exact Nat.le_refl _)
          rw [e]
          rfl
        rw [dz] at k
        simp only [dz] at tup
        -- months
        refine ⟨show 0 ≤ sizeLine by decide, fun M nM => ?_⟩
        have s4 := s3.trans (same_new (o := .lst []) nM)
        refine ⟨_, rfl, l, rfl, ⟨_, SqL.of (s4 _ _ hl)⟩, ?_⟩
        refine forP (yl_list (xs := xs)) (fun i σ H' => ∃ v1 M v3 v4, σ = [some (.ref l), v1, some (.ref M), v3, v4] ∧ Same H H' ∧ H' M = some (.lst ((monT (ps.take i)).map V.str)) ∧ ∀ j, j < i → (monT (ps.take (j + 1))).length ≤ 6) ⟨_, M, _, _, rfl, s4, upd_same, fun j hj => absurd hj (Nat.not_lt_zero j)⟩ (fun i σ H' _ h => by obtain ⟨_, _, _, _, _, s, _⟩ := h; exact SqL.of (s _ _ hl)) ?_ ?_
        · rintro i v σ H5 hv ⟨v1, M5, v3, v4, rfl, s5, hM, h6⟩
          obtain ⟨q, a, dx, lg, hq, rfl, h1, C, c, h2⟩ := gt s5 hv
          obtain ⟨dx2, t, g1, g2⟩ := id h2.at_
          have il : i < ps.length := (List.getElem?_eq_some_iff.mp hq).1
          refine ⟨_, rfl, _, rfl, a, aS K, dx, _, _, rfl, h1, so.pl.cls, so.no _ (by decide), rfl, C, lg, dx2, _, c.pl.cls, c.mo, rfl, g1, lg, C, q.2, rfl, h2, c, fun tp H6 ntp s6 h6' => ?_⟩
          refine ⟨tp, rfl, ⟨_, SqT.of h6'⟩, fun D hD => ?_⟩
          have hM6 := s6 _ _ hM
          refine lcF (yl_tup (xs := (ks q.2).map V.str)) (fun v => !decide (strOf v ∈ monT (ps.take i))) (fun v => v) hD (by rw [List.length_map]; unfold ks; rw [List.length_map]; have := h2.len; omega) (fun H' s => SqT.of (s _ _ h6')) (fun _ => rfl) (fun v H' hm s Qb q' => ?_) (fun v H' hm _ s Q2 q => ⟨_, rfl, q H' (Same.refl H')⟩) fun H7 s7 hl7 => ?_
          · obtain ⟨x, _, rfl⟩ := List.mem_map.mp hm
            refine ⟨_, rfl, _, rfl, M5, _, rfl, .inl (SqL.of (s _ _ hM6)), rfl, flat_strs _, _, rfl, ?_⟩
            rw [if_pos rfl, inV_str]
            exact q' H' (Same.refl H')
          · have e7 : (List.map (fun v => v) (List.filter (fun v => !decide (strOf v ∈ monT (ps.take i))) ((ks q.2).map V.str))) = ((ks q.2).filter fun x => decide (x ∉ monT (ps.take i))).map V.str := by
              rw [List.map_id', List.filter_map]
              congr 1
              refine List.filter_congr fun x _ => ?_
              show (!decide (x ∈ _)) = _
              by_cases h : x ∈ monT (ps.take i) <;> simp [h]
            rw [e7] at hl7
            have s57 := s6.trans s7
            have hM7 := s57 _ _ hM
            have em : monT (ps.take (i + 1)) = monT (ps.take i) ++ (ks q.2).filter fun x => decide (x ∉ monT (ps.take i)) := by
              rw [monT_succ hq, addAll_filter _ _ h2.can.nd]
            have lm : (monT (ps.take i)).length ≤ 6 := by
              cases i with
              | zero => exact Nat.zero_le _
              | succ j => exact h6 j (Nat.lt_succ_self j)
            have lk : ((ks q.2).filter fun x => decide (x ∉ monT (ps.take i))).length < 64 := Nat.lt_of_le_of_lt (List.length_filter_le ..) (by unfold ks; rw [List.length_map]; exact h2.len)
            refine ⟨M5, D, _, _, rfl, rfl, hM7, hl7, by rw [List.length_map, List.length_map, sizeLine_eq]; omega, fun N nN => ?_⟩
            rw [← List.map_append, ← em]
            have s8 := (s5.trans s57).trans (same_new (o := .lst ((monT (ps.take (i + 1))).map V.str)) nN)
            have h8 : upd H7 N (.lst ((monT (ps.take (i + 1))).map V.str)) N = some (.lst ((monT (ps.take (i + 1))).map V.str)) := upd_same
            have h18 := same_new (o := .lst ((monT (ps.take (i + 1))).map V.str)) nN _ _ (s57 _ _ h1)
            generalize upd H7 N (.lst ((monT (ps.take (i + 1))).map V.str)) = H8 at s8 h8 h18
            refine ⟨_, rfl, N, _, rfl, .inl (SqL.of h8), _, _, rfl, rfl, _, rfl, ?_⟩
            rw [List.length_map]
            refine iteD (fun g => ?_) (fun g => ⟨_, N, _, _, rfl, s8, h8, fun j hj => ?_⟩)
            · refine ⟨_, rfl, a, aS K, dx, _, _, rfl, h18, so.pl.cls, so.no _ (by decide), rfl, ?_⟩
              refine tup (n := some q.1) s8 ?_
              have e := mon_take (ps := ps) i (by omega) h6
              rw [e, drop_at hq, monGo_cons, ← monT_succ hq, if_pos (by omega)]
            · rcases Nat.lt_succ_iff_lt_or_eq.mp hj with h | rfl
              · exact h6 j h
              · omega
        · rintro σ H5 ⟨v1, M5, v3, v4, rfl, s5, hM, h6⟩
          rw [lx] at h6
          have mz : monGo [] ps = none := by
            rw [mon_take ps.length (Nat.le_refl _) h6, List.drop_length]
            rfl
          rw [mz] at k
          exact k .non H5 s5 rfl
end
end Kx
set_option maxHeartbeats 4000000
namespace Kx
open PySem PySem.Spec PyProof.Rows L2 Xr LamX
local macro_rules | `(tactic| walk_at "rd") => `(tactic| (repeat (first | apply Exists.intro | (refine And.intro rfl ?_) | (refine And.intro (SqL.of (by assumption)) ?_) | (refine And.intro (Or.inl (SqL.of (by assumption))) ?_) | (refine Or.inl ⟨_, rfl, ?_⟩) | (refine Or.inr ⟨_, rfl, ?_⟩) | (refine And.intro (by assumption) ?_) | (refine And.intro (Or.inl (by assumption)) ?_))))
section
variable {P : Program} {w : World} {K : PySem.W.Frag} {mg : Str → Option Value} {base : Heap}
theorem sc__law_heard : FnScope ["_law_ask", "_law_caught", "error"] ["_law_ask"] (defScope (top 51)) := ⟨rfl, rfl, rfl, by decide +kernel, rfl, by decide +kernel, by decide +kernel⟩
/-- what _law_heard makes of a call: its value, or the error's reason and name -/
def ToldE (K : PySem.W.Frag) (Q : VK) : XK := fun cls d H' => cls = .ref (He.ga K "InvalidList") ∧ ∃ dd r n, d = some dd ∧ H' dd = some (.xd [("reason", r), ("name", n)]) ∧ ∀ p H2, Same H' H2 → H2 p = some (.tup [r, n]) → Q (.ref p) H2
def TTs (K : PySem.W.Frag) : (XK → Hp → VK → Prop) → Hp → VK → Prop := fun tl H Q => tl (ToldE K Q) H Q
theorem heard_gives (T : Txt P K mg) {X : Cx} (eP : X.prog = P) (eK : X.K = K) (eg : X.mg = mg) (cdg : Value) {q : Str} : GivesTo X ["_law_ask", "_law_caught", "error"] "_law_heard" (defScope (top 51)) (He.ga K "_law_heard") cdg (defBody (top 51)) "_law_ask" q (TTs K) := by
  subst eP eK eg
  intro f c' s H Q tl act hc h
  have xi := T.e_InvalidList.xi
  have xf := T.e_InvalidList.xf
  have k1 := T.kitE "InvalidList" (by decide) "InvalidList" (by decide)
  have k2 := T.kitE "InvalidList" (by decide) "InvalidLegs" (by decide)
  have k3 := T.kitE "InvalidList" (by decide) "InvalidStrategy" (by decide)
  have kA : PySem.W.kitAny X.K (.ref (He.ga X.K "InvalidList")) [.ref (He.ga X.K "InvalidLegs"), .ref (He.ga X.K "InvalidStrategy")] = some false := by
    unfold PySem.W.kitAny
    rw [k2]
    show PySem.W.kitAny X.K _ _ = _
    unfold PySem.W.kitAny
    rw [k3]
    rfl
  have ex := T.exm "InvalidList" (by decide)
  refine ⟨_, pss_cons (ps_asg pe_non (pg_name (i := 1) sc__law_heard.nd rfl (.inl rfl))) (pss_cons (ps_try_keep (X := (cxOf C8.CX0 X.prog X.w X.K X.mg X.base ["_law_ask", "_law_caught", "error"] "_law_heard" (defScope (top 51)) (He.ga X.K "_law_heard") cdg X.A X.stack s H C8.E0).nox) (i := 2) (c1 := .ref (He.ga X.K "LotError")) (c2 := .ref (He.ga X.K "UnknownName"))
      (tb := fun W D σ H => ∃ Ech : XK, (∀ cls d σ' H', Ech cls d H' → σ'.length = 3 → W cls d σ' H') ∧ σ[0]? = some (some (.ref f)) ∧ H c' = some (CodeO c' q) ∧ tl Ech H D.rt)
      rfl rfl rfl sc__law_heard.nd rfl rfl ⟨rfl, by decide, .inl T.g_LotError⟩ ⟨rfl, by decide, .inl T.g_UnknownName⟩ takes0 (fun W pn xe tk _ => ?_) (fun a oe cls d pn _ _ => pss_one (ps_asg (pv 2) (pg_name (i := 1) sc__law_heard.nd rfl (.inl rfl)))))
    (pss_cons (ps_if (PW.pt (pw_or (pt_not (pt_val (pe_callB call_isR (by rfl) T.z_isinstance (by decide +kernel) (pa_cons (pv 1) (pa_cons (pe_glob (v := .ref (He.ga X.K "InvalidList")) (by rfl) T.g_InvalidList rfl) pa_nil))))) (pw_or1 (pt_val (pe_callB call_isRT (by rfl) T.z_isinstance (by decide +kernel) (pa_cons (pv 1) (pa_cons (pe_tup (pa_cons (pe_glob (v := .ref (He.ga X.K "InvalidLegs")) (by rfl) T.g_InvalidLegs rfl) (pa_cons (pe_glob (v := .ref (He.ga X.K "InvalidStrategy")) (by rfl) T.g_InvalidStrategy rfl) pa_nil))) pa_nil)))))))
        (pss_one (ps_ret pe_str)) pss_nil)
      (pss_one (ps_ret (pe_tup (pa_cons (pe_xr (pv 1)) (pa_cons (pe_xr (pv 1)) pa_nil))))))), ?_⟩
  · refine ⟨fun pins s' σ H' D I h' => ?_⟩
    obtain ⟨Ech, hW, h1, h2, h3⟩ := h'
    exact (pss_one (ps_ret (act (fun cls d σ H => σ.length = 3 → W cls d σ H) pn xe Ech _ _ (takes_len rfl tk) hW))).run pins s' σ H' D I ⟨h1, h2, h3⟩
  · refine ⟨_, fun cls d σ' H' hE hl => ?_, rfl, hc, h⟩
    obtain ⟨rfl, dd, r, n, rfl, hdd, k⟩ := hE
    obtain ⟨x0, x1, x2, rfl⟩ : ∃ x0 x1 x2, σ' = [x0, x1, x2] := match σ', hl with | [x0, x1, x2], _ => ⟨x0, x1, x2, rfl⟩
    refine ⟨true, ex, fun _ a na => ⟨_, rfl, fun na2 => ?_⟩, fun z => by cases z⟩
    have ha : upd H' a (exr a (.ref (He.ga X.K "InvalidList")) (some dd)) a = _ := upd_same
    have hd2 : upd H' a (exr a (.ref (He.ga X.K "InvalidList")) (some dd)) dd = _ := (upd_ne (ne_of_none hdd na)).trans hdd
    have s2 := same_new (o := exr a (.ref (He.ga X.K "InvalidList")) (some dd)) na
    generalize upd H' a (exr a (.ref (He.ga X.K "InvalidList")) (some dd)) = H2 at ha hd2 s2
    refine ⟨_, rfl, a, _, dd, _, _, _, _, rfl, ha, hd2, xi, .own _, k1, _, rfl, iteFa rfl ?_⟩
    refine ⟨_, rfl, show 2 ≤ sizeLine by decide, fun tp ntp => ?_⟩
    have s3 := same_new (o := .tup [.ref (He.ga X.K "InvalidLegs"), .ref (He.ga X.K "InvalidStrategy")]) ntp
    have h3 : upd H2 tp (.tup [.ref (He.ga X.K "InvalidLegs"), .ref (He.ga X.K "InvalidStrategy")]) tp = _ := upd_same
    refine ⟨a, _, dd, tp, _, _, _, _, rfl, s3 _ _ ha, s3 _ _ hd2, xi, h3, .cons (.own _) (.cons (.own _) .nil), kA, _, rfl, iteFa rfl ?_⟩
    refine ⟨_, rfl, a, _, dd, _, _, rfl, s3 _ _ ha, s3 _ _ hd2, xf, T.e_InvalidList.no _ (by decide), rfl, _, rfl, a, _, dd, _, _, rfl, s3 _ _ ha, s3 _ _ hd2, xf, T.e_InvalidList.no _ (by decide), rfl, show 2 ≤ sizeLine by decide, fun p np => ?_⟩
    exact k p _ ((s2.trans s3).trans (same_new np)) upd_same
theorem tts_use (R : V → Hp → Prop) {tl : XK → Hp → VK → Prop} {H : Hp} {Q : VK} (h : ∀ Q' : VK, (∀ z H5, R z H5 → Q' z H5) → TTs K tl H Q') (c : ∀ z H5, R z H5 → Q z H5) : TTs K tl H Q := h Q c
/-- what is heard of a listing's making: the reason's tuple, or the listing -/
def HeardV (K : PySem.W.Frag) (xs : List V) (o : Option (Str × Option Str)) (H : Hp) (v : V) (H' : Hp) : Prop := Same H H' ∧ match o with
  | some (r, n) => ∃ t, v = .ref t ∧ H' t = some (.tup [.str r, nmV n])
  | none => ∃ y ps, v = .ref y ∧ H y = none ∧ ListAt K H' y .non xs ps
theorem toldL {H : Hp} {xs : List V} {os : List (Option SP)} {Q : VK} (k : ∀ v H', HeardV K xs (reasonF os) H v H' → Q v H') : ∀ r n, reasonF os = some (r, n) → FltL K r n H (ToldE K Q) := fun r n e d H' s nd hd => ⟨rfl, d, _, _, rfl, hd, fun p H2 s2 h2 => k _ _ (by rw [e]; exact ⟨s.trans s2, p, rfl, h2⟩)⟩
theorem madeL {H : Hp} {xs : List V} {os : List (Option SP)} {Q : VK} (k : ∀ v H', HeardV K xs (reasonF os) H v H' → Q v H') : reasonF os = none → ∀ ps, os = ps.map some → ∀ y H', Same H H' → H y = none → ListAt K H' y .non xs ps → Q (.ref y) H' := fun e ps _ y H' s ny la => k _ _ (by rw [e]; exact ⟨s, y, ps, rfl, ny, la⟩)
end
end Kx
set_option maxHeartbeats 8000000
namespace Kx
open PySem PySem.Spec PyProof.Rows L2 Xr LamX
local macro_rules | `(tactic| walk_at "rd") => `(tactic| (repeat (first | apply Exists.intro | (refine And.intro rfl ?_) | (refine And.intro (SqL.of (by assumption)) ?_) | (refine And.intro (Or.inl (SqL.of (by assumption))) ?_) | (refine Or.inl ⟨_, rfl, ?_⟩) | (refine Or.inr ⟨_, rfl, ?_⟩) | (refine And.intro (by assumption) ?_) | (refine And.intro (Or.inl (by assumption)) ?_))))
theorem dup_mem : ∀ {ns k : List Str} {n : Str}, dupGo k ns = some n → n ∈ ns
  | x :: r, k, n, h => by
    rw [dupGo_cons] at h
    by_cases hx : x ∈ k
    · rw [if_pos hx] at h; cases h; exact List.mem_cons_self ..
    · rw [if_neg hx] at h; exact List.mem_cons_of_mem _ (dup_mem h)
theorem mon_mem : ∀ {ps : List SP} {l : List Str} {n : Str}, monGo l ps = some n → ∃ q ∈ ps, q.1 = n
  | x :: r, l, n, h => by
    rw [monGo_cons] at h
    by_cases hx : 6 < (addAll l (ks x.2)).length
    · rw [if_pos hx] at h; cases h; exact ⟨x, List.mem_cons_self .., rfl⟩
    · rw [if_neg hx] at h
      obtain ⟨q, hq, e⟩ := mon_mem h
      exact ⟨q, List.mem_cons_of_mem _ hq, e⟩
def reasonsL : List Str := ["strategy", "many", "name", "months"]
theorem reason_mem {os : List (Option SP)} {r : Str} {n : Option Str} (h : reasonF os = some (r, n)) : r ∈ reasonsL ∧ ∀ nm, n = some nm → ∃ q, some q ∈ os ∧ q.1 = nm := by
  have fm : ∀ {q : SP}, q ∈ os.filterMap id → some q ∈ os := fun hq => by
    obtain ⟨a, ha, e⟩ := List.mem_filterMap.mp hq
    have : a = some _ := e
    exact this ▸ ha
  unfold reasonF at h
  split at h
  · cases h
    exact ⟨by decide, fun nm z => by cases z⟩
  · unfold reason2 at h
    split at h
    · cases h
      exact ⟨by decide, fun nm z => by cases z⟩
    · split at h
      · rename_i n' e
        cases h
        refine ⟨by decide, fun nm z => ?_⟩
        cases z
        obtain ⟨q, hq, e2⟩ := List.mem_map.mp (dup_mem e)
        exact ⟨q, fm hq, e2⟩
      · split at h
        · rename_i n' e
          cases h
          refine ⟨by decide, fun nm z => ?_⟩
          cases z
          obtain ⟨q, hq, e2⟩ := mon_mem e
          exact ⟨q, fm hq, e2⟩
        · cases h
def nmD : Option Str → PyData
  | none => .none
  | some n => .str n
theorem repr_len {x : Str} (h : x.length ≤ 100 ∧ PyData.strOk x = true) : (reprText x).length ≤ 1921 := by
  have z := StrLaws.reprText_len x fun c hc => by
    have z := h.2
    unfold PyData.strOk at z
    rw [← Array.all_toList, List.all_eq_true] at z
    have := of_decide_eq_true (z c hc)
    exact Nat.lt_trans this (by decide)
  have := h.1
  omega
def okN : Option Str → Prop
  | none => True
  | some n => NmOk n
theorem tup_len {r : Str} {n : Option Str} (hr : r ∈ reasonsL) (hn : okN n) : (PyData.tuple [.str r, nmD n]).shown.length ≤ sizeLine := by
  have e : (PyData.tuple [.str r, nmD n]).shown = ("(" : Str) ++ Str.join ", " [reprText r, (nmD n).shown] ++ (")" : Str) := rfl
  have l1 : (reprText r).length ≤ 1921 := repr_len (by
    have : ∀ x ∈ reasonsL, x.length ≤ 100 ∧ PyData.strOk x = true := by decide +kernel
    exact this r hr)
  have l2 : (nmD n).shown.length ≤ 1921 := by
    cases n with
    | none => decide
    | some m =>
      refine repr_len ⟨?_, hn.2⟩
      have := hn.1
      unfold nameB at this
      have := of_decide_eq_true (He.ba (He.ba this).1).2
      omega
  have z := PySem.join_length_add [reprText r, (nmD n).shown] (by simp)
  have z2 : PySem.piled [reprText r, (nmD n).shown] = (reprText r).length + 2 + ((nmD n).shown.length + 2 + 0) := rfl
  have e1 : (Str.ofString "(").length = 1 := rfl
  have e2 : (Str.ofString ")").length = 1 := rfl
  rw [e, app_len, app_len, sizeLine_eq, e1, e2]
  omega
section
variable {P : Program} {w : World} {K : PySem.W.Frag} {mg : Str → Option Value} {base : Heap}
theorem dq_tup {H : Hp} {t : Addr} {r : Str} {n : Option Str} (h : H t = some (.tup [.str r, nmV n])) : Dq K H (.ref t) (.tuple [.str r, nmD n]) := by
  refine .tup (SqT.of h) (.cons (.str _) (.cons ?_ .nil))
  cases n with
  | none => exact .non
  | some m => exact .str m
theorem it_names {H : Hp} {xs : List V} {os : List (Option SP)} (h : Paired (ItV K H) xs os) {q : SP} (hq : some q ∈ os) : NmOk q.1 := by
  induction h with
  | nil => exact (List.not_mem_nil hq).elim
  | cons a _ ih =>
    rcases List.mem_cons.mp hq with e | hq
    · subst e
      exact a.2.2
    · exact ih hq
theorem reason_ok {H : Hp} {xs : List V} {os : List (Option SP)} {r : Str} {n : Option Str} (h : Paired (ItV K H) xs os) (e : reasonF os = some (r, n)) : r ∈ reasonsL ∧ okN n := by
  obtain ⟨h1, h2⟩ := reason_mem e
  refine ⟨h1, ?_⟩
  cases n with
  | none => trivial
  | some m =>
    obtain ⟨q, hq, rfl⟩ := h2 m rfl
    exact it_names h hq
theorem sc__law_direct : FnScope ["_law_found"] ["_law_found"] (defScope (top 52)) := ⟨rfl, rfl, rfl, by decide +kernel, rfl, by decide +kernel, by decide +kernel⟩
def spDirect (K : PySem.W.Frag) : Sp := fun vs H Q E => ∃ (l : Addr) (xs : List V) (os : List (Option SP)), vs = [.ref l] ∧ H l = some (.lst xs) ∧ Paired (StgV K H) xs os ∧ xs.length ≤ 3 ∧ (∀ r n, reasonF os = some (r, n) → FltL K r n H E) ∧ (reasonF os = none → ∀ ps, os = ps.map some → ∀ y H', Same H H' → H y = none → ListAt K H' y .non xs ps → Q (.ref y) H')
theorem ok__law_direct (T : Txt P K mg) : OkF P w K mg base (L2.CX P w) 8 (He.ga K "_law_direct") ["_law_found"] (spDirect K) := by
  have G_Li := ok_Listing_init (P := P) (w := w) (base := base) T
  obtain ⟨fd, F⟩ := T.F__law_direct
  refine ⟨fd, F.ok sc__law_direct (fun vs H Q E h => ?_) (fun cdv A outer s H vs Q E hr h => ?_), F.bindsN fun _ _ _ _ _ _ us hl => match us, hl with | [_], _ => rfl, F.kp⟩
  · obtain ⟨l, xs, os, rfl, _⟩ := h
    rfl
  · obtain ⟨l, xs, os, rfl, hl, hp, l3, kE, kQ⟩ := h
    refine ⟨_, (pss_cons (ps_if (pt_cmpR op_eq (pe_callB call_len_seq (by rfl) T.z_len (by decide +kernel) (pa_cons (pv 0) pa_nil)) pe_int (nomark _))
      (pss_one (ps_ret (pe_makeR0 T.lis.oc.mks G_Li (hr.mono (by decide)) (by rfl) T.g_Listing (passes_call (takes_of rfl rfl rfl rfl) (fun _ _ _ _ h => h)))))
      pss_nil)
    (pss_cons (ps_if (pt_cmpR op_eq (pe_callB call_len_seq (by rfl) T.z_len (by decide +kernel) (pa_cons (pv 0) pa_nil)) pe_int (nomark _))
      (pss_one (ps_ret (StX.pe_makeR T.lis.oc.mks G_Li (hr.mono (by decide)) (by rfl) T.g_Listing (passes_call (takes_of rfl rfl rfl rfl) (fun _ _ _ _ h => h)) (pa_cons (pe_ix (ix_listK K) (pv 0) pe_int (fun _ _ => rfl)) pa_nil))))
      pss_nil)
    (pss_cons (ps_if (pt_cmpR op_eq (pe_callB call_len_seq (by rfl) T.z_len (by decide +kernel) (pa_cons (pv 0) pa_nil)) pe_int (nomark _))
      (pss_one (ps_ret (StX.pe_makeR T.lis.oc.mks G_Li (hr.mono (by decide)) (by rfl) T.g_Listing (passes_call (takes_of rfl rfl rfl rfl) (fun _ _ _ _ h => h)) (pa_cons (pe_ix (ix_listK K) (pv 0) pe_int (fun _ _ => rfl)) (pa_cons (pe_ix (ix_listK K) (pv 0) pe_int (fun _ _ => rfl)) pa_nil)))))
      pss_nil)
    (pss_one (ps_ret (StX.pe_makeR T.lis.oc.mks G_Li (hr.mono (by decide)) (by rfl) T.g_Listing (passes_call (takes_of rfl rfl rfl rfl) (fun _ _ _ _ h => h)) (pa_cons (pe_ix (ix_listK K) (pv 0) pe_int (fun _ _ => rfl)) (pa_cons (pe_ix (ix_listK K) (pv 0) pe_int (fun _ _ => rfl)) (pa_cons (pe_ix (ix_listK K) (pv 0) pe_int (fun _ _ => rfl)) pa_nil))))))))), ?_⟩
    have lx : xs.length = os.length := Paired.length hp
    have at_ : ∀ i : Nat, i < xs.length → atI xs ((i : Nat) : Int) = some (xs.getD i .non) := fun i hi => atI_nat (by rw [List.getD_eq_getElem?_getD, List.getElem?_eq_getElem hi]; rfl)
    have fin := mkL_ok (Q := Q) hp (by omega) kE kQ
    refine ⟨_, rfl, l, _, rfl, .inl (SqL.of hl), rfl, _, rfl, ?_⟩
    by_cases h0 : xs.length = 0
    · refine iteTr (by rw [h0]; rfl) ?_
      obtain rfl : xs = [] := List.length_eq_zero_iff.mp h0
      exact fin
    refine iteFa (decide_eq_false fun z => by injection z with z; omega) ?_
    refine ⟨_, rfl, l, _, rfl, .inl (SqL.of hl), rfl, _, rfl, ?_⟩
    by_cases h1 : xs.length = 1
    · refine iteTr (by rw [h1]; rfl) ?_
      refine ⟨_, rfl, l, _, _, _, rfl, rfl, SqL.of hl, at_ 0 (by omega), ?_⟩
      match xs, h1 with
      | [a], _ => exact fin
    refine iteFa (decide_eq_false fun z => by injection z with z; omega) ?_
    refine ⟨_, rfl, l, _, rfl, .inl (SqL.of hl), rfl, _, rfl, ?_⟩
    by_cases h2 : xs.length = 2
    · refine iteTr (by rw [h2]; rfl) ?_
      refine ⟨_, rfl, l, _, _, _, rfl, rfl, SqL.of hl, at_ 0 (by omega), _, rfl, l, _, _, _, rfl, rfl, SqL.of hl, at_ 1 (by omega), ?_⟩
      match xs, h2 with
      | [a, b], _ => exact fin
    refine iteFa (decide_eq_false fun z => by injection z with z; omega) ?_
    have h3 : xs.length = 3 := by omega
    refine ⟨_, rfl, l, _, _, _, rfl, rfl, SqL.of hl, at_ 0 (by omega), _, rfl, l, _, _, _, rfl, rfl, SqL.of hl, at_ 1 (by omega), _, rfl, l, _, _, _, rfl, rfl, SqL.of hl, at_ 2 (by omega), ?_⟩
    match xs, h3 with
    | [a, b, c], _ => exact fin
theorem ListAt.map {H H' : Hp} {a : Addr} {kv : V} {xs : List V} {ps : List SP} (h : ListAt K H a kv xs ps) (s : ∀ b o, H b = some o → ((∃ C dx fs, o = .ins C dx fs) ∨ (∃ t, o = .dK t) ∨ ∃ t, o = .tup t) → H' b = some o) : ListAt K H' a kv xs ps := by
  have s2 : ∀ b o, H b = some o → ((∃ C dx fs, o = .ins C dx fs) ∨ ∃ t, o = .dK t) → H' b = some o := fun b o e z => s b o e (z.elim .inl fun z => .inr (.inl z))
  obtain ⟨dx, rw', bn, kvs, h1, h2, h3, h4⟩ := h.at_
  refine ⟨⟨dx, rw', bn, kvs, s _ _ h1 (.inl ⟨_, _, _, rfl⟩), s _ _ h2 (.inr (.inr ⟨_, rfl⟩)), s _ _ h3 (.inr (.inl ⟨_, rfl⟩)), Paired.mapP h4 fun _ _ ⟨e, l, e2, g⟩ => ⟨e, l, e2, g.map s2⟩⟩, Paired.mapP h.st fun _ _ g => ?_, h.good⟩
  obtain ⟨a, e, g, k⟩ := g
  exact ⟨a, e, g.map s2, k⟩
/-- what a call of the law has told: the reason, or the listing -/
def TV (K : PySem.W.Frag) (xs : List V) (o : Option (Str × Option Str)) (H : Hp) (v : V) : Prop := match o with
  | some (r, n) => ∃ t, v = .ref t ∧ H t = some (.tup [.str r, nmV n])
  | none => ∃ y ps, v = .ref y ∧ ListAt K H y .non xs ps
theorem HeardV.tv {xs : List V} {o : Option (Str × Option Str)} {H H' : Hp} {v : V} (h : HeardV K xs o H v H') : TV K xs o H' v := by
  obtain ⟨_, h⟩ := h
  cases o with
  | none => obtain ⟨y, ps, e, _, la⟩ := h; exact ⟨y, ps, e, la⟩
  | some p => exact h
theorem TV.map {xs : List V} {o : Option (Str × Option Str)} {H H' : Hp} {v : V} (h : TV K xs o H v) (s : ∀ b u, H b = some u → ((∃ C dx fs, u = .ins C dx fs) ∨ (∃ t, u = .dK t) ∨ ∃ t, u = .tup t) → H' b = some u) : TV K xs o H' v := by
  cases o with
  | none => obtain ⟨y, ps, e, la⟩ := h; exact ⟨y, ps, e, la.map s⟩
  | some p => obtain ⟨t, e, h⟩ := h; exact ⟨t, e, s _ _ h (.inr (.inr ⟨_, rfl⟩))⟩
theorem TV.same {xs : List V} {o : Option (Str × Option Str)} {H H' : Hp} {v : V} (h : TV K xs o H v) (s : Same H H') : TV K xs o H' v := h.map fun b u e _ => s b u e
theorem TV.extN {xs : List V} {o : Option (Str × Option Str)} {H H' : Hp} {v : V} (h : TV K xs o H v) (s : ExtN H H') : TV K xs o H' v := h.map fun b u e z => s b u e fun ps z2 => by rcases z with ⟨_, _, _, z⟩ | ⟨_, z⟩ | ⟨_, z⟩ <;> (rw [z] at z2; cases z2)
theorem TV.but {xs : List V} {o : Option (Str × Option Str)} {H H' : Hp} {v : V} {l : Addr} {zs : List V} (h : TV K xs o H v) (hl : H l = some (.lst zs)) (s : But l H H') : TV K xs o H' v := h.map fun b u e z => s b u e fun z2 => by rw [z2, hl] at e; cases e; rcases z with ⟨_, _, _, z⟩ | ⟨_, z⟩ | ⟨_, z⟩ <;> cases z
/-- the state of _law_right -/
structure RS (K : PySem.W.Frag) (H0 : Hp) (l kl hl tl : Addr) (xs : List V) (os : List (Option SP)) (due : V) (vs : List V) (H : Hp) : Prop where
  ext : ExtN H0 H
  tb : Tabs (tabsT K) H
  it : Paired (ItV K H) xs os
  l_ : H l = some (.lst xs)
  kl_ : H kl = some (.lst xs)
  hl_ : H hl = some (.lst xs)
  tl_ : H tl = some (.lst vs)
  due_ : ReasV H (reasonF os) due
  tv : ∀ v ∈ vs, TV K xs (reasonF os) H v
  nh : ∀ o, H0 hl = some o → (∀ ps, o ≠ .tbl ps) → False
  nt : ∀ o, H0 tl = some o → (∀ ps, o ≠ .tbl ps) → False
  n1 : kl ≠ hl
  n2 : l ≠ hl
  n3 : l ≠ tl
  n4 : kl ≠ tl
  n5 : hl ≠ tl
theorem ReasV.extN {H H' : Hp} {o : Option (Str × Option Str)} {v : V} (h : ReasV H o v) (s : ExtN H H') : ReasV H' o v := by
  cases o with
  | none => exact h
  | some p => obtain ⟨t, e, h⟩ := h; exact ⟨t, e, s _ _ h (fun _ z => by cases z)⟩
theorem ReasV.but {H H' : Hp} {o : Option (Str × Option Str)} {v : V} {l : Addr} {zs : List V} (h : ReasV H o v) (hl : H l = some (.lst zs)) (s : But l H H') : ReasV H' o v := by
  cases o with
  | none => exact h
  | some p => obtain ⟨t, e, h⟩ := h; exact ⟨t, e, s _ _ h (fun z => by rw [z, hl] at h; cases h)⟩
theorem extN_but {H0 H H' : Hp} {l : Addr} (e : ExtN H0 H) (n : ∀ o, H0 l = some o → (∀ ps, o ≠ .tbl ps) → False) (b : But l H H') : ExtN H0 H' := fun c o h z => b _ _ (e _ _ h z) fun q => n o (q ▸ h) z
theorem RS.extN {H0 H H' : Hp} {l kl hl tl : Addr} {xs : List V} {os : List (Option SP)} {due : V} {vs : List V} (r : RS K H0 l kl hl tl xs os due vs H) (s : ExtN H H') (tb : Tabs (tabsT K) H') : RS K H0 l kl hl tl xs os due vs H' :=
  { r with ext := fun b o h n => s _ _ (r.ext _ _ h n) n, tb := tb, it := Paired.mapP r.it fun _ _ z => z.extN s, l_ := s _ _ r.l_ (fun _ z => by cases z), kl_ := s _ _ r.kl_ (fun _ z => by cases z), hl_ := s _ _ r.hl_ (fun _ z => by cases z), tl_ := s _ _ r.tl_ (fun _ z => by cases z), due_ := r.due_.extN s, tv := fun v hv => (r.tv v hv).extN s }
theorem RS.same {H0 H H' : Hp} {l kl hl tl : Addr} {xs : List V} {os : List (Option SP)} {due : V} {vs : List V} (r : RS K H0 l kl hl tl xs os due vs H) (s : Same H H') : RS K H0 l kl hl tl xs os due vs H' := r.extN (Same.toN s) (r.tb.ext s)
theorem TV.ref {xs : List V} {o : Option (Str × Option Str)} {H : Hp} {v : V} (h : TV K xs o H v) : ∃ a, v = .ref a := by
  cases o with
  | none => obtain ⟨y, _, e, _⟩ := h; exact ⟨y, e⟩
  | some p => obtain ⟨y, e, _⟩ := h; exact ⟨y, e⟩
theorem RS.app {H0 H : Hp} {l kl hl tl : Addr} {xs : List V} {os : List (Option SP)} {due : V} {vs : List V} (r : RS K H0 l kl hl tl xs os due vs H) {v : V} (h : TV K xs (reasonF os) H v) : RS K H0 l kl hl tl xs os due (vs ++ [v]) (upd H tl (.lst (vs ++ [v]))) := by
  have b : But tl H (upd H tl (.lst (vs ++ [v]))) := But.upd But.refl
  have hx : vs ≠ [.str "s"] := fun z => by
    obtain ⟨a, e⟩ := (r.tv (.str "s") (by rw [z]; exact List.mem_cons_self ..)).ref
    cases e
  refine { r with ext := extN_but r.ext r.nt b, tb := tabs_but r.tb r.tl_ b, it := Paired.mapP r.it fun _ _ z => z.but r.tl_ (z.ne_lst r.tl_ hx) b, l_ := b _ _ r.l_ r.n3, kl_ := b _ _ r.kl_ r.n4, hl_ := b _ _ r.hl_ r.n5, tl_ := upd_same, due_ := r.due_.but r.tl_ b, tv := fun x hm => ?_ }
  rcases List.mem_append.mp hm with hm | hm
  · exact (r.tv x hm).but r.tl_ b
  · rw [List.mem_singleton.mp hm]
    exact h.but r.tl_ b
theorem sc__law_right : FnScope ["_law_found", "_law_due", "_law_kept", "_law_handed", "_law_told", "_law_one"] ["_law_found"] (defScope (top 53)) := ⟨rfl, rfl, rfl, by decide +kernel, rfl, by decide +kernel, by decide +kernel⟩
def spRight (K : PySem.W.Frag) : Sp := fun vs H Q _ => ∃ (l : Addr) (xs : List V) (os : List (Option SP)), vs = [.ref l] ∧ ItL K H l xs os ∧ os.length ≤ 40 ∧ Tabs (tabsT K) H ∧ ∀ H', ExtN H H' → Tabs (tabsT K) H' → Q (.bl true) H'
theorem ok__law_right (T : Txt P K mg) (TB : ∀ p ∈ tf, TabB base mg (He.cT K p).1 (He.cT K p).2) : ∃ fd, FnG P w K mg base CX0 16 (He.ga K "_law_right") fd ["_law_found"] (spRight K) ∧ Binds K fd ["_law_found"] [] ∧ PySem.W.keepIn K (.ref (He.ga K "_law_right")) = true := by
  have lo := T.lis.oc
  have G__law_reason := ok__law_reason (P := P) (w := w) (base := base) T
  have G__law_direct := ok__law_direct (P := P) (w := w) (base := base) T
  have G_Lof := (ok_Listing_of (P := P) (w := w) (base := base) T).fnR
  have G_LofK := okK_Listing_of (P := P) (w := w) (base := base) T
  have G_len := (ok_Listing_len (P := P) (w := w) (base := base) T).fnR
  obtain ⟨fS, FS⟩ := T.F_Listing_strategies
  have GFs := gfn_Listing_strategies (P := P) (w := w) (base := base) T FS
  have bS := FS.bindsN (ps := ["self"]) fun _ _ _ _ _ _ us hl => match us, hl with | [_], _ => rfl
  obtain ⟨fdH, FH⟩ := T.F__law_heard
  have bH := FH.bindsN (ps := ["_law_ask"]) fun _ _ _ _ _ _ us hl => match us, hl with | [_], _ => rfl
  obtain ⟨fd, F⟩ := T.F__law_right
  refine ⟨fd, okGC (p := ("_law_right", none)) F sc__law_right (fun vs H Q E h => ?_) (fun A outer s H vs Q E hr hgd h => ?_), F.bindsN fun _ _ _ _ _ _ us hl => match us, hl with | [_], _ => rfl, F.kp⟩
  · obtain ⟨l, xs, os, rfl, _⟩ := h
    rfl
  · obtain ⟨l, xs, os, rfl, il, l40, tb, k⟩ := h
    have hu64 := hr.units
    refine ⟨_, PSs.nox (pss_cons (ps_asg (pe_f G__law_reason (hr.mono (by decide)) (by rfl) T.g__law_reason pass0 (pa_cons (pv 0) pa_nil)) (pg_name (i := 1) sc__law_right.nd rfl (.inl rfl)))
    (pss_cons (ps_asg (pe_tup (pa_cons (pe_callTy call_list_of (by rfl) T.z_list (by decide +kernel) (pa_cons (pv 0) pa_nil)) (pa_cons (pe_callTy call_list_of (by rfl) T.z_list (by decide +kernel) (pa_cons (pv 0) pa_nil)) pa_nil))) (pg_tup rfl (pgs_cons (pg_name (i := 2) sc__law_right.nd rfl (.inl rfl)) (pgs_cons (pg_name (i := 3) sc__law_right.nd rfl (.inr rfl)) pgs_nil))))
    (pss_cons (ps_asg (pe_lst (pa_cons (pe_lamF (T := tabsT K) (TT := TTs K) FH bH (by rfl) T.g__law_heard sc__law_heard rfl (.inl rfl) (fun cdv => heard_gives T rfl rfl rfl cdv) (TB ("_law_right", none) (by decide)) rfl (tabs_mem (p := ("_law_right", none)) (by decide)) (tabs_one T (p := ("_law_right", none)) (by decide)) (k := 12) (hr.mono (by decide)) (lamS_by (sc := defScope (top 53)) (by decide +kernel)) (fun A outer s H E f c' hr' => (pe_cmF (pe_glob (v := .ref (He.ga K "Listing")) (by rfl) T.g_Listing rfl) (T.lis.oc.cm "of" (by decide)) G_Lof (hr'.mono (by decide)) (passes_call (takes_of rfl rfl rfl rfl) (fun _ _ _ _ h => h)) (pa_cons (pv 3) pa_nil)))) pa_nil)) (pg_name (i := 4) sc__law_right.nd rfl (.inl rfl)))
    (pss_cons (ps_expr (pe_bm PySem.F.plainAttrs_list PySem.F.slot_list_append PySem.F.type_list_append mt_append (pv 4) (pa_cons (pe_lamF (T := tabsT K) (TT := TTs K) FH bH (by rfl) T.g__law_heard sc__law_heard rfl (.inl rfl) (fun cdv => heard_gives T rfl rfl rfl cdv) (TB ("_law_right", none) (by decide)) rfl (tabs_mem (p := ("_law_right", none)) (by decide)) (tabs_one T (p := ("_law_right", none)) (by decide)) (k := 12) (hr.mono (by decide)) (lamS_by (sc := defScope (top 53)) (by decide +kernel)) (fun A outer s H E f c' hr' => (pe_cmK (pe_glob (v := .ref (He.ga K "Listing")) (by rfl) T.g_Listing rfl) (T.lis.oc.cm "of" (by decide)) G_LofK (hr'.mono (by decide)) (passes_call (takes_of rfl rfl rfl rfl) (fun _ _ _ _ h => h)) (pk_cons (pe_callTy (call_tuple_ofK K) (by rfl) T.z_tuple (by decide +kernel) (pa_cons (pv 3) pa_nil)) pk_nil)))) pa_nil)))
    (pss_cut (ps_if (pt_cmpR op_lt (pe_callB call_len_seq (by rfl) T.z_len (by decide +kernel) (pa_cons (pv 0) pa_nil)) pe_int (nomark _))
      (pss_one (ps_expr (pe_bm PySem.F.plainAttrs_list PySem.F.slot_list_append PySem.F.type_list_append mt_append (pv 4) (pa_cons (pe_lamF (T := tabsT K) (TT := TTs K) FH bH (by rfl) T.g__law_heard sc__law_heard rfl (.inl rfl) (fun cdv => heard_gives T rfl rfl rfl cdv) (TB ("_law_right", none) (by decide)) rfl (tabs_mem (p := ("_law_right", none)) (by decide)) (tabs_one T (p := ("_law_right", none)) (by decide)) (k := 12) (hr.mono (by decide)) (lamS_by (sc := defScope (top 53)) (by decide +kernel)) (fun A outer s H E f c' hr' => (pe_f G__law_direct (hr'.mono (by decide)) (by rfl) T.g__law_direct (passes_call (takes_of rfl rfl rfl rfl) (fun _ _ _ _ h => h)) (pa_cons (pv 0) pa_nil)))) pa_nil))))
      pss_nil)
    (pss_cons (ps_if (pt_cmpR (op_neIL hr.units0) (pv 3) (pv 2) (nomark _))
      (pss_one (ps_ret pe_bl))
      pss_nil)
    (pss_cons (ps_expr (pe_bm PySem.F.plainAttrs_list PySem.F.slot_list_append PySem.F.type_list_append mt_append (pv 3) (pa_cons pe_non pa_nil)))
    (pss_cons (ps_for PassesOwn.never rfl (pi_list (pv 4)) (pg_name (i := 5) sc__law_right.nd rfl (.inl rfl))
      (pss_cons (ps_if (PW.pt (pw_and (pt_cmpR op_notN (pv 1) pe_non (nomark _)) (pw_and1 (pt_cmpR op_ne (pe_callB (call_repr T.all.sys hgd hu64) (by rfl) T.z_repr (by decide +kernel) (pa_cons (pv 5) pa_nil)) (pe_callB (call_repr T.all.sys hgd hu64) (by rfl) T.z_repr (by decide +kernel) (pa_cons (pv 1) pa_nil)) (nomark _)))))
      (pss_one (ps_ret pe_bl))
      pss_nil)
    (pss_cons (ps_if (PW.pt (pw_and (pt_cmpR op_isN (pv 1) pe_non (nomark _)) (pw_and1 (pt_not (pt_val (pe_callB (call_isiK K) (by rfl) T.z_isinstance (by decide +kernel) (pa_cons (pv 5) (pa_cons (pe_glob (v := .ref (He.ga K "Listing")) (by rfl) T.g_Listing rfl) pa_nil))))))))
      (pss_one (ps_ret pe_bl))
      pss_nil)
    (pss_one (ps_if (PW.pt (pw_and (pt_cmpR op_isN (pv 1) pe_non (nomark _)) (pw_and1 (PW.pt (pw_or (pt_cmpR (op_neIL hr.units0) (pe_listG (pgen_meth0 (pv 5) lo.pl.cls (lo.sm "strategies" (by decide)).meth GFs (hr.mono (by decide)) bS .nil) passN (fun _ _ _ h => h.elim) (hr.mono (by decide)) (by rfl) T.z_list (by decide +kernel)) (pv 2) (nomark _)) (pw_or1 (pt_cmpR op_ne (pe_callB (call_lenO (lo.sm "__len__" (by decide)).sm G_len (hr.mono (by decide)) pass0) (by rfl) T.z_len (by decide +kernel) (pa_cons (pv 5) pa_nil)) (pe_callB call_len_seq (by rfl) T.z_len (by decide +kernel) (pa_cons (pv 2) pa_nil)) (nomark _))))))))
      (pss_one (ps_ret pe_bl))
      pss_nil)))))
    (pss_one (ps_ret pe_bl)))))))))), ?_⟩
    have lx : xs.length = os.length := Paired.length il.it
    refine ⟨_, rfl, l, xs, os, rfl, il, l40, fun due H1 s1 rv => ?_⟩
    have il1 := il.same s1
    have tb1 := tb.ext s1
    refine ⟨_, rfl, l, xs, rfl, .inl (SqL.of il1.at_), fun kl nkl => ⟨_, rfl, l, xs, rfl, .inl (SqL.of ?_), fun hl nhl => ⟨show 2 ≤ sizeLine by decide, fun tp ntp => ?_⟩⟩⟩
    · exact same_new nkl _ _ il1.at_
    have s2 : Same H1 (upd (upd (upd H1 kl (.lst xs)) hl (.lst xs)) tp (.tup [.ref kl, .ref hl])) := ((same_new nkl).trans (same_new nhl)).trans (same_new ntp)
    have htp : (upd (upd (upd H1 kl (.lst xs)) hl (.lst xs)) tp (.tup [.ref kl, .ref hl])) tp = some (.tup [.ref kl, .ref hl]) := upd_same
    have hhl : (upd (upd (upd H1 kl (.lst xs)) hl (.lst xs)) tp (.tup [.ref kl, .ref hl])) hl = some (.lst xs) := same_new ntp _ _ upd_same
    have hkl : (upd (upd (upd H1 kl (.lst xs)) hl (.lst xs)) tp (.tup [.ref kl, .ref hl])) kl = some (.lst xs) := same_new ntp _ _ (same_new nhl _ _ upd_same)
    have nkh : kl ≠ hl := fun z => by rw [z] at nhl; rw [upd_same] at nhl; cases nhl
    have nll : l ≠ hl := fun z => by
      have := same_new (o := .lst xs) nkl _ _ il1.at_
      rw [z, nhl] at this
      cases this
    generalize (upd (upd (upd H1 kl (.lst xs)) hl (.lst xs)) tp (.tup [.ref kl, .ref hl])) = H2 at s2 htp hhl hkl
    have il2 := il1.same s2
    have tb2 := tb1.ext s2
    have rv2 := rv.same s2
    have stg2 := it_stg T il2.it
    refine ⟨tp, _, rfl, SqT.of htp, rfl, ?_⟩
    refine ⟨_, _, rfl, _, _, rfl, rfl, ?_⟩
    -- the first call
    refine ⟨tb2, fun H3 e3 tb3 => ?_⟩
    have hh3 := e3 _ _ hhl (fun _ z => by cases z)
    have it3 := Paired.mapP il2.it fun _ _ z => z.extN e3
    refine tts_use (fun z H5 => Same H3 H5 ∧ TV K xs (reasonF os) H5 z) (fun Q' cont => ?_) fun v1 H4 hv1 => ?_
    · have cont2 : ∀ v H', HeardV K xs (reasonF os) H3 v H' → Q' v H' := fun v H' h => cont v H' ⟨h.1, h.tv⟩
      exact ⟨rfl, _, rfl, _, rfl, .inl ⟨xs, os, ⟨hl, rfl, .inl hh3⟩, it_stg T it3, by omega, toldL cont2, madeL cont2⟩⟩
    obtain ⟨s34, tv1⟩ := hv1
    refine ⟨show 1 ≤ sizeLine by decide, fun tl ntl => ?_⟩
    have e03 : ExtN H H3 := fun b o h n => e3 _ _ (s2 _ _ (s1 _ _ h)) n
    have rs : RS K H l kl hl tl xs os due [v1] (upd H4 tl (.lst [v1])) := by
      have s45 := same_new (o := .lst [v1]) ntl
      have s35 := s34.trans s45
      have h0 : ∀ {b : Addr} {o : HO}, H2 b = some o → (∀ ps, o ≠ .tbl ps) → H4 b = some o := fun h n => s34 _ _ (e3 _ _ h n)
      have nt : ∀ {b : Addr} {o : HO}, H4 b = some o → b ≠ tl := fun h z => by rw [z, ntl] at h; cases h
      have hl4 := h0 hhl (fun _ z => by cases z)
      have kl4 := h0 hkl (fun _ z => by cases z)
      have l4 := h0 il2.at_ (fun _ z => by cases z)
      have nhH : ∀ o, H hl = some o → (∀ ps, o ≠ .tbl ps) → False := fun o h n => by
        rw [same_new nkl _ _ (s1 _ _ h)] at nhl
        cases nhl
      have ntH : ∀ o, H tl = some o → (∀ ps, o ≠ .tbl ps) → False := fun o h n => by
        have := s34 _ _ (e03 _ _ h n)
        rw [ntl] at this
        cases this
      exact { ext := fun b o h n => s35 _ _ (e03 _ _ h n), tb := tb3.ext s35, it := Paired.mapP it3 fun _ _ z => z.same s35, l_ := s45 _ _ l4, kl_ := s45 _ _ kl4, hl_ := s45 _ _ hl4, tl_ := upd_same, due_ := (rv2.extN e3).same s35, tv := fun v hv => by rw [List.mem_singleton.mp hv]; exact tv1.same s45, nh := nhH, nt := ntH, n1 := nkh, n2 := nll, n3 := nt l4, n4 := nt kl4, n5 := nt hl4 }
    generalize upd H4 tl (.lst [v1]) = H5 at rs
    clear ntl
    -- the second call
    refine ⟨_, rfl, .inl ⟨rfl, _, SqL.of rs.tl_⟩, rs.tb, fun H6 e6 tb6 => ?_⟩
    have rs6 := rs.extN e6 tb6
    clear rs
    refine tts_use (fun z H5 => Same H6 H5 ∧ TV K xs (reasonF os) H5 z) (fun Q' cont => ?_) fun v2 H7 hv2 => ?_
    · refine ⟨rfl, _, rfl, hl, xs, rfl, .inl ⟨SqL.of rs6.hl_, fun t nt => ?_⟩⟩
      have sx := same_new (o := .tup xs) nt
      have cont2 : ∀ v H', HeardV K xs (reasonF os) (upd H6 t (.tup xs)) v H' → Q' v H' := fun v H' h => cont v H' ⟨sx.trans h.1, h.tv⟩
      exact ⟨rfl, _, rfl, .inl ⟨xs, os, ⟨t, rfl, .inr upd_same⟩, it_stg T (Paired.mapP rs6.it fun _ _ z => z.same sx), by omega, toldL cont2, madeL cont2⟩⟩
    obtain ⟨s67, tv2⟩ := hv2
    have rs7 := rs6.same s67
    refine ⟨tl, [v1], v2, rfl, rfl, rs7.tl_, show 1 < sizeLine by decide, ?_⟩
    have rs8 := rs7.app tv2
    generalize upd H7 tl (.lst ([v1] ++ [v2])) = H8 at rs8
    -- the third call
    refine ⟨fun σ H' => ∃ vs, σ = [some (.ref l), some due, some (.ref kl), some (.ref hl), some (.ref tl), none] ∧ vs.length ≤ 3 ∧ RS K H l kl hl tl xs os due vs H', ?_, fun σ H9 ⟨vs, eσ, lv, r9⟩ => ?_⟩
    · refine ⟨_, rfl, l, xs, rfl, .inl (SqL.of rs8.l_), _, _, rfl, rfl, _, rfl, iteD (fun g => ?_) fun g => ⟨[v1] ++ [v2], rfl, show 2 ≤ 3 by omega, rs8⟩⟩
      refine ⟨_, rfl, .inl ⟨rfl, _, SqL.of rs8.tl_⟩, rs8.tb, fun H9 e9 tb9 => ?_⟩
      have rs9 := rs8.extN e9 tb9
      refine tts_use (fun z H5 => Same H9 H5 ∧ TV K xs (reasonF os) H5 z) (fun Q' cont => ?_) fun v3 H10 hv3 => ?_
      · have cont2 : ∀ v H', HeardV K xs (reasonF os) H9 v H' → Q' v H' := fun v H' h => cont v H' ⟨h.1, h.tv⟩
        exact ⟨_, rfl, l, xs, os, rfl, rs9.l_, it_stg T rs9.it, by omega, toldL cont2, madeL cont2⟩
      obtain ⟨s9, tv3⟩ := hv3
      have rs10 := rs9.same s9
      refine ⟨tl, [v1, v2], v3, rfl, rfl, rs10.tl_, show 2 < sizeLine by decide, ?_⟩
      exact ⟨[v1] ++ [v2] ++ [v3], rfl, show 3 ≤ 3 by omega, rs10.app tv3⟩
    subst eσ
    have ne : (fun x => okI x x = true) = fun x => okI x x = true := rfl
    have eqs := eqIs_self (xs := xs) fun x hx => by
      obtain ⟨i, hi, e⟩ := List.mem_iff_getElem.mp hx
      obtain ⟨o, _, g⟩ := paired_getI r9.it i x (by rw [List.getElem?_eq_getElem hi, e])
      exact g.ok
    refine ⟨_, rfl, _, rfl, hl, kl, xs, xs, rfl, rfl, SqL.of r9.hl_, SqL.of r9.kl_, eqs.1, _, rfl, ?_⟩
    rw [eqs.2]
    refine iteFa rfl ?_
    refine ⟨_, rfl, .inl ⟨rfl, _, SqL.of r9.hl_⟩, hl, xs, .non, rfl, rfl, r9.hl_, by rw [lx, sizeLine_eq]; omega, ?_⟩
    have bh : But hl H9 (upd H9 hl (.lst (xs ++ [.non]))) := But.upd But.refl
    have it10 := it_self r9.it r9.hl_ bh
    have kl10 := bh _ _ r9.kl_ r9.n1
    have tl10 := bh _ _ r9.tl_ (Ne.symm r9.n5)
    have due10 := r9.due_.but r9.hl_ bh
    have tv10 : ∀ v ∈ vs, TV K xs (reasonF os) (upd H9 hl (.lst (xs ++ [.non]))) v := fun v hv => (r9.tv v hv).but r9.hl_ bh
    have tb10 := tabs_but r9.tb r9.hl_ bh
    have ext10 := extN_but r9.ext r9.nh bh
    generalize upd H9 hl (.lst (xs ++ [.non])) = HA at bh it10 kl10 tl10 due10 tv10 tb10 ext10
    refine ⟨_, rfl, tl, rfl, ⟨_, SqL.of tl10⟩, ?_⟩
    refine forP (yl_list (xs := vs)) (fun i σ H' => ∃ v5, σ = [some (.ref l), some due, some (.ref kl), some (.ref hl), some (.ref tl), v5] ∧ Same HA H') ⟨_, rfl, Same.refl HA⟩ (fun i σ H' _ h => by obtain ⟨_, _, s⟩ := h; exact SqL.of (s _ _ tl10)) ?_ ?_
    · rintro i v σ HB hv ⟨v5, rfl, sB⟩
      have tvB := (tv10 v (List.mem_of_getElem? hv)).same sB
      have dueB := due10.same sB
      have klB := sB _ _ kl10
      have itB := Paired.mapP it10 fun _ _ z => z.same sB
      cases eo : reasonF os with
      | some p =>
        obtain ⟨r, n⟩ := p
        rw [eo] at tvB dueB
        obtain ⟨t, rfl, ht⟩ := tvB
        obtain ⟨t2, rfl, ht2⟩ := dueB
        obtain ⟨ra, rb⟩ := reason_ok itB eo
        have dq1 := dq_tup (K := K) ht
        have dq2 := dq_tup (K := K) ht2
        have lt := tup_len ra rb
        have sh : (PyData.tuple [.str r, nmD n]).showable = true := by cases n <;> rfl
        have dp : (PyData.tuple [.str r, nmD n]).depth ≤ 20 := by cases n <;> simp [PyData.depth, PyData.depthAll, nmD]
        refine ⟨_, rfl, rfl, _, rfl, _, rfl, t, _, rfl, dq1, sh, dp, lt, _, rfl, t2, _, rfl, dq2, sh, dp, lt, ?_⟩
        refine ⟨rfl, _, rfl, ?_⟩
        refine iteFa ?_ ?_
        · show (!decide (V.str (PyData.tuple [.str r, nmD n]).shown = V.str (PyData.tuple [.str r, nmD n]).shown)) = false
          rw [decide_eq_true rfl]
          rfl
        refine ⟨_, rfl, rfl, _, rfl, iteFa rfl ?_⟩
        exact ⟨_, rfl, rfl, _, rfl, iteFa rfl ⟨_, rfl, sB⟩⟩
      | none =>
        rw [eo] at tvB dueB
        obtain ⟨y, ps, rfl, la⟩ := tvB
        have dueB : due = .non := dueB
        subst dueB
        refine ⟨_, rfl, rfl, _, rfl, iteFa rfl ?_⟩
        obtain ⟨dx, rw_, bn, kvs, h1, h2, h3, h4⟩ := id la.at_
        have lp : xs.length = ps.length := Paired.length la.st
        refine ⟨_, rfl, rfl, _, rfl, _, rfl, _, _, _, _, _, rfl, .own (aLi K), lo.pl.ty T.all h1, T.lis.kk, _, rfl, iteFa rfl ?_⟩
        refine ⟨_, rfl, rfl, _, rfl, _, rfl, y, dx, _, rfl, h1, rfl, y, .non, xs, ps, rfl, la, fun nl nnl => ?_⟩
        refine ⟨_, rfl, nl, kl, xs, xs, rfl, rfl, SqL.of upd_same, SqL.of (same_new nnl _ _ klB), eqs.1, _, rfl, ?_⟩
        rw [eqs.2]
        refine iteFa rfl ?_
        have sn := same_new (o := .lst xs) nnl
        refine ⟨_, rfl, y, dx, _, rfl, sn _ _ h1, y, .non, xs, ps, rfl, la.same sn, _, rfl, by omega, by omega, _, rfl, kl, xs, rfl, .inl (SqL.of (sn _ _ klB)), rfl, _, rfl, ?_⟩
        refine iteFa ?_ ⟨_, rfl, sB.trans sn⟩
        rw [lp, decide_eq_true rfl]
        rfl
    · rintro σ HB ⟨v5, rfl, sB⟩
      exact k _ (fun b o h n => sB _ _ (ext10 _ _ h n)) (tb10.ext sB)
end
end Kx
set_option maxHeartbeats 8000000
namespace Kx
open PySem PySem.Spec PyProof.Rows L2 Xr LamX
local macro_rules | `(tactic| walk_at "rd") => `(tactic| (repeat (first | apply Exists.intro | (refine And.intro rfl ?_) | (refine And.intro (SqL.of (by assumption)) ?_) | (refine And.intro (Or.inl (SqL.of (by assumption))) ?_) | (refine Or.inl ⟨_, rfl, ?_⟩) | (refine Or.inr ⟨_, rfl, ?_⟩) | (refine And.intro (by assumption) ?_) | (refine And.intro (Or.inl (by assumption)) ?_))))
section
variable {P : Program} {w : World} {K : PySem.W.Frag} {mg : Str → Option Value} {base : Heap}
theorem some_inj {ps qs : List SP} (h : ps.map some = qs.map some) : qs = ps := by
  have := congrArg (List.filterMap id) h
  rw [List.filterMap_map, List.filterMap_map] at this
  have e : ∀ l : List SP, List.filterMap (id ∘ some) l = l := fun l => by
    induction l with
    | nil => rfl
    | cons a r ih => rw [List.filterMap_cons]; exact congrArg (a :: ·) ih
  rw [e, e] at this
  exact this.symm
def fullN : List Str := ["a", "b", "c", "d", "e", "f", "g", "h", "i", "j", "k", "l"]
def fullS : List SP := fullN.map fun n => (n, c1T)
theorem abc_all : ∀ i ∈ List.range 12, atI ("abcdefghijklm" : Str).cps.toList ((0 : Int) + (i : Nat)) = some (("abcdefghijklm" : Str).cps.toList.getD i default) ∧ fullN[i]? = some ⟨#[("abcdefghijklm" : Str).cps.toList.getD i default]⟩ := by decide +kernel
theorem full_ok : ∀ n ∈ fullN, NmOk n := by
  unfold NmOk
  decide +kernel
theorem full_none : reasonF (fullS.map some) = none := by decide +kernel
theorem full_many : reasonF (fullS.map some ++ [some (("a", c1T) : SP)]) = some (("many" : Str), none) := by decide +kernel
theorem tabs_new {T : List (Addr × Str)} {H H' : Hp} {l : Addr} (t : Tabs T H) (n : H l = none) (B : But l H H') : Tabs T H' := fun p hp => by
  obtain ⟨ps, h1, h2, h3⟩ := t p hp
  refine ⟨ps, B _ _ h1 (ne_of_none h1 n), h2, fun pos cv hc => ?_⟩
  obtain ⟨c, e1, e2⟩ := h3 pos cv hc
  exact ⟨c, e1, B _ _ e2 (ne_of_none e2 n)⟩
/-- the values that are no lists -/
def OddV (K : PySem.W.Frag) (H : Hp) (v : V) : Prop := v = .non ∨ v = .int 0 ∨ v = .str "s" ∨ v = .bl true ∨ ∃ a, v = .ref a ∧ ((∃ kvs, H a = some (.dK kvs)) ∨ (∃ dx fs, H a = some (.ins (aS K) dx fs)) ∨ (∃ dx fs, H a = some (.ins (aL K) dx fs)) ∨ ∃ dx fs, H a = some (.ins (aLi K) dx fs))
theorem OddV.extN {H H' : Hp} {v : V} (h : OddV K H v) (e : ExtN H H') : OddV K H' v := by
  rcases h with h | h | h | h | ⟨a, rfl, ⟨_, h⟩ | ⟨_, _, h⟩ | ⟨_, _, h⟩ | ⟨_, _, h⟩⟩
  · exact .inl h
  · exact .inr (.inl h)
  · exact .inr (.inr (.inl h))
  · exact .inr (.inr (.inr (.inl h)))
  · exact .inr (.inr (.inr (.inr ⟨_, rfl, .inl ⟨_, e _ _ h (fun _ z => by cases z)⟩⟩)))
  · exact .inr (.inr (.inr (.inr ⟨_, rfl, .inr (.inl ⟨_, _, e _ _ h (fun _ z => by cases z)⟩)⟩)))
  · exact .inr (.inr (.inr (.inr ⟨_, rfl, .inr (.inr (.inl ⟨_, _, e _ _ h (fun _ z => by cases z)⟩))⟩)))
  · exact .inr (.inr (.inr (.inr ⟨_, rfl, .inr (.inr (.inr ⟨_, _, e _ _ h (fun _ z => by cases z)⟩))⟩)))
theorem OddV.ty {H : Hp} {v : V} (T : Txt P K mg) (h : OddV K H v) : ∃ t, TyX K H v t ∧ PySem.W.kitOne K t (.type "list") = some false ∧ PySem.W.kitOne K t (.type "tuple") = some false := by
  rcases h with rfl | rfl | rfl | rfl | ⟨a, rfl, ⟨_, h⟩ | ⟨_, _, h⟩ | ⟨_, _, h⟩ | ⟨_, _, h⟩⟩
  · exact ⟨_, .base .non, kit_ty (by decide +kernel), kit_ty (by decide +kernel)⟩
  · exact ⟨_, .base (.int _), kit_ty (by decide +kernel), kit_ty (by decide +kernel)⟩
  · exact ⟨_, .base (.str _), kit_ty (by decide +kernel), kit_ty (by decide +kernel)⟩
  · exact ⟨_, .base (.bl _), kit_ty (by decide +kernel), kit_ty (by decide +kernel)⟩
  · exact ⟨_, .base (.dK h), kit_ty (by decide +kernel), kit_ty (by decide +kernel)⟩
  · exact ⟨_, T.stg.oc.pl.ty T.all h, T.lis.kt _ (by simp)⟩
  · exact ⟨_, T.leg.cL.pl.ty T.all h, T.lis.kt _ (by simp)⟩
  · exact ⟨_, T.lis.oc.pl.ty T.all h, T.lis.kt _ (by simp)⟩
theorem StgAt.odd {H : Hp} {C a : Addr} {n : Str} {m : Tab} (h : StgAt K H C a n m) : OddV K H (.ref a) := by
  obtain ⟨dx, l, h1, _⟩ := h.at_
  exact .inr (.inr (.inr (.inr ⟨_, rfl, .inr (.inl ⟨_, _, h1⟩)⟩)))
theorem LegsAt.odd {H : Hp} {a : Addr} {m : Tab} (h : LegsAt H (aL K) a m) : OddV K H (.ref a) := by
  obtain ⟨⟨dx, l, h1, _⟩, _⟩ := h
  exact .inr (.inr (.inr (.inr ⟨_, rfl, .inr (.inr (.inl ⟨_, _, h1⟩))⟩)))
theorem ListAt.odd {H : Hp} {a : Addr} {kv : V} {xs : List V} {ps : List SP} (h : ListAt K H a kv xs ps) : OddV K H (.ref a) := by
  obtain ⟨dx, _, _, _, h1, _⟩ := h.at_
  exact .inr (.inr (.inr (.inr ⟨_, rfl, .inr (.inr (.inr ⟨_, _, h1⟩))⟩)))
theorem mkS_okR {H : Hp} {nv lv : V} {R : Addr → Hp → Prop} {E : XK} (vn : NameV K H nv true) (vl : LegsV K H lv true) (k : ∀ x dx H', Same H H' → H' x = some (.ins (aS K) dx [("name", nv), ("legs", lv)]) → H x = none → R x H') :
    ∀ x dx, H x = none → H dx = none → dx ≠ x → spStgI K [.ref x, nv, lv] (upd (upd H dx (.own x)) x (.ins (aS K) dx [])) (fun v H2 => v = .non ∧ R x H2) E :=
  mkS_ok (Q := fun v H => match v with | .ref y => R y H | _ => False) vn vl (fun z => by cases z) (fun _ z => by cases z) fun _ _ x dx H' s h n => k x dx H' s h n
/-- Listing() -/
theorem mkL_okR {H : Hp} {R : Addr → Hp → Prop} {E : XK} (k : ∀ y H', Same H H' → H y = none → ListAt K H' y .non [] [] → R y H') :
    ∀ x dx, H x = none → H dx = none → dx ≠ x → (fun (vs : List V) (H : Hp) (Q : VK) (E : XK) => ∃ ws rest, vs = ws ++ rest ∧ ws.length = (["self"] : List Str).length ∧ rest.length ≤ sizeLine ∧ ∀ p, H p = Option.none → spLstI K (ws ++ [V.ref p]) (upd H p (.tup rest)) Q E) (V.ref x :: []) (upd (upd H dx (.own x)) x (.ins (aLi K) dx [])) (fun v H2 => v = .non ∧ R x H2) E :=
  mkL_ok (K := K) (Q := fun v H => match v with | .ref y => R y H | _ => False) (os := []) .nil (by decide) (fun r n e => by cases e) fun _ ps e y H' s ny g => by
    cases ps with
    | nil => exact k y H' s ny g
    | cons a r => cases e
theorem sc_law : FnScope ["_law_script", "_law_pen_here", "_law_turn", "_law_found", "_law_more", "_law_due", "_law_told", "_law_odd", "_law_full_so", "_law_k"] ["_law_script"] (defScope (top 54)) := ⟨rfl, rfl, rfl, by decide +kernel, rfl, by decide +kernel, by decide +kernel⟩
def spLaw (K : PySem.W.Frag) : Sp := fun vs H Q _ => ∃ (a : Addr) (ns : List Int), vs = [.ref a] ∧ SqL K H a (ns.map V.int) ∧ ns.length ≤ 63 ∧ LamX.Tabs (tabsT K) H ∧ ∀ H', Q (.bl true) H'
theorem ok_law (T : Txt P K mg) (TB : ∀ p ∈ tf, LamX.TabB base mg (He.cT K p).1 (He.cT K p).2) {fd : FuncData} (F : FunD K "law" "law" (defArgs (top 54)) (defBody (top 54)) (defScope (top 54)) [] [] (He.ga K "law") fd) : FnG P w K mg base CX0 18 (He.ga K "law") fd ["_law_script"] (spLaw K) := by
  have lo := T.lis.oc
  have G__law_pen := ok__law_pen (P := P) (w := w) (base := base) T
  have G__law_draw := ok__law_draw (P := P) (w := w) (base := base) T
  have G__law_some := ok__law_some (P := P) (w := w) (base := base) T
  have G__law_bent := ok__law_bent (P := P) (w := w) (base := base) T
  have G__law_strategy := ok__law_strategy (P := P) (w := w) (base := base) T
  have G__law_reason := ok__law_reason (P := P) (w := w) (base := base) T
  have G_Strategy := ok_Strategy_init (P := P) (w := w) (base := base) T
  have G_Smonth := (ok_Strategy_month (P := P) (w := w) (base := base) T).fnR
  have G_LC := okC1 (P := P) (w := w) (base := base) T
  have G_Li := ok_Listing_init (P := P) (w := w) (base := base) T
  have G_Lof := (ok_Listing_of (P := P) (w := w) (base := base) T).fnR
  have G_with := ok_Listing_with (P := P) (w := w) (base := base) T
  have G_withK := okK_Listing_with (P := P) (w := w) (base := base) T
  have G_eq := (ok_Listing_eq (P := P) (w := w) (base := base) T).fnR
  obtain ⟨fr, Fr, br, kr⟩ := ok__law_right (P := P) (w := w) (base := base) T TB
  obtain ⟨fdH, FH⟩ := T.F__law_heard
  have bH := FH.bindsN (ps := ["_law_ask"]) fun _ _ _ _ _ _ us hl => match us, hl with | [_], _ => rfl
  refine okGC (p := ("law", none)) F sc_law (fun vs H Q E h => ?_) (fun A outer s H vs Q E hr hgd h => ?_)
  · obtain ⟨a, ns, rfl, _⟩ := h
    rfl
  · obtain ⟨a, ns, rfl, hS, hl, tb, k⟩ := h
    have hu64 := hr.units
    refine ⟨_, PSs.nox (pss_cons (ps_asg (pe_f G__law_pen (hr.mono (by decide)) (by rfl) T.g__law_pen pass0 (pa_cons (pv 0) pa_nil)) (pg_name (i := 1) sc_law.nd rfl (.inl rfl)))
    (pss_cons (ps_for PassesOwn.never rfl (pi_range1 (by rfl) T.z_range (pa_cons pe_int pa_nil)) (pg_name (i := 2) sc_law.nd rfl (.inl rfl))
      (pss_cons (ps_asg (pe_f G__law_some (hr.mono (by decide)) (by rfl) T.g__law_some pass0 (pa_cons (pv 1) pa_nil)) (pg_name (i := 3) sc_law.nd rfl (.inr rfl)))
    (pss_cons (ps_if (PW.pt (pw_or (pt_not (pt_val (pe_fG Fr br kr (hr.mono (by decide)) hgd (by rfl) T.g__law_right pass0 (pa_cons (pv 3) pa_nil)))) (pw_or1 (pt_not (pt_val (pe_fG Fr br kr (hr.mono (by decide)) hgd (by rfl) T.g__law_right pass0 (pa_cons (pe_f G__law_bent (hr.mono (by decide)) (by rfl) T.g__law_bent pass0 (pa_cons (pv 1) (pa_cons (pv 3) pa_nil))) pa_nil)))))))
      (pss_one (ps_ret pe_bl))
      pss_nil)
    (pss_one (ps_if (pt_cmpR op_isN (pe_f G__law_reason (hr.mono (by decide)) (by rfl) T.g__law_reason pass0 (pa_cons (pv 3) pa_nil)) pe_non (nomark _))
      (pss_cons (ps_asg (pe_ix (ix_listK K) (pe_f G__law_bent (hr.mono (by decide)) (by rfl) T.g__law_bent pass0 (pa_cons (pv 1) (pa_cons (pe_lst (pa_cons (pe_f G__law_strategy (hr.mono (by decide)) (by rfl) T.g__law_strategy pass0 (pa_cons (pv 1) (pa_cons pe_int pa_nil))) pa_nil)) pa_nil))) (pe_f G__law_draw (hr.mono (by decide)) (by rfl) T.g__law_draw pass0 (pa_cons (pv 1) (pa_cons pe_int pa_nil))) (fun _ _ => rfl)) (pg_name (i := 4) sc_law.nd rfl (.inr rfl)))
    (pss_cons (ps_asg (pe_f G__law_reason (hr.mono (by decide)) (by rfl) T.g__law_reason pass0 (pa_cons (pe_op op_cat (pv 3) (pe_lst (pa_cons (pv 4) pa_nil))) pa_nil)) (pg_name (i := 5) sc_law.nd rfl (.inl rfl)))
    (pss_cons (ps_asg (pe_lamF (T := tabsT K) (TT := TTs K) FH bH (by rfl) T.g__law_heard sc__law_heard rfl (.inl rfl) (fun cdv => heard_gives T rfl rfl rfl cdv) (TB ("law", none) (by decide)) rfl (tabs_mem (p := ("law", none)) (by decide)) (tabs_one T (p := ("law", none)) (by decide)) (k := 12) (hr.mono (by decide)) (lamS_by (sc := defScope (top 54)) (by decide +kernel)) (fun A outer s H E f c' hr' => (pe_methF (pe_cmF (pe_glob (v := .ref (He.ga K "Listing")) (by rfl) T.g_Listing rfl) (T.lis.oc.cm "of" (by decide)) G_Lof (hr'.mono (by decide)) (passes_call (takes_of rfl rfl rfl rfl) (fun _ _ _ _ h => h)) (pa_cons (pv 3) pa_nil)) lo.pl.cls (lo.sm "with_strategy" (by decide)).meth G_with (hr'.mono (by decide)) (passes_call (takes_of rfl rfl rfl rfl) (fun _ _ _ _ h => h)) (pa_cons (pv 4) pa_nil)))) (pg_name (i := 6) sc_law.nd rfl (.inl rfl)))
    (pss_cons (ps_if (PW.pt (pw_and (pt_cmpR op_notN (pv 5) pe_non (nomark _)) (pw_and1 (pt_cmpR op_ne (pe_callB (call_repr T.all.sys hgd hu64) (by rfl) T.z_repr (by decide +kernel) (pa_cons (pv 6) pa_nil)) (pe_callB (call_repr T.all.sys hgd hu64) (by rfl) T.z_repr (by decide +kernel) (pa_cons (pv 5) pa_nil)) (nomark _)))))
      (pss_one (ps_ret pe_bl))
      pss_nil)
    (pss_one (ps_if (PW.pt (pw_and (pt_cmpR op_isN (pv 5) pe_non (nomark _)) (pw_and1 (pt_cmpR (op_neO (lo.sm "__eq__" (by decide)).sm T.lis.ne lo.pl.cm G_eq (hr.mono (by decide)) pass0) (pv 6) (pe_cmF (pe_glob (v := .ref (He.ga K "Listing")) (by rfl) T.g_Listing rfl) (T.lis.oc.cm "of" (by decide)) G_Lof (hr.mono (by decide)) passN (pa_cons (pe_op op_cat (pv 3) (pe_lst (pa_cons (pv 4) pa_nil))) pa_nil)) (nomark _)))))
      (pss_one (ps_ret pe_bl))
      pss_nil))))))
      pss_nil)))))
    (pss_cons (ps_for PassesOwn.never rfl (pi_tup (pe_tup (pa_cons pe_non (pa_cons pe_int (pa_cons pe_str (pa_cons pe_dnewK (pa_cons pe_bl (pa_cons (pe_cmF (pe_glob (v := .ref (He.ga K "Strategy")) (by rfl) T.g_Strategy rfl) (T.stg.oc.cm "month" (by decide)) G_Smonth (hr.mono (by decide)) passN (pa_cons pe_str pa_nil)) (pa_cons (pe_makeKR T.leg.mL G_LC (hr.mono (by decide)) (by rfl) T.g_Legs pass0 (pk_cons pe_int pk_nil)) (pa_cons (pe_makeR0 T.lis.oc.mks G_Li (hr.mono (by decide)) (by rfl) T.g_Listing passN) (pa_cons (pe_disp (pps_cons pe_str pe_int pps_nil) rfl rfl (fun z => by cases z) (by decide)) pa_nil))))))))))) (pg_name (i := 7) sc_law.nd rfl (.inr rfl))
      (pss_one (ps_if (pt_cmpR (op_neD hu64) (pe_lamF (T := tabsT K) (TT := TTs K) FH bH (by rfl) T.g__law_heard sc__law_heard rfl (.inl rfl) (fun cdv => heard_gives T rfl rfl rfl cdv) (TB ("law", none) (by decide)) rfl (tabs_mem (p := ("law", none)) (by decide)) (tabs_one T (p := ("law", none)) (by decide)) (k := 12) (hr.mono (by decide)) (lamS_by (sc := defScope (top 54)) (by decide +kernel)) (fun A outer s H E f c' hr' => (pe_cmF (pe_glob (v := .ref (He.ga K "Listing")) (by rfl) T.g_Listing rfl) (T.lis.oc.cm "of" (by decide)) G_Lof (hr'.mono (by decide)) (passes_call (takes_of rfl rfl rfl rfl) (fun _ _ _ _ h => h)) (pa_cons (pv 7) pa_nil)))) (pe_tup (pa_cons pe_str (pa_cons pe_non pa_nil))) (nomark _))
      (pss_one (ps_ret pe_bl))
      pss_nil)))
    (pss_cons (ps_asg (pe_lc (own := [("_law_k", 9)]) (g := gName 9) (tt := tYes) rfl sc_law.nd (pi_range1 (by rfl) T.z_range (pa_cons pe_int pa_nil)) (blkOk_by (N := ["_law_script", "_law_pen_here", "_law_turn", "_law_found", "_law_more", "_law_due", "_law_told", "_law_odd", "_law_full_so", "_law_k"]) (sc := defScope (top 54)) (by decide +kernel)) (fun _ _ _ _ _ => pg_name (i := 9) sc_law.nd rfl (Or.inl rfl)) (fun _ _ _ _ _ => pts_nil) (fun _ _ _ _ _ => (pe_mkI T.stg.oc.mks G_Strategy (hr.mono (by decide)) (by rfl) T.g_Strategy passN (pa_cons (pe_ix ix_str pe_str (pv 9) (fun _ _ => rfl)) (pa_cons (pe_makeKR T.leg.mL G_LC (hr.mono (by decide)) (by rfl) T.g_Legs pass0 (pk_cons pe_int pk_nil)) pa_nil))))) (pg_name (i := 8) sc_law.nd rfl (.inr rfl)))
    (pss_cons (ps_asg (pe_lamF (T := tabsT K) (TT := TTs K) FH bH (by rfl) T.g__law_heard sc__law_heard rfl (.inl rfl) (fun cdv => heard_gives T rfl rfl rfl cdv) (TB ("law", none) (by decide)) rfl (tabs_mem (p := ("law", none)) (by decide)) (tabs_one T (p := ("law", none)) (by decide)) (k := 12) (hr.mono (by decide)) (lamS_by (sc := defScope (top 54)) (by decide +kernel)) (fun A outer s H E f c' hr' => (pe_methK (pe_cmF (pe_glob (v := .ref (He.ga K "Listing")) (by rfl) T.g_Listing rfl) (T.lis.oc.cm "of" (by decide)) G_Lof (hr'.mono (by decide)) (passes_call (takes_of rfl rfl rfl rfl) (fun _ _ _ _ h => h)) (pa_cons (pv 8) pa_nil)) lo.pl.cls (lo.sm "with_strategy" (by decide)).meth G_withK (hr'.mono (by decide)) (passes_call (takes_of rfl rfl rfl rfl) (fun _ _ _ _ h => h)) (pk_cons (pe_ix (ix_listK K) (pv 8) pe_int (fun _ _ => rfl)) pk_nil)))) (pg_name (i := 6) sc_law.nd rfl (.inl rfl)))
    (pss_one (ps_ret (pe_and (pe_cmpR (op_eqD hu64) (pv 6) (pe_tup (pa_cons pe_str (pa_cons pe_non pa_nil))) (nomark _)) (pe_and (pe_cmpR (op_eqD hu64) (pe_lst (pa_cons (ClX.pe_cval (pe_glob (v := .ref (He.ga K "Listing")) (by rfl) T.g_Listing rfl)) (pa_cons (ClX.pe_cval (pe_glob (v := .ref (He.ga K "Listing")) (by rfl) T.g_Listing rfl)) pa_nil))) (pe_lst (pa_cons pe_int (pa_cons pe_int pa_nil))) (nomark _)) (pe_one (pe_fG Fr br kr (hr.mono (by decide)) hgd (by rfl) T.g__law_right pass0 (pa_cons (pv 8) pa_nil)))))))))))), ?_⟩
    refine ⟨_, rfl, a, ns, rfl, hS, hl, fun p q ns' H0 np s0 S0 => ?_⟩
    refine ⟨5, rfl, by decide, by decide, ?_⟩
    refine for_range (fun i σ' H' => ∃ (v2 v3 v4 v5 v6 : Option V) (a' r' : Int), σ' = [some (.ref a), some (.ref p), v2, v3, v4, v5, v6, none, none, none] ∧ PenAt H' p q ns' a' r' ∧ a' ≤ 400 * i ∧ Tabs (tabsT K) H') ⟨none, none, none, none, none, 0, 0, rfl, S0, by omega, tb.ext s0⟩ ?_ ?_
    · rintro i σ' H' hi ⟨v2, v3, v4, v5, v6, a', r', rfl, S', b', tb'⟩
      have hi5 : i < 5 := hi
      refine ⟨_, rfl, p, q, ns', a', r', rfl, S', by omega, fun l xs ps a1 r1 H1 il l20 nl c1 c2 B1 S1 => ?_⟩
      have nlp : l ≠ p := fun z => by rw [z, S'.pen] at nl; cases nl
      have tb1 := tabs_but tb' S'.pen B1
      refine ⟨_, rfl, l, xs, ps.map some, rfl, il, by rw [List.length_map]; omega, tb1, fun H2 e2 tb2 => ?_⟩
      have il2 := il.extN e2
      have S2 := PenAt.extN S1 e2
      refine ⟨_, rfl, iteFa rfl ?_⟩
      refine ⟨_, rfl, _, rfl, p, q, l, ns', a1, r1, xs, ps.map some, rfl, S2, by omega, il2, by rw [List.length_map]; omega, nlp, fun y ys us a3 r3 H3 iy ly ny c3 c4 B3 S3 => ?_⟩
      rw [List.length_map] at ly
      have tb3 := tabs_but tb2 S2.pen B3
      have il3 := il2.pen S2 nlp B3
      refine ⟨y, ys, us, rfl, iy, by omega, tb3, fun H4 e4 tb4 => ?_⟩
      have il4 := il3.extN e4
      have S4 := PenAt.extN S3 e4
      refine ⟨_, rfl, iteFa rfl ?_⟩
      refine ⟨_, rfl, l, xs, ps.map some, rfl, il4, by rw [List.length_map]; omega, fun due H5 s5 rv => ?_⟩
      have il5 := il4.same s5
      have S5 := S4.same s5
      have tb5 := tb4.ext s5
      refine ⟨rfl, _, rfl, ?_⟩
      cases hre : reasonF (ps.map some) with
      | some pr =>
        rw [hre] at rv
        obtain ⟨t, rfl, _⟩ := rv
        exact iteFa rfl ⟨_, _, _, _, _, a3, r3, rfl, S5, by push_cast; omega, tb5⟩
      | none =>
        rw [hre] at rv
        have rv : due = .non := rv
        subst rv
        refine iteTr rfl ?_
        refine ⟨_, rfl, _, rfl, p, q, ns', a3, r3, 9, rfl, S5, by omega, .inr (.inr rfl), fun v st a6 r6 H6 iv nv c5 c6 B6 S6 => ⟨show 1 ≤ sizeLine by decide, fun l9 n9 => ?_⟩⟩
        have il6 := il5.pen S5 nlp B6
        have tb6 := tabs_but tb5 S5.pen B6
        have n9p : l9 ≠ p := fun z => by rw [z, S6.pen] at n9; cases n9
        have s7 := same_new (o := .lst [v]) n9
        have h7 : upd H6 l9 (.lst [v]) l9 = some (.lst [v]) := upd_same
        generalize upd H6 l9 (.lst [v]) = H7 at s7 h7
        have il7 := il6.same s7
        have S7 := S6.same s7
        have tb7 := tb6.ext s7
        refine ⟨p, q, l9, ns', a6, r6, [v], [some st], rfl, S7, by omega, ⟨h7,   .cons (iv.same s7) .nil⟩, show 1 ≤ 30 by decide, n9p, fun y2 ys2 us2 a8 r8 H8 iy2 ly2 ny2 c7 c8 B8 S8 => ?_⟩
        have il8 := il7.pen S7 nlp B8
        have tb8 := tabs_but tb7 S7.pen B8
        have ny2p : y2 ≠ p := fun z => by rw [z, S7.pen] at ny2; cases ny2
        refine ⟨_, rfl, p, q, ns', a8, r8, 2, rfl, S8, by decide, by decide, by omega, fun d a9 r9 H9 d0 d1 c9 c10 B9 S9 => ?_⟩
        have d1 : d < 2 := d1
        have il9 := il8.pen S8 nlp B9
        have iy9 := iy2.pen S8 ny2p B9
        have tb9 := tabs_but tb8 S8.pen B9
        obtain ⟨n, rfl⟩ := Int.eq_ofNat_of_zero_le d0
        have ly3 : ys2.length = 2 := (Paired.length iy2.it).trans ly2
        have hn : ys2[n]? = some (ys2.getD n .non) := by
          rw [List.getD_eq_getElem?_getD, List.getElem?_eq_getElem (show n < ys2.length by omega)]
          rfl
        obtain ⟨o, _, im⟩ := paired_getI iy9.it n _ hn
        generalize ys2.getD n .non = mv at hn im
        refine ⟨y2, ys2, _, mv, rfl, rfl, SqL.of iy9.at_, atI_nat hn, ?_⟩
        -- the reason of the longer list
        refine ⟨_, rfl, _, rfl, show 1 ≤ sizeLine by decide, fun l10 n10 => ?_⟩
        have s10 := same_new (o := .lst [mv]) n10
        have h10 : upd H9 l10 (.lst [mv]) l10 = some (.lst [mv]) := upd_same
        generalize upd H9 l10 (.lst [mv]) = H10 at s10 h10
        have lx : xs.length = ps.length := (Paired.length il.it).trans (List.length_map _)
        refine ⟨l, l10, _, _, rfl, rfl, s10 _ _ il9.at_, h10, by rw [lx, sizeLine_eq]; show _ + 1 ≤ _; omega, fun l11 n11 => ?_⟩
        have s11 := same_new (o := .lst (xs ++ [mv])) n11
        have h11 : upd H10 l11 (.lst (xs ++ [mv])) l11 = some (.lst (xs ++ [mv])) := upd_same
        generalize upd H10 l11 (.lst (xs ++ [mv])) = H11 at s11 h11
        have s911 := s10.trans s11
        have pp := paired_appI (Paired.mapP il9.it fun _ _ z => z.same s911) (.cons (im.same s911) .nil : Paired (ItV K H11) [mv] [o])
        have lo31 : (ps.map some ++ [o]).length ≤ 40 := by rw [List.length_append, List.length_map]; show ps.length + 1 ≤ 40; omega
        refine ⟨l11, xs ++ [mv], ps.map some ++ [o], rfl, ⟨h11, pp⟩, lo31, fun due H12 s12 rv12 => ?_⟩
        have s912 := s911.trans s12
        have il12 := il9.same s912
        have im12 := im.same s912
        have S12 := S9.same s912
        have tb12 := tb9.ext s912
        -- the call
        refine ⟨tb12, fun H13 e13 tb13 => ?_⟩
        have il13 := il12.extN e13
        have im13 := im12.extN e13
        have rv13 := rv12.extN e13
        have S13 := PenAt.extN S12 e13
        refine tts_use (fun z H5 => Same H13 H5 ∧ TV K (xs ++ [mv]) (reasonF (ps.map some ++ [o])) H5 z) (fun Q' cont => ?_) fun told H14 ht14 => ?_
        · refine ⟨rfl, _, rfl, _, rfl, .inl ⟨xs, ps.map some, ⟨l, rfl, .inl il13.at_⟩, it_stg T il13.it, by rw [List.length_map]; omega, fun r n e => (by rw [hre] at e; cases e), fun _ qs eq y1 Hy s1 ny1 la => ?_⟩⟩
          obtain rfl := some_inj eq
          obtain ⟨dx, _, _, _, h1, _⟩ := id la.at_
          have cont2 : ∀ v H', HeardV K (xs ++ [mv]) (reasonF (qs.map some ++ [o])) Hy v H' → Q' v H' := fun v H' h => cont v H' ⟨s1.trans h.1, h.tv⟩
          refine ⟨y1, dx, _, rfl, h1, rfl, _, rfl, y1, .non, mv, xs, qs, o, rfl, la, (im13.same s1).stg T, toldL cont2, madeL cont2⟩
        obtain ⟨s14, tv14⟩ := ht14
        have rv14 := rv13.same s14
        have S14 := S13.same s14
        have tb14 := tb13.ext s14
        have bA : a9 ≤ 400 * ((i + 1 : Nat) : Int) := by push_cast; omega
        cases eo : reasonF (ps.map some ++ [o]) with
        | some pr =>
          obtain ⟨r, n⟩ := pr
          rw [eo] at tv14 rv14
          obtain ⟨t, rfl, ht⟩ := tv14
          obtain ⟨t2, rfl, ht2⟩ := rv14
          obtain ⟨ra, rb⟩ := reason_ok pp eo
          have dq1 := dq_tup (K := K) ht
          have dq2 := dq_tup (K := K) ht2
          have lt := tup_len ra rb
          have sh : (PyData.tuple [.str r, nmD n]).showable = true := by cases n <;> rfl
          have dp : (PyData.tuple [.str r, nmD n]).depth ≤ 20 := by cases n <;> simp [PyData.depth, PyData.depthAll, nmD]
          refine ⟨_, rfl, rfl, _, rfl, _, rfl, t, _, rfl, dq1, sh, dp, lt, _, rfl, t2, _, rfl, dq2, sh, dp, lt, ?_⟩
          refine ⟨rfl, _, rfl, ?_⟩
          refine iteFa ?_ ?_
          · show (!decide (V.str (PyData.tuple [.str r, nmD n]).shown = V.str (PyData.tuple [.str r, nmD n]).shown)) = false
            rw [decide_eq_true rfl]
            rfl
          exact ⟨_, rfl, rfl, _, rfl, iteFa rfl ⟨_, _, _, _, _, a9, r9, rfl, S14, bA, tb14⟩⟩
        | none =>
          rw [eo] at tv14 rv14
          have rv14 : due = .non := rv14
          subst rv14
          obtain ⟨y1, ps2, rfl, la⟩ := tv14
          have il14 := (il13.same s14)
          have im14 := im13.same s14
          refine ⟨_, rfl, rfl, _, rfl, iteFa rfl ?_⟩
          refine ⟨_, rfl, rfl, _, rfl, _, rfl, ?_⟩
          refine ⟨rfl, _, rfl, _, rfl, show 1 ≤ sizeLine by decide, fun l15 n15 => ?_⟩
          have s15 := same_new (o := .lst [mv]) n15
          have h15 : upd H14 l15 (.lst [mv]) l15 = some (.lst [mv]) := upd_same
          generalize upd H14 l15 (.lst [mv]) = H15 at s15 h15
          refine ⟨l, l15, _, _, rfl, rfl, s15 _ _ il14.at_, h15, by rw [lx, sizeLine_eq]; show _ + 1 ≤ _; omega, fun l16 n16 => ?_⟩
          have s16 := same_new (o := .lst (xs ++ [mv])) n16
          have h16 : upd H15 l16 (.lst (xs ++ [mv])) l16 = some (.lst (xs ++ [mv])) := upd_same
          generalize upd H15 l16 (.lst (xs ++ [mv])) = H16 at s16 h16
          have s1416 := s15.trans s16
          have pp16 := paired_appI (Paired.mapP il14.it fun _ _ z => z.same s1416) (.cons (im14.same s1416) .nil : Paired (ItV K H16) [mv] [o])
          refine ⟨_, rfl, .inl ⟨xs ++ [mv], ps.map some ++ [o], ⟨l16, rfl, .inl h16⟩, it_stg T pp16, by omega, fun r n e => (by rw [eo] at e; cases e), fun _ qs eq y3 H17 s17 ny3 la3 => ?_⟩⟩
          obtain ⟨dx, _, _, _, h1, _⟩ := id la.at_
          obtain ⟨dx3, _, _, _, g1, _⟩ := id la3.at_
          have s1417 := s1416.trans s17
          have eqs := eqIs_self (xs := xs ++ [mv]) fun x hx => by
            obtain ⟨i, hi, e⟩ := List.mem_iff_getElem.mp hx
            obtain ⟨o, _, g⟩ := paired_getI pp16 i x (by rw [List.getElem?_eq_getElem hi, e])
            exact g.ok
          refine ⟨y1, dx, _, _, rfl, s1417 _ _ h1, lo.pl.ty T.all g1, nfS, y1, .ref y3, .non, xs ++ [mv], ps2, rfl, la.same s1417, .inl ⟨y3, .non, xs ++ [mv], qs, rfl, la3, rfl, eqs.1, ?_⟩⟩
          refine ⟨_, rfl, ?_⟩
          rw [eqs.2]
          refine ⟨_, rfl, iteFa rfl ?_⟩
          exact ⟨_, _, _, _, _, a9, r9, rfl, S14.same s1417, bA, tb14.ext s1417⟩
    · rintro σ' H2 ⟨v2, v3, v4, v5, v6, a2, r2, rfl, S2, b2, tb2⟩
      refine fun d1 nd1 => ?_
      have s3 := same_new (o := .dK []) nd1
      have h3 : upd H2 d1 (.dK []) d1 = some (.dK []) := upd_same
      generalize upd H2 d1 (.dK []) = H3 at s3 h3
      refine ⟨rfl, .str "c", true, rfl, .inl ⟨"c", rfl, by decide, by decide +kernel⟩, (fun z => by cases z), fun _ x e y4 H4 s4 g4 => ?_⟩
      cases e
      refine ⟨rfl, legsC1 T fun y5 H5 s5 ny5 g5 => ?_⟩
      refine mkL_okR fun y6 H6 s6 ny6 g6 => ?_
      refine fun d2 nd2 => ⟨upd_same, [(.inr "c", .int 1)], rfl, by decide, ?_⟩
      have s7 : Same H6 (upd (upd H6 d2 (.dK [])) d2 (.dK (mergeK [] [(Sum.inr "c", .int 1)]))) := fun b o hb => by
        rw [upd_ne (ne_of_none hb nd2), upd_ne (ne_of_none hb nd2)]
        exact hb
      have h7 : upd (upd H6 d2 (.dK [])) d2 (.dK (mergeK [] [(Sum.inr "c", .int 1)])) d2 = some (.dK (mergeK [] [(Sum.inr "c", .int 1)])) := upd_same
      generalize upd (upd H6 d2 (.dK [])) d2 (.dK (mergeK [] [(Sum.inr "c", .int 1)])) = H7 at s7 h7
      refine ⟨show 9 ≤ sizeLine by decide, fun tp ntp => ?_⟩
      generalize hXS : [V.non, V.int 0, V.str "s", V.ref d1, V.bl true, V.ref y4, V.ref y5, V.ref y6, V.ref d2] = XS
      have s8 := same_new (o := .tup XS) ntp
      have h8 : upd H7 tp (.tup XS) tp = some (.tup XS) := upd_same
      generalize upd H7 tp (.tup XS) = H8 at s8 h8
      have odd : ∀ v ∈ XS, OddV K H8 v := fun v hm => by
        rw [← hXS] at hm
        simp only [List.mem_cons, List.not_mem_nil, or_false] at hm
        have s68 := s7.trans s8
        have s58 := s6.trans s68
        have s48 := s5.trans s58
        rcases hm with rfl | rfl | rfl | rfl | rfl | rfl | rfl | rfl | rfl
        · exact .inl rfl
        · exact .inr (.inl rfl)
        · exact .inr (.inr (.inl rfl))
        · exact .inr (.inr (.inr (.inr ⟨_, rfl, .inl ⟨_, s48 _ _ (s4 _ _ h3)⟩⟩)))
        · exact .inr (.inr (.inr (.inl rfl)))
        · exact g4.odd.extN (Same.toN s48)
        · exact g5.odd.extN (Same.toN s58)
        · exact g6.odd.extN (Same.toN s68)
        · exact .inr (.inr (.inr (.inr ⟨_, rfl, .inl ⟨_, s8 _ _ h7⟩⟩)))
      have s28 := ((((s3.trans s4).trans s5).trans s6).trans s7).trans s8
      have S8 := S2.same s28
      have tb8 := tb2.ext s28
      refine ⟨tp, rfl, ⟨_, SqT.of h8⟩, ?_⟩
      refine forP (yl_tup (xs := XS)) (fun i σ H' => ∃ v7, σ = [some (.ref a), some (.ref p), v2, v3, v4, v5, v6, v7, none, none] ∧ ExtN H8 H' ∧ Tabs (tabsT K) H') ⟨_, rfl, fun _ _ h _ => h, tb8⟩ (fun i σ H' _ h => by obtain ⟨_, _, s, _⟩ := h; exact SqT.of (s _ _ h8 (fun _ z => by cases z))) ?_ ?_
      · rintro i v σ H9 hv ⟨v7, rfl, e9, tb9⟩
        have ov := (odd v (List.mem_of_getElem? hv)).extN e9
        refine ⟨tb9, fun HA eA tbA => ?_⟩
        have ovA := ov.extN eA
        refine tts_use (fun z H5 => Same HA H5 ∧ ∃ t, z = .ref t ∧ H5 t = some (.tup [.str "strategies", .non])) (fun Q' cont => ?_) fun told HB hB => ?_
        · obtain ⟨t, ty, k1, k2⟩ := ovA.ty T
          exact ⟨rfl, _, rfl, _, rfl, .inr ⟨⟨t, ty, k1, k2⟩, fun d H' s nd hd => ⟨rfl, d, _, _, rfl, hd, fun p H2 s2 h2 => cont _ _ ⟨s.trans s2, p, rfl, h2⟩⟩⟩⟩
        obtain ⟨sB, t, rfl, ht⟩ := hB
        refine ⟨show 2 ≤ sizeLine by decide, fun t2 n2 => ?_⟩
        have sC := same_new (o := .tup [.str "strategies", .non]) n2
        have hC : upd HB t2 (.tup [.str "strategies", .non]) t2 = some (.tup [.str "strategies", .non]) := upd_same
        generalize upd HB t2 (.tup [.str "strategies", .non]) = HC at sC hC
        refine ⟨.tuple [.str "strategies", .none], .tuple [.str "strategies", .none], .tup (SqT.of (sC _ _ ht)) (.cons (.str _) (.cons .non .nil)), .tup (SqT.of hC) (.cons (.str _) (.cons .non .nil)), by decide +kernel, by decide +kernel, _, rfl, iteFa (by decide +kernel) ⟨_, rfl, fun b o h n => sC _ _ (sB _ _ (eA _ _ (e9 _ _ h n) n)), (tbA.ext sB).ext sC⟩⟩
      · rintro σ H9 ⟨v7, rfl, e9, tb9⟩
        refine ⟨12, rfl, by decide, by decide, fun D hD => ?_⟩
        refine lc_range (fun i H' => But D H9 H' ∧ ∃ ys, H' D = some (.lst ys) ∧ Paired (ItV K H') ys ((fullS.take i).map some)) ⟨But.upd But.refl, [], upd_same, .nil⟩ (fun i H' hi hp => ?_) fun HA hp => ?_
        · obtain ⟨bD, ys, hys, hit⟩ := hp
          refine ⟨rfl, ?_⟩
          unfold tYes
          dsimp only
          rw [if_pos rfl]
          obtain ⟨e1, e2⟩ := abc_all i (List.mem_range.mpr hi)
          generalize ("abcdefghijklm" : Str).cps.toList.getD i default = c at e1 e2
          refine ⟨_, rfl, _, _, c, rfl, rfl, by decide +kernel, e1, rfl, legsC1 T fun y HB sB nyB lyB => ?_⟩
          have ok := full_ok _ (List.mem_of_getElem? e2)
          refine mkS_okR (.inl ⟨_, rfl, name_len ok.1, ok.1⟩) (.inl ⟨y, aL K, c1T, rfl, lyB, T.leg.cL, by decide +kernel⟩) fun x dx HC sC hx nx => ?_
          have yD : y ≠ D := fun z => by rw [z, hys] at nyB; cases nyB
          have lys : ys.length = i := by rw [Paired.length hit, List.length_map, List.length_take]; exact Nat.min_eq_left (Nat.le_of_lt hi)
          have hysC := sC _ _ (sB _ _ hys)
          refine ⟨ys, hysC, by rw [lys, sizeLine_eq]; omega, ?_⟩
          have bl : But D HC (upd HC D (.lst (ys ++ [.ref x]))) := But.upd But.refl
          have b9 : But D H9 (upd HC D (.lst (ys ++ [.ref x]))) := fun b o h n => bl _ _ (sC _ _ (sB _ _ (bD _ _ h n))) n
          refine ⟨b9, ys ++ [.ref x], upd_same, ?_⟩
          have it1 : ItV K HC (.ref x) (some (⟨#[c]⟩, c1T)) := ⟨⟨x, rfl, ⟨aL K, T.leg.cL, ⟨dx, y, hx, lyB.same sC⟩⟩⟩, show stgOk c1T = true by decide +kernel, ok⟩
          have xD : (V.ref x) ≠ V.ref D := fun z => by cases z; rw [sB _ _ hys] at nx; cases nx
          have et : (fullS.take (i + 1)).map some = (fullS.take i).map some ++ [some (⟨#[c]⟩, c1T)] := by
            have : fullS[i]? = some (⟨#[c]⟩, c1T) := by unfold fullS; rw [List.getElem?_map, e2]; rfl
            rw [List.take_add_one, this, List.map_append]
            rfl
          rw [et]
          exact paired_appI (pair_mem hit fun v o hm g => (g.same (sB.trans sC)).but hysC ((g.same (sB.trans sC)).ne_mem hysC hm) bl) (.cons (it1.but hysC xD bl) .nil)
        · obtain ⟨bD, ys, hys, hit⟩ := hp
          have hit : Paired (ItV K HA) ys (fullS.map some) := hit
          have tbA := tabs_new tb9 hD bD
          refine ⟨tbA, fun HB eB tbB => ?_⟩
          have hysB := eB _ _ hys (fun _ z => by cases z)
          have hitB := Paired.mapP hit fun _ _ z => z.extN eB
          have lys : ys.length = 12 := (Paired.length hit).trans rfl
          have h0 : ys[0]? = some (ys.getD 0 .non) := by
            rw [List.getD_eq_getElem?_getD, List.getElem?_eq_getElem (show 0 < ys.length by omega)]
            rfl
          obtain ⟨o0, ho0, im0⟩ := paired_getI hitB 0 _ h0
          have eo0 : o0 = some (("a", c1T) : SP) := by
            have : (fullS.map some)[0]? = some (some (("a", c1T) : SP)) := rfl
            rw [this] at ho0
            exact (Option.some.inj ho0).symm
          subst eo0
          generalize ys.getD 0 .non = v0 at h0 im0
          refine tts_use (fun z H5 => Same HB H5 ∧ ∃ t, z = .ref t ∧ H5 t = some (.tup [.str "many", .non])) (fun Q' cont => ?_) fun told HC hC => ?_
          · refine ⟨rfl, _, rfl, _, rfl, .inl ⟨ys, fullS.map some, ⟨D, rfl, .inl hysB⟩, it_stg T hitB, by decide, fun r n e => (by rw [full_none] at e; cases e), fun _ qs eq y1 Hy s1 ny1 la => ?_⟩⟩
            obtain rfl := some_inj eq
            obtain ⟨dx, _, _, _, h1, _⟩ := id la.at_
            have cont2 : ∀ v H', HeardV K (ys ++ [v0]) (reasonF (fullS.map some ++ [some (("a", c1T) : SP)])) Hy v H' → Q' v H' := by
              rw [full_many]
              rintro v H' ⟨s, t, e, h⟩
              exact cont v H' ⟨s1.trans s, t, e, h⟩
            refine ⟨y1, dx, _, rfl, h1, rfl, _, rfl, D, ys, 0, v0, rfl, rfl, SqL.of (s1 _ _ hysB), atI_nat (j := 0) h0, rfl, y1, .non, v0, ys, fullS, _, rfl, la, (im0.same s1).stg T, toldL cont2, madeL cont2⟩
          obtain ⟨sC, t, rfl, ht⟩ := hC
          refine ⟨_, rfl, show 2 ≤ sizeLine by decide, fun t2 n2 => ?_⟩
          have sE := same_new (o := .tup [.str "many", .non]) n2
          have hE : upd HC t2 (.tup [.str "many", .non]) t2 = some (.tup [.str "many", .non]) := upd_same
          generalize upd HC t2 (.tup [.str "many", .non]) = HE at sE hE
          refine ⟨.tuple [.str "many", .none], .tuple [.str "many", .none], .tup (SqT.of (sE _ _ ht)) (.cons (.str _) (.cons .non .nil)), .tup (SqT.of hE) (.cons (.str _) (.cons .non .nil)), by decide +kernel, by decide +kernel, ?_⟩
          refine ⟨_, rfl, iteTr (by decide +kernel) ?_⟩
          obtain ⟨u1, c1⟩ := T.lis.c1
          obtain ⟨u2, c2⟩ := T.lis.c2
          refine ⟨_, _, _, _, rfl, T.lis.cr, c1, _, _, _, _, rfl, T.lis.cr, c2, show 2 ≤ sizeLine by decide, fun l3 n3 => ⟨show 2 ≤ sizeLine by decide, fun l4 n4 => ?_⟩⟩
          have h3' : upd (upd HE l3 (.lst [.int 12, .int 6])) l4 (.lst [.int 12, .int 6]) l3 = some (.lst [.int 12, .int 6]) := same_new n4 _ _ upd_same
          have h4' : upd (upd HE l3 (.lst [.int 12, .int 6])) l4 (.lst [.int 12, .int 6]) l4 = some (.lst [.int 12, .int 6]) := upd_same
          have sF := (same_new (o := .lst [.int 12, .int 6]) n3).trans (same_new (o := .lst [.int 12, .int 6]) n4)
          generalize upd (upd HE l3 (.lst [.int 12, .int 6])) l4 (.lst [.int 12, .int 6]) = HF at h3' h4' sF
          refine ⟨.list [.int 12, .int 6], .list [.int 12, .int 6], .lst (SqL.of h3') (.cons (.int _) (.cons (.int _) .nil)), .lst (SqL.of h4') (.cons (.int _) (.cons (.int _) .nil)), by decide +kernel, by decide +kernel, _, rfl, iteTr (by decide +kernel) ?_⟩
          have sCF := (sC.trans sE).trans sF
          refine ⟨_, rfl, D, ys, fullS.map some, rfl, ⟨sCF _ _ hysB, Paired.mapP hitB fun _ _ z => z.same sCF⟩, by decide, tbB.ext sCF, fun _ _ _ => k _⟩
end
end Kx
set_option maxHeartbeats 0
namespace Kx
open PySem PySem.Spec PyProof.Rows L2 Xr LamX
abbrev prog : Program := PySem.Challenge.pw_wholelots_k08_lists_refused
theorem it_InvalidLegs : InitT (defArgs sInvalidLegs) (defBody sInvalidLegs) (defScope sInvalidLegs) ["reason"] :=
  ⟨.inl ⟨"reason", _, _, _, _, _, _, _, _, _, _, rfl, fun env => ⟨_, rfl⟩, rfl⟩, rfl, rfl, rfl, by decide +kernel, by decide +kernel, by decide +kernel, by decide +kernel, ⟨_, rfl, rfl⟩, by decide +kernel, by decide +kernel⟩
theorem ib_InvalidLegs (kV doc pm : Value) (an : Option Addr) (cdv ct : Value) (cc : Addr) : ErrB (PySem.W.ksFn "__init__" "InvalidLegs.__init__" (defArgs sInvalidLegs) (defBody sInvalidLegs) (defScope sInvalidLegs) .none kV doc pm an cdv ct cc) ["reason"] :=
  ⟨fun s self us hl => match us, hl with | [_], _ => .of_eq rfl, fun s self us hl => match us, hl with | [_], _ => .of_eq rfl⟩
theorem it_InvalidStrategy : InitT (defArgs sInvalidStrategy) (defBody sInvalidStrategy) (defScope sInvalidStrategy) ["reason"] :=
  ⟨.inl ⟨"reason", _, _, _, _, _, _, _, _, _, _, rfl, fun env => ⟨_, rfl⟩, rfl⟩, rfl, rfl, rfl, by decide +kernel, by decide +kernel, by decide +kernel, by decide +kernel, ⟨_, rfl, rfl⟩, by decide +kernel, by decide +kernel⟩
theorem ib_InvalidStrategy (kV doc pm : Value) (an : Option Addr) (cdv ct : Value) (cc : Addr) : ErrB (PySem.W.ksFn "__init__" "InvalidStrategy.__init__" (defArgs sInvalidStrategy) (defBody sInvalidStrategy) (defScope sInvalidStrategy) .none kV doc pm an cdv ct cc) ["reason"] :=
  ⟨fun s self us hl => match us, hl with | [_], _ => .of_eq rfl, fun s self us hl => match us, hl with | [_], _ => .of_eq rfl⟩
theorem it_InvalidList : InitT (defArgs sInvalidList) (defBody sInvalidList) (defScope sInvalidList) ["reason", "name"] :=
  ⟨.inr ⟨"reason", "name", _, _, _, _, _, _, _, _, _, _, _, _, _, _, _, rfl, fun env => ⟨_, rfl⟩, rfl⟩, rfl, rfl, rfl, by decide +kernel, by decide +kernel, by decide +kernel, by decide +kernel, ⟨_, rfl, rfl⟩, by decide +kernel, by decide +kernel⟩
theorem ib_InvalidList (kV doc pm : Value) (an : Option Addr) (cdv ct : Value) (cc : Addr) : ErrB (PySem.W.ksFn "__init__" "InvalidList.__init__" (defArgs sInvalidList) (defBody sInvalidList) (defScope sInvalidList) .none kV doc pm an cdv ct cc) ["reason", "name"] :=
  ⟨fun s self us hl => match us, hl with | [_, _], _ => .of_eq rfl, fun s self us hl => match us, hl with | [_, _], _ => .of_eq rfl⟩
theorem it_InvalidText : InitT (defArgs sInvalidText) (defBody sInvalidText) (defScope sInvalidText) ["line", "word"] :=
  ⟨.inr ⟨"line", "word", _, _, _, _, _, _, _, _, _, _, _, _, _, _, _, rfl, fun env => ⟨_, rfl⟩, rfl⟩, rfl, rfl, rfl, by decide +kernel, by decide +kernel, by decide +kernel, by decide +kernel, ⟨_, rfl, rfl⟩, by decide +kernel, by decide +kernel⟩
theorem ib_InvalidText (kV doc pm : Value) (an : Option Addr) (cdv ct : Value) (cc : Addr) : ErrB (PySem.W.ksFn "__init__" "InvalidText.__init__" (defArgs sInvalidText) (defBody sInvalidText) (defScope sInvalidText) .none kV doc pm an cdv ct cc) ["line", "word"] :=
  ⟨fun s self us hl => match us, hl with | [_, _], _ => .of_eq rfl, fun s self us hl => match us, hl with | [_, _], _ => .of_eq rfl⟩
theorem it_UnknownName : InitT (defArgs sUnknownName) (defBody sUnknownName) (defScope sUnknownName) ["name"] :=
  ⟨.inl ⟨"name", _, _, _, _, _, _, _, _, _, _, rfl, fun env => ⟨_, rfl⟩, rfl⟩, rfl, rfl, rfl, by decide +kernel, by decide +kernel, by decide +kernel, by decide +kernel, ⟨_, rfl, rfl⟩, by decide +kernel, by decide +kernel⟩
theorem ib_UnknownName (kV doc pm : Value) (an : Option Addr) (cdv ct : Value) (cc : Addr) : ErrB (PySem.W.ksFn "__init__" "UnknownName.__init__" (defArgs sUnknownName) (defBody sUnknownName) (defScope sUnknownName) .none kV doc pm an cdv ct cc) ["name"] :=
  ⟨fun s self us hl => match us, hl with | [_], _ => .of_eq rfl, fun s self us hl => match us, hl with | [_], _ => .of_eq rfl⟩
theorem mkTxt {h : Heap} {w : World} {K : PySem.W.Frag} {mg : Str → Option Value} (X : K.In h) (G : h.Ns mainGlobals mg) (c : SaysF fa fn [] tf cl da exB w h K) : Txt prog K mg := by
  have d := c.e.x.t.d
  have e := c.e.x.more
  obtain ⟨z0, e⟩ := He.ba e
  have al := allB_ok z0
  obtain ⟨zl, e⟩ := He.ba e
  obtain ⟨zs, e⟩ := He.ba e
  obtain ⟨zli, e⟩ := He.ba e
  obtain ⟨zr, e⟩ := He.ba e
  obtain ⟨zr, zt⟩ := He.ba zr
  have zt := of_decide_eq_true zt
  have zr := fun x hx => He.ba (List.all_eq_true.mp zr x hx)
  obtain ⟨z1, e⟩ := He.ba e
  obtain ⟨z2, e⟩ := He.ba e
  obtain ⟨z3, e⟩ := He.ba e
  obtain ⟨z4, e⟩ := He.ba e
  have z5 := e
  exact ⟨al,
    He.glo_ok X G (d.fact 0 (f := .glo "_wall") rfl),
    He.glo_ok X G (d.fact 1 (f := .glo "LotError") rfl),
    He.glo_ok X G (d.fact 2 (f := .glo "InvalidLegs") rfl),
    He.glo_ok X G (d.fact 3 (f := .glo "InvalidStrategy") rfl),
    He.glo_ok X G (d.fact 4 (f := .glo "InvalidList") rfl),
    He.glo_ok X G (d.fact 5 (f := .glo "InvalidText") rfl),
    He.glo_ok X G (d.fact 6 (f := .glo "UnknownName") rfl),
    He.glo_ok X G (d.fact 7 (f := .glo "is_integer") rfl),
    He.glo_ok X G (d.fact 8 (f := .glo "is_whole") rfl),
    He.glo_ok X G (d.fact 9 (f := .glo "is_name") rfl),
    He.glo_ok X G (d.fact 10 (f := .glo "number_in") rfl),
    He.glo_ok X G (d.fact 11 (f := .glo "terms_text") rfl),
    He.glo_ok X G (d.fact 12 (f := .glo "word_at") rfl),
    He.glo_ok X G (d.fact 13 (f := .glo "sign_at") rfl),
    He.glo_ok X G (d.fact 14 (f := .glo "size_at") rfl),
    He.glo_ok X G (d.fact 15 (f := .glo "terms_in") rfl),
    He.glo_ok X G (d.fact 16 (f := .glo "strategy_in") rfl),
    He.glo_ok X G (d.fact 17 (f := .glo "need_numbers") rfl),
    He.glo_ok X G (d.fact 18 (f := .glo "without_zeros") rfl),
    He.glo_ok X G (d.fact 19 (f := .glo "added") rfl),
    He.glo_ok X G (d.fact 20 (f := .glo "Legs") rfl),
    He.glo_ok X G (d.fact 21 (f := .glo "TableLegs") rfl),
    He.glo_ok X G (d.fact 22 (f := .glo "are_strategy_legs") rfl),
    He.glo_ok X G (d.fact 23 (f := .glo "Strategy") rfl),
    He.glo_ok X G (d.fact 24 (f := .glo "common_divisor") rfl),
    He.glo_ok X G (d.fact 25 (f := .glo "divided") rfl),
    He.glo_ok X G (d.fact 26 (f := .glo "Steps") rfl),
    He.glo_ok X G (d.fact 27 (f := .glo "independent_of") rfl),
    He.glo_ok X G (d.fact 28 (f := .glo "months_of") rfl),
    He.glo_ok X G (d.fact 29 (f := .glo "vectors_of") rfl),
    He.glo_ok X G (d.fact 30 (f := .glo "need_strategies") rfl),
    He.glo_ok X G (d.fact 31 (f := .glo "Listing") rfl),
    He.glo_ok X G (d.fact 32 (f := .glo "_law_pen") rfl),
    He.glo_ok X G (d.fact 33 (f := .glo "_law_draw") rfl),
    He.glo_ok X G (d.fact 34 (f := .glo "_law_pick") rfl),
    He.glo_ok X G (d.fact 35 (f := .glo "_law_strategy") rfl),
    He.glo_ok X G (d.fact 36 (f := .glo "_law_some") rfl),
    He.glo_ok X G (d.fact 37 (f := .glo "_law_bent") rfl),
    He.glo_ok X G (d.fact 38 (f := .glo "_law_reason") rfl),
    He.glo_ok X G (d.fact 39 (f := .glo "_law_heard") rfl),
    He.glo_ok X G (d.fact 40 (f := .glo "_law_direct") rfl),
    He.glo_ok X G (d.fact 41 (f := .glo "_law_right") rfl),
    He.glo_ok X G (d.fact 42 (f := .glo "law") rfl),
    He.free_ok X G (d.fact 43 (f := .free "KeyError") rfl),
    He.free_ok X G (d.fact 44 (f := .free "TypeError") rfl),
    He.free_ok X G (d.fact 45 (f := .free "ValueError") rfl),
    He.free_ok X G (d.fact 46 (f := .free "abs") rfl),
    He.free_ok X G (d.fact 47 (f := .free "all") rfl),
    He.free_ok X G (d.fact 48 (f := .free "bool") rfl),
    He.free_ok X G (d.fact 49 (f := .free "classmethod") rfl),
    He.free_ok X G (d.fact 50 (f := .free "dict") rfl),
    He.free_ok X G (d.fact 51 (f := .free "enumerate") rfl),
    He.free_ok X G (d.fact 52 (f := .free "int") rfl),
    He.free_ok X G (d.fact 53 (f := .free "isinstance") rfl),
    He.free_ok X G (d.fact 54 (f := .free "len") rfl),
    He.free_ok X G (d.fact 55 (f := .free "list") rfl),
    He.free_ok X G (d.fact 56 (f := .free "property") rfl),
    He.free_ok X G (d.fact 57 (f := .free "range") rfl),
    He.free_ok X G (d.fact 58 (f := .free "repr") rfl),
    He.free_ok X G (d.fact 59 (f := .free "sorted") rfl),
    He.free_ok X G (d.fact 60 (f := .free "str") rfl),
    He.free_ok X G (d.fact 61 (f := .free "super") rfl),
    He.free_ok X G (d.fact 62 (f := .free "tuple") rfl),
    He.free_ok X G (d.fact 63 (f := .free "zip") rfl),
    He.str_ok X G (d.fact 64 (f := .str "LETTERS" "abcdefghijklmnopqrstuvwxyz") rfl),
    He.str_ok X G (d.fact 65 (f := .str "DIGITS" "0123456789") rfl),
    He.int_ok X G (d.fact 66 (f := .int "MOST_LETTERS" 8) rfl),
    He.int_ok X G (d.fact 67 (f := .int "MOST_DIGITS" 60) rfl),
    He.int_ok X G (d.fact 68 (f := .int "MOST_LEGS" 6) rfl),
    He.int_ok X G (d.fact 69 (f := .int "GREATEST_LEG" 4) rfl),
    d.def_ 0 (d := dD "_wall" 0) rfl,
    d.def_ 1 (d := dD "is_integer" 13) rfl,
    d.def_ 2 (d := dD "is_whole" 14) rfl,
    d.def_ 3 (d := dD "is_name" 15) rfl,
    d.def_ 4 (d := dD "number_in" 16) rfl,
    d.def_ 5 (d := dD "terms_text" 20) rfl,
    d.def_ 6 (d := dD "word_at" 21) rfl,
    d.def_ 7 (d := dD "sign_at" 22) rfl,
    d.def_ 8 (d := dD "size_at" 23) rfl,
    d.def_ 9 (d := dD "terms_in" 24) rfl,
    d.def_ 10 (d := dD "strategy_in" 25) rfl,
    d.def_ 11 (d := dD "need_numbers" 26) rfl,
    d.def_ 12 (d := dD "without_zeros" 27) rfl,
    d.def_ 13 (d := dD "added" 28) rfl,
    d.def_ 14 (d := dD "are_strategy_legs" 31) rfl,
    d.def_ 15 (d := dD "common_divisor" 34) rfl,
    d.def_ 16 (d := dD "divided" 35) rfl,
    d.def_ 17 (d := dD "independent_of" 37) rfl,
    d.def_ 18 (d := dD "months_of" 39) rfl,
    d.def_ 19 (d := dD "vectors_of" 40) rfl,
    d.def_ 20 (d := dD "need_strategies" 41) rfl,
    d.def_ 21 (d := dD "_law_pen" 44) rfl,
    d.def_ 22 (d := dD "_law_draw" 45) rfl,
    d.def_ 23 (d := dD "_law_pick" 46) rfl,
    d.def_ 24 (d := dD "_law_strategy" 47) rfl,
    d.def_ 25 (d := dD "_law_some" 48) rfl,
    d.def_ 26 (d := dD "_law_bent" 49) rfl,
    d.def_ 27 (d := dD "_law_reason" 50) rfl,
    d.def_ 28 (d := dD "_law_heard" 51) rfl,
    d.def_ 29 (d := dD "_law_direct" 52) rfl,
    d.def_ 30 (d := dD "_law_right" 53) rfl,
    d.def_ 31 (d := dD "law" 54) rfl,
    c.dA 0 rfl,
    c.dA 1 rfl,
    c.dA 2 rfl,
    c.dA 3 rfl,
    c.dA 4 rfl,
    c.dA 5 rfl,
    c.dA 6 rfl,
    c.dA 7 rfl,
    c.dA 8 rfl,
    c.dA 9 rfl,
    c.dA 10 rfl,
    c.dA 11 rfl,
    c.dA 12 rfl,
    c.dA 13 rfl,
    c.dA 14 rfl,
    c.dA 15 rfl,
    c.dA 16 rfl,
    c.dA 17 rfl,
    c.dA 18 rfl,
    c.dA 19 rfl,
    c.dA 20 rfl,
    c.dA 21 rfl,
    c.dA 22 rfl,
    c.dA 23 rfl,
    c.dA 24 rfl,
    c.dA 25 rfl,
    c.dA 26 rfl,
    c.dA 27 rfl,
    c.dA 28 rfl,
    c.dA 29 rfl,
    c.dA 30 rfl,
    c.dA 31 rfl,
    c.dA 32 rfl,
    c.dA 33 rfl,
    c.dA 34 rfl,
    c.dA 35 rfl,
    err_ok (P := prog) bfV z1 al (c.e.clo (List.mem_of_getElem? (i := 0) rfl)) it_InvalidLegs (by decide +kernel) ib_InvalidLegs,
    err_ok (P := prog) bfV z2 al (c.e.clo (List.mem_of_getElem? (i := 1) rfl)) it_InvalidStrategy (by decide +kernel) ib_InvalidStrategy,
    err_ok (P := prog) bfV z3 al (c.e.clo (List.mem_of_getElem? (i := 2) rfl)) it_InvalidList (by decide +kernel) ib_InvalidList,
    err_ok (P := prog) bfV z4 al (c.e.clo (List.mem_of_getElem? (i := 3) rfl)) it_InvalidText (by decide +kernel) ib_InvalidText,
    err_ok (P := prog) bfK z5 al (c.e.clo (List.mem_of_getElem? (i := 4) rfl)) it_UnknownName (by decide +kernel) ib_UnknownName,
    fun x hx => of_decide_eq_true (zr x hx).1, zt, fun x hx y hy => of_decide_eq_true (List.all_eq_true.mp (zr x hx).2 y hy),
    legB_ok (P := prog) zl al (c.e.clo (List.mem_of_getElem? (i := 5) rfl)) (by decide +kernel), stgB_ok zs, listB_ok zli⟩
theorem lawF {w : World} {h : Heap} {K : PySem.W.Frag} {mg : Str → Option Value} {f : Addr} (X : K.In h) (G : h.Ns mainGlobals mg) (hfa : mg ("law" : Str) = some (.ref f)) (c : SaysF fa fn [] tf cl da exB w h K) :
    ∃ fd : FuncData, (∀ (s : Shared) (v : Value), BindsTo s fd ⟨[v], []⟩ [("_law_script", v)]) ∧ ∀ base : Heap, K.In base → base.Ns mainGlobals mg → (∀ p ∈ tf.map (He.cT K), LamX.TabB base mg p.1 p.2) → FnG prog w K mg base CX0 18 f fd ["_law_script"] (spLaw K) := by
  have T := mkTxt X G c
  have e := hfa.symm.trans T.g_law
  cases e
  obtain ⟨fd, F⟩ := T.F_law
  exact ⟨fd, fun s v => FunD.bindsA (ps := ["_law_script"]) F (fun _ _ _ _ _ _ us hl => match us, hl with | [_], _ => rfl) s [v] rfl, fun base _ _ TB => ok_law T (fun p hp => TB _ (List.mem_map.mpr ⟨p, hp, rfl⟩)) F⟩
theorem tabs_start {K : PySem.W.Frag} {H : Hp} (hT : ∀ p ∈ tf.map (He.cT K), H p.2 = some (.tbl #[])) : Tabs (tabsT K) H := by
  intro e he
  have h : ∃ p ∈ tf.map (He.cT K), p.2 = e.1 := by
    have hm : e.1 ∈ (tabsT K).map (·.1) := List.mem_map.mpr ⟨e, he, rfl⟩
    have hm : e.1 ∈ (tf.map (He.cT K)).map (·.2) := hm
    obtain ⟨p, hp, e2⟩ := List.mem_map.mp hm
    exact ⟨p, hp, e2⟩
  obtain ⟨p, hp, e2⟩ := h
  exact LamX.TabS.nil (e2 ▸ hT p hp)
end Kx
open PySem PySem.W PySem.Calls PyProof.Rows
theorem PySem.Challenge.cw_wholelots_k08_lists_refused_holds : PySem.Challenge.rw_wholelots_k08_lists_refused.Holds := by
  w_on; o_law
  refine HandSHeadRun.head_any (r := OpenLaw.row PySem.Challenge.rw_wholelots_k08_lists_refused) (q := view (OpenLaw.row PySem.Challenge.rw_wholelots_k08_lists_refused).prog [54]) (H := Kx.hk) (ob := Kx.ob) (M := 12000) (loose := Kx.loose)
    (d := HandSHeadRun.topDef (OpenLaw.row PySem.Challenge.rw_wholelots_k08_lists_refused).prog 54) (kwd := []) Kx.ob_eq
    (by kernel_rfl) (fun s => by kernel_rfl) Kx.run (by kernel_rfl) (by kernel_rfl) (by kernel_rfl) (by rfl) (by first | assumption | decide +kernel) (by decide +kernel) ⟨rfl, rfl, rfl, rfl, rfl, by decide +kernel⟩ ?hw ?hc
  case hw => w_witness2
  case hc =>
    refine Xr.walkGT (l := PySem.Challenge.rw_wholelots_k08_lists_refused) (n := 63) (k := 18) (x := "_law_script") (CX := L2.CX0) rfl (by decide) (by kernel_rfl) ⟨rfl, by decide, by decide⟩ ?F (fun _ _ _ _ z => z)
    intro w mg fa h Y G hmg0
    obtain ⟨K, KX, c⟩ := Y
    have hmg : mg ("law" : PySem.Str) = some (.ref fa) := by
      have e : (HandSHeadRun.topDef (OpenLaw.row PySem.Challenge.rw_wholelots_k08_lists_refused).prog 54).name = ("law" : PySem.Str) := by kernel_rfl
      rw [← e]
      exact hmg0
    obtain ⟨fd, hb, hF⟩ := Kx.lawF (w := w) KX G hmg c
    exact ⟨K, fd, Kx.tf.map (He.cT K), Kx.spLaw K, KX, fun p hp => by obtain ⟨q, hq, rfl⟩ := List.mem_map.mp hp; exact c.e.x.empty q hq, fun p hp => by obtain ⟨q, hq, rfl⟩ := List.mem_map.mp hp; exact c.e.x.out q hq,
      fun p hp => by obtain ⟨q, hq, rfl⟩ := List.mem_map.mp hp; exact PySem.W.codeHd_of_K KX (c.e.x.hd q hq), hb, fun H a ns hl hT hS => ⟨a, ns, rfl, hS, hl, Kx.tabs_start hT, fun _ => rfl⟩, hF⟩
