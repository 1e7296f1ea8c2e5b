import PyProof.Rows.All
import Wide.All
import OpenK.AllK
import Wide.FinOn
import KE.KExcSuper
import HandS.ForMost
import HandS.Exc
import HandS.ExcInit
import HandS.Defaults
import HandS.ExcField
import HandS.IsInst
import KE.KExcIs
import HandS.HeadEnd
import HandS.Head0
import HandS.Head1
import HandS.Head2
import HandS.HeadHook1
import HandS.HeadHook2
import HandS.HeadHook3
import HandS.HeadHook4
import HandS.ClsMeth
import HandS.Star
import HandS.Property
import HandS.Records
import PyProof.InstNe
import HandS.SlotsOwn
import HandS.Nested
import HandS.DictComp
import HandS.Conv
import HandS.More
import HandS.HeadNt
import HandS.Wide
import HandS.WordsDict
import PyProof.Rows.RegStrFacts
import HandS.Text
import HandS.ListItems
import HandS.RaiseMore
import KE.KCallOwn
import HandS.MakeKwOnly
import KE.KParD
import HandS.TryOnly
import HandS.Lambda
import KE.KTryMore
import HandS.EndTab
import HandS.OwnEq
import PyProof.SliceSyntax
import PyProof.StrOps2
import HandS.FStr
import PyProof.RulesMatch
import HandS.NoneIn
import PySem.Challenge.RW_wholelots_k31_orders_refused
set_option Elab.async false
set_option linter.all false
set_option maxRecDepth 100000
set_option maxHeartbeats 4000000
namespace Xr
open PySem PySem.W PySem.Calls PyProof.Rows PySem.Spec
/-! KeyError, as the other bases -/
theorem keySuper : KxsFacts "KeyError" "KeyError.__init__" :=
  ⟨by show builtinType _ = _; rw [builtinType_eq_fast]; kernel_rfl, by first | kernel_rfl | rfl⟩
theorem keyBound : builtinKind "KeyError.__init__" = some .slot ∧ splitId "KeyError.__init__" = some ("KeyError", "__init__") := ⟨by kernel_rfl, by kernel_rfl⟩
theorem keyRow : Manifest.signature? "KeyError.__init__" = some ⟨.positional, "*", "KeyError", .self, [⟨"args", .varPos, false⟩]⟩ := by kernel_rfl
theorem keyEntry : entryFor table "KeyError.__init__" = some Builtin.«BaseException.__init__» :=
  entryFor_alias (id' := "BaseException.__init__") (by rw [fastTable_eq_tree]; kernel_rfl) (by first | rfl | decide +kernel)
    (by decide +kernel) (by rw [fastTable_eq_tree]; kernel_rfl)
theorem keyPlain : plainId "KeyError.__init__" = true := by decide +kernel
theorem keyMade : Bind.madeBy (.type "KeyError") = pure (some "LookupError.__new__") := by kernel_rfl
end Xr
set_option maxHeartbeats 4000000
namespace Xr
open PySem PySem.W PySem.Calls PyProof.Rows PySem.Spec
/-- one base of the errors: the class B whose __init__ is ini; its __new__ is nw, of the class N -/
structure BaseF (B ini N nw : String) (bmB : List Value) : Prop where
  f : ∃ i bm, ExcBaseFacts N nw i bm
  hN : bmB.contains (.type N) = true
  hB : bmB.contains (.type B) = true
  noA : bmB.contains (.type "AttributeError") = false
  noE : bmB.contains (.type "NameError") = false
  exc : bmB.contains (.type "BaseException") = true
  obj : bmB.contains (.type "object") = true
  k : KxsFacts B ini
  kind : builtinKind ini = some .slot
  row : Manifest.signature? ini = some ⟨.positional, "*", B, .self, [⟨"args", .varPos, false⟩]⟩
  entry : entryFor table ini = some Builtin.«BaseException.__init__»
  plain : plainId ini = true
  ns : (B != "*") = true
  pass : ∀ self : Value, refuseLoop self "__setattr__" bmB = pure ()
theorem of_facts {B ini nw : String} {bm : List Value} (F : ExcBaseFacts B nw ini bm) (k : KxsFacts B ini) (h : bm.contains (.type "object") = true) (p : ∀ self : Value, refuseLoop self "__setattr__" bm = pure ()) : BaseF B ini B nw bm :=
  ⟨⟨_, _, F⟩, F.hasB, F.hasB, F.noAttr, F.noName, F.hasBase, h, k, F.initKind, F.initRow, F.initEntry, F.init.plain, F.noStar, p⟩
abbrev tlV : List Value := [.type "ValueError", .type "Exception", .type "BaseException", .type "object"]
abbrev tlK : List Value := [.type "KeyError", .type "LookupError", .type "Exception", .type "BaseException", .type "object"]
abbrev tlL : List Value := [.type "LookupError", .type "Exception", .type "BaseException", .type "object"]
abbrev tlI : List Value := [.type "IndexError", .type "LookupError", .type "Exception", .type "BaseException", .type "object"]
abbrev tlR : List Value := [.type "RuntimeError", .type "Exception", .type "BaseException", .type "object"]
abbrev tlO : List Value := [.type "OverflowError", .type "ArithmeticError", .type "Exception", .type "BaseException", .type "object"]
theorem bfV : BaseF "ValueError" "ValueError.__init__" "ValueError" "ValueError.__new__" tlV := of_facts F.excBase_ValueError kxs_ValueError (by decide +kernel) fun _ => by kernel_rfl
theorem bfL : BaseF "LookupError" "LookupError.__init__" "LookupError" "LookupError.__new__" tlL := of_facts F.excBase_LookupError kxs_LookupError (by decide +kernel) fun _ => by kernel_rfl
theorem bfI : BaseF "IndexError" "IndexError.__init__" "IndexError" "IndexError.__new__" tlI := of_facts F.excBase_IndexError kxs_IndexError (by decide +kernel) fun _ => by kernel_rfl
theorem bfR : BaseF "RuntimeError" "RuntimeError.__init__" "RuntimeError" "RuntimeError.__new__" tlR := of_facts F.excBase_RuntimeError kxs_RuntimeError (by decide +kernel) fun _ => by kernel_rfl
theorem bfO : BaseF "OverflowError" "OverflowError.__init__" "OverflowError" "OverflowError.__new__" tlO := of_facts F.excBase_OverflowError kxs_OverflowError (by decide +kernel) fun _ => by kernel_rfl
theorem bfK : BaseF "KeyError" "KeyError.__init__" "LookupError" "LookupError.__new__" tlK :=
  ⟨⟨_, _, F.excBase_LookupError⟩, by decide +kernel, by decide +kernel, by decide +kernel, by decide +kernel, by decide +kernel, by decide +kernel, keySuper, keyBound.1, keyRow, keyEntry, keyPlain, by decide +kernel, fun _ => by kernel_rfl⟩

/-- the object of an error that has no dict yet | whose dict is at d -/
abbrev exOb (C t : Addr) (d : Option Addr) : Obj := { cls := .ref C, dict := d, data := .fields #[.ref t, .none, .none, .none, .bool false, .none] }
section
variable {M : Model} {A : Around} {E : Value → Shared → Prop} {h : Heap} {g : Array GenState} {d : Drawn} {t : Nat} {os : OsState}
variable {nm q : Str} {C NS : Addr} {bs bm bmB : List Value} {hdct : Bool} {sn : List Str} {sub : List Value} {ab : Bool} {col : Option Bool} {dd : Option Addr} {k0 k1 k2 k3 k5 : Option Value} {B ini N nw : String}
abbrev clO (nm q : Str) (C NS : Addr) (bs bm : List Value) (hdct : Bool) (sn : List Str) (sub : List Value) (ab : Bool) (col : Option Bool) (dd : Option Addr) (k0 k1 k2 k3 k5 : Option Value) (nw : String) : Obj :=
  excClassObj nm q C NS bs bm hdct sn sub ab col dd k0 k1 k2 k3 k5 nw
theorem chkNew {i : String} {bN : List Value} (F : ExcBaseFacts N nw i bN) (hb : bm.contains (.type N) = true) {rest : List Value} {kw : List (Str × Value)} {Q : Unit → Shared → Prop}
    (hC : h.get? C = some (clO nm q C NS bs bm hdct sn sub ab col dd k0 k1 k2 k3 k5 nw)) (hq : Q () ⟨h, g, d, t, os⟩) :
    wpAny M A (checkBuiltinCall nw ⟨.ref C :: rest, kw⟩) Q E ⟨h, g, d, t, os⟩ := by
  have hin : (Value.ref C :: bm).contains (.type N) = true := by rw [List.contains_cons, hb, Bool.or_true]
  have hs := F.noStar
  simp only [checkBuiltinCall, F.newKind, F.newSplit, F.newRow]
  repeat (first
    | refine wpAny_loadPart_at hC ?_
    | (refine wpAny_isSubtype_exc hC ?_; rw [hin])
    | refine wpAny_staticBase_exc hC ?_
    | refine wpAny_madeBy_exc hC ?_
    | simp only [bne_self_eq_false, Bool.false_eq_true, if_false]
    | wp_step)
  exact hq
end
section
variable {prog : Program} {w : World} {A : Around} {E : Value → Shared → Prop} {R : Result → Shared → Prop} {h : Heap} {g : Array GenState} {d : Drawn} {t : Nat} {os : OsState}
variable {nm q : Str} {C NS : Addr} {bs bm bmB : List Value} {hdct : Bool} {sn : List Str} {sub : List Value} {ab : Bool} {col : Option Bool} {dd : Option Addr} {k0 k1 k2 k3 k5 : Option Value} {B ini N nw : String}
theorem newRun {i : String} {bN : List Value} (F : ExcBaseFacts N nw i bN) (hB : bm.contains (.type N) = true) (hA : bm.contains (.type "AttributeError") = false) (hE : bm.contains (.type "NameError") = false)
    {rest : List Value} {kw : List (Str × Value)} (hC : h.get? C = some (clO nm q C NS bs bm hdct sn sub ab col dd k0 k1 k2 k3 k5 nw)) (hz : rest.length ≤ sizeLine)
    (hq : R (.ok (.ret (.ref (h.objs.size + 1)))) ⟨(h.push (kdv_tup rest)).push (exOb C h.objs.size none), g, d, t, os⟩) :
    codeAny (model prog w) A (.builtin nw ⟨.ref C :: rest, kw⟩) R ⟨h, g, d, t, os⟩ := by
  have he := F.ends
  have c1 : (Value.ref C :: bm).contains (.type N) = true := by rw [List.contains_cons, hB, Bool.or_true]
  have c2 : (Value.ref C :: bm).contains (.type "AttributeError") = false := by rw [List.contains_cons, hA]; rfl
  have c3 : (Value.ref C :: bm).contains (.type "NameError") = false := by rw [List.contains_cons, hE]; rfl
  refine codeAny_builtinAt F.entry ?_
  unfold Builtin.«BaseException.__new__»
  refine PySem.wpAt_bind ?_
  show PySem.wpAt _ _ _ (stack >>= _) _ _ _
  refine PySem.wpAt_bind (PySem.wpAt_stack fun p below => PySem.wpAt_of_wpAny ?_)
  wp_walk
  refine PySem.wpAt_of_wpAny ?_
  rw [F.owner]
  repeat (first
    | with_reducible refine wpAny_madeHere_exc F.canon hC ?_
    | with_reducible refine wpAny_loadPart_at hC ?_
    | (with_reducible refine wpAny_isSubtype_exc hC ?_; first | rw [c1] | rw [c2] | rw [c3])
    | wp_step)
  show R _ _
  rw [Heap.size_push]
  exact hq
theorem typeCall {i : String} {bN : List Value} (F : ExcBaseFacts N nw i bN) (hB : bm.contains (.type N) = true) (hA : bm.contains (.type "AttributeError") = false) (hE : bm.contains (.type "NameError") = false)
    {rest : List Value} {kw : List (Str × Value)} {fI : Addr} {Q : Fin → Shared → Prop} (hC : h.get? C = some (clO nm q C NS bs bm hdct sn sub ab col dd k0 k1 k2 k3 k5 nw))
    (hi : Looks (model prog w) h (typeLookup (.ref C) "__init__") (some (.ref fI))) (hb : ∀ self, Looks (model prog w) h (bindSpecial (.ref fI) self) (.ref fI, [self])) (hz : rest.length ≤ sizeLine)
    (hq : codeAny (model prog w) A (.call (.ref fI) ⟨.ref (h.objs.size + 1) :: rest, kw⟩)
      (fun r s' => match r with
        | .ok (.ret v) => v = .none ∧ Q (.done (.ret (.ref (h.objs.size + 1)))) s'
        | .ok _ => False
        | .error e => E e s')
      ⟨(h.push (kdv_tup rest)).push (exOb C h.objs.size none), g, d, t, os⟩) :
    wpAny (model prog w) A (Builtin.«type.__call__» ⟨.ref C :: rest, kw⟩) Q E ⟨h, g, d, t, os⟩ := by
  repeat (first
    | with_reducible refine wpAny_loadPart_at hC ?_
    | with_reducible refine wpAny_madeBy_exc hC ?_
    | wp_step)
  refine codeAny_call_builtin_code (Code.quiet_builtin _ F.quiet) (chkNew F hB hC ?_)
  refine newRun F hB hA hE hC hz ?_
  show wpAny _ _ _ _ _ _
  have k : ∀ b o, h.get? b = some o → ((h.push (kdv_tup rest)).push (exOb C h.objs.size none)).get? b = some o :=
    fun b o e => Heap.get?_push_of_some _ (Heap.get?_push_of_some _ e)
  have c1 := k _ _ hC
  have c2 : ((h.push (kdv_tup rest)).push (exOb C h.objs.size none)).get? (h.objs.size + 1) = some (exOb C h.objs.size none) := by heap_get
  have c3 : (Value.ref C :: bm).contains (.ref C) = true := by simp
  have i1 := hi.keeps k
  have b1 := (hb (.ref (h.objs.size + 1))).keeps k
  unfold isInstance
  repeat (first
    | with_reducible refine wpAny_loadPart_at c2 ?_
    | (with_reducible refine wpAny_isSubtype_exc c1 ?_; rw [c3])
    | wp_step)
  show wpAny _ _ (typeLookup (.ref C) _) _ _ _
  refine i1.at ?_
  refine wpAny_holding (wpAny_bind (b1.at ?_))
  refine wpAny_bind (wpAny_call (codeAny_mono hq fun r s' z => ?_))
  rcases r with e | (v | _ | _ | _) <;> first | exact z | exact z.elim | skip
  obtain ⟨rfl, z⟩ := z
  first
    | exact wpAny_pure (wpAny_pure z)
    | (wp_walk; exact z)
/-- C(..) for an error's class: __new__ lays the args and the object, then the own __init__ -/
theorem callOwn {i : String} {bN : List Value} (F : ExcBaseFacts N nw i bN) (hB : bm.contains (.type N) = true) (hA : bm.contains (.type "AttributeError") = false) (hE : bm.contains (.type "NameError") = false)
    {rest : List Value} {kw : List (Str × Value)} {fI : Addr} (hC : h.get? C = some (clO nm q C NS bs bm hdct sn sub ab col dd k0 k1 k2 k3 k5 nw))
    (hi : Looks (model prog w) h (typeLookup (.ref C) "__init__") (some (.ref fI))) (hb : ∀ self, Looks (model prog w) h (bindSpecial (.ref fI) self) (.ref fI, [self])) (hz : rest.length ≤ sizeLine)
    (hq : codeAny (model prog w) (A.under (.builtin "type.__call__" ⟨.ref C :: rest, kw⟩)) (.call (.ref fI) ⟨.ref (h.objs.size + 1) :: rest, kw⟩) (InitBack (h.objs.size + 1) R)
      ⟨(h.push (kdv_tup rest)).push (exOb C h.objs.size none), g, d, t, os⟩) :
    codeAny (model prog w) A (.call (.ref C) ⟨rest, kw⟩) R ⟨h, g, d, t, os⟩ := by
  have f1 := tc_lookup
  have f2 := tc_bind (.ref C)
  have hTy : (⟨h, g, d, t, os⟩ : Shared).TypeIs (.ref C) "type" := ⟨_, hC, rfl⟩
  refine codeAny_of_tree ?_
  show wpAny _ _ (callAny (.ref C) _) _ _ _
  repeat (any_goals (first
    | assumption
    | with_reducible refine wpAny_loadPart_at hC ?_
    | wp_step))
  refine ⟨rfl, ?_⟩
  refine codeAny_call_builtin_at (Code.quiet_builtin _ (by decide +kernel)) entry_typeCall (wpAny_check_type_call_sub hC (typeCall F hB hA hE hC hi hb hz ?_))
  refine codeAny_mono hq fun r s' z => ?_
  rcases r with e | (v | _ | _ | _) <;> exact z
end
end Xr
set_option maxHeartbeats 4000000
namespace Xr
open PySem PySem.W PySem.Calls PyProof.Rows PySem.Spec
section
open Builtin Builtin.ObjectAttr
variable {prog : Program} {w : World} {A : Around} {E : Value → Shared → Prop} {R : Result → Shared → Prop} {hp : Heap} {g : Array GenState} {d : Drawn} {t : Nat} {os : OsState}
/-- the way of object.__setattr__ on an error, to its own dict -/
theorem saWay {bmB : List Value} {K : Frag} {name : Str} {tk : Tok} {v : Value} {x C : Addr} {ox : Obj} {od : Option Obj} {cd : ClassData}
    (X : K.In hp) (I : InstAt hp x ox C od) (hcd : clsIn K C = some cd) (hm : excTail bmB cd.mro = true) (ho : bmB.contains (.type "object") = true) (hp0 : ∀ self : Value, refuseLoop self "__setattr__" bmB = pure ())
    (ha : findIn K (.ref C) name = some none)
    (hq : wpAny (model prog w) A.in1 (storeInOwnDict (.ref x) (.ref C) (.str name tk) name v false)
      (fun fin s' => match fin with
        | .done f => R (.ok f) s'
        | .again c' => c'.quiet = true ∧ codeAny (model prog w) A c' R s') (fun e s' => R (.error e) s') ⟨hp, g, d, t, os⟩) :
    codeAny (model prog w) A (.call (.builtin "object.__setattr__") ⟨[.ref x, .str name tk, v], []⟩) R ⟨hp, g, d, t, os⟩ := by
  have SF := F.store_object
  have hob : cd.mro.contains (.type "object") = true := (excTail_contains "object" _ hm).trans ho
  have hne : cd.mro.isEmpty = false := by
    cases q : cd.mro with
    | nil =>
      rw [q] at hob
      cases hob
    | cons a r => rfl
  have sub : Looks (model prog w) hp (isInstance (.ref x) (.type "object")) true :=
    I.type.andThen (looks_mroIn X (by unfold mroIn; rw [hcd, Option.bind_some, if_neg (by rw [hne]; decide), hob]))
  refine codeAny_call_builtin SF.slot.plain SF.entry (@check_slot (model prog w) _ _ ⟨hp, g, d, t, os⟩ "object.__setattr__" "object" "__setattr__" (.ref x)
    [.str name tk, v] [] _ SF.kind SF.split sub (SF.args (.ref x) (.str name tk) v) ?_)
  have hmr : Looks (model prog w) hp (mroOf (.ref C)) cd.mro := (looks_clsIn X hcd).andThen .now
  have L3 : Looks (model prog w) hp (storeTaker? none) none := .now
  rw [osa_eq, refuse_eq]
  refine wpAny_bind (wpAny_bind (I.type.at (wpAny_bind (hmr.at ?_))))
  rw [excTail_pass _ (hp0 _) _ hm]
  refine wpAny_pure (wpAny_bind (I.type.at ?_))
  exact wpAny_bind ((looks_findIn X ha).at (wpAny_bind (L3.at hq)))
/-- e.f = v, the first one: the dict is laid -/
theorem saNew {bmB : List Value} {K : Frag} {name : Str} {tk : Tok} {v : Value} {x C : Addr} {fv : Array Value} {cd : ClassData}
    (X : K.In hp) (hx : hp.get? x = some { cls := .ref C, data := .fields fv }) (hcd : clsIn K C = some cd) (hm : excTail bmB cd.mro = true) (ho : bmB.contains (.type "object") = true)
    (hp0 : ∀ self : Value, refuseLoop self "__setattr__" bmB = pure ()) (hh : cd.hasDict = true) (ha : findIn K (.ref C) name = some none)
    (hq : ∀ h' tk' dx, (∀ b o, b ≠ x → hp.get? b = some o → h'.get? b = some o) → hp.objs.size ≤ dx → dx ≠ x → h'.get? x = some { cls := .ref C, dict := some dx, data := .fields fv } →
      h'.Ns1 dx (fun y => if y = name then some v else none) → R (.ok (.ret .none)) ⟨h', g, d, tk', os⟩) :
    codeAny (model prog w) A (.call (.builtin "object.__setattr__") ⟨[.ref x, .str name tk, v], []⟩) R ⟨hp, g, d, t, os⟩ := by
  have I : InstAt hp x { cls := .ref C, data := .fields fv } C none := ⟨hx, rfl, rfl, trivial⟩
  have hxs : x ≠ hp.objs.size := Nat.ne_of_lt (Heap.lt_size hx)
  refine saWay X I hcd hm ho hp0 ha ?_
  have hcls : Looks (model prog w) hp (classData C) cd := looks_clsIn X hcd
  obtain ⟨nm, bs, mro, ns, qn, hd, sn, sb, ab, col, del⟩ := cd
  dsimp only at hh
  subst hh
  unfold storeInOwnDict ownDictForStores
  repeat (first
    | with_reducible refine HandSPX.store_in_new ?_ ?_
    | with_reducible refine wpAny_loadPart_at hx ?_
    | with_reducible refine hcls.at ?_
    | wp_step)
  · exact ⟨_, #[], _, (Heap.get?_update_ne _ _ _ _ hxs.symm).trans (Heap.get?_push_at rfl rfl), rfl, fun e he => absurd he (by simp), fun _ => rfl⟩
  · intro h' tk' hn' hs
    have h1 : (hp.push { cls := .type "dict", data := .dict #[] }).get? x = some { cls := .ref C, data := .fields fv } := Heap.get?_push_of_some _ hx
    refine hq h' tk' hp.objs.size (fun b o hb ho => ?_) (Nat.le_refl _) hxs.symm ?_ hn'
    · exact (hs.2 b (Nat.ne_of_lt (Heap.lt_size ho))).trans
        ((Heap.get?_update_ne _ _ _ _ hb).trans (Heap.get?_push_of_some _ ho))
    · exact (hs.2 x hxs).trans (Heap.get?_update_self _ h1 rfl)
/-- e.f = v, a further one -/
theorem saOld {bmB : List Value} {K : Frag} {name : Str} {tk : Tok} {v : Value} {x C dx : Addr} {fv : Array Value} {cd : ClassData} {m0 : Str → Option Value} {nl : List Str}
    (X : K.In hp) (hx : hp.get? x = some { cls := .ref C, dict := some dx, data := .fields fv }) (hns : hp.Ns1 dx m0) (hw : Within m0 nl) (hz : nl.length ≤ 1000)
    (hcd : clsIn K C = some cd) (hm : excTail bmB cd.mro = true) (ho : bmB.contains (.type "object") = true)
    (hp0 : ∀ self : Value, refuseLoop self "__setattr__" bmB = pure ()) (hh : cd.hasDict = true) (ha : findIn K (.ref C) name = some none)
    (hq : ∀ h' tk', (∀ b o, b ≠ dx → hp.get? b = some o → h'.get? b = some o) → h'.Ns1 dx (fun y => if y = name then some v else m0 y) → R (.ok (.ret .none)) ⟨h', g, d, tk', os⟩) :
    codeAny (model prog w) A (.call (.builtin "object.__setattr__") ⟨[.ref x, .str name tk, v], []⟩) R ⟨hp, g, d, t, os⟩ := by
  obtain ⟨oD, esD, epD, hoD, hdD, _⟩ := hns.count hw
  have I : InstAt hp x { cls := .ref C, dict := some dx, data := .fields fv } C (some oD) := ⟨hx, rfl, rfl, hoD⟩
  refine saWay X I hcd hm ho hp0 ha ?_
  have hcls : Looks (model prog w) hp (classData C) cd := looks_clsIn X hcd
  obtain ⟨nm, bs, mro, ns, qn, hd, sn, sb, ab, col, del⟩ := cd
  dsimp only at hh
  subst hh
  unfold storeInOwnDict ownDictForStores
  repeat (first
    | with_reducible refine OEX.store_in_old hns hw hz ?_
    | with_reducible refine wpAny_loadPart_at hx ?_
    | with_reducible refine hcls.at ?_
    | wp_step)
  intro h' tk' hn' hs
  exact hq h' tk' (fun b o hb ho => (hs.2 b hb).trans ho) hn'
end
section
variable {M : Model} {A : Around} {E : Value → Shared → Prop} {h : Heap} {g : Array GenState} {d : Drawn} {t : Nat} {os : OsState}
variable {nm q : Str} {C NS : Addr} {bs bm bmB : List Value} {hdct : Bool} {sn : List Str} {sub : List Value} {ab : Bool} {col : Option Bool} {dd : Option Addr} {k0 k1 k2 k3 k5 : Option Value} {B ini N nw : String}
theorem chkBound (T : BaseF B ini N nw bmB) {e : Addr} {oe : Obj} {rest : List Value} {Q : Unit → Shared → Prop}
    (hC : h.get? C = some (clO nm q C NS bs bm hdct sn sub ab col dd k0 k1 k2 k3 k5 nw)) (he : h.get? e = some oe) (hcls : oe.cls = .ref C) (hq : Q () ⟨h, g, d, t, os⟩) :
    wpAny M A (checkBoundCall ini ⟨.ref e :: rest, []⟩) Q E ⟨h, g, d, t, os⟩ := by
  have hshort := T.ns
  simp only [checkBoundCall, T.kind, T.row]
  repeat (first
    | (with_reducible refine wpAny_loadPart_at he ?_; rw [hcls])
    | with_reducible refine wpAny_loadPart_at hC ?_
    | wp_step)
  refine wpAny_onRaise ?_
  rw [show ∀ (a b : String) (n : Nat), Bind.check ⟨.positional, "*", B, .self, [⟨"args", .varPos, false⟩]⟩ a b n
    (List.map (fun x => x.fst) ({ pos := Value.ref e :: rest } : Args).kw) = pure () from fun a b n => check_star_args _ _ _ _ _ _]
  exact wpAny_pure hq
end
section
variable {prog : Program} {w : World} {A : Around} {E : Value → Shared → Prop} {h : Heap} {g : Array GenState} {d : Drawn} {t : Nat} {os : OsState}
variable {nm q : Str} {C NS : Addr} {bs bm bmB : List Value} {hdct : Bool} {sn : List Str} {sub : List Value} {ab : Bool} {col : Option Bool} {dd : Option Addr} {k0 k1 k2 k3 k5 : Option Value} {B ini N nw : String}
/-- the bound __init__ of the base, called -/
theorem callBound (T : BaseF B ini N nw bmB) {u e t0 : Addr} {dx : Option Addr} {rest : List Value} {Q : Value → Shared → Prop}
    (hC : h.get? C = some (clO nm q C NS bs bm hdct sn sub ab col dd k0 k1 k2 k3 k5 nw)) (he : h.get? e = some (exOb C t0 dx)) (hu : h.get? u = some (kxs_mw ini e)) (hz : rest.length ≤ sizeLine)
    (hq : ∀ h' t1, (∀ b o, b ≠ e → h.get? b = some o → h'.get? b = some o) → h'.get? e = some (exOb C t1 dx) → Q .none ⟨h', g, d, t, os⟩) :
    wpAny (model prog w) A (call (.ref u) rest) Q E ⟨h, g, d, t, os⟩ := by
  refine wpAny_call (codeAny_of_tree ?_)
  show wpAny _ A.in1 (callAny (.ref u) ⟨rest, []⟩) _ _ _
  simp only [callAny]
  refine wpAny_bind (wpAny_load hu ?_)
  have z1 : (Value.type "method-wrapper" == Value.type "method" || Value.type "method-wrapper" == Value.type "builtin_function_or_method" || Value.type "method-wrapper" == Value.type "method-wrapper") = true := by decide
  simp only [kxs_mw, z1, if_true]
  refine KFB.if_so (by decide) ?_
  refine wpAny_bind (chkBound T hC he rfl ?_)
  refine wpAny_bind (wpAny_pure (wpAny_pure ?_))
  refine ⟨plainId_quiet T.plain _, codeAny_builtin T.entry ?_⟩
  exact exc_init_tree (cls := .ref C) (t0 := t0) (dv := dx) (c2 := .none) (c3 := .none) (b4 := .bool false) he hz fun h' k1 k2 _ => hq h' _ k1 k2
end
end Xr
set_option maxHeartbeats 4000000
namespace Xr
open PySem PySem.W PySem.Calls PyProof.Rows PySem.Spec
abbrev supCall (p0 p1 p2 p4 : Pos) (es : List Expr) : Expr := .Call (.Attribute (.Call (.Name "super" p0) [] [] p1) "__init__" p2) es [] p4
abbrev selfSt (f : Str) (p6 p7 p8 p9 : Pos) : Stmt := .Assign [.Attribute (.Name "self" p6) f p7] (.Name f p8) p9
/-- how super().__init__(es) is evaluated -/
def SupEv (p0 p1 p2 p4 : Pos) (es : List Expr) : Prop := ∀ env : Env, ∃ pl : Sem Bool, eval (supCall p0 p1 p2 p4 es) env = (do
  let ov ← attributeBase (.Call (.Name "super" p0) [] [] p1) "__init__" env (eval (.Call (.Name "super" p0) [] [] p1) env)
  standAt p2.atName
  let (f, first) ← holding [ov] (getMethod ov "__init__" pl)
  callWith p4 f first (backTo p4 (starEach es env)) [])
/-- the text of an error's __init__ -/
def InitBody (body : List Stmt) (fs : List Str) : Prop :=
  (∃ f p0 p1 p2 p3 p4 p5 p6 p7 p8 p9, fs = [f] ∧ SupEv p0 p1 p2 p4 [.Name f p3] ∧ body = [.Expr (supCall p0 p1 p2 p4 [.Name f p3]) p5, selfSt f p6 p7 p8 p9]) ∨
  ∃ f k p0 p1 p2 p3 p4 p5 p6 p7 p8 p9 q3 q6 q7 q8 q9, fs = [f, k] ∧ SupEv p0 p1 p2 p4 [.Name f p3, .Name k q3] ∧ body = [.Expr (supCall p0 p1 p2 p4 [.Name f p3, .Name k q3]) p5, selfSt f p6 p7 p8 p9, selfSt k q6 q7 q8 q9]
structure InitT (args : Arguments) (body : List Stmt) (sc : Scope) (fs : List Str) : Prop where
  body : InitBody body fs
  kind : sc.kind = .function
  co : sc.isCoroutine = false
  gen : sc.isGenerator = false
  cell : ∀ x ∈ sc.names, x.2 ≠ .cell
  sup : sc.names.lookup ("super" : Str) = some .globalImplicit
  cls : sc.names.lookup ("__class__" : Str) = some .free
  loc : ∀ f ∈ ("self" : Str) :: fs, sc.names.lookup f = some .local
  par : ∃ ar, (args.posonlyargs ++ args.args).head? = some ar ∧ ar.arg = "self"
  nd : (("self" : Str) :: fs).Nodup
  nde : ∀ f ∈ ("self" : Str) :: fs, (f == ("__debug__" : Str)) = false
structure ErrC (P : Program) (K : Frag) (C fI : Addr) (fd : FuncData) (fs : List Str) : Prop where
  ex : ∃ B ini N nw bmB, BaseF B ini N nw bmB ∧ excInitIn K C bmB nw = true ∧ ks_superIn K C C "__init__" = some (some (.builtin ini)) ∧ subIn K (.ref C) (.type B) = some true
  dct : (clsIn K C).map (·.hasDict) = some true
  sa : findIn K (.ref C) "__setattr__" = some (some (.builtin "object.__setattr__"))
  iC : findIn K (.ref C) "__init__" = some (some (.ref fI))
  tI : typeIn K (.ref fI) = some (.type "function")
  fn : ∃ q params body scope kV doc pm an cda ct cc oc od osl, fd = ksFn "__init__" q params body scope .none kV doc pm an (.ref cda) ct cc ∧ K.lookup fI = some ⟨oc, od, .func fd, osl⟩ ∧ InitT params body scope fs ∧ codeIn K (.ref cda) q = true ∧
    (∃ cl cld csl, K.lookup cc = some ⟨cl, cld, .cell (some (.ref C)), csl⟩) ∧ ∃ ccl cdd vs ccs tf, K.lookup cda = some ⟨ccl, cdd, .fields vs, ccs⟩ ∧ vs[2]? = some (.str P.main.file tf)
  opq : nsIn K cStatics "thirdparty.any" = some none
  sup : nsIn K mainGlobals "super" = some none
  top : (P.main.scope.names.lookup ("super" : Str)).isSome = false
  no : ∀ f ∈ fs, findIn K (.ref C) f = some none
  exc : subIn K (.ref C) (.type "BaseException") = some true
  typ : typeIn K (.ref C) = some (.type "type")
  keep : keepIn K (.ref C) = true

section
variable {prog : Program} {w : World} {A : Around} {E : Value → Shared → Prop} {K : Frag} {mg : Str → Option Value} {base : Heap} {C fI cda cc : Addr}
theorem bootSuper : bootBuiltins "super" = some (.type "super") := by decide +kernel
/-- super().__init__ in an error's __init__: the receiver's way -/
theorem supBase {s : Shared} {body body' : List Stmt} {name q q' : Str} {args : Arguments} {sc : Scope} {L e t0 : Addr} {m : Str → Option Value} {oc ccl cl kV doc pm ct : Value} {an od cdd cld : Option Addr} {osl ccs csl : Array (Option Value)} {vs : Array Value} {tf : Tok} {p0 p1 : Pos} {whole : Sem Value} {Q : Value → Shared → Prop} {dx : Option Addr}
    {fs : List Str} (T : InitT args body' sc fs) (M : L2.Mod K mg base) (st : ∀ b o, base.get? b = some o → s.heap.get? b = some o) (hns : s.heap.Ns L m) (hm : m "self" = some (.ref e)) (he : s.heap.get? e = some (exOb C t0 dx))
    (hf : K.lookup fI = some ⟨oc, od, .func (ksFn name q args body' sc .none kV doc pm an (.ref cda) ct cc), osl⟩) (hc : K.lookup cda = some ⟨ccl, cdd, .fields vs, ccs⟩) (hv : vs[2]? = some (.str prog.main.file tf))
    (hcell : K.lookup cc = some ⟨cl, cld, .cell (some (.ref C)), csl⟩) {cd : ClassData} (hC : clsIn K C = some cd) (hsub : subIn K (.ref C) (.ref C) = some true) (hsup : nsIn K mainGlobals "super" = some none) (htop : (prog.main.scope.names.lookup ("super" : Str)).isSome = false)
    (h : ∀ h', h'.get? s.heap.objs.size = some (ks_superObj C e C) → (∀ b o, s.heap.get? b = some o → h'.get? b = some o) → Q (.ref s.heap.objs.size) { s with heap := h' }) :
    PySem.wpAt (model prog w) A (.func body (ksEnv q' sc L fI (.ref cda) cc)) (attributeBase (.Call (.Name "super" p0) [] [] p1) "__init__" (ksEnv q' sc L fI (.ref cda) cc) whole) Q E s := by
  have X : K.In s.heap := M.kin.keeps st
  obtain ⟨ar, ha, hn⟩ := T.par
  obtain ⟨hh, g, d, t, os⟩ := s
  obtain ⟨oD, hD1, hD2⟩ : ∃ oD, hh.get? C = some oD ∧ oD.data = .cls cd := by
    unfold clsIn at hC
    split at hC
    · rename_i c d cd' sl ho
      cases hC
      exact ⟨_, X _ _ ho, rfl⟩
    · cases hC
  obtain ⟨mb, hb, hbv⟩ := M.blt
  refine ks_wpAt_super_base (env := ksEnv q' sc L fI (.ref cda) cc) T.sup T.cls (by decide) rfl (X _ _ hf) rfl ha rfl (X _ _ hc) rfl hv (by simp) htop ?_
  refine ks_loadName_global T.kind T.sup (loadGlobal_builtin (env := ksEnv q' sc L fI (.ref cda) cc) (M.glob.keeps st) (mg_none_of M.kin M.glob hsup) (hb.keeps st) ((hbv _ (by decide +kernel)).trans bootSuper) ⟨rfl, ?_⟩)
  refine wpAny_loadName_free T.kind T.cls rfl ⟨_, X _ _ hcell, rfl⟩ ?_
  refine wpAny_loadName_local T.kind (by rw [hn]; exact T.loc _ (List.mem_cons_self ..)) hns (by rw [hn]; exact hm) ?_
  refine ks_wpAny_isType_cls hD1 hD2 ⟨rfl, ?_⟩
  exact ks_wpAny_call_super hD1 hD2 he rfl (fun c z => by cases z) (looks_subIn X hsub) fun h' z k => h h' z k
/-- the run of super().__init__(us) behind its receiver -/
theorem supCallRun {s : Shared} {nm q : Str} {NS e so t0 : Addr} {bs bm bmB : List Value} {hdct : Bool} {sn : List Str} {sub : List Value} {ab : Bool} {col : Option Bool} {dd : Option Addr} {k0 k1 k2 k3 k5 : Option Value} {B ini N nw : String}
    {env : Env} {pos : Pos} {e1 : Expr} {es : List Expr} {us : List Value} {pl : Sem Bool} {Q : Value → Shared → Prop} (T : BaseF B ini N nw bmB) (X : K.In s.heap) (hs : s.heap.get? so = some (ks_superObj C e C)) (he : s.heap.get? e = some (exOb C t0 none))
    (hC : s.heap.get? C = some (clO nm q C NS bs bm hdct sn sub ab col dd k0 k1 k2 k3 k5 nw)) (hne : e ≠ C) (hsup : ks_superIn K C C "__init__" = some (some (.builtin ini))) (hB : subIn K (.ref C) (.type B) = some true) (hop : nsIn K cStatics "thirdparty.any" = some none)
    (hz : us.length ≤ sizeLine)
    (hev : ∀ (h' : Heap) (tk : Nat) (Q' : List Value → Shared → Prop), (∀ b o, s.heap.get? b = some o → h'.get? b = some o) → (∀ tk', Q' us { s with heap := h', toks := tk' }) → wpAny (model prog w) A (spliced (backTo pos (starEach (e1 :: es) env))) Q' E { s with heap := h', toks := tk })
    (hq : ∀ h' t1 tk, (∀ b o, b ≠ e → s.heap.get? b = some o → h'.get? b = some o) → h'.get? e = some (exOb C t1 none) → Q .none { s with heap := h', toks := tk })
    (hst : starEach (e1 :: es) env = (false, eval e1 env) :: starEach es env := by rfl) (hpl : (backTo pos (starEach es env)).any (·.1) = false := by rfl) :
    wpAny (model prog w) A (getMethod (.ref so) "__init__" pl) (fun fx s2 => wpAny (model prog w) A (callWith pos fx.1 fx.2 (backTo pos (starEach (e1 :: es) env)) []) Q E s2) E s := by
  have hI : Looks (model prog w) s.heap (isInstance (.ref e) (.type B)) true := (show InstAt s.heap e (exOb C t0 none) C none from ⟨he, rfl, rfl, trivial⟩).type.andThen (looks_subIn X hB)
  obtain ⟨hh, g, d, t, os⟩ := s
  cases hc : clsIn K C with
  | none =>
    unfold ks_superIn at hsup
    rw [hc] at hsup
    cases hsup
  | some cd =>
    unfold ks_superIn at hsup
    rw [hc] at hsup
    refine kxs_getMethod T.k hs (looks_opaque X hop) (l₀ := cd.mro) (fun A Q E s k z => wpAny_bind ((looks_clsIn X hc) A _ E s k (wpAny_pure z))) rfl X hsup hI hne (by decide) ?_
    have k1 : ∀ b o, hh.get? b = some o → (hh.push (kxs_mw ini e)).get? b = some o := fun b o z => Heap.get?_push_of_some _ z
    have ku : (hh.push (kxs_mw ini e)).get? hh.objs.size = some (kxs_mw ini e) := Heap.get?_push_at rfl rfl
    rw [hst]
    refine kxs_callWith (i := ini) (x := e) (by show (false || (backTo pos (starEach es env)).any (·.1)) = false; rw [hpl]; rfl) ?_
    refine evalArgs_plain ?_
    have hev' := hev (hh.push (kxs_mw ini e)) (t + 1)
    rw [hst] at hev'
    refine hev' _ k1 fun tk' => ⟨ku, ?_⟩
    refine callBound T (k1 _ _ hC) (k1 _ _ he) ku hz fun h' t1 k2 z => ?_
    exact hq h' t1 tk' (fun b o hb ho => k2 b o hb (k1 b o ho)) z
end
end Xr
set_option maxHeartbeats 4000000
namespace Xr
open PySem PySem.W PySem.Calls PyProof.Rows PySem.Spec
section
variable {prog : Program} {w : World} {A : Around} {E : Value → Shared → Prop} {K : Frag} {mg : Str → Option Value} {base : Heap} {C fI cda cc : Addr}
theorem ldN {s : Shared} {q : Str} {sc : Scope} {L : Addr} {cd : Value} {x : Str} {p : Pos} {m : Str → Option Value} {v : Value} {Q : Value → Shared → Prop} (hk : sc.kind = .function) (hl : sc.names.lookup x = some .local)
    (hn : s.heap.Ns L m) (hv : m x = some v) (hd : (x == ("__debug__" : Str)) = false) (h : Q v s) : wpAny (model prog w) A (eval (.Name x p) (ksEnv q sc L fI cd cc)) Q E s :=
  wpAny_Name (wpAny_loadName_local hk hl hn hv h) hd
/-- an error whose fields are being stored -/
structure Got (base : Heap) (s0 : Heap) (C L e : Addr) (m : Str → Option Value) (h : Heap) : Prop where
  keep : ∀ b o, b ≠ e → s0.get? b = some o → h.get? b = some o
  ns : h.Ns L m
  big : s0.objs.size ≤ h.objs.size
theorem clsOf {C : Addr} {bmB : List Value} {nw : String} (h : excInitIn K C bmB nw = true) (d : (clsIn K C).map (·.hasDict) = some true) : ∃ cd, clsIn K C = some cd ∧ excTail bmB cd.mro = true ∧ cd.hasDict = true := by
  unfold excInitIn at h
  unfold clsIn at d ⊢
  split at h
  · rename_i dd cd sl ho
    split at h
    · rename_i C' bm k0 k1 k2 k3 n k5 hm hs
      simp only [Bool.and_eq_true, beq_iff_eq, Bool.not_eq_true'] at h
      rw [ho] at d ⊢
      refine ⟨cd, rfl, ?_, Option.some.inj d⟩
      rw [hm]
      exact h.2
    · cases h
  · cases h
theorem setFirst {s : Shared} {fd : FuncData} {fs : List Str} {e t0 : Addr} {f : Str} {v : Value} {Q : Unit → Shared → Prop} (T : ErrC prog K C fI fd fs) (X : K.In s.heap) (he : s.heap.get? e = some (exOb C t0 none)) (hf : f ∈ fs)
    (h : ∀ h' tk dx, (∀ b o, b ≠ e → s.heap.get? b = some o → h'.get? b = some o) → s.heap.objs.size ≤ dx → dx ≠ e → h'.get? e = some (exOb C t0 (some dx)) → h'.Ns1 dx (fun y => if y = f then some v else none) → Q () { s with heap := h', toks := tk }) :
    wpAny (model prog w) A (setAttr (.ref e) f v) Q E s := by
  obtain ⟨B, ini, N, nw, bmB, b, hi, hsu, hsb⟩ := T.ex
  obtain ⟨cd, hcd, hm, hh⟩ := clsOf hi T.dct
  obtain ⟨hp, g, d, t, os⟩ := s
  refine set_plain X (ox := exOb C t0 none) (od := none) ⟨he, rfl, rfl, trivial⟩ T.sa ?_
  exact saNew X he hcd hm b.obj b.pass hh (T.no f hf) fun h' tk dx k1 k2 k3 k4 k5 => h h' tk dx k1 k2 k3 k4 k5
theorem setNext {s : Shared} {fd : FuncData} {fs nl : List Str} {e t0 dx : Addr} {f : Str} {v : Value} {m0 : Str → Option Value} {Q : Unit → Shared → Prop} (T : ErrC prog K C fI fd fs) (X : K.In s.heap) (he : s.heap.get? e = some (exOb C t0 (some dx))) (hf : f ∈ fs)
    (hn : s.heap.Ns1 dx m0) (hw : Within m0 nl) (hz : nl.length ≤ 1000)
    (h : ∀ h' tk, (∀ b o, b ≠ dx → s.heap.get? b = some o → h'.get? b = some o) → h'.Ns1 dx (fun y => if y = f then some v else m0 y) → Q () { s with heap := h', toks := tk }) :
    wpAny (model prog w) A (setAttr (.ref e) f v) Q E s := by
  obtain ⟨B, ini, N, nw, bmB, b, hi, hsu, hsb⟩ := T.ex
  obtain ⟨cd, hcd, hm, hh⟩ := clsOf hi T.dct
  obtain ⟨oD, _, _, hoD, _, _⟩ := hn.count hw
  obtain ⟨hp, g, d, t, os⟩ := s
  refine set_plain X (ox := exOb C t0 (some dx)) (od := some oD) ⟨he, rfl, rfl, hoD⟩ T.sa ?_
  exact saOld X he hn hw hz hcd hm b.obj b.pass hh (T.no f hf) fun h' tk k1 k2 => h h' tk k1 k2
theorem kLt {s : Heap} {b c : Addr} {o : Obj} (h : s.get? b = some o) (hc : s.objs.size ≤ c) : b ≠ c := Nat.ne_of_lt (Nat.lt_of_lt_of_le (Heap.lt_size h) hc)
/-- an error's __init__ runs: its fields are told -/
theorem initRun {s : Shared} {R : Result → Shared → Prop} {fd : FuncData} {fs : List Str} {e t0 : Addr} {args : Args} {us : List Value} (T : ErrC prog K C fI fd fs) (M : L2.Mod K mg base) (st : ∀ b o, base.get? b = some o → s.heap.get? b = some o) (nb : base.get? e = none)
    (he : s.heap.get? e = some (exOb C t0 none)) (hroom : A.depth < recursionLimit) (hl : us.length = fs.length) (hb : BindsTo s fd args ((("self" : Str), Value.ref e) :: fs.zip us))
    (hR : ∀ h' tk dx t1 mA, (∀ b o, b ≠ e → s.heap.get? b = some o → h'.get? b = some o) → s.heap.objs.size ≤ dx → dx ≠ e → h'.get? e = some (exOb C t1 (some dx)) → h'.Ns1 dx mA → (∀ y, mA y = (fs.zip us).lookup y) → R (.ok (.ret .none)) { s with heap := h', toks := tk }) :
    codeAny (model prog w) A (.call (.ref fI) args) R s := by
  obtain ⟨q, params, body, scope, kV, doc, pm, an, cda, ct, cc, oc, od, osl, rfl, lk, I, hcode, ⟨cl, cld, csl, hcell⟩, ccl, cdd, vs, ccs, tf, hcda, hvs⟩ := T.fn
  obtain ⟨B, ini, N, nw, bmB, b, hi, hsu, hsb⟩ := T.ex
  obtain ⟨cd, hcd, hm, hh⟩ := clsOf hi T.dct
  have hsub : subIn K (.ref C) (.ref C) = some true := by
    unfold subIn
    show mroIn K C (.ref C) = some true
    unfold mroIn
    rw [hcd, Option.bind_some]
    unfold excInitIn at hi
    unfold clsIn at hcd
    split at hi
    · rename_i dd cd2 sl ho
      rw [ho] at hcd
      cases hcd
      split at hi
      · rename_i C' bm k0 k1 k2 k3 n k5 hm2 hs2
        simp only [Bool.and_eq_true, beq_iff_eq] at hi
        rw [hm2, hi.1.1.1]
        simp
      · cases hi
    · cases hi
  have X0 : K.In s.heap := M.kin.keeps st
  have neC : e ≠ C := fun z => by
    have z1 := he
    rw [z] at z1
    obtain ⟨oc2, hoc2⟩ : ∃ o, K.lookup C = some o := by
      unfold clsIn at hcd
      split at hcd
      · rename_i c d cd' sl ho
        exact ⟨_, ho⟩
      · cases hcd
    have z2 := M.kin _ _ hoc2
    rw [← z, nb] at z2
    cases z2
  have hloc : ∀ y ∈ (("self" : Str), Value.ref e) :: fs.zip us, scope.names.lookup y.1 = some .local := fun y hy => by
    rcases List.mem_cons.mp hy with rfl | hy
    · exact I.loc _ (List.mem_cons_self ..)
    · exact I.loc _ (List.mem_cons_of_mem _ (List.of_mem_zip (show (y.1, y.2) ∈ fs.zip us from hy)).1)
  refine ks_codeAny_call_defAt (fd := ksFn "__init__" q params body scope .none kV doc pm an (.ref cda) ct cc) (body := body) (binds := (("self" : Str), Value.ref e) :: fs.zip us)
    hroom (X0 _ _ lk) rfl (M.nolimit.keeps st) (codeRec_of X0 hcode) rfl hb I.cell hloc (fun h0 hns k0 => ?_) I.co I.gen I.kind
  show PySem.wpAt _ _ (.func body (ksEnv q scope s.heap.objs.size fI (.ref cda) cc)) (execs body (ksEnv q scope s.heap.objs.size fI (.ref cda) cc)) _ _ _
  have Ll : ∀ {b : Addr} {o : Obj}, s.heap.get? b = some o → b ≠ s.heap.objs.size := fun z => kLt z (Nat.le_refl _)
  have eL : s.heap.objs.size ≠ e := (Ll he).symm
  have big0 : s.heap.objs.size ≤ h0.objs.size := Nat.le_of_lt hns.lt
  have hself : ∀ (l : List (Str × Value)), (∀ y ∈ l, y.1 ≠ ("self" : Str)) → (((("self" : Str), Value.ref e) :: l).reverse.lookup ("self" : Str)) = some (Value.ref e) := fun l hl => by
    rw [List.reverse_cons, List.lookup_append]
    have z : l.reverse.lookup ("self" : Str) = none := by
      rw [List.lookup_eq_none_iff]
      intro y hy
      have := hl y (List.mem_reverse.mp hy)
      simpa [beq_eq_false_iff_ne] using fun z => this z.symm
    rw [z]
    simp [List.lookup]
  have base0 : ∀ (h : Heap), (∀ b o, b ≠ e → h0.get? b = some o → h.get? b = some o) → ∀ b o, base.get? b = some o → h.get? b = some o := fun h k b o z =>
    k b o (fun y => by rw [y, nb] at z; cases z) (k0 b o (st b o z))
  rcases I.body with ⟨f, p0, p1, p2, p3, p4, p5, p6, p7, p8, p9, rfl, ev, rfl⟩ | ⟨f, k, p0, p1, p2, p3, p4, p5, p6, p7, p8, p9, q3, q6, q7, q8, q9, rfl, ev, rfl⟩
  · obtain ⟨u, rfl⟩ : ∃ u, us = [u] := match us, hl with | [u], _ => ⟨u, rfl⟩
    have nsf : f ≠ ("self" : Str) := fun z => (List.nodup_cons.mp I.nd).1 (by rw [z]; exact List.mem_cons_self ..)
    have m1 : ((("self" : Str), Value.ref e) :: List.zip [f] [u]).reverse.lookup ("self" : Str) = some (Value.ref e) := hself _ fun y hy => by
      rcases List.mem_cons.mp hy with rfl | hy
      · exact nsf
      · cases hy
    have m2 : ((("self" : Str), Value.ref e) :: List.zip [f] [u]).reverse.lookup f = some u := by simp [List.lookup]
    have lf := I.loc f (List.mem_cons_of_mem _ (List.mem_cons_self ..))
    have ls := I.loc _ (List.mem_cons_self (a := ("self" : Str)) (l := [f]))
    have df := I.nde f (List.mem_cons_of_mem _ (List.mem_cons_self ..))
    have ds := I.nde _ (List.mem_cons_self (a := ("self" : Str)) (l := [f]))
    have hint : interactive (ksEnv q scope s.heap.objs.size fI (.ref cda) cc) = false := by
      unfold interactive
      simp [I.kind]
    obtain ⟨pl, hpl⟩ := ev (ksEnv q scope s.heap.objs.size fI (.ref cda) cc)
    refine ks_wpAt_execs_cons (ks_wpAt_Expr_any (hi := hint) (ks_wpAt_MethodCall (he := hpl) (supBase I M (base0 h0 fun b o _ z => z) hns m1 (k0 _ _ he) lk hcda hvs hcell hcd hsub T.sup T.top (fun h1 hs1 k1 => ?_))))
    have X1 : K.In h1 := M.kin.keeps (base0 h1 fun b o _ z => k1 b o z)
    obtain ⟨nm, NS, qn, bs, bm, hdct, sn, sub, ab, col, dd, c0, c1, c2, c3, c5, hC, hT⟩ := excInit_of X1 hi
    refine supCallRun (us := [u]) b X1 hs1 (k1 _ _ (k0 _ _ he)) hC neC hsu hsb T.opq (by show 1 ≤ sizeLine; decide) (fun h2 tk Q' k2 z => ?_) (fun h2 t1 tk k2 z => ?_)
    · exact spliced_more (ldN I.kind lf (hns.at fun o y => k2 _ _ (k1 _ _ y)) m2 df (spliced_none (z _)))
    have kk : ∀ b o, b ≠ e → h0.get? b = some o → h2.get? b = some o := fun b o hb y => k2 b o hb (k1 b o y)
    refine PySem.wpAt_of_wpAny (wpAny_execs_cons (plainObj_wpAny_Assign_Attribute (ldN I.kind lf (hns.at fun o y => kk _ _ eL y) m2 df (ldN I.kind ls (hns.at fun o y => kk _ _ eL y) m1 ds ?_)) (by rfl)))
    refine setFirst T (M.kin.keeps (base0 h2 kk)) z (List.mem_cons_self ..) fun h3 tk3 dx k3 g1 g2 g3 g4 => ?_
    refine wpAny_execs_nil ?_
    have bz : s.heap.objs.size ≤ h2.objs.size := Nat.le_of_lt ((hns.at fun o y => kk _ _ eL y).lt)
    refine hR h3 _ dx t1 _ (fun b o hb y => k3 b o hb (kk b o hb (k0 b o y))) (Nat.le_trans bz g1) g2 g3 g4 fun y => ?_
    by_cases hy : y = f
    · rw [if_pos hy, hy]
      simp [List.lookup]
    · rw [if_neg hy]
      have z2 : (y == f) = false := beq_eq_false_iff_ne.mpr hy
      simp [List.lookup, z2]
  · obtain ⟨u, v, rfl⟩ : ∃ u v, us = [u, v] := match us, hl with | [u, v], _ => ⟨u, v, rfl⟩
    have nd := I.nd
    simp only [List.nodup_cons, List.mem_cons, not_or, List.not_mem_nil, not_false_eq_true, and_true] at nd
    obtain ⟨⟨ns1, ns2⟩, n12, _⟩ := nd
    have m1 : ((("self" : Str), Value.ref e) :: List.zip [f, k] [u, v]).reverse.lookup ("self" : Str) = some (Value.ref e) := hself _ fun y hy => by
      rcases List.mem_cons.mp hy with rfl | hy
      · exact fun z => ns1 z.symm
      · rcases List.mem_cons.mp hy with rfl | hy
        · exact fun z => ns2 z.symm
        · cases hy
    have fk : (f == k) = false := beq_eq_false_iff_ne.mpr n12
    have m2 : ((("self" : Str), Value.ref e) :: List.zip [f, k] [u, v]).reverse.lookup f = some u := by simp [List.lookup, fk]
    have m3 : ((("self" : Str), Value.ref e) :: List.zip [f, k] [u, v]).reverse.lookup k = some v := by simp [List.lookup]
    have hfm : f ∈ [f, k] := List.mem_cons_self ..
    have hkm : k ∈ [f, k] := List.mem_cons_of_mem _ (List.mem_cons_self ..)
    have lf := I.loc f (List.mem_cons_of_mem _ hfm)
    have lk2 := I.loc k (List.mem_cons_of_mem _ hkm)
    have ls := I.loc _ (List.mem_cons_self (a := ("self" : Str)) (l := [f, k]))
    have df := I.nde f (List.mem_cons_of_mem _ hfm)
    have dk := I.nde k (List.mem_cons_of_mem _ hkm)
    have ds := I.nde _ (List.mem_cons_self (a := ("self" : Str)) (l := [f, k]))
    have hint : interactive (ksEnv q scope s.heap.objs.size fI (.ref cda) cc) = false := by
      unfold interactive
      simp [I.kind]
    obtain ⟨pl, hpl⟩ := ev (ksEnv q scope s.heap.objs.size fI (.ref cda) cc)
    refine ks_wpAt_execs_cons (ks_wpAt_Expr_any (hi := hint) (ks_wpAt_MethodCall (he := hpl) (supBase I M (base0 h0 fun b o _ z => z) hns m1 (k0 _ _ he) lk hcda hvs hcell hcd hsub T.sup T.top (fun h1 hs1 k1 => ?_))))
    have X1 : K.In h1 := M.kin.keeps (base0 h1 fun b o _ z => k1 b o z)
    obtain ⟨nm, NS, qn, bs, bm, hdct, sn, sub, ab, col, dd, c0, c1, c2, c3, c5, hC, hT⟩ := excInit_of X1 hi
    refine supCallRun (us := [u, v]) b X1 hs1 (k1 _ _ (k0 _ _ he)) hC neC hsu hsb T.opq (by show 2 ≤ sizeLine; decide) (fun h2 tk Q' k2 z => ?_) (fun h2 t1 tk k2 z => ?_)
    · have n2 := hns.at (h' := h2) fun o y => k2 _ _ (k1 _ _ y)
      exact spliced_more (ldN I.kind lf n2 m2 df (spliced_more (ldN I.kind lk2 n2 m3 dk (spliced_none (z _)))))
    have kk : ∀ b o, b ≠ e → h0.get? b = some o → h2.get? b = some o := fun b o hb y => k2 b o hb (k1 b o y)
    have n2 := hns.at (h' := h2) fun o y => kk _ _ eL y
    refine PySem.wpAt_of_wpAny (wpAny_execs_cons (plainObj_wpAny_Assign_Attribute (ldN I.kind lf n2 m2 df (ldN I.kind ls n2 m1 ds ?_)) (by rfl)))
    refine setFirst T (M.kin.keeps (base0 h2 kk)) z hfm fun h3 tk3 dx k3 g1 g2 g3 g4 => ?_
    have bz : s.heap.objs.size ≤ h2.objs.size := Nat.le_of_lt n2.lt
    have kk3 : ∀ b o, b ≠ e → h0.get? b = some o → h3.get? b = some o := fun b o hb y => k3 b o hb (kk b o hb y)
    have n3 := hns.at (h' := h3) fun o y => kk3 _ _ eL y
    refine wpAny_execs_cons (plainObj_wpAny_Assign_Attribute (ldN I.kind lk2 n3 m3 dk (ldN I.kind ls n3 m1 ds ?_)) (by rfl))
    refine setNext (nl := [f]) T (M.kin.keeps (base0 h3 kk3)) g3 hkm g4 (fun y hy => ?_) (by show 1 ≤ 1000; decide) fun h4 tk4 k4 g5 => ?_
    · by_cases hyf : y = f
      · rw [hyf]
        exact List.mem_cons_self ..
      · rw [if_neg hyf] at hy
        exact absurd rfl hy
    refine wpAny_execs_nil ?_
    have dxn : ∀ {b : Addr} {o : Obj}, s.heap.get? b = some o → b ≠ dx := fun y => kLt y (Nat.le_trans bz g1)
    refine hR h4 _ dx t1 _ (fun b o hb y => k4 b o (dxn y) (kk3 b o hb (k0 b o y))) (Nat.le_trans bz g1) g2 (k4 _ _ (fun z => g2 z.symm) g3) g5 fun y => ?_
    by_cases hy : y = k
    · rw [if_pos hy, hy]
      have kf : (k == f) = false := beq_eq_false_iff_ne.mpr fun z => n12 z.symm
      simp [List.lookup, kf]
    · rw [if_neg hy]
      have z2 : (y == k) = false := beq_eq_false_iff_ne.mpr hy
      by_cases hyf : y = f
      · rw [if_pos hyf, hyf]
        simp [List.lookup]
      · have z3 : (y == f) = false := beq_eq_false_iff_ne.mpr hyf
        rw [if_neg hyf]
        simp [List.lookup, z2, z3]
end
end Xr
set_option maxHeartbeats 4000000
namespace Xr
open PySem PySem.Spec PyProof.Rows L2
theorem relZip : ∀ (fs : List Str) {vs : List V} {us : List Value}, Vals vs us → ∀ f, RelO ((fs.zip vs).lookup f) ((fs.zip us).lookup f)
  | [], _, _, _, _ => trivial
  | g :: r, _, _, .nil, _ => trivial
  | g :: r, _, _, .cons h t, f => by
    show RelO ((match f == g with | true => _ | false => _) : Option V) ((match f == g with | true => _ | false => _) : Option Value)
    cases f == g with
    | true => exact h
    | false => exact relZip r t f
section
variable {X : Cx} {pins : List (Addr × Obj)} {σ : L2.St} {H : Hp} {s : Shared}
/-- two new objects, an error and its dict -/
theorem layErr (I : Inv X pins σ H s) {h' : Heap} {tk : Nat} {e d C t1 : Addr} {fs : List (Str × V)} {mA : Str → Option Value} (k : ∀ b o, s.heap.get? b = some o → h'.get? b = some o) (he : s.heap.objs.size ≤ e) (hd : s.heap.objs.size ≤ d) (ne : d ≠ e)
    (oe : h'.get? e = some (exOb C t1 (some d))) (od : h'.Ns1 d mA) (r : ∀ f, RelO (fs.lookup f) (mA f)) : Inv X pins σ (upd (upd H d (exd d fs)) e (exo e C (some d))) { s with heap := h', toks := tk } := by
  have hne : H e = none := I.hok.fresh he
  have hnd : H d = none := I.hok.fresh hd
  have b1 : ∀ {b : Addr} {o : Obj}, s.heap.get? b = some o → b ≠ e := fun z => kLt z he
  have b2 : ∀ {b : Addr} {o : Obj}, s.heap.get? b = some o → b ≠ d := fun z => kLt z hd
  have un : Un X.fs [] H (upd (upd H d (exd d fs)) e (exo e C (some d))) s.heap h' := {
    keep := fun b o q _ _ _ => k b o q
    slot := fun b o q _ _ _ => ⟨o.slots, k b o q⟩
    free := fun b o q n _ => by rw [upd_ne (b1 q), upd_ne (b2 q)]; exact n
    there := fun b o q _ => ⟨o, k b o q⟩
    tups := fun b xs q => by rw [upd_ne (ne_of_none q hne), upd_ne (ne_of_none q hnd)]; exact q
    frzs := fun b o v q => by rw [upd_ne (ne_of_none q hne), upd_ne (ne_of_none q hnd)]; exact q
    tbls := fun b ps q => ⟨#[], by rw [upd_ne (ne_of_none q hne), upd_ne (ne_of_none q hnd), q]; simp⟩ }
  refine I.un (t' := tk) un fun b o q => ?_
  by_cases hb : b = e
  · subst hb
    rw [upd_same] at q
    cases q
    exact exo_ok oe
  · rw [upd_ne hb] at q
    by_cases hd2 : b = d
    · subst hd2
      rw [upd_same] at q
      cases q
      exact exd_ok od r
    · rw [upd_ne hd2] at q
      exact (I.hok b o q).stay (fun c v _ z => k c v z)
        (fun c hc => by rw [upd_ne (ne_of_none hc hne), upd_ne (ne_of_none hc hnd)]; exact hc)
        fun c xs hc => by rw [upd_ne (ne_of_none hc hne), upd_ne (ne_of_none hc hnd)]; exact hc
/-- E(..) is made: a new error with its fields -/
theorem callErr {A : Around} {E : Value → Shared → Prop} {Q : Value → Shared → Prop} {C fI : Addr} {fd : FuncData} {fs : List Str} {us ws : List Value} {vs : List V} {kw : List (Str × Value)} (T : ErrC X.prog X.K C fI fd fs) (I : Inv X pins σ H s) (hr : Room 1 A)
    (hb : ∀ (s' : Shared) (self : Value), X.K.In s'.heap → BindsTo s' fd ⟨self :: us, kw⟩ ((("self" : Str), self) :: fs.zip ws)) (rel : Vals vs ws) (hl : vs.length = fs.length) (hz : us.length ≤ 1000)
    (h : ∀ e d s', H e = none → H d = none → d ≠ e → Inv X pins σ (upd (upd H d (exd d (fs.zip vs))) e (exo e C (some d))) s' → Q (.ref e) s') :
    wpAny (model X.prog X.w) A (call (.ref C) us kw) Q E s := by
  obtain ⟨B, ini, N, nw, bmB, b, hi, hsu, hsb⟩ := T.ex
  obtain ⟨i, bN, F⟩ := b.f
  have KX := I.kIn
  obtain ⟨nm, NS, qn, bs, bm, hdct, sn, sub, ab, col, dd, c0, c1, c2, c3, c5, hC, hT⟩ := PySem.W.excInit_of KX hi
  obtain ⟨hp, g, dr, tk, os⟩ := s
  have hz2 : us.length ≤ sizeLine := by rw [sizeLine_eq]; omega
  have kk : ∀ b o, hp.get? b = some o → ((hp.push (PySem.W.kdv_tup us)).push (exOb C hp.objs.size none)).get? b = some o := fun b o e => Heap.get?_push_of_some _ (Heap.get?_push_of_some _ e)
  have hget : ((hp.push (PySem.W.kdv_tup us)).push (exOb C hp.objs.size none)).get? (hp.objs.size + 1) = some (exOb C hp.objs.size none) := by heap_get
  have nbase : X.base.get? (hp.objs.size + 1) = none := by
    cases z : X.base.get? (hp.objs.size + 1) with
    | none => rfl
    | some o => exact absurd (Heap.lt_size (I.bk _ _ z)) (by show ¬ hp.objs.size + 1 < hp.objs.size; omega)
  refine wpAny_call (callOwn F (by rw [hT]; exact b.hN) (by rw [hT]; exact b.noA) (by rw [hT]; exact b.noE) hC (PySem.W.looks_findIn KX T.iC) (fun self => PySem.W.bind_fn KX self T.tI) hz2 ?_)
  refine initRun (base := X.base) T I.mod (fun b o z => kk b o (I.bk b o z)) nbase hget (hr.make C us kw).depth (by rw [← rel.length, hl]) (hb _ _ (I.mod.kin.keeps fun b o z => kk b o (I.bk b o z))) fun h' tk' dx t1 mA k1 g1 g2 g3 g4 g5 => ?_
  have z1 : hp.objs.size ≤ hp.objs.size + 1 := Nat.le_succ _
  have z2 : hp.objs.size ≤ dx := Nat.le_trans (by rw [Heap.size_push, Heap.size_push]; omega) g1
  have J := layErr (tk := tk') (fs := fs.zip vs) I (fun b o z => k1 b o (kLt z z1) (kk b o z)) z1 z2 g2 g3 g4 fun f => by rw [g5 f]; exact relZip fs rel f
  exact ⟨rfl, h _ dx _ (I.hok.fresh z1) (I.hok.fresh z2) g2 J⟩
end
end Xr
set_option maxHeartbeats 4000000
namespace Xr
open PySem PySem.Spec PyProof.Rows L2
/-- a new error and its dict -/
def putErr (H : Hp) (e d C : Addr) (fs : List (Str × V)) : Hp := upd (upd H d (exd d fs)) e (exo e C (some d))
def tErr (C : Addr) (fs : List Str) (t : TA) : TE := fun σ H Q => t σ H fun vs H1 => vs.length = fs.length ∧ ∀ e d, H1 e = none → H1 d = none → d ≠ e → Q (.ref e) (putErr H1 e d C (fs.zip vs))
def tErrK (C : Addr) (fs : List Str) (t : TA) : TE := fun σ H Q => t σ H fun vs H1 => vs.length = fs.length ∧ ∀ e d, H1 e = none → H1 d = none → d ≠ e → Q (.ref e) (putErr H1 e d C (fs.zip vs.reverse))
/-- how the fields come to the parameters, by place and by name (the names the other way round) -/
structure ErrB (fd : FuncData) (fs : List Str) : Prop where
  p : ∀ (s : Shared) (self : Value) (us : List Value), us.length = fs.length → BindsTo s fd ⟨self :: us, []⟩ ((("self" : Str), self) :: fs.zip us)
  k : ∀ (s : Shared) (self : Value) (us : List Value), us.length = fs.length → BindsTo s fd ⟨[self], fs.reverse.zip us⟩ ((("self" : Str), self) :: fs.zip us.reverse)
theorem vals_rev : ∀ {vs : List V} {us : List Value}, Vals vs us → Vals vs.reverse us.reverse
  | _, _, .nil => .nil
  | _, _, .cons h t => by
    rw [List.reverse_cons, List.reverse_cons]
    exact (vals_rev t).append (.cons h .nil)
section
variable {X : Cx} {C fI : Addr} {fd : FuncData} {fs : List Str} {x : Str} {p pos : Pos} {e : Expr} {es : List Expr} {t : TA} {kws : List Keyword}
theorem pe_err (T : ErrC X.prog X.K C fI fd fs) (b : ErrB fd fs) (h3 : fs.length ≤ 3) (hr : Room 1 X.A) (hg : Gl X x) (hm : X.mg x = some (.ref C)) (ha : PA X (e :: es) t)
    (hdb : (x == ("__debug__" : Str)) = false := by decide) (he : starEach (e :: es) X.env = (false, eval e X.env) :: starEach es X.env := by rfl) (hpl : (backTo pos (starEach es X.env)).any (·.1) = false := by rfl) :
    PE X (.Call (.Name x p) (e :: es) [] pos) (tErr C fs t) := by
  refine ⟨fun pins s σ H Q I h => ?_⟩
  refine wpAny_Call_Name_kw (ld_glob I hg hm ?_ hdb)
  refine PySem.W.callWith_K (h₀ := X.base) I.ok.mod.kin T.keep (thn (ha.run pos pins s σ H _ I h) fun us s1 ⟨vs, H1, I1, r1, hl, q1⟩ => ⟨I1.kIn, ?_⟩) he hpl
  have hlu : us.length = fs.length := by rw [← r1.length, hl]
  exact callErr T I1 hr (fun s' self _ => b.p s' self us hlu) r1 hl (by show us.length ≤ 1000; omega) fun e d s' h1 h2 h3 J => ⟨.ref e, _, J, rfl, q1 e d h1 h2 h3⟩
theorem pe_errK (T : ErrC X.prog X.K C fI fd fs) (b : ErrB fd fs) (hr : Room 1 X.A) (hg : Gl X x) (hm : X.mg x = some (.ref C)) (hkw : PK X kws t)
    (hall : (backToKw pos (keywordEach kws X.env)).all (·.1.isSome) = true := by rfl) (hks : (backToKw pos (keywordEach kws X.env)).filterMap (·.1) = fs.reverse := by rfl) (hdb : (x == ("__debug__" : Str)) = false := by decide)
    (hpl : ((backTo pos (starEach [] X.env)).any (·.1) || (backToKw pos (keywordEach kws X.env)).any (·.1.isNone)) = false := by rfl) :
    PE X (.Call (.Name x p) [] kws pos) (tErrK C fs t) := by
  refine ⟨fun pins s σ H Q I h => ?_⟩
  refine wpAny_Call_Name_kw (ld_glob I hg hm ?_ hdb)
  refine PySem.W.callWith_KW0 (h₀ := X.base) I.ok.mod.kin T.keep hall ?_ hpl
  refine thn (hkw.run pos pins s σ H _ I h) fun ws s2 ⟨zs, H2, I2, rz, hl, q2⟩ => ⟨I2.kIn, ?_⟩
  rw [hks]
  have hlu : ws.length = fs.length := by rw [← rz.length, hl]
  exact callErr (ws := ws.reverse) T I2 hr (fun s' self _ => b.k s' self ws hlu) (vals_rev rz) (by rw [List.length_reverse]; exact hl) (by show 0 ≤ 1000; decide) fun e d s' h1 h2 h3 J => ⟨.ref e, _, J, rfl, q2 e d h1 h2 h3⟩
/-- e.f of an error that is a value -/
def tXv (K : PySem.W.Frag) (f : Str) (te : TE) : TE := fun σ H Q => te σ H fun x H1 => ∃ (a C d : Addr) (fs : List (Str × V)) (v : V), x = .ref a ∧ H1 a = some (exo a C (some d)) ∧ H1 d = some (exd d fs) ∧ XfC K C ∧ PySem.W.findIn K (.ref C) f = some none ∧ fs.lookup f = some v ∧ Q v H1
theorem pe_xv {te : TE} {n : Str} (he : PE X e te) (hb : attributeBase e n X.env (eval e X.env) = eval e X.env := by rfl) : PE X (.Attribute e n pos) (tXv X.K n te) := by
  refine ⟨fun pins s σ H Q I h => ?_⟩
  refine attr_of hb (thn (he.run pins s σ H _ I h) fun u s1 hh => ?_)
  obtain ⟨x, H1, I1, rx, a, C, d, fs, v, rfl, ha, hd, T, hno, l, q⟩ := hh
  obtain rfl : u = Value.ref a := rx
  obtain ⟨t1, ho⟩ := exo_at I1.hok ha
  obtain ⟨mA, hns, hr⟩ := exd_at I1.hok hd
  obtain ⟨od, ho2, hl⟩ := lookIn_ns hns
  obtain ⟨u, hu, ru⟩ := RelO.some_of (v := v) (o := mA n) (by rw [← l]; exact hr n)
  have J : PySem.W.InstAt s1.heap a (exOb C t1 (some d)) C (some od) := ⟨ho, rfl, rfl, ho2⟩
  exact HandSPX.exc_get I1.kIn J T.ga T.gg T.exC (PySem.W.findObj_own T.hdC hno rfl (by rw [hl, hu])) (handed_of ru) ⟨v, H1, I1.tok _, ru, q⟩
/-- what isinstance asks of an error's class -/
structure XiC (K : PySem.W.Frag) (C : Addr) : Prop where
  cl : (PySem.W.clsIn K C).isSome = true
  ga : PySem.W.findIn K (.ref C) "__getattribute__" = some (some (.builtin "BaseException.__getattribute__"))
  gg : PySem.W.findIn K (.ref C) "__getattr__" = some none
  exC : PySem.W.subIn K (.ref C) (.type "BaseException") = some true
  ca : PySem.W.findIn K (.ref C) "__class__" = some (some (.builtin "object.__class__"))
  sg : PySem.W.specialIn K (.builtin "object.__class__") "__get__" = some (some (.builtin "getset_descriptor.__get__"))
  tk : PySem.W.takesIn K (.builtin "object.__class__") = some true
  ob : PySem.W.mroIn K C (.type "object") = some true
def rIsX (K : PySem.W.Frag) : List V → Hp → VK → Prop := fun xs H Q => ∃ (a C : Addr) (d : Addr) (fs : List (Str × V)) (c : V) (cv : Value) (b : Bool), xs = [.ref a, c] ∧ H a = some (exo a C (some d)) ∧ H d = some (exd d fs) ∧ XiC K C ∧ ClsV c cv ∧ PySem.W.kitOne K (.ref C) cv = some b ∧ Q (.bl b) H
theorem call_isX : CallR X (.builtin "isinstance") (rIsX X.K) := by
  intro pins s σ H xs us Q I r h
  obtain ⟨a, C, d, fs, c, cv, b, rfl, ha, hd, T, k, e, q⟩ := h
  obtain ⟨u1, u2, rfl, r1, r2⟩ := vals2 r
  have e2 := k.eq r2
  subst e2
  cases r1
  obtain ⟨t1, ho⟩ := exo_at I.hok ha
  obtain ⟨mA, hns, hr⟩ := exd_at I.hok hd
  obtain ⟨od, ho2, hl⟩ := lookIn_ns hns
  have J : PySem.W.InstAt s.heap a (exOb C t1 (some d)) C (some od) := ⟨ho, rfl, rfl, ho2⟩
  exact PySem.W.kia_one (PySem.W.kitx_exc T.cl T.ga T.gg T.exC T.ca T.sg T.tk T.ob) I.kIn J e (fun z => nomatch z) fun tk => ⟨.bl b, H, I.tok tk, rfl, q⟩
end
end Xr
set_option maxHeartbeats 4000000
namespace Xr
open PySem PySem.Spec PyProof.Rows L2
/-- sys.modules is written: no list or tuple of ours stands there -/
def KSys (K : PySem.W.Frag) : Prop := ∃ o, K.lookup sysModules = some o ∧ o.cls = .type "dict"
def keyD : Key → PyData
  | .inl i => .int i
  | .inr x => .str x
mutual
/-- a value is data: numbers, texts, lists, tuples, dicts by numbers and texts -/
inductive Dq (K : PySem.W.Frag) (H : Hp) : V → PyData → Prop
  | non : Dq K H .non .none
  | bl (b : Bool) : Dq K H (.bl b) (.bool b)
  | int (i : Int) : Dq K H (.int i) (.int i)
  | str (x : Str) : Dq K H (.str x) (.str x)
  | lst {a : Addr} {xs : List V} {ds : List PyData} : SqL K H a xs → DqAll K H xs ds → Dq K H (.ref a) (.list ds)
  | tup {a : Addr} {xs : List V} {ds : List PyData} : SqT K H a xs → DqAll K H xs ds → Dq K H (.ref a) (.tuple ds)
  | dic {a : Addr} {kvs : List (Key × V)} {ds : List PyData} : H a = some (.dK kvs) → DqAll K H (kvs.map (·.2)) ds → Dq K H (.ref a) (.dict ((kvs.map fun q => keyD q.1).zip ds))
inductive DqAll (K : PySem.W.Frag) (H : Hp) : List V → List PyData → Prop
  | nil : DqAll K H [] []
  | cons {v : V} {vs : List V} {d : PyData} {ds : List PyData} : Dq K H v d → DqAll K H vs ds → DqAll K H (v :: vs) (d :: ds)
end
theorem DqAll.len {K : PySem.W.Frag} {H : Hp} : ∀ {vs : List V} {ds : List PyData}, DqAll K H vs ds → vs.length = ds.length
  | _, _, .nil => rfl
  | _, _, .cons _ t => congrArg Nat.succ (DqAll.len t)
section
variable {X : Cx} {pins : List (Addr × Obj)} {σ : L2.St} {H : Hp} {s : Shared}
theorem not_sys {h : Heap} {K : PySem.W.Frag} (X : K.In h) (S : KSys K) {a : Addr} {o : Obj} (ho : h.get? a = some o) (hc : o.cls ≠ .type "dict") : sysModules ≠ a := fun z => by
  obtain ⟨u, hu, hd⟩ := S
  have := X _ _ hu
  rw [z, ho] at this
  cases this
  exact hc hd
theorem readsKeys : ∀ {es : List DictEntry} {vs : List (Key × Value)} (h : Heap) {P : Program} {w : World}, Pairs (mixKind P w) es vs → ReadsAll h (es.map (·.key)) (vs.map fun q => keyD q.1) []
  | _, _, _, _, _, .nil => .nil
  | _, _, h, P, w, @Pairs.cons _ _ _ _ _ e kv es kvs hk hv t => by
    have r : Reads h e.key (keyD kv.1) [] := by
      rcases keyIs_shape hk with ⟨i, tk, e1, e2⟩ | ⟨x, tk, e1, e2⟩
      · rw [e1, e2]
        exact Reads.int i tk
      · rw [e1, e2]
        exact Reads.str x tk
    exact ReadsAll.cons r (readsKeys h t)
theorem pairs_vals : ∀ {es : List DictEntry} {vs : List (Key × Value)} {P : Program} {w : World}, Pairs (mixKind P w) es vs → es.map (·.val) = vs.map (·.2)
  | _, _, _, _, .nil => rfl
  | _, _, _, _, .cons _ hv t => by rw [List.map_cons, List.map_cons, hv, pairs_vals t]
theorem kv_vals : ∀ {kvs : List (Key × V)} {vs : List (Key × Value)}, KV kvs vs → Vals (kvs.map (·.2)) (vs.map (·.2)) ∧ kvs.map (·.1) = vs.map (·.1)
  | _, _, .nil => ⟨.nil, rfl⟩
  | _, _, .cons h t => ⟨.cons h.2 (kv_vals t).1, by rw [List.map_cons, List.map_cons, h.1, (kv_vals t).2]⟩
mutual
theorem Dq.reads (S : KSys X.K) (I : Inv X pins σ H s) : ∀ {d : PyData} {v : V} (u : Value), Dq X.K H v d → RelV v u → ∃ as, Reads s.heap u d as ∧ sysModules ∉ as
  | _, _, u, .non, r => by cases r; exact ⟨_, Reads.none, by simp⟩
  | _, _, u, .bl b, r => by cases r; exact ⟨_, Reads.bool b, by simp⟩
  | _, _, u, .int i, r => by obtain ⟨t, rfl⟩ := r; exact ⟨_, Reads.int i t, by simp⟩
  | _, _, u, .str x, r => by obtain ⟨t, rfl⟩ := r; exact ⟨_, Reads.str x t, by simp⟩
  | _, _, u, .lst hs ha, r => by
    cases r
    obtain ⟨its, rv, ⟨o, n, ho, hc, _, hd⟩, _⟩ := I.list hs
    obtain ⟨as, hr, hn⟩ := DqAll.reads S I its ha rv
    refine ⟨_, Reads.list ho hc hd hr, fun z => ?_⟩
    rcases List.mem_cons.mp z with z | z
    · exact not_sys I.kIn S ho (by rw [hc]; decide) z
    · exact hn z
  | _, _, u, .tup hs ha, r => by
    cases r
    obtain ⟨its, rv, ⟨o, ho, hc, n, hd⟩, _⟩ := I.tuple hs
    obtain ⟨as, hr, hn⟩ := DqAll.reads S I its ha rv
    exact ⟨_, Reads.tuple ho hc hd hr, hn⟩
  | _, _, u, @Dq.dic _ _ a kvs ds hk ha, r => by
    cases r
    obtain ⟨_, hs, vs, kv, o, es, ep, ho, hex, hd, _, hp, _⟩ := (show ObjOk X.prog X.w H s.heap a (.dK kvs) from I.hok a _ hk)
    obtain ⟨k1, k2⟩ := kv_vals kv
    obtain ⟨bs, hr, hn⟩ := DqAll.reads S I _ ha k1
    have e1 : (((kvs.map fun q => keyD q.1).zip ds).map (·.1)) = vs.map fun q => keyD q.1 := by
      have h1 : (kvs.map fun q => keyD q.1) = vs.map fun q => keyD q.1 := by
        have := congrArg (List.map keyD) k2
        rw [List.map_map, List.map_map] at this
        exact this
      rw [List.map_fst_zip (by rw [List.length_map, ← DqAll.len ha, List.length_map]; exact Nat.le_refl _), h1]
    have e2 : (((kvs.map fun q => keyD q.1).zip ds).map (·.2)) = ds := by
      rw [List.map_snd_zip (by rw [List.length_map, ← DqAll.len ha, List.length_map]; exact Nat.le_refl _)]
    refine ⟨_, Reads.dict (as := []) (bs := bs) ho hex.1 hd ?_ ?_, fun z => ?_⟩
    · rw [e1]
      exact readsKeys _ hp
    · rw [e2, pairs_vals hp]
      exact hr
    · rcases List.mem_append.mp z with z | z
      · rcases List.mem_cons.mp z with z | z
        · rw [← z] at hs
          simp at hs
        · cases z
      · exact hn z
theorem DqAll.reads (S : KSys X.K) (I : Inv X pins σ H s) : ∀ {ds : List PyData} {vs : List V} (us : List Value), DqAll X.K H vs ds → Vals vs us → ∃ as, ReadsAll s.heap us ds as ∧ sysModules ∉ as
  | _, _, _, .nil, .nil => ⟨_, ReadsAll.nil, by simp⟩
  | _, _, _, .cons h t, .cons r rs => by
    obtain ⟨as, h1, n1⟩ := Dq.reads S I _ h r
    obtain ⟨bs, h2, n2⟩ := DqAll.reads S I _ t rs
    exact ⟨_, ReadsAll.cons h1 h2, fun z => (List.mem_append.mp z).elim n1 n2⟩
end
/-- repr(x) of a list, a tuple, a dict -/
def rRepr (K : PySem.W.Frag) : List V → Hp → VK → Prop := fun xs H Q => ∃ (a : Addr) (d : PyData), xs = [.ref a] ∧ Dq K H (.ref a) d ∧ d.showable = true ∧ d.depth ≤ 20 ∧ d.shown.length ≤ sizeLine ∧ Q (.str d.shown) H
theorem call_repr (S : KSys X.K) (hg : X.A.guards = some []) (hu : X.A.units + 64 < cLine) : CallR X (.builtin "repr") (rRepr X.K) := by
  intro pins s σ H xs us Q I r h
  obtain ⟨a, d, rfl, hd, hs, hdep, hz, q⟩ := h
  cases r with
  | cons r0 rr =>
    cases rr
    cases (show _ = Value.ref a from r0)
    obtain ⟨as, hr, hn⟩ := Dq.reads S I _ hd rfl
    exact repr_of_reads' hr hs (fun _ => hn) hg (by omega) (fun _ _ z => z) (fun h' u tk k => ⟨.str d.shown, H, I.kept (t' := tk) k, ⟨u, rfl⟩, q⟩) hz
end
end Xr
set_option maxHeartbeats 4000000
namespace Xr
open PySem PySem.Spec PyProof.Rows L2
/-- a promise that holds where no repr is under way -/
structure FnG (P : Program) (w : World) (K : PySem.W.Frag) (mg : Str → Option Value) (base : Heap) (CX : CXT) (k : Nat) (f : Addr) (fd : FuncData) (ps : List Str) (sp : Sp) : Prop where
  len : ∀ vs H Q E, sp vs H Q E → vs.length = ps.length
  run : ∀ (A : Around) (outer : List Env) (s : Shared) (H : Hp) (args : Args) (us : List Value) (vs : List V) (Q : VK) (E : XK),
    Room k A → A.guards = some [] → Env0 P w K mg base A outer s H → BindsTo s fd args (ps.zip us) → Vals vs us → sp vs H Q E →
    codeAny (model P w) A (.call (.ref f) args) (CR CX outer P w H s Q E) s
theorem FnG.of {P : Program} {w : World} {K : PySem.W.Frag} {mg : Str → Option Value} {base : Heap} {CX : CXT} {k : Nat} {f : Addr} {fd : FuncData} {ps : List Str} {sp : Sp} (F : FnOk P w K mg base CX k f fd ps sp) : FnG P w K mg base CX k f fd ps sp :=
  ⟨F.len, fun A outer s H args us vs Q E hr _ => F.run A outer s H args us vs Q E hr⟩
section
variable {P : Program} {w : World} {K : PySem.W.Frag} {mg : Str → Option Value} {base : Heap} {CX : CXT} {k : Nat} {f : Addr} {x qual : Str} {params : Arguments} {body : List Stmt} {scope : Scope} {dvs : List V} {kws : List (Str × V)} {fd : FuncData} {N ps : List Str} {sp : Sp}
/-- a def's body keeps its promise, the guards known -/
theorem okG (F : FunD K x qual params body scope dvs kws f fd) (S : FnScope N ps scope) (len : ∀ vs H Q E, sp vs H Q E → vs.length = ps.length)
    (hbody : ∀ (cdv : Value) (A : Around) (outer : List Env) (s : Shared) (H : Hp) (vs : List V) (Q : VK) (E : XK), Room k (A.deeper (envOfC qual scope s.heap.objs.size f cdv)) → A.guards = some [] → sp vs H Q E →
      ∃ t, PSs (cxOf CX P w K mg base N qual scope f cdv A outer s H E) body t ∧ t { nx := fun _ H' => Q .non H', rt := Q } (start N vs) H) :
    FnG P w K mg base CX (k + 1) f fd ps sp := by
  obtain ⟨oc, od, dV, kV, doc, pm, an, cdv, ct, osl, rfl, lk, hcd, _, _⟩ := F.ex
  refine ⟨len, fun A outer s H args us vs Q E hr hgd e0 hb r hsp => ?_⟩
  have keep0 : ∀ b o, base.get? b = some o → s.heap.get? b = some o := fun b o z => (e0.bs b o z).1
  have KX : K.In s.heap := e0.mod.kin.keeps keep0
  have hk : ∀ y ∈ ps.zip us, scope.names.lookup y.1 = some .local ∨
      (scope.names.lookup y.1 = some .cell ∧ ((cellsFrom (s.heap.objs.size + 1) scope.names []).lookup y.1).isSome = true) := by
    rintro ⟨n, v⟩ hy
    rcases S.par n (List.of_mem_zip hy).1 with z | z
    · exact Or.inl z
    · exact Or.inr ⟨z, PySem.W.cellsFrom_some _ _ _ (Or.inl z)⟩
  refine codeAny_call_function hr.depth (KX _ _ lk) rfl S.co S.gen rfl (PySem.W.codeRec_of KX hcd) (hb _ _ _ _ ?_)
  refine wpAny_newFunctionEnv_cells S.kind hk fun env he s1 z => ?_
  subst he
  refine ⟨(e0.mod.nolimit.keeps keep0).keeps z.toInCall.keep, codeAny_func ?_⟩
  obtain ⟨t, ht, hq⟩ := hbody cdv A outer s H vs Q E (hr.deeper _) hgd hsp
  have J := inv_start (CX := CX) (E := E) S hr.hd e0 (len _ _ _ _ hsp) r z
  refine wpAny_mono (ht.run [] s1 (start N vs) H _ J hq) (fun fl s' hs => ?_) fun e s' hs => hs
  rcases fl with _ | _ | _ | u
  · obtain ⟨σ', H', J', q⟩ := hs
    exact ⟨V.non, H', J'.os, J'.bare, J'.base, J'.hok, rfl, q⟩
  · obtain ⟨_, _, _, q⟩ := hs
    exact q.elim
  · obtain ⟨_, _, _, q⟩ := hs
    exact q.elim
  · obtain ⟨v, σ', H', J', rv, q⟩ := hs
    exact ⟨v, H', J'.os, J'.bare, J'.base, J'.hok, rv, q⟩
end
section
variable {X : Cx} {CX : CXT} {k : Nat} {f : Addr} {fd : FuncData} {ps : List Str} {sp : Sp} {E : XK} {ds : List Value} {dvs : List V} {x : Str} {p pos : Pos} {e : Expr} {es : List Expr} {t : TA}
theorem run_fnG {pins : List (Addr × Obj)} {σ : L2.St} {H : Hp} {s : Shared} {Q : VK} {us : List Value} {vs : List V} (F : FnG X.prog X.w X.K X.mg X.base CX k f fd ps sp) (hr : Room k X.A) (hg : X.A.guards = some []) (hb : Binds X.K fd ps ds) (hd : Vals dvs ds) (hx : Passes CX X E)
    (I : Inv X pins σ H s) (r : Vals vs us) (h : sp (vs ++ dvs) H Q E) : wpAny (model X.prog X.w) X.A (call (.ref f) us) (EP X pins σ Q) X.xe s := by
  have r2 := r.append hd
  have hl : (us ++ ds).length = ps.length := r2.length.symm.trans (F.len _ _ _ _ h)
  refine wpAny_call (codeAny_mono (F.run X.A X.stack s H ⟨us, []⟩ (us ++ ds) (vs ++ dvs) Q E hr hg I.env0 (hb s us I.kIn hl) r2 h) fun r s' hq => ?_)
  rcases r with er | (_ | _ | _ | u)
  · exact hx pins σ H s er s' I hq
  · exact hq.elim
  · exact hq.elim
  · exact hq.elim
  · exact I.after hq
theorem pe_callG (F : FnG X.prog X.w X.K X.mg X.base CX k f fd ps sp) (hr : Room k X.A) (hgd : X.A.guards = some []) (hg : Gl X x) (hm : X.mg x = some (.ref f)) (hk : PySem.W.keepIn X.K (.ref f) = true) (hb : Binds X.K fd ps ds) (hd : Vals dvs ds) (hx : Passes CX X E)
    (ha : PA X (e :: es) t) (hdb : (x == ("__debug__" : Str)) = false := by decide) (he : starEach (e :: es) X.env = (false, eval e X.env) :: starEach es X.env := by rfl) (hpl : (backTo pos (starEach es X.env)).any (·.1) = false := by rfl) :
    PE X (.Call (.Name x p) (e :: es) [] pos) (tCall sp dvs E t) := by
  refine ⟨fun pins s σ H Q I h => wpAny_Call_Name_kw (ld_glob I hg hm ?_ hdb)⟩
  refine PySem.W.callWith_K (h₀ := X.base) I.ok.mod.kin hk (thn (ha.run pos pins s σ H _ I h) fun us s1 hh => ?_) he hpl
  obtain ⟨vs, H1, I1, r, q⟩ := hh
  exact ⟨I1.kIn, run_fnG F hr hgd hb hd hx I1 r q⟩
end
/-- the script, locked -/
def scrH (a : Addr) (o : Obj) (xs : List V) : Hp := fun b => if b = a then some (.frz o (.lst xs)) else none
theorem lawCallG {P : Program} {w : World} {K : PySem.W.Frag} {mg mb : Str → Option Value} {CX : CXT} {k : Nat} {fa a : Addr} {fd : FuncData} {x : Str} {sp : Sp} {s1 : Shared} {vs : List Value} {ns : List Int}
    (KX : K.In s1.heap) (hns : s1.heap.Ns mainGlobals mg) (hb : s1.heap.Ns builtinsNs mb) (hbb : ∀ x : Str, x ≠ "__name__" → mb x = bootBuiltins x) (hlim : s1.heap.NoLimit) (hg : s1.gens = #[])
    (ha : s1.heap.get? a = some { cls := .type "list", data := .seq vs.toArray }) (hi : IntsAre vs ns) (hl : ns.length ≤ sizeLine) (hr : Room k callerA)
    (F : ∀ base : Heap, K.In base → base.Ns mainGlobals mg → FnG P w K mg base CX k fa fd [x] sp) (hbind : ∀ (s : Shared) (u : Value), BindsTo s fd ⟨[u], []⟩ [(x, u)])
    (hsp : ∀ H : Hp, Only H → SqL K H a (ns.map V.int) → sp [.ref a] H (fun v _ => v = .bl true) fun _ _ _ => False)
    (hCX : ∀ H e s', CX [] H s1 (fun _ _ _ => False) e s' → False) :
    codeAny (model P w) callerA (.call (.ref fa) ⟨[.ref a], []⟩) (fun r s' => r = .ok (.ret (.bool true)) ∧ OldK s1.heap s'.heap ∧ s'.os = s1.os ∧ AllBare s'.gens) s1 := by
  have go : ∀ H : Hp, Only H → SqL K H a (ns.map V.int) → HOk P w H s1.heap → (∀ b, H b ≠ none → b = a) → (H a ≠ none → K.lookup a = none) →
      codeAny (model P w) callerA (.call (.ref fa) ⟨[.ref a], []⟩) (fun r s' => r = .ok (.ret (.bool true)) ∧ OldK s1.heap s'.heap ∧ s'.os = s1.os ∧ AllBare s'.gens) s1 := by
    intro H hO hS hok hA hK
    have isA : ∀ {b : Addr} {u : HO}, H b = some u → b = a := fun {b u} z => hA b (by rw [z]; exact Option.some_ne_none _)
    have dictFree : ∀ {b : Addr} {o : Obj} {es : Array DictEntry} {ep : Nat}, s1.heap.get? b = some o → o.data = .dict es ep → H b = none := by
      intro b o es ep z d
      cases q : H b with
      | none => rfl
      | some u =>
        cases isA q
        rw [ha] at z
        cases z
        cases (show Data.seq vs.toArray _ = Data.dict es ep from d)
    have nsB : ∀ {b : Addr} {m : Str → Option Value}, s1.heap.Ns b m → (hidT s1.heap H).Ns b m := by
      rintro b m ⟨o, es, ep, z, d, r⟩
      exact ⟨o, es, ep, hidT_get z (dictFree z d), d, r⟩
    have KB : K.In (hidT s1.heap H) := fun b o z => hidT_get (KX b o z) (by
      cases q : H b with
      | none => rfl
      | some u =>
        cases isA q
        rw [hK (by rw [q]; exact Option.some_ne_none _)] at z
        cases z)
    obtain ⟨mc, l1, l2⟩ := hlim
    have M : Mod K mg (hidT s1.heap H) := ⟨KB, nsB hns, ⟨mb, nsB hb, hbb⟩, ⟨mc, nsB l1, l2⟩⟩
    have e0 : Env0 P w K mg (hidT s1.heap H) callerA [] s1 H :=
      ⟨rfl, M, fun b o z => of_hidT z, Nat.le_of_eq (hidT_size _ _), trivial, fun b hb => absurd (show b ∈ ([] : List Addr) from hb) (by simp), hok, .of_eq hg⟩
    have run := (F _ KB (nsB hns)).run callerA [] s1 H ⟨[.ref a], []⟩ [.ref a] [.ref a] _ _ hr rfl e0 (hbind s1 (.ref a)) (.cons rfl .nil) (hsp H hO hS)
    refine codeAny_mono run fun r s' h => ?_
    rcases r with er | (_ | _ | _ | u)
    · exact (hCX H er s' h).elim
    · exact h.elim
    · exact h.elim
    · exact h.elim
    · obtain ⟨v, H', os, bare, un, hok', r', q⟩ := h
      cases (show v = .bl true from q)
      cases (show u = Value.bool true from r')
      refine ⟨rfl, OldK.of_keep fun b o z => ?_, os, bare⟩
      rcases hO b with n | ⟨ob, xs, y⟩
      · exact un.keep b o z n (fun y => absurd (show b ∈ ([] : List Addr) from y) (by simp)) (by simp)
      · have e1 := (hok b _ y).1
        rw [z] at e1
        cases e1
        exact (hok' b _ (un.frzs b _ _ y)).1
  have rv := vals_ints hi
  cases hk : K.lookup a with
  | some o =>
    have z := KX a o hk
    rw [ha] at z
    cases z
    refine go (fun _ => none) (fun _ => Or.inl rfl) (Or.inr ⟨_, vs.toArray, _, hk, rfl, rfl, rfl, by rw [List.size_toArray, hi.length]; exact hl, by simpa using rv⟩) ?_ (fun b z => absurd rfl z) fun z => absurd rfl z
    intro b u z
    cases (show (none : Option HO) = some u from z)
  | none =>
    have hit : scrH a { cls := .type "list", data := .seq vs.toArray } (ns.map V.int) a = some (.frz { cls := .type "list", data := .seq vs.toArray } (.lst (ns.map V.int))) := if_pos rfl
    have miss : ∀ {b : Addr}, b ≠ a → scrH a { cls := .type "list", data := .seq vs.toArray } (ns.map V.int) b = none := fun z => if_neg z
    refine go (scrH a { cls := .type "list", data := .seq vs.toArray } (ns.map V.int)) (fun b => ?_) (Or.inl (Or.inr ⟨_, hit⟩)) (fun b u z => ?_) (fun b z => Classical.byContradiction fun y => z (miss y)) fun _ => hk
    · by_cases hba : b = a
      · cases hba
        exact Or.inr ⟨_, _, hit⟩
      · exact Or.inl (miss hba)
    · by_cases hba : b = a
      · cases hba
        rw [hit] at z
        cases z
        exact ⟨ha, by rw [List.length_map]; exact hl, vs, _, rv, ha⟩
      · rw [miss hba] at z
        cases z
theorem walkG {l : PySem.W.OpenLaw} {n k : Nat} {q : Program} {loose : List Str} {XP : (Str → Option Value) → Heap → Prop} {YP : World → Heap → Prop} {d : DefRec} {CX : CXT} {x : Str}
    (hn : l.most = some n) (hn2 : n ≤ sizeLine) (hdf : d.params.defaults = []) (hr : Room k callerA)
    (F : ∀ (w : World) (mg : Str → Option Value) (fa : Addr) (h : Heap), YP w h → h.Ns mainGlobals mg → mg d.name = some (.ref fa) →
      ∃ (K : PySem.W.Frag) (fd : FuncData) (sp : Sp), K.In h ∧ (∀ (s : Shared) (u : Value), BindsTo s fd ⟨[u], []⟩ [(x, u)]) ∧
        (∀ (H : Hp) (a : Addr) (ns : List Int), ns.length ≤ n → Only H → SqL K H a (ns.map V.int) → sp [.ref a] H (fun v _ => v = .bl true) fun _ _ _ => False) ∧
        ∀ base : Heap, K.In base → base.Ns mainGlobals mg → FnG l.prog w K mg base CX k fa fd [x] sp)
    (hCX : ∀ (H : Hp) (s : Shared) (e : Value) (s' : Shared), CX [] H s (fun _ _ _ => False) e s' → False) :
    PySem.W.WalkO q loose XP YP l.row.toRowW d [] (fun f vs => PySem.call f vs) := by
  refine Att.attach_call hn hdf fun w s0 s1 mg mb fa o pm cd doc a vs ns G Y ho hd hcd hmg hobj hints hlen hg => ?_
  obtain ⟨K, fd, sp, KX, hb, hsp, hF⟩ := F w mg fa _ Y G.T.g hmg
  exact lawCallG KX G.T.g G.T.b G.T.builtins G.T.nolimit hg hobj hints (Nat.le_trans hlen hn2) hr hF hb (fun H hO hS => hsp H a ns hlen hO hS) fun H e s' => hCX H s1 e s'
end Xr
set_option maxHeartbeats 4000000
namespace Xr
open PySem PySem.Spec PyProof.Rows L2
/-! ### the written part: what the module's names reach, the cells of closures, sys.modules, the statics -/
def closOf (g : Addr → Option Obj) (as : List Addr) : List Addr := as.flatMap fun a => match g a with
  | some ⟨_, _, .func fd, _⟩ => fd.closure.map (·.2)
  | _ => []
def asE (g : Addr → Option Obj) (n : Nat) : List Addr := sysModules :: cStatics :: (He.asD g n ++ closOf g (He.asD g n))
def KE (g : Addr → Option Obj) (n : Nat) : PySem.W.Frag := He.frT g (asE g n)
abbrev FnC : Type := Option (Str × Str × Arguments × FuncBody × Scope × Addr × List Str × Addr)
/-- a def with a closure -/
def fnC (K : PySem.W.Frag) (p : He.Defn) : FnC := match K.lookup (He.fAd K p) with
  | some ⟨_, _, .func fd, _⟩ => some (fd.name, fd.qualname, fd.params, fd.body, fd.scope, fd.globals, fd.closure.map (·.1), fd.builtins)
  | _ => none
/-- one def with a closure: where it stands, and what is told of it -/
abbrev DefC : Type := He.Defn × FnC
abbrev AlE : Type := He.AlX × List FnC
def obsE (n : Nat) (fa : List He.Fa) (fn : List He.DefD) (ts : List He.Tab) (tf : List He.Defn) (cl : List DefC) (ex : PySem.W.Frag → Bool) (g : Addr → Option Obj) : AlE :=
  ((He.obsT fa fn ts (KE g n), ex (KE g n) && He.tabsB g tf (KE g n)), cl.map fun q => fnC (KE g n) q.1)
def valE (fn : List He.DefD) (ts : List He.Tab) (cl : List DefC) (w : World) : AlE := ((He.valT fn ts w, true), cl.map (·.2))
structure SaysE (fa : List He.Fa) (fn : List He.DefD) (ts : List He.Tab) (tf : List He.Defn) (cl : List DefC) (ex : PySem.W.Frag → Bool) (w : World) (h : Heap) (K : PySem.W.Frag) : Prop where
  x : He.SaysX fa fn ts tf ex w h K
  c : cl.map (fun q => fnC K q.1) = cl.map (·.2)
theorem says_of {n : Nat} {fa : List He.Fa} {fn : List He.DefD} {ts : List He.Tab} {tf : List He.Defn} {cl : List DefC} {ex : PySem.W.Frag → Bool} {w : World} {h : Heap} (e : obsE n fa fn ts tf cl ex h.get? = valE fn ts cl w) : SaysE fa fn ts tf cl ex w h (KE h.get? n) := by
  have e1 : He.obsT fa fn ts (KE h.get? n) = He.valT fn ts w := congrArg (fun z : AlE => z.1.1) e
  have e2 : (ex (KE h.get? n) && He.tabsB h.get? tf (KE h.get? n)) = true := congrArg (fun z : AlE => z.1.2) e
  have e3 : cl.map (fun q => fnC (KE h.get? n) q.1) = cl.map (·.2) := congrArg (fun z : AlE => z.2) e
  obtain ⟨a1, a2⟩ := He.ba e2
  have key : ∀ p ∈ tf, PySem.W.codeHdIn (KE h.get? n) (He.cT (KE h.get? n) p).1 (He.cT (KE h.get? n) p).2 = true ∧
      ∃ o, h.get? (He.cT (KE h.get? n) p).2 = some o ∧ He.emptyTab o = true := by
    intro p hp
    obtain ⟨b1, b2⟩ := He.ba (List.all_eq_true.mp a2 p hp)
    refine ⟨b1, ?_⟩
    cases q : h.get? (He.cT (KE h.get? n) p).2 with
    | none =>
      rw [q] at b2
      cases b2
    | some o =>
      rw [q] at b2
      exact ⟨o, rfl, b2⟩
  refine ⟨⟨e1, a1, fun p hp => (key p hp).1, fun p hp => ?_, fun p hp => ?_⟩, e3⟩
  · obtain ⟨_, o, q, z⟩ := key p hp
    exact He.frT_none q z
  · obtain ⟨_, o, q, z⟩ := key p hp
    rw [q, He.emptyTab_eq z]
def hookE (n : Nat) (fa : List He.Fa) (fn : List He.DefD) (ts : List He.Tab) (tf : List He.Defn) (cl : List DefC) (ex : PySem.W.Frag → Bool) : PySem.W.Hook where
  α := AlE
  obs := fun s => obsE n fa fn ts tf cl ex s.heap.get?
  val := fun w => valE fn ts cl w
  says := fun w h => ∃ K : PySem.W.Frag, K.In h ∧ SaysE fa fn ts tf cl ex w h K
  of := fun _ _ e => ⟨_, He.frT_in, says_of e⟩
  keeps := fun _ _ _ ⟨K, hK, c⟩ k => ⟨K, PySem.W.Frag.In.keeps hK k, ⟨⟨c.x.t, c.x.more, c.x.hd, c.x.out, fun p hp => k _ _ (c.x.empty p hp)⟩, c.c⟩⟩
theorem obsE_eq {n : Nat} {fa : List He.Fa} {fn : List He.DefD} {ts : List He.Tab} {tf : List He.Defn} {cl : List DefC} {ex : PySem.W.Frag → Bool} {g : Addr → Option Obj} {s : Shared} (h : ∀ a, g a = s.heap.get? a) : obsE n fa fn ts tf cl ex g = (hookE n fa fn ts tf cl ex).obs s := by
  have e : g = s.heap.get? := funext h
  rw [e] <;> rfl
theorem SaysE.clo {fa : List He.Fa} {fn : List He.DefD} {ts : List He.Tab} {tf : List He.Defn} {cl : List DefC} {ex : PySem.W.Frag → Bool} {w : World} {h : Heap} {K : PySem.W.Frag} (c : SaysE fa fn ts tf cl ex w h K) {q : DefC} (hq : q ∈ cl) : fnC K q.1 = q.2 := by
  obtain ⟨i, hi, e⟩ := List.mem_iff_getElem.mp hq
  have z : (cl.map (fun q => fnC K q.1))[i]? = (cl.map (·.2))[i]? := by rw [c.c]
  rw [List.getElem?_map, List.getElem?_map, List.getElem?_eq_getElem hi, e] at z
  exact Option.some.inj z
/-! ### an error's class -/
def oV (a b : Option Value) : Bool := decide (a = b)
def codeRest (K : PySem.W.Frag) (C fI : Addr) (file : Str) : Bool := match K.lookup fI with
  | some ⟨_, _, .func fd, _⟩ => (match fd.code, fd.closure, fd.defaults with
    | .ref cda, [(_, cc)], .none => PySem.W.codeIn K (.ref cda) fd.qualname && ((match K.lookup cc with
      | some ⟨_, _, .cell (some (.ref D)), _⟩ => decide (D = C)
      | _ => false) && (match K.lookup cda with
      | some ⟨_, _, .fields vs, _⟩ => (match (vs[2]? : Option Value) with
        | some (Value.str f _) => decide (f = file)
        | _ => false)
      | _ => false))
    | _, _, _ => false)
  | _ => false
def errB (file : Str) (K : PySem.W.Frag) (x : Str) (B ini nw : String) (bmB : List Value) (fs : List Str) : Bool :=
  (PySem.W.excInitIn K (He.ga K x) bmB nw && (He.eqO (PySem.W.ks_superIn K (He.ga K x) (He.ga K x) "__init__") (some (some (.builtin ini))) && decide (PySem.W.subIn K (.ref (He.ga K x)) (.type B) = some true))) &&
  ((decide ((PySem.W.clsIn K (He.ga K x)).map (·.hasDict) = some true) && (He.eqO (PySem.W.findIn K (.ref (He.ga K x)) "__setattr__") (some (some (.builtin "object.__setattr__"))) &&
    He.eqO (PySem.W.findIn K (.ref (He.ga K x)) "__init__") (some (some (.ref (He.ma K (He.ga K x) "__init__")))))) &&
  ((oV (PySem.W.typeIn K (.ref (He.ma K (He.ga K x) "__init__"))) (some (.type "function")) && (codeRest K (He.ga K x) (He.ma K (He.ga K x) "__init__") file && fs.all fun f => He.eqO (PySem.W.findIn K (.ref (He.ga K x)) f) (some none))) &&
  ((decide (PySem.W.subIn K (.ref (He.ga K x)) (.type "BaseException") = some true) && (oV (PySem.W.typeIn K (.ref (He.ga K x))) (some (.type "type")) && PySem.W.keepIn K (.ref (He.ga K x)))) &&
  ((He.eqO (PySem.W.findIn K (.ref (He.ga K x)) "__getattribute__") (some (some (.builtin "BaseException.__getattribute__"))) && (He.eqO (PySem.W.findIn K (.ref (He.ga K x)) "__getattr__") (some none) && PySem.W.hasDictIn K (He.ga K x))) &&
  (He.eqO (PySem.W.findIn K (.ref (He.ga K x)) "__class__") (some (some (.builtin "object.__class__"))) && (decide (PySem.W.mroIn K (He.ga K x) (.type "object") = some true) && He.eqO (PySem.W.nsIn K mainGlobals x) (some (some (.ref (He.ga K x))))))))))
def allB (K : PySem.W.Frag) : Bool := (He.eqO (PySem.W.nsIn K cStatics "thirdparty.any") (some none) && He.eqO (PySem.W.nsIn K mainGlobals "super") (some none)) &&
  ((He.eqO (PySem.W.specialIn K (.builtin "object.__class__") "__get__") (some (some (.builtin "getset_descriptor.__get__"))) && decide (PySem.W.takesIn K (.builtin "object.__class__") = some true)) &&
  (match K.lookup sysModules with
  | some o => decide (o.cls = .type "dict")
  | none => false))
structure AllF (K : PySem.W.Frag) : Prop where
  opq : PySem.W.nsIn K cStatics "thirdparty.any" = some none
  sup : PySem.W.nsIn K mainGlobals "super" = some none
  sg : PySem.W.specialIn K (.builtin "object.__class__") "__get__" = some (some (.builtin "getset_descriptor.__get__"))
  tk : PySem.W.takesIn K (.builtin "object.__class__") = some true
  sys : KSys K
theorem allB_ok {K : PySem.W.Frag} (h : allB K = true) : AllF K := by
  obtain ⟨h1, h⟩ := He.ba h
  obtain ⟨h1, h2⟩ := He.ba h1
  obtain ⟨h3, h⟩ := He.ba h
  obtain ⟨h3, h4⟩ := He.ba h3
  refine ⟨He.eqO_ok h1, He.eqO_ok h2, He.eqO_ok h3, of_decide_eq_true h4, ?_⟩
  split at h
  · rename_i o ho
    exact ⟨o, ho, of_decide_eq_true h⟩
  · cases h
/-- all that is known of an error's class -/
structure Err (P : Program) (K : PySem.W.Frag) (C : Addr) (fs : List Str) : Prop where
  made : ∃ fI fd, ErrC P K C fI fd fs ∧ ErrB fd fs
  xf : XfC K C
  xi : XiC K C
  no : ∀ f ∈ fs, PySem.W.findIn K (.ref C) f = some none
theorem err_ok {P : Program} {K : PySem.W.Frag} {x q : Str} {B ini N nw : String} {bmB : List Value} {fs : List Str} {params : Arguments} {body : List Stmt} {sc : Scope} (bf : BaseF B ini N nw bmB) (h : errB P.main.file K x B ini nw bmB fs = true) (ha : AllF K)
    (hF : fnC K (x, some "__init__") = (some ("__init__", q, params, .stmts body, sc, mainGlobals, ["__class__"], builtinsNs) : FnC)) (IT : InitT params body sc fs) (htop : (P.main.scope.names.lookup ("super" : Str)).isSome = false)
    (hb : ∀ (kV doc pm : Value) (an : Option Addr) (cdv ct : Value) (cc : Addr), ErrB (PySem.W.ksFn "__init__" q params body sc .none kV doc pm an cdv ct cc) fs) : Err P K (He.ga K x) fs := by
  unfold errB at h
  obtain ⟨h1, h⟩ := He.ba h
  obtain ⟨h1, h2⟩ := He.ba h1
  obtain ⟨h2, h3⟩ := He.ba h2
  obtain ⟨h4, h⟩ := He.ba h
  obtain ⟨h4, h5⟩ := He.ba h4
  obtain ⟨h5, h6⟩ := He.ba h5
  obtain ⟨h7, h⟩ := He.ba h
  obtain ⟨h7, h8⟩ := He.ba h7
  obtain ⟨h8, h9⟩ := He.ba h8
  obtain ⟨h10, h⟩ := He.ba h
  obtain ⟨h10, h11⟩ := He.ba h10
  obtain ⟨h11, h12⟩ := He.ba h11
  obtain ⟨h13, h⟩ := He.ba h
  obtain ⟨h13, h14⟩ := He.ba h13
  obtain ⟨h14, h15⟩ := He.ba h14
  obtain ⟨h16, h⟩ := He.ba h
  obtain ⟨h17, h18⟩ := He.ba h
  have no : ∀ f ∈ fs, PySem.W.findIn K (.ref (He.ga K x)) f = some none := fun f hf => He.eqO_ok (List.all_eq_true.mp h9 f hf)
  have cl : (PySem.W.clsIn K (He.ga K x)).isSome = true := by
    have z := of_decide_eq_true h4
    cases q : PySem.W.clsIn K (He.ga K x) with
    | none =>
      rw [q] at z
      cases z
    | some c => rfl
  refine ⟨?_, ⟨He.eqO_ok h13, He.eqO_ok h14, of_decide_eq_true h10, h15⟩, ⟨cl, He.eqO_ok h13, He.eqO_ok h14, of_decide_eq_true h10, He.eqO_ok h16, ha.sg, ha.tk, of_decide_eq_true h17⟩, no⟩
  have e1 : He.fAd K (x, some "__init__") = He.ma K (He.ga K x) "__init__" := rfl
  unfold fnC at hF
  rw [e1] at hF
  unfold codeRest at h8
  cases lk : K.lookup (He.ma K (He.ga K x) "__init__") with
  | none =>
    rw [lk] at h8
    cases h8
  | some o =>
    obtain ⟨oc, od, dt, osl⟩ := o
    rw [lk] at h8 hF
    cases dt with
    | func fd =>
      obtain ⟨n1, n2, n3, n4, n5, n6, n7, n8, n9, n10, n11, n12, n13, n14, n15⟩ := fd
      have e2 : (some (n1, n2, n3, n4, n5, n6, n7.map (·.1), n15) : FnC) = (some ("__init__", q, params, .stmts body, sc, mainGlobals, ["__class__"], builtinsNs) : FnC) := hF
      simp only [Option.some.injEq, Prod.mk.injEq] at e2
      obtain ⟨g1, g2, g3, g4, g5, g6, g7, g8⟩ := e2
      subst g1 g2 g3 g4 g5 g6 g8
      dsimp only at h8
      split at h8
      · rename_i cda z cc
        have ez : z = "__class__" := by
          have := g7
          simpa using this
        subst ez
        obtain ⟨c1, c2⟩ := He.ba h8
        obtain ⟨c2, c3⟩ := He.ba c2
        refine ⟨_, _, ⟨⟨B, ini, N, nw, bmB, bf, h1, He.eqO_ok h2, of_decide_eq_true h3⟩, of_decide_eq_true h4, He.eqO_ok h5, He.eqO_ok h6, of_decide_eq_true h7,
          ⟨_, _, _, _, _, _, _, _, cda, _, cc, _, _, _, rfl, lk, IT, c1, ?_, ?_⟩, ha.opq, ha.sup, htop, no, of_decide_eq_true h10, of_decide_eq_true h11, h12⟩, hb _ _ _ _ _ _ _⟩
        · split at c2
          · rename_i D _ hc
            cases of_decide_eq_true c2
            exact ⟨_, _, _, hc⟩
          · cases c2
        · split at c3
          · rename_i vs _ hc
            split at c3
            · rename_i f tf hv
              cases of_decide_eq_true c3
              exact ⟨_, _, vs, _, tf, hc, hv⟩
            · cases c3
          · cases c3
      · cases h8
    | _ => cases h8
end Xr
set_option maxHeartbeats 4000000
namespace Xr
open PySem PySem.Spec PyProof.Rows L2
/-- a def that keeps its promise, however its function object looks -/
def OkF (P : Program) (w : World) (K : PySem.W.Frag) (mg : Str → Option Value) (base : Heap) (CX : CXT) (k : Nat) (f : Addr) (ps : List Str) (sp : Sp) : Prop :=
  ∃ fd, FnOk P w K mg base CX k f fd ps sp ∧ Binds K fd ps [] ∧ PySem.W.keepIn K (.ref f) = true
section
variable {X : Cx} {CX : CXT} {k : Nat} {f C : Addr} {ps fs : List Str} {sp : Sp} {E : XK} {x : Str} {p pos : Pos} {e : Expr} {es : List Expr} {t : TA} {kws : List Keyword}
theorem pe_f (G : OkF X.prog X.w X.K X.mg X.base CX k f ps sp) (hr : Room k X.A) (hg : Gl X x) (hm : X.mg x = some (.ref f)) (hx : Passes CX X E) (ha : PA X (e :: es) t)
    (hdb : (x == ("__debug__" : Str)) = false := by decide) (he : starEach (e :: es) X.env = (false, eval e X.env) :: starEach es X.env := by rfl) (hpl : (backTo pos (starEach es X.env)).any (·.1) = false := by rfl) :
    PE X (.Call (.Name x p) (e :: es) [] pos) (tCall sp [] E t) := by
  obtain ⟨fd, F, b, kp⟩ := G
  exact pe_call F hr hg hm kp b .nil hx ha hdb he hpl
theorem pe_errP (T : Err X.prog X.K C fs) (h3 : fs.length ≤ 3) (hr : Room 1 X.A) (hg : Gl X x) (hm : X.mg x = some (.ref C)) (ha : PA X (e :: es) t)
    (hdb : (x == ("__debug__" : Str)) = false := by decide) (he : starEach (e :: es) X.env = (false, eval e X.env) :: starEach es X.env := by rfl) (hpl : (backTo pos (starEach es X.env)).any (·.1) = false := by rfl) :
    PE X (.Call (.Name x p) (e :: es) [] pos) (tErr C fs t) := by
  obtain ⟨fI, fd, T1, b⟩ := T.made
  exact pe_err T1 b h3 hr hg hm ha hdb he hpl
theorem pe_errE (T : Err X.prog X.K C fs) (hr : Room 1 X.A) (hg : Gl X x) (hm : X.mg x = some (.ref C)) (hkw : PK X kws t)
    (hall : (backToKw pos (keywordEach kws X.env)).all (·.1.isSome) = true := by rfl) (hks : (backToKw pos (keywordEach kws X.env)).filterMap (·.1) = fs.reverse := by rfl) (hdb : (x == ("__debug__" : Str)) = false := by decide)
    (hpl : ((backTo pos (starEach [] X.env)).any (·.1) || (backToKw pos (keywordEach kws X.env)).any (·.1.isNone)) = false := by rfl) :
    PE X (.Call (.Name x p) [] kws pos) (tErrK C fs t) := by
  obtain ⟨fI, fd, T1, b⟩ := T.made
  exact pe_errK T1 b hr hg hm hkw hall hks hdb hpl
end
/-- a statement and what follows it, met at a word of one's own -/
inductive CutP (t u : TS) (D : Ends) (σ : L2.St) (H : Hp) : Prop
  | mk (J : L2.St → Hp → Prop) (h : t { D with nx := J } σ H) (k : ∀ σ' H', J σ' H' → u D σ' H') : CutP t u D σ H
def tCut (t u : TS) : TS := CutP t u
theorem pss_cut {X : Cx} {st : Stmt} {rest : List Stmt} {t u : TS} (h1 : PS X st t) (h2 : PSs X rest u) : PSs X (st :: rest) (tCut t u) := by
  constructor
  rintro pins s σ H D I ⟨J, h, hJ⟩
  refine wpAny_execs_cons (thn (h1.run pins s σ H { D with nx := J } I h) ?_)
  rintro (_ | _ | _ | v) s1 q
  · obtain ⟨σ', H', I', q⟩ := q
    exact h2.run pins s1 σ' H' D I' (hJ _ _ q)
  · exact q
  · exact q
  · exact q
/-- an expression, met at a word of one's own -/
inductive CutE (t : TE) (σ : L2.St) (H : Hp) (Q : VK) : Prop
  | mk (J : V → Hp → Prop) (h : t σ H J) (k : ∀ v H', J v H' → Q v H') : CutE t σ H Q
def tCutE (t : TE) : TE := CutE t
theorem pe_cut {X : Cx} {e : Expr} {t : TE} (h : PE X e t) : PE X e (tCutE t) := by
  constructor
  rintro pins s σ H Q I ⟨J, h1, h2⟩
  refine thn (h.run pins s σ H J I h1) ?_
  rintro u s1 ⟨v, H1, I1, r, q⟩
  exact ⟨v, H1, I1, r, h2 _ _ q⟩
/-! the heads of readings, unfolded one by one -/
section
variable {t u : TS} {D : Ends} {σ : L2.St} {H : Hp} {te ta tb : TE} {g : TG} {Q : VK} {ts : TA} {QL : List V → Hp → Prop} {c : TT} {QB : Bool → Hp → Prop} {r : R2}
theorem hd_seq : tSeq t u D σ H = t { D with nx := u D } σ H := rfl
theorem hd_asg : tAsg te g D σ H = te σ H fun x H1 => g x σ H1 D.nx := rfl
theorem hd_lst : tLst ts σ H Q = ts σ H fun xs H1 => xs.length ≤ sizeLine ∧ ∀ p, H1 p = none → Q (.ref p) (upd H1 p (.lst xs)) := rfl
theorem hd_tup : tTup ts σ H Q = ts σ H fun xs H1 => xs.length ≤ sizeLine ∧ ∀ p, H1 p = none → Q (.ref p) (upd H1 p (.tup xs)) := rfl
theorem hd_cons : tCons te ts σ H QL = te σ H fun x H1 => ts σ H1 fun xs H2 => QL (x :: xs) H2 := rfl
theorem hd_op : tOp r ta tb σ H Q = ta σ H fun x H1 => tb σ H1 fun y H2 => r x y H2 Q := rfl
theorem hd_ret : tRet te D σ H = te σ H D.rt := rfl
theorem hd_test : tTest te σ H QB = te σ H fun x H' => ∃ k, x = .bl k ∧ QB k H' := rfl
theorem hd_if : tIfS c t u D σ H = c σ H fun b H1 => if b = true then t D σ H1 else u D σ H1 := rfl
end
theorem same_new {H : Hp} {q : Addr} {o : HO} (n : H q = none) : Same H (upd H q o) := fun c u h => by
  rw [upd_ne (ne_of_none h n)]
  exact h
/-- a comprehension over a range whose test and element only read -/
theorem lcR {lo : Int} {n k : Nat} {tt : TT} {te : TE} {vs : List Nat} {σ : L2.St} {H1 : Hp} {D : Addr} {Qd : Hp → Prop} (B : Nat → Bool) (F : Nat → V) (hD : H1 D = none) (hn : n ≤ 100000)
    (hw : ∀ i : Nat, wipe ((wipe σ vs).set k (some (.int (lo + i)))) vs = wipe σ vs)
    (ht : ∀ (i : Nat) H', i < n → Same H1 H' → ∀ Qb : Bool → Hp → Prop, (∀ H'', Same H' H'' → Qb (B i) H'') → tt ((wipe σ vs).set k (some (.int (lo + i)))) H' Qb)
    (he : ∀ (i : Nat) H', i < n → B i = true → Same H1 H' → ∀ Q : VK, (∀ H'', Same H' H'' → Q (F i) H'') → te ((wipe σ vs).set k (some (.int (lo + i)))) H' Q)
    (hd : ∀ H', Same H1 H' → H' D = some (.lst (((List.range n).filter B).map F)) → Qd H') :
    ∃ W : Nat → Nat → Hp → Prop, (∃ m, W 0 m (upd H1 D (.lst []))) ∧ ∀ i m H, W i m H →
      ((Itr lo n).stop i H ∧ Qd H) ∨ ((Itr lo n).go i H ∧ ∃ Nx : Hp → Prop, (∀ H', Nx H' → ∃ m', m' < m ∧ W (i + 1) m' H') ∧ ∀ x H', (Itr lo n).yld i H x H' → (gName k) x (wipe σ vs) H' fun σ2 H2 => wipe σ2 vs = wipe σ vs ∧ tt σ2 H2 fun b H3 =>
        if b = true then te σ2 H3 fun y H4 => ∃ acc, H4 D = some (.lst acc) ∧ acc.length < sizeLine ∧ Nx (upd H4 D (.lst (acc ++ [y]))) else Nx H3) := by
  have up : ∀ {H' : Hp} {o : HO}, Same H1 H' → Same H1 (upd H' D o) := fun s b u z => by
    rw [upd_ne (ne_of_none z hD)]
    exact s b u z
  have nx : ∀ i, (List.range (i + 1)).filter B = if B i = true then (List.range i).filter B ++ [i] else (List.range i).filter B := fun i => by
    rw [List.range_succ, List.filter_append, List.filter_cons]
    split <;> simp
  refine lc_range (fun i H' => Same H1 H' ∧ H' D = some (.lst (((List.range i).filter B).map F))) ⟨same_new hD, upd_same⟩ ?_ fun H' h => hd H' h.1 h.2
  rintro i H' hi ⟨s, hl⟩
  refine ⟨hw i, ht i H' hi s _ fun H2 s2 => ?_⟩
  cases hb : B i with
  | false =>
    refine iteF ⟨s.trans s2, ?_⟩
    rw [nx i, hb]
    exact s2 _ _ hl
  | true =>
    refine iteT (he i H2 hi hb (s.trans s2) _ fun H3 s3 => ⟨_, s3 _ _ (s2 _ _ hl), ?_, up ((s.trans s2).trans s3), ?_⟩)
    · rw [List.length_map, sizeLine_eq]
      have z := List.length_filter_le B (List.range i)
      rw [List.length_range] at z
      omega
    · rw [upd_same, nx i, hb, if_pos rfl, List.map_append]
      rfl
/-! rules whose readings name K itself, for blocks -/
theorem ix_listK {X : Cx} (K : PySem.W.Frag) (h : X.K = K := by rfl) : IxR X (rIxL K) := by
  subst h
  exact ix_list
theorem cut_ints {ns : List Int} {lo hi : Option Int} (h : ns.length ≤ 63) : ∃ ns' : List Int, cutV (ns.map V.int) lo hi = ns'.map V.int ∧ ns'.length ≤ 63 := by
  have z := cutV_length (ns.map V.int) lo hi
  rw [List.length_map] at z
  unfold cutV at z ⊢
  rw [← List.map_drop, ← List.map_take] at z ⊢
  rw [List.length_map] at z
  exact ⟨_, rfl, by omega⟩
theorem iteD {p : Prop} [Decidable p] {A B : Prop} (h1 : p → A) (h2 : ¬ p → B) : if decide p = true then A else B := by
  by_cases h : p
  · rw [if_pos (decide_eq_true h)]
    exact h1 h
  · rw [if_neg (by rw [decide_eq_false h]; exact Bool.false_ne_true)]
    exact h2 h
theorem iteN {p : Prop} [Decidable p] {A B : Prop} (h1 : ¬ p → A) (h2 : p → B) : if (!decide p) = true then A else B := by
  by_cases h : p
  · rw [decide_eq_true h]
    exact h2 h
  · rw [decide_eq_false h]
    exact h1 h
theorem iteFa {b : Bool} {A B : Prop} (h : b = false) (k : B) : if b = true then A else B := by
  subst h
  exact k
theorem iteTr {b : Bool} {A B : Prop} (h : b = true) (k : A) : if b = true then A else B := by
  subst h
  exact k
theorem iteB {b : Bool} {A B : Prop} (h1 : b = true → A) (h2 : b = false → B) : if b = true then A else B := by
  cases b with
  | true => exact h1 rfl
  | false => exact h2 rfl
theorem dp_ints {K : PySem.W.Frag} {H : Hp} : ∀ ns : List Int, DpAll K H (ns.map V.int) (ns.map PyData.int)
  | [] => .nil
  | n :: l => .cons (.int n) (dp_ints l)
theorem eqv_nil : ∀ ns : List Int, PyData.eqv (.list (ns.map PyData.int)) (.list []) = ns.isEmpty
  | [] => rfl
  | n :: l => rfl
/-- what stood at other places than p stays -/
def But (p : Addr) (H H' : Hp) : Prop := ∀ b o, H b = some o → b ≠ p → H' b = some o
theorem But.refl {p : Addr} {H : Hp} : But p H H := fun _ _ h _ => h
theorem But.of {p : Addr} {H H' : Hp} (h : Same H H') : But p H H' := fun b o e _ => h b o e
theorem But.trans {p : Addr} {H H1 H2 : Hp} (a : But p H H1) (b : But p H1 H2) : But p H H2 := fun c o h n => b c o (a c o h n) n
theorem But.upd {p : Addr} {H H1 : Hp} {o : HO} (a : But p H H1) : But p H (upd H1 p o) := fun c u h n => by
  rw [upd_ne n]
  exact a c u h n
theorem But.new {p q : Addr} {H H1 : Hp} {o : HO} (a : But p H H1) (n : H1 q = none) : But p H (L2.upd H1 q o) := fun c u h z => by
  rw [upd_ne (ne_of_none (a c u h z) n)]
  exact a c u h z
/-- the pen: its cells, the index of the next one, the rest of a great one -/
structure PenAt (H : Hp) (p q : Addr) (ns : List Int) (at_ rest : Int) : Prop where
  pen : H p = some (.lst [.ref q, .int at_, .int rest])
  cells : H q = some (.lst (ns.map V.int))
  len : ns.length ≤ 63
  a0 : 0 ≤ at_
  r0 : 0 ≤ rest
theorem PenAt.ne {H : Hp} {p q : Addr} {ns : List Int} {a r : Int} (h : PenAt H p q ns a r) : q ≠ p := fun z => by
  have h1 := h.pen
  have h2 := h.cells
  rw [z, h1] at h2
  cases ns with
  | nil => cases h2
  | cons n l => cases h2
theorem PenAt.keep {H H' : Hp} {p q : Addr} {ns : List Int} {a r a' r' : Int} (h : PenAt H p q ns a r) (b : But p H H') (hp : H' p = some (.lst [.ref q, .int a', .int r'])) (h1 : 0 ≤ a') (h2 : 0 ≤ r') : PenAt H' p q ns a' r' :=
  ⟨hp, b q _ h.cells h.ne, h.len, h1, h2⟩
theorem PenAt.same {H H' : Hp} {p q : Addr} {ns : List Int} {a r : Int} (h : PenAt H p q ns a r) (b : Same H H') : PenAt H' p q ns a r :=
  ⟨b p _ h.pen, b q _ h.cells, h.len, h.a0, h.r0⟩
/-- a draw: a number below many; the pen goes on -/
def spDraw : Sp := fun vs H Q _ => ∃ (p q : Addr) (ns : List Int) (a r m : Int), vs = [.ref p, .int m] ∧ PenAt H p q ns a r ∧ 1 ≤ m ∧ m ≤ 100000 ∧ a ≤ 1000000 ∧
  ∀ (d a' r' : Int) (H' : Hp), 0 ≤ d → d < m → a ≤ a' → a' ≤ a + 1 → But p H H' → PenAt H' p q ns a' r' → Q (.int d) H'
def spPen (K : PySem.W.Frag) : Sp := fun vs H Q _ => ∃ (a : Addr) (ns : List Int), vs = [.ref a] ∧ SqL K H a (ns.map V.int) ∧ ns.length ≤ 63 ∧
  ∀ (p q : Addr) (ns' : List Int) (H' : Hp), H p = none → Same H H' → PenAt H' p q ns' 0 0 → Q (.ref p) H'
end Xr
set_option maxHeartbeats 4000000
/-! operators, comparisons, truth, length, subscripts of instances of own classes -/
namespace Xr
open PySem PySem.Spec L2
section low
open PySem.W
variable {prog : Program} {w : World} {A : Around} {E : Value → Shared → Prop} {s : Shared} {K : Frag} {x C L f : Addr} {h₀ : Heap} {m : Str → Option Value} {ox : Obj} {od : Option Obj}
/-- truth by an own __len__ -/
theorem truthy_len {Q : Bool → Shared → Prop} (X : K.In s.heap) (I : InstAt s.heap x ox C od) (hb : findIn K (.ref C) "__bool__" = some none) (hs : findIn K (.ref C) "__len__" = some (some (.ref f))) (hf : isFn K (.ref f) = true)
    (h : wpAny (model prog w) A.in1 (call (.ref f) [.ref x]) (LenBack fun v s' => ∃ n t, v = .int n t ∧ Q (n != 0) s') E s) : wpAny (model prog w) A (truthy (.ref x)) Q E s := by
  unfold truthy
  refine wpAny_bind (m := callSpecial? (.ref x) (Str.ofString "__bool__")) (wpAny_bind (wpAny_bind (I.type.here ((looks_findIn X hb).here (wpAny_pure ?_)))))
  refine wpAny_bind (wpAny_bind (I.type.here ((looks_findIn X hs).here ?_)))
  rw [if_neg (by simp)]
  refine wpAny_bind (wpAny_runValue (codeAny_builtin PySem.entry_len ?_))
  rw [Around.under_plainId PySem.plain_len]
  unfold Builtin.«len»
  refine wpAny_bind (m := oneArg "len" _) (wpAny_pure ?_)
  refine wpAny_bind (m := callSpecial? (.ref x) (Str.ofString "__len__")) (special_fn X I hs (beq_iff_eq.mp hf) (wpAny_mono h (fun r s' hr => ?_) fun _ _ y => y))
  cases r <;> first | exact hr.elim | skip
  rename_i n u
  obtain ⟨⟨h0, h1⟩, n', t', e, hq⟩ := hr
  cases e
  refine wpAny_bind (wpAny_holding (wpAny_pure ?_))
  refine wpAny_bind (wpAny_letGo ?_)
  show wpAny _ _ (if n < 0 then _ else _) _ _ _
  rw [if_neg (by omega)]
  show wpAny _ _ (if n ≥ 2 ^ 63 then _ else _) _ _ _
  rw [if_neg (by omega)]
  exact wpAny_bind (wpAny_mkInt (wpAny_pure (wpAny_pure hq)))
/-- != where the class has an own __eq__ alone -/
theorem ne_K {b tb : Value} {Q : Value → Shared → Prop} (hu : A.units + 1 < cLine) (X : K.In s.heap) (I : InstAt s.heap x ox C od) (hb : Looks (model prog w) s.heap (typeOf b) tb) (hn : notFirst K C tb = true)
    (ho : mroIn K C (.type "object") = some true) (hs : findIn K (.ref C) "__ne__" = some (some (.builtin "object.__ne__"))) (he : findIn K (.ref C) "__eq__" = some (some (.ref f))) (hf : isFn K (.ref f) = true)
    (h : wpAny (model prog w) A.in1 (call (.ref f) [.ref x, b]) (fun v s' => ∃ k, v = .bool k ∧ Q (.bool (!k)) s') E s) : wpAny (model prog w) A (richCompare .NotEq (.ref x) b) Q E s := by
  have sub : Looks (model prog w) s.heap (isInstance (.ref x) (.type "object")) true := I.type.andThen (looks_mroIn X ho)
  have one : wpAny (model prog w) A (tryCompare (.ref x) "__ne__" b) (fun r s' => ∃ v, r = some v ∧ Q v s') E s := by
    unfold tryCompare
    simp only [callSpecialIfBound?, bindSpecialIfBound?]
    have ob : ∀ self : Value, bindSpecial (.builtin "object.__ne__") self = pure (.builtin "object.__ne__", [self]) := fun self => by kernel_rfl
    have fin : wpAny (model prog w) A (call (.builtin "object.__ne__") ([.ref x] ++ [b]) >>= fun v => pure (some v)) (fun r s' => ∃ k, r = some (.bool k) ∧ Q (.bool k) s') E s := by
      refine wpAny_bind (wpAny_call (codeAny_call_builtin (by decide +kernel) F.cmpEntry_ne (check_slot F.cmpKind_ne F.cmpSplit_ne sub (F.cmpArgs_ne _ _) ?_)))
      unfold Builtin.«object.__ne__»
      refine wpAny_bind (m := slotArgs "__ne__" 1 _) (wpAny_pure ?_)
      refine wpAny_bind (wpAny_cRoomFor hu ?_)
      refine wpAny_bind (m := callSpecialIfBound? (.ref x) (Str.ofString "__eq__") _) (ifBound_K X I he hf (wpAny_mono h (fun r s' hr => ?_) fun _ _ y => y))
      obtain ⟨k, rfl, hq⟩ := hr
      exact wpAny_bind (wpAny_truthy_bool (wpAny_pure (wpAny_pure ⟨!k, rfl, hq⟩)))
    have fin2 := wpAny_mono fin (Q' := fun a s' => wpAny (model prog w) A (match a with
        | some Value.notImplemented => pure none
        | none => pure none
        | some r => pure (some r)) (fun r s' => ∃ v, r = some v ∧ Q v s') E s') (fun r s' hr => by
      obtain ⟨k, rfl, hq⟩ := hr
      exact wpAny_pure ⟨_, rfl, hq⟩) fun _ _ z => z
    refine wpAny_bind (wpAny_holding (wpAny_bind (wpAny_bind (wpAny_bind (I.type.here ((looks_findIn X hs).here ?_))))))
    refine wpAny_bind (wpAny_askSetting (wpAny_ite ?_))
    split
    · rw [ob]
      exact wpAny_bind (wpAny_pure (wpAny_pure (by exact fin2)))
    · rw [ob]
      exact wpAny_tryCatch (wpAny_bind (wpAny_pure (wpAny_pure (by exact fin2))))
  unfold richCompare
  simp only [oneThing_ref]
  refine wpAny_holding (wpAny_bind (wpAny_cRoomFor (Nat.lt_of_succ_lt hu) ?_))
  rw [cmpInfo_NotEq]
  dsimp only
  refine wpAny_bind (I.type.here (wpAny_bind (hb.here ?_)))
  split
  · rename_i q
    have e : subIn K tb (.ref C) = some false := by
      rcases Bool.or_eq_true_iff.mp hn with e | e
      · rw [beq_iff_eq.mp e] at q; simp at q
      · exact beq_iff_eq.mp e
    refine wpAny_bind ((looks_subIn X e).here ?_)
    simp only [Bool.false_eq_true, if_false]
    refine wpAny_bind (wpAny_mono one (fun r s' z => ?_) fun _ _ e => e)
    obtain ⟨v, rfl, hq⟩ := z
    exact wpAny_pure hq
  · refine wpAny_bind (wpAny_pure ?_)
    simp only [Bool.false_eq_true, if_false]
    refine wpAny_bind (wpAny_mono one (fun r s' z => ?_) fun _ _ e => e)
    obtain ⟨v, rfl, hq⟩ := z
    exact wpAny_pure hq
end low
end Xr
set_option maxHeartbeats 4000000
namespace Xr
open PySem PySem.Spec PyProof.Rows L2
section
variable {prog : Program} {w : World} {A : Around} {E : Value → Shared → Prop} {s : Shared}
/-- bool(x), by truth -/
theorem bool_of {x : Value} {Q : Value → Shared → Prop} (h : wpAny (model prog w) A.in1.in1 (truthy x) (fun b s' => Q (.bool b) s') E s) : wpAny (model prog w) A (call (.type "bool") [x]) Q E s := by
  refine callType_codes (T := "bool") (Bi := Builtin.«object.__init__») (Q₁ := fun r s₁ => ∃ b, r = Value.bool b ∧ Q r s₁) PySem.F.called_bool (PySem.F.typeCall_bool_1 _) PySem.F.entry_object_init ?_ ?_
  · refine codeAny_of_tree ?_
    show wpAny _ A.in1.in1 (do checkBuiltinCall "bool.__new__" ⟨[.type "bool", x], []⟩; again (.builtin "bool.__new__" ⟨[.type "bool", x], []⟩)) _ _ s
    refine wpAny_bind (wpAny_of_eq (PySem.F.newCall_bool_1 _) (wpAny_pure ⟨plainId_quiet (by decide +kernel) _, codeAny_builtin PySem.F.entry_bool_new ?_⟩))
    rw [Around.under_plainId (by decide +kernel) _]
    unfold Builtin.«bool.__new__»
    refine wpAny_bind (wpAny_of_eq (a := true) (by kernel_rfl) ?_)
    refine PySem.W.KFB.if_not rfl ?_
    refine wpAny_bind (wpAny_of_eq (a := true) PySem.F.conv_sub_bool ?_)
    refine PySem.W.KFB.if_not rfl ?_
    refine wpAny_bind (wpAny_of_eq (a := [x]) rfl ?_)
    refine wpAny_bind (wpAny_mono h (fun b s' q => ?_) fun _ _ y => y)
    exact wpAny_pure ⟨b, rfl, q⟩
  · rintro obj s₁ ⟨b, rfl, hq⟩
    exact ⟨PySem.typeIs_bool _ _, PySem.F.args_object_init_2 _ _, object_init_meets PySem.F.called_bool.init.lookup PySem.F.called_bool.made (by decide) prog w A.in1 _ s₁ ⟨PySem.typeIs_bool _ _, rfl, hq⟩⟩
end
section
variable {X : Cx} {CX : CXT} {pins : List (Addr × Obj)} {σ : L2.St} {H : Hp} {s : Shared} {a C f : Addr} {k : Nat} {sp : Sp} {E : XK}
theorem back_of {Q : VK} {u : Value} {s' : Shared} (h : EP X pins σ Q u s') : PySem.W.CmpBack (EP X pins σ Q) u s' := by
  obtain ⟨v, H', I, r, q⟩ := id h
  unfold PySem.W.CmpBack
  split
  · cases v with
    | int i =>
      obtain ⟨t, z⟩ := r
      cases z
    | str i =>
      obtain ⟨t, z⟩ := r
      cases z
    | byt i =>
      obtain ⟨t, z⟩ := r
      cases z
    | flt i =>
      obtain ⟨t, z⟩ := r
      cases z
    | _ => cases r
  · exact h
/-- an own def runs below the running body -/
theorem run_in {A : Around} {Q : VK} {us : List Value} {vs : List V} (F : FnR X.prog X.w X.K X.mg X.base CX k f sp) (hr : Room k A) (hA : A.frames = X.A.frames) (hx : Passes CX X E) (I : Inv X pins σ H s) (r : Vals vs us) (h : sp vs H Q E) :
    wpAny (model X.prog X.w) A (call (.ref f) us) (EP X pins σ Q) X.xe s := by
  have e := I.env0
  exact wpAny_call (SlX.run_at F hr ⟨by rw [hA]; exact e.frames, e.mod, e.bs, e.bsz, e.funs, e.frf, e.hok, e.bare⟩ hx I r h)
theorem inst_of {dx : Addr} {fs : List (Str × V)} (I : Inv X pins σ H s) (e : H a = some (.ins C dx fs)) : ∃ od, PySem.W.InstAt s.heap a (PySem.W.instObj C dx) C (some od) := by
  obtain ⟨mA, O, _⟩ := ins_get I.hok e
  obtain ⟨od, J, _⟩ := O.look
  exact ⟨od, J⟩
/-- the type of a value, as typeOf tells it -/
theorem ty_looks {x : V} {u t : Value} (I : Inv X pins σ H s) (rx : RelV x u) (ty : TyX X.K H x t) : PySem.W.Looks (model X.prog X.w) s.heap (typeOf u) t := by
  obtain ⟨P, k, p, _⟩ := kit_of I rx ty
  exact k.ty _ _ I.kIn p
/-- a special method of the class at C, found as the def at f -/
structure Sm (K : PySem.W.Frag) (C : Addr) (m : Str) (f : Addr) : Prop where
  at_ : PySem.W.findIn K (.ref C) m = some (some (.ref f))
  fn : PySem.W.isFn K (.ref f) = true
def rOp (C : Addr) (sp : Sp) (E : XK) : R2 := fun x y H Q => ∃ a b dx dy fs gs, x = .ref a ∧ y = .ref b ∧ H a = some (.ins C dx fs) ∧ H b = some (.ins C dy gs) ∧ sp [x, y] H Q E
/-- a op b, both of the class at C -/
theorem op_own {op : Operator} (hc : PySem.W.selfFirst X.K C = true) (h : Sm X.K C (PySem.dunder op.info.2) f) (F : FnR X.prog X.w X.K X.mg X.base CX k f sp) (hr : Room k X.A) (hx : Passes CX X E) : OpR X (binaryOp op) (rOp C sp E) := by
  intro pins s σ H x y v u Q I rx ry q
  obtain ⟨a, b, dx, dy, fs, gs, rfl, rfl, ha, hb, q⟩ := q
  cases rx
  cases ry
  obtain ⟨od, J⟩ := inst_of I ha
  obtain ⟨od', J'⟩ := inst_of I hb
  obtain ⟨m, hF⟩ := I.fr
  refine PySem.W.binop_K hF I.ok.mod.kin J J'.type hc h.at_ h.fn (wpAny_mono (run_in (us := [.ref a, .ref b]) (vs := [.ref a, .ref b]) F hr rfl hx I (.cons rfl (.cons rfl .nil)) q) (fun _ _ z => back_of z) fun _ _ z => z)
def rOpI (C : Addr) (sp : Sp) (E : XK) : R2 := fun x y H Q => ∃ a dx fs i, x = .ref a ∧ y = .int i ∧ H a = some (.ins C dx fs) ∧ sp [x, y] H Q E
/-- a op n, n a whole number -/
theorem op_ownI {op : Operator} {fo ro : Option Value} (hc : PySem.W.selfFirst X.K C = true) (h : Sm X.K C (PySem.dunder op.info.2) f) (h0 : PySem.W.findIn X.K (.ref C) (dunderR op.info.2) = some none) (h1 : PySem.W.findIn X.K (.type "int") (PySem.dunder op.info.2) = some fo)
    (h2 : PySem.W.findIn X.K (.type "int") (dunderR op.info.2) = some ro) (hs : PySem.W.subIn X.K (.type "int") (.ref C) = some false) (F : FnR X.prog X.w X.K X.mg X.base CX k f sp) (hr : Room k X.A) (hx : Passes CX X E) : OpR X (binaryOp op) (rOpI C sp E) := by
  intro pins s σ H x y v u Q I rx ry q
  obtain ⟨a, dx, fs, i, rfl, rfl, ha, q⟩ := q
  cases rx
  obtain ⟨t, rfl⟩ := ry
  obtain ⟨od, J⟩ := inst_of I ha
  obtain ⟨m, hF⟩ := I.fr
  exact PySem.W.ksp_binT hF I.ok.mod.kin J rfl hc h.at_ h.fn h0 (.inl rfl) h1 h2 hs (wpAny_mono (run_in (us := [.ref a, .int i t]) (vs := [.ref a, .int i]) F hr rfl hx I (.cons rfl (.cons ⟨t, rfl⟩ .nil)) q) (fun _ _ z => back_of z) fun _ _ z => z)
def rUn (C : Addr) (sp : Sp) (E : XK) : V → Hp → VK → Prop := fun x H Q => ∃ a dx fs, x = .ref a ∧ H a = some (.ins C dx fs) ∧ sp [x] H Q E
/-- -a -/
theorem un_own (h : Sm X.K C "__neg__" f) (F : FnR X.prog X.w X.K X.mg X.base CX k f sp) (hr : Room k X.A) (hx : Passes CX X E) : UnR X (unaryOp .USub) (rUn C sp E) := by
  intro pins s σ H x v Q I rx q
  obtain ⟨a, dx, fs, rfl, ha, q⟩ := q
  cases rx
  obtain ⟨od, J⟩ := inst_of I ha
  obtain ⟨m, hF⟩ := I.fr
  exact PySem.W.ksp_neg hF I.ok.mod.kin J h.at_ h.fn (run_in (us := [.ref a]) (vs := [.ref a]) F hr rfl hx I (.cons rfl .nil) q)
/-- a == y by an own __eq__ -/
def rEqO (K : PySem.W.Frag) (C : Addr) (sp : Sp) (E : XK) : R2 := fun x y H Q => ∃ a dx fs t, x = .ref a ∧ H a = some (.ins C dx fs) ∧ TyX K H y t ∧ PySem.W.notFirst K C t = true ∧ sp [x, y] H Q E
theorem op_eqO (h : Sm X.K C "__eq__" f) (F : FnR X.prog X.w X.K X.mg X.base CX k f sp) (hr : Room k X.A) (hx : Passes CX X E) : OpR X (compareOp .Eq) (rEqO X.K C sp E) := by
  intro pins s σ H x y v u Q I rx ry q
  obtain ⟨a, dx, fs, t, rfl, ha, ht, hn, q⟩ := q
  cases rx
  obtain ⟨od, J⟩ := inst_of I ha
  obtain ⟨m, hF⟩ := I.fr
  exact PySem.W.cmp_K (op := .Eq) hr.units0 hF I.ok.mod.kin J (ty_looks I ry ht) hn h.at_ h.fn (wpAny_mono (run_in (us := [.ref a, u]) (vs := [.ref a, y]) F hr rfl hx I (.cons rfl (.cons ry .nil)) q) (fun _ _ z => back_of z) fun _ _ z => z)
/-- a != y where the class has an own __eq__ alone -/
def rNeO (K : PySem.W.Frag) (C : Addr) (sp : Sp) (E : XK) : R2 := fun x y H Q => ∃ a dx fs t, x = .ref a ∧ H a = some (.ins C dx fs) ∧ TyX K H y t ∧ PySem.W.notFirst K C t = true ∧ sp [x, y] H (fun v H' => ∃ k, v = .bl k ∧ Q (.bl (!k)) H') E
theorem op_neO (h : Sm X.K C "__eq__" f) (hne : PySem.W.findIn X.K (.ref C) "__ne__" = some (some (.builtin "object.__ne__"))) (ho : PySem.W.mroIn X.K C (.type "object") = some true) (F : FnR X.prog X.w X.K X.mg X.base CX k f sp) (hr : Room (k + 1) X.A) (hx : Passes CX X E) :
    OpR X (compareOp .NotEq) (rNeO X.K C sp E) := by
  intro pins s σ H x y v u Q I rx ry q
  obtain ⟨a, dx, fs, t, rfl, ha, ht, hn, q⟩ := q
  cases rx
  obtain ⟨od, J⟩ := inst_of I ha
  refine ne_K (by have := hr.units; omega) I.kIn J (ty_looks I ry ht) hn ho hne h.at_ h.fn (wpAny_mono (run_in (us := [.ref a, u]) (vs := [.ref a, y]) F hr.in1 rfl hx I (.cons rfl (.cons ry .nil)) q) (fun w s' z => ?_) fun _ _ z => z)
  obtain ⟨v', H', I', r', kk, rfl, q'⟩ := z
  cases r'
  exact ⟨kk, rfl, .bl (!kk), H', I', rfl, q'⟩
/-- what len tells -/
def rLenO (C : Addr) (sp : Sp) (E : XK) : List V → Hp → VK → Prop := fun xs H Q => ∃ a dx fs, xs = [.ref a] ∧ H a = some (.ins C dx fs) ∧ sp xs H (fun v H' => ∃ n : Int, v = .int n ∧ 0 ≤ n ∧ n < 2 ^ 63 ∧ Q (.int n) H') E
theorem len_back {Q : Value → Shared → Prop} {Q' : Int → Hp → Prop} (hq : ∀ (n : Int) (H' : Hp) (s' : Shared) (t : Nat), Inv X pins σ H' s' → Q' n H' → Q (.int n t) { s' with toks := t + 1 }) {u : Value} {s' : Shared}
    (h : EP X pins σ (fun v H' => ∃ n : Int, v = .int n ∧ 0 ≤ n ∧ n < 2 ^ 63 ∧ Q' n H') u s') : PySem.W.LenBack Q u s' := by
  obtain ⟨v, H', I, r, n, rfl, h0, h1, q⟩ := h
  obtain ⟨t, rfl⟩ := r
  exact ⟨⟨h0, h1⟩, hq n H' s' _ I q⟩
theorem call_lenO (h : Sm X.K C "__len__" f) (F : FnR X.prog X.w X.K X.mg X.base CX k f sp) (hr : Room (k + 1) X.A) (hx : Passes CX X E) : CallR X (.builtin "len") (rLenO C sp E) := by
  intro pins s σ H xs us Q I r q
  obtain ⟨a, dx, fs, rfl, ha, q⟩ := q
  obtain ⟨u, rfl, ru⟩ := vals1 r
  cases ru
  obtain ⟨od, J⟩ := inst_of I ha
  obtain ⟨m, hF⟩ := I.fr
  refine PySem.W.len_K hF I.ok.mod.kin J h.at_ h.fn (wpAny_mono (run_in (us := [.ref a]) (vs := [.ref a]) F hr.in1 rfl hx I (.cons rfl .nil) q) (fun w s' z => len_back (Q' := fun n H' => Q (.int n) H') (fun n H' s' t I' q' => ?_) z) fun _ _ z => z)
  exact ⟨.int n, H', I'.tok _, ⟨_, rfl⟩, q'⟩
def rTruO (C : Addr) (sp : Sp) (E : XK) : V → Hp → (Bool → Hp → Prop) → Prop := fun x H Q => ∃ a dx fs, x = .ref a ∧ H a = some (.ins C dx fs) ∧ sp [x] H (fun v H' => ∃ n : Int, v = .int n ∧ 0 ≤ n ∧ n < 2 ^ 63 ∧ Q (n != 0) H') E
theorem tru_in {A : Around} {x : V} {v : Value} {Q : Bool → Hp → Prop} (hb : PySem.W.findIn X.K (.ref C) "__bool__" = some none) (h : Sm X.K C "__len__" f) (F : FnR X.prog X.w X.K X.mg X.base CX k f sp) (hr : Room (k + 1) A) (hA : A.frames = X.A.frames) (hx : Passes CX X E)
    (I : Inv X pins σ H s) (rx : RelV x v) (q : rTruO C sp E x H Q) : wpAny (model X.prog X.w) A (truthy v) (TP X pins σ Q) X.xe s := by
  obtain ⟨a, dx, fs, rfl, ha, q⟩ := q
  cases rx
  obtain ⟨od, J⟩ := inst_of I ha
  refine truthy_len I.kIn J hb h.at_ h.fn (wpAny_mono (run_in (us := [.ref a]) (vs := [.ref a]) F hr.in1 hA hx I (.cons rfl .nil) q) (fun w s' z => len_back (Q' := fun n H' => Q (n != 0) H') (fun n H' s' t I' q' => ?_) z) fun _ _ z => z)
  exact ⟨n, t, rfl, H', I'.tok _, q'⟩
theorem tru_own (hb : PySem.W.findIn X.K (.ref C) "__bool__" = some none) (h : Sm X.K C "__len__" f) (F : FnR X.prog X.w X.K X.mg X.base CX k f sp) (hr : Room (k + 1) X.A) (hx : Passes CX X E) : TruR X (rTruO C sp E) :=
  fun pins s σ H x v Q I rx q => tru_in hb h F hr rfl hx I rx q
/-- bool(a) -/
theorem call_boolO (hb : PySem.W.findIn X.K (.ref C) "__bool__" = some none) (h : Sm X.K C "__len__" f) (F : FnR X.prog X.w X.K X.mg X.base CX k f sp) (hr : Room (k + 3) X.A) (hx : Passes CX X E) :
    CallR X (.type "bool") (fun xs H Q => ∃ x, xs = [x] ∧ rTruO C sp E x H fun b H' => Q (.bl b) H') := by
  intro pins s σ H xs us Q I r q
  obtain ⟨x, rfl, q⟩ := q
  obtain ⟨u, rfl, ru⟩ := vals1 r
  have hr2 : Room (k + 1) X.A.in1.in1 := (show Room (k + 2) X.A.in1 from Room.in1 hr).in1
  refine bool_of (wpAny_mono (tru_in hb h F hr2 rfl hx I ru q) (fun b s' z => ?_) fun _ _ z => z)
  obtain ⟨H', I', q'⟩ := z
  exact ⟨.bl b, H', I', rfl, q'⟩
/-- not a, as a value -/
theorem pe_notO {e : Expr} {pos : Pos} {ta : TE} (hb : PySem.W.findIn X.K (.ref C) "__bool__" = some none) (h : Sm X.K C "__len__" f) (F : FnR X.prog X.w X.K X.mg X.base CX k f sp) (hr : Room (k + 1) X.A) (hx : Passes CX X E) (ha : PE X e ta) :
    PE X (.UnaryOp .Not e pos) (fun σ H Q => ta σ H fun x H1 => rTruO C sp E x H1 fun b H2 => Q (.bl (!b)) H2) := by
  refine ⟨fun pins s σ H Q I h' => ?_⟩
  refine UnaryOp_ (thn (ha.run pins s σ H _ I h') fun v s1 ⟨x, H1, I1, r1, q1⟩ => ?_)
  exact not_of (thn (tru_in hb h F hr rfl hx I1 r1 q1) fun c s2 ⟨H2, I2, q2⟩ => ⟨.bl (!c), H2, I2, rfl, q2⟩)
def rIxO (C : Addr) (sp : Sp) (E : XK) : R2 := fun x y H Q => ∃ a dx fs, x = .ref a ∧ H a = some (.ins C dx fs) ∧ sp [x, y] H Q E
/-- a[y] -/
theorem pe_ixO {e i : Expr} {pos : Pos} {ta tb : TE} (h : Sm X.K C "__getitem__" f) (hfn : PySem.W.fnIn X.K f = true) (F : FnR X.prog X.w X.K X.mg X.base CX k f sp) (hr : Room (k + 1) X.A) (hx : Passes CX X E) (ha : PE X e ta) (hb : PE X i tb)
    (hsl : ∀ o j, subscripted i true o j = runValue (.builtin "lifetime.subscript" ⟨[o, j], []⟩) := by intros; rfl) : PE X (.Subscript e i pos) (tOp (rIxO C sp E) ta tb) := by
  refine ⟨fun pins s σ H Q I h' => ?_⟩
  refine Subscript_ (binT ha hb I h' fun v u s2 x y H2 I2 rx ry q => ?_)
  obtain ⟨a, dx, fs, rfl, he, q⟩ := q
  cases rx
  obtain ⟨od, J⟩ := inst_of I2 he
  obtain ⟨m, hF⟩ := I2.fr
  exact PySem.W.sub_K hF I2.ok.mod.kin J h.at_ hfn h.fn (run_in (us := [.ref a, u]) (vs := [.ref a, y]) F hr.in1 rfl hx I2 (.cons rfl (.cons ry .nil)) q) (hsl _ _)
end
end Xr
set_option maxHeartbeats 4000000
/-! super().__init__() in a plain class; def f(self, **d) -/
namespace Xr
open PySem PySem.Spec PyProof.Rows L2
section
open PySem.W
variable {prog : Program} {w : World} {A : Around} {E : Value → Shared → Prop} {K : Frag} {mg : Str → Option Value} {base : Heap} {C fI cda cc : Addr}
/-- super() of an instance: the receiver -/
theorem supRecv {s : Shared} {body : List Stmt} {q' : Str} {fd : FuncData} {sc : Scope} {L e : Addr} {m : Str → Option Value} {oc ccl cl : Value} {od cdd cld : Option Addr} {osl ccs csl : Array (Option Value)} {vs : Array Value} {tf : Tok} {p0 p1 : Pos} {whole : Sem Value} {Q : Value → Shared → Prop} {ox : Obj} {ar : Arg}
    (hk : sc.kind = .function) (hks : sc.names.lookup ("super" : Str) = some .globalImplicit) (hkc : sc.names.lookup ("__class__" : Str) = some .free) (ha : (fd.params.posonlyargs ++ fd.params.args).head? = some ar) (hla : sc.names.lookup ar.arg = some .local)
    (M : L2.Mod K mg base) (st : ∀ b o, base.get? b = some o → s.heap.get? b = some o) (hns : s.heap.Ns L m) (hm : m ar.arg = some (.ref e)) (he : s.heap.get? e = some ox) (hx : ox.cls = .ref C) (hxc : ∀ c, ox.data ≠ .cls c)
    (hf : K.lookup fI = some ⟨oc, od, .func fd, osl⟩) (hc : K.lookup cda = some ⟨ccl, cdd, .fields vs, ccs⟩) (hv : vs[2]? = some (.str prog.main.file tf))
    (hcell : K.lookup cc = some ⟨cl, cld, .cell (some (.ref C)), csl⟩) {cd : ClassData} (hC : clsIn K C = some cd) (hsub : subIn K (.ref C) (.ref C) = some true) (hsup : nsIn K mainGlobals "super" = some none) (htop : (prog.main.scope.names.lookup ("super" : Str)).isSome = false)
    (h : ∀ h', h'.get? s.heap.objs.size = some (ks_superObj C e C) → (∀ b o, s.heap.get? b = some o → h'.get? b = some o) → Q (.ref s.heap.objs.size) { s with heap := h' }) :
    PySem.wpAt (model prog w) A (.func body (ksEnv q' sc L fI (.ref cda) cc)) (attributeBase (.Call (.Name "super" p0) [] [] p1) "__init__" (ksEnv q' sc L fI (.ref cda) cc) whole) Q E s := by
  have X : K.In s.heap := M.kin.keeps st
  obtain ⟨hh, g, d, t, os⟩ := s
  obtain ⟨oD, hD1, hD2⟩ : ∃ oD, hh.get? C = some oD ∧ oD.data = .cls cd := by
    unfold clsIn at hC
    split at hC
    · rename_i c d cd' sl ho
      cases hC
      exact ⟨_, X _ _ ho, rfl⟩
    · cases hC
  obtain ⟨mb, hb, hbv⟩ := M.blt
  refine ks_wpAt_super_base (env := ksEnv q' sc L fI (.ref cda) cc) hks hkc (by decide) rfl (X _ _ hf) rfl ha rfl (X _ _ hc) rfl hv (by simp) htop ?_
  refine ks_loadName_global hk hks (PySem.Calls.loadGlobal_builtin (env := ksEnv q' sc L fI (.ref cda) cc) (M.glob.keeps st) (mg_none_of M.kin M.glob hsup) (hb.keeps st) ((hbv _ (by decide +kernel)).trans bootSuper) ⟨rfl, ?_⟩)
  refine wpAny_loadName_free hk hkc rfl ⟨_, X _ _ hcell, rfl⟩ ?_
  refine wpAny_loadName_local hk hla hns hm ?_
  refine ks_wpAny_isType_cls hD1 hD2 ⟨rfl, ?_⟩
  exact ks_wpAny_call_super hD1 hD2 he hx hxc (looks_subIn X hsub) fun h' z k => h h' z k
end
/-- a def of the class at C that says super().__init__(..): the def above it is at g -/
structure SupF (P : Program) (K : PySem.W.Frag) (C f g : Addr) (q : Str) (params : Arguments) (body : List Stmt) (sc : Scope) (fd : FuncData) (cda cc : Addr) : Prop where
  fn : ∃ kV doc pm an ct oc od osl, fd = PySem.W.ksFn "__init__" q params body sc .none kV doc pm an (.ref cda) ct cc ∧ K.lookup f = some ⟨oc, od, .func fd, osl⟩
  code : PySem.W.codeIn K (.ref cda) q = true
  cell : ∃ cl cld csl, K.lookup cc = some ⟨cl, cld, .cell (some (.ref C)), csl⟩
  file : ∃ ccl cdd vs ccs tf, K.lookup cda = some ⟨ccl, cdd, .fields vs, ccs⟩ ∧ vs[2]? = some (.str P.main.file tf)
  cls : ∃ cd, PySem.W.clsIn K C = some cd
  sub : PySem.W.subIn K (.ref C) (.ref C) = some true
  up : PySem.W.ks_superIn K C C "__init__" = some (some (.ref g))
  tg : PySem.W.typeIn K (.ref g) = some (.type "function")
  fg : PySem.W.fnIn K g = true
  opq : PySem.W.nsIn K cStatics "thirdparty.any" = some none
  sup : PySem.W.nsIn K mainGlobals "super" = some none
  top : (P.main.scope.names.lookup ("super" : Str)).isSome = false
abbrev supNF (q : Str) (params : Arguments) (body : List Stmt) (sc : Scope) (cda cc : Addr) : NdefX.NF := ⟨"__init__", q, params, body, sc, [("__class__", cc)], cda⟩
/-- super().__init__() behind its receiver -/
theorem sup_go {X : Cx} {CX' : CXT} {k : Nat} {σ : L2.St} {H : Hp} {s : Shared} {h1 : Heap} {C g a dx : Addr} {fs : List (Str × V)} {spG : Sp} {E' : XK} {Q : VK} {pl : Sem Bool} {p4 : Pos} (I : Inv X [] σ H s) (ea : H a = some (.ins C dx fs)) (G : FnR X.prog X.w X.K X.mg X.base CX' k g spG) (hr : Room k X.A) (hx : Passes CX' X E')
    (hs1 : h1.get? s.heap.objs.size = some (PySem.W.ks_superObj C a C)) (k1 : ∀ b o, s.heap.get? b = some o → h1.get? b = some o) (hcd : ∃ cd, PySem.W.clsIn X.K C = some cd) (up : PySem.W.ks_superIn X.K C C "__init__" = some (some (.ref g))) (tg : PySem.W.typeIn X.K (.ref g) = some (.type "function"))
    (fg : PySem.W.fnIn X.K g = true) (opq : PySem.W.nsIn X.K cStatics "thirdparty.any" = some none) (h : spG [.ref a] H Q E') :
    wpAny (model X.prog X.w) X.A (getMethod (.ref s.heap.objs.size) "__init__" pl) (fun fx s2 => wpAny (model X.prog X.w) X.A (callWith p4 fx.1 fx.2 (backTo p4 (starEach [] X.env)) []) (EP X [] σ Q) X.xe s2) X.xe { s with heap := h1 } := by
  have I1 : Inv X [(s.heap.objs.size, PySem.W.ks_superObj C a C)] σ H { s with heap := h1, toks := s.toks } := ClX.pin_new I k1 (Nat.le_refl _) hs1 (fun v z => nomatch z)
  obtain ⟨cd, hc⟩ := hcd
  have X1 : X.K.In h1 := I1.kIn
  obtain ⟨od0, J0⟩ := inst_of I1 ea
  unfold PySem.W.ks_superIn at up
  rw [hc] at up
  obtain ⟨of, hof, hofc⟩ : ∃ of, h1.get? g = some of ∧ of.cls = .type "function" := by
    have ht' : (X.K.lookup g).map (·.cls) = some (.type "function") := tg
    cases z : X.K.lookup g with
    | none => rw [z] at ht'; cases ht'
    | some of => rw [z] at ht'; exact ⟨of, X1 _ _ z, Option.some.inj ht'⟩
  obtain ⟨hh, gg, d, t, os⟩ := s
  refine PySem.ks_wpAny_getMethod_super hs1 (PySem.W.looks_opaque X1 opq) (l₀ := cd.mro) (fun A Q E s k q => wpAny_bind ((PySem.W.looks_clsIn X1 hc) A _ E s k (wpAny_pure q))) rfl X1 up hof hofc (PySem.W.ks_ne X1 J0 hc) (by decide) ?_
  have I2 : Inv X [(h1.objs.size, PySem.W.methodObj (.ref g) (.ref a)), (hh.objs.size, PySem.W.ks_superObj C a C)] σ H ⟨h1.push (PySem.W.methodObj (.ref g) (.ref a)), gg, d, t + 1, os⟩ :=
    ClX.pin_new (s := ⟨h1, gg, d, t, os⟩) (t' := t + 1) I1 (fun _ _ z => Heap.get?_push_of_some _ z) (Nat.le_refl _) (Heap.get?_push_size h1 rfl) (fun v z => nomatch z)
  refine PySem.W.callWith_M0 (X := ⟨ClX.pin_at I2, I2.kIn⟩) fg ?_
  have z := ClX.run_cm (us := []) (vs := []) (Q := Q) G hr hx I2 .nil h
  exact thn z fun _ _ y => ClX.unpinE y
section
variable {CX CX' : CXT} {P : Program} {w : World} {K : PySem.W.Frag} {mg : Str → Option Value} {base : Heap} {k : Nat} {f C g : Addr} {q : Str} {params : Arguments} {rest : List Stmt} {sc : Scope} {fd : FuncData} {N ps : List Str} {sp spG : Sp} {cda cc : Addr} {p0 p1 p2 p4 p5 : Pos}
theorem fn_sup0 (T : SupF P K C f g q params (.Expr (supCall p0 p1 p2 p4 []) p5 :: rest) sc fd cda cc) (S : NdefX.NScope N (("self" : Str) :: ps) ["__class__"] sc) (hks : sc.names.lookup ("super" : Str) = some .globalImplicit) (ha : ∃ ar, (params.posonlyargs ++ params.args).head? = some ar ∧ ar.arg = "self") (ev : SupEv p0 p1 p2 p4 [])
    (G : FnR P w K mg base CX' k g spG) (len : ∀ vs H Q E, sp vs H Q E → vs.length = ps.length + 1)
    (hbody : ∀ (A : Around) (outer : List Env) (s : Shared) (H : Hp) (vs : List V) (Q : VK) (E : XK), Room k (A.deeper (NdefX.envF (supNF q params (.Expr (supCall p0 p1 p2 p4 []) p5 :: rest) sc cda cc) f s.heap.objs.size)) → sp vs H Q E →
      ∃ a dx fs ws u E', vs = .ref a :: ws ∧ H a = some (.ins C dx fs) ∧ Passes CX' (NdefX.ncx CX P w K mg base N (supNF q params (.Expr (supCall p0 p1 p2 p4 []) p5 :: rest) sc cda cc) f A outer s H E) E' ∧
        PSs (NdefX.ncx CX P w K mg base N (supNF q params (.Expr (supCall p0 p1 p2 p4 []) p5 :: rest) sc cda cc) f A outer s H E) rest u ∧
        spG [.ref a] H (fun _ H2 => u { nx := fun _ H' => Q .non H', rt := Q } (NdefX.startF N vs [none]) H2) E') :
    FnOk P w K mg base CX (k + 1) f fd (("self" : Str) :: ps) sp := by
  obtain ⟨kV, doc, pm, an, ct, oc, od, osl, rfl, lk⟩ := T.fn
  obtain ⟨cl, cld, csl, hcell⟩ := T.cell
  obtain ⟨ccl, cdd, vs0, ccs, tf, hcda, hvs⟩ := T.file
  obtain ⟨cd, hcd⟩ := T.cls
  obtain ⟨ar, har, hself⟩ := ha
  refine ⟨len, fun A outer s H args us vs Q E hr e0 hb r hsp => ?_⟩
  have hl := len _ _ _ _ hsp
  have keep0 : ∀ b o, base.get? b = some o → s.heap.get? b = some o := fun b o z => (e0.bs b o z).1
  have KX : K.In s.heap := e0.mod.kin.keeps keep0
  have hloc : ∀ y ∈ (("self" : Str) :: ps).zip us, sc.names.lookup y.1 = some .local := fun y hy => S.par _ (List.of_mem_zip (show (y.1, y.2) ∈ _ from hy)).1
  obtain ⟨a, dx, fs, ws, u, E', rfl, ea, hx, hu, hg⟩ := hbody A outer s H vs Q E (hr.deeper _) hsp
  obtain ⟨ua, uw, rfl, ra, rw'⟩ : ∃ ua uw, us = ua :: uw ∧ RelV (.ref a) ua ∧ Vals ws uw := by
    cases r with
    | cons a b => exact ⟨_, _, rfl, a, b⟩
  cases ra
  refine PySem.ks_codeAny_call_defAt (fd := PySem.W.ksFn "__init__" q params (.Expr (supCall p0 p1 p2 p4 []) p5 :: rest) sc .none kV doc pm an (.ref cda) ct cc) (body := .Expr (supCall p0 p1 p2 p4 []) p5 :: rest) (binds := (("self" : Str) :: ps).zip (Value.ref a :: uw))
    hr.depth (KX _ _ lk) rfl (e0.mod.nolimit.keeps keep0) (PySem.W.codeRec_of KX T.code) rfl hb S.nocell hloc (fun h0 hns k0 => ?_) S.co S.gen S.kind
  show PySem.wpAt _ _ (.func (.Expr (supCall p0 p1 p2 p4 []) p5 :: rest) (PySem.W.ksEnv q sc s.heap.objs.size f (.ref cda) cc)) (execs (.Expr (supCall p0 p1 p2 p4 []) p5 :: rest) (PySem.W.ksEnv q sc s.heap.objs.size f (.ref cda) cc)) _ _ _
  have ok : ∀ y c, ([("__class__", cc)] : List (Str × Addr)).lookup y = some c → y = "__class__" ∧ c = cc := fun y c e => by
    by_cases hy : y = "__class__"
    · subst hy
      simp [List.lookup] at e
      exact ⟨rfl, e.symm⟩
    · have : (y == ("__class__" : Str)) = false := beq_eq_false_iff_ne.mpr hy
      simp [List.lookup, this] at e
  have cells : NdefX.CellsAt [("__class__", cc)] ["__class__"] [none] s.heap H := by
    refine ⟨rfl, fun y c e => ?_, fun x y c e1 e2 => (ok x c e1).1.trans (ok y c e2).1.symm, fun i y e => ?_⟩
    · rw [(ok y c e).2]
      have z := e0.mod.kin _ _ hcell
      exact ⟨(e0.bs _ _ z).2, _, _, (e0.bs _ _ z).1, rfl⟩
    · cases i with
      | zero =>
        cases e
        exact ⟨cc, by simp [List.lookup], fun v e => by cases e⟩
      | succ i => cases e
  have I0 : Inv (NdefX.ncx CX P w K mg base N (supNF q params (.Expr (supCall p0 p1 p2 p4 []) p5 :: rest) sc cda cc) f A outer s H E) [] (NdefX.startF N (.ref a :: ws) [none]) H { s with heap := h0, toks := s.toks + ((("self" : Str) :: ps).zip (Value.ref a :: uw)).length } :=
    NdefX.inv_startN (F := supNF q params (.Expr (supCall p0 p1 p2 p4 []) p5 :: rest) sc cda cc) S hr.hd e0 hl (.cons rfl rw') cells hns k0
  have hint : interactive (PySem.W.ksEnv q sc s.heap.objs.size f (.ref cda) cc) = false := by
    unfold interactive
    simp [S.kind]
  obtain ⟨pl, hpl⟩ := ev (PySem.W.ksEnv q sc s.heap.objs.size f (.ref cda) cc)
  obtain ⟨od0, J0⟩ := inst_of I0 ea
  refine ks_wpAt_execs_cons (ks_wpAt_Expr_any (hi := hint) (ks_wpAt_MethodCall (he := hpl) (supRecv (fd := PySem.W.ksFn "__init__" q params (.Expr (supCall p0 p1 p2 p4 []) p5 :: rest) sc .none kV doc pm an (.ref cda) ct cc) (ar := ar) S.kind hks (S.frk _ (List.mem_cons_self ..)) har
    (by rw [hself]; exact S.par _ (List.mem_cons_self ..)) e0.mod (fun b o z => k0 b o (keep0 b o z)) hns ?_ J0.at_ J0.cls (fun c z => by cases z) lk hcda hvs hcell hcd T.sub T.sup T.top (fun h1 hs1 k1 => ?_))))
  · have nd : (("self" : Str) :: ps).Nodup := by
      have z := S.nd.sublist (List.take_sublist ((("self" : Str) :: ps).length + (["__class__"] : List Str).length) N)
      rw [S.pre] at z
      exact (List.nodup_append.mp z).1
    rw [hself]
    exact NdefX.zip_look (i := 0) nd rfl rfl
  · have z := sup_go (p4 := p4) (pl := pl) I0 ea G (hr.deeper _) hx hs1 k1 T.cls T.up T.tg T.fg T.opq hg
    refine wpAny_mono z (fun fx s2 z2 => ?_) fun _ _ z => z
    refine wpAny_mono z2 (fun v s3 z3 => ?_) fun _ _ z => z
    obtain ⟨v', H3, I3, _, q3⟩ := z3
    refine PySem.wpAt_of_wpAny (wpAny_mono (hu.run [] s3 _ H3 _ I3 q3) (fun fl s' hs => ?_) fun e s' hs => hs)
    rcases fl with _ | _ | _ | u'
    · obtain ⟨σ', H', J', q⟩ := hs
      exact ⟨V.non, H', J'.os, J'.bare, J'.base, J'.hok, rfl, q⟩
    · obtain ⟨_, _, _, q⟩ := hs
      exact q.elim
    · obtain ⟨_, _, _, q⟩ := hs
      exact q.elim
    · obtain ⟨v2, σ', H', J', rv, q⟩ := hs
      exact ⟨v2, H', J'.os, J'.bare, J'.base, J'.hok, rv, q⟩
end
end Xr
set_option maxHeartbeats 4000000
/-! walks and comprehensions over anything that yields known items; dicts of flat values compared -/
namespace Xr
open PySem PySem.Spec PyProof.Rows L2
/-- J yields the items xs, as long as P holds of the heap -/
structure Yl (J : It) (xs : List V) (P : Hp → Prop) : Prop where
  stop : ∀ i H, P H → xs.length ≤ i → J.stop i H
  go : ∀ i H, P H → i < xs.length → J.go i H
  yld : ∀ i H x H', P H → i < xs.length → J.yld i H x H' → H' = H ∧ xs[i]? = some x
theorem yl_list {K : PySem.W.Frag} {a : Addr} {xs : List V} : Yl (Itl K a) xs (fun H => SqL K H a xs) :=
  ⟨fun i H h l => ⟨xs, h, l⟩, fun i H h l => ⟨xs, xs[i], h, List.getElem?_eq_getElem l⟩, fun i H x H' h l y => ⟨y.1, y.2 xs h⟩⟩
theorem yl_tup {K : PySem.W.Frag} {a : Addr} {xs : List V} : Yl (Itt K a) xs (fun H => SqT K H a xs) :=
  ⟨fun i H h l => ⟨xs, h, l⟩, fun i H h l => ⟨xs, xs[i], h, List.getElem?_eq_getElem l⟩, fun i H x H' h l y => ⟨y.1, y.2 xs h⟩⟩
theorem yl_keys {d : Addr} {o : Obj} {kvs : List (Key × V)} : Yl (Itk d o kvs) (kvs.map fun p => kV p.1) (fun H => H d = some (.frz o (.dK kvs))) := by
  refine ⟨fun i H h l => ⟨h, by simpa using l⟩, fun i H h l => ⟨h, by simpa using l⟩, fun i H x H' h l y => ?_⟩
  obtain ⟨e, k, v, hi, rfl⟩ := y
  exact ⟨e, by rw [List.getElem?_map, hi]; rfl⟩
theorem yl_vals {d : Addr} {o : Obj} {kvs : List (Key × V)} : Yl (Itd d o kvs) (kvs.map (·.2)) (fun H => H d = some (.frz o (.dK kvs))) := by
  refine ⟨fun i H h l => ⟨h, by simpa using l⟩, fun i H h l => ⟨h, by simpa using l⟩, fun i H x H' h l y => ?_⟩
  obtain ⟨e, k, hi⟩ := y
  exact ⟨e, by rw [List.getElem?_map, hi]; rfl⟩
/-- the signs of a text, each a text -/
def signsV (x : Str) : List V := x.cps.toList.map fun c => .str ⟨#[c]⟩
theorem yl_str {x : Str} : Yl (Its x) (signsV x) (fun _ => True) := by
  refine ⟨fun i H h l => show x.cps.size ≤ i by simpa [signsV] using l, fun i H h l => show i < x.cps.size by simpa [signsV] using l, fun i H v H' h l y => ?_⟩
  obtain ⟨e, c, hi, rfl⟩ := y
  refine ⟨e, ?_⟩
  unfold signsV
  rw [List.getElem?_map, Array.getElem?_toList, hi]
  rfl
theorem yl_range {lo : Int} {n : Nat} : Yl (Itr lo n) ((List.range n).map fun i : Nat => V.int (lo + (i : Int))) (fun _ => True) := by
  refine ⟨fun i H h l => show n ≤ i by simpa using l, fun i H h l => show i < n by simpa using l, fun i H x H' h l y => ⟨y.1, ?_⟩⟩
  rw [y.2, List.getElem?_map, List.getElem?_range (by simpa using l)]
  rfl
section
variable {J : It} {xs : List V} {P : Hp → Prop}
/-- a for over J -/
theorem forP (Y : Yl J xs P) {g : TG} {tb : TS} {D : Ends} {σ : L2.St} {H : Hp} (Pv : Nat → L2.St → Hp → Prop) (h0 : Pv 0 σ H) (hl : ∀ i σ H, i ≤ xs.length → Pv i σ H → P H)
    (hs : ∀ i x σ H, xs[i]? = some x → Pv i σ H → g x σ H fun σ2 H2 => tb { D with nx := Pv (i + 1), ct := Pv (i + 1), bk := D.nx } σ2 H2) (hd : ∀ σ H, Pv xs.length σ H → D.nx σ H) :
    ∃ W : Nat → Nat → L2.St → Hp → Prop, (∃ m, W 0 m σ H) ∧ ∀ i m σ H, W i m σ H →
      (J.stop i H ∧ D.nx σ H) ∨ (J.go i H ∧ ∃ N : L2.St → Hp → Prop, (∀ σ' H', N σ' H' → ∃ m', m' < m ∧ W (i + 1) m' σ' H') ∧ ∀ x H', J.yld i H x H' → g x σ H' fun σ2 H2 => tb { D with nx := N, ct := N, bk := D.nx } σ2 H2) := by
  refine ⟨fun i m σ H => m = xs.length - i ∧ i ≤ xs.length ∧ Pv i σ H, ⟨xs.length, by simp, Nat.zero_le _, h0⟩, ?_⟩
  rintro i m σ H ⟨rfl, hi, p⟩
  have q := hl i σ H hi p
  by_cases hlt : i < xs.length
  · refine .inr ⟨Y.go i H q hlt, Pv (i + 1), fun σ' H' p' => ⟨xs.length - (i + 1), by omega, rfl, hlt, p'⟩, fun x H' y => ?_⟩
    obtain ⟨rfl, hx⟩ := Y.yld i H x H' q hlt y
    exact hs i x σ _ hx p
  · obtain rfl : i = xs.length := by omega
    exact .inl ⟨Y.stop _ H q (Nat.le_refl _), hd σ H p⟩
/-- a list comprehension over J -/
theorem lcG (Y : Yl J xs P) {g : TG} {tt : TT} {te : TE} {vs : List Nat} {σ : L2.St} {H1 : Hp} {D : Addr} {Qd : Hp → Prop} (Pv : Nat → Hp → Prop) (h0 : Pv 0 (upd H1 D (.lst []))) (hl : ∀ i H, i ≤ xs.length → Pv i H → P H)
    (hs : ∀ i x H, xs[i]? = some x → Pv i H → g x (wipe σ vs) H fun σ2 H2 => wipe σ2 vs = wipe σ vs ∧ tt σ2 H2 fun b H3 =>
      if b = true then te σ2 H3 fun y H4 => ∃ acc, H4 D = some (.lst acc) ∧ acc.length < sizeLine ∧ Pv (i + 1) (upd H4 D (.lst (acc ++ [y]))) else Pv (i + 1) H3) (hd : ∀ H, Pv xs.length H → Qd H) :
    ∃ W : Nat → Nat → Hp → Prop, (∃ m, W 0 m (upd H1 D (.lst []))) ∧ ∀ i m H, W i m H →
      (J.stop i H ∧ Qd H) ∨ (J.go i H ∧ ∃ Nx : Hp → Prop, (∀ H', Nx H' → ∃ m', m' < m ∧ W (i + 1) m' H') ∧ ∀ x H', J.yld i H x H' → g x (wipe σ vs) H' fun σ2 H2 => wipe σ2 vs = wipe σ vs ∧ tt σ2 H2 fun b H3 =>
        if b = true then te σ2 H3 fun y H4 => ∃ acc, H4 D = some (.lst acc) ∧ acc.length < sizeLine ∧ Nx (upd H4 D (.lst (acc ++ [y]))) else Nx H3) := by
  refine ⟨fun i m H => m = xs.length - i ∧ i ≤ xs.length ∧ Pv i H, ⟨xs.length, by simp, Nat.zero_le _, h0⟩, ?_⟩
  rintro i m H ⟨rfl, hi, p⟩
  have q := hl i H hi p
  by_cases hlt : i < xs.length
  · refine .inr ⟨Y.go i H q hlt, Pv (i + 1), fun H' p' => ⟨xs.length - (i + 1), by omega, rfl, hlt, p'⟩, fun x H' y => ?_⟩
    obtain ⟨rfl, hx⟩ := Y.yld i H x H' q hlt y
    exact hs i x _ hx p
  · obtain rfl : i = xs.length := by omega
    exact .inl ⟨Y.stop _ H q (Nat.le_refl _), hd H p⟩
/-- a dict comprehension over J -/
theorem dcG (Y : Yl J xs P) {g : TG} {tt : TT} {tk tv : TE} {vs : List Nat} {σ : L2.St} {H1 : Hp} {D : Addr} {Qd : Hp → Prop} (Pv : Nat → Hp → Prop) (h0 : Pv 0 (upd H1 D (.dK []))) (hl : ∀ i H, i ≤ xs.length → Pv i H → P H)
    (hs : ∀ i x H, xs[i]? = some x → Pv i H → g x (wipe σ vs) H fun σ2 H2 => wipe σ2 vs = wipe σ vs ∧ tt σ2 H2 fun b H3 =>
      if b = true then tk σ2 H3 fun y H4 => tv σ2 H4 fun z H5 => ∃ kvs k, y = kV k ∧ H5 D = some (.dK kvs) ∧ kvs.length < sizeLine ∧ Pv (i + 1) (upd H5 D (.dK (putK kvs k z))) else Pv (i + 1) H3) (hd : ∀ H, Pv xs.length H → Qd H) :
    ∃ W : Nat → Nat → Hp → Prop, (∃ m, W 0 m (upd H1 D (.dK []))) ∧ ∀ i m H, W i m H →
      (J.stop i H ∧ Qd H) ∨ (J.go i H ∧ ∃ Nx : Hp → Prop, (∀ H', Nx H' → ∃ m', m' < m ∧ W (i + 1) m' H') ∧ ∀ x H', J.yld i H x H' → g x (wipe σ vs) H' fun σ2 H2 => wipe σ2 vs = wipe σ vs ∧ tt σ2 H2 fun b H3 =>
        if b = true then tk σ2 H3 fun y H4 => tv σ2 H4 fun z H5 => ∃ kvs k, y = kV k ∧ H5 D = some (.dK kvs) ∧ kvs.length < sizeLine ∧ Nx (upd H5 D (.dK (putK kvs k z))) else Nx H3) := by
  refine ⟨fun i m H => m = xs.length - i ∧ i ≤ xs.length ∧ Pv i H, ⟨xs.length, by simp, Nat.zero_le _, h0⟩, ?_⟩
  rintro i m H ⟨rfl, hi, p⟩
  have q := hl i H hi p
  by_cases hlt : i < xs.length
  · refine .inr ⟨Y.go i H q hlt, Pv (i + 1), fun H' p' => ⟨xs.length - (i + 1), by omega, rfl, hlt, p'⟩, fun x H' y => ?_⟩
    obtain ⟨rfl, hx⟩ := Y.yld i H x H' q hlt y
    exact hs i x _ hx p
  · obtain rfl : i = xs.length := by omega
    exact .inl ⟨Y.stop _ H q (Nat.le_refl _), hd H p⟩
theorem same_upd {H1 H' : Hp} {D : Addr} {o : HO} (hD : H1 D = none) (s : Same H1 H') : Same H1 (upd H' D o) := fun b u z => by
  rw [upd_ne (ne_of_none z hD)]
  exact s b u z
theorem take_filter {B : V → Bool} {i : Nat} {x : V} (h : xs[i]? = some x) : (xs.take (i + 1)).filter B = if B x = true then (xs.take i).filter B ++ [x] else (xs.take i).filter B := by
  rw [List.take_add_one, h, List.filter_append]
  show _ ++ List.filter B [x] = _
  rw [List.filter_cons]
  split <;> simp
/-- a comprehension whose test only reads, whose elements are R's -/
theorem lcQ (Y : Yl J xs P) {k : Nat} {tt : TT} {te : TE} {vs : List Nat} {σ : L2.St} {H1 : Hp} {D : Addr} {Qd : Hp → Prop} (B : V → Bool) (R : V → V → Hp → Prop) (hR : ∀ x y H H', Same H H' → R x y H → R x y H')
    (hU : ∀ x y H l l', H D = some (.lst l) → R x y H → R x y (upd H D (.lst l'))) (hD : H1 D = none) (hn : xs.length ≤ 100000) (hP : ∀ H', Same H1 H' → P H') (hw : ∀ x : V, wipe ((wipe σ vs).set k (some x)) vs = wipe σ vs)
    (ht : ∀ x H', x ∈ xs → Same H1 H' → ∀ Qb : Bool → Hp → Prop, (∀ H'', Same H' H'' → Qb (B x) H'') → tt ((wipe σ vs).set k (some x)) H' Qb)
    (he : ∀ x H', x ∈ xs → B x = true → Same H1 H' → ∀ Q : VK, (∀ y H'', Same H' H'' → R x y H'' → Q y H'') → te ((wipe σ vs).set k (some x)) H' Q)
    (hd : ∀ H' ys, Same H1 H' → H' D = some (.lst ys) → Paired (fun x y => R x y H') (xs.filter B) ys → Qd H') :
    ∃ W : Nat → Nat → Hp → Prop, (∃ m, W 0 m (upd H1 D (.lst []))) ∧ ∀ i m H, W i m H →
      (J.stop i H ∧ Qd H) ∨ (J.go i H ∧ ∃ Nx : Hp → Prop, (∀ H', Nx H' → ∃ m', m' < m ∧ W (i + 1) m' H') ∧ ∀ x H', J.yld i H x H' → (gName k) x (wipe σ vs) H' fun σ2 H2 => wipe σ2 vs = wipe σ vs ∧ tt σ2 H2 fun b H3 =>
        if b = true then te σ2 H3 fun y H4 => ∃ acc, H4 D = some (.lst acc) ∧ acc.length < sizeLine ∧ Nx (upd H4 D (.lst (acc ++ [y]))) else Nx H3) := by
  refine lcG Y (fun i H' => Same H1 H' ∧ ∃ ys, H' D = some (.lst ys) ∧ Paired (fun x y => R x y H') ((xs.take i).filter B) ys) ⟨same_new hD, [], upd_same, .nil⟩ (fun i H' _ h => hP H' h.1) ?_ fun H' h => ?_
  · rintro i x H' hx ⟨s, ys, hl, hp⟩
    have hm := List.mem_of_getElem? hx
    refine ⟨hw x, ht x H' hm s _ fun H2 s2 => ?_⟩
    rw [take_filter hx]
    cases hb : B x with
    | false =>
      refine iteF ⟨s.trans s2, ys, s2 _ _ hl, ?_⟩
      exact Paired.mapP hp fun a b r => hR a b _ _ s2 r
    | true =>
      refine iteT (he x H2 hm hb (s.trans s2) _ fun y H3 s3 r => ?_)
      have hl3 := s3 _ _ (s2 _ _ hl)
      refine ⟨_, hl3, ?_, same_upd hD ((s.trans s2).trans s3), _, upd_same, ?_⟩
      · have z : ys.length ≤ xs.length := by
          have z1 := List.length_filter_le B (xs.take i)
          have z2 : (xs.take i).length ≤ xs.length := by rw [List.length_take]; exact Nat.min_le_right _ _
          have z3 : ((xs.take i).filter B).length = ys.length := Paired.length hp
          omega
        rw [sizeLine_eq]
        omega
      · refine Paired.snoc (Paired.mapP hp fun a b r => hU a b _ _ _ hl3 (hR a b _ _ (s2.trans s3) r)) (hU x y _ _ _ hl3 r)
  · obtain ⟨s, ys, hl, hp⟩ := h
    rw [List.take_length] at hp
    exact hd H' ys s hl hp
/-- .. whose elements are told by a function -/
theorem lcF (Y : Yl J xs P) {k : Nat} {tt : TT} {te : TE} {vs : List Nat} {σ : L2.St} {H1 : Hp} {D : Addr} {Qd : Hp → Prop} (B : V → Bool) (F : V → V) (hD : H1 D = none) (hn : xs.length ≤ 100000) (hP : ∀ H', Same H1 H' → P H') (hw : ∀ x : V, wipe ((wipe σ vs).set k (some x)) vs = wipe σ vs)
    (ht : ∀ x H', x ∈ xs → Same H1 H' → ∀ Qb : Bool → Hp → Prop, (∀ H'', Same H' H'' → Qb (B x) H'') → tt ((wipe σ vs).set k (some x)) H' Qb)
    (he : ∀ x H', x ∈ xs → B x = true → Same H1 H' → ∀ Q : VK, (∀ H'', Same H' H'' → Q (F x) H'') → te ((wipe σ vs).set k (some x)) H' Q)
    (hd : ∀ H', Same H1 H' → H' D = some (.lst ((xs.filter B).map F)) → Qd H') :
    ∃ W : Nat → Nat → Hp → Prop, (∃ m, W 0 m (upd H1 D (.lst []))) ∧ ∀ i m H, W i m H →
      (J.stop i H ∧ Qd H) ∨ (J.go i H ∧ ∃ Nx : Hp → Prop, (∀ H', Nx H' → ∃ m', m' < m ∧ W (i + 1) m' H') ∧ ∀ x H', J.yld i H x H' → (gName k) x (wipe σ vs) H' fun σ2 H2 => wipe σ2 vs = wipe σ vs ∧ tt σ2 H2 fun b H3 =>
        if b = true then te σ2 H3 fun y H4 => ∃ acc, H4 D = some (.lst acc) ∧ acc.length < sizeLine ∧ Nx (upd H4 D (.lst (acc ++ [y]))) else Nx H3) := by
  refine lcQ Y B (fun x y _ => y = F x) (fun _ _ _ _ _ h => h) (fun _ _ _ _ _ _ h => h) hD hn hP hw ht (fun x H' hm hb s Q q => he x H' hm hb s Q fun H'' s' => q _ _ s' rfl) fun H' ys s hl hp => hd H' s ?_
  have e : ∀ {l ys : List V}, Paired (fun x y => y = F x) l ys → ys = l.map F := fun h => by
    induction h with
    | nil => rfl
    | cons a _ ih => rw [a, ih]; rfl
  rw [← e hp]
  exact hl
/-- a dict comprehension that only reads, its keys all different -/
theorem dcF (Y : Yl J xs P) {k : Nat} {tt : TT} {tk tv : TE} {vs : List Nat} {σ : L2.St} {H1 : Hp} {D : Addr} {Qd : Hp → Prop} (B : V → Bool) (key : V → Key) (F : V → V) (hD : H1 D = none) (hn : xs.length ≤ 100000) (hnd : ((xs.filter B).map key).Nodup) (hP : ∀ H', Same H1 H' → P H')
    (hw : ∀ x : V, wipe ((wipe σ vs).set k (some x)) vs = wipe σ vs)
    (ht : ∀ x H', x ∈ xs → Same H1 H' → ∀ Qb : Bool → Hp → Prop, (∀ H'', Same H' H'' → Qb (B x) H'') → tt ((wipe σ vs).set k (some x)) H' Qb)
    (hk : ∀ x H', x ∈ xs → B x = true → Same H1 H' → ∀ Q : VK, (∀ H'', Same H' H'' → Q (kV (key x)) H'') → tk ((wipe σ vs).set k (some x)) H' Q)
    (he : ∀ x H', x ∈ xs → B x = true → Same H1 H' → ∀ Q : VK, (∀ H'', Same H' H'' → Q (F x) H'') → tv ((wipe σ vs).set k (some x)) H' Q)
    (hd : ∀ H', Same H1 H' → H' D = some (.dK ((xs.filter B).map fun x => (key x, F x))) → Qd H') :
    ∃ W : Nat → Nat → Hp → Prop, (∃ m, W 0 m (upd H1 D (.dK []))) ∧ ∀ i m H, W i m H →
      (J.stop i H ∧ Qd H) ∨ (J.go i H ∧ ∃ Nx : Hp → Prop, (∀ H', Nx H' → ∃ m', m' < m ∧ W (i + 1) m' H') ∧ ∀ x H', J.yld i H x H' → (gName k) x (wipe σ vs) H' fun σ2 H2 => wipe σ2 vs = wipe σ vs ∧ tt σ2 H2 fun b H3 =>
        if b = true then tk σ2 H3 fun y H4 => tv σ2 H4 fun z H5 => ∃ kvs k, y = kV k ∧ H5 D = some (.dK kvs) ∧ kvs.length < sizeLine ∧ Nx (upd H5 D (.dK (putK kvs k z))) else Nx H3) := by
  have pre : ∀ i, List.Sublist (((xs.take i).filter B).map key) ((xs.filter B).map key) := fun i => ((List.take_sublist i xs).filter B).map key
  refine dcG Y (fun i H' => Same H1 H' ∧ H' D = some (.dK (((xs.take i).filter B).map fun x => (key x, F x)))) ⟨same_new hD, upd_same⟩ (fun i H' _ h => hP H' h.1) ?_ fun H' h => ?_
  · rintro i x H' hx ⟨s, hl⟩
    have hm := List.mem_of_getElem? hx
    refine ⟨hw x, ht x H' hm s _ fun H2 s2 => ?_⟩
    have tf := take_filter (B := B) hx
    rw [tf]
    cases hb : B x with
    | false => exact iteF ⟨s.trans s2, s2 _ _ hl⟩
    | true =>
      refine iteT (hk x H2 hm hb (s.trans s2) _ fun H3 s3 => he x H3 hm hb ((s.trans s2).trans s3) _ fun H4 s4 => ?_)
      have hl4 := s4 _ _ (s3 _ _ (s2 _ _ hl))
      refine ⟨_, key x, rfl, hl4, ?_, same_upd hD (((s.trans s2).trans s3).trans s4), ?_⟩
      · rw [List.length_map, sizeLine_eq]
        have z1 := List.length_filter_le B (xs.take i)
        have z2 : (xs.take i).length ≤ xs.length := by rw [List.length_take]; exact Nat.min_le_right _ _
        omega
      · rw [upd_same, if_pos rfl, List.map_append]
        have nd := hnd.sublist (pre (i + 1))
        rw [tf, hb, if_pos rfl, List.map_append] at nd
        rw [putK_new]
        · rfl
        · unfold valV
          rw [Option.map_eq_none_iff, List.find?_eq_none]
          intro p hp hk'
          obtain ⟨y, hy, rfl⟩ := List.mem_map.mp hp
          have e : key y = key x := of_decide_eq_true hk'
          have z := (List.nodup_append.mp nd).2.2 (key y) (List.mem_map.mpr ⟨y, hy, rfl⟩) (key x) (List.mem_singleton.mpr rfl)
          exact z e
  · obtain ⟨s, hl⟩ := h
    rw [List.take_length] at hl
    exact hd H' s hl
end
section
variable {X : Cx}
/-- whether each entry of ks stands in ls -/
def subK (ks ls : List (Key × V)) : Bool := ks.all fun p => match valV ls p.1 with
  | some v => eqV p.2 v
  | none => false
theorem hits_sub {A : Around} {s : Shared} {ls : List (Key × V)} {vb : List (Key × Value)} (rb : KV ls vb) (fb : ∀ p ∈ ls, flatV p.2 = true) {ks : List (Key × V)} {va : List (Key × Value)} (ra : KV ks va) :
    (∀ p ∈ ks, flatV p.2 = true) → PySem.W.KeqHits A s vb va (subK ks ls) := by
  unfold KV at ra
  induction ra with
  | nil => intro _; exact .nil
  | @cons p q ps qs h t ih =>
    intro hp
    obtain ⟨h1, h2⟩ := h
    obtain ⟨k, v⟩ := q
    have h1' : p.1 = k := h1
    unfold subK
    rw [List.all_cons]
    cases e : valV ls p.1 with
    | none =>
      have rr : RelO none (valueAt vb p.1) := by rw [← e]; exact rb.val p.1
      have z := rr.none_of
      rw [h1'] at z
      exact .miss z
    | some y =>
      have rr : RelO (some y) (valueAt vb p.1) := by rw [← e]; exact rb.val p.1
      obtain ⟨u, hu, ru⟩ := rr.some_of
      rw [h1'] at hu
      have fy : flatV y = true := by
        unfold valV at e
        obtain ⟨q, hq, rfl⟩ := Option.map_eq_some_iff.mp e
        exact fb q (List.mem_of_find?_eq_some hq)
      exact .hit hu (eqAt_V h2 ru (hp p List.mem_cons_self) fy) (ih fun p' hm => hp p' (List.mem_cons_of_mem _ hm))
/-- d == e, dicts of flat values -/
def rEqDF : R2 := fun x y H Q => ∃ a b ks ls, x = .ref a ∧ y = .ref b ∧ H a = some (.dK ks) ∧ H b = some (.dK ls) ∧ (∀ p ∈ ks, flatV p.2 = true) ∧ (∀ p ∈ ls, flatV p.2 = true) ∧ Q (.bl (ks.length == ls.length && subK ks ls)) H
theorem op_eqDF (hu : X.A.units < cLine) : OpR X (compareOp .Eq) rEqDF := by
  intro pins s σ H x y v u Q I rx ry h
  obtain ⟨a, b, ks, ls, rfl, rfl, ea, eb, fa, fb, q⟩ := h
  obtain rfl : v = Value.ref a := rx
  obtain rfl : u = Value.ref b := ry
  obtain ⟨_, ya, va, ra, da⟩ := (show ObjOk X.prog X.w H s.heap a (.dK ks) from I.hok a _ ea)
  obtain ⟨_, yb, vb, rb, db⟩ := (show ObjOk X.prog X.w H s.heap b (.dK ls) from I.hok b _ eb)
  exact PySem.W.keq_eq (knd := mixKind X.prog X.w) ya yb da db hu (fun _ => hits_sub rb fb ra fa) (fin_bl I q (by rw [← ra.length, ← rb.length]))
end
end Xr
set_option maxHeartbeats 4000000
namespace Xr
open PySem PySem.Spec PyProof.Rows L2
section
variable {X : Cx} {pins : List (Addr × Obj)} {σ : L2.St} {H : Hp} {s : Shared}
/-- what a dict's keys are, as values -/
def keysV (kvs : List (Key × V)) : List V := kvs.map fun kv => kV kv.1
theorem star_dict {a : Addr} {kvs : List (Key × V)} {E : Value → Shared → Prop} {Q : List Value → Shared → Prop} (hc : X.calm = true) (I : Inv X pins σ H s) (h : Rd H a (.dK kvs)) (hQ : ∀ us s', Inv X pins σ H s' → Vals (keysV kvs) us → Q us s') :
    PySem.W.StarOf (model X.prog X.w) X.A E (.ref a) Q s := by
  obtain ⟨z, lo, vs, rk, hd⟩ := (show ObjOk X.prog X.w H s.heap a (.dK kvs) from h.ok I.hok)
  obtain ⟨ep, hat⟩ := hd.dictAt
  have hl : kvs.length = vs.length := Paired.length rk
  have zz : wpAny (model X.prog X.w) X.A (collect (.ref a)) Q E s := by
    refine PySem.W.kdu_collect (PySem.W.kdl_dict (knd := mixKind X.prog X.w) (kvs := vs) (ep := ep) lo) (I.ok.hd hc) hat (by rw [← hl]; exact z) fun h' tk acc hk hacc => ?_
    refine hQ _ _ (I.kept (t' := tk) hk) ?_
    have el : acc.toList.length = acc.size := by simp
    unfold keysV
    refine vals_of_at (by rw [List.length_map, el, hacc.1, hl]) fun j x w h1 h2 => ?_
    obtain ⟨k, y, hky, hi⟩ := hacc.2 j w (by rw [← Array.getElem?_toList]; exact h2)
    have e1 : (kvs.map (·.1))[j]? = some k := by
      rw [KV.keys rk, List.getElem?_map, hky] <;> rfl
    have e2 : (kvs.map fun kv => kV kv.1)[j]? = some (kV k) := by
      have e3 : (kvs.map fun kv => kV kv.1) = (kvs.map (·.1)).map kV := by rw [List.map_map] <;> rfl
      rw [e3, List.getElem?_map, e1] <;> rfl
    rw [e2] at h1
    cases h1
    exact keyIs_rel hi
  unfold PySem.W.StarOf notIterableAtAll
  exact wpAny_bind (wpAny_specialOf hd.typeIs PySem.F.slot_dict_iter.lookup (wpAny_pure ⟨rfl, zz⟩))
end
/-- *d in a display: its keys -/
def tStarD (te : TE) (t : TA) : TA := fun σ H Q => te σ H fun x H1 => ∃ p kvs, x = V.ref p ∧ Rd H1 p (.dK kvs) ∧ t σ H1 fun ys H2 => Q (keysV kvs ++ ys) H2
theorem pa_starD {X : Cx} {e : Expr} {es : List Expr} {te : TE} {t : TA} {p : Pos} (hc : X.calm = true) (he : PE X e te) (hr : PA X es t) (hs : starEach (.Starred e p :: es) X.env = (true, eval e X.env) :: starEach es X.env := by rfl) : PA X (.Starred e p :: es) (tStarD te t) := by
  refine ⟨fun pos pins s σ H Q I h => ?_⟩
  refine PySem.W.items_star (thn (he.run pins s σ H _ I h) fun v s1 ⟨y, H1, I1, ry, a, kvs, ey, hx, q⟩ => ?_) hs
  subst ey
  obtain rfl : v = Value.ref a := ry
  refine star_dict hc I1 hx fun us s2 I2 rv => ?_
  exact thn (hr.run pos pins s2 σ H1 _ I2 q) fun ws s3 ⟨vs, H3, I3, r3, q3⟩ => ⟨keysV kvs ++ vs, H3, I3, rv.append r3, q3⟩
section
variable {CX : CXT} {P : Program} {w : World} {K : PySem.W.Frag} {mg : Str → Option Value} {base : Heap} {k : Nat} {f : Addr} {x qual : Str} {params : Arguments} {body : List Stmt} {scope : Scope} {fd : FuncData} {N : List Str} {sp : Sp} {p1 pd : Str} {kws : List (Str × V)}
/-- def f(a, **d), called without keywords: d is a new empty dict -/
theorem fn_kw0 (F : FunD K x qual params body scope [] kws f fd) (S : FnScope N [p1, pd] scope) (hCX : StX.CXUp CX)
    (hb : ∀ (kV doc pm : Value) (an : Option Addr) (cdv ct u : Value), bindArgs (PySem.W.fnOf x qual params body scope .none kV doc pm an cdv ct) ⟨[u], []⟩ = ((alloc ({ cls := .type "dict", data := .dict #[] } : Obj) : Sem Addr) >>= fun d => pure [(p1, u), (pd, Value.ref d)]))
    (hbody : ∀ (cdv : Value) (A : Around) (outer : List Env) (s : Shared) (H : Hp) (vs : List V) (Q : VK) (E : XK), Room k (A.deeper (envOfC qual scope s.heap.objs.size f cdv)) → sp vs H Q E →
      ∃ t, PSs (cxOf CX P w K mg base N qual scope f cdv A outer s H E) body t ∧ t { nx := fun _ H' => Q .non H', rt := Q } (start N vs) H) :
    FnR P w K mg base CX (k + 1) f (fun vs H Q E => ∃ v, vs = [v] ∧ ∀ d, H d = Option.none → sp [v, V.ref d] (upd H d (.dK [])) Q E) := by
  obtain ⟨oc, od, dV, kV', doc, pm, an, cdv, ct, osl, rfl, lk, hcd, hDf, _⟩ := F.ex
  obtain rfl : dV = .none := by
    rcases hDf with ⟨_, e⟩ | ⟨e, _⟩
    · exact e
    · exact absurd rfl e
  intro A outer s H us vs Q E hr e0 r hsp
  obtain ⟨v, rfl, hq⟩ := hsp
  obtain ⟨u, rfl, ru⟩ := vals1 r
  have hn : H s.heap.objs.size = Option.none := e0.hok.fresh (Nat.le_refl _)
  refine StX.run_bnd lk hcd S hr e0 (G := fun xs H2 => ∃ d, H d = Option.none ∧ xs = [v, V.ref d] ∧ H2 = upd H d (.dK [])) (fun A' Ex Q' h => ?_) fun s2 H2 xs ⟨d, hd, ex, eH⟩ hr' => ?_
  · rw [hb _ _ _ _ _ _ u]
    refine wpAny_bind (wpAny_alloc (wpAny_pure ?_))
    have e1 := StX.env0_laid (u := .dK []) (o := ({ cls := .type "dict", data := .dict #[] } : Obj)) e0 (dk_empty _ (StX.env0_big e0))
    have un1 := StX.un_laid (fs := frs outer) (s := s) (o := ({ cls := .type "dict", data := .dict #[] } : Obj)) (u := .dK []) hn
    exact h _ _ [v, V.ref s.heap.objs.size] [u, Value.ref s.heap.objs.size] e1 un1 rfl (fun e s' => hCX outer s H _ _ E e s' un1 (fun b o q => Heap.get?_push_of_some _ q) rfl) (.cons ru (.cons rfl .nil)) rfl ⟨_, hn, rfl, rfl⟩
  · subst ex eH
    exact hbody cdv A outer s2 _ _ Q E hr' (hq d hd)
end
/-! ### a hook that tells defs at any address, too -/
abbrev AlF : Type := AlE × (Bool × List He.FnW)
def obsF (n : Nat) (fa : List He.Fa) (fn : List He.DefD) (ts : List He.Tab) (tf : List He.Defn) (cl : List DefC) (da : List He5.DefA) (ex : PySem.W.Frag → Bool) (g : Addr → Option Obj) : AlF :=
  (obsE n fa fn ts tf cl ex g, (da.all (fun d => d.ok (KE g n)), da.map fun d => He5.fnA (KE g n) (d.at_ (KE g n))))
def valF (fn : List He.DefD) (ts : List He.Tab) (cl : List DefC) (da : List He5.DefA) (w : World) : AlF := (valE fn ts cl w, (true, da.map He5.DefA.val))
structure SaysF (fa : List He.Fa) (fn : List He.DefD) (ts : List He.Tab) (tf : List He.Defn) (cl : List DefC) (da : List He5.DefA) (ex : PySem.W.Frag → Bool) (w : World) (h : Heap) (K : PySem.W.Frag) : Prop where
  e : SaysE fa fn ts tf cl ex w h K
  ok : da.all (fun d => d.ok K) = true
  at_ : da.map (fun d => He5.fnA K (d.at_ K)) = da.map He5.DefA.val
theorem SaysF.dA {fa : List He.Fa} {fn : List He.DefD} {ts : List He.Tab} {tf : List He.Defn} {cl : List DefC} {da : List He5.DefA} {ex : PySem.W.Frag → Bool} {w : World} {h : Heap} {K : PySem.W.Frag} (c : SaysF fa fn ts tf cl da ex w h K) (i : Nat) {d : He5.DefA} (hd : da[i]? = some d) :
    ∃ fd, FunD K d.name d.qual d.params d.body d.scope (d.dvs K) (d.kws K) (d.at_ K) fd := by
  refine He5.DefA.funD ?_ (List.all_eq_true.mp c.ok d (List.mem_of_getElem? hd))
  have z : (da.map (fun d => He5.fnA K (d.at_ K)))[i]? = (da.map He5.DefA.val)[i]? := by rw [c.at_]
  rw [List.getElem?_map, List.getElem?_map, hd] at z
  exact Option.some.inj z
def hookF (n : Nat) (fa : List He.Fa) (fn : List He.DefD) (ts : List He.Tab) (tf : List He.Defn) (cl : List DefC) (da : List He5.DefA) (ex : PySem.W.Frag → Bool) : PySem.W.Hook where
  α := AlF
  obs := fun s => obsF n fa fn ts tf cl da ex s.heap.get?
  val := fun w => valF fn ts cl da w
  says := fun w h => ∃ K : PySem.W.Frag, K.In h ∧ SaysF fa fn ts tf cl da ex w h K
  of := fun _ _ e => ⟨_, He.frT_in, ⟨says_of (congrArg (fun z : AlF => z.1) e), congrArg (fun z : AlF => z.2.1) e, congrArg (fun z : AlF => z.2.2) e⟩⟩
  keeps := fun _ _ _ ⟨K, hK, c⟩ k => ⟨K, PySem.W.Frag.In.keeps hK k, ⟨⟨⟨c.e.x.t, c.e.x.more, c.e.x.hd, c.e.x.out, fun p hp => k _ _ (c.e.x.empty p hp)⟩, c.e.c⟩, c.ok, c.at_⟩⟩
theorem obsF_eq {n : Nat} {fa : List He.Fa} {fn : List He.DefD} {ts : List He.Tab} {tf : List He.Defn} {cl : List DefC} {da : List He5.DefA} {ex : PySem.W.Frag → Bool} {g : Addr → Option Obj} {s : Shared} (h : ∀ a, g a = s.heap.get? a) : obsF n fa fn ts tf cl da ex g = (hookF n fa fn ts tf cl da ex).obs s := by
  have e : g = s.heap.get? := funext h
  rw [e] <;> rfl
end Xr
set_option maxHeartbeats 4000000
/-! what the head tells of own plain classes -/
namespace Xr
open PySem PySem.Spec PyProof.Rows L2
/-- an own plain class: its attributes are plain, isinstance goes by its class -/
def plB (K : PySem.W.Frag) (C : Addr) : Bool := (PySem.W.plainGet K C Str.empty && (PySem.W.hasDictIn K C && (PySem.W.plainOver K C && He.eqO (PySem.W.findIn K (.ref C) "__setattr__") (some (some (.builtin "object.__setattr__")))))) &&
  (He.eqO (PySem.W.findIn K (.ref C) "__class__") (some (some (.builtin "object.__class__"))) && (decide (PySem.W.mroIn K C (.type "object") = some true) && (PySem.W.selfFirst K C && PySem.W.keepIn K (.ref C))))
structure Pl (K : PySem.W.Frag) (C : Addr) : Prop where
  cls : Cls K C
  ca : PySem.W.findIn K (.ref C) "__class__" = some (some (.builtin "object.__class__"))
  cm : PySem.W.mroIn K C (.type "object") = some true
  sf : PySem.W.selfFirst K C = true
  kp : PySem.W.keepIn K (.ref C) = true
theorem plB_ok {K : PySem.W.Frag} {C : Addr} (h : plB K C = true) : Pl K C := by
  obtain ⟨h1, h⟩ := He.ba h
  obtain ⟨a1, h1⟩ := He.ba h1
  obtain ⟨a2, h1⟩ := He.ba h1
  obtain ⟨a3, a4⟩ := He.ba h1
  obtain ⟨b1, h⟩ := He.ba h
  obtain ⟨b2, h⟩ := He.ba h
  obtain ⟨b3, b4⟩ := He.ba h
  exact ⟨⟨a1, a2, a3, He.eqO_ok a4⟩, He.eqO_ok b1, of_decide_eq_true b2, b3, b4⟩
theorem Pl.ty {K : PySem.W.Frag} {C a dx : Addr} {H : Hp} {fs : List (Str × V)} (p : Pl K C) (A : AllF K) (e : H a = some (.ins C dx fs)) : TyX K H (.ref a) (.ref C) :=
  .base (.ins e p.cls p.ca A.sg A.tk p.cm)
/-- the method m of C is the def at f -/
def smB (K : PySem.W.Frag) (C f : Addr) (m : Str) : Bool := He.eqO (PySem.W.findIn K (.ref C) m) (some (some (.ref f))) && (PySem.W.isFn K (.ref f) && (PySem.W.fnIn K f && PySem.W.keepIn K (.ref f)))
structure Sm2 (K : PySem.W.Frag) (C : Addr) (m : Str) (f : Addr) : Prop where
  sm : Sm K C m f
  fnI : PySem.W.fnIn K f = true
  kp : PySem.W.keepIn K (.ref f) = true
theorem smB_ok {K : PySem.W.Frag} {C f : Addr} {m : Str} (h : smB K C f m = true) : Sm2 K C m f := by
  obtain ⟨h1, h⟩ := He.ba h
  obtain ⟨h2, h⟩ := He.ba h
  obtain ⟨h3, h4⟩ := He.ba h
  exact ⟨⟨He.eqO_ok h1, h2⟩, h3, h4⟩
theorem Sm2.meth {K : PySem.W.Frag} {C f : Addr} {m : Str} (s : Sm2 K C m f) : Meth K C m f := ⟨s.sm.at_, s.sm.fn, s.kp⟩
/-- C may be made, its __init__ is the def at f -/
def mkB (K : PySem.W.Frag) (C f : Addr) : Bool := PySem.W.makesIn K C && (He.eqO (PySem.W.findIn K (.ref C) "__init__") (some (some (.ref f))) && (PySem.W.isFn K (.ref f) && PySem.W.keepIn K (.ref C)))
theorem mkB_ok {K : PySem.W.Frag} {C f : Addr} (h : mkB K C f = true) : Mk K C f := by
  obtain ⟨h1, h⟩ := He.ba h
  obtain ⟨h2, h⟩ := He.ba h
  obtain ⟨h3, h4⟩ := He.ba h
  exact ⟨h1, He.eqO_ok h2, h3, h4⟩
/-- m is a property of C: its record at p, its def at g -/
def prB (K : PySem.W.Frag) (C p g : Addr) (m : Str) : Bool := He.eqO (PySem.W.findIn K (.ref C) m) (some (some (.ref p))) && (He.eqO (PySem.W.specialIn K (.ref p) "__get__") (some (some (.builtin "property.__get__"))) && (decide (PySem.W.takesIn K (.ref p) = some true) && (match PySem.W.recIn K p "property" with
  | some (.ref f :: _) => decide (f = g)
  | _ => false)))
theorem prB_ok {K : PySem.W.Frag} {C p g : Addr} {m : Str} (h : prB K C p g m = true) : PropOf K C m p g := by
  obtain ⟨h1, h⟩ := He.ba h
  obtain ⟨h2, h⟩ := He.ba h
  obtain ⟨h3, h4⟩ := He.ba h
  refine ⟨He.eqO_ok h1, He.eqO_ok h2, of_decide_eq_true h3, ?_⟩
  split at h4
  · rename_i f r e
    exact ⟨r, by rw [e, of_decide_eq_true h4]⟩
  · cases h4
/-- m is a classmethod of C -/
def cmB (K : PySem.W.Frag) (C : Addr) (m : Str) : Bool := He5.wrapB K C "classmethod" "classmethod.__get__" m && (PySem.W.fnIn K (He5.wf K C "classmethod" m) && PySem.W.readsIn K C (.type "type"))
structure CmF (K : PySem.W.Frag) (C : Addr) (m : Str) : Prop where
  rd : ClX.CRead K C (.type "type")
  met : ClX.CMet K C (.type "type") m (He.ma K C m) (He5.wf K C "classmethod" m)
theorem cmB_ok {K : PySem.W.Frag} {C : Addr} {m : Str} (h : cmB K C m = true) : CmF K C m := by
  obtain ⟨h1, h⟩ := He.ba h
  obtain ⟨h2, h3⟩ := He.ba h
  refine ⟨⟨h3, ?_⟩, He5.cmet_of h1 h2⟩
  unfold PySem.W.readsIn at h3
  obtain ⟨h, _⟩ := He.ba h3
  obtain ⟨h, _⟩ := He.ba h
  obtain ⟨h, h3⟩ := He.ba h
  obtain ⟨_, h2⟩ := He.ba h
  unfold PySem.W.specialIn
  rw [beq_iff_eq.mp h2, Option.bind_some]
  exact beq_iff_eq.mp h3
/-- C's __init__ says super().__init__(..), which is the def at g -/
def supB (file : Str) (K : PySem.W.Frag) (C g : Addr) : Bool := codeRest K C (He.ma K C "__init__") file && ((PySem.W.clsIn K C).isSome && (decide (PySem.W.subIn K (.ref C) (.ref C) = some true) &&
  (He.eqO (PySem.W.ks_superIn K C C "__init__") (some (some (.ref g))) && (PySem.W.isFn K (.ref g) && PySem.W.fnIn K g))))
theorem sup_ok {P : Program} {K : PySem.W.Frag} {x q : Str} {g : Addr} {params : Arguments} {body : List Stmt} {sc : Scope} (h : supB P.main.file K (He.ga K x) g = true) (ha : AllF K)
    (hF : fnC K (x, some "__init__") = (some ("__init__", q, params, .stmts body, sc, mainGlobals, ["__class__"], builtinsNs) : FnC)) (htop : (P.main.scope.names.lookup ("super" : Str)).isSome = false) :
    ∃ fd cda cc, SupF P K (He.ga K x) (He.ma K (He.ga K x) "__init__") g q params body sc fd cda cc := by
  unfold supB at h
  obtain ⟨h8, h⟩ := He.ba h
  obtain ⟨h1, h⟩ := He.ba h
  obtain ⟨h2, h⟩ := He.ba h
  obtain ⟨h3, h⟩ := He.ba h
  obtain ⟨h4, h5⟩ := He.ba h
  have e1 : He.fAd K (x, some "__init__") = He.ma K (He.ga K x) "__init__" := rfl
  unfold fnC at hF
  rw [e1] at hF
  unfold codeRest at h8
  cases lk : K.lookup (He.ma K (He.ga K x) "__init__") with
  | none =>
    rw [lk] at h8
    cases h8
  | some o =>
    obtain ⟨oc, od, dt, osl⟩ := o
    rw [lk] at h8 hF
    cases dt with
    | func fd =>
      obtain ⟨n1, n2, n3, n4, n5, n6, n7, n8, n9, n10, n11, n12, n13, n14, n15⟩ := fd
      have e2 : (some (n1, n2, n3, n4, n5, n6, n7.map (·.1), n15) : FnC) = (some ("__init__", q, params, .stmts body, sc, mainGlobals, ["__class__"], builtinsNs) : FnC) := hF
      simp only [Option.some.injEq, Prod.mk.injEq] at e2
      obtain ⟨g1, g2, g3, g4, g5, g6, g7, g8⟩ := e2
      subst g1 g2 g3 g4 g5 g6 g8
      dsimp only at h8
      split at h8
      · rename_i cda z cc
        have ez : z = "__class__" := by
          have := g7
          simpa using this
        subst ez
        obtain ⟨c1, c2⟩ := He.ba h8
        obtain ⟨c2, c3⟩ := He.ba c2
        refine ⟨_, cda, cc, ⟨⟨_, _, _, _, _, _, _, _, rfl, lk⟩, c1, ?_, ?_, Option.isSome_iff_exists.mp h1, of_decide_eq_true h2, He.eqO_ok h3, beq_iff_eq.mp h4, h5, ha.opq, ha.sup, htop⟩⟩
        · split at c2
          · rename_i D _ hc
            cases of_decide_eq_true c2
            exact ⟨_, _, _, hc⟩
          · cases c2
        · split at c3
          · rename_i vs _ hc
            split at c3
            · rename_i f tf hv
              cases of_decide_eq_true c3
              exact ⟨_, _, vs, _, tf, hc, hv⟩
            · cases c3
          · cases c3
      · cases h8
    | _ => cases h8
/-! ### legs -/
abbrev aL (K : PySem.W.Frag) : Addr := He.ga K "Legs"
abbrev aT (K : PySem.W.Frag) : Addr := He.ga K "TableLegs"
def legMs : List Str := ["__add__", "__sub__", "__neg__", "__mul__", "__eq__", "__len__", "__getitem__", "__str__"]
def cLB (K : PySem.W.Frag) (C : Addr) : Bool := plB K C && (He.eqO (PySem.W.findIn K (.ref C) "by_month") (some none) && (legMs.all (fun m => smB K C (He.ma K (aL K) m) m) && (He.eqO (PySem.W.findIn K (.ref C) "__ne__") (some (some (.builtin "object.__ne__"))) && (He.eqO (PySem.W.findIn K (.ref C) "__bool__") (some none) &&
  (He.eqO (PySem.W.findIn K (.ref C) "__rmul__") (some none) && (decide (PySem.W.subIn K (.type "int") (.ref C) = some false) && (prB K C (He.ma K (aL K) "months") (He5.wf K (aL K) "property" "months") "months" && decide (PySem.W.kitOne K (.ref C) (.ref (aL K)) = some true))))))))
structure CL (K : PySem.W.Frag) (C : Addr) : Prop where
  pl : Pl K C
  no : NoAttr K C "by_month"
  sm : ∀ m ∈ legMs, Sm2 K C m (He.ma K (aL K) m)
  ne : PySem.W.findIn K (.ref C) "__ne__" = some (some (.builtin "object.__ne__"))
  nb : PySem.W.findIn K (.ref C) "__bool__" = some none
  rm : PySem.W.findIn K (.ref C) "__rmul__" = some none
  si : PySem.W.subIn K (.type "int") (.ref C) = some false
  mo : PropOf K C "months" (He.ma K (aL K) "months") (He5.wf K (aL K) "property" "months")
  ki : PySem.W.kitOne K (.ref C) (.ref (aL K)) = some true
theorem cLB_ok {K : PySem.W.Frag} {C : Addr} (h : cLB K C = true) : CL K C := by
  obtain ⟨h1, h⟩ := He.ba h
  obtain ⟨h2, h⟩ := He.ba h
  obtain ⟨h3, h⟩ := He.ba h
  obtain ⟨h4, h⟩ := He.ba h
  obtain ⟨h5, h⟩ := He.ba h
  obtain ⟨h6, h⟩ := He.ba h
  obtain ⟨h7, h⟩ := He.ba h
  obtain ⟨h8, h9⟩ := He.ba h
  exact ⟨plB_ok h1, He.eqO_ok h2, fun m hm => smB_ok (List.all_eq_true.mp h3 m hm), He.eqO_ok h4, He.eqO_ok h5, He.eqO_ok h6, of_decide_eq_true h7, prB_ok h8, of_decide_eq_true h9⟩
def legB (file : Str) (K : PySem.W.Frag) : Bool := cLB K (aL K) && (cLB K (aT K) && (mkB K (aT K) (He.ma K (aT K) "__init__") && (mkB K (aL K) (He.ma K (aL K) "__init__") && (supB file K (aT K) (He.ma K (aL K) "__init__") &&
  (PySem.W.notFirst K (aT K) (.ref (aL K)) && ((PySem.W.findIn K (.type "int") "__mul__").isSome && ((PySem.W.findIn K (.type "int") "__rmul__").isSome && (cmB K (aL K) "of" && (cmB K (aL K) "month" && cmB K (aL K) "read")))))))))
structure LegF (P : Program) (K : PySem.W.Frag) (q : Str) (params : Arguments) (body : List Stmt) (sc : Scope) : Prop where
  cL : CL K (aL K)
  cT : CL K (aT K)
  mT : Mk K (aT K) (He.ma K (aT K) "__init__")
  mL : Mk K (aL K) (He.ma K (aL K) "__init__")
  sup : ∃ fd cda cc, SupF P K (aT K) (He.ma K (aT K) "__init__") (He.ma K (aL K) "__init__") q params body sc fd cda cc
  nf : PySem.W.notFirst K (aT K) (.ref (aL K)) = true
  i1 : ∃ o, PySem.W.findIn K (.type "int") "__mul__" = some o
  i2 : ∃ o, PySem.W.findIn K (.type "int") "__rmul__" = some o
  of_ : CmF K (aL K) "of"
  month : CmF K (aL K) "month"
  read : CmF K (aL K) "read"
theorem legB_ok {P : Program} {K : PySem.W.Frag} {q : Str} {params : Arguments} {body : List Stmt} {sc : Scope} (h : legB P.main.file K = true) (ha : AllF K)
    (hF : fnC K ("TableLegs", some "__init__") = (some ("__init__", q, params, .stmts body, sc, mainGlobals, ["__class__"], builtinsNs) : FnC)) (htop : (P.main.scope.names.lookup ("super" : Str)).isSome = false) : LegF P K q params body sc := by
  obtain ⟨h1, h⟩ := He.ba h
  obtain ⟨h2, h⟩ := He.ba h
  obtain ⟨h3, h⟩ := He.ba h
  obtain ⟨h4, h⟩ := He.ba h
  obtain ⟨h5, h⟩ := He.ba h
  obtain ⟨h6, h⟩ := He.ba h
  obtain ⟨h7, h⟩ := He.ba h
  obtain ⟨h8, h⟩ := He.ba h
  obtain ⟨h9, h⟩ := He.ba h
  obtain ⟨h10, h11⟩ := He.ba h
  exact ⟨cLB_ok h1, cLB_ok h2, mkB_ok h3, mkB_ok h4, sup_ok h5 ha hF htop, h6, Option.isSome_iff_exists.mp h7, Option.isSome_iff_exists.mp h8, cmB_ok h9, cmB_ok h10, cmB_ok h11⟩
end Xr
set_option maxHeartbeats 4000000
/-! calls of own classes, properties, classmethods whose defs keep their promises -/
namespace Xr
open PySem PySem.Spec PyProof.Rows L2
section
variable {P : Program} {w : World} {K : PySem.W.Frag} {mg : Str → Option Value} {base : Heap} {CX : CXT} {j k : Nat} {f : Addr} {ps : List Str} {sp sp' : Sp}
theorem OkF.fnR (G : OkF P w K mg base CX k f ps sp) : FnR P w K mg base CX k f sp := by
  obtain ⟨fd, F, b, _⟩ := G
  refine (F.raw b .nil).imp fun vs H Q E h => ?_
  show sp (vs ++ []) H Q E
  rw [List.append_nil]
  exact h
theorem OkF.mono (G : OkF P w K mg base CX j f ps sp) (h : j ≤ k) : OkF P w K mg base CX k f ps sp := by
  obtain ⟨fd, F, b, kp⟩ := G
  exact ⟨fd, F.mono h, b, kp⟩
theorem OkF.imp (G : OkF P w K mg base CX k f ps sp) (h : ∀ vs H Q E, sp' vs H Q E → sp vs H Q E) : OkF P w K mg base CX k f ps sp' := by
  obtain ⟨fd, F, b, kp⟩ := G
  exact ⟨fd, F.imp h, b, kp⟩
end
section
variable {X : Cx} {CX : CXT} {k : Nat} {f C g p : Addr} {ps : List Str} {sp : Sp} {E : XK} {x m : Str} {np pos apos : Pos} {e o : Expr} {es : List Expr} {t : TA} {ta : TE}
theorem pe_mkF (M : Mk X.K C f) (G : OkF X.prog X.w X.K X.mg X.base CX k f ps sp) (hr : Room (k + 1) X.A) (hg : Gl X x) (hm : X.mg x = some (.ref C)) (hx : Passes CX X E) (ha : PA X (e :: es) t)
    (hdb : (x == ("__debug__" : Str)) = false := by decide) (he : starEach (e :: es) X.env = (false, eval e X.env) :: starEach es X.env := by rfl) (hpl : (backTo pos (starEach es X.env)).any (·.1) = false := by rfl) :
    PE X (.Call (.Name x np) (e :: es) [] pos) (tMake C sp [] E t) := by
  obtain ⟨fd, F, b, kp⟩ := G
  exact pe_make M F hr hg hm b .nil hx ha hdb he hpl
/-- C() -/
theorem pe_makeR0 (M : Mk X.K C f) (F : FnR X.prog X.w X.K X.mg X.base CX k f sp) (hr : Room (k + 1) X.A) (hg : Gl X x) (hm : X.mg x = some (.ref C)) (hx : Passes CX X E) (hdb : (x == ("__debug__" : Str)) = false := by decide) :
    PE X (.Call (.Name x np) [] [] pos) (StX.tMakeR C sp E tNil) := by
  refine ⟨fun pins s σ H Q I h => wpAny_Call_Name_kw (ld_glob I hg hm ?_ hdb)⟩
  exact PySem.W.callWith_K0 I.kIn M.kp (StX.run_makeR (us := []) M F hr hx I .nil h)
theorem pe_prF (he : PE X e ta) (c : Cls X.K C) (hp : PropOf X.K C m p g) (G : OkF X.prog X.w X.K X.mg X.base CX k g ps sp) (hr : Room (k + 1) X.A) (hx : Passes CX X.nox E)
    (hab : attributeBase e m X.env (eval e X.env) = eval e X.env := by rfl) : PE X (.Attribute e m pos) (tProp C sp [] E ta) := by
  obtain ⟨fd, F, b, kp⟩ := G
  exact pe_prop he c hp F hr b .nil hx hab
theorem pe_cmF {pl : Sem Bool} (he : PE X o ta) (c : CmF X.K C m) (F : FnR X.prog X.w X.K X.mg X.base CX k (He5.wf X.K C "classmethod" m) sp) (hr : Room k X.A) (hx : Passes CX X E) (ha : PA X (e :: es) t)
    (hst : starEach (e :: es) X.env = (false, eval e X.env) :: starEach es X.env := by rfl) (hpl : (backTo pos (starEach es X.env)).any (·.1) = false := by rfl)
    (ht : eval (.Call (.Attribute o m apos) (e :: es) [] pos) X.env = (do
      let ov ← eval o X.env
      standAt apos.atName
      let (f, first) ← holding [ov] (getMethod ov m pl)
      callWith pos f first (backTo pos (starEach (e :: es) X.env)) (backToKw pos (keywordEach [] X.env))) := by rfl) :
    PE X (.Call (.Attribute o m apos) (e :: es) [] pos) (ClX.tCMeth C sp E ta t) := ClX.pe_cmeth he c.rd c.met F hr hx ha hst hpl ht
theorem pe_fG {fd : FuncData} (F : FnG X.prog X.w X.K X.mg X.base CX k f fd ps sp) (b : Binds X.K fd ps []) (hk : PySem.W.keepIn X.K (.ref f) = true) (hr : Room k X.A) (hgd : X.A.guards = some []) (hg : Gl X x) (hm : X.mg x = some (.ref f)) (hx : Passes CX X E)
    (ha : PA X (e :: es) t) (hdb : (x == ("__debug__" : Str)) = false := by decide) (he : starEach (e :: es) X.env = (false, eval e X.env) :: starEach es X.env := by rfl) (hpl : (backTo pos (starEach es X.env)).any (·.1) = false := by rfl) :
    PE X (.Call (.Name x np) (e :: es) [] pos) (tCall sp [] E t) := pe_callG F hr hgd hg hm hk b .nil hx ha hdb he hpl
end
/-- a def, called by itself -/
def OkI (P : Program) (w : World) (K : PySem.W.Frag) (mg : Str → Option Value) (base : Heap) (CX : CXT) (k : Nat) (f : Addr) (ps : List Str) (sp : Sp) : Prop :=
  ∃ fd, FnOk P w K mg base CX k f fd ps sp ∧ Binds K fd ps []
theorem OkF.i {P : Program} {w : World} {K : PySem.W.Frag} {mg : Str → Option Value} {base : Heap} {CX : CXT} {k : Nat} {f : Addr} {ps : List Str} {sp : Sp} (G : OkF P w K mg base CX k f ps sp) : OkI P w K mg base CX k f ps sp := by
  obtain ⟨fd, F, b, _⟩ := G
  exact ⟨fd, F, b⟩
theorem OkI.fnR {P : Program} {w : World} {K : PySem.W.Frag} {mg : Str → Option Value} {base : Heap} {CX : CXT} {k : Nat} {f : Addr} {ps : List Str} {sp : Sp} (G : OkI P w K mg base CX k f ps sp) : FnR P w K mg base CX k f sp := by
  obtain ⟨fd, F, b⟩ := G
  refine (F.raw b .nil).imp fun vs H Q E h => ?_
  show sp (vs ++ []) H Q E
  rw [List.append_nil]
  exact h
theorem pe_mkI {X : Cx} {CX : CXT} {k : Nat} {f C : Addr} {ps : List Str} {sp : Sp} {E : XK} {x : Str} {np pos : Pos} {e : Expr} {es : List Expr} {t : TA} (M : Mk X.K C f) (G : OkI X.prog X.w X.K X.mg X.base CX k f ps sp) (hr : Room (k + 1) X.A) (hg : Gl X x) (hm : X.mg x = some (.ref C)) (hx : Passes CX X E) (ha : PA X (e :: es) t)
    (hdb : (x == ("__debug__" : Str)) = false := by decide) (he : starEach (e :: es) X.env = (false, eval e X.env) :: starEach es X.env := by rfl) (hpl : (backTo pos (starEach es X.env)).any (·.1) = false := by rfl) :
    PE X (.Call (.Name x np) (e :: es) [] pos) (tMake C sp [] E t) := by
  obtain ⟨fd, F, b⟩ := G
  exact pe_make M F hr hg hm b .nil hx ha hdb he hpl
/-! ### locks -/
theorem same_lock {H H' : Hp} {d : Addr} {u : HO} {od : Obj} (h : H d = some u) (s : Same (upd H d (.frz od u)) H') : Same H (upd H' d u) := fun b o z => by
  by_cases hb : b = d
  · subst hb
    rw [upd_same]
    exact h.symm.trans z |>.symm ▸ z ▸ h.symm ▸ rfl
  · rw [upd_ne hb]
    exact s b o (by rw [upd_ne hb]; exact z)
end Xr
set_option maxHeartbeats 4000000
/-! tables of whole numbers by names; their ascending form without zeros -/
namespace Xr
open PySem PySem.Spec PyProof.Rows L2
theorem ix_tupK {X : Cx} (K : PySem.W.Frag) (h : X.K = K := by rfl) : IxR X (rIxT K) := by
  subst h
  exact ix_tup
theorem call_isiK {X : Cx} (K : PySem.W.Frag) (h : X.K = K := by rfl) : CallR X (.builtin "isinstance") (rIsi K) := by
  subst h
  exact call_isi
abbrev Tab := List (Str × Int)
def ks (t : Tab) : List Str := t.map (·.1)
def tabK (t : Tab) : List (Key × V) := t.map fun p => (.inr p.1, .int p.2)
def val (t : Tab) (k : Str) : Int := match t.find? (fun p => decide (p.1 = k)) with
  | some p => p.2
  | none => 0
theorem find_tab (t : Tab) (k : Str) : valV (tabK t) (.inr k) = (t.find? fun p => decide (p.1 = k)).map fun p => V.int p.2 := by
  unfold valV tabK
  induction t with
  | nil => rfl
  | cons p r ih =>
    rw [List.map_cons, List.find?_cons, List.find?_cons]
    have e : decide ((Sum.inr p.1 : Key) = Sum.inr k) = decide (p.1 = k) := by
      by_cases h : p.1 = k <;> simp [h]
    dsimp only
    rw [e]
    cases decide (p.1 = k) with
    | true => rfl
    | false => exact ih
theorem find_none {t : Tab} {k : Str} : (t.find? fun p => decide (p.1 = k)) = none ↔ k ∉ ks t := by
  rw [List.find?_eq_none]
  unfold ks
  constructor
  · intro h hm
    obtain ⟨p, hp, e⟩ := List.mem_map.mp hm
    exact h p hp (decide_eq_true e)
  · intro h p hp e
    exact h (List.mem_map.mpr ⟨p, hp, of_decide_eq_true e⟩)
theorem valV_out {t : Tab} {k : Str} (h : k ∉ ks t) : valV (tabK t) (.inr k) = none := by
  rw [find_tab, find_none.mpr h]
  rfl
theorem valV_in {t : Tab} {k : Str} (h : k ∈ ks t) : valV (tabK t) (.inr k) = some (.int (val t k)) := by
  rw [find_tab]
  unfold val
  cases e : t.find? fun p => decide (p.1 = k) with
  | none => exact absurd h (find_none.mp e)
  | some p => rfl
theorem valV_getD {t : Tab} {k : Str} : (valV (tabK t) (.inr k)).getD (.int 0) = .int (val t k) := by
  rw [find_tab]
  unfold val
  cases t.find? fun p => decide (p.1 = k) <;> rfl
theorem val_out {t : Tab} {k : Str} (h : k ∉ ks t) : val t k = 0 := by
  unfold val
  rw [find_none.mpr h]
theorem val_map {f : Str → Int} {l : List Str} {k : Str} : val (l.map fun x => (x, f x)) k = if k ∈ l then f k else 0 := by
  unfold val
  induction l with
  | nil => rfl
  | cons x r ih =>
    rw [List.map_cons, List.find?_cons]
    by_cases h : x = k
    · subst h
      simp
    · have h2 : k ≠ x := fun z => h z.symm
      simp only [h, decide_false, List.mem_cons, h2, false_or]
      exact ih
theorem val_mem {t : Tab} (nd : (ks t).Nodup) {p : Str × Int} (h : p ∈ t) : val t p.1 = p.2 := by
  unfold val
  induction t with
  | nil => cases h
  | cons q r ih =>
    unfold ks at nd
    rw [List.map_cons, List.nodup_cons] at nd
    rw [List.find?_cons]
    rcases List.mem_cons.mp h with e | hm
    · subst e
      simp
    · have hne : q.1 ≠ p.1 := fun z => nd.1 (List.mem_map.mpr ⟨p, hm, z.symm⟩)
      simp only [hne, decide_false]
      exact ih nd.2 hm
theorem ks_tab (t : Tab) : (tabK t).map (·.1) = (ks t).map Sum.inr := by
  unfold tabK ks
  rw [List.map_map, List.map_map]
  rfl
theorem keysV_tab (t : Tab) : keysV (tabK t) = (ks t).map V.str := by
  unfold keysV tabK ks
  rw [List.map_map, List.map_map]
  rfl
theorem tab_eq_map {t : Tab} (nd : (ks t).Nodup) : t = (ks t).map fun k => (k, val t k) := by
  unfold ks
  rw [List.map_map]
  conv => lhs; rw [← List.map_id t]
  refine List.map_congr_left fun p hp => ?_
  show p = (p.1, val t p.1)
  rw [val_mem nd hp]
/-! ### order -/
def leS (a b : Str) : Prop := ltCps b.cps.toList a.cps.toList = false
theorem leS_iff {a b : Str} : leS a b ↔ a.cps.toList ≤ b.cps.toList := by
  unfold leS
  rw [ltCps_eq, decide_eq_false_iff_not]
  exact Iff.rfl
theorem leS_trans {a b c : Str} (h1 : leS a b) (h2 : leS b c) : leS a c := leS_iff.mpr (List.le_trans (leS_iff.mp h1) (leS_iff.mp h2))
theorem str_ext {a b : Str} (h : a.cps.toList = b.cps.toList) : a = b := by
  cases a with
  | mk x =>
    cases b with
    | mk y =>
      cases x
      cases y
      cases h
      rfl
theorem leS_antisymm {a b : Str} (h1 : leS a b) (h2 : leS b a) : a = b := str_ext (List.le_antisymm (leS_iff.mp h1) (leS_iff.mp h2))
theorem pairwise_rising : ∀ (l : List Str) (p : Str), risingS p l = true → (p :: l).Pairwise leS
  | [], p, _ => List.pairwise_singleton _ _
  | x :: r, p, h => by
    have h' : (!ltCps x.cps.toList p.cps.toList && risingS x r) = true := h
    obtain ⟨h1, h2⟩ := He.ba h'
    have ih := pairwise_rising r x h2
    have px : leS p x := by simpa [leS] using h1
    refine List.pairwise_cons.mpr ⟨fun y hy => ?_, ih⟩
    rcases List.mem_cons.mp hy with rfl | hy
    · exact px
    · exact leS_trans px (List.rel_of_pairwise_cons ih hy)
theorem pairwise_sorted {l : List Str} (h : sortedS l = true) : l.Pairwise leS := by
  cases l with
  | nil => exact List.Pairwise.nil
  | cons x r => exact pairwise_rising r x h
/-- ascending, without zeros -/
structure Canon (m : Tab) : Prop where
  up : (ks m).Pairwise leS
  nd : (ks m).Nodup
  nz : ∀ p ∈ m, p.2 ≠ 0
theorem Canon.mem {m : Tab} (c : Canon m) {k : Str} : k ∈ ks m ↔ val m k ≠ 0 := by
  constructor
  · intro h
    obtain ⟨p, hp, rfl⟩ := List.mem_map.mp h
    rw [val_mem c.nd hp]
    exact c.nz p hp
  · intro h
    by_cases hm : k ∈ ks m
    · exact hm
    · exact absurd (val_out hm) h
theorem canon_eq {m m' : Tab} (c : Canon m) (c' : Canon m') (h : ∀ k, val m k = val m' k) : m = m' := by
  have e : ks m = ks m' := by
    refine List.Perm.eq_of_pairwise (le := leS) (fun a b _ _ => leS_antisymm) c.up c'.up ((List.perm_ext_iff_of_nodup c.nd c'.nd).mpr fun k => ?_)
    rw [c.mem, c'.mem, h]
  rw [tab_eq_map c.nd, tab_eq_map c'.nd, e]
  exact List.map_congr_left fun k _ => by rw [h]
/-- the ascending form of a table, from its keys sorted -/
def norm (ys : List Str) (t : Tab) : Tab := (ys.filter fun k => decide (val t k ≠ 0)).map fun k => (k, val t k)
theorem ks_norm (ys : List Str) (t : Tab) : ks (norm ys t) = ys.filter fun k => decide (val t k ≠ 0) := by
  unfold ks norm
  rw [List.map_map]
  exact List.map_id _
theorem canon_norm {ys : List Str} {t : Tab} (nd : (ks t).Nodup) (hp : ys.Perm (ks t)) (hs : sortedS ys = true) : Canon (norm ys t) ∧ ∀ k, val (norm ys t) k = val t k := by
  refine ⟨⟨?_, ?_, ?_⟩, fun k => ?_⟩
  · rw [ks_norm]
    exact (pairwise_sorted hs).filter _
  · rw [ks_norm]
    exact (hp.nodup_iff.mpr nd).filter _
  · intro p h
    obtain ⟨k, hk, rfl⟩ := List.mem_map.mp h
    have := (List.mem_filter.mp hk).2
    exact of_decide_eq_true this
  · unfold norm
    rw [val_map]
    by_cases h0 : val t k = 0
    · rw [if_neg (by simp [h0]), h0]
    · have hm : k ∈ ks t := by
        by_cases hm : k ∈ ks t
        · exact hm
        · exact absurd (val_out hm) h0
      rw [if_pos (by simp [h0, hp.mem_iff, hm])]
theorem norm_length {ys : List Str} {t : Tab} (hp : ys.Perm (ks t)) : (norm ys t).length ≤ t.length := by
  unfold norm
  rw [List.length_map]
  have z := List.length_filter_le (fun k => decide (val t k ≠ 0)) ys
  have z2 : ys.length = t.length := by rw [hp.length_eq]; unfold ks; rw [List.length_map]
  omega
/-! ### sums -/
def addT (one other : Tab) (s : Int) : Tab := (ks one ++ (ks other).filter fun k => decide (k ∉ ks one)).map fun k => (k, val one k + s * val other k)
theorem ks_addT (one other : Tab) (s : Int) : ks (addT one other s) = ks one ++ (ks other).filter fun k => decide (k ∉ ks one) := by
  unfold ks addT
  rw [List.map_map]
  exact List.map_id _
theorem addT_nd {one other : Tab} {s : Int} (h1 : (ks one).Nodup) (h2 : (ks other).Nodup) : (ks (addT one other s)).Nodup := by
  rw [ks_addT]
  refine List.nodup_append.mpr ⟨h1, h2.filter _, fun a ha b hb e => ?_⟩
  subst e
  exact of_decide_eq_true (List.mem_filter.mp hb).2 ha
theorem val_addT {one other : Tab} {s : Int} {k : Str} : val (addT one other s) k = val one k + s * val other k := by
  unfold addT
  rw [val_map]
  by_cases h1 : k ∈ ks one
  · rw [if_pos (List.mem_append_left _ h1)]
  · by_cases h2 : k ∈ ks other
    · rw [if_pos (List.mem_append_right _ (List.mem_filter.mpr ⟨h2, decide_eq_true h1⟩))]
    · rw [if_neg, val_out h1, val_out h2, Int.mul_zero]
      · rfl
      · intro h
        rcases List.mem_append.mp h with h | h
        · exact h1 h
        · exact h2 (List.mem_filter.mp h).1
theorem addT_length {one other : Tab} {s : Int} : (addT one other s).length ≤ one.length + other.length := by
  unfold addT
  rw [List.length_map, List.length_append]
  have z := List.length_filter_le (fun k => decide (k ∉ ks one)) (ks other)
  have z1 : (ks one).length = one.length := by unfold ks; rw [List.length_map]
  have z2 : (ks other).length = other.length := by unfold ks; rw [List.length_map]
  omega
theorem nodup_le : ∀ {l l' : List Str}, l.Nodup → l ⊆ l' → l.length ≤ l'.length
  | [], _, _, _ => Nat.zero_le _
  | x :: r, l', nd, h => by
    obtain ⟨n1, n2⟩ := List.nodup_cons.mp nd
    have hx : x ∈ l' := h (List.mem_cons_self ..)
    have z := nodup_le (l := r) (l' := l'.erase x) n2 fun y hy => by
      have hne : y ≠ x := fun e => n1 (e ▸ hy)
      exact (List.mem_erase_of_ne hne).mpr (h (List.mem_cons_of_mem _ hy))
    rw [List.length_erase_of_mem hx] at z
    have := List.length_pos_of_mem hx
    rw [List.length_cons]
    omega
/-! ### dicts compared -/
theorem subK_tab {m m' : Tab} (nd : (ks m).Nodup) : subK (tabK m) (tabK m') = decide (∀ k ∈ ks m, k ∈ ks m' ∧ val m k = val m' k) := by
  unfold subK tabK
  rw [List.all_map, Bool.eq_iff_iff, List.all_eq_true, decide_eq_true_iff]
  constructor
  · intro h k hk
    obtain ⟨p, hp, rfl⟩ := List.mem_map.mp hk
    have z := h p hp
    by_cases hm : p.1 ∈ ks m'
    · refine ⟨hm, ?_⟩
      have e := valV_in hm
      unfold tabK at e
      simp only [Function.comp] at z
      rw [e] at z
      rw [val_mem nd hp]
      simpa [eqV] using z
    · have e := valV_out hm
      unfold tabK at e
      simp only [Function.comp] at z
      rw [e] at z
      cases z
  · intro h p hp
    obtain ⟨hm, hv⟩ := h p.1 (List.mem_map.mpr ⟨p, hp, rfl⟩)
    have e := valV_in hm
    unfold tabK at e
    simp only [Function.comp]
    rw [e, ← hv, val_mem nd hp]
    simp [eqV]
theorem eq_tab {m m' : Tab} (c : Canon m) (c' : Canon m') : ((tabK m).length == (tabK m').length && subK (tabK m) (tabK m')) = decide (m = m') := by
  rw [subK_tab c.nd, Bool.eq_iff_iff, Bool.and_eq_true, decide_eq_true_iff, decide_eq_true_iff]
  constructor
  · rintro ⟨h1, h2⟩
    have hl : (ks m).length = (ks m').length := by
      have := beq_iff_eq.mp h1
      unfold tabK at this
      unfold ks
      simpa using this
    have sub : ks m ⊆ ks m' := fun k hk => (h2 k hk).1
    have pm : (ks m).Perm (ks m') := by
      refine (List.perm_ext_iff_of_nodup c.nd c'.nd).mpr fun k => ⟨fun h => sub h, fun h => ?_⟩
      by_cases hk : k ∈ ks m
      · exact hk
      · have z : (k :: ks m).Nodup := List.nodup_cons.mpr ⟨hk, c.nd⟩
        have z2 : (k :: ks m) ⊆ ks m' := fun x hx => (List.mem_cons.mp hx).elim (fun e => e ▸ h) fun hx => sub hx
        have z3 := nodup_le z z2
        rw [List.length_cons] at z3
        omega
    refine canon_eq c c' fun k => ?_
    by_cases hk : k ∈ ks m
    · exact (h2 k hk).2
    · rw [val_out hk, val_out fun h => hk (pm.mem_iff.mpr h)]
  · rintro rfl
    exact ⟨beq_self_eq_true _, fun k hk => ⟨hk, rfl⟩⟩
theorem flat_tab (t : Tab) : ∀ p ∈ tabK t, flatV p.2 = true := fun p hp => by
  obtain ⟨q, _, rfl⟩ := List.mem_map.mp hp
  rfl
end Xr
set_option maxHeartbeats 4000000
/-! a table with an entry put in -/
namespace Xr
open PySem PySem.Spec PyProof.Rows L2
def putT (t : Tab) (k : Str) (v : Int) : Tab := if k ∈ ks t then t.map (fun p => if p.1 = k then (p.1, v) else p) else t ++ [(k, v)]
theorem any_tab {t : Tab} {k : Str} : ((tabK t).any fun kv => decide (kv.1 = Sum.inr k)) = decide (k ∈ ks t) := by
  rw [Bool.eq_iff_iff, List.any_eq_true, decide_eq_true_iff]
  unfold tabK ks
  constructor
  · rintro ⟨q, hq, e⟩
    obtain ⟨p, hp, rfl⟩ := List.mem_map.mp hq
    have e2 : (Sum.inr p.1 : Key) = Sum.inr k := of_decide_eq_true e
    exact List.mem_map.mpr ⟨p, hp, Sum.inr.inj e2⟩
  · intro h
    obtain ⟨p, hp, rfl⟩ := List.mem_map.mp h
    exact ⟨_, List.mem_map.mpr ⟨p, hp, rfl⟩, decide_eq_true rfl⟩
theorem put_tab {t : Tab} {k : Str} {v : Int} : putK (tabK t) (.inr k) (.int v) = tabK (putT t k v) := by
  unfold putK putT
  rw [any_tab]
  by_cases h : k ∈ ks t
  · rw [if_pos (decide_eq_true h), if_pos h]
    unfold tabK
    rw [List.map_map, List.map_map]
    refine List.map_congr_left fun p _ => ?_
    show (if (Sum.inr p.1 : Key) = Sum.inr k then ((Sum.inr p.1 : Key), V.int v) else (Sum.inr p.1, V.int p.2)) = _
    by_cases e : p.1 = k
    · subst e
      rw [if_pos rfl]
      simp
    · rw [if_neg fun z => e (Sum.inr.inj z)]
      simp [e]
  · rw [if_neg (by rw [decide_eq_false h]; exact Bool.false_ne_true), if_neg h]
    unfold tabK
    rw [List.map_append]
    rfl
theorem val_put {t : Tab} {k j : Str} {v : Int} : val (putT t k v) j = if j = k then v else val t j := by
  have e := valV_getD (t := putT t k v) (k := j)
  rw [← put_tab, valV_put] at e
  by_cases h : j = k
  · subst h
    rw [if_pos rfl] at e ⊢
    exact (V.int.inj e).symm
  · rw [if_neg fun z => h (Sum.inr.inj z), valV_getD] at e
    rw [if_neg h]
    exact (V.int.inj e).symm
theorem ks_put {t : Tab} {k : Str} {v : Int} : ks (putT t k v) = if k ∈ ks t then ks t else ks t ++ [k] := by
  unfold putT
  split
  · unfold ks
    rw [List.map_map]
    refine List.map_congr_left fun p _ => ?_
    show (if p.1 = k then (p.1, v) else p).1 = p.1
    split <;> rfl
  · unfold ks
    rw [List.map_append]
    rfl
theorem nd_put {t : Tab} {k : Str} {v : Int} (h : (ks t).Nodup) : (ks (putT t k v)).Nodup := by
  rw [ks_put]
  split
  · exact h
  · rename_i hn
    refine List.nodup_append.mpr ⟨h, by simp, fun a ha b hb e => ?_⟩
    rw [List.mem_singleton.mp hb] at e
    exact hn (e ▸ ha)
theorem mem_put {t : Tab} {k : Str} {v : Int} {p : Str × Int} (h : p ∈ putT t k v) : p.2 = v ∨ p ∈ t := by
  unfold putT at h
  split at h
  · obtain ⟨q, hq, e⟩ := List.mem_map.mp h
    by_cases z : q.1 = k
    · rw [if_pos z] at e
      rw [← e]
      exact .inl rfl
    · rw [if_neg z] at e
      rw [← e]
      exact .inr hq
  · rcases List.mem_append.mp h with h | h
    · exact .inr h
    · rw [List.mem_singleton.mp h]
      exact .inl rfl
theorem put_len {t : Tab} {k : Str} {v : Int} : (putT t k v).length ≤ t.length + 1 := by
  unfold putT
  split
  · rw [List.length_map]
    omega
  · rw [List.length_append]
    exact Nat.le_refl _
/-- the months of the laws -/
def monthsL : List Str := ["z", "m", "aa", "self", "zzzzzzzz", "b", "zz"]
structure TabM (t : Tab) : Prop where
  nd : (ks t).Nodup
  sub : ks t ⊆ monthsL
theorem TabM.len {t : Tab} (h : TabM t) : t.length ≤ 7 := by
  have z := nodup_le h.nd h.sub
  unfold ks at z
  rw [List.length_map] at z
  exact z
theorem TabM.put {t : Tab} {k : Str} {v : Int} (h : TabM t) (hk : k ∈ monthsL) : TabM (putT t k v) := by
  refine ⟨nd_put h.nd, ?_⟩
  rw [ks_put]
  split
  · exact h.sub
  · intro x hx
    rcases List.mem_append.mp hx with hx | hx
    · exact h.sub hx
    · rw [List.mem_singleton.mp hx]
      exact hk
theorem tabM_nil : TabM [] := ⟨List.nodup_nil, fun _ h => (List.not_mem_nil h).elim⟩
theorem erase_map {α β : Type} (f : α → β) : ∀ (l : List α) (i : Nat), (l.map f).eraseIdx i = (l.eraseIdx i).map f
  | [], _ => rfl
  | _ :: _, 0 => rfl
  | x :: r, i + 1 => by
    show f x :: (r.map f).eraseIdx i = f x :: (r.eraseIdx i).map f
    rw [erase_map f r i]
theorem erase_perm {α : Type} : ∀ {l : List α} {i : Nat} (h : i < l.length), (l[i] :: l.eraseIdx i).Perm l
  | _ :: _, 0, _ => List.Perm.refl _
  | x :: r, i + 1, h => (List.Perm.swap x (r[i]'(Nat.lt_of_succ_lt_succ h)) (r.eraseIdx i)).trans ((erase_perm (l := r) (i := i) (Nat.lt_of_succ_lt_succ h)).cons x)
theorem seqI {i : Int} {n : Nat} (h0 : 0 ≤ i) (h1 : i < (n : Int)) : seqIndex? i n = some i.toNat := by
  have h2 : ¬ i < 0 := by omega
  unfold seqIndex?
  simp [h0, h1, h2]
end Xr
set_option maxHeartbeats 4000000
/-! the text of a list of pairs of a name and a whole number -/
namespace Xr
open PySem PySem.Spec PyProof.Rows L2
def pairD (p : Str × Int) : PyData := .tuple [.str p.1, .int p.2]
def pairsD (m : Tab) : PyData := .list (m.map pairD)
theorem app_len (a b : Str) : (a ++ b).length = a.length + b.length := by
  show (a.cps ++ b.cps).size = _
  rw [Array.size_append]
  rfl
theorem textFrom_le {B : Nat} : ∀ (ts : List Str) (k : Nat) (acc : Str), (∀ t ∈ ts, t.length ≤ B) → (textFrom k acc ts).length ≤ acc.length + ts.length * (B + 2)
  | [], k, acc, _ => by
    show acc.length ≤ _
    omega
  | t :: r, k, acc, h => by
    have ih := textFrom_le r (k + 1) (acc ++ (if k > 0 then ", " else "" : String) ++ t) fun x hx => h x (List.mem_cons_of_mem _ hx)
    have e : textFrom k acc (t :: r) = textFrom (k + 1) (acc ++ (if k > 0 then ", " else "" : String) ++ t) r := rfl
    rw [e]
    rw [app_len, app_len] at ih
    have ht := h t (List.mem_cons_self ..)
    have hs : (Str.ofString (if k > 0 then ", " else "" : String)).length ≤ 2 := by split <;> decide
    rw [List.length_cons, Nat.succ_mul]
    omega
theorem pair_len {p : Str × Int} (h : (reprText p.1).length ≤ 100) (hn : p.2.natAbs.log2 < 1920) : (pairD p).shown.length ≤ 2025 := by
  have e : (pairD p).shown = ("(" : Str) ++ Str.join ", " [reprText p.1, (Str.ofString (toString p.2))] ++ (")" : Str) := rfl
  have z := int_text_len_1921 hn
  have j := join_length_add [reprText p.1, (Str.ofString (toString p.2))] (by simp)
  rw [e, app_len, app_len]
  have pl : piled [reprText p.1, (Str.ofString (toString p.2))] = (reprText p.1).length + 2 + ((Str.ofString (toString p.2)).length + 2) := by simp [piled]
  rw [pl] at j
  have e1 : (Str.ofString "(").length = 1 := rfl
  have e2 : (Str.ofString ")").length = 1 := rfl
  omega
theorem shownAll_map (m : Tab) : PyData.shownAll (m.map pairD) = m.map fun p => (pairD p).shown := by
  induction m with
  | nil => rfl
  | cons p r ih =>
    show (pairD p).shown :: PyData.shownAll (r.map pairD) = _
    rw [ih]
    rfl
theorem pairs_len {m : Tab} (hl : m.length ≤ 64) (h : ∀ p ∈ m, (reprText p.1).length ≤ 100 ∧ p.2.natAbs.log2 < 1920) : (pairsD m).shown.length ≤ sizeLine := by
  have e : (pairsD m).shown = textFrom 0 "[" (PyData.shownAll (m.map pairD)) ++ ("]" : Str) := rfl
  have z := textFrom_le (B := 2025) (PyData.shownAll (m.map pairD)) 0 "[" fun t ht => by
    rw [shownAll_map] at ht
    obtain ⟨p, hp, rfl⟩ := List.mem_map.mp ht
    exact pair_len (h p hp).1 (h p hp).2
  rw [shownAll_map, List.length_map] at z
  have e1 : (Str.ofString "[").length = 1 := rfl
  have e2 : (Str.ofString "]").length = 1 := rfl
  rw [e, app_len, shownAll_map, sizeLine_eq]
  have : m.length * (2025 + 2) ≤ 64 * (2025 + 2) := Nat.mul_le_mul_right _ hl
  omega
theorem pairs_show {m : Tab} (h : ∀ p ∈ m, p.2.natAbs.log2 < 1920) : (pairsD m).showable = true := by
  show PyData.showableAll (m.map pairD) = true
  induction m with
  | nil => rfl
  | cons p r ih =>
    show ((pairD p).showable && PyData.showableAll (r.map pairD)) = true
    rw [ih fun q hq => h q (List.mem_cons_of_mem _ hq), Bool.and_true]
    show (true && (decide (p.2.natAbs.log2 < 1920) && true)) = true
    rw [decide_eq_true (h p (List.mem_cons_self ..))]
    rfl
theorem pairs_depth (m : Tab) : (pairsD m).depth ≤ 2 := by
  show PyData.depthAll (m.map pairD) + 1 ≤ 2
  have z : PyData.depthAll (m.map pairD) ≤ 1 := by
    induction m with
    | nil => exact Nat.zero_le _
    | cons p r ih =>
      show max (pairD p).depth (PyData.depthAll (r.map pairD)) ≤ 1
      exact Nat.max_le.mpr ⟨Nat.le_refl _, ih⟩
  omega
theorem months_repr : ∀ k ∈ monthsL, (reprText k).length ≤ 100 := by decide +kernel
end Xr
set_option maxHeartbeats 4000000
/-! texts of terms: written and read -/
namespace Xr
open PySem PySem.Spec PyProof.Rows L2 TL
def digS : Str := "0123456789"
def numIn (x : Str) : Option Int := if ((decide (1 ≤ x.length) && decide (x.length ≤ 60)) && x.cps.toList.all fun c => decide (c ∈ digS.cps.toList)) = true then
  (if x = "0" ∨ x.cps.toList.headD 0 ≠ 48 then some ((NumText.digitsVal x.cps.toList : Nat) : Int) else none) else none
theorem dig_iff {c : Nat} : c ∈ digS.cps.toList ↔ 48 ≤ c ∧ c ≤ 57 := by
  have e : digS.cps.toList = [48, 49, 50, 51, 52, 53, 54, 55, 56, 57] := by decide +kernel
  rw [e]
  simp
  omega
def lettersS : Str := "abcdefghijklmnopqrstuvwxyz"
theorem let_iff {c : Nat} : c ∈ lettersS.cps.toList ↔ 97 ≤ c ∧ c ≤ 122 := by
  have e : lettersS.cps.toList = (List.range 26).map (· + 97) := by decide +kernel
  rw [e, List.mem_map]
  constructor
  · rintro ⟨a, h, rfl⟩
    have := List.mem_range.mp h
    omega
  · rintro ⟨h1, h2⟩
    exact ⟨c - 97, List.mem_range.mpr (by omega), by omega⟩
def nameS (x : Str) : Bool := (decide (1 ≤ x.length) && decide (x.length ≤ 8)) && x.cps.toList.all fun c => decide (c ∈ lettersS.cps.toList)
def numS (n : Int) : Str := Str.ofString (toString n)
theorem tl_numS {n : Int} (h : 0 ≤ n) : (numS n).cps.toList = numL n.natAbs := by
  have e : n = ((n.natAbs : Nat) : Int) := by omega
  unfold numS
  conv => lhs; rw [e]
  exact tl_num n.natAbs
theorem numL_head : ∀ {n : Nat}, 1 ≤ n → (numL n).headD 0 ≠ 48 := by
  intro n
  induction n using Nat.strongRecOn with
  | _ n ih =>
    intro h1
    by_cases h : n < 10
    · rw [numL_lt h]
      show 48 + n ≠ 48
      omega
    · rw [numL_step (by omega)]
      have z := ih (n / 10) (by omega) (by omega)
      have ne := numL_ne (n / 10)
      cases e : numL (n / 10) with
      | nil => exact absurd e ne
      | cons c r => rw [e] at z; exact z
theorem len_toList (x : Str) : x.cps.toList.length = x.length := Array.length_toList
theorem numIn_num {n : Int} (h0 : 0 ≤ n) (h1 : n < 10 ^ 60) : numIn (numS n) = some n := by
  have e := tl_numS h0
  have hl : (numS n).length ≤ 60 := by
    rw [← len_toList, e]
    refine numL_len (by decide) ?_
    have z : ((10 : Int) ^ 60) = ((10 ^ 60 : Nat) : Int) := by decide
    rw [z] at h1
    omega
  have hp : 1 ≤ (numS n).length := by
    rw [← len_toList, e]
    have := numL_ne n.natAbs
    cases h : numL n.natAbs with
    | nil => exact absurd h this
    | cons c r => simp
  have ha : ((numS n).cps.toList.all fun c => decide (c ∈ digS.cps.toList)) = true := by
    rw [e, List.all_eq_true]
    intro c hc
    rw [decide_eq_true_iff, dig_iff]
    exact numL_digits _ c hc
  unfold numIn
  rw [decide_eq_true hp, decide_eq_true hl, ha]
  rw [if_pos (by rfl), if_pos, e, numL_val]
  · congr 1
    omega
  · by_cases z : n = 0
    · subst z
      left
      decide +kernel
    · right
      rw [e]
      exact numL_head (by omega)
theorem numIn_name {x : Str} (h : nameS x = true) : numIn x = none := by
  unfold nameS at h
  obtain ⟨h1, h2⟩ := Bool.and_eq_true_iff.mp h
  obtain ⟨h1, _⟩ := Bool.and_eq_true_iff.mp h1
  have h1 := of_decide_eq_true h1
  unfold numIn
  rw [if_neg]
  intro z
  obtain ⟨_, z⟩ := Bool.and_eq_true_iff.mp z
  rw [← len_toList] at h1
  cases e : x.cps.toList with
  | nil => rw [e] at h1; simp at h1
  | cons c r =>
    have z1 := List.all_eq_true.mp z c (by rw [e]; exact List.mem_cons_self ..)
    have z2 := List.all_eq_true.mp h2 c (by rw [e]; exact List.mem_cons_self ..)
    have z1 := dig_iff.mp (of_decide_eq_true z1)
    have z2 := let_iff.mp (of_decide_eq_true z2)
    omega
/-! ### words -/
abbrev absI (i : Int) : Int := if i < 0 then -i else i
def termW (e : Bool) (p : Str × Int) : List Str := (if p.2 < 0 then [("-" : Str)] else if e then [] else [("+" : Str)]) ++ ((if absI p.2 ≠ 1 then [numS (absI p.2)] else []) ++ [p.1])
/-- the words of terms, behind words that stand already -/
def wordsB (b : Bool) : Tab → List Str
  | [] => []
  | p :: r => termW b p ++ wordsB false r
def wordsT (m : Tab) : List Str := wordsB true m
theorem termW_ne {e : Bool} {p : Str × Int} : termW e p ≠ [] := by
  unfold termW
  simp
theorem wordsT_nil {m : Tab} : wordsT m = [] ↔ m = [] := by
  cases m with
  | nil => simp [wordsT, wordsB]
  | cons p r =>
    show termW true p ++ _ = [] ↔ _
    simp [termW_ne]
def wordsZ (m : Tab) : List Str := if wordsT m ≠ [] then wordsT m else ["0"]
def textT (m : Tab) : Str := if wordsT m ≠ [] then Txt.join " " (wordsT m) else "0"
/-! ### reading -/
def wordAt (ws : List Str) (at_ : Nat) : Except Nat Str := match ws[at_]? with
  | some w => .ok w
  | none => .error ws.length
def signAt (ws : List Str) (at_ : Nat) (first : Bool) : Except Nat (Int × Nat) := match wordAt ws at_ with
  | .error e => .error e
  | .ok w => if w = "-" then .ok (-1, at_ + 1) else if first = true then .ok (1, at_) else if w = "+" then .ok (1, at_ + 1) else .error at_
def sizeAt (ws : List Str) (at_ : Nat) : Except Nat (Int × Nat) := match wordAt ws at_ with
  | .error e => .error e
  | .ok w => match numIn w with
    | none => .ok (1, at_)
    | some n => if n < 2 then .error at_ else .ok (n, at_ + 1)
def termAt (ws : List Str) (at_ : Nat) (acc : Tab) : Except Nat (Tab × Nat) := match signAt ws at_ acc.isEmpty with
  | .error e => .error e
  | .ok (s, a1) => match sizeAt ws a1 with
    | .error e => .error e
    | .ok (n, a2) => match wordAt ws a2 with
      | .error e => .error e
      | .ok m => if nameS m = true ∧ m ∉ ks acc then .ok (acc ++ [(m, s * n)], a2 + 1) else .error a2
def termsFrom (ws : List Str) : Nat → Nat → Tab → Except Nat Tab
  | 0, _, _ => .error 0
  | f + 1, at_, acc => if acc.isEmpty = true ∨ at_ < ws.length then (match termAt ws at_ acc with
    | .error e => .error e
    | .ok (acc', at') => termsFrom ws f at' acc') else .ok acc
def termsIn (ws : List Str) (at_ : Nat) : Except Nat Tab := if ws[at_]? = some ("0" : Str) then (if at_ + 1 < ws.length then .error (at_ + 1) else .ok []) else termsFrom ws (ws.length + 1) at_ []
theorem signAt_le {ws : List Str} {a b : Nat} {f : Bool} {s : Int} (h : signAt ws a f = .ok (s, b)) : a ≤ b ∧ b ≤ a + 1 ∧ (s = 1 ∨ s = -1) := by
  unfold signAt at h
  cases hw : wordAt ws a with
  | error e => rw [hw] at h; cases h
  | ok w =>
    rw [hw] at h
    dsimp only at h
    split at h
    · cases h; omega
    · split at h
      · cases h; omega
      · split at h
        · cases h; omega
        · cases h
theorem sizeAt_le {ws : List Str} {a b : Nat} {n : Int} (h : sizeAt ws a = .ok (n, b)) : a ≤ b ∧ b ≤ a + 1 ∧ 1 ≤ n := by
  unfold sizeAt at h
  cases hw : wordAt ws a with
  | error e => rw [hw] at h; cases h
  | ok w =>
    rw [hw] at h
    dsimp only at h
    cases hn : numIn w with
    | none => rw [hn] at h; cases h; omega
    | some k =>
      rw [hn] at h
      dsimp only at h
      split at h
      · cases h
      · cases h; omega
structure GoodP (p : Str × Int) : Prop where
  name : nameS p.1 = true
  ne : p.2 ≠ 0
  wh : absI p.2 < 10 ^ 60
theorem name_minus {x : Str} (h : nameS x = true) : x ≠ "-" ∧ x ≠ "+" ∧ x ≠ "0" := by
  refine ⟨?_, ?_, ?_⟩ <;> (intro z; rw [z] at h; revert h; decide +kernel)
theorem num_minus {n : Int} (h : 2 ≤ n) : numS n ≠ "-" ∧ numS n ≠ "+" ∧ numS n ≠ "0" := by
  have e := tl_numS (n := n) (by omega)
  have hd := numL_digits n.natAbs
  have hv := numL_val n.natAbs
  rw [← e] at hd hv
  refine ⟨?_, ?_, ?_⟩ <;> (intro z; rw [z] at hd hv)
  · have := hd 45 (by decide +kernel)
    omega
  · have := hd 43 (by decide +kernel)
    omega
  · have z2 : NumText.digitsVal (Str.ofString "0").cps.toList = 0 := by decide +kernel
    rw [z2] at hv
    omega
theorem at_app {pre suf : List Str} {w : Str} : wordAt (pre ++ w :: suf) pre.length = .ok w := by
  unfold wordAt
  rw [List.getElem?_append_right (Nat.le_refl _), Nat.sub_self]
  rfl
theorem at_app1 {pre suf : List Str} {v w : Str} : wordAt (pre ++ v :: w :: suf) (pre.length + 1) = .ok w := by
  have e : pre ++ v :: w :: suf = (pre ++ [v]) ++ w :: suf := by simp
  have l : (pre ++ [v]).length = pre.length + 1 := by simp
  rw [e, ← l]
  exact at_app
/-- behind the sign: size and name -/
theorem size_term {pre suf : List Str} {p : Str × Int} (g : GoodP p) : ∃ a2, sizeAt (pre ++ ((if absI p.2 ≠ 1 then [numS (absI p.2)] else []) ++ [p.1]) ++ suf) pre.length = .ok (absI p.2, a2) ∧
    wordAt (pre ++ ((if absI p.2 ≠ 1 then [numS (absI p.2)] else []) ++ [p.1]) ++ suf) a2 = .ok p.1 ∧ a2 + 1 = pre.length + ((if absI p.2 ≠ 1 then [numS (absI p.2)] else []) ++ [p.1]).length := by
  have gn := g.ne
  have g0 : 1 ≤ absI p.2 := by unfold absI; split <;> omega
  by_cases h : absI p.2 ≠ 1
  · rw [if_pos h]
    refine ⟨pre.length + 1, ?_, ?_, by simp⟩
    · unfold sizeAt
      have e : pre ++ ([numS (absI p.2)] ++ [p.1]) ++ suf = pre ++ numS (absI p.2) :: (p.1 :: suf) := by simp
      rw [e, at_app]
      dsimp only
      rw [numIn_num (by omega) g.wh]
      dsimp only
      rw [if_neg (by omega)]
    · have e : pre ++ ([numS (absI p.2)] ++ [p.1]) ++ suf = pre ++ numS (absI p.2) :: p.1 :: suf := by simp
      rw [e]
      exact at_app1
  · rw [if_neg h]
    have e : pre ++ ([] ++ [p.1]) ++ suf = pre ++ p.1 :: suf := by simp
    refine ⟨pre.length, ?_, ?_, by simp⟩
    · unfold sizeAt
      rw [e, at_app]
      dsimp only
      rw [numIn_name g.name]
      have : absI p.2 = 1 := by omega
      rw [this]
    · rw [e]
      exact at_app
theorem head_term {p : Str × Int} (g : GoodP p) : ∃ w r, (if absI p.2 ≠ 1 then [numS (absI p.2)] else []) ++ [p.1] = w :: r ∧ w ≠ "-" ∧ w ≠ "+" ∧ w ≠ "0" := by
  have gn := g.ne
  have g0 : 1 ≤ absI p.2 := by unfold absI; split <;> omega
  by_cases h : absI p.2 ≠ 1
  · rw [if_pos h]
    exact ⟨_, _, rfl, num_minus (by omega)⟩
  · rw [if_neg h]
    exact ⟨_, _, rfl, name_minus g.name⟩
theorem termAt_term {pre suf : List Str} {p : Str × Int} {acc : Tab} (g : GoodP p) (hn : p.1 ∉ ks acc) : termAt (pre ++ termW acc.isEmpty p ++ suf) pre.length acc = .ok (acc ++ [p], pre.length + (termW acc.isEmpty p).length) := by
  obtain ⟨w, r, ew, w1, w2, w3⟩ := head_term g
  unfold termW termAt
  by_cases hneg : p.2 < 0
  · rw [if_pos hneg]
    have es : pre ++ ([("-" : Str)] ++ ((if absI p.2 ≠ 1 then [numS (absI p.2)] else []) ++ [p.1])) ++ suf = (pre ++ [("-" : Str)]) ++ ((if absI p.2 ≠ 1 then [numS (absI p.2)] else []) ++ [p.1]) ++ suf := by simp
    have hs : signAt (pre ++ ([("-" : Str)] ++ ((if absI p.2 ≠ 1 then [numS (absI p.2)] else []) ++ [p.1])) ++ suf) pre.length acc.isEmpty = .ok (-1, pre.length + 1) := by
      have e : pre ++ ([("-" : Str)] ++ ((if absI p.2 ≠ 1 then [numS (absI p.2)] else []) ++ [p.1])) ++ suf = pre ++ ("-" : Str) :: (((if absI p.2 ≠ 1 then [numS (absI p.2)] else []) ++ [p.1]) ++ suf) := by simp
      unfold signAt
      rw [e, at_app]
      exact if_pos rfl
    rw [hs]
    dsimp only
    obtain ⟨a2, h1, h2, h3⟩ := size_term (pre := pre ++ [("-" : Str)]) (suf := suf) g
    have l : (pre ++ [("-" : Str)]).length = pre.length + 1 := by simp
    rw [l] at h1 h3
    rw [es, h1]
    dsimp only
    rw [h2]
    dsimp only
    rw [if_pos ⟨g.name, hn⟩]
    have e1 : -1 * absI p.2 = p.2 := by unfold absI; rw [if_pos hneg]; omega
    rw [e1]
    have e2 : ([("-" : Str)] ++ ((if absI p.2 ≠ 1 then [numS (absI p.2)] else []) ++ [p.1])).length = ((if absI p.2 ≠ 1 then [numS (absI p.2)] else []) ++ [p.1]).length + 1 := by simp
    rw [e2]
    have e3 : a2 + 1 = pre.length + (((if absI p.2 ≠ 1 then [numS (absI p.2)] else []) ++ [p.1]).length + 1) := by omega
    rw [e3]
  · rw [if_neg hneg]
    have e1 : 1 * absI p.2 = p.2 := by unfold absI; rw [if_neg hneg]; omega
    cases hf : acc.isEmpty with
    | true =>
      rw [if_pos rfl]
      have es : pre ++ ([] ++ ((if absI p.2 ≠ 1 then [numS (absI p.2)] else []) ++ [p.1])) ++ suf = pre ++ ((if absI p.2 ≠ 1 then [numS (absI p.2)] else []) ++ [p.1]) ++ suf := by simp
      have hs : signAt (pre ++ ((if absI p.2 ≠ 1 then [numS (absI p.2)] else []) ++ [p.1]) ++ suf) pre.length true = .ok (1, pre.length) := by
        have e : pre ++ ((if absI p.2 ≠ 1 then [numS (absI p.2)] else []) ++ [p.1]) ++ suf = pre ++ w :: (r ++ suf) := by rw [ew]; simp
        unfold signAt
        rw [e, at_app]
        dsimp only
        rw [if_neg w1, if_pos rfl]
      rw [es, hs]
      dsimp only
      obtain ⟨a2, h1, h2, h3⟩ := size_term (pre := pre) (suf := suf) g
      rw [h1]
      dsimp only
      rw [h2]
      dsimp only
      rw [if_pos ⟨g.name, hn⟩, e1, h3]
      simp
    | false =>
      rw [if_neg (by simp)]
      have es : pre ++ ([("+" : Str)] ++ ((if absI p.2 ≠ 1 then [numS (absI p.2)] else []) ++ [p.1])) ++ suf = (pre ++ [("+" : Str)]) ++ ((if absI p.2 ≠ 1 then [numS (absI p.2)] else []) ++ [p.1]) ++ suf := by simp
      have hs : signAt (pre ++ ([("+" : Str)] ++ ((if absI p.2 ≠ 1 then [numS (absI p.2)] else []) ++ [p.1])) ++ suf) pre.length false = .ok (1, pre.length + 1) := by
        have e : pre ++ ([("+" : Str)] ++ ((if absI p.2 ≠ 1 then [numS (absI p.2)] else []) ++ [p.1])) ++ suf = pre ++ ("+" : Str) :: (((if absI p.2 ≠ 1 then [numS (absI p.2)] else []) ++ [p.1]) ++ suf) := by simp
        unfold signAt
        rw [e, at_app]
        dsimp only
        rw [if_neg (by decide), if_neg (by simp), if_pos rfl]
      rw [hs]
      dsimp only
      obtain ⟨a2, h1, h2, h3⟩ := size_term (pre := pre ++ [("+" : Str)]) (suf := suf) g
      have l : (pre ++ [("+" : Str)]).length = pre.length + 1 := by simp
      rw [l] at h1 h3
      rw [es, h1]
      dsimp only
      rw [h2]
      dsimp only
      rw [if_pos ⟨g.name, hn⟩, e1]
      have e2 : ([("+" : Str)] ++ ((if absI p.2 ≠ 1 then [numS (absI p.2)] else []) ++ [p.1])).length = ((if absI p.2 ≠ 1 then [numS (absI p.2)] else []) ++ [p.1]).length + 1 := by simp
      rw [e2]
      have e3 : a2 + 1 = pre.length + (((if absI p.2 ≠ 1 then [numS (absI p.2)] else []) ++ [p.1]).length + 1) := by omega
      rw [e3]
theorem termsFrom_words : ∀ (r : Tab) (pre : List Str) (acc : Tab) (f : Nat), (∀ p ∈ r, GoodP p) → (ks (acc ++ r)).Nodup → r.length < f → (acc = [] → r ≠ []) → termsFrom (pre ++ wordsB acc.isEmpty r) f pre.length acc = .ok (acc ++ r)
  | [], pre, acc, 0, _, _, hl, _ => absurd hl (Nat.not_lt_zero _)
  | [], pre, acc, f + 1, _, _, _, hne => by
    have ha : acc.isEmpty = false := by
      cases acc with
      | nil => exact absurd rfl (hne rfl)
      | cons _ _ => rfl
    unfold termsFrom
    rw [if_neg]
    · rw [List.append_nil]
    · simp [wordsB, ha]
  | p :: r, pre, acc, 0, _, _, hl, _ => absurd hl (Nat.not_lt_zero _)
  | p :: r, pre, acc, f + 1, hg, nd, hl, _ => by
    have e : pre ++ wordsB acc.isEmpty (p :: r) = pre ++ termW acc.isEmpty p ++ wordsB false r := by simp [wordsB]
    have hn : p.1 ∉ ks acc := by
      unfold ks at nd
      rw [List.map_append, List.nodup_append] at nd
      exact fun z => nd.2.2 _ z _ (List.mem_map.mpr ⟨p, List.mem_cons_self .., rfl⟩) rfl
    unfold termsFrom
    rw [if_pos, e, termAt_term (hg p (List.mem_cons_self ..)) hn]
    · dsimp only
      have l : pre.length + (termW acc.isEmpty p).length = (pre ++ termW acc.isEmpty p).length := by simp
      have ie : (acc ++ [p]).isEmpty = false := by simp
      have ih := termsFrom_words r (pre ++ termW acc.isEmpty p) (acc ++ [p]) f (fun q hq => hg q (List.mem_cons_of_mem _ hq)) (by rw [List.append_assoc]; exact nd) (by simp at hl; omega) (by simp)
      rw [ie] at ih
      rw [l, ih, List.append_assoc]
      rfl
    · right
      rw [e]
      have := termW_ne (e := acc.isEmpty) (p := p)
      cases h : termW acc.isEmpty p with
      | nil => exact absurd h this
      | cons a b =>
        simp
theorem termW_pos {e : Bool} {p : Str × Int} : 1 ≤ (termW e p).length := by
  have := termW_ne (e := e) (p := p)
  cases h : termW e p with
  | nil => exact absurd h this
  | cons a b => simp
theorem wordsB_len : ∀ (b : Bool) (m : Tab), m.length ≤ (wordsB b m).length
  | _, [] => Nat.zero_le _
  | b, p :: r => by
    have z := wordsB_len false r
    have t := termW_pos (e := b) (p := p)
    unfold wordsB
    rw [List.length_append, List.length_cons]
    omega
theorem terms_words {m : Tab} (hg : ∀ p ∈ m, GoodP p) (nd : (ks m).Nodup) : termsIn (wordsZ m) 0 = .ok m := by
  cases m with
  | nil => rfl
  | cons p r =>
    have hne : wordsT (p :: r) ≠ [] := fun z => by rw [wordsT_nil] at z; cases z
    unfold wordsZ
    rw [if_pos hne]
    unfold termsIn
    have h0 : (wordsT (p :: r))[0]? ≠ some ("0" : Str) := by
      obtain ⟨w, t, ew, w1, w2, w3⟩ := head_term (hg p (List.mem_cons_self ..))
      show (termW true p ++ wordsB false r)[0]? ≠ _
      unfold termW
      by_cases hneg : p.2 < 0
      · rw [if_pos hneg]
        simp
        decide +kernel
      · rw [if_neg hneg, if_pos rfl, ew]
        simpa using w3
    rw [if_neg h0]
    have z : termsFrom ([] ++ wordsT (p :: r)) _ _ _ = _ := termsFrom_words (p :: r) [] [] ((wordsT (p :: r)).length + 1) hg nd (Nat.lt_succ_of_le (wordsB_len _ _)) (by simp)
    have z2 : termsFrom (wordsT (p :: r)) ((wordsT (p :: r)).length + 1) 0 [] = .ok (p :: r) := by simpa using z
    exact z2
/-! ### the text of words -/
theorem words_free : ∀ (b : Bool) (m : Tab), (∀ p ∈ m, GoodP p) → ∀ w ∈ wordsB b m, (32 : Nat) ∉ w.cps.toList ∧ w.length ≤ 60
  | _, [], _, w, hw => (List.not_mem_nil hw).elim
  | b, p :: r, hg, w, hw => by
    unfold wordsB at hw
    rcases List.mem_append.mp hw with h | h
    · have g := hg p (List.mem_cons_self ..)
      have gn := g.ne
      have g0 : 1 ≤ absI p.2 := by unfold absI; split <;> omega
      have nm : (32 : Nat) ∉ p.1.cps.toList ∧ p.1.length ≤ 60 := by
        have z := g.name
        unfold nameS at z
        obtain ⟨z1, z2⟩ := Bool.and_eq_true_iff.mp z
        obtain ⟨_, z1⟩ := Bool.and_eq_true_iff.mp z1
        have z1 := of_decide_eq_true z1
        refine ⟨fun hm => ?_, by omega⟩
        have := let_iff.mp (of_decide_eq_true (List.all_eq_true.mp z2 _ hm))
        omega
      have nn : (32 : Nat) ∉ (numS (absI p.2)).cps.toList ∧ (numS (absI p.2)).length ≤ 60 := by
        rw [← len_toList, tl_numS (by omega)]
        refine ⟨numL_free (by omega), numL_len (by decide) ?_⟩
        have z : ((10 : Int) ^ 60) = ((10 ^ 60 : Nat) : Int) := by decide
        have := g.wh
        rw [z] at this
        omega
      have sg : ∀ x ∈ (["-", "+"] : List Str), (32 : Nat) ∉ x.cps.toList ∧ x.length ≤ 60 := by decide +kernel
      unfold termW at h
      rcases List.mem_append.mp h with h | h
      · split at h
        · exact sg w (by simp at h; simp [h])
        · split at h
          · cases h
          · exact sg w (by simp at h; simp [h])
      · rcases List.mem_append.mp h with h | h
        · split at h
          · rw [List.mem_singleton.mp h]
            exact nn
          · cases h
        · rw [List.mem_singleton.mp h]
          exact nm
    · exact words_free false r (fun q hq => hg q (List.mem_cons_of_mem _ hq)) w h
theorem split_text {m : Tab} (hg : ∀ p ∈ m, GoodP p) : Txt.split (textT m) " " = wordsZ m := by
  unfold textT wordsZ
  by_cases h : wordsT m ≠ []
  · rw [if_pos h, if_pos h]
    exact split_join (s := 32) (S := []) (by decide +kernel) (by decide +kernel) h fun w hw => (words_free true m hg w hw).1
  · rw [if_neg h, if_neg h]
    have := split_join (y := " ") (s := 32) (S := []) (by decide +kernel) (by decide +kernel) (parts := ["0"]) (by simp) (fun p hp => by rw [List.mem_singleton.mp hp]; decide +kernel)
    have e : Txt.join " " ["0"] = "0" := by decide +kernel
    rw [e] at this
    exact this
theorem words_all (Pw : Str → Prop) (h1 : Pw "-") (h2 : Pw "+") (hn : ∀ x, nameS x = true → Pw x) (hd : ∀ n : Int, 0 ≤ n → n < 10 ^ 60 → Pw (numS n)) : ∀ (b : Bool) (m : Tab), (∀ p ∈ m, GoodP p) → ∀ w ∈ wordsB b m, Pw w
  | _, [], _, w, hw => (List.not_mem_nil hw).elim
  | b, p :: r, hg, w, hw => by
    unfold wordsB at hw
    rcases List.mem_append.mp hw with h | h
    · have g := hg p (List.mem_cons_self ..)
      have gn := g.ne
      have g0 : 1 ≤ absI p.2 := by unfold absI; split <;> omega
      unfold termW at h
      rcases List.mem_append.mp h with h | h
      · split at h
        · rw [List.mem_singleton.mp h]
          exact h1
        · split at h
          · cases h
          · rw [List.mem_singleton.mp h]
            exact h2
      · rcases List.mem_append.mp h with h | h
        · split at h
          · rw [List.mem_singleton.mp h]
            exact hd _ (by omega) g.wh
          · cases h
        · rw [List.mem_singleton.mp h]
          exact hn _ g.name
    · exact words_all Pw h1 h2 hn hd false r (fun q hq => hg q (List.mem_cons_of_mem _ hq)) w h
theorem ok_of {x : Str} (h : ∀ c ∈ x.cps.toList, c < 1114112) : PyData.strOk x = true := by
  unfold PyData.strOk
  rw [← Array.all_toList, List.all_eq_true]
  intro c hc
  exact decide_eq_true (h c hc)
theorem name_ok {x : Str} (z : nameS x = true) : PyData.strOk x = true := by
  unfold nameS at z
  obtain ⟨_, z2⟩ := Bool.and_eq_true_iff.mp z
  refine ok_of fun c hc => ?_
  have := let_iff.mp (of_decide_eq_true (List.all_eq_true.mp z2 _ hc))
  omega
theorem num_ok {n : Int} (h : 0 ≤ n) : PyData.strOk (numS n) = true := by
  refine ok_of fun c hc => ?_
  rw [tl_numS h] at hc
  have := numL_digits _ c hc
  omega
theorem words_ok {b : Bool} {m : Tab} (hg : ∀ p ∈ m, GoodP p) : ∀ w ∈ wordsB b m, PyData.strOk w = true :=
  words_all (fun w => PyData.strOk w = true) (by decide +kernel) (by decide +kernel) (fun _ h => name_ok h) (fun _ h _ => num_ok h) b m hg
theorem wordsB_app : ∀ (b : Bool) (l : Tab) (p : Str × Int), wordsB b (l ++ [p]) = wordsB b l ++ termW (b && l.isEmpty) p
  | b, [], p => by simp [wordsB]
  | b, q :: l, p => by
    show termW b q ++ wordsB false (l ++ [p]) = (termW b q ++ wordsB false l) ++ termW (b && false) p
    rw [wordsB_app false l p]
    simp
theorem wordsT_app (l : Tab) (p : Str × Int) : wordsT (l ++ [p]) = wordsT l ++ termW (wordsT l).isEmpty p := by
  have e : (wordsT l).isEmpty = l.isEmpty := by
    rw [Bool.eq_iff_iff, List.isEmpty_iff, List.isEmpty_iff, wordsT_nil]
  rw [e]
  have z := wordsB_app true l p
  rw [Bool.true_and] at z
  exact z
theorem termW_le {e : Bool} {p : Str × Int} : (termW e p).length ≤ 3 := by
  unfold termW
  rw [List.length_append, List.length_append]
  have e1 : (if p.2 < 0 then [("-" : Str)] else if e then [] else [("+" : Str)]).length ≤ 1 := by split <;> (try split) <;> simp
  have e2 : (if absI p.2 ≠ 1 then [numS (absI p.2)] else []).length ≤ 1 := by generalize absI p.2 = z; split <;> simp
  have e3 : [p.1].length = 1 := rfl
  omega
theorem wordsB_le : ∀ (b : Bool) (m : Tab), (wordsB b m).length ≤ 3 * m.length
  | _, [] => Nat.le_refl _
  | b, p :: r => by
    have z := wordsB_le false r
    have t := termW_le (e := b) (p := p)
    unfold wordsB
    rw [List.length_append, List.length_cons]
    omega
theorem sum_le {B : Nat} : ∀ (l : List Nat), (∀ x ∈ l, x ≤ B) → l.sum ≤ l.length * B
  | [], _ => by simp
  | x :: r, h => by
    have z := sum_le r fun y hy => h y (List.mem_cons_of_mem _ hy)
    have := h x (List.mem_cons_self ..)
    rw [List.sum_cons, List.length_cons, Nat.succ_mul]
    omega
end Xr
set_option maxHeartbeats 4000000
/-! str of an instance of an own class -/
namespace Xr
open PySem PySem.Spec PyProof.Rows L2
section
variable {X : Cx} {CX : CXT} {k : Nat} {f C : Addr} {sp : Sp} {E : XK}
def rStrO (C : Addr) (sp : Sp) (E : XK) : List V → Hp → VK → Prop := fun xs H Q => ∃ a dx fs, xs = [.ref a] ∧ H a = some (.ins C dx fs) ∧ sp [.ref a] H (fun v H' => ∃ x, v = .str x ∧ Q (.str x) H') E
theorem call_strO (h : Sm X.K C "__str__" f) (F : FnR X.prog X.w X.K X.mg X.base CX k f sp) (hr : Room (k + 2) X.A) (hx : Passes CX X E) : CallR X (.type "str") (rStrO C sp E) := by
  intro pins s σ H xs us Q I r q
  obtain ⟨a, dx, fs, rfl, ha, q⟩ := q
  obtain ⟨u, rfl, ru⟩ := vals1 r
  cases ru
  obtain ⟨od, J⟩ := inst_of I ha
  have hr1 : Room (k + 1) X.A.in1 := hr.in1
  have hr2 : Room k X.A.in1.in1 := hr1.in1
  refine PySem.W.kso_call (by have := hr2.units; omega) I.kIn J h.at_ h.fn (wpAny_mono (run_in (us := [.ref a]) (vs := [.ref a]) F hr2 rfl hx I (.cons rfl .nil) q) (fun w s' z => ?_) fun _ _ z => z)
  obtain ⟨v, H', I', rv, x, rfl, q'⟩ := z
  obtain ⟨t, rfl⟩ := rv
  exact ⟨.str x, H', I', ⟨t, rfl⟩, q'⟩
end
end Xr
set_option maxHeartbeats 4000000
/-! calls by keywords: classmethods, a class whose __init__ takes **names -/
namespace Xr
open PySem PySem.Spec PyProof.Rows L2
/-- a def that is called with n values by place and ks by keywords -/
def FnRK (P : Program) (w : World) (K : PySem.W.Frag) (mg : Str → Option Value) (base : Heap) (CX : CXT) (k : Nat) (f : Addr) (n : Nat) (ks : List Str) (sp : Sp) : Prop :=
  ∀ (A : Around) (outer : List Env) (s : Shared) (H : Hp) (us ws : List Value) (vs zs : List V) (Q : VK) (E : XK), Room k A → Env0 P w K mg base A outer s H → Vals vs us → Vals zs ws → vs.length = n → zs.length = ks.length → sp (vs ++ zs) H Q E →
    codeAny (model P w) A (.call (.ref f) ⟨us, ks.zip ws⟩) (CR CX outer P w H s Q E) s
section
variable {P : Program} {w : World} {K : PySem.W.Frag} {mg : Str → Option Value} {base : Heap} {CX : CXT} {k n : Nat} {f : Addr} {fd : FuncData} {ps ks : List Str} {sp : Sp}
theorem fnOk_kw (F : FnOk P w K mg base CX k f fd ps sp) (hb : ∀ (s : Shared) (us ws : List Value), us.length = n → ws.length = ks.length → BindsTo s fd ⟨us, ks.zip ws⟩ (ps.zip (us ++ ws))) : FnRK P w K mg base CX k f n ks sp := by
  intro A outer s H us ws vs zs Q E hr e0 r rz l1 l2 h
  exact F.run A outer s H ⟨us, ks.zip ws⟩ (us ++ ws) (vs ++ zs) Q E hr e0 (hb s us ws (r.length.symm.trans l1) (rz.length.symm.trans l2)) (r.append rz) h
theorem funD_kb {x qual : Str} {params : Arguments} {body : List Stmt} {scope : Scope} {kws : List (Str × V)} (F : FunD K x qual params body scope [] kws f fd)
    (hb : ∀ (kV doc pm : Value) (an : Option Addr) (cdv ct : Value) (us ws : List Value), us.length = n → ws.length = ks.length → bindArgs (PySem.W.fnOf x qual params body scope .none kV doc pm an cdv ct) ⟨us, ks.zip ws⟩ = pure (ps.zip (us ++ ws))) :
    ∀ (s : Shared) (us ws : List Value), us.length = n → ws.length = ks.length → BindsTo s fd ⟨us, ks.zip ws⟩ (ps.zip (us ++ ws)) := by
  obtain ⟨oc, od, dV, kV', doc, pm, an, cdv, ct, osl, rfl, lk, hcd, hDf, _⟩ := F.ex
  obtain rfl : dV = .none := by
    rcases hDf with ⟨_, e⟩ | ⟨e, _⟩
    · exact e
    · exact absurd rfl e
  intro s us ws l1 l2
  exact .of_eq (hb _ _ _ _ _ _ us ws l1 l2)
end
/-- e.m(k = v, ..), e the class at C, m a classmethod -/
def tCMethK (C : Addr) (m : Nat) (sp : Sp) (E : XK) (ta : TE) (tk : TA) : TE := fun σ H Q => ta σ H fun x H1 => x = .ref C ∧ tk σ H1 fun zs H2 => zs.length = m ∧ sp ([.ref C] ++ zs) H2 Q E
section
variable {X : Cx} {CX : CXT} {k : Nat} {f C : Addr} {sp : Sp} {E : XK} {o : Expr} {m x : Str} {pos apos p : Pos} {ta : TE} {tk : TA} {ks : List Str} {kws : List Keyword}
theorem pe_cmK {pl : Sem Bool} (he : PE X o ta) (c : CmF X.K C m) (F : FnRK X.prog X.w X.K X.mg X.base CX k (He5.wf X.K C "classmethod" m) 1 ks sp) (hr : Room k X.A) (hx : Passes CX X E) (hkw : PK X kws tk)
    (hall : (backToKw pos (keywordEach kws X.env)).all (·.1.isSome) = true := by rfl) (hks : (backToKw pos (keywordEach kws X.env)).filterMap (·.1) = ks := by rfl)
    (hpl : ((backTo pos (starEach [] X.env)).any (·.1) || (backToKw pos (keywordEach kws X.env)).any (·.1.isNone)) = false := by rfl)
    (ht : eval (.Call (.Attribute o m apos) [] kws pos) X.env = (do
      let ov ← eval o X.env
      standAt apos.atName
      let (f, first) ← holding [ov] (getMethod ov m pl)
      callWith pos f first (backTo pos (starEach [] X.env)) (backToKw pos (keywordEach kws X.env))) := by rfl) :
    PE X (.Call (.Attribute o m apos) [] kws pos) (tCMethK C ks.length sp E ta tk) := by
  refine ⟨fun pins s σ H Q I h => ?_⟩
  refine PySem.W.methodCall_KW (pl := pl) (thn (he.run pins s σ H _ I h) fun u s1 ⟨x, H1, I1, rx, ex, q⟩ => ?_) ht
  subst ex
  obtain rfl : u = Value.ref C := rx
  refine ClX.getmethcm_ok I1 c.rd c.met fun s2 I2 => ?_
  refine PySem.W.callWith_of hpl (PySem.W.keeps_M c.met.fi) (evalArgs_kw2_nil hall (thn (hkw.run pos _ s2 σ H1 _ I2 q) fun ws s3 ⟨zs, H2, I3, rz, l2, q2⟩ => ⟨⟨ClX.pin_at I3, I3.kIn⟩, ?_⟩))
  rw [hks]
  have z : wpAny (model X.prog X.w) X.A (call (.ref s1.heap.objs.size) [] (ks.zip ws)) (EP X ((s1.heap.objs.size, PySem.W.methodObj (.ref (He5.wf X.K C "classmethod" m)) (.ref C)) :: pins) σ Q) X.xe s3 := by
    refine wpAny_call (PySem.W.method_call (ClX.pin_at I3) (codeAny_mono (F X.A X.stack s3 H2 [.ref C] ws [.ref C] zs Q E hr I3.env0 (.cons rfl .nil) rz rfl l2 q2) fun r s' hq => ?_))
    cases r with
    | error e => exact hx _ σ H2 s3 e s' I3 hq
    | ok fl =>
      cases fl with
      | ret u => exact I3.after hq
      | next => exact False.elim hq
      | brk => exact False.elim hq
      | cont => exact False.elim hq
  exact thn z fun _ _ y => ClX.unpinE y
end
/-! ### def f(a, **d) called by keywords -/
def fillN (d : Addr) (ex : List (Str × Value)) : Sem PUnit := forIn ex PUnit.unit fun x _ => (nsSet d x.1 x.2 >>= fun _ => pure (ForInStep.yield PUnit.unit))
theorem update_last (h : Heap) (o : Obj) (f : Obj → Obj) : (h.push o).update h.objs.size f = h.push (f o) := by
  obtain ⟨objs, l⟩ := h
  show (⟨(objs.push o).modify objs.size f, l⟩ : Heap) = ⟨objs.push (f o), l⟩
  congr 1
  apply Array.ext
  · simp
  · intro i h1 h2
    simp only [Array.getElem_modify]
    by_cases hi : i < objs.size
    · rw [if_neg (by omega), Array.getElem_push_lt hi, Array.getElem_push_lt hi]
    · have : i = objs.size := by simp at h2; omega
      subst this
      simp
theorem fill_run {prog : Program} {w : World} {A : Around} {E : Value → Shared → Prop} {Q : PUnit → Shared → Prop} (h0 : Heap) : ∀ (ex : List (Str × Value)) (s : Shared) (es : List DictEntry) (n : Nat), s.heap = h0.push (PySem.W.dictOf es n) →
    (∀ e ∈ es, ∀ x ∈ ex, e.key.isStr x.1 = false) → (∀ e ∈ es, e.refKey = false) → (ex.map (·.1)).Nodup →
    Q ⟨⟩ { s with heap := h0.push (PySem.W.dictOf (es ++ PySem.W.kwEs w.params s.toks ex) (n + ex.length)), toks := s.toks + ex.length } → wpAny (model prog w) A (fillN h0.objs.size ex) Q E s
  | [], s, es, n, hh, _, _, _, q => by
    unfold fillN
    rw [List.forIn_nil]
    refine wpAny_pure ?_
    have e : es ++ PySem.W.kwEs w.params s.toks [] = es := List.append_nil _
    rw [e] at q
    have e2 : ({ s with heap := h0.push (PySem.W.dictOf es (n + ([] : List (Str × Value)).length)), toks := s.toks + ([] : List (Str × Value)).length } : Shared) = s := by
      obtain ⟨a, b, c, d, e⟩ := s
      dsimp only at hh ⊢
      rw [hh]
      rfl
    rw [e2] at q
    exact q
  | x :: r, s, es, n, hh, hs, hr, nd, q => by
    have nd' := List.nodup_cons.mp (show (x.1 :: r.map (·.1)).Nodup from nd)
    have hsx : ∀ e ∈ es, e.key.isStr x.1 = false := fun e he => hs e he x (List.mem_cons_self ..)
    have e1 : es.any (·.key.isStr x.1) = false := by
      cases z : es.any (·.key.isStr x.1) with
      | false => rfl
      | true => obtain ⟨e, he, z⟩ := List.any_eq_true.mp z; rw [hsx e he] at z; cases z
    have e2 : es.any (·.refKey) = false := by
      cases z : es.any (·.refKey) with
      | false => rfl
      | true => obtain ⟨e, he, z⟩ := List.any_eq_true.mp z; rw [hr e he] at z; cases z
    have e : Obj.putName x.1 (PyData.keyHash w.params x.1) (.str x.1 s.toks) x.2 (PySem.W.dictOf es n) = PySem.W.dictOf (es ++ [⟨PyData.keyHash w.params x.1, .str x.1 s.toks, x.2⟩]) (n + 1) := by
      rw [PySem.W.putName_dict, PySem.W.putL_new hsx]
      show PySem.W.dictOf _ (if es.any (·.key.isStr x.1) then n else n + 1) = _
      rw [e1, if_neg Bool.false_ne_true]
    have D : s.heap.get? h0.objs.size = some (PySem.W.dictOf es n) := by
      rw [hh]
      exact Heap.get?_push_size h0 rfl
    have c : aRefKeyMayBeTheName x.1 es.toArray = false := by
      rw [aRefKeyMayBeTheName_at, ← Array.any_toList, ← Array.any_toList]
      show (!es.any (·.key.isStr x.1) && es.any (·.refKey)) = false
      rw [e2, Bool.and_false]
    have next := fill_run (prog := prog) (w := w) (A := A) (E := E) (Q := Q) h0 r { s with heap := s.heap.update h0.objs.size (Obj.putName x.1 (PyData.keyHash w.params x.1) (.str x.1 s.toks) x.2), toks := s.toks + 1 } (es ++ [⟨PyData.keyHash w.params x.1, .str x.1 s.toks, x.2⟩]) (n + 1)
    unfold fillN at next ⊢
    rw [List.forIn_cons]
    refine wpAny_bind (wpAny_bind ?_)
    unfold nsSet
    refine wpAny_bind (wpAny_bind (wpAny_askSetting (wpAny_pure (wpAny_bind (wpAny_mkText (wpAny_bind (wpAny_loadPart D ?_)))))))
    dsimp only
    rw [c]
    refine wpAny_updatePart D (wpAny_pure (next ?_ ?_ ?_ nd'.2 ?_))
    · show s.heap.update _ _ = _
      rw [hh, update_last]
      exact congrArg h0.push e
    · intro z hz y hy
      rcases List.mem_append.mp hz with h | h
      · exact hs z h y (List.mem_cons_of_mem _ hy)
      · rw [List.mem_singleton.mp h]
        show Value.isStr (.str x.1 s.toks) y.1 = false
        have ne : x.1 ≠ y.1 := fun z => nd'.1 (List.mem_map.mpr ⟨y, hy, z.symm⟩)
        simp [Value.isStr, ne]
    · intro z hz
      rcases List.mem_append.mp hz with h | h
      · exact hr z h
      · rw [List.mem_singleton.mp h]
        rfl
    · have e3 : es ++ [⟨PyData.keyHash w.params x.1, .str x.1 s.toks, x.2⟩] ++ PySem.W.kwEs w.params (s.toks + 1) r = es ++ PySem.W.kwEs w.params s.toks (x :: r) := by
        rw [List.append_assoc]
        rfl
      have e4 : n + 1 + r.length = n + (x :: r).length := by rw [List.length_cons]; omega
      have e5 : s.toks + 1 + r.length = s.toks + (x :: r).length := by rw [List.length_cons]; omega
      dsimp only
      rw [e3, e4, e5]
      exact q
def kwK {α : Type} (ks : List Str) (zs : List α) : List (Key × α) := (ks.zip zs).map fun p => (Sum.inr p.1, p.2)
theorem kw_pairs {P : Program} {w : World} : ∀ (t : Tok) (ex : List (Str × Value)), Pairs (mixKind P w) (PySem.W.kwEs w.params t ex) (ex.map fun p => ((Sum.inr p.1 : Key), p.2))
  | _, [] => .nil
  | t, x :: r => .cons (by show keyIs (.inr x.1) (.str x.1 t) = true; simp [keyIs, Value.isStrOf]) rfl (kw_pairs (t + 1) r)
theorem kw_keys {P : Program} {w : World} : ∀ (t : Tok) (ex : List (Str × Value)), ∀ e ∈ PySem.W.kwEs w.params t ex, ∃ k : Key, keyIs k e.key = true ∧ e.hash = keyH w k
  | _, [], e, h => (List.not_mem_nil h).elim
  | t, x :: r, e, h => by
    rcases List.mem_cons.mp h with rfl | h
    · exact ⟨.inr x.1, by simp [keyIs, Value.isStrOf], rfl⟩
    · exact kw_keys (P := P) (t + 1) r e h
theorem kw_rel : ∀ (ks : List Str) {zs : List V} {ws : List Value}, Vals zs ws → KV (kwK ks zs) (kwK ks ws)
  | [], _, _, _ => .nil
  | k :: ks, _, _, .nil => .nil
  | k :: ks, _, _, .cons h r => .cons ⟨rfl, h⟩ (kw_rel ks r)
theorem zip_fst : ∀ {ks : List Str} {ws : List Value}, ws.length = ks.length → (ks.zip ws).map (·.1) = ks
  | [], _, _ => rfl
  | k :: ks, [], h => by cases h
  | k :: ks, w :: ws, h => by
    show k :: (ks.zip ws).map (·.1) = k :: ks
    rw [zip_fst (Nat.succ.inj h)]
theorem dk_kw {P : Program} {w : World} {H : Hp} {h : Heap} {ks : List Str} {zs : List V} {ws : List Value} {t : Tok} {n : Nat} (hb : sysModules < h.objs.size) (hk : ks.length ≤ 1000) (nd : ks.Nodup) (r : Vals zs ws) (l : zs.length = ks.length) :
    ObjOk P w H (h.push (PySem.W.dictOf (PySem.W.kwEs w.params t (ks.zip ws)) n)) h.objs.size (.dK (kwK ks zs)) := by
  have l2 : ws.length = ks.length := r.length.symm.trans l
  refine ⟨?_, beq_eq_false_iff_ne.mpr (Ne.symm (Nat.ne_of_lt hb)), kwK ks ws, kw_rel ks r, _, _, _, Heap.get?_push_size h rfl, ⟨rfl, rfl, rfl⟩, rfl, ?_, ?_, ?_⟩
  · unfold kwK
    rw [List.length_map, List.length_zip, sizeLine_eq]
    omega
  · intro e he
    exact kw_keys (P := P) t (ks.zip ws) e (by simpa using he)
  · show Pairs _ (PySem.W.kwEs w.params t (ks.zip ws)).toArray.toList _
    exact kw_pairs t (ks.zip ws)
  · unfold kwK
    rw [List.map_map]
    have e : ((fun x : Key × Value => x.1) ∘ fun p : Str × Value => ((Sum.inr p.1 : Key), p.2)) = (Sum.inr ∘ fun p : Str × Value => p.1) := rfl
    rw [e, ← List.map_map, zip_fst l2]
    exact List.Pairwise.map _ (fun a b h z => h (by injection z)) nd
section
variable {CX : CXT} {P : Program} {w : World} {K : PySem.W.Frag} {mg : Str → Option Value} {base : Heap} {k : Nat} {f : Addr} {x qual : Str} {params : Arguments} {body : List Stmt} {scope : Scope} {fd : FuncData} {N : List Str} {sp : Sp} {p1 pd : Str} {kws : List (Str × V)} {ks : List Str}
theorem fn_kwN (F : FunD K x qual params body scope [] kws f fd) (S : FnScope N [p1, pd] scope) (hCX : StX.CXUp CX) (nd : ks.Nodup) (hk : ks.length ≤ 1000)
    (hb : ∀ (kV doc pm : Value) (an : Option Addr) (cdv ct u : Value) (ws : List Value), ws.length = ks.length → bindArgs (PySem.W.fnOf x qual params body scope .none kV doc pm an cdv ct) ⟨[u], ks.zip ws⟩ = ((alloc ({ cls := .type "dict", data := .dict #[] } : Obj) : Sem Addr) >>= fun d => fillN d (ks.zip ws) >>= fun _ => pure [(p1, u), (pd, Value.ref d)]))
    (hbody : ∀ (cdv : Value) (A : Around) (outer : List Env) (s : Shared) (H : Hp) (vs : List V) (Q : VK) (E : XK), Room k (A.deeper (envOfC qual scope s.heap.objs.size f cdv)) → sp vs H Q E →
      ∃ t, PSs (cxOf CX P w K mg base N qual scope f cdv A outer s H E) body t ∧ t { nx := fun _ H' => Q .non H', rt := Q } (start N vs) H) :
    FnRK P w K mg base CX (k + 1) f 1 ks (fun vs H Q E => ∃ v zs, vs = v :: zs ∧ ∀ d, H d = Option.none → sp [v, V.ref d] (upd H d (.dK (kwK ks zs))) Q E) := by
  obtain ⟨oc, od, dV, kV', doc, pm, an, cdv, ct, osl, rfl, lk, hcd, hDf, _⟩ := F.ex
  obtain rfl : dV = .none := by
    rcases hDf with ⟨_, e⟩ | ⟨e, _⟩
    · exact e
    · exact absurd rfl e
  intro A outer s H us ws vs zs Q E hr e0 r rz l1 l2 hsp
  obtain ⟨v, zs', ev, hq⟩ := hsp
  obtain ⟨v0, rfl⟩ : ∃ v0, vs = [v0] := by
    match vs, l1 with
    | [v0], _ => exact ⟨v0, rfl⟩
  obtain ⟨rfl, rfl⟩ : v0 = v ∧ zs = zs' := by
    have : v0 :: zs = v :: zs' := ev
    injection this with a b
    exact ⟨a, b⟩
  obtain ⟨u, rfl, ru⟩ := vals1 r
  have hn : H s.heap.objs.size = Option.none := e0.hok.fresh (Nat.le_refl _)
  have l3 : ws.length = ks.length := rz.length.symm.trans l2
  refine StX.run_bnd lk hcd S hr e0 (G := fun xs H2 => ∃ d, H d = Option.none ∧ xs = [v0, V.ref d] ∧ H2 = upd H d (.dK (kwK ks zs))) (fun A' Ex Q' h => ?_) fun s2 H2 xs ⟨d, hd, ex, eH⟩ hr' => ?_
  · rw [hb _ _ _ _ _ _ u ws l3]
    refine wpAny_bind (wpAny_alloc (wpAny_bind (fill_run s.heap (ks.zip ws) _ [] 0 rfl (fun _ h => (List.not_mem_nil h).elim) (fun _ h => (List.not_mem_nil h).elim) (by rw [zip_fst l3]; exact nd) (wpAny_pure ?_))))
    have e1 := StX.env0_laid (u := .dK (kwK ks zs)) (o := PySem.W.dictOf ([] ++ PySem.W.kwEs w.params s.toks (ks.zip ws)) (0 + (ks.zip ws).length)) e0 (dk_kw (StX.env0_big e0) hk nd rz l2)
    have un1 := StX.un_laid (fs := frs outer) (s := s) (o := PySem.W.dictOf ([] ++ PySem.W.kwEs w.params s.toks (ks.zip ws)) (0 + (ks.zip ws).length)) (u := .dK (kwK ks zs)) hn
    refine h _ _ [v0, V.ref s.heap.objs.size] [u, Value.ref s.heap.objs.size] ?_ un1 rfl (fun e s' => hCX outer s H _ _ E e s' un1 (fun b o q => Heap.get?_push_of_some _ q) rfl) (.cons ru (.cons rfl .nil)) rfl ⟨_, hn, rfl, rfl⟩
    obtain ⟨a1, a2, a3, a4, a5, a6, a7, a8⟩ := e1
    exact ⟨a1, a2, a3, a4, a5, a6, a7, a8⟩
  · subst ex eH
    exact hbody cdv A outer s2 _ _ Q E hr' (hq d hd)
end
/-- C(k = v, ..) by a promise of its __init__ by keywords -/
def tMakeKR (C : Addr) (m : Nat) (sp : Sp) (E : XK) (tk : TA) : TE := fun σ H Q => tk σ H fun zs H2 => zs.length = m ∧ ∀ x dx, H2 x = Option.none → H2 dx = Option.none → dx ≠ x →
  sp ([V.ref x] ++ zs) (upd (upd H2 dx (.own x)) x (.ins C dx [])) (fun v H3 => v = .non ∧ Q (.ref x) H3) E
section
variable {X : Cx} {CX : CXT} {k : Nat} {f C : Addr} {sp : Sp} {E : XK} {x : Str} {pos p : Pos} {tk : TA} {ks : List Str} {kws : List Keyword}
theorem pe_makeKR (M : Mk X.K C f) (F : FnRK X.prog X.w X.K X.mg X.base CX k f 1 ks sp) (hr : Room (k + 1) X.A) (hg : Gl X x) (hm : X.mg x = some (.ref C)) (hx : Passes CX X E) (hkw : PK X kws tk)
    (hall : (backToKw pos (keywordEach kws X.env)).all (·.1.isSome) = true := by rfl) (hks : (backToKw pos (keywordEach kws X.env)).filterMap (·.1) = ks := by rfl) (hdb : (x == ("__debug__" : Str)) = false := by decide)
    (hpl : ((backTo pos (starEach [] X.env)).any (·.1) || (backToKw pos (keywordEach kws X.env)).any (·.1.isNone)) = false := by rfl) :
    PE X (.Call (.Name x p) [] kws pos) (tMakeKR C ks.length sp E tk) := by
  refine ⟨fun pins s σ H Q I h => ?_⟩
  refine wpAny_Call_Name_kw (ld_glob I hg hm ?_ hdb)
  refine PySem.W.callWith_KW0 (h₀ := X.base) I.ok.mod.kin M.kp hall ?_ hpl
  refine thn (hkw.run pos pins s σ H _ I h) fun ws s2 ⟨zs, H2, I2, rz, l2, q2⟩ => ⟨I2.kIn, ?_⟩
  rw [hks]
  have hq := q2 (s2.heap.objs.size + 1) s2.heap.objs.size (I2.hok.fresh (Nat.le_succ _)) (I2.hok.fresh (Nat.le_refl _)) (Nat.ne_of_lt (Nat.lt_succ_self _))
  have I3 := Inv.made (C := C) I2
  refine wpAny_call (make_map (f := f) I2.kIn M.makes M.init (beq_iff_eq.mp M.fn) (codeAny_mono (F _ X.stack _ _ [Value.ref (s2.heap.objs.size + 1)] ws [V.ref (s2.heap.objs.size + 1)] zs _ E (hr.make C [] (ks.zip ws)) (I3.env0.make C [] (ks.zip ws)) (.cons rfl .nil) rz rfl l2 hq) fun r s' hq' => ?_))
  cases r with
  | error e => exact hx pins σ _ _ e s' I3 hq'
  | ok fl =>
    cases fl with
    | ret u =>
      obtain ⟨v, H', I4, rv, ev, q3⟩ := I3.after hq'
      subst ev
      exact ⟨rv, ⟨V.ref (s2.heap.objs.size + 1), H', I4, rfl, q3⟩⟩
    | next => exact False.elim hq'
    | brk => exact False.elim hq'
    | cont => exact False.elim hq'
end
end Xr
set_option maxHeartbeats 4000000
/-! raising an error of the program's own -/
namespace Xr
open PySem PySem.Spec PyProof.Rows L2
section
variable {X : Cx} {pins : List (Addr × Obj)} {σ : L2.St} {H : Hp} {s : Shared}
theorem callErrR {A : Around} {E : Value → Shared → Prop} {Q : XK} {C fI : Addr} {fd : FuncData} {fs : List Str} {us ws : List Value} {vs : List V} {kw : List (Str × Value)} (T : ErrC X.prog X.K C fI fd fs) (I : Inv X pins σ H s) (hr : Room 1 A)
    (hb : ∀ (s' : Shared) (self : Value), X.K.In s'.heap → BindsTo s' fd ⟨self :: us, kw⟩ ((("self" : Str), self) :: fs.zip ws)) (rel : Vals vs ws) (hl : vs.length = fs.length) (hz : us.length ≤ 1000)
    (h : ∀ d, H d = none → Q (.ref C) (some d) (upd H d (.xd (fs.zip vs)))) :
    wpAny (model X.prog X.w) A (call (.ref C) us kw) (MkP X pins σ Q) E s := by
  obtain ⟨B, ini, N, nw, bmB, b, hi, hsu, hsb⟩ := T.ex
  obtain ⟨i, bN, F⟩ := b.f
  have KX := I.kIn
  obtain ⟨nm, NS, qn, bs, bm, hdct, sn, sub, ab, col, dd, c0, c1, c2, c3, c5, hC, hT⟩ := PySem.W.excInit_of KX hi
  obtain ⟨hp, g, dr, tk, os⟩ := s
  have hz2 : us.length ≤ sizeLine := by rw [sizeLine_eq]; omega
  have kk : ∀ b o, hp.get? b = some o → ((hp.push (PySem.W.kdv_tup us)).push (exOb C hp.objs.size none)).get? b = some o := fun b o e => Heap.get?_push_of_some _ (Heap.get?_push_of_some _ e)
  have hget : ((hp.push (PySem.W.kdv_tup us)).push (exOb C hp.objs.size none)).get? (hp.objs.size + 1) = some (exOb C hp.objs.size none) := by heap_get
  have nbase : X.base.get? (hp.objs.size + 1) = none := by
    cases z : X.base.get? (hp.objs.size + 1) with
    | none => rfl
    | some o => exact absurd (Heap.lt_size (I.bk _ _ z)) (by show ¬ hp.objs.size + 1 < hp.objs.size; omega)
  refine wpAny_call (callOwn F (by rw [hT]; exact b.hN) (by rw [hT]; exact b.noA) (by rw [hT]; exact b.noE) hC (PySem.W.looks_findIn KX T.iC) (fun self => PySem.W.bind_fn KX self T.tI) hz2 ?_)
  refine initRun (base := X.base) T I.mod (fun b o z => kk b o (I.bk b o z)) nbase hget (hr.make C us kw).depth (by rw [← rel.length, hl]) (hb _ _ (I.mod.kin.keeps fun b o z => kk b o (I.bk b o z))) fun h' tk' dx t1 mA k1 g1 g2 g3 g4 g5 => ?_
  have z1 : hp.objs.size ≤ hp.objs.size + 1 := Nat.le_succ _
  have z2 : hp.objs.size ≤ dx := Nat.le_trans (by rw [Heap.size_push, Heap.size_push]; omega) g1
  have J := layErr (tk := tk') (fs := fs.zip vs) I (fun b o z => k1 b o (kLt z z1) (kk b o z)) z1 z2 g2 g3 g4 fun f => by rw [g5 f]; exact relZip fs rel f
  have nE : H (hp.objs.size + 1) = none := I.hok.fresh z1
  have nD : H dx = none := I.hok.fresh z2
  have lt2 : ∀ {b : Addr} {o : Obj}, ((hp.push (PySem.W.kdv_tup us)).push (exOb C hp.objs.size none)).get? b = some o → b ≠ dx := fun {b o} z e => by
    rw [e] at z
    exact absurd (Heap.lt_size z) (Nat.not_lt.mpr g1)
  have un : Un (frs X.stack) [] (upd H (hp.objs.size + 1) (exo (hp.objs.size + 1) C none)) (upd (upd H dx (exd dx (fs.zip vs))) (hp.objs.size + 1) (exo (hp.objs.size + 1) C (some dx))) ((hp.push (PySem.W.kdv_tup us)).push (exOb C hp.objs.size none)) h' := {
    keep := fun b o z n hf hx => by
      by_cases hb : b = hp.objs.size + 1
      · rw [hb, upd_same] at n
        cases n
      · exact k1 b o hb z
    slot := fun b o z n hf hx => by
      by_cases hb : b = hp.objs.size + 1
      · rw [hb, upd_same] at n
        cases n
      · exact ⟨o.slots, k1 b o hb z⟩
    free := fun b o z n hx => by
      by_cases hb : b = hp.objs.size + 1
      · rw [hb, upd_same] at n
        cases n
      · rw [upd_ne hb, upd_ne (lt2 z)]
        rw [upd_ne hb] at n
        exact n
    there := fun b o z hx => by
      by_cases hb : b = hp.objs.size + 1
      · rw [hb]
        exact ⟨_, g3⟩
      · exact ⟨o, k1 b o hb z⟩
    tups := fun b xs z => by
      by_cases hb : b = hp.objs.size + 1
      · rw [hb, upd_same] at z
        exact absurd (Option.some.inj z) exo_tup
      · rw [upd_ne hb] at z
        rw [upd_ne hb, upd_ne (ne_of_none z nD)]
        exact z
    frzs := fun b o v z => by
      by_cases hb : b = hp.objs.size + 1
      · rw [hb, upd_same] at z
        exact absurd (Option.some.inj z) exo_frz
      · rw [upd_ne hb] at z
        rw [upd_ne hb, upd_ne (ne_of_none z nD)]
        exact z
    tbls := fun b ps z => by
      by_cases hb : b = hp.objs.size + 1
      · rw [hb, upd_same] at z
        exact absurd (Option.some.inj z) exo_tbl
      · rw [upd_ne hb] at z
        rw [upd_ne hb, upd_ne (ne_of_none z nD)]
        exact ⟨#[], by simpa using z⟩ }
  have eH : upd (del (upd (upd H dx (exd dx (fs.zip vs))) (hp.objs.size + 1) (exo (hp.objs.size + 1) C (some dx))) (hp.objs.size + 1)) dx (.xd (fs.zip vs)) = upd H dx (.xd (fs.zip vs)) := by
    funext b
    by_cases hb : b = dx
    · subst hb
      rw [upd_same, upd_same]
    · rw [upd_ne hb, upd_ne hb]
      by_cases hb2 : b = hp.objs.size + 1
      · subst hb2
        rw [del_same, nE]
      · rw [del_ne hb2, upd_ne hb2, upd_ne hb]
  refine ⟨rfl, mk_end (raises_own T.exc T.typ) I z1 kk un J.hok rfl I.bare upd_same ((upd_ne g2).trans upd_same) nD ?_⟩
  rw [eH]
  exact h dx nD
end
/-- raise C(..) -/
def tMkE (C : Addr) (fs : List Str) (t : TA) : L2.St → Hp → XK → Prop := fun σ H Q => t σ H fun vs H1 => vs.length = fs.length ∧ ∀ d, H1 d = none → Q (.ref C) (some d) (upd H1 d (.xd (fs.zip vs)))
section
variable {X : Cx} {C fI : Addr} {fd : FuncData} {fs : List Str} {x : Str} {p pos : Pos} {e : Expr} {es : List Expr} {t : TA}
theorem pmk_err (T : ErrC X.prog X.K C fI fd fs) (b : ErrB fd fs) (h3 : fs.length ≤ 3) (hr : Room 1 X.A) (hg : Gl X x) (hm : X.mg x = some (.ref C)) (ha : PA X (e :: es) t)
    (hdb : (x == ("__debug__" : Str)) = false := by decide) (he : starEach (e :: es) X.env = (false, eval e X.env) :: starEach es X.env := by rfl) (hpl : (backTo pos (starEach es X.env)).any (·.1) = false := by rfl) :
    PMk X (.Call (.Name x p) (e :: es) [] pos) (tMkE C fs t) := by
  intro pins s σ H Q I h
  refine wpAny_Call_Name_kw (ld_glob I hg hm ?_ hdb)
  refine PySem.W.callWith_K (h₀ := X.base) I.ok.mod.kin T.keep (thn (ha.run pos pins s σ H _ I h) fun us s1 ⟨vs, H1, I1, r1, hl, q1⟩ => ⟨I1.kIn, ?_⟩) he hpl
  have hlu : us.length = fs.length := by rw [← r1.length, hl]
  exact callErrR T I1 hr (fun s' self _ => b.p s' self us hlu) r1 hl (by show us.length ≤ 1000; omega) q1
end
end Xr
set_option maxHeartbeats 4000000
/-! an error that was caught and is kept -/
namespace Xr
open PySem PySem.Spec PyProof.Rows L2
/-- an exception that has been caught: its class, its dict -/
def exr (e : Addr) (cls : Value) (d : Option Addr) : HO := .ext fun h => ∃ (oe : Obj) (vs : Array Value), h.get? e = some oe ∧ oe.cls = cls ∧ oe.dict = d ∧ oe.data = .fields vs
theorem exr_ok {P : Program} {w : World} {H : Hp} {h : Heap} {e : Addr} {cls : Value} {d : Option Addr} {oe : Obj} {vs : Array Value} (h1 : h.get? e = some oe) (h2 : oe.cls = cls) (h3 : oe.dict = d) (h4 : oe.data = .fields vs) : ObjOk P w H h e (exr e cls d) :=
  ⟨⟨oe, vs, h1, h2, h3, h4⟩, ⟨oe, h1⟩, fun _ _ ⟨oe, vs, a, b, c, d⟩ st => ⟨oe, vs, st _ a, b, c, d⟩⟩
theorem exr_at {P : Program} {w : World} {H : Hp} {h : Heap} {e : Addr} {cls : Value} {d : Option Addr} (hok : HOk P w H h) (he : H e = some (exr e cls d)) : ∃ (oe : Obj) (vs : Array Value), h.get? e = some oe ∧ oe.cls = cls ∧ oe.dict = d ∧ oe.data = .fields vs := (hok e _ he).1
section
variable {X : Cx} {pins : List (Addr × Obj)} {σ : L2.St} {H : Hp} {s : Shared}
/-- an object that stands there is known from now on -/
theorem adopt {a : Addr} {u : HO} (I : Inv X pins σ H s) (hn : H a = none) (h0 : X.s_0.heap.get? a = none) (hL : a ≠ X.env.locals) (hc : ∀ x c, X.env.cells.lookup x = some c → c ≠ a) (hp : ∀ p ∈ X.pn ++ pins, p.1 ≠ a) (hu : ObjOk X.prog X.w (upd H a u) s.heap a u) : Inv X pins σ (upd H a u) s := by
  have nb : ∀ {b : Addr} {o : HO}, H b = some o → b ≠ a := fun h => ne_of_none h hn
  refine ⟨I.ok, I.os, I.bare, ⟨I.base.keep, I.base.slot, fun b o e n hx => ?_, I.base.there, fun b xs e => ?_, fun b o v e => ?_, fun b ps e => ?_⟩, I.loc, I.cell, ?_, fun x c e => ?_, fun p h => ?_, fun b o e => ?_, I.len⟩
  · have hb : b ≠ a := fun z => by rw [z, h0] at e; cases e
    rw [upd_ne hb]
    exact I.base.free b o e n hx
  · have z := I.base.tups b xs e
    rw [upd_ne (nb z)]
    exact z
  · have z := I.base.frzs b o v e
    rw [upd_ne (nb z)]
    exact z
  · obtain ⟨more, z⟩ := I.base.tbls b ps e
    exact ⟨more, by rw [upd_ne (nb z)]; exact z⟩
  · rw [upd_ne hL.symm]
    exact I.free
  · rw [upd_ne (hc x c e)]
    exact I.freeC x c e
  · obtain ⟨p1, p2, p3⟩ := I.pin p h
    exact ⟨p1, by rw [upd_ne (hp p h)]; exact p2, p3⟩
  · by_cases hb : b = a
    · subst hb
      rw [upd_same] at e
      cases e
      exact hu
    · rw [upd_ne hb] at e
      exact (I.hok b o e).stay (fun _ _ _ q => q) (fun c q => by rw [upd_ne (nb q)]; exact q) fun c xs q => by rw [upd_ne (nb q)]; exact q
end
/-- except (c1, c2) as n: suite: behind it the exception is known -/
def wAsK (K : PySem.W.Frag) (c1 c2 : Value) (i : Nat) (ts : Addr → Value → Option Addr → TS) (Wout : WX) (D : Ends) : WX := fun cls d σ H =>
  ∃ b, PySem.W.exmAny K cls [c1, c2] = some b ∧ (b = true → ∀ a, H a = none → ts a cls d { nx := fun σ' H' => H' a = none → D.nx (σ'.set i none) (upd H' a (exr a cls d)), rt := D.rt, bk := fun σ' H' => D.bk (σ'.set i none) H', ct := fun σ' H' => D.ct (σ'.set i none) H' } (σ.set i (some (.ref a))) H) ∧
    (b = false → Wout cls d σ H)
section
variable {X : Cx} {x1 x2 n : Str} {c1 c2 : Value} {i : Nat} {body suite : List Stmt} {b₀ : Stmt} {np1 np2 tpos pos pos' : Pos} {tb : WX → TS} {ts : Addr → Value → Option Addr → TS} {Wout : WX} {kk : Nat}
theorem flying_push {B h : Heap} {l : List Env} {e : Addr} {Z : Obj → Prop} (o : Obj) (x : HandSPX.FlyingZ B l e Z h) : HandSPX.FlyingZ B l e Z (h.push o) := by
  obtain ⟨a1, a2, a3, oe, vs, T, oT, ts', he, hz, hd, h1, hr⟩ := x
  refine ⟨fun b u q => Heap.get?_push_of_some _ (a1 b u q), a2, Heap.FunFrames.of_keeps (fun b u q _ => ⟨u, Heap.get?_push_of_some _ q, rfl⟩) a3, oe, vs, T, oT, ts', Heap.get?_push_of_some _ he, hz, hd, h1, ?_⟩
  exact ⟨hr.1, hr.2.1, Heap.get?_push_of_some _ hr.2.2.1, hr.2.2.2⟩
theorem ps_try_keep (hst : X.stack = X.env :: X.outer) (hfm : X.env.frame = some X.env.locals) (hex : X.ex = []) (hN : X.N.Nodup) (hi : X.N[i]? = some n) (hln : X.env.kindOf n = some .local) (hc1 : Names X x1 c1) (hc2 : Names X x2 c2) (tk : Takes X Wout)
    (hbd : ∀ (W : WX) (pn : List (Addr × Obj)) (xe : Value → Shared → Prop), Takes (X.tr pn xe) W → PassesOwn (model X.prog X.w) X.A X.env xe → PSs (X.tr pn xe) body (tb W))
    (hsu : ∀ (a : Addr) (oe : Obj) (cls : Value) (d : Option Addr) (pn : List (Addr × Obj)), Zc cls d oe → (∃ vs, oe.data = .fields vs) → PSs (X.suite a ((a, oe) :: pn)) (b₀ :: suite) (ts a cls d)) :
    PS X (.Try body [.ExceptHandler (some (.Tuple [.Name x1 np1, .Name x2 np2] kk tpos)) (some n) (b₀ :: suite) pos'] [] [] pos) (fun D σ H => tb (wAsK X.K c1 c2 i ts Wout D) D σ H) := by
  refine ⟨fun pins s σ H D I0 rd => ?_⟩
  have okX := I0.ok
  have frm : X.A.frames = some (X.env :: X.outer) := okX.frames.trans (congrArg some hst)
  refine wpAny_Try_except (wpAny_mono ((hbd (wAsK X.K c1 c2 i ts Wout D) (X.pn ++ pins) (fun e sa => wpAny (model X.prog X.w) X.A (noteFrame e X.env) (fun _ sb => wpAny (model X.prog X.w) X.A (setFlight e none) (fun _ sc =>
    wpAny (model X.prog X.w) X.A (handleBy e X.env [.ExceptHandler (some (.Tuple [.Name x1 np1, .Name x2 np2] kk tpos)) (some n) (b₀ :: suite) pos']) (SP X pins D) X.xe sc) X.xe sb) X.xe sa) (fun u s' xx => ?_) PassesOwn.looking).run [] s σ H D (I0.toTry _) rd) (fun f s1 hsp => ?_) fun _ _ he => he)
  · obtain ⟨a, B, sI, pins', σ', H', cls, d, rfl, J', nb, up, sky, na, os, ag, b, hb1, hyes, hno⟩ := xx
    have J : Inv X pins σ' H' sI := J'.ofTry okX
    show wpAny (model X.prog X.w) X.A (noteFrame (.ref a) X.env) _ _ _
    refine Sky.land Zc.steady frm hfm (hst ▸ sky) fun g3 fy3 u3 => ?_
    obtain ⟨e3, v3, at3, zc3, dt3⟩ := fy3.there
    have nfr : a ∉ frs (X.env :: X.outer) := fun hm => by
      obtain ⟨_, o', q, hnf⟩ := fy3.2.2.1.mem hm
      rw [at3] at q
      cases q
      exact hnf _ dt3
    have nL : a ≠ X.env.locals := fun z => nfr (List.mem_filterMap.mpr ⟨X.env, List.mem_cons_self, hfm.trans (congrArg some z.symm)⟩)
    have nF : a ∉ X.fs := fun hm => by
      obtain ⟨e, he, q⟩ := List.mem_filterMap.mp hm
      exact nfr (List.mem_filterMap.mpr ⟨e, List.mem_cons_of_mem _ he, q⟩)
    have nA : sI.heap.get? a = none := by
      cases q : sI.heap.get? a with
      | none => rfl
      | some o =>
        have z := nb a o q (hst ▸ nfr)
        rw [fy3.2.1] at z
        cases z
    have n0 : X.s_0.heap.get? a = none := by
      cases q : X.s_0.heap.get? a with
      | none => rfl
      | some o =>
        obtain ⟨o', z⟩ := J.base.there a o q (by rw [hex]; simp)
        rw [nA] at z
        cases z
    have J3 : Inv X pins σ' H' { s' with heap := g3 } := J.landed nb fy3.1 (up.trans u3) os ag
    have S3 := J3.suite at3 dt3 na nL nF
    refine wpAny_handleBy_cons (codeAny_handlers_test ?_) (by intro q; cases q)
    have nameOf : ∀ {x : Str} {c : Value} {np : Pos} {Q : Value → Shared → Prop} {E : Value → Shared → Prop}, Names X x c → Q c { s' with heap := g3 } → wpAny (model X.prog X.w) (X.A.mark (some (.ref a))) (eval (.Name x np) X.env) Q E { s' with heap := g3 } := fun {x c np Q E} hc q => by
      obtain ⟨hg, hdbg, hm | ⟨hm, hv, hnn⟩⟩ := hc
      · exact ld_glob (X := X.suite a ((a, e3) :: (X.pn ++ pins))) S3 hg hm q hdbg
      · exact ld_blt (X := X.suite a ((a, e3) :: (X.pn ++ pins))) S3 hg hm hv q hnn hdbg
    refine wpAny_Tuple_spliced ?_
    show wpAny _ _ (spliced ((false, eval (.Name x1 np1) X.env) :: (false, eval (.Name x2 np2) X.env) :: backTo tpos (starEach [] X.env))) _ _ _
    refine Calls.spliced_cons (nameOf hc1 (Calls.spliced_cons (nameOf hc2 (Calls.spliced_nil ⟨by show 2 ≤ sizeLine; decide, ?_⟩))))
    have fy5 := flying_push { cls := .type "tuple", data := .seq [c1, c2].toArray } fy3
    have u5 : g3.UpToSlots (g3.push { cls := .type "tuple", data := .seq [c1, c2].toArray }) := .of_keeps fun b o q => Heap.get?_push_of_some _ q
    have tp5 : (g3.push { cls := .type "tuple", data := .seq [c1, c2].toArray }).get? g3.objs.size = some { cls := .type "tuple", data := .seq [c1, c2].toArray } := Heap.get?_push_size g3 rfl
    have at5 : (g3.push { cls := .type "tuple", data := .seq [c1, c2].toArray }).get? a = some e3 := Heap.get?_push_of_some _ at3
    have J5 : Inv X pins σ' H' { s' with heap := g3.push { cls := .type "tuple", data := .seq [c1, c2].toArray } } := J.landed nb fy5.1 ((up.trans u3).trans u5) os ag
    have LT : PySem.W.Looks (model X.prog X.w) (g3.push { cls := .type "tuple", data := .seq [c1, c2].toArray }) (typeOf (.ref a)) cls := fun A Q E s k q => wpAny_typeOf_ref (k _ _ at5) (by rw [zc3.1]; exact q)
    refine (PySem.W.exm_tup2 (M := model X.prog X.w) J5.kIn LT tp5 hb1).here ?_
    cases b with
    | true =>
      refine codeAny_handlers_suite_as (HandSPX.lands_againZ fy5 fun g4 fy4 u4 => ?_)
      have J4 : Inv X pins σ' H' { s' with heap := g4 } := J.landed nb fy4.1 (((up.trans u3).trans u5).trans u4) os ag
      obtain ⟨e4, v4, at4, zc4, dt4⟩ := fy4.there
      refine store_ok (X := X.suite a ((a, e4) :: (X.pn ++ pins))) (v := .ref a) (J4.suite at4 dt4 na nL nF) hN hi (.inl hln) rfl (fun s5 S5 => ?_) (.inr hln)
      refine wpAny_mono ((hsu a e4 cls d (X.pn ++ pins) zc4 ⟨_, dt4⟩).run [] s5 _ H' _ S5 (hyes rfl a na)) (fun f s6 hsp => ?_) fun _ _ z => False.elim z
      have leave : ∀ {σ6 : L2.St} {H6 : Hp} {Q : Shared → Prop}, Inv (X.suite a ((a, e4) :: (X.pn ++ pins))) [] σ6 H6 s6 → (∀ s7, Inv X pins (σ6.set i none) H6 s7 → Q s7) → wpAny (model X.prog X.w) X.A (do bindName X.env n .none; unbindBehindTheSuite X.env n pos') (fun _ s7 => Q s7) X.xe s6 :=
        fun S6 hq => gone_ok (S6.unsuite okX) hN hi hln hq
      cases f with
      | next =>
        obtain ⟨σ6, H6, S6, q6⟩ := hsp
        have S6' : Inv X ((a, e4) :: pins) σ6 H6 s6 := ⟨okX, S6.os, S6.bare, S6.base, S6.loc, S6.cell, S6.free, S6.freeC, fun p hp => S6.pin p (by
          show p ∈ ((a, e4) :: (X.pn ++ pins)) ++ []
          rw [List.append_nil]
          rcases List.mem_append.mp hp with z | z
          · exact List.mem_cons_of_mem _ (List.mem_append_left _ z)
          · rcases List.mem_cons.mp z with z | z
            · rw [z]
              exact List.mem_cons_self
            · exact List.mem_cons_of_mem _ (List.mem_append_right _ z)), S6.hok, S6.len⟩
        refine gone_ok S6' hN hi hln fun s7 J7 => ?_
        obtain ⟨p1, p2, _⟩ := J7.pin (a, e4) (List.mem_append_right _ List.mem_cons_self)
        have J8 : Inv X pins (σ6.set i none) H6 s7 := J7.pins_of fun p hp => J7.pin p (List.mem_append_right _ (List.mem_cons_of_mem _ hp))
        refine ⟨_, _, adopt J8 p2 n0 nL (fun x c hc z => ?_) (fun p hp z => ?_) (exr_ok p1 zc4.1 zc4.2 dt4), q6 p2⟩
        · obtain ⟨v, o, ho, hd⟩ := J7.cell x c hc
          rw [z, p1] at ho
          cases ho
          rw [dt4] at hd
          cases hd
        · have q := (J.pin p hp).1
          rw [z, nA] at q
          cases q
      | brk =>
        obtain ⟨σ6, H6, S6, q6⟩ := hsp
        exact leave S6 fun s7 J7 => ⟨_, _, J7, q6⟩
      | cont =>
        obtain ⟨σ6, H6, S6, q6⟩ := hsp
        exact leave S6 fun s7 J7 => ⟨_, _, J7, q6⟩
      | ret u =>
        obtain ⟨v6, σ6, H6, S6, r6, q6⟩ := hsp
        exact leave S6 fun s7 J7 => ⟨_, _, _, J7, r6, q6⟩
    | false =>
      refine (show wpAny _ X.A (handleBy (.ref a) X.env []) _ _ _ from wpAny_handleBy_nil ?_)
      obtain ⟨k1, k2, k3, oe, vs, T, oT, ts', he, hz, hd, h1, hr⟩ := id fy5
      unfold PySem.passOn
      refine wpAny_bind (wpAny_field he hd h1 ?_)
      rw [if_neg (show ¬ ((Value.ref T == Value.none) = true) from by simp)]
      have out : wpAny (model X.prog X.w) X.A (setFlight (.ref a) X.env.frame) (fun _ s4 => wpAny (model X.prog X.w) X.A (throw (.ref a) : Sem Flow) (SP X pins D) X.xe s4) X.xe { s' with heap := g3.push { cls := .type "tuple", data := .seq [c1, c2].toArray } } := by
        rw [hfm]
        refine HandSPX.setFlight_upZ fy5 fun g4 hh4 u4 => wpAny_throw (tk _ _ ⟨a, B, sI, pins, σ', H', cls, d, rfl, J, nb, ((up.trans u3).trans u5).trans u4, .inr (.inr (by rw [hst]; exact hh4)), na, os, ag, hno rfl⟩)
      first
        | exact wpAny_bind (wpAny_pure (wpAny_bind out))
        | exact wpAny_bind out
  · cases f with
    | next =>
      obtain ⟨σ', H', K', q⟩ := hsp
      exact wpAny_execs_nil ⟨σ', H', K'.ofTry okX, q⟩
    | brk =>
      obtain ⟨σ', H', K', q⟩ := hsp
      exact ⟨σ', H', K'.ofTry okX, q⟩
    | cont =>
      obtain ⟨σ', H', K', q⟩ := hsp
      exact ⟨σ', H', K'.ofTry okX, q⟩
    | ret u =>
      obtain ⟨v, σ', H', K', r, q⟩ := hsp
      exact ⟨v, σ', H', K'.ofTry okX, r, q⟩
end
end Xr
set_option maxHeartbeats 4000000
/-! what a caught error tells -/
namespace Xr
open PySem PySem.Spec PyProof.Rows L2
theorem xd_at {P : Program} {w : World} {H : Hp} {h : Heap} {d : Addr} {fs : List (Str × V)} (hok : HOk P w H h) (he : H d = some (.xd fs)) : ∃ mA, h.Ns1 d mA ∧ ∀ f, RelO (fs.lookup f) (mA f) := hok d _ he
section
variable {X : Cx} {pins : List (Addr × Obj)} {σ : L2.St} {H : Hp} {s : Shared} {pos : Pos} {e : Expr}
/-- a caught error is an instance -/
theorem exr_inst {a C d : Addr} {fs : List (Str × V)} (hok : HOk X.prog X.w H s.heap) (ha : H a = some (exr a (.ref C) (some d))) (hd : H d = some (.xd fs)) :
    ∃ (ox od : Obj) (mA : Str → Option Value), PySem.W.InstAt s.heap a ox C (some od) ∧ (∀ n, PySem.W.lookIn n od = some (mA n)) ∧ ∀ f, RelO (fs.lookup f) (mA f) := by
  obtain ⟨oe, vs, h1, h2, h3, h4⟩ := exr_at hok ha
  obtain ⟨mA, hns, hr⟩ := xd_at hok hd
  obtain ⟨od, ho2, hl⟩ := lookIn_ns hns
  refine ⟨oe, od, mA, ⟨h1, h2, ?_, ?_⟩, hl, hr⟩
  · obtain ⟨c, dd, dt, sl⟩ := oe
    cases h4
    rfl
  · rw [h3]
    exact ho2
/-- e.f of a caught error -/
def tXr (K : PySem.W.Frag) (f : Str) (te : TE) : TE := fun σ H Q => te σ H fun x H1 => ∃ (a C d : Addr) (fs : List (Str × V)) (v : V), x = .ref a ∧ H1 a = some (exr a (.ref C) (some d)) ∧ H1 d = some (.xd fs) ∧ XfC K C ∧ PySem.W.findIn K (.ref C) f = some none ∧ fs.lookup f = some v ∧ Q v H1
theorem pe_xr {te : TE} {n : Str} (he : PE X e te) (hb : attributeBase e n X.env (eval e X.env) = eval e X.env := by rfl) : PE X (.Attribute e n pos) (tXr X.K n te) := by
  refine ⟨fun pins s σ H Q I h => ?_⟩
  refine attr_of hb (thn (he.run pins s σ H _ I h) fun u s1 hh => ?_)
  obtain ⟨x, H1, I1, rx, a, C, d, fs, v, rfl, ha, hd, T, hno, l, q⟩ := hh
  obtain rfl : u = Value.ref a := rx
  obtain ⟨ox, od, mA, J, hl, hr⟩ := exr_inst I1.hok ha hd
  obtain ⟨u, hu, ru⟩ := RelO.some_of (v := v) (o := mA n) (by rw [← l]; exact hr n)
  exact HandSPX.exc_get I1.kIn J T.ga T.gg T.exC (PySem.W.findObj_own T.hdC hno rfl (by rw [hl, hu])) (handed_of ru) ⟨v, H1, I1.tok _, ru, q⟩
/-- isinstance(e, C) of a caught error -/
def rIsR (K : PySem.W.Frag) : List V → Hp → VK → Prop := fun xs H Q => ∃ (a C : Addr) (d : Addr) (fs : List (Str × V)) (c : V) (cv : Value) (b : Bool), xs = [.ref a, c] ∧ H a = some (exr a (.ref C) (some d)) ∧ H d = some (.xd fs) ∧ XiC K C ∧ ClsV c cv ∧ PySem.W.kitOne K (.ref C) cv = some b ∧ Q (.bl b) H
theorem call_isR : CallR X (.builtin "isinstance") (rIsR X.K) := by
  intro pins s σ H xs us Q I r h
  obtain ⟨a, C, d, fs, c, cv, b, rfl, ha, hd, T, k, e, q⟩ := h
  obtain ⟨u1, u2, rfl, r1, r2⟩ := vals2 r
  have e2 := k.eq r2
  subst e2
  cases r1
  obtain ⟨ox, od, mA, J, hl, hr⟩ := exr_inst I.hok ha hd
  exact PySem.W.kia_one (PySem.W.kitx_exc T.cl T.ga T.gg T.exC T.ca T.sg T.tk T.ob) I.kIn J e (fun z => nomatch z) fun tk => ⟨.bl b, H, I.tok tk, rfl, q⟩
end
end Xr
set_option maxHeartbeats 4000000
/-! defs that make lambdas; the end of a law with tables of code objects, the guards known -/
namespace Xr
open PySem PySem.Spec PyProof.Rows L2 LamX
section
variable {P : Program} {w : World} {K : PySem.W.Frag} {mg : Str → Option Value} {base : Heap} {CX : CXT} {k : Nat} {f : Addr} {x qual : Str} {params : Arguments} {body : List Stmt} {scope : Scope} {dvs : List V} {kws : List (Str × V)} {fd : FuncData} {N ps : List Str} {sp : Sp} {p : He.Defn}
/-- as okG, the def's code object known -/
theorem okGC (F : FunD K x qual params body scope dvs kws (He.fAd K p) fd) (S : FnScope N ps scope) (len : ∀ vs H Q E, sp vs H Q E → vs.length = ps.length)
    (hbody : ∀ (A : Around) (outer : List Env) (s : Shared) (H : Hp) (vs : List V) (Q : VK) (E : XK), Room k (A.deeper (envOfC qual scope s.heap.objs.size (He.fAd K p) (.ref (He.codeOf K p)))) → A.guards = some [] → sp vs H Q E →
      ∃ t, PSs (cxOf CX P w K mg base N qual scope (He.fAd K p) (.ref (He.codeOf K p)) A outer s H E) body t ∧ t { nx := fun _ H' => Q .non H', rt := Q } (start N vs) H) :
    FnG P w K mg base CX (k + 1) (He.fAd K p) fd ps sp := by
  obtain ⟨oc, od, dV, kV, doc, pm, an, cdv, ct, osl, rfl, lk, hcd, _, _⟩ := F.ex
  obtain ⟨c, rfl⟩ := He.codeIn_ref hcd
  obtain rfl : He.codeOf K p = c := He.codeOf_eq lk rfl
  refine ⟨len, fun A outer s H args us vs Q E hr hgd e0 hb r hsp => ?_⟩
  have keep0 : ∀ b o, base.get? b = some o → s.heap.get? b = some o := fun b o z => (e0.bs b o z).1
  have KX : K.In s.heap := e0.mod.kin.keeps keep0
  have hk : ∀ y ∈ ps.zip us, scope.names.lookup y.1 = some .local ∨
      (scope.names.lookup y.1 = some .cell ∧ ((cellsFrom (s.heap.objs.size + 1) scope.names []).lookup y.1).isSome = true) := by
    rintro ⟨n, v⟩ hy
    rcases S.par n (List.of_mem_zip hy).1 with z | z
    · exact Or.inl z
    · exact Or.inr ⟨z, PySem.W.cellsFrom_some _ _ _ (Or.inl z)⟩
  refine codeAny_call_function hr.depth (KX _ _ lk) rfl S.co S.gen rfl (PySem.W.codeRec_of KX hcd) (hb _ _ _ _ ?_)
  refine wpAny_newFunctionEnv_cells S.kind hk fun env he s1 z => ?_
  subst he
  refine ⟨(e0.mod.nolimit.keeps keep0).keeps z.toInCall.keep, codeAny_func ?_⟩
  obtain ⟨t, ht, hq⟩ := hbody A outer s H vs Q E (hr.deeper _) hgd hsp
  have J := inv_start (CX := CX) (E := E) S hr.hd e0 (len _ _ _ _ hsp) r z
  refine wpAny_mono (ht.run [] s1 (start N vs) H _ J hq) (fun fl s' hs => ?_) fun e s' hs => hs
  rcases fl with _ | _ | _ | u
  · obtain ⟨σ', H', J', q⟩ := hs
    exact ⟨V.non, H', J'.os, J'.bare, J'.base, J'.hok, rfl, q⟩
  · obtain ⟨_, _, _, q⟩ := hs
    exact q.elim
  · obtain ⟨_, _, _, q⟩ := hs
    exact q.elim
  · obtain ⟨v, σ', H', J', rv, q⟩ := hs
    exact ⟨v, H', J'.os, J'.bare, J'.base, J'.hok, rv, q⟩
end
/-- the script, locked, and empty tables -/
def scrT (S : Option (Addr × HO)) (tb : List Addr) : Hp := fun b => if (S.map (·.1)) = some b then S.map (·.2) else if b ∈ tb then some (.tbl #[]) else none
theorem lawCallGT {P : Program} {w : World} {K : PySem.W.Frag} {mg mb : Str → Option Value} {CX : CXT} {k : Nat} {fa a : Addr} {cs : List (Addr × Addr)} {fd : FuncData} {x : Str} {sp : Sp} {s1 : Shared} {vs : List Value} {ns : List Int}
    (KX : K.In s1.heap) (hns : s1.heap.Ns mainGlobals mg) (hb : s1.heap.Ns builtinsNs mb) (hbb : ∀ x : Str, x ≠ "__name__" → mb x = bootBuiltins x) (hlim : s1.heap.NoLimit) (hg : s1.gens = #[])
    (tE : ∀ p ∈ cs, s1.heap.get? p.2 = some { cls := .none, data := .fields #[] }) (tO : ∀ p ∈ cs, K.lookup p.2 = none) (tC : ∀ p ∈ cs, PySem.W.CodeHd s1.heap p.1 p.2)
    (hbm : ∃ (bm : Addr) (ob : Obj), mg "__builtins__" = some (.ref bm) ∧ bm ≠ builtinsNs ∧ s1.heap.get? bm = some ob ∧ ob.cls = .type "module" ∧ ob.dict = some builtinsNs ∧ ob.data = .plain)
    (ha : s1.heap.get? a = some { cls := .type "list", data := .seq vs.toArray }) (hi : IntsAre vs ns) (hl : ns.length ≤ sizeLine) (hr : Room k callerA)
    (F : ∀ base : Heap, K.In base → base.Ns mainGlobals mg → (∀ p ∈ cs, TabB base mg p.1 p.2) → FnG P w K mg base CX k fa fd [x] sp) (hbind : ∀ (s : Shared) (u : Value), BindsTo s fd ⟨[u], []⟩ [(x, u)])
    (hsp : ∀ H : Hp, (∀ p ∈ cs, H p.2 = some (.tbl #[])) → SqL K H a (ns.map V.int) → sp [.ref a] H (fun v _ => v = .bl true) fun _ _ _ => False)
    (hCX : ∀ H e s', CX [] H s1 (fun _ _ _ => False) e s' → False) :
    codeAny (model P w) callerA (.call (.ref fa) ⟨[.ref a], []⟩) (fun r s' => r = .ok (.ret (.bool true)) ∧ OldK s1.heap s'.heap ∧ s'.os = s1.os ∧ AllBare s'.gens) s1 := by
  have rv := vals_ints hi
  have mT : ∀ {b : Addr}, b ∈ cs.map (·.2) → ∃ p ∈ cs, p.2 = b := fun h => List.mem_map.mp h
  have tA : ∀ {b : Addr}, b ∈ cs.map (·.2) → s1.heap.get? b = some { cls := .none, data := .fields #[] } := fun h => by
    obtain ⟨p, hp, rfl⟩ := mT h
    exact tE p hp
  have aN : a ∉ cs.map (·.2) := fun h => by
    have z := tA h
    rw [ha] at z
    injection z with z
    injection z with _ _ z
    cases z
  have go : ∀ H : Hp, (∀ p ∈ cs, H p.2 = some (.tbl #[])) → (∀ b u, H b = some u → b ∈ cs.map (·.2) ∨ (b = a ∧ ∃ o xs, u = .frz o (.lst xs))) → SqL K H a (ns.map V.int) → HOk P w H s1.heap → (H a ≠ none → K.lookup a = none) →
      codeAny (model P w) callerA (.call (.ref fa) ⟨[.ref a], []⟩) (fun r s' => r = .ok (.ret (.bool true)) ∧ OldK s1.heap s'.heap ∧ s'.os = s1.os ∧ AllBare s'.gens) s1 := by
    intro H hH hO hS hok hK
    have free : ∀ {b : Addr} {o : Obj}, s1.heap.get? b = some o → (∀ us n, o.data ≠ .seq us n) → o.data ≠ .fields #[] → H b = none := by
      intro b o z d1 d2
      cases q : H b with
      | none => rfl
      | some u =>
        exfalso
        rcases hO b u q with h | ⟨rfl, _⟩
        · rw [tA h] at z
          cases z
          exact d2 rfl
        · rw [ha] at z
          cases z
          exact d1 _ _ rfl
    have nsB : ∀ {b : Addr} {m : Str → Option Value}, s1.heap.Ns b m → (hidT s1.heap H).Ns b m := by
      rintro b m ⟨o, es, ep, z, d, r⟩
      exact ⟨o, es, ep, hidT_get z (free z (fun _ _ y => by rw [d] at y; cases y) fun y => by rw [d] at y; cases y), d, r⟩
    have KB : K.In (hidT s1.heap H) := fun b o z => hidT_get (KX b o z) (by
      cases q : H b with
      | none => rfl
      | some u =>
        exfalso
        rcases hO b u q with h | ⟨rfl, _⟩
        · obtain ⟨p, hp, rfl⟩ := mT h
          rw [tO p hp] at z
          cases z
        · rw [hK (by rw [q]; exact Option.some_ne_none _)] at z
          cases z)
    obtain ⟨mc, l1, l2⟩ := hlim
    have M : Mod K mg (hidT s1.heap H) := ⟨KB, nsB hns, ⟨mb, nsB hb, hbb⟩, ⟨mc, nsB l1, l2⟩⟩
    have TB : ∀ p ∈ cs, TabB (hidT s1.heap H) mg p.1 p.2 := by
      intro p hp
      have e := tE p hp
      obtain ⟨o, us, file, tf, flags, tg, inF, text, tt, y1, r1, r2, r3, r4, r5, r6, r7, r8, hne⟩ := tC p hp
      obtain ⟨bm, ob, b1, b2, b3, b4, b5, b6⟩ := hbm
      obtain ⟨og, es, ep, g1, g2, _⟩ := id hns
      refine ⟨⟨o, us, file, tf, flags, tg, inF, text, tt, hidT_get y1 (free y1 (fun _ _ y => by rw [r2] at y; cases y) fun y => ?_), r1, r2, r3, r4, r5, r6, r7, r8, hne⟩, ⟨bm, ob, b1, b2, fun y => ?_, fun y => ?_, hidT_get b3 (free b3 (fun _ _ y => by rw [b6] at y; cases y) fun y => by rw [b6] at y; cases y), b4, b5, b6⟩, fun y => ?_⟩
      · rw [r2] at y
        cases y
        simp at r3
      · rw [y, g1] at b3
        cases b3
        rw [g2] at b6
        cases b6
      · rw [y, e] at b3
        cases b3
        cases b6
      · rw [y, e] at g1
        cases g1
        cases g2
    have e0 : Env0 P w K mg (hidT s1.heap H) callerA [] s1 H :=
      ⟨rfl, M, fun b o z => of_hidT z, Nat.le_of_eq (hidT_size _ _), trivial, fun b hb => absurd (show b ∈ ([] : List Addr) from hb) (by simp), hok, .of_eq hg⟩
    have run := (F _ KB (nsB hns) TB).run callerA [] s1 H ⟨[.ref a], []⟩ [.ref a] [.ref a] _ _ hr rfl e0 (hbind s1 (.ref a)) (.cons rfl .nil) (hsp H hH hS)
    refine codeAny_mono run fun r s' h => ?_
    rcases r with er | (_ | _ | _ | u)
    · exact (hCX H er s' h).elim
    · exact h.elim
    · exact h.elim
    · exact h.elim
    · obtain ⟨v, H', os, bare, un, hok', r', q⟩ := h
      cases (show v = .bl true from q)
      cases (show u = Value.bool true from r')
      have stays : ∀ b o, b ∉ cs.map (·.2) → s1.heap.get? b = some o → s'.heap.get? b = some o := by
        intro b o hb z
        cases y : H b with
        | none => exact un.keep b o z y (fun y => absurd (show b ∈ ([] : List Addr) from y) (by simp)) (by simp)
        | some u =>
          rcases hO b u y with h | ⟨rfl, ob, xs, rfl⟩
          · exact absurd h hb
          · have e1 := (hok b _ y).1
            rw [z] at e1
            cases e1
            exact (hok' b _ (un.frzs b _ _ y)).1
      have grows : ∀ p ∈ cs, ∃ more : Array Value, s'.heap.get? p.2 = some { cls := .none, data := .fields more } := fun p hp => by
        obtain ⟨more, z⟩ := un.tbls p.2 #[] (hH p hp)
        exact ⟨_, hok' p.2 _ z⟩
      refine ⟨rfl, ⟨fun b o z => ?_, fun b o z => ?_⟩, os, bare⟩
      · by_cases hb : b ∈ cs.map (·.2)
        · obtain ⟨p, hp, rfl⟩ := mT hb
          obtain ⟨more, hm⟩ := grows p hp
          rw [tE p hp] at z
          cases z
          exact .inr (.inl ⟨((tC p hp).tab (tE p hp)).isCodeTable, rfl, #[], more, rfl, by rw [Array.empty_append]; exact hm⟩)
        · exact .inl (stays b o hb z)
      · by_cases hb : b ∈ cs.map (·.2)
        · obtain ⟨p, hp, rfl⟩ := mT hb
          obtain ⟨more, hm⟩ := grows p hp
          exact ⟨_, hm⟩
        · exact ⟨o, stays b o hb z⟩
  cases hk : K.lookup a with
  | some o =>
    have z := KX a o hk
    rw [ha] at z
    cases z
    have at1 : ∀ b, scrT none (cs.map (·.2)) b = if b ∈ cs.map (·.2) then some (.tbl #[]) else none := fun b => rfl
    refine go (scrT none (cs.map (·.2))) (fun p hp => ?_) (fun b u z => ?_) (Or.inr ⟨_, vs.toArray, _, hk, rfl, rfl, rfl, by rw [List.size_toArray, hi.length]; exact hl, by simpa using rv⟩) (fun b u z => ?_) fun z => ?_
    · rw [at1]
      exact if_pos (List.mem_map.mpr ⟨p, hp, rfl⟩)
    · rw [at1] at z
      by_cases hb : b ∈ cs.map (·.2)
      · exact .inl hb
      · rw [if_neg hb] at z
        cases z
    · rw [at1] at z
      by_cases hb : b ∈ cs.map (·.2)
      · rw [if_pos hb] at z
        cases z
        exact tA hb
      · rw [if_neg hb] at z
        cases z
    · rw [at1, if_neg aN] at z
      exact absurd rfl z
  | none =>
    have hit : scrT (some (a, .frz { cls := .type "list", data := .seq vs.toArray } (.lst (ns.map V.int)))) (cs.map (·.2)) a = some (.frz { cls := .type "list", data := .seq vs.toArray } (.lst (ns.map V.int))) := if_pos rfl
    have miss : ∀ {b : Addr}, b ≠ a → scrT (some (a, .frz { cls := .type "list", data := .seq vs.toArray } (.lst (ns.map V.int)))) (cs.map (·.2)) b = if b ∈ cs.map (·.2) then some (.tbl #[]) else none := fun z => if_neg fun y => z (Option.some.inj y).symm
    refine go (scrT (some (a, .frz { cls := .type "list", data := .seq vs.toArray } (.lst (ns.map V.int)))) (cs.map (·.2))) (fun p hp => ?_) (fun b u z => ?_) (Or.inl (Or.inr ⟨_, hit⟩)) (fun b u z => ?_) fun _ => hk
    · have h : p.2 ∈ cs.map (·.2) := List.mem_map.mpr ⟨p, hp, rfl⟩
      rw [miss fun y => aN (y ▸ h)]
      exact if_pos h
    · by_cases hba : b = a
      · cases hba
        rw [hit] at z
        cases z
        exact .inr ⟨rfl, _, _, rfl⟩
      · rw [miss hba] at z
        by_cases hb : b ∈ cs.map (·.2)
        · exact .inl hb
        · rw [if_neg hb] at z
          cases z
    · by_cases hba : b = a
      · cases hba
        rw [hit] at z
        cases z
        exact ⟨ha, by rw [List.length_map]; exact hl, vs, _, rv, ha⟩
      · rw [miss hba] at z
        by_cases hb : b ∈ cs.map (·.2)
        · rw [if_pos hb] at z
          cases z
          exact tA hb
        · rw [if_neg hb] at z
          cases z
theorem walkGT {l : PySem.W.OpenLaw} {n k : Nat} {q : Program} {loose : List Str} {XP : (Str → Option Value) → Heap → Prop} {YP : World → Heap → Prop} {d : DefRec} {CX : CXT} {x : Str}
    (hn : l.most = some n) (hn2 : n ≤ sizeLine) (hdf : d.params.defaults = []) (hr : Room k callerA)
    (F : ∀ (w : World) (mg : Str → Option Value) (fa : Addr) (h : Heap), YP w h → h.Ns mainGlobals mg → mg d.name = some (.ref fa) →
      ∃ (K : PySem.W.Frag) (fd : FuncData) (cs : List (Addr × Addr)) (sp : Sp), K.In h ∧ (∀ p ∈ cs, h.get? p.2 = some { cls := .none, data := .fields #[] }) ∧ (∀ p ∈ cs, K.lookup p.2 = none) ∧ (∀ p ∈ cs, PySem.W.CodeHd h p.1 p.2) ∧ (∀ (s : Shared) (u : Value), BindsTo s fd ⟨[u], []⟩ [(x, u)]) ∧
        (∀ (H : Hp) (a : Addr) (ns : List Int), ns.length ≤ n → (∀ p ∈ cs, H p.2 = some (.tbl #[])) → SqL K H a (ns.map V.int) → sp [.ref a] H (fun v _ => v = .bl true) fun _ _ _ => False) ∧
        ∀ base : Heap, K.In base → base.Ns mainGlobals mg → (∀ p ∈ cs, TabB base mg p.1 p.2) → FnG l.prog w K mg base CX k fa fd [x] sp)
    (hCX : ∀ (H : Hp) (s : Shared) (e : Value) (s' : Shared), CX [] H s (fun _ _ _ => False) e s' → False) :
    PySem.W.WalkO q loose XP YP l.row.toRowW d [] (fun f vs => PySem.call f vs) := by
  refine Att.attach_call hn hdf fun w s0 s1 mg mb fa o pm cd doc a vs ns G Y ho hd hcd hmg hobj hints hlen hg => ?_
  obtain ⟨K, fd, cs, sp, KX, t1, t2, t3, hb, hsp, hF⟩ := F w mg fa _ Y G.T.g hmg
  exact lawCallGT KX G.T.g G.T.b G.T.builtins G.T.nolimit hg t1 t2 t3 G.T.bmain hobj hints (Nat.le_trans hlen hn2) hr hF hb (fun H hT hS => hsp H a ns hlen hT hS) fun H e s' => hCX H s1 e s'
end Xr
set_option maxHeartbeats 4000000
/-! a text times a number; a list the other way round -/
namespace Xr
open PySem PySem.Spec PyProof.Rows L2
def repS (a : Str) (k : Int) : Str := ⟨(List.replicate k.toNat a.cps).foldl (· ++ ·) #[]⟩
section
variable {X : Cx}
theorem op_repS : OpR X (binaryOp .Mult) (fun x y H Q => ∃ a k, x = .str a ∧ y = .int k ∧ 2 ≤ k ∧ k ≤ 1000 ∧ 1 ≤ a.length ∧ a.length ≤ 1000 ∧ (repS a k).length ≤ sizeLine ∧ Q (.str (repS a k)) H) := by
  intro pins s σ H x y v u Q I rx ry h
  obtain ⟨a, k, rfl, rfl, k1, k2, a1, a2, hs, q⟩ := h
  obtain ⟨t, rfl⟩ := rx
  obtain ⟨t', rfl⟩ := ry
  have e3 : (k == 1 || a.length == 0) = false := by
    have z1 : (k == 1) = false := beq_eq_false_iff_ne.mpr (by omega)
    have z2 : (a.length == 0) = false := beq_eq_false_iff_ne.mpr (by omega)
    rw [z1, z2]
    rfl
  have tl : Builtin.Str.tooLong (a.length * k.toNat) = false := by
    have z : a.length * k.toNat ≤ 1000 * 1000 := Nat.mul_le_mul a2 (by omega)
    unfold Builtin.Str.tooLong
    rw [sizeLine_eq]
    exact decide_eq_false (by omega)
  refine P.mul_str (by rw [decide_eq_false (by omega), decide_eq_false (by omega)]; rfl) (fun _ _ => ?_) (fun _ _ => tl) ?_
  · have : (1000 : Int) ≤ (2 ^ 63 - 1) / k := Int.le_ediv_of_mul_le (by omega) (by omega)
    omega
  · rw [if_neg (by omega), e3, if_neg (by simp)]
    exact ⟨hs, ⟨.str (repS a k), H, I.tok _, ⟨_, rfl⟩, q⟩⟩
theorem fm_some {α β : Type} {f : α → Option β} {g : α → β} : ∀ {l : List α}, (∀ k ∈ l, f k = some (g k)) → l.filterMap f = l.map g
  | [], _ => rfl
  | k :: l, h => by
    rw [List.filterMap_cons, h k (List.mem_cons_self ..), fm_some fun j hj => h j (List.mem_cons_of_mem _ hj)]
    rfl
theorem pick_rev (its : List Value) : slicePick its.toArray none none (some (-1)) = its.reverse.toArray := by
  have hb : sliceBounds none none (some (-1)) its.length = ((its.length : Int) - 1, -1, -1) := by
    unfold sliceBounds
    simp
  unfold slicePick
  rw [List.size_toArray, hb]
  dsimp only
  congr 1
  have hr : sliceRange ((its.length : Int) - 1) (-1) (-1) = (List.range its.length).map fun k => its.length - 1 - k := by
    unfold sliceRange
    rw [if_neg (by omega)]
    by_cases h : its.length = 0
    · rw [h]
      rfl
    · rw [if_pos (by omega)]
      have e : (((its.length : Int) - 1 - -1 - -1 - 1) / (- -1)).toNat = its.length := by
        have : ((its.length : Int) - 1 - -1 - -1 - 1) / (- -1) = (its.length : Int) := by
          rw [show (- -1 : Int) = 1 from rfl, Int.ediv_one]
          omega
        rw [this]
        omega
      show List.map (fun (k : Nat) => ((its.length : Int) - 1 + -1 * (k : Int)).toNat) (List.range (((its.length : Int) - 1 - -1 - -1 - 1) / (- -1)).toNat) = _
      rw [e]
      refine List.map_congr_left fun k hk => ?_
      have := List.mem_range.mp hk
      omega
  rw [hr]
  refine List.ext_getElem? fun i => ?_
  rw [List.filterMap_map]
  have e2 : (List.range its.length).filterMap ((fun x => its.toArray[x]?) ∘ fun k => its.length - 1 - k) = (List.range its.length).map fun k => its.reverse.getD k .none := by
    refine fm_some fun k hk => ?_
    have := List.mem_range.mp hk
    show its.toArray[its.length - 1 - k]? = some (its.reverse.getD k .none)
    rw [List.getElem?_toArray, List.getD_eq_getElem?_getD, List.getElem?_reverse this, List.getElem?_eq_getElem (by omega)]
    rfl
  rw [e2, List.getElem?_map]
  by_cases hi : i < its.length
  · rw [List.getElem?_range hi]
    show some (its.reverse.getD i .none) = _
    rw [List.getD_eq_getElem?_getD, List.getElem?_reverse hi, List.getElem?_eq_getElem (by omega)]
    rfl
  · rw [List.getElem?_eq_none (by simp; omega), List.getElem?_eq_none (by simp; omega)]
    rfl
/-- e[::-1] of a list -/
theorem pe_revL {e st : Expr} {te : TE} {p2 pos : Pos} (he : PE X e te) (hst : PE X st (fun _ H Q => Q (.int (-1)) H)) : PE X (.Subscript e (.Slice none none (some st) p2) pos) (fun σ H Q => te σ H fun x H1 => ∃ a xs, x = .ref a ∧ SqL X.K H1 a xs ∧ ∀ p, H1 p = none → Q (.ref p) (upd H1 p (.lst xs.reverse))) := by
  refine ⟨fun pins s σ H Q I h => ?_⟩
  refine Subscript_ (thn (he.run pins s σ H _ I h) fun v s1 ⟨x, H1, I1, r1, a, xs, ex, hx, q⟩ => ?_)
  subst ex
  obtain rfl : v = Value.ref a := r1
  refine wpAny_Slice ?_
  rw [evalPart_none, evalPart_some]
  refine wpAny_pure (wpAny_pure (thn (hst.run pins s1 σ H1 (fun v H2 => v = .int (-1) ∧ H2 = H1) I1 ⟨rfl, rfl⟩) fun u s3 ⟨y, H3, I3, r3, ey, eH⟩ => ?_))
  subst ey eH
  obtain ⟨t, rfl⟩ := r3
  have I4 : Inv X pins σ H3 { s3 with heap := s3.heap.push { cls := .type "slice", data := .fields #[.none, .none, .int (-1) t] } } := I3.kept (t' := s3.toks) fun b ob q => Heap.get?_push_of_some _ q
  obtain ⟨its, r, ht, hz⟩ := I4.list hx
  have hlen := r.length
  show wpAny (model X.prog X.w) X.A (subscriptTail e (.Slice none none (some st) p2) (.ref a) (.ref s3.heap.objs.size)) (EP X pins σ Q) X.xe _
  refine tail_any (ops := [.ref a, .ref s3.heap.objs.size]) (T := "list") (id := "list.__getitem__") ht.isList.typeIs slot_list_getitem.lookup ?_ (by with_unfolding_all rfl)
  refine wpAny_getItem_list_slice ht.isList (Heap.IsSliceOf.new ..) .none .none (.int (-1) t) (by simp) ?_ (by rw [List.size_toArray] <;> omega)
  rw [pick_rev]
  refine ⟨.ref _, _, I4.laid (t' := s3.toks) (o := .lst xs.reverse) (fun b ob q => Heap.get?_push_of_some _ q) (Nat.le_refl _) ?_, rfl, q _ (I4.hok.fresh (Nat.le_refl _))⟩
  exact ⟨by rw [List.length_reverse]; exact hz, _, 0, vals_rev r, Heap.get?_push_size _ rfl⟩
theorem pe_m1 {j : Nat} {p1 p2 : Pos} : PE X (.UnaryOp .USub (.Constant (.int 1) j p1) p2) (fun _ H Q => Q (.int (-1)) H) := ⟨fun pins s σ H Q I h => (pe_un un_neg pe_int).run pins s σ H Q I ⟨1, rfl, h⟩⟩
/-- d != e, dicts of flat values -/
def rNeDF : R2 := fun x y H Q => ∃ a b ks ls, x = .ref a ∧ y = .ref b ∧ H a = some (.dK ks) ∧ H b = some (.dK ls) ∧ (∀ p ∈ ks, flatV p.2 = true) ∧ (∀ p ∈ ls, flatV p.2 = true) ∧ Q (.bl (!(ks.length == ls.length && subK ks ls))) H
theorem op_neDF (hu : X.A.units < cLine) : OpR X (compareOp .NotEq) rNeDF := by
  intro pins s σ H x y v u Q I rx ry h
  obtain ⟨a, b, ks, ls, rfl, rfl, ea, eb, fa, fb, q⟩ := h
  obtain rfl : v = Value.ref a := rx
  obtain rfl : u = Value.ref b := ry
  obtain ⟨_, ya, va, ra, da⟩ := (show ObjOk X.prog X.w H s.heap a (.dK ks) from I.hok a _ ea)
  obtain ⟨_, yb, vb, rb, db⟩ := (show ObjOk X.prog X.w H s.heap b (.dK ls) from I.hok b _ eb)
  exact PySem.W.keq_ne (knd := mixKind X.prog X.w) ya yb da db hu (fun _ => hits_sub rb fb ra fa) (fin_bl I q (by rw [← ra.length, ← rb.length]))
end
end Xr
set_option maxHeartbeats 4000000
/-! x(lambda: ..) with x known as a def; ExtN and Same -/
namespace Xr
open PySem PySem.Spec PyProof.Rows L2 LamX
theorem pe_lamF {X : Cx} {T : List (Addr × Str)} {TT : (XK → Hp → VK → Prop) → Hp → VK → Prop} {x a : Str} {g c Pt : Addr} {k : Nat} {pg : Arguments} {bg : List Stmt} {sg : Scope} {kws : List (Str × V)} {fd : FuncData} {Ng : List Str}
    {params : Arguments} {body : Expr} {scope : Scope} {t : XK → TE} {p lpos pos : Pos} (F : FunD X.K x x pg bg sg [] kws g fd) (hb : L2.Binds X.K fd [a] []) (hg : Gl X x) (hm : X.mg x = some (.ref g)) (Sg : FnScope Ng [a] sg) (hNg : Ng[0]? = some a) (hva : Vis sg a)
    (hG : ∀ cdv, GivesTo X Ng x sg g cdv bg a (X.env.qual ++ "<lambda>") TT)
    (TB : TabB X.base X.mg c Pt) (hcode : X.env.code = .ref c) (hmT : (Pt, X.env.qual ++ "<lambda>") ∈ T) (hu : ∀ p ∈ T, p.1 = Pt → p.2 = X.env.qual ++ "<lambda>") (hr : Room (k + 2) X.A) (L : LamS X.env.scope scope)
    (hbody : ∀ (A : Around) (outer : List Env) (s : Shared) (H : Hp) (E : XK) (f c' : Addr), Room k (A.deeper (lamEnv X scope s.heap.objs.size f c')) → PE (lamCx X A outer s H E scope f c') body (t E))
    (hdef : defaultsOf params X.env = ([], []) := by rfl)
    (hbind : ∀ (q : Str) (cl : List (Str × Addr)) (pm cv ctv : Value), bindArgs (PySem.W.kla_fn "<lambda>" q params body scope cl pm cv ctv) ⟨[], []⟩ = pure [] := by intros; rfl)
    (hdb : (x == ("__debug__" : Str)) = false := by decide) (hd : (a == ("__debug__" : Str)) = false := by decide) (hcd : (a == ("__classdict__" : Str)) = false := by decide) :
    PE X (.Call (.Name x p) [.Lambda params body scope lpos] [] pos) (tLam T TT t) := by
  obtain ⟨oc, od, dV, kV, doc, pm, an, cdv, ct, osl, rfl, lk, hcg, _, _⟩ := F.ex
  exact pe_lamcall hg hm F.kp lk hcg hb Sg hNg hva (hG cdv) TB hcode hmT hu hr L hdef hbind hbody hdb hd hcd
theorem ExtN.same {H H1 H2 : Hp} (a : ExtN H H1) (s : Same H1 H2) : ExtN H H2 := fun b o h n => s b o (a b o h n)
theorem Same.extN {H H1 H2 : Hp} (s : Same H H1) (a : ExtN H1 H2) : ExtN H H2 := fun b o h n => a b o (s b o h) n
theorem Same.toN {H H1 : Hp} (s : Same H H1) : ExtN H H1 := fun b o h _ => s b o h
/-- a wish for slots of the right length alone -/
theorem takes_len {X : Cx} {W : WX} {n : Nat} (hn : X.N.length = n) (tk : Takes X W) : Takes X (fun cls d σ H => σ.length = n → W cls d σ H) := fun u s' ⟨a, B, sI, pins, σ, H, cls, d, e, I, nb, up, sky, na, os, ag, w⟩ =>
  tk u s' ⟨a, B, sI, pins, σ, H, cls, d, e, I, nb, up, sky, na, os, ag, w (I.len.trans hn)⟩
theorem tabs_put {T : List (Addr × Str)} {H : Hp} {l : Addr} {xs : List V} {o : HO} (t : Tabs T H) (h : H l = some (.lst xs)) : Tabs T (upd H l o) := fun p hp => by
  obtain ⟨ps, h1, h2, h3⟩ := t p hp
  have n1 : p.1 ≠ l := fun z => by rw [z, h] at h1; cases h1
  refine ⟨ps, (upd_ne n1).trans h1, h2, fun pos cv hc => ?_⟩
  obtain ⟨c, e1, e2⟩ := h3 pos cv hc
  have n2 : c ≠ l := fun z => by
    rw [z, h] at e2
    have e3 := Option.some.inj e2
    unfold CodeO at e3
    cases e3
  exact ⟨c, e1, (upd_ne n2).trans e2⟩
theorem extN_put {H H1 H2 : Hp} {l : Addr} {o : HO} (a : ExtN H H1) (n : H1 l = none) (b : ExtN H H2) : ExtN H (upd H2 l o) := fun c u h nt => by
  have z := a c u h nt
  rw [upd_ne (ne_of_none z n)]
  exact b c u h nt
end Xr
set_option maxHeartbeats 4000000
/-! f-strings of instances of own classes -/
namespace Xr
open PySem PySem.Spec PyProof.Rows L2
section
open PySem.W
variable {prog : Program} {w : World} {A : Around} {E : Value → Shared → Prop} {s : Shared} {K : PySem.W.Frag} {x C f : Addr} {ox : Obj} {od : Option Obj}
theorem check_met {i o n : String} {me : Value} {r : List Value} {q : Unit → Shared → Prop} (hk : builtinKind i = some .method) (hs : splitId i = some (o, n)) (hi : Looks (model prog w) s.heap (isInstance me (.type o)) true) (ha : argsOk i ⟨me :: r, []⟩) (hq : q () s) :
    wpAny (model prog w) A (checkBuiltinCall i ⟨me :: r, []⟩) q E s := by
  simp only [checkBuiltinCall, hk, hs]
  refine wpAny_bind (hi.here ?_)
  rw [Bool.not_true, if_neg Bool.false_ne_true]
  cases hg : Manifest.signature? i with
  | none => exact wpAny_pure hq
  | some g =>
    have h2 : Bind.checkArgs i g ⟨me :: r, []⟩ = pure () := by simpa only [argsOk, hg] using ha
    have h3 : wpAny (model prog w) A (Bind.checkArgs i g ⟨me :: r, []⟩) q E s := by rw [h2]; exact wpAny_pure hq
    exact h3
theorem fmt_K {Q : Value → Shared → Prop} (hu : A.units + 1 < cLine) (X : K.In s.heap) (I : InstAt s.heap x ox C od) (ho : mroIn K C (.type "object") = some true) (hs : findIn K (.ref C) "__format__" = some (some (.builtin "object.__format__")))
    (he : findIn K (.ref C) "__str__" = some (some (.ref f))) (hf : isFn K (.ref f) = true)
    (h : wpAny (model prog w) A.in1 (call (.ref f) [.ref x]) (fun r s' => ∃ y t, r = .str y t ∧ Q r s') E { s with toks := s.toks + 1 }) : wpAny (model prog w) A (formatField (.ref x) Str.empty) Q E s := by
  have sub : Looks (model prog w) s.heap (isInstance (.ref x) (.type "object")) true := I.type.andThen (looks_mroIn X ho)
  have e : formatField (.ref x) Str.empty = holding [.ref x] (pyFormat (.ref x) Str.empty) := rfl
  rw [e]
  refine wpAny_holding ?_
  unfold pyFormat
  refine wpAny_bind (wpAny_mkStr ?_)
  have X' : K.In ({ s with toks := s.toks + 1 } : Shared).heap := X
  have I' : InstAt ({ s with toks := s.toks + 1 } : Shared).heap x ox C od := I
  have sub' : Looks (model prog w) ({ s with toks := s.toks + 1 } : Shared).heap (isInstance (.ref x) (.type "object")) true := sub
  have ob : ∀ self : Value, bindSpecial (.builtin "object.__format__") self = pure (.builtin "object.__format__", [self]) := fun self => by kernel_rfl
  refine wpAny_bind (m := callSpecial? (.ref x) (Str.ofString "__format__") [.str Str.empty s.toks]) ?_
  refine wpAny_bind (wpAny_bind (I'.type.here ((looks_findIn X' hs).here (wpAny_holding ?_))))
  rw [ob]
  refine wpAny_bind (wpAny_pure (wpAny_bind ?_))
  have kd : builtinKind "object.__format__" = some .method := by decide +kernel
  have sp : splitId "object.__format__" = some ("object", "__format__") := by decide +kernel
  show wpAny (model prog w) A (call (.builtin "object.__format__") [.ref x, .str Str.empty s.toks]) _ _ _
  refine wpAny_call ?_
  refine codeAny_call_builtin (by decide +kernel) PySem.F.entry_object_format ?_
  have ha := PySem.F.args_object_format_2 (.ref x) (.str Str.empty s.toks)
  have go := fun q => @check_met prog w A.in1 (fun e s' => E e s') { s with toks := s.toks + 1 } "object.__format__" "object" "__format__" (.ref x) [.str Str.empty s.toks] q kd sp sub' ha
  refine go _ ?_
  show wpAny _ _ (do let _shown ← typeNameOf (.str Str.empty s.toks); (do ret (← pyStrObj (.ref x)))) _ _ _
  refine wpAny_bind (wpAny_typeNameOf (T := "str") (typeIs_str _ _ _) (by decide) fun _ => ?_)
  refine wpAny_bind (m := pyStrObj (.ref x)) ?_
  unfold pyStrObj
  refine wpAny_bind (m := cRoomFor _ _) (wpAny_cRoomFor hu ?_)
  refine wpAny_bind (m := callSpecial? (.ref x) (Str.ofString "__str__")) (special_fn X' I' he (beq_iff_eq.mp hf) (wpAny_mono h (fun r s' hr => ?_) fun _ _ y => y))
  obtain ⟨y, t, rfl, hq⟩ := hr
  refine wpAny_bind (wpAny_isInstance (T := "str") (b := true) rfl isSubtype_str_str (wpAny_pure (wpAny_pure ?_)))
  exact wpAny_pure (wpAny_bind (wpAny_isInstance (T := "str") (b := true) rfl isSubtype_str_str (wpAny_pure hq)))
end
section
variable {X : Cx} {CX : CXT} {k : Nat} {f C : Addr} {sp : Sp} {E : XK} {e : Expr} {te : TE} {pos : Pos}
/-- {x}, x an instance of the class at C -/
def tFmtO (C : Addr) (sp : Sp) (E : XK) (te : TE) : TE := fun σ H Q => te σ H fun x H1 => ∃ a dx fs, x = .ref a ∧ H1 a = some (.ins C dx fs) ∧ sp [.ref a] H1 (fun v H' => ∃ x, v = .str x ∧ Q (.str x) H') E
theorem pe_fmtO (he : PE X e te) (c : PySem.W.mroIn X.K C (.type "object") = some true) (hf : PySem.W.findIn X.K (.ref C) "__format__" = some (some (.builtin "object.__format__"))) (h : Sm X.K C "__str__" f) (F : FnR X.prog X.w X.K X.mg X.base CX k f sp) (hr : Room (k + 1) X.A) (hx : Passes CX X E) :
    PE X (.FormattedValue e (-1) none pos) (tFmtO C sp E te) := by
  refine ⟨fun pins s σ H Q I q => ?_⟩
  refine wpAny_FormattedValue_plain (thn (he.run pins s σ H _ I q) fun v s1 hv => ?_)
  obtain ⟨x, H1, I1, r1, a, dx, fs, rfl, ha, q⟩ := hv
  cases r1
  obtain ⟨od, J⟩ := inst_of I1 ha
  have hr1 : Room k X.A.in1 := hr.in1
  have I2 := I1.tok (s1.toks + 1)
  refine fmt_K (by have := hr.units; omega) I1.kIn J c hf h.at_ h.fn (wpAny_mono (run_in (us := [.ref a]) (vs := [.ref a]) F hr1 rfl hx I2 (.cons rfl .nil) q) (fun w s' z => ?_) fun _ _ z => z)
  obtain ⟨v, H', I', rv, x, rfl, q'⟩ := z
  obtain ⟨t, rfl⟩ := rv
  exact ⟨x, t, rfl, .str x, H', I', ⟨t, rfl⟩, q'⟩
end
end Xr
set_option maxHeartbeats 4000000
/-! isinstance of a caught error with a tuple of classes; a class by a local name; own classes as the head tells them -/
namespace Xr
open PySem PySem.Spec PyProof.Rows L2
section
variable {X : Cx}
/-- isinstance(e, (C, ..)) of a caught error -/
def rIsRT (K : PySem.W.Frag) : List V → Hp → VK → Prop := fun xs H Q => ∃ (a C d tp : Addr) (fs : List (Str × V)) (cs : List V) (us : List Value) (b : Bool), xs = [.ref a, .ref tp] ∧ H a = some (exr a (.ref C) (some d)) ∧ H d = some (.xd fs) ∧ XiC K C ∧ H tp = some (.tup cs) ∧ Paired ClsV cs us ∧ PySem.W.kitAny K (.ref C) us = some b ∧ Q (.bl b) H
theorem call_isRT : CallR X (.builtin "isinstance") (rIsRT X.K) := by
  intro pins s σ H xs us Q I r h
  obtain ⟨a, C, d, tp, fs, cs, ws, b, rfl, ha, hd, T, ht, hc, e, q⟩ := h
  obtain ⟨u1, u2, rfl, r1, r2⟩ := vals2 r
  cases r1
  cases r2
  obtain ⟨ox, od, mA, J, hl, hr⟩ := exr_inst I.hok ha hd
  obtain ⟨_, its, rv, o, h1, h2, n, h3⟩ := (show ObjOk X.prog X.w H s.heap tp (.tup cs) from I.hok tp _ ht)
  obtain rfl := ClsV.all hc rv
  obtain ⟨oc, od', dt, sl⟩ := o
  dsimp only at h2 h3
  subst h2 h3
  exact PySem.W.kia_tup (PySem.W.kitx_exc T.cl T.ga T.gg T.exC T.ca T.sg T.tk T.ob) I.kIn J h1 e (fun z => nomatch z) fun tk => ⟨.bl b, H, I.tok tk, rfl, q⟩
end
section
variable {X : Cx} {CX : CXT} {k : Nat} {f C : Addr} {sp : Sp} {E : XK} {x : Str} {np pos : Pos} {e : Expr} {es : List Expr} {tf : TE} {t : TA}
/-- C(e, ..), the class at C by a local name -/
def tMakeV (C : Addr) (sp : Sp) (E : XK) (tf : TE) (t : TA) : TE := fun σ H Q => tf σ H fun c H1 => c = .ref C ∧ StX.tMakeR C sp E t σ H1 Q
theorem pe_makeV (M : Mk X.K C f) (F : FnR X.prog X.w X.K X.mg X.base CX k f sp) (hr : Room (k + 1) X.A) (hx : Passes CX X E) (hf : PE X (.Name x np) tf) (ha : PA X (e :: es) t)
    (he : starEach (e :: es) X.env = (false, eval e X.env) :: starEach es X.env := by rfl) (hpl : (backTo pos (starEach es X.env)).any (·.1) = false := by rfl) : PE X (.Call (.Name x np) (e :: es) [] pos) (tMakeV C sp E tf t) := by
  refine ⟨fun pins s σ H Q I h => wpAny_Call_Name_kw (thn (hf.run pins s σ H _ I h) fun u s1 ⟨c, H1, I1, rc, ec, q1⟩ => ?_)⟩
  subst ec
  cases rc
  exact PySem.W.callWith_K (h₀ := X.base) I.ok.mod.kin M.kp (thn (ha.run pos pins s1 σ H1 _ I1 q1) fun us s2 ⟨vs, H2, I2, r, q⟩ => ⟨I2.kIn, StX.run_makeR M F hr hx I2 r q⟩) he hpl
end
/-- an own plain class: its methods ms, its properties ps, its classmethods cs; the names fs are no attributes of the class -/
def ocB (K : PySem.W.Frag) (C : Addr) (ms ps cs fs : List Str) : Bool := plB K C && (ms.all (fun m => smB K C (He.ma K C m) m) && (ps.all (fun m => prB K C (He.ma K C m) (He5.wf K C "property" m) m) && (cs.all (fun m => cmB K C m) && (fs.all (fun m => He.eqO (PySem.W.findIn K (.ref C) m) (some none)) && mkB K C (He.ma K C "__init__")))))
structure OC (K : PySem.W.Frag) (C : Addr) (ms ps cs fs : List Str) : Prop where
  pl : Pl K C
  sm : ∀ m ∈ ms, Sm2 K C m (He.ma K C m)
  pr : ∀ m ∈ ps, PropOf K C m (He.ma K C m) (He5.wf K C "property" m)
  cm : ∀ m ∈ cs, CmF K C m
  no : ∀ m ∈ fs, NoAttr K C m
  mks : Mk K C (He.ma K C "__init__")
theorem ocB_ok {K : PySem.W.Frag} {C : Addr} {ms ps cs fs : List Str} (h : ocB K C ms ps cs fs = true) : OC K C ms ps cs fs := by
  obtain ⟨h1, h⟩ := He.ba h
  obtain ⟨h2, h⟩ := He.ba h
  obtain ⟨h3, h⟩ := He.ba h
  obtain ⟨h4, h⟩ := He.ba h
  obtain ⟨h5, h6⟩ := He.ba h
  exact ⟨plB_ok h1, fun m hm => smB_ok (List.all_eq_true.mp h2 m hm), fun m hm => prB_ok (List.all_eq_true.mp h3 m hm), fun m hm => cmB_ok (List.all_eq_true.mp h4 m hm), fun m hm => He.eqO_ok (List.all_eq_true.mp h5 m hm), mkB_ok h6⟩
/-- the class has object's own way for the method m -/
def obB (K : PySem.W.Frag) (C : Addr) (m : Str) (b : String) : Bool := He.eqO (PySem.W.findIn K (.ref C) m) (some (some (.builtin b)))
/-! ### strategies -/
abbrev aS (K : PySem.W.Frag) : Addr := He.ga K "Strategy"
def plainTs : List String := ["NoneType", "bool", "int", "str", "tuple", "list", "dict"]
def stgB (K : PySem.W.Frag) : Bool := ocB K (aS K) ["__eq__", "__str__"] [] ["month", "read"] ["name", "legs"] && (obB K (aT K) "__format__" "object.__format__" && (obB K (aL K) "__format__" "object.__format__" && (obB K (aS K) "__ne__" "object.__ne__" && (obB K (aS K) "__format__" "object.__format__" &&
  (decide (PySem.W.kitOne K (.ref (aS K)) (.ref (aS K)) = some true) && (decide (PySem.W.kitOne K (.ref (aT K)) (.ref (aS K)) = some false) && (decide (PySem.W.kitOne K (.ref (aS K)) (.ref (aL K)) = some false) && (plainTs.all (fun t => PySem.W.notFirst K (aS K) (.type t)) && (PySem.W.notFirst K (aS K) (.ref (aT K)) && (plainTs.all (fun t => decide (PySem.W.kitOne K (.type t) (.ref (aL K)) = some false)) && plainTs.all (fun t => decide (PySem.W.kitOne K (.type t) (.ref (aS K)) = some false))))))))))))
structure StF (K : PySem.W.Frag) : Prop where
  oc : OC K (aS K) ["__eq__", "__str__"] [] ["month", "read"] ["name", "legs"]
  fT : PySem.W.findIn K (.ref (aT K)) "__format__" = some (some (.builtin "object.__format__"))
  fL : PySem.W.findIn K (.ref (aL K)) "__format__" = some (some (.builtin "object.__format__"))
  ne : PySem.W.findIn K (.ref (aS K)) "__ne__" = some (some (.builtin "object.__ne__"))
  fS : PySem.W.findIn K (.ref (aS K)) "__format__" = some (some (.builtin "object.__format__"))
  kS : PySem.W.kitOne K (.ref (aS K)) (.ref (aS K)) = some true
  kT : PySem.W.kitOne K (.ref (aT K)) (.ref (aS K)) = some false
  kL : PySem.W.kitOne K (.ref (aS K)) (.ref (aL K)) = some false
  nt : ∀ t ∈ plainTs, PySem.W.notFirst K (aS K) (.type t) = true
  nT : PySem.W.notFirst K (aS K) (.ref (aT K)) = true
  pL : ∀ t ∈ plainTs, PySem.W.kitOne K (.type t) (.ref (aL K)) = some false
  pS : ∀ t ∈ plainTs, PySem.W.kitOne K (.type t) (.ref (aS K)) = some false
theorem stgB_ok {K : PySem.W.Frag} (h : stgB K = true) : StF K := by
  obtain ⟨h1, h⟩ := He.ba h
  obtain ⟨h2, h⟩ := He.ba h
  obtain ⟨h3, h⟩ := He.ba h
  obtain ⟨h4, h⟩ := He.ba h
  obtain ⟨h5, h⟩ := He.ba h
  obtain ⟨h6, h⟩ := He.ba h
  obtain ⟨h7, h⟩ := He.ba h
  obtain ⟨h8, h⟩ := He.ba h
  obtain ⟨h9, h⟩ := He.ba h
  obtain ⟨h10, h⟩ := He.ba h
  obtain ⟨h11, h12⟩ := He.ba h
  exact ⟨ocB_ok h1, He.eqO_ok h2, He.eqO_ok h3, He.eqO_ok h4, He.eqO_ok h5, of_decide_eq_true h6, of_decide_eq_true h7, of_decide_eq_true h8, fun t ht => List.all_eq_true.mp h9 t ht, h10, fun t ht => of_decide_eq_true (List.all_eq_true.mp h11 t ht), fun t ht => of_decide_eq_true (List.all_eq_true.mp h12 t ht)⟩
end Xr
set_option maxHeartbeats 4000000
/-! words read behind other words -/
namespace Xr
open PySem PySem.Spec PyProof.Rows L2
theorem word_sh {pre ws : List Str} {a : Nat} {x : Str} (h : wordAt ws a = .ok x) : wordAt (pre ++ ws) (pre.length + a) = .ok x := by
  unfold wordAt at h ⊢
  rw [List.getElem?_append_right (Nat.le_add_right ..), Nat.add_sub_cancel_left]
  cases e : ws[a]? with
  | none => rw [e] at h; cases h
  | some y => rw [e] at h; exact h
theorem sign_sh {pre ws : List Str} {a b : Nat} {f : Bool} {s : Int} (h : signAt ws a f = .ok (s, b)) : signAt (pre ++ ws) (pre.length + a) f = .ok (s, pre.length + b) := by
  unfold signAt at h ⊢
  cases hw : wordAt ws a with
  | error e => rw [hw] at h; cases h
  | ok x =>
    rw [hw] at h
    rw [word_sh hw]
    dsimp only at h ⊢
    by_cases h1 : x = "-"
    · rw [if_pos h1] at h ⊢
      cases h
      rfl
    · rw [if_neg h1] at h ⊢
      by_cases h2 : f = true
      · rw [if_pos h2] at h ⊢
        cases h
        rfl
      · rw [if_neg h2] at h ⊢
        by_cases h3 : x = "+"
        · rw [if_pos h3] at h ⊢
          cases h
          rfl
        · rw [if_neg h3] at h
          cases h
theorem size_sh {pre ws : List Str} {a b : Nat} {n : Int} (h : sizeAt ws a = .ok (n, b)) : sizeAt (pre ++ ws) (pre.length + a) = .ok (n, pre.length + b) := by
  unfold sizeAt at h ⊢
  cases hw : wordAt ws a with
  | error e => rw [hw] at h; cases h
  | ok x =>
    rw [hw] at h
    rw [word_sh hw]
    dsimp only at h ⊢
    cases hn : numIn x with
    | none =>
      rw [hn] at h
      cases h
      rfl
    | some m =>
      rw [hn] at h
      dsimp only at h ⊢
      by_cases h2 : m < 2
      · rw [if_pos h2] at h
        cases h
      · rw [if_neg h2] at h ⊢
        cases h
        rfl
theorem term_sh {pre ws : List Str} {a b : Nat} {acc acc' : Tab} (h : termAt ws a acc = .ok (acc', b)) : termAt (pre ++ ws) (pre.length + a) acc = .ok (acc', pre.length + b) := by
  unfold termAt at h ⊢
  cases h1 : signAt ws a acc.isEmpty with
  | error e => rw [h1] at h; cases h
  | ok q =>
    obtain ⟨s, a1⟩ := q
    rw [h1] at h
    rw [sign_sh h1]
    dsimp only at h ⊢
    cases h2 : sizeAt ws a1 with
    | error e => rw [h2] at h; cases h
    | ok q =>
      obtain ⟨n, a2⟩ := q
      rw [h2] at h
      rw [size_sh h2]
      dsimp only at h ⊢
      cases h3 : wordAt ws a2 with
      | error e => rw [h3] at h; cases h
      | ok m =>
        rw [h3] at h
        rw [word_sh h3]
        dsimp only at h ⊢
        by_cases h4 : nameS m = true ∧ m ∉ ks acc
        · rw [if_pos h4] at h ⊢
          cases h
          rfl
        · rw [if_neg h4] at h
          cases h
theorem from_sh {pre ws : List Str} (j : Nat) : ∀ (f a : Nat) (acc t : Tab), termsFrom ws f a acc = .ok t → termsFrom (pre ++ ws) (f + j) (pre.length + a) acc = .ok t
  | 0, _, _, _, h => by cases h
  | f + 1, a, acc, t, h => by
    rw [show f + 1 + j = (f + j) + 1 by omega]
    unfold termsFrom at h ⊢
    have hl : (pre ++ ws).length = pre.length + ws.length := List.length_append
    by_cases hc : acc.isEmpty = true ∨ a < ws.length
    · rw [if_pos hc] at h
      rw [if_pos (hc.elim .inl fun z => .inr (by omega))]
      cases hta : termAt ws a acc with
      | error e => rw [hta] at h; cases h
      | ok q =>
        obtain ⟨acc', at'⟩ := q
        rw [hta] at h
        rw [term_sh hta]
        exact from_sh j f at' acc' t h
    · rw [if_neg hc] at h
      rw [if_neg (fun z => hc (z.elim .inl fun y => .inr (by omega)))]
      exact h
theorem terms_sh {pre ws : List Str} {a : Nat} {t : Tab} (h : termsIn ws a = .ok t) : termsIn (pre ++ ws) (pre.length + a) = .ok t := by
  unfold termsIn at h ⊢
  rw [List.getElem?_append_right (Nat.le_add_right ..), Nat.add_sub_cancel_left]
  have hl : (pre ++ ws).length = pre.length + ws.length := List.length_append
  by_cases h0 : ws[a]? = some ("0" : Str)
  · rw [if_pos h0] at h ⊢
    by_cases h1 : a + 1 < ws.length
    · rw [if_pos h1] at h
      cases h
    · rw [if_neg h1] at h
      rw [if_neg (by omega)]
      exact h
  · rw [if_neg h0] at h ⊢
    have z := from_sh (pre := pre) pre.length (ws.length + 1) a [] t h
    rw [hl, show pre.length + ws.length + 1 = ws.length + 1 + pre.length by omega]
    exact z
end Xr
set_option maxHeartbeats 4000000
/-! comparisons: a tuple with a text; by an own == within a block -/
namespace Xr
open PySem PySem.Spec PyProof.Rows L2
section
variable {X : Cx}
/-- x == y, scalars, or a tuple and a text -/
def rEqT (K : PySem.W.Frag) : R2 := fun x y H Q => (scal x y = true ∧ Q (.bl (decide (x = y))) H) ∨ ∃ a xs z, x = .ref a ∧ y = .str z ∧ SqT K H a xs ∧ Q (.bl false) H
theorem op_eqT (hu : X.A.units < cLine) : OpR X (compareOp .Eq) (rEqT X.K) := by
  intro pins s σ H x y v u Q I rx ry h
  rcases h with ⟨h1, h2⟩ | ⟨a, xs, z, rfl, rfl, ha, q⟩
  · exact op_eq pins s σ H x y v u Q I rx ry ⟨h1, h2⟩
  · obtain rfl : v = Value.ref a := rx
    obtain ⟨t, rfl⟩ := ry
    obtain ⟨its, _, ht, _⟩ := I.tuple ha
    exact SeqAt.RcAt.tuple_str z t ht hu _ _ _ _ ⟨.bl false, H, I, rfl, q⟩
theorem op_eqOK {CX : CXT} {k : Nat} {f C : Addr} {sp : Sp} {E : XK} (K : PySem.W.Frag) (eK : X.K = K) (h : Sm K C "__eq__" f) (F : FnR X.prog X.w X.K X.mg X.base CX k f sp) (hr : Room k X.A) (hx : Passes CX X E) : OpR X (compareOp .Eq) (rEqO K C sp E) := by
  subst eK
  exact op_eqO h F hr hx
end
end Xr
set_option maxHeartbeats 4000000
/-! super().__init__(e, .., k = v, ..); o.m(k = v); C(e, .., k = v, ..); match of a text -/
namespace Xr
open PySem PySem.Spec PyProof.Rows L2
abbrev supCallK (p0 p1 p2 p4 : Pos) (es : List Expr) (kws : List Keyword) : Expr := .Call (.Attribute (.Call (.Name "super" p0) [] [] p1) "__init__" p2) es kws p4
def SupEvK (p0 p1 p2 p4 : Pos) (es : List Expr) (kws : List Keyword) : Prop := ∀ env : Env, ∃ pl : Sem Bool, eval (supCallK p0 p1 p2 p4 es kws) env = (do
  let ov ← attributeBase (.Call (.Name "super" p0) [] [] p1) "__init__" env (eval (.Call (.Name "super" p0) [] [] p1) env)
  standAt p2.atName
  let (f, first) ← holding [ov] (getMethod ov "__init__" pl)
  callWith p4 f first (backTo p4 (starEach es env)) (backToKw p4 (keywordEach kws env)))
/-- a method's call with keywords, its receiver by attributeBase -/
theorem at_MethodCallK {M : Model} {A : Around} {E : Value → Shared → Prop} {s : Shared} {env : Env} {c : Code} {o : Expr} {name : Str} {apos pos : Pos} {args : List Expr} {kws : List Keyword} {pl : Sem Bool} {Q : Value → Shared → Prop}
    (he : eval (.Call (.Attribute o name apos) args kws pos) env = (do
      let ov ← attributeBase o name env (eval o env)
      standAt apos.atName
      let (f, first) ← holding [ov] (getMethod ov name pl)
      callWith pos f first (backTo pos (starEach args env)) (backToKw pos (keywordEach kws env))))
    (h : PySem.wpAt M A c (attributeBase o name env (eval o env)) (fun ov s1 => wpAny M A (getMethod ov name pl) (fun fx s2 => wpAny M A (callWith pos fx.1 fx.2 (backTo pos (starEach args env)) (backToKw pos (keywordEach kws env))) Q E s2) E s1) E s) :
    PySem.wpAt M A c (eval (.Call (.Attribute o name apos) args kws pos) env) Q E s := by
  rw [he]
  exact PySem.wpAt_bind (PySem.wpAt_mono h (fun ov s1 h1 => PySem.wpAt_of_wpAny (wpAny_bind (wpAny_standAt (wpAny_bind (wpAny_holding (wpAny_mono h1 (fun fx s2 h2 => h2) fun _ _ x => x)))))) fun _ _ x => x)
/-- super().__init__(..) behind its receiver -/
theorem sup_goK {X : Cx} {CX' : CXT} {k n : Nat} {ks : List Str} {σ : L2.St} {H : Hp} {s : Shared} {h1 : Heap} {C g a dx : Addr} {fs : List (Str × V)} {spG : Sp} {E' : XK} {Q : VK} {pl : Sem Bool} {p4 : Pos} {e : Expr} {es : List Expr} {kws : List Keyword} {t tk : TA} (I : Inv X [] σ H s) (ea : H a = some (.ins C dx fs)) (G : FnRK X.prog X.w X.K X.mg X.base CX' k g (n + 1) ks spG) (hr : Room k X.A) (hx : Passes CX' X E')
    (hs1 : h1.get? s.heap.objs.size = some (PySem.W.ks_superObj C a C)) (k1 : ∀ b o, s.heap.get? b = some o → h1.get? b = some o) (hcd : ∃ cd, PySem.W.clsIn X.K C = some cd) (up : PySem.W.ks_superIn X.K C C "__init__" = some (some (.ref g))) (tg : PySem.W.typeIn X.K (.ref g) = some (.type "function"))
    (fg : PySem.W.fnIn X.K g = true) (opq : PySem.W.nsIn X.K cStatics "thirdparty.any" = some none) (ha : PA X (e :: es) t) (hkw : PK X kws tk)
    (hall : (backToKw p4 (keywordEach kws X.env)).all (·.1.isSome) = true) (hks : (backToKw p4 (keywordEach kws X.env)).filterMap (·.1) = ks)
    (hpl : ((backTo p4 (starEach (e :: es) X.env)).any (·.1) || (backToKw p4 (keywordEach kws X.env)).any (·.1.isNone)) = false) (he : starEach (e :: es) X.env = (false, eval e X.env) :: starEach es X.env)
    (h : t σ H fun vs H1 => tk σ H1 fun zs H2 => vs.length = n ∧ zs.length = ks.length ∧ spG ((.ref a :: vs) ++ zs) H2 Q E') :
    wpAny (model X.prog X.w) X.A (getMethod (.ref s.heap.objs.size) "__init__" pl) (fun fx s2 => wpAny (model X.prog X.w) X.A (callWith p4 fx.1 fx.2 (backTo p4 (starEach (e :: es) X.env)) (backToKw p4 (keywordEach kws X.env))) (EP X [] σ Q) X.xe s2) X.xe { s with heap := h1 } := by
  have I1 : Inv X [(s.heap.objs.size, PySem.W.ks_superObj C a C)] σ H { s with heap := h1, toks := s.toks } := ClX.pin_new I k1 (Nat.le_refl _) hs1 (fun v z => nomatch z)
  obtain ⟨cd, hc⟩ := hcd
  have X1 : X.K.In h1 := I1.kIn
  obtain ⟨od0, J0⟩ := inst_of I1 ea
  unfold PySem.W.ks_superIn at up
  rw [hc] at up
  obtain ⟨of, hof, hofc⟩ : ∃ of, h1.get? g = some of ∧ of.cls = .type "function" := by
    have ht' : (X.K.lookup g).map (·.cls) = some (.type "function") := tg
    cases z : X.K.lookup g with
    | none => rw [z] at ht'; cases ht'
    | some of => rw [z] at ht'; exact ⟨of, X1 _ _ z, Option.some.inj ht'⟩
  obtain ⟨hh, gg, d, t', os⟩ := s
  refine PySem.ks_wpAny_getMethod_super hs1 (PySem.W.looks_opaque X1 opq) (l₀ := cd.mro) (fun A Q E s k q => wpAny_bind ((PySem.W.looks_clsIn X1 hc) A _ E s k (wpAny_pure q))) rfl X1 up hof hofc (PySem.W.ks_ne X1 J0 hc) (by decide) ?_
  have I2 : Inv X [(h1.objs.size, PySem.W.methodObj (.ref g) (.ref a)), (hh.objs.size, PySem.W.ks_superObj C a C)] σ H ⟨h1.push (PySem.W.methodObj (.ref g) (.ref a)), gg, d, t' + 1, os⟩ :=
    ClX.pin_new (s := ⟨h1, gg, d, t', os⟩) (t' := t' + 1) I1 (fun _ _ z => Heap.get?_push_of_some _ z) (Nat.le_refl _) (Heap.get?_push_size h1 rfl) (fun v z => nomatch z)
  show wpAny _ _ (callWith p4 (.ref h1.objs.size) [] (backTo p4 (starEach (e :: es) X.env)) (backToKw p4 (keywordEach kws X.env))) _ _ _
  refine PySem.W.callWith_of hpl (PySem.W.keeps_M fg) (evalArgs_kw2 hall (thn (ha.run p4 _ _ σ H _ I2 h) fun us s3 ⟨vs, H1, I3, r, q⟩ => thn (hkw.run p4 _ s3 σ H1 _ I3 q) fun ws s4 ⟨zs, H2, I4, rz, l1, l2, q2⟩ => ⟨⟨ClX.pin_at I4, I4.kIn⟩, ?_⟩) he)
  rw [hks]
  have z : wpAny (model X.prog X.w) X.A (call (.ref h1.objs.size) us (ks.zip ws)) (EP X [(h1.objs.size, PySem.W.methodObj (.ref g) (.ref a)), (hh.objs.size, PySem.W.ks_superObj C a C)] σ Q) X.xe s4 := by
    refine wpAny_call (PySem.W.method_call (ClX.pin_at I4) (codeAny_mono (G X.A X.stack s4 H2 (.ref a :: us) ws (.ref a :: vs) zs Q E' hr I4.env0 (.cons rfl r) rz (by rw [List.length_cons, l1]) l2 q2) fun r s' hq => ?_))
    cases r with
    | error e => exact hx _ σ H2 s4 e s' I4 hq
    | ok fl =>
      cases fl with
      | ret u => exact I4.after hq
      | next => exact False.elim hq
      | brk => exact False.elim hq
      | cont => exact False.elim hq
  exact thn z fun _ _ y => ClX.unpinE (ClX.unpinE y)
section
variable {CX CX' : CXT} {P : Program} {w : World} {K : PySem.W.Frag} {mg : Str → Option Value} {base : Heap} {k n : Nat} {ks : List Str} {f C g : Addr} {q : Str} {params : Arguments} {rest : List Stmt} {sc : Scope} {fd : FuncData} {N ps : List Str} {sp spG : Sp} {cda cc : Addr} {p0 p1 p2 p4 p5 : Pos} {e : Expr} {es : List Expr} {kws : List Keyword}
theorem fn_supN (T : SupF P K C f g q params (.Expr (supCallK p0 p1 p2 p4 (e :: es) kws) p5 :: rest) sc fd cda cc) (S : NdefX.NScope N (("self" : Str) :: ps) ["__class__"] sc) (hks : sc.names.lookup ("super" : Str) = some .globalImplicit) (ha : ∃ ar, (params.posonlyargs ++ params.args).head? = some ar ∧ ar.arg = "self") (ev : SupEvK p0 p1 p2 p4 (e :: es) kws)
    (G : FnRK P w K mg base CX' k g (n + 1) ks spG) (len : ∀ vs H Q E, sp vs H Q E → vs.length = ps.length + 1)
    (hkw1 : ∀ env, (backToKw p4 (keywordEach kws env)).all (·.1.isSome) = true) (hkw2 : ∀ env, (backToKw p4 (keywordEach kws env)).filterMap (·.1) = ks)
    (hkw3 : ∀ env, ((backTo p4 (starEach (e :: es) env)).any (·.1) || (backToKw p4 (keywordEach kws env)).any (·.1.isNone)) = false) (hkw4 : ∀ env, starEach (e :: es) env = (false, eval e env) :: starEach es env)
    (hbody : ∀ (A : Around) (outer : List Env) (s : Shared) (H : Hp) (vs : List V) (Q : VK) (E : XK), Room k (A.deeper (NdefX.envF (supNF q params (.Expr (supCallK p0 p1 p2 p4 (e :: es) kws) p5 :: rest) sc cda cc) f s.heap.objs.size)) → sp vs H Q E →
      ∃ a dx fs ws t tk u E', vs = .ref a :: ws ∧ H a = some (.ins C dx fs) ∧ Passes CX' (NdefX.ncx CX P w K mg base N (supNF q params (.Expr (supCallK p0 p1 p2 p4 (e :: es) kws) p5 :: rest) sc cda cc) f A outer s H E) E' ∧
        PA (NdefX.ncx CX P w K mg base N (supNF q params (.Expr (supCallK p0 p1 p2 p4 (e :: es) kws) p5 :: rest) sc cda cc) f A outer s H E) (e :: es) t ∧
        PK (NdefX.ncx CX P w K mg base N (supNF q params (.Expr (supCallK p0 p1 p2 p4 (e :: es) kws) p5 :: rest) sc cda cc) f A outer s H E) kws tk ∧
        PSs (NdefX.ncx CX P w K mg base N (supNF q params (.Expr (supCallK p0 p1 p2 p4 (e :: es) kws) p5 :: rest) sc cda cc) f A outer s H E) rest u ∧
        t (NdefX.startF N vs [none]) H fun vs' H1 => tk (NdefX.startF N vs [none]) H1 fun zs H2 => vs'.length = n ∧ zs.length = ks.length ∧
          spG ((.ref a :: vs') ++ zs) H2 (fun _ H3 => u { nx := fun _ H' => Q .non H', rt := Q } (NdefX.startF N vs [none]) H3) E') :
    FnOk P w K mg base CX (k + 1) f fd (("self" : Str) :: ps) sp := by
  obtain ⟨kV, doc, pm, an, ct, oc, od, osl, rfl, lk⟩ := T.fn
  obtain ⟨cl, cld, csl, hcell⟩ := T.cell
  obtain ⟨ccl, cdd, vs0, ccs, tf, hcda, hvs⟩ := T.file
  obtain ⟨cd, hcd⟩ := T.cls
  obtain ⟨ar, har, hself⟩ := ha
  refine ⟨len, fun A outer s H args us vs Q E hr e0 hb r hsp => ?_⟩
  have hl := len _ _ _ _ hsp
  have keep0 : ∀ b o, base.get? b = some o → s.heap.get? b = some o := fun b o z => (e0.bs b o z).1
  have KX : K.In s.heap := e0.mod.kin.keeps keep0
  have hloc : ∀ y ∈ (("self" : Str) :: ps).zip us, sc.names.lookup y.1 = some .local := fun y hy => S.par _ (List.of_mem_zip (show (y.1, y.2) ∈ _ from hy)).1
  obtain ⟨a, dx, fs, ws, t, tk, u, E', rfl, ea, hx, hta, htk, hu, hg⟩ := hbody A outer s H vs Q E (hr.deeper _) hsp
  obtain ⟨ua, uw, rfl, ra, rw'⟩ : ∃ ua uw, us = ua :: uw ∧ RelV (.ref a) ua ∧ Vals ws uw := by
    cases r with
    | cons a b => exact ⟨_, _, rfl, a, b⟩
  cases ra
  refine PySem.ks_codeAny_call_defAt (fd := PySem.W.ksFn "__init__" q params (.Expr (supCallK p0 p1 p2 p4 (e :: es) kws) p5 :: rest) sc .none kV doc pm an (.ref cda) ct cc) (body := .Expr (supCallK p0 p1 p2 p4 (e :: es) kws) p5 :: rest) (binds := (("self" : Str) :: ps).zip (Value.ref a :: uw))
    hr.depth (KX _ _ lk) rfl (e0.mod.nolimit.keeps keep0) (PySem.W.codeRec_of KX T.code) rfl hb S.nocell hloc (fun h0 hns k0 => ?_) S.co S.gen S.kind
  show PySem.wpAt _ _ (.func (.Expr (supCallK p0 p1 p2 p4 (e :: es) kws) p5 :: rest) (PySem.W.ksEnv q sc s.heap.objs.size f (.ref cda) cc)) (execs (.Expr (supCallK p0 p1 p2 p4 (e :: es) kws) p5 :: rest) (PySem.W.ksEnv q sc s.heap.objs.size f (.ref cda) cc)) _ _ _
  have ok : ∀ y c, ([("__class__", cc)] : List (Str × Addr)).lookup y = some c → y = "__class__" ∧ c = cc := fun y c e => by
    by_cases hy : y = "__class__"
    · subst hy
      simp [List.lookup] at e
      exact ⟨rfl, e.symm⟩
    · have : (y == ("__class__" : Str)) = false := beq_eq_false_iff_ne.mpr hy
      simp [List.lookup, this] at e
  have cells : NdefX.CellsAt [("__class__", cc)] ["__class__"] [none] s.heap H := by
    refine ⟨rfl, fun y c e => ?_, fun x y c e1 e2 => (ok x c e1).1.trans (ok y c e2).1.symm, fun i y e => ?_⟩
    · rw [(ok y c e).2]
      have z := e0.mod.kin _ _ hcell
      exact ⟨(e0.bs _ _ z).2, _, _, (e0.bs _ _ z).1, rfl⟩
    · cases i with
      | zero =>
        cases e
        exact ⟨cc, by simp [List.lookup], fun v e => by cases e⟩
      | succ i => cases e
  have I0 : Inv (NdefX.ncx CX P w K mg base N (supNF q params (.Expr (supCallK p0 p1 p2 p4 (e :: es) kws) p5 :: rest) sc cda cc) f A outer s H E) [] (NdefX.startF N (.ref a :: ws) [none]) H { s with heap := h0, toks := s.toks + ((("self" : Str) :: ps).zip (Value.ref a :: uw)).length } :=
    NdefX.inv_startN (F := supNF q params (.Expr (supCallK p0 p1 p2 p4 (e :: es) kws) p5 :: rest) sc cda cc) S hr.hd e0 hl (.cons rfl rw') cells hns k0
  have hint : interactive (PySem.W.ksEnv q sc s.heap.objs.size f (.ref cda) cc) = false := by
    unfold interactive
    simp [S.kind]
  obtain ⟨pl, hpl⟩ := ev (PySem.W.ksEnv q sc s.heap.objs.size f (.ref cda) cc)
  obtain ⟨od0, J0⟩ := inst_of I0 ea
  refine ks_wpAt_execs_cons (ks_wpAt_Expr_any (hi := hint) (at_MethodCallK hpl (supRecv (fd := PySem.W.ksFn "__init__" q params (.Expr (supCallK p0 p1 p2 p4 (e :: es) kws) p5 :: rest) sc .none kV doc pm an (.ref cda) ct cc) (ar := ar) S.kind hks (S.frk _ (List.mem_cons_self ..)) har
    (by rw [hself]; exact S.par _ (List.mem_cons_self ..)) e0.mod (fun b o z => k0 b o (keep0 b o z)) hns ?_ J0.at_ J0.cls (fun c z => by cases z) lk hcda hvs hcell hcd T.sub T.sup T.top (fun h1 hs1 k1 => ?_))))
  · have nd : (("self" : Str) :: ps).Nodup := by
      have z := S.nd.sublist (List.take_sublist ((("self" : Str) :: ps).length + (["__class__"] : List Str).length) N)
      rw [S.pre] at z
      exact (List.nodup_append.mp z).1
    rw [hself]
    exact NdefX.zip_look (i := 0) nd rfl rfl
  · have z := sup_goK (p4 := p4) (pl := pl) I0 ea G (hr.deeper _) hx hs1 k1 T.cls T.up T.tg T.fg T.opq hta htk (hkw1 _) (hkw2 _) (hkw3 _) (hkw4 _) hg
    refine wpAny_mono z (fun fx s2 z2 => ?_) fun _ _ z => z
    refine wpAny_mono z2 (fun v s3 z3 => ?_) fun _ _ z => z
    obtain ⟨v', H3, I3, _, q3⟩ := z3
    refine PySem.wpAt_of_wpAny (wpAny_mono (hu.run [] s3 _ H3 _ I3 q3) (fun fl s' hs => ?_) fun e s' hs => hs)
    rcases fl with _ | _ | _ | u'
    · obtain ⟨σ', H', J', q⟩ := hs
      exact ⟨V.non, H', J'.os, J'.bare, J'.base, J'.hok, rfl, q⟩
    · obtain ⟨_, _, _, q⟩ := hs
      exact q.elim
    · obtain ⟨_, _, _, q⟩ := hs
      exact q.elim
    · obtain ⟨v2, σ', H', J', rv, q⟩ := hs
      exact ⟨v2, H', J'.os, J'.bare, J'.base, J'.hok, rv, q⟩
end
/-! ### o.m(k = v) -/
def tMethK (C : Addr) (m : Str) (n : Nat) (sp : Sp) (E : XK) (ta : TE) (tk : TA) : TE := fun σ H Q => ta σ H fun x H1 => ∃ a dx fs, x = .ref a ∧ H1 a = some (.ins C dx fs) ∧ fs.lookup m = none ∧ tk σ H1 fun zs H2 => zs.length = n ∧ sp ([.ref a] ++ zs) H2 Q E
section
variable {X : Cx} {CX : CXT} {k n : Nat} {f C : Addr} {sp : Sp} {E : XK} {o e : Expr} {es : List Expr} {m x : Str} {pos apos p : Pos} {ta : TE} {t tk : TA} {ks : List Str} {kws : List Keyword}
theorem run_fnRK {pins : List (Addr × Obj)} {σ : L2.St} {H : Hp} {s : Shared} {Q : VK} {us ws : List Value} {vs zs : List V} (F : FnRK X.prog X.w X.K X.mg X.base CX k f n ks sp) (hr : Room k X.A) (hx : Passes CX X E) (I : Inv X pins σ H s) (r : Vals vs us) (rz : Vals zs ws) (l1 : vs.length = n) (l2 : zs.length = ks.length) (h : sp (vs ++ zs) H Q E) :
    wpAny (model X.prog X.w) X.A (call (.ref f) us (ks.zip ws)) (EP X pins σ Q) X.xe s := by
  refine wpAny_call (codeAny_mono (F X.A X.stack s H us ws vs zs Q E hr I.env0 r rz l1 l2 h) fun r s' hq => ?_)
  cases r with
  | error e => exact hx pins σ H s e s' I hq
  | ok fl =>
    cases fl with
    | ret u => exact I.after hq
    | next => exact False.elim hq
    | brk => exact False.elim hq
    | cont => exact False.elim hq
theorem pe_methK {pl : Sem Bool} (he : PE X o ta) (c : Cls X.K C) (hm : Meth X.K C m f) (F : FnRK X.prog X.w X.K X.mg X.base CX k f 1 ks sp) (hr : Room k X.A) (hx : Passes CX X E) (hkw : PK X kws tk)
    (hall : (backToKw pos (keywordEach kws X.env)).all (·.1.isSome) = true := by rfl) (hks : (backToKw pos (keywordEach kws X.env)).filterMap (·.1) = ks := by rfl)
    (hpl : ((backTo pos (starEach [] X.env)).any (·.1) || (backToKw pos (keywordEach kws X.env)).any (·.1.isNone)) = false := by rfl)
    (ht : eval (.Call (.Attribute o m apos) [] kws pos) X.env = (do
      let ov ← eval o X.env
      standAt apos.atName
      let (f, first) ← holding [ov] (getMethod ov m pl)
      callWith pos f first (backTo pos (starEach [] X.env)) (backToKw pos (keywordEach kws X.env))) := by rfl) :
    PE X (.Call (.Attribute o m apos) [] kws pos) (tMethK C m ks.length sp E ta tk) := by
  refine ⟨fun pins s σ H Q I h => ?_⟩
  refine PySem.W.methodCall_KW (pl := pl) (thn (he.run pins s σ H _ I h) fun u s1 ⟨x, H1, I1, rx, a, dx, fs, ex, ea, l, q⟩ => ?_) ht
  subst ex
  obtain rfl : u = Value.ref a := rx
  refine getmeth_ok I1 ea c hm l ?_
  refine PySem.W.callWith_KW0 (first := [.ref a]) (h₀ := X.base) I.ok.mod.kin hm.kp hall (thn (hkw.run pos pins s1 σ H1 _ I1 q) fun ws s2 ⟨zs, H2, I2, rz, l2, q2⟩ => ⟨I2.kIn, ?_⟩) hpl
  rw [hks]
  exact run_fnRK (us := [.ref a]) (vs := [.ref a]) F hr hx I2 (.cons rfl .nil) rz rfl l2 q2
end
/-! ### C(e, .., k = v, ..) -/
def tMakeRK (C : Addr) (n m : Nat) (sp : Sp) (E : XK) (t tk : TA) : TE := fun σ H Q => t σ H fun vs H1 => tk σ H1 fun zs H2 => vs.length = n ∧ zs.length = m ∧ ∀ x dx, H2 x = none → H2 dx = none → dx ≠ x →
  sp ((.ref x :: vs) ++ zs) (upd (upd H2 dx (.own x)) x (.ins C dx [])) (fun v H3 => v = .non ∧ Q (.ref x) H3) E
section
variable {X : Cx} {CX : CXT} {k n : Nat} {f C : Addr} {sp : Sp} {E : XK} {o e : Expr} {es : List Expr} {m x : Str} {pos apos p : Pos} {ta : TE} {t tk : TA} {ks : List Str} {kws : List Keyword}
theorem run_makeRK {pins : List (Addr × Obj)} {σ : L2.St} {H : Hp} {s : Shared} {Q : VK} {us ws : List Value} {vs zs : List V} (M : Mk X.K C f) (F : FnRK X.prog X.w X.K X.mg X.base CX k f (n + 1) ks sp) (hr : Room (k + 1) X.A) (hx : Passes CX X E) (I : Inv X pins σ H s) (r : Vals vs us) (rz : Vals zs ws) (l1 : vs.length = n) (l2 : zs.length = ks.length)
    (h : ∀ x dx, H x = none → H dx = none → dx ≠ x → sp ((.ref x :: vs) ++ zs) (upd (upd H dx (.own x)) x (.ins C dx [])) (fun v H2 => v = .non ∧ Q (.ref x) H2) E) :
    wpAny (model X.prog X.w) X.A (call (.ref C) us (ks.zip ws)) (EP X pins σ Q) X.xe s := by
  have hq := h (s.heap.objs.size + 1) s.heap.objs.size (I.hok.fresh (Nat.le_succ _)) (I.hok.fresh (Nat.le_refl _)) (Nat.ne_of_lt (Nat.lt_succ_self _))
  have I2 := Inv.made (C := C) I
  refine wpAny_call (make_map (f := f) I.kIn M.makes M.init (beq_iff_eq.mp M.fn) (codeAny_mono (F _ X.stack _ _ (Value.ref (s.heap.objs.size + 1) :: us) ws (V.ref (s.heap.objs.size + 1) :: vs) zs _ E (hr.make C us (ks.zip ws))
    (I2.env0.make C us (ks.zip ws)) (.cons rfl r) rz (by rw [List.length_cons, l1]) l2 hq) fun r s' hq' => ?_))
  cases r with
  | error e => exact hx pins σ _ _ e s' I2 hq'
  | ok fl =>
    cases fl with
    | ret u =>
      obtain ⟨v, H', I3, rv, ev, q3⟩ := I2.after hq'
      subst ev
      exact ⟨rv, ⟨V.ref (s.heap.objs.size + 1), H', I3, rfl, q3⟩⟩
    | next => exact False.elim hq'
    | brk => exact False.elim hq'
    | cont => exact False.elim hq'
theorem pe_makeRK (M : Mk X.K C f) (F : FnRK X.prog X.w X.K X.mg X.base CX k f (n + 1) ks sp) (hr : Room (k + 1) X.A) (hg : Gl X x) (hm : X.mg x = some (.ref C)) (hx : Passes CX X E) (ha : PA X (e :: es) t) (hkw : PK X kws tk)
    (hall : (backToKw pos (keywordEach kws X.env)).all (·.1.isSome) = true := by rfl) (hks : (backToKw pos (keywordEach kws X.env)).filterMap (·.1) = ks := by rfl) (hdb : (x == ("__debug__" : Str)) = false := by decide)
    (he : starEach (e :: es) X.env = (false, eval e X.env) :: starEach es X.env := by rfl)
    (hpl : ((backTo pos (starEach (e :: es) X.env)).any (·.1) || (backToKw pos (keywordEach kws X.env)).any (·.1.isNone)) = false := by rfl) :
    PE X (.Call (.Name x p) (e :: es) kws pos) (tMakeRK C n ks.length sp E t tk) := by
  refine ⟨fun pins s σ H Q I h => ?_⟩
  refine wpAny_Call_Name_kw (ld_glob I hg hm ?_ hdb)
  refine PySem.W.callWith_KW (h₀ := X.base) I.ok.mod.kin M.kp hall (thn (ha.run pos pins s σ H _ I h) fun us s1 ⟨vs, H1, I1, r, q⟩ => ?_) hpl he
  refine thn (hkw.run pos pins s1 σ H1 _ I1 q) fun ws s2 ⟨zs, H2, I2, rz, l1, l2, q2⟩ => ⟨I2.kIn, ?_⟩
  rw [hks]
  exact run_makeRK M F hr hx I2 r rz l1 l2 q2
end
/-! ### match of a text -/
/-- case "..": suite, one behind another -/
def tCases : List (Str × TS) → Str → TS
  | [], _ => fun D σ H => D.nx σ H
  | (y, t) :: r, x => fun D σ H => if decide (x = y) = true then t D σ H else tCases r x D σ H
def tMatch (te : TE) (cs : List (Str × TS)) : TS := fun D σ H => te σ H fun v H1 => ∃ x, v = .str x ∧ tCases cs x D σ H1
structure PCs (X : Cx) (cases : List MatchCase) (cs : List (Str × TS)) : Prop where
  run : ∀ (first : Bool) (pins : List (Addr × Obj)) (s : Shared) (σ : L2.St) (H : Hp) (D : Ends) (x : Str) (tok : Tok), Inv X pins σ H s → tCases cs x D σ H → wpAny (model X.prog X.w) X.A (matchCases cases X.env (.str x tok) first) (SP X pins D) X.xe s
section
variable {X : Cx} {te : TE} {cs : List (Str × TS)} {t : TS} {cases : List MatchCase} {e : Expr} {body : List Stmt} {y : Str} {pos p1 p2 : Pos}
theorem pcs_nil : PCs X [] [] := ⟨fun first pins s σ H D x tok I h => wpAny_matchCases_nil ⟨σ, H, I, h⟩⟩
theorem pcs_cons {v : Expr} (hv : PE X v (tC (.str y))) (hb : PSs X body t) (hr : PCs X cases cs) : PCs X (⟨.MatchValue v p2, none, body⟩ :: cases) ((y, t) :: cs) := by
  refine ⟨fun first pins s σ H D x tok I h => wpAny_matchCases_cons (wpAny_matchPattern_Value (thn (hv.run pins s σ H (fun v H' => v = .str y ∧ H' = H) I ⟨rfl, rfl⟩) fun u s1 ⟨v, H1, I1, r, e1, e2⟩ => ?_))⟩
  subst e1 e2
  have r' : RelV (.str x) (.str x tok) := ⟨tok, rfl⟩
  refine thn (op_eq pins s1 σ H1 (.str x) (.str y) (.str x tok) u (fun v H' => v = .bl (decide (V.str x = V.str y)) ∧ H' = H1) I1 r' r ⟨rfl, rfl, rfl⟩) fun c s2 ⟨v2, H2, I2, r2, e3, e4⟩ => ?_
  subst e3 e4
  cases r2
  refine wpAny_truthy_bool ?_
  have h' : (if decide (x = y) = true then t D σ H2 else tCases cs x D σ H2) := h
  have ed : decide (V.str x = V.str y) = decide (x = y) := by
    by_cases z : x = y
    · subst z; simp
    · rw [decide_eq_false z, decide_eq_false fun q => z (V.str.inj q)]
  rw [ed]
  cases hd : decide (x = y) with
  | true =>
    rw [hd, if_pos rfl] at h'
    show wpAny _ _ (assignInOrder [] []) _ _ _
    exact assignInOrder_nil (hb.run pins s2 σ H2 D I2 h')
  | false =>
    rw [hd, if_neg Bool.false_ne_true] at h'
    exact hr.run false pins s2 σ H2 D x tok I2 h'
theorem ps_match (he : PE X e te) (hc : PCs X cases cs) : PS X (.Match e cases pos) (tMatch te cs) := by
  refine ⟨fun pins s σ H D I h => wpAny_Match (thn (he.run pins s σ H _ I h) fun u s1 ⟨v, H1, I1, r, x, e1, q⟩ => ?_)⟩
  subst e1
  obtain ⟨tok, rfl⟩ := r
  exact hc.run true pins s1 σ H1 D x tok I1 q
end
end Xr
set_option maxHeartbeats 4000000
/-! == and != where the right side's class lies below the left one's; == and str of instances of any of some classes -/
namespace Xr
open PySem PySem.Spec PyProof.Rows L2
section low
open PySem.W
variable {prog : Program} {w : World} {A : Around} {E : Value → Shared → Prop} {s : Shared} {K : Frag} {x y C D f : Addr} {ox oy : Obj} {od od' : Option Obj}
theorem eq_KR {Q : Value → Shared → Prop} (hu : A.units < cLine) (X : K.In s.heap) (I : InstAt s.heap x ox C od) (J : InstAt s.heap y oy D od') (hne : D ≠ C) (hsub : subIn K (.ref D) (.ref C) = some true)
    (hs : findIn K (.ref D) "__eq__" = some (some (.ref f))) (hf : isFn K (.ref f) = true)
    (h : wpAny (model prog w) A (call (.ref f) [.ref y, .ref x]) (PySem.W.CmpBack Q) E s) : wpAny (model prog w) A (richCompare .Eq (.ref x) (.ref y)) Q E s := by
  have one : wpAny (model prog w) A (tryCompare (.ref y) "__eq__" (.ref x)) (fun r s' => ∃ v, r = some v ∧ Q v s') E s := by
    unfold tryCompare
    refine wpAny_bind (ifBound_K X J hs hf (wpAny_mono h (fun v s' hv => ?_) fun _ _ e => e))
    cases v <;> first | exact hv.elim | exact wpAny_pure ⟨_, rfl, hv⟩
  unfold richCompare
  simp only [oneThing_ref]
  refine wpAny_holding (wpAny_bind (wpAny_cRoomFor hu ?_))
  refine wpAny_bind (I.type.here (wpAny_bind (J.type.here ?_)))
  have q : (Value.ref C != Value.ref D) = true := by
    rw [bne_iff_ne]
    intro z
    cases z
    exact hne rfl
  rw [if_pos q]
  refine wpAny_bind ((looks_subIn X hsub).here ?_)
  simp only [if_true]
  refine wpAny_bind (wpAny_mono one (fun r s' z => ?_) fun _ _ e => e)
  obtain ⟨v, rfl, hq⟩ := z
  exact wpAny_bind (wpAny_rule (wpAny_pure hq))
theorem ne_KR {Q : Value → Shared → Prop} (hu : A.units + 1 < cLine) (X : K.In s.heap) (I : InstAt s.heap x ox C od) (J : InstAt s.heap y oy D od') (hne : D ≠ C) (hsub : subIn K (.ref D) (.ref C) = some true)
    (ho : mroIn K D (.type "object") = some true) (hs : findIn K (.ref D) "__ne__" = some (some (.builtin "object.__ne__"))) (he : findIn K (.ref D) "__eq__" = some (some (.ref f))) (hf : isFn K (.ref f) = true)
    (h : wpAny (model prog w) A.in1 (call (.ref f) [.ref y, .ref x]) (fun v s' => ∃ k, v = .bool k ∧ Q (.bool (!k)) s') E s) : wpAny (model prog w) A (richCompare .NotEq (.ref x) (.ref y)) Q E s := by
  have sub : Looks (model prog w) s.heap (isInstance (.ref y) (.type "object")) true := J.type.andThen (looks_mroIn X ho)
  have one : wpAny (model prog w) A (tryCompare (.ref y) "__ne__" (.ref x)) (fun r s' => ∃ v, r = some v ∧ Q v s') E s := by
    unfold tryCompare
    simp only [callSpecialIfBound?, bindSpecialIfBound?]
    have ob : ∀ self : Value, bindSpecial (.builtin "object.__ne__") self = pure (.builtin "object.__ne__", [self]) := fun self => by kernel_rfl
    have fin : wpAny (model prog w) A (call (.builtin "object.__ne__") ([.ref y] ++ [.ref x]) >>= fun v => pure (some v)) (fun r s' => ∃ k, r = some (.bool k) ∧ Q (.bool k) s') E s := by
      refine wpAny_bind (wpAny_call (codeAny_call_builtin (by decide +kernel) F.cmpEntry_ne (check_slot F.cmpKind_ne F.cmpSplit_ne sub (F.cmpArgs_ne _ _) ?_)))
      unfold Builtin.«object.__ne__»
      refine wpAny_bind (m := slotArgs "__ne__" 1 _) (wpAny_pure ?_)
      refine wpAny_bind (wpAny_cRoomFor hu ?_)
      refine wpAny_bind (m := callSpecialIfBound? (.ref y) (Str.ofString "__eq__") _) (ifBound_K X J he hf (wpAny_mono h (fun r s' hr => ?_) fun _ _ y => y))
      obtain ⟨k, rfl, hq⟩ := hr
      exact wpAny_bind (wpAny_truthy_bool (wpAny_pure (wpAny_pure ⟨!k, rfl, hq⟩)))
    have fin2 := wpAny_mono fin (Q' := fun a s' => wpAny (model prog w) A (match a with
        | some Value.notImplemented => pure none
        | none => pure none
        | some r => pure (some r)) (fun r s' => ∃ v, r = some v ∧ Q v s') E s') (fun r s' hr => by
      obtain ⟨k, rfl, hq⟩ := hr
      exact wpAny_pure ⟨_, rfl, hq⟩) fun _ _ z => z
    refine wpAny_bind (wpAny_holding (wpAny_bind (wpAny_bind (wpAny_bind (J.type.here ((looks_findIn X hs).here ?_))))))
    refine wpAny_bind (wpAny_askSetting (wpAny_ite ?_))
    split
    · rw [ob]
      exact wpAny_bind (wpAny_pure (wpAny_pure (by exact fin2)))
    · rw [ob]
      exact wpAny_tryCatch (wpAny_bind (wpAny_pure (wpAny_pure (by exact fin2))))
  unfold richCompare
  simp only [oneThing_ref]
  refine wpAny_holding (wpAny_bind (wpAny_cRoomFor (Nat.lt_of_succ_lt hu) ?_))
  rw [cmpInfo_NotEq]
  dsimp only
  refine wpAny_bind (I.type.here (wpAny_bind (J.type.here ?_)))
  have q : (Value.ref C != Value.ref D) = true := by
    rw [bne_iff_ne]
    intro z
    cases z
    exact hne rfl
  rw [if_pos q]
  refine wpAny_bind ((looks_subIn X hsub).here ?_)
  simp only [if_true]
  refine wpAny_bind (wpAny_mono one (fun r s' z => ?_) fun _ _ e => e)
  obtain ⟨v, rfl, hq⟩ := z
  exact wpAny_bind (wpAny_rule (wpAny_pure hq))
end low
/-- x == y by the own == at f, whichever of the classes that have it; the right side first where its class lies below -/
def rEqOX (K : PySem.W.Frag) (f : Addr) (sp : Sp) (E : XK) : R2 := fun x y H Q => ∃ a C dx fs, x = .ref a ∧ H a = some (.ins C dx fs) ∧ Sm K C "__eq__" f ∧
  ((∃ t, TyX K H y t ∧ PySem.W.notFirst K C t = true ∧ sp [x, y] H Q E) ∨ ∃ b D dy gs, y = .ref b ∧ H b = some (.ins D dy gs) ∧ D ≠ C ∧ PySem.W.subIn K (.ref D) (.ref C) = some true ∧ Sm K D "__eq__" f ∧ sp [y, x] H Q E)
def rNeOX (K : PySem.W.Frag) (f : Addr) (sp : Sp) (E : XK) : R2 := fun x y H Q => ∃ a C dx fs, x = .ref a ∧ H a = some (.ins C dx fs) ∧ Sm K C "__eq__" f ∧ PySem.W.findIn K (.ref C) "__ne__" = some (some (.builtin "object.__ne__")) ∧ PySem.W.mroIn K C (.type "object") = some true ∧
  ((∃ t, TyX K H y t ∧ PySem.W.notFirst K C t = true ∧ sp [x, y] H (fun v H' => ∃ k, v = .bl k ∧ Q (.bl (!k)) H') E) ∨
    ∃ b D dy gs, y = .ref b ∧ H b = some (.ins D dy gs) ∧ D ≠ C ∧ PySem.W.subIn K (.ref D) (.ref C) = some true ∧ Sm K D "__eq__" f ∧ PySem.W.findIn K (.ref D) "__ne__" = some (some (.builtin "object.__ne__")) ∧ PySem.W.mroIn K D (.type "object") = some true ∧ sp [y, x] H (fun v H' => ∃ k, v = .bl k ∧ Q (.bl (!k)) H') E)
section
variable {X : Cx} {CX : CXT} {k k2 : Nat} {f f2 : Addr} {sp sp2 : Sp} {E : XK}
theorem op_eqOX (F : FnR X.prog X.w X.K X.mg X.base CX k f sp) (hr : Room k X.A) (hx : Passes CX X E) : OpR X (compareOp .Eq) (rEqOX X.K f sp E) := by
  intro pins s σ H x y v u Q I rx ry q
  obtain ⟨a, C, dx, fs, rfl, ha, h, ⟨t, ht, hn, q⟩ | ⟨b, D, dy, gs, rfl, hb, hne, hsub, h2, q⟩⟩ := q
  · exact op_eqO h F hr hx pins s σ H _ y v u Q I rx ry ⟨a, dx, fs, t, rfl, ha, ht, hn, q⟩
  · cases rx
    cases ry
    obtain ⟨od, J⟩ := inst_of I ha
    obtain ⟨od', J'⟩ := inst_of I hb
    exact eq_KR hr.units0 I.kIn J J' hne hsub h2.at_ h2.fn (wpAny_mono (run_in (us := [.ref b, .ref a]) (vs := [.ref b, .ref a]) F hr rfl hx I (.cons rfl (.cons rfl .nil)) q) (fun _ _ z => back_of z) fun _ _ z => z)
theorem op_neOX (F : FnR X.prog X.w X.K X.mg X.base CX k f sp) (hr : Room (k + 1) X.A) (hx : Passes CX X E) : OpR X (compareOp .NotEq) (rNeOX X.K f sp E) := by
  intro pins s σ H x y v u Q I rx ry q
  obtain ⟨a, C, dx, fs, rfl, ha, h, hne1, ho1, ⟨t, ht, hn, q⟩ | ⟨b, D, dy, gs, rfl, hb, hne, hsub, h2, hne2, ho2, q⟩⟩ := q
  · exact op_neO h hne1 ho1 F hr hx pins s σ H _ y v u Q I rx ry ⟨a, dx, fs, t, rfl, ha, ht, hn, q⟩
  · cases rx
    cases ry
    obtain ⟨od, J⟩ := inst_of I ha
    obtain ⟨od', J'⟩ := inst_of I hb
    refine ne_KR (by have := hr.units; omega) I.kIn J J' hne hsub ho2 hne2 h2.at_ h2.fn (wpAny_mono (run_in (us := [.ref b, .ref a]) (vs := [.ref b, .ref a]) F hr.in1 rfl hx I (.cons rfl (.cons rfl .nil)) q) (fun w s' z => ?_) fun _ _ z => z)
    obtain ⟨v', H', I', r', kk, rfl, q'⟩ := z
    cases r'
    exact ⟨kk, rfl, .bl (!kk), H', I', rfl, q'⟩
/-- str of an instance whose __str__ is the def at f or the one at f2 -/
def rStrOX (K : PySem.W.Frag) (f f2 : Addr) (sp sp2 : Sp) (E : XK) : List V → Hp → VK → Prop := fun xs H Q => (∃ C, Sm K C "__str__" f ∧ rStrO C sp E xs H Q) ∨ ∃ C, Sm K C "__str__" f2 ∧ rStrO C sp2 E xs H Q
theorem call_strOX (F : FnR X.prog X.w X.K X.mg X.base CX k f sp) (F2 : FnR X.prog X.w X.K X.mg X.base CX k f2 sp2) (hr : Room (k + 2) X.A) (hx : Passes CX X E) : CallR X (.type "str") (rStrOX X.K f f2 sp sp2 E) := by
  intro pins s σ H xs us Q I r q
  rcases q with ⟨C, h, q⟩ | ⟨C, h, q⟩
  · exact call_strO h F hr hx pins s σ H xs us Q I r q
  · exact call_strO h F2 hr hx pins s σ H xs us Q I r q
end
/-! ### a written tuple of texts; in -/
theorem sqT_K {K : PySem.W.Frag} {H : Hp} {a : Addr} {o : Obj} {its : Array Value} {n : Nat} {xs : List V} (h : K.lookup a = some o) (h1 : o.cls = .type "tuple") (h2 : o.data = .seq its n) (h3 : its.size ≤ sizeLine) (r : Vals xs its.toList) : SqT K H a xs := .inr ⟨o, its, n, h, h1, h2, h3, r⟩
/-- the global x is a tuple of the texts zs -/
def tupB (K : PySem.W.Frag) (x : Str) (zs : List Str) : Bool := He.eqO (PySem.W.nsIn K mainGlobals x) (some (some (.ref (He.ga K x)))) && (match K.lookup (He.ga K x) with
  | some ⟨.type "tuple", _, .seq its _, _⟩ => decide (its.size ≤ sizeLine) && decide (its.toList.map (fun v => match v with | .str z _ => some z | _ => none) = zs.map some)
  | _ => false)
structure TupF (K : PySem.W.Frag) (x : Str) (zs : List Str) : Prop where
  at_ : ∀ H : Hp, SqT K H (He.ga K x) (zs.map V.str)
theorem vals_strs : ∀ {l : List Value} {zs : List Str}, l.map (fun v => match v with | Value.str z _ => some z | _ => none) = zs.map some → Vals (zs.map V.str) l
  | [], [], _ => .nil
  | [], _ :: _, h => by cases h
  | _ :: _, [], h => by cases h
  | v :: l, z :: zs, h => by
    rw [List.map_cons, List.map_cons, List.cons.injEq] at h
    obtain ⟨h1, h2⟩ := h
    cases v with
    | str y t =>
      cases h1
      exact .cons ⟨t, rfl⟩ (vals_strs h2)
    | _ => cases h1
theorem tupB_ok {K : PySem.W.Frag} {x : Str} {zs : List Str} (h : tupB K x zs = true) : TupF K x zs := by
  obtain ⟨_, h⟩ := He.ba h
  split at h
  · rename_i od its n sl e
    obtain ⟨h1, h2⟩ := He.ba h
    exact ⟨fun H => sqT_K e rfl rfl (of_decide_eq_true h1) (vals_strs (of_decide_eq_true h2))⟩
  · cases h
/-! ### orders -/
abbrev aO (K : PySem.W.Frag) : Addr := He.ga K "Order"
abbrev aN (K : PySem.W.Frag) : Addr := He.ga K "NowOrder"
abbrev aA (K : PySem.W.Frag) : Addr := He.ga K "AllOrder"
abbrev aV (K : PySem.W.Frag) : Addr := He.ga K "VeiledOrder"
def ordPs : List Str := ["side", "limit", "lots", "owner", "visible", "sign"]
def ordMs : List Str := ["__eq__", "with_lots", "with_limit"]
def conB (K : PySem.W.Frag) (C : Addr) (f z : Str) : Bool := (match PySem.W.findIn K (.ref C) f with
  | some (some (.str y t)) => decide (y = z) && He.eqO (PySem.W.specialIn K (.str y t) "__get__") (some none)
  | _ => false) && !PySem.W.copiedNames.contains f
theorem conB_ok {K : PySem.W.Frag} {C : Addr} {f z : Str} (h : conB K C f z = true) : ∃ u, Con K C f (.str z) u := by
  obtain ⟨h1, h2⟩ := He.ba h
  split at h1
  · rename_i y t e
    obtain ⟨h3, h4⟩ := He.ba h1
    cases of_decide_eq_true h3
    exact ⟨_, e, ⟨t, rfl⟩, He.eqO_ok h4, by simpa using h2⟩
  · cases h1
/-- C.f by the class itself -/
def cvB (K : PySem.W.Frag) (C : Addr) (f z : Str) : Bool := PySem.W.readsIn K C (.type "type") && (He.eqO (PySem.W.specialIn K (.ref C) "__getattribute__") (some (some (.builtin "type.__getattribute__"))) && (match PySem.W.findCls K (.ref C) (.type "type") f with
  | some (.val (.str y _)) => decide (y = z)
  | _ => false))
theorem cvB_ok {K : PySem.W.Frag} {C : Addr} {f z : Str} (h : cvB K C f z = true) : ClX.CRead K C (.type "type") ∧ ∃ u, ClX.CVal K C (.type "type") f (.str z) u := by
  obtain ⟨h1, h⟩ := He.ba h
  obtain ⟨h2, h⟩ := He.ba h
  refine ⟨⟨h1, He.eqO_ok h2⟩, ?_⟩
  split at h
  · rename_i y t e
    cases of_decide_eq_true h
    exact ⟨_, e, t, rfl⟩
  · cases h
/-- one of the classes of orders: its word, its head in texts, its __str__ at fs -/
def oCB (K : PySem.W.Frag) (C fs : Addr) (kind hd : Str) : Bool := plB K C && (ordPs.all (fun m => prB K C (He.ma K (aO K) m) (He5.wf K (aO K) "property" m) m) && (ordMs.all (fun m => smB K C (He.ma K (aO K) m) m) && (smB K C fs "__str__" && ((["name", "told"] : List Str).all (fun m => He.eqO (PySem.W.findIn K (.ref C) m) (some none)) &&
  (conB K C "KIND" kind && (conB K C "HEAD" hd && (cvB K C "KIND" kind && (obB K C "__ne__" "object.__ne__" && (mkB K C (He.ma K C "__init__") && (decide (PySem.W.kitOne K (.ref C) (.ref (aO K)) = some true) && plainTs.all (fun t => PySem.W.notFirst K C (.type t))))))))))))
structure OCl (K : PySem.W.Frag) (C fs : Addr) (kind hd : Str) : Prop where
  pl : Pl K C
  pr : ∀ m ∈ ordPs, PropOf K C m (He.ma K (aO K) m) (He5.wf K (aO K) "property" m)
  sm : ∀ m ∈ ordMs, Sm2 K C m (He.ma K (aO K) m)
  st : Sm2 K C "__str__" fs
  no : ∀ m ∈ (["name", "told"] : List Str), NoAttr K C m
  kd : ∃ u, Con K C "KIND" (.str kind) u
  hd_ : ∃ u, Con K C "HEAD" (.str hd) u
  cv : ClX.CRead K C (.type "type") ∧ ∃ u, ClX.CVal K C (.type "type") "KIND" (.str kind) u
  ne : PySem.W.findIn K (.ref C) "__ne__" = some (some (.builtin "object.__ne__"))
  mks : Mk K C (He.ma K C "__init__")
  ko : PySem.W.kitOne K (.ref C) (.ref (aO K)) = some true
  nt : ∀ t ∈ plainTs, PySem.W.notFirst K C (.type t) = true
theorem oCB_ok {K : PySem.W.Frag} {C fs : Addr} {kind hd : Str} (h : oCB K C fs kind hd = true) : OCl K C fs kind hd := by
  obtain ⟨h1, h⟩ := He.ba h
  obtain ⟨h2, h⟩ := He.ba h
  obtain ⟨h3, h⟩ := He.ba h
  obtain ⟨h4, h⟩ := He.ba h
  obtain ⟨h5, h⟩ := He.ba h
  obtain ⟨h6, h⟩ := He.ba h
  obtain ⟨h7, h⟩ := He.ba h
  obtain ⟨h8, h⟩ := He.ba h
  obtain ⟨h9, h⟩ := He.ba h
  obtain ⟨h10, h⟩ := He.ba h
  obtain ⟨h11, h12⟩ := He.ba h
  exact ⟨plB_ok h1, fun m hm => prB_ok (List.all_eq_true.mp h2 m hm), fun m hm => smB_ok (List.all_eq_true.mp h3 m hm), smB_ok h4, fun m hm => He.eqO_ok (List.all_eq_true.mp h5 m hm), conB_ok h6, conB_ok h7, cvB_ok h8, He.eqO_ok h9, mkB_ok h10, of_decide_eq_true h11, fun t ht => List.all_eq_true.mp h12 t ht⟩
/-- the keyword-only defaults of the def at f -/
def kwF (K : PySem.W.Frag) (f : Addr) (kws : List (Str × V)) : Bool := match K.lookup f with
  | some ⟨_, _, .func fd, _⟩ => He.kwdB K fd.kwdefaults kws
  | _ => false
theorem sup_kw {P : Program} {K : PySem.W.Frag} {C f g : Addr} {q : Str} {params : Arguments} {body : List Stmt} {sc : Scope} {fd : FuncData} {cda cc : Addr} {kws : List (Str × V)} (T : SupF P K C f g q params body sc fd cda cc) (h : kwF K f kws = true) : KwdV K fd.kwdefaults kws := by
  obtain ⟨kV, doc, pm, an, ct, oc, od, osl, rfl, lk⟩ := T.fn
  unfold kwF at h
  rw [lk] at h
  exact He.kwdB_ok h
def nobK : List (Str × V) := [("owner", .str "nobody")]
def clsO (K : PySem.W.Frag) : List Addr := [aO K, aN K, aA K, aV K]
/-- which class of orders lies below which -/
def belowB (K : PySem.W.Frag) (i j : Nat) : Bool := i == j || j == 0
def relO (K : PySem.W.Frag) : Bool := (List.range 4).all fun i => (List.range 4).all fun j =>
  decide (PySem.W.kitOne K (.ref ((clsO K).getD i 0)) (.ref ((clsO K).getD j 0)) = some (belowB K i j)) && (if i ≠ j ∧ j = 0 then decide (PySem.W.subIn K (.ref ((clsO K).getD i 0)) (.ref ((clsO K).getD j 0)) = some true) && decide ((clsO K).getD i 0 ≠ (clsO K).getD j 0) else PySem.W.notFirst K ((clsO K).getD j 0) (.ref ((clsO K).getD i 0)))
def ordB (file : Str) (K : PySem.W.Frag) : Bool := oCB K (aO K) (He.ma K (aO K) "__str__") "limit" "" && (oCB K (aN K) (He.ma K (aO K) "__str__") "now" "now " && (oCB K (aA K) (He.ma K (aO K) "__str__") "all" "all " && (oCB K (aV K) (He.ma K (aV K) "__str__") "veiled" "" &&
  (prB K (aV K) (He.ma K (aV K) "shown") (He5.wf K (aV K) "property" "shown") "shown" && (supB file K (aN K) (He.ma K (aO K) "__init__") && (supB file K (aA K) (He.ma K (aO K) "__init__") && (supB file K (aV K) (He.ma K (aO K) "__init__") &&
  (kwF K (He.ma K (aN K) "__init__") nobK && (kwF K (He.ma K (aA K) "__init__") nobK && (kwF K (He.ma K (aV K) "__init__") nobK && (tupB K "SIDES" ["buy", "sell"] && (relO K && plainTs.all (fun t => decide (PySem.W.kitOne K (.type t) (.ref (aO K)) = some false))))))))))))))
structure OrdF (P : Program) (K : PySem.W.Frag) (qN qA qV : Str) (pN pA pV : Arguments) (bN bA bV : List Stmt) (sN sA sV : Scope) : Prop where
  o : OCl K (aO K) (He.ma K (aO K) "__str__") "limit" ""
  n : OCl K (aN K) (He.ma K (aO K) "__str__") "now" "now "
  a : OCl K (aA K) (He.ma K (aO K) "__str__") "all" "all "
  v : OCl K (aV K) (He.ma K (aV K) "__str__") "veiled" ""
  sh : PropOf K (aV K) "shown" (He.ma K (aV K) "shown") (He5.wf K (aV K) "property" "shown")
  supN : ∃ fd cda cc, SupF P K (aN K) (He.ma K (aN K) "__init__") (He.ma K (aO K) "__init__") qN pN bN sN fd cda cc ∧ KwdV K fd.kwdefaults nobK
  supA : ∃ fd cda cc, SupF P K (aA K) (He.ma K (aA K) "__init__") (He.ma K (aO K) "__init__") qA pA bA sA fd cda cc ∧ KwdV K fd.kwdefaults nobK
  supV : ∃ fd cda cc, SupF P K (aV K) (He.ma K (aV K) "__init__") (He.ma K (aO K) "__init__") qV pV bV sV fd cda cc ∧ KwdV K fd.kwdefaults nobK
  sides : TupF K "SIDES" ["buy", "sell"]
  rel : relO K = true
  po : ∀ t ∈ plainTs, PySem.W.kitOne K (.type t) (.ref (aO K)) = some false
abbrev FnI (q : Str) (params : Arguments) (body : List Stmt) (sc : Scope) : FnC := some ("__init__", q, params, .stmts body, sc, mainGlobals, ["__class__"], builtinsNs)
theorem ordB_ok {P : Program} {K : PySem.W.Frag} {qN qA qV : Str} {pN pA pV : Arguments} {bN bA bV : List Stmt} {sN sA sV : Scope} (h : ordB P.main.file K = true) (ha : AllF K)
    (hN : fnC K ("NowOrder", some "__init__") = FnI qN pN bN sN) (hA : fnC K ("AllOrder", some "__init__") = FnI qA pA bA sA) (hV : fnC K ("VeiledOrder", some "__init__") = FnI qV pV bV sV)
    (htop : (P.main.scope.names.lookup ("super" : Str)).isSome = false) : OrdF P K qN qA qV pN pA pV bN bA bV sN sA sV := by
  obtain ⟨h1, h⟩ := He.ba h
  obtain ⟨h2, h⟩ := He.ba h
  obtain ⟨h3, h⟩ := He.ba h
  obtain ⟨h4, h⟩ := He.ba h
  obtain ⟨h5, h⟩ := He.ba h
  obtain ⟨h6, h⟩ := He.ba h
  obtain ⟨h7, h⟩ := He.ba h
  obtain ⟨h8, h⟩ := He.ba h
  obtain ⟨h9, h⟩ := He.ba h
  obtain ⟨h10, h⟩ := He.ba h
  obtain ⟨h11, h⟩ := He.ba h
  obtain ⟨h12, h⟩ := He.ba h
  obtain ⟨h13, h14⟩ := He.ba h
  obtain ⟨fN, cN, eN, SN⟩ := sup_ok h6 ha hN htop
  obtain ⟨fA, cA, eA, SA⟩ := sup_ok h7 ha hA htop
  obtain ⟨fV, cV, eV, SV⟩ := sup_ok h8 ha hV htop
  exact ⟨oCB_ok h1, oCB_ok h2, oCB_ok h3, oCB_ok h4, prB_ok h5, ⟨fN, cN, eN, SN, sup_kw SN h9⟩, ⟨fA, cA, eA, SA, sup_kw SA h10⟩, ⟨fV, cV, eV, SV, sup_kw SV h11⟩, tupB_ok h12, h13, fun t ht => of_decide_eq_true (List.all_eq_true.mp h14 t ht)⟩
end Xr
set_option maxHeartbeats 4000000
/-! rules with the written part named, for blocks -/
namespace Xr
open PySem PySem.Spec PyProof.Rows L2
theorem pe_bmK {X : Cx} (K : PySem.W.Frag) (hK : X.K = K) {T : String} {name : Str} {id : String} {r : V → List V → Hp → VK → Prop} {o e : Expr} {es : List Expr} {to : TE} {t : TA} {apos cpos : Pos} (pa : PlainAttrs T) (slot : Slot T name id) (hty : typeOf (.builtin id) = pure (.type "method_descriptor")) (hm : MtR X id r) (ho : PE X o to) (ha : PA X (e :: es) t)
    (hbase : attributeBase o name X.env (eval o X.env) = eval o X.env := by rfl)
    (hfew : ((backTo cpos (starEach (e :: es) X.env)).all (fun x => !x.1) && (backToKw cpos (keywordEach [] X.env)).all (fun x => x.1.isSome)
      && decide ((e :: es).length + ([] : List Keyword).length + (if ([] : List Keyword).isEmpty then 0 else 1) < 30)) = true := by rfl)
    (hline : (apos.endLine == cpos.line) = true := by rfl) (hs : starEach (e :: es) X.env = (false, eval e X.env) :: starEach es X.env := by rfl) (hplain : (backTo cpos (starEach es X.env)).any (·.1) = false := by rfl) :
    PE X (.Call (.Attribute o name apos) (e :: es) [] cpos) (tBM K T r to t) := by
  subst hK
  exact pe_bm pa slot hty hm ho ha hbase hfew hline hs hplain
theorem call_len_seqK {X : Cx} (K : PySem.W.Frag) (hK : X.K = K) : CallR X (.builtin "len") (fun xs H Q => ∃ a ys, xs = [.ref a] ∧ (SqL K H a ys ∨ SqT K H a ys) ∧ Q (.int (ys.length : Nat)) H) := by
  subst hK
  exact call_len_seq
end Xr
set_option maxHeartbeats 4000000
/-! except C as n: the error is kept (one class) -/
namespace Xr
open PySem PySem.Spec PyProof.Rows L2
/-- except c1 as n: suite, one class: behind it the exception is known -/
def wAsK1 (K : PySem.W.Frag) (c1 : Value) (i : Nat) (ts : Addr → Value → Option Addr → TS) (Wout : WX) (D : Ends) : WX := fun cls d σ H =>
  ∃ b, PySem.W.exmOne K cls c1 = some b ∧ (b = true → ∀ a, H a = none → ts a cls d { nx := fun σ' H' => H' a = none → D.nx (σ'.set i none) (upd H' a (exr a cls d)), rt := D.rt, bk := fun σ' H' => D.bk (σ'.set i none) H', ct := fun σ' H' => D.ct (σ'.set i none) H' } (σ.set i (some (.ref a))) H) ∧
    (b = false → Wout cls d σ H)
section
variable {X : Cx} {x1 n : Str} {c1 : Value} {i : Nat} {body suite : List Stmt} {b₀ : Stmt} {np1 pos pos' : Pos} {tb : WX → TS} {ts : Addr → Value → Option Addr → TS} {Wout : WX}
theorem ps_try_keep1 (hst : X.stack = X.env :: X.outer) (hfm : X.env.frame = some X.env.locals) (hex : X.ex = []) (hN : X.N.Nodup) (hi : X.N[i]? = some n) (hln : X.env.kindOf n = some .local) (hc1 : Names X x1 c1) (tk : Takes X Wout)
    (hbd : ∀ (W : WX) (pn : List (Addr × Obj)) (xe : Value → Shared → Prop), Takes (X.tr pn xe) W → PassesOwn (model X.prog X.w) X.A X.env xe → PSs (X.tr pn xe) body (tb W))
    (hsu : ∀ (a : Addr) (oe : Obj) (cls : Value) (d : Option Addr) (pn : List (Addr × Obj)), Zc cls d oe → (∃ vs, oe.data = .fields vs) → PSs (X.suite a ((a, oe) :: pn)) (b₀ :: suite) (ts a cls d)) :
    PS X (.Try body [.ExceptHandler (some (.Name x1 np1)) (some n) (b₀ :: suite) pos'] [] [] pos) (fun D σ H => tb (wAsK1 X.K c1 i ts Wout D) D σ H) := by
  refine ⟨fun pins s σ H D I0 rd => ?_⟩
  have okX := I0.ok
  have frm : X.A.frames = some (X.env :: X.outer) := okX.frames.trans (congrArg some hst)
  refine wpAny_Try_except (wpAny_mono ((hbd (wAsK1 X.K c1 i ts Wout D) (X.pn ++ pins) (fun e sa => wpAny (model X.prog X.w) X.A (noteFrame e X.env) (fun _ sb => wpAny (model X.prog X.w) X.A (setFlight e none) (fun _ sc =>
    wpAny (model X.prog X.w) X.A (handleBy e X.env [.ExceptHandler (some (.Name x1 np1)) (some n) (b₀ :: suite) pos']) (SP X pins D) X.xe sc) X.xe sb) X.xe sa) (fun u s' xx => ?_) PassesOwn.looking).run [] s σ H D (I0.toTry _) rd) (fun f s1 hsp => ?_) fun _ _ he => he)
  · obtain ⟨a, B, sI, pins', σ', H', cls, d, rfl, J', nb, up, sky, na, os, ag, b, hb1, hyes, hno⟩ := xx
    have J : Inv X pins σ' H' sI := J'.ofTry okX
    show wpAny (model X.prog X.w) X.A (noteFrame (.ref a) X.env) _ _ _
    refine Sky.land Zc.steady frm hfm (hst ▸ sky) fun g3 fy3 u3 => ?_
    obtain ⟨e3, v3, at3, zc3, dt3⟩ := fy3.there
    have nfr : a ∉ frs (X.env :: X.outer) := fun hm => by
      obtain ⟨_, o', q, hnf⟩ := fy3.2.2.1.mem hm
      rw [at3] at q
      cases q
      exact hnf _ dt3
    have nL : a ≠ X.env.locals := fun z => nfr (List.mem_filterMap.mpr ⟨X.env, List.mem_cons_self, hfm.trans (congrArg some z.symm)⟩)
    have nF : a ∉ X.fs := fun hm => by
      obtain ⟨e, he, q⟩ := List.mem_filterMap.mp hm
      exact nfr (List.mem_filterMap.mpr ⟨e, List.mem_cons_of_mem _ he, q⟩)
    have nA : sI.heap.get? a = none := by
      cases q : sI.heap.get? a with
      | none => rfl
      | some o =>
        have z := nb a o q (hst ▸ nfr)
        rw [fy3.2.1] at z
        cases z
    have n0 : X.s_0.heap.get? a = none := by
      cases q : X.s_0.heap.get? a with
      | none => rfl
      | some o =>
        obtain ⟨o', z⟩ := J.base.there a o q (by rw [hex]; simp)
        rw [nA] at z
        cases z
    have J3 : Inv X pins σ' H' { s' with heap := g3 } := J.landed nb fy3.1 (up.trans u3) os ag
    have S3 := J3.suite at3 dt3 na nL nF
    refine wpAny_handleBy_cons (codeAny_handlers_test ?_) (by intro q; cases q)
    have nameOf : ∀ {x : Str} {c : Value} {np : Pos} {Q : Value → Shared → Prop} {E : Value → Shared → Prop}, Names X x c → Q c { s' with heap := g3 } → wpAny (model X.prog X.w) (X.A.mark (some (.ref a))) (eval (.Name x np) X.env) Q E { s' with heap := g3 } := fun {x c np Q E} hc q => by
      obtain ⟨hg, hdbg, hm | ⟨hm, hv, hnn⟩⟩ := hc
      · exact ld_glob (X := X.suite a ((a, e3) :: (X.pn ++ pins))) S3 hg hm q hdbg
      · exact ld_blt (X := X.suite a ((a, e3) :: (X.pn ++ pins))) S3 hg hm hv q hnn hdbg
    refine nameOf hc1 ?_
    have LT : PySem.W.Looks (model X.prog X.w) g3 (typeOf (.ref a)) cls := fun A Q E s k q => wpAny_typeOf_ref (k _ _ at3) (by rw [zc3.1]; exact q)
    refine (PySem.W.exm_one (M := model X.prog X.w) J3.kIn LT hb1).here ?_
    cases b with
    | true =>
      refine codeAny_handlers_suite_as (HandSPX.lands_againZ fy3 fun g4 fy4 u4 => ?_)
      have J4 : Inv X pins σ' H' { s' with heap := g4 } := J.landed nb fy4.1 ((up.trans u3).trans u4) os ag
      obtain ⟨e4, v4, at4, zc4, dt4⟩ := fy4.there
      refine store_ok (X := X.suite a ((a, e4) :: (X.pn ++ pins))) (v := .ref a) (J4.suite at4 dt4 na nL nF) hN hi (.inl hln) rfl (fun s5 S5 => ?_) (.inr hln)
      refine wpAny_mono ((hsu a e4 cls d (X.pn ++ pins) zc4 ⟨_, dt4⟩).run [] s5 _ H' _ S5 (hyes rfl a na)) (fun f s6 hsp => ?_) fun _ _ z => False.elim z
      have leave : ∀ {σ6 : L2.St} {H6 : Hp} {Q : Shared → Prop}, Inv (X.suite a ((a, e4) :: (X.pn ++ pins))) [] σ6 H6 s6 → (∀ s7, Inv X pins (σ6.set i none) H6 s7 → Q s7) → wpAny (model X.prog X.w) X.A (do bindName X.env n .none; unbindBehindTheSuite X.env n pos') (fun _ s7 => Q s7) X.xe s6 :=
        fun S6 hq => gone_ok (S6.unsuite okX) hN hi hln hq
      cases f with
      | next =>
        obtain ⟨σ6, H6, S6, q6⟩ := hsp
        have S6' : Inv X ((a, e4) :: pins) σ6 H6 s6 := ⟨okX, S6.os, S6.bare, S6.base, S6.loc, S6.cell, S6.free, S6.freeC, fun p hp => S6.pin p (by
          show p ∈ ((a, e4) :: (X.pn ++ pins)) ++ []
          rw [List.append_nil]
          rcases List.mem_append.mp hp with z | z
          · exact List.mem_cons_of_mem _ (List.mem_append_left _ z)
          · rcases List.mem_cons.mp z with z | z
            · rw [z]
              exact List.mem_cons_self
            · exact List.mem_cons_of_mem _ (List.mem_append_right _ z)), S6.hok, S6.len⟩
        refine gone_ok S6' hN hi hln fun s7 J7 => ?_
        obtain ⟨p1, p2, _⟩ := J7.pin (a, e4) (List.mem_append_right _ List.mem_cons_self)
        have J8 : Inv X pins (σ6.set i none) H6 s7 := J7.pins_of fun p hp => J7.pin p (List.mem_append_right _ (List.mem_cons_of_mem _ hp))
        refine ⟨_, _, adopt J8 p2 n0 nL (fun x c hc z => ?_) (fun p hp z => ?_) (exr_ok p1 zc4.1 zc4.2 dt4), q6 p2⟩
        · obtain ⟨v, o, ho, hd⟩ := J7.cell x c hc
          rw [z, p1] at ho
          cases ho
          rw [dt4] at hd
          cases hd
        · have q := (J.pin p hp).1
          rw [z, nA] at q
          cases q
      | brk =>
        obtain ⟨σ6, H6, S6, q6⟩ := hsp
        exact leave S6 fun s7 J7 => ⟨_, _, J7, q6⟩
      | cont =>
        obtain ⟨σ6, H6, S6, q6⟩ := hsp
        exact leave S6 fun s7 J7 => ⟨_, _, J7, q6⟩
      | ret u =>
        obtain ⟨v6, σ6, H6, S6, r6, q6⟩ := hsp
        exact leave S6 fun s7 J7 => ⟨_, _, _, J7, r6, q6⟩
    | false =>
      refine (show wpAny _ X.A (handleBy (.ref a) X.env []) _ _ _ from wpAny_handleBy_nil ?_)
      obtain ⟨k1, k2, k3, oe, vs, T, oT, ts', he, hz, hd, h1, hr⟩ := id fy3
      unfold PySem.passOn
      refine wpAny_bind (wpAny_field he hd h1 ?_)
      rw [if_neg (show ¬ ((Value.ref T == Value.none) = true) from by simp)]
      have out : wpAny (model X.prog X.w) X.A (setFlight (.ref a) X.env.frame) (fun _ s4 => wpAny (model X.prog X.w) X.A (throw (.ref a) : Sem Flow) (SP X pins D) X.xe s4) X.xe { s' with heap := g3 } := by
        rw [hfm]
        refine HandSPX.setFlight_upZ fy3 fun g4 hh4 u4 => wpAny_throw (tk _ _ ⟨a, B, sI, pins, σ', H', cls, d, rfl, J, nb, (up.trans u3).trans u4, .inr (.inr (by rw [hst]; exact hh4)), na, os, ag, hno rfl⟩)
      first
        | exact wpAny_bind (wpAny_pure (wpAny_bind out))
        | exact wpAny_bind out
  · cases f with
    | next =>
      obtain ⟨σ', H', K', q⟩ := hsp
      exact wpAny_execs_nil ⟨σ', H', K'.ofTry okX, q⟩
    | brk =>
      obtain ⟨σ', H', K', q⟩ := hsp
      exact ⟨σ', H', K'.ofTry okX, q⟩
    | cont =>
      obtain ⟨σ', H', K', q⟩ := hsp
      exact ⟨σ', H', K'.ofTry okX, q⟩
    | ret u =>
      obtain ⟨v, σ', H', K', r, q⟩ := hsp
      exact ⟨v, σ', H', K'.ofTry okX, r, q⟩
end
end Xr
set_option maxHeartbeats 0
namespace Kx
open PySem PySem.Spec PyProof.Rows L2 Xr
def top (i : Nat) : Stmt := PySem.Challenge.pw_wholelots_k31_orders_refused.main.body.getD i (.Pass ⟨0, 0, 0, 0⟩)
def dD (x : Str) (i : Nat) : He.DefD := ⟨(x, none), x, x, defArgs (top i), defBody (top i), defScope (top i), [], []⟩
def dA (g : PySem.W.Frag → Addr) (x q : Str) (i j : Nat) (kw : List (Str × He.Dv) := []) : He5.DefA := ⟨g, x, q, defArgs (inClass (top i) j), defBody (inClass (top i) j), defScope (inClass (top i) j), [], kw⟩
def fn : List He.DefD := [dD "is_integer" 8, dD "is_whole" 9, dD "is_count" 10, dD "is_name" 11, dD "fault_of" 15, dD "bare" 20, dD "remade" 21, dD "left_over" 22, dD "_law_pen" 24, dD "_law_draw" 25, dD "_law_pick" 26, dD "_law_names" 27, dD "_law_number" 28, dD "_law_count" 29, dD "_law_row" 30, dD "_law_made" 31, dD "_law_told" 32, dD "_law_odd" 33, dD "_law_is_whole" 34, dD "_law_is_name" 35, dD "_law_fault" 36, dD "_law_heard" 37, dD "_law_is_right" 38, dD "law" 39]
def fa : List He.Fa := [.glo "LotError", .glo "InvalidList", .glo "InvalidOrder", .glo "InvalidText", .glo "is_integer", .glo "is_whole", .glo "is_count", .glo "is_name", .glo "fault_of", .glo "Order", .glo "NowOrder", .glo "AllOrder", .glo "VeiledOrder", .glo "bare", .glo "remade", .glo "left_over", .glo "_law_pen", .glo "_law_draw", .glo "_law_pick", .glo "_law_names", .glo "_law_number", .glo "_law_count", .glo "_law_row", .glo "_law_made", .glo "_law_told", .glo "_law_odd", .glo "_law_is_whole", .glo "_law_is_name", .glo "_law_fault", .glo "_law_heard", .glo "_law_is_right", .glo "law", .glo "SIDES", .free "ValueError", .free "abs", .free "all", .free "bool", .free "int", .free "isinstance", .free "len", .free "list", .free "min", .free "property", .free "range", .free "repr", .free "str", .free "super", .str "LETTERS" "abcdefghijklmnopqrstuvwxyz", .int "MOST_LETTERS" 8, .str "NOBODY" "nobody"]
abbrev file : Str := PySem.Challenge.pw_wholelots_k31_orders_refused.main.file
def da : List He5.DefA := [dA (fun K => (He.ma K (He.ga K "Order") "__init__")) "__init__" "Order.__init__" 16 2 [("owner", .str "nobody")],
  dA (fun K => (He5.wf K (He.ga K "Order") "property" "side")) "side" "Order.side" 16 3,
  dA (fun K => (He5.wf K (He.ga K "Order") "property" "limit")) "limit" "Order.limit" 16 4,
  dA (fun K => (He5.wf K (He.ga K "Order") "property" "lots")) "lots" "Order.lots" 16 5,
  dA (fun K => (He5.wf K (He.ga K "Order") "property" "owner")) "owner" "Order.owner" 16 6,
  dA (fun K => (He5.wf K (He.ga K "Order") "property" "visible")) "visible" "Order.visible" 16 7,
  dA (fun K => (He5.wf K (He.ga K "Order") "property" "sign")) "sign" "Order.sign" 16 8,
  dA (fun K => (He.ma K (He.ga K "Order") "__eq__")) "__eq__" "Order.__eq__" 16 9,
  dA (fun K => (He.ma K (He.ga K "Order") "__str__")) "__str__" "Order.__str__" 16 10,
  dA (fun K => (He.ma K (He.ga K "Order") "with_lots")) "with_lots" "Order.with_lots" 16 11,
  dA (fun K => (He.ma K (He.ga K "Order") "with_limit")) "with_limit" "Order.with_limit" 16 12,
  dA (fun K => (He5.wf K (He.ga K "VeiledOrder") "property" "shown")) "shown" "VeiledOrder.shown" 19 2,
  dA (fun K => (He.ma K (He.ga K "VeiledOrder") "__str__")) "__str__" "VeiledOrder.__str__" 19 3]
abbrev sInvalidList : Stmt := inClass (top 2) 0
abbrev sInvalidOrder : Stmt := inClass (top 3) 0
abbrev sInvalidText : Stmt := inClass (top 4) 0
def cl : List DefC := [(("InvalidList", some "__init__"), some ("__init__", "InvalidList.__init__", defArgs (inClass (top 2) 0), .stmts (defBody (inClass (top 2) 0)), defScope (inClass (top 2) 0), mainGlobals, ["__class__"], builtinsNs)),
  (("InvalidOrder", some "__init__"), some ("__init__", "InvalidOrder.__init__", defArgs (inClass (top 3) 0), .stmts (defBody (inClass (top 3) 0)), defScope (inClass (top 3) 0), mainGlobals, ["__class__"], builtinsNs)),
  (("InvalidText", some "__init__"), some ("__init__", "InvalidText.__init__", defArgs (inClass (top 4) 0), .stmts (defBody (inClass (top 4) 0)), defScope (inClass (top 4) 0), mainGlobals, ["__class__"], builtinsNs)),
  (("NowOrder", some "__init__"), some ("__init__", "NowOrder.__init__", defArgs (inClass (top 17) 2), .stmts (defBody (inClass (top 17) 2)), defScope (inClass (top 17) 2), mainGlobals, ["__class__"], builtinsNs)),
  (("AllOrder", some "__init__"), some ("__init__", "AllOrder.__init__", defArgs (inClass (top 18) 2), .stmts (defBody (inClass (top 18) 2)), defScope (inClass (top 18) 2), mainGlobals, ["__class__"], builtinsNs)),
  (("VeiledOrder", some "__init__"), some ("__init__", "VeiledOrder.__init__", defArgs (inClass (top 19) 1), .stmts (defBody (inClass (top 19) 1)), defScope (inClass (top 19) 1), mainGlobals, ["__class__"], builtinsNs))]
def eInvalidList (K : PySem.W.Frag) : Bool := errB file K "InvalidList" "ValueError" "ValueError.__init__" "ValueError.__new__" tlV ["reason", "name"]
def eInvalidOrder (K : PySem.W.Frag) : Bool := errB file K "InvalidOrder" "ValueError" "ValueError.__init__" "ValueError.__new__" tlV ["reason"]
def eInvalidText (K : PySem.W.Frag) : Bool := errB file K "InvalidText" "ValueError" "ValueError.__init__" "ValueError.__new__" tlV ["line", "word"]
def errNs : List Str := ["InvalidList", "InvalidOrder", "InvalidText"]
/-- which error is which, what is caught -/
def errR (K : PySem.W.Frag) : Bool := errNs.all fun x => decide (PySem.W.exmAny K (.ref (He.ga K x)) [.ref (He.ga K "LotError")] = some true) && errNs.all fun y => decide (PySem.W.kitOne K (.ref (He.ga K x)) (.ref (He.ga K y)) = some (decide (x = y)))
def tf : List He.Defn := [("_law_is_right", none), ("law", none)]
def tabNd (K : PySem.W.Frag) : Bool := decide ((tf.map fun p => (He.cT K p).2).Nodup)
def exB (K : PySem.W.Frag) : Bool := allB K && (ordB file K && (decide (PySem.W.kitOne K (.ref (He.ga K "InvalidOrder")) (.type "ValueError") = some true) && ((errR K && tabNd K) && (eInvalidList K && (eInvalidOrder K && (eInvalidText K))))))
abbrev R : PySem.W.OpenRow := PySem.W.OpenLaw.row PySem.Challenge.rw_wholelots_k31_orders_refused
abbrev hk : PySem.W.Hook := hookF 6 fa fn [] tf cl da exB
def ob (s : PySem.W.SharedT) : AlF := obsF 6 fa fn [] tf cl da exB (HandSHeadRun.getT s)
theorem ob_eq (s : PySem.W.SharedT) : ob s = hk.obs s.abs := obsF_eq (HandSHeadRun.getT_eq s)
def loose : List Str := (["LotError", "InvalidList", "InvalidOrder", "InvalidText", "is_integer", "is_whole", "is_count", "is_name", "fault_of", "Order", "NowOrder", "AllOrder", "VeiledOrder", "bare", "remade", "left_over", "_law_pen", "_law_draw", "_law_pick", "_law_names"] : List Str) ++ (["_law_number", "_law_count", "_law_row", "_law_made", "_law_told", "_law_odd", "_law_is_whole", "_law_is_name", "_law_fault", "_law_heard", "_law_is_right", "LETTERS", "MOST_LETTERS", "NOBODY", "SIDES"] : List Str)
theorem run (w : World) : HandSHeadRun.RunEq R (PySem.W.view R.prog [39]) hk ob 12000 loose w := by
  intro os
  kernel_rfl
end Kx
set_option maxHeartbeats 4000000
namespace Kx
open PySem PySem.Spec PyProof.Rows L2 Xr
/-- what the walk asks of the text as the top has made it -/
structure Txt (P : Program) (K : PySem.W.Frag) (mg : Str → Option Value) : Prop where
  all : AllF K
  g_LotError : mg "LotError" = some (.ref (He.ga K "LotError"))
  g_InvalidList : mg "InvalidList" = some (.ref (He.ga K "InvalidList"))
  g_InvalidOrder : mg "InvalidOrder" = some (.ref (He.ga K "InvalidOrder"))
  g_InvalidText : mg "InvalidText" = some (.ref (He.ga K "InvalidText"))
  g_is_integer : mg "is_integer" = some (.ref (He.ga K "is_integer"))
  g_is_whole : mg "is_whole" = some (.ref (He.ga K "is_whole"))
  g_is_count : mg "is_count" = some (.ref (He.ga K "is_count"))
  g_is_name : mg "is_name" = some (.ref (He.ga K "is_name"))
  g_fault_of : mg "fault_of" = some (.ref (He.ga K "fault_of"))
  g_Order : mg "Order" = some (.ref (He.ga K "Order"))
  g_NowOrder : mg "NowOrder" = some (.ref (He.ga K "NowOrder"))
  g_AllOrder : mg "AllOrder" = some (.ref (He.ga K "AllOrder"))
  g_VeiledOrder : mg "VeiledOrder" = some (.ref (He.ga K "VeiledOrder"))
  g_bare : mg "bare" = some (.ref (He.ga K "bare"))
  g_remade : mg "remade" = some (.ref (He.ga K "remade"))
  g_left_over : mg "left_over" = some (.ref (He.ga K "left_over"))
  g__law_pen : mg "_law_pen" = some (.ref (He.ga K "_law_pen"))
  g__law_draw : mg "_law_draw" = some (.ref (He.ga K "_law_draw"))
  g__law_pick : mg "_law_pick" = some (.ref (He.ga K "_law_pick"))
  g__law_names : mg "_law_names" = some (.ref (He.ga K "_law_names"))
  g__law_number : mg "_law_number" = some (.ref (He.ga K "_law_number"))
  g__law_count : mg "_law_count" = some (.ref (He.ga K "_law_count"))
  g__law_row : mg "_law_row" = some (.ref (He.ga K "_law_row"))
  g__law_made : mg "_law_made" = some (.ref (He.ga K "_law_made"))
  g__law_told : mg "_law_told" = some (.ref (He.ga K "_law_told"))
  g__law_odd : mg "_law_odd" = some (.ref (He.ga K "_law_odd"))
  g__law_is_whole : mg "_law_is_whole" = some (.ref (He.ga K "_law_is_whole"))
  g__law_is_name : mg "_law_is_name" = some (.ref (He.ga K "_law_is_name"))
  g__law_fault : mg "_law_fault" = some (.ref (He.ga K "_law_fault"))
  g__law_heard : mg "_law_heard" = some (.ref (He.ga K "_law_heard"))
  g__law_is_right : mg "_law_is_right" = some (.ref (He.ga K "_law_is_right"))
  g_law : mg "law" = some (.ref (He.ga K "law"))
  g_SIDES : mg "SIDES" = some (.ref (He.ga K "SIDES"))
  z_ValueError : mg "ValueError" = none
  z_abs : mg "abs" = none
  z_all : mg "all" = none
  z_bool : mg "bool" = none
  z_int : mg "int" = none
  z_isinstance : mg "isinstance" = none
  z_len : mg "len" = none
  z_list : mg "list" = none
  z_min : mg "min" = none
  z_property : mg "property" = none
  z_range : mg "range" = none
  z_repr : mg "repr" = none
  z_str : mg "str" = none
  z_super : mg "super" = none
  c_LETTERS : ∃ t, mg "LETTERS" = some (.str "abcdefghijklmnopqrstuvwxyz" t)
  c_MOST_LETTERS : ∃ t, mg "MOST_LETTERS" = some (.int 8 t)
  c_NOBODY : ∃ t, mg "NOBODY" = some (.str "nobody" t)
  F_is_integer : ∃ fd, FunD K "is_integer" "is_integer" (defArgs (top 8)) (defBody (top 8)) (defScope (top 8)) [] [] (He.ga K "is_integer") fd
  F_is_whole : ∃ fd, FunD K "is_whole" "is_whole" (defArgs (top 9)) (defBody (top 9)) (defScope (top 9)) [] [] (He.ga K "is_whole") fd
  F_is_count : ∃ fd, FunD K "is_count" "is_count" (defArgs (top 10)) (defBody (top 10)) (defScope (top 10)) [] [] (He.ga K "is_count") fd
  F_is_name : ∃ fd, FunD K "is_name" "is_name" (defArgs (top 11)) (defBody (top 11)) (defScope (top 11)) [] [] (He.ga K "is_name") fd
  F_fault_of : ∃ fd, FunD K "fault_of" "fault_of" (defArgs (top 15)) (defBody (top 15)) (defScope (top 15)) [] [] (He.ga K "fault_of") fd
  F_bare : ∃ fd, FunD K "bare" "bare" (defArgs (top 20)) (defBody (top 20)) (defScope (top 20)) [] [] (He.ga K "bare") fd
  F_remade : ∃ fd, FunD K "remade" "remade" (defArgs (top 21)) (defBody (top 21)) (defScope (top 21)) [] [] (He.ga K "remade") fd
  F_left_over : ∃ fd, FunD K "left_over" "left_over" (defArgs (top 22)) (defBody (top 22)) (defScope (top 22)) [] [] (He.ga K "left_over") fd
  F__law_pen : ∃ fd, FunD K "_law_pen" "_law_pen" (defArgs (top 24)) (defBody (top 24)) (defScope (top 24)) [] [] (He.ga K "_law_pen") fd
  F__law_draw : ∃ fd, FunD K "_law_draw" "_law_draw" (defArgs (top 25)) (defBody (top 25)) (defScope (top 25)) [] [] (He.ga K "_law_draw") fd
  F__law_pick : ∃ fd, FunD K "_law_pick" "_law_pick" (defArgs (top 26)) (defBody (top 26)) (defScope (top 26)) [] [] (He.ga K "_law_pick") fd
  F__law_names : ∃ fd, FunD K "_law_names" "_law_names" (defArgs (top 27)) (defBody (top 27)) (defScope (top 27)) [] [] (He.ga K "_law_names") fd
  F__law_number : ∃ fd, FunD K "_law_number" "_law_number" (defArgs (top 28)) (defBody (top 28)) (defScope (top 28)) [] [] (He.ga K "_law_number") fd
  F__law_count : ∃ fd, FunD K "_law_count" "_law_count" (defArgs (top 29)) (defBody (top 29)) (defScope (top 29)) [] [] (He.ga K "_law_count") fd
  F__law_row : ∃ fd, FunD K "_law_row" "_law_row" (defArgs (top 30)) (defBody (top 30)) (defScope (top 30)) [] [] (He.ga K "_law_row") fd
  F__law_made : ∃ fd, FunD K "_law_made" "_law_made" (defArgs (top 31)) (defBody (top 31)) (defScope (top 31)) [] [] (He.ga K "_law_made") fd
  F__law_told : ∃ fd, FunD K "_law_told" "_law_told" (defArgs (top 32)) (defBody (top 32)) (defScope (top 32)) [] [] (He.ga K "_law_told") fd
  F__law_odd : ∃ fd, FunD K "_law_odd" "_law_odd" (defArgs (top 33)) (defBody (top 33)) (defScope (top 33)) [] [] (He.ga K "_law_odd") fd
  F__law_is_whole : ∃ fd, FunD K "_law_is_whole" "_law_is_whole" (defArgs (top 34)) (defBody (top 34)) (defScope (top 34)) [] [] (He.ga K "_law_is_whole") fd
  F__law_is_name : ∃ fd, FunD K "_law_is_name" "_law_is_name" (defArgs (top 35)) (defBody (top 35)) (defScope (top 35)) [] [] (He.ga K "_law_is_name") fd
  F__law_fault : ∃ fd, FunD K "_law_fault" "_law_fault" (defArgs (top 36)) (defBody (top 36)) (defScope (top 36)) [] [] (He.ga K "_law_fault") fd
  F__law_heard : ∃ fd, FunD K "_law_heard" "_law_heard" (defArgs (top 37)) (defBody (top 37)) (defScope (top 37)) [] [] (He.ga K "_law_heard") fd
  F__law_is_right : ∃ fd, FunD K "_law_is_right" "_law_is_right" (defArgs (top 38)) (defBody (top 38)) (defScope (top 38)) [] [] (He.ga K "_law_is_right") fd
  F_law : ∃ fd, FunD K "law" "law" (defArgs (top 39)) (defBody (top 39)) (defScope (top 39)) [] [] (He.ga K "law") fd
  F_Order___init__ : ∃ fd, FunD K "__init__" "Order.__init__" (defArgs (inClass (top 16) 2)) (defBody (inClass (top 16) 2)) (defScope (inClass (top 16) 2)) [] nobK (He.ma K (He.ga K "Order") "__init__") fd
  F_Order_side : ∃ fd, FunD K "side" "Order.side" (defArgs (inClass (top 16) 3)) (defBody (inClass (top 16) 3)) (defScope (inClass (top 16) 3)) [] [] (He5.wf K (He.ga K "Order") "property" "side") fd
  F_Order_limit : ∃ fd, FunD K "limit" "Order.limit" (defArgs (inClass (top 16) 4)) (defBody (inClass (top 16) 4)) (defScope (inClass (top 16) 4)) [] [] (He5.wf K (He.ga K "Order") "property" "limit") fd
  F_Order_lots : ∃ fd, FunD K "lots" "Order.lots" (defArgs (inClass (top 16) 5)) (defBody (inClass (top 16) 5)) (defScope (inClass (top 16) 5)) [] [] (He5.wf K (He.ga K "Order") "property" "lots") fd
  F_Order_owner : ∃ fd, FunD K "owner" "Order.owner" (defArgs (inClass (top 16) 6)) (defBody (inClass (top 16) 6)) (defScope (inClass (top 16) 6)) [] [] (He5.wf K (He.ga K "Order") "property" "owner") fd
  F_Order_visible : ∃ fd, FunD K "visible" "Order.visible" (defArgs (inClass (top 16) 7)) (defBody (inClass (top 16) 7)) (defScope (inClass (top 16) 7)) [] [] (He5.wf K (He.ga K "Order") "property" "visible") fd
  F_Order_sign : ∃ fd, FunD K "sign" "Order.sign" (defArgs (inClass (top 16) 8)) (defBody (inClass (top 16) 8)) (defScope (inClass (top 16) 8)) [] [] (He5.wf K (He.ga K "Order") "property" "sign") fd
  F_Order___eq__ : ∃ fd, FunD K "__eq__" "Order.__eq__" (defArgs (inClass (top 16) 9)) (defBody (inClass (top 16) 9)) (defScope (inClass (top 16) 9)) [] [] (He.ma K (He.ga K "Order") "__eq__") fd
  F_Order___str__ : ∃ fd, FunD K "__str__" "Order.__str__" (defArgs (inClass (top 16) 10)) (defBody (inClass (top 16) 10)) (defScope (inClass (top 16) 10)) [] [] (He.ma K (He.ga K "Order") "__str__") fd
  F_Order_with_lots : ∃ fd, FunD K "with_lots" "Order.with_lots" (defArgs (inClass (top 16) 11)) (defBody (inClass (top 16) 11)) (defScope (inClass (top 16) 11)) [] [] (He.ma K (He.ga K "Order") "with_lots") fd
  F_Order_with_limit : ∃ fd, FunD K "with_limit" "Order.with_limit" (defArgs (inClass (top 16) 12)) (defBody (inClass (top 16) 12)) (defScope (inClass (top 16) 12)) [] [] (He.ma K (He.ga K "Order") "with_limit") fd
  F_VeiledOrder_shown : ∃ fd, FunD K "shown" "VeiledOrder.shown" (defArgs (inClass (top 19) 2)) (defBody (inClass (top 19) 2)) (defScope (inClass (top 19) 2)) [] [] (He5.wf K (He.ga K "VeiledOrder") "property" "shown") fd
  F_VeiledOrder___str__ : ∃ fd, FunD K "__str__" "VeiledOrder.__str__" (defArgs (inClass (top 19) 3)) (defBody (inClass (top 19) 3)) (defScope (inClass (top 19) 3)) [] [] (He.ma K (He.ga K "VeiledOrder") "__str__") fd
  e_InvalidList : Err P K (He.ga K "InvalidList") ["reason", "name"]
  e_InvalidOrder : Err P K (He.ga K "InvalidOrder") ["reason"]
  e_InvalidText : Err P K (He.ga K "InvalidText") ["line", "word"]
  exm : ∀ x ∈ errNs, PySem.W.exmAny K (.ref (He.ga K x)) [.ref (He.ga K "LotError")] = some true
  tnd : (tf.map fun p => (He.cT K p).2).Nodup
  kitE : ∀ x ∈ errNs, ∀ y ∈ errNs, PySem.W.kitOne K (.ref (He.ga K x)) (.ref (He.ga K y)) = some (decide (x = y))
  ord : OrdF P K "NowOrder.__init__" "AllOrder.__init__" "VeiledOrder.__init__" (defArgs (inClass (top 17) 2)) (defArgs (inClass (top 18) 2)) (defArgs (inClass (top 19) 1)) (defBody (inClass (top 17) 2)) (defBody (inClass (top 18) 2)) (defBody (inClass (top 19) 1)) (defScope (inClass (top 17) 2)) (defScope (inClass (top 18) 2)) (defScope (inClass (top 19) 1))
  kv : PySem.W.kitOne K (.ref (He.ga K "InvalidOrder")) (.type "ValueError") = some true
local macro_rules | `(tactic| walk_at "rd") => `(tactic| (repeat (first | apply Exists.intro | (refine And.intro rfl ?_) | (refine And.intro (SqL.of (by assumption)) ?_) | (refine And.intro (Or.inl (SqL.of (by assumption))) ?_) | (refine Or.inl ⟨_, rfl, ?_⟩) | (refine Or.inr ⟨_, rfl, ?_⟩) | (refine And.intro (by assumption) ?_) | (refine And.intro (Or.inl (by assumption)) ?_))))
section
variable {P : Program} {w : World} {K : PySem.W.Frag} {mg : Str → Option Value} {base : Heap}
theorem sc_is_integer : FnScope ["value"] ["value"] (defScope (top 8)) := ⟨rfl, rfl, rfl, by decide +kernel, rfl, by decide +kernel, by decide +kernel⟩
def spIsInt (K : PySem.W.Frag) : Sp := fun vs H Q _ => ∃ v t b1 b2, vs = [v] ∧ TyX K H v t ∧ PySem.W.kitOne K t (.type "int") = some b1 ∧ PySem.W.kitOne K t (.type "bool") = some b2 ∧ Q (.bl (b1 && !b2)) H
theorem ok_is_integer (T : Txt P K mg) : OkF P w K mg base CX0 1 (He.ga K "is_integer") ["value"] (spIsInt K) := by
  obtain ⟨fd, F⟩ := T.F_is_integer
  refine ⟨fd, F.ok sc_is_integer (fun vs H Q E h => ?_) (fun cdv A outer s H vs Q E hr h => ?_), F.bindsN fun _ _ _ _ _ _ us hl => match us, hl with | [_], _ => rfl, F.kp⟩
  · obtain ⟨v, t, b1, b2, rfl, _⟩ := h
    rfl
  · obtain ⟨v, t, b1, b2, rfl, ty, e1, e2, k⟩ := h
    refine ⟨_, PSs.nox (pss_one (ps_ret (pe_and (pe_callB (call_isiK K) (by rfl) T.z_isinstance (by decide +kernel) (pa_cons (pv 0) (pa_cons (pe_bltn (v := .ty "int") (by rfl) T.z_int (by decide +kernel) rfl) pa_nil))) (pe_one (pe_not (pe_callB (call_isiK K) (by rfl) T.z_isinstance (by decide +kernel) (pa_cons (pv 0) (pa_cons (pe_bltn (v := .ty "bool") (by rfl) T.z_bool (by decide +kernel) rfl) pa_nil)))))))), ?_⟩
    refine ⟨v, rfl, ⟨_, _, _, _, _, rfl, .ty "int", ty, e1, _, rfl, ?_⟩⟩
    cases b1 with
    | false => exact k
    | true => exact ⟨v, rfl, _, _, _, _, _, rfl, .ty "bool", ty, e2, _, rfl, k⟩
theorem sc_is_whole : FnScope ["value"] ["value"] (defScope (top 9)) := ⟨rfl, rfl, rfl, by decide +kernel, rfl, by decide +kernel, by decide +kernel⟩
abbrev absV (i : Int) : Int := if i < 0 then -i else i
def spWhole (K : PySem.W.Frag) : Sp := fun vs H Q _ => ∃ v, vs = [v] ∧ ((∃ i, v = .int i ∧ Q (.bl (decide (absV i < 10 ^ 60))) H) ∨ ∃ t b1 b2, TyX K H v t ∧ PySem.W.kitOne K t (.type "int") = some b1 ∧ PySem.W.kitOne K t (.type "bool") = some b2 ∧ (b1 && !b2) = false ∧ Q (.bl false) H)
theorem kit_ii : PySem.W.kitOne K (.type "int") (.type "int") = some true := kit_ty (by decide +kernel)
theorem kit_ib : PySem.W.kitOne K (.type "int") (.type "bool") = some false := kit_ty (by decide +kernel)
theorem ok_is_whole (T : Txt P K mg) : OkF P w K mg base CX0 2 (He.ga K "is_whole") ["value"] (spWhole K) := by
  have G_is_integer := ok_is_integer (P := P) (w := w) (base := base) T
  obtain ⟨fd, F⟩ := T.F_is_whole
  refine ⟨fd, F.ok sc_is_whole (fun vs H Q E h => ?_) (fun cdv A outer s H vs Q E hr h => ?_), F.bindsN fun _ _ _ _ _ _ us hl => match us, hl with | [_], _ => rfl, F.kp⟩
  · obtain ⟨v, rfl, _⟩ := h
    rfl
  · obtain ⟨v, rfl, k⟩ := h
    refine ⟨_, PSs.nox (pss_one (ps_ret (pe_and (pe_f G_is_integer (hr.mono (by decide)) (by rfl) T.g_is_integer pass0 (pa_cons (pv 0) pa_nil)) (pe_one (pe_cmpR op_lt (pe_callB call_abs (by rfl) T.z_abs (by decide +kernel) (pa_cons (pv 0) pa_nil)) (pe_op op_pow pe_int pe_int) (nomark _)))))), ?_⟩
    rcases k with ⟨i, rfl, k⟩ | ⟨t, b1, b2, ty, e1, e2, e, k⟩
    · refine ⟨_, rfl, _, _, _, _, rfl, .base (.int i), kit_ii, kit_ib, _, rfl, ?_⟩
      refine iteT ⟨_, rfl, _, rfl, _, _, rfl, rfl, ⟨by decide, by decide, by decide⟩, _, _, rfl, rfl, k⟩
    · refine ⟨_, rfl, _, _, _, _, rfl, ty, e1, e2, _, rfl, ?_⟩
      rw [e]
      exact k
theorem sc_is_name : FnScope ["value", "letter"] ["value"] (defScope (top 11)) := ⟨rfl, rfl, rfl, by decide +kernel, rfl, by decide +kernel, by decide +kernel⟩
def letters : Str := "abcdefghijklmnopqrstuvwxyz"
def nameB (x : Str) : Bool := (decide (1 ≤ x.length) && decide (x.length ≤ 8)) && x.cps.toList.all fun c => decide (c ∈ letters.cps.toList)
def spName (K : PySem.W.Frag) : Sp := fun vs H Q _ => ∃ v, vs = [v] ∧ ((∃ x, v = .str x ∧ x.length ≤ 100000 ∧ ∀ H', Same H H' → Q (.bl (nameB x)) H') ∨ ∃ t, TyX K H v t ∧ PySem.W.kitOne K t (.type "str") = some false ∧ Q (.bl false) H)
theorem kit_ss : PySem.W.kitOne K (.type "str") (.type "str") = some true := kit_ty (by decide +kernel)
theorem ok_is_name (T : Txt P K mg) : OkF P w K mg base CX0 1 (He.ga K "is_name") ["value"] (spName K) := by
  obtain ⟨t1, c_MOST_LETTERS⟩ := T.c_MOST_LETTERS
  obtain ⟨t2, c_LETTERS⟩ := T.c_LETTERS
  obtain ⟨fd, F⟩ := T.F_is_name
  refine ⟨fd, F.ok sc_is_name (fun vs H Q E h => ?_) (fun cdv A outer s H vs Q E hr h => ?_), F.bindsN fun _ _ _ _ _ _ us hl => match us, hl with | [_], _ => rfl, F.kp⟩
  · obtain ⟨v, rfl, _⟩ := h
    rfl
  · obtain ⟨v, rfl, k⟩ := h
    refine ⟨_, PSs.nox (pss_cons (ps_if (PW.pt (pw_or (pt_not (pt_val (pe_callB (call_isiK K) (by rfl) T.z_isinstance (by decide +kernel) (pa_cons (pv 0) (pa_cons (pe_bltn (v := .ty "str") (by rfl) T.z_str (by decide +kernel) rfl) pa_nil))))) (pw_or1 (pt_not (pt_chain op_le op_le pe_int (pe_callB call_len (by rfl) T.z_len (by decide +kernel) (pa_cons (pv 0) pa_nil)) (pe_glob (v := .int 8) (by rfl) c_MOST_LETTERS ⟨_, rfl⟩))))))
      (pss_one (ps_ret pe_bl))
      pss_nil)
    (pss_one (ps_ret (pe_callB (cr_all rfl) (by rfl) T.z_all (by decide +kernel) (pa_cons (pe_lc (own := [("letter", 1)]) (g := gName 1) (tt := tYes) rfl sc_is_name.nd (pi_str (pv 0)) (blkOk_by (N := ["value", "letter"]) (sc := defScope (top 11)) (by decide +kernel)) (fun _ _ _ _ _ => pg_name (i := 1) sc_is_name.nd rfl (Or.inl rfl)) (fun _ _ _ _ _ => pts_nil) (fun _ _ _ _ _ => (pe_cmpR op_in_sign (pv 1) (pe_glob (v := .str "abcdefghijklmnopqrstuvwxyz") (by rfl) c_LETTERS ⟨_, rfl⟩) (by rfl)))) pa_nil))))), ?_⟩
    rcases k with ⟨x, rfl, hx, k⟩ | ⟨t, ty, e, k⟩
    · refine ⟨_, rfl, _, _, _, _, _, rfl, .ty "str", .base (.str x), kit_ss, _, rfl, ?_⟩
      refine iteFa rfl ?_
      have fin : nameB x = false → Q (.bl false) H := fun e => e ▸ k H (Same.refl H)
      refine ⟨_, rfl, _, x.length, rfl, ⟨by rw [sizeLine_eq]; omega, rfl⟩, 1, (x.length : Int), rfl, rfl, _, rfl, ?_⟩
      refine iteD (fun h1 => ?_) (fun h1 => ⟨false, rfl, fin (by unfold nameB; rw [decide_eq_false (by omega)]; rfl)⟩)
      refine ⟨_, _, rfl, rfl, _, rfl, ?_⟩
      by_cases h2 : (x.length : Int) ≤ 8
      · refine iteFa (by rw [decide_eq_true h2]; rfl) ?_
        refine ⟨_, rfl, x, rfl, fun D hD => ?_⟩
        refine lcF yl_str (fun _ => true) (fun v => .bl (match v with | .str c => decide (c.cps.toList.headD 0 ∈ letters.cps.toList) | _ => false)) hD (by unfold signsV; rw [List.length_map]; exact hx) (fun _ _ => trivial) (fun _ => rfl) (fun v H' _ _ Qb q => q H' (Same.refl H')) (fun v H' hm _ s2 Q2 q => ?_) fun H' s2 hl => ?_
        · obtain ⟨c, _, rfl⟩ := List.mem_map.mp hm
          exact ⟨_, rfl, c, _, rfl, rfl, q H' (Same.refl H')⟩
        · have e : (List.map (fun v => V.bl (match v with | .str c => decide (c.cps.toList.headD 0 ∈ letters.cps.toList) | _ => false)) (List.filter (fun _ => true) (signsV x))) = (x.cps.toList.map fun c => decide (c ∈ letters.cps.toList)).map V.bl := by
            unfold signsV
            rw [List.filter_eq_self.mpr fun _ _ => rfl, List.map_map, List.map_map]
            rfl
          rw [e] at hl
          refine ⟨D, _, rfl, SqL.of hl, ?_⟩
          have e2 : ((x.cps.toList.map fun c => decide (c ∈ letters.cps.toList)).all id) = nameB x := by
            unfold nameB
            rw [decide_eq_true (show 1 ≤ x.length by omega), decide_eq_true (show x.length ≤ 8 by omega), List.all_map]
            rfl
          rw [e2]
          exact k H' s2
      · refine iteTr (by rw [decide_eq_false h2]; rfl) (fin ?_)
        unfold nameB
        rw [decide_eq_false (show ¬ x.length ≤ 8 by omega), Bool.and_false]
        rfl
    · refine ⟨_, rfl, _, _, _, _, _, rfl, .ty "str", ty, e, _, rfl, ?_⟩
      exact k
end
end Kx
set_option maxHeartbeats 4000000
namespace Kx
open PySem PySem.Spec PyProof.Rows L2 Xr
local macro_rules | `(tactic| walk_at "rd") => `(tactic| (repeat (first | apply Exists.intro | (refine And.intro rfl ?_) | (refine And.intro (SqL.of (by assumption)) ?_) | (refine And.intro (Or.inl (SqL.of (by assumption))) ?_) | (refine Or.inl ⟨_, rfl, ?_⟩) | (refine Or.inr ⟨_, rfl, ?_⟩) | (refine And.intro (by assumption) ?_) | (refine And.intro (Or.inl (by assumption)) ?_))))
section
variable {P : Program} {w : World} {K : PySem.W.Frag} {mg : Str → Option Value} {base : Heap}
def spDrawW : Sp := fun vs H Q _ => ∃ (p q : Addr) (ns : List Int) (a r m : Int), vs = [.ref p, .int m] ∧ PenAt H p q ns a r ∧ 1 ≤ m ∧ m ≤ 1000000000 ∧ a ≤ 1000000 ∧
  ∀ (d a' r' : Int) (H' : Hp), 0 ≤ d → d < m → a ≤ a' → a' ≤ a + 1 → But p H H' → PenAt H' p q ns a' r' → Q (.int d) H'
theorem atI_ints {ns : List Int} {i : Int} (h0 : 0 ≤ i) (h1 : i < (ns.length : Int)) : ∃ c : Int, atI (ns.map V.int) i = some (.int c) := by
  have hl : i.toNat < ns.length := by omega
  refine ⟨ns[i.toNat], ?_⟩
  unfold atI ixN
  rw [List.length_map, if_pos h0, if_pos h1]
  show (ns.map V.int)[i.toNat]? = _
  rw [List.getElem?_map, List.getElem?_eq_getElem hl]
  rfl
theorem pw5 {x : Int} (h0 : 0 ≤ x) (h1 : x < 18446744073709551616) : CPow x 5 := ⟨by decide, by decide, by omega⟩
theorem pw3 {x : Int} (h0 : 0 ≤ x) (h1 : x < 18446744073709551616) : CPow x 3 := ⟨by decide, by decide, by omega⟩
theorem mul_lt {a b c d : Int} (h0 : 0 ≤ a) (h1 : a < c) (h2 : 0 ≤ b) (h3 : b ≤ d) : 0 ≤ a * b ∧ a * b ≤ c * d :=
  ⟨Int.mul_nonneg h0 h2, Int.mul_le_mul (Int.le_of_lt h1) h3 h2 (Int.le_trans h0 (Int.le_of_lt h1))⟩
theorem mix_ok {x a : Int} (h : 0 ≤ x ∧ x < 2147483579) (a0 : 0 ≤ a) (a2 : a ≤ 1000000) : (-(2 ^ 64 : Int) < x ∧ x < 2 ^ 64) ∧ 0 ≤ x * (2 * a + 67) + 50417 * a * a + 7 ∧ x * (2 * a + 67) + 50417 * a * a + 7 < 18446744073709551616 := by
  have y1 := mul_lt (a := x) (b := 2 * a + 67) (c := 2147483579) (d := 2000067) h.1 h.2 (by omega) (by omega)
  have y2 := mul_lt (a := 50417 * a) (b := a) (c := 50417000001) (d := 1000000) (by omega) (by omega) (by omega) (by omega)
  omega
theorem sc__law_draw : FnScope ["_law_pen_here", "_law_many", "_law_digit", "_law_at", "_law_cell", "_law_great", "_law_mixed"] ["_law_pen_here", "_law_many"] (defScope (top 25)) := ⟨rfl, rfl, rfl, by decide +kernel, rfl, by decide +kernel, by decide +kernel⟩
set_option maxHeartbeats 4000000 in
theorem ok__law_draw (T : Txt P K mg) : OkF P w K mg base CX0 1 (He.ga K "_law_draw") ["_law_pen_here", "_law_many"] spDrawW := by
  obtain ⟨fd, F⟩ := T.F__law_draw
  refine ⟨fd, F.ok sc__law_draw (fun vs H Q E h => ?_) (fun cdv A outer s H vs Q E hr h => ?_), F.bindsN fun _ _ _ _ _ _ us hl => match us, hl with | [_, _], _ => rfl, F.kp⟩
  · obtain ⟨p, q, ns, a, r, m, rfl, _⟩ := h
    rfl
  · obtain ⟨p, q, ns, a, r, m, rfl, S, m1, m2, a2, k⟩ := h
    have hu64 := hr.units
    have hp := S.pen
    have hq := S.cells
    have a0 := S.a0
    have r0 := S.r0
    have mp : 0 < m := by omega
    have md : CDiv r m := ⟨mp, by omega⟩
    refine ⟨_, PSs.nox (pss_cons (ps_if (pt_cmpR op_gt (pe_ix (ix_listK K) (pv 0) pe_int (fun _ _ => rfl)) pe_int (nomark _))
      (pss_cons (ps_asg (pe_op op_mod (pe_callTy call_int1 (by rfl) T.z_int (by decide +kernel) (pa_cons (pe_ix (ix_listK K) (pv 0) pe_int (fun _ _ => rfl)) pa_nil)) (pv 1)) (pg_name (i := 2) sc__law_draw.nd rfl (.inl rfl)))
    (pss_cons (ps_asg (pe_op op_fdiv (pe_callTy call_int1 (by rfl) T.z_int (by decide +kernel) (pa_cons (pe_ix (ix_listK K) (pv 0) pe_int (fun _ _ => rfl)) pa_nil)) (pv 1)) (pg_sub (pv 0) pe_int set_list))
    (pss_one (ps_ret (pv 2)))))
      pss_nil)
    (pss_cons (ps_asg (pe_ix (ix_listK K) (pv 0) pe_int (fun _ _ => rfl)) (pg_name (i := 3) sc__law_draw.nd rfl (.inl rfl)))
    (pss_cons (ps_asg (pe_op op_add (pv 3) pe_int) (pg_sub (pv 0) pe_int set_list))
    (pss_cons (ps_asg (pe_op op_add (pe_op op_mul pe_int (pv 3)) pe_int) (pg_name (i := 4) sc__law_draw.nd rfl (.inl rfl)))
    (pss_cut (ps_if (pt_cmpR (op_neD hu64) (pe_ix (ix_listK K) (pv 0) pe_int (fun _ _ => rfl)) (pe_lst pa_nil) (nomark _))
      (pss_one (ps_asg (pe_ix (ix_listK K) (pe_ix (ix_listK K) (pv 0) pe_int (fun _ _ => rfl)) (pe_op op_mod (pe_callTy call_int1 (by rfl) T.z_int (by decide +kernel) (pa_cons (pv 3) pa_nil)) (pe_callB call_len_seq (by rfl) T.z_len (by decide +kernel) (pa_cons (pe_ix (ix_listK K) (pv 0) pe_int (fun _ _ => rfl)) pa_nil))) (fun _ _ => rfl)) (pg_name (i := 4) sc__law_draw.nd rfl (.inl rfl))))
      pss_nil)
    (pss_cut (ps_if (PW.pt (pw_and (pt_cmpR op_lt (pv 3) (pe_callB call_len_seq (by rfl) T.z_len (by decide +kernel) (pa_cons (pe_ix (ix_listK K) (pv 0) pe_int (fun _ _ => rfl)) pa_nil)) (nomark _)) (pw_and1 (pt_cmpR op_ge (pe_callB call_abs (by rfl) T.z_abs (by decide +kernel) (pa_cons (pv 4) pa_nil)) (pe_op op_pow pe_int pe_int) (nomark _)))))
      (pss_cons (ps_asg (pe_op op_add (pe_op op_mul pe_int (pe_callB call_abs (by rfl) T.z_abs (by decide +kernel) (pa_cons (pv 4) pa_nil))) (pe_callTy call_int1 (by rfl) T.z_int (by decide +kernel) (pa_cons (pe_cmpR op_lt (pv 4) pe_int (nomark _)) pa_nil))) (pg_name (i := 5) sc__law_draw.nd rfl (.inl rfl)))
    (pss_cons (ps_asg (pe_op op_fdiv (pe_callTy call_int1 (by rfl) T.z_int (by decide +kernel) (pa_cons (pv 5) pa_nil)) (pv 1)) (pg_sub (pv 0) pe_int set_list))
    (pss_one (ps_ret (pe_op op_mod (pe_callTy call_int1 (by rfl) T.z_int (by decide +kernel) (pa_cons (pv 5) pa_nil)) (pv 1))))))
      pss_nil)
    (pss_cons (ps_asg (pe_op op_mod (pe_op op_pow (pe_callTy call_int1 (by rfl) T.z_int (by decide +kernel) (pa_cons (pe_op op_add (pe_op op_add (pe_op op_mod (pe_callTy call_int1 (by rfl) T.z_int (by decide +kernel) (pa_cons (pv 4) pa_nil)) pe_int) (pe_op op_mul pe_int (pv 3))) pe_int) pa_nil)) pe_int) pe_int) (pg_name (i := 6) sc__law_draw.nd rfl (.inl rfl)))
    (pss_cons (ps_asg (pe_op op_mod (pe_op op_pow (pe_callTy call_int1 (by rfl) T.z_int (by decide +kernel) (pa_cons (pe_op op_add (pe_op op_add (pe_op op_mul (pv 6) (pe_op op_add (pe_op op_mul pe_int (pv 3)) pe_int)) (pe_op op_mul (pe_op op_mul pe_int (pv 3)) (pv 3))) pe_int) pa_nil)) pe_int) pe_int) (pg_name (i := 6) sc__law_draw.nd rfl (.inl rfl)))
    (pss_one (ps_ret (pe_op op_mod (pe_callTy call_int1 (by rfl) T.z_int (by decide +kernel) (pa_cons (pe_op op_fdiv (pv 6) pe_int) pa_nil)) (pv 1)))))))))))), ?_⟩
    walk_at "rd"
    show (if decide (0 < r) = true then _ else _)
    by_cases hr0 : 0 < r
    · rw [if_pos (decide_eq_true hr0)]
      walk_at "rd"
      refine k (r % m) a (r / m) _ (Int.emod_nonneg _ (by omega)) (Int.emod_lt_of_pos _ mp) (Int.le_refl _) (by omega) (But.refl.upd) (S.keep But.refl.upd upd_same a0 (Int.ediv_nonneg r0 (by omega)))
    · rw [if_neg (by simpa using hr0)]
      walk_at "rd"
      have hp1 : upd H p (.lst [.ref q, .int (a + 1), .int r]) p = some (.lst [.ref q, .int (a + 1), .int r]) := upd_same
      have hq1 : upd H p (.lst [.ref q, .int (a + 1), .int r]) q = some (.lst (ns.map V.int)) := (upd_ne S.ne).trans hq
      refine And.intro (.inl ⟨by decide, by decide⟩) ?_
      walk_at "rd"
      refine CutP.mk (fun σ' H' => ∃ c : Int, σ' = [some (.ref p), some (.int m), none, some (.int a), some (.int c), none, none] ∧ But p H H' ∧ PenAt H' p q ns (a + 1) r) ?_ ?_
      · refine ⟨_, rfl, p, _, _, _, rfl, rfl, SqL.of hp1, rfl, show (0 : Nat) ≤ sizeLine by decide, fun z hz => ?_⟩
        have S2 : PenAt (upd (upd H p (.lst [.ref q, .int (a + 1), .int r])) z (.lst [])) p q ns (a + 1) r :=
          (S.keep But.refl.upd upd_same (by omega) r0).same (same_new hz)
        have B2 : But p H (upd (upd H p (.lst [.ref q, .int (a + 1), .int r])) z (.lst [])) := But.refl.upd.new hz
        have hp2 := S2.pen
        have hq2 := S2.cells
        refine ⟨_, _, Dp.lst (SqL.of hq2) (dp_ints ns), Dp.lst (SqL.of upd_same) .nil, PySem.W.ke_shaped_ints ns, rfl, _, rfl, ?_⟩
        rw [eqv_nil]
        cases hn : ns.isEmpty with
        | true => exact ⟨_, rfl, B2, S2⟩
        | false =>
          have lp : 0 < ns.length := List.length_pos_iff.mpr fun z => by rw [z] at hn; cases hn
          refine iteT ?_
          obtain ⟨c, hc⟩ := atI_ints (ns := ns) (i := a % ((ns.map V.int).length : Int)) (Int.emod_nonneg _ (by rw [List.length_map]; omega)) (by rw [List.length_map]; exact Int.emod_lt_of_pos _ (by omega))
          refine ⟨_, rfl, p, _, _, _, rfl, rfl, SqL.of hp2, rfl, _, rfl, Or.inl ⟨_, rfl, ?_⟩⟩
          refine ⟨_, rfl, p, _, _, _, rfl, rfl, SqL.of hp2, rfl, q, _, rfl, Or.inl (SqL.of hq2), _, _, rfl, rfl, (by rw [List.length_map]; omega), ?_⟩
          exact ⟨q, _, _, _, rfl, rfl, SqL.of hq2, hc, c, rfl, B2, S2⟩
      · rintro σ' H' ⟨c, rfl, B, S2⟩
        have hp2 := S2.pen
        have hq2 := S2.cells
        have b31 : ∀ x k : Int, 0 < k → 0 ≤ x % k ∧ x % k < k := fun x k h => ⟨Int.emod_nonneg _ (by omega), Int.emod_lt_of_pos _ h⟩
        obtain ⟨c0, c1⟩ := b31 c 2147483563 (by decide)
        refine CutP.mk (fun σ' H' => ∃ c : Int, σ' = [some (.ref p), some (.int m), none, some (.int a), some (.int c), none, none] ∧ But p H H' ∧ PenAt H' p q ns (a + 1) r) ?_ ?_
        · walk_at "rd"
          refine iteD (fun _ => ?_) (fun _ => ?_)
          · walk_at "rd"
            refine And.intro ⟨by decide, by decide, by decide⟩ ?_
            walk_at "rd"
            refine iteD (fun _ => ?_) (fun _ => ⟨c, rfl, B, S2⟩)
            walk_at "rd"
            refine And.intro (.inl ⟨by decide, by decide⟩) ?_
            walk_at "rd"
            have g0 : ∀ v : Int, 0 ≤ v → 0 ≤ v / m := fun v h => Int.ediv_nonneg h (by omega)
            refine k _ (a + 1) _ _ (Int.emod_nonneg _ (by omega)) (Int.emod_lt_of_pos _ mp) (by omega) (by omega) B.upd (S.keep B.upd upd_same (by omega) (g0 _ ?_))
            show 0 ≤ 2 * (if c < 0 then -c else c) + (if decide (c < 0) = true then 1 else 0)
            have e1 : (0 : Int) ≤ if c < 0 then -c else c := by split <;> omega
            have e2 : (0 : Int) ≤ if decide (c < 0) = true then 1 else 0 := by split <;> omega
            omega
          · exact ⟨c, rfl, B, S2⟩
        · rintro σ' H' ⟨c, rfl, B, S2⟩
          have b31 : ∀ x k : Int, 0 < k → 0 ≤ x % k ∧ x % k < k := fun x k h => ⟨Int.emod_nonneg _ (by omega), Int.emod_lt_of_pos _ h⟩
          obtain ⟨c0, c1⟩ := b31 c 2147483563 (by decide)
          have fin0 : 0 ≤ c % 2147483563 + 52817 * a + 19 ∧ c % 2147483563 + 52817 * a + 19 < 18446744073709551616 := by omega
          walk_at "rd"
          refine And.intro (show (0 : Int) < 2147483563 by decide) ?_
          walk_at "rd"
          refine And.intro (.inl ⟨by decide, by decide⟩) ?_
          walk_at "rd"
          refine And.intro (pw5 fin0.1 fin0.2) ?_
          walk_at "rd"
          refine And.intro (show (0 : Int) < 2147483579 by decide) ?_
          have fin1 := mix_ok (b31 ((c % 2147483563 + 52817 * a + 19) ^ (5 : Int).toNat) 2147483579 (by decide)) a0 a2
          walk_at "rd"
          refine And.intro (.inl ⟨by decide, by decide⟩) ?_
          walk_at "rd"
          refine And.intro (.inl fin1.1) ?_
          walk_at "rd"
          refine And.intro (.inl ⟨by decide, by decide⟩) ?_
          walk_at "rd"
          refine And.intro (.inl ⟨by show -(2 ^ 64 : Int) < 50417 * a; omega, by show 50417 * a < 2 ^ 64; omega⟩) ?_
          walk_at "rd"
          refine And.intro (pw3 fin1.2.1 fin1.2.2) ?_
          walk_at "rd"
          refine And.intro (show (0 : Int) < 2147483629 by decide) ?_
          walk_at "rd"
          refine And.intro ⟨by decide, by decide⟩ ?_
          walk_at "rd"
          exact k _ (a + 1) r _ (Int.emod_nonneg _ (by omega)) (Int.emod_lt_of_pos _ mp) (by omega) (by omega) B S2
theorem atI_at {xs : List V} {d : Int} (h0 : 0 ≤ d) (h1 : d < (xs.length : Int)) : atI xs d = some (xs[d.toNat]'(by omega)) := by
  unfold atI ixN
  rw [if_pos h0, if_pos h1]
  show xs[d.toNat]? = _
  rw [List.getElem?_eq_getElem (by omega)]
theorem sc__law_pen : FnScope ["_law_script"] ["_law_script"] (defScope (top 24)) := ⟨rfl, rfl, rfl, by decide +kernel, rfl, by decide +kernel, by decide +kernel⟩
theorem ok__law_pen (T : Txt P K mg) : OkF P w K mg base CX0 1 (He.ga K "_law_pen") ["_law_script"] (spPen K) := by
  obtain ⟨fd, F⟩ := T.F__law_pen
  refine ⟨fd, F.ok sc__law_pen (fun vs H Q E h => ?_) (fun cdv A outer s H vs Q E hr h => ?_), F.bindsN fun _ _ _ _ _ _ us hl => match us, hl with | [_], _ => rfl, F.kp⟩
  · obtain ⟨a, ns, rfl, _⟩ := h
    rfl
  · obtain ⟨a, ns, rfl, hS, hl, k⟩ := h
    refine ⟨_, PSs.nox (pss_one (ps_ret (pe_lst (pa_cons (pe_callTy call_list_of (by rfl) T.z_list (by decide +kernel) (pa_cons (pe_slice sl_list (pv 0) po_none (po_some pe_int)) pa_nil)) (pa_cons pe_int (pa_cons pe_int pa_nil)))))), ?_⟩
    walk_at "rd"
    intro p1 n1
    obtain ⟨ns', hc, hl'⟩ : ∃ ns' : List Int, cutV (ns.map V.int) none (some 63) = ns'.map V.int ∧ ns'.length ≤ 63 := cut_ints hl
    have h1 : upd H p1 (.lst (cutV (ns.map V.int) none (some 63))) p1 = some (.lst (cutV (ns.map V.int) none (some 63))) := upd_same
    walk_at "rd"
    intro p2 n2
    refine ⟨show 3 ≤ sizeLine by decide, fun p3 n3 => ?_⟩
    have n23 : p2 ≠ p3 := fun z => by rw [← z, upd_same] at n3; cases n3
    have s1 : Same H (upd H p1 (.lst (cutV (ns.map V.int) none (some 63)))) := same_new n1
    refine k p3 p2 ns' _ (s1.free (Same.free (same_new n2) n3)) (fun b o z => ?_) ⟨upd_same, ?_, hl', Int.le_refl _, Int.le_refl _⟩
    · exact same_new n3 _ _ (same_new n2 _ _ (s1 b o z))
    · rw [upd_ne n23, upd_same, hc]
theorem sc__law_pick : FnScope ["_law_pen_here", "_law_some"] ["_law_pen_here", "_law_some"] (defScope (top 26)) := ⟨rfl, rfl, rfl, by decide +kernel, rfl, by decide +kernel, by decide +kernel⟩
def spPick (K : PySem.W.Frag) : Sp := fun vs H Q _ => ∃ (p q l : Addr) (ns : List Int) (a r : Int) (xs : List V), vs = [.ref p, .ref l] ∧ PenAt H p q ns a r ∧ a ≤ 1000000 ∧ H l = some (.lst xs) ∧ l ≠ p ∧ 1 ≤ xs.length ∧ xs.length ≤ 1000 ∧
  ∀ (v : V) (a' r' : Int) (H' : Hp), v ∈ xs → a ≤ a' → a' ≤ a + 1 → But p H H' → PenAt H' p q ns a' r' → Q v H'
theorem ok__law_pick (T : Txt P K mg) : OkF P w K mg base CX0 2 (He.ga K "_law_pick") ["_law_pen_here", "_law_some"] (spPick K) := by
  have G__law_draw := ok__law_draw (P := P) (w := w) (base := base) T
  obtain ⟨fd, F⟩ := T.F__law_pick
  refine ⟨fd, F.ok sc__law_pick (fun vs H Q E h => ?_) (fun cdv A outer s H vs Q E hr h => ?_), F.bindsN fun _ _ _ _ _ _ us hl => match us, hl with | [_, _], _ => rfl, F.kp⟩
  · obtain ⟨p, q, l, ns, a, r, xs, rfl, _⟩ := h
    rfl
  · obtain ⟨p, q, l, ns, a, r, xs, rfl, S, a2, hx, np, l1, l2, k⟩ := h
    refine ⟨_, PSs.nox (pss_one (ps_ret (pe_ix (ix_listK K) (pv 1) (pe_f G__law_draw (hr.mono (by decide)) (by rfl) T.g__law_draw pass0 (pa_cons (pv 0) (pa_cons (pe_callB call_len_seq (by rfl) T.z_len (by decide +kernel) (pa_cons (pv 1) pa_nil)) pa_nil))) (fun _ _ => rfl)))), ?_⟩
    walk_at "rd"
    refine And.intro (by omega) (And.intro (by omega) (And.intro a2 ?_))
    intro d a' r' H' d0 d1 e0 e1 B S'
    have hx' : H' l = some (.lst xs) := B l _ hx np
    have hd : d.toNat < xs.length := by omega
    walk_at "rd"
    refine And.intro (atI_at d0 (by omega)) ?_
    exact k _ a' r' H' (List.getElem_mem hd) e0 e1 B S'
end
end Kx
set_option maxHeartbeats 4000000
namespace Kx
open PySem PySem.Spec PyProof.Rows L2 Xr
local macro_rules | `(tactic| walk_at "rd") => `(tactic| (repeat (first | apply Exists.intro | (refine And.intro rfl ?_) | (refine And.intro (SqL.of (by assumption)) ?_) | (refine And.intro (Or.inl (SqL.of (by assumption))) ?_) | (refine Or.inl ⟨_, rfl, ?_⟩) | (refine Or.inr ⟨_, rfl, ?_⟩) | (refine And.intro (by assumption) ?_) | (refine And.intro (Or.inl (by assumption)) ?_))))
theorem passN {X : Cx} {P : Program} {w : World} : Passes (L2.CX P w) X (fun _ _ _ => False) := fun _ _ _ _ _ _ _ h => by
  obtain ⟨_, _, _, _, _, _, _, _, _, _, _, _, h⟩ := h
  exact h.elim
section
variable {P : Program} {w : World} {K : PySem.W.Frag} {mg : Str → Option Value} {base : Heap}
theorem tyX_same {H H' : Hp} {v : V} {t : Value} (ty : TyX K H v t) (s : Same H H') : TyX K H' v t := by
  cases ty with
  | base h =>
    refine .base ?_
    cases h with
    | non => exact .non
    | bl x => exact .bl x
    | int i => exact .int i
    | str x => exact .str x
    | flt x => exact .flt x
    | lst e => exact .lst (s _ _ e)
    | frz e => exact .frz (s _ _ e)
    | tup e => exact .tup (s _ _ e)
    | dK e => exact .dK (s _ _ e)
    | dT e => exact .dT (s _ _ e)
    | ins e a b c d f => exact .ins (s _ _ e) a b c d f
  | byt b => exact .byt b
  | set e => exact .set (s _ _ e)
  | kList e c => exact .kList e c
  | kTuple e c => exact .kTuple e c
  | kDict e c => exact .kDict e c
  | fTuple e => exact .fTuple (s _ _ e)
  | fDict e => exact .fDict (s _ _ e)
/-- a value that is no text -/
def NoStr (K : PySem.W.Frag) (H : Hp) (v : V) : Prop := ∃ t, TyX K H v t ∧ PySem.W.kitOne K t (.type "str") = some false
/-- a value that is no whole number -/
def NoInt (K : PySem.W.Frag) (H : Hp) (v : V) : Prop := ∃ t b1 b2, TyX K H v t ∧ PySem.W.kitOne K t (.type "int") = some b1 ∧ PySem.W.kitOne K t (.type "bool") = some b2 ∧ (b1 && !b2) = false
theorem NoStr.same {H H' : Hp} {v : V} (h : NoStr K H v) (s : Same H H') : NoStr K H' v := by
  obtain ⟨t, ty, e⟩ := h
  exact ⟨t, tyX_same ty s, e⟩
theorem NoInt.same {H H' : Hp} {v : V} (h : NoInt K H v) (s : Same H H') : NoInt K H' v := by
  obtain ⟨t, b1, b2, ty, e⟩ := h
  exact ⟨t, b1, b2, tyX_same ty s, e⟩
def NameV (K : PySem.W.Frag) (H : Hp) (v : V) (b : Bool) : Prop := (∃ x, v = .str x ∧ x.length ≤ 100000 ∧ nameB x = b) ∨ (b = false ∧ NoStr K H v)
def sideB (x : Str) : Bool := inV (.str x) [.str "buy", .str "sell"]
def SideV (K : PySem.W.Frag) (H : Hp) (v : V) (b : Bool) : Prop := (∃ x, v = .str x ∧ sideB x = b) ∨ (b = false ∧ NoStr K H v)
def wholeB (i : Int) : Bool := decide (absV i < 10 ^ 60)
def WholeV (K : PySem.W.Frag) (H : Hp) (v : V) (b : Bool) : Prop := (∃ i, v = .int i ∧ wholeB i = b) ∨ (b = false ∧ NoInt K H v)
def countB (i : Int) : Bool := wholeB i && decide (1 ≤ i)
def CountV (K : PySem.W.Frag) (H : Hp) (v : V) (b : Bool) : Prop := (∃ i, v = .int i ∧ countB i = b) ∨ (b = false ∧ NoInt K H v)
theorem NameV.same {H H' : Hp} {v : V} {b : Bool} (h : NameV K H v b) (s : Same H H') : NameV K H' v b := h.elim .inl fun z => .inr ⟨z.1, z.2.same s⟩
theorem SideV.same {H H' : Hp} {v : V} {b : Bool} (h : SideV K H v b) (s : Same H H') : SideV K H' v b := h.elim .inl fun z => .inr ⟨z.1, z.2.same s⟩
theorem WholeV.same {H H' : Hp} {v : V} {b : Bool} (h : WholeV K H v b) (s : Same H H') : WholeV K H' v b := h.elim .inl fun z => .inr ⟨z.1, z.2.same s⟩
theorem CountV.same {H H' : Hp} {v : V} {b : Bool} (h : CountV K H v b) (s : Same H H') : CountV K H' v b := h.elim .inl fun z => .inr ⟨z.1, z.2.same s⟩
def spNameV (K : PySem.W.Frag) : Sp := fun vs H Q _ => ∃ v b, vs = [v] ∧ NameV K H v b ∧ ∀ H', Same H H' → Q (.bl b) H'
theorem okV_is_name (T : Txt P K mg) : OkF P w K mg base CX0 1 (He.ga K "is_name") ["value"] (spNameV K) := (ok_is_name T).imp fun vs H Q E ⟨v, b, e, h, k⟩ => by
  subst e
  rcases h with ⟨x, rfl, hl, rfl⟩ | ⟨rfl, t, ty, e⟩
  · exact ⟨_, rfl, .inl ⟨x, rfl, hl, k⟩⟩
  · exact ⟨_, rfl, .inr ⟨t, ty, e, k H (Same.refl H)⟩⟩
def spWholeV (K : PySem.W.Frag) : Sp := fun vs H Q _ => ∃ v b, vs = [v] ∧ WholeV K H v b ∧ Q (.bl b) H
theorem okV_is_whole (T : Txt P K mg) : OkF P w K mg base CX0 2 (He.ga K "is_whole") ["value"] (spWholeV K) := (ok_is_whole T).imp fun vs H Q E ⟨v, b, e, h, k⟩ => by
  subst e
  rcases h with ⟨i, rfl, rfl⟩ | ⟨rfl, t, b1, b2, ty, e1, e2, e⟩
  · exact ⟨_, rfl, .inl ⟨i, rfl, k⟩⟩
  · exact ⟨_, rfl, .inr ⟨t, b1, b2, ty, e1, e2, e, k⟩⟩
theorem sc_is_count : FnScope ["value"] ["value"] (defScope (top 10)) := ⟨rfl, rfl, rfl, by decide +kernel, rfl, by decide +kernel, by decide +kernel⟩
def spCountV (K : PySem.W.Frag) : Sp := fun vs H Q _ => ∃ v b, vs = [v] ∧ CountV K H v b ∧ Q (.bl b) H
theorem okV_is_count (T : Txt P K mg) : OkF P w K mg base CX0 3 (He.ga K "is_count") ["value"] (spCountV K) := by
  have G_is_whole := okV_is_whole (P := P) (w := w) (base := base) T
  obtain ⟨fd, F⟩ := T.F_is_count
  refine ⟨fd, F.ok sc_is_count (fun vs H Q E h => ?_) (fun cdv A outer s H vs Q E hr h => ?_), F.bindsN fun _ _ _ _ _ _ us hl => match us, hl with | [_], _ => rfl, F.kp⟩
  · obtain ⟨v, b, rfl, _⟩ := h
    rfl
  · obtain ⟨v, b, rfl, hv, k⟩ := h
    refine ⟨_, PSs.nox (pss_one (ps_ret (pe_and (pe_f G_is_whole (hr.mono (by decide)) (by rfl) T.g_is_whole pass0 (pa_cons (pv 0) pa_nil)) (pe_one (pe_cmpR op_ge (pv 0) pe_int (nomark _)))))), ?_⟩
    rcases hv with ⟨i, rfl, rfl⟩ | ⟨rfl, hv⟩
    · refine ⟨_, rfl, _, _, rfl, .inl ⟨i, rfl, rfl⟩, _, rfl, ?_⟩
      unfold countB at k
      cases hw : wholeB i with
      | false =>
        rw [hw] at k
        exact k
      | true =>
        rw [hw, Bool.true_and] at k
        exact ⟨_, rfl, _, _, rfl, rfl, k⟩
    · exact ⟨_, rfl, _, _, rfl, .inr ⟨rfl, hv⟩, _, rfl, k⟩
theorem sc_fault_of : FnScope ["side", "name", "limit", "lots", "owner"] ["side", "name", "limit", "lots", "owner"] (defScope (top 15)) := ⟨rfl, rfl, rfl, by decide +kernel, rfl, by decide +kernel, by decide +kernel⟩
/-- the first argument of an order that is wrong -/
def faultV (b1 b2 b3 b4 b5 : Bool) : V := if b1 = true then (if b2 = true then (if b3 = true then (if b4 = true then (if b5 = true then .non else .str "owner") else .str "lots") else .str "limit") else .str "name") else .str "side"
def spFault (K : PySem.W.Frag) : Sp := fun vs H Q _ => ∃ sd nm lm lt ow b1 b2 b3 b4 b5, vs = [sd, nm, lm, lt, ow] ∧ SideV K H sd b1 ∧ NameV K H nm b2 ∧ WholeV K H lm b3 ∧ CountV K H lt b4 ∧ NameV K H ow b5 ∧ ∀ H', Same H H' → Q (faultV b1 b2 b3 b4 b5) H'
theorem ok_fault_of (T : Txt P K mg) : OkF P w K mg base CX0 4 (He.ga K "fault_of") ["side", "name", "limit", "lots", "owner"] (spFault K) := by
  have G_is_name := okV_is_name (P := P) (w := w) (base := base) T
  have G_is_whole := okV_is_whole (P := P) (w := w) (base := base) T
  have G_is_count := okV_is_count (P := P) (w := w) (base := base) T
  obtain ⟨fd, F⟩ := T.F_fault_of
  refine ⟨fd, F.ok sc_fault_of (fun vs H Q E h => ?_) (fun cdv A outer s H vs Q E hr h => ?_), F.bindsN fun _ _ _ _ _ _ us hl => match us, hl with | [_, _, _, _, _], _ => rfl, F.kp⟩
  · obtain ⟨sd, nm, lm, lt, ow, b1, b2, b3, b4, b5, rfl, _⟩ := h
    rfl
  · obtain ⟨sd, nm, lm, lt, ow, b1, b2, b3, b4, b5, rfl, v1, v2, v3, v4, v5, k⟩ := h
    refine ⟨_, PSs.nox (pss_cut (ps_if (PW.pt (pw_or (pt_not (pt_val (pe_callB (call_isiK K) (by rfl) T.z_isinstance (by decide +kernel) (pa_cons (pv 0) (pa_cons (pe_bltn (v := .ty "str") (by rfl) T.z_str (by decide +kernel) rfl) pa_nil))))) (pw_or1 (pt_cmpR op_notIn_seq (pv 0) (pe_glob (v := .ref (He.ga K "SIDES")) (by rfl) T.g_SIDES rfl) (by rfl)))))
      (pss_one (ps_ret pe_str))
      pss_nil)
    (pss_cons (ps_if (pt_not (pt_val (pe_f G_is_name (hr.mono (by decide)) (by rfl) T.g_is_name pass0 (pa_cons (pv 1) pa_nil))))
      (pss_one (ps_ret pe_str))
      pss_nil)
    (pss_cons (ps_if (pt_not (pt_val (pe_f G_is_whole (hr.mono (by decide)) (by rfl) T.g_is_whole pass0 (pa_cons (pv 2) pa_nil))))
      (pss_one (ps_ret pe_str))
      pss_nil)
    (pss_cons (ps_if (pt_not (pt_val (pe_f G_is_count (hr.mono (by decide)) (by rfl) T.g_is_count pass0 (pa_cons (pv 3) pa_nil))))
      (pss_one (ps_ret pe_str))
      pss_nil)
    (pss_one (ps_ret (pe_ifExp (pt_val (pe_f G_is_name (hr.mono (by decide)) (by rfl) T.g_is_name pass0 (pa_cons (pv 4) pa_nil))) pe_non pe_str))))))), ?_⟩
    have kk : ∀ {b1 b2 b3 b4 b5 : Bool} {v : V} {H' : Hp}, (∀ H', Same H H' → Q (faultV b1 b2 b3 b4 b5) H') → faultV b1 b2 b3 b4 b5 = v → Same H H' → Q v H' := fun k e s => e ▸ k _ s
    refine .mk (fun σ' H' => σ' = [some sd, some nm, some lm, some lt, some ow] ∧ H' = H ∧ b1 = true) ?_ ?_
    · rcases v1 with ⟨x, rfl, rfl⟩ | ⟨rfl, t, ty, e⟩
      · refine ⟨_, rfl, _, _, _, _, _, rfl, .ty "str", .base (.str x), kit_ss, _, rfl, iteFa rfl ?_⟩
        refine ⟨_, rfl, _, _, rfl, .inr (T.ord.sides.at_ H), rfl, rfl, _, rfl, ?_⟩
        show if (!sideB x) = true then _ else _
        cases hs : sideB x with
        | true => exact iteFa rfl ⟨rfl, rfl, rfl⟩
        | false =>
          rw [hs] at k
          exact iteTr rfl (kk k rfl (Same.refl H))
      · exact ⟨_, rfl, _, _, _, _, _, rfl, .ty "str", ty, e, _, rfl, iteTr rfl (kk k rfl (Same.refl H))⟩
    rintro σ' _ ⟨rfl, rfl, rfl⟩
    refine ⟨_, rfl, _, _, rfl, v2, fun H1 s1 => ⟨_, rfl, ?_⟩⟩
    cases b2 with
    | false => exact iteTr rfl (kk k rfl s1)
    | true =>
      refine iteFa rfl ⟨_, rfl, _, _, rfl, v3.same s1, _, rfl, ?_⟩
      cases b3 with
      | false => exact iteTr rfl (kk k rfl s1)
      | true =>
        refine iteFa rfl ⟨_, rfl, _, _, rfl, v4.same s1, _, rfl, ?_⟩
        cases b4 with
        | false => exact iteTr rfl (kk k rfl s1)
        | true =>
          refine iteFa rfl ⟨_, rfl, _, _, rfl, v5.same s1, fun H2 s2 => ⟨_, rfl, ?_⟩⟩
          cases b5 with
          | false => exact iteFa rfl (kk k rfl (s1.trans s2))
          | true => exact iteT (kk k rfl (s1.trans s2))
/-- an order as it stands: its row -/
structure Rw where
  kd : Str
  sd : Str
  nm : Str
  lm : Int
  lt : Int
  ow : Str
  vs : Int
def Rw.tup (r : Rw) : List V := [.str r.kd, .str r.sd, .str r.nm, .int r.lm, .int r.lt, .str r.ow, .int r.vs]
/-- what must be true of the arguments -/
structure Rw.good (r : Rw) : Prop where
  sd : sideB r.sd = true
  nm : nameB r.nm = true
  lm : wholeB r.lm = true
  lt : countB r.lt = true
  ow : nameB r.ow = true
structure OrdAt (H : Hp) (C a : Addr) (r : Rw) : Prop where
  at_ : ∃ dx T, H a = some (.ins C dx [("name", .str r.nm), ("told", .ref T)]) ∧ H T = some (.tup r.tup)
theorem OrdAt.same {H H' : Hp} {C a : Addr} {r : Rw} (o : OrdAt H C a r) (s : Same H H') : OrdAt H' C a r := by
  obtain ⟨dx, T, h1, h2⟩ := o.at_
  exact ⟨dx, T, s _ _ h1, s _ _ h2⟩
/-! ### the four classes by numbers -/
def kindS (i : Nat) : Str := (["limit", "now", "all", "veiled"] : List Str).getD i ""
def headS (i : Nat) : Str := (["", "now ", "all ", ""] : List Str).getD i ""
def cO (K : PySem.W.Frag) (i : Nat) : Addr := (clsO K).getD i 0
def stO (K : PySem.W.Frag) (i : Nat) : Addr := if i = 3 then He.ma K (aV K) "__str__" else He.ma K (aO K) "__str__"
theorem ocl (T : Txt P K mg) {i : Nat} (h : i < 4) : OCl K (cO K i) (stO K i) (kindS i) (headS i) := by
  match i, h with
  | 0, _ => exact T.ord.o
  | 1, _ => exact T.ord.n
  | 2, _ => exact T.ord.a
  | 3, _ => exact T.ord.v
theorem relO_at (T : Txt P K mg) {i j : Nat} (hi : i < 4) (hj : j < 4) : PySem.W.kitOne K (.ref (cO K i)) (.ref (cO K j)) = some (i == j || j == 0) ∧ ((i ≠ j ∧ j = 0 → PySem.W.subIn K (.ref (cO K i)) (.ref (cO K j)) = some true ∧ cO K i ≠ cO K j) ∧ (¬ (i ≠ j ∧ j = 0) → PySem.W.notFirst K (cO K j) (.ref (cO K i)) = true)) := by
  have h := List.all_eq_true.mp (List.all_eq_true.mp T.ord.rel i (List.mem_range.mpr hi)) j (List.mem_range.mpr hj)
  obtain ⟨h1, h2⟩ := He.ba h
  refine ⟨of_decide_eq_true h1, fun e => ?_, fun e => ?_⟩
  · rw [if_pos e] at h2
    obtain ⟨h3, h4⟩ := He.ba h2
    exact ⟨of_decide_eq_true h3, of_decide_eq_true h4⟩
  · rw [if_neg e] at h2
    exact h2
end
end Kx
set_option maxHeartbeats 4000000
namespace Kx
open PySem PySem.Spec PyProof.Rows L2 Xr
local macro_rules | `(tactic| walk_at "rd") => `(tactic| (repeat (first | apply Exists.intro | (refine And.intro rfl ?_) | (refine And.intro (SqL.of (by assumption)) ?_) | (refine And.intro (Or.inl (SqL.of (by assumption))) ?_) | (refine Or.inl ⟨_, rfl, ?_⟩) | (refine Or.inr ⟨_, rfl, ?_⟩) | (refine And.intro (by assumption) ?_) | (refine And.intro (Or.inl (by assumption)) ?_))))
section
variable {P : Program} {w : World} {K : PySem.W.Frag} {mg : Str → Option Value} {base : Heap}
/-- an order's fault -/
def FltO (K : PySem.W.Frag) (r : V) (H : Hp) (E : XK) : Prop := ∀ d H', Same H H' → H d = none → H' d = some (.xd [("reason", r)]) → E (.ref (He.ga K "InvalidOrder")) (some d) H'
theorem FltO.same {r : V} {H H1 : Hp} {E : XK} (f : FltO K r H E) (s : Same H H1) : FltO K r H1 E := fun d H' s' n h => f d H' (s.trans s') (s.free n) h
theorem FltO.new {r : V} {H : Hp} {E : XK} (f : FltO K r H E) : ∀ d, H d = none → E (.ref (He.ga K "InvalidOrder")) (some d) (upd H d (.xd [("reason", r)])) := fun d n => f d _ (same_new n) n upd_same
theorem fault_two (b1 b2 b3 b4 b5 : Bool) : faultV b1 b2 b3 b4 b5 = .non ∨ ∃ r, faultV b1 b2 b3 b4 b5 = .str r := by
  cases b1 <;> cases b2 <;> cases b3 <;> cases b4 <;> cases b5 <;> first | exact .inl rfl | exact .inr ⟨_, rfl⟩
theorem sc_Order___init__ : FnScope ["self", "side", "name", "limit", "lots", "owner", "fault"] ["self", "side", "name", "limit", "lots", "owner"] (defScope (inClass (top 16) 2)) := ⟨rfl, rfl, rfl, by decide +kernel, rfl, by decide +kernel, by decide +kernel⟩
def spOrdI (K : PySem.W.Frag) : Sp := fun vs H Q E => ∃ i x dx sd nm lm lt ow b1 b2 b3 b4 b5, vs = [.ref x, sd, nm, lm, lt, ow] ∧ i < 4 ∧ H x = some (.ins (cO K i) dx []) ∧ SideV K H sd b1 ∧ NameV K H nm b2 ∧ WholeV K H lm b3 ∧ CountV K H lt b4 ∧ NameV K H ow b5 ∧
  (∀ r, faultV b1 b2 b3 b4 b5 = .str r → FltO K (.str r) H E) ∧ (faultV b1 b2 b3 b4 b5 = .non → ∀ T H', But x H H' → H' x = some (.ins (cO K i) dx [("name", nm), ("told", .ref T)]) → H' T = some (.tup [.str (kindS i), sd, nm, lm, lt, ow, lt]) → H T = none → Q .non H')
theorem fn_Order_init (T : Txt P K mg) {fd : FuncData} (F : FunD K "__init__" "Order.__init__" (defArgs (inClass (top 16) 2)) (defBody (inClass (top 16) 2)) (defScope (inClass (top 16) 2)) [] nobK (He.ma K (He.ga K "Order") "__init__") fd) : FnOk P w K mg base (L2.CX P w) 5 (He.ma K (He.ga K "Order") "__init__") fd ["self", "side", "name", "limit", "lots", "owner"] (spOrdI K) := by
  obtain ⟨fI, fdI, ErC_InvalidOrder, ErB_InvalidOrder⟩ := T.e_InvalidOrder.made
  have G_fault_of := ok_fault_of (P := P) (w := w) (base := base) T
  refine F.ok sc_Order___init__ (fun vs H Q E h => ?_) (fun cdv A outer s H vs Q E hr h => ?_)
  · obtain ⟨i, x, dx, sd, nm, lm, lt, ow, b1, b2, b3, b4, b5, rfl, _⟩ := h
    rfl
  · obtain ⟨i, x, dx, sd, nm, lm, lt, ow, b1, b2, b3, b4, b5, rfl, hi, hx, v1, v2, v3, v4, v5, k1, k2⟩ := h
    have c := ocl T hi
    refine ⟨_, (pss_cons (ps_asg (pe_f G_fault_of (hr.mono (by decide)) (by rfl) T.g_fault_of pass0 (pa_cons (pv 1) (pa_cons (pv 2) (pa_cons (pv 3) (pa_cons (pv 4) (pa_cons (pv 5) pa_nil)))))) (pg_name (i := 6) sc_Order___init__.nd rfl (.inl rfl)))
    (pss_cons (ps_if (pt_cmpR op_notN (pv 6) pe_non (nomark _))
      (pss_one (ps_raise rfl (takes_of rfl rfl rfl rfl) (pmk_err ErC_InvalidOrder ErB_InvalidOrder (by decide) (hr.mono (by decide)) (by rfl) T.g_InvalidOrder (pa_cons (pv 6) pa_nil))))
      pss_nil)
    (pss_cons (ps_fld (pv 0) (pv 2) rfl)
    (pss_one (ps_fld (pv 0) (pe_tup (pa_cons (pe_con (pv 0) rfl) (pa_cons (pv 1) (pa_cons (pv 2) (pa_cons (pv 3) (pa_cons (pv 4) (pa_cons (pv 5) (pa_cons (pv 4) pa_nil)))))))) rfl))))), ?_⟩
    refine ⟨_, rfl, _, rfl, _, rfl, _, rfl, _, rfl, _, _, _, _, _, _, _, _, _, _, rfl, v1, v2, v3, v4, v5, fun H1 s1 => ⟨_, rfl, ?_⟩⟩
    rcases fault_two b1 b2 b3 b4 b5 with e | ⟨r, e⟩
    · rw [e]
      refine ⟨rfl, _, rfl, iteFa rfl ?_⟩
      obtain ⟨u, con⟩ := c.kd
      refine ⟨_, rfl, _, rfl, x, _, dx, _, rfl, s1 _ _ hx, c.pl.cls, c.no _ (by decide), by decide, ?_⟩
      refine ⟨_, rfl, x, _, dx, _, _, u, rfl, upd_same, c.pl.cls, con, rfl, ?_⟩
      refine ⟨_, rfl, _, rfl, _, rfl, _, rfl, _, rfl, _, rfl, show 7 ≤ sizeLine by decide, fun Tt nT => ?_⟩
      have nTx : Tt ≠ x := fun z => by rw [z, upd_same] at nT; cases nT
      refine ⟨_, rfl, x, _, dx, _, rfl, (upd_ne (Ne.symm nTx)).trans upd_same, c.pl.cls, c.no _ (by decide), (show 1 < 1000 by decide), ?_⟩
      have n1 : H1 Tt = none := by
        rw [upd_ne nTx] at nT
        exact nT
      refine k2 e Tt _ (fun b o hb nb => ?_) upd_same ((upd_ne nTx).trans upd_same) (s1.free n1)
      have hb1 := s1 _ _ hb
      rw [upd_ne nb, upd_ne (ne_of_none hb1 n1), upd_ne nb]
      exact hb1
    · rw [e]
      exact ⟨rfl, _, rfl, iteTr rfl ⟨_, rfl, rfl, ((k1 r e).same s1).new⟩⟩
/-- Order.__init__(self, side, name, limit, lots, owner = ..) -/
theorem okK_Order_init (T : Txt P K mg) : FnRK P w K mg base (L2.CX P w) 5 (He.ma K (He.ga K "Order") "__init__") 5 ["owner"] (spOrdI K) := by
  obtain ⟨fd, F⟩ := T.F_Order___init__
  exact fnOk_kw (fn_Order_init T F) (funD_kb F fun _ _ _ _ _ _ us ws hu hw => match us, ws, hu, hw with | [_, _, _, _, _], [_], _, _ => rfl)
/-- .. by the names of all parameters -/
theorem okKK_Order_init (T : Txt P K mg) : FnRK P w K mg base (L2.CX P w) 5 (He.ma K (He.ga K "Order") "__init__") 1 ["owner", "lots", "limit", "name", "side"] (fun vs H Q E => ∃ u a b c d e, vs = [u, a, b, c, d, e] ∧ spOrdI K [u, e, d, c, b, a] H Q E) := by
  obtain ⟨fd, F⟩ := T.F_Order___init__
  have G := fn_Order_init (P := P) (w := w) (base := base) T F
  obtain ⟨oc, od, dV, kV', doc, pm, an, cdv, ct, osl, rfl, lk, hcd, hDf, _⟩ := F.ex
  obtain rfl : dV = .none := by
    rcases hDf with ⟨_, e⟩ | ⟨e, _⟩
    · exact e
    · exact absurd rfl e
  intro A outer s H us ws vs zs Q E hr e0 r rz l1 l2 ⟨u, a, b, c, d, e, ev, h⟩
  match vs, zs, l1, l2, us, ws, r, rz, ev with
  | [v0], [z0, z1, z2, z3, z4], _, _, [u0], [w0, w1, w2, w3, w4], .cons q0 .nil, .cons q1 (.cons q2 (.cons q3 (.cons q4 (.cons q5 .nil)))), ev =>
    cases ev
    exact G.run A outer s H ⟨[u0], [("owner", w0), ("lots", w1), ("limit", w2), ("name", w3), ("side", w4)]⟩ [u0, w4, w3, w2, w1, w0] [u, e, d, c, b, a] Q E hr e0 (.of_eq rfl) (.cons q0 (.cons q5 (.cons q4 (.cons q3 (.cons q2 (.cons q1 .nil)))))) h
/-- .. with the owner that is taken if none is told -/
theorem ok0_Order_init (T : Txt P K mg) : ∃ fd ds, FnOk P w K mg base (L2.CX P w) 5 (He.ma K (He.ga K "Order") "__init__") fd ["self", "side", "name", "limit", "lots", "owner"] (spOrdI K) ∧ Vals [V.str "nobody"] ds ∧ Binds K fd ["self", "side", "name", "limit", "lots", "owner"] ds := by
  obtain ⟨fd, F⟩ := T.F_Order___init__
  obtain ⟨ds, r, b⟩ := F.binds0 (ps := ["self", "side", "name", "limit", "lots", "owner"]) 5 (by decide) rfl fun D doc pm an cdv ct us ks hu hk => match us, ks, hu, hk with | [_, _, _, _, _], [_], _, _ => ⟨_, _, _, _, _, _, rfl, rfl, rfl⟩
  exact ⟨fd, ds, fn_Order_init T F, r, b⟩
end
end Kx
set_option maxHeartbeats 4000000
namespace Kx
open PySem PySem.Spec PyProof.Rows L2 Xr
local macro_rules | `(tactic| walk_at "rd") => `(tactic| (repeat (first | apply Exists.intro | (refine And.intro rfl ?_) | (refine And.intro (SqL.of (by assumption)) ?_) | (refine And.intro (Or.inl (SqL.of (by assumption))) ?_) | (refine Or.inl ⟨_, rfl, ?_⟩) | (refine Or.inr ⟨_, rfl, ?_⟩) | (refine And.intro (by assumption) ?_) | (refine And.intro (Or.inl (by assumption)) ?_))))
section
variable {P : Program} {w : World} {K : PySem.W.Frag} {mg : Str → Option Value} {base : Heap}
/-- an order of the i-th class made of nothing -/
def spSub (K : PySem.W.Frag) (i : Nat) : Sp := fun vs H Q E => ∃ x dx sd nm lm lt ow b1 b2 b3 b4 b5, vs = [.ref x, sd, nm, lm, lt, ow] ∧ H x = some (.ins (cO K i) dx []) ∧ SideV K H sd b1 ∧ NameV K H nm b2 ∧ WholeV K H lm b3 ∧ CountV K H lt b4 ∧ NameV K H ow b5 ∧
  (∀ r, faultV b1 b2 b3 b4 b5 = .str r → FltO K (.str r) H E) ∧ (faultV b1 b2 b3 b4 b5 = .non → ∀ T H', But x H H' → H' x = some (.ins (cO K i) dx [("name", nm), ("told", .ref T)]) → H' T = some (.tup [.str (kindS i), sd, nm, lm, lt, ow, lt]) → H T = none → Q .non H')
theorem spSub_I {i : Nat} (hi : i < 4) {vs : List V} {H : Hp} {Q : VK} {E : XK} (h : spSub K i vs H Q E) : spOrdI K vs H Q E := by
  obtain ⟨x, dx, sd, nm, lm, lt, ow, b1, b2, b3, b4, b5, e, hx, h⟩ := h
  exact ⟨i, x, dx, sd, nm, lm, lt, ow, b1, b2, b3, b4, b5, e, hi, hx, h⟩
abbrev subPs : List Str := ["self", "side", "name", "limit", "lots", "owner"]
theorem nsc_N : NdefX.NScope ["self", "side", "name", "limit", "lots", "owner", "__class__"] subPs ["__class__"] (defScope (inClass (top 17) 2)) := NdefX.nscope_by (by decide +kernel)
theorem nsc_A : NdefX.NScope ["self", "side", "name", "limit", "lots", "owner", "__class__"] subPs ["__class__"] (defScope (inClass (top 18) 2)) := NdefX.nscope_by (by decide +kernel)
theorem fn_NowOrder_init (T : Txt P K mg) {fd : FuncData} {cda cc : Addr} (S : SupF P K (aN K) (He.ma K (aN K) "__init__") (He.ma K (aO K) "__init__") "NowOrder.__init__" (defArgs (inClass (top 17) 2)) (defBody (inClass (top 17) 2)) (defScope (inClass (top 17) 2)) fd cda cc) :
    FnOk P w K mg base (L2.CX P w) 6 (He.ma K (aN K) "__init__") fd subPs (spSub K 1) := by
  have GO := okK_Order_init (P := P) (w := w) (base := base) T
  refine fn_supN S nsc_N (by decide +kernel) ⟨_, rfl, rfl⟩ (fun env => ⟨_, rfl⟩) GO (fun vs H Q E h => ?_) (fun _ => rfl) (fun _ => rfl) (fun _ => rfl) (fun _ => rfl) (fun A outer s H vs Q E hr h => ?_)
  · obtain ⟨x, dx, sd, nm, lm, lt, ow, b1, b2, b3, b4, b5, rfl, _⟩ := h
    rfl
  · obtain ⟨x, dx, sd, nm, lm, lt, ow, b1, b2, b3, b4, b5, rfl, hx, hh⟩ := h
    refine ⟨x, dx, [], _, _, _, _, _, rfl, hx, (passes_call (takes_of rfl rfl rfl rfl) (fun _ _ _ _ h => h)), (pa_cons (pv 1) (pa_cons (pv 2) (pa_cons (pv 3) (pa_cons (pv 4) pa_nil)))), (pk_cons (pv 5) pk_nil), pss_nil, ?_⟩
    exact ⟨_, rfl, _, rfl, _, rfl, _, rfl, _, rfl, rfl, rfl, 1, x, dx, sd, nm, lm, lt, ow, b1, b2, b3, b4, b5, rfl, by decide, hx, hh⟩
theorem fn_AllOrder_init (T : Txt P K mg) {fd : FuncData} {cda cc : Addr} (S : SupF P K (aA K) (He.ma K (aA K) "__init__") (He.ma K (aO K) "__init__") "AllOrder.__init__" (defArgs (inClass (top 18) 2)) (defBody (inClass (top 18) 2)) (defScope (inClass (top 18) 2)) fd cda cc) :
    FnOk P w K mg base (L2.CX P w) 6 (He.ma K (aA K) "__init__") fd subPs (spSub K 2) := by
  have GO := okK_Order_init (P := P) (w := w) (base := base) T
  refine fn_supN S nsc_A (by decide +kernel) ⟨_, rfl, rfl⟩ (fun env => ⟨_, rfl⟩) GO (fun vs H Q E h => ?_) (fun _ => rfl) (fun _ => rfl) (fun _ => rfl) (fun _ => rfl) (fun A outer s H vs Q E hr h => ?_)
  · obtain ⟨x, dx, sd, nm, lm, lt, ow, b1, b2, b3, b4, b5, rfl, _⟩ := h
    rfl
  · obtain ⟨x, dx, sd, nm, lm, lt, ow, b1, b2, b3, b4, b5, rfl, hx, hh⟩ := h
    refine ⟨x, dx, [], _, _, _, _, _, rfl, hx, (passes_call (takes_of rfl rfl rfl rfl) (fun _ _ _ _ h => h)), (pa_cons (pv 1) (pa_cons (pv 2) (pa_cons (pv 3) (pa_cons (pv 4) pa_nil)))), (pk_cons (pv 5) pk_nil), pss_nil, ?_⟩
    exact ⟨_, rfl, _, rfl, _, rfl, _, rfl, _, rfl, rfl, rfl, 2, x, dx, sd, nm, lm, lt, ow, b1, b2, b3, b4, b5, rfl, by decide, hx, hh⟩
/-! ### how these defs are called -/
theorem sup_kb {C f g : Addr} {q : Str} {params : Arguments} {body : List Stmt} {sc : Scope} {fd : FuncData} {cda cc : Addr} {CX : CXT} {k n : Nat} {ps ks : List Str} {sp : Sp} (S : SupF P K C f g q params body sc fd cda cc) (F : FnOk P w K mg base CX k f fd ps sp)
    (hb : ∀ (kV doc pm : Value) (an : Option Addr) (ct : Value) (us ws : List Value), us.length = n → ws.length = ks.length → bindArgs (PySem.W.ksFn "__init__" q params body sc .none kV doc pm an (.ref cda) ct cc) ⟨us, ks.zip ws⟩ = pure (ps.zip (us ++ ws))) : FnRK P w K mg base CX k f n ks sp := by
  obtain ⟨kV, doc, pm, an, ct, oc, od, osl, efd, lk⟩ := S.fn
  subst efd
  exact fnOk_kw F fun s us ws h1 h2 => .of_eq (hb kV doc pm an ct us ws h1 h2)
theorem okK_NowOrder_init (T : Txt P K mg) : FnRK P w K mg base (L2.CX P w) 6 (He.ma K (aN K) "__init__") 5 ["owner"] (spSub K 1) := by
  obtain ⟨fd, cda, cc, S, _⟩ := T.ord.supN
  exact sup_kb S (fn_NowOrder_init T S) fun _ _ _ _ _ us ws hu hw => match us, ws, hu, hw with | [_, _, _, _, _], [_], _, _ => rfl
theorem okK_AllOrder_init (T : Txt P K mg) : FnRK P w K mg base (L2.CX P w) 6 (He.ma K (aA K) "__init__") 5 ["owner"] (spSub K 2) := by
  obtain ⟨fd, cda, cc, S, _⟩ := T.ord.supA
  exact sup_kb S (fn_AllOrder_init T S) fun _ _ _ _ _ us ws hu hw => match us, ws, hu, hw with | [_, _, _, _, _], [_], _, _ => rfl
def turned (sp : Sp) : Sp := fun vs H Q E => ∃ u a b c d e, vs = [u, a, b, c, d, e] ∧ sp [u, e, d, c, b, a] H Q E
theorem sup_kk {C f g : Addr} {q : Str} {params : Arguments} {body : List Stmt} {sc : Scope} {fd : FuncData} {cda cc : Addr} {CX : CXT} {k : Nat} {sp : Sp} (S : SupF P K C f g q params body sc fd cda cc) (F : FnOk P w K mg base CX k f fd subPs sp)
    (hb : ∀ (kV doc pm : Value) (an : Option Addr) (ct : Value) (u0 w0 w1 w2 w3 w4 : Value), bindArgs (PySem.W.ksFn "__init__" q params body sc .none kV doc pm an (.ref cda) ct cc) ⟨[u0], [("owner", w0), ("lots", w1), ("limit", w2), ("name", w3), ("side", w4)]⟩ = pure (subPs.zip [u0, w4, w3, w2, w1, w0])) :
    FnRK P w K mg base CX k f 1 ["owner", "lots", "limit", "name", "side"] (turned sp) := by
  obtain ⟨kV, doc, pm, an, ct, oc, od, osl, efd, lk⟩ := S.fn
  subst efd
  intro A outer s H us ws vs zs Q E hr e0 r rz l1 l2 ⟨u, a, b, c, d, e, ev, h⟩
  match vs, zs, l1, l2, us, ws, r, rz, ev with
  | [v0], [z0, z1, z2, z3, z4], _, _, [u0], [w0, w1, w2, w3, w4], .cons q0 .nil, .cons q1 (.cons q2 (.cons q3 (.cons q4 (.cons q5 .nil)))), ev =>
    cases ev
    exact F.run A outer s H ⟨[u0], [("owner", w0), ("lots", w1), ("limit", w2), ("name", w3), ("side", w4)]⟩ [u0, w4, w3, w2, w1, w0] [u, e, d, c, b, a] Q E hr e0 (.of_eq (hb kV doc pm an ct u0 w0 w1 w2 w3 w4)) (.cons q0 (.cons q5 (.cons q4 (.cons q3 (.cons q2 (.cons q1 .nil)))))) h
theorem okKK_NowOrder_init (T : Txt P K mg) : FnRK P w K mg base (L2.CX P w) 6 (He.ma K (aN K) "__init__") 1 ["owner", "lots", "limit", "name", "side"] (turned (spSub K 1)) := by
  obtain ⟨fd, cda, cc, S, _⟩ := T.ord.supN
  exact sup_kk S (fn_NowOrder_init T S) fun _ _ _ _ _ _ _ _ _ _ _ => rfl
theorem okKK_AllOrder_init (T : Txt P K mg) : FnRK P w K mg base (L2.CX P w) 6 (He.ma K (aA K) "__init__") 1 ["owner", "lots", "limit", "name", "side"] (turned (spSub K 2)) := by
  obtain ⟨fd, cda, cc, S, _⟩ := T.ord.supA
  exact sup_kk S (fn_AllOrder_init T S) fun _ _ _ _ _ _ _ _ _ _ _ => rfl
theorem sup_b0 {C f g : Addr} {q : Str} {params : Arguments} {body : List Stmt} {sc : Scope} {fd : FuncData} {cda cc : Addr} {ps : List Str} {kws : List (Str × V)} (S : SupF P K C f g q params body sc fd cda cc) (kw : KwdV K fd.kwdefaults kws) (n : Nat) (hk : kws ≠ []) (hn : n + kws.length = ps.length)
    (h : ∀ (D : Addr) (doc pm : Value) (an : Option Addr) (ct : Value) (us ks : List Value), us.length = n → ks.length = kws.length →
      KwChain D ((kws.map (·.1)).zip ks) (bindArgs (PySem.W.ksFn "__init__" q params body sc .none (.ref D) doc pm an (.ref cda) ct cc) ⟨us, []⟩) (ps.zip (us ++ ks))) : ∃ ds, Vals (kws.map (·.2)) ds ∧ Binds K fd ps ds := by
  obtain ⟨kV, doc, pm, an, ct, oc, od, osl, efd, lk⟩ := S.fn
  subst efd
  rcases kw with e | ⟨D, eD, hq⟩
  · exact absurd e hk
  · have eD : kV = .ref D := eD
    subst eD
    obtain ⟨ks, hl, rk, hks⟩ := kwd_vals hq
    refine ⟨ks, rk, fun s us X hlen => ?_⟩
    have l2 : us.length = n := by
      rw [List.length_append, hl] at hlen
      omega
    exact BindsTo.of_looks fun M => KwChain.looks X hks (h D doc pm an ct us ks l2 hl)
theorem ok0_NowOrder_init (T : Txt P K mg) : ∃ fd ds, FnOk P w K mg base (L2.CX P w) 6 (He.ma K (aN K) "__init__") fd subPs (spSub K 1) ∧ Vals [V.str "nobody"] ds ∧ Binds K fd subPs ds := by
  obtain ⟨fd, cda, cc, S, kw⟩ := T.ord.supN
  obtain ⟨ds, r, b⟩ := sup_b0 (ps := subPs) S kw 5 (by decide) rfl fun D doc pm an ct us ks hu hk => match us, ks, hu, hk with | [_, _, _, _, _], [_], _, _ => ⟨_, _, _, _, _, _, rfl, rfl, rfl⟩
  exact ⟨fd, ds, fn_NowOrder_init T S, r, b⟩
theorem ok0_AllOrder_init (T : Txt P K mg) : ∃ fd ds, FnOk P w K mg base (L2.CX P w) 6 (He.ma K (aA K) "__init__") fd subPs (spSub K 2) ∧ Vals [V.str "nobody"] ds ∧ Binds K fd subPs ds := by
  obtain ⟨fd, cda, cc, S, kw⟩ := T.ord.supA
  obtain ⟨ds, r, b⟩ := sup_b0 (ps := subPs) S kw 5 (by decide) rfl fun D doc pm an ct us ks hu hk => match us, ks, hu, hk with | [_, _, _, _, _], [_], _, _ => ⟨_, _, _, _, _, _, rfl, rfl, rfl⟩
  exact ⟨fd, ds, fn_AllOrder_init T S, r, b⟩
end
end Kx
set_option maxHeartbeats 4000000
namespace Kx
open PySem PySem.Spec PyProof.Rows L2 Xr
local macro_rules | `(tactic| walk_at "rd") => `(tactic| (repeat (first | apply Exists.intro | (refine And.intro rfl ?_) | (refine And.intro (SqL.of (by assumption)) ?_) | (refine And.intro (Or.inl (SqL.of (by assumption))) ?_) | (refine Or.inl ⟨_, rfl, ?_⟩) | (refine Or.inr ⟨_, rfl, ?_⟩) | (refine And.intro (by assumption) ?_) | (refine And.intro (Or.inl (by assumption)) ?_))))
section
variable {P : Program} {w : World} {K : PySem.W.Frag} {mg : Str → Option Value} {base : Heap}
abbrev veiPs : List Str := ["self", "side", "name", "limit", "lots", "shown", "owner"]
theorem nsc_V : NdefX.NScope ["self", "side", "name", "limit", "lots", "shown", "owner", "__class__"] veiPs ["__class__"] (defScope (inClass (top 19) 1)) := NdefX.nscope_by (by decide +kernel)
/-- an order's fault, told behind the first half of its making -/
def FltB (K : PySem.W.Frag) (r : V) (x : Addr) (H : Hp) (E : XK) : Prop := ∀ d H', But x H H' → H d = none → H' d = some (.xd [("reason", r)]) → E (.ref (He.ga K "InvalidOrder")) (some d) H'
def spVei (K : PySem.W.Frag) : Sp := fun vs H Q E => ∃ x dx sd nm lm lt sh ow b1 b2 b3 b4 b5 b6, vs = [.ref x, sd, nm, lm, lt, sh, ow] ∧ H x = some (.ins (cO K 3) dx []) ∧ SideV K H sd b1 ∧ NameV K H nm b2 ∧ WholeV K H lm b3 ∧ CountV K H lt b4 ∧ NameV K H ow b5 ∧ CountV K H sh b6 ∧
  (∀ r, faultV b1 b2 b3 b4 b5 = .str r → FltO K (.str r) H E) ∧ (faultV b1 b2 b3 b4 b5 = .non → b6 = false → FltB K (.str "shown") x H E) ∧ (faultV b1 b2 b3 b4 b5 = .non → ∀ z l, sh = .int z → lt = .int l → l < z → FltB K (.str "shown") x H E) ∧
  (faultV b1 b2 b3 b4 b5 = .non → b6 = true → ∀ z l, sh = .int z → lt = .int l → z ≤ l → ∀ T H', But x H H' → H' x = some (.ins (cO K 3) dx [("name", nm), ("told", .ref T)]) → H' T = some (.tup [.str (kindS 3), sd, nm, lm, lt, ow, sh]) → H T = none → Q .non H')
theorem CountV.but {H H' : Hp} {v : V} {b : Bool} {x C dx : Addr} (h : CountV K H v b) (hx : H x = some (.ins C dx [])) (hv : v ≠ .ref x) (B : But x H H') : CountV K H' v b := by
  rcases h with h | ⟨e, t, b1, b2, ty, k⟩
  · exact .inl h
  · refine .inr ⟨e, t, b1, b2, ?_, k⟩
    cases ty with
    | base h =>
      refine .base ?_
      cases h with
      | non => exact .non
      | bl x => exact .bl x
      | int i => exact .int i
      | str x => exact .str x
      | flt x => exact .flt x
      | lst e => exact .lst (B _ _ e fun z => hv (by rw [z]))
      | frz e => exact .frz (B _ _ e fun z => hv (by rw [z]))
      | tup e => exact .tup (B _ _ e fun z => hv (by rw [z]))
      | dK e => exact .dK (B _ _ e fun z => hv (by rw [z]))
      | dT e => exact .dT (B _ _ e fun z => hv (by rw [z]))
      | ins e a b c d f => exact .ins (B _ _ e fun z => hv (by rw [z])) a b c d f
    | byt b => exact .byt b
    | set e => exact .set (B _ _ e fun z => hv (by rw [z]))
    | kList e c => exact .kList e c
    | kTuple e c => exact .kTuple e c
    | kDict e c => exact .kDict e c
    | fTuple e => exact .fTuple (B _ _ e fun z => hv (by rw [z]))
    | fDict e => exact .fDict (B _ _ e fun z => hv (by rw [z]))
theorem fault_non {b1 b2 b3 b4 b5 : Bool} (h : faultV b1 b2 b3 b4 b5 = .non) : b1 = true ∧ b2 = true ∧ b3 = true ∧ b4 = true ∧ b5 = true := by
  cases b1 <;> cases b2 <;> cases b3 <;> cases b4 <;> cases b5 <;> first | exact ⟨rfl, rfl, rfl, rfl, rfl⟩ | cases h
theorem CountV.int {H : Hp} {v : V} (h : CountV K H v true) : ∃ i, v = .int i ∧ countB i = true := by
  rcases h with h | ⟨e, _⟩
  · exact h
  · cases e
theorem fn_VeiledOrder_init (T : Txt P K mg) {fd : FuncData} {cda cc : Addr} (S : SupF P K (aV K) (He.ma K (aV K) "__init__") (He.ma K (aO K) "__init__") "VeiledOrder.__init__" (defArgs (inClass (top 19) 1)) (defBody (inClass (top 19) 1)) (defScope (inClass (top 19) 1)) fd cda cc) :
    FnOk P w K mg base (L2.CX P w) 6 (He.ma K (aV K) "__init__") fd veiPs (fun vs H Q E => spVei K vs H Q E ∧ ∀ x, vs.head? = some (.ref x) → vs[5]? ≠ some (.ref x)) := by
  have GO := okK_Order_init (P := P) (w := w) (base := base) T
  obtain ⟨fI, fdI, ErC_InvalidOrder, ErB_InvalidOrder⟩ := T.e_InvalidOrder.made
  have G_is_count := okV_is_count (P := P) (w := w) (base := base) T
  have c := T.ord.v
  refine fn_supN S nsc_V (by decide +kernel) ⟨_, rfl, rfl⟩ (fun env => ⟨_, rfl⟩) GO (fun vs H Q E h => ?_) (fun _ => rfl) (fun _ => rfl) (fun _ => rfl) (fun _ => rfl) (fun A outer s H vs Q E hr h => ?_)
  · obtain ⟨⟨x, dx, sd, nm, lm, lt, sh, ow, b1, b2, b3, b4, b5, b6, rfl, _⟩, _⟩ := h
    rfl
  · obtain ⟨⟨x, dx, sd, nm, lm, lt, sh, ow, b1, b2, b3, b4, b5, b6, rfl, hx, v1, v2, v3, v4, v5, v6, k1, k2, k3, k4⟩, hns⟩ := h
    have hsh : sh ≠ .ref x := fun z => hns x rfl (by rw [z]; rfl)
    refine ⟨x, dx, [], _, _, _, _, _, rfl, hx, (passes_call (takes_of rfl rfl rfl rfl) (fun _ _ _ _ h => h)), (pa_cons (pv 1) (pa_cons (pv 2) (pa_cons (pv 3) (pa_cons (pv 4) pa_nil)))), (pk_cons (pv 6) pk_nil), (pss_cons (ps_if (PW.pt (pw_or (pt_not (pt_val (pe_f G_is_count (hr.mono (by decide)) (by rfl) T.g_is_count pass0 (pa_cons (pv 5) pa_nil)))) (pw_or1 (pt_cmpR op_gt (pv 5) (pv 4) (nomark _)))))
      (pss_one (ps_raise rfl (takes_of rfl rfl rfl rfl) (pmk_err ErC_InvalidOrder ErB_InvalidOrder (by decide) (hr.mono (by decide)) (by rfl) T.g_InvalidOrder (pa_cons pe_str pa_nil))))
      pss_nil)
    (pss_one (ps_fld (pv 0) (pe_tup (pa_cons (pe_con (pv 0) rfl) (pa_cons (pv 1) (pa_cons (pv 2) (pa_cons (pv 3) (pa_cons (pv 4) (pa_cons (pv 6) (pa_cons (pv 5) pa_nil)))))))) rfl))), ?_⟩
    refine ⟨_, rfl, _, rfl, _, rfl, _, rfl, _, rfl, rfl, rfl, 3, x, dx, sd, nm, lm, lt, ow, b1, b2, b3, b4, b5, rfl, by decide, hx, v1, v2, v3, v4, v5, k1, fun e T1 H1 B1 hx1 hT1 nT1 => ?_⟩
    have v61 := v6.but hx hsh B1
    have free1 : ∀ {d : Addr}, H1 d = none → H d = none := fun {d} h => by
      cases hd : H d with
      | none => rfl
      | some o =>
        by_cases z : d = x
        · rw [z, hx1] at h
          cases h
        · have := B1 _ _ hd z
          rw [h] at this
          cases this
    have fl : FltB K (.str "shown") x H E → ∀ d, H1 d = none → E (.ref (He.ga K "InvalidOrder")) (some d) (upd H1 d (.xd [("reason", .str "shown")])) := fun f d nd => f d _ (fun b o hb nb => same_new nd _ _ (B1 _ _ hb nb)) (free1 nd) upd_same
    refine ⟨_, rfl, _, _, rfl, v61, _, rfl, ?_⟩
    cases b6 with
    | false => exact iteTr rfl ⟨rfl, fl (k2 e rfl)⟩
    | true =>
      refine iteFa rfl ?_
      obtain ⟨z, rfl, hz⟩ := v6.int
      have e4 := (fault_non e).2.2.2.1
      subst e4
      obtain ⟨l, rfl, hl⟩ := v4.int
      refine ⟨_, rfl, _, rfl, _, _, rfl, rfl, _, rfl, ?_⟩
      by_cases hlz : l < z
      · exact iteTr (by simpa using hlz) ⟨rfl, fl (k3 e z l rfl rfl hlz)⟩
      · refine iteFa (by simpa using hlz) ?_
        obtain ⟨u, con⟩ := c.kd
        refine ⟨_, rfl, x, _, dx, _, _, u, rfl, hx1, c.pl.cls, con, rfl, ?_⟩
        refine ⟨_, rfl, _, rfl, _, rfl, _, rfl, _, rfl, _, rfl, show 7 ≤ sizeLine by decide, fun Tt nT => ?_⟩
        have nTx : Tt ≠ x := fun z => by rw [z, hx1] at nT; cases nT
        refine ⟨_, rfl, x, _, dx, _, rfl, (upd_ne (Ne.symm nTx)).trans hx1, c.pl.cls, c.no _ (by decide), (show 2 < 1000 by decide), ?_⟩
        refine k4 e rfl z l rfl rfl (by omega) Tt _ (fun b o hb nb => ?_) upd_same ((upd_ne nTx).trans upd_same) (free1 nT)
        rw [upd_ne nb, upd_ne (ne_of_none (B1 _ _ hb nb) nT)]
        exact B1 _ _ hb nb
end
end Kx
set_option maxHeartbeats 4000000
namespace Kx
open PySem PySem.Spec PyProof.Rows L2 Xr
local macro_rules | `(tactic| walk_at "rd") => `(tactic| (repeat (first | apply Exists.intro | (refine And.intro rfl ?_) | (refine And.intro (SqL.of (by assumption)) ?_) | (refine And.intro (Or.inl (SqL.of (by assumption))) ?_) | (refine Or.inl ⟨_, rfl, ?_⟩) | (refine Or.inr ⟨_, rfl, ?_⟩) | (refine And.intro (by assumption) ?_) | (refine And.intro (Or.inl (by assumption)) ?_))))
section
variable {P : Program} {w : World} {K : PySem.W.Frag} {mg : Str → Option Value} {base : Heap}
def spVeiN (K : PySem.W.Frag) : Sp := fun vs H Q E => spVei K vs H Q E ∧ ∀ x, vs.head? = some (.ref x) → vs[5]? ≠ some (.ref x)
theorem okK_VeiledOrder_init (T : Txt P K mg) : FnRK P w K mg base (L2.CX P w) 6 (He.ma K (aV K) "__init__") 5 ["shown", "owner"] (spVeiN K) := by
  obtain ⟨fd, cda, cc, S, _⟩ := T.ord.supV
  exact sup_kb S (fn_VeiledOrder_init T S) fun _ _ _ _ _ us ws hu hw => match us, ws, hu, hw with | [_, _, _, _, _], [_, _], _, _ => rfl
theorem okKK_VeiledOrder_init (T : Txt P K mg) : FnRK P w K mg base (L2.CX P w) 6 (He.ma K (aV K) "__init__") 1 ["owner", "shown", "lots", "limit", "name", "side"] (fun vs H Q E => ∃ u a b c d e f, vs = [u, a, b, c, d, e, f] ∧ spVeiN K [u, f, e, d, c, b, a] H Q E) := by
  obtain ⟨fd, cda, cc, S, _⟩ := T.ord.supV
  have F := fn_VeiledOrder_init (P := P) (w := w) (base := base) T S
  obtain ⟨kV, doc, pm, an, ct, oc, od, osl, efd, lk⟩ := S.fn
  subst efd
  intro A outer s H us ws vs zs Q E hr e0 r rz l1 l2 ⟨u, a, b, c, d, e, f, ev, h⟩
  match vs, zs, l1, l2, us, ws, r, rz, ev with
  | [v0], [z0, z1, z2, z3, z4, z5], _, _, [u0], [w0, w1, w2, w3, w4, w5], .cons q0 .nil, .cons q1 (.cons q2 (.cons q3 (.cons q4 (.cons q5 (.cons q6 .nil))))), ev =>
    cases ev
    exact F.run A outer s H ⟨[u0], [("owner", w0), ("shown", w1), ("lots", w2), ("limit", w3), ("name", w4), ("side", w5)]⟩ [u0, w5, w4, w3, w2, w1, w0] [u, f, e, d, c, b, a] Q E hr e0 (.of_eq rfl) (.cons q0 (.cons q6 (.cons q5 (.cons q4 (.cons q3 (.cons q2 (.cons q1 .nil))))))) h
/-- texts and numbers of an order, within bounds -/
structure RwOk (r : Rw) : Prop where
  kd : r.kd.length ≤ 100 ∧ PyData.strOk r.kd = true
  sd : r.sd.length ≤ 100 ∧ PyData.strOk r.sd = true
  nm : r.nm.length ≤ 100 ∧ PyData.strOk r.nm = true
  ow : r.ow.length ≤ 100 ∧ PyData.strOk r.ow = true
  lm : r.lm.natAbs.log2 < 1920
  lt : r.lt.natAbs.log2 < 1920
  vs : r.vs.natAbs.log2 < 1920
theorem sc_Order_side : FnScope ["self"] ["self"] (defScope (inClass (top 16) 3)) := ⟨rfl, rfl, rfl, by decide +kernel, rfl, by decide +kernel, by decide +kernel⟩
def spP_side (K : PySem.W.Frag) : Sp := fun vs H Q _ => ∃ i a r, vs = [.ref a] ∧ i < 4 ∧ OrdAt H (cO K i) a r ∧ Q (.str r.sd) H
theorem ok_P_side (T : Txt P K mg) : OkF P w K mg base CX0 1 (He5.wf K (He.ga K "Order") "property" "side") ["self"] (spP_side K) := by
  obtain ⟨fd, F⟩ := T.F_Order_side
  refine ⟨fd, F.ok sc_Order_side (fun vs H Q E h => ?_) (fun cdv A outer s H vs Q E hr h => ?_), F.bindsN fun _ _ _ _ _ _ us hl => match us, hl with | [_], _ => rfl, F.kp⟩
  · obtain ⟨i, a, r, rfl, _⟩ := h
    rfl
  · obtain ⟨i, a, r, rfl, hi, o, k⟩ := h
    have c := ocl T hi
    obtain ⟨dx, t, h1, h2⟩ := o.at_
    refine ⟨_, PSs.nox (pss_one (ps_ret (pe_ix (ix_tupK K) (pe_fld (pv 0) rfl) pe_int (fun _ _ => rfl)))), ?_⟩
    exact ⟨_, rfl, a, _, dx, _, _, rfl, h1, c.pl.cls, c.no _ (by decide), rfl, t, _, _, _, rfl, rfl, SqT.of h2, rfl, k⟩
theorem sc_Order_limit : FnScope ["self"] ["self"] (defScope (inClass (top 16) 4)) := ⟨rfl, rfl, rfl, by decide +kernel, rfl, by decide +kernel, by decide +kernel⟩
def spP_limit (K : PySem.W.Frag) : Sp := fun vs H Q _ => ∃ i a r, vs = [.ref a] ∧ i < 4 ∧ OrdAt H (cO K i) a r ∧ Q (.int r.lm) H
theorem ok_P_limit (T : Txt P K mg) : OkF P w K mg base CX0 1 (He5.wf K (He.ga K "Order") "property" "limit") ["self"] (spP_limit K) := by
  obtain ⟨fd, F⟩ := T.F_Order_limit
  refine ⟨fd, F.ok sc_Order_limit (fun vs H Q E h => ?_) (fun cdv A outer s H vs Q E hr h => ?_), F.bindsN fun _ _ _ _ _ _ us hl => match us, hl with | [_], _ => rfl, F.kp⟩
  · obtain ⟨i, a, r, rfl, _⟩ := h
    rfl
  · obtain ⟨i, a, r, rfl, hi, o, k⟩ := h
    have c := ocl T hi
    obtain ⟨dx, t, h1, h2⟩ := o.at_
    refine ⟨_, PSs.nox (pss_one (ps_ret (pe_ix (ix_tupK K) (pe_fld (pv 0) rfl) pe_int (fun _ _ => rfl)))), ?_⟩
    exact ⟨_, rfl, a, _, dx, _, _, rfl, h1, c.pl.cls, c.no _ (by decide), rfl, t, _, _, _, rfl, rfl, SqT.of h2, rfl, k⟩
theorem sc_Order_lots : FnScope ["self"] ["self"] (defScope (inClass (top 16) 5)) := ⟨rfl, rfl, rfl, by decide +kernel, rfl, by decide +kernel, by decide +kernel⟩
def spP_lots (K : PySem.W.Frag) : Sp := fun vs H Q _ => ∃ i a r, vs = [.ref a] ∧ i < 4 ∧ OrdAt H (cO K i) a r ∧ Q (.int r.lt) H
theorem ok_P_lots (T : Txt P K mg) : OkF P w K mg base CX0 1 (He5.wf K (He.ga K "Order") "property" "lots") ["self"] (spP_lots K) := by
  obtain ⟨fd, F⟩ := T.F_Order_lots
  refine ⟨fd, F.ok sc_Order_lots (fun vs H Q E h => ?_) (fun cdv A outer s H vs Q E hr h => ?_), F.bindsN fun _ _ _ _ _ _ us hl => match us, hl with | [_], _ => rfl, F.kp⟩
  · obtain ⟨i, a, r, rfl, _⟩ := h
    rfl
  · obtain ⟨i, a, r, rfl, hi, o, k⟩ := h
    have c := ocl T hi
    obtain ⟨dx, t, h1, h2⟩ := o.at_
    refine ⟨_, PSs.nox (pss_one (ps_ret (pe_ix (ix_tupK K) (pe_fld (pv 0) rfl) pe_int (fun _ _ => rfl)))), ?_⟩
    exact ⟨_, rfl, a, _, dx, _, _, rfl, h1, c.pl.cls, c.no _ (by decide), rfl, t, _, _, _, rfl, rfl, SqT.of h2, rfl, k⟩
theorem sc_Order_owner : FnScope ["self"] ["self"] (defScope (inClass (top 16) 6)) := ⟨rfl, rfl, rfl, by decide +kernel, rfl, by decide +kernel, by decide +kernel⟩
def spP_owner (K : PySem.W.Frag) : Sp := fun vs H Q _ => ∃ i a r, vs = [.ref a] ∧ i < 4 ∧ OrdAt H (cO K i) a r ∧ Q (.str r.ow) H
theorem ok_P_owner (T : Txt P K mg) : OkF P w K mg base CX0 1 (He5.wf K (He.ga K "Order") "property" "owner") ["self"] (spP_owner K) := by
  obtain ⟨fd, F⟩ := T.F_Order_owner
  refine ⟨fd, F.ok sc_Order_owner (fun vs H Q E h => ?_) (fun cdv A outer s H vs Q E hr h => ?_), F.bindsN fun _ _ _ _ _ _ us hl => match us, hl with | [_], _ => rfl, F.kp⟩
  · obtain ⟨i, a, r, rfl, _⟩ := h
    rfl
  · obtain ⟨i, a, r, rfl, hi, o, k⟩ := h
    have c := ocl T hi
    obtain ⟨dx, t, h1, h2⟩ := o.at_
    refine ⟨_, PSs.nox (pss_one (ps_ret (pe_ix (ix_tupK K) (pe_fld (pv 0) rfl) pe_int (fun _ _ => rfl)))), ?_⟩
    exact ⟨_, rfl, a, _, dx, _, _, rfl, h1, c.pl.cls, c.no _ (by decide), rfl, t, _, _, _, rfl, rfl, SqT.of h2, rfl, k⟩
theorem sc_Order_visible : FnScope ["self"] ["self"] (defScope (inClass (top 16) 7)) := ⟨rfl, rfl, rfl, by decide +kernel, rfl, by decide +kernel, by decide +kernel⟩
def spP_visible (K : PySem.W.Frag) : Sp := fun vs H Q _ => ∃ i a r, vs = [.ref a] ∧ i < 4 ∧ OrdAt H (cO K i) a r ∧ Q (.int r.vs) H
theorem ok_P_visible (T : Txt P K mg) : OkF P w K mg base CX0 1 (He5.wf K (He.ga K "Order") "property" "visible") ["self"] (spP_visible K) := by
  obtain ⟨fd, F⟩ := T.F_Order_visible
  refine ⟨fd, F.ok sc_Order_visible (fun vs H Q E h => ?_) (fun cdv A outer s H vs Q E hr h => ?_), F.bindsN fun _ _ _ _ _ _ us hl => match us, hl with | [_], _ => rfl, F.kp⟩
  · obtain ⟨i, a, r, rfl, _⟩ := h
    rfl
  · obtain ⟨i, a, r, rfl, hi, o, k⟩ := h
    have c := ocl T hi
    obtain ⟨dx, t, h1, h2⟩ := o.at_
    refine ⟨_, PSs.nox (pss_one (ps_ret (pe_ix (ix_tupK K) (pe_fld (pv 0) rfl) pe_int (fun _ _ => rfl)))), ?_⟩
    exact ⟨_, rfl, a, _, dx, _, _, rfl, h1, c.pl.cls, c.no _ (by decide), rfl, t, _, _, _, rfl, rfl, SqT.of h2, rfl, k⟩
theorem sc_VeiledOrder_shown : FnScope ["self"] ["self"] (defScope (inClass (top 19) 2)) := ⟨rfl, rfl, rfl, by decide +kernel, rfl, by decide +kernel, by decide +kernel⟩
def spP_shown (K : PySem.W.Frag) : Sp := fun vs H Q _ => ∃ a r, vs = [.ref a] ∧ OrdAt H (cO K 3) a r ∧ Q (.int r.vs) H
theorem ok_P_shown (T : Txt P K mg) : OkF P w K mg base CX0 1 (He5.wf K (He.ga K "VeiledOrder") "property" "shown") ["self"] (spP_shown K) := by
  obtain ⟨fd, F⟩ := T.F_VeiledOrder_shown
  refine ⟨fd, F.ok sc_VeiledOrder_shown (fun vs H Q E h => ?_) (fun cdv A outer s H vs Q E hr h => ?_), F.bindsN fun _ _ _ _ _ _ us hl => match us, hl with | [_], _ => rfl, F.kp⟩
  · obtain ⟨a, r, rfl, _⟩ := h
    rfl
  · obtain ⟨a, r, rfl, o, k⟩ := h
    have c := T.ord.v
    obtain ⟨dx, t, h1, h2⟩ := o.at_
    refine ⟨_, PSs.nox (pss_one (ps_ret (pe_ix (ix_tupK K) (pe_fld (pv 0) rfl) pe_int (fun _ _ => rfl)))), ?_⟩
    exact ⟨_, rfl, a, _, dx, _, _, rfl, h1, c.pl.cls, c.no _ (by decide), rfl, t, _, _, _, rfl, rfl, SqT.of h2, rfl, k⟩
theorem sc_Order_sign : FnScope ["self"] ["self"] (defScope (inClass (top 16) 8)) := ⟨rfl, rfl, rfl, by decide +kernel, rfl, by decide +kernel, by decide +kernel⟩
def signV (x : Str) : Int := if decide (V.str x = V.str "buy") = true then 1 else -1
def spP_sign (K : PySem.W.Frag) : Sp := fun vs H Q _ => ∃ i a r, vs = [.ref a] ∧ i < 4 ∧ OrdAt H (cO K i) a r ∧ Q (.int (signV r.sd)) H
theorem ok_P_sign (T : Txt P K mg) : OkF P w K mg base CX0 1 (He5.wf K (He.ga K "Order") "property" "sign") ["self"] (spP_sign K) := by
  obtain ⟨fd, F⟩ := T.F_Order_sign
  refine ⟨fd, F.ok sc_Order_sign (fun vs H Q E h => ?_) (fun cdv A outer s H vs Q E hr h => ?_), F.bindsN fun _ _ _ _ _ _ us hl => match us, hl with | [_], _ => rfl, F.kp⟩
  · obtain ⟨i, a, r, rfl, _⟩ := h
    rfl
  · obtain ⟨i, a, r, rfl, hi, o, k⟩ := h
    have c := ocl T hi
    obtain ⟨dx, t, h1, h2⟩ := o.at_
    refine ⟨_, PSs.nox (pss_one (ps_ret (pe_ifExp (pt_cmpR op_eq (pe_ix (ix_tupK K) (pe_fld (pv 0) rfl) pe_int (fun _ _ => rfl)) pe_str (nomark _)) pe_int (pe_un un_neg pe_int)))), ?_⟩
    refine ⟨_, rfl, a, _, dx, _, _, rfl, h1, c.pl.cls, c.no _ (by decide), rfl, t, _, _, _, rfl, rfl, SqT.of h2, rfl, rfl, _, rfl, ?_⟩
    unfold signV at k
    cases hd : decide (V.str r.sd = V.str "buy") with
    | true =>
      rw [hd, if_pos rfl] at k
      exact iteT k
    | false =>
      rw [hd, if_neg Bool.false_ne_true] at k
      exact iteFa rfl ⟨_, rfl, k⟩
/-! ### equal orders -/
def Rw.dat (r : Rw) : PyData := .tuple [.str r.kd, .str r.sd, .str r.nm, .int r.lm, .int r.lt, .str r.ow, .int r.vs]
theorem dp_rw {H : Hp} {t : Addr} {r : Rw} (h : H t = some (.tup r.tup)) : Dp K H (.ref t) r.dat := .tup (SqT.of h) (.cons (.str _) (.cons (.str _) (.cons (.str _) (.cons (.int _) (.cons (.int _) (.cons (.str _) (.cons (.int _) .nil)))))))
theorem shaped_rw {r : Rw} (g : RwOk r) : SeqAt.shaped r.dat = true := by
  unfold SeqAt.shaped Rw.dat
  simp [PyData.canLay0, PyData.canLayAll0, PyData.depth, PyData.depthAll, g.kd.2, g.sd.2, g.nm.2, g.ow.2]
def eqRw (r r' : Rw) : Bool := PyData.eqv r.dat r'.dat
theorem sc_Order___eq__ : FnScope ["self", "other"] ["self", "other"] (defScope (inClass (top 16) 9)) := ⟨rfl, rfl, rfl, by decide +kernel, rfl, by decide +kernel, by decide +kernel⟩
def spEqR (K : PySem.W.Frag) : Sp := fun vs H Q _ => ∃ i a v r, vs = [.ref a, v] ∧ i < 4 ∧ OrdAt H (cO K i) a r ∧ RwOk r ∧ ((∃ j b r', v = .ref b ∧ j < 4 ∧ OrdAt H (cO K j) b r' ∧ RwOk r' ∧ Q (.bl (eqRw r r')) H) ∨ ∃ t, TyX K H v t ∧ PySem.W.kitOne K t (.ref (aO K)) = some false ∧ Q (.bl false) H)
theorem ok_Order___eq__ (T : Txt P K mg) : OkF P w K mg base CX0 1 (He.ma K (He.ga K "Order") "__eq__") ["self", "other"] (spEqR K) := by
  obtain ⟨fd, F⟩ := T.F_Order___eq__
  refine ⟨fd, F.ok sc_Order___eq__ (fun vs H Q E h => ?_) (fun cdv A outer s H vs Q E hr h => ?_), F.bindsN fun _ _ _ _ _ _ us hl => match us, hl with | [_, _], _ => rfl, F.kp⟩
  · obtain ⟨i, a, v, r, rfl, _⟩ := h
    rfl
  · obtain ⟨i, a, v, r, rfl, hi, o, g, k⟩ := h
    have hu64 := hr.units
    have c := ocl T hi
    obtain ⟨dx, t, h1, h2⟩ := o.at_
    refine ⟨_, PSs.nox (pss_one (ps_ret (pe_and (pe_callB (call_isiK K) (by rfl) T.z_isinstance (by decide +kernel) (pa_cons (pv 1) (pa_cons (pe_glob (v := .ref (He.ga K "Order")) (by rfl) T.g_Order rfl) pa_nil))) (pe_one (pe_cmpR (op_eqD hu64) (pe_fld (pv 0) rfl) (pe_fld (pv 1) rfl) (nomark _)))))), ?_⟩
    rcases k with ⟨j, b, r', rfl, hj, o', g', k⟩ | ⟨ty, t1, t2, k⟩
    · have c' := ocl T hj
      obtain ⟨dy, t', h3, h4⟩ := o'.at_
      refine ⟨_, rfl, _, _, _, _, _, rfl, .own (aO K), c'.pl.ty T.all h3, c'.ko, _, rfl, iteT ?_⟩
      refine ⟨_, rfl, a, _, dx, _, _, rfl, h1, c.pl.cls, c.no _ (by decide), rfl, _, rfl, b, _, dy, _, _, rfl, h3, c'.pl.cls, c'.no _ (by decide), rfl, ?_⟩
      exact ⟨_, _, dp_rw h2, dp_rw h4, shaped_rw g, shaped_rw g', k⟩
    · exact ⟨_, rfl, _, _, _, _, _, rfl, .own (aO K), t1, t2, _, rfl, k⟩
end
end Kx
set_option maxHeartbeats 4000000
namespace Kx
open PySem PySem.Spec PyProof.Rows L2 Xr
local macro_rules | `(tactic| walk_at "rd") => `(tactic| (repeat (first | apply Exists.intro | (refine And.intro rfl ?_) | (refine And.intro (SqL.of (by assumption)) ?_) | (refine And.intro (Or.inl (SqL.of (by assumption))) ?_) | (refine Or.inl ⟨_, rfl, ?_⟩) | (refine Or.inr ⟨_, rfl, ?_⟩) | (refine And.intro (by assumption) ?_) | (refine And.intro (Or.inl (by assumption)) ?_))))
theorem empty_app (x : Str) : Str.empty ++ x = x := by
  obtain ⟨c⟩ := x
  show (⟨#[] ++ c⟩ : Str) = ⟨c⟩
  rw [Array.empty_append]
theorem app_empty (x : Str) : x ++ ("" : Str) = x := by
  obtain ⟨c⟩ := x
  show (⟨c ++ #[]⟩ : Str) = ⟨c⟩
  rw [Array.append_empty]
theorem app_assoc (x y z : Str) : x ++ y ++ z = x ++ (y ++ z) := by
  obtain ⟨a⟩ := x
  obtain ⟨b⟩ := y
  obtain ⟨c⟩ := z
  show (⟨a ++ b ++ c⟩ : Str) = ⟨a ++ (b ++ c)⟩
  rw [Array.append_assoc]
theorem len_0 : Str.empty.length = 0 := rfl
theorem len_a : (" at " : Str).length = 4 := by decide
theorem len_b : (" " : Str).length = 1 := by decide
theorem len_s : (" shown " : Str).length = 7 := by decide
theorem len_f : (" for " : Str).length = 5 := by decide
theorem head_len : ∀ i, i < 4 → (headS i).length ≤ 4 := by decide +kernel
section
variable {P : Program} {w : World} {K : PySem.W.Frag} {mg : Str → Option Value} {base : Heap}
/-- the owner in an order's text -/
def behS (r : Rw) : Str := if r.ow = "nobody" then "" else " for " ++ r.ow
def txtO (hd : Str) (r : Rw) : Str := hd ++ r.sd ++ " " ++ numS r.lt ++ " " ++ r.nm ++ " at " ++ numS r.lm ++ behS r
def txtV (r : Rw) : Str := r.sd ++ " " ++ numS r.lt ++ " " ++ r.nm ++ " at " ++ numS r.lm ++ " shown " ++ numS r.vs ++ behS r
theorem beh_len {r : Rw} (g : RwOk r) : (behS r).length ≤ 105 := by
  unfold behS
  split
  · decide
  · rw [app_len, len_f]
    have := g.ow.1
    omega
local macro_rules | `(tactic| walk_at "szz") => `(tactic| (rw [sizeLine_eq]; simp only [app_len, len_0, len_a, len_b, len_s, len_f]; omega))
theorem sc_Order___str__ : FnScope ["self", "kind", "side", "name", "limit", "lots", "owner", "visible", "behind"] ["self"] (defScope (inClass (top 16) 10)) := ⟨rfl, rfl, rfl, by decide +kernel, rfl, by decide +kernel, by decide +kernel⟩
def spStrR (K : PySem.W.Frag) : Sp := fun vs H Q _ => ∃ i a r, vs = [.ref a] ∧ i < 4 ∧ OrdAt H (cO K i) a r ∧ RwOk r ∧ Q (.str (txtO (headS i) r)) H
theorem ok_Order___str__ (T : Txt P K mg) : OkF P w K mg base CX0 1 (He.ma K (He.ga K "Order") "__str__") ["self"] (spStrR K) := by
  obtain ⟨t1, c_NOBODY⟩ := T.c_NOBODY
  obtain ⟨fd, F⟩ := T.F_Order___str__
  refine ⟨fd, F.ok sc_Order___str__ (fun vs H Q E h => ?_) (fun cdv A outer s H vs Q E hr h => ?_), F.bindsN fun _ _ _ _ _ _ us hl => match us, hl with | [_], _ => rfl, F.kp⟩
  · obtain ⟨i, a, r, rfl, _⟩ := h
    rfl
  · obtain ⟨i, a, r, rfl, hi, o, g, k⟩ := h
    have c := ocl T hi
    obtain ⟨dx, t, h1, h2⟩ := o.at_
    obtain ⟨u, con⟩ := c.hd_
    have lh := head_len i hi
    have l1 := g.sd.1
    have l2 := g.nm.1
    have l3 := g.ow.1
    have l4 := int_text_len_1921 g.lt
    have l5 := int_text_len_1921 g.lm
    have l6 := beh_len g
    refine ⟨_, PSs.nox (pss_cons (ps_asg (pe_fld (pv 0) rfl) (pg_tup rfl (pgs_cons (pg_name (i := 1) sc_Order___str__.nd rfl (.inl rfl)) (pgs_cons (pg_name (i := 2) sc_Order___str__.nd rfl (.inl rfl)) (pgs_cons (pg_name (i := 3) sc_Order___str__.nd rfl (.inl rfl)) (pgs_cons (pg_name (i := 4) sc_Order___str__.nd rfl (.inl rfl)) (pgs_cons (pg_name (i := 5) sc_Order___str__.nd rfl (.inl rfl)) (pgs_cons (pg_name (i := 6) sc_Order___str__.nd rfl (.inl rfl)) (pgs_cons (pg_name (i := 7) sc_Order___str__.nd rfl (.inl rfl)) pgs_nil)))))))))
    (pss_cons (ps_asg (pe_cut (pe_ifExp (pt_cmpR op_eq (pv 6) (pe_glob (v := .str "nobody") (by rfl) c_NOBODY ⟨_, rfl⟩) (nomark _)) pe_str (pe_joined (.cons pe_str (.cons (pe_fmt (pv 6)) .nil))))) (pg_name (i := 8) sc_Order___str__.nd rfl (.inl rfl)))
    (pss_one (ps_ret (pe_joined (.cons (pe_fmt (pe_con (pv 0) rfl)) (.cons (pe_fmt (pv 2)) (.cons pe_str (.cons (pe_fmt (pv 5)) (.cons pe_str (.cons (pe_fmt (pv 3)) (.cons pe_str (.cons (pe_fmt (pv 4)) (.cons (pe_fmt (pv 8)) .nil)))))))))))))), ?_⟩
    refine ⟨_, rfl, a, _, dx, _, _, rfl, h1, c.pl.cls, c.no _ (by decide), rfl, t, _, rfl, SqT.of h2, rfl, _, _, rfl, _, _, rfl, _, _, rfl, _, _, rfl, _, _, rfl, _, _, rfl, _, _, rfl, rfl, ?_⟩
    refine .mk (fun v H' => v = .str (behS r) ∧ H' = H) ?_ ?_
    · refine ⟨_, rfl, rfl, _, rfl, ?_⟩
      by_cases e : r.ow = "nobody"
      · refine iteTr (decide_eq_true (congrArg V.str e)) ⟨?_, rfl⟩
        unfold behS
        rw [if_pos e]
      · refine iteFa (decide_eq_false fun z => e (V.str.inj z)) ?_
        refine ⟨_, rfl, by (walk_at "szz"), _, rfl, .inl ⟨r.ow, rfl, by rw [sizeLine_eq]; omega, r.ow, rfl, by (walk_at "szz"), ?_, rfl⟩⟩
        unfold behS
        rw [if_neg e, empty_app]
    rintro _ _ ⟨rfl, rfl⟩
    refine ⟨_, rfl, a, _, dx, _, _, u, rfl, h1, c.pl.cls, con, rfl, .inl ⟨headS i, rfl, by rw [sizeLine_eq]; omega, _, rfl, by (walk_at "szz"), ?_⟩⟩
    refine ⟨_, rfl, .inl ⟨r.sd, rfl, by rw [sizeLine_eq]; omega, _, rfl, by (walk_at "szz"), ?_⟩⟩
    refine ⟨_, rfl, by (walk_at "szz"), ?_⟩
    refine ⟨_, rfl, .inr ⟨r.lt, rfl, g.lt, _, rfl, by (walk_at "szz"), ?_⟩⟩
    refine ⟨_, rfl, by (walk_at "szz"), ?_⟩
    refine ⟨_, rfl, .inl ⟨r.nm, rfl, by rw [sizeLine_eq]; omega, _, rfl, by (walk_at "szz"), ?_⟩⟩
    refine ⟨_, rfl, by (walk_at "szz"), ?_⟩
    refine ⟨_, rfl, .inr ⟨r.lm, rfl, g.lm, _, rfl, by (walk_at "szz"), ?_⟩⟩
    refine ⟨_, rfl, .inl ⟨behS r, rfl, by rw [sizeLine_eq]; omega, _, rfl, by (walk_at "szz"), ?_⟩⟩
    rw [empty_app]
    exact k
theorem sc_VeiledOrder___str__ : FnScope ["self", "kind", "side", "name", "limit", "lots", "owner", "visible", "behind"] ["self"] (defScope (inClass (top 19) 3)) := ⟨rfl, rfl, rfl, by decide +kernel, rfl, by decide +kernel, by decide +kernel⟩
def spStrW (K : PySem.W.Frag) : Sp := fun vs H Q _ => ∃ a r, vs = [.ref a] ∧ OrdAt H (cO K 3) a r ∧ RwOk r ∧ Q (.str (txtV r)) H
theorem ok_VeiledOrder___str__ (T : Txt P K mg) : OkF P w K mg base CX0 1 (He.ma K (He.ga K "VeiledOrder") "__str__") ["self"] (spStrW K) := by
  obtain ⟨t1, c_NOBODY⟩ := T.c_NOBODY
  obtain ⟨fd, F⟩ := T.F_VeiledOrder___str__
  refine ⟨fd, F.ok sc_VeiledOrder___str__ (fun vs H Q E h => ?_) (fun cdv A outer s H vs Q E hr h => ?_), F.bindsN fun _ _ _ _ _ _ us hl => match us, hl with | [_], _ => rfl, F.kp⟩
  · obtain ⟨a, r, rfl, _⟩ := h
    rfl
  · obtain ⟨a, r, rfl, o, g, k⟩ := h
    have c := T.ord.v
    obtain ⟨dx, t, h1, h2⟩ := o.at_
    have l1 := g.sd.1
    have l2 := g.nm.1
    have l3 := g.ow.1
    have l4 := int_text_len_1921 g.lt
    have l5 := int_text_len_1921 g.lm
    have l7 := int_text_len_1921 g.vs
    have l6 := beh_len g
    refine ⟨_, PSs.nox (pss_cons (ps_asg (pe_fld (pv 0) rfl) (pg_tup rfl (pgs_cons (pg_name (i := 1) sc_VeiledOrder___str__.nd rfl (.inl rfl)) (pgs_cons (pg_name (i := 2) sc_VeiledOrder___str__.nd rfl (.inl rfl)) (pgs_cons (pg_name (i := 3) sc_VeiledOrder___str__.nd rfl (.inl rfl)) (pgs_cons (pg_name (i := 4) sc_VeiledOrder___str__.nd rfl (.inl rfl)) (pgs_cons (pg_name (i := 5) sc_VeiledOrder___str__.nd rfl (.inl rfl)) (pgs_cons (pg_name (i := 6) sc_VeiledOrder___str__.nd rfl (.inl rfl)) (pgs_cons (pg_name (i := 7) sc_VeiledOrder___str__.nd rfl (.inl rfl)) pgs_nil)))))))))
    (pss_cons (ps_asg (pe_cut (pe_ifExp (pt_cmpR op_eq (pv 6) (pe_glob (v := .str "nobody") (by rfl) c_NOBODY ⟨_, rfl⟩) (nomark _)) pe_str (pe_joined (.cons pe_str (.cons (pe_fmt (pv 6)) .nil))))) (pg_name (i := 8) sc_VeiledOrder___str__.nd rfl (.inl rfl)))
    (pss_one (ps_ret (pe_joined (.cons (pe_fmt (pv 2)) (.cons pe_str (.cons (pe_fmt (pv 5)) (.cons pe_str (.cons (pe_fmt (pv 3)) (.cons pe_str (.cons (pe_fmt (pv 4)) (.cons pe_str (.cons (pe_fmt (pv 7)) (.cons (pe_fmt (pv 8)) .nil))))))))))))))), ?_⟩
    refine ⟨_, rfl, a, _, dx, _, _, rfl, h1, c.pl.cls, c.no _ (by decide), rfl, t, _, rfl, SqT.of h2, rfl, _, _, rfl, _, _, rfl, _, _, rfl, _, _, rfl, _, _, rfl, _, _, rfl, _, _, rfl, rfl, ?_⟩
    refine .mk (fun v H' => v = .str (behS r) ∧ H' = H) ?_ ?_
    · refine ⟨_, rfl, rfl, _, rfl, ?_⟩
      by_cases e : r.ow = "nobody"
      · refine iteTr (decide_eq_true (congrArg V.str e)) ⟨?_, rfl⟩
        unfold behS
        rw [if_pos e]
      · refine iteFa (decide_eq_false fun z => e (V.str.inj z)) ?_
        refine ⟨_, rfl, by (walk_at "szz"), _, rfl, .inl ⟨r.ow, rfl, by rw [sizeLine_eq]; omega, r.ow, rfl, by (walk_at "szz"), ?_, rfl⟩⟩
        unfold behS
        rw [if_neg e, empty_app]
    rintro _ _ ⟨rfl, rfl⟩
    refine ⟨_, rfl, .inl ⟨r.sd, rfl, by rw [sizeLine_eq]; omega, _, rfl, by (walk_at "szz"), ?_⟩⟩
    refine ⟨_, rfl, by (walk_at "szz"), ?_⟩
    refine ⟨_, rfl, .inr ⟨r.lt, rfl, g.lt, _, rfl, by (walk_at "szz"), ?_⟩⟩
    refine ⟨_, rfl, by (walk_at "szz"), ?_⟩
    refine ⟨_, rfl, .inl ⟨r.nm, rfl, by rw [sizeLine_eq]; omega, _, rfl, by (walk_at "szz"), ?_⟩⟩
    refine ⟨_, rfl, by (walk_at "szz"), ?_⟩
    refine ⟨_, rfl, .inr ⟨r.lm, rfl, g.lm, _, rfl, by (walk_at "szz"), ?_⟩⟩
    refine ⟨_, rfl, by (walk_at "szz"), ?_⟩
    refine ⟨_, rfl, .inr ⟨r.vs, rfl, g.vs, _, rfl, by (walk_at "szz"), ?_⟩⟩
    refine ⟨_, rfl, .inl ⟨behS r, rfl, by rw [sizeLine_eq]; omega, _, rfl, by (walk_at "szz"), ?_⟩⟩
    rw [empty_app]
    exact k
end
end Kx
set_option maxHeartbeats 8000000
namespace Kx
open PySem PySem.Spec PyProof.Rows L2 Xr
local macro_rules | `(tactic| walk_at "rd") => `(tactic| (repeat (first | apply Exists.intro | (refine And.intro rfl ?_) | (refine And.intro (SqL.of (by assumption)) ?_) | (refine And.intro (Or.inl (SqL.of (by assumption))) ?_) | (refine Or.inl ⟨_, rfl, ?_⟩) | (refine Or.inr ⟨_, rfl, ?_⟩) | (refine And.intro (by assumption) ?_) | (refine And.intro (Or.inl (by assumption)) ?_))))
theorem nm_len8 {x : Str} (z : nameB x = true) : x.length ≤ 8 := by
  unfold nameB at z
  obtain ⟨z1, _⟩ := Bool.and_eq_true_iff.mp z
  obtain ⟨_, z1⟩ := Bool.and_eq_true_iff.mp z1
  exact of_decide_eq_true z1
theorem nm_ok {x : Str} (z : nameB x = true) : PyData.strOk x = true := name_ok (show nameS x = true from z)
theorem side_two {x : Str} (h : sideB x = true) : x = "buy" ∨ x = "sell" := by
  unfold sideB inV at h
  simp [eqV] at h
  exact h.imp Eq.symm Eq.symm
theorem log_whole {i : Int} (h : wholeB i = true) : i.natAbs.log2 < 1920 := by
  have z := of_decide_eq_true h
  have e : ((10 : Int) ^ 60) = ((10 ^ 60 : Nat) : Int) := by decide
  have z2 : i.natAbs < 10 ^ 60 := by
    unfold absV at z
    rw [e] at z
    split at z <;> omega
  by_cases h0 : i.natAbs = 0
  · rw [h0]
    decide
  · refine (Nat.log2_lt h0).mpr (Nat.lt_trans z2 ?_)
    exact Nat.lt_of_lt_of_le (show 10 ^ 60 < 2 ^ 200 by decide) (Nat.pow_le_pow_right (by decide) (by decide))
theorem count_whole {i : Int} (h : countB i = true) : wholeB i = true ∧ 1 ≤ i := by
  obtain ⟨h1, h2⟩ := Bool.and_eq_true_iff.mp h
  exact ⟨h1, of_decide_eq_true h2⟩
theorem count_le {l z : Int} (h : countB l = true) (h1 : 1 ≤ z) (h2 : z ≤ l) : countB z = true := by
  have hl := of_decide_eq_true (count_whole h).1
  unfold countB
  rw [decide_eq_true h1, Bool.and_true]
  refine decide_eq_true ?_
  unfold absV at hl ⊢
  split at hl <;> (split <;> omega)
theorem kind_ok : ∀ i, i < 4 → (kindS i).length ≤ 100 ∧ PyData.strOk (kindS i) = true := by decide +kernel
theorem cases_no {cs : List (Str × TS)} {x y : Str} {t : TS} {D : Ends} {σ : L2.St} {H : Hp} (h : decide (x = y) = false) (k : tCases cs x D σ H) : tCases ((y, t) :: cs) x D σ H := by
  show if decide (x = y) = true then _ else _
  rw [h]
  exact k
theorem cases_yes {cs : List (Str × TS)} {x y : Str} {t : TS} {D : Ends} {σ : L2.St} {H : Hp} (h : decide (x = y) = true) (k : t D σ H) : tCases ((y, t) :: cs) x D σ H := by
  show if decide (x = y) = true then _ else _
  rw [h]
  exact k
theorem count_one : countB 1 = true := by decide +kernel
theorem whole_zero : wholeB 0 = true := by decide +kernel
section
variable {P : Program} {w : World} {K : PySem.W.Frag} {mg : Str → Option Value} {base : Heap}
/-- an order of the i-th class as it must be -/
structure RwG (i : Nat) (r : Rw) : Prop where
  kd : r.kd = kindS i
  g : r.good
  vs : 1 ≤ r.vs ∧ r.vs ≤ r.lt
  nv : i ≠ 3 → r.vs = r.lt
theorem RwG.ok {i : Nat} (hi : i < 4) {r : Rw} (h : RwG i r) : RwOk r := by
  have hl := count_whole h.g.lt
  refine ⟨h.kd ▸ kind_ok i hi, ?_, ⟨by have := nm_len8 h.g.nm; omega, nm_ok h.g.nm⟩, ⟨by have := nm_len8 h.g.ow; omega, nm_ok h.g.ow⟩, log_whole h.g.lm, log_whole hl.1, log_whole ?_⟩
  · rcases side_two h.g.sd with e | e <;> (rw [e]; decide +kernel)
  · have z := of_decide_eq_true hl.1
    refine decide_eq_true ?_
    have := h.vs
    unfold absV at z ⊢
    split at z <;> (split <;> omega)
theorem name_V {H : Hp} {x : Str} (z : nameB x = true) : NameV K H (.str x) true := .inl ⟨x, rfl, by have := nm_len8 z; omega, z⟩
theorem mkO_sub {i : Nat} {H : Hp} {sd nm ow : Str} {lm lt : Int} {Q : VK} {E : XK} (g1 : sideB sd = true) (g2 : nameB nm = true) (g3 : wholeB lm = true) (g4 : countB lt = true) (g5 : nameB ow = true)
    (k : ∀ b H', Same H H' → H b = none → OrdAt H' (cO K i) b ⟨kindS i, sd, nm, lm, lt, ow, lt⟩ → Q (.ref b) H') :
    ∀ x dx, H x = none → H dx = none → dx ≠ x → spSub K i [.ref x, .str sd, .str nm, .int lm, .int lt, .str ow] (upd (upd H dx (.own x)) x (.ins (cO K i) dx [])) (fun v H2 => v = .non ∧ Q (.ref x) H2) E := by
  intro x dx nx ndx ne
  have sx : Same H (upd (upd H dx (.own x)) x (.ins (cO K i) dx [])) := fun b o hb => by
    rw [upd_ne (ne_of_none hb nx), upd_ne (ne_of_none hb ndx)]
    exact hb
  exact ⟨x, dx, _, _, _, _, _, true, true, true, true, true, rfl, upd_same, .inl ⟨sd, rfl, g1⟩, name_V g2, .inl ⟨lm, rfl, g3⟩, .inl ⟨lt, rfl, g4⟩, name_V g5, fun r e => (by cases e), fun _ T H' B hx hT _ => ⟨rfl, k x H' (fun b o hb => B b o (sx _ _ hb) (ne_of_none hb nx)) nx ⟨dx, T, hx, hT⟩⟩⟩
theorem mkO_vei {H : Hp} {sd nm ow : Str} {lm lt sh : Int} {Q : VK} {E : XK} (g1 : sideB sd = true) (g2 : nameB nm = true) (g3 : wholeB lm = true) (g4 : countB lt = true) (g5 : nameB ow = true) (g6 : countB sh = true) (g7 : sh ≤ lt)
    (k : ∀ b H', Same H H' → H b = none → OrdAt H' (cO K 3) b ⟨kindS 3, sd, nm, lm, lt, ow, sh⟩ → Q (.ref b) H') :
    ∀ x dx, H x = none → H dx = none → dx ≠ x → spVeiN K [.ref x, .str sd, .str nm, .int lm, .int lt, .int sh, .str ow] (upd (upd H dx (.own x)) x (.ins (cO K 3) dx [])) (fun v H2 => v = .non ∧ Q (.ref x) H2) E := by
  intro x dx nx ndx ne
  have sx : Same H (upd (upd H dx (.own x)) x (.ins (cO K 3) dx [])) := fun b o hb => by
    rw [upd_ne (ne_of_none hb nx), upd_ne (ne_of_none hb ndx)]
    exact hb
  refine ⟨⟨x, dx, _, _, _, _, _, _, true, true, true, true, true, true, rfl, upd_same, .inl ⟨sd, rfl, g1⟩, name_V g2, .inl ⟨lm, rfl, g3⟩, .inl ⟨lt, rfl, g4⟩, name_V g5, .inl ⟨sh, rfl, g6⟩, fun r e => (by cases e), fun _ e => (by cases e), fun _ z l e1 e2 h => ?_, fun _ _ z l e1 e2 h T H' B hx hT _ => ⟨rfl, k x H' (fun b o hb => B b o (sx _ _ hb) (ne_of_none hb nx)) nx ⟨dx, T, hx, hT⟩⟩⟩, fun y _ e => by cases e⟩
  cases e1
  cases e2
  omega
theorem sc_bare : FnScope ["order"] ["order"] (defScope (top 20)) := ⟨rfl, rfl, rfl, by decide +kernel, rfl, by decide +kernel, by decide +kernel⟩
def spBare (K : PySem.W.Frag) : Sp := fun vs H Q _ => ∃ i a r, vs = [.ref a] ∧ i < 4 ∧ OrdAt H (cO K i) a r ∧ RwG i r ∧ ∀ b H', Same H H' → H b = none → OrdAt H' (cO K i) b ⟨kindS i, r.sd, r.nm, 0, 1, r.ow, 1⟩ → Q (.ref b) H'
theorem ok_bare (T : Txt P K mg) : OkF P w K mg base CX0 8 (He.ga K "bare") ["order"] (spBare K) := by
  have G_P_side := ok_P_side (P := P) (w := w) (base := base) T
  have G_P_owner := ok_P_owner (P := P) (w := w) (base := base) T
  have G_OrderK := okK_Order_init (P := P) (w := w) (base := base) T
  have G_NowOrderK := okK_NowOrder_init (P := P) (w := w) (base := base) T
  have G_AllOrderK := okK_AllOrder_init (P := P) (w := w) (base := base) T
  have G_VeiledOrderK := okK_VeiledOrder_init (P := P) (w := w) (base := base) T
  obtain ⟨fd, F⟩ := T.F_bare
  refine ⟨fd, F.ok sc_bare (fun vs H Q E h => ?_) (fun cdv A outer s H vs Q E hr h => ?_), F.bindsN fun _ _ _ _ _ _ us hl => match us, hl with | [_], _ => rfl, F.kp⟩
  · obtain ⟨i, a, r, rfl, _⟩ := h
    rfl
  · obtain ⟨i, a, r, rfl, hi, o, g, k⟩ := h
    have c := ocl T hi
    obtain ⟨dx, t, h1, h2⟩ := id o.at_
    obtain ⟨u, con⟩ := c.kd
    have gg := g.g
    refine ⟨_, PSs.nox (pss_cons (ps_match (pe_con (pv 0) rfl) (pcs_cons pe_str (pss_one (ps_ret (pe_makeRK T.ord.v.mks G_VeiledOrderK (hr.mono (by decide)) (by rfl) T.g_VeiledOrder passN (pa_cons (pe_prF (pv 0) c.pl.cls (c.pr "side" (by decide)) G_P_side (hr.mono (by decide)) pass0) (pa_cons (pe_fld (pv 0) rfl) (pa_cons pe_int (pa_cons pe_int pa_nil)))) (pk_cons pe_int (pk_cons (pe_prF (pv 0) c.pl.cls (c.pr "owner" (by decide)) G_P_owner (hr.mono (by decide)) pass0) pk_nil)))))
      (pcs_cons pe_str (pss_one (ps_ret (pe_makeRK T.ord.n.mks G_NowOrderK (hr.mono (by decide)) (by rfl) T.g_NowOrder passN (pa_cons (pe_prF (pv 0) c.pl.cls (c.pr "side" (by decide)) G_P_side (hr.mono (by decide)) pass0) (pa_cons (pe_fld (pv 0) rfl) (pa_cons pe_int (pa_cons pe_int pa_nil)))) (pk_cons (pe_prF (pv 0) c.pl.cls (c.pr "owner" (by decide)) G_P_owner (hr.mono (by decide)) pass0) pk_nil))))
      (pcs_cons pe_str (pss_one (ps_ret (pe_makeRK T.ord.a.mks G_AllOrderK (hr.mono (by decide)) (by rfl) T.g_AllOrder passN (pa_cons (pe_prF (pv 0) c.pl.cls (c.pr "side" (by decide)) G_P_side (hr.mono (by decide)) pass0) (pa_cons (pe_fld (pv 0) rfl) (pa_cons pe_int (pa_cons pe_int pa_nil)))) (pk_cons (pe_prF (pv 0) c.pl.cls (c.pr "owner" (by decide)) G_P_owner (hr.mono (by decide)) pass0) pk_nil))))
      pcs_nil))))
    (pss_one (ps_ret (pe_makeRK T.ord.o.mks G_OrderK (hr.mono (by decide)) (by rfl) T.g_Order passN (pa_cons (pe_prF (pv 0) c.pl.cls (c.pr "side" (by decide)) G_P_side (hr.mono (by decide)) pass0) (pa_cons (pe_fld (pv 0) rfl) (pa_cons pe_int (pa_cons pe_int pa_nil)))) (pk_cons (pe_prF (pv 0) c.pl.cls (c.pr "owner" (by decide)) G_P_owner (hr.mono (by decide)) pass0) pk_nil))))), ?_⟩
    refine ⟨_, rfl, a, _, dx, _, _, u, rfl, h1, c.pl.cls, con, rfl, kindS i, rfl, ?_⟩
    match i, hi, o, c, h1, k with
    | 0, hi, o, c, h1, k =>
      refine cases_no (by decide +kernel) (cases_no (by decide +kernel) (cases_no (by decide +kernel) ?_))
      refine ⟨_, rfl, a, dx, _, rfl, h1, 0, a, r, rfl, hi, o, _, rfl, a, _, dx, _, _, rfl, h1, c.pl.cls, c.no _ (by decide), rfl, _, rfl, a, dx, _, rfl, h1, 0, a, r, rfl, hi, o, rfl, rfl, fun x dx' nx ndx ne => spSub_I (i := 0) (by decide) ?_⟩
      exact mkO_sub (i := 0) gg.sd gg.nm whole_zero count_one gg.ow k x dx' nx ndx ne
    | 1, hi, o, c, h1, k =>
      refine cases_no (by decide +kernel) (cases_yes (by decide +kernel) ?_)
      refine ⟨_, rfl, a, dx, _, rfl, h1, 1, a, r, rfl, hi, o, _, rfl, a, _, dx, _, _, rfl, h1, c.pl.cls, c.no _ (by decide), rfl, _, rfl, a, dx, _, rfl, h1, 1, a, r, rfl, hi, o, rfl, rfl, ?_⟩
      exact mkO_sub (i := 1) gg.sd gg.nm whole_zero count_one gg.ow k
    | 2, hi, o, c, h1, k =>
      refine cases_no (by decide +kernel) (cases_no (by decide +kernel) (cases_yes (by decide +kernel) ?_))
      refine ⟨_, rfl, a, dx, _, rfl, h1, 2, a, r, rfl, hi, o, _, rfl, a, _, dx, _, _, rfl, h1, c.pl.cls, c.no _ (by decide), rfl, _, rfl, a, dx, _, rfl, h1, 2, a, r, rfl, hi, o, rfl, rfl, ?_⟩
      exact mkO_sub (i := 2) gg.sd gg.nm whole_zero count_one gg.ow k
    | 3, hi, o, c, h1, k =>
      refine cases_yes (by decide +kernel) ?_
      refine ⟨_, rfl, a, dx, _, rfl, h1, 3, a, r, rfl, hi, o, _, rfl, a, _, dx, _, _, rfl, h1, c.pl.cls, c.no _ (by decide), rfl, _, rfl, a, dx, _, rfl, h1, 3, a, r, rfl, hi, o, rfl, rfl, ?_⟩
      exact mkO_vei gg.sd gg.nm whole_zero count_one gg.ow count_one (Int.le_refl _) k
theorem sc_remade : FnScope ["order", "lots", "limit", "shown", "found", "visible"] ["order", "lots", "limit", "shown"] (defScope (top 21)) := ⟨rfl, rfl, rfl, by decide +kernel, rfl, by decide +kernel, by decide +kernel⟩
/-- the order with other numbers -/
def Rw.re (r : Rw) (i : Nat) (l m s : Int) : Rw := ⟨kindS i, r.sd, r.nm, m, l, r.ow, if i = 3 then s else l⟩
def spRemade (K : PySem.W.Frag) : Sp := fun vs H Q _ => ∃ i a r l m s, vs = [.ref a, .int l, .int m, .int s] ∧ i < 4 ∧ OrdAt H (cO K i) a r ∧ RwG i r ∧ ∀ b H', Same H H' → H b = none → OrdAt H' (cO K i) b (r.re i l m s) → Q (.ref b) H'
theorem kind_v : ∀ i, i < 4 → decide (V.str (kindS i) = V.str "veiled") = decide (i = 3) := by decide +kernel
theorem ok_remade (T : Txt P K mg) : OkF P w K mg base CX0 9 (He.ga K "remade") ["order", "lots", "limit", "shown"] (spRemade K) := by
  have G_bare := ok_bare (P := P) (w := w) (base := base) T
  have G_P_side := ok_P_side (P := P) (w := w) (base := base) T
  have G_P_owner := ok_P_owner (P := P) (w := w) (base := base) T
  obtain ⟨fd, F⟩ := T.F_remade
  refine ⟨fd, F.ok sc_remade (fun vs H Q E h => ?_) (fun cdv A outer s H vs Q E hr h => ?_), F.bindsN fun _ _ _ _ _ _ us hl => match us, hl with | [_, _, _, _], _ => rfl, F.kp⟩
  · obtain ⟨i, a, r, l, m, s, rfl, _⟩ := h
    rfl
  · obtain ⟨i, a, r, l, m, sh, rfl, hi, o, g, k⟩ := h
    have c := ocl T hi
    obtain ⟨u, con⟩ := c.kd
    refine ⟨_, PSs.nox (pss_cons (ps_asg (pe_f G_bare (hr.mono (by decide)) (by rfl) T.g_bare pass0 (pa_cons (pv 0) pa_nil)) (pg_name (i := 4) sc_remade.nd rfl (.inl rfl)))
    (pss_cons (ps_asg (pe_cut (pe_ifExp (pt_cmpR op_eq (pe_con (pv 0) rfl) pe_str (nomark _)) (pv 3) (pv 1))) (pg_name (i := 5) sc_remade.nd rfl (.inl rfl)))
    (pss_cons (ps_fld (pv 4) (pe_tup (pa_cons (pe_con (pv 0) rfl) (pa_cons (pe_prF (pv 0) c.pl.cls (c.pr "side" (by decide)) G_P_side (hr.mono (by decide)) pass0) (pa_cons (pe_fld (pv 0) rfl) (pa_cons (pv 2) (pa_cons (pv 1) (pa_cons (pe_prF (pv 0) c.pl.cls (c.pr "owner" (by decide)) G_P_owner (hr.mono (by decide)) pass0) (pa_cons (pv 5) pa_nil)))))))) rfl)
    (pss_one (ps_ret (pv 4)))))), ?_⟩
    refine ⟨_, rfl, i, a, r, rfl, hi, o, g, fun b H1 s1 nb ob => ?_⟩
    have o1 := o.same s1
    obtain ⟨dx, t, h1, h2⟩ := o1.at_
    obtain ⟨dy, t', h3, h4⟩ := ob.at_
    refine .mk (fun v H' => v = .int (if i = 3 then sh else l) ∧ H' = H1) ?_ ?_
    · refine ⟨_, rfl, a, _, dx, _, _, u, rfl, h1, c.pl.cls, con, rfl, rfl, _, rfl, ?_⟩
      rw [kind_v i hi]
      by_cases e : i = 3
      · exact iteTr (decide_eq_true e) ⟨_, rfl, by rw [if_pos e], rfl⟩
      · exact iteFa (decide_eq_false e) ⟨_, rfl, by rw [if_neg e], rfl⟩
    rintro _ _ ⟨rfl, rfl⟩
    refine ⟨_, rfl, a, _, dx, _, _, u, rfl, h1, c.pl.cls, con, rfl, _, rfl, a, dx, _, rfl, h1, i, a, r, rfl, hi, o1, _, rfl, a, _, dx, _, _, rfl, h1, c.pl.cls, c.no _ (by decide), rfl, _, rfl, _, rfl, _, rfl, a, dx, _, rfl, h1, i, a, r, rfl, hi, o1, _, rfl, show 7 ≤ sizeLine by decide, fun Tt nT => ?_⟩
    have nTb : Tt ≠ b := fun z => by rw [z, h3] at nT; cases nT
    refine ⟨_, rfl, b, _, dy, _, rfl, same_new nT _ _ h3, c.pl.cls, c.no _ (by decide), (show 2 < 1000 by decide), _, rfl, ?_⟩
    refine k b _ (fun y ob hy => ?_) nb ⟨dy, Tt, upd_same, (upd_ne nTb).trans upd_same⟩
    rw [upd_ne (ne_of_none hy nb)]
    exact same_new nT _ _ (s1 _ _ hy)
theorem sc_left_over : FnScope ["order", "lots"] ["order", "lots"] (defScope (top 22)) := ⟨rfl, rfl, rfl, by decide +kernel, rfl, by decide +kernel, by decide +kernel⟩
def spLeft (K : PySem.W.Frag) : Sp := fun vs H Q _ => ∃ i a r l, vs = [.ref a, .int l] ∧ i < 4 ∧ OrdAt H (cO K i) a r ∧ RwG i r ∧ ∀ b H', Same H H' → H b = none → OrdAt H' (cO K i) b (r.re i l r.lm (if l < r.vs then l else r.vs)) → Q (.ref b) H'
theorem ok_left_over (T : Txt P K mg) : OkF P w K mg base CX0 10 (He.ga K "left_over") ["order", "lots"] (spLeft K) := by
  have G_remade := ok_remade (P := P) (w := w) (base := base) T
  have G_P_limit := ok_P_limit (P := P) (w := w) (base := base) T
  have G_P_visible := ok_P_visible (P := P) (w := w) (base := base) T
  obtain ⟨fd, F⟩ := T.F_left_over
  refine ⟨fd, F.ok sc_left_over (fun vs H Q E h => ?_) (fun cdv A outer s H vs Q E hr h => ?_), F.bindsN fun _ _ _ _ _ _ us hl => match us, hl with | [_, _], _ => rfl, F.kp⟩
  · obtain ⟨i, a, r, l, rfl, _⟩ := h
    rfl
  · obtain ⟨i, a, r, l, rfl, hi, o, g, k⟩ := h
    have c := ocl T hi
    obtain ⟨dx, t, h1, h2⟩ := id o.at_
    refine ⟨_, PSs.nox (pss_one (ps_ret (pe_f G_remade (hr.mono (by decide)) (by rfl) T.g_remade pass0 (pa_cons (pv 0) (pa_cons (pv 1) (pa_cons (pe_prF (pv 0) c.pl.cls (c.pr "limit" (by decide)) G_P_limit (hr.mono (by decide)) pass0) (pa_cons (pe_callB (call_min2 rfl) (by rfl) T.z_min (by decide +kernel) (pa_cons (pe_prF (pv 0) c.pl.cls (c.pr "visible" (by decide)) G_P_visible (hr.mono (by decide)) pass0) (pa_cons (pv 1) pa_nil))) pa_nil))))))), ?_⟩
    exact ⟨_, rfl, _, rfl, _, rfl, a, dx, _, rfl, h1, i, a, r, rfl, hi, o, _, rfl, a, dx, _, rfl, h1, i, a, r, rfl, hi, o, _, rfl, _, _, rfl, i, a, r, l, r.lm, _, rfl, hi, o, g, k⟩
end
end Kx
set_option maxHeartbeats 8000000
namespace Kx
open PySem PySem.Spec PyProof.Rows L2 Xr
local macro_rules | `(tactic| walk_at "rd") => `(tactic| (repeat (first | apply Exists.intro | (refine And.intro rfl ?_) | (refine And.intro (SqL.of (by assumption)) ?_) | (refine And.intro (Or.inl (SqL.of (by assumption))) ?_) | (refine Or.inl ⟨_, rfl, ?_⟩) | (refine Or.inr ⟨_, rfl, ?_⟩) | (refine And.intro (by assumption) ?_) | (refine And.intro (Or.inl (by assumption)) ?_))))
section
variable {P : Program} {w : World} {K : PySem.W.Frag} {mg : Str → Option Value} {base : Heap}
theorem RwG.lots {i : Nat} {r : Rw} (g : RwG i r) {l : Int} (h : countB l = true) : RwG i (r.re i l r.lm (if l < r.vs then l else r.vs)) := by
  have hl := (count_whole h).2
  have := g.vs
  refine ⟨rfl, ⟨g.g.sd, g.g.nm, g.g.lm, h, g.g.ow⟩, ?_, fun e => ?_⟩
  · show 1 ≤ (if i = 3 then (if l < r.vs then l else r.vs) else l) ∧ (if i = 3 then (if l < r.vs then l else r.vs) else l) ≤ l
    split
    · split <;> omega
    · omega
  · show (if i = 3 then (if l < r.vs then l else r.vs) else l) = l
    rw [if_neg e]
theorem RwG.limit {i : Nat} {r : Rw} (g : RwG i r) {m : Int} (h : wholeB m = true) : RwG i (r.re i r.lt m r.vs) := by
  have := g.vs
  refine ⟨rfl, ⟨g.g.sd, g.g.nm, h, g.g.lt, g.g.ow⟩, ?_, fun e => ?_⟩
  · show 1 ≤ (if i = 3 then r.vs else r.lt) ∧ (if i = 3 then r.vs else r.lt) ≤ r.lt
    split <;> omega
  · show (if i = 3 then r.vs else r.lt) = r.lt
    rw [if_neg e]
theorem sc_Order_with_lots : FnScope ["self", "lots"] ["self", "lots"] (defScope (inClass (top 16) 11)) := ⟨rfl, rfl, rfl, by decide +kernel, rfl, by decide +kernel, by decide +kernel⟩
def spWLots (K : PySem.W.Frag) : Sp := fun vs H Q E => ∃ i a r v b, vs = [.ref a, v] ∧ i < 4 ∧ OrdAt H (cO K i) a r ∧ RwG i r ∧ CountV K H v b ∧ (b = false → FltO K (.str "lots") H E) ∧
  (b = true → ∀ l, v = .int l → countB l = true → ∀ y H', Same H H' → H y = none → OrdAt H' (cO K i) y (r.re i l r.lm (if l < r.vs then l else r.vs)) → Q (.ref y) H')
theorem fn_with_lots (T : Txt P K mg) {fd : FuncData} (F : FunD K "with_lots" "Order.with_lots" (defArgs (inClass (top 16) 11)) (defBody (inClass (top 16) 11)) (defScope (inClass (top 16) 11)) [] [] (He.ma K (He.ga K "Order") "with_lots") fd) : FnOk P w K mg base (L2.CX P w) 11 (He.ma K (He.ga K "Order") "with_lots") fd ["self", "lots"] (spWLots K) := by
  obtain ⟨fI, fdI, ErC_InvalidOrder, ErB_InvalidOrder⟩ := T.e_InvalidOrder.made
  have G_is_count := okV_is_count (P := P) (w := w) (base := base) T
  have G_left_over := ok_left_over (P := P) (w := w) (base := base) T
  refine F.ok sc_Order_with_lots (fun vs H Q E h => ?_) (fun cdv A outer s H vs Q E hr h => ?_)
  · obtain ⟨i, a, r, v, b, rfl, _⟩ := h
    rfl
  · obtain ⟨i, a, r, v, b, rfl, hi, o, g, hv, k1, k2⟩ := h
    refine ⟨_, (pss_cons (ps_if (pt_not (pt_val (pe_f G_is_count (hr.mono (by decide)) (by rfl) T.g_is_count pass0 (pa_cons (pv 1) pa_nil))))
      (pss_one (ps_raise rfl (takes_of rfl rfl rfl rfl) (pmk_err ErC_InvalidOrder ErB_InvalidOrder (by decide) (hr.mono (by decide)) (by rfl) T.g_InvalidOrder (pa_cons pe_str pa_nil))))
      pss_nil)
    (pss_one (ps_ret (pe_f G_left_over (hr.mono (by decide)) (by rfl) T.g_left_over pass0 (pa_cons (pv 0) (pa_cons (pv 1) pa_nil)))))), ?_⟩
    refine ⟨_, rfl, _, _, rfl, hv, _, rfl, ?_⟩
    cases b with
    | false => exact iteTr rfl ⟨rfl, (k1 rfl).new⟩
    | true =>
      obtain ⟨l, rfl, hl⟩ := hv.int
      exact iteFa rfl ⟨_, rfl, _, rfl, i, a, r, l, rfl, hi, o, g, k2 rfl l rfl hl⟩
theorem sc_Order_with_limit : FnScope ["self", "limit"] ["self", "limit"] (defScope (inClass (top 16) 12)) := ⟨rfl, rfl, rfl, by decide +kernel, rfl, by decide +kernel, by decide +kernel⟩
def spWLim (K : PySem.W.Frag) : Sp := fun vs H Q E => ∃ i a r v b, vs = [.ref a, v] ∧ i < 4 ∧ OrdAt H (cO K i) a r ∧ RwG i r ∧ WholeV K H v b ∧ (b = false → FltO K (.str "limit") H E) ∧
  (b = true → ∀ m, v = .int m → wholeB m = true → ∀ y H', Same H H' → H y = none → OrdAt H' (cO K i) y (r.re i r.lt m r.vs) → Q (.ref y) H')
theorem WholeV.int {H : Hp} {v : V} (h : WholeV K H v true) : ∃ i, v = .int i ∧ wholeB i = true := by
  rcases h with h | ⟨e, _⟩
  · exact h
  · cases e
theorem fn_with_limit (T : Txt P K mg) {fd : FuncData} (F : FunD K "with_limit" "Order.with_limit" (defArgs (inClass (top 16) 12)) (defBody (inClass (top 16) 12)) (defScope (inClass (top 16) 12)) [] [] (He.ma K (He.ga K "Order") "with_limit") fd) : FnOk P w K mg base (L2.CX P w) 11 (He.ma K (He.ga K "Order") "with_limit") fd ["self", "limit"] (spWLim K) := by
  obtain ⟨fI, fdI, ErC_InvalidOrder, ErB_InvalidOrder⟩ := T.e_InvalidOrder.made
  have G_is_whole := okV_is_whole (P := P) (w := w) (base := base) T
  have G_remade := ok_remade (P := P) (w := w) (base := base) T
  refine F.ok sc_Order_with_limit (fun vs H Q E h => ?_) (fun cdv A outer s H vs Q E hr h => ?_)
  · obtain ⟨i, a, r, v, b, rfl, _⟩ := h
    rfl
  · obtain ⟨i, a, r, v, b, rfl, hi, o, g, hv, k1, k2⟩ := h
    have c := ocl T hi
    obtain ⟨dx, t, h1, h2⟩ := id o.at_
    refine ⟨_, (pss_cons (ps_if (pt_not (pt_val (pe_f G_is_whole (hr.mono (by decide)) (by rfl) T.g_is_whole pass0 (pa_cons (pv 1) pa_nil))))
      (pss_one (ps_raise rfl (takes_of rfl rfl rfl rfl) (pmk_err ErC_InvalidOrder ErB_InvalidOrder (by decide) (hr.mono (by decide)) (by rfl) T.g_InvalidOrder (pa_cons pe_str pa_nil))))
      pss_nil)
    (pss_one (ps_ret (pe_f G_remade (hr.mono (by decide)) (by rfl) T.g_remade pass0 (pa_cons (pv 0) (pa_cons (pe_ix (ix_tupK K) (pe_fld (pv 0) rfl) pe_int (fun _ _ => rfl)) (pa_cons (pv 1) (pa_cons (pe_ix (ix_tupK K) (pe_fld (pv 0) rfl) pe_int (fun _ _ => rfl)) pa_nil)))))))), ?_⟩
    refine ⟨_, rfl, _, _, rfl, hv, _, rfl, ?_⟩
    cases b with
    | false => exact iteTr rfl ⟨rfl, (k1 rfl).new⟩
    | true =>
      obtain ⟨m, rfl, hm⟩ := hv.int
      exact iteFa rfl ⟨_, rfl, _, rfl, a, _, dx, _, _, rfl, h1, c.pl.cls, c.no _ (by decide), rfl, t, _, _, _, rfl, rfl, SqT.of h2, rfl, _, rfl, _, rfl, a, _, dx, _, _, rfl, h1, c.pl.cls, c.no _ (by decide), rfl, t, _, _, _, rfl, rfl, SqT.of h2, rfl, i, a, r, r.lt, m, r.vs, rfl, hi, o, g, k2 rfl m rfl hm⟩
theorem okK_with_lots (T : Txt P K mg) : FnRK P w K mg base (L2.CX P w) 11 (He.ma K (He.ga K "Order") "with_lots") 1 ["lots"] (spWLots K) := by
  obtain ⟨fd, F⟩ := T.F_Order_with_lots
  exact fnOk_kw (fn_with_lots T F) (funD_kb F fun _ _ _ _ _ _ us ws hu hw => match us, ws, hu, hw with | [_], [_], _, _ => rfl)
theorem okK_with_limit (T : Txt P K mg) : FnRK P w K mg base (L2.CX P w) 11 (He.ma K (He.ga K "Order") "with_limit") 1 ["limit"] (spWLim K) := by
  obtain ⟨fd, F⟩ := T.F_Order_with_limit
  exact fnOk_kw (fn_with_limit T F) (funD_kb F fun _ _ _ _ _ _ us ws hu hw => match us, ws, hu, hw with | [_], [_], _, _ => rfl)
theorem ok_with_lots (T : Txt P K mg) : OkI P w K mg base (L2.CX P w) 11 (He.ma K (He.ga K "Order") "with_lots") ["self", "lots"] (spWLots K) := by
  obtain ⟨fd, F⟩ := T.F_Order_with_lots
  exact ⟨fd, fn_with_lots T F, F.bindsN fun _ _ _ _ _ _ us hl => match us, hl with | [_, _], _ => rfl⟩
theorem ok_with_limit (T : Txt P K mg) : OkI P w K mg base (L2.CX P w) 11 (He.ma K (He.ga K "Order") "with_limit") ["self", "limit"] (spWLim K) := by
  obtain ⟨fd, F⟩ := T.F_Order_with_limit
  exact ⟨fd, fn_with_limit T F, F.bindsN fun _ _ _ _ _ _ us hl => match us, hl with | [_, _], _ => rfl⟩
end
end Kx
set_option maxHeartbeats 4000000
namespace Kx
open PySem PySem.Spec PyProof.Rows L2 Xr
local macro_rules | `(tactic| walk_at "rd") => `(tactic| (repeat (first | apply Exists.intro | (refine And.intro rfl ?_) | (refine And.intro (SqL.of (by assumption)) ?_) | (refine And.intro (Or.inl (SqL.of (by assumption))) ?_) | (refine Or.inl ⟨_, rfl, ?_⟩) | (refine Or.inr ⟨_, rfl, ?_⟩) | (refine And.intro (by assumption) ?_) | (refine And.intro (Or.inl (by assumption)) ?_))))
def poolA : List Str := ["c", "fly", "a", "buy", "at"]
def poolB : List Str := ["zzzzzzzz", "q", "for", "nobody"]
def poolC : List Str := ["sell", "d", "now", "shown"]
def poolD : List Str := ["e", "m", "x"]
def leftL : List Str := poolA ++ (poolB ++ (poolC ++ poolD))
theorem left_names : ∀ k ∈ leftL, nameB k = true := by decide +kernel
section
variable {P : Program} {w : World} {K : PySem.W.Frag} {mg : Str → Option Value} {base : Heap}
theorem sc__law_names : FnScope ["_law_pen_here", "_law_many", "_law_left", "_law_turn"] ["_law_pen_here", "_law_many"] (defScope (top 27)) := ⟨rfl, rfl, rfl, by decide +kernel, rfl, by decide +kernel, by decide +kernel⟩
def spNames : Sp := fun vs H Q _ => ∃ (p q : Addr) (ns : List Int) (a r : Int), vs = [.ref p, .int 3] ∧ PenAt H p q ns a r ∧ a ≤ 800000 ∧
  ∀ (l : Addr) (ws : List Str) (a' r' : Int) (H' : Hp), H' l = some (.lst (ws.map V.str)) → H l = none → ws.length = 3 → (∀ x ∈ ws, nameB x = true) → a ≤ a' → a' ≤ a + 3 → But p H H' → PenAt H' p q ns a' r' → Q (.ref l) H'
theorem ok__law_names (T : Txt P K mg) : OkF P w K mg base CX0 2 (He.ga K "_law_names") ["_law_pen_here", "_law_many"] spNames := by
  have G__law_draw := ok__law_draw (P := P) (w := w) (base := base) T
  obtain ⟨fd, F⟩ := T.F__law_names
  refine ⟨fd, F.ok sc__law_names (fun vs H Q E h => ?_) (fun cdv A outer s H vs Q E hr h => ?_), F.bindsN fun _ _ _ _ _ _ us hl => match us, hl with | [_, _], _ => rfl, F.kp⟩
  · obtain ⟨p, q, ns, a, r, rfl, _⟩ := h
    rfl
  · obtain ⟨p, q, ns, a, r, rfl, S, a2, k⟩ := h
    refine ⟨_, PSs.nox (pss_cons (ps_asg (pe_lst (pa_cons pe_str (pa_cons pe_str (pa_cons pe_str (pa_cons pe_str (pa_cons pe_str (pa_cons pe_str (pa_cons pe_str (pa_cons pe_str (pa_cons pe_str (pa_cons pe_str (pa_cons pe_str (pa_cons pe_str (pa_cons pe_str (pa_cons pe_str (pa_cons pe_str (pa_cons pe_str pa_nil))))))))))))))))) (pg_name (i := 2) sc__law_names.nd rfl (.inr rfl)))
    (pss_one (ps_ret (pe_lc (own := [("_law_turn", 3)]) (g := gName 3) (tt := tYes) rfl sc__law_names.nd (pi_range1 (by rfl) T.z_range (pa_cons (pv 1) pa_nil)) (blkOk_by (N := ["_law_pen_here", "_law_many", "_law_left", "_law_turn"]) (sc := defScope (top 27)) (by decide +kernel)) (fun _ _ _ _ _ => pg_name (i := 3) sc__law_names.nd rfl (Or.inl rfl)) (fun _ _ _ _ _ => pts_nil) (fun _ _ _ _ _ => (pe_bmK K rfl PySem.F.plainAttrs_list PySem.F.slot_list_pop PySem.F.type_list_pop mt_popAt (pv 2) (pa_cons (pe_f G__law_draw (hr.mono (by decide)) (by rfl) T.g__law_draw pass0 (pa_cons (pv 0) (pa_cons (pe_callB (call_len_seqK K rfl) (by rfl) T.z_len (by decide +kernel) (pa_cons (pv 2) pa_nil)) pa_nil))) pa_nil))))))), ?_⟩
    refine ⟨show 16 ≤ sizeLine by decide, fun l nl => ?_⟩
    have s1 : Same H (upd H l (.lst (leftL.map V.str))) := same_new nl
    have h1 : upd H l (.lst (leftL.map V.str)) l = some (.lst (leftL.map V.str)) := upd_same
    generalize hG : upd H l (.lst _) = H1
    have eG : upd H l (.lst (leftL.map V.str)) = H1 := hG
    rw [eG] at s1 h1
    clear hG eG
    have nlp : l ≠ p := fun z => by rw [z, S.pen] at nl; cases nl
    refine ⟨_, rfl, 3, rfl, by decide, by decide, fun D hD => ?_⟩
    have nDp : D ≠ p := fun z => by rw [z, (S.same s1).pen] at hD; cases hD
    have nDl : D ≠ l := fun z => by rw [z, h1] at hD; cases hD
    refine lc_range (fun i H' => ∃ (xs ws : List Str) (a' r' : Int), H' l = some (.lst (xs.map V.str)) ∧ H' D = some (.lst (ws.map V.str)) ∧ xs.length + i = 16 ∧ ws.length = i ∧ (∀ x ∈ xs, nameB x = true) ∧ (∀ x ∈ ws, nameB x = true) ∧ But p H H' ∧ PenAt H' p q ns a' r' ∧ a ≤ a' ∧ a' ≤ a + i) ?_ ?_ ?_
    · exact ⟨leftL, [], a, r, same_new hD _ _ h1, upd_same, rfl, rfl, left_names, fun _ h => (List.not_mem_nil h).elim, fun b o hb _ => same_new hD _ _ (s1 _ _ hb), (S.same s1).same (same_new hD), Int.le_refl _, by omega⟩
    · rintro i H' hi ⟨xs, ws, a', r', hxs, hws, hxl, hwl, nx, nw, B, S', b1, b2⟩
      have hi3 : i < 3 := hi
      refine ⟨rfl, ?_⟩
      refine ⟨_, rfl, .inl ⟨rfl, _, SqL.of hxs⟩, _, rfl, _, rfl, l, _, rfl, .inl (SqL.of hxs), ?_⟩
      refine ⟨p, q, ns, a', r', _, rfl, S', by rw [List.length_map]; omega, by rw [List.length_map]; omega, by omega, fun j a5 r5 H5 j0 j1 f1 f2 B5 S5 => ?_⟩
      rw [List.length_map] at j1
      have hxs5 := B5 _ _ hxs nlp
      have hws5 := B5 _ _ hws nDp
      have hj : j.toNat < xs.length := by omega
      refine ⟨l, _, j, j.toNat, .str xs[j.toNat], rfl, rfl, hxs5, by omega, by omega, seqI j0 (by rw [List.length_map]; exact j1), by rw [List.getElem?_map, List.getElem?_eq_getElem hj]; rfl, ?_⟩
      have e : List.eraseIdx (List.map V.str xs) j.toNat = (xs.eraseIdx j.toNat).map V.str := erase_map _ _ _
      rw [e]
      have hws9 : upd H5 l (.lst ((xs.eraseIdx j.toNat).map V.str)) D = some (.lst (ws.map V.str)) := (upd_ne nDl).trans hws5
      refine ⟨_, hws9, by rw [List.length_map, sizeLine_eq]; omega, xs.eraseIdx j.toNat, ws ++ [xs[j.toNat]], a5, r5, ?_, ?_, ?_, ?_, ?_, ?_, ?_, ?_, by omega, by omega⟩
      · rw [upd_ne (Ne.symm nDl), upd_same]
      · rw [List.map_append]
        exact upd_same
      · rw [List.length_eraseIdx, if_pos hj]
        omega
      · rw [List.length_append, hwl]
        rfl
      · exact fun x hx => nx x (List.mem_of_mem_eraseIdx hx)
      · intro x hx
        rcases List.mem_append.mp hx with h | h
        · exact nw x h
        · rw [List.mem_singleton.mp h]
          exact nx _ (List.getElem_mem hj)
      · intro b o hb nb
        have hb1 := s1 _ _ hb
        rw [upd_ne (ne_of_none hb1 hD), upd_ne (ne_of_none hb nl)]
        exact B5 _ _ (B _ _ hb nb) nb
      · have nq : ∀ {x : Addr}, H x = none → q ≠ x := fun hx z => by rw [← z, S.cells] at hx; cases hx
        refine ⟨?_, ?_, S5.len, S5.a0, S5.r0⟩
        · rw [upd_ne (Ne.symm nDp), upd_ne (Ne.symm nlp)]
          exact S5.pen
        · rw [upd_ne (nq (s1.free hD)), upd_ne (nq nl)]
          exact S5.cells
    · rintro H' ⟨xs, ws, a', r', hxs, hws, hxl, hwl, nx, nw, B, S', b1, b2⟩
      exact k D ws a' r' H' hws (s1.free hD) hwl nw b1 b2 B S'
theorem sc__law_number : FnScope ["_law_pen_here", "_law_some"] ["_law_pen_here"] (defScope (top 28)) := ⟨rfl, rfl, rfl, by decide +kernel, rfl, by decide +kernel, by decide +kernel⟩
def spNumO : Sp := fun vs H Q _ => ∃ (p q : Addr) (ns : List Int) (a r : Int), vs = [.ref p] ∧ PenAt H p q ns a r ∧ a ≤ 900000 ∧
  ∀ (m a' r' : Int) (H' : Hp), wholeB m = true → a ≤ a' → a' ≤ a + 2 → But p H H' → PenAt H' p q ns a' r' → Q (.int m) H'
theorem ok__law_number (T : Txt P K mg) : OkF P w K mg base CX0 3 (He.ga K "_law_number") ["_law_pen_here"] spNumO := by
  have G__law_draw := ok__law_draw (P := P) (w := w) (base := base) T
  have G__law_pick := ok__law_pick (P := P) (w := w) (base := base) T
  obtain ⟨fd, F⟩ := T.F__law_number
  refine ⟨fd, F.ok sc__law_number (fun vs H Q E h => ?_) (fun cdv A outer s H vs Q E hr h => ?_), F.bindsN fun _ _ _ _ _ _ us hl => match us, hl with | [_], _ => rfl, F.kp⟩
  · obtain ⟨p, q, ns, a, r, rfl, _⟩ := h
    rfl
  · obtain ⟨p, q, ns, a, r, rfl, S, a2, k⟩ := h
    refine ⟨_, PSs.nox (pss_cons (ps_asg (pe_lst (pa_cons pe_int (pa_cons pe_int (pa_cons (pe_un un_neg pe_int) (pa_cons pe_int (pa_cons (pe_un un_neg pe_int) (pa_cons (pe_op op_pow pe_int pe_int) (pa_cons (pe_op op_sub (pe_op op_pow pe_int pe_int) pe_int) (pa_cons (pe_op op_sub pe_int (pe_op op_pow pe_int pe_int)) (pa_cons (pe_f G__law_draw (hr.mono (by decide)) (by rfl) T.g__law_draw pass0 (pa_cons (pv 0) (pa_cons (pe_op op_pow pe_int pe_int) pa_nil))) (pa_cons (pe_op op_pow pe_int pe_int) pa_nil))))))))))) (pg_name (i := 1) sc__law_number.nd rfl (.inl rfl)))
    (pss_one (ps_ret (pe_f G__law_pick (hr.mono (by decide)) (by rfl) T.g__law_pick pass0 (pa_cons (pv 0) (pa_cons (pv 1) pa_nil)))))), ?_⟩
    refine ⟨_, rfl, _, rfl, _, _, rfl, rfl, ⟨by decide, by decide, by decide⟩, _, _, rfl, rfl, ⟨by decide, by decide, by decide⟩, _, _, rfl, rfl, _, _, rfl, rfl, ⟨by decide, by decide, by decide⟩, _, _, rfl, rfl, ?_⟩
    refine ⟨_, rfl, _, _, rfl, rfl, ⟨by decide, by decide, by decide⟩, p, q, ns, a, r, _, rfl, S, by decide, by decide, by omega, fun d a1 r1 H1 d0 d1 c1 c2 B1 S1 => ?_⟩
    refine ⟨_, _, rfl, rfl, ⟨by decide, by decide, by decide⟩, show 10 ≤ sizeLine by decide, fun l nl => ?_⟩
    generalize hXS : [V.int 0, V.int 1, _, V.int 7, _, _, _, _, V.int d, _] = XS
    have s1 := same_new (o := .lst XS) nl
    have h1 : upd H1 l (.lst XS) l = some (.lst XS) := upd_same
    have nlp : l ≠ p := fun z => by rw [z, S1.pen] at nl; cases nl
    generalize upd H1 l (.lst XS) = H2 at s1 h1
    have lXS : XS.length = 10 := by rw [← hXS]; rfl
    refine ⟨_, rfl, _, rfl, p, q, l, ns, a1, r1, XS, rfl, S1.same s1, by omega, h1, nlp, by omega, by omega, fun v a4 r4 H4 hv c3 c4 B4 S4 => ?_⟩
    have hw : ∃ m, v = .int m ∧ wholeB m = true := by
      rw [← hXS] at hv
      simp only [List.mem_cons, List.not_mem_nil, or_false] at hv
      have dw : wholeB d = true := by
        refine decide_eq_true ?_
        have d1' : d < 1000000000 := d1
        unfold absV
        rw [if_neg (by omega)]
        exact Int.lt_trans d1' (by decide)
      rcases hv with rfl | rfl | rfl | rfl | rfl | rfl | rfl | rfl | rfl | rfl
      all_goals first
        | exact ⟨_, rfl, dw⟩
        | exact ⟨_, rfl, by decide +kernel⟩
    obtain ⟨m, rfl, hm⟩ := hw
    exact k m a4 r4 H4 hm (by omega) (by omega) (fun b o hb nb => B4 _ _ (s1 _ _ (B1 _ _ hb nb)) nb) S4
theorem sc__law_count : FnScope ["_law_pen_here"] ["_law_pen_here"] (defScope (top 29)) := ⟨rfl, rfl, rfl, by decide +kernel, rfl, by decide +kernel, by decide +kernel⟩
def spCntO : Sp := fun vs H Q _ => ∃ (p q : Addr) (ns : List Int) (a r : Int), vs = [.ref p] ∧ PenAt H p q ns a r ∧ a ≤ 900000 ∧
  ∀ (m a' r' : Int) (H' : Hp), countB m = true → a ≤ a' → a' ≤ a + 2 → But p H H' → PenAt H' p q ns a' r' → Q (.int m) H'
theorem ok__law_count (T : Txt P K mg) : OkF P w K mg base CX0 3 (He.ga K "_law_count") ["_law_pen_here"] spCntO := by
  have G__law_draw := ok__law_draw (P := P) (w := w) (base := base) T
  have G__law_pick := ok__law_pick (P := P) (w := w) (base := base) T
  obtain ⟨fd, F⟩ := T.F__law_count
  refine ⟨fd, F.ok sc__law_count (fun vs H Q E h => ?_) (fun cdv A outer s H vs Q E hr h => ?_), F.bindsN fun _ _ _ _ _ _ us hl => match us, hl with | [_], _ => rfl, F.kp⟩
  · obtain ⟨p, q, ns, a, r, rfl, _⟩ := h
    rfl
  · obtain ⟨p, q, ns, a, r, rfl, S, a2, k⟩ := h
    refine ⟨_, PSs.nox (pss_one (ps_ret (pe_f G__law_pick (hr.mono (by decide)) (by rfl) T.g__law_pick pass0 (pa_cons (pv 0) (pa_cons (pe_lst (pa_cons pe_int (pa_cons pe_int (pa_cons pe_int (pa_cons pe_int (pa_cons pe_int (pa_cons (pe_op op_add pe_int (pe_f G__law_draw (hr.mono (by decide)) (by rfl) T.g__law_draw pass0 (pa_cons (pv 0) (pa_cons (pe_op op_pow pe_int pe_int) pa_nil)))) (pa_cons (pe_op op_sub (pe_op op_pow pe_int pe_int) pe_int) (pa_cons (pe_op op_pow pe_int pe_int) pa_nil))))))))) pa_nil))))), ?_⟩
    refine ⟨_, rfl, _, rfl, _, _, rfl, rfl, ⟨by decide, by decide, by decide⟩, p, q, ns, a, r, _, rfl, S, by decide, by decide, by omega, fun d a1 r1 H1 d0 d1 c1 c2 B1 S1 => ?_⟩
    refine ⟨_, _, rfl, rfl, _, _, rfl, rfl, ⟨by decide, by decide, by decide⟩, _, _, rfl, rfl, _, _, rfl, rfl, ⟨by decide, by decide, by decide⟩, show 8 ≤ sizeLine by decide, fun l nl => ?_⟩
    generalize hXS : [V.int 1, V.int 1, V.int 2, V.int 3, V.int 9, _, _, _] = XS
    have s1 := same_new (o := .lst XS) nl
    have h1 : upd H1 l (.lst XS) l = some (.lst XS) := upd_same
    have nlp : l ≠ p := fun z => by rw [z, S1.pen] at nl; cases nl
    generalize upd H1 l (.lst XS) = H2 at s1 h1
    have lXS : XS.length = 8 := by rw [← hXS]; rfl
    refine ⟨p, q, l, ns, a1, r1, XS, rfl, S1.same s1, by omega, h1, nlp, by omega, by omega, fun v a4 r4 H4 hv c3 c4 B4 S4 => ?_⟩
    have hw : ∃ m, v = .int m ∧ countB m = true := by
      rw [← hXS] at hv
      simp only [List.mem_cons, List.not_mem_nil, or_false] at hv
      have dw : countB (1 + d) = true := by
        have d1' : d < 1000000 := d1
        unfold countB
        rw [decide_eq_true (show 1 ≤ 1 + d by omega), Bool.and_true]
        refine decide_eq_true ?_
        unfold absV
        rw [if_neg (by omega)]
        exact Int.lt_trans (show 1 + d < 2000000 by omega) (by decide)
      rcases hv with rfl | rfl | rfl | rfl | rfl | rfl | rfl | rfl
      all_goals first
        | exact ⟨_, rfl, dw⟩
        | exact ⟨_, rfl, by decide +kernel⟩
    obtain ⟨m, rfl, hm⟩ := hw
    exact k m a4 r4 H4 hm (by omega) (by omega) (fun b o hb nb => B4 _ _ (s1 _ _ (B1 _ _ hb nb)) nb) S4
end
end Kx
set_option maxHeartbeats 4000000
namespace Kx
open PySem PySem.Spec PyProof.Rows L2 Xr
local macro_rules | `(tactic| walk_at "rd") => `(tactic| (repeat (first | apply Exists.intro | (refine And.intro rfl ?_) | (refine And.intro (SqL.of (by assumption)) ?_) | (refine And.intro (Or.inl (SqL.of (by assumption))) ?_) | (refine Or.inl ⟨_, rfl, ?_⟩) | (refine Or.inr ⟨_, rfl, ?_⟩) | (refine And.intro (by assumption) ?_) | (refine And.intro (Or.inl (by assumption)) ?_))))
section
variable {P : Program} {w : World} {K : PySem.W.Frag} {mg : Str → Option Value} {base : Heap}
def rowV (r : Rw) : List V := [.str r.kd, .str r.sd, .str r.nm, .int r.lm, .int r.lt, .int r.vs, .str r.ow]
theorem kind_in {v : V} (h : v ∈ [V.str "limit", V.str "now", V.str "all", V.str "veiled"]) : ∃ i, i < 4 ∧ v = .str (kindS i) := by
  simp only [List.mem_cons, List.not_mem_nil, or_false] at h
  rcases h with rfl | rfl | rfl | rfl
  · exact ⟨0, by decide, rfl⟩
  · exact ⟨1, by decide, rfl⟩
  · exact ⟨2, by decide, rfl⟩
  · exact ⟨3, by decide, rfl⟩
theorem side_in {v : V} (h : v ∈ [V.str "buy", V.str "sell"]) : ∃ x, v = .str x ∧ sideB x = true := by
  simp only [List.mem_cons, List.not_mem_nil, or_false] at h
  rcases h with rfl | rfl
  · exact ⟨_, rfl, by decide +kernel⟩
  · exact ⟨_, rfl, by decide +kernel⟩
theorem whose_in {v : V} (h : v ∈ [V.str "nobody", V.str "ab", V.str "nobody", V.str "sell"]) : ∃ x, v = .str x ∧ nameB x = true := by
  simp only [List.mem_cons, List.not_mem_nil, or_false] at h
  rcases h with rfl | rfl | rfl | rfl
  all_goals exact ⟨_, rfl, by decide +kernel⟩
theorem sc__law_row : FnScope ["_law_pen_here", "_law_labels", "_law_kind", "_law_way", "_law_many", "_law_seen", "_law_whose"] ["_law_pen_here", "_law_labels"] (defScope (top 30)) := ⟨rfl, rfl, rfl, by decide +kernel, rfl, by decide +kernel, by decide +kernel⟩
def spRow : Sp := fun vs H Q _ => ∃ (p q lb : Addr) (ns : List Int) (a r : Int) (ws : List Str), vs = [.ref p, .ref lb] ∧ PenAt H p q ns a r ∧ a ≤ 800000 ∧ H lb = some (.lst (ws.map V.str)) ∧ lb ≠ p ∧ 1 ≤ ws.length ∧ ws.length ≤ 10 ∧ (∀ x ∈ ws, nameB x = true) ∧
  ∀ (l : Addr) (i : Nat) (rw_ : Rw) (a' r' : Int) (H' : Hp), i < 4 → RwG i rw_ → H' l = some (.lst (rowV rw_)) → H l = none → a ≤ a' → a' ≤ a + 9 → But p H H' → PenAt H' p q ns a' r' → Q (.ref l) H'
theorem ok__law_row (T : Txt P K mg) : OkF P w K mg base CX0 4 (He.ga K "_law_row") ["_law_pen_here", "_law_labels"] spRow := by
  have G__law_pick := ok__law_pick (P := P) (w := w) (base := base) T
  have G__law_number := ok__law_number (P := P) (w := w) (base := base) T
  have G__law_count := ok__law_count (P := P) (w := w) (base := base) T
  obtain ⟨fd, F⟩ := T.F__law_row
  refine ⟨fd, F.ok sc__law_row (fun vs H Q E h => ?_) (fun cdv A outer s H vs Q E hr h => ?_), F.bindsN fun _ _ _ _ _ _ us hl => match us, hl with | [_, _], _ => rfl, F.kp⟩
  · obtain ⟨p, q, lb, ns, a, r, ws, rfl, _⟩ := h
    rfl
  · obtain ⟨p, q, lb, ns, a, r, ws, rfl, S, a2, hlb, nlb, w1, w2, nw, k⟩ := h
    refine ⟨_, PSs.nox (pss_cons (ps_par (i := 2) (j := 3) (by rfl) sc__law_row.nd rfl rfl (by decide) rfl rfl (pa_cons (pe_f G__law_pick (hr.mono (by decide)) (by rfl) T.g__law_pick pass0 (pa_cons (pv 0) (pa_cons (pe_lst (pa_cons pe_str (pa_cons pe_str (pa_cons pe_str (pa_cons pe_str pa_nil))))) pa_nil))) (pa_cons (pe_f G__law_pick (hr.mono (by decide)) (by rfl) T.g__law_pick pass0 (pa_cons (pv 0) (pa_cons (pe_lst (pa_cons pe_str (pa_cons pe_str pa_nil))) pa_nil))) pa_nil)) (by rfl))
    (pss_cons (ps_asg (pe_f G__law_count (hr.mono (by decide)) (by rfl) T.g__law_count pass0 (pa_cons (pv 0) pa_nil)) (pg_name (i := 4) sc__law_row.nd rfl (.inl rfl)))
    (pss_cons (ps_asg (pe_cut (pe_ifExp (pt_cmpR op_eq (pv 2) pe_str (nomark _)) (pe_f G__law_pick (hr.mono (by decide)) (by rfl) T.g__law_pick pass0 (pa_cons (pv 0) (pa_cons (pe_lst (pa_cons (pv 4) (pa_cons pe_int (pa_cons (pe_op op_fdiv (pe_op op_add (pv 4) pe_int) pe_int) pa_nil)))) pa_nil))) (pv 4))) (pg_name (i := 5) sc__law_row.nd rfl (.inl rfl)))
    (pss_cons (ps_asg (pe_f G__law_pick (hr.mono (by decide)) (by rfl) T.g__law_pick pass0 (pa_cons (pv 0) (pa_cons (pe_lst (pa_cons pe_str (pa_cons pe_str (pa_cons pe_str (pa_cons pe_str pa_nil))))) pa_nil))) (pg_name (i := 6) sc__law_row.nd rfl (.inl rfl)))
    (pss_one (ps_ret (pe_lst (pa_cons (pv 2) (pa_cons (pv 3) (pa_cons (pe_f G__law_pick (hr.mono (by decide)) (by rfl) T.g__law_pick pass0 (pa_cons (pv 0) (pa_cons (pv 1) pa_nil))) (pa_cons (pe_f G__law_number (hr.mono (by decide)) (by rfl) T.g__law_number pass0 (pa_cons (pv 0) pa_nil)) (pa_cons (pv 4) (pa_cons (pv 5) (pa_cons (pv 6) pa_nil)))))))))))))), ?_⟩
    refine ⟨_, rfl, show 4 ≤ sizeLine by decide, fun l1 n1 => ?_⟩
    have s1 := same_new (o := .lst [V.str "limit", V.str "now", V.str "all", V.str "veiled"]) n1
    have h1 : upd H l1 (.lst [V.str "limit", V.str "now", V.str "all", V.str "veiled"]) l1 = some (.lst [V.str "limit", V.str "now", V.str "all", V.str "veiled"]) := upd_same
    generalize upd H l1 (.lst [V.str "limit", V.str "now", V.str "all", V.str "veiled"]) = H1 at s1 h1
    have n1p : l1 ≠ p := fun z => by rw [z, S.pen] at n1; cases n1
    refine ⟨p, q, l1, ns, a, r, _, rfl, S.same s1, by omega, h1, n1p, by decide, by decide, fun kv a3 r3 H3 hkv c1 c2 B3 S3 => ?_⟩
    obtain ⟨i, hi, rfl⟩ := kind_in hkv
    refine ⟨_, rfl, show 2 ≤ sizeLine by decide, fun l2 n2 => ?_⟩
    have s2 := same_new (o := .lst [V.str "buy", V.str "sell"]) n2
    have h2 : upd H3 l2 (.lst [V.str "buy", V.str "sell"]) l2 = some (.lst [V.str "buy", V.str "sell"]) := upd_same
    generalize upd H3 l2 (.lst [V.str "buy", V.str "sell"]) = H4 at s2 h2
    have n2p : l2 ≠ p := fun z => by rw [z, S3.pen] at n2; cases n2
    refine ⟨p, q, l2, ns, a3, r3, _, rfl, S3.same s2, by omega, h2, n2p, by decide, by decide, fun sv a5 r5 H5 hsv c3 c4 B5 S5 => ⟨_, _, rfl, ?_⟩⟩
    obtain ⟨sd, rfl, hsd⟩ := side_in hsv
    have B05 : But p H H5 := fun b o hb nb => B5 _ _ (s2 _ _ (B3 _ _ (s1 _ _ hb) nb)) nb
    refine ⟨_, rfl, p, q, ns, a5, r5, rfl, S5, by omega, fun m a6 r6 H6 hm c5 c6 B6 S6 => ?_⟩
    have hm1 := (count_whole hm).2
    have B06 : But p H H6 := B05.trans B6
    refine .mk (fun v H' => ∃ (z a' r' : Int), v = .int z ∧ (1 ≤ z ∧ z ≤ m) ∧ (i ≠ 3 → z = m) ∧ But p H6 H' ∧ PenAt H' p q ns a' r' ∧ a6 ≤ a' ∧ a' ≤ a6 + 1) ?_ ?_
    · refine ⟨_, rfl, rfl, _, rfl, ?_⟩
      rw [kind_v i hi]
      by_cases e : i = 3
      · refine iteTr (decide_eq_true e) ⟨_, rfl, _, rfl, _, rfl, _, _, rfl, rfl, _, _, rfl, rfl, ⟨by decide, by decide⟩, show 3 ≤ sizeLine by decide, fun l3 n3 => ?_⟩
        generalize hXS : [V.int m, V.int 1, _] = XS
        have s3 := same_new (o := .lst XS) n3
        have h3 : upd H6 l3 (.lst XS) l3 = some (.lst XS) := upd_same
        have n3p : l3 ≠ p := fun z => by rw [z, S6.pen] at n3; cases n3
        generalize upd H6 l3 (.lst XS) = H7 at s3 h3
        have lXS : XS.length = 3 := by rw [← hXS]; rfl
        refine ⟨p, q, l3, ns, a6, r6, XS, rfl, S6.same s3, by omega, h3, n3p, by omega, by omega, fun zv a8 r8 H8 hzv c7 c8 B8 S8 => ?_⟩
        have hz : ∃ z, zv = .int z ∧ 1 ≤ z ∧ z ≤ m := by
          rw [← hXS] at hzv
          simp only [List.mem_cons, List.not_mem_nil, or_false] at hzv
          rcases hzv with rfl | rfl | rfl
          · exact ⟨m, rfl, hm1, Int.le_refl _⟩
          · exact ⟨1, rfl, Int.le_refl _, hm1⟩
          · refine ⟨_, rfl, ?_, ?_⟩
            · show 1 ≤ (m + 1) / 2
              omega
            · show (m + 1) / 2 ≤ m
              omega
        obtain ⟨z, rfl, hz⟩ := hz
        exact ⟨z, a8, r8, rfl, hz, fun x => absurd e x, fun b o hb nb => B8 _ _ (s3 _ _ hb) nb, S8, c7, c8⟩
      · exact iteFa (decide_eq_false e) ⟨_, rfl, m, a6, r6, rfl, ⟨hm1, Int.le_refl _⟩, fun _ => rfl, But.refl, S6, Int.le_refl _, by omega⟩
    rintro _ H8 ⟨z, a8, r8, rfl, hz, hz3, B8, S8, c7, c8⟩
    have B08 : But p H H8 := B06.trans B8
    refine ⟨_, rfl, show 4 ≤ sizeLine by decide, fun l4 n4 => ?_⟩
    have s4 := same_new (o := .lst [V.str "nobody", V.str "ab", V.str "nobody", V.str "sell"]) n4
    have h4 : upd H8 l4 (.lst [V.str "nobody", V.str "ab", V.str "nobody", V.str "sell"]) l4 = some (.lst [V.str "nobody", V.str "ab", V.str "nobody", V.str "sell"]) := upd_same
    generalize upd H8 l4 (.lst [V.str "nobody", V.str "ab", V.str "nobody", V.str "sell"]) = H9 at s4 h4
    have n4p : l4 ≠ p := fun z => by rw [z, S8.pen] at n4; cases n4
    refine ⟨p, q, l4, ns, a8, r8, _, rfl, S8.same s4, by omega, h4, n4p, by decide, by decide, fun ov a10 r10 H10 hov c9 c10 B10 S10 => ?_⟩
    obtain ⟨ow, rfl, how⟩ := whose_in hov
    have B010 : But p H H10 := fun b o hb nb => B10 _ _ (s4 _ _ (B08 _ _ hb nb)) nb
    have hlb10 := B010 _ _ hlb nlb
    refine ⟨_, rfl, _, rfl, _, rfl, _, rfl, p, q, lb, ns, a10, r10, _, rfl, S10, by omega, hlb10, nlb, by rw [List.length_map]; omega, by rw [List.length_map]; omega, fun nv a11 r11 H11 hnv c11 c12 B11 S11 => ?_⟩
    obtain ⟨nm, hnm, rfl⟩ := List.mem_map.mp hnv
    refine ⟨_, rfl, p, q, ns, a11, r11, rfl, S11, by omega, fun lm a12 r12 H12 hlm c13 c14 B12 S12 => ?_⟩
    refine ⟨_, rfl, _, rfl, _, rfl, show 7 ≤ sizeLine by decide, fun l nl => ?_⟩
    have s13 := same_new (o := .lst (rowV ⟨kindS i, sd, nm, lm, m, ow, z⟩)) nl
    have B012 : But p H H12 := fun b o hb nb => B12 _ _ (B11 _ _ (B010 _ _ hb nb) nb) nb
    have nlp : l ≠ p := fun z => by rw [z, S12.pen] at nl; cases nl
    have nlH : H l = none := by
      cases hl : H l with
      | none => rfl
      | some o =>
        have := B012 _ _ hl nlp
        rw [nl] at this
        cases this
    exact k l i ⟨kindS i, sd, nm, lm, m, ow, z⟩ a12 r12 _ hi ⟨rfl, ⟨hsd, nw nm hnm, hlm, hm, how⟩, hz, hz3⟩ upd_same nlH (by omega) (by omega) (fun b o hb nb => s13 _ _ (B012 _ _ hb nb)) (S12.same s13)
end
end Kx
set_option maxHeartbeats 8000000
namespace Kx
open PySem PySem.Spec PyProof.Rows L2 Xr LamX
local macro_rules | `(tactic| walk_at "rd") => `(tactic| (repeat (first | apply Exists.intro | (refine And.intro rfl ?_) | (refine And.intro (SqL.of (by assumption)) ?_) | (refine And.intro (Or.inl (SqL.of (by assumption))) ?_) | (refine Or.inl ⟨_, rfl, ?_⟩) | (refine Or.inr ⟨_, rfl, ?_⟩) | (refine And.intro (by assumption) ?_) | (refine And.intro (Or.inl (by assumption)) ?_))))
section
variable {P : Program} {w : World} {K : PySem.W.Frag} {mg : Str → Option Value} {base : Heap}
def offS (x y : Str) : List Str := (x.cps.toList.filter fun c => !decide (c ∈ y.cps.toList)).map fun c => ⟨#[c]⟩
theorem off_nil {x y : Str} : offS x y = [] ↔ (x.cps.toList.all fun c => decide (c ∈ y.cps.toList)) = true := by
  unfold offS
  rw [List.map_eq_nil_iff, List.filter_eq_nil_iff, List.all_eq_true]
  constructor
  · intro h c hc
    have := h c hc
    simpa using this
  · intro h c hc
    have := h c hc
    simpa using this
theorem off_ok {x y : Str} (h : PyData.strOk x = true) : ∀ z ∈ offS x y, PyData.strOk z = true := fun z hz => by
  obtain ⟨c, hc, rfl⟩ := List.mem_map.mp hz
  have h2 := (List.mem_filter.mp hc).1
  unfold PyData.strOk at h
  rw [← Array.all_toList, List.all_eq_true] at h
  refine ok_of fun d hd => ?_
  have : d = c := by simpa using hd
  rw [this]
  exact of_decide_eq_true (h c h2)
theorem off_map {x y : Str} : (List.map (fun v => v) (List.filter (fun v => !(match v with | V.str c => decide (c.cps.toList.headD 0 ∈ y.cps.toList) | _ => false)) (signsV x))) = (offS x y).map V.str := by
  unfold offS signsV
  rw [List.map_id', List.filter_map, List.map_map]
  rfl
theorem dp_strsB {H : Hp} : ∀ l : List Str, DpAll K H (l.map V.str) (l.map PyData.str)
  | [] => .nil
  | n :: l => .cons (.str n) (dp_strsB l)
theorem lay_strsB : ∀ l : List Str, (∀ x ∈ l, PyData.strOk x = true) → PyData.canLayAll0 (l.map PyData.str) = true
  | [], _ => rfl
  | x :: r, h => by simp [PyData.canLayAll0, PyData.canLay0, lay_strsB r fun y hy => h y (List.mem_cons_of_mem _ hy), h x (List.mem_cons_self ..)]
theorem depth_strsB : ∀ l : List Str, PyData.depthAll (l.map PyData.str) = 0
  | [] => rfl
  | _ :: r => by simp [PyData.depthAll, PyData.depth, depth_strsB r]
theorem shaped_strsB (l : List Str) (h : ∀ x ∈ l, PyData.strOk x = true) : SeqAt.shaped (.list (l.map PyData.str)) = true := by
  simp [SeqAt.shaped, PyData.canLay0, PyData.depth, lay_strsB l h, depth_strsB]
theorem eqv_nilB : ∀ l : List Str, PyData.eqv (.list (l.map PyData.str)) (.list []) = l.isEmpty
  | [] => rfl
  | n :: l => rfl
theorem name_eq (x : Str) : nameB x = nameS x := rfl
theorem kitB' {t u : String} {b : Bool} (h : kitB t u = some b) : PySem.W.kitOne K (.type t) (.type u) = some b := kit_ty h
/-- a value that may stand in a row -/
def AnyV (H : Hp) (v : V) : Prop := (∃ x, v = .str x ∧ x.length ≤ 9 ∧ PyData.strOk x = true) ∨ (∃ i, v = .int i ∧ wholeB i = true) ∨ v = .non ∨ (∃ b, v = .bl b) ∨ (∃ a xs, v = .ref a ∧ H a = some (.tup xs)) ∨ (∃ a xs, v = .ref a ∧ H a = some (.lst xs)) ∨ ∃ a ps, v = .ref a ∧ H a = some (.dK ps)
theorem AnyV.map {H H' : Hp} {v : V} (h : AnyV H v) (s : ∀ a o, v = .ref a → H a = some o → (∀ ps, o ≠ .tbl ps) → H' a = some o) : AnyV H' v := by
  rcases h with h | h | h | h | ⟨a, xs, h, k⟩ | ⟨a, xs, h, k⟩ | ⟨a, xs, h, k⟩
  · exact .inl h
  · exact .inr (.inl h)
  · exact .inr (.inr (.inl h))
  · exact .inr (.inr (.inr (.inl h)))
  · exact .inr (.inr (.inr (.inr (.inl ⟨a, xs, h, s _ _ h k fun _ z => by cases z⟩))))
  · exact .inr (.inr (.inr (.inr (.inr (.inl ⟨a, xs, h, s _ _ h k fun _ z => by cases z⟩)))))
  · exact .inr (.inr (.inr (.inr (.inr (.inr ⟨a, xs, h, s _ _ h k fun _ z => by cases z⟩)))))
theorem AnyV.same {H H' : Hp} {v : V} (h : AnyV H v) (s : Same H H') : AnyV H' v := h.map fun a o _ k _ => s a o k
theorem AnyV.extN {H H' : Hp} {v : V} (h : AnyV H v) (s : ExtN H H') : AnyV H' v := h.map fun a o _ k z => s a o k z
theorem AnyV.but {H H' : Hp} {v : V} {p : Addr} (h : AnyV H v) (n : v ≠ .ref p) (s : But p H H') : AnyV H' v := h.map fun a o e k _ => s a o k fun z => n (by rw [e, z])
def nameOf : V → Bool
  | .str x => nameB x
  | _ => false
def sideOf : V → Bool
  | .str x => sideB x
  | _ => false
def wholeOf : V → Bool
  | .int i => wholeB i
  | _ => false
def countOf : V → Bool
  | .int i => countB i
  | _ => false
theorem AnyV.noS {H : Hp} {v : V} (h : AnyV H v) : (∃ x, v = .str x ∧ x.length ≤ 9 ∧ PyData.strOk x = true) ∨ ((∀ x, v ≠ .str x) ∧ NoStr K H v) := by
  rcases h with h | ⟨i, rfl, _⟩ | rfl | ⟨b, rfl⟩ | ⟨a, xs, rfl, k⟩ | ⟨a, xs, rfl, k⟩ | ⟨a, xs, rfl, k⟩
  · exact .inl h
  · exact .inr ⟨fun x e => (by cases e), _, TyX.base (TyOf.int _), kitB' (by decide +kernel)⟩
  · exact .inr ⟨fun x e => (by cases e), _, TyX.base TyOf.non, kitB' (by decide +kernel)⟩
  · exact .inr ⟨fun x e => (by cases e), _, TyX.base (TyOf.bl _), kitB' (by decide +kernel)⟩
  · exact .inr ⟨fun x e => (by cases e), _, TyX.base (TyOf.tup k), kitB' (by decide +kernel)⟩
  · exact .inr ⟨fun x e => (by cases e), _, TyX.base (TyOf.lst k), kitB' (by decide +kernel)⟩
  · exact .inr ⟨fun x e => (by cases e), _, TyX.base (TyOf.dK k), kitB' (by decide +kernel)⟩
theorem AnyV.noI {H : Hp} {v : V} (h : AnyV H v) : (∃ i, v = .int i ∧ wholeB i = true) ∨ ((∀ x, v ≠ .int x) ∧ NoInt K H v) := by
  rcases h with ⟨x, rfl, _⟩ | h | rfl | ⟨b, rfl⟩ | ⟨a, xs, rfl, k⟩ | ⟨a, xs, rfl, k⟩ | ⟨a, xs, rfl, k⟩
  · exact .inr ⟨fun x e => (by cases e), _, false, false, TyX.base (TyOf.str _), kitB' (by decide +kernel), kitB' (by decide +kernel), rfl⟩
  · exact .inl h
  · exact .inr ⟨fun x e => (by cases e), _, false, false, TyX.base TyOf.non, kitB' (by decide +kernel), kitB' (by decide +kernel), rfl⟩
  · exact .inr ⟨fun x e => (by cases e), _, true, true, TyX.base (TyOf.bl _), kitB' (by decide +kernel), kitB' (by decide +kernel), rfl⟩
  · exact .inr ⟨fun x e => (by cases e), _, false, false, TyX.base (TyOf.tup k), kitB' (by decide +kernel), kitB' (by decide +kernel), rfl⟩
  · exact .inr ⟨fun x e => (by cases e), _, false, false, TyX.base (TyOf.lst k), kitB' (by decide +kernel), kitB' (by decide +kernel), rfl⟩
  · exact .inr ⟨fun x e => (by cases e), _, false, false, TyX.base (TyOf.dK k), kitB' (by decide +kernel), kitB' (by decide +kernel), rfl⟩
theorem AnyV.name {H : Hp} {v : V} (h : AnyV H v) : NameV K H v (nameOf v) := by
  rcases h.noS (K := K) with ⟨x, rfl, hl, _⟩ | ⟨n, z⟩
  · exact .inl ⟨x, rfl, by omega, rfl⟩
  · refine .inr ⟨?_, z⟩
    unfold nameOf
    split
    · exact absurd rfl (n _)
    · rfl
theorem AnyV.side {H : Hp} {v : V} (h : AnyV H v) : SideV K H v (sideOf v) := by
  rcases h.noS (K := K) with ⟨x, rfl, hl, _⟩ | ⟨n, z⟩
  · exact .inl ⟨x, rfl, rfl⟩
  · refine .inr ⟨?_, z⟩
    unfold sideOf
    split
    · exact absurd rfl (n _)
    · rfl
theorem AnyV.whole {H : Hp} {v : V} (h : AnyV H v) : WholeV K H v (wholeOf v) := by
  rcases h.noI (K := K) with ⟨x, rfl, hl⟩ | ⟨n, z⟩
  · exact .inl ⟨x, rfl, rfl⟩
  · refine .inr ⟨?_, z⟩
    unfold wholeOf
    split
    · exact absurd rfl (n _)
    · rfl
theorem AnyV.count {H : Hp} {v : V} (h : AnyV H v) : CountV K H v (countOf v) := by
  rcases h.noI (K := K) with ⟨x, rfl, hl⟩ | ⟨n, z⟩
  · exact .inl ⟨x, rfl, rfl⟩
  · refine .inr ⟨?_, z⟩
    unfold countOf
    split
    · exact absurd rfl (n _)
    · rfl
theorem sc__law_is_whole : FnScope ["_law_value"] ["_law_value"] (defScope (top 34)) := ⟨rfl, rfl, rfl, by decide +kernel, rfl, by decide +kernel, by decide +kernel⟩
theorem whole_chain (i : Int) : (decide (-(10 ^ 60) < i) && decide (i < 10 ^ 60)) = wholeB i := by
  unfold wholeB absV
  rw [Bool.eq_iff_iff, Bool.and_eq_true, decide_eq_true_iff, decide_eq_true_iff, decide_eq_true_iff]
  split <;> omega
theorem ok__law_is_whole (T : Txt P K mg) : OkF P w K mg base CX0 1 (He.ga K "_law_is_whole") ["_law_value"] (spWholeV K) := by
  obtain ⟨fd, F⟩ := T.F__law_is_whole
  refine ⟨fd, F.ok sc__law_is_whole (fun vs H Q E h => ?_) (fun cdv A outer s H vs Q E hr h => ?_), F.bindsN fun _ _ _ _ _ _ us hl => match us, hl with | [_], _ => rfl, F.kp⟩
  · obtain ⟨v, b, rfl, _⟩ := h
    rfl
  · obtain ⟨v, b, rfl, hv, k⟩ := h
    refine ⟨_, PSs.nox (pss_one (ps_ret (pe_and (pe_callB (call_isiK K) (by rfl) T.z_isinstance (by decide +kernel) (pa_cons (pv 0) (pa_cons (pe_bltn (v := .ty "int") (by rfl) T.z_int (by decide +kernel) rfl) pa_nil))) (pe_and (pe_not (pe_callB (call_isiK K) (by rfl) T.z_isinstance (by decide +kernel) (pa_cons (pv 0) (pa_cons (pe_bltn (v := .ty "bool") (by rfl) T.z_bool (by decide +kernel) rfl) pa_nil)))) (pe_one (pe_chain op_lt op_lt (pe_un un_neg (pe_op op_pow pe_int pe_int)) (pv 0) (pe_op op_pow pe_int pe_int))))))), ?_⟩
    rcases hv with ⟨i, rfl, rfl⟩ | ⟨rfl, t, b1, b2, ty, e1, e2, e⟩
    · refine ⟨_, rfl, _, _, _, _, _, rfl, .ty "int", .base (.int i), kit_ii, _, rfl, iteT ?_⟩
      refine ⟨_, rfl, _, _, _, _, _, rfl, .ty "bool", .base (.int i), kit_ib, _, rfl, ?_⟩
      refine ⟨_, rfl, iteT ⟨_, _, rfl, rfl, ⟨by decide, by decide, by decide⟩, _, rfl, _, rfl, _, _, rfl, rfl, _, rfl, ?_⟩⟩
      rw [← whole_chain] at k
      have e : (fun i : Int => -i) ((10 : Int) ^ (60 : Int).toNat) = -(10 ^ 60) := rfl
      by_cases h1 : -(10 ^ 60) < i
      · rw [decide_eq_true h1, Bool.true_and] at k
        exact iteTr (decide_eq_true h1) ⟨_, _, rfl, rfl, ⟨by decide, by decide, by decide⟩, _, _, rfl, rfl, k⟩
      · rw [decide_eq_false h1] at k
        exact iteFa (decide_eq_false h1) k
    · refine ⟨_, rfl, _, _, _, _, _, rfl, .ty "int", ty, e1, _, rfl, ?_⟩
      cases b1 with
      | false => exact k
      | true =>
        refine iteT ⟨_, rfl, _, _, _, _, _, rfl, .ty "bool", ty, e2, _, rfl, ?_⟩
        cases b2 with
        | false => cases e
        | true => exact ⟨_, rfl, k⟩
theorem sc__law_is_name : FnScope ["_law_value", "_law_sign"] ["_law_value"] (defScope (top 35)) := ⟨rfl, rfl, rfl, by decide +kernel, rfl, by decide +kernel, by decide +kernel⟩
theorem ok__law_is_name (T : Txt P K mg) : OkF P w K mg base CX0 1 (He.ga K "_law_is_name") ["_law_value"] (fun vs H Q _ => ∃ v, vs = [v] ∧ AnyV H v ∧ ∀ H', Same H H' → Q (.bl (nameOf v)) H') := by
  obtain ⟨fd, F⟩ := T.F__law_is_name
  refine ⟨fd, F.ok sc__law_is_name (fun vs H Q E h => ?_) (fun cdv A outer s H vs Q E hr h => ?_), F.bindsN fun _ _ _ _ _ _ us hl => match us, hl with | [_], _ => rfl, F.kp⟩
  · obtain ⟨v, rfl, _⟩ := h
    rfl
  · obtain ⟨v, rfl, hv, k⟩ := h
    have hu64 := hr.units
    refine ⟨_, PSs.nox (pss_cons (ps_if (PW.pt (pw_or (pt_not (pt_val (pe_callB (call_isiK K) (by rfl) T.z_isinstance (by decide +kernel) (pa_cons (pv 0) (pa_cons (pe_bltn (v := .ty "str") (by rfl) T.z_str (by decide +kernel) rfl) pa_nil))))) (pw_or1 (pt_not (pt_chain op_lt op_lt pe_int (pe_callB call_len (by rfl) T.z_len (by decide +kernel) (pa_cons (pv 0) pa_nil)) pe_int)))))
      (pss_one (ps_ret pe_bl))
      pss_nil)
    (pss_one (ps_ret (pe_cmpR (op_eqD hu64) (pe_lc (own := [("_law_sign", 1)]) (g := gName 1) rfl sc__law_is_name.nd (pi_str (pv 0)) (blkOk_by (N := ["_law_value", "_law_sign"]) (sc := defScope (top 35)) (by decide +kernel)) (fun _ _ _ _ _ => pg_name (i := 1) sc__law_is_name.nd rfl (Or.inl rfl)) (fun _ _ _ _ _ => (pts_one (pt_cmpR op_notIn_sign (pv 1) pe_str (by rfl)))) (fun _ _ _ _ _ => (pv 1))) (pe_lst pa_nil) (nomark _))))), ?_⟩
    rcases hv.noS (K := K) with ⟨x, rfl, hx, hok⟩ | ⟨n, t, ty, e⟩
    · refine ⟨_, rfl, _, _, _, _, _, rfl, .ty "str", .base (.str x), kit_ss, _, rfl, iteFa rfl ?_⟩
      have no : ¬ (1 ≤ x.length ∧ x.length ≤ 8) → Q (.bl false) H := fun h => by
        have z := k H (Same.refl H)
        have e : nameOf (.str x) = false := by
          show nameB x = false
          unfold nameB
          by_cases h1 : 1 ≤ x.length
          · rw [decide_eq_false (show ¬ x.length ≤ 8 from fun y => h ⟨h1, y⟩), Bool.and_false]
            rfl
          · rw [decide_eq_false h1]
            rfl
        rw [e] at z
        exact z
      refine ⟨_, rfl, _, x.length, rfl, ⟨by rw [sizeLine_eq]; omega, rfl⟩, 0, (x.length : Int), rfl, rfl, _, rfl, ?_⟩
      refine iteD (fun h1 => ?_) (fun h1 => ⟨false, rfl, no (by omega)⟩)
      refine ⟨_, _, rfl, rfl, _, rfl, ?_⟩
      by_cases h2 : (x.length : Int) < 9
      · refine iteFa (by rw [decide_eq_true h2]; rfl) ?_
        refine ⟨_, rfl, x, rfl, fun D hD => ?_⟩
        refine lcF yl_str (fun v => !(match v with | .str c => decide (c.cps.toList.headD 0 ∈ lettersS.cps.toList) | _ => false)) (fun v => v) hD (by unfold signsV; rw [List.length_map, Array.length_toList]; exact Nat.le_trans hx (by decide)) (fun _ _ => trivial) (fun _ => rfl) (fun v H' hm _ Qb q => ?_) (fun v H' hm _ s2 Q2 q => ⟨_, rfl, q H' (Same.refl H')⟩) fun H' s2 hl => ?_
        · obtain ⟨c, _, rfl⟩ := List.mem_map.mp hm
          exact ⟨_, rfl, c, _, rfl, rfl, _, rfl, q H' (Same.refl H')⟩
        · have hl : H' D = some (.lst ((offS x lettersS).map V.str)) := hl.trans (congrArg (fun l => some (HO.lst l)) (off_map (x := x) (y := lettersS)))
          refine ⟨show 0 ≤ sizeLine by decide, fun z nz => ?_⟩
          refine ⟨_, _, Dp.lst (SqL.of (same_new nz _ _ hl)) (dp_strsB _), Dp.lst (SqL.of upd_same) .nil, shaped_strsB _ (off_ok hok), rfl, ?_⟩
          rw [eqv_nilB]
          have e : (offS x lettersS).isEmpty = nameOf (.str x) := by
            show _ = nameB x
            rw [name_eq]
            unfold nameS
            rw [decide_eq_true (show 1 ≤ x.length by omega), decide_eq_true (show x.length ≤ 8 by omega)]
            rw [Bool.true_and, Bool.true_and, Bool.eq_iff_iff, List.isEmpty_iff, off_nil]
          rw [e]
          exact k _ (s2.trans (same_new nz))
      · exact iteTr (by rw [decide_eq_false h2]; rfl) (no (by omega))
    · have z := k H (Same.refl H)
      have e2 : nameOf v = false := by
        unfold nameOf
        split
        · exact absurd rfl (n _)
        · rfl
      rw [e2] at z
      exact ⟨_, rfl, _, _, _, _, _, rfl, .ty "str", ty, e, _, rfl, z⟩
theorem sc__law_odd : FnScope ["_law_pen_here", "_law_some"] ["_law_pen_here"] (defScope (top 33)) := ⟨rfl, rfl, rfl, by decide +kernel, rfl, by decide +kernel, by decide +kernel⟩
def spOdd (K : PySem.W.Frag) : Sp := fun vs H Q _ => ∃ (p q : Addr) (ns : List Int) (a r : Int), vs = [.ref p] ∧ PenAt H p q ns a r ∧ a ≤ 900000 ∧
  ∀ (v : V) (a' r' : Int) (H' : Hp), AnyV H' v → (∀ z, v = .ref z → H z = none) → a ≤ a' → a' ≤ a + 1 → But p H H' → PenAt H' p q ns a' r' → Q v H'
theorem ok__law_odd (T : Txt P K mg) : OkF P w K mg base CX0 3 (He.ga K "_law_odd") ["_law_pen_here"] (spOdd K) := by
  have G__law_pick := ok__law_pick (P := P) (w := w) (base := base) T
  obtain ⟨fd, F⟩ := T.F__law_odd
  refine ⟨fd, F.ok sc__law_odd (fun vs H Q E h => ?_) (fun cdv A outer s H vs Q E hr h => ?_), F.bindsN fun _ _ _ _ _ _ us hl => match us, hl with | [_], _ => rfl, F.kp⟩
  · obtain ⟨p, q, ns, a, r, rfl, _⟩ := h
    rfl
  · obtain ⟨p, q, ns, a, r, rfl, S, a2, k⟩ := h
    refine ⟨_, PSs.nox (pss_cons (ps_asg (pe_lst (pa_cons pe_non (pa_cons pe_bl (pa_cons pe_bl (pa_cons pe_int (pa_cons (pe_un un_neg pe_int) (pa_cons (pe_op op_sub pe_int (pe_op op_pow pe_int pe_int)) (pa_cons pe_str (pa_cons pe_str (pa_cons pe_str (pa_cons pe_str (pa_cons pe_str pa_nil)))))))))))) (pg_name (i := 1) sc__law_odd.nd rfl (.inl rfl)))
    (pss_cons (ps_asg (pe_op op_cat (pv 1) (pe_lst (pa_cons pe_str (pa_cons pe_str (pa_cons pe_str (pa_cons (pe_tup pa_nil) (pa_cons (pe_tup (pa_cons pe_int pa_nil)) (pa_cons (pe_lst pa_nil) (pa_cons (pe_lst (pa_cons pe_str pa_nil)) (pa_cons pe_dnewK (pa_cons (pe_disp (pps_cons pe_str pe_int pps_nil) rfl rfl (fun z => by cases z) (by decide)) (pa_cons pe_str (pa_cons pe_int (pa_cons pe_int pa_nil)))))))))))))) (pg_name (i := 1) sc__law_odd.nd rfl (.inl rfl)))
    (pss_one (ps_ret (pe_f G__law_pick (hr.mono (by decide)) (by rfl) T.g__law_pick pass0 (pa_cons (pv 0) (pa_cons (pe_op op_cat (pv 1) (pe_lst (pa_cons pe_str (pa_cons (pe_op op_sub (pe_op op_pow pe_int pe_int) pe_int) (pa_cons pe_str (pa_cons pe_str (pa_cons (pe_tup (pa_cons pe_str pa_nil)) pa_nil))))))) pa_nil))))))), ?_⟩
    refine ⟨_, rfl, _, _, rfl, rfl, ⟨by decide, by decide, by decide⟩, _, _, rfl, rfl, show 11 ≤ sizeLine by decide, fun l1 n1 => ?_⟩
    generalize hX1 : [V.non, V.bl true, V.bl false, V.int 0, _, _, V.str "", V.str "buy", V.str "Buy", V.str "sell", V.str "buys"] = X1
    have s1 := same_new (o := .lst X1) n1
    have h1 : upd H l1 (.lst X1) l1 = some (.lst X1) := upd_same
    generalize upd H l1 (.lst X1) = H1 at s1 h1
    refine ⟨_, rfl, show 0 ≤ sizeLine by decide, fun t2 n2 => ?_⟩
    have s2 := same_new (o := .tup []) n2
    have h2 : upd H1 t2 (.tup []) t2 = some (.tup []) := upd_same
    generalize upd H1 t2 (.tup []) = H2 at s2 h2
    refine ⟨show 1 ≤ sizeLine by decide, fun t3 n3 => ?_⟩
    have s3 := same_new (o := .tup [V.int 1]) n3
    have h3 : upd H2 t3 (.tup [V.int 1]) t3 = some (.tup [V.int 1]) := upd_same
    generalize upd H2 t3 (.tup [V.int 1]) = H3 at s3 h3
    refine ⟨show 0 ≤ sizeLine by decide, fun t4 n4 => ?_⟩
    have s4 := same_new (o := .lst []) n4
    have h4 : upd H3 t4 (.lst []) t4 = some (.lst []) := upd_same
    generalize upd H3 t4 (.lst []) = H4 at s4 h4
    refine ⟨show 1 ≤ sizeLine by decide, fun t5 n5 => ?_⟩
    have s5 := same_new (o := .lst [V.str "buy"]) n5
    have h5 : upd H4 t5 (.lst [V.str "buy"]) t5 = some (.lst [V.str "buy"]) := upd_same
    generalize upd H4 t5 (.lst [V.str "buy"]) = H5 at s5 h5
    refine fun t6 n6 => ?_
    have s6 := same_new (o := .dK []) n6
    have h6 : upd H5 t6 (.dK []) t6 = some (.dK []) := upd_same
    generalize upd H5 t6 (.dK []) = H6 at s6 h6
    refine fun t7 n7 => ?_
    refine ⟨upd_same, [(.inr "a", V.int 1)], rfl, by decide, ?_⟩
    generalize hD : HO.dK (mergeK [] [(Sum.inr "a", V.int 1)]) = D7
    have s7 : Same H6 (upd (upd H6 t7 (.dK [])) t7 D7) := fun b o hb => by
      rw [upd_ne (ne_of_none hb n7), upd_ne (ne_of_none hb n7)]
      exact hb
    have h7 : upd (upd H6 t7 (.dK [])) t7 D7 t7 = some D7 := upd_same
    generalize upd (upd H6 t7 (.dK [])) t7 D7 = H7 at s7 h7
    rw [← hD] at h7
    refine ⟨show 12 ≤ sizeLine by decide, fun l8 n8 => ?_⟩
    generalize hX2 : [V.str "aa1", V.str "abcdefghi", V.str "-", V.ref t2, V.ref t3, V.ref t4, V.ref t5, V.ref t6, V.ref t7, V.str "a b", V.int 1, V.int 5] = X2
    have s8 := same_new (o := .lst X2) n8
    have h8 : upd H7 l8 (.lst X2) l8 = some (.lst X2) := upd_same
    generalize upd H7 l8 (.lst X2) = H8 at s8 h8
    have s18 : Same H1 H8 := (((((s2.trans s3).trans s4).trans s5).trans s6).trans s7).trans s8
    have e1 : X1.length = 11 := by rw [← hX1]; rfl
    have e2 : X2.length = 12 := by rw [← hX2]; rfl
    refine ⟨l1, l8, X1, X2, rfl, rfl, s18 _ _ h1, h8, by rw [e1, e2]; decide, fun l9 n9 => ?_⟩
    have s9 := same_new (o := .lst (X1 ++ X2)) n9
    have h9 : upd H8 l9 (.lst (X1 ++ X2)) l9 = some (.lst (X1 ++ X2)) := upd_same
    generalize upd H8 l9 (.lst (X1 ++ X2)) = H9 at s9 h9
    refine ⟨_, rfl, _, rfl, _, _, rfl, rfl, ⟨by decide, by decide, by decide⟩, _, _, rfl, rfl, show 1 ≤ sizeLine by decide, fun t10 n10 => ?_⟩
    have s10 := same_new (o := .tup [V.str "buy"]) n10
    have h10 : upd H9 t10 (.tup [V.str "buy"]) t10 = some (.tup [V.str "buy"]) := upd_same
    generalize upd H9 t10 (.tup [V.str "buy"]) = H10 at s10 h10
    refine ⟨show 5 ≤ sizeLine by decide, fun l11 n11 => ?_⟩
    generalize hX3 : [V.str "none", _, V.str " c", V.str "c\n", V.ref t10] = X3
    have s11 := same_new (o := .lst X3) n11
    have h11 : upd H10 l11 (.lst X3) l11 = some (.lst X3) := upd_same
    generalize upd H10 l11 (.lst X3) = H11 at s11 h11
    have e3 : X3.length = 5 := by rw [← hX3]; rfl
    have s911 : Same H9 H11 := s10.trans s11
    refine ⟨l9, l11, X1 ++ X2, X3, rfl, rfl, s911 _ _ h9, h11, by rw [List.length_append, e1, e2, e3]; decide, fun l12 n12 => ?_⟩
    have s12 := same_new (o := .lst ((X1 ++ X2) ++ X3)) n12
    have h12 : upd H11 l12 (.lst ((X1 ++ X2) ++ X3)) l12 = some (.lst ((X1 ++ X2) ++ X3)) := upd_same
    generalize upd H11 l12 (.lst ((X1 ++ X2) ++ X3)) = H12 at s12 h12
    have s012 : Same H H12 := (((s1.trans s18).trans s9).trans s911).trans s12
    have S12 := S.same s012
    have new : ∀ {z : Addr} {H' : Hp}, Same H H' → H' z = none → H z = none := fun s n => s.free n
    have np : l12 ≠ p := fun z => by rw [z] at n12; exact absurd n12 (by rw [((s1.trans s18).trans (s9.trans s911)) _ _ S.pen]; simp)
    refine ⟨p, q, l12, ns, a, r, _, rfl, S12, by omega, h12, np, by rw [List.length_append, List.length_append, e1, e2, e3]; decide, by rw [List.length_append, List.length_append, e1, e2, e3]; decide, fun v a' r' H' hv c1 c2 B S' => ?_⟩
    have A12 : AnyV H12 v ∧ ∀ z, v = .ref z → H z = none := by
      rcases List.mem_append.mp hv with hv | hv
      · rcases List.mem_append.mp hv with hv | hv
        · rw [← hX1] at hv
          simp only [List.mem_cons, List.not_mem_nil, or_false] at hv
          rcases hv with rfl | rfl | rfl | rfl | rfl | rfl | rfl | rfl | rfl | rfl | rfl
          all_goals refine ⟨?_, fun z e => by cases e⟩
          all_goals first
            | exact .inl ⟨_, rfl, by decide +kernel, by decide +kernel⟩
            | exact .inr (.inl ⟨_, rfl, by decide +kernel⟩)
            | exact .inr (.inr (.inl rfl))
            | exact .inr (.inr (.inr (.inl ⟨_, rfl⟩)))
        · have s212 : Same H8 H12 := (s9.trans s911).trans s12
          rw [← hX2] at hv
          simp only [List.mem_cons, List.not_mem_nil, or_false] at hv
          rcases hv with rfl | rfl | rfl | rfl | rfl | rfl | rfl | rfl | rfl | rfl | rfl | rfl
          · exact ⟨.inl ⟨_, rfl, by decide +kernel, by decide +kernel⟩, fun z e => by cases e⟩
          · exact ⟨.inl ⟨_, rfl, by decide +kernel, by decide +kernel⟩, fun z e => by cases e⟩
          · exact ⟨.inl ⟨_, rfl, by decide +kernel, by decide +kernel⟩, fun z e => by cases e⟩
          · exact ⟨.inr (.inr (.inr (.inr (.inl ⟨_, _, rfl, s212 _ _ (s8 _ _ (s7 _ _ (s6 _ _ (s5 _ _ (s4 _ _ (s3 _ _ h2))))))⟩)))), fun z e => by cases e; exact s1.free n2⟩
          · exact ⟨.inr (.inr (.inr (.inr (.inl ⟨_, _, rfl, s212 _ _ (s8 _ _ (s7 _ _ (s6 _ _ (s5 _ _ (s4 _ _ h3)))))⟩)))), fun z e => by cases e; exact (s1.trans s2).free n3⟩
          · exact ⟨.inr (.inr (.inr (.inr (.inr (.inl ⟨_, _, rfl, s212 _ _ (s8 _ _ (s7 _ _ (s6 _ _ (s5 _ _ h4))))⟩))))), fun z e => by cases e; exact ((s1.trans s2).trans s3).free n4⟩
          · exact ⟨.inr (.inr (.inr (.inr (.inr (.inl ⟨_, _, rfl, s212 _ _ (s8 _ _ (s7 _ _ (s6 _ _ h5)))⟩))))), fun z e => by cases e; exact (((s1.trans s2).trans s3).trans s4).free n5⟩
          · exact ⟨.inr (.inr (.inr (.inr (.inr (.inr ⟨_, _, rfl, s212 _ _ (s8 _ _ (s7 _ _ h6))⟩))))), fun z e => by cases e; exact ((((s1.trans s2).trans s3).trans s4).trans s5).free n6⟩
          · exact ⟨.inr (.inr (.inr (.inr (.inr (.inr ⟨_, _, rfl, s212 _ _ (s8 _ _ h7)⟩))))), fun z e => by cases e; exact (((((s1.trans s2).trans s3).trans s4).trans s5).trans s6).free n7⟩
          · exact ⟨.inl ⟨_, rfl, by decide +kernel, by decide +kernel⟩, fun z e => by cases e⟩
          · exact ⟨.inr (.inl ⟨_, rfl, by decide +kernel⟩), fun z e => by cases e⟩
          · exact ⟨.inr (.inl ⟨_, rfl, by decide +kernel⟩), fun z e => by cases e⟩
      · rw [← hX3] at hv
        simp only [List.mem_cons, List.not_mem_nil, or_false] at hv
        rcases hv with rfl | rfl | rfl | rfl | rfl
        · exact ⟨.inl ⟨_, rfl, by decide +kernel, by decide +kernel⟩, fun z e => by cases e⟩
        · exact ⟨.inr (.inl ⟨_, rfl, by decide +kernel⟩), fun z e => by cases e⟩
        · exact ⟨.inl ⟨_, rfl, by decide +kernel, by decide +kernel⟩, fun z e => by cases e⟩
        · exact ⟨.inl ⟨_, rfl, by decide +kernel, by decide +kernel⟩, fun z e => by cases e⟩
        · exact ⟨.inr (.inr (.inr (.inr (.inl ⟨_, _, rfl, s12 _ _ (s11 _ _ h10)⟩)))), fun z e => by cases e; exact ((s1.trans s18).trans s9).free n10⟩
    refine k v a' r' H' (A12.1.but (fun e => ?_) B) A12.2 c1 c2 (fun b o hb nb => B _ _ (s012 _ _ hb) nb) S'
    have z := A12.2 p e
    rw [S.pen] at z
    cases z
end
end Kx
set_option maxHeartbeats 8000000
namespace Kx
open PySem PySem.Spec PyProof.Rows L2 Xr LamX
local macro_rules | `(tactic| walk_at "rd") => `(tactic| (repeat (first | apply Exists.intro | (refine And.intro rfl ?_) | (refine And.intro (SqL.of (by assumption)) ?_) | (refine And.intro (Or.inl (SqL.of (by assumption))) ?_) | (refine Or.inl ⟨_, rfl, ?_⟩) | (refine Or.inr ⟨_, rfl, ?_⟩) | (refine And.intro (by assumption) ?_) | (refine And.intro (Or.inl (by assumption)) ?_))))
section
variable {P : Program} {w : World} {K : PySem.W.Frag} {mg : Str → Option Value} {base : Heap}
def shB : V → V → Bool
  | .int z, .int l => wholeB z && (decide (1 ≤ z) && decide (z ≤ l))
  | _, _ => false
/-- the first argument of a row that is wrong -/
def faultR (i : Nat) (sd nm lm lt sh ow : V) : V := if faultV (sideOf sd) (nameOf nm) (wholeOf lm) (countOf lt) (nameOf ow) = .non then (if i = 3 ∧ shB sh lt = false then .str "shown" else .non) else faultV (sideOf sd) (nameOf nm) (wholeOf lm) (countOf lt) (nameOf ow)
def rowA (i : Nat) (sd nm lm lt sh ow : V) : List V := [.str (kindS i), sd, nm, lm, lt, sh, ow]
structure RowAt (H : Hp) (l : Addr) (i : Nat) (sd nm lm lt sh ow : V) : Prop where
  i4 : i < 4
  at_ : H l = some (.lst (rowA i sd nm lm lt sh ow))
  sd : AnyV H sd
  nm : AnyV H nm
  lm : AnyV H lm
  lt : AnyV H lt
  sh : AnyV H sh
  ow : AnyV H ow
theorem RowAt.map {H H' : Hp} {l : Addr} {i : Nat} {sd nm lm lt sh ow : V} (h : RowAt H l i sd nm lm lt sh ow) (s : ∀ a o, H a = some o → (∀ ps, o ≠ .tbl ps) → H' a = some o) : RowAt H' l i sd nm lm lt sh ow :=
  ⟨h.i4, s _ _ h.at_ fun _ z => (by cases z), h.sd.map fun a o _ k z => s a o k z, h.nm.map fun a o _ k z => s a o k z, h.lm.map fun a o _ k z => s a o k z, h.lt.map fun a o _ k z => s a o k z, h.sh.map fun a o _ k z => s a o k z, h.ow.map fun a o _ k z => s a o k z⟩
theorem RowAt.same {H H' : Hp} {l : Addr} {i : Nat} {sd nm lm lt sh ow : V} (h : RowAt H l i sd nm lm lt sh ow) (s : Same H H') : RowAt H' l i sd nm lm lt sh ow := h.map fun a o k _ => s a o k
theorem fault_all {b1 b2 b3 b4 b5 : Bool} (h : faultV b1 b2 b3 b4 b5 = .non) : b1 = true ∧ b2 = true ∧ b3 = true ∧ b4 = true ∧ b5 = true := by
  cases b1 <;> cases b2 <;> cases b3 <;> cases b4 <;> cases b5 <;> first | exact ⟨rfl, rfl, rfl, rfl, rfl⟩ | cases h
theorem faultR_str {i : Nat} {sd nm lm lt sh ow : V} {r : Str} (h : faultV (sideOf sd) (nameOf nm) (wholeOf lm) (countOf lt) (nameOf ow) = .str r) : faultR i sd nm lm lt sh ow = .str r := by
  unfold faultR
  rw [h, if_neg (by simp)]
theorem faultR_non {i : Nat} {sd nm lm lt sh ow : V} (h : faultV (sideOf sd) (nameOf nm) (wholeOf lm) (countOf lt) (nameOf ow) = .non) : faultR i sd nm lm lt sh ow = if i = 3 ∧ shB sh lt = false then .str "shown" else .non := by
  unfold faultR
  rw [if_pos h]
theorem side_of {v : V} (h : sideOf v = true) : ∃ x, v = .str x ∧ sideB x = true := by
  unfold sideOf at h
  split at h
  · exact ⟨_, rfl, h⟩
  · cases h
theorem name_of {v : V} (h : nameOf v = true) : ∃ x, v = .str x ∧ nameB x = true := by
  unfold nameOf at h
  split at h
  · exact ⟨_, rfl, h⟩
  · cases h
theorem whole_of {v : V} (h : wholeOf v = true) : ∃ x, v = .int x ∧ wholeB x = true := by
  unfold wholeOf at h
  split at h
  · exact ⟨_, rfl, h⟩
  · cases h
theorem count_of {v : V} (h : countOf v = true) : ∃ x, v = .int x ∧ countB x = true := by
  unfold countOf at h
  split at h
  · exact ⟨_, rfl, h⟩
  · cases h
theorem sc__law_fault : FnScope ["_law_row_here", "_law_kind", "_law_way", "_law_label", "_law_bound", "_law_many", "_law_seen", "_law_whose"] ["_law_row_here"] (defScope (top 36)) := ⟨rfl, rfl, rfl, by decide +kernel, rfl, by decide +kernel, by decide +kernel⟩
def spFaultL (K : PySem.W.Frag) : Sp := fun vs H Q _ => ∃ l i sd nm lm lt sh ow, vs = [.ref l] ∧ RowAt H l i sd nm lm lt sh ow ∧ ∀ H', Same H H' → Q (faultR i sd nm lm lt sh ow) H'
theorem ok__law_fault (T : Txt P K mg) : OkF P w K mg base CX0 2 (He.ga K "_law_fault") ["_law_row_here"] (spFaultL K) := by
  have G__law_is_name := ok__law_is_name (P := P) (w := w) (base := base) T
  have G__law_is_whole := ok__law_is_whole (P := P) (w := w) (base := base) T
  obtain ⟨fd, F⟩ := T.F__law_fault
  refine ⟨fd, F.ok sc__law_fault (fun vs H Q E h => ?_) (fun cdv A outer s H vs Q E hr h => ?_), F.bindsN fun _ _ _ _ _ _ us hl => match us, hl with | [_], _ => rfl, F.kp⟩
  · obtain ⟨l, i, sd, nm, lm, lt, sh, ow, rfl, _⟩ := h
    rfl
  · obtain ⟨l, i, sd, nm, lm, lt, sh, ow, rfl, R, k⟩ := h
    refine ⟨_, PSs.nox (pss_cons (ps_asg (pv 0) (pg_unl rfl (pgs_cons (pg_name (i := 1) sc__law_fault.nd rfl (.inl rfl)) (pgs_cons (pg_name (i := 2) sc__law_fault.nd rfl (.inl rfl)) (pgs_cons (pg_name (i := 3) sc__law_fault.nd rfl (.inl rfl)) (pgs_cons (pg_name (i := 4) sc__law_fault.nd rfl (.inl rfl)) (pgs_cons (pg_name (i := 5) sc__law_fault.nd rfl (.inl rfl)) (pgs_cons (pg_name (i := 6) sc__law_fault.nd rfl (.inl rfl)) (pgs_cons (pg_name (i := 7) sc__law_fault.nd rfl (.inl rfl)) pgs_nil)))))))))
    (pss_cons (ps_if (PW.pt (pw_or (pt_not (pt_val (pe_callB (call_isiK K) (by rfl) T.z_isinstance (by decide +kernel) (pa_cons (pv 2) (pa_cons (pe_bltn (v := .ty "str") (by rfl) T.z_str (by decide +kernel) rfl) pa_nil))))) (pw_or1 (pt_cmpR op_notIn_seq (pv 2) (pe_tup (pa_cons pe_str (pa_cons pe_str pa_nil))) (by rfl)))))
      (pss_one (ps_ret pe_str))
      pss_nil)
    (pss_cons (ps_if (pt_not (pt_val (pe_f G__law_is_name (hr.mono (by decide)) (by rfl) T.g__law_is_name pass0 (pa_cons (pv 3) pa_nil))))
      (pss_one (ps_ret pe_str))
      pss_nil)
    (pss_cons (ps_if (pt_not (pt_val (pe_f G__law_is_whole (hr.mono (by decide)) (by rfl) T.g__law_is_whole pass0 (pa_cons (pv 4) pa_nil))))
      (pss_one (ps_ret pe_str))
      pss_nil)
    (pss_cons (ps_if (PW.pt (pw_or (pt_not (pt_val (pe_f G__law_is_whole (hr.mono (by decide)) (by rfl) T.g__law_is_whole pass0 (pa_cons (pv 5) pa_nil)))) (pw_or1 (pt_cmpR op_lt (pv 5) pe_int (nomark _)))))
      (pss_one (ps_ret pe_str))
      pss_nil)
    (pss_cons (ps_if (pt_not (pt_val (pe_f G__law_is_name (hr.mono (by decide)) (by rfl) T.g__law_is_name pass0 (pa_cons (pv 7) pa_nil))))
      (pss_one (ps_ret pe_str))
      pss_nil)
    (pss_cons (ps_if (PW.pt (pw_and (pt_cmpR op_eq (pv 1) pe_str (nomark _)) (pw_and1 (PW.pt (pw_or (pt_not (pt_val (pe_f G__law_is_whole (hr.mono (by decide)) (by rfl) T.g__law_is_whole pass0 (pa_cons (pv 6) pa_nil)))) (pw_or1 (pt_not (pt_chain op_le op_le pe_int (pv 6) (pv 5)))))))))
      (pss_one (ps_ret pe_str))
      pss_nil)
    (pss_one (ps_ret pe_non))))))))), ?_⟩
    refine ⟨_, rfl, l, _, rfl, SqL.of R.at_, rfl, _, _, rfl, _, _, rfl, _, _, rfl, _, _, rfl, _, _, rfl, _, _, rfl, _, _, rfl, rfl, ?_⟩
    have kk : ∀ {r : Str} {H' : Hp}, faultV (sideOf sd) (nameOf nm) (wholeOf lm) (countOf lt) (nameOf ow) = .str r → Same H H' → Q (.str r) H' := fun e s => by
      have z := k _ s
      rw [faultR_str e] at z
      exact z
    rcases R.sd.noS (K := K) with ⟨x, rfl, hx, hok⟩ | ⟨n, t, ty, e⟩
    case inr =>
      have eb : sideOf sd = false := by
        unfold sideOf
        split
        · exact absurd rfl (n _)
        · rfl
      exact ⟨_, rfl, _, _, _, _, _, rfl, .ty "str", ty, e, _, rfl, iteTr rfl (kk (by rw [eb]; rfl) (Same.refl H))⟩
    refine ⟨_, rfl, _, _, _, _, _, rfl, .ty "str", .base (.str x), kit_ss, _, rfl, iteFa rfl ?_⟩
    refine ⟨_, rfl, show 2 ≤ sizeLine by decide, fun tp ntp => ?_⟩
    have s1 := same_new (o := .tup [V.str "buy", V.str "sell"]) ntp
    have h1 : upd H tp (.tup [V.str "buy", V.str "sell"]) tp = some (.tup [V.str "buy", V.str "sell"]) := upd_same
    generalize upd H tp (.tup [V.str "buy", V.str "sell"]) = H1 at s1 h1
    refine ⟨_, _, rfl, .inr (SqT.of h1), rfl, rfl, _, rfl, ?_⟩
    show if (!sideB x) = true then _ else _
    cases hs : sideB x with
    | false => exact iteTr rfl (kk (by rw [show sideOf (.str x) = false from hs]; rfl) s1)
    | true =>
    have hs : sideOf (.str x) = true := hs
    refine iteFa rfl ⟨_, rfl, nm, rfl, R.nm.same s1, fun H2 s2 => ⟨_, rfl, ?_⟩⟩
    have s02 := s1.trans s2
    cases hn : nameOf nm with
    | false => exact iteTr rfl (kk (by rw [hs, hn]; rfl) s02)
    | true =>
    refine iteFa rfl ⟨_, rfl, _, _, rfl, (R.lm.same s02).whole, _, rfl, ?_⟩
    cases hl : wholeOf lm with
    | false => exact iteTr rfl (kk (by rw [hs, hn, hl]; rfl) s02)
    | true =>
    refine iteFa rfl ⟨_, rfl, _, _, rfl, (R.lt.same s02).whole, _, rfl, ?_⟩
    cases hw : wholeOf lt with
    | false =>
      have hc : countOf lt = false := by
        unfold countOf
        split
        · have z : wholeB _ = false := hw
          unfold countB
          rw [z]
          rfl
        · rfl
      exact iteTr rfl (kk (by rw [hs, hn, hl, hc]; rfl) s02)
    | true =>
    obtain ⟨m, rfl, hm⟩ := whole_of hw
    refine iteFa rfl ⟨_, rfl, _, _, rfl, rfl, _, rfl, ?_⟩
    by_cases h1m : m < 1
    · have hc : countOf (.int m) = false := by
        show (wholeB m && decide (1 ≤ m)) = false
        rw [decide_eq_false (by omega), Bool.and_false]
      exact iteTr (decide_eq_true h1m) (kk (by rw [hs, hn, hl, hc]; rfl) s02)
    have hc : countOf (.int m) = true := by
      show (wholeB m && decide (1 ≤ m)) = true
      rw [hm, decide_eq_true (by omega)]
      rfl
    refine iteFa (decide_eq_false h1m) ⟨_, rfl, ow, rfl, R.ow.same s02, fun H3 s3 => ⟨_, rfl, ?_⟩⟩
    have s03 := s02.trans s3
    cases ho : nameOf ow with
    | false => exact iteTr rfl (kk (by rw [hs, hn, hl, hc, ho]; rfl) s03)
    | true =>
    have ef : faultV (sideOf (.str x)) (nameOf nm) (wholeOf lm) (countOf (.int m)) (nameOf ow) = .non := by rw [hs, hn, hl, hc, ho]; rfl
    have kf := k H3 s03
    rw [faultR_non ef] at kf
    refine iteFa rfl ⟨_, rfl, rfl, _, rfl, ?_⟩
    rw [kind_v i R.i4]
    by_cases e3 : i = 3
    case neg =>
      rw [if_neg (fun z => e3 z.1)] at kf
      exact iteFa (decide_eq_false e3) kf
    refine iteTr (decide_eq_true e3) ⟨_, rfl, _, _, rfl, (R.sh.same s03).whole, _, rfl, ?_⟩
    cases hw2 : wholeOf sh with
    | false =>
      have e2 : shB sh (.int m) = false := by
        unfold shB
        split
        · have z : wholeB _ = false := hw2
          rw [z]
          rfl
        · rfl
      rw [if_pos ⟨e3, e2⟩] at kf
      exact iteTr rfl kf
    | true =>
    obtain ⟨z, rfl, hz⟩ := whole_of hw2
    have es : shB (.int z) (.int m) = (decide (1 ≤ z) && decide (z ≤ m)) := by
      show (wholeB z && _) = _
      rw [hz, Bool.true_and]
    rw [es] at kf
    refine iteFa rfl ⟨_, rfl, _, _, rfl, rfl, _, rfl, ?_⟩
    by_cases h1 : 1 ≤ z
    · refine iteTr (decide_eq_true h1) ⟨_, rfl, _, _, rfl, rfl, _, rfl, ?_⟩
      rw [decide_eq_true h1, Bool.true_and] at kf
      by_cases h2 : z ≤ m
      · rw [decide_eq_true h2, if_neg (fun q => by cases q.2)] at kf
        exact iteFa (by rw [decide_eq_true h2]; rfl) kf
      · rw [decide_eq_false h2, if_pos ⟨e3, rfl⟩] at kf
        exact iteTr (by rw [decide_eq_false h2]; rfl) kf
    · rw [decide_eq_false h1, if_pos ⟨e3, rfl⟩] at kf
      exact iteFa (decide_eq_false h1) ⟨_, rfl, kf⟩
theorem sc__law_made : FnScope ["_law_row_here", "_law_kind", "_law_way", "_law_label", "_law_bound", "_law_many", "_law_seen", "_law_whose"] ["_law_row_here"] (defScope (top 31)) := ⟨rfl, rfl, rfl, by decide +kernel, rfl, by decide +kernel, by decide +kernel⟩
def spMadeR (K : PySem.W.Frag) : Sp := fun vs H Q E => ∃ l i sd nm lm lt sh ow, vs = [.ref l] ∧ RowAt H l i sd nm lm lt sh ow ∧ (∀ r, faultR i sd nm lm lt sh ow = .str r → FltO K (.str r) H E) ∧
  (faultR i sd nm lm lt sh ow = .non → ∀ b H' r, Same H H' → H b = none → OrdAt H' (cO K i) b r → RwG i r → sd = .str r.sd → nm = .str r.nm → lm = .int r.lm → lt = .int r.lt → Q (.ref b) H')
theorem mkR_sub {H : Hp} {l : Addr} {i : Nat} {sd nm lm lt sh ow : V} {Q : VK} {E : XK} (R : RowAt H l i sd nm lm lt sh ow) (h3 : i ≠ 3) (k1 : ∀ r, faultR i sd nm lm lt sh ow = .str r → FltO K (.str r) H E)
    (k2 : faultR i sd nm lm lt sh ow = .non → ∀ b H' r, Same H H' → H b = none → OrdAt H' (cO K i) b r → RwG i r → sd = .str r.sd → nm = .str r.nm → lm = .int r.lm → lt = .int r.lt → Q (.ref b) H') :
    ∀ x dx, H x = none → H dx = none → dx ≠ x → spSub K i [.ref x, sd, nm, lm, lt, ow] (upd (upd H dx (.own x)) x (.ins (cO K i) dx [])) (fun v H2 => v = .non ∧ Q (.ref x) H2) E := by
  intro x dx nx ndx ne
  have sx : Same H (upd (upd H dx (.own x)) x (.ins (cO K i) dx [])) := fun b o hb => by
    rw [upd_ne (ne_of_none hb nx), upd_ne (ne_of_none hb ndx)]
    exact hb
  refine ⟨x, dx, _, _, _, _, _, _, _, _, _, _, rfl, upd_same, (R.sd.same sx).side, (R.nm.same sx).name, (R.lm.same sx).whole, (R.lt.same sx).count, (R.ow.same sx).name, fun r e => (k1 r (faultR_str e)).same sx, fun e T H' B hx hT _ => ⟨rfl, ?_⟩⟩
  obtain ⟨f1, f2, f3, f4, f5⟩ := fault_all e
  obtain ⟨sd, rfl, g1⟩ := side_of f1
  obtain ⟨nm, rfl, g2⟩ := name_of f2
  obtain ⟨lm, rfl, g3⟩ := whole_of f3
  obtain ⟨lt, rfl, g4⟩ := count_of f4
  obtain ⟨ow, rfl, g5⟩ := name_of f5
  exact k2 (by rw [faultR_non e, if_neg (fun z => h3 z.1)]) x H' ⟨kindS i, sd, nm, lm, lt, ow, lt⟩ (fun b o hb => B b o (sx _ _ hb) (ne_of_none hb nx)) nx ⟨dx, T, hx, hT⟩ ⟨rfl, ⟨g1, g2, g3, g4, g5⟩, ⟨(count_whole g4).2, Int.le_refl _⟩, fun _ => rfl⟩ rfl rfl rfl rfl
theorem mkR_vei {H : Hp} {l : Addr} {sd nm lm lt sh ow : V} {Q : VK} {E : XK} (R : RowAt H l 3 sd nm lm lt sh ow) (k1 : ∀ r, faultR 3 sd nm lm lt sh ow = .str r → FltO K (.str r) H E)
    (k2 : faultR 3 sd nm lm lt sh ow = .non → ∀ b H' r, Same H H' → H b = none → OrdAt H' (cO K 3) b r → RwG 3 r → sd = .str r.sd → nm = .str r.nm → lm = .int r.lm → lt = .int r.lt → Q (.ref b) H') :
    ∀ x dx, H x = none → H dx = none → dx ≠ x → spVeiN K [.ref x, sd, nm, lm, lt, sh, ow] (upd (upd H dx (.own x)) x (.ins (cO K 3) dx [])) (fun v H2 => v = .non ∧ Q (.ref x) H2) E := by
  intro x dx nx ndx ne
  have sx : Same H (upd (upd H dx (.own x)) x (.ins (cO K 3) dx [])) := fun b o hb => by
    rw [upd_ne (ne_of_none hb nx), upd_ne (ne_of_none hb ndx)]
    exact hb
  have fb : ∀ {r : Str}, FltO K (.str r) H E → FltB K (.str r) x (upd (upd H dx (.own x)) x (.ins (cO K 3) dx [])) E := fun f d H' B n h => f d H' (fun b o hb => B b o (sx _ _ hb) (ne_of_none hb nx)) (sx.free n) h
  refine ⟨⟨x, dx, _, _, _, _, _, _, _, _, _, _, _, _, rfl, upd_same, (R.sd.same sx).side, (R.nm.same sx).name, (R.lm.same sx).whole, (R.lt.same sx).count, (R.ow.same sx).name, (R.sh.same sx).count, fun r e => (k1 r (faultR_str e)).same sx, fun e e6 => fb (k1 _ ?_), fun e z l e1 e2 h => fb (k1 _ ?_), fun e e6 z l e1 e2 h T H' B hx hT _ => ⟨rfl, ?_⟩⟩, fun y ey e => ?_⟩
  · have hs : shB sh lt = false := by
      unfold shB
      split
      · rename_i z l
        have e6 : (wholeB z && decide (1 ≤ z)) = false := e6
        rw [← Bool.and_assoc, e6]
        rfl
      · rfl
    rw [faultR_non e, if_pos ⟨rfl, hs⟩]
  · have hs : shB sh lt = false := by
      subst e1 e2
      show (wholeB z && (decide (1 ≤ z) && decide (z ≤ l))) = false
      rw [decide_eq_false (show ¬ z ≤ l by omega), Bool.and_false, Bool.and_false]
    rw [faultR_non e, if_pos ⟨rfl, hs⟩]
  · obtain ⟨f1, f2, f3, f4, f5⟩ := fault_all e
    obtain ⟨sd, rfl, g1⟩ := side_of f1
    obtain ⟨nm, rfl, g2⟩ := name_of f2
    obtain ⟨lm, rfl, g3⟩ := whole_of f3
    obtain ⟨lt, rfl, g4⟩ := count_of f4
    obtain ⟨ow, rfl, g5⟩ := name_of f5
    cases e1
    cases e2
    have g6 : countB z = true := e6
    refine k2 ?_ x H' ⟨kindS 3, sd, nm, lm, l, ow, z⟩ (fun b o hb => B b o (sx _ _ hb) (ne_of_none hb nx)) nx ⟨dx, T, hx, hT⟩ ⟨rfl, ⟨g1, g2, g3, g4, g5⟩, ⟨(count_whole g6).2, h⟩, fun z => absurd rfl z⟩ rfl rfl rfl rfl
    rw [faultR_non e, if_neg]
    intro q
    have q2 : (wholeB z && (decide (1 ≤ z) && decide (z ≤ l))) = false := q.2
    rw [(count_whole g6).1, decide_eq_true (count_whole g6).2, decide_eq_true h] at q2
    cases q2
  · have e : sh = .ref y := by simpa using e
    have ey : x = y := by simpa using ey
    subst ey
    have z := R.sh
    rw [e] at z
    rcases z with ⟨_, z, _⟩ | ⟨_, z, _⟩ | z | ⟨_, z⟩ | ⟨a, xs, z, k⟩ | ⟨a, xs, z, k⟩ | ⟨a, xs, z, k⟩
    all_goals first
      | cases z; done
      | (cases z; rw [nx] at k; cases k)
theorem fn__law_made (T : Txt P K mg) {fd : FuncData} (F : FunD K "_law_made" "_law_made" (defArgs (top 31)) (defBody (top 31)) (defScope (top 31)) [] [] (He.ga K "_law_made") fd) : FnOk P w K mg base (L2.CX P w) 8 (He.ga K "_law_made") fd ["_law_row_here"] (spMadeR K) := by
  have G_OrderK := okK_Order_init (P := P) (w := w) (base := base) T
  have G_NowOrderK := okK_NowOrder_init (P := P) (w := w) (base := base) T
  have G_AllOrderK := okK_AllOrder_init (P := P) (w := w) (base := base) T
  have G_VeiledOrderK := okK_VeiledOrder_init (P := P) (w := w) (base := base) T
  refine F.ok sc__law_made (fun vs H Q E h => ?_) (fun cdv A outer s H vs Q E hr h => ?_)
  · obtain ⟨l, i, sd, nm, lm, lt, sh, ow, rfl, _⟩ := h
    rfl
  · obtain ⟨l, i, sd, nm, lm, lt, sh, ow, rfl, R, k1, k2⟩ := h
    refine ⟨_, (pss_cons (ps_asg (pv 0) (pg_unl rfl (pgs_cons (pg_name (i := 1) sc__law_made.nd rfl (.inl rfl)) (pgs_cons (pg_name (i := 2) sc__law_made.nd rfl (.inl rfl)) (pgs_cons (pg_name (i := 3) sc__law_made.nd rfl (.inl rfl)) (pgs_cons (pg_name (i := 4) sc__law_made.nd rfl (.inl rfl)) (pgs_cons (pg_name (i := 5) sc__law_made.nd rfl (.inl rfl)) (pgs_cons (pg_name (i := 6) sc__law_made.nd rfl (.inl rfl)) (pgs_cons (pg_name (i := 7) sc__law_made.nd rfl (.inl rfl)) pgs_nil)))))))))
    (pss_cons (ps_if (pt_cmpR op_eq (pv 1) pe_str (nomark _))
      (pss_one (ps_ret (pe_makeRK T.ord.o.mks G_OrderK (hr.mono (by decide)) (by rfl) T.g_Order (passes_call (takes_of rfl rfl rfl rfl) (fun _ _ _ _ h => h)) (pa_cons (pv 2) (pa_cons (pv 3) (pa_cons (pv 4) (pa_cons (pv 5) pa_nil)))) (pk_cons (pv 7) pk_nil))))
      pss_nil)
    (pss_cons (ps_if (pt_cmpR op_eq (pv 1) pe_str (nomark _))
      (pss_one (ps_ret (pe_makeRK T.ord.n.mks G_NowOrderK (hr.mono (by decide)) (by rfl) T.g_NowOrder (passes_call (takes_of rfl rfl rfl rfl) (fun _ _ _ _ h => h)) (pa_cons (pv 2) (pa_cons (pv 3) (pa_cons (pv 4) (pa_cons (pv 5) pa_nil)))) (pk_cons (pv 7) pk_nil))))
      pss_nil)
    (pss_cons (ps_if (pt_cmpR op_eq (pv 1) pe_str (nomark _))
      (pss_one (ps_ret (pe_makeRK T.ord.a.mks G_AllOrderK (hr.mono (by decide)) (by rfl) T.g_AllOrder (passes_call (takes_of rfl rfl rfl rfl) (fun _ _ _ _ h => h)) (pa_cons (pv 2) (pa_cons (pv 3) (pa_cons (pv 4) (pa_cons (pv 5) pa_nil)))) (pk_cons (pv 7) pk_nil))))
      pss_nil)
    (pss_one (ps_ret (pe_makeRK T.ord.v.mks G_VeiledOrderK (hr.mono (by decide)) (by rfl) T.g_VeiledOrder (passes_call (takes_of rfl rfl rfl rfl) (fun _ _ _ _ h => h)) (pa_cons (pv 2) (pa_cons (pv 3) (pa_cons (pv 4) (pa_cons (pv 5) pa_nil)))) (pk_cons (pv 6) (pk_cons (pv 7) pk_nil))))))))), ?_⟩
    refine ⟨_, rfl, l, _, rfl, SqL.of R.at_, rfl, _, _, rfl, _, _, rfl, _, _, rfl, _, _, rfl, _, _, rfl, _, _, rfl, _, _, rfl, rfl, ?_⟩
    match i, R, k1, k2 with
    | 0, R, k1, k2 =>
      refine ⟨_, rfl, rfl, _, rfl, iteTr (show decide (V.str (kindS 0) = V.str "limit") = true by decide +kernel) ?_⟩
      refine ⟨_, rfl, _, rfl, _, rfl, _, rfl, _, rfl, rfl, rfl, fun x dx' nx ndx ne => spSub_I (i := 0) (by decide) ?_⟩
      exact mkR_sub R (by decide) k1 k2 x dx' nx ndx ne
    | 1, R, k1, k2 =>
      refine ⟨_, rfl, rfl, _, rfl, iteFa (show decide (V.str (kindS 1) = V.str "limit") = false by decide +kernel) ⟨_, rfl, rfl, _, rfl, iteTr (show decide (V.str (kindS 1) = V.str "now") = true by decide +kernel) ?_⟩⟩
      refine ⟨_, rfl, _, rfl, _, rfl, _, rfl, _, rfl, rfl, rfl, ?_⟩
      exact mkR_sub R (by decide) k1 k2
    | 2, R, k1, k2 =>
      refine ⟨_, rfl, rfl, _, rfl, iteFa (show decide (V.str (kindS 2) = V.str "limit") = false by decide +kernel) ⟨_, rfl, rfl, _, rfl, iteFa (show decide (V.str (kindS 2) = V.str "now") = false by decide +kernel) ⟨_, rfl, rfl, _, rfl, iteTr (show decide (V.str (kindS 2) = V.str "all") = true by decide +kernel) ?_⟩⟩⟩
      refine ⟨_, rfl, _, rfl, _, rfl, _, rfl, _, rfl, rfl, rfl, ?_⟩
      exact mkR_sub R (by decide) k1 k2
    | 3, R, k1, k2 =>
      refine ⟨_, rfl, rfl, _, rfl, iteFa (show decide (V.str (kindS 3) = V.str "limit") = false by decide +kernel) ⟨_, rfl, rfl, _, rfl, iteFa (show decide (V.str (kindS 3) = V.str "now") = false by decide +kernel) ⟨_, rfl, rfl, _, rfl, iteFa (show decide (V.str (kindS 3) = V.str "all") = false by decide +kernel) ?_⟩⟩⟩
      refine ⟨_, rfl, _, rfl, _, rfl, _, rfl, _, rfl, _, rfl, rfl, rfl, ?_⟩
      exact mkR_vei R k1 k2
    | n + 4, R, k1, k2 => exact absurd R.i4 (by omega)
theorem ok__law_made (T : Txt P K mg) : OkF P w K mg base (L2.CX P w) 8 (He.ga K "_law_made") ["_law_row_here"] (spMadeR K) := by
  obtain ⟨fd, F⟩ := T.F__law_made
  exact ⟨fd, fn__law_made T F, F.bindsN fun _ _ _ _ _ _ us hl => match us, hl with | [_], _ => rfl, F.kp⟩
theorem sc__law_told : FnScope ["_law_order", "_law_seen"] ["_law_order"] (defScope (top 32)) := ⟨rfl, rfl, rfl, by decide +kernel, rfl, by decide +kernel, by decide +kernel⟩
def spTold (K : PySem.W.Frag) : Sp := fun vs H Q _ => ∃ i a r, vs = [.ref a] ∧ i < 4 ∧ OrdAt H (cO K i) a r ∧ RwG i r ∧ ∀ l, H l = none → Q (.ref l) (upd H l (.lst (rowV r)))
theorem ok__law_told (T : Txt P K mg) : OkF P w K mg base CX0 3 (He.ga K "_law_told") ["_law_order"] (spTold K) := by
  have G_P_side := ok_P_side (P := P) (w := w) (base := base) T
  have G_P_limit := ok_P_limit (P := P) (w := w) (base := base) T
  have G_P_lots := ok_P_lots (P := P) (w := w) (base := base) T
  have G_P_owner := ok_P_owner (P := P) (w := w) (base := base) T
  have G_P_visible := ok_P_visible (P := P) (w := w) (base := base) T
  have G_P_shown := ok_P_shown (P := P) (w := w) (base := base) T
  obtain ⟨fd, F⟩ := T.F__law_told
  refine ⟨fd, F.ok sc__law_told (fun vs H Q E h => ?_) (fun cdv A outer s H vs Q E hr h => ?_), F.bindsN fun _ _ _ _ _ _ us hl => match us, hl with | [_], _ => rfl, F.kp⟩
  · obtain ⟨i, a, r, rfl, _⟩ := h
    rfl
  · obtain ⟨i, a, r, rfl, hi, o, g, k⟩ := h
    have c := ocl T hi
    obtain ⟨dx, t, h1, h2⟩ := id o.at_
    obtain ⟨u, con⟩ := c.kd
    refine ⟨_, PSs.nox (pss_cons (ps_asg (pe_cut (pe_ifExp (pt_cmpR op_eq (pe_con (pv 0) rfl) pe_str (nomark _)) (pe_prF (pv 0) T.ord.v.pl.cls T.ord.sh G_P_shown (hr.mono (by decide)) pass0) (pe_prF (pv 0) c.pl.cls (c.pr "visible" (by decide)) G_P_visible (hr.mono (by decide)) pass0))) (pg_name (i := 1) sc__law_told.nd rfl (.inl rfl)))
    (pss_one (ps_ret (pe_lst (pa_cons (pe_con (pv 0) rfl) (pa_cons (pe_prF (pv 0) c.pl.cls (c.pr "side" (by decide)) G_P_side (hr.mono (by decide)) pass0) (pa_cons (pe_fld (pv 0) rfl) (pa_cons (pe_prF (pv 0) c.pl.cls (c.pr "limit" (by decide)) G_P_limit (hr.mono (by decide)) pass0) (pa_cons (pe_prF (pv 0) c.pl.cls (c.pr "lots" (by decide)) G_P_lots (hr.mono (by decide)) pass0) (pa_cons (pv 1) (pa_cons (pe_prF (pv 0) c.pl.cls (c.pr "owner" (by decide)) G_P_owner (hr.mono (by decide)) pass0) pa_nil))))))))))), ?_⟩
    refine .mk (fun v H' => v = .int r.vs ∧ H' = H) ?_ ?_
    · refine ⟨_, rfl, a, _, dx, _, _, u, rfl, h1, c.pl.cls, con, rfl, rfl, _, rfl, ?_⟩
      rw [kind_v i hi]
      by_cases e : i = 3
      · subst e
        exact iteTr rfl ⟨_, rfl, a, dx, _, rfl, h1, a, r, rfl, o, rfl, rfl⟩
      · exact iteFa (decide_eq_false e) ⟨_, rfl, a, dx, _, rfl, h1, i, a, r, rfl, hi, o, rfl, rfl⟩
    rintro _ _ ⟨rfl, rfl⟩
    refine ⟨_, rfl, a, _, dx, _, _, u, rfl, h1, c.pl.cls, con, rfl, _, rfl, a, dx, _, rfl, h1, i, a, r, rfl, hi, o, _, rfl, a, _, dx, _, _, rfl, h1, c.pl.cls, c.no _ (by decide), rfl, _, rfl, a, dx, _, rfl, h1, i, a, r, rfl, hi, o, _, rfl, a, dx, _, rfl, h1, i, a, r, rfl, hi, o, _, rfl, _, rfl, a, dx, _, rfl, h1, i, a, r, rfl, hi, o, show 7 ≤ sizeLine by decide, fun l nl => ?_⟩
    have z := k l nl
    unfold rowV at z
    rw [g.kd] at z
    exact z
end
end Kx
set_option maxHeartbeats 4000000
namespace Kx
open PySem PySem.Spec PyProof.Rows L2 Xr LamX
local macro_rules | `(tactic| walk_at "rd") => `(tactic| (repeat (first | apply Exists.intro | (refine And.intro rfl ?_) | (refine And.intro (SqL.of (by assumption)) ?_) | (refine And.intro (Or.inl (SqL.of (by assumption))) ?_) | (refine Or.inl ⟨_, rfl, ?_⟩) | (refine Or.inr ⟨_, rfl, ?_⟩) | (refine And.intro (by assumption) ?_) | (refine And.intro (Or.inl (by assumption)) ?_))))
section
variable {P : Program} {w : World} {K : PySem.W.Frag} {mg : Str → Option Value} {base : Heap}
theorem sc__law_heard : FnScope ["_law_ask", "_law_caught", "error"] ["_law_ask"] (defScope (top 37)) := ⟨rfl, rfl, rfl, by decide +kernel, rfl, by decide +kernel, by decide +kernel⟩
/-- what the law tells of an error -/
def ToldE (K : PySem.W.Frag) (Q : VK) : XK := fun cls d H' => cls = .ref (He.ga K "InvalidOrder") ∧ ∃ dd r, d = some dd ∧ H' dd = some (.xd [("reason", r)]) ∧ ∀ H2, Same H' H2 → Q r H2
def TTs (K : PySem.W.Frag) : (XK → Hp → VK → Prop) → Hp → VK → Prop := fun tl H Q => tl (ToldE K Q) H fun v H1 => 1 ≤ sizeLine ∧ ∀ l, H1 l = none → Q (.ref l) (upd H1 l (.lst [v]))
theorem heard_gives (T : Txt P K mg) {X : Cx} (eP : X.prog = P) (eK : X.K = K) (eg : X.mg = mg) (cdg : Value) {q : Str} : GivesTo X ["_law_ask", "_law_caught", "error"] "_law_heard" (defScope (top 37)) (He.ga K "_law_heard") cdg (defBody (top 37)) "_law_ask" q (TTs K) := by
  subst eP eK eg
  intro f c' s H Q tl act hc h
  have xi := T.e_InvalidOrder.xi
  have xf := T.e_InvalidOrder.xf
  have k1 := T.kitE "InvalidOrder" (by decide) "InvalidOrder" (by decide)
  have k2 := T.kitE "InvalidOrder" (by decide) "InvalidList" (by decide)
  have k3 := T.kitE "InvalidOrder" (by decide) "InvalidText" (by decide)
  have kv := T.kv
  have kA : PySem.W.kitAny X.K (.ref (He.ga X.K "InvalidOrder")) [.ref (He.ga X.K "InvalidList"), .ref (He.ga X.K "InvalidText")] = some false := by
    unfold PySem.W.kitAny
    rw [k2]
    show PySem.W.kitAny X.K _ _ = _
    unfold PySem.W.kitAny
    rw [k3]
    rfl
  have ex : PySem.W.exmOne X.K (.ref (He.ga X.K "InvalidOrder")) (.ref (He.ga X.K "LotError")) = some true := by
    obtain ⟨b1, d1, e1, e2, e3⟩ := PySem.W.exmAny_cons (T.exm "InvalidOrder" (by decide))
    cases e2
    rw [Bool.or_false] at e3
    rw [e1, ← e3]
  refine ⟨_, pss_cons (ps_asg pe_non (pg_name (i := 1) sc__law_heard.nd rfl (.inl rfl))) (pss_cons (ps_try_keep1 (X := (cxOf C8.CX0 X.prog X.w X.K X.mg X.base ["_law_ask", "_law_caught", "error"] "_law_heard" (defScope (top 37)) (He.ga X.K "_law_heard") cdg X.A X.stack s H C8.E0).nox) (i := 2) (c1 := .ref (He.ga X.K "LotError"))
      (tb := fun W D σ H => ∃ Ech : XK, (∀ cls d σ' H', Ech cls d H' → σ'.length = 3 → W cls d σ' H') ∧ σ[0]? = some (some (.ref f)) ∧ H c' = some (CodeO c' q) ∧ tl Ech H fun v H1 => 1 ≤ sizeLine ∧ ∀ l, H1 l = none → D.rt (.ref l) (upd H1 l (.lst [v])))
      rfl rfl rfl sc__law_heard.nd rfl rfl ⟨rfl, by decide, .inl T.g_LotError⟩ takes0 (fun W pn xe tk _ => ?_) (fun a oe cls d pn _ _ => pss_one (ps_asg (pv 2) (pg_name (i := 1) sc__law_heard.nd rfl (.inl rfl)))))
    (pss_cons (ps_if (PW.pt (pw_or (pt_not (pt_val (pe_callB call_isR (by rfl) T.z_isinstance (by decide +kernel) (pa_cons (pv 1) (pa_cons (pe_glob (v := .ref (He.ga X.K "InvalidOrder")) (by rfl) T.g_InvalidOrder rfl) pa_nil))))) (pw_or1 (pt_val (pe_callB call_isRT (by rfl) T.z_isinstance (by decide +kernel) (pa_cons (pv 1) (pa_cons (pe_tup (pa_cons (pe_glob (v := .ref (He.ga X.K "InvalidList")) (by rfl) T.g_InvalidList rfl) (pa_cons (pe_glob (v := .ref (He.ga X.K "InvalidText")) (by rfl) T.g_InvalidText rfl) pa_nil))) pa_nil)))))))
        (pss_one (ps_ret pe_str)) pss_nil)
      (pss_one (ps_ret (pe_ifExp (pt_val (pe_callB call_isR (by rfl) T.z_isinstance (by decide +kernel) (pa_cons (pv 1) (pa_cons (pe_bltn (v := .ty "ValueError") (by rfl) T.z_ValueError (by decide +kernel) rfl) pa_nil)))) (pe_xr (pv 1)) pe_str))))), ?_⟩
  · refine ⟨fun pins s' σ H' D I h' => ?_⟩
    obtain ⟨Ech, hW, h1, h2, h3⟩ := h'
    exact (pss_one (ps_ret (pe_lst (pa_cons (act (fun cls d σ H => σ.length = 3 → W cls d σ H) pn xe Ech _ _ (takes_len rfl tk) hW) pa_nil)))).run pins s' σ H' D I ⟨h1, h2, h3⟩
  · refine ⟨_, fun cls d σ' H' hE hl => ?_, rfl, hc, h⟩
    obtain ⟨x0, x1, x2, rfl⟩ : ∃ x0 x1 x2, σ' = [x0, x1, x2] := match σ', hl with | [x0, x1, x2], _ => ⟨x0, x1, x2, rfl⟩
    obtain ⟨rfl, dd, r, rfl, hdd, k⟩ := hE
    refine ⟨true, ex, fun _ a na => ⟨_, rfl, fun na2 => ?_⟩, fun z => by cases z⟩
    have ha : upd H' a (exr a (.ref (He.ga X.K "InvalidOrder")) (some dd)) a = _ := upd_same
    have hd2 : upd H' a (exr a (.ref (He.ga X.K "InvalidOrder")) (some dd)) dd = _ := (upd_ne (ne_of_none hdd na)).trans hdd
    have s2 := same_new (o := exr a (.ref (He.ga X.K "InvalidOrder")) (some dd)) na
    generalize upd H' a (exr a (.ref (He.ga X.K "InvalidOrder")) (some dd)) = H2 at ha hd2 s2
    refine ⟨_, rfl, a, _, dd, _, _, _, _, rfl, ha, hd2, xi, .own _, k1, _, rfl, iteFa rfl ?_⟩
    refine ⟨_, rfl, show 2 ≤ sizeLine by decide, fun tp ntp => ?_⟩
    have s3 := same_new (o := .tup [.ref (He.ga X.K "InvalidList"), .ref (He.ga X.K "InvalidText")]) ntp
    have h3 : upd H2 tp (.tup [.ref (He.ga X.K "InvalidList"), .ref (He.ga X.K "InvalidText")]) tp = _ := upd_same
    refine ⟨a, _, dd, tp, _, _, _, _, rfl, s3 _ _ ha, s3 _ _ hd2, xi, h3, .cons (.own _) (.cons (.own _) .nil), kA, _, rfl, iteFa rfl ?_⟩
    refine ⟨_, rfl, a, _, dd, _, _, _, _, rfl, s3 _ _ ha, s3 _ _ hd2, xi, .ty "ValueError", kv, _, rfl, iteT ?_⟩
    refine ⟨_, rfl, a, _, dd, _, _, rfl, s3 _ _ ha, s3 _ _ hd2, xf, T.e_InvalidOrder.no _ (by decide), rfl, ?_⟩
    exact k _ (s2.trans s3)
end
end Kx
set_option maxHeartbeats 8000000
namespace Kx
open PySem PySem.Spec PyProof.Rows L2 Xr LamX
local macro_rules | `(tactic| walk_at "rd") => `(tactic| (repeat (first | apply Exists.intro | (refine And.intro rfl ?_) | (refine And.intro (SqL.of (by assumption)) ?_) | (refine And.intro (Or.inl (SqL.of (by assumption))) ?_) | (refine Or.inl ⟨_, rfl, ?_⟩) | (refine Or.inr ⟨_, rfl, ?_⟩) | (refine And.intro (by assumption) ?_) | (refine And.intro (Or.inl (by assumption)) ?_))))
/-- the first five of a row as data -/
def rowD (r : Rw) : PyData := .list [.str r.kd, .str r.sd, .str r.nm, .int r.lm, .int r.lt]
def row5 (r : Rw) : List V := [.str r.kd, .str r.sd, .str r.nm, .int r.lm, .int r.lt]
theorem repr_len {x : Str} (h : x.length ≤ 100 ∧ PyData.strOk x = true) : (reprText x).length ≤ 1921 := by
  have z := StrLaws.reprText_len x fun c hc => by
    have z := h.2
    unfold PyData.strOk at z
    rw [← Array.all_toList, List.all_eq_true] at z
    have := of_decide_eq_true (z c hc)
    exact Nat.lt_trans this (by decide)
  have := h.1
  omega
theorem rowD_show {r : Rw} (g : RwOk r) : (rowD r).showable = true := by
  unfold rowD
  simp [PyData.showable, PyData.showableAll, g.lm, g.lt]
theorem rowD_depth (r : Rw) : (rowD r).depth ≤ 20 := by
  unfold rowD
  simp [PyData.depth, PyData.depthAll]
theorem rowD_len {r : Rw} (g : RwOk r) : (rowD r).shown.length ≤ sizeLine := by
  have e : (rowD r).shown = textFrom 0 "[" [reprText r.kd, reprText r.sd, reprText r.nm, Str.ofString (toString r.lm), Str.ofString (toString r.lt)] ++ ("]" : Str) := rfl
  have z := textFrom_le (B := 1921) [reprText r.kd, reprText r.sd, reprText r.nm, Str.ofString (toString r.lm), Str.ofString (toString r.lt)] 0 "[" fun t ht => by
    simp only [List.mem_cons, List.not_mem_nil, or_false] at ht
    rcases ht with rfl | rfl | rfl | rfl | rfl
    · exact repr_len g.kd
    · exact repr_len g.sd
    · exact repr_len g.nm
    · exact int_text_len_1921 g.lm
    · exact int_text_len_1921 g.lt
  have e1 : (Str.ofString "[").length = 1 := rfl
  have e2 : (Str.ofString "]").length = 1 := rfl
  rw [e, app_len, sizeLine_eq]
  simp only [List.length_cons, List.length_nil] at z
  omega
section
variable {P : Program} {w : World} {K : PySem.W.Frag} {mg : Str → Option Value} {base : Heap}
theorem dq_row {H : Hp} {l : Addr} {r : Rw} (h : H l = some (.lst (row5 r))) : Dq K H (.ref l) (rowD r) := .lst (SqL.of h) (.cons (.str _) (.cons (.str _) (.cons (.str _) (.cons (.int _) (.cons (.int _) .nil)))))
def qOf (x : Str) : Str := (x ++ ".<locals>.") ++ "<lambda>"
def tabsT (K : PySem.W.Frag) : List (Addr × Str) := tf.map fun p => ((He.cT K p).2, qOf p.1)
theorem tabs_mem {p : He.Defn} (h : p ∈ tf) : ((He.cT K p).2, qOf p.1) ∈ tabsT K := List.mem_map.mpr ⟨p, h, rfl⟩
theorem tabs_one (T : Txt P K mg) {p : He.Defn} (h : p ∈ tf) : ∀ e ∈ tabsT K, e.1 = (He.cT K p).2 → e.2 = qOf p.1 := fun e he z => by
  obtain ⟨p', hp', rfl⟩ := List.mem_map.mp he
  have nd : (tf.map fun p => (He.cT K p).2).Nodup := T.tnd
  have key : ∀ (l : List He.Defn), (l.map fun p => (He.cT K p).2).Nodup → ∀ a ∈ l, ∀ b ∈ l, (He.cT K a).2 = (He.cT K b).2 → a = b := by
    intro l
    induction l with
    | nil => intro _ a ha; exact (List.not_mem_nil ha).elim
    | cons c r ih =>
      intro nd a ha b hb e
      rw [List.map_cons, List.nodup_cons] at nd
      rcases List.mem_cons.mp ha with rfl | ha'
      · rcases List.mem_cons.mp hb with rfl | hb'
        · rfl
        · exact absurd (List.mem_map.mpr ⟨b, hb', e.symm⟩) nd.1
      · rcases List.mem_cons.mp hb with rfl | hb'
        · exact absurd (List.mem_map.mpr ⟨a, ha', e⟩) nd.1
        · exact ih nd.2 a ha' b hb' e
  rw [key tf nd p' hp' p h z]
def txtR (i : Nat) (r : Rw) : Str := if i = 3 then txtV r else txtO (headS i) r
def spStrX (K : PySem.W.Frag) (i : Nat) : Sp := fun vs H Q _ => ∃ a r, vs = [.ref a] ∧ OrdAt H (cO K i) a r ∧ RwOk r ∧ Q (.str (txtR i r)) H
theorem ok_strX (T : Txt P K mg) {i : Nat} (hi : i < 4) : FnR P w K mg base CX0 1 (stO K i) (spStrX K i) := by
  by_cases e : i = 3
  · subst e
    exact ((ok_VeiledOrder___str__ (P := P) (w := w) (base := base) T).imp fun vs H Q E ⟨a, r, ev, o, g, k⟩ => ⟨a, r, ev, o, g, by unfold txtR at k; rw [if_pos rfl] at k; exact k⟩).fnR
  · have es : stO K i = He.ma K (aO K) "__str__" := if_neg e
    rw [es]
    exact ((ok_Order___str__ (P := P) (w := w) (base := base) T).imp fun vs H Q E ⟨a, r, ev, o, g, k⟩ => ⟨i, a, r, ev, hi, o, g, by unfold txtR at k; rw [if_neg e] at k; exact k⟩).fnR

/-- all but the pen and the tables stays -/
def ButN (p : Addr) (H H' : Hp) : Prop := ∀ b o, H b = some o → b ≠ p → (∀ ps, o ≠ .tbl ps) → H' b = some o
theorem PenAt.extN {H H' : Hp} {p q : Addr} {ns : List Int} {a r : Int} (S : PenAt H p q ns a r) (s : ExtN H H') : PenAt H' p q ns a r := ⟨s _ _ S.pen (fun _ z => by cases z), s _ _ S.cells (fun _ z => by cases z), S.len, S.a0, S.r0⟩
theorem OrdAt.extN {H H' : Hp} {C a : Addr} {r : Rw} (o : OrdAt H C a r) (s : ExtN H H') : OrdAt H' C a r := by
  obtain ⟨dx, T, h1, h2⟩ := o.at_
  exact ⟨dx, T, s _ _ h1 (fun _ z => by cases z), s _ _ h2 (fun _ z => by cases z)⟩
theorem faultR_two (i : Nat) (sd nm lm lt sh ow : V) : faultR i sd nm lm lt sh ow = .non ∨ ∃ r, faultR i sd nm lm lt sh ow = .str r := by
  rcases fault_two (sideOf sd) (nameOf nm) (wholeOf lm) (countOf lt) (nameOf ow) with e | ⟨r, e⟩
  · rw [faultR_non e]
    by_cases h : i = 3 ∧ shB sh lt = false
    · rw [if_pos h]
      exact .inr ⟨_, rfl⟩
    · rw [if_neg h]
      exact .inl rfl
  · exact .inr ⟨r, faultR_str e⟩
theorem tts_use (R : V → Hp → Prop) {tl : XK → Hp → VK → Prop} {H : Hp} {Q : VK} (h : ∀ Q' : VK, (∀ z H5, R z H5 → Q' z H5) → TTs K tl H Q') (c : ∀ z H5, R z H5 → Q z H5) : TTs K tl H Q := h Q c
theorem tabs_but {T : List (Addr × Str)} {H H' : Hp} {l : Addr} {xs : List V} (t : Tabs T H) (h : H l = some (.lst xs)) (B : But l H H') : Tabs T H' := fun p hp => by
  obtain ⟨ps, h1, h2, h3⟩ := t p hp
  have n1 : p.1 ≠ l := fun z => by rw [z, h] at h1; cases h1
  refine ⟨ps, B _ _ h1 n1, h2, fun pos cv hc => ?_⟩
  obtain ⟨c, e1, e2⟩ := h3 pos cv hc
  have n2 : c ≠ l := fun z => by
    rw [z, h] at e2
    have e3 := Option.some.inj e2
    unfold CodeO at e3
    cases e3
  exact ⟨c, e1, B _ _ e2 n2⟩
theorem OrdAt.but {H H' : Hp} {C a p : Addr} {r : Rw} {xs : List V} (o : OrdAt H C a r) (hp : H p = some (.lst xs)) (s : But p H H') : OrdAt H' C a r := by
  obtain ⟨dx, T, h1, h2⟩ := o.at_
  exact ⟨dx, T, s _ _ h1 (fun z => by rw [z, hp] at h1; cases h1), s _ _ h2 (fun z => by rw [z, hp] at h2; cases h2)⟩
theorem sc__law_is_right : FnScope ["_law_pen_here", "_law_row_here", "_law_due", "_law_found", "_law_order", "_law_odd_here", "_law_kept", "_law_is_let", "_law_heard_here"] ["_law_pen_here", "_law_row_here"] (defScope (top 38)) := ⟨rfl, rfl, rfl, by decide +kernel, rfl, by decide +kernel, by decide +kernel⟩
def spRight (K : PySem.W.Frag) : Sp := fun vs H Q _ => ∃ (p q l : Addr) (ns : List Int) (a r : Int) (i : Nat) (sd nm lm lt sh ow : V), vs = [.ref p, .ref l] ∧ PenAt H p q ns a r ∧ a ≤ 800000 ∧ RowAt H l i sd nm lm lt sh ow ∧ Tabs (tabsT K) H ∧
  ∀ (a' r' : Int) (H' : Hp), ButN p H H' → PenAt H' p q ns a' r' → a ≤ a' → a' ≤ a + 1 → Tabs (tabsT K) H' → Q (.bl true) H'
theorem ok__law_is_right (T : Txt P K mg) (TB : ∀ p ∈ tf, TabB base mg (He.cT K p).1 (He.cT K p).2) : ∃ fd, FnG P w K mg base CX0 15 (He.ga K "_law_is_right") fd ["_law_pen_here", "_law_row_here"] (spRight K) ∧ Binds K fd ["_law_pen_here", "_law_row_here"] [] ∧ PySem.W.keepIn K (.ref (He.ga K "_law_is_right")) = true := by
  have G__law_fault := ok__law_fault (P := P) (w := w) (base := base) T
  have G__law_made := ok__law_made (P := P) (w := w) (base := base) T
  have G__law_told := ok__law_told (P := P) (w := w) (base := base) T
  have G__law_odd := ok__law_odd (P := P) (w := w) (base := base) T
  have G__law_is_whole := ok__law_is_whole (P := P) (w := w) (base := base) T
  obtain ⟨fL, FL, bL⟩ := ok_with_lots (P := P) (w := w) (base := base) T
  obtain ⟨fM, FM, bM⟩ := ok_with_limit (P := P) (w := w) (base := base) T
  obtain ⟨fdH, FH⟩ := T.F__law_heard
  have bH := FH.bindsN (ps := ["_law_ask"]) fun _ _ _ _ _ _ us hl => match us, hl with | [_], _ => rfl
  obtain ⟨fd, F⟩ := T.F__law_is_right
  refine ⟨fd, okGC (p := ("_law_is_right", none)) F sc__law_is_right (fun vs H Q E h => ?_) (fun A outer s H vs Q E hr hgd h => ?_), F.bindsN fun _ _ _ _ _ _ us hl => match us, hl with | [_, _], _ => rfl, F.kp⟩
  · obtain ⟨p, q, l, ns, a, r, i, sd, nm, lm, lt, sh, ow, rfl, _⟩ := h
    rfl
  · obtain ⟨p, q, l, ns, a, r, i, sd, nm, lm, lt, sh, ow, rfl, S, a2, R, tb, k⟩ := h
    have hu64 := hr.units
    have hi := R.i4
    have c := ocl T hi
    have G_str := ok_strX (P := P) (w := w) (base := base) T hi
    refine ⟨_, PSs.nox (pss_cons (ps_par (i := 2) (j := 3) (by rfl) sc__law_is_right.nd rfl rfl (by decide) rfl rfl (pa_cons (pe_f G__law_fault (hr.mono (by decide)) (by rfl) T.g__law_fault pass0 (pa_cons (pv 1) pa_nil)) (pa_cons (pe_lamF (T := tabsT K) (TT := TTs K) FH bH (by rfl) T.g__law_heard sc__law_heard rfl (.inl rfl) (fun cdv => heard_gives T rfl rfl rfl cdv) (TB ("_law_is_right", none) (by decide)) rfl (tabs_mem (p := ("_law_is_right", none)) (by decide)) (tabs_one T (p := ("_law_is_right", none)) (by decide)) (k := 12) (hr.mono (by decide)) (lamS_by (sc := defScope (top 38)) (by decide +kernel)) (fun A outer s H E f c' hr' => (pe_f G__law_made (hr'.mono (by decide)) (by rfl) T.g__law_made (passes_call (takes_of rfl rfl rfl rfl) (fun _ _ _ _ h => h)) (pa_cons (pv 1) pa_nil)))) pa_nil)) (by rfl))
    (pss_cons (ps_if (pt_cmpR op_notN (pv 2) pe_non (nomark _))
      (pss_one (ps_ret (pe_cmpR op_eq (pv 3) (pv 2) (nomark _))))
      pss_nil)
    (pss_cons (ps_if (PW.pt (pw_or (pt_not (pt_val (pe_callB (call_isiK K) (by rfl) T.z_isinstance (by decide +kernel) (pa_cons (pv 3) (pa_cons (pe_bltn (v := .ty "list") (by rfl) T.z_list (by decide +kernel) rfl) pa_nil))))) (pw_or1 (pt_cmpR op_ne (pe_callB (call_repr T.all.sys hgd hu64) (by rfl) T.z_repr (by decide +kernel) (pa_cons (pe_slice sl_list (pe_f G__law_told (hr.mono (by decide)) (by rfl) T.g__law_told pass0 (pa_cons (pe_ix (ix_listK K) (pv 3) pe_int (fun _ _ => rfl)) pa_nil)) po_none (po_some pe_int)) pa_nil)) (pe_callB (call_repr T.all.sys hgd hu64) (by rfl) T.z_repr (by decide +kernel) (pa_cons (pe_slice sl_list (pv 1) po_none (po_some pe_int)) pa_nil)) (nomark _)))))
      (pss_one (ps_ret pe_bl))
      pss_nil)
    (pss_cons (ps_asg (pe_tup (pa_cons (pe_ix (ix_listK K) (pv 3) pe_int (fun _ _ => rfl)) (pa_cons (pe_f G__law_odd (hr.mono (by decide)) (by rfl) T.g__law_odd pass0 (pa_cons (pv 0) pa_nil)) pa_nil))) (pg_tup rfl (pgs_cons (pg_name (i := 4) sc__law_is_right.nd rfl (.inr rfl)) (pgs_cons (pg_name (i := 5) sc__law_is_right.nd rfl (.inr rfl)) pgs_nil))))
    (pss_cons (ps_asg (pe_callTy (call_strO c.st.sm G_str (hr.mono (by decide)) pass0) (by rfl) T.z_str (by decide +kernel) (pa_cons (pv 4) pa_nil)) (pg_name (i := 6) sc__law_is_right.nd rfl (.inl rfl)))
    (pss_cons (ps_asg (pe_cut (pe_and (pe_f G__law_is_whole (hr.mono (by decide)) (by rfl) T.g__law_is_whole pass0 (pa_cons (pv 5) pa_nil)) (pe_one (pe_cmpR op_ge (pv 5) pe_int (nomark _))))) (pg_name (i := 7) sc__law_is_right.nd rfl (.inl rfl)))
    (pss_cons (ps_asg (pe_lamF (T := tabsT K) (TT := TTs K) FH bH (by rfl) T.g__law_heard sc__law_heard rfl (.inl rfl) (fun cdv => heard_gives T rfl rfl rfl cdv) (TB ("_law_is_right", none) (by decide)) rfl (tabs_mem (p := ("_law_is_right", none)) (by decide)) (tabs_one T (p := ("_law_is_right", none)) (by decide)) (k := 12) (hr.mono (by decide)) (lamS_by (sc := defScope (top 38)) (by decide +kernel)) (fun A outer s H E f c' hr' => (pe_meth (pv 4) c.pl.cls (c.sm "with_lots" (by decide)).meth FL (hr'.mono (by decide)) bL .nil (passes_call (takes_of rfl rfl rfl rfl) (fun _ _ _ _ h => h)) (pa_cons (pv 5) pa_nil)))) (pg_name (i := 8) sc__law_is_right.nd rfl (.inl rfl)))
    (pss_cut (ps_if (PW.pt (pw_or (pt_cmpR op_ne (pe_callB (call_isiK K) (by rfl) T.z_isinstance (by decide +kernel) (pa_cons (pv 8) (pa_cons (pe_bltn (v := .ty "list") (by rfl) T.z_list (by decide +kernel) rfl) pa_nil))) (pv 7) (nomark _)) (pw_or1 (PW.pt (pw_and (pt_not (pt_val (pv 7))) (pw_and1 (pt_cmpR op_ne (pv 8) pe_str (nomark _))))))))
      (pss_one (ps_ret pe_bl))
      pss_nil)
    (pss_cons (ps_asg (pe_f G__law_is_whole (hr.mono (by decide)) (by rfl) T.g__law_is_whole pass0 (pa_cons (pv 5) pa_nil)) (pg_name (i := 7) sc__law_is_right.nd rfl (.inl rfl)))
    (pss_cons (ps_asg (pe_lamF (T := tabsT K) (TT := TTs K) FH bH (by rfl) T.g__law_heard sc__law_heard rfl (.inl rfl) (fun cdv => heard_gives T rfl rfl rfl cdv) (TB ("_law_is_right", none) (by decide)) rfl (tabs_mem (p := ("_law_is_right", none)) (by decide)) (tabs_one T (p := ("_law_is_right", none)) (by decide)) (k := 12) (hr.mono (by decide)) (lamS_by (sc := defScope (top 38)) (by decide +kernel)) (fun A outer s H E f c' hr' => (pe_meth (pv 4) c.pl.cls (c.sm "with_limit" (by decide)).meth FM (hr'.mono (by decide)) bM .nil (passes_call (takes_of rfl rfl rfl rfl) (fun _ _ _ _ h => h)) (pa_cons (pv 5) pa_nil)))) (pg_name (i := 8) sc__law_is_right.nd rfl (.inl rfl)))
    (pss_cut (ps_if (PW.pt (pw_or (pt_cmpR op_ne (pe_callB (call_isiK K) (by rfl) T.z_isinstance (by decide +kernel) (pa_cons (pv 8) (pa_cons (pe_bltn (v := .ty "list") (by rfl) T.z_list (by decide +kernel) rfl) pa_nil))) (pv 7) (nomark _)) (pw_or1 (PW.pt (pw_and (pt_not (pt_val (pv 7))) (pw_and1 (pt_cmpR op_ne (pv 8) pe_str (nomark _))))))))
      (pss_one (ps_ret pe_bl))
      pss_nil)
    (pss_one (ps_ret (pe_cmpR op_eq (pe_callTy (call_strO c.st.sm G_str (hr.mono (by decide)) pass0) (by rfl) T.z_str (by decide +kernel) (pa_cons (pv 4) pa_nil)) (pv 6) (nomark _))))))))))))))), ?_⟩
    refine ⟨_, rfl, l, i, sd, nm, lm, lt, sh, ow, rfl, R, fun H1 s1 => ?_⟩
    refine ⟨tb.ext s1, fun H2 e2 tb2 => ?_⟩
    have R2 := (R.same s1).map fun b o hb n => e2 b o hb n
    rcases faultR_two i sd nm lm lt sh ow with e | ⟨rs, e⟩
    case inr =>
      rw [e]
      refine ⟨_, rfl, l, i, sd, nm, lm, lt, sh, ow, rfl, R2, fun r' e' => ?_, fun e' => (by rw [e] at e'; cases e')⟩
      rw [e] at e'
      cases e'
      intro d H3 s3 nd hd
      refine ⟨rfl, d, _, rfl, hd, fun H4 s4 => ?_⟩
      refine ⟨_, _, rfl, _, rfl, rfl, _, rfl, iteTr rfl ⟨_, rfl, _, rfl, rfl, ?_⟩⟩
      rw [decide_eq_true rfl]
      have bn : ExtN H H4 := ExtN.same (ExtN.same (Same.extN s1 e2) s3) s4
      exact k a r H4 (fun b o hb _ n => bn b o hb n) (PenAt.extN S bn) (Int.le_refl _) (by omega) ((tb2.ext s3).ext s4)
    rw [e]
    refine ⟨_, rfl, l, i, sd, nm, lm, lt, sh, ow, rfl, R2, fun r' e' => (by rw [e] at e'; cases e'), fun _ b H3 rw_ s3 nb o g es en el et => ?_⟩
    subst es en el et
    have go := g.ok hi
    refine ⟨show 1 ≤ sizeLine by decide, fun fl nfl => ?_⟩
    have s4 := same_new (o := .lst [.ref b]) nfl
    have h4 : upd H3 fl (.lst [.ref b]) fl = some (.lst [.ref b]) := upd_same
    generalize upd H3 fl (.lst [.ref b]) = H4 at s4 h4
    have o4 := o.same s4
    have R4 := (R2.same s3).same s4
    have bn4 : ExtN H H4 := ExtN.same (ExtN.same (Same.extN s1 e2) s3) s4
    have tb4 := (tb2.ext s3).ext s4
    refine ⟨_, _, rfl, _, rfl, rfl, _, rfl, iteFa rfl ?_⟩
    refine ⟨_, rfl, _, _, _, _, _, rfl, .ty "list", .base (.lst h4), kitB' (t := "list") (u := "list") (b := true) (by decide +kernel), _, rfl, iteFa rfl ?_⟩
    refine ⟨_, rfl, fl, _, 0, .ref b, rfl, rfl, SqL.of h4, rfl, i, b, rw_, rfl, hi, o4, g, fun l5 n5 => ?_⟩
    have s5 := same_new (o := .lst (rowV rw_)) n5
    have h5 : upd H4 l5 (.lst (rowV rw_)) l5 = some (.lst (rowV rw_)) := upd_same
    generalize upd H4 l5 (.lst (rowV rw_)) = H5 at s5 h5
    refine ⟨_, rfl, l5, _, rfl, SqL.of h5, fun l6 n6 => ?_⟩
    have s6 : Same H5 (upd H5 l6 (.lst (row5 rw_))) := same_new n6
    have h6 : upd H5 l6 (.lst (row5 rw_)) l6 = some (.lst (row5 rw_)) := upd_same
    generalize hG6 : upd H5 l6 (.lst (cutV (rowV rw_) _ _)) = H6
    have eG6 : upd H5 l6 (.lst (row5 rw_)) = H6 := hG6
    rw [eG6] at s6 h6
    clear hG6 eG6
    refine ⟨l6, rowD rw_, rfl, dq_row h6, rowD_show go, rowD_depth rw_, rowD_len go, _, rfl, _, rfl, l, _, rfl, SqL.of (s6 _ _ (s5 _ _ R4.at_)), fun l7 n7 => ?_⟩
    have s7 : Same H6 (upd H6 l7 (.lst (row5 rw_))) := same_new n7
    have h7 : upd H6 l7 (.lst (row5 rw_)) l7 = some (.lst (row5 rw_)) := upd_same
    generalize hG7 : upd H6 l7 (.lst (cutV (rowA _ _ _ _ _ _ _) _ _)) = H7
    have eG7 : upd H6 l7 (.lst (row5 rw_)) = H7 := by
      rw [← hG7]
      unfold row5
      rw [g.kd]
      rfl
    rw [eG7] at s7 h7
    clear hG7 eG7
    refine ⟨l7, rowD rw_, rfl, dq_row h7, rowD_show go, rowD_depth rw_, rowD_len go, rfl, _, rfl, iteFa (by simp) ?_⟩
    have s47 := (s5.trans s6).trans s7
    have bn7 : ExtN H H7 := ExtN.same bn4 s47
    have o7 := o4.same s47
    have tb7 := tb4.ext s47
    have S7 := PenAt.extN S bn7
    refine ⟨_, rfl, fl, _, 0, .ref b, rfl, rfl, SqL.of (s47 _ _ h4), rfl, _, rfl, p, q, ns, a, r, rfl, S7, by omega, fun v a8 r8 H8 av nv c1 c2 B8 S8 => ?_⟩
    refine ⟨show 2 ≤ sizeLine by decide, fun tp ntp => ?_⟩
    have s9 := same_new (o := .tup [.ref b, v]) ntp
    have h9 : upd H8 tp (.tup [.ref b, v]) tp = some (.tup [.ref b, v]) := upd_same
    generalize upd H8 tp (.tup [.ref b, v]) = H9 at s9 h9
    have o9 := (o7.but S7.pen B8).same s9
    have tb9 := (tabs_but tb7 S7.pen B8).ext s9
    have av9 := av.same s9
    have S9 := S8.same s9
    refine ⟨tp, _, rfl, SqT.of h9, rfl, _, _, rfl, _, _, rfl, rfl, ?_⟩
    obtain ⟨dx, t9, q1, q2⟩ := id o9.at_
    refine ⟨_, rfl, b, dx, _, rfl, q1, b, rw_, rfl, o9, go, _, rfl, ?_⟩
    refine .mk (fun x H' => x = .bl (countOf v) ∧ H' = H9) ?_ ?_
    · refine ⟨_, rfl, _, _, rfl, av9.whole, _, rfl, ?_⟩
      cases hw : wholeOf v with
      | false =>
        refine iteFa rfl ⟨?_, rfl⟩
        unfold countOf
        split
        · have z : wholeB _ = false := hw
          unfold countB
          rw [z]
          rfl
        · rfl
      | true =>
        obtain ⟨m, rfl, hm⟩ := whole_of hw
        refine iteT ⟨_, rfl, _, _, rfl, rfl, ?_, rfl⟩
        show V.bl (decide (m ≥ 1)) = V.bl (wholeB m && decide (1 ≤ m))
        rw [hm]
        rfl
    rintro _ _ ⟨rfl, rfl⟩
    refine ⟨tb9, fun H10 e10 tb10 => ?_⟩
    have o10 := o9.extN e10
    have av10 := av9.extN e10
    have S10 := PenAt.extN S9 e10
    obtain ⟨dx10, t10, u10, _⟩ := id o10.at_
    refine tts_use (fun z H5 => Same H10 H5 ∧ ((countOf v = false ∧ z = .str "lots") ∨ (countOf v = true ∧ ∃ y xs, z = .ref y ∧ H5 y = some (.lst xs)))) (fun Q' cont => ?_) fun z10 H11 ⟨s11, hz10⟩ => ?_
    · refine ⟨_, rfl, b, dx10, _, rfl, u10, rfl, _, rfl, i, b, rw_, v, _, rfl, hi, o10, g, av10.count, fun ef d H5 s5 nd hd => ?_, fun et m em hm y H5 s5 ny oy => ?_⟩
      · exact ⟨rfl, d, _, rfl, hd, fun H6 s6 => cont _ _ ⟨s5.trans s6, .inl ⟨ef, rfl⟩⟩⟩
      · exact ⟨show 1 ≤ sizeLine by decide, fun y2 n2 => cont _ _ ⟨s5.trans (same_new n2), .inr ⟨et, y2, _, rfl, upd_same⟩⟩⟩
    have o11 := o10.same s11
    have av11 := av10.same s11
    have tb11 := tb10.ext s11
    have S11 := S10.same s11
    refine .mk (fun σ' H' => H' = H11 ∧ σ' = [some (.ref p), some (.ref l), some .non, some (.ref fl), some (.ref b), some v, some (.str (txtR i rw_)), some (.bl (countOf v)), some z10]) ?_ ?_
    · rcases hz10 with ⟨ef, rfl⟩ | ⟨et, y, xs, rfl, hy⟩
      · rw [ef]
        refine ⟨_, rfl, _, _, _, _, _, rfl, .ty "list", .base (.str _), kitB' (t := "str") (u := "list") (b := false) (by decide +kernel), _, rfl, rfl, _, rfl, iteFa rfl ?_⟩
        exact ⟨_, rfl, _, rfl, iteT ⟨_, rfl, rfl, _, rfl, iteFa rfl ⟨rfl, rfl⟩⟩⟩
      · rw [et]
        refine ⟨_, rfl, _, _, _, _, _, rfl, .ty "list", .base (.lst hy), kitB' (t := "list") (u := "list") (b := true) (by decide +kernel), _, rfl, rfl, _, rfl, iteFa rfl ?_⟩
        exact ⟨_, rfl, _, rfl, iteFa rfl ⟨rfl, rfl⟩⟩
    rintro σ' _ ⟨rfl, rfl⟩
    refine ⟨_, rfl, _, _, rfl, av11.whole, ?_⟩
    refine ⟨tb11, fun H12 e12 tb12 => ?_⟩
    have o12 := o11.extN e12
    have av12 := av11.extN e12
    have S12 := PenAt.extN S11 e12
    obtain ⟨dx12, t12, u12, _⟩ := id o12.at_
    refine tts_use (fun z H5 => Same H12 H5 ∧ ((wholeOf v = false ∧ z = .str "limit") ∨ (wholeOf v = true ∧ ∃ y xs, z = .ref y ∧ H5 y = some (.lst xs)))) (fun Q' cont => ?_) fun z12 H13 ⟨s13, hz12⟩ => ?_
    · refine ⟨_, rfl, b, dx12, _, rfl, u12, rfl, _, rfl, i, b, rw_, v, _, rfl, hi, o12, g, av12.whole, fun ef d H5 s5 nd hd => ?_, fun et m em hm y H5 s5 ny oy => ?_⟩
      · exact ⟨rfl, d, _, rfl, hd, fun H6 s6 => cont _ _ ⟨s5.trans s6, .inl ⟨ef, rfl⟩⟩⟩
      · exact ⟨show 1 ≤ sizeLine by decide, fun y2 n2 => cont _ _ ⟨s5.trans (same_new n2), .inr ⟨et, y2, _, rfl, upd_same⟩⟩⟩
    have o13 := o12.same s13
    have av13 := av12.same s13
    have tb13 := tb12.ext s13
    have S13 := S12.same s13
    refine .mk (fun σ' H' => H' = H13 ∧ σ' = [some (.ref p), some (.ref l), some .non, some (.ref fl), some (.ref b), some v, some (.str (txtR i rw_)), some (.bl (wholeOf v)), some z12]) ?_ ?_
    · rcases hz12 with ⟨ef, rfl⟩ | ⟨et, y, xs, rfl, hy⟩
      · rw [ef]
        refine ⟨_, rfl, _, _, _, _, _, rfl, .ty "list", .base (.str _), kitB' (t := "str") (u := "list") (b := false) (by decide +kernel), _, rfl, rfl, _, rfl, iteFa rfl ?_⟩
        exact ⟨_, rfl, _, rfl, iteT ⟨_, rfl, rfl, _, rfl, iteFa rfl ⟨rfl, rfl⟩⟩⟩
      · rw [et]
        refine ⟨_, rfl, _, _, _, _, _, rfl, .ty "list", .base (.lst hy), kitB' (t := "list") (u := "list") (b := true) (by decide +kernel), _, rfl, rfl, _, rfl, iteFa rfl ?_⟩
        exact ⟨_, rfl, _, rfl, iteFa rfl ⟨rfl, rfl⟩⟩
    rintro σ' _ ⟨rfl, rfl⟩
    obtain ⟨dx13, t13, u13, _⟩ := id o13.at_
    refine ⟨_, rfl, b, dx13, _, rfl, u13, b, rw_, rfl, o13, go, _, rfl, _, rfl, rfl, ?_⟩
    rw [decide_eq_true rfl]
    have bn : ButN p H _ := fun x o hx nx nt => s13 _ _ (e12 _ _ (s11 _ _ (e10 _ _ (s9 _ _ (B8 _ _ (bn7 _ _ hx nt) nx)) nt)) nt)
    exact k a8 r8 _ bn S13 c1 c2 tb13
end
end Kx
set_option maxHeartbeats 8000000
namespace Kx
open PySem PySem.Spec PyProof.Rows L2 Xr LamX
local macro_rules | `(tactic| walk_at "rd") => `(tactic| (repeat (first | apply Exists.intro | (refine And.intro rfl ?_) | (refine And.intro (SqL.of (by assumption)) ?_) | (refine And.intro (Or.inl (SqL.of (by assumption))) ?_) | (refine Or.inl ⟨_, rfl, ?_⟩) | (refine Or.inr ⟨_, rfl, ?_⟩) | (refine And.intro (by assumption) ?_) | (refine And.intro (Or.inl (by assumption)) ?_))))
section
variable {P : Program} {w : World} {K : PySem.W.Frag} {mg : Str → Option Value} {base : Heap}
theorem six {rs : List V} (h : rs.length = 6) : ∃ a b c d e f, rs = [a, b, c, d, e, f] :=
  match rs, h with
  | [a, b, c, d, e, f], _ => ⟨a, b, c, d, e, f, rfl⟩
theorem sc_law : FnScope ["_law_script", "_law_pen_here", "_law_labels", "_law_turn", "_law_row_here", "_law_again"] ["_law_script"] (defScope (top 39)) := ⟨rfl, rfl, rfl, by decide +kernel, rfl, by decide +kernel, by decide +kernel⟩
def spLaw (K : PySem.W.Frag) : Sp := fun vs H Q _ => ∃ (a : Addr) (ns : List Int), vs = [.ref a] ∧ SqL K H a (ns.map V.int) ∧ ns.length ≤ 63 ∧ LamX.Tabs (tabsT K) H ∧ ∀ H', Q (.bl true) H'
theorem ok_law (T : Txt P K mg) (TB : ∀ p ∈ tf, LamX.TabB base mg (He.cT K p).1 (He.cT K p).2) {fd : FuncData} (F : FunD K "law" "law" (defArgs (top 39)) (defBody (top 39)) (defScope (top 39)) [] [] (He.ga K "law") fd) : FnG P w K mg base CX0 18 (He.ga K "law") fd ["_law_script"] (spLaw K) := by
  have G__law_pen := ok__law_pen (P := P) (w := w) (base := base) T
  have G__law_names := ok__law_names (P := P) (w := w) (base := base) T
  have G__law_draw := ok__law_draw (P := P) (w := w) (base := base) T
  have G__law_row := ok__law_row (P := P) (w := w) (base := base) T
  have G__law_odd := ok__law_odd (P := P) (w := w) (base := base) T
  have G_VeiledOrderK := okK_VeiledOrder_init (P := P) (w := w) (base := base) T
  obtain ⟨fr, Fr, br, kr⟩ := ok__law_is_right (P := P) (w := w) (base := base) T TB
  obtain ⟨fdH, FH⟩ := T.F__law_heard
  have bH := FH.bindsN (ps := ["_law_ask"]) fun _ _ _ _ _ _ us hl => match us, hl with | [_], _ => rfl
  refine okGC (p := ("law", none)) F sc_law (fun vs H Q E h => ?_) (fun A outer s H vs Q E hr hgd h => ?_)
  · obtain ⟨a, ns, rfl, _⟩ := h
    rfl
  · obtain ⟨a, ns, rfl, hS, hl, tb, k⟩ := h
    have hu64 := hr.units
    refine ⟨_, PSs.nox (pss_cons (ps_asg (pe_f G__law_pen (hr.mono (by decide)) (by rfl) T.g__law_pen pass0 (pa_cons (pv 0) pa_nil)) (pg_name (i := 1) sc_law.nd rfl (.inl rfl)))
    (pss_cons (ps_asg (pe_f G__law_names (hr.mono (by decide)) (by rfl) T.g__law_names pass0 (pa_cons (pv 1) (pa_cons pe_int pa_nil))) (pg_name (i := 2) sc_law.nd rfl (.inl rfl)))
    (pss_cons (ps_for PassesOwn.never rfl (pi_range1 (by rfl) T.z_range (pa_cons pe_int pa_nil)) (pg_name (i := 3) sc_law.nd rfl (.inl rfl))
      (pss_cons (ps_asg (pe_f G__law_row (hr.mono (by decide)) (by rfl) T.g__law_row pass0 (pa_cons (pv 1) (pa_cons (pv 2) pa_nil))) (pg_name (i := 4) sc_law.nd rfl (.inl rfl)))
    (pss_cons (ps_for PassesOwn.never rfl (pi_range1 (by rfl) T.z_range (pa_cons (pe_f G__law_draw (hr.mono (by decide)) (by rfl) T.g__law_draw pass0 (pa_cons (pv 1) (pa_cons pe_int pa_nil))) pa_nil)) (pg_name (i := 5) sc_law.nd rfl (.inl rfl))
      (pss_one (ps_asg (pe_f G__law_odd (hr.mono (by decide)) (by rfl) T.g__law_odd pass0 (pa_cons (pv 1) pa_nil)) (pg_sub (pv 4) (pe_op op_add pe_int (pe_f G__law_draw (hr.mono (by decide)) (by rfl) T.g__law_draw pass0 (pa_cons (pv 1) (pa_cons pe_int pa_nil)))) set_list))))
    (pss_one (ps_if (pt_not (pt_val (pe_fG Fr br kr (hr.mono (by decide)) hgd (by rfl) T.g__law_is_right pass0 (pa_cons (pv 1) (pa_cons (pv 4) pa_nil)))))
      (pss_one (ps_ret pe_bl))
      pss_nil)))))
    (pss_one (ps_ret (pe_cmpR op_eq (pe_lamF (T := tabsT K) (TT := TTs K) FH bH (by rfl) T.g__law_heard sc__law_heard rfl (.inl rfl) (fun cdv => heard_gives T rfl rfl rfl cdv) (TB ("law", none) (by decide)) rfl (tabs_mem (p := ("law", none)) (by decide)) (tabs_one T (p := ("law", none)) (by decide)) (k := 12) (hr.mono (by decide)) (lamS_by (sc := defScope (top 39)) (by decide +kernel)) (fun A outer s H E f c' hr' => (pe_makeRK T.ord.v.mks G_VeiledOrderK (hr'.mono (by decide)) (by rfl) T.g_VeiledOrder (passes_call (takes_of rfl rfl rfl rfl) (fun _ _ _ _ h => h)) (pa_cons pe_str (pa_cons pe_str (pa_cons pe_int (pa_cons pe_int pa_nil)))) (pk_cons pe_int (pk_cons pe_str pk_nil))))) pe_str (nomark _))))))), ?_⟩
    refine ⟨_, rfl, a, ns, rfl, hS, hl, fun p q ns' H0 np s0 S0 => ?_⟩
    refine ⟨_, rfl, p, q, ns', 0, 0, rfl, S0, by decide, fun lb ws a1 r1 H1 hlb nlb wl nw c1 c2 B1 S1 => ?_⟩
    have lbp : lb ≠ p := fun z => by rw [z, S0.pen] at nlb; cases nlb
    have tb1 := tabs_but (tb.ext s0) S0.pen B1
    refine ⟨30, rfl, by decide, by decide, ?_⟩
    refine for_range (fun i σ' H' => ∃ (v3 v4 v5 : Option V) (a' r' : Int), σ' = [some (.ref a), some (.ref p), some (.ref lb), v3, v4, v5] ∧ H' lb = some (.lst (ws.map V.str)) ∧ PenAt H' p q ns' a' r' ∧ a' ≤ 3 + 30 * i ∧ Tabs (tabsT K) H') ⟨none, none, none, a1, r1, rfl, hlb, S1, by omega, tb1⟩ ?_ ?_
    · rintro i σ' H' hi ⟨v3, v4, v5, a2, r2, rfl, hlb2, S2, b2, tb2⟩
      have hi30 : i < 30 := hi
      refine ⟨_, rfl, _, rfl, p, q, lb, ns', a2, r2, ws, rfl, S2, by omega, hlb2, lbp, by omega, by omega, nw, fun l j rw_ a3 r3 H3 hj g hl3 nl3 c3 c4 B3 S3 => ?_⟩
      have tb3 := tabs_but tb2 S2.pen B3
      have hlb3 := B3 _ _ hlb2 lbp
      have lp : l ≠ p := fun z => by rw [z, S2.pen] at nl3; cases nl3
      have llb : l ≠ lb := fun z => by rw [z, hlb2] at nl3; cases nl3
      refine ⟨_, rfl, p, q, ns', a3, r3, _, rfl, S3, by decide, by decide, by omega, fun n a4 r4 H4 n0 n1 c5 c6 B4 S4 => ?_⟩
      have tb4 := tabs_but tb3 S3.pen B4
      have n1 : n < 3 := n1
      refine ⟨n, rfl, by omega, by omega, ?_⟩
      refine for_range (fun m σ' H' => ∃ (v5 : Option V) (rs : List V) (a' r' : Int), σ' = [some (.ref a), some (.ref p), some (.ref lb), some (.int (0 + (i : Int))), some (.ref l), v5] ∧ H' lb = some (.lst (ws.map V.str)) ∧ H' l = some (.lst (V.str (kindS j) :: rs)) ∧ rs.length = 6 ∧ (∀ v ∈ rs, AnyV H' v ∧ v ≠ .ref p ∧ v ≠ .ref l) ∧ PenAt H' p q ns' a' r' ∧ a' ≤ a4 + 3 * m ∧ Tabs (tabsT K) H')
        ⟨v5, [.str rw_.sd, .str rw_.nm, .int rw_.lm, .int rw_.lt, .int rw_.vs, .str rw_.ow], a4, r4, rfl, B4 _ _ hlb3 lbp, ?_, rfl, ?_, S4, by omega, tb4⟩ ?_ ?_
      · have z := B4 _ _ hl3 lp
        unfold rowV at z
        rw [g.kd] at z
        exact z
      · intro v hv
        have gl := count_whole g.g.lt
        have gv := (count_whole (count_le g.g.lt g.vs.1 g.vs.2)).1
        simp only [List.mem_cons, List.not_mem_nil, or_false] at hv
        rcases hv with rfl | rfl | rfl | rfl | rfl | rfl
        · refine ⟨.inl ⟨_, rfl, ?_, ?_⟩, (fun z => by cases z), fun z => by cases z⟩ <;> (rcases side_two g.g.sd with e | e <;> (rw [e]; decide +kernel))
        · exact ⟨.inl ⟨_, rfl, by have := nm_len8 g.g.nm; omega, nm_ok g.g.nm⟩, (fun z => by cases z), fun z => by cases z⟩
        · exact ⟨.inr (.inl ⟨_, rfl, g.g.lm⟩), (fun z => by cases z), fun z => by cases z⟩
        · exact ⟨.inr (.inl ⟨_, rfl, gl.1⟩), (fun z => by cases z), fun z => by cases z⟩
        · exact ⟨.inr (.inl ⟨_, rfl, gv⟩), (fun z => by cases z), fun z => by cases z⟩
        · exact ⟨.inl ⟨_, rfl, by have := nm_len8 g.g.ow; omega, nm_ok g.g.ow⟩, (fun z => by cases z), fun z => by cases z⟩
      · rintro m σ' H5 hm ⟨v5, rs, a5, r5, rfl, hlb5, hl5, len5, any5, S5, b5, tb5⟩
        have hm3 : m < 3 := by omega
        refine ⟨_, rfl, p, q, ns', a5, r5, rfl, S5, by omega, fun v a6 r6 H6 av nv c7 c8 B6 S6 => ?_⟩
        have vp : v ≠ .ref p := fun z => by have := nv p z; rw [S5.pen] at this; cases this
        have vl : v ≠ .ref l := fun z => by have := nv l z; rw [hl5] at this; cases this
        refine ⟨_, rfl, _, rfl, p, q, ns', a6, r6, _, rfl, S6, by decide, by decide, by omega, fun d a7 r7 H7 d0 d1 c9 c10 B7 S7 => ?_⟩
        have d1 : d < 6 := d1
        have hl7 := B7 _ _ (B6 _ _ hl5 lp) lp
        have tb7 := tabs_but (tabs_but tb5 S5.pen B6) S6.pen B7
        refine ⟨1, d, rfl, rfl, l, _, _, (1 + d).toNat, rfl, rfl, hl7, ?_, ?_⟩
        · unfold ixN
          rw [if_pos (by omega), if_pos (by rw [List.length_cons, len5]; omega)]
        have et : (1 + d).toNat = d.toNat + 1 := by omega
        rw [et, List.set_cons_succ]
        have bl : But l H7 (upd H7 l (.lst (V.str (kindS j) :: rs.set d.toNat v))) := But.upd But.refl
        refine ⟨_, rs.set d.toNat v, a7, r7, rfl, bl _ _ (B7 _ _ (B6 _ _ hlb5 lbp) lbp) (Ne.symm llb), upd_same, by rw [List.length_set, len5], fun x hx => ?_, ?_, by omega, tabs_but tb7 hl7 bl⟩
        · have z : (AnyV H7 x ∧ x ≠ .ref p ∧ x ≠ .ref l) := by
            rcases List.mem_or_eq_of_mem_set hx with h | rfl
            · obtain ⟨z1, z2, z3⟩ := any5 x h
              exact ⟨(z1.but z2 B6).but z2 B7, z2, z3⟩
            · exact ⟨av.but vp B7, vp, vl⟩
          exact ⟨z.1.but z.2.2 bl, z.2⟩
        · refine ⟨(upd_ne (Ne.symm lp)).trans S7.pen, (upd_ne fun z => ?_).trans S7.cells, S7.len, S7.a0, S7.r0⟩
          have q1 := S2.cells
          rw [z, nl3] at q1
          cases q1
      · rintro σ' H5 ⟨v5, rs, a5, r5, rfl, hlb5, hl5, len5, any5, S5, b5, tb5⟩
        obtain ⟨sd, nm, lm, lt, sh, ow, rfl⟩ := six len5
        refine ⟨_, rfl, _, rfl, p, q, l, ns', a5, r5, j, sd, nm, lm, lt, sh, ow, rfl, S5, by omega, ⟨hj, hl5, (any5 _ (by simp)).1, (any5 _ (by simp)).1, (any5 _ (by simp)).1, (any5 _ (by simp)).1, (any5 _ (by simp)).1, (any5 _ (by simp)).1⟩, tb5, fun a6 r6 H6 B6 S6 c7 c8 tb6 => ?_⟩
        refine ⟨_, rfl, iteFa rfl ⟨_, _, _, a6, r6, rfl, B6 _ _ hlb5 lbp (fun _ z => by cases z), S6, ?_, tb6⟩⟩
        have : ((n.toNat : Nat) : Int) = n := Int.toNat_of_nonneg n0
        omega
    · rintro σ' H2 ⟨v3, v4, v5, a2, r2, rfl, hlb2, S2, b2, tb2⟩
      refine ⟨tb2, fun H3 e3 tb3 => ?_⟩
      refine tts_use (fun z H5 => z = .str "owner") (fun Q' cont => ?_) fun z H5 e => ?_
      · refine ⟨rfl, rfl, fun x dx nx ndx ne => ⟨⟨x, dx, .str "buy", .str "c", .int 0, .int 5, .int 6, .str "", true, true, true, true, false, true, rfl, upd_same, .inl ⟨_, rfl, by decide +kernel⟩, .inl ⟨_, rfl, by decide +kernel, by decide +kernel⟩, .inl ⟨_, rfl, by decide +kernel⟩, .inl ⟨_, rfl, by decide +kernel⟩, .inl ⟨_, rfl, by decide +kernel, by decide +kernel⟩, .inl ⟨_, rfl, by decide +kernel⟩, fun r e => ?_, fun e => (by cases e), fun e => (by cases e), fun e => (by cases e)⟩, fun y _ e2 => by cases e2⟩⟩
        cases e
        intro d H4 s4 nd hd
        exact ⟨rfl, d, _, rfl, hd, fun H5 _ => cont _ _ rfl⟩
      · subst e
        refine ⟨rfl, ?_⟩
        exact k _
end
end Kx
set_option maxHeartbeats 0
namespace Kx
open PySem PySem.Spec PyProof.Rows L2 Xr LamX
abbrev prog : Program := PySem.Challenge.pw_wholelots_k31_orders_refused
theorem it_InvalidList : InitT (defArgs sInvalidList) (defBody sInvalidList) (defScope sInvalidList) ["reason", "name"] :=
  ⟨.inr ⟨"reason", "name", _, _, _, _, _, _, _, _, _, _, _, _, _, _, _, rfl, fun env => ⟨_, rfl⟩, rfl⟩, rfl, rfl, rfl, by decide +kernel, by decide +kernel, by decide +kernel, by decide +kernel, ⟨_, rfl, rfl⟩, by decide +kernel, by decide +kernel⟩
theorem ib_InvalidList (kV doc pm : Value) (an : Option Addr) (cdv ct : Value) (cc : Addr) : ErrB (PySem.W.ksFn "__init__" "InvalidList.__init__" (defArgs sInvalidList) (defBody sInvalidList) (defScope sInvalidList) .none kV doc pm an cdv ct cc) ["reason", "name"] :=
  ⟨fun s self us hl => match us, hl with | [_, _], _ => .of_eq rfl, fun s self us hl => match us, hl with | [_, _], _ => .of_eq rfl⟩
theorem it_InvalidOrder : InitT (defArgs sInvalidOrder) (defBody sInvalidOrder) (defScope sInvalidOrder) ["reason"] :=
  ⟨.inl ⟨"reason", _, _, _, _, _, _, _, _, _, _, rfl, fun env => ⟨_, rfl⟩, rfl⟩, rfl, rfl, rfl, by decide +kernel, by decide +kernel, by decide +kernel, by decide +kernel, ⟨_, rfl, rfl⟩, by decide +kernel, by decide +kernel⟩
theorem ib_InvalidOrder (kV doc pm : Value) (an : Option Addr) (cdv ct : Value) (cc : Addr) : ErrB (PySem.W.ksFn "__init__" "InvalidOrder.__init__" (defArgs sInvalidOrder) (defBody sInvalidOrder) (defScope sInvalidOrder) .none kV doc pm an cdv ct cc) ["reason"] :=
  ⟨fun s self us hl => match us, hl with | [_], _ => .of_eq rfl, fun s self us hl => match us, hl with | [_], _ => .of_eq rfl⟩
theorem it_InvalidText : InitT (defArgs sInvalidText) (defBody sInvalidText) (defScope sInvalidText) ["line", "word"] :=
  ⟨.inr ⟨"line", "word", _, _, _, _, _, _, _, _, _, _, _, _, _, _, _, rfl, fun env => ⟨_, rfl⟩, rfl⟩, rfl, rfl, rfl, by decide +kernel, by decide +kernel, by decide +kernel, by decide +kernel, ⟨_, rfl, rfl⟩, by decide +kernel, by decide +kernel⟩
theorem ib_InvalidText (kV doc pm : Value) (an : Option Addr) (cdv ct : Value) (cc : Addr) : ErrB (PySem.W.ksFn "__init__" "InvalidText.__init__" (defArgs sInvalidText) (defBody sInvalidText) (defScope sInvalidText) .none kV doc pm an cdv ct cc) ["line", "word"] :=
  ⟨fun s self us hl => match us, hl with | [_, _], _ => .of_eq rfl, fun s self us hl => match us, hl with | [_, _], _ => .of_eq rfl⟩
theorem mkTxt {h : Heap} {w : World} {K : PySem.W.Frag} {mg : Str → Option Value} (X : K.In h) (G : h.Ns mainGlobals mg) (c : SaysF fa fn [] tf cl da exB w h K) : Txt prog K mg := by
  have d := c.e.x.t.d
  have e := c.e.x.more
  obtain ⟨z0, e⟩ := He.ba e
  have al := allB_ok z0
  obtain ⟨zl, e⟩ := He.ba e
  obtain ⟨zs, e⟩ := He.ba e
  obtain ⟨zr, e⟩ := He.ba e
  obtain ⟨zr, zt⟩ := He.ba zr
  have zt := of_decide_eq_true zt
  have zr := fun x hx => He.ba (List.all_eq_true.mp zr x hx)
  obtain ⟨z1, e⟩ := He.ba e
  obtain ⟨z2, e⟩ := He.ba e
  have z3 := e
  exact ⟨al,
    He.glo_ok X G (d.fact 0 (f := .glo "LotError") rfl),
    He.glo_ok X G (d.fact 1 (f := .glo "InvalidList") rfl),
    He.glo_ok X G (d.fact 2 (f := .glo "InvalidOrder") rfl),
    He.glo_ok X G (d.fact 3 (f := .glo "InvalidText") rfl),
    He.glo_ok X G (d.fact 4 (f := .glo "is_integer") rfl),
    He.glo_ok X G (d.fact 5 (f := .glo "is_whole") rfl),
    He.glo_ok X G (d.fact 6 (f := .glo "is_count") rfl),
    He.glo_ok X G (d.fact 7 (f := .glo "is_name") rfl),
    He.glo_ok X G (d.fact 8 (f := .glo "fault_of") rfl),
    He.glo_ok X G (d.fact 9 (f := .glo "Order") rfl),
    He.glo_ok X G (d.fact 10 (f := .glo "NowOrder") rfl),
    He.glo_ok X G (d.fact 11 (f := .glo "AllOrder") rfl),
    He.glo_ok X G (d.fact 12 (f := .glo "VeiledOrder") rfl),
    He.glo_ok X G (d.fact 13 (f := .glo "bare") rfl),
    He.glo_ok X G (d.fact 14 (f := .glo "remade") rfl),
    He.glo_ok X G (d.fact 15 (f := .glo "left_over") rfl),
    He.glo_ok X G (d.fact 16 (f := .glo "_law_pen") rfl),
    He.glo_ok X G (d.fact 17 (f := .glo "_law_draw") rfl),
    He.glo_ok X G (d.fact 18 (f := .glo "_law_pick") rfl),
    He.glo_ok X G (d.fact 19 (f := .glo "_law_names") rfl),
    He.glo_ok X G (d.fact 20 (f := .glo "_law_number") rfl),
    He.glo_ok X G (d.fact 21 (f := .glo "_law_count") rfl),
    He.glo_ok X G (d.fact 22 (f := .glo "_law_row") rfl),
    He.glo_ok X G (d.fact 23 (f := .glo "_law_made") rfl),
    He.glo_ok X G (d.fact 24 (f := .glo "_law_told") rfl),
    He.glo_ok X G (d.fact 25 (f := .glo "_law_odd") rfl),
    He.glo_ok X G (d.fact 26 (f := .glo "_law_is_whole") rfl),
    He.glo_ok X G (d.fact 27 (f := .glo "_law_is_name") rfl),
    He.glo_ok X G (d.fact 28 (f := .glo "_law_fault") rfl),
    He.glo_ok X G (d.fact 29 (f := .glo "_law_heard") rfl),
    He.glo_ok X G (d.fact 30 (f := .glo "_law_is_right") rfl),
    He.glo_ok X G (d.fact 31 (f := .glo "law") rfl),
    He.glo_ok X G (d.fact 32 (f := .glo "SIDES") rfl),
    He.free_ok X G (d.fact 33 (f := .free "ValueError") rfl),
    He.free_ok X G (d.fact 34 (f := .free "abs") rfl),
    He.free_ok X G (d.fact 35 (f := .free "all") rfl),
    He.free_ok X G (d.fact 36 (f := .free "bool") rfl),
    He.free_ok X G (d.fact 37 (f := .free "int") rfl),
    He.free_ok X G (d.fact 38 (f := .free "isinstance") rfl),
    He.free_ok X G (d.fact 39 (f := .free "len") rfl),
    He.free_ok X G (d.fact 40 (f := .free "list") rfl),
    He.free_ok X G (d.fact 41 (f := .free "min") rfl),
    He.free_ok X G (d.fact 42 (f := .free "property") rfl),
    He.free_ok X G (d.fact 43 (f := .free "range") rfl),
    He.free_ok X G (d.fact 44 (f := .free "repr") rfl),
    He.free_ok X G (d.fact 45 (f := .free "str") rfl),
    He.free_ok X G (d.fact 46 (f := .free "super") rfl),
    He.str_ok X G (d.fact 47 (f := .str "LETTERS" "abcdefghijklmnopqrstuvwxyz") rfl),
    He.int_ok X G (d.fact 48 (f := .int "MOST_LETTERS" 8) rfl),
    He.str_ok X G (d.fact 49 (f := .str "NOBODY" "nobody") rfl),
    d.def_ 0 (d := dD "is_integer" 8) rfl,
    d.def_ 1 (d := dD "is_whole" 9) rfl,
    d.def_ 2 (d := dD "is_count" 10) rfl,
    d.def_ 3 (d := dD "is_name" 11) rfl,
    d.def_ 4 (d := dD "fault_of" 15) rfl,
    d.def_ 5 (d := dD "bare" 20) rfl,
    d.def_ 6 (d := dD "remade" 21) rfl,
    d.def_ 7 (d := dD "left_over" 22) rfl,
    d.def_ 8 (d := dD "_law_pen" 24) rfl,
    d.def_ 9 (d := dD "_law_draw" 25) rfl,
    d.def_ 10 (d := dD "_law_pick" 26) rfl,
    d.def_ 11 (d := dD "_law_names" 27) rfl,
    d.def_ 12 (d := dD "_law_number" 28) rfl,
    d.def_ 13 (d := dD "_law_count" 29) rfl,
    d.def_ 14 (d := dD "_law_row" 30) rfl,
    d.def_ 15 (d := dD "_law_made" 31) rfl,
    d.def_ 16 (d := dD "_law_told" 32) rfl,
    d.def_ 17 (d := dD "_law_odd" 33) rfl,
    d.def_ 18 (d := dD "_law_is_whole" 34) rfl,
    d.def_ 19 (d := dD "_law_is_name" 35) rfl,
    d.def_ 20 (d := dD "_law_fault" 36) rfl,
    d.def_ 21 (d := dD "_law_heard" 37) rfl,
    d.def_ 22 (d := dD "_law_is_right" 38) rfl,
    d.def_ 23 (d := dD "law" 39) rfl,
    c.dA 0 rfl,
    c.dA 1 rfl,
    c.dA 2 rfl,
    c.dA 3 rfl,
    c.dA 4 rfl,
    c.dA 5 rfl,
    c.dA 6 rfl,
    c.dA 7 rfl,
    c.dA 8 rfl,
    c.dA 9 rfl,
    c.dA 10 rfl,
    c.dA 11 rfl,
    c.dA 12 rfl,
    err_ok (P := prog) bfV z1 al (c.e.clo (List.mem_of_getElem? (i := 0) rfl)) it_InvalidList (by decide +kernel) ib_InvalidList,
    err_ok (P := prog) bfV z2 al (c.e.clo (List.mem_of_getElem? (i := 1) rfl)) it_InvalidOrder (by decide +kernel) ib_InvalidOrder,
    err_ok (P := prog) bfV z3 al (c.e.clo (List.mem_of_getElem? (i := 2) rfl)) it_InvalidText (by decide +kernel) ib_InvalidText,
    fun x hx => of_decide_eq_true (zr x hx).1, zt, fun x hx y hy => of_decide_eq_true (List.all_eq_true.mp (zr x hx).2 y hy),
    ordB_ok (P := prog) zl al (c.e.clo (List.mem_of_getElem? (i := 3) rfl)) (c.e.clo (List.mem_of_getElem? (i := 4) rfl)) (c.e.clo (List.mem_of_getElem? (i := 5) rfl)) (by decide +kernel), of_decide_eq_true zs⟩
theorem lawF {w : World} {h : Heap} {K : PySem.W.Frag} {mg : Str → Option Value} {f : Addr} (X : K.In h) (G : h.Ns mainGlobals mg) (hfa : mg ("law" : Str) = some (.ref f)) (c : SaysF fa fn [] tf cl da exB w h K) :
    ∃ fd : FuncData, (∀ (s : Shared) (v : Value), BindsTo s fd ⟨[v], []⟩ [("_law_script", v)]) ∧ ∀ base : Heap, K.In base → base.Ns mainGlobals mg → (∀ p ∈ tf.map (He.cT K), LamX.TabB base mg p.1 p.2) → FnG prog w K mg base CX0 18 f fd ["_law_script"] (spLaw K) := by
  have T := mkTxt X G c
  have e := hfa.symm.trans T.g_law
  cases e
  obtain ⟨fd, F⟩ := T.F_law
  exact ⟨fd, fun s v => FunD.bindsA (ps := ["_law_script"]) F (fun _ _ _ _ _ _ us hl => match us, hl with | [_], _ => rfl) s [v] rfl, fun base _ _ TB => ok_law T (fun p hp => TB _ (List.mem_map.mpr ⟨p, hp, rfl⟩)) F⟩
theorem tabs_start {K : PySem.W.Frag} {H : Hp} (hT : ∀ p ∈ tf.map (He.cT K), H p.2 = some (.tbl #[])) : Tabs (tabsT K) H := by
  intro e he
  have h : ∃ p ∈ tf.map (He.cT K), p.2 = e.1 := by
    have hm : e.1 ∈ (tabsT K).map (·.1) := List.mem_map.mpr ⟨e, he, rfl⟩
    have hm : e.1 ∈ (tf.map (He.cT K)).map (·.2) := hm
    obtain ⟨p, hp, e2⟩ := List.mem_map.mp hm
    exact ⟨p, hp, e2⟩
  obtain ⟨p, hp, e2⟩ := h
  exact LamX.TabS.nil (e2 ▸ hT p hp)
end Kx
open PySem PySem.W PySem.Calls PyProof.Rows
theorem PySem.Challenge.cw_wholelots_k31_orders_refused_holds : PySem.Challenge.rw_wholelots_k31_orders_refused.Holds := by
  w_on; o_law
  refine HandSHeadRun.head_any (r := OpenLaw.row PySem.Challenge.rw_wholelots_k31_orders_refused) (q := view (OpenLaw.row PySem.Challenge.rw_wholelots_k31_orders_refused).prog [39]) (H := Kx.hk) (ob := Kx.ob) (M := 12000) (loose := Kx.loose)
    (d := HandSHeadRun.topDef (OpenLaw.row PySem.Challenge.rw_wholelots_k31_orders_refused).prog 39) (kwd := []) Kx.ob_eq
    (by kernel_rfl) (fun s => by kernel_rfl) Kx.run (by kernel_rfl) (by kernel_rfl) (by kernel_rfl) (by rfl) (by first | assumption | decide +kernel) (by decide +kernel) ⟨rfl, rfl, rfl, rfl, rfl, by decide +kernel⟩ ?hw ?hc
  case hw => w_witness2
  case hc =>
    refine Xr.walkGT (l := PySem.Challenge.rw_wholelots_k31_orders_refused) (n := 63) (k := 18) (x := "_law_script") (CX := L2.CX0) rfl (by decide) (by kernel_rfl) ⟨rfl, by decide, by decide⟩ ?F (fun _ _ _ _ z => z)
    intro w mg fa h Y G hmg0
    obtain ⟨K, KX, c⟩ := Y
    have hmg : mg ("law" : PySem.Str) = some (.ref fa) := by
      have e : (HandSHeadRun.topDef (OpenLaw.row PySem.Challenge.rw_wholelots_k31_orders_refused).prog 39).name = ("law" : PySem.Str) := by kernel_rfl
      rw [← e]
      exact hmg0
    obtain ⟨fd, hb, hF⟩ := Kx.lawF (w := w) KX G hmg c
    exact ⟨K, fd, Kx.tf.map (He.cT K), Kx.spLaw K, KX, fun p hp => by obtain ⟨q, hq, rfl⟩ := List.mem_map.mp hp; exact c.e.x.empty q hq, fun p hp => by obtain ⟨q, hq, rfl⟩ := List.mem_map.mp hp; exact c.e.x.out q hq,
      fun p hp => by obtain ⟨q, hq, rfl⟩ := List.mem_map.mp hp; exact PySem.W.codeHd_of_K KX (c.e.x.hd q hq), hb, fun H a ns hl hT hS => ⟨a, ns, rfl, hS, hl, Kx.tabs_start hT, fun _ => rfl⟩, hF⟩
