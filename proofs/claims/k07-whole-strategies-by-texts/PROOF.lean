import PyProof.Rows.All
import Wide.All
import OpenK.AllK
import Wide.FinOn
import KE.KExcSuper
import HandS.ForMost
import HandS.Exc
import HandS.ExcInit
import HandS.Defaults
import HandS.ExcField
import HandS.IsInst
import KE.KExcIs
import HandS.HeadEnd
import HandS.Head0
import HandS.Head1
import HandS.Head2
import HandS.HeadHook1
import HandS.HeadHook2
import HandS.HeadHook3
import HandS.HeadHook4
import HandS.ClsMeth
import HandS.Star
import HandS.Property
import HandS.Records
import PyProof.InstNe
import HandS.SlotsOwn
import HandS.Nested
import HandS.DictComp
import HandS.Conv
import HandS.More
import HandS.HeadNt
import HandS.Wide
import HandS.WordsDict
import PyProof.Rows.RegStrFacts
import HandS.Text
import HandS.ListItems
import HandS.RaiseMore
import KE.KCallOwn
import HandS.MakeKwOnly
import KE.KParD
import HandS.TryOnly
import HandS.Lambda
import KE.KTryMore
import HandS.EndTab
import HandS.OwnEq
import PyProof.SliceSyntax
import PyProof.StrOps2
import HandS.FStr
import HandS.Style
import PySem.Challenge.RW_wholelots_k07_whole_strategies_by_texts
set_option Elab.async false
set_option linter.all false
set_option maxRecDepth 100000
set_option maxHeartbeats 4000000
namespace Xr
open PySem PySem.W PySem.Calls PyProof.Rows PySem.Spec
/-! KeyError, as the other bases -/
theorem keySuper : KxsFacts "KeyError" "KeyError.__init__" :=
  ⟨by show builtinType _ = _; rw [builtinType_eq_fast]; kernel_rfl, by first | kernel_rfl | rfl⟩
theorem keyBound : builtinKind "KeyError.__init__" = some .slot ∧ splitId "KeyError.__init__" = some ("KeyError", "__init__") := ⟨by kernel_rfl, by kernel_rfl⟩
theorem keyRow : Manifest.signature? "KeyError.__init__" = some ⟨.positional, "*", "KeyError", .self, [⟨"args", .varPos, false⟩]⟩ := by kernel_rfl
theorem keyEntry : entryFor table "KeyError.__init__" = some Builtin.«BaseException.__init__» :=
  entryFor_alias (id' := "BaseException.__init__") (by rw [fastTable_eq_tree]; kernel_rfl) (by first | rfl | decide +kernel)
    (by decide +kernel) (by rw [fastTable_eq_tree]; kernel_rfl)
theorem keyPlain : plainId "KeyError.__init__" = true := by decide +kernel
theorem keyMade : Bind.madeBy (.type "KeyError") = pure (some "LookupError.__new__") := by kernel_rfl
end Xr
set_option maxHeartbeats 4000000
namespace Xr
open PySem PySem.W PySem.Calls PyProof.Rows PySem.Spec
/-- one base of the errors: the class B whose __init__ is ini; its __new__ is nw, of the class N -/
structure BaseF (B ini N nw : String) (bmB : List Value) : Prop where
  f : ∃ i bm, ExcBaseFacts N nw i bm
  hN : bmB.contains (.type N) = true
  hB : bmB.contains (.type B) = true
  noA : bmB.contains (.type "AttributeError") = false
  noE : bmB.contains (.type "NameError") = false
  exc : bmB.contains (.type "BaseException") = true
  obj : bmB.contains (.type "object") = true
  k : KxsFacts B ini
  kind : builtinKind ini = some .slot
  row : Manifest.signature? ini = some ⟨.positional, "*", B, .self, [⟨"args", .varPos, false⟩]⟩
  entry : entryFor table ini = some Builtin.«BaseException.__init__»
  plain : plainId ini = true
  ns : (B != "*") = true
  pass : ∀ self : Value, refuseLoop self "__setattr__" bmB = pure ()
theorem of_facts {B ini nw : String} {bm : List Value} (F : ExcBaseFacts B nw ini bm) (k : KxsFacts B ini) (h : bm.contains (.type "object") = true) (p : ∀ self : Value, refuseLoop self "__setattr__" bm = pure ()) : BaseF B ini B nw bm :=
  ⟨⟨_, _, F⟩, F.hasB, F.hasB, F.noAttr, F.noName, F.hasBase, h, k, F.initKind, F.initRow, F.initEntry, F.init.plain, F.noStar, p⟩
abbrev tlV : List Value := [.type "ValueError", .type "Exception", .type "BaseException", .type "object"]
abbrev tlK : List Value := [.type "KeyError", .type "LookupError", .type "Exception", .type "BaseException", .type "object"]
abbrev tlL : List Value := [.type "LookupError", .type "Exception", .type "BaseException", .type "object"]
abbrev tlI : List Value := [.type "IndexError", .type "LookupError", .type "Exception", .type "BaseException", .type "object"]
abbrev tlR : List Value := [.type "RuntimeError", .type "Exception", .type "BaseException", .type "object"]
abbrev tlO : List Value := [.type "OverflowError", .type "ArithmeticError", .type "Exception", .type "BaseException", .type "object"]
theorem bfV : BaseF "ValueError" "ValueError.__init__" "ValueError" "ValueError.__new__" tlV := of_facts F.excBase_ValueError kxs_ValueError (by decide +kernel) fun _ => by kernel_rfl
theorem bfL : BaseF "LookupError" "LookupError.__init__" "LookupError" "LookupError.__new__" tlL := of_facts F.excBase_LookupError kxs_LookupError (by decide +kernel) fun _ => by kernel_rfl
theorem bfI : BaseF "IndexError" "IndexError.__init__" "IndexError" "IndexError.__new__" tlI := of_facts F.excBase_IndexError kxs_IndexError (by decide +kernel) fun _ => by kernel_rfl
theorem bfR : BaseF "RuntimeError" "RuntimeError.__init__" "RuntimeError" "RuntimeError.__new__" tlR := of_facts F.excBase_RuntimeError kxs_RuntimeError (by decide +kernel) fun _ => by kernel_rfl
theorem bfO : BaseF "OverflowError" "OverflowError.__init__" "OverflowError" "OverflowError.__new__" tlO := of_facts F.excBase_OverflowError kxs_OverflowError (by decide +kernel) fun _ => by kernel_rfl
theorem bfK : BaseF "KeyError" "KeyError.__init__" "LookupError" "LookupError.__new__" tlK :=
  ⟨⟨_, _, F.excBase_LookupError⟩, by decide +kernel, by decide +kernel, by decide +kernel, by decide +kernel, by decide +kernel, by decide +kernel, keySuper, keyBound.1, keyRow, keyEntry, keyPlain, by decide +kernel, fun _ => by kernel_rfl⟩

/-- the object of an error that has no dict yet | whose dict is at d -/
abbrev exOb (C t : Addr) (d : Option Addr) : Obj := { cls := .ref C, dict := d, data := .fields #[.ref t, .none, .none, .none, .bool false, .none] }
section
variable {M : Model} {A : Around} {E : Value → Shared → Prop} {h : Heap} {g : Array GenState} {d : Drawn} {t : Nat} {os : OsState}
variable {nm q : Str} {C NS : Addr} {bs bm bmB : List Value} {hdct : Bool} {sn : List Str} {sub : List Value} {ab : Bool} {col : Option Bool} {dd : Option Addr} {k0 k1 k2 k3 k5 : Option Value} {B ini N nw : String}
abbrev clO (nm q : Str) (C NS : Addr) (bs bm : List Value) (hdct : Bool) (sn : List Str) (sub : List Value) (ab : Bool) (col : Option Bool) (dd : Option Addr) (k0 k1 k2 k3 k5 : Option Value) (nw : String) : Obj :=
  excClassObj nm q C NS bs bm hdct sn sub ab col dd k0 k1 k2 k3 k5 nw
theorem chkNew {i : String} {bN : List Value} (F : ExcBaseFacts N nw i bN) (hb : bm.contains (.type N) = true) {rest : List Value} {kw : List (Str × Value)} {Q : Unit → Shared → Prop}
    (hC : h.get? C = some (clO nm q C NS bs bm hdct sn sub ab col dd k0 k1 k2 k3 k5 nw)) (hq : Q () ⟨h, g, d, t, os⟩) :
    wpAny M A (checkBuiltinCall nw ⟨.ref C :: rest, kw⟩) Q E ⟨h, g, d, t, os⟩ := by
  have hin : (Value.ref C :: bm).contains (.type N) = true := by rw [List.contains_cons, hb, Bool.or_true]
  have hs := F.noStar
  simp only [checkBuiltinCall, F.newKind, F.newSplit, F.newRow]
  repeat (first
    | refine wpAny_loadPart_at hC ?_
    | (refine wpAny_isSubtype_exc hC ?_; rw [hin])
    | refine wpAny_staticBase_exc hC ?_
    | refine wpAny_madeBy_exc hC ?_
    | simp only [bne_self_eq_false, Bool.false_eq_true, if_false]
    | wp_step)
  exact hq
end
section
variable {prog : Program} {w : World} {A : Around} {E : Value → Shared → Prop} {R : Result → Shared → Prop} {h : Heap} {g : Array GenState} {d : Drawn} {t : Nat} {os : OsState}
variable {nm q : Str} {C NS : Addr} {bs bm bmB : List Value} {hdct : Bool} {sn : List Str} {sub : List Value} {ab : Bool} {col : Option Bool} {dd : Option Addr} {k0 k1 k2 k3 k5 : Option Value} {B ini N nw : String}
theorem newRun {i : String} {bN : List Value} (F : ExcBaseFacts N nw i bN) (hB : bm.contains (.type N) = true) (hA : bm.contains (.type "AttributeError") = false) (hE : bm.contains (.type "NameError") = false)
    {rest : List Value} {kw : List (Str × Value)} (hC : h.get? C = some (clO nm q C NS bs bm hdct sn sub ab col dd k0 k1 k2 k3 k5 nw)) (hz : rest.length ≤ sizeLine)
    (hq : R (.ok (.ret (.ref (h.objs.size + 1)))) ⟨(h.push (kdv_tup rest)).push (exOb C h.objs.size none), g, d, t, os⟩) :
    codeAny (model prog w) A (.builtin nw ⟨.ref C :: rest, kw⟩) R ⟨h, g, d, t, os⟩ := by
  have he := F.ends
  have c1 : (Value.ref C :: bm).contains (.type N) = true := by rw [List.contains_cons, hB, Bool.or_true]
  have c2 : (Value.ref C :: bm).contains (.type "AttributeError") = false := by rw [List.contains_cons, hA]; rfl
  have c3 : (Value.ref C :: bm).contains (.type "NameError") = false := by rw [List.contains_cons, hE]; rfl
  refine codeAny_builtinAt F.entry ?_
  unfold Builtin.«BaseException.__new__»
  refine PySem.wpAt_bind ?_
  show PySem.wpAt _ _ _ (stack >>= _) _ _ _
  refine PySem.wpAt_bind (PySem.wpAt_stack fun p below => PySem.wpAt_of_wpAny ?_)
  wp_walk
  refine PySem.wpAt_of_wpAny ?_
  rw [F.owner]
  repeat (first
    | with_reducible refine wpAny_madeHere_exc F.canon hC ?_
    | with_reducible refine wpAny_loadPart_at hC ?_
    | (with_reducible refine wpAny_isSubtype_exc hC ?_; first | rw [c1] | rw [c2] | rw [c3])
    | wp_step)
  show R _ _
  rw [Heap.size_push]
  exact hq
theorem typeCall {i : String} {bN : List Value} (F : ExcBaseFacts N nw i bN) (hB : bm.contains (.type N) = true) (hA : bm.contains (.type "AttributeError") = false) (hE : bm.contains (.type "NameError") = false)
    {rest : List Value} {kw : List (Str × Value)} {fI : Addr} {Q : Fin → Shared → Prop} (hC : h.get? C = some (clO nm q C NS bs bm hdct sn sub ab col dd k0 k1 k2 k3 k5 nw))
    (hi : Looks (model prog w) h (typeLookup (.ref C) "__init__") (some (.ref fI))) (hb : ∀ self, Looks (model prog w) h (bindSpecial (.ref fI) self) (.ref fI, [self])) (hz : rest.length ≤ sizeLine)
    (hq : codeAny (model prog w) A (.call (.ref fI) ⟨.ref (h.objs.size + 1) :: rest, kw⟩)
      (fun r s' => match r with
        | .ok (.ret v) => v = .none ∧ Q (.done (.ret (.ref (h.objs.size + 1)))) s'
        | .ok _ => False
        | .error e => E e s')
      ⟨(h.push (kdv_tup rest)).push (exOb C h.objs.size none), g, d, t, os⟩) :
    wpAny (model prog w) A (Builtin.«type.__call__» ⟨.ref C :: rest, kw⟩) Q E ⟨h, g, d, t, os⟩ := by
  repeat (first
    | with_reducible refine wpAny_loadPart_at hC ?_
    | with_reducible refine wpAny_madeBy_exc hC ?_
    | wp_step)
  refine codeAny_call_builtin_code (Code.quiet_builtin _ F.quiet) (chkNew F hB hC ?_)
  refine newRun F hB hA hE hC hz ?_
  show wpAny _ _ _ _ _ _
  have k : ∀ b o, h.get? b = some o → ((h.push (kdv_tup rest)).push (exOb C h.objs.size none)).get? b = some o :=
    fun b o e => Heap.get?_push_of_some _ (Heap.get?_push_of_some _ e)
  have c1 := k _ _ hC
  have c2 : ((h.push (kdv_tup rest)).push (exOb C h.objs.size none)).get? (h.objs.size + 1) = some (exOb C h.objs.size none) := by heap_get
  have c3 : (Value.ref C :: bm).contains (.ref C) = true := by simp
  have i1 := hi.keeps k
  have b1 := (hb (.ref (h.objs.size + 1))).keeps k
  unfold isInstance
  repeat (first
    | with_reducible refine wpAny_loadPart_at c2 ?_
    | (with_reducible refine wpAny_isSubtype_exc c1 ?_; rw [c3])
    | wp_step)
  show wpAny _ _ (typeLookup (.ref C) _) _ _ _
  refine i1.at ?_
  refine wpAny_holding (wpAny_bind (b1.at ?_))
  refine wpAny_bind (wpAny_call (codeAny_mono hq fun r s' z => ?_))
  rcases r with e | (v | _ | _ | _) <;> first | exact z | exact z.elim | skip
  obtain ⟨rfl, z⟩ := z
  first
    | exact wpAny_pure (wpAny_pure z)
    | (wp_walk; exact z)
/-- C(..) for an error's class: __new__ lays the args and the object, then the own __init__ -/
theorem callOwn {i : String} {bN : List Value} (F : ExcBaseFacts N nw i bN) (hB : bm.contains (.type N) = true) (hA : bm.contains (.type "AttributeError") = false) (hE : bm.contains (.type "NameError") = false)
    {rest : List Value} {kw : List (Str × Value)} {fI : Addr} (hC : h.get? C = some (clO nm q C NS bs bm hdct sn sub ab col dd k0 k1 k2 k3 k5 nw))
    (hi : Looks (model prog w) h (typeLookup (.ref C) "__init__") (some (.ref fI))) (hb : ∀ self, Looks (model prog w) h (bindSpecial (.ref fI) self) (.ref fI, [self])) (hz : rest.length ≤ sizeLine)
    (hq : codeAny (model prog w) (A.under (.builtin "type.__call__" ⟨.ref C :: rest, kw⟩)) (.call (.ref fI) ⟨.ref (h.objs.size + 1) :: rest, kw⟩) (InitBack (h.objs.size + 1) R)
      ⟨(h.push (kdv_tup rest)).push (exOb C h.objs.size none), g, d, t, os⟩) :
    codeAny (model prog w) A (.call (.ref C) ⟨rest, kw⟩) R ⟨h, g, d, t, os⟩ := by
  have f1 := tc_lookup
  have f2 := tc_bind (.ref C)
  have hTy : (⟨h, g, d, t, os⟩ : Shared).TypeIs (.ref C) "type" := ⟨_, hC, rfl⟩
  refine codeAny_of_tree ?_
  show wpAny _ _ (callAny (.ref C) _) _ _ _
  repeat (any_goals (first
    | assumption
    | with_reducible refine wpAny_loadPart_at hC ?_
    | wp_step))
  refine ⟨rfl, ?_⟩
  refine codeAny_call_builtin_at (Code.quiet_builtin _ (by decide +kernel)) entry_typeCall (wpAny_check_type_call_sub hC (typeCall F hB hA hE hC hi hb hz ?_))
  refine codeAny_mono hq fun r s' z => ?_
  rcases r with e | (v | _ | _ | _) <;> exact z
end
end Xr
set_option maxHeartbeats 4000000
namespace Xr
open PySem PySem.W PySem.Calls PyProof.Rows PySem.Spec
section
open Builtin Builtin.ObjectAttr
variable {prog : Program} {w : World} {A : Around} {E : Value → Shared → Prop} {R : Result → Shared → Prop} {hp : Heap} {g : Array GenState} {d : Drawn} {t : Nat} {os : OsState}
/-- the way of object.__setattr__ on an error, to its own dict -/
theorem saWay {bmB : List Value} {K : Frag} {name : Str} {tk : Tok} {v : Value} {x C : Addr} {ox : Obj} {od : Option Obj} {cd : ClassData}
    (X : K.In hp) (I : InstAt hp x ox C od) (hcd : clsIn K C = some cd) (hm : excTail bmB cd.mro = true) (ho : bmB.contains (.type "object") = true) (hp0 : ∀ self : Value, refuseLoop self "__setattr__" bmB = pure ())
    (ha : findIn K (.ref C) name = some none)
    (hq : wpAny (model prog w) A.in1 (storeInOwnDict (.ref x) (.ref C) (.str name tk) name v false)
      (fun fin s' => match fin with
        | .done f => R (.ok f) s'
        | .again c' => c'.quiet = true ∧ codeAny (model prog w) A c' R s') (fun e s' => R (.error e) s') ⟨hp, g, d, t, os⟩) :
    codeAny (model prog w) A (.call (.builtin "object.__setattr__") ⟨[.ref x, .str name tk, v], []⟩) R ⟨hp, g, d, t, os⟩ := by
  have SF := F.store_object
  have hob : cd.mro.contains (.type "object") = true := (excTail_contains "object" _ hm).trans ho
  have hne : cd.mro.isEmpty = false := by
    cases q : cd.mro with
    | nil =>
      rw [q] at hob
      cases hob
    | cons a r => rfl
  have sub : Looks (model prog w) hp (isInstance (.ref x) (.type "object")) true :=
    I.type.andThen (looks_mroIn X (by unfold mroIn; rw [hcd, Option.bind_some, if_neg (by rw [hne]; decide), hob]))
  refine codeAny_call_builtin SF.slot.plain SF.entry (@check_slot (model prog w) _ _ ⟨hp, g, d, t, os⟩ "object.__setattr__" "object" "__setattr__" (.ref x)
    [.str name tk, v] [] _ SF.kind SF.split sub (SF.args (.ref x) (.str name tk) v) ?_)
  have hmr : Looks (model prog w) hp (mroOf (.ref C)) cd.mro := (looks_clsIn X hcd).andThen .now
  have L3 : Looks (model prog w) hp (storeTaker? none) none := .now
  rw [osa_eq, refuse_eq]
  refine wpAny_bind (wpAny_bind (I.type.at (wpAny_bind (hmr.at ?_))))
  rw [excTail_pass _ (hp0 _) _ hm]
  refine wpAny_pure (wpAny_bind (I.type.at ?_))
  exact wpAny_bind ((looks_findIn X ha).at (wpAny_bind (L3.at hq)))
/-- e.f = v, the first one: the dict is laid -/
theorem saNew {bmB : List Value} {K : Frag} {name : Str} {tk : Tok} {v : Value} {x C : Addr} {fv : Array Value} {cd : ClassData}
    (X : K.In hp) (hx : hp.get? x = some { cls := .ref C, data := .fields fv }) (hcd : clsIn K C = some cd) (hm : excTail bmB cd.mro = true) (ho : bmB.contains (.type "object") = true)
    (hp0 : ∀ self : Value, refuseLoop self "__setattr__" bmB = pure ()) (hh : cd.hasDict = true) (ha : findIn K (.ref C) name = some none)
    (hq : ∀ h' tk' dx, (∀ b o, b ≠ x → hp.get? b = some o → h'.get? b = some o) → hp.objs.size ≤ dx → dx ≠ x → h'.get? x = some { cls := .ref C, dict := some dx, data := .fields fv } →
      h'.Ns1 dx (fun y => if y = name then some v else none) → R (.ok (.ret .none)) ⟨h', g, d, tk', os⟩) :
    codeAny (model prog w) A (.call (.builtin "object.__setattr__") ⟨[.ref x, .str name tk, v], []⟩) R ⟨hp, g, d, t, os⟩ := by
  have I : InstAt hp x { cls := .ref C, data := .fields fv } C none := ⟨hx, rfl, rfl, trivial⟩
  have hxs : x ≠ hp.objs.size := Nat.ne_of_lt (Heap.lt_size hx)
  refine saWay X I hcd hm ho hp0 ha ?_
  have hcls : Looks (model prog w) hp (classData C) cd := looks_clsIn X hcd
  obtain ⟨nm, bs, mro, ns, qn, hd, sn, sb, ab, col, del⟩ := cd
  dsimp only at hh
  subst hh
  unfold storeInOwnDict ownDictForStores
  repeat (first
    | with_reducible refine HandSPX.store_in_new ?_ ?_
    | with_reducible refine wpAny_loadPart_at hx ?_
    | with_reducible refine hcls.at ?_
    | wp_step)
  · exact ⟨_, #[], _, (Heap.get?_update_ne _ _ _ _ hxs.symm).trans (Heap.get?_push_at rfl rfl), rfl, fun e he => absurd he (by simp), fun _ => rfl⟩
  · intro h' tk' hn' hs
    have h1 : (hp.push { cls := .type "dict", data := .dict #[] }).get? x = some { cls := .ref C, data := .fields fv } := Heap.get?_push_of_some _ hx
    refine hq h' tk' hp.objs.size (fun b o hb ho => ?_) (Nat.le_refl _) hxs.symm ?_ hn'
    · exact (hs.2 b (Nat.ne_of_lt (Heap.lt_size ho))).trans
        ((Heap.get?_update_ne _ _ _ _ hb).trans (Heap.get?_push_of_some _ ho))
    · exact (hs.2 x hxs).trans (Heap.get?_update_self _ h1 rfl)
/-- e.f = v, a further one -/
theorem saOld {bmB : List Value} {K : Frag} {name : Str} {tk : Tok} {v : Value} {x C dx : Addr} {fv : Array Value} {cd : ClassData} {m0 : Str → Option Value} {nl : List Str}
    (X : K.In hp) (hx : hp.get? x = some { cls := .ref C, dict := some dx, data := .fields fv }) (hns : hp.Ns1 dx m0) (hw : Within m0 nl) (hz : nl.length ≤ 1000)
    (hcd : clsIn K C = some cd) (hm : excTail bmB cd.mro = true) (ho : bmB.contains (.type "object") = true)
    (hp0 : ∀ self : Value, refuseLoop self "__setattr__" bmB = pure ()) (hh : cd.hasDict = true) (ha : findIn K (.ref C) name = some none)
    (hq : ∀ h' tk', (∀ b o, b ≠ dx → hp.get? b = some o → h'.get? b = some o) → h'.Ns1 dx (fun y => if y = name then some v else m0 y) → R (.ok (.ret .none)) ⟨h', g, d, tk', os⟩) :
    codeAny (model prog w) A (.call (.builtin "object.__setattr__") ⟨[.ref x, .str name tk, v], []⟩) R ⟨hp, g, d, t, os⟩ := by
  obtain ⟨oD, esD, epD, hoD, hdD, _⟩ := hns.count hw
  have I : InstAt hp x { cls := .ref C, dict := some dx, data := .fields fv } C (some oD) := ⟨hx, rfl, rfl, hoD⟩
  refine saWay X I hcd hm ho hp0 ha ?_
  have hcls : Looks (model prog w) hp (classData C) cd := looks_clsIn X hcd
  obtain ⟨nm, bs, mro, ns, qn, hd, sn, sb, ab, col, del⟩ := cd
  dsimp only at hh
  subst hh
  unfold storeInOwnDict ownDictForStores
  repeat (first
    | with_reducible refine OEX.store_in_old hns hw hz ?_
    | with_reducible refine wpAny_loadPart_at hx ?_
    | with_reducible refine hcls.at ?_
    | wp_step)
  intro h' tk' hn' hs
  exact hq h' tk' (fun b o hb ho => (hs.2 b hb).trans ho) hn'
end
section
variable {M : Model} {A : Around} {E : Value → Shared → Prop} {h : Heap} {g : Array GenState} {d : Drawn} {t : Nat} {os : OsState}
variable {nm q : Str} {C NS : Addr} {bs bm bmB : List Value} {hdct : Bool} {sn : List Str} {sub : List Value} {ab : Bool} {col : Option Bool} {dd : Option Addr} {k0 k1 k2 k3 k5 : Option Value} {B ini N nw : String}
theorem chkBound (T : BaseF B ini N nw bmB) {e : Addr} {oe : Obj} {rest : List Value} {Q : Unit → Shared → Prop}
    (hC : h.get? C = some (clO nm q C NS bs bm hdct sn sub ab col dd k0 k1 k2 k3 k5 nw)) (he : h.get? e = some oe) (hcls : oe.cls = .ref C) (hq : Q () ⟨h, g, d, t, os⟩) :
    wpAny M A (checkBoundCall ini ⟨.ref e :: rest, []⟩) Q E ⟨h, g, d, t, os⟩ := by
  have hshort := T.ns
  simp only [checkBoundCall, T.kind, T.row]
  repeat (first
    | (with_reducible refine wpAny_loadPart_at he ?_; rw [hcls])
    | with_reducible refine wpAny_loadPart_at hC ?_
    | wp_step)
  refine wpAny_onRaise ?_
  rw [show ∀ (a b : String) (n : Nat), Bind.check ⟨.positional, "*", B, .self, [⟨"args", .varPos, false⟩]⟩ a b n
    (List.map (fun x => x.fst) ({ pos := Value.ref e :: rest } : Args).kw) = pure () from fun a b n => check_star_args _ _ _ _ _ _]
  exact wpAny_pure hq
end
section
variable {prog : Program} {w : World} {A : Around} {E : Value → Shared → Prop} {h : Heap} {g : Array GenState} {d : Drawn} {t : Nat} {os : OsState}
variable {nm q : Str} {C NS : Addr} {bs bm bmB : List Value} {hdct : Bool} {sn : List Str} {sub : List Value} {ab : Bool} {col : Option Bool} {dd : Option Addr} {k0 k1 k2 k3 k5 : Option Value} {B ini N nw : String}
/-- the bound __init__ of the base, called -/
theorem callBound (T : BaseF B ini N nw bmB) {u e t0 : Addr} {dx : Option Addr} {rest : List Value} {Q : Value → Shared → Prop}
    (hC : h.get? C = some (clO nm q C NS bs bm hdct sn sub ab col dd k0 k1 k2 k3 k5 nw)) (he : h.get? e = some (exOb C t0 dx)) (hu : h.get? u = some (kxs_mw ini e)) (hz : rest.length ≤ sizeLine)
    (hq : ∀ h' t1, (∀ b o, b ≠ e → h.get? b = some o → h'.get? b = some o) → h'.get? e = some (exOb C t1 dx) → Q .none ⟨h', g, d, t, os⟩) :
    wpAny (model prog w) A (call (.ref u) rest) Q E ⟨h, g, d, t, os⟩ := by
  refine wpAny_call (codeAny_of_tree ?_)
  show wpAny _ A.in1 (callAny (.ref u) ⟨rest, []⟩) _ _ _
  simp only [callAny]
  refine wpAny_bind (wpAny_load hu ?_)
  have z1 : (Value.type "method-wrapper" == Value.type "method" || Value.type "method-wrapper" == Value.type "builtin_function_or_method" || Value.type "method-wrapper" == Value.type "method-wrapper") = true := by decide
  simp only [kxs_mw, z1, if_true]
  refine KFB.if_so (by decide) ?_
  refine wpAny_bind (chkBound T hC he rfl ?_)
  refine wpAny_bind (wpAny_pure (wpAny_pure ?_))
  refine ⟨plainId_quiet T.plain _, codeAny_builtin T.entry ?_⟩
  exact exc_init_tree (cls := .ref C) (t0 := t0) (dv := dx) (c2 := .none) (c3 := .none) (b4 := .bool false) he hz fun h' k1 k2 _ => hq h' _ k1 k2
end
end Xr
set_option maxHeartbeats 4000000
namespace Xr
open PySem PySem.W PySem.Calls PyProof.Rows PySem.Spec
abbrev supCall (p0 p1 p2 p4 : Pos) (es : List Expr) : Expr := .Call (.Attribute (.Call (.Name "super" p0) [] [] p1) "__init__" p2) es [] p4
abbrev selfSt (f : Str) (p6 p7 p8 p9 : Pos) : Stmt := .Assign [.Attribute (.Name "self" p6) f p7] (.Name f p8) p9
/-- how super().__init__(es) is evaluated -/
def SupEv (p0 p1 p2 p4 : Pos) (es : List Expr) : Prop := ∀ env : Env, ∃ pl : Sem Bool, eval (supCall p0 p1 p2 p4 es) env = (do
  let ov ← attributeBase (.Call (.Name "super" p0) [] [] p1) "__init__" env (eval (.Call (.Name "super" p0) [] [] p1) env)
  standAt p2.atName
  let (f, first) ← holding [ov] (getMethod ov "__init__" pl)
  callWith p4 f first (backTo p4 (starEach es env)) [])
/-- the text of an error's __init__ -/
def InitBody (body : List Stmt) (fs : List Str) : Prop :=
  (∃ f p0 p1 p2 p3 p4 p5 p6 p7 p8 p9, fs = [f] ∧ SupEv p0 p1 p2 p4 [.Name f p3] ∧ body = [.Expr (supCall p0 p1 p2 p4 [.Name f p3]) p5, selfSt f p6 p7 p8 p9]) ∨
  ∃ f k p0 p1 p2 p3 p4 p5 p6 p7 p8 p9 q3 q6 q7 q8 q9, fs = [f, k] ∧ SupEv p0 p1 p2 p4 [.Name f p3, .Name k q3] ∧ body = [.Expr (supCall p0 p1 p2 p4 [.Name f p3, .Name k q3]) p5, selfSt f p6 p7 p8 p9, selfSt k q6 q7 q8 q9]
structure InitT (args : Arguments) (body : List Stmt) (sc : Scope) (fs : List Str) : Prop where
  body : InitBody body fs
  kind : sc.kind = .function
  co : sc.isCoroutine = false
  gen : sc.isGenerator = false
  cell : ∀ x ∈ sc.names, x.2 ≠ .cell
  sup : sc.names.lookup ("super" : Str) = some .globalImplicit
  cls : sc.names.lookup ("__class__" : Str) = some .free
  loc : ∀ f ∈ ("self" : Str) :: fs, sc.names.lookup f = some .local
  par : ∃ ar, (args.posonlyargs ++ args.args).head? = some ar ∧ ar.arg = "self"
  nd : (("self" : Str) :: fs).Nodup
  nde : ∀ f ∈ ("self" : Str) :: fs, (f == ("__debug__" : Str)) = false
structure ErrC (P : Program) (K : Frag) (C fI : Addr) (fd : FuncData) (fs : List Str) : Prop where
  ex : ∃ B ini N nw bmB, BaseF B ini N nw bmB ∧ excInitIn K C bmB nw = true ∧ ks_superIn K C C "__init__" = some (some (.builtin ini)) ∧ subIn K (.ref C) (.type B) = some true
  dct : (clsIn K C).map (·.hasDict) = some true
  sa : findIn K (.ref C) "__setattr__" = some (some (.builtin "object.__setattr__"))
  iC : findIn K (.ref C) "__init__" = some (some (.ref fI))
  tI : typeIn K (.ref fI) = some (.type "function")
  fn : ∃ q params body scope kV doc pm an cda ct cc oc od osl, fd = ksFn "__init__" q params body scope .none kV doc pm an (.ref cda) ct cc ∧ K.lookup fI = some ⟨oc, od, .func fd, osl⟩ ∧ InitT params body scope fs ∧ codeIn K (.ref cda) q = true ∧
    (∃ cl cld csl, K.lookup cc = some ⟨cl, cld, .cell (some (.ref C)), csl⟩) ∧ ∃ ccl cdd vs ccs tf, K.lookup cda = some ⟨ccl, cdd, .fields vs, ccs⟩ ∧ vs[2]? = some (.str P.main.file tf)
  opq : nsIn K cStatics "thirdparty.any" = some none
  sup : nsIn K mainGlobals "super" = some none
  top : (P.main.scope.names.lookup ("super" : Str)).isSome = false
  no : ∀ f ∈ fs, findIn K (.ref C) f = some none
  exc : subIn K (.ref C) (.type "BaseException") = some true
  typ : typeIn K (.ref C) = some (.type "type")
  keep : keepIn K (.ref C) = true

section
variable {prog : Program} {w : World} {A : Around} {E : Value → Shared → Prop} {K : Frag} {mg : Str → Option Value} {base : Heap} {C fI cda cc : Addr}
theorem bootSuper : bootBuiltins "super" = some (.type "super") := by decide +kernel
/-- super().__init__ in an error's __init__: the receiver's way -/
theorem supBase {s : Shared} {body body' : List Stmt} {name q q' : Str} {args : Arguments} {sc : Scope} {L e t0 : Addr} {m : Str → Option Value} {oc ccl cl kV doc pm ct : Value} {an od cdd cld : Option Addr} {osl ccs csl : Array (Option Value)} {vs : Array Value} {tf : Tok} {p0 p1 : Pos} {whole : Sem Value} {Q : Value → Shared → Prop} {dx : Option Addr}
    {fs : List Str} (T : InitT args body' sc fs) (M : L2.Mod K mg base) (st : ∀ b o, base.get? b = some o → s.heap.get? b = some o) (hns : s.heap.Ns L m) (hm : m "self" = some (.ref e)) (he : s.heap.get? e = some (exOb C t0 dx))
    (hf : K.lookup fI = some ⟨oc, od, .func (ksFn name q args body' sc .none kV doc pm an (.ref cda) ct cc), osl⟩) (hc : K.lookup cda = some ⟨ccl, cdd, .fields vs, ccs⟩) (hv : vs[2]? = some (.str prog.main.file tf))
    (hcell : K.lookup cc = some ⟨cl, cld, .cell (some (.ref C)), csl⟩) {cd : ClassData} (hC : clsIn K C = some cd) (hsub : subIn K (.ref C) (.ref C) = some true) (hsup : nsIn K mainGlobals "super" = some none) (htop : (prog.main.scope.names.lookup ("super" : Str)).isSome = false)
    (h : ∀ h', h'.get? s.heap.objs.size = some (ks_superObj C e C) → (∀ b o, s.heap.get? b = some o → h'.get? b = some o) → Q (.ref s.heap.objs.size) { s with heap := h' }) :
    PySem.wpAt (model prog w) A (.func body (ksEnv q' sc L fI (.ref cda) cc)) (attributeBase (.Call (.Name "super" p0) [] [] p1) "__init__" (ksEnv q' sc L fI (.ref cda) cc) whole) Q E s := by
  have X : K.In s.heap := M.kin.keeps st
  obtain ⟨ar, ha, hn⟩ := T.par
  obtain ⟨hh, g, d, t, os⟩ := s
  obtain ⟨oD, hD1, hD2⟩ : ∃ oD, hh.get? C = some oD ∧ oD.data = .cls cd := by
    unfold clsIn at hC
    split at hC
    · rename_i c d cd' sl ho
      cases hC
      exact ⟨_, X _ _ ho, rfl⟩
    · cases hC
  obtain ⟨mb, hb, hbv⟩ := M.blt
  refine ks_wpAt_super_base (env := ksEnv q' sc L fI (.ref cda) cc) T.sup T.cls (by decide) rfl (X _ _ hf) rfl ha rfl (X _ _ hc) rfl hv (by simp) htop ?_
  refine ks_loadName_global T.kind T.sup (loadGlobal_builtin (env := ksEnv q' sc L fI (.ref cda) cc) (M.glob.keeps st) (mg_none_of M.kin M.glob hsup) (hb.keeps st) ((hbv _ (by decide +kernel)).trans bootSuper) ⟨rfl, ?_⟩)
  refine wpAny_loadName_free T.kind T.cls rfl ⟨_, X _ _ hcell, rfl⟩ ?_
  refine wpAny_loadName_local T.kind (by rw [hn]; exact T.loc _ (List.mem_cons_self ..)) hns (by rw [hn]; exact hm) ?_
  refine ks_wpAny_isType_cls hD1 hD2 ⟨rfl, ?_⟩
  exact ks_wpAny_call_super hD1 hD2 he rfl (fun c z => by cases z) (looks_subIn X hsub) fun h' z k => h h' z k
/-- the run of super().__init__(us) behind its receiver -/
theorem supCallRun {s : Shared} {nm q : Str} {NS e so t0 : Addr} {bs bm bmB : List Value} {hdct : Bool} {sn : List Str} {sub : List Value} {ab : Bool} {col : Option Bool} {dd : Option Addr} {k0 k1 k2 k3 k5 : Option Value} {B ini N nw : String}
    {env : Env} {pos : Pos} {e1 : Expr} {es : List Expr} {us : List Value} {pl : Sem Bool} {Q : Value → Shared → Prop} (T : BaseF B ini N nw bmB) (X : K.In s.heap) (hs : s.heap.get? so = some (ks_superObj C e C)) (he : s.heap.get? e = some (exOb C t0 none))
    (hC : s.heap.get? C = some (clO nm q C NS bs bm hdct sn sub ab col dd k0 k1 k2 k3 k5 nw)) (hne : e ≠ C) (hsup : ks_superIn K C C "__init__" = some (some (.builtin ini))) (hB : subIn K (.ref C) (.type B) = some true) (hop : nsIn K cStatics "thirdparty.any" = some none)
    (hz : us.length ≤ sizeLine)
    (hev : ∀ (h' : Heap) (tk : Nat) (Q' : List Value → Shared → Prop), (∀ b o, s.heap.get? b = some o → h'.get? b = some o) → (∀ tk', Q' us { s with heap := h', toks := tk' }) → wpAny (model prog w) A (spliced (backTo pos (starEach (e1 :: es) env))) Q' E { s with heap := h', toks := tk })
    (hq : ∀ h' t1 tk, (∀ b o, b ≠ e → s.heap.get? b = some o → h'.get? b = some o) → h'.get? e = some (exOb C t1 none) → Q .none { s with heap := h', toks := tk })
    (hst : starEach (e1 :: es) env = (false, eval e1 env) :: starEach es env := by rfl) (hpl : (backTo pos (starEach es env)).any (·.1) = false := by rfl) :
    wpAny (model prog w) A (getMethod (.ref so) "__init__" pl) (fun fx s2 => wpAny (model prog w) A (callWith pos fx.1 fx.2 (backTo pos (starEach (e1 :: es) env)) []) Q E s2) E s := by
  have hI : Looks (model prog w) s.heap (isInstance (.ref e) (.type B)) true := (show InstAt s.heap e (exOb C t0 none) C none from ⟨he, rfl, rfl, trivial⟩).type.andThen (looks_subIn X hB)
  obtain ⟨hh, g, d, t, os⟩ := s
  cases hc : clsIn K C with
  | none =>
    unfold ks_superIn at hsup
    rw [hc] at hsup
    cases hsup
  | some cd =>
    unfold ks_superIn at hsup
    rw [hc] at hsup
    refine kxs_getMethod T.k hs (looks_opaque X hop) (l₀ := cd.mro) (fun A Q E s k z => wpAny_bind ((looks_clsIn X hc) A _ E s k (wpAny_pure z))) rfl X hsup hI hne (by decide) ?_
    have k1 : ∀ b o, hh.get? b = some o → (hh.push (kxs_mw ini e)).get? b = some o := fun b o z => Heap.get?_push_of_some _ z
    have ku : (hh.push (kxs_mw ini e)).get? hh.objs.size = some (kxs_mw ini e) := Heap.get?_push_at rfl rfl
    rw [hst]
    refine kxs_callWith (i := ini) (x := e) (by show (false || (backTo pos (starEach es env)).any (·.1)) = false; rw [hpl]; rfl) ?_
    refine evalArgs_plain ?_
    have hev' := hev (hh.push (kxs_mw ini e)) (t + 1)
    rw [hst] at hev'
    refine hev' _ k1 fun tk' => ⟨ku, ?_⟩
    refine callBound T (k1 _ _ hC) (k1 _ _ he) ku hz fun h' t1 k2 z => ?_
    exact hq h' t1 tk' (fun b o hb ho => k2 b o hb (k1 b o ho)) z
end
end Xr
set_option maxHeartbeats 4000000
namespace Xr
open PySem PySem.W PySem.Calls PyProof.Rows PySem.Spec
section
variable {prog : Program} {w : World} {A : Around} {E : Value → Shared → Prop} {K : Frag} {mg : Str → Option Value} {base : Heap} {C fI cda cc : Addr}
theorem ldN {s : Shared} {q : Str} {sc : Scope} {L : Addr} {cd : Value} {x : Str} {p : Pos} {m : Str → Option Value} {v : Value} {Q : Value → Shared → Prop} (hk : sc.kind = .function) (hl : sc.names.lookup x = some .local)
    (hn : s.heap.Ns L m) (hv : m x = some v) (hd : (x == ("__debug__" : Str)) = false) (h : Q v s) : wpAny (model prog w) A (eval (.Name x p) (ksEnv q sc L fI cd cc)) Q E s :=
  wpAny_Name (wpAny_loadName_local hk hl hn hv h) hd
/-- an error whose fields are being stored -/
structure Got (base : Heap) (s0 : Heap) (C L e : Addr) (m : Str → Option Value) (h : Heap) : Prop where
  keep : ∀ b o, b ≠ e → s0.get? b = some o → h.get? b = some o
  ns : h.Ns L m
  big : s0.objs.size ≤ h.objs.size
theorem clsOf {C : Addr} {bmB : List Value} {nw : String} (h : excInitIn K C bmB nw = true) (d : (clsIn K C).map (·.hasDict) = some true) : ∃ cd, clsIn K C = some cd ∧ excTail bmB cd.mro = true ∧ cd.hasDict = true := by
  unfold excInitIn at h
  unfold clsIn at d ⊢
  split at h
  · rename_i dd cd sl ho
    split at h
    · rename_i C' bm k0 k1 k2 k3 n k5 hm hs
      simp only [Bool.and_eq_true, beq_iff_eq, Bool.not_eq_true'] at h
      rw [ho] at d ⊢
      refine ⟨cd, rfl, ?_, Option.some.inj d⟩
      rw [hm]
      exact h.2
    · cases h
  · cases h
theorem setFirst {s : Shared} {fd : FuncData} {fs : List Str} {e t0 : Addr} {f : Str} {v : Value} {Q : Unit → Shared → Prop} (T : ErrC prog K C fI fd fs) (X : K.In s.heap) (he : s.heap.get? e = some (exOb C t0 none)) (hf : f ∈ fs)
    (h : ∀ h' tk dx, (∀ b o, b ≠ e → s.heap.get? b = some o → h'.get? b = some o) → s.heap.objs.size ≤ dx → dx ≠ e → h'.get? e = some (exOb C t0 (some dx)) → h'.Ns1 dx (fun y => if y = f then some v else none) → Q () { s with heap := h', toks := tk }) :
    wpAny (model prog w) A (setAttr (.ref e) f v) Q E s := by
  obtain ⟨B, ini, N, nw, bmB, b, hi, hsu, hsb⟩ := T.ex
  obtain ⟨cd, hcd, hm, hh⟩ := clsOf hi T.dct
  obtain ⟨hp, g, d, t, os⟩ := s
  refine set_plain X (ox := exOb C t0 none) (od := none) ⟨he, rfl, rfl, trivial⟩ T.sa ?_
  exact saNew X he hcd hm b.obj b.pass hh (T.no f hf) fun h' tk dx k1 k2 k3 k4 k5 => h h' tk dx k1 k2 k3 k4 k5
theorem setNext {s : Shared} {fd : FuncData} {fs nl : List Str} {e t0 dx : Addr} {f : Str} {v : Value} {m0 : Str → Option Value} {Q : Unit → Shared → Prop} (T : ErrC prog K C fI fd fs) (X : K.In s.heap) (he : s.heap.get? e = some (exOb C t0 (some dx))) (hf : f ∈ fs)
    (hn : s.heap.Ns1 dx m0) (hw : Within m0 nl) (hz : nl.length ≤ 1000)
    (h : ∀ h' tk, (∀ b o, b ≠ dx → s.heap.get? b = some o → h'.get? b = some o) → h'.Ns1 dx (fun y => if y = f then some v else m0 y) → Q () { s with heap := h', toks := tk }) :
    wpAny (model prog w) A (setAttr (.ref e) f v) Q E s := by
  obtain ⟨B, ini, N, nw, bmB, b, hi, hsu, hsb⟩ := T.ex
  obtain ⟨cd, hcd, hm, hh⟩ := clsOf hi T.dct
  obtain ⟨oD, _, _, hoD, _, _⟩ := hn.count hw
  obtain ⟨hp, g, d, t, os⟩ := s
  refine set_plain X (ox := exOb C t0 (some dx)) (od := some oD) ⟨he, rfl, rfl, hoD⟩ T.sa ?_
  exact saOld X he hn hw hz hcd hm b.obj b.pass hh (T.no f hf) fun h' tk k1 k2 => h h' tk k1 k2
theorem kLt {s : Heap} {b c : Addr} {o : Obj} (h : s.get? b = some o) (hc : s.objs.size ≤ c) : b ≠ c := Nat.ne_of_lt (Nat.lt_of_lt_of_le (Heap.lt_size h) hc)
/-- an error's __init__ runs: its fields are told -/
theorem initRun {s : Shared} {R : Result → Shared → Prop} {fd : FuncData} {fs : List Str} {e t0 : Addr} {args : Args} {us : List Value} (T : ErrC prog K C fI fd fs) (M : L2.Mod K mg base) (st : ∀ b o, base.get? b = some o → s.heap.get? b = some o) (nb : base.get? e = none)
    (he : s.heap.get? e = some (exOb C t0 none)) (hroom : A.depth < recursionLimit) (hl : us.length = fs.length) (hb : BindsTo s fd args ((("self" : Str), Value.ref e) :: fs.zip us))
    (hR : ∀ h' tk dx t1 mA, (∀ b o, b ≠ e → s.heap.get? b = some o → h'.get? b = some o) → s.heap.objs.size ≤ dx → dx ≠ e → h'.get? e = some (exOb C t1 (some dx)) → h'.Ns1 dx mA → (∀ y, mA y = (fs.zip us).lookup y) → R (.ok (.ret .none)) { s with heap := h', toks := tk }) :
    codeAny (model prog w) A (.call (.ref fI) args) R s := by
  obtain ⟨q, params, body, scope, kV, doc, pm, an, cda, ct, cc, oc, od, osl, rfl, lk, I, hcode, ⟨cl, cld, csl, hcell⟩, ccl, cdd, vs, ccs, tf, hcda, hvs⟩ := T.fn
  obtain ⟨B, ini, N, nw, bmB, b, hi, hsu, hsb⟩ := T.ex
  obtain ⟨cd, hcd, hm, hh⟩ := clsOf hi T.dct
  have hsub : subIn K (.ref C) (.ref C) = some true := by
    unfold subIn
    show mroIn K C (.ref C) = some true
    unfold mroIn
    rw [hcd, Option.bind_some]
    unfold excInitIn at hi
    unfold clsIn at hcd
    split at hi
    · rename_i dd cd2 sl ho
      rw [ho] at hcd
      cases hcd
      split at hi
      · rename_i C' bm k0 k1 k2 k3 n k5 hm2 hs2
        simp only [Bool.and_eq_true, beq_iff_eq] at hi
        rw [hm2, hi.1.1.1]
        simp
      · cases hi
    · cases hi
  have X0 : K.In s.heap := M.kin.keeps st
  have neC : e ≠ C := fun z => by
    have z1 := he
    rw [z] at z1
    obtain ⟨oc2, hoc2⟩ : ∃ o, K.lookup C = some o := by
      unfold clsIn at hcd
      split at hcd
      · rename_i c d cd' sl ho
        exact ⟨_, ho⟩
      · cases hcd
    have z2 := M.kin _ _ hoc2
    rw [← z, nb] at z2
    cases z2
  have hloc : ∀ y ∈ (("self" : Str), Value.ref e) :: fs.zip us, scope.names.lookup y.1 = some .local := fun y hy => by
    rcases List.mem_cons.mp hy with rfl | hy
    · exact I.loc _ (List.mem_cons_self ..)
    · exact I.loc _ (List.mem_cons_of_mem _ (List.of_mem_zip (show (y.1, y.2) ∈ fs.zip us from hy)).1)
  refine ks_codeAny_call_defAt (fd := ksFn "__init__" q params body scope .none kV doc pm an (.ref cda) ct cc) (body := body) (binds := (("self" : Str), Value.ref e) :: fs.zip us)
    hroom (X0 _ _ lk) rfl (M.nolimit.keeps st) (codeRec_of X0 hcode) rfl hb I.cell hloc (fun h0 hns k0 => ?_) I.co I.gen I.kind
  show PySem.wpAt _ _ (.func body (ksEnv q scope s.heap.objs.size fI (.ref cda) cc)) (execs body (ksEnv q scope s.heap.objs.size fI (.ref cda) cc)) _ _ _
  have Ll : ∀ {b : Addr} {o : Obj}, s.heap.get? b = some o → b ≠ s.heap.objs.size := fun z => kLt z (Nat.le_refl _)
  have eL : s.heap.objs.size ≠ e := (Ll he).symm
  have big0 : s.heap.objs.size ≤ h0.objs.size := Nat.le_of_lt hns.lt
  have hself : ∀ (l : List (Str × Value)), (∀ y ∈ l, y.1 ≠ ("self" : Str)) → (((("self" : Str), Value.ref e) :: l).reverse.lookup ("self" : Str)) = some (Value.ref e) := fun l hl => by
    rw [List.reverse_cons, List.lookup_append]
    have z : l.reverse.lookup ("self" : Str) = none := by
      rw [List.lookup_eq_none_iff]
      intro y hy
      have := hl y (List.mem_reverse.mp hy)
      simpa [beq_eq_false_iff_ne] using fun z => this z.symm
    rw [z]
    simp [List.lookup]
  have base0 : ∀ (h : Heap), (∀ b o, b ≠ e → h0.get? b = some o → h.get? b = some o) → ∀ b o, base.get? b = some o → h.get? b = some o := fun h k b o z =>
    k b o (fun y => by rw [y, nb] at z; cases z) (k0 b o (st b o z))
  rcases I.body with ⟨f, p0, p1, p2, p3, p4, p5, p6, p7, p8, p9, rfl, ev, rfl⟩ | ⟨f, k, p0, p1, p2, p3, p4, p5, p6, p7, p8, p9, q3, q6, q7, q8, q9, rfl, ev, rfl⟩
  · obtain ⟨u, rfl⟩ : ∃ u, us = [u] := match us, hl with | [u], _ => ⟨u, rfl⟩
    have nsf : f ≠ ("self" : Str) := fun z => (List.nodup_cons.mp I.nd).1 (by rw [z]; exact List.mem_cons_self ..)
    have m1 : ((("self" : Str), Value.ref e) :: List.zip [f] [u]).reverse.lookup ("self" : Str) = some (Value.ref e) := hself _ fun y hy => by
      rcases List.mem_cons.mp hy with rfl | hy
      · exact nsf
      · cases hy
    have m2 : ((("self" : Str), Value.ref e) :: List.zip [f] [u]).reverse.lookup f = some u := by simp [List.lookup]
    have lf := I.loc f (List.mem_cons_of_mem _ (List.mem_cons_self ..))
    have ls := I.loc _ (List.mem_cons_self (a := ("self" : Str)) (l := [f]))
    have df := I.nde f (List.mem_cons_of_mem _ (List.mem_cons_self ..))
    have ds := I.nde _ (List.mem_cons_self (a := ("self" : Str)) (l := [f]))
    have hint : interactive (ksEnv q scope s.heap.objs.size fI (.ref cda) cc) = false := by
      unfold interactive
      simp [I.kind]
    obtain ⟨pl, hpl⟩ := ev (ksEnv q scope s.heap.objs.size fI (.ref cda) cc)
    refine ks_wpAt_execs_cons (ks_wpAt_Expr_any (hi := hint) (ks_wpAt_MethodCall (he := hpl) (supBase I M (base0 h0 fun b o _ z => z) hns m1 (k0 _ _ he) lk hcda hvs hcell hcd hsub T.sup T.top (fun h1 hs1 k1 => ?_))))
    have X1 : K.In h1 := M.kin.keeps (base0 h1 fun b o _ z => k1 b o z)
    obtain ⟨nm, NS, qn, bs, bm, hdct, sn, sub, ab, col, dd, c0, c1, c2, c3, c5, hC, hT⟩ := excInit_of X1 hi
    refine supCallRun (us := [u]) b X1 hs1 (k1 _ _ (k0 _ _ he)) hC neC hsu hsb T.opq (by show 1 ≤ sizeLine; decide) (fun h2 tk Q' k2 z => ?_) (fun h2 t1 tk k2 z => ?_)
    · exact spliced_more (ldN I.kind lf (hns.at fun o y => k2 _ _ (k1 _ _ y)) m2 df (spliced_none (z _)))
    have kk : ∀ b o, b ≠ e → h0.get? b = some o → h2.get? b = some o := fun b o hb y => k2 b o hb (k1 b o y)
    refine PySem.wpAt_of_wpAny (wpAny_execs_cons (plainObj_wpAny_Assign_Attribute (ldN I.kind lf (hns.at fun o y => kk _ _ eL y) m2 df (ldN I.kind ls (hns.at fun o y => kk _ _ eL y) m1 ds ?_)) (by rfl)))
    refine setFirst T (M.kin.keeps (base0 h2 kk)) z (List.mem_cons_self ..) fun h3 tk3 dx k3 g1 g2 g3 g4 => ?_
    refine wpAny_execs_nil ?_
    have bz : s.heap.objs.size ≤ h2.objs.size := Nat.le_of_lt ((hns.at fun o y => kk _ _ eL y).lt)
    refine hR h3 _ dx t1 _ (fun b o hb y => k3 b o hb (kk b o hb (k0 b o y))) (Nat.le_trans bz g1) g2 g3 g4 fun y => ?_
    by_cases hy : y = f
    · rw [if_pos hy, hy]
      simp [List.lookup]
    · rw [if_neg hy]
      have z2 : (y == f) = false := beq_eq_false_iff_ne.mpr hy
      simp [List.lookup, z2]
  · obtain ⟨u, v, rfl⟩ : ∃ u v, us = [u, v] := match us, hl with | [u, v], _ => ⟨u, v, rfl⟩
    have nd := I.nd
    simp only [List.nodup_cons, List.mem_cons, not_or, List.not_mem_nil, not_false_eq_true, and_true] at nd
    obtain ⟨⟨ns1, ns2⟩, n12, _⟩ := nd
    have m1 : ((("self" : Str), Value.ref e) :: List.zip [f, k] [u, v]).reverse.lookup ("self" : Str) = some (Value.ref e) := hself _ fun y hy => by
      rcases List.mem_cons.mp hy with rfl | hy
      · exact fun z => ns1 z.symm
      · rcases List.mem_cons.mp hy with rfl | hy
        · exact fun z => ns2 z.symm
        · cases hy
    have fk : (f == k) = false := beq_eq_false_iff_ne.mpr n12
    have m2 : ((("self" : Str), Value.ref e) :: List.zip [f, k] [u, v]).reverse.lookup f = some u := by simp [List.lookup, fk]
    have m3 : ((("self" : Str), Value.ref e) :: List.zip [f, k] [u, v]).reverse.lookup k = some v := by simp [List.lookup]
    have hfm : f ∈ [f, k] := List.mem_cons_self ..
    have hkm : k ∈ [f, k] := List.mem_cons_of_mem _ (List.mem_cons_self ..)
    have lf := I.loc f (List.mem_cons_of_mem _ hfm)
    have lk2 := I.loc k (List.mem_cons_of_mem _ hkm)
    have ls := I.loc _ (List.mem_cons_self (a := ("self" : Str)) (l := [f, k]))
    have df := I.nde f (List.mem_cons_of_mem _ hfm)
    have dk := I.nde k (List.mem_cons_of_mem _ hkm)
    have ds := I.nde _ (List.mem_cons_self (a := ("self" : Str)) (l := [f, k]))
    have hint : interactive (ksEnv q scope s.heap.objs.size fI (.ref cda) cc) = false := by
      unfold interactive
      simp [I.kind]
    obtain ⟨pl, hpl⟩ := ev (ksEnv q scope s.heap.objs.size fI (.ref cda) cc)
    refine ks_wpAt_execs_cons (ks_wpAt_Expr_any (hi := hint) (ks_wpAt_MethodCall (he := hpl) (supBase I M (base0 h0 fun b o _ z => z) hns m1 (k0 _ _ he) lk hcda hvs hcell hcd hsub T.sup T.top (fun h1 hs1 k1 => ?_))))
    have X1 : K.In h1 := M.kin.keeps (base0 h1 fun b o _ z => k1 b o z)
    obtain ⟨nm, NS, qn, bs, bm, hdct, sn, sub, ab, col, dd, c0, c1, c2, c3, c5, hC, hT⟩ := excInit_of X1 hi
    refine supCallRun (us := [u, v]) b X1 hs1 (k1 _ _ (k0 _ _ he)) hC neC hsu hsb T.opq (by show 2 ≤ sizeLine; decide) (fun h2 tk Q' k2 z => ?_) (fun h2 t1 tk k2 z => ?_)
    · have n2 := hns.at (h' := h2) fun o y => k2 _ _ (k1 _ _ y)
      exact spliced_more (ldN I.kind lf n2 m2 df (spliced_more (ldN I.kind lk2 n2 m3 dk (spliced_none (z _)))))
    have kk : ∀ b o, b ≠ e → h0.get? b = some o → h2.get? b = some o := fun b o hb y => k2 b o hb (k1 b o y)
    have n2 := hns.at (h' := h2) fun o y => kk _ _ eL y
    refine PySem.wpAt_of_wpAny (wpAny_execs_cons (plainObj_wpAny_Assign_Attribute (ldN I.kind lf n2 m2 df (ldN I.kind ls n2 m1 ds ?_)) (by rfl)))
    refine setFirst T (M.kin.keeps (base0 h2 kk)) z hfm fun h3 tk3 dx k3 g1 g2 g3 g4 => ?_
    have bz : s.heap.objs.size ≤ h2.objs.size := Nat.le_of_lt n2.lt
    have kk3 : ∀ b o, b ≠ e → h0.get? b = some o → h3.get? b = some o := fun b o hb y => k3 b o hb (kk b o hb y)
    have n3 := hns.at (h' := h3) fun o y => kk3 _ _ eL y
    refine wpAny_execs_cons (plainObj_wpAny_Assign_Attribute (ldN I.kind lk2 n3 m3 dk (ldN I.kind ls n3 m1 ds ?_)) (by rfl))
    refine setNext (nl := [f]) T (M.kin.keeps (base0 h3 kk3)) g3 hkm g4 (fun y hy => ?_) (by show 1 ≤ 1000; decide) fun h4 tk4 k4 g5 => ?_
    · by_cases hyf : y = f
      · rw [hyf]
        exact List.mem_cons_self ..
      · rw [if_neg hyf] at hy
        exact absurd rfl hy
    refine wpAny_execs_nil ?_
    have dxn : ∀ {b : Addr} {o : Obj}, s.heap.get? b = some o → b ≠ dx := fun y => kLt y (Nat.le_trans bz g1)
    refine hR h4 _ dx t1 _ (fun b o hb y => k4 b o (dxn y) (kk3 b o hb (k0 b o y))) (Nat.le_trans bz g1) g2 (k4 _ _ (fun z => g2 z.symm) g3) g5 fun y => ?_
    by_cases hy : y = k
    · rw [if_pos hy, hy]
      have kf : (k == f) = false := beq_eq_false_iff_ne.mpr fun z => n12 z.symm
      simp [List.lookup, kf]
    · rw [if_neg hy]
      have z2 : (y == k) = false := beq_eq_false_iff_ne.mpr hy
      by_cases hyf : y = f
      · rw [if_pos hyf, hyf]
        simp [List.lookup]
      · have z3 : (y == f) = false := beq_eq_false_iff_ne.mpr hyf
        rw [if_neg hyf]
        simp [List.lookup, z2, z3]
end
end Xr
set_option maxHeartbeats 4000000
namespace Xr
open PySem PySem.Spec PyProof.Rows L2
theorem relZip : ∀ (fs : List Str) {vs : List V} {us : List Value}, Vals vs us → ∀ f, RelO ((fs.zip vs).lookup f) ((fs.zip us).lookup f)
  | [], _, _, _, _ => trivial
  | g :: r, _, _, .nil, _ => trivial
  | g :: r, _, _, .cons h t, f => by
    show RelO ((match f == g with | true => _ | false => _) : Option V) ((match f == g with | true => _ | false => _) : Option Value)
    cases f == g with
    | true => exact h
    | false => exact relZip r t f
section
variable {X : Cx} {pins : List (Addr × Obj)} {σ : L2.St} {H : Hp} {s : Shared}
/-- two new objects, an error and its dict -/
theorem layErr (I : Inv X pins σ H s) {h' : Heap} {tk : Nat} {e d C t1 : Addr} {fs : List (Str × V)} {mA : Str → Option Value} (k : ∀ b o, s.heap.get? b = some o → h'.get? b = some o) (he : s.heap.objs.size ≤ e) (hd : s.heap.objs.size ≤ d) (ne : d ≠ e)
    (oe : h'.get? e = some (exOb C t1 (some d))) (od : h'.Ns1 d mA) (r : ∀ f, RelO (fs.lookup f) (mA f)) : Inv X pins σ (upd (upd H d (exd d fs)) e (exo e C (some d))) { s with heap := h', toks := tk } := by
  have hne : H e = none := I.hok.fresh he
  have hnd : H d = none := I.hok.fresh hd
  have b1 : ∀ {b : Addr} {o : Obj}, s.heap.get? b = some o → b ≠ e := fun z => kLt z he
  have b2 : ∀ {b : Addr} {o : Obj}, s.heap.get? b = some o → b ≠ d := fun z => kLt z hd
  have un : Un X.fs [] H (upd (upd H d (exd d fs)) e (exo e C (some d))) s.heap h' := {
    keep := fun b o q _ _ _ => k b o q
    slot := fun b o q _ _ _ => ⟨o.slots, k b o q⟩
    free := fun b o q n _ => by rw [upd_ne (b1 q), upd_ne (b2 q)]; exact n
    there := fun b o q _ => ⟨o, k b o q⟩
    tups := fun b xs q => by rw [upd_ne (ne_of_none q hne), upd_ne (ne_of_none q hnd)]; exact q
    frzs := fun b o v q => by rw [upd_ne (ne_of_none q hne), upd_ne (ne_of_none q hnd)]; exact q
    tbls := fun b ps q => ⟨#[], by rw [upd_ne (ne_of_none q hne), upd_ne (ne_of_none q hnd), q]; simp⟩ }
  refine I.un (t' := tk) un fun b o q => ?_
  by_cases hb : b = e
  · subst hb
    rw [upd_same] at q
    cases q
    exact exo_ok oe
  · rw [upd_ne hb] at q
    by_cases hd2 : b = d
    · subst hd2
      rw [upd_same] at q
      cases q
      exact exd_ok od r
    · rw [upd_ne hd2] at q
      exact (I.hok b o q).stay (fun c v _ z => k c v z)
        (fun c hc => by rw [upd_ne (ne_of_none hc hne), upd_ne (ne_of_none hc hnd)]; exact hc)
        fun c xs hc => by rw [upd_ne (ne_of_none hc hne), upd_ne (ne_of_none hc hnd)]; exact hc
/-- E(..) is made: a new error with its fields -/
theorem callErr {A : Around} {E : Value → Shared → Prop} {Q : Value → Shared → Prop} {C fI : Addr} {fd : FuncData} {fs : List Str} {us ws : List Value} {vs : List V} {kw : List (Str × Value)} (T : ErrC X.prog X.K C fI fd fs) (I : Inv X pins σ H s) (hr : Room 1 A)
    (hb : ∀ (s' : Shared) (self : Value), X.K.In s'.heap → BindsTo s' fd ⟨self :: us, kw⟩ ((("self" : Str), self) :: fs.zip ws)) (rel : Vals vs ws) (hl : vs.length = fs.length) (hz : us.length ≤ 1000)
    (h : ∀ e d s', H e = none → H d = none → d ≠ e → Inv X pins σ (upd (upd H d (exd d (fs.zip vs))) e (exo e C (some d))) s' → Q (.ref e) s') :
    wpAny (model X.prog X.w) A (call (.ref C) us kw) Q E s := by
  obtain ⟨B, ini, N, nw, bmB, b, hi, hsu, hsb⟩ := T.ex
  obtain ⟨i, bN, F⟩ := b.f
  have KX := I.kIn
  obtain ⟨nm, NS, qn, bs, bm, hdct, sn, sub, ab, col, dd, c0, c1, c2, c3, c5, hC, hT⟩ := PySem.W.excInit_of KX hi
  obtain ⟨hp, g, dr, tk, os⟩ := s
  have hz2 : us.length ≤ sizeLine := by rw [sizeLine_eq]; omega
  have kk : ∀ b o, hp.get? b = some o → ((hp.push (PySem.W.kdv_tup us)).push (exOb C hp.objs.size none)).get? b = some o := fun b o e => Heap.get?_push_of_some _ (Heap.get?_push_of_some _ e)
  have hget : ((hp.push (PySem.W.kdv_tup us)).push (exOb C hp.objs.size none)).get? (hp.objs.size + 1) = some (exOb C hp.objs.size none) := by heap_get
  have nbase : X.base.get? (hp.objs.size + 1) = none := by
    cases z : X.base.get? (hp.objs.size + 1) with
    | none => rfl
    | some o => exact absurd (Heap.lt_size (I.bk _ _ z)) (by show ¬ hp.objs.size + 1 < hp.objs.size; omega)
  refine wpAny_call (callOwn F (by rw [hT]; exact b.hN) (by rw [hT]; exact b.noA) (by rw [hT]; exact b.noE) hC (PySem.W.looks_findIn KX T.iC) (fun self => PySem.W.bind_fn KX self T.tI) hz2 ?_)
  refine initRun (base := X.base) T I.mod (fun b o z => kk b o (I.bk b o z)) nbase hget (hr.make C us kw).depth (by rw [← rel.length, hl]) (hb _ _ (I.mod.kin.keeps fun b o z => kk b o (I.bk b o z))) fun h' tk' dx t1 mA k1 g1 g2 g3 g4 g5 => ?_
  have z1 : hp.objs.size ≤ hp.objs.size + 1 := Nat.le_succ _
  have z2 : hp.objs.size ≤ dx := Nat.le_trans (by rw [Heap.size_push, Heap.size_push]; omega) g1
  have J := layErr (tk := tk') (fs := fs.zip vs) I (fun b o z => k1 b o (kLt z z1) (kk b o z)) z1 z2 g2 g3 g4 fun f => by rw [g5 f]; exact relZip fs rel f
  exact ⟨rfl, h _ dx _ (I.hok.fresh z1) (I.hok.fresh z2) g2 J⟩
end
end Xr
set_option maxHeartbeats 4000000
namespace Xr
open PySem PySem.Spec PyProof.Rows L2
/-- a new error and its dict -/
def putErr (H : Hp) (e d C : Addr) (fs : List (Str × V)) : Hp := upd (upd H d (exd d fs)) e (exo e C (some d))
def tErr (C : Addr) (fs : List Str) (t : TA) : TE := fun σ H Q => t σ H fun vs H1 => vs.length = fs.length ∧ ∀ e d, H1 e = none → H1 d = none → d ≠ e → Q (.ref e) (putErr H1 e d C (fs.zip vs))
def tErrK (C : Addr) (fs : List Str) (t : TA) : TE := fun σ H Q => t σ H fun vs H1 => vs.length = fs.length ∧ ∀ e d, H1 e = none → H1 d = none → d ≠ e → Q (.ref e) (putErr H1 e d C (fs.zip vs.reverse))
/-- how the fields come to the parameters, by place and by name (the names the other way round) -/
structure ErrB (fd : FuncData) (fs : List Str) : Prop where
  p : ∀ (s : Shared) (self : Value) (us : List Value), us.length = fs.length → BindsTo s fd ⟨self :: us, []⟩ ((("self" : Str), self) :: fs.zip us)
  k : ∀ (s : Shared) (self : Value) (us : List Value), us.length = fs.length → BindsTo s fd ⟨[self], fs.reverse.zip us⟩ ((("self" : Str), self) :: fs.zip us.reverse)
theorem vals_rev : ∀ {vs : List V} {us : List Value}, Vals vs us → Vals vs.reverse us.reverse
  | _, _, .nil => .nil
  | _, _, .cons h t => by
    rw [List.reverse_cons, List.reverse_cons]
    exact (vals_rev t).append (.cons h .nil)
section
variable {X : Cx} {C fI : Addr} {fd : FuncData} {fs : List Str} {x : Str} {p pos : Pos} {e : Expr} {es : List Expr} {t : TA} {kws : List Keyword}
theorem pe_err (T : ErrC X.prog X.K C fI fd fs) (b : ErrB fd fs) (h3 : fs.length ≤ 3) (hr : Room 1 X.A) (hg : Gl X x) (hm : X.mg x = some (.ref C)) (ha : PA X (e :: es) t)
    (hdb : (x == ("__debug__" : Str)) = false := by decide) (he : starEach (e :: es) X.env = (false, eval e X.env) :: starEach es X.env := by rfl) (hpl : (backTo pos (starEach es X.env)).any (·.1) = false := by rfl) :
    PE X (.Call (.Name x p) (e :: es) [] pos) (tErr C fs t) := by
  refine ⟨fun pins s σ H Q I h => ?_⟩
  refine wpAny_Call_Name_kw (ld_glob I hg hm ?_ hdb)
  refine PySem.W.callWith_K (h₀ := X.base) I.ok.mod.kin T.keep (thn (ha.run pos pins s σ H _ I h) fun us s1 ⟨vs, H1, I1, r1, hl, q1⟩ => ⟨I1.kIn, ?_⟩) he hpl
  have hlu : us.length = fs.length := by rw [← r1.length, hl]
  exact callErr T I1 hr (fun s' self _ => b.p s' self us hlu) r1 hl (by show us.length ≤ 1000; omega) fun e d s' h1 h2 h3 J => ⟨.ref e, _, J, rfl, q1 e d h1 h2 h3⟩
theorem pe_errK (T : ErrC X.prog X.K C fI fd fs) (b : ErrB fd fs) (hr : Room 1 X.A) (hg : Gl X x) (hm : X.mg x = some (.ref C)) (hkw : PK X kws t)
    (hall : (backToKw pos (keywordEach kws X.env)).all (·.1.isSome) = true := by rfl) (hks : (backToKw pos (keywordEach kws X.env)).filterMap (·.1) = fs.reverse := by rfl) (hdb : (x == ("__debug__" : Str)) = false := by decide)
    (hpl : ((backTo pos (starEach [] X.env)).any (·.1) || (backToKw pos (keywordEach kws X.env)).any (·.1.isNone)) = false := by rfl) :
    PE X (.Call (.Name x p) [] kws pos) (tErrK C fs t) := by
  refine ⟨fun pins s σ H Q I h => ?_⟩
  refine wpAny_Call_Name_kw (ld_glob I hg hm ?_ hdb)
  refine PySem.W.callWith_KW0 (h₀ := X.base) I.ok.mod.kin T.keep hall ?_ hpl
  refine thn (hkw.run pos pins s σ H _ I h) fun ws s2 ⟨zs, H2, I2, rz, hl, q2⟩ => ⟨I2.kIn, ?_⟩
  rw [hks]
  have hlu : ws.length = fs.length := by rw [← rz.length, hl]
  exact callErr (ws := ws.reverse) T I2 hr (fun s' self _ => b.k s' self ws hlu) (vals_rev rz) (by rw [List.length_reverse]; exact hl) (by show 0 ≤ 1000; decide) fun e d s' h1 h2 h3 J => ⟨.ref e, _, J, rfl, q2 e d h1 h2 h3⟩
/-- e.f of an error that is a value -/
def tXv (K : PySem.W.Frag) (f : Str) (te : TE) : TE := fun σ H Q => te σ H fun x H1 => ∃ (a C d : Addr) (fs : List (Str × V)) (v : V), x = .ref a ∧ H1 a = some (exo a C (some d)) ∧ H1 d = some (exd d fs) ∧ XfC K C ∧ PySem.W.findIn K (.ref C) f = some none ∧ fs.lookup f = some v ∧ Q v H1
theorem pe_xv {te : TE} {n : Str} (he : PE X e te) (hb : attributeBase e n X.env (eval e X.env) = eval e X.env := by rfl) : PE X (.Attribute e n pos) (tXv X.K n te) := by
  refine ⟨fun pins s σ H Q I h => ?_⟩
  refine attr_of hb (thn (he.run pins s σ H _ I h) fun u s1 hh => ?_)
  obtain ⟨x, H1, I1, rx, a, C, d, fs, v, rfl, ha, hd, T, hno, l, q⟩ := hh
  obtain rfl : u = Value.ref a := rx
  obtain ⟨t1, ho⟩ := exo_at I1.hok ha
  obtain ⟨mA, hns, hr⟩ := exd_at I1.hok hd
  obtain ⟨od, ho2, hl⟩ := lookIn_ns hns
  obtain ⟨u, hu, ru⟩ := RelO.some_of (v := v) (o := mA n) (by rw [← l]; exact hr n)
  have J : PySem.W.InstAt s1.heap a (exOb C t1 (some d)) C (some od) := ⟨ho, rfl, rfl, ho2⟩
  exact HandSPX.exc_get I1.kIn J T.ga T.gg T.exC (PySem.W.findObj_own T.hdC hno rfl (by rw [hl, hu])) (handed_of ru) ⟨v, H1, I1.tok _, ru, q⟩
/-- what isinstance asks of an error's class -/
structure XiC (K : PySem.W.Frag) (C : Addr) : Prop where
  cl : (PySem.W.clsIn K C).isSome = true
  ga : PySem.W.findIn K (.ref C) "__getattribute__" = some (some (.builtin "BaseException.__getattribute__"))
  gg : PySem.W.findIn K (.ref C) "__getattr__" = some none
  exC : PySem.W.subIn K (.ref C) (.type "BaseException") = some true
  ca : PySem.W.findIn K (.ref C) "__class__" = some (some (.builtin "object.__class__"))
  sg : PySem.W.specialIn K (.builtin "object.__class__") "__get__" = some (some (.builtin "getset_descriptor.__get__"))
  tk : PySem.W.takesIn K (.builtin "object.__class__") = some true
  ob : PySem.W.mroIn K C (.type "object") = some true
def rIsX (K : PySem.W.Frag) : List V → Hp → VK → Prop := fun xs H Q => ∃ (a C : Addr) (d : Addr) (fs : List (Str × V)) (c : V) (cv : Value) (b : Bool), xs = [.ref a, c] ∧ H a = some (exo a C (some d)) ∧ H d = some (exd d fs) ∧ XiC K C ∧ ClsV c cv ∧ PySem.W.kitOne K (.ref C) cv = some b ∧ Q (.bl b) H
theorem call_isX : CallR X (.builtin "isinstance") (rIsX X.K) := by
  intro pins s σ H xs us Q I r h
  obtain ⟨a, C, d, fs, c, cv, b, rfl, ha, hd, T, k, e, q⟩ := h
  obtain ⟨u1, u2, rfl, r1, r2⟩ := vals2 r
  have e2 := k.eq r2
  subst e2
  cases r1
  obtain ⟨t1, ho⟩ := exo_at I.hok ha
  obtain ⟨mA, hns, hr⟩ := exd_at I.hok hd
  obtain ⟨od, ho2, hl⟩ := lookIn_ns hns
  have J : PySem.W.InstAt s.heap a (exOb C t1 (some d)) C (some od) := ⟨ho, rfl, rfl, ho2⟩
  exact PySem.W.kia_one (PySem.W.kitx_exc T.cl T.ga T.gg T.exC T.ca T.sg T.tk T.ob) I.kIn J e (fun z => nomatch z) fun tk => ⟨.bl b, H, I.tok tk, rfl, q⟩
end
end Xr
set_option maxHeartbeats 4000000
namespace Xr
open PySem PySem.Spec PyProof.Rows L2
/-- sys.modules is written: no list or tuple of ours stands there -/
def KSys (K : PySem.W.Frag) : Prop := ∃ o, K.lookup sysModules = some o ∧ o.cls = .type "dict"
def keyD : Key → PyData
  | .inl i => .int i
  | .inr x => .str x
mutual
/-- a value is data: numbers, texts, lists, tuples, dicts by numbers and texts -/
inductive Dq (K : PySem.W.Frag) (H : Hp) : V → PyData → Prop
  | non : Dq K H .non .none
  | bl (b : Bool) : Dq K H (.bl b) (.bool b)
  | int (i : Int) : Dq K H (.int i) (.int i)
  | str (x : Str) : Dq K H (.str x) (.str x)
  | lst {a : Addr} {xs : List V} {ds : List PyData} : SqL K H a xs → DqAll K H xs ds → Dq K H (.ref a) (.list ds)
  | tup {a : Addr} {xs : List V} {ds : List PyData} : SqT K H a xs → DqAll K H xs ds → Dq K H (.ref a) (.tuple ds)
  | dic {a : Addr} {kvs : List (Key × V)} {ds : List PyData} : H a = some (.dK kvs) → DqAll K H (kvs.map (·.2)) ds → Dq K H (.ref a) (.dict ((kvs.map fun q => keyD q.1).zip ds))
inductive DqAll (K : PySem.W.Frag) (H : Hp) : List V → List PyData → Prop
  | nil : DqAll K H [] []
  | cons {v : V} {vs : List V} {d : PyData} {ds : List PyData} : Dq K H v d → DqAll K H vs ds → DqAll K H (v :: vs) (d :: ds)
end
theorem DqAll.len {K : PySem.W.Frag} {H : Hp} : ∀ {vs : List V} {ds : List PyData}, DqAll K H vs ds → vs.length = ds.length
  | _, _, .nil => rfl
  | _, _, .cons _ t => congrArg Nat.succ (DqAll.len t)
section
variable {X : Cx} {pins : List (Addr × Obj)} {σ : L2.St} {H : Hp} {s : Shared}
theorem not_sys {h : Heap} {K : PySem.W.Frag} (X : K.In h) (S : KSys K) {a : Addr} {o : Obj} (ho : h.get? a = some o) (hc : o.cls ≠ .type "dict") : sysModules ≠ a := fun z => by
  obtain ⟨u, hu, hd⟩ := S
  have := X _ _ hu
  rw [z, ho] at this
  cases this
  exact hc hd
theorem readsKeys : ∀ {es : List DictEntry} {vs : List (Key × Value)} (h : Heap) {P : Program} {w : World}, Pairs (mixKind P w) es vs → ReadsAll h (es.map (·.key)) (vs.map fun q => keyD q.1) []
  | _, _, _, _, _, .nil => .nil
  | _, _, h, P, w, @Pairs.cons _ _ _ _ _ e kv es kvs hk hv t => by
    have r : Reads h e.key (keyD kv.1) [] := by
      rcases keyIs_shape hk with ⟨i, tk, e1, e2⟩ | ⟨x, tk, e1, e2⟩
      · rw [e1, e2]
        exact Reads.int i tk
      · rw [e1, e2]
        exact Reads.str x tk
    exact ReadsAll.cons r (readsKeys h t)
theorem pairs_vals : ∀ {es : List DictEntry} {vs : List (Key × Value)} {P : Program} {w : World}, Pairs (mixKind P w) es vs → es.map (·.val) = vs.map (·.2)
  | _, _, _, _, .nil => rfl
  | _, _, _, _, .cons _ hv t => by rw [List.map_cons, List.map_cons, hv, pairs_vals t]
theorem kv_vals : ∀ {kvs : List (Key × V)} {vs : List (Key × Value)}, KV kvs vs → Vals (kvs.map (·.2)) (vs.map (·.2)) ∧ kvs.map (·.1) = vs.map (·.1)
  | _, _, .nil => ⟨.nil, rfl⟩
  | _, _, .cons h t => ⟨.cons h.2 (kv_vals t).1, by rw [List.map_cons, List.map_cons, h.1, (kv_vals t).2]⟩
mutual
theorem Dq.reads (S : KSys X.K) (I : Inv X pins σ H s) : ∀ {d : PyData} {v : V} (u : Value), Dq X.K H v d → RelV v u → ∃ as, Reads s.heap u d as ∧ sysModules ∉ as
  | _, _, u, .non, r => by cases r; exact ⟨_, Reads.none, by simp⟩
  | _, _, u, .bl b, r => by cases r; exact ⟨_, Reads.bool b, by simp⟩
  | _, _, u, .int i, r => by obtain ⟨t, rfl⟩ := r; exact ⟨_, Reads.int i t, by simp⟩
  | _, _, u, .str x, r => by obtain ⟨t, rfl⟩ := r; exact ⟨_, Reads.str x t, by simp⟩
  | _, _, u, .lst hs ha, r => by
    cases r
    obtain ⟨its, rv, ⟨o, n, ho, hc, _, hd⟩, _⟩ := I.list hs
    obtain ⟨as, hr, hn⟩ := DqAll.reads S I its ha rv
    refine ⟨_, Reads.list ho hc hd hr, fun z => ?_⟩
    rcases List.mem_cons.mp z with z | z
    · exact not_sys I.kIn S ho (by rw [hc]; decide) z
    · exact hn z
  | _, _, u, .tup hs ha, r => by
    cases r
    obtain ⟨its, rv, ⟨o, ho, hc, n, hd⟩, _⟩ := I.tuple hs
    obtain ⟨as, hr, hn⟩ := DqAll.reads S I its ha rv
    exact ⟨_, Reads.tuple ho hc hd hr, hn⟩
  | _, _, u, @Dq.dic _ _ a kvs ds hk ha, r => by
    cases r
    obtain ⟨_, hs, vs, kv, o, es, ep, ho, hex, hd, _, hp, _⟩ := (show ObjOk X.prog X.w H s.heap a (.dK kvs) from I.hok a _ hk)
    obtain ⟨k1, k2⟩ := kv_vals kv
    obtain ⟨bs, hr, hn⟩ := DqAll.reads S I _ ha k1
    have e1 : (((kvs.map fun q => keyD q.1).zip ds).map (·.1)) = vs.map fun q => keyD q.1 := by
      have h1 : (kvs.map fun q => keyD q.1) = vs.map fun q => keyD q.1 := by
        have := congrArg (List.map keyD) k2
        rw [List.map_map, List.map_map] at this
        exact this
      rw [List.map_fst_zip (by rw [List.length_map, ← DqAll.len ha, List.length_map]; exact Nat.le_refl _), h1]
    have e2 : (((kvs.map fun q => keyD q.1).zip ds).map (·.2)) = ds := by
      rw [List.map_snd_zip (by rw [List.length_map, ← DqAll.len ha, List.length_map]; exact Nat.le_refl _)]
    refine ⟨_, Reads.dict (as := []) (bs := bs) ho hex.1 hd ?_ ?_, fun z => ?_⟩
    · rw [e1]
      exact readsKeys _ hp
    · rw [e2, pairs_vals hp]
      exact hr
    · rcases List.mem_append.mp z with z | z
      · rcases List.mem_cons.mp z with z | z
        · rw [← z] at hs
          simp at hs
        · cases z
      · exact hn z
theorem DqAll.reads (S : KSys X.K) (I : Inv X pins σ H s) : ∀ {ds : List PyData} {vs : List V} (us : List Value), DqAll X.K H vs ds → Vals vs us → ∃ as, ReadsAll s.heap us ds as ∧ sysModules ∉ as
  | _, _, _, .nil, .nil => ⟨_, ReadsAll.nil, by simp⟩
  | _, _, _, .cons h t, .cons r rs => by
    obtain ⟨as, h1, n1⟩ := Dq.reads S I _ h r
    obtain ⟨bs, h2, n2⟩ := DqAll.reads S I _ t rs
    exact ⟨_, ReadsAll.cons h1 h2, fun z => (List.mem_append.mp z).elim n1 n2⟩
end
/-- repr(x) of a list, a tuple, a dict -/
def rRepr (K : PySem.W.Frag) : List V → Hp → VK → Prop := fun xs H Q => ∃ (a : Addr) (d : PyData), xs = [.ref a] ∧ Dq K H (.ref a) d ∧ d.showable = true ∧ d.depth ≤ 20 ∧ d.shown.length ≤ sizeLine ∧ Q (.str d.shown) H
theorem call_repr (S : KSys X.K) (hg : X.A.guards = some []) (hu : X.A.units + 64 < cLine) : CallR X (.builtin "repr") (rRepr X.K) := by
  intro pins s σ H xs us Q I r h
  obtain ⟨a, d, rfl, hd, hs, hdep, hz, q⟩ := h
  cases r with
  | cons r0 rr =>
    cases rr
    cases (show _ = Value.ref a from r0)
    obtain ⟨as, hr, hn⟩ := Dq.reads S I _ hd rfl
    exact repr_of_reads' hr hs (fun _ => hn) hg (by omega) (fun _ _ z => z) (fun h' u tk k => ⟨.str d.shown, H, I.kept (t' := tk) k, ⟨u, rfl⟩, q⟩) hz
end
end Xr
set_option maxHeartbeats 4000000
namespace Xr
open PySem PySem.Spec PyProof.Rows L2
/-- a promise that holds where no repr is under way -/
structure FnG (P : Program) (w : World) (K : PySem.W.Frag) (mg : Str → Option Value) (base : Heap) (CX : CXT) (k : Nat) (f : Addr) (fd : FuncData) (ps : List Str) (sp : Sp) : Prop where
  len : ∀ vs H Q E, sp vs H Q E → vs.length = ps.length
  run : ∀ (A : Around) (outer : List Env) (s : Shared) (H : Hp) (args : Args) (us : List Value) (vs : List V) (Q : VK) (E : XK),
    Room k A → A.guards = some [] → Env0 P w K mg base A outer s H → BindsTo s fd args (ps.zip us) → Vals vs us → sp vs H Q E →
    codeAny (model P w) A (.call (.ref f) args) (CR CX outer P w H s Q E) s
theorem FnG.of {P : Program} {w : World} {K : PySem.W.Frag} {mg : Str → Option Value} {base : Heap} {CX : CXT} {k : Nat} {f : Addr} {fd : FuncData} {ps : List Str} {sp : Sp} (F : FnOk P w K mg base CX k f fd ps sp) : FnG P w K mg base CX k f fd ps sp :=
  ⟨F.len, fun A outer s H args us vs Q E hr _ => F.run A outer s H args us vs Q E hr⟩
section
variable {P : Program} {w : World} {K : PySem.W.Frag} {mg : Str → Option Value} {base : Heap} {CX : CXT} {k : Nat} {f : Addr} {x qual : Str} {params : Arguments} {body : List Stmt} {scope : Scope} {dvs : List V} {kws : List (Str × V)} {fd : FuncData} {N ps : List Str} {sp : Sp}
/-- a def's body keeps its promise, the guards known -/
theorem okG (F : FunD K x qual params body scope dvs kws f fd) (S : FnScope N ps scope) (len : ∀ vs H Q E, sp vs H Q E → vs.length = ps.length)
    (hbody : ∀ (cdv : Value) (A : Around) (outer : List Env) (s : Shared) (H : Hp) (vs : List V) (Q : VK) (E : XK), Room k (A.deeper (envOfC qual scope s.heap.objs.size f cdv)) → A.guards = some [] → sp vs H Q E →
      ∃ t, PSs (cxOf CX P w K mg base N qual scope f cdv A outer s H E) body t ∧ t { nx := fun _ H' => Q .non H', rt := Q } (start N vs) H) :
    FnG P w K mg base CX (k + 1) f fd ps sp := by
  obtain ⟨oc, od, dV, kV, doc, pm, an, cdv, ct, osl, rfl, lk, hcd, _, _⟩ := F.ex
  refine ⟨len, fun A outer s H args us vs Q E hr hgd e0 hb r hsp => ?_⟩
  have keep0 : ∀ b o, base.get? b = some o → s.heap.get? b = some o := fun b o z => (e0.bs b o z).1
  have KX : K.In s.heap := e0.mod.kin.keeps keep0
  have hk : ∀ y ∈ ps.zip us, scope.names.lookup y.1 = some .local ∨
      (scope.names.lookup y.1 = some .cell ∧ ((cellsFrom (s.heap.objs.size + 1) scope.names []).lookup y.1).isSome = true) := by
    rintro ⟨n, v⟩ hy
    rcases S.par n (List.of_mem_zip hy).1 with z | z
    · exact Or.inl z
    · exact Or.inr ⟨z, PySem.W.cellsFrom_some _ _ _ (Or.inl z)⟩
  refine codeAny_call_function hr.depth (KX _ _ lk) rfl S.co S.gen rfl (PySem.W.codeRec_of KX hcd) (hb _ _ _ _ ?_)
  refine wpAny_newFunctionEnv_cells S.kind hk fun env he s1 z => ?_
  subst he
  refine ⟨(e0.mod.nolimit.keeps keep0).keeps z.toInCall.keep, codeAny_func ?_⟩
  obtain ⟨t, ht, hq⟩ := hbody cdv A outer s H vs Q E (hr.deeper _) hgd hsp
  have J := inv_start (CX := CX) (E := E) S hr.hd e0 (len _ _ _ _ hsp) r z
  refine wpAny_mono (ht.run [] s1 (start N vs) H _ J hq) (fun fl s' hs => ?_) fun e s' hs => hs
  rcases fl with _ | _ | _ | u
  · obtain ⟨σ', H', J', q⟩ := hs
    exact ⟨V.non, H', J'.os, J'.bare, J'.base, J'.hok, rfl, q⟩
  · obtain ⟨_, _, _, q⟩ := hs
    exact q.elim
  · obtain ⟨_, _, _, q⟩ := hs
    exact q.elim
  · obtain ⟨v, σ', H', J', rv, q⟩ := hs
    exact ⟨v, H', J'.os, J'.bare, J'.base, J'.hok, rv, q⟩
end
section
variable {X : Cx} {CX : CXT} {k : Nat} {f : Addr} {fd : FuncData} {ps : List Str} {sp : Sp} {E : XK} {ds : List Value} {dvs : List V} {x : Str} {p pos : Pos} {e : Expr} {es : List Expr} {t : TA}
theorem run_fnG {pins : List (Addr × Obj)} {σ : L2.St} {H : Hp} {s : Shared} {Q : VK} {us : List Value} {vs : List V} (F : FnG X.prog X.w X.K X.mg X.base CX k f fd ps sp) (hr : Room k X.A) (hg : X.A.guards = some []) (hb : Binds X.K fd ps ds) (hd : Vals dvs ds) (hx : Passes CX X E)
    (I : Inv X pins σ H s) (r : Vals vs us) (h : sp (vs ++ dvs) H Q E) : wpAny (model X.prog X.w) X.A (call (.ref f) us) (EP X pins σ Q) X.xe s := by
  have r2 := r.append hd
  have hl : (us ++ ds).length = ps.length := r2.length.symm.trans (F.len _ _ _ _ h)
  refine wpAny_call (codeAny_mono (F.run X.A X.stack s H ⟨us, []⟩ (us ++ ds) (vs ++ dvs) Q E hr hg I.env0 (hb s us I.kIn hl) r2 h) fun r s' hq => ?_)
  rcases r with er | (_ | _ | _ | u)
  · exact hx pins σ H s er s' I hq
  · exact hq.elim
  · exact hq.elim
  · exact hq.elim
  · exact I.after hq
theorem pe_callG (F : FnG X.prog X.w X.K X.mg X.base CX k f fd ps sp) (hr : Room k X.A) (hgd : X.A.guards = some []) (hg : Gl X x) (hm : X.mg x = some (.ref f)) (hk : PySem.W.keepIn X.K (.ref f) = true) (hb : Binds X.K fd ps ds) (hd : Vals dvs ds) (hx : Passes CX X E)
    (ha : PA X (e :: es) t) (hdb : (x == ("__debug__" : Str)) = false := by decide) (he : starEach (e :: es) X.env = (false, eval e X.env) :: starEach es X.env := by rfl) (hpl : (backTo pos (starEach es X.env)).any (·.1) = false := by rfl) :
    PE X (.Call (.Name x p) (e :: es) [] pos) (tCall sp dvs E t) := by
  refine ⟨fun pins s σ H Q I h => wpAny_Call_Name_kw (ld_glob I hg hm ?_ hdb)⟩
  refine PySem.W.callWith_K (h₀ := X.base) I.ok.mod.kin hk (thn (ha.run pos pins s σ H _ I h) fun us s1 hh => ?_) he hpl
  obtain ⟨vs, H1, I1, r, q⟩ := hh
  exact ⟨I1.kIn, run_fnG F hr hgd hb hd hx I1 r q⟩
end
/-- the script, locked -/
def scrH (a : Addr) (o : Obj) (xs : List V) : Hp := fun b => if b = a then some (.frz o (.lst xs)) else none
theorem lawCallG {P : Program} {w : World} {K : PySem.W.Frag} {mg mb : Str → Option Value} {CX : CXT} {k : Nat} {fa a : Addr} {fd : FuncData} {x : Str} {sp : Sp} {s1 : Shared} {vs : List Value} {ns : List Int}
    (KX : K.In s1.heap) (hns : s1.heap.Ns mainGlobals mg) (hb : s1.heap.Ns builtinsNs mb) (hbb : ∀ x : Str, x ≠ "__name__" → mb x = bootBuiltins x) (hlim : s1.heap.NoLimit) (hg : s1.gens = #[])
    (ha : s1.heap.get? a = some { cls := .type "list", data := .seq vs.toArray }) (hi : IntsAre vs ns) (hl : ns.length ≤ sizeLine) (hr : Room k callerA)
    (F : ∀ base : Heap, K.In base → base.Ns mainGlobals mg → FnG P w K mg base CX k fa fd [x] sp) (hbind : ∀ (s : Shared) (u : Value), BindsTo s fd ⟨[u], []⟩ [(x, u)])
    (hsp : ∀ H : Hp, Only H → SqL K H a (ns.map V.int) → sp [.ref a] H (fun v _ => v = .bl true) fun _ _ _ => False)
    (hCX : ∀ H e s', CX [] H s1 (fun _ _ _ => False) e s' → False) :
    codeAny (model P w) callerA (.call (.ref fa) ⟨[.ref a], []⟩) (fun r s' => r = .ok (.ret (.bool true)) ∧ OldK s1.heap s'.heap ∧ s'.os = s1.os ∧ AllBare s'.gens) s1 := by
  have go : ∀ H : Hp, Only H → SqL K H a (ns.map V.int) → HOk P w H s1.heap → (∀ b, H b ≠ none → b = a) → (H a ≠ none → K.lookup a = none) →
      codeAny (model P w) callerA (.call (.ref fa) ⟨[.ref a], []⟩) (fun r s' => r = .ok (.ret (.bool true)) ∧ OldK s1.heap s'.heap ∧ s'.os = s1.os ∧ AllBare s'.gens) s1 := by
    intro H hO hS hok hA hK
    have isA : ∀ {b : Addr} {u : HO}, H b = some u → b = a := fun {b u} z => hA b (by rw [z]; exact Option.some_ne_none _)
    have dictFree : ∀ {b : Addr} {o : Obj} {es : Array DictEntry} {ep : Nat}, s1.heap.get? b = some o → o.data = .dict es ep → H b = none := by
      intro b o es ep z d
      cases q : H b with
      | none => rfl
      | some u =>
        cases isA q
        rw [ha] at z
        cases z
        cases (show Data.seq vs.toArray _ = Data.dict es ep from d)
    have nsB : ∀ {b : Addr} {m : Str → Option Value}, s1.heap.Ns b m → (hidT s1.heap H).Ns b m := by
      rintro b m ⟨o, es, ep, z, d, r⟩
      exact ⟨o, es, ep, hidT_get z (dictFree z d), d, r⟩
    have KB : K.In (hidT s1.heap H) := fun b o z => hidT_get (KX b o z) (by
      cases q : H b with
      | none => rfl
      | some u =>
        cases isA q
        rw [hK (by rw [q]; exact Option.some_ne_none _)] at z
        cases z)
    obtain ⟨mc, l1, l2⟩ := hlim
    have M : Mod K mg (hidT s1.heap H) := ⟨KB, nsB hns, ⟨mb, nsB hb, hbb⟩, ⟨mc, nsB l1, l2⟩⟩
    have e0 : Env0 P w K mg (hidT s1.heap H) callerA [] s1 H :=
      ⟨rfl, M, fun b o z => of_hidT z, Nat.le_of_eq (hidT_size _ _), trivial, fun b hb => absurd (show b ∈ ([] : List Addr) from hb) (by simp), hok, .of_eq hg⟩
    have run := (F _ KB (nsB hns)).run callerA [] s1 H ⟨[.ref a], []⟩ [.ref a] [.ref a] _ _ hr rfl e0 (hbind s1 (.ref a)) (.cons rfl .nil) (hsp H hO hS)
    refine codeAny_mono run fun r s' h => ?_
    rcases r with er | (_ | _ | _ | u)
    · exact (hCX H er s' h).elim
    · exact h.elim
    · exact h.elim
    · exact h.elim
    · obtain ⟨v, H', os, bare, un, hok', r', q⟩ := h
      cases (show v = .bl true from q)
      cases (show u = Value.bool true from r')
      refine ⟨rfl, OldK.of_keep fun b o z => ?_, os, bare⟩
      rcases hO b with n | ⟨ob, xs, y⟩
      · exact un.keep b o z n (fun y => absurd (show b ∈ ([] : List Addr) from y) (by simp)) (by simp)
      · have e1 := (hok b _ y).1
        rw [z] at e1
        cases e1
        exact (hok' b _ (un.frzs b _ _ y)).1
  have rv := vals_ints hi
  cases hk : K.lookup a with
  | some o =>
    have z := KX a o hk
    rw [ha] at z
    cases z
    refine go (fun _ => none) (fun _ => Or.inl rfl) (Or.inr ⟨_, vs.toArray, _, hk, rfl, rfl, rfl, by rw [List.size_toArray, hi.length]; exact hl, by simpa using rv⟩) ?_ (fun b z => absurd rfl z) fun z => absurd rfl z
    intro b u z
    cases (show (none : Option HO) = some u from z)
  | none =>
    have hit : scrH a { cls := .type "list", data := .seq vs.toArray } (ns.map V.int) a = some (.frz { cls := .type "list", data := .seq vs.toArray } (.lst (ns.map V.int))) := if_pos rfl
    have miss : ∀ {b : Addr}, b ≠ a → scrH a { cls := .type "list", data := .seq vs.toArray } (ns.map V.int) b = none := fun z => if_neg z
    refine go (scrH a { cls := .type "list", data := .seq vs.toArray } (ns.map V.int)) (fun b => ?_) (Or.inl (Or.inr ⟨_, hit⟩)) (fun b u z => ?_) (fun b z => Classical.byContradiction fun y => z (miss y)) fun _ => hk
    · by_cases hba : b = a
      · cases hba
        exact Or.inr ⟨_, _, hit⟩
      · exact Or.inl (miss hba)
    · by_cases hba : b = a
      · cases hba
        rw [hit] at z
        cases z
        exact ⟨ha, by rw [List.length_map]; exact hl, vs, _, rv, ha⟩
      · rw [miss hba] at z
        cases z
theorem walkG {l : PySem.W.OpenLaw} {n k : Nat} {q : Program} {loose : List Str} {XP : (Str → Option Value) → Heap → Prop} {YP : World → Heap → Prop} {d : DefRec} {CX : CXT} {x : Str}
    (hn : l.most = some n) (hn2 : n ≤ sizeLine) (hdf : d.params.defaults = []) (hr : Room k callerA)
    (F : ∀ (w : World) (mg : Str → Option Value) (fa : Addr) (h : Heap), YP w h → h.Ns mainGlobals mg → mg d.name = some (.ref fa) →
      ∃ (K : PySem.W.Frag) (fd : FuncData) (sp : Sp), K.In h ∧ (∀ (s : Shared) (u : Value), BindsTo s fd ⟨[u], []⟩ [(x, u)]) ∧
        (∀ (H : Hp) (a : Addr) (ns : List Int), ns.length ≤ n → Only H → SqL K H a (ns.map V.int) → sp [.ref a] H (fun v _ => v = .bl true) fun _ _ _ => False) ∧
        ∀ base : Heap, K.In base → base.Ns mainGlobals mg → FnG l.prog w K mg base CX k fa fd [x] sp)
    (hCX : ∀ (H : Hp) (s : Shared) (e : Value) (s' : Shared), CX [] H s (fun _ _ _ => False) e s' → False) :
    PySem.W.WalkO q loose XP YP l.row.toRowW d [] (fun f vs => PySem.call f vs) := by
  refine Att.attach_call hn hdf fun w s0 s1 mg mb fa o pm cd doc a vs ns G Y ho hd hcd hmg hobj hints hlen hg => ?_
  obtain ⟨K, fd, sp, KX, hb, hsp, hF⟩ := F w mg fa _ Y G.T.g hmg
  exact lawCallG KX G.T.g G.T.b G.T.builtins G.T.nolimit hg hobj hints (Nat.le_trans hlen hn2) hr hF hb (fun H hO hS => hsp H a ns hlen hO hS) fun H e s' => hCX H s1 e s'
end Xr
set_option maxHeartbeats 4000000
namespace Xr
open PySem PySem.Spec PyProof.Rows L2
/-! ### the written part: what the module's names reach, the cells of closures, sys.modules, the statics -/
def closOf (g : Addr → Option Obj) (as : List Addr) : List Addr := as.flatMap fun a => match g a with
  | some ⟨_, _, .func fd, _⟩ => fd.closure.map (·.2)
  | _ => []
def asE (g : Addr → Option Obj) (n : Nat) : List Addr := sysModules :: cStatics :: (He.asD g n ++ closOf g (He.asD g n))
def KE (g : Addr → Option Obj) (n : Nat) : PySem.W.Frag := He.frT g (asE g n)
abbrev FnC : Type := Option (Str × Str × Arguments × FuncBody × Scope × Addr × List Str × Addr)
/-- a def with a closure -/
def fnC (K : PySem.W.Frag) (p : He.Defn) : FnC := match K.lookup (He.fAd K p) with
  | some ⟨_, _, .func fd, _⟩ => some (fd.name, fd.qualname, fd.params, fd.body, fd.scope, fd.globals, fd.closure.map (·.1), fd.builtins)
  | _ => none
/-- one def with a closure: where it stands, and what is told of it -/
abbrev DefC : Type := He.Defn × FnC
abbrev AlE : Type := He.AlX × List FnC
def obsE (n : Nat) (fa : List He.Fa) (fn : List He.DefD) (ts : List He.Tab) (tf : List He.Defn) (cl : List DefC) (ex : PySem.W.Frag → Bool) (g : Addr → Option Obj) : AlE :=
  ((He.obsT fa fn ts (KE g n), ex (KE g n) && He.tabsB g tf (KE g n)), cl.map fun q => fnC (KE g n) q.1)
def valE (fn : List He.DefD) (ts : List He.Tab) (cl : List DefC) (w : World) : AlE := ((He.valT fn ts w, true), cl.map (·.2))
structure SaysE (fa : List He.Fa) (fn : List He.DefD) (ts : List He.Tab) (tf : List He.Defn) (cl : List DefC) (ex : PySem.W.Frag → Bool) (w : World) (h : Heap) (K : PySem.W.Frag) : Prop where
  x : He.SaysX fa fn ts tf ex w h K
  c : cl.map (fun q => fnC K q.1) = cl.map (·.2)
theorem says_of {n : Nat} {fa : List He.Fa} {fn : List He.DefD} {ts : List He.Tab} {tf : List He.Defn} {cl : List DefC} {ex : PySem.W.Frag → Bool} {w : World} {h : Heap} (e : obsE n fa fn ts tf cl ex h.get? = valE fn ts cl w) : SaysE fa fn ts tf cl ex w h (KE h.get? n) := by
  have e1 : He.obsT fa fn ts (KE h.get? n) = He.valT fn ts w := congrArg (fun z : AlE => z.1.1) e
  have e2 : (ex (KE h.get? n) && He.tabsB h.get? tf (KE h.get? n)) = true := congrArg (fun z : AlE => z.1.2) e
  have e3 : cl.map (fun q => fnC (KE h.get? n) q.1) = cl.map (·.2) := congrArg (fun z : AlE => z.2) e
  obtain ⟨a1, a2⟩ := He.ba e2
  have key : ∀ p ∈ tf, PySem.W.codeHdIn (KE h.get? n) (He.cT (KE h.get? n) p).1 (He.cT (KE h.get? n) p).2 = true ∧
      ∃ o, h.get? (He.cT (KE h.get? n) p).2 = some o ∧ He.emptyTab o = true := by
    intro p hp
    obtain ⟨b1, b2⟩ := He.ba (List.all_eq_true.mp a2 p hp)
    refine ⟨b1, ?_⟩
    cases q : h.get? (He.cT (KE h.get? n) p).2 with
    | none =>
      rw [q] at b2
      cases b2
    | some o =>
      rw [q] at b2
      exact ⟨o, rfl, b2⟩
  refine ⟨⟨e1, a1, fun p hp => (key p hp).1, fun p hp => ?_, fun p hp => ?_⟩, e3⟩
  · obtain ⟨_, o, q, z⟩ := key p hp
    exact He.frT_none q z
  · obtain ⟨_, o, q, z⟩ := key p hp
    rw [q, He.emptyTab_eq z]
def hookE (n : Nat) (fa : List He.Fa) (fn : List He.DefD) (ts : List He.Tab) (tf : List He.Defn) (cl : List DefC) (ex : PySem.W.Frag → Bool) : PySem.W.Hook where
  α := AlE
  obs := fun s => obsE n fa fn ts tf cl ex s.heap.get?
  val := fun w => valE fn ts cl w
  says := fun w h => ∃ K : PySem.W.Frag, K.In h ∧ SaysE fa fn ts tf cl ex w h K
  of := fun _ _ e => ⟨_, He.frT_in, says_of e⟩
  keeps := fun _ _ _ ⟨K, hK, c⟩ k => ⟨K, PySem.W.Frag.In.keeps hK k, ⟨⟨c.x.t, c.x.more, c.x.hd, c.x.out, fun p hp => k _ _ (c.x.empty p hp)⟩, c.c⟩⟩
theorem obsE_eq {n : Nat} {fa : List He.Fa} {fn : List He.DefD} {ts : List He.Tab} {tf : List He.Defn} {cl : List DefC} {ex : PySem.W.Frag → Bool} {g : Addr → Option Obj} {s : Shared} (h : ∀ a, g a = s.heap.get? a) : obsE n fa fn ts tf cl ex g = (hookE n fa fn ts tf cl ex).obs s := by
  have e : g = s.heap.get? := funext h
  rw [e] <;> rfl
theorem SaysE.clo {fa : List He.Fa} {fn : List He.DefD} {ts : List He.Tab} {tf : List He.Defn} {cl : List DefC} {ex : PySem.W.Frag → Bool} {w : World} {h : Heap} {K : PySem.W.Frag} (c : SaysE fa fn ts tf cl ex w h K) {q : DefC} (hq : q ∈ cl) : fnC K q.1 = q.2 := by
  obtain ⟨i, hi, e⟩ := List.mem_iff_getElem.mp hq
  have z : (cl.map (fun q => fnC K q.1))[i]? = (cl.map (·.2))[i]? := by rw [c.c]
  rw [List.getElem?_map, List.getElem?_map, List.getElem?_eq_getElem hi, e] at z
  exact Option.some.inj z
/-! ### an error's class -/
def oV (a b : Option Value) : Bool := decide (a = b)
def codeRest (K : PySem.W.Frag) (C fI : Addr) (file : Str) : Bool := match K.lookup fI with
  | some ⟨_, _, .func fd, _⟩ => (match fd.code, fd.closure, fd.defaults with
    | .ref cda, [(_, cc)], .none => PySem.W.codeIn K (.ref cda) fd.qualname && ((match K.lookup cc with
      | some ⟨_, _, .cell (some (.ref D)), _⟩ => decide (D = C)
      | _ => false) && (match K.lookup cda with
      | some ⟨_, _, .fields vs, _⟩ => (match (vs[2]? : Option Value) with
        | some (Value.str f _) => decide (f = file)
        | _ => false)
      | _ => false))
    | _, _, _ => false)
  | _ => false
def errB (file : Str) (K : PySem.W.Frag) (x : Str) (B ini nw : String) (bmB : List Value) (fs : List Str) : Bool :=
  (PySem.W.excInitIn K (He.ga K x) bmB nw && (He.eqO (PySem.W.ks_superIn K (He.ga K x) (He.ga K x) "__init__") (some (some (.builtin ini))) && decide (PySem.W.subIn K (.ref (He.ga K x)) (.type B) = some true))) &&
  ((decide ((PySem.W.clsIn K (He.ga K x)).map (·.hasDict) = some true) && (He.eqO (PySem.W.findIn K (.ref (He.ga K x)) "__setattr__") (some (some (.builtin "object.__setattr__"))) &&
    He.eqO (PySem.W.findIn K (.ref (He.ga K x)) "__init__") (some (some (.ref (He.ma K (He.ga K x) "__init__")))))) &&
  ((oV (PySem.W.typeIn K (.ref (He.ma K (He.ga K x) "__init__"))) (some (.type "function")) && (codeRest K (He.ga K x) (He.ma K (He.ga K x) "__init__") file && fs.all fun f => He.eqO (PySem.W.findIn K (.ref (He.ga K x)) f) (some none))) &&
  ((decide (PySem.W.subIn K (.ref (He.ga K x)) (.type "BaseException") = some true) && (oV (PySem.W.typeIn K (.ref (He.ga K x))) (some (.type "type")) && PySem.W.keepIn K (.ref (He.ga K x)))) &&
  ((He.eqO (PySem.W.findIn K (.ref (He.ga K x)) "__getattribute__") (some (some (.builtin "BaseException.__getattribute__"))) && (He.eqO (PySem.W.findIn K (.ref (He.ga K x)) "__getattr__") (some none) && PySem.W.hasDictIn K (He.ga K x))) &&
  (He.eqO (PySem.W.findIn K (.ref (He.ga K x)) "__class__") (some (some (.builtin "object.__class__"))) && (decide (PySem.W.mroIn K (He.ga K x) (.type "object") = some true) && He.eqO (PySem.W.nsIn K mainGlobals x) (some (some (.ref (He.ga K x))))))))))
def allB (K : PySem.W.Frag) : Bool := (He.eqO (PySem.W.nsIn K cStatics "thirdparty.any") (some none) && He.eqO (PySem.W.nsIn K mainGlobals "super") (some none)) &&
  ((He.eqO (PySem.W.specialIn K (.builtin "object.__class__") "__get__") (some (some (.builtin "getset_descriptor.__get__"))) && decide (PySem.W.takesIn K (.builtin "object.__class__") = some true)) &&
  (match K.lookup sysModules with
  | some o => decide (o.cls = .type "dict")
  | none => false))
structure AllF (K : PySem.W.Frag) : Prop where
  opq : PySem.W.nsIn K cStatics "thirdparty.any" = some none
  sup : PySem.W.nsIn K mainGlobals "super" = some none
  sg : PySem.W.specialIn K (.builtin "object.__class__") "__get__" = some (some (.builtin "getset_descriptor.__get__"))
  tk : PySem.W.takesIn K (.builtin "object.__class__") = some true
  sys : KSys K
theorem allB_ok {K : PySem.W.Frag} (h : allB K = true) : AllF K := by
  obtain ⟨h1, h⟩ := He.ba h
  obtain ⟨h1, h2⟩ := He.ba h1
  obtain ⟨h3, h⟩ := He.ba h
  obtain ⟨h3, h4⟩ := He.ba h3
  refine ⟨He.eqO_ok h1, He.eqO_ok h2, He.eqO_ok h3, of_decide_eq_true h4, ?_⟩
  split at h
  · rename_i o ho
    exact ⟨o, ho, of_decide_eq_true h⟩
  · cases h
/-- all that is known of an error's class -/
structure Err (P : Program) (K : PySem.W.Frag) (C : Addr) (fs : List Str) : Prop where
  made : ∃ fI fd, ErrC P K C fI fd fs ∧ ErrB fd fs
  xf : XfC K C
  xi : XiC K C
  no : ∀ f ∈ fs, PySem.W.findIn K (.ref C) f = some none
theorem err_ok {P : Program} {K : PySem.W.Frag} {x q : Str} {B ini N nw : String} {bmB : List Value} {fs : List Str} {params : Arguments} {body : List Stmt} {sc : Scope} (bf : BaseF B ini N nw bmB) (h : errB P.main.file K x B ini nw bmB fs = true) (ha : AllF K)
    (hF : fnC K (x, some "__init__") = (some ("__init__", q, params, .stmts body, sc, mainGlobals, ["__class__"], builtinsNs) : FnC)) (IT : InitT params body sc fs) (htop : (P.main.scope.names.lookup ("super" : Str)).isSome = false)
    (hb : ∀ (kV doc pm : Value) (an : Option Addr) (cdv ct : Value) (cc : Addr), ErrB (PySem.W.ksFn "__init__" q params body sc .none kV doc pm an cdv ct cc) fs) : Err P K (He.ga K x) fs := by
  unfold errB at h
  obtain ⟨h1, h⟩ := He.ba h
  obtain ⟨h1, h2⟩ := He.ba h1
  obtain ⟨h2, h3⟩ := He.ba h2
  obtain ⟨h4, h⟩ := He.ba h
  obtain ⟨h4, h5⟩ := He.ba h4
  obtain ⟨h5, h6⟩ := He.ba h5
  obtain ⟨h7, h⟩ := He.ba h
  obtain ⟨h7, h8⟩ := He.ba h7
  obtain ⟨h8, h9⟩ := He.ba h8
  obtain ⟨h10, h⟩ := He.ba h
  obtain ⟨h10, h11⟩ := He.ba h10
  obtain ⟨h11, h12⟩ := He.ba h11
  obtain ⟨h13, h⟩ := He.ba h
  obtain ⟨h13, h14⟩ := He.ba h13
  obtain ⟨h14, h15⟩ := He.ba h14
  obtain ⟨h16, h⟩ := He.ba h
  obtain ⟨h17, h18⟩ := He.ba h
  have no : ∀ f ∈ fs, PySem.W.findIn K (.ref (He.ga K x)) f = some none := fun f hf => He.eqO_ok (List.all_eq_true.mp h9 f hf)
  have cl : (PySem.W.clsIn K (He.ga K x)).isSome = true := by
    have z := of_decide_eq_true h4
    cases q : PySem.W.clsIn K (He.ga K x) with
    | none =>
      rw [q] at z
      cases z
    | some c => rfl
  refine ⟨?_, ⟨He.eqO_ok h13, He.eqO_ok h14, of_decide_eq_true h10, h15⟩, ⟨cl, He.eqO_ok h13, He.eqO_ok h14, of_decide_eq_true h10, He.eqO_ok h16, ha.sg, ha.tk, of_decide_eq_true h17⟩, no⟩
  have e1 : He.fAd K (x, some "__init__") = He.ma K (He.ga K x) "__init__" := rfl
  unfold fnC at hF
  rw [e1] at hF
  unfold codeRest at h8
  cases lk : K.lookup (He.ma K (He.ga K x) "__init__") with
  | none =>
    rw [lk] at h8
    cases h8
  | some o =>
    obtain ⟨oc, od, dt, osl⟩ := o
    rw [lk] at h8 hF
    cases dt with
    | func fd =>
      obtain ⟨n1, n2, n3, n4, n5, n6, n7, n8, n9, n10, n11, n12, n13, n14, n15⟩ := fd
      have e2 : (some (n1, n2, n3, n4, n5, n6, n7.map (·.1), n15) : FnC) = (some ("__init__", q, params, .stmts body, sc, mainGlobals, ["__class__"], builtinsNs) : FnC) := hF
      simp only [Option.some.injEq, Prod.mk.injEq] at e2
      obtain ⟨g1, g2, g3, g4, g5, g6, g7, g8⟩ := e2
      subst g1 g2 g3 g4 g5 g6 g8
      dsimp only at h8
      split at h8
      · rename_i cda z cc
        have ez : z = "__class__" := by
          have := g7
          simpa using this
        subst ez
        obtain ⟨c1, c2⟩ := He.ba h8
        obtain ⟨c2, c3⟩ := He.ba c2
        refine ⟨_, _, ⟨⟨B, ini, N, nw, bmB, bf, h1, He.eqO_ok h2, of_decide_eq_true h3⟩, of_decide_eq_true h4, He.eqO_ok h5, He.eqO_ok h6, of_decide_eq_true h7,
          ⟨_, _, _, _, _, _, _, _, cda, _, cc, _, _, _, rfl, lk, IT, c1, ?_, ?_⟩, ha.opq, ha.sup, htop, no, of_decide_eq_true h10, of_decide_eq_true h11, h12⟩, hb _ _ _ _ _ _ _⟩
        · split at c2
          · rename_i D _ hc
            cases of_decide_eq_true c2
            exact ⟨_, _, _, hc⟩
          · cases c2
        · split at c3
          · rename_i vs _ hc
            split at c3
            · rename_i f tf hv
              cases of_decide_eq_true c3
              exact ⟨_, _, vs, _, tf, hc, hv⟩
            · cases c3
          · cases c3
      · cases h8
    | _ => cases h8
end Xr
set_option maxHeartbeats 4000000
namespace Xr
open PySem PySem.Spec PyProof.Rows L2
/-- a def that keeps its promise, however its function object looks -/
def OkF (P : Program) (w : World) (K : PySem.W.Frag) (mg : Str → Option Value) (base : Heap) (CX : CXT) (k : Nat) (f : Addr) (ps : List Str) (sp : Sp) : Prop :=
  ∃ fd, FnOk P w K mg base CX k f fd ps sp ∧ Binds K fd ps [] ∧ PySem.W.keepIn K (.ref f) = true
section
variable {X : Cx} {CX : CXT} {k : Nat} {f C : Addr} {ps fs : List Str} {sp : Sp} {E : XK} {x : Str} {p pos : Pos} {e : Expr} {es : List Expr} {t : TA} {kws : List Keyword}
theorem pe_f (G : OkF X.prog X.w X.K X.mg X.base CX k f ps sp) (hr : Room k X.A) (hg : Gl X x) (hm : X.mg x = some (.ref f)) (hx : Passes CX X E) (ha : PA X (e :: es) t)
    (hdb : (x == ("__debug__" : Str)) = false := by decide) (he : starEach (e :: es) X.env = (false, eval e X.env) :: starEach es X.env := by rfl) (hpl : (backTo pos (starEach es X.env)).any (·.1) = false := by rfl) :
    PE X (.Call (.Name x p) (e :: es) [] pos) (tCall sp [] E t) := by
  obtain ⟨fd, F, b, kp⟩ := G
  exact pe_call F hr hg hm kp b .nil hx ha hdb he hpl
theorem pe_errP (T : Err X.prog X.K C fs) (h3 : fs.length ≤ 3) (hr : Room 1 X.A) (hg : Gl X x) (hm : X.mg x = some (.ref C)) (ha : PA X (e :: es) t)
    (hdb : (x == ("__debug__" : Str)) = false := by decide) (he : starEach (e :: es) X.env = (false, eval e X.env) :: starEach es X.env := by rfl) (hpl : (backTo pos (starEach es X.env)).any (·.1) = false := by rfl) :
    PE X (.Call (.Name x p) (e :: es) [] pos) (tErr C fs t) := by
  obtain ⟨fI, fd, T1, b⟩ := T.made
  exact pe_err T1 b h3 hr hg hm ha hdb he hpl
theorem pe_errE (T : Err X.prog X.K C fs) (hr : Room 1 X.A) (hg : Gl X x) (hm : X.mg x = some (.ref C)) (hkw : PK X kws t)
    (hall : (backToKw pos (keywordEach kws X.env)).all (·.1.isSome) = true := by rfl) (hks : (backToKw pos (keywordEach kws X.env)).filterMap (·.1) = fs.reverse := by rfl) (hdb : (x == ("__debug__" : Str)) = false := by decide)
    (hpl : ((backTo pos (starEach [] X.env)).any (·.1) || (backToKw pos (keywordEach kws X.env)).any (·.1.isNone)) = false := by rfl) :
    PE X (.Call (.Name x p) [] kws pos) (tErrK C fs t) := by
  obtain ⟨fI, fd, T1, b⟩ := T.made
  exact pe_errK T1 b hr hg hm hkw hall hks hdb hpl
end
/-- a statement and what follows it, met at a word of one's own -/
inductive CutP (t u : TS) (D : Ends) (σ : L2.St) (H : Hp) : Prop
  | mk (J : L2.St → Hp → Prop) (h : t { D with nx := J } σ H) (k : ∀ σ' H', J σ' H' → u D σ' H') : CutP t u D σ H
def tCut (t u : TS) : TS := CutP t u
theorem pss_cut {X : Cx} {st : Stmt} {rest : List Stmt} {t u : TS} (h1 : PS X st t) (h2 : PSs X rest u) : PSs X (st :: rest) (tCut t u) := by
  constructor
  rintro pins s σ H D I ⟨J, h, hJ⟩
  refine wpAny_execs_cons (thn (h1.run pins s σ H { D with nx := J } I h) ?_)
  rintro (_ | _ | _ | v) s1 q
  · obtain ⟨σ', H', I', q⟩ := q
    exact h2.run pins s1 σ' H' D I' (hJ _ _ q)
  · exact q
  · exact q
  · exact q
/-- an expression, met at a word of one's own -/
inductive CutE (t : TE) (σ : L2.St) (H : Hp) (Q : VK) : Prop
  | mk (J : V → Hp → Prop) (h : t σ H J) (k : ∀ v H', J v H' → Q v H') : CutE t σ H Q
def tCutE (t : TE) : TE := CutE t
theorem pe_cut {X : Cx} {e : Expr} {t : TE} (h : PE X e t) : PE X e (tCutE t) := by
  constructor
  rintro pins s σ H Q I ⟨J, h1, h2⟩
  refine thn (h.run pins s σ H J I h1) ?_
  rintro u s1 ⟨v, H1, I1, r, q⟩
  exact ⟨v, H1, I1, r, h2 _ _ q⟩
/-! the heads of readings, unfolded one by one -/
section
variable {t u : TS} {D : Ends} {σ : L2.St} {H : Hp} {te ta tb : TE} {g : TG} {Q : VK} {ts : TA} {QL : List V → Hp → Prop} {c : TT} {QB : Bool → Hp → Prop} {r : R2}
theorem hd_seq : tSeq t u D σ H = t { D with nx := u D } σ H := rfl
theorem hd_asg : tAsg te g D σ H = te σ H fun x H1 => g x σ H1 D.nx := rfl
theorem hd_lst : tLst ts σ H Q = ts σ H fun xs H1 => xs.length ≤ sizeLine ∧ ∀ p, H1 p = none → Q (.ref p) (upd H1 p (.lst xs)) := rfl
theorem hd_tup : tTup ts σ H Q = ts σ H fun xs H1 => xs.length ≤ sizeLine ∧ ∀ p, H1 p = none → Q (.ref p) (upd H1 p (.tup xs)) := rfl
theorem hd_cons : tCons te ts σ H QL = te σ H fun x H1 => ts σ H1 fun xs H2 => QL (x :: xs) H2 := rfl
theorem hd_op : tOp r ta tb σ H Q = ta σ H fun x H1 => tb σ H1 fun y H2 => r x y H2 Q := rfl
theorem hd_ret : tRet te D σ H = te σ H D.rt := rfl
theorem hd_test : tTest te σ H QB = te σ H fun x H' => ∃ k, x = .bl k ∧ QB k H' := rfl
theorem hd_if : tIfS c t u D σ H = c σ H fun b H1 => if b = true then t D σ H1 else u D σ H1 := rfl
end
theorem same_new {H : Hp} {q : Addr} {o : HO} (n : H q = none) : Same H (upd H q o) := fun c u h => by
  rw [upd_ne (ne_of_none h n)]
  exact h
/-- a comprehension over a range whose test and element only read -/
theorem lcR {lo : Int} {n k : Nat} {tt : TT} {te : TE} {vs : List Nat} {σ : L2.St} {H1 : Hp} {D : Addr} {Qd : Hp → Prop} (B : Nat → Bool) (F : Nat → V) (hD : H1 D = none) (hn : n ≤ 100000)
    (hw : ∀ i : Nat, wipe ((wipe σ vs).set k (some (.int (lo + i)))) vs = wipe σ vs)
    (ht : ∀ (i : Nat) H', i < n → Same H1 H' → ∀ Qb : Bool → Hp → Prop, (∀ H'', Same H' H'' → Qb (B i) H'') → tt ((wipe σ vs).set k (some (.int (lo + i)))) H' Qb)
    (he : ∀ (i : Nat) H', i < n → B i = true → Same H1 H' → ∀ Q : VK, (∀ H'', Same H' H'' → Q (F i) H'') → te ((wipe σ vs).set k (some (.int (lo + i)))) H' Q)
    (hd : ∀ H', Same H1 H' → H' D = some (.lst (((List.range n).filter B).map F)) → Qd H') :
    ∃ W : Nat → Nat → Hp → Prop, (∃ m, W 0 m (upd H1 D (.lst []))) ∧ ∀ i m H, W i m H →
      ((Itr lo n).stop i H ∧ Qd H) ∨ ((Itr lo n).go i H ∧ ∃ Nx : Hp → Prop, (∀ H', Nx H' → ∃ m', m' < m ∧ W (i + 1) m' H') ∧ ∀ x H', (Itr lo n).yld i H x H' → (gName k) x (wipe σ vs) H' fun σ2 H2 => wipe σ2 vs = wipe σ vs ∧ tt σ2 H2 fun b H3 =>
        if b = true then te σ2 H3 fun y H4 => ∃ acc, H4 D = some (.lst acc) ∧ acc.length < sizeLine ∧ Nx (upd H4 D (.lst (acc ++ [y]))) else Nx H3) := by
  have up : ∀ {H' : Hp} {o : HO}, Same H1 H' → Same H1 (upd H' D o) := fun s b u z => by
    rw [upd_ne (ne_of_none z hD)]
    exact s b u z
  have nx : ∀ i, (List.range (i + 1)).filter B = if B i = true then (List.range i).filter B ++ [i] else (List.range i).filter B := fun i => by
    rw [List.range_succ, List.filter_append, List.filter_cons]
    split <;> simp
  refine lc_range (fun i H' => Same H1 H' ∧ H' D = some (.lst (((List.range i).filter B).map F))) ⟨same_new hD, upd_same⟩ ?_ fun H' h => hd H' h.1 h.2
  rintro i H' hi ⟨s, hl⟩
  refine ⟨hw i, ht i H' hi s _ fun H2 s2 => ?_⟩
  cases hb : B i with
  | false =>
    refine iteF ⟨s.trans s2, ?_⟩
    rw [nx i, hb]
    exact s2 _ _ hl
  | true =>
    refine iteT (he i H2 hi hb (s.trans s2) _ fun H3 s3 => ⟨_, s3 _ _ (s2 _ _ hl), ?_, up ((s.trans s2).trans s3), ?_⟩)
    · rw [List.length_map, sizeLine_eq]
      have z := List.length_filter_le B (List.range i)
      rw [List.length_range] at z
      omega
    · rw [upd_same, nx i, hb, if_pos rfl, List.map_append]
      rfl
/-! rules whose readings name K itself, for blocks -/
theorem ix_listK {X : Cx} (K : PySem.W.Frag) (h : X.K = K := by rfl) : IxR X (rIxL K) := by
  subst h
  exact ix_list
theorem cut_ints {ns : List Int} {lo hi : Option Int} (h : ns.length ≤ 63) : ∃ ns' : List Int, cutV (ns.map V.int) lo hi = ns'.map V.int ∧ ns'.length ≤ 63 := by
  have z := cutV_length (ns.map V.int) lo hi
  rw [List.length_map] at z
  unfold cutV at z ⊢
  rw [← List.map_drop, ← List.map_take] at z ⊢
  rw [List.length_map] at z
  exact ⟨_, rfl, by omega⟩
theorem iteD {p : Prop} [Decidable p] {A B : Prop} (h1 : p → A) (h2 : ¬ p → B) : if decide p = true then A else B := by
  by_cases h : p
  · rw [if_pos (decide_eq_true h)]
    exact h1 h
  · rw [if_neg (by rw [decide_eq_false h]; exact Bool.false_ne_true)]
    exact h2 h
theorem iteN {p : Prop} [Decidable p] {A B : Prop} (h1 : ¬ p → A) (h2 : p → B) : if (!decide p) = true then A else B := by
  by_cases h : p
  · rw [decide_eq_true h]
    exact h2 h
  · rw [decide_eq_false h]
    exact h1 h
theorem iteFa {b : Bool} {A B : Prop} (h : b = false) (k : B) : if b = true then A else B := by
  subst h
  exact k
theorem iteTr {b : Bool} {A B : Prop} (h : b = true) (k : A) : if b = true then A else B := by
  subst h
  exact k
theorem iteB {b : Bool} {A B : Prop} (h1 : b = true → A) (h2 : b = false → B) : if b = true then A else B := by
  cases b with
  | true => exact h1 rfl
  | false => exact h2 rfl
theorem dp_ints {K : PySem.W.Frag} {H : Hp} : ∀ ns : List Int, DpAll K H (ns.map V.int) (ns.map PyData.int)
  | [] => .nil
  | n :: l => .cons (.int n) (dp_ints l)
theorem eqv_nil : ∀ ns : List Int, PyData.eqv (.list (ns.map PyData.int)) (.list []) = ns.isEmpty
  | [] => rfl
  | n :: l => rfl
/-- what stood at other places than p stays -/
def But (p : Addr) (H H' : Hp) : Prop := ∀ b o, H b = some o → b ≠ p → H' b = some o
theorem But.refl {p : Addr} {H : Hp} : But p H H := fun _ _ h _ => h
theorem But.of {p : Addr} {H H' : Hp} (h : Same H H') : But p H H' := fun b o e _ => h b o e
theorem But.trans {p : Addr} {H H1 H2 : Hp} (a : But p H H1) (b : But p H1 H2) : But p H H2 := fun c o h n => b c o (a c o h n) n
theorem But.upd {p : Addr} {H H1 : Hp} {o : HO} (a : But p H H1) : But p H (upd H1 p o) := fun c u h n => by
  rw [upd_ne n]
  exact a c u h n
theorem But.new {p q : Addr} {H H1 : Hp} {o : HO} (a : But p H H1) (n : H1 q = none) : But p H (L2.upd H1 q o) := fun c u h z => by
  rw [upd_ne (ne_of_none (a c u h z) n)]
  exact a c u h z
/-- the pen: its cells, the index of the next one, the rest of a great one -/
structure PenAt (H : Hp) (p q : Addr) (ns : List Int) (at_ rest : Int) : Prop where
  pen : H p = some (.lst [.ref q, .int at_, .int rest])
  cells : H q = some (.lst (ns.map V.int))
  len : ns.length ≤ 63
  a0 : 0 ≤ at_
  r0 : 0 ≤ rest
theorem PenAt.ne {H : Hp} {p q : Addr} {ns : List Int} {a r : Int} (h : PenAt H p q ns a r) : q ≠ p := fun z => by
  have h1 := h.pen
  have h2 := h.cells
  rw [z, h1] at h2
  cases ns with
  | nil => cases h2
  | cons n l => cases h2
theorem PenAt.keep {H H' : Hp} {p q : Addr} {ns : List Int} {a r a' r' : Int} (h : PenAt H p q ns a r) (b : But p H H') (hp : H' p = some (.lst [.ref q, .int a', .int r'])) (h1 : 0 ≤ a') (h2 : 0 ≤ r') : PenAt H' p q ns a' r' :=
  ⟨hp, b q _ h.cells h.ne, h.len, h1, h2⟩
theorem PenAt.same {H H' : Hp} {p q : Addr} {ns : List Int} {a r : Int} (h : PenAt H p q ns a r) (b : Same H H') : PenAt H' p q ns a r :=
  ⟨b p _ h.pen, b q _ h.cells, h.len, h.a0, h.r0⟩
/-- a draw: a number below many; the pen goes on -/
def spDraw : Sp := fun vs H Q _ => ∃ (p q : Addr) (ns : List Int) (a r m : Int), vs = [.ref p, .int m] ∧ PenAt H p q ns a r ∧ 1 ≤ m ∧ m ≤ 100000 ∧ a ≤ 1000000 ∧
  ∀ (d a' r' : Int) (H' : Hp), 0 ≤ d → d < m → a ≤ a' → a' ≤ a + 1 → But p H H' → PenAt H' p q ns a' r' → Q (.int d) H'
def spPen (K : PySem.W.Frag) : Sp := fun vs H Q _ => ∃ (a : Addr) (ns : List Int), vs = [.ref a] ∧ SqL K H a (ns.map V.int) ∧ ns.length ≤ 63 ∧
  ∀ (p q : Addr) (ns' : List Int) (H' : Hp), H p = none → Same H H' → PenAt H' p q ns' 0 0 → Q (.ref p) H'
end Xr
set_option maxHeartbeats 4000000
/-! operators, comparisons, truth, length, subscripts of instances of own classes -/
namespace Xr
open PySem PySem.Spec L2
section low
open PySem.W
variable {prog : Program} {w : World} {A : Around} {E : Value → Shared → Prop} {s : Shared} {K : Frag} {x C L f : Addr} {h₀ : Heap} {m : Str → Option Value} {ox : Obj} {od : Option Obj}
/-- truth by an own __len__ -/
theorem truthy_len {Q : Bool → Shared → Prop} (X : K.In s.heap) (I : InstAt s.heap x ox C od) (hb : findIn K (.ref C) "__bool__" = some none) (hs : findIn K (.ref C) "__len__" = some (some (.ref f))) (hf : isFn K (.ref f) = true)
    (h : wpAny (model prog w) A.in1 (call (.ref f) [.ref x]) (LenBack fun v s' => ∃ n t, v = .int n t ∧ Q (n != 0) s') E s) : wpAny (model prog w) A (truthy (.ref x)) Q E s := by
  unfold truthy
  refine wpAny_bind (m := callSpecial? (.ref x) (Str.ofString "__bool__")) (wpAny_bind (wpAny_bind (I.type.here ((looks_findIn X hb).here (wpAny_pure ?_)))))
  refine wpAny_bind (wpAny_bind (I.type.here ((looks_findIn X hs).here ?_)))
  rw [if_neg (by simp)]
  refine wpAny_bind (wpAny_runValue (codeAny_builtin PySem.entry_len ?_))
  rw [Around.under_plainId PySem.plain_len]
  unfold Builtin.«len»
  refine wpAny_bind (m := oneArg "len" _) (wpAny_pure ?_)
  refine wpAny_bind (m := callSpecial? (.ref x) (Str.ofString "__len__")) (special_fn X I hs (beq_iff_eq.mp hf) (wpAny_mono h (fun r s' hr => ?_) fun _ _ y => y))
  cases r <;> first | exact hr.elim | skip
  rename_i n u
  obtain ⟨⟨h0, h1⟩, n', t', e, hq⟩ := hr
  cases e
  refine wpAny_bind (wpAny_holding (wpAny_pure ?_))
  refine wpAny_bind (wpAny_letGo ?_)
  show wpAny _ _ (if n < 0 then _ else _) _ _ _
  rw [if_neg (by omega)]
  show wpAny _ _ (if n ≥ 2 ^ 63 then _ else _) _ _ _
  rw [if_neg (by omega)]
  exact wpAny_bind (wpAny_mkInt (wpAny_pure (wpAny_pure hq)))
/-- != where the class has an own __eq__ alone -/
theorem ne_K {b tb : Value} {Q : Value → Shared → Prop} (hu : A.units + 1 < cLine) (X : K.In s.heap) (I : InstAt s.heap x ox C od) (hb : Looks (model prog w) s.heap (typeOf b) tb) (hn : notFirst K C tb = true)
    (ho : mroIn K C (.type "object") = some true) (hs : findIn K (.ref C) "__ne__" = some (some (.builtin "object.__ne__"))) (he : findIn K (.ref C) "__eq__" = some (some (.ref f))) (hf : isFn K (.ref f) = true)
    (h : wpAny (model prog w) A.in1 (call (.ref f) [.ref x, b]) (fun v s' => ∃ k, v = .bool k ∧ Q (.bool (!k)) s') E s) : wpAny (model prog w) A (richCompare .NotEq (.ref x) b) Q E s := by
  have sub : Looks (model prog w) s.heap (isInstance (.ref x) (.type "object")) true := I.type.andThen (looks_mroIn X ho)
  have one : wpAny (model prog w) A (tryCompare (.ref x) "__ne__" b) (fun r s' => ∃ v, r = some v ∧ Q v s') E s := by
    unfold tryCompare
    simp only [callSpecialIfBound?, bindSpecialIfBound?]
    have ob : ∀ self : Value, bindSpecial (.builtin "object.__ne__") self = pure (.builtin "object.__ne__", [self]) := fun self => by kernel_rfl
    have fin : wpAny (model prog w) A (call (.builtin "object.__ne__") ([.ref x] ++ [b]) >>= fun v => pure (some v)) (fun r s' => ∃ k, r = some (.bool k) ∧ Q (.bool k) s') E s := by
      refine wpAny_bind (wpAny_call (codeAny_call_builtin (by decide +kernel) F.cmpEntry_ne (check_slot F.cmpKind_ne F.cmpSplit_ne sub (F.cmpArgs_ne _ _) ?_)))
      unfold Builtin.«object.__ne__»
      refine wpAny_bind (m := slotArgs "__ne__" 1 _) (wpAny_pure ?_)
      refine wpAny_bind (wpAny_cRoomFor hu ?_)
      refine wpAny_bind (m := callSpecialIfBound? (.ref x) (Str.ofString "__eq__") _) (ifBound_K X I he hf (wpAny_mono h (fun r s' hr => ?_) fun _ _ y => y))
      obtain ⟨k, rfl, hq⟩ := hr
      exact wpAny_bind (wpAny_truthy_bool (wpAny_pure (wpAny_pure ⟨!k, rfl, hq⟩)))
    have fin2 := wpAny_mono fin (Q' := fun a s' => wpAny (model prog w) A (match a with
        | some Value.notImplemented => pure none
        | none => pure none
        | some r => pure (some r)) (fun r s' => ∃ v, r = some v ∧ Q v s') E s') (fun r s' hr => by
      obtain ⟨k, rfl, hq⟩ := hr
      exact wpAny_pure ⟨_, rfl, hq⟩) fun _ _ z => z
    refine wpAny_bind (wpAny_holding (wpAny_bind (wpAny_bind (wpAny_bind (I.type.here ((looks_findIn X hs).here ?_))))))
    refine wpAny_bind (wpAny_askSetting (wpAny_ite ?_))
    split
    · rw [ob]
      exact wpAny_bind (wpAny_pure (wpAny_pure (by exact fin2)))
    · rw [ob]
      exact wpAny_tryCatch (wpAny_bind (wpAny_pure (wpAny_pure (by exact fin2))))
  unfold richCompare
  simp only [oneThing_ref]
  refine wpAny_holding (wpAny_bind (wpAny_cRoomFor (Nat.lt_of_succ_lt hu) ?_))
  rw [cmpInfo_NotEq]
  dsimp only
  refine wpAny_bind (I.type.here (wpAny_bind (hb.here ?_)))
  split
  · rename_i q
    have e : subIn K tb (.ref C) = some false := by
      rcases Bool.or_eq_true_iff.mp hn with e | e
      · rw [beq_iff_eq.mp e] at q; simp at q
      · exact beq_iff_eq.mp e
    refine wpAny_bind ((looks_subIn X e).here ?_)
    simp only [Bool.false_eq_true, if_false]
    refine wpAny_bind (wpAny_mono one (fun r s' z => ?_) fun _ _ e => e)
    obtain ⟨v, rfl, hq⟩ := z
    exact wpAny_pure hq
  · refine wpAny_bind (wpAny_pure ?_)
    simp only [Bool.false_eq_true, if_false]
    refine wpAny_bind (wpAny_mono one (fun r s' z => ?_) fun _ _ e => e)
    obtain ⟨v, rfl, hq⟩ := z
    exact wpAny_pure hq
end low
end Xr
set_option maxHeartbeats 4000000
namespace Xr
open PySem PySem.Spec PyProof.Rows L2
section
variable {prog : Program} {w : World} {A : Around} {E : Value → Shared → Prop} {s : Shared}
/-- bool(x), by truth -/
theorem bool_of {x : Value} {Q : Value → Shared → Prop} (h : wpAny (model prog w) A.in1.in1 (truthy x) (fun b s' => Q (.bool b) s') E s) : wpAny (model prog w) A (call (.type "bool") [x]) Q E s := by
  refine callType_codes (T := "bool") (Bi := Builtin.«object.__init__») (Q₁ := fun r s₁ => ∃ b, r = Value.bool b ∧ Q r s₁) PySem.F.called_bool (PySem.F.typeCall_bool_1 _) PySem.F.entry_object_init ?_ ?_
  · refine codeAny_of_tree ?_
    show wpAny _ A.in1.in1 (do checkBuiltinCall "bool.__new__" ⟨[.type "bool", x], []⟩; again (.builtin "bool.__new__" ⟨[.type "bool", x], []⟩)) _ _ s
    refine wpAny_bind (wpAny_of_eq (PySem.F.newCall_bool_1 _) (wpAny_pure ⟨plainId_quiet (by decide +kernel) _, codeAny_builtin PySem.F.entry_bool_new ?_⟩))
    rw [Around.under_plainId (by decide +kernel) _]
    unfold Builtin.«bool.__new__»
    refine wpAny_bind (wpAny_of_eq (a := true) (by kernel_rfl) ?_)
    refine PySem.W.KFB.if_not rfl ?_
    refine wpAny_bind (wpAny_of_eq (a := true) PySem.F.conv_sub_bool ?_)
    refine PySem.W.KFB.if_not rfl ?_
    refine wpAny_bind (wpAny_of_eq (a := [x]) rfl ?_)
    refine wpAny_bind (wpAny_mono h (fun b s' q => ?_) fun _ _ y => y)
    exact wpAny_pure ⟨b, rfl, q⟩
  · rintro obj s₁ ⟨b, rfl, hq⟩
    exact ⟨PySem.typeIs_bool _ _, PySem.F.args_object_init_2 _ _, object_init_meets PySem.F.called_bool.init.lookup PySem.F.called_bool.made (by decide) prog w A.in1 _ s₁ ⟨PySem.typeIs_bool _ _, rfl, hq⟩⟩
end
section
variable {X : Cx} {CX : CXT} {pins : List (Addr × Obj)} {σ : L2.St} {H : Hp} {s : Shared} {a C f : Addr} {k : Nat} {sp : Sp} {E : XK}
theorem back_of {Q : VK} {u : Value} {s' : Shared} (h : EP X pins σ Q u s') : PySem.W.CmpBack (EP X pins σ Q) u s' := by
  obtain ⟨v, H', I, r, q⟩ := id h
  unfold PySem.W.CmpBack
  split
  · cases v with
    | int i =>
      obtain ⟨t, z⟩ := r
      cases z
    | str i =>
      obtain ⟨t, z⟩ := r
      cases z
    | byt i =>
      obtain ⟨t, z⟩ := r
      cases z
    | flt i =>
      obtain ⟨t, z⟩ := r
      cases z
    | _ => cases r
  · exact h
/-- an own def runs below the running body -/
theorem run_in {A : Around} {Q : VK} {us : List Value} {vs : List V} (F : FnR X.prog X.w X.K X.mg X.base CX k f sp) (hr : Room k A) (hA : A.frames = X.A.frames) (hx : Passes CX X E) (I : Inv X pins σ H s) (r : Vals vs us) (h : sp vs H Q E) :
    wpAny (model X.prog X.w) A (call (.ref f) us) (EP X pins σ Q) X.xe s := by
  have e := I.env0
  exact wpAny_call (SlX.run_at F hr ⟨by rw [hA]; exact e.frames, e.mod, e.bs, e.bsz, e.funs, e.frf, e.hok, e.bare⟩ hx I r h)
theorem inst_of {dx : Addr} {fs : List (Str × V)} (I : Inv X pins σ H s) (e : H a = some (.ins C dx fs)) : ∃ od, PySem.W.InstAt s.heap a (PySem.W.instObj C dx) C (some od) := by
  obtain ⟨mA, O, _⟩ := ins_get I.hok e
  obtain ⟨od, J, _⟩ := O.look
  exact ⟨od, J⟩
/-- the type of a value, as typeOf tells it -/
theorem ty_looks {x : V} {u t : Value} (I : Inv X pins σ H s) (rx : RelV x u) (ty : TyX X.K H x t) : PySem.W.Looks (model X.prog X.w) s.heap (typeOf u) t := by
  obtain ⟨P, k, p, _⟩ := kit_of I rx ty
  exact k.ty _ _ I.kIn p
/-- a special method of the class at C, found as the def at f -/
structure Sm (K : PySem.W.Frag) (C : Addr) (m : Str) (f : Addr) : Prop where
  at_ : PySem.W.findIn K (.ref C) m = some (some (.ref f))
  fn : PySem.W.isFn K (.ref f) = true
def rOp (C : Addr) (sp : Sp) (E : XK) : R2 := fun x y H Q => ∃ a b dx dy fs gs, x = .ref a ∧ y = .ref b ∧ H a = some (.ins C dx fs) ∧ H b = some (.ins C dy gs) ∧ sp [x, y] H Q E
/-- a op b, both of the class at C -/
theorem op_own {op : Operator} (hc : PySem.W.selfFirst X.K C = true) (h : Sm X.K C (PySem.dunder op.info.2) f) (F : FnR X.prog X.w X.K X.mg X.base CX k f sp) (hr : Room k X.A) (hx : Passes CX X E) : OpR X (binaryOp op) (rOp C sp E) := by
  intro pins s σ H x y v u Q I rx ry q
  obtain ⟨a, b, dx, dy, fs, gs, rfl, rfl, ha, hb, q⟩ := q
  cases rx
  cases ry
  obtain ⟨od, J⟩ := inst_of I ha
  obtain ⟨od', J'⟩ := inst_of I hb
  obtain ⟨m, hF⟩ := I.fr
  refine PySem.W.binop_K hF I.ok.mod.kin J J'.type hc h.at_ h.fn (wpAny_mono (run_in (us := [.ref a, .ref b]) (vs := [.ref a, .ref b]) F hr rfl hx I (.cons rfl (.cons rfl .nil)) q) (fun _ _ z => back_of z) fun _ _ z => z)
def rOpI (C : Addr) (sp : Sp) (E : XK) : R2 := fun x y H Q => ∃ a dx fs i, x = .ref a ∧ y = .int i ∧ H a = some (.ins C dx fs) ∧ sp [x, y] H Q E
/-- a op n, n a whole number -/
theorem op_ownI {op : Operator} {fo ro : Option Value} (hc : PySem.W.selfFirst X.K C = true) (h : Sm X.K C (PySem.dunder op.info.2) f) (h0 : PySem.W.findIn X.K (.ref C) (dunderR op.info.2) = some none) (h1 : PySem.W.findIn X.K (.type "int") (PySem.dunder op.info.2) = some fo)
    (h2 : PySem.W.findIn X.K (.type "int") (dunderR op.info.2) = some ro) (hs : PySem.W.subIn X.K (.type "int") (.ref C) = some false) (F : FnR X.prog X.w X.K X.mg X.base CX k f sp) (hr : Room k X.A) (hx : Passes CX X E) : OpR X (binaryOp op) (rOpI C sp E) := by
  intro pins s σ H x y v u Q I rx ry q
  obtain ⟨a, dx, fs, i, rfl, rfl, ha, q⟩ := q
  cases rx
  obtain ⟨t, rfl⟩ := ry
  obtain ⟨od, J⟩ := inst_of I ha
  obtain ⟨m, hF⟩ := I.fr
  exact PySem.W.ksp_binT hF I.ok.mod.kin J rfl hc h.at_ h.fn h0 (.inl rfl) h1 h2 hs (wpAny_mono (run_in (us := [.ref a, .int i t]) (vs := [.ref a, .int i]) F hr rfl hx I (.cons rfl (.cons ⟨t, rfl⟩ .nil)) q) (fun _ _ z => back_of z) fun _ _ z => z)
def rUn (C : Addr) (sp : Sp) (E : XK) : V → Hp → VK → Prop := fun x H Q => ∃ a dx fs, x = .ref a ∧ H a = some (.ins C dx fs) ∧ sp [x] H Q E
/-- -a -/
theorem un_own (h : Sm X.K C "__neg__" f) (F : FnR X.prog X.w X.K X.mg X.base CX k f sp) (hr : Room k X.A) (hx : Passes CX X E) : UnR X (unaryOp .USub) (rUn C sp E) := by
  intro pins s σ H x v Q I rx q
  obtain ⟨a, dx, fs, rfl, ha, q⟩ := q
  cases rx
  obtain ⟨od, J⟩ := inst_of I ha
  obtain ⟨m, hF⟩ := I.fr
  exact PySem.W.ksp_neg hF I.ok.mod.kin J h.at_ h.fn (run_in (us := [.ref a]) (vs := [.ref a]) F hr rfl hx I (.cons rfl .nil) q)
/-- a == y by an own __eq__ -/
def rEqO (K : PySem.W.Frag) (C : Addr) (sp : Sp) (E : XK) : R2 := fun x y H Q => ∃ a dx fs t, x = .ref a ∧ H a = some (.ins C dx fs) ∧ TyX K H y t ∧ PySem.W.notFirst K C t = true ∧ sp [x, y] H Q E
theorem op_eqO (h : Sm X.K C "__eq__" f) (F : FnR X.prog X.w X.K X.mg X.base CX k f sp) (hr : Room k X.A) (hx : Passes CX X E) : OpR X (compareOp .Eq) (rEqO X.K C sp E) := by
  intro pins s σ H x y v u Q I rx ry q
  obtain ⟨a, dx, fs, t, rfl, ha, ht, hn, q⟩ := q
  cases rx
  obtain ⟨od, J⟩ := inst_of I ha
  obtain ⟨m, hF⟩ := I.fr
  exact PySem.W.cmp_K (op := .Eq) hr.units0 hF I.ok.mod.kin J (ty_looks I ry ht) hn h.at_ h.fn (wpAny_mono (run_in (us := [.ref a, u]) (vs := [.ref a, y]) F hr rfl hx I (.cons rfl (.cons ry .nil)) q) (fun _ _ z => back_of z) fun _ _ z => z)
/-- a != y where the class has an own __eq__ alone -/
def rNeO (K : PySem.W.Frag) (C : Addr) (sp : Sp) (E : XK) : R2 := fun x y H Q => ∃ a dx fs t, x = .ref a ∧ H a = some (.ins C dx fs) ∧ TyX K H y t ∧ PySem.W.notFirst K C t = true ∧ sp [x, y] H (fun v H' => ∃ k, v = .bl k ∧ Q (.bl (!k)) H') E
theorem op_neO (h : Sm X.K C "__eq__" f) (hne : PySem.W.findIn X.K (.ref C) "__ne__" = some (some (.builtin "object.__ne__"))) (ho : PySem.W.mroIn X.K C (.type "object") = some true) (F : FnR X.prog X.w X.K X.mg X.base CX k f sp) (hr : Room (k + 1) X.A) (hx : Passes CX X E) :
    OpR X (compareOp .NotEq) (rNeO X.K C sp E) := by
  intro pins s σ H x y v u Q I rx ry q
  obtain ⟨a, dx, fs, t, rfl, ha, ht, hn, q⟩ := q
  cases rx
  obtain ⟨od, J⟩ := inst_of I ha
  refine ne_K (by have := hr.units; omega) I.kIn J (ty_looks I ry ht) hn ho hne h.at_ h.fn (wpAny_mono (run_in (us := [.ref a, u]) (vs := [.ref a, y]) F hr.in1 rfl hx I (.cons rfl (.cons ry .nil)) q) (fun w s' z => ?_) fun _ _ z => z)
  obtain ⟨v', H', I', r', kk, rfl, q'⟩ := z
  cases r'
  exact ⟨kk, rfl, .bl (!kk), H', I', rfl, q'⟩
/-- what len tells -/
def rLenO (C : Addr) (sp : Sp) (E : XK) : List V → Hp → VK → Prop := fun xs H Q => ∃ a dx fs, xs = [.ref a] ∧ H a = some (.ins C dx fs) ∧ sp xs H (fun v H' => ∃ n : Int, v = .int n ∧ 0 ≤ n ∧ n < 2 ^ 63 ∧ Q (.int n) H') E
theorem len_back {Q : Value → Shared → Prop} {Q' : Int → Hp → Prop} (hq : ∀ (n : Int) (H' : Hp) (s' : Shared) (t : Nat), Inv X pins σ H' s' → Q' n H' → Q (.int n t) { s' with toks := t + 1 }) {u : Value} {s' : Shared}
    (h : EP X pins σ (fun v H' => ∃ n : Int, v = .int n ∧ 0 ≤ n ∧ n < 2 ^ 63 ∧ Q' n H') u s') : PySem.W.LenBack Q u s' := by
  obtain ⟨v, H', I, r, n, rfl, h0, h1, q⟩ := h
  obtain ⟨t, rfl⟩ := r
  exact ⟨⟨h0, h1⟩, hq n H' s' _ I q⟩
theorem call_lenO (h : Sm X.K C "__len__" f) (F : FnR X.prog X.w X.K X.mg X.base CX k f sp) (hr : Room (k + 1) X.A) (hx : Passes CX X E) : CallR X (.builtin "len") (rLenO C sp E) := by
  intro pins s σ H xs us Q I r q
  obtain ⟨a, dx, fs, rfl, ha, q⟩ := q
  obtain ⟨u, rfl, ru⟩ := vals1 r
  cases ru
  obtain ⟨od, J⟩ := inst_of I ha
  obtain ⟨m, hF⟩ := I.fr
  refine PySem.W.len_K hF I.ok.mod.kin J h.at_ h.fn (wpAny_mono (run_in (us := [.ref a]) (vs := [.ref a]) F hr.in1 rfl hx I (.cons rfl .nil) q) (fun w s' z => len_back (Q' := fun n H' => Q (.int n) H') (fun n H' s' t I' q' => ?_) z) fun _ _ z => z)
  exact ⟨.int n, H', I'.tok _, ⟨_, rfl⟩, q'⟩
def rTruO (C : Addr) (sp : Sp) (E : XK) : V → Hp → (Bool → Hp → Prop) → Prop := fun x H Q => ∃ a dx fs, x = .ref a ∧ H a = some (.ins C dx fs) ∧ sp [x] H (fun v H' => ∃ n : Int, v = .int n ∧ 0 ≤ n ∧ n < 2 ^ 63 ∧ Q (n != 0) H') E
theorem tru_in {A : Around} {x : V} {v : Value} {Q : Bool → Hp → Prop} (hb : PySem.W.findIn X.K (.ref C) "__bool__" = some none) (h : Sm X.K C "__len__" f) (F : FnR X.prog X.w X.K X.mg X.base CX k f sp) (hr : Room (k + 1) A) (hA : A.frames = X.A.frames) (hx : Passes CX X E)
    (I : Inv X pins σ H s) (rx : RelV x v) (q : rTruO C sp E x H Q) : wpAny (model X.prog X.w) A (truthy v) (TP X pins σ Q) X.xe s := by
  obtain ⟨a, dx, fs, rfl, ha, q⟩ := q
  cases rx
  obtain ⟨od, J⟩ := inst_of I ha
  refine truthy_len I.kIn J hb h.at_ h.fn (wpAny_mono (run_in (us := [.ref a]) (vs := [.ref a]) F hr.in1 hA hx I (.cons rfl .nil) q) (fun w s' z => len_back (Q' := fun n H' => Q (n != 0) H') (fun n H' s' t I' q' => ?_) z) fun _ _ z => z)
  exact ⟨n, t, rfl, H', I'.tok _, q'⟩
theorem tru_own (hb : PySem.W.findIn X.K (.ref C) "__bool__" = some none) (h : Sm X.K C "__len__" f) (F : FnR X.prog X.w X.K X.mg X.base CX k f sp) (hr : Room (k + 1) X.A) (hx : Passes CX X E) : TruR X (rTruO C sp E) :=
  fun pins s σ H x v Q I rx q => tru_in hb h F hr rfl hx I rx q
/-- bool(a) -/
theorem call_boolO (hb : PySem.W.findIn X.K (.ref C) "__bool__" = some none) (h : Sm X.K C "__len__" f) (F : FnR X.prog X.w X.K X.mg X.base CX k f sp) (hr : Room (k + 3) X.A) (hx : Passes CX X E) :
    CallR X (.type "bool") (fun xs H Q => ∃ x, xs = [x] ∧ rTruO C sp E x H fun b H' => Q (.bl b) H') := by
  intro pins s σ H xs us Q I r q
  obtain ⟨x, rfl, q⟩ := q
  obtain ⟨u, rfl, ru⟩ := vals1 r
  have hr2 : Room (k + 1) X.A.in1.in1 := (show Room (k + 2) X.A.in1 from Room.in1 hr).in1
  refine bool_of (wpAny_mono (tru_in hb h F hr2 rfl hx I ru q) (fun b s' z => ?_) fun _ _ z => z)
  obtain ⟨H', I', q'⟩ := z
  exact ⟨.bl b, H', I', rfl, q'⟩
/-- not a, as a value -/
theorem pe_notO {e : Expr} {pos : Pos} {ta : TE} (hb : PySem.W.findIn X.K (.ref C) "__bool__" = some none) (h : Sm X.K C "__len__" f) (F : FnR X.prog X.w X.K X.mg X.base CX k f sp) (hr : Room (k + 1) X.A) (hx : Passes CX X E) (ha : PE X e ta) :
    PE X (.UnaryOp .Not e pos) (fun σ H Q => ta σ H fun x H1 => rTruO C sp E x H1 fun b H2 => Q (.bl (!b)) H2) := by
  refine ⟨fun pins s σ H Q I h' => ?_⟩
  refine UnaryOp_ (thn (ha.run pins s σ H _ I h') fun v s1 ⟨x, H1, I1, r1, q1⟩ => ?_)
  exact not_of (thn (tru_in hb h F hr rfl hx I1 r1 q1) fun c s2 ⟨H2, I2, q2⟩ => ⟨.bl (!c), H2, I2, rfl, q2⟩)
def rIxO (C : Addr) (sp : Sp) (E : XK) : R2 := fun x y H Q => ∃ a dx fs, x = .ref a ∧ H a = some (.ins C dx fs) ∧ sp [x, y] H Q E
/-- a[y] -/
theorem pe_ixO {e i : Expr} {pos : Pos} {ta tb : TE} (h : Sm X.K C "__getitem__" f) (hfn : PySem.W.fnIn X.K f = true) (F : FnR X.prog X.w X.K X.mg X.base CX k f sp) (hr : Room (k + 1) X.A) (hx : Passes CX X E) (ha : PE X e ta) (hb : PE X i tb)
    (hsl : ∀ o j, subscripted i true o j = runValue (.builtin "lifetime.subscript" ⟨[o, j], []⟩) := by intros; rfl) : PE X (.Subscript e i pos) (tOp (rIxO C sp E) ta tb) := by
  refine ⟨fun pins s σ H Q I h' => ?_⟩
  refine Subscript_ (binT ha hb I h' fun v u s2 x y H2 I2 rx ry q => ?_)
  obtain ⟨a, dx, fs, rfl, he, q⟩ := q
  cases rx
  obtain ⟨od, J⟩ := inst_of I2 he
  obtain ⟨m, hF⟩ := I2.fr
  exact PySem.W.sub_K hF I2.ok.mod.kin J h.at_ hfn h.fn (run_in (us := [.ref a, u]) (vs := [.ref a, y]) F hr.in1 rfl hx I2 (.cons rfl (.cons ry .nil)) q) (hsl _ _)
end
end Xr
set_option maxHeartbeats 4000000
/-! super().__init__() in a plain class; def f(self, **d) -/
namespace Xr
open PySem PySem.Spec PyProof.Rows L2
section
open PySem.W
variable {prog : Program} {w : World} {A : Around} {E : Value → Shared → Prop} {K : Frag} {mg : Str → Option Value} {base : Heap} {C fI cda cc : Addr}
/-- super() of an instance: the receiver -/
theorem supRecv {s : Shared} {body : List Stmt} {q' : Str} {fd : FuncData} {sc : Scope} {L e : Addr} {m : Str → Option Value} {oc ccl cl : Value} {od cdd cld : Option Addr} {osl ccs csl : Array (Option Value)} {vs : Array Value} {tf : Tok} {p0 p1 : Pos} {whole : Sem Value} {Q : Value → Shared → Prop} {ox : Obj} {ar : Arg}
    (hk : sc.kind = .function) (hks : sc.names.lookup ("super" : Str) = some .globalImplicit) (hkc : sc.names.lookup ("__class__" : Str) = some .free) (ha : (fd.params.posonlyargs ++ fd.params.args).head? = some ar) (hla : sc.names.lookup ar.arg = some .local)
    (M : L2.Mod K mg base) (st : ∀ b o, base.get? b = some o → s.heap.get? b = some o) (hns : s.heap.Ns L m) (hm : m ar.arg = some (.ref e)) (he : s.heap.get? e = some ox) (hx : ox.cls = .ref C) (hxc : ∀ c, ox.data ≠ .cls c)
    (hf : K.lookup fI = some ⟨oc, od, .func fd, osl⟩) (hc : K.lookup cda = some ⟨ccl, cdd, .fields vs, ccs⟩) (hv : vs[2]? = some (.str prog.main.file tf))
    (hcell : K.lookup cc = some ⟨cl, cld, .cell (some (.ref C)), csl⟩) {cd : ClassData} (hC : clsIn K C = some cd) (hsub : subIn K (.ref C) (.ref C) = some true) (hsup : nsIn K mainGlobals "super" = some none) (htop : (prog.main.scope.names.lookup ("super" : Str)).isSome = false)
    (h : ∀ h', h'.get? s.heap.objs.size = some (ks_superObj C e C) → (∀ b o, s.heap.get? b = some o → h'.get? b = some o) → Q (.ref s.heap.objs.size) { s with heap := h' }) :
    PySem.wpAt (model prog w) A (.func body (ksEnv q' sc L fI (.ref cda) cc)) (attributeBase (.Call (.Name "super" p0) [] [] p1) "__init__" (ksEnv q' sc L fI (.ref cda) cc) whole) Q E s := by
  have X : K.In s.heap := M.kin.keeps st
  obtain ⟨hh, g, d, t, os⟩ := s
  obtain ⟨oD, hD1, hD2⟩ : ∃ oD, hh.get? C = some oD ∧ oD.data = .cls cd := by
    unfold clsIn at hC
    split at hC
    · rename_i c d cd' sl ho
      cases hC
      exact ⟨_, X _ _ ho, rfl⟩
    · cases hC
  obtain ⟨mb, hb, hbv⟩ := M.blt
  refine ks_wpAt_super_base (env := ksEnv q' sc L fI (.ref cda) cc) hks hkc (by decide) rfl (X _ _ hf) rfl ha rfl (X _ _ hc) rfl hv (by simp) htop ?_
  refine ks_loadName_global hk hks (PySem.Calls.loadGlobal_builtin (env := ksEnv q' sc L fI (.ref cda) cc) (M.glob.keeps st) (mg_none_of M.kin M.glob hsup) (hb.keeps st) ((hbv _ (by decide +kernel)).trans bootSuper) ⟨rfl, ?_⟩)
  refine wpAny_loadName_free hk hkc rfl ⟨_, X _ _ hcell, rfl⟩ ?_
  refine wpAny_loadName_local hk hla hns hm ?_
  refine ks_wpAny_isType_cls hD1 hD2 ⟨rfl, ?_⟩
  exact ks_wpAny_call_super hD1 hD2 he hx hxc (looks_subIn X hsub) fun h' z k => h h' z k
end
/-- a def of the class at C that says super().__init__(..): the def above it is at g -/
structure SupF (P : Program) (K : PySem.W.Frag) (C f g : Addr) (q : Str) (params : Arguments) (body : List Stmt) (sc : Scope) (fd : FuncData) (cda cc : Addr) : Prop where
  fn : ∃ kV doc pm an ct oc od osl, fd = PySem.W.ksFn "__init__" q params body sc .none kV doc pm an (.ref cda) ct cc ∧ K.lookup f = some ⟨oc, od, .func fd, osl⟩
  code : PySem.W.codeIn K (.ref cda) q = true
  cell : ∃ cl cld csl, K.lookup cc = some ⟨cl, cld, .cell (some (.ref C)), csl⟩
  file : ∃ ccl cdd vs ccs tf, K.lookup cda = some ⟨ccl, cdd, .fields vs, ccs⟩ ∧ vs[2]? = some (.str P.main.file tf)
  cls : ∃ cd, PySem.W.clsIn K C = some cd
  sub : PySem.W.subIn K (.ref C) (.ref C) = some true
  up : PySem.W.ks_superIn K C C "__init__" = some (some (.ref g))
  tg : PySem.W.typeIn K (.ref g) = some (.type "function")
  fg : PySem.W.fnIn K g = true
  opq : PySem.W.nsIn K cStatics "thirdparty.any" = some none
  sup : PySem.W.nsIn K mainGlobals "super" = some none
  top : (P.main.scope.names.lookup ("super" : Str)).isSome = false
abbrev supNF (q : Str) (params : Arguments) (body : List Stmt) (sc : Scope) (cda cc : Addr) : NdefX.NF := ⟨"__init__", q, params, body, sc, [("__class__", cc)], cda⟩
/-- super().__init__() behind its receiver -/
theorem sup_go {X : Cx} {CX' : CXT} {k : Nat} {σ : L2.St} {H : Hp} {s : Shared} {h1 : Heap} {C g a dx : Addr} {fs : List (Str × V)} {spG : Sp} {E' : XK} {Q : VK} {pl : Sem Bool} {p4 : Pos} (I : Inv X [] σ H s) (ea : H a = some (.ins C dx fs)) (G : FnR X.prog X.w X.K X.mg X.base CX' k g spG) (hr : Room k X.A) (hx : Passes CX' X E')
    (hs1 : h1.get? s.heap.objs.size = some (PySem.W.ks_superObj C a C)) (k1 : ∀ b o, s.heap.get? b = some o → h1.get? b = some o) (hcd : ∃ cd, PySem.W.clsIn X.K C = some cd) (up : PySem.W.ks_superIn X.K C C "__init__" = some (some (.ref g))) (tg : PySem.W.typeIn X.K (.ref g) = some (.type "function"))
    (fg : PySem.W.fnIn X.K g = true) (opq : PySem.W.nsIn X.K cStatics "thirdparty.any" = some none) (h : spG [.ref a] H Q E') :
    wpAny (model X.prog X.w) X.A (getMethod (.ref s.heap.objs.size) "__init__" pl) (fun fx s2 => wpAny (model X.prog X.w) X.A (callWith p4 fx.1 fx.2 (backTo p4 (starEach [] X.env)) []) (EP X [] σ Q) X.xe s2) X.xe { s with heap := h1 } := by
  have I1 : Inv X [(s.heap.objs.size, PySem.W.ks_superObj C a C)] σ H { s with heap := h1, toks := s.toks } := ClX.pin_new I k1 (Nat.le_refl _) hs1 (fun v z => nomatch z)
  obtain ⟨cd, hc⟩ := hcd
  have X1 : X.K.In h1 := I1.kIn
  obtain ⟨od0, J0⟩ := inst_of I1 ea
  unfold PySem.W.ks_superIn at up
  rw [hc] at up
  obtain ⟨of, hof, hofc⟩ : ∃ of, h1.get? g = some of ∧ of.cls = .type "function" := by
    have ht' : (X.K.lookup g).map (·.cls) = some (.type "function") := tg
    cases z : X.K.lookup g with
    | none => rw [z] at ht'; cases ht'
    | some of => rw [z] at ht'; exact ⟨of, X1 _ _ z, Option.some.inj ht'⟩
  obtain ⟨hh, gg, d, t, os⟩ := s
  refine PySem.ks_wpAny_getMethod_super hs1 (PySem.W.looks_opaque X1 opq) (l₀ := cd.mro) (fun A Q E s k q => wpAny_bind ((PySem.W.looks_clsIn X1 hc) A _ E s k (wpAny_pure q))) rfl X1 up hof hofc (PySem.W.ks_ne X1 J0 hc) (by decide) ?_
  have I2 : Inv X [(h1.objs.size, PySem.W.methodObj (.ref g) (.ref a)), (hh.objs.size, PySem.W.ks_superObj C a C)] σ H ⟨h1.push (PySem.W.methodObj (.ref g) (.ref a)), gg, d, t + 1, os⟩ :=
    ClX.pin_new (s := ⟨h1, gg, d, t, os⟩) (t' := t + 1) I1 (fun _ _ z => Heap.get?_push_of_some _ z) (Nat.le_refl _) (Heap.get?_push_size h1 rfl) (fun v z => nomatch z)
  refine PySem.W.callWith_M0 (X := ⟨ClX.pin_at I2, I2.kIn⟩) fg ?_
  have z := ClX.run_cm (us := []) (vs := []) (Q := Q) G hr hx I2 .nil h
  exact thn z fun _ _ y => ClX.unpinE y
section
variable {CX CX' : CXT} {P : Program} {w : World} {K : PySem.W.Frag} {mg : Str → Option Value} {base : Heap} {k : Nat} {f C g : Addr} {q : Str} {params : Arguments} {rest : List Stmt} {sc : Scope} {fd : FuncData} {N ps : List Str} {sp spG : Sp} {cda cc : Addr} {p0 p1 p2 p4 p5 : Pos}
theorem fn_sup0 (T : SupF P K C f g q params (.Expr (supCall p0 p1 p2 p4 []) p5 :: rest) sc fd cda cc) (S : NdefX.NScope N (("self" : Str) :: ps) ["__class__"] sc) (hks : sc.names.lookup ("super" : Str) = some .globalImplicit) (ha : ∃ ar, (params.posonlyargs ++ params.args).head? = some ar ∧ ar.arg = "self") (ev : SupEv p0 p1 p2 p4 [])
    (G : FnR P w K mg base CX' k g spG) (len : ∀ vs H Q E, sp vs H Q E → vs.length = ps.length + 1)
    (hbody : ∀ (A : Around) (outer : List Env) (s : Shared) (H : Hp) (vs : List V) (Q : VK) (E : XK), Room k (A.deeper (NdefX.envF (supNF q params (.Expr (supCall p0 p1 p2 p4 []) p5 :: rest) sc cda cc) f s.heap.objs.size)) → sp vs H Q E →
      ∃ a dx fs ws u E', vs = .ref a :: ws ∧ H a = some (.ins C dx fs) ∧ Passes CX' (NdefX.ncx CX P w K mg base N (supNF q params (.Expr (supCall p0 p1 p2 p4 []) p5 :: rest) sc cda cc) f A outer s H E) E' ∧
        PSs (NdefX.ncx CX P w K mg base N (supNF q params (.Expr (supCall p0 p1 p2 p4 []) p5 :: rest) sc cda cc) f A outer s H E) rest u ∧
        spG [.ref a] H (fun _ H2 => u { nx := fun _ H' => Q .non H', rt := Q } (NdefX.startF N vs [none]) H2) E') :
    FnOk P w K mg base CX (k + 1) f fd (("self" : Str) :: ps) sp := by
  obtain ⟨kV, doc, pm, an, ct, oc, od, osl, rfl, lk⟩ := T.fn
  obtain ⟨cl, cld, csl, hcell⟩ := T.cell
  obtain ⟨ccl, cdd, vs0, ccs, tf, hcda, hvs⟩ := T.file
  obtain ⟨cd, hcd⟩ := T.cls
  obtain ⟨ar, har, hself⟩ := ha
  refine ⟨len, fun A outer s H args us vs Q E hr e0 hb r hsp => ?_⟩
  have hl := len _ _ _ _ hsp
  have keep0 : ∀ b o, base.get? b = some o → s.heap.get? b = some o := fun b o z => (e0.bs b o z).1
  have KX : K.In s.heap := e0.mod.kin.keeps keep0
  have hloc : ∀ y ∈ (("self" : Str) :: ps).zip us, sc.names.lookup y.1 = some .local := fun y hy => S.par _ (List.of_mem_zip (show (y.1, y.2) ∈ _ from hy)).1
  obtain ⟨a, dx, fs, ws, u, E', rfl, ea, hx, hu, hg⟩ := hbody A outer s H vs Q E (hr.deeper _) hsp
  obtain ⟨ua, uw, rfl, ra, rw'⟩ : ∃ ua uw, us = ua :: uw ∧ RelV (.ref a) ua ∧ Vals ws uw := by
    cases r with
    | cons a b => exact ⟨_, _, rfl, a, b⟩
  cases ra
  refine PySem.ks_codeAny_call_defAt (fd := PySem.W.ksFn "__init__" q params (.Expr (supCall p0 p1 p2 p4 []) p5 :: rest) sc .none kV doc pm an (.ref cda) ct cc) (body := .Expr (supCall p0 p1 p2 p4 []) p5 :: rest) (binds := (("self" : Str) :: ps).zip (Value.ref a :: uw))
    hr.depth (KX _ _ lk) rfl (e0.mod.nolimit.keeps keep0) (PySem.W.codeRec_of KX T.code) rfl hb S.nocell hloc (fun h0 hns k0 => ?_) S.co S.gen S.kind
  show PySem.wpAt _ _ (.func (.Expr (supCall p0 p1 p2 p4 []) p5 :: rest) (PySem.W.ksEnv q sc s.heap.objs.size f (.ref cda) cc)) (execs (.Expr (supCall p0 p1 p2 p4 []) p5 :: rest) (PySem.W.ksEnv q sc s.heap.objs.size f (.ref cda) cc)) _ _ _
  have ok : ∀ y c, ([("__class__", cc)] : List (Str × Addr)).lookup y = some c → y = "__class__" ∧ c = cc := fun y c e => by
    by_cases hy : y = "__class__"
    · subst hy
      simp [List.lookup] at e
      exact ⟨rfl, e.symm⟩
    · have : (y == ("__class__" : Str)) = false := beq_eq_false_iff_ne.mpr hy
      simp [List.lookup, this] at e
  have cells : NdefX.CellsAt [("__class__", cc)] ["__class__"] [none] s.heap H := by
    refine ⟨rfl, fun y c e => ?_, fun x y c e1 e2 => (ok x c e1).1.trans (ok y c e2).1.symm, fun i y e => ?_⟩
    · rw [(ok y c e).2]
      have z := e0.mod.kin _ _ hcell
      exact ⟨(e0.bs _ _ z).2, _, _, (e0.bs _ _ z).1, rfl⟩
    · cases i with
      | zero =>
        cases e
        exact ⟨cc, by simp [List.lookup], fun v e => by cases e⟩
      | succ i => cases e
  have I0 : Inv (NdefX.ncx CX P w K mg base N (supNF q params (.Expr (supCall p0 p1 p2 p4 []) p5 :: rest) sc cda cc) f A outer s H E) [] (NdefX.startF N (.ref a :: ws) [none]) H { s with heap := h0, toks := s.toks + ((("self" : Str) :: ps).zip (Value.ref a :: uw)).length } :=
    NdefX.inv_startN (F := supNF q params (.Expr (supCall p0 p1 p2 p4 []) p5 :: rest) sc cda cc) S hr.hd e0 hl (.cons rfl rw') cells hns k0
  have hint : interactive (PySem.W.ksEnv q sc s.heap.objs.size f (.ref cda) cc) = false := by
    unfold interactive
    simp [S.kind]
  obtain ⟨pl, hpl⟩ := ev (PySem.W.ksEnv q sc s.heap.objs.size f (.ref cda) cc)
  obtain ⟨od0, J0⟩ := inst_of I0 ea
  refine ks_wpAt_execs_cons (ks_wpAt_Expr_any (hi := hint) (ks_wpAt_MethodCall (he := hpl) (supRecv (fd := PySem.W.ksFn "__init__" q params (.Expr (supCall p0 p1 p2 p4 []) p5 :: rest) sc .none kV doc pm an (.ref cda) ct cc) (ar := ar) S.kind hks (S.frk _ (List.mem_cons_self ..)) har
    (by rw [hself]; exact S.par _ (List.mem_cons_self ..)) e0.mod (fun b o z => k0 b o (keep0 b o z)) hns ?_ J0.at_ J0.cls (fun c z => by cases z) lk hcda hvs hcell hcd T.sub T.sup T.top (fun h1 hs1 k1 => ?_))))
  · have nd : (("self" : Str) :: ps).Nodup := by
      have z := S.nd.sublist (List.take_sublist ((("self" : Str) :: ps).length + (["__class__"] : List Str).length) N)
      rw [S.pre] at z
      exact (List.nodup_append.mp z).1
    rw [hself]
    exact NdefX.zip_look (i := 0) nd rfl rfl
  · have z := sup_go (p4 := p4) (pl := pl) I0 ea G (hr.deeper _) hx hs1 k1 T.cls T.up T.tg T.fg T.opq hg
    refine wpAny_mono z (fun fx s2 z2 => ?_) fun _ _ z => z
    refine wpAny_mono z2 (fun v s3 z3 => ?_) fun _ _ z => z
    obtain ⟨v', H3, I3, _, q3⟩ := z3
    refine PySem.wpAt_of_wpAny (wpAny_mono (hu.run [] s3 _ H3 _ I3 q3) (fun fl s' hs => ?_) fun e s' hs => hs)
    rcases fl with _ | _ | _ | u'
    · obtain ⟨σ', H', J', q⟩ := hs
      exact ⟨V.non, H', J'.os, J'.bare, J'.base, J'.hok, rfl, q⟩
    · obtain ⟨_, _, _, q⟩ := hs
      exact q.elim
    · obtain ⟨_, _, _, q⟩ := hs
      exact q.elim
    · obtain ⟨v2, σ', H', J', rv, q⟩ := hs
      exact ⟨v2, H', J'.os, J'.bare, J'.base, J'.hok, rv, q⟩
end
end Xr
set_option maxHeartbeats 4000000
/-! walks and comprehensions over anything that yields known items; dicts of flat values compared -/
namespace Xr
open PySem PySem.Spec PyProof.Rows L2
/-- J yields the items xs, as long as P holds of the heap -/
structure Yl (J : It) (xs : List V) (P : Hp → Prop) : Prop where
  stop : ∀ i H, P H → xs.length ≤ i → J.stop i H
  go : ∀ i H, P H → i < xs.length → J.go i H
  yld : ∀ i H x H', P H → i < xs.length → J.yld i H x H' → H' = H ∧ xs[i]? = some x
theorem yl_list {K : PySem.W.Frag} {a : Addr} {xs : List V} : Yl (Itl K a) xs (fun H => SqL K H a xs) :=
  ⟨fun i H h l => ⟨xs, h, l⟩, fun i H h l => ⟨xs, xs[i], h, List.getElem?_eq_getElem l⟩, fun i H x H' h l y => ⟨y.1, y.2 xs h⟩⟩
theorem yl_tup {K : PySem.W.Frag} {a : Addr} {xs : List V} : Yl (Itt K a) xs (fun H => SqT K H a xs) :=
  ⟨fun i H h l => ⟨xs, h, l⟩, fun i H h l => ⟨xs, xs[i], h, List.getElem?_eq_getElem l⟩, fun i H x H' h l y => ⟨y.1, y.2 xs h⟩⟩
theorem yl_keys {d : Addr} {o : Obj} {kvs : List (Key × V)} : Yl (Itk d o kvs) (kvs.map fun p => kV p.1) (fun H => H d = some (.frz o (.dK kvs))) := by
  refine ⟨fun i H h l => ⟨h, by simpa using l⟩, fun i H h l => ⟨h, by simpa using l⟩, fun i H x H' h l y => ?_⟩
  obtain ⟨e, k, v, hi, rfl⟩ := y
  exact ⟨e, by rw [List.getElem?_map, hi]; rfl⟩
theorem yl_vals {d : Addr} {o : Obj} {kvs : List (Key × V)} : Yl (Itd d o kvs) (kvs.map (·.2)) (fun H => H d = some (.frz o (.dK kvs))) := by
  refine ⟨fun i H h l => ⟨h, by simpa using l⟩, fun i H h l => ⟨h, by simpa using l⟩, fun i H x H' h l y => ?_⟩
  obtain ⟨e, k, hi⟩ := y
  exact ⟨e, by rw [List.getElem?_map, hi]; rfl⟩
/-- the signs of a text, each a text -/
def signsV (x : Str) : List V := x.cps.toList.map fun c => .str ⟨#[c]⟩
theorem yl_str {x : Str} : Yl (Its x) (signsV x) (fun _ => True) := by
  refine ⟨fun i H h l => show x.cps.size ≤ i by simpa [signsV] using l, fun i H h l => show i < x.cps.size by simpa [signsV] using l, fun i H v H' h l y => ?_⟩
  obtain ⟨e, c, hi, rfl⟩ := y
  refine ⟨e, ?_⟩
  unfold signsV
  rw [List.getElem?_map, Array.getElem?_toList, hi]
  rfl
theorem yl_range {lo : Int} {n : Nat} : Yl (Itr lo n) ((List.range n).map fun i : Nat => V.int (lo + (i : Int))) (fun _ => True) := by
  refine ⟨fun i H h l => show n ≤ i by simpa using l, fun i H h l => show i < n by simpa using l, fun i H x H' h l y => ⟨y.1, ?_⟩⟩
  rw [y.2, List.getElem?_map, List.getElem?_range (by simpa using l)]
  rfl
section
variable {J : It} {xs : List V} {P : Hp → Prop}
/-- a for over J -/
theorem forP (Y : Yl J xs P) {g : TG} {tb : TS} {D : Ends} {σ : L2.St} {H : Hp} (Pv : Nat → L2.St → Hp → Prop) (h0 : Pv 0 σ H) (hl : ∀ i σ H, i ≤ xs.length → Pv i σ H → P H)
    (hs : ∀ i x σ H, xs[i]? = some x → Pv i σ H → g x σ H fun σ2 H2 => tb { D with nx := Pv (i + 1), ct := Pv (i + 1), bk := D.nx } σ2 H2) (hd : ∀ σ H, Pv xs.length σ H → D.nx σ H) :
    ∃ W : Nat → Nat → L2.St → Hp → Prop, (∃ m, W 0 m σ H) ∧ ∀ i m σ H, W i m σ H →
      (J.stop i H ∧ D.nx σ H) ∨ (J.go i H ∧ ∃ N : L2.St → Hp → Prop, (∀ σ' H', N σ' H' → ∃ m', m' < m ∧ W (i + 1) m' σ' H') ∧ ∀ x H', J.yld i H x H' → g x σ H' fun σ2 H2 => tb { D with nx := N, ct := N, bk := D.nx } σ2 H2) := by
  refine ⟨fun i m σ H => m = xs.length - i ∧ i ≤ xs.length ∧ Pv i σ H, ⟨xs.length, by simp, Nat.zero_le _, h0⟩, ?_⟩
  rintro i m σ H ⟨rfl, hi, p⟩
  have q := hl i σ H hi p
  by_cases hlt : i < xs.length
  · refine .inr ⟨Y.go i H q hlt, Pv (i + 1), fun σ' H' p' => ⟨xs.length - (i + 1), by omega, rfl, hlt, p'⟩, fun x H' y => ?_⟩
    obtain ⟨rfl, hx⟩ := Y.yld i H x H' q hlt y
    exact hs i x σ _ hx p
  · obtain rfl : i = xs.length := by omega
    exact .inl ⟨Y.stop _ H q (Nat.le_refl _), hd σ H p⟩
/-- a list comprehension over J -/
theorem lcG (Y : Yl J xs P) {g : TG} {tt : TT} {te : TE} {vs : List Nat} {σ : L2.St} {H1 : Hp} {D : Addr} {Qd : Hp → Prop} (Pv : Nat → Hp → Prop) (h0 : Pv 0 (upd H1 D (.lst []))) (hl : ∀ i H, i ≤ xs.length → Pv i H → P H)
    (hs : ∀ i x H, xs[i]? = some x → Pv i H → g x (wipe σ vs) H fun σ2 H2 => wipe σ2 vs = wipe σ vs ∧ tt σ2 H2 fun b H3 =>
      if b = true then te σ2 H3 fun y H4 => ∃ acc, H4 D = some (.lst acc) ∧ acc.length < sizeLine ∧ Pv (i + 1) (upd H4 D (.lst (acc ++ [y]))) else Pv (i + 1) H3) (hd : ∀ H, Pv xs.length H → Qd H) :
    ∃ W : Nat → Nat → Hp → Prop, (∃ m, W 0 m (upd H1 D (.lst []))) ∧ ∀ i m H, W i m H →
      (J.stop i H ∧ Qd H) ∨ (J.go i H ∧ ∃ Nx : Hp → Prop, (∀ H', Nx H' → ∃ m', m' < m ∧ W (i + 1) m' H') ∧ ∀ x H', J.yld i H x H' → g x (wipe σ vs) H' fun σ2 H2 => wipe σ2 vs = wipe σ vs ∧ tt σ2 H2 fun b H3 =>
        if b = true then te σ2 H3 fun y H4 => ∃ acc, H4 D = some (.lst acc) ∧ acc.length < sizeLine ∧ Nx (upd H4 D (.lst (acc ++ [y]))) else Nx H3) := by
  refine ⟨fun i m H => m = xs.length - i ∧ i ≤ xs.length ∧ Pv i H, ⟨xs.length, by simp, Nat.zero_le _, h0⟩, ?_⟩
  rintro i m H ⟨rfl, hi, p⟩
  have q := hl i H hi p
  by_cases hlt : i < xs.length
  · refine .inr ⟨Y.go i H q hlt, Pv (i + 1), fun H' p' => ⟨xs.length - (i + 1), by omega, rfl, hlt, p'⟩, fun x H' y => ?_⟩
    obtain ⟨rfl, hx⟩ := Y.yld i H x H' q hlt y
    exact hs i x _ hx p
  · obtain rfl : i = xs.length := by omega
    exact .inl ⟨Y.stop _ H q (Nat.le_refl _), hd H p⟩
/-- a dict comprehension over J -/
theorem dcG (Y : Yl J xs P) {g : TG} {tt : TT} {tk tv : TE} {vs : List Nat} {σ : L2.St} {H1 : Hp} {D : Addr} {Qd : Hp → Prop} (Pv : Nat → Hp → Prop) (h0 : Pv 0 (upd H1 D (.dK []))) (hl : ∀ i H, i ≤ xs.length → Pv i H → P H)
    (hs : ∀ i x H, xs[i]? = some x → Pv i H → g x (wipe σ vs) H fun σ2 H2 => wipe σ2 vs = wipe σ vs ∧ tt σ2 H2 fun b H3 =>
      if b = true then tk σ2 H3 fun y H4 => tv σ2 H4 fun z H5 => ∃ kvs k, y = kV k ∧ H5 D = some (.dK kvs) ∧ kvs.length < sizeLine ∧ Pv (i + 1) (upd H5 D (.dK (putK kvs k z))) else Pv (i + 1) H3) (hd : ∀ H, Pv xs.length H → Qd H) :
    ∃ W : Nat → Nat → Hp → Prop, (∃ m, W 0 m (upd H1 D (.dK []))) ∧ ∀ i m H, W i m H →
      (J.stop i H ∧ Qd H) ∨ (J.go i H ∧ ∃ Nx : Hp → Prop, (∀ H', Nx H' → ∃ m', m' < m ∧ W (i + 1) m' H') ∧ ∀ x H', J.yld i H x H' → g x (wipe σ vs) H' fun σ2 H2 => wipe σ2 vs = wipe σ vs ∧ tt σ2 H2 fun b H3 =>
        if b = true then tk σ2 H3 fun y H4 => tv σ2 H4 fun z H5 => ∃ kvs k, y = kV k ∧ H5 D = some (.dK kvs) ∧ kvs.length < sizeLine ∧ Nx (upd H5 D (.dK (putK kvs k z))) else Nx H3) := by
  refine ⟨fun i m H => m = xs.length - i ∧ i ≤ xs.length ∧ Pv i H, ⟨xs.length, by simp, Nat.zero_le _, h0⟩, ?_⟩
  rintro i m H ⟨rfl, hi, p⟩
  have q := hl i H hi p
  by_cases hlt : i < xs.length
  · refine .inr ⟨Y.go i H q hlt, Pv (i + 1), fun H' p' => ⟨xs.length - (i + 1), by omega, rfl, hlt, p'⟩, fun x H' y => ?_⟩
    obtain ⟨rfl, hx⟩ := Y.yld i H x H' q hlt y
    exact hs i x _ hx p
  · obtain rfl : i = xs.length := by omega
    exact .inl ⟨Y.stop _ H q (Nat.le_refl _), hd H p⟩
theorem same_upd {H1 H' : Hp} {D : Addr} {o : HO} (hD : H1 D = none) (s : Same H1 H') : Same H1 (upd H' D o) := fun b u z => by
  rw [upd_ne (ne_of_none z hD)]
  exact s b u z
theorem take_filter {B : V → Bool} {i : Nat} {x : V} (h : xs[i]? = some x) : (xs.take (i + 1)).filter B = if B x = true then (xs.take i).filter B ++ [x] else (xs.take i).filter B := by
  rw [List.take_add_one, h, List.filter_append]
  show _ ++ List.filter B [x] = _
  rw [List.filter_cons]
  split <;> simp
/-- a comprehension whose test only reads, whose elements are R's -/
theorem lcQ (Y : Yl J xs P) {k : Nat} {tt : TT} {te : TE} {vs : List Nat} {σ : L2.St} {H1 : Hp} {D : Addr} {Qd : Hp → Prop} (B : V → Bool) (R : V → V → Hp → Prop) (hR : ∀ x y H H', Same H H' → R x y H → R x y H')
    (hU : ∀ x y H l l', H D = some (.lst l) → R x y H → R x y (upd H D (.lst l'))) (hD : H1 D = none) (hn : xs.length ≤ 100000) (hP : ∀ H', Same H1 H' → P H') (hw : ∀ x : V, wipe ((wipe σ vs).set k (some x)) vs = wipe σ vs)
    (ht : ∀ x H', x ∈ xs → Same H1 H' → ∀ Qb : Bool → Hp → Prop, (∀ H'', Same H' H'' → Qb (B x) H'') → tt ((wipe σ vs).set k (some x)) H' Qb)
    (he : ∀ x H', x ∈ xs → B x = true → Same H1 H' → ∀ Q : VK, (∀ y H'', Same H' H'' → R x y H'' → Q y H'') → te ((wipe σ vs).set k (some x)) H' Q)
    (hd : ∀ H' ys, Same H1 H' → H' D = some (.lst ys) → Paired (fun x y => R x y H') (xs.filter B) ys → Qd H') :
    ∃ W : Nat → Nat → Hp → Prop, (∃ m, W 0 m (upd H1 D (.lst []))) ∧ ∀ i m H, W i m H →
      (J.stop i H ∧ Qd H) ∨ (J.go i H ∧ ∃ Nx : Hp → Prop, (∀ H', Nx H' → ∃ m', m' < m ∧ W (i + 1) m' H') ∧ ∀ x H', J.yld i H x H' → (gName k) x (wipe σ vs) H' fun σ2 H2 => wipe σ2 vs = wipe σ vs ∧ tt σ2 H2 fun b H3 =>
        if b = true then te σ2 H3 fun y H4 => ∃ acc, H4 D = some (.lst acc) ∧ acc.length < sizeLine ∧ Nx (upd H4 D (.lst (acc ++ [y]))) else Nx H3) := by
  refine lcG Y (fun i H' => Same H1 H' ∧ ∃ ys, H' D = some (.lst ys) ∧ Paired (fun x y => R x y H') ((xs.take i).filter B) ys) ⟨same_new hD, [], upd_same, .nil⟩ (fun i H' _ h => hP H' h.1) ?_ fun H' h => ?_
  · rintro i x H' hx ⟨s, ys, hl, hp⟩
    have hm := List.mem_of_getElem? hx
    refine ⟨hw x, ht x H' hm s _ fun H2 s2 => ?_⟩
    rw [take_filter hx]
    cases hb : B x with
    | false =>
      refine iteF ⟨s.trans s2, ys, s2 _ _ hl, ?_⟩
      exact Paired.mapP hp fun a b r => hR a b _ _ s2 r
    | true =>
      refine iteT (he x H2 hm hb (s.trans s2) _ fun y H3 s3 r => ?_)
      have hl3 := s3 _ _ (s2 _ _ hl)
      refine ⟨_, hl3, ?_, same_upd hD ((s.trans s2).trans s3), _, upd_same, ?_⟩
      · have z : ys.length ≤ xs.length := by
          have z1 := List.length_filter_le B (xs.take i)
          have z2 : (xs.take i).length ≤ xs.length := by rw [List.length_take]; exact Nat.min_le_right _ _
          have z3 : ((xs.take i).filter B).length = ys.length := Paired.length hp
          omega
        rw [sizeLine_eq]
        omega
      · refine Paired.snoc (Paired.mapP hp fun a b r => hU a b _ _ _ hl3 (hR a b _ _ (s2.trans s3) r)) (hU x y _ _ _ hl3 r)
  · obtain ⟨s, ys, hl, hp⟩ := h
    rw [List.take_length] at hp
    exact hd H' ys s hl hp
/-- .. whose elements are told by a function -/
theorem lcF (Y : Yl J xs P) {k : Nat} {tt : TT} {te : TE} {vs : List Nat} {σ : L2.St} {H1 : Hp} {D : Addr} {Qd : Hp → Prop} (B : V → Bool) (F : V → V) (hD : H1 D = none) (hn : xs.length ≤ 100000) (hP : ∀ H', Same H1 H' → P H') (hw : ∀ x : V, wipe ((wipe σ vs).set k (some x)) vs = wipe σ vs)
    (ht : ∀ x H', x ∈ xs → Same H1 H' → ∀ Qb : Bool → Hp → Prop, (∀ H'', Same H' H'' → Qb (B x) H'') → tt ((wipe σ vs).set k (some x)) H' Qb)
    (he : ∀ x H', x ∈ xs → B x = true → Same H1 H' → ∀ Q : VK, (∀ H'', Same H' H'' → Q (F x) H'') → te ((wipe σ vs).set k (some x)) H' Q)
    (hd : ∀ H', Same H1 H' → H' D = some (.lst ((xs.filter B).map F)) → Qd H') :
    ∃ W : Nat → Nat → Hp → Prop, (∃ m, W 0 m (upd H1 D (.lst []))) ∧ ∀ i m H, W i m H →
      (J.stop i H ∧ Qd H) ∨ (J.go i H ∧ ∃ Nx : Hp → Prop, (∀ H', Nx H' → ∃ m', m' < m ∧ W (i + 1) m' H') ∧ ∀ x H', J.yld i H x H' → (gName k) x (wipe σ vs) H' fun σ2 H2 => wipe σ2 vs = wipe σ vs ∧ tt σ2 H2 fun b H3 =>
        if b = true then te σ2 H3 fun y H4 => ∃ acc, H4 D = some (.lst acc) ∧ acc.length < sizeLine ∧ Nx (upd H4 D (.lst (acc ++ [y]))) else Nx H3) := by
  refine lcQ Y B (fun x y _ => y = F x) (fun _ _ _ _ _ h => h) (fun _ _ _ _ _ _ h => h) hD hn hP hw ht (fun x H' hm hb s Q q => he x H' hm hb s Q fun H'' s' => q _ _ s' rfl) fun H' ys s hl hp => hd H' s ?_
  have e : ∀ {l ys : List V}, Paired (fun x y => y = F x) l ys → ys = l.map F := fun h => by
    induction h with
    | nil => rfl
    | cons a _ ih => rw [a, ih]; rfl
  rw [← e hp]
  exact hl
/-- a dict comprehension that only reads, its keys all different -/
theorem dcF (Y : Yl J xs P) {k : Nat} {tt : TT} {tk tv : TE} {vs : List Nat} {σ : L2.St} {H1 : Hp} {D : Addr} {Qd : Hp → Prop} (B : V → Bool) (key : V → Key) (F : V → V) (hD : H1 D = none) (hn : xs.length ≤ 100000) (hnd : ((xs.filter B).map key).Nodup) (hP : ∀ H', Same H1 H' → P H')
    (hw : ∀ x : V, wipe ((wipe σ vs).set k (some x)) vs = wipe σ vs)
    (ht : ∀ x H', x ∈ xs → Same H1 H' → ∀ Qb : Bool → Hp → Prop, (∀ H'', Same H' H'' → Qb (B x) H'') → tt ((wipe σ vs).set k (some x)) H' Qb)
    (hk : ∀ x H', x ∈ xs → B x = true → Same H1 H' → ∀ Q : VK, (∀ H'', Same H' H'' → Q (kV (key x)) H'') → tk ((wipe σ vs).set k (some x)) H' Q)
    (he : ∀ x H', x ∈ xs → B x = true → Same H1 H' → ∀ Q : VK, (∀ H'', Same H' H'' → Q (F x) H'') → tv ((wipe σ vs).set k (some x)) H' Q)
    (hd : ∀ H', Same H1 H' → H' D = some (.dK ((xs.filter B).map fun x => (key x, F x))) → Qd H') :
    ∃ W : Nat → Nat → Hp → Prop, (∃ m, W 0 m (upd H1 D (.dK []))) ∧ ∀ i m H, W i m H →
      (J.stop i H ∧ Qd H) ∨ (J.go i H ∧ ∃ Nx : Hp → Prop, (∀ H', Nx H' → ∃ m', m' < m ∧ W (i + 1) m' H') ∧ ∀ x H', J.yld i H x H' → (gName k) x (wipe σ vs) H' fun σ2 H2 => wipe σ2 vs = wipe σ vs ∧ tt σ2 H2 fun b H3 =>
        if b = true then tk σ2 H3 fun y H4 => tv σ2 H4 fun z H5 => ∃ kvs k, y = kV k ∧ H5 D = some (.dK kvs) ∧ kvs.length < sizeLine ∧ Nx (upd H5 D (.dK (putK kvs k z))) else Nx H3) := by
  have pre : ∀ i, List.Sublist (((xs.take i).filter B).map key) ((xs.filter B).map key) := fun i => ((List.take_sublist i xs).filter B).map key
  refine dcG Y (fun i H' => Same H1 H' ∧ H' D = some (.dK (((xs.take i).filter B).map fun x => (key x, F x)))) ⟨same_new hD, upd_same⟩ (fun i H' _ h => hP H' h.1) ?_ fun H' h => ?_
  · rintro i x H' hx ⟨s, hl⟩
    have hm := List.mem_of_getElem? hx
    refine ⟨hw x, ht x H' hm s _ fun H2 s2 => ?_⟩
    have tf := take_filter (B := B) hx
    rw [tf]
    cases hb : B x with
    | false => exact iteF ⟨s.trans s2, s2 _ _ hl⟩
    | true =>
      refine iteT (hk x H2 hm hb (s.trans s2) _ fun H3 s3 => he x H3 hm hb ((s.trans s2).trans s3) _ fun H4 s4 => ?_)
      have hl4 := s4 _ _ (s3 _ _ (s2 _ _ hl))
      refine ⟨_, key x, rfl, hl4, ?_, same_upd hD (((s.trans s2).trans s3).trans s4), ?_⟩
      · rw [List.length_map, sizeLine_eq]
        have z1 := List.length_filter_le B (xs.take i)
        have z2 : (xs.take i).length ≤ xs.length := by rw [List.length_take]; exact Nat.min_le_right _ _
        omega
      · rw [upd_same, if_pos rfl, List.map_append]
        have nd := hnd.sublist (pre (i + 1))
        rw [tf, hb, if_pos rfl, List.map_append] at nd
        rw [putK_new]
        · rfl
        · unfold valV
          rw [Option.map_eq_none_iff, List.find?_eq_none]
          intro p hp hk'
          obtain ⟨y, hy, rfl⟩ := List.mem_map.mp hp
          have e : key y = key x := of_decide_eq_true hk'
          have z := (List.nodup_append.mp nd).2.2 (key y) (List.mem_map.mpr ⟨y, hy, rfl⟩) (key x) (List.mem_singleton.mpr rfl)
          exact z e
  · obtain ⟨s, hl⟩ := h
    rw [List.take_length] at hl
    exact hd H' s hl
end
section
variable {X : Cx}
/-- whether each entry of ks stands in ls -/
def subK (ks ls : List (Key × V)) : Bool := ks.all fun p => match valV ls p.1 with
  | some v => eqV p.2 v
  | none => false
theorem hits_sub {A : Around} {s : Shared} {ls : List (Key × V)} {vb : List (Key × Value)} (rb : KV ls vb) (fb : ∀ p ∈ ls, flatV p.2 = true) {ks : List (Key × V)} {va : List (Key × Value)} (ra : KV ks va) :
    (∀ p ∈ ks, flatV p.2 = true) → PySem.W.KeqHits A s vb va (subK ks ls) := by
  unfold KV at ra
  induction ra with
  | nil => intro _; exact .nil
  | @cons p q ps qs h t ih =>
    intro hp
    obtain ⟨h1, h2⟩ := h
    obtain ⟨k, v⟩ := q
    have h1' : p.1 = k := h1
    unfold subK
    rw [List.all_cons]
    cases e : valV ls p.1 with
    | none =>
      have rr : RelO none (valueAt vb p.1) := by rw [← e]; exact rb.val p.1
      have z := rr.none_of
      rw [h1'] at z
      exact .miss z
    | some y =>
      have rr : RelO (some y) (valueAt vb p.1) := by rw [← e]; exact rb.val p.1
      obtain ⟨u, hu, ru⟩ := rr.some_of
      rw [h1'] at hu
      have fy : flatV y = true := by
        unfold valV at e
        obtain ⟨q, hq, rfl⟩ := Option.map_eq_some_iff.mp e
        exact fb q (List.mem_of_find?_eq_some hq)
      exact .hit hu (eqAt_V h2 ru (hp p List.mem_cons_self) fy) (ih fun p' hm => hp p' (List.mem_cons_of_mem _ hm))
/-- d == e, dicts of flat values -/
def rEqDF : R2 := fun x y H Q => ∃ a b ks ls, x = .ref a ∧ y = .ref b ∧ H a = some (.dK ks) ∧ H b = some (.dK ls) ∧ (∀ p ∈ ks, flatV p.2 = true) ∧ (∀ p ∈ ls, flatV p.2 = true) ∧ Q (.bl (ks.length == ls.length && subK ks ls)) H
theorem op_eqDF (hu : X.A.units < cLine) : OpR X (compareOp .Eq) rEqDF := by
  intro pins s σ H x y v u Q I rx ry h
  obtain ⟨a, b, ks, ls, rfl, rfl, ea, eb, fa, fb, q⟩ := h
  obtain rfl : v = Value.ref a := rx
  obtain rfl : u = Value.ref b := ry
  obtain ⟨_, ya, va, ra, da⟩ := (show ObjOk X.prog X.w H s.heap a (.dK ks) from I.hok a _ ea)
  obtain ⟨_, yb, vb, rb, db⟩ := (show ObjOk X.prog X.w H s.heap b (.dK ls) from I.hok b _ eb)
  exact PySem.W.keq_eq (knd := mixKind X.prog X.w) ya yb da db hu (fun _ => hits_sub rb fb ra fa) (fin_bl I q (by rw [← ra.length, ← rb.length]))
end
end Xr
set_option maxHeartbeats 4000000
namespace Xr
open PySem PySem.Spec PyProof.Rows L2
section
variable {X : Cx} {pins : List (Addr × Obj)} {σ : L2.St} {H : Hp} {s : Shared}
/-- what a dict's keys are, as values -/
def keysV (kvs : List (Key × V)) : List V := kvs.map fun kv => kV kv.1
theorem star_dict {a : Addr} {kvs : List (Key × V)} {E : Value → Shared → Prop} {Q : List Value → Shared → Prop} (hc : X.calm = true) (I : Inv X pins σ H s) (h : Rd H a (.dK kvs)) (hQ : ∀ us s', Inv X pins σ H s' → Vals (keysV kvs) us → Q us s') :
    PySem.W.StarOf (model X.prog X.w) X.A E (.ref a) Q s := by
  obtain ⟨z, lo, vs, rk, hd⟩ := (show ObjOk X.prog X.w H s.heap a (.dK kvs) from h.ok I.hok)
  obtain ⟨ep, hat⟩ := hd.dictAt
  have hl : kvs.length = vs.length := Paired.length rk
  have zz : wpAny (model X.prog X.w) X.A (collect (.ref a)) Q E s := by
    refine PySem.W.kdu_collect (PySem.W.kdl_dict (knd := mixKind X.prog X.w) (kvs := vs) (ep := ep) lo) (I.ok.hd hc) hat (by rw [← hl]; exact z) fun h' tk acc hk hacc => ?_
    refine hQ _ _ (I.kept (t' := tk) hk) ?_
    have el : acc.toList.length = acc.size := by simp
    unfold keysV
    refine vals_of_at (by rw [List.length_map, el, hacc.1, hl]) fun j x w h1 h2 => ?_
    obtain ⟨k, y, hky, hi⟩ := hacc.2 j w (by rw [← Array.getElem?_toList]; exact h2)
    have e1 : (kvs.map (·.1))[j]? = some k := by
      rw [KV.keys rk, List.getElem?_map, hky] <;> rfl
    have e2 : (kvs.map fun kv => kV kv.1)[j]? = some (kV k) := by
      have e3 : (kvs.map fun kv => kV kv.1) = (kvs.map (·.1)).map kV := by rw [List.map_map] <;> rfl
      rw [e3, List.getElem?_map, e1] <;> rfl
    rw [e2] at h1
    cases h1
    exact keyIs_rel hi
  unfold PySem.W.StarOf notIterableAtAll
  exact wpAny_bind (wpAny_specialOf hd.typeIs PySem.F.slot_dict_iter.lookup (wpAny_pure ⟨rfl, zz⟩))
end
/-- *d in a display: its keys -/
def tStarD (te : TE) (t : TA) : TA := fun σ H Q => te σ H fun x H1 => ∃ p kvs, x = V.ref p ∧ Rd H1 p (.dK kvs) ∧ t σ H1 fun ys H2 => Q (keysV kvs ++ ys) H2
theorem pa_starD {X : Cx} {e : Expr} {es : List Expr} {te : TE} {t : TA} {p : Pos} (hc : X.calm = true) (he : PE X e te) (hr : PA X es t) (hs : starEach (.Starred e p :: es) X.env = (true, eval e X.env) :: starEach es X.env := by rfl) : PA X (.Starred e p :: es) (tStarD te t) := by
  refine ⟨fun pos pins s σ H Q I h => ?_⟩
  refine PySem.W.items_star (thn (he.run pins s σ H _ I h) fun v s1 ⟨y, H1, I1, ry, a, kvs, ey, hx, q⟩ => ?_) hs
  subst ey
  obtain rfl : v = Value.ref a := ry
  refine star_dict hc I1 hx fun us s2 I2 rv => ?_
  exact thn (hr.run pos pins s2 σ H1 _ I2 q) fun ws s3 ⟨vs, H3, I3, r3, q3⟩ => ⟨keysV kvs ++ vs, H3, I3, rv.append r3, q3⟩
section
variable {CX : CXT} {P : Program} {w : World} {K : PySem.W.Frag} {mg : Str → Option Value} {base : Heap} {k : Nat} {f : Addr} {x qual : Str} {params : Arguments} {body : List Stmt} {scope : Scope} {fd : FuncData} {N : List Str} {sp : Sp} {p1 pd : Str} {kws : List (Str × V)}
/-- def f(a, **d), called without keywords: d is a new empty dict -/
theorem fn_kw0 (F : FunD K x qual params body scope [] kws f fd) (S : FnScope N [p1, pd] scope) (hCX : StX.CXUp CX)
    (hb : ∀ (kV doc pm : Value) (an : Option Addr) (cdv ct u : Value), bindArgs (PySem.W.fnOf x qual params body scope .none kV doc pm an cdv ct) ⟨[u], []⟩ = ((alloc ({ cls := .type "dict", data := .dict #[] } : Obj) : Sem Addr) >>= fun d => pure [(p1, u), (pd, Value.ref d)]))
    (hbody : ∀ (cdv : Value) (A : Around) (outer : List Env) (s : Shared) (H : Hp) (vs : List V) (Q : VK) (E : XK), Room k (A.deeper (envOfC qual scope s.heap.objs.size f cdv)) → sp vs H Q E →
      ∃ t, PSs (cxOf CX P w K mg base N qual scope f cdv A outer s H E) body t ∧ t { nx := fun _ H' => Q .non H', rt := Q } (start N vs) H) :
    FnR P w K mg base CX (k + 1) f (fun vs H Q E => ∃ v, vs = [v] ∧ ∀ d, H d = Option.none → sp [v, V.ref d] (upd H d (.dK [])) Q E) := by
  obtain ⟨oc, od, dV, kV', doc, pm, an, cdv, ct, osl, rfl, lk, hcd, hDf, _⟩ := F.ex
  obtain rfl : dV = .none := by
    rcases hDf with ⟨_, e⟩ | ⟨e, _⟩
    · exact e
    · exact absurd rfl e
  intro A outer s H us vs Q E hr e0 r hsp
  obtain ⟨v, rfl, hq⟩ := hsp
  obtain ⟨u, rfl, ru⟩ := vals1 r
  have hn : H s.heap.objs.size = Option.none := e0.hok.fresh (Nat.le_refl _)
  refine StX.run_bnd lk hcd S hr e0 (G := fun xs H2 => ∃ d, H d = Option.none ∧ xs = [v, V.ref d] ∧ H2 = upd H d (.dK [])) (fun A' Ex Q' h => ?_) fun s2 H2 xs ⟨d, hd, ex, eH⟩ hr' => ?_
  · rw [hb _ _ _ _ _ _ u]
    refine wpAny_bind (wpAny_alloc (wpAny_pure ?_))
    have e1 := StX.env0_laid (u := .dK []) (o := ({ cls := .type "dict", data := .dict #[] } : Obj)) e0 (dk_empty _ (StX.env0_big e0))
    have un1 := StX.un_laid (fs := frs outer) (s := s) (o := ({ cls := .type "dict", data := .dict #[] } : Obj)) (u := .dK []) hn
    exact h _ _ [v, V.ref s.heap.objs.size] [u, Value.ref s.heap.objs.size] e1 un1 rfl (fun e s' => hCX outer s H _ _ E e s' un1 (fun b o q => Heap.get?_push_of_some _ q) rfl) (.cons ru (.cons rfl .nil)) rfl ⟨_, hn, rfl, rfl⟩
  · subst ex eH
    exact hbody cdv A outer s2 _ _ Q E hr' (hq d hd)
end
/-! ### a hook that tells defs at any address, too -/
abbrev AlF : Type := AlE × (Bool × List He.FnW)
def obsF (n : Nat) (fa : List He.Fa) (fn : List He.DefD) (ts : List He.Tab) (tf : List He.Defn) (cl : List DefC) (da : List He5.DefA) (ex : PySem.W.Frag → Bool) (g : Addr → Option Obj) : AlF :=
  (obsE n fa fn ts tf cl ex g, (da.all (fun d => d.ok (KE g n)), da.map fun d => He5.fnA (KE g n) (d.at_ (KE g n))))
def valF (fn : List He.DefD) (ts : List He.Tab) (cl : List DefC) (da : List He5.DefA) (w : World) : AlF := (valE fn ts cl w, (true, da.map He5.DefA.val))
structure SaysF (fa : List He.Fa) (fn : List He.DefD) (ts : List He.Tab) (tf : List He.Defn) (cl : List DefC) (da : List He5.DefA) (ex : PySem.W.Frag → Bool) (w : World) (h : Heap) (K : PySem.W.Frag) : Prop where
  e : SaysE fa fn ts tf cl ex w h K
  ok : da.all (fun d => d.ok K) = true
  at_ : da.map (fun d => He5.fnA K (d.at_ K)) = da.map He5.DefA.val
theorem SaysF.dA {fa : List He.Fa} {fn : List He.DefD} {ts : List He.Tab} {tf : List He.Defn} {cl : List DefC} {da : List He5.DefA} {ex : PySem.W.Frag → Bool} {w : World} {h : Heap} {K : PySem.W.Frag} (c : SaysF fa fn ts tf cl da ex w h K) (i : Nat) {d : He5.DefA} (hd : da[i]? = some d) :
    ∃ fd, FunD K d.name d.qual d.params d.body d.scope (d.dvs K) (d.kws K) (d.at_ K) fd := by
  refine He5.DefA.funD ?_ (List.all_eq_true.mp c.ok d (List.mem_of_getElem? hd))
  have z : (da.map (fun d => He5.fnA K (d.at_ K)))[i]? = (da.map He5.DefA.val)[i]? := by rw [c.at_]
  rw [List.getElem?_map, List.getElem?_map, hd] at z
  exact Option.some.inj z
def hookF (n : Nat) (fa : List He.Fa) (fn : List He.DefD) (ts : List He.Tab) (tf : List He.Defn) (cl : List DefC) (da : List He5.DefA) (ex : PySem.W.Frag → Bool) : PySem.W.Hook where
  α := AlF
  obs := fun s => obsF n fa fn ts tf cl da ex s.heap.get?
  val := fun w => valF fn ts cl da w
  says := fun w h => ∃ K : PySem.W.Frag, K.In h ∧ SaysF fa fn ts tf cl da ex w h K
  of := fun _ _ e => ⟨_, He.frT_in, ⟨says_of (congrArg (fun z : AlF => z.1) e), congrArg (fun z : AlF => z.2.1) e, congrArg (fun z : AlF => z.2.2) e⟩⟩
  keeps := fun _ _ _ ⟨K, hK, c⟩ k => ⟨K, PySem.W.Frag.In.keeps hK k, ⟨⟨⟨c.e.x.t, c.e.x.more, c.e.x.hd, c.e.x.out, fun p hp => k _ _ (c.e.x.empty p hp)⟩, c.e.c⟩, c.ok, c.at_⟩⟩
theorem obsF_eq {n : Nat} {fa : List He.Fa} {fn : List He.DefD} {ts : List He.Tab} {tf : List He.Defn} {cl : List DefC} {da : List He5.DefA} {ex : PySem.W.Frag → Bool} {g : Addr → Option Obj} {s : Shared} (h : ∀ a, g a = s.heap.get? a) : obsF n fa fn ts tf cl da ex g = (hookF n fa fn ts tf cl da ex).obs s := by
  have e : g = s.heap.get? := funext h
  rw [e] <;> rfl
end Xr
set_option maxHeartbeats 4000000
/-! what the head tells of own plain classes -/
namespace Xr
open PySem PySem.Spec PyProof.Rows L2
/-- an own plain class: its attributes are plain, isinstance goes by its class -/
def plB (K : PySem.W.Frag) (C : Addr) : Bool := (PySem.W.plainGet K C Str.empty && (PySem.W.hasDictIn K C && (PySem.W.plainOver K C && He.eqO (PySem.W.findIn K (.ref C) "__setattr__") (some (some (.builtin "object.__setattr__")))))) &&
  (He.eqO (PySem.W.findIn K (.ref C) "__class__") (some (some (.builtin "object.__class__"))) && (decide (PySem.W.mroIn K C (.type "object") = some true) && (PySem.W.selfFirst K C && PySem.W.keepIn K (.ref C))))
structure Pl (K : PySem.W.Frag) (C : Addr) : Prop where
  cls : Cls K C
  ca : PySem.W.findIn K (.ref C) "__class__" = some (some (.builtin "object.__class__"))
  cm : PySem.W.mroIn K C (.type "object") = some true
  sf : PySem.W.selfFirst K C = true
  kp : PySem.W.keepIn K (.ref C) = true
theorem plB_ok {K : PySem.W.Frag} {C : Addr} (h : plB K C = true) : Pl K C := by
  obtain ⟨h1, h⟩ := He.ba h
  obtain ⟨a1, h1⟩ := He.ba h1
  obtain ⟨a2, h1⟩ := He.ba h1
  obtain ⟨a3, a4⟩ := He.ba h1
  obtain ⟨b1, h⟩ := He.ba h
  obtain ⟨b2, h⟩ := He.ba h
  obtain ⟨b3, b4⟩ := He.ba h
  exact ⟨⟨a1, a2, a3, He.eqO_ok a4⟩, He.eqO_ok b1, of_decide_eq_true b2, b3, b4⟩
theorem Pl.ty {K : PySem.W.Frag} {C a dx : Addr} {H : Hp} {fs : List (Str × V)} (p : Pl K C) (A : AllF K) (e : H a = some (.ins C dx fs)) : TyX K H (.ref a) (.ref C) :=
  .base (.ins e p.cls p.ca A.sg A.tk p.cm)
/-- the method m of C is the def at f -/
def smB (K : PySem.W.Frag) (C f : Addr) (m : Str) : Bool := He.eqO (PySem.W.findIn K (.ref C) m) (some (some (.ref f))) && (PySem.W.isFn K (.ref f) && (PySem.W.fnIn K f && PySem.W.keepIn K (.ref f)))
structure Sm2 (K : PySem.W.Frag) (C : Addr) (m : Str) (f : Addr) : Prop where
  sm : Sm K C m f
  fnI : PySem.W.fnIn K f = true
  kp : PySem.W.keepIn K (.ref f) = true
theorem smB_ok {K : PySem.W.Frag} {C f : Addr} {m : Str} (h : smB K C f m = true) : Sm2 K C m f := by
  obtain ⟨h1, h⟩ := He.ba h
  obtain ⟨h2, h⟩ := He.ba h
  obtain ⟨h3, h4⟩ := He.ba h
  exact ⟨⟨He.eqO_ok h1, h2⟩, h3, h4⟩
theorem Sm2.meth {K : PySem.W.Frag} {C f : Addr} {m : Str} (s : Sm2 K C m f) : Meth K C m f := ⟨s.sm.at_, s.sm.fn, s.kp⟩
/-- C may be made, its __init__ is the def at f -/
def mkB (K : PySem.W.Frag) (C f : Addr) : Bool := PySem.W.makesIn K C && (He.eqO (PySem.W.findIn K (.ref C) "__init__") (some (some (.ref f))) && (PySem.W.isFn K (.ref f) && PySem.W.keepIn K (.ref C)))
theorem mkB_ok {K : PySem.W.Frag} {C f : Addr} (h : mkB K C f = true) : Mk K C f := by
  obtain ⟨h1, h⟩ := He.ba h
  obtain ⟨h2, h⟩ := He.ba h
  obtain ⟨h3, h4⟩ := He.ba h
  exact ⟨h1, He.eqO_ok h2, h3, h4⟩
/-- m is a property of C: its record at p, its def at g -/
def prB (K : PySem.W.Frag) (C p g : Addr) (m : Str) : Bool := He.eqO (PySem.W.findIn K (.ref C) m) (some (some (.ref p))) && (He.eqO (PySem.W.specialIn K (.ref p) "__get__") (some (some (.builtin "property.__get__"))) && (decide (PySem.W.takesIn K (.ref p) = some true) && (match PySem.W.recIn K p "property" with
  | some (.ref f :: _) => decide (f = g)
  | _ => false)))
theorem prB_ok {K : PySem.W.Frag} {C p g : Addr} {m : Str} (h : prB K C p g m = true) : PropOf K C m p g := by
  obtain ⟨h1, h⟩ := He.ba h
  obtain ⟨h2, h⟩ := He.ba h
  obtain ⟨h3, h4⟩ := He.ba h
  refine ⟨He.eqO_ok h1, He.eqO_ok h2, of_decide_eq_true h3, ?_⟩
  split at h4
  · rename_i f r e
    exact ⟨r, by rw [e, of_decide_eq_true h4]⟩
  · cases h4
/-- m is a classmethod of C -/
def cmB (K : PySem.W.Frag) (C : Addr) (m : Str) : Bool := He5.wrapB K C "classmethod" "classmethod.__get__" m && (PySem.W.fnIn K (He5.wf K C "classmethod" m) && PySem.W.readsIn K C (.type "type"))
structure CmF (K : PySem.W.Frag) (C : Addr) (m : Str) : Prop where
  rd : ClX.CRead K C (.type "type")
  met : ClX.CMet K C (.type "type") m (He.ma K C m) (He5.wf K C "classmethod" m)
theorem cmB_ok {K : PySem.W.Frag} {C : Addr} {m : Str} (h : cmB K C m = true) : CmF K C m := by
  obtain ⟨h1, h⟩ := He.ba h
  obtain ⟨h2, h3⟩ := He.ba h
  refine ⟨⟨h3, ?_⟩, He5.cmet_of h1 h2⟩
  unfold PySem.W.readsIn at h3
  obtain ⟨h, _⟩ := He.ba h3
  obtain ⟨h, _⟩ := He.ba h
  obtain ⟨h, h3⟩ := He.ba h
  obtain ⟨_, h2⟩ := He.ba h
  unfold PySem.W.specialIn
  rw [beq_iff_eq.mp h2, Option.bind_some]
  exact beq_iff_eq.mp h3
/-- C's __init__ says super().__init__(..), which is the def at g -/
def supB (file : Str) (K : PySem.W.Frag) (C g : Addr) : Bool := codeRest K C (He.ma K C "__init__") file && ((PySem.W.clsIn K C).isSome && (decide (PySem.W.subIn K (.ref C) (.ref C) = some true) &&
  (He.eqO (PySem.W.ks_superIn K C C "__init__") (some (some (.ref g))) && (PySem.W.isFn K (.ref g) && PySem.W.fnIn K g))))
theorem sup_ok {P : Program} {K : PySem.W.Frag} {x q : Str} {g : Addr} {params : Arguments} {body : List Stmt} {sc : Scope} (h : supB P.main.file K (He.ga K x) g = true) (ha : AllF K)
    (hF : fnC K (x, some "__init__") = (some ("__init__", q, params, .stmts body, sc, mainGlobals, ["__class__"], builtinsNs) : FnC)) (htop : (P.main.scope.names.lookup ("super" : Str)).isSome = false) :
    ∃ fd cda cc, SupF P K (He.ga K x) (He.ma K (He.ga K x) "__init__") g q params body sc fd cda cc := by
  unfold supB at h
  obtain ⟨h8, h⟩ := He.ba h
  obtain ⟨h1, h⟩ := He.ba h
  obtain ⟨h2, h⟩ := He.ba h
  obtain ⟨h3, h⟩ := He.ba h
  obtain ⟨h4, h5⟩ := He.ba h
  have e1 : He.fAd K (x, some "__init__") = He.ma K (He.ga K x) "__init__" := rfl
  unfold fnC at hF
  rw [e1] at hF
  unfold codeRest at h8
  cases lk : K.lookup (He.ma K (He.ga K x) "__init__") with
  | none =>
    rw [lk] at h8
    cases h8
  | some o =>
    obtain ⟨oc, od, dt, osl⟩ := o
    rw [lk] at h8 hF
    cases dt with
    | func fd =>
      obtain ⟨n1, n2, n3, n4, n5, n6, n7, n8, n9, n10, n11, n12, n13, n14, n15⟩ := fd
      have e2 : (some (n1, n2, n3, n4, n5, n6, n7.map (·.1), n15) : FnC) = (some ("__init__", q, params, .stmts body, sc, mainGlobals, ["__class__"], builtinsNs) : FnC) := hF
      simp only [Option.some.injEq, Prod.mk.injEq] at e2
      obtain ⟨g1, g2, g3, g4, g5, g6, g7, g8⟩ := e2
      subst g1 g2 g3 g4 g5 g6 g8
      dsimp only at h8
      split at h8
      · rename_i cda z cc
        have ez : z = "__class__" := by
          have := g7
          simpa using this
        subst ez
        obtain ⟨c1, c2⟩ := He.ba h8
        obtain ⟨c2, c3⟩ := He.ba c2
        refine ⟨_, cda, cc, ⟨⟨_, _, _, _, _, _, _, _, rfl, lk⟩, c1, ?_, ?_, Option.isSome_iff_exists.mp h1, of_decide_eq_true h2, He.eqO_ok h3, beq_iff_eq.mp h4, h5, ha.opq, ha.sup, htop⟩⟩
        · split at c2
          · rename_i D _ hc
            cases of_decide_eq_true c2
            exact ⟨_, _, _, hc⟩
          · cases c2
        · split at c3
          · rename_i vs _ hc
            split at c3
            · rename_i f tf hv
              cases of_decide_eq_true c3
              exact ⟨_, _, vs, _, tf, hc, hv⟩
            · cases c3
          · cases c3
      · cases h8
    | _ => cases h8
/-! ### legs -/
abbrev aL (K : PySem.W.Frag) : Addr := He.ga K "Legs"
abbrev aT (K : PySem.W.Frag) : Addr := He.ga K "TableLegs"
def legMs : List Str := ["__add__", "__sub__", "__neg__", "__mul__", "__eq__", "__len__", "__getitem__", "__str__"]
def cLB (K : PySem.W.Frag) (C : Addr) : Bool := plB K C && (He.eqO (PySem.W.findIn K (.ref C) "by_month") (some none) && (legMs.all (fun m => smB K C (He.ma K (aL K) m) m) && (He.eqO (PySem.W.findIn K (.ref C) "__ne__") (some (some (.builtin "object.__ne__"))) && (He.eqO (PySem.W.findIn K (.ref C) "__bool__") (some none) &&
  (He.eqO (PySem.W.findIn K (.ref C) "__rmul__") (some none) && (decide (PySem.W.subIn K (.type "int") (.ref C) = some false) && (prB K C (He.ma K (aL K) "months") (He5.wf K (aL K) "property" "months") "months" && decide (PySem.W.kitOne K (.ref C) (.ref (aL K)) = some true))))))))
structure CL (K : PySem.W.Frag) (C : Addr) : Prop where
  pl : Pl K C
  no : NoAttr K C "by_month"
  sm : ∀ m ∈ legMs, Sm2 K C m (He.ma K (aL K) m)
  ne : PySem.W.findIn K (.ref C) "__ne__" = some (some (.builtin "object.__ne__"))
  nb : PySem.W.findIn K (.ref C) "__bool__" = some none
  rm : PySem.W.findIn K (.ref C) "__rmul__" = some none
  si : PySem.W.subIn K (.type "int") (.ref C) = some false
  mo : PropOf K C "months" (He.ma K (aL K) "months") (He5.wf K (aL K) "property" "months")
  ki : PySem.W.kitOne K (.ref C) (.ref (aL K)) = some true
theorem cLB_ok {K : PySem.W.Frag} {C : Addr} (h : cLB K C = true) : CL K C := by
  obtain ⟨h1, h⟩ := He.ba h
  obtain ⟨h2, h⟩ := He.ba h
  obtain ⟨h3, h⟩ := He.ba h
  obtain ⟨h4, h⟩ := He.ba h
  obtain ⟨h5, h⟩ := He.ba h
  obtain ⟨h6, h⟩ := He.ba h
  obtain ⟨h7, h⟩ := He.ba h
  obtain ⟨h8, h9⟩ := He.ba h
  exact ⟨plB_ok h1, He.eqO_ok h2, fun m hm => smB_ok (List.all_eq_true.mp h3 m hm), He.eqO_ok h4, He.eqO_ok h5, He.eqO_ok h6, of_decide_eq_true h7, prB_ok h8, of_decide_eq_true h9⟩
def legB (file : Str) (K : PySem.W.Frag) : Bool := cLB K (aL K) && (cLB K (aT K) && (mkB K (aT K) (He.ma K (aT K) "__init__") && (mkB K (aL K) (He.ma K (aL K) "__init__") && (supB file K (aT K) (He.ma K (aL K) "__init__") &&
  (PySem.W.notFirst K (aT K) (.ref (aL K)) && ((PySem.W.findIn K (.type "int") "__mul__").isSome && ((PySem.W.findIn K (.type "int") "__rmul__").isSome && (cmB K (aL K) "of" && (cmB K (aL K) "month" && cmB K (aL K) "read")))))))))
structure LegF (P : Program) (K : PySem.W.Frag) (q : Str) (params : Arguments) (body : List Stmt) (sc : Scope) : Prop where
  cL : CL K (aL K)
  cT : CL K (aT K)
  mT : Mk K (aT K) (He.ma K (aT K) "__init__")
  mL : Mk K (aL K) (He.ma K (aL K) "__init__")
  sup : ∃ fd cda cc, SupF P K (aT K) (He.ma K (aT K) "__init__") (He.ma K (aL K) "__init__") q params body sc fd cda cc
  nf : PySem.W.notFirst K (aT K) (.ref (aL K)) = true
  i1 : ∃ o, PySem.W.findIn K (.type "int") "__mul__" = some o
  i2 : ∃ o, PySem.W.findIn K (.type "int") "__rmul__" = some o
  of_ : CmF K (aL K) "of"
  month : CmF K (aL K) "month"
  read : CmF K (aL K) "read"
theorem legB_ok {P : Program} {K : PySem.W.Frag} {q : Str} {params : Arguments} {body : List Stmt} {sc : Scope} (h : legB P.main.file K = true) (ha : AllF K)
    (hF : fnC K ("TableLegs", some "__init__") = (some ("__init__", q, params, .stmts body, sc, mainGlobals, ["__class__"], builtinsNs) : FnC)) (htop : (P.main.scope.names.lookup ("super" : Str)).isSome = false) : LegF P K q params body sc := by
  obtain ⟨h1, h⟩ := He.ba h
  obtain ⟨h2, h⟩ := He.ba h
  obtain ⟨h3, h⟩ := He.ba h
  obtain ⟨h4, h⟩ := He.ba h
  obtain ⟨h5, h⟩ := He.ba h
  obtain ⟨h6, h⟩ := He.ba h
  obtain ⟨h7, h⟩ := He.ba h
  obtain ⟨h8, h⟩ := He.ba h
  obtain ⟨h9, h⟩ := He.ba h
  obtain ⟨h10, h11⟩ := He.ba h
  exact ⟨cLB_ok h1, cLB_ok h2, mkB_ok h3, mkB_ok h4, sup_ok h5 ha hF htop, h6, Option.isSome_iff_exists.mp h7, Option.isSome_iff_exists.mp h8, cmB_ok h9, cmB_ok h10, cmB_ok h11⟩
end Xr
set_option maxHeartbeats 4000000
/-! calls of own classes, properties, classmethods whose defs keep their promises -/
namespace Xr
open PySem PySem.Spec PyProof.Rows L2
section
variable {P : Program} {w : World} {K : PySem.W.Frag} {mg : Str → Option Value} {base : Heap} {CX : CXT} {j k : Nat} {f : Addr} {ps : List Str} {sp sp' : Sp}
theorem OkF.fnR (G : OkF P w K mg base CX k f ps sp) : FnR P w K mg base CX k f sp := by
  obtain ⟨fd, F, b, _⟩ := G
  refine (F.raw b .nil).imp fun vs H Q E h => ?_
  show sp (vs ++ []) H Q E
  rw [List.append_nil]
  exact h
theorem OkF.mono (G : OkF P w K mg base CX j f ps sp) (h : j ≤ k) : OkF P w K mg base CX k f ps sp := by
  obtain ⟨fd, F, b, kp⟩ := G
  exact ⟨fd, F.mono h, b, kp⟩
theorem OkF.imp (G : OkF P w K mg base CX k f ps sp) (h : ∀ vs H Q E, sp' vs H Q E → sp vs H Q E) : OkF P w K mg base CX k f ps sp' := by
  obtain ⟨fd, F, b, kp⟩ := G
  exact ⟨fd, F.imp h, b, kp⟩
end
section
variable {X : Cx} {CX : CXT} {k : Nat} {f C g p : Addr} {ps : List Str} {sp : Sp} {E : XK} {x m : Str} {np pos apos : Pos} {e o : Expr} {es : List Expr} {t : TA} {ta : TE}
theorem pe_mkF (M : Mk X.K C f) (G : OkF X.prog X.w X.K X.mg X.base CX k f ps sp) (hr : Room (k + 1) X.A) (hg : Gl X x) (hm : X.mg x = some (.ref C)) (hx : Passes CX X E) (ha : PA X (e :: es) t)
    (hdb : (x == ("__debug__" : Str)) = false := by decide) (he : starEach (e :: es) X.env = (false, eval e X.env) :: starEach es X.env := by rfl) (hpl : (backTo pos (starEach es X.env)).any (·.1) = false := by rfl) :
    PE X (.Call (.Name x np) (e :: es) [] pos) (tMake C sp [] E t) := by
  obtain ⟨fd, F, b, kp⟩ := G
  exact pe_make M F hr hg hm b .nil hx ha hdb he hpl
/-- C() -/
theorem pe_makeR0 (M : Mk X.K C f) (F : FnR X.prog X.w X.K X.mg X.base CX k f sp) (hr : Room (k + 1) X.A) (hg : Gl X x) (hm : X.mg x = some (.ref C)) (hx : Passes CX X E) (hdb : (x == ("__debug__" : Str)) = false := by decide) :
    PE X (.Call (.Name x np) [] [] pos) (StX.tMakeR C sp E tNil) := by
  refine ⟨fun pins s σ H Q I h => wpAny_Call_Name_kw (ld_glob I hg hm ?_ hdb)⟩
  exact PySem.W.callWith_K0 I.kIn M.kp (StX.run_makeR (us := []) M F hr hx I .nil h)
theorem pe_prF (he : PE X e ta) (c : Cls X.K C) (hp : PropOf X.K C m p g) (G : OkF X.prog X.w X.K X.mg X.base CX k g ps sp) (hr : Room (k + 1) X.A) (hx : Passes CX X.nox E)
    (hab : attributeBase e m X.env (eval e X.env) = eval e X.env := by rfl) : PE X (.Attribute e m pos) (tProp C sp [] E ta) := by
  obtain ⟨fd, F, b, kp⟩ := G
  exact pe_prop he c hp F hr b .nil hx hab
theorem pe_cmF {pl : Sem Bool} (he : PE X o ta) (c : CmF X.K C m) (F : FnR X.prog X.w X.K X.mg X.base CX k (He5.wf X.K C "classmethod" m) sp) (hr : Room k X.A) (hx : Passes CX X E) (ha : PA X (e :: es) t)
    (hst : starEach (e :: es) X.env = (false, eval e X.env) :: starEach es X.env := by rfl) (hpl : (backTo pos (starEach es X.env)).any (·.1) = false := by rfl)
    (ht : eval (.Call (.Attribute o m apos) (e :: es) [] pos) X.env = (do
      let ov ← eval o X.env
      standAt apos.atName
      let (f, first) ← holding [ov] (getMethod ov m pl)
      callWith pos f first (backTo pos (starEach (e :: es) X.env)) (backToKw pos (keywordEach [] X.env))) := by rfl) :
    PE X (.Call (.Attribute o m apos) (e :: es) [] pos) (ClX.tCMeth C sp E ta t) := ClX.pe_cmeth he c.rd c.met F hr hx ha hst hpl ht
theorem pe_fG {fd : FuncData} (F : FnG X.prog X.w X.K X.mg X.base CX k f fd ps sp) (b : Binds X.K fd ps []) (hk : PySem.W.keepIn X.K (.ref f) = true) (hr : Room k X.A) (hgd : X.A.guards = some []) (hg : Gl X x) (hm : X.mg x = some (.ref f)) (hx : Passes CX X E)
    (ha : PA X (e :: es) t) (hdb : (x == ("__debug__" : Str)) = false := by decide) (he : starEach (e :: es) X.env = (false, eval e X.env) :: starEach es X.env := by rfl) (hpl : (backTo pos (starEach es X.env)).any (·.1) = false := by rfl) :
    PE X (.Call (.Name x np) (e :: es) [] pos) (tCall sp [] E t) := pe_callG F hr hgd hg hm hk b .nil hx ha hdb he hpl
end
/-- a def, called by itself -/
def OkI (P : Program) (w : World) (K : PySem.W.Frag) (mg : Str → Option Value) (base : Heap) (CX : CXT) (k : Nat) (f : Addr) (ps : List Str) (sp : Sp) : Prop :=
  ∃ fd, FnOk P w K mg base CX k f fd ps sp ∧ Binds K fd ps []
theorem OkF.i {P : Program} {w : World} {K : PySem.W.Frag} {mg : Str → Option Value} {base : Heap} {CX : CXT} {k : Nat} {f : Addr} {ps : List Str} {sp : Sp} (G : OkF P w K mg base CX k f ps sp) : OkI P w K mg base CX k f ps sp := by
  obtain ⟨fd, F, b, _⟩ := G
  exact ⟨fd, F, b⟩
theorem OkI.fnR {P : Program} {w : World} {K : PySem.W.Frag} {mg : Str → Option Value} {base : Heap} {CX : CXT} {k : Nat} {f : Addr} {ps : List Str} {sp : Sp} (G : OkI P w K mg base CX k f ps sp) : FnR P w K mg base CX k f sp := by
  obtain ⟨fd, F, b⟩ := G
  refine (F.raw b .nil).imp fun vs H Q E h => ?_
  show sp (vs ++ []) H Q E
  rw [List.append_nil]
  exact h
theorem pe_mkI {X : Cx} {CX : CXT} {k : Nat} {f C : Addr} {ps : List Str} {sp : Sp} {E : XK} {x : Str} {np pos : Pos} {e : Expr} {es : List Expr} {t : TA} (M : Mk X.K C f) (G : OkI X.prog X.w X.K X.mg X.base CX k f ps sp) (hr : Room (k + 1) X.A) (hg : Gl X x) (hm : X.mg x = some (.ref C)) (hx : Passes CX X E) (ha : PA X (e :: es) t)
    (hdb : (x == ("__debug__" : Str)) = false := by decide) (he : starEach (e :: es) X.env = (false, eval e X.env) :: starEach es X.env := by rfl) (hpl : (backTo pos (starEach es X.env)).any (·.1) = false := by rfl) :
    PE X (.Call (.Name x np) (e :: es) [] pos) (tMake C sp [] E t) := by
  obtain ⟨fd, F, b⟩ := G
  exact pe_make M F hr hg hm b .nil hx ha hdb he hpl
/-! ### locks -/
theorem same_lock {H H' : Hp} {d : Addr} {u : HO} {od : Obj} (h : H d = some u) (s : Same (upd H d (.frz od u)) H') : Same H (upd H' d u) := fun b o z => by
  by_cases hb : b = d
  · subst hb
    rw [upd_same]
    exact h.symm.trans z |>.symm ▸ z ▸ h.symm ▸ rfl
  · rw [upd_ne hb]
    exact s b o (by rw [upd_ne hb]; exact z)
end Xr
set_option maxHeartbeats 4000000
/-! tables of whole numbers by names; their ascending form without zeros -/
namespace Xr
open PySem PySem.Spec PyProof.Rows L2
theorem ix_tupK {X : Cx} (K : PySem.W.Frag) (h : X.K = K := by rfl) : IxR X (rIxT K) := by
  subst h
  exact ix_tup
theorem call_isiK {X : Cx} (K : PySem.W.Frag) (h : X.K = K := by rfl) : CallR X (.builtin "isinstance") (rIsi K) := by
  subst h
  exact call_isi
abbrev Tab := List (Str × Int)
def ks (t : Tab) : List Str := t.map (·.1)
def tabK (t : Tab) : List (Key × V) := t.map fun p => (.inr p.1, .int p.2)
def val (t : Tab) (k : Str) : Int := match t.find? (fun p => decide (p.1 = k)) with
  | some p => p.2
  | none => 0
theorem find_tab (t : Tab) (k : Str) : valV (tabK t) (.inr k) = (t.find? fun p => decide (p.1 = k)).map fun p => V.int p.2 := by
  unfold valV tabK
  induction t with
  | nil => rfl
  | cons p r ih =>
    rw [List.map_cons, List.find?_cons, List.find?_cons]
    have e : decide ((Sum.inr p.1 : Key) = Sum.inr k) = decide (p.1 = k) := by
      by_cases h : p.1 = k <;> simp [h]
    dsimp only
    rw [e]
    cases decide (p.1 = k) with
    | true => rfl
    | false => exact ih
theorem find_none {t : Tab} {k : Str} : (t.find? fun p => decide (p.1 = k)) = none ↔ k ∉ ks t := by
  rw [List.find?_eq_none]
  unfold ks
  constructor
  · intro h hm
    obtain ⟨p, hp, e⟩ := List.mem_map.mp hm
    exact h p hp (decide_eq_true e)
  · intro h p hp e
    exact h (List.mem_map.mpr ⟨p, hp, of_decide_eq_true e⟩)
theorem valV_out {t : Tab} {k : Str} (h : k ∉ ks t) : valV (tabK t) (.inr k) = none := by
  rw [find_tab, find_none.mpr h]
  rfl
theorem valV_in {t : Tab} {k : Str} (h : k ∈ ks t) : valV (tabK t) (.inr k) = some (.int (val t k)) := by
  rw [find_tab]
  unfold val
  cases e : t.find? fun p => decide (p.1 = k) with
  | none => exact absurd h (find_none.mp e)
  | some p => rfl
theorem valV_getD {t : Tab} {k : Str} : (valV (tabK t) (.inr k)).getD (.int 0) = .int (val t k) := by
  rw [find_tab]
  unfold val
  cases t.find? fun p => decide (p.1 = k) <;> rfl
theorem val_out {t : Tab} {k : Str} (h : k ∉ ks t) : val t k = 0 := by
  unfold val
  rw [find_none.mpr h]
theorem val_map {f : Str → Int} {l : List Str} {k : Str} : val (l.map fun x => (x, f x)) k = if k ∈ l then f k else 0 := by
  unfold val
  induction l with
  | nil => rfl
  | cons x r ih =>
    rw [List.map_cons, List.find?_cons]
    by_cases h : x = k
    · subst h
      simp
    · have h2 : k ≠ x := fun z => h z.symm
      simp only [h, decide_false, List.mem_cons, h2, false_or]
      exact ih
theorem val_mem {t : Tab} (nd : (ks t).Nodup) {p : Str × Int} (h : p ∈ t) : val t p.1 = p.2 := by
  unfold val
  induction t with
  | nil => cases h
  | cons q r ih =>
    unfold ks at nd
    rw [List.map_cons, List.nodup_cons] at nd
    rw [List.find?_cons]
    rcases List.mem_cons.mp h with e | hm
    · subst e
      simp
    · have hne : q.1 ≠ p.1 := fun z => nd.1 (List.mem_map.mpr ⟨p, hm, z.symm⟩)
      simp only [hne, decide_false]
      exact ih nd.2 hm
theorem ks_tab (t : Tab) : (tabK t).map (·.1) = (ks t).map Sum.inr := by
  unfold tabK ks
  rw [List.map_map, List.map_map]
  rfl
theorem keysV_tab (t : Tab) : keysV (tabK t) = (ks t).map V.str := by
  unfold keysV tabK ks
  rw [List.map_map, List.map_map]
  rfl
theorem tab_eq_map {t : Tab} (nd : (ks t).Nodup) : t = (ks t).map fun k => (k, val t k) := by
  unfold ks
  rw [List.map_map]
  conv => lhs; rw [← List.map_id t]
  refine List.map_congr_left fun p hp => ?_
  show p = (p.1, val t p.1)
  rw [val_mem nd hp]
/-! ### order -/
def leS (a b : Str) : Prop := ltCps b.cps.toList a.cps.toList = false
theorem leS_iff {a b : Str} : leS a b ↔ a.cps.toList ≤ b.cps.toList := by
  unfold leS
  rw [ltCps_eq, decide_eq_false_iff_not]
  exact Iff.rfl
theorem leS_trans {a b c : Str} (h1 : leS a b) (h2 : leS b c) : leS a c := leS_iff.mpr (List.le_trans (leS_iff.mp h1) (leS_iff.mp h2))
theorem str_ext {a b : Str} (h : a.cps.toList = b.cps.toList) : a = b := by
  cases a with
  | mk x =>
    cases b with
    | mk y =>
      cases x
      cases y
      cases h
      rfl
theorem leS_antisymm {a b : Str} (h1 : leS a b) (h2 : leS b a) : a = b := str_ext (List.le_antisymm (leS_iff.mp h1) (leS_iff.mp h2))
theorem pairwise_rising : ∀ (l : List Str) (p : Str), risingS p l = true → (p :: l).Pairwise leS
  | [], p, _ => List.pairwise_singleton _ _
  | x :: r, p, h => by
    have h' : (!ltCps x.cps.toList p.cps.toList && risingS x r) = true := h
    obtain ⟨h1, h2⟩ := He.ba h'
    have ih := pairwise_rising r x h2
    have px : leS p x := by simpa [leS] using h1
    refine List.pairwise_cons.mpr ⟨fun y hy => ?_, ih⟩
    rcases List.mem_cons.mp hy with rfl | hy
    · exact px
    · exact leS_trans px (List.rel_of_pairwise_cons ih hy)
theorem pairwise_sorted {l : List Str} (h : sortedS l = true) : l.Pairwise leS := by
  cases l with
  | nil => exact List.Pairwise.nil
  | cons x r => exact pairwise_rising r x h
/-- ascending, without zeros -/
structure Canon (m : Tab) : Prop where
  up : (ks m).Pairwise leS
  nd : (ks m).Nodup
  nz : ∀ p ∈ m, p.2 ≠ 0
theorem Canon.mem {m : Tab} (c : Canon m) {k : Str} : k ∈ ks m ↔ val m k ≠ 0 := by
  constructor
  · intro h
    obtain ⟨p, hp, rfl⟩ := List.mem_map.mp h
    rw [val_mem c.nd hp]
    exact c.nz p hp
  · intro h
    by_cases hm : k ∈ ks m
    · exact hm
    · exact absurd (val_out hm) h
theorem canon_eq {m m' : Tab} (c : Canon m) (c' : Canon m') (h : ∀ k, val m k = val m' k) : m = m' := by
  have e : ks m = ks m' := by
    refine List.Perm.eq_of_pairwise (le := leS) (fun a b _ _ => leS_antisymm) c.up c'.up ((List.perm_ext_iff_of_nodup c.nd c'.nd).mpr fun k => ?_)
    rw [c.mem, c'.mem, h]
  rw [tab_eq_map c.nd, tab_eq_map c'.nd, e]
  exact List.map_congr_left fun k _ => by rw [h]
/-- the ascending form of a table, from its keys sorted -/
def norm (ys : List Str) (t : Tab) : Tab := (ys.filter fun k => decide (val t k ≠ 0)).map fun k => (k, val t k)
theorem ks_norm (ys : List Str) (t : Tab) : ks (norm ys t) = ys.filter fun k => decide (val t k ≠ 0) := by
  unfold ks norm
  rw [List.map_map]
  exact List.map_id _
theorem canon_norm {ys : List Str} {t : Tab} (nd : (ks t).Nodup) (hp : ys.Perm (ks t)) (hs : sortedS ys = true) : Canon (norm ys t) ∧ ∀ k, val (norm ys t) k = val t k := by
  refine ⟨⟨?_, ?_, ?_⟩, fun k => ?_⟩
  · rw [ks_norm]
    exact (pairwise_sorted hs).filter _
  · rw [ks_norm]
    exact (hp.nodup_iff.mpr nd).filter _
  · intro p h
    obtain ⟨k, hk, rfl⟩ := List.mem_map.mp h
    have := (List.mem_filter.mp hk).2
    exact of_decide_eq_true this
  · unfold norm
    rw [val_map]
    by_cases h0 : val t k = 0
    · rw [if_neg (by simp [h0]), h0]
    · have hm : k ∈ ks t := by
        by_cases hm : k ∈ ks t
        · exact hm
        · exact absurd (val_out hm) h0
      rw [if_pos (by simp [h0, hp.mem_iff, hm])]
theorem norm_length {ys : List Str} {t : Tab} (hp : ys.Perm (ks t)) : (norm ys t).length ≤ t.length := by
  unfold norm
  rw [List.length_map]
  have z := List.length_filter_le (fun k => decide (val t k ≠ 0)) ys
  have z2 : ys.length = t.length := by rw [hp.length_eq]; unfold ks; rw [List.length_map]
  omega
/-! ### sums -/
def addT (one other : Tab) (s : Int) : Tab := (ks one ++ (ks other).filter fun k => decide (k ∉ ks one)).map fun k => (k, val one k + s * val other k)
theorem ks_addT (one other : Tab) (s : Int) : ks (addT one other s) = ks one ++ (ks other).filter fun k => decide (k ∉ ks one) := by
  unfold ks addT
  rw [List.map_map]
  exact List.map_id _
theorem addT_nd {one other : Tab} {s : Int} (h1 : (ks one).Nodup) (h2 : (ks other).Nodup) : (ks (addT one other s)).Nodup := by
  rw [ks_addT]
  refine List.nodup_append.mpr ⟨h1, h2.filter _, fun a ha b hb e => ?_⟩
  subst e
  exact of_decide_eq_true (List.mem_filter.mp hb).2 ha
theorem val_addT {one other : Tab} {s : Int} {k : Str} : val (addT one other s) k = val one k + s * val other k := by
  unfold addT
  rw [val_map]
  by_cases h1 : k ∈ ks one
  · rw [if_pos (List.mem_append_left _ h1)]
  · by_cases h2 : k ∈ ks other
    · rw [if_pos (List.mem_append_right _ (List.mem_filter.mpr ⟨h2, decide_eq_true h1⟩))]
    · rw [if_neg, val_out h1, val_out h2, Int.mul_zero]
      · rfl
      · intro h
        rcases List.mem_append.mp h with h | h
        · exact h1 h
        · exact h2 (List.mem_filter.mp h).1
theorem addT_length {one other : Tab} {s : Int} : (addT one other s).length ≤ one.length + other.length := by
  unfold addT
  rw [List.length_map, List.length_append]
  have z := List.length_filter_le (fun k => decide (k ∉ ks one)) (ks other)
  have z1 : (ks one).length = one.length := by unfold ks; rw [List.length_map]
  have z2 : (ks other).length = other.length := by unfold ks; rw [List.length_map]
  omega
theorem nodup_le : ∀ {l l' : List Str}, l.Nodup → l ⊆ l' → l.length ≤ l'.length
  | [], _, _, _ => Nat.zero_le _
  | x :: r, l', nd, h => by
    obtain ⟨n1, n2⟩ := List.nodup_cons.mp nd
    have hx : x ∈ l' := h (List.mem_cons_self ..)
    have z := nodup_le (l := r) (l' := l'.erase x) n2 fun y hy => by
      have hne : y ≠ x := fun e => n1 (e ▸ hy)
      exact (List.mem_erase_of_ne hne).mpr (h (List.mem_cons_of_mem _ hy))
    rw [List.length_erase_of_mem hx] at z
    have := List.length_pos_of_mem hx
    rw [List.length_cons]
    omega
/-! ### dicts compared -/
theorem subK_tab {m m' : Tab} (nd : (ks m).Nodup) : subK (tabK m) (tabK m') = decide (∀ k ∈ ks m, k ∈ ks m' ∧ val m k = val m' k) := by
  unfold subK tabK
  rw [List.all_map, Bool.eq_iff_iff, List.all_eq_true, decide_eq_true_iff]
  constructor
  · intro h k hk
    obtain ⟨p, hp, rfl⟩ := List.mem_map.mp hk
    have z := h p hp
    by_cases hm : p.1 ∈ ks m'
    · refine ⟨hm, ?_⟩
      have e := valV_in hm
      unfold tabK at e
      simp only [Function.comp] at z
      rw [e] at z
      rw [val_mem nd hp]
      simpa [eqV] using z
    · have e := valV_out hm
      unfold tabK at e
      simp only [Function.comp] at z
      rw [e] at z
      cases z
  · intro h p hp
    obtain ⟨hm, hv⟩ := h p.1 (List.mem_map.mpr ⟨p, hp, rfl⟩)
    have e := valV_in hm
    unfold tabK at e
    simp only [Function.comp]
    rw [e, ← hv, val_mem nd hp]
    simp [eqV]
theorem eq_tab {m m' : Tab} (c : Canon m) (c' : Canon m') : ((tabK m).length == (tabK m').length && subK (tabK m) (tabK m')) = decide (m = m') := by
  rw [subK_tab c.nd, Bool.eq_iff_iff, Bool.and_eq_true, decide_eq_true_iff, decide_eq_true_iff]
  constructor
  · rintro ⟨h1, h2⟩
    have hl : (ks m).length = (ks m').length := by
      have := beq_iff_eq.mp h1
      unfold tabK at this
      unfold ks
      simpa using this
    have sub : ks m ⊆ ks m' := fun k hk => (h2 k hk).1
    have pm : (ks m).Perm (ks m') := by
      refine (List.perm_ext_iff_of_nodup c.nd c'.nd).mpr fun k => ⟨fun h => sub h, fun h => ?_⟩
      by_cases hk : k ∈ ks m
      · exact hk
      · have z : (k :: ks m).Nodup := List.nodup_cons.mpr ⟨hk, c.nd⟩
        have z2 : (k :: ks m) ⊆ ks m' := fun x hx => (List.mem_cons.mp hx).elim (fun e => e ▸ h) fun hx => sub hx
        have z3 := nodup_le z z2
        rw [List.length_cons] at z3
        omega
    refine canon_eq c c' fun k => ?_
    by_cases hk : k ∈ ks m
    · exact (h2 k hk).2
    · rw [val_out hk, val_out fun h => hk (pm.mem_iff.mpr h)]
  · rintro rfl
    exact ⟨beq_self_eq_true _, fun k hk => ⟨hk, rfl⟩⟩
theorem flat_tab (t : Tab) : ∀ p ∈ tabK t, flatV p.2 = true := fun p hp => by
  obtain ⟨q, _, rfl⟩ := List.mem_map.mp hp
  rfl
end Xr
set_option maxHeartbeats 4000000
/-! a table with an entry put in -/
namespace Xr
open PySem PySem.Spec PyProof.Rows L2
def putT (t : Tab) (k : Str) (v : Int) : Tab := if k ∈ ks t then t.map (fun p => if p.1 = k then (p.1, v) else p) else t ++ [(k, v)]
theorem any_tab {t : Tab} {k : Str} : ((tabK t).any fun kv => decide (kv.1 = Sum.inr k)) = decide (k ∈ ks t) := by
  rw [Bool.eq_iff_iff, List.any_eq_true, decide_eq_true_iff]
  unfold tabK ks
  constructor
  · rintro ⟨q, hq, e⟩
    obtain ⟨p, hp, rfl⟩ := List.mem_map.mp hq
    have e2 : (Sum.inr p.1 : Key) = Sum.inr k := of_decide_eq_true e
    exact List.mem_map.mpr ⟨p, hp, Sum.inr.inj e2⟩
  · intro h
    obtain ⟨p, hp, rfl⟩ := List.mem_map.mp h
    exact ⟨_, List.mem_map.mpr ⟨p, hp, rfl⟩, decide_eq_true rfl⟩
theorem put_tab {t : Tab} {k : Str} {v : Int} : putK (tabK t) (.inr k) (.int v) = tabK (putT t k v) := by
  unfold putK putT
  rw [any_tab]
  by_cases h : k ∈ ks t
  · rw [if_pos (decide_eq_true h), if_pos h]
    unfold tabK
    rw [List.map_map, List.map_map]
    refine List.map_congr_left fun p _ => ?_
    show (if (Sum.inr p.1 : Key) = Sum.inr k then ((Sum.inr p.1 : Key), V.int v) else (Sum.inr p.1, V.int p.2)) = _
    by_cases e : p.1 = k
    · subst e
      rw [if_pos rfl]
      simp
    · rw [if_neg fun z => e (Sum.inr.inj z)]
      simp [e]
  · rw [if_neg (by rw [decide_eq_false h]; exact Bool.false_ne_true), if_neg h]
    unfold tabK
    rw [List.map_append]
    rfl
theorem val_put {t : Tab} {k j : Str} {v : Int} : val (putT t k v) j = if j = k then v else val t j := by
  have e := valV_getD (t := putT t k v) (k := j)
  rw [← put_tab, valV_put] at e
  by_cases h : j = k
  · subst h
    rw [if_pos rfl] at e ⊢
    exact (V.int.inj e).symm
  · rw [if_neg fun z => h (Sum.inr.inj z), valV_getD] at e
    rw [if_neg h]
    exact (V.int.inj e).symm
theorem ks_put {t : Tab} {k : Str} {v : Int} : ks (putT t k v) = if k ∈ ks t then ks t else ks t ++ [k] := by
  unfold putT
  split
  · unfold ks
    rw [List.map_map]
    refine List.map_congr_left fun p _ => ?_
    show (if p.1 = k then (p.1, v) else p).1 = p.1
    split <;> rfl
  · unfold ks
    rw [List.map_append]
    rfl
theorem nd_put {t : Tab} {k : Str} {v : Int} (h : (ks t).Nodup) : (ks (putT t k v)).Nodup := by
  rw [ks_put]
  split
  · exact h
  · rename_i hn
    refine List.nodup_append.mpr ⟨h, by simp, fun a ha b hb e => ?_⟩
    rw [List.mem_singleton.mp hb] at e
    exact hn (e ▸ ha)
theorem mem_put {t : Tab} {k : Str} {v : Int} {p : Str × Int} (h : p ∈ putT t k v) : p.2 = v ∨ p ∈ t := by
  unfold putT at h
  split at h
  · obtain ⟨q, hq, e⟩ := List.mem_map.mp h
    by_cases z : q.1 = k
    · rw [if_pos z] at e
      rw [← e]
      exact .inl rfl
    · rw [if_neg z] at e
      rw [← e]
      exact .inr hq
  · rcases List.mem_append.mp h with h | h
    · exact .inr h
    · rw [List.mem_singleton.mp h]
      exact .inl rfl
theorem put_len {t : Tab} {k : Str} {v : Int} : (putT t k v).length ≤ t.length + 1 := by
  unfold putT
  split
  · rw [List.length_map]
    omega
  · rw [List.length_append]
    exact Nat.le_refl _
/-- the months of the laws -/
def monthsL : List Str := ["z", "m", "aa", "self", "zzzzzzzz", "b", "zz"]
structure TabM (t : Tab) : Prop where
  nd : (ks t).Nodup
  sub : ks t ⊆ monthsL
theorem TabM.len {t : Tab} (h : TabM t) : t.length ≤ 7 := by
  have z := nodup_le h.nd h.sub
  unfold ks at z
  rw [List.length_map] at z
  exact z
theorem TabM.put {t : Tab} {k : Str} {v : Int} (h : TabM t) (hk : k ∈ monthsL) : TabM (putT t k v) := by
  refine ⟨nd_put h.nd, ?_⟩
  rw [ks_put]
  split
  · exact h.sub
  · intro x hx
    rcases List.mem_append.mp hx with hx | hx
    · exact h.sub hx
    · rw [List.mem_singleton.mp hx]
      exact hk
theorem tabM_nil : TabM [] := ⟨List.nodup_nil, fun _ h => (List.not_mem_nil h).elim⟩
theorem erase_map {α β : Type} (f : α → β) : ∀ (l : List α) (i : Nat), (l.map f).eraseIdx i = (l.eraseIdx i).map f
  | [], _ => rfl
  | _ :: _, 0 => rfl
  | x :: r, i + 1 => by
    show f x :: (r.map f).eraseIdx i = f x :: (r.eraseIdx i).map f
    rw [erase_map f r i]
theorem erase_perm {α : Type} : ∀ {l : List α} {i : Nat} (h : i < l.length), (l[i] :: l.eraseIdx i).Perm l
  | _ :: _, 0, _ => List.Perm.refl _
  | x :: r, i + 1, h => (List.Perm.swap x (r[i]'(Nat.lt_of_succ_lt_succ h)) (r.eraseIdx i)).trans ((erase_perm (l := r) (i := i) (Nat.lt_of_succ_lt_succ h)).cons x)
theorem seqI {i : Int} {n : Nat} (h0 : 0 ≤ i) (h1 : i < (n : Int)) : seqIndex? i n = some i.toNat := by
  have h2 : ¬ i < 0 := by omega
  unfold seqIndex?
  simp [h0, h1, h2]
end Xr
set_option maxHeartbeats 4000000
/-! the text of a list of pairs of a name and a whole number -/
namespace Xr
open PySem PySem.Spec PyProof.Rows L2
def pairD (p : Str × Int) : PyData := .tuple [.str p.1, .int p.2]
def pairsD (m : Tab) : PyData := .list (m.map pairD)
theorem app_len (a b : Str) : (a ++ b).length = a.length + b.length := by
  show (a.cps ++ b.cps).size = _
  rw [Array.size_append]
  rfl
theorem textFrom_le {B : Nat} : ∀ (ts : List Str) (k : Nat) (acc : Str), (∀ t ∈ ts, t.length ≤ B) → (textFrom k acc ts).length ≤ acc.length + ts.length * (B + 2)
  | [], k, acc, _ => by
    show acc.length ≤ _
    omega
  | t :: r, k, acc, h => by
    have ih := textFrom_le r (k + 1) (acc ++ (if k > 0 then ", " else "" : String) ++ t) fun x hx => h x (List.mem_cons_of_mem _ hx)
    have e : textFrom k acc (t :: r) = textFrom (k + 1) (acc ++ (if k > 0 then ", " else "" : String) ++ t) r := rfl
    rw [e]
    rw [app_len, app_len] at ih
    have ht := h t (List.mem_cons_self ..)
    have hs : (Str.ofString (if k > 0 then ", " else "" : String)).length ≤ 2 := by split <;> decide
    rw [List.length_cons, Nat.succ_mul]
    omega
theorem pair_len {p : Str × Int} (h : (reprText p.1).length ≤ 100) (hn : p.2.natAbs.log2 < 1920) : (pairD p).shown.length ≤ 2025 := by
  have e : (pairD p).shown = ("(" : Str) ++ Str.join ", " [reprText p.1, (Str.ofString (toString p.2))] ++ (")" : Str) := rfl
  have z := int_text_len_1921 hn
  have j := join_length_add [reprText p.1, (Str.ofString (toString p.2))] (by simp)
  rw [e, app_len, app_len]
  have pl : piled [reprText p.1, (Str.ofString (toString p.2))] = (reprText p.1).length + 2 + ((Str.ofString (toString p.2)).length + 2) := by simp [piled]
  rw [pl] at j
  have e1 : (Str.ofString "(").length = 1 := rfl
  have e2 : (Str.ofString ")").length = 1 := rfl
  omega
theorem shownAll_map (m : Tab) : PyData.shownAll (m.map pairD) = m.map fun p => (pairD p).shown := by
  induction m with
  | nil => rfl
  | cons p r ih =>
    show (pairD p).shown :: PyData.shownAll (r.map pairD) = _
    rw [ih]
    rfl
theorem pairs_len {m : Tab} (hl : m.length ≤ 64) (h : ∀ p ∈ m, (reprText p.1).length ≤ 100 ∧ p.2.natAbs.log2 < 1920) : (pairsD m).shown.length ≤ sizeLine := by
  have e : (pairsD m).shown = textFrom 0 "[" (PyData.shownAll (m.map pairD)) ++ ("]" : Str) := rfl
  have z := textFrom_le (B := 2025) (PyData.shownAll (m.map pairD)) 0 "[" fun t ht => by
    rw [shownAll_map] at ht
    obtain ⟨p, hp, rfl⟩ := List.mem_map.mp ht
    exact pair_len (h p hp).1 (h p hp).2
  rw [shownAll_map, List.length_map] at z
  have e1 : (Str.ofString "[").length = 1 := rfl
  have e2 : (Str.ofString "]").length = 1 := rfl
  rw [e, app_len, shownAll_map, sizeLine_eq]
  have : m.length * (2025 + 2) ≤ 64 * (2025 + 2) := Nat.mul_le_mul_right _ hl
  omega
theorem pairs_show {m : Tab} (h : ∀ p ∈ m, p.2.natAbs.log2 < 1920) : (pairsD m).showable = true := by
  show PyData.showableAll (m.map pairD) = true
  induction m with
  | nil => rfl
  | cons p r ih =>
    show ((pairD p).showable && PyData.showableAll (r.map pairD)) = true
    rw [ih fun q hq => h q (List.mem_cons_of_mem _ hq), Bool.and_true]
    show (true && (decide (p.2.natAbs.log2 < 1920) && true)) = true
    rw [decide_eq_true (h p (List.mem_cons_self ..))]
    rfl
theorem pairs_depth (m : Tab) : (pairsD m).depth ≤ 2 := by
  show PyData.depthAll (m.map pairD) + 1 ≤ 2
  have z : PyData.depthAll (m.map pairD) ≤ 1 := by
    induction m with
    | nil => exact Nat.zero_le _
    | cons p r ih =>
      show max (pairD p).depth (PyData.depthAll (r.map pairD)) ≤ 1
      exact Nat.max_le.mpr ⟨Nat.le_refl _, ih⟩
  omega
theorem months_repr : ∀ k ∈ monthsL, (reprText k).length ≤ 100 := by decide +kernel
end Xr
set_option maxHeartbeats 4000000
/-! texts of terms: written and read -/
namespace Xr
open PySem PySem.Spec PyProof.Rows L2 TL
def digS : Str := "0123456789"
def numIn (x : Str) : Option Int := if ((decide (1 ≤ x.length) && decide (x.length ≤ 60)) && x.cps.toList.all fun c => decide (c ∈ digS.cps.toList)) = true then
  (if x = "0" ∨ x.cps.toList.headD 0 ≠ 48 then some ((NumText.digitsVal x.cps.toList : Nat) : Int) else none) else none
theorem dig_iff {c : Nat} : c ∈ digS.cps.toList ↔ 48 ≤ c ∧ c ≤ 57 := by
  have e : digS.cps.toList = [48, 49, 50, 51, 52, 53, 54, 55, 56, 57] := by decide +kernel
  rw [e]
  simp
  omega
def lettersS : Str := "abcdefghijklmnopqrstuvwxyz"
theorem let_iff {c : Nat} : c ∈ lettersS.cps.toList ↔ 97 ≤ c ∧ c ≤ 122 := by
  have e : lettersS.cps.toList = (List.range 26).map (· + 97) := by decide +kernel
  rw [e, List.mem_map]
  constructor
  · rintro ⟨a, h, rfl⟩
    have := List.mem_range.mp h
    omega
  · rintro ⟨h1, h2⟩
    exact ⟨c - 97, List.mem_range.mpr (by omega), by omega⟩
def nameS (x : Str) : Bool := (decide (1 ≤ x.length) && decide (x.length ≤ 8)) && x.cps.toList.all fun c => decide (c ∈ lettersS.cps.toList)
def numS (n : Int) : Str := Str.ofString (toString n)
theorem tl_numS {n : Int} (h : 0 ≤ n) : (numS n).cps.toList = numL n.natAbs := by
  have e : n = ((n.natAbs : Nat) : Int) := by omega
  unfold numS
  conv => lhs; rw [e]
  exact tl_num n.natAbs
theorem numL_head : ∀ {n : Nat}, 1 ≤ n → (numL n).headD 0 ≠ 48 := by
  intro n
  induction n using Nat.strongRecOn with
  | _ n ih =>
    intro h1
    by_cases h : n < 10
    · rw [numL_lt h]
      show 48 + n ≠ 48
      omega
    · rw [numL_step (by omega)]
      have z := ih (n / 10) (by omega) (by omega)
      have ne := numL_ne (n / 10)
      cases e : numL (n / 10) with
      | nil => exact absurd e ne
      | cons c r => rw [e] at z; exact z
theorem len_toList (x : Str) : x.cps.toList.length = x.length := Array.length_toList
theorem numIn_num {n : Int} (h0 : 0 ≤ n) (h1 : n < 10 ^ 60) : numIn (numS n) = some n := by
  have e := tl_numS h0
  have hl : (numS n).length ≤ 60 := by
    rw [← len_toList, e]
    refine numL_len (by decide) ?_
    have z : ((10 : Int) ^ 60) = ((10 ^ 60 : Nat) : Int) := by decide
    rw [z] at h1
    omega
  have hp : 1 ≤ (numS n).length := by
    rw [← len_toList, e]
    have := numL_ne n.natAbs
    cases h : numL n.natAbs with
    | nil => exact absurd h this
    | cons c r => simp
  have ha : ((numS n).cps.toList.all fun c => decide (c ∈ digS.cps.toList)) = true := by
    rw [e, List.all_eq_true]
    intro c hc
    rw [decide_eq_true_iff, dig_iff]
    exact numL_digits _ c hc
  unfold numIn
  rw [decide_eq_true hp, decide_eq_true hl, ha]
  rw [if_pos (by rfl), if_pos, e, numL_val]
  · congr 1
    omega
  · by_cases z : n = 0
    · subst z
      left
      decide +kernel
    · right
      rw [e]
      exact numL_head (by omega)
theorem numIn_name {x : Str} (h : nameS x = true) : numIn x = none := by
  unfold nameS at h
  obtain ⟨h1, h2⟩ := Bool.and_eq_true_iff.mp h
  obtain ⟨h1, _⟩ := Bool.and_eq_true_iff.mp h1
  have h1 := of_decide_eq_true h1
  unfold numIn
  rw [if_neg]
  intro z
  obtain ⟨_, z⟩ := Bool.and_eq_true_iff.mp z
  rw [← len_toList] at h1
  cases e : x.cps.toList with
  | nil => rw [e] at h1; simp at h1
  | cons c r =>
    have z1 := List.all_eq_true.mp z c (by rw [e]; exact List.mem_cons_self ..)
    have z2 := List.all_eq_true.mp h2 c (by rw [e]; exact List.mem_cons_self ..)
    have z1 := dig_iff.mp (of_decide_eq_true z1)
    have z2 := let_iff.mp (of_decide_eq_true z2)
    omega
/-! ### words -/
abbrev absI (i : Int) : Int := if i < 0 then -i else i
def termW (e : Bool) (p : Str × Int) : List Str := (if p.2 < 0 then [("-" : Str)] else if e then [] else [("+" : Str)]) ++ ((if absI p.2 ≠ 1 then [numS (absI p.2)] else []) ++ [p.1])
/-- the words of terms, behind words that stand already -/
def wordsB (b : Bool) : Tab → List Str
  | [] => []
  | p :: r => termW b p ++ wordsB false r
def wordsT (m : Tab) : List Str := wordsB true m
theorem termW_ne {e : Bool} {p : Str × Int} : termW e p ≠ [] := by
  unfold termW
  simp
theorem wordsT_nil {m : Tab} : wordsT m = [] ↔ m = [] := by
  cases m with
  | nil => simp [wordsT, wordsB]
  | cons p r =>
    show termW true p ++ _ = [] ↔ _
    simp [termW_ne]
def wordsZ (m : Tab) : List Str := if wordsT m ≠ [] then wordsT m else ["0"]
def textT (m : Tab) : Str := if wordsT m ≠ [] then Txt.join " " (wordsT m) else "0"
/-! ### reading -/
def wordAt (ws : List Str) (at_ : Nat) : Except Nat Str := match ws[at_]? with
  | some w => .ok w
  | none => .error ws.length
def signAt (ws : List Str) (at_ : Nat) (first : Bool) : Except Nat (Int × Nat) := match wordAt ws at_ with
  | .error e => .error e
  | .ok w => if w = "-" then .ok (-1, at_ + 1) else if first = true then .ok (1, at_) else if w = "+" then .ok (1, at_ + 1) else .error at_
def sizeAt (ws : List Str) (at_ : Nat) : Except Nat (Int × Nat) := match wordAt ws at_ with
  | .error e => .error e
  | .ok w => match numIn w with
    | none => .ok (1, at_)
    | some n => if n < 2 then .error at_ else .ok (n, at_ + 1)
def termAt (ws : List Str) (at_ : Nat) (acc : Tab) : Except Nat (Tab × Nat) := match signAt ws at_ acc.isEmpty with
  | .error e => .error e
  | .ok (s, a1) => match sizeAt ws a1 with
    | .error e => .error e
    | .ok (n, a2) => match wordAt ws a2 with
      | .error e => .error e
      | .ok m => if nameS m = true ∧ m ∉ ks acc then .ok (acc ++ [(m, s * n)], a2 + 1) else .error a2
def termsFrom (ws : List Str) : Nat → Nat → Tab → Except Nat Tab
  | 0, _, _ => .error 0
  | f + 1, at_, acc => if acc.isEmpty = true ∨ at_ < ws.length then (match termAt ws at_ acc with
    | .error e => .error e
    | .ok (acc', at') => termsFrom ws f at' acc') else .ok acc
def termsIn (ws : List Str) (at_ : Nat) : Except Nat Tab := if ws[at_]? = some ("0" : Str) then (if at_ + 1 < ws.length then .error (at_ + 1) else .ok []) else termsFrom ws (ws.length + 1) at_ []
theorem signAt_le {ws : List Str} {a b : Nat} {f : Bool} {s : Int} (h : signAt ws a f = .ok (s, b)) : a ≤ b ∧ b ≤ a + 1 ∧ (s = 1 ∨ s = -1) := by
  unfold signAt at h
  cases hw : wordAt ws a with
  | error e => rw [hw] at h; cases h
  | ok w =>
    rw [hw] at h
    dsimp only at h
    split at h
    · cases h; omega
    · split at h
      · cases h; omega
      · split at h
        · cases h; omega
        · cases h
theorem sizeAt_le {ws : List Str} {a b : Nat} {n : Int} (h : sizeAt ws a = .ok (n, b)) : a ≤ b ∧ b ≤ a + 1 ∧ 1 ≤ n := by
  unfold sizeAt at h
  cases hw : wordAt ws a with
  | error e => rw [hw] at h; cases h
  | ok w =>
    rw [hw] at h
    dsimp only at h
    cases hn : numIn w with
    | none => rw [hn] at h; cases h; omega
    | some k =>
      rw [hn] at h
      dsimp only at h
      split at h
      · cases h
      · cases h; omega
structure GoodP (p : Str × Int) : Prop where
  name : nameS p.1 = true
  ne : p.2 ≠ 0
  wh : absI p.2 < 10 ^ 60
theorem name_minus {x : Str} (h : nameS x = true) : x ≠ "-" ∧ x ≠ "+" ∧ x ≠ "0" := by
  refine ⟨?_, ?_, ?_⟩ <;> (intro z; rw [z] at h; revert h; decide +kernel)
theorem num_minus {n : Int} (h : 2 ≤ n) : numS n ≠ "-" ∧ numS n ≠ "+" ∧ numS n ≠ "0" := by
  have e := tl_numS (n := n) (by omega)
  have hd := numL_digits n.natAbs
  have hv := numL_val n.natAbs
  rw [← e] at hd hv
  refine ⟨?_, ?_, ?_⟩ <;> (intro z; rw [z] at hd hv)
  · have := hd 45 (by decide +kernel)
    omega
  · have := hd 43 (by decide +kernel)
    omega
  · have z2 : NumText.digitsVal (Str.ofString "0").cps.toList = 0 := by decide +kernel
    rw [z2] at hv
    omega
theorem at_app {pre suf : List Str} {w : Str} : wordAt (pre ++ w :: suf) pre.length = .ok w := by
  unfold wordAt
  rw [List.getElem?_append_right (Nat.le_refl _), Nat.sub_self]
  rfl
theorem at_app1 {pre suf : List Str} {v w : Str} : wordAt (pre ++ v :: w :: suf) (pre.length + 1) = .ok w := by
  have e : pre ++ v :: w :: suf = (pre ++ [v]) ++ w :: suf := by simp
  have l : (pre ++ [v]).length = pre.length + 1 := by simp
  rw [e, ← l]
  exact at_app
/-- behind the sign: size and name -/
theorem size_term {pre suf : List Str} {p : Str × Int} (g : GoodP p) : ∃ a2, sizeAt (pre ++ ((if absI p.2 ≠ 1 then [numS (absI p.2)] else []) ++ [p.1]) ++ suf) pre.length = .ok (absI p.2, a2) ∧
    wordAt (pre ++ ((if absI p.2 ≠ 1 then [numS (absI p.2)] else []) ++ [p.1]) ++ suf) a2 = .ok p.1 ∧ a2 + 1 = pre.length + ((if absI p.2 ≠ 1 then [numS (absI p.2)] else []) ++ [p.1]).length := by
  have gn := g.ne
  have g0 : 1 ≤ absI p.2 := by unfold absI; split <;> omega
  by_cases h : absI p.2 ≠ 1
  · rw [if_pos h]
    refine ⟨pre.length + 1, ?_, ?_, by simp⟩
    · unfold sizeAt
      have e : pre ++ ([numS (absI p.2)] ++ [p.1]) ++ suf = pre ++ numS (absI p.2) :: (p.1 :: suf) := by simp
      rw [e, at_app]
      dsimp only
      rw [numIn_num (by omega) g.wh]
      dsimp only
      rw [if_neg (by omega)]
    · have e : pre ++ ([numS (absI p.2)] ++ [p.1]) ++ suf = pre ++ numS (absI p.2) :: p.1 :: suf := by simp
      rw [e]
      exact at_app1
  · rw [if_neg h]
    have e : pre ++ ([] ++ [p.1]) ++ suf = pre ++ p.1 :: suf := by simp
    refine ⟨pre.length, ?_, ?_, by simp⟩
    · unfold sizeAt
      rw [e, at_app]
      dsimp only
      rw [numIn_name g.name]
      have : absI p.2 = 1 := by omega
      rw [this]
    · rw [e]
      exact at_app
theorem head_term {p : Str × Int} (g : GoodP p) : ∃ w r, (if absI p.2 ≠ 1 then [numS (absI p.2)] else []) ++ [p.1] = w :: r ∧ w ≠ "-" ∧ w ≠ "+" ∧ w ≠ "0" := by
  have gn := g.ne
  have g0 : 1 ≤ absI p.2 := by unfold absI; split <;> omega
  by_cases h : absI p.2 ≠ 1
  · rw [if_pos h]
    exact ⟨_, _, rfl, num_minus (by omega)⟩
  · rw [if_neg h]
    exact ⟨_, _, rfl, name_minus g.name⟩
theorem termAt_term {pre suf : List Str} {p : Str × Int} {acc : Tab} (g : GoodP p) (hn : p.1 ∉ ks acc) : termAt (pre ++ termW acc.isEmpty p ++ suf) pre.length acc = .ok (acc ++ [p], pre.length + (termW acc.isEmpty p).length) := by
  obtain ⟨w, r, ew, w1, w2, w3⟩ := head_term g
  unfold termW termAt
  by_cases hneg : p.2 < 0
  · rw [if_pos hneg]
    have es : pre ++ ([("-" : Str)] ++ ((if absI p.2 ≠ 1 then [numS (absI p.2)] else []) ++ [p.1])) ++ suf = (pre ++ [("-" : Str)]) ++ ((if absI p.2 ≠ 1 then [numS (absI p.2)] else []) ++ [p.1]) ++ suf := by simp
    have hs : signAt (pre ++ ([("-" : Str)] ++ ((if absI p.2 ≠ 1 then [numS (absI p.2)] else []) ++ [p.1])) ++ suf) pre.length acc.isEmpty = .ok (-1, pre.length + 1) := by
      have e : pre ++ ([("-" : Str)] ++ ((if absI p.2 ≠ 1 then [numS (absI p.2)] else []) ++ [p.1])) ++ suf = pre ++ ("-" : Str) :: (((if absI p.2 ≠ 1 then [numS (absI p.2)] else []) ++ [p.1]) ++ suf) := by simp
      unfold signAt
      rw [e, at_app]
      exact if_pos rfl
    rw [hs]
    dsimp only
    obtain ⟨a2, h1, h2, h3⟩ := size_term (pre := pre ++ [("-" : Str)]) (suf := suf) g
    have l : (pre ++ [("-" : Str)]).length = pre.length + 1 := by simp
    rw [l] at h1 h3
    rw [es, h1]
    dsimp only
    rw [h2]
    dsimp only
    rw [if_pos ⟨g.name, hn⟩]
    have e1 : -1 * absI p.2 = p.2 := by unfold absI; rw [if_pos hneg]; omega
    rw [e1]
    have e2 : ([("-" : Str)] ++ ((if absI p.2 ≠ 1 then [numS (absI p.2)] else []) ++ [p.1])).length = ((if absI p.2 ≠ 1 then [numS (absI p.2)] else []) ++ [p.1]).length + 1 := by simp
    rw [e2]
    have e3 : a2 + 1 = pre.length + (((if absI p.2 ≠ 1 then [numS (absI p.2)] else []) ++ [p.1]).length + 1) := by omega
    rw [e3]
  · rw [if_neg hneg]
    have e1 : 1 * absI p.2 = p.2 := by unfold absI; rw [if_neg hneg]; omega
    cases hf : acc.isEmpty with
    | true =>
      rw [if_pos rfl]
      have es : pre ++ ([] ++ ((if absI p.2 ≠ 1 then [numS (absI p.2)] else []) ++ [p.1])) ++ suf = pre ++ ((if absI p.2 ≠ 1 then [numS (absI p.2)] else []) ++ [p.1]) ++ suf := by simp
      have hs : signAt (pre ++ ((if absI p.2 ≠ 1 then [numS (absI p.2)] else []) ++ [p.1]) ++ suf) pre.length true = .ok (1, pre.length) := by
        have e : pre ++ ((if absI p.2 ≠ 1 then [numS (absI p.2)] else []) ++ [p.1]) ++ suf = pre ++ w :: (r ++ suf) := by rw [ew]; simp
        unfold signAt
        rw [e, at_app]
        dsimp only
        rw [if_neg w1, if_pos rfl]
      rw [es, hs]
      dsimp only
      obtain ⟨a2, h1, h2, h3⟩ := size_term (pre := pre) (suf := suf) g
      rw [h1]
      dsimp only
      rw [h2]
      dsimp only
      rw [if_pos ⟨g.name, hn⟩, e1, h3]
      simp
    | false =>
      rw [if_neg (by simp)]
      have es : pre ++ ([("+" : Str)] ++ ((if absI p.2 ≠ 1 then [numS (absI p.2)] else []) ++ [p.1])) ++ suf = (pre ++ [("+" : Str)]) ++ ((if absI p.2 ≠ 1 then [numS (absI p.2)] else []) ++ [p.1]) ++ suf := by simp
      have hs : signAt (pre ++ ([("+" : Str)] ++ ((if absI p.2 ≠ 1 then [numS (absI p.2)] else []) ++ [p.1])) ++ suf) pre.length false = .ok (1, pre.length + 1) := by
        have e : pre ++ ([("+" : Str)] ++ ((if absI p.2 ≠ 1 then [numS (absI p.2)] else []) ++ [p.1])) ++ suf = pre ++ ("+" : Str) :: (((if absI p.2 ≠ 1 then [numS (absI p.2)] else []) ++ [p.1]) ++ suf) := by simp
        unfold signAt
        rw [e, at_app]
        dsimp only
        rw [if_neg (by decide), if_neg (by simp), if_pos rfl]
      rw [hs]
      dsimp only
      obtain ⟨a2, h1, h2, h3⟩ := size_term (pre := pre ++ [("+" : Str)]) (suf := suf) g
      have l : (pre ++ [("+" : Str)]).length = pre.length + 1 := by simp
      rw [l] at h1 h3
      rw [es, h1]
      dsimp only
      rw [h2]
      dsimp only
      rw [if_pos ⟨g.name, hn⟩, e1]
      have e2 : ([("+" : Str)] ++ ((if absI p.2 ≠ 1 then [numS (absI p.2)] else []) ++ [p.1])).length = ((if absI p.2 ≠ 1 then [numS (absI p.2)] else []) ++ [p.1]).length + 1 := by simp
      rw [e2]
      have e3 : a2 + 1 = pre.length + (((if absI p.2 ≠ 1 then [numS (absI p.2)] else []) ++ [p.1]).length + 1) := by omega
      rw [e3]
theorem termsFrom_words : ∀ (r : Tab) (pre : List Str) (acc : Tab) (f : Nat), (∀ p ∈ r, GoodP p) → (ks (acc ++ r)).Nodup → r.length < f → (acc = [] → r ≠ []) → termsFrom (pre ++ wordsB acc.isEmpty r) f pre.length acc = .ok (acc ++ r)
  | [], pre, acc, 0, _, _, hl, _ => absurd hl (Nat.not_lt_zero _)
  | [], pre, acc, f + 1, _, _, _, hne => by
    have ha : acc.isEmpty = false := by
      cases acc with
      | nil => exact absurd rfl (hne rfl)
      | cons _ _ => rfl
    unfold termsFrom
    rw [if_neg]
    · rw [List.append_nil]
    · simp [wordsB, ha]
  | p :: r, pre, acc, 0, _, _, hl, _ => absurd hl (Nat.not_lt_zero _)
  | p :: r, pre, acc, f + 1, hg, nd, hl, _ => by
    have e : pre ++ wordsB acc.isEmpty (p :: r) = pre ++ termW acc.isEmpty p ++ wordsB false r := by simp [wordsB]
    have hn : p.1 ∉ ks acc := by
      unfold ks at nd
      rw [List.map_append, List.nodup_append] at nd
      exact fun z => nd.2.2 _ z _ (List.mem_map.mpr ⟨p, List.mem_cons_self .., rfl⟩) rfl
    unfold termsFrom
    rw [if_pos, e, termAt_term (hg p (List.mem_cons_self ..)) hn]
    · dsimp only
      have l : pre.length + (termW acc.isEmpty p).length = (pre ++ termW acc.isEmpty p).length := by simp
      have ie : (acc ++ [p]).isEmpty = false := by simp
      have ih := termsFrom_words r (pre ++ termW acc.isEmpty p) (acc ++ [p]) f (fun q hq => hg q (List.mem_cons_of_mem _ hq)) (by rw [List.append_assoc]; exact nd) (by simp at hl; omega) (by simp)
      rw [ie] at ih
      rw [l, ih, List.append_assoc]
      rfl
    · right
      rw [e]
      have := termW_ne (e := acc.isEmpty) (p := p)
      cases h : termW acc.isEmpty p with
      | nil => exact absurd h this
      | cons a b =>
        simp
theorem termW_pos {e : Bool} {p : Str × Int} : 1 ≤ (termW e p).length := by
  have := termW_ne (e := e) (p := p)
  cases h : termW e p with
  | nil => exact absurd h this
  | cons a b => simp
theorem wordsB_len : ∀ (b : Bool) (m : Tab), m.length ≤ (wordsB b m).length
  | _, [] => Nat.zero_le _
  | b, p :: r => by
    have z := wordsB_len false r
    have t := termW_pos (e := b) (p := p)
    unfold wordsB
    rw [List.length_append, List.length_cons]
    omega
theorem terms_words {m : Tab} (hg : ∀ p ∈ m, GoodP p) (nd : (ks m).Nodup) : termsIn (wordsZ m) 0 = .ok m := by
  cases m with
  | nil => rfl
  | cons p r =>
    have hne : wordsT (p :: r) ≠ [] := fun z => by rw [wordsT_nil] at z; cases z
    unfold wordsZ
    rw [if_pos hne]
    unfold termsIn
    have h0 : (wordsT (p :: r))[0]? ≠ some ("0" : Str) := by
      obtain ⟨w, t, ew, w1, w2, w3⟩ := head_term (hg p (List.mem_cons_self ..))
      show (termW true p ++ wordsB false r)[0]? ≠ _
      unfold termW
      by_cases hneg : p.2 < 0
      · rw [if_pos hneg]
        simp
        decide +kernel
      · rw [if_neg hneg, if_pos rfl, ew]
        simpa using w3
    rw [if_neg h0]
    have z : termsFrom ([] ++ wordsT (p :: r)) _ _ _ = _ := termsFrom_words (p :: r) [] [] ((wordsT (p :: r)).length + 1) hg nd (Nat.lt_succ_of_le (wordsB_len _ _)) (by simp)
    have z2 : termsFrom (wordsT (p :: r)) ((wordsT (p :: r)).length + 1) 0 [] = .ok (p :: r) := by simpa using z
    exact z2
/-! ### the text of words -/
theorem words_free : ∀ (b : Bool) (m : Tab), (∀ p ∈ m, GoodP p) → ∀ w ∈ wordsB b m, (32 : Nat) ∉ w.cps.toList ∧ w.length ≤ 60
  | _, [], _, w, hw => (List.not_mem_nil hw).elim
  | b, p :: r, hg, w, hw => by
    unfold wordsB at hw
    rcases List.mem_append.mp hw with h | h
    · have g := hg p (List.mem_cons_self ..)
      have gn := g.ne
      have g0 : 1 ≤ absI p.2 := by unfold absI; split <;> omega
      have nm : (32 : Nat) ∉ p.1.cps.toList ∧ p.1.length ≤ 60 := by
        have z := g.name
        unfold nameS at z
        obtain ⟨z1, z2⟩ := Bool.and_eq_true_iff.mp z
        obtain ⟨_, z1⟩ := Bool.and_eq_true_iff.mp z1
        have z1 := of_decide_eq_true z1
        refine ⟨fun hm => ?_, by omega⟩
        have := let_iff.mp (of_decide_eq_true (List.all_eq_true.mp z2 _ hm))
        omega
      have nn : (32 : Nat) ∉ (numS (absI p.2)).cps.toList ∧ (numS (absI p.2)).length ≤ 60 := by
        rw [← len_toList, tl_numS (by omega)]
        refine ⟨numL_free (by omega), numL_len (by decide) ?_⟩
        have z : ((10 : Int) ^ 60) = ((10 ^ 60 : Nat) : Int) := by decide
        have := g.wh
        rw [z] at this
        omega
      have sg : ∀ x ∈ (["-", "+"] : List Str), (32 : Nat) ∉ x.cps.toList ∧ x.length ≤ 60 := by decide +kernel
      unfold termW at h
      rcases List.mem_append.mp h with h | h
      · split at h
        · exact sg w (by simp at h; simp [h])
        · split at h
          · cases h
          · exact sg w (by simp at h; simp [h])
      · rcases List.mem_append.mp h with h | h
        · split at h
          · rw [List.mem_singleton.mp h]
            exact nn
          · cases h
        · rw [List.mem_singleton.mp h]
          exact nm
    · exact words_free false r (fun q hq => hg q (List.mem_cons_of_mem _ hq)) w h
theorem split_text {m : Tab} (hg : ∀ p ∈ m, GoodP p) : Txt.split (textT m) " " = wordsZ m := by
  unfold textT wordsZ
  by_cases h : wordsT m ≠ []
  · rw [if_pos h, if_pos h]
    exact split_join (s := 32) (S := []) (by decide +kernel) (by decide +kernel) h fun w hw => (words_free true m hg w hw).1
  · rw [if_neg h, if_neg h]
    have := split_join (y := " ") (s := 32) (S := []) (by decide +kernel) (by decide +kernel) (parts := ["0"]) (by simp) (fun p hp => by rw [List.mem_singleton.mp hp]; decide +kernel)
    have e : Txt.join " " ["0"] = "0" := by decide +kernel
    rw [e] at this
    exact this
theorem words_all (Pw : Str → Prop) (h1 : Pw "-") (h2 : Pw "+") (hn : ∀ x, nameS x = true → Pw x) (hd : ∀ n : Int, 0 ≤ n → n < 10 ^ 60 → Pw (numS n)) : ∀ (b : Bool) (m : Tab), (∀ p ∈ m, GoodP p) → ∀ w ∈ wordsB b m, Pw w
  | _, [], _, w, hw => (List.not_mem_nil hw).elim
  | b, p :: r, hg, w, hw => by
    unfold wordsB at hw
    rcases List.mem_append.mp hw with h | h
    · have g := hg p (List.mem_cons_self ..)
      have gn := g.ne
      have g0 : 1 ≤ absI p.2 := by unfold absI; split <;> omega
      unfold termW at h
      rcases List.mem_append.mp h with h | h
      · split at h
        · rw [List.mem_singleton.mp h]
          exact h1
        · split at h
          · cases h
          · rw [List.mem_singleton.mp h]
            exact h2
      · rcases List.mem_append.mp h with h | h
        · split at h
          · rw [List.mem_singleton.mp h]
            exact hd _ (by omega) g.wh
          · cases h
        · rw [List.mem_singleton.mp h]
          exact hn _ g.name
    · exact words_all Pw h1 h2 hn hd false r (fun q hq => hg q (List.mem_cons_of_mem _ hq)) w h
theorem ok_of {x : Str} (h : ∀ c ∈ x.cps.toList, c < 1114112) : PyData.strOk x = true := by
  unfold PyData.strOk
  rw [← Array.all_toList, List.all_eq_true]
  intro c hc
  exact decide_eq_true (h c hc)
theorem name_ok {x : Str} (z : nameS x = true) : PyData.strOk x = true := by
  unfold nameS at z
  obtain ⟨_, z2⟩ := Bool.and_eq_true_iff.mp z
  refine ok_of fun c hc => ?_
  have := let_iff.mp (of_decide_eq_true (List.all_eq_true.mp z2 _ hc))
  omega
theorem num_ok {n : Int} (h : 0 ≤ n) : PyData.strOk (numS n) = true := by
  refine ok_of fun c hc => ?_
  rw [tl_numS h] at hc
  have := numL_digits _ c hc
  omega
theorem words_ok {b : Bool} {m : Tab} (hg : ∀ p ∈ m, GoodP p) : ∀ w ∈ wordsB b m, PyData.strOk w = true :=
  words_all (fun w => PyData.strOk w = true) (by decide +kernel) (by decide +kernel) (fun _ h => name_ok h) (fun _ h _ => num_ok h) b m hg
theorem wordsB_app : ∀ (b : Bool) (l : Tab) (p : Str × Int), wordsB b (l ++ [p]) = wordsB b l ++ termW (b && l.isEmpty) p
  | b, [], p => by simp [wordsB]
  | b, q :: l, p => by
    show termW b q ++ wordsB false (l ++ [p]) = (termW b q ++ wordsB false l) ++ termW (b && false) p
    rw [wordsB_app false l p]
    simp
theorem wordsT_app (l : Tab) (p : Str × Int) : wordsT (l ++ [p]) = wordsT l ++ termW (wordsT l).isEmpty p := by
  have e : (wordsT l).isEmpty = l.isEmpty := by
    rw [Bool.eq_iff_iff, List.isEmpty_iff, List.isEmpty_iff, wordsT_nil]
  rw [e]
  have z := wordsB_app true l p
  rw [Bool.true_and] at z
  exact z
theorem termW_le {e : Bool} {p : Str × Int} : (termW e p).length ≤ 3 := by
  unfold termW
  rw [List.length_append, List.length_append]
  have e1 : (if p.2 < 0 then [("-" : Str)] else if e then [] else [("+" : Str)]).length ≤ 1 := by split <;> (try split) <;> simp
  have e2 : (if absI p.2 ≠ 1 then [numS (absI p.2)] else []).length ≤ 1 := by generalize absI p.2 = z; split <;> simp
  have e3 : [p.1].length = 1 := rfl
  omega
theorem wordsB_le : ∀ (b : Bool) (m : Tab), (wordsB b m).length ≤ 3 * m.length
  | _, [] => Nat.le_refl _
  | b, p :: r => by
    have z := wordsB_le false r
    have t := termW_le (e := b) (p := p)
    unfold wordsB
    rw [List.length_append, List.length_cons]
    omega
theorem sum_le {B : Nat} : ∀ (l : List Nat), (∀ x ∈ l, x ≤ B) → l.sum ≤ l.length * B
  | [], _ => by simp
  | x :: r, h => by
    have z := sum_le r fun y hy => h y (List.mem_cons_of_mem _ hy)
    have := h x (List.mem_cons_self ..)
    rw [List.sum_cons, List.length_cons, Nat.succ_mul]
    omega
end Xr
set_option maxHeartbeats 4000000
/-! str of an instance of an own class -/
namespace Xr
open PySem PySem.Spec PyProof.Rows L2
section
variable {X : Cx} {CX : CXT} {k : Nat} {f C : Addr} {sp : Sp} {E : XK}
def rStrO (C : Addr) (sp : Sp) (E : XK) : List V → Hp → VK → Prop := fun xs H Q => ∃ a dx fs, xs = [.ref a] ∧ H a = some (.ins C dx fs) ∧ sp [.ref a] H (fun v H' => ∃ x, v = .str x ∧ Q (.str x) H') E
theorem call_strO (h : Sm X.K C "__str__" f) (F : FnR X.prog X.w X.K X.mg X.base CX k f sp) (hr : Room (k + 2) X.A) (hx : Passes CX X E) : CallR X (.type "str") (rStrO C sp E) := by
  intro pins s σ H xs us Q I r q
  obtain ⟨a, dx, fs, rfl, ha, q⟩ := q
  obtain ⟨u, rfl, ru⟩ := vals1 r
  cases ru
  obtain ⟨od, J⟩ := inst_of I ha
  have hr1 : Room (k + 1) X.A.in1 := hr.in1
  have hr2 : Room k X.A.in1.in1 := hr1.in1
  refine PySem.W.kso_call (by have := hr2.units; omega) I.kIn J h.at_ h.fn (wpAny_mono (run_in (us := [.ref a]) (vs := [.ref a]) F hr2 rfl hx I (.cons rfl .nil) q) (fun w s' z => ?_) fun _ _ z => z)
  obtain ⟨v, H', I', rv, x, rfl, q'⟩ := z
  obtain ⟨t, rfl⟩ := rv
  exact ⟨.str x, H', I', ⟨t, rfl⟩, q'⟩
end
end Xr
set_option maxHeartbeats 4000000
/-! calls by keywords: classmethods, a class whose __init__ takes **names -/
namespace Xr
open PySem PySem.Spec PyProof.Rows L2
/-- a def that is called with n values by place and ks by keywords -/
def FnRK (P : Program) (w : World) (K : PySem.W.Frag) (mg : Str → Option Value) (base : Heap) (CX : CXT) (k : Nat) (f : Addr) (n : Nat) (ks : List Str) (sp : Sp) : Prop :=
  ∀ (A : Around) (outer : List Env) (s : Shared) (H : Hp) (us ws : List Value) (vs zs : List V) (Q : VK) (E : XK), Room k A → Env0 P w K mg base A outer s H → Vals vs us → Vals zs ws → vs.length = n → zs.length = ks.length → sp (vs ++ zs) H Q E →
    codeAny (model P w) A (.call (.ref f) ⟨us, ks.zip ws⟩) (CR CX outer P w H s Q E) s
section
variable {P : Program} {w : World} {K : PySem.W.Frag} {mg : Str → Option Value} {base : Heap} {CX : CXT} {k n : Nat} {f : Addr} {fd : FuncData} {ps ks : List Str} {sp : Sp}
theorem fnOk_kw (F : FnOk P w K mg base CX k f fd ps sp) (hb : ∀ (s : Shared) (us ws : List Value), us.length = n → ws.length = ks.length → BindsTo s fd ⟨us, ks.zip ws⟩ (ps.zip (us ++ ws))) : FnRK P w K mg base CX k f n ks sp := by
  intro A outer s H us ws vs zs Q E hr e0 r rz l1 l2 h
  exact F.run A outer s H ⟨us, ks.zip ws⟩ (us ++ ws) (vs ++ zs) Q E hr e0 (hb s us ws (r.length.symm.trans l1) (rz.length.symm.trans l2)) (r.append rz) h
theorem funD_kb {x qual : Str} {params : Arguments} {body : List Stmt} {scope : Scope} {kws : List (Str × V)} (F : FunD K x qual params body scope [] kws f fd)
    (hb : ∀ (kV doc pm : Value) (an : Option Addr) (cdv ct : Value) (us ws : List Value), us.length = n → ws.length = ks.length → bindArgs (PySem.W.fnOf x qual params body scope .none kV doc pm an cdv ct) ⟨us, ks.zip ws⟩ = pure (ps.zip (us ++ ws))) :
    ∀ (s : Shared) (us ws : List Value), us.length = n → ws.length = ks.length → BindsTo s fd ⟨us, ks.zip ws⟩ (ps.zip (us ++ ws)) := by
  obtain ⟨oc, od, dV, kV', doc, pm, an, cdv, ct, osl, rfl, lk, hcd, hDf, _⟩ := F.ex
  obtain rfl : dV = .none := by
    rcases hDf with ⟨_, e⟩ | ⟨e, _⟩
    · exact e
    · exact absurd rfl e
  intro s us ws l1 l2
  exact .of_eq (hb _ _ _ _ _ _ us ws l1 l2)
end
/-- e.m(k = v, ..), e the class at C, m a classmethod -/
def tCMethK (C : Addr) (m : Nat) (sp : Sp) (E : XK) (ta : TE) (tk : TA) : TE := fun σ H Q => ta σ H fun x H1 => x = .ref C ∧ tk σ H1 fun zs H2 => zs.length = m ∧ sp ([.ref C] ++ zs) H2 Q E
section
variable {X : Cx} {CX : CXT} {k : Nat} {f C : Addr} {sp : Sp} {E : XK} {o : Expr} {m x : Str} {pos apos p : Pos} {ta : TE} {tk : TA} {ks : List Str} {kws : List Keyword}
theorem pe_cmK {pl : Sem Bool} (he : PE X o ta) (c : CmF X.K C m) (F : FnRK X.prog X.w X.K X.mg X.base CX k (He5.wf X.K C "classmethod" m) 1 ks sp) (hr : Room k X.A) (hx : Passes CX X E) (hkw : PK X kws tk)
    (hall : (backToKw pos (keywordEach kws X.env)).all (·.1.isSome) = true := by rfl) (hks : (backToKw pos (keywordEach kws X.env)).filterMap (·.1) = ks := by rfl)
    (hpl : ((backTo pos (starEach [] X.env)).any (·.1) || (backToKw pos (keywordEach kws X.env)).any (·.1.isNone)) = false := by rfl)
    (ht : eval (.Call (.Attribute o m apos) [] kws pos) X.env = (do
      let ov ← eval o X.env
      standAt apos.atName
      let (f, first) ← holding [ov] (getMethod ov m pl)
      callWith pos f first (backTo pos (starEach [] X.env)) (backToKw pos (keywordEach kws X.env))) := by rfl) :
    PE X (.Call (.Attribute o m apos) [] kws pos) (tCMethK C ks.length sp E ta tk) := by
  refine ⟨fun pins s σ H Q I h => ?_⟩
  refine PySem.W.methodCall_KW (pl := pl) (thn (he.run pins s σ H _ I h) fun u s1 ⟨x, H1, I1, rx, ex, q⟩ => ?_) ht
  subst ex
  obtain rfl : u = Value.ref C := rx
  refine ClX.getmethcm_ok I1 c.rd c.met fun s2 I2 => ?_
  refine PySem.W.callWith_of hpl (PySem.W.keeps_M c.met.fi) (evalArgs_kw2_nil hall (thn (hkw.run pos _ s2 σ H1 _ I2 q) fun ws s3 ⟨zs, H2, I3, rz, l2, q2⟩ => ⟨⟨ClX.pin_at I3, I3.kIn⟩, ?_⟩))
  rw [hks]
  have z : wpAny (model X.prog X.w) X.A (call (.ref s1.heap.objs.size) [] (ks.zip ws)) (EP X ((s1.heap.objs.size, PySem.W.methodObj (.ref (He5.wf X.K C "classmethod" m)) (.ref C)) :: pins) σ Q) X.xe s3 := by
    refine wpAny_call (PySem.W.method_call (ClX.pin_at I3) (codeAny_mono (F X.A X.stack s3 H2 [.ref C] ws [.ref C] zs Q E hr I3.env0 (.cons rfl .nil) rz rfl l2 q2) fun r s' hq => ?_))
    cases r with
    | error e => exact hx _ σ H2 s3 e s' I3 hq
    | ok fl =>
      cases fl with
      | ret u => exact I3.after hq
      | next => exact False.elim hq
      | brk => exact False.elim hq
      | cont => exact False.elim hq
  exact thn z fun _ _ y => ClX.unpinE y
end
/-! ### def f(a, **d) called by keywords -/
def fillN (d : Addr) (ex : List (Str × Value)) : Sem PUnit := forIn ex PUnit.unit fun x _ => (nsSet d x.1 x.2 >>= fun _ => pure (ForInStep.yield PUnit.unit))
theorem update_last (h : Heap) (o : Obj) (f : Obj → Obj) : (h.push o).update h.objs.size f = h.push (f o) := by
  obtain ⟨objs, l⟩ := h
  show (⟨(objs.push o).modify objs.size f, l⟩ : Heap) = ⟨objs.push (f o), l⟩
  congr 1
  apply Array.ext
  · simp
  · intro i h1 h2
    simp only [Array.getElem_modify]
    by_cases hi : i < objs.size
    · rw [if_neg (by omega), Array.getElem_push_lt hi, Array.getElem_push_lt hi]
    · have : i = objs.size := by simp at h2; omega
      subst this
      simp
theorem fill_run {prog : Program} {w : World} {A : Around} {E : Value → Shared → Prop} {Q : PUnit → Shared → Prop} (h0 : Heap) : ∀ (ex : List (Str × Value)) (s : Shared) (es : List DictEntry) (n : Nat), s.heap = h0.push (PySem.W.dictOf es n) →
    (∀ e ∈ es, ∀ x ∈ ex, e.key.isStr x.1 = false) → (∀ e ∈ es, e.refKey = false) → (ex.map (·.1)).Nodup →
    Q ⟨⟩ { s with heap := h0.push (PySem.W.dictOf (es ++ PySem.W.kwEs w.params s.toks ex) (n + ex.length)), toks := s.toks + ex.length } → wpAny (model prog w) A (fillN h0.objs.size ex) Q E s
  | [], s, es, n, hh, _, _, _, q => by
    unfold fillN
    rw [List.forIn_nil]
    refine wpAny_pure ?_
    have e : es ++ PySem.W.kwEs w.params s.toks [] = es := List.append_nil _
    rw [e] at q
    have e2 : ({ s with heap := h0.push (PySem.W.dictOf es (n + ([] : List (Str × Value)).length)), toks := s.toks + ([] : List (Str × Value)).length } : Shared) = s := by
      obtain ⟨a, b, c, d, e⟩ := s
      dsimp only at hh ⊢
      rw [hh]
      rfl
    rw [e2] at q
    exact q
  | x :: r, s, es, n, hh, hs, hr, nd, q => by
    have nd' := List.nodup_cons.mp (show (x.1 :: r.map (·.1)).Nodup from nd)
    have hsx : ∀ e ∈ es, e.key.isStr x.1 = false := fun e he => hs e he x (List.mem_cons_self ..)
    have e1 : es.any (·.key.isStr x.1) = false := by
      cases z : es.any (·.key.isStr x.1) with
      | false => rfl
      | true => obtain ⟨e, he, z⟩ := List.any_eq_true.mp z; rw [hsx e he] at z; cases z
    have e2 : es.any (·.refKey) = false := by
      cases z : es.any (·.refKey) with
      | false => rfl
      | true => obtain ⟨e, he, z⟩ := List.any_eq_true.mp z; rw [hr e he] at z; cases z
    have e : Obj.putName x.1 (PyData.keyHash w.params x.1) (.str x.1 s.toks) x.2 (PySem.W.dictOf es n) = PySem.W.dictOf (es ++ [⟨PyData.keyHash w.params x.1, .str x.1 s.toks, x.2⟩]) (n + 1) := by
      rw [PySem.W.putName_dict, PySem.W.putL_new hsx]
      show PySem.W.dictOf _ (if es.any (·.key.isStr x.1) then n else n + 1) = _
      rw [e1, if_neg Bool.false_ne_true]
    have D : s.heap.get? h0.objs.size = some (PySem.W.dictOf es n) := by
      rw [hh]
      exact Heap.get?_push_size h0 rfl
    have c : aRefKeyMayBeTheName x.1 es.toArray = false := by
      rw [aRefKeyMayBeTheName_at, ← Array.any_toList, ← Array.any_toList]
      show (!es.any (·.key.isStr x.1) && es.any (·.refKey)) = false
      rw [e2, Bool.and_false]
    have next := fill_run (prog := prog) (w := w) (A := A) (E := E) (Q := Q) h0 r { s with heap := s.heap.update h0.objs.size (Obj.putName x.1 (PyData.keyHash w.params x.1) (.str x.1 s.toks) x.2), toks := s.toks + 1 } (es ++ [⟨PyData.keyHash w.params x.1, .str x.1 s.toks, x.2⟩]) (n + 1)
    unfold fillN at next ⊢
    rw [List.forIn_cons]
    refine wpAny_bind (wpAny_bind ?_)
    unfold nsSet
    refine wpAny_bind (wpAny_bind (wpAny_askSetting (wpAny_pure (wpAny_bind (wpAny_mkText (wpAny_bind (wpAny_loadPart D ?_)))))))
    dsimp only
    rw [c]
    refine wpAny_updatePart D (wpAny_pure (next ?_ ?_ ?_ nd'.2 ?_))
    · show s.heap.update _ _ = _
      rw [hh, update_last]
      exact congrArg h0.push e
    · intro z hz y hy
      rcases List.mem_append.mp hz with h | h
      · exact hs z h y (List.mem_cons_of_mem _ hy)
      · rw [List.mem_singleton.mp h]
        show Value.isStr (.str x.1 s.toks) y.1 = false
        have ne : x.1 ≠ y.1 := fun z => nd'.1 (List.mem_map.mpr ⟨y, hy, z.symm⟩)
        simp [Value.isStr, ne]
    · intro z hz
      rcases List.mem_append.mp hz with h | h
      · exact hr z h
      · rw [List.mem_singleton.mp h]
        rfl
    · have e3 : es ++ [⟨PyData.keyHash w.params x.1, .str x.1 s.toks, x.2⟩] ++ PySem.W.kwEs w.params (s.toks + 1) r = es ++ PySem.W.kwEs w.params s.toks (x :: r) := by
        rw [List.append_assoc]
        rfl
      have e4 : n + 1 + r.length = n + (x :: r).length := by rw [List.length_cons]; omega
      have e5 : s.toks + 1 + r.length = s.toks + (x :: r).length := by rw [List.length_cons]; omega
      dsimp only
      rw [e3, e4, e5]
      exact q
def kwK {α : Type} (ks : List Str) (zs : List α) : List (Key × α) := (ks.zip zs).map fun p => (Sum.inr p.1, p.2)
theorem kw_pairs {P : Program} {w : World} : ∀ (t : Tok) (ex : List (Str × Value)), Pairs (mixKind P w) (PySem.W.kwEs w.params t ex) (ex.map fun p => ((Sum.inr p.1 : Key), p.2))
  | _, [] => .nil
  | t, x :: r => .cons (by show keyIs (.inr x.1) (.str x.1 t) = true; simp [keyIs, Value.isStrOf]) rfl (kw_pairs (t + 1) r)
theorem kw_keys {P : Program} {w : World} : ∀ (t : Tok) (ex : List (Str × Value)), ∀ e ∈ PySem.W.kwEs w.params t ex, ∃ k : Key, keyIs k e.key = true ∧ e.hash = keyH w k
  | _, [], e, h => (List.not_mem_nil h).elim
  | t, x :: r, e, h => by
    rcases List.mem_cons.mp h with rfl | h
    · exact ⟨.inr x.1, by simp [keyIs, Value.isStrOf], rfl⟩
    · exact kw_keys (P := P) (t + 1) r e h
theorem kw_rel : ∀ (ks : List Str) {zs : List V} {ws : List Value}, Vals zs ws → KV (kwK ks zs) (kwK ks ws)
  | [], _, _, _ => .nil
  | k :: ks, _, _, .nil => .nil
  | k :: ks, _, _, .cons h r => .cons ⟨rfl, h⟩ (kw_rel ks r)
theorem zip_fst : ∀ {ks : List Str} {ws : List Value}, ws.length = ks.length → (ks.zip ws).map (·.1) = ks
  | [], _, _ => rfl
  | k :: ks, [], h => by cases h
  | k :: ks, w :: ws, h => by
    show k :: (ks.zip ws).map (·.1) = k :: ks
    rw [zip_fst (Nat.succ.inj h)]
theorem dk_kw {P : Program} {w : World} {H : Hp} {h : Heap} {ks : List Str} {zs : List V} {ws : List Value} {t : Tok} {n : Nat} (hb : sysModules < h.objs.size) (hk : ks.length ≤ 1000) (nd : ks.Nodup) (r : Vals zs ws) (l : zs.length = ks.length) :
    ObjOk P w H (h.push (PySem.W.dictOf (PySem.W.kwEs w.params t (ks.zip ws)) n)) h.objs.size (.dK (kwK ks zs)) := by
  have l2 : ws.length = ks.length := r.length.symm.trans l
  refine ⟨?_, beq_eq_false_iff_ne.mpr (Ne.symm (Nat.ne_of_lt hb)), kwK ks ws, kw_rel ks r, _, _, _, Heap.get?_push_size h rfl, ⟨rfl, rfl, rfl⟩, rfl, ?_, ?_, ?_⟩
  · unfold kwK
    rw [List.length_map, List.length_zip, sizeLine_eq]
    omega
  · intro e he
    exact kw_keys (P := P) t (ks.zip ws) e (by simpa using he)
  · show Pairs _ (PySem.W.kwEs w.params t (ks.zip ws)).toArray.toList _
    exact kw_pairs t (ks.zip ws)
  · unfold kwK
    rw [List.map_map]
    have e : ((fun x : Key × Value => x.1) ∘ fun p : Str × Value => ((Sum.inr p.1 : Key), p.2)) = (Sum.inr ∘ fun p : Str × Value => p.1) := rfl
    rw [e, ← List.map_map, zip_fst l2]
    exact List.Pairwise.map _ (fun a b h z => h (by injection z)) nd
section
variable {CX : CXT} {P : Program} {w : World} {K : PySem.W.Frag} {mg : Str → Option Value} {base : Heap} {k : Nat} {f : Addr} {x qual : Str} {params : Arguments} {body : List Stmt} {scope : Scope} {fd : FuncData} {N : List Str} {sp : Sp} {p1 pd : Str} {kws : List (Str × V)} {ks : List Str}
theorem fn_kwN (F : FunD K x qual params body scope [] kws f fd) (S : FnScope N [p1, pd] scope) (hCX : StX.CXUp CX) (nd : ks.Nodup) (hk : ks.length ≤ 1000)
    (hb : ∀ (kV doc pm : Value) (an : Option Addr) (cdv ct u : Value) (ws : List Value), ws.length = ks.length → bindArgs (PySem.W.fnOf x qual params body scope .none kV doc pm an cdv ct) ⟨[u], ks.zip ws⟩ = ((alloc ({ cls := .type "dict", data := .dict #[] } : Obj) : Sem Addr) >>= fun d => fillN d (ks.zip ws) >>= fun _ => pure [(p1, u), (pd, Value.ref d)]))
    (hbody : ∀ (cdv : Value) (A : Around) (outer : List Env) (s : Shared) (H : Hp) (vs : List V) (Q : VK) (E : XK), Room k (A.deeper (envOfC qual scope s.heap.objs.size f cdv)) → sp vs H Q E →
      ∃ t, PSs (cxOf CX P w K mg base N qual scope f cdv A outer s H E) body t ∧ t { nx := fun _ H' => Q .non H', rt := Q } (start N vs) H) :
    FnRK P w K mg base CX (k + 1) f 1 ks (fun vs H Q E => ∃ v zs, vs = v :: zs ∧ ∀ d, H d = Option.none → sp [v, V.ref d] (upd H d (.dK (kwK ks zs))) Q E) := by
  obtain ⟨oc, od, dV, kV', doc, pm, an, cdv, ct, osl, rfl, lk, hcd, hDf, _⟩ := F.ex
  obtain rfl : dV = .none := by
    rcases hDf with ⟨_, e⟩ | ⟨e, _⟩
    · exact e
    · exact absurd rfl e
  intro A outer s H us ws vs zs Q E hr e0 r rz l1 l2 hsp
  obtain ⟨v, zs', ev, hq⟩ := hsp
  obtain ⟨v0, rfl⟩ : ∃ v0, vs = [v0] := by
    match vs, l1 with
    | [v0], _ => exact ⟨v0, rfl⟩
  obtain ⟨rfl, rfl⟩ : v0 = v ∧ zs = zs' := by
    have : v0 :: zs = v :: zs' := ev
    injection this with a b
    exact ⟨a, b⟩
  obtain ⟨u, rfl, ru⟩ := vals1 r
  have hn : H s.heap.objs.size = Option.none := e0.hok.fresh (Nat.le_refl _)
  have l3 : ws.length = ks.length := rz.length.symm.trans l2
  refine StX.run_bnd lk hcd S hr e0 (G := fun xs H2 => ∃ d, H d = Option.none ∧ xs = [v0, V.ref d] ∧ H2 = upd H d (.dK (kwK ks zs))) (fun A' Ex Q' h => ?_) fun s2 H2 xs ⟨d, hd, ex, eH⟩ hr' => ?_
  · rw [hb _ _ _ _ _ _ u ws l3]
    refine wpAny_bind (wpAny_alloc (wpAny_bind (fill_run s.heap (ks.zip ws) _ [] 0 rfl (fun _ h => (List.not_mem_nil h).elim) (fun _ h => (List.not_mem_nil h).elim) (by rw [zip_fst l3]; exact nd) (wpAny_pure ?_))))
    have e1 := StX.env0_laid (u := .dK (kwK ks zs)) (o := PySem.W.dictOf ([] ++ PySem.W.kwEs w.params s.toks (ks.zip ws)) (0 + (ks.zip ws).length)) e0 (dk_kw (StX.env0_big e0) hk nd rz l2)
    have un1 := StX.un_laid (fs := frs outer) (s := s) (o := PySem.W.dictOf ([] ++ PySem.W.kwEs w.params s.toks (ks.zip ws)) (0 + (ks.zip ws).length)) (u := .dK (kwK ks zs)) hn
    refine h _ _ [v0, V.ref s.heap.objs.size] [u, Value.ref s.heap.objs.size] ?_ un1 rfl (fun e s' => hCX outer s H _ _ E e s' un1 (fun b o q => Heap.get?_push_of_some _ q) rfl) (.cons ru (.cons rfl .nil)) rfl ⟨_, hn, rfl, rfl⟩
    obtain ⟨a1, a2, a3, a4, a5, a6, a7, a8⟩ := e1
    exact ⟨a1, a2, a3, a4, a5, a6, a7, a8⟩
  · subst ex eH
    exact hbody cdv A outer s2 _ _ Q E hr' (hq d hd)
end
/-- C(k = v, ..) by a promise of its __init__ by keywords -/
def tMakeKR (C : Addr) (m : Nat) (sp : Sp) (E : XK) (tk : TA) : TE := fun σ H Q => tk σ H fun zs H2 => zs.length = m ∧ ∀ x dx, H2 x = Option.none → H2 dx = Option.none → dx ≠ x →
  sp ([V.ref x] ++ zs) (upd (upd H2 dx (.own x)) x (.ins C dx [])) (fun v H3 => v = .non ∧ Q (.ref x) H3) E
section
variable {X : Cx} {CX : CXT} {k : Nat} {f C : Addr} {sp : Sp} {E : XK} {x : Str} {pos p : Pos} {tk : TA} {ks : List Str} {kws : List Keyword}
theorem pe_makeKR (M : Mk X.K C f) (F : FnRK X.prog X.w X.K X.mg X.base CX k f 1 ks sp) (hr : Room (k + 1) X.A) (hg : Gl X x) (hm : X.mg x = some (.ref C)) (hx : Passes CX X E) (hkw : PK X kws tk)
    (hall : (backToKw pos (keywordEach kws X.env)).all (·.1.isSome) = true := by rfl) (hks : (backToKw pos (keywordEach kws X.env)).filterMap (·.1) = ks := by rfl) (hdb : (x == ("__debug__" : Str)) = false := by decide)
    (hpl : ((backTo pos (starEach [] X.env)).any (·.1) || (backToKw pos (keywordEach kws X.env)).any (·.1.isNone)) = false := by rfl) :
    PE X (.Call (.Name x p) [] kws pos) (tMakeKR C ks.length sp E tk) := by
  refine ⟨fun pins s σ H Q I h => ?_⟩
  refine wpAny_Call_Name_kw (ld_glob I hg hm ?_ hdb)
  refine PySem.W.callWith_KW0 (h₀ := X.base) I.ok.mod.kin M.kp hall ?_ hpl
  refine thn (hkw.run pos pins s σ H _ I h) fun ws s2 ⟨zs, H2, I2, rz, l2, q2⟩ => ⟨I2.kIn, ?_⟩
  rw [hks]
  have hq := q2 (s2.heap.objs.size + 1) s2.heap.objs.size (I2.hok.fresh (Nat.le_succ _)) (I2.hok.fresh (Nat.le_refl _)) (Nat.ne_of_lt (Nat.lt_succ_self _))
  have I3 := Inv.made (C := C) I2
  refine wpAny_call (make_map (f := f) I2.kIn M.makes M.init (beq_iff_eq.mp M.fn) (codeAny_mono (F _ X.stack _ _ [Value.ref (s2.heap.objs.size + 1)] ws [V.ref (s2.heap.objs.size + 1)] zs _ E (hr.make C [] (ks.zip ws)) (I3.env0.make C [] (ks.zip ws)) (.cons rfl .nil) rz rfl l2 hq) fun r s' hq' => ?_))
  cases r with
  | error e => exact hx pins σ _ _ e s' I3 hq'
  | ok fl =>
    cases fl with
    | ret u =>
      obtain ⟨v, H', I4, rv, ev, q3⟩ := I3.after hq'
      subst ev
      exact ⟨rv, ⟨V.ref (s2.heap.objs.size + 1), H', I4, rfl, q3⟩⟩
    | next => exact False.elim hq'
    | brk => exact False.elim hq'
    | cont => exact False.elim hq'
end
end Xr
set_option maxHeartbeats 4000000
/-! raising an error of the program's own -/
namespace Xr
open PySem PySem.Spec PyProof.Rows L2
section
variable {X : Cx} {pins : List (Addr × Obj)} {σ : L2.St} {H : Hp} {s : Shared}
theorem callErrR {A : Around} {E : Value → Shared → Prop} {Q : XK} {C fI : Addr} {fd : FuncData} {fs : List Str} {us ws : List Value} {vs : List V} {kw : List (Str × Value)} (T : ErrC X.prog X.K C fI fd fs) (I : Inv X pins σ H s) (hr : Room 1 A)
    (hb : ∀ (s' : Shared) (self : Value), X.K.In s'.heap → BindsTo s' fd ⟨self :: us, kw⟩ ((("self" : Str), self) :: fs.zip ws)) (rel : Vals vs ws) (hl : vs.length = fs.length) (hz : us.length ≤ 1000)
    (h : ∀ d, H d = none → Q (.ref C) (some d) (upd H d (.xd (fs.zip vs)))) :
    wpAny (model X.prog X.w) A (call (.ref C) us kw) (MkP X pins σ Q) E s := by
  obtain ⟨B, ini, N, nw, bmB, b, hi, hsu, hsb⟩ := T.ex
  obtain ⟨i, bN, F⟩ := b.f
  have KX := I.kIn
  obtain ⟨nm, NS, qn, bs, bm, hdct, sn, sub, ab, col, dd, c0, c1, c2, c3, c5, hC, hT⟩ := PySem.W.excInit_of KX hi
  obtain ⟨hp, g, dr, tk, os⟩ := s
  have hz2 : us.length ≤ sizeLine := by rw [sizeLine_eq]; omega
  have kk : ∀ b o, hp.get? b = some o → ((hp.push (PySem.W.kdv_tup us)).push (exOb C hp.objs.size none)).get? b = some o := fun b o e => Heap.get?_push_of_some _ (Heap.get?_push_of_some _ e)
  have hget : ((hp.push (PySem.W.kdv_tup us)).push (exOb C hp.objs.size none)).get? (hp.objs.size + 1) = some (exOb C hp.objs.size none) := by heap_get
  have nbase : X.base.get? (hp.objs.size + 1) = none := by
    cases z : X.base.get? (hp.objs.size + 1) with
    | none => rfl
    | some o => exact absurd (Heap.lt_size (I.bk _ _ z)) (by show ¬ hp.objs.size + 1 < hp.objs.size; omega)
  refine wpAny_call (callOwn F (by rw [hT]; exact b.hN) (by rw [hT]; exact b.noA) (by rw [hT]; exact b.noE) hC (PySem.W.looks_findIn KX T.iC) (fun self => PySem.W.bind_fn KX self T.tI) hz2 ?_)
  refine initRun (base := X.base) T I.mod (fun b o z => kk b o (I.bk b o z)) nbase hget (hr.make C us kw).depth (by rw [← rel.length, hl]) (hb _ _ (I.mod.kin.keeps fun b o z => kk b o (I.bk b o z))) fun h' tk' dx t1 mA k1 g1 g2 g3 g4 g5 => ?_
  have z1 : hp.objs.size ≤ hp.objs.size + 1 := Nat.le_succ _
  have z2 : hp.objs.size ≤ dx := Nat.le_trans (by rw [Heap.size_push, Heap.size_push]; omega) g1
  have J := layErr (tk := tk') (fs := fs.zip vs) I (fun b o z => k1 b o (kLt z z1) (kk b o z)) z1 z2 g2 g3 g4 fun f => by rw [g5 f]; exact relZip fs rel f
  have nE : H (hp.objs.size + 1) = none := I.hok.fresh z1
  have nD : H dx = none := I.hok.fresh z2
  have lt2 : ∀ {b : Addr} {o : Obj}, ((hp.push (PySem.W.kdv_tup us)).push (exOb C hp.objs.size none)).get? b = some o → b ≠ dx := fun {b o} z e => by
    rw [e] at z
    exact absurd (Heap.lt_size z) (Nat.not_lt.mpr g1)
  have un : Un (frs X.stack) [] (upd H (hp.objs.size + 1) (exo (hp.objs.size + 1) C none)) (upd (upd H dx (exd dx (fs.zip vs))) (hp.objs.size + 1) (exo (hp.objs.size + 1) C (some dx))) ((hp.push (PySem.W.kdv_tup us)).push (exOb C hp.objs.size none)) h' := {
    keep := fun b o z n hf hx => by
      by_cases hb : b = hp.objs.size + 1
      · rw [hb, upd_same] at n
        cases n
      · exact k1 b o hb z
    slot := fun b o z n hf hx => by
      by_cases hb : b = hp.objs.size + 1
      · rw [hb, upd_same] at n
        cases n
      · exact ⟨o.slots, k1 b o hb z⟩
    free := fun b o z n hx => by
      by_cases hb : b = hp.objs.size + 1
      · rw [hb, upd_same] at n
        cases n
      · rw [upd_ne hb, upd_ne (lt2 z)]
        rw [upd_ne hb] at n
        exact n
    there := fun b o z hx => by
      by_cases hb : b = hp.objs.size + 1
      · rw [hb]
        exact ⟨_, g3⟩
      · exact ⟨o, k1 b o hb z⟩
    tups := fun b xs z => by
      by_cases hb : b = hp.objs.size + 1
      · rw [hb, upd_same] at z
        exact absurd (Option.some.inj z) exo_tup
      · rw [upd_ne hb] at z
        rw [upd_ne hb, upd_ne (ne_of_none z nD)]
        exact z
    frzs := fun b o v z => by
      by_cases hb : b = hp.objs.size + 1
      · rw [hb, upd_same] at z
        exact absurd (Option.some.inj z) exo_frz
      · rw [upd_ne hb] at z
        rw [upd_ne hb, upd_ne (ne_of_none z nD)]
        exact z
    tbls := fun b ps z => by
      by_cases hb : b = hp.objs.size + 1
      · rw [hb, upd_same] at z
        exact absurd (Option.some.inj z) exo_tbl
      · rw [upd_ne hb] at z
        rw [upd_ne hb, upd_ne (ne_of_none z nD)]
        exact ⟨#[], by simpa using z⟩ }
  have eH : upd (del (upd (upd H dx (exd dx (fs.zip vs))) (hp.objs.size + 1) (exo (hp.objs.size + 1) C (some dx))) (hp.objs.size + 1)) dx (.xd (fs.zip vs)) = upd H dx (.xd (fs.zip vs)) := by
    funext b
    by_cases hb : b = dx
    · subst hb
      rw [upd_same, upd_same]
    · rw [upd_ne hb, upd_ne hb]
      by_cases hb2 : b = hp.objs.size + 1
      · subst hb2
        rw [del_same, nE]
      · rw [del_ne hb2, upd_ne hb2, upd_ne hb]
  refine ⟨rfl, mk_end (raises_own T.exc T.typ) I z1 kk un J.hok rfl I.bare upd_same ((upd_ne g2).trans upd_same) nD ?_⟩
  rw [eH]
  exact h dx nD
end
/-- raise C(..) -/
def tMkE (C : Addr) (fs : List Str) (t : TA) : L2.St → Hp → XK → Prop := fun σ H Q => t σ H fun vs H1 => vs.length = fs.length ∧ ∀ d, H1 d = none → Q (.ref C) (some d) (upd H1 d (.xd (fs.zip vs)))
section
variable {X : Cx} {C fI : Addr} {fd : FuncData} {fs : List Str} {x : Str} {p pos : Pos} {e : Expr} {es : List Expr} {t : TA}
theorem pmk_err (T : ErrC X.prog X.K C fI fd fs) (b : ErrB fd fs) (h3 : fs.length ≤ 3) (hr : Room 1 X.A) (hg : Gl X x) (hm : X.mg x = some (.ref C)) (ha : PA X (e :: es) t)
    (hdb : (x == ("__debug__" : Str)) = false := by decide) (he : starEach (e :: es) X.env = (false, eval e X.env) :: starEach es X.env := by rfl) (hpl : (backTo pos (starEach es X.env)).any (·.1) = false := by rfl) :
    PMk X (.Call (.Name x p) (e :: es) [] pos) (tMkE C fs t) := by
  intro pins s σ H Q I h
  refine wpAny_Call_Name_kw (ld_glob I hg hm ?_ hdb)
  refine PySem.W.callWith_K (h₀ := X.base) I.ok.mod.kin T.keep (thn (ha.run pos pins s σ H _ I h) fun us s1 ⟨vs, H1, I1, r1, hl, q1⟩ => ⟨I1.kIn, ?_⟩) he hpl
  have hlu : us.length = fs.length := by rw [← r1.length, hl]
  exact callErrR T I1 hr (fun s' self _ => b.p s' self us hlu) r1 hl (by show us.length ≤ 1000; omega) q1
end
end Xr
set_option maxHeartbeats 4000000
/-! an error that was caught and is kept -/
namespace Xr
open PySem PySem.Spec PyProof.Rows L2
/-- an exception that has been caught: its class, its dict -/
def exr (e : Addr) (cls : Value) (d : Option Addr) : HO := .ext fun h => ∃ (oe : Obj) (vs : Array Value), h.get? e = some oe ∧ oe.cls = cls ∧ oe.dict = d ∧ oe.data = .fields vs
theorem exr_ok {P : Program} {w : World} {H : Hp} {h : Heap} {e : Addr} {cls : Value} {d : Option Addr} {oe : Obj} {vs : Array Value} (h1 : h.get? e = some oe) (h2 : oe.cls = cls) (h3 : oe.dict = d) (h4 : oe.data = .fields vs) : ObjOk P w H h e (exr e cls d) :=
  ⟨⟨oe, vs, h1, h2, h3, h4⟩, ⟨oe, h1⟩, fun _ _ ⟨oe, vs, a, b, c, d⟩ st => ⟨oe, vs, st _ a, b, c, d⟩⟩
theorem exr_at {P : Program} {w : World} {H : Hp} {h : Heap} {e : Addr} {cls : Value} {d : Option Addr} (hok : HOk P w H h) (he : H e = some (exr e cls d)) : ∃ (oe : Obj) (vs : Array Value), h.get? e = some oe ∧ oe.cls = cls ∧ oe.dict = d ∧ oe.data = .fields vs := (hok e _ he).1
section
variable {X : Cx} {pins : List (Addr × Obj)} {σ : L2.St} {H : Hp} {s : Shared}
/-- an object that stands there is known from now on -/
theorem adopt {a : Addr} {u : HO} (I : Inv X pins σ H s) (hn : H a = none) (h0 : X.s_0.heap.get? a = none) (hL : a ≠ X.env.locals) (hc : ∀ x c, X.env.cells.lookup x = some c → c ≠ a) (hp : ∀ p ∈ X.pn ++ pins, p.1 ≠ a) (hu : ObjOk X.prog X.w (upd H a u) s.heap a u) : Inv X pins σ (upd H a u) s := by
  have nb : ∀ {b : Addr} {o : HO}, H b = some o → b ≠ a := fun h => ne_of_none h hn
  refine ⟨I.ok, I.os, I.bare, ⟨I.base.keep, I.base.slot, fun b o e n hx => ?_, I.base.there, fun b xs e => ?_, fun b o v e => ?_, fun b ps e => ?_⟩, I.loc, I.cell, ?_, fun x c e => ?_, fun p h => ?_, fun b o e => ?_, I.len⟩
  · have hb : b ≠ a := fun z => by rw [z, h0] at e; cases e
    rw [upd_ne hb]
    exact I.base.free b o e n hx
  · have z := I.base.tups b xs e
    rw [upd_ne (nb z)]
    exact z
  · have z := I.base.frzs b o v e
    rw [upd_ne (nb z)]
    exact z
  · obtain ⟨more, z⟩ := I.base.tbls b ps e
    exact ⟨more, by rw [upd_ne (nb z)]; exact z⟩
  · rw [upd_ne hL.symm]
    exact I.free
  · rw [upd_ne (hc x c e)]
    exact I.freeC x c e
  · obtain ⟨p1, p2, p3⟩ := I.pin p h
    exact ⟨p1, by rw [upd_ne (hp p h)]; exact p2, p3⟩
  · by_cases hb : b = a
    · subst hb
      rw [upd_same] at e
      cases e
      exact hu
    · rw [upd_ne hb] at e
      exact (I.hok b o e).stay (fun _ _ _ q => q) (fun c q => by rw [upd_ne (nb q)]; exact q) fun c xs q => by rw [upd_ne (nb q)]; exact q
end
/-- except (c1, c2) as n: suite: behind it the exception is known -/
def wAsK (K : PySem.W.Frag) (c1 c2 : Value) (i : Nat) (ts : Addr → Value → Option Addr → TS) (Wout : WX) (D : Ends) : WX := fun cls d σ H =>
  ∃ b, PySem.W.exmAny K cls [c1, c2] = some b ∧ (b = true → ∀ a, H a = none → ts a cls d { nx := fun σ' H' => H' a = none → D.nx (σ'.set i none) (upd H' a (exr a cls d)), rt := D.rt, bk := fun σ' H' => D.bk (σ'.set i none) H', ct := fun σ' H' => D.ct (σ'.set i none) H' } (σ.set i (some (.ref a))) H) ∧
    (b = false → Wout cls d σ H)
section
variable {X : Cx} {x1 x2 n : Str} {c1 c2 : Value} {i : Nat} {body suite : List Stmt} {b₀ : Stmt} {np1 np2 tpos pos pos' : Pos} {tb : WX → TS} {ts : Addr → Value → Option Addr → TS} {Wout : WX} {kk : Nat}
theorem flying_push {B h : Heap} {l : List Env} {e : Addr} {Z : Obj → Prop} (o : Obj) (x : HandSPX.FlyingZ B l e Z h) : HandSPX.FlyingZ B l e Z (h.push o) := by
  obtain ⟨a1, a2, a3, oe, vs, T, oT, ts', he, hz, hd, h1, hr⟩ := x
  refine ⟨fun b u q => Heap.get?_push_of_some _ (a1 b u q), a2, Heap.FunFrames.of_keeps (fun b u q _ => ⟨u, Heap.get?_push_of_some _ q, rfl⟩) a3, oe, vs, T, oT, ts', Heap.get?_push_of_some _ he, hz, hd, h1, ?_⟩
  exact ⟨hr.1, hr.2.1, Heap.get?_push_of_some _ hr.2.2.1, hr.2.2.2⟩
theorem ps_try_keep (hst : X.stack = X.env :: X.outer) (hfm : X.env.frame = some X.env.locals) (hex : X.ex = []) (hN : X.N.Nodup) (hi : X.N[i]? = some n) (hln : X.env.kindOf n = some .local) (hc1 : Names X x1 c1) (hc2 : Names X x2 c2) (tk : Takes X Wout)
    (hbd : ∀ (W : WX) (pn : List (Addr × Obj)) (xe : Value → Shared → Prop), Takes (X.tr pn xe) W → PassesOwn (model X.prog X.w) X.A X.env xe → PSs (X.tr pn xe) body (tb W))
    (hsu : ∀ (a : Addr) (oe : Obj) (cls : Value) (d : Option Addr) (pn : List (Addr × Obj)), Zc cls d oe → (∃ vs, oe.data = .fields vs) → PSs (X.suite a ((a, oe) :: pn)) (b₀ :: suite) (ts a cls d)) :
    PS X (.Try body [.ExceptHandler (some (.Tuple [.Name x1 np1, .Name x2 np2] kk tpos)) (some n) (b₀ :: suite) pos'] [] [] pos) (fun D σ H => tb (wAsK X.K c1 c2 i ts Wout D) D σ H) := by
  refine ⟨fun pins s σ H D I0 rd => ?_⟩
  have okX := I0.ok
  have frm : X.A.frames = some (X.env :: X.outer) := okX.frames.trans (congrArg some hst)
  refine wpAny_Try_except (wpAny_mono ((hbd (wAsK X.K c1 c2 i ts Wout D) (X.pn ++ pins) (fun e sa => wpAny (model X.prog X.w) X.A (noteFrame e X.env) (fun _ sb => wpAny (model X.prog X.w) X.A (setFlight e none) (fun _ sc =>
    wpAny (model X.prog X.w) X.A (handleBy e X.env [.ExceptHandler (some (.Tuple [.Name x1 np1, .Name x2 np2] kk tpos)) (some n) (b₀ :: suite) pos']) (SP X pins D) X.xe sc) X.xe sb) X.xe sa) (fun u s' xx => ?_) PassesOwn.looking).run [] s σ H D (I0.toTry _) rd) (fun f s1 hsp => ?_) fun _ _ he => he)
  · obtain ⟨a, B, sI, pins', σ', H', cls, d, rfl, J', nb, up, sky, na, os, ag, b, hb1, hyes, hno⟩ := xx
    have J : Inv X pins σ' H' sI := J'.ofTry okX
    show wpAny (model X.prog X.w) X.A (noteFrame (.ref a) X.env) _ _ _
    refine Sky.land Zc.steady frm hfm (hst ▸ sky) fun g3 fy3 u3 => ?_
    obtain ⟨e3, v3, at3, zc3, dt3⟩ := fy3.there
    have nfr : a ∉ frs (X.env :: X.outer) := fun hm => by
      obtain ⟨_, o', q, hnf⟩ := fy3.2.2.1.mem hm
      rw [at3] at q
      cases q
      exact hnf _ dt3
    have nL : a ≠ X.env.locals := fun z => nfr (List.mem_filterMap.mpr ⟨X.env, List.mem_cons_self, hfm.trans (congrArg some z.symm)⟩)
    have nF : a ∉ X.fs := fun hm => by
      obtain ⟨e, he, q⟩ := List.mem_filterMap.mp hm
      exact nfr (List.mem_filterMap.mpr ⟨e, List.mem_cons_of_mem _ he, q⟩)
    have nA : sI.heap.get? a = none := by
      cases q : sI.heap.get? a with
      | none => rfl
      | some o =>
        have z := nb a o q (hst ▸ nfr)
        rw [fy3.2.1] at z
        cases z
    have n0 : X.s_0.heap.get? a = none := by
      cases q : X.s_0.heap.get? a with
      | none => rfl
      | some o =>
        obtain ⟨o', z⟩ := J.base.there a o q (by rw [hex]; simp)
        rw [nA] at z
        cases z
    have J3 : Inv X pins σ' H' { s' with heap := g3 } := J.landed nb fy3.1 (up.trans u3) os ag
    have S3 := J3.suite at3 dt3 na nL nF
    refine wpAny_handleBy_cons (codeAny_handlers_test ?_) (by intro q; cases q)
    have nameOf : ∀ {x : Str} {c : Value} {np : Pos} {Q : Value → Shared → Prop} {E : Value → Shared → Prop}, Names X x c → Q c { s' with heap := g3 } → wpAny (model X.prog X.w) (X.A.mark (some (.ref a))) (eval (.Name x np) X.env) Q E { s' with heap := g3 } := fun {x c np Q E} hc q => by
      obtain ⟨hg, hdbg, hm | ⟨hm, hv, hnn⟩⟩ := hc
      · exact ld_glob (X := X.suite a ((a, e3) :: (X.pn ++ pins))) S3 hg hm q hdbg
      · exact ld_blt (X := X.suite a ((a, e3) :: (X.pn ++ pins))) S3 hg hm hv q hnn hdbg
    refine wpAny_Tuple_spliced ?_
    show wpAny _ _ (spliced ((false, eval (.Name x1 np1) X.env) :: (false, eval (.Name x2 np2) X.env) :: backTo tpos (starEach [] X.env))) _ _ _
    refine Calls.spliced_cons (nameOf hc1 (Calls.spliced_cons (nameOf hc2 (Calls.spliced_nil ⟨by show 2 ≤ sizeLine; decide, ?_⟩))))
    have fy5 := flying_push { cls := .type "tuple", data := .seq [c1, c2].toArray } fy3
    have u5 : g3.UpToSlots (g3.push { cls := .type "tuple", data := .seq [c1, c2].toArray }) := .of_keeps fun b o q => Heap.get?_push_of_some _ q
    have tp5 : (g3.push { cls := .type "tuple", data := .seq [c1, c2].toArray }).get? g3.objs.size = some { cls := .type "tuple", data := .seq [c1, c2].toArray } := Heap.get?_push_size g3 rfl
    have at5 : (g3.push { cls := .type "tuple", data := .seq [c1, c2].toArray }).get? a = some e3 := Heap.get?_push_of_some _ at3
    have J5 : Inv X pins σ' H' { s' with heap := g3.push { cls := .type "tuple", data := .seq [c1, c2].toArray } } := J.landed nb fy5.1 ((up.trans u3).trans u5) os ag
    have LT : PySem.W.Looks (model X.prog X.w) (g3.push { cls := .type "tuple", data := .seq [c1, c2].toArray }) (typeOf (.ref a)) cls := fun A Q E s k q => wpAny_typeOf_ref (k _ _ at5) (by rw [zc3.1]; exact q)
    refine (PySem.W.exm_tup2 (M := model X.prog X.w) J5.kIn LT tp5 hb1).here ?_
    cases b with
    | true =>
      refine codeAny_handlers_suite_as (HandSPX.lands_againZ fy5 fun g4 fy4 u4 => ?_)
      have J4 : Inv X pins σ' H' { s' with heap := g4 } := J.landed nb fy4.1 (((up.trans u3).trans u5).trans u4) os ag
      obtain ⟨e4, v4, at4, zc4, dt4⟩ := fy4.there
      refine store_ok (X := X.suite a ((a, e4) :: (X.pn ++ pins))) (v := .ref a) (J4.suite at4 dt4 na nL nF) hN hi (.inl hln) rfl (fun s5 S5 => ?_) (.inr hln)
      refine wpAny_mono ((hsu a e4 cls d (X.pn ++ pins) zc4 ⟨_, dt4⟩).run [] s5 _ H' _ S5 (hyes rfl a na)) (fun f s6 hsp => ?_) fun _ _ z => False.elim z
      have leave : ∀ {σ6 : L2.St} {H6 : Hp} {Q : Shared → Prop}, Inv (X.suite a ((a, e4) :: (X.pn ++ pins))) [] σ6 H6 s6 → (∀ s7, Inv X pins (σ6.set i none) H6 s7 → Q s7) → wpAny (model X.prog X.w) X.A (do bindName X.env n .none; unbindBehindTheSuite X.env n pos') (fun _ s7 => Q s7) X.xe s6 :=
        fun S6 hq => gone_ok (S6.unsuite okX) hN hi hln hq
      cases f with
      | next =>
        obtain ⟨σ6, H6, S6, q6⟩ := hsp
        have S6' : Inv X ((a, e4) :: pins) σ6 H6 s6 := ⟨okX, S6.os, S6.bare, S6.base, S6.loc, S6.cell, S6.free, S6.freeC, fun p hp => S6.pin p (by
          show p ∈ ((a, e4) :: (X.pn ++ pins)) ++ []
          rw [List.append_nil]
          rcases List.mem_append.mp hp with z | z
          · exact List.mem_cons_of_mem _ (List.mem_append_left _ z)
          · rcases List.mem_cons.mp z with z | z
            · rw [z]
              exact List.mem_cons_self
            · exact List.mem_cons_of_mem _ (List.mem_append_right _ z)), S6.hok, S6.len⟩
        refine gone_ok S6' hN hi hln fun s7 J7 => ?_
        obtain ⟨p1, p2, _⟩ := J7.pin (a, e4) (List.mem_append_right _ List.mem_cons_self)
        have J8 : Inv X pins (σ6.set i none) H6 s7 := J7.pins_of fun p hp => J7.pin p (List.mem_append_right _ (List.mem_cons_of_mem _ hp))
        refine ⟨_, _, adopt J8 p2 n0 nL (fun x c hc z => ?_) (fun p hp z => ?_) (exr_ok p1 zc4.1 zc4.2 dt4), q6 p2⟩
        · obtain ⟨v, o, ho, hd⟩ := J7.cell x c hc
          rw [z, p1] at ho
          cases ho
          rw [dt4] at hd
          cases hd
        · have q := (J.pin p hp).1
          rw [z, nA] at q
          cases q
      | brk =>
        obtain ⟨σ6, H6, S6, q6⟩ := hsp
        exact leave S6 fun s7 J7 => ⟨_, _, J7, q6⟩
      | cont =>
        obtain ⟨σ6, H6, S6, q6⟩ := hsp
        exact leave S6 fun s7 J7 => ⟨_, _, J7, q6⟩
      | ret u =>
        obtain ⟨v6, σ6, H6, S6, r6, q6⟩ := hsp
        exact leave S6 fun s7 J7 => ⟨_, _, _, J7, r6, q6⟩
    | false =>
      refine (show wpAny _ X.A (handleBy (.ref a) X.env []) _ _ _ from wpAny_handleBy_nil ?_)
      obtain ⟨k1, k2, k3, oe, vs, T, oT, ts', he, hz, hd, h1, hr⟩ := id fy5
      unfold PySem.passOn
      refine wpAny_bind (wpAny_field he hd h1 ?_)
      rw [if_neg (show ¬ ((Value.ref T == Value.none) = true) from by simp)]
      have out : wpAny (model X.prog X.w) X.A (setFlight (.ref a) X.env.frame) (fun _ s4 => wpAny (model X.prog X.w) X.A (throw (.ref a) : Sem Flow) (SP X pins D) X.xe s4) X.xe { s' with heap := g3.push { cls := .type "tuple", data := .seq [c1, c2].toArray } } := by
        rw [hfm]
        refine HandSPX.setFlight_upZ fy5 fun g4 hh4 u4 => wpAny_throw (tk _ _ ⟨a, B, sI, pins, σ', H', cls, d, rfl, J, nb, ((up.trans u3).trans u5).trans u4, .inr (.inr (by rw [hst]; exact hh4)), na, os, ag, hno rfl⟩)
      first
        | exact wpAny_bind (wpAny_pure (wpAny_bind out))
        | exact wpAny_bind out
  · cases f with
    | next =>
      obtain ⟨σ', H', K', q⟩ := hsp
      exact wpAny_execs_nil ⟨σ', H', K'.ofTry okX, q⟩
    | brk =>
      obtain ⟨σ', H', K', q⟩ := hsp
      exact ⟨σ', H', K'.ofTry okX, q⟩
    | cont =>
      obtain ⟨σ', H', K', q⟩ := hsp
      exact ⟨σ', H', K'.ofTry okX, q⟩
    | ret u =>
      obtain ⟨v, σ', H', K', r, q⟩ := hsp
      exact ⟨v, σ', H', K'.ofTry okX, r, q⟩
end
end Xr
set_option maxHeartbeats 4000000
/-! what a caught error tells -/
namespace Xr
open PySem PySem.Spec PyProof.Rows L2
theorem xd_at {P : Program} {w : World} {H : Hp} {h : Heap} {d : Addr} {fs : List (Str × V)} (hok : HOk P w H h) (he : H d = some (.xd fs)) : ∃ mA, h.Ns1 d mA ∧ ∀ f, RelO (fs.lookup f) (mA f) := hok d _ he
section
variable {X : Cx} {pins : List (Addr × Obj)} {σ : L2.St} {H : Hp} {s : Shared} {pos : Pos} {e : Expr}
/-- a caught error is an instance -/
theorem exr_inst {a C d : Addr} {fs : List (Str × V)} (hok : HOk X.prog X.w H s.heap) (ha : H a = some (exr a (.ref C) (some d))) (hd : H d = some (.xd fs)) :
    ∃ (ox od : Obj) (mA : Str → Option Value), PySem.W.InstAt s.heap a ox C (some od) ∧ (∀ n, PySem.W.lookIn n od = some (mA n)) ∧ ∀ f, RelO (fs.lookup f) (mA f) := by
  obtain ⟨oe, vs, h1, h2, h3, h4⟩ := exr_at hok ha
  obtain ⟨mA, hns, hr⟩ := xd_at hok hd
  obtain ⟨od, ho2, hl⟩ := lookIn_ns hns
  refine ⟨oe, od, mA, ⟨h1, h2, ?_, ?_⟩, hl, hr⟩
  · obtain ⟨c, dd, dt, sl⟩ := oe
    cases h4
    rfl
  · rw [h3]
    exact ho2
/-- e.f of a caught error -/
def tXr (K : PySem.W.Frag) (f : Str) (te : TE) : TE := fun σ H Q => te σ H fun x H1 => ∃ (a C d : Addr) (fs : List (Str × V)) (v : V), x = .ref a ∧ H1 a = some (exr a (.ref C) (some d)) ∧ H1 d = some (.xd fs) ∧ XfC K C ∧ PySem.W.findIn K (.ref C) f = some none ∧ fs.lookup f = some v ∧ Q v H1
theorem pe_xr {te : TE} {n : Str} (he : PE X e te) (hb : attributeBase e n X.env (eval e X.env) = eval e X.env := by rfl) : PE X (.Attribute e n pos) (tXr X.K n te) := by
  refine ⟨fun pins s σ H Q I h => ?_⟩
  refine attr_of hb (thn (he.run pins s σ H _ I h) fun u s1 hh => ?_)
  obtain ⟨x, H1, I1, rx, a, C, d, fs, v, rfl, ha, hd, T, hno, l, q⟩ := hh
  obtain rfl : u = Value.ref a := rx
  obtain ⟨ox, od, mA, J, hl, hr⟩ := exr_inst I1.hok ha hd
  obtain ⟨u, hu, ru⟩ := RelO.some_of (v := v) (o := mA n) (by rw [← l]; exact hr n)
  exact HandSPX.exc_get I1.kIn J T.ga T.gg T.exC (PySem.W.findObj_own T.hdC hno rfl (by rw [hl, hu])) (handed_of ru) ⟨v, H1, I1.tok _, ru, q⟩
/-- isinstance(e, C) of a caught error -/
def rIsR (K : PySem.W.Frag) : List V → Hp → VK → Prop := fun xs H Q => ∃ (a C : Addr) (d : Addr) (fs : List (Str × V)) (c : V) (cv : Value) (b : Bool), xs = [.ref a, c] ∧ H a = some (exr a (.ref C) (some d)) ∧ H d = some (.xd fs) ∧ XiC K C ∧ ClsV c cv ∧ PySem.W.kitOne K (.ref C) cv = some b ∧ Q (.bl b) H
theorem call_isR : CallR X (.builtin "isinstance") (rIsR X.K) := by
  intro pins s σ H xs us Q I r h
  obtain ⟨a, C, d, fs, c, cv, b, rfl, ha, hd, T, k, e, q⟩ := h
  obtain ⟨u1, u2, rfl, r1, r2⟩ := vals2 r
  have e2 := k.eq r2
  subst e2
  cases r1
  obtain ⟨ox, od, mA, J, hl, hr⟩ := exr_inst I.hok ha hd
  exact PySem.W.kia_one (PySem.W.kitx_exc T.cl T.ga T.gg T.exC T.ca T.sg T.tk T.ob) I.kIn J e (fun z => nomatch z) fun tk => ⟨.bl b, H, I.tok tk, rfl, q⟩
end
end Xr
set_option maxHeartbeats 4000000
/-! defs that make lambdas; the end of a law with tables of code objects, the guards known -/
namespace Xr
open PySem PySem.Spec PyProof.Rows L2 LamX
section
variable {P : Program} {w : World} {K : PySem.W.Frag} {mg : Str → Option Value} {base : Heap} {CX : CXT} {k : Nat} {f : Addr} {x qual : Str} {params : Arguments} {body : List Stmt} {scope : Scope} {dvs : List V} {kws : List (Str × V)} {fd : FuncData} {N ps : List Str} {sp : Sp} {p : He.Defn}
/-- as okG, the def's code object known -/
theorem okGC (F : FunD K x qual params body scope dvs kws (He.fAd K p) fd) (S : FnScope N ps scope) (len : ∀ vs H Q E, sp vs H Q E → vs.length = ps.length)
    (hbody : ∀ (A : Around) (outer : List Env) (s : Shared) (H : Hp) (vs : List V) (Q : VK) (E : XK), Room k (A.deeper (envOfC qual scope s.heap.objs.size (He.fAd K p) (.ref (He.codeOf K p)))) → A.guards = some [] → sp vs H Q E →
      ∃ t, PSs (cxOf CX P w K mg base N qual scope (He.fAd K p) (.ref (He.codeOf K p)) A outer s H E) body t ∧ t { nx := fun _ H' => Q .non H', rt := Q } (start N vs) H) :
    FnG P w K mg base CX (k + 1) (He.fAd K p) fd ps sp := by
  obtain ⟨oc, od, dV, kV, doc, pm, an, cdv, ct, osl, rfl, lk, hcd, _, _⟩ := F.ex
  obtain ⟨c, rfl⟩ := He.codeIn_ref hcd
  obtain rfl : He.codeOf K p = c := He.codeOf_eq lk rfl
  refine ⟨len, fun A outer s H args us vs Q E hr hgd e0 hb r hsp => ?_⟩
  have keep0 : ∀ b o, base.get? b = some o → s.heap.get? b = some o := fun b o z => (e0.bs b o z).1
  have KX : K.In s.heap := e0.mod.kin.keeps keep0
  have hk : ∀ y ∈ ps.zip us, scope.names.lookup y.1 = some .local ∨
      (scope.names.lookup y.1 = some .cell ∧ ((cellsFrom (s.heap.objs.size + 1) scope.names []).lookup y.1).isSome = true) := by
    rintro ⟨n, v⟩ hy
    rcases S.par n (List.of_mem_zip hy).1 with z | z
    · exact Or.inl z
    · exact Or.inr ⟨z, PySem.W.cellsFrom_some _ _ _ (Or.inl z)⟩
  refine codeAny_call_function hr.depth (KX _ _ lk) rfl S.co S.gen rfl (PySem.W.codeRec_of KX hcd) (hb _ _ _ _ ?_)
  refine wpAny_newFunctionEnv_cells S.kind hk fun env he s1 z => ?_
  subst he
  refine ⟨(e0.mod.nolimit.keeps keep0).keeps z.toInCall.keep, codeAny_func ?_⟩
  obtain ⟨t, ht, hq⟩ := hbody A outer s H vs Q E (hr.deeper _) hgd hsp
  have J := inv_start (CX := CX) (E := E) S hr.hd e0 (len _ _ _ _ hsp) r z
  refine wpAny_mono (ht.run [] s1 (start N vs) H _ J hq) (fun fl s' hs => ?_) fun e s' hs => hs
  rcases fl with _ | _ | _ | u
  · obtain ⟨σ', H', J', q⟩ := hs
    exact ⟨V.non, H', J'.os, J'.bare, J'.base, J'.hok, rfl, q⟩
  · obtain ⟨_, _, _, q⟩ := hs
    exact q.elim
  · obtain ⟨_, _, _, q⟩ := hs
    exact q.elim
  · obtain ⟨v, σ', H', J', rv, q⟩ := hs
    exact ⟨v, H', J'.os, J'.bare, J'.base, J'.hok, rv, q⟩
end
/-- the script, locked, and empty tables -/
def scrT (S : Option (Addr × HO)) (tb : List Addr) : Hp := fun b => if (S.map (·.1)) = some b then S.map (·.2) else if b ∈ tb then some (.tbl #[]) else none
theorem lawCallGT {P : Program} {w : World} {K : PySem.W.Frag} {mg mb : Str → Option Value} {CX : CXT} {k : Nat} {fa a : Addr} {cs : List (Addr × Addr)} {fd : FuncData} {x : Str} {sp : Sp} {s1 : Shared} {vs : List Value} {ns : List Int}
    (KX : K.In s1.heap) (hns : s1.heap.Ns mainGlobals mg) (hb : s1.heap.Ns builtinsNs mb) (hbb : ∀ x : Str, x ≠ "__name__" → mb x = bootBuiltins x) (hlim : s1.heap.NoLimit) (hg : s1.gens = #[])
    (tE : ∀ p ∈ cs, s1.heap.get? p.2 = some { cls := .none, data := .fields #[] }) (tO : ∀ p ∈ cs, K.lookup p.2 = none) (tC : ∀ p ∈ cs, PySem.W.CodeHd s1.heap p.1 p.2)
    (hbm : ∃ (bm : Addr) (ob : Obj), mg "__builtins__" = some (.ref bm) ∧ bm ≠ builtinsNs ∧ s1.heap.get? bm = some ob ∧ ob.cls = .type "module" ∧ ob.dict = some builtinsNs ∧ ob.data = .plain)
    (ha : s1.heap.get? a = some { cls := .type "list", data := .seq vs.toArray }) (hi : IntsAre vs ns) (hl : ns.length ≤ sizeLine) (hr : Room k callerA)
    (F : ∀ base : Heap, K.In base → base.Ns mainGlobals mg → (∀ p ∈ cs, TabB base mg p.1 p.2) → FnG P w K mg base CX k fa fd [x] sp) (hbind : ∀ (s : Shared) (u : Value), BindsTo s fd ⟨[u], []⟩ [(x, u)])
    (hsp : ∀ H : Hp, (∀ p ∈ cs, H p.2 = some (.tbl #[])) → SqL K H a (ns.map V.int) → sp [.ref a] H (fun v _ => v = .bl true) fun _ _ _ => False)
    (hCX : ∀ H e s', CX [] H s1 (fun _ _ _ => False) e s' → False) :
    codeAny (model P w) callerA (.call (.ref fa) ⟨[.ref a], []⟩) (fun r s' => r = .ok (.ret (.bool true)) ∧ OldK s1.heap s'.heap ∧ s'.os = s1.os ∧ AllBare s'.gens) s1 := by
  have rv := vals_ints hi
  have mT : ∀ {b : Addr}, b ∈ cs.map (·.2) → ∃ p ∈ cs, p.2 = b := fun h => List.mem_map.mp h
  have tA : ∀ {b : Addr}, b ∈ cs.map (·.2) → s1.heap.get? b = some { cls := .none, data := .fields #[] } := fun h => by
    obtain ⟨p, hp, rfl⟩ := mT h
    exact tE p hp
  have aN : a ∉ cs.map (·.2) := fun h => by
    have z := tA h
    rw [ha] at z
    injection z with z
    injection z with _ _ z
    cases z
  have go : ∀ H : Hp, (∀ p ∈ cs, H p.2 = some (.tbl #[])) → (∀ b u, H b = some u → b ∈ cs.map (·.2) ∨ (b = a ∧ ∃ o xs, u = .frz o (.lst xs))) → SqL K H a (ns.map V.int) → HOk P w H s1.heap → (H a ≠ none → K.lookup a = none) →
      codeAny (model P w) callerA (.call (.ref fa) ⟨[.ref a], []⟩) (fun r s' => r = .ok (.ret (.bool true)) ∧ OldK s1.heap s'.heap ∧ s'.os = s1.os ∧ AllBare s'.gens) s1 := by
    intro H hH hO hS hok hK
    have free : ∀ {b : Addr} {o : Obj}, s1.heap.get? b = some o → (∀ us n, o.data ≠ .seq us n) → o.data ≠ .fields #[] → H b = none := by
      intro b o z d1 d2
      cases q : H b with
      | none => rfl
      | some u =>
        exfalso
        rcases hO b u q with h | ⟨rfl, _⟩
        · rw [tA h] at z
          cases z
          exact d2 rfl
        · rw [ha] at z
          cases z
          exact d1 _ _ rfl
    have nsB : ∀ {b : Addr} {m : Str → Option Value}, s1.heap.Ns b m → (hidT s1.heap H).Ns b m := by
      rintro b m ⟨o, es, ep, z, d, r⟩
      exact ⟨o, es, ep, hidT_get z (free z (fun _ _ y => by rw [d] at y; cases y) fun y => by rw [d] at y; cases y), d, r⟩
    have KB : K.In (hidT s1.heap H) := fun b o z => hidT_get (KX b o z) (by
      cases q : H b with
      | none => rfl
      | some u =>
        exfalso
        rcases hO b u q with h | ⟨rfl, _⟩
        · obtain ⟨p, hp, rfl⟩ := mT h
          rw [tO p hp] at z
          cases z
        · rw [hK (by rw [q]; exact Option.some_ne_none _)] at z
          cases z)
    obtain ⟨mc, l1, l2⟩ := hlim
    have M : Mod K mg (hidT s1.heap H) := ⟨KB, nsB hns, ⟨mb, nsB hb, hbb⟩, ⟨mc, nsB l1, l2⟩⟩
    have TB : ∀ p ∈ cs, TabB (hidT s1.heap H) mg p.1 p.2 := by
      intro p hp
      have e := tE p hp
      obtain ⟨o, us, file, tf, flags, tg, inF, text, tt, y1, r1, r2, r3, r4, r5, r6, r7, r8, hne⟩ := tC p hp
      obtain ⟨bm, ob, b1, b2, b3, b4, b5, b6⟩ := hbm
      obtain ⟨og, es, ep, g1, g2, _⟩ := id hns
      refine ⟨⟨o, us, file, tf, flags, tg, inF, text, tt, hidT_get y1 (free y1 (fun _ _ y => by rw [r2] at y; cases y) fun y => ?_), r1, r2, r3, r4, r5, r6, r7, r8, hne⟩, ⟨bm, ob, b1, b2, fun y => ?_, fun y => ?_, hidT_get b3 (free b3 (fun _ _ y => by rw [b6] at y; cases y) fun y => by rw [b6] at y; cases y), b4, b5, b6⟩, fun y => ?_⟩
      · rw [r2] at y
        cases y
        simp at r3
      · rw [y, g1] at b3
        cases b3
        rw [g2] at b6
        cases b6
      · rw [y, e] at b3
        cases b3
        cases b6
      · rw [y, e] at g1
        cases g1
        cases g2
    have e0 : Env0 P w K mg (hidT s1.heap H) callerA [] s1 H :=
      ⟨rfl, M, fun b o z => of_hidT z, Nat.le_of_eq (hidT_size _ _), trivial, fun b hb => absurd (show b ∈ ([] : List Addr) from hb) (by simp), hok, .of_eq hg⟩
    have run := (F _ KB (nsB hns) TB).run callerA [] s1 H ⟨[.ref a], []⟩ [.ref a] [.ref a] _ _ hr rfl e0 (hbind s1 (.ref a)) (.cons rfl .nil) (hsp H hH hS)
    refine codeAny_mono run fun r s' h => ?_
    rcases r with er | (_ | _ | _ | u)
    · exact (hCX H er s' h).elim
    · exact h.elim
    · exact h.elim
    · exact h.elim
    · obtain ⟨v, H', os, bare, un, hok', r', q⟩ := h
      cases (show v = .bl true from q)
      cases (show u = Value.bool true from r')
      have stays : ∀ b o, b ∉ cs.map (·.2) → s1.heap.get? b = some o → s'.heap.get? b = some o := by
        intro b o hb z
        cases y : H b with
        | none => exact un.keep b o z y (fun y => absurd (show b ∈ ([] : List Addr) from y) (by simp)) (by simp)
        | some u =>
          rcases hO b u y with h | ⟨rfl, ob, xs, rfl⟩
          · exact absurd h hb
          · have e1 := (hok b _ y).1
            rw [z] at e1
            cases e1
            exact (hok' b _ (un.frzs b _ _ y)).1
      have grows : ∀ p ∈ cs, ∃ more : Array Value, s'.heap.get? p.2 = some { cls := .none, data := .fields more } := fun p hp => by
        obtain ⟨more, z⟩ := un.tbls p.2 #[] (hH p hp)
        exact ⟨_, hok' p.2 _ z⟩
      refine ⟨rfl, ⟨fun b o z => ?_, fun b o z => ?_⟩, os, bare⟩
      · by_cases hb : b ∈ cs.map (·.2)
        · obtain ⟨p, hp, rfl⟩ := mT hb
          obtain ⟨more, hm⟩ := grows p hp
          rw [tE p hp] at z
          cases z
          exact .inr (.inl ⟨((tC p hp).tab (tE p hp)).isCodeTable, rfl, #[], more, rfl, by rw [Array.empty_append]; exact hm⟩)
        · exact .inl (stays b o hb z)
      · by_cases hb : b ∈ cs.map (·.2)
        · obtain ⟨p, hp, rfl⟩ := mT hb
          obtain ⟨more, hm⟩ := grows p hp
          exact ⟨_, hm⟩
        · exact ⟨o, stays b o hb z⟩
  cases hk : K.lookup a with
  | some o =>
    have z := KX a o hk
    rw [ha] at z
    cases z
    have at1 : ∀ b, scrT none (cs.map (·.2)) b = if b ∈ cs.map (·.2) then some (.tbl #[]) else none := fun b => rfl
    refine go (scrT none (cs.map (·.2))) (fun p hp => ?_) (fun b u z => ?_) (Or.inr ⟨_, vs.toArray, _, hk, rfl, rfl, rfl, by rw [List.size_toArray, hi.length]; exact hl, by simpa using rv⟩) (fun b u z => ?_) fun z => ?_
    · rw [at1]
      exact if_pos (List.mem_map.mpr ⟨p, hp, rfl⟩)
    · rw [at1] at z
      by_cases hb : b ∈ cs.map (·.2)
      · exact .inl hb
      · rw [if_neg hb] at z
        cases z
    · rw [at1] at z
      by_cases hb : b ∈ cs.map (·.2)
      · rw [if_pos hb] at z
        cases z
        exact tA hb
      · rw [if_neg hb] at z
        cases z
    · rw [at1, if_neg aN] at z
      exact absurd rfl z
  | none =>
    have hit : scrT (some (a, .frz { cls := .type "list", data := .seq vs.toArray } (.lst (ns.map V.int)))) (cs.map (·.2)) a = some (.frz { cls := .type "list", data := .seq vs.toArray } (.lst (ns.map V.int))) := if_pos rfl
    have miss : ∀ {b : Addr}, b ≠ a → scrT (some (a, .frz { cls := .type "list", data := .seq vs.toArray } (.lst (ns.map V.int)))) (cs.map (·.2)) b = if b ∈ cs.map (·.2) then some (.tbl #[]) else none := fun z => if_neg fun y => z (Option.some.inj y).symm
    refine go (scrT (some (a, .frz { cls := .type "list", data := .seq vs.toArray } (.lst (ns.map V.int)))) (cs.map (·.2))) (fun p hp => ?_) (fun b u z => ?_) (Or.inl (Or.inr ⟨_, hit⟩)) (fun b u z => ?_) fun _ => hk
    · have h : p.2 ∈ cs.map (·.2) := List.mem_map.mpr ⟨p, hp, rfl⟩
      rw [miss fun y => aN (y ▸ h)]
      exact if_pos h
    · by_cases hba : b = a
      · cases hba
        rw [hit] at z
        cases z
        exact .inr ⟨rfl, _, _, rfl⟩
      · rw [miss hba] at z
        by_cases hb : b ∈ cs.map (·.2)
        · exact .inl hb
        · rw [if_neg hb] at z
          cases z
    · by_cases hba : b = a
      · cases hba
        rw [hit] at z
        cases z
        exact ⟨ha, by rw [List.length_map]; exact hl, vs, _, rv, ha⟩
      · rw [miss hba] at z
        by_cases hb : b ∈ cs.map (·.2)
        · rw [if_pos hb] at z
          cases z
          exact tA hb
        · rw [if_neg hb] at z
          cases z
theorem walkGT {l : PySem.W.OpenLaw} {n k : Nat} {q : Program} {loose : List Str} {XP : (Str → Option Value) → Heap → Prop} {YP : World → Heap → Prop} {d : DefRec} {CX : CXT} {x : Str}
    (hn : l.most = some n) (hn2 : n ≤ sizeLine) (hdf : d.params.defaults = []) (hr : Room k callerA)
    (F : ∀ (w : World) (mg : Str → Option Value) (fa : Addr) (h : Heap), YP w h → h.Ns mainGlobals mg → mg d.name = some (.ref fa) →
      ∃ (K : PySem.W.Frag) (fd : FuncData) (cs : List (Addr × Addr)) (sp : Sp), K.In h ∧ (∀ p ∈ cs, h.get? p.2 = some { cls := .none, data := .fields #[] }) ∧ (∀ p ∈ cs, K.lookup p.2 = none) ∧ (∀ p ∈ cs, PySem.W.CodeHd h p.1 p.2) ∧ (∀ (s : Shared) (u : Value), BindsTo s fd ⟨[u], []⟩ [(x, u)]) ∧
        (∀ (H : Hp) (a : Addr) (ns : List Int), ns.length ≤ n → (∀ p ∈ cs, H p.2 = some (.tbl #[])) → SqL K H a (ns.map V.int) → sp [.ref a] H (fun v _ => v = .bl true) fun _ _ _ => False) ∧
        ∀ base : Heap, K.In base → base.Ns mainGlobals mg → (∀ p ∈ cs, TabB base mg p.1 p.2) → FnG l.prog w K mg base CX k fa fd [x] sp)
    (hCX : ∀ (H : Hp) (s : Shared) (e : Value) (s' : Shared), CX [] H s (fun _ _ _ => False) e s' → False) :
    PySem.W.WalkO q loose XP YP l.row.toRowW d [] (fun f vs => PySem.call f vs) := by
  refine Att.attach_call hn hdf fun w s0 s1 mg mb fa o pm cd doc a vs ns G Y ho hd hcd hmg hobj hints hlen hg => ?_
  obtain ⟨K, fd, cs, sp, KX, t1, t2, t3, hb, hsp, hF⟩ := F w mg fa _ Y G.T.g hmg
  exact lawCallGT KX G.T.g G.T.b G.T.builtins G.T.nolimit hg t1 t2 t3 G.T.bmain hobj hints (Nat.le_trans hlen hn2) hr hF hb (fun H hT hS => hsp H a ns hlen hT hS) fun H e s' => hCX H s1 e s'
end Xr
set_option maxHeartbeats 4000000
/-! a text times a number; a list the other way round -/
namespace Xr
open PySem PySem.Spec PyProof.Rows L2
def repS (a : Str) (k : Int) : Str := ⟨(List.replicate k.toNat a.cps).foldl (· ++ ·) #[]⟩
section
variable {X : Cx}
theorem op_repS : OpR X (binaryOp .Mult) (fun x y H Q => ∃ a k, x = .str a ∧ y = .int k ∧ 2 ≤ k ∧ k ≤ 1000 ∧ 1 ≤ a.length ∧ a.length ≤ 1000 ∧ (repS a k).length ≤ sizeLine ∧ Q (.str (repS a k)) H) := by
  intro pins s σ H x y v u Q I rx ry h
  obtain ⟨a, k, rfl, rfl, k1, k2, a1, a2, hs, q⟩ := h
  obtain ⟨t, rfl⟩ := rx
  obtain ⟨t', rfl⟩ := ry
  have e3 : (k == 1 || a.length == 0) = false := by
    have z1 : (k == 1) = false := beq_eq_false_iff_ne.mpr (by omega)
    have z2 : (a.length == 0) = false := beq_eq_false_iff_ne.mpr (by omega)
    rw [z1, z2]
    rfl
  have tl : Builtin.Str.tooLong (a.length * k.toNat) = false := by
    have z : a.length * k.toNat ≤ 1000 * 1000 := Nat.mul_le_mul a2 (by omega)
    unfold Builtin.Str.tooLong
    rw [sizeLine_eq]
    exact decide_eq_false (by omega)
  refine P.mul_str (by rw [decide_eq_false (by omega), decide_eq_false (by omega)]; rfl) (fun _ _ => ?_) (fun _ _ => tl) ?_
  · have : (1000 : Int) ≤ (2 ^ 63 - 1) / k := Int.le_ediv_of_mul_le (by omega) (by omega)
    omega
  · rw [if_neg (by omega), e3, if_neg (by simp)]
    exact ⟨hs, ⟨.str (repS a k), H, I.tok _, ⟨_, rfl⟩, q⟩⟩
theorem fm_some {α β : Type} {f : α → Option β} {g : α → β} : ∀ {l : List α}, (∀ k ∈ l, f k = some (g k)) → l.filterMap f = l.map g
  | [], _ => rfl
  | k :: l, h => by
    rw [List.filterMap_cons, h k (List.mem_cons_self ..), fm_some fun j hj => h j (List.mem_cons_of_mem _ hj)]
    rfl
theorem pick_rev (its : List Value) : slicePick its.toArray none none (some (-1)) = its.reverse.toArray := by
  have hb : sliceBounds none none (some (-1)) its.length = ((its.length : Int) - 1, -1, -1) := by
    unfold sliceBounds
    simp
  unfold slicePick
  rw [List.size_toArray, hb]
  dsimp only
  congr 1
  have hr : sliceRange ((its.length : Int) - 1) (-1) (-1) = (List.range its.length).map fun k => its.length - 1 - k := by
    unfold sliceRange
    rw [if_neg (by omega)]
    by_cases h : its.length = 0
    · rw [h]
      rfl
    · rw [if_pos (by omega)]
      have e : (((its.length : Int) - 1 - -1 - -1 - 1) / (- -1)).toNat = its.length := by
        have : ((its.length : Int) - 1 - -1 - -1 - 1) / (- -1) = (its.length : Int) := by
          rw [show (- -1 : Int) = 1 from rfl, Int.ediv_one]
          omega
        rw [this]
        omega
      show List.map (fun (k : Nat) => ((its.length : Int) - 1 + -1 * (k : Int)).toNat) (List.range (((its.length : Int) - 1 - -1 - -1 - 1) / (- -1)).toNat) = _
      rw [e]
      refine List.map_congr_left fun k hk => ?_
      have := List.mem_range.mp hk
      omega
  rw [hr]
  refine List.ext_getElem? fun i => ?_
  rw [List.filterMap_map]
  have e2 : (List.range its.length).filterMap ((fun x => its.toArray[x]?) ∘ fun k => its.length - 1 - k) = (List.range its.length).map fun k => its.reverse.getD k .none := by
    refine fm_some fun k hk => ?_
    have := List.mem_range.mp hk
    show its.toArray[its.length - 1 - k]? = some (its.reverse.getD k .none)
    rw [List.getElem?_toArray, List.getD_eq_getElem?_getD, List.getElem?_reverse this, List.getElem?_eq_getElem (by omega)]
    rfl
  rw [e2, List.getElem?_map]
  by_cases hi : i < its.length
  · rw [List.getElem?_range hi]
    show some (its.reverse.getD i .none) = _
    rw [List.getD_eq_getElem?_getD, List.getElem?_reverse hi, List.getElem?_eq_getElem (by omega)]
    rfl
  · rw [List.getElem?_eq_none (by simp; omega), List.getElem?_eq_none (by simp; omega)]
    rfl
/-- e[::-1] of a list -/
theorem pe_revL {e st : Expr} {te : TE} {p2 pos : Pos} (he : PE X e te) (hst : PE X st (fun _ H Q => Q (.int (-1)) H)) : PE X (.Subscript e (.Slice none none (some st) p2) pos) (fun σ H Q => te σ H fun x H1 => ∃ a xs, x = .ref a ∧ SqL X.K H1 a xs ∧ ∀ p, H1 p = none → Q (.ref p) (upd H1 p (.lst xs.reverse))) := by
  refine ⟨fun pins s σ H Q I h => ?_⟩
  refine Subscript_ (thn (he.run pins s σ H _ I h) fun v s1 ⟨x, H1, I1, r1, a, xs, ex, hx, q⟩ => ?_)
  subst ex
  obtain rfl : v = Value.ref a := r1
  refine wpAny_Slice ?_
  rw [evalPart_none, evalPart_some]
  refine wpAny_pure (wpAny_pure (thn (hst.run pins s1 σ H1 (fun v H2 => v = .int (-1) ∧ H2 = H1) I1 ⟨rfl, rfl⟩) fun u s3 ⟨y, H3, I3, r3, ey, eH⟩ => ?_))
  subst ey eH
  obtain ⟨t, rfl⟩ := r3
  have I4 : Inv X pins σ H3 { s3 with heap := s3.heap.push { cls := .type "slice", data := .fields #[.none, .none, .int (-1) t] } } := I3.kept (t' := s3.toks) fun b ob q => Heap.get?_push_of_some _ q
  obtain ⟨its, r, ht, hz⟩ := I4.list hx
  have hlen := r.length
  show wpAny (model X.prog X.w) X.A (subscriptTail e (.Slice none none (some st) p2) (.ref a) (.ref s3.heap.objs.size)) (EP X pins σ Q) X.xe _
  refine tail_any (ops := [.ref a, .ref s3.heap.objs.size]) (T := "list") (id := "list.__getitem__") ht.isList.typeIs slot_list_getitem.lookup ?_ (by with_unfolding_all rfl)
  refine wpAny_getItem_list_slice ht.isList (Heap.IsSliceOf.new ..) .none .none (.int (-1) t) (by simp) ?_ (by rw [List.size_toArray] <;> omega)
  rw [pick_rev]
  refine ⟨.ref _, _, I4.laid (t' := s3.toks) (o := .lst xs.reverse) (fun b ob q => Heap.get?_push_of_some _ q) (Nat.le_refl _) ?_, rfl, q _ (I4.hok.fresh (Nat.le_refl _))⟩
  exact ⟨by rw [List.length_reverse]; exact hz, _, 0, vals_rev r, Heap.get?_push_size _ rfl⟩
theorem pe_m1 {j : Nat} {p1 p2 : Pos} : PE X (.UnaryOp .USub (.Constant (.int 1) j p1) p2) (fun _ H Q => Q (.int (-1)) H) := ⟨fun pins s σ H Q I h => (pe_un un_neg pe_int).run pins s σ H Q I ⟨1, rfl, h⟩⟩
/-- d != e, dicts of flat values -/
def rNeDF : R2 := fun x y H Q => ∃ a b ks ls, x = .ref a ∧ y = .ref b ∧ H a = some (.dK ks) ∧ H b = some (.dK ls) ∧ (∀ p ∈ ks, flatV p.2 = true) ∧ (∀ p ∈ ls, flatV p.2 = true) ∧ Q (.bl (!(ks.length == ls.length && subK ks ls))) H
theorem op_neDF (hu : X.A.units < cLine) : OpR X (compareOp .NotEq) rNeDF := by
  intro pins s σ H x y v u Q I rx ry h
  obtain ⟨a, b, ks, ls, rfl, rfl, ea, eb, fa, fb, q⟩ := h
  obtain rfl : v = Value.ref a := rx
  obtain rfl : u = Value.ref b := ry
  obtain ⟨_, ya, va, ra, da⟩ := (show ObjOk X.prog X.w H s.heap a (.dK ks) from I.hok a _ ea)
  obtain ⟨_, yb, vb, rb, db⟩ := (show ObjOk X.prog X.w H s.heap b (.dK ls) from I.hok b _ eb)
  exact PySem.W.keq_ne (knd := mixKind X.prog X.w) ya yb da db hu (fun _ => hits_sub rb fb ra fa) (fin_bl I q (by rw [← ra.length, ← rb.length]))
end
end Xr
set_option maxHeartbeats 4000000
/-! x(lambda: ..) with x known as a def; ExtN and Same -/
namespace Xr
open PySem PySem.Spec PyProof.Rows L2 LamX
theorem pe_lamF {X : Cx} {T : List (Addr × Str)} {TT : (XK → Hp → VK → Prop) → Hp → VK → Prop} {x a : Str} {g c Pt : Addr} {k : Nat} {pg : Arguments} {bg : List Stmt} {sg : Scope} {kws : List (Str × V)} {fd : FuncData} {Ng : List Str}
    {params : Arguments} {body : Expr} {scope : Scope} {t : XK → TE} {p lpos pos : Pos} (F : FunD X.K x x pg bg sg [] kws g fd) (hb : L2.Binds X.K fd [a] []) (hg : Gl X x) (hm : X.mg x = some (.ref g)) (Sg : FnScope Ng [a] sg) (hNg : Ng[0]? = some a) (hva : Vis sg a)
    (hG : ∀ cdv, GivesTo X Ng x sg g cdv bg a (X.env.qual ++ "<lambda>") TT)
    (TB : TabB X.base X.mg c Pt) (hcode : X.env.code = .ref c) (hmT : (Pt, X.env.qual ++ "<lambda>") ∈ T) (hu : ∀ p ∈ T, p.1 = Pt → p.2 = X.env.qual ++ "<lambda>") (hr : Room (k + 2) X.A) (L : LamS X.env.scope scope)
    (hbody : ∀ (A : Around) (outer : List Env) (s : Shared) (H : Hp) (E : XK) (f c' : Addr), Room k (A.deeper (lamEnv X scope s.heap.objs.size f c')) → PE (lamCx X A outer s H E scope f c') body (t E))
    (hdef : defaultsOf params X.env = ([], []) := by rfl)
    (hbind : ∀ (q : Str) (cl : List (Str × Addr)) (pm cv ctv : Value), bindArgs (PySem.W.kla_fn "<lambda>" q params body scope cl pm cv ctv) ⟨[], []⟩ = pure [] := by intros; rfl)
    (hdb : (x == ("__debug__" : Str)) = false := by decide) (hd : (a == ("__debug__" : Str)) = false := by decide) (hcd : (a == ("__classdict__" : Str)) = false := by decide) :
    PE X (.Call (.Name x p) [.Lambda params body scope lpos] [] pos) (tLam T TT t) := by
  obtain ⟨oc, od, dV, kV, doc, pm, an, cdv, ct, osl, rfl, lk, hcg, _, _⟩ := F.ex
  exact pe_lamcall hg hm F.kp lk hcg hb Sg hNg hva (hG cdv) TB hcode hmT hu hr L hdef hbind hbody hdb hd hcd
theorem ExtN.same {H H1 H2 : Hp} (a : ExtN H H1) (s : Same H1 H2) : ExtN H H2 := fun b o h n => s b o (a b o h n)
theorem Same.extN {H H1 H2 : Hp} (s : Same H H1) (a : ExtN H1 H2) : ExtN H H2 := fun b o h n => a b o (s b o h) n
theorem Same.toN {H H1 : Hp} (s : Same H H1) : ExtN H H1 := fun b o h _ => s b o h
/-- a wish for slots of the right length alone -/
theorem takes_len {X : Cx} {W : WX} {n : Nat} (hn : X.N.length = n) (tk : Takes X W) : Takes X (fun cls d σ H => σ.length = n → W cls d σ H) := fun u s' ⟨a, B, sI, pins, σ, H, cls, d, e, I, nb, up, sky, na, os, ag, w⟩ =>
  tk u s' ⟨a, B, sI, pins, σ, H, cls, d, e, I, nb, up, sky, na, os, ag, w (I.len.trans hn)⟩
theorem tabs_put {T : List (Addr × Str)} {H : Hp} {l : Addr} {xs : List V} {o : HO} (t : Tabs T H) (h : H l = some (.lst xs)) : Tabs T (upd H l o) := fun p hp => by
  obtain ⟨ps, h1, h2, h3⟩ := t p hp
  have n1 : p.1 ≠ l := fun z => by rw [z, h] at h1; cases h1
  refine ⟨ps, (upd_ne n1).trans h1, h2, fun pos cv hc => ?_⟩
  obtain ⟨c, e1, e2⟩ := h3 pos cv hc
  have n2 : c ≠ l := fun z => by
    rw [z, h] at e2
    have e3 := Option.some.inj e2
    unfold CodeO at e3
    cases e3
  exact ⟨c, e1, (upd_ne n2).trans e2⟩
theorem extN_put {H H1 H2 : Hp} {l : Addr} {o : HO} (a : ExtN H H1) (n : H1 l = none) (b : ExtN H H2) : ExtN H (upd H2 l o) := fun c u h nt => by
  have z := a c u h nt
  rw [upd_ne (ne_of_none z n)]
  exact b c u h nt
end Xr
set_option maxHeartbeats 4000000
/-! f-strings of instances of own classes -/
namespace Xr
open PySem PySem.Spec PyProof.Rows L2
section
open PySem.W
variable {prog : Program} {w : World} {A : Around} {E : Value → Shared → Prop} {s : Shared} {K : PySem.W.Frag} {x C f : Addr} {ox : Obj} {od : Option Obj}
theorem check_met {i o n : String} {me : Value} {r : List Value} {q : Unit → Shared → Prop} (hk : builtinKind i = some .method) (hs : splitId i = some (o, n)) (hi : Looks (model prog w) s.heap (isInstance me (.type o)) true) (ha : argsOk i ⟨me :: r, []⟩) (hq : q () s) :
    wpAny (model prog w) A (checkBuiltinCall i ⟨me :: r, []⟩) q E s := by
  simp only [checkBuiltinCall, hk, hs]
  refine wpAny_bind (hi.here ?_)
  rw [Bool.not_true, if_neg Bool.false_ne_true]
  cases hg : Manifest.signature? i with
  | none => exact wpAny_pure hq
  | some g =>
    have h2 : Bind.checkArgs i g ⟨me :: r, []⟩ = pure () := by simpa only [argsOk, hg] using ha
    have h3 : wpAny (model prog w) A (Bind.checkArgs i g ⟨me :: r, []⟩) q E s := by rw [h2]; exact wpAny_pure hq
    exact h3
theorem fmt_K {Q : Value → Shared → Prop} (hu : A.units + 1 < cLine) (X : K.In s.heap) (I : InstAt s.heap x ox C od) (ho : mroIn K C (.type "object") = some true) (hs : findIn K (.ref C) "__format__" = some (some (.builtin "object.__format__")))
    (he : findIn K (.ref C) "__str__" = some (some (.ref f))) (hf : isFn K (.ref f) = true)
    (h : wpAny (model prog w) A.in1 (call (.ref f) [.ref x]) (fun r s' => ∃ y t, r = .str y t ∧ Q r s') E { s with toks := s.toks + 1 }) : wpAny (model prog w) A (formatField (.ref x) Str.empty) Q E s := by
  have sub : Looks (model prog w) s.heap (isInstance (.ref x) (.type "object")) true := I.type.andThen (looks_mroIn X ho)
  have e : formatField (.ref x) Str.empty = holding [.ref x] (pyFormat (.ref x) Str.empty) := rfl
  rw [e]
  refine wpAny_holding ?_
  unfold pyFormat
  refine wpAny_bind (wpAny_mkStr ?_)
  have X' : K.In ({ s with toks := s.toks + 1 } : Shared).heap := X
  have I' : InstAt ({ s with toks := s.toks + 1 } : Shared).heap x ox C od := I
  have sub' : Looks (model prog w) ({ s with toks := s.toks + 1 } : Shared).heap (isInstance (.ref x) (.type "object")) true := sub
  have ob : ∀ self : Value, bindSpecial (.builtin "object.__format__") self = pure (.builtin "object.__format__", [self]) := fun self => by kernel_rfl
  refine wpAny_bind (m := callSpecial? (.ref x) (Str.ofString "__format__") [.str Str.empty s.toks]) ?_
  refine wpAny_bind (wpAny_bind (I'.type.here ((looks_findIn X' hs).here (wpAny_holding ?_))))
  rw [ob]
  refine wpAny_bind (wpAny_pure (wpAny_bind ?_))
  have kd : builtinKind "object.__format__" = some .method := by decide +kernel
  have sp : splitId "object.__format__" = some ("object", "__format__") := by decide +kernel
  show wpAny (model prog w) A (call (.builtin "object.__format__") [.ref x, .str Str.empty s.toks]) _ _ _
  refine wpAny_call ?_
  refine codeAny_call_builtin (by decide +kernel) PySem.F.entry_object_format ?_
  have ha := PySem.F.args_object_format_2 (.ref x) (.str Str.empty s.toks)
  have go := fun q => @check_met prog w A.in1 (fun e s' => E e s') { s with toks := s.toks + 1 } "object.__format__" "object" "__format__" (.ref x) [.str Str.empty s.toks] q kd sp sub' ha
  refine go _ ?_
  show wpAny _ _ (do let _shown ← typeNameOf (.str Str.empty s.toks); (do ret (← pyStrObj (.ref x)))) _ _ _
  refine wpAny_bind (wpAny_typeNameOf (T := "str") (typeIs_str _ _ _) (by decide) fun _ => ?_)
  refine wpAny_bind (m := pyStrObj (.ref x)) ?_
  unfold pyStrObj
  refine wpAny_bind (m := cRoomFor _ _) (wpAny_cRoomFor hu ?_)
  refine wpAny_bind (m := callSpecial? (.ref x) (Str.ofString "__str__")) (special_fn X' I' he (beq_iff_eq.mp hf) (wpAny_mono h (fun r s' hr => ?_) fun _ _ y => y))
  obtain ⟨y, t, rfl, hq⟩ := hr
  refine wpAny_bind (wpAny_isInstance (T := "str") (b := true) rfl isSubtype_str_str (wpAny_pure (wpAny_pure ?_)))
  exact wpAny_pure (wpAny_bind (wpAny_isInstance (T := "str") (b := true) rfl isSubtype_str_str (wpAny_pure hq)))
end
section
variable {X : Cx} {CX : CXT} {k : Nat} {f C : Addr} {sp : Sp} {E : XK} {e : Expr} {te : TE} {pos : Pos}
/-- {x}, x an instance of the class at C -/
def tFmtO (C : Addr) (sp : Sp) (E : XK) (te : TE) : TE := fun σ H Q => te σ H fun x H1 => ∃ a dx fs, x = .ref a ∧ H1 a = some (.ins C dx fs) ∧ sp [.ref a] H1 (fun v H' => ∃ x, v = .str x ∧ Q (.str x) H') E
theorem pe_fmtO (he : PE X e te) (c : PySem.W.mroIn X.K C (.type "object") = some true) (hf : PySem.W.findIn X.K (.ref C) "__format__" = some (some (.builtin "object.__format__"))) (h : Sm X.K C "__str__" f) (F : FnR X.prog X.w X.K X.mg X.base CX k f sp) (hr : Room (k + 1) X.A) (hx : Passes CX X E) :
    PE X (.FormattedValue e (-1) none pos) (tFmtO C sp E te) := by
  refine ⟨fun pins s σ H Q I q => ?_⟩
  refine wpAny_FormattedValue_plain (thn (he.run pins s σ H _ I q) fun v s1 hv => ?_)
  obtain ⟨x, H1, I1, r1, a, dx, fs, rfl, ha, q⟩ := hv
  cases r1
  obtain ⟨od, J⟩ := inst_of I1 ha
  have hr1 : Room k X.A.in1 := hr.in1
  have I2 := I1.tok (s1.toks + 1)
  refine fmt_K (by have := hr.units; omega) I1.kIn J c hf h.at_ h.fn (wpAny_mono (run_in (us := [.ref a]) (vs := [.ref a]) F hr1 rfl hx I2 (.cons rfl .nil) q) (fun w s' z => ?_) fun _ _ z => z)
  obtain ⟨v, H', I', rv, x, rfl, q'⟩ := z
  obtain ⟨t, rfl⟩ := rv
  exact ⟨x, t, rfl, .str x, H', I', ⟨t, rfl⟩, q'⟩
end
end Xr
set_option maxHeartbeats 4000000
/-! isinstance of a caught error with a tuple of classes; a class by a local name; own classes as the head tells them -/
namespace Xr
open PySem PySem.Spec PyProof.Rows L2
section
variable {X : Cx}
/-- isinstance(e, (C, ..)) of a caught error -/
def rIsRT (K : PySem.W.Frag) : List V → Hp → VK → Prop := fun xs H Q => ∃ (a C d tp : Addr) (fs : List (Str × V)) (cs : List V) (us : List Value) (b : Bool), xs = [.ref a, .ref tp] ∧ H a = some (exr a (.ref C) (some d)) ∧ H d = some (.xd fs) ∧ XiC K C ∧ H tp = some (.tup cs) ∧ Paired ClsV cs us ∧ PySem.W.kitAny K (.ref C) us = some b ∧ Q (.bl b) H
theorem call_isRT : CallR X (.builtin "isinstance") (rIsRT X.K) := by
  intro pins s σ H xs us Q I r h
  obtain ⟨a, C, d, tp, fs, cs, ws, b, rfl, ha, hd, T, ht, hc, e, q⟩ := h
  obtain ⟨u1, u2, rfl, r1, r2⟩ := vals2 r
  cases r1
  cases r2
  obtain ⟨ox, od, mA, J, hl, hr⟩ := exr_inst I.hok ha hd
  obtain ⟨_, its, rv, o, h1, h2, n, h3⟩ := (show ObjOk X.prog X.w H s.heap tp (.tup cs) from I.hok tp _ ht)
  obtain rfl := ClsV.all hc rv
  obtain ⟨oc, od', dt, sl⟩ := o
  dsimp only at h2 h3
  subst h2 h3
  exact PySem.W.kia_tup (PySem.W.kitx_exc T.cl T.ga T.gg T.exC T.ca T.sg T.tk T.ob) I.kIn J h1 e (fun z => nomatch z) fun tk => ⟨.bl b, H, I.tok tk, rfl, q⟩
end
section
variable {X : Cx} {CX : CXT} {k : Nat} {f C : Addr} {sp : Sp} {E : XK} {x : Str} {np pos : Pos} {e : Expr} {es : List Expr} {tf : TE} {t : TA}
/-- C(e, ..), the class at C by a local name -/
def tMakeV (C : Addr) (sp : Sp) (E : XK) (tf : TE) (t : TA) : TE := fun σ H Q => tf σ H fun c H1 => c = .ref C ∧ StX.tMakeR C sp E t σ H1 Q
theorem pe_makeV (M : Mk X.K C f) (F : FnR X.prog X.w X.K X.mg X.base CX k f sp) (hr : Room (k + 1) X.A) (hx : Passes CX X E) (hf : PE X (.Name x np) tf) (ha : PA X (e :: es) t)
    (he : starEach (e :: es) X.env = (false, eval e X.env) :: starEach es X.env := by rfl) (hpl : (backTo pos (starEach es X.env)).any (·.1) = false := by rfl) : PE X (.Call (.Name x np) (e :: es) [] pos) (tMakeV C sp E tf t) := by
  refine ⟨fun pins s σ H Q I h => wpAny_Call_Name_kw (thn (hf.run pins s σ H _ I h) fun u s1 ⟨c, H1, I1, rc, ec, q1⟩ => ?_)⟩
  subst ec
  cases rc
  exact PySem.W.callWith_K (h₀ := X.base) I.ok.mod.kin M.kp (thn (ha.run pos pins s1 σ H1 _ I1 q1) fun us s2 ⟨vs, H2, I2, r, q⟩ => ⟨I2.kIn, StX.run_makeR M F hr hx I2 r q⟩) he hpl
end
/-- an own plain class: its methods ms, its properties ps, its classmethods cs; the names fs are no attributes of the class -/
def ocB (K : PySem.W.Frag) (C : Addr) (ms ps cs fs : List Str) : Bool := plB K C && (ms.all (fun m => smB K C (He.ma K C m) m) && (ps.all (fun m => prB K C (He.ma K C m) (He5.wf K C "property" m) m) && (cs.all (fun m => cmB K C m) && (fs.all (fun m => He.eqO (PySem.W.findIn K (.ref C) m) (some none)) && mkB K C (He.ma K C "__init__")))))
structure OC (K : PySem.W.Frag) (C : Addr) (ms ps cs fs : List Str) : Prop where
  pl : Pl K C
  sm : ∀ m ∈ ms, Sm2 K C m (He.ma K C m)
  pr : ∀ m ∈ ps, PropOf K C m (He.ma K C m) (He5.wf K C "property" m)
  cm : ∀ m ∈ cs, CmF K C m
  no : ∀ m ∈ fs, NoAttr K C m
  mks : Mk K C (He.ma K C "__init__")
theorem ocB_ok {K : PySem.W.Frag} {C : Addr} {ms ps cs fs : List Str} (h : ocB K C ms ps cs fs = true) : OC K C ms ps cs fs := by
  obtain ⟨h1, h⟩ := He.ba h
  obtain ⟨h2, h⟩ := He.ba h
  obtain ⟨h3, h⟩ := He.ba h
  obtain ⟨h4, h⟩ := He.ba h
  obtain ⟨h5, h6⟩ := He.ba h
  exact ⟨plB_ok h1, fun m hm => smB_ok (List.all_eq_true.mp h2 m hm), fun m hm => prB_ok (List.all_eq_true.mp h3 m hm), fun m hm => cmB_ok (List.all_eq_true.mp h4 m hm), fun m hm => He.eqO_ok (List.all_eq_true.mp h5 m hm), mkB_ok h6⟩
/-- the class has object's own way for the method m -/
def obB (K : PySem.W.Frag) (C : Addr) (m : Str) (b : String) : Bool := He.eqO (PySem.W.findIn K (.ref C) m) (some (some (.builtin b)))
/-! ### strategies -/
abbrev aS (K : PySem.W.Frag) : Addr := He.ga K "Strategy"
def plainTs : List String := ["NoneType", "bool", "int", "str", "tuple", "list", "dict"]
def stgB (K : PySem.W.Frag) : Bool := ocB K (aS K) ["__eq__", "__str__"] [] ["month", "read"] ["name", "legs"] && (obB K (aT K) "__format__" "object.__format__" && (obB K (aL K) "__format__" "object.__format__" && (obB K (aS K) "__ne__" "object.__ne__" && (obB K (aS K) "__format__" "object.__format__" &&
  (decide (PySem.W.kitOne K (.ref (aS K)) (.ref (aS K)) = some true) && (decide (PySem.W.kitOne K (.ref (aT K)) (.ref (aS K)) = some false) && (decide (PySem.W.kitOne K (.ref (aS K)) (.ref (aL K)) = some false) && (plainTs.all (fun t => PySem.W.notFirst K (aS K) (.type t)) && (PySem.W.notFirst K (aS K) (.ref (aT K)) && (plainTs.all (fun t => decide (PySem.W.kitOne K (.type t) (.ref (aL K)) = some false)) && plainTs.all (fun t => decide (PySem.W.kitOne K (.type t) (.ref (aS K)) = some false))))))))))))
structure StF (K : PySem.W.Frag) : Prop where
  oc : OC K (aS K) ["__eq__", "__str__"] [] ["month", "read"] ["name", "legs"]
  fT : PySem.W.findIn K (.ref (aT K)) "__format__" = some (some (.builtin "object.__format__"))
  fL : PySem.W.findIn K (.ref (aL K)) "__format__" = some (some (.builtin "object.__format__"))
  ne : PySem.W.findIn K (.ref (aS K)) "__ne__" = some (some (.builtin "object.__ne__"))
  fS : PySem.W.findIn K (.ref (aS K)) "__format__" = some (some (.builtin "object.__format__"))
  kS : PySem.W.kitOne K (.ref (aS K)) (.ref (aS K)) = some true
  kT : PySem.W.kitOne K (.ref (aT K)) (.ref (aS K)) = some false
  kL : PySem.W.kitOne K (.ref (aS K)) (.ref (aL K)) = some false
  nt : ∀ t ∈ plainTs, PySem.W.notFirst K (aS K) (.type t) = true
  nT : PySem.W.notFirst K (aS K) (.ref (aT K)) = true
  pL : ∀ t ∈ plainTs, PySem.W.kitOne K (.type t) (.ref (aL K)) = some false
  pS : ∀ t ∈ plainTs, PySem.W.kitOne K (.type t) (.ref (aS K)) = some false
theorem stgB_ok {K : PySem.W.Frag} (h : stgB K = true) : StF K := by
  obtain ⟨h1, h⟩ := He.ba h
  obtain ⟨h2, h⟩ := He.ba h
  obtain ⟨h3, h⟩ := He.ba h
  obtain ⟨h4, h⟩ := He.ba h
  obtain ⟨h5, h⟩ := He.ba h
  obtain ⟨h6, h⟩ := He.ba h
  obtain ⟨h7, h⟩ := He.ba h
  obtain ⟨h8, h⟩ := He.ba h
  obtain ⟨h9, h⟩ := He.ba h
  obtain ⟨h10, h⟩ := He.ba h
  obtain ⟨h11, h12⟩ := He.ba h
  exact ⟨ocB_ok h1, He.eqO_ok h2, He.eqO_ok h3, He.eqO_ok h4, He.eqO_ok h5, of_decide_eq_true h6, of_decide_eq_true h7, of_decide_eq_true h8, fun t ht => List.all_eq_true.mp h9 t ht, h10, fun t ht => of_decide_eq_true (List.all_eq_true.mp h11 t ht), fun t ht => of_decide_eq_true (List.all_eq_true.mp h12 t ht)⟩
end Xr
set_option maxHeartbeats 4000000
/-! words read behind other words -/
namespace Xr
open PySem PySem.Spec PyProof.Rows L2
theorem word_sh {pre ws : List Str} {a : Nat} {x : Str} (h : wordAt ws a = .ok x) : wordAt (pre ++ ws) (pre.length + a) = .ok x := by
  unfold wordAt at h ⊢
  rw [List.getElem?_append_right (Nat.le_add_right ..), Nat.add_sub_cancel_left]
  cases e : ws[a]? with
  | none => rw [e] at h; cases h
  | some y => rw [e] at h; exact h
theorem sign_sh {pre ws : List Str} {a b : Nat} {f : Bool} {s : Int} (h : signAt ws a f = .ok (s, b)) : signAt (pre ++ ws) (pre.length + a) f = .ok (s, pre.length + b) := by
  unfold signAt at h ⊢
  cases hw : wordAt ws a with
  | error e => rw [hw] at h; cases h
  | ok x =>
    rw [hw] at h
    rw [word_sh hw]
    dsimp only at h ⊢
    by_cases h1 : x = "-"
    · rw [if_pos h1] at h ⊢
      cases h
      rfl
    · rw [if_neg h1] at h ⊢
      by_cases h2 : f = true
      · rw [if_pos h2] at h ⊢
        cases h
        rfl
      · rw [if_neg h2] at h ⊢
        by_cases h3 : x = "+"
        · rw [if_pos h3] at h ⊢
          cases h
          rfl
        · rw [if_neg h3] at h
          cases h
theorem size_sh {pre ws : List Str} {a b : Nat} {n : Int} (h : sizeAt ws a = .ok (n, b)) : sizeAt (pre ++ ws) (pre.length + a) = .ok (n, pre.length + b) := by
  unfold sizeAt at h ⊢
  cases hw : wordAt ws a with
  | error e => rw [hw] at h; cases h
  | ok x =>
    rw [hw] at h
    rw [word_sh hw]
    dsimp only at h ⊢
    cases hn : numIn x with
    | none =>
      rw [hn] at h
      cases h
      rfl
    | some m =>
      rw [hn] at h
      dsimp only at h ⊢
      by_cases h2 : m < 2
      · rw [if_pos h2] at h
        cases h
      · rw [if_neg h2] at h ⊢
        cases h
        rfl
theorem term_sh {pre ws : List Str} {a b : Nat} {acc acc' : Tab} (h : termAt ws a acc = .ok (acc', b)) : termAt (pre ++ ws) (pre.length + a) acc = .ok (acc', pre.length + b) := by
  unfold termAt at h ⊢
  cases h1 : signAt ws a acc.isEmpty with
  | error e => rw [h1] at h; cases h
  | ok q =>
    obtain ⟨s, a1⟩ := q
    rw [h1] at h
    rw [sign_sh h1]
    dsimp only at h ⊢
    cases h2 : sizeAt ws a1 with
    | error e => rw [h2] at h; cases h
    | ok q =>
      obtain ⟨n, a2⟩ := q
      rw [h2] at h
      rw [size_sh h2]
      dsimp only at h ⊢
      cases h3 : wordAt ws a2 with
      | error e => rw [h3] at h; cases h
      | ok m =>
        rw [h3] at h
        rw [word_sh h3]
        dsimp only at h ⊢
        by_cases h4 : nameS m = true ∧ m ∉ ks acc
        · rw [if_pos h4] at h ⊢
          cases h
          rfl
        · rw [if_neg h4] at h
          cases h
theorem from_sh {pre ws : List Str} (j : Nat) : ∀ (f a : Nat) (acc t : Tab), termsFrom ws f a acc = .ok t → termsFrom (pre ++ ws) (f + j) (pre.length + a) acc = .ok t
  | 0, _, _, _, h => by cases h
  | f + 1, a, acc, t, h => by
    rw [show f + 1 + j = (f + j) + 1 by omega]
    unfold termsFrom at h ⊢
    have hl : (pre ++ ws).length = pre.length + ws.length := List.length_append
    by_cases hc : acc.isEmpty = true ∨ a < ws.length
    · rw [if_pos hc] at h
      rw [if_pos (hc.elim .inl fun z => .inr (by omega))]
      cases hta : termAt ws a acc with
      | error e => rw [hta] at h; cases h
      | ok q =>
        obtain ⟨acc', at'⟩ := q
        rw [hta] at h
        rw [term_sh hta]
        exact from_sh j f at' acc' t h
    · rw [if_neg hc] at h
      rw [if_neg (fun z => hc (z.elim .inl fun y => .inr (by omega)))]
      exact h
theorem terms_sh {pre ws : List Str} {a : Nat} {t : Tab} (h : termsIn ws a = .ok t) : termsIn (pre ++ ws) (pre.length + a) = .ok t := by
  unfold termsIn at h ⊢
  rw [List.getElem?_append_right (Nat.le_add_right ..), Nat.add_sub_cancel_left]
  have hl : (pre ++ ws).length = pre.length + ws.length := List.length_append
  by_cases h0 : ws[a]? = some ("0" : Str)
  · rw [if_pos h0] at h ⊢
    by_cases h1 : a + 1 < ws.length
    · rw [if_pos h1] at h
      cases h
    · rw [if_neg h1] at h
      rw [if_neg (by omega)]
      exact h
  · rw [if_neg h0] at h ⊢
    have z := from_sh (pre := pre) pre.length (ws.length + 1) a [] t h
    rw [hl, show pre.length + ws.length + 1 = ws.length + 1 + pre.length by omega]
    exact z
end Xr
set_option maxHeartbeats 4000000
/-! comparisons: a tuple with a text; by an own == within a block -/
namespace Xr
open PySem PySem.Spec PyProof.Rows L2
section
variable {X : Cx}
/-- x == y, scalars, or a tuple and a text -/
def rEqT (K : PySem.W.Frag) : R2 := fun x y H Q => (scal x y = true ∧ Q (.bl (decide (x = y))) H) ∨ ∃ a xs z, x = .ref a ∧ y = .str z ∧ SqT K H a xs ∧ Q (.bl false) H
theorem op_eqT (hu : X.A.units < cLine) : OpR X (compareOp .Eq) (rEqT X.K) := by
  intro pins s σ H x y v u Q I rx ry h
  rcases h with ⟨h1, h2⟩ | ⟨a, xs, z, rfl, rfl, ha, q⟩
  · exact op_eq pins s σ H x y v u Q I rx ry ⟨h1, h2⟩
  · obtain rfl : v = Value.ref a := rx
    obtain ⟨t, rfl⟩ := ry
    obtain ⟨its, _, ht, _⟩ := I.tuple ha
    exact SeqAt.RcAt.tuple_str z t ht hu _ _ _ _ ⟨.bl false, H, I, rfl, q⟩
theorem op_eqOK {CX : CXT} {k : Nat} {f C : Addr} {sp : Sp} {E : XK} (K : PySem.W.Frag) (eK : X.K = K) (h : Sm K C "__eq__" f) (F : FnR X.prog X.w X.K X.mg X.base CX k f sp) (hr : Room k X.A) (hx : Passes CX X E) : OpR X (compareOp .Eq) (rEqO K C sp E) := by
  subst eK
  exact op_eqO h F hr hx
end
end Xr
set_option maxHeartbeats 0
namespace Kx
open PySem PySem.Spec PyProof.Rows L2 Xr
def top (i : Nat) : Stmt := PySem.Challenge.pw_wholelots_k07_whole_strategies_by_texts.main.body.getD i (.Pass ⟨0, 0, 0, 0⟩)
def dD (x : Str) (i : Nat) : He.DefD := ⟨(x, none), x, x, defArgs (top i), defBody (top i), defScope (top i), [], []⟩
def dA (g : PySem.W.Frag → Addr) (x q : Str) (i j : Nat) : He5.DefA := ⟨g, x, q, defArgs (inClass (top i) j), defBody (inClass (top i) j), defScope (inClass (top i) j), [], []⟩
def fn : List He.DefD := [dD "is_integer" 11, dD "is_whole" 12, dD "is_name" 13, dD "number_in" 14, dD "terms_text" 18, dD "word_at" 19, dD "sign_at" 20, dD "size_at" 21, dD "terms_in" 22, dD "strategy_in" 23, dD "need_numbers" 24, dD "without_zeros" 25, dD "added" 26, dD "are_strategy_legs" 29, dD "_law_pen" 32, dD "_law_draw" 33, dD "_law_pick" 34, dD "_law_terms" 35, dD "_law_is_name" 36, dD "_law_count" 37, dD "_law_legs" 38, dD "_law_words" 39, dD "_law_spoiled" 40, dD "_law_due" 41, dD "_law_heard" 42, dD "_law_right" 43, dD "law" 44]
def fa : List He.Fa := [.glo "LotError", .glo "InvalidLegs", .glo "InvalidStrategy", .glo "InvalidText", .glo "UnknownName", .glo "is_integer", .glo "is_whole", .glo "is_name", .glo "number_in", .glo "terms_text", .glo "word_at", .glo "sign_at", .glo "size_at", .glo "terms_in", .glo "strategy_in", .glo "need_numbers", .glo "without_zeros", .glo "added", .glo "Legs", .glo "TableLegs", .glo "are_strategy_legs", .glo "Strategy", .glo "_law_pen", .glo "_law_draw", .glo "_law_pick", .glo "_law_terms", .glo "_law_is_name", .glo "_law_count", .glo "_law_legs", .glo "_law_words", .glo "_law_spoiled", .glo "_law_due", .glo "_law_heard", .glo "_law_right", .glo "law", .free "KeyError", .free "TypeError", .free "ValueError", .free "abs", .free "all", .free "bool", .free "classmethod", .free "dict", .free "int", .free "isinstance", .free "len", .free "list", .free "min", .free "property", .free "range", .free "repr", .free "sorted", .free "str", .free "super", .free "tuple", .str "LETTERS" "abcdefghijklmnopqrstuvwxyz", .str "DIGITS" "0123456789", .int "MOST_LETTERS" 8, .int "MOST_DIGITS" 60, .int "MOST_LEGS" 6, .int "GREATEST_LEG" 4]
abbrev file : Str := PySem.Challenge.pw_wholelots_k07_whole_strategies_by_texts.main.file
def da : List He5.DefA := [dA (fun K => (He.ma K (He.ga K "Legs") "__init__")) "__init__" "Legs.__init__" 27 0,
  dA (fun K => (He5.wf K (He.ga K "Legs") "classmethod" "of")) "of" "Legs.of" 27 1,
  dA (fun K => (He5.wf K (He.ga K "Legs") "classmethod" "month")) "month" "Legs.month" 27 2,
  dA (fun K => (He5.wf K (He.ga K "Legs") "classmethod" "read")) "read" "Legs.read" 27 3,
  dA (fun K => (He5.wf K (He.ga K "Legs") "property" "months")) "months" "Legs.months" 27 4,
  dA (fun K => (He.ma K (He.ga K "Legs") "__getitem__")) "__getitem__" "Legs.__getitem__" 27 5,
  dA (fun K => (He.ma K (He.ga K "Legs") "__iter__")) "__iter__" "Legs.__iter__" 27 6,
  dA (fun K => (He.ma K (He.ga K "Legs") "__len__")) "__len__" "Legs.__len__" 27 7,
  dA (fun K => (He.ma K (He.ga K "Legs") "__add__")) "__add__" "Legs.__add__" 27 8,
  dA (fun K => (He.ma K (He.ga K "Legs") "__sub__")) "__sub__" "Legs.__sub__" 27 9,
  dA (fun K => (He.ma K (He.ga K "Legs") "__neg__")) "__neg__" "Legs.__neg__" 27 10,
  dA (fun K => (He.ma K (He.ga K "Legs") "__mul__")) "__mul__" "Legs.__mul__" 27 11,
  dA (fun K => (He.ma K (He.ga K "Legs") "__eq__")) "__eq__" "Legs.__eq__" 27 12,
  dA (fun K => (He.ma K (He.ga K "Legs") "__str__")) "__str__" "Legs.__str__" 27 13,
  dA (fun K => (He.ma K (He.ga K "Strategy") "__init__")) "__init__" "Strategy.__init__" 30 0,
  dA (fun K => (He5.wf K (He.ga K "Strategy") "classmethod" "month")) "month" "Strategy.month" 30 1,
  dA (fun K => (He5.wf K (He.ga K "Strategy") "classmethod" "read")) "read" "Strategy.read" 30 2,
  dA (fun K => (He.ma K (He.ga K "Strategy") "__eq__")) "__eq__" "Strategy.__eq__" 30 3,
  dA (fun K => (He.ma K (He.ga K "Strategy") "__str__")) "__str__" "Strategy.__str__" 30 4]
abbrev sInvalidLegs : Stmt := inClass (top 2) 0
abbrev sInvalidStrategy : Stmt := inClass (top 3) 0
abbrev sInvalidText : Stmt := inClass (top 4) 0
abbrev sUnknownName : Stmt := inClass (top 5) 0
def cl : List DefC := [(("InvalidLegs", some "__init__"), some ("__init__", "InvalidLegs.__init__", defArgs (inClass (top 2) 0), .stmts (defBody (inClass (top 2) 0)), defScope (inClass (top 2) 0), mainGlobals, ["__class__"], builtinsNs)),
  (("InvalidStrategy", some "__init__"), some ("__init__", "InvalidStrategy.__init__", defArgs (inClass (top 3) 0), .stmts (defBody (inClass (top 3) 0)), defScope (inClass (top 3) 0), mainGlobals, ["__class__"], builtinsNs)),
  (("InvalidText", some "__init__"), some ("__init__", "InvalidText.__init__", defArgs (inClass (top 4) 0), .stmts (defBody (inClass (top 4) 0)), defScope (inClass (top 4) 0), mainGlobals, ["__class__"], builtinsNs)),
  (("UnknownName", some "__init__"), some ("__init__", "UnknownName.__init__", defArgs (inClass (top 5) 0), .stmts (defBody (inClass (top 5) 0)), defScope (inClass (top 5) 0), mainGlobals, ["__class__"], builtinsNs)),
  (("TableLegs", some "__init__"), some ("__init__", "TableLegs.__init__", defArgs (inClass (top 28) 0), .stmts (defBody (inClass (top 28) 0)), defScope (inClass (top 28) 0), mainGlobals, ["__class__"], builtinsNs))]
def eInvalidLegs (K : PySem.W.Frag) : Bool := errB file K "InvalidLegs" "ValueError" "ValueError.__init__" "ValueError.__new__" tlV ["reason"]
def eInvalidStrategy (K : PySem.W.Frag) : Bool := errB file K "InvalidStrategy" "ValueError" "ValueError.__init__" "ValueError.__new__" tlV ["reason"]
def eInvalidText (K : PySem.W.Frag) : Bool := errB file K "InvalidText" "ValueError" "ValueError.__init__" "ValueError.__new__" tlV ["line", "word"]
def eUnknownName (K : PySem.W.Frag) : Bool := errB file K "UnknownName" "KeyError" "KeyError.__init__" "LookupError.__new__" tlK ["name"]
def errNs : List Str := ["InvalidLegs", "InvalidStrategy", "InvalidText", "UnknownName"]
/-- which error is which, what is caught -/
def errR (K : PySem.W.Frag) : Bool := errNs.all fun x => decide (PySem.W.exmAny K (.ref (He.ga K x)) [.ref (He.ga K "LotError"), .ref (He.ga K "UnknownName")] = some true) && errNs.all fun y => decide (PySem.W.kitOne K (.ref (He.ga K x)) (.ref (He.ga K y)) = some (decide (x = y)))
def tf : List He.Defn := [("_law_right", none), ("law", none)]
def tabNd (K : PySem.W.Frag) : Bool := decide ((tf.map fun p => (He.cT K p).2).Nodup)
def exB (K : PySem.W.Frag) : Bool := allB K && (legB file K && (stgB K && ((errR K && tabNd K) && (eInvalidLegs K && (eInvalidStrategy K && (eInvalidText K && (eUnknownName K)))))))
abbrev R : PySem.W.OpenRow := PySem.W.OpenLaw.row PySem.Challenge.rw_wholelots_k07_whole_strategies_by_texts
abbrev hk : PySem.W.Hook := hookF 6 fa fn [] tf cl da exB
def ob (s : PySem.W.SharedT) : AlF := obsF 6 fa fn [] tf cl da exB (HandSHeadRun.getT s)
theorem ob_eq (s : PySem.W.SharedT) : ob s = hk.obs s.abs := obsF_eq (HandSHeadRun.getT_eq s)
def loose : List Str := (["LotError", "InvalidLegs", "InvalidStrategy", "InvalidText", "UnknownName", "is_integer", "is_whole", "is_name", "number_in", "terms_text", "word_at", "sign_at", "size_at", "terms_in", "strategy_in", "need_numbers", "without_zeros", "added", "Legs", "TableLegs"] : List Str) ++ (["are_strategy_legs", "Strategy", "_law_pen", "_law_draw", "_law_pick", "_law_terms", "_law_is_name", "_law_count", "_law_legs", "_law_words", "_law_spoiled", "_law_due", "_law_heard", "_law_right", "LETTERS", "DIGITS", "MOST_LETTERS", "MOST_DIGITS", "MOST_LEGS", "GREATEST_LEG"] : List Str)
theorem run (w : World) : HandSHeadRun.RunEq R (PySem.W.view R.prog [44]) hk ob 12000 loose w := by
  intro os
  kernel_rfl
end Kx
set_option maxHeartbeats 4000000
namespace Kx
open PySem PySem.Spec PyProof.Rows L2 Xr
/-- what the walk asks of the text as the top has made it -/
structure Txt (P : Program) (K : PySem.W.Frag) (mg : Str → Option Value) : Prop where
  all : AllF K
  g_LotError : mg "LotError" = some (.ref (He.ga K "LotError"))
  g_InvalidLegs : mg "InvalidLegs" = some (.ref (He.ga K "InvalidLegs"))
  g_InvalidStrategy : mg "InvalidStrategy" = some (.ref (He.ga K "InvalidStrategy"))
  g_InvalidText : mg "InvalidText" = some (.ref (He.ga K "InvalidText"))
  g_UnknownName : mg "UnknownName" = some (.ref (He.ga K "UnknownName"))
  g_is_integer : mg "is_integer" = some (.ref (He.ga K "is_integer"))
  g_is_whole : mg "is_whole" = some (.ref (He.ga K "is_whole"))
  g_is_name : mg "is_name" = some (.ref (He.ga K "is_name"))
  g_number_in : mg "number_in" = some (.ref (He.ga K "number_in"))
  g_terms_text : mg "terms_text" = some (.ref (He.ga K "terms_text"))
  g_word_at : mg "word_at" = some (.ref (He.ga K "word_at"))
  g_sign_at : mg "sign_at" = some (.ref (He.ga K "sign_at"))
  g_size_at : mg "size_at" = some (.ref (He.ga K "size_at"))
  g_terms_in : mg "terms_in" = some (.ref (He.ga K "terms_in"))
  g_strategy_in : mg "strategy_in" = some (.ref (He.ga K "strategy_in"))
  g_need_numbers : mg "need_numbers" = some (.ref (He.ga K "need_numbers"))
  g_without_zeros : mg "without_zeros" = some (.ref (He.ga K "without_zeros"))
  g_added : mg "added" = some (.ref (He.ga K "added"))
  g_Legs : mg "Legs" = some (.ref (He.ga K "Legs"))
  g_TableLegs : mg "TableLegs" = some (.ref (He.ga K "TableLegs"))
  g_are_strategy_legs : mg "are_strategy_legs" = some (.ref (He.ga K "are_strategy_legs"))
  g_Strategy : mg "Strategy" = some (.ref (He.ga K "Strategy"))
  g__law_pen : mg "_law_pen" = some (.ref (He.ga K "_law_pen"))
  g__law_draw : mg "_law_draw" = some (.ref (He.ga K "_law_draw"))
  g__law_pick : mg "_law_pick" = some (.ref (He.ga K "_law_pick"))
  g__law_terms : mg "_law_terms" = some (.ref (He.ga K "_law_terms"))
  g__law_is_name : mg "_law_is_name" = some (.ref (He.ga K "_law_is_name"))
  g__law_count : mg "_law_count" = some (.ref (He.ga K "_law_count"))
  g__law_legs : mg "_law_legs" = some (.ref (He.ga K "_law_legs"))
  g__law_words : mg "_law_words" = some (.ref (He.ga K "_law_words"))
  g__law_spoiled : mg "_law_spoiled" = some (.ref (He.ga K "_law_spoiled"))
  g__law_due : mg "_law_due" = some (.ref (He.ga K "_law_due"))
  g__law_heard : mg "_law_heard" = some (.ref (He.ga K "_law_heard"))
  g__law_right : mg "_law_right" = some (.ref (He.ga K "_law_right"))
  g_law : mg "law" = some (.ref (He.ga K "law"))
  z_KeyError : mg "KeyError" = none
  z_TypeError : mg "TypeError" = none
  z_ValueError : mg "ValueError" = none
  z_abs : mg "abs" = none
  z_all : mg "all" = none
  z_bool : mg "bool" = none
  z_classmethod : mg "classmethod" = none
  z_dict : mg "dict" = none
  z_int : mg "int" = none
  z_isinstance : mg "isinstance" = none
  z_len : mg "len" = none
  z_list : mg "list" = none
  z_min : mg "min" = none
  z_property : mg "property" = none
  z_range : mg "range" = none
  z_repr : mg "repr" = none
  z_sorted : mg "sorted" = none
  z_str : mg "str" = none
  z_super : mg "super" = none
  z_tuple : mg "tuple" = none
  c_LETTERS : ∃ t, mg "LETTERS" = some (.str "abcdefghijklmnopqrstuvwxyz" t)
  c_DIGITS : ∃ t, mg "DIGITS" = some (.str "0123456789" t)
  c_MOST_LETTERS : ∃ t, mg "MOST_LETTERS" = some (.int 8 t)
  c_MOST_DIGITS : ∃ t, mg "MOST_DIGITS" = some (.int 60 t)
  c_MOST_LEGS : ∃ t, mg "MOST_LEGS" = some (.int 6 t)
  c_GREATEST_LEG : ∃ t, mg "GREATEST_LEG" = some (.int 4 t)
  F_is_integer : ∃ fd, FunD K "is_integer" "is_integer" (defArgs (top 11)) (defBody (top 11)) (defScope (top 11)) [] [] (He.ga K "is_integer") fd
  F_is_whole : ∃ fd, FunD K "is_whole" "is_whole" (defArgs (top 12)) (defBody (top 12)) (defScope (top 12)) [] [] (He.ga K "is_whole") fd
  F_is_name : ∃ fd, FunD K "is_name" "is_name" (defArgs (top 13)) (defBody (top 13)) (defScope (top 13)) [] [] (He.ga K "is_name") fd
  F_number_in : ∃ fd, FunD K "number_in" "number_in" (defArgs (top 14)) (defBody (top 14)) (defScope (top 14)) [] [] (He.ga K "number_in") fd
  F_terms_text : ∃ fd, FunD K "terms_text" "terms_text" (defArgs (top 18)) (defBody (top 18)) (defScope (top 18)) [] [] (He.ga K "terms_text") fd
  F_word_at : ∃ fd, FunD K "word_at" "word_at" (defArgs (top 19)) (defBody (top 19)) (defScope (top 19)) [] [] (He.ga K "word_at") fd
  F_sign_at : ∃ fd, FunD K "sign_at" "sign_at" (defArgs (top 20)) (defBody (top 20)) (defScope (top 20)) [] [] (He.ga K "sign_at") fd
  F_size_at : ∃ fd, FunD K "size_at" "size_at" (defArgs (top 21)) (defBody (top 21)) (defScope (top 21)) [] [] (He.ga K "size_at") fd
  F_terms_in : ∃ fd, FunD K "terms_in" "terms_in" (defArgs (top 22)) (defBody (top 22)) (defScope (top 22)) [] [] (He.ga K "terms_in") fd
  F_strategy_in : ∃ fd, FunD K "strategy_in" "strategy_in" (defArgs (top 23)) (defBody (top 23)) (defScope (top 23)) [] [] (He.ga K "strategy_in") fd
  F_need_numbers : ∃ fd, FunD K "need_numbers" "need_numbers" (defArgs (top 24)) (defBody (top 24)) (defScope (top 24)) [] [] (He.ga K "need_numbers") fd
  F_without_zeros : ∃ fd, FunD K "without_zeros" "without_zeros" (defArgs (top 25)) (defBody (top 25)) (defScope (top 25)) [] [] (He.ga K "without_zeros") fd
  F_added : ∃ fd, FunD K "added" "added" (defArgs (top 26)) (defBody (top 26)) (defScope (top 26)) [] [] (He.ga K "added") fd
  F_are_strategy_legs : ∃ fd, FunD K "are_strategy_legs" "are_strategy_legs" (defArgs (top 29)) (defBody (top 29)) (defScope (top 29)) [] [] (He.ga K "are_strategy_legs") fd
  F__law_pen : ∃ fd, FunD K "_law_pen" "_law_pen" (defArgs (top 32)) (defBody (top 32)) (defScope (top 32)) [] [] (He.ga K "_law_pen") fd
  F__law_draw : ∃ fd, FunD K "_law_draw" "_law_draw" (defArgs (top 33)) (defBody (top 33)) (defScope (top 33)) [] [] (He.ga K "_law_draw") fd
  F__law_pick : ∃ fd, FunD K "_law_pick" "_law_pick" (defArgs (top 34)) (defBody (top 34)) (defScope (top 34)) [] [] (He.ga K "_law_pick") fd
  F__law_terms : ∃ fd, FunD K "_law_terms" "_law_terms" (defArgs (top 35)) (defBody (top 35)) (defScope (top 35)) [] [] (He.ga K "_law_terms") fd
  F__law_is_name : ∃ fd, FunD K "_law_is_name" "_law_is_name" (defArgs (top 36)) (defBody (top 36)) (defScope (top 36)) [] [] (He.ga K "_law_is_name") fd
  F__law_count : ∃ fd, FunD K "_law_count" "_law_count" (defArgs (top 37)) (defBody (top 37)) (defScope (top 37)) [] [] (He.ga K "_law_count") fd
  F__law_legs : ∃ fd, FunD K "_law_legs" "_law_legs" (defArgs (top 38)) (defBody (top 38)) (defScope (top 38)) [] [] (He.ga K "_law_legs") fd
  F__law_words : ∃ fd, FunD K "_law_words" "_law_words" (defArgs (top 39)) (defBody (top 39)) (defScope (top 39)) [] [] (He.ga K "_law_words") fd
  F__law_spoiled : ∃ fd, FunD K "_law_spoiled" "_law_spoiled" (defArgs (top 40)) (defBody (top 40)) (defScope (top 40)) [] [] (He.ga K "_law_spoiled") fd
  F__law_due : ∃ fd, FunD K "_law_due" "_law_due" (defArgs (top 41)) (defBody (top 41)) (defScope (top 41)) [] [] (He.ga K "_law_due") fd
  F__law_heard : ∃ fd, FunD K "_law_heard" "_law_heard" (defArgs (top 42)) (defBody (top 42)) (defScope (top 42)) [] [] (He.ga K "_law_heard") fd
  F__law_right : ∃ fd, FunD K "_law_right" "_law_right" (defArgs (top 43)) (defBody (top 43)) (defScope (top 43)) [] [] (He.ga K "_law_right") fd
  F_law : ∃ fd, FunD K "law" "law" (defArgs (top 44)) (defBody (top 44)) (defScope (top 44)) [] [] (He.ga K "law") fd
  F_Legs___init__ : ∃ fd, FunD K "__init__" "Legs.__init__" (defArgs (inClass (top 27) 0)) (defBody (inClass (top 27) 0)) (defScope (inClass (top 27) 0)) [] [] (He.ma K (He.ga K "Legs") "__init__") fd
  F_Legs_of : ∃ fd, FunD K "of" "Legs.of" (defArgs (inClass (top 27) 1)) (defBody (inClass (top 27) 1)) (defScope (inClass (top 27) 1)) [] [] (He5.wf K (He.ga K "Legs") "classmethod" "of") fd
  F_Legs_month : ∃ fd, FunD K "month" "Legs.month" (defArgs (inClass (top 27) 2)) (defBody (inClass (top 27) 2)) (defScope (inClass (top 27) 2)) [] [] (He5.wf K (He.ga K "Legs") "classmethod" "month") fd
  F_Legs_read : ∃ fd, FunD K "read" "Legs.read" (defArgs (inClass (top 27) 3)) (defBody (inClass (top 27) 3)) (defScope (inClass (top 27) 3)) [] [] (He5.wf K (He.ga K "Legs") "classmethod" "read") fd
  F_Legs_months : ∃ fd, FunD K "months" "Legs.months" (defArgs (inClass (top 27) 4)) (defBody (inClass (top 27) 4)) (defScope (inClass (top 27) 4)) [] [] (He5.wf K (He.ga K "Legs") "property" "months") fd
  F_Legs___getitem__ : ∃ fd, FunD K "__getitem__" "Legs.__getitem__" (defArgs (inClass (top 27) 5)) (defBody (inClass (top 27) 5)) (defScope (inClass (top 27) 5)) [] [] (He.ma K (He.ga K "Legs") "__getitem__") fd
  F_Legs___iter__ : ∃ fd, FunD K "__iter__" "Legs.__iter__" (defArgs (inClass (top 27) 6)) (defBody (inClass (top 27) 6)) (defScope (inClass (top 27) 6)) [] [] (He.ma K (He.ga K "Legs") "__iter__") fd
  F_Legs___len__ : ∃ fd, FunD K "__len__" "Legs.__len__" (defArgs (inClass (top 27) 7)) (defBody (inClass (top 27) 7)) (defScope (inClass (top 27) 7)) [] [] (He.ma K (He.ga K "Legs") "__len__") fd
  F_Legs___add__ : ∃ fd, FunD K "__add__" "Legs.__add__" (defArgs (inClass (top 27) 8)) (defBody (inClass (top 27) 8)) (defScope (inClass (top 27) 8)) [] [] (He.ma K (He.ga K "Legs") "__add__") fd
  F_Legs___sub__ : ∃ fd, FunD K "__sub__" "Legs.__sub__" (defArgs (inClass (top 27) 9)) (defBody (inClass (top 27) 9)) (defScope (inClass (top 27) 9)) [] [] (He.ma K (He.ga K "Legs") "__sub__") fd
  F_Legs___neg__ : ∃ fd, FunD K "__neg__" "Legs.__neg__" (defArgs (inClass (top 27) 10)) (defBody (inClass (top 27) 10)) (defScope (inClass (top 27) 10)) [] [] (He.ma K (He.ga K "Legs") "__neg__") fd
  F_Legs___mul__ : ∃ fd, FunD K "__mul__" "Legs.__mul__" (defArgs (inClass (top 27) 11)) (defBody (inClass (top 27) 11)) (defScope (inClass (top 27) 11)) [] [] (He.ma K (He.ga K "Legs") "__mul__") fd
  F_Legs___eq__ : ∃ fd, FunD K "__eq__" "Legs.__eq__" (defArgs (inClass (top 27) 12)) (defBody (inClass (top 27) 12)) (defScope (inClass (top 27) 12)) [] [] (He.ma K (He.ga K "Legs") "__eq__") fd
  F_Legs___str__ : ∃ fd, FunD K "__str__" "Legs.__str__" (defArgs (inClass (top 27) 13)) (defBody (inClass (top 27) 13)) (defScope (inClass (top 27) 13)) [] [] (He.ma K (He.ga K "Legs") "__str__") fd
  F_Strategy___init__ : ∃ fd, FunD K "__init__" "Strategy.__init__" (defArgs (inClass (top 30) 0)) (defBody (inClass (top 30) 0)) (defScope (inClass (top 30) 0)) [] [] (He.ma K (He.ga K "Strategy") "__init__") fd
  F_Strategy_month : ∃ fd, FunD K "month" "Strategy.month" (defArgs (inClass (top 30) 1)) (defBody (inClass (top 30) 1)) (defScope (inClass (top 30) 1)) [] [] (He5.wf K (He.ga K "Strategy") "classmethod" "month") fd
  F_Strategy_read : ∃ fd, FunD K "read" "Strategy.read" (defArgs (inClass (top 30) 2)) (defBody (inClass (top 30) 2)) (defScope (inClass (top 30) 2)) [] [] (He5.wf K (He.ga K "Strategy") "classmethod" "read") fd
  F_Strategy___eq__ : ∃ fd, FunD K "__eq__" "Strategy.__eq__" (defArgs (inClass (top 30) 3)) (defBody (inClass (top 30) 3)) (defScope (inClass (top 30) 3)) [] [] (He.ma K (He.ga K "Strategy") "__eq__") fd
  F_Strategy___str__ : ∃ fd, FunD K "__str__" "Strategy.__str__" (defArgs (inClass (top 30) 4)) (defBody (inClass (top 30) 4)) (defScope (inClass (top 30) 4)) [] [] (He.ma K (He.ga K "Strategy") "__str__") fd
  e_InvalidLegs : Err P K (He.ga K "InvalidLegs") ["reason"]
  e_InvalidStrategy : Err P K (He.ga K "InvalidStrategy") ["reason"]
  e_InvalidText : Err P K (He.ga K "InvalidText") ["line", "word"]
  e_UnknownName : Err P K (He.ga K "UnknownName") ["name"]
  exm : ∀ x ∈ errNs, PySem.W.exmAny K (.ref (He.ga K x)) [.ref (He.ga K "LotError"), .ref (He.ga K "UnknownName")] = some true
  tnd : (tf.map fun p => (He.cT K p).2).Nodup
  kitE : ∀ x ∈ errNs, ∀ y ∈ errNs, PySem.W.kitOne K (.ref (He.ga K x)) (.ref (He.ga K y)) = some (decide (x = y))
  leg : LegF P K "TableLegs.__init__" (defArgs (inClass (top 28) 0)) (defBody (inClass (top 28) 0)) (defScope (inClass (top 28) 0))
  stg : StF K
local macro_rules | `(tactic| walk_at "rd") => `(tactic| (repeat (first | apply Exists.intro | (refine And.intro rfl ?_) | (refine And.intro (SqL.of (by assumption)) ?_) | (refine And.intro (Or.inl (SqL.of (by assumption))) ?_) | (refine Or.inl ⟨_, rfl, ?_⟩) | (refine Or.inr ⟨_, rfl, ?_⟩) | (refine And.intro (by assumption) ?_) | (refine And.intro (Or.inl (by assumption)) ?_))))
section
variable {P : Program} {w : World} {K : PySem.W.Frag} {mg : Str → Option Value} {base : Heap}
theorem sc_is_integer : FnScope ["value"] ["value"] (defScope (top 11)) := ⟨rfl, rfl, rfl, by decide +kernel, rfl, by decide +kernel, by decide +kernel⟩
def spIsInt (K : PySem.W.Frag) : Sp := fun vs H Q _ => ∃ v t b1 b2, vs = [v] ∧ TyX K H v t ∧ PySem.W.kitOne K t (.type "int") = some b1 ∧ PySem.W.kitOne K t (.type "bool") = some b2 ∧ Q (.bl (b1 && !b2)) H
theorem ok_is_integer (T : Txt P K mg) : OkF P w K mg base CX0 1 (He.ga K "is_integer") ["value"] (spIsInt K) := by
  obtain ⟨fd, F⟩ := T.F_is_integer
  refine ⟨fd, F.ok sc_is_integer (fun vs H Q E h => ?_) (fun cdv A outer s H vs Q E hr h => ?_), F.bindsN fun _ _ _ _ _ _ us hl => match us, hl with | [_], _ => rfl, F.kp⟩
  · obtain ⟨v, t, b1, b2, rfl, _⟩ := h
    rfl
  · obtain ⟨v, t, b1, b2, rfl, ty, e1, e2, k⟩ := h
    refine ⟨_, PSs.nox (pss_one (ps_ret (pe_and (pe_callB (call_isiK K) (by rfl) T.z_isinstance (by decide +kernel) (pa_cons (pv 0) (pa_cons (pe_bltn (v := .ty "int") (by rfl) T.z_int (by decide +kernel) rfl) pa_nil))) (pe_one (pe_not (pe_callB (call_isiK K) (by rfl) T.z_isinstance (by decide +kernel) (pa_cons (pv 0) (pa_cons (pe_bltn (v := .ty "bool") (by rfl) T.z_bool (by decide +kernel) rfl) pa_nil)))))))), ?_⟩
    refine ⟨v, rfl, ⟨_, _, _, _, _, rfl, .ty "int", ty, e1, _, rfl, ?_⟩⟩
    cases b1 with
    | false => exact k
    | true => exact ⟨v, rfl, _, _, _, _, _, rfl, .ty "bool", ty, e2, _, rfl, k⟩
theorem sc_is_whole : FnScope ["value"] ["value"] (defScope (top 12)) := ⟨rfl, rfl, rfl, by decide +kernel, rfl, by decide +kernel, by decide +kernel⟩
abbrev absV (i : Int) : Int := if i < 0 then -i else i
def spWhole (K : PySem.W.Frag) : Sp := fun vs H Q _ => ∃ v, vs = [v] ∧ ((∃ i, v = .int i ∧ Q (.bl (decide (absV i < 10 ^ 60))) H) ∨ ∃ t b1 b2, TyX K H v t ∧ PySem.W.kitOne K t (.type "int") = some b1 ∧ PySem.W.kitOne K t (.type "bool") = some b2 ∧ (b1 && !b2) = false ∧ Q (.bl false) H)
theorem kit_ii : PySem.W.kitOne K (.type "int") (.type "int") = some true := kit_ty (by decide +kernel)
theorem kit_ib : PySem.W.kitOne K (.type "int") (.type "bool") = some false := kit_ty (by decide +kernel)
theorem ok_is_whole (T : Txt P K mg) : OkF P w K mg base CX0 2 (He.ga K "is_whole") ["value"] (spWhole K) := by
  have G_is_integer := ok_is_integer (P := P) (w := w) (base := base) T
  obtain ⟨fd, F⟩ := T.F_is_whole
  refine ⟨fd, F.ok sc_is_whole (fun vs H Q E h => ?_) (fun cdv A outer s H vs Q E hr h => ?_), F.bindsN fun _ _ _ _ _ _ us hl => match us, hl with | [_], _ => rfl, F.kp⟩
  · obtain ⟨v, rfl, _⟩ := h
    rfl
  · obtain ⟨v, rfl, k⟩ := h
    refine ⟨_, PSs.nox (pss_one (ps_ret (pe_and (pe_f G_is_integer (hr.mono (by decide)) (by rfl) T.g_is_integer pass0 (pa_cons (pv 0) pa_nil)) (pe_one (pe_cmpR op_lt (pe_callB call_abs (by rfl) T.z_abs (by decide +kernel) (pa_cons (pv 0) pa_nil)) (pe_op op_pow pe_int pe_int) (nomark _)))))), ?_⟩
    rcases k with ⟨i, rfl, k⟩ | ⟨t, b1, b2, ty, e1, e2, e, k⟩
    · refine ⟨_, rfl, _, _, _, _, rfl, .base (.int i), kit_ii, kit_ib, _, rfl, ?_⟩
      refine iteT ⟨_, rfl, _, rfl, _, _, rfl, rfl, ⟨by decide, by decide, by decide⟩, _, _, rfl, rfl, k⟩
    · refine ⟨_, rfl, _, _, _, _, rfl, ty, e1, e2, _, rfl, ?_⟩
      rw [e]
      exact k
theorem sc_is_name : FnScope ["value", "letter"] ["value"] (defScope (top 13)) := ⟨rfl, rfl, rfl, by decide +kernel, rfl, by decide +kernel, by decide +kernel⟩
def letters : Str := "abcdefghijklmnopqrstuvwxyz"
def nameB (x : Str) : Bool := (decide (1 ≤ x.length) && decide (x.length ≤ 8)) && x.cps.toList.all fun c => decide (c ∈ letters.cps.toList)
def spName (K : PySem.W.Frag) : Sp := fun vs H Q _ => ∃ v, vs = [v] ∧ ((∃ x, v = .str x ∧ x.length ≤ 100000 ∧ ∀ H', Same H H' → Q (.bl (nameB x)) H') ∨ ∃ t, TyX K H v t ∧ PySem.W.kitOne K t (.type "str") = some false ∧ Q (.bl false) H)
theorem kit_ss : PySem.W.kitOne K (.type "str") (.type "str") = some true := kit_ty (by decide +kernel)
theorem ok_is_name (T : Txt P K mg) : OkF P w K mg base CX0 1 (He.ga K "is_name") ["value"] (spName K) := by
  obtain ⟨t1, c_MOST_LETTERS⟩ := T.c_MOST_LETTERS
  obtain ⟨t2, c_LETTERS⟩ := T.c_LETTERS
  obtain ⟨fd, F⟩ := T.F_is_name
  refine ⟨fd, F.ok sc_is_name (fun vs H Q E h => ?_) (fun cdv A outer s H vs Q E hr h => ?_), F.bindsN fun _ _ _ _ _ _ us hl => match us, hl with | [_], _ => rfl, F.kp⟩
  · obtain ⟨v, rfl, _⟩ := h
    rfl
  · obtain ⟨v, rfl, k⟩ := h
    refine ⟨_, PSs.nox (pss_cons (ps_if (PW.pt (pw_or (pt_not (pt_val (pe_callB (call_isiK K) (by rfl) T.z_isinstance (by decide +kernel) (pa_cons (pv 0) (pa_cons (pe_bltn (v := .ty "str") (by rfl) T.z_str (by decide +kernel) rfl) pa_nil))))) (pw_or1 (pt_not (pt_chain op_le op_le pe_int (pe_callB call_len (by rfl) T.z_len (by decide +kernel) (pa_cons (pv 0) pa_nil)) (pe_glob (v := .int 8) (by rfl) c_MOST_LETTERS ⟨_, rfl⟩))))))
      (pss_one (ps_ret pe_bl))
      pss_nil)
    (pss_one (ps_ret (pe_callB (cr_all rfl) (by rfl) T.z_all (by decide +kernel) (pa_cons (pe_lc (own := [("letter", 1)]) (g := gName 1) (tt := tYes) rfl sc_is_name.nd (pi_str (pv 0)) (blkOk_by (N := ["value", "letter"]) (sc := defScope (top 13)) (by decide +kernel)) (fun _ _ _ _ _ => pg_name (i := 1) sc_is_name.nd rfl (Or.inl rfl)) (fun _ _ _ _ _ => pts_nil) (fun _ _ _ _ _ => (pe_cmpR op_in_sign (pv 1) (pe_glob (v := .str "abcdefghijklmnopqrstuvwxyz") (by rfl) c_LETTERS ⟨_, rfl⟩) (by rfl)))) pa_nil))))), ?_⟩
    rcases k with ⟨x, rfl, hx, k⟩ | ⟨t, ty, e, k⟩
    · refine ⟨_, rfl, _, _, _, _, _, rfl, .ty "str", .base (.str x), kit_ss, _, rfl, ?_⟩
      refine iteFa rfl ?_
      have fin : nameB x = false → Q (.bl false) H := fun e => e ▸ k H (Same.refl H)
      refine ⟨_, rfl, _, x.length, rfl, ⟨by rw [sizeLine_eq]; omega, rfl⟩, 1, (x.length : Int), rfl, rfl, _, rfl, ?_⟩
      refine iteD (fun h1 => ?_) (fun h1 => ⟨false, rfl, fin (by unfold nameB; rw [decide_eq_false (by omega)]; rfl)⟩)
      refine ⟨_, _, rfl, rfl, _, rfl, ?_⟩
      by_cases h2 : (x.length : Int) ≤ 8
      · refine iteFa (by rw [decide_eq_true h2]; rfl) ?_
        refine ⟨_, rfl, x, rfl, fun D hD => ?_⟩
        refine lcF yl_str (fun _ => true) (fun v => .bl (match v with | .str c => decide (c.cps.toList.headD 0 ∈ letters.cps.toList) | _ => false)) hD (by unfold signsV; rw [List.length_map]; exact hx) (fun _ _ => trivial) (fun _ => rfl) (fun v H' _ _ Qb q => q H' (Same.refl H')) (fun v H' hm _ s2 Q2 q => ?_) fun H' s2 hl => ?_
        · obtain ⟨c, _, rfl⟩ := List.mem_map.mp hm
          exact ⟨_, rfl, c, _, rfl, rfl, q H' (Same.refl H')⟩
        · have e : (List.map (fun v => V.bl (match v with | .str c => decide (c.cps.toList.headD 0 ∈ letters.cps.toList) | _ => false)) (List.filter (fun _ => true) (signsV x))) = (x.cps.toList.map fun c => decide (c ∈ letters.cps.toList)).map V.bl := by
            unfold signsV
            rw [List.filter_eq_self.mpr fun _ _ => rfl, List.map_map, List.map_map]
            rfl
          rw [e] at hl
          refine ⟨D, _, rfl, SqL.of hl, ?_⟩
          have e2 : ((x.cps.toList.map fun c => decide (c ∈ letters.cps.toList)).all id) = nameB x := by
            unfold nameB
            rw [decide_eq_true (show 1 ≤ x.length by omega), decide_eq_true (show x.length ≤ 8 by omega), List.all_map]
            rfl
          rw [e2]
          exact k H' s2
      · refine iteTr (by rw [decide_eq_false h2]; rfl) (fin ?_)
        unfold nameB
        rw [decide_eq_false (show ¬ x.length ≤ 8 by omega), Bool.and_false]
        rfl
    · refine ⟨_, rfl, _, _, _, _, _, rfl, .ty "str", ty, e, _, rfl, ?_⟩
      exact k
end
end Kx
set_option maxHeartbeats 4000000
namespace Kx
open PySem PySem.Spec PyProof.Rows L2 Xr
local macro_rules | `(tactic| walk_at "rd") => `(tactic| (repeat (first | apply Exists.intro | (refine And.intro rfl ?_) | (refine And.intro (SqL.of (by assumption)) ?_) | (refine And.intro (Or.inl (SqL.of (by assumption))) ?_) | (refine Or.inl ⟨_, rfl, ?_⟩) | (refine Or.inr ⟨_, rfl, ?_⟩) | (refine And.intro (by assumption) ?_) | (refine And.intro (Or.inl (by assumption)) ?_))))
section
variable {P : Program} {w : World} {K : PySem.W.Frag} {mg : Str → Option Value} {base : Heap}
theorem sc_need_numbers : FnScope ["table", "month", "number"] ["table"] (defScope (top 24)) := ⟨rfl, rfl, rfl, by decide +kernel, rfl, by decide +kernel, by decide +kernel⟩
/-- a table that legs may be made of -/
structure GoodT (t : Tab) : Prop where
  nd : (ks t).Nodup
  nm : ∀ k ∈ ks t, nameB k = true
  wh : ∀ p ∈ t, absV p.2 < 10 ^ 60
  len : t.length < 64
theorem name_len {x : Str} (h : nameB x = true) : x.length ≤ 100000 := by
  unfold nameB at h
  have h1 := (He.ba (He.ba h).1).2
  have := of_decide_eq_true h1
  omega
def spNeed : Sp := fun vs H Q _ => ∃ d t, vs = [.ref d] ∧ H d = some (.dK (tabK t)) ∧ GoodT t ∧ ∀ H', Same H H' → Q .non H'
theorem all_true {bs : List Bool} (h : ∀ b ∈ bs, b = true) : bs.all id = true := List.all_eq_true.mpr h
theorem ok_need_numbers (T : Txt P K mg) : OkF P w K mg base CX0 3 (He.ga K "need_numbers") ["table"] spNeed := by
  have G_is_name := ok_is_name (P := P) (w := w) (base := base) T
  have G_is_whole := ok_is_whole (P := P) (w := w) (base := base) T
  obtain ⟨fd, F⟩ := T.F_need_numbers
  refine ⟨fd, F.ok sc_need_numbers (fun vs H Q E h => ?_) (fun cdv A outer s H vs Q E hr h => ?_), F.bindsN fun _ _ _ _ _ _ us hl => match us, hl with | [_], _ => rfl, F.kp⟩
  · obtain ⟨d, t, rfl, _⟩ := h
    rfl
  · obtain ⟨d, t, rfl, hd, g, k⟩ := h
    refine ⟨_, PSs.nox (pss_cons (ps_if (pt_not (pt_val (pe_callB (cr_all rfl) (by rfl) T.z_all (by decide +kernel) (pa_cons (pe_lock (pe_lc (own := [("month", 1)]) (g := gName 1) (tt := tYes) rfl sc_need_numbers.nd (pi_keys (pv 0)) (blkOk_by (N := ["table", "month", "number"]) (sc := defScope (top 24)) (by decide +kernel)) (fun _ _ _ _ _ => pg_name (i := 1) sc_need_numbers.nd rfl (Or.inl rfl)) (fun _ _ _ _ _ => pts_nil) (fun _ _ _ _ _ => (pe_f G_is_name (hr.mono (by decide)) (by rfl) T.g_is_name pass0 (pa_cons (pv 1) pa_nil))))) pa_nil))))
      (pss_one ps_never)
      pss_nil)
    (pss_one (ps_if (pt_not (pt_val (pe_callB (cr_all rfl) (by rfl) T.z_all (by decide +kernel) (pa_cons (pe_lock (pe_lc (own := [("number", 2)]) (g := gName 2) (tt := tYes) rfl sc_need_numbers.nd (pi_values (pv 0)) (blkOk_by (N := ["table", "month", "number"]) (sc := defScope (top 24)) (by decide +kernel)) (fun _ _ _ _ _ => pg_name (i := 2) sc_need_numbers.nd rfl (Or.inl rfl)) (fun _ _ _ _ _ => pts_nil) (fun _ _ _ _ _ => (pe_f G_is_whole (hr.mono (by decide)) (by rfl) T.g_is_whole pass0 (pa_cons (pv 2) pa_nil))))) pa_nil))))
      (pss_one ps_never)
      pss_nil))), ?_⟩
    refine ⟨d, _, hd, trivial, fun od => ?_⟩
    refine ⟨_, rfl, d, od, rfl, .inl ⟨_, upd_same, fun D hD => ?_⟩⟩
    have nd : D ≠ d := fun z => by rw [z, upd_same] at hD; cases hD
    refine lcF yl_keys (fun _ => true) (fun v => .bl (match v with | .str x => nameB x | _ => false)) hD (by rw [List.length_map]; unfold tabK; rw [List.length_map]; have := g.len; omega) (fun H' s => s _ _ upd_same) (fun _ => rfl) (fun v H' _ _ Qb q => q H' (Same.refl H')) (fun v H' hm _ s2 Q2 q => ?_) fun H' s2 hl => ?_
    · obtain ⟨p, hp, rfl⟩ := List.mem_map.mp hm
      obtain ⟨p', hp', rfl⟩ := List.mem_map.mp hp
      exact ⟨_, rfl, _, rfl, .inl ⟨_, rfl, name_len (g.nm _ (List.mem_map.mpr ⟨p', hp', rfl⟩)), q⟩⟩
    · refine ⟨s2 _ _ upd_same, ?_⟩
      have s3 := same_lock hd s2
      have e : (List.map (fun v => V.bl (match v with | .str x => nameB x | _ => false)) (List.filter (fun _ => true) (List.map (fun p => kV p.1) (tabK t)))) = ((ks t).map nameB).map V.bl := by
        unfold ks tabK
        rw [List.filter_eq_self.mpr fun _ _ => rfl, List.map_map, List.map_map, List.map_map, List.map_map]
        rfl
      rw [e] at hl
      refine ⟨D, _, rfl, SqL.of ((upd_ne nd).trans hl), _, rfl, ?_⟩
      rw [all_true fun b hb => by obtain ⟨x, hx, rfl⟩ := List.mem_map.mp hb; exact g.nm x hx]
      have hd3 := s3 _ _ hd
      generalize upd H' d (.dK (tabK t)) = H3 at s3 hd3
      refine ⟨d, _, hd3, trivial, fun od => ?_⟩
      refine ⟨_, rfl, d, od, _, rfl, upd_same, fun D hD => ?_⟩
      have nd : D ≠ d := fun z => by rw [z, upd_same] at hD; cases hD
      refine lcF yl_vals (fun _ => true) (fun v => .bl (match v with | .int i => decide (absV i < 10 ^ 60) | _ => false)) hD (by rw [List.length_map]; unfold tabK; rw [List.length_map]; have := g.len; omega) (fun H' s => s _ _ upd_same) (fun _ => rfl) (fun v H' _ _ Qb q => q H' (Same.refl H')) (fun v H' hm _ s2 Q2 q => ?_) fun H' s2 hl => ?_
      · obtain ⟨p, hp, rfl⟩ := List.mem_map.mp hm
        obtain ⟨p', hp', rfl⟩ := List.mem_map.mp hp
        exact ⟨_, rfl, _, rfl, .inl ⟨_, rfl, q H' (Same.refl H')⟩⟩
      · refine ⟨s2 _ _ upd_same, ?_⟩
        have s4 := same_lock hd3 s2
        have e : (List.map (fun v => V.bl (match v with | .int i => decide (absV i < 10 ^ 60) | _ => false)) (List.filter (fun _ => true) (List.map (·.2) (tabK t)))) = (t.map fun p => decide (absV p.2 < 10 ^ 60)).map V.bl := by
          unfold tabK
          rw [List.filter_eq_self.mpr fun _ _ => rfl, List.map_map, List.map_map, List.map_map]
          rfl
        rw [e] at hl
        refine ⟨D, _, rfl, SqL.of ((upd_ne nd).trans hl), _, rfl, ?_⟩
        rw [all_true fun b hb => by obtain ⟨x, hx, rfl⟩ := List.mem_map.mp hb; exact decide_eq_true (g.wh x hx)]
        exact k _ (s3.trans s4)
end
end Kx
set_option maxHeartbeats 4000000
namespace Kx
open PySem PySem.Spec PyProof.Rows L2 Xr
local macro_rules | `(tactic| walk_at "rd") => `(tactic| (repeat (first | apply Exists.intro | (refine And.intro rfl ?_) | (refine And.intro (SqL.of (by assumption)) ?_) | (refine And.intro (Or.inl (SqL.of (by assumption))) ?_) | (refine Or.inl ⟨_, rfl, ?_⟩) | (refine Or.inr ⟨_, rfl, ?_⟩) | (refine And.intro (by assumption) ?_) | (refine And.intro (Or.inl (by assumption)) ?_))))
section
variable {P : Program} {w : World} {K : PySem.W.Frag} {mg : Str → Option Value} {base : Heap}
theorem sc_without_zeros : FnScope ["table", "month"] ["table"] (defScope (top 25)) := ⟨rfl, rfl, rfl, by decide +kernel, rfl, by decide +kernel, by decide +kernel⟩
def spWz : Sp := fun vs H Q _ => ∃ d t, vs = [.ref d] ∧ H d = some (.dK (tabK t)) ∧ (ks t).Nodup ∧ t.length < 64 ∧
  ∀ p m H', Canon m → (∀ k, val m k = val t k) → m.length ≤ t.length → H p = none → Same H H' → H' p = some (.dK (tabK m)) → Q (.ref p) H'
def strOf : V → Str
  | .str x => x
  | _ => ""
theorem ok_without_zeros (T : Txt P K mg) : OkF P w K mg base CX0 1 (He.ga K "without_zeros") ["table"] spWz := by
  obtain ⟨fd, F⟩ := T.F_without_zeros
  refine ⟨fd, F.ok sc_without_zeros (fun vs H Q E h => ?_) (fun cdv A outer s H vs Q E hr h => ?_), F.bindsN fun _ _ _ _ _ _ us hl => match us, hl with | [_], _ => rfl, F.kp⟩
  · obtain ⟨d, t, rfl, _⟩ := h
    rfl
  · obtain ⟨d, t, rfl, hd, nd, hl, k⟩ := h
    have hu := hu_of hr
    refine ⟨_, PSs.nox (pss_one (ps_ret (pe_dc (own := [("month", 1)]) (g := gName 1) rfl sc_without_zeros.nd (pi_list (pe_callB (call_sortedD rfl) (by rfl) T.z_sorted (by decide +kernel) (pa_cons (pv 0) pa_nil))) (blkOk_by (N := ["table", "month"]) (sc := defScope (top 25)) (by decide +kernel)) (fun _ _ _ _ _ => pg_name (i := 1) sc_without_zeros.nd rfl (Or.inl rfl)) (fun _ _ _ _ _ => (pts_one (pt_cmpR op_ne (pe_dget hu (pv 0) (pv 1) (fun _ _ => rfl)) pe_int (nomark _)))) (fun _ _ _ _ _ => (pv 1)) (fun _ _ _ _ _ => (pe_dget hu (pv 0) (pv 1) (fun _ _ => rfl)))))), ?_⟩
    refine ⟨_, rfl, d, _, ks t, rfl, .inl hd, ks_tab t, by unfold ks; rw [List.length_map]; exact hl, fun ys l hp hs nl => ?_⟩
    have s1 : Same H (upd H l (.lst (ys.map V.str))) := same_new nl
    have h1 : upd H l (.lst (ys.map V.str)) l = some (.lst (ys.map V.str)) := upd_same
    generalize upd H l (.lst (ys.map V.str)) = H1 at s1 h1
    have hd1 := s1 _ _ hd
    refine ⟨l, rfl, ⟨_, SqL.of h1⟩, fun D hD => ?_⟩
    have mem : ∀ v, v ∈ ys.map V.str → ∃ x, x ∈ ks t ∧ v = .str x := fun v hv => by
      obtain ⟨x, hx, rfl⟩ := List.mem_map.mp hv
      exact ⟨x, hp.mem_iff.mp hx, rfl⟩
    refine dcF yl_list (fun v => !decide (V.int (val t (strOf v)) = V.int 0)) (fun v => .inr (strOf v)) (fun v => .int (val t (strOf v))) hD (by rw [List.length_map, hp.length_eq]; unfold ks; rw [List.length_map]; omega) ?_ (fun H' s => SqL.of (s _ _ h1)) (fun _ => rfl)
      (fun v H' hm s Qb q => ?_) (fun v H' hm _ s Q2 q => ?_) (fun v H' hm _ s Q2 q => ?_) fun H' s hl2 => ?_
    · rw [List.filter_map, List.map_map]
      have e : ((fun v => (Sum.inr (strOf v) : Key)) ∘ V.str) = fun x => Sum.inr x := rfl
      rw [e]
      have z := (hp.nodup_iff.mpr nd).filter ((fun v => !decide (V.int (val t (strOf v)) = V.int 0)) ∘ V.str)
      exact List.Pairwise.map _ (fun a b hab z => hab (Sum.inr.inj z)) z
    · obtain ⟨x, hx, rfl⟩ := mem v hm
      exact ⟨_, rfl, _, rfl, d, _, rfl, .inl ⟨_, .inr x, .inl (s _ _ hd1), rfl, (valV_in hx).symm⟩, rfl, _, rfl, q H' (Same.refl H')⟩
    · obtain ⟨x, hx, rfl⟩ := mem v hm
      exact ⟨_, rfl, q H' (Same.refl H')⟩
    · obtain ⟨x, hx, rfl⟩ := mem v hm
      exact ⟨_, rfl, _, rfl, d, _, rfl, .inl ⟨_, .inr x, .inl (s _ _ hd1), rfl, (valV_in hx).symm⟩, q H' (Same.refl H')⟩
    · have e : (List.map (fun v => ((Sum.inr (strOf v) : Key), V.int (val t (strOf v)))) (List.filter (fun v => !decide (V.int (val t (strOf v)) = V.int 0)) (ys.map V.str))) = tabK (norm ys t) := by
        unfold tabK norm
        rw [List.filter_map, List.map_map, List.map_map]
        have e2 : ((fun v => !decide (V.int (val t (strOf v)) = V.int 0)) ∘ V.str) = fun k => decide (val t k ≠ 0) := by
          funext k
          show (!decide (V.int (val t k) = V.int 0)) = decide (val t k ≠ 0)
          by_cases h : val t k = 0 <;> simp [h]
        rw [e2]
        rfl
      rw [e] at hl2
      obtain ⟨c, hv⟩ := canon_norm nd hp hs
      exact k D _ H' c hv (norm_length hp) (s1.free hD) (s1.trans s) hl2
theorem sc_added : FnScope ["one", "other", "sign", "months", "month"] ["one", "other", "sign"] (defScope (top 26)) := ⟨rfl, rfl, rfl, by decide +kernel, rfl, by decide +kernel, by decide +kernel⟩
def Bnd3 (i : Int) : Prop := i.natAbs < 2 ^ 900
def spAdded : Sp := fun vs H Q _ => ∃ a b one other sg, vs = [.ref a, .ref b, .int sg] ∧ H a = some (.dK (tabK one)) ∧ H b = some (.dK (tabK other)) ∧ (ks one).Nodup ∧ (ks other).Nodup ∧ one.length + other.length < 64 ∧ Bnd3 sg ∧ (∀ k, Bnd3 (val other k)) ∧
  ∀ p H', H p = none → Same H H' → H' p = some (.dK (tabK (addT one other sg))) → Q (.ref p) H'
theorem ok_added (T : Txt P K mg) : OkF P w K mg base CX0 1 (He.ga K "added") ["one", "other", "sign"] spAdded := by
  obtain ⟨fd, F⟩ := T.F_added
  refine ⟨fd, F.ok sc_added (fun vs H Q E h => ?_) (fun cdv A outer s H vs Q E hr h => ?_), F.bindsN fun _ _ _ _ _ _ us hl => match us, hl with | [_, _, _], _ => rfl, F.kp⟩
  · obtain ⟨a, b, one, other, sg, rfl, _⟩ := h
    rfl
  · obtain ⟨a, b, one, other, sg, rfl, ha, hb, n1, n2, hl, b1, b2, k⟩ := h
    have hu := hu_of hr
    refine ⟨_, PSs.nox (pss_cons (ps_asg (pe_lst (pa_starD rfl (pv 0) (StX.pa_star (pe_lock (pe_lc (own := [("month", 4)]) (g := gName 4) rfl sc_added.nd (pi_keys (pv 1)) (blkOk_by (N := ["one", "other", "sign", "months", "month"]) (sc := defScope (top 26)) (by decide +kernel)) (fun _ _ _ _ _ => pg_name (i := 4) sc_added.nd rfl (Or.inl rfl)) (fun _ _ _ _ _ => (pts_one (pt_cmp (pc_dnotin hu (pv 4) (pv 0)) rfl))) (fun _ _ _ _ _ => (pv 4)))) pa_nil))) (pg_name (i := 3) sc_added.nd rfl (.inl rfl)))
    (pss_one (ps_ret (pe_dc (own := [("month", 4)]) (g := gName 4) (tt := tYes) rfl sc_added.nd (pi_list (pv 3)) (blkOk_by (N := ["one", "other", "sign", "months", "month"]) (sc := defScope (top 26)) (by decide +kernel)) (fun _ _ _ _ _ => pg_name (i := 4) sc_added.nd rfl (Or.inl rfl)) (fun _ _ _ _ _ => pts_nil) (fun _ _ _ _ _ => (pv 4)) (fun _ _ _ _ _ => (pe_op op_add (pe_dget2 hu (pv 0) (pv 4) pe_int ⟨rfl, rfl, rfl, rfl⟩) (pe_op op_mulW (pv 2) (pe_dget2 hu (pv 1) (pv 4) pe_int ⟨rfl, rfl, rfl, rfl⟩)))))))), ?_⟩
    refine ⟨_, rfl, a, _, rfl, .inl ha, b, _, hb, trivial, fun od => ?_⟩
    refine ⟨_, rfl, b, od, rfl, .inl ⟨_, upd_same, fun D hD => ?_⟩⟩
    have nd : D ≠ b := fun z => by rw [z, upd_same] at hD; cases hD
    have rd : ∀ H', Same (upd H b (.frz od (.dK (tabK other)))) H' → Rd H' a (.dK (tabK one)) := fun H' s => by
      by_cases e : a = b
      · subst e
        have : one = other ∨ True := .inr trivial
        have e2 : tabK one = tabK other := by
          have z := ha.symm.trans hb
          simpa using z
        rw [e2]
        exact .inr ⟨od, s _ _ upd_same⟩
      · exact .inl (s _ _ (by rw [upd_ne e]; exact ha))
    refine lcF yl_keys (fun v => !decide (strOf v ∈ ks one)) (fun v => v) hD (by rw [List.length_map]; unfold tabK; rw [List.length_map]; omega) (fun H' s => s _ _ upd_same) (fun _ => rfl) (fun v H' hm s2 Qb q => ?_) (fun v H' hm _ s2 Q2 q => ⟨_, rfl, q H' (Same.refl H')⟩) fun H' s2 hl2 => ?_
    · obtain ⟨p, hp, rfl⟩ := List.mem_map.mp hm
      obtain ⟨p', hp', rfl⟩ := List.mem_map.mp hp
      refine ⟨_, rfl, _, rfl, a, _, rfl, .inl ⟨_, .inr p'.1, rd H' s2, rfl, rfl⟩, _, rfl, ?_⟩
      have e : (!(valV (tabK one) (Sum.inr p'.1)).isSome) = !decide (p'.1 ∈ ks one) := by
        by_cases h : p'.1 ∈ ks one
        · rw [valV_in h, decide_eq_true h]
          rfl
        · rw [valV_out h, decide_eq_false h]
          rfl
      rw [e]
      exact q H' (Same.refl H')
    · refine ⟨s2 _ _ upd_same, ?_⟩
      have s3 := same_lock hb s2
      have e : (List.map (fun v => v) (List.filter (fun v => !decide (strOf v ∈ ks one)) (List.map (fun p => kV p.1) (tabK other)))) = ((ks other).filter fun k => decide (k ∉ ks one)).map V.str := by
        unfold tabK ks
        rw [List.map_id', List.map_map, List.filter_map, List.filter_map, List.map_map]
        have e2 : ((fun v => !decide (strOf v ∈ List.map (fun x => x.fst) one)) ∘ ((fun p => kV p.1) ∘ fun p : Str × Int => ((Sum.inr p.1 : Key), V.int p.2))) = ((fun k => decide (k ∉ List.map (fun x => x.fst) one)) ∘ fun x : Str × Int => x.fst) := by
          funext p
          show (!decide (p.1 ∈ List.map (fun x => x.fst) one)) = decide (p.1 ∉ List.map (fun x => x.fst) one)
          by_cases h : p.1 ∈ List.map (fun x => x.fst) one <;> simp [h]
        rw [e2]
        rfl
      rw [e] at hl2
      have hl3 : upd H' b (.dK (tabK other)) D = some (.lst (((ks other).filter fun k => decide (k ∉ ks one)).map V.str)) := (upd_ne nd).trans hl2
      generalize upd H' b (.dK (tabK other)) = H3 at s3 hl3
      have elen := List.length_filter_le (fun k => decide (k ∉ ks one)) (ks other)
      have l1 : (ks one).length = one.length := by unfold ks; rw [List.length_map]
      have l2 : (ks other).length = other.length := by unfold ks; rw [List.length_map]
      refine ⟨D, _, rfl, .inr (SqL.of hl3), ?_⟩
      dsimp only [tNil]
      rw [keysV_tab, List.append_nil, ← List.map_append]
      refine ⟨by rw [List.length_map, List.length_append, sizeLine_eq]; omega, fun l nl => ?_⟩
      have s4 : Same H3 (upd H3 l (.lst ((ks one ++ (ks other).filter fun k => decide (k ∉ ks one)).map V.str))) := same_new nl
      have h4 : upd H3 l (.lst ((ks one ++ (ks other).filter fun k => decide (k ∉ ks one)).map V.str)) l = _ := upd_same
      generalize upd H3 l (.lst ((ks one ++ (ks other).filter fun k => decide (k ∉ ks one)).map V.str)) = H4 at s4 h4
      have s5 := s3.trans s4
      have ha4 := s5 _ _ ha
      have hb4 := s5 _ _ hb
      refine ⟨_, rfl, l, rfl, ⟨_, SqL.of h4⟩, fun D hD => ?_⟩
      have nd3 := addT_nd (s := sg) n1 n2
      rw [ks_addT] at nd3
      refine dcF yl_list (fun _ => true) (fun v => .inr (strOf v)) (fun v => .int (val one (strOf v) + sg * val other (strOf v))) hD (by rw [List.length_map, List.length_append]; omega) ?_ (fun H' s => SqL.of (s _ _ h4)) (fun _ => rfl)
        (fun v H' hm s Qb q => q H' (Same.refl H')) (fun v H' hm _ s Q2 q => ?_) (fun v H' hm _ s Q2 q => ?_) fun H' s hl5 => ?_
      · rw [List.filter_eq_self.mpr fun _ _ => rfl, List.map_map]
        exact List.Pairwise.map _ (fun a b hab z => hab (Sum.inr.inj z)) nd3
      · obtain ⟨x, hx, rfl⟩ := List.mem_map.mp hm
        exact ⟨_, rfl, q H' (Same.refl H')⟩
      · obtain ⟨x, hx, rfl⟩ := List.mem_map.mp hm
        refine ⟨_, rfl, a, rfl, .inl ⟨_, .inl (s _ _ ha4)⟩, _, rfl, _, .inl ⟨_, .inr x, .inl (s _ _ ha4), rfl, rfl⟩, ?_⟩
        rw [valV_getD]
        refine ⟨_, rfl, _, rfl, b, rfl, .inl ⟨_, .inl (s _ _ hb4)⟩, _, rfl, _, .inl ⟨_, .inr x, .inl (s _ _ hb4), rfl, rfl⟩, ?_⟩
        rw [valV_getD]
        exact ⟨_, _, rfl, rfl, wide_mul b1 (b2 x) (by decide) (by decide) (by decide), _, _, rfl, rfl, q H' (Same.refl H')⟩
      · have e : (List.map (fun v => ((Sum.inr (strOf v) : Key), V.int (val one (strOf v) + sg * val other (strOf v)))) (List.filter (fun _ => true) ((ks one ++ (ks other).filter fun k => decide (k ∉ ks one)).map V.str))) = tabK (addT one other sg) := by
          unfold tabK addT
          rw [List.filter_eq_self.mpr fun _ _ => rfl, List.map_map, List.map_map]
          rfl
        rw [e] at hl5
        exact k D H' (s5.free hD) (s5.trans s) hl5
end
end Kx
set_option maxHeartbeats 4000000
namespace Kx
open PySem PySem.Spec PyProof.Rows L2 Xr
local macro_rules | `(tactic| walk_at "rd") => `(tactic| (repeat (first | apply Exists.intro | (refine And.intro rfl ?_) | (refine And.intro (SqL.of (by assumption)) ?_) | (refine And.intro (Or.inl (SqL.of (by assumption))) ?_) | (refine Or.inl ⟨_, rfl, ?_⟩) | (refine Or.inr ⟨_, rfl, ?_⟩) | (refine And.intro (by assumption) ?_) | (refine And.intro (Or.inl (by assumption)) ?_))))
/-- legs of the class at C, their table -/
structure LegsAt (H : Hp) (C a : Addr) (m : Tab) : Prop where
  at_ : ∃ dx d, H a = some (.ins C dx [("by_month", .ref d)]) ∧ H d = some (.dK (tabK m))
  can : Canon m
  len : m.length < 64
theorem LegsAt.same {H H' : Hp} {C a : Addr} {m : Tab} (l : LegsAt H C a m) (s : Same H H') : LegsAt H' C a m := by
  obtain ⟨dx, d, h1, h2⟩ := l.at_
  exact ⟨⟨dx, d, s _ _ h1, s _ _ h2⟩, l.can, l.len⟩
section
variable {P : Program} {w : World} {K : PySem.W.Frag} {mg : Str → Option Value} {base : Heap}
theorem sc_Legs___init__ : FnScope ["self", "months"] ["self", "months"] (defScope (inClass (top 27) 0)) := ⟨rfl, rfl, rfl, by decide +kernel, rfl, by decide +kernel, by decide +kernel⟩
/-- legs made of nothing -/
def spLI (K : PySem.W.Frag) : Sp := fun vs H Q _ => ∃ x C dx d, vs = [.ref x, .ref d] ∧ H x = some (.ins C dx []) ∧ CL K C ∧ H d = some (.dK (tabK [])) ∧
  ∀ p H1, Same H H1 → H1 p = some (.dK (tabK [])) → H p = none → Q .non (upd H1 x (.ins C dx [("by_month", .ref p)]))
theorem good_nil : GoodT [] := ⟨List.nodup_nil, fun _ h => (List.not_mem_nil h).elim, fun _ h => (List.not_mem_nil h).elim, by decide⟩
theorem canon_nil {m : Tab} (c : Canon m) (h : ∀ k, val m k = val [] k) : m = [] := canon_eq c ⟨List.Pairwise.nil, List.nodup_nil, fun _ h => (List.not_mem_nil h).elim⟩ h
theorem ok_Legs_init (T : Txt P K mg) : FnR P w K mg base CX0 4 (He.ma K (He.ga K "Legs") "__init__") (fun vs H Q E => ∃ v, vs = [v] ∧ ∀ d, H d = Option.none → spLI K [v, V.ref d] (upd H d (.dK [])) Q E) := by
  have G_need_numbers := ok_need_numbers (P := P) (w := w) (base := base) T
  have G_without_zeros := ok_without_zeros (P := P) (w := w) (base := base) T
  obtain ⟨fd, F⟩ := T.F_Legs___init__
  refine fn_kw0 F sc_Legs___init__ StX.cxUp_none (fun _ _ _ _ _ _ _ => rfl) fun cdv A outer s H vs Q E hr h => ?_
  obtain ⟨x, C, dx, d, rfl, hx, c, hd, k⟩ := h
  refine ⟨_, PSs.nox (pss_cons (ps_expr (pe_f G_need_numbers (hr.mono (by decide)) (by rfl) T.g_need_numbers pass0 (pa_cons (pv 1) pa_nil)))
    (pss_one (ps_fld (pv 0) (pe_f G_without_zeros (hr.mono (by decide)) (by rfl) T.g_without_zeros pass0 (pa_cons (pv 1) pa_nil)) rfl))), ?_⟩
  refine ⟨_, rfl, d, [], rfl, hd, good_nil, fun H1 s1 => ?_⟩
  refine ⟨_, rfl, d, [], rfl, s1 _ _ hd, List.nodup_nil, by decide, fun p m H2 cm hv _ np s2 hp => ?_⟩
  rw [canon_nil cm hv] at hp
  exact ⟨_, rfl, x, C, dx, [], rfl, s2 _ _ (s1 _ _ hx), c.pl.cls, c.no, by decide, k p H2 (s1.trans s2) hp (s1.free np)⟩
theorem nsc_T : NdefX.NScope ["self", "table", "__class__"] ["self", "table"] ["__class__"] (defScope (inClass (top 28) 0)) := NdefX.nscope_by (by decide +kernel)
theorem sc_TableLegs___init__nd : (["self", "table", "__class__"] : List Str).Nodup := by decide +kernel
def spTI (K : PySem.W.Frag) : Sp := fun vs H Q _ => ∃ x dx d t, vs = [.ref x, .ref d] ∧ H x = some (.ins (aT K) dx []) ∧ H d = some (.dK (tabK t)) ∧ (ks t).Nodup ∧ t.length < 64 ∧
  ∀ p m H', Canon m → (∀ k, val m k = val t k) → m.length ≤ t.length → But x H H' → H' x = some (.ins (aT K) dx [("by_month", .ref p)]) → H' p = some (.dK (tabK m)) → Q .non H'
theorem ok_TableLegs (T : Txt P K mg) : OkI P w K mg base CX0 5 (He.ma K (aT K) "__init__") ["self", "table"] (spTI K) := by
  have G_without_zeros := ok_without_zeros (P := P) (w := w) (base := base) T
  have GL := ok_Legs_init (P := P) (w := w) (base := base) T
  obtain ⟨fd, cda, cc, S⟩ := T.leg.sup
  obtain ⟨kV, doc, pm, an, ct, oc, od, osl, efd, lk⟩ := S.fn
  refine ⟨fd, fn_sup0 S nsc_T (by decide +kernel) ⟨_, rfl, rfl⟩ (fun env => ⟨_, rfl⟩) GL (fun vs H Q E h => ?_) (fun A outer s H vs Q E hr h => ?_), ?_⟩
  · obtain ⟨x, dx, d, t, rfl, _⟩ := h
    rfl
  · obtain ⟨x, dx, d, t, rfl, hx, hd, nd, hl, k⟩ := h
    refine ⟨x, dx, [], _, _, _, rfl, hx, pass0, PSs.nox (pss_one (ps_fld (pv 0) (pe_f G_without_zeros (hr.mono (by decide)) (by rfl) T.g_without_zeros pass0 (pa_cons (pv 1) pa_nil)) rfl)), ?_⟩
    refine ⟨_, rfl, fun e he => ?_⟩
    have s0 : Same H (upd H e (.dK [])) := same_new he
    refine ⟨x, aT K, dx, e, rfl, s0 _ _ hx, T.leg.cT, upd_same, fun p H1 s1 hp np => ?_⟩
    have hxd : ∀ {y : Addr} {t' : List (Key × V)} {G : Hp} {fs : List (Str × V)}, G y = some (.dK t') → G x = some (.ins (aT K) dx fs) → y ≠ x := fun h1 h2 z => by
      rw [z, h2] at h1
      cases h1
    have hd1 : upd H1 x (.ins (aT K) dx [("by_month", .ref p)]) d = some (.dK (tabK t)) := (upd_ne (hxd hd hx)).trans (s1 _ _ (s0 _ _ hd))
    refine ⟨_, rfl, d, t, rfl, hd1, nd, hl, fun p2 m H2 cm hv hlen np2 s2 hp2 => ?_⟩
    have hx2 := s2 _ _ (upd_same (H := H1) (a := x) (o := .ins (aT K) dx [("by_month", .ref p)]))
    refine ⟨_, rfl, x, aT K, dx, _, rfl, hx2, T.leg.cT.pl.cls, T.leg.cT.no, (show 1 < 1000 by decide), k p2 m _ cm hv hlen (fun b o hb nb => ?_) upd_same ((upd_ne (hxd hp2 hx2)).trans hp2)⟩
    rw [upd_ne nb]
    exact s2 _ _ ((upd_ne nb).trans (s1 _ _ (s0 _ _ hb)))
  · subst efd
    exact .all fun us hl => match us, hl with | [_, _], _ => rfl
end
end Kx
set_option maxHeartbeats 4000000
namespace Kx
open PySem PySem.Spec PyProof.Rows L2 Xr
local macro_rules | `(tactic| walk_at "rd") => `(tactic| (repeat (first | apply Exists.intro | (refine And.intro rfl ?_) | (refine And.intro (SqL.of (by assumption)) ?_) | (refine And.intro (Or.inl (SqL.of (by assumption))) ?_) | (refine Or.inl ⟨_, rfl, ?_⟩) | (refine Or.inr ⟨_, rfl, ?_⟩) | (refine And.intro (by assumption) ?_) | (refine And.intro (Or.inl (by assumption)) ?_))))
section
variable {P : Program} {w : World} {K : PySem.W.Frag} {mg : Str → Option Value} {base : Heap}
theorem mkT_ok {H1 : Hp} {d : Addr} {t : Tab} {Q : VK} {E : XK} (hd : H1 d = some (.dK (tabK t))) (nd : (ks t).Nodup) (hl : t.length < 64)
    (k : ∀ x m H2, Canon m → (∀ k, val m k = val t k) → m.length ≤ t.length → Same H1 H2 → LegsAt H2 (aT K) x m → H1 x = none → Q (.ref x) H2) :
    ∀ x dx, H1 x = none → H1 dx = none → dx ≠ x → spTI K [.ref x, .ref d] (upd (upd H1 dx (.own x)) x (.ins (aT K) dx [])) (fun v H2 => v = .non ∧ Q (.ref x) H2) E := by
  intro x dx nx ndx ne
  have s1 : Same H1 (upd (upd H1 dx (.own x)) x (.ins (aT K) dx [])) := fun b o hb => by
    rw [upd_ne (ne_of_none hb nx), upd_ne (ne_of_none hb ndx)]
    exact hb
  refine ⟨x, dx, d, t, rfl, upd_same, s1 _ _ hd, nd, hl, fun p m H' c hv hlen B hx hp => ⟨rfl, k x m H' c hv hlen (fun b o hb => B b o (s1 _ _ hb) (ne_of_none hb nx)) ⟨⟨dx, p, hx, hp⟩, c, by omega⟩ nx⟩⟩
/-- what a sum promises -/
def spSum (K : PySem.W.Frag) (sg : Int) : Sp := fun vs H Q _ => ∃ a b C C' m m', vs = [.ref a, .ref b] ∧ LegsAt H C a m ∧ CL K C ∧ LegsAt H C' b m' ∧ CL K C' ∧ m.length + m'.length < 64 ∧ (∀ k, Bnd3 (val m' k)) ∧
  ∀ x m2 H', Canon m2 → (∀ k, val m2 k = val m k + sg * val m' k) → m2.length ≤ m.length + m'.length → Same H H' → LegsAt H' (aT K) x m2 → Q (.ref x) H'
theorem sc_Legs___add__ : FnScope ["self", "other"] ["self", "other"] (defScope (inClass (top 27) 8)) := ⟨rfl, rfl, rfl, by decide +kernel, rfl, by decide +kernel, by decide +kernel⟩
theorem ok_Legs___add__ (T : Txt P K mg) : OkF P w K mg base CX0 7 (He.ma K (He.ga K "Legs") "__add__") ["self", "other"] (spSum K 1) := by
  have G_added := ok_added (P := P) (w := w) (base := base) T
  have G_TableLegs := ok_TableLegs (P := P) (w := w) (base := base) T
  obtain ⟨fd, F⟩ := T.F_Legs___add__
  refine ⟨fd, F.ok sc_Legs___add__ (fun vs H Q E h => ?_) (fun cdv A outer s H vs Q E hr h => ?_), F.bindsN fun _ _ _ _ _ _ us hl => match us, hl with | [_, _], _ => rfl, F.kp⟩
  · obtain ⟨a, b, C, C', m, m', rfl, _⟩ := h
    rfl
  · obtain ⟨a, b, C, C', m, m', rfl, l, c, l', c', hl, hb, k⟩ := h
    obtain ⟨dx, d, h1, h2⟩ := l.at_
    obtain ⟨dx', d', h1', h2'⟩ := l'.at_
    refine ⟨_, PSs.nox (pss_one (ps_ret (pe_mkI T.leg.mT G_TableLegs (hr.mono (by decide)) (by rfl) T.g_TableLegs pass0 (pa_cons (pe_f G_added (hr.mono (by decide)) (by rfl) T.g_added pass0 (pa_cons (pe_fld (pv 0) rfl) (pa_cons (pe_fld (pv 1) rfl) (pa_cons pe_int pa_nil)))) pa_nil)))), ?_⟩
    refine ⟨_, rfl, a, C, dx, _, _, rfl, h1, c.pl.cls, c.no, rfl, _, rfl, b, C', dx', _, _, rfl, h1', c'.pl.cls, c'.no, rfl, ?_⟩
    
    refine ⟨d, d', m, m', 1, rfl, h2, h2', l.can.nd, l'.can.nd, hl, by unfold Bnd3; decide, hb, fun p H1 np s1 hp => ?_⟩
    refine mkT_ok hp (addT_nd l.can.nd l'.can.nd) (Nat.lt_of_le_of_lt addT_length hl) fun x m2 H2 cm hv hlen s2 lm _ => ?_
    exact k x m2 H2 cm (fun k => (hv k).trans val_addT) (Nat.le_trans hlen addT_length) (s1.trans s2) lm
theorem sc_Legs___sub__ : FnScope ["self", "other"] ["self", "other"] (defScope (inClass (top 27) 9)) := ⟨rfl, rfl, rfl, by decide +kernel, rfl, by decide +kernel, by decide +kernel⟩
theorem ok_Legs___sub__ (T : Txt P K mg) : OkF P w K mg base CX0 7 (He.ma K (He.ga K "Legs") "__sub__") ["self", "other"] (spSum K (-1)) := by
  have G_added := ok_added (P := P) (w := w) (base := base) T
  have G_TableLegs := ok_TableLegs (P := P) (w := w) (base := base) T
  obtain ⟨fd, F⟩ := T.F_Legs___sub__
  refine ⟨fd, F.ok sc_Legs___sub__ (fun vs H Q E h => ?_) (fun cdv A outer s H vs Q E hr h => ?_), F.bindsN fun _ _ _ _ _ _ us hl => match us, hl with | [_, _], _ => rfl, F.kp⟩
  · obtain ⟨a, b, C, C', m, m', rfl, _⟩ := h
    rfl
  · obtain ⟨a, b, C, C', m, m', rfl, l, c, l', c', hl, hb, k⟩ := h
    obtain ⟨dx, d, h1, h2⟩ := l.at_
    obtain ⟨dx', d', h1', h2'⟩ := l'.at_
    refine ⟨_, PSs.nox (pss_one (ps_ret (pe_mkI T.leg.mT G_TableLegs (hr.mono (by decide)) (by rfl) T.g_TableLegs pass0 (pa_cons (pe_f G_added (hr.mono (by decide)) (by rfl) T.g_added pass0 (pa_cons (pe_fld (pv 0) rfl) (pa_cons (pe_fld (pv 1) rfl) (pa_cons (pe_un un_neg pe_int) pa_nil)))) pa_nil)))), ?_⟩
    refine ⟨_, rfl, a, C, dx, _, _, rfl, h1, c.pl.cls, c.no, rfl, _, rfl, b, C', dx', _, _, rfl, h1', c'.pl.cls, c'.no, rfl, ?_⟩
    refine ⟨_, rfl, ?_⟩
    refine ⟨d, d', m, m', (-1), rfl, h2, h2', l.can.nd, l'.can.nd, hl, by unfold Bnd3; decide, hb, fun p H1 np s1 hp => ?_⟩
    refine mkT_ok hp (addT_nd l.can.nd l'.can.nd) (Nat.lt_of_le_of_lt addT_length hl) fun x m2 H2 cm hv hlen s2 lm _ => ?_
    exact k x m2 H2 cm (fun k => (hv k).trans val_addT) (Nat.le_trans hlen addT_length) (s1.trans s2) lm
def spNegL (K : PySem.W.Frag) : Sp := fun vs H Q _ => ∃ a C m, vs = [.ref a] ∧ LegsAt H C a m ∧ CL K C ∧ (∀ k, Bnd3 (val m k)) ∧
  ∀ x m2 H', Canon m2 → (∀ k, val m2 k = -1 * val m k) → m2.length ≤ m.length → Same H H' → LegsAt H' (aT K) x m2 → Q (.ref x) H'
def spMulL (K : PySem.W.Frag) : Sp := fun vs H Q _ => ∃ a C m n, vs = [.ref a, .int n] ∧ LegsAt H C a m ∧ CL K C ∧ Bnd3 n ∧ (∀ k, Bnd3 (val m k)) ∧
  ∀ x m2 H', Canon m2 → (∀ k, val m2 k = n * val m k) → m2.length ≤ m.length → Same H H' → LegsAt H' (aT K) x m2 → Q (.ref x) H'
theorem sc_Legs___neg__ : FnScope ["self"] ["self"] (defScope (inClass (top 27) 10)) := ⟨rfl, rfl, rfl, by decide +kernel, rfl, by decide +kernel, by decide +kernel⟩
theorem ok_Legs___neg__ (T : Txt P K mg) : OkF P w K mg base CX0 7 (He.ma K (He.ga K "Legs") "__neg__") ["self"] (spNegL K) := by
  have G_added := ok_added (P := P) (w := w) (base := base) T
  have G_TableLegs := ok_TableLegs (P := P) (w := w) (base := base) T
  obtain ⟨fd, F⟩ := T.F_Legs___neg__
  refine ⟨fd, F.ok sc_Legs___neg__ (fun vs H Q E h => ?_) (fun cdv A outer s H vs Q E hr h => ?_), F.bindsN fun _ _ _ _ _ _ us hl => match us, hl with | [_], _ => rfl, F.kp⟩
  · obtain ⟨a, C, m, rfl, _⟩ := h
    rfl
  · obtain ⟨a, C, m, rfl, l, c, hb, k⟩ := h
    obtain ⟨dx, d, h1, h2⟩ := l.at_
    refine ⟨_, PSs.nox (pss_one (ps_ret (pe_mkI T.leg.mT G_TableLegs (hr.mono (by decide)) (by rfl) T.g_TableLegs pass0 (pa_cons (pe_f G_added (hr.mono (by decide)) (by rfl) T.g_added pass0 (pa_cons pe_dnewK (pa_cons (pe_fld (pv 0) rfl) (pa_cons (pe_un un_neg pe_int) pa_nil)))) pa_nil)))), ?_⟩
    refine fun e he => ?_
    have s0 : Same H (upd H e (.dK [])) := same_new he
    refine ⟨_, rfl, a, C, dx, _, _, rfl, s0 _ _ h1, c.pl.cls, c.no, rfl, ?_⟩
    refine ⟨_, rfl, ?_⟩
    refine ⟨e, d, [], m, (-1), rfl, upd_same, s0 _ _ h2, List.nodup_nil, l.can.nd, by have := l.len; simpa using this, by unfold Bnd3; decide, hb, fun p H1 np s1 hp => ?_⟩
    have al : (addT [] m (-1)).length ≤ m.length := by have := addT_length (one := []) (other := m) (s := (-1)); simpa using this
    refine mkT_ok hp (addT_nd List.nodup_nil l.can.nd) (Nat.lt_of_le_of_lt al l.len) fun x m2 H2 cm hv hlen s2 lm _ => ?_
    refine k x m2 H2 cm (fun k => ?_) (Nat.le_trans hlen al) ((s0.trans s1).trans s2) lm
    rw [hv k, val_addT]
    show 0 + _ = _
    rw [Int.zero_add]
theorem sc_Legs___mul__ : FnScope ["self", "number"] ["self", "number"] (defScope (inClass (top 27) 11)) := ⟨rfl, rfl, rfl, by decide +kernel, rfl, by decide +kernel, by decide +kernel⟩
theorem ok_Legs___mul__ (T : Txt P K mg) : OkF P w K mg base CX0 7 (He.ma K (He.ga K "Legs") "__mul__") ["self", "number"] (spMulL K) := by
  have G_added := ok_added (P := P) (w := w) (base := base) T
  have G_TableLegs := ok_TableLegs (P := P) (w := w) (base := base) T
  obtain ⟨fd, F⟩ := T.F_Legs___mul__
  refine ⟨fd, F.ok sc_Legs___mul__ (fun vs H Q E h => ?_) (fun cdv A outer s H vs Q E hr h => ?_), F.bindsN fun _ _ _ _ _ _ us hl => match us, hl with | [_, _], _ => rfl, F.kp⟩
  · obtain ⟨a, C, m, n, rfl, _⟩ := h
    rfl
  · obtain ⟨a, C, m, n, rfl, l, c, hn, hb, k⟩ := h
    obtain ⟨dx, d, h1, h2⟩ := l.at_
    refine ⟨_, PSs.nox (pss_one (ps_ret (pe_mkI T.leg.mT G_TableLegs (hr.mono (by decide)) (by rfl) T.g_TableLegs pass0 (pa_cons (pe_f G_added (hr.mono (by decide)) (by rfl) T.g_added pass0 (pa_cons pe_dnewK (pa_cons (pe_fld (pv 0) rfl) (pa_cons (pv 1) pa_nil)))) pa_nil)))), ?_⟩
    refine fun e he => ?_
    have s0 : Same H (upd H e (.dK [])) := same_new he
    refine ⟨_, rfl, a, C, dx, _, _, rfl, s0 _ _ h1, c.pl.cls, c.no, rfl, ?_⟩
    refine ⟨_, rfl, ?_⟩
    refine ⟨e, d, [], m, n, rfl, upd_same, s0 _ _ h2, List.nodup_nil, l.can.nd, by have := l.len; simpa using this, hn, hb, fun p H1 np s1 hp => ?_⟩
    have al : (addT [] m n).length ≤ m.length := by have := addT_length (one := []) (other := m) (s := n); simpa using this
    refine mkT_ok hp (addT_nd List.nodup_nil l.can.nd) (Nat.lt_of_le_of_lt al l.len) fun x m2 H2 cm hv hlen s2 lm _ => ?_
    refine k x m2 H2 cm (fun k => ?_) (Nat.le_trans hlen al) ((s0.trans s1).trans s2) lm
    rw [hv k, val_addT]
    show 0 + _ = _
    rw [Int.zero_add]
end
end Kx
set_option maxHeartbeats 4000000
namespace Kx
open PySem PySem.Spec PyProof.Rows L2 Xr
local macro_rules | `(tactic| walk_at "rd") => `(tactic| (repeat (first | apply Exists.intro | (refine And.intro rfl ?_) | (refine And.intro (SqL.of (by assumption)) ?_) | (refine And.intro (Or.inl (SqL.of (by assumption))) ?_) | (refine Or.inl ⟨_, rfl, ?_⟩) | (refine Or.inr ⟨_, rfl, ?_⟩) | (refine And.intro (by assumption) ?_) | (refine And.intro (Or.inl (by assumption)) ?_))))
section
variable {P : Program} {w : World} {K : PySem.W.Frag} {mg : Str → Option Value} {base : Heap}
theorem sc_Legs___eq__ : FnScope ["self", "other"] ["self", "other"] (defScope (inClass (top 27) 12)) := ⟨rfl, rfl, rfl, by decide +kernel, rfl, by decide +kernel, by decide +kernel⟩
def spEqL (K : PySem.W.Frag) : Sp := fun vs H Q _ => ∃ a v C m, vs = [.ref a, v] ∧ LegsAt H C a m ∧ CL K C ∧ ((∃ b C' m', v = .ref b ∧ LegsAt H C' b m' ∧ CL K C' ∧ Q (.bl (decide (m = m'))) H) ∨ ∃ t, TyX K H v t ∧ PySem.W.kitOne K t (.ref (aL K)) = some false ∧ Q (.bl false) H)
theorem ok_Legs___eq__ (T : Txt P K mg) : OkF P w K mg base CX0 1 (He.ma K (He.ga K "Legs") "__eq__") ["self", "other"] (spEqL K) := by
  obtain ⟨fd, F⟩ := T.F_Legs___eq__
  refine ⟨fd, F.ok sc_Legs___eq__ (fun vs H Q E h => ?_) (fun cdv A outer s H vs Q E hr h => ?_), F.bindsN fun _ _ _ _ _ _ us hl => match us, hl with | [_, _], _ => rfl, F.kp⟩
  · obtain ⟨a, v, C, m, rfl, _⟩ := h
    rfl
  · obtain ⟨a, v, C, m, rfl, l, c, k⟩ := h
    obtain ⟨dx, d, h1, h2⟩ := l.at_
    refine ⟨_, PSs.nox (pss_one (ps_ret (pe_and (pe_callB (call_isiK K) (by rfl) T.z_isinstance (by decide +kernel) (pa_cons (pv 1) (pa_cons (pe_glob (v := .ref (He.ga K "Legs")) (by rfl) T.g_Legs rfl) pa_nil))) (pe_one (pe_cmpR (op_eqDF hr.units0) (pe_fld (pv 0) rfl) (pe_fld (pv 1) rfl) (nomark _)))))), ?_⟩
    rcases k with ⟨b, C', m', rfl, l', c', k⟩ | ⟨t, ty, e, k⟩
    · obtain ⟨dx', d', h1', h2'⟩ := l'.at_
      refine ⟨_, rfl, _, _, _, _, _, rfl, .own (aL K), c'.pl.ty T.all h1', c'.ki, _, rfl, iteT ?_⟩
      refine ⟨_, rfl, a, C, dx, _, _, rfl, h1, c.pl.cls, c.no, rfl, _, rfl, b, C', dx', _, _, rfl, h1', c'.pl.cls, c'.no, rfl, d, d', _, _, rfl, rfl, h2, h2', flat_tab m, flat_tab m', ?_⟩
      rw [eq_tab l.can l'.can]
      exact k
    · exact ⟨_, rfl, _, _, _, _, _, rfl, .own (aL K), ty, e, _, rfl, k⟩
theorem sc_Legs___len__ : FnScope ["self"] ["self"] (defScope (inClass (top 27) 7)) := ⟨rfl, rfl, rfl, by decide +kernel, rfl, by decide +kernel, by decide +kernel⟩
def spLenL (K : PySem.W.Frag) : Sp := fun vs H Q _ => ∃ a C m, vs = [.ref a] ∧ LegsAt H C a m ∧ CL K C ∧ Q (.int m.length) H
theorem tab_len (m : Tab) : (tabK m).length = m.length := List.length_map _
theorem ok_Legs___len__ (T : Txt P K mg) : OkF P w K mg base CX0 1 (He.ma K (He.ga K "Legs") "__len__") ["self"] (spLenL K) := by
  obtain ⟨fd, F⟩ := T.F_Legs___len__
  refine ⟨fd, F.ok sc_Legs___len__ (fun vs H Q E h => ?_) (fun cdv A outer s H vs Q E hr h => ?_), F.bindsN fun _ _ _ _ _ _ us hl => match us, hl with | [_], _ => rfl, F.kp⟩
  · obtain ⟨a, C, m, rfl, _⟩ := h
    rfl
  · obtain ⟨a, C, m, rfl, l, c, k⟩ := h
    obtain ⟨dx, d, h1, h2⟩ := l.at_
    refine ⟨_, PSs.nox (pss_one (ps_ret (pe_callB call_lenD (by rfl) T.z_len (by decide +kernel) (pa_cons (pe_fld (pv 0) rfl) pa_nil)))), ?_⟩
    refine ⟨_, rfl, a, C, dx, _, _, rfl, h1, c.pl.cls, c.no, rfl, d, _, rfl, h2, ?_⟩
    rw [tab_len]
    exact k
theorem sc_Legs___getitem__ : FnScope ["self", "month"] ["self", "month"] (defScope (inClass (top 27) 5)) := ⟨rfl, rfl, rfl, by decide +kernel, rfl, by decide +kernel, by decide +kernel⟩
def spItemL (K : PySem.W.Frag) : Sp := fun vs H Q _ => ∃ a v C m, vs = [.ref a, v] ∧ LegsAt H C a m ∧ CL K C ∧ ((∃ x, v = .str x ∧ Q (.int (val m x)) H) ∨ ∃ t, TyX K H v t ∧ PySem.W.kitOne K t (.type "str") = some false ∧ Q (.int 0) H)
theorem ok_Legs___getitem__ (T : Txt P K mg) : OkF P w K mg base CX0 1 (He.ma K (He.ga K "Legs") "__getitem__") ["self", "month"] (spItemL K) := by
  obtain ⟨fd, F⟩ := T.F_Legs___getitem__
  refine ⟨fd, F.ok sc_Legs___getitem__ (fun vs H Q E h => ?_) (fun cdv A outer s H vs Q E hr h => ?_), F.bindsN fun _ _ _ _ _ _ us hl => match us, hl with | [_, _], _ => rfl, F.kp⟩
  · obtain ⟨a, v, C, m, rfl, _⟩ := h
    rfl
  · obtain ⟨a, v, C, m, rfl, l, c, k⟩ := h
    obtain ⟨dx, d, h1, h2⟩ := l.at_
    have hu := hu_of hr
    refine ⟨_, PSs.nox (pss_cons (ps_if (PW.pt (pw_and (pt_val (pe_callB (call_isiK K) (by rfl) T.z_isinstance (by decide +kernel) (pa_cons (pv 1) (pa_cons (pe_bltn (v := .ty "str") (by rfl) T.z_str (by decide +kernel) rfl) pa_nil)))) (pw_and1 (pt_cmp (pc_din hu (pv 1) (pe_fld (pv 0) rfl)) rfl))))
      (pss_one (ps_ret (pe_dget hu (pe_fld (pv 0) rfl) (pv 1) (fun _ _ => rfl))))
      pss_nil)
    (pss_one (ps_ret pe_int))), ?_⟩
    rcases k with ⟨x, rfl, k⟩ | ⟨t, ty, e, k⟩
    · refine ⟨_, rfl, _, _, _, _, _, rfl, .ty "str", .base (.str x), kit_ss, _, rfl, iteT ?_⟩
      by_cases hm : x ∈ ks m
      · refine ⟨_, rfl, _, rfl, a, C, dx, _, _, rfl, h1, c.pl.cls, c.no, rfl, d, _, rfl, .inl ⟨_, .inr x, .inl h2, rfl, (valV_in hm).symm⟩, _, rfl, ?_⟩
        refine iteT ⟨_, rfl, a, C, dx, _, _, rfl, h1, c.pl.cls, c.no, rfl, _, rfl, d, _, rfl, .inl ⟨_, .inr x, .inl h2, rfl, (valV_in hm).symm⟩, k⟩
      · refine ⟨_, rfl, _, rfl, a, C, dx, _, _, rfl, h1, c.pl.cls, c.no, rfl, d, _, rfl, .inl ⟨_, .inr x, .inl h2, rfl, (valV_out hm).symm⟩, _, rfl, ?_⟩
        rw [val_out hm] at k
        exact k
    · exact ⟨_, rfl, _, _, _, _, _, rfl, .ty "str", ty, e, _, rfl, k⟩
theorem sc_Legs_months : FnScope ["self"] ["self"] (defScope (inClass (top 27) 4)) := ⟨rfl, rfl, rfl, by decide +kernel, rfl, by decide +kernel, by decide +kernel⟩
def spMonths (K : PySem.W.Frag) : Sp := fun vs H Q _ => ∃ a C m, vs = [.ref a] ∧ LegsAt H C a m ∧ CL K C ∧ ∀ p H', H p = none → Same H H' → H' p = some (.tup ((ks m).map V.str)) → Q (.ref p) H'
theorem ok_Legs_months (T : Txt P K mg) : OkF P w K mg base CX0 1 (He5.wf K (He.ga K "Legs") "property" "months") ["self"] (spMonths K) := by
  obtain ⟨fd, F⟩ := T.F_Legs_months
  refine ⟨fd, F.ok sc_Legs_months (fun vs H Q E h => ?_) (fun cdv A outer s H vs Q E hr h => ?_), F.bindsN fun _ _ _ _ _ _ us hl => match us, hl with | [_], _ => rfl, F.kp⟩
  · obtain ⟨a, C, m, rfl, _⟩ := h
    rfl
  · obtain ⟨a, C, m, rfl, l, c, k⟩ := h
    obtain ⟨dx, d, h1, h2⟩ := l.at_
    refine ⟨_, PSs.nox (pss_one (ps_ret (pe_callTy call_tuple_of (by rfl) T.z_tuple (by decide +kernel) (pa_cons (pe_callTy (call_list_dK rfl) (by rfl) T.z_list (by decide +kernel) (pa_cons (pe_fld (pv 0) rfl) pa_nil)) pa_nil)))), ?_⟩
    refine ⟨_, rfl, a, C, dx, _, _, rfl, h1, c.pl.cls, c.no, rfl, d, _, rfl, h2, fun l nl => ?_⟩
    refine ⟨l, _, rfl, .inl ⟨SqL.of upd_same, fun p np => ?_⟩⟩
    have s1 : Same H (upd H l (.lst ((tabK m).map fun kv => kV kv.1))) := same_new nl
    have e : ((tabK m).map fun kv => kV kv.1) = (ks m).map V.str := keysV_tab m
    refine k p _ (s1.free np) (s1.trans (same_new np)) ?_
    rw [upd_same, e]
theorem sc_Legs_of : FnScope ["cls", "table"] ["cls", "table"] (defScope (inClass (top 27) 1)) := ⟨rfl, rfl, rfl, by decide +kernel, rfl, by decide +kernel, by decide +kernel⟩
def spOf (K : PySem.W.Frag) : Sp := fun vs H Q _ => ∃ c d t, vs = [.ref c, .ref d] ∧ H d = some (.dK (tabK t)) ∧ GoodT t ∧ ∀ x m H', Canon m → (∀ k, val m k = val t k) → m.length ≤ t.length → Same H H' → LegsAt H' (aT K) x m → Q (.ref x) H'
theorem kit_dd : PySem.W.kitOne K (.type "dict") (.type "dict") = some true := kit_ty (by decide +kernel)
theorem ok_Legs_of (T : Txt P K mg) : OkF P w K mg base CX0 7 (He5.wf K (He.ga K "Legs") "classmethod" "of") ["cls", "table"] (spOf K) := by
  have G_need_numbers := ok_need_numbers (P := P) (w := w) (base := base) T
  have G_TableLegs := ok_TableLegs (P := P) (w := w) (base := base) T
  obtain ⟨fd, F⟩ := T.F_Legs_of
  refine ⟨fd, F.ok sc_Legs_of (fun vs H Q E h => ?_) (fun cdv A outer s H vs Q E hr h => ?_), F.bindsN fun _ _ _ _ _ _ us hl => match us, hl with | [_, _], _ => rfl, F.kp⟩
  · obtain ⟨c, d, t, rfl, _⟩ := h
    rfl
  · obtain ⟨c, d, t, rfl, hd, g, k⟩ := h
    refine ⟨_, PSs.nox (pss_cons (ps_if (pt_not (pt_val (pe_callB (call_isiK K) (by rfl) T.z_isinstance (by decide +kernel) (pa_cons (pv 1) (pa_cons (pe_bltn (v := .ty "dict") (by rfl) T.z_dict (by decide +kernel) rfl) pa_nil)))))
      (pss_one ps_never)
      pss_nil)
    (pss_cons (ps_expr (pe_f G_need_numbers (hr.mono (by decide)) (by rfl) T.g_need_numbers pass0 (pa_cons (pv 1) pa_nil)))
    (pss_one (ps_ret (pe_mkI T.leg.mT G_TableLegs (hr.mono (by decide)) (by rfl) T.g_TableLegs pass0 (pa_cons (pv 1) pa_nil)))))), ?_⟩
    refine ⟨_, rfl, _, _, _, _, _, rfl, .ty "dict", .base (.dK hd), kit_dd, _, rfl, ?_⟩
    refine ⟨_, rfl, d, t, rfl, hd, g, fun H1 s1 => ?_⟩
    refine ⟨_, rfl, mkT_ok (s1 _ _ hd) g.nd g.len fun x m H2 cm hv hlen s2 lm _ => k x m H2 cm hv hlen (s1.trans s2) lm⟩
end
end Kx
set_option maxHeartbeats 4000000
namespace Kx
open PySem PySem.Spec PyProof.Rows L2 Xr
local macro_rules | `(tactic| walk_at "rd") => `(tactic| (repeat (first | apply Exists.intro | (refine And.intro rfl ?_) | (refine And.intro (SqL.of (by assumption)) ?_) | (refine And.intro (Or.inl (SqL.of (by assumption))) ?_) | (refine Or.inl ⟨_, rfl, ?_⟩) | (refine Or.inr ⟨_, rfl, ?_⟩) | (refine And.intro (by assumption) ?_) | (refine And.intro (Or.inl (by assumption)) ?_))))
section
variable {P : Program} {w : World} {K : PySem.W.Frag} {mg : Str → Option Value} {base : Heap}
theorem atI_ints {ns : List Int} {i : Int} (h0 : 0 ≤ i) (h1 : i < (ns.length : Int)) : ∃ c : Int, atI (ns.map V.int) i = some (.int c) := by
  have hl : i.toNat < ns.length := by omega
  refine ⟨ns[i.toNat], ?_⟩
  unfold atI ixN
  rw [List.length_map, if_pos h0, if_pos h1]
  show (ns.map V.int)[i.toNat]? = _
  rw [List.getElem?_map, List.getElem?_eq_getElem hl]
  rfl
theorem pw5 {x : Int} (h0 : 0 ≤ x) (h1 : x < 18446744073709551616) : CPow x 5 := ⟨by decide, by decide, by omega⟩
theorem pw3 {x : Int} (h0 : 0 ≤ x) (h1 : x < 18446744073709551616) : CPow x 3 := ⟨by decide, by decide, by omega⟩
theorem mul_lt {a b c d : Int} (h0 : 0 ≤ a) (h1 : a < c) (h2 : 0 ≤ b) (h3 : b ≤ d) : 0 ≤ a * b ∧ a * b ≤ c * d :=
  ⟨Int.mul_nonneg h0 h2, Int.mul_le_mul (Int.le_of_lt h1) h3 h2 (Int.le_trans h0 (Int.le_of_lt h1))⟩
theorem mix_ok {x a : Int} (h : 0 ≤ x ∧ x < 2147483629) (a0 : 0 ≤ a) (a2 : a ≤ 1000000) : (-(2 ^ 64 : Int) < x ∧ x < 2 ^ 64) ∧ 0 ≤ x * (a + 20025) + 50049 * a * a + 23 ∧ x * (a + 20025) + 50049 * a * a + 23 < 18446744073709551616 := by
  have y1 := mul_lt (a := x) (b := a + 20025) (c := 2147483629) (d := 1020025) h.1 h.2 (by omega) (by omega)
  have y2 := mul_lt (a := 50049 * a) (b := a) (c := 50049000001) (d := 1000000) (by omega) (by omega) (by omega) (by omega)
  omega
theorem sc__law_draw : FnScope ["_law_pen_here", "_law_many", "_law_digit", "_law_at", "_law_cell", "_law_great", "_law_mixed"] ["_law_pen_here", "_law_many"] (defScope (top 33)) := ⟨rfl, rfl, rfl, by decide +kernel, rfl, by decide +kernel, by decide +kernel⟩
set_option maxHeartbeats 4000000 in
theorem ok__law_draw (T : Txt P K mg) : OkF P w K mg base CX0 1 (He.ga K "_law_draw") ["_law_pen_here", "_law_many"] spDraw := by
  obtain ⟨fd, F⟩ := T.F__law_draw
  refine ⟨fd, F.ok sc__law_draw (fun vs H Q E h => ?_) (fun cdv A outer s H vs Q E hr h => ?_), F.bindsN fun _ _ _ _ _ _ us hl => match us, hl with | [_, _], _ => rfl, F.kp⟩
  · obtain ⟨p, q, ns, a, r, m, rfl, _⟩ := h
    rfl
  · obtain ⟨p, q, ns, a, r, m, rfl, S, m1, m2, a2, k⟩ := h
    have hu64 := hr.units
    have hp := S.pen
    have hq := S.cells
    have a0 := S.a0
    have r0 := S.r0
    have mp : 0 < m := by omega
    have md : CDiv r m := ⟨mp, by omega⟩
    refine ⟨_, PSs.nox (pss_cons (ps_if (pt_cmpR op_gt (pe_ix (ix_listK K) (pv 0) pe_int (fun _ _ => rfl)) pe_int (nomark _))
      (pss_cons (ps_asg (pe_op op_mod (pe_callTy call_int1 (by rfl) T.z_int (by decide +kernel) (pa_cons (pe_ix (ix_listK K) (pv 0) pe_int (fun _ _ => rfl)) pa_nil)) (pv 1)) (pg_name (i := 2) sc__law_draw.nd rfl (.inl rfl)))
    (pss_cons (ps_asg (pe_op op_fdiv (pe_callTy call_int1 (by rfl) T.z_int (by decide +kernel) (pa_cons (pe_ix (ix_listK K) (pv 0) pe_int (fun _ _ => rfl)) pa_nil)) (pv 1)) (pg_sub (pv 0) pe_int set_list))
    (pss_one (ps_ret (pv 2)))))
      pss_nil)
    (pss_cons (ps_asg (pe_ix (ix_listK K) (pv 0) pe_int (fun _ _ => rfl)) (pg_name (i := 3) sc__law_draw.nd rfl (.inl rfl)))
    (pss_cons (ps_asg (pe_op op_add (pv 3) pe_int) (pg_sub (pv 0) pe_int set_list))
    (pss_cons (ps_asg (pe_op op_add (pe_op op_mul pe_int (pv 3)) pe_int) (pg_name (i := 4) sc__law_draw.nd rfl (.inl rfl)))
    (pss_cut (ps_if (pt_cmpR (op_neD hu64) (pe_ix (ix_listK K) (pv 0) pe_int (fun _ _ => rfl)) (pe_lst pa_nil) (nomark _))
      (pss_one (ps_asg (pe_ix (ix_listK K) (pe_ix (ix_listK K) (pv 0) pe_int (fun _ _ => rfl)) (pe_op op_mod (pe_callTy call_int1 (by rfl) T.z_int (by decide +kernel) (pa_cons (pv 3) pa_nil)) (pe_callB call_len_seq (by rfl) T.z_len (by decide +kernel) (pa_cons (pe_ix (ix_listK K) (pv 0) pe_int (fun _ _ => rfl)) pa_nil))) (fun _ _ => rfl)) (pg_name (i := 4) sc__law_draw.nd rfl (.inl rfl))))
      pss_nil)
    (pss_cut (ps_if (PW.pt (pw_and (pt_cmpR op_lt (pv 3) (pe_callB call_len_seq (by rfl) T.z_len (by decide +kernel) (pa_cons (pe_ix (ix_listK K) (pv 0) pe_int (fun _ _ => rfl)) pa_nil)) (nomark _)) (pw_and1 (pt_cmpR op_ge (pe_callB call_abs (by rfl) T.z_abs (by decide +kernel) (pa_cons (pv 4) pa_nil)) (pe_op op_pow pe_int pe_int) (nomark _)))))
      (pss_cons (ps_asg (pe_op op_add (pe_op op_mul pe_int (pe_callB call_abs (by rfl) T.z_abs (by decide +kernel) (pa_cons (pv 4) pa_nil))) (pe_callTy call_int1 (by rfl) T.z_int (by decide +kernel) (pa_cons (pe_cmpR op_lt (pv 4) pe_int (nomark _)) pa_nil))) (pg_name (i := 5) sc__law_draw.nd rfl (.inl rfl)))
    (pss_cons (ps_asg (pe_op op_fdiv (pe_callTy call_int1 (by rfl) T.z_int (by decide +kernel) (pa_cons (pv 5) pa_nil)) (pv 1)) (pg_sub (pv 0) pe_int set_list))
    (pss_one (ps_ret (pe_op op_mod (pe_callTy call_int1 (by rfl) T.z_int (by decide +kernel) (pa_cons (pv 5) pa_nil)) (pv 1))))))
      pss_nil)
    (pss_cons (ps_asg (pe_op op_mod (pe_callTy call_int1 (by rfl) T.z_int (by decide +kernel) (pa_cons (pe_op op_pow (pe_op op_add (pe_op op_add (pe_op op_mod (pe_callTy call_int1 (by rfl) T.z_int (by decide +kernel) (pa_cons (pv 4) pa_nil)) pe_int) (pe_op op_mul pe_int (pv 3))) pe_int) pe_int) pa_nil)) pe_int) (pg_name (i := 6) sc__law_draw.nd rfl (.inl rfl)))
    (pss_cons (ps_asg (pe_op op_mod (pe_callTy call_int1 (by rfl) T.z_int (by decide +kernel) (pa_cons (pe_op op_pow (pe_op op_add (pe_op op_add (pe_op op_mul (pv 6) (pe_op op_add (pv 3) pe_int)) (pe_op op_mul (pe_op op_mul pe_int (pv 3)) (pv 3))) pe_int) pe_int) pa_nil)) pe_int) (pg_name (i := 6) sc__law_draw.nd rfl (.inl rfl)))
    (pss_one (ps_ret (pe_op op_mod (pe_callTy call_int1 (by rfl) T.z_int (by decide +kernel) (pa_cons (pe_op op_fdiv (pv 6) pe_int) pa_nil)) (pv 1)))))))))))), ?_⟩
    walk_at "rd"
    show (if decide (0 < r) = true then _ else _)
    by_cases hr0 : 0 < r
    · rw [if_pos (decide_eq_true hr0)]
      walk_at "rd"
      refine k (r % m) a (r / m) _ (Int.emod_nonneg _ (by omega)) (Int.emod_lt_of_pos _ mp) (Int.le_refl _) (by omega) (But.refl.upd) (S.keep But.refl.upd upd_same a0 (Int.ediv_nonneg r0 (by omega)))
    · rw [if_neg (by simpa using hr0)]
      walk_at "rd"
      have hp1 : upd H p (.lst [.ref q, .int (a + 1), .int r]) p = some (.lst [.ref q, .int (a + 1), .int r]) := upd_same
      have hq1 : upd H p (.lst [.ref q, .int (a + 1), .int r]) q = some (.lst (ns.map V.int)) := (upd_ne S.ne).trans hq
      refine And.intro (.inl ⟨by decide, by decide⟩) ?_
      walk_at "rd"
      refine CutP.mk (fun σ' H' => ∃ c : Int, σ' = [some (.ref p), some (.int m), none, some (.int a), some (.int c), none, none] ∧ But p H H' ∧ PenAt H' p q ns (a + 1) r) ?_ ?_
      · refine ⟨_, rfl, p, _, _, _, rfl, rfl, SqL.of hp1, rfl, show (0 : Nat) ≤ sizeLine by decide, fun z hz => ?_⟩
        have S2 : PenAt (upd (upd H p (.lst [.ref q, .int (a + 1), .int r])) z (.lst [])) p q ns (a + 1) r :=
          (S.keep But.refl.upd upd_same (by omega) r0).same (same_new hz)
        have B2 : But p H (upd (upd H p (.lst [.ref q, .int (a + 1), .int r])) z (.lst [])) := But.refl.upd.new hz
        have hp2 := S2.pen
        have hq2 := S2.cells
        refine ⟨_, _, Dp.lst (SqL.of hq2) (dp_ints ns), Dp.lst (SqL.of upd_same) .nil, PySem.W.ke_shaped_ints ns, rfl, _, rfl, ?_⟩
        rw [eqv_nil]
        cases hn : ns.isEmpty with
        | true => exact ⟨_, rfl, B2, S2⟩
        | false =>
          have lp : 0 < ns.length := List.length_pos_iff.mpr fun z => by rw [z] at hn; cases hn
          refine iteT ?_
          obtain ⟨c, hc⟩ := atI_ints (ns := ns) (i := a % ((ns.map V.int).length : Int)) (Int.emod_nonneg _ (by rw [List.length_map]; omega)) (by rw [List.length_map]; exact Int.emod_lt_of_pos _ (by omega))
          refine ⟨_, rfl, p, _, _, _, rfl, rfl, SqL.of hp2, rfl, _, rfl, Or.inl ⟨_, rfl, ?_⟩⟩
          refine ⟨_, rfl, p, _, _, _, rfl, rfl, SqL.of hp2, rfl, q, _, rfl, Or.inl (SqL.of hq2), _, _, rfl, rfl, (by rw [List.length_map]; omega), ?_⟩
          exact ⟨q, _, _, _, rfl, rfl, SqL.of hq2, hc, c, rfl, B2, S2⟩
      · rintro σ' H' ⟨c, rfl, B, S2⟩
        have hp2 := S2.pen
        have hq2 := S2.cells
        have b31 : ∀ x k : Int, 0 < k → 0 ≤ x % k ∧ x % k < k := fun x k h => ⟨Int.emod_nonneg _ (by omega), Int.emod_lt_of_pos _ h⟩
        obtain ⟨c0, c1⟩ := b31 c 2147483549 (by decide)
        refine CutP.mk (fun σ' H' => ∃ c : Int, σ' = [some (.ref p), some (.int m), none, some (.int a), some (.int c), none, none] ∧ But p H H' ∧ PenAt H' p q ns (a + 1) r) ?_ ?_
        · walk_at "rd"
          refine iteD (fun _ => ?_) (fun _ => ?_)
          · walk_at "rd"
            refine And.intro ⟨by decide, by decide, by decide⟩ ?_
            walk_at "rd"
            refine iteD (fun _ => ?_) (fun _ => ⟨c, rfl, B, S2⟩)
            walk_at "rd"
            refine And.intro (.inl ⟨by decide, by decide⟩) ?_
            walk_at "rd"
            have g0 : ∀ v : Int, 0 ≤ v → 0 ≤ v / m := fun v h => Int.ediv_nonneg h (by omega)
            refine k _ (a + 1) _ _ (Int.emod_nonneg _ (by omega)) (Int.emod_lt_of_pos _ mp) (by omega) (by omega) B.upd (S.keep B.upd upd_same (by omega) (g0 _ ?_))
            show 0 ≤ 2 * (if c < 0 then -c else c) + (if decide (c < 0) = true then 1 else 0)
            have e1 : (0 : Int) ≤ if c < 0 then -c else c := by split <;> omega
            have e2 : (0 : Int) ≤ if decide (c < 0) = true then 1 else 0 := by split <;> omega
            omega
          · exact ⟨c, rfl, B, S2⟩
        · rintro σ' H' ⟨c, rfl, B, S2⟩
          have b31 : ∀ x k : Int, 0 < k → 0 ≤ x % k ∧ x % k < k := fun x k h => ⟨Int.emod_nonneg _ (by omega), Int.emod_lt_of_pos _ h⟩
          obtain ⟨c0, c1⟩ := b31 c 2147483549 (by decide)
          have fin0 : 0 ≤ c % 2147483549 + 6339 * a + 493 ∧ c % 2147483549 + 6339 * a + 493 < 18446744073709551616 := by omega
          walk_at "rd"
          refine And.intro (show (0 : Int) < 2147483549 by decide) ?_
          walk_at "rd"
          refine And.intro (.inl ⟨by decide, by decide⟩) ?_
          walk_at "rd"
          refine And.intro (pw5 fin0.1 fin0.2) ?_
          walk_at "rd"
          refine And.intro (show (0 : Int) < 2147483629 by decide) ?_
          have fin1 := mix_ok (b31 ((c % 2147483549 + 6339 * a + 493) ^ (5 : Int).toNat) 2147483629 (by decide)) a0 a2
          walk_at "rd"
          refine And.intro (.inl fin1.1) ?_
          walk_at "rd"
          refine And.intro (.inl ⟨by decide, by decide⟩) ?_
          walk_at "rd"
          refine And.intro (.inl ⟨by show -(2 ^ 64 : Int) < 50049 * a; omega, by show 50049 * a < 2 ^ 64; omega⟩) ?_
          walk_at "rd"
          refine And.intro (pw3 fin1.2.1 fin1.2.2) ?_
          walk_at "rd"
          refine And.intro (show (0 : Int) < 2147483587 by decide) ?_
          walk_at "rd"
          refine And.intro ⟨by decide, by decide⟩ ?_
          walk_at "rd"
          exact k _ (a + 1) r _ (Int.emod_nonneg _ (by omega)) (Int.emod_lt_of_pos _ mp) (by omega) (by omega) B S2
theorem atI_at {xs : List V} {d : Int} (h0 : 0 ≤ d) (h1 : d < (xs.length : Int)) : atI xs d = some (xs[d.toNat]'(by omega)) := by
  unfold atI ixN
  rw [if_pos h0, if_pos h1]
  show xs[d.toNat]? = _
  rw [List.getElem?_eq_getElem (by omega)]
theorem sc__law_pen : FnScope ["_law_script"] ["_law_script"] (defScope (top 32)) := ⟨rfl, rfl, rfl, by decide +kernel, rfl, by decide +kernel, by decide +kernel⟩
theorem ok__law_pen (T : Txt P K mg) : OkF P w K mg base CX0 1 (He.ga K "_law_pen") ["_law_script"] (spPen K) := by
  obtain ⟨fd, F⟩ := T.F__law_pen
  refine ⟨fd, F.ok sc__law_pen (fun vs H Q E h => ?_) (fun cdv A outer s H vs Q E hr h => ?_), F.bindsN fun _ _ _ _ _ _ us hl => match us, hl with | [_], _ => rfl, F.kp⟩
  · obtain ⟨a, ns, rfl, _⟩ := h
    rfl
  · obtain ⟨a, ns, rfl, hS, hl, k⟩ := h
    refine ⟨_, PSs.nox (pss_one (ps_ret (pe_lst (pa_cons (pe_callTy call_list_of (by rfl) T.z_list (by decide +kernel) (pa_cons (pe_slice sl_list (pv 0) po_none (po_some pe_int)) pa_nil)) (pa_cons pe_int (pa_cons pe_int pa_nil)))))), ?_⟩
    walk_at "rd"
    intro p1 n1
    obtain ⟨ns', hc, hl'⟩ : ∃ ns' : List Int, cutV (ns.map V.int) none (some 63) = ns'.map V.int ∧ ns'.length ≤ 63 := cut_ints hl
    have h1 : upd H p1 (.lst (cutV (ns.map V.int) none (some 63))) p1 = some (.lst (cutV (ns.map V.int) none (some 63))) := upd_same
    walk_at "rd"
    intro p2 n2
    refine ⟨show 3 ≤ sizeLine by decide, fun p3 n3 => ?_⟩
    have n23 : p2 ≠ p3 := fun z => by rw [← z, upd_same] at n3; cases n3
    have s1 : Same H (upd H p1 (.lst (cutV (ns.map V.int) none (some 63)))) := same_new n1
    refine k p3 p2 ns' _ (s1.free (Same.free (same_new n2) n3)) (fun b o z => ?_) ⟨upd_same, ?_, hl', Int.le_refl _, Int.le_refl _⟩
    · exact same_new n3 _ _ (same_new n2 _ _ (s1 b o z))
    · rw [upd_ne n23, upd_same, hc]
theorem sc__law_pick : FnScope ["_law_pen_here", "_law_some"] ["_law_pen_here", "_law_some"] (defScope (top 34)) := ⟨rfl, rfl, rfl, by decide +kernel, rfl, by decide +kernel, by decide +kernel⟩
def spPick (K : PySem.W.Frag) : Sp := fun vs H Q _ => ∃ (p q l : Addr) (ns : List Int) (a r : Int) (xs : List V), vs = [.ref p, .ref l] ∧ PenAt H p q ns a r ∧ a ≤ 1000000 ∧ H l = some (.lst xs) ∧ l ≠ p ∧ 1 ≤ xs.length ∧ xs.length ≤ 1000 ∧
  ∀ (v : V) (a' r' : Int) (H' : Hp), v ∈ xs → a ≤ a' → a' ≤ a + 1 → But p H H' → PenAt H' p q ns a' r' → Q v H'
theorem ok__law_pick (T : Txt P K mg) : OkF P w K mg base CX0 2 (He.ga K "_law_pick") ["_law_pen_here", "_law_some"] (spPick K) := by
  have G__law_draw := ok__law_draw (P := P) (w := w) (base := base) T
  obtain ⟨fd, F⟩ := T.F__law_pick
  refine ⟨fd, F.ok sc__law_pick (fun vs H Q E h => ?_) (fun cdv A outer s H vs Q E hr h => ?_), F.bindsN fun _ _ _ _ _ _ us hl => match us, hl with | [_, _], _ => rfl, F.kp⟩
  · obtain ⟨p, q, l, ns, a, r, xs, rfl, _⟩ := h
    rfl
  · obtain ⟨p, q, l, ns, a, r, xs, rfl, S, a2, hx, np, l1, l2, k⟩ := h
    refine ⟨_, PSs.nox (pss_one (ps_ret (pe_ix (ix_listK K) (pv 1) (pe_f G__law_draw (hr.mono (by decide)) (by rfl) T.g__law_draw pass0 (pa_cons (pv 0) (pa_cons (pe_callB call_len_seq (by rfl) T.z_len (by decide +kernel) (pa_cons (pv 1) pa_nil)) pa_nil))) (fun _ _ => rfl)))), ?_⟩
    walk_at "rd"
    refine And.intro (by omega) (And.intro (by omega) (And.intro a2 ?_))
    intro d a' r' H' d0 d1 e0 e1 B S'
    have hx' : H' l = some (.lst xs) := B l _ hx np
    have hd : d.toNat < xs.length := by omega
    walk_at "rd"
    refine And.intro (atI_at d0 (by omega)) ?_
    exact k _ a' r' H' (List.getElem_mem hd) e0 e1 B S'
end
end Kx
set_option maxHeartbeats 4000000
namespace Kx
open PySem PySem.Spec PyProof.Rows L2 Xr
local macro_rules | `(tactic| walk_at "rd") => `(tactic| (repeat (first | apply Exists.intro | (refine And.intro rfl ?_) | (refine And.intro (SqL.of (by assumption)) ?_) | (refine And.intro (Or.inl (SqL.of (by assumption))) ?_) | (refine Or.inl ⟨_, rfl, ?_⟩) | (refine Or.inr ⟨_, rfl, ?_⟩) | (refine And.intro (by assumption) ?_) | (refine And.intro (Or.inl (by assumption)) ?_))))
section
variable {P : Program} {w : World} {K : PySem.W.Frag} {mg : Str → Option Value} {base : Heap}
theorem name_eq (x : Str) : nameB x = nameS x := rfl
theorem sc_number_in : FnScope ["word", "digit"] ["word"] (defScope (top 14)) := ⟨rfl, rfl, rfl, by decide +kernel, rfl, by decide +kernel, by decide +kernel⟩
def numV : Option Int → V
  | none => .non
  | some n => .int n
/-- the number that a word writes -/
def spNumIn : Sp := fun vs H Q _ => ∃ x, vs = [.str x] ∧ x.length ≤ 100000 ∧ ∀ H', Same H H' → Q (numV (numIn x)) H'
theorem ok_number_in (T : Txt P K mg) : OkF P w K mg base CX0 1 (He.ga K "number_in") ["word"] spNumIn := by
  obtain ⟨t1, c_MOST_DIGITS⟩ := T.c_MOST_DIGITS
  obtain ⟨t2, c_DIGITS⟩ := T.c_DIGITS
  obtain ⟨fd, F⟩ := T.F_number_in
  refine ⟨fd, F.ok sc_number_in (fun vs H Q E h => ?_) (fun cdv A outer s H vs Q E hr h => ?_), F.bindsN fun _ _ _ _ _ _ us hl => match us, hl with | [_], _ => rfl, F.kp⟩
  · obtain ⟨x, rfl, _⟩ := h
    rfl
  · obtain ⟨x, rfl, hx, k⟩ := h
    refine ⟨_, PSs.nox (pss_cons (ps_if (PW.pt (pw_or (pt_not (pt_chain op_le op_le pe_int (pe_callB call_len (by rfl) T.z_len (by decide +kernel) (pa_cons (pv 0) pa_nil)) (pe_glob (v := .int 60) (by rfl) c_MOST_DIGITS ⟨_, rfl⟩))) (pw_or1 (pt_not (pt_val (pe_callB (cr_all rfl) (by rfl) T.z_all (by decide +kernel) (pa_cons (pe_lc (own := [("digit", 1)]) (g := gName 1) (tt := tYes) rfl sc_number_in.nd (pi_str (pv 0)) (blkOk_by (N := ["word", "digit"]) (sc := defScope (top 14)) (by decide +kernel)) (fun _ _ _ _ _ => pg_name (i := 1) sc_number_in.nd rfl (Or.inl rfl)) (fun _ _ _ _ _ => pts_nil) (fun _ _ _ _ _ => (pe_cmpR op_in_sign (pv 1) (pe_glob (v := .str "0123456789") (by rfl) c_DIGITS ⟨_, rfl⟩) (by rfl)))) pa_nil)))))))
      (pss_one (ps_ret pe_non))
      pss_nil)
    (pss_one (ps_ret (pe_ifExp (PW.pt (pw_or (pt_cmpR op_eq (pv 0) pe_str (nomark _)) (pw_or1 (pt_cmpR op_ne (pe_ix ix_str (pv 0) pe_int (fun _ _ => rfl)) pe_str (nomark _))))) (pe_callTy call_int_str (by rfl) T.z_int (by decide +kernel) (pa_cons (pv 0) pa_nil)) pe_non)))), ?_⟩
    have fin : numIn x = none → ∀ H', Same H H' → Q .non H' := fun e H' s => by have z := k H' s; rw [e] at z; exact z
    refine ⟨_, rfl, _, x.length, rfl, ⟨by rw [sizeLine_eq]; omega, rfl⟩, 1, (x.length : Int), rfl, rfl, _, rfl, ?_⟩
    have lB : ¬ (1 ≤ x.length ∧ x.length ≤ 60) → numIn x = none := fun h => by
      unfold numIn
      rw [if_neg]
      intro z
      obtain ⟨z, _⟩ := Bool.and_eq_true_iff.mp z
      obtain ⟨z1, z2⟩ := Bool.and_eq_true_iff.mp z
      exact h ⟨of_decide_eq_true z1, of_decide_eq_true z2⟩
    refine iteD (fun h1 => ?_) (fun h1 => ⟨false, rfl, fin (lB (by omega)) H (Same.refl H)⟩)
    refine ⟨_, _, rfl, rfl, _, rfl, ?_⟩
    by_cases h2 : (x.length : Int) ≤ 60
    · refine iteFa (by rw [decide_eq_true h2]; rfl) ?_
      refine ⟨_, rfl, x, rfl, fun D hD => ?_⟩
      refine lcF yl_str (fun _ => true) (fun v => .bl (match v with | .str c => decide (c.cps.toList.headD 0 ∈ digS.cps.toList) | _ => false)) hD (by unfold signsV; rw [List.length_map]; exact hx) (fun _ _ => trivial) (fun _ => rfl) (fun v H' _ _ Qb q => q H' (Same.refl H')) (fun v H' hm _ s2 Q2 q => ?_) fun H' s2 hl => ?_
      · obtain ⟨c, _, rfl⟩ := List.mem_map.mp hm
        exact ⟨_, rfl, c, _, rfl, rfl, q H' (Same.refl H')⟩
      · have e : (List.map (fun v => V.bl (match v with | .str c => decide (c.cps.toList.headD 0 ∈ digS.cps.toList) | _ => false)) (List.filter (fun _ => true) (signsV x))) = (x.cps.toList.map fun c => decide (c ∈ digS.cps.toList)).map V.bl := by
          unfold signsV
          rw [List.filter_eq_self.mpr fun _ _ => rfl, List.map_map, List.map_map]
          rfl
        rw [e] at hl
        refine ⟨D, _, rfl, SqL.of hl, _, rfl, ?_⟩
        have e2 : ((x.cps.toList.map fun c => decide (c ∈ digS.cps.toList)).all id) = (x.cps.toList.all fun c => decide (c ∈ digS.cps.toList)) := by
          rw [List.all_map]
          rfl
        rw [e2]
        cases ha : (x.cps.toList.all fun c => decide (c ∈ digS.cps.toList)) with
        | false =>
          refine fin ?_ H' s2
          unfold numIn
          rw [ha, Bool.and_false]
          rfl
        | true =>
          have hl1 : 1 ≤ x.length := by omega
          have hl2 : x.length ≤ 60 := by omega
          have en : numIn x = if x = "0" ∨ x.cps.toList.headD 0 ≠ 48 then some ((NumText.digitsVal x.cps.toList : Nat) : Int) else none := by
            unfold numIn
            rw [ha, decide_eq_true hl1, decide_eq_true hl2]
            rfl
          have hint : PySem.intText? x = some ((NumText.digitsVal x.cps.toList : Nat) : Int) := by
            refine PySem.intText_digits (fun c hc => dig_iff.mp (of_decide_eq_true (List.all_eq_true.mp ha c hc))) (fun z => ?_) (by omega)
            rw [← len_toList, z] at hl1
            simp at hl1
          have hne : ∃ c r, x.cps.toList = c :: r := by
            cases h : x.cps.toList with
            | nil => rw [← len_toList, h] at hl1; simp at hl1
            | cons c r => exact ⟨c, r, rfl⟩
          obtain ⟨c, r, hc⟩ := hne
          have yes : (x = "0" ∨ x.cps.toList.headD 0 ≠ 48) → Q (.int ((NumText.digitsVal x.cps.toList : Nat) : Int)) H' := fun z => by
            have q := k H' s2
            rw [en, if_pos z] at q
            exact q
          have no : ¬ (x = "0" ∨ x.cps.toList.headD 0 ≠ 48) → Q .non H' := fun z => by
            have q := k H' s2
            rw [en, if_neg z] at q
            exact q
          refine ⟨_, rfl, rfl, _, rfl, ?_⟩
          by_cases h0 : x = "0"
          · refine iteTr (by rw [h0]; rfl) ⟨_, rfl, x, _, rfl, hint, by omega, yes (.inl h0)⟩
          · refine iteFa (by simp [h0]) ⟨_, rfl, x, 0, c, rfl, rfl, by rw [sizeLine_eq]; omega, by rw [hc]; unfold atI ixN; rw [if_pos (by decide), if_pos (by simp)]; rfl, rfl, _, rfl, ?_⟩
            have ec : decide (V.str ⟨#[c]⟩ = V.str "0") = decide (c = 48) := by
              have z : (Str.ofString "0") = ⟨#[48]⟩ := by decide +kernel
              by_cases hc2 : c = 48
              · subst hc2
                rw [z]
                simp
              · rw [decide_eq_false hc2, z]
                simp [hc2]
            rw [ec]
            by_cases hc2 : c = 48
            · exact iteFa (by rw [decide_eq_true hc2]; rfl) (no (by rw [hc]; simp [h0, hc2]))
            · exact iteTr (by rw [decide_eq_false hc2]; rfl) ⟨_, rfl, x, _, rfl, hint, by omega, yes (.inr (by rw [hc]; exact hc2))⟩
    · exact iteTr (by rw [decide_eq_false h2]; rfl) (fin (lB (by omega)) H (Same.refl H))
end
end Kx
set_option maxHeartbeats 4000000
namespace Kx
open PySem PySem.Spec PyProof.Rows L2 Xr
local macro_rules | `(tactic| walk_at "rd") => `(tactic| (repeat (first | apply Exists.intro | (refine And.intro rfl ?_) | (refine And.intro (SqL.of (by assumption)) ?_) | (refine And.intro (Or.inl (SqL.of (by assumption))) ?_) | (refine Or.inl ⟨_, rfl, ?_⟩) | (refine Or.inr ⟨_, rfl, ?_⟩) | (refine And.intro (by assumption) ?_) | (refine And.intro (Or.inl (by assumption)) ?_))))
section
variable {P : Program} {w : World} {K : PySem.W.Frag} {mg : Str → Option Value} {base : Heap}
/-- words at l -/
structure Wds (H : Hp) (l : Addr) (ws : List Str) : Prop where
  at_ : H l = some (.lst (ws.map V.str))
  len : ws.length ≤ 100000
  each : ∀ w ∈ ws, w.length ≤ 100000
  ok : ∀ w ∈ ws, PyData.strOk w = true
theorem Wds.same {H H' : Hp} {l : Addr} {ws : List Str} (h : Wds H l ws) (s : Same H H') : Wds H' l ws := ⟨s _ _ h.at_, h.len, h.each, h.ok⟩
theorem atI_word {ws : List Str} {a : Nat} {x : Str} (h : wordAt ws a = .ok x) : atI (ws.map V.str) (a : Int) = some (.str x) ∧ a < ws.length ∧ x ∈ ws := by
  unfold wordAt at h
  cases e : ws[a]? with
  | none => rw [e] at h; cases h
  | some y =>
    rw [e] at h
    cases h
    have hl : a < ws.length := by
      rcases Nat.lt_or_ge a ws.length with z | z
      · exact z
      · rw [List.getElem?_eq_none z] at e
        cases e
    refine ⟨?_, hl, List.mem_of_getElem? e⟩
    unfold atI ixN
    rw [List.length_map, if_pos (by omega), if_pos (by omega)]
    show (ws.map V.str)[(a : Int).toNat]? = _
    rw [Int.toNat_natCast, List.getElem?_map, e]
    rfl
/-- a text's fault: line and word -/
def FltX (K : PySem.W.Frag) (ln : V) (e : Nat) (H : Hp) (E : XK) : Prop := ∀ d H', Same H H' → H d = none → H' d = some (.xd [("line", ln), ("word", .int (e : Int))]) → E (.ref (He.ga K "InvalidText")) (some d) H'
theorem FltX.same {ln : V} {e : Nat} {H H1 : Hp} {E : XK} (f : FltX K ln e H E) (s : Same H H1) : FltX K ln e H1 E := fun d H' s' n h => f d H' (s.trans s') (s.free n) h
theorem FltX.new {ln : V} {e : Nat} {H : Hp} {E : XK} (f : FltX K ln e H E) : ∀ d, H d = none → E (.ref (He.ga K "InvalidText")) (some d) (upd H d (.xd [("line", ln), ("word", .int (e : Int))])) := fun d n => f d _ (same_new n) n upd_same
theorem sc_word_at : FnScope ["words", "line", "at"] ["words", "line", "at"] (defScope (top 19)) := ⟨rfl, rfl, rfl, by decide +kernel, rfl, by decide +kernel, by decide +kernel⟩
def spWordX (K : PySem.W.Frag) : Sp := fun vs H Q E => ∃ l ln a ws, vs = [.ref l, ln, .int ((a : Nat) : Int)] ∧ Wds H l ws ∧ (∀ x, wordAt ws a = .ok x → Q (.str x) H) ∧ ∀ e, wordAt ws a = .error e → FltX K ln e H E
theorem ok_word_at (T : Txt P K mg) : OkF P w K mg base (L2.CX P w) 2 (He.ga K "word_at") ["words", "line", "at"] (spWordX K) := by
  obtain ⟨fI, fdI, ErC_InvalidText, ErB_InvalidText⟩ := T.e_InvalidText.made
  obtain ⟨fd, F⟩ := T.F_word_at
  refine ⟨fd, F.ok sc_word_at (fun vs H Q E h => ?_) (fun cdv A outer s H vs Q E hr h => ?_), F.bindsN fun _ _ _ _ _ _ us hl => match us, hl with | [_, _, _], _ => rfl, F.kp⟩
  · obtain ⟨l, ln, a, ws, rfl, _⟩ := h
    rfl
  · obtain ⟨l, ln, a, ws, rfl, hw, k, kx⟩ := h
    refine ⟨_, (pss_cons (ps_if (pt_cmpR op_ge (pv 2) (pe_callB call_len_seq (by rfl) T.z_len (by decide +kernel) (pa_cons (pv 0) pa_nil)) (nomark _))
      (pss_one (ps_raise rfl (takes_of rfl rfl rfl rfl) (pmk_err ErC_InvalidText ErB_InvalidText (by decide) (hr.mono (by decide)) (by rfl) T.g_InvalidText (pa_cons (pv 1) (pa_cons (pe_callB call_len_seq (by rfl) T.z_len (by decide +kernel) (pa_cons (pv 0) pa_nil)) pa_nil)))))
      pss_nil)
    (pss_one (ps_ret (pe_ix (ix_listK K) (pv 0) (pv 2) (fun _ _ => rfl))))), ?_⟩
    refine ⟨_, rfl, _, rfl, l, _, rfl, .inl (SqL.of hw.at_), _, _, rfl, rfl, _, rfl, ?_⟩
    rw [List.length_map]
    cases hx : wordAt ws a with
    | ok x =>
      obtain ⟨h1, h2, _⟩ := atI_word hx
      exact iteFa (by simp; omega) ⟨_, rfl, _, rfl, l, _, _, _, rfl, rfl, SqL.of hw.at_, h1, k x hx⟩
    | error e =>
      have he : e = ws.length ∧ ws.length ≤ a := by
        unfold wordAt at hx
        cases z : ws[a]? with
        | some y => rw [z] at hx; cases hx
        | none =>
          rw [z] at hx
          cases hx
          exact ⟨rfl, List.getElem?_eq_none_iff.mp z⟩
      obtain ⟨rfl, hle⟩ := he
      refine iteTr (by simp; omega) ⟨_, rfl, _, rfl, l, _, rfl, .inl (SqL.of hw.at_), rfl, fun d nd => ?_⟩
      rw [List.length_map]
      exact (kx _ hx).new d nd
theorem sc_sign_at : FnScope ["words", "line", "at", "is_first", "word"] ["words", "line", "at", "is_first"] (defScope (top 20)) := ⟨rfl, rfl, rfl, by decide +kernel, rfl, by decide +kernel, by decide +kernel⟩
def spSignX (K : PySem.W.Frag) : Sp := fun vs H Q E => ∃ l ln a ws f, vs = [.ref l, ln, .int ((a : Nat) : Int), .bl f] ∧ Wds H l ws ∧ (∀ s b, signAt ws a f = .ok (s, b) → ∀ p H', Same H H' → H' p = some (.tup [.int s, .int ((b : Nat) : Int)]) → Q (.ref p) H') ∧ ∀ e, signAt ws a f = .error e → FltX K ln e H E
theorem ok_sign_at (T : Txt P K mg) : OkF P w K mg base (L2.CX P w) 3 (He.ga K "sign_at") ["words", "line", "at", "is_first"] (spSignX K) := by
  obtain ⟨fI, fdI, ErC_InvalidText, ErB_InvalidText⟩ := T.e_InvalidText.made
  have G_word_at := ok_word_at (P := P) (w := w) (base := base) T
  obtain ⟨fd, F⟩ := T.F_sign_at
  refine ⟨fd, F.ok sc_sign_at (fun vs H Q E h => ?_) (fun cdv A outer s H vs Q E hr h => ?_), F.bindsN fun _ _ _ _ _ _ us hl => match us, hl with | [_, _, _, _], _ => rfl, F.kp⟩
  · obtain ⟨l, ln, a, ws, f, rfl, _⟩ := h
    rfl
  · obtain ⟨l, ln, a, ws, f, rfl, hw, k, kx⟩ := h
    refine ⟨_, (pss_cons (ps_asg (pe_f G_word_at (hr.mono (by decide)) (by rfl) T.g_word_at (passes_call (takes_of rfl rfl rfl rfl) (fun _ _ _ _ h => h)) (pa_cons (pv 0) (pa_cons (pv 1) (pa_cons (pv 2) pa_nil)))) (pg_name (i := 4) sc_sign_at.nd rfl (.inl rfl)))
    (pss_cons (ps_if (pt_cmpR op_eq (pv 4) pe_str (nomark _))
      (pss_one (ps_ret (pe_tup (pa_cons (pe_un un_neg pe_int) (pa_cons (pe_op op_add (pv 2) pe_int) pa_nil)))))
      pss_nil)
    (pss_cons (ps_if (pt_val (pv 3))
      (pss_one (ps_ret (pe_tup (pa_cons pe_int (pa_cons (pv 2) pa_nil)))))
      pss_nil)
    (pss_cons (ps_if (pt_cmpR op_ne (pv 4) pe_str (nomark _))
      (pss_one (ps_raise rfl (takes_of rfl rfl rfl rfl) (pmk_err ErC_InvalidText ErB_InvalidText (by decide) (hr.mono (by decide)) (by rfl) T.g_InvalidText (pa_cons (pv 1) (pa_cons (pv 2) pa_nil)))))
      pss_nil)
    (pss_one (ps_ret (pe_tup (pa_cons pe_int (pa_cons (pe_op op_add (pv 2) pe_int) pa_nil))))))))), ?_⟩
    unfold signAt at k kx
    refine ⟨_, rfl, _, rfl, _, rfl, l, ln, a, ws, rfl, hw, fun x hx => ?_, fun e he => kx e (by rw [he])⟩
    rw [hx] at k kx
    dsimp only at k kx
    refine ⟨_, rfl, rfl, _, rfl, ?_⟩
    by_cases h1 : x = "-"
    · rw [if_pos h1] at k
      refine iteTr (by rw [h1]; simp) ⟨_, rfl, _, rfl, _, _, rfl, rfl, show 2 ≤ sizeLine by decide, fun p np => ?_⟩
      exact k _ _ rfl p _ (same_new np) upd_same
    · rw [if_neg h1] at k kx
      refine iteFa (by simp [h1]) ⟨_, rfl, f, rfl, ?_⟩
      cases f with
      | true =>
        rw [if_pos rfl] at k
        refine ⟨_, rfl, show 2 ≤ sizeLine by decide, fun p np => ?_⟩
        exact k _ _ rfl p _ (same_new np) upd_same
      | false =>
        rw [if_neg (by simp)] at k kx
        refine ⟨_, rfl, rfl, _, rfl, ?_⟩
        by_cases h2 : x = "+"
        · rw [if_pos h2] at k
          refine iteFa (by rw [h2]; simp) ⟨_, rfl, _, _, rfl, rfl, show 2 ≤ sizeLine by decide, fun p np => ?_⟩
          exact k _ _ rfl p _ (same_new np) upd_same
        · rw [if_neg h2] at kx
          exact iteTr (by simp [h2]) ⟨_, rfl, _, rfl, rfl, (kx _ rfl).new⟩
theorem sc_size_at : FnScope ["words", "line", "at", "number"] ["words", "line", "at"] (defScope (top 21)) := ⟨rfl, rfl, rfl, by decide +kernel, rfl, by decide +kernel, by decide +kernel⟩
def spSizeX (K : PySem.W.Frag) : Sp := fun vs H Q E => ∃ l ln a ws, vs = [.ref l, ln, .int ((a : Nat) : Int)] ∧ Wds H l ws ∧ (∀ n b, sizeAt ws a = .ok (n, b) → ∀ p H', Same H H' → H' p = some (.tup [.int n, .int ((b : Nat) : Int)]) → Q (.ref p) H') ∧ ∀ e, sizeAt ws a = .error e → FltX K ln e H E
theorem ok_size_at (T : Txt P K mg) : OkF P w K mg base (L2.CX P w) 3 (He.ga K "size_at") ["words", "line", "at"] (spSizeX K) := by
  obtain ⟨fI, fdI, ErC_InvalidText, ErB_InvalidText⟩ := T.e_InvalidText.made
  have G_word_at := ok_word_at (P := P) (w := w) (base := base) T
  have G_number_in := ok_number_in (P := P) (w := w) (base := base) T
  obtain ⟨fd, F⟩ := T.F_size_at
  refine ⟨fd, F.ok sc_size_at (fun vs H Q E h => ?_) (fun cdv A outer s H vs Q E hr h => ?_), F.bindsN fun _ _ _ _ _ _ us hl => match us, hl with | [_, _, _], _ => rfl, F.kp⟩
  · obtain ⟨l, ln, a, ws, rfl, _⟩ := h
    rfl
  · obtain ⟨l, ln, a, ws, rfl, hw, k, kx⟩ := h
    refine ⟨_, (pss_cons (ps_asg (pe_f G_number_in (hr.mono (by decide)) (by rfl) T.g_number_in pass0 (pa_cons (pe_f G_word_at (hr.mono (by decide)) (by rfl) T.g_word_at (passes_call (takes_of rfl rfl rfl rfl) (fun _ _ _ _ h => h)) (pa_cons (pv 0) (pa_cons (pv 1) (pa_cons (pv 2) pa_nil)))) pa_nil)) (pg_name (i := 3) sc_size_at.nd rfl (.inl rfl)))
    (pss_cons (ps_if (pt_cmpR op_isN (pv 3) pe_non (nomark _))
      (pss_one (ps_ret (pe_tup (pa_cons pe_int (pa_cons (pv 2) pa_nil)))))
      pss_nil)
    (pss_cons (ps_if (pt_cmpR op_lt (pv 3) pe_int (nomark _))
      (pss_one (ps_raise rfl (takes_of rfl rfl rfl rfl) (pmk_err ErC_InvalidText ErB_InvalidText (by decide) (hr.mono (by decide)) (by rfl) T.g_InvalidText (pa_cons (pv 1) (pa_cons (pv 2) pa_nil)))))
      pss_nil)
    (pss_one (ps_ret (pe_tup (pa_cons (pv 3) (pa_cons (pe_op op_add (pv 2) pe_int) pa_nil)))))))), ?_⟩
    unfold sizeAt at k kx
    refine ⟨_, rfl, _, rfl, _, rfl, l, ln, a, ws, rfl, hw, fun x hx => ?_, fun e he => kx e (by rw [he])⟩
    rw [hx] at k kx
    dsimp only at k kx
    refine ⟨x, rfl, hw.each x (atI_word hx).2.2, fun H1 s1 => ?_⟩
    cases hn : numIn x with
    | none =>
      rw [hn] at k
      refine ⟨_, rfl, rfl, _, rfl, ⟨_, rfl, show 2 ≤ sizeLine by decide, fun p np => ?_⟩⟩
      exact k _ _ rfl p _ (s1.trans (same_new np)) upd_same
    | some m =>
      rw [hn] at k kx
      dsimp only at k kx
      refine ⟨_, rfl, rfl, _, rfl, iteFa (by simp [numV]) ⟨_, rfl, _, _, rfl, rfl, _, rfl, ?_⟩⟩
      by_cases h2 : m < 2
      · rw [if_pos h2] at kx
        exact iteTr (by simp [h2]) ⟨_, rfl, _, rfl, rfl, ((kx _ rfl).same s1).new⟩
      · rw [if_neg h2] at k
        refine iteFa (by simp [h2]) ⟨_, rfl, _, rfl, _, _, rfl, rfl, show 2 ≤ sizeLine by decide, fun p np => ?_⟩
        exact k _ _ rfl p _ (s1.trans (same_new np)) upd_same
end
end Kx
set_option maxHeartbeats 4000000
namespace Kx
open PySem PySem.Spec PyProof.Rows L2 Xr
local macro_rules | `(tactic| walk_at "rd") => `(tactic| (repeat (first | apply Exists.intro | (refine And.intro rfl ?_) | (refine And.intro (SqL.of (by assumption)) ?_) | (refine And.intro (Or.inl (SqL.of (by assumption))) ?_) | (refine Or.inl ⟨_, rfl, ?_⟩) | (refine Or.inr ⟨_, rfl, ?_⟩) | (refine And.intro (by assumption) ?_) | (refine And.intro (Or.inl (by assumption)) ?_))))
section
variable {P : Program} {w : World} {K : PySem.W.Frag} {mg : Str → Option Value} {base : Heap}
theorem ite_both {b : Bool} {X A B : Prop} (h1 : b = true → X → A) (h2 : b = false → X → B) (hX : X) : if b = true then A else B := by
  cases b with
  | true => exact h1 rfl hX
  | false => exact h2 rfl hX
theorem dp_strsB {H : Hp} : ∀ l : List Str, DpAll K H (l.map V.str) (l.map PyData.str)
  | [] => .nil
  | n :: l => .cons (.str n) (dp_strsB l)
theorem lay_strsB : ∀ l : List Str, (∀ x ∈ l, PyData.strOk x = true) → PyData.canLayAll0 (l.map PyData.str) = true
  | [], _ => rfl
  | x :: r, h => by simp [PyData.canLayAll0, PyData.canLay0, lay_strsB r fun y hy => h y (List.mem_cons_of_mem _ hy), h x (List.mem_cons_self ..)]
theorem depth_strsB : ∀ l : List Str, PyData.depthAll (l.map PyData.str) = 0
  | [] => rfl
  | _ :: r => by simp [PyData.depthAll, PyData.depth, depth_strsB r]
theorem shaped_strsB (l : List Str) (h : ∀ x ∈ l, PyData.strOk x = true) : SeqAt.shaped (.list (l.map PyData.str)) = true := by
  simp [SeqAt.shaped, PyData.canLay0, PyData.depth, lay_strsB l h, depth_strsB]
theorem eqv_nilB : ∀ l : List Str, PyData.eqv (.list (l.map PyData.str)) (.list []) = l.isEmpty
  | [] => rfl
  | n :: l => rfl
theorem eqv_one (l : List Str) (y : Str) : PyData.eqv (.list (l.map PyData.str)) (.list [.str y]) = decide (l = [y]) := by
  match l with
  | [] => rfl
  | [x] =>
    show ((x == y) && true) = decide ([x] = [y])
    by_cases h : x = y <;> simp [h]
  | x :: z :: r =>
    show ((x == y) && false) = _
    simp
theorem cut1 {ws : List Str} {a : Nat} : cutV (ws.map V.str) (some (a : Int)) (some ((a : Int) + 1)) = (ws[a]?.toList).map V.str := by
  unfold cutV
  rw [List.length_map]
  rcases Nat.lt_or_ge a ws.length with h | h
  · have e1 : HT.sIx ws.length 0 (some (a : Int)) = a := by
      unfold HT.sIx
      simp
      rw [if_neg (by omega)]
      omega
    have e2 : HT.sIx ws.length ws.length (some ((a : Int) + 1)) = a + 1 := by
      unfold HT.sIx
      simp
      rw [if_neg (by omega)]
      omega
    rw [e1, e2, ← List.map_drop, ← List.map_take, List.getElem?_eq_getElem h]
    have e3 : a + 1 - a = 1 := by omega
    rw [e3, List.drop_eq_getElem_cons h]
    rfl
  · have e1 : HT.sIx ws.length 0 (some (a : Int)) = ws.length := by
      unfold HT.sIx
      simp
      rw [if_neg (by omega)]
      omega
    rw [e1, ← List.map_drop, List.drop_length, List.getElem?_eq_none h]
    simp
theorem eq_nilD {t : Tab} : ((tabK t).length == ([] : List (Key × V)).length && subK (tabK t) []) = t.isEmpty := by
  cases t with
  | nil => rfl
  | cons p r => rfl
theorem same_newer {H H1 : Hp} {d : Addr} {o : HO} (s : Same H H1) (h : H d = none) : Same H (upd H1 d o) := fun b x hb => by
  rw [upd_ne (ne_of_none hb h)]
  exact s b x hb
theorem putT_new {t : Tab} {k : Str} {v : Int} (h : k ∉ ks t) : Xr.putT t k v = t ++ [(k, v)] := if_neg h
theorem sc_terms_in : FnScope ["words", "line", "at", "found", "sign", "size", "month"] ["words", "line", "at"] (defScope (top 22)) := ⟨rfl, rfl, rfl, by decide +kernel, rfl, by decide +kernel, by decide +kernel⟩
theorem termAt_inv {ws : List Str} {a : Nat} {acc t : Tab} {b : Nat} (h : termAt ws a acc = .ok (t, b)) : ∃ s a1 n a2 m, signAt ws a acc.isEmpty = .ok (s, a1) ∧ sizeAt ws a1 = .ok (n, a2) ∧ wordAt ws a2 = .ok m ∧ nameS m = true ∧ m ∉ ks acc ∧ t = acc ++ [(m, s * n)] ∧ b = a2 + 1 := by
  unfold termAt at h
  cases h1 : signAt ws a acc.isEmpty with
  | error e => rw [h1] at h; cases h
  | ok p =>
    obtain ⟨s, a1⟩ := p
    rw [h1] at h
    dsimp only at h
    cases h2 : sizeAt ws a1 with
    | error e => rw [h2] at h; cases h
    | ok p =>
      obtain ⟨n, a2⟩ := p
      rw [h2] at h
      dsimp only at h
      cases h3 : wordAt ws a2 with
      | error e => rw [h3] at h; cases h
      | ok m =>
        rw [h3] at h
        dsimp only at h
        by_cases h4 : nameS m = true ∧ m ∉ ks acc
        · rw [if_pos h4] at h
          cases h
          exact ⟨s, a1, n, a2, m, rfl, h2, h3, h4.1, h4.2, rfl, rfl⟩
        · rw [if_neg h4] at h
          cases h
def spTermsX (K : PySem.W.Frag) : Sp := fun vs H Q E => ∃ l ln a ws, vs = [.ref l, ln, .int ((a : Nat) : Int)] ∧ Wds H l ws ∧ (∀ t, termsIn ws a = .ok t → ∀ d H', Same H H' → H d = none → H' d = some (.dK (tabK t)) → Q (.ref d) H') ∧ ∀ e, termsIn ws a = .error e → FltX K ln e H E
theorem termAt_err {ws : List Str} {a : Nat} {acc : Tab} {r : Except Nat (Tab × Nat)} (h : termAt ws a acc = r) : (∃ e, signAt ws a acc.isEmpty = .error e ∧ r = .error e) ∨ ∃ s a1, signAt ws a acc.isEmpty = .ok (s, a1) ∧ ((∃ e, sizeAt ws a1 = .error e ∧ r = .error e) ∨ ∃ n a2, sizeAt ws a1 = .ok (n, a2) ∧
    ((∃ e, wordAt ws a2 = .error e ∧ r = .error e) ∨ ∃ m, wordAt ws a2 = .ok m ∧ ((nameS m = true ∧ m ∉ ks acc ∧ r = .ok (acc ++ [(m, s * n)], a2 + 1)) ∨ (¬ (nameS m = true ∧ m ∉ ks acc) ∧ r = .error a2)))) := by
  subst h
  unfold termAt
  cases h1 : signAt ws a acc.isEmpty with
  | error e => exact .inl ⟨e, rfl, rfl⟩
  | ok p =>
    obtain ⟨s, a1⟩ := p
    refine .inr ⟨s, a1, rfl, ?_⟩
    dsimp only
    cases h2 : sizeAt ws a1 with
    | error e => exact .inl ⟨e, rfl, rfl⟩
    | ok p =>
      obtain ⟨n, a2⟩ := p
      refine .inr ⟨n, a2, rfl, ?_⟩
      dsimp only
      cases h3 : wordAt ws a2 with
      | error e => exact .inl ⟨e, rfl, rfl⟩
      | ok m =>
        refine .inr ⟨m, rfl, ?_⟩
        dsimp only
        by_cases h4 : nameS m = true ∧ m ∉ ks acc
        · rw [if_pos h4]
          exact .inl ⟨h4.1, h4.2, rfl⟩
        · rw [if_neg h4]
          exact .inr ⟨h4, rfl⟩
theorem ok_terms_in (T : Txt P K mg) : OkF P w K mg base (L2.CX P w) 4 (He.ga K "terms_in") ["words", "line", "at"] (spTermsX K) := by
  obtain ⟨fI, fdI, ErC_InvalidText, ErB_InvalidText⟩ := T.e_InvalidText.made
  have G_word_at := ok_word_at (P := P) (w := w) (base := base) T
  have G_sign_at := ok_sign_at (P := P) (w := w) (base := base) T
  have G_size_at := ok_size_at (P := P) (w := w) (base := base) T
  have G_is_name := ok_is_name (P := P) (w := w) (base := base) T
  obtain ⟨fd, F⟩ := T.F_terms_in
  refine ⟨fd, F.ok sc_terms_in (fun vs H Q E h => ?_) (fun cdv A outer s H vs Q E hr h => ?_), F.bindsN fun _ _ _ _ _ _ us hl => match us, hl with | [_, _, _], _ => rfl, F.kp⟩
  · obtain ⟨l, ln, a, ws, rfl, _⟩ := h
    rfl
  · obtain ⟨l, ln, a, ws, rfl, hw, k, kx⟩ := h
    have hu := hu_of hr
    have hu64 := hr.units
    refine ⟨_, (pss_cons (ps_if (pt_cmpR (op_eqD hu64) (pe_slice sl_list (pv 0) (po_some (pv 2)) (po_some (pe_op op_add (pv 2) pe_int))) (pe_lst (pa_cons pe_str pa_nil)) (nomark _))
      (pss_cons (ps_if (pt_cmpR op_lt (pe_op op_add (pv 2) pe_int) (pe_callB call_len_seq (by rfl) T.z_len (by decide +kernel) (pa_cons (pv 0) pa_nil)) (nomark _))
      (pss_one (ps_raise rfl (takes_of rfl rfl rfl rfl) (pmk_err ErC_InvalidText ErB_InvalidText (by decide) (hr.mono (by decide)) (by rfl) T.g_InvalidText (pa_cons (pv 1) (pa_cons (pe_op op_add (pv 2) pe_int) pa_nil)))))
      pss_nil)
    (pss_one (ps_ret pe_dnewK)))
      pss_nil)
    (pss_cons (ps_asg pe_dnewK (pg_name (i := 3) sc_terms_in.nd rfl (.inl rfl)))
    (pss_cons (ps_while (passes_of rfl) (PW.pt (pw_or (pt_cmpR (op_eqDF hr.units0) (pv 3) pe_dnewK (nomark _)) (pw_or1 (pt_cmpR op_lt (pv 2) (pe_callB call_len_seq (by rfl) T.z_len (by decide +kernel) (pa_cons (pv 0) pa_nil)) (nomark _)))))
      (pss_cons (ps_asg (pe_f G_sign_at (hr.mono (by decide)) (by rfl) T.g_sign_at (passes_call (takes_of rfl rfl rfl rfl) (fun _ _ _ _ h => h)) (pa_cons (pv 0) (pa_cons (pv 1) (pa_cons (pv 2) (pa_cons (pe_cmpR (op_eqDF hr.units0) (pv 3) pe_dnewK (nomark _)) pa_nil))))) (pg_tup rfl (pgs_cons (pg_name (i := 4) sc_terms_in.nd rfl (.inl rfl)) (pgs_cons (pg_name (i := 2) sc_terms_in.nd rfl (.inl rfl)) pgs_nil))))
    (pss_cons (ps_asg (pe_f G_size_at (hr.mono (by decide)) (by rfl) T.g_size_at (passes_call (takes_of rfl rfl rfl rfl) (fun _ _ _ _ h => h)) (pa_cons (pv 0) (pa_cons (pv 1) (pa_cons (pv 2) pa_nil)))) (pg_tup rfl (pgs_cons (pg_name (i := 5) sc_terms_in.nd rfl (.inl rfl)) (pgs_cons (pg_name (i := 2) sc_terms_in.nd rfl (.inl rfl)) pgs_nil))))
    (pss_cons (ps_asg (pe_f G_word_at (hr.mono (by decide)) (by rfl) T.g_word_at (passes_call (takes_of rfl rfl rfl rfl) (fun _ _ _ _ h => h)) (pa_cons (pv 0) (pa_cons (pv 1) (pa_cons (pv 2) pa_nil)))) (pg_name (i := 6) sc_terms_in.nd rfl (.inl rfl)))
    (pss_cons (ps_if (PW.pt (pw_or (pt_not (pt_val (pe_f G_is_name (hr.mono (by decide)) (by rfl) T.g_is_name pass0 (pa_cons (pv 6) pa_nil)))) (pw_or1 (pt_cmp (pc_din hu (pv 6) (pv 3)) rfl))))
      (pss_one (ps_raise rfl (takes_of rfl rfl rfl rfl) (pmk_err ErC_InvalidText ErB_InvalidText (by decide) (hr.mono (by decide)) (by rfl) T.g_InvalidText (pa_cons (pv 1) (pa_cons (pv 2) pa_nil)))))
      pss_nil)
    (pss_cons (ps_dput hu (pv 3) (pv 6) (pe_op op_mul (pv 4) (pv 5)) rfl)
    (pss_one (ps_aug (i := 2) sc_terms_in.nd rfl (.inl rfl) pe_int ip_add))))))))
    (pss_one (ps_ret (pv 3)))))), ?_⟩
    refine ⟨_, rfl, _, rfl, _, rfl, _, rfl, _, _, rfl, rfl, _, rfl, l, _, rfl, SqL.of hw.at_, fun p1 n1 => ?_⟩
    rw [cut1]
    have s1 : Same H (upd H p1 (.lst ((ws[a]?.toList).map V.str))) := same_new n1
    have h1 : upd H p1 (.lst ((ws[a]?.toList).map V.str)) p1 = _ := upd_same
    generalize upd H p1 (.lst ((ws[a]?.toList).map V.str)) = H1 at s1 h1
    refine ⟨show 1 ≤ sizeLine by decide, fun p2 n2 => ?_⟩
    have s2 : Same H1 (upd H1 p2 (.lst [.str "0"])) := same_new n2
    have hm : ∀ x ∈ ws[a]?.toList, PyData.strOk x = true := fun x hx => by
      cases e : ws[a]? with
      | none => rw [e] at hx; cases hx
      | some y =>
        rw [e] at hx
        rw [List.mem_singleton.mp hx]
        exact hw.ok y (List.mem_of_getElem? e)
    refine ⟨_, _, Dp.lst (SqL.of (s2 _ _ h1)) (dp_strsB _), Dp.lst (SqL.of upd_same) (.cons (.str "0") .nil), shaped_strsB _ hm, by decide +kernel, ?_⟩
    rw [eqv_one]
    have s12 := s1.trans s2
    generalize upd H1 p2 (.lst [.str "0"]) = H2 at s12
    clear s2 h1 n2 s1
    have ez : decide (ws[a]?.toList = [("0" : Str)]) = decide (ws[a]? = some ("0" : Str)) := by
      cases ws[a]? <;> simp
    rw [ez]
    have hw2 := hw.same s12
    unfold termsIn at k kx
    refine ⟨_, rfl, ?_⟩
    by_cases h0 : ws[a]? = some ("0" : Str)
    · rw [if_pos h0] at k kx
      refine iteTr (decide_eq_true h0) ?_
      refine ⟨_, rfl, _, _, rfl, rfl, _, rfl, l, _, rfl, .inl (SqL.of hw2.at_), _, _, rfl, rfl, _, rfl, ?_⟩
      rw [List.length_map]
      by_cases h3 : a + 1 < ws.length
      · rw [if_pos h3] at kx
        exact iteTr (by simp; omega) ⟨_, rfl, _, rfl, _, _, rfl, rfl, rfl, ((kx _ rfl).same s12).new⟩
      · rw [if_neg h3] at k
        refine iteFa (by simp; omega) fun d nd => ?_
        exact k _ rfl d _ (s12.trans (same_new nd)) (s12.free nd) upd_same
    · rw [if_neg h0] at k kx
      refine iteFa (decide_eq_false h0) fun d nd => ?_
      have ndH := s12.free nd
      have s3 := s12.trans (same_new (o := .dK []) nd)
      generalize hR : termsFrom ws (ws.length + 1) a [] = R at k kx
      refine ⟨fun m σ H' => ∃ (a' f : Nat) (acc : Tab) (v4 v5 v6 : Option V), σ = [some (.ref l), some ln, some (.int (a' : Int)), some (.ref d), v4, v5, v6] ∧ m = ws.length + 1 - a' ∧ Same H H' ∧ H' d = some (.dK (tabK acc)) ∧ termsFrom ws f a' acc = R ∧ acc.length ≤ a' ∧ (acc = [] ∨ a' ≤ ws.length) ∧ ws.length + 1 ≤ f + acc.length, ⟨_, a, _, [], none, none, none, rfl, rfl, s3, upd_same, hR, Nat.zero_le _, .inl rfl, Nat.le_refl _⟩, ?_⟩
      rintro m σ H' ⟨a', f, acc, v4, v5, v6, rfl, rfl, s4, hd, hf, ha', ha0, hfu⟩
      refine ⟨_, rfl, fun e1 ne1 => ⟨d, e1, _, _, rfl, rfl, same_new ne1 _ _ hd, upd_same, flat_tab _, fun _ h => (List.not_mem_nil h).elim, ?_⟩⟩
      rw [eq_nilD]
      have s5 := s4.trans (same_new (o := .dK []) ne1)
      have hd5 : upd H' e1 (.dK []) d = _ := same_new ne1 _ _ hd
      generalize upd H' e1 (.dK []) = H5 at s5 hd5
      have hw5 := hw.same s5
      refine ⟨_, rfl, ?_⟩
      by_cases hc : acc.isEmpty = true ∨ a' < ws.length
      · cases f with
        | zero =>
          exfalso
          rcases hc with hc | hc
          · have : acc = [] := List.isEmpty_iff.mp hc
            rw [this] at hfu
            simp at hfu
          · omega
        | succ f =>
          unfold termsFrom at hf
          rw [if_pos hc] at hf
          refine ite_both (fun _ x => iteT x) (fun hb x => ⟨_, rfl, _, rfl, l, _, rfl, .inl (SqL.of hw5.at_), _, _, rfl, rfl, _, rfl, iteTr (by rw [List.length_map]; rw [hb] at hc; simp at hc; simpa using hc) x⟩) ?_
          refine ⟨_, fun _ _ h => h, ?_⟩
          refine ⟨_, rfl, _, rfl, _, rfl, _, rfl, fun e2 ne2 => ⟨d, e2, _, _, rfl, rfl, same_new ne2 _ _ hd5, upd_same, flat_tab _, fun _ h => (List.not_mem_nil h).elim, ?_⟩⟩
          rw [eq_nilD]
          have s6 := s5.trans (same_new (o := .dK []) ne2)
          have hd6 : upd H5 e2 (.dK []) d = _ := same_new ne2 _ _ hd5
          generalize upd H5 e2 (.dK []) = H6 at s6 hd6
          generalize hta : termAt ws a' acc = rt at hf
          refine ⟨l, ln, a', ws, acc.isEmpty, rfl, hw.same s6, fun sg a1 g1 p7 H7 s7 h7 => ?_, fun e he => ?_⟩
          · refine ⟨p7, _, rfl, SqT.of h7, rfl, _, _, rfl, _, _, rfl, rfl, ?_⟩
            refine ⟨_, rfl, _, rfl, _, rfl, l, ln, a1, ws, rfl, (hw.same s6).same s7, fun n a2 g2 p8 H8 s8 h8 => ?_, fun e he => ?_⟩
            · refine ⟨p8, _, rfl, SqT.of h8, rfl, _, _, rfl, _, _, rfl, rfl, ?_⟩
              have s68 := (s6.trans s7).trans s8
              refine ⟨_, rfl, _, rfl, _, rfl, l, ln, a2, ws, rfl, hw.same s68, fun mo g3 => ?_, fun e he => ?_⟩
              · refine ⟨_, rfl, _, rfl, .inl ⟨mo, rfl, hw.each mo (atI_word g3).2.2, fun H9 s9 => ?_⟩⟩
                have s69 := s68.trans s9
                have hd9 := s9 _ _ (s8 _ _ (s7 _ _ hd6))
                refine ⟨_, rfl, ?_⟩
                rw [name_eq]
                obtain ⟨q1, q2, q3⟩ := signAt_le g1
                obtain ⟨q4, q5, q6⟩ := sizeAt_le g2
                have q7 := (atI_word g3).2.1
                have bad : ¬ (nameS mo = true ∧ mo ∉ ks acc) → FltX K ln a2 H9 E := fun hn => by
                  have er : rt = .error a2 := by
                    rcases termAt_err hta with ⟨e, z, _⟩ | ⟨s', b1, z, ⟨e, z2, _⟩ | ⟨n', b2, z2, ⟨e, z3, _⟩ | ⟨m', z3, ⟨y1, y2, _⟩ | ⟨_, y⟩⟩⟩⟩
                    · rw [g1] at z; cases z
                    · rw [g1] at z; cases z; rw [g2] at z2; cases z2
                    · rw [g1] at z; cases z; rw [g2] at z2; cases z2; rw [g3] at z3; cases z3
                    · rw [g1] at z; cases z; rw [g2] at z2; cases z2; rw [g3] at z3; cases z3; exact absurd ⟨y1, y2⟩ hn
                    · rw [g1] at z; cases z; rw [g2] at z2; cases z2; exact y
                  rw [er] at hf
                  exact (kx a2 hf.symm).same s69
                cases g4 : nameS mo with
                | false => exact ⟨_, rfl, _, rfl, rfl, (bad (by rw [g4]; simp)).new⟩
                | true =>
                  refine ⟨_, rfl, _, rfl, d, _, rfl, DGet.k (k := Sum.inr mo) hd9, _, rfl, ?_⟩
                  by_cases g5 : mo ∈ ks acc
                  · rw [valV_in g5]
                    exact ⟨_, rfl, _, rfl, rfl, (bad (by simp [g5])).new⟩
                  · rw [valV_out g5]
                    refine ⟨_, rfl, _, rfl, _, _, rfl, rfl, .inl (by rcases q3 with rfl | rfl <;> decide), ?_⟩
                    refine ⟨_, rfl, _, rfl, d, _, rfl, DPut.k (k := Sum.inr mo) hd9 (by unfold tabK; rw [List.length_map, sizeLine_eq]; have := hw.len; omega), ?_⟩
                    rw [put_tab, putT_new g5]
                    refine ⟨_, rfl, _, _, rfl, rfl, ?_⟩
                    have er : rt = .ok (acc ++ [(mo, sg * n)], a2 + 1) := by
                      rcases termAt_err hta with ⟨e, z, _⟩ | ⟨s', b1, z, ⟨e, z2, _⟩ | ⟨n', b2, z2, ⟨e, z3, _⟩ | ⟨m', z3, ⟨_, _, y⟩ | ⟨y1, _⟩⟩⟩⟩
                      · rw [g1] at z; cases z
                      · rw [g1] at z; cases z; rw [g2] at z2; cases z2
                      · rw [g1] at z; cases z; rw [g2] at z2; cases z2; rw [g3] at z3; cases z3
                      · rw [g1] at z; cases z; rw [g2] at z2; cases z2; rw [g3] at z3; cases z3; exact y
                      · rw [g1] at z; cases z; rw [g2] at z2; cases z2; rw [g3] at z3; cases z3; exact absurd ⟨g4, g5⟩ y1
                    rw [er] at hf
                    exact ⟨ws.length + 1 - (a2 + 1), by omega, a2 + 1, f, _, _, _, _, rfl, rfl, same_newer s69 ndH, upd_same, hf, by simp; omega, .inr (by omega), by simp; omega⟩
              · have er : rt = .error e := by
                  rcases termAt_err hta with ⟨e', z, _⟩ | ⟨s', b1, z, ⟨e', z2, _⟩ | ⟨n', b2, z2, ⟨e', z3, y⟩ | ⟨m', z3, _⟩⟩⟩
                  · rw [g1] at z; cases z
                  · rw [g1] at z; cases z; rw [g2] at z2; cases z2
                  · rw [g1] at z; cases z; rw [g2] at z2; cases z2; rw [he] at z3; cases z3; exact y
                  · rw [g1] at z; cases z; rw [g2] at z2; cases z2; rw [he] at z3; cases z3
                rw [er] at hf
                exact (kx e hf.symm).same s68
            · have er : rt = .error e := by
                rcases termAt_err hta with ⟨e', z, _⟩ | ⟨s', b1, z, ⟨e', z2, y⟩ | ⟨n', b2, z2, _⟩⟩
                · rw [g1] at z; cases z
                · rw [g1] at z; cases z; rw [he] at z2; cases z2; exact y
                · rw [g1] at z; cases z; rw [he] at z2; cases z2
              rw [er] at hf
              exact (kx e hf.symm).same (s6.trans s7)
          · have er : rt = .error e := by
              rcases termAt_err hta with ⟨e', z, y⟩ | ⟨s', b1, z, _⟩
              · rw [he] at z; cases z; exact y
              · rw [he] at z; cases z
            rw [er] at hf
            exact (kx e hf.symm).same s6
      · have hb : acc.isEmpty = false := by
          cases h : acc.isEmpty with
          | true => exact absurd (.inl h) hc
          | false => rfl
        have hf2 : R = .ok acc := by
          cases f with
          | zero =>
            exfalso
            rcases ha0 with z | z
            · rw [z] at hb; cases hb
            · omega
          | succ f =>
            unfold termsFrom at hf
            rw [if_neg hc] at hf
            exact hf.symm
        rw [hb]
        refine ⟨_, rfl, _, rfl, l, _, rfl, .inl (SqL.of hw5.at_), _, _, rfl, rfl, _, rfl, iteFa (by rw [List.length_map]; simp; omega) ?_⟩
        exact ⟨_, rfl, k acc hf2 d H5 s5 ndH hd5⟩
end
end Kx
set_option maxHeartbeats 4000000
namespace Kx
open PySem PySem.Spec PyProof.Rows L2 Xr
local macro_rules | `(tactic| walk_at "rd") => `(tactic| (repeat (first | apply Exists.intro | (refine And.intro rfl ?_) | (refine And.intro (SqL.of (by assumption)) ?_) | (refine And.intro (Or.inl (SqL.of (by assumption))) ?_) | (refine Or.inl ⟨_, rfl, ?_⟩) | (refine Or.inr ⟨_, rfl, ?_⟩) | (refine And.intro (by assumption) ?_) | (refine And.intro (Or.inl (by assumption)) ?_))))
section
variable {P : Program} {w : World} {K : PySem.W.Frag} {mg : Str → Option Value} {base : Heap}
/-- a list of pairs at l -/
def PairsAt (H : Hp) (l : Addr) (m : Tab) : Prop := ∃ as : List Addr, H l = some (.lst (as.map V.ref)) ∧ Paired (fun a (p : Str × Int) => H a = some (.tup [.str p.1, .int p.2])) as m
theorem PairsAt.same {H H' : Hp} {l : Addr} {m : Tab} (h : PairsAt H l m) (s : Same H H') : PairsAt H' l m := by
  obtain ⟨as, h1, h2⟩ := h
  exact ⟨as, s _ _ h1, Paired.mapP h2 fun _ _ z => s _ _ z⟩
/-- tables of names and numbers that are written -/
structure GoodW (m : Tab) : Prop where
  g : ∀ p ∈ m, GoodP p
  len : m.length ≤ 1000
theorem take_next {m : Tab} {i : Nat} {p : Str × Int} (h : m[i]? = some p) : m.take (i + 1) = m.take i ++ [p] := by
  rw [List.take_add_one, h]
  rfl
theorem get_pair {as : List Addr} {m : Tab} {F : Addr → (Str × Int) → Prop} (h : Paired F as m) {i : Nat} {x : V} (hx : (as.map V.ref)[i]? = some x) : ∃ a p, x = .ref a ∧ m[i]? = some p ∧ F a p := by
  rw [List.getElem?_map] at hx
  obtain ⟨a, ha, rfl⟩ := Option.map_eq_some_iff.mp hx
  obtain ⟨p, hp, f⟩ := paired_get h ha
  exact ⟨a, p, rfl, hp, f⟩
theorem str_log {n : Int} (h0 : 0 ≤ n) (h : n < 10 ^ 60) : n.natAbs.log2 < 1920 := by
  by_cases z : n.natAbs = 0
  · rw [z]
    decide
  · have e : (10 : Int) ^ 60 = ((10 ^ 60 : Nat) : Int) := by decide
    rw [e] at h
    have h2 : n.natAbs < 2 ^ 200 := Nat.lt_of_lt_of_le (by omega : n.natAbs < 10 ^ 60) (by decide)
    have := (Nat.log2_lt z).mpr h2
    omega
theorem sc_terms_text : FnScope ["terms", "words", "name", "number"] ["terms"] (defScope (top 18)) := ⟨rfl, rfl, rfl, by decide +kernel, rfl, by decide +kernel, by decide +kernel⟩
def spText (K : PySem.W.Frag) : Sp := fun vs H Q _ => ∃ l m, vs = [.ref l] ∧ PairsAt H l m ∧ GoodW m ∧ ∀ H', Same H H' → Q (.str (textT m)) H'
theorem ok_terms_text (T : Txt P K mg) : OkF P w K mg base CX0 1 (He.ga K "terms_text") ["terms"] (spText K) := by
  obtain ⟨fd, F⟩ := T.F_terms_text
  refine ⟨fd, F.ok sc_terms_text (fun vs H Q E h => ?_) (fun cdv A outer s H vs Q E hr h => ?_), F.bindsN fun _ _ _ _ _ _ us hl => match us, hl with | [_], _ => rfl, F.kp⟩
  · obtain ⟨l, m, rfl, _⟩ := h
    rfl
  · obtain ⟨l, m, rfl, hp, gw, k⟩ := h
    have hu64 := hr.units
    refine ⟨_, PSs.nox (pss_cons (ps_asg (pe_lst pa_nil) (pg_name (i := 1) sc_terms_text.nd rfl (.inl rfl)))
    (pss_cons (ps_for PassesOwn.never rfl (pi_list (pv 0)) (pg_tup rfl (pgs_cons (pg_name (i := 2) sc_terms_text.nd rfl (.inl rfl)) (pgs_cons (pg_name (i := 3) sc_terms_text.nd rfl (.inl rfl)) pgs_nil)))
      (pss_cut (ps_if (pt_cmpR op_lt (pv 3) pe_int (nomark _))
      (pss_one (ps_expr (pe_bm PySem.F.plainAttrs_list PySem.F.slot_list_append PySem.F.type_list_append mt_append (pv 1) (pa_cons pe_str pa_nil))))
      (pss_one (ps_if (pt_cmpR (op_neD hu64) (pv 1) (pe_lst pa_nil) (nomark _))
      (pss_one (ps_expr (pe_bm PySem.F.plainAttrs_list PySem.F.slot_list_append PySem.F.type_list_append mt_append (pv 1) (pa_cons pe_str pa_nil))))
      pss_nil)))
    (pss_cut (ps_if (pt_cmpR op_ne (pe_callB call_abs (by rfl) T.z_abs (by decide +kernel) (pa_cons (pv 3) pa_nil)) pe_int (nomark _))
      (pss_one (ps_expr (pe_bm PySem.F.plainAttrs_list PySem.F.slot_list_append PySem.F.type_list_append mt_append (pv 1) (pa_cons (pe_callTy call_str_int (by rfl) T.z_str (by decide +kernel) (pa_cons (pe_callB call_abs (by rfl) T.z_abs (by decide +kernel) (pa_cons (pv 3) pa_nil)) pa_nil)) pa_nil))))
      pss_nil)
    (pss_one (ps_expr (pe_bm PySem.F.plainAttrs_list PySem.F.slot_list_append PySem.F.type_list_append mt_append (pv 1) (pa_cons (pv 2) pa_nil)))))))
    (pss_one (ps_ret (pe_ifExp (pt_cmpR (op_neD hu64) (pv 1) (pe_lst pa_nil) (nomark _)) (pe_join pe_str (pv 1)) pe_str))))), ?_⟩
    obtain ⟨as, hl, hpr⟩ := hp
    refine ⟨show 0 ≤ sizeLine by decide, fun wl nwl => ?_⟩
    have s1 : Same H (upd H wl (.lst [])) := same_new nwl
    have gt : ∀ i, ∀ p ∈ m.take i, GoodP p := fun i p hp => gw.g p (List.mem_of_mem_take hp)
    have lenB : ∀ i, (wordsT (m.take i)).length ≤ 3000 := fun i => by
      have z := wordsB_le true (m.take i)
      have z2 : (m.take i).length ≤ m.length := by rw [List.length_take]; omega
      have := gw.len
      unfold wordsT
      omega
    have elen : as.length = m.length := Paired.length hpr
    refine ⟨_, rfl, l, rfl, ⟨_, SqL.of (s1 _ _ hl)⟩, ?_⟩
    refine forP (yl_list (xs := as.map V.ref)) (fun i σ' H' => ∃ v2 v3 : Option V, σ' = [some (.ref l), some (.ref wl), v2, v3] ∧ Same H H' ∧ H' wl = some (.lst ((wordsT (m.take i)).map V.str))) ⟨none, none, rfl, s1, upd_same⟩ ?_ ?_ ?_
    · rintro i σ' H' _ ⟨v2, v3, rfl, s, _⟩
      exact SqL.of (s _ _ hl)
    · rintro i x σ' H' hx ⟨v2, v3, rfl, s, hw⟩
      obtain ⟨a, p, rfl, hmi, hap⟩ := get_pair hpr hx
      have gp := gw.g p (List.mem_of_getElem? hmi)
      have gn := gp.ne
      have g0 : 1 ≤ absI p.2 := by unfold absI; split <;> omega
      refine ⟨a, _, rfl, SqT.of (s _ _ hap), rfl, _, _, rfl, _, _, rfl, rfl, ?_⟩
      have lb := lenB i
      refine CutP.mk (fun σ' H' => σ' = [some (.ref l), some (.ref wl), some (.str p.1), some (.int p.2)] ∧ Same H H' ∧ H' wl = some (.lst ((wordsT (m.take i) ++ (if p.2 < 0 then [("-" : Str)] else if (wordsT (m.take i)).isEmpty then [] else [("+" : Str)])).map V.str))) ?_ ?_
      · refine ⟨_, rfl, _, _, rfl, rfl, _, rfl, ?_⟩
        refine iteD (fun h1 => ?_) (fun h1 => ?_)
        · refine ⟨_, rfl, .inl ⟨rfl, _, SqL.of hw⟩, wl, _, _, rfl, rfl, hw, by rw [List.length_map, sizeLine_eq]; omega, rfl, same_newer s nwl, ?_⟩
          rw [if_pos h1, List.map_append]
          exact upd_same
        · refine ⟨_, rfl, show 0 ≤ sizeLine by decide, fun e ne => ?_⟩
          have s2 := s.trans (same_new (o := .lst []) ne)
          have hw2 : upd H' e (.lst []) wl = _ := same_new ne _ _ hw
          refine ⟨_, _, Dp.lst (SqL.of hw2) (dp_strsB _), Dp.lst (SqL.of upd_same) .nil, shaped_strsB _ (words_ok (gt i)), rfl, _, rfl, ?_⟩
          rw [eqv_nilB]
          generalize upd H' e (.lst []) = H2 at s2 hw2
          cases hE : (wordsT (m.take i)).isEmpty with
          | true =>
            refine iteFa rfl ⟨rfl, s2, ?_⟩
            rw [if_neg h1, if_pos rfl, List.append_nil]
            exact hw2
          | false =>
            refine iteTr rfl ⟨_, rfl, .inl ⟨rfl, _, SqL.of hw2⟩, wl, _, _, rfl, rfl, hw2, by rw [List.length_map, sizeLine_eq]; omega, rfl, same_newer s2 nwl, ?_⟩
            rw [if_neg h1, if_neg (by simp), List.map_append]
            exact upd_same
      · rintro σ' H' ⟨rfl, s, hw⟩
        have lb2 : (wordsT (m.take i) ++ (if p.2 < 0 then [("-" : Str)] else if (wordsT (m.take i)).isEmpty then [] else [("+" : Str)])).length ≤ 3001 := by
          rw [List.length_append]
          have : (if p.2 < 0 then [("-" : Str)] else if (wordsT (m.take i)).isEmpty then [] else [("+" : Str)]).length ≤ 1 := by split <;> (try split) <;> simp
          omega
        generalize eW : wordsT (m.take i) ++ (if p.2 < 0 then [("-" : Str)] else if (wordsT (m.take i)).isEmpty then [] else [("+" : Str)]) = W at hw lb2
        refine CutP.mk (fun σ' H' => σ' = [some (.ref l), some (.ref wl), some (.str p.1), some (.int p.2)] ∧ Same H H' ∧ H' wl = some (.lst ((W ++ (if absI p.2 ≠ 1 then [numS (absI p.2)] else [])).map V.str))) ?_ ?_
        · refine ⟨_, rfl, _, rfl, rfl, _, rfl, ?_⟩
          by_cases h1 : absI p.2 = 1
          · refine iteFa (by show (!decide (V.int (absI p.2) = V.int 1)) = false; rw [h1]; rfl) ⟨rfl, s, ?_⟩
            rw [if_neg (by simpa using h1), List.append_nil]
            exact hw
          · refine iteTr (by show (!decide (V.int (absI p.2) = V.int 1)) = true; simp [h1]) ?_
            refine ⟨_, rfl, .inl ⟨rfl, _, SqL.of hw⟩, _, rfl, _, rfl, absI p.2, rfl, str_log (by omega) gp.wh, wl, _, _, rfl, rfl, hw, by rw [List.length_map, sizeLine_eq]; omega, rfl, same_newer s nwl, ?_⟩
            rw [if_pos h1, List.map_append]
            exact upd_same
        · rintro σ' H' ⟨rfl, s, hw⟩
          have lb3 : (W ++ (if absI p.2 ≠ 1 then [numS (absI p.2)] else [])).length ≤ 3002 := by
            rw [List.length_append]
            have : (if absI p.2 ≠ 1 then [numS (absI p.2)] else []).length ≤ 1 := by generalize absI p.2 = z; split <;> simp
            omega
          generalize eW2 : W ++ (if absI p.2 ≠ 1 then [numS (absI p.2)] else []) = W2 at hw lb3
          refine ⟨_, rfl, .inl ⟨rfl, _, SqL.of hw⟩, _, rfl, wl, _, _, rfl, rfl, hw, by rw [List.length_map, sizeLine_eq]; omega, _, _, rfl, same_newer s nwl, ?_⟩
          rw [take_next hmi, wordsT_app]
          unfold termW
          rw [← List.append_assoc, eW, ← List.append_assoc, eW2, List.map_append]
          exact upd_same
    · rintro σ' H' ⟨v2, v3, rfl, s, hw⟩
      have et : m.take (as.map V.ref).length = m := by
        rw [List.length_map, elen]
        exact List.take_length
      rw [et] at hw
      have lb := lenB m.length
      rw [List.take_length] at lb
      refine ⟨_, rfl, show 0 ≤ sizeLine by decide, fun e ne => ?_⟩
      have s2 := s.trans (same_new (o := .lst []) ne)
      have hw2 : upd H' e (.lst []) wl = _ := same_new ne _ _ hw
      refine ⟨_, _, Dp.lst (SqL.of hw2) (dp_strsB _), Dp.lst (SqL.of upd_same) .nil, shaped_strsB _ (words_ok gw.g), rfl, _, rfl, ?_⟩
      rw [eqv_nilB]
      generalize upd H' e (.lst []) = H2 at s2 hw2
      have fin := k H2 s2
      unfold textT at fin
      by_cases hE : wordsT m = []
      · rw [if_neg (by simpa using hE)] at fin
        exact iteFa (by rw [hE]; rfl) fin
      · rw [if_pos hE] at fin
        refine iteTr (by simp [hE]) ⟨⟨_, rfl⟩, _, rfl, _, wl, _, rfl, rfl, .inl (SqL.of hw2), ?_, fin⟩
        have z := sum_le (B := 60) ((wordsT m).map (·.length)) fun x hx => by
          obtain ⟨y, hy, rfl⟩ := List.mem_map.mp hx
          exact (words_free true m gw.g y hy).2
        rw [List.length_map] at z
        have e1 : (Str.ofString " ").length = 1 := rfl
        rw [e1]
        omega
end
end Kx
set_option maxHeartbeats 4000000
namespace Kx
open PySem PySem.Spec PyProof.Rows L2 Xr
local macro_rules | `(tactic| walk_at "rd") => `(tactic| (repeat (first | apply Exists.intro | (refine And.intro rfl ?_) | (refine And.intro (SqL.of (by assumption)) ?_) | (refine And.intro (Or.inl (SqL.of (by assumption))) ?_) | (refine Or.inl ⟨_, rfl, ?_⟩) | (refine Or.inr ⟨_, rfl, ?_⟩) | (refine And.intro (by assumption) ?_) | (refine And.intro (Or.inl (by assumption)) ?_))))
section
variable {P : Program} {w : World} {K : PySem.W.Frag} {mg : Str → Option Value} {base : Heap}
/-- words that a text is split into -/
structure WdL (ws : List Str) : Prop where
  len : ws.length ≤ 100000
  each : ∀ w ∈ ws, w.length ≤ 100000
  ok : ∀ w ∈ ws, PyData.strOk w = true
theorem fold_lt : ∀ (l : List Nat) (a : Nat), NumText.AllDigits l → l.foldl (fun acc c => acc * 10 + (c - 48)) a < (a + 1) * 10 ^ l.length
  | [], a, _ => by simp
  | c :: r, a, h => by
    have hc := h.head
    have z := fold_lt r (a * 10 + (c - 48)) h.tail
    rw [List.foldl_cons, List.length_cons, Nat.pow_succ]
    refine Nat.lt_of_lt_of_le z ?_
    have e : (a + 1) * (10 ^ r.length * 10) = ((a + 1) * 10) * 10 ^ r.length := by rw [Nat.mul_comm (10 ^ r.length) 10, Nat.mul_assoc]
    rw [e]
    exact Nat.mul_le_mul_right _ (by omega)
theorem numIn_lt {x : Str} {n : Int} (h : numIn x = some n) : 0 ≤ n ∧ n < 10 ^ 60 := by
  unfold numIn at h
  split at h
  · rename_i hc
    obtain ⟨h1, h2⟩ := Bool.and_eq_true_iff.mp hc
    obtain ⟨_, h1⟩ := Bool.and_eq_true_iff.mp h1
    have h1 := of_decide_eq_true h1
    split at h
    · cases h
      have ad : NumText.AllDigits x.cps.toList := fun c hc => dig_iff.mp (of_decide_eq_true (List.all_eq_true.mp h2 c hc))
      have z : NumText.digitsVal x.cps.toList < (0 + 1) * 10 ^ x.cps.toList.length := fold_lt _ 0 ad
      rw [len_toList] at z
      have z2 : 10 ^ x.length ≤ 10 ^ 60 := Nat.pow_le_pow_right (by decide) h1
      have e : ((10 : Int) ^ 60) = ((10 ^ 60 : Nat) : Int) := by decide
      rw [e]
      omega
    · cases h
  · cases h
theorem sizeAt_lt {ws : List Str} {a b : Nat} {n : Int} (h : sizeAt ws a = .ok (n, b)) : n < 10 ^ 60 := by
  unfold sizeAt at h
  cases hw : wordAt ws a with
  | error e => rw [hw] at h; cases h
  | ok x =>
    rw [hw] at h
    dsimp only at h
    cases hn : numIn x with
    | none => rw [hn] at h; cases h; decide
    | some m =>
      rw [hn] at h
      dsimp only at h
      split at h
      · cases h
      · cases h
        exact (numIn_lt hn).2
theorem termsFrom_nd : ∀ (ws : List Str) (f a : Nat) (acc t : Tab), (ks acc).Nodup → acc.length ≤ a → (acc = [] ∨ a ≤ ws.length) → termsFrom ws f a acc = .ok t → (ks t).Nodup ∧ t.length ≤ ws.length ∧ (∀ p ∈ t, p ∈ acc ∨ GoodP p)
  | ws, 0, _, _, _, _, _, _, h => by cases h
  | ws, f + 1, a, acc, t, nd, ha, hb, h => by
    unfold termsFrom at h
    by_cases hc : acc.isEmpty = true ∨ a < ws.length
    · rw [if_pos hc] at h
      cases hta : termAt ws a acc with
      | error e => rw [hta] at h; cases h
      | ok q =>
        obtain ⟨acc', at'⟩ := q
        rw [hta] at h
        dsimp only at h
        obtain ⟨s, a1, n, a2, m, g1, g2, g3, g4, g5, rfl, rfl⟩ := termAt_inv hta
        obtain ⟨q1, q2, q3⟩ := signAt_le g1
        obtain ⟨q4, q5, q6⟩ := sizeAt_le g2
        have q8 := sizeAt_lt g2
        have nd' : (ks (acc ++ [(m, s * n)])).Nodup := by
          unfold ks at g5 nd ⊢
          rw [List.map_append, List.nodup_append]
          refine ⟨nd, by simp, fun x hx y hy z => ?_⟩
          simp at hy
          exact g5 (hy ▸ z ▸ hx)
        have q7 := (atI_word g3).2.1
        obtain ⟨r1, r2, r3⟩ := termsFrom_nd ws f (a2 + 1) _ t nd' (by simp; omega) (.inr (by omega)) h
        refine ⟨r1, r2, fun p hp => ?_⟩
        rcases r3 p hp with z | z
        · rcases List.mem_append.mp z with z | z
          · exact .inl z
          · rw [List.mem_singleton.mp z]
            refine .inr ⟨g4, ?_, ?_⟩
            · show s * n ≠ 0
              rcases q3 with rfl | rfl <;> omega
            · show absI (s * n) < 10 ^ 60
              unfold absI
              rcases q3 with rfl | rfl <;> (split <;> omega)
        · exact .inr z
    · rw [if_neg hc] at h
      cases h
      have hne : acc ≠ [] := fun z => hc (.inl (by rw [z]; rfl))
      exact ⟨nd, (by rcases hb with z | z; exact absurd z hne; omega), fun p hp => .inl hp⟩
theorem termsIn_good {ws : List Str} {t : Tab} (h : termsIn ws 0 = .ok t) : (ks t).Nodup ∧ t.length ≤ ws.length ∧ ∀ p ∈ t, GoodP p := by
  unfold termsIn at h
  split at h
  · split at h
    · cases h
    · cases h
      exact ⟨List.nodup_nil, Nat.zero_le _, fun _ h => (List.not_mem_nil h).elim⟩
  · obtain ⟨h1, h2, h3⟩ := termsFrom_nd ws _ 0 [] t List.nodup_nil (Nat.le_refl _) (.inl rfl) h
    exact ⟨h1, h2, fun p hp => (h3 p hp).elim (fun z => (List.not_mem_nil z).elim) id⟩
theorem sc_Legs_read : FnScope ["cls", "text"] ["cls", "text"] (defScope (inClass (top 27) 3)) := ⟨rfl, rfl, rfl, by decide +kernel, rfl, by decide +kernel, by decide +kernel⟩
def spReadX (K : PySem.W.Frag) : Sp := fun vs H Q E => ∃ c v, vs = [c, v] ∧ ((∃ x, v = .str x ∧ x.length ≤ 100000 ∧ WdL (Txt.split x " ") ∧ (Txt.split x " ").length < 64 ∧
      (∀ t, termsIn (Txt.split x " ") 0 = .ok t → ∀ y m H', Canon m → (∀ k, val m k = val t k) → m.length ≤ t.length → Same H H' → LegsAt H' (aT K) y m → Q (.ref y) H') ∧ ∀ e, termsIn (Txt.split x " ") 0 = .error e → FltX K (.int 0) e H E) ∨
    ∃ t, TyX K H v t ∧ PySem.W.kitOne K t (.type "str") = some false ∧ FltX K (.int 0) 0 H E)
theorem fn_Legs_read (T : Txt P K mg) {fd : FuncData} (F : FunD K "read" "Legs.read" (defArgs (inClass (top 27) 3)) (defBody (inClass (top 27) 3)) (defScope (inClass (top 27) 3)) [] [] (He5.wf K (He.ga K "Legs") "classmethod" "read") fd) : FnOk P w K mg base (L2.CX P w) 7 (He5.wf K (He.ga K "Legs") "classmethod" "read") fd ["cls", "text"] (spReadX K) := by
  obtain ⟨fI, fdI, ErC_InvalidText, ErB_InvalidText⟩ := T.e_InvalidText.made
  have G_terms_in := ok_terms_in (P := P) (w := w) (base := base) T
  have G_TableLegs := ok_TableLegs (P := P) (w := w) (base := base) T
  refine F.ok sc_Legs_read (fun vs H Q E h => ?_) (fun cdv A outer s H vs Q E hr h => ?_)
  · obtain ⟨c, v, rfl, _⟩ := h
    rfl
  · obtain ⟨c, v, rfl, k⟩ := h
    refine ⟨_, (pss_cons (ps_if (pt_not (pt_val (pe_callB (call_isiK K) (by rfl) T.z_isinstance (by decide +kernel) (pa_cons (pv 1) (pa_cons (pe_bltn (v := .ty "str") (by rfl) T.z_str (by decide +kernel) rfl) pa_nil)))))
      (pss_one (ps_raise rfl (takes_of rfl rfl rfl rfl) (pmk_err ErC_InvalidText ErB_InvalidText (by decide) (hr.mono (by decide)) (by rfl) T.g_InvalidText (pa_cons pe_int (pa_cons pe_int pa_nil)))))
      pss_nil)
    (pss_one (ps_ret (pe_mkI T.leg.mT G_TableLegs (hr.mono (by decide)) (by rfl) T.g_TableLegs pass0 (pa_cons (pe_f G_terms_in (hr.mono (by decide)) (by rfl) T.g_terms_in (passes_call (takes_of rfl rfl rfl rfl) (fun _ _ _ _ h => h)) (pa_cons (pe_split (pv 1) pe_str) (pa_cons pe_int (pa_cons pe_int pa_nil)))) pa_nil))))), ?_⟩
    rcases k with ⟨x, rfl, hx, hw, hl, k, kx⟩ | ⟨t, ty, e, kx⟩
    · refine ⟨_, rfl, _, _, _, _, _, rfl, .ty "str", .base (.str x), kit_ss, _, rfl, ?_⟩
      refine iteFa rfl ⟨_, rfl, ⟨_, rfl⟩, x, " ", rfl, rfl, rfl, by rw [sizeLine_eq]; omega, fun p np => ?_⟩
      have s1 : Same H (upd H p (.lst ((Txt.split x " ").map V.str))) := same_new np
      refine ⟨p, _, 0, _, rfl, ⟨upd_same, hw.len, hw.each, hw.ok⟩, fun t ht d H2 s2 _ hd => ?_, fun e he => (kx e he).same s1⟩
      obtain ⟨g1, g2, _⟩ := termsIn_good ht
      exact mkT_ok hd g1 (by omega) fun y m H3 cm hv hlen s3 lm _ => k t ht y m H3 cm hv hlen ((s1.trans s2).trans s3) lm
    · refine ⟨_, rfl, _, _, _, _, _, rfl, .ty "str", ty, e, _, rfl, iteTr rfl ⟨rfl, kx.new⟩⟩
theorem ok_Legs_read (T : Txt P K mg) : OkF P w K mg base (L2.CX P w) 7 (He5.wf K (He.ga K "Legs") "classmethod" "read") ["cls", "text"] (spReadX K) := by
  obtain ⟨fd, F⟩ := T.F_Legs_read
  exact ⟨fd, fn_Legs_read T F, F.bindsN fun _ _ _ _ _ _ us hl => match us, hl with | [_, _], _ => rfl, F.kp⟩
theorem okK_Legs_read (T : Txt P K mg) : FnRK P w K mg base (L2.CX P w) 7 (He5.wf K (He.ga K "Legs") "classmethod" "read") 1 ["text"] (spReadX K) := by
  obtain ⟨fd, F⟩ := T.F_Legs_read
  exact fnOk_kw (fn_Legs_read T F) (funD_kb F fun _ _ _ _ _ _ us ws hu hw => match us, ws, hu, hw with | [_], [_], _, _ => rfl)
end
end Kx
set_option maxHeartbeats 4000000
namespace Kx
open PySem PySem.Spec PyProof.Rows L2 Xr
local macro_rules | `(tactic| walk_at "rd") => `(tactic| (repeat (first | apply Exists.intro | (refine And.intro rfl ?_) | (refine And.intro (SqL.of (by assumption)) ?_) | (refine And.intro (Or.inl (SqL.of (by assumption))) ?_) | (refine Or.inl ⟨_, rfl, ?_⟩) | (refine Or.inr ⟨_, rfl, ?_⟩) | (refine And.intro (by assumption) ?_) | (refine And.intro (Or.inl (by assumption)) ?_))))
section
variable {P : Program} {w : World} {K : PySem.W.Frag} {mg : Str → Option Value} {base : Heap}
theorem pair_tab {H : Hp} : ∀ {ts : List Addr} {m : Tab}, Paired (fun (t : Addr) (q : Key × V) => H t = some (.tup [kV q.1, q.2])) ts (tabK m) → Paired (fun a (p : Str × Int) => H a = some (.tup [.str p.1, .int p.2])) ts m
  | [], [], .nil => .nil
  | t :: ts, p :: m, .cons h r => .cons h (pair_tab r)
theorem sc_Legs___str__ : FnScope ["self"] ["self"] (defScope (inClass (top 27) 13)) := ⟨rfl, rfl, rfl, by decide +kernel, rfl, by decide +kernel, by decide +kernel⟩
def spStrL (K : PySem.W.Frag) : Sp := fun vs H Q _ => ∃ a C m, vs = [.ref a] ∧ LegsAt H C a m ∧ CL K C ∧ GoodW m ∧ ∀ H', Same H H' → Q (.str (textT m)) H'
theorem ok_Legs___str__ (T : Txt P K mg) : OkF P w K mg base CX0 2 (He.ma K (He.ga K "Legs") "__str__") ["self"] (spStrL K) := by
  have G_terms_text := ok_terms_text (P := P) (w := w) (base := base) T
  obtain ⟨fd, F⟩ := T.F_Legs___str__
  refine ⟨fd, F.ok sc_Legs___str__ (fun vs H Q E h => ?_) (fun cdv A outer s H vs Q E hr h => ?_), F.bindsN fun _ _ _ _ _ _ us hl => match us, hl with | [_], _ => rfl, F.kp⟩
  · obtain ⟨a, C, m, rfl, _⟩ := h
    rfl
  · obtain ⟨a, C, m, rfl, l, c, g, k⟩ := h
    obtain ⟨dx, d, h1, h2⟩ := l.at_
    refine ⟨_, PSs.nox (pss_one (ps_ret (pe_callTy SkE.call_str_str (by rfl) T.z_str (by decide +kernel) (pa_cons (pe_f G_terms_text (hr.mono (by decide)) (by rfl) T.g_terms_text pass0 (pa_cons (LiI.pe_listItems rfl (pe_fld (pv 0) rfl) (by rfl) T.z_list (by decide +kernel)) pa_nil)) pa_nil)))), ?_⟩
    refine ⟨_, rfl, a, C, dx, _, _, rfl, h1, c.pl.cls, c.no, rfl, d, _, rfl, h2, fun H1 p ts s1 _ _ _ hp hpr => ?_⟩
    refine ⟨p, m, rfl, ⟨ts, hp, pair_tab hpr⟩, g, fun H2 s2 => ?_⟩
    exact ⟨_, rfl, k H2 (Same.trans s1 s2)⟩
theorem sc_Legs_month : FnScope ["cls", "name"] ["cls", "name"] (defScope (inClass (top 27) 2)) := ⟨rfl, rfl, rfl, by decide +kernel, rfl, by decide +kernel, by decide +kernel⟩
def spMonth (K : PySem.W.Frag) : Sp := fun vs H Q _ => ∃ c x, vs = [c, .str x] ∧ nameS x = true ∧ ∀ y m H', Canon m → (∀ k, val m k = val [(x, 1)] k) → m.length ≤ 1 → Same H H' → LegsAt H' (aT K) y m → Q (.ref y) H'
theorem ok_Legs_month (T : Txt P K mg) : OkF P w K mg base CX0 7 (He5.wf K (He.ga K "Legs") "classmethod" "month") ["cls", "name"] (spMonth K) := by
  have G_is_name := ok_is_name (P := P) (w := w) (base := base) T
  have G_TableLegs := ok_TableLegs (P := P) (w := w) (base := base) T
  obtain ⟨fd, F⟩ := T.F_Legs_month
  refine ⟨fd, F.ok sc_Legs_month (fun vs H Q E h => ?_) (fun cdv A outer s H vs Q E hr h => ?_), F.bindsN fun _ _ _ _ _ _ us hl => match us, hl with | [_, _], _ => rfl, F.kp⟩
  · obtain ⟨c, x, rfl, _⟩ := h
    rfl
  · obtain ⟨c, x, rfl, hx, k⟩ := h
    refine ⟨_, PSs.nox (pss_cons (ps_if (pt_not (pt_val (pe_f G_is_name (hr.mono (by decide)) (by rfl) T.g_is_name pass0 (pa_cons (pv 1) pa_nil))))
      (pss_one ps_never)
      pss_nil)
    (pss_one (ps_ret (pe_mkI T.leg.mT G_TableLegs (hr.mono (by decide)) (by rfl) T.g_TableLegs pass0 (pa_cons (pe_disp (pps_cons (pv 1) pe_int pps_nil) rfl rfl (fun z => by cases z) (by decide)) pa_nil))))), ?_⟩
    have hl : x.length ≤ 100000 := by
      have z := hx
      unfold nameS at z
      obtain ⟨z1, _⟩ := Bool.and_eq_true_iff.mp z
      obtain ⟨_, z1⟩ := Bool.and_eq_true_iff.mp z1
      have z1 := of_decide_eq_true z1
      omega
    refine ⟨_, rfl, _, rfl, .inl ⟨x, rfl, hl, fun H1 s1 => ?_⟩⟩
    rw [name_eq, hx]
    refine ⟨_, rfl, iteFa rfl fun p np => ?_⟩
    refine ⟨_, rfl, upd_same, [(.inr x, .int 1)], rfl, by simp, ?_⟩
    have s2 : Same H1 (upd (upd H1 p (.dK [])) p (.dK (tabK [(x, 1)]))) := fun b o hb => by
      rw [upd_ne (ne_of_none hb np), upd_ne (ne_of_none hb np)]
      exact hb
    have hd : upd (upd H1 p (.dK [])) p (.dK (tabK [(x, 1)])) p = some (.dK (tabK [(x, 1)])) := upd_same
    exact mkT_ok (t := [(x, 1)]) hd (by unfold ks; simp) (by simp) fun y m H3 cm hv hlen s3 lm _ => k y m H3 cm hv hlen ((s1.trans s2).trans s3) lm
end
end Kx
set_option maxHeartbeats 4000000
namespace Kx
open PySem PySem.Spec PyProof.Rows L2 Xr
section
variable {K : PySem.W.Frag}
/-- legs at a, by what they tell -/
def Lg (K : PySem.W.Frag) (H : Hp) (a : Addr) (f : Str → Int) : Prop := ∃ m, LegsAt H (aT K) a m ∧ ∀ k, val m k = f k
def Fs (f : Str → Int) : Prop := ∀ k, k ∉ monthsL → f k = 0
theorem Lg.same {H H' : Hp} {a : Addr} {f : Str → Int} (l : Lg K H a f) (s : Same H H') : Lg K H' a f := by
  obtain ⟨m, l, h⟩ := l
  exact ⟨m, l.same s, h⟩
theorem Lg.eq {H : Hp} {a : Addr} {f g : Str → Int} (l : Lg K H a f) (h : ∀ k, f k = g k) : Lg K H a g := by
  obtain ⟨m, l, e⟩ := l
  exact ⟨m, l, fun k => (e k).trans (h k)⟩
theorem lg_len {m : Tab} {f : Str → Int} (c : Canon m) (h : ∀ k, val m k = f k) (s : Fs f) : m.length ≤ 7 := by
  refine TabM.len ⟨c.nd, fun k hk => ?_⟩
  by_cases z : k ∈ monthsL
  · exact z
  · exact absurd ((h k).trans (s k z)) (c.mem.mp hk)
theorem fs_tab {t : Tab} (h : TabM t) : Fs (val t) := fun k hk => val_out fun z => hk (h.sub z)
theorem Fs.add {f g : Str → Int} {s : Int} (hf : Fs f) (hg : Fs g) : Fs fun k => f k + s * g k := fun k hk => by
  show f k + s * g k = 0
  rw [hf k hk, hg k hk, Int.mul_zero]
  rfl
theorem Fs.mul {f : Str → Int} {s : Int} (hf : Fs f) : Fs fun k => s * f k := fun k hk => by
  show s * f k = 0
  rw [hf k hk, Int.mul_zero]
theorem st_sum {sg : Int} (cT : CL K (aT K)) {H : Hp} {a b : Addr} {f g : Str → Int} {Q : VK} {E : XK} (la : Lg K H a f) (lb : Lg K H b g) (ff : Fs f) (fg : Fs g) (bg : ∀ k, Bnd3 (g k)) (k : ∀ x H', Same H H' → Lg K H' x (fun k => f k + sg * g k) → Q (.ref x) H') :
    rOp (aT K) (spSum K sg) E (.ref a) (.ref b) H Q := by
  obtain ⟨m, l, h⟩ := la
  obtain ⟨m', l', h'⟩ := lb
  obtain ⟨dx, d, e1, _⟩ := l.at_
  obtain ⟨dx', d', e1', _⟩ := l'.at_
  have z1 := lg_len l.can h ff
  have z2 := lg_len l'.can h' fg
  exact ⟨a, b, dx, dx', _, _, rfl, rfl, e1, e1', a, b, aT K, aT K, m, m', rfl, l, cT, l', cT, by omega, fun k => by rw [h']; exact bg k, fun x m2 H' c hv _ s lm => k x H' s ⟨m2, lm, fun k => by rw [hv, h, h']⟩⟩
theorem st_neg (cT : CL K (aT K)) {H : Hp} {a : Addr} {f : Str → Int} {Q : VK} {E : XK} (la : Lg K H a f) (bf : ∀ k, Bnd3 (f k)) (k : ∀ x H', Same H H' → Lg K H' x (fun k => -1 * f k) → Q (.ref x) H') : rUn (aT K) (spNegL K) E (.ref a) H Q := by
  obtain ⟨m, l, h⟩ := la
  obtain ⟨dx, d, e1, _⟩ := l.at_
  exact ⟨a, dx, _, rfl, e1, a, aT K, m, rfl, l, cT, fun k => by rw [h]; exact bf k, fun x m2 H' c hv _ s lm => k x H' s ⟨m2, lm, fun k => by rw [hv, h]⟩⟩
theorem st_mul (cT : CL K (aT K)) {H : Hp} {a : Addr} {n : Int} {f : Str → Int} {Q : VK} {E : XK} (la : Lg K H a f) (bn : Bnd3 n) (bf : ∀ k, Bnd3 (f k)) (k : ∀ x H', Same H H' → Lg K H' x (fun k => n * f k) → Q (.ref x) H') : rOpI (aT K) (spMulL K) E (.ref a) (.int n) H Q := by
  obtain ⟨m, l, h⟩ := la
  obtain ⟨dx, d, e1, _⟩ := l.at_
  exact ⟨a, dx, _, n, rfl, rfl, e1, a, aT K, m, n, rfl, l, cT, bn, fun k => by rw [h]; exact bf k, fun x m2 H' c hv _ s lm => k x H' s ⟨m2, lm, fun k => by rw [hv, h]⟩⟩
theorem nf_self {C : Addr} : PySem.W.notFirst K C (.ref C) = true := by
  unfold PySem.W.notFirst
  simp
theorem st_eq (cT : CL K (aT K)) (A : AllF K) {H : Hp} {a b : Addr} {f g : Str → Int} {Q : VK} {E : XK} (la : Lg K H a f) (lb : Lg K H b g) (k : ∀ c : Bool, (c = true ↔ ∀ k, f k = g k) → Q (.bl c) H) : rEqO K (aT K) (spEqL K) E (.ref a) (.ref b) H Q := by
  obtain ⟨m, l, h⟩ := la
  obtain ⟨m', l', h'⟩ := lb
  obtain ⟨dx, d, e1, _⟩ := l.at_
  obtain ⟨dx', d', e1', _⟩ := l'.at_
  refine ⟨a, dx, _, .ref (aT K), rfl, e1, cT.pl.ty A e1', nf_self, a, _, aT K, m, rfl, l, cT, .inl ⟨b, aT K, m', rfl, l', cT, k _ ?_⟩⟩
  rw [decide_eq_true_iff]
  constructor
  · rintro rfl k
    rw [← h, ← h']
  · exact fun z => canon_eq l.can l'.can fun k => by rw [h, h', z]
theorem st_ne (cT : CL K (aT K)) (A : AllF K) {H : Hp} {a b : Addr} {f g : Str → Int} {Q : VK} {E : XK} (la : Lg K H a f) (lb : Lg K H b g) (e : ∀ k, f k = g k) (k : Q (.bl false) H) : rNeO K (aT K) (spEqL K) E (.ref a) (.ref b) H Q := by
  obtain ⟨m, l, h⟩ := la
  obtain ⟨m', l', h'⟩ := lb
  obtain ⟨dx, d, e1, _⟩ := l.at_
  obtain ⟨dx', d', e1', _⟩ := l'.at_
  refine ⟨a, dx, _, .ref (aT K), rfl, e1, cT.pl.ty A e1', nf_self, a, _, aT K, m, rfl, l, cT, .inl ⟨b, aT K, m', rfl, l', cT, _, rfl, ?_⟩⟩
  rw [decide_eq_true (canon_eq l.can l'.can fun k => by rw [h, h', e])]
  exact k
theorem st_neL (cT : CL K (aT K)) (cL : CL K (aL K)) (A : AllF K) (nf : PySem.W.notFirst K (aT K) (.ref (aL K)) = true) {H : Hp} {a b : Addr} {f : Str → Int} {Q : VK} {E : XK} (la : Lg K H a f) (lb : LegsAt H (aL K) b []) (e : ∀ k, f k = 0) (k : Q (.bl false) H) : rNeO K (aT K) (spEqL K) E (.ref a) (.ref b) H Q := by
  obtain ⟨m, l, h⟩ := la
  obtain ⟨dx, d, e1, _⟩ := l.at_
  obtain ⟨dx', d', e1', _⟩ := lb.at_
  refine ⟨a, dx, _, .ref (aL K), rfl, e1, cL.pl.ty A e1', nf, a, _, aT K, m, rfl, l, cT, .inl ⟨b, aL K, [], rfl, lb, cL, _, rfl, ?_⟩⟩
  rw [decide_eq_true (canon_eq l.can lb.can fun k => by rw [h, e]; rfl)]
  exact k
theorem st_tru (cT : CL K (aT K)) {H : Hp} {a : Addr} {f : Str → Int} {Q : Bool → Hp → Prop} {E : XK} (la : Lg K H a f) (k : ∀ c : Bool, (c = false ↔ ∀ k, f k = 0) → Q c H) : rTruO (aT K) (spLenL K) E (.ref a) H Q := by
  obtain ⟨m, l, h⟩ := la
  obtain ⟨dx, d, e1, _⟩ := l.at_
  refine ⟨a, dx, _, rfl, e1, a, aT K, m, rfl, l, cT, (m.length : Int), rfl, by omega, by have := l.len; omega, k _ ?_⟩
  constructor
  · intro z k
    have z2 : m = [] := by
      cases m with
      | nil => rfl
      | cons p r => simp at z; omega
    rw [← h, z2]
    rfl
  · intro z
    have : m = [] := canon_nil l.can fun k => (h k).trans (z k)
    rw [this]
    rfl
/-- what stands in a turn -/
structure Trn (K : PySem.W.Frag) (H : Hp) (p q : Addr) (ns : List Int) (a r : Int) (o1 o2 o3 x y z : Addr) (t1 t2 t3 : Tab) : Prop where
  pen : PenAt H p q ns a r
  h1 : H o1 = some (.dK (tabK t1))
  h2 : H o2 = some (.dK (tabK t2))
  h3 : H o3 = some (.dK (tabK t3))
  lx : Lg K H x (val t1)
  ly : Lg K H y (val t2)
  lz : Lg K H z (val t3)
theorem Trn.same {H H' : Hp} {p q : Addr} {ns : List Int} {a r : Int} {o1 o2 o3 x y z : Addr} {t1 t2 t3 : Tab} (t : Trn K H p q ns a r o1 o2 o3 x y z t1 t2 t3) (s : Same H H') : Trn K H' p q ns a r o1 o2 o3 x y z t1 t2 t3 :=
  ⟨t.pen.same s, s _ _ t.h1, s _ _ t.h2, s _ _ t.h3, t.lx.same s, t.ly.same s, t.lz.same s⟩
theorem dp_strs {H : Hp} : ∀ l : List Str, DpAll K H (l.map V.str) (l.map PyData.str)
  | [] => .nil
  | n :: l => .cons (.str n) (dp_strs l)
theorem eqv_nilS : ∀ l : List Str, PyData.eqv (.list (l.map PyData.str)) (.list []) = l.isEmpty
  | [] => rfl
  | n :: l => rfl
theorem lay_strs : ∀ l : List Str, (∀ x ∈ l, x ∈ monthsL) → PyData.canLayAll0 (l.map PyData.str) = true
  | [], _ => rfl
  | x :: r, h => by
    have z : ∀ k ∈ monthsL, PyData.strOk k = true := by decide +kernel
    simp [PyData.canLayAll0, PyData.canLay0, lay_strs r fun y hy => h y (List.mem_cons_of_mem _ hy), z x (h x (List.mem_cons_self ..))]
theorem depth_strs : ∀ l : List Str, PyData.depthAll (l.map PyData.str) = 0
  | [] => rfl
  | _ :: r => by simp [PyData.depthAll, PyData.depth, depth_strs r]
theorem shaped_strs (l : List Str) (h : ∀ x ∈ l, x ∈ monthsL) : SeqAt.shaped (.list (l.map PyData.str)) = true := by
  simp [SeqAt.shaped, PyData.canLay0, PyData.depth, lay_strs l h, depth_strs]
end
end Kx
set_option maxHeartbeats 4000000
namespace Kx
open PySem PySem.Spec PyProof.Rows L2 Xr
local macro_rules | `(tactic| walk_at "rd") => `(tactic| (repeat (first | apply Exists.intro | (refine And.intro rfl ?_) | (refine And.intro (SqL.of (by assumption)) ?_) | (refine And.intro (Or.inl (SqL.of (by assumption))) ?_) | (refine Or.inl ⟨_, rfl, ?_⟩) | (refine Or.inr ⟨_, rfl, ?_⟩) | (refine And.intro (by assumption) ?_) | (refine And.intro (Or.inl (by assumption)) ?_))))
section
variable {P : Program} {w : World} {K : PySem.W.Frag} {mg : Str → Option Value} {base : Heap}
theorem sc__law_terms : FnScope ["_law_pairs", "_law_words_here", "_law_name_so", "_law_number"] ["_law_pairs"] (defScope (top 35)) := ⟨rfl, rfl, rfl, by decide +kernel, rfl, by decide +kernel, by decide +kernel⟩
def spTermsL (K : PySem.W.Frag) : Sp := fun vs H Q _ => ∃ l m, vs = [.ref l] ∧ PairsAt H l m ∧ GoodW m ∧ ∀ p H', Same H H' → H' p = some (.lst ((wordsZ m).map V.str)) → Q (.ref p) H'
theorem ok__law_terms (T : Txt P K mg) : OkF P w K mg base CX0 1 (He.ga K "_law_terms") ["_law_pairs"] (spTermsL K) := by
  obtain ⟨fd, F⟩ := T.F__law_terms
  refine ⟨fd, F.ok sc__law_terms (fun vs H Q E h => ?_) (fun cdv A outer s H vs Q E hr h => ?_), F.bindsN fun _ _ _ _ _ _ us hl => match us, hl with | [_], _ => rfl, F.kp⟩
  · obtain ⟨l, m, rfl, _⟩ := h
    rfl
  · obtain ⟨l, m, rfl, hp, gw, k⟩ := h
    have hu64 := hr.units
    refine ⟨_, PSs.nox (pss_cons (ps_asg (pe_lst pa_nil) (pg_name (i := 1) sc__law_terms.nd rfl (.inl rfl)))
    (pss_cons (ps_for PassesOwn.never rfl (pi_list (pv 0)) (pg_tup rfl (pgs_cons (pg_name (i := 2) sc__law_terms.nd rfl (.inl rfl)) (pgs_cons (pg_name (i := 3) sc__law_terms.nd rfl (.inl rfl)) pgs_nil)))
      (pss_cut (ps_if (pt_cmpR op_lt (pv 3) pe_int (nomark _))
      (pss_one (ps_expr (pe_bm PySem.F.plainAttrs_list PySem.F.slot_list_append PySem.F.type_list_append mt_append (pv 1) (pa_cons pe_str pa_nil))))
      (pss_one (ps_if (pt_cmpR (op_neD hu64) (pv 1) (pe_lst pa_nil) (nomark _))
      (pss_one (ps_expr (pe_bm PySem.F.plainAttrs_list PySem.F.slot_list_append PySem.F.type_list_append mt_append (pv 1) (pa_cons pe_str pa_nil))))
      pss_nil)))
    (pss_cut (ps_if (pt_cmpR op_gt (pe_callB call_abs (by rfl) T.z_abs (by decide +kernel) (pa_cons (pv 3) pa_nil)) pe_int (nomark _))
      (pss_one (ps_expr (pe_bm PySem.F.plainAttrs_list PySem.F.slot_list_append PySem.F.type_list_append mt_append (pv 1) (pa_cons (pe_callTy call_str_int (by rfl) T.z_str (by decide +kernel) (pa_cons (pe_callB call_abs (by rfl) T.z_abs (by decide +kernel) (pa_cons (pv 3) pa_nil)) pa_nil)) pa_nil))))
      pss_nil)
    (pss_one (ps_expr (pe_bm PySem.F.plainAttrs_list PySem.F.slot_list_append PySem.F.type_list_append mt_append (pv 1) (pa_cons (pv 2) pa_nil)))))))
    (pss_one (ps_ret (pe_ifExp (pt_cmpR (op_neD hu64) (pv 1) (pe_lst pa_nil) (nomark _)) (pv 1) (pe_lst (pa_cons pe_str pa_nil))))))), ?_⟩
    obtain ⟨as, hl, hpr⟩ := hp
    refine ⟨show 0 ≤ sizeLine by decide, fun wl nwl => ?_⟩
    have s1 : Same H (upd H wl (.lst [])) := same_new nwl
    have gt : ∀ i, ∀ p ∈ m.take i, GoodP p := fun i p hp => gw.g p (List.mem_of_mem_take hp)
    have lenB : ∀ i, (wordsT (m.take i)).length ≤ 3000 := fun i => by
      have z := wordsB_le true (m.take i)
      have z2 : (m.take i).length ≤ m.length := by rw [List.length_take]; omega
      have := gw.len
      unfold wordsT
      omega
    have elen : as.length = m.length := Paired.length hpr
    refine ⟨_, rfl, l, rfl, ⟨_, SqL.of (s1 _ _ hl)⟩, ?_⟩
    refine forP (yl_list (xs := as.map V.ref)) (fun i σ' H' => ∃ v2 v3 : Option V, σ' = [some (.ref l), some (.ref wl), v2, v3] ∧ Same H H' ∧ H' wl = some (.lst ((wordsT (m.take i)).map V.str))) ⟨none, none, rfl, s1, upd_same⟩ ?_ ?_ ?_
    · rintro i σ' H' _ ⟨v2, v3, rfl, s, _⟩
      exact SqL.of (s _ _ hl)
    · rintro i x σ' H' hx ⟨v2, v3, rfl, s, hw⟩
      obtain ⟨a, p, rfl, hmi, hap⟩ := get_pair hpr hx
      have gp := gw.g p (List.mem_of_getElem? hmi)
      have gn := gp.ne
      have g0 : 1 ≤ absI p.2 := by unfold absI; split <;> omega
      refine ⟨a, _, rfl, SqT.of (s _ _ hap), rfl, _, _, rfl, _, _, rfl, rfl, ?_⟩
      have lb := lenB i
      refine CutP.mk (fun σ' H' => σ' = [some (.ref l), some (.ref wl), some (.str p.1), some (.int p.2)] ∧ Same H H' ∧ H' wl = some (.lst ((wordsT (m.take i) ++ (if p.2 < 0 then [("-" : Str)] else if (wordsT (m.take i)).isEmpty then [] else [("+" : Str)])).map V.str))) ?_ ?_
      · refine ⟨_, rfl, _, _, rfl, rfl, _, rfl, ?_⟩
        refine iteD (fun h1 => ?_) (fun h1 => ?_)
        · refine ⟨_, rfl, .inl ⟨rfl, _, SqL.of hw⟩, wl, _, _, rfl, rfl, hw, by rw [List.length_map, sizeLine_eq]; omega, rfl, same_newer s nwl, ?_⟩
          rw [if_pos h1, List.map_append]
          exact upd_same
        · refine ⟨_, rfl, show 0 ≤ sizeLine by decide, fun e ne => ?_⟩
          have s2 := s.trans (same_new (o := .lst []) ne)
          have hw2 : upd H' e (.lst []) wl = _ := same_new ne _ _ hw
          refine ⟨_, _, Dp.lst (SqL.of hw2) (dp_strsB _), Dp.lst (SqL.of upd_same) .nil, shaped_strsB _ (words_ok (gt i)), rfl, _, rfl, ?_⟩
          rw [eqv_nilB]
          generalize upd H' e (.lst []) = H2 at s2 hw2
          cases hE : (wordsT (m.take i)).isEmpty with
          | true =>
            refine iteFa rfl ⟨rfl, s2, ?_⟩
            rw [if_neg h1, if_pos rfl, List.append_nil]
            exact hw2
          | false =>
            refine iteTr rfl ⟨_, rfl, .inl ⟨rfl, _, SqL.of hw2⟩, wl, _, _, rfl, rfl, hw2, by rw [List.length_map, sizeLine_eq]; omega, rfl, same_newer s2 nwl, ?_⟩
            rw [if_neg h1, if_neg (by simp), List.map_append]
            exact upd_same
      · rintro σ' H' ⟨rfl, s, hw⟩
        have lb2 : (wordsT (m.take i) ++ (if p.2 < 0 then [("-" : Str)] else if (wordsT (m.take i)).isEmpty then [] else [("+" : Str)])).length ≤ 3001 := by
          rw [List.length_append]
          have : (if p.2 < 0 then [("-" : Str)] else if (wordsT (m.take i)).isEmpty then [] else [("+" : Str)]).length ≤ 1 := by split <;> (try split) <;> simp
          omega
        generalize eW : wordsT (m.take i) ++ (if p.2 < 0 then [("-" : Str)] else if (wordsT (m.take i)).isEmpty then [] else [("+" : Str)]) = W at hw lb2
        refine CutP.mk (fun σ' H' => σ' = [some (.ref l), some (.ref wl), some (.str p.1), some (.int p.2)] ∧ Same H H' ∧ H' wl = some (.lst ((W ++ (if absI p.2 ≠ 1 then [numS (absI p.2)] else [])).map V.str))) ?_ ?_
        · refine ⟨_, rfl, _, rfl, _, _, rfl, rfl, _, rfl, ?_⟩
          by_cases h1 : absI p.2 = 1
          · refine iteFa (by show decide (1 < absI p.2) = false; rw [h1]; rfl) ⟨rfl, s, ?_⟩
            rw [if_neg (by simpa using h1), List.append_nil]
            exact hw
          · refine iteTr (by show decide (1 < absI p.2) = true; exact decide_eq_true (by omega)) ?_
            refine ⟨_, rfl, .inl ⟨rfl, _, SqL.of hw⟩, _, rfl, _, rfl, absI p.2, rfl, str_log (by omega) gp.wh, wl, _, _, rfl, rfl, hw, by rw [List.length_map, sizeLine_eq]; omega, rfl, same_newer s nwl, ?_⟩
            rw [if_pos h1, List.map_append]
            exact upd_same
        · rintro σ' H' ⟨rfl, s, hw⟩
          have lb3 : (W ++ (if absI p.2 ≠ 1 then [numS (absI p.2)] else [])).length ≤ 3002 := by
            rw [List.length_append]
            have : (if absI p.2 ≠ 1 then [numS (absI p.2)] else []).length ≤ 1 := by generalize absI p.2 = z; split <;> simp
            omega
          generalize eW2 : W ++ (if absI p.2 ≠ 1 then [numS (absI p.2)] else []) = W2 at hw lb3
          refine ⟨_, rfl, .inl ⟨rfl, _, SqL.of hw⟩, _, rfl, wl, _, _, rfl, rfl, hw, by rw [List.length_map, sizeLine_eq]; omega, _, _, rfl, same_newer s nwl, ?_⟩
          rw [take_next hmi, wordsT_app]
          unfold termW
          rw [← List.append_assoc, eW, ← List.append_assoc, eW2, List.map_append]
          exact upd_same
    · rintro σ' H' ⟨v2, v3, rfl, s, hw⟩
      have et : m.take (as.map V.ref).length = m := by
        rw [List.length_map, elen]
        exact List.take_length
      rw [et] at hw
      refine ⟨_, rfl, show 0 ≤ sizeLine by decide, fun e ne => ?_⟩
      have s2 := s.trans (same_new (o := .lst []) ne)
      have hw2 : upd H' e (.lst []) wl = _ := same_new ne _ _ hw
      refine ⟨_, _, Dp.lst (SqL.of hw2) (dp_strsB _), Dp.lst (SqL.of upd_same) .nil, shaped_strsB _ (words_ok gw.g), rfl, _, rfl, ?_⟩
      rw [eqv_nilB]
      generalize upd H' e (.lst []) = H2 at s2 hw2
      by_cases hE : wordsT m = []
      · have ez : wordsZ m = [("0" : Str)] := if_neg (fun z => z hE)
        refine iteFa (by rw [hE]; rfl) ⟨show 1 ≤ sizeLine by decide, fun z nz => k z _ (s2.trans (same_new nz)) ?_⟩
        rw [ez]
        exact upd_same
      · have ez : wordsZ m = wordsT m := if_pos hE
        exact iteTr (by simp [hE]) ⟨_, rfl, k wl H2 s2 (ez ▸ hw2)⟩
end
end Kx
set_option maxHeartbeats 4000000
namespace Kx
open PySem PySem.Spec PyProof.Rows L2 Xr
local macro_rules | `(tactic| walk_at "rd") => `(tactic| (repeat (first | apply Exists.intro | (refine And.intro rfl ?_) | (refine And.intro (SqL.of (by assumption)) ?_) | (refine And.intro (Or.inl (SqL.of (by assumption))) ?_) | (refine Or.inl ⟨_, rfl, ?_⟩) | (refine Or.inr ⟨_, rfl, ?_⟩) | (refine And.intro (by assumption) ?_) | (refine And.intro (Or.inl (by assumption)) ?_))))
section
variable {P : Program} {w : World} {K : PySem.W.Frag} {mg : Str → Option Value} {base : Heap}
theorem sc_are_strategy_legs : FnScope ["value", "month"] ["value"] (defScope (top 29)) := ⟨rfl, rfl, rfl, by decide +kernel, rfl, by decide +kernel, by decide +kernel⟩
/-- numbers that may be a strategy's -/
def stgOk (m : Tab) : Bool := (decide (1 ≤ m.length) && decide (m.length ≤ 6)) && m.all fun p => decide (absI p.2 ≤ 4)
def spAre (K : PySem.W.Frag) : Sp := fun vs H Q _ => ∃ v, vs = [v] ∧ ((∃ a C m, v = .ref a ∧ LegsAt H C a m ∧ CL K C ∧ ∀ H', Same H H' → Q (.bl (stgOk m)) H') ∨ ∃ t, TyX K H v t ∧ PySem.W.kitOne K t (.ref (aL K)) = some false ∧ Q (.bl false) H)
theorem ok_are_strategy_legs (T : Txt P K mg) : OkF P w K mg base CX0 3 (He.ga K "are_strategy_legs") ["value"] (spAre K) := by
  obtain ⟨t1, c_MOST_LEGS⟩ := T.c_MOST_LEGS
  obtain ⟨t2, c_GREATEST_LEG⟩ := T.c_GREATEST_LEG
  have G_months := ok_Legs_months (P := P) (w := w) (base := base) T
  have G_item := (ok_Legs___getitem__ (P := P) (w := w) (base := base) T).fnR
  have G_len := (ok_Legs___len__ (P := P) (w := w) (base := base) T).fnR
  obtain ⟨fd, F⟩ := T.F_are_strategy_legs
  refine ⟨fd, F.ok sc_are_strategy_legs (fun vs H Q E h => ?_) (fun cdv A outer s H vs Q E hr h => ?_), F.bindsN fun _ _ _ _ _ _ us hl => match us, hl with | [_], _ => rfl, F.kp⟩
  · obtain ⟨v, rfl, _⟩ := h
    rfl
  · obtain ⟨v, rfl, k⟩ := h
    rcases k with ⟨a, C, m, rfl, l, c, k⟩ | ⟨t, ty, e, k⟩
    · have si := c.sm "__getitem__" (by decide)
      have sl := c.sm "__len__" (by decide)
      refine ⟨_, PSs.nox (pss_cons (ps_if (PW.pt (pw_or (pt_not (pt_val (pe_callB (call_isiK K) (by rfl) T.z_isinstance (by decide +kernel) (pa_cons (pv 0) (pa_cons (pe_glob (v := .ref (He.ga K "Legs")) (by rfl) T.g_Legs rfl) pa_nil))))) (pw_or1 (pt_not (pt_chain op_le op_le pe_int (pe_callB (call_lenO sl.sm G_len (hr.mono (by decide)) pass0) (by rfl) T.z_len (by decide +kernel) (pa_cons (pv 0) pa_nil)) (pe_glob (v := .int 6) (by rfl) c_MOST_LEGS ⟨_, rfl⟩))))))
      (pss_one (ps_ret pe_bl))
      pss_nil)
    (pss_one (ps_ret (pe_callB (cr_all rfl) (by rfl) T.z_all (by decide +kernel) (pa_cons (pe_lc (own := [("month", 1)]) (g := gName 1) (tt := tYes) rfl sc_are_strategy_legs.nd (pi_tup (pe_prF (pv 0) c.pl.cls c.mo G_months (hr.mono (by decide)) pass0)) (blkOk_by (N := ["value", "month"]) (sc := defScope (top 29)) (by decide +kernel)) (fun _ _ _ _ _ => pg_name (i := 1) sc_are_strategy_legs.nd rfl (Or.inl rfl)) (fun _ _ _ _ _ => pts_nil) (fun _ _ _ _ _ => (pe_cmpR op_le (pe_callB call_abs (by rfl) T.z_abs (by decide +kernel) (pa_cons (pe_ixO si.sm si.fnI G_item (hr.mono (by decide)) pass0 (pv 0) (pv 1)) pa_nil)) (pe_glob (v := .int 4) (by rfl) c_GREATEST_LEG ⟨_, rfl⟩) (nomark _)))) pa_nil))))), ?_⟩
      obtain ⟨dx, d, h1, h2⟩ := l.at_
      have ll := l.len
      have fin : stgOk m = false → Q (.bl false) H := fun e => e ▸ k H (Same.refl H)
      refine ⟨_, rfl, _, _, _, _, _, rfl, .own (aL K), c.pl.ty T.all h1, c.ki, _, rfl, iteFa rfl ?_⟩
      refine ⟨_, rfl, a, dx, _, rfl, h1, ⟨a, C, m, rfl, l, c, _, rfl, by omega, by omega, ?_⟩⟩
      refine ⟨1, _, rfl, rfl, _, rfl, ?_⟩
      refine iteD (fun g1 => ?_) (fun g1 => ⟨false, rfl, fin (by unfold stgOk; rw [decide_eq_false (by omega)]; rfl)⟩)
      refine ⟨_, _, rfl, rfl, _, rfl, ?_⟩
      by_cases g2 : (m.length : Int) ≤ 6
      · refine iteFa (by rw [decide_eq_true g2]; rfl) ?_
        refine ⟨_, rfl, a, dx, _, rfl, h1, ⟨a, C, m, rfl, l, c, fun p H1 np s1 hp => ?_⟩⟩
        have l1 := l.same s1
        obtain ⟨dx1, d1, h3, _⟩ := l1.at_
        refine ⟨p, rfl, ⟨_, SqT.of hp⟩, fun D hD => ?_⟩
        refine lcF (yl_tup (xs := (ks m).map V.str)) (fun _ => true) (fun v => .bl (decide (absI (val m (strOf v)) ≤ 4))) hD (by unfold ks; rw [List.length_map, List.length_map]; omega) (fun H' s => SqT.of (s _ _ hp)) (fun _ => rfl) (fun v H' _ _ Qb q => q H' (Same.refl H')) (fun v H' hm _ s2 Q2 q => ?_) fun H' s2 hl => ?_
        · obtain ⟨x, _, rfl⟩ := List.mem_map.mp hm
          have l2 := l1.same s2
          obtain ⟨dx2, d2, h4, _⟩ := l2.at_
          exact ⟨_, rfl, _, rfl, a, dx2, _, rfl, h4, ⟨a, _, C, m, rfl, l2, c, .inl ⟨x, rfl, _, rfl, _, _, rfl, rfl, q H' (Same.refl H')⟩⟩⟩
        · have e : (List.map (fun v => V.bl (decide (absI (val m (strOf v)) ≤ 4))) (List.filter (fun _ => true) ((ks m).map V.str))) = (m.map fun p => decide (absI p.2 ≤ 4)).map V.bl := by
            unfold ks
            rw [List.filter_eq_self.mpr fun _ _ => rfl, List.map_map, List.map_map, List.map_map]
            refine List.map_congr_left fun p hp => ?_
            show V.bl (decide (absI (val m p.1) ≤ 4)) = V.bl (decide (absI p.2 ≤ 4))
            rw [val_mem l.can.nd hp]
          rw [e] at hl
          refine ⟨D, _, rfl, SqL.of hl, ?_⟩
          have e2 : ((m.map fun p => decide (absI p.2 ≤ 4)).all id) = stgOk m := by
            unfold stgOk
            rw [decide_eq_true (show 1 ≤ m.length by omega), decide_eq_true (show m.length ≤ 6 by omega), List.all_map]
            rfl
          rw [e2]
          exact k H' (s1.trans s2)
      · refine iteTr (by rw [decide_eq_false g2]; rfl) (fin ?_)
        unfold stgOk
        rw [decide_eq_false (show ¬ m.length ≤ 6 by omega), Bool.and_false]
        rfl
    · have c := T.leg.cT
      have si := c.sm "__getitem__" (by decide)
      have sl := c.sm "__len__" (by decide)
      refine ⟨_, PSs.nox (pss_cons (ps_if (PW.pt (pw_or (pt_not (pt_val (pe_callB (call_isiK K) (by rfl) T.z_isinstance (by decide +kernel) (pa_cons (pv 0) (pa_cons (pe_glob (v := .ref (He.ga K "Legs")) (by rfl) T.g_Legs rfl) pa_nil))))) (pw_or1 (pt_not (pt_chain op_le op_le pe_int (pe_callB (call_lenO sl.sm G_len (hr.mono (by decide)) pass0) (by rfl) T.z_len (by decide +kernel) (pa_cons (pv 0) pa_nil)) (pe_glob (v := .int 6) (by rfl) c_MOST_LEGS ⟨_, rfl⟩))))))
      (pss_one (ps_ret pe_bl))
      pss_nil)
    (pss_one (ps_ret (pe_callB (cr_all rfl) (by rfl) T.z_all (by decide +kernel) (pa_cons (pe_lc (own := [("month", 1)]) (g := gName 1) (tt := tYes) rfl sc_are_strategy_legs.nd (pi_tup (pe_prF (pv 0) c.pl.cls c.mo G_months (hr.mono (by decide)) pass0)) (blkOk_by (N := ["value", "month"]) (sc := defScope (top 29)) (by decide +kernel)) (fun _ _ _ _ _ => pg_name (i := 1) sc_are_strategy_legs.nd rfl (Or.inl rfl)) (fun _ _ _ _ _ => pts_nil) (fun _ _ _ _ _ => (pe_cmpR op_le (pe_callB call_abs (by rfl) T.z_abs (by decide +kernel) (pa_cons (pe_ixO si.sm si.fnI G_item (hr.mono (by decide)) pass0 (pv 0) (pv 1)) pa_nil)) (pe_glob (v := .int 4) (by rfl) c_GREATEST_LEG ⟨_, rfl⟩) (nomark _)))) pa_nil))))), ?_⟩
      exact ⟨_, rfl, _, _, _, _, _, rfl, .own (aL K), ty, e, _, rfl, k⟩
end
end Kx
set_option maxHeartbeats 4000000
namespace Kx
open PySem PySem.Spec PyProof.Rows L2 Xr
local macro_rules | `(tactic| walk_at "rd") => `(tactic| (repeat (first | apply Exists.intro | (refine And.intro rfl ?_) | (refine And.intro (SqL.of (by assumption)) ?_) | (refine And.intro (Or.inl (SqL.of (by assumption))) ?_) | (refine Or.inl ⟨_, rfl, ?_⟩) | (refine Or.inr ⟨_, rfl, ?_⟩) | (refine And.intro (by assumption) ?_) | (refine And.intro (Or.inl (by assumption)) ?_))))
section
variable {P : Program} {w : World} {K : PySem.W.Frag} {mg : Str → Option Value} {base : Heap}
theorem tyX_same {H H' : Hp} {v : V} {t : Value} (ty : TyX K H v t) (s : Same H H') : TyX K H' v t := by
  cases ty with
  | base h =>
    refine .base ?_
    cases h with
    | non => exact .non
    | bl x => exact .bl x
    | int i => exact .int i
    | str x => exact .str x
    | flt x => exact .flt x
    | lst e => exact .lst (s _ _ e)
    | frz e => exact .frz (s _ _ e)
    | tup e => exact .tup (s _ _ e)
    | dK e => exact .dK (s _ _ e)
    | dT e => exact .dT (s _ _ e)
    | ins e a b c d f => exact .ins (s _ _ e) a b c d f
  | byt b => exact .byt b
  | set e => exact .set (s _ _ e)
  | kList e c => exact .kList e c
  | kTuple e c => exact .kTuple e c
  | kDict e c => exact .kDict e c
  | fTuple e => exact .fTuple (s _ _ e)
  | fDict e => exact .fDict (s _ _ e)
/-- whether a value is a name -/
def NameV (K : PySem.W.Frag) (H : Hp) (v : V) (b : Bool) : Prop := (∃ x, v = .str x ∧ x.length ≤ 100000 ∧ nameB x = b) ∨ (b = false ∧ ∃ t, TyX K H v t ∧ PySem.W.kitOne K t (.type "str") = some false)
/-- whether a value is legs of a strategy -/
def LegsV (K : PySem.W.Frag) (H : Hp) (v : V) (b : Bool) : Prop := (∃ a C m, v = .ref a ∧ LegsAt H C a m ∧ CL K C ∧ stgOk m = b) ∨ (b = false ∧ ∃ t, TyX K H v t ∧ PySem.W.kitOne K t (.ref (aL K)) = some false)
theorem NameV.same {H H' : Hp} {v : V} {b : Bool} (h : NameV K H v b) (s : Same H H') : NameV K H' v b := by
  rcases h with h | ⟨e, t, ty, k⟩
  · exact .inl h
  · exact .inr ⟨e, t, tyX_same ty s, k⟩
theorem LegsV.same {H H' : Hp} {v : V} {b : Bool} (h : LegsV K H v b) (s : Same H H') : LegsV K H' v b := by
  rcases h with ⟨a, C, m, e, l, c, k⟩ | ⟨e, t, ty, k⟩
  · exact .inl ⟨a, C, m, e, l.same s, c, k⟩
  · exact .inr ⟨e, t, tyX_same ty s, k⟩
def spNameV (K : PySem.W.Frag) : Sp := fun vs H Q _ => ∃ v b, vs = [v] ∧ NameV K H v b ∧ ∀ H', Same H H' → Q (.bl b) H'
theorem okV_is_name (T : Txt P K mg) : OkF P w K mg base CX0 1 (He.ga K "is_name") ["value"] (spNameV K) := (ok_is_name T).imp fun vs H Q E ⟨v, b, e, h, k⟩ => by
  subst e
  rcases h with ⟨x, rfl, hl, rfl⟩ | ⟨rfl, t, ty, e⟩
  · exact ⟨_, rfl, .inl ⟨x, rfl, hl, k⟩⟩
  · exact ⟨_, rfl, .inr ⟨t, ty, e, k H (Same.refl H)⟩⟩
def spAreV (K : PySem.W.Frag) : Sp := fun vs H Q _ => ∃ v b, vs = [v] ∧ LegsV K H v b ∧ ∀ H', Same H H' → Q (.bl b) H'
theorem okV_are_strategy_legs (T : Txt P K mg) : OkF P w K mg base CX0 3 (He.ga K "are_strategy_legs") ["value"] (spAreV K) := (ok_are_strategy_legs T).imp fun vs H Q E ⟨v, b, e, h, k⟩ => by
  subst e
  rcases h with ⟨a, C, m, rfl, l, c, rfl⟩ | ⟨rfl, t, ty, e⟩
  · exact ⟨_, rfl, .inl ⟨a, C, m, rfl, l, c, k⟩⟩
  · exact ⟨_, rfl, .inr ⟨t, ty, e, k H (Same.refl H)⟩⟩
/-- a strategy's fault -/
def FltS (K : PySem.W.Frag) (r : Str) (H : Hp) (E : XK) : Prop := ∀ d H', Same H H' → H d = none → H' d = some (.xd [("reason", .str r)]) → E (.ref (He.ga K "InvalidStrategy")) (some d) H'
theorem FltS.same {r : Str} {H H1 : Hp} {E : XK} (f : FltS K r H E) (s : Same H H1) : FltS K r H1 E := fun d H' s' n h => f d H' (s.trans s') (s.free n) h
theorem FltS.new {r : Str} {H : Hp} {E : XK} (f : FltS K r H E) : ∀ d, H d = none → E (.ref (He.ga K "InvalidStrategy")) (some d) (upd H d (.xd [("reason", .str r)])) := fun d n => f d _ (same_new n) n upd_same
theorem sc_Strategy___init__ : FnScope ["self", "name", "legs"] ["self", "name", "legs"] (defScope (inClass (top 30) 0)) := ⟨rfl, rfl, rfl, by decide +kernel, rfl, by decide +kernel, by decide +kernel⟩
def spStgI (K : PySem.W.Frag) : Sp := fun vs H Q E => ∃ x dx nv lv bn bl, vs = [.ref x, nv, lv] ∧ H x = some (.ins (aS K) dx []) ∧ NameV K H nv bn ∧ LegsV K H lv bl ∧ (bn = false → FltS K "name" H E) ∧ (bn = true → bl = false → FltS K "legs" H E) ∧
  (bn = true → bl = true → ∀ H', But x H H' → H' x = some (.ins (aS K) dx [("name", nv), ("legs", lv)]) → Q .non H')
theorem fn_Strategy_init (T : Txt P K mg) {fd : FuncData} (F : FunD K "__init__" "Strategy.__init__" (defArgs (inClass (top 30) 0)) (defBody (inClass (top 30) 0)) (defScope (inClass (top 30) 0)) [] [] (He.ma K (He.ga K "Strategy") "__init__") fd) : FnOk P w K mg base (L2.CX P w) 4 (He.ma K (He.ga K "Strategy") "__init__") fd ["self", "name", "legs"] (spStgI K) := by
  obtain ⟨fI, fdI, ErC_InvalidStrategy, ErB_InvalidStrategy⟩ := T.e_InvalidStrategy.made
  have G_is_name := okV_is_name (P := P) (w := w) (base := base) T
  have G_are_strategy_legs := okV_are_strategy_legs (P := P) (w := w) (base := base) T
  have so := T.stg.oc
  refine F.ok sc_Strategy___init__ (fun vs H Q E h => ?_) (fun cdv A outer s H vs Q E hr h => ?_)
  · obtain ⟨x, dx, nv, lv, bn, bl, rfl, _⟩ := h
    rfl
  · obtain ⟨x, dx, nv, lv, bn, bl, rfl, hx, vn, vl, k1, k2, k3⟩ := h
    refine ⟨_, (pss_cons (ps_if (pt_not (pt_val (pe_f G_is_name (hr.mono (by decide)) (by rfl) T.g_is_name pass0 (pa_cons (pv 1) pa_nil))))
      (pss_one (ps_raise rfl (takes_of rfl rfl rfl rfl) (pmk_err ErC_InvalidStrategy ErB_InvalidStrategy (by decide) (hr.mono (by decide)) (by rfl) T.g_InvalidStrategy (pa_cons pe_str pa_nil))))
      pss_nil)
    (pss_cons (ps_if (pt_not (pt_val (pe_f G_are_strategy_legs (hr.mono (by decide)) (by rfl) T.g_are_strategy_legs pass0 (pa_cons (pv 2) pa_nil))))
      (pss_one (ps_raise rfl (takes_of rfl rfl rfl rfl) (pmk_err ErC_InvalidStrategy ErB_InvalidStrategy (by decide) (hr.mono (by decide)) (by rfl) T.g_InvalidStrategy (pa_cons pe_str pa_nil))))
      pss_nil)
    (pss_cons (ps_fld (pv 0) (pv 1) rfl)
    (pss_one (ps_fld (pv 0) (pv 2) rfl))))), ?_⟩
    refine ⟨_, rfl, _, _, rfl, vn, fun H1 s1 => ⟨_, rfl, ?_⟩⟩
    cases bn with
    | false => exact iteTr rfl ⟨rfl, ((k1 rfl).same s1).new⟩
    | true =>
      refine iteFa rfl ?_
      refine ⟨_, rfl, _, _, rfl, vl.same s1, fun H2 s2 => ⟨_, rfl, ?_⟩⟩
      have s12 := s1.trans s2
      cases bl with
      | false => exact iteTr rfl ⟨rfl, ((k2 rfl rfl).same s12).new⟩
      | true =>
        refine iteFa rfl ?_
        refine ⟨_, rfl, _, rfl, x, aS K, dx, _, rfl, s12 _ _ hx, so.pl.cls, so.no _ (by decide), by decide, ?_⟩
        refine ⟨_, rfl, _, rfl, x, aS K, dx, _, rfl, upd_same, so.pl.cls, so.no _ (by decide), (show 1 < 1000 by decide), ?_⟩
        refine k3 rfl rfl _ (fun b o hb nb => ?_) upd_same
        rw [upd_ne nb, upd_ne nb]
        exact s12 _ _ hb
theorem ok_Strategy_init (T : Txt P K mg) : OkI P w K mg base (L2.CX P w) 4 (He.ma K (He.ga K "Strategy") "__init__") ["self", "name", "legs"] (spStgI K) := by
  obtain ⟨fd, F⟩ := T.F_Strategy___init__
  exact ⟨fd, fn_Strategy_init T F, F.bindsN fun _ _ _ _ _ _ us hl => match us, hl with | [_, _, _], _ => rfl⟩
/-- Strategy(legs=.., name=..) -/
theorem okK_Strategy_init (T : Txt P K mg) : FnRK P w K mg base (L2.CX P w) 4 (He.ma K (He.ga K "Strategy") "__init__") 1 ["legs", "name"] (fun vs H Q E => ∃ u a b, vs = [u, a, b] ∧ spStgI K [u, b, a] H Q E) := by
  obtain ⟨fd, F⟩ := T.F_Strategy___init__
  have G := fn_Strategy_init (P := P) (w := w) (base := base) T F
  obtain ⟨oc, od, dV, kV', doc, pm, an, cdv, ct, osl, rfl, lk, hcd, hDf, _⟩ := F.ex
  obtain rfl : dV = .none := by
    rcases hDf with ⟨_, e⟩ | ⟨e, _⟩
    · exact e
    · exact absurd rfl e
  intro A outer s H us ws vs zs Q E hr e0 r rz l1 l2 ⟨u, a, b, e, h⟩
  match vs, zs, l1, l2, us, ws, r, rz, e with
  | [v0], [z0, z1], _, _, [u0], [w0, w1], .cons q0 .nil, .cons q1 (.cons q2 .nil), e =>
    cases e
    exact G.run A outer s H ⟨[u0], [("legs", w0), ("name", w1)]⟩ [u0, w1, w0] [u, b, a] Q E hr e0 (.of_eq rfl) (.cons q0 (.cons q2 (.cons q1 .nil))) h
/-- a strategy: its name, its legs (of the class at C) -/
structure StgAt (K : PySem.W.Frag) (H : Hp) (C a : Addr) (n : Str) (m : Tab) : Prop where
  at_ : ∃ dx l, H a = some (.ins (aS K) dx [("name", .str n), ("legs", .ref l)]) ∧ LegsAt H C l m
theorem StgAt.same {H H' : Hp} {C a : Addr} {n : Str} {m : Tab} (g : StgAt K H C a n m) (s : Same H H') : StgAt K H' C a n m := by
  obtain ⟨dx, l, h1, h2⟩ := g.at_
  exact ⟨dx, l, s _ _ h1, h2.same s⟩
theorem mkS_ok {H : Hp} {nv lv : V} {bn bl : Bool} {Q : VK} {E : XK} (vn : NameV K H nv bn) (vl : LegsV K H lv bl) (k1 : bn = false → FltS K "name" H E) (k2 : bn = true → bl = false → FltS K "legs" H E)
    (k3 : bn = true → bl = true → ∀ x dx H', Same H H' → H' x = some (.ins (aS K) dx [("name", nv), ("legs", lv)]) → H x = none → Q (.ref x) H') :
    ∀ x dx, H x = none → H dx = none → dx ≠ x → spStgI K [.ref x, nv, lv] (upd (upd H dx (.own x)) x (.ins (aS K) dx [])) (fun v H2 => v = .non ∧ Q (.ref x) H2) E := by
  intro x dx nx ndx ne
  have s1 : Same H (upd (upd H dx (.own x)) x (.ins (aS K) dx [])) := fun b o hb => by
    rw [upd_ne (ne_of_none hb nx), upd_ne (ne_of_none hb ndx)]
    exact hb
  exact ⟨x, dx, nv, lv, bn, bl, rfl, upd_same, vn.same s1, vl.same s1, fun e => (k1 e).same s1, fun e f => (k2 e f).same s1, fun e f H' B hx => ⟨rfl, k3 e f x dx H' (fun b o hb => B b o (s1 _ _ hb) (ne_of_none hb nx)) hx nx⟩⟩
end
end Kx
set_option maxHeartbeats 4000000
namespace Kx
open PySem PySem.Spec PyProof.Rows L2 Xr
local macro_rules | `(tactic| walk_at "rd") => `(tactic| (repeat (first | apply Exists.intro | (refine And.intro rfl ?_) | (refine And.intro (SqL.of (by assumption)) ?_) | (refine And.intro (Or.inl (SqL.of (by assumption))) ?_) | (refine Or.inl ⟨_, rfl, ?_⟩) | (refine Or.inr ⟨_, rfl, ?_⟩) | (refine And.intro (by assumption) ?_) | (refine And.intro (Or.inl (by assumption)) ?_))))
section
variable {P : Program} {w : World} {K : PySem.W.Frag} {mg : Str → Option Value} {base : Heap}
theorem canon_one (x : Str) : Canon [(x, 1)] := ⟨List.pairwise_singleton .., by unfold ks; simp, fun p hp => by rw [List.mem_singleton.mp hp]; exact Int.one_ne_zero⟩
theorem nfS {C : Addr} : PySem.W.notFirst K C (.ref C) = true := by
  unfold PySem.W.notFirst
  simp
theorem empty_app (x : Str) : Str.empty ++ x = x := by
  obtain ⟨c⟩ := x
  show (⟨#[] ++ c⟩ : Str) = ⟨c⟩
  rw [Array.empty_append]
theorem app_len (x y : Str) : (x ++ y).length = x.length + y.length := by
  obtain ⟨c⟩ := x
  obtain ⟨d⟩ := y
  exact Array.size_append
theorem dec_str {x y : Str} : decide (V.str x = V.str y) = decide (x = y) := by
  by_cases h : x = y
  · subst h; simp
  · rw [decide_eq_false h, decide_eq_false fun z => h (V.str.inj z)]
theorem sc_Strategy_month : FnScope ["cls", "name"] ["cls", "name"] (defScope (inClass (top 30) 1)) := ⟨rfl, rfl, rfl, by decide +kernel, rfl, by decide +kernel, by decide +kernel⟩
def spSMonth (K : PySem.W.Frag) : Sp := fun vs H Q E => ∃ nv bn, vs = [.ref (aS K), nv] ∧ NameV K H nv bn ∧ (bn = false → FltS K "name" H E) ∧ (bn = true → ∀ x, nv = .str x → ∀ y H', Same H H' → StgAt K H' (aT K) y x [(x, 1)] → Q (.ref y) H')
theorem fn_Strategy_month (T : Txt P K mg) {fd : FuncData} (F : FunD K "month" "Strategy.month" (defArgs (inClass (top 30) 1)) (defBody (inClass (top 30) 1)) (defScope (inClass (top 30) 1)) [] [] (He5.wf K (He.ga K "Strategy") "classmethod" "month") fd) : FnOk P w K mg base (L2.CX P w) 8 (He5.wf K (He.ga K "Strategy") "classmethod" "month") fd ["cls", "name"] (spSMonth K) := by
  obtain ⟨fI, fdI, ErC_InvalidStrategy, ErB_InvalidStrategy⟩ := T.e_InvalidStrategy.made
  have G_is_name := okV_is_name (P := P) (w := w) (base := base) T
  have G_init := (ok_Strategy_init (P := P) (w := w) (base := base) T).fnR
  have G_month := (ok_Legs_month (P := P) (w := w) (base := base) T).fnR
  refine F.ok sc_Strategy_month (fun vs H Q E h => ?_) (fun cdv A outer s H vs Q E hr h => ?_)
  · obtain ⟨nv, bn, rfl, _⟩ := h
    rfl
  · obtain ⟨nv, bn, rfl, vn, k1, k2⟩ := h
    refine ⟨_, (pss_cons (ps_if (pt_not (pt_val (pe_f G_is_name (hr.mono (by decide)) (by rfl) T.g_is_name pass0 (pa_cons (pv 1) pa_nil))))
      (pss_one (ps_raise rfl (takes_of rfl rfl rfl rfl) (pmk_err ErC_InvalidStrategy ErB_InvalidStrategy (by decide) (hr.mono (by decide)) (by rfl) T.g_InvalidStrategy (pa_cons pe_str pa_nil))))
      pss_nil)
    (pss_one (ps_ret (pe_makeV T.stg.oc.mks G_init (hr.mono (by decide)) (passes_call (takes_of rfl rfl rfl rfl) (fun _ _ _ _ h => h)) (pv 0) (pa_cons (pv 1) (pa_cons (pe_cmF (pe_glob (v := .ref (He.ga K "Legs")) (by rfl) T.g_Legs rfl) T.leg.month G_month (hr.mono (by decide)) pass0 (pa_cons (pv 1) pa_nil)) pa_nil)))))), ?_⟩
    refine ⟨_, rfl, _, _, rfl, vn, fun H1 s1 => ⟨_, rfl, ?_⟩⟩
    cases bn with
    | false => exact iteTr rfl ⟨rfl, ((k1 rfl).same s1).new⟩
    | true =>
      refine iteFa rfl ?_
      rcases id vn with ⟨x, rfl, hl, hn⟩ | ⟨z, _⟩
      · refine ⟨_, rfl, rfl, _, rfl, rfl, _, rfl, _, x, rfl, hn, fun y m H2 cm hv hlen s2 lm => ?_⟩
        have em : m = [(x, 1)] := canon_eq cm (canon_one x) hv
        subst em
        have s12 := s1.trans s2
        exact mkS_ok (bl := true) (vn.same s12) (.inl ⟨y, aT K, _, rfl, lm, T.leg.cT, rfl⟩) (fun z => by cases z) (fun _ z => by cases z) fun _ _ z dx H3 s3 h3 _ => k2 rfl x rfl z H3 (s12.trans s3) ⟨dx, y, h3, lm.same s3⟩
      · cases z
theorem ok_Strategy_month (T : Txt P K mg) : OkF P w K mg base (L2.CX P w) 8 (He5.wf K (He.ga K "Strategy") "classmethod" "month") ["cls", "name"] (spSMonth K) := by
  obtain ⟨fd, F⟩ := T.F_Strategy_month
  exact ⟨fd, fn_Strategy_month T F, F.bindsN fun _ _ _ _ _ _ us hl => match us, hl with | [_, _], _ => rfl, F.kp⟩
theorem okK_Strategy_month (T : Txt P K mg) : FnRK P w K mg base (L2.CX P w) 8 (He5.wf K (He.ga K "Strategy") "classmethod" "month") 1 ["name"] (spSMonth K) := by
  obtain ⟨fd, F⟩ := T.F_Strategy_month
  exact fnOk_kw (fn_Strategy_month T F) (funD_kb F fun _ _ _ _ _ _ us ws hu hw => match us, ws, hu, hw with | [_], [_], _, _ => rfl)
theorem sc_Strategy___eq__ : FnScope ["self", "other"] ["self", "other"] (defScope (inClass (top 30) 3)) := ⟨rfl, rfl, rfl, by decide +kernel, rfl, by decide +kernel, by decide +kernel⟩
def spEqS (K : PySem.W.Frag) : Sp := fun vs H Q _ => ∃ a v n m, vs = [.ref a, v] ∧ StgAt K H (aT K) a n m ∧ ((∃ b n' m', v = .ref b ∧ StgAt K H (aT K) b n' m' ∧ Q (.bl (decide (n = n') && decide (m = m'))) H) ∨ ∃ t, TyX K H v t ∧ PySem.W.kitOne K t (.ref (aS K)) = some false ∧ Q (.bl false) H)
theorem ok_Strategy___eq__ (T : Txt P K mg) : OkF P w K mg base CX0 3 (He.ma K (He.ga K "Strategy") "__eq__") ["self", "other"] (spEqS K) := by
  have sm_eq := T.leg.cT.sm "__eq__" (by decide)
  have G_eq := (ok_Legs___eq__ (P := P) (w := w) (base := base) T).fnR
  have so := T.stg.oc
  obtain ⟨fd, F⟩ := T.F_Strategy___eq__
  refine ⟨fd, F.ok sc_Strategy___eq__ (fun vs H Q E h => ?_) (fun cdv A outer s H vs Q E hr h => ?_), F.bindsN fun _ _ _ _ _ _ us hl => match us, hl with | [_, _], _ => rfl, F.kp⟩
  · obtain ⟨a, v, n, m, rfl, _⟩ := h
    rfl
  · obtain ⟨a, v, n, m, rfl, g, k⟩ := h
    obtain ⟨dx, l, h1, h2⟩ := g.at_
    refine ⟨_, PSs.nox (pss_one (ps_ret (pe_and (pe_callB (call_isiK K) (by rfl) T.z_isinstance (by decide +kernel) (pa_cons (pv 1) (pa_cons (pe_glob (v := .ref (He.ga K "Strategy")) (by rfl) T.g_Strategy rfl) pa_nil))) (pe_and (pe_cmpR op_eq (pe_fld (pv 0) rfl) (pe_fld (pv 1) rfl) (nomark _)) (pe_one (pe_cmpR (op_eqO sm_eq.sm G_eq (hr.mono (by decide)) pass0) (pe_fld (pv 0) rfl) (pe_fld (pv 1) rfl) (nomark _))))))), ?_⟩
    rcases k with ⟨b, n', m', rfl, g', k⟩ | ⟨t, ty, e, k⟩
    · obtain ⟨dx', l', h1', h2'⟩ := g'.at_
      refine ⟨_, rfl, _, _, _, _, _, rfl, .own (aS K), so.pl.ty T.all h1', T.stg.kS, _, rfl, iteT ?_⟩
      refine ⟨_, rfl, a, aS K, dx, _, _, rfl, h1, so.pl.cls, so.no _ (by decide), rfl, _, rfl, b, aS K, dx', _, _, rfl, h1', so.pl.cls, so.no _ (by decide), rfl, rfl, _, rfl, ?_⟩
      rw [dec_str]
      by_cases hn : n = n'
      · rw [decide_eq_true hn] at k ⊢
        refine iteT ⟨_, rfl, a, aS K, dx, _, _, rfl, h1, so.pl.cls, so.no _ (by decide), rfl, _, rfl, b, aS K, dx', _, _, rfl, h1', so.pl.cls, so.no _ (by decide), rfl, ?_⟩
        obtain ⟨d1, t1, g1, g2⟩ := h2.at_
        obtain ⟨d2, t2, g3, g4⟩ := h2'.at_
        exact ⟨l, d1, _, .ref (aT K), rfl, g1, T.leg.cT.pl.ty T.all g3, nfS, ⟨l, _, _, m, rfl, h2, T.leg.cT, .inl ⟨l', _, m', rfl, h2', T.leg.cT, k⟩⟩⟩
      · rw [decide_eq_false hn] at k ⊢
        exact iteFa rfl k
    · exact ⟨_, rfl, _, _, _, _, _, rfl, .own (aS K), ty, e, _, rfl, k⟩
theorem sc_Strategy___str__ : FnScope ["self"] ["self"] (defScope (inClass (top 30) 4)) := ⟨rfl, rfl, rfl, by decide +kernel, rfl, by decide +kernel, by decide +kernel⟩
def spStrS (K : PySem.W.Frag) : Sp := fun vs H Q _ => ∃ a n m, vs = [.ref a] ∧ StgAt K H (aT K) a n m ∧ GoodW m ∧ n.length ≤ 100 ∧ (textT m).length ≤ 100000 ∧ ∀ H', Same H H' → Q (.str (n ++ " = " ++ textT m)) H'
theorem ok_Strategy___str__ (T : Txt P K mg) : OkF P w K mg base CX0 4 (He.ma K (He.ga K "Strategy") "__str__") ["self"] (spStrS K) := by
  have sm_str := T.leg.cT.sm "__str__" (by decide)
  have G_str := (ok_Legs___str__ (P := P) (w := w) (base := base) T).fnR
  have so := T.stg.oc
  obtain ⟨fd, F⟩ := T.F_Strategy___str__
  refine ⟨fd, F.ok sc_Strategy___str__ (fun vs H Q E h => ?_) (fun cdv A outer s H vs Q E hr h => ?_), F.bindsN fun _ _ _ _ _ _ us hl => match us, hl with | [_], _ => rfl, F.kp⟩
  · obtain ⟨a, n, m, rfl, _⟩ := h
    rfl
  · obtain ⟨a, n, m, rfl, g, gw, l1, l2, k⟩ := h
    obtain ⟨dx, l, h1, h2⟩ := g.at_
    refine ⟨_, PSs.nox (pss_one (ps_ret (pe_joined (.cons (pe_fmt (pe_fld (pv 0) rfl)) (.cons pe_str (.cons (pe_fmtO (pe_fld (pv 0) rfl) T.leg.cT.pl.cm T.stg.fT sm_str.sm G_str (hr.mono (by decide)) pass0) .nil)))))), ?_⟩
    refine ⟨_, rfl, a, aS K, dx, _, _, rfl, h1, so.pl.cls, so.no _ (by decide), rfl, .inl ⟨n, rfl, by rw [sizeLine_eq]; omega, n, rfl, by rw [empty_app, sizeLine_eq]; omega, ?_⟩⟩
    have e1 : (" = " : Str).length = 3 := by decide
    refine ⟨_, rfl, by rw [empty_app, app_len, e1, sizeLine_eq]; omega, ?_⟩
    obtain ⟨d1, t1, g1, g2⟩ := h2.at_
    refine ⟨_, rfl, a, aS K, dx, _, _, rfl, h1, so.pl.cls, so.no _ (by decide), rfl, l, d1, _, rfl, g1, l, aT K, m, rfl, h2, T.leg.cT, gw, fun H' s' => ⟨_, rfl, _, rfl, by rw [empty_app, app_len, app_len, e1, sizeLine_eq]; omega, ?_⟩⟩
    rw [empty_app]
    exact k H' s'
end
end Kx
set_option maxHeartbeats 4000000
namespace Kx
open PySem PySem.Spec PyProof.Rows L2 Xr
local macro_rules | `(tactic| walk_at "rd") => `(tactic| (repeat (first | apply Exists.intro | (refine And.intro rfl ?_) | (refine And.intro (SqL.of (by assumption)) ?_) | (refine And.intro (Or.inl (SqL.of (by assumption))) ?_) | (refine Or.inl ⟨_, rfl, ?_⟩) | (refine Or.inr ⟨_, rfl, ?_⟩) | (refine And.intro (by assumption) ?_) | (refine And.intro (Or.inl (by assumption)) ?_))))
theorem perm_canon {m t : Tab} (c : Canon m) (nd : (ks t).Nodup) (nz : ∀ p ∈ t, p.2 ≠ 0) (h : ∀ k, val m k = val t k) : m.Perm t := by
  have n1 : m.Nodup := (List.Pairwise.of_map (fun p : Str × Int => p.1) (fun a b h e => h (by rw [e])) c.nd)
  have n2 : t.Nodup := (List.Pairwise.of_map (fun p : Str × Int => p.1) (fun a b h e => h (by rw [e])) nd)
  refine (List.perm_ext_iff_of_nodup n1 n2).mpr fun p => ⟨fun hp => ?_, fun hp => ?_⟩
  · have e := val_mem c.nd hp
    have z := c.nz p hp
    rw [h] at e
    by_cases hk : p.1 ∈ ks t
    · obtain ⟨p', hp', e'⟩ := List.mem_map.mp hk
      have e2 := val_mem nd hp'
      rw [e', e] at e2
      have : p' = p := Prod.ext e' e2.symm
      exact this ▸ hp'
    · rw [val_out hk] at e
      exact absurd e.symm z
  · have e := val_mem nd hp
    have z := nz p hp
    rw [← h] at e
    by_cases hk : p.1 ∈ ks m
    · obtain ⟨p', hp', e'⟩ := List.mem_map.mp hk
      have e2 := val_mem c.nd hp'
      rw [e', e] at e2
      have : p' = p := Prod.ext e' e2.symm
      exact this ▸ hp'
    · rw [val_out hk] at e
      exact absurd e.symm z
theorem stgOk_perm {m t : Tab} (h : m.Perm t) : stgOk m = stgOk t := by
  unfold stgOk
  rw [h.length_eq]
  congr 1
  rw [Bool.eq_iff_iff, List.all_eq_true, List.all_eq_true]
  exact ⟨fun z p hp => z p (h.mem_iff.mpr hp), fun z p hp => z p (h.mem_iff.mp hp)⟩
theorem termsIn_goodA {ws : List Str} {a : Nat} {t : Tab} (h : termsIn ws a = .ok t) : (ks t).Nodup ∧ t.length ≤ ws.length ∧ ∀ p ∈ t, GoodP p := by
  unfold termsIn at h
  split at h
  · split at h
    · cases h
    · cases h
      exact ⟨List.nodup_nil, Nat.zero_le _, fun _ h => (List.not_mem_nil h).elim⟩
  · obtain ⟨h1, h2, h3⟩ := termsFrom_nd ws _ a [] t List.nodup_nil (Nat.zero_le _) (.inl rfl) h
    exact ⟨h1, h2, fun p hp => (h3 p hp).elim (fun z => (List.not_mem_nil z).elim) id⟩
/-- the name and the numbers that words from an index on write -/
def stgIn (ws : List Str) (a : Nat) : Except Nat (Str × Tab) := match wordAt ws a with
  | .error e => .error e
  | .ok n => if nameS n = true then (match wordAt ws (a + 1) with
    | .error e => .error e
    | .ok x => if x = "=" then (match termsIn ws (a + 2) with
      | .error e => .error e
      | .ok t => .ok (n, t)) else .error (a + 1)) else .error a
theorem stgIn_good {ws : List Str} {a : Nat} {n : Str} {t : Tab} (h : stgIn ws a = .ok (n, t)) : nameS n = true ∧ (ks t).Nodup ∧ t.length ≤ ws.length ∧ ∀ p ∈ t, GoodP p := by
  unfold stgIn at h
  cases h1 : wordAt ws a with
  | error e => rw [h1] at h; cases h
  | ok x =>
    rw [h1] at h
    dsimp only at h
    by_cases h2 : nameS x = true
    · rw [if_pos h2] at h
      cases h3 : wordAt ws (a + 1) with
      | error e => rw [h3] at h; cases h
      | ok y =>
        rw [h3] at h
        dsimp only at h
        by_cases h4 : y = "="
        · rw [if_pos h4] at h
          cases h5 : termsIn ws (a + 2) with
          | error e => rw [h5] at h; cases h
          | ok t' =>
            rw [h5] at h
            cases h
            exact ⟨h2, termsIn_goodA h5⟩
        · rw [if_neg h4] at h
          cases h
    · rw [if_neg h2] at h
      cases h
section
variable {P : Program} {w : World} {K : PySem.W.Frag} {mg : Str → Option Value} {base : Heap}
theorem nm_len8 {x : Str} (z : nameS x = true) : x.length ≤ 8 := by
  unfold nameS at z
  obtain ⟨z1, _⟩ := Bool.and_eq_true_iff.mp z
  obtain ⟨_, z1⟩ := Bool.and_eq_true_iff.mp z1
  exact of_decide_eq_true z1
theorem name_V {H : Hp} {x : Str} (z : nameS x = true) : NameV K H (.str x) true := .inl ⟨x, rfl, by have := nm_len8 z; omega, by rw [name_eq]; exact z⟩
def TermJ (K : PySem.W.Frag) (ws : List Str) (a : Nat) (H1 : Hp) (v : V) (H' : Hp) : Prop := ∃ z m t, v = .ref z ∧ termsIn ws a = .ok t ∧ Canon m ∧ (∀ k, val m k = val t k) ∧ m.length ≤ t.length ∧ Same H1 H' ∧ LegsAt H' (aT K) z m
theorem sc_strategy_in : FnScope ["words", "line", "at", "name"] ["words", "line", "at"] (defScope (top 23)) := ⟨rfl, rfl, rfl, by decide +kernel, rfl, by decide +kernel, by decide +kernel⟩
def spSIn (K : PySem.W.Frag) : Sp := fun vs H Q E => ∃ l ln a ws, vs = [.ref l, ln, .int ((a : Nat) : Int)] ∧ Wds H l ws ∧ ws.length < 64 ∧
  (∀ n t, stgIn ws a = .ok (n, t) → ∀ p y m H', Canon m → (∀ k, val m k = val t k) → m.length ≤ t.length → Same H H' → LegsAt H' (aT K) y m → H' p = some (.tup [.str n, .ref y]) → Q (.ref p) H') ∧ ∀ e, stgIn ws a = .error e → FltX K ln e H E
theorem ok_strategy_in (T : Txt P K mg) : OkF P w K mg base (L2.CX P w) 7 (He.ga K "strategy_in") ["words", "line", "at"] (spSIn K) := by
  obtain ⟨fI, fdI, ErC_InvalidText, ErB_InvalidText⟩ := T.e_InvalidText.made
  have G_word_at := ok_word_at (P := P) (w := w) (base := base) T
  have G_is_name := ok_is_name (P := P) (w := w) (base := base) T
  have G_terms_in := ok_terms_in (P := P) (w := w) (base := base) T
  have G_TableLegs := ok_TableLegs (P := P) (w := w) (base := base) T
  obtain ⟨fd, F⟩ := T.F_strategy_in
  refine ⟨fd, F.ok sc_strategy_in (fun vs H Q E h => ?_) (fun cdv A outer s H vs Q E hr h => ?_), F.bindsN fun _ _ _ _ _ _ us hl => match us, hl with | [_, _, _], _ => rfl, F.kp⟩
  · obtain ⟨l, ln, a, ws, rfl, _⟩ := h
    rfl
  · obtain ⟨l, ln, a, ws, rfl, hw, hlen, k, kx⟩ := h
    refine ⟨_, (pss_cons (ps_asg (pe_f G_word_at (hr.mono (by decide)) (by rfl) T.g_word_at (passes_call (takes_of rfl rfl rfl rfl) (fun _ _ _ _ h => h)) (pa_cons (pv 0) (pa_cons (pv 1) (pa_cons (pv 2) pa_nil)))) (pg_name (i := 3) sc_strategy_in.nd rfl (.inl rfl)))
    (pss_cons (ps_if (pt_not (pt_val (pe_f G_is_name (hr.mono (by decide)) (by rfl) T.g_is_name pass0 (pa_cons (pv 3) pa_nil))))
      (pss_one (ps_raise rfl (takes_of rfl rfl rfl rfl) (pmk_err ErC_InvalidText ErB_InvalidText (by decide) (hr.mono (by decide)) (by rfl) T.g_InvalidText (pa_cons (pv 1) (pa_cons (pv 2) pa_nil)))))
      pss_nil)
    (pss_cons (ps_if (pt_cmpR op_ne (pe_f G_word_at (hr.mono (by decide)) (by rfl) T.g_word_at (passes_call (takes_of rfl rfl rfl rfl) (fun _ _ _ _ h => h)) (pa_cons (pv 0) (pa_cons (pv 1) (pa_cons (pe_op op_add (pv 2) pe_int) pa_nil)))) pe_str (nomark _))
      (pss_one (ps_raise rfl (takes_of rfl rfl rfl rfl) (pmk_err ErC_InvalidText ErB_InvalidText (by decide) (hr.mono (by decide)) (by rfl) T.g_InvalidText (pa_cons (pv 1) (pa_cons (pe_op op_add (pv 2) pe_int) pa_nil)))))
      pss_nil)
    (pss_one (ps_ret (pe_tup (pa_cons (pv 3) (pa_cons (pe_cut (pe_mkI T.leg.mT G_TableLegs (hr.mono (by decide)) (by rfl) T.g_TableLegs pass0 (pa_cons (pe_f G_terms_in (hr.mono (by decide)) (by rfl) T.g_terms_in (passes_call (takes_of rfl rfl rfl rfl) (fun _ _ _ _ h => h)) (pa_cons (pv 0) (pa_cons (pv 1) (pa_cons (pe_op op_add (pv 2) pe_int) pa_nil)))) pa_nil))) pa_nil)))))))), ?_⟩
    unfold stgIn at k kx
    refine ⟨_, rfl, _, rfl, _, rfl, l, ln, a, ws, rfl, hw, fun x hx => ?_, fun e he => kx e (by rw [he])⟩
    rw [hx] at k kx
    dsimp only at k kx
    have hxl := hw.each x (atI_word hx).2.2
    refine ⟨_, rfl, _, rfl, .inl ⟨x, rfl, hxl, fun H1 s1 => ?_⟩⟩
    rw [name_eq]
    have hw1 := hw.same s1
    cases hn : nameS x with
    | false =>
      rw [hn, if_neg Bool.false_ne_true] at kx
      exact ⟨_, rfl, iteTr rfl ⟨_, rfl, _, rfl, rfl, ((kx _ rfl).same s1).new⟩⟩
    | true =>
      rw [hn, if_pos rfl] at k kx
      refine ⟨_, rfl, iteFa rfl ?_⟩
      refine ⟨_, rfl, _, rfl, _, rfl, _, _, rfl, rfl, l, ln, a + 1, ws, rfl, hw1, fun y hy => ?_, fun e he => (kx e (by rw [he])).same s1⟩
      rw [hy] at k kx
      dsimp only at k kx
      refine ⟨rfl, _, rfl, ?_⟩
      by_cases h2 : y = "="
      · rw [if_pos h2] at k kx
        refine iteFa (by rw [h2]; simp) ?_
        refine ⟨_, rfl, .mk (TermJ K ws (a + 2) H1) ?_ ?_⟩
        · refine ⟨_, rfl, _, rfl, _, rfl, _, _, rfl, rfl, l, ln, a + 2, ws, rfl, hw1, fun t ht d H2 s2 _ hd => ?_, fun e he => (kx e (by rw [he])).same s1⟩
          obtain ⟨g1, g2, _⟩ := termsIn_goodA ht
          exact mkT_ok (Q := TermJ K ws (a + 2) H1) hd g1 (by omega) fun z m H3 cm hv hlen s3 lm _ => ⟨z, m, t, rfl, ht, cm, hv, hlen, s2.trans s3, lm⟩
        · rintro _ H3 ⟨z, m, t, rfl, ht, cm, hv, hlen, s3, lm⟩
          rw [ht] at k
          refine ⟨show 2 ≤ sizeLine by decide, fun p np => ?_⟩
          have s4 := same_new (o := .tup [.str x, .ref z]) np
          exact k _ _ rfl p z m _ cm hv hlen ((s1.trans s3).trans s4) (lm.same s4) upd_same
      · rw [if_neg h2] at kx
        exact iteTr (by simp [h2]) ⟨_, rfl, _, rfl, _, _, rfl, rfl, rfl, ((kx _ rfl).same s1).new⟩
theorem sc_Strategy_read : FnScope ["cls", "text", "name", "legs"] ["cls", "text"] (defScope (inClass (top 30) 2)) := ⟨rfl, rfl, rfl, by decide +kernel, rfl, by decide +kernel, by decide +kernel⟩
def spSRead (K : PySem.W.Frag) : Sp := fun vs H Q E => ∃ v, vs = [.ref (aS K), v] ∧ ((∃ x, v = .str x ∧ x.length ≤ 100000 ∧ WdL (Txt.split x " ") ∧ (Txt.split x " ").length < 64 ∧
      (∀ n t, stgIn (Txt.split x " ") 0 = .ok (n, t) → stgOk t = true → ∀ y m H', Canon m → (∀ k, val m k = val t k) → Same H H' → StgAt K H' (aT K) y n m → Q (.ref y) H') ∧
      (∀ n t, stgIn (Txt.split x " ") 0 = .ok (n, t) → stgOk t = false → FltS K "legs" H E) ∧ ∀ e, stgIn (Txt.split x " ") 0 = .error e → FltX K (.int 0) e H E) ∨
    ∃ t, TyX K H v t ∧ PySem.W.kitOne K t (.type "str") = some false ∧ FltX K (.int 0) 0 H E)
theorem fn_Strategy_read (T : Txt P K mg) {fd : FuncData} (F : FunD K "read" "Strategy.read" (defArgs (inClass (top 30) 2)) (defBody (inClass (top 30) 2)) (defScope (inClass (top 30) 2)) [] [] (He5.wf K (He.ga K "Strategy") "classmethod" "read") fd) : FnOk P w K mg base (L2.CX P w) 8 (He5.wf K (He.ga K "Strategy") "classmethod" "read") fd ["cls", "text"] (spSRead K) := by
  obtain ⟨fI, fdI, ErC_InvalidText, ErB_InvalidText⟩ := T.e_InvalidText.made
  have G_strategy_in := ok_strategy_in (P := P) (w := w) (base := base) T
  have G_init := (ok_Strategy_init (P := P) (w := w) (base := base) T).fnR
  refine F.ok sc_Strategy_read (fun vs H Q E h => ?_) (fun cdv A outer s H vs Q E hr h => ?_)
  · obtain ⟨v, rfl, _⟩ := h
    rfl
  · obtain ⟨v, rfl, k⟩ := h
    refine ⟨_, (pss_cons (ps_if (pt_not (pt_val (pe_callB (call_isiK K) (by rfl) T.z_isinstance (by decide +kernel) (pa_cons (pv 1) (pa_cons (pe_bltn (v := .ty "str") (by rfl) T.z_str (by decide +kernel) rfl) pa_nil)))))
      (pss_one (ps_raise rfl (takes_of rfl rfl rfl rfl) (pmk_err ErC_InvalidText ErB_InvalidText (by decide) (hr.mono (by decide)) (by rfl) T.g_InvalidText (pa_cons pe_int (pa_cons pe_int pa_nil)))))
      pss_nil)
    (pss_cons (ps_asg (pe_f G_strategy_in (hr.mono (by decide)) (by rfl) T.g_strategy_in (passes_call (takes_of rfl rfl rfl rfl) (fun _ _ _ _ h => h)) (pa_cons (pe_split (pv 1) pe_str) (pa_cons pe_int (pa_cons pe_int pa_nil)))) (pg_tup rfl (pgs_cons (pg_name (i := 2) sc_Strategy_read.nd rfl (.inl rfl)) (pgs_cons (pg_name (i := 3) sc_Strategy_read.nd rfl (.inl rfl)) pgs_nil))))
    (pss_one (ps_ret (pe_makeV T.stg.oc.mks G_init (hr.mono (by decide)) (passes_call (takes_of rfl rfl rfl rfl) (fun _ _ _ _ h => h)) (pv 0) (pa_cons (pv 2) (pa_cons (pv 3) pa_nil))))))), ?_⟩
    rcases k with ⟨x, rfl, hx, hw, hl, k, kl, kx⟩ | ⟨t, ty, e, kx⟩
    · refine ⟨_, rfl, _, _, _, _, _, rfl, .ty "str", .base (.str x), kit_ss, _, rfl, ?_⟩
      refine iteFa rfl ⟨_, rfl, ⟨_, rfl⟩, x, " ", rfl, rfl, rfl, by rw [sizeLine_eq]; omega, fun p np => ?_⟩
      have s1 : Same H (upd H p (.lst ((Txt.split x " ").map V.str))) := same_new np
      refine ⟨p, _, 0, _, rfl, ⟨upd_same, hw.len, hw.each, hw.ok⟩, hl, fun n t ht q y m H2 cm hv hlen s2 lm hq => ?_, fun e he => (kx e he).same s1⟩
      obtain ⟨g0, g1, g2, g3⟩ := stgIn_good ht
      have e := stgOk_perm (perm_canon cm g1 (fun p hp => (g3 p hp).ne) hv)
      have s12 := s1.trans s2
      refine ⟨q, _, rfl, SqT.of hq, rfl, _, _, rfl, _, _, rfl, rfl, _, rfl, rfl, _, rfl, _, rfl, ?_⟩
      refine mkS_ok (bn := true) (bl := stgOk t) (name_V g0) (.inl ⟨y, aT K, m, rfl, lm, T.leg.cT, e⟩) (fun z => by cases z) (fun _ z => (kl n t ht z).same s12) fun _ z u dx H3 s3 h3 _ => ?_
      exact k n t ht z u m H3 cm hv (s12.trans s3) ⟨dx, y, h3, lm.same s3⟩
    · refine ⟨_, rfl, _, _, _, _, _, rfl, .ty "str", ty, e, _, rfl, iteTr rfl ⟨rfl, kx.new⟩⟩
theorem ok_Strategy_read (T : Txt P K mg) : OkF P w K mg base (L2.CX P w) 8 (He5.wf K (He.ga K "Strategy") "classmethod" "read") ["cls", "text"] (spSRead K) := by
  obtain ⟨fd, F⟩ := T.F_Strategy_read
  exact ⟨fd, fn_Strategy_read T F, F.bindsN fun _ _ _ _ _ _ us hl => match us, hl with | [_, _], _ => rfl, F.kp⟩
theorem okK_Strategy_read (T : Txt P K mg) : FnRK P w K mg base (L2.CX P w) 8 (He5.wf K (He.ga K "Strategy") "classmethod" "read") 1 ["text"] (spSRead K) := by
  obtain ⟨fd, F⟩ := T.F_Strategy_read
  exact fnOk_kw (fn_Strategy_read T F) (funD_kb F fun _ _ _ _ _ _ us ws hu hw => match us, ws, hu, hw with | [_], [_], _, _ => rfl)
end
end Kx
set_option maxHeartbeats 4000000
namespace Kx
open PySem PySem.Spec PyProof.Rows L2 Xr
local macro_rules | `(tactic| walk_at "rd") => `(tactic| (repeat (first | apply Exists.intro | (refine And.intro rfl ?_) | (refine And.intro (SqL.of (by assumption)) ?_) | (refine And.intro (Or.inl (SqL.of (by assumption))) ?_) | (refine Or.inl ⟨_, rfl, ?_⟩) | (refine Or.inr ⟨_, rfl, ?_⟩) | (refine And.intro (by assumption) ?_) | (refine And.intro (Or.inl (by assumption)) ?_))))
section
variable {P : Program} {w : World} {K : PySem.W.Frag} {mg : Str → Option Value} {base : Heap}
/-- the signs of x that are not in y -/
def offS (x y : Str) : List Str := (x.cps.toList.filter fun c => !decide (c ∈ y.cps.toList)).map fun c => ⟨#[c]⟩
theorem off_nil {x y : Str} : offS x y = [] ↔ (x.cps.toList.all fun c => decide (c ∈ y.cps.toList)) = true := by
  unfold offS
  rw [List.map_eq_nil_iff, List.filter_eq_nil_iff, List.all_eq_true]
  constructor
  · intro h c hc
    have := h c hc
    simpa using this
  · intro h c hc
    have := h c hc
    simpa using this
theorem off_ok {x y : Str} (h : PyData.strOk x = true) : ∀ z ∈ offS x y, PyData.strOk z = true := fun z hz => by
  obtain ⟨c, hc, rfl⟩ := List.mem_map.mp hz
  have h2 := (List.mem_filter.mp hc).1
  unfold PyData.strOk at h
  rw [← Array.all_toList, List.all_eq_true] at h
  refine ok_of fun d hd => ?_
  have : d = c := by simpa using hd
  rw [this]
  exact of_decide_eq_true (h c h2)
theorem off_map {x y : Str} : (List.map (fun v => v) (List.filter (fun v => !(match v with | V.str c => decide (c.cps.toList.headD 0 ∈ y.cps.toList) | _ => false)) (signsV x))) = (offS x y).map V.str := by
  unfold offS signsV
  rw [List.map_id', List.filter_map, List.map_map]
  rfl
theorem sc__law_is_name : FnScope ["_law_word", "_law_sign"] ["_law_word"] (defScope (top 36)) := ⟨rfl, rfl, rfl, by decide +kernel, rfl, by decide +kernel, by decide +kernel⟩
def spIsNameL : Sp := fun vs H Q _ => ∃ x, vs = [.str x] ∧ x.length ≤ 100000 ∧ PyData.strOk x = true ∧ ∀ H', Same H H' → Q (.bl (nameS x)) H'
theorem ok__law_is_name (T : Txt P K mg) : OkF P w K mg base CX0 1 (He.ga K "_law_is_name") ["_law_word"] spIsNameL := by
  obtain ⟨fd, F⟩ := T.F__law_is_name
  refine ⟨fd, F.ok sc__law_is_name (fun vs H Q E h => ?_) (fun cdv A outer s H vs Q E hr h => ?_), F.bindsN fun _ _ _ _ _ _ us hl => match us, hl with | [_], _ => rfl, F.kp⟩
  · obtain ⟨x, rfl, _⟩ := h
    rfl
  · obtain ⟨x, rfl, hx, hok, k⟩ := h
    have hu64 := hr.units
    refine ⟨_, PSs.nox (pss_one (ps_ret (pe_and (pe_chain op_le op_le pe_int (pe_callB call_len (by rfl) T.z_len (by decide +kernel) (pa_cons (pv 0) pa_nil)) pe_int) (pe_one (pe_cmpR (op_eqD hu64) (pe_lc (own := [("_law_sign", 1)]) (g := gName 1) rfl sc__law_is_name.nd (pi_str (pv 0)) (blkOk_by (N := ["_law_word", "_law_sign"]) (sc := defScope (top 36)) (by decide +kernel)) (fun _ _ _ _ _ => pg_name (i := 1) sc__law_is_name.nd rfl (Or.inl rfl)) (fun _ _ _ _ _ => (pts_one (pt_cmpR op_notIn_sign (pv 1) pe_str (by rfl)))) (fun _ _ _ _ _ => (pv 1))) (pe_lst pa_nil) (nomark _)))))), ?_⟩
    refine ⟨_, rfl, _, x.length, rfl, ⟨by rw [sizeLine_eq]; omega, rfl⟩, 1, (x.length : Int), rfl, rfl, _, rfl, ?_⟩
    have no : ¬ (1 ≤ x.length ∧ x.length ≤ 8) → Q (.bl false) H := fun h => by
      have z := k H (Same.refl H)
      have e : nameS x = false := by
        unfold nameS
        by_cases h1 : 1 ≤ x.length
        · rw [decide_eq_false (show ¬ x.length ≤ 8 from fun y => h ⟨h1, y⟩), Bool.and_false]
          rfl
        · rw [decide_eq_false h1]
          rfl
      rw [e] at z
      exact z
    refine iteD (fun h1 => ?_) (fun h1 => ⟨_, rfl, no (by omega)⟩)
    refine ⟨_, _, rfl, rfl, _, rfl, ?_⟩
    by_cases h2 : (x.length : Int) ≤ 8
    · refine iteTr (decide_eq_true h2) ?_
      refine ⟨_, rfl, x, rfl, fun D hD => ?_⟩
      refine lcF yl_str (fun v => !(match v with | .str c => decide (c.cps.toList.headD 0 ∈ lettersS.cps.toList) | _ => false)) (fun v => v) hD (by unfold signsV; rw [List.length_map]; exact hx) (fun _ _ => trivial) (fun _ => rfl) (fun v H' hm _ Qb q => ?_) (fun v H' hm _ s2 Q2 q => ⟨_, rfl, q H' (Same.refl H')⟩) fun H' s2 hl => ?_
      · obtain ⟨c, _, rfl⟩ := List.mem_map.mp hm
        exact ⟨_, rfl, c, _, rfl, rfl, _, rfl, q H' (Same.refl H')⟩
      · rw [off_map] at hl
        refine ⟨show 0 ≤ sizeLine by decide, fun z nz => ?_⟩
        refine ⟨_, _, Dp.lst (SqL.of (same_new nz _ _ hl)) (dp_strsB _), Dp.lst (SqL.of upd_same) .nil, shaped_strsB _ (off_ok hok), rfl, ?_⟩
        rw [eqv_nilB]
        have e : (offS x lettersS).isEmpty = nameS x := by
          unfold nameS
          rw [decide_eq_true (show 1 ≤ x.length by omega), decide_eq_true (show x.length ≤ 8 by omega)]
          rw [Bool.true_and, Bool.true_and, Bool.eq_iff_iff, List.isEmpty_iff, off_nil]
        rw [e]
        exact k _ (s2.trans (same_new nz))
    · exact iteFa (decide_eq_false h2) (no (by omega))
theorem sc__law_count : FnScope ["_law_word", "_law_sign"] ["_law_word"] (defScope (top 37)) := ⟨rfl, rfl, rfl, by decide +kernel, rfl, by decide +kernel, by decide +kernel⟩
def spCountL : Sp := fun vs H Q _ => ∃ x, vs = [.str x] ∧ x.length ≤ 100000 ∧ PyData.strOk x = true ∧ ∀ H', Same H H' → Q (numV (numIn x)) H'
theorem ok__law_count (T : Txt P K mg) : OkF P w K mg base CX0 1 (He.ga K "_law_count") ["_law_word"] spCountL := by
  obtain ⟨fd, F⟩ := T.F__law_count
  refine ⟨fd, F.ok sc__law_count (fun vs H Q E h => ?_) (fun cdv A outer s H vs Q E hr h => ?_), F.bindsN fun _ _ _ _ _ _ us hl => match us, hl with | [_], _ => rfl, F.kp⟩
  · obtain ⟨x, rfl, _⟩ := h
    rfl
  · obtain ⟨x, rfl, hx, hok, k⟩ := h
    have hu64 := hr.units
    refine ⟨_, PSs.nox (pss_cons (ps_if (PW.pt (pw_or (pt_not (pt_chain op_le op_le pe_int (pe_callB call_len (by rfl) T.z_len (by decide +kernel) (pa_cons (pv 0) pa_nil)) pe_int)) (pw_or1 (pt_cmpR (op_neD hu64) (pe_lc (own := [("_law_sign", 1)]) (g := gName 1) rfl sc__law_count.nd (pi_str (pv 0)) (blkOk_by (N := ["_law_word", "_law_sign"]) (sc := defScope (top 37)) (by decide +kernel)) (fun _ _ _ _ _ => pg_name (i := 1) sc__law_count.nd rfl (Or.inl rfl)) (fun _ _ _ _ _ => (pts_one (pt_cmpR op_notIn_sign (pv 1) pe_str (by rfl)))) (fun _ _ _ _ _ => (pv 1))) (pe_lst pa_nil) (nomark _)))))
      (pss_one (ps_ret pe_non))
      pss_nil)
    (pss_one (ps_ret (pe_ifExp (PW.pt (pw_and (pt_cmpR op_eq (pe_ix ix_str (pv 0) pe_int (fun _ _ => rfl)) pe_str (nomark _)) (pw_and1 (pt_cmpR op_ne (pv 0) pe_str (nomark _))))) pe_non (pe_callTy call_int_str (by rfl) T.z_int (by decide +kernel) (pa_cons (pv 0) pa_nil)))))), ?_⟩
    have fin : numIn x = none → ∀ H', Same H H' → Q .non H' := fun e H' s => by have z := k H' s; rw [e] at z; exact z
    refine ⟨_, rfl, _, x.length, rfl, ⟨by rw [sizeLine_eq]; omega, rfl⟩, 1, (x.length : Int), rfl, rfl, _, rfl, ?_⟩
    have lB : ¬ (1 ≤ x.length ∧ x.length ≤ 60) → numIn x = none := fun h => by
      unfold numIn
      rw [if_neg]
      intro z
      obtain ⟨z, _⟩ := Bool.and_eq_true_iff.mp z
      obtain ⟨z1, z2⟩ := Bool.and_eq_true_iff.mp z
      exact h ⟨of_decide_eq_true z1, of_decide_eq_true z2⟩
    refine iteD (fun h1 => ?_) (fun h1 => ⟨false, rfl, fin (lB (by omega)) H (Same.refl H)⟩)
    refine ⟨_, _, rfl, rfl, _, rfl, ?_⟩
    by_cases h2 : (x.length : Int) ≤ 60
    · refine iteFa (by rw [decide_eq_true h2]; rfl) ?_
      refine ⟨_, rfl, x, rfl, fun D hD => ?_⟩
      refine lcF yl_str (fun v => !(match v with | .str c => decide (c.cps.toList.headD 0 ∈ digS.cps.toList) | _ => false)) (fun v => v) hD (by unfold signsV; rw [List.length_map]; exact hx) (fun _ _ => trivial) (fun _ => rfl) (fun v H' hm _ Qb q => ?_) (fun v H' hm _ s2 Q2 q => ⟨_, rfl, q H' (Same.refl H')⟩) fun H' s2 hl => ?_
      · obtain ⟨c, _, rfl⟩ := List.mem_map.mp hm
        exact ⟨_, rfl, c, _, rfl, rfl, _, rfl, q H' (Same.refl H')⟩
      · rw [off_map] at hl
        refine ⟨show 0 ≤ sizeLine by decide, fun z nz => ?_⟩
        refine ⟨_, _, Dp.lst (SqL.of (same_new nz _ _ hl)) (dp_strsB _), Dp.lst (SqL.of upd_same) .nil, shaped_strsB _ (off_ok hok), rfl, _, rfl, ?_⟩
        rw [eqv_nilB]
        have s3 := s2.trans (same_new (o := .lst []) nz)
        generalize upd H' z (.lst []) = H3 at s3
        have ea : (offS x digS).isEmpty = (x.cps.toList.all fun c => decide (c ∈ digS.cps.toList)) := by
          rw [Bool.eq_iff_iff, List.isEmpty_iff, off_nil]
        rw [ea]
        cases ha : (x.cps.toList.all fun c => decide (c ∈ digS.cps.toList)) with
        | false =>
          refine fin ?_ H3 s3
          unfold numIn
          rw [ha, Bool.and_false]
          rfl
        | true =>
          have hl1 : 1 ≤ x.length := by omega
          have hl2 : x.length ≤ 60 := by omega
          have en : numIn x = if x = "0" ∨ x.cps.toList.headD 0 ≠ 48 then some ((NumText.digitsVal x.cps.toList : Nat) : Int) else none := by
            unfold numIn
            rw [ha, decide_eq_true hl1, decide_eq_true hl2]
            rfl
          have hint : PySem.intText? x = some ((NumText.digitsVal x.cps.toList : Nat) : Int) := by
            refine PySem.intText_digits (fun c hc => dig_iff.mp (of_decide_eq_true (List.all_eq_true.mp ha c hc))) (fun z => ?_) (by omega)
            rw [← len_toList, z] at hl1
            simp at hl1
          have hne : ∃ c r, x.cps.toList = c :: r := by
            cases h : x.cps.toList with
            | nil => rw [← len_toList, h] at hl1; simp at hl1
            | cons c r => exact ⟨c, r, rfl⟩
          obtain ⟨c, r, hc⟩ := hne
          have yes : (x = "0" ∨ x.cps.toList.headD 0 ≠ 48) → Q (.int ((NumText.digitsVal x.cps.toList : Nat) : Int)) H3 := fun z => by
            have q := k H3 s3
            rw [en, if_pos z] at q
            exact q
          have no : ¬ (x = "0" ∨ x.cps.toList.headD 0 ≠ 48) → Q .non H3 := fun z => by
            have q := k H3 s3
            rw [en, if_neg z] at q
            exact q
          refine ⟨_, rfl, x, 0, c, rfl, rfl, by rw [sizeLine_eq]; omega, by rw [hc]; unfold atI ixN; rw [if_pos (by decide), if_pos (by simp)]; rfl, rfl, _, rfl, ?_⟩
          have ec : decide (V.str ⟨#[c]⟩ = V.str "0") = decide (c = 48) := by
            have z : (Str.ofString "0") = ⟨#[48]⟩ := by decide +kernel
            by_cases hc2 : c = 48
            · subst hc2
              rw [z]
              simp
            · rw [decide_eq_false hc2, z]
              simp [hc2]
          rw [ec]
          by_cases hc2 : c = 48
          · refine iteTr (decide_eq_true hc2) ⟨_, rfl, rfl, _, rfl, ?_⟩
            by_cases h0 : x = "0"
            · exact iteFa (by rw [h0]; simp) ⟨_, rfl, x, _, rfl, hint, by omega, yes (.inl h0)⟩
            · exact iteTr (by simp [h0]) (no (by rw [hc]; simp [h0, hc2]))
          · exact iteFa (decide_eq_false hc2) ⟨_, rfl, x, _, rfl, hint, by omega, yes (.inr (by rw [hc]; exact hc2))⟩
    · exact iteTr (by rw [decide_eq_false h2]; rfl) (fin (lB (by omega)) H (Same.refl H))
end
end Kx
set_option maxHeartbeats 4000000
namespace Kx
open PySem PySem.Spec PyProof.Rows L2 Xr
local macro_rules | `(tactic| walk_at "rd") => `(tactic| (repeat (first | apply Exists.intro | (refine And.intro rfl ?_) | (refine And.intro (SqL.of (by assumption)) ?_) | (refine And.intro (Or.inl (SqL.of (by assumption))) ?_) | (refine Or.inl ⟨_, rfl, ?_⟩) | (refine Or.inr ⟨_, rfl, ?_⟩) | (refine And.intro (by assumption) ?_) | (refine And.intro (Or.inl (by assumption)) ?_))))
section
variable {P : Program} {w : World} {K : PySem.W.Frag} {mg : Str → Option Value} {base : Heap}
theorem eq1 {H : Hp} {l : Addr} {ws : List Str} {a : Nat} {c : Str} {Q : VK} (hw : Wds H l ws) (hc : PyData.strOk c = true) (k : ∀ H', Same H H' → Q (.bl (decide (ws[a]? = some c))) H') :
    ∀ p, H p = none → (1 ≤ sizeLine ∧ ∀ p2, upd H p (.lst (cutV (ws.map V.str) (some (a : Int)) (some ((a : Int) + 1)))) p2 = none → rEqD K (.ref p) (.ref p2) (upd (upd H p (.lst (cutV (ws.map V.str) (some (a : Int)) (some ((a : Int) + 1))))) p2 (.lst [.str c])) Q) := by
  intro p1 n1
  rw [cut1]
  refine ⟨by decide, fun p2 n2 => ?_⟩
  have hm : ∀ x ∈ ws[a]?.toList, PyData.strOk x = true := fun x hx => by
    cases e : ws[a]? with
    | none => rw [e] at hx; cases hx
    | some y =>
      rw [e] at hx
      rw [List.mem_singleton.mp hx]
      exact hw.ok y (List.mem_of_getElem? e)
  have s1 : Same H (upd H p1 (.lst ((ws[a]?.toList).map V.str))) := same_new n1
  have h1 : upd H p1 (.lst ((ws[a]?.toList).map V.str)) p1 = _ := upd_same
  have s2 := same_new (o := .lst [.str c]) n2
  refine ⟨_, _, Dp.lst (SqL.of (s2 _ _ h1)) (dp_strsB _), Dp.lst (SqL.of upd_same) (.cons (.str c) .nil), shaped_strsB _ hm, shaped_strsB [c] (fun x hx => by rw [List.mem_singleton.mp hx]; exact hc), ?_⟩
  rw [eqv_one]
  have ez : decide (ws[a]?.toList = [c]) = decide (ws[a]? = some c) := by
    cases ws[a]? <;> simp
  rw [ez]
  exact k _ (s1.trans s2)
theorem sIx_nat {n d a : Nat} : HT.sIx n d (some (a : Int)) = min a n := by
  show (if (a : Int) < 0 then ((a : Int) + n).toNat else min (a : Int).toNat n) = min a n
  rw [if_neg (by omega), Int.toNat_natCast]
theorem cut_drop {ws : List Str} {a : Nat} : cutV (ws.map V.str) (some (a : Int)) none = (ws.drop a).map V.str := by
  unfold cutV
  rw [sIx_nat, List.length_map, show HT.sIx ws.length ws.length none = ws.length from rfl, ← List.map_drop, ← List.map_take]
  congr 1
  rcases Nat.le_total a ws.length with h | h
  · rw [Nat.min_eq_left h]
    exact List.take_of_length_le (by rw [List.length_drop]; exact Nat.le_refl _)
  · rw [Nat.min_eq_right h, List.drop_length, List.drop_of_length_le h]
    simp
theorem eqDrop {H : Hp} {l : Addr} {ws : List Str} {a : Nat} {c : Str} {Q : VK} (hw : Wds H l ws) (hc : PyData.strOk c = true) (k : ∀ H', Same H H' → Q (.bl (decide (ws.drop a = [c]))) H') :
    ∀ p, H p = none → (1 ≤ sizeLine ∧ ∀ p2, upd H p (.lst (cutV (ws.map V.str) (some (a : Int)) none)) p2 = none → rEqD K (.ref p) (.ref p2) (upd (upd H p (.lst (cutV (ws.map V.str) (some (a : Int)) none))) p2 (.lst [.str c])) Q) := by
  intro p1 n1
  rw [cut_drop]
  refine ⟨by decide, fun p2 n2 => ?_⟩
  have s1 : Same H (upd H p1 (.lst ((ws.drop a).map V.str))) := same_new n1
  have h1 : upd H p1 (.lst ((ws.drop a).map V.str)) p1 = _ := upd_same
  have s2 := same_new (o := .lst [.str c]) n2
  refine ⟨_, _, Dp.lst (SqL.of (s2 _ _ h1)) (dp_strsB _), Dp.lst (SqL.of upd_same) (.cons (.str c) .nil), shaped_strsB _ (fun x hx => hw.ok x (List.mem_of_mem_drop hx)), shaped_strsB [c] (fun x hx => by rw [List.mem_singleton.mp hx]; exact hc), ?_⟩
  rw [eqv_one]
  exact k _ (s1.trans s2)
theorem eqE {H : Hp} {d : Addr} {acc : Tab} {Q : VK} (hd : H d = some (.dK (tabK acc))) (k : ∀ H', Same H H' → Q (.bl acc.isEmpty) H') : ∀ e, H e = none → rEqDF (.ref d) (.ref e) (upd H e (.dK [])) Q := by
  intro e ne
  refine ⟨d, e, _, _, rfl, rfl, same_new ne _ _ hd, upd_same, flat_tab _, fun _ h => (List.not_mem_nil h).elim, ?_⟩
  rw [eq_nilD]
  exact k _ (same_new ne)
theorem neE {H : Hp} {d : Addr} {acc : Tab} {Q : VK} (hd : H d = some (.dK (tabK acc))) (k : ∀ H', Same H H' → Q (.bl (!acc.isEmpty)) H') : ∀ e, H e = none → rNeDF (.ref d) (.ref e) (upd H e (.dK [])) Q := by
  intro e ne
  refine ⟨d, e, _, _, rfl, rfl, same_new ne _ _ hd, upd_same, flat_tab _, fun _ h => (List.not_mem_nil h).elim, ?_⟩
  rw [eq_nilD]
  exact k _ (same_new ne)
theorem tA_sign {ws : List Str} {a e : Nat} {acc : Tab} (h : signAt ws a acc.isEmpty = .error e) : termAt ws a acc = .error e := by
  unfold termAt
  rw [h]
theorem tA_size {ws : List Str} {a a1 e : Nat} {acc : Tab} {s : Int} (h : signAt ws a acc.isEmpty = .ok (s, a1)) (h2 : sizeAt ws a1 = .error e) : termAt ws a acc = .error e := by
  unfold termAt
  rw [h]
  dsimp only
  rw [h2]
theorem tA_word {ws : List Str} {a a1 a2 e : Nat} {acc : Tab} {s n : Int} (h : signAt ws a acc.isEmpty = .ok (s, a1)) (h2 : sizeAt ws a1 = .ok (n, a2)) (h3 : wordAt ws a2 = .error e) : termAt ws a acc = .error e := by
  unfold termAt
  rw [h]
  dsimp only
  rw [h2]
  dsimp only
  rw [h3]
theorem tA_bad {ws : List Str} {a a1 a2 : Nat} {acc : Tab} {s n : Int} {m : Str} (h : signAt ws a acc.isEmpty = .ok (s, a1)) (h2 : sizeAt ws a1 = .ok (n, a2)) (h3 : wordAt ws a2 = .ok m) (h4 : ¬ (nameS m = true ∧ m ∉ ks acc)) : termAt ws a acc = .error a2 := by
  unfold termAt
  rw [h]
  dsimp only
  rw [h2]
  dsimp only
  rw [h3]
  exact if_neg h4
theorem tA_good {ws : List Str} {a a1 a2 : Nat} {acc : Tab} {s n : Int} {m : Str} (h : signAt ws a acc.isEmpty = .ok (s, a1)) (h2 : sizeAt ws a1 = .ok (n, a2)) (h3 : wordAt ws a2 = .ok m) (h4 : nameS m = true ∧ m ∉ ks acc) : termAt ws a acc = .ok (acc ++ [(m, s * n)], a2 + 1) := by
  unfold termAt
  rw [h]
  dsimp only
  rw [h2]
  dsimp only
  rw [h3]
  exact if_pos h4
theorem word_none {ws : List Str} {a : Nat} (h : ws.length ≤ a) : wordAt ws a = .error ws.length := by
  unfold wordAt
  rw [List.getElem?_eq_none h]
theorem word_some {ws : List Str} {a : Nat} (h : a < ws.length) : wordAt ws a = .ok ws[a] ∧ ws[a]? = some ws[a] := by
  have e := List.getElem?_eq_getElem h
  refine ⟨?_, e⟩
  unfold wordAt
  rw [e]
theorem sc__law_legs : FnScope ["_law_words_here", "_law_at", "_law_found", "_law_sign", "_law_size"] ["_law_words_here", "_law_at"] (defScope (top 38)) := ⟨rfl, rfl, rfl, by decide +kernel, rfl, by decide +kernel, by decide +kernel⟩
def spLegsL (K : PySem.W.Frag) : Sp := fun vs H Q _ => ∃ l ws a0, vs = [.ref l, .int ((a0 : Nat) : Int)] ∧ Wds H l ws ∧ a0 ≤ ws.length ∧ (∀ t, termsIn ws a0 = .ok t → ∀ d H', Same H H' → H d = none → H' d = some (.dK (tabK t)) → Q (.ref d) H') ∧ ∀ e, termsIn ws a0 = .error e → ∀ H', Same H H' → Q (.int ((e : Nat) : Int)) H'
theorem ok__law_legs (T : Txt P K mg) : OkF P w K mg base CX0 2 (He.ga K "_law_legs") ["_law_words_here", "_law_at"] (spLegsL K) := by
  have G__law_count := ok__law_count (P := P) (w := w) (base := base) T
  have G__law_is_name := ok__law_is_name (P := P) (w := w) (base := base) T
  obtain ⟨fd, F⟩ := T.F__law_legs
  refine ⟨fd, F.ok sc__law_legs (fun vs H Q E h => ?_) (fun cdv A outer s H vs Q E hr h => ?_), F.bindsN fun _ _ _ _ _ _ us hl => match us, hl with | [_, _], _ => rfl, F.kp⟩
  · obtain ⟨l, ws, a0, rfl, _⟩ := h
    rfl
  · obtain ⟨l, ws, a0, rfl, hw, hl, k, kx⟩ := h
    have hu := hu_of hr
    have hu64 := hr.units
    refine ⟨_, PSs.nox (pss_cons (ps_if (pt_cmpR (op_eqD hu64) (pe_slice sl_list (pv 0) (po_some (pv 1)) po_none) (pe_lst (pa_cons pe_str pa_nil)) (nomark _))
      (pss_one (ps_ret pe_dnewK))
      pss_nil)
    (pss_cons (ps_if (pt_cmpR (op_eqD hu64) (pe_slice sl_list (pv 0) (po_some (pv 1)) (po_some (pe_op op_add (pv 1) pe_int))) (pe_lst (pa_cons pe_str pa_nil)) (nomark _))
      (pss_one (ps_ret (pe_op op_add (pv 1) pe_int)))
      pss_nil)
    (pss_cons (ps_asg pe_dnewK (pg_name (i := 2) sc__law_legs.nd rfl (.inl rfl)))
    (pss_cons (ps_while PassesOwn.never (PW.pt (pw_or (pt_cmpR op_lt (pv 1) (pe_callB call_len_seq (by rfl) T.z_len (by decide +kernel) (pa_cons (pv 0) pa_nil)) (nomark _)) (pw_or1 (pt_cmpR (op_eqDF hr.units0) (pv 2) pe_dnewK (nomark _)))))
      (pss_cons (ps_asg pe_int (pg_name (i := 3) sc__law_legs.nd rfl (.inl rfl)))
    (pss_cut (ps_if (pt_cmpR (op_eqD hu64) (pe_slice sl_list (pv 0) (po_some (pv 1)) (po_some (pe_op op_add (pv 1) pe_int))) (pe_lst (pa_cons pe_str pa_nil)) (nomark _))
      (pss_one (ps_par (i := 3) (j := 1) (by rfl) sc__law_legs.nd rfl rfl (by decide) rfl rfl (pa_cons (pe_un un_neg pe_int) (pa_cons (pe_op op_add (pv 1) pe_int) pa_nil)) (by rfl)))
      (pss_one (ps_if (PW.pt (pw_and (pt_cmpR (op_neDF hr.units0) (pv 2) pe_dnewK (nomark _)) (pw_and1 (pt_cmpR (op_eqD hu64) (pe_slice sl_list (pv 0) (po_some (pv 1)) (po_some (pe_op op_add (pv 1) pe_int))) (pe_lst (pa_cons pe_str pa_nil)) (nomark _)))))
      (pss_one (ps_asg (pe_op op_add (pv 1) pe_int) (pg_name (i := 1) sc__law_legs.nd rfl (.inl rfl))))
      (pss_one (ps_if (pt_cmpR (op_neDF hr.units0) (pv 2) pe_dnewK (nomark _))
      (pss_one (ps_ret (pv 1)))
      pss_nil)))))
    (pss_cons (ps_asg pe_int (pg_name (i := 4) sc__law_legs.nd rfl (.inl rfl)))
    (pss_cut (ps_if (PW.pt (pw_and (pt_cmpR op_lt (pv 1) (pe_callB call_len_seq (by rfl) T.z_len (by decide +kernel) (pa_cons (pv 0) pa_nil)) (nomark _)) (pw_and1 (pt_cmpR op_notN (pe_f G__law_count (hr.mono (by decide)) (by rfl) T.g__law_count pass0 (pa_cons (pe_ix (ix_listK K) (pv 0) (pv 1) (fun _ _ => rfl)) pa_nil)) pe_non (nomark _)))))
      (pss_cons (ps_asg (pe_f G__law_count (hr.mono (by decide)) (by rfl) T.g__law_count pass0 (pa_cons (pe_ix (ix_listK K) (pv 0) (pv 1) (fun _ _ => rfl)) pa_nil)) (pg_name (i := 4) sc__law_legs.nd rfl (.inl rfl)))
    (pss_cons (ps_if (pt_cmpR op_lt (pv 4) pe_int (nomark _))
      (pss_one (ps_ret (pv 1)))
      pss_nil)
    (pss_one (ps_asg (pe_op op_add (pv 1) pe_int) (pg_name (i := 1) sc__law_legs.nd rfl (.inl rfl))))))
      pss_nil)
    (pss_cons (ps_if (PW.pt (pw_or (pt_cmpR op_ge (pv 1) (pe_callB call_len_seq (by rfl) T.z_len (by decide +kernel) (pa_cons (pv 0) pa_nil)) (nomark _)) (pw_or (pt_not (pt_val (pe_f G__law_is_name (hr.mono (by decide)) (by rfl) T.g__law_is_name pass0 (pa_cons (pe_ix (ix_listK K) (pv 0) (pv 1) (fun _ _ => rfl)) pa_nil)))) (pw_or1 (pt_cmp (pc_din hu (pe_ix (ix_listK K) (pv 0) (pv 1) (fun _ _ => rfl)) (pv 2)) rfl)))))
      (pss_one (ps_ret (pe_callB (call_min2 rfl) (by rfl) T.z_min (by decide +kernel) (pa_cons (pv 1) (pa_cons (pe_callB call_len_seq (by rfl) T.z_len (by decide +kernel) (pa_cons (pv 0) pa_nil)) pa_nil)))))
      pss_nil)
    (pss_cons (ps_dput hu (pv 2) (pe_ix (ix_listK K) (pv 0) (pv 1) (fun _ _ => rfl)) (pe_op op_mul (pv 3) (pv 4)) rfl)
    (pss_one (ps_asg (pe_op op_add (pv 1) pe_int) (pg_name (i := 1) sc__law_legs.nd rfl (.inl rfl)))))))))))
    (pss_one (ps_ret (pv 2))))))), ?_⟩
    refine ⟨_, rfl, _, rfl, _, rfl, l, _, rfl, SqL.of hw.at_, eqDrop (a := a0) hw (by decide +kernel) fun H1 s1 => ⟨_, rfl, ?_⟩⟩
    have hw1 := hw.same s1
    have h0L : ws[a0]? = some ("0" : Str) → ws.length = a0 + 1 → ws.drop a0 = [("0" : Str)] := fun h1 h2 => by
      have hlt : a0 < ws.length := by omega
      rw [List.drop_eq_getElem_cons hlt, List.drop_of_length_le (by omega)]
      rw [List.getElem?_eq_getElem hlt] at h1
      rw [Option.some.inj h1]
    have h0R : ws.drop a0 = [("0" : Str)] → ws[a0]? = some ("0" : Str) ∧ ws.length = a0 + 1 := fun h => by
      have e1 : (ws.drop a0)[0]? = some ("0" : Str) := by rw [h]; rfl
      have e2 : (ws.drop a0).length = 1 := by rw [h]; rfl
      rw [List.getElem?_drop] at e1
      rw [List.length_drop] at e2
      exact ⟨e1, by omega⟩
    unfold termsIn at k kx
    by_cases hA : ws.drop a0 = [("0" : Str)]
    · refine iteTr (decide_eq_true hA) fun d nd => ?_
      rw [if_pos (h0R hA).1, if_neg (by have := (h0R hA).2; omega)] at k
      exact k _ rfl d _ (s1.trans (same_new nd)) (s1.free nd) upd_same
    · refine iteFa (decide_eq_false hA) ?_
      refine ⟨_, rfl, _, rfl, _, rfl, _, rfl, _, _, rfl, rfl, _, rfl, l, _, rfl, SqL.of hw1.at_, eq1 (a := a0) hw1 (by decide +kernel) fun H2 s2 => ⟨_, rfl, ?_⟩⟩
      have s12 := s1.trans s2
      have hw2 := hw.same s12
      by_cases hB : ws[a0]? = some ("0" : Str)
      · have hl2 : a0 + 1 < ws.length := by
          have hlt : a0 < ws.length := by
            rcases Nat.lt_or_ge a0 ws.length with z | z
            · exact z
            · rw [List.getElem?_eq_none z] at hB
              cases hB
          rcases Nat.lt_or_ge (a0 + 1) ws.length with z | z
          · exact z
          · exact absurd (h0L hB (by omega)) hA
        rw [if_pos hB, if_pos hl2] at kx
        refine iteTr (decide_eq_true hB) ⟨_, rfl, _, _, rfl, rfl, kx _ rfl H2 s12⟩
      · rw [if_neg hB] at k kx
        refine iteFa (decide_eq_false hB) fun d nd => ?_
        have ndH := s12.free nd
        have s3 := s12.trans (same_new (o := .dK []) nd)
        generalize hR : termsFrom ws (ws.length + 1) a0 [] = R at k kx
        refine ⟨fun m σ H' => ∃ (a' f : Nat) (acc : Tab) (v3 v4 : Option V), σ = [some (.ref l), some (.int (a' : Int)), some (.ref d), v3, v4] ∧ m = ws.length + 1 - a' ∧ Same H H' ∧ H' d = some (.dK (tabK acc)) ∧ termsFrom ws f a' acc = R ∧ acc.length ≤ a' ∧ (acc = [] → a' = a0) ∧ a' ≤ ws.length ∧ ws.length + 1 ≤ f + acc.length, ⟨_, a0, _, [], none, none, rfl, rfl, s3, upd_same, hR, Nat.zero_le _, fun _ => rfl, hl, Nat.le_refl _⟩, ?_⟩
        rintro m σ H' ⟨a', f, acc, v3, v4, rfl, rfl, s4, hd, hf, ha', ha0, hal, hfu⟩
        have hw4 := hw.same s4
        refine ⟨_, rfl, _, rfl, l, _, rfl, .inl (SqL.of hw4.at_), _, _, rfl, rfl, _, rfl, ?_⟩
        rw [List.length_map]
        by_cases hc : a' < ws.length
        · refine iteTr (by simpa using hc) (iteT ⟨_, fun _ _ h => h, ?_⟩)
          cases f with
          | zero => exfalso; omega
          | succ f =>
            have hf2 : (match termAt ws a' acc with | .error e => .error e | .ok (acc', at') => termsFrom ws f at' acc') = R := by
              unfold termsFrom at hf
              rw [if_pos (.inr hc)] at hf
              exact hf
            obtain ⟨ew, ew2⟩ := word_some hc
            refine CutP.mk (fun σ' H' => ∃ (sg : Int) (a1 : Nat), σ' = [some (.ref l), some (.int (a1 : Int)), some (.ref d), some (.int sg), v4] ∧ signAt ws a' acc.isEmpty = .ok (sg, a1) ∧ Same H H' ∧ H' d = some (.dK (tabK acc))) ?_ ?_
            · refine ⟨_, rfl, _, rfl, _, rfl, _, rfl, _, _, rfl, rfl, _, rfl, l, _, rfl, SqL.of hw4.at_, eq1 hw4 (by decide +kernel) fun H5 s5 => ⟨_, rfl, ?_⟩⟩
              have s45 := s4.trans s5
              have hw5 := hw.same s45
              have hd5 := s5 _ _ hd
              by_cases m1 : ws[a']? = some ("-" : Str)
              · have e1 : ws[a'] = ("-" : Str) := Option.some.inj (ew2.symm.trans m1)
                have g : signAt ws a' acc.isEmpty = .ok (-1, a' + 1) := by
                  unfold signAt
                  rw [ew]
                  exact if_pos e1
                refine iteTr (decide_eq_true m1) ⟨_, rfl, _, rfl, _, _, rfl, rfl, _, _, rfl, -1, a' + 1, rfl, g, s45, hd5⟩
              · have e1 : ¬ ws[a'] = ("-" : Str) := fun z => m1 (ew2.trans (congrArg some z))
                refine iteFa (decide_eq_false m1) ⟨_, rfl, neE hd5 fun H6 s6 => ⟨_, rfl, ?_⟩⟩
                have s46 := s45.trans s6
                have hd6 := s6 _ _ hd5
                cases hE : acc.isEmpty with
                | true =>
                  have g : signAt ws a' true = .ok (1, a') := by
                    unfold signAt
                    rw [ew]
                    dsimp only
                    rw [if_neg e1, if_pos rfl]
                  refine iteFa rfl ⟨_, rfl, neE hd6 fun H7 s7 => ⟨_, rfl, ?_⟩⟩
                  rw [hE]
                  exact iteFa rfl ⟨1, a', rfl, g, s46.trans s7, s7 _ _ hd6⟩
                | false =>
                  have hw6 := hw.same s46
                  refine iteTr rfl ⟨_, rfl, _, rfl, _, rfl, _, rfl, _, _, rfl, rfl, _, rfl, l, _, rfl, SqL.of hw6.at_, eq1 hw6 (by decide +kernel) fun H7 s7 => ⟨_, rfl, ?_⟩⟩
                  have s47 := s46.trans s7
                  have hd7 := s7 _ _ hd6
                  by_cases m2 : ws[a']? = some ("+" : Str)
                  · have e2 : ws[a'] = ("+" : Str) := Option.some.inj (ew2.symm.trans m2)
                    have g : signAt ws a' false = .ok (1, a' + 1) := by
                      unfold signAt
                      rw [ew]
                      dsimp only
                      rw [if_neg e1, if_neg (by simp), if_pos e2]
                    exact iteTr (decide_eq_true m2) ⟨_, rfl, _, _, rfl, rfl, 1, a' + 1, rfl, g, s47, hd7⟩
                  · have e2 : ¬ ws[a'] = ("+" : Str) := fun z => m2 (ew2.trans (congrArg some z))
                    have g : signAt ws a' acc.isEmpty = .error a' := by
                      rw [hE]
                      unfold signAt
                      rw [ew]
                      dsimp only
                      rw [if_neg e1, if_neg (by simp), if_neg e2]
                    refine iteFa (decide_eq_false m2) ⟨_, rfl, neE hd7 fun H8 s8 => ⟨_, rfl, ?_⟩⟩
                    rw [hE]
                    rw [tA_sign g] at hf2
                    exact iteTr rfl ⟨_, rfl, kx _ hf2.symm H8 (s47.trans s8)⟩
            · rintro σ' H' ⟨sg, a1, rfl, g1, s5, hd5⟩
              obtain ⟨q1, q2, q3⟩ := signAt_le g1
              have hw5 := hw.same s5
              refine CutP.mk (fun σ' H' => ∃ (n : Int) (a2 : Nat), σ' = [some (.ref l), some (.int (a2 : Int)), some (.ref d), some (.int sg), some (.int n)] ∧ (sizeAt ws a1 = .ok (n, a2) ∨ (ws.length ≤ a1 ∧ a2 = a1)) ∧ Same H H' ∧ H' d = some (.dK (tabK acc))) ?_ ?_
              · refine ⟨_, rfl, _, rfl, l, _, rfl, .inl (SqL.of hw5.at_), _, _, rfl, rfl, _, rfl, ?_⟩
                rw [List.length_map]
                by_cases h1 : a1 < ws.length
                · obtain ⟨ex, ex2⟩ := word_some h1
                  obtain ⟨i1, _, i3⟩ := atI_word ex
                  refine iteTr (by simpa using h1) ⟨_, rfl, _, rfl, l, _, _, _, rfl, rfl, SqL.of hw5.at_, i1, _, rfl, hw.each _ i3, hw.ok _ i3, fun H6 s6 => ⟨rfl, _, rfl, ?_⟩⟩
                  have s56 := s5.trans s6
                  have hd6 := s6 _ _ hd5
                  have hw6 := hw.same s56
                  cases hn : numIn ws[a1] with
                  | none =>
                    have g2 : sizeAt ws a1 = .ok (1, a1) := by
                      unfold sizeAt
                      rw [ex]
                      dsimp only
                      rw [hn]
                    exact iteFa (by simp [numV]) ⟨1, a1, rfl, .inl g2, s56, hd6⟩
                  | some v =>
                    refine iteTr (by simp [numV]) ⟨_, rfl, _, rfl, l, _, _, _, rfl, rfl, SqL.of hw6.at_, i1, _, rfl, hw.each _ i3, hw.ok _ i3, fun H7 s7 => ?_⟩
                    rw [hn]
                    have s57 := s56.trans s7
                    have hd7 := s7 _ _ hd6
                    refine ⟨_, rfl, _, _, rfl, rfl, _, rfl, ?_⟩
                    by_cases h2 : v < 2
                    · have g2 : sizeAt ws a1 = .error a1 := by
                        unfold sizeAt
                        rw [ex]
                        dsimp only
                        rw [hn]
                        exact if_pos h2
                      rw [tA_size g1 g2] at hf2
                      exact iteTr (decide_eq_true h2) ⟨_, rfl, kx _ hf2.symm H7 s57⟩
                    · have g2 : sizeAt ws a1 = .ok (v, a1 + 1) := by
                        unfold sizeAt
                        rw [ex]
                        dsimp only
                        rw [hn]
                        exact if_neg h2
                      exact iteFa (decide_eq_false h2) ⟨_, rfl, _, _, rfl, rfl, v, a1 + 1, rfl, .inl g2, s57, hd7⟩
                · exact iteFa (by simp; omega) ⟨1, a1, rfl, .inr ⟨by omega, rfl⟩, s5, hd5⟩
              · rintro σ' H' ⟨n, a2, rfl, g2, s6, hd6⟩
                have hw6 := hw.same s6
                refine ⟨_, rfl, _, rfl, l, _, rfl, .inl (SqL.of hw6.at_), _, _, rfl, rfl, _, rfl, ?_⟩
                rw [List.length_map]
                by_cases h1 : a2 < ws.length
                · have g2' : sizeAt ws a1 = .ok (n, a2) := by
                    rcases g2 with z | ⟨z1, z2⟩
                    · exact z
                    · omega
                  obtain ⟨q4, q5, q6⟩ := sizeAt_le g2'
                  obtain ⟨ex, ex2⟩ := word_some h1
                  obtain ⟨i1, _, i3⟩ := atI_word ex
                  refine iteFa (by simp; omega) ⟨_, rfl, _, rfl, l, _, _, _, rfl, rfl, SqL.of hw6.at_, i1, _, rfl, hw.each _ i3, hw.ok _ i3, fun H7 s7 => ⟨_, rfl, ?_⟩⟩
                  have s67 := s6.trans s7
                  have hd7 := s7 _ _ hd6
                  have hw7 := hw.same s67
                  have bad : ¬ (nameS ws[a2] = true ∧ ws[a2] ∉ ks acc) → ∀ H', Same H H' → Q (.int ((a2 : Nat) : Int)) H' := fun hn H' s' => by
                    rw [tA_bad g1 g2' ex hn] at hf2
                    exact kx _ hf2.symm H' s'
                  have emin : (if (ws.length : Int) < (a2 : Int) then (ws.length : Int) else (a2 : Int)) = (a2 : Int) := if_neg (by omega)
                  cases g4 : nameS ws[a2] with
                  | false =>
                    refine iteTr rfl ⟨_, rfl, _, rfl, l, _, rfl, .inl (SqL.of hw7.at_), _, _, rfl, ?_⟩
                    rw [List.length_map]
                    show Q (.int (if (ws.length : Int) < (a2 : Int) then (ws.length : Int) else (a2 : Int))) H7
                    rw [emin]
                    exact bad (by rw [g4]; simp) H7 s67
                  | true =>
                    refine iteFa rfl ⟨_, rfl, _, rfl, l, _, _, _, rfl, rfl, SqL.of hw7.at_, i1, _, rfl, d, _, rfl, DGet.k (k := Sum.inr ws[a2]) hd7, _, rfl, ?_⟩
                    by_cases g5 : ws[a2] ∈ ks acc
                    · rw [valV_in g5]
                      refine iteTr rfl ⟨_, rfl, _, rfl, l, _, rfl, .inl (SqL.of hw7.at_), _, _, rfl, ?_⟩
                      rw [List.length_map]
                      show Q (.int (if (ws.length : Int) < (a2 : Int) then (ws.length : Int) else (a2 : Int))) H7
                      rw [emin]
                      exact bad (by simp [g5]) H7 s67
                    · rw [valV_out g5]
                      refine iteFa rfl ⟨_, rfl, _, rfl, _, _, rfl, rfl, .inl (by rcases q3 with rfl | rfl <;> decide), ?_⟩
                      refine ⟨_, rfl, _, rfl, _, rfl, l, _, _, _, rfl, rfl, SqL.of hw7.at_, i1, d, _, rfl, DPut.k (k := Sum.inr ws[a2]) hd7 (by unfold tabK; rw [List.length_map, sizeLine_eq]; have := hw.len; omega), ?_⟩
                      rw [put_tab, putT_new g5]
                      rw [tA_good g1 g2' ex ⟨g4, g5⟩] at hf2
                      refine ⟨_, rfl, _, _, rfl, rfl, ?_⟩
                      exact ⟨ws.length + 1 - (a2 + 1), by omega, a2 + 1, f, _, _, _, rfl, rfl, same_newer s67 ndH, upd_same, hf2, by simp; omega, fun z => by simp at z, by omega, by simp; omega⟩
                · refine iteTr (by simp; omega) ⟨_, rfl, _, rfl, l, _, rfl, .inl (SqL.of hw6.at_), _, _, rfl, ?_⟩
                  rw [List.length_map]
                  have er : termAt ws a' acc = .error ws.length := by
                    rcases g2 with z | ⟨z1, rfl⟩
                    · exact tA_word g1 z (word_none (by omega))
                    · refine tA_size g1 ?_
                      unfold sizeAt
                      rw [word_none z1]
                  rw [er] at hf2
                  have z := kx _ hf2.symm H' s6
                  have emin : (if (ws.length : Int) < (a2 : Int) then (ws.length : Int) else (a2 : Int)) = (ws.length : Int) := by
                    by_cases h : (ws.length : Int) < (a2 : Int)
                    · exact if_pos h
                    · rw [if_neg h]
                      omega
                  show Q (.int (if (ws.length : Int) < (a2 : Int) then (ws.length : Int) else (a2 : Int))) H'
                  rw [emin]
                  exact z
        · by_cases hne : acc = []
          · subst hne
            have ha : a' = ws.length := by omega
            refine iteFa (by simp; omega) ⟨_, rfl, eqE hd fun H5 s5 => ⟨_, rfl, ?_⟩⟩
            refine iteT ⟨_, fun _ _ h => h, ?_⟩
            have s45 := s4.trans s5
            have hw5 := hw.same s45
            have hd5 := s5 _ _ hd
            have wn : ws[a']? = none := List.getElem?_eq_none (by omega)
            have fin : R = .error ws.length := by
              cases f with
              | zero =>
                exfalso
                have : ([] : Tab).length = 0 := rfl
                omega
              | succ f =>
                unfold termsFrom at hf
                rw [if_pos (.inl rfl)] at hf
                have e1 : termAt ws a' [] = .error ws.length := by
                  refine tA_sign ?_
                  unfold signAt
                  rw [word_none (by omega)]
                rw [e1] at hf
                exact hf.symm
            refine CutP.mk (fun σ' H' => σ' = [some (.ref l), some (.int (a' : Int)), some (.ref d), some (.int 1), v4] ∧ Same H H' ∧ H' d = some (.dK (tabK []))) ?_ ?_
            · refine ⟨_, rfl, _, rfl, _, rfl, _, rfl, _, _, rfl, rfl, _, rfl, l, _, rfl, SqL.of hw5.at_, eq1 hw5 (by decide +kernel) fun H6 s6 => ⟨_, rfl, ?_⟩⟩
              rw [wn]
              have hd6 := s6 _ _ hd5
              refine iteFa (by simp) ⟨_, rfl, neE hd6 fun H7 s7 => ⟨_, rfl, ?_⟩⟩
              have hd7 := s7 _ _ hd6
              refine iteFa rfl ⟨_, rfl, neE hd7 fun H8 s8 => ⟨_, rfl, ?_⟩⟩
              exact iteFa rfl ⟨rfl, ((s45.trans s6).trans s7).trans s8, s8 _ _ hd7⟩
            · rintro σ' H' ⟨rfl, s6, hd6⟩
              have hw6 := hw.same s6
              refine CutP.mk (fun σ' H' => σ' = [some (.ref l), some (.int (a' : Int)), some (.ref d), some (.int 1), some (.int 1)] ∧ Same H H') ?_ ?_
              · refine ⟨_, rfl, _, rfl, l, _, rfl, .inl (SqL.of hw6.at_), _, _, rfl, rfl, _, rfl, ?_⟩
                rw [List.length_map]
                exact iteFa (by simp; omega) ⟨rfl, s6⟩
              · rintro σ' H' ⟨rfl, s7⟩
                have hw7 := hw.same s7
                refine ⟨_, rfl, _, rfl, l, _, rfl, .inl (SqL.of hw7.at_), _, _, rfl, rfl, _, rfl, ?_⟩
                rw [List.length_map]
                refine iteTr (by simp; omega) ⟨_, rfl, _, rfl, l, _, rfl, .inl (SqL.of hw7.at_), _, _, rfl, ?_⟩
                rw [List.length_map]
                have z := kx _ fin H' s7
                have emin : (if (ws.length : Int) < (a' : Int) then (ws.length : Int) else (a' : Int)) = (ws.length : Int) := by
                  rw [if_neg (by omega), ha]
                show Q (.int (if (ws.length : Int) < (a' : Int) then (ws.length : Int) else (a' : Int))) H'
                rw [emin]
                exact z
          · have hb : acc.isEmpty = false := by
              cases acc with
              | nil => exact absurd rfl hne
              | cons _ _ => rfl
            refine iteFa (by simp; omega) ⟨_, rfl, eqE hd fun H5 s5 => ⟨_, rfl, ?_⟩⟩
            rw [hb]
            have hf2 : R = .ok acc := by
              cases f with
              | zero => exfalso; omega
              | succ f =>
                unfold termsFrom at hf
                rw [if_neg (by rw [hb]; simp; omega)] at hf
                exact hf.symm
            exact iteFa rfl ⟨_, rfl, k acc hf2 d H5 (s4.trans s5) ndH (s5 _ _ hd)⟩
end
end Kx
set_option maxHeartbeats 4000000
namespace Kx
open PySem PySem.Spec PyProof.Rows L2 Xr
local macro_rules | `(tactic| walk_at "rd") => `(tactic| (repeat (first | apply Exists.intro | (refine And.intro rfl ?_) | (refine And.intro (SqL.of (by assumption)) ?_) | (refine And.intro (Or.inl (SqL.of (by assumption))) ?_) | (refine Or.inl ⟨_, rfl, ?_⟩) | (refine Or.inr ⟨_, rfl, ?_⟩) | (refine And.intro (by assumption) ?_) | (refine And.intro (Or.inl (by assumption)) ?_))))
section
variable {P : Program} {w : World} {K : PySem.W.Frag} {mg : Str → Option Value} {base : Heap}
/-- a word of the law: without a blank, not long -/
structure OkW (x : Str) : Prop where
  fr : (32 : Nat) ∉ x.cps.toList
  len : x.length ≤ 100
  ok : PyData.strOk x = true
def okWB (x : Str) : Bool := !(x.cps.toList.contains 32) && (decide (x.length ≤ 100) && PyData.strOk x)
theorem okW_dec {x : Str} (h : okWB x = true) : OkW x := by
  obtain ⟨h1, h⟩ := Bool.and_eq_true_iff.mp h
  obtain ⟨h2, h3⟩ := Bool.and_eq_true_iff.mp h
  refine ⟨fun z => ?_, of_decide_eq_true h2, h3⟩
  have e : x.cps.toList.contains 32 = true := by simpa using z
  rw [e] at h1
  cases h1
theorem okW_words {m : Tab} (gw : GoodW m) (hl : m.length ≤ 8) : (∀ x ∈ wordsZ m, OkW x) ∧ (wordsZ m).length ≤ 24 := by
  unfold wordsZ
  by_cases h : wordsT m ≠ []
  · rw [if_pos h]
    refine ⟨fun x hx => ?_, ?_⟩
    · obtain ⟨h1, h2⟩ := words_free true m gw.g x hx
      exact ⟨h1, by omega, words_ok gw.g x hx⟩
    · have z := wordsB_le true m
      unfold wordsT
      omega
  · rw [if_neg h]
    refine ⟨fun x hx => ?_, by decide⟩
    rw [List.mem_singleton.mp hx]
    exact okW_dec (by decide +kernel)
theorem paired_snoc {α β : Type} {R : α → β → Prop} {as : List α} {bs : List β} {a : α} {b : β} (h : Paired R as bs) (r : R a b) : Paired R (as ++ [a]) (bs ++ [b]) := by
  induction h with
  | nil => exact .cons r .nil
  | cons x y ih => exact .cons x ih
def leftL : List Str := ["z", "m", "aa", "jan", "zzzzzzzz", "b", "zz", "fly"]
theorem left_names : ∀ k ∈ leftL, nameS k = true := by decide +kernel
theorem eight_in {d : Int} (h0 : 0 ≤ d) (h1 : d < 7) : ∃ n : Nat, atI ([1, 2, 3, 5, 6, 7, 8].map V.int) d = some (.int n) ∧ n ≤ 8 := by
  have : d = 0 ∨ d = 1 ∨ d = 2 ∨ d = 3 ∨ d = 4 ∨ d = 5 ∨ d = 6 := by omega
  rcases this with rfl | rfl | rfl | rfl | rfl | rfl | rfl
  · exact ⟨1, rfl, by decide⟩
  · exact ⟨2, rfl, by decide⟩
  · exact ⟨3, rfl, by decide⟩
  · exact ⟨5, rfl, by decide⟩
  · exact ⟨6, rfl, by decide⟩
  · exact ⟨7, rfl, by decide⟩
  · exact ⟨8, rfl, by decide⟩
theorem sc__law_words : FnScope ["_law_pen_here", "_law_left", "_law_pairs", "_law_turn", "_law_number"] ["_law_pen_here"] (defScope (top 39)) := ⟨rfl, rfl, rfl, by decide +kernel, rfl, by decide +kernel, by decide +kernel⟩
def spWordsL : Sp := fun vs H Q _ => ∃ (p q : Addr) (ns : List Int) (a r : Int), vs = [.ref p] ∧ PenAt H p q ns a r ∧ a ≤ 800000 ∧
  ∀ (l : Addr) (ws : List Str) (a' r' : Int) (H' : Hp), H' l = some (.lst (ws.map V.str)) → l ≠ p → ws.length ≤ 30 → (∀ x ∈ ws, OkW x) → a ≤ a' → a' ≤ a + 40 → But p H H' → PenAt H' p q ns a' r' → Q (.ref l) H'
theorem ok__law_words (T : Txt P K mg) : OkF P w K mg base CX0 4 (He.ga K "_law_words") ["_law_pen_here"] spWordsL := by
  have G__law_draw := ok__law_draw (P := P) (w := w) (base := base) T
  have G__law_pick := ok__law_pick (P := P) (w := w) (base := base) T
  have G__law_terms := ok__law_terms (P := P) (w := w) (base := base) T
  obtain ⟨fd, F⟩ := T.F__law_words
  refine ⟨fd, F.ok sc__law_words (fun vs H Q E h => ?_) (fun cdv A outer s H vs Q E hr h => ?_), F.bindsN fun _ _ _ _ _ _ us hl => match us, hl with | [_], _ => rfl, F.kp⟩
  · obtain ⟨p, q, ns, a, r, rfl, _⟩ := h
    rfl
  · obtain ⟨p, q, ns, a, r, rfl, S, a2, k⟩ := h
    have hu := hu_of hr
    refine ⟨_, PSs.nox (pss_cons (ps_asg (pe_lst (pa_cons pe_str (pa_cons pe_str (pa_cons pe_str (pa_cons pe_str (pa_cons pe_str (pa_cons pe_str (pa_cons pe_str (pa_cons pe_str pa_nil))))))))) (pg_name (i := 1) sc__law_words.nd rfl (.inl rfl)))
    (pss_cons (ps_asg (pe_lst pa_nil) (pg_name (i := 2) sc__law_words.nd rfl (.inl rfl)))
    (pss_cons (ps_for PassesOwn.never rfl (pi_range1 (by rfl) T.z_range (pa_cons (pe_ix (ix_listK K) (pe_lst (pa_cons pe_int (pa_cons pe_int (pa_cons pe_int (pa_cons pe_int (pa_cons pe_int (pa_cons pe_int (pa_cons pe_int pa_nil)))))))) (pe_f G__law_draw (hr.mono (by decide)) (by rfl) T.g__law_draw pass0 (pa_cons (pv 0) (pa_cons pe_int pa_nil))) (fun _ _ => rfl)) pa_nil)) (pg_name (i := 3) sc__law_words.nd rfl (.inl rfl))
      (pss_cons (ps_asg (pe_f G__law_pick (hr.mono (by decide)) (by rfl) T.g__law_pick pass0 (pa_cons (pv 0) (pa_cons (pe_lst (pa_cons pe_int (pa_cons pe_int (pa_cons pe_int (pa_cons pe_int (pa_cons pe_int (pa_cons pe_int (pa_cons pe_int pa_nil)))))))) pa_nil))) (pg_name (i := 4) sc__law_words.nd rfl (.inl rfl)))
    (pss_one (ps_expr (pe_bm PySem.F.plainAttrs_list PySem.F.slot_list_append PySem.F.type_list_append mt_append (pv 2) (pa_cons (pe_tup (pa_cons (pe_bm PySem.F.plainAttrs_list PySem.F.slot_list_pop PySem.F.type_list_pop mt_popAt (pv 1) (pa_cons (pe_f G__law_draw (hr.mono (by decide)) (by rfl) T.g__law_draw pass0 (pa_cons (pv 0) (pa_cons (pe_callB call_len_seq (by rfl) T.z_len (by decide +kernel) (pa_cons (pv 1) pa_nil)) pa_nil))) pa_nil)) (pa_cons (pe_op op_mul (pv 4) (pe_op op_sub pe_int (pe_op op_mul pe_int (pe_f G__law_draw (hr.mono (by decide)) (by rfl) T.g__law_draw pass0 (pa_cons (pv 0) (pa_cons pe_int pa_nil)))))) pa_nil))) pa_nil))))))
    (pss_one (ps_ret (pe_op op_cat (pe_lst (pa_cons (pe_f G__law_pick (hr.mono (by decide)) (by rfl) T.g__law_pick pass0 (pa_cons (pv 0) (pa_cons (pe_lst (pa_cons pe_str (pa_cons pe_str (pa_cons pe_str (pa_cons pe_str pa_nil))))) pa_nil))) (pa_cons pe_str pa_nil))) (pe_f G__law_terms (hr.mono (by decide)) (by rfl) T.g__law_terms pass0 (pa_cons (pv 2) pa_nil)))))))), ?_⟩
    refine ⟨show 8 ≤ sizeLine by decide, fun l nl => ?_⟩
    have s1 : Same H (upd H l (.lst (leftL.map V.str))) := same_new nl
    have h1 : upd H l (.lst (leftL.map V.str)) l = some (.lst (leftL.map V.str)) := upd_same
    generalize hG : upd H l (.lst _) = H1
    have eG : upd H l (.lst (leftL.map V.str)) = H1 := hG
    rw [eG] at s1 h1
    clear hG eG
    have nlp : l ≠ p := fun z => by rw [z, S.pen] at nl; cases nl
    refine ⟨show 0 ≤ sizeLine by decide, fun f nf => ?_⟩
    have s2 := same_new (o := .lst []) nf
    have hf2 : upd H1 f (.lst []) f = some (.lst (([] : List Addr).map V.ref)) := upd_same
    have nfl : f ≠ l := fun z => by rw [z, h1] at nf; cases nf
    have nfH : H f = none := s1.free nf
    generalize upd H1 f (.lst []) = H2 at s2 hf2
    have S2 := (S.same s1).same s2
    have nfp : f ≠ p := fun z => by rw [z, S.pen] at nfH; cases nfH
    refine ⟨show 7 ≤ sizeLine by decide, fun l7 nl7 => ?_⟩
    have s5 := same_new (o := .lst ([1, 2, 3, 5, 6, 7, 8].map V.int)) nl7
    have h7 : upd H2 l7 (.lst ([1, 2, 3, 5, 6, 7, 8].map V.int)) l7 = some (.lst ([1, 2, 3, 5, 6, 7, 8].map V.int)) := upd_same
    generalize hG5 : upd H2 l7 (.lst _) = H5
    have eG5 : upd H2 l7 (.lst ([1, 2, 3, 5, 6, 7, 8].map V.int)) = H5 := hG5
    rw [eG5] at s5 h7
    clear hG5 eG5
    have S5 := S2.same s5
    have n7p : l7 ≠ p := fun z => by rw [z, S2.pen] at nl7; cases nl7
    refine ⟨_, rfl, p, q, ns, a, r, 7, rfl, S5, by decide, by decide, by omega, fun d2 a6 r6 H6 d20 d21 e3 e4 B6 S6 => ?_⟩
    obtain ⟨nn, hnn, nn8⟩ := eight_in d20 d21
    refine ⟨l7, _, _, _, rfl, rfl, SqL.of (B6 _ _ h7 n7p), hnn, ?_⟩
    refine ⟨_, rfl, Int.natCast_nonneg _, by omega, ?_⟩
    have B06 : But p H H6 := fun b o hb nb => B6 _ _ (s5 _ _ (s2 _ _ (s1 _ _ hb))) nb
    refine for_range (fun i σ' H' => ∃ (xs : List Str) (as : List Addr) (m : Tab) (v v' : Option V) (a' r' : Int), σ' = [some (.ref p), some (.ref l), some (.ref f), v, v'] ∧ H' l = some (.lst (xs.map V.str)) ∧ H' f = some (.lst (as.map V.ref)) ∧
      Paired (fun a (p : Str × Int) => H' a = some (.tup [.str p.1, .int p.2])) as m ∧ (∀ p ∈ m, GoodP p) ∧ (xs ++ ks m).Perm leftL ∧ m.length = i ∧ a6 ≤ a' ∧ a' ≤ a6 + 3 * i ∧ But p H H' ∧ PenAt H' p q ns a' r') ?_ ?_ ?_
    · exact ⟨leftL, [], [], none, none, a6, r6, rfl, B6 _ _ (s5 _ _ (s2 _ _ h1)) nlp, B6 _ _ (s5 _ _ hf2) nfp, .nil, fun _ h => (List.not_mem_nil h).elim, by rw [show ks [] = [] from rfl, List.append_nil], rfl, Int.le_refl _, by omega, B06, S6⟩
    · rintro i σ' H' hi ⟨xs, as, m, v, v', a', r', rfl, hxs, hf, hpr, gm, hperm, hml, b1, b2, B, S'⟩
      have hxl : xs.length + m.length = 8 := by
        have := hperm.length_eq
        rw [List.length_append] at this
        unfold ks at this
        rw [List.length_map] at this
        exact this
      have elen : as.length = m.length := Paired.length hpr
      refine ⟨_, rfl, show 7 ≤ sizeLine by decide, fun l8 nl8 => ?_⟩
      have s8 := same_new (o := .lst ([1, 1, 2, 3, 4, 5, 6].map V.int)) nl8
      have h8 : upd H' l8 (.lst ([1, 1, 2, 3, 4, 5, 6].map V.int)) l8 = some (.lst ([1, 1, 2, 3, 4, 5, 6].map V.int)) := upd_same
      generalize hG8 : upd H' l8 (.lst _) = H8
      have eG8 : upd H' l8 (.lst ([1, 1, 2, 3, 4, 5, 6].map V.int)) = H8 := hG8
      rw [eG8] at s8 h8
      clear hG8 eG8
      have n8p : l8 ≠ p := fun z => by rw [z, S'.pen] at nl8; cases nl8
      refine ⟨p, q, l8, ns, a', r', _, rfl, S'.same s8, by omega, h8, n8p, by decide, by decide, fun nv a4 r4 H4 hv c1 c2 B4 S4' => ?_⟩
      obtain ⟨n, hn, rfl⟩ := List.mem_map.mp hv
      have hn6 : 1 ≤ n ∧ n ≤ 6 := by
        simp only [List.mem_cons, List.not_mem_nil, or_false] at hn
        omega
      have hxs4 := B4 _ _ (s8 _ _ hxs) nlp
      have hf4 := B4 _ _ (s8 _ _ hf) nfp
      refine ⟨_, rfl, .inl ⟨rfl, _, SqL.of hf4⟩, _, rfl, .inl ⟨rfl, _, SqL.of hxs4⟩, _, rfl, _, rfl, l, _, rfl, .inl (SqL.of hxs4), ?_⟩
      refine ⟨p, q, ns, a4, r4, _, rfl, S4', by rw [List.length_map]; omega, by rw [List.length_map]; omega, by omega, fun j a5 r5 H5 j0 j1 f1 f2 B5 S5 => ?_⟩
      rw [List.length_map] at j1
      have hxs5 := B5 _ _ hxs4 nlp
      have hf5 := B5 _ _ hf4 nfp
      have hj : j.toNat < xs.length := by omega
      refine ⟨l, _, j, j.toNat, .str xs[j.toNat], rfl, rfl, hxs5, by omega, by omega, seqI j0 (by rw [List.length_map]; exact j1), by rw [List.getElem?_map, List.getElem?_eq_getElem hj]; rfl, ?_⟩
      have e : List.eraseIdx (List.map V.str xs) j.toNat = (xs.eraseIdx j.toNat).map V.str := erase_map _ _ _
      rw [e]
      have kl : ∀ c o, H5 c = some o → c ≠ l → upd H5 l (.lst ((xs.eraseIdx j.toNat).map V.str)) c = some o := fun c o h n => (upd_ne n).trans h
      have hl9 : upd H5 l (.lst ((xs.eraseIdx j.toNat).map V.str)) l = some (.lst ((xs.eraseIdx j.toNat).map V.str)) := upd_same
      have hf9 := kl _ _ hf5 nfl
      have S9 : PenAt (upd H5 l (.lst ((xs.eraseIdx j.toNat).map V.str))) p q ns a5 r5 := by
        refine ⟨kl _ _ S5.pen fun z => nlp z.symm, kl _ _ S5.cells fun z => ?_, S5.len, S5.a0, S5.r0⟩
        have := S.cells
        rw [z, nl] at this
        cases this
      generalize upd H5 l (.lst ((xs.eraseIdx j.toNat).map V.str)) = H9 at kl hl9 hf9 S9
      refine ⟨_, rfl, _, rfl, p, q, ns, a5, r5, 2, rfl, S9, by decide, by decide, by omega, fun e a7 r7 H7 e0 e1' g1 g2 B7 S7 => ?_⟩
      refine ⟨2, e, rfl, rfl, .inl ⟨by decide, by decide⟩, 1, _, rfl, rfl, n, _, rfl, rfl, .inl ⟨by omega, by omega⟩, show 2 ≤ sizeLine by decide, fun T' nT => ?_⟩
      have hv0 : n * (1 - 2 * e) ≠ 0 ∧ -6 ≤ n * (1 - 2 * e) ∧ n * (1 - 2 * e) ≤ 6 := by
        have : e = 0 ∨ e = 1 := by omega
        rcases this with rfl | rfl <;> omega
      generalize hz : (fun i j => V.int (i * j)) n (1 - 2 * e) = zv
      obtain ⟨z, hz2, rfl⟩ : ∃ z, z = n * (1 - 2 * e) ∧ zv = V.int z := ⟨_, rfl, hz.symm⟩
      rw [← hz2] at hv0
      clear hz
      have s10 := same_new (o := .tup [.str xs[j.toNat], .int z]) nT
      have hT : upd H7 T' (.tup [.str xs[j.toNat], .int z]) T' = some (.tup [.str xs[j.toNat], .int z]) := upd_same
      generalize upd H7 T' (.tup [.str xs[j.toNat], .int z]) = H10 at s10 hT
      have hf10 := s10 _ _ (B7 _ _ hf9 nfp)
      have hl10 := s10 _ _ (B7 _ _ hl9 nlp)
      refine ⟨f, _, _, rfl, rfl, hf10, by rw [List.length_map, sizeLine_eq]; omega, ?_⟩
      have hx : xs[j.toNat] ∈ xs := List.getElem_mem hj
      have hM : xs[j.toNat] ∈ leftL := hperm.mem_iff.mp (List.mem_append_left _ hx)
      have ef : as.map V.ref ++ [V.ref T'] = (as ++ [T']).map V.ref := by rw [List.map_append]; rfl
      rw [ef]
      have keep : ∀ c o, H' c = some o → (∀ ys, o ≠ .lst ys) → upd H10 f (.lst ((as ++ [T']).map V.ref)) c = some o := fun c o hc no => by
        have np : c ≠ p := fun z => by rw [z, S'.pen] at hc; exact no _ (Option.some.inj hc).symm
        have nf' : c ≠ f := fun z => by rw [z, hf] at hc; exact no _ (Option.some.inj hc).symm
        have nl' : c ≠ l := fun z => by rw [z, hxs] at hc; exact no _ (Option.some.inj hc).symm
        rw [upd_ne nf']
        exact s10 _ _ (B7 _ _ (kl _ _ (B5 _ _ (B4 _ _ (s8 _ _ hc) np) np) nl') np)
      have nTf : T' ≠ f := fun z => by rw [z, hf10] at hT; cases hT
      refine ⟨xs.eraseIdx j.toNat, as ++ [T'], m ++ [(xs[j.toNat], z)], some (.int (0 + (i : Int))), _, a7, r7, rfl, ?_, upd_same, ?_, ?_, ?_, ?_, by omega, by omega, ?_, ?_⟩
      · rw [upd_ne fun z => nfl z.symm]
        exact hl10
      · have h1 : Paired (fun a (p : Str × Int) => upd H10 f (.lst ((as ++ [T']).map V.ref)) a = some (.tup [.str p.1, .int p.2])) as m := Paired.mapP hpr fun x y h => keep _ _ h fun _ z => by cases z
        have h2 : upd H10 f (.lst ((as ++ [T']).map V.ref)) T' = some (.tup [.str xs[j.toNat], .int z]) := (upd_ne nTf).trans hT
        exact paired_snoc h1 h2
      · intro u hu
        rcases List.mem_append.mp hu with h | h
        · exact gm u h
        · rw [List.mem_singleton.mp h]
          refine ⟨left_names _ hM, hv0.1, ?_⟩
          show absI z < _
          unfold absI
          split <;> omega
      · refine List.Perm.trans ?_ hperm
        have ek : ks (m ++ [(xs[j.toNat], z)]) = ks m ++ [xs[j.toNat]] := by unfold ks; rw [List.map_append]; rfl
        rw [ek, ← List.append_assoc]
        refine (List.perm_append_comm (l₁ := xs.eraseIdx j.toNat ++ ks m) (l₂ := [xs[j.toNat]])).trans ?_
        rw [← List.append_assoc]
        exact List.Perm.append_right _ (erase_perm hj)
      · rw [List.length_append, hml]
        rfl
      · intro b o hb nb
        rw [upd_ne (ne_of_none hb nfH)]
        exact s10 _ _ (B7 _ _ (kl _ _ (B5 _ _ (B4 _ _ (s8 _ _ (B _ _ hb nb)) nb) nb) (ne_of_none hb nl)) nb)
      · have S10 := S7.same s10
        refine ⟨(upd_ne fun z => nfp z.symm).trans S10.pen, (upd_ne fun z => ?_).trans S10.cells, S10.len, S10.a0, S10.r0⟩
        have := S.cells
        rw [z, nfH] at this
        cases this
    · rintro σ' H' ⟨xs, as, m, v, v', a', r', rfl, hxs, hf, hpr, gm, hperm, hml, b1, b2, B, S'⟩
      have gw : GoodW m := ⟨gm, by omega⟩
      obtain ⟨okw, lw⟩ := okW_words gw (by omega)
      refine ⟨_, rfl, show 4 ≤ sizeLine by decide, fun l8 nl8 => ?_⟩
      have s8 := same_new (o := .lst ((["fly", "z", "abcdefgh", "s"] : List Str).map V.str)) nl8
      have h8 : upd H' l8 (.lst ((["fly", "z", "abcdefgh", "s"] : List Str).map V.str)) l8 = some (.lst ((["fly", "z", "abcdefgh", "s"] : List Str).map V.str)) := upd_same
      generalize hG8 : upd H' l8 (.lst _) = H8
      have eG8 : upd H' l8 (.lst ((["fly", "z", "abcdefgh", "s"] : List Str).map V.str)) = H8 := hG8
      rw [eG8] at s8 h8
      clear hG8 eG8
      have n8p : l8 ≠ p := fun z => by rw [z, S'.pen] at nl8; cases nl8
      refine ⟨p, q, l8, ns, a', r', _, rfl, S'.same s8, by omega, h8, n8p, by decide, by decide, fun nv a4 r4 H4 hv c1 c2 B4 S4 => ?_⟩
      obtain ⟨n, hn, rfl⟩ := List.mem_map.mp hv
      have okn : OkW n := by
        have h : ((["fly", "z", "abcdefgh", "s"] : List Str).all okWB) = true := by decide +kernel
        exact okW_dec (List.all_eq_true.mp h n hn)
      have PD : PairsAt H4 f m := ⟨as, B4 _ _ (s8 _ _ hf) nfp, Paired.mapP hpr fun x y h => B4 _ _ (s8 _ _ h) fun z => by rw [z, S'.pen] at h; cases h⟩
      refine ⟨show 2 ≤ sizeLine by decide, fun lw2 nlw => ?_⟩
      have s9 := same_new (o := .lst (([n, "="] : List Str).map V.str)) nlw
      have h9 : upd H4 lw2 (.lst (([n, "="] : List Str).map V.str)) lw2 = some (.lst (([n, "="] : List Str).map V.str)) := upd_same
      generalize hG9 : upd H4 lw2 (.lst _) = H9
      have eG9 : upd H4 lw2 (.lst (([n, "="] : List Str).map V.str)) = H9 := hG9
      rw [eG9] at s9 h9
      clear hG9 eG9
      refine ⟨_, rfl, f, m, rfl, PD.same s9, gw, fun pw H10 s10 hw10 => ?_⟩
      refine ⟨lw2, pw, _, _, rfl, rfl, s10 _ _ h9, hw10, by rw [List.length_map, List.length_map, sizeLine_eq]; simp; omega, fun l5 n5 => ?_⟩
      rw [← List.map_append]
      have s11 := same_new (o := .lst (([n, "="] ++ wordsZ m).map V.str)) n5
      have S10 := (S4.same s9).same s10
      have n5p : l5 ≠ p := fun z => by rw [z, S10.pen] at n5; cases n5
      refine k l5 ([n, "="] ++ wordsZ m) a4 r4 _ upd_same n5p (by rw [List.length_append]; simp; omega) (fun x hx => ?_) (by omega) (by omega) (fun b o hb nb => ?_) (S10.same s11)
      · rcases List.mem_append.mp hx with h | h
        · simp only [List.mem_cons, List.not_mem_nil, or_false] at h
          rcases h with rfl | rfl
          · exact okn
          · exact okW_dec (by decide +kernel)
        · exact okw x h
      · exact s11 _ _ (s10 _ _ (s9 _ _ (B4 _ _ (s8 _ _ (B _ _ hb nb)) nb)))
end
end Kx
set_option maxHeartbeats 4000000
namespace Kx
open PySem PySem.Spec PyProof.Rows L2 Xr
local macro_rules | `(tactic| walk_at "rd") => `(tactic| (repeat (first | apply Exists.intro | (refine And.intro rfl ?_) | (refine And.intro (SqL.of (by assumption)) ?_) | (refine And.intro (Or.inl (SqL.of (by assumption))) ?_) | (refine Or.inl ⟨_, rfl, ?_⟩) | (refine Or.inr ⟨_, rfl, ?_⟩) | (refine And.intro (by assumption) ?_) | (refine And.intro (Or.inl (by assumption)) ?_))))
section
variable {P : Program} {w : World} {K : PySem.W.Frag} {mg : Str → Option Value} {base : Heap}
theorem cut_take {ws : List Str} {a : Nat} : cutV (ws.map V.str) none (some (a : Int)) = (ws.take a).map V.str := by
  unfold cutV
  rw [sIx_nat, List.length_map, show HT.sIx ws.length 0 none = 0 from rfl, List.drop_zero, Nat.sub_zero, ← List.map_take]
  congr 1
  rcases Nat.le_total a ws.length with h | h
  · rw [Nat.min_eq_left h]
  · rw [Nat.min_eq_right h, List.take_of_length_le h, List.take_length]
theorem cut_mid {ws : List Str} {a b : Nat} (h : a ≤ b) : cutV (ws.map V.str) (some (a : Int)) (some (b : Int)) = ((ws.drop a).take (b - a)).map V.str := by
  unfold cutV
  rw [sIx_nat, sIx_nat, List.length_map, ← List.map_drop, ← List.map_take]
  congr 1
  rcases Nat.le_total a ws.length with h1 | h1
  · rw [Nat.min_eq_left h1]
    rcases Nat.le_total b ws.length with h2 | h2
    · rw [Nat.min_eq_left h2]
    · rw [Nat.min_eq_right h2, List.take_of_length_le (by rw [List.length_drop]; omega), List.take_of_length_le (by rw [List.length_drop]; omega)]
  · rw [Nat.min_eq_right h1, List.drop_length, List.drop_of_length_le h1]
    simp
def poolA : List Str := ["=", "+", "-", "0", "1"]
def poolB : List Str := ["2", "04", "12", "", "c"]
def poolC : List Str := ["A", "c\n", "abcdefghi"]
def poolD : List Str := ["fly", "==", "-2"]
def poolL : List Str := poolA ++ (poolB ++ (poolC ++ poolD))
theorem pool_ok : ∀ x ∈ poolL, OkW x := fun x hx => okW_dec (List.all_eq_true.mp (show poolL.all okWB = true by decide +kernel) x hx)
theorem sc__law_spoiled : FnScope ["_law_pen_here", "_law_words_here", "_law_at", "_law_some", "_law_word", "_law_pick_here"] ["_law_pen_here", "_law_words_here"] (defScope (top 40)) := ⟨rfl, rfl, rfl, by decide +kernel, rfl, by decide +kernel, by decide +kernel⟩
def spSpoil (K : PySem.W.Frag) : Sp := fun vs H Q _ => ∃ (p q l : Addr) (ns : List Int) (a r : Int) (ws : List Str), vs = [.ref p, .ref l] ∧ PenAt H p q ns a r ∧ a ≤ 800000 ∧ H l = some (.lst (ws.map V.str)) ∧ l ≠ p ∧ ws.length ≤ 100 ∧ (∀ x ∈ ws, OkW x) ∧
  ∀ (l' : Addr) (ws' : List Str) (a' r' : Int) (H' : Hp), H' l' = some (.lst (ws'.map V.str)) → l' ≠ p → ws'.length ≤ ws.length + 1 → (∀ x ∈ ws', OkW x) → a ≤ a' → a' ≤ a + 3 → But p H H' → PenAt H' p q ns a' r' → Q (.ref l') H'
theorem ok__law_spoiled (T : Txt P K mg) : OkF P w K mg base CX0 4 (He.ga K "_law_spoiled") ["_law_pen_here", "_law_words_here"] (spSpoil K) := by
  have G__law_draw := ok__law_draw (P := P) (w := w) (base := base) T
  have G__law_pick := ok__law_pick (P := P) (w := w) (base := base) T
  obtain ⟨fd, F⟩ := T.F__law_spoiled
  refine ⟨fd, F.ok sc__law_spoiled (fun vs H Q E h => ?_) (fun cdv A outer s H vs Q E hr h => ?_), F.bindsN fun _ _ _ _ _ _ us hl => match us, hl with | [_, _], _ => rfl, F.kp⟩
  · obtain ⟨p, q, l, ns, a, r, ws, rfl, _⟩ := h
    rfl
  · obtain ⟨p, q, l, ns, a, r, ws, rfl, S, a2, hl, nlp, hlen, hok, k⟩ := h
    refine ⟨_, PSs.nox (pss_cons (ps_asg (pe_f G__law_draw (hr.mono (by decide)) (by rfl) T.g__law_draw pass0 (pa_cons (pv 0) (pa_cons (pe_op op_add (pe_callB call_len_seq (by rfl) T.z_len (by decide +kernel) (pa_cons (pv 1) pa_nil)) pe_int) pa_nil))) (pg_name (i := 2) sc__law_spoiled.nd rfl (.inl rfl)))
    (pss_cons (ps_asg (pe_lst (pa_cons pe_str (pa_cons pe_str (pa_cons pe_str (pa_cons pe_str (pa_cons pe_str (pa_cons pe_str (pa_cons pe_str (pa_cons pe_str (pa_cons pe_str (pa_cons pe_str (pa_cons pe_str (pa_cons pe_str (pa_cons pe_str (pa_cons pe_str (pa_cons pe_str (pa_cons pe_str pa_nil))))))))))))))))) (pg_name (i := 3) sc__law_spoiled.nd rfl (.inl rfl)))
    (pss_cons (ps_par (i := 4) (j := 5) (by rfl) sc__law_spoiled.nd rfl rfl (by decide) rfl rfl (pa_cons (pe_f G__law_pick (hr.mono (by decide)) (by rfl) T.g__law_pick pass0 (pa_cons (pv 0) (pa_cons (pv 3) pa_nil))) (pa_cons (pe_f G__law_draw (hr.mono (by decide)) (by rfl) T.g__law_draw pass0 (pa_cons (pv 0) (pa_cons pe_int pa_nil))) pa_nil)) (by rfl))
    (pss_cons (ps_if (pt_cmpR op_eq (pv 5) pe_int (nomark _))
      (pss_one (ps_ret (pe_op op_cat (pe_op op_cat (pe_slice sl_list (pv 1) po_none (po_some (pv 2))) (pe_lst (pa_cons (pv 4) pa_nil))) (pe_slice sl_list (pv 1) (po_some (pv 2)) po_none))))
      pss_nil)
    (pss_cons (ps_if (pt_cmpR op_eq (pv 5) pe_int (nomark _))
      (pss_one (ps_ret (pe_op op_cat (pe_op op_cat (pe_slice sl_list (pv 1) po_none (po_some (pv 2))) (pe_lst (pa_cons (pv 4) pa_nil))) (pe_slice sl_list (pv 1) (po_some (pe_op op_add (pv 2) pe_int)) po_none))))
      pss_nil)
    (pss_cons (ps_if (pt_cmpR op_eq (pv 5) pe_int (nomark _))
      (pss_one (ps_ret (pe_op op_cat (pe_slice sl_list (pv 1) po_none (po_some (pv 2))) (pe_slice sl_list (pv 1) (po_some (pe_op op_add (pv 2) pe_int)) po_none))))
      pss_nil)
    (pss_one (ps_ret (pe_ifExp (pt_cmpR op_eq (pv 5) pe_int (nomark _)) (pe_op op_cat (pe_op op_cat (pe_slice sl_list (pv 1) po_none (po_some (pv 2))) (pe_op op_rep (pe_slice sl_list (pv 1) (po_some (pv 2)) (po_some (pe_op op_add (pv 2) pe_int))) pe_int)) (pe_slice sl_list (pv 1) (po_some (pe_op op_add (pv 2) pe_int)) po_none)) (pv 1)))))))))), ?_⟩
    refine ⟨_, rfl, _, rfl, l, _, rfl, .inl (SqL.of hl), _, _, rfl, rfl, p, q, ns, a, r, _, rfl, S, by rw [List.length_map]; omega, by rw [List.length_map]; omega, by omega, fun i a1 r1 H1 i0 i1 b1 b2 B1 S1 => ?_⟩
    rw [List.length_map] at i1
    refine ⟨show 16 ≤ sizeLine by decide, fun l0 nl0 => ?_⟩
    have s0 : Same H1 (upd H1 l0 (.lst (poolL.map V.str))) := same_new nl0
    have h0 : upd H1 l0 (.lst (poolL.map V.str)) l0 = some (.lst (poolL.map V.str)) := upd_same
    generalize hG0 : upd H1 l0 (.lst _) = H10
    have eG0 : upd H1 l0 (.lst (poolL.map V.str)) = H10 := hG0
    rw [eG0] at s0 h0
    clear hG0 eG0
    have np0 : l0 ≠ p := fun z => by rw [z, S1.pen] at nl0; cases nl0
    refine ⟨_, rfl, _, rfl, p, q, l0, ns, a1, r1, _, rfl, S1.same s0, by omega, h0, np0, by decide, by decide, fun xv a5 r5 H11 hxv c3 c4 B11 S11 => ?_⟩
    obtain ⟨x, hx, rfl⟩ := List.mem_map.mp hxv
    have okx := pool_ok x hx
    refine ⟨_, rfl, p, q, ns, a5, r5, 5, rfl, S11, by decide, by decide, by omega, fun j a3 r3 H2 j0 j1 c1 c2 B2 S2 => ⟨_, _, rfl, ?_⟩⟩
    obtain ⟨n, rfl⟩ : ∃ n : Nat, i = (n : Int) := ⟨i.toNat, by omega⟩
    have hn : n ≤ ws.length := by omega
    have hl2 := B2 _ _ (B11 _ _ (s0 _ _ (B1 _ _ hl nlp)) nlp) nlp
    have B12 : But p H H2 := fun b o hb nb => B2 _ _ (B11 _ _ (s0 _ _ (B1 _ _ hb nb)) nb) nb
    have newR : ∀ {G : Hp} {z : Addr} {xs : List V}, G z = none → PenAt G p q ns a3 r3 → z ≠ p := fun hz hS y => by rw [y, hS.pen] at hz; cases hz
    have ok_app : ∀ {u v : List Str}, (∀ x ∈ u, OkW x) → (∀ x ∈ v, OkW x) → ∀ x ∈ u ++ v, OkW x := fun h1 h2 x hx => (List.mem_append.mp hx).elim (h1 x) (h2 x)
    have okt : ∀ m, ∀ x ∈ ws.take m, OkW x := fun m x hx => hok x (List.mem_of_mem_take hx)
    have okd : ∀ m, ∀ x ∈ ws.drop m, OkW x := fun m x hx => hok x (List.mem_of_mem_drop hx)
    have lt : (ws.take n).length = n := by rw [List.length_take]; omega
    have ld : ∀ m, (ws.drop m).length = ws.length - m := fun m => List.length_drop
    refine ⟨_, rfl, rfl, _, rfl, ?_⟩
    by_cases e0 : j = 0
    · refine iteTr (by rw [e0]; rfl) ?_
      refine ⟨_, rfl, _, rfl, _, rfl, l, _, rfl, SqL.of hl2, fun p1 n1 => ?_⟩
      rw [cut_take]
      have s1 := same_new (o := .lst ((ws.take n).map V.str)) n1
      have h1 : upd H2 p1 (.lst ((ws.take n).map V.str)) p1 = _ := upd_same
      have np1 : p1 ≠ p := fun y => by rw [y, S2.pen] at n1; cases n1
      have S3 := S2.same s1
      generalize upd H2 p1 (.lst ((ws.take n).map V.str)) = H3 at s1 h1 S3
      refine ⟨_, rfl, show 1 ≤ sizeLine by decide, fun p2 n2 => ?_⟩
      have s2 := same_new (o := .lst ([x].map V.str)) n2
      have h2 : upd H3 p2 (.lst ([x].map V.str)) p2 = _ := upd_same
      have S5 := S3.same s2
      have h15 := s2 _ _ h1
      have hl5 := s2 _ _ (s1 _ _ hl2)
      generalize hG : upd H3 p2 (.lst _) = H5
      have eG : upd H3 p2 (.lst ([x].map V.str)) = H5 := hG
      rw [eG] at s2 h2 S5 h15 hl5
      refine ⟨p1, p2, _, _, rfl, rfl, h15, h2, by rw [List.length_map, List.length_map, sizeLine_eq]; simp; omega, fun p3 n3 => ?_⟩
      rw [← List.map_append]
      have s3 := same_new (o := .lst ((ws.take n ++ [x]).map V.str)) n3
      have h3 : upd H5 p3 (.lst ((ws.take n ++ [x]).map V.str)) p3 = _ := upd_same
      have S6 := S5.same s3
      have hl6 := s3 _ _ hl5
      generalize upd H5 p3 (.lst ((ws.take n ++ [x]).map V.str)) = H6 at s3 h3 S6 hl6
      refine ⟨_, rfl, _, rfl, _, rfl, l, _, rfl, SqL.of hl6, fun p4 n4 => ?_⟩
      rw [cut_drop]
      have s4 := same_new (o := .lst ((ws.drop n).map V.str)) n4
      have h4 : upd H6 p4 (.lst ((ws.drop n).map V.str)) p4 = _ := upd_same
      have S7 := S6.same s4
      have h37 := s4 _ _ h3
      generalize upd H6 p4 (.lst ((ws.drop n).map V.str)) = H7 at s4 h4 S7 h37
      refine ⟨p3, p4, _, _, rfl, rfl, h37, h4, by rw [List.length_map, List.length_map, sizeLine_eq, ld]; simp; omega, fun p5 n5 => ?_⟩
      rw [← List.map_append]
      have np5 : p5 ≠ p := fun y => by rw [y, S7.pen] at n5; cases n5
      refine k p5 _ a3 r3 _ upd_same np5 (by rw [List.length_append, List.length_append, lt, ld]; simp; omega) (ok_app (ok_app (okt n) (fun y hy => by rw [List.mem_singleton.mp hy]; exact okx)) (okd n)) (by omega) (by omega) (fun b o hb nb => ?_) (S7.same (same_new n5))
      exact same_new n5 _ _ (s4 _ _ (s3 _ _ (s2 _ _ (s1 _ _ (B12 _ _ hb nb)))))
    · refine iteFa (by simp [e0]) ⟨_, rfl, rfl, _, rfl, ?_⟩
      by_cases e1 : j = 1
      · refine iteTr (by rw [e1]; rfl) ?_
        refine ⟨_, rfl, _, rfl, _, rfl, l, _, rfl, SqL.of hl2, fun p1 n1 => ?_⟩
        rw [cut_take]
        have s1 := same_new (o := .lst ((ws.take n).map V.str)) n1
        have h1 : upd H2 p1 (.lst ((ws.take n).map V.str)) p1 = _ := upd_same
        have np1 : p1 ≠ p := fun y => by rw [y, S2.pen] at n1; cases n1
        have S3 := S2.same s1
        generalize upd H2 p1 (.lst ((ws.take n).map V.str)) = H3 at s1 h1 S3
        refine ⟨_, rfl, show 1 ≤ sizeLine by decide, fun p2 n2 => ?_⟩
        have s2 := same_new (o := .lst ([x].map V.str)) n2
        have h2 : upd H3 p2 (.lst ([x].map V.str)) p2 = _ := upd_same
        have S5 := S3.same s2
        have h15 := s2 _ _ h1
        have hl5 := s2 _ _ (s1 _ _ hl2)
        generalize hG : upd H3 p2 (.lst _) = H5
        have eG : upd H3 p2 (.lst ([x].map V.str)) = H5 := hG
        rw [eG] at s2 h2 S5 h15 hl5
        refine ⟨p1, p2, _, _, rfl, rfl, h15, h2, by rw [List.length_map, List.length_map, sizeLine_eq]; simp; omega, fun p3 n3 => ?_⟩
        rw [← List.map_append]
        have s3 := same_new (o := .lst ((ws.take n ++ [x]).map V.str)) n3
        have h3 : upd H5 p3 (.lst ((ws.take n ++ [x]).map V.str)) p3 = _ := upd_same
        have S6 := S5.same s3
        have hl6 := s3 _ _ hl5
        generalize upd H5 p3 (.lst ((ws.take n ++ [x]).map V.str)) = H6 at s3 h3 S6 hl6
        refine ⟨_, rfl, _, rfl, _, _, rfl, rfl, _, rfl, l, _, rfl, SqL.of hl6, fun p4 n4 => ?_⟩
        rw [show ((n : Int) + 1) = ((n + 1 : Nat) : Int) from rfl, cut_drop]
        have s4 := same_new (o := .lst ((ws.drop (n + 1)).map V.str)) n4
        have h4 : upd H6 p4 (.lst ((ws.drop (n + 1)).map V.str)) p4 = _ := upd_same
        have S7 := S6.same s4
        have h37 := s4 _ _ h3
        generalize upd H6 p4 (.lst ((ws.drop (n + 1)).map V.str)) = H7 at s4 h4 S7 h37
        refine ⟨p3, p4, _, _, rfl, rfl, h37, h4, by rw [List.length_map, List.length_map, sizeLine_eq, ld]; simp; omega, fun p5 n5 => ?_⟩
        rw [← List.map_append]
        have np5 : p5 ≠ p := fun y => by rw [y, S7.pen] at n5; cases n5
        refine k p5 _ a3 r3 _ upd_same np5 (by rw [List.length_append, List.length_append, lt, ld]; simp; omega) (ok_app (ok_app (okt n) (fun y hy => by rw [List.mem_singleton.mp hy]; exact okx)) (okd _)) (by omega) (by omega) (fun b o hb nb => ?_) (S7.same (same_new n5))
        exact same_new n5 _ _ (s4 _ _ (s3 _ _ (s2 _ _ (s1 _ _ (B12 _ _ hb nb)))))
      · refine iteFa (by simp [e1]) ⟨_, rfl, rfl, _, rfl, ?_⟩
        by_cases e2 : j = 2
        · refine iteTr (by rw [e2]; rfl) ?_
          refine ⟨_, rfl, _, rfl, _, rfl, l, _, rfl, SqL.of hl2, fun p1 n1 => ?_⟩
          rw [cut_take]
          have s1 := same_new (o := .lst ((ws.take n).map V.str)) n1
          have h1 : upd H2 p1 (.lst ((ws.take n).map V.str)) p1 = _ := upd_same
          have S3 := S2.same s1
          have hl3 := s1 _ _ hl2
          generalize upd H2 p1 (.lst ((ws.take n).map V.str)) = H3 at s1 h1 S3 hl3
          refine ⟨_, rfl, _, rfl, _, _, rfl, rfl, _, rfl, l, _, rfl, SqL.of hl3, fun p4 n4 => ?_⟩
          rw [show ((n : Int) + 1) = ((n + 1 : Nat) : Int) from rfl, cut_drop]
          have s4 := same_new (o := .lst ((ws.drop (n + 1)).map V.str)) n4
          have h4 : upd H3 p4 (.lst ((ws.drop (n + 1)).map V.str)) p4 = _ := upd_same
          have S7 := S3.same s4
          have h17 := s4 _ _ h1
          generalize upd H3 p4 (.lst ((ws.drop (n + 1)).map V.str)) = H7 at s4 h4 S7 h17
          refine ⟨p1, p4, _, _, rfl, rfl, h17, h4, by rw [List.length_map, List.length_map, sizeLine_eq, ld]; omega, fun p5 n5 => ?_⟩
          rw [← List.map_append]
          have np5 : p5 ≠ p := fun y => by rw [y, S7.pen] at n5; cases n5
          refine k p5 _ a3 r3 _ upd_same np5 (by rw [List.length_append, lt, ld]; omega) (ok_app (okt n) (okd _)) (by omega) (by omega) (fun b o hb nb => ?_) (S7.same (same_new n5))
          exact same_new n5 _ _ (s4 _ _ (s1 _ _ (B12 _ _ hb nb)))
        · refine iteFa (by simp [e2]) ⟨_, rfl, rfl, _, rfl, ?_⟩
          by_cases e3 : j = 3
          · refine iteTr (by rw [e3]; rfl) ?_
            refine ⟨_, rfl, _, rfl, _, rfl, l, _, rfl, SqL.of hl2, fun p1 n1 => ?_⟩
            rw [cut_take]
            have s1 := same_new (o := .lst ((ws.take n).map V.str)) n1
            have h1 : upd H2 p1 (.lst ((ws.take n).map V.str)) p1 = _ := upd_same
            have S3 := S2.same s1
            have hl3 := s1 _ _ hl2
            generalize upd H2 p1 (.lst ((ws.take n).map V.str)) = H3 at s1 h1 S3 hl3
            refine ⟨_, rfl, _, rfl, _, rfl, _, rfl, _, _, rfl, rfl, _, rfl, l, _, rfl, SqL.of hl3, fun p2 n2 => ?_⟩
            rw [show ((n : Int) + 1) = ((n + 1 : Nat) : Int) from rfl, cut_mid (Nat.le_succ n)]
            have s2 := same_new (o := .lst (((ws.drop n).take (n + 1 - n)).map V.str)) n2
            have h2 : upd H3 p2 (.lst (((ws.drop n).take (n + 1 - n)).map V.str)) p2 = _ := upd_same
            have S4 := S3.same s2
            have hl4 := s2 _ _ hl3
            have h14 := s2 _ _ h1
            generalize upd H3 p2 (.lst (((ws.drop n).take (n + 1 - n)).map V.str)) = H4 at s2 h2 S4 hl4 h14
            have l1 : ((ws.drop n).take (n + 1 - n)).length ≤ 1 := by rw [List.length_take]; omega
            refine ⟨p2, 2, _, rfl, rfl, h2, by decide, by decide, by rw [List.length_map, sizeLine_eq]; show _ * 2 ≤ _; omega, fun p3 n3 => ?_⟩
            have erp : ((List.replicate (Int.toNat 2) (((ws.drop n).take (n + 1 - n)).map V.str)).flatten) = ((ws.drop n).take (n + 1 - n) ++ (ws.drop n).take (n + 1 - n)).map V.str := by
              simp [show Int.toNat 2 = 2 from rfl, List.replicate]
            rw [erp]
            have okm : ∀ x ∈ (ws.drop n).take (n + 1 - n), OkW x := fun x hx => okd n x (List.mem_of_mem_take hx)
            have lB : ((ws.drop n).take (n + 1 - n) ++ (ws.drop n).take (n + 1 - n)).length ≤ 2 * (ws.length - n) ∧ ((ws.drop n).take (n + 1 - n) ++ (ws.drop n).take (n + 1 - n)).length ≤ 2 := by
              rw [List.length_append, List.length_take, ld]
              omega
            have okB := ok_app okm okm
            generalize (ws.drop n).take (n + 1 - n) ++ (ws.drop n).take (n + 1 - n) = B at lB okB
            have s3 := same_new (o := .lst (B.map V.str)) n3
            have h3 : upd H4 p3 (.lst (B.map V.str)) p3 = _ := upd_same
            have S5 := S4.same s3
            have hl5 := s3 _ _ hl4
            have h15 := s3 _ _ h14
            generalize upd H4 p3 (.lst (B.map V.str)) = H5 at s3 h3 S5 hl5 h15
            refine ⟨p1, p3, _, _, rfl, rfl, h15, h3, by rw [List.length_map, List.length_map, sizeLine_eq]; omega, fun p4 n4 => ?_⟩
            rw [← List.map_append]
            have s4 := same_new (o := .lst ((ws.take n ++ B).map V.str)) n4
            have h4 : upd H5 p4 (.lst ((ws.take n ++ B).map V.str)) p4 = _ := upd_same
            have S6 := S5.same s4
            have hl6 := s4 _ _ hl5
            generalize upd H5 p4 (.lst ((ws.take n ++ B).map V.str)) = H6 at s4 h4 S6 hl6
            refine ⟨_, rfl, _, rfl, _, _, rfl, rfl, _, rfl, l, _, rfl, SqL.of hl6, fun p5 n5 => ?_⟩
            rw [show ((n : Int) + 1) = ((n + 1 : Nat) : Int) from rfl, cut_drop]
            have s5 := same_new (o := .lst ((ws.drop (n + 1)).map V.str)) n5
            have h5 : upd H6 p5 (.lst ((ws.drop (n + 1)).map V.str)) p5 = _ := upd_same
            have S7 := S6.same s5
            have h47 := s5 _ _ h4
            generalize upd H6 p5 (.lst ((ws.drop (n + 1)).map V.str)) = H7 at s5 h5 S7 h47
            refine ⟨p4, p5, _, _, rfl, rfl, h47, h5, by rw [List.length_map, List.length_map, sizeLine_eq, List.length_append, ld]; omega, fun p6 n6 => ?_⟩
            rw [← List.map_append]
            have np6 : p6 ≠ p := fun y => by rw [y, S7.pen] at n6; cases n6
            refine k p6 _ a3 r3 _ upd_same np6 (by rw [List.length_append, List.length_append, lt, ld]; omega) (ok_app (ok_app (okt n) okB) (okd _)) (by omega) (by omega) (fun b o hb nb => ?_) (S7.same (same_new n6))
            exact same_new n6 _ _ (s5 _ _ (s4 _ _ (s3 _ _ (s2 _ _ (s1 _ _ (B12 _ _ hb nb))))))
          · exact iteFa (by simp [e3]) ⟨_, rfl, k l ws a3 r3 H2 hl2 nlp (by omega) hok (by omega) (by omega) B12 S2⟩
end
end Kx
set_option maxHeartbeats 4000000
namespace Kx
open PySem PySem.Spec PyProof.Rows L2 Xr
local macro_rules | `(tactic| walk_at "rd") => `(tactic| (repeat (first | apply Exists.intro | (refine And.intro rfl ?_) | (refine And.intro (SqL.of (by assumption)) ?_) | (refine And.intro (Or.inl (SqL.of (by assumption))) ?_) | (refine Or.inl ⟨_, rfl, ?_⟩) | (refine Or.inr ⟨_, rfl, ?_⟩) | (refine And.intro (by assumption) ?_) | (refine And.intro (Or.inl (by assumption)) ?_))))
section
variable {P : Program} {w : World} {K : PySem.W.Frag} {mg : Str → Option Value} {base : Heap}
theorem kit_id : PySem.W.kitOne K (.type "int") (.type "dict") = some false := kit_ty (by decide +kernel)
theorem ne1 {H : Hp} {l : Addr} {ws : List Str} {c : Str} {Q : VK} (hw : Wds H l ws) (hc : PyData.strOk c = true) (k : ∀ H', Same H H' → Q (.bl (!decide (ws[1]? = some c))) H') :
    ∀ p, H p = none → (1 ≤ sizeLine ∧ ∀ p2, upd H p (.lst (cutV (ws.map V.str) (some 1) (some 2))) p2 = none → rNeD K (.ref p) (.ref p2) (upd (upd H p (.lst (cutV (ws.map V.str) (some 1) (some 2)))) p2 (.lst [.str c])) Q) := by
  intro p1 n1
  have ec : cutV (ws.map V.str) (some 1) (some 2) = (ws[1]?.toList).map V.str := cut1 (a := 1)
  rw [ec]
  refine ⟨by decide, fun p2 n2 => ?_⟩
  have hm : ∀ x ∈ ws[1]?.toList, PyData.strOk x = true := fun x hx => by
    cases e : ws[1]? with
    | none => rw [e] at hx; cases hx
    | some y =>
      rw [e] at hx
      rw [List.mem_singleton.mp hx]
      exact hw.ok y (List.mem_of_getElem? e)
  have s1 : Same H (upd H p1 (.lst ((ws[1]?.toList).map V.str))) := same_new n1
  have h1 : upd H p1 (.lst ((ws[1]?.toList).map V.str)) p1 = _ := upd_same
  have s2 := same_new (o := .lst [.str c]) n2
  refine ⟨_, _, Dp.lst (SqL.of (s2 _ _ h1)) (dp_strsB _), Dp.lst (SqL.of upd_same) (.cons (.str c) .nil), shaped_strsB _ hm, shaped_strsB [c] (fun x hx => by rw [List.mem_singleton.mp hx]; exact hc), ?_⟩
  rw [eqv_one]
  have ez : decide (ws[1]?.toList = [c]) = decide (ws[1]? = some c) := by
    cases ws[1]? <;> simp
  rw [ez]
  exact k _ (s1.trans s2)
theorem sc__law_due : FnScope ["_law_words_here", "_law_rows_so", "_law_month"] ["_law_words_here"] (defScope (top 41)) := ⟨rfl, rfl, rfl, by decide +kernel, rfl, by decide +kernel, by decide +kernel⟩
def spDue (K : PySem.W.Frag) : Sp := fun vs H Q _ => ∃ l ws, vs = [.ref l] ∧ Wds H l ws ∧ 1 ≤ ws.length ∧ ws.length < 64 ∧ (∀ e, stgIn ws 0 = .error e → ∀ H', Same H H' → Q (.int ((e : Nat) : Int)) H') ∧
  (∀ n t, stgIn ws 0 = .ok (n, t) → stgOk t = false → ∀ H', Same H H' → Q (.str "legs") H') ∧ ∀ n t, stgIn ws 0 = .ok (n, t) → stgOk t = true → ∀ d p H', Same H H' → H' d = some (.dK (tabK t)) → H' p = some (.tup [.str n, .ref d]) → Q (.ref p) H'
theorem ok__law_due (T : Txt P K mg) : OkF P w K mg base CX0 3 (He.ga K "_law_due") ["_law_words_here"] (spDue K) := by
  have G__law_is_name := ok__law_is_name (P := P) (w := w) (base := base) T
  have G__law_legs := ok__law_legs (P := P) (w := w) (base := base) T
  obtain ⟨fd, F⟩ := T.F__law_due
  refine ⟨fd, F.ok sc__law_due (fun vs H Q E h => ?_) (fun cdv A outer s H vs Q E hr h => ?_), F.bindsN fun _ _ _ _ _ _ us hl => match us, hl with | [_], _ => rfl, F.kp⟩
  · obtain ⟨l, ws, rfl, _⟩ := h
    rfl
  · obtain ⟨l, ws, rfl, hw, h1, h64, kE, kL, kT⟩ := h
    have hu := hu_of hr
    have hu64 := hr.units
    refine ⟨_, PSs.nox (pss_cons (ps_if (pt_not (pt_val (pe_f G__law_is_name (hr.mono (by decide)) (by rfl) T.g__law_is_name pass0 (pa_cons (pe_ix (ix_listK K) (pv 0) pe_int (fun _ _ => rfl)) pa_nil))))
      (pss_one (ps_ret pe_int))
      pss_nil)
    (pss_cons (ps_if (pt_cmpR (op_neD hu64) (pe_slice sl_list (pv 0) (po_some pe_int) (po_some pe_int)) (pe_lst (pa_cons pe_str pa_nil)) (nomark _))
      (pss_one (ps_ret pe_int))
      pss_nil)
    (pss_cons (ps_asg (pe_f G__law_legs (hr.mono (by decide)) (by rfl) T.g__law_legs pass0 (pa_cons (pv 0) (pa_cons pe_int pa_nil))) (pg_name (i := 1) sc__law_due.nd rfl (.inr rfl)))
    (pss_cons (ps_if (pt_not (pt_val (pe_callB (call_isiK K) (by rfl) T.z_isinstance (by decide +kernel) (pa_cons (pv 1) (pa_cons (pe_bltn (v := .ty "dict") (by rfl) T.z_dict (by decide +kernel) rfl) pa_nil)))))
      (pss_one (ps_ret (pv 1)))
      pss_nil)
    (pss_cons (ps_if (PW.pt (pw_or (pt_not (pt_chain op_le op_le pe_int (pe_callB call_lenD (by rfl) T.z_len (by decide +kernel) (pa_cons (pv 1) pa_nil)) pe_int)) (pw_or1 (pt_cmpR (op_neD hu64) (pe_lock (pe_lc (own := [("_law_month", 2)]) (g := gName 2) rfl sc__law_due.nd (pi_keys (pv 1)) (blkOk_by (N := ["_law_words_here", "_law_rows_so", "_law_month"]) (sc := defScope (top 41)) (by decide +kernel)) (fun _ _ _ _ _ => pg_name (i := 2) sc__law_due.nd rfl (Or.inl rfl)) (fun _ _ _ _ _ => (pts_one (pt_cmpR op_gt (pe_callB call_abs (by rfl) T.z_abs (by decide +kernel) (pa_cons (pe_dget hu (pv 1) (pv 2) (fun _ _ => rfl)) pa_nil)) pe_int (nomark _)))) (fun _ _ _ _ _ => (pv 2)))) (pe_lst pa_nil) (nomark _)))))
      (pss_one (ps_ret pe_str))
      pss_nil)
    (pss_one (ps_ret (pe_tup (pa_cons (pe_ix (ix_listK K) (pv 0) pe_int (fun _ _ => rfl)) (pa_cons (pv 1) pa_nil)))))))))), ?_⟩
    obtain ⟨ex, ex2⟩ := word_some (ws := ws) (a := 0) h1
    obtain ⟨i1, _, i3⟩ := atI_word ex
    generalize ws[0] = x at ex ex2 i1 i3
    unfold stgIn at kE kL kT
    rw [ex] at kE kL kT
    dsimp only at kE kL kT
    refine ⟨_, rfl, l, _, _, _, rfl, rfl, SqL.of hw.at_, i1, _, rfl, hw.each _ i3, hw.ok _ i3, fun H1 s1 => ⟨_, rfl, ?_⟩⟩
    have hw1 := hw.same s1
    cases hn : nameS x with
    | false =>
      rw [hn, if_neg Bool.false_ne_true] at kE
      exact iteTr rfl (kE 0 rfl H1 s1)
    | true =>
      rw [hn, if_pos rfl] at kE kL kT
      refine iteFa rfl ?_
      refine ⟨_, rfl, _, rfl, _, rfl, l, _, rfl, SqL.of hw1.at_, ne1 hw1 (by decide +kernel) fun H2 s2 => ⟨_, rfl, ?_⟩⟩
      have s12 := s1.trans s2
      have hw2 := hw.same s12
      by_cases hq : ws[1]? = some ("=" : Str)
      · refine iteFa (by rw [decide_eq_true hq]; rfl) ?_
        have hl2 : 2 ≤ ws.length := by
          rcases Nat.lt_or_ge 1 ws.length with z | z
          · omega
          · rw [List.getElem?_eq_none z] at hq
            cases hq
        have e1 : wordAt ws (0 + 1) = .ok ("=" : Str) := by
          unfold wordAt
          rw [hq]
        rw [e1] at kE kL kT
        dsimp only at kE kL kT
        rw [if_pos rfl] at kE kL kT
        refine ⟨_, rfl, l, ws, 2, rfl, hw2, hl2, fun t ht d H3 s3 nd hd => ?_, fun e he H3 s3 => ?_⟩
        · have ht' : termsIn ws (0 + 2) = .ok t := ht
          rw [ht'] at kL kT
          dsimp only at kL kT
          obtain ⟨g1, g2, g3⟩ := termsIn_goodA ht
          have s13 := s12.trans s3
          refine ⟨_, rfl, _, _, _, _, _, rfl, .ty "dict", .base (.dK hd), kit_dd, _, rfl, iteFa rfl ?_⟩
          refine ⟨_, rfl, d, _, rfl, hd, ?_⟩
          rw [tab_len]
          have no : ∀ H', Same H H' → stgOk t = false → Q (.str "legs") H' := fun H' s' e => kL _ _ rfl e H' s'
          refine ⟨1, _, rfl, rfl, _, rfl, ?_⟩
          refine iteD (fun c1 => ?_) (fun c1 => ⟨false, rfl, no H3 s13 (by unfold stgOk; rw [decide_eq_false (by omega)]; rfl)⟩)
          refine ⟨_, _, rfl, rfl, _, rfl, ?_⟩
          by_cases c2 : (t.length : Int) ≤ 6
          · refine iteFa (by rw [decide_eq_true c2]; rfl) ?_
            refine ⟨d, _, hd, trivial, fun od => ?_⟩
            refine ⟨_, rfl, d, od, rfl, .inl ⟨_, upd_same, fun D hD => ?_⟩⟩
            have ndD : D ≠ d := fun z => by rw [z, upd_same] at hD; cases hD
            refine lcF yl_keys (fun v => decide (4 < absI (val t (strOf v)))) (fun v => v) hD (by rw [List.length_map]; unfold tabK; rw [List.length_map]; omega) (fun H' s => s _ _ upd_same) (fun _ => rfl) (fun v H' hm s2 Qb q => ?_) (fun v H' hm _ s2 Q2 q => ⟨_, rfl, q H' (Same.refl H')⟩) fun H4 s4 hl => ?_
            · obtain ⟨p', hp, rfl⟩ := List.mem_map.mp hm
              obtain ⟨p'', hp', rfl⟩ := List.mem_map.mp hp
              have hk2 : p''.1 ∈ ks t := List.mem_map.mpr ⟨p'', hp', rfl⟩
              exact ⟨_, rfl, _, rfl, d, _, rfl, .inl ⟨_, .inr p''.1, .inr ⟨od, s2 _ _ upd_same⟩, rfl, (valV_in hk2).symm⟩, _, rfl, _, _, rfl, rfl, _, rfl, q H' (Same.refl H')⟩
            refine ⟨s4 _ _ upd_same, ?_⟩
            have s5 := same_lock hd s4
            have hl3 : upd H4 d (.dK (tabK t)) D = _ := (upd_ne ndD).trans hl
            have hd5 : upd H4 d (.dK (tabK t)) d = some (.dK (tabK t)) := upd_same
            generalize upd H4 d (.dK (tabK t)) = H5 at s5 hl3 hd5
            have ef : (List.map (fun v => v) (List.filter (fun v => decide (4 < absI (val t (strOf v)))) ((tabK t).map fun p => kV p.1))) = ((ks t).filter fun x => decide (4 < absI (val t x))).map V.str := by
              rw [List.map_id', show ((tabK t).map fun p => kV p.1) = (ks t).map V.str from keysV_tab t, List.filter_map]
              rfl
            rw [ef] at hl3
            have okS : ∀ x ∈ (ks t).filter fun x => decide (4 < absI (val t x)), PyData.strOk x = true := fun x hx => by
              obtain ⟨p, hp, rfl⟩ := List.mem_map.mp (List.mem_filter.mp hx).1
              exact name_ok (g3 p hp).name
            refine ⟨show 0 ≤ sizeLine by decide, fun z nz => ?_⟩
            refine ⟨_, _, Dp.lst (SqL.of (same_new nz _ _ hl3)) (dp_strsB _), Dp.lst (SqL.of upd_same) .nil, shaped_strsB _ okS, rfl, ?_⟩
            rw [eqv_nilB]
            have s6 := (s13.trans s5).trans (same_new (o := .lst []) nz)
            have hd6 := same_new (o := .lst []) nz _ _ hd5
            generalize upd H5 z (.lst []) = H6 at s6 hd6
            have ee : ((ks t).filter fun x => decide (4 < absI (val t x))).isEmpty = stgOk t := by
              unfold stgOk
              rw [decide_eq_true (show 1 ≤ t.length by omega), decide_eq_true (show t.length ≤ 6 by omega), Bool.true_and, Bool.true_and, Bool.eq_iff_iff, List.isEmpty_iff, List.filter_eq_nil_iff, List.all_eq_true]
              constructor
              · intro h p hp
                have z := h p.1 (List.mem_map.mpr ⟨p, hp, rfl⟩)
                rw [val_mem g1 hp, decide_eq_true_eq] at z
                exact decide_eq_true (by omega)
              · intro h x hx
                obtain ⟨p, hp, rfl⟩ := List.mem_map.mp hx
                have z := of_decide_eq_true (h p hp)
                rw [val_mem g1 hp, decide_eq_true_eq]
                omega
            rw [ee]
            cases hs : stgOk t with
            | true =>
              refine ⟨_, rfl, iteFa rfl ?_⟩
              have hw6 := hw.same s6
              refine ⟨_, rfl, l, _, _, _, rfl, rfl, SqL.of hw6.at_, i1, _, rfl, show 2 ≤ sizeLine by decide, fun p np => ?_⟩
              have s7 := same_new (o := .tup [.str x, .ref d]) np
              exact kT _ _ rfl hs d p _ (s6.trans s7) (s7 _ _ hd6) upd_same
            | false => exact ⟨_, rfl, iteTr rfl (no H6 s6 hs)⟩
          · refine iteTr (by rw [decide_eq_false c2]; rfl) (no H3 s13 ?_)
            unfold stgOk
            rw [decide_eq_false (show ¬ t.length ≤ 6 by omega), Bool.and_false]
            rfl
        · have he' : termsIn ws (0 + 2) = .error e := he
          rw [he'] at kE
          exact ⟨_, rfl, _, _, _, _, _, rfl, .ty "dict", .base (.int _), kit_id, _, rfl, iteTr rfl ⟨_, rfl, kE e rfl H3 (s12.trans s3)⟩⟩
      · refine iteTr (by rw [decide_eq_false hq]; rfl) ?_
        have e2 : (match wordAt ws (0 + 1) with
          | .error e => .error e
          | .ok x_1 => if x_1 = ("=" : Str) then (match termsIn ws (0 + 2) with
            | .error e => .error e
            | .ok t => .ok (x, t)) else .error (0 + 1) : Except Nat (Str × Tab)) = .error 1 := by
          unfold wordAt
          cases e3 : ws[0 + 1]? with
          | none =>
            dsimp only
            have : ws.length ≤ 1 := List.getElem?_eq_none_iff.mp e3
            have : ws.length = 1 := by omega
            rw [this]
          | some y =>
            dsimp only
            rw [if_neg fun z => hq (e3.trans (congrArg some z))]
        exact kE 1 e2 H2 s12
end
end Kx
set_option maxHeartbeats 4000000
namespace Kx
open PySem PySem.Spec PyProof.Rows L2 Xr LamX
local macro_rules | `(tactic| walk_at "rd") => `(tactic| (repeat (first | apply Exists.intro | (refine And.intro rfl ?_) | (refine And.intro (SqL.of (by assumption)) ?_) | (refine And.intro (Or.inl (SqL.of (by assumption))) ?_) | (refine Or.inl ⟨_, rfl, ?_⟩) | (refine Or.inr ⟨_, rfl, ?_⟩) | (refine And.intro (by assumption) ?_) | (refine And.intro (Or.inl (by assumption)) ?_))))
section
variable {P : Program} {w : World} {K : PySem.W.Frag} {mg : Str → Option Value} {base : Heap}
theorem sc__law_heard : FnScope ["_law_ask", "_law_caught", "error"] ["_law_ask"] (defScope (top 42)) := ⟨rfl, rfl, rfl, by decide +kernel, rfl, by decide +kernel, by decide +kernel⟩
/-- what the law tells of an error -/
def ToldE (K : PySem.W.Frag) (Q : VK) : XK := fun cls d H' => (cls = .ref (He.ga K "InvalidText") ∧ ∃ dd l v, d = some dd ∧ H' dd = some (.xd [("line", l), ("word", v)]) ∧ ∀ p H2, Same H' H2 → H2 p = some (.tup [.str "text", l, v]) → Q (.ref p) H2) ∨
  (cls = .ref (He.ga K "InvalidStrategy") ∧ ∃ dd r, d = some dd ∧ H' dd = some (.xd [("reason", r)]) ∧ ∀ p H2, Same H' H2 → H2 p = some (.tup [.str "strategy", r]) → Q (.ref p) H2)
def TTs (K : PySem.W.Frag) : (XK → Hp → VK → Prop) → Hp → VK → Prop := fun tl H Q => tl (ToldE K Q) H Q
theorem heard_gives (T : Txt P K mg) {X : Cx} (eP : X.prog = P) (eK : X.K = K) (eg : X.mg = mg) (cdg : Value) {q : Str} : GivesTo X ["_law_ask", "_law_caught", "error"] "_law_heard" (defScope (top 42)) (He.ga K "_law_heard") cdg (defBody (top 42)) "_law_ask" q (TTs K) := by
  subst eP eK eg
  intro f c' s H Q tl act hc h
  have xi := T.e_InvalidStrategy.xi
  have xf := T.e_InvalidStrategy.xf
  have xiT := T.e_InvalidText.xi
  have xfT := T.e_InvalidText.xf
  have k1 := T.kitE "InvalidStrategy" (by decide) "InvalidStrategy" (by decide)
  have k2 := T.kitE "InvalidStrategy" (by decide) "InvalidText" (by decide)
  have k3 := T.kitE "InvalidText" (by decide) "InvalidText" (by decide)
  have k4 := T.kitE "InvalidText" (by decide) "InvalidStrategy" (by decide)
  have k5 := T.kitE "InvalidText" (by decide) "InvalidLegs" (by decide)
  have kA : PySem.W.kitAny X.K (.ref (He.ga X.K "InvalidText")) [.ref (He.ga X.K "InvalidStrategy"), .ref (He.ga X.K "InvalidLegs")] = some false := by
    unfold PySem.W.kitAny
    rw [k4]
    show PySem.W.kitAny X.K _ _ = _
    unfold PySem.W.kitAny
    rw [k5]
    rfl
  have ex := T.exm "InvalidStrategy" (by decide)
  have exT := T.exm "InvalidText" (by decide)
  refine ⟨_, pss_cons (ps_asg pe_non (pg_name (i := 1) sc__law_heard.nd rfl (.inl rfl))) (pss_cons (ps_try_keep (X := (cxOf C8.CX0 X.prog X.w X.K X.mg X.base ["_law_ask", "_law_caught", "error"] "_law_heard" (defScope (top 42)) (He.ga X.K "_law_heard") cdg X.A X.stack s H C8.E0).nox) (i := 2) (c1 := .ref (He.ga X.K "LotError")) (c2 := .ref (He.ga X.K "UnknownName"))
      (tb := fun W D σ H => ∃ Ech : XK, (∀ cls d σ' H', Ech cls d H' → σ'.length = 3 → W cls d σ' H') ∧ σ[0]? = some (some (.ref f)) ∧ H c' = some (CodeO c' q) ∧ tl Ech H D.rt)
      rfl rfl rfl sc__law_heard.nd rfl rfl ⟨rfl, by decide, .inl T.g_LotError⟩ ⟨rfl, by decide, .inl T.g_UnknownName⟩ takes0 (fun W pn xe tk _ => ?_) (fun a oe cls d pn _ _ => pss_one (ps_asg (pv 2) (pg_name (i := 1) sc__law_heard.nd rfl (.inl rfl)))))
    (pss_cons (ps_if (PW.pt (pw_and (pt_val (pe_callB call_isR (by rfl) T.z_isinstance (by decide +kernel) (pa_cons (pv 1) (pa_cons (pe_glob (v := .ref (He.ga X.K "InvalidText")) (by rfl) T.g_InvalidText rfl) pa_nil)))) (pw_and1 (pt_not (pt_val (pe_callB call_isRT (by rfl) T.z_isinstance (by decide +kernel) (pa_cons (pv 1) (pa_cons (pe_tup (pa_cons (pe_glob (v := .ref (He.ga X.K "InvalidStrategy")) (by rfl) T.g_InvalidStrategy rfl) (pa_cons (pe_glob (v := .ref (He.ga X.K "InvalidLegs")) (by rfl) T.g_InvalidLegs rfl) pa_nil))) pa_nil))))))))
        (pss_one (ps_ret (pe_tup (pa_cons pe_str (pa_cons (pe_xr (pv 1)) (pa_cons (pe_xr (pv 1)) pa_nil)))))) pss_nil)
      (pss_one (ps_ret (pe_ifExp (pt_val (pe_callB call_isR (by rfl) T.z_isinstance (by decide +kernel) (pa_cons (pv 1) (pa_cons (pe_glob (v := .ref (He.ga X.K "InvalidStrategy")) (by rfl) T.g_InvalidStrategy rfl) pa_nil)))) (pe_tup (pa_cons pe_str (pa_cons (pe_xr (pv 1)) pa_nil))) pe_str))))), ?_⟩
  · refine ⟨fun pins s' σ H' D I h' => ?_⟩
    obtain ⟨Ech, hW, h1, h2, h3⟩ := h'
    exact (pss_one (ps_ret (act (fun cls d σ H => σ.length = 3 → W cls d σ H) pn xe Ech _ _ (takes_len rfl tk) hW))).run pins s' σ H' D I ⟨h1, h2, h3⟩
  · refine ⟨_, fun cls d σ' H' hE hl => ?_, rfl, hc, h⟩
    obtain ⟨x0, x1, x2, rfl⟩ : ∃ x0 x1 x2, σ' = [x0, x1, x2] := match σ', hl with | [x0, x1, x2], _ => ⟨x0, x1, x2, rfl⟩
    rcases hE with ⟨rfl, dd, l, v, rfl, hdd, k⟩ | ⟨rfl, dd, r, rfl, hdd, k⟩
    · refine ⟨true, exT, fun _ a na => ⟨_, rfl, fun na2 => ?_⟩, fun z => by cases z⟩
      have ha : upd H' a (exr a (.ref (He.ga X.K "InvalidText")) (some dd)) a = _ := upd_same
      have hd2 : upd H' a (exr a (.ref (He.ga X.K "InvalidText")) (some dd)) dd = _ := (upd_ne (ne_of_none hdd na)).trans hdd
      have s2 := same_new (o := exr a (.ref (He.ga X.K "InvalidText")) (some dd)) na
      generalize upd H' a (exr a (.ref (He.ga X.K "InvalidText")) (some dd)) = H2 at ha hd2 s2
      refine ⟨_, rfl, a, _, dd, _, _, _, _, rfl, ha, hd2, xiT, .own _, k3, _, rfl, iteT ?_⟩
      refine ⟨_, rfl, show 2 ≤ sizeLine by decide, fun tp ntp => ?_⟩
      have s3 := same_new (o := .tup [.ref (He.ga X.K "InvalidStrategy"), .ref (He.ga X.K "InvalidLegs")]) ntp
      have h3 : upd H2 tp (.tup [.ref (He.ga X.K "InvalidStrategy"), .ref (He.ga X.K "InvalidLegs")]) tp = _ := upd_same
      refine ⟨a, _, dd, tp, _, _, _, _, rfl, s3 _ _ ha, s3 _ _ hd2, xiT, h3, .cons (.own _) (.cons (.own _) .nil), kA, _, rfl, iteTr rfl ?_⟩
      refine ⟨_, rfl, a, _, dd, _, _, rfl, s3 _ _ ha, s3 _ _ hd2, xfT, T.e_InvalidText.no _ (by decide), rfl, _, rfl, a, _, dd, _, _, rfl, s3 _ _ ha, s3 _ _ hd2, xfT, T.e_InvalidText.no _ (by decide), rfl, show 3 ≤ sizeLine by decide, fun p np => ?_⟩
      exact k p _ ((s2.trans s3).trans (same_new np)) upd_same
    · refine ⟨true, ex, fun _ a na => ⟨_, rfl, fun na2 => ?_⟩, fun z => by cases z⟩
      have ha : upd H' a (exr a (.ref (He.ga X.K "InvalidStrategy")) (some dd)) a = _ := upd_same
      have hd2 : upd H' a (exr a (.ref (He.ga X.K "InvalidStrategy")) (some dd)) dd = _ := (upd_ne (ne_of_none hdd na)).trans hdd
      have s2 := same_new (o := exr a (.ref (He.ga X.K "InvalidStrategy")) (some dd)) na
      generalize upd H' a (exr a (.ref (He.ga X.K "InvalidStrategy")) (some dd)) = H2 at ha hd2 s2
      refine ⟨_, rfl, a, _, dd, _, _, _, _, rfl, ha, hd2, xi, .own _, k2, _, rfl, iteFa rfl ?_⟩
      refine ⟨_, rfl, a, _, dd, _, _, _, _, rfl, ha, hd2, xi, .own _, k1, _, rfl, iteT ?_⟩
      refine ⟨_, rfl, a, _, dd, _, _, rfl, ha, hd2, xf, T.e_InvalidStrategy.no _ (by decide), rfl, show 2 ≤ sizeLine by decide, fun p np => ?_⟩
      exact k p _ (s2.trans (same_new np)) upd_same
end
end Kx
set_option maxHeartbeats 4000000
/-! plain laws of texts and tables for the law's def -/
namespace Kx
open PySem PySem.Spec PyProof.Rows L2 Xr
section
variable {K : PySem.W.Frag}
theorem textT_len {m : Tab} (gw : GoodW m) (hl : m.length ≤ 100) : (textT m).length ≤ 100000 := by
  unfold textT
  by_cases h : wordsT m ≠ []
  · rw [if_pos h, TL.join_eq]
    have z := StrLaws.join_length_le " " (wordsT m)
    have z2 := sum_le (B := 60) ((wordsT m).map (·.length)) fun x hx => by
      obtain ⟨y, hy, rfl⟩ := List.mem_map.mp hx
      exact (words_free true m gw.g y hy).2
    rw [List.length_map] at z2
    have z3 : (wordsT m).length ≤ 3 * m.length := wordsB_le true m
    have e1 : (Str.ofString " ").length = 1 := rfl
    rw [e1] at z
    omega
  · rw [if_neg h]
    decide
theorem wdl_words {m : Tab} (gw : GoodW m) : WdL (wordsZ m) := by
  unfold wordsZ
  by_cases h : wordsT m ≠ []
  · rw [if_pos h]
    refine ⟨?_, fun w hw => ?_, fun w hw => words_ok gw.g w hw⟩
    · have z := wordsB_le true m
      have := gw.len
      unfold wordsT
      omega
    · have := (words_free true m gw.g w hw).2
      omega
  · rw [if_neg h]
    refine ⟨by decide, fun w hw => ?_, fun w hw => ?_⟩ <;> (rw [List.mem_singleton.mp hw]; decide +kernel)
theorem read_ok {m : Tab} (gw : GoodW m) (hl : m.length ≤ 100) (nd : (ks m).Nodup) : (textT m).length ≤ 100000 ∧ WdL (Txt.split (textT m) " ") ∧ termsIn (Txt.split (textT m) " ") 0 = .ok m := by
  refine ⟨textT_len gw hl, ?_⟩
  rw [split_text gw.g]
  exact ⟨wdl_words gw, terms_words gw.g nd⟩
theorem join_Z (m : Tab) : Txt.join " " (wordsZ m) = textT m := by
  unfold wordsZ textT
  by_cases h : wordsT m ≠ []
  · rw [if_pos h, if_pos h]
  · rw [if_neg h, if_neg h]
    decide +kernel
theorem val_perm {m m' : Tab} (hp : m'.Perm m) (nd : (ks m).Nodup) (k : Str) : val m' k = val m k := by
  have pk : (ks m').Perm (ks m) := hp.map _
  have nd' : (ks m').Nodup := pk.nodup_iff.mpr nd
  by_cases h : k ∈ ks m
  · obtain ⟨p, hm, rfl⟩ := List.mem_map.mp h
    rw [val_mem nd hm, val_mem nd' (hp.mem_iff.mpr hm)]
  · rw [val_out h, val_out fun z => h (pk.mem_iff.mp z)]
theorem GoodW.perm {m m' : Tab} (g : GoodW m) (hp : m'.Perm m) : GoodW m' := ⟨fun p h => g.g p (hp.mem_iff.mp h), by rw [hp.length_eq]; exact g.len⟩
theorem bnd_words {m : Tab} (gw : GoodW m) (hl : m.length ≤ 100) : ((wordsZ m).map (·.length)).sum + (wordsZ m).length * (Str.ofString " ").length ≤ 16777216 := by
  have e1 : (Str.ofString " ").length = 1 := rfl
  rw [e1]
  unfold wordsZ
  by_cases h : wordsT m ≠ []
  · rw [if_pos h]
    have z2 := sum_le (B := 60) ((wordsT m).map (·.length)) fun x hx => by
      obtain ⟨y, hy, rfl⟩ := List.mem_map.mp hx
      exact (words_free true m gw.g y hy).2
    rw [List.length_map] at z2
    have z3 : (wordsT m).length ≤ 3 * m.length := wordsB_le true m
    omega
  · rw [if_neg h]
    decide
theorem shaped_tupS (l : List Str) (h : ∀ x ∈ l, PyData.strOk x = true) : SeqAt.shaped (.tuple (l.map PyData.str)) = true := by
  simp [SeqAt.shaped, PyData.canLay0, PyData.depth, lay_strsB l h, depth_strsB]
theorem eqv_tup (l : List Str) (h : ∀ x ∈ l, PyData.strOk x = true) : PyData.eqv (.tuple (l.map PyData.str)) (.tuple (l.map PyData.str)) = true := by
  refine SeqAt.eqv_refl _ ?_
  show PyData.canLayAll0 _ = true
  exact lay_strsB l h
theorem PairsAt.but {H H' : Hp} {p q l : Addr} {ns : List Int} {a r : Int} {m : Tab} (h : PairsAt H l m) (S : PenAt H p q ns a r) (n : l ≠ p) (B : But p H H') : PairsAt H' l m := by
  obtain ⟨as, h1, h2⟩ := h
  refine ⟨as, B _ _ h1 n, Paired.mapP h2 fun x y z => B _ _ z fun e => ?_⟩
  rw [e, S.pen] at z
  cases z
theorem LegsAt.but {H H' : Hp} {p q x C : Addr} {ns : List Int} {a r : Int} {m : Tab} (l : LegsAt H C x m) (S : PenAt H p q ns a r) (B : But p H H') : LegsAt H' C x m := by
  obtain ⟨dx, d, h1, h2⟩ := l.at_
  have n : ∀ {y : Addr} {o : HO}, H y = some o → o ≠ .lst [.ref q, .int a, .int r] → y ≠ p := fun h d z => by
    rw [z, S.pen] at h
    exact d (Option.some.inj h).symm
  exact ⟨⟨dx, d, B _ _ h1 (n h1 (fun z => by cases z)), B _ _ h2 (n h2 (fun z => by cases z))⟩, l.can, l.len⟩
def goodB (m : Tab) : Bool := m.all fun p => nameS p.1 && (decide (p.2 ≠ 0) && decide (absI p.2 < 10 ^ 60))
theorem goodW_dec {m : Tab} (h : goodB m = true) (hl : m.length ≤ 1000) : GoodW m := by
  refine ⟨fun p hp => ?_, hl⟩
  have z := List.all_eq_true.mp h p hp
  obtain ⟨z1, z⟩ := Bool.and_eq_true_iff.mp z
  obtain ⟨z2, z3⟩ := Bool.and_eq_true_iff.mp z
  exact ⟨z1, of_decide_eq_true z2, of_decide_eq_true z3⟩
def wdlB (ws : List Str) : Bool := decide (ws.length ≤ 100000) && ws.all fun w => decide (w.length ≤ 100000) && PyData.strOk w
theorem wdl_dec {ws : List Str} (h : wdlB ws = true) : WdL ws := by
  obtain ⟨h1, h2⟩ := Bool.and_eq_true_iff.mp h
  refine ⟨of_decide_eq_true h1, fun w hw => ?_, fun w hw => ?_⟩
  · exact of_decide_eq_true (Bool.and_eq_true_iff.mp (List.all_eq_true.mp h2 w hw)).1
  · exact (Bool.and_eq_true_iff.mp (List.all_eq_true.mp h2 w hw)).2
def canB (m : Tab) : Bool := decide ((ks m).Pairwise fun a b => ltCps b.cps.toList a.cps.toList = false) && (decide (ks m).Nodup && m.all fun p => decide (p.2 ≠ 0))
theorem canon_dec {m : Tab} (h : canB m = true) : Canon m := by
  obtain ⟨h1, h⟩ := Bool.and_eq_true_iff.mp h
  obtain ⟨h2, h3⟩ := Bool.and_eq_true_iff.mp h
  have h1 := of_decide_eq_true h1
  exact ⟨h1, of_decide_eq_true h2, fun p hp => of_decide_eq_true (List.all_eq_true.mp h3 p hp)⟩
def okE (x : Except Nat Tab) (m : Tab) : Bool := match x with
  | .ok t => decide (t = m)
  | .error _ => false
theorem okE_dec {x : Except Nat Tab} {m : Tab} (h : okE x m = true) : x = .ok m := by
  cases x with
  | ok t => rw [of_decide_eq_true h]
  | error e => cases h
theorem abs_b3 {n : Int} (h : absI n < 10 ^ 60) : Bnd3 n := by
  unfold absI at h
  have e : (10 : Int) ^ 60 = 1000000000000000000000000000000000000000000000000000000000000 := by decide
  rw [e] at h
  have e2 : (2 : Nat) ^ 200 = 1606938044258990275541962092341162602522202993782792835301376 := by decide
  have z : n.natAbs < 2 ^ 200 := by
    rw [e2]
    split at h <;> omega
  exact Nat.lt_of_lt_of_le z (Nat.pow_le_pow_right (by decide) (by decide))
def adrOf : V → Addr
  | .ref a => a
  | _ => 0
/-- an instance that is new, of legs without numbers; its heap -/
theorem made_legs {H H1 : Hp} {e dx d p' C : Addr} {fs : List (Key × V)} {m : Tab} (ne : H e = none) (ndx : H dx = none) (hd : upd (upd H dx (.own e)) e (.ins C dx []) d = none) (s1 : Same (upd (upd (upd H dx (.own e)) e (.ins C dx [])) d (.dK fs)) H1)
    (np : upd (upd (upd H dx (.own e)) e (.ins C dx [])) d (.dK fs) p' = none) (hp : H1 p' = some (.dK (tabK m))) (cm : Canon m) (hl : m.length < 64) : Same H (upd H1 e (.ins C dx [("by_month", .ref p')])) ∧ LegsAt (upd H1 e (.ins C dx [("by_month", .ref p')])) C e m := by
  have hed : e ≠ d := fun z => by rw [← z, upd_same] at hd; cases hd
  have hE : upd (upd (upd H dx (.own e)) e (.ins C dx [])) d (.dK fs) e = some (.ins C dx []) := (upd_ne hed).trans upd_same
  have hpe : p' ≠ e := fun z => by rw [z, hE] at np; cases np
  refine ⟨fun b o hb => ?_, ⟨⟨dx, p', upd_same, (upd_ne hpe).trans hp⟩, cm, hl⟩⟩
  have b1 : b ≠ e := fun z => by rw [z, ne] at hb; cases hb
  have b2 : b ≠ dx := fun z => by rw [z, ndx] at hb; cases hb
  have b3 : upd (upd H dx (.own e)) e (.ins C dx []) b = some o := by rw [upd_ne b1, upd_ne b2]; exact hb
  have b4 : b ≠ d := fun z => by rw [z, hd] at b3; cases b3
  rw [upd_ne b1]
  exact s1 _ _ ((upd_ne b4).trans b3)
end
end Kx
set_option maxHeartbeats 8000000
namespace Kx
open PySem PySem.Spec PyProof.Rows L2 Xr LamX
local macro_rules | `(tactic| walk_at "rd") => `(tactic| (repeat (first | apply Exists.intro | (refine And.intro rfl ?_) | (refine And.intro (SqL.of (by assumption)) ?_) | (refine And.intro (Or.inl (SqL.of (by assumption))) ?_) | (refine Or.inl ⟨_, rfl, ?_⟩) | (refine Or.inr ⟨_, rfl, ?_⟩) | (refine And.intro (by assumption) ?_) | (refine And.intro (Or.inl (by assumption)) ?_))))
theorem passN {X : Cx} {P : Program} {w : World} : Passes (L2.CX P w) X (fun _ _ _ => False) := fun _ _ _ _ _ _ _ h => by
  obtain ⟨_, _, _, _, _, _, _, _, _, _, _, _, h⟩ := h
  exact h.elim
/-! ### a strategy's own text, read -/
theorem stg_text (n : Str) (m : Tab) : n ++ " = " ++ textT m = Txt.join " " (n :: "=" :: wordsZ m) := by
  have hz : ∃ y r, wordsZ m = y :: r := by
    unfold wordsZ
    by_cases h : wordsT m ≠ []
    · rw [if_pos h]
      cases e : wordsT m with
      | nil => exact absurd e h
      | cons y r => exact ⟨y, r, rfl⟩
    · rw [if_neg h]
      exact ⟨_, _, rfl⟩
  rw [← join_Z, TL.join_eq, TL.join_eq]
  obtain ⟨y, r, e⟩ := hz
  rw [e]
  show n ++ " = " ++ Str.join " " (y :: r) = n ++ " " ++ ("=" ++ " " ++ Str.join " " (y :: r))
  generalize Str.join " " (y :: r) = z
  obtain ⟨n⟩ := n
  obtain ⟨z⟩ := z
  have e1 : (" = " : Str) = ⟨#[32, 61, 32]⟩ := by decide +kernel
  have e2 : (" " : Str) = ⟨#[32]⟩ := by decide +kernel
  have e3 : ("=" : Str) = ⟨#[61]⟩ := by decide +kernel
  rw [e1, e2, e3]
  show (⟨n ++ #[32, 61, 32] ++ z⟩ : Str) = ⟨n ++ #[32] ++ (#[61] ++ #[32] ++ z)⟩
  congr 1
  apply Array.toList_inj.mp
  simp
theorem stg_split {n : Str} {m : Tab} (hn : nameS n = true) (gw : GoodW m) : Txt.split (n ++ " = " ++ textT m) " " = n :: "=" :: wordsZ m := by
  rw [stg_text]
  refine TL.split_join (y := " ") (s := 32) (S := []) (by decide +kernel) (by decide +kernel) (by simp) fun x hx => ?_
  have hnm : ∀ {x : Str}, nameS x = true → (32 : Nat) ∉ x.cps.toList := fun {x} z hm => by
    unfold nameS at z
    obtain ⟨_, z2⟩ := Bool.and_eq_true_iff.mp z
    have := let_iff.mp (of_decide_eq_true (List.all_eq_true.mp z2 _ hm))
    omega
  rcases List.mem_cons.mp hx with rfl | hx
  · exact hnm hn
  · rcases List.mem_cons.mp hx with rfl | hx
    · show (32 : Nat) ∉ ("=" : Str).cps.toList
      decide +kernel
    · unfold wordsZ at hx
      split at hx
      · exact (words_free true m gw.g x hx).1
      · rw [List.mem_singleton.mp hx]
        show (32 : Nat) ∉ ("0" : Str).cps.toList
        decide +kernel
theorem stg_back {n : Str} {m : Tab} (hn : nameS n = true) (gw : GoodW m) (nd : (ks m).Nodup) : stgIn (n :: "=" :: wordsZ m) 0 = .ok (n, m) := by
  have e : termsIn (n :: "=" :: wordsZ m) (0 + 2) = .ok m := terms_sh (pre := [n, "="]) (terms_words gw.g nd)
  unfold stgIn
  have e1 : wordAt (n :: "=" :: wordsZ m) 0 = .ok n := rfl
  have e2 : wordAt (n :: "=" :: wordsZ m) (0 + 1) = .ok ("=" : Str) := rfl
  rw [e1]
  dsimp only
  rw [if_pos hn, e2]
  dsimp only
  rw [if_pos rfl, e]
/-! ### the words of a joined text -/
theorem split_ok {ws : List Str} (h : ∀ x ∈ ws, OkW x) (hl : ws.length ≤ 60) : (Txt.join " " ws).length ≤ 100000 ∧ WdL (Txt.split (Txt.join " " ws) " ") ∧ 1 ≤ (Txt.split (Txt.join " " ws) " ").length ∧ (Txt.split (Txt.join " " ws) " ").length < 64 := by
  have len : (Txt.join " " ws).length ≤ 100000 := by
    rw [TL.join_eq]
    have z := StrLaws.join_length_le " " ws
    have z2 := sum_le (B := 100) (ws.map (·.length)) fun x hx => by
      obtain ⟨y, hy, rfl⟩ := List.mem_map.mp hx
      exact (h y hy).len
    rw [List.length_map] at z2
    have e1 : (Str.ofString " ").length = 1 := rfl
    rw [e1] at z
    omega
  refine ⟨len, ?_⟩
  by_cases hne : ws = []
  · subst hne
    have e : Txt.split (Txt.join " " []) " " = [Str.empty] := by decide +kernel
    rw [e]
    refine ⟨⟨by decide, fun w hw => ?_, fun w hw => ?_⟩, by decide, by decide⟩ <;> (rw [List.mem_singleton.mp hw]; decide +kernel)
  · have e := TL.split_join (y := " ") (s := 32) (S := []) (by decide +kernel) (by decide +kernel) hne fun x hx => (h x hx).fr
    rw [e]
    refine ⟨⟨by omega, fun w hw => ?_, fun w hw => (h w hw).ok⟩, ?_, by omega⟩
    · have := (h w hw).len
      omega
    · cases ws with
      | nil => exact absurd rfl hne
      | cons _ _ => simp
theorem bnd_join {ws : List Str} (h : ∀ x ∈ ws, OkW x) (hl : ws.length ≤ 60) : (ws.map (·.length)).sum + ws.length * (Str.ofString " ").length ≤ 16777216 := by
  have e1 : (Str.ofString " ").length = 1 := rfl
  rw [e1]
  have z2 := sum_le (B := 100) (ws.map (·.length)) fun x hx => by
    obtain ⟨y, hy, rfl⟩ := List.mem_map.mp hx
    exact (h y hy).len
  rw [List.length_map] at z2
  omega
theorem goodT_of {t : Tab} (nd : (ks t).Nodup) (hl : t.length < 64) (h : ∀ p ∈ t, GoodP p) : GoodT t := ⟨nd, fun k hk => by
  obtain ⟨p, hp, rfl⟩ := List.mem_map.mp hk
  exact (h p hp).name, fun p hp => (h p hp).wh, hl⟩
def twoD (e : Nat) : PyData := .list [.tuple [.str "text", .int 0, .int (e : Int)], .tuple [.str "text", .int 0, .int (e : Int)]]
theorem two_ok : ∀ e, e < 65 → ((twoD e).showable && (decide ((twoD e).depth ≤ 20) && decide ((twoD e).shown.length ≤ 1000))) = true := by decide +kernel
theorem wordAt_le {ws : List Str} {a e : Nat} (h : wordAt ws a = .error e) : e = ws.length := by
  unfold wordAt at h
  cases z : ws[a]? with
  | some y => rw [z] at h; cases h
  | none => rw [z] at h; cases h; rfl
theorem wordAt_lt {ws : List Str} {a : Nat} {x : Str} (h : wordAt ws a = .ok x) : a < ws.length := (atI_word h).2.1
theorem signAt_el {ws : List Str} {a e : Nat} {f : Bool} (h : signAt ws a f = .error e) : e ≤ ws.length := by
  unfold signAt at h
  cases hw : wordAt ws a with
  | error e' => rw [hw] at h; cases h; exact Nat.le_of_eq (wordAt_le hw)
  | ok x =>
    rw [hw] at h
    dsimp only at h
    have := wordAt_lt hw
    split at h
    · cases h
    · split at h
      · cases h
      · split at h
        · cases h
        · cases h; omega
theorem sizeAt_el {ws : List Str} {a e : Nat} (h : sizeAt ws a = .error e) : e ≤ ws.length := by
  unfold sizeAt at h
  cases hw : wordAt ws a with
  | error e' => rw [hw] at h; cases h; exact Nat.le_of_eq (wordAt_le hw)
  | ok x =>
    rw [hw] at h
    dsimp only at h
    have := wordAt_lt hw
    cases hn : numIn x with
    | none => rw [hn] at h; cases h
    | some m =>
      rw [hn] at h
      dsimp only at h
      split at h
      · cases h; omega
      · cases h
theorem termsFrom_el : ∀ {ws : List Str} (f a : Nat) (acc : Tab) {e : Nat}, termsFrom ws f a acc = .error e → e ≤ ws.length
  | ws, 0, _, _, e, h => by cases h; exact Nat.zero_le _
  | ws, f + 1, a, acc, e, h => by
    unfold termsFrom at h
    split at h
    · cases hta : termAt ws a acc with
      | error e' =>
        rw [hta] at h
        cases h
        rcases termAt_err hta with ⟨e2, z, y⟩ | ⟨s', b1, z, ⟨e2, z2, y⟩ | ⟨n', b2, z2, ⟨e2, z3, y⟩ | ⟨m', z3, ⟨_, _, y⟩ | ⟨_, y⟩⟩⟩⟩
        · cases y; exact signAt_el z
        · cases y; exact sizeAt_el z2
        · cases y; exact Nat.le_of_eq (wordAt_le z3)
        · cases y
        · cases y; exact Nat.le_of_lt (wordAt_lt z3)
      | ok q =>
        obtain ⟨acc', at'⟩ := q
        rw [hta] at h
        exact termsFrom_el f at' acc' h
    · cases h
theorem termsIn_el {ws : List Str} {a e : Nat} (h : termsIn ws a = .error e) : e ≤ ws.length := by
  unfold termsIn at h
  split at h
  · split at h
    · cases h; omega
    · cases h
  · exact termsFrom_el _ _ _ h
theorem stgIn_el {ws : List Str} {a e : Nat} (h : stgIn ws a = .error e) : e ≤ ws.length := by
  unfold stgIn at h
  cases h1 : wordAt ws a with
  | error e' => rw [h1] at h; cases h; exact Nat.le_of_eq (wordAt_le h1)
  | ok x =>
    rw [h1] at h
    dsimp only at h
    have := wordAt_lt h1
    split at h
    · cases h3 : wordAt ws (a + 1) with
      | error e' => rw [h3] at h; cases h; exact Nat.le_of_eq (wordAt_le h3)
      | ok y =>
        rw [h3] at h
        dsimp only at h
        split at h
        · cases h5 : termsIn ws (a + 2) with
          | error e' => rw [h5] at h; cases h; exact termsIn_el h5
          | ok t' => rw [h5] at h; cases h
        · cases h; omega
    · cases h; omega
/-! ### tables of code objects -/
section
variable {P : Program} {w : World} {K : PySem.W.Frag} {mg : Str → Option Value} {base : Heap}
def qOf (x : Str) : Str := (x ++ ".<locals>.") ++ "<lambda>"
def tabsT (K : PySem.W.Frag) : List (Addr × Str) := tf.map fun p => ((He.cT K p).2, qOf p.1)
theorem tabs_mem {p : He.Defn} (h : p ∈ tf) : ((He.cT K p).2, qOf p.1) ∈ tabsT K := List.mem_map.mpr ⟨p, h, rfl⟩
theorem tabs_one (T : Txt P K mg) {p : He.Defn} (h : p ∈ tf) : ∀ e ∈ tabsT K, e.1 = (He.cT K p).2 → e.2 = qOf p.1 := fun e he z => by
  obtain ⟨p', hp', rfl⟩ := List.mem_map.mp he
  have nd : (tf.map fun p => (He.cT K p).2).Nodup := T.tnd
  have key : ∀ (l : List He.Defn), (l.map fun p => (He.cT K p).2).Nodup → ∀ a ∈ l, ∀ b ∈ l, (He.cT K a).2 = (He.cT K b).2 → a = b := by
    intro l
    induction l with
    | nil => intro _ a ha; exact (List.not_mem_nil ha).elim
    | cons c r ih =>
      intro nd a ha b hb e
      rw [List.map_cons, List.nodup_cons] at nd
      rcases List.mem_cons.mp ha with rfl | ha'
      · rcases List.mem_cons.mp hb with rfl | hb'
        · rfl
        · exact absurd (List.mem_map.mpr ⟨b, hb', e.symm⟩) nd.1
      · rcases List.mem_cons.mp hb with rfl | hb'
        · exact absurd (List.mem_map.mpr ⟨a, ha', e⟩) nd.1
        · exact ih nd.2 a ha' b hb' e
  rw [key tf nd p' hp' p h z]
/-! ### strategies compared within lists -/
def RSt (K : PySem.W.Frag) (a b : Addr) (H : Hp) : Prop := ∃ n m, StgAt K H (aT K) a n m ∧ StgAt K H (aT K) b n m
theorem mon_stg : Mon (DIns (aS K) (RSt K)) := mon_ins fun a b H H' e ⟨n, m, l1, l2⟩ => ⟨n, m, l1.same e, l2.same e⟩
theorem eqG_stg {X : Cx} (T : Txt X.prog X.K X.mg) : EqG X 3 (DIns (aS X.K) (RSt X.K)) := by
  obtain ⟨fd, F, b, _⟩ := (ok_Strategy___eq__ (P := X.prog) (w := X.w) (base := X.base) T).imp (sp' := spEq (RSt X.K)) fun vs H Q E ⟨a, b, e, ⟨n, m, l1, l2⟩, k⟩ => by
    refine ⟨a, _, n, m, e, l1, .inl ⟨b, n, m, rfl, l2, ?_⟩⟩
    rw [decide_eq_true rfl, decide_eq_true rfl]
    exact k H Ext.rfl'
  have sm := T.stg.oc.sm "__eq__" (by decide)
  exact eqG_ins (E := fun _ _ _ => False) F sm.sm.at_ sm.sm.fn b pass0
theorem StgAt.extN {H H' : Hp} {C a : Addr} {n : Str} {m : Tab} (g : StgAt K H C a n m) (e : ExtN H H') : StgAt K H' C a n m := by
  obtain ⟨dx, l, h1, ⟨dx2, d, h2, h3⟩, c, ll⟩ := g.at_
  exact ⟨dx, l, e _ _ h1 (fun _ z => by cases z), ⟨⟨dx2, d, e _ _ h2 (fun _ z => by cases z), e _ _ h3 (fun _ z => by cases z)⟩, c, ll⟩⟩
/-! ### what a reading tells, what is due -/
def Told (K : PySem.W.Frag) (ws : List Str) (H : Hp) (z : Addr) : Prop := (∃ e, stgIn ws 0 = .error e ∧ H z = some (.tup [.str "text", .int 0, .int ((e : Nat) : Int)])) ∨
  (∃ n t, stgIn ws 0 = .ok (n, t) ∧ stgOk t = false ∧ H z = some (.tup [.str "strategy", .str "legs"])) ∨ ∃ n t m, stgIn ws 0 = .ok (n, t) ∧ stgOk t = true ∧ Canon m ∧ (∀ k, val m k = val t k) ∧ StgAt K H (aT K) z n m
theorem Told.map {ws : List Str} {H H' : Hp} {z : Addr} (h : Told K ws H z) (s : ∀ a o, H a = some o → ((∃ xs, o = .tup xs) ∨ (∃ C dx fs, o = .ins C dx fs) ∨ ∃ kvs, o = .dK kvs) → H' a = some o) : Told K ws H' z := by
  rcases h with ⟨e, h, k⟩ | ⟨n, t, h, o, k⟩ | ⟨n, t, m, h, o, c, v, dx, l, k1, ⟨dx2, d, k2, k3⟩, cc, ll⟩
  · exact .inl ⟨e, h, s _ _ k (.inl ⟨_, rfl⟩)⟩
  · exact .inr (.inl ⟨n, t, h, o, s _ _ k (.inl ⟨_, rfl⟩)⟩)
  · exact .inr (.inr ⟨n, t, m, h, o, c, v, dx, l, s _ _ k1 (.inr (.inl ⟨_, _, _, rfl⟩)), ⟨⟨dx2, d, s _ _ k2 (.inr (.inl ⟨_, _, _, rfl⟩)), s _ _ k3 (.inr (.inr ⟨_, rfl⟩))⟩, cc, ll⟩⟩)
theorem Told.same {ws : List Str} {H H' : Hp} {z : Addr} (h : Told K ws H z) (s : Same H H') : Told K ws H' z := h.map fun a o k _ => s a o k
theorem Told.extN {ws : List Str} {H H' : Hp} {z : Addr} (h : Told K ws H z) (s : ExtN H H') : Told K ws H' z := h.map fun a o k z => s a o k fun _ e => by
  rcases z with ⟨_, z⟩ | ⟨_, _, _, z⟩ | ⟨_, z⟩ <;> (rw [z] at e; cases e)
theorem Told.put {ws : List Str} {H : Hp} {z l : Addr} {xs : List V} {o' : HO} (h : Told K ws H z) (hl : H l = some (.lst xs)) : Told K ws (upd H l o') z := h.map fun a o k z => (upd_ne fun e => by
  rw [e, hl] at k
  rcases z with ⟨_, z⟩ | ⟨_, _, _, z⟩ | ⟨_, z⟩ <;> (rw [z] at k; cases k)).trans k
def DueV (ws : List Str) (H : Hp) (v : V) : Prop := (∃ e, stgIn ws 0 = .error e ∧ v = .int ((e : Nat) : Int)) ∨ (∃ n t, stgIn ws 0 = .ok (n, t) ∧ stgOk t = false ∧ v = .str "legs") ∨
  ∃ n t d p, stgIn ws 0 = .ok (n, t) ∧ stgOk t = true ∧ v = .ref p ∧ H d = some (.dK (tabK t)) ∧ H p = some (.tup [.str n, .ref d])
theorem DueV.map {ws : List Str} {H H' : Hp} {v : V} (h : DueV ws H v) (s : ∀ a o, H a = some o → ((∃ xs, o = .tup xs) ∨ (∃ C dx fs, o = .ins C dx fs) ∨ ∃ kvs, o = .dK kvs) → H' a = some o) : DueV ws H' v := by
  rcases h with h | h | ⟨n, t, d, p, h, o, e, k1, k2⟩
  · exact .inl h
  · exact .inr (.inl h)
  · exact .inr (.inr ⟨n, t, d, p, h, o, e, s _ _ k1 (.inr (.inr ⟨_, rfl⟩)), s _ _ k2 (.inl ⟨_, rfl⟩)⟩)
theorem DueV.same {ws : List Str} {H H' : Hp} {v : V} (h : DueV ws H v) (s : Same H H') : DueV ws H' v := h.map fun a o k _ => s a o k
theorem DueV.extN {ws : List Str} {H H' : Hp} {v : V} (h : DueV ws H v) (s : ExtN H H') : DueV ws H' v := h.map fun a o k z => s a o k fun _ e => by
  rcases z with ⟨_, z⟩ | ⟨_, _, _, z⟩ | ⟨_, z⟩ <;> (rw [z] at e; cases e)
theorem DueV.put {ws : List Str} {H : Hp} {v : V} {l : Addr} {xs : List V} {o' : HO} (h : DueV ws H v) (hl : H l = some (.lst xs)) : DueV ws (upd H l o') v := h.map fun a o k z => (upd_ne fun e => by
  rw [e, hl] at k
  rcases z with ⟨_, z⟩ | ⟨_, _, _, z⟩ | ⟨_, z⟩ <;> (rw [z] at k; cases k)).trans k
theorem heard_read {H : Hp} {x : Str} {Q : VK} (xl : x.length ≤ 100000) (xw : WdL (Txt.split x " ")) (x2 : (Txt.split x " ").length < 64) (cont : ∀ z H5, Same H H5 → Told K (Txt.split x " ") H5 z → Q (.ref z) H5) :
    spSRead K [.ref (aS K), .str x] H Q (ToldE K Q) :=
  ⟨_, rfl, .inl ⟨x, rfl, xl, xw, x2, fun n t h ok y m H' cm hv s g => cont y H' s (.inr (.inr ⟨n, t, m, h, ok, cm, hv, g⟩)), fun n t h ok dd H' s nd hd => .inr ⟨rfl, dd, _, rfl, hd, fun p H2 s2 h2 => cont p H2 (s.trans s2) (.inr (.inl ⟨n, t, h, ok, h2⟩))⟩,
    fun e h dd H' s nd hd => .inl ⟨rfl, dd, _, _, rfl, hd, fun p H2 s2 h2 => cont p H2 (s.trans s2) (.inl ⟨e, h, h2⟩)⟩⟩⟩
theorem tts_use (R : Addr → Hp → Prop) {tl : XK → Hp → VK → Prop} {H : Hp} {Q : VK} (h : ∀ Q' : VK, (∀ z H5, R z H5 → Q' (.ref z) H5) → TTs K tl H Q') (c : ∀ z H5, R z H5 → Q (.ref z) H5) : TTs K tl H Q := h Q c
end
end Kx
set_option maxHeartbeats 8000000
namespace Kx
open PySem PySem.Spec PyProof.Rows L2 Xr LamX
local macro_rules | `(tactic| walk_at "rd") => `(tactic| (repeat (first | apply Exists.intro | (refine And.intro rfl ?_) | (refine And.intro (SqL.of (by assumption)) ?_) | (refine And.intro (Or.inl (SqL.of (by assumption))) ?_) | (refine Or.inl ⟨_, rfl, ?_⟩) | (refine Or.inr ⟨_, rfl, ?_⟩) | (refine And.intro (by assumption) ?_) | (refine And.intro (Or.inl (by assumption)) ?_))))
section
variable {P : Program} {w : World} {K : PySem.W.Frag} {mg : Str → Option Value} {base : Heap}
theorem kit_si : PySem.W.kitOne K (.type "str") (.type "int") = some false := kit_ty (by decide +kernel)
theorem kit_ti : PySem.W.kitOne K (.type "tuple") (.type "int") = some false := kit_ty (by decide +kernel)
theorem tx_small {m : Tab} (gw : GoodW m) (hl : m.length ≤ 100) : (textT m).length ≤ 90000 := by
  unfold textT
  by_cases h : wordsT m ≠ []
  · rw [if_pos h, TL.join_eq]
    have z := StrLaws.join_length_le " " (wordsT m)
    have z2 := sum_le (B := 60) ((wordsT m).map (·.length)) fun x hx => by
      obtain ⟨y, hy, rfl⟩ := List.mem_map.mp hx
      exact (words_free true m gw.g y hy).2
    rw [List.length_map] at z2
    have z3 : (wordsT m).length ≤ 3 * m.length := wordsB_le true m
    have e1 : (Str.ofString " ").length = 1 := rfl
    rw [e1] at z
    omega
  · rw [if_neg h]
    decide
def legsD : PyData := .list [.tuple [.str "strategy", .str "legs"], .tuple [.str "strategy", .str "legs"]]
theorem legsD_ok : SeqAt.shaped legsD = true ∧ PyData.eqv legsD legsD = true := by decide +kernel
theorem sc__law_right : FnScope ["_law_words_here", "_law_writ", "_law_due_here", "_law_told", "_law_made"] ["_law_words_here"] (defScope (top 43)) := ⟨rfl, rfl, rfl, by decide +kernel, rfl, by decide +kernel, by decide +kernel⟩
def spRight (K : PySem.W.Frag) : Sp := fun vs H Q _ => ∃ (l : Addr) (ws : List Str), vs = [.ref l] ∧ H l = some (.lst (ws.map V.str)) ∧ ws.length ≤ 60 ∧ (∀ x ∈ ws, OkW x) ∧ Tabs (tabsT K) H ∧ ∀ H', ExtN H H' → Tabs (tabsT K) H' → Q (.bl true) H'
theorem ok__law_right (T : Txt P K mg) (TB : ∀ p ∈ tf, TabB base mg (He.cT K p).1 (He.cT K p).2) : ∃ fd, FnG P w K mg base CX0 11 (He.ga K "_law_right") fd ["_law_words_here"] (spRight K) ∧ Binds K fd ["_law_words_here"] [] ∧ PySem.W.keepIn K (.ref (He.ga K "_law_right")) = true := by
  have G__law_due := ok__law_due (P := P) (w := w) (base := base) T
  have G_Sread := (ok_Strategy_read (P := P) (w := w) (base := base) T).fnR
  have G_SreadK := okK_Strategy_read (P := P) (w := w) (base := base) T
  have G_Strategy := ok_Strategy_init (P := P) (w := w) (base := base) T
  have G_of := (ok_Legs_of (P := P) (w := w) (base := base) T).fnR
  have smS_eq := T.stg.oc.sm "__eq__" (by decide)
  have GS_eq := (ok_Strategy___eq__ (P := P) (w := w) (base := base) T).fnR
  have smS_str := T.stg.oc.sm "__str__" (by decide)
  have GS_str := (ok_Strategy___str__ (P := P) (w := w) (base := base) T).fnR
  obtain ⟨fdH, FH⟩ := T.F__law_heard
  have bH := FH.bindsN (ps := ["_law_ask"]) fun _ _ _ _ _ _ us hl => match us, hl with | [_], _ => rfl
  obtain ⟨fd, F⟩ := T.F__law_right
  refine ⟨fd, okGC (p := ("_law_right", none)) F sc__law_right (fun vs H Q E h => ?_) (fun A outer s H vs Q E hr hgd h => ?_), F.bindsN fun _ _ _ _ _ _ us hl => match us, hl with | [_], _ => rfl, F.kp⟩
  · obtain ⟨l, ws, rfl, _⟩ := h
    rfl
  · obtain ⟨l, ws, rfl, hl, hlen, hok, tb, k⟩ := h
    have hu64 := hr.units
    have so := T.stg.oc
    refine ⟨_, PSs.nox (pss_cons (ps_asg (pe_join pe_str (pv 0)) (pg_name (i := 1) sc__law_right.nd rfl (.inr rfl)))
    (pss_cons (ps_asg (pe_cut (pe_f G__law_due (hr.mono (by decide)) (by rfl) T.g__law_due pass0 (pa_cons (pe_split (pv 1) pe_str) pa_nil))) (pg_name (i := 2) sc__law_right.nd rfl (.inl rfl)))
    (pss_cons (ps_asg (pe_lst (pa_cons (pe_lamF (T := tabsT K) (TT := TTs K) FH bH (by rfl) T.g__law_heard sc__law_heard rfl (.inl rfl) (fun cdv => heard_gives T rfl rfl rfl cdv) (TB ("_law_right", none) (by decide)) rfl (tabs_mem (p := ("_law_right", none)) (by decide)) (tabs_one T (p := ("_law_right", none)) (by decide)) (k := 8) (hr.mono (by decide)) (lamS_by (sc := defScope (top 43)) (by decide +kernel)) (fun A outer s H E f c' hr' => (pe_cmF (pe_glob (v := .ref (He.ga K "Strategy")) (by rfl) T.g_Strategy rfl) (T.stg.oc.cm "read" (by decide)) G_Sread (hr'.mono (by decide)) (passes_call (takes_of rfl rfl rfl rfl) (fun _ _ _ _ h => h)) (pa_cons (pv 1) pa_nil)))) pa_nil)) (pg_name (i := 3) sc__law_right.nd rfl (.inl rfl)))
    (pss_cons (ps_expr (pe_bm PySem.F.plainAttrs_list PySem.F.slot_list_append PySem.F.type_list_append mt_append (pv 3) (pa_cons (pe_lamF (T := tabsT K) (TT := TTs K) FH bH (by rfl) T.g__law_heard sc__law_heard rfl (.inl rfl) (fun cdv => heard_gives T rfl rfl rfl cdv) (TB ("_law_right", none) (by decide)) rfl (tabs_mem (p := ("_law_right", none)) (by decide)) (tabs_one T (p := ("_law_right", none)) (by decide)) (k := 8) (hr.mono (by decide)) (lamS_by (sc := defScope (top 43)) (by decide +kernel)) (fun A outer s H E f c' hr' => (pe_cmK (pe_glob (v := .ref (He.ga K "Strategy")) (by rfl) T.g_Strategy rfl) (T.stg.oc.cm "read" (by decide)) G_SreadK (hr'.mono (by decide)) (passes_call (takes_of rfl rfl rfl rfl) (fun _ _ _ _ h => h)) (pk_cons (pv 1) pk_nil)))) pa_nil)))
    (pss_cons (ps_if (pt_val (pe_callB (call_isiK K) (by rfl) T.z_isinstance (by decide +kernel) (pa_cons (pv 2) (pa_cons (pe_bltn (v := .ty "int") (by rfl) T.z_int (by decide +kernel) rfl) pa_nil))))
      (pss_one (ps_ret (pe_cmpR op_eq (pe_callB (call_repr T.all.sys hgd hu64) (by rfl) T.z_repr (by decide +kernel) (pa_cons (pv 3) pa_nil)) (pe_callB (call_repr T.all.sys hgd hu64) (by rfl) T.z_repr (by decide +kernel) (pa_cons (pe_op op_rep (pe_lst (pa_cons (pe_tup (pa_cons pe_str (pa_cons pe_int (pa_cons (pv 2) pa_nil)))) pa_nil)) pe_int) pa_nil)) (nomark _))))
      pss_nil)
    (pss_cons (ps_if (pt_cmpR (op_eqT hr.units0) (pv 2) pe_str (nomark _))
      (pss_one (ps_ret (pe_cmpR (op_eqD hu64) (pv 3) (pe_op op_rep (pe_lst (pa_cons (pe_tup (pa_cons pe_str (pa_cons pe_str pa_nil))) pa_nil)) pe_int) (nomark _))))
      pss_nil)
    (pss_cons (ps_asg (pe_mkI T.stg.oc.mks G_Strategy (hr.mono (by decide)) (by rfl) T.g_Strategy passN (pa_cons (pe_ix (ix_tupK K) (pv 2) pe_int (fun _ _ => rfl)) (pa_cons (pe_cmF (pe_glob (v := .ref (He.ga K "Legs")) (by rfl) T.g_Legs rfl) T.leg.of_ G_of (hr.mono (by decide)) pass0 (pa_cons (pe_ix (ix_tupK K) (pv 2) pe_int (fun _ _ => rfl)) pa_nil)) pa_nil))) (pg_name (i := 4) sc__law_right.nd rfl (.inl rfl)))
    (pss_one (ps_ret (pe_and (pe_cmpR (op_eqG (rcG_list mon_stg (eqG_stg T)) (hr.mono (by decide))) (pv 3) (pe_lst (pa_cons (pv 4) (pa_cons (pv 4) pa_nil))) (nomark _)) (pe_and (pe_cmpR (op_eqO smS_eq.sm GS_eq (hr.mono (by decide)) pass0) (pe_cmF (pe_glob (v := .ref (He.ga K "Strategy")) (by rfl) T.g_Strategy rfl) (T.stg.oc.cm "read" (by decide)) G_Sread (hr.mono (by decide)) passN (pa_cons (pe_callTy (call_strO smS_str.sm GS_str (hr.mono (by decide)) pass0) (by rfl) T.z_str (by decide +kernel) (pa_cons (pv 4) pa_nil)) pa_nil)) (pv 4) (nomark _)) (pe_one (pe_cmpR op_eq (pe_callTy (call_strO smS_str.sm GS_str (hr.mono (by decide)) pass0) (by rfl) T.z_str (by decide +kernel) (pa_cons (pe_ix (ix_listK K) (pv 3) pe_int (fun _ _ => rfl)) pa_nil)) (pe_callTy (call_strO smS_str.sm GS_str (hr.mono (by decide)) pass0) (by rfl) T.z_str (by decide +kernel) (pa_cons (pv 4) pa_nil)) (nomark _)))))))))))))), ?_⟩
    obtain ⟨xl, xw, x1, x2⟩ := split_ok hok hlen
    refine ⟨⟨_, rfl⟩, _, rfl, _, l, ws, rfl, rfl, .inl (SqL.of hl), bnd_join hok hlen, ?_⟩
    generalize Txt.join " " ws = x at xl xw x1 x2
    refine .mk (fun v H' => Same H H' ∧ DueV (Txt.split x " ") H' v) ?_ ?_
    · refine ⟨_, rfl, ⟨_, rfl⟩, x, " ", rfl, rfl, rfl, by rw [sizeLine_eq]; omega, fun p np => ?_⟩
      have s1 : Same H (upd H p (.lst ((Txt.split x " ").map V.str))) := same_new np
      have h1 : upd H p (.lst ((Txt.split x " ").map V.str)) p = _ := upd_same
      generalize upd H p (.lst ((Txt.split x " ").map V.str)) = H1 at s1 h1
      exact ⟨p, _, rfl, ⟨h1, xw.len, xw.each, xw.ok⟩, x1, x2, fun e he H' s' => ⟨s1.trans s', .inl ⟨e, he, rfl⟩⟩, fun n t ht ok H' s' => ⟨s1.trans s', .inr (.inl ⟨n, t, ht, ok, rfl⟩)⟩, fun n t ht ok d p H' s' hd hp => ⟨s1.trans s', .inr (.inr ⟨n, t, d, p, ht, ok, rfl, hd, hp⟩)⟩⟩
    rintro v H2 ⟨s2, hv2⟩
    refine ⟨tb.ext s2, fun H3 e3 tb3 => ?_⟩
    refine tts_use (fun z H5 => Same H3 H5 ∧ Told K (Txt.split x " ") H5 z) (fun Q' cont => ?_) fun z1 H4 ⟨s34, hz1⟩ => ?_
    · exact ⟨rfl, _, rfl, heard_read xl xw x2 fun z H5 s5 hz => cont z H5 ⟨s5, hz⟩⟩
    have e4 : ExtN H H4 := ExtN.same (Same.extN s2 e3) s34
    have tb4 := tb3.ext s34
    have hv4 := (hv2.extN e3).same s34
    refine ⟨show 1 ≤ sizeLine by decide, fun fl nfl => ?_⟩
    have s5 := same_new (o := .lst [.ref z1]) nfl
    have h5 : upd H4 fl (.lst [.ref z1]) fl = some (.lst [.ref z1]) := upd_same
    have nf4 := nfl
    generalize upd H4 fl (.lst [.ref z1]) = H5 at s5 h5
    have tb5 := tb4.ext s5
    have hv5 := hv4.same s5
    have hz15 := hz1.same s5
    refine ⟨_, rfl, .inl ⟨rfl, _, SqL.of h5⟩, tb5, fun H6 e6 tb6 => ?_⟩
    have hv6 := hv5.extN e6
    have h6 := e6 _ _ h5 (fun _ z => by cases z)
    have hz16 := hz15.extN e6
    refine tts_use (fun z H7 => Same H6 H7 ∧ Told K (Txt.split x " ") H7 z) (fun Q' cont => ?_) fun z2 H7 ⟨s67, hz2⟩ => ?_
    · exact ⟨rfl, _, rfl, rfl, heard_read xl xw x2 fun z H5 s5 hz => cont z H5 ⟨s5, hz⟩⟩
    have hv7 := hv6.same s67
    have h7 := s67 _ _ h6
    have hz17 := hz16.same s67
    have e7 : ExtN H4 H7 := ExtN.same (Same.extN s5 e6) s67
    refine ⟨fl, _, _, rfl, rfl, h7, show 1 < sizeLine by decide, ?_⟩
    have h8 : upd H7 fl (.lst ([.ref z1] ++ [.ref z2])) fl = some (.lst [.ref z1, .ref z2]) := upd_same
    have e8 : ExtN H (upd H7 fl (.lst ([.ref z1] ++ [.ref z2]))) := extN_put e4 nf4 (fun c o hc n => e7 _ _ (e4 _ _ hc n) n)
    have tb8 : Tabs (tabsT K) (upd H7 fl (.lst ([.ref z1] ++ [.ref z2]))) := tabs_put (tb6.ext s67) h7
    have hz18 := hz17.put (o' := .lst ([.ref z1] ++ [.ref z2])) h7
    have hz28 := hz2.put (o' := .lst ([.ref z1] ++ [.ref z2])) h7
    have hv8 := hv7.put (o' := .lst ([.ref z1] ++ [.ref z2])) h7
    generalize upd H7 fl (.lst ([.ref z1] ++ [.ref z2])) = H8 at h8 e8 tb8 hz18 hz28 hv8
    clear e7 hz17 h7 hv7 hz2 s67 hz16 h6 hv6 tb6 e6 hz15 hv5 tb5 h5 nf4 s5 nfl hv4 tb4 e4 hz1 s34 tb3 e3 hv2 s2
    rcases hv8 with ⟨e, he, rfl⟩ | ⟨n, t, ht, ok, rfl⟩ | ⟨n, t, d, p, ht, ok, rfl, hd, hp⟩
    · have g1 : H8 z1 = some (.tup [.str "text", .int 0, .int (e : Int)]) := by
        rcases hz18 with ⟨e', h', k'⟩ | ⟨n', t', h', _⟩ | ⟨n', t', m', h', _⟩
        · rw [he] at h'; cases h'; exact k'
        · rw [he] at h'; cases h'
        · rw [he] at h'; cases h'
      have g2 : H8 z2 = some (.tup [.str "text", .int 0, .int (e : Int)]) := by
        rcases hz28 with ⟨e', h', k'⟩ | ⟨n', t', h', _⟩ | ⟨n', t', m', h', _⟩
        · rw [he] at h'; cases h'; exact k'
        · rw [he] at h'; cases h'
        · rw [he] at h'; cases h'
      have hel := stgIn_el he
      obtain ⟨sh, w2⟩ := Bool.and_eq_true_iff.mp (two_ok e (by omega))
      obtain ⟨dp, ln⟩ := Bool.and_eq_true_iff.mp w2
      have dp := of_decide_eq_true dp
      have ln : (twoD e).shown.length ≤ sizeLine := by
        have z := of_decide_eq_true ln
        rw [sizeLine_eq]
        omega
      refine ⟨_, rfl, _, _, _, _, _, rfl, .ty "int", .base (.int _), kit_ii, _, rfl, iteT ?_⟩
      have tD : ∀ {H : Hp} {p : Addr}, H p = some (.tup [.str "text", .int 0, .int (e : Int)]) → Dq K H (.ref p) (.tuple [.str "text", .int 0, .int (e : Int)]) := fun h => .tup (SqT.of h) (.cons (.str _) (.cons (.int _) (.cons (.int _) .nil)))
      refine ⟨_, rfl, fl, twoD e, rfl, .lst (SqL.of h8) (.cons (tD g1) (.cons (tD g2) .nil)), sh, dp, ln, ?_⟩
      refine ⟨_, rfl, show 3 ≤ sizeLine by decide, fun t1 nt1 => ⟨show 1 ≤ sizeLine by decide, fun l2 nl2 => ?_⟩⟩
      have z1' := same_new (o := .tup [.str "text", .int 0, .int (e : Int)]) nt1
      have y1 : upd H8 t1 (.tup [.str "text", .int 0, .int (e : Int)]) t1 = _ := upd_same
      generalize upd H8 t1 (.tup [.str "text", .int 0, .int (e : Int)]) = G1 at z1' y1 nl2 ⊢
      have z2' := same_new (o := .lst [.ref t1]) nl2
      have y2 : upd G1 l2 (.lst [.ref t1]) l2 = some (.lst [.ref t1]) := upd_same
      have y12 := z2' _ _ y1
      generalize upd G1 l2 (.lst [.ref t1]) = G2 at z2' y2 y12 ⊢
      refine ⟨l2, 2, _, rfl, rfl, y2, by decide, by decide, show 1 * 2 ≤ sizeLine by decide, fun l3 nl3 => ?_⟩
      have z3' := same_new (o := .lst [.ref t1, .ref t1]) nl3
      have y3 : upd G2 l3 (.lst [.ref t1, .ref t1]) l3 = some (.lst [.ref t1, .ref t1]) := upd_same
      have erp : ((List.replicate (Int.toNat 2) [V.ref t1]).flatten) = [V.ref t1, V.ref t1] := rfl
      rw [erp]
      generalize upd G2 l3 (.lst [.ref t1, .ref t1]) = G3 at z3' y3 ⊢
      have zz := (z1'.trans z2').trans z3'
      refine ⟨l3, twoD e, rfl, .lst (SqL.of y3) (.cons (tD (z3' _ _ y12)) (.cons (tD (z3' _ _ y12)) .nil)), sh, dp, ln, rfl, ?_⟩
      rw [decide_eq_true rfl]
      exact k G3 (ExtN.same e8 zz) (tb8.ext zz)
    · have g1 : H8 z1 = some (.tup [.str "strategy", .str "legs"]) := by
        rcases hz18 with ⟨e', h', k'⟩ | ⟨n', t', h', o', k'⟩ | ⟨n', t', m', h', o', _⟩
        · rw [ht] at h'; cases h'
        · exact k'
        · rw [ht] at h'; cases h'; rw [ok] at o'; cases o'
      have g2 : H8 z2 = some (.tup [.str "strategy", .str "legs"]) := by
        rcases hz28 with ⟨e', h', k'⟩ | ⟨n', t', h', o', k'⟩ | ⟨n', t', m', h', o', _⟩
        · rw [ht] at h'; cases h'
        · exact k'
        · rw [ht] at h'; cases h'; rw [ok] at o'; cases o'
      refine ⟨_, rfl, _, _, _, _, _, rfl, .ty "int", .base (.str _), kit_si, _, rfl, iteFa rfl ?_⟩
      refine ⟨_, rfl, .inl ⟨rfl, _, rfl, iteTr (by simp) ?_⟩⟩
      refine ⟨_, rfl, show 2 ≤ sizeLine by decide, fun t1 nt1 => ⟨show 1 ≤ sizeLine by decide, fun l2 nl2 => ?_⟩⟩
      have z1' := same_new (o := .tup [.str "strategy", .str "legs"]) nt1
      have y1 : upd H8 t1 (.tup [.str "strategy", .str "legs"]) t1 = _ := upd_same
      generalize upd H8 t1 (.tup [.str "strategy", .str "legs"]) = G1 at z1' y1 nl2 ⊢
      have z2' := same_new (o := .lst [.ref t1]) nl2
      have y2 : upd G1 l2 (.lst [.ref t1]) l2 = some (.lst [.ref t1]) := upd_same
      have y12 := z2' _ _ y1
      generalize upd G1 l2 (.lst [.ref t1]) = G2 at z2' y2 y12 ⊢
      refine ⟨l2, 2, _, rfl, rfl, y2, by decide, by decide, show 1 * 2 ≤ sizeLine by decide, fun l3 nl3 => ?_⟩
      have z3' := same_new (o := .lst [.ref t1, .ref t1]) nl3
      have y3 : upd G2 l3 (.lst [.ref t1, .ref t1]) l3 = some (.lst [.ref t1, .ref t1]) := upd_same
      have erp : ((List.replicate (Int.toNat 2) [V.ref t1]).flatten) = [V.ref t1, V.ref t1] := rfl
      rw [erp]
      generalize upd G2 l3 (.lst [.ref t1, .ref t1]) = G3 at z3' y3 ⊢
      have zz := (z1'.trans z2').trans z3'
      have tD : ∀ {H : Hp} {p : Addr}, H p = some (.tup [.str "strategy", .str "legs"]) → Dp K H (.ref p) (.tuple [.str "strategy", .str "legs"]) := fun h => .tup (SqT.of h) (.cons (.str _) (.cons (.str _) .nil))
      refine ⟨legsD, legsD, .lst (SqL.of (zz _ _ h8)) (.cons (tD (zz _ _ g1)) (.cons (tD (zz _ _ g2)) .nil)), .lst (SqL.of y3) (.cons (tD (z3' _ _ y12)) (.cons (tD (z3' _ _ y12)) .nil)), legsD_ok.1, legsD_ok.1, ?_⟩
      rw [legsD_ok.2]
      exact k G3 (ExtN.same e8 zz) (tb8.ext zz)
    · obtain ⟨n0, nd, tl, gp⟩ := stgIn_good ht
      obtain ⟨m, cm, hv, g1⟩ : ∃ m, Canon m ∧ (∀ k, val m k = val t k) ∧ StgAt K H8 (aT K) z1 n m := by
        rcases hz18 with ⟨e', h', k'⟩ | ⟨n', t', h', o', k'⟩ | ⟨n', t', m', h', o', c', v', k'⟩
        · rw [ht] at h'; cases h'
        · rw [ht] at h'; cases h'; rw [ok] at o'; cases o'
        · rw [ht] at h'; cases h'; exact ⟨m', c', v', k'⟩
      have g2 : StgAt K H8 (aT K) z2 n m := by
        rcases hz28 with ⟨e', h', k'⟩ | ⟨n', t', h', o', k'⟩ | ⟨n', t', m', h', o', c', v', k'⟩
        · rw [ht] at h'; cases h'
        · rw [ht] at h'; cases h'; rw [ok] at o'; cases o'
        · rw [ht] at h'
          cases h'
          obtain rfl : m = m' := canon_eq cm c' fun k => (hv k).trans (v' k).symm
          exact k'
      have pm := perm_canon cm nd (fun p hp => (gp p hp).ne) hv
      have okm : stgOk m = true := (stgOk_perm pm).trans ok
      have gw : GoodW m := ⟨fun p hp => gp p (pm.mem_iff.mp hp), by rw [pm.length_eq]; omega⟩
      have ml : m.length ≤ 6 := by
        have z := okm
        unfold stgOk at z
        obtain ⟨z, _⟩ := Bool.and_eq_true_iff.mp z
        obtain ⟨_, z⟩ := Bool.and_eq_true_iff.mp z
        exact of_decide_eq_true z
      have tx := textT_len gw (by omega : m.length ≤ 100)
      have n8 := nm_len8 n0
      have gt : GoodT t := goodT_of nd (by omega) gp
      have sqp : SqT K H8 p [.str n, .ref d] := SqT.of hp
      refine ⟨_, rfl, _, _, _, _, _, rfl, .ty "int", .base (.tup hp), kit_ti, _, rfl, iteFa rfl ?_⟩
      refine ⟨_, rfl, .inr ⟨p, _, _, rfl, rfl, sqp, _, rfl, iteFa rfl ?_⟩⟩
      refine ⟨_, rfl, p, _, _, _, rfl, rfl, sqp, rfl, rfl, _, rfl, p, _, _, _, rfl, rfl, sqp, rfl, _, d, t, rfl, hd, gt, fun y m' H9 cm' hv' _ s9 lm => ?_⟩
      obtain rfl : m = m' := canon_eq cm cm' fun k => (hv k).trans (hv' k).symm
      have vn := name_V (K := K) (H := H9) n0
      intro xx dx nx ndx ne
      have sx : Same H9 (upd (upd H9 dx (.own xx)) xx (.ins (aS K) dx [])) := fun b o hb => by
        rw [upd_ne (ne_of_none hb nx), upd_ne (ne_of_none hb ndx)]
        exact hb
      refine ⟨xx, dx, _, _, true, true, rfl, upd_same, vn.same sx, .inl ⟨y, aT K, _, rfl, lm.same sx, T.leg.cT, okm⟩, fun z => (by cases z), fun _ z => (by cases z), fun _ _ H10 B hx => ⟨rfl, ?_⟩⟩
      have s10 : Same H9 H10 := fun b o hb => B b o (sx _ _ hb) (ne_of_none hb nx)
      have gx : StgAt K H10 (aT K) xx n m := ⟨dx, y, hx, lm.same s10⟩
      have s810 := s9.trans s10
      refine ⟨_, rfl, _, rfl, _, rfl, show 2 ≤ sizeLine by decide, fun l2 nl2 => ?_⟩
      have s11 := same_new (o := .lst [.ref xx, .ref xx]) nl2
      have h11 : upd H10 l2 (.lst [.ref xx, .ref xx]) l2 = some (.lst [.ref xx, .ref xx]) := upd_same
      generalize upd H10 l2 (.lst [.ref xx, .ref xx]) = H11 at s11 h11
      have s811 := s810.trans s11
      have gx11 := gx.same s11
      have dI : ∀ {a b : Addr}, StgAt K H11 (aT K) a n m → StgAt K H11 (aT K) b n m → DIns (aS K) (RSt K) (.ref a) (.ref b) H11 := fun {a b} la lb => by
        obtain ⟨dx, _, z1, _⟩ := la.at_
        obtain ⟨dy, _, z2, _⟩ := lb.at_
        exact ⟨a, b, dx, dy, _, _, rfl, rfl, z1, z2, n, m, la, lb⟩
      refine ⟨⟨fl, l2, _, _, rfl, rfl, s811 _ _ h8, h11, .cons (dI (g1.same s811) gx11) (.cons (dI (g2.same s811) gx11) .nil)⟩, fun H12 e12 => ?_⟩
      have s812 : Same H8 H12 := fun b o z => e12 b o (s811 b o z)
      have gx12 : StgAt K H12 (aT K) xx n m := gx11.same e12
      refine ⟨_, rfl, iteT ?_⟩
      obtain ⟨dq, lq, i1, i2⟩ := gx12.at_
      have sp := stg_split n0 gw
      have lX : (n ++ " = " ++ textT m).length ≤ 100000 := by
        have e3 : (" = " : Str).length = 3 := by decide
        rw [app_len, app_len, e3]
        have tl' : (textT m).length ≤ 90000 := tx_small gw (by omega)
        omega
      have wX : WdL (Txt.split (n ++ " = " ++ textT m) " ") := by
        rw [sp]
        have w0 := wdl_words gw
        have l0 := (okW_words gw (by omega : m.length ≤ 8)).2
        refine ⟨by simp; omega, fun z hz => ?_, fun z hz => ?_⟩
        · rcases List.mem_cons.mp hz with rfl | hz
          · omega
          · rcases List.mem_cons.mp hz with rfl | hz
            · decide
            · exact w0.each z hz
        · rcases List.mem_cons.mp hz with rfl | hz
          · exact name_ok n0
          · rcases List.mem_cons.mp hz with rfl | hz
            · decide +kernel
            · exact w0.ok z hz
      have cX : (Txt.split (n ++ " = " ++ textT m) " ").length < 64 := by
        rw [sp]
        have l0 := (okW_words gw (by omega : m.length ≤ 8)).2
        simp
        omega
      have bk : stgIn (Txt.split (n ++ " = " ++ textT m) " ") 0 = .ok (n, m) := by rw [sp]; exact stg_back n0 gw cm.nd
      refine ⟨rfl, _, rfl, xx, dq, _, rfl, i1, xx, n, m, rfl, gx12, gw, by omega, tx, fun H13 s13 => ⟨_, rfl, ?_⟩⟩
      refine ⟨_, rfl, .inl ⟨_, rfl, lX, wX, cX, fun n' t' ht' ok' yy mm H14 cmm hvm s14 gy => ?_, fun n' t' ht' ok' => ?_, fun e he => ?_⟩⟩
      · rw [bk] at ht'
        cases ht'
        obtain rfl : m = mm := canon_eq cm cmm fun k => (hvm k).symm
        have s124 := s13.trans s14
        have gx14 := gx12.same s124
        obtain ⟨dy, ly, j1, _⟩ := gy.at_
        obtain ⟨dz, lz, j2, _⟩ := gx14.at_
        refine ⟨_, rfl, yy, dy, _, .ref (aS K), rfl, j1, so.pl.ty T.all j2, nfS, yy, _, n, m, rfl, gy, .inl ⟨xx, n, m, rfl, gx14, _, rfl, ?_⟩⟩
        rw [decide_eq_true rfl, decide_eq_true rfl]
        refine iteT ?_
        have s814 := s812.trans s124
        have g114 := g1.same s814
        obtain ⟨d1, l1, j3, _⟩ := g114.at_
        refine ⟨_, rfl, fl, _, _, _, rfl, rfl, SqL.of (s814 _ _ h8), rfl, z1, d1, _, rfl, j3, z1, n, m, rfl, g114, gw, by omega, tx, fun H15 s15 => ⟨_, rfl, ?_⟩⟩
        have gx15 := gx14.same s15
        obtain ⟨d5, l5, j5, _⟩ := gx15.at_
        refine ⟨_, rfl, xx, d5, _, rfl, j5, xx, n, m, rfl, gx15, gw, by omega, tx, fun H16 s16 => ⟨_, rfl, rfl, ?_⟩⟩
        rw [decide_eq_true rfl]
        have zz := (s814.trans s15).trans s16
        exact k H16 (ExtN.same e8 zz) (tb8.ext zz)
      · rw [bk] at ht'
        cases ht'
        rw [okm] at ok'
        cases ok'
      · rw [bk] at he
        cases he
end
end Kx
set_option maxHeartbeats 8000000
namespace Kx
open PySem PySem.Spec PyProof.Rows L2 Xr LamX
local macro_rules | `(tactic| walk_at "rd") => `(tactic| (repeat (first | apply Exists.intro | (refine And.intro rfl ?_) | (refine And.intro (SqL.of (by assumption)) ?_) | (refine And.intro (Or.inl (SqL.of (by assumption))) ?_) | (refine Or.inl ⟨_, rfl, ?_⟩) | (refine Or.inr ⟨_, rfl, ?_⟩) | (refine And.intro (by assumption) ?_) | (refine And.intro (Or.inl (by assumption)) ?_))))
section
variable {P : Program} {w : World} {K : PySem.W.Frag} {mg : Str → Option Value} {base : Heap}
theorem tabs_but {T : List (Addr × Str)} {H H' : Hp} {p : Addr} {xs : List V} (t : Tabs T H) (hp : H p = some (.lst xs)) (B : But p H H') : Tabs T H' := fun e he => by
  obtain ⟨ps, h1, h2, h3⟩ := t e he
  refine ⟨ps, B _ _ h1 (fun z => by rw [z, hp] at h1; cases h1), h2, fun pos cv hc => ?_⟩
  obtain ⟨c, e1, e2⟩ := h3 pos cv hc
  refine ⟨c, e1, B _ _ e2 fun z => ?_⟩
  rw [z, hp] at e2
  have e3 := Option.some.inj e2
  unfold CodeO at e3
  cases e3
theorem PenAt.extN {H H' : Hp} {p q : Addr} {ns : List Int} {a r : Int} (S : PenAt H p q ns a r) (e : ExtN H H') : PenAt H' p q ns a r := ⟨e _ _ S.pen (fun _ z => by cases z), e _ _ S.cells (fun _ z => by cases z), S.len, S.a0, S.r0⟩
/-- words at l -/
def WL (H : Hp) (l : Addr) (ws : List Str) : Prop := H l = some (.lst (ws.map V.str)) ∧ ws.length ≤ 60 ∧ ∀ x ∈ ws, OkW x
theorem WL.extN {H H' : Hp} {l : Addr} {ws : List Str} (h : WL H l ws) (e : ExtN H H') : WL H' l ws := ⟨e _ _ h.1 (fun _ z => by cases z), h.2⟩
theorem WL.same {H H' : Hp} {l : Addr} {ws : List Str} (h : WL H l ws) (e : Same H H') : WL H' l ws := ⟨e _ _ h.1, h.2⟩
theorem okWs {l : List Str} (h : l.all okWB = true) : ∀ x ∈ l, OkW x := fun x hx => okW_dec (List.all_eq_true.mp h x hx)
theorem kit_no {t : String} (h : kitB t "str" = some false) : PySem.W.kitOne K (.type t) (.type "str") = some false := kit_ty h
def oddT (K : PySem.W.Frag) (H : Hp) (v : V) : Prop := ∃ t, TyX K H v t ∧ PySem.W.kitOne K t (.type "str") = some false
def told00 : PyData := .tuple [.str "text", .int 0, .int 0]
theorem told00_ok : SeqAt.shaped told00 = true ∧ PyData.eqv told00 told00 = true := by decide +kernel
theorem sc_law : FnScope ["_law_script", "_law_pen_here", "_law_turn", "_law_words_here", "_law_once", "_law_some", "_law_thing"] ["_law_script"] (defScope (top 44)) := ⟨rfl, rfl, rfl, by decide +kernel, rfl, by decide +kernel, by decide +kernel⟩
def spLaw (K : PySem.W.Frag) : Sp := fun vs H Q _ => ∃ (a : Addr) (ns : List Int), vs = [.ref a] ∧ SqL K H a (ns.map V.int) ∧ ns.length ≤ 63 ∧ Tabs (tabsT K) H ∧ ∀ H', Q (.bl true) H'
theorem ok_law (T : Txt P K mg) (TB : ∀ p ∈ tf, TabB base mg (He.cT K p).1 (He.cT K p).2) {fd : FuncData} (F : FunD K "law" "law" (defArgs (top 44)) (defBody (top 44)) (defScope (top 44)) [] [] (He.ga K "law") fd) : FnG P w K mg base CX0 12 (He.ga K "law") fd ["_law_script"] (spLaw K) := by
  have G__law_pen := ok__law_pen (P := P) (w := w) (base := base) T
  have G__law_words := ok__law_words (P := P) (w := w) (base := base) T
  have G__law_spoiled := ok__law_spoiled (P := P) (w := w) (base := base) T
  have G_Sread := (ok_Strategy_read (P := P) (w := w) (base := base) T).fnR
  obtain ⟨fr, Fr, br, kr⟩ := ok__law_right (P := P) (w := w) (base := base) T TB
  obtain ⟨fdH, FH⟩ := T.F__law_heard
  have bH := FH.bindsN (ps := ["_law_ask"]) fun _ _ _ _ _ _ us hl => match us, hl with | [_], _ => rfl
  refine okGC (p := ("law", none)) F sc_law (fun vs H Q E h => ?_) (fun A outer s H vs Q E hr hgd h => ?_)
  · obtain ⟨a, ns, rfl, _⟩ := h
    rfl
  · obtain ⟨a, ns, rfl, hS, hl, tb, k⟩ := h
    have hu := hu_of hr
    have hu64 := hr.units
    refine ⟨_, PSs.nox (pss_cons (ps_asg (pe_f G__law_pen (hr.mono (by decide)) (by rfl) T.g__law_pen pass0 (pa_cons (pv 0) pa_nil)) (pg_name (i := 1) sc_law.nd rfl (.inl rfl)))
    (pss_cons (ps_for PassesOwn.never rfl (pi_range1 (by rfl) T.z_range (pa_cons pe_int pa_nil)) (pg_name (i := 2) sc_law.nd rfl (.inl rfl))
      (pss_cons (ps_asg (pe_f G__law_words (hr.mono (by decide)) (by rfl) T.g__law_words pass0 (pa_cons (pv 1) pa_nil)) (pg_name (i := 3) sc_law.nd rfl (.inl rfl)))
    (pss_cons (ps_asg (pe_f G__law_spoiled (hr.mono (by decide)) (by rfl) T.g__law_spoiled pass0 (pa_cons (pv 1) (pa_cons (pv 3) pa_nil))) (pg_name (i := 4) sc_law.nd rfl (.inl rfl)))
    (pss_one (ps_for PassesOwn.never rfl (pi_tup (pe_tup (pa_cons (pv 3) (pa_cons (pv 4) (pa_cons (pe_f G__law_spoiled (hr.mono (by decide)) (by rfl) T.g__law_spoiled pass0 (pa_cons (pv 1) (pa_cons (pv 4) pa_nil))) pa_nil))))) (pg_name (i := 5) sc_law.nd rfl (.inl rfl))
      (pss_one (ps_if (pt_not (pt_val (pe_fG Fr br kr (hr.mono (by decide)) hgd (by rfl) T.g__law_right pass0 (pa_cons (pv 5) pa_nil))))
      (pss_one (ps_ret pe_bl))
      pss_nil)))))))
    (pss_cons (ps_for PassesOwn.never rfl (pi_tup (pe_tup (pa_cons pe_non (pa_cons pe_int (pa_cons pe_bl (pa_cons (pe_lst pa_nil) (pa_cons (pe_tup (pa_cons pe_str pa_nil)) (pa_cons (pe_disp (pps_cons pe_str pe_str pps_nil) rfl rfl (fun z => by cases z) (by decide)) (pa_cons (pe_lst (pa_cons pe_str (pa_cons pe_str (pa_cons pe_str pa_nil)))) pa_nil))))))))) (pg_name (i := 6) sc_law.nd rfl (.inr rfl))
      (pss_one (ps_if (pt_cmpR (op_neD hu64) (pe_lamF (T := tabsT K) (TT := TTs K) FH bH (by rfl) T.g__law_heard sc__law_heard rfl (.inl rfl) (fun cdv => heard_gives T rfl rfl rfl cdv) (TB ("law", none) (by decide)) rfl (tabs_mem (p := ("law", none)) (by decide)) (tabs_one T (p := ("law", none)) (by decide)) (k := 8) (hr.mono (by decide)) (lamS_by (sc := defScope (top 44)) (by decide +kernel)) (fun A outer s H E f c' hr' => (pe_cmF (pe_glob (v := .ref (He.ga K "Strategy")) (by rfl) T.g_Strategy rfl) (T.stg.oc.cm "read" (by decide)) G_Sread (hr'.mono (by decide)) (passes_call (takes_of rfl rfl rfl rfl) (fun _ _ _ _ h => h)) (pa_cons (pv 6) pa_nil)))) (pe_tup (pa_cons pe_str (pa_cons pe_int (pa_cons pe_int pa_nil)))) (nomark _))
      (pss_one (ps_ret pe_bl))
      pss_nil)))
    (pss_cons (ps_for PassesOwn.never rfl (pi_tup (pe_tup (pa_cons (pe_lst (pa_cons pe_str pa_nil)) (pa_cons (pe_lst (pa_cons pe_str pa_nil)) (pa_cons (pe_lst (pa_cons pe_str pa_nil)) (pa_cons (pe_lst (pa_cons pe_str (pa_cons pe_str pa_nil))) (pa_cons (pe_lst (pa_cons pe_str (pa_cons pe_str (pa_cons pe_str pa_nil)))) (pa_cons (pe_lst (pa_cons pe_str (pa_cons pe_str (pa_cons pe_str (pa_cons pe_str pa_nil))))) (pa_cons (pe_lst (pa_cons pe_str pa_nil)) pa_nil))))))))) (pg_name (i := 5) sc_law.nd rfl (.inl rfl))
      (pss_one (ps_if (pt_not (pt_val (pe_fG Fr br kr (hr.mono (by decide)) hgd (by rfl) T.g__law_right pass0 (pa_cons (pv 5) pa_nil))))
      (pss_one (ps_ret pe_bl))
      pss_nil)))
    (pss_one (ps_ret (pe_and (pe_fG Fr br kr (hr.mono (by decide)) hgd (by rfl) T.g__law_right pass0 (pa_cons (pe_lst (pa_cons pe_str (pa_cons pe_str (pa_cons pe_str (pa_cons pe_str pa_nil))))) pa_nil)) (pe_one (pe_fG Fr br kr (hr.mono (by decide)) hgd (by rfl) T.g__law_right pass0 (pa_cons (pe_lst (pa_cons pe_str (pa_cons pe_str (pa_cons pe_str (pa_cons pe_str (pa_cons pe_str pa_nil)))))) pa_nil)))))))))), ?_⟩
    refine ⟨_, rfl, a, ns, rfl, hS, hl, fun p q ns' H0 np s0 S0 => ?_⟩
    refine ⟨6, rfl, by decide, by decide, ?_⟩
    refine for_range (fun i σ' H' => ∃ (v2 v3 v4 v5 v6 : Option V) (a' r' : Int), σ' = [some (.ref a), some (.ref p), v2, v3, v4, v5, v6] ∧ PenAt H' p q ns' a' r' ∧ a' ≤ 200 * i ∧ Tabs (tabsT K) H') ⟨none, none, none, none, none, 0, 0, rfl, S0, by omega, tb.ext s0⟩ ?_ ?_
    · rintro i σ' H' hi ⟨v2, v3, v4, v5, v6, a1, r1, rfl, S1, b1, tb1⟩
      refine ⟨_, rfl, p, q, ns', a1, r1, rfl, S1, by omega, fun l1 ws1 a2 r2 H1 h1 n1 len1 ok1 c1 c2 B1 S2 => ?_⟩
      have tb2 := tabs_but tb1 S1.pen B1
      refine ⟨_, rfl, _, rfl, p, q, l1, ns', a2, r2, ws1, rfl, S2, by omega, h1, n1, by omega, ok1, fun l6 ws6 a3 r3 H6 h6 n6 len6 ok6 d1 d2 B6 S6 => ?_⟩
      have tb6 := tabs_but tb2 S2.pen B6
      have h16 := B6 _ _ h1 n1
      refine ⟨_, rfl, _, rfl, _, rfl, _, rfl, p, q, l6, ns', a3, r3, ws6, rfl, S6, by omega, h6, n6, by omega, ok6, fun l7 ws7 a4 r4 H7 h7 n7 len7 ok7 d3 d4 B7 S7 => ?_⟩
      have tb7 := tabs_but tb6 S6.pen B7
      have h17 := B7 _ _ h16 n1
      have h67 := B7 _ _ h6 n6
      refine ⟨show 3 ≤ sizeLine by decide, fun tp ntp => ?_⟩
      have s10 := same_new (o := .tup [.ref l1, .ref l6, .ref l7]) ntp
      have h10 : upd H7 tp (.tup [.ref l1, .ref l6, .ref l7]) tp = some (.tup [.ref l1, .ref l6, .ref l7]) := upd_same
      generalize upd H7 tp (.tup [.ref l1, .ref l6, .ref l7]) = H10 at s10 h10
      have S10 := S7.same s10
      have tb10 := tb7.ext s10
      have WA : WL H10 l1 ws1 := ⟨s10 _ _ h17, by omega, ok1⟩
      have WB : WL H10 l6 ws6 := ⟨s10 _ _ h67, by omega, ok6⟩
      have WC : WL H10 l7 ws7 := ⟨s10 _ _ h7, by omega, ok7⟩
      refine ⟨tp, rfl, ⟨_, SqT.of h10⟩, ?_⟩
      refine forP (yl_tup (xs := [.ref l1, .ref l6, .ref l7])) (fun j σ' H' => ∃ v5 : Option V, σ' = [some (.ref a), some (.ref p), some (.int (0 + (i : Int))), some (.ref l1), some (.ref l6), v5, v6] ∧ PenAt H' p q ns' a4 r4 ∧ Tabs (tabsT K) H' ∧ H' tp = some (.tup [.ref l1, .ref l6, .ref l7]) ∧ WL H' l1 ws1 ∧ WL H' l6 ws6 ∧ WL H' l7 ws7) ⟨_, rfl, S10, tb10, h10, WA, WB, WC⟩ ?_ ?_ ?_
      · rintro j σ' H' _ ⟨v5', rfl, _, _, h, _⟩
        exact SqT.of h
      · rintro j x σ' H' hx ⟨v5', rfl, Sj, tbj, hj, WAj, WBj, WCj⟩
        have one : ∃ l ws, x = .ref l ∧ WL H' l ws := by
          have hm := List.mem_of_getElem? hx
          simp only [List.mem_cons, List.not_mem_nil, or_false] at hm
          rcases hm with rfl | rfl | rfl
          · exact ⟨_, _, rfl, WAj⟩
          · exact ⟨_, _, rfl, WBj⟩
          · exact ⟨_, _, rfl, WCj⟩
        obtain ⟨l, ws, rfl, wl⟩ := one
        refine ⟨_, rfl, l, ws, rfl, wl.1, wl.2.1, wl.2.2, tbj, fun H'' e'' tb'' => ⟨_, rfl, iteFa rfl ?_⟩⟩
        exact ⟨_, rfl, PenAt.extN Sj e'', tb'', e'' _ _ hj (fun _ z => by cases z), WAj.extN e'', WBj.extN e'', WCj.extN e''⟩
      · rintro σ' H' ⟨v5', rfl, Sj, tbj, _⟩
        exact ⟨_, _, _, _, _, a4, r4, rfl, Sj, by omega, tbj⟩
    · rintro σ' H' ⟨v2, v3, v4, v5, v6, a1, r1, rfl, S1, b1, tb1⟩
      refine ⟨show 0 ≤ sizeLine by decide, fun x1 n1 => ?_⟩
      have s1 := same_new (o := .lst []) n1
      have h1 : upd H' x1 (.lst []) x1 = some (.lst []) := upd_same
      generalize upd H' x1 (.lst []) = G1 at s1 h1
      refine ⟨show 1 ≤ sizeLine by decide, fun x3 n3 => ?_⟩
      have s3 := same_new (o := .tup [.str "fly = c"]) n3
      have h3 : upd G1 x3 (.tup [.str "fly = c"]) x3 = some (.tup [.str "fly = c"]) := upd_same
      generalize upd G1 x3 (.tup [.str "fly = c"]) = G3 at s3 h3
      refine fun x5 n5 => ⟨upd_same, [(.inr "fly", .str "c")], rfl, by decide, ?_⟩
      have s5 : Same G3 (upd (upd G3 x5 (.dK [])) x5 (.dK (mergeK [] [(Sum.inr "fly", .str "c")]))) := fun b o hb => by
        rw [upd_ne (ne_of_none hb n5), upd_ne (ne_of_none hb n5)]
        exact hb
      have h5 : upd (upd G3 x5 (.dK [])) x5 (.dK (mergeK [] [(Sum.inr "fly", .str "c")])) x5 = some (.dK (mergeK [] [(Sum.inr "fly", .str "c")])) := upd_same
      generalize upd (upd G3 x5 (.dK [])) x5 (.dK (mergeK [] [(Sum.inr "fly", .str "c")])) = G5 at s5 h5
      refine ⟨show 3 ≤ sizeLine by decide, fun x2 n2 => ?_⟩
      have s2 := same_new (o := .lst [.str "fly", .str "=", .str "c"]) n2
      have h2 : upd G5 x2 (.lst [.str "fly", .str "=", .str "c"]) x2 = some (.lst [.str "fly", .str "=", .str "c"]) := upd_same
      generalize upd G5 x2 (.lst [.str "fly", .str "=", .str "c"]) = G2 at s2 h2
      refine ⟨show 7 ≤ sizeLine by decide, fun ll nll => ?_⟩
      generalize hXS : [V.non, V.int 0, V.bl true, V.ref x1, V.ref x3, V.ref x5, V.ref x2] = XS
      have s6 := same_new (o := .tup XS) nll
      have h6 : upd G2 ll (.tup XS) ll = some (.tup XS) := upd_same
      generalize upd G2 ll (.tup XS) = G6 at s6 h6
      have s26 := s2.trans s6
      have s56 := s5.trans s26
      have s36 := s3.trans s56
      have tb6 := tb1.ext (s1.trans s36)
      refine ⟨ll, rfl, ⟨_, SqT.of h6⟩, ?_⟩
      refine forP (yl_tup (xs := XS)) (fun j σ' H' => ∃ v6 : Option V, σ' = [some (.ref a), some (.ref p), v2, v3, v4, v5, v6] ∧ Tabs (tabsT K) H' ∧ H' ll = some (.tup XS) ∧ H' x1 = some (.lst []) ∧ H' x3 = some (.tup [.str "fly = c"]) ∧ H' x5 = some (.dK (mergeK [] [(Sum.inr "fly", .str "c")])) ∧ H' x2 = some (.lst [.str "fly", .str "=", .str "c"])) ⟨_, rfl, tb6, h6, s36 _ _ h1, s56 _ _ h3, s26 _ _ h5, s6 _ _ h2⟩ ?_ ?_ ?_
      · rintro j σ' H' _ ⟨v6', rfl, _, h, _⟩
        exact SqT.of h
      · rintro j x σ' H' hx ⟨v6', rfl, tbj, hj, y1, y3, y5, y2⟩
        refine ⟨tbj, fun H1 e1 tb1' => ?_⟩
        have z1 := e1 _ _ y1 (fun _ z => by cases z)
        have z2 := e1 _ _ y2 (fun _ z => by cases z)
        have z3 := e1 _ _ y3 (fun _ z => by cases z)
        have z5 := e1 _ _ y5 (fun _ z => by cases z)
        have zj := e1 _ _ hj (fun _ z => by cases z)
        have od : oddT K H1 x := by
          have hm := List.mem_of_getElem? hx
          rw [← hXS] at hm
          simp only [List.mem_cons, List.not_mem_nil, or_false] at hm
          rcases hm with rfl | rfl | rfl | rfl | rfl | rfl | rfl
          · exact ⟨_, .base .non, kit_no (by decide +kernel)⟩
          · exact ⟨_, .base (.int _), kit_no (by decide +kernel)⟩
          · exact ⟨_, .base (.bl _), kit_no (by decide +kernel)⟩
          · exact ⟨_, .base (.lst z1), kit_no (by decide +kernel)⟩
          · exact ⟨_, .base (.tup z3), kit_no (by decide +kernel)⟩
          · exact ⟨_, .base (.dK z5), kit_no (by decide +kernel)⟩
          · exact ⟨_, .base (.lst z2), kit_no (by decide +kernel)⟩
        obtain ⟨ty, t1, t2⟩ := od
        refine tts_use (fun z H5 => Same H1 H5 ∧ H5 z = some (.tup [.str "text", .int 0, .int 0])) (fun Q' cont => ?_) fun zz H2 ⟨s2', hz⟩ => ?_
        · exact ⟨rfl, _, rfl, _, rfl, .inr ⟨ty, t1, t2, fun dd H2 s2' nd2 hd2 => .inl ⟨rfl, dd, _, _, rfl, hd2, fun p5 H3 s3' h3' => cont p5 H3 ⟨s2'.trans s3', h3'⟩⟩⟩⟩
        refine ⟨show 3 ≤ sizeLine by decide, fun z nz => ?_⟩
        have s4' := same_new (o := .tup [.str "text", .int 0, .int 0]) nz
        refine ⟨told00, told00, Dp.tup (SqT.of (s4' _ _ hz)) (.cons (.str _) (.cons (.int _) (.cons (.int _) .nil))), Dp.tup (SqT.of upd_same) (.cons (.str _) (.cons (.int _) (.cons (.int _) .nil))), told00_ok.1, told00_ok.1, _, rfl, ?_⟩
        rw [told00_ok.2]
        refine iteFa rfl ?_
        have ss := s2'.trans s4'
        exact ⟨_, rfl, tb1'.ext ss, ss _ _ zj, ss _ _ z1, ss _ _ z3, ss _ _ z5, ss _ _ z2⟩
      · rintro σ' H' ⟨v6', rfl, tbj, _⟩
        refine ⟨show 1 ≤ sizeLine by decide, fun y0 m0 => ?_⟩
        have t0 := same_new (o := .lst [.str ""]) m0
        have w0 : WL (upd H' y0 (.lst [.str ""])) y0 [""] := ⟨upd_same, by decide, okWs (by decide +kernel)⟩
        generalize upd H' y0 (.lst [.str ""]) = J0 at t0 w0
        refine ⟨show 1 ≤ sizeLine by decide, fun y1 m1 => ?_⟩
        have t1 := same_new (o := .lst [.str "-"]) m1
        have w1 : WL (upd J0 y1 (.lst [.str "-"])) y1 ["-"] := ⟨upd_same, by decide, okWs (by decide +kernel)⟩
        generalize upd J0 y1 (.lst [.str "-"]) = J1 at t1 w1
        refine ⟨show 1 ≤ sizeLine by decide, fun y2 m2 => ?_⟩
        have t2 := same_new (o := .lst [.str "fly"]) m2
        have w2 : WL (upd J1 y2 (.lst [.str "fly"])) y2 ["fly"] := ⟨upd_same, by decide, okWs (by decide +kernel)⟩
        generalize upd J1 y2 (.lst [.str "fly"]) = J2 at t2 w2
        refine ⟨show 2 ≤ sizeLine by decide, fun y3 m3 => ?_⟩
        have t3 := same_new (o := .lst [.str "fly", .str "="]) m3
        have w3 : WL (upd J2 y3 (.lst [.str "fly", .str "="])) y3 ["fly", "="] := ⟨upd_same, by decide, okWs (by decide +kernel)⟩
        generalize upd J2 y3 (.lst [.str "fly", .str "="]) = J3 at t3 w3
        refine ⟨show 3 ≤ sizeLine by decide, fun y4 m4 => ?_⟩
        have t4 := same_new (o := .lst [.str "fly", .str "=", .str "0"]) m4
        have w4 : WL (upd J3 y4 (.lst [.str "fly", .str "=", .str "0"])) y4 ["fly", "=", "0"] := ⟨upd_same, by decide, okWs (by decide +kernel)⟩
        generalize upd J3 y4 (.lst [.str "fly", .str "=", .str "0"]) = J4 at t4 w4
        refine ⟨show 4 ≤ sizeLine by decide, fun y5 m5 => ?_⟩
        have t5 := same_new (o := .lst [.str "fly", .str "=", .str "c", .str "d"]) m5
        have w5 : WL (upd J4 y5 (.lst [.str "fly", .str "=", .str "c", .str "d"])) y5 ["fly", "=", "c", "d"] := ⟨upd_same, by decide, okWs (by decide +kernel)⟩
        generalize upd J4 y5 (.lst [.str "fly", .str "=", .str "c", .str "d"]) = J5 at t5 w5
        refine ⟨show 1 ≤ sizeLine by decide, fun y6 m6 => ?_⟩
        have t6 := same_new (o := .lst [.str "fly=c"]) m6
        have w6 : WL (upd J5 y6 (.lst [.str "fly=c"])) y6 ["fly=c"] := ⟨upd_same, by decide, okWs (by decide +kernel)⟩
        generalize upd J5 y6 (.lst [.str "fly=c"]) = J6 at t6 w6
        refine ⟨show 7 ≤ sizeLine by decide, fun tq ntq => ?_⟩
        have tT := same_new (o := .tup [.ref y0, .ref y1, .ref y2, .ref y3, .ref y4, .ref y5, .ref y6]) ntq
        have hT : upd J6 tq (.tup [.ref y0, .ref y1, .ref y2, .ref y3, .ref y4, .ref y5, .ref y6]) tq = some (.tup [.ref y0, .ref y1, .ref y2, .ref y3, .ref y4, .ref y5, .ref y6]) := upd_same
        generalize upd J6 tq (.tup [.ref y0, .ref y1, .ref y2, .ref y3, .ref y4, .ref y5, .ref y6]) = JT at tT hT
        have w0 := w0.same ((((((t1.trans t2).trans t3).trans t4).trans t5).trans t6).trans tT)
        have w1 := w1.same (((((t2.trans t3).trans t4).trans t5).trans t6).trans tT)
        have w2 := w2.same ((((t3.trans t4).trans t5).trans t6).trans tT)
        have w3 := w3.same (((t4.trans t5).trans t6).trans tT)
        have w4 := w4.same ((t5.trans t6).trans tT)
        have w5 := w5.same (t6.trans tT)
        have w6 := w6.same tT
        have tbT := tbj.ext (((((((t0.trans t1).trans t2).trans t3).trans t4).trans t5).trans t6).trans tT)
        refine ⟨tq, rfl, ⟨_, SqT.of hT⟩, ?_⟩
        refine forP (yl_tup (xs := [.ref y0, .ref y1, .ref y2, .ref y3, .ref y4, .ref y5, .ref y6])) (fun j σ' H' => ∃ v5 : Option V, σ' = [some (.ref a), some (.ref p), v2, v3, v4, v5, v6'] ∧ Tabs (tabsT K) H' ∧ H' tq = some (.tup [.ref y0, .ref y1, .ref y2, .ref y3, .ref y4, .ref y5, .ref y6]) ∧ WL H' y0 [""] ∧ WL H' y1 ["-"] ∧ WL H' y2 ["fly"] ∧ WL H' y3 ["fly", "="] ∧ WL H' y4 ["fly", "=", "0"] ∧ WL H' y5 ["fly", "=", "c", "d"] ∧ WL H' y6 ["fly=c"]) ⟨_, rfl, tbT, hT, w0, w1, w2, w3, w4, w5, w6⟩ ?_ ?_ ?_
        · rintro j σ' H' _ ⟨v5', rfl, _, h, _⟩
          exact SqT.of h
        · rintro j x σ' H' hx ⟨v5', rfl, tbj, hj, u0, u1, u2, u3, u4, u5, u6⟩
          have one : ∃ l ws, x = .ref l ∧ WL H' l ws := by
            have hm := List.mem_of_getElem? hx
            simp only [List.mem_cons, List.not_mem_nil, or_false] at hm
            rcases hm with rfl | rfl | rfl | rfl | rfl | rfl | rfl
            · exact ⟨_, _, rfl, u0⟩
            · exact ⟨_, _, rfl, u1⟩
            · exact ⟨_, _, rfl, u2⟩
            · exact ⟨_, _, rfl, u3⟩
            · exact ⟨_, _, rfl, u4⟩
            · exact ⟨_, _, rfl, u5⟩
            · exact ⟨_, _, rfl, u6⟩
          obtain ⟨l, ws, rfl, wl⟩ := one
          refine ⟨_, rfl, l, ws, rfl, wl.1, wl.2.1, wl.2.2, tbj, fun H'' e'' tb'' => ⟨_, rfl, iteFa rfl ?_⟩⟩
          exact ⟨_, rfl, tb'', e'' _ _ hj (fun _ z => by cases z), u0.extN e'', u1.extN e'', u2.extN e'', u3.extN e'', u4.extN e'', u5.extN e'', u6.extN e''⟩
        · rintro σ' H' ⟨v5', rfl, tbj, _⟩
          refine ⟨show 4 ≤ sizeLine by decide, fun g1 ng1 => ?_⟩
          have q1 := same_new (o := .lst [.str "fly", .str "=", .str "c", .str "-"]) ng1
          have r1 : WL (upd H' g1 (.lst [.str "fly", .str "=", .str "c", .str "-"])) g1 ["fly", "=", "c", "-"] := ⟨upd_same, by decide, okWs (by decide +kernel)⟩
          generalize upd H' g1 (.lst [.str "fly", .str "=", .str "c", .str "-"]) = M1 at q1 r1
          refine ⟨g1, _, rfl, r1.1, r1.2.1, r1.2.2, tbj.ext q1, fun H'' e'' tb'' => ⟨_, rfl, iteT ?_⟩⟩
          refine ⟨show 5 ≤ sizeLine by decide, fun g2 ng2 => ?_⟩
          have q2 := same_new (o := .lst [.str "fly", .str "=", .str "c", .str "+", .str "2"]) ng2
          have r2 : WL (upd H'' g2 (.lst [.str "fly", .str "=", .str "c", .str "+", .str "2"])) g2 ["fly", "=", "c", "+", "2"] := ⟨upd_same, by decide, okWs (by decide +kernel)⟩
          generalize upd H'' g2 (.lst [.str "fly", .str "=", .str "c", .str "+", .str "2"]) = M2 at q2 r2
          exact ⟨g2, _, rfl, r2.1, r2.2.1, r2.2.2, tb''.ext q2, fun H3 _ _ => k H3⟩
end
end Kx
set_option maxHeartbeats 0
namespace Kx
open PySem PySem.Spec PyProof.Rows L2 Xr LamX
abbrev prog : Program := PySem.Challenge.pw_wholelots_k07_whole_strategies_by_texts
theorem it_InvalidLegs : InitT (defArgs sInvalidLegs) (defBody sInvalidLegs) (defScope sInvalidLegs) ["reason"] :=
  ⟨.inl ⟨"reason", _, _, _, _, _, _, _, _, _, _, rfl, fun env => ⟨_, rfl⟩, rfl⟩, rfl, rfl, rfl, by decide +kernel, by decide +kernel, by decide +kernel, by decide +kernel, ⟨_, rfl, rfl⟩, by decide +kernel, by decide +kernel⟩
theorem ib_InvalidLegs (kV doc pm : Value) (an : Option Addr) (cdv ct : Value) (cc : Addr) : ErrB (PySem.W.ksFn "__init__" "InvalidLegs.__init__" (defArgs sInvalidLegs) (defBody sInvalidLegs) (defScope sInvalidLegs) .none kV doc pm an cdv ct cc) ["reason"] :=
  ⟨fun s self us hl => match us, hl with | [_], _ => .of_eq rfl, fun s self us hl => match us, hl with | [_], _ => .of_eq rfl⟩
theorem it_InvalidStrategy : InitT (defArgs sInvalidStrategy) (defBody sInvalidStrategy) (defScope sInvalidStrategy) ["reason"] :=
  ⟨.inl ⟨"reason", _, _, _, _, _, _, _, _, _, _, rfl, fun env => ⟨_, rfl⟩, rfl⟩, rfl, rfl, rfl, by decide +kernel, by decide +kernel, by decide +kernel, by decide +kernel, ⟨_, rfl, rfl⟩, by decide +kernel, by decide +kernel⟩
theorem ib_InvalidStrategy (kV doc pm : Value) (an : Option Addr) (cdv ct : Value) (cc : Addr) : ErrB (PySem.W.ksFn "__init__" "InvalidStrategy.__init__" (defArgs sInvalidStrategy) (defBody sInvalidStrategy) (defScope sInvalidStrategy) .none kV doc pm an cdv ct cc) ["reason"] :=
  ⟨fun s self us hl => match us, hl with | [_], _ => .of_eq rfl, fun s self us hl => match us, hl with | [_], _ => .of_eq rfl⟩
theorem it_InvalidText : InitT (defArgs sInvalidText) (defBody sInvalidText) (defScope sInvalidText) ["line", "word"] :=
  ⟨.inr ⟨"line", "word", _, _, _, _, _, _, _, _, _, _, _, _, _, _, _, rfl, fun env => ⟨_, rfl⟩, rfl⟩, rfl, rfl, rfl, by decide +kernel, by decide +kernel, by decide +kernel, by decide +kernel, ⟨_, rfl, rfl⟩, by decide +kernel, by decide +kernel⟩
theorem ib_InvalidText (kV doc pm : Value) (an : Option Addr) (cdv ct : Value) (cc : Addr) : ErrB (PySem.W.ksFn "__init__" "InvalidText.__init__" (defArgs sInvalidText) (defBody sInvalidText) (defScope sInvalidText) .none kV doc pm an cdv ct cc) ["line", "word"] :=
  ⟨fun s self us hl => match us, hl with | [_, _], _ => .of_eq rfl, fun s self us hl => match us, hl with | [_, _], _ => .of_eq rfl⟩
theorem it_UnknownName : InitT (defArgs sUnknownName) (defBody sUnknownName) (defScope sUnknownName) ["name"] :=
  ⟨.inl ⟨"name", _, _, _, _, _, _, _, _, _, _, rfl, fun env => ⟨_, rfl⟩, rfl⟩, rfl, rfl, rfl, by decide +kernel, by decide +kernel, by decide +kernel, by decide +kernel, ⟨_, rfl, rfl⟩, by decide +kernel, by decide +kernel⟩
theorem ib_UnknownName (kV doc pm : Value) (an : Option Addr) (cdv ct : Value) (cc : Addr) : ErrB (PySem.W.ksFn "__init__" "UnknownName.__init__" (defArgs sUnknownName) (defBody sUnknownName) (defScope sUnknownName) .none kV doc pm an cdv ct cc) ["name"] :=
  ⟨fun s self us hl => match us, hl with | [_], _ => .of_eq rfl, fun s self us hl => match us, hl with | [_], _ => .of_eq rfl⟩
theorem mkTxt {h : Heap} {w : World} {K : PySem.W.Frag} {mg : Str → Option Value} (X : K.In h) (G : h.Ns mainGlobals mg) (c : SaysF fa fn [] tf cl da exB w h K) : Txt prog K mg := by
  have d := c.e.x.t.d
  have e := c.e.x.more
  obtain ⟨z0, e⟩ := He.ba e
  have al := allB_ok z0
  obtain ⟨zl, e⟩ := He.ba e
  obtain ⟨zs, e⟩ := He.ba e
  obtain ⟨zr, e⟩ := He.ba e
  obtain ⟨zr, zt⟩ := He.ba zr
  have zt := of_decide_eq_true zt
  have zr := fun x hx => He.ba (List.all_eq_true.mp zr x hx)
  obtain ⟨z1, e⟩ := He.ba e
  obtain ⟨z2, e⟩ := He.ba e
  obtain ⟨z3, e⟩ := He.ba e
  have z4 := e
  exact ⟨al,
    He.glo_ok X G (d.fact 0 (f := .glo "LotError") rfl),
    He.glo_ok X G (d.fact 1 (f := .glo "InvalidLegs") rfl),
    He.glo_ok X G (d.fact 2 (f := .glo "InvalidStrategy") rfl),
    He.glo_ok X G (d.fact 3 (f := .glo "InvalidText") rfl),
    He.glo_ok X G (d.fact 4 (f := .glo "UnknownName") rfl),
    He.glo_ok X G (d.fact 5 (f := .glo "is_integer") rfl),
    He.glo_ok X G (d.fact 6 (f := .glo "is_whole") rfl),
    He.glo_ok X G (d.fact 7 (f := .glo "is_name") rfl),
    He.glo_ok X G (d.fact 8 (f := .glo "number_in") rfl),
    He.glo_ok X G (d.fact 9 (f := .glo "terms_text") rfl),
    He.glo_ok X G (d.fact 10 (f := .glo "word_at") rfl),
    He.glo_ok X G (d.fact 11 (f := .glo "sign_at") rfl),
    He.glo_ok X G (d.fact 12 (f := .glo "size_at") rfl),
    He.glo_ok X G (d.fact 13 (f := .glo "terms_in") rfl),
    He.glo_ok X G (d.fact 14 (f := .glo "strategy_in") rfl),
    He.glo_ok X G (d.fact 15 (f := .glo "need_numbers") rfl),
    He.glo_ok X G (d.fact 16 (f := .glo "without_zeros") rfl),
    He.glo_ok X G (d.fact 17 (f := .glo "added") rfl),
    He.glo_ok X G (d.fact 18 (f := .glo "Legs") rfl),
    He.glo_ok X G (d.fact 19 (f := .glo "TableLegs") rfl),
    He.glo_ok X G (d.fact 20 (f := .glo "are_strategy_legs") rfl),
    He.glo_ok X G (d.fact 21 (f := .glo "Strategy") rfl),
    He.glo_ok X G (d.fact 22 (f := .glo "_law_pen") rfl),
    He.glo_ok X G (d.fact 23 (f := .glo "_law_draw") rfl),
    He.glo_ok X G (d.fact 24 (f := .glo "_law_pick") rfl),
    He.glo_ok X G (d.fact 25 (f := .glo "_law_terms") rfl),
    He.glo_ok X G (d.fact 26 (f := .glo "_law_is_name") rfl),
    He.glo_ok X G (d.fact 27 (f := .glo "_law_count") rfl),
    He.glo_ok X G (d.fact 28 (f := .glo "_law_legs") rfl),
    He.glo_ok X G (d.fact 29 (f := .glo "_law_words") rfl),
    He.glo_ok X G (d.fact 30 (f := .glo "_law_spoiled") rfl),
    He.glo_ok X G (d.fact 31 (f := .glo "_law_due") rfl),
    He.glo_ok X G (d.fact 32 (f := .glo "_law_heard") rfl),
    He.glo_ok X G (d.fact 33 (f := .glo "_law_right") rfl),
    He.glo_ok X G (d.fact 34 (f := .glo "law") rfl),
    He.free_ok X G (d.fact 35 (f := .free "KeyError") rfl),
    He.free_ok X G (d.fact 36 (f := .free "TypeError") rfl),
    He.free_ok X G (d.fact 37 (f := .free "ValueError") rfl),
    He.free_ok X G (d.fact 38 (f := .free "abs") rfl),
    He.free_ok X G (d.fact 39 (f := .free "all") rfl),
    He.free_ok X G (d.fact 40 (f := .free "bool") rfl),
    He.free_ok X G (d.fact 41 (f := .free "classmethod") rfl),
    He.free_ok X G (d.fact 42 (f := .free "dict") rfl),
    He.free_ok X G (d.fact 43 (f := .free "int") rfl),
    He.free_ok X G (d.fact 44 (f := .free "isinstance") rfl),
    He.free_ok X G (d.fact 45 (f := .free "len") rfl),
    He.free_ok X G (d.fact 46 (f := .free "list") rfl),
    He.free_ok X G (d.fact 47 (f := .free "min") rfl),
    He.free_ok X G (d.fact 48 (f := .free "property") rfl),
    He.free_ok X G (d.fact 49 (f := .free "range") rfl),
    He.free_ok X G (d.fact 50 (f := .free "repr") rfl),
    He.free_ok X G (d.fact 51 (f := .free "sorted") rfl),
    He.free_ok X G (d.fact 52 (f := .free "str") rfl),
    He.free_ok X G (d.fact 53 (f := .free "super") rfl),
    He.free_ok X G (d.fact 54 (f := .free "tuple") rfl),
    He.str_ok X G (d.fact 55 (f := .str "LETTERS" "abcdefghijklmnopqrstuvwxyz") rfl),
    He.str_ok X G (d.fact 56 (f := .str "DIGITS" "0123456789") rfl),
    He.int_ok X G (d.fact 57 (f := .int "MOST_LETTERS" 8) rfl),
    He.int_ok X G (d.fact 58 (f := .int "MOST_DIGITS" 60) rfl),
    He.int_ok X G (d.fact 59 (f := .int "MOST_LEGS" 6) rfl),
    He.int_ok X G (d.fact 60 (f := .int "GREATEST_LEG" 4) rfl),
    d.def_ 0 (d := dD "is_integer" 11) rfl,
    d.def_ 1 (d := dD "is_whole" 12) rfl,
    d.def_ 2 (d := dD "is_name" 13) rfl,
    d.def_ 3 (d := dD "number_in" 14) rfl,
    d.def_ 4 (d := dD "terms_text" 18) rfl,
    d.def_ 5 (d := dD "word_at" 19) rfl,
    d.def_ 6 (d := dD "sign_at" 20) rfl,
    d.def_ 7 (d := dD "size_at" 21) rfl,
    d.def_ 8 (d := dD "terms_in" 22) rfl,
    d.def_ 9 (d := dD "strategy_in" 23) rfl,
    d.def_ 10 (d := dD "need_numbers" 24) rfl,
    d.def_ 11 (d := dD "without_zeros" 25) rfl,
    d.def_ 12 (d := dD "added" 26) rfl,
    d.def_ 13 (d := dD "are_strategy_legs" 29) rfl,
    d.def_ 14 (d := dD "_law_pen" 32) rfl,
    d.def_ 15 (d := dD "_law_draw" 33) rfl,
    d.def_ 16 (d := dD "_law_pick" 34) rfl,
    d.def_ 17 (d := dD "_law_terms" 35) rfl,
    d.def_ 18 (d := dD "_law_is_name" 36) rfl,
    d.def_ 19 (d := dD "_law_count" 37) rfl,
    d.def_ 20 (d := dD "_law_legs" 38) rfl,
    d.def_ 21 (d := dD "_law_words" 39) rfl,
    d.def_ 22 (d := dD "_law_spoiled" 40) rfl,
    d.def_ 23 (d := dD "_law_due" 41) rfl,
    d.def_ 24 (d := dD "_law_heard" 42) rfl,
    d.def_ 25 (d := dD "_law_right" 43) rfl,
    d.def_ 26 (d := dD "law" 44) rfl,
    c.dA 0 rfl,
    c.dA 1 rfl,
    c.dA 2 rfl,
    c.dA 3 rfl,
    c.dA 4 rfl,
    c.dA 5 rfl,
    c.dA 6 rfl,
    c.dA 7 rfl,
    c.dA 8 rfl,
    c.dA 9 rfl,
    c.dA 10 rfl,
    c.dA 11 rfl,
    c.dA 12 rfl,
    c.dA 13 rfl,
    c.dA 14 rfl,
    c.dA 15 rfl,
    c.dA 16 rfl,
    c.dA 17 rfl,
    c.dA 18 rfl,
    err_ok (P := prog) bfV z1 al (c.e.clo (List.mem_of_getElem? (i := 0) rfl)) it_InvalidLegs (by decide +kernel) ib_InvalidLegs,
    err_ok (P := prog) bfV z2 al (c.e.clo (List.mem_of_getElem? (i := 1) rfl)) it_InvalidStrategy (by decide +kernel) ib_InvalidStrategy,
    err_ok (P := prog) bfV z3 al (c.e.clo (List.mem_of_getElem? (i := 2) rfl)) it_InvalidText (by decide +kernel) ib_InvalidText,
    err_ok (P := prog) bfK z4 al (c.e.clo (List.mem_of_getElem? (i := 3) rfl)) it_UnknownName (by decide +kernel) ib_UnknownName,
    fun x hx => of_decide_eq_true (zr x hx).1, zt, fun x hx y hy => of_decide_eq_true (List.all_eq_true.mp (zr x hx).2 y hy),
    legB_ok (P := prog) zl al (c.e.clo (List.mem_of_getElem? (i := 4) rfl)) (by decide +kernel), stgB_ok zs⟩
theorem lawF {w : World} {h : Heap} {K : PySem.W.Frag} {mg : Str → Option Value} {f : Addr} (X : K.In h) (G : h.Ns mainGlobals mg) (hfa : mg ("law" : Str) = some (.ref f)) (c : SaysF fa fn [] tf cl da exB w h K) :
    ∃ fd : FuncData, (∀ (s : Shared) (v : Value), BindsTo s fd ⟨[v], []⟩ [("_law_script", v)]) ∧ ∀ base : Heap, K.In base → base.Ns mainGlobals mg → (∀ p ∈ tf.map (He.cT K), LamX.TabB base mg p.1 p.2) → FnG prog w K mg base CX0 12 f fd ["_law_script"] (spLaw K) := by
  have T := mkTxt X G c
  have e := hfa.symm.trans T.g_law
  cases e
  obtain ⟨fd, F⟩ := T.F_law
  exact ⟨fd, fun s v => FunD.bindsA (ps := ["_law_script"]) F (fun _ _ _ _ _ _ us hl => match us, hl with | [_], _ => rfl) s [v] rfl, fun base _ _ TB => ok_law T (fun p hp => TB _ (List.mem_map.mpr ⟨p, hp, rfl⟩)) F⟩
theorem tabs_start {K : PySem.W.Frag} {H : Hp} (hT : ∀ p ∈ tf.map (He.cT K), H p.2 = some (.tbl #[])) : Tabs (tabsT K) H := by
  intro e he
  have h : ∃ p ∈ tf.map (He.cT K), p.2 = e.1 := by
    have hm : e.1 ∈ (tabsT K).map (·.1) := List.mem_map.mpr ⟨e, he, rfl⟩
    have hm : e.1 ∈ (tf.map (He.cT K)).map (·.2) := hm
    obtain ⟨p, hp, e2⟩ := List.mem_map.mp hm
    exact ⟨p, hp, e2⟩
  obtain ⟨p, hp, e2⟩ := h
  exact LamX.TabS.nil (e2 ▸ hT p hp)
end Kx
open PySem PySem.W PySem.Calls PyProof.Rows
theorem PySem.Challenge.cw_wholelots_k07_whole_strategies_by_texts_holds : PySem.Challenge.rw_wholelots_k07_whole_strategies_by_texts.Holds := by
  w_on; o_law
  refine HandSHeadRun.head_any (r := OpenLaw.row PySem.Challenge.rw_wholelots_k07_whole_strategies_by_texts) (q := view (OpenLaw.row PySem.Challenge.rw_wholelots_k07_whole_strategies_by_texts).prog [44]) (H := Kx.hk) (ob := Kx.ob) (M := 12000) (loose := Kx.loose)
    (d := HandSHeadRun.topDef (OpenLaw.row PySem.Challenge.rw_wholelots_k07_whole_strategies_by_texts).prog 44) (kwd := []) Kx.ob_eq
    (by kernel_rfl) (fun s => by kernel_rfl) Kx.run (by kernel_rfl) (by kernel_rfl) (by kernel_rfl) (by rfl) (by first | assumption | decide +kernel) (by decide +kernel) ⟨rfl, rfl, rfl, rfl, rfl, by decide +kernel⟩ ?hw ?hc
  case hw => w_witness2
  case hc =>
    refine Xr.walkGT (l := PySem.Challenge.rw_wholelots_k07_whole_strategies_by_texts) (n := 63) (k := 12) (x := "_law_script") (CX := L2.CX0) rfl (by decide) (by kernel_rfl) ⟨rfl, by decide, by decide⟩ ?F (fun _ _ _ _ z => z)
    intro w mg fa h Y G hmg0
    obtain ⟨K, KX, c⟩ := Y
    have hmg : mg ("law" : PySem.Str) = some (.ref fa) := by
      have e : (HandSHeadRun.topDef (OpenLaw.row PySem.Challenge.rw_wholelots_k07_whole_strategies_by_texts).prog 44).name = ("law" : PySem.Str) := by kernel_rfl
      rw [← e]
      exact hmg0
    obtain ⟨fd, hb, hF⟩ := Kx.lawF (w := w) KX G hmg c
    exact ⟨K, fd, Kx.tf.map (He.cT K), Kx.spLaw K, KX, fun p hp => by obtain ⟨q, hq, rfl⟩ := List.mem_map.mp hp; exact c.e.x.empty q hq, fun p hp => by obtain ⟨q, hq, rfl⟩ := List.mem_map.mp hp; exact c.e.x.out q hq,
      fun p hp => by obtain ⟨q, hq, rfl⟩ := List.mem_map.mp hp; exact PySem.W.codeHd_of_K KX (c.e.x.hd q hq), hb, fun H a ns hl hT hS => ⟨a, ns, rfl, hS, hl, Kx.tabs_start hT, fun _ => rfl⟩, hF⟩
