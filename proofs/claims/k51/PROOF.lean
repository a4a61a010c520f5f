import PyProof.Rows.All
import Wide.All
import OpenK.AllK
import Wide.FinOn
import PyProof.ExcBaseAll.LookupError
import PyProof.ExcBaseAll.ValueError
import KE.KExcInit
import KE.KExcIs
import HandS.ForExc
import HandS.ForMost
import HandS.ExcInit
import HandS.ExcValue
import HandS.IsInst
import HandS.Defaults
import HandS.HotCalls
import KE.KTryMore
import KE.KStateDown
import Lean
import HandS.Head0
import HandS.Head1
import HandS.Head2
import HandS.HeadEnd
import HandS.HeadHook1
import HandS.HeadHook2
import PySem.Challenge.RW_causehall_k51_refusals_apart
import HandS.Wide
import HandS.DeepEq
import HandS.HeadHook4
set_option Elab.async false
set_option linter.all false
set_option maxRecDepth 100000
set_option maxHeartbeats 0
/-! Exceptions of one's own whose __init__ speaks to a family above it, over any built-in base. -/
namespace Xn
open PySem PySem.W PySem.Calls PyProof.Rows PySem.HandSPX
open Builtin Builtin.ObjectAttr
/-- what a built-in base must say: tl its line above, B the maker's owner, Bi the owner of its __init__ -/
structure BaseX (tl : List Value) (B newId Bi initId : String) : Prop where
  nf : ∃ i b, ExcBaseFacts B newId i b
  hasB : tl.contains (.type B) = true
  hasI : tl.contains (.type Bi) = true
  noA : tl.contains (.type "AttributeError") = false
  noN : tl.contains (.type "NameError") = false
  obj : tl.contains (.type "object") = true
  pass : ∀ z, refuseLoop z "__setattr__" tl = pure ()
  iSlot : Slot Bi "__init__" initId
  iEntry : entryFor table initId = some Builtin.«BaseException.__init__»
  iSplit : splitId initId = some (Bi, "__init__")
  iKind : builtinKind initId = some .slot
  iRow : Manifest.signature? initId =
    some ⟨.positional, "*", Bi, .self, [⟨"args", .varPos, false⟩]⟩
  iStar : (Bi != "*") = true
abbrev vTail : List Value :=
  [.type "ValueError", .type "Exception", .type "BaseException", .type "object"]
abbrev lTail : List Value :=
  [.type "LookupError", .type "Exception", .type "BaseException", .type "object"]
abbrev kTail : List Value := .type "KeyError" :: lTail
theorem base_v : BaseX vTail "ValueError" "ValueError.__new__" "ValueError" "ValueError.__init__" :=
  ⟨⟨_, _, F.excBase_ValueError⟩, by decide +kernel, by decide +kernel, by decide +kernel,
    by decide +kernel, by decide +kernel, fun z => by kernel_rfl, F.excBase_ValueError.init,
    F.excBase_ValueError.initEntry, F.excBase_ValueError.initSplit, F.excBase_ValueError.initKind,
    F.excBase_ValueError.initRow, F.excBase_ValueError.noStar⟩
theorem base_l : BaseX lTail "LookupError" "LookupError.__new__" "LookupError" "LookupError.__init__" :=
  ⟨⟨_, _, F.excBase_LookupError⟩, by decide +kernel, by decide +kernel, by decide +kernel,
    by decide +kernel, by decide +kernel, fun z => by kernel_rfl, F.excBase_LookupError.init,
    F.excBase_LookupError.initEntry, F.excBase_LookupError.initSplit, F.excBase_LookupError.initKind,
    F.excBase_LookupError.initRow, F.excBase_LookupError.noStar⟩
theorem ky_slot : Slot "KeyError" "__init__" "KeyError.__init__" :=
  .of (owner := "KeyError") (n := "__init__")
    (by rw [typeLookup_type, builtinLookup_eq_fast]; kernel_rfl)
    (by decide +kernel) (by decide +kernel) (by decide +kernel)
    (by first | exact .inl (by decide +kernel) | exact .inr (by decide +kernel))
    (by rw [isSubtype_type]; kernel_rfl)
theorem ky_entry : entryFor table "KeyError.__init__" = some Builtin.«BaseException.__init__» :=
  entryFor_alias (id' := "BaseException.__init__")
    (by rw [fastTable_eq_tree]; kernel_rfl) (by first | rfl | decide +kernel)
    (by decide +kernel) (by rw [fastTable_eq_tree]; kernel_rfl)
theorem base_k : BaseX kTail "LookupError" "LookupError.__new__" "KeyError" "KeyError.__init__" where
  nf := ⟨_, _, F.excBase_LookupError⟩
  hasB := by decide +kernel
  hasI := by decide +kernel
  noA := by decide +kernel
  noN := by decide +kernel
  obj := by decide +kernel
  pass := fun z => by kernel_rfl
  iSlot := ky_slot
  iEntry := ky_entry
  iSplit := by kernel_rfl
  iKind := by kernel_rfl
  iRow := by kernel_rfl
  iStar := by decide +kernel

section
variable {h : Heap} {g : Array GenState} {d : Drawn} {t : Nat} {os : OsState}
variable {nm q : Str} {C N : Addr} {bs bm tl : List Value} {hdct ab : Bool} {sn : List Str}
variable {sub : List Value} {col : Option Bool} {dd : Option Addr} {k0 k1 k2 k3 k5 : Option Value}
variable {B newId Bi initId : String}
/-- the maker's check lets the class through -/
theorem new_check {M : Model} {A : Around} {E : Value → Shared → Prop} (X : BaseX tl B newId Bi initId) (ht : excTail tl bm = true)
    {ws : List Value} {kw : List (Str × Value)} {Q : Unit → Shared → Prop}
    (hC : h.get? C = some (excClassObj nm q C N bs bm hdct sn sub ab col dd k0 k1 k2 k3 k5 newId))
    (hq : Q () ⟨h, g, d, t, os⟩) :
    wpAny M A (checkBuiltinCall newId ⟨.ref C :: ws, kw⟩) Q E ⟨h, g, d, t, os⟩ := by
  obtain ⟨i, b, F⟩ := X.nf
  have c1 : (Value.ref C :: bm).contains (.type B) = true := by
    rw [List.contains_cons, excTail_contains B bm ht, X.hasB, Bool.or_true]
  have c2 := F.noStar
  simp only [checkBuiltinCall, F.newKind, F.newSplit, F.newRow]
  repeat (first
    | refine wpAny_loadPart_at hC ?_
    | (refine wpAny_isSubtype_exc hC ?_; rw [c1])
    | refine wpAny_staticBase_exc hC ?_
    | refine wpAny_madeBy_exc hC ?_
    | simp only [bne_self_eq_false, Bool.false_eq_true, if_false]
    | wp_step)
  exact hq
/-- and so does the check of __init__ -/
theorem init_check {M : Model} {A : Around} {E : Value → Shared → Prop} (X : BaseX tl B newId Bi initId) (ht : excTail tl bm = true)
    {e : Addr} {oe : Obj} {ws : List Value} {Q : Unit → Shared → Prop}
    (hC : h.get? C = some (excClassObj nm q C N bs bm hdct sn sub ab col dd k0 k1 k2 k3 k5 newId))
    (he : h.get? e = some oe) (hc : oe.cls = .ref C) (hq : Q () ⟨h, g, d, t, os⟩) :
    wpAny M A (checkBuiltinCall initId ⟨.ref e :: ws, []⟩) Q E ⟨h, g, d, t, os⟩ := by
  have c1 : (Value.ref C :: bm).contains (.type Bi) = true := by
    rw [List.contains_cons, excTail_contains Bi bm ht, X.hasI, Bool.or_true]
  have c2 := X.iStar
  simp only [checkBuiltinCall, X.iKind, X.iSplit, X.iRow]
  repeat (first
    | (with_reducible refine wpAny_loadPart_at he ?_; rw [hc])
    | with_reducible refine wpAny_loadPart_at hC ?_
    | (with_reducible refine wpAny_isSubtype_exc hC ?_; rw [c1])
    | wp_step)
  refine wpAny_onRaise ?_
  have z : ∀ (a b : String) (n : Nat),
      Bind.check ⟨.positional, "*", Bi, .self, [⟨"args", .varPos, false⟩]⟩ a b n
        (List.map (fun x => x.fst) ({ pos := Value.ref e :: ws } : Args).kw) = pure () :=
    fun a b n => check_star_args _ _ _ _ _ _
  rw [z]
  exact wpAny_pure hq
end

section
variable {prog : Program} {w : World} {A : Around} {E : Value → Shared → Prop} {R : Result → Shared → Prop}
variable {h : Heap} {g : Array GenState} {d : Drawn} {t : Nat} {os : OsState}
variable {nm q : Str} {C N : Addr} {bs bm tl : List Value} {hdct ab : Bool} {sn : List Str}
variable {sub : List Value} {col : Option Bool} {dd : Option Addr} {k0 k1 k2 k3 k5 : Option Value}
variable {B newId Bi initId : String}
/-- the maker -/
theorem new_run (X : BaseX tl B newId Bi initId) (ht : excTail tl bm = true) {ws : List Value} {kw : List (Str × Value)}
    (hC : h.get? C = some (excClassObj nm q C N bs bm hdct sn sub ab col dd k0 k1 k2 k3 k5 newId))
    (hz : ws.length ≤ sizeLine)
    (hq : R (.ok (.ret (.ref (h.objs.size + 1))))
      ⟨(h.push (kdv_tup ws)).push (excO C h.objs.size), g, d, t, os⟩) :
    codeAny (model prog w) A (.builtin newId ⟨.ref C :: ws, kw⟩) R ⟨h, g, d, t, os⟩ := by
  obtain ⟨i, b, F⟩ := X.nf
  have e1 := F.ends
  have c1 : (Value.ref C :: bm).contains (.type B) = true := by
    rw [List.contains_cons, excTail_contains B bm ht, X.hasB, Bool.or_true]
  have c2 : (Value.ref C :: bm).contains (.type "AttributeError") = false := by
    rw [List.contains_cons, excTail_contains _ bm ht, X.noA]; rfl
  have c3 : (Value.ref C :: bm).contains (.type "NameError") = false := by
    rw [List.contains_cons, excTail_contains _ bm ht, X.noN]; rfl
  refine codeAny_builtinAt F.entry ?_
  unfold Builtin.«BaseException.__new__»
  refine PySem.wpAt_bind ?_
  show PySem.wpAt _ _ _ (stack >>= _) _ _ _
  refine PySem.wpAt_bind (PySem.wpAt_stack fun p below => PySem.wpAt_of_wpAny ?_)
  wp_walk
  refine PySem.wpAt_of_wpAny ?_
  rw [F.owner]
  repeat (first
    | with_reducible refine wpAny_madeHere_exc F.canon hC ?_
    | with_reducible refine wpAny_loadPart_at hC ?_
    | (with_reducible refine wpAny_isSubtype_exc hC ?_; first | rw [c1] | rw [c2] | rw [c3])
    | wp_step)
  show R _ _
  rw [Heap.size_push]
  exact hq
/-- type.__call__'s own check, keywords too -/
theorem call_check {M : Model} {ws : List Value} {kw : List (Str × Value)} {Q : Unit → Shared → Prop}
    (hC : h.get? C = some (excClassObj nm q C N bs bm hdct sn sub ab col dd k0 k1 k2 k3 k5 newId))
    (hq : Q () ⟨h, g, d, t, os⟩) :
    wpAny M A (checkBuiltinCall "type.__call__" ⟨.ref C :: ws, kw⟩) Q E ⟨h, g, d, t, os⟩ := by
  have f1 := tc_sub
  have f2 : (⟨h, g, d, t, os⟩ : Shared).TypeIs (.ref C) "type" := ⟨_, hC, rfl⟩
  simp only [checkBuiltinCall, tc_kind, tc_split]
  repeat (any_goals (first
    | assumption
    | with_reducible refine wpAny_loadPart_at hC ?_
    | with_reducible refine wpAny_onRaise ?_
    | with_reducible refine wpAny_map ?_
    | wp_step))
/-- type's call of such a class whose __init__ is fv -/
theorem type_call (X : BaseX tl B newId Bi initId) (ht : excTail tl bm = true) {ws : List Value} {kw : List (Str × Value)}
    {fv : Value} {Q : Fin → Shared → Prop}
    (hC : h.get? C = some (excClassObj nm q C N bs bm hdct sn sub ab col dd k0 k1 k2 k3 k5 newId))
    (hi : W.Looks (model prog w) h (typeLookup (.ref C) "__init__") (some fv))
    (hb : ∀ z, W.Looks (model prog w) h (bindSpecial fv z) (fv, [z]))
    (hz : ws.length ≤ sizeLine)
    (hq : codeAny (model prog w) A (.call fv ⟨.ref (h.objs.size + 1) :: ws, kw⟩)
      (fun r s' => match r with
        | .ok (.ret v) => v = .none ∧ Q (.done (.ret (.ref (h.objs.size + 1)))) s'
        | .ok _ => False
        | .error e => E e s')
      ⟨(h.push (kdv_tup ws)).push (excO C h.objs.size), g, d, t, os⟩) :
    wpAny (model prog w) A (Builtin.«type.__call__» ⟨.ref C :: ws, kw⟩) Q E ⟨h, g, d, t, os⟩ := by
  obtain ⟨i, b, F⟩ := X.nf
  repeat (first
    | with_reducible refine wpAny_loadPart_at hC ?_
    | with_reducible refine wpAny_madeBy_exc hC ?_
    | wp_step)
  refine codeAny_call_builtin_code (Code.quiet_builtin _ F.quiet) (new_check X ht hC ?_)
  refine new_run X ht hC hz ?_
  show wpAny _ _ _ _ _ _
  have k : ∀ a o, h.get? a = some o → ((h.push (kdv_tup ws)).push (excO C h.objs.size)).get? a = some o :=
    fun a o z => Heap.get?_push_of_some _ (Heap.get?_push_of_some _ z)
  have hC2 := k _ _ hC
  have he : ((h.push (kdv_tup ws)).push (excO C h.objs.size)).get? (h.objs.size + 1) =
    some (excO C h.objs.size) := by heap_get
  have cc : (Value.ref C :: bm).contains (.ref C) = true := by simp
  have i1 := hi.keeps k
  have b1 := (hb (.ref (h.objs.size + 1))).keeps k
  unfold isInstance
  repeat (first
    | with_reducible refine wpAny_loadPart_at he ?_
    | (with_reducible refine wpAny_isSubtype_exc hC2 ?_; rw [cc])
    | wp_step)
  show wpAny _ _ (typeLookup (.ref C) _) _ _ _
  refine i1.at ?_
  refine wpAny_holding (wpAny_bind (b1.at ?_))
  refine wpAny_bind (wpAny_call (codeAny_mono hq fun r s' z => ?_))
  rcases r with e | (v | _ | _ | _) <;> first | exact z | exact z.elim | skip
  obtain ⟨rfl, z⟩ := z
  first
    | exact wpAny_pure (wpAny_pure z)
    | (wp_walk; exact z)
theorem call_made (X : BaseX tl B newId Bi initId) (ht : excTail tl bm = true) {ws : List Value} {kw : List (Str × Value)} {fv : Value}
    (hC : h.get? C = some (excClassObj nm q C N bs bm hdct sn sub ab col dd k0 k1 k2 k3 k5 newId))
    (hi : W.Looks (model prog w) h (typeLookup (.ref C) "__init__") (some fv))
    (hb : ∀ z, W.Looks (model prog w) h (bindSpecial fv z) (fv, [z]))
    (hz : ws.length ≤ sizeLine)
    (hq : codeAny (model prog w) (A.under (.builtin "type.__call__" ⟨.ref C :: ws, kw⟩))
      (.call fv ⟨.ref (h.objs.size + 1) :: ws, kw⟩) (W.InitBack (h.objs.size + 1) R)
      ⟨(h.push (kdv_tup ws)).push (excO C h.objs.size), g, d, t, os⟩) :
    codeAny (model prog w) A (.call (.ref C) ⟨ws, kw⟩) R ⟨h, g, d, t, os⟩ := by
  have f1 := tc_lookup
  have f2 := tc_bind (.ref C)
  have f3 : (⟨h, g, d, t, os⟩ : Shared).TypeIs (.ref C) "type" := ⟨_, hC, rfl⟩
  refine codeAny_of_tree ?_
  show wpAny _ _ (callAny (.ref C) _) _ _ _
  repeat (any_goals (first
    | assumption
    | with_reducible refine wpAny_loadPart_at hC ?_
    | wp_step))
  refine ⟨rfl, ?_⟩
  refine codeAny_call_builtin_at (Code.quiet_builtin _ (by decide +kernel)) entry_typeCall
    (call_check hC (type_call X ht hC hi hb hz ?_))
  refine codeAny_mono hq fun r s' z => ?_
  rcases r with e | (v | _ | _ | _) <;> exact z
/-- the built-in __init__ on a fresh one: its args are laid anew -/
theorem init_run (X : BaseX tl B newId Bi initId) (ht : excTail tl bm = true) {e t0 : Addr} {ws : List Value}
    (hC : h.get? C = some (excClassObj nm q C N bs bm hdct sn sub ab col dd k0 k1 k2 k3 k5 newId))
    (he : h.get? e = some (excO C t0)) (hz : ws.length ≤ sizeLine)
    (hq : ∀ h' t1, (∀ a o, a ≠ e → h.get? a = some o → h'.get? a = some o) →
      h'.get? e = some (excO C t1) → R (.ok (.ret .none)) ⟨h', g, d, t, os⟩) :
    codeAny (model prog w) A (.call (.builtin initId) ⟨.ref e :: ws, []⟩) R ⟨h, g, d, t, os⟩ := by
  refine codeAny_call_builtin X.iSlot.plain X.iEntry (init_check X ht hC he rfl ?_)
  wp_walk
  refine hq _ h.objs.size (fun a o ha ho => ?_) ?_
  · rw [Heap.get?_update_other _ _ (Ne.symm ha)]
    exact Heap.get?_push_of_some _ ho
  · rw [Heap.get?_update_self _ (Heap.get?_push_of_some _ he) rfl]
    rfl
/-- a first field of a fresh one -/
theorem osa_first {K : W.Frag} {name : Str} {tk : Tok} {v : Value} {x : Addr} {fv : Array Value} {cd : ClassData}
    (X : BaseX tl B newId Bi initId) (KX : K.In h)
    (hx : h.get? x = some { cls := .ref C, data := .fields fv })
    (hcd : W.clsIn K C = some cd) (hm : excTail tl cd.mro = true) (hh : cd.hasDict = true)
    (hno : W.findIn K (.ref C) name = some none)
    (hq : ∀ h' tk' dx, (∀ a o, a ≠ x → h.get? a = some o → h'.get? a = some o) → h.objs.size ≤ dx → dx ≠ x →
      h'.get? x = some { cls := .ref C, dict := some dx, data := .fields fv } →
      h'.Ns1 dx (fun y => if y = name then some v else none) → R (.ok (.ret .none)) ⟨h', g, d, tk', os⟩) :
    codeAny (model prog w) A (.call (.builtin "object.__setattr__") ⟨[.ref x, .str name tk, v], []⟩) R
      ⟨h, g, d, t, os⟩ := by
  have I : W.InstAt h x { cls := .ref C, data := .fields fv } C none := ⟨hx, rfl, rfl, trivial⟩
  have SF := F.store_object
  have hob : cd.mro.contains (.type "object") = true := (excTail_contains "object" _ hm).trans X.obj
  have ne : cd.mro.isEmpty = false := by
    cases z : cd.mro with
    | nil => rw [z] at hob; cases hob
    | cons _ _ => rfl
  have hxs : x ≠ h.objs.size := Nat.ne_of_lt (Heap.lt_size hx)
  have sub : W.Looks (model prog w) h (isInstance (.ref x) (.type "object")) true :=
    I.type.andThen (W.looks_mroIn KX
      (by unfold W.mroIn; rw [hcd, Option.bind_some, if_neg (by rw [ne]; decide), hob]))
  refine codeAny_call_builtin SF.slot.plain SF.entry
    (@W.check_slot (model prog w) _ _ ⟨h, g, d, t, os⟩ "object.__setattr__" "object" "__setattr__"
      (.ref x) [.str name tk, v] [] _ SF.kind SF.split sub (SF.args (.ref x) (.str name tk) v) ?_)
  have hmr : W.Looks (model prog w) h (mroOf (.ref C)) cd.mro := (W.looks_clsIn KX hcd).andThen .now
  have L3 : W.Looks (model prog w) h (storeTaker? none) none := .now
  have hcls : W.Looks (model prog w) h (classData C) cd := W.looks_clsIn KX hcd
  rw [W.osa_eq, refuse_eq]
  refine wpAny_bind (wpAny_bind (I.type.at (wpAny_bind (hmr.at ?_))))
  rw [excTail_pass _ (X.pass _) _ hm]
  refine wpAny_pure (wpAny_bind (I.type.at (wpAny_bind ((W.looks_findIn KX hno).at (wpAny_bind (L3.at ?_))))))
  show wpAny _ _ (storeInOwnDict (.ref x) (.ref C) (.str name tk) name v false) _ _ _
  obtain ⟨nm, bs, mro, ns, qn, hd, sn, sb, ab, col, del⟩ := cd
  dsimp only at hh
  subst hh
  unfold storeInOwnDict ownDictForStores
  repeat (first
    | with_reducible refine store_in_new ?_ ?_
    | with_reducible refine wpAny_loadPart_at hx ?_
    | with_reducible refine hcls.at ?_
    | wp_step)
  · exact ⟨_, #[], _, (Heap.get?_update_ne _ _ _ _ hxs.symm).trans (Heap.get?_push_at rfl rfl), rfl,
      fun e he => absurd he (by simp), fun _ => rfl⟩
  · intro h' tk' hn' hs
    have hx1 : (h.push { cls := .type "dict", data := .dict #[] }).get? x =
      some { cls := .ref C, data := .fields fv } := Heap.get?_push_of_some _ hx
    refine hq h' tk' h.objs.size (fun a o ha ho => ?_) (Nat.le_refl _) hxs.symm ?_ hn'
    · exact (hs.2 a (Nat.ne_of_lt (Heap.lt_size ho))).trans
        ((Heap.get?_update_ne _ _ _ _ ha).trans (Heap.get?_push_of_some _ ho))
    · exact (hs.2 x hxs).trans (Heap.get?_update_self _ hx1 rfl)
end
end Xn
/-! The rules of the layer for such exceptions: made and held, their fields, isinstance, a family's __init__. -/
namespace Xn
open PySem PySem.Spec PyProof.Rows L2
/-- what the written part says of an exception class of one's own; initId: what its line's __init__ is -/
structure XC (K : PySem.W.Frag) (C : Addr) (initId : String) : Prop where
  cls : ∃ tl B newId Bi nm q N bs bm sn sub ab col dd k0 k1 k2 k3 k5, BaseX tl B newId Bi initId ∧
    K.lookup C = some (excClassObj nm q C N bs bm true sn sub ab col dd k0 k1 k2 k3 k5 newId) ∧
    PySem.W.excTail tl bm = true
  sa : PySem.W.findIn K (.ref C) "__setattr__" = some (some (.builtin "object.__setattr__"))
  exC : PySem.W.subIn K (.ref C) (.type "BaseException") = some true
  tyC : PySem.W.typeIn K (.ref C) = some (.type "type")
  kC : PySem.W.keepIn K (.ref C) = true
  ga : PySem.W.findIn K (.ref C) "__getattribute__" = some (some (.builtin "BaseException.__getattribute__"))
  gg : PySem.W.findIn K (.ref C) "__getattr__" = some none
  ca : PySem.W.findIn K (.ref C) "__class__" = some (some (.builtin "object.__class__"))
  cg : PySem.W.specialIn K (.builtin "object.__class__") "__get__" = some (some (.builtin "getset_descriptor.__get__"))
  ct : PySem.W.takesIn K (.builtin "object.__class__") = some true
  ob : PySem.W.mroIn K C (.type "object") = some true
theorem XC.hd {K : PySem.W.Frag} {C : Addr} {i : String} (T : XC K C i) : PySem.W.hasDictIn K C = true := by
  obtain ⟨tl, B, newId, Bi, nm, q, N, bs, bm, sn, sub, ab, col, dd, k0, k1, k2, k3, k5, Y, hC, hb⟩ := T.cls
  unfold PySem.W.hasDictIn PySem.W.clsIn
  rw [hC]
  rfl
theorem XC.so {K : PySem.W.Frag} {C : Addr} {i : String} (T : XC K C i) : (PySem.W.clsIn K C).isSome = true := by
  obtain ⟨tl, B, newId, Bi, nm, q, N, bs, bm, sn, sub, ab, col, dd, k0, k1, k2, k3, k5, Y, hC, hb⟩ := T.cls
  unfold PySem.W.clsIn
  rw [hC]
  rfl
theorem one_line (v : Value) : [v].length ≤ sizeLine := by
  rw [sizeLine_eq]
  exact (by decide : 1 ≤ 16777216)
section
variable {X : Cx} {pins : List (Addr × Obj)} {σ : L2.St} {H : Hp} {s : Shared} {a C dx : Addr} {f : Str}
variable {y : V} {u : Value} {fs : List (Str × V)} {E : Value → Shared → Prop} {A : Around} {i : String}
/-- self.f = y, the first field -/
theorem store_first {Q : Unit → Shared → Prop} (T : XC X.K C i) (I : Inv X pins σ H s) (e : H a = some (exo a C none))
    (hno : PySem.W.findIn X.K (.ref C) f = some none) (ry : RelV y u)
    (h : ∀ dx s', H dx = none → dx ≠ a →
      Inv X pins σ (upd (upd H dx (exd dx [(f, y)])) a (exo a C (some dx))) s' → Q () s') :
    wpAny (model X.prog X.w) A (setAttr (.ref a) f u) Q E s := by
  obtain ⟨tl, B, newId, Bi, nm, q, N, bs, bm, sn, sub, ab, col, dd, k0, k1, k2, k3, k5, Y, hC, hb⟩ := T.cls
  have hcl : PySem.W.clsIn X.K C = some
      { name := nm, bases := bs, mro := .ref C :: bm, ns := N, qualname := q, hasDict := true,
        slotNames := sn, subclasses := sub, abstract := ab, collection := col, hasDel := false } := by
    unfold PySem.W.clsIn
    rw [hC] <;> rfl
  obtain ⟨t1, ho⟩ := exo_at I.hok e
  obtain ⟨hp, g, d, t, os⟩ := s
  refine PySem.W.set_plain I.kIn
    (ox := { cls := .ref C, data := .fields #[.ref t1, .none, .none, .none, .bool false, .none] }) (od := none)
    ⟨ho, rfl, rfl, trivial⟩ T.sa ?_
  refine osa_first Y I.kIn ho hcl (show PySem.W.excTail tl (.ref C :: bm) = true from hb) rfl hno
    (fun h' tk' dx k dn dne hx hn => ?_)
  have hnd : H dx = none := I.hok.fresh dn
  refine h dx _ hnd dne ?_
  have k1 : ∀ b o, b ≠ a → hp.get? b = some o → h'.get? b = some o := k
  have hd1 : h'.get? a = some ({ cls := .ref C, dict := some dx, data := .fields #[.ref t1, .none, .none, .none, .bool false, .none] } : Obj) := hx
  have rel : ∀ g, RelO (([(f, y)] : List (Str × V)).lookup g) (if g = f then some u else none) := fun g =>
    relO_put (fs := []) (mA := fun _ => none) ry (fun _ => True.intro) g
  have na : a < hp.objs.size := Heap.lt_size ho
  -- all the objects but a are kept; dx is new
  have U : Un X.fs [] H (upd (upd H dx (exd dx [(f, y)])) a (exo a C (some dx))) hp h' := {
    keep := fun b o z n _ _ => k1 b o (fun w => by rw [w, e] at n; cases n) z
    slot := fun b o z n _ _ => ⟨o.slots, k1 b o (fun w => by rw [w, e] at n; cases n) z⟩
    free := fun b o z n _ => by
      rw [upd_ne (fun w => by rw [w, e] at n; cases n),
        upd_ne (Nat.ne_of_lt (Nat.lt_of_lt_of_le (Heap.lt_size z) dn))]
      exact n
    there := fun b o z _ => by
      by_cases w : b = a
      · rw [w]; exact ⟨_, hd1⟩
      · exact ⟨o, k1 b o w z⟩
    tups := fun b xs z => by
      rw [upd_ne (at_ne e z exo_tup), upd_ne (ne_of_none z hnd)]
      exact z
    frzs := fun b o v z => by
      have ne : b ≠ a := fun w => by
        rw [w, e] at z
        have z' : HO.ext _ = HO.frz o v := Option.some.inj z
        cases z'
      rw [upd_ne ne, upd_ne (ne_of_none z hnd)]
      exact z
    tbls := fun b ps z => ⟨#[], by
      rw [upd_ne (at_ne e z exo_tbl), upd_ne (ne_of_none z hnd), z]
      simp⟩ }
  have hok : HOk X.prog X.w (upd (upd H dx (exd dx [(f, y)])) a (exo a C (some dx))) h' := fun b o z => by
    by_cases hba : b = a
    · subst hba
      rw [upd_same] at z
      cases z
      exact exo_ok hd1
    · rw [upd_ne hba] at z
      by_cases hbd : b = dx
      · subst hbd
        rw [upd_same] at z
        cases z
        exact exd_ok hn rel
      · rw [upd_ne hbd] at z
        refine (I.hok b o z).stay (fun c v hc w => k1 c v ?_ w) (fun c w => ?_) fun c xs w => ?_
        · rcases hc with hc | hc
          · rw [hc]; exact hba
          · exact at_ne e hc exo_own
        · rw [upd_ne (at_ne e w exo_own), upd_ne (ne_of_none w hnd)]; exact w
        · rw [upd_ne (at_ne e w exo_tup), upd_ne (ne_of_none w hnd)]; exact w
  exact I.un (t' := tk') U hok
/-- the family's __init__ on a fresh one: nothing of it is told -/
theorem fam_ok {us : List Value} {Q : Value → Shared → Prop} (T : XC X.K C i) (I : Inv X pins σ H s)
    (e : H a = some (exo a C none)) (hl : us.length ≤ sizeLine) (h : ∀ s', Inv X pins σ H s' → Q .none s') :
    wpAny (model X.prog X.w) A (call (.builtin i) (.ref a :: us)) Q E s := by
  obtain ⟨tl, B, newId, Bi, nm, q, N, bs, bm, sn, sub, ab, col, dd, k0, k1, k2, k3, k5, Y, hC, hb⟩ := T.cls
  obtain ⟨t1, ho⟩ := exo_at I.hok e
  obtain ⟨hp, g, d, t, os⟩ := s
  refine wpAny_call (init_run Y hb (I.kIn _ _ hC) ho hl fun h' t2 k hx => ?_)
  have J := I.write (t' := t) (x := a) (e := a) (o := exo a C none) (by rw [e]; exact True.intro) (.inl rfl) k
    ⟨_, hx⟩ (exo_ok hx)
  have eu : upd H a (exo a C none) = H := by
    funext b
    by_cases hb : b = a
    · rw [hb, upd_same, e]
    · rw [upd_ne hb]
  rw [eu] at J
  exact h _ J
end

/-! ### readings and rules -/
/-- F.__init__(self, ..), F a family -/
def tFam (K : PySem.W.Frag) (i : String) (ta : TA) : TE := fun σ H Q => ta σ H fun vs H1 =>
  ∃ (a C : Addr) (ws : List V), vs = .ref a :: ws ∧ ws.length ≤ 1000 ∧ XC K C i ∧ H1 a = some (exo a C none) ∧ Q .non H1
/-- what F says of its __init__ -/
structure FamC (K : PySem.W.Frag) (D : Addr) (i : String) : Prop where
  rd : PySem.W.readsIn K D (.type "type") = true
  sp : PySem.W.specialIn K (.ref D) "__getattribute__" = some (some (.builtin "type.__getattribute__"))
  hd : PySem.W.handedIn (.builtin i) = true
  vl : PySem.W.findCls K (.ref D) (.type "type") "__init__" = some (.val (.builtin i))
/-- o.f = e, o a fresh exception of one's own -/
def tStX (K : PySem.W.Frag) (f : Str) (to te : TE) : TS := fun D σ H => te σ H fun y H1 => to σ H1 fun x H2 =>
  ∃ (a C : Addr) (i : String), x = .ref a ∧ XC K C i ∧ PySem.W.findIn K (.ref C) f = some none ∧
    H2 a = some (exo a C none) ∧
    ∀ dx, H2 dx = none → dx ≠ a → D.nx σ (upd (upd H2 dx (exd dx [(f, y)])) a (exo a C (some dx)))
/-- the promise of such an __init__ -/
def spI (C : Addr) (fld : Str) : Sp := fun vs H Q _ => ∃ (a : Addr) (v : V), vs = [.ref a, v] ∧
  H a = some (exo a C none) ∧
  ∀ d, H d = none → d ≠ a → Q .non (upd (upd H d (exd d [(fld, v)])) a (exo a C (some d)))
/-- C(e): a new exception that bears e -/
def tNewX (C : Addr) (fld : Str) (ta : TA) : TE := fun σ H Q => ta σ H fun vs H1 => ∃ v, vs = [v] ∧
  ∀ a d, H1 a = none → H1 d = none → d ≠ a →
    Q (.ref a) (upd (upd H1 d (exd d [(fld, v)])) a (exo a C (some d)))
/-- o.f of such an exception (told, or held still) -/
def tXf (K : PySem.W.Frag) (f : Str) (te : TE) : TE := fun σ H Q => te σ H fun x H1 =>
  ∃ (a C d : Addr) (i : String) (fs : List (Str × V)) (v : V), x = .ref a ∧ XC K C i ∧ Rd H1 a (exo a C (some d)) ∧
    H1 d = some (exd d fs) ∧ PySem.W.findIn K (.ref C) f = some none ∧ fs.lookup f = some v ∧ Q v H1
/-- what isinstance asks of an exception of one's own at a: its class; with its dict, without, or held still while another's suite runs -/
inductive ExA (K : PySem.W.Frag) (H : Hp) (a C : Addr) : Prop where
  | own {d : Addr} {fs : List (Str × V)} (h : Rd H a (exo a C (some d))) (hd : H d = some (exd d fs))
  | bare (h : H a = some (ExO (.ref C) a))
  | held {o : Obj} {d : Addr} {φ : Heap → Prop} {fs : List (Str × V)} (h : H a = some (.frz o (.ext φ))) (hc : o.cls = .ref C)
      (hv : ∃ vs, o.data = .fields vs) (ho : o.dict = some d) (hd : H d = some (.xd fs))
/-- isinstance(e, c), e such an exception -/
def rIsX (K : PySem.W.Frag) : List V → Hp → VK → Prop := fun xs H Q =>
  ∃ (a C : Addr) (i : String) (c : V) (u : Value) (b : Bool), xs = [.ref a, c] ∧ ClsV c u ∧ XC K C i ∧ ExA K H a C ∧
    PySem.W.kitOne K (.ref C) u = some b ∧ Q (.bl b) H
section
variable {X : Cx} {o e : Expr} {es : List Expr} {to te : TE} {ta tk : TA} {f F x : Str} {p p' p1 p2 pos : Pos}
variable {i : String} {C fI : Addr} {fd : FuncData} {k : Nat} {par : Str}
theorem pe_fam {D : Addr} {pl : Sem Bool} (hg : Gl X F) (hm : X.mg F = some (.ref D)) (c : FamC X.K D i) (ha : PA X (e :: es) ta)
    (hdb : (F == ("__debug__" : Str)) = false := by decide)
    (hc : eval (.Call (.Attribute (.Name F p1) "__init__" p2) (e :: es) [] pos) X.env = (do
      let ov ← eval (.Name F p1) X.env
      standAt p2.atName
      let (f, first) ← holding [ov] (getMethod ov "__init__" pl)
      callWith pos f first (backTo pos (starEach (e :: es) X.env)) (backToKw pos (keywordEach [] X.env))) := by rfl)
    (he : starEach (e :: es) X.env = (false, eval e X.env) :: starEach es X.env := by rfl)
    (hpl : (backTo pos (starEach es X.env)).any (·.1) = false := by rfl) :
    PE X (.Call (.Attribute (.Name F p1) "__init__" p2) (e :: es) [] pos) (tFam X.K i ta) := by
  refine ⟨fun pins s σ H Q I h => ?_⟩
  refine PySem.W.methodCall_KW (ld_glob I hg hm ?_ hdb) hc
  refine PySem.W.method_cls I.kIn c.sp (PySem.W.cls_value I.kIn c.rd c.vl c.hd ?_)
  show wpAny _ _ (callWith pos (Value.builtin i) [] (backTo pos (starEach (e :: es) X.env)) []) _ _ _
  refine PyProof.Rows.callWith_method1 (thn (ha.run pos pins _ σ H _ (I.tok _) h)
    fun us s1 ⟨vs, H1, I1, r1, a, C, ws, ev, hl, T, ea, q⟩ => ?_) he hpl
  subst ev
  cases r1 with
  | @cons _ u0 _ ur ra rw' =>
    obtain rfl : u0 = Value.ref a := ra
    have hlen : ur.length ≤ sizeLine := by
      rw [← Paired.length rw', sizeLine_eq]
      omega
    exact fam_ok T I1 ea hlen fun s' J => ⟨.non, H1, J, rfl, q⟩
theorem ps_stX (ho : PE X o to) (he : PE X e te)
    (hs : swapsWith e (some (.Attribute o f p')) pos.line X.env = pure false := by rfl) :
    PS X (.Assign [.Attribute o f p'] e pos) (tStX X.K f to te) := by
  refine ⟨fun pins s σ H D I h => ?_⟩
  refine plainObj_wpAny_Assign_Attribute (thn (he.run pins s σ H _ I h) fun v s1 ⟨y, H1, I1, r1, q1⟩ =>
    thn (ho.run pins s1 σ H1 _ I1 q1) fun u s2 ⟨x, H2, I2, r2, a, C, i, ex, T, hno, ea, q⟩ => ?_) hs
  subst ex
  obtain rfl : u = Value.ref a := r2
  exact store_first T I2 ea hno r1 fun dx s' n ne J => ⟨σ, _, J, q dx n ne⟩
/-- the run of C(..) behind its arguments -/
theorem make_run {pins : List (Addr × Obj)} {σ : L2.St} {H : Hp} {s : Shared} {Q : VK} {us : List Value} {kw : List (Str × Value)}
    {u : Value} {v : V} {fld : Str} (T : XC X.K C i)
    (iC : PySem.W.findIn X.K (.ref C) "__init__" = some (some (.ref fI)))
    (tI : PySem.W.typeIn X.K (.ref fI) = some (.type "function"))
    (F1 : FnOk X.prog X.w X.K X.mg X.base CX0 k fI fd ["self", par] (spI C fld)) (hr : Room (k + 1) X.A)
    (I : Inv X pins σ H s) (hz : us.length ≤ sizeLine) (rv : RelV v u)
    (hb : ∀ s : Shared, X.K.In s.heap → ∀ z : Value, BindsTo s fd ⟨z :: us, kw⟩ ((["self", par] : List Str).zip [z, u]))
    (h : ∀ a d, H a = none → H d = none → d ≠ a → Q (.ref a) (upd (upd H d (exd d [(fld, v)])) a (exo a C (some d)))) :
    wpAny (model X.prog X.w) X.A (call (.ref C) us kw) (EP X pins σ Q) X.xe s := by
  obtain ⟨tl, B, newId, Bi, nm, q, N, bs, bm, sn, sub, ab, col, dd, k0, k1, k2, k3, k5, Y, hC, hbm⟩ := T.cls
  obtain ⟨hp, g, dr, tk, os⟩ := s
  have hsz : hp.objs.size ≤ hp.objs.size + 1 := Nat.le_succ _
  have hn : H (hp.objs.size + 1) = none := I.hok.fresh hsz
  have kk : ∀ b o, hp.get? b = some o →
      ((hp.push (PySem.W.kdv_tup us)).push (PySem.HandSPX.excO C hp.objs.size)).get? b = some o :=
    fun b o e => Heap.get?_push_of_some _ (Heap.get?_push_of_some _ e)
  have hget : ((hp.push (PySem.W.kdv_tup us)).push (PySem.HandSPX.excO C hp.objs.size)).get? (hp.objs.size + 1) =
      some (PySem.HandSPX.excO C hp.objs.size) := by heap_get
  have I2 : Inv X pins σ (upd H (hp.objs.size + 1) (exo (hp.objs.size + 1) C none))
      ⟨(hp.push (PySem.W.kdv_tup us)).push (PySem.HandSPX.excO C hp.objs.size), g, dr, tk, os⟩ :=
    I.laid (t' := tk) (a := hp.objs.size + 1) (o := exo (hp.objs.size + 1) C none)
      (h' := (hp.push (PySem.W.kdv_tup us)).push (PySem.HandSPX.excO C hp.objs.size)) kk hsz (exo_ok hget)
  have hq : spI C fld [.ref (hp.objs.size + 1), v] (upd H (hp.objs.size + 1) (exo (hp.objs.size + 1) C none))
      (fun z H2 => z = .non ∧ Q (.ref (hp.objs.size + 1)) H2) E0 := by
    refine ⟨_, v, rfl, upd_same, fun d hd ne => ⟨rfl, ?_⟩⟩
    rw [upd_ne ne] at hd
    have z := h (hp.objs.size + 1) d hn hd ne
    have e : upd (upd (upd H (hp.objs.size + 1) (exo (hp.objs.size + 1) C none)) d (exd d [(fld, v)])) (hp.objs.size + 1)
        (exo (hp.objs.size + 1) C (some d)) = upd (upd H d (exd d [(fld, v)])) (hp.objs.size + 1) (exo (hp.objs.size + 1) C (some d)) := by
      funext b
      by_cases c : b = hp.objs.size + 1
      · rw [c, upd_same, upd_same]
      · rw [upd_ne c, upd_ne c]
        by_cases c2 : b = d
        · rw [c2, upd_same, upd_same]
        · rw [upd_ne c2, upd_ne c2, upd_ne c]
    rw [e]
    exact z
  have r2 : Vals [V.ref (hp.objs.size + 1), v] [Value.ref (hp.objs.size + 1), u] := .cons rfl (.cons rv .nil)
  refine wpAny_call (call_made Y hbm (I.kIn _ _ hC) (PySem.W.looks_findIn I.kIn iC)
    (fun self => PySem.W.bind_fn I.kIn self tI) hz
    (codeAny_mono (F1.run _ X.stack _ _ ⟨Value.ref (hp.objs.size + 1) :: us, kw⟩ [Value.ref (hp.objs.size + 1), u] _ _ E0
      (hr.make C us kw) (I2.env0.make C us kw) (hb _ I2.kIn _) r2 hq) fun r s' hq' => ?_))
  cases r with
  | error er => exact False.elim hq'
  | ok fl =>
    cases fl with
    | ret w =>
      obtain ⟨z, H3, J, rz, ez, q3⟩ := I2.after hq'
      subst ez
      exact ⟨rz, ⟨V.ref (hp.objs.size + 1), H3, J, rfl, q3⟩⟩
    | next => exact False.elim hq'
    | brk => exact False.elim hq'
    | cont => exact False.elim hq'
/-- what a class needs to be made by one argument -/
structure MkX (P : Program) (w : World) (K : PySem.W.Frag) (mg : Str → Option Value) (base : Heap) (C : Addr) (i : String) (k : Nat) (par fld : Str) : Prop where
  T : XC K C i
  ex : ∃ (fI : Addr) (fd : FuncData), PySem.W.findIn K (.ref C) "__init__" = some (some (.ref fI)) ∧
    PySem.W.typeIn K (.ref fI) = some (.type "function") ∧ FnOk P w K mg base CX0 k fI fd ["self", par] (spI C fld) ∧
    (∀ z u : Value, bindArgs fd ⟨[z, u], []⟩ = pure ((["self", par] : List Str).zip [z, u])) ∧
    (∀ z u : Value, bindArgs fd ⟨[z], [(par, u)]⟩ = pure ((["self", par] : List Str).zip [z, u]))
theorem pe_newX {fld : Str} (M : MkX X.prog X.w X.K X.mg X.base C i k par fld) (hr : Room (k + 1) X.A) (hg : Gl X x)
    (hm : X.mg x = some (.ref C)) (ha : PA X [e] ta) (hdb : (x == ("__debug__" : Str)) = false := by decide)
    (he : starEach (e :: []) X.env = (false, eval e X.env) :: starEach [] X.env := by rfl)
    (hpl : (backTo pos (starEach [] X.env)).any (·.1) = false := by rfl) :
    PE X (.Call (.Name x p) [e] [] pos) (tNewX C fld ta) := by
  obtain ⟨fI, fd, iC, tI, F1, hb, _⟩ := M.ex
  refine ⟨fun pins s σ H Q I h => ?_⟩
  refine wpAny_Call_Name_kw (ld_glob I hg hm ?_ hdb)
  refine PySem.W.callWith_K (h₀ := X.base) I.ok.mod.kin M.T.kC (thn (ha.run pos pins s σ H _ I h)
    fun us s1 ⟨vs, H1, I1, r1, v, ev, q1⟩ => ⟨I1.kIn, ?_⟩) he hpl
  subst ev
  obtain ⟨u, rfl, rv⟩ := vals1 r1
  exact make_run (kw := []) M.T iC tI F1 hr I1 (one_line u) rv (fun s _ z => .of_eq (hb z u)) q1
theorem pe_newXK {fld : Str} {kp : Pos} (M : MkX X.prog X.w X.K X.mg X.base C i k par fld) (hr : Room (k + 1) X.A) (hg : Gl X x)
    (hm : X.mg x = some (.ref C)) (hk : PK X [⟨some par, e, kp⟩] ta) (hdb : (x == ("__debug__" : Str)) = false := by decide)
    (hall : (backToKw pos (keywordEach [⟨some par, e, kp⟩] X.env)).all (·.1.isSome) = true := by rfl)
    (hks : (backToKw pos (keywordEach [⟨some par, e, kp⟩] X.env)).filterMap (·.1) = [par] := by rfl)
    (hpl : ((backTo pos (starEach [] X.env)).any (·.1) || (backToKw pos (keywordEach [⟨some par, e, kp⟩] X.env)).any (·.1.isNone)) = false := by rfl) :
    PE X (.Call (.Name x p) [] [⟨some par, e, kp⟩] pos) (tNewX C fld ta) := by
  obtain ⟨fI, fd, iC, tI, F1, _, hb⟩ := M.ex
  refine ⟨fun pins s σ H Q I h => ?_⟩
  refine wpAny_Call_Name_kw (ld_glob I hg hm ?_ hdb)
  refine PySem.W.callWith_KW0 (h₀ := X.base) I.ok.mod.kin M.T.kC hall ?_ hpl
  refine thn (hk.run pos pins s σ H _ I h) fun ws s1 ⟨vs, H1, I1, r1, v, ev, q1⟩ => ⟨I1.kIn, ?_⟩
  subst ev
  obtain ⟨u, rfl, rv⟩ := vals1 r1
  rw [hks]
  exact make_run (us := []) (kw := [(par, u)]) M.T iC tI F1 hr I1 (Nat.zero_le _) rv (fun s _ z => .of_eq (hb z u)) q1
/-- F(e), F a family without an __init__ of its own: a new exception without fields -/
def tNewF (C : Addr) (ta : TA) : TE := fun σ H Q => ta σ H fun vs H1 => ∃ v, vs = [v] ∧ ∀ a, H1 a = none → Q (.ref a) (upd H1 a (ExO (.ref C) a))
theorem pe_newF (T : XC X.K C i) (iC : PySem.W.findIn X.K (.ref C) "__init__" = some (some (.builtin i))) (hg : Gl X x)
    (hm : X.mg x = some (.ref C)) (ha : PA X [e] ta) (hdb : (x == ("__debug__" : Str)) = false := by decide)
    (he : starEach (e :: []) X.env = (false, eval e X.env) :: starEach [] X.env := by rfl)
    (hpl : (backTo pos (starEach [] X.env)).any (·.1) = false := by rfl) :
    PE X (.Call (.Name x p) [e] [] pos) (tNewF C ta) := by
  refine ⟨fun pins s σ H Q I h => ?_⟩
  refine wpAny_Call_Name_kw (ld_glob I hg hm ?_ hdb)
  refine PySem.W.callWith_K (h₀ := X.base) I.ok.mod.kin T.kC (thn (ha.run pos pins s σ H _ I h)
    fun us s1 ⟨vs, H1, I1, r1, v, ev, q1⟩ => ⟨I1.kIn, ?_⟩) he hpl
  subst ev
  obtain ⟨u, rfl, rv⟩ := vals1 r1
  show wpAny _ _ (call (.ref C) [u]) _ _ _
  obtain ⟨tl, B, newId, Bi, nm, q, N, bs, bm, sn, sub, ab, col, dd, k0, k1, k2, k3, k5, Y, hC, hbm⟩ := T.cls
  obtain ⟨hp, g, dr, tk, os⟩ := s1
  have hn : H1 (hp.objs.size + 1) = none := I1.hok.fresh (Nat.le_succ _)
  have kk : ∀ b o, hp.get? b = some o →
      ((hp.push (PySem.W.kdv_tup [u])).push (PySem.HandSPX.excO C hp.objs.size)).get? b = some o :=
    fun b o e => Heap.get?_push_of_some _ (Heap.get?_push_of_some _ e)
  have hget : ((hp.push (PySem.W.kdv_tup [u])).push (PySem.HandSPX.excO C hp.objs.size)).get? (hp.objs.size + 1) =
      some (PySem.HandSPX.excO C hp.objs.size) := by heap_get
  refine wpAny_call (call_made (kw := []) Y hbm (I1.kIn _ _ hC) (PySem.W.looks_findIn I1.kIn iC)
    (fun self => PySem.W.Looks.of_pure (Y.iSlot.bind self)) (one_line u)
    (init_run Y hbm (kk _ _ (I1.kIn _ _ hC)) hget (one_line u) fun h' t1 k hx => ?_))
  have k2 : ∀ b o, hp.get? b = some o → h'.get? b = some o := fun b o z =>
    k b o (Nat.ne_of_lt (Nat.lt_succ_of_lt (Heap.lt_size z))) (kk b o z)
  exact ⟨rfl, .ref (hp.objs.size + 1), upd H1 (hp.objs.size + 1) (ExO (.ref C) (hp.objs.size + 1)),
    I1.laid (t' := tk) k2 (Nat.le_succ _) (exO_ok hx ⟨rfl, rfl⟩ rfl rfl rfl (show 4 < 6 by decide)), rfl, q1 _ hn⟩
theorem exo_inst {P : Program} {w : World} {H : Hp} {h : Heap} {a d : Addr} {fs : List (Str × V)} (hok : HOk P w H h)
    (ha : Rd H a (exo a C (some d))) (hd : H d = some (exd d fs)) :
    ∃ ox od, PySem.W.InstAt h a ox C (some od) ∧ ∃ mA : Str → Option Value, (∀ f : Str, RelO (fs.lookup f) (mA f)) ∧ ∀ f : Str, PySem.W.lookIn f od = some (mA f) := by
  obtain ⟨mA, hns, rel⟩ := exd_at hok hd
  obtain ⟨od, hod, hl⟩ := lookIn_ns hns
  have x : ObjOk P w H h a (.ext fun h => ∃ t1 : Addr, h.get? a = some ({ cls := .ref C, dict := some d, data := .fields #[.ref t1, .none, .none, .none, .bool false, .none] } : Obj)) := ha.ok hok
  obtain ⟨⟨t1, ho⟩, _⟩ := x
  exact ⟨_, od, ⟨ho, rfl, rfl, hod⟩, mA, rel, hl⟩
theorem pe_xf (he : PE X e te) (hb : attributeBase e f X.env (eval e X.env) = eval e X.env) :
    PE X (.Attribute e f pos) (tXf X.K f te) := by
  refine ⟨fun pins s σ H Q I h => ?_⟩
  refine attr_of hb (thn (he.run pins s σ H _ I h) fun u s1 ⟨x, H1, I1, rx, a, C, d, i, fs, v, ex, T, ea, ed, no, l, q⟩ => ?_)
  subst ex
  obtain rfl : u = Value.ref a := rx
  obtain ⟨ox, od, J, mA, rel, hl⟩ := exo_inst I1.hok ea ed
  obtain ⟨u, hu, ru⟩ := RelO.some_of (v := v) (o := mA f) (by rw [← l]; exact rel f)
  exact HandSPX.exc_get I1.kIn J T.ga T.gg T.exC (PySem.W.findObj_own T.hd no rfl (by rw [hl, hu])) (handed_of ru)
    ⟨v, H1, I1.tok _, ru, q⟩
theorem call_isX : CallR X (.builtin "isinstance") (rIsX X.K) := by
  intro pins s σ H xs us Q I r h
  obtain ⟨a, C, i, c, u, b, rfl, kc, T, ea, e, q⟩ := h
  obtain ⟨u1, u2, rfl, r1, r2⟩ := vals2 r
  have e2 := kc.eq r2
  subst e2
  cases (show u1 = Value.ref a from r1)
  have fin : ∀ tk, EP X pins σ Q (.bool b) { s with toks := tk } := fun tk => ⟨.bl b, H, I.tok tk, rfl, q⟩
  cases ea with
  | own ha hd =>
    obtain ⟨ox, od, J, _⟩ := exo_inst I.hok ha hd
    exact PySem.W.kia_one (PySem.W.kitx_exc T.so T.ga T.gg T.exC T.ca T.cg T.ct T.ob) I.kIn J e (fun z => nomatch z) fin
  | bare ha =>
    obtain ⟨⟨oe, vs, ho, hz, hv, _, _, _⟩, _, _⟩ := I.hok a _ ha
    have J : PySem.W.InstAt s.heap a oe C none := by
      obtain ⟨oc, od, oda, osl⟩ := oe
      obtain ⟨h1, h2⟩ := hz
      dsimp only at h1 h2 hv
      subst h1 h2 hv
      exact ⟨ho, rfl, rfl, trivial⟩
    exact PySem.W.kia_one (PySem.W.kitx_exc T.so T.ga T.gg T.exC T.ca T.cg T.ct T.ob) I.kIn J e (fun z => nomatch z) fin
  | @held oe d φ fs ha hc hv hdd hd =>
    obtain ⟨ho, _⟩ := (show ObjOk X.prog X.w H s.heap a (.frz oe (.ext φ)) from I.hok a _ ha)
    obtain ⟨mA, hns, _⟩ := (show ObjOk X.prog X.w H s.heap d (.xd fs) from I.hok d _ hd)
    obtain ⟨od, hod, _⟩ := lookIn_ns hns
    have J : PySem.W.InstAt s.heap a oe C (some od) := by
      obtain ⟨vs, hv⟩ := hv
      obtain ⟨oc, od', oda, osl⟩ := oe
      dsimp only at hc hv hdd
      subst hc hv hdd
      exact ⟨ho, rfl, rfl, hod⟩
    exact PySem.W.kia_one (PySem.W.kitx_exc T.so T.ga T.gg T.exC T.ca T.cg T.ct T.ob) I.kIn J e (fun z => nomatch z) fin
end
end Xn
/-! Such an exception raised, caught by one of three families; defs called wherever an exception may be handled. -/
namespace Xn
open PySem PySem.Spec PyProof.Rows L2
section
variable {X : Cx} {o e : Expr} {es : List Expr} {to te : TE} {ta tk : TA} {f F x : Str} {p p' p1 p2 pos : Pos}
variable {i : String} {C fI : Addr} {fd : FuncData} {k : Nat} {par : Str}
/-- C(e) to be raised -/
theorem pmk_newX {fld : Str} (M : MkX X.prog X.w X.K X.mg X.base C i k par fld) (hr : Room (k + 1) X.A) (hg : Gl X x)
    (hm : X.mg x = some (.ref C)) (ha : PA X [e] ta) (hdb : (x == ("__debug__" : Str)) = false := by decide)
    (he : starEach (e :: []) X.env = (false, eval e X.env) :: starEach [] X.env := by rfl)
    (hpl : (backTo pos (starEach [] X.env)).any (·.1) = false := by rfl) :
    PMk X (.Call (.Name x p) [e] [] pos) (fun σ H Q => ta σ H fun vs H1 => ∃ v, vs = [v] ∧
      ∀ d, H1 d = none → Q (.ref C) (some d) (upd H1 d (.xd [(fld, v)]))) := by
  obtain ⟨fI, fd, iC, tI, F1, hb, _⟩ := M.ex
  intro pins s σ H Q I h
  have T := M.T
  obtain ⟨tl, B, newId, Bi, nm, q, N, bs, bm, sn, sub, ab, col, dd, k0, k1, k2, k3, k5, Y, hC, hbm⟩ := T.cls
  refine wpAny_Call_Name_kw (ld_glob I hg hm ?_ hdb)
  refine PySem.W.callWith_K (h₀ := X.base) I.ok.mod.kin T.kC (thn (ha.run pos pins s σ H _ I h)
    fun us s1 ⟨vs, H1, I1, r1, v, ev, q1⟩ => ⟨I1.kIn, ?_⟩) he hpl
  subst ev
  obtain ⟨u, rfl, rv⟩ := vals1 r1
  show wpAny _ _ (call (.ref C) [u]) _ _ _
  obtain ⟨hp, g, dr, tk, os⟩ := s1
  have hsz : hp.objs.size ≤ hp.objs.size + 1 := Nat.le_succ _
  have hn : H1 (hp.objs.size + 1) = none := I1.hok.fresh hsz
  have kk : ∀ b o, hp.get? b = some o →
      ((hp.push (PySem.W.kdv_tup [u])).push (PySem.HandSPX.excO C hp.objs.size)).get? b = some o :=
    fun b o e => Heap.get?_push_of_some _ (Heap.get?_push_of_some _ e)
  have hget : ((hp.push (PySem.W.kdv_tup [u])).push (PySem.HandSPX.excO C hp.objs.size)).get? (hp.objs.size + 1) =
      some (PySem.HandSPX.excO C hp.objs.size) := by heap_get
  have I2 : Inv X pins σ (upd H1 (hp.objs.size + 1) (exo (hp.objs.size + 1) C none))
      ⟨(hp.push (PySem.W.kdv_tup [u])).push (PySem.HandSPX.excO C hp.objs.size), g, dr, tk, os⟩ :=
    I1.laid (t' := tk) (a := hp.objs.size + 1) (o := exo (hp.objs.size + 1) C none)
      (h' := (hp.push (PySem.W.kdv_tup [u])).push (PySem.HandSPX.excO C hp.objs.size)) kk hsz (exo_ok hget)
  have hq : spI C fld [.ref (hp.objs.size + 1), v] (upd H1 (hp.objs.size + 1) (exo (hp.objs.size + 1) C none))
      (fun z H2 => z = .non ∧ ∃ d, H2 (hp.objs.size + 1) = some (exo (hp.objs.size + 1) C (some d)) ∧ H2 d = some (exd d [(fld, v)]) ∧
        H1 d = none ∧ Q (.ref C) (some d) (upd (L2.del H2 (hp.objs.size + 1)) d (.xd [(fld, v)]))) E0 := by
    refine ⟨_, v, rfl, upd_same, fun d hd ne => ⟨rfl, d, upd_same, by rw [upd_ne ne, upd_same], ?_, ?_⟩⟩
    · rw [upd_ne ne] at hd
      exact hd
    · rw [upd_ne ne] at hd
      have e : upd (L2.del (upd (upd (upd H1 (hp.objs.size + 1) (exo (hp.objs.size + 1) C none)) d (exd d [(fld, v)])) (hp.objs.size + 1)
          (exo (hp.objs.size + 1) C (some d))) (hp.objs.size + 1)) d (.xd [(fld, v)]) = upd H1 d (.xd [(fld, v)]) := by
        funext b
        by_cases c : b = d
        · rw [c, upd_same, upd_same]
        · rw [upd_ne c, upd_ne c]
          by_cases c2 : b = hp.objs.size + 1
          · rw [c2, del_same, hn]
          · rw [del_ne c2, upd_ne c2, upd_ne c, upd_ne c2]
      rw [e]
      exact q1 d hd
  have r2 : Vals [V.ref (hp.objs.size + 1), v] [Value.ref (hp.objs.size + 1), u] := .cons rfl (.cons rv .nil)
  refine wpAny_call (call_made Y hbm (I1.kIn _ _ hC) (PySem.W.looks_findIn I1.kIn iC)
    (fun self => PySem.W.bind_fn I1.kIn self tI) (one_line u)
    (codeAny_mono (F1.run _ X.stack _ _ ⟨[Value.ref (hp.objs.size + 1), u], []⟩ [Value.ref (hp.objs.size + 1), u] _ _ E0
      (hr.make C [u] []) (I2.env0.make C [u] []) (.of_eq (hb _ _)) r2 hq) fun r s' hq' => ?_))
  cases r with
  | error er => exact False.elim hq'
  | ok fl =>
    cases fl with
    | ret u =>
      obtain ⟨z, H2, os2, bare2, un2, hok2, rz, ez, d, ea, ed, hd1, q2⟩ := hq'
      subst ez
      obtain ⟨h2, g2, d2, t2, os'⟩ := s'
      exact ⟨rz, mk_end (raises_own T.exC T.tyC) I1 hsz kk un2 hok2 os2 bare2 ea ed hd1 q2⟩
    | next => exact False.elim hq'
    | brk => exact False.elim hq'
    | cont => exact False.elim hq'
end

/-! ### try: body, except (A, B, D) as n: suite, where the error is one of these -/
theorem FlyingZ.kept {base h h' : Heap} {l : List Env} {e : Addr} {Z : Obj → Prop} (x : PySem.HandSPX.FlyingZ base l e Z h)
    (k : ∀ b o, h.get? b = some o → h'.get? b = some o) : PySem.HandSPX.FlyingZ base l e Z h' := by
  obtain ⟨k1, k2, k3, oe, vs, T, oT, ts, he, hz, hd, h1, hb, hne, hT, hdT, h3⟩ := x
  refine ⟨fun b o hbo => k b o (k1 b o hbo), k2, ?_, oe, vs, T, oT, ts, k _ _ he, hz, hd, h1, hb, hne, k _ _ hT, hdT, h3⟩
  clear k1 k2 he hz hd h1 hb hne hT hdT h3
  induction l with
  | nil => trivial
  | cons env l ih =>
    obtain ⟨hk, ⟨L, o, hf, hn, ho, hd⟩, hr⟩ := k3
    exact ⟨hk, ⟨L, o, hf, hn, k _ _ ho, hd⟩, ih hr⟩
/-- the ends behind the clause's name's going -/
def goneE (i : Nat) (D : Ends) : Ends where
  nx := fun st hh => D.nx (st.set i none) hh
  rt := D.rt
  bk := fun st hh => D.bk (st.set i none) hh
  ct := fun st hh => D.ct (st.set i none) hh
/-- what the clause wishes of an exception of the body -/
def wFam (K : PySem.W.Frag) (cs : List Value) (i : Nat) (ts : Addr → Value → Option Addr → TS) (D : Ends) : WX := fun cls d σ H =>
  PySem.W.exmAny K cls cs = some true ∧ ∀ a, H a = none →
    ts a cls d (goneE i D) (σ.set i (some (.ref a))) H
section
variable {X : Cx} {x1 x2 x3 n : Str} {c1 c2 c3 : Value} {i kk : Nat} {body suite : List Stmt} {b₀ : Stmt}
variable {q1 q2 q3 tp pos pos' : Pos} {tb : WX → TS} {ts : Addr → Value → Option Addr → TS}
theorem ps_try_fam (hs : X.stack = X.env :: X.outer) (hf : X.env.frame = some X.env.locals) (hN : X.N.Nodup) (hi : X.N[i]? = some n)
    (hln : X.env.kindOf n = some .local) (n1 : Gl X x1) (m1 : X.mg x1 = some c1) (n2 : Gl X x2) (m2 : X.mg x2 = some c2)
    (n3 : Gl X x3) (m3 : X.mg x3 = some c3)
    (hb : ∀ (W : WX) (pn : List (Addr × Obj)) (xe : Value → Shared → Prop), Takes (X.tr pn xe) W →
      PassesOwn (model X.prog X.w) X.A X.env xe → PSs (X.tr pn xe) body (tb W))
    (hsu : ∀ (a : Addr) (oe : Obj) (cls : Value) (d : Option Addr) (pn : List (Addr × Obj)), Zc cls d oe →
      (∃ vs, oe.data = .fields vs) → X.base.get? a = none → PSs (X.suite a ((a, oe) :: pn)) (b₀ :: suite) (ts a cls d))
    (d1 : (x1 == ("__debug__" : Str)) = false := by decide) (d2 : (x2 == ("__debug__" : Str)) = false := by decide)
    (d3 : (x3 == ("__debug__" : Str)) = false := by decide) :
    PS X (.Try body [.ExceptHandler (some (.Tuple [.Name x1 q1, .Name x2 q2, .Name x3 q3] kk tp)) (some n) (b₀ :: suite) pos'] [] [] pos)
      (fun D σ H => tb (wFam X.K [c1, c2, c3] i ts D) D σ H) := by
  refine ⟨fun pins s σ H D I h => ?_⟩
  have ok := I.ok
  have hfr : X.A.frames = some (X.env :: X.outer) := by rw [ok.frames, hs]
  have hloc : Loc X.env.scope n := .inl hln
  refine wpAny_Try_except ?_
  refine wpAny_mono ((hb (wFam X.K [c1, c2, c3] i ts D) (X.pn ++ pins)
    (fun e s₁ => wpAny (model X.prog X.w) X.A (noteFrame e X.env) (fun _ s₂ => wpAny (model X.prog X.w) X.A (setFlight e none) (fun _ s₃ =>
      wpAny (model X.prog X.w) X.A (handleBy e X.env [.ExceptHandler (some (.Tuple [.Name x1 q1, .Name x2 q2, .Name x3 q3] kk tp)) (some n) (b₀ :: suite) pos'])
        (SP X pins D) X.xe s₃) X.xe s₂) X.xe s₁) (fun u s' xx => ?_) PassesOwn.looking).run [] s σ H D (I.toTry _) h)
    (fun f s1 hsp => ?_) (fun e s1 he => he)
  · obtain ⟨a, B, sI, pins', σ', H', cls, d, rfl, J', nb, up, sky, na, os, ag, hb1, hyes⟩ := xx
    have J : Inv X pins σ' H' sI := J'.ofTry ok
    have sky' : Sky B (X.env :: X.outer) a (Zc cls d) X.env.locals s'.heap := by
      rw [← hs]
      exact sky
    show wpAny (model X.prog X.w) X.A (noteFrame (.ref a) X.env) _ _ _
    refine Sky.land Zc.steady hfr hf sky' fun h3 fl3 up3 => ?_
    have J3 : Inv X pins σ' H' { s' with heap := h3 } := J.landed nb fl3.1 (up.trans up3) os ag
    obtain ⟨oe3, vs3, he3, hz3, hd3⟩ := fl3.there
    have nfr : a ∉ frs (X.env :: X.outer) := fun hm => by
      obtain ⟨_, o', e', hnf⟩ := fl3.2.2.1.mem hm
      rw [he3] at e'
      cases e'
      exact hnf _ hd3
    have nL : a ≠ X.env.locals := fun z => nfr (List.mem_filterMap.mpr ⟨X.env, List.mem_cons_self, by rw [hf, z]⟩)
    have nF : a ∉ X.fs := fun hm => by
      obtain ⟨e, he, q⟩ := List.mem_filterMap.mp hm
      exact nfr (List.mem_filterMap.mpr ⟨e, List.mem_cons_of_mem _ he, q⟩)
    have S3 := J3.suite he3 hd3 na nL nF
    have nbs : X.base.get? a = none := by
      cases z : X.base.get? a with
      | none => rfl
      | some o =>
        have z1 := nb a o (J.bk a o z) (by rw [hs]; exact nfr)
        rw [fl3.2.1] at z1
        cases z1
    refine wpAny_handleBy_cons (codeAny_handlers_test ?_) (by intro q; cases q)
    have LT : PySem.W.Looks (model X.prog X.w) h3 (typeOf (.ref a)) cls := fun A Q E s k q =>
      wpAny_typeOf_ref (k _ _ he3) (by rw [hz3.1]; exact q)
    refine wpAny_Tuple ?_
    refine wpAny_items_cons (ld_glob (X := X.suite a ((a, oe3) :: (X.pn ++ pins))) S3 n1 m1 ?_ d1)
    refine wpAny_items_cons (ld_glob (X := X.suite a ((a, oe3) :: (X.pn ++ pins))) S3 n2 m2 ?_ d2)
    refine wpAny_items_cons (ld_glob (X := X.suite a ((a, oe3) :: (X.pn ++ pins))) S3 n3 m3 ?_ d3)
    refine wpAny_items_nil ⟨by size_fits, ?_⟩
    have kp : ∀ q o, h3.get? q = some o → (h3.push { cls := .type "tuple", data := .seq [c1, c2, c3].toArray }).get? q = some o :=
      fun _ _ z => Heap.get?_push_of_some _ z
    refine (PySem.W.exm_tup3 (M := model X.prog X.w) (J3.kIn.keeps kp) (LT.keeps kp) (Heap.get?_push_size h3 rfl) hb1).here ?_
    refine codeAny_handlers_suite_as ?_
    have fl3' := FlyingZ.kept fl3 kp
    refine HandSPX.lands_againZ fl3' fun h4 fl4 up4 => ?_
    have upk : h3.UpToSlots (h3.push { cls := .type "tuple", data := .seq [c1, c2, c3].toArray }) := fun b o z _ => ⟨o.slots, kp b o z⟩
    have J4 : Inv X pins σ' H' { s' with heap := h4 } := J.landed nb fl4.1 (((up.trans up3).trans upk).trans up4) os ag
    obtain ⟨oe4, vs4, he4, hz4, hd4⟩ := fl4.there
    have S4 := J4.suite he4 hd4 na nL nF
    refine store_ok (X := X.suite a ((a, oe4) :: (X.pn ++ pins))) (v := .ref a) S4 hN hi hloc rfl (fun s5 S5 => ?_) (.inr hln)
    refine wpAny_mono ((hsu a oe4 cls d (X.pn ++ pins) hz4 ⟨_, hd4⟩ nbs).run [] s5 _ H' _ S5 (hyes a na)) (fun f s6 hsp => ?_) (fun _ _ z => False.elim z)
    have end_ : ∀ {σ6 : L2.St} {H6 : Hp} {Q : Shared → Prop}, Inv (X.suite a ((a, oe4) :: (X.pn ++ pins))) [] σ6 H6 s6 →
        (∀ s7, Inv X pins (σ6.set i none) H6 s7 → Q s7) →
        wpAny (model X.prog X.w) X.A (do bindName X.env n .none; unbindBehindTheSuite X.env n pos') (fun _ s7 => Q s7) X.xe s6 :=
      fun {σ6 H6 Q} S6 hq => gone_ok (S6.unsuite ok) hN hi hln hq
    cases f with
    | next =>
      obtain ⟨σ6, H6, S6, q6⟩ := hsp
      exact end_ S6 fun s7 J7 => ⟨_, _, J7, q6⟩
    | brk =>
      obtain ⟨σ6, H6, S6, q6⟩ := hsp
      exact end_ S6 fun s7 J7 => ⟨_, _, J7, q6⟩
    | cont =>
      obtain ⟨σ6, H6, S6, q6⟩ := hsp
      exact end_ S6 fun s7 J7 => ⟨_, _, J7, q6⟩
    | ret u =>
      obtain ⟨v6, σ6, H6, S6, r6, q6⟩ := hsp
      exact end_ S6 fun s7 J7 => ⟨_, _, _, J7, r6, q6⟩
  · cases f with
    | next =>
      obtain ⟨σ', H', J', q⟩ := hsp
      exact wpAny_execs_nil ⟨σ', H', J'.ofTry ok, q⟩
    | brk =>
      obtain ⟨σ', H', J', q⟩ := hsp
      exact ⟨σ', H', J'.ofTry ok, q⟩
    | cont =>
      obtain ⟨σ', H', J', q⟩ := hsp
      exact ⟨σ', H', J'.ofTry ok, q⟩
    | ret u =>
      obtain ⟨v, σ', H', J', r, q⟩ := hsp
      exact ⟨v, σ', H', J'.ofTry ok, r, q⟩
end
end Xn
/-! Defs that run whether an exception is handled or not; calls of the module's defs in one word. -/
namespace Xn
open PySem PySem.Spec PyProof.Rows L2
abbrev RoomN := L2H.RoomH
/-- a def's promise, wherever it is called -/
structure FnN (P : Program) (w : World) (K : PySem.W.Frag) (mg : Str → Option Value) (base : Heap) (CX : CXT) (k : Nat) (f : Addr)
    (fd : FuncData) (ps : List Str) (sp : Sp) : Prop where
  len : ∀ vs H Q E, sp vs H Q E → vs.length = ps.length
  run : ∀ (A : Around) (outer : List Env) (s : Shared) (H : Hp) (args : Args) (us : List Value) (vs : List V) (Q : VK) (E : XK),
    RoomN k A → Env0 P w K mg base A outer s H → BindsTo s fd args (ps.zip us) → Vals vs us → sp vs H Q E →
    codeAny (model P w) A (.call (.ref f) args) (CR CX outer P w H s Q E) s
section
variable {P : Program} {w : World} {K : PySem.W.Frag} {mg : Str → Option Value} {base : Heap} {CX : CXT} {k : Nat} {f : Addr}
variable {fd : FuncData} {ps N : List Str} {sp : Sp} {qual : Str} {scope : Scope} {A : Around} {outer : List Env} {s s1 : Shared} {H : Hp} {E : XK}
theorem FnN.calm (F : FnN P w K mg base CX k f fd ps sp) : FnOk P w K mg base CX k f fd ps sp :=
  ⟨F.len, fun A outer s H args us vs Q E hr => F.run A outer s H args us vs Q E (L2H.roomH_of hr)⟩
/-- the context of its body -/
def cxN (CX : CXT) (P : Program) (w : World) (K : PySem.W.Frag) (mg : Str → Option Value) (base : Heap) (N : List Str) (qual : Str)
    (scope : Scope) (f : Addr) (cd : Value) (A : Around) (outer : List Env) (s : Shared) (H : Hp) (E : XK) : Cx :=
  { cxOf CX P w K mg base N qual scope f cd A outer s H E with calm := false }
/-- one handled or none: the start of a body is the same -/
theorem startN {cd : Value} {us : List Value} {vs : List V} (S : FnScope N ps scope) (e0 : Env0 P w K mg base A outer s H)
    (hl : vs.length = ps.length) (r : Vals vs us)
    (x : InCallC s s.heap.objs.size (bindL (envOfC qual scope s.heap.objs.size f cd).kindOf (ps.zip us) fun _ => none)
      (cellsFrom (s.heap.objs.size + 1) scope.names []) (bindC (envOfC qual scope s.heap.objs.size f cd).kindOf (ps.zip us) fun _ => none) s1) :
    Inv (cxN CX P w K mg base N qual scope f cd A outer s H E) [] (L2.start N vs) H s1 := by
  have hpl : ps.length ≤ N.length := by
    have q := congrArg List.length S.pre
    rw [List.length_take] at q
    omega
  obtain ⟨h1, tk, rfl, hk⟩ := x.done
  have noA : ∀ b : Addr, b ∉ (cxN CX P w K mg base N qual scope f cd A outer s H E).ex :=
    fun b z => absurd (show b ∈ ([] : List Addr) from z) (by simp)
  refine ⟨⟨e0.mod, S.kind, rfl, rfl, Nat.le_refl _, fun y z c h1 h2 => ?_, fun y hy => ?_, fun y c _ h => ?_,
      (fun z => Bool.noConfusion (show false = true from z)), Around.frames_deeper e0.frames, .inr ⟨rfl, rfl⟩,
      fun b z => absurd z (noA b), e0.bs, e0.bsz, fun b _ _ => noA b, fun b z => absurd z (noA b), e0.funs, e0.frf⟩,
    rfl, e0.bare, Un.kept hk, ⟨_, x.toInCall.ns, fun i y v h1 h2 h3 => ?_⟩, fun y c h => ⟨_, x.cell y c h⟩,
    e0.hok.fresh (Nat.le_refl _), fun y c h => ?_,
    fun p hp => absurd (show p ∈ ([] : List (Addr × Obj)) from hp) (by simp), e0.hok.kept hk, ?_⟩
  · exact name_of_addr x.apart (PySem.mem_of_lookup h1) (PySem.mem_of_lookup h2)
  · have hy : scope.names.lookup y = some .cell ∨ scope.names.lookup y = some .free := hy
    rcases hy with hy | hy
    · exact cell_has hy
    · exact absurd rfl (S.nofree _ (PySem.mem_of_lookup hy))
  · exact Nat.le_of_lt (x.above y c (PySem.mem_of_lookup h))
  · have hi : i < vs.length := by
      unfold L2.start at h2
      by_cases hi : i < vs.length
      · exact hi
      · rw [List.getElem?_append_right (by simpa using hi), List.getElem?_replicate] at h2
        split at h2 <;> cases h2
    have ha : vs[i]? = some v := by
      unfold L2.start at h2
      rw [List.getElem?_append_left (by simpa using hi), List.getElem?_map] at h2
      cases e : vs[i]? with
      | none =>
        rw [e] at h2
        cases h2
      | some a =>
        rw [e] at h2
        cases h2
        rfl
    obtain ⟨u, hu, rv⟩ := r.get ha
    have hp : ps[i]? = some y := by
      rw [← S.pre, List.getElem?_take_of_lt (by omega)]
      exact h1
    have ndP : ps.Nodup := by
      rw [← S.pre]
      exact S.nd.sublist (List.take_sublist _ _)
    refine ⟨u, rv, ?_⟩
    rcases S.par y (List.mem_of_getElem? hp) with k | k
    · exact .inl ⟨k, bindL_get ndP hp hu k⟩
    · obtain ⟨c, e⟩ := cell_has (n := s.heap.objs.size + 1) k
      refine .inr ⟨.inl k, c, e, ?_⟩
      have q := x.cell y c e
      rw [bindC_get ndP hp hu (by show scope.names.lookup y ≠ _; rw [k]; decide)] at q
      exact q
  · exact e0.hok.fresh (Nat.le_of_lt (x.above y c (PySem.mem_of_lookup h)))
  · unfold L2.start
    show _ = N.length
    rw [List.length_append, List.length_map, List.length_replicate]
    omega
/-- THE RULE for such a def -/
theorem okN {x : Str} {params : Arguments} {body : List Stmt} {dvs : List V} {kws : List (Str × V)}
    (F : FunD K x qual params body scope dvs kws f fd) (S : FnScope N ps scope)
    (len : ∀ vs H Q E, sp vs H Q E → vs.length = ps.length)
    (hbody : ∀ (cdv : Value) (A : Around) (outer : List Env) (s : Shared) (H : Hp) (vs : List V) (Q : VK) (E : XK),
      RoomN k (A.deeper (envOfC qual scope s.heap.objs.size f cdv)) → sp vs H Q E →
      ∃ t, PSs (cxN CX P w K mg base N qual scope f cdv A outer s H E) body t ∧ t { nx := fun _ H' => Q .non H', rt := Q } (L2.start N vs) H) :
    FnN P w K mg base CX (k + 1) f fd ps sp := by
  obtain ⟨oc, od, dV, kV, doc, pm, an, cdv, ct, osl, rfl, lk, hcd, _, _⟩ := F.ex
  refine ⟨len, fun A outer s H args us vs Q E hr e0 hb r hsp => ?_⟩
  have hl := len _ _ _ _ hsp
  have KX : K.In s.heap := e0.mod.kin.keeps fun b o e => (e0.bs b o e).1
  have lim : s.heap.NoLimit := e0.mod.nolimit.keeps fun b o e => (e0.bs b o e).1
  have hkind : ∀ y ∈ ps.zip us, scope.names.lookup y.1 = some .local ∨ (scope.names.lookup y.1 = some .cell ∧
      ((cellsFrom (s.heap.objs.size + 1) scope.names []).lookup y.1).isSome = true) := fun ⟨n, v⟩ hy => by
    rcases S.par n (List.of_mem_zip hy).1 with q | q
    · exact .inl q
    · exact .inr ⟨q, PySem.W.cellsFrom_some _ _ _ (.inl q)⟩
  refine codeAny_call_function hr.depth (KX _ _ lk) rfl S.co S.gen rfl (PySem.W.codeRec_of KX hcd) (hb _ _ _ _ ?_)
  refine wpAny_newFunctionEnv_cells S.kind hkind fun env he s1 x => ?_
  subst he
  refine ⟨lim.keeps x.toInCall.keep, codeAny_func ?_⟩
  obtain ⟨t, ht, hq⟩ := hbody cdv A outer s H vs Q E (hr.deeper _) hsp
  have I : Inv (cxN CX P w K mg base N qual scope f cdv A outer s H E) [] (L2.start N vs) H s1 := startN S e0 hl r x
  refine wpAny_mono (ht.run [] s1 (L2.start N vs) H _ I hq) (fun fl s' hs => ?_) fun e s' hs => hs
  have fin : ∀ {σ' : L2.St} {H' : Hp} {v : V} {u : Value}, Inv (cxN CX P w K mg base N qual scope f cdv A outer s H E) [] σ' H' s' →
      RelV v u → Q v H' → CE outer P w H s Q u s' :=
    fun {σ' H' v u} J rv q => ⟨v, H', J.os, J.bare, J.base, J.hok, rv, q⟩
  cases fl with
  | ret u =>
    obtain ⟨v, σ', H', J, rv, q⟩ := hs
    exact fin J rv q
  | next =>
    obtain ⟨σ', H', J, q⟩ := hs
    exact fin (v := V.non) (u := Value.none) J rfl q
  | brk =>
    obtain ⟨_, _, _, q⟩ := hs
    exact False.elim q
  | cont =>
    obtain ⟨_, _, _, q⟩ := hs
    exact False.elim q
end

/-! ### a def of the module by its name -/
/-- the module's x is a def that keeps sp; it is called with values by place -/
def Cl (P : Program) (w : World) (K : PySem.W.Frag) (mg : Str → Option Value) (base : Heap) (k : Nat) (x : Str) (sp : Sp) : Prop :=
  ∃ (f : Addr) (fd : FuncData) (ps : List Str) (dvs : List V) (ds : List Value), FnOk P w K mg base CX0 k f fd ps (fun vs H Q E => ∃ us, vs = us ++ dvs ∧ sp us H Q E) ∧
    mg x = some (.ref f) ∧ PySem.W.keepIn K (.ref f) = true ∧ Binds K fd ps ds ∧ Vals dvs ds
/-- .. wherever an exception may be handled -/
def ClN (P : Program) (w : World) (K : PySem.W.Frag) (mg : Str → Option Value) (base : Heap) (k : Nat) (x : Str) (sp : Sp) : Prop :=
  ∃ (f : Addr) (fd : FuncData) (ps : List Str), FnN P w K mg base CX0 k f fd ps sp ∧ mg x = some (.ref f) ∧
    PySem.W.keepIn K (.ref f) = true ∧ Binds K fd ps []
/-- f(..), the values by place -/
def tCl (sp : Sp) (t : TA) : TE := fun σ H Q => t σ H fun vs H1 => sp vs H1 Q E0
section
variable {P : Program} {w : World} {K : PySem.W.Frag} {mg : Str → Option Value} {base : Heap} {k j : Nat} {x : Str} {sp : Sp}
theorem Cl.of {f : Addr} {fd : FuncData} {ps : List Str} (F : FnOk P w K mg base CX0 k f fd ps sp) (m : mg x = some (.ref f))
    (kp : PySem.W.keepIn K (.ref f) = true) (b : Binds K fd ps []) : Cl P w K mg base k x sp :=
  ⟨f, fd, ps, [], [], F.imp fun vs H Q E ⟨us, e, h⟩ => by rw [e, List.append_nil]; exact h, m, kp, b, .nil⟩
theorem Cl.mono (c : Cl P w K mg base k x sp) (h : k ≤ j) : Cl P w K mg base j x sp := by
  obtain ⟨f, fd, ps, dvs, ds, F, m, kp, b, r⟩ := c
  exact ⟨f, fd, ps, dvs, ds, F.mono h, m, kp, b, r⟩
theorem ClN.calm (c : ClN P w K mg base k x sp) : Cl P w K mg base k x sp := by
  obtain ⟨f, fd, ps, F, m, kp, b⟩ := c
  exact .of F.calm m kp b
end
section
variable {X : Cx} {k : Nat} {x : Str} {p pos : Pos} {e : Expr} {es : List Expr} {t : TA} {sp : Sp}
theorem pe_cl (c : Cl X.prog X.w X.K X.mg X.base k x sp) (hr : Room k X.A) (ha : PA X (e :: es) t) (hg : Gl X x := by rfl)
    (hdb : (x == ("__debug__" : Str)) = false := by decide)
    (he : starEach (e :: es) X.env = (false, eval e X.env) :: starEach es X.env := by rfl)
    (hpl : (backTo pos (starEach es X.env)).any (·.1) = false := by rfl) : PE X (.Call (.Name x p) (e :: es) [] pos) (tCl sp t) := by
  obtain ⟨f, fd, ps, dvs, ds, F, m, kp, b, r⟩ := c
  refine ⟨fun pins s σ H Q I h => ?_⟩
  refine wpAny_Call_Name_kw (ld_glob I hg m ?_ hdb)
  refine PySem.W.callWith_K (h₀ := X.base) I.ok.mod.kin kp (thn (ha.run pos pins s σ H _ I h)
    fun us s1 ⟨vs, H1, I1, r1, q⟩ => ⟨I1.kIn, ?_⟩) he hpl
  exact run_fn F hr b r pass0 I1 r1 ⟨vs, rfl, q⟩
/-- a def that runs anywhere, called anywhere -/
theorem pe_clN (c : ClN X.prog X.w X.K X.mg X.base k x sp) (hr : RoomN k X.A) (ha : PA X (e :: es) t) (hg : Gl X x := by rfl)
    (hdb : (x == ("__debug__" : Str)) = false := by decide)
    (he : starEach (e :: es) X.env = (false, eval e X.env) :: starEach es X.env := by rfl)
    (hpl : (backTo pos (starEach es X.env)).any (·.1) = false := by rfl) : PE X (.Call (.Name x p) (e :: es) [] pos) (tCl sp t) := by
  obtain ⟨f, fd, ps, F, m, kp, b⟩ := c
  refine ⟨fun pins s σ H Q I h => ?_⟩
  refine wpAny_Call_Name_kw (ld_glob I hg m ?_ hdb)
  refine PySem.W.callWith_K (h₀ := X.base) I.ok.mod.kin kp (thn (ha.run pos pins s σ H _ I h)
    fun us s1 ⟨vs, H1, I1, r1, q⟩ => ⟨I1.kIn, ?_⟩) he hpl
  have hl : us.length = ps.length := by
    rw [← r1.length]
    exact F.len _ _ _ _ q
  have bb := b s1 us I1.kIn (by rw [List.append_nil]; exact hl)
  rw [List.append_nil] at bb
  refine wpAny_call (codeAny_mono (F.run X.A X.stack s1 H1 ⟨us, []⟩ us vs Q E0 hr I1.env0 bb r1 q) fun r s' hq => ?_)
  cases r with
  | error er => exact False.elim hq
  | ok fl =>
    cases fl with
    | ret u => exact I1.after hq
    | next => exact False.elim hq
    | brk => exact False.elim hq
    | cont => exact False.elim hq
/-- the heap with the suite's own exception held still in it -/
theorem un_held {fs ex : List Addr} {H H2 : Hp} {h h' : Heap} {a : Addr} {oe : Obj} {u : HO} {P : Program} {w : World}
    (U : Un fs ex (upd H a (.frz oe u)) H2 h h') (hok : HOk P w H2 h') (na : H a = none) (ha : h.get? a = some oe) :
    Un fs ex H (delH H2 a) h h' ∧ HOk P w (delH H2 a) h' := by
  have h2 : H2 a = some (.frz oe u) := U.frzs a oe u upd_same
  have ha' : h'.get? a = some oe := (show ObjOk P w H2 h' a (.frz oe u) from hok a _ h2).1
  refine ⟨⟨fun b o q n hb hx => ?_, fun b o q n hb hx => ?_, fun b o q n hx => ?_, fun b o q hx => U.there b o q hx,
    fun b xs q => ?_, fun b o v q => ?_, fun b ps q => ?_⟩, fun b o q => ?_⟩
  · by_cases c : b = a
    · rw [c] at q ⊢
      rw [ha] at q
      cases q
      exact ha'
    · exact U.keep b o q (by rw [upd_ne c]; exact n) hb hx
  · by_cases c : b = a
    · rw [c] at q ⊢
      rw [ha] at q
      cases q
      exact ⟨oe.slots, ha'⟩
    · exact U.slot b o q (by rw [upd_ne c]; exact n) hb hx
  · by_cases c : b = a
    · rw [c, delH_same]
    · rw [delH_ne c]
      exact U.free b o q (by rw [upd_ne c]; exact n) hx
  · have c : b ≠ a := ne_of_none q na
    rw [delH_ne c]
    exact U.tups b xs (by rw [upd_ne c]; exact q)
  · have c : b ≠ a := ne_of_none q na
    rw [delH_ne c]
    exact U.frzs b o v (by rw [upd_ne c]; exact q)
  · have c : b ≠ a := ne_of_none q na
    obtain ⟨m, z⟩ := U.tbls b ps (by rw [upd_ne c]; exact q)
    exact ⟨m, by rw [delH_ne c]; exact z⟩
  · by_cases c : b = a
    · rw [c, delH_same] at q
      cases q
    · rw [delH_ne c] at q
      refine (hok b o q).stay (fun c' v _ z => z) (fun c' z => ?_) fun c' xs z => ?_
      · rw [delH_ne (fun w => by rw [w, h2] at z; cases z)]
        exact z
      · rw [delH_ne (fun w => by rw [w, h2] at z; cases z)]
        exact z
/-- f(n), n the exception that the suite holds at a -/
def tClE (sp : Sp) (a : Addr) (oe : Obj) (te : TE) : TE := fun σ H Q => te σ H fun x H1 => x = .ref a ∧
  sp [.ref a] (upd H1 a (.frz oe (.ext fun h => h.get? a = some oe))) (fun v H2 => Q v (delH H2 a)) E0
theorem pe_clE {a : Addr} {oe : Obj} {pn : List (Addr × Obj)} {te : TE} (nb : X.base.get? a = none)
    (c : ClN X.prog X.w X.K X.mg X.base k x sp) (hr : RoomN k (X.suite a ((a, oe) :: pn)).A)
    (he : PE (X.suite a ((a, oe) :: pn)) e te) (hg : Gl X x := by rfl)
    (hdb : (x == ("__debug__" : Str)) = false := by decide)
    (hs : starEach [e] X.env = (false, eval e X.env) :: starEach [] X.env := by rfl)
    (hpl : (backTo pos (starEach [] X.env)).any (·.1) = false := by rfl) :
    PE (X.suite a ((a, oe) :: pn)) (.Call (.Name x p) [e] [] pos) (tClE sp a oe te) := by
  obtain ⟨f, fd, ps, F, m, kp, b⟩ := c
  refine ⟨fun pins s σ H Q I h => ?_⟩
  refine wpAny_Call_Name_kw (ld_glob (X := X.suite a ((a, oe) :: pn)) I hg m ?_ hdb)
  refine PySem.W.callWith_K (h₀ := X.base) I.ok.mod.kin kp ?_ hs hpl
  show wpAny _ _ (spliced (backTo pos (starEach [e] X.env))) _ _ s
  rw [hs]
  show wpAny _ _ (spliced ((false, eval e X.env) :: backTo pos (starEach [] X.env))) _ _ s
  refine Calls.spliced_cons (thn (he.run pins s σ H _ I h) fun u s1 ⟨v, H1, I1, r1, ev, q⟩ => ?_)
  subst ev
  obtain rfl : u = Value.ref a := r1
  refine Calls.spliced_nil ⟨I1.kIn, ?_⟩
  show wpAny _ _ (call (.ref f) [.ref a]) _ _ _
  have hl : [Value.ref a].length = ps.length := F.len _ _ _ _ q
  have bb := b s1 [.ref a] I1.kIn (by rw [List.append_nil]; exact hl)
  rw [List.append_nil] at bb
  obtain ⟨ha, na, nL, nF, _⟩ := I1.pin (a, oe) (List.mem_append_left _ List.mem_cons_self)
  have ha' : s1.heap.get? a = some oe := ha
  have na' : H1 a = none := na
  have e0 := I1.env0
  have hok : HOk X.prog X.w (upd H1 a (.frz oe (.ext fun h => h.get? a = some oe))) s1.heap := fun b o z => by
    by_cases c : b = a
    · rw [c, upd_same] at z
      cases z
      rw [c]
      exact ⟨ha', ha', ⟨oe, ha'⟩, fun h1 h2 z k => k _ z⟩
    · rw [upd_ne c] at z
      refine (I1.hok b o z).stay (fun c' v _ z => z) (fun c' z => ?_) fun c' xs z => ?_
      · rw [upd_ne (ne_of_none z na')]
        exact z
      · rw [upd_ne (ne_of_none z na')]
        exact z
  have e1 : Env0 X.prog X.w X.K X.mg X.base (X.suite a ((a, oe) :: pn)).A X.stack s1 (upd H1 a (.frz oe (.ext fun h => h.get? a = some oe))) := by
    refine ⟨e0.frames, e0.mod, fun b o z => ⟨(e0.bs b o z).1, ?_⟩, e0.bsz, e0.funs, fun b hb => ?_, hok, e0.bare⟩
    · rw [upd_ne (fun w => by rw [w, nb] at z; cases z)]
      exact (e0.bs b o z).2
    · have c : b ≠ a := fun w => by
        rw [w] at hb
        rcases List.mem_cons.mp (I1.stkSub a hb) with z | z
        · exact nL z
        · exact nF z
      rw [upd_ne c]
      exact e0.frf b hb
  refine wpAny_call (codeAny_mono (F.run _ X.stack s1 _ ⟨[.ref a], []⟩ [.ref a] [.ref a] _ E0 hr e1 bb (.cons rfl .nil) q) fun r s' hq => ?_)
  cases r with
  | error er => exact False.elim hq
  | ok fl =>
    cases fl with
    | ret u =>
      obtain ⟨v, H2, os2, bare2, un2, hok2, rv, q2⟩ := hq
      obtain ⟨U, hk⟩ := un_held un2 hok2 na' ha'
      exact I1.after (Q := Q) ⟨v, delH H2 a, os2, bare2, U, hk, rv, q2⟩
    | next => exact False.elim hq
    | brk => exact False.elim hq
    | cont => exact False.elim hq
end
end Xn
/-! The head: what the top leaves, by names. -/
namespace Hd
open PySem PySem.Spec PyProof.Rows L2
/-- the i-th statement of the top -/
def top (i : Nat) : Stmt := PySem.Challenge.pw_causehall_k51_refusals_apart.main.body.getD i (.Pass ⟨0, 0, 0, 0⟩)
abbrev s_NoNumber : Stmt := inClass (top 4) 0
def d_NoNumber : He.DefD := ⟨("NoNumber", some "__init__"), "__init__", "NoNumber.__init__", defArgs s_NoNumber, defBody s_NoNumber, defScope s_NoNumber, [], []⟩
abbrev s_NoWord : Stmt := inClass (top 5) 0
def d_NoWord : He.DefD := ⟨("NoWord", some "__init__"), "__init__", "NoWord.__init__", defArgs s_NoWord, defBody s_NoWord, defScope s_NoWord, [], []⟩
abbrev s_NoMember : Stmt := inClass (top 6) 0
def d_NoMember : He.DefD := ⟨("NoMember", some "__init__"), "__init__", "NoMember.__init__", defArgs s_NoMember, defBody s_NoMember, defScope s_NoMember, [], []⟩
abbrev s_NoCounts : Stmt := inClass (top 7) 0
def d_NoCounts : He.DefD := ⟨("NoCounts", some "__init__"), "__init__", "NoCounts.__init__", defArgs s_NoCounts, defBody s_NoCounts, defScope s_NoCounts, [], []⟩
abbrev s_Unlike : Stmt := inClass (top 8) 0
def d_Unlike : He.DefD := ⟨("Unlike", some "__init__"), "__init__", "Unlike.__init__", defArgs s_Unlike, defBody s_Unlike, defScope s_Unlike, [], []⟩
abbrev s_NoLetter : Stmt := inClass (top 9) 0
def d_NoLetter : He.DefD := ⟨("NoLetter", some "__init__"), "__init__", "NoLetter.__init__", defArgs s_NoLetter, defBody s_NoLetter, defScope s_NoLetter, [], []⟩
abbrev s_NoCauses : Stmt := inClass (top 10) 0
def d_NoCauses : He.DefD := ⟨("NoCauses", some "__init__"), "__init__", "NoCauses.__init__", defArgs s_NoCauses, defBody s_NoCauses, defScope s_NoCauses, [], []⟩
abbrev s_Forged : Stmt := inClass (top 11) 0
def d_Forged : He.DefD := ⟨("Forged", some "__init__"), "__init__", "Forged.__init__", defArgs s_Forged, defBody s_Forged, defScope s_Forged, [], []⟩
abbrev s_NoShort : Stmt := inClass (top 12) 0
def d_NoShort : He.DefD := ⟨("NoShort", some "__init__"), "__init__", "NoShort.__init__", defArgs s_NoShort, defBody s_NoShort, defScope s_NoShort, [], []⟩
abbrev s_NoThing : Stmt := inClass (top 13) 0
def d_NoThing : He.DefD := ⟨("NoThing", some "__init__"), "__init__", "NoThing.__init__", defArgs s_NoThing, defBody s_NoThing, defScope s_NoThing, [], []⟩
abbrev s_NoDeed : Stmt := inClass (top 14) 0
def d_NoDeed : He.DefD := ⟨("NoDeed", some "__init__"), "__init__", "NoDeed.__init__", defArgs s_NoDeed, defBody s_NoDeed, defScope s_NoDeed, [], []⟩
abbrev s_NoHistory : Stmt := inClass (top 15) 0
def d_NoHistory : He.DefD := ⟨("NoHistory", some "__init__"), "__init__", "NoHistory.__init__", defArgs s_NoHistory, defBody s_NoHistory, defScope s_NoHistory, [], []⟩
abbrev s_NoRow : Stmt := inClass (top 16) 0
def d_NoRow : He.DefD := ⟨("NoRow", some "__init__"), "__init__", "NoRow.__init__", defArgs s_NoRow, defBody s_NoRow, defScope s_NoRow, [], []⟩
abbrev s_NoText : Stmt := inClass (top 17) 0
def d_NoText : He.DefD := ⟨("NoText", some "__init__"), "__init__", "NoText.__init__", defArgs s_NoText, defBody s_NoText, defScope s_NoText, [], []⟩
abbrev s_TooMany : Stmt := inClass (top 18) 0
def d_TooMany : He.DefD := ⟨("TooMany", some "__init__"), "__init__", "TooMany.__init__", defArgs s_TooMany, defBody s_TooMany, defScope s_TooMany, [], []⟩
abbrev s_NotThere : Stmt := inClass (top 19) 0
def d_NotThere : He.DefD := ⟨("NotThere", some "__init__"), "__init__", "NotThere.__init__", defArgs s_NotThere, defBody s_NotThere, defScope s_NotThere, [], []⟩
abbrev s_NotOnRoad : Stmt := inClass (top 20) 0
def d_NotOnRoad : He.DefD := ⟨("NotOnRoad", some "__init__"), "__init__", "NotOnRoad.__init__", defArgs s_NotOnRoad, defBody s_NotOnRoad, defScope s_NotOnRoad, [], []⟩
abbrev s_Lacks : Stmt := inClass (top 21) 0
def d_Lacks : He.DefD := ⟨("Lacks", some "__init__"), "__init__", "Lacks.__init__", defArgs s_Lacks, defBody s_Lacks, defScope s_Lacks, [], []⟩
abbrev s_Known : Stmt := inClass (top 22) 0
def d_Known : He.DefD := ⟨("Known", some "__init__"), "__init__", "Known.__init__", defArgs s_Known, defBody s_Known, defScope s_Known, [], []⟩
abbrev s_Stopped : Stmt := inClass (top 23) 0
def d_Stopped : He.DefD := ⟨("Stopped", some "__init__"), "__init__", "Stopped.__init__", defArgs s_Stopped, defBody s_Stopped, defScope s_Stopped, [], []⟩
abbrev s_Awake : Stmt := inClass (top 24) 0
def d_Awake : He.DefD := ⟨("Awake", some "__init__"), "__init__", "Awake.__init__", defArgs s_Awake, defBody s_Awake, defScope s_Awake, [], []⟩
abbrev s_AllTold : Stmt := inClass (top 25) 0
def d_AllTold : He.DefD := ⟨("AllTold", some "__init__"), "__init__", "AllTold.__init__", defArgs s_AllTold, defBody s_AllTold, defScope s_AllTold, [], []⟩
abbrev s_NoSeat : Stmt := inClass (top 26) 0
def d_NoSeat : He.DefD := ⟨("NoSeat", some "__init__"), "__init__", "NoSeat.__init__", defArgs s_NoSeat, defBody s_NoSeat, defScope s_NoSeat, [], []⟩
abbrev s_Full : Stmt := inClass (top 27) 0
def d_Full : He.DefD := ⟨("Full", some "__init__"), "__init__", "Full.__init__", defArgs s_Full, defBody s_Full, defScope s_Full, [], []⟩
abbrev s_NotQuiet : Stmt := inClass (top 28) 0
def d_NotQuiet : He.DefD := ⟨("NotQuiet", some "__init__"), "__init__", "NotQuiet.__init__", defArgs s_NotQuiet, defBody s_NotQuiet, defScope s_NotQuiet, [], []⟩
abbrev s__law_pool : Stmt := top 30
def d__law_pool : He.DefD := ⟨("_law_pool", none), "_law_pool", "_law_pool", defArgs s__law_pool, defBody s__law_pool, defScope s__law_pool, [], []⟩
abbrev s__law_take : Stmt := top 31
def d__law_take : He.DefD := ⟨("_law_take", none), "_law_take", "_law_take", defArgs s__law_take, defBody s__law_take, defScope s__law_take, [], []⟩
abbrev s__law_thing : Stmt := top 32
def d__law_thing : He.DefD := ⟨("_law_thing", none), "_law_thing", "_law_thing", defArgs s__law_thing, defBody s__law_thing, defScope s__law_thing, [], []⟩
abbrev s__law_by_place : Stmt := top 33
def d__law_by_place : He.DefD := ⟨("_law_by_place", none), "_law_by_place", "_law_by_place", defArgs s__law_by_place, defBody s__law_by_place, defScope s__law_by_place, [], []⟩
abbrev s__law_by_place_more : Stmt := top 34
def d__law_by_place_more : He.DefD := ⟨("_law_by_place_more", none), "_law_by_place_more", "_law_by_place_more", defArgs s__law_by_place_more, defBody s__law_by_place_more, defScope s__law_by_place_more, [], []⟩
abbrev s__law_by_name : Stmt := top 35
def d__law_by_name : He.DefD := ⟨("_law_by_name", none), "_law_by_name", "_law_by_name", defArgs s__law_by_name, defBody s__law_by_name, defScope s__law_by_name, [], []⟩
abbrev s__law_by_name_more : Stmt := top 36
def d__law_by_name_more : He.DefD := ⟨("_law_by_name_more", none), "_law_by_name_more", "_law_by_name_more", defArgs s__law_by_name_more, defBody s__law_by_name_more, defScope s__law_by_name_more, [], []⟩
abbrev s__law_classes : Stmt := top 37
def d__law_classes : He.DefD := ⟨("_law_classes", none), "_law_classes", "_law_classes", defArgs s__law_classes, defBody s__law_classes, defScope s__law_classes, [], []⟩
abbrev s__law_families : Stmt := top 38
def d__law_families : He.DefD := ⟨("_law_families", none), "_law_families", "_law_families", defArgs s__law_families, defBody s__law_families, defScope s__law_families, [], []⟩
abbrev s__law_due_families : Stmt := top 39
def d__law_due_families : He.DefD := ⟨("_law_due_families", none), "_law_due_families", "_law_due_families", defArgs s__law_due_families, defBody s__law_due_families, defScope s__law_due_families, [], []⟩
abbrev s__law_field : Stmt := top 40
def d__law_field : He.DefD := ⟨("_law_field", none), "_law_field", "_law_field", defArgs s__law_field, defBody s__law_field, defScope s__law_field, [], []⟩
abbrev s__law_right : Stmt := top 41
def d__law_right : He.DefD := ⟨("_law_right", none), "_law_right", "_law_right", defArgs s__law_right, defBody s__law_right, defScope s__law_right, [], []⟩
abbrev s__law_raised : Stmt := top 42
def d__law_raised : He.DefD := ⟨("_law_raised", none), "_law_raised", "_law_raised", defArgs s__law_raised, defBody s__law_raised, defScope s__law_raised, [], []⟩
abbrev s__law_base : Stmt := top 43
def d__law_base : He.DefD := ⟨("_law_base", none), "_law_base", "_law_base", defArgs s__law_base, defBody s__law_base, defScope s__law_base, [], []⟩
abbrev s_law : Stmt := top 44
def d_law : He.DefD := ⟨("law", none), "law", "law", defArgs s_law, defBody s_law, defScope s_law, [], []⟩
def fn : List He.DefD := [d_NoNumber, d_NoWord, d_NoMember, d_NoCounts, d_Unlike, d_NoLetter, d_NoCauses, d_Forged, d_NoShort, d_NoThing, d_NoDeed, d_NoHistory, d_NoRow, d_NoText, d_TooMany, d_NotThere, d_NotOnRoad, d_Lacks, d_Known, d_Stopped, d_Awake, d_AllTold, d_NoSeat, d_Full, d_NotQuiet, d__law_pool, d__law_take, d__law_thing, d__law_by_place, d__law_by_place_more, d__law_by_name, d__law_by_name_more, d__law_classes, d__law_families, d__law_due_families, d__law_field, d__law_right, d__law_raised, d__law_base, d_law]
def exs : List Str := ["NoNumber", "NoWord", "NoMember", "NoCounts", "Unlike", "NoLetter", "NoCauses", "Forged", "NoShort", "NoThing", "NoDeed", "NoHistory", "NoRow", "NoText", "TooMany", "NotThere", "NotOnRoad", "Lacks", "Known", "Stopped", "Awake", "AllTold", "NoSeat", "Full", "NotQuiet"]
def fms : List Str := ["HallError", "Missing", "Barred"]
def gl1 : List Str := ["HallError", "Missing", "Barred", "NoNumber", "NoWord", "NoMember", "NoCounts", "Unlike", "NoLetter", "NoCauses", "Forged", "NoShort", "NoThing", "NoDeed", "NoHistory", "NoRow", "NoText", "TooMany", "NotThere", "NotOnRoad", "Lacks", "Known", "Stopped", "Awake", "AllTold", "NoSeat", "Full", "NotQuiet"]
def gl2 : List Str := ["_law_pool", "_law_take", "_law_thing", "_law_by_place", "_law_by_place_more", "_law_by_name", "_law_by_name_more", "_law_classes", "_law_families", "_law_due_families", "_law_field", "_law_right", "_law_raised", "_law_base", "law"]
def gl : List Str := gl1 ++ gl2
def fr : List Str := ["isinstance", "list", "dict", "bool", "str", "range", "ValueError", "KeyError", "LookupError"]
def fa : List He.Fa := gl.map He.Fa.glo ++ fr.map He.Fa.free
/-- the class x over the line tl, made by newId, its own field fld -/
def xcB (K : PySem.W.Frag) (x : Str) (tl : List Value) (newId : String) : Bool :=
  (match K.lookup (He.ga K x) with
    | some ⟨.type "type", _, .cls cd, sl⟩ => (match cd.mro, sl.toList with
      | .ref C :: bm, [_, _, _, _, some (.builtin n), _] =>
        C == He.ga K x && (n == newId && (!cd.hasDel && (cd.hasDict && PySem.W.excTail tl bm)))
      | _, _ => false)
    | _ => false) &&
  (He.eqO (PySem.W.findIn K (.ref (He.ga K x)) "__setattr__") (some (some (.builtin "object.__setattr__"))) &&
  (decide (PySem.W.subIn K (.ref (He.ga K x)) (.type "BaseException") = some true) &&
  (decide (PySem.W.typeIn K (.ref (He.ga K x)) = some (.type "type")) &&
  (PySem.W.keepIn K (.ref (He.ga K x)) &&
  (He.eqO (PySem.W.findIn K (.ref (He.ga K x)) "__getattribute__") (some (some (.builtin "BaseException.__getattribute__"))) &&
  (He.eqO (PySem.W.findIn K (.ref (He.ga K x)) "__getattr__") (some none) &&
  (He.eqO (PySem.W.findIn K (.ref (He.ga K x)) "__class__") (some (some (.builtin "object.__class__"))) &&
  (He.eqO (PySem.W.specialIn K (.builtin "object.__class__") "__get__") (some (some (.builtin "getset_descriptor.__get__"))) &&
  (decide (PySem.W.takesIn K (.builtin "object.__class__") = some true) &&
  decide (PySem.W.mroIn K (He.ga K x) (.type "object") = some true))))))))))
def fields : List Str := ["found", "at", "many"]
/-- its __init__ is a def, no class has its field -/
def xiB (K : PySem.W.Frag) (x : Str) : Bool :=
  He.eqO (PySem.W.findIn K (.ref (He.ga K x)) "__init__") (some (some (.ref (He.ma K (He.ga K x) "__init__")))) &&
  (decide (PySem.W.typeIn K (.ref (He.ma K (He.ga K x) "__init__")) = some (.type "function")) &&
  fields.all fun f => He.eqO (PySem.W.findIn K (.ref (He.ga K x)) f) (some none))
/-- a family says its __init__ -/
def fmB (K : PySem.W.Frag) (x : Str) (i : String) : Bool :=
  PySem.W.readsIn K (He.ga K x) (.type "type") &&
  (He.eqO (PySem.W.specialIn K (.ref (He.ga K x)) "__getattribute__") (some (some (.builtin "type.__getattribute__"))) &&
  (He.eqO (PySem.W.findIn K (.ref (He.ga K x)) "__init__") (some (some (.builtin i))) &&
  (match PySem.W.findCls K (.ref (He.ga K x)) (.type "type") "__init__" with
    | some (.val (.builtin j)) => j == i
    | _ => false)))
/-- isinstance of x's, by the classes ys and types ts -/
def kitB (K : PySem.W.Frag) (x : Str) (ys : List Str) (ts : List String) (f : Str → Bool) (g : String → Bool) : Bool :=
  (ys.all fun y => decide (PySem.W.kitOne K (.ref (He.ga K x)) (.ref (He.ga K y)) = some (f y))) &&
  ts.all fun t => decide (PySem.W.kitOne K (.ref (He.ga K x)) (.type t) = some (g t))
/-- which family each of them is of -/
def famOf (x : Str) : Str := if x ∈ (exs.take 15) ∨ x = "HallError" then "HallError" else if x ∈ (exs.drop 15).take 2 ∨ x = "Missing" then "Missing" else "Barred"
def tys : List String := ["ValueError", "KeyError", "LookupError"]
def tyOf (x : Str) (t : String) : Bool := if famOf x = "HallError" then t == "ValueError" else if famOf x = "Missing" then t == "KeyError" || t == "LookupError" else t == "LookupError"
def tlOf (x : Str) : List Value := if famOf x = "HallError" then Xn.vTail else if famOf x = "Missing" then Xn.kTail else Xn.lTail
def newOf (x : Str) : String := if famOf x = "HallError" then "ValueError.__new__" else "LookupError.__new__"
def initOf (x : Str) : String := if famOf x = "HallError" then "ValueError.__init__" else if famOf x = "Missing" then "KeyError.__init__" else "LookupError.__init__"
def rzs : List Str := ["NoNumber", "NotThere", "Lacks"]
def exB (K : PySem.W.Frag) : Bool :=
  ((fms ++ exs).all fun x => xcB K x (tlOf x) (newOf x)) &&
  ((exs.all fun x => xiB K x) &&
  ((fms.all fun x => fmB K x (initOf x)) &&
  (((fms ++ exs).all fun x => kitB K x (fms ++ exs) tys (fun y => decide (y = x ∨ y = famOf x)) (tyOf x)) &&
  (rzs.all fun x => decide (PySem.W.exmAny K (.ref (He.ga K x)) (fms.map fun y => .ref (He.ga K y)) = some true)))))
/-! ### the Hook -/
abbrev AlE : Type := He.AlD × Bool
/-- what the names reach, and the interpreter's own table -/
def frE (g : Addr → Option Obj) : PySem.W.Frag := He.frG g (PySem.cStatics :: He.asD g 5)
def hookE : PySem.W.Hook where
  α := AlE
  obs := fun s => (He.obsD fa fn (frE s.heap.get?), exB (frE s.heap.get?))
  val := fun _ => (He.valD fn, true)
  says := fun _ h => ∃ K : PySem.W.Frag, K.In h ∧ He.SaysD fa fn K ∧ exB K = true
  of := fun _ _ e => ⟨_, He.frG_in, congrArg (fun z : AlE => z.1) e, congrArg (fun z : AlE => z.2) e⟩
  keeps := fun _ _ _ ⟨K, hK, c⟩ k => ⟨K, PySem.W.Frag.In.keeps hK k, c⟩
abbrev R : PySem.W.OpenRow := PySem.W.OpenLaw.row PySem.Challenge.rw_causehall_k51_refusals_apart
def ob (s : PySem.W.SharedT) : AlE := (He.obsD fa fn (frE (HandSHeadRun.getT s)), exB (frE (HandSHeadRun.getT s)))
theorem ob_eq (s : PySem.W.SharedT) : ob s = hookE.obs s.abs := by
  have e : HandSHeadRun.getT s = s.abs.heap.get? := funext (HandSHeadRun.getT_eq s)
  unfold ob
  rw [e]
  rfl
def lo0 : List PySem.Str := ["HallError", "Missing", "Barred", "NoNumber", "NoWord", "NoMember", "NoCounts", "Unlike", "NoLetter", "NoCauses", "Forged", "NoShort", "NoThing", "NoDeed", "NoHistory", "NoRow", "NoText", "TooMany", "NotThere", "NotOnRoad"]
def lo1 : List PySem.Str := ["Lacks", "Known", "Stopped", "Awake", "AllTold", "NoSeat", "Full", "NotQuiet", "_law_pool", "_law_take", "_law_thing", "_law_by_place", "_law_by_place_more", "_law_by_name", "_law_by_name_more", "_law_classes", "_law_families", "_law_due_families", "_law_field", "_law_right"]
def lo2 : List PySem.Str := ["_law_raised", "_law_base"]
def loose : List PySem.Str := lo0 ++ lo1 ++ lo2
theorem run (w : World) : HandSHeadRun.RunEq R (PySem.W.view R.prog [44]) hookE ob 8000 loose w := by
  intro os
  kernel_rfl
end Hd
/-! What the head's Bools say. -/
namespace Hd
open PySem PySem.Spec PyProof.Rows L2
/-- the top's facts, as the walk takes them -/
structure Tx (K : PySem.W.Frag) (mg : Str → Option Value) : Prop where
  g : ∀ x ∈ gl, mg x = some (.ref (He.ga K x))
  f : ∀ x ∈ fr, mg x = none
  e : exB K = true
abbrev ba := @He.ba
theorem base_of (x : Str) : ∃ B Bi, Xn.BaseX (tlOf x) B (newOf x) Bi (initOf x) := by
  unfold tlOf newOf initOf
  by_cases h1 : famOf x = "HallError"
  · rw [if_pos h1, if_pos h1, if_pos h1]
    exact ⟨_, _, Xn.base_v⟩
  · rw [if_neg h1, if_neg h1, if_neg h1]
    by_cases h2 : famOf x = "Missing"
    · rw [if_pos h2, if_pos h2]
      exact ⟨_, _, Xn.base_k⟩
    · rw [if_neg h2, if_neg h2]
      exact ⟨_, _, Xn.base_l⟩
theorem xc_of {K : PySem.W.Frag} {x : Str} (h : xcB K x (tlOf x) (newOf x) = true) : Xn.XC K (He.ga K x) (initOf x) := by
  obtain ⟨h0, h⟩ := He.ba h
  obtain ⟨h1, h⟩ := He.ba h
  obtain ⟨h2, h⟩ := He.ba h
  obtain ⟨h3, h⟩ := He.ba h
  obtain ⟨h4, h⟩ := He.ba h
  obtain ⟨h5, h⟩ := He.ba h
  obtain ⟨h6, h⟩ := He.ba h
  obtain ⟨h7, h⟩ := He.ba h
  obtain ⟨h8, h⟩ := He.ba h
  obtain ⟨h9, h10⟩ := He.ba h
  refine ⟨?_, He.eqO_ok h1, of_decide_eq_true h2, of_decide_eq_true h3, h4, He.eqO_ok h5, He.eqO_ok h6, He.eqO_ok h7,
    He.eqO_ok h8, of_decide_eq_true h9, of_decide_eq_true h10⟩
  obtain ⟨B, Bi, Y⟩ := base_of x
  cases e : K.lookup (He.ga K x) with
  | none =>
    rw [e] at h0
    cases h0
  | some o =>
    rw [e] at h0
    obtain ⟨oc, od, dt, sl⟩ := o
    cases oc with
    | type c =>
      by_cases hc : c = "type"
      · subst hc
        cases dt with
        | cls cd =>
          obtain ⟨nm, bs, mro, ns, qn, hd, sn, sb, ab, col, del⟩ := cd
          cases mro with
          | nil => cases h0
          | cons m0 bm =>
            cases m0 with
            | ref C =>
              obtain ⟨sl⟩ := sl
              match sl, h0 with
              | [k0, k1, k2, k3, some (.builtin n), k5], h0 =>
                obtain ⟨a1, h0⟩ := He.ba (show (C == He.ga K x && (n == newOf x && (!del && (hd && PySem.W.excTail (tlOf x) bm)))) = true from h0)
                obtain ⟨a2, h0⟩ := He.ba h0
                obtain ⟨a3, h0⟩ := He.ba h0
                obtain ⟨a4, a5⟩ := He.ba h0
                have e1 : C = He.ga K x := beq_iff_eq.mp a1
                have e2 : n = newOf x := beq_iff_eq.mp a2
                have e3 : del = false := by simpa using a3
                subst e3 a4 e2
                rw [e1]
                exact ⟨_, B, _, Bi, _, _, _, _, _, _, _, _, _, _, _, _, _, _, _, Y, rfl, a5⟩
            | _ => cases h0
        | _ => cases h0
      · exfalso
        revert h0
        cases dt <;> simp [hc]
    | _ => cases h0
section
variable {K : PySem.W.Frag} {mg : Str → Option Value}
theorem Tx.xc (T : Tx K mg) (x : Str) (h : x ∈ fms ++ exs := by decide +kernel) : Xn.XC K (He.ga K x) (initOf x) :=
  xc_of (List.all_eq_true.mp (He.ba T.e).1 x h)
theorem Tx.xi (T : Tx K mg) (x : Str) (h : x ∈ exs := by decide +kernel) : xiB K x = true :=
  List.all_eq_true.mp (He.ba (He.ba T.e).2).1 x h
theorem Tx.init (T : Tx K mg) (x : Str) (h : x ∈ exs := by decide +kernel) :
    PySem.W.findIn K (.ref (He.ga K x)) "__init__" = some (some (.ref (He.ma K (He.ga K x) "__init__"))) ∧
    PySem.W.typeIn K (.ref (He.ma K (He.ga K x) "__init__")) = some (.type "function") := by
  obtain ⟨h1, h2⟩ := He.ba (T.xi x h)
  exact ⟨He.eqO_ok h1, of_decide_eq_true (He.ba h2).1⟩
theorem Tx.nof (T : Tx K mg) (x f : Str) (h : x ∈ exs := by decide +kernel) (hf : f ∈ fields := by decide +kernel) :
    PySem.W.findIn K (.ref (He.ga K x)) f = some none := by
  obtain ⟨_, h2⟩ := He.ba (T.xi x h)
  exact He.eqO_ok (List.all_eq_true.mp (He.ba h2).2 f hf)
theorem Tx.fam (T : Tx K mg) (x : Str) (h : x ∈ fms := by decide +kernel) : Xn.FamC K (He.ga K x) (initOf x) := by
  have c := List.all_eq_true.mp (He.ba (He.ba (He.ba T.e).2).2).1 x h
  obtain ⟨h1, c⟩ := He.ba c
  obtain ⟨h2, c⟩ := He.ba c
  obtain ⟨h3, h4⟩ := He.ba c
  refine ⟨h1, He.eqO_ok h2, by unfold initOf; split <;> (try split) <;> decide +kernel, ?_⟩
  cases e : PySem.W.findCls K (.ref (He.ga K x)) (.type "type") "__init__" with
  | none =>
    rw [e] at h4
    cases h4
  | some r =>
    rw [e] at h4
    cases r with
    | val v =>
      cases v with
      | builtin j =>
        have z : j = initOf x := beq_iff_eq.mp h4
        rw [z]
      | _ => cases h4
    | get _ _ _ _ => cases h4
theorem Tx.famI (T : Tx K mg) (x : Str) (h : x ∈ fms := by decide +kernel) :
    PySem.W.findIn K (.ref (He.ga K x)) "__init__" = some (some (.builtin (initOf x))) := by
  have c := List.all_eq_true.mp (He.ba (He.ba (He.ba T.e).2).2).1 x h
  obtain ⟨h1, c⟩ := He.ba c
  obtain ⟨h2, c⟩ := He.ba c
  exact He.eqO_ok (He.ba c).1
theorem Tx.kit (T : Tx K mg) (x y : Str) (h : x ∈ fms ++ exs) (hy : y ∈ fms ++ exs := by decide +kernel) :
    PySem.W.kitOne K (.ref (He.ga K x)) (.ref (He.ga K y)) = some (decide (y = x ∨ y = famOf x)) := by
  have c := List.all_eq_true.mp (He.ba (He.ba (He.ba (He.ba T.e).2).2).2).1 x h
  exact of_decide_eq_true (List.all_eq_true.mp (He.ba c).1 y hy)
theorem Tx.kitT (T : Tx K mg) (x : Str) (t : String) (h : x ∈ fms ++ exs) (ht : t ∈ tys := by decide +kernel) :
    PySem.W.kitOne K (.ref (He.ga K x)) (.type t) = some (tyOf x t) := by
  have c := List.all_eq_true.mp (He.ba (He.ba (He.ba (He.ba T.e).2).2).2).1 x h
  exact of_decide_eq_true (List.all_eq_true.mp (He.ba c).2 t ht)
theorem Tx.exm (T : Tx K mg) (x : Str) (h : x ∈ rzs := by decide +kernel) :
    PySem.W.exmAny K (.ref (He.ga K x)) [.ref (He.ga K "HallError"), .ref (He.ga K "Missing"), .ref (He.ga K "Barred")] = some true :=
  of_decide_eq_true (List.all_eq_true.mp (He.ba (He.ba (He.ba (He.ba T.e).2).2).2).2 x h)
end
end Hd
/-! The refusals' own __init__s. -/
namespace Hd
open PySem PySem.Spec PyProof.Rows L2
theorem Tx.xcI {K : PySem.W.Frag} {mg : Str → Option Value} (T : Tx K mg) (x : Str) (i : String) (h : x ∈ fms ++ exs := by decide +kernel) (e : initOf x = i := by decide +kernel) : Xn.XC K (He.ga K x) i := by
  have c := T.xc x h
  rw [e] at c
  exact c
/-- a def without defaults, as an object -/
theorem plainD {K : PySem.W.Frag} {x qual : Str} {params : Arguments} {body : List Stmt} {scope : Scope} {f : Addr} {fd : FuncData} (F : FunD K x qual params body scope [] [] f fd) :
    ∃ (kV doc pm : Value) (an : Option Addr) (cdv ct : Value), fd = PySem.W.fnOf x qual params body scope .none kV doc pm an cdv ct := by
  obtain ⟨oc, od, dV, kV, doc, pm, an, cdv, ct, osl, rfl, lk, hcd, hD, hK⟩ := F.ex
  rcases hD with ⟨_, rfl⟩ | ⟨e, _⟩
  · exact ⟨_, _, _, _, _, _, rfl⟩
  · exact absurd rfl e
section
variable {P : Program} {w : World} {K : PySem.W.Frag} {mg : Str → Option Value} {base : Heap}
theorem sc_NoNumber : FnScope ["self", "found"] ["self", "found"] d_NoNumber.scope := ⟨rfl, rfl, rfl, by decide +kernel, rfl, by decide +kernel, by decide +kernel⟩
theorem mk_NoNumber (T : Tx K mg) {f : Addr} {fd : FuncData} (hf : f = He.ma K (He.ga K "NoNumber") "__init__") (F : FunD K d_NoNumber.name d_NoNumber.qual d_NoNumber.params d_NoNumber.body d_NoNumber.scope [] [] f fd) :
    Xn.MkX P w K mg base (He.ga K "NoNumber") (initOf "HallError") 1 "found" "found" := by
  have X := T.xcI "NoNumber" (initOf "HallError")
  refine ⟨X, f, fd, hf ▸ (T.init "NoNumber").1, hf ▸ (T.init "NoNumber").2, ?_, ?_, ?_⟩
  · refine F.ok sc_NoNumber (fun vs H Q E h => ?_) (fun cdv A outer s H vs Q E hr h => ?_)
    · obtain ⟨a, v, rfl, _⟩ := h
      rfl
    · obtain ⟨a, v, rfl, ha, k⟩ := h
      refine ⟨_, PSs.nox (pss_cons (ps_expr (Xn.pe_fam rfl (T.g "HallError" (by decide +kernel)) (T.fam "HallError") (pa_cons (pv 0) (pa_cons pe_str pa_nil)))) (pss_one (Xn.ps_stX (pv 0) (pv 1)))), ?_⟩
      exact ⟨_, rfl, a, _, _, rfl, by show 1 ≤ 1000; decide, X, ha, _, rfl, _, rfl, a, _, _, rfl, X, T.nof "NoNumber" "found", ha, fun dx h1 h2 => k dx h1 h2⟩
  · intro z u
    obtain ⟨kV, doc, pm, an, cdv, ct, rfl⟩ := plainD F
    rfl
  · intro z u
    obtain ⟨kV, doc, pm, an, cdv, ct, rfl⟩ := plainD F
    rfl
theorem sc_NoWord : FnScope ["self", "found"] ["self", "found"] d_NoWord.scope := ⟨rfl, rfl, rfl, by decide +kernel, rfl, by decide +kernel, by decide +kernel⟩
theorem mk_NoWord (T : Tx K mg) {f : Addr} {fd : FuncData} (hf : f = He.ma K (He.ga K "NoWord") "__init__") (F : FunD K d_NoWord.name d_NoWord.qual d_NoWord.params d_NoWord.body d_NoWord.scope [] [] f fd) :
    Xn.MkX P w K mg base (He.ga K "NoWord") (initOf "HallError") 1 "found" "found" := by
  have X := T.xcI "NoWord" (initOf "HallError")
  refine ⟨X, f, fd, hf ▸ (T.init "NoWord").1, hf ▸ (T.init "NoWord").2, ?_, ?_, ?_⟩
  · refine F.ok sc_NoWord (fun vs H Q E h => ?_) (fun cdv A outer s H vs Q E hr h => ?_)
    · obtain ⟨a, v, rfl, _⟩ := h
      rfl
    · obtain ⟨a, v, rfl, ha, k⟩ := h
      refine ⟨_, PSs.nox (pss_cons (ps_expr (Xn.pe_fam rfl (T.g "HallError" (by decide +kernel)) (T.fam "HallError") (pa_cons (pv 0) (pa_cons pe_str pa_nil)))) (pss_one (Xn.ps_stX (pv 0) (pv 1)))), ?_⟩
      exact ⟨_, rfl, a, _, _, rfl, by show 1 ≤ 1000; decide, X, ha, _, rfl, _, rfl, a, _, _, rfl, X, T.nof "NoWord" "found", ha, fun dx h1 h2 => k dx h1 h2⟩
  · intro z u
    obtain ⟨kV, doc, pm, an, cdv, ct, rfl⟩ := plainD F
    rfl
  · intro z u
    obtain ⟨kV, doc, pm, an, cdv, ct, rfl⟩ := plainD F
    rfl
theorem sc_NoMember : FnScope ["self", "found"] ["self", "found"] d_NoMember.scope := ⟨rfl, rfl, rfl, by decide +kernel, rfl, by decide +kernel, by decide +kernel⟩
theorem mk_NoMember (T : Tx K mg) {f : Addr} {fd : FuncData} (hf : f = He.ma K (He.ga K "NoMember") "__init__") (F : FunD K d_NoMember.name d_NoMember.qual d_NoMember.params d_NoMember.body d_NoMember.scope [] [] f fd) :
    Xn.MkX P w K mg base (He.ga K "NoMember") (initOf "HallError") 1 "found" "found" := by
  have X := T.xcI "NoMember" (initOf "HallError")
  refine ⟨X, f, fd, hf ▸ (T.init "NoMember").1, hf ▸ (T.init "NoMember").2, ?_, ?_, ?_⟩
  · refine F.ok sc_NoMember (fun vs H Q E h => ?_) (fun cdv A outer s H vs Q E hr h => ?_)
    · obtain ⟨a, v, rfl, _⟩ := h
      rfl
    · obtain ⟨a, v, rfl, ha, k⟩ := h
      refine ⟨_, PSs.nox (pss_cons (ps_expr (Xn.pe_fam rfl (T.g "HallError" (by decide +kernel)) (T.fam "HallError") (pa_cons (pv 0) (pa_cons pe_str pa_nil)))) (pss_one (Xn.ps_stX (pv 0) (pv 1)))), ?_⟩
      exact ⟨_, rfl, a, _, _, rfl, by show 1 ≤ 1000; decide, X, ha, _, rfl, _, rfl, a, _, _, rfl, X, T.nof "NoMember" "found", ha, fun dx h1 h2 => k dx h1 h2⟩
  · intro z u
    obtain ⟨kV, doc, pm, an, cdv, ct, rfl⟩ := plainD F
    rfl
  · intro z u
    obtain ⟨kV, doc, pm, an, cdv, ct, rfl⟩ := plainD F
    rfl
theorem sc_NoCounts : FnScope ["self", "found"] ["self", "found"] d_NoCounts.scope := ⟨rfl, rfl, rfl, by decide +kernel, rfl, by decide +kernel, by decide +kernel⟩
theorem mk_NoCounts (T : Tx K mg) {f : Addr} {fd : FuncData} (hf : f = He.ma K (He.ga K "NoCounts") "__init__") (F : FunD K d_NoCounts.name d_NoCounts.qual d_NoCounts.params d_NoCounts.body d_NoCounts.scope [] [] f fd) :
    Xn.MkX P w K mg base (He.ga K "NoCounts") (initOf "HallError") 1 "found" "found" := by
  have X := T.xcI "NoCounts" (initOf "HallError")
  refine ⟨X, f, fd, hf ▸ (T.init "NoCounts").1, hf ▸ (T.init "NoCounts").2, ?_, ?_, ?_⟩
  · refine F.ok sc_NoCounts (fun vs H Q E h => ?_) (fun cdv A outer s H vs Q E hr h => ?_)
    · obtain ⟨a, v, rfl, _⟩ := h
      rfl
    · obtain ⟨a, v, rfl, ha, k⟩ := h
      refine ⟨_, PSs.nox (pss_cons (ps_expr (Xn.pe_fam rfl (T.g "HallError" (by decide +kernel)) (T.fam "HallError") (pa_cons (pv 0) (pa_cons pe_str pa_nil)))) (pss_one (Xn.ps_stX (pv 0) (pv 1)))), ?_⟩
      exact ⟨_, rfl, a, _, _, rfl, by show 1 ≤ 1000; decide, X, ha, _, rfl, _, rfl, a, _, _, rfl, X, T.nof "NoCounts" "found", ha, fun dx h1 h2 => k dx h1 h2⟩
  · intro z u
    obtain ⟨kV, doc, pm, an, cdv, ct, rfl⟩ := plainD F
    rfl
  · intro z u
    obtain ⟨kV, doc, pm, an, cdv, ct, rfl⟩ := plainD F
    rfl
theorem sc_Unlike : FnScope ["self", "found"] ["self", "found"] d_Unlike.scope := ⟨rfl, rfl, rfl, by decide +kernel, rfl, by decide +kernel, by decide +kernel⟩
theorem mk_Unlike (T : Tx K mg) {f : Addr} {fd : FuncData} (hf : f = He.ma K (He.ga K "Unlike") "__init__") (F : FunD K d_Unlike.name d_Unlike.qual d_Unlike.params d_Unlike.body d_Unlike.scope [] [] f fd) :
    Xn.MkX P w K mg base (He.ga K "Unlike") (initOf "HallError") 1 "found" "found" := by
  have X := T.xcI "Unlike" (initOf "HallError")
  refine ⟨X, f, fd, hf ▸ (T.init "Unlike").1, hf ▸ (T.init "Unlike").2, ?_, ?_, ?_⟩
  · refine F.ok sc_Unlike (fun vs H Q E h => ?_) (fun cdv A outer s H vs Q E hr h => ?_)
    · obtain ⟨a, v, rfl, _⟩ := h
      rfl
    · obtain ⟨a, v, rfl, ha, k⟩ := h
      refine ⟨_, PSs.nox (pss_cons (ps_expr (Xn.pe_fam rfl (T.g "HallError" (by decide +kernel)) (T.fam "HallError") (pa_cons (pv 0) (pa_cons pe_str pa_nil)))) (pss_one (Xn.ps_stX (pv 0) (pv 1)))), ?_⟩
      exact ⟨_, rfl, a, _, _, rfl, by show 1 ≤ 1000; decide, X, ha, _, rfl, _, rfl, a, _, _, rfl, X, T.nof "Unlike" "found", ha, fun dx h1 h2 => k dx h1 h2⟩
  · intro z u
    obtain ⟨kV, doc, pm, an, cdv, ct, rfl⟩ := plainD F
    rfl
  · intro z u
    obtain ⟨kV, doc, pm, an, cdv, ct, rfl⟩ := plainD F
    rfl
theorem sc_NoLetter : FnScope ["self", "found"] ["self", "found"] d_NoLetter.scope := ⟨rfl, rfl, rfl, by decide +kernel, rfl, by decide +kernel, by decide +kernel⟩
theorem mk_NoLetter (T : Tx K mg) {f : Addr} {fd : FuncData} (hf : f = He.ma K (He.ga K "NoLetter") "__init__") (F : FunD K d_NoLetter.name d_NoLetter.qual d_NoLetter.params d_NoLetter.body d_NoLetter.scope [] [] f fd) :
    Xn.MkX P w K mg base (He.ga K "NoLetter") (initOf "HallError") 1 "found" "found" := by
  have X := T.xcI "NoLetter" (initOf "HallError")
  refine ⟨X, f, fd, hf ▸ (T.init "NoLetter").1, hf ▸ (T.init "NoLetter").2, ?_, ?_, ?_⟩
  · refine F.ok sc_NoLetter (fun vs H Q E h => ?_) (fun cdv A outer s H vs Q E hr h => ?_)
    · obtain ⟨a, v, rfl, _⟩ := h
      rfl
    · obtain ⟨a, v, rfl, ha, k⟩ := h
      refine ⟨_, PSs.nox (pss_cons (ps_expr (Xn.pe_fam rfl (T.g "HallError" (by decide +kernel)) (T.fam "HallError") (pa_cons (pv 0) (pa_cons pe_str pa_nil)))) (pss_one (Xn.ps_stX (pv 0) (pv 1)))), ?_⟩
      exact ⟨_, rfl, a, _, _, rfl, by show 1 ≤ 1000; decide, X, ha, _, rfl, _, rfl, a, _, _, rfl, X, T.nof "NoLetter" "found", ha, fun dx h1 h2 => k dx h1 h2⟩
  · intro z u
    obtain ⟨kV, doc, pm, an, cdv, ct, rfl⟩ := plainD F
    rfl
  · intro z u
    obtain ⟨kV, doc, pm, an, cdv, ct, rfl⟩ := plainD F
    rfl
theorem sc_NoCauses : FnScope ["self", "found"] ["self", "found"] d_NoCauses.scope := ⟨rfl, rfl, rfl, by decide +kernel, rfl, by decide +kernel, by decide +kernel⟩
theorem mk_NoCauses (T : Tx K mg) {f : Addr} {fd : FuncData} (hf : f = He.ma K (He.ga K "NoCauses") "__init__") (F : FunD K d_NoCauses.name d_NoCauses.qual d_NoCauses.params d_NoCauses.body d_NoCauses.scope [] [] f fd) :
    Xn.MkX P w K mg base (He.ga K "NoCauses") (initOf "HallError") 1 "found" "found" := by
  have X := T.xcI "NoCauses" (initOf "HallError")
  refine ⟨X, f, fd, hf ▸ (T.init "NoCauses").1, hf ▸ (T.init "NoCauses").2, ?_, ?_, ?_⟩
  · refine F.ok sc_NoCauses (fun vs H Q E h => ?_) (fun cdv A outer s H vs Q E hr h => ?_)
    · obtain ⟨a, v, rfl, _⟩ := h
      rfl
    · obtain ⟨a, v, rfl, ha, k⟩ := h
      refine ⟨_, PSs.nox (pss_cons (ps_expr (Xn.pe_fam rfl (T.g "HallError" (by decide +kernel)) (T.fam "HallError") (pa_cons (pv 0) (pa_cons pe_str pa_nil)))) (pss_one (Xn.ps_stX (pv 0) (pv 1)))), ?_⟩
      exact ⟨_, rfl, a, _, _, rfl, by show 1 ≤ 1000; decide, X, ha, _, rfl, _, rfl, a, _, _, rfl, X, T.nof "NoCauses" "found", ha, fun dx h1 h2 => k dx h1 h2⟩
  · intro z u
    obtain ⟨kV, doc, pm, an, cdv, ct, rfl⟩ := plainD F
    rfl
  · intro z u
    obtain ⟨kV, doc, pm, an, cdv, ct, rfl⟩ := plainD F
    rfl
theorem sc_Forged : FnScope ["self", "found"] ["self", "found"] d_Forged.scope := ⟨rfl, rfl, rfl, by decide +kernel, rfl, by decide +kernel, by decide +kernel⟩
theorem mk_Forged (T : Tx K mg) {f : Addr} {fd : FuncData} (hf : f = He.ma K (He.ga K "Forged") "__init__") (F : FunD K d_Forged.name d_Forged.qual d_Forged.params d_Forged.body d_Forged.scope [] [] f fd) :
    Xn.MkX P w K mg base (He.ga K "Forged") (initOf "HallError") 1 "found" "found" := by
  have X := T.xcI "Forged" (initOf "HallError")
  refine ⟨X, f, fd, hf ▸ (T.init "Forged").1, hf ▸ (T.init "Forged").2, ?_, ?_, ?_⟩
  · refine F.ok sc_Forged (fun vs H Q E h => ?_) (fun cdv A outer s H vs Q E hr h => ?_)
    · obtain ⟨a, v, rfl, _⟩ := h
      rfl
    · obtain ⟨a, v, rfl, ha, k⟩ := h
      refine ⟨_, PSs.nox (pss_cons (ps_expr (Xn.pe_fam rfl (T.g "HallError" (by decide +kernel)) (T.fam "HallError") (pa_cons (pv 0) (pa_cons pe_str pa_nil)))) (pss_one (Xn.ps_stX (pv 0) (pv 1)))), ?_⟩
      exact ⟨_, rfl, a, _, _, rfl, by show 1 ≤ 1000; decide, X, ha, _, rfl, _, rfl, a, _, _, rfl, X, T.nof "Forged" "found", ha, fun dx h1 h2 => k dx h1 h2⟩
  · intro z u
    obtain ⟨kV, doc, pm, an, cdv, ct, rfl⟩ := plainD F
    rfl
  · intro z u
    obtain ⟨kV, doc, pm, an, cdv, ct, rfl⟩ := plainD F
    rfl
theorem sc_NoShort : FnScope ["self", "found"] ["self", "found"] d_NoShort.scope := ⟨rfl, rfl, rfl, by decide +kernel, rfl, by decide +kernel, by decide +kernel⟩
theorem mk_NoShort (T : Tx K mg) {f : Addr} {fd : FuncData} (hf : f = He.ma K (He.ga K "NoShort") "__init__") (F : FunD K d_NoShort.name d_NoShort.qual d_NoShort.params d_NoShort.body d_NoShort.scope [] [] f fd) :
    Xn.MkX P w K mg base (He.ga K "NoShort") (initOf "HallError") 1 "found" "found" := by
  have X := T.xcI "NoShort" (initOf "HallError")
  refine ⟨X, f, fd, hf ▸ (T.init "NoShort").1, hf ▸ (T.init "NoShort").2, ?_, ?_, ?_⟩
  · refine F.ok sc_NoShort (fun vs H Q E h => ?_) (fun cdv A outer s H vs Q E hr h => ?_)
    · obtain ⟨a, v, rfl, _⟩ := h
      rfl
    · obtain ⟨a, v, rfl, ha, k⟩ := h
      refine ⟨_, PSs.nox (pss_cons (ps_expr (Xn.pe_fam rfl (T.g "HallError" (by decide +kernel)) (T.fam "HallError") (pa_cons (pv 0) (pa_cons pe_str pa_nil)))) (pss_one (Xn.ps_stX (pv 0) (pv 1)))), ?_⟩
      exact ⟨_, rfl, a, _, _, rfl, by show 1 ≤ 1000; decide, X, ha, _, rfl, _, rfl, a, _, _, rfl, X, T.nof "NoShort" "found", ha, fun dx h1 h2 => k dx h1 h2⟩
  · intro z u
    obtain ⟨kV, doc, pm, an, cdv, ct, rfl⟩ := plainD F
    rfl
  · intro z u
    obtain ⟨kV, doc, pm, an, cdv, ct, rfl⟩ := plainD F
    rfl
theorem sc_NoThing : FnScope ["self", "found"] ["self", "found"] d_NoThing.scope := ⟨rfl, rfl, rfl, by decide +kernel, rfl, by decide +kernel, by decide +kernel⟩
theorem mk_NoThing (T : Tx K mg) {f : Addr} {fd : FuncData} (hf : f = He.ma K (He.ga K "NoThing") "__init__") (F : FunD K d_NoThing.name d_NoThing.qual d_NoThing.params d_NoThing.body d_NoThing.scope [] [] f fd) :
    Xn.MkX P w K mg base (He.ga K "NoThing") (initOf "HallError") 1 "found" "found" := by
  have X := T.xcI "NoThing" (initOf "HallError")
  refine ⟨X, f, fd, hf ▸ (T.init "NoThing").1, hf ▸ (T.init "NoThing").2, ?_, ?_, ?_⟩
  · refine F.ok sc_NoThing (fun vs H Q E h => ?_) (fun cdv A outer s H vs Q E hr h => ?_)
    · obtain ⟨a, v, rfl, _⟩ := h
      rfl
    · obtain ⟨a, v, rfl, ha, k⟩ := h
      refine ⟨_, PSs.nox (pss_cons (ps_expr (Xn.pe_fam rfl (T.g "HallError" (by decide +kernel)) (T.fam "HallError") (pa_cons (pv 0) (pa_cons pe_str pa_nil)))) (pss_one (Xn.ps_stX (pv 0) (pv 1)))), ?_⟩
      exact ⟨_, rfl, a, _, _, rfl, by show 1 ≤ 1000; decide, X, ha, _, rfl, _, rfl, a, _, _, rfl, X, T.nof "NoThing" "found", ha, fun dx h1 h2 => k dx h1 h2⟩
  · intro z u
    obtain ⟨kV, doc, pm, an, cdv, ct, rfl⟩ := plainD F
    rfl
  · intro z u
    obtain ⟨kV, doc, pm, an, cdv, ct, rfl⟩ := plainD F
    rfl
theorem sc_NoDeed : FnScope ["self", "found"] ["self", "found"] d_NoDeed.scope := ⟨rfl, rfl, rfl, by decide +kernel, rfl, by decide +kernel, by decide +kernel⟩
theorem mk_NoDeed (T : Tx K mg) {f : Addr} {fd : FuncData} (hf : f = He.ma K (He.ga K "NoDeed") "__init__") (F : FunD K d_NoDeed.name d_NoDeed.qual d_NoDeed.params d_NoDeed.body d_NoDeed.scope [] [] f fd) :
    Xn.MkX P w K mg base (He.ga K "NoDeed") (initOf "HallError") 1 "found" "found" := by
  have X := T.xcI "NoDeed" (initOf "HallError")
  refine ⟨X, f, fd, hf ▸ (T.init "NoDeed").1, hf ▸ (T.init "NoDeed").2, ?_, ?_, ?_⟩
  · refine F.ok sc_NoDeed (fun vs H Q E h => ?_) (fun cdv A outer s H vs Q E hr h => ?_)
    · obtain ⟨a, v, rfl, _⟩ := h
      rfl
    · obtain ⟨a, v, rfl, ha, k⟩ := h
      refine ⟨_, PSs.nox (pss_cons (ps_expr (Xn.pe_fam rfl (T.g "HallError" (by decide +kernel)) (T.fam "HallError") (pa_cons (pv 0) (pa_cons pe_str pa_nil)))) (pss_one (Xn.ps_stX (pv 0) (pv 1)))), ?_⟩
      exact ⟨_, rfl, a, _, _, rfl, by show 1 ≤ 1000; decide, X, ha, _, rfl, _, rfl, a, _, _, rfl, X, T.nof "NoDeed" "found", ha, fun dx h1 h2 => k dx h1 h2⟩
  · intro z u
    obtain ⟨kV, doc, pm, an, cdv, ct, rfl⟩ := plainD F
    rfl
  · intro z u
    obtain ⟨kV, doc, pm, an, cdv, ct, rfl⟩ := plainD F
    rfl
theorem sc_NoHistory : FnScope ["self", "found"] ["self", "found"] d_NoHistory.scope := ⟨rfl, rfl, rfl, by decide +kernel, rfl, by decide +kernel, by decide +kernel⟩
theorem mk_NoHistory (T : Tx K mg) {f : Addr} {fd : FuncData} (hf : f = He.ma K (He.ga K "NoHistory") "__init__") (F : FunD K d_NoHistory.name d_NoHistory.qual d_NoHistory.params d_NoHistory.body d_NoHistory.scope [] [] f fd) :
    Xn.MkX P w K mg base (He.ga K "NoHistory") (initOf "HallError") 1 "found" "found" := by
  have X := T.xcI "NoHistory" (initOf "HallError")
  refine ⟨X, f, fd, hf ▸ (T.init "NoHistory").1, hf ▸ (T.init "NoHistory").2, ?_, ?_, ?_⟩
  · refine F.ok sc_NoHistory (fun vs H Q E h => ?_) (fun cdv A outer s H vs Q E hr h => ?_)
    · obtain ⟨a, v, rfl, _⟩ := h
      rfl
    · obtain ⟨a, v, rfl, ha, k⟩ := h
      refine ⟨_, PSs.nox (pss_cons (ps_expr (Xn.pe_fam rfl (T.g "HallError" (by decide +kernel)) (T.fam "HallError") (pa_cons (pv 0) (pa_cons pe_str pa_nil)))) (pss_one (Xn.ps_stX (pv 0) (pv 1)))), ?_⟩
      exact ⟨_, rfl, a, _, _, rfl, by show 1 ≤ 1000; decide, X, ha, _, rfl, _, rfl, a, _, _, rfl, X, T.nof "NoHistory" "found", ha, fun dx h1 h2 => k dx h1 h2⟩
  · intro z u
    obtain ⟨kV, doc, pm, an, cdv, ct, rfl⟩ := plainD F
    rfl
  · intro z u
    obtain ⟨kV, doc, pm, an, cdv, ct, rfl⟩ := plainD F
    rfl
theorem sc_NoRow : FnScope ["self", "found"] ["self", "found"] d_NoRow.scope := ⟨rfl, rfl, rfl, by decide +kernel, rfl, by decide +kernel, by decide +kernel⟩
theorem mk_NoRow (T : Tx K mg) {f : Addr} {fd : FuncData} (hf : f = He.ma K (He.ga K "NoRow") "__init__") (F : FunD K d_NoRow.name d_NoRow.qual d_NoRow.params d_NoRow.body d_NoRow.scope [] [] f fd) :
    Xn.MkX P w K mg base (He.ga K "NoRow") (initOf "HallError") 1 "found" "found" := by
  have X := T.xcI "NoRow" (initOf "HallError")
  refine ⟨X, f, fd, hf ▸ (T.init "NoRow").1, hf ▸ (T.init "NoRow").2, ?_, ?_, ?_⟩
  · refine F.ok sc_NoRow (fun vs H Q E h => ?_) (fun cdv A outer s H vs Q E hr h => ?_)
    · obtain ⟨a, v, rfl, _⟩ := h
      rfl
    · obtain ⟨a, v, rfl, ha, k⟩ := h
      refine ⟨_, PSs.nox (pss_cons (ps_expr (Xn.pe_fam rfl (T.g "HallError" (by decide +kernel)) (T.fam "HallError") (pa_cons (pv 0) (pa_cons pe_str pa_nil)))) (pss_one (Xn.ps_stX (pv 0) (pv 1)))), ?_⟩
      exact ⟨_, rfl, a, _, _, rfl, by show 1 ≤ 1000; decide, X, ha, _, rfl, _, rfl, a, _, _, rfl, X, T.nof "NoRow" "found", ha, fun dx h1 h2 => k dx h1 h2⟩
  · intro z u
    obtain ⟨kV, doc, pm, an, cdv, ct, rfl⟩ := plainD F
    rfl
  · intro z u
    obtain ⟨kV, doc, pm, an, cdv, ct, rfl⟩ := plainD F
    rfl
theorem sc_NoText : FnScope ["self", "at"] ["self", "at"] d_NoText.scope := ⟨rfl, rfl, rfl, by decide +kernel, rfl, by decide +kernel, by decide +kernel⟩
theorem mk_NoText (T : Tx K mg) {f : Addr} {fd : FuncData} (hf : f = He.ma K (He.ga K "NoText") "__init__") (F : FunD K d_NoText.name d_NoText.qual d_NoText.params d_NoText.body d_NoText.scope [] [] f fd) :
    Xn.MkX P w K mg base (He.ga K "NoText") (initOf "HallError") 1 "at" "at" := by
  have X := T.xcI "NoText" (initOf "HallError")
  refine ⟨X, f, fd, hf ▸ (T.init "NoText").1, hf ▸ (T.init "NoText").2, ?_, ?_, ?_⟩
  · refine F.ok sc_NoText (fun vs H Q E h => ?_) (fun cdv A outer s H vs Q E hr h => ?_)
    · obtain ⟨a, v, rfl, _⟩ := h
      rfl
    · obtain ⟨a, v, rfl, ha, k⟩ := h
      refine ⟨_, PSs.nox (pss_cons (ps_expr (Xn.pe_fam rfl (T.g "HallError" (by decide +kernel)) (T.fam "HallError") (pa_cons (pv 0) (pa_cons pe_str pa_nil)))) (pss_one (Xn.ps_stX (pv 0) (pv 1)))), ?_⟩
      exact ⟨_, rfl, a, _, _, rfl, by show 1 ≤ 1000; decide, X, ha, _, rfl, _, rfl, a, _, _, rfl, X, T.nof "NoText" "at", ha, fun dx h1 h2 => k dx h1 h2⟩
  · intro z u
    obtain ⟨kV, doc, pm, an, cdv, ct, rfl⟩ := plainD F
    rfl
  · intro z u
    obtain ⟨kV, doc, pm, an, cdv, ct, rfl⟩ := plainD F
    rfl
theorem sc_TooMany : FnScope ["self", "many"] ["self", "many"] d_TooMany.scope := ⟨rfl, rfl, rfl, by decide +kernel, rfl, by decide +kernel, by decide +kernel⟩
theorem mk_TooMany (T : Tx K mg) {f : Addr} {fd : FuncData} (hf : f = He.ma K (He.ga K "TooMany") "__init__") (F : FunD K d_TooMany.name d_TooMany.qual d_TooMany.params d_TooMany.body d_TooMany.scope [] [] f fd) :
    Xn.MkX P w K mg base (He.ga K "TooMany") (initOf "HallError") 1 "many" "many" := by
  have X := T.xcI "TooMany" (initOf "HallError")
  refine ⟨X, f, fd, hf ▸ (T.init "TooMany").1, hf ▸ (T.init "TooMany").2, ?_, ?_, ?_⟩
  · refine F.ok sc_TooMany (fun vs H Q E h => ?_) (fun cdv A outer s H vs Q E hr h => ?_)
    · obtain ⟨a, v, rfl, _⟩ := h
      rfl
    · obtain ⟨a, v, rfl, ha, k⟩ := h
      refine ⟨_, PSs.nox (pss_cons (ps_expr (Xn.pe_fam rfl (T.g "HallError" (by decide +kernel)) (T.fam "HallError") (pa_cons (pv 0) (pa_cons pe_str pa_nil)))) (pss_one (Xn.ps_stX (pv 0) (pv 1)))), ?_⟩
      exact ⟨_, rfl, a, _, _, rfl, by show 1 ≤ 1000; decide, X, ha, _, rfl, _, rfl, a, _, _, rfl, X, T.nof "TooMany" "many", ha, fun dx h1 h2 => k dx h1 h2⟩
  · intro z u
    obtain ⟨kV, doc, pm, an, cdv, ct, rfl⟩ := plainD F
    rfl
  · intro z u
    obtain ⟨kV, doc, pm, an, cdv, ct, rfl⟩ := plainD F
    rfl
theorem sc_NotThere : FnScope ["self", "found"] ["self", "found"] d_NotThere.scope := ⟨rfl, rfl, rfl, by decide +kernel, rfl, by decide +kernel, by decide +kernel⟩
theorem mk_NotThere (T : Tx K mg) {f : Addr} {fd : FuncData} (hf : f = He.ma K (He.ga K "NotThere") "__init__") (F : FunD K d_NotThere.name d_NotThere.qual d_NotThere.params d_NotThere.body d_NotThere.scope [] [] f fd) :
    Xn.MkX P w K mg base (He.ga K "NotThere") (initOf "Missing") 1 "found" "found" := by
  have X := T.xcI "NotThere" (initOf "Missing")
  refine ⟨X, f, fd, hf ▸ (T.init "NotThere").1, hf ▸ (T.init "NotThere").2, ?_, ?_, ?_⟩
  · refine F.ok sc_NotThere (fun vs H Q E h => ?_) (fun cdv A outer s H vs Q E hr h => ?_)
    · obtain ⟨a, v, rfl, _⟩ := h
      rfl
    · obtain ⟨a, v, rfl, ha, k⟩ := h
      refine ⟨_, PSs.nox (pss_cons (ps_expr (Xn.pe_fam rfl (T.g "Missing" (by decide +kernel)) (T.fam "Missing") (pa_cons (pv 0) (pa_cons pe_str pa_nil)))) (pss_one (Xn.ps_stX (pv 0) (pv 1)))), ?_⟩
      exact ⟨_, rfl, a, _, _, rfl, by show 1 ≤ 1000; decide, X, ha, _, rfl, _, rfl, a, _, _, rfl, X, T.nof "NotThere" "found", ha, fun dx h1 h2 => k dx h1 h2⟩
  · intro z u
    obtain ⟨kV, doc, pm, an, cdv, ct, rfl⟩ := plainD F
    rfl
  · intro z u
    obtain ⟨kV, doc, pm, an, cdv, ct, rfl⟩ := plainD F
    rfl
theorem sc_NotOnRoad : FnScope ["self", "found"] ["self", "found"] d_NotOnRoad.scope := ⟨rfl, rfl, rfl, by decide +kernel, rfl, by decide +kernel, by decide +kernel⟩
theorem mk_NotOnRoad (T : Tx K mg) {f : Addr} {fd : FuncData} (hf : f = He.ma K (He.ga K "NotOnRoad") "__init__") (F : FunD K d_NotOnRoad.name d_NotOnRoad.qual d_NotOnRoad.params d_NotOnRoad.body d_NotOnRoad.scope [] [] f fd) :
    Xn.MkX P w K mg base (He.ga K "NotOnRoad") (initOf "Missing") 1 "found" "found" := by
  have X := T.xcI "NotOnRoad" (initOf "Missing")
  refine ⟨X, f, fd, hf ▸ (T.init "NotOnRoad").1, hf ▸ (T.init "NotOnRoad").2, ?_, ?_, ?_⟩
  · refine F.ok sc_NotOnRoad (fun vs H Q E h => ?_) (fun cdv A outer s H vs Q E hr h => ?_)
    · obtain ⟨a, v, rfl, _⟩ := h
      rfl
    · obtain ⟨a, v, rfl, ha, k⟩ := h
      refine ⟨_, PSs.nox (pss_cons (ps_expr (Xn.pe_fam rfl (T.g "Missing" (by decide +kernel)) (T.fam "Missing") (pa_cons (pv 0) (pa_cons pe_str pa_nil)))) (pss_one (Xn.ps_stX (pv 0) (pv 1)))), ?_⟩
      exact ⟨_, rfl, a, _, _, rfl, by show 1 ≤ 1000; decide, X, ha, _, rfl, _, rfl, a, _, _, rfl, X, T.nof "NotOnRoad" "found", ha, fun dx h1 h2 => k dx h1 h2⟩
  · intro z u
    obtain ⟨kV, doc, pm, an, cdv, ct, rfl⟩ := plainD F
    rfl
  · intro z u
    obtain ⟨kV, doc, pm, an, cdv, ct, rfl⟩ := plainD F
    rfl
theorem sc_Lacks : FnScope ["self", "found"] ["self", "found"] d_Lacks.scope := ⟨rfl, rfl, rfl, by decide +kernel, rfl, by decide +kernel, by decide +kernel⟩
theorem mk_Lacks (T : Tx K mg) {f : Addr} {fd : FuncData} (hf : f = He.ma K (He.ga K "Lacks") "__init__") (F : FunD K d_Lacks.name d_Lacks.qual d_Lacks.params d_Lacks.body d_Lacks.scope [] [] f fd) :
    Xn.MkX P w K mg base (He.ga K "Lacks") (initOf "Barred") 1 "found" "found" := by
  have X := T.xcI "Lacks" (initOf "Barred")
  refine ⟨X, f, fd, hf ▸ (T.init "Lacks").1, hf ▸ (T.init "Lacks").2, ?_, ?_, ?_⟩
  · refine F.ok sc_Lacks (fun vs H Q E h => ?_) (fun cdv A outer s H vs Q E hr h => ?_)
    · obtain ⟨a, v, rfl, _⟩ := h
      rfl
    · obtain ⟨a, v, rfl, ha, k⟩ := h
      refine ⟨_, PSs.nox (pss_cons (ps_expr (Xn.pe_fam rfl (T.g "Barred" (by decide +kernel)) (T.fam "Barred") (pa_cons (pv 0) (pa_cons pe_str pa_nil)))) (pss_one (Xn.ps_stX (pv 0) (pv 1)))), ?_⟩
      exact ⟨_, rfl, a, _, _, rfl, by show 1 ≤ 1000; decide, X, ha, _, rfl, _, rfl, a, _, _, rfl, X, T.nof "Lacks" "found", ha, fun dx h1 h2 => k dx h1 h2⟩
  · intro z u
    obtain ⟨kV, doc, pm, an, cdv, ct, rfl⟩ := plainD F
    rfl
  · intro z u
    obtain ⟨kV, doc, pm, an, cdv, ct, rfl⟩ := plainD F
    rfl
theorem sc_Known : FnScope ["self", "found"] ["self", "found"] d_Known.scope := ⟨rfl, rfl, rfl, by decide +kernel, rfl, by decide +kernel, by decide +kernel⟩
theorem mk_Known (T : Tx K mg) {f : Addr} {fd : FuncData} (hf : f = He.ma K (He.ga K "Known") "__init__") (F : FunD K d_Known.name d_Known.qual d_Known.params d_Known.body d_Known.scope [] [] f fd) :
    Xn.MkX P w K mg base (He.ga K "Known") (initOf "Barred") 1 "found" "found" := by
  have X := T.xcI "Known" (initOf "Barred")
  refine ⟨X, f, fd, hf ▸ (T.init "Known").1, hf ▸ (T.init "Known").2, ?_, ?_, ?_⟩
  · refine F.ok sc_Known (fun vs H Q E h => ?_) (fun cdv A outer s H vs Q E hr h => ?_)
    · obtain ⟨a, v, rfl, _⟩ := h
      rfl
    · obtain ⟨a, v, rfl, ha, k⟩ := h
      refine ⟨_, PSs.nox (pss_cons (ps_expr (Xn.pe_fam rfl (T.g "Barred" (by decide +kernel)) (T.fam "Barred") (pa_cons (pv 0) (pa_cons pe_str pa_nil)))) (pss_one (Xn.ps_stX (pv 0) (pv 1)))), ?_⟩
      exact ⟨_, rfl, a, _, _, rfl, by show 1 ≤ 1000; decide, X, ha, _, rfl, _, rfl, a, _, _, rfl, X, T.nof "Known" "found", ha, fun dx h1 h2 => k dx h1 h2⟩
  · intro z u
    obtain ⟨kV, doc, pm, an, cdv, ct, rfl⟩ := plainD F
    rfl
  · intro z u
    obtain ⟨kV, doc, pm, an, cdv, ct, rfl⟩ := plainD F
    rfl
theorem sc_Stopped : FnScope ["self", "found"] ["self", "found"] d_Stopped.scope := ⟨rfl, rfl, rfl, by decide +kernel, rfl, by decide +kernel, by decide +kernel⟩
theorem mk_Stopped (T : Tx K mg) {f : Addr} {fd : FuncData} (hf : f = He.ma K (He.ga K "Stopped") "__init__") (F : FunD K d_Stopped.name d_Stopped.qual d_Stopped.params d_Stopped.body d_Stopped.scope [] [] f fd) :
    Xn.MkX P w K mg base (He.ga K "Stopped") (initOf "Barred") 1 "found" "found" := by
  have X := T.xcI "Stopped" (initOf "Barred")
  refine ⟨X, f, fd, hf ▸ (T.init "Stopped").1, hf ▸ (T.init "Stopped").2, ?_, ?_, ?_⟩
  · refine F.ok sc_Stopped (fun vs H Q E h => ?_) (fun cdv A outer s H vs Q E hr h => ?_)
    · obtain ⟨a, v, rfl, _⟩ := h
      rfl
    · obtain ⟨a, v, rfl, ha, k⟩ := h
      refine ⟨_, PSs.nox (pss_cons (ps_expr (Xn.pe_fam rfl (T.g "Barred" (by decide +kernel)) (T.fam "Barred") (pa_cons (pv 0) (pa_cons pe_str pa_nil)))) (pss_one (Xn.ps_stX (pv 0) (pv 1)))), ?_⟩
      exact ⟨_, rfl, a, _, _, rfl, by show 1 ≤ 1000; decide, X, ha, _, rfl, _, rfl, a, _, _, rfl, X, T.nof "Stopped" "found", ha, fun dx h1 h2 => k dx h1 h2⟩
  · intro z u
    obtain ⟨kV, doc, pm, an, cdv, ct, rfl⟩ := plainD F
    rfl
  · intro z u
    obtain ⟨kV, doc, pm, an, cdv, ct, rfl⟩ := plainD F
    rfl
theorem sc_Awake : FnScope ["self", "found"] ["self", "found"] d_Awake.scope := ⟨rfl, rfl, rfl, by decide +kernel, rfl, by decide +kernel, by decide +kernel⟩
theorem mk_Awake (T : Tx K mg) {f : Addr} {fd : FuncData} (hf : f = He.ma K (He.ga K "Awake") "__init__") (F : FunD K d_Awake.name d_Awake.qual d_Awake.params d_Awake.body d_Awake.scope [] [] f fd) :
    Xn.MkX P w K mg base (He.ga K "Awake") (initOf "Barred") 1 "found" "found" := by
  have X := T.xcI "Awake" (initOf "Barred")
  refine ⟨X, f, fd, hf ▸ (T.init "Awake").1, hf ▸ (T.init "Awake").2, ?_, ?_, ?_⟩
  · refine F.ok sc_Awake (fun vs H Q E h => ?_) (fun cdv A outer s H vs Q E hr h => ?_)
    · obtain ⟨a, v, rfl, _⟩ := h
      rfl
    · obtain ⟨a, v, rfl, ha, k⟩ := h
      refine ⟨_, PSs.nox (pss_cons (ps_expr (Xn.pe_fam rfl (T.g "Barred" (by decide +kernel)) (T.fam "Barred") (pa_cons (pv 0) (pa_cons pe_str pa_nil)))) (pss_one (Xn.ps_stX (pv 0) (pv 1)))), ?_⟩
      exact ⟨_, rfl, a, _, _, rfl, by show 1 ≤ 1000; decide, X, ha, _, rfl, _, rfl, a, _, _, rfl, X, T.nof "Awake" "found", ha, fun dx h1 h2 => k dx h1 h2⟩
  · intro z u
    obtain ⟨kV, doc, pm, an, cdv, ct, rfl⟩ := plainD F
    rfl
  · intro z u
    obtain ⟨kV, doc, pm, an, cdv, ct, rfl⟩ := plainD F
    rfl
theorem sc_AllTold : FnScope ["self", "found"] ["self", "found"] d_AllTold.scope := ⟨rfl, rfl, rfl, by decide +kernel, rfl, by decide +kernel, by decide +kernel⟩
theorem mk_AllTold (T : Tx K mg) {f : Addr} {fd : FuncData} (hf : f = He.ma K (He.ga K "AllTold") "__init__") (F : FunD K d_AllTold.name d_AllTold.qual d_AllTold.params d_AllTold.body d_AllTold.scope [] [] f fd) :
    Xn.MkX P w K mg base (He.ga K "AllTold") (initOf "Barred") 1 "found" "found" := by
  have X := T.xcI "AllTold" (initOf "Barred")
  refine ⟨X, f, fd, hf ▸ (T.init "AllTold").1, hf ▸ (T.init "AllTold").2, ?_, ?_, ?_⟩
  · refine F.ok sc_AllTold (fun vs H Q E h => ?_) (fun cdv A outer s H vs Q E hr h => ?_)
    · obtain ⟨a, v, rfl, _⟩ := h
      rfl
    · obtain ⟨a, v, rfl, ha, k⟩ := h
      refine ⟨_, PSs.nox (pss_cons (ps_expr (Xn.pe_fam rfl (T.g "Barred" (by decide +kernel)) (T.fam "Barred") (pa_cons (pv 0) (pa_cons pe_str pa_nil)))) (pss_one (Xn.ps_stX (pv 0) (pv 1)))), ?_⟩
      exact ⟨_, rfl, a, _, _, rfl, by show 1 ≤ 1000; decide, X, ha, _, rfl, _, rfl, a, _, _, rfl, X, T.nof "AllTold" "found", ha, fun dx h1 h2 => k dx h1 h2⟩
  · intro z u
    obtain ⟨kV, doc, pm, an, cdv, ct, rfl⟩ := plainD F
    rfl
  · intro z u
    obtain ⟨kV, doc, pm, an, cdv, ct, rfl⟩ := plainD F
    rfl
theorem sc_NoSeat : FnScope ["self", "found"] ["self", "found"] d_NoSeat.scope := ⟨rfl, rfl, rfl, by decide +kernel, rfl, by decide +kernel, by decide +kernel⟩
theorem mk_NoSeat (T : Tx K mg) {f : Addr} {fd : FuncData} (hf : f = He.ma K (He.ga K "NoSeat") "__init__") (F : FunD K d_NoSeat.name d_NoSeat.qual d_NoSeat.params d_NoSeat.body d_NoSeat.scope [] [] f fd) :
    Xn.MkX P w K mg base (He.ga K "NoSeat") (initOf "Barred") 1 "found" "found" := by
  have X := T.xcI "NoSeat" (initOf "Barred")
  refine ⟨X, f, fd, hf ▸ (T.init "NoSeat").1, hf ▸ (T.init "NoSeat").2, ?_, ?_, ?_⟩
  · refine F.ok sc_NoSeat (fun vs H Q E h => ?_) (fun cdv A outer s H vs Q E hr h => ?_)
    · obtain ⟨a, v, rfl, _⟩ := h
      rfl
    · obtain ⟨a, v, rfl, ha, k⟩ := h
      refine ⟨_, PSs.nox (pss_cons (ps_expr (Xn.pe_fam rfl (T.g "Barred" (by decide +kernel)) (T.fam "Barred") (pa_cons (pv 0) (pa_cons pe_str pa_nil)))) (pss_one (Xn.ps_stX (pv 0) (pv 1)))), ?_⟩
      exact ⟨_, rfl, a, _, _, rfl, by show 1 ≤ 1000; decide, X, ha, _, rfl, _, rfl, a, _, _, rfl, X, T.nof "NoSeat" "found", ha, fun dx h1 h2 => k dx h1 h2⟩
  · intro z u
    obtain ⟨kV, doc, pm, an, cdv, ct, rfl⟩ := plainD F
    rfl
  · intro z u
    obtain ⟨kV, doc, pm, an, cdv, ct, rfl⟩ := plainD F
    rfl
theorem sc_Full : FnScope ["self", "many"] ["self", "many"] d_Full.scope := ⟨rfl, rfl, rfl, by decide +kernel, rfl, by decide +kernel, by decide +kernel⟩
theorem mk_Full (T : Tx K mg) {f : Addr} {fd : FuncData} (hf : f = He.ma K (He.ga K "Full") "__init__") (F : FunD K d_Full.name d_Full.qual d_Full.params d_Full.body d_Full.scope [] [] f fd) :
    Xn.MkX P w K mg base (He.ga K "Full") (initOf "Barred") 1 "many" "many" := by
  have X := T.xcI "Full" (initOf "Barred")
  refine ⟨X, f, fd, hf ▸ (T.init "Full").1, hf ▸ (T.init "Full").2, ?_, ?_, ?_⟩
  · refine F.ok sc_Full (fun vs H Q E h => ?_) (fun cdv A outer s H vs Q E hr h => ?_)
    · obtain ⟨a, v, rfl, _⟩ := h
      rfl
    · obtain ⟨a, v, rfl, ha, k⟩ := h
      refine ⟨_, PSs.nox (pss_cons (ps_expr (Xn.pe_fam rfl (T.g "Barred" (by decide +kernel)) (T.fam "Barred") (pa_cons (pv 0) (pa_cons pe_str pa_nil)))) (pss_one (Xn.ps_stX (pv 0) (pv 1)))), ?_⟩
      exact ⟨_, rfl, a, _, _, rfl, by show 1 ≤ 1000; decide, X, ha, _, rfl, _, rfl, a, _, _, rfl, X, T.nof "Full" "many", ha, fun dx h1 h2 => k dx h1 h2⟩
  · intro z u
    obtain ⟨kV, doc, pm, an, cdv, ct, rfl⟩ := plainD F
    rfl
  · intro z u
    obtain ⟨kV, doc, pm, an, cdv, ct, rfl⟩ := plainD F
    rfl
theorem sc_NotQuiet : FnScope ["self", "many"] ["self", "many"] d_NotQuiet.scope := ⟨rfl, rfl, rfl, by decide +kernel, rfl, by decide +kernel, by decide +kernel⟩
theorem mk_NotQuiet (T : Tx K mg) {f : Addr} {fd : FuncData} (hf : f = He.ma K (He.ga K "NotQuiet") "__init__") (F : FunD K d_NotQuiet.name d_NotQuiet.qual d_NotQuiet.params d_NotQuiet.body d_NotQuiet.scope [] [] f fd) :
    Xn.MkX P w K mg base (He.ga K "NotQuiet") (initOf "Barred") 1 "many" "many" := by
  have X := T.xcI "NotQuiet" (initOf "Barred")
  refine ⟨X, f, fd, hf ▸ (T.init "NotQuiet").1, hf ▸ (T.init "NotQuiet").2, ?_, ?_, ?_⟩
  · refine F.ok sc_NotQuiet (fun vs H Q E h => ?_) (fun cdv A outer s H vs Q E hr h => ?_)
    · obtain ⟨a, v, rfl, _⟩ := h
      rfl
    · obtain ⟨a, v, rfl, ha, k⟩ := h
      refine ⟨_, PSs.nox (pss_cons (ps_expr (Xn.pe_fam rfl (T.g "Barred" (by decide +kernel)) (T.fam "Barred") (pa_cons (pv 0) (pa_cons pe_str pa_nil)))) (pss_one (Xn.ps_stX (pv 0) (pv 1)))), ?_⟩
      exact ⟨_, rfl, a, _, _, rfl, by show 1 ≤ 1000; decide, X, ha, _, rfl, _, rfl, a, _, _, rfl, X, T.nof "NotQuiet" "many", ha, fun dx h1 h2 => k dx h1 h2⟩
  · intro z u
    obtain ⟨kV, doc, pm, an, cdv, ct, rfl⟩ := plainD F
    rfl
  · intro z u
    obtain ⟨kV, doc, pm, an, cdv, ct, rfl⟩ := plainD F
    rfl
end
end Hd
/-! The pool, what is taken from it, the thing. -/
namespace Hd
open PySem PySem.Spec PyProof.Rows L2
section
variable {P : Program} {w : World} {K : PySem.W.Frag} {mg : Str → Option Value} {base : Heap} {f : Addr} {fd : FuncData}
abbrev FnP (K : PySem.W.Frag) (d : He.DefD) (f : Addr) (fd : FuncData) : Prop := FunD K d.name d.qual d.params d.body d.scope [] [] f fd
theorem ln1 : 1 ≤ sizeLine := by decide
theorem ln {n : Nat} (h : n ≤ 1000) : n ≤ sizeLine := Nat.le_trans h (by decide)
/-! ### _law_pool -/
def spPool : Sp := fun vs H Q _ => ∃ c : Int, vs = [.int c] ∧ ∀ (n : Int) (p : Addr), H p = none → Q (.ref p) (upd H p (.lst [.int n]))
theorem sc_pool : FnScope ["cell", "number", "k", "mix"] ["cell"] d__law_pool.scope := ⟨rfl, rfl, rfl, by decide +kernel, rfl, by decide +kernel, by decide +kernel⟩
theorem ok_pool (T : Tx K mg) (F : FnP K d__law_pool f fd) : FnOk P w K mg base CX0 1 f fd ["cell"] spPool := by
  refine F.ok sc_pool (fun vs H Q E h => ?_) (fun cdv A outer s H vs Q E hr h => ?_)
  · obtain ⟨c, rfl, _⟩ := h
    rfl
  · obtain ⟨c, rfl, k⟩ := h
    refine ⟨_, PSs.nox (pss_cons (ps_if (pt_cmpR op_ge (pv 0) (pe_op op_pow pe_int pe_int) (nomark _)) (pss_one (ps_ret (pe_lst (pa_cons (pv 0) pa_nil)))) pss_nil)
      (pss_cons (ps_set (i := 1) sc_pool.nd rfl (.inl rfl) pe_int)
      (pss_cons (ps_for PassesOwn.never rfl (pi_range1 rfl (T.f "range" (by decide +kernel)) (pa_cons pe_int pa_nil)) (pg_name (i := 2) sc_pool.nd rfl (.inl rfl))
        (pss_cons (ps_set (i := 3) sc_pool.nd rfl (.inl rfl) (pe_op op_mod (pe_op op_pow (pe_op op_add (pe_op op_add (pe_op op_mul (pe_op op_mod (pv 0) pe_int) pe_int) (pe_op op_mul pe_int (pv 2))) pe_int) pe_int) pe_int))
          (pss_one (ps_set (i := 1) sc_pool.nd rfl (.inl rfl) (pe_op op_add (pe_op op_mul (pv 1) pe_int) (pe_op op_mod (pe_op op_pow (pe_op op_add (pe_op op_mul (pv 3) pe_int) (pv 2)) pe_int) pe_int))))))
      (pss_one (ps_ret (pe_lst (pa_cons (pv 1) pa_nil))))))), ?_⟩
    refine ⟨_, rfl, 10, 18, rfl, rfl, ⟨by decide, by decide, by decide⟩, c, _, rfl, rfl, _, rfl, ?_⟩
    refine ite2 (fun _ => ?_) (fun _ => ?_)
    · exact ⟨_, rfl, ln1, fun p hp => k _ p hp⟩
    · refine ⟨9, rfl, by decide, by decide, for_range (lo := 0) (n := 9) (fun i σ H' => H' = H ∧ ∃ (n : Int) (v2 v3 : Option V), σ = [some (.int c), some (.int n), v2, v3]) ⟨rfl, 0, none, none, rfl⟩ ?_ ?_⟩
      · rintro i σ H' hi ⟨rfl, n, v2, v3, rfl⟩
        have m0 : 0 ≤ c % 2147483647 := Int.emod_nonneg _ (by decide)
        have m1 : c % 2147483647 < 2147483647 := Int.emod_lt_of_pos _ (by decide)
        refine ⟨_, rfl, c, 2147483647, rfl, rfl, by show (0 : Int) < 2147483647; decide, c % 2147483647, 69621, rfl, rfl, .inr ⟨by decide, by decide⟩, _, rfl, 7919, _, rfl, rfl, .inl ⟨by decide, by decide⟩, _, _, rfl, rfl, _, 11, rfl, rfl, _, 5, rfl, rfl, ⟨by decide, by decide, ?_⟩, _, 2147483647, rfl, rfl, by show (0 : Int) < 2147483647; decide, ?_⟩
        · omega
        refine ⟨_, rfl, _, 2147483629, rfl, rfl, .inr ⟨by decide, by decide⟩, _, rfl, _, 48271, rfl, rfl, .inr ⟨by decide, by decide⟩, _, rfl, _, _, rfl, rfl, _, 5, rfl, rfl, ⟨by decide, by decide, ?_⟩, _, 2147483629, rfl, rfl, by show (0 : Int) < 2147483629; decide, _, _, rfl, rfl, ?_⟩
        · have z : ∀ x : Int, (x % 2147483647 * 48271 + (0 + (i : Int))).natAbs < 2 ^ 64 := fun x => by omega
          exact z _
        exact ⟨rfl, _, _, _, rfl⟩
      · rintro σ H' ⟨rfl, n, v2, v3, rfl⟩
        exact ⟨_, rfl, ln1, fun p hp => k _ p hp⟩
/-! ### _law_take -/
def spTake : Sp := fun vs H Q _ => ∃ (p : Addr) (n m : Int), vs = [.ref p, .int m] ∧ H p = some (.lst [.int n]) ∧ 0 < m ∧ m.natAbs < 2 ^ 200 ∧
  Q (.int (n % m)) (upd H p (.lst [.int (n / m)]))
theorem sc_take : FnScope ["pool", "size", "taken"] ["pool", "size"] d__law_take.scope := ⟨rfl, rfl, rfl, by decide +kernel, rfl, by decide +kernel, by decide +kernel⟩
theorem ok_take (F : FnP K d__law_take f fd) : FnOk P w K mg base CX0 1 f fd ["pool", "size"] spTake := by
  refine F.ok sc_take (fun vs H Q E h => ?_) (fun cdv A outer s H vs Q E hr h => ?_)
  · obtain ⟨p, n, m, rfl, _⟩ := h
    rfl
  · obtain ⟨p, n, m, rfl, hp, h0, h1, k⟩ := h
    refine ⟨_, PSs.nox (pss_cons (ps_set (i := 2) sc_take.nd rfl (.inl rfl) (pe_op op_mod (pe_ix ix_list (pv 0) pe_int (fun _ _ => rfl)) (pv 1)))
      (pss_cons (ps_asg (pe_op op_fdivW (pe_ix ix_list (pv 0) pe_int (fun _ _ => rfl)) (pv 1)) (pg_sub (pv 0) pe_int set_list))
      (pss_one (ps_ret (pv 2))))), ?_⟩
    refine ⟨_, rfl, p, _, 0, _, rfl, rfl, SqL.of hp, rfl, _, rfl, n, m, rfl, rfl, h0, ?_⟩
    refine ⟨_, rfl, p, _, 0, _, rfl, rfl, SqL.of hp, rfl, _, rfl, n, m, rfl, rfl, wide_div h0 h1 (by decide) (by decide), ?_⟩
    exact ⟨_, rfl, p, _, 0, 0, rfl, rfl, hp, rfl, _, rfl, k⟩
end
end Hd
/-! The thing that is drawn. -/
namespace Hd
open PySem PySem.Spec PyProof.Rows L2
theorem neg_str (n : Nat) : (Str.ofString (toString (Int.negSucc n))).length = (Str.ofString (toString ((n + 1 : Nat) : Int))).length + 1 := by
  rw [PySem.ofString_length, PySem.ofString_length]
  have e : toString (Int.negSucc n) = "-" ++ toString ((n + 1 : Nat) : Int) := by rfl
  rw [e, String.length_append]
  have e1 : ("-" : String).length = 1 := by rfl
  omega
theorem str_len (z : Int) {k : Nat} (hk : 0 < k) (h : z.natAbs < 10 ^ k) : (Str.ofString (toString z)).length ≤ k + 1 := by
  have e : ((10 : Int) ^ k) = ((10 ^ k : Nat) : Int) := by simp
  cases z with
  | ofNat n =>
    have q := toString_length_le (v := (n : Int)) (by omega) hk (by rw [e]; exact Int.ofNat_lt.mpr h)
    exact Nat.le_succ_of_le q
  | negSucc n =>
    rw [neg_str]
    have q := toString_length_le (v := ((n + 1 : Nat) : Int)) (by omega) hk (by rw [e]; exact Int.ofNat_lt.mpr h)
    omega
theorem same_new {H : Hp} {a : Addr} {o : HO} (h : H a = none) : Same H (upd H a o) := fun b u e => by
  rw [upd_ne (ne_of_none e h)]
  exact e
/-- a thing: n times "more" was put in -/
inductive Thg (H : Hp) : V → Nat → Prop
  | int (z : Int) (n : Nat) : Thg H (.int z) n
  | str (s : Str) (n : Nat) : Thg H (.str s) n
  | tru (n : Nat) : Thg H (.bl true) n
  | non (n : Nat) : Thg H .non n
  | tup {p : Addr} {z : Int} {n : Nat} (h : H p = some (.tup [.int z, .str "x"])) : Thg H (.ref p) n
  | lst {p : Addr} {z : Int} {n : Nat} (h : H p = some (.lst (.int z :: List.replicate n (.str "more")))) : Thg H (.ref p) n
  | dic {p : Addr} {z : Int} {n : Nat} {kvs : List (Key × V)} (h : H p = some (.dK kvs))
      (hk : kvs = [(.inr "x", .int z)] ∨ ∃ j : Int, kvs = [(.inr "x", .int z), (.inr "more", .int j)]) : Thg H (.ref p) n
  | nest {p q r s : Addr} {z : Int} {n : Nat} (h : H p = some (.lst (.ref q :: .ref r :: List.replicate n (.str "more"))))
      (hq : H q = some (.lst [.int z])) (hr : H r = some (.tup [.int 1, .ref s])) (hs : H s = some (.lst [.int 2])) : Thg H (.ref p) n
section
variable {P : Program} {w : World} {K : PySem.W.Frag} {mg : Str → Option Value} {base : Heap} {f : Addr} {fd : FuncData}
def spThing : Sp := fun vs H Q _ => ∃ (p : Addr) (n : Int), vs = [.ref p] ∧ H p = some (.lst [.int n]) ∧
  ∀ (v : V) (H' : Hp) (m : Int), (∀ b o, b ≠ p → H b = some o → H' b = some o) → H' p = some (.lst [.int m]) → Thg H' v 0 →
    (∀ q, v = .ref q → H q = none) → Q v H'
theorem sc_thing : FnScope ["pool", "way", "value", "some"] ["pool"] d__law_thing.scope := ⟨rfl, rfl, rfl, by decide +kernel, rfl, by decide +kernel, by decide +kernel⟩
theorem ok_thing (T : Tx K mg) (ct : Xn.Cl P w K mg base 1 "_law_take" spTake) (F : FnP K d__law_thing f fd) : FnOk P w K mg base CX0 2 f fd ["pool"] spThing := by
  refine F.ok sc_thing (fun vs H Q E h => ?_) (fun cdv A outer s H vs Q E hr h => ?_)
  · obtain ⟨p, n, rfl, _⟩ := h
    rfl
  · obtain ⟨p, n, rfl, hp, k⟩ := h
    refine ⟨_, PSs.nox (pss_cons (ps_set (i := 1) sc_thing.nd rfl (.inl rfl) (Xn.pe_cl ct hr (pa_cons (pv 0) (pa_cons pe_int pa_nil))))
      (pss_cons (ps_set (i := 2) sc_thing.nd rfl (.inl rfl) (pe_op op_sub (Xn.pe_cl ct hr (pa_cons (pv 0) (pa_cons (pe_op op_pow pe_int pe_int) pa_nil)))
        (Xn.pe_cl ct hr (pa_cons (pv 0) (pa_cons (pe_op op_pow pe_int pe_int) pa_nil)))))
      (pss_cons (ps_set (i := 3) sc_thing.nd rfl (.inl rfl) (pe_lst (pa_cons (pv 2) (pa_cons (pe_op op_add_str pe_str
          (pe_callTy call_str_int (by rfl) (T.f "str" (by decide +kernel)) (by decide +kernel) (pa_cons (pv 2) pa_nil)))
          (pa_cons pe_bl (pa_cons pe_non (pa_cons (pe_tup (pa_cons (pv 2) (pa_cons pe_str pa_nil))) (pa_cons (pe_lst (pa_cons (pv 2) pa_nil))
          (pa_cons (pe_disp (pps_cons pe_str (pv 2) pps_nil) (by rfl) (by rfl) (fun z => by cases z) (by decide))
          (pa_cons (pe_lst (pa_cons (pe_lst (pa_cons (pv 2) pa_nil)) (pa_cons (pe_tup (pa_cons pe_int (pa_cons (pe_lst (pa_cons pe_int pa_nil)) pa_nil))) pa_nil)))
          pa_nil))))))))))
      (pss_one (ps_ret (pe_ix ix_list (pv 3) (pv 1) (fun _ _ => rfl))))))), ?_⟩
    refine ⟨_, rfl, p, n, 8, rfl, hp, by decide, by decide, ?_⟩
    refine ⟨_, rfl, 10, 30, rfl, rfl, ⟨by decide, by decide, by decide⟩, p, _, _, rfl, upd_same, by decide, by decide, ?_⟩
    refine ⟨_, rfl, 10, 29, rfl, rfl, ⟨by decide, by decide, by decide⟩, p, _, _, rfl, upd_same, by decide, by decide, ?_⟩
    refine ⟨_, _, rfl, rfl, ?_⟩
    show tSeq _ _ _ [some (.ref p), some (.int (n % 8)), some (.int (n / 8 % 10 ^ (30 : Int).toNat - n / 8 / 10 ^ (30 : Int).toNat % 10 ^ (29 : Int).toNat)), none]
      (upd (upd (upd H p (.lst [.int (n / 8)])) p (.lst [.int (n / 8 / 10 ^ (30 : Int).toNat)])) p (.lst [.int (n / 8 / 10 ^ (30 : Int).toNat / 10 ^ (29 : Int).toNat)]))
    rw [upd_upd, upd_upd]
    have b1 : (n / 8 % 10 ^ (30 : Int).toNat - n / 8 / 10 ^ (30 : Int).toNat % 10 ^ (29 : Int).toNat).natAbs < 10 ^ 31 := by
      have e1 : (10 : Int) ^ (30 : Int).toNat = 1000000000000000000000000000000 := by decide
      have e2 : (10 : Int) ^ (29 : Int).toNat = 100000000000000000000000000000 := by decide
      rw [e1, e2]
      omega
    have b2 : 0 ≤ n % 8 ∧ n % 8 < 8 := by omega
    generalize n / 8 % 10 ^ (30 : Int).toNat - n / 8 / 10 ^ (30 : Int).toNat % 10 ^ (29 : Int).toNat = val at b1 ⊢
    generalize n / 8 / 10 ^ (30 : Int).toNat / 10 ^ (29 : Int).toNat = m
    generalize n % 8 = way at b2 ⊢
    have s1 : ∀ b o, b ≠ p → H b = some o → upd H p (.lst [.int m]) b = some o := fun b o hb e => by
      rw [upd_ne hb]
      exact e
    have p1 : upd H p (.lst [.int m]) p = some (.lst [.int m]) := upd_same
    have f1 : ∀ q, upd H p (.lst [.int m]) q = none → H q = none := fun q hq => by
      by_cases c : q = p
      · rw [c, p1] at hq
        cases hq
      · rw [upd_ne c] at hq
        exact hq
    generalize upd H p (.lst [.int m]) = H1 at s1 p1 f1 ⊢
    refine ⟨_, rfl, ?_⟩
    refine ⟨_, rfl, val, rfl, by have q : val.natAbs.log2 < 1920 := PySem.Flt.log2_lt_of (by decide) (Nat.lt_of_lt_of_le b1 (by decide +kernel)); exact q, _, _, rfl, rfl, ?_, ?_⟩
    · have q := str_len val (k := 31) (by decide) b1
      exact Nat.le_trans (Nat.add_le_add_left q _) (by decide)
    refine ⟨_, rfl, by show 2 ≤ sizeLine; decide, fun t ht => ?_⟩
    have st := same_new (o := .tup [.int val, .str "x"]) ht
    refine ⟨_, rfl, ln1, fun l hl => ?_⟩
    have sl := same_new (o := .lst [.int val]) hl
    intro d hd
    have sd := same_new (o := .dK [(.inr "x", .int val)]) hd
    have sd1 := same_new (o := .dK []) hd
    refine ⟨_, rfl, upd_same, [(.inr "x", .int val)], rfl, by show 1 ≤ 15; decide, ?_⟩
    rw [upd_upd]
    have ed : mergeK [] [((.inr "x" : Key), V.int val)] = [(.inr "x", .int val)] := rfl
    rw [ed]
    refine ⟨_, rfl, ln1, fun q hq => ?_⟩
    have sq := same_new (o := .lst [.int val]) hq
    refine ⟨ln1, fun s hs => ?_⟩
    have ss := same_new (o := .lst [.int 2]) hs
    refine ⟨by show 2 ≤ sizeLine; decide, fun r hr => ?_⟩
    have sr := same_new (o := .tup [.int 1, .ref s]) hr
    refine ⟨by show 2 ≤ sizeLine; decide, fun u hu => ?_⟩
    have su := same_new (o := .lst [.ref q, .ref r]) hu
    refine ⟨by show 8 ≤ sizeLine; decide, fun L hL => ?_⟩
    have sL := same_new (o := .lst [.int val, .str ("tea " ++ toString val), .bl true, .non, .ref t, .ref l, .ref d, .ref u]) hL
    have z1 := su.trans sL
    have z2 := sr.trans z1
    have z3 := ss.trans z2
    have z4 := sq.trans z3
    have z5 := sd.trans z4
    have z6 := sl.trans z5
    have z7 := st.trans z6
    have ft : H t = none := f1 t ht
    have fl : H l = none := f1 l (st.free hl)
    have fd : H d = none := f1 d (st.free (sl.free hd))
    have fu : H u = none := f1 u (st.free (sl.free (sd.free (sq.free (ss.free (sr.free hu))))))
    have fin : ∀ v, Thg _ v 0 → (∀ q, v = .ref q → H q = none) → Q v _ := fun v hv hf =>
      k v _ m (fun b o hb e => z7 b o (s1 b o hb e)) (z7 _ _ p1) hv hf
    have c : way = 0 ∨ way = 1 ∨ way = 2 ∨ way = 3 ∨ way = 4 ∨ way = 5 ∨ way = 6 ∨ way = 7 := by omega
    have at_ : ∀ (j : Nat) (v : V), way = (j : Int) → ([.int val, .str ("tea " ++ toString val), .bl true, .non, .ref t, .ref l, .ref d, .ref u] : List V)[j]? = some v → atI ([.int val, .str ("tea " ++ toString val), .bl true, .non, .ref t, .ref l, .ref d, .ref u] : List V) way = some v :=
      fun j v e h => by
        rw [e]
        exact atI_nat h
    rcases c with c | c | c | c | c | c | c | c
    · exact ⟨_, rfl, _, rfl, L, _, way, _, rfl, rfl, SqL.of upd_same, at_ 0 _ c rfl, fin _ (.int _ _) (fun q e => nomatch e)⟩
    · exact ⟨_, rfl, _, rfl, L, _, way, _, rfl, rfl, SqL.of upd_same, at_ 1 _ c rfl, fin _ (.str _ _) (fun q e => nomatch e)⟩
    · exact ⟨_, rfl, _, rfl, L, _, way, _, rfl, rfl, SqL.of upd_same, at_ 2 _ c rfl, fin _ (.tru _) (fun q e => nomatch e)⟩
    · exact ⟨_, rfl, _, rfl, L, _, way, _, rfl, rfl, SqL.of upd_same, at_ 3 _ c rfl, fin _ (.non _) (fun q e => nomatch e)⟩
    · exact ⟨_, rfl, _, rfl, L, _, way, _, rfl, rfl, SqL.of upd_same, at_ 4 _ c rfl, fin _ (.tup (z6 _ _ upd_same)) (fun q e => by cases e; exact ft)⟩
    · exact ⟨_, rfl, _, rfl, L, _, way, _, rfl, rfl, SqL.of upd_same, at_ 5 _ c rfl, fin _ (.lst (z5 _ _ upd_same)) (fun q e => by cases e; exact fl)⟩
    · exact ⟨_, rfl, _, rfl, L, _, way, _, rfl, rfl, SqL.of upd_same, at_ 6 _ c rfl, fin _ (.dic (z4 _ _ upd_same) (.inl rfl)) (fun q e => by cases e; exact fd)⟩
    · exact ⟨_, rfl, _, rfl, L, _, way, _, rfl, rfl, SqL.of upd_same, at_ 7 _ c rfl, fin _ (.nest (sL _ _ upd_same) (z3 _ _ upd_same) (z1 _ _ upd_same) (z2 _ _ upd_same)) (fun q e => by cases e; exact fu)⟩
end
end Hd
/-! Refusals made by their number, by place and by name. -/
namespace Hd
open PySem PySem.Spec PyProof.Rows L2
def flds : List Str := ["found", "found", "found", "found", "found", "found", "found", "found", "found", "found", "found", "found", "found", "at", "many", "found", "found", "found", "found", "found", "found", "found", "found", "many", "many"]
theorem step_eq {j : Nat} (i : Nat) {A B : Prop} (h1 : j = i → A) (h2 : ¬ j = i → B) : if decide (V.int (j : Int) = V.int (i : Int)) = true then A else B := by
  by_cases h : j = i
  · subst h
    rw [decide_eq_true rfl]
    exact h1 rfl
  · have e : decide (V.int (j : Int) = V.int (i : Int)) = false := decide_eq_false (fun q => h (by injection q with q; omega))
    rw [e]
    exact h2 h
section
variable (P : Program) (w : World) (K : PySem.W.Frag) (mg : Str → Option Value) (base : Heap)
/-- each refusal can be made -/
def Mks : Prop := ∀ (j : Nat) (x y : Str), exs[j]? = some x → flds[j]? = some y → ∃ i, Xn.MkX P w K mg base (He.ga K x) i 1 y y
end
/-- the refusal of number j, of the thing v -/
def spMk (K : PySem.W.Frag) (lo : Nat) : Sp := fun vs H Q _ => ∃ (j : Nat) (x y : Str) (v : V), vs = [.int (j : Int), v] ∧ lo ≤ j ∧ exs[j]? = some x ∧ flds[j]? = some y ∧
  ∀ a d, H a = none → H d = none → d ≠ a → Q (.ref a) (upd (upd H d (exd d [(y, v)])) a (exo a (He.ga K x) (some d)))
section
variable {P : Program} {w : World} {K : PySem.W.Frag} {mg : Str → Option Value} {base : Heap} {f : Addr} {fd : FuncData}
theorem sc_law_by_place_more : FnScope ["k", "thing"] ["k", "thing"] d__law_by_place_more.scope := ⟨rfl, rfl, rfl, by decide +kernel, rfl, by decide +kernel, by decide +kernel⟩
theorem ok_law_by_place_more (T : Tx K mg) (mks : Mks P w K mg base) (F : FnP K d__law_by_place_more f fd) : FnOk P w K mg base CX0 3 f fd ["k", "thing"] (spMk K 13) := by
  refine F.ok sc_law_by_place_more (fun vs H Q E h => ?_) (fun cdv A outer s H vs Q E hr h => ?_)
  · obtain ⟨j, x, y, v, rfl, _⟩ := h
    rfl
  · obtain ⟨j, x, y, v, rfl, hlo, hx, hy, k⟩ := h
    obtain ⟨_, m13⟩ := mks 13 "NoText" "at" rfl rfl
    obtain ⟨_, m14⟩ := mks 14 "TooMany" "many" rfl rfl
    obtain ⟨_, m15⟩ := mks 15 "NotThere" "found" rfl rfl
    obtain ⟨_, m16⟩ := mks 16 "NotOnRoad" "found" rfl rfl
    obtain ⟨_, m17⟩ := mks 17 "Lacks" "found" rfl rfl
    obtain ⟨_, m18⟩ := mks 18 "Known" "found" rfl rfl
    obtain ⟨_, m19⟩ := mks 19 "Stopped" "found" rfl rfl
    obtain ⟨_, m20⟩ := mks 20 "Awake" "found" rfl rfl
    obtain ⟨_, m21⟩ := mks 21 "AllTold" "found" rfl rfl
    obtain ⟨_, m22⟩ := mks 22 "NoSeat" "found" rfl rfl
    obtain ⟨_, m23⟩ := mks 23 "Full" "many" rfl rfl
    obtain ⟨_, m24⟩ := mks 24 "NotQuiet" "many" rfl rfl
    refine ⟨_, PSs.nox (pss_cons (ps_if (pt_cmpR op_eq (pv 0) pe_int (nomark _)) (pss_one (ps_ret (Xn.pe_newX m13 (hr.mono (by decide)) rfl (T.g "NoText" (by decide +kernel)) (pa_cons (pv 1) pa_nil)))) pss_nil)
      (pss_cons (ps_if (pt_cmpR op_eq (pv 0) pe_int (nomark _)) (pss_one (ps_ret (Xn.pe_newX m14 (hr.mono (by decide)) rfl (T.g "TooMany" (by decide +kernel)) (pa_cons (pv 1) pa_nil)))) pss_nil)
      (pss_cons (ps_if (pt_cmpR op_eq (pv 0) pe_int (nomark _)) (pss_one (ps_ret (Xn.pe_newX m15 (hr.mono (by decide)) rfl (T.g "NotThere" (by decide +kernel)) (pa_cons (pv 1) pa_nil)))) pss_nil)
      (pss_cons (ps_if (pt_cmpR op_eq (pv 0) pe_int (nomark _)) (pss_one (ps_ret (Xn.pe_newX m16 (hr.mono (by decide)) rfl (T.g "NotOnRoad" (by decide +kernel)) (pa_cons (pv 1) pa_nil)))) pss_nil)
      (pss_cons (ps_if (pt_cmpR op_eq (pv 0) pe_int (nomark _)) (pss_one (ps_ret (Xn.pe_newX m17 (hr.mono (by decide)) rfl (T.g "Lacks" (by decide +kernel)) (pa_cons (pv 1) pa_nil)))) pss_nil)
      (pss_cons (ps_if (pt_cmpR op_eq (pv 0) pe_int (nomark _)) (pss_one (ps_ret (Xn.pe_newX m18 (hr.mono (by decide)) rfl (T.g "Known" (by decide +kernel)) (pa_cons (pv 1) pa_nil)))) pss_nil)
      (pss_cons (ps_if (pt_cmpR op_eq (pv 0) pe_int (nomark _)) (pss_one (ps_ret (Xn.pe_newX m19 (hr.mono (by decide)) rfl (T.g "Stopped" (by decide +kernel)) (pa_cons (pv 1) pa_nil)))) pss_nil)
      (pss_cons (ps_if (pt_cmpR op_eq (pv 0) pe_int (nomark _)) (pss_one (ps_ret (Xn.pe_newX m20 (hr.mono (by decide)) rfl (T.g "Awake" (by decide +kernel)) (pa_cons (pv 1) pa_nil)))) pss_nil)
      (pss_cons (ps_if (pt_cmpR op_eq (pv 0) pe_int (nomark _)) (pss_one (ps_ret (Xn.pe_newX m21 (hr.mono (by decide)) rfl (T.g "AllTold" (by decide +kernel)) (pa_cons (pv 1) pa_nil)))) pss_nil)
      (pss_cons (ps_if (pt_cmpR op_eq (pv 0) pe_int (nomark _)) (pss_one (ps_ret (Xn.pe_newX m22 (hr.mono (by decide)) rfl (T.g "NoSeat" (by decide +kernel)) (pa_cons (pv 1) pa_nil)))) pss_nil)
      (pss_cons (ps_if (pt_cmpR op_eq (pv 0) pe_int (nomark _)) (pss_one (ps_ret (Xn.pe_newX m23 (hr.mono (by decide)) rfl (T.g "Full" (by decide +kernel)) (pa_cons (pv 1) pa_nil)))) pss_nil)
      (pss_one (ps_ret (Xn.pe_newX m24 (hr.mono (by decide)) rfl (T.g "NotQuiet" (by decide +kernel)) (pa_cons (pv 1) pa_nil))))))))))))))), ?_⟩
    refine ⟨_, rfl, rfl, _, rfl, step_eq 13 (fun c => ?_) (fun c13 => ?_)⟩
    · subst c
      cases hx
      cases hy
      exact ⟨_, rfl, v, rfl, k⟩
    refine ⟨_, rfl, rfl, _, rfl, step_eq 14 (fun c => ?_) (fun c14 => ?_)⟩
    · subst c
      cases hx
      cases hy
      exact ⟨_, rfl, v, rfl, k⟩
    refine ⟨_, rfl, rfl, _, rfl, step_eq 15 (fun c => ?_) (fun c15 => ?_)⟩
    · subst c
      cases hx
      cases hy
      exact ⟨_, rfl, v, rfl, k⟩
    refine ⟨_, rfl, rfl, _, rfl, step_eq 16 (fun c => ?_) (fun c16 => ?_)⟩
    · subst c
      cases hx
      cases hy
      exact ⟨_, rfl, v, rfl, k⟩
    refine ⟨_, rfl, rfl, _, rfl, step_eq 17 (fun c => ?_) (fun c17 => ?_)⟩
    · subst c
      cases hx
      cases hy
      exact ⟨_, rfl, v, rfl, k⟩
    refine ⟨_, rfl, rfl, _, rfl, step_eq 18 (fun c => ?_) (fun c18 => ?_)⟩
    · subst c
      cases hx
      cases hy
      exact ⟨_, rfl, v, rfl, k⟩
    refine ⟨_, rfl, rfl, _, rfl, step_eq 19 (fun c => ?_) (fun c19 => ?_)⟩
    · subst c
      cases hx
      cases hy
      exact ⟨_, rfl, v, rfl, k⟩
    refine ⟨_, rfl, rfl, _, rfl, step_eq 20 (fun c => ?_) (fun c20 => ?_)⟩
    · subst c
      cases hx
      cases hy
      exact ⟨_, rfl, v, rfl, k⟩
    refine ⟨_, rfl, rfl, _, rfl, step_eq 21 (fun c => ?_) (fun c21 => ?_)⟩
    · subst c
      cases hx
      cases hy
      exact ⟨_, rfl, v, rfl, k⟩
    refine ⟨_, rfl, rfl, _, rfl, step_eq 22 (fun c => ?_) (fun c22 => ?_)⟩
    · subst c
      cases hx
      cases hy
      exact ⟨_, rfl, v, rfl, k⟩
    refine ⟨_, rfl, rfl, _, rfl, step_eq 23 (fun c => ?_) (fun c23 => ?_)⟩
    · subst c
      cases hx
      cases hy
      exact ⟨_, rfl, v, rfl, k⟩
    have hl : j < 25 := (List.getElem?_eq_some_iff.mp hx).1
    have c : j = 24 := by omega
    subst c
    cases hx
    cases hy
    exact ⟨_, rfl, v, rfl, k⟩
theorem sc_law_by_place : FnScope ["k", "thing"] ["k", "thing"] d__law_by_place.scope := ⟨rfl, rfl, rfl, by decide +kernel, rfl, by decide +kernel, by decide +kernel⟩
theorem ok_law_by_place (T : Tx K mg) (mks : Mks P w K mg base) (cm : Xn.Cl P w K mg base 3 "_law_by_place_more" (spMk K 13)) (F : FnP K d__law_by_place f fd) : FnOk P w K mg base CX0 4 f fd ["k", "thing"] (spMk K 0) := by
  refine F.ok sc_law_by_place (fun vs H Q E h => ?_) (fun cdv A outer s H vs Q E hr h => ?_)
  · obtain ⟨j, x, y, v, rfl, _⟩ := h
    rfl
  · obtain ⟨j, x, y, v, rfl, hlo, hx, hy, k⟩ := h
    obtain ⟨_, m0⟩ := mks 0 "NoNumber" "found" rfl rfl
    obtain ⟨_, m1⟩ := mks 1 "NoWord" "found" rfl rfl
    obtain ⟨_, m2⟩ := mks 2 "NoMember" "found" rfl rfl
    obtain ⟨_, m3⟩ := mks 3 "NoCounts" "found" rfl rfl
    obtain ⟨_, m4⟩ := mks 4 "Unlike" "found" rfl rfl
    obtain ⟨_, m5⟩ := mks 5 "NoLetter" "found" rfl rfl
    obtain ⟨_, m6⟩ := mks 6 "NoCauses" "found" rfl rfl
    obtain ⟨_, m7⟩ := mks 7 "Forged" "found" rfl rfl
    obtain ⟨_, m8⟩ := mks 8 "NoShort" "found" rfl rfl
    obtain ⟨_, m9⟩ := mks 9 "NoThing" "found" rfl rfl
    obtain ⟨_, m10⟩ := mks 10 "NoDeed" "found" rfl rfl
    obtain ⟨_, m11⟩ := mks 11 "NoHistory" "found" rfl rfl
    obtain ⟨_, m12⟩ := mks 12 "NoRow" "found" rfl rfl
    refine ⟨_, PSs.nox (pss_cons (ps_if (pt_cmpR op_eq (pv 0) pe_int (nomark _)) (pss_one (ps_ret (Xn.pe_newX m0 (hr.mono (by decide)) rfl (T.g "NoNumber" (by decide +kernel)) (pa_cons (pv 1) pa_nil)))) pss_nil)
      (pss_cons (ps_if (pt_cmpR op_eq (pv 0) pe_int (nomark _)) (pss_one (ps_ret (Xn.pe_newX m1 (hr.mono (by decide)) rfl (T.g "NoWord" (by decide +kernel)) (pa_cons (pv 1) pa_nil)))) pss_nil)
      (pss_cons (ps_if (pt_cmpR op_eq (pv 0) pe_int (nomark _)) (pss_one (ps_ret (Xn.pe_newX m2 (hr.mono (by decide)) rfl (T.g "NoMember" (by decide +kernel)) (pa_cons (pv 1) pa_nil)))) pss_nil)
      (pss_cons (ps_if (pt_cmpR op_eq (pv 0) pe_int (nomark _)) (pss_one (ps_ret (Xn.pe_newX m3 (hr.mono (by decide)) rfl (T.g "NoCounts" (by decide +kernel)) (pa_cons (pv 1) pa_nil)))) pss_nil)
      (pss_cons (ps_if (pt_cmpR op_eq (pv 0) pe_int (nomark _)) (pss_one (ps_ret (Xn.pe_newX m4 (hr.mono (by decide)) rfl (T.g "Unlike" (by decide +kernel)) (pa_cons (pv 1) pa_nil)))) pss_nil)
      (pss_cons (ps_if (pt_cmpR op_eq (pv 0) pe_int (nomark _)) (pss_one (ps_ret (Xn.pe_newX m5 (hr.mono (by decide)) rfl (T.g "NoLetter" (by decide +kernel)) (pa_cons (pv 1) pa_nil)))) pss_nil)
      (pss_cons (ps_if (pt_cmpR op_eq (pv 0) pe_int (nomark _)) (pss_one (ps_ret (Xn.pe_newX m6 (hr.mono (by decide)) rfl (T.g "NoCauses" (by decide +kernel)) (pa_cons (pv 1) pa_nil)))) pss_nil)
      (pss_cons (ps_if (pt_cmpR op_eq (pv 0) pe_int (nomark _)) (pss_one (ps_ret (Xn.pe_newX m7 (hr.mono (by decide)) rfl (T.g "Forged" (by decide +kernel)) (pa_cons (pv 1) pa_nil)))) pss_nil)
      (pss_cons (ps_if (pt_cmpR op_eq (pv 0) pe_int (nomark _)) (pss_one (ps_ret (Xn.pe_newX m8 (hr.mono (by decide)) rfl (T.g "NoShort" (by decide +kernel)) (pa_cons (pv 1) pa_nil)))) pss_nil)
      (pss_cons (ps_if (pt_cmpR op_eq (pv 0) pe_int (nomark _)) (pss_one (ps_ret (Xn.pe_newX m9 (hr.mono (by decide)) rfl (T.g "NoThing" (by decide +kernel)) (pa_cons (pv 1) pa_nil)))) pss_nil)
      (pss_cons (ps_if (pt_cmpR op_eq (pv 0) pe_int (nomark _)) (pss_one (ps_ret (Xn.pe_newX m10 (hr.mono (by decide)) rfl (T.g "NoDeed" (by decide +kernel)) (pa_cons (pv 1) pa_nil)))) pss_nil)
      (pss_cons (ps_if (pt_cmpR op_eq (pv 0) pe_int (nomark _)) (pss_one (ps_ret (Xn.pe_newX m11 (hr.mono (by decide)) rfl (T.g "NoHistory" (by decide +kernel)) (pa_cons (pv 1) pa_nil)))) pss_nil)
      (pss_cons (ps_if (pt_cmpR op_eq (pv 0) pe_int (nomark _)) (pss_one (ps_ret (Xn.pe_newX m12 (hr.mono (by decide)) rfl (T.g "NoRow" (by decide +kernel)) (pa_cons (pv 1) pa_nil)))) pss_nil)
      (pss_one (ps_ret (Xn.pe_cl cm hr (pa_cons (pv 0) (pa_cons (pv 1) pa_nil)))))))))))))))))), ?_⟩
    refine ⟨_, rfl, rfl, _, rfl, step_eq 0 (fun c => ?_) (fun c0 => ?_)⟩
    · subst c
      cases hx
      cases hy
      exact ⟨_, rfl, v, rfl, k⟩
    refine ⟨_, rfl, rfl, _, rfl, step_eq 1 (fun c => ?_) (fun c1 => ?_)⟩
    · subst c
      cases hx
      cases hy
      exact ⟨_, rfl, v, rfl, k⟩
    refine ⟨_, rfl, rfl, _, rfl, step_eq 2 (fun c => ?_) (fun c2 => ?_)⟩
    · subst c
      cases hx
      cases hy
      exact ⟨_, rfl, v, rfl, k⟩
    refine ⟨_, rfl, rfl, _, rfl, step_eq 3 (fun c => ?_) (fun c3 => ?_)⟩
    · subst c
      cases hx
      cases hy
      exact ⟨_, rfl, v, rfl, k⟩
    refine ⟨_, rfl, rfl, _, rfl, step_eq 4 (fun c => ?_) (fun c4 => ?_)⟩
    · subst c
      cases hx
      cases hy
      exact ⟨_, rfl, v, rfl, k⟩
    refine ⟨_, rfl, rfl, _, rfl, step_eq 5 (fun c => ?_) (fun c5 => ?_)⟩
    · subst c
      cases hx
      cases hy
      exact ⟨_, rfl, v, rfl, k⟩
    refine ⟨_, rfl, rfl, _, rfl, step_eq 6 (fun c => ?_) (fun c6 => ?_)⟩
    · subst c
      cases hx
      cases hy
      exact ⟨_, rfl, v, rfl, k⟩
    refine ⟨_, rfl, rfl, _, rfl, step_eq 7 (fun c => ?_) (fun c7 => ?_)⟩
    · subst c
      cases hx
      cases hy
      exact ⟨_, rfl, v, rfl, k⟩
    refine ⟨_, rfl, rfl, _, rfl, step_eq 8 (fun c => ?_) (fun c8 => ?_)⟩
    · subst c
      cases hx
      cases hy
      exact ⟨_, rfl, v, rfl, k⟩
    refine ⟨_, rfl, rfl, _, rfl, step_eq 9 (fun c => ?_) (fun c9 => ?_)⟩
    · subst c
      cases hx
      cases hy
      exact ⟨_, rfl, v, rfl, k⟩
    refine ⟨_, rfl, rfl, _, rfl, step_eq 10 (fun c => ?_) (fun c10 => ?_)⟩
    · subst c
      cases hx
      cases hy
      exact ⟨_, rfl, v, rfl, k⟩
    refine ⟨_, rfl, rfl, _, rfl, step_eq 11 (fun c => ?_) (fun c11 => ?_)⟩
    · subst c
      cases hx
      cases hy
      exact ⟨_, rfl, v, rfl, k⟩
    refine ⟨_, rfl, rfl, _, rfl, step_eq 12 (fun c => ?_) (fun c12 => ?_)⟩
    · subst c
      cases hx
      cases hy
      exact ⟨_, rfl, v, rfl, k⟩
    exact ⟨_, rfl, _, rfl, j, x, y, v, rfl, by omega, hx, hy, k⟩
theorem sc_law_by_name_more : FnScope ["k", "thing"] ["k", "thing"] d__law_by_name_more.scope := ⟨rfl, rfl, rfl, by decide +kernel, rfl, by decide +kernel, by decide +kernel⟩
theorem ok_law_by_name_more (T : Tx K mg) (mks : Mks P w K mg base) (F : FnP K d__law_by_name_more f fd) : FnOk P w K mg base CX0 3 f fd ["k", "thing"] (spMk K 13) := by
  refine F.ok sc_law_by_name_more (fun vs H Q E h => ?_) (fun cdv A outer s H vs Q E hr h => ?_)
  · obtain ⟨j, x, y, v, rfl, _⟩ := h
    rfl
  · obtain ⟨j, x, y, v, rfl, hlo, hx, hy, k⟩ := h
    obtain ⟨_, m13⟩ := mks 13 "NoText" "at" rfl rfl
    obtain ⟨_, m14⟩ := mks 14 "TooMany" "many" rfl rfl
    obtain ⟨_, m15⟩ := mks 15 "NotThere" "found" rfl rfl
    obtain ⟨_, m16⟩ := mks 16 "NotOnRoad" "found" rfl rfl
    obtain ⟨_, m17⟩ := mks 17 "Lacks" "found" rfl rfl
    obtain ⟨_, m18⟩ := mks 18 "Known" "found" rfl rfl
    obtain ⟨_, m19⟩ := mks 19 "Stopped" "found" rfl rfl
    obtain ⟨_, m20⟩ := mks 20 "Awake" "found" rfl rfl
    obtain ⟨_, m21⟩ := mks 21 "AllTold" "found" rfl rfl
    obtain ⟨_, m22⟩ := mks 22 "NoSeat" "found" rfl rfl
    obtain ⟨_, m23⟩ := mks 23 "Full" "many" rfl rfl
    obtain ⟨_, m24⟩ := mks 24 "NotQuiet" "many" rfl rfl
    refine ⟨_, PSs.nox (pss_cons (ps_if (pt_cmpR op_eq (pv 0) pe_int (nomark _)) (pss_one (ps_ret (Xn.pe_newXK m13 (hr.mono (by decide)) rfl (T.g "NoText" (by decide +kernel)) (pk_cons (pv 1) pk_nil)))) pss_nil)
      (pss_cons (ps_if (pt_cmpR op_eq (pv 0) pe_int (nomark _)) (pss_one (ps_ret (Xn.pe_newXK m14 (hr.mono (by decide)) rfl (T.g "TooMany" (by decide +kernel)) (pk_cons (pv 1) pk_nil)))) pss_nil)
      (pss_cons (ps_if (pt_cmpR op_eq (pv 0) pe_int (nomark _)) (pss_one (ps_ret (Xn.pe_newXK m15 (hr.mono (by decide)) rfl (T.g "NotThere" (by decide +kernel)) (pk_cons (pv 1) pk_nil)))) pss_nil)
      (pss_cons (ps_if (pt_cmpR op_eq (pv 0) pe_int (nomark _)) (pss_one (ps_ret (Xn.pe_newXK m16 (hr.mono (by decide)) rfl (T.g "NotOnRoad" (by decide +kernel)) (pk_cons (pv 1) pk_nil)))) pss_nil)
      (pss_cons (ps_if (pt_cmpR op_eq (pv 0) pe_int (nomark _)) (pss_one (ps_ret (Xn.pe_newXK m17 (hr.mono (by decide)) rfl (T.g "Lacks" (by decide +kernel)) (pk_cons (pv 1) pk_nil)))) pss_nil)
      (pss_cons (ps_if (pt_cmpR op_eq (pv 0) pe_int (nomark _)) (pss_one (ps_ret (Xn.pe_newXK m18 (hr.mono (by decide)) rfl (T.g "Known" (by decide +kernel)) (pk_cons (pv 1) pk_nil)))) pss_nil)
      (pss_cons (ps_if (pt_cmpR op_eq (pv 0) pe_int (nomark _)) (pss_one (ps_ret (Xn.pe_newXK m19 (hr.mono (by decide)) rfl (T.g "Stopped" (by decide +kernel)) (pk_cons (pv 1) pk_nil)))) pss_nil)
      (pss_cons (ps_if (pt_cmpR op_eq (pv 0) pe_int (nomark _)) (pss_one (ps_ret (Xn.pe_newXK m20 (hr.mono (by decide)) rfl (T.g "Awake" (by decide +kernel)) (pk_cons (pv 1) pk_nil)))) pss_nil)
      (pss_cons (ps_if (pt_cmpR op_eq (pv 0) pe_int (nomark _)) (pss_one (ps_ret (Xn.pe_newXK m21 (hr.mono (by decide)) rfl (T.g "AllTold" (by decide +kernel)) (pk_cons (pv 1) pk_nil)))) pss_nil)
      (pss_cons (ps_if (pt_cmpR op_eq (pv 0) pe_int (nomark _)) (pss_one (ps_ret (Xn.pe_newXK m22 (hr.mono (by decide)) rfl (T.g "NoSeat" (by decide +kernel)) (pk_cons (pv 1) pk_nil)))) pss_nil)
      (pss_cons (ps_if (pt_cmpR op_eq (pv 0) pe_int (nomark _)) (pss_one (ps_ret (Xn.pe_newXK m23 (hr.mono (by decide)) rfl (T.g "Full" (by decide +kernel)) (pk_cons (pv 1) pk_nil)))) pss_nil)
      (pss_one (ps_ret (Xn.pe_newXK m24 (hr.mono (by decide)) rfl (T.g "NotQuiet" (by decide +kernel)) (pk_cons (pv 1) pk_nil))))))))))))))), ?_⟩
    refine ⟨_, rfl, rfl, _, rfl, step_eq 13 (fun c => ?_) (fun c13 => ?_)⟩
    · subst c
      cases hx
      cases hy
      exact ⟨_, rfl, v, rfl, k⟩
    refine ⟨_, rfl, rfl, _, rfl, step_eq 14 (fun c => ?_) (fun c14 => ?_)⟩
    · subst c
      cases hx
      cases hy
      exact ⟨_, rfl, v, rfl, k⟩
    refine ⟨_, rfl, rfl, _, rfl, step_eq 15 (fun c => ?_) (fun c15 => ?_)⟩
    · subst c
      cases hx
      cases hy
      exact ⟨_, rfl, v, rfl, k⟩
    refine ⟨_, rfl, rfl, _, rfl, step_eq 16 (fun c => ?_) (fun c16 => ?_)⟩
    · subst c
      cases hx
      cases hy
      exact ⟨_, rfl, v, rfl, k⟩
    refine ⟨_, rfl, rfl, _, rfl, step_eq 17 (fun c => ?_) (fun c17 => ?_)⟩
    · subst c
      cases hx
      cases hy
      exact ⟨_, rfl, v, rfl, k⟩
    refine ⟨_, rfl, rfl, _, rfl, step_eq 18 (fun c => ?_) (fun c18 => ?_)⟩
    · subst c
      cases hx
      cases hy
      exact ⟨_, rfl, v, rfl, k⟩
    refine ⟨_, rfl, rfl, _, rfl, step_eq 19 (fun c => ?_) (fun c19 => ?_)⟩
    · subst c
      cases hx
      cases hy
      exact ⟨_, rfl, v, rfl, k⟩
    refine ⟨_, rfl, rfl, _, rfl, step_eq 20 (fun c => ?_) (fun c20 => ?_)⟩
    · subst c
      cases hx
      cases hy
      exact ⟨_, rfl, v, rfl, k⟩
    refine ⟨_, rfl, rfl, _, rfl, step_eq 21 (fun c => ?_) (fun c21 => ?_)⟩
    · subst c
      cases hx
      cases hy
      exact ⟨_, rfl, v, rfl, k⟩
    refine ⟨_, rfl, rfl, _, rfl, step_eq 22 (fun c => ?_) (fun c22 => ?_)⟩
    · subst c
      cases hx
      cases hy
      exact ⟨_, rfl, v, rfl, k⟩
    refine ⟨_, rfl, rfl, _, rfl, step_eq 23 (fun c => ?_) (fun c23 => ?_)⟩
    · subst c
      cases hx
      cases hy
      exact ⟨_, rfl, v, rfl, k⟩
    have hl : j < 25 := (List.getElem?_eq_some_iff.mp hx).1
    have c : j = 24 := by omega
    subst c
    cases hx
    cases hy
    exact ⟨_, rfl, v, rfl, k⟩
theorem sc_law_by_name : FnScope ["k", "thing"] ["k", "thing"] d__law_by_name.scope := ⟨rfl, rfl, rfl, by decide +kernel, rfl, by decide +kernel, by decide +kernel⟩
theorem ok_law_by_name (T : Tx K mg) (mks : Mks P w K mg base) (cm : Xn.Cl P w K mg base 3 "_law_by_name_more" (spMk K 13)) (F : FnP K d__law_by_name f fd) : FnOk P w K mg base CX0 4 f fd ["k", "thing"] (spMk K 0) := by
  refine F.ok sc_law_by_name (fun vs H Q E h => ?_) (fun cdv A outer s H vs Q E hr h => ?_)
  · obtain ⟨j, x, y, v, rfl, _⟩ := h
    rfl
  · obtain ⟨j, x, y, v, rfl, hlo, hx, hy, k⟩ := h
    obtain ⟨_, m0⟩ := mks 0 "NoNumber" "found" rfl rfl
    obtain ⟨_, m1⟩ := mks 1 "NoWord" "found" rfl rfl
    obtain ⟨_, m2⟩ := mks 2 "NoMember" "found" rfl rfl
    obtain ⟨_, m3⟩ := mks 3 "NoCounts" "found" rfl rfl
    obtain ⟨_, m4⟩ := mks 4 "Unlike" "found" rfl rfl
    obtain ⟨_, m5⟩ := mks 5 "NoLetter" "found" rfl rfl
    obtain ⟨_, m6⟩ := mks 6 "NoCauses" "found" rfl rfl
    obtain ⟨_, m7⟩ := mks 7 "Forged" "found" rfl rfl
    obtain ⟨_, m8⟩ := mks 8 "NoShort" "found" rfl rfl
    obtain ⟨_, m9⟩ := mks 9 "NoThing" "found" rfl rfl
    obtain ⟨_, m10⟩ := mks 10 "NoDeed" "found" rfl rfl
    obtain ⟨_, m11⟩ := mks 11 "NoHistory" "found" rfl rfl
    obtain ⟨_, m12⟩ := mks 12 "NoRow" "found" rfl rfl
    refine ⟨_, PSs.nox (pss_cons (ps_if (pt_cmpR op_eq (pv 0) pe_int (nomark _)) (pss_one (ps_ret (Xn.pe_newXK m0 (hr.mono (by decide)) rfl (T.g "NoNumber" (by decide +kernel)) (pk_cons (pv 1) pk_nil)))) pss_nil)
      (pss_cons (ps_if (pt_cmpR op_eq (pv 0) pe_int (nomark _)) (pss_one (ps_ret (Xn.pe_newXK m1 (hr.mono (by decide)) rfl (T.g "NoWord" (by decide +kernel)) (pk_cons (pv 1) pk_nil)))) pss_nil)
      (pss_cons (ps_if (pt_cmpR op_eq (pv 0) pe_int (nomark _)) (pss_one (ps_ret (Xn.pe_newXK m2 (hr.mono (by decide)) rfl (T.g "NoMember" (by decide +kernel)) (pk_cons (pv 1) pk_nil)))) pss_nil)
      (pss_cons (ps_if (pt_cmpR op_eq (pv 0) pe_int (nomark _)) (pss_one (ps_ret (Xn.pe_newXK m3 (hr.mono (by decide)) rfl (T.g "NoCounts" (by decide +kernel)) (pk_cons (pv 1) pk_nil)))) pss_nil)
      (pss_cons (ps_if (pt_cmpR op_eq (pv 0) pe_int (nomark _)) (pss_one (ps_ret (Xn.pe_newXK m4 (hr.mono (by decide)) rfl (T.g "Unlike" (by decide +kernel)) (pk_cons (pv 1) pk_nil)))) pss_nil)
      (pss_cons (ps_if (pt_cmpR op_eq (pv 0) pe_int (nomark _)) (pss_one (ps_ret (Xn.pe_newXK m5 (hr.mono (by decide)) rfl (T.g "NoLetter" (by decide +kernel)) (pk_cons (pv 1) pk_nil)))) pss_nil)
      (pss_cons (ps_if (pt_cmpR op_eq (pv 0) pe_int (nomark _)) (pss_one (ps_ret (Xn.pe_newXK m6 (hr.mono (by decide)) rfl (T.g "NoCauses" (by decide +kernel)) (pk_cons (pv 1) pk_nil)))) pss_nil)
      (pss_cons (ps_if (pt_cmpR op_eq (pv 0) pe_int (nomark _)) (pss_one (ps_ret (Xn.pe_newXK m7 (hr.mono (by decide)) rfl (T.g "Forged" (by decide +kernel)) (pk_cons (pv 1) pk_nil)))) pss_nil)
      (pss_cons (ps_if (pt_cmpR op_eq (pv 0) pe_int (nomark _)) (pss_one (ps_ret (Xn.pe_newXK m8 (hr.mono (by decide)) rfl (T.g "NoShort" (by decide +kernel)) (pk_cons (pv 1) pk_nil)))) pss_nil)
      (pss_cons (ps_if (pt_cmpR op_eq (pv 0) pe_int (nomark _)) (pss_one (ps_ret (Xn.pe_newXK m9 (hr.mono (by decide)) rfl (T.g "NoThing" (by decide +kernel)) (pk_cons (pv 1) pk_nil)))) pss_nil)
      (pss_cons (ps_if (pt_cmpR op_eq (pv 0) pe_int (nomark _)) (pss_one (ps_ret (Xn.pe_newXK m10 (hr.mono (by decide)) rfl (T.g "NoDeed" (by decide +kernel)) (pk_cons (pv 1) pk_nil)))) pss_nil)
      (pss_cons (ps_if (pt_cmpR op_eq (pv 0) pe_int (nomark _)) (pss_one (ps_ret (Xn.pe_newXK m11 (hr.mono (by decide)) rfl (T.g "NoHistory" (by decide +kernel)) (pk_cons (pv 1) pk_nil)))) pss_nil)
      (pss_cons (ps_if (pt_cmpR op_eq (pv 0) pe_int (nomark _)) (pss_one (ps_ret (Xn.pe_newXK m12 (hr.mono (by decide)) rfl (T.g "NoRow" (by decide +kernel)) (pk_cons (pv 1) pk_nil)))) pss_nil)
      (pss_one (ps_ret (Xn.pe_cl cm hr (pa_cons (pv 0) (pa_cons (pv 1) pa_nil)))))))))))))))))), ?_⟩
    refine ⟨_, rfl, rfl, _, rfl, step_eq 0 (fun c => ?_) (fun c0 => ?_)⟩
    · subst c
      cases hx
      cases hy
      exact ⟨_, rfl, v, rfl, k⟩
    refine ⟨_, rfl, rfl, _, rfl, step_eq 1 (fun c => ?_) (fun c1 => ?_)⟩
    · subst c
      cases hx
      cases hy
      exact ⟨_, rfl, v, rfl, k⟩
    refine ⟨_, rfl, rfl, _, rfl, step_eq 2 (fun c => ?_) (fun c2 => ?_)⟩
    · subst c
      cases hx
      cases hy
      exact ⟨_, rfl, v, rfl, k⟩
    refine ⟨_, rfl, rfl, _, rfl, step_eq 3 (fun c => ?_) (fun c3 => ?_)⟩
    · subst c
      cases hx
      cases hy
      exact ⟨_, rfl, v, rfl, k⟩
    refine ⟨_, rfl, rfl, _, rfl, step_eq 4 (fun c => ?_) (fun c4 => ?_)⟩
    · subst c
      cases hx
      cases hy
      exact ⟨_, rfl, v, rfl, k⟩
    refine ⟨_, rfl, rfl, _, rfl, step_eq 5 (fun c => ?_) (fun c5 => ?_)⟩
    · subst c
      cases hx
      cases hy
      exact ⟨_, rfl, v, rfl, k⟩
    refine ⟨_, rfl, rfl, _, rfl, step_eq 6 (fun c => ?_) (fun c6 => ?_)⟩
    · subst c
      cases hx
      cases hy
      exact ⟨_, rfl, v, rfl, k⟩
    refine ⟨_, rfl, rfl, _, rfl, step_eq 7 (fun c => ?_) (fun c7 => ?_)⟩
    · subst c
      cases hx
      cases hy
      exact ⟨_, rfl, v, rfl, k⟩
    refine ⟨_, rfl, rfl, _, rfl, step_eq 8 (fun c => ?_) (fun c8 => ?_)⟩
    · subst c
      cases hx
      cases hy
      exact ⟨_, rfl, v, rfl, k⟩
    refine ⟨_, rfl, rfl, _, rfl, step_eq 9 (fun c => ?_) (fun c9 => ?_)⟩
    · subst c
      cases hx
      cases hy
      exact ⟨_, rfl, v, rfl, k⟩
    refine ⟨_, rfl, rfl, _, rfl, step_eq 10 (fun c => ?_) (fun c10 => ?_)⟩
    · subst c
      cases hx
      cases hy
      exact ⟨_, rfl, v, rfl, k⟩
    refine ⟨_, rfl, rfl, _, rfl, step_eq 11 (fun c => ?_) (fun c11 => ?_)⟩
    · subst c
      cases hx
      cases hy
      exact ⟨_, rfl, v, rfl, k⟩
    refine ⟨_, rfl, rfl, _, rfl, step_eq 12 (fun c => ?_) (fun c12 => ?_)⟩
    · subst c
      cases hx
      cases hy
      exact ⟨_, rfl, v, rfl, k⟩
    exact ⟨_, rfl, _, rfl, j, x, y, v, rfl, by omega, hx, hy, k⟩
end
end Hd
/-! Of which classes and families a refusal is; its field. -/
namespace Hd
open PySem PySem.Spec PyProof.Rows L2
theorem exa_same {K : PySem.W.Frag} {H H' : Hp} {a C : Addr} (h : Xn.ExA K H a C) (s : Same H H') : Xn.ExA K H' a C := by
  cases h with
  | own h hd =>
    refine .own ?_ (s _ _ hd)
    rcases h with h | ⟨o, h⟩
    · exact .inl (s _ _ h)
    · exact .inr ⟨o, s _ _ h⟩
  | bare h => exact .bare (s _ _ h)
  | held h hc hv ho hd => exact .held (s _ _ h) hc hv ho (s _ _ hd)
/-- what isinstance tells of an x, class by class; family by family, base by base -/
def clsL (x : Str) : List Bool := exs.map fun y => decide (y = x ∨ y = famOf x)
def famL (x : Str) : List Bool := (fms.map fun y => decide (y = x ∨ y = famOf x)) ++ tys.map (tyOf x)
def dueL (j : Nat) : List Bool := if j < 15 then [true, false, false, true, false, false] else if j < 17 then [false, true, false, false, true, true] else [false, false, true, false, false, true]
/-- a new list of truths -/
def NewL (H : Hp) (Q : VK) (bs : List Bool) : Prop := ∀ (p : Addr) (H' : Hp), Same H H' → H p = none → H' p = some (.lst (bs.map V.bl)) → Q (.ref p) H'
def spCls (K : PySem.W.Frag) : Sp := fun vs H Q _ => ∃ (e : Addr) (x : Str), vs = [.ref e] ∧ x ∈ fms ++ exs ∧ Xn.ExA K H e (He.ga K x) ∧ NewL H Q (clsL x)
def spFam (K : PySem.W.Frag) : Sp := fun vs H Q _ => ∃ (e : Addr) (x : Str), vs = [.ref e] ∧ x ∈ fms ++ exs ∧ Xn.ExA K H e (He.ga K x) ∧ NewL H Q (famL x)
def spDue : Sp := fun vs H Q _ => ∃ j : Nat, vs = [.int (j : Int)] ∧ NewL H Q (dueL j)
section
variable {P : Program} {w : World} {K : PySem.W.Frag} {mg : Str → Option Value} {base : Heap} {f : Addr} {fd : FuncData}
theorem sc_classes : FnScope ["e", "row"] ["e"] d__law_classes.scope := ⟨rfl, rfl, rfl, by decide +kernel, rfl, by decide +kernel, by decide +kernel⟩
theorem sc_families : FnScope ["e", "row"] ["e"] d__law_families.scope := ⟨rfl, rfl, rfl, by decide +kernel, rfl, by decide +kernel, by decide +kernel⟩
theorem sc_due : FnScope ["k"] ["k"] d__law_due_families.scope := ⟨rfl, rfl, rfl, by decide +kernel, rfl, by decide +kernel, by decide +kernel⟩
theorem ok_classes (T : Tx K mg) (F : FnP K d__law_classes f fd) : FnOk P w K mg base CX0 1 f fd ["e"] (spCls K) := by
  refine F.ok sc_classes (fun vs H Q E h => ?_) (fun cdv A outer s H vs Q E hr h => ?_)
  · obtain ⟨e, x, rfl, _⟩ := h
    rfl
  · obtain ⟨e, x, rfl, hx, he, k⟩ := h
    have X := T.xc x hx
    refine ⟨_, PSs.nox (pss_cons (ps_set (i := 1) sc_classes.nd rfl (.inl rfl) (pe_lst pa_nil))
      (pss_cons (ps_set (i := 1) sc_classes.nd rfl (.inl rfl) (pe_op op_cat (pv 1) (pe_lst (pa_cons (pe_callB Xn.call_isX (by rfl) (T.f "isinstance" (by decide +kernel)) (by decide +kernel) (pa_cons (pv 0) (pa_cons (pe_glob (v := .ref (He.ga K "NoNumber")) rfl (T.g "NoNumber" (by decide +kernel)) rfl) pa_nil))) (pa_cons (pe_callB Xn.call_isX (by rfl) (T.f "isinstance" (by decide +kernel)) (by decide +kernel) (pa_cons (pv 0) (pa_cons (pe_glob (v := .ref (He.ga K "NoWord")) rfl (T.g "NoWord" (by decide +kernel)) rfl) pa_nil))) (pa_cons (pe_callB Xn.call_isX (by rfl) (T.f "isinstance" (by decide +kernel)) (by decide +kernel) (pa_cons (pv 0) (pa_cons (pe_glob (v := .ref (He.ga K "NoMember")) rfl (T.g "NoMember" (by decide +kernel)) rfl) pa_nil))) pa_nil))))))
      (pss_cons (ps_set (i := 1) sc_classes.nd rfl (.inl rfl) (pe_op op_cat (pv 1) (pe_lst (pa_cons (pe_callB Xn.call_isX (by rfl) (T.f "isinstance" (by decide +kernel)) (by decide +kernel) (pa_cons (pv 0) (pa_cons (pe_glob (v := .ref (He.ga K "NoCounts")) rfl (T.g "NoCounts" (by decide +kernel)) rfl) pa_nil))) (pa_cons (pe_callB Xn.call_isX (by rfl) (T.f "isinstance" (by decide +kernel)) (by decide +kernel) (pa_cons (pv 0) (pa_cons (pe_glob (v := .ref (He.ga K "Unlike")) rfl (T.g "Unlike" (by decide +kernel)) rfl) pa_nil))) (pa_cons (pe_callB Xn.call_isX (by rfl) (T.f "isinstance" (by decide +kernel)) (by decide +kernel) (pa_cons (pv 0) (pa_cons (pe_glob (v := .ref (He.ga K "NoLetter")) rfl (T.g "NoLetter" (by decide +kernel)) rfl) pa_nil))) pa_nil))))))
      (pss_cons (ps_set (i := 1) sc_classes.nd rfl (.inl rfl) (pe_op op_cat (pv 1) (pe_lst (pa_cons (pe_callB Xn.call_isX (by rfl) (T.f "isinstance" (by decide +kernel)) (by decide +kernel) (pa_cons (pv 0) (pa_cons (pe_glob (v := .ref (He.ga K "NoCauses")) rfl (T.g "NoCauses" (by decide +kernel)) rfl) pa_nil))) (pa_cons (pe_callB Xn.call_isX (by rfl) (T.f "isinstance" (by decide +kernel)) (by decide +kernel) (pa_cons (pv 0) (pa_cons (pe_glob (v := .ref (He.ga K "Forged")) rfl (T.g "Forged" (by decide +kernel)) rfl) pa_nil))) (pa_cons (pe_callB Xn.call_isX (by rfl) (T.f "isinstance" (by decide +kernel)) (by decide +kernel) (pa_cons (pv 0) (pa_cons (pe_glob (v := .ref (He.ga K "NoShort")) rfl (T.g "NoShort" (by decide +kernel)) rfl) pa_nil))) pa_nil))))))
      (pss_cons (ps_set (i := 1) sc_classes.nd rfl (.inl rfl) (pe_op op_cat (pv 1) (pe_lst (pa_cons (pe_callB Xn.call_isX (by rfl) (T.f "isinstance" (by decide +kernel)) (by decide +kernel) (pa_cons (pv 0) (pa_cons (pe_glob (v := .ref (He.ga K "NoThing")) rfl (T.g "NoThing" (by decide +kernel)) rfl) pa_nil))) (pa_cons (pe_callB Xn.call_isX (by rfl) (T.f "isinstance" (by decide +kernel)) (by decide +kernel) (pa_cons (pv 0) (pa_cons (pe_glob (v := .ref (He.ga K "NoDeed")) rfl (T.g "NoDeed" (by decide +kernel)) rfl) pa_nil))) (pa_cons (pe_callB Xn.call_isX (by rfl) (T.f "isinstance" (by decide +kernel)) (by decide +kernel) (pa_cons (pv 0) (pa_cons (pe_glob (v := .ref (He.ga K "NoHistory")) rfl (T.g "NoHistory" (by decide +kernel)) rfl) pa_nil))) pa_nil))))))
      (pss_cons (ps_set (i := 1) sc_classes.nd rfl (.inl rfl) (pe_op op_cat (pv 1) (pe_lst (pa_cons (pe_callB Xn.call_isX (by rfl) (T.f "isinstance" (by decide +kernel)) (by decide +kernel) (pa_cons (pv 0) (pa_cons (pe_glob (v := .ref (He.ga K "NoRow")) rfl (T.g "NoRow" (by decide +kernel)) rfl) pa_nil))) (pa_cons (pe_callB Xn.call_isX (by rfl) (T.f "isinstance" (by decide +kernel)) (by decide +kernel) (pa_cons (pv 0) (pa_cons (pe_glob (v := .ref (He.ga K "NoText")) rfl (T.g "NoText" (by decide +kernel)) rfl) pa_nil))) (pa_cons (pe_callB Xn.call_isX (by rfl) (T.f "isinstance" (by decide +kernel)) (by decide +kernel) (pa_cons (pv 0) (pa_cons (pe_glob (v := .ref (He.ga K "TooMany")) rfl (T.g "TooMany" (by decide +kernel)) rfl) pa_nil))) pa_nil))))))
      (pss_cons (ps_set (i := 1) sc_classes.nd rfl (.inl rfl) (pe_op op_cat (pv 1) (pe_lst (pa_cons (pe_callB Xn.call_isX (by rfl) (T.f "isinstance" (by decide +kernel)) (by decide +kernel) (pa_cons (pv 0) (pa_cons (pe_glob (v := .ref (He.ga K "NotThere")) rfl (T.g "NotThere" (by decide +kernel)) rfl) pa_nil))) (pa_cons (pe_callB Xn.call_isX (by rfl) (T.f "isinstance" (by decide +kernel)) (by decide +kernel) (pa_cons (pv 0) (pa_cons (pe_glob (v := .ref (He.ga K "NotOnRoad")) rfl (T.g "NotOnRoad" (by decide +kernel)) rfl) pa_nil))) (pa_cons (pe_callB Xn.call_isX (by rfl) (T.f "isinstance" (by decide +kernel)) (by decide +kernel) (pa_cons (pv 0) (pa_cons (pe_glob (v := .ref (He.ga K "Lacks")) rfl (T.g "Lacks" (by decide +kernel)) rfl) pa_nil))) pa_nil))))))
      (pss_cons (ps_set (i := 1) sc_classes.nd rfl (.inl rfl) (pe_op op_cat (pv 1) (pe_lst (pa_cons (pe_callB Xn.call_isX (by rfl) (T.f "isinstance" (by decide +kernel)) (by decide +kernel) (pa_cons (pv 0) (pa_cons (pe_glob (v := .ref (He.ga K "Known")) rfl (T.g "Known" (by decide +kernel)) rfl) pa_nil))) (pa_cons (pe_callB Xn.call_isX (by rfl) (T.f "isinstance" (by decide +kernel)) (by decide +kernel) (pa_cons (pv 0) (pa_cons (pe_glob (v := .ref (He.ga K "Stopped")) rfl (T.g "Stopped" (by decide +kernel)) rfl) pa_nil))) (pa_cons (pe_callB Xn.call_isX (by rfl) (T.f "isinstance" (by decide +kernel)) (by decide +kernel) (pa_cons (pv 0) (pa_cons (pe_glob (v := .ref (He.ga K "Awake")) rfl (T.g "Awake" (by decide +kernel)) rfl) pa_nil))) pa_nil))))))
      (pss_cons (ps_set (i := 1) sc_classes.nd rfl (.inl rfl) (pe_op op_cat (pv 1) (pe_lst (pa_cons (pe_callB Xn.call_isX (by rfl) (T.f "isinstance" (by decide +kernel)) (by decide +kernel) (pa_cons (pv 0) (pa_cons (pe_glob (v := .ref (He.ga K "AllTold")) rfl (T.g "AllTold" (by decide +kernel)) rfl) pa_nil))) (pa_cons (pe_callB Xn.call_isX (by rfl) (T.f "isinstance" (by decide +kernel)) (by decide +kernel) (pa_cons (pv 0) (pa_cons (pe_glob (v := .ref (He.ga K "NoSeat")) rfl (T.g "NoSeat" (by decide +kernel)) rfl) pa_nil))) (pa_cons (pe_callB Xn.call_isX (by rfl) (T.f "isinstance" (by decide +kernel)) (by decide +kernel) (pa_cons (pv 0) (pa_cons (pe_glob (v := .ref (He.ga K "Full")) rfl (T.g "Full" (by decide +kernel)) rfl) pa_nil))) pa_nil))))))
      (pss_cons (ps_set (i := 1) sc_classes.nd rfl (.inl rfl) (pe_op op_cat (pv 1) (pe_lst (pa_cons (pe_callB Xn.call_isX (by rfl) (T.f "isinstance" (by decide +kernel)) (by decide +kernel) (pa_cons (pv 0) (pa_cons (pe_glob (v := .ref (He.ga K "NotQuiet")) rfl (T.g "NotQuiet" (by decide +kernel)) rfl) pa_nil))) pa_nil))))
      (pss_one (ps_ret (pv 1))))))))))))), ?_⟩
    refine ⟨Nat.zero_le _, fun p0 h0 => ?_⟩
    have s0 := same_new (o := .lst []) h0

    refine ⟨_, rfl, ?_⟩
    refine ⟨_, rfl, e, _, _, _, _, _, rfl, .own _, X, exa_same he s0, T.kit x "NoNumber" hx, ?_⟩
    refine ⟨_, rfl, e, _, _, _, _, _, rfl, .own _, X, exa_same he s0, T.kit x "NoWord" hx, ?_⟩
    refine ⟨_, rfl, e, _, _, _, _, _, rfl, .own _, X, exa_same he s0, T.kit x "NoMember" hx, ?_⟩
    refine ⟨by show 3 ≤ sizeLine; decide, fun q0 hq0 => ?_⟩
    have sq0 := same_new (o := .lst [.bl (decide ("NoNumber" = x ∨ "NoNumber" = famOf x)), .bl (decide ("NoWord" = x ∨ "NoWord" = famOf x)), .bl (decide ("NoMember" = x ∨ "NoMember" = famOf x))]) hq0
    refine ⟨p0, q0, _, _, rfl, rfl, sq0 _ _ upd_same, upd_same, by show 0 + 3 ≤ sizeLine; decide, fun p1 h1 => ?_⟩
    have s1 := (s0.trans sq0).trans (same_new (o := .lst [.bl (decide ("NoNumber" = x ∨ "NoNumber" = famOf x)), .bl (decide ("NoWord" = x ∨ "NoWord" = famOf x)), .bl (decide ("NoMember" = x ∨ "NoMember" = famOf x))]) h1)
    refine ⟨_, rfl, ?_⟩
    refine ⟨_, rfl, e, _, _, _, _, _, rfl, .own _, X, exa_same he s1, T.kit x "NoCounts" hx, ?_⟩
    refine ⟨_, rfl, e, _, _, _, _, _, rfl, .own _, X, exa_same he s1, T.kit x "Unlike" hx, ?_⟩
    refine ⟨_, rfl, e, _, _, _, _, _, rfl, .own _, X, exa_same he s1, T.kit x "NoLetter" hx, ?_⟩
    refine ⟨by show 3 ≤ sizeLine; decide, fun q1 hq1 => ?_⟩
    have sq1 := same_new (o := .lst [.bl (decide ("NoCounts" = x ∨ "NoCounts" = famOf x)), .bl (decide ("Unlike" = x ∨ "Unlike" = famOf x)), .bl (decide ("NoLetter" = x ∨ "NoLetter" = famOf x))]) hq1
    refine ⟨p1, q1, _, _, rfl, rfl, sq1 _ _ upd_same, upd_same, by show 3 + 3 ≤ sizeLine; decide, fun p2 h2 => ?_⟩
    have s2 := (s1.trans sq1).trans (same_new (o := .lst [.bl (decide ("NoNumber" = x ∨ "NoNumber" = famOf x)), .bl (decide ("NoWord" = x ∨ "NoWord" = famOf x)), .bl (decide ("NoMember" = x ∨ "NoMember" = famOf x)), .bl (decide ("NoCounts" = x ∨ "NoCounts" = famOf x)), .bl (decide ("Unlike" = x ∨ "Unlike" = famOf x)), .bl (decide ("NoLetter" = x ∨ "NoLetter" = famOf x))]) h2)
    refine ⟨_, rfl, ?_⟩
    refine ⟨_, rfl, e, _, _, _, _, _, rfl, .own _, X, exa_same he s2, T.kit x "NoCauses" hx, ?_⟩
    refine ⟨_, rfl, e, _, _, _, _, _, rfl, .own _, X, exa_same he s2, T.kit x "Forged" hx, ?_⟩
    refine ⟨_, rfl, e, _, _, _, _, _, rfl, .own _, X, exa_same he s2, T.kit x "NoShort" hx, ?_⟩
    refine ⟨by show 3 ≤ sizeLine; decide, fun q2 hq2 => ?_⟩
    have sq2 := same_new (o := .lst [.bl (decide ("NoCauses" = x ∨ "NoCauses" = famOf x)), .bl (decide ("Forged" = x ∨ "Forged" = famOf x)), .bl (decide ("NoShort" = x ∨ "NoShort" = famOf x))]) hq2
    refine ⟨p2, q2, _, _, rfl, rfl, sq2 _ _ upd_same, upd_same, by show 6 + 3 ≤ sizeLine; decide, fun p3 h3 => ?_⟩
    have s3 := (s2.trans sq2).trans (same_new (o := .lst [.bl (decide ("NoNumber" = x ∨ "NoNumber" = famOf x)), .bl (decide ("NoWord" = x ∨ "NoWord" = famOf x)), .bl (decide ("NoMember" = x ∨ "NoMember" = famOf x)), .bl (decide ("NoCounts" = x ∨ "NoCounts" = famOf x)), .bl (decide ("Unlike" = x ∨ "Unlike" = famOf x)), .bl (decide ("NoLetter" = x ∨ "NoLetter" = famOf x)), .bl (decide ("NoCauses" = x ∨ "NoCauses" = famOf x)), .bl (decide ("Forged" = x ∨ "Forged" = famOf x)), .bl (decide ("NoShort" = x ∨ "NoShort" = famOf x))]) h3)
    refine ⟨_, rfl, ?_⟩
    refine ⟨_, rfl, e, _, _, _, _, _, rfl, .own _, X, exa_same he s3, T.kit x "NoThing" hx, ?_⟩
    refine ⟨_, rfl, e, _, _, _, _, _, rfl, .own _, X, exa_same he s3, T.kit x "NoDeed" hx, ?_⟩
    refine ⟨_, rfl, e, _, _, _, _, _, rfl, .own _, X, exa_same he s3, T.kit x "NoHistory" hx, ?_⟩
    refine ⟨by show 3 ≤ sizeLine; decide, fun q3 hq3 => ?_⟩
    have sq3 := same_new (o := .lst [.bl (decide ("NoThing" = x ∨ "NoThing" = famOf x)), .bl (decide ("NoDeed" = x ∨ "NoDeed" = famOf x)), .bl (decide ("NoHistory" = x ∨ "NoHistory" = famOf x))]) hq3
    refine ⟨p3, q3, _, _, rfl, rfl, sq3 _ _ upd_same, upd_same, by show 9 + 3 ≤ sizeLine; decide, fun p4 h4 => ?_⟩
    have s4 := (s3.trans sq3).trans (same_new (o := .lst [.bl (decide ("NoNumber" = x ∨ "NoNumber" = famOf x)), .bl (decide ("NoWord" = x ∨ "NoWord" = famOf x)), .bl (decide ("NoMember" = x ∨ "NoMember" = famOf x)), .bl (decide ("NoCounts" = x ∨ "NoCounts" = famOf x)), .bl (decide ("Unlike" = x ∨ "Unlike" = famOf x)), .bl (decide ("NoLetter" = x ∨ "NoLetter" = famOf x)), .bl (decide ("NoCauses" = x ∨ "NoCauses" = famOf x)), .bl (decide ("Forged" = x ∨ "Forged" = famOf x)), .bl (decide ("NoShort" = x ∨ "NoShort" = famOf x)), .bl (decide ("NoThing" = x ∨ "NoThing" = famOf x)), .bl (decide ("NoDeed" = x ∨ "NoDeed" = famOf x)), .bl (decide ("NoHistory" = x ∨ "NoHistory" = famOf x))]) h4)
    refine ⟨_, rfl, ?_⟩
    refine ⟨_, rfl, e, _, _, _, _, _, rfl, .own _, X, exa_same he s4, T.kit x "NoRow" hx, ?_⟩
    refine ⟨_, rfl, e, _, _, _, _, _, rfl, .own _, X, exa_same he s4, T.kit x "NoText" hx, ?_⟩
    refine ⟨_, rfl, e, _, _, _, _, _, rfl, .own _, X, exa_same he s4, T.kit x "TooMany" hx, ?_⟩
    refine ⟨by show 3 ≤ sizeLine; decide, fun q4 hq4 => ?_⟩
    have sq4 := same_new (o := .lst [.bl (decide ("NoRow" = x ∨ "NoRow" = famOf x)), .bl (decide ("NoText" = x ∨ "NoText" = famOf x)), .bl (decide ("TooMany" = x ∨ "TooMany" = famOf x))]) hq4
    refine ⟨p4, q4, _, _, rfl, rfl, sq4 _ _ upd_same, upd_same, by show 12 + 3 ≤ sizeLine; decide, fun p5 h5 => ?_⟩
    have s5 := (s4.trans sq4).trans (same_new (o := .lst [.bl (decide ("NoNumber" = x ∨ "NoNumber" = famOf x)), .bl (decide ("NoWord" = x ∨ "NoWord" = famOf x)), .bl (decide ("NoMember" = x ∨ "NoMember" = famOf x)), .bl (decide ("NoCounts" = x ∨ "NoCounts" = famOf x)), .bl (decide ("Unlike" = x ∨ "Unlike" = famOf x)), .bl (decide ("NoLetter" = x ∨ "NoLetter" = famOf x)), .bl (decide ("NoCauses" = x ∨ "NoCauses" = famOf x)), .bl (decide ("Forged" = x ∨ "Forged" = famOf x)), .bl (decide ("NoShort" = x ∨ "NoShort" = famOf x)), .bl (decide ("NoThing" = x ∨ "NoThing" = famOf x)), .bl (decide ("NoDeed" = x ∨ "NoDeed" = famOf x)), .bl (decide ("NoHistory" = x ∨ "NoHistory" = famOf x)), .bl (decide ("NoRow" = x ∨ "NoRow" = famOf x)), .bl (decide ("NoText" = x ∨ "NoText" = famOf x)), .bl (decide ("TooMany" = x ∨ "TooMany" = famOf x))]) h5)
    refine ⟨_, rfl, ?_⟩
    refine ⟨_, rfl, e, _, _, _, _, _, rfl, .own _, X, exa_same he s5, T.kit x "NotThere" hx, ?_⟩
    refine ⟨_, rfl, e, _, _, _, _, _, rfl, .own _, X, exa_same he s5, T.kit x "NotOnRoad" hx, ?_⟩
    refine ⟨_, rfl, e, _, _, _, _, _, rfl, .own _, X, exa_same he s5, T.kit x "Lacks" hx, ?_⟩
    refine ⟨by show 3 ≤ sizeLine; decide, fun q5 hq5 => ?_⟩
    have sq5 := same_new (o := .lst [.bl (decide ("NotThere" = x ∨ "NotThere" = famOf x)), .bl (decide ("NotOnRoad" = x ∨ "NotOnRoad" = famOf x)), .bl (decide ("Lacks" = x ∨ "Lacks" = famOf x))]) hq5
    refine ⟨p5, q5, _, _, rfl, rfl, sq5 _ _ upd_same, upd_same, by show 15 + 3 ≤ sizeLine; decide, fun p6 h6 => ?_⟩
    have s6 := (s5.trans sq5).trans (same_new (o := .lst [.bl (decide ("NoNumber" = x ∨ "NoNumber" = famOf x)), .bl (decide ("NoWord" = x ∨ "NoWord" = famOf x)), .bl (decide ("NoMember" = x ∨ "NoMember" = famOf x)), .bl (decide ("NoCounts" = x ∨ "NoCounts" = famOf x)), .bl (decide ("Unlike" = x ∨ "Unlike" = famOf x)), .bl (decide ("NoLetter" = x ∨ "NoLetter" = famOf x)), .bl (decide ("NoCauses" = x ∨ "NoCauses" = famOf x)), .bl (decide ("Forged" = x ∨ "Forged" = famOf x)), .bl (decide ("NoShort" = x ∨ "NoShort" = famOf x)), .bl (decide ("NoThing" = x ∨ "NoThing" = famOf x)), .bl (decide ("NoDeed" = x ∨ "NoDeed" = famOf x)), .bl (decide ("NoHistory" = x ∨ "NoHistory" = famOf x)), .bl (decide ("NoRow" = x ∨ "NoRow" = famOf x)), .bl (decide ("NoText" = x ∨ "NoText" = famOf x)), .bl (decide ("TooMany" = x ∨ "TooMany" = famOf x)), .bl (decide ("NotThere" = x ∨ "NotThere" = famOf x)), .bl (decide ("NotOnRoad" = x ∨ "NotOnRoad" = famOf x)), .bl (decide ("Lacks" = x ∨ "Lacks" = famOf x))]) h6)
    refine ⟨_, rfl, ?_⟩
    refine ⟨_, rfl, e, _, _, _, _, _, rfl, .own _, X, exa_same he s6, T.kit x "Known" hx, ?_⟩
    refine ⟨_, rfl, e, _, _, _, _, _, rfl, .own _, X, exa_same he s6, T.kit x "Stopped" hx, ?_⟩
    refine ⟨_, rfl, e, _, _, _, _, _, rfl, .own _, X, exa_same he s6, T.kit x "Awake" hx, ?_⟩
    refine ⟨by show 3 ≤ sizeLine; decide, fun q6 hq6 => ?_⟩
    have sq6 := same_new (o := .lst [.bl (decide ("Known" = x ∨ "Known" = famOf x)), .bl (decide ("Stopped" = x ∨ "Stopped" = famOf x)), .bl (decide ("Awake" = x ∨ "Awake" = famOf x))]) hq6
    refine ⟨p6, q6, _, _, rfl, rfl, sq6 _ _ upd_same, upd_same, by show 18 + 3 ≤ sizeLine; decide, fun p7 h7 => ?_⟩
    have s7 := (s6.trans sq6).trans (same_new (o := .lst [.bl (decide ("NoNumber" = x ∨ "NoNumber" = famOf x)), .bl (decide ("NoWord" = x ∨ "NoWord" = famOf x)), .bl (decide ("NoMember" = x ∨ "NoMember" = famOf x)), .bl (decide ("NoCounts" = x ∨ "NoCounts" = famOf x)), .bl (decide ("Unlike" = x ∨ "Unlike" = famOf x)), .bl (decide ("NoLetter" = x ∨ "NoLetter" = famOf x)), .bl (decide ("NoCauses" = x ∨ "NoCauses" = famOf x)), .bl (decide ("Forged" = x ∨ "Forged" = famOf x)), .bl (decide ("NoShort" = x ∨ "NoShort" = famOf x)), .bl (decide ("NoThing" = x ∨ "NoThing" = famOf x)), .bl (decide ("NoDeed" = x ∨ "NoDeed" = famOf x)), .bl (decide ("NoHistory" = x ∨ "NoHistory" = famOf x)), .bl (decide ("NoRow" = x ∨ "NoRow" = famOf x)), .bl (decide ("NoText" = x ∨ "NoText" = famOf x)), .bl (decide ("TooMany" = x ∨ "TooMany" = famOf x)), .bl (decide ("NotThere" = x ∨ "NotThere" = famOf x)), .bl (decide ("NotOnRoad" = x ∨ "NotOnRoad" = famOf x)), .bl (decide ("Lacks" = x ∨ "Lacks" = famOf x)), .bl (decide ("Known" = x ∨ "Known" = famOf x)), .bl (decide ("Stopped" = x ∨ "Stopped" = famOf x)), .bl (decide ("Awake" = x ∨ "Awake" = famOf x))]) h7)
    refine ⟨_, rfl, ?_⟩
    refine ⟨_, rfl, e, _, _, _, _, _, rfl, .own _, X, exa_same he s7, T.kit x "AllTold" hx, ?_⟩
    refine ⟨_, rfl, e, _, _, _, _, _, rfl, .own _, X, exa_same he s7, T.kit x "NoSeat" hx, ?_⟩
    refine ⟨_, rfl, e, _, _, _, _, _, rfl, .own _, X, exa_same he s7, T.kit x "Full" hx, ?_⟩
    refine ⟨by show 3 ≤ sizeLine; decide, fun q7 hq7 => ?_⟩
    have sq7 := same_new (o := .lst [.bl (decide ("AllTold" = x ∨ "AllTold" = famOf x)), .bl (decide ("NoSeat" = x ∨ "NoSeat" = famOf x)), .bl (decide ("Full" = x ∨ "Full" = famOf x))]) hq7
    refine ⟨p7, q7, _, _, rfl, rfl, sq7 _ _ upd_same, upd_same, by show 21 + 3 ≤ sizeLine; decide, fun p8 h8 => ?_⟩
    have s8 := (s7.trans sq7).trans (same_new (o := .lst [.bl (decide ("NoNumber" = x ∨ "NoNumber" = famOf x)), .bl (decide ("NoWord" = x ∨ "NoWord" = famOf x)), .bl (decide ("NoMember" = x ∨ "NoMember" = famOf x)), .bl (decide ("NoCounts" = x ∨ "NoCounts" = famOf x)), .bl (decide ("Unlike" = x ∨ "Unlike" = famOf x)), .bl (decide ("NoLetter" = x ∨ "NoLetter" = famOf x)), .bl (decide ("NoCauses" = x ∨ "NoCauses" = famOf x)), .bl (decide ("Forged" = x ∨ "Forged" = famOf x)), .bl (decide ("NoShort" = x ∨ "NoShort" = famOf x)), .bl (decide ("NoThing" = x ∨ "NoThing" = famOf x)), .bl (decide ("NoDeed" = x ∨ "NoDeed" = famOf x)), .bl (decide ("NoHistory" = x ∨ "NoHistory" = famOf x)), .bl (decide ("NoRow" = x ∨ "NoRow" = famOf x)), .bl (decide ("NoText" = x ∨ "NoText" = famOf x)), .bl (decide ("TooMany" = x ∨ "TooMany" = famOf x)), .bl (decide ("NotThere" = x ∨ "NotThere" = famOf x)), .bl (decide ("NotOnRoad" = x ∨ "NotOnRoad" = famOf x)), .bl (decide ("Lacks" = x ∨ "Lacks" = famOf x)), .bl (decide ("Known" = x ∨ "Known" = famOf x)), .bl (decide ("Stopped" = x ∨ "Stopped" = famOf x)), .bl (decide ("Awake" = x ∨ "Awake" = famOf x)), .bl (decide ("AllTold" = x ∨ "AllTold" = famOf x)), .bl (decide ("NoSeat" = x ∨ "NoSeat" = famOf x)), .bl (decide ("Full" = x ∨ "Full" = famOf x))]) h8)
    refine ⟨_, rfl, ?_⟩
    refine ⟨_, rfl, e, _, _, _, _, _, rfl, .own _, X, exa_same he s8, T.kit x "NotQuiet" hx, ?_⟩
    refine ⟨by show 1 ≤ sizeLine; decide, fun q8 hq8 => ?_⟩
    have sq8 := same_new (o := .lst [.bl (decide ("NotQuiet" = x ∨ "NotQuiet" = famOf x))]) hq8
    refine ⟨p8, q8, _, _, rfl, rfl, sq8 _ _ upd_same, upd_same, by show 24 + 1 ≤ sizeLine; decide, fun p9 h9 => ?_⟩
    have s9 := (s8.trans sq8).trans (same_new (o := .lst [.bl (decide ("NoNumber" = x ∨ "NoNumber" = famOf x)), .bl (decide ("NoWord" = x ∨ "NoWord" = famOf x)), .bl (decide ("NoMember" = x ∨ "NoMember" = famOf x)), .bl (decide ("NoCounts" = x ∨ "NoCounts" = famOf x)), .bl (decide ("Unlike" = x ∨ "Unlike" = famOf x)), .bl (decide ("NoLetter" = x ∨ "NoLetter" = famOf x)), .bl (decide ("NoCauses" = x ∨ "NoCauses" = famOf x)), .bl (decide ("Forged" = x ∨ "Forged" = famOf x)), .bl (decide ("NoShort" = x ∨ "NoShort" = famOf x)), .bl (decide ("NoThing" = x ∨ "NoThing" = famOf x)), .bl (decide ("NoDeed" = x ∨ "NoDeed" = famOf x)), .bl (decide ("NoHistory" = x ∨ "NoHistory" = famOf x)), .bl (decide ("NoRow" = x ∨ "NoRow" = famOf x)), .bl (decide ("NoText" = x ∨ "NoText" = famOf x)), .bl (decide ("TooMany" = x ∨ "TooMany" = famOf x)), .bl (decide ("NotThere" = x ∨ "NotThere" = famOf x)), .bl (decide ("NotOnRoad" = x ∨ "NotOnRoad" = famOf x)), .bl (decide ("Lacks" = x ∨ "Lacks" = famOf x)), .bl (decide ("Known" = x ∨ "Known" = famOf x)), .bl (decide ("Stopped" = x ∨ "Stopped" = famOf x)), .bl (decide ("Awake" = x ∨ "Awake" = famOf x)), .bl (decide ("AllTold" = x ∨ "AllTold" = famOf x)), .bl (decide ("NoSeat" = x ∨ "NoSeat" = famOf x)), .bl (decide ("Full" = x ∨ "Full" = famOf x)), .bl (decide ("NotQuiet" = x ∨ "NotQuiet" = famOf x))]) h9)
    exact ⟨_, rfl, k p9 _ s9 ((s8.trans sq8).free h9) upd_same⟩
theorem ok_families (T : Tx K mg) (F : FnP K d__law_families f fd) : Xn.FnN P w K mg base CX0 1 f fd ["e"] (spFam K) := by
  refine Xn.okN F sc_families (fun vs H Q E h => ?_) (fun cdv A outer s H vs Q E hr h => ?_)
  · obtain ⟨e, x, rfl, _⟩ := h
    rfl
  · obtain ⟨e, x, rfl, hx, he, k⟩ := h
    have X := T.xc x hx
    refine ⟨_, PSs.nox (pss_cons (ps_set (i := 1) sc_families.nd rfl (.inl rfl) (pe_lst (pa_cons (pe_callB Xn.call_isX (by rfl) (T.f "isinstance" (by decide +kernel)) (by decide +kernel) (pa_cons (pv 0) (pa_cons (pe_glob (v := .ref (He.ga K "HallError")) rfl (T.g "HallError" (by decide +kernel)) rfl) pa_nil))) (pa_cons (pe_callB Xn.call_isX (by rfl) (T.f "isinstance" (by decide +kernel)) (by decide +kernel) (pa_cons (pv 0) (pa_cons (pe_glob (v := .ref (He.ga K "Missing")) rfl (T.g "Missing" (by decide +kernel)) rfl) pa_nil))) (pa_cons (pe_callB Xn.call_isX (by rfl) (T.f "isinstance" (by decide +kernel)) (by decide +kernel) (pa_cons (pv 0) (pa_cons (pe_glob (v := .ref (He.ga K "Barred")) rfl (T.g "Barred" (by decide +kernel)) rfl) pa_nil))) pa_nil)))))
      (pss_one (ps_ret (pe_op op_cat (pv 1) (pe_lst (pa_cons (pe_callB Xn.call_isX (by rfl) (T.f "isinstance" (by decide +kernel)) (by decide +kernel) (pa_cons (pv 0) (pa_cons (pe_bltn (v := .ty "ValueError") rfl (T.f "ValueError" (by decide +kernel)) (by decide +kernel) rfl) pa_nil))) (pa_cons (pe_callB Xn.call_isX (by rfl) (T.f "isinstance" (by decide +kernel)) (by decide +kernel) (pa_cons (pv 0) (pa_cons (pe_bltn (v := .ty "KeyError") rfl (T.f "KeyError" (by decide +kernel)) (by decide +kernel) rfl) pa_nil))) (pa_cons (pe_callB Xn.call_isX (by rfl) (T.f "isinstance" (by decide +kernel)) (by decide +kernel) (pa_cons (pv 0) (pa_cons (pe_bltn (v := .ty "LookupError") rfl (T.f "LookupError" (by decide +kernel)) (by decide +kernel) rfl) pa_nil))) pa_nil)))))))), ?_⟩
    refine ⟨_, rfl, e, _, _, _, _, _, rfl, .own _, X, he, T.kit x "HallError" hx, ?_⟩
    refine ⟨_, rfl, e, _, _, _, _, _, rfl, .own _, X, he, T.kit x "Missing" hx, ?_⟩
    refine ⟨_, rfl, e, _, _, _, _, _, rfl, .own _, X, he, T.kit x "Barred" hx, ?_⟩
    refine ⟨by show 3 ≤ sizeLine; decide, fun q0 h0 => ?_⟩
    have s0 := same_new (o := .lst [.bl (decide ("HallError" = x ∨ "HallError" = famOf x)), .bl (decide ("Missing" = x ∨ "Missing" = famOf x)), .bl (decide ("Barred" = x ∨ "Barred" = famOf x))]) h0
    refine ⟨_, rfl, ?_⟩
    refine ⟨_, rfl, e, _, _, _, _, _, rfl, .ty _, X, exa_same he s0, T.kitT x "ValueError" hx, ?_⟩
    refine ⟨_, rfl, e, _, _, _, _, _, rfl, .ty _, X, exa_same he s0, T.kitT x "KeyError" hx, ?_⟩
    refine ⟨_, rfl, e, _, _, _, _, _, rfl, .ty _, X, exa_same he s0, T.kitT x "LookupError" hx, ?_⟩
    refine ⟨by show 3 ≤ sizeLine; decide, fun q1 h1 => ?_⟩
    have s1 := same_new (o := .lst [.bl (tyOf x "ValueError"), .bl (tyOf x "KeyError"), .bl (tyOf x "LookupError")]) h1
    refine ⟨q0, q1, _, _, rfl, rfl, s1 _ _ upd_same, upd_same, by show 3 + 3 ≤ sizeLine; decide, fun p h2 => ?_⟩
    exact k p _ ((s0.trans s1).trans (same_new h2)) ((s0.trans s1).free h2) upd_same
theorem ok_due (T : Tx K mg) (F : FnP K d__law_due_families f fd) : Xn.FnN P w K mg base CX0 1 f fd ["k"] spDue := by
  refine Xn.okN F sc_due (fun vs H Q E h => ?_) (fun cdv A outer s H vs Q E hr h => ?_)
  · obtain ⟨j, rfl, _⟩ := h
    rfl
  · obtain ⟨j, rfl, k⟩ := h
    refine ⟨_, PSs.nox (pss_cons (ps_if (pt_cmpR op_lt (pv 0) pe_int (nomark _)) (pss_one (ps_ret (pe_lst (pa_cons pe_bl (pa_cons pe_bl (pa_cons pe_bl (pa_cons pe_bl (pa_cons pe_bl (pa_cons pe_bl pa_nil))))))))) pss_nil)
      (pss_cons (ps_if (pt_cmpR op_lt (pv 0) pe_int (nomark _)) (pss_one (ps_ret (pe_lst (pa_cons pe_bl (pa_cons pe_bl (pa_cons pe_bl (pa_cons pe_bl (pa_cons pe_bl (pa_cons pe_bl pa_nil))))))))) pss_nil)
      (pss_one (ps_ret (pe_lst (pa_cons pe_bl (pa_cons pe_bl (pa_cons pe_bl (pa_cons pe_bl (pa_cons pe_bl (pa_cons pe_bl pa_nil))))))))))), ?_⟩
    have fin : ∀ bs : List Bool, bs = dueL j → ∀ p, H p = none → Q (.ref p) (upd H p (.lst (bs.map V.bl))) := fun bs e p hp =>
      k p _ (same_new hp) hp (by rw [e]; exact upd_same)
    refine ⟨_, rfl, _, 15, rfl, rfl, _, rfl, ite2 (fun c => ?_) (fun c => ?_)⟩
    · have c1 : (j : Int) < 15 := of_decide_eq_true c
      exact ⟨by show 6 ≤ sizeLine; decide, fin [true, false, false, true, false, false] (by unfold dueL; rw [if_pos (by omega)])⟩
    · have c1 : ¬ (j : Int) < 15 := fun z => c (decide_eq_true z)
      refine ⟨_, rfl, _, 17, rfl, rfl, _, rfl, ite2 (fun c => ?_) (fun c => ?_)⟩
      · have c2 : (j : Int) < 17 := of_decide_eq_true c
        exact ⟨by show 6 ≤ sizeLine; decide, fin [false, true, false, false, true, true] (by unfold dueL; rw [if_neg (by omega), if_pos (by omega)])⟩
      · have c2 : ¬ (j : Int) < 17 := fun z => c (decide_eq_true z)
        exact ⟨by show 6 ≤ sizeLine; decide, fin [false, false, true, false, false, true] (by unfold dueL; rw [if_neg (by omega), if_neg (by omega)])⟩
/-! ### the field -/
def spFld (K : PySem.W.Frag) : Sp := fun vs H Q _ => ∃ (e d : Addr) (j : Nat) (x y : Str) (v : V), vs = [.ref e, .int (j : Int)] ∧ exs[j]? = some x ∧ flds[j]? = some y ∧
  H e = some (exo e (He.ga K x) (some d)) ∧ H d = some (exd d [(y, v)]) ∧ ∀ H', Same H H' → Q v H'
theorem sc_field : FnScope ["e", "k"] ["e", "k"] d__law_field.scope := ⟨rfl, rfl, rfl, by decide +kernel, rfl, by decide +kernel, by decide +kernel⟩
theorem mem_exs {j : Nat} {x : Str} (h : exs[j]? = some x) : x ∈ exs := List.mem_of_getElem? h
def fldOf (j : Nat) : Str := if j = 13 then "at" else if j = 14 ∨ j = 23 ∨ j = 24 then "many" else "found"
theorem fld_at : ∀ j : Nat, j < 25 → flds[j]? = some (fldOf j) := by decide +kernel
theorem ok_field (T : Tx K mg) (F : FnP K d__law_field f fd) : FnOk P w K mg base CX0 1 f fd ["e", "k"] (spFld K) := by
  refine F.ok sc_field (fun vs H Q E h => ?_) (fun cdv A outer s H vs Q E hr h => ?_)
  · obtain ⟨e, d, j, x, y, v, rfl, _⟩ := h
    rfl
  · obtain ⟨e, d, j, x, y, v, rfl, hx, hy, he, hd, k⟩ := h
    have hl : j < 25 := (List.getElem?_eq_some_iff.mp hx).1
    have hm : x ∈ fms ++ exs := List.mem_append_right _ (mem_exs hx)
    have X := T.xc x hm
    have ey := (fld_at j hl).symm.trans hy
    unfold fldOf at ey
    have lk : List.lookup y [(y, v)] = some v := by simp [List.lookup]
    refine ⟨_, PSs.nox (pss_cons (ps_if (pt_cmpR op_eq (pv 1) pe_int (nomark _)) (pss_one (ps_ret (Xn.pe_xf (pv 0) rfl))) pss_nil)
      (pss_cons (ps_if (pt_cmpR op_in_seq (pv 1) (pe_tup (pa_cons pe_int (pa_cons pe_int (pa_cons pe_int pa_nil)))) (by rfl)) (pss_one (ps_ret (Xn.pe_xf (pv 0) rfl))) pss_nil)
      (pss_one (ps_ret (Xn.pe_xf (pv 0) rfl))))), ?_⟩
    refine ⟨_, rfl, rfl, _, rfl, step_eq 13 (fun c => ?_) (fun c => ?_)⟩
    · rw [if_pos c] at ey
      cases ey
      exact ⟨_, rfl, e, _, d, _, _, v, rfl, X, .inl he, hd, T.nof x "at" (mem_exs hx), lk, k H (Same.refl H)⟩
    · rw [if_neg c] at ey
      refine ⟨_, rfl, by show 3 ≤ sizeLine; decide, fun p hp => ?_⟩
      have s0 := same_new (o := .tup [.int 14, .int 23, .int 24]) hp
      refine ⟨p, _, rfl, .inr (SqT.of upd_same), rfl, rfl, _, rfl, ?_⟩
      have ei : inV (.int (j : Int)) [.int 14, .int 23, .int 24] = decide (j = 14 ∨ j = 23 ∨ j = 24) := by
        have h1 : ∀ j : Nat, j < 25 → inV (.int (j : Int)) [.int 14, .int 23, .int 24] = decide (j = 14 ∨ j = 23 ∨ j = 24) := by decide +kernel
        exact h1 j hl
      show (if (if false = true then !inV (.int (j : Int)) [.int 14, .int 23, .int 24] else inV (.int (j : Int)) [.int 14, .int 23, .int 24]) = true then _ else _)
      rw [if_neg Bool.false_ne_true, ei]
      refine ite2 (fun c => ?_) (fun c => ?_)
      · rw [if_pos (of_decide_eq_true c)] at ey
        cases ey
        exact ⟨_, rfl, e, _, d, _, _, v, rfl, X, .inl (s0 _ _ he), s0 _ _ hd, T.nof x "many" (mem_exs hx), lk, k _ s0⟩
      · rw [if_neg (fun z => c (decide_eq_true z))] at ey
        cases ey
        exact ⟨_, rfl, e, _, d, _, _, v, rfl, X, .inl (s0 _ _ he), s0 _ _ hd, T.nof x "found" (mem_exs hx), lk, k _ s0⟩

end
end Hd
/-! Whether a refusal is right. -/
namespace Hd
open PySem PySem.Spec PyProof.Rows L2
theorem iteF {A B : Prop} (h : B) : if false = true then A else B := h
theorem iteT {A B : Prop} (h : A) : if true = true then A else B := h
/-! ### rows of truths -/
def blD (bs : List Bool) : List PyData := bs.map .bool
theorem blD_all {K : PySem.W.Frag} {H : Hp} : ∀ bs : List Bool, DpAll K H (bs.map V.bl) (blD bs)
  | [] => .nil
  | b :: bs => .cons (.bl b) (blD_all bs)
theorem blD_lay : ∀ bs : List Bool, PyData.canLayAll0 (blD bs) = true
  | [] => rfl
  | b :: bs => by
    show (PyData.canLay0 (.bool b) && PyData.canLayAll0 (blD bs)) = true
    rw [blD_lay bs]
    rfl
theorem blD_depth : ∀ bs : List Bool, PyData.depthAll (blD bs) ≤ 1
  | [] => by decide
  | b :: bs => by
    show Nat.max (PyData.depth (.bool b)) (PyData.depthAll (blD bs)) ≤ 1
    exact Nat.max_le.mpr ⟨by simp [PyData.depth], blD_depth bs⟩
theorem blD_ok (bs : List Bool) : SeqAt.shaped (.list (blD bs)) = true := by
  refine Bool.and_eq_true_iff.mpr ⟨blD_lay bs, decide_eq_true ?_⟩
  have e : PyData.depth (.list (blD bs)) = PyData.depthAll (blD bs) + 1 := by simp [PyData.depth]
  have q := blD_depth bs
  omega
theorem blD_eqv (bs : List Bool) : PyData.eqv (.list (blD bs)) (.list (blD bs)) = true := SeqAt.eqv_refl _ (blD_lay bs)
/-- two rows alike -/
theorem ne_rows {K : PySem.W.Frag} {H : Hp} {Q : VK} {a b : Addr} {bs cs : List Bool} (ha : H a = some (.lst (bs.map V.bl))) (hb : H b = some (.lst (cs.map V.bl)))
    (e : bs = cs) (q : Q (.bl false) H) : rNeD K (.ref a) (.ref b) H Q := by
  subst e
  exact ⟨_, _, .lst (SqL.of ha) (blD_all bs), .lst (SqL.of hb) (blD_all bs), blD_ok bs, blD_ok bs, by rw [blD_eqv]; exact q⟩
theorem eq_rows {K : PySem.W.Frag} {H : Hp} {Q : VK} {a b : Addr} {bs cs : List Bool} (ha : SqL K H a (bs.map V.bl)) (hb : SqL K H b (cs.map V.bl))
    (e : bs = cs) (q : Q (.bl true) H) : rEqD K (.ref a) (.ref b) H Q := by
  subst e
  exact ⟨_, _, .lst ha (blD_all bs), .lst hb (blD_all bs), blD_ok bs, blD_ok bs, by rw [blD_eqv]; exact q⟩
theorem cls_due : ∀ j : Nat, j < 25 → clsL (exs.getD j "") = (List.range 25).map fun i => decide (i = j) := by decide +kernel
theorem fam_due : ∀ j : Nat, j < 25 → famL (exs.getD j "") = dueL j := by decide +kernel
theorem dec_nat {i j : Nat} : decide (V.int (0 + (i : Int)) = V.int (j : Int)) = decide (i = j) := by
  by_cases h : i = j
  · subst h
    rw [decide_eq_true rfl, decide_eq_true (by rw [Int.zero_add])]
  · rw [decide_eq_false h, decide_eq_false (fun q => h (by injection q with q; omega))]
/-! ### a thing equals itself -/
theorem par_self {K : PySem.W.Frag} {H : Hp} : ∀ xs : List V, (∀ x ∈ xs, flatB x = true ∨ ∃ a, x = .ref a) → Paired (EqV K H 1) xs xs
  | [], _ => .nil
  | x :: xs, h => by
    refine .cons ?_ (par_self xs fun y hy => h y (List.mem_cons_of_mem _ hy))
    rcases h x List.mem_cons_self with q | q
    · exact .inl ⟨rfl, q⟩
    · obtain ⟨a, e⟩ := q
      exact .inr (.inl ⟨a, e, e⟩)
theorem mores (n : Nat) : ∀ x ∈ List.replicate n (V.str "more"), flatB x = true ∨ ∃ a, x = .ref a := fun x hx => by
  rw [(List.mem_replicate.mp hx).2]
  exact .inl rfl
theorem thg_self {K : PySem.W.Frag} {H : Hp} {v : V} {n : Nat} {Q : VK} (h : Thg H v n) (q : Q (.bl true) H) : rEq v v H Q ∨ rEqD K v v H Q ∨ rEqV K v v H Q := by
  cases h with
  | int z n => exact .inl ⟨rfl, by rw [decide_eq_true rfl]; exact q⟩
  | str s n => exact .inl ⟨rfl, by rw [decide_eq_true rfl]; exact q⟩
  | tru n => exact .inl ⟨rfl, by rw [decide_eq_true rfl]; exact q⟩
  | non n => exact .inl ⟨rfl, by rw [decide_eq_true rfl]; exact q⟩
  | @tup p z n h =>
    have D : Dp K H (.ref p) (.tuple [.int z, .str "x"]) := .tup (SqT.of h) (.cons (.int _) (.cons (.str _) .nil))
    have e : SeqAt.shaped (.tuple [.int z, .str "x"]) = true := by
      have o : PyData.strOk "x" = true := by decide +kernel
      simp [SeqAt.shaped, PyData.canLay0, PyData.canLayAll0, PyData.depth, PyData.depthAll, o]
    exact .inr (.inl ⟨_, _, D, D, e, e, by rw [SeqAt.eqv_refl _ (SeqAt.canLay_of_shaped e)]; exact q⟩)
  | @lst p z n h =>
    refine .inr (.inr ⟨1, by decide, .inl ⟨p, p, _, _, rfl, rfl, SqL.of h, SqL.of h, par_self _ fun x hx => ?_⟩, q⟩)
    rcases List.mem_cons.mp hx with e | e
    · exact .inl (by rw [e]; rfl)
    · exact mores n x e
  | @dic p z n kvs h hk =>
    refine .inr (.inr ⟨1, by decide, .inr ⟨p, p, _, _, rfl, rfl, h, h, rfl, fun x hx => ?_⟩, q⟩)
    rcases hk with hk | ⟨j, hk⟩
    · subst hk
      cases hx with
      | head => exact ⟨.int z, rfl, .inl ⟨rfl, rfl⟩⟩
      | tail _ hx => cases hx
    · subst hk
      cases hx with
      | head => exact ⟨.int z, rfl, .inl ⟨rfl, rfl⟩⟩
      | tail _ hx =>
        cases hx with
        | head => exact ⟨.int j, rfl, .inl ⟨rfl, rfl⟩⟩
        | tail _ hx => cases hx
  | @nest p a r s z n h hq hr hs =>
    refine .inr (.inr ⟨1, by decide, .inl ⟨p, p, _, _, rfl, rfl, SqL.of h, SqL.of h, par_self _ fun x hx => ?_⟩, q⟩)
    rcases List.mem_cons.mp hx with e | hx
    · exact .inr ⟨_, e⟩
    · rcases List.mem_cons.mp hx with e | hx
      · exact .inr ⟨_, e⟩
      · exact mores n x hx
/-- of which type a thing is -/
theorem thg_bool {K : PySem.W.Frag} {H : Hp} {v : V} {n : Nat} (h : Thg H v n) : ∃ (t : String) (b : Bool), TyX K H v (.type t) ∧ PySem.W.kitOne K (.type t) (.type "bool") = some b := by
  cases h with
  | int z n => exact ⟨_, false, .base (.int z), kit_ty (by decide +kernel)⟩
  | str s n => exact ⟨_, false, .base (.str s), kit_ty (by decide +kernel)⟩
  | tru n => exact ⟨_, true, .base (.bl true), kit_ty (by decide +kernel)⟩
  | non n => exact ⟨_, false, .base .non, kit_ty (by decide +kernel)⟩
  | tup h => exact ⟨_, false, .base (.tup h), kit_ty (by decide +kernel)⟩
  | lst h => exact ⟨_, false, .base (.lst h), kit_ty (by decide +kernel)⟩
  | dic h hk => exact ⟨_, false, .base (.dK h), kit_ty (by decide +kernel)⟩
  | nest h hq hr hs => exact ⟨_, false, .base (.lst h), kit_ty (by decide +kernel)⟩
theorem thg_same {H H' : Hp} {v : V} {n : Nat} (h : Thg H v n) (s : Same H H') : Thg H' v n := by
  cases h with
  | int z n => exact .int z n
  | str s n => exact .str s n
  | tru n => exact .tru n
  | non n => exact .non n
  | tup h => exact .tup (s _ _ h)
  | lst h => exact .lst (s _ _ h)
  | dic h hk => exact .dic (s _ _ h) hk
  | nest h hq hr hs => exact .nest (s _ _ h) (s _ _ hq) (s _ _ hr) (s _ _ hs)
/-! ### _law_right -/
def spRight (K : PySem.W.Frag) : Sp := fun vs H Q _ => ∃ (e d : Addr) (j : Nat) (x y : Str) (v : V) (n : Nat), vs = [.ref e, .int (j : Int), v] ∧ exs[j]? = some x ∧ flds[j]? = some y ∧
  H e = some (exo e (He.ga K x) (some d)) ∧ H d = some (exd d [(y, v)]) ∧ Thg H v n ∧ n ≤ 10 ∧
  ∀ H' : Hp, (∀ b o, v ≠ .ref b → H b = some o → H' b = some o) → Thg H' v (n + 1) → Q (.bl true) H'
section
variable {P : Program} {w : World} {K : PySem.W.Frag} {mg : Str → Option Value} {base : Heap} {f : Addr} {fd : FuncData}
theorem sc_right : FnScope ["e", "k", "thing", "j", "field"] ["e", "k", "thing"] d__law_right.scope := ⟨rfl, rfl, rfl, by decide +kernel, rfl, by decide +kernel, by decide +kernel⟩

theorem ok_right (T : Tx K mg) (cc : Xn.Cl P w K mg base 1 "_law_classes" (spCls K)) (cf : Xn.Cl P w K mg base 1 "_law_families" (spFam K))
    (cd : Xn.Cl P w K mg base 1 "_law_due_families" spDue) (cg : Xn.Cl P w K mg base 1 "_law_field" (spFld K))
    (F : FnP K d__law_right f fd) : FnOk P w K mg base CX0 2 f fd ["e", "k", "thing"] (spRight K) := by
  refine F.ok sc_right (fun vs H Q E h => ?_) (fun cdv A outer s H vs Q E hr h => ?_)
  · obtain ⟨e, d, j, x, y, v, n, rfl, _⟩ := h
    rfl
  · obtain ⟨e, d, j, x, y, v, n, rfl, hx, hy, he, hd, ht, hn, k⟩ := h
    have hl : j < 25 := (List.getElem?_eq_some_iff.mp hx).1
    have hm : x ∈ fms ++ exs := List.mem_append_right _ (mem_exs hx)
    have X := T.xc x hm
    have gx : exs.getD j "" = x := by
      rw [List.getD_eq_getElem?_getD, hx]
      rfl
    refine ⟨_, PSs.nox (pss_cons (ps_if (PW.pt (pw_or (pt_cmpR (op_neD hr.units) (Xn.pe_cl cc hr (pa_cons (pv 0) pa_nil))
        (pe_lc (own := [("j", 3)]) (g := gName 3) rfl sc_right.nd (pi_range1 rfl (T.f "range" (by decide +kernel)) (pa_cons pe_int pa_nil))
          (blkOk_by (own := [("j", 3)]) (N := ["e", "k", "thing", "j", "field"]) (sc := d__law_right.scope) (by decide +kernel))
          (fun _ _ _ _ _ => pg_name (i := 3) sc_right.nd rfl (.inl rfl)) (fun _ _ _ _ _ => pts_nil)
          (fun _ _ _ _ _ => pe_cmpR op_eq (pv 3) (pv 1) (nomark _))) (nomark _))
        (pw_or1 (pt_cmpR (op_neD hr.units) (Xn.pe_cl cf hr (pa_cons (pv 0) pa_nil)) (Xn.pe_cl cd hr (pa_cons (pv 1) pa_nil)) (nomark _)))))
        (pss_one (ps_ret pe_bl)) pss_nil)
      (pss_cons (ps_if (pt_val (pe_callB call_isi (by rfl) (T.f "isinstance" (by decide +kernel)) (by decide +kernel) (pa_cons (pv 2) (pa_cons (pe_bltn (v := .ty "list") rfl (T.f "list" (by decide +kernel)) (by decide +kernel) rfl) pa_nil)))) (pss_one (ps_expr (pe_bm PySem.F.plainAttrs_list PySem.F.slot_list_append PySem.F.type_list_append mt_append (pv 2) (pa_cons pe_str pa_nil)))) pss_nil)
      (pss_cons (ps_if (pt_val (pe_callB call_isi (by rfl) (T.f "isinstance" (by decide +kernel)) (by decide +kernel) (pa_cons (pv 2) (pa_cons (pe_bltn (v := .ty "dict") rfl (T.f "dict" (by decide +kernel)) (by decide +kernel) rfl) pa_nil)))) (pss_one (ps_dput (hu_of hr) (pv 2) pe_str (pv 1) rfl)) pss_nil)
      (pss_cons (ps_set (i := 4) sc_right.nd rfl (.inl rfl) (Xn.pe_cl cg hr (pa_cons (pv 0) (pa_cons (pv 1) pa_nil))))
      (pss_one (ps_ret (pe_and (pe_cmpR (op_eq.or ((op_eqD hr.units).or (op_eqV hr.units))) (pv 4) (pv 2) (nomark _))
        (pe_one (pe_cmpR op_eq (pe_callB call_isi (by rfl) (T.f "isinstance" (by decide +kernel)) (by decide +kernel) (pa_cons (pv 4) (pa_cons (pe_bltn (v := .ty "bool") rfl (T.f "bool" (by decide +kernel)) (by decide +kernel) rfl) pa_nil))) (pe_callB call_isi (by rfl) (T.f "isinstance" (by decide +kernel)) (by decide +kernel) (pa_cons (pv 2) (pa_cons (pe_bltn (v := .ty "bool") rfl (T.f "bool" (by decide +kernel)) (by decide +kernel) rfl) pa_nil))) (nomark _)))))))))), ?_⟩

    refine ⟨_, rfl, e, x, rfl, hm, .own (.inl he) hd, fun p1 H1 s1 f1 g1 => ?_⟩
    refine ⟨25, rfl, by decide, by decide, fun D hD => ?_⟩
    have sD := same_new (o := .lst []) hD
    refine lc_range (lo := 0) (n := 25) (fun i H' => ∃ B : List Bool, B = (List.range i).map (fun i => decide (i = j)) ∧ H' D = some (.lst (B.map V.bl)) ∧ ∀ b o, H1 b = some o → H' b = some o)
      ⟨[], rfl, upd_same, sD⟩ ?_ ?_
    · rintro i H' hi ⟨B, eB, hB, sB⟩
      refine ⟨rfl, ?_⟩
      show tYes _ _ _
      unfold tYes
      show (if true = true then _ else _)
      rw [if_pos rfl]
      refine ⟨_, rfl, _, rfl, rfl, _, hB, ?_, B ++ [decide (i = j)], by rw [List.range_succ, List.map_append, eB]; rfl, ?_, fun b o hb => ?_⟩
      · rw [List.length_map, eB, List.length_map, List.length_range]
        exact Nat.lt_of_lt_of_le hi (Nat.le_of_lt (by decide))
      · rw [upd_same, List.map_append, dec_nat]
        rfl
      · rw [upd_ne (ne_of_none hb hD)]
        exact sB b o hb
    · rintro H2 ⟨B, eB, hB, sB⟩
      refine ne_rows (sB _ _ g1) hB (by rw [eB, ← gx]; exact cls_due j hl) ?_
      refine ⟨_, rfl, iteF ?_⟩
      have s2 : Same H H2 := fun b o z => sB _ _ (s1 _ _ z)
      refine ⟨_, rfl, e, x, rfl, hm, .own (.inl (s2 _ _ he)) (s2 _ _ hd), fun p3 H3 s3 f3 g3 => ?_⟩
      refine ⟨_, rfl, j, rfl, fun p4 H4 s4 f4 g4 => ?_⟩
      refine ne_rows (s4 _ _ g3) g4 (by rw [← gx]; exact fam_due j hl) ?_
      refine ⟨_, rfl, iteF ?_⟩
      have sh : Same H H4 := (s2.trans s3).trans s4
      clear s1 f1 g1 hD sD hB sB s2 s3 f3 g3 s4 f4 g4
      cases ht with
      | int z n =>
        refine ⟨_, rfl, _, _, .type "int", _, false, rfl, .ty _, .base (.int z), kit_ty (by decide +kernel), _, rfl, iteF ?_⟩
        refine ⟨_, rfl, _, _, .type "int", _, false, rfl, .ty _, .base (.int z), kit_ty (by decide +kernel), _, rfl, iteF ?_⟩
        have th : Thg H4 (.int z) (n + 1) := .int z _
        have sv : ∀ b o, (.int z : V) ≠ .ref b → H b = some o → H4 b = some o := fun b o _ z => sh b o z
        have hd5 := sh _ _ hd
        have he5 := sh _ _ he
        refine ⟨_, rfl, _, rfl, e, d, j, x, y, _, rfl, hx, hy, he5, hd5, fun H6 s6 => ?_⟩
        have th6 := thg_same th s6
        obtain ⟨t, b, ty, kb⟩ := thg_bool (K := K) th6
        refine ⟨_, rfl, _, rfl, ?_⟩
        refine thg_self th6 ?_
        refine ⟨_, rfl, iteT ?_⟩
        refine ⟨_, rfl, _, _, _, _, b, rfl, .ty _, ty, kb, ?_⟩
        refine ⟨_, rfl, _, _, _, _, b, rfl, .ty _, ty, kb, ?_⟩
        refine ⟨rfl, ?_⟩
        rw [decide_eq_true rfl]
        exact k H6 (fun b o hb z => s6 _ _ (sv b o hb z)) th6
      | str x1 n =>
        refine ⟨_, rfl, _, _, .type "str", _, false, rfl, .ty _, .base (.str x1), kit_ty (by decide +kernel), _, rfl, iteF ?_⟩
        refine ⟨_, rfl, _, _, .type "str", _, false, rfl, .ty _, .base (.str x1), kit_ty (by decide +kernel), _, rfl, iteF ?_⟩
        have th : Thg H4 (.str x1) (n + 1) := .str x1 _
        have sv : ∀ b o, (.str x1 : V) ≠ .ref b → H b = some o → H4 b = some o := fun b o _ z => sh b o z
        have hd5 := sh _ _ hd
        have he5 := sh _ _ he
        refine ⟨_, rfl, _, rfl, e, d, j, x, y, _, rfl, hx, hy, he5, hd5, fun H6 s6 => ?_⟩
        have th6 := thg_same th s6
        obtain ⟨t, b, ty, kb⟩ := thg_bool (K := K) th6
        refine ⟨_, rfl, _, rfl, ?_⟩
        refine thg_self th6 ?_
        refine ⟨_, rfl, iteT ?_⟩
        refine ⟨_, rfl, _, _, _, _, b, rfl, .ty _, ty, kb, ?_⟩
        refine ⟨_, rfl, _, _, _, _, b, rfl, .ty _, ty, kb, ?_⟩
        refine ⟨rfl, ?_⟩
        rw [decide_eq_true rfl]
        exact k H6 (fun b o hb z => s6 _ _ (sv b o hb z)) th6
      | tru n =>
        refine ⟨_, rfl, _, _, .type "bool", _, false, rfl, .ty _, .base (.bl true), kit_ty (by decide +kernel), _, rfl, iteF ?_⟩
        refine ⟨_, rfl, _, _, .type "bool", _, false, rfl, .ty _, .base (.bl true), kit_ty (by decide +kernel), _, rfl, iteF ?_⟩
        have th : Thg H4 (.bl true) (n + 1) := .tru _
        have sv : ∀ b o, (.bl true : V) ≠ .ref b → H b = some o → H4 b = some o := fun b o _ z => sh b o z
        have hd5 := sh _ _ hd
        have he5 := sh _ _ he
        refine ⟨_, rfl, _, rfl, e, d, j, x, y, _, rfl, hx, hy, he5, hd5, fun H6 s6 => ?_⟩
        have th6 := thg_same th s6
        obtain ⟨t, b, ty, kb⟩ := thg_bool (K := K) th6
        refine ⟨_, rfl, _, rfl, ?_⟩
        refine thg_self th6 ?_
        refine ⟨_, rfl, iteT ?_⟩
        refine ⟨_, rfl, _, _, _, _, b, rfl, .ty _, ty, kb, ?_⟩
        refine ⟨_, rfl, _, _, _, _, b, rfl, .ty _, ty, kb, ?_⟩
        refine ⟨rfl, ?_⟩
        rw [decide_eq_true rfl]
        exact k H6 (fun b o hb z => s6 _ _ (sv b o hb z)) th6
      | non n =>
        refine ⟨_, rfl, _, _, .type "NoneType", _, false, rfl, .ty _, .base .non, kit_ty (by decide +kernel), _, rfl, iteF ?_⟩
        refine ⟨_, rfl, _, _, .type "NoneType", _, false, rfl, .ty _, .base .non, kit_ty (by decide +kernel), _, rfl, iteF ?_⟩
        have th : Thg H4 (.non) (n + 1) := .non _
        have sv : ∀ b o, (.non : V) ≠ .ref b → H b = some o → H4 b = some o := fun b o _ z => sh b o z
        have hd5 := sh _ _ hd
        have he5 := sh _ _ he
        refine ⟨_, rfl, _, rfl, e, d, j, x, y, _, rfl, hx, hy, he5, hd5, fun H6 s6 => ?_⟩
        have th6 := thg_same th s6
        obtain ⟨t, b, ty, kb⟩ := thg_bool (K := K) th6
        refine ⟨_, rfl, _, rfl, ?_⟩
        refine thg_self th6 ?_
        refine ⟨_, rfl, iteT ?_⟩
        refine ⟨_, rfl, _, _, _, _, b, rfl, .ty _, ty, kb, ?_⟩
        refine ⟨_, rfl, _, _, _, _, b, rfl, .ty _, ty, kb, ?_⟩
        refine ⟨rfl, ?_⟩
        rw [decide_eq_true rfl]
        exact k H6 (fun b o hb z => s6 _ _ (sv b o hb z)) th6
      | @tup p z n hp =>
        refine ⟨_, rfl, _, _, .type "tuple", _, false, rfl, .ty _, .base (.tup (sh _ _ hp)), kit_ty (by decide +kernel), _, rfl, iteF ?_⟩
        refine ⟨_, rfl, _, _, .type "tuple", _, false, rfl, .ty _, .base (.tup (sh _ _ hp)), kit_ty (by decide +kernel), _, rfl, iteF ?_⟩
        have th : Thg H4 (.ref p) (n + 1) := .tup (sh _ _ hp)
        have sv : ∀ b o, (.ref p : V) ≠ .ref b → H b = some o → H4 b = some o := fun b o _ z => sh b o z
        have hd5 := sh _ _ hd
        have he5 := sh _ _ he
        refine ⟨_, rfl, _, rfl, e, d, j, x, y, _, rfl, hx, hy, he5, hd5, fun H6 s6 => ?_⟩
        have th6 := thg_same th s6
        obtain ⟨t, b, ty, kb⟩ := thg_bool (K := K) th6
        refine ⟨_, rfl, _, rfl, ?_⟩
        refine thg_self th6 ?_
        refine ⟨_, rfl, iteT ?_⟩
        refine ⟨_, rfl, _, _, _, _, b, rfl, .ty _, ty, kb, ?_⟩
        refine ⟨_, rfl, _, _, _, _, b, rfl, .ty _, ty, kb, ?_⟩
        refine ⟨rfl, ?_⟩
        rw [decide_eq_true rfl]
        exact k H6 (fun b o hb z => s6 _ _ (sv b o hb z)) th6
      | @lst p z n hp =>
        refine ⟨_, rfl, _, _, .type "list", _, true, rfl, .ty _, .base (.lst (sh _ _ hp)), kit_ty (by decide +kernel), _, rfl, iteT ?_⟩
        have dp : d ≠ p := fun z => by
          rw [z, hp] at hd
          cases hd
        have ep : e ≠ p := fun z => by
          rw [z, hp] at he
          cases he
        refine ⟨_, rfl, .inl ⟨rfl, _, SqL.of (sh _ _ hp)⟩, p, _, _, rfl, rfl, sh _ _ hp, ?_, ?_⟩
        · simp only [List.length_cons, List.length_replicate]
          exact Nat.lt_of_le_of_lt (show _ ≤ 20 by omega) (by decide)
        have hp2 : upd H4 p (.lst (.int z :: List.replicate n (.str "more") ++ [.str "more"])) p = some (.lst (.int z :: List.replicate (n + 1) (.str "more"))) := by
          rw [upd_same, List.replicate_succ']
          rfl
        have sk : ∀ b o, b ≠ p → H b = some o → upd H4 p (.lst (.int z :: List.replicate n (.str "more") ++ [.str "more"])) b = some o := fun b o hb z => by
          rw [upd_ne hb]
          exact sh _ _ z
        show tSeq _ _ _ _ (upd H4 p (.lst (.int z :: List.replicate n (.str "more") ++ [.str "more"])))
        generalize upd H4 p (.lst (.int z :: List.replicate n (.str "more") ++ [.str "more"])) = H5 at hp2 sk ⊢
        have th : Thg H5 (.ref p) (n + 1) := .lst hp2
        refine ⟨_, rfl, _, _, .type "list", _, false, rfl, .ty _, .base (.lst hp2), kit_ty (by decide +kernel), _, rfl, iteF ?_⟩
        have sv : ∀ b o, V.ref p ≠ .ref b → H b = some o → H5 b = some o := fun b o hb z => sk b o (fun c => hb (by rw [c])) z
        have hd5 := sk _ _ dp hd
        have he5 := sk _ _ ep he
        refine ⟨_, rfl, _, rfl, e, d, j, x, y, _, rfl, hx, hy, he5, hd5, fun H6 s6 => ?_⟩
        have th6 := thg_same th s6
        obtain ⟨t, b, ty, kb⟩ := thg_bool (K := K) th6
        refine ⟨_, rfl, _, rfl, ?_⟩
        refine thg_self th6 ?_
        refine ⟨_, rfl, iteT ?_⟩
        refine ⟨_, rfl, _, _, _, _, b, rfl, .ty _, ty, kb, ?_⟩
        refine ⟨_, rfl, _, _, _, _, b, rfl, .ty _, ty, kb, ?_⟩
        refine ⟨rfl, ?_⟩
        rw [decide_eq_true rfl]
        exact k H6 (fun b o hb z => s6 _ _ (sv b o hb z)) th6
      | @dic p z n kvs hp hk =>
        refine ⟨_, rfl, _, _, .type "dict", _, false, rfl, .ty _, .base (.dK (sh _ _ hp)), kit_ty (by decide +kernel), _, rfl, iteF ?_⟩
        have dp : d ≠ p := fun z => by
          rw [z, hp] at hd
          cases hd
        have ep : e ≠ p := fun z => by
          rw [z, hp] at he
          cases he
        refine ⟨_, rfl, _, _, .type "dict", _, true, rfl, .ty _, .base (.dK (sh _ _ hp)), kit_ty (by decide +kernel), _, rfl, iteT ?_⟩
        refine ⟨_, rfl, _, rfl, p, _, rfl, DPut.k (k := .inr "more") (sh _ _ hp) ?_, ?_⟩
        · rcases hk with hk | ⟨j2, hk⟩ <;> (rw [hk]; exact Nat.lt_of_le_of_lt (show _ ≤ 2 by simp) (by decide))
        have hp2 : ∃ kv2, upd H4 p (.dK (putK kvs (.inr "more") (.int (j : Int)))) p = some (.dK kv2) ∧ (kv2 = [(.inr "x", .int z)] ∨ ∃ j : Int, kv2 = [(.inr "x", .int z), (.inr "more", .int j)]) := by
          refine ⟨_, upd_same, .inr ⟨j, ?_⟩⟩
          rcases hk with hk | ⟨j2, hk⟩ <;> (rw [hk]; rfl)
        have sk : ∀ b o, b ≠ p → H b = some o → upd H4 p (.dK (putK kvs (.inr "more") (.int (j : Int)))) b = some o := fun b o hb z => by
          rw [upd_ne hb]
          exact sh _ _ z
        show tSeq _ _ _ _ (upd H4 p (.dK (putK kvs (.inr "more") (.int (j : Int)))))
        generalize upd H4 p (.dK (putK kvs (.inr "more") (.int (j : Int)))) = H5 at hp2 sk ⊢
        obtain ⟨kv2, hp2, hk2⟩ := hp2
        have th : Thg H5 (.ref p) (n + 1) := .dic hp2 hk2
        have sv : ∀ b o, V.ref p ≠ .ref b → H b = some o → H5 b = some o := fun b o hb z => sk b o (fun c => hb (by rw [c])) z
        have hd5 := sk _ _ dp hd
        have he5 := sk _ _ ep he
        refine ⟨_, rfl, _, rfl, e, d, j, x, y, _, rfl, hx, hy, he5, hd5, fun H6 s6 => ?_⟩
        have th6 := thg_same th s6
        obtain ⟨t, b, ty, kb⟩ := thg_bool (K := K) th6
        refine ⟨_, rfl, _, rfl, ?_⟩
        refine thg_self th6 ?_
        refine ⟨_, rfl, iteT ?_⟩
        refine ⟨_, rfl, _, _, _, _, b, rfl, .ty _, ty, kb, ?_⟩
        refine ⟨_, rfl, _, _, _, _, b, rfl, .ty _, ty, kb, ?_⟩
        refine ⟨rfl, ?_⟩
        rw [decide_eq_true rfl]
        exact k H6 (fun b o hb z => s6 _ _ (sv b o hb z)) th6
      | @nest p q r s2 z n hp hq hr2 hs =>
        refine ⟨_, rfl, _, _, .type "list", _, true, rfl, .ty _, .base (.lst (sh _ _ hp)), kit_ty (by decide +kernel), _, rfl, iteT ?_⟩
        have dp : d ≠ p := fun z => by
          rw [z, hp] at hd
          cases hd
        have ep : e ≠ p := fun z => by
          rw [z, hp] at he
          cases he
        refine ⟨_, rfl, .inl ⟨rfl, _, SqL.of (sh _ _ hp)⟩, p, _, _, rfl, rfl, sh _ _ hp, ?_, ?_⟩
        · simp only [List.length_cons, List.length_replicate]
          exact Nat.lt_of_le_of_lt (show _ ≤ 20 by omega) (by decide)
        have hp2 : upd H4 p (.lst (.ref q :: .ref r :: List.replicate n (.str "more") ++ [.str "more"])) p = some (.lst (.ref q :: .ref r :: List.replicate (n + 1) (.str "more"))) := by
          rw [upd_same, List.replicate_succ']
          rfl
        have sk : ∀ b o, b ≠ p → H b = some o → upd H4 p (.lst (.ref q :: .ref r :: List.replicate n (.str "more") ++ [.str "more"])) b = some o := fun b o hb z => by
          rw [upd_ne hb]
          exact sh _ _ z
        show tSeq _ _ _ _ (upd H4 p (.lst (.ref q :: .ref r :: List.replicate n (.str "more") ++ [.str "more"])))
        generalize upd H4 p (.lst (.ref q :: .ref r :: List.replicate n (.str "more") ++ [.str "more"])) = H5 at hp2 sk ⊢
        have qp : q ≠ p := fun z => by
          rw [z, hp] at hq
          cases hq
        have rp : r ≠ p := fun z => by
          rw [z, hp] at hr2
          cases hr2
        have sp : s2 ≠ p := fun z => by
          rw [z, hp] at hs
          cases hs
        have th : Thg H5 (.ref p) (n + 1) := .nest hp2 (sk _ _ qp hq) (sk _ _ rp hr2) (sk _ _ sp hs)
        refine ⟨_, rfl, _, _, .type "list", _, false, rfl, .ty _, .base (.lst hp2), kit_ty (by decide +kernel), _, rfl, iteF ?_⟩
        have sv : ∀ b o, V.ref p ≠ .ref b → H b = some o → H5 b = some o := fun b o hb z => sk b o (fun c => hb (by rw [c])) z
        have hd5 := sk _ _ dp hd
        have he5 := sk _ _ ep he
        refine ⟨_, rfl, _, rfl, e, d, j, x, y, _, rfl, hx, hy, he5, hd5, fun H6 s6 => ?_⟩
        have th6 := thg_same th s6
        obtain ⟨t, b, ty, kb⟩ := thg_bool (K := K) th6
        refine ⟨_, rfl, _, rfl, ?_⟩
        refine thg_self th6 ?_
        refine ⟨_, rfl, iteT ?_⟩
        refine ⟨_, rfl, _, _, _, _, b, rfl, .ty _, ty, kb, ?_⟩
        refine ⟨_, rfl, _, _, _, _, b, rfl, .ty _, ty, kb, ?_⟩
        refine ⟨rfl, ?_⟩
        rw [decide_eq_true rfl]
        exact k H6 (fun b o hb z => s6 _ _ (sv b o hb z)) th6
end
end Hd
/-! A refusal raised, and caught. -/
namespace Hd
open PySem PySem.Spec PyProof.Rows L2
theorem pss_imp {X : Cx} {ss : List Stmt} {t u : TS} (h : PSs X ss t) (k : ∀ D σ H, u D σ H → t D σ H) : PSs X ss u :=
  ⟨fun pins s σ H D I q => h.run pins s σ H D I (k D σ H q)⟩
def spRaised : Sp := fun vs H Q _ => ∃ (j : Nat) (v : V), vs = [.int (j : Int), v] ∧ ∀ H', Same H H' → Q (.bl true) H'
/-- what the suite asks -/
def tSuite (K : PySem.W.Frag) : Addr → Value → Option Addr → TS := fun a cls d D σ H => ∀ oe : Obj, Zc cls d oe → (∃ vs, oe.data = .fields vs) →
  tRet (tOp (rEqD K) (Xn.tClE (spFam K) a oe (tVar 2)) (Xn.tCl spDue (tCons (tVar 0) tNil))) D σ H
section
variable {P : Program} {w : World} {K : PySem.W.Frag} {mg : Str → Option Value} {base : Heap} {f : Addr} {fd : FuncData}
theorem suite_ok {D : Ends} {σ : L2.St} {H : Hp} {a d : Addr} {x fld : Str} {v : V} {j : Nat} (T : Tx K mg) (hx : x ∈ fms ++ exs) (hj : famL x = dueL j)
    (h0 : σ[0]? = some (some (.int (j : Int)))) (h2 : σ[2]? = some (some (.ref a)))
    (hd : H d = none) (ha : (upd H d (.xd [(fld, v)])) a = none) (k : ∀ H', Same H H' → D.rt (.bl true) H') :
    tSuite K a (.ref (He.ga K x)) (some d) D σ (upd H d (.xd [(fld, v)])) := by
  intro oe hz hvs
  have na : d ≠ a := fun z => by
    rw [z, upd_same] at ha
    cases ha
  refine ⟨_, h2, rfl, a, x, rfl, hx, .held upd_same hz.1 hvs hz.2 (by rw [upd_ne na, upd_same]), fun p1 H1 s1 f1 g1 => ?_⟩
  have n1 : p1 ≠ a := fun z => by
    rw [z, upd_same] at f1
    cases f1
  refine ⟨_, h0, j, rfl, fun p2 H2 s2 f2 g2 => ?_⟩
  refine eq_rows (SqL.of (s2 _ _ (by rw [delH_ne n1]; exact g1))) (SqL.of g2) hj (k _ fun b o z => s2 _ _ ?_)
  have b1 : b ≠ d := ne_of_none z hd
  have b2 : b ≠ a := fun c => by
    rw [upd_ne na.symm] at ha
    rw [c, ha] at z
    cases z
  rw [delH_ne b2]
  exact s1 _ _ (by rw [upd_ne b2, upd_ne b1]; exact z)
theorem sc_raised : FnScope ["k", "thing", "e"] ["k", "thing"] d__law_raised.scope := ⟨rfl, rfl, rfl, by decide +kernel, rfl, by decide +kernel, by decide +kernel⟩
theorem ok_raised (T : Tx K mg) (mks : Mks P w K mg base) (cf : Xn.ClN P w K mg base 1 "_law_families" (spFam K)) (cd : Xn.ClN P w K mg base 1 "_law_due_families" spDue)
    (F : FnP K d__law_raised f fd) : FnOk P w K mg base CX0 3 f fd ["k", "thing"] spRaised := by
  refine F.ok sc_raised (fun vs H Q E h => ?_) (fun cdv A outer s H vs Q E hr h => ?_)
  · obtain ⟨j, v, rfl, _⟩ := h
    rfl
  · obtain ⟨j, v, rfl, k⟩ := h
    obtain ⟨_, m0⟩ := mks 0 "NoNumber" "found" rfl rfl
    obtain ⟨_, m15⟩ := mks 15 "NotThere" "found" rfl rfl
    obtain ⟨_, m17⟩ := mks 17 "Lacks" "found" rfl rfl
    have hn : Xn.RoomN 1 (A.deeper (envOfC d__law_raised.qual d__law_raised.scope s.heap.objs.size f cdv)) := (L2H.roomH_of hr).mono (by decide)
    refine ⟨_, PSs.nox (pss_one (Xn.ps_try_fam (i := 2) (ts := tSuite K) (c1 := .ref (He.ga K "HallError")) (c2 := .ref (He.ga K "Missing")) (c3 := .ref (He.ga K "Barred"))
      rfl rfl sc_raised.nd rfl rfl rfl (T.g "HallError" (by decide +kernel)) rfl (T.g "Missing" (by decide +kernel)) rfl (T.g "Barred" (by decide +kernel))
      (fun W pn xe tk _ => pss_cons (ps_if (pt_cmpR op_lt (pv 0) pe_int (nomark _)) (pss_one (ps_raise rfl tk (Xn.pmk_newX m0 hr rfl (T.g "NoNumber" (by decide +kernel)) (pa_cons (pv 1) pa_nil)))) pss_nil)
        (pss_cons (ps_if (pt_cmpR op_lt (pv 0) pe_int (nomark _)) (pss_one (ps_raise rfl tk (Xn.pmk_newX m15 hr rfl (T.g "NotThere" (by decide +kernel)) (pa_cons (pv 1) pa_nil)))) pss_nil)
        (pss_one (ps_raise rfl tk (Xn.pmk_newX m17 hr rfl (T.g "Lacks" (by decide +kernel)) (pa_cons (pv 1) pa_nil))))))
      (fun a oe cls d pn hz hv nb => pss_imp (pss_one (ps_ret (pe_cmpR (op_eqD hr.units) (Xn.pe_clE nb cf ⟨hn.dp, hn.un⟩ (pv 2)) (Xn.pe_clN cd ⟨hn.dp, hn.un⟩ (pa_cons (pv 0) pa_nil)) (nomark _))))
        fun D σ H q => q oe hz hv))), ?_⟩
    refine ⟨_, rfl, _, 15, rfl, rfl, _, rfl, ite2 (fun c => ?_) (fun c => ?_)⟩
    · have c1 : (j : Int) < 15 := of_decide_eq_true c
      refine ⟨_, rfl, v, rfl, fun d hd => ⟨T.exm "NoNumber", fun a ha => suite_ok (j := j) T (by decide +kernel) ?_ rfl rfl hd ha k⟩⟩
      unfold dueL
      rw [if_pos (by omega)]
      decide +kernel
    · have c1 : ¬ (j : Int) < 15 := fun z => c (decide_eq_true z)
      refine ⟨_, rfl, _, 17, rfl, rfl, _, rfl, ite2 (fun c => ?_) (fun c => ?_)⟩
      · have c2 : (j : Int) < 17 := of_decide_eq_true c
        refine ⟨_, rfl, v, rfl, fun d hd => ⟨T.exm "NotThere", fun a ha => suite_ok (j := j) T (by decide +kernel) ?_ rfl rfl hd ha k⟩⟩
        unfold dueL
        rw [if_neg (by omega), if_pos (by omega)]
        decide +kernel
      · have c2 : ¬ (j : Int) < 17 := fun z => c (decide_eq_true z)
        refine ⟨_, rfl, v, rfl, fun d hd => ⟨T.exm "Lacks", fun a ha => suite_ok (j := j) T (by decide +kernel) ?_ rfl rfl hd ha k⟩⟩
        unfold dueL
        rw [if_neg (by omega), if_neg (by omega)]
        decide +kernel
end
end Hd
/-! Refusals of the families themselves; the law. -/
namespace Hd
open PySem PySem.Spec PyProof.Rows L2
def spBase (K : PySem.W.Frag) : Sp := fun vs H Q _ => ∃ (j : Nat) (x : Str) (t : Str), vs = [.int (j : Int), .str t] ∧ fms[j]? = some x ∧
  ∀ a, H a = none → Q (.ref a) (upd H a (ExO (.ref (He.ga K x)) a))
def spLaw (K : PySem.W.Frag) : Sp := fun vs H Q _ => ∃ (a : Addr) (ns : List Int), vs = [.ref a] ∧ SqL K H a (ns.map V.int) ∧ ns.length ≤ 63 ∧ ∀ H', Q (.bl true) H'
section
variable {P : Program} {w : World} {K : PySem.W.Frag} {mg : Str → Option Value} {base : Heap} {f : Addr} {fd : FuncData}
theorem sc_base : FnScope ["way", "words"] ["way", "words"] d__law_base.scope := ⟨rfl, rfl, rfl, by decide +kernel, rfl, by decide +kernel, by decide +kernel⟩
theorem ok_base (T : Tx K mg) (F : FnP K d__law_base f fd) : FnOk P w K mg base CX0 1 f fd ["way", "words"] (spBase K) := by
  refine F.ok sc_base (fun vs H Q E h => ?_) (fun cdv A outer s H vs Q E hr h => ?_)
  · obtain ⟨j, x, t, rfl, _⟩ := h
    rfl
  · obtain ⟨j, x, t, rfl, hx, k⟩ := h
    have hl : j < 3 := (List.getElem?_eq_some_iff.mp hx).1
    refine ⟨_, PSs.nox (pss_cons (ps_if (pt_cmpR op_eq (pv 0) pe_int (nomark _)) (pss_one (ps_ret (Xn.pe_newF (T.xc "HallError") (T.famI "HallError") rfl (T.g "HallError" (by decide +kernel)) (pa_cons (pv 1) pa_nil)))) pss_nil)
      (pss_one (ps_ret (pe_ifExp (pt_cmpR op_eq (pv 0) pe_int (nomark _)) (Xn.pe_newF (T.xc "Missing") (T.famI "Missing") rfl (T.g "Missing" (by decide +kernel)) (pa_cons (pv 1) pa_nil))
        (Xn.pe_newF (T.xc "Barred") (T.famI "Barred") rfl (T.g "Barred" (by decide +kernel)) (pa_cons (pv 1) pa_nil)))))), ?_⟩
    refine ⟨_, rfl, rfl, _, rfl, step_eq 0 (fun c => ?_) (fun c0 => ?_)⟩
    · subst c
      cases hx
      exact ⟨_, rfl, _, rfl, k⟩
    refine ⟨_, rfl, rfl, _, rfl, step_eq 1 (fun c => ?_) (fun c1 => ?_)⟩
    · subst c
      cases hx
      exact ⟨_, rfl, _, rfl, k⟩
    · have c : j = 2 := by omega
      subst c
      cases hx
      exact ⟨_, rfl, _, rfl, k⟩
theorem fam_flat : ∀ x ∈ fms, ((clsL x).map V.bl).all flatV = true ∧ inV (.bl true) ((clsL x).map V.bl) = false := by decide +kernel
theorem way_due : ∀ j : Nat, j < 3 → famL (fms.getD j "") = dueL (([0, 15, 17] : List Nat).getD j 0) := by decide +kernel
theorem place_at : ∀ i : Nat, i < 25 → ∃ x y, exs[i]? = some x ∧ flds[i]? = some y := fun i hi => by
  have h1 : i < exs.length := Nat.lt_of_lt_of_le hi (by decide +kernel)
  have h2 : i < flds.length := Nat.lt_of_lt_of_le hi (by decide +kernel)
  exact ⟨_, _, List.getElem?_eq_getElem h1, List.getElem?_eq_getElem h2⟩
theorem way_at : ∀ i : Nat, i < 3 → ([.int 0, .int 15, .int 17] : List V)[i]? = some (.int ((([0, 15, 17] : List Nat).getD i 0 : Nat) : Int)) := by decide +kernel
theorem fms_at : ∀ i : Nat, i < 3 → fms[i]? = some (fms.getD i "") ∧ fms.getD i "" ∈ fms := by decide +kernel
theorem law_nd : (["script", "cell", "pool", "k", "thing", "way", "e"] : List Str).Nodup := by decide +kernel
theorem sc_lawf : FnScope ["script", "cell", "pool", "k", "thing", "way", "e"] ["script"] d_law.scope := ⟨rfl, rfl, rfl, by decide +kernel, rfl, by decide +kernel, by decide +kernel⟩
theorem ok_law (T : Tx K mg) (cp : Xn.Cl P w K mg base 4 "_law_pool" spPool) (ct : Xn.Cl P w K mg base 4 "_law_thing" spThing) (cl : Xn.Cl P w K mg base 4 "_law_by_place" (spMk K 0))
    (cn : Xn.Cl P w K mg base 4 "_law_by_name" (spMk K 0)) (cr : Xn.Cl P w K mg base 4 "_law_right" (spRight K)) (cz : Xn.Cl P w K mg base 4 "_law_raised" spRaised)
    (cb : Xn.Cl P w K mg base 4 "_law_base" (spBase K)) (cc : Xn.Cl P w K mg base 4 "_law_classes" (spCls K)) (cf : Xn.Cl P w K mg base 4 "_law_families" (spFam K))
    (cd : Xn.Cl P w K mg base 4 "_law_due_families" spDue)
    (F : FnP K d_law f fd) : FnOk P w K mg base CX0 5 f fd ["script"] (spLaw K) := by
  refine F.ok sc_lawf (fun vs H Q E h => ?_) (fun cdv A outer s H vs Q E hr h => ?_)
  · obtain ⟨a, ns, rfl, _⟩ := h
    rfl
  · obtain ⟨a, ns, rfl, hS, hn, k⟩ := h
    refine ⟨_, PSs.nox (pss_cons (ps_for PassesOwn.never rfl (pi_list (pe_op op_cat (pe_slice sl_list (pv 0) po_none (po_some pe_int)) (pe_lst (pa_cons pe_int pa_nil))))
        (pg_name (i := 1) sc_lawf.nd rfl (.inl rfl))
        (pss_cons (ps_set (i := 2) sc_lawf.nd rfl (.inl rfl) (Xn.pe_cl cp hr (pa_cons (pv 1) pa_nil)))
        (pss_cons (ps_for PassesOwn.never rfl (pi_range1 rfl (T.f "range" (by decide +kernel)) (pa_cons pe_int pa_nil)) (pg_name (i := 3) sc_lawf.nd rfl (.inl rfl))
          (pss_cons (ps_if (pt_cmpR op_lt (pv 1) (pe_op op_pow pe_int pe_int) (nomark _)) (pss_one (ps_set (i := 2) sc_lawf.nd rfl (.inl rfl) (Xn.pe_cl cp hr (pa_cons (pe_op op_add (pv 1) (pv 3)) pa_nil)))) pss_nil)
          (pss_cons (ps_set (i := 4) sc_lawf.nd rfl (.inl rfl) (Xn.pe_cl ct hr (pa_cons (pv 2) pa_nil)))
          (pss_cons (ps_if (PW.pt (pw_or (pt_not (pt_val (Xn.pe_cl cr hr (pa_cons (Xn.pe_cl cl hr (pa_cons (pv 3) (pa_cons (pv 4) pa_nil))) (pa_cons (pv 3) (pa_cons (pv 4) pa_nil))))))
              (pw_or1 (pt_not (pt_val (Xn.pe_cl cr hr (pa_cons (Xn.pe_cl cn hr (pa_cons (pv 3) (pa_cons (pv 4) pa_nil))) (pa_cons (pv 3) (pa_cons (pv 4) pa_nil)))))))))
            (pss_one (ps_ret pe_bl)) pss_nil)
          (pss_one (ps_if (pt_not (pt_val (Xn.pe_cl cz hr (pa_cons (pv 3) (pa_cons (pv 4) pa_nil))))) (pss_one (ps_ret pe_bl)) pss_nil))))))
        (pss_one (ps_for PassesOwn.never rfl (pi_range1 rfl (T.f "range" (by decide +kernel)) (pa_cons pe_int pa_nil)) (pg_name (i := 5) sc_lawf.nd rfl (.inl rfl))
          (pss_cons (ps_set (i := 6) sc_lawf.nd rfl (.inl rfl) (Xn.pe_cl cb hr (pa_cons (pv 5) (pa_cons (pe_op op_add_str pe_str
              (pe_callTy call_str_int (by rfl) (T.f "str" (by decide +kernel)) (by decide +kernel) (pa_cons (pe_op op_mod (pv 1) pe_int) pa_nil))) pa_nil))))
          (pss_one (ps_if (PW.pt (pw_or (pt_cmpR op_in_seq pe_bl (Xn.pe_cl cc hr (pa_cons (pv 6) pa_nil)) (by rfl))
              (pw_or1 (pt_cmpR (op_neD hr.units) (Xn.pe_cl cf hr (pa_cons (pv 6) pa_nil)) (Xn.pe_cl cd hr (pa_cons (pe_ix ix_list (pe_lst (pa_cons pe_int (pa_cons pe_int (pa_cons pe_int pa_nil)))) (pv 5) (fun _ _ => rfl)) pa_nil)) (nomark _)))))
            (pss_one (ps_ret pe_bl)) pss_nil))))))))
      (pss_one (ps_ret pe_bl))), ?_⟩
    obtain ⟨cs, ecs, hcs⟩ : ∃ cs : List Int, cutV (ns.map V.int) none (some 8) = cs.map V.int ∧ cs.length ≤ 63 := by
      refine ⟨(ns.drop (HT.sIx (ns.map V.int).length 0 none)).take (HT.sIx (ns.map V.int).length (ns.map V.int).length (some 8) - HT.sIx (ns.map V.int).length 0 none), ?_, ?_⟩
      · unfold cutV
        rw [List.map_take, List.map_drop]
      · rw [List.length_take, List.length_drop]
        omega
    refine ⟨_, rfl, 8, rfl, a, _, rfl, hS, fun p0 h0 => ?_⟩
    rw [ecs]
    refine ⟨ln1, fun q0 hq0 => ?_⟩
    have sz : (cs.map V.int).length + ([.int 6] : List V).length ≤ sizeLine := by
      rw [List.length_map]
      exact Nat.le_trans (show _ ≤ 64 from Nat.add_le_add_right hcs 1) (by decide)
    refine ⟨p0, q0, _, _, rfl, rfl, same_new hq0 _ _ upd_same, upd_same, sz, fun p hp => ?_⟩
    have em : cs.map V.int ++ [.int 6] = (cs ++ [6]).map V.int := by
      rw [List.map_append]
      rfl
    rw [em]
    generalize cs ++ [6] = cl6
    refine ⟨p, rfl, ⟨_, SqL.of upd_same⟩, for_list (xs := cl6.map V.int) (fun i σ H' => ∃ v1 v2 v3 v4 v5 v6 : Option V, σ = [some (.ref a), v1, v2, v3, v4, v5, v6] ∧ H' p = some (.lst (cl6.map V.int)))
      ⟨_, _, _, _, _, _, rfl, upd_same⟩ (fun i σ H' _ ⟨_, _, _, _, _, _, _, z⟩ => SqL.of z) ?_ (fun _ _ _ => k _)⟩
    rintro i0 x0 σ H1 hx0 ⟨v1, v2, v3, v4, v5, v6, rfl, hL⟩
    rw [List.getElem?_map] at hx0
    obtain ⟨c, _, rfl⟩ := Option.map_eq_some_iff.mp hx0
    refine ⟨_, rfl, c, rfl, fun n0 pl0 hpl0 => ?_⟩
    refine ⟨25, rfl, by decide, by decide, for_range (lo := 0) (n := 25) (fun i σ H' => ∃ (pl : Addr) (n : Int) (v3 v4 v5 v6 : Option V), σ = [some (.ref a), some (.int c), some (.ref pl), v3, v4, v5, v6] ∧
      H' p = some (.lst (cl6.map V.int)) ∧ H' pl = some (.lst [.int n]) ∧ pl ≠ p) ⟨pl0, n0, _, _, _, _, rfl, same_new hpl0 _ _ hL, upd_same, Ne.symm (ne_of_none hL hpl0)⟩ ?_ ?_⟩
    · rintro i σ H3 hi ⟨pl, n, w3, w4, w5, w6, rfl, hL3, hP3, hne3⟩
      obtain ⟨x, y, hx, hy⟩ := place_at i hi
      refine ⟨_, rfl, 10, 18, rfl, rfl, ⟨by decide, by decide, by decide⟩, c, _, rfl, rfl, _, rfl, ite2 (fun _ => ?_) (fun _ => ?_)⟩
      · refine ⟨_, rfl, _, rfl, _, _, rfl, rfl, _, rfl, fun n2 pl2 h2 => ?_⟩
        have hL5 := same_new (o := .lst [.int n2]) h2 _ _ hL3
        have hP5 : upd H3 pl2 (.lst [.int n2]) pl2 = some (.lst [.int n2]) := upd_same
        have hne5 : pl2 ≠ p := Ne.symm (ne_of_none hL3 h2)
        show tSeq _ _ _ [some (.ref a), some (.int c), some (.ref pl2), some (.int (0 + (i : Int))), w4, w5, w6] (upd H3 pl2 (.lst [.int n2]))
        clear hL3 hP3 hne3
        generalize upd H3 pl2 (.lst [.int n2]) = H5 at hL5 hP5 ⊢
        refine ⟨_, rfl, pl2, n2, rfl, hP5, fun v H4 m k4 hP4 hT4 hf4 => ?_⟩
        have hL4 := k4 _ _ (Ne.symm hne5) hL5
        have nvp : v ≠ .ref p := fun z => by
          have q := hf4 p z
          rw [hL5] at q
          cases q
        have nvl : v ≠ .ref pl2 := fun z => by
          have q := hf4 pl2 z
          rw [hP5] at q
          cases q
        refine ⟨_, rfl, _, rfl, i, x, y, v, by rw [Int.zero_add], Nat.zero_le _, hx, hy, fun e d he hd hed => ?_⟩
        have s5 : Same H4 (upd (upd H4 d (exd d [(y, v)])) e (exo e (He.ga K x) (some d))) := (same_new hd).trans (same_new (by rw [upd_ne (Ne.symm hed)]; exact he))
        refine ⟨_, rfl, _, rfl, e, d, i, x, y, v, 0, by rw [Int.zero_add], hx, hy, upd_same, by rw [upd_ne hed, upd_same], thg_same hT4 s5, by decide, fun H6 k6 hT6 => ?_⟩
        have hL6 := k6 _ _ nvp (s5 _ _ hL4)
        have hP6 := k6 _ _ nvl (s5 _ _ hP4)
        refine ⟨_, rfl, iteF ?_⟩
        refine ⟨_, rfl, _, rfl, i, x, y, v, by rw [Int.zero_add], Nat.zero_le _, hx, hy, fun e2 d2 he2 hd2 hed2 => ?_⟩
        have s7 : Same H6 (upd (upd H6 d2 (exd d2 [(y, v)])) e2 (exo e2 (He.ga K x) (some d2))) := (same_new hd2).trans (same_new (by rw [upd_ne (Ne.symm hed2)]; exact he2))
        refine ⟨_, rfl, _, rfl, e2, d2, i, x, y, v, 1, by rw [Int.zero_add], hx, hy, upd_same, by rw [upd_ne hed2, upd_same], thg_same hT6 s7, by decide, fun H8 k8 hT8 => ?_⟩
        have hL8 := k8 _ _ nvp (s7 _ _ hL6)
        have hP8 := k8 _ _ nvl (s7 _ _ hP6)
        refine ⟨_, rfl, iteF ?_⟩
        refine ⟨_, rfl, _, rfl, i, v, by rw [Int.zero_add], fun H9 s9 => ?_⟩
        refine ⟨_, rfl, iteF ?_⟩
        exact ⟨pl2, m, _, _, _, _, rfl, s9 _ _ hL8, s9 _ _ hP8, hne5⟩
      · show tSeq _ _ _ [some (.ref a), some (.int c), some (.ref pl), some (.int (0 + (i : Int))), w4, w5, w6] H3
        refine ⟨_, rfl, pl, n, rfl, hP3, fun v H4 m k4 hP4 hT4 hf4 => ?_⟩
        have hL4 := k4 _ _ (Ne.symm hne3) hL3
        have nvp : v ≠ .ref p := fun z => by
          have q := hf4 p z
          rw [hL3] at q
          cases q
        have nvl : v ≠ .ref pl := fun z => by
          have q := hf4 pl z
          rw [hP3] at q
          cases q
        refine ⟨_, rfl, _, rfl, i, x, y, v, by rw [Int.zero_add], Nat.zero_le _, hx, hy, fun e d he hd hed => ?_⟩
        have s5 : Same H4 (upd (upd H4 d (exd d [(y, v)])) e (exo e (He.ga K x) (some d))) := (same_new hd).trans (same_new (by rw [upd_ne (Ne.symm hed)]; exact he))
        refine ⟨_, rfl, _, rfl, e, d, i, x, y, v, 0, by rw [Int.zero_add], hx, hy, upd_same, by rw [upd_ne hed, upd_same], thg_same hT4 s5, by decide, fun H6 k6 hT6 => ?_⟩
        have hL6 := k6 _ _ nvp (s5 _ _ hL4)
        have hP6 := k6 _ _ nvl (s5 _ _ hP4)
        refine ⟨_, rfl, iteF ?_⟩
        refine ⟨_, rfl, _, rfl, i, x, y, v, by rw [Int.zero_add], Nat.zero_le _, hx, hy, fun e2 d2 he2 hd2 hed2 => ?_⟩
        have s7 : Same H6 (upd (upd H6 d2 (exd d2 [(y, v)])) e2 (exo e2 (He.ga K x) (some d2))) := (same_new hd2).trans (same_new (by rw [upd_ne (Ne.symm hed2)]; exact he2))
        refine ⟨_, rfl, _, rfl, e2, d2, i, x, y, v, 1, by rw [Int.zero_add], hx, hy, upd_same, by rw [upd_ne hed2, upd_same], thg_same hT6 s7, by decide, fun H8 k8 hT8 => ?_⟩
        have hL8 := k8 _ _ nvp (s7 _ _ hL6)
        have hP8 := k8 _ _ nvl (s7 _ _ hP6)
        refine ⟨_, rfl, iteF ?_⟩
        refine ⟨_, rfl, _, rfl, i, v, by rw [Int.zero_add], fun H9 s9 => ?_⟩
        refine ⟨_, rfl, iteF ?_⟩
        exact ⟨pl, m, _, _, _, _, rfl, s9 _ _ hL8, s9 _ _ hP8, hne3⟩
    · rintro σ H2 ⟨pl, n, w3, w4, w5, w6, rfl, hL2, _, _⟩
      refine ⟨3, rfl, by decide, by decide, for_range (lo := 0) (n := 3) (fun i σ H' => ∃ v2 v3 v4 v5 v6 : Option V, σ = [some (.ref a), some (.int c), v2, v3, v4, v5, v6] ∧ H' p = some (.lst (cl6.map V.int)))
        ⟨_, _, _, _, _, rfl, hL2⟩ ?_ (fun σ H' ⟨_, _, _, _, _, e, z⟩ => ⟨_, _, _, _, _, _, e, z⟩)⟩
      rintro i σ H3 hi ⟨z2, z3, z4, z5, z6, rfl, hL3⟩
      have b0 : 0 ≤ c % 1000 ∧ c % 1000 < 1000 := by omega
      generalize hc : c % 1000 = r at b0
      have b1 : r.natAbs < 10 ^ 3 := by omega
      obtain ⟨hx, hm⟩ := fms_at i hi
      refine ⟨_, rfl, _, rfl, c, 1000, rfl, rfl, by show (0 : Int) < 1000; decide, r, by rw [← hc], PySem.Flt.log2_lt_of (by decide) (Nat.lt_of_lt_of_le b1 (by decide +kernel)), _, _, rfl, rfl,
        Nat.le_trans (Nat.add_le_add_left (str_len r (k := 3) (by decide) b1) _) (by decide), i, _, _, by rw [Int.zero_add], hx, fun e he => ?_⟩
      have se := same_new (o := ExO (.ref (He.ga K (fms.getD i ""))) e) he
      have hm2 : fms.getD i "" ∈ fms ++ exs := List.mem_append_left _ hm
      refine ⟨_, rfl, e, _, rfl, hm2, .bare upd_same, fun q1 H5 s5 f5 g5 => ?_⟩
      refine ⟨q1, _, rfl, .inl (SqL.of g5), rfl, (fam_flat _ hm).1, _, rfl, ?_⟩
      show (if inV (.bl true) ((clsL (fms.getD i "")).map V.bl) = true then _ else _)
      rw [(fam_flat _ hm).2]
      refine iteF ?_
      refine ⟨_, rfl, e, _, rfl, hm2, .bare (s5 _ _ upd_same), fun q2 H6 s6 f6 g6 => ?_⟩
      refine ⟨by show 3 ≤ sizeLine; decide, fun q3 hq3 => ?_⟩
      refine ⟨_, rfl, q3, _, _, _, rfl, rfl, SqL.of upd_same, by rw [Int.zero_add]; exact atI_nat (way_at i hi), _, rfl, fun q4 H7 s7 f7 g7 => ?_⟩
      refine ne_rows (s7 _ _ (same_new hq3 _ _ g6)) g7 (way_due i hi) ?_
      refine ⟨_, rfl, iteF ?_⟩
      exact ⟨_, _, _, _, _, rfl, s7 _ _ (same_new hq3 _ _ (s6 _ _ (s5 _ _ (se _ _ hL3))))⟩
end
end Hd
/-! The facts joined; the law. -/
namespace Hd
open PySem PySem.Spec PyProof.Rows L2
section
variable {P : Program} {w : World} {K : PySem.W.Frag} {h : Heap} {mg : Str → Option Value} {base : Heap}
theorem tx_of (X : K.In h) (G : h.Ns mainGlobals mg) (c : He.SaysD fa fn K) (e : exB K = true) : Tx K mg :=
  ⟨fun x hx => He.glo_ok X G (c.facts (List.mem_append_left _ (List.mem_map_of_mem hx))), fun x hx => He.free_ok X G (c.facts (List.mem_append_right _ (List.mem_map_of_mem hx))), e⟩
theorem mks_of (T : Tx K mg) (c : He.SaysD fa fn K) : Mks P w K mg base := by
  intro j x y hx hy
  have hl : j < 25 := (List.getElem?_eq_some_iff.mp hx).1
  obtain ⟨f0, F0⟩ := c.def_ 0 (d := d_NoNumber) rfl
  obtain ⟨f1, F1⟩ := c.def_ 1 (d := d_NoWord) rfl
  obtain ⟨f2, F2⟩ := c.def_ 2 (d := d_NoMember) rfl
  obtain ⟨f3, F3⟩ := c.def_ 3 (d := d_NoCounts) rfl
  obtain ⟨f4, F4⟩ := c.def_ 4 (d := d_Unlike) rfl
  obtain ⟨f5, F5⟩ := c.def_ 5 (d := d_NoLetter) rfl
  obtain ⟨f6, F6⟩ := c.def_ 6 (d := d_NoCauses) rfl
  obtain ⟨f7, F7⟩ := c.def_ 7 (d := d_Forged) rfl
  obtain ⟨f8, F8⟩ := c.def_ 8 (d := d_NoShort) rfl
  obtain ⟨f9, F9⟩ := c.def_ 9 (d := d_NoThing) rfl
  obtain ⟨f10, F10⟩ := c.def_ 10 (d := d_NoDeed) rfl
  obtain ⟨f11, F11⟩ := c.def_ 11 (d := d_NoHistory) rfl
  obtain ⟨f12, F12⟩ := c.def_ 12 (d := d_NoRow) rfl
  obtain ⟨f13, F13⟩ := c.def_ 13 (d := d_NoText) rfl
  obtain ⟨f14, F14⟩ := c.def_ 14 (d := d_TooMany) rfl
  obtain ⟨f15, F15⟩ := c.def_ 15 (d := d_NotThere) rfl
  obtain ⟨f16, F16⟩ := c.def_ 16 (d := d_NotOnRoad) rfl
  obtain ⟨f17, F17⟩ := c.def_ 17 (d := d_Lacks) rfl
  obtain ⟨f18, F18⟩ := c.def_ 18 (d := d_Known) rfl
  obtain ⟨f19, F19⟩ := c.def_ 19 (d := d_Stopped) rfl
  obtain ⟨f20, F20⟩ := c.def_ 20 (d := d_Awake) rfl
  obtain ⟨f21, F21⟩ := c.def_ 21 (d := d_AllTold) rfl
  obtain ⟨f22, F22⟩ := c.def_ 22 (d := d_NoSeat) rfl
  obtain ⟨f23, F23⟩ := c.def_ 23 (d := d_Full) rfl
  obtain ⟨f24, F24⟩ := c.def_ 24 (d := d_NotQuiet) rfl
  match j, hl, hx, hy with
  | 0, _, hx, hy =>
    cases hx
    cases hy
    exact ⟨_, mk_NoNumber T rfl F0⟩
  | 1, _, hx, hy =>
    cases hx
    cases hy
    exact ⟨_, mk_NoWord T rfl F1⟩
  | 2, _, hx, hy =>
    cases hx
    cases hy
    exact ⟨_, mk_NoMember T rfl F2⟩
  | 3, _, hx, hy =>
    cases hx
    cases hy
    exact ⟨_, mk_NoCounts T rfl F3⟩
  | 4, _, hx, hy =>
    cases hx
    cases hy
    exact ⟨_, mk_Unlike T rfl F4⟩
  | 5, _, hx, hy =>
    cases hx
    cases hy
    exact ⟨_, mk_NoLetter T rfl F5⟩
  | 6, _, hx, hy =>
    cases hx
    cases hy
    exact ⟨_, mk_NoCauses T rfl F6⟩
  | 7, _, hx, hy =>
    cases hx
    cases hy
    exact ⟨_, mk_Forged T rfl F7⟩
  | 8, _, hx, hy =>
    cases hx
    cases hy
    exact ⟨_, mk_NoShort T rfl F8⟩
  | 9, _, hx, hy =>
    cases hx
    cases hy
    exact ⟨_, mk_NoThing T rfl F9⟩
  | 10, _, hx, hy =>
    cases hx
    cases hy
    exact ⟨_, mk_NoDeed T rfl F10⟩
  | 11, _, hx, hy =>
    cases hx
    cases hy
    exact ⟨_, mk_NoHistory T rfl F11⟩
  | 12, _, hx, hy =>
    cases hx
    cases hy
    exact ⟨_, mk_NoRow T rfl F12⟩
  | 13, _, hx, hy =>
    cases hx
    cases hy
    exact ⟨_, mk_NoText T rfl F13⟩
  | 14, _, hx, hy =>
    cases hx
    cases hy
    exact ⟨_, mk_TooMany T rfl F14⟩
  | 15, _, hx, hy =>
    cases hx
    cases hy
    exact ⟨_, mk_NotThere T rfl F15⟩
  | 16, _, hx, hy =>
    cases hx
    cases hy
    exact ⟨_, mk_NotOnRoad T rfl F16⟩
  | 17, _, hx, hy =>
    cases hx
    cases hy
    exact ⟨_, mk_Lacks T rfl F17⟩
  | 18, _, hx, hy =>
    cases hx
    cases hy
    exact ⟨_, mk_Known T rfl F18⟩
  | 19, _, hx, hy =>
    cases hx
    cases hy
    exact ⟨_, mk_Stopped T rfl F19⟩
  | 20, _, hx, hy =>
    cases hx
    cases hy
    exact ⟨_, mk_Awake T rfl F20⟩
  | 21, _, hx, hy =>
    cases hx
    cases hy
    exact ⟨_, mk_AllTold T rfl F21⟩
  | 22, _, hx, hy =>
    cases hx
    cases hy
    exact ⟨_, mk_NoSeat T rfl F22⟩
  | 23, _, hx, hy =>
    cases hx
    cases hy
    exact ⟨_, mk_Full T rfl F23⟩
  | 24, _, hx, hy =>
    cases hx
    cases hy
    exact ⟨_, mk_NotQuiet T rfl F24⟩
theorem cl_of {x : Str} {k : Nat} {d : He.DefD} {fd : FuncData} {ps : List Str} {sp : Sp} (T : Tx K mg) (hg : x ∈ gl) (F : FnP K d (He.ga K x) fd) (O : FnOk P w K mg base CX0 k (He.ga K x) fd ps sp)
    (b : Binds K fd ps []) : Xn.Cl P w K mg base k x sp := .of O (T.g x hg) F.kp b
theorem facts {f : Addr} (X : K.In h) (G : h.Ns mainGlobals mg) (hfa : mg ("law" : Str) = some (.ref f)) (c : He.SaysD fa fn K) (e : exB K = true) :
    ∃ fd : FuncData, (∀ (s : Shared) (v : Value), BindsTo s fd ⟨[v], []⟩ [("script", v)]) ∧ ∀ base : Heap, K.In base → base.Ns mainGlobals mg → FnOk P w K mg base CX0 5 f fd ["script"] (spLaw K) := by
  have T := tx_of X G c e
  obtain ⟨d0, F0⟩ := c.def_ 25 (d := d__law_pool) rfl
  have b0 : Binds K d0 ["cell"] [] := FunD.bindsN F0 fun _ _ _ _ _ _ us hl => match us, hl with | [_], _ => rfl
  obtain ⟨d1, F1⟩ := c.def_ 26 (d := d__law_take) rfl
  have b1 : Binds K d1 ["pool", "size"] [] := FunD.bindsN F1 fun _ _ _ _ _ _ us hl => match us, hl with | [_, _], _ => rfl
  obtain ⟨d2, F2⟩ := c.def_ 27 (d := d__law_thing) rfl
  have b2 : Binds K d2 ["pool"] [] := FunD.bindsN F2 fun _ _ _ _ _ _ us hl => match us, hl with | [_], _ => rfl
  obtain ⟨d3, F3⟩ := c.def_ 28 (d := d__law_by_place) rfl
  have b3 : Binds K d3 ["k", "thing"] [] := FunD.bindsN F3 fun _ _ _ _ _ _ us hl => match us, hl with | [_, _], _ => rfl
  obtain ⟨d4, F4⟩ := c.def_ 29 (d := d__law_by_place_more) rfl
  have b4 : Binds K d4 ["k", "thing"] [] := FunD.bindsN F4 fun _ _ _ _ _ _ us hl => match us, hl with | [_, _], _ => rfl
  obtain ⟨d5, F5⟩ := c.def_ 30 (d := d__law_by_name) rfl
  have b5 : Binds K d5 ["k", "thing"] [] := FunD.bindsN F5 fun _ _ _ _ _ _ us hl => match us, hl with | [_, _], _ => rfl
  obtain ⟨d6, F6⟩ := c.def_ 31 (d := d__law_by_name_more) rfl
  have b6 : Binds K d6 ["k", "thing"] [] := FunD.bindsN F6 fun _ _ _ _ _ _ us hl => match us, hl with | [_, _], _ => rfl
  obtain ⟨d7, F7⟩ := c.def_ 32 (d := d__law_classes) rfl
  have b7 : Binds K d7 ["e"] [] := FunD.bindsN F7 fun _ _ _ _ _ _ us hl => match us, hl with | [_], _ => rfl
  obtain ⟨d8, F8⟩ := c.def_ 33 (d := d__law_families) rfl
  have b8 : Binds K d8 ["e"] [] := FunD.bindsN F8 fun _ _ _ _ _ _ us hl => match us, hl with | [_], _ => rfl
  obtain ⟨d9, F9⟩ := c.def_ 34 (d := d__law_due_families) rfl
  have b9 : Binds K d9 ["k"] [] := FunD.bindsN F9 fun _ _ _ _ _ _ us hl => match us, hl with | [_], _ => rfl
  obtain ⟨d10, F10⟩ := c.def_ 35 (d := d__law_field) rfl
  have b10 : Binds K d10 ["e", "k"] [] := FunD.bindsN F10 fun _ _ _ _ _ _ us hl => match us, hl with | [_, _], _ => rfl
  obtain ⟨d11, F11⟩ := c.def_ 36 (d := d__law_right) rfl
  have b11 : Binds K d11 ["e", "k", "thing"] [] := FunD.bindsN F11 fun _ _ _ _ _ _ us hl => match us, hl with | [_, _, _], _ => rfl
  obtain ⟨d12, F12⟩ := c.def_ 37 (d := d__law_raised) rfl
  have b12 : Binds K d12 ["k", "thing"] [] := FunD.bindsN F12 fun _ _ _ _ _ _ us hl => match us, hl with | [_, _], _ => rfl
  obtain ⟨d13, F13⟩ := c.def_ 38 (d := d__law_base) rfl
  have b13 : Binds K d13 ["way", "words"] [] := FunD.bindsN F13 fun _ _ _ _ _ _ us hl => match us, hl with | [_, _], _ => rfl
  obtain ⟨d14, F14⟩ := c.def_ 39 (d := d_law) rfl
  have ef := hfa.symm.trans (T.g "law" (by decide +kernel))
  cases ef
  have bl := FunD.bindsA (ps := ["script"]) F14 fun _ _ _ _ _ _ us hl => match us, hl with | [_], _ => rfl
  refine ⟨d14, fun s v => bl s [v] rfl, fun base _ _ => ?_⟩
  have mks : Mks P w K mg base := mks_of T c
  have c0 : Xn.Cl P w K mg base 1 "_law_pool" spPool := .of (ok_pool T F0) (T.g _ (by decide +kernel)) F0.kp b0
  have c1 : Xn.Cl P w K mg base 1 "_law_take" spTake := .of (ok_take F1) (T.g _ (by decide +kernel)) F1.kp b1
  have c2 : Xn.Cl P w K mg base 2 "_law_thing" spThing := .of (ok_thing T c1 F2) (T.g _ (by decide +kernel)) F2.kp b2
  have c4 : Xn.Cl P w K mg base 3 "_law_by_place_more" (spMk K 13) := .of (ok_law_by_place_more T mks F4) (T.g _ (by decide +kernel)) F4.kp b4
  have c3 : Xn.Cl P w K mg base 4 "_law_by_place" (spMk K 0) := .of (ok_law_by_place T mks c4 F3) (T.g _ (by decide +kernel)) F3.kp b3
  have c6 : Xn.Cl P w K mg base 3 "_law_by_name_more" (spMk K 13) := .of (ok_law_by_name_more T mks F6) (T.g _ (by decide +kernel)) F6.kp b6
  have c5 : Xn.Cl P w K mg base 4 "_law_by_name" (spMk K 0) := .of (ok_law_by_name T mks c6 F5) (T.g _ (by decide +kernel)) F5.kp b5
  have c7 : Xn.Cl P w K mg base 1 "_law_classes" (spCls K) := .of (ok_classes T F7) (T.g _ (by decide +kernel)) F7.kp b7
  have c8 : Xn.ClN P w K mg base 1 "_law_families" (spFam K) := ⟨_, _, _, ok_families T F8, T.g _ (by decide +kernel), F8.kp, b8⟩
  have c9 : Xn.ClN P w K mg base 1 "_law_due_families" spDue := ⟨_, _, _, ok_due T F9, T.g _ (by decide +kernel), F9.kp, b9⟩
  have c10 : Xn.Cl P w K mg base 1 "_law_field" (spFld K) := .of (ok_field T F10) (T.g _ (by decide +kernel)) F10.kp b10
  have c11 : Xn.Cl P w K mg base 2 "_law_right" (spRight K) := .of (ok_right T c7 c8.calm c9.calm c10 F11) (T.g _ (by decide +kernel)) F11.kp b11
  have c12 : Xn.Cl P w K mg base 3 "_law_raised" spRaised := .of (ok_raised T mks c8 c9 F12) (T.g _ (by decide +kernel)) F12.kp b12
  have c13 : Xn.Cl P w K mg base 1 "_law_base" (spBase K) := .of (ok_base T F13) (T.g _ (by decide +kernel)) F13.kp b13
  exact ok_law T (c0.mono (by decide)) (c2.mono (by decide)) c3 c5 (c11.mono (by decide)) (c12.mono (by decide)) (c13.mono (by decide)) (c7.mono (by decide)) (c8.calm.mono (by decide)) (c9.calm.mono (by decide)) F14
end
end Hd
open PySem PySem.W PySem.Calls PyProof.Rows
theorem PySem.Challenge.cw_causehall_k51_refusals_apart_holds : PySem.Challenge.rw_causehall_k51_refusals_apart.Holds := by
  w_on; o_law
  refine HandSHeadRun.head_any (r := OpenLaw.row PySem.Challenge.rw_causehall_k51_refusals_apart) (q := view (OpenLaw.row PySem.Challenge.rw_causehall_k51_refusals_apart).prog [44]) (H := Hd.hookE) (ob := Hd.ob) (M := 8000)
    (loose := Hd.loose) (d := HandSHeadRun.topDef (OpenLaw.row PySem.Challenge.rw_causehall_k51_refusals_apart).prog 44) (kwd := []) Hd.ob_eq
    (by kernel_rfl) (fun s => by kernel_rfl) Hd.run (by kernel_rfl) (by kernel_rfl) (by kernel_rfl) (by rfl) (by first | assumption | decide +kernel) (by decide +kernel) ⟨rfl, rfl, rfl, rfl, rfl, by decide +kernel⟩ ?hw ?hc
  case hw => w_witness2
  case hc =>
    refine L2.walk_ofE (l := PySem.Challenge.rw_causehall_k51_refusals_apart) (n := 63) (k := 5) (x := "script") (CX := L2.CX0) rfl (by decide) (by kernel_rfl) ⟨rfl, by decide, by decide⟩ ?F (fun _ _ _ _ z => z)
    intro w mg fa h Y G hmg0
    obtain ⟨K, KX, c, e⟩ := Y
    have hmg : mg ("law" : PySem.Str) = some (.ref fa) := by
      have e : (HandSHeadRun.topDef (OpenLaw.row PySem.Challenge.rw_causehall_k51_refusals_apart).prog 44).name = ("law" : PySem.Str) := by kernel_rfl
      rw [← e]
      exact hmg0
    obtain ⟨fd, hb, hF⟩ := Hd.facts (P := (PySem.Challenge.rw_causehall_k51_refusals_apart).prog) (w := w) KX G hmg c e
    exact ⟨K, fd, Hd.spLaw K, KX, hb, fun H a ns hl _ hS => ⟨a, ns, rfl, hS, hl, fun _ => rfl⟩, hF⟩
