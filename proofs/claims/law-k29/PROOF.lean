import PyProof.Rows.All
import Wide.All
import OpenK.AllK
import Wide.FinOn
import HandS.ForMost
import HandS.ForExc
import HandS.ExcInit
import KE.KExcInit
import KE.KExcIs
import PyProof.Rows.FactsExc_KeyError
import HandS.IsInst
import HandS.Defaults
import HandS.Head0
import HandS.Head1
import HandS.Head2
import HandS.HeadEnd
import HandS.HeadHook1
import HandS.HeadHook2
import HandS.Zip
import HandS.Style
import HandS.Flow
import HandS.FStr
import HandS.Walk
import PySem.Challenge.RW_scopetables_k29_errors_made
import HandS.More
import PyProof.ReprLen
set_option Elab.async false
set_option linter.all false
set_option maxRecDepth 100000
set_option maxHeartbeats 4000000
/-! Own exception classes over any built-in class, with a walked __init__, held as values. -/
namespace PySem
namespace XE1
open PySem.W PySem.Calls PyProof.Rows PySem.HandSPX

/-- what a call of X.__init__ leans on -/
structure InitF (B initId : String) : Prop where
  kind : builtinKind initId = some .slot
  split : splitId initId = some (B, "__init__")
  row : Manifest.signature? initId = some ⟨.positional, "*", B, .self, [⟨"args", .varPos, false⟩]⟩
  star : (B != "*") = true
  plain : plainId initId = true
  entry : entryFor table initId = some Builtin.«BaseException.__init__»
theorem InitF.base {B n i : String} {bm : List Value} (F : ExcBaseFacts B n i bm) : InitF B i :=
  ⟨F.initKind, F.initSplit, F.initRow, F.noStar, F.init.plain, F.initEntry⟩
theorem initF_Key : InitF "KeyError" "KeyError.__init__" :=
  let F := excClass_KeyError
  ⟨F.initKind, F.initSplit, F.initSig, F.notStar, F.init.plain, F.initEntry⟩

section
variable {M : Model} {A : Around} {E : Value → Shared → Prop} {h : Heap} {g : Array GenState} {d : Drawn} {t : Nat} {os : OsState}
variable {nm q : Str} {C N : Addr} {bs bm bmB : List Value} {hdct : Bool} {sn : List Str} {sub : List Value} {ab : Bool} {col : Option Bool} {dd : Option Addr} {k0 k1 k2 k3 k5 : Option Value} {B newId initId : String}

theorem check_newG (F : ExcBaseFacts B newId initId bmB) (hB : bm.contains (.type B) = true) {rest : List Value} {Q : Unit → Shared → Prop}
    (hC : h.get? C = some (excClassObj nm q C N bs bm hdct sn sub ab col dd k0 k1 k2 k3 k5 newId)) (hq : Q () ⟨h, g, d, t, os⟩) : wpAny M A (checkBuiltinCall newId ⟨.ref C :: rest, []⟩) Q E ⟨h, g, d, t, os⟩ := by
  have hc : (Value.ref C :: bm).contains (.type B) = true := by rw [List.contains_cons, hB, Bool.or_true]
  have hs := F.noStar
  simp only [checkBuiltinCall, F.newKind, F.newSplit, F.newRow]
  repeat (first
    | refine wpAny_loadPart_at hC ?_
    | (refine wpAny_isSubtype_exc hC ?_; rw [hc])
    | refine wpAny_staticBase_exc hC ?_
    | refine wpAny_madeBy_exc hC ?_
    | simp only [bne_self_eq_false, Bool.false_eq_true, if_false]
    | wp_step)
  exact hq
theorem check_initG (F : InitF B initId) (hB : bm.contains (.type B) = true) {e : Addr} {oe : Obj} {rest : List Value} {Q : Unit → Shared → Prop}
    (hC : h.get? C = some (excClassObj nm q C N bs bm hdct sn sub ab col dd k0 k1 k2 k3 k5 newId)) (he : h.get? e = some oe) (hcls : oe.cls = .ref C) (hq : Q () ⟨h, g, d, t, os⟩) :
    wpAny M A (checkBuiltinCall initId ⟨.ref e :: rest, []⟩) Q E ⟨h, g, d, t, os⟩ := by
  have hc : (Value.ref C :: bm).contains (.type B) = true := by rw [List.contains_cons, hB, Bool.or_true]
  have hs := F.star
  simp only [checkBuiltinCall, F.kind, F.split, F.row]
  repeat (first
    | (with_reducible refine wpAny_loadPart_at he ?_; rw [hcls])
    | with_reducible refine wpAny_loadPart_at hC ?_
    | (with_reducible refine wpAny_isSubtype_exc hC ?_; rw [hc])
    | wp_step)
  refine wpAny_onRaise ?_
  have hch : ∀ (a b : String) (n : Nat), Bind.check ⟨.positional, "*", B, .self, [⟨"args", .varPos, false⟩]⟩ a b n (List.map (fun x => x.fst) ({ pos := Value.ref e :: rest } : Args).kw) = pure () :=
    fun a b n => check_star_args _ _ _ _ _ _
  rw [hch]
  exact wpAny_pure hq
end
section
variable {prog : Program} {w : World} {A : Around} {E : Value → Shared → Prop} {R : Result → Shared → Prop} {h : Heap} {g : Array GenState} {d : Drawn} {t : Nat} {os : OsState}
variable {nm q : Str} {C N : Addr} {bs bm bmB : List Value} {hdct : Bool} {sn : List Str} {sub : List Value} {ab : Bool} {col : Option Bool} {dd : Option Addr} {k0 k1 k2 k3 k5 : Option Value} {B newId initId : String}

theorem new_ownG (F : ExcBaseFacts B newId initId bmB) (hB : bm.contains (.type B) = true) (hA : bm.contains (.type "AttributeError") = false) (hN : bm.contains (.type "NameError") = false) {rest : List Value}
    (hC : h.get? C = some (excClassObj nm q C N bs bm hdct sn sub ab col dd k0 k1 k2 k3 k5 newId))
    (hq : R (.ok (.ret (.ref (h.objs.size + 1)))) ⟨(h.push (W.kdv_tup rest)).push (excO C h.objs.size), g, d, t, os⟩) (hrest : rest.length ≤ sizeLine) :
    codeAny (model prog w) A (.builtin newId ⟨.ref C :: rest, []⟩) R ⟨h, g, d, t, os⟩ := by
  have he := F.ends
  have hb : (Value.ref C :: bm).contains (.type B) = true := by rw [List.contains_cons, hB, Bool.or_true]
  have ha : (Value.ref C :: bm).contains (.type "AttributeError") = false := by rw [List.contains_cons, hA]; rfl
  have hn : (Value.ref C :: bm).contains (.type "NameError") = false := by rw [List.contains_cons, hN]; rfl
  refine codeAny_builtinAt F.entry ?_
  unfold Builtin.«BaseException.__new__»
  refine wpAt_bind ?_
  show wpAt _ _ _ (stack >>= _) _ _ _
  refine wpAt_bind (wpAt_stack fun p below => wpAt_of_wpAny ?_)
  wp_walk
  refine wpAt_of_wpAny ?_
  rw [F.owner]
  repeat (first
    | with_reducible refine wpAny_madeHere_exc F.canon hC ?_
    | with_reducible refine wpAny_loadPart_at hC ?_
    | (with_reducible refine wpAny_isSubtype_exc hC ?_; first | rw [hb] | rw [ha] | rw [hn])
    | wp_step)
  show R _ _
  rw [Heap.size_push]
  exact hq

theorem type_callG (F : ExcBaseFacts B newId initId bmB) (hB : bm.contains (.type B) = true) (hA : bm.contains (.type "AttributeError") = false) (hN : bm.contains (.type "NameError") = false) {rest : List Value} {fI : Addr} {Q : Fin → Shared → Prop}
    (hC : h.get? C = some (excClassObj nm q C N bs bm hdct sn sub ab col dd k0 k1 k2 k3 k5 newId))
    (hi : W.Looks (model prog w) h (typeLookup (.ref C) "__init__") (some (.ref fI))) (hb : ∀ self, W.Looks (model prog w) h (bindSpecial (.ref fI) self) (.ref fI, [self])) (hrest : rest.length ≤ sizeLine)
    (hq : codeAny (model prog w) A (.call (.ref fI) ⟨.ref (h.objs.size + 1) :: rest, []⟩)
      (fun r s' => match r with | .ok (.ret v) => v = .none ∧ Q (.done (.ret (.ref (h.objs.size + 1)))) s' | .ok _ => False | .error e => E e s')
      ⟨(h.push (W.kdv_tup rest)).push (excO C h.objs.size), g, d, t, os⟩) :
    wpAny (model prog w) A (Builtin.«type.__call__» ⟨.ref C :: rest, []⟩) Q E ⟨h, g, d, t, os⟩ := by
  repeat (first
    | with_reducible refine wpAny_loadPart_at hC ?_
    | with_reducible refine wpAny_madeBy_exc hC ?_
    | wp_step)
  refine codeAny_call_builtin_code (Code.quiet_builtin _ F.quiet) (check_newG F hB hC ?_)
  refine new_ownG F hB hA hN hC ?_ hrest
  show wpAny _ _ _ _ _ _
  have k : ∀ b o, h.get? b = some o → ((h.push (W.kdv_tup rest)).push (excO C h.objs.size)).get? b = some o := fun b o e => Heap.get?_push_of_some _ (Heap.get?_push_of_some _ e)
  have hC1 := k _ _ hC
  have hx : ((h.push (W.kdv_tup rest)).push (excO C h.objs.size)).get? (h.objs.size + 1) = some (excO C h.objs.size) := by heap_get
  have hcC : (Value.ref C :: bm).contains (.ref C) = true := by simp
  have i1 := hi.keeps k
  have b1 := (hb (.ref (h.objs.size + 1))).keeps k
  unfold isInstance
  repeat (first
    | with_reducible refine wpAny_loadPart_at hx ?_
    | (with_reducible refine wpAny_isSubtype_exc hC1 ?_; rw [hcC])
    | wp_step)
  show wpAny _ _ (typeLookup (.ref C) _) _ _ _
  refine i1.at ?_
  refine wpAny_holding (wpAny_bind (b1.at ?_))
  refine wpAny_bind (wpAny_call (codeAny_mono hq fun r s' z => ?_))
  rcases r with e | (v | _ | _ | _) <;> first | exact z | exact z.elim | skip
  obtain ⟨rfl, z⟩ := z
  first
    | exact wpAny_pure (wpAny_pure z)
    | (wp_walk; exact z)

theorem call_ownG (F : ExcBaseFacts B newId initId bmB) (hB : bm.contains (.type B) = true) (hA : bm.contains (.type "AttributeError") = false) (hN : bm.contains (.type "NameError") = false) {rest : List Value} {fI : Addr}
    (hC : h.get? C = some (excClassObj nm q C N bs bm hdct sn sub ab col dd k0 k1 k2 k3 k5 newId))
    (hi : W.Looks (model prog w) h (typeLookup (.ref C) "__init__") (some (.ref fI))) (hb : ∀ self, W.Looks (model prog w) h (bindSpecial (.ref fI) self) (.ref fI, [self])) (hrest : rest.length ≤ sizeLine)
    (hq : codeAny (model prog w) (A.under (.builtin "type.__call__" ⟨.ref C :: rest, []⟩)) (.call (.ref fI) ⟨.ref (h.objs.size + 1) :: rest, []⟩) (W.InitBack (h.objs.size + 1) R)
      ⟨(h.push (W.kdv_tup rest)).push (excO C h.objs.size), g, d, t, os⟩) :
    codeAny (model prog w) A (.call (.ref C) ⟨rest, []⟩) R ⟨h, g, d, t, os⟩ := by
  have f1 := tc_lookup
  have f2 := tc_bind (.ref C)
  have hTy : (⟨h, g, d, t, os⟩ : Shared).TypeIs (.ref C) "type" := ⟨_, hC, rfl⟩
  refine codeAny_of_tree ?_
  show wpAny _ _ (callAny (.ref C) _) _ _ _
  repeat (any_goals (first | assumption | with_reducible refine wpAny_loadPart_at hC ?_ | wp_step))
  refine ⟨rfl, ?_⟩
  refine codeAny_call_builtin_at (Code.quiet_builtin _ (by decide +kernel)) entry_typeCall (wpAny_check_type_call_sub hC (type_callG F hB hA hN hC hi hb hrest ?_))
  refine codeAny_mono hq fun r s' z => ?_
  rcases r with e | (v | _ | _ | _) <;> exact z

/-- B.__init__(e, ..) -/
theorem init_baseG (F : InitF B initId) (hB : bm.contains (.type B) = true) {e t0 : Addr} {rest : List Value}
    (hC : h.get? C = some (excClassObj nm q C N bs bm hdct sn sub ab col dd k0 k1 k2 k3 k5 newId)) (he : h.get? e = some (excO C t0)) (hrest : rest.length ≤ sizeLine)
    (hq : ∀ h' t1, (∀ b o, b ≠ e → h.get? b = some o → h'.get? b = some o) → h'.get? e = some (excO C t1) → R (.ok (.ret .none)) ⟨h', g, d, t, os⟩) :
    codeAny (model prog w) A (.call (.builtin initId) ⟨.ref e :: rest, []⟩) R ⟨h, g, d, t, os⟩ := by
  refine codeAny_call_builtin F.plain F.entry (check_initG F hB hC he rfl ?_)
  wp_walk
  refine hq _ h.objs.size (fun b o hb ho => ?_) ?_
  · rw [Heap.get?_update_other _ _ (Ne.symm hb)]
    exact Heap.get?_push_of_some _ ho
  · rw [Heap.get?_update_self _ (Heap.get?_push_of_some _ he) rfl]
    rfl
end
namespace F
open PySem.F
theorem store_KeyError : StoreFacts "KeyError" [.type "KeyError", .type "LookupError", .type "Exception", .type "BaseException", .type "object"] "object.__setattr__" "object" where
  mro := by kernel_rfl
  slot := .of (owner := "object") (n := "__setattr__") (by rw [typeLookup_type, builtinLookup_eq_fast]; kernel_rfl) (by decide +kernel) (by decide +kernel) (by decide +kernel)
    (by first | exact .inl (by decide +kernel) | exact .inr (by decide +kernel)) (by rw [isSubtype_type]; kernel_rfl)
  entry := entry_object_sa
  kind := by decide +kernel
  split := by decide +kernel
  hasOwner := by decide +kernel
  args := fun a b c => by unfold argsOk; kernel_rfl
  passes := fun self => by kernel_rfl
end F
end XE1
end PySem

set_option Elab.async false
set_option linter.all false
set_option maxRecDepth 100000
set_option maxHeartbeats 4000000
/-! Rules: self.f = e in an exception's __init__, Base.__init__(self, ..), C(..) as a value, x.f, isinstance(x, C), repr of data. -/
namespace PySem
namespace XE1
open PySem.W PySem.Calls PyProof.Rows PySem.HandSPX
section
open Builtin Builtin.ObjectAttr
variable {prog : Program} {w : World} {A : Around} {E : Value → Shared → Prop} {R : Result → Shared → Prop} {hp : Heap} {g : Array GenState} {d : Drawn} {t : Nat} {os : OsState} {K : W.Frag} {name : Str} {tk : Tok} {v : Value} {x C : Addr} {fv : Array Value} {cd : ClassData} {B : String} {tail : List Value}
theorem set_newG (SF : StoreFacts B tail "object.__setattr__" "object") (X : K.In hp) (hx : hp.get? x = some { cls := .ref C, data := .fields fv }) (hcd : W.clsIn K C = some cd) (ho : excOver K C tail = true) (hh : cd.hasDict = true) (ha : W.findIn K (.ref C) name = some none)
    (hq : ∀ h' tk' dx, (∀ b o, b ≠ x → hp.get? b = some o → h'.get? b = some o) → hp.objs.size ≤ dx → dx ≠ x → h'.get? x = some { cls := .ref C, dict := some dx, data := .fields fv } →
      h'.Ns1 dx (fun y => if y = name then some v else none) → R (.ok (.ret .none)) ⟨h', g, d, tk', os⟩) :
    codeAny (model prog w) A (.call (.builtin "object.__setattr__") ⟨[.ref x, .str name tk, v], []⟩) R ⟨hp, g, d, t, os⟩ := by
  have I : W.InstAt hp x { cls := .ref C, data := .fields fv } C none := ⟨hx, rfl, rfl, trivial⟩
  have hxs : x ≠ hp.objs.size := Nat.ne_of_lt (Heap.lt_size hx)
  refine osa_openX (s := ⟨hp, g, d, t, os⟩) SF X I ho (L2.NoAttr.taker ha) fun b => ?_
  show wpAny _ _ (storeInOwnDict (.ref x) (.ref C) (.str name tk) name v b) _ _ _
  have hcls : W.Looks (model prog w) hp (classData C) cd := W.looks_clsIn X hcd
  obtain ⟨nm, bs, mro, ns, qn, hd, sn, sb, ab, col, del⟩ := cd
  dsimp only at hh
  subst hh
  unfold storeInOwnDict ownDictForStores
  repeat (first
    | with_reducible refine HandSPX.store_in_new ?_ ?_
    | with_reducible refine wpAny_loadPart_at hx ?_
    | with_reducible refine hcls.at ?_
    | wp_step)
  · exact ⟨_, #[], _, (Heap.get?_update_ne _ _ _ _ hxs.symm).trans (Heap.get?_push_at rfl rfl), rfl, fun e he => absurd he (by simp), fun _ => rfl⟩
  · intro h' tk' hn' hs
    have hx1 : (hp.push { cls := .type "dict", data := .dict #[] }).get? x = some { cls := .ref C, data := .fields fv } := Heap.get?_push_of_some _ hx
    refine hq h' tk' hp.objs.size (fun b o hb ho => ?_) (Nat.le_refl _) hxs.symm ?_ hn'
    · exact (hs.2 b (Nat.ne_of_lt (Heap.lt_size ho))).trans ((Heap.get?_update_ne _ _ _ _ hb).trans (Heap.get?_push_of_some _ ho))
    · exact (hs.2 x hxs).trans (Heap.get?_update_self _ hx1 rfl)
theorem set_oldG {dx : Addr} {m0 : Str → Option Value} {nl : List Str} (SF : StoreFacts B tail "object.__setattr__" "object") (X : K.In hp) (hx : hp.get? x = some { cls := .ref C, dict := some dx, data := .fields fv }) (hns : hp.Ns1 dx m0) (hw : Within m0 nl) (hz : nl.length ≤ 1000)
    (hcd : W.clsIn K C = some cd) (ho : excOver K C tail = true) (hh : cd.hasDict = true) (ha : W.findIn K (.ref C) name = some none)
    (hq : ∀ h' tk', (∀ b o, b ≠ dx → hp.get? b = some o → h'.get? b = some o) → h'.Ns1 dx (fun y => if y = name then some v else m0 y) → R (.ok (.ret .none)) ⟨h', g, d, tk', os⟩) :
    codeAny (model prog w) A (.call (.builtin "object.__setattr__") ⟨[.ref x, .str name tk, v], []⟩) R ⟨hp, g, d, t, os⟩ := by
  obtain ⟨oD, esD, epD, hoD, hdD, _⟩ := hns.count hw
  have I : W.InstAt hp x { cls := .ref C, dict := some dx, data := .fields fv } C (some oD) := ⟨hx, rfl, rfl, hoD⟩
  refine osa_openX (s := ⟨hp, g, d, t, os⟩) SF X I ho (L2.NoAttr.taker ha) fun b => ?_
  show wpAny _ _ (storeInOwnDict (.ref x) (.ref C) (.str name tk) name v b) _ _ _
  have hcls : W.Looks (model prog w) hp (classData C) cd := W.looks_clsIn X hcd
  obtain ⟨nm, bs, mro, ns, qn, hd, sn, sb, ab, col, del⟩ := cd
  dsimp only at hh
  subst hh
  unfold storeInOwnDict ownDictForStores
  repeat (first
    | with_reducible refine PySem.OEX.store_in_old hns hw hz ?_
    | with_reducible refine wpAny_loadPart_at hx ?_
    | with_reducible refine hcls.at ?_
    | wp_step)
  intro h' tk' hn' hs
  exact hq h' tk' (fun b o hb ho => (hs.2 b hb).trans ho) hn'
end
end XE1
end PySem
namespace L2
open PySem PySem.Spec PyProof.Rows PySem.XE1
/-- what is known of a tail of built-in classes and of the maker newId -/
structure TailF (tail : List Value) (newId : String) : Prop where
  st : ∃ B, StoreFacts B tail "object.__setattr__" "object"
  mkr : ∃ B initId bmB, ExcBaseFacts B newId initId bmB ∧ tail.contains (.type B) = true
  nA : tail.contains (.type "AttributeError") = false
  nN : tail.contains (.type "NameError") = false
abbrev tlV : List Value := [.type "ValueError", .type "Exception", .type "BaseException", .type "object"]
abbrev tlL : List Value := [.type "LookupError", .type "Exception", .type "BaseException", .type "object"]
abbrev tlK : List Value := [.type "KeyError", .type "LookupError", .type "Exception", .type "BaseException", .type "object"]
abbrev tlI : List Value := [.type "IndexError", .type "LookupError", .type "Exception", .type "BaseException", .type "object"]
abbrev tlR : List Value := [.type "RuntimeError", .type "Exception", .type "BaseException", .type "object"]
abbrev tlO : List Value := [.type "OverflowError", .type "ArithmeticError", .type "Exception", .type "BaseException", .type "object"]
theorem tfV : TailF tlV "ValueError.__new__" := ⟨⟨_, PySem.F.store_ValueError⟩, ⟨_, _, _, PySem.F.excBase_ValueError, by decide +kernel⟩, by decide +kernel, by decide +kernel⟩
theorem tfL : TailF tlL "LookupError.__new__" := ⟨⟨_, PySem.F.store_LookupError⟩, ⟨_, _, _, PySem.F.excBase_LookupError, by decide +kernel⟩, by decide +kernel, by decide +kernel⟩
theorem tfK : TailF tlK "LookupError.__new__" := ⟨⟨_, PySem.XE1.F.store_KeyError⟩, ⟨_, _, _, PySem.F.excBase_LookupError, by decide +kernel⟩, by decide +kernel, by decide +kernel⟩
theorem tfI : TailF tlI "IndexError.__new__" := ⟨⟨_, PySem.F.store_IndexError⟩, ⟨_, _, _, PySem.F.excBase_IndexError, by decide +kernel⟩, by decide +kernel, by decide +kernel⟩
theorem tfR : TailF tlR "RuntimeError.__new__" := ⟨⟨_, PySem.F.store_RuntimeError⟩, ⟨_, _, _, PySem.F.excBase_RuntimeError, by decide +kernel⟩, by decide +kernel, by decide +kernel⟩
theorem tfO : TailF tlO "OverflowError.__new__" := ⟨⟨_, PySem.F.store_OverflowError⟩, ⟨_, _, _, PySem.F.excBase_OverflowError, by decide +kernel⟩, by decide +kernel, by decide +kernel⟩

/-- what the written part says of an own exception class -/
structure ECl (K : PySem.W.Frag) (C : Addr) (tail : List Value) (newId : String) : Prop where
  tf : TailF tail newId
  cls : ∃ nm q N bs bm sn sub ab col dd k0 k1 k2 k3 k5, K.lookup C = some (excClassObj nm q C N bs bm true sn sub ab col dd k0 k1 k2 k3 k5 newId) ∧ PySem.W.excTail tail bm = true
  over : PySem.W.excOver K C tail = true
  sa : PySem.W.findIn K (.ref C) "__setattr__" = some (some (.builtin "object.__setattr__"))
  ga : PySem.W.findIn K (.ref C) "__getattribute__" = some (some (.builtin "BaseException.__getattribute__"))
  gg : PySem.W.findIn K (.ref C) "__getattr__" = some none
  exC : PySem.W.subIn K (.ref C) (.type "BaseException") = some true
  tyC : PySem.W.typeIn K (.ref C) = some (.type "type")
  kC : PySem.W.keepIn K (.ref C) = true
  hd : PySem.W.hasDictIn K C = true
  ca : PySem.W.findIn K (.ref C) "__class__" = some (some (.builtin "object.__class__"))
  cn : PySem.W.specialIn K (.builtin "object.__class__") "__get__" = some (some (.builtin "getset_descriptor.__get__"))
  ct : PySem.W.takesIn K (.builtin "object.__class__") = some true
  cm : PySem.W.mroIn K C (.type "object") = some true

section
variable {X : Cx} {pins : List (Addr × Obj)} {σ : St} {H : Hp} {s : Shared} {a C dx : Addr} {f : Str} {y : V} {u : Value} {fs : List (Str × V)} {Q : Unit → Shared → Prop} {E : Value → Shared → Prop} {A : Around} {tail : List Value} {newId : String}
/-- self.f = y, the first one -/
theorem est_new (T : ECl X.K C tail newId) (I : Inv X pins σ H s) (e : H a = some (exo a C none)) (hno : PySem.W.findIn X.K (.ref C) f = some none) (ry : RelV y u)
    (h : ∀ dx s', H dx = none → dx ≠ a → Inv X pins σ (upd (upd H dx (exd dx [(f, y)])) a (exo a C (some dx))) s' → Q () s') : wpAny (model X.prog X.w) A (setAttr (.ref a) f u) Q E s := by
  obtain ⟨nm, q, N, bs, bm, sn, sub, ab, col, dd, k0, k1, k2, k3, k5, hC, hbm⟩ := T.cls
  obtain ⟨B, SF⟩ := T.tf.st
  have hcl : PySem.W.clsIn X.K C = some { name := nm, bases := bs, mro := .ref C :: bm, ns := N, qualname := q, hasDict := true, slotNames := sn, subclasses := sub, abstract := ab, collection := col, hasDel := false } := by unfold PySem.W.clsIn; rw [hC] <;> rfl
  obtain ⟨t1, ho⟩ := exo_at I.hok e
  obtain ⟨hp, g, d, t, os⟩ := s
  refine PySem.W.set_plain I.kIn (ox := { cls := .ref C, dict := none, data := .fields #[.ref t1, .none, .none, .none, .bool false, .none] }) (od := none) ⟨ho, rfl, rfl, trivial⟩ T.sa ?_
  refine set_newG SF I.kIn ho hcl T.over rfl hno (fun h' tk' dx k dn dne hx hn => ?_)
  have hnd : H dx = none := I.hok.fresh dn
  have nd : ∀ {b : Addr} {o : Obj}, hp.get? b = some o → b ≠ dx := fun {b o} q => Nat.ne_of_lt (Nat.lt_of_lt_of_le (Heap.lt_size q) dn)
  have na : ∀ {b : Addr}, H b = none → b ≠ a := fun {b} n z => by
    rw [z, e] at n
    cases n
  have U1 : Un X.fs [] H (upd (upd H dx (exd dx [(f, y)])) a (exo a C (some dx))) hp h' := {
    keep := fun b o q n _ _ => k b o (na n) q
    slot := fun b o q n _ _ => ⟨o.slots, k b o (na n) q⟩
    free := fun b o q n _ => by rw [upd_ne (na n), upd_ne (nd q)]; exact n
    there := fun b o q _ => by
      by_cases hb : b = a
      · exact ⟨_, by rw [hb]; exact hx⟩
      · exact ⟨o, k b o hb q⟩
    tups := fun b xs q => by rw [upd_ne (at_ne e q exo_tup), upd_ne (ne_of_none q hnd)]; exact q
    frzs := fun b o v q => by rw [upd_ne (at_ne e q exo_frz), upd_ne (ne_of_none q hnd)]; exact q
    tbls := fun b ps q => ⟨#[], by rw [upd_ne (at_ne e q exo_tbl), upd_ne (ne_of_none q hnd), q]; simp⟩ }
  refine h dx _ hnd dne (I.un (t' := tk') U1 fun b o q => ?_)
  by_cases hb : b = a
  · subst hb
    rw [upd_same] at q
    cases q
    exact exo_ok hx
  · rw [upd_ne hb] at q
    by_cases hd : b = dx
    · subst hd
      rw [upd_same] at q
      cases q
      exact exd_ok hn (relO_put (fs := []) ry fun g => True.intro)
    · rw [upd_ne hd] at q
      refine (I.hok b o q).stay (fun c v hc z => k c v ?_ z)
        (fun c hc => by rw [upd_ne (at_ne e hc exo_own), upd_ne (ne_of_none hc hnd)]; exact hc) (fun c xs hc => by rw [upd_ne (at_ne e hc exo_tup), upd_ne (ne_of_none hc hnd)]; exact hc)
      rcases hc with hc | hc
      · rw [hc]
        exact hb
      · exact at_ne e hc exo_own
/-- self.f = y, a further one -/
theorem est_old (T : ECl X.K C tail newId) (I : Inv X pins σ H s) (e : H a = some (exo a C (some dx))) (ed : H dx = some (exd dx fs)) (hl : fs.length ≤ 900) (hno : PySem.W.findIn X.K (.ref C) f = some none) (ry : RelV y u)
    (h : ∀ s', Inv X pins σ (upd H dx (exd dx ((f, y) :: fs))) s' → Q () s') : wpAny (model X.prog X.w) A (setAttr (.ref a) f u) Q E s := by
  obtain ⟨nm, q, N, bs, bm, sn, sub, ab, col, dd, k0, k1, k2, k3, k5, hC, hbm⟩ := T.cls
  obtain ⟨B, SF⟩ := T.tf.st
  have hcl : PySem.W.clsIn X.K C = some { name := nm, bases := bs, mro := .ref C :: bm, ns := N, qualname := q, hasDict := true, slotNames := sn, subclasses := sub, abstract := ab, collection := col, hasDel := false } := by unfold PySem.W.clsIn; rw [hC] <;> rfl
  obtain ⟨t1, ho⟩ := exo_at I.hok e
  obtain ⟨mA, hns, rel⟩ := exd_at I.hok ed
  have hw := within_of rel
  obtain ⟨hp, g, d, t, os⟩ := s
  obtain ⟨oD, _, _, hoD, _, _⟩ := hns.count hw
  refine PySem.W.set_plain I.kIn (ox := { cls := .ref C, dict := some dx, data := .fields #[.ref t1, .none, .none, .none, .bool false, .none] }) (od := some oD) ⟨ho, rfl, rfl, hoD⟩ T.sa ?_
  refine set_oldG SF I.kIn ho hns hw (by rw [List.length_map]; omega) hcl T.over rfl hno (fun h' tk' k hn => ?_)
  have hd : ∃ o, h'.get? dx = some o := by
    obtain ⟨o, _, _, e', _⟩ := hn
    exact ⟨o, e'⟩
  exact h _ (I.write (t' := tk') (x := dx) (e := dx) (o := exd dx ((f, y) :: fs)) (by rw [ed]; exact True.intro) (.inl rfl) k hd (exd_ok hn (relO_put ry rel)))
/-- B.__init__(self, ..): nothing of it is told -/
theorem einit_ok {us : List Value} {B initId : String} {Q : Value → Shared → Prop} (F : InitF B initId) (T : ECl X.K C tail newId) (hB : tail.contains (.type B) = true) (I : Inv X pins σ H s) (e : H a = some (exo a C none)) (hl : us.length ≤ sizeLine) (h : ∀ s', Inv X pins σ H s' → Q .none s') :
    wpAny (model X.prog X.w) A (call (.builtin initId) (.ref a :: us)) Q E s := by
  obtain ⟨nm, q, N, bs, bm, sn, sub, ab, col, dd, k0, k1, k2, k3, k5, hC, hbm⟩ := T.cls
  obtain ⟨t1, ho⟩ := exo_at I.hok e
  obtain ⟨hp, g, d, t, os⟩ := s
  refine wpAny_call (init_baseG F ((PySem.W.excTail_contains B bm hbm).trans hB) (I.kIn _ _ hC) ho hl fun h' t2 k hx => ?_)
  have J := I.write (t' := t) (x := a) (e := a) (o := exo a C none) (by rw [e]; exact True.intro) (.inl rfl) k ⟨_, hx⟩ (exo_ok hx)
  have eu : upd H a (exo a C none) = H := by
    funext b
    by_cases hb : b = a
    · rw [hb, upd_same, e]
    · rw [upd_ne hb]
  rw [eu] at J
  exact h _ J
end

/-- B.__init__(self, ..) -/
def tBI (K : PySem.W.Frag) (B : String) (ta : TA) : TE := fun σ H Q => ta σ H fun vs H1 => ∃ (a C : Addr) (ws : List V) (tail : List Value) (newId : String), vs = .ref a :: ws ∧ ws.length ≤ 1000 ∧ ECl K C tail newId ∧ tail.contains (.type B) = true ∧ H1 a = some (exo a C none) ∧ Q .non H1
/-- self.f = e -/
def tEst (K : PySem.W.Frag) (f : Str) (to te : TE) : TS := fun D σ H => te σ H fun y H1 => to σ H1 fun x H2 => ∃ (a C : Addr) (tail : List Value) (newId : String), x = .ref a ∧ ECl K C tail newId ∧ PySem.W.findIn K (.ref C) f = some none ∧
  ((H2 a = some (exo a C none) ∧ ∀ dx, H2 dx = none → dx ≠ a → D.nx σ (upd (upd H2 dx (exd dx [(f, y)])) a (exo a C (some dx)))) ∨
    ∃ (dx : Addr) (fs : List (Str × V)), H2 a = some (exo a C (some dx)) ∧ H2 dx = some (exd dx fs) ∧ fs.length ≤ 900 ∧ D.nx σ (upd H2 dx (exd dx ((f, y) :: fs))))
/-- C(e, ..) as a value, C's own __init__ keeping sp -/
def tMkE (sp : Sp) (ta : TA) (C : Addr) : TE := fun σ H Q => ta σ H fun vs H1 => vs.length ≤ 1000 ∧ ∀ a, H1 a = none → sp (.ref a :: vs) (upd H1 a (exo a C none))
  (fun v H2 => v = .non ∧ Q (.ref a) H2) (fun _ _ _ => False)
/-- x.f, x an exception with its dict -/
def tEfl (K : PySem.W.Frag) (te : TE) (f : Str) : TE := fun σ H Q => te σ H fun x H1 => ∃ (a C d : Addr) (fs : List (Str × V)) (v : V) (tail : List Value) (newId : String), x = .ref a ∧ ECl K C tail newId ∧ PySem.W.findIn K (.ref C) f = some none ∧
  H1 a = some (exo a C (some d)) ∧ H1 d = some (exd d fs) ∧ fs.lookup f = some v ∧ Q v H1
section
variable {X : Cx} {o e : Expr} {es : List Expr} {to te : TE} {ta : TA} {f x : Str} {p p' p1 p2 pos : Pos} {B initId : String}
theorem run_init {us : List Value} {pins : List (Addr × Obj)} {s : Shared} {σ : St} {H : Hp} {Q : VK} (F : InitF B initId) (ha : PA X (e :: es) ta) (I : Inv X pins σ H s) (h : tBI X.K B ta σ H Q)
    (he : starEach (e :: es) X.env = (false, eval e X.env) :: starEach es X.env) (hpl : (backTo pos (starEach es X.env)).any (·.1) = false) :
    wpAny (model X.prog X.w) X.A (callWith pos (Value.builtin initId) [] (backTo pos (starEach (e :: es) X.env)) []) (EP X pins σ Q) X.xe s := by
  refine PyProof.Rows.callWith_method1 (thn (ha.run pos pins _ σ H _ I h) fun us s1 ⟨vs, H1, I1, r1, a, C, ws, tail, newId, ev, hl, T, hB, ea, q⟩ => ?_) he hpl
  subst ev
  cases r1 with
  | @cons _ u0 _ ur ra rw' =>
    obtain rfl : u0 = Value.ref a := ra
    have hlen : ur.length ≤ sizeLine := by
      rw [← Paired.length rw', sizeLine_eq]
      omega
    exact einit_ok F T hB I1 ea hlen fun s' J => ⟨.non, H1, J, rfl, q⟩
/-- B a built-in class, by its name -/
theorem pe_binitB {pl : Sem Bool} (F : InitF B initId) (hg : Gl X x) (hm : X.mg x = none) (hv : bootBuiltins x = some (.type B)) (ht : typeOf (.type B) = pure (.type "type")) (hst : Manifest.isStub B = false) (vV : PySem.W.findCls X.K (.type B) (.type "type") "__init__" = some (.val (.builtin initId))) (ha : PA X (e :: es) ta) (hin : PySem.W.handedIn (Value.builtin initId) = true := by decide +kernel)
    (hn : x ≠ "__name__" := by decide) (hdb : (x == ("__debug__" : Str)) = false := by decide)
    (hc : eval (.Call (.Attribute (.Name x p1) "__init__" p2) (e :: es) [] pos) X.env = (do
      let ov ← eval (.Name x p1) X.env
      standAt p2.atName
      let (f, first) ← holding [ov] (getMethod ov "__init__" pl)
      callWith pos f first (backTo pos (starEach (e :: es) X.env)) (backToKw pos (keywordEach [] X.env))) := by rfl)
    (he : starEach (e :: es) X.env = (false, eval e X.env) :: starEach es X.env := by rfl) (hpl : (backTo pos (starEach es X.env)).any (·.1) = false := by rfl) :
    PE X (.Call (.Attribute (.Name x p1) "__init__" p2) (e :: es) [] pos) (tBI X.K B ta) := by
  refine ⟨fun pins s σ H Q I h => ?_⟩
  refine PySem.W.methodCall_KW (ld_blt I hg hm hv ?_ hn hdb) hc
  obtain ⟨m, fr⟩ := I.fr
  refine PySem.W.method_type fr I.ok.mod.kin ht hst vV hin ?_
  show wpAny _ _ (callWith pos (Value.builtin initId) [] (backTo pos (starEach (e :: es) X.env)) []) _ _ _
  exact run_init (us := []) F ha (I.tok _) h he hpl
/-- B.__init__ by the name of an own class -/
theorem pe_binitC {pl : Sem Bool} {T : Addr} (F : InitF B initId) (hg : Gl X x) (hm : X.mg x = some (.ref T)) (hs : PySem.W.specialIn X.K (.ref T) "__getattribute__" = some (some (.builtin "type.__getattribute__"))) (hr : PySem.W.readsIn X.K T (.type "type") = true)
    (vV : PySem.W.findCls X.K (.ref T) (.type "type") "__init__" = some (.val (.builtin initId))) (ha : PA X (e :: es) ta) (hin : PySem.W.handedIn (Value.builtin initId) = true := by decide +kernel)
    (hdb : (x == ("__debug__" : Str)) = false := by decide)
    (hc : eval (.Call (.Attribute (.Name x p1) "__init__" p2) (e :: es) [] pos) X.env = (do
      let ov ← eval (.Name x p1) X.env
      standAt p2.atName
      let (f, first) ← holding [ov] (getMethod ov "__init__" pl)
      callWith pos f first (backTo pos (starEach (e :: es) X.env)) (backToKw pos (keywordEach [] X.env))) := by rfl)
    (he : starEach (e :: es) X.env = (false, eval e X.env) :: starEach es X.env := by rfl) (hpl : (backTo pos (starEach es X.env)).any (·.1) = false := by rfl) :
    PE X (.Call (.Attribute (.Name x p1) "__init__" p2) (e :: es) [] pos) (tBI X.K B ta) := by
  refine ⟨fun pins s σ H Q I h => ?_⟩
  refine PySem.W.methodCall_KW (ld_glob I hg hm ?_ hdb) hc
  refine PySem.W.method_cls I.kIn hs ?_
  refine PySem.W.cls_value I.kIn hr vV hin ?_
  show wpAny _ _ (callWith pos (Value.builtin initId) [] (backTo pos (starEach (e :: es) X.env)) []) _ _ _
  exact run_init (us := []) F ha (I.tok _) h he hpl
theorem ps_est (ho : PE X o to) (he : PE X e te) (hs : swapsWith e (some (.Attribute o f p')) pos.line X.env = pure false := by rfl) : PS X (.Assign [.Attribute o f p'] e pos) (tEst X.K f to te) := by
  refine ⟨fun pins s σ H D I h => ?_⟩
  refine plainObj_wpAny_Assign_Attribute (thn (he.run pins s σ H _ I h) fun v s1 ⟨y, H1, I1, r1, q1⟩ => thn (ho.run pins s1 σ H1 _ I1 q1) fun u s2 ⟨x, H2, I2, r2, a, C, tail, newId, ex, T, hno, q⟩ => ?_) hs
  subst ex
  obtain rfl : u = Value.ref a := r2
  rcases q with ⟨ea, q⟩ | ⟨dx, fs, ea, ed, hl, q⟩
  · exact est_new T I2 ea hno r1 fun dx s' n ne J => ⟨σ, _, J, q dx n ne⟩
  · exact est_old T I2 ea ed hl hno r1 fun s' J => ⟨σ, _, J, q⟩
theorem pe_mkE {CX : CXT} {C fI : Addr} {k : Nat} {fd : FuncData} {ps : List Str} {sp : Sp} {tail : List Value} {newId : String} (T : ECl X.K C tail newId) (iC : PySem.W.findIn X.K (.ref C) "__init__" = some (some (.ref fI))) (tI : PySem.W.typeIn X.K (.ref fI) = some (.type "function"))
    (F1 : FnOk X.prog X.w X.K X.mg X.base CX k fI fd ps sp) (hr : Room (k + 1) X.A) (hb : Binds X.K fd ps []) (hx : Passes CX X (fun _ _ _ => False)) (hg : Gl X x) (hm : X.mg x = some (.ref C)) (ha : PA X (e :: es) ta)
    (hdb : (x == ("__debug__" : Str)) = false := by decide) (he : starEach (e :: es) X.env = (false, eval e X.env) :: starEach es X.env := by rfl) (hpl : (backTo pos (starEach es X.env)).any (·.1) = false := by rfl) :
    PE X (.Call (.Name x p) (e :: es) [] pos) (tMkE sp ta C) := by
  refine ⟨fun pins s σ H Q I h => ?_⟩
  obtain ⟨nm, q, N, bs, bm, sn, sub, ab, col, dd, k0, k1, k2, k3, k5, hC, hbm⟩ := T.cls
  obtain ⟨B, initId, bmB, FB, hB⟩ := T.tf.mkr
  refine wpAny_Call_Name_kw (ld_glob I hg hm ?_ hdb)
  refine PySem.W.callWith_K (h₀ := X.base) I.ok.mod.kin T.kC (thn (ha.run pos pins s σ H _ I h) fun us s1 ⟨vs, H1, I1, r1, hz, q1⟩ => ⟨I1.kIn, ?_⟩) he hpl
  show wpAny _ _ (call (.ref C) us) _ _ _
  obtain ⟨hp, g, dr, tk, os⟩ := s1
  have hsz : hp.objs.size ≤ hp.objs.size + 1 := Nat.le_succ _
  have hn : H1 (hp.objs.size + 1) = none := I1.hok.fresh hsz
  have hq := q1 (hp.objs.size + 1) hn
  have kk : ∀ b o, hp.get? b = some o → ((hp.push (PySem.W.kdv_tup us)).push (PySem.HandSPX.excO C hp.objs.size)).get? b = some o := fun b o e => Heap.get?_push_of_some _ (Heap.get?_push_of_some _ e)
  have hget : ((hp.push (PySem.W.kdv_tup us)).push (PySem.HandSPX.excO C hp.objs.size)).get? (hp.objs.size + 1) = some (PySem.HandSPX.excO C hp.objs.size) := by heap_get
  have I2 : Inv X pins σ (upd H1 (hp.objs.size + 1) (exo (hp.objs.size + 1) C none)) ⟨(hp.push (PySem.W.kdv_tup us)).push (PySem.HandSPX.excO C hp.objs.size), g, dr, tk, os⟩ :=
    I1.laid (t' := tk) (a := hp.objs.size + 1) (o := exo (hp.objs.size + 1) C none) (h' := (hp.push (PySem.W.kdv_tup us)).push (PySem.HandSPX.excO C hp.objs.size)) kk hsz (exo_ok hget)
  have r2 : Vals (V.ref (hp.objs.size + 1) :: vs) (Value.ref (hp.objs.size + 1) :: us) := .cons rfl r1
  have hl : (Value.ref (hp.objs.size + 1) :: us).length = ps.length := by
    have e := r2.length
    rw [F1.len _ _ _ _ hq] at e
    exact e.symm
  have hus : us.length ≤ sizeLine := by
    rw [← Paired.length r1, sizeLine_eq]
    omega
  have hbB := (PySem.W.excTail_contains B bm hbm).trans hB
  have hbA := (PySem.W.excTail_contains "AttributeError" bm hbm).trans T.tf.nA
  have hbN := (PySem.W.excTail_contains "NameError" bm hbm).trans T.tf.nN
  have hbind := hb _ (Value.ref (hp.objs.size + 1) :: us) I2.kIn (by rw [List.append_nil]; exact hl)
  rw [List.append_nil] at hbind
  refine wpAny_call (call_ownG FB hbB hbA hbN (I1.kIn _ _ hC) (PySem.W.looks_findIn I1.kIn iC) (fun self => PySem.W.bind_fn I1.kIn self tI) hus
    (codeAny_mono (F1.run _ X.stack _ _ ⟨Value.ref (hp.objs.size + 1) :: us, []⟩ (Value.ref (hp.objs.size + 1) :: us) _ _ (fun _ _ _ => False) (hr.make C us []) (I2.env0.make C us []) hbind r2 hq) fun r s' hq' => ?_))
  cases r with
  | error er => exact hx pins σ _ _ er s' I2 hq'
  | ok fl =>
    cases fl with
    | ret u =>
      obtain ⟨v, H2, os2, bare2, un2, hok2, rv, ev, q2⟩ := hq'
      subst ev
      exact ⟨rv, .ref (hp.objs.size + 1), H2, I2.call' (ch := []) os2 un2 hok2 bare2 (fun b z => absurd z (by simp)), rfl, q2⟩
    | next => exact False.elim hq'
    | brk => exact False.elim hq'
    | cont => exact False.elim hq'
/-- the class that an exception's object names -/
theorem exo_inst {K : PySem.W.Frag} {h : Heap} {a C d : Addr} {fs : List (Str × V)} {P : Program} {w : World} {H : Hp} (hok : HOk P w H h) (ea : H a = some (exo a C (some d))) (ed : H d = some (exd d fs)) :
    ∃ (t1 : Addr) (od : Obj) (mA : Str → Option Value), PySem.W.InstAt h a { cls := .ref C, dict := some d, data := .fields #[.ref t1, .none, .none, .none, .bool false, .none] } C (some od) ∧ (∀ name, PySem.W.lookIn name od = some (mA name)) ∧ ∀ f, RelO (fs.lookup f) (mA f) := by
  obtain ⟨t1, ho⟩ := exo_at hok ea
  obtain ⟨mA, hns, rel⟩ := exd_at hok ed
  obtain ⟨od, hod, hl⟩ := lookIn_ns hns
  exact ⟨t1, od, mA, ⟨ho, rfl, rfl, hod⟩, hl, rel⟩
theorem pe_efl (he : PE X o te) (hb : attributeBase o f X.env (eval o X.env) = eval o X.env := by rfl) : PE X (.Attribute o f pos) (tEfl X.K te f) := by
  refine ⟨fun pins s σ H Q I h => ?_⟩
  refine attr_of hb (thn (he.run pins s σ H _ I h) fun u s1 hh => ?_)
  obtain ⟨x, H1, I1, rx, a, C, d, fs, v, tail, newId, ex, T, hno, ea, ed, hl, q⟩ := hh
  subst ex
  obtain rfl : u = Value.ref a := rx
  obtain ⟨t1, od, mA, J, hlk, rel⟩ := exo_inst (K := X.K) I1.hok ea ed
  obtain ⟨u, hu, ru⟩ := RelO.some_of (v := v) (o := mA f) (by rw [← hl]; exact rel f)
  exact HandSPX.exc_get I1.kIn J T.ga T.gg T.exC (PySem.W.findObj_own T.hd hno rfl (by rw [hlk, hu])) (handed_of ru) ⟨v, H1, I1.tok _, ru, q⟩
/-- isinstance(x, c), x an exception with its dict -/
def rIsX (K : PySem.W.Frag) : List V → Hp → VK → Prop := fun xs H Q => ∃ (a C d : Addr) (fs : List (Str × V)) (c : V) (u : Value) (b : Bool) (tail : List Value) (newId : String), xs = [.ref a, c] ∧ ClsV c u ∧ ECl K C tail newId ∧
  H a = some (exo a C (some d)) ∧ H d = some (exd d fs) ∧ PySem.W.kitOne K (.ref C) u = some b ∧ Q (.bl b) H
theorem call_isX : CallR X (.builtin "isinstance") (rIsX X.K) := by
  intro pins s σ H xs us Q I r h
  obtain ⟨a, C, d, fs, c, u, b, tail, newId, rfl, k, T, ea, ed, e, q⟩ := h
  obtain ⟨u1, u2, rfl, r1, r2⟩ := vals2 r
  have e2 := k.eq r2
  subst e2
  cases (show u1 = Value.ref a from r1)
  obtain ⟨t1, od, mA, J, hlk, rel⟩ := exo_inst (K := X.K) I.hok ea ed
  obtain ⟨cd, hcd, _⟩ := PySem.W.any_some T.hd
  exact PySem.W.kia_one (PySem.W.kitx_exc (by rw [hcd]; rfl) T.ga T.gg T.exC T.ca T.cn T.ct T.cm) I.kIn J e (fun z => nomatch z) fun tk => ⟨.bl b, H, I.tok tk, rfl, q⟩
end
end L2

set_option Elab.async false
set_option linter.all false
set_option maxRecDepth 100000
set_option maxHeartbeats 4000000
/-! The law's def run at the law's own place (its Around is known), a Hook of one's own, repr of data. -/
namespace L2
open PySem PySem.Spec PyProof.Rows
/-- the law's def at the place of the law's call -/
def RunL (P : Program) (w : World) (K : PySem.W.Frag) (mg : Str → Option Value) (base : Heap) (CX : CXT) (k : Nat) (fa : Addr) (fd : FuncData) (x : Str) (sp : Sp) : Prop :=
  ∀ (outer : List Env) (s : Shared) (H : Hp) (u : Value) (v : V) (Q : VK) (E : XK), Room k callerA → Env0 P w K mg base callerA outer s H → BindsTo s fd ⟨[u], []⟩ [(x, u)] → RelV v u → sp [v] H Q E →
    codeAny (model P w) callerA (.call (.ref fa) ⟨[u], []⟩) (CR CX outer P w H s Q E) s
theorem RunL.of {P : Program} {w : World} {K : PySem.W.Frag} {mg : Str → Option Value} {base : Heap} {CX : CXT} {k : Nat} {fa : Addr} {fd : FuncData} {x : Str} {sp : Sp} (F : FnOk P w K mg base CX k fa fd [x] sp) : RunL P w K mg base CX k fa fd x sp :=
  fun outer s H u v Q E hr he hb hv hs => F.run callerA outer s H ⟨[u], []⟩ [u] [v] Q E hr he hb (.cons hv .nil) hs
theorem FunD.okL {P : Program} {w : World} {K : PySem.W.Frag} {mg : Str → Option Value} {base : Heap} {CX : CXT} {nm qual : Str} {params : Arguments} {body : List Stmt} {scope : Scope} {dvs : List V} {kws : List (Str × V)} {f : Addr} {fd : FuncData} {N : List Str} {x : Str} {k : Nat} {sp : Sp}
    (F : FunD K nm qual params body scope dvs kws f fd) (S : FnScope N [x] scope)
    (hbody : ∀ (cdv : Value) (outer : List Env) (s : Shared) (H : Hp) (v : V) (Q : VK) (E : XK), Room k (callerA.deeper (envOfC qual scope s.heap.objs.size f cdv)) → sp [v] H Q E →
      ∃ t, PSs (cxOf CX P w K mg base N qual scope f cdv callerA outer s H E) body t ∧ t { nx := fun _ H' => Q .non H', rt := Q } (start N [v]) H) : RunL P w K mg base CX (k + 1) f fd x sp := by
  obtain ⟨oc, od, dV, kV, doc, pm, an, cdv, ct, osl, rfl, lk, hcd, _, _⟩ := F.ex
  intro outer s H u v Q E hr e0 hb rv hsp
  have KX : K.In s.heap := e0.mod.kin.keeps fun b o e => (e0.bs b o e).1
  have lim : s.heap.NoLimit := e0.mod.nolimit.keeps fun b o e => (e0.bs b o e).1
  have hkind : ∀ y ∈ [(x, u)], scope.names.lookup y.1 = some .local ∨ (scope.names.lookup y.1 = some .cell ∧ ((cellsFrom (s.heap.objs.size + 1) scope.names []).lookup y.1).isSome = true) := fun ⟨n, z⟩ hy => by
    have e : n = x := by
      have hy' := List.mem_singleton.mp hy
      exact congrArg Prod.fst hy'
    subst e
    rcases S.par n (List.mem_singleton.mpr rfl) with q | q
    · exact .inl q
    · exact .inr ⟨q, PySem.W.cellsFrom_some _ _ _ (.inl q)⟩
  refine codeAny_call_function hr.depth (KX _ _ lk) rfl S.co S.gen rfl (PySem.W.codeRec_of KX hcd) (hb _ _ _ _ ?_)
  refine wpAny_newFunctionEnv_cells S.kind hkind fun env he s1 z => ?_
  subst he
  refine ⟨lim.keeps z.toInCall.keep, codeAny_func ?_⟩
  obtain ⟨t, ht, hq⟩ := hbody cdv outer s H v Q E (hr.deeper _) hsp
  have I : Inv (cxOf CX P w K mg base N qual scope f cdv callerA outer s H E) [] (start N [v]) H s1 := inv_start (us := [u]) S hr.hd e0 rfl (.cons rv .nil) z
  refine wpAny_mono (ht.run [] s1 (start N [v]) H _ I hq) (fun fl s' hs => ?_) fun e s' hs => hs
  have fin : ∀ {σ' : St} {H' : Hp} {v : V} {u : Value}, Inv (cxOf CX P w K mg base N qual scope f cdv callerA outer s H E) [] σ' H' s' → RelV v u → Q v H' → CE outer P w H s Q u s' :=
    fun {σ' H' v u} J rv q => ⟨v, H', J.os, J.bare, J.base, J.hok, rv, q⟩
  cases fl with
  | ret u =>
    obtain ⟨v, σ', H', J, rv, q⟩ := hs
    exact fin J rv q
  | next =>
    obtain ⟨σ', H', J, q⟩ := hs
    exact fin (v := V.non) (u := Value.none) J rfl q
  | brk =>
    obtain ⟨_, _, _, q⟩ := hs
    exact False.elim q
  | cont =>
    obtain ⟨_, _, _, q⟩ := hs
    exact False.elim q
theorem law_callL {P : Program} {w : World} {K : PySem.W.Frag} {mg mb : Str → Option Value} {CX : CXT} {k : Nat} {fa a : Addr} {fd : FuncData} {x : Str} {sp : Sp} {s₁ : Shared} {vs : List Value} {ns : List Int}
    (KX : K.In s₁.heap) (hns : s₁.heap.Ns mainGlobals mg) (hb : s₁.heap.Ns builtinsNs mb) (hbb : ∀ x : Str, x ≠ "__name__" → mb x = bootBuiltins x) (hlim : s₁.heap.NoLimit) (hg : s₁.gens = #[])
    (ha : s₁.heap.get? a = some { cls := .type "list", data := .seq vs.toArray }) (hi : IntsAre vs ns) (hl : ns.length ≤ sizeLine) (hr : Room k callerA)
    (F : ∀ base : Heap, K.In base → base.Ns mainGlobals mg → RunL P w K mg base CX k fa fd x sp) (hbind : ∀ (s : Shared) (u : Value), BindsTo s fd ⟨[u], []⟩ [(x, u)])
    (hsp : ∀ H : Hp, Only H → SqL K H a (ns.map V.int) → sp [.ref a] H (fun v _ => v = .bl true) fun _ _ _ => False)
    (hCX : ∀ H e s', CX [] H s₁ (fun _ _ _ => False) e s' → False) :
    codeAny (model P w) callerA (.call (.ref fa) ⟨[.ref a], []⟩) (fun r s' => r = .ok (.ret (.bool true)) ∧ OldK s₁.heap s'.heap ∧ s'.os = s₁.os ∧ AllBare s'.gens) s₁ := by
  have rv := vals_ints hi
  have lenV := hi.length
  have core : ∀ H : Hp, Only H → SqL K H a (ns.map V.int) → HOk P w H s₁.heap → (∀ b, H b ≠ none → b = a) → (H a ≠ none → K.lookup a = none) →
      codeAny (model P w) callerA (.call (.ref fa) ⟨[.ref a], []⟩) (fun r s' => r = .ok (.ret (.bool true)) ∧ OldK s₁.heap s'.heap ∧ s'.os = s₁.os ∧ AllBare s'.gens) s₁ := by
    intro H hO hS hok hA hK
    have only : ∀ {b : Addr} {u : HO}, H b = some u → b = a := fun {b u} q => hA b (by rw [q]; exact fun z => nomatch z)
    have noA : ∀ {b : Addr} {o : Obj} {es : Array DictEntry} {ep : Nat}, s₁.heap.get? b = some o → o.data = .dict es ep → H b = none := fun {b o es ep} e d => by
      cases q : H b with
      | none => rfl
      | some u =>
        rw [only q, ha] at e
        cases e
        cases d
    have nsK : ∀ {b : Addr} {m : Str → Option Value}, s₁.heap.Ns b m → (hidT s₁.heap H).Ns b m := fun {b m} ⟨o, es, ep, e, d, r⟩ => ⟨o, es, ep, hidT_get e (noA e d), d, r⟩
    have hKb : K.In (hidT s₁.heap H) := fun b o e => hidT_get (KX b o e) (by
      cases q : H b with
      | none => rfl
      | some u =>
        have e' : b = a := only q
        subst e'
        rw [hK (by rw [q]; exact fun z => nomatch z)] at e
        cases e)
    have hM : Mod K mg (hidT s₁.heap H) := ⟨hKb, nsK hns, ⟨mb, nsK hb, hbb⟩, let ⟨mc, h1, h2⟩ := hlim; ⟨mc, nsK h1, h2⟩⟩
    have e0 : Env0 P w K mg (hidT s₁.heap H) callerA [] s₁ H := ⟨rfl, hM, fun b o e => of_hidT e, Nat.le_of_eq (hidT_size _ _), trivial, fun b hb => absurd (show b ∈ ([] : List Addr) from hb) (by simp), hok, .of_eq hg⟩
    refine codeAny_mono (F _ hKb (nsK hns) [] s₁ H (.ref a) (.ref a) _ _ hr e0 (hbind s₁ (.ref a)) rfl (hsp H hO hS)) fun r s' h => ?_
    cases r with
    | error e => exact (hCX H e s' h).elim
    | ok fl =>
      cases fl with
      | next => exact False.elim h
      | brk => exact False.elim h
      | cont => exact False.elim h
      | ret u =>
        obtain ⟨v, H', os, bare, un, hok', r', q⟩ := h
        have q' : v = .bl true := q
        subst q'
        obtain rfl : u = Value.bool true := r'
        refine ⟨rfl, OldK.of_keep fun b o e => ?_, os, bare⟩
        cases q : H b with
        | none => exact un.keep b o e q (by intro z; exact absurd (show b ∈ ([] : List Addr) from z) (by simp)) (by simp)
        | some u =>
          rcases hO b with z | ⟨ob, xs, z⟩
          · rw [q] at z
            cases z
          · obtain ⟨e1, _⟩ := hok b _ z
            obtain ⟨e2, _⟩ := hok' b _ (un.frzs b ob _ z)
            rw [e] at e1
            cases e1
            exact e2
  cases hk : K.lookup a with
  | some o =>
    have e := KX a o hk
    rw [ha] at e
    cases e
    refine core (fun _ => none) (fun _ => .inl rfl) (.inr ⟨_, vs.toArray, _, hk, rfl, rfl, rfl, by rw [List.size_toArray, lenV]; exact hl, by simpa using rv⟩) (fun b u z => nomatch (show (none : Option HO) = some u from z)) (fun b z => absurd rfl z) fun z => absurd rfl z
  | none =>
    refine core (fun b => if b = a then some (.frz { cls := .type "list", data := .seq vs.toArray } (.lst (ns.map V.int))) else none) (fun b => ?_) (.inl (.inr ⟨{ cls := .type "list", data := .seq vs.toArray }, if_pos rfl⟩)) (fun b u z => ?_) (fun b z => ?_) fun _ => hk
    · by_cases hb : b = a
      · exact .inr ⟨_, _, if_pos hb⟩
      · exact .inl (if_neg hb)
    · by_cases hb : b = a
      · subst hb
        have z2 := Option.some.inj ((if_pos rfl).symm.trans z)
        subst z2
        exact ⟨ha, by rw [List.length_map]; exact hl, vs, _, rv, ha⟩
      · exact nomatch (if_neg hb).symm.trans z
    · by_cases hb : b = a
      · exact hb
      · exact absurd (if_neg hb) z
theorem walk_ofL {l : PySem.W.OpenLaw} {n k : Nat} {q : Program} {loose : List Str} {XP : (Str → Option Value) → Heap → Prop} {YP : World → Heap → Prop} {d : DefRec} {CX : CXT} {x : Str}
    (hn : l.most = some n) (hn2 : n ≤ sizeLine) (hdf : d.params.defaults = []) (hr : Room k callerA)
    (F : ∀ (w : World) (mg : Str → Option Value) (fa : Addr) (h : Heap), YP w h → h.Ns mainGlobals mg → mg d.name = some (.ref fa) →
      ∃ (K : PySem.W.Frag) (fd : FuncData) (sp : Sp), K.In h ∧ (∀ (s : Shared) (u : Value), BindsTo s fd ⟨[u], []⟩ [(x, u)]) ∧
        (∀ (H : Hp) (a : Addr) (ns : List Int), ns.length ≤ n → Only H → SqL K H a (ns.map V.int) → sp [.ref a] H (fun v _ => v = .bl true) fun _ _ _ => False) ∧
        ∀ base : Heap, K.In base → base.Ns mainGlobals mg → RunL l.prog w K mg base CX k fa fd x sp)
    (hCX : ∀ (H : Hp) (s : Shared) (e : Value) (s' : Shared), CX [] H s (fun _ _ _ => False) e s' → False) :
    PySem.W.WalkO q loose XP YP l.row.toRowW d [] (fun f vs => PySem.call f vs) := by
  refine Att.attach_call hn hdf fun w s₀ s₁ mg mb fa o pm cd doc a vs ns G Y ho hd hcd hmg hobj hints hlen hg => ?_
  obtain ⟨K, fd, sp, KX, hb, hsp, hF⟩ := F w mg fa _ Y G.T.g hmg
  exact law_callL KX G.T.g G.T.b G.T.builtins G.T.nolimit hg hobj hints (Nat.le_trans hlen hn2) hr hF hb (fun H hO hS => hsp H a ns hlen hO hS) fun H e s' => hCX H s₁ e s'

/-! ### data, a small dict beside -/
/-- v is data d, which stands -/
inductive Dx (K : PySem.W.Frag) (H : Hp) : V → PyData → Prop where
  | dp {v : V} {d : PyData} (h : Dp K H v d) (n : d.hasDict = false) : Dx K H v d
  | dc {a : Addr} (k : Str) (i : Int) (h : H a = some (.dK [(Sum.inr k, .int i)])) : Dx K H (.ref a) (.dict [(.str k, .int i)])
inductive DxAll (K : PySem.W.Frag) (H : Hp) : List V → List PyData → Prop where
  | nil : DxAll K H [] []
  | cons {v : V} {vs : List V} {d : PyData} {ds : List PyData} : Dx K H v d → DxAll K H vs ds → DxAll K H (v :: vs) (d :: ds)
/-- what is not sys.modules -/
def NoSys (K : PySem.W.Frag) : Prop := ∃ o, K.lookup sysModules = some o ∧ o.cls = .type "dict"
mutual
theorem reads_lists {h : Heap} : ∀ {v : Value} {d : PyData} {as : List Addr}, Reads h v d as → d.hasDict = false → ∀ a ∈ as, ∃ o, h.get? a = some o ∧ o.cls = .type "list"
  | _, _, _, .none, _, a, ha => nomatch ha
  | _, _, _, .bool _, _, a, ha => nomatch ha
  | _, _, _, .int _ _, _, a, ha => nomatch ha
  | _, _, _, .str _ _, _, a, ha => nomatch ha
  | _, _, _, .list h1 h2 h3 h4, nd, a, ha => by
    rcases List.mem_cons.mp ha with e | ha
    · rw [e]
      exact ⟨_, h1, h2⟩
    · exact readsAll_lists h4 (by simpa only [PyData.hasDict] using nd) a ha
  | _, _, _, .tuple h1 h2 h3 h4, nd, a, ha => readsAll_lists h4 (by simpa only [PyData.hasDict] using nd) a ha
  | _, _, _, .dict h1 h2 h3 h4 h5, nd, a, ha => by simp only [PyData.hasDict] at nd; cases nd
theorem readsAll_lists {h : Heap} : ∀ {vs : List Value} {ds : List PyData} {as : List Addr}, ReadsAll h vs ds as → PyData.hasDictAll ds = false → ∀ a ∈ as, ∃ o, h.get? a = some o ∧ o.cls = .type "list"
  | _, _, _, .nil, _, a, ha => nomatch ha
  | _, _, _, .cons h1 h2, nd, a, ha => by
    have z := Bool.or_eq_false_iff.mp (show (PyData.hasDict _ || PyData.hasDictAll _) = false from nd)
    rcases List.mem_append.mp ha with ha | ha
    · exact reads_lists h1 z.1 a ha
    · exact readsAll_lists h2 z.2 a ha
end
section
variable {X : Cx} {pins : List (Addr × Obj)} {σ : St} {H : Hp} {s : Shared}
theorem Inv.noSys (I : Inv X pins σ H s) (n : NoSys X.K) {a : Addr} {o : HO} (h : H a = some o) : sysModules ≠ a := fun e => by
  obtain ⟨ob, ho, _⟩ := n
  have z := (I.bs _ _ (I.mod.kin _ _ ho)).2
  rw [e, h] at z
  cases z
theorem Dx.reads (I : Inv X pins σ H s) (n : NoSys X.K) {v : V} {d : PyData} {u : Value} (h : Dx X.K H v d) (r : RelV v u) : ∃ as, Reads s.heap u d as ∧ sysModules ∉ as := by
  cases h with
  | dp h nd =>
    obtain ⟨as, hr⟩ := Dp.reads I d v u h r
    refine ⟨as, hr, fun z => ?_⟩
    obtain ⟨o, ho, hc⟩ := reads_lists hr nd _ z
    obtain ⟨ob, hk, hd⟩ := n
    rw [I.kIn _ _ hk] at ho
    cases ho
    rw [hd] at hc
    exact absurd hc (by decide)
  | @dc a k i h =>
    cases (show u = Value.ref a from r)
    obtain ⟨hz, hS, vs, rel, dd⟩ := dk_of I.hok h
    obtain ⟨o, es, ep, e1, e2, e3, e4, e5, e6⟩ := dd
    have hn := I.noSys n h
    have hes : ∃ en, es.toList = [en] ∧ (∃ t, en.key = .str k t) ∧ ∃ t, en.val = .int i t := by
      cases rel with
      | @cons p q l1 l2 hp hq =>
        cases hq
        obtain ⟨qk, qv⟩ := q
        obtain ⟨p1, t2, p2⟩ := hp
        dsimp only at p1 p2
        subst p1 p2
        generalize es.toList = l at e5
        cases e5 with
        | @cons en kv es' kvs' h1 h2 h3 =>
          cases h3
          exact ⟨en, rfl, Value.isStrOf_shape (x := k) (v := en.key) h1, t2, h2⟩
    obtain ⟨en, h1, ⟨t1, h2⟩, t2, h3⟩ := hes
    refine ⟨_, .dict e1 e2.1 e3 (as := []) (bs := []) ?_ ?_, fun z => ?_⟩
    · rw [h1]
      show ReadsAll s.heap [en.key] [.str k] []
      rw [h2]
      exact .cons (.str k t1) .nil
    · rw [h1]
      show ReadsAll s.heap [en.val] [.int i] []
      rw [h3]
      exact .cons (.int i t2) .nil
    · have z2 : sysModules = a := by simpa using z
      exact hn z2
theorem DxAll.reads (I : Inv X pins σ H s) (n : NoSys X.K) : ∀ {vs : List V} {ds : List PyData} {us : List Value}, DxAll X.K H vs ds → Vals vs us → ∃ as, ReadsAll s.heap us ds as ∧ sysModules ∉ as
  | _, _, _, .nil, .nil => ⟨_, .nil, fun z => nomatch z⟩
  | _, _, _, .cons (d := d) (ds := ds) h t, .cons r rr => by
    obtain ⟨as, h1, n1⟩ := Dx.reads I n h r
    obtain ⟨bs, h2, n2⟩ := DxAll.reads I n t rr
    exact ⟨_, .cons h1 h2, fun z => (List.mem_append.mp z).elim n1 n2⟩
/-- repr(xs), xs a list of such data -/
def rReprL (K : PySem.W.Frag) : List V → Hp → VK → Prop := fun vs H Q => ∃ (p : Addr) (xs : List V) (ds : List PyData), vs = [.ref p] ∧ H p = some (.lst xs) ∧ DxAll K H xs ds ∧ PyData.showable (.list ds) = true ∧ (PyData.list ds).depth ≤ 50 ∧ (PyData.list ds).shown.length ≤ sizeLine ∧ Q (.str (PyData.list ds).shown) H
theorem call_reprL (n : NoSys X.K) (hg : X.A.guards = some []) (hu : X.A.units + 64 < cLine) : CallR X (.builtin "repr") (rReprL X.K) := by
  intro pins s σ H xs us Q I r h
  obtain ⟨p, ys, ds, rfl, hp, hd, hs, hdep, hlen, q⟩ := h
  obtain ⟨u, rfl, ru⟩ := vals1 r
  cases (show u = Value.ref p from ru)
  obtain ⟨its, m, rv, ho, _⟩ := I.lst hp
  obtain ⟨as, hr, na⟩ := DxAll.reads I n hd rv
  have hR : Reads s.heap (.ref p) (.list ds) (p :: as) := .list (vs := its.toArray) ho rfl rfl hr
  refine repr_of_reads' hR hs (fun _ z => ?_) hg (by omega) (fun _ _ e => e) (fun h' u tk hk => ⟨.str _, H, I.kept (t' := tk) hk, ⟨u, rfl⟩, q⟩) hlen
  rcases List.mem_cons.mp z with e | z
  · exact I.noSys n hp e
  · exact na z
end
end L2

namespace HZ
open PySem PySem.Spec PyProof.Rows L2
/-! ### a Hook: the facts of HeadHook2's form, one more Bool of one's own, sys.modules beside -/
abbrev Al : Type := He.AlD × Bool
def frag (n : Nat) (g : Addr → Option Obj) : PySem.W.Frag := He.frG g (sysModules :: cStatics :: He.asD g n)
def obs (n : Nat) (fa : List He.Fa) (fn : List He.DefD) (ex : PySem.W.Frag → Bool) (g : Addr → Option Obj) : Al := (He.obsD fa fn (frag n g), ex (frag n g))
def Says (fa : List He.Fa) (fn : List He.DefD) (ex : PySem.W.Frag → Bool) (K : PySem.W.Frag) : Prop := He.SaysD fa fn K ∧ ex K = true
def hook (n : Nat) (fa : List He.Fa) (fn : List He.DefD) (ex : PySem.W.Frag → Bool) : PySem.W.Hook where
  α := Al
  obs := fun s => obs n fa fn ex s.heap.get?
  val := fun _ => (He.valD fn, true)
  says := fun _ h => ∃ K : PySem.W.Frag, K.In h ∧ Says fa fn ex K
  of := fun _ _ e => ⟨_, He.frG_in, congrArg Prod.fst e, congrArg Prod.snd e⟩
  keeps := fun _ _ _ ⟨K, hK, c⟩ k => ⟨K, PySem.W.Frag.In.keeps hK k, c⟩
theorem obs_eq {n : Nat} {fa : List He.Fa} {fn : List He.DefD} {ex : PySem.W.Frag → Bool} {g : Addr → Option Obj} {s : Shared} (h : ∀ a, g a = s.heap.get? a) : obs n fa fn ex g = (hook n fa fn ex).obs s := by
  have e : g = s.heap.get? := funext h
  rw [e] <;> rfl
end HZ

set_option Elab.async false
set_option linter.all false
set_option maxRecDepth 100000
set_option maxHeartbeats 4000000
/-! Callees as bundles; facts of exception classes by one Bool; weaker readings. -/
namespace L2
open PySem PySem.Spec PyProof.Rows PySem.XE1
/-! ### a callee by its name -/
structure Cal (P : Program) (w : World) (K : PySem.W.Frag) (mg : Str → Option Value) (base : Heap) (CX : CXT) (x : Str) (k : Nat) (ps : List Str) (sp : Sp) : Prop where
  ex : ∃ f fd, mg x = some (.ref f) ∧ PySem.W.keepIn K (.ref f) = true ∧ Binds K fd ps [] ∧ FnOk P w K mg base CX k f fd ps sp
section
variable {X : Cx} {CX : CXT} {k j : Nat} {ps : List Str} {sp : Sp} {E : XK} {x : Str} {p pos : Pos} {e : Expr} {es : List Expr} {t : TA}
theorem pe_cal (c : Cal X.prog X.w X.K X.mg X.base CX x k ps sp) (hr : Room j X.A) (hx : Passes CX X E) (ha : PA X (e :: es) t) (hk : k ≤ j := by decide) (hg : Gl X x := by rfl)
    (hdb : (x == ("__debug__" : Str)) = false := by decide) (he : starEach (e :: es) X.env = (false, eval e X.env) :: starEach es X.env := by rfl) (hpl : (backTo pos (starEach es X.env)).any (·.1) = false := by rfl) :
    PE X (.Call (.Name x p) (e :: es) [] pos) (tCall sp [] E t) := by
  obtain ⟨f, fd, hm, kp, hb, F⟩ := c.ex
  exact pe_call F (hr.mono hk) hg hm kp hb .nil hx ha hdb he hpl
theorem pe_cal0 (c : Cal X.prog X.w X.K X.mg X.base CX x k ps sp) (hr : Room j X.A) (hx : Passes CX X E) (hk : k ≤ j := by decide) (hg : Gl X x := by rfl)
    (hdb : (x == ("__debug__" : Str)) = false := by decide) : PE X (.Call (.Name x p) [] [] pos) (tCall sp [] E tNil) := by
  obtain ⟨f, fd, hm, kp, hb, F⟩ := c.ex
  exact pe_call0 F (hr.mono hk) hg hm kp hb .nil hx hdb
/-! ### a reading that asks more -/
theorem PE.imp {te te' : TE} (h : PE X e te) (i : ∀ σ H Q, te' σ H Q → te σ H Q) : PE X e te' := ⟨fun pins s σ H Q I q => h.run pins s σ H Q I (i σ H Q q)⟩
end
/-! ### an exception class's facts by a Bool -/
def eqOV (a b : Option (Option Value)) : Bool := decide (a = b)
def clsVal (o : Option PySem.W.CFound) (id : String) : Bool := match o with
  | some (.val (.builtin n)) => n == id
  | _ => false
theorem clsVal_ok {o : Option PySem.W.CFound} {id : String} (h : clsVal o id = true) : o = some (.val (.builtin id)) := by
  unfold clsVal at h
  split at h
  · rw [eq_of_beq h]
  · cases h
def eclB (K : PySem.W.Frag) (C : Addr) (tail : List Value) (newId : String) : Bool :=
  PySem.W.excInitIn K C tail newId && (PySem.W.excOver K C tail && (PySem.W.hasDictIn K C && (PySem.W.keepIn K (.ref C) && (decide (PySem.W.subIn K (.ref C) (.type "BaseException") = some true) && (decide (PySem.W.typeIn K (.ref C) = some (.type "type")) &&
  (eqOV (PySem.W.findIn K (.ref C) "__setattr__") (some (some (.builtin "object.__setattr__"))) && (eqOV (PySem.W.findIn K (.ref C) "__getattribute__") (some (some (.builtin "BaseException.__getattribute__"))) && (eqOV (PySem.W.findIn K (.ref C) "__getattr__") (some none) &&
  (eqOV (PySem.W.findIn K (.ref C) "__class__") (some (some (.builtin "object.__class__"))) && (eqOV (PySem.W.specialIn K (.builtin "object.__class__") "__get__") (some (some (.builtin "getset_descriptor.__get__"))) &&
  (decide (PySem.W.takesIn K (.builtin "object.__class__") = some true) && decide (PySem.W.mroIn K C (.type "object") = some true))))))))))))
theorem ecl_of {K : PySem.W.Frag} {C : Addr} {tail : List Value} {newId : String} (tf : TailF tail newId) (h : eclB K C tail newId = true) : ECl K C tail newId := by
  unfold eclB at h
  simp only [Bool.and_eq_true, decide_eq_true_eq, eqOV] at h
  obtain ⟨h1, h2, h3, h4, h5, h6, h7, h8, h9, h10, h11, h12, h13⟩ := h
  refine ⟨tf, ?_, h2, h7, h8, h9, h5, h6, h4, h3, h10, h11, h12, h13⟩
  obtain ⟨cd, hcd, hh⟩ := PySem.W.any_some h3
  unfold PySem.W.excInitIn at h1
  split at h1
  · rename_i dd cd' sl ho
    split at h1
    · rename_i C' bm k0 k1 k2 k3 n k5 hm hs
      simp only [Bool.and_eq_true, beq_iff_eq, Bool.not_eq_true'] at h1
      obtain ⟨⟨⟨rfl, rfl⟩, hdel⟩, ht⟩ := h1
      have e : PySem.W.clsIn K C' = some cd' := by unfold PySem.W.clsIn; rw [ho] <;> rfl
      have hh2 : cd'.hasDict = true := by
        have z := Option.some.inj (e.symm.trans hcd)
        rw [z]
        exact hh
      obtain ⟨nm, bs, mro, ns, qn, hd, sn, sub, ab, col, del⟩ := cd'
      dsimp only at hm hdel hh2
      subst hm hdel hh2
      have hsl : sl = #[k0, k1, k2, k3, some (.builtin n), k5] := by
        obtain ⟨l⟩ := sl
        simp only at hs
        rw [hs]
      subst hsl
      exact ⟨nm, qn, ns, bs, bm, sn, sub, ab, col, dd, k0, k1, k2, k3, k5, ho, ht⟩
    · cases h1
  · cases h1
/-! ### an own class with __init__(self, f): Base.__init__(self, ..); self.f = f -/
/-- the promise of such an __init__ -/
def spI1 (f : Str) : Sp := fun vs H Q _ => ∃ (K : PySem.W.Frag) (a C : Addr) (tail : List Value) (newId : String) (v : V), vs = [.ref a, v] ∧ H a = some (exo a C none) ∧
  ∀ dx, H dx = none → dx ≠ a → Q .non (upd (upd H dx (exd dx [(f, v)])) a (exo a C (some dx)))
end L2
namespace L2
open PySem PySem.Spec PyProof.Rows
/-- a reading by what is asked ahead and what is told of the value; the heap stays -/
def tSp (pre : St → Hp → Prop) (post : St → V → Prop) : TE := fun σ H Q => pre σ H ∧ ∀ v, post σ v → Q v H
theorem PE.cut {X : Cx} {e : Expr} {te : TE} {pre : St → Hp → Prop} {post : St → V → Prop} (h : PE X e te) (i : ∀ σ H Q, pre σ H → (∀ v, post σ v → Q v H) → te σ H Q) : PE X e (tSp pre post) := h.imp fun σ H Q ⟨p, q⟩ => i σ H Q p q
theorem PS.imp {X : Cx} {st : Stmt} {t t' : TS} (h : PS X st t) (i : ∀ D σ H, t' D σ H → t D σ H) : PS X st t' := ⟨fun pins s σ H D I q => h.run pins s σ H D I (i D σ H q)⟩
theorem PSs.imp {X : Cx} {sts : List Stmt} {t t' : TS} (h : PSs X sts t) (i : ∀ D σ H, t' D σ H → t D σ H) : PSs X sts t' := ⟨fun pins s σ H D I q => h.run pins s σ H D I (i D σ H q)⟩
end L2

set_option Elab.async false
set_option linter.all false
set_option maxRecDepth 100000
set_option maxHeartbeats 4000000
/-! Own exception classes whose __init__ calls the base's and stores its arguments. -/
namespace L2
open PySem PySem.Spec PyProof.Rows PySem.XE1
/-- the promise of such an __init__: the object gets a dict g of the arguments -/
def spI (C : Addr) (n : Nat) (g : List V → List (Str × V)) : Sp := fun vs H Q _ => ∃ (a : Addr) (ws : List V), vs = .ref a :: ws ∧ ws.length = n ∧ H a = some (exo a C none) ∧
  ∀ dx, H dx = none → dx ≠ a → Q .non (upd (upd H dx (exd dx (g ws))) a (exo a C (some dx)))
def g1 (f : Str) : List V → List (Str × V)
  | [v] => [(f, v)]
  | _ => []
def g2 (f f' : Str) : List V → List (Str × V)
  | [v, v'] => [(f', v'), (f, v)]
  | _ => []
/-- the class's own __init__ keeps it -/
structure IniC (P : Program) (w : World) (K : PySem.W.Frag) (mg : Str → Option Value) (base : Heap) (CX : CXT) (x : Str) (C : Addr) (k n : Nat) (g : List V → List (Str × V)) : Prop where
  nm : mg x = some (.ref C)
  ecl : ∃ tail newId, ECl K C tail newId
  fn : ∃ fI fd ps, PySem.W.findIn K (.ref C) "__init__" = some (some (.ref fI)) ∧ PySem.W.typeIn K (.ref fI) = some (.type "function") ∧ Binds K fd ps [] ∧ FnOk P w K mg base CX k fI fd ps (spI C n g)
/-- C(e, ..) as a value -/
def tMkG (C : Addr) (n : Nat) (g : List V → List (Str × V)) (ta : TA) : TE := fun σ H Q => ta σ H fun vs H1 => vs.length = n ∧ ∀ (a dx : Addr) (H2 : Hp), Same H1 H2 → H1 a = none → H2 a = some (exo a C (some dx)) → H2 dx = some (exd dx (g vs)) → Q (.ref a) H2
/-- C(e, ..).f -/
def tOfG (K : PySem.W.Frag) (C : Addr) (n : Nat) (g : List V → List (Str × V)) (f : Str) (ta : TA) : TE := fun σ H Q => ta σ H fun vs H1 => vs.length = n ∧ PySem.W.findIn K (.ref C) f = some none ∧ ∃ v, (g vs).lookup f = some v ∧ ∀ H2 : Hp, Same H1 H2 → Q v H2
/-- readings closed under weaker ends -/
def tUpA (ta : TA) : TA := fun σ H Q => ∃ Q0 : List V → Hp → Prop, ta σ H Q0 ∧ ∀ vs H1, Q0 vs H1 → Q vs H1
def tUpE (te : TE) : TE := fun σ H Q => ∃ Q0 : VK, te σ H Q0 ∧ ∀ v H1, Q0 v H1 → Q v H1
theorem PA.up {X : Cx} {es : List Expr} {ta : TA} (h : PA X es ta) : PA X es (tUpA ta) :=
  ⟨fun pos pins s σ H Q I ⟨Q0, h0, hq⟩ => thn (h.run pos pins s σ H Q0 I h0) fun us s1 ⟨vs, H1, I1, r1, q1⟩ => ⟨vs, H1, I1, r1, hq _ _ q1⟩⟩
theorem PE.up {X : Cx} {e : Expr} {te : TE} (h : PE X e te) : PE X e (tUpE te) :=
  ⟨fun pins s σ H Q I ⟨Q0, h0, hq⟩ => thn (h.run pins s σ H Q0 I h0) fun u s1 ⟨v, H1, I1, r1, q1⟩ => ⟨v, H1, I1, r1, hq _ _ q1⟩⟩
section
variable {X : Cx} {CX : CXT} {k j n : Nat} {g : List V → List (Str × V)} {x f : Str} {C : Addr} {p pos pos2 : Pos} {e : Expr} {es : List Expr} {ta : TA}
theorem pe_mkG (c : IniC X.prog X.w X.K X.mg X.base CX x C k n g) (hr : Room j X.A) (hx : Passes CX X (fun _ _ _ => False)) (ha : PA X (e :: es) ta) (hn : n ≤ 1000 := by decide) (hk : k + 1 ≤ j := by decide) (hg : Gl X x := by rfl)
    (hdb : (x == ("__debug__" : Str)) = false := by decide) (he : starEach (e :: es) X.env = (false, eval e X.env) :: starEach es X.env := by rfl) (hpl : (backTo pos (starEach es X.env)).any (·.1) = false := by rfl) :
    PE X (.Call (.Name x p) (e :: es) [] pos) (tMkG C n g ta) := by
  obtain ⟨tail, newId, T⟩ := c.ecl
  obtain ⟨fI, fd, ps, iC, tI, hb, F⟩ := c.fn
  refine (pe_mkE T iC tI F (hr.mono hk) hb hx hg c.nm ha.up hdb he hpl).imp fun σ H Q h => ?_
  refine ⟨_, h, fun vs H1 ⟨hl, q⟩ => ⟨by omega, fun a hA => ⟨a, vs, rfl, hl, upd_same .., fun dx hd ne => ⟨rfl, ?_⟩⟩⟩⟩
  have hd1 : H1 dx = none := by
    rw [upd_ne ne] at hd
    exact hd
  refine q a dx _ (fun b o eb => ?_) hA (upd_same ..) ?_
  · rw [upd_ne (ne_of_none eb hA), upd_ne (ne_of_none eb hd1), upd_ne (ne_of_none eb hA)]
    exact eb
  · rw [upd_ne ne, upd_same]
theorem pe_ofG (c : IniC X.prog X.w X.K X.mg X.base CX x C k n g) (hr : Room j X.A) (hx : Passes CX X (fun _ _ _ => False)) (ha : PA X (e :: es) ta) (hn : n ≤ 1000 := by decide) (hk : k + 1 ≤ j := by decide) (hg : Gl X x := by rfl)
    (hdb : (x == ("__debug__" : Str)) = false := by decide) (he : starEach (e :: es) X.env = (false, eval e X.env) :: starEach es X.env := by rfl) (hpl : (backTo pos (starEach es X.env)).any (·.1) = false := by rfl)
    (hb : attributeBase (.Call (.Name x p) (e :: es) [] pos) f X.env (eval (.Call (.Name x p) (e :: es) [] pos) X.env) = eval (.Call (.Name x p) (e :: es) [] pos) X.env := by rfl) :
    PE X (.Attribute (.Call (.Name x p) (e :: es) [] pos) f pos2) (tOfG X.K C n g f ta) := by
  have E1 := c.ecl
  obtain ⟨tail, newId, T⟩ := E1
  refine (pe_efl (pe_mkG c hr hx ha.up hn hk hg hdb he hpl) hb).imp fun σ H Q h => ?_
  refine ⟨_, h, fun vs H1 ⟨hl, hno, v, hv, q⟩ => ⟨hl, fun a dx H2 sm _ ea ed => ⟨a, C, dx, g vs, v, tail, newId, rfl, T, hno, ea, ed, hv, q H2 sm⟩⟩⟩
end
end L2
namespace L2
open PySem PySem.Spec PyProof.Rows PySem.XE1
/-! ### data stays where the heap is as it was -/
theorem same_upd {H : Hp} {t : Addr} {o : HO} (h : H t = none) : Same H (upd H t o) := fun b o' e => by
  rw [upd_ne (ne_of_none e h)]
  exact e
theorem Same.seqT {K : PySem.W.Frag} {H H' : Hp} {a : Addr} {xs : List V} (e : Same H H') (h : SqT K H a xs) : SqT K H' a xs := by
  rcases h with (h | ⟨o, h⟩) | h
  · exact .inl (.inl (e _ _ h))
  · exact .inl (.inr ⟨o, e _ _ h⟩)
  · exact .inr h
mutual
theorem Dp.same {K : PySem.W.Frag} {H H' : Hp} (e : Same H H') : ∀ {v : V} {d : PyData}, Dp K H v d → Dp K H' v d
  | _, _, .non => .non
  | _, _, .bl b => .bl b
  | _, _, .int i => .int i
  | _, _, .str x => .str x
  | _, _, .lst h t => .lst (e.seq h) (DpAll.same e t)
  | _, _, .tup h t => .tup (e.seqT h) (DpAll.same e t)
theorem DpAll.same {K : PySem.W.Frag} {H H' : Hp} (e : Same H H') : ∀ {vs : List V} {ds : List PyData}, DpAll K H vs ds → DpAll K H' vs ds
  | _, _, .nil => .nil
  | _, _, .cons h t => .cons (Dp.same e h) (DpAll.same e t)
end
theorem Dx.same {K : PySem.W.Frag} {H H' : Hp} (e : Same H H') {v : V} {d : PyData} : Dx K H v d → Dx K H' v d
  | .dp h n => .dp (h.same e) n
  | .dc k i h => .dc k i (e _ _ h)
theorem DxAll.same {K : PySem.W.Frag} {H H' : Hp} (e : Same H H') : ∀ {vs : List V} {ds : List PyData}, DxAll K H vs ds → DxAll K H' vs ds
  | _, _, .nil => .nil
  | _, _, .cons h t => .cons (h.same e) (t.same e)
theorem DxAll.get {K : PySem.W.Frag} {H : Hp} : ∀ {vs : List V} {ds : List PyData}, DxAll K H vs ds → ∀ (i : Nat), i < ds.length → ∃ v d, vs[i]? = some v ∧ ds[i]? = some d ∧ Dx K H v d
  | _, _, .nil, i, h => absurd h (Nat.not_lt_zero _)
  | _, _, .cons h t, 0, _ => ⟨_, _, rfl, rfl, h⟩
  | _, _, .cons h t, i + 1, hi => t.get i (Nat.lt_of_succ_lt_succ hi)
theorem DxAll.rep {K : PySem.W.Frag} {H : Hp} {v : V} {d : PyData} (h : Dx K H v d) : ∀ n, DxAll K H (List.replicate n v) (List.replicate n d)
  | 0 => .nil
  | n + 1 => .cons h (DxAll.rep h n)
/-- the heap without p -/
def hdel (H : Hp) (p : Addr) : Hp := fun b => if b = p then none else H b
theorem hdel_same (H : Hp) (p : Addr) : Same (hdel H p) H := fun b o e => by
  unfold hdel at e
  split at e
  · cases e
  · exact e
theorem hdel_upd {H H' : Hp} {p : Addr} {o : HO} (h : Same H H') : Same (hdel H p) (hdel (upd H' p o) p) := fun b o' e => by
  unfold hdel at e ⊢
  split at e
  · cases e
  · rename_i hb
    rw [if_neg hb, upd_ne hb]
    exact h _ _ e
theorem hdel_mono {H H' : Hp} {p : Addr} (h : Same H H') : Same (hdel H p) (hdel H' p) := fun b o' e => by
  unfold hdel at e ⊢
  split at e
  · cases e
  · rename_i hb
    rw [if_neg hb]
    exact h _ _ e
theorem same_del {H H' : Hp} {p : Addr} (h : Same H H') (hp : H p = none) : Same H (hdel H' p) := fun b o e => by
  unfold hdel
  rw [if_neg (ne_of_none e hp)]
  exact h _ _ e
end L2
namespace L2
open PySem PySem.Spec PyProof.Rows PySem.XE1
theorem same_upd2 {H : Hp} {t : Addr} {o o' : HO} (h : H t = none) : Same H (upd (upd H t o) t o') := fun b o'' e => by
  rw [upd_ne (ne_of_none e h), upd_ne (ne_of_none e h)]
  exact e
theorem hdel_get {H : Hp} {p b : Addr} {o : HO} (n : b ≠ p) (e : H b = some o) : hdel H p b = some o := by
  unfold hdel
  rw [if_neg n]
  exact e
end L2
namespace L2
open PySem PySem.Spec PyProof.Rows PySem.XE1
/-! ### [i for i, x in enumerate(bools) if x] -/
def trueAt (bs : List Bool) (n : Nat) : List Nat := (List.range n).filter fun i => bs.getD i false
theorem trueAt_succ (bs : List Bool) (n : Nat) : trueAt bs (n + 1) = if bs.getD n false = true then trueAt bs n ++ [n] else trueAt bs n := by
  unfold trueAt
  rw [List.range_succ, List.filter_append]
  cases h : bs.getD n false with
  | true => simp only [List.filter_cons, h, List.filter_nil, if_true]
  | false => simp only [List.filter_cons, h, List.filter_nil, Bool.false_eq_true, if_false, List.append_nil]
theorem trueAt_le (bs : List Bool) (n : Nat) : (trueAt bs n).length ≤ n := by
  unfold trueAt
  exact Nat.le_trans (List.length_filter_le _ _) (by simp)
def intsV (l : List Nat) : List V := l.map fun i => .int (i : Nat)
theorem lc_true {K : PySem.W.Frag} {bs : List Bool} {p D : Addr} {H : Hp} {x0 x1 x2 x3 x4 : Option V} {Qd : Hp → Prop} (hD : H D = none) (hp : SqL K H p (bs.map V.bl)) (hz : bs.length < 1000) (hq : ∀ H', Same H H' → H' D = some (.lst (intsV (trueAt bs bs.length))) → Qd H') :
    ∃ W : Nat → Nat → Hp → Prop, (∃ m, W 0 m (upd H D (.lst []))) ∧ ∀ i m H, W i m H →
      ((Ite K p).stop i H ∧ Qd H) ∨ ((Ite K p).go i H ∧ ∃ Nx : Hp → Prop, (∀ H', Nx H' → ∃ m', m' < m ∧ W (i + 1) m' H') ∧ ∀ x H', (Ite K p).yld i H x H' → gTup K 2 (gCons (gName 3) (gCons (gName 4) gNil)) x (wipe [x0, x1, x2, x3, x4] [3, 4]) H' fun σ2 H2 => wipe σ2 [3, 4] = wipe [x0, x1, x2, x3, x4] [3, 4] ∧ tB (tVar 4) σ2 H2 fun b H3 =>
        if b = true then tVar 3 σ2 H3 fun y H4 => ∃ acc, H4 D = some (.lst acc) ∧ acc.length < sizeLine ∧ Nx (upd H4 D (.lst (acc ++ [y]))) else Nx H3) := by
  have z : bs.length < sizeLine := by rw [sizeLine_eq]; omega
  refine lc_it (walk_enum (xs := bs.map V.bl)) (fun i Hc => Same H Hc ∧ Hc D = some (.lst (intsV (trueAt bs i)))) ⟨same_upd hD, upd_same ..⟩ (fun i Hc _ h => h.1.seq hp) (fun i x Hc H' hi ⟨sm, hd⟩ hy => ?_) (fun Hc ⟨sm, hd⟩ => ?_)
  · obtain ⟨t, x1', y1, rfl, ht, rfl, e1, e2⟩ := hy
    cases e1
    have hi2 : i < bs.length := by simpa using hi
    have e3 : y1 = .bl (bs.getD i false) := by
      have e2 : (bs.map V.bl)[i]? = some y1 := e2
      rw [List.getElem?_map, List.getElem?_eq_getElem hi2] at e2
      rw [List.getD_eq_getElem?_getD, List.getElem?_eq_getElem hi2]
      exact (Option.some.inj e2).symm
    subst e3
    have hl : trueAt bs (i + 1) = if bs.getD i false = true then trueAt bs i ++ [i] else trueAt bs i := trueAt_succ bs i
    refine ⟨t, _, rfl, SqT.of (upd_same ..), rfl, _, _, rfl, _, _, rfl, rfl, rfl, _, rfl, _, rfl, ?_⟩
    have hd2 : upd Hc t (.tup [.int (i : Nat), .bl (bs.getD i false)]) D = some (.lst (intsV (trueAt bs i))) := by rw [upd_ne (ne_of_none hd ht)]; exact hd
    refine ite2 (fun h => ⟨_, rfl, _, hd2, ?_, ?_, ?_⟩) (fun h => ⟨sm.trans (same_upd ht), ?_⟩)
    · unfold intsV
      rw [List.length_map]
      have := trueAt_le bs i
      omega
    · intro b o e
      rw [upd_ne (ne_of_none e hD)]
      exact (sm.trans (same_upd ht)) b o e
    · rw [upd_same, hl, if_pos h]
      unfold intsV
      rw [List.map_append]
      rfl
    · rw [hd2, hl, if_neg h]
  · rw [List.length_map] at hd
    exact hq Hc sm hd
end L2
namespace L2
open PySem PySem.Spec PyProof.Rows PySem.XE1
/-! ### written data -/
def tLit (K : PySem.W.Frag) (d : PyData) : TE := fun σ H Q => ∀ (H' : Hp) (v : V), Same H H' → Dp K H' v d → Q v H'
def tLits (K : PySem.W.Frag) (ds : List PyData) : TA := fun σ H Q => ∀ (H' : Hp) (vs : List V), Same H H' → DpAll K H' vs ds → Q vs H'
section
variable {X : Cx} {e : Expr} {es : List Expr} {d : PyData} {ds : List PyData} {pos : Pos}
theorem PA.imp {ta ta' : TA} (h : PA X es ta) (i : ∀ σ H Q, ta' σ H Q → ta σ H Q) : PA X es ta' := ⟨fun pos pins s σ H Q I q => h.run pos pins s σ H Q I (i σ H Q q)⟩
theorem lit_int {i : Int} (h : PE X e (tC (.int i))) : PE X e (tLit X.K (.int i)) := h.imp fun _ H _ q => q H _ (Same.refl H) (.int i)
theorem lit_str {x : Str} (h : PE X e (tC (.str x))) : PE X e (tLit X.K (.str x)) := h.imp fun _ H _ q => q H _ (Same.refl H) (.str x)
theorem lit_bl {b : Bool} (h : PE X e (tC (.bl b))) : PE X e (tLit X.K (.bool b)) := h.imp fun _ H _ q => q H _ (Same.refl H) (.bl b)
theorem lit_non (h : PE X e (tC .non)) : PE X e (tLit X.K .none) := h.imp fun _ H _ q => q H _ (Same.refl H) .non
theorem lits_nil : PA X [] (tLits X.K []) := pa_nil.imp fun _ H _ q => q H [] (Same.refl H) .nil
theorem lits_cons (h : PE X e (tLit X.K d)) (t : PA X es (tLits X.K ds)) (hs : starEach (e :: es) X.env = (false, eval e X.env) :: starEach es X.env := by rfl) : PA X (e :: es) (tLits X.K (d :: ds)) :=
  (pa_cons h t hs).imp fun _ H _ q H1 v s1 h1 => fun H2 vs s2 h2 => q H2 (v :: vs) (s1.trans s2) (.cons (h1.same s2) h2)
theorem DpAll.len {K : PySem.W.Frag} {H : Hp} : ∀ {vs : List V} {ds : List PyData}, DpAll K H vs ds → vs.length = ds.length
  | _, _, .nil => rfl
  | _, _, .cons h t => congrArg (· + 1) (DpAll.len t)
theorem lit_lst (h : PA X es (tLits X.K ds)) (hl : ds.length ≤ 1000 := by decide) : PE X (.List es pos) (tLit X.K (.list ds)) :=
  (pe_lst h).imp fun _ H _ q H1 vs s1 h1 => ⟨by have := DpAll.len h1; rw [sizeLine_eq]; omega, fun p hp => q _ _ (s1.trans (same_upd hp)) (.lst (SqL.of (upd_same ..)) (DpAll.same (same_upd hp) h1))⟩
theorem lit_tup (h : PA X es (tLits X.K ds)) (hl : ds.length ≤ 1000 := by decide) : PE X (.Tuple es k pos) (tLit X.K (.tuple ds)) :=
  (pe_tup h).imp fun _ H _ q H1 vs s1 h1 => ⟨by have := DpAll.len h1; rw [sizeLine_eq]; omega, fun p hp => q _ _ (s1.trans (same_upd hp)) (.tup (SqT.of (upd_same ..)) (DpAll.same (same_upd hp) h1))⟩
end
theorem iteNotT {b : Bool} {A B : Prop} (h : b = true) (hB : B) : if (!b) = true then A else B := by
  rw [h]
  exact hB
end L2

set_option Elab.async false
set_option linter.all false
set_option maxRecDepth 100000
set_option maxHeartbeats 4000000
namespace K29
open PySem PySem.Spec PyProof.Rows L2 PySem.XE1
abbrev prog : Program := PySem.Challenge.pw_scopetables_k29_errors_made
def top (i : Nat) : Stmt := prog.main.body.getD i (.Pass ⟨0, 0, 0, 0⟩)
abbrev s__law_bag : Stmt := top 17
abbrev N__law_bag : List Str := ["_law_script", "_law_at", "_law_primes", "_law_cell", "_law_large", "_law_mixed"]
theorem sc__law_bag : FnScope N__law_bag ["_law_script", "_law_at"] (defScope s__law_bag) := ⟨rfl, rfl, rfl, by decide +kernel, rfl, by decide +kernel, by decide +kernel⟩

abbrev s__law_take : Stmt := top 18
abbrev N__law_take : List Str := ["_law_bag_here", "_law_size", "_law_digit"]
theorem sc__law_take : FnScope N__law_take ["_law_bag_here", "_law_size"] (defScope s__law_take) := ⟨rfl, rfl, rfl, by decide +kernel, rfl, by decide +kernel, by decide +kernel⟩

abbrev s__law_thing : Stmt := top 19
abbrev N__law_thing : List Str := ["_law_bag_here", "_law_some"]
theorem sc__law_thing : FnScope N__law_thing ["_law_bag_here"] (defScope s__law_thing) := ⟨rfl, rfl, rfl, by decide +kernel, rfl, by decide +kernel, by decide +kernel⟩

abbrev s__law_kinds : Stmt := top 20
abbrev N__law_kinds : List Str := ["_law_made", "_law_found", "_law_bases", "_law_at", "_law_one"]
theorem sc__law_kinds : FnScope N__law_kinds ["_law_made"] (defScope s__law_kinds) := ⟨rfl, rfl, rfl, by decide +kernel, rfl, by decide +kernel, by decide +kernel⟩

abbrev s_law : Stmt := top 21
abbrev N_law : List Str := ["_law_script", "_law_k", "_law_bag_here", "_law_turn", "_law_one", "_law_two", "_law_told", "_law_made", "_law_error", "_law_due"]
theorem sc_law : FnScope N_law ["_law_script"] (defScope s_law) := ⟨rfl, rfl, rfl, by decide +kernel, rfl, by decide +kernel, by decide +kernel⟩

abbrev s_BadName__init_ : Stmt := inClass (top 4) 0
abbrev N_BadName__init_ : List Str := ["self", "name"]
theorem sc_BadName__init_ : FnScope N_BadName__init_ ["self", "name"] (defScope s_BadName__init_) := ⟨rfl, rfl, rfl, by decide +kernel, rfl, by decide +kernel, by decide +kernel⟩

abbrev s_BadText__init_ : Stmt := inClass (top 5) 0
abbrev N_BadText__init_ : List Str := ["self", "line"]
theorem sc_BadText__init_ : FnScope N_BadText__init_ ["self", "line"] (defScope s_BadText__init_) := ⟨rfl, rfl, rfl, by decide +kernel, rfl, by decide +kernel, by decide +kernel⟩

abbrev s_ScopeError__init_ : Stmt := inClass (top 7) 0
abbrev N_ScopeError__init_ : List Str := ["self", "number", "reason"]
theorem sc_ScopeError__init_ : FnScope N_ScopeError__init_ ["self", "number", "reason"] (defScope s_ScopeError__init_) := ⟨rfl, rfl, rfl, by decide +kernel, rfl, by decide +kernel, by decide +kernel⟩

abbrev s_NoBlock__init_ : Stmt := inClass (top 8) 0
abbrev N_NoBlock__init_ : List Str := ["self", "block"]
theorem sc_NoBlock__init_ : FnScope N_NoBlock__init_ ["self", "block"] (defScope s_NoBlock__init_) := ⟨rfl, rfl, rfl, by decide +kernel, rfl, by decide +kernel, by decide +kernel⟩

abbrev s_NoName__init_ : Stmt := inClass (top 9) 0
abbrev N_NoName__init_ : List Str := ["self", "name"]
theorem sc_NoName__init_ : FnScope N_NoName__init_ ["self", "name"] (defScope s_NoName__init_) := ⟨rfl, rfl, rfl, by decide +kernel, rfl, by decide +kernel, by decide +kernel⟩

abbrev s_NoBinding__init_ : Stmt := inClass (top 10) 0
abbrev N_NoBinding__init_ : List Str := ["self", "binding"]
theorem sc_NoBinding__init_ : FnScope N_NoBinding__init_ ["self", "binding"] (defScope s_NoBinding__init_) := ⟨rfl, rfl, rfl, by decide +kernel, rfl, by decide +kernel, by decide +kernel⟩

abbrev s_NoRow__init_ : Stmt := inClass (top 11) 0
abbrev N_NoRow__init_ : List Str := ["self", "number"]
theorem sc_NoRow__init_ : FnScope N_NoRow__init_ ["self", "number"] (defScope s_NoRow__init_) := ⟨rfl, rfl, rfl, by decide +kernel, rfl, by decide +kernel, by decide +kernel⟩

abbrev s_NoMention__init_ : Stmt := inClass (top 12) 0
abbrev N_NoMention__init_ : List Str := ["self", "number"]
theorem sc_NoMention__init_ : FnScope N_NoMention__init_ ["self", "number"] (defScope s_NoMention__init_) := ⟨rfl, rfl, rfl, by decide +kernel, rfl, by decide +kernel, by decide +kernel⟩

abbrev s_Captured__init_ : Stmt := inClass (top 13) 0
abbrev N_Captured__init_ : List Str := ["self", "number"]
theorem sc_Captured__init_ : FnScope N_Captured__init_ ["self", "number"] (defScope s_Captured__init_) := ⟨rfl, rfl, rfl, by decide +kernel, rfl, by decide +kernel, by decide +kernel⟩

abbrev s_Full__init_ : Stmt := inClass (top 14) 0
abbrev N_Full__init_ : List Str := ["self", "most"]
theorem sc_Full__init_ : FnScope N_Full__init_ ["self", "most"] (defScope s_Full__init_) := ⟨rfl, rfl, rfl, by decide +kernel, rfl, by decide +kernel, by decide +kernel⟩

def fn : List He.DefD := [⟨("_law_bag", none), "_law_bag", "_law_bag", defArgs s__law_bag, defBody s__law_bag, defScope s__law_bag, [], []⟩,
  ⟨("_law_take", none), "_law_take", "_law_take", defArgs s__law_take, defBody s__law_take, defScope s__law_take, [], []⟩,
  ⟨("_law_thing", none), "_law_thing", "_law_thing", defArgs s__law_thing, defBody s__law_thing, defScope s__law_thing, [], []⟩,
  ⟨("_law_kinds", none), "_law_kinds", "_law_kinds", defArgs s__law_kinds, defBody s__law_kinds, defScope s__law_kinds, [], []⟩,
  ⟨("law", none), "law", "law", defArgs s_law, defBody s_law, defScope s_law, [], []⟩,
  ⟨("BadName", some "__init__"), "__init__", "BadName.__init__", defArgs s_BadName__init_, defBody s_BadName__init_, defScope s_BadName__init_, [], []⟩,
  ⟨("BadText", some "__init__"), "__init__", "BadText.__init__", defArgs s_BadText__init_, defBody s_BadText__init_, defScope s_BadText__init_, [], []⟩,
  ⟨("ScopeError", some "__init__"), "__init__", "ScopeError.__init__", defArgs s_ScopeError__init_, defBody s_ScopeError__init_, defScope s_ScopeError__init_, [], []⟩,
  ⟨("NoBlock", some "__init__"), "__init__", "NoBlock.__init__", defArgs s_NoBlock__init_, defBody s_NoBlock__init_, defScope s_NoBlock__init_, [], []⟩,
  ⟨("NoName", some "__init__"), "__init__", "NoName.__init__", defArgs s_NoName__init_, defBody s_NoName__init_, defScope s_NoName__init_, [], []⟩,
  ⟨("NoBinding", some "__init__"), "__init__", "NoBinding.__init__", defArgs s_NoBinding__init_, defBody s_NoBinding__init_, defScope s_NoBinding__init_, [], []⟩,
  ⟨("NoRow", some "__init__"), "__init__", "NoRow.__init__", defArgs s_NoRow__init_, defBody s_NoRow__init_, defScope s_NoRow__init_, [], []⟩,
  ⟨("NoMention", some "__init__"), "__init__", "NoMention.__init__", defArgs s_NoMention__init_, defBody s_NoMention__init_, defScope s_NoMention__init_, [], []⟩,
  ⟨("Captured", some "__init__"), "__init__", "Captured.__init__", defArgs s_Captured__init_, defBody s_Captured__init_, defScope s_Captured__init_, [], []⟩,
  ⟨("Full", some "__init__"), "__init__", "Full.__init__", defArgs s_Full__init_, defBody s_Full__init_, defScope s_Full__init_, [], []⟩]
def fa : List He.Fa := [.free "ValueError", .free "LookupError", .free "KeyError", .free "IndexError", .free "RuntimeError", .free "OverflowError", .free "len", .free "abs", .free "isinstance", .free "enumerate", .free "range", .free "max", .free "min", .free "repr", .glo "_law_bag", .glo "_law_take", .glo "_law_thing", .glo "_law_kinds", .glo "law", .glo "BadProgram", .glo "BadRow", .glo "BadName", .glo "BadText", .glo "BadCommand", .glo "ScopeError", .glo "NoBlock", .glo "NoName", .glo "NoBinding", .glo "NoRow", .glo "NoMention", .glo "Captured", .glo "Full", .glo "NothingDone", .glo "TableError"]
/-- the own classes: name, tail, maker -/
def ecs : List (Str × List Value × String) := [("TableError", tlV, "ValueError.__new__"), ("BadProgram", tlV, "ValueError.__new__"), ("BadRow", tlV, "ValueError.__new__"), ("BadName", tlV, "ValueError.__new__"), ("BadText", tlV, "ValueError.__new__"), ("BadCommand", tlV, "ValueError.__new__"), ("ScopeError", tlV, "ValueError.__new__"), ("NoBlock", tlL, "LookupError.__new__"), ("NoName", tlK, "LookupError.__new__"), ("NoBinding", tlK, "LookupError.__new__"), ("NoRow", tlI, "IndexError.__new__"), ("NoMention", tlI, "IndexError.__new__"), ("Captured", tlR, "RuntimeError.__new__"), ("Full", tlO, "OverflowError.__new__"), ("NothingDone", tlR, "RuntimeError.__new__")]
def exB (K : PySem.W.Frag) : Bool := ecs.all fun c => eclB K (He.ga K c.1) c.2.1 c.2.2
/-- the classes with an own __init__: their fields -/
def ins : List (Str × List Str) := [("BadName", ["name"]), ("BadText", ["line"]), ("ScopeError", ["number", "reason"]), ("NoBlock", ["block"]), ("NoName", ["name"]), ("NoBinding", ["binding"]), ("NoRow", ["number"]), ("NoMention", ["number"]), ("Captured", ["number"]), ("Full", ["most"])]
def inB (K : PySem.W.Frag) : Bool := ins.all fun c => eqOV (PySem.W.findIn K (.ref (He.ga K c.1)) "__init__") (some (some (.ref (He.ma K (He.ga K c.1) "__init__")))) && (decide (PySem.W.typeIn K (.ref (He.ma K (He.ga K c.1) "__init__")) = some (.type "function")) && c.2.all fun f => eqOV (PySem.W.findIn K (.ref (He.ga K c.1)) f) (some none))
def tbB (K : PySem.W.Frag) : Bool := eqOV (PySem.W.specialIn K (.ref (He.ga K "TableError")) "__getattribute__") (some (some (.builtin "type.__getattribute__"))) && (PySem.W.readsIn K (He.ga K "TableError") (.type "type") && clsVal (PySem.W.findCls K (.ref (He.ga K "TableError")) (.type "type") "__init__") "ValueError.__init__")
def blB (K : PySem.W.Frag) : Bool := (["LookupError", "KeyError", "IndexError", "RuntimeError", "OverflowError"] : List String).all fun b => clsVal (PySem.W.findCls K (.type b) (.type "type") "__init__") (b ++ ".__init__")
def owns : List Str := ["BadProgram", "BadRow", "BadName", "BadText", "BadCommand", "ScopeError", "NoBlock", "NoName", "NoBinding", "NoRow", "NoMention", "Captured", "Full", "NothingDone"]
def bass : List String := ["ValueError", "LookupError", "KeyError", "IndexError", "RuntimeError", "OverflowError"]
/-- what the made ones are: own classes by place, bases by place -/
def kts : List (Str × List Nat × List Nat) := [("BadName", [2], [0, 1]), ("BadText", [3], [0, 1]), ("ScopeError", [5], [0, 1]), ("NoBlock", [6], [2]), ("NoName", [7], [2, 3]), ("NoBinding", [8], [2, 3]), ("NoRow", [9], [2, 4]), ("NoMention", [10], [2, 4]), ("Captured", [11], [5]), ("Full", [12], [6])]
def ktB (K : PySem.W.Frag) : Bool := kts.all fun c => ((List.range 14).all fun i => decide (PySem.W.kitOne K (.ref (He.ga K c.1)) (.ref (He.ga K (owns.getD i ""))) = some (c.2.1.contains i))) &&
  (decide (PySem.W.kitOne K (.ref (He.ga K c.1)) (.ref (He.ga K "TableError")) = some (c.2.2.contains 0)) && (List.range 6).all fun i => decide (PySem.W.kitOne K (.ref (He.ga K c.1)) (.type (bass.getD i "")) = some (c.2.2.contains (i + 1))))
def syB (K : PySem.W.Frag) : Bool := match K.lookup sysModules with
  | some o => o.cls == .type "dict"
  | none => false
def ex (K : PySem.W.Frag) : Bool := exB K && (inB K && (tbB K && (blB K && (ktB K && syB K))))
/-- what the top has left -/
structure Tx (K : PySem.W.Frag) (mg : Str → Option Value) : Prop where
  says : HZ.Says fa fn ex K
  at_ : ∃ h : Heap, K.In h ∧ h.Ns mainGlobals mg
section
variable {K : PySem.W.Frag} {mg : Str → Option Value}
theorem Tx.fr (T : Tx K mg) (i : Nat) {x : Str} (e : fa[i]? = some (.free x) := by rfl) : mg x = none := by
  obtain ⟨h, X, G⟩ := T.at_
  exact He.free_ok X G (T.says.1.fact i e)
theorem Tx.gl (T : Tx K mg) (i : Nat) {x : Str} (e : fa[i]? = some (.glo x) := by rfl) : mg x = some (.ref (He.ga K x)) := by
  obtain ⟨h, X, G⟩ := T.at_
  exact He.glo_ok X G (T.says.1.fact i e)
theorem Tx.parts (T : Tx K mg) : exB K = true ∧ inB K = true ∧ tbB K = true ∧ blB K = true ∧ ktB K = true ∧ syB K = true := by
  have h : ex K = true := T.says.2
  unfold ex at h
  simp only [Bool.and_eq_true] at h
  exact h
theorem Tx.nosys (T : Tx K mg) : NoSys K := by
  have h := T.parts.2.2.2.2.2
  unfold syB at h
  split at h
  · rename_i o ho
    exact ⟨o, ho, eq_of_beq h⟩
  · cases h
theorem Tx.ecl (T : Tx K mg) (i : Nat) {x : Str} {tail : List Value} {n : String} (tf : TailF tail n) (e : ecs[i]? = some (x, tail, n) := by rfl) : ECl K (He.ga K x) tail n :=
  ecl_of tf (List.all_eq_true.mp T.parts.1 _ (List.mem_of_getElem? e))
theorem Tx.ini (T : Tx K mg) (i : Nat) {x : Str} {fs : List Str} (e : ins[i]? = some (x, fs) := by rfl) : PySem.W.findIn K (.ref (He.ga K x)) "__init__" = some (some (.ref (He.ma K (He.ga K x) "__init__"))) ∧
    PySem.W.typeIn K (.ref (He.ma K (He.ga K x) "__init__")) = some (.type "function") ∧ ∀ f ∈ fs, PySem.W.findIn K (.ref (He.ga K x)) f = some none := by
  have h := List.all_eq_true.mp T.parts.2.1 _ (List.mem_of_getElem? e)
  simp only [Bool.and_eq_true, decide_eq_true_eq, eqOV, List.all_eq_true] at h
  exact h
theorem Tx.tb (T : Tx K mg) : PySem.W.specialIn K (.ref (He.ga K "TableError")) "__getattribute__" = some (some (.builtin "type.__getattribute__")) ∧ PySem.W.readsIn K (He.ga K "TableError") (.type "type") = true ∧
    PySem.W.findCls K (.ref (He.ga K "TableError")) (.type "type") "__init__" = some (.val (.builtin "ValueError.__init__")) := by
  have h := T.parts.2.2.1
  unfold tbB at h
  simp only [Bool.and_eq_true, decide_eq_true_eq, eqOV] at h
  exact ⟨h.1, h.2.1, clsVal_ok h.2.2⟩
theorem Tx.bl (T : Tx K mg) (i : Nat) {b : String} (e : (["LookupError", "KeyError", "IndexError", "RuntimeError", "OverflowError"] : List String)[i]? = some b := by rfl) : PySem.W.findCls K (.type b) (.type "type") "__init__" = some (.val (.builtin (b ++ ".__init__"))) :=
  clsVal_ok (List.all_eq_true.mp T.parts.2.2.2.1 _ (List.mem_of_getElem? e))
theorem Tx.kt (T : Tx K mg) (i : Nat) {x : Str} {a b : List Nat} (e : kts[i]? = some (x, a, b) := by rfl) : (∀ j < 14, PySem.W.kitOne K (.ref (He.ga K x)) (.ref (He.ga K (owns.getD j ""))) = some (a.contains j)) ∧
    PySem.W.kitOne K (.ref (He.ga K x)) (.ref (He.ga K "TableError")) = some (b.contains 0) ∧ ∀ j < 6, PySem.W.kitOne K (.ref (He.ga K x)) (.type (bass.getD j "")) = some (b.contains (j + 1)) := by
  have h := List.all_eq_true.mp T.parts.2.2.2.2.1 _ (List.mem_of_getElem? e)
  simp only [Bool.and_eq_true, decide_eq_true_eq, List.all_eq_true, List.mem_range] at h
  exact h
theorem Tx.fun_ (T : Tx K mg) (i : Nat) {d : He.DefD} (e : fn[i]? = some d := by rfl) : ∃ fd, FunD K d.name d.qual d.params d.body d.scope (d.dvs K) (d.kws K) (He.fAd K d.at_) fd := T.says.1.def_ i e
end
end K29

set_option Elab.async false
set_option linter.all false
set_option maxRecDepth 100000
set_option maxHeartbeats 4000000
namespace K29
open PySem PySem.Spec PyProof.Rows L2 PySem.XE1
/-- _law_bag(script, k): a new list of two numbers -/
def spBag (K : PySem.W.Frag) : Sp := fun vs H Q _ => ∃ (a : Addr) (ns : List Int) (k : Nat), vs = [.ref a, .int k] ∧ SqL K H a (ns.map V.int) ∧ k < 10 ∧
  ∀ (H' : Hp) (p : Addr) (L M : Int), Same H H' → H p = none → H' p = some (.lst [.int L, .int M]) → 0 ≤ L → 0 ≤ M → M ≤ 2147483648 → Q (.ref p) H'
abbrev prs : List Int := [2147483647, 2147483629, 2147483587, 2147483579, 2147483563, 2147483549, 2147483543]
theorem prs_get (i : Int) (h0 : 0 ≤ i) (h : i < 7) : ∃ q : Int, 2147483543 ≤ q ∧ q ≤ 2147483647 ∧ atI (prs.map V.int) i = some (.int q) := by
  have hl : i.toNat < prs.length := by show i.toNat < 7; omega
  have all : ∀ q ∈ prs, (2147483543 : Int) ≤ q ∧ q ≤ 2147483647 := by decide
  refine ⟨prs[i.toNat], (all _ (List.getElem_mem hl)).1, (all _ (List.getElem_mem hl)).2, ?_⟩
  generalize hn : i.toNat = n at hl ⊢
  have e : i = (n : Int) := by omega
  subst e
  refine atI_nat ?_
  rw [List.getElem?_map, List.getElem?_eq_getElem (by simpa using hl)]
  rfl
theorem same_upd {H : Hp} {t : Addr} {o : HO} (h : H t = none) : Same H (upd H t o) := fun b o' e => by
  rw [upd_ne (ne_of_none e h)]
  exact e
section
variable {P : Program} {w : World} {K : PySem.W.Frag} {mg : Str → Option Value} {base : Heap}
theorem ok_bag (T : Tx K mg) {f : Addr} {fd : FuncData} (F : FunD K "_law_bag" "_law_bag" (defArgs s__law_bag) (defBody s__law_bag) (defScope s__law_bag) [] [] f fd) : FnOk P w K mg base CX0 1 f fd ["_law_script", "_law_at"] (spBag K) := by
  refine F.ok sc__law_bag (fun vs H Q E h => ?_) (fun cdv A outer s H vs Q E hr h => ⟨_, PSs.nox (
    pss_cons (ps_set (i := 2) sc__law_bag.nd rfl (Or.inl rfl) (pe_tup (pa_cons pe_int (pa_cons pe_int (pa_cons pe_int (pa_cons pe_int (pa_cons pe_int (pa_cons pe_int (pa_cons pe_int pa_nil)))))))))
      (pss_cons (ps_set (i := 3) sc__law_bag.nd rfl (Or.inl rfl) ((pe_ifExp (pt_cmpR op_lt (pv 1) (pe_callB call_len_seq (by rfl) (T.fr 6) (by decide +kernel) (pa_cons (pv 0) pa_nil)) (nomark _)) (pe_ix ix_list (pv 0) (pv 1) (fun _ _ => rfl)) pe_int).cut
        (pre := fun σ H => ∃ a ns k, σ[0]? = some (some (.ref a)) ∧ σ[1]? = some (some (.int ((k : Nat) : Int))) ∧ SqL K H a (List.map V.int ns)) (post := fun _ v => ∃ c : Int, v = .int c) ?c1))
      (pss_cons (ps_set (i := 4) sc__law_bag.nd rfl (Or.inl rfl) ((pe_ifExp (pt_cmpR op_ge (pe_callB call_abs (by rfl) (T.fr 7) (by decide +kernel) (pa_cons (pv 3) pa_nil)) (pe_op op_pow pe_int pe_int) (nomark _)) (pe_callB call_abs (by rfl) (T.fr 7) (by decide +kernel) (pa_cons (pv 3) pa_nil)) pe_int).cut
        (pre := fun σ H => ∃ c, σ[3]? = some (some (.int c))) (post := fun _ v => ∃ c : Int, v = .int c ∧ 0 ≤ c) ?c2))
      (pss_cons (ps_set (i := 5) sc__law_bag.nd rfl (Or.inl rfl) (pe_op op_mod (pe_op op_pow (pe_op op_add (pe_op op_add (pe_op op_mod (pv 3) pe_int) (pe_op op_mul pe_int (pv 1))) pe_int) pe_int) (pe_ix ix_tup (pv 2) (pe_op op_mod (pv 1) pe_int) (fun _ _ => rfl))))
      (pss_one (ps_ret (pe_lst (pa_cons (pv 4) (pa_cons (pe_op op_add (pe_op op_mod (pe_op op_mul (pv 5) (pe_op op_add (pe_op op_add (pe_op op_fdiv (pv 5) pe_int) (pe_op op_mul pe_int (pv 1))) pe_int)) (pe_ix ix_tup (pv 2) (pe_op op_mod (pe_op op_add (pv 1) pe_int) pe_int) (fun _ _ => rfl))) pe_int) pa_nil))))))))), ?_⟩)
  case c1 =>
    intro σ H Q ⟨a, ns, k, e0, e1, hS⟩ q
    refine ⟨_, e1, _, e0, a, _, rfl, .inl hS, _, _, rfl, rfl, _, rfl, ite2 (fun hl => ?_) (fun hl => q _ ⟨_, rfl⟩)⟩
    have hl : (k : Int) < ((ns.map V.int).length : Int) := of_decide_eq_true hl
    have hl2 : k < ns.length := by rw [List.length_map] at hl; omega
    exact ⟨_, e0, _, e1, a, _, _, _, rfl, rfl, hS, atI_cell hl2, q _ ⟨_, rfl⟩⟩
  case c2 =>
    intro σ H Q ⟨c, e⟩ q
    refine ⟨_, e, _, rfl, _, _, rfl, rfl, by unfold CPow; decide, _, _, rfl, rfl, _, rfl, ite2 (fun hl => ?_) (fun hl => q _ ⟨_, rfl, by decide⟩)⟩
    refine ⟨_, e, _, rfl, q _ ⟨_, rfl, ?_⟩⟩
    split <;> omega
  · obtain ⟨a, ns, k, rfl, _⟩ := h
    rfl
  · obtain ⟨a, ns, k, rfl, hS, hk, q⟩ := h
    refine ⟨by show 7 ≤ sizeLine; decide, fun t ht => ?_⟩
    refine ⟨⟨a, ns, k, rfl, rfl, Same.seq (same_upd ht) hS⟩, fun v ⟨c, hc⟩ => ?_⟩
    subst hc
    refine ⟨⟨c, rfl⟩, fun v ⟨L, hL, h0⟩ => ?_⟩
    subst hL
    obtain ⟨q1, h1, h2, e1⟩ := prs_get ((k : Int) % 7) (by omega) (by omega)
    obtain ⟨q2, h3, h4, e2⟩ := prs_get (((k : Int) + 2) % 7) (by omega) (by omega)
    have hM1 : (0 : Int) ≤ c % 2305843009213693951 + 40961 * k + 19 ∧ c % 2305843009213693951 + 40961 * k + 19 < 2305843009214693951 := by omega
    refine ⟨_, rfl, _, _, rfl, rfl, (by show (0 : Int) < 2305843009213693951; decide), _, rfl, _, _, rfl, rfl, .inl (by omega), _, _, rfl, rfl, _, _, rfl, rfl, _, _, rfl, rfl, by unfold CPow; refine ⟨by omega, by omega, by omega⟩, ?_⟩
    refine ⟨_, rfl, _, rfl, _, _, rfl, rfl, (by show (0 : Int) < 7; decide), _, _, _, _, rfl, rfl, SqT.of (upd_same ..), e1, _, _, rfl, rfl, (by show (0 : Int) < q1; omega), ?_⟩
    obtain ⟨m, hm, hm0, hm1⟩ : ∃ m, (c % 2305843009213693951 + 40961 * (k : Int) + 19) ^ (3 : Int).toNat % q1 = m ∧ 0 ≤ m ∧ m < q1 := ⟨_, rfl, Int.emod_nonneg _ (by omega), Int.emod_lt_of_pos _ (by omega)⟩
    show gName 5 (V.int ((c % 2305843009213693951 + 40961 * (k : Int) + 19) ^ (3 : Int).toNat % q1)) _ _ _
    rw [hm]
    refine ⟨_, rfl, _, rfl, _, rfl, _, _, rfl, rfl, ⟨by decide, by decide⟩, _, rfl, _, _, rfl, rfl, .inl ⟨by decide, by decide⟩, _, _, rfl, rfl, _, _, rfl, rfl, _, _, rfl, rfl, .inl (by omega), ?_⟩
    refine ⟨_, rfl, _, rfl, _, _, rfl, rfl, _, _, rfl, rfl, (by show (0 : Int) < 7; decide), _, _, _, _, rfl, rfl, SqT.of (upd_same ..), e2, _, _, rfl, rfl, (by show (0 : Int) < q2; omega), _, _, rfl, rfl, (by show 2 ≤ sizeLine; decide), fun p hp => ?_⟩
    have hx := Int.emod_nonneg (m * (m / 5 + 3 * (k : Int) + 11)) (show q2 ≠ 0 by omega)
    have hy := Int.emod_lt_of_pos (m * (m / 5 + 3 * (k : Int) + 11)) (show 0 < q2 by omega)
    refine q _ p L _ ((same_upd ht).trans (same_upd hp)) ((same_upd ht).free hp) (upd_same ..) h0 ?_ ?_
    · exact Int.add_nonneg hx (by decide)
    · exact Int.le_trans (show _ ≤ q2 from hy) (by omega)
/-- _law_take(bag, n) -/
def spTake : Sp := fun vs H Q _ => ∃ (p : Addr) (L M n : Int), vs = [.ref p, .int n] ∧ H p = some (.lst [.int L, .int M]) ∧ 0 ≤ L ∧ 0 ≤ M ∧ M ≤ 2147483648 ∧ 0 < n ∧ n < 1000000 ∧
  ∀ (L' M' d : Int), 0 ≤ L' → 0 ≤ M' → M' ≤ 2147483648 → 0 ≤ d → d < n → Q (.int d) (upd H p (.lst [.int L', .int M']))
theorem atI0 {a b : V} : atI [a, b] 0 = some a := atI_nat (j := 0) rfl
theorem atI1 {a b : V} : atI [a, b] 1 = some b := atI_nat (j := 1) rfl
theorem ok_take (T : Tx K mg) {f : Addr} {fd : FuncData} (F : FunD K "_law_take" "_law_take" (defArgs s__law_take) (defBody s__law_take) (defScope s__law_take) [] [] f fd) : FnOk P w K mg base CX0 1 f fd ["_law_bag_here", "_law_size"] spTake := by
  refine F.ok sc__law_take (fun vs H Q E h => ?_) (fun cdv A outer s H vs Q E hr h => ⟨_, PSs.nox (
    pss_cons (ps_if (pt_cmpR op_gt (pe_ix ix_list (pv 0) pe_int (fun _ _ => rfl)) pe_int (nomark _)) (pss_cons (ps_set (i := 2) sc__law_take.nd rfl (Or.inl rfl) (pe_op op_mod (pe_ix ix_list (pv 0) pe_int (fun _ _ => rfl)) (pv 1)))
      (pss_cons (ps_asg (pe_op op_fdiv (pe_ix ix_list (pv 0) pe_int (fun _ _ => rfl)) (pv 1)) (pg_sub (pv 0) pe_int set_list))
      (pss_one (ps_ret (pv 2))))) (pss_nil))
      (pss_cons (ps_asg (pe_op op_mod (pe_op op_mul (pe_ix ix_list (pv 0) pe_int (fun _ _ => rfl)) pe_int) pe_int) (pg_sub (pv 0) pe_int set_list))
      (pss_one (ps_ret (pe_op op_mod (pe_op op_fdiv (pe_op op_mod (pe_op op_mul (pe_ix ix_list (pv 0) pe_int (fun _ _ => rfl)) pe_int) pe_int) (pe_op op_pow pe_int pe_int)) (pv 1)))))), ?_⟩)
  · obtain ⟨p, L, M, n, rfl, _⟩ := h
    rfl
  · obtain ⟨p, L, M, n, rfl, hp, h1, h2, h3, h4, h5, q⟩ := h
    refine ⟨_, rfl, p, _, _, _, rfl, rfl, SqL.of hp, atI0, _, _, rfl, rfl, _, rfl, ite2 (fun hl => ?_) (fun hl => ?_)⟩
    · have hl : L > 0 := of_decide_eq_true hl
      refine ⟨_, rfl, p, _, _, _, rfl, rfl, SqL.of hp, atI0, _, rfl, _, _, rfl, rfl, h4, ?_⟩
      refine ⟨_, rfl, p, _, _, _, rfl, rfl, SqL.of hp, atI0, _, rfl, _, _, rfl, rfl, ⟨h4, by omega⟩, ?_⟩
      refine ⟨_, rfl, p, _, 0, 0, rfl, rfl, hp, rfl, _, rfl, q _ _ _ ?_ h2 h3 ?_ ?_⟩
      · exact Int.ediv_nonneg h1 (by omega)
      · exact Int.emod_nonneg _ (by omega)
      · exact Int.emod_lt_of_pos _ h4
    · refine ⟨_, rfl, p, _, _, _, rfl, rfl, SqL.of hp, atI1, _, _, rfl, rfl, .inl ⟨by omega, by omega⟩, _, _, rfl, rfl, (by show (0 : Int) < 2147483647; decide), ?_⟩
      have hx := Int.emod_nonneg (M * 48271) (show (2147483647 : Int) ≠ 0 by decide)
      have hy := Int.emod_lt_of_pos (M * 48271) (show (0 : Int) < 2147483647 by decide)
      refine ⟨_, rfl, p, _, 1, 1, rfl, rfl, hp, rfl, ?_⟩
      refine ⟨_, rfl, p, _, _, _, rfl, rfl, SqL.of (upd_same ..), atI1, _, _, rfl, rfl, .inl ⟨?_, ?_⟩, _, _, rfl, rfl, (by show (0 : Int) < 2147483629; decide), _, _, rfl, rfl, by unfold CPow; decide, _, _, rfl, rfl, ⟨by decide, by decide⟩, _, rfl, _, _, rfl, rfl, h4, q _ _ _ h1 hx ?_ ?_ ?_⟩
      · exact Int.lt_of_lt_of_le (by decide) hx
      · exact Int.lt_trans hy (by decide)
      · exact Int.le_trans (Int.le_of_lt hy) (by decide)
      · exact Int.emod_nonneg _ (by omega)
      · exact Int.emod_lt_of_pos _ h4
end
end K29

set_option Elab.async false
set_option linter.all false
set_option maxRecDepth 100000
set_option maxHeartbeats 4000000
namespace K29
open PySem PySem.Spec PyProof.Rows L2 PySem.XE1
section
variable {P : Program} {w : World} {K : PySem.W.Frag} {mg : Str → Option Value} {base : Heap}
theorem ok_BadName (T : Tx K mg) {f : Addr} {fd : FuncData} (F : FunD K "__init__" "BadName.__init__" (defArgs s_BadName__init_) (defBody s_BadName__init_) (defScope s_BadName__init_) [] [] f fd) : FnOk P w K mg base CX0 1 f fd ["self", "name"] (spI (He.ga K "BadName") 1 (g1 "name")) := by
  refine F.ok sc_BadName__init_ (fun vs H Q E h => ?_) (fun cdv A outer s H vs Q E hr h => ⟨_, PSs.nox (
    pss_cons (ps_expr (pe_binitC (InitF.base PySem.F.excBase_ValueError) rfl (T.gl 33) T.tb.1 T.tb.2.1 T.tb.2.2 (pa_cons (pv 0) (pa_cons pe_str pa_nil))))
      (pss_one (ps_est (pv 0) (pv 1)))), ?_⟩)
  · obtain ⟨a, ws, rfl, hl, _⟩ := h
    show ws.length + 1 = 2
    omega
  · obtain ⟨a, ws, rfl, hl, ha, q⟩ := h
    have T1 := T.ecl 3 tfV
    match ws, hl with
    | [x0], _ =>
      refine ⟨_, rfl, a, _, _, _, _, rfl, (by decide), T1, by decide +kernel, ha, ?_⟩
      exact ⟨_, rfl, _, rfl, a, _, _, _, rfl, T1, (T.ini 0).2.2 _ (by decide), .inl ⟨ha, fun dx hd ne => q dx hd ne⟩⟩
theorem ini_BadName (T : Tx K mg) : IniC P w K mg base CX0 "BadName" (He.ga K "BadName") 1 1 (g1 "name") := by
  obtain ⟨fd, F⟩ := T.fun_ 5
  exact ⟨T.gl 21, ⟨_, _, T.ecl 3 tfV⟩, _, fd, _, (T.ini 0).1, (T.ini 0).2.1, F.bindsN fun _ _ _ _ _ _ us hl => match us, hl with | [_, _], _ => rfl, ok_BadName T F⟩
theorem ok_BadText (T : Tx K mg) {f : Addr} {fd : FuncData} (F : FunD K "__init__" "BadText.__init__" (defArgs s_BadText__init_) (defBody s_BadText__init_) (defScope s_BadText__init_) [] [] f fd) : FnOk P w K mg base CX0 1 f fd ["self", "line"] (spI (He.ga K "BadText") 1 (g1 "line")) := by
  refine F.ok sc_BadText__init_ (fun vs H Q E h => ?_) (fun cdv A outer s H vs Q E hr h => ⟨_, PSs.nox (
    pss_cons (ps_expr (pe_binitC (InitF.base PySem.F.excBase_ValueError) rfl (T.gl 33) T.tb.1 T.tb.2.1 T.tb.2.2 (pa_cons (pv 0) (pa_cons pe_str pa_nil))))
      (pss_one (ps_est (pv 0) (pv 1)))), ?_⟩)
  · obtain ⟨a, ws, rfl, hl, _⟩ := h
    show ws.length + 1 = 2
    omega
  · obtain ⟨a, ws, rfl, hl, ha, q⟩ := h
    have T1 := T.ecl 4 tfV
    match ws, hl with
    | [x0], _ =>
      refine ⟨_, rfl, a, _, _, _, _, rfl, (by decide), T1, by decide +kernel, ha, ?_⟩
      exact ⟨_, rfl, _, rfl, a, _, _, _, rfl, T1, (T.ini 1).2.2 _ (by decide), .inl ⟨ha, fun dx hd ne => q dx hd ne⟩⟩
theorem ini_BadText (T : Tx K mg) : IniC P w K mg base CX0 "BadText" (He.ga K "BadText") 1 1 (g1 "line") := by
  obtain ⟨fd, F⟩ := T.fun_ 6
  exact ⟨T.gl 22, ⟨_, _, T.ecl 4 tfV⟩, _, fd, _, (T.ini 1).1, (T.ini 1).2.1, F.bindsN fun _ _ _ _ _ _ us hl => match us, hl with | [_, _], _ => rfl, ok_BadText T F⟩
theorem ok_ScopeError (T : Tx K mg) {f : Addr} {fd : FuncData} (F : FunD K "__init__" "ScopeError.__init__" (defArgs s_ScopeError__init_) (defBody s_ScopeError__init_) (defScope s_ScopeError__init_) [] [] f fd) : FnOk P w K mg base CX0 1 f fd ["self", "number", "reason"] (spI (He.ga K "ScopeError") 2 (g2 "number" "reason")) := by
  refine F.ok sc_ScopeError__init_ (fun vs H Q E h => ?_) (fun cdv A outer s H vs Q E hr h => ⟨_, PSs.nox (
    pss_cons (ps_expr (pe_binitC (InitF.base PySem.F.excBase_ValueError) rfl (T.gl 33) T.tb.1 T.tb.2.1 T.tb.2.2 (pa_cons (pv 0) (pa_cons pe_str pa_nil))))
      (pss_cons (ps_est (pv 0) (pv 1)) (pss_one (ps_est (pv 0) (pv 2))))), ?_⟩)
  · obtain ⟨a, ws, rfl, hl, _⟩ := h
    show ws.length + 1 = 3
    omega
  · obtain ⟨a, ws, rfl, hl, ha, q⟩ := h
    have T1 := T.ecl 6 tfV
    match ws, hl with
    | [x0, x1], _ =>
      refine ⟨_, rfl, a, _, _, _, _, rfl, (by decide), T1, by decide +kernel, ha, ?_⟩
      refine ⟨_, rfl, _, rfl, a, _, _, _, rfl, T1, (T.ini 2).2.2 _ (by decide), .inl ⟨ha, fun dx hd ne => ?_⟩⟩
      refine ⟨_, rfl, _, rfl, a, _, _, _, rfl, T1, (T.ini 2).2.2 _ (by decide), .inr ⟨dx, _, upd_same .., by rw [upd_ne ne, upd_same], by show 1 ≤ 900; decide, ?_⟩⟩
      have e : upd (upd (upd H dx (exd dx [("number", x0)])) a (exo a (He.ga K "ScopeError") (some dx))) dx (exd dx [("reason", x1), ("number", x0)]) = upd (upd H dx (exd dx [("reason", x1), ("number", x0)])) a (exo a (He.ga K "ScopeError") (some dx)) := by
        funext b
        unfold upd
        by_cases h1 : b = dx
        · subst h1
          rw [if_pos rfl, if_neg ne, if_pos rfl]
        · rw [if_neg h1]
          by_cases h2 : b = a
          · rw [if_pos h2, if_pos h2]
          · rw [if_neg h2, if_neg h1, if_neg h2, if_neg h1]
      rw [e]
      exact q dx hd ne
theorem ini_ScopeError (T : Tx K mg) : IniC P w K mg base CX0 "ScopeError" (He.ga K "ScopeError") 1 2 (g2 "number" "reason") := by
  obtain ⟨fd, F⟩ := T.fun_ 7
  exact ⟨T.gl 24, ⟨_, _, T.ecl 6 tfV⟩, _, fd, _, (T.ini 2).1, (T.ini 2).2.1, F.bindsN fun _ _ _ _ _ _ us hl => match us, hl with | [_, _, _], _ => rfl, ok_ScopeError T F⟩
theorem ok_NoBlock (T : Tx K mg) {f : Addr} {fd : FuncData} (F : FunD K "__init__" "NoBlock.__init__" (defArgs s_NoBlock__init_) (defBody s_NoBlock__init_) (defScope s_NoBlock__init_) [] [] f fd) : FnOk P w K mg base CX0 1 f fd ["self", "block"] (spI (He.ga K "NoBlock") 1 (g1 "block")) := by
  refine F.ok sc_NoBlock__init_ (fun vs H Q E h => ?_) (fun cdv A outer s H vs Q E hr h => ⟨_, PSs.nox (
    pss_cons (ps_expr (pe_binitB (InitF.base PySem.F.excBase_LookupError) rfl (T.fr 1) (by decide +kernel) rfl (by decide +kernel) (T.bl 0) (pa_cons (pv 0) (pa_cons pe_str pa_nil))))
      (pss_one (ps_est (pv 0) (pv 1)))), ?_⟩)
  · obtain ⟨a, ws, rfl, hl, _⟩ := h
    show ws.length + 1 = 2
    omega
  · obtain ⟨a, ws, rfl, hl, ha, q⟩ := h
    have T1 := T.ecl 7 tfL
    match ws, hl with
    | [x0], _ =>
      refine ⟨_, rfl, a, _, _, _, _, rfl, (by decide), T1, by decide +kernel, ha, ?_⟩
      exact ⟨_, rfl, _, rfl, a, _, _, _, rfl, T1, (T.ini 3).2.2 _ (by decide), .inl ⟨ha, fun dx hd ne => q dx hd ne⟩⟩
theorem ini_NoBlock (T : Tx K mg) : IniC P w K mg base CX0 "NoBlock" (He.ga K "NoBlock") 1 1 (g1 "block") := by
  obtain ⟨fd, F⟩ := T.fun_ 8
  exact ⟨T.gl 25, ⟨_, _, T.ecl 7 tfL⟩, _, fd, _, (T.ini 3).1, (T.ini 3).2.1, F.bindsN fun _ _ _ _ _ _ us hl => match us, hl with | [_, _], _ => rfl, ok_NoBlock T F⟩
theorem ok_NoName (T : Tx K mg) {f : Addr} {fd : FuncData} (F : FunD K "__init__" "NoName.__init__" (defArgs s_NoName__init_) (defBody s_NoName__init_) (defScope s_NoName__init_) [] [] f fd) : FnOk P w K mg base CX0 1 f fd ["self", "name"] (spI (He.ga K "NoName") 1 (g1 "name")) := by
  refine F.ok sc_NoName__init_ (fun vs H Q E h => ?_) (fun cdv A outer s H vs Q E hr h => ⟨_, PSs.nox (
    pss_cons (ps_expr (pe_binitB initF_Key rfl (T.fr 2) (by decide +kernel) rfl (by decide +kernel) (T.bl 1) (pa_cons (pv 0) (pa_cons pe_str pa_nil))))
      (pss_one (ps_est (pv 0) (pv 1)))), ?_⟩)
  · obtain ⟨a, ws, rfl, hl, _⟩ := h
    show ws.length + 1 = 2
    omega
  · obtain ⟨a, ws, rfl, hl, ha, q⟩ := h
    have T1 := T.ecl 8 tfK
    match ws, hl with
    | [x0], _ =>
      refine ⟨_, rfl, a, _, _, _, _, rfl, (by decide), T1, by decide +kernel, ha, ?_⟩
      exact ⟨_, rfl, _, rfl, a, _, _, _, rfl, T1, (T.ini 4).2.2 _ (by decide), .inl ⟨ha, fun dx hd ne => q dx hd ne⟩⟩
theorem ini_NoName (T : Tx K mg) : IniC P w K mg base CX0 "NoName" (He.ga K "NoName") 1 1 (g1 "name") := by
  obtain ⟨fd, F⟩ := T.fun_ 9
  exact ⟨T.gl 26, ⟨_, _, T.ecl 8 tfK⟩, _, fd, _, (T.ini 4).1, (T.ini 4).2.1, F.bindsN fun _ _ _ _ _ _ us hl => match us, hl with | [_, _], _ => rfl, ok_NoName T F⟩
theorem ok_NoBinding (T : Tx K mg) {f : Addr} {fd : FuncData} (F : FunD K "__init__" "NoBinding.__init__" (defArgs s_NoBinding__init_) (defBody s_NoBinding__init_) (defScope s_NoBinding__init_) [] [] f fd) : FnOk P w K mg base CX0 1 f fd ["self", "binding"] (spI (He.ga K "NoBinding") 1 (g1 "binding")) := by
  refine F.ok sc_NoBinding__init_ (fun vs H Q E h => ?_) (fun cdv A outer s H vs Q E hr h => ⟨_, PSs.nox (
    pss_cons (ps_expr (pe_binitB initF_Key rfl (T.fr 2) (by decide +kernel) rfl (by decide +kernel) (T.bl 1) (pa_cons (pv 0) (pa_cons pe_str pa_nil))))
      (pss_one (ps_est (pv 0) (pv 1)))), ?_⟩)
  · obtain ⟨a, ws, rfl, hl, _⟩ := h
    show ws.length + 1 = 2
    omega
  · obtain ⟨a, ws, rfl, hl, ha, q⟩ := h
    have T1 := T.ecl 9 tfK
    match ws, hl with
    | [x0], _ =>
      refine ⟨_, rfl, a, _, _, _, _, rfl, (by decide), T1, by decide +kernel, ha, ?_⟩
      exact ⟨_, rfl, _, rfl, a, _, _, _, rfl, T1, (T.ini 5).2.2 _ (by decide), .inl ⟨ha, fun dx hd ne => q dx hd ne⟩⟩
theorem ini_NoBinding (T : Tx K mg) : IniC P w K mg base CX0 "NoBinding" (He.ga K "NoBinding") 1 1 (g1 "binding") := by
  obtain ⟨fd, F⟩ := T.fun_ 10
  exact ⟨T.gl 27, ⟨_, _, T.ecl 9 tfK⟩, _, fd, _, (T.ini 5).1, (T.ini 5).2.1, F.bindsN fun _ _ _ _ _ _ us hl => match us, hl with | [_, _], _ => rfl, ok_NoBinding T F⟩
theorem ok_NoRow (T : Tx K mg) {f : Addr} {fd : FuncData} (F : FunD K "__init__" "NoRow.__init__" (defArgs s_NoRow__init_) (defBody s_NoRow__init_) (defScope s_NoRow__init_) [] [] f fd) : FnOk P w K mg base CX0 1 f fd ["self", "number"] (spI (He.ga K "NoRow") 1 (g1 "number")) := by
  refine F.ok sc_NoRow__init_ (fun vs H Q E h => ?_) (fun cdv A outer s H vs Q E hr h => ⟨_, PSs.nox (
    pss_cons (ps_expr (pe_binitB (InitF.base PySem.F.excBase_IndexError) rfl (T.fr 3) (by decide +kernel) rfl (by decide +kernel) (T.bl 2) (pa_cons (pv 0) (pa_cons pe_str pa_nil))))
      (pss_one (ps_est (pv 0) (pv 1)))), ?_⟩)
  · obtain ⟨a, ws, rfl, hl, _⟩ := h
    show ws.length + 1 = 2
    omega
  · obtain ⟨a, ws, rfl, hl, ha, q⟩ := h
    have T1 := T.ecl 10 tfI
    match ws, hl with
    | [x0], _ =>
      refine ⟨_, rfl, a, _, _, _, _, rfl, (by decide), T1, by decide +kernel, ha, ?_⟩
      exact ⟨_, rfl, _, rfl, a, _, _, _, rfl, T1, (T.ini 6).2.2 _ (by decide), .inl ⟨ha, fun dx hd ne => q dx hd ne⟩⟩
theorem ini_NoRow (T : Tx K mg) : IniC P w K mg base CX0 "NoRow" (He.ga K "NoRow") 1 1 (g1 "number") := by
  obtain ⟨fd, F⟩ := T.fun_ 11
  exact ⟨T.gl 28, ⟨_, _, T.ecl 10 tfI⟩, _, fd, _, (T.ini 6).1, (T.ini 6).2.1, F.bindsN fun _ _ _ _ _ _ us hl => match us, hl with | [_, _], _ => rfl, ok_NoRow T F⟩
theorem ok_NoMention (T : Tx K mg) {f : Addr} {fd : FuncData} (F : FunD K "__init__" "NoMention.__init__" (defArgs s_NoMention__init_) (defBody s_NoMention__init_) (defScope s_NoMention__init_) [] [] f fd) : FnOk P w K mg base CX0 1 f fd ["self", "number"] (spI (He.ga K "NoMention") 1 (g1 "number")) := by
  refine F.ok sc_NoMention__init_ (fun vs H Q E h => ?_) (fun cdv A outer s H vs Q E hr h => ⟨_, PSs.nox (
    pss_cons (ps_expr (pe_binitB (InitF.base PySem.F.excBase_IndexError) rfl (T.fr 3) (by decide +kernel) rfl (by decide +kernel) (T.bl 2) (pa_cons (pv 0) (pa_cons pe_str pa_nil))))
      (pss_one (ps_est (pv 0) (pv 1)))), ?_⟩)
  · obtain ⟨a, ws, rfl, hl, _⟩ := h
    show ws.length + 1 = 2
    omega
  · obtain ⟨a, ws, rfl, hl, ha, q⟩ := h
    have T1 := T.ecl 11 tfI
    match ws, hl with
    | [x0], _ =>
      refine ⟨_, rfl, a, _, _, _, _, rfl, (by decide), T1, by decide +kernel, ha, ?_⟩
      exact ⟨_, rfl, _, rfl, a, _, _, _, rfl, T1, (T.ini 7).2.2 _ (by decide), .inl ⟨ha, fun dx hd ne => q dx hd ne⟩⟩
theorem ini_NoMention (T : Tx K mg) : IniC P w K mg base CX0 "NoMention" (He.ga K "NoMention") 1 1 (g1 "number") := by
  obtain ⟨fd, F⟩ := T.fun_ 12
  exact ⟨T.gl 29, ⟨_, _, T.ecl 11 tfI⟩, _, fd, _, (T.ini 7).1, (T.ini 7).2.1, F.bindsN fun _ _ _ _ _ _ us hl => match us, hl with | [_, _], _ => rfl, ok_NoMention T F⟩
theorem ok_Captured (T : Tx K mg) {f : Addr} {fd : FuncData} (F : FunD K "__init__" "Captured.__init__" (defArgs s_Captured__init_) (defBody s_Captured__init_) (defScope s_Captured__init_) [] [] f fd) : FnOk P w K mg base CX0 1 f fd ["self", "number"] (spI (He.ga K "Captured") 1 (g1 "number")) := by
  refine F.ok sc_Captured__init_ (fun vs H Q E h => ?_) (fun cdv A outer s H vs Q E hr h => ⟨_, PSs.nox (
    pss_cons (ps_expr (pe_binitB (InitF.base PySem.F.excBase_RuntimeError) rfl (T.fr 4) (by decide +kernel) rfl (by decide +kernel) (T.bl 3) (pa_cons (pv 0) (pa_cons pe_str pa_nil))))
      (pss_one (ps_est (pv 0) (pv 1)))), ?_⟩)
  · obtain ⟨a, ws, rfl, hl, _⟩ := h
    show ws.length + 1 = 2
    omega
  · obtain ⟨a, ws, rfl, hl, ha, q⟩ := h
    have T1 := T.ecl 12 tfR
    match ws, hl with
    | [x0], _ =>
      refine ⟨_, rfl, a, _, _, _, _, rfl, (by decide), T1, by decide +kernel, ha, ?_⟩
      exact ⟨_, rfl, _, rfl, a, _, _, _, rfl, T1, (T.ini 8).2.2 _ (by decide), .inl ⟨ha, fun dx hd ne => q dx hd ne⟩⟩
theorem ini_Captured (T : Tx K mg) : IniC P w K mg base CX0 "Captured" (He.ga K "Captured") 1 1 (g1 "number") := by
  obtain ⟨fd, F⟩ := T.fun_ 13
  exact ⟨T.gl 30, ⟨_, _, T.ecl 12 tfR⟩, _, fd, _, (T.ini 8).1, (T.ini 8).2.1, F.bindsN fun _ _ _ _ _ _ us hl => match us, hl with | [_, _], _ => rfl, ok_Captured T F⟩
theorem ok_Full (T : Tx K mg) {f : Addr} {fd : FuncData} (F : FunD K "__init__" "Full.__init__" (defArgs s_Full__init_) (defBody s_Full__init_) (defScope s_Full__init_) [] [] f fd) : FnOk P w K mg base CX0 1 f fd ["self", "most"] (spI (He.ga K "Full") 1 (g1 "most")) := by
  refine F.ok sc_Full__init_ (fun vs H Q E h => ?_) (fun cdv A outer s H vs Q E hr h => ⟨_, PSs.nox (
    pss_cons (ps_expr (pe_binitB (InitF.base PySem.F.excBase_OverflowError) rfl (T.fr 5) (by decide +kernel) rfl (by decide +kernel) (T.bl 4) (pa_cons (pv 0) (pa_cons pe_str pa_nil))))
      (pss_one (ps_est (pv 0) (pv 1)))), ?_⟩)
  · obtain ⟨a, ws, rfl, hl, _⟩ := h
    show ws.length + 1 = 2
    omega
  · obtain ⟨a, ws, rfl, hl, ha, q⟩ := h
    have T1 := T.ecl 13 tfO
    match ws, hl with
    | [x0], _ =>
      refine ⟨_, rfl, a, _, _, _, _, rfl, (by decide), T1, by decide +kernel, ha, ?_⟩
      exact ⟨_, rfl, _, rfl, a, _, _, _, rfl, T1, (T.ini 9).2.2 _ (by decide), .inl ⟨ha, fun dx hd ne => q dx hd ne⟩⟩
theorem ini_Full (T : Tx K mg) : IniC P w K mg base CX0 "Full" (He.ga K "Full") 1 1 (g1 "most") := by
  obtain ⟨fd, F⟩ := T.fun_ 14
  exact ⟨T.gl 31, ⟨_, _, T.ecl 13 tfO⟩, _, fd, _, (T.ini 9).1, (T.ini 9).2.1, F.bindsN fun _ _ _ _ _ _ us hl => match us, hl with | [_, _], _ => rfl, ok_Full T F⟩
end
end K29

set_option Elab.async false
set_option linter.all false
set_option maxRecDepth 100000
set_option maxHeartbeats 4000000
namespace K29
open PySem PySem.Spec PyProof.Rows L2 PySem.XE1
def D16 : List PyData := [.none, .bool true, .int 0, .int (-1), .int (10 ^ 30), .str "", .str "zz", .tuple [], .tuple [.int 0, .int 1], .list [.int 0], .dict [(.str "a", .int 1)], .tuple [.tuple [], .str "a"], .tuple [.str "hole"], .str "if", .int 300, .bool false]
def spThing (K : PySem.W.Frag) : Sp := fun vs H Q _ => ∃ (p : Addr) (L M : Int), vs = [.ref p] ∧ H p = some (.lst [.int L, .int M]) ∧ 0 ≤ L ∧ 0 ≤ M ∧ M ≤ 2147483648 ∧
  ∀ (H' : Hp) (L' M' : Int) (v : V) (d : PyData), Same (hdel H p) (hdel H' p) → H' p = some (.lst [.int L', .int M']) → 0 ≤ L' → 0 ≤ M' → M' ≤ 2147483648 → d ∈ D16 → Dx K (hdel H' p) v d → Q v H'
section
variable {P : Program} {w : World} {K : PySem.W.Frag} {mg : Str → Option Value} {base : Heap}
theorem cal_take (T : Tx K mg) : Cal P w K mg base CX0 "_law_take" 1 ["_law_bag_here", "_law_size"] spTake := by
  obtain ⟨fd, F⟩ := T.fun_ 1
  exact ⟨_, fd, T.gl 15, F.kp, F.bindsN fun _ _ _ _ _ _ us hl => match us, hl with | [_, _], _ => rfl, ok_take T F⟩
theorem ok_thing (T : Tx K mg) {f : Addr} {fd : FuncData} (F : FunD K "_law_thing" "_law_thing" (defArgs s__law_thing) (defBody s__law_thing) (defScope s__law_thing) [] [] f fd) : FnOk P w K mg base CX0 2 f fd ["_law_bag_here"] (spThing K) := by
  refine F.ok sc__law_thing (fun vs H Q E h => ?_) (fun cdv A outer s H vs Q E hr h => ⟨_, PSs.nox (
    pss_cons (ps_set (i := 1) sc__law_thing.nd rfl (Or.inl rfl) (pe_lst (pa_cons pe_non (pa_cons pe_bl (pa_cons pe_int (pa_cons (pe_un un_neg pe_int) (pa_cons (pe_op op_pow pe_int pe_int) (pa_cons pe_str (pa_cons pe_str (pa_cons (pe_tup pa_nil) (pa_cons (pe_tup (pa_cons pe_int (pa_cons pe_int pa_nil))) (pa_cons (pe_lst (pa_cons pe_int pa_nil)) (pa_cons (pe_disp (pps_cons pe_str pe_int pps_nil) (by rfl) (by rfl) (fun z => by cases z) (by decide)) (pa_cons (pe_tup (pa_cons (pe_tup pa_nil) (pa_cons pe_str pa_nil))) (pa_cons (pe_tup (pa_cons pe_str pa_nil)) (pa_cons pe_str (pa_cons pe_int (pa_cons pe_bl pa_nil))))))))))))))))))
      (pss_one (ps_ret (pe_ix ix_list (pv 1) (pe_cal (cal_take T) hr pass0 (pa_cons (pv 0) (pa_cons pe_int pa_nil))) (fun _ _ => rfl))))), ?_⟩)
  · obtain ⟨p, L, M, rfl, _⟩ := h
    rfl
  · obtain ⟨p, L, M, rfl, hp, h1, h2, h3, q⟩ := h
    refine ⟨_, rfl, _, _, rfl, rfl, by unfold CPow; decide, by show 0 ≤ sizeLine; decide, fun t1 n1 => ⟨by show 2 ≤ sizeLine; decide, fun t2 n2 => ⟨by show 1 ≤ sizeLine; decide, fun t3 n3 => fun t4 n4 => ?_⟩⟩⟩
    refine ⟨upd_same .., [(Sum.inr "a", .int 1)], rfl, by decide, ?_⟩
    refine ⟨by show 0 ≤ sizeLine; decide, fun t5 n5 => ⟨by show 2 ≤ sizeLine; decide, fun t6 n6 => ⟨by show 1 ≤ sizeLine; decide, fun t7 n7 => ⟨by show 16 ≤ sizeLine; decide, fun l n8 => ?_⟩⟩⟩⟩
    have m1 := (same_upd (o := HO.tup []) n1) _ _ hp
    have m2 := (same_upd (o := HO.tup [V.int 0, V.int 1]) n2) _ _ m1
    have m3 := (same_upd (o := HO.lst [V.int 0]) n3) _ _ m2
    have m4 := (same_upd2 (o := HO.dK []) (o' := HO.dK (mergeK [] [(Sum.inr "a", .int 1)])) n4) _ _ m3
    have m5 := (same_upd (o := HO.tup []) n5) _ _ m4
    have m6 := (same_upd (o := HO.tup [V.ref t5, .str "a"]) n6) _ _ m5
    have m7 := (same_upd (o := HO.tup [V.str "hole"]) n7) _ _ m6
    have k1 : t1 ≠ p := fun e => by rw [e, hp] at n1; cases n1
    have k2 : t2 ≠ p := fun e => by rw [e, m1] at n2; cases n2
    have k3 : t3 ≠ p := fun e => by rw [e, m2] at n3; cases n3
    have k4 : t4 ≠ p := fun e => by rw [e, m3] at n4; cases n4
    have k5 : t5 ≠ p := fun e => by rw [e, m4] at n5; cases n5
    have k6 : t6 ≠ p := fun e => by rw [e, m5] at n6; cases n6
    have k7 : t7 ≠ p := fun e => by rw [e, m6] at n7; cases n7
    have k8 : l ≠ p := fun e => by rw [e, m7] at n8; cases n8
    refine ⟨_, rfl, _, rfl, p, L, M, 16, rfl, (same_upd n8) _ _ m7, h1, h2, h3, by decide, by decide, fun L' M' d b1 b2 b3 b4 b5 => ?_⟩
    have all : DxAll K (hdel (upd (upd (upd (upd (upd (upd (upd (upd (upd H t1 (HO.tup [])) t2 (HO.tup [V.int 0, V.int 1])) t3 (HO.lst [V.int 0])) t4 (HO.dK [])) t4 (HO.dK (mergeK [] [(Sum.inr "a", .int 1)]))) t5 (HO.tup [])) t6 (HO.tup [V.ref t5, .str "a"])) t7 (HO.tup [V.str "hole"])) l
        (HO.lst [.non, .bl true, .int 0, .int (-1), .int (10 ^ 30), .str "", .str "zz", .ref t1, .ref t2, .ref t3, .ref t4, .ref t6, .ref t7, .str "if", .int 300, .bl false])) p)
        [.non, .bl true, .int 0, .int (-1), .int (10 ^ 30), .str "", .str "zz", .ref t1, .ref t2, .ref t3, .ref t4, .ref t6, .ref t7, .str "if", .int 300, .bl false] D16 := by
      refine .cons (.dp .non rfl) (.cons (.dp (.bl _) rfl) (.cons (.dp (.int _) rfl) (.cons (.dp (.int _) rfl) (.cons (.dp (.int _) rfl) (.cons (.dp (.str _) rfl) (.cons (.dp (.str _) rfl) (.cons (.dp (.tup (SqT.of (hdel_get k1 ?_)) .nil) rfl)
        (.cons (.dp (.tup (SqT.of (hdel_get k2 ?_)) (.cons (.int _) (.cons (.int _) .nil))) rfl) (.cons (.dp (.lst (SqL.of (hdel_get k3 ?_)) (.cons (.int _) .nil)) rfl) (.cons (.dc _ _ (hdel_get k4 ?_)) (.cons (.dp (.tup (SqT.of (hdel_get k6 ?_)) (.cons (.tup (SqT.of (hdel_get k5 ?_)) .nil) (.cons (.str _) .nil))) rfl)
        (.cons (.dp (.tup (SqT.of (hdel_get k7 ?_)) (.cons (.str _) .nil)) rfl) (.cons (.dp (.str _) rfl) (.cons (.dp (.int _) rfl) (.cons (.dp (.bl _) rfl) .nil)))))))))))))))
      · exact same_upd n8 _ _ (same_upd n7 _ _ (same_upd n6 _ _ (same_upd n5 _ _ (same_upd2 n4 _ _ (same_upd n3 _ _ (same_upd n2 _ _ (upd_same ..)))))))
      · exact same_upd n8 _ _ (same_upd n7 _ _ (same_upd n6 _ _ (same_upd n5 _ _ (same_upd2 n4 _ _ (same_upd n3 _ _ (upd_same ..))))))
      · exact same_upd n8 _ _ (same_upd n7 _ _ (same_upd n6 _ _ (same_upd n5 _ _ (same_upd2 n4 _ _ (upd_same ..)))))
      · exact same_upd n8 _ _ (same_upd n7 _ _ (same_upd n6 _ _ (same_upd n5 _ _ (upd_same ..))))
      · exact same_upd n8 _ _ (same_upd n7 _ _ (upd_same ..))
      · exact same_upd n8 _ _ (same_upd n7 _ _ (same_upd n6 _ _ (upd_same ..)))
      · exact same_upd n8 _ _ (upd_same ..)
    obtain ⟨v, dd, v1, v2, v3⟩ := all.get d.toNat (by show d.toNat < 16; omega)
    have ed : d = (d.toNat : Int) := by omega
    refine ⟨l, _, _, v, rfl, rfl, SqL.of (by rw [upd_ne k8, upd_same]), by rw [ed]; exact atI_nat v1, ?_⟩
    refine q _ L' M' v dd (hdel_upd ?_) (upd_same ..) b1 b2 b3 (List.mem_of_getElem? v2) (v3.same (hdel_upd (Same.refl _)))
    exact (same_upd n1).trans ((same_upd n2).trans ((same_upd n3).trans ((same_upd2 n4).trans ((same_upd n5).trans ((same_upd n6).trans ((same_upd n7).trans (same_upd n8)))))))
end
end K29

set_option Elab.async false
set_option linter.all false
set_option maxRecDepth 100000
set_option maxHeartbeats 4000000
namespace K29
open PySem PySem.Spec PyProof.Rows L2 PySem.XE1
def intsD (l : List Nat) : List PyData := l.map fun i => .int (i : Nat)
def spKinds (K : PySem.W.Frag) : Sp := fun vs H Q _ => ∃ (x : Str) (A B : List Nat) (i : Nat) (a dx : Addr) (fs : List (Str × V)), vs = [.ref a] ∧ kts[i]? = some (x, A, B) ∧ H a = some (exo a (He.ga K x) (some dx)) ∧ H dx = some (exd dx fs) ∧ (∃ tail newId, ECl K (He.ga K x) tail newId) ∧
  ∀ (H' : Hp) (r : Addr), Same H H' → (∀ p, H p ≠ none → Dp K (hdel H' p) (.ref r) (.list [.list (intsD A), .list (intsD B)])) → Q (.ref r) H'
theorem dp_ints {K : PySem.W.Frag} {H : Hp} : ∀ l : List Nat, DpAll K H (intsV l) (intsD l)
  | [] => .nil
  | _ :: r => .cons (.int _) (dp_ints r)
theorem kts_true (i : Nat) {x : Str} {A B : List Nat} (h : kts[i]? = some (x, A, B)) : trueAt [A.contains 0, A.contains 1, A.contains 2, A.contains 3, A.contains 4, A.contains 5, A.contains 6, A.contains 7, A.contains 8, A.contains 9, A.contains 10, A.contains 11, A.contains 12, A.contains 13] 14 = A ∧ trueAt [B.contains 0, B.contains 1, B.contains 2, B.contains 3, B.contains 4, B.contains 5, B.contains 6] 7 = B := by
  have all : ∀ c ∈ kts, trueAt [c.2.1.contains 0, c.2.1.contains 1, c.2.1.contains 2, c.2.1.contains 3, c.2.1.contains 4, c.2.1.contains 5, c.2.1.contains 6, c.2.1.contains 7, c.2.1.contains 8, c.2.1.contains 9, c.2.1.contains 10, c.2.1.contains 11, c.2.1.contains 12, c.2.1.contains 13] 14 = c.2.1 ∧ trueAt [c.2.2.contains 0, c.2.2.contains 1, c.2.2.contains 2, c.2.2.contains 3, c.2.2.contains 4, c.2.2.contains 5, c.2.2.contains 6] 7 = c.2.2 := by decide +kernel
  exact all _ (List.mem_of_getElem? h)
section
variable {P : Program} {w : World} {K : PySem.W.Frag} {mg : Str → Option Value} {base : Heap}
theorem ok_kinds (T : Tx K mg) {f : Addr} {fd : FuncData} (F : FunD K "_law_kinds" "_law_kinds" (defArgs s__law_kinds) (defBody s__law_kinds) (defScope s__law_kinds) [] [] f fd) : FnOk P w K mg base CX0 1 f fd ["_law_made"] (spKinds K) := by
  refine F.ok sc__law_kinds (fun vs H Q E h => ?_) (fun cdv A outer s H vs Q E hr h => ⟨_, PSs.nox (
    pss_cons (ps_set (i := 1) sc__law_kinds.nd rfl (Or.inl rfl) (pe_lst (pa_cons (pe_callB call_isX (by rfl) (T.fr 8) (by decide +kernel) (pa_cons (pv 0) (pa_cons (pe_glob (v := .ref _) rfl (T.gl 19) rfl) pa_nil))) (pa_cons (pe_callB call_isX (by rfl) (T.fr 8) (by decide +kernel) (pa_cons (pv 0) (pa_cons (pe_glob (v := .ref _) rfl (T.gl 20) rfl) pa_nil))) (pa_cons (pe_callB call_isX (by rfl) (T.fr 8) (by decide +kernel) (pa_cons (pv 0) (pa_cons (pe_glob (v := .ref _) rfl (T.gl 21) rfl) pa_nil))) pa_nil)))))
      (pss_cons (ps_set (i := 1) sc__law_kinds.nd rfl (Or.inl rfl) (pe_op op_cat (pv 1) (pe_lst (pa_cons (pe_callB call_isX (by rfl) (T.fr 8) (by decide +kernel) (pa_cons (pv 0) (pa_cons (pe_glob (v := .ref _) rfl (T.gl 22) rfl) pa_nil))) (pa_cons (pe_callB call_isX (by rfl) (T.fr 8) (by decide +kernel) (pa_cons (pv 0) (pa_cons (pe_glob (v := .ref _) rfl (T.gl 23) rfl) pa_nil))) (pa_cons (pe_callB call_isX (by rfl) (T.fr 8) (by decide +kernel) (pa_cons (pv 0) (pa_cons (pe_glob (v := .ref _) rfl (T.gl 24) rfl) pa_nil))) pa_nil))))))
      (pss_cons (ps_set (i := 1) sc__law_kinds.nd rfl (Or.inl rfl) (pe_op op_cat (pv 1) (pe_lst (pa_cons (pe_callB call_isX (by rfl) (T.fr 8) (by decide +kernel) (pa_cons (pv 0) (pa_cons (pe_glob (v := .ref _) rfl (T.gl 25) rfl) pa_nil))) (pa_cons (pe_callB call_isX (by rfl) (T.fr 8) (by decide +kernel) (pa_cons (pv 0) (pa_cons (pe_glob (v := .ref _) rfl (T.gl 26) rfl) pa_nil))) (pa_cons (pe_callB call_isX (by rfl) (T.fr 8) (by decide +kernel) (pa_cons (pv 0) (pa_cons (pe_glob (v := .ref _) rfl (T.gl 27) rfl) pa_nil))) pa_nil))))))
      (pss_cons (ps_set (i := 1) sc__law_kinds.nd rfl (Or.inl rfl) (pe_op op_cat (pv 1) (pe_lst (pa_cons (pe_callB call_isX (by rfl) (T.fr 8) (by decide +kernel) (pa_cons (pv 0) (pa_cons (pe_glob (v := .ref _) rfl (T.gl 28) rfl) pa_nil))) (pa_cons (pe_callB call_isX (by rfl) (T.fr 8) (by decide +kernel) (pa_cons (pv 0) (pa_cons (pe_glob (v := .ref _) rfl (T.gl 29) rfl) pa_nil))) (pa_cons (pe_callB call_isX (by rfl) (T.fr 8) (by decide +kernel) (pa_cons (pv 0) (pa_cons (pe_glob (v := .ref _) rfl (T.gl 30) rfl) pa_nil))) pa_nil))))))
      (pss_cons (ps_set (i := 1) sc__law_kinds.nd rfl (Or.inl rfl) (pe_op op_cat (pv 1) (pe_lst (pa_cons (pe_callB call_isX (by rfl) (T.fr 8) (by decide +kernel) (pa_cons (pv 0) (pa_cons (pe_glob (v := .ref _) rfl (T.gl 31) rfl) pa_nil))) (pa_cons (pe_callB call_isX (by rfl) (T.fr 8) (by decide +kernel) (pa_cons (pv 0) (pa_cons (pe_glob (v := .ref _) rfl (T.gl 32) rfl) pa_nil))) pa_nil)))))
      (pss_cons (ps_set (i := 2) sc__law_kinds.nd rfl (Or.inl rfl) (pe_lst (pa_cons (pe_callB call_isX (by rfl) (T.fr 8) (by decide +kernel) (pa_cons (pv 0) (pa_cons (pe_glob (v := .ref _) rfl (T.gl 33) rfl) pa_nil))) (pa_cons (pe_callB call_isX (by rfl) (T.fr 8) (by decide +kernel) (pa_cons (pv 0) (pa_cons (pe_bltn (v := .ty "ValueError") (by rfl) (T.fr 0) (by decide +kernel) rfl) pa_nil))) (pa_cons (pe_callB call_isX (by rfl) (T.fr 8) (by decide +kernel) (pa_cons (pv 0) (pa_cons (pe_bltn (v := .ty "LookupError") (by rfl) (T.fr 1) (by decide +kernel) rfl) pa_nil))) pa_nil)))))
      (pss_cons (ps_set (i := 2) sc__law_kinds.nd rfl (Or.inl rfl) (pe_op op_cat (pv 2) (pe_lst (pa_cons (pe_callB call_isX (by rfl) (T.fr 8) (by decide +kernel) (pa_cons (pv 0) (pa_cons (pe_bltn (v := .ty "KeyError") (by rfl) (T.fr 2) (by decide +kernel) rfl) pa_nil))) (pa_cons (pe_callB call_isX (by rfl) (T.fr 8) (by decide +kernel) (pa_cons (pv 0) (pa_cons (pe_bltn (v := .ty "IndexError") (by rfl) (T.fr 3) (by decide +kernel) rfl) pa_nil))) (pa_cons (pe_callB call_isX (by rfl) (T.fr 8) (by decide +kernel) (pa_cons (pv 0) (pa_cons (pe_bltn (v := .ty "RuntimeError") (by rfl) (T.fr 4) (by decide +kernel) rfl) pa_nil))) pa_nil))))))
      (pss_cons (ps_set (i := 2) sc__law_kinds.nd rfl (Or.inl rfl) (pe_op op_cat (pv 2) (pe_lst (pa_cons (pe_callB call_isX (by rfl) (T.fr 8) (by decide +kernel) (pa_cons (pv 0) (pa_cons (pe_bltn (v := .ty "OverflowError") (by rfl) (T.fr 5) (by decide +kernel) rfl) pa_nil))) pa_nil))))
      (pss_one (ps_ret (pe_lst (pa_cons (pe_lc (own := [("_law_at", 3), ("_law_one", 4)]) (g := (gTup _ 2 (gCons (gName 3) (gCons (gName 4) gNil)))) (tt := tB (tVar 4)) (by rfl) sc__law_kinds.nd (pi_enum (by rfl) (T.fr 9) (pa_cons (pv 1) pa_nil)) (blkOk_by (own := [("_law_at", 3), ("_law_one", 4)]) (N := N__law_kinds) (sc := defScope s__law_kinds) (by decide +kernel)) (fun _ _ _ _ _ => pg_tup (by rfl) (pgs_cons (pg_name (i := 3) sc__law_kinds.nd rfl (Or.inl rfl)) (pgs_cons (pg_name (i := 4) sc__law_kinds.nd rfl (Or.inl rfl)) pgs_nil))) (fun _ _ _ _ _ => pts_one (pt_val (pv 4))) (fun _ _ _ _ _ => pv 3)) (pa_cons (pe_lc (own := [("_law_at", 3), ("_law_one", 4)]) (g := (gTup _ 2 (gCons (gName 3) (gCons (gName 4) gNil)))) (tt := tB (tVar 4)) (by rfl) sc__law_kinds.nd (pi_enum (by rfl) (T.fr 9) (pa_cons (pv 2) pa_nil)) (blkOk_by (own := [("_law_at", 3), ("_law_one", 4)]) (N := N__law_kinds) (sc := defScope s__law_kinds) (by decide +kernel)) (fun _ _ _ _ _ => pg_tup (by rfl) (pgs_cons (pg_name (i := 3) sc__law_kinds.nd rfl (Or.inl rfl)) (pgs_cons (pg_name (i := 4) sc__law_kinds.nd rfl (Or.inl rfl)) pgs_nil))) (fun _ _ _ _ _ => pts_one (pt_val (pv 4))) (fun _ _ _ _ _ => pv 3)) pa_nil))))))))))))), ?_⟩)
  · obtain ⟨x, A, B, i, a, dx, fs, rfl, _⟩ := h
    rfl
  · obtain ⟨x, A, B, i, a, dx, fs, rfl, hk, ha, hd, ⟨tail, newId, TE⟩, q⟩ := h
    obtain ⟨K1, K2, K3⟩ := T.kt i hk
    have S0 : Same H H := Same.refl H
    refine ⟨_, rfl, a, _, dx, fs, _, _, _, tail, newId, rfl, .own _, TE, (S0 _ _ ha), (S0 _ _ hd), K1 0 (by decide), _, rfl, a, _, dx, fs, _, _, _, tail, newId, rfl, .own _, TE, (S0 _ _ ha), (S0 _ _ hd), K1 1 (by decide), _, rfl, a, _, dx, fs, _, _, _, tail, newId, rfl, .own _, TE, (S0 _ _ ha), (S0 _ _ hd), K1 2 (by decide), by show 3 ≤ sizeLine; decide, fun p1 n1 => ?_⟩
    have S1 := S0.trans (same_upd (o := HO.lst [.bl (A.contains 0), .bl (A.contains 1), .bl (A.contains 2)]) n1)
    refine ⟨_, rfl, _, rfl, a, _, dx, fs, _, _, _, tail, newId, rfl, .own _, TE, (S1 _ _ ha), (S1 _ _ hd), K1 3 (by decide), _, rfl, a, _, dx, fs, _, _, _, tail, newId, rfl, .own _, TE, (S1 _ _ ha), (S1 _ _ hd), K1 4 (by decide), _, rfl, a, _, dx, fs, _, _, _, tail, newId, rfl, .own _, TE, (S1 _ _ ha), (S1 _ _ hd), K1 5 (by decide), by show 3 ≤ sizeLine; decide, fun p2 n2 => ⟨p1, p2, _, _, rfl, rfl, same_upd n2 _ _ (upd_same ..), upd_same .., by show 6 ≤ sizeLine; decide, fun p3 n3 => ?_⟩⟩
    have S2 := S1.trans (same_upd (o := HO.lst [.bl (A.contains 3), .bl (A.contains 4), .bl (A.contains 5)]) n2)
    have S3 := S2.trans (same_upd (o := HO.lst [.bl (A.contains 0), .bl (A.contains 1), .bl (A.contains 2), .bl (A.contains 3), .bl (A.contains 4), .bl (A.contains 5)]) n3)
    refine ⟨_, rfl, _, rfl, a, _, dx, fs, _, _, _, tail, newId, rfl, .own _, TE, (S3 _ _ ha), (S3 _ _ hd), K1 6 (by decide), _, rfl, a, _, dx, fs, _, _, _, tail, newId, rfl, .own _, TE, (S3 _ _ ha), (S3 _ _ hd), K1 7 (by decide), _, rfl, a, _, dx, fs, _, _, _, tail, newId, rfl, .own _, TE, (S3 _ _ ha), (S3 _ _ hd), K1 8 (by decide), by show 3 ≤ sizeLine; decide, fun p4 n4 => ⟨p3, p4, _, _, rfl, rfl, same_upd n4 _ _ (upd_same ..), upd_same .., by show 9 ≤ sizeLine; decide, fun p5 n5 => ?_⟩⟩
    have S4 := S3.trans (same_upd (o := HO.lst [.bl (A.contains 6), .bl (A.contains 7), .bl (A.contains 8)]) n4)
    have S5 := S4.trans (same_upd (o := HO.lst [.bl (A.contains 0), .bl (A.contains 1), .bl (A.contains 2), .bl (A.contains 3), .bl (A.contains 4), .bl (A.contains 5), .bl (A.contains 6), .bl (A.contains 7), .bl (A.contains 8)]) n5)
    refine ⟨_, rfl, _, rfl, a, _, dx, fs, _, _, _, tail, newId, rfl, .own _, TE, (S5 _ _ ha), (S5 _ _ hd), K1 9 (by decide), _, rfl, a, _, dx, fs, _, _, _, tail, newId, rfl, .own _, TE, (S5 _ _ ha), (S5 _ _ hd), K1 10 (by decide), _, rfl, a, _, dx, fs, _, _, _, tail, newId, rfl, .own _, TE, (S5 _ _ ha), (S5 _ _ hd), K1 11 (by decide), by show 3 ≤ sizeLine; decide, fun p6 n6 => ⟨p5, p6, _, _, rfl, rfl, same_upd n6 _ _ (upd_same ..), upd_same .., by show 12 ≤ sizeLine; decide, fun p7 n7 => ?_⟩⟩
    have S6 := S5.trans (same_upd (o := HO.lst [.bl (A.contains 9), .bl (A.contains 10), .bl (A.contains 11)]) n6)
    have S7 := S6.trans (same_upd (o := HO.lst [.bl (A.contains 0), .bl (A.contains 1), .bl (A.contains 2), .bl (A.contains 3), .bl (A.contains 4), .bl (A.contains 5), .bl (A.contains 6), .bl (A.contains 7), .bl (A.contains 8), .bl (A.contains 9), .bl (A.contains 10), .bl (A.contains 11)]) n7)
    refine ⟨_, rfl, _, rfl, a, _, dx, fs, _, _, _, tail, newId, rfl, .own _, TE, (S7 _ _ ha), (S7 _ _ hd), K1 12 (by decide), _, rfl, a, _, dx, fs, _, _, _, tail, newId, rfl, .own _, TE, (S7 _ _ ha), (S7 _ _ hd), K1 13 (by decide), by show 2 ≤ sizeLine; decide, fun p8 n8 => ⟨p7, p8, _, _, rfl, rfl, same_upd n8 _ _ (upd_same ..), upd_same .., by show 14 ≤ sizeLine; decide, fun p9 n9 => ?_⟩⟩
    have S8 := S7.trans (same_upd (o := HO.lst [.bl (A.contains 12), .bl (A.contains 13)]) n8)
    have S9 := S8.trans (same_upd (o := HO.lst [.bl (A.contains 0), .bl (A.contains 1), .bl (A.contains 2), .bl (A.contains 3), .bl (A.contains 4), .bl (A.contains 5), .bl (A.contains 6), .bl (A.contains 7), .bl (A.contains 8), .bl (A.contains 9), .bl (A.contains 10), .bl (A.contains 11), .bl (A.contains 12), .bl (A.contains 13)]) n9)
    refine ⟨_, rfl, a, _, dx, fs, _, _, _, tail, newId, rfl, .own _, TE, (S9 _ _ ha), (S9 _ _ hd), K2, _, rfl, a, _, dx, fs, _, _, _, tail, newId, rfl, .ty _, TE, (S9 _ _ ha), (S9 _ _ hd), K3 0 (by decide), _, rfl, a, _, dx, fs, _, _, _, tail, newId, rfl, .ty _, TE, (S9 _ _ ha), (S9 _ _ hd), K3 1 (by decide), by show 3 ≤ sizeLine; decide, fun p10 n10 => ?_⟩
    have S10 := S9.trans (same_upd (o := HO.lst [.bl (B.contains 0), .bl (B.contains 1), .bl (B.contains 2)]) n10)
    refine ⟨_, rfl, _, rfl, a, _, dx, fs, _, _, _, tail, newId, rfl, .ty _, TE, (S10 _ _ ha), (S10 _ _ hd), K3 2 (by decide), _, rfl, a, _, dx, fs, _, _, _, tail, newId, rfl, .ty _, TE, (S10 _ _ ha), (S10 _ _ hd), K3 3 (by decide), _, rfl, a, _, dx, fs, _, _, _, tail, newId, rfl, .ty _, TE, (S10 _ _ ha), (S10 _ _ hd), K3 4 (by decide), by show 3 ≤ sizeLine; decide, fun p11 n11 => ⟨p10, p11, _, _, rfl, rfl, same_upd n11 _ _ (upd_same ..), upd_same .., by show 6 ≤ sizeLine; decide, fun p12 n12 => ?_⟩⟩
    have S11 := S10.trans (same_upd (o := HO.lst [.bl (B.contains 3), .bl (B.contains 4), .bl (B.contains 5)]) n11)
    have S12 := S11.trans (same_upd (o := HO.lst [.bl (B.contains 0), .bl (B.contains 1), .bl (B.contains 2), .bl (B.contains 3), .bl (B.contains 4), .bl (B.contains 5)]) n12)
    refine ⟨_, rfl, _, rfl, a, _, dx, fs, _, _, _, tail, newId, rfl, .ty _, TE, (S12 _ _ ha), (S12 _ _ hd), K3 5 (by decide), by show 1 ≤ sizeLine; decide, fun p13 n13 => ⟨p12, p13, _, _, rfl, rfl, same_upd n13 _ _ (upd_same ..), upd_same .., by show 7 ≤ sizeLine; decide, fun p14 n14 => ?_⟩⟩
    have S13 := S12.trans (same_upd (o := HO.lst [.bl (B.contains 6)]) n13)
    have S14 := S13.trans (same_upd (o := HO.lst [.bl (B.contains 0), .bl (B.contains 1), .bl (B.contains 2), .bl (B.contains 3), .bl (B.contains 4), .bl (B.contains 5), .bl (B.contains 6)]) n14)
    refine ⟨_, rfl, p9, _, rfl, SqL.of (same_upd n14 _ _ (same_upd n13 _ _ (same_upd n12 _ _ (same_upd n11 _ _ (same_upd n10 _ _ (upd_same ..)))))), fun D hD => lc_true (bs := [A.contains 0, A.contains 1, A.contains 2, A.contains 3, A.contains 4, A.contains 5, A.contains 6, A.contains 7, A.contains 8, A.contains 9, A.contains 10, A.contains 11, A.contains 12, A.contains 13]) hD (SqL.of (same_upd n14 _ _ (same_upd n13 _ _ (same_upd n12 _ _ (same_upd n11 _ _ (same_upd n10 _ _ (upd_same ..))))))) (by show 14 < 1000; decide) fun G1 sm1 e1 => ?_⟩
    have R1 := S14.trans sm1
    refine ⟨_, rfl, p14, _, rfl, SqL.of (sm1 _ _ (upd_same ..)), fun D2 hD2 => lc_true (bs := [B.contains 0, B.contains 1, B.contains 2, B.contains 3, B.contains 4, B.contains 5, B.contains 6]) hD2 (SqL.of (sm1 _ _ (upd_same ..))) (by show 7 < 1000; decide) fun G2 sm2 e2 => ?_⟩
    refine ⟨by show 2 ≤ sizeLine; decide, fun r hr2 => q _ r ((R1.trans sm2).trans (same_upd hr2)) fun p hp => ?_⟩
    have h1 : trueAt [A.contains 0, A.contains 1, A.contains 2, A.contains 3, A.contains 4, A.contains 5, A.contains 6, A.contains 7, A.contains 8, A.contains 9, A.contains 10, A.contains 11, A.contains 12, A.contains 13] 14 = A ∧ trueAt [B.contains 0, B.contains 1, B.contains 2, B.contains 3, B.contains 4, B.contains 5, B.contains 6] 7 = B := kts_true i hk
    obtain ⟨op, hp⟩ : ∃ o, H p = some o := by
      cases e : H p with
      | none => exact absurd e hp
      | some o => exact ⟨o, rfl⟩
    have d1 : D ≠ p := (ne_of_none (S14 _ _ hp) hD).symm
    have d2 : D2 ≠ p := (ne_of_none (R1 _ _ hp) hD2).symm
    have d3 : r ≠ p := (ne_of_none ((R1.trans sm2) _ _ hp) hr2).symm
    refine .lst (SqL.of (hdel_get d3 (upd_same ..))) (.cons (.lst (SqL.of (hdel_get d1 (same_upd hr2 _ _ (sm2 _ _ e1)))) ?_) (.cons (.lst (SqL.of (hdel_get d2 (same_upd hr2 _ _ e2))) ?_) .nil))
    · show DpAll K _ (intsV (trueAt [A.contains 0, A.contains 1, A.contains 2, A.contains 3, A.contains 4, A.contains 5, A.contains 6, A.contains 7, A.contains 8, A.contains 9, A.contains 10, A.contains 11, A.contains 12, A.contains 13] 14)) _
      rw [h1.1]
      exact dp_ints A
    · show DpAll K _ (intsV (trueAt [B.contains 0, B.contains 1, B.contains 2, B.contains 3, B.contains 4, B.contains 5, B.contains 6] 7)) _
      rw [h1.2]
      exact dp_ints B

end
end K29

set_option Elab.async false
set_option linter.all false
set_option maxRecDepth 100000
set_option maxHeartbeats 4000000
namespace K29
open PySem PySem.Spec PyProof.Rows L2 PySem.XE1
def spLaw (K : PySem.W.Frag) : Sp := fun vs H Q _ => ∃ (a : Addr) (ns : List Int), vs = [.ref a] ∧ SqL K H a (ns.map V.int) ∧ ns.length ≤ 63 ∧ ∀ H', Q (.bl true) H'
def kd (i : Nat) : PyData := match kts[i]? with
  | some (_, A, B) => .list [.list (intsD A), .list (intsD B)]
  | none => .none
/-- v is an error of the i-th class -/
def Made (K : PySem.W.Frag) (H : Hp) (i : Nat) (v : V) : Prop := ∃ (x : Str) (A B : List Nat) (a dx : Addr) (fs : List (Str × V)), v = .ref a ∧ kts[i]? = some (x, A, B) ∧ H a = some (exo a (He.ga K x) (some dx)) ∧ H dx = some (exd dx fs) ∧ ∃ tail newId, ECl K (He.ga K x) tail newId
theorem Made.same {K : PySem.W.Frag} {H H' : Hp} {i : Nat} {v : V} (e : Same H H') (h : Made K H i v) : Made K H' i v := by
  obtain ⟨x, A, B, a, dx, fs, h1, h2, h3, h4, h5⟩ := h
  exact ⟨x, A, B, a, dx, fs, h1, h2, e _ _ h3, e _ _ h4, h5⟩
theorem DpAll.snoc {K : PySem.W.Frag} {H : Hp} {v : V} {d : PyData} : ∀ {vs : List V} {ds : List PyData}, DpAll K H vs ds → Dp K H v d → DpAll K H (vs ++ [v]) (ds ++ [d])
  | _, _, .nil, h => .cons h .nil
  | _, _, .cons h0 t, h => .cons h0 (DpAll.snoc t h)
/-- [kinds(e) for e in made] -/
theorem lc_kinds {K : PySem.W.Frag} {p D : Addr} {H : Hp} {σ : L2.St} {is : List Nat} {xs : List V} {Qd : Hp → Prop} (hσ : σ.length = 10) (hD : H D = none) (hp : SqL K H p xs) (hl : xs.length = is.length) (hz : is.length < 1000)
    (hm : ∀ (j i : Nat) (v : V), is[j]? = some i → xs[j]? = some v → Made K H i v) (hq : ∀ H', Same H H' → Dp K H' (.ref D) (.list (is.map kd)) → Qd H') :
    ∃ W : Nat → Nat → Hp → Prop, (∃ m, W 0 m (upd H D (.lst []))) ∧ ∀ i m H, W i m H →
      ((Itl K p).stop i H ∧ Qd H) ∨ ((Itl K p).go i H ∧ ∃ Nx : Hp → Prop, (∀ H', Nx H' → ∃ m', m' < m ∧ W (i + 1) m' H') ∧ ∀ x H', (Itl K p).yld i H x H' → gName 8 x (wipe σ [8]) H' fun σ2 H2 => wipe σ2 [8] = wipe σ [8] ∧ tYes σ2 H2 fun b H3 =>
        if b = true then tCall (spKinds K) [] E0 (tCons (tVar 8) tNil) σ2 H3 fun y H4 => ∃ acc, H4 D = some (.lst acc) ∧ acc.length < sizeLine ∧ Nx (upd H4 D (.lst (acc ++ [y]))) else Nx H3) := by
  have z : is.length < sizeLine := by rw [sizeLine_eq]; omega
  obtain ⟨x0, x1, x2, x3, x4, x5, x6, x7, x8, x9, rfl⟩ : ∃ x0 x1 x2 x3 x4 x5 x6 x7 x8 x9, σ = [x0, x1, x2, x3, x4, x5, x6, x7, x8, x9] := by
    match σ, hσ with
    | [x0, x1, x2, x3, x4, x5, x6, x7, x8, x9], _ => exact ⟨_, _, _, _, _, _, _, _, _, _, rfl⟩
  refine lc_list (xs := xs) (fun i Hc => Same H Hc ∧ ∃ acc, Hc D = some (.lst acc) ∧ DpAll K (hdel Hc D) acc ((is.take i).map kd)) ⟨same_upd hD, [], upd_same .., by rw [List.take_zero]; exact .nil⟩ (fun i Hc _ h => h.1.seq hp) (fun i v Hc hi ⟨sm, acc, hd, hacc⟩ => ?_) (fun Hc ⟨sm, acc, hd, hacc⟩ => ?_)
  · have hi1 : i < is.length := by rw [← hl]; exact (List.getElem?_eq_some_iff.mp hi).1
    have hi2 : is[i]? = some is[i] := List.getElem?_eq_getElem hi1
    obtain ⟨x, A, B, a, dx, fs, rfl, h2, h3, h4, h5⟩ := hm i _ _ hi2 hi
    refine ⟨rfl, iteT (B := Same H Hc ∧ ∃ acc, Hc D = some (HO.lst acc) ∧ DpAll K (hdel Hc D) acc (List.map kd (List.take (i + 1) is))) ?_⟩
    refine ⟨_, rfl, x, A, B, is[i], a, dx, fs, rfl, h2, sm _ _ h3, sm _ _ h4, h5, fun H' r sm' hr => ?_⟩
    have hd' := sm' _ _ hd
    have hlen := DpAll.len hacc
    refine ⟨acc, hd', ?_, ?_, acc ++ [.ref r], upd_same .., ?_⟩
    · rw [hlen, List.length_map, List.length_take]
      omega
    · intro b o e
      rw [upd_ne (ne_of_none e hD)]
      exact (sm.trans sm') b o e
    · have e1 : (is.take (i + 1)).map kd = (is.take i).map kd ++ [kd is[i]] := by
        rw [List.take_succ, hi2, List.map_append]
        rfl
      rw [e1]
      have e2 : kd is[i] = .list [.list (intsD A), .list (intsD B)] := by
        unfold kd
        rw [h2]
      rw [e2]
      have e3 : hdel (upd H' D (.lst (acc ++ [.ref r]))) D = hdel H' D := by
        funext b
        unfold hdel upd
        split <;> rfl
      rw [e3]
      exact DpAll.snoc (DpAll.same (hdel_mono sm') hacc) (hr D (by rw [hd]; exact fun z => nomatch z))
  · refine hq Hc sm (.lst (SqL.of hd) ?_)
    have e : (is.take xs.length).map kd = is.map kd := by rw [hl, List.take_length]
    rw [← e]
    exact DpAll.same (hdel_same Hc D) hacc
end K29

set_option Elab.async false
set_option linter.all false
set_option maxRecDepth 100000
set_option maxHeartbeats 0
namespace K29
open PySem PySem.Spec PyProof.Rows L2
abbrev R : PySem.W.OpenRow := PySem.W.OpenLaw.row PySem.Challenge.rw_scopetables_k29_errors_made
abbrev hk : PySem.W.Hook := HZ.hook 6 fa fn ex
def ob (s : PySem.W.SharedT) : HZ.Al := HZ.obs 6 fa fn ex (HandSHeadRun.getT s)
theorem ob_eq (s : PySem.W.SharedT) : ob s = hk.obs s.abs := HZ.obs_eq (HandSHeadRun.getT_eq s)
def loose : List Str := ["TableError", "BadProgram", "BadRow", "BadName", "BadText", "BadCommand", "ScopeError", "NoBlock", "NoName", "NoBinding", "NoRow", "NoMention", "Captured", "Full", "NothingDone", "_law_bag", "_law_take", "_law_thing", "_law_kinds"]
theorem run (w : World) : HandSHeadRun.RunEq R (PySem.W.view R.prog [21]) hk ob 5000 loose w := by
  intro os
  kernel_rfl
end K29

set_option Elab.async false
set_option linter.all false
set_option maxRecDepth 100000
set_option maxHeartbeats 8000000
namespace K29
open PySem PySem.Spec PyProof.Rows L2 PySem.XE1
theorem tells {d1 d2 : PyData} (h1 : d1 ∈ D16) (h2 : d2 ∈ D16) : PyData.showable (.list [d1, d1, d1, d2, d1, d1, d1, d1, d1, d1, d1]) = true ∧ (PyData.list [d1, d1, d1, d2, d1, d1, d1, d1, d1, d1, d1]).depth ≤ 50 ∧ (PyData.list [d1, d1, d1, d2, d1, d1, d1, d1, d1, d1, d1]).shown.length ≤ sizeLine := by
  have all : ∀ d1 ∈ D16, ∀ d2 ∈ D16, PyData.showable (.list [d1, d1, d1, d2, d1, d1, d1, d1, d1, d1, d1]) = true ∧ (PyData.list [d1, d1, d1, d2, d1, d1, d1, d1, d1, d1, d1]).depth ≤ 50 ∧ (PyData.list [d1, d1, d1, d2, d1, d1, d1, d1, d1, d1, d1]).leavesShort 400 = true ∧ (PyData.list [d1, d1, d1, d2, d1, d1, d1, d1, d1, d1, d1]).weight ≤ 5000 := by decide +kernel
  obtain ⟨a, b, c, d⟩ := all d1 h1 d2 h2
  refine ⟨a, b, ?_⟩
  have z := PyData.shown_le 400 (by decide) _ c
  have y : (400 + 2) * (PyData.list [d1, d1, d1, d2, d1, d1, d1, d1, d1, d1, d1]).weight ≤ 402 * 5000 := Nat.mul_le_mul (by decide) d
  rw [sizeLine_eq]
  omega
theorem mem3 {K : PySem.W.Frag} {H : Hp} {x0 x1 x2 : V} (h0 : Made K H 0 x0) (h1 : Made K H 1 x1) (h2 : Made K H 2 x2) : ∀ (j i : Nat) (v : V), ([0, 1, 2] : List Nat)[j]? = some i → [x0, x1, x2][j]? = some v → Made K H i v
  | 0, _, _, rfl, rfl => h0
  | 1, _, _, rfl, rfl => h1
  | 2, _, _, rfl, rfl => h2
  | j + 3, _, _, e, _ => by cases e
theorem mem7 {K : PySem.W.Frag} {H : Hp} {x0 x1 x2 x3 x4 x5 x6 : V} (h0 : Made K H 3 x0) (h1 : Made K H 4 x1) (h2 : Made K H 5 x2) (h3 : Made K H 6 x3) (h4 : Made K H 7 x4) (h5 : Made K H 8 x5) (h6 : Made K H 9 x6) :
    ∀ (j i : Nat) (v : V), ([3, 4, 5, 6, 7, 8, 9] : List Nat)[j]? = some i → [x0, x1, x2, x3, x4, x5, x6][j]? = some v → Made K H i v
  | 0, _, _, rfl, rfl => h0
  | 1, _, _, rfl, rfl => h1
  | 2, _, _, rfl, rfl => h2
  | 3, _, _, rfl, rfl => h3
  | 4, _, _, rfl, rfl => h4
  | 5, _, _, rfl, rfl => h5
  | 6, _, _, rfl, rfl => h6
  | j + 7, _, _, e, _ => by cases e
section
variable {P : Program} {w : World} {K : PySem.W.Frag} {mg : Str → Option Value} {base : Heap}
theorem cal_bag (T : Tx K mg) : Cal P w K mg base CX0 "_law_bag" 1 ["_law_script", "_law_at"] (spBag K) := by
  obtain ⟨fd, F⟩ := T.fun_ 0
  exact ⟨_, fd, T.gl 14, F.kp, F.bindsN fun _ _ _ _ _ _ us hl => match us, hl with | [_, _], _ => rfl, ok_bag T F⟩
theorem cal_thing (T : Tx K mg) : Cal P w K mg base CX0 "_law_thing" 2 ["_law_bag_here"] (spThing K) := by
  obtain ⟨fd, F⟩ := T.fun_ 2
  exact ⟨_, fd, T.gl 16, F.kp, F.bindsN fun _ _ _ _ _ _ us hl => match us, hl with | [_], _ => rfl, ok_thing T F⟩
theorem cal_kinds (T : Tx K mg) : Cal P w K mg base CX0 "_law_kinds" 1 ["_law_made"] (spKinds K) := by
  obtain ⟨fd, F⟩ := T.fun_ 3
  exact ⟨_, fd, T.gl 17, F.kp, F.bindsN fun _ _ _ _ _ _ us hl => match us, hl with | [_], _ => rfl, ok_kinds T F⟩
theorem ok_law (T : Tx K mg) {f : Addr} {fd : FuncData} (F : FunD K "law" "law" (defArgs s_law) (defBody s_law) (defScope s_law) [] [] f fd) : RunL P w K mg base CX0 3 f fd "_law_script" (spLaw K) := by
  refine F.okL sc_law (fun cdv outer s H v Q E hr h => ⟨_, PSs.nox (
    pss_cons (ps_for PassesOwn.never rfl (pi_range1 (by rfl) (T.fr 10) (pa_cons (pe_callB (call_max2 rfl) (by rfl) (T.fr 11) (by decide +kernel) (pa_cons pe_int (pa_cons (pe_callB (call_min2 rfl) (by rfl) (T.fr 12) (by decide +kernel) (pa_cons pe_int (pa_cons (pe_callB call_len_seq (by rfl) (T.fr 6) (by decide +kernel) (pa_cons (pv 0) pa_nil)) pa_nil))) pa_nil))) pa_nil)) (pg_name (i := 1) sc_law.nd rfl (Or.inl rfl))
      (pss_cons (ps_set (i := 2) sc_law.nd rfl (Or.inl rfl) (pe_cal (cal_bag T) hr pass0 (pa_cons (pv 0) (pa_cons (pv 1) pa_nil))))
      (pss_one (ps_for PassesOwn.never rfl (pi_range1 (by rfl) (T.fr 10) (pa_cons pe_int pa_nil)) (pg_name (i := 3) sc_law.nd rfl (Or.inl rfl))
      (pss_cons (ps_par (i := 4) (j := 5) (by rfl) sc_law.nd rfl rfl (by decide) rfl rfl (pa_cons (pe_cal (cal_thing T) hr pass0 (pa_cons (pv 2) pa_nil)) (pa_cons (pe_cal (cal_thing T) hr pass0 (pa_cons (pv 2) pa_nil)) pa_nil)) (by rfl))
      (pss_cons (ps_set (i := 6) sc_law.nd rfl (Or.inl rfl) (pe_lst (pa_cons (pe_ofG (ini_BadName T) hr pass0 ((pa_cons (pv 4) pa_nil))) (pa_cons (pe_ofG (ini_BadText T) hr pass0 ((pa_cons (pv 4) pa_nil))) (pa_cons (pe_ofG (ini_ScopeError T) hr pass0 ((pa_cons (pv 4) (pa_cons (pv 5) pa_nil)))) (pa_cons (pe_ofG (ini_ScopeError T) hr pass0 ((pa_cons (pv 4) (pa_cons (pv 5) pa_nil)))) pa_nil))))))
      (pss_cons (ps_set (i := 6) sc_law.nd rfl (Or.inl rfl) (pe_op op_cat (pv 6) (pe_lst (pa_cons (pe_ofG (ini_NoBlock T) hr pass0 ((pa_cons (pv 4) pa_nil))) (pa_cons (pe_ofG (ini_NoName T) hr pass0 ((pa_cons (pv 4) pa_nil))) (pa_cons (pe_ofG (ini_NoBinding T) hr pass0 ((pa_cons (pv 4) pa_nil))) (pa_cons (pe_ofG (ini_NoRow T) hr pass0 ((pa_cons (pv 4) pa_nil))) pa_nil)))))))
      (pss_cons (ps_set (i := 6) sc_law.nd rfl (Or.inl rfl) (pe_op op_cat (pv 6) (pe_lst (pa_cons (pe_ofG (ini_NoMention T) hr pass0 ((pa_cons (pv 4) pa_nil))) (pa_cons (pe_ofG (ini_Captured T) hr pass0 ((pa_cons (pv 4) pa_nil))) (pa_cons (pe_ofG (ini_Full T) hr pass0 ((pa_cons (pv 4) pa_nil))) pa_nil))))))
      (pss_cons (ps_if (pt_cmpR op_ne (pe_callB (call_reprL T.nosys rfl hr.units) (by rfl) (T.fr 13) (by decide +kernel) (pa_cons (pv 6) pa_nil)) (pe_callB (call_reprL T.nosys rfl hr.units) (by rfl) (T.fr 13) (by decide +kernel) (pa_cons (pe_op op_cat (pe_lst (pa_cons (pv 4) (pa_cons (pv 4) (pa_cons (pv 4) (pa_cons (pv 5) pa_nil))))) (pe_op op_rep (pe_lst (pa_cons (pv 4) pa_nil)) pe_int)) pa_nil)) (nomark _)) (pss_one (ps_ret pe_bl)) (pss_nil))
      (pss_cons (ps_set (i := 7) sc_law.nd rfl (Or.inl rfl) (pe_lst (pa_cons (pe_mkG (ini_BadName T) hr pass0 (pa_cons (pv 4) pa_nil)) (pa_cons (pe_mkG (ini_BadText T) hr pass0 (pa_cons (pv 4) pa_nil)) (pa_cons (pe_mkG (ini_ScopeError T) hr pass0 (pa_cons (pv 4) (pa_cons (pv 5) pa_nil))) pa_nil)))))
      (pss_cons (ps_if (pt_cmpR (op_neD hr.units) (pe_lc (own := [("_law_error", 8)]) (g := gName 8) (tt := tYes) (by rfl) sc_law.nd (pi_list (pv 7)) (blkOk_by (own := [("_law_error", 8)]) (N := N_law) (sc := defScope s_law) (by decide +kernel)) (fun _ _ _ _ _ => pg_name (i := 8) sc_law.nd rfl (Or.inl rfl)) (fun _ _ _ _ _ => pts_nil) (fun _ _ _ _ _ => pe_cal (cal_kinds T) hr pass0 (pa_cons (pv 8) pa_nil))) (lit_lst (lits_cons (lit_lst (lits_cons (lit_lst (lits_cons (lit_int pe_int) lits_nil)) (lits_cons (lit_lst (lits_cons (lit_int pe_int) (lits_cons (lit_int pe_int) lits_nil))) lits_nil))) (lits_cons (lit_lst (lits_cons (lit_lst (lits_cons (lit_int pe_int) lits_nil)) (lits_cons (lit_lst (lits_cons (lit_int pe_int) (lits_cons (lit_int pe_int) lits_nil))) lits_nil))) (lits_cons (lit_lst (lits_cons (lit_lst (lits_cons (lit_int pe_int) lits_nil)) (lits_cons (lit_lst (lits_cons (lit_int pe_int) (lits_cons (lit_int pe_int) lits_nil))) lits_nil))) lits_nil)))) (nomark _)) (pss_one (ps_ret pe_bl)) (pss_nil))
      (pss_cons (ps_set (i := 7) sc_law.nd rfl (Or.inl rfl) (pe_lst (pa_cons (pe_mkG (ini_NoBlock T) hr pass0 (pa_cons (pv 4) pa_nil)) (pa_cons (pe_mkG (ini_NoName T) hr pass0 (pa_cons (pv 4) pa_nil)) (pa_cons (pe_mkG (ini_NoBinding T) hr pass0 (pa_cons (pv 4) pa_nil)) (pa_cons (pe_mkG (ini_NoRow T) hr pass0 (pa_cons (pv 4) pa_nil)) (pa_cons (pe_mkG (ini_NoMention T) hr pass0 (pa_cons (pv 4) pa_nil)) (pa_cons (pe_mkG (ini_Captured T) hr pass0 (pa_cons (pv 4) pa_nil)) (pa_cons (pe_mkG (ini_Full T) hr pass0 (pa_cons (pv 4) pa_nil)) pa_nil)))))))))
      (pss_cons (ps_set (i := 9) sc_law.nd rfl (Or.inl rfl) (lit_lst (lits_cons (lit_lst (lits_cons (lit_lst (lits_cons (lit_int pe_int) lits_nil)) (lits_cons (lit_lst (lits_cons (lit_int pe_int) lits_nil)) lits_nil))) (lits_cons (lit_lst (lits_cons (lit_lst (lits_cons (lit_int pe_int) lits_nil)) (lits_cons (lit_lst (lits_cons (lit_int pe_int) (lits_cons (lit_int pe_int) lits_nil))) lits_nil))) (lits_cons (lit_lst (lits_cons (lit_lst (lits_cons (lit_int pe_int) lits_nil)) (lits_cons (lit_lst (lits_cons (lit_int pe_int) (lits_cons (lit_int pe_int) lits_nil))) lits_nil))) (lits_cons (lit_lst (lits_cons (lit_lst (lits_cons (lit_int pe_int) lits_nil)) (lits_cons (lit_lst (lits_cons (lit_int pe_int) (lits_cons (lit_int pe_int) lits_nil))) lits_nil))) (lits_cons (lit_lst (lits_cons (lit_lst (lits_cons (lit_int pe_int) lits_nil)) (lits_cons (lit_lst (lits_cons (lit_int pe_int) (lits_cons (lit_int pe_int) lits_nil))) lits_nil))) (lits_cons (lit_lst (lits_cons (lit_lst (lits_cons (lit_int pe_int) lits_nil)) (lits_cons (lit_lst (lits_cons (lit_int pe_int) lits_nil)) lits_nil))) (lits_cons (lit_lst (lits_cons (lit_lst (lits_cons (lit_int pe_int) lits_nil)) (lits_cons (lit_lst (lits_cons (lit_int pe_int) lits_nil)) lits_nil))) lits_nil)))))))))
      (pss_one (ps_if (pt_cmpR (op_neD hr.units) (pe_lc (own := [("_law_error", 8)]) (g := gName 8) (tt := tYes) (by rfl) sc_law.nd (pi_list (pv 7)) (blkOk_by (own := [("_law_error", 8)]) (N := N_law) (sc := defScope s_law) (by decide +kernel)) (fun _ _ _ _ _ => pg_name (i := 8) sc_law.nd rfl (Or.inl rfl)) (fun _ _ _ _ _ => pts_nil) (fun _ _ _ _ _ => pe_cal (cal_kinds T) hr pass0 (pa_cons (pv 8) pa_nil))) (pv 9) (nomark _)) (pss_one (ps_ret pe_bl)) (pss_nil))))))))))))))))
      (pss_one (ps_ret pe_bl))), ?_⟩)
  obtain ⟨a, ns, ev, hS, hl, q⟩ := h
  cases ev
  have hj : ∀ l : Int, 0 ≤ l → (if (if l < 6 then l else 6) > 2 then (if l < 6 then l else 6) else 2) ≤ 6 ∧ 0 ≤ (if (if l < 6 then l else 6) > 2 then (if l < 6 then l else 6) else 2) := by
    intro l hl
    by_cases h1 : l < 6
    · simp only [if_pos h1]
      split <;> omega
    · simp only [if_neg h1]
      decide
  have hj1 := hj ((ns.map V.int).length : Int) (by omega)
  refine ⟨_, rfl, a, _, rfl, .inl hS, _, _, rfl, _, _, rfl, _, rfl, by omega, by omega, for_range (n := _) (fun i σ Hc => Same H Hc ∧ ∃ x1 x2 x3 x4 x5 x6 x7 x8 x9, σ = [some (.ref a), x1, x2, x3, x4, x5, x6, x7, x8, x9]) ⟨Same.refl H, _, _, _, _, _, _, _, _, _, rfl⟩ (fun i σ Hc hi hP => ?_) (fun _ _ _ => q _)⟩
  obtain ⟨sm, x1, x2, x3, x4, x5, x6, x7, x8, x9, rfl⟩ := hP
  refine ⟨_, rfl, _, rfl, a, ns, i, (by show [V.ref a, V.int (0 + (i : Int))] = [V.ref a, V.int (i : Int)]; rw [Int.zero_add]), sm.seq hS, by omega, fun Hb p L M sb np ep b1 b2 b3 => ?_⟩
  refine ⟨6, rfl, by decide, by decide, for_range (n := 6) (fun t σ Hc2 => Same Hc (hdel Hc2 p) ∧ (∃ L M : Int, Hc2 p = some (.lst [.int L, .int M]) ∧ 0 ≤ L ∧ 0 ≤ M ∧ M ≤ 2147483648) ∧ ∃ x1 x3 x4 x5 x6 x7 x8 x9, σ = [some (.ref a), x1, some (.ref p), x3, x4, x5, x6, x7, x8, x9]) ⟨same_del sb np, ⟨L, M, ep, b1, b2, b3⟩, _, _, _, _, _, _, _, _, rfl⟩ (fun t σ Hc2 ht hP => ?_) (fun σ Hc2 hP => ?_)⟩
  · obtain ⟨sd, ⟨L0, M0, ep, b1, b2, b3⟩, x1, x3, x4, x5, x6, x7, x8, x9, rfl⟩ := hP
    refine ⟨_, rfl, p, L0, M0, rfl, ep, b1, b2, b3, fun G1 L1 M1 v1 d1 s1 e1 c1 c2 c3 m1 k1 => ⟨_, rfl, p, L1, M1, rfl, e1, c1, c2, c3, fun G2 L2 M2 v2 d2 s2 ep c4 c5 c6 m2 k2 => ⟨v1, v2, rfl, ?_⟩⟩⟩
    have k1 := k1.same s2
    have S0 := Same.refl G2
    refine ⟨_, rfl, rfl, (T.ini 0).2.2 _ (by decide), v1, by rfl, fun G10 h => ?_⟩
    have S1 := S0.trans (h)
    have ep := (h) _ _ ep
    refine ⟨_, rfl, rfl, (T.ini 1).2.2 _ (by decide), v1, by rfl, fun G11 h => ?_⟩
    have S2 := S1.trans (h)
    have ep := (h) _ _ ep
    refine ⟨_, rfl, _, rfl, rfl, (T.ini 2).2.2 _ (by decide), v1, by rfl, fun G12 h => ?_⟩
    have S3 := S2.trans (h)
    have ep := (h) _ _ ep
    refine ⟨_, rfl, _, rfl, rfl, (T.ini 2).2.2 _ (by decide), v2, by rfl, fun G13 h => ?_⟩
    have S4 := S3.trans (h)
    have ep := (h) _ _ ep
    refine ⟨by show 4 ≤ sizeLine; decide, fun l1 n_l1 => ?_⟩
    have S5 := S4.trans (same_upd (o := HO.lst [v1, v1, v1, v2]) n_l1)
    have ep := (same_upd (o := HO.lst [v1, v1, v1, v2]) n_l1) _ _ ep
    have e_l1 : (upd G13 l1 (HO.lst [v1, v1, v1, v2])) l1 = some (HO.lst [v1, v1, v1, v2]) := upd_same ..
    refine ⟨_, rfl, ?_⟩
    refine ⟨_, rfl, rfl, (T.ini 3).2.2 _ (by decide), v1, by rfl, fun G14 h => ?_⟩
    have S6 := S5.trans (h)
    have ep := (h) _ _ ep
    have e_l1 := (h) _ _ e_l1
    refine ⟨_, rfl, rfl, (T.ini 4).2.2 _ (by decide), v1, by rfl, fun G15 h => ?_⟩
    have S7 := S6.trans (h)
    have ep := (h) _ _ ep
    have e_l1 := (h) _ _ e_l1
    refine ⟨_, rfl, rfl, (T.ini 5).2.2 _ (by decide), v1, by rfl, fun G16 h => ?_⟩
    have S8 := S7.trans (h)
    have ep := (h) _ _ ep
    have e_l1 := (h) _ _ e_l1
    refine ⟨_, rfl, rfl, (T.ini 6).2.2 _ (by decide), v1, by rfl, fun G17 h => ?_⟩
    have S9 := S8.trans (h)
    have ep := (h) _ _ ep
    have e_l1 := (h) _ _ e_l1
    refine ⟨by show 4 ≤ sizeLine; decide, fun l2 n_l2 => ?_⟩
    have S10 := S9.trans (same_upd (o := HO.lst [v1, v1, v1, v1]) n_l2)
    have ep := (same_upd (o := HO.lst [v1, v1, v1, v1]) n_l2) _ _ ep
    have e_l1 := (same_upd (o := HO.lst [v1, v1, v1, v1]) n_l2) _ _ e_l1
    have e_l2 : (upd G17 l2 (HO.lst [v1, v1, v1, v1])) l2 = some (HO.lst [v1, v1, v1, v1]) := upd_same ..
    refine ⟨l1, l2, _, _, rfl, rfl, e_l1, e_l2, by show 8 ≤ sizeLine; decide, fun l3 n_l3 => ?_⟩
    have S11 := S10.trans (same_upd (o := HO.lst [v1, v1, v1, v2, v1, v1, v1, v1]) n_l3)
    have ep := (same_upd (o := HO.lst [v1, v1, v1, v2, v1, v1, v1, v1]) n_l3) _ _ ep
    have e_l1 := (same_upd (o := HO.lst [v1, v1, v1, v2, v1, v1, v1, v1]) n_l3) _ _ e_l1
    have e_l2 := (same_upd (o := HO.lst [v1, v1, v1, v2, v1, v1, v1, v1]) n_l3) _ _ e_l2
    have e_l3 : (upd (upd G17 l2 (HO.lst [v1, v1, v1, v1])) l3 (HO.lst [v1, v1, v1, v2, v1, v1, v1, v1])) l3 = some (HO.lst [v1, v1, v1, v2, v1, v1, v1, v1]) := upd_same ..
    refine ⟨_, rfl, ?_⟩
    refine ⟨_, rfl, rfl, (T.ini 7).2.2 _ (by decide), v1, by rfl, fun G18 h => ?_⟩
    have S12 := S11.trans (h)
    have ep := (h) _ _ ep
    have e_l1 := (h) _ _ e_l1
    have e_l2 := (h) _ _ e_l2
    have e_l3 := (h) _ _ e_l3
    refine ⟨_, rfl, rfl, (T.ini 8).2.2 _ (by decide), v1, by rfl, fun G19 h => ?_⟩
    have S13 := S12.trans (h)
    have ep := (h) _ _ ep
    have e_l1 := (h) _ _ e_l1
    have e_l2 := (h) _ _ e_l2
    have e_l3 := (h) _ _ e_l3
    refine ⟨_, rfl, rfl, (T.ini 9).2.2 _ (by decide), v1, by rfl, fun G20 h => ?_⟩
    have S14 := S13.trans (h)
    have ep := (h) _ _ ep
    have e_l1 := (h) _ _ e_l1
    have e_l2 := (h) _ _ e_l2
    have e_l3 := (h) _ _ e_l3
    refine ⟨by show 3 ≤ sizeLine; decide, fun l4 n_l4 => ?_⟩
    have S15 := S14.trans (same_upd (o := HO.lst [v1, v1, v1]) n_l4)
    have ep := (same_upd (o := HO.lst [v1, v1, v1]) n_l4) _ _ ep
    have e_l1 := (same_upd (o := HO.lst [v1, v1, v1]) n_l4) _ _ e_l1
    have e_l2 := (same_upd (o := HO.lst [v1, v1, v1]) n_l4) _ _ e_l2
    have e_l3 := (same_upd (o := HO.lst [v1, v1, v1]) n_l4) _ _ e_l3
    have e_l4 : (upd G20 l4 (HO.lst [v1, v1, v1])) l4 = some (HO.lst [v1, v1, v1]) := upd_same ..
    refine ⟨l3, l4, _, _, rfl, rfl, e_l3, e_l4, by show 11 ≤ sizeLine; decide, fun l5 n_l5 => ?_⟩
    have S16 := S15.trans (same_upd (o := HO.lst [v1, v1, v1, v2, v1, v1, v1, v1, v1, v1, v1]) n_l5)
    have ep := (same_upd (o := HO.lst [v1, v1, v1, v2, v1, v1, v1, v1, v1, v1, v1]) n_l5) _ _ ep
    have e_l1 := (same_upd (o := HO.lst [v1, v1, v1, v2, v1, v1, v1, v1, v1, v1, v1]) n_l5) _ _ e_l1
    have e_l2 := (same_upd (o := HO.lst [v1, v1, v1, v2, v1, v1, v1, v1, v1, v1, v1]) n_l5) _ _ e_l2
    have e_l3 := (same_upd (o := HO.lst [v1, v1, v1, v2, v1, v1, v1, v1, v1, v1, v1]) n_l5) _ _ e_l3
    have e_l4 := (same_upd (o := HO.lst [v1, v1, v1, v2, v1, v1, v1, v1, v1, v1, v1]) n_l5) _ _ e_l4
    have e_l5 : (upd (upd G20 l4 (HO.lst [v1, v1, v1])) l5 (HO.lst [v1, v1, v1, v2, v1, v1, v1, v1, v1, v1, v1])) l5 = some (HO.lst [v1, v1, v1, v2, v1, v1, v1, v1, v1, v1, v1]) := upd_same ..
    obtain ⟨t1, t2, t3⟩ := tells m1 m2
    have kk1 := k1.same ((hdel_same G2 p).trans S16)
    have kk2 := k2.same ((hdel_same G2 p).trans S16)
    refine ⟨_, rfl, l5, _, [d1, d1, d1, d2, d1, d1, d1, d1, d1, d1, d1], rfl, e_l5, .cons kk1 (.cons kk1 (.cons kk1 (.cons kk2 (DxAll.rep kk1 7)))), t1, t2, t3, ?_⟩
    refine ⟨_, rfl, _, rfl, _, rfl, _, rfl, by show 4 ≤ sizeLine; decide, fun l6 n_l6 => ?_⟩
    have S17 := S16.trans (same_upd (o := HO.lst [v1, v1, v1, v2]) n_l6)
    have ep := (same_upd (o := HO.lst [v1, v1, v1, v2]) n_l6) _ _ ep
    have e_l1 := (same_upd (o := HO.lst [v1, v1, v1, v2]) n_l6) _ _ e_l1
    have e_l2 := (same_upd (o := HO.lst [v1, v1, v1, v2]) n_l6) _ _ e_l2
    have e_l3 := (same_upd (o := HO.lst [v1, v1, v1, v2]) n_l6) _ _ e_l3
    have e_l4 := (same_upd (o := HO.lst [v1, v1, v1, v2]) n_l6) _ _ e_l4
    have e_l5 := (same_upd (o := HO.lst [v1, v1, v1, v2]) n_l6) _ _ e_l5
    have e_l6 : (upd (upd (upd G20 l4 (HO.lst [v1, v1, v1])) l5 (HO.lst [v1, v1, v1, v2, v1, v1, v1, v1, v1, v1, v1])) l6 (HO.lst [v1, v1, v1, v2])) l6 = some (HO.lst [v1, v1, v1, v2]) := upd_same ..
    refine ⟨_, rfl, by show 1 ≤ sizeLine; decide, fun l7 n_l7 => ?_⟩
    have S18 := S17.trans (same_upd (o := HO.lst [v1]) n_l7)
    have ep := (same_upd (o := HO.lst [v1]) n_l7) _ _ ep
    have e_l1 := (same_upd (o := HO.lst [v1]) n_l7) _ _ e_l1
    have e_l2 := (same_upd (o := HO.lst [v1]) n_l7) _ _ e_l2
    have e_l3 := (same_upd (o := HO.lst [v1]) n_l7) _ _ e_l3
    have e_l4 := (same_upd (o := HO.lst [v1]) n_l7) _ _ e_l4
    have e_l5 := (same_upd (o := HO.lst [v1]) n_l7) _ _ e_l5
    have e_l6 := (same_upd (o := HO.lst [v1]) n_l7) _ _ e_l6
    have e_l7 : (upd (upd (upd (upd G20 l4 (HO.lst [v1, v1, v1])) l5 (HO.lst [v1, v1, v1, v2, v1, v1, v1, v1, v1, v1, v1])) l6 (HO.lst [v1, v1, v1, v2])) l7 (HO.lst [v1])) l7 = some (HO.lst [v1]) := upd_same ..
    refine ⟨l7, 7, [v1], rfl, rfl, e_l7, by decide, by decide, by show 7 ≤ sizeLine; decide, fun l8 n_l8 => ?_⟩
    have S19 := S18.trans (same_upd (o := HO.lst [v1, v1, v1, v1, v1, v1, v1]) n_l8)
    have ep := (same_upd (o := HO.lst [v1, v1, v1, v1, v1, v1, v1]) n_l8) _ _ ep
    have e_l1 := (same_upd (o := HO.lst [v1, v1, v1, v1, v1, v1, v1]) n_l8) _ _ e_l1
    have e_l2 := (same_upd (o := HO.lst [v1, v1, v1, v1, v1, v1, v1]) n_l8) _ _ e_l2
    have e_l3 := (same_upd (o := HO.lst [v1, v1, v1, v1, v1, v1, v1]) n_l8) _ _ e_l3
    have e_l4 := (same_upd (o := HO.lst [v1, v1, v1, v1, v1, v1, v1]) n_l8) _ _ e_l4
    have e_l5 := (same_upd (o := HO.lst [v1, v1, v1, v1, v1, v1, v1]) n_l8) _ _ e_l5
    have e_l6 := (same_upd (o := HO.lst [v1, v1, v1, v1, v1, v1, v1]) n_l8) _ _ e_l6
    have e_l7 := (same_upd (o := HO.lst [v1, v1, v1, v1, v1, v1, v1]) n_l8) _ _ e_l7
    have e_l8 : (upd (upd (upd (upd (upd G20 l4 (HO.lst [v1, v1, v1])) l5 (HO.lst [v1, v1, v1, v2, v1, v1, v1, v1, v1, v1, v1])) l6 (HO.lst [v1, v1, v1, v2])) l7 (HO.lst [v1])) l8 (HO.lst [v1, v1, v1, v1, v1, v1, v1])) l8 = some (HO.lst [v1, v1, v1, v1, v1, v1, v1]) := upd_same ..
    refine ⟨l6, l8, _, _, rfl, rfl, e_l6, e_l8, by show 11 ≤ sizeLine; decide, fun l9 n_l9 => ?_⟩
    have S20 := S19.trans (same_upd (o := HO.lst [v1, v1, v1, v2, v1, v1, v1, v1, v1, v1, v1]) n_l9)
    have ep := (same_upd (o := HO.lst [v1, v1, v1, v2, v1, v1, v1, v1, v1, v1, v1]) n_l9) _ _ ep
    have e_l1 := (same_upd (o := HO.lst [v1, v1, v1, v2, v1, v1, v1, v1, v1, v1, v1]) n_l9) _ _ e_l1
    have e_l2 := (same_upd (o := HO.lst [v1, v1, v1, v2, v1, v1, v1, v1, v1, v1, v1]) n_l9) _ _ e_l2
    have e_l3 := (same_upd (o := HO.lst [v1, v1, v1, v2, v1, v1, v1, v1, v1, v1, v1]) n_l9) _ _ e_l3
    have e_l4 := (same_upd (o := HO.lst [v1, v1, v1, v2, v1, v1, v1, v1, v1, v1, v1]) n_l9) _ _ e_l4
    have e_l5 := (same_upd (o := HO.lst [v1, v1, v1, v2, v1, v1, v1, v1, v1, v1, v1]) n_l9) _ _ e_l5
    have e_l6 := (same_upd (o := HO.lst [v1, v1, v1, v2, v1, v1, v1, v1, v1, v1, v1]) n_l9) _ _ e_l6
    have e_l7 := (same_upd (o := HO.lst [v1, v1, v1, v2, v1, v1, v1, v1, v1, v1, v1]) n_l9) _ _ e_l7
    have e_l8 := (same_upd (o := HO.lst [v1, v1, v1, v2, v1, v1, v1, v1, v1, v1, v1]) n_l9) _ _ e_l8
    have e_l9 : (upd (upd (upd (upd (upd (upd G20 l4 (HO.lst [v1, v1, v1])) l5 (HO.lst [v1, v1, v1, v2, v1, v1, v1, v1, v1, v1, v1])) l6 (HO.lst [v1, v1, v1, v2])) l7 (HO.lst [v1])) l8 (HO.lst [v1, v1, v1, v1, v1, v1, v1])) l9 (HO.lst [v1, v1, v1, v2, v1, v1, v1, v1, v1, v1, v1])) l9 = some (HO.lst [v1, v1, v1, v2, v1, v1, v1, v1, v1, v1, v1]) := upd_same ..
    have kk1 := k1.same ((hdel_same G2 p).trans S20)
    have kk2 := k2.same ((hdel_same G2 p).trans S20)
    refine ⟨l9, _, [d1, d1, d1, d2, d1, d1, d1, d1, d1, d1, d1], rfl, e_l9, .cons kk1 (.cons kk1 (.cons kk1 (.cons kk2 (DxAll.rep kk1 7)))), t1, t2, t3, rfl, _, rfl, ?_⟩
    refine iteNS rfl ?_
    refine ⟨_, rfl, rfl, fun a_b0 x_b0 G21 h _ ea ed => ?_⟩
    have S21 := S20.trans (h)
    have ep := (h) _ _ ep
    have m_b0 : Made K G21 0 (.ref a_b0) := ⟨_, _, _, _, _, _, rfl, rfl, ea, ed, (ini_BadName (P := P) (w := w) (base := base) T).ecl⟩
    refine ⟨_, rfl, rfl, fun a_b1 x_b1 G22 h _ ea ed => ?_⟩
    have S22 := S21.trans (h)
    have ep := (h) _ _ ep
    have m_b0 := m_b0.same (h)
    have m_b1 : Made K G22 1 (.ref a_b1) := ⟨_, _, _, _, _, _, rfl, rfl, ea, ed, (ini_BadText (P := P) (w := w) (base := base) T).ecl⟩
    refine ⟨_, rfl, _, rfl, rfl, fun a_b2 x_b2 G23 h _ ea ed => ?_⟩
    have S23 := S22.trans (h)
    have ep := (h) _ _ ep
    have m_b0 := m_b0.same (h)
    have m_b1 := m_b1.same (h)
    have m_b2 : Made K G23 2 (.ref a_b2) := ⟨_, _, _, _, _, _, rfl, rfl, ea, ed, (ini_ScopeError (P := P) (w := w) (base := base) T).ecl⟩
    refine ⟨by show 3 ≤ sizeLine; decide, fun k0 n_k0 => ?_⟩
    have S24 := S23.trans (same_upd (o := HO.lst [.ref a_b0, .ref a_b1, .ref a_b2]) n_k0)
    have ep := (same_upd (o := HO.lst [.ref a_b0, .ref a_b1, .ref a_b2]) n_k0) _ _ ep
    have m_b0 := m_b0.same (same_upd (o := HO.lst [.ref a_b0, .ref a_b1, .ref a_b2]) n_k0)
    have m_b1 := m_b1.same (same_upd (o := HO.lst [.ref a_b0, .ref a_b1, .ref a_b2]) n_k0)
    have m_b2 := m_b2.same (same_upd (o := HO.lst [.ref a_b0, .ref a_b1, .ref a_b2]) n_k0)
    have e_k0 : (upd G23 k0 (HO.lst [.ref a_b0, .ref a_b1, .ref a_b2])) k0 = some (HO.lst [.ref a_b0, .ref a_b1, .ref a_b2]) := upd_same ..
    refine ⟨_, rfl, k0, rfl, ⟨_, SqL.of e_k0⟩, fun D hD => lc_kinds (is := [0, 1, 2]) rfl hD (SqL.of e_k0) rfl (by decide) (mem3 m_b0 m_b1 m_b2) fun G24 h dG => ?_⟩
    have S25 := S24.trans (h)
    have ep := (h) _ _ ep
    have e_k0 := (h) _ _ e_k0
    refine fun G25 v h dv => ?_
    have S26 := S25.trans (h)
    have ep := (h) _ _ ep
    have e_k0 := (h) _ _ e_k0
    refine ⟨_, _, dG.same h, dv, by decide +kernel, by decide +kernel, _, rfl, iteNotT (by decide +kernel) ?_⟩
    refine ⟨_, rfl, rfl, fun a_c0 x_c0 G26 h _ ea ed => ?_⟩
    have S27 := S26.trans (h)
    have ep := (h) _ _ ep
    have m_c0 : Made K G26 3 (.ref a_c0) := ⟨_, _, _, _, _, _, rfl, rfl, ea, ed, (ini_NoBlock (P := P) (w := w) (base := base) T).ecl⟩
    refine ⟨_, rfl, rfl, fun a_c1 x_c1 G27 h _ ea ed => ?_⟩
    have S28 := S27.trans (h)
    have ep := (h) _ _ ep
    have m_c0 := m_c0.same (h)
    have m_c1 : Made K G27 4 (.ref a_c1) := ⟨_, _, _, _, _, _, rfl, rfl, ea, ed, (ini_NoName (P := P) (w := w) (base := base) T).ecl⟩
    refine ⟨_, rfl, rfl, fun a_c2 x_c2 G28 h _ ea ed => ?_⟩
    have S29 := S28.trans (h)
    have ep := (h) _ _ ep
    have m_c0 := m_c0.same (h)
    have m_c1 := m_c1.same (h)
    have m_c2 : Made K G28 5 (.ref a_c2) := ⟨_, _, _, _, _, _, rfl, rfl, ea, ed, (ini_NoBinding (P := P) (w := w) (base := base) T).ecl⟩
    refine ⟨_, rfl, rfl, fun a_c3 x_c3 G29 h _ ea ed => ?_⟩
    have S30 := S29.trans (h)
    have ep := (h) _ _ ep
    have m_c0 := m_c0.same (h)
    have m_c1 := m_c1.same (h)
    have m_c2 := m_c2.same (h)
    have m_c3 : Made K G29 6 (.ref a_c3) := ⟨_, _, _, _, _, _, rfl, rfl, ea, ed, (ini_NoRow (P := P) (w := w) (base := base) T).ecl⟩
    refine ⟨_, rfl, rfl, fun a_c4 x_c4 G30 h _ ea ed => ?_⟩
    have S31 := S30.trans (h)
    have ep := (h) _ _ ep
    have m_c0 := m_c0.same (h)
    have m_c1 := m_c1.same (h)
    have m_c2 := m_c2.same (h)
    have m_c3 := m_c3.same (h)
    have m_c4 : Made K G30 7 (.ref a_c4) := ⟨_, _, _, _, _, _, rfl, rfl, ea, ed, (ini_NoMention (P := P) (w := w) (base := base) T).ecl⟩
    refine ⟨_, rfl, rfl, fun a_c5 x_c5 G31 h _ ea ed => ?_⟩
    have S32 := S31.trans (h)
    have ep := (h) _ _ ep
    have m_c0 := m_c0.same (h)
    have m_c1 := m_c1.same (h)
    have m_c2 := m_c2.same (h)
    have m_c3 := m_c3.same (h)
    have m_c4 := m_c4.same (h)
    have m_c5 : Made K G31 8 (.ref a_c5) := ⟨_, _, _, _, _, _, rfl, rfl, ea, ed, (ini_Captured (P := P) (w := w) (base := base) T).ecl⟩
    refine ⟨_, rfl, rfl, fun a_c6 x_c6 G32 h _ ea ed => ?_⟩
    have S33 := S32.trans (h)
    have ep := (h) _ _ ep
    have m_c0 := m_c0.same (h)
    have m_c1 := m_c1.same (h)
    have m_c2 := m_c2.same (h)
    have m_c3 := m_c3.same (h)
    have m_c4 := m_c4.same (h)
    have m_c5 := m_c5.same (h)
    have m_c6 : Made K G32 9 (.ref a_c6) := ⟨_, _, _, _, _, _, rfl, rfl, ea, ed, (ini_Full (P := P) (w := w) (base := base) T).ecl⟩
    refine ⟨by show 7 ≤ sizeLine; decide, fun k1 n_k1 => ?_⟩
    have S34 := S33.trans (same_upd (o := HO.lst [.ref a_c0, .ref a_c1, .ref a_c2, .ref a_c3, .ref a_c4, .ref a_c5, .ref a_c6]) n_k1)
    have ep := (same_upd (o := HO.lst [.ref a_c0, .ref a_c1, .ref a_c2, .ref a_c3, .ref a_c4, .ref a_c5, .ref a_c6]) n_k1) _ _ ep
    have m_c0 := m_c0.same (same_upd (o := HO.lst [.ref a_c0, .ref a_c1, .ref a_c2, .ref a_c3, .ref a_c4, .ref a_c5, .ref a_c6]) n_k1)
    have m_c1 := m_c1.same (same_upd (o := HO.lst [.ref a_c0, .ref a_c1, .ref a_c2, .ref a_c3, .ref a_c4, .ref a_c5, .ref a_c6]) n_k1)
    have m_c2 := m_c2.same (same_upd (o := HO.lst [.ref a_c0, .ref a_c1, .ref a_c2, .ref a_c3, .ref a_c4, .ref a_c5, .ref a_c6]) n_k1)
    have m_c3 := m_c3.same (same_upd (o := HO.lst [.ref a_c0, .ref a_c1, .ref a_c2, .ref a_c3, .ref a_c4, .ref a_c5, .ref a_c6]) n_k1)
    have m_c4 := m_c4.same (same_upd (o := HO.lst [.ref a_c0, .ref a_c1, .ref a_c2, .ref a_c3, .ref a_c4, .ref a_c5, .ref a_c6]) n_k1)
    have m_c5 := m_c5.same (same_upd (o := HO.lst [.ref a_c0, .ref a_c1, .ref a_c2, .ref a_c3, .ref a_c4, .ref a_c5, .ref a_c6]) n_k1)
    have m_c6 := m_c6.same (same_upd (o := HO.lst [.ref a_c0, .ref a_c1, .ref a_c2, .ref a_c3, .ref a_c4, .ref a_c5, .ref a_c6]) n_k1)
    have e_k1 : (upd G32 k1 (HO.lst [.ref a_c0, .ref a_c1, .ref a_c2, .ref a_c3, .ref a_c4, .ref a_c5, .ref a_c6])) k1 = some (HO.lst [.ref a_c0, .ref a_c1, .ref a_c2, .ref a_c3, .ref a_c4, .ref a_c5, .ref a_c6]) := upd_same ..
    refine fun G33 v h dv => ?_
    have S35 := S34.trans (h)
    have ep := (h) _ _ ep
    have e_k1 := (h) _ _ e_k1
    have m_c0 := m_c0.same (h)
    have m_c1 := m_c1.same (h)
    have m_c2 := m_c2.same (h)
    have m_c3 := m_c3.same (h)
    have m_c4 := m_c4.same (h)
    have m_c5 := m_c5.same (h)
    have m_c6 := m_c6.same (h)
    refine ⟨_, rfl, k1, rfl, ⟨_, SqL.of e_k1⟩, fun D hD => lc_kinds (is := [3, 4, 5, 6, 7, 8, 9]) rfl hD (SqL.of e_k1) rfl (by decide) (mem7 m_c0 m_c1 m_c2 m_c3 m_c4 m_c5 m_c6) fun G34 h dG => ?_⟩
    have S36 := S35.trans (h)
    have ep := (h) _ _ ep
    have e_k1 := (h) _ _ e_k1
    refine ⟨_, rfl, ?_⟩
    refine ⟨_, _, dG, dv.same h, by decide +kernel, by decide +kernel, _, rfl, iteNotT (by decide +kernel) ?_⟩
    refine ⟨?_, ⟨L2, M2, ep, c4, c5, c6⟩, _, _, _, _, _, _, _, _, rfl⟩
    have z : Same (hdel G2 p) (hdel G34 p) := hdel_mono S36
    exact sd.trans (s1.trans (s2.trans z))
  · obtain ⟨sd, _, x1, x3, x4, x5, x6, x7, x8, x9, rfl⟩ := hP
    exact ⟨sm.trans (sd.trans (hdel_same _ _)), _, _, _, _, _, _, _, _, _, rfl⟩
end
end K29

set_option Elab.async false
set_option linter.all false
set_option maxRecDepth 100000
set_option maxHeartbeats 8000000
namespace K29
open PySem PySem.Spec PyProof.Rows L2
theorem facts {w : World} {K : PySem.W.Frag} {h : Heap} {mg : Str → Option Value} {f : Addr} (X : K.In h) (G : h.Ns mainGlobals mg) (hfa : mg ("law" : Str) = some (.ref f)) (c : HZ.Says fa fn ex K) :
    ∃ fd : FuncData, (∀ (s : Shared) (v : Value), BindsTo s fd ⟨[v], []⟩ [("_law_script", v)]) ∧ ∀ base : Heap, K.In base → base.Ns mainGlobals mg → RunL prog w K mg base CX0 3 f fd "_law_script" (spLaw K) := by
  have T : Tx K mg := ⟨c, h, X, G⟩
  obtain ⟨fd, F⟩ := T.fun_ 4
  have e := hfa.symm.trans (T.gl 18)
  cases e
  have b := FunD.bindsA (ps := ["_law_script"]) F fun _ _ _ _ _ _ us hl => match us, hl with | [_], _ => rfl
  exact ⟨fd, fun s v => b s [v] rfl, fun base _ _ => ok_law T F⟩
end K29
open PySem PySem.W PySem.Calls PyProof.Rows
theorem PySem.Challenge.cw_scopetables_k29_errors_made_holds : PySem.Challenge.rw_scopetables_k29_errors_made.Holds := by
  w_on; o_law
  refine HandSHeadRun.head_any (r := OpenLaw.row PySem.Challenge.rw_scopetables_k29_errors_made) (q := view (OpenLaw.row PySem.Challenge.rw_scopetables_k29_errors_made).prog [21]) (H := K29.hk) (ob := K29.ob) (M := 5000) (loose := K29.loose) (d := HandSHeadRun.topDef (OpenLaw.row PySem.Challenge.rw_scopetables_k29_errors_made).prog 21) (kwd := []) K29.ob_eq
    (by kernel_rfl) (fun s => by kernel_rfl) K29.run (by kernel_rfl) (by kernel_rfl) (by kernel_rfl) (by rfl) (by first | assumption | decide +kernel) (by decide +kernel) ⟨rfl, rfl, rfl, rfl, rfl, by decide +kernel⟩ ?hw ?hc
  case hw => w_witness2
  case hc =>
    refine L2.walk_ofL (l := PySem.Challenge.rw_scopetables_k29_errors_made) (n := 63) (k := 3) (x := "_law_script") (CX := L2.CX0) rfl (by decide) (by kernel_rfl) ⟨rfl, by decide, by decide⟩ ?F (fun _ _ _ _ z => z)
    intro w mg fa h Y G hmg0
    obtain ⟨K, KX, c⟩ := Y
    have hmg : mg ("law" : PySem.Str) = some (.ref fa) := by
      have e : (HandSHeadRun.topDef (OpenLaw.row PySem.Challenge.rw_scopetables_k29_errors_made).prog 21).name = ("law" : PySem.Str) := by kernel_rfl
      rw [← e]
      exact hmg0
    obtain ⟨fd, hb, hF⟩ := K29.facts (w := w) KX G hmg c
    exact ⟨K, fd, K29.spLaw K, KX, hb, fun H a ns hl _ hS => ⟨a, ns, rfl, hS, hl, fun _ => rfl⟩, hF⟩
