import PyProof.Rows.All
import Wide.All
import OpenK.AllK
import Wide.FinOn
import KE.KExcInit
import HandS.ForMost
import HandS.ForExc
import HandS.ExcInit
import HandS.ExcCtx
import HandS.HotCalls
import HandS.Defaults
import HandS.Flow
import HandS.Wide
import HandS.IsInst
import HandS.ExcIs
import HandS.ExcField
import HandS.RaiseMore
import HandS.FStr
import HandS.Head0
import HandS.Head1
import HandS.Head2
import HandS.HeadEnd
import HandS.HeadHook4
import HandS.HeadWalk
import KE.KExcIs
import PySem.Challenge.RW_heapwake_k86_errors_made
set_option Elab.async false
set_option linter.all false
set_option maxRecDepth 100000
set_option maxHeartbeats 4000000
/-! Hx, part 1: own exception classes over any built-in base (KeyError too), with their own init. -/
namespace PySem.Hx
open Builtin Builtin.ObjectAttr HandSPX

/-! KeyError: made by its parent's new, set up by its own init -/
abbrev keBm : List Value := [.type "KeyError", .type "LookupError", .type "Exception", .type "BaseException", .type "object"]
/-- what is asked of the init of a built-in exception class -/
structure InitF (B initId : String) : Prop where
  init : Slot B "__init__" initId
  entry : entryFor table initId = some Builtin.«BaseException.__init__»
  split : splitId initId = some (B, "__init__")
  kind : builtinKind initId = some .slot
  row : Manifest.signature? initId = some ⟨.positional, "*", B, .self, [⟨"args", .varPos, false⟩]⟩
  star : (B != "*") = true
theorem InitF.of {B n i : String} {bm : List Value} (F : ExcBaseFacts B n i bm) : InitF B i :=
  ⟨F.init, F.initEntry, F.initSplit, F.initKind, F.initRow, F.noStar⟩
theorem initF_KeyError : InitF "KeyError" "KeyError.__init__" where
  init := (PyProof.Rows.excClass_KeyError).init
  entry := (PyProof.Rows.excClass_KeyError).initEntry
  split := by kernel_rfl
  kind := by kernel_rfl
  row := by kernel_rfl
  star := by decide +kernel
theorem pass_KeyError (self : Value) : refuseLoop self "__setattr__" keBm = pure () := by kernel_rfl

/-- the three looks of new at the classes above -/
structure Tl (bm : List Value) (Bn : String) : Prop where
  has : bm.contains (.type Bn) = true
  noA : bm.contains (.type "AttributeError") = false
  noN : bm.contains (.type "NameError") = false
theorem contains_ref {C : Addr} {bm : List Value} {X : String} : (Value.ref C :: bm).contains (.type X) = bm.contains (.type X) := by
  rw [List.contains_cons]
  rfl
section
variable {M : Model} {prog : Program} {w : World} {A : Around} {E : Value → Shared → Prop} {R : Result → Shared → Prop}
variable {h : Heap} {g : Array GenState} {d : Drawn} {t : Nat} {os : OsState} {nm q : Str} {C N : Addr} {bs bm bmN : List Value} {hdct : Bool} {sn : List Str}
variable {sub : List Value} {ab : Bool} {col : Option Bool} {dd : Option Addr} {k0 k1 k2 k3 k5 : Option Value} {Bn newId iN : String}
theorem newCheck (F : ExcBaseFacts Bn newId iN bmN) (T : Tl bm Bn) {rest : List Value} {Q : Unit → Shared → Prop}
    (hC : h.get? C = some (excClassObj nm q C N bs bm hdct sn sub ab col dd k0 k1 k2 k3 k5 newId)) (hq : Q () ⟨h, g, d, t, os⟩) :
    wpAny M A (checkBuiltinCall newId ⟨.ref C :: rest, []⟩) Q E ⟨h, g, d, t, os⟩ := by
  have hc : (Value.ref C :: bm).contains (.type Bn) = true := contains_ref.trans T.has
  have st := F.noStar
  simp only [checkBuiltinCall, F.newKind, F.newSplit, F.newRow]
  repeat (first
    | refine wpAny_loadPart_at hC ?_
    | (refine wpAny_isSubtype_exc hC ?_; rw [hc])
    | refine wpAny_staticBase_exc hC ?_
    | refine wpAny_madeBy_exc hC ?_
    | simp only [bne_self_eq_false, Bool.false_eq_true, if_false]
    | wp_step)
  exact hq
theorem newRun (F : ExcBaseFacts Bn newId iN bmN) (T : Tl bm Bn) {rest : List Value}
    (hC : h.get? C = some (excClassObj nm q C N bs bm hdct sn sub ab col dd k0 k1 k2 k3 k5 newId))
    (hq : R (.ok (.ret (.ref (h.objs.size + 1)))) ⟨(h.push (W.kdv_tup rest)).push (excO C h.objs.size), g, d, t, os⟩) (hz : rest.length ≤ sizeLine) :
    codeAny (model prog w) A (.builtin newId ⟨.ref C :: rest, []⟩) R ⟨h, g, d, t, os⟩ := by
  have en := F.ends
  have c1 : (Value.ref C :: bm).contains (.type Bn) = true := contains_ref.trans T.has
  have c2 : (Value.ref C :: bm).contains (.type "AttributeError") = false := contains_ref.trans T.noA
  have c3 : (Value.ref C :: bm).contains (.type "NameError") = false := contains_ref.trans T.noN
  refine codeAny_builtinAt F.entry ?_
  unfold Builtin.«BaseException.__new__»
  refine wpAt_bind ?_
  show wpAt _ _ _ (stack >>= _) _ _ _
  refine wpAt_bind (wpAt_stack fun p below => wpAt_of_wpAny ?_)
  wp_walk
  refine wpAt_of_wpAny ?_
  rw [F.owner]
  repeat (first
    | with_reducible refine wpAny_madeHere_exc F.canon hC ?_
    | with_reducible refine wpAny_loadPart_at hC ?_
    | (with_reducible refine wpAny_isSubtype_exc hC ?_; first | rw [c1] | rw [c2] | rw [c3])
    | wp_step)
  show R _ _
  rw [Heap.size_push]
  exact hq
theorem typeCall (F : ExcBaseFacts Bn newId iN bmN) (T : Tl bm Bn) {rest : List Value} {fI : Addr} {Q : Fin → Shared → Prop}
    (hC : h.get? C = some (excClassObj nm q C N bs bm hdct sn sub ab col dd k0 k1 k2 k3 k5 newId))
    (hi : W.Looks (model prog w) h (typeLookup (.ref C) "__init__") (some (.ref fI))) (hb : ∀ self, W.Looks (model prog w) h (bindSpecial (.ref fI) self) (.ref fI, [self]))
    (hz : rest.length ≤ sizeLine)
    (hq : codeAny (model prog w) A (.call (.ref fI) ⟨.ref (h.objs.size + 1) :: rest, []⟩)
      (fun r s' => match r with | .ok (.ret v) => v = .none ∧ Q (.done (.ret (.ref (h.objs.size + 1)))) s' | .ok _ => False | .error e => E e s')
      ⟨(h.push (W.kdv_tup rest)).push (excO C h.objs.size), g, d, t, os⟩) :
    wpAny (model prog w) A (Builtin.«type.__call__» ⟨.ref C :: rest, []⟩) Q E ⟨h, g, d, t, os⟩ := by
  repeat (first
    | with_reducible refine wpAny_loadPart_at hC ?_
    | with_reducible refine wpAny_madeBy_exc hC ?_
    | wp_step)
  refine codeAny_call_builtin_code (Code.quiet_builtin _ F.quiet) (newCheck F T hC (newRun F T hC ?_ hz))
  show wpAny _ _ _ _ _ _
  have kp : ∀ b o, h.get? b = some o → ((h.push (W.kdv_tup rest)).push (excO C h.objs.size)).get? b = some o :=
    fun b o e => Heap.get?_push_of_some _ (Heap.get?_push_of_some _ e)
  have hC1 := kp _ _ hC
  have hg : ((h.push (W.kdv_tup rest)).push (excO C h.objs.size)).get? (h.objs.size + 1) = some (excO C h.objs.size) := by heap_get
  have hcC : (Value.ref C :: bm).contains (.ref C) = true := by simp
  have i1 := hi.keeps kp
  have b1 := (hb (.ref (h.objs.size + 1))).keeps kp
  unfold isInstance
  repeat (first
    | with_reducible refine wpAny_loadPart_at hg ?_
    | (with_reducible refine wpAny_isSubtype_exc hC1 ?_; rw [hcC])
    | wp_step)
  show wpAny _ _ (typeLookup (.ref C) _) _ _ _
  refine i1.at (wpAny_holding (wpAny_bind (b1.at ?_)))
  refine wpAny_bind (wpAny_call (codeAny_mono hq fun r s' z => ?_))
  rcases r with e | (v | _ | _ | _) <;> first | exact z | exact z.elim | skip
  obtain ⟨rfl, z⟩ := z
  first
    | exact wpAny_pure (wpAny_pure z)
    | (wp_walk; exact z)
theorem callOwn (F : ExcBaseFacts Bn newId iN bmN) (T : Tl bm Bn) {rest : List Value} {fI : Addr}
    (hC : h.get? C = some (excClassObj nm q C N bs bm hdct sn sub ab col dd k0 k1 k2 k3 k5 newId))
    (hi : W.Looks (model prog w) h (typeLookup (.ref C) "__init__") (some (.ref fI))) (hb : ∀ self, W.Looks (model prog w) h (bindSpecial (.ref fI) self) (.ref fI, [self]))
    (hz : rest.length ≤ sizeLine)
    (hq : codeAny (model prog w) (A.under (.builtin "type.__call__" ⟨.ref C :: rest, []⟩)) (.call (.ref fI) ⟨.ref (h.objs.size + 1) :: rest, []⟩)
      (W.InitBack (h.objs.size + 1) R) ⟨(h.push (W.kdv_tup rest)).push (excO C h.objs.size), g, d, t, os⟩) :
    codeAny (model prog w) A (.call (.ref C) ⟨rest, []⟩) R ⟨h, g, d, t, os⟩ := by
  have f1 := tc_lookup
  have f2 := tc_bind (.ref C)
  have hTy : (⟨h, g, d, t, os⟩ : Shared).TypeIs (.ref C) "type" := ⟨_, hC, rfl⟩
  refine codeAny_of_tree ?_
  show wpAny _ _ (callAny (.ref C) _) _ _ _
  repeat (any_goals (first
    | assumption
    | with_reducible refine wpAny_loadPart_at hC ?_
    | wp_step))
  refine ⟨rfl, ?_⟩
  refine codeAny_call_builtin_at (Code.quiet_builtin _ (by decide +kernel)) entry_typeCall (wpAny_check_type_call_sub hC (typeCall F T hC hi hb hz ?_))
  refine codeAny_mono hq fun r s' z => ?_
  rcases r with e | (v | _ | _ | _) <;> exact z
/-- B.__init__(e, ..) of an exception at e: its args are laid anew -/
theorem initRun {B initId : String} (F : InitF B initId) (hT : bm.contains (.type B) = true) {e t0 : Addr} {rest : List Value}
    (hC : h.get? C = some (excClassObj nm q C N bs bm hdct sn sub ab col dd k0 k1 k2 k3 k5 newId)) (he : h.get? e = some (excO C t0)) (hz : rest.length ≤ sizeLine)
    (hq : ∀ h' t1, (∀ b o, b ≠ e → h.get? b = some o → h'.get? b = some o) → h'.get? e = some (excO C t1) → R (.ok (.ret .none)) ⟨h', g, d, t, os⟩) :
    codeAny (model prog w) A (.call (.builtin initId) ⟨.ref e :: rest, []⟩) R ⟨h, g, d, t, os⟩ := by
  have hcB : (Value.ref C :: bm).contains (.type B) = true := contains_ref.trans hT
  have st := F.star
  refine codeAny_call_builtin F.init.plain F.entry ?_
  simp only [checkBuiltinCall, F.kind, F.split, F.row]
  repeat (first
    | with_reducible refine wpAny_loadPart_at he ?_
    | with_reducible refine wpAny_loadPart_at hC ?_
    | (with_reducible refine wpAny_isSubtype_exc hC ?_; rw [hcB])
    | wp_step)
  refine wpAny_onRaise ?_
  rw [show ∀ (a b : String) (n : Nat), Bind.check ⟨.positional, "*", B, .self, [⟨"args", .varPos, false⟩]⟩ a b n (List.map (fun x => x.fst) ({ pos := Value.ref e :: rest } : Args).kw) = pure () from
    fun a b n => check_star_args _ _ _ _ _ _]
  refine wpAny_pure ?_
  wp_walk
  refine hq _ h.objs.size (fun b o hb ho => ?_) ?_
  · rw [Heap.get?_update_other _ _ (Ne.symm hb)]
    exact Heap.get?_push_of_some _ ho
  · rw [Heap.get?_update_self _ (Heap.get?_push_of_some _ he) rfl]
    rfl
end
end PySem.Hx


set_option Elab.async false
set_option linter.all false
set_option maxRecDepth 100000
set_option maxHeartbeats 4000000
/-! Hx, part 2: what is asked of a built-in base and of an own class; the first field stored; the rules over the layer. -/
namespace PySem.Hx
open Builtin Builtin.ObjectAttr HandSPX
/-- a built-in base B with its chain; Bn owns the maker that it takes -/
structure XBase (B Bn newId initId : String) (bmB : List Value) : Prop where
  mkr : ∃ iN bmN, ExcBaseFacts Bn newId iN bmN
  ini : InitF B initId
  has : bmB.contains (.type B) = true
  hasN : bmB.contains (.type Bn) = true
  noA : bmB.contains (.type "AttributeError") = false
  noN : bmB.contains (.type "NameError") = false
  obj : bmB.contains (.type "object") = true
  pass : ∀ self, refuseLoop self "__setattr__" bmB = pure ()
  typ : typeOf (.type B) = pure (.type "type")
  stub : Manifest.isStub B = false
  hand : W.handedIn (.builtin initId) = true
  fnd : ∀ K : W.Frag, W.findCls K (.type B) (.type "type") "__init__" = some (.val (.builtin initId))
theorem XBase.of {B n i : String} {bm : List Value} (F : ExcBaseFacts B n i bm) (ho : bm.contains (.type "object") = true) (hp : ∀ self, refuseLoop self "__setattr__" bm = pure ())
    (ht : typeOf (.type B) = pure (.type "type")) (h1 : Manifest.isStub B = false) (h2 : W.handedIn (.builtin i) = true)
    (h3 : ∀ K : W.Frag, W.findCls K (.type B) (.type "type") "__init__" = some (.val (.builtin i))) : XBase B B n i bm :=
  ⟨⟨_, _, F⟩, .of F, F.hasB, F.hasB, F.noAttr, F.noName, ho, hp, ht, h1, h2, h3⟩
theorem xValue : XBase "ValueError" "ValueError" "ValueError.__new__" "ValueError.__init__" [.type "ValueError", .type "Exception", .type "BaseException", .type "object"] :=
  .of F.excBase_ValueError (by decide +kernel) (fun s => by kernel_rfl) (by kernel_rfl) (by decide +kernel) (by decide +kernel) fun K => by kernel_rfl
theorem xType : XBase "TypeError" "TypeError" "TypeError.__new__" "TypeError.__init__" [.type "TypeError", .type "Exception", .type "BaseException", .type "object"] :=
  .of F.excBase_TypeError (by decide +kernel) (fun s => by kernel_rfl) (by kernel_rfl) (by decide +kernel) (by decide +kernel) fun K => by kernel_rfl
theorem xArith : XBase "ArithmeticError" "ArithmeticError" "ArithmeticError.__new__" "ArithmeticError.__init__" [.type "ArithmeticError", .type "Exception", .type "BaseException", .type "object"] :=
  .of F.excBase_ArithmeticError (by decide +kernel) (fun s => by kernel_rfl) (by kernel_rfl) (by decide +kernel) (by decide +kernel) fun K => by kernel_rfl
theorem xOver : XBase "OverflowError" "OverflowError" "OverflowError.__new__" "OverflowError.__init__" [.type "OverflowError", .type "ArithmeticError", .type "Exception", .type "BaseException", .type "object"] :=
  .of F.excBase_OverflowError (by decide +kernel) (fun s => by kernel_rfl) (by kernel_rfl) (by decide +kernel) (by decide +kernel) fun K => by kernel_rfl
theorem xLook : XBase "LookupError" "LookupError" "LookupError.__new__" "LookupError.__init__" [.type "LookupError", .type "Exception", .type "BaseException", .type "object"] :=
  .of F.excBase_LookupError (by decide +kernel) (fun s => by kernel_rfl) (by kernel_rfl) (by decide +kernel) (by decide +kernel) fun K => by kernel_rfl
theorem xIndex : XBase "IndexError" "IndexError" "IndexError.__new__" "IndexError.__init__" [.type "IndexError", .type "LookupError", .type "Exception", .type "BaseException", .type "object"] :=
  .of F.excBase_IndexError (by decide +kernel) (fun s => by kernel_rfl) (by kernel_rfl) (by decide +kernel) (by decide +kernel) fun K => by kernel_rfl
theorem xRun : XBase "RuntimeError" "RuntimeError" "RuntimeError.__new__" "RuntimeError.__init__" [.type "RuntimeError", .type "Exception", .type "BaseException", .type "object"] :=
  .of F.excBase_RuntimeError (by decide +kernel) (fun s => by kernel_rfl) (by kernel_rfl) (by decide +kernel) (by decide +kernel) fun K => by kernel_rfl
theorem xKey : XBase "KeyError" "LookupError" "LookupError.__new__" "KeyError.__init__" keBm :=
  ⟨⟨_, _, F.excBase_LookupError⟩, initF_KeyError, by decide +kernel, by decide +kernel, by decide +kernel, by decide +kernel, by decide +kernel, pass_KeyError, by kernel_rfl, by decide +kernel, by decide +kernel, fun K => by kernel_rfl⟩
/-- what the written part says of an own class at C -/
structure XCls (K : W.Frag) (C : Addr) (newId : String) (bmB : List Value) : Prop where
  q : W.excInitIn K C bmB newId = true
  dct : W.hasDictIn K C = true
  sa : W.findIn K (.ref C) "__setattr__" = some (some (.builtin "object.__setattr__"))
  exC : W.subIn K (.ref C) (.type "BaseException") = some true
  tyC : W.typeIn K (.ref C) = some (.type "type")
  kC : W.keepIn K (.ref C) = true
theorem XCls.obj {K : W.Frag} {C : Addr} {newId : String} {bmB : List Value} (T : XCls K C newId bmB) : ∃ nm qn N bs bm sn sub ab col dd k0 k1 k2 k3 k5,
    K.lookup C = some (excClassObj nm qn C N bs bm true sn sub ab col dd k0 k1 k2 k3 k5 newId) ∧ W.excTail bmB bm = true := by
  have q := T.q
  have hd := T.dct
  unfold W.excInitIn at q
  split at q
  · rename_i dd cd sl ho
    split at q
    · rename_i C' bm k0 k1 k2 k3 n k5 hm hs
      simp only [Bool.and_eq_true, beq_iff_eq, Bool.not_eq_true'] at q
      obtain ⟨⟨⟨rfl, rfl⟩, hdel⟩, ht⟩ := q
      unfold W.hasDictIn W.clsIn at hd
      rw [ho] at hd
      have hd2 : cd.hasDict = true := hd
      obtain ⟨nm, bs, mro, ns, qn, hdc, sn, sub, ab, col, del⟩ := cd
      dsimp only at hm hdel hd2
      subst hm hdel hd2
      have hsl : sl = #[k0, k1, k2, k3, some (.builtin n), k5] := by
        obtain ⟨l⟩ := sl
        simp only at hs
        rw [hs]
      subst hsl
      exact ⟨nm, qn, ns, bs, bm, sn, sub, ab, col, dd, k0, k1, k2, k3, k5, ho, ht⟩
    · cases q
  · cases q
theorem tl_of {B Bn newId initId : String} {bmB bm : List Value} (X : XBase B Bn newId initId bmB) (h : W.excTail bmB bm = true) : Tl bm Bn :=
  ⟨(W.excTail_contains _ _ h).trans X.hasN, (W.excTail_contains _ _ h).trans X.noA, (W.excTail_contains _ _ h).trans X.noN⟩
section
variable {prog : Program} {w : World} {A : Around} {R : Result → Shared → Prop} {hp : Heap} {g : Array GenState} {d : Drawn} {t : Nat} {os : OsState}
/-- e.name = v on an exception without a dict: a new dict holds it -/
theorem firstField {K : W.Frag} {name : Str} {tk : Tok} {v : Value} {x C : Addr} {fv : Array Value} {cd : ClassData} {bm bmB : List Value}
    (X : K.In hp) (hx : hp.get? x = some { cls := .ref C, data := .fields fv }) (hcd : W.clsIn K C = some cd) (hm : cd.mro = .ref C :: bm) (ht : W.excTail bmB bm = true) (hob : bmB.contains (.type "object") = true)
    (hps : ∀ self, refuseLoop self "__setattr__" bmB = pure ()) (hh : cd.hasDict = true) (ha : W.findIn K (.ref C) name = some none)
    (hq : ∀ h' tk' dx, (∀ b o, b ≠ x → hp.get? b = some o → h'.get? b = some o) → hp.objs.size ≤ dx → dx ≠ x → h'.get? x = some { cls := .ref C, dict := some dx, data := .fields fv } →
      h'.Ns1 dx (fun y => if y = name then some v else none) → R (.ok (.ret .none)) ⟨h', g, d, tk', os⟩) :
    codeAny (model prog w) A (.call (.builtin "object.__setattr__") ⟨[.ref x, .str name tk, v], []⟩) R ⟨hp, g, d, t, os⟩ := by
  have I : W.InstAt hp x { cls := .ref C, data := .fields fv } C none := ⟨hx, rfl, rfl, trivial⟩
  have SF := F.store_object
  have ne : cd.mro.isEmpty = false := by rw [hm] <;> rfl
  have hob2 : cd.mro.contains (.type "object") = true := by rw [hm, contains_ref, W.excTail_contains _ _ ht]; exact hob
  have hxs : x ≠ hp.objs.size := Nat.ne_of_lt (Heap.lt_size hx)
  have sub : W.Looks (model prog w) hp (isInstance (.ref x) (.type "object")) true :=
    I.type.andThen (W.looks_mroIn X (by unfold W.mroIn; rw [hcd, Option.bind_some, if_neg (by rw [ne]; decide), hob2]))
  refine codeAny_call_builtin SF.slot.plain SF.entry (@W.check_slot (model prog w) _ _ ⟨hp, g, d, t, os⟩ "object.__setattr__" "object" "__setattr__" (.ref x) [.str name tk, v] [] _ SF.kind SF.split sub (SF.args (.ref x) (.str name tk) v) ?_)
  have hmr : W.Looks (model prog w) hp (mroOf (.ref C)) cd.mro := (W.looks_clsIn X hcd).andThen .now
  have L3 : W.Looks (model prog w) hp (storeTaker? none) none := .now
  have hcls : W.Looks (model prog w) hp (classData C) cd := W.looks_clsIn X hcd
  rw [W.osa_eq, refuse_eq]
  refine wpAny_bind (wpAny_bind (I.type.at (wpAny_bind (hmr.at ?_))))
  rw [W.excTail_pass _ (hps _) cd.mro (by rw [hm]; exact ht)]
  refine wpAny_pure (wpAny_bind (I.type.at (wpAny_bind ((W.looks_findIn X ha).at (wpAny_bind (L3.at ?_))))))
  show wpAny _ _ (storeInOwnDict (.ref x) (.ref C) (.str name tk) name v false) _ _ _
  obtain ⟨nm, bs, mro, ns, qn, hdc, sn, sb, ab, col, del⟩ := cd
  dsimp only at hh
  subst hh
  unfold storeInOwnDict ownDictForStores
  repeat (first
    | with_reducible refine store_in_new ?_ ?_
    | with_reducible refine wpAny_loadPart_at hx ?_
    | with_reducible refine hcls.at ?_
    | wp_step)
  · exact ⟨_, #[], _, (Heap.get?_update_ne _ _ _ _ hxs.symm).trans (Heap.get?_push_at rfl rfl), rfl, fun e he => absurd he (by simp), fun _ => rfl⟩
  · intro h' tk' hn' hs
    have hx1 : (hp.push { cls := .type "dict", data := .dict #[] }).get? x = some { cls := .ref C, data := .fields fv } := Heap.get?_push_of_some _ hx
    refine hq h' tk' hp.objs.size (fun b o hb ho => ?_) (Nat.le_refl _) hxs.symm ?_ hn'
    · exact (hs.2 b (Nat.ne_of_lt (Heap.lt_size ho))).trans ((Heap.get?_update_ne _ _ _ _ hb).trans (Heap.get?_push_of_some _ ho))
    · exact (hs.2 x hxs).trans (Heap.get?_update_self _ hx1 rfl)
end
end PySem.Hx


set_option Elab.async false
set_option linter.all false
set_option maxRecDepth 100000
set_option maxHeartbeats 4000000
/-! Hx, part 3: raise NAME(e) of an own class with an init that stores one field; raise NAME() of a bare one. -/
namespace Hx
open PySem PySem.Spec L2 PyProof.Rows
open PySem.Hx (XBase XCls)
abbrev Sl := L2.St
section
variable {X : Cx} {pins : List (Addr × Obj)} {σ : Sl} {H : Hp} {s : Shared} {a C : Addr} {f : Str} {y : V} {u : Value} {E : Value → Shared → Prop} {A : Around} {bmB : List Value} {B Bn newId initId : String}
theorem exo_mut {e C : Addr} {d : Option Addr} : Mut (some (exo e C d)) := True.intro
theorem store1 {Q : Unit → Shared → Prop} (XB : XBase B Bn newId initId bmB) (T : XCls X.K C newId bmB) (I : Inv X pins σ H s) (e : H a = some (exo a C none)) (hno : PySem.W.findIn X.K (.ref C) f = some none) (ry : RelV y u)
    (h : ∀ dx s', H dx = none → dx ≠ a → Inv X pins σ (upd (upd H dx (exd dx [(f, y)])) a (exo a C (some dx))) s' → Q () s') :
    wpAny (model X.prog X.w) A (setAttr (.ref a) f u) Q E s := by
  obtain ⟨nm, q, N, bs, bm, sn, sub, ab, col, dd, k0, k1, k2, k3, k5, hC, hbm⟩ := T.obj
  have hcl : PySem.W.clsIn X.K C = some { name := nm, bases := bs, mro := .ref C :: bm, ns := N, qualname := q, hasDict := true, slotNames := sn, subclasses := sub, abstract := ab, collection := col, hasDel := false } := by
    unfold PySem.W.clsIn
    rw [hC] <;> rfl
  obtain ⟨t1, ho⟩ := exo_at I.hok e
  obtain ⟨hp, g, d, t, os⟩ := s
  refine PySem.W.set_plain I.kIn (ox := { cls := .ref C, dict := none, data := .fields #[.ref t1, .none, .none, .none, .bool false, .none] }) (od := none) ⟨ho, rfl, rfl, trivial⟩ T.sa ?_
  refine PySem.Hx.firstField I.kIn ho hcl rfl hbm XB.obj XB.pass rfl hno (fun h' tk' dx k dn dne hx hn => ?_)
  have hnd : H dx = none := I.hok.fresh dn
  have nd : ∀ {b : Addr} {o : Obj}, hp.get? b = some o → b ≠ dx := fun {b o} q => Nat.ne_of_lt (Nat.lt_of_lt_of_le (Heap.lt_size q) dn)
  have na : ∀ {b : Addr}, H b = none → b ≠ a := fun {b} n => (ne_of_none e n).symm
  have two : ∀ {b : Addr} {o : HO}, H b = some o → o ≠ exo a C none → (upd (upd H dx (exd dx [(f, y)])) a (exo a C (some dx))) b = some o := fun {b o} q z => by
    rw [upd_ne (ne_of q e z), upd_ne (ne_of_none q hnd)]
    exact q
  refine h dx _ hnd dne (I.un (t' := tk') ⟨fun b o q n _ _ => k b o (na n) q, fun b o q n _ _ => ⟨o.slots, k b o (na n) q⟩, fun b o q n _ => ?_, fun b o q _ => ?_,
    fun b xs q => two q exo_tup.symm, fun b o v q => two q exo_frz.symm, fun b ps q => ⟨#[], ?_⟩⟩ fun b o q => ?_)
  · rw [upd_ne (na n), upd_ne (nd q)]
    exact n
  · by_cases hb : b = a
    · exact ⟨_, by rw [hb]; exact hx⟩
    · exact ⟨o, k b o hb q⟩
  · rw [two q exo_tbl.symm]
    simp
  · by_cases hb : b = a
    · subst hb
      rw [upd_same] at q
      cases q
      exact exo_ok hx
    · rw [upd_ne hb] at q
      by_cases hd : b = dx
      · subst hd
        rw [upd_same] at q
        cases q
        exact exd_ok hn (relO_put (fs := []) ry fun g => True.intro)
      · rw [upd_ne hd] at q
        refine (I.hok b o q).stay (fun c v hc z => k c v ?_ z) (fun c hc => two hc exo_own.symm) fun c xs hc => two hc exo_tup.symm
        rcases hc with hc | hc
        · rw [hc]
          exact hb
        · exact ne_of hc e exo_own.symm
theorem initOk {us : List Value} {Q : Value → Shared → Prop} (XB : XBase B Bn newId initId bmB) (T : XCls X.K C newId bmB) (I : Inv X pins σ H s) (e : H a = some (exo a C none)) (hl : us.length ≤ sizeLine) (h : ∀ s', Inv X pins σ H s' → Q .none s') :
    wpAny (model X.prog X.w) A (call (.builtin initId) (.ref a :: us)) Q E s := by
  obtain ⟨nm, q, N, bs, bm, sn, sub, ab, col, dd, k0, k1, k2, k3, k5, hC, hbm⟩ := T.obj
  obtain ⟨t1, ho⟩ := exo_at I.hok e
  obtain ⟨hp, g, d, t, os⟩ := s
  refine wpAny_call (PySem.Hx.initRun XB.ini ((PySem.W.excTail_contains _ _ hbm).trans XB.has) (I.kIn _ _ hC) ho hl fun h' t2 k hx => ?_)
  have J := I.write (t' := t) (x := a) (e := a) (o := exo a C none) (by rw [e]; exact exo_mut) (.inl rfl) k ⟨_, hx⟩ (exo_ok hx)
  have eu : upd H a (exo a C none) = H := funext fun b => by
    by_cases hb : b = a
    · rw [hb, upd_same, e]
    · rw [upd_ne hb]
  rw [eu] at J
  exact h _ J
end
/-! the readings -/
/-- B.__init__(self, ..) -/
def tBi (C : Addr) (ta : TA) : TE := fun σ H Q => ta σ H fun vs H1 => ∃ (a : Addr) (ws : List V), vs = .ref a :: ws ∧ ws.length ≤ 1000 ∧ H1 a = some (exo a C none) ∧ Q .non H1
/-- self.f = e, the first store -/
def tS1 (C : Addr) (f : Str) (to te : TE) : TS := fun D σ H => te σ H fun y H1 => to σ H1 fun x H2 => ∃ a : Addr, x = .ref a ∧ H2 a = some (exo a C none) ∧
  ∀ dx, H2 dx = none → dx ≠ a → D.nx σ (upd (upd H2 dx (exd dx [(f, y)])) a (exo a C (some dx)))
/-- what such an init keeps -/
def spI (okv : V → Prop) (C : Addr) (f : Str) : Sp := fun vs H Q _ => ∃ (a : Addr) (v : V), vs = [.ref a, v] ∧ okv v ∧ H a = some (exo a C none) ∧ ∀ dx, H dx = none → dx ≠ a → Q .non (upd (upd H dx (exd dx [(f, v)])) a (exo a C (some dx)))
/-- NAME(e), made -/
def tMk1 (okv : V → Prop) (C : Addr) (f : Str) (ta : TA) : Sl → Hp → XK → Prop := fun σ H Q => ta σ H fun vs H1 => ∃ v, vs = [v] ∧ okv v ∧ ∀ d, H1 d = none → Q (.ref C) (some d) (upd H1 d (.xd [(f, v)]))
section
variable {X : Cx} {o e : Expr} {es : List Expr} {to te : TE} {ta : TA} {f : Str} {p p' p1 p2 pos : Pos} {C : Addr} {bmB : List Value} {B Bn newId initId : String}
theorem pe_binit {x : Str} {pl : Sem Bool} (XB : XBase B Bn newId initId bmB) (T : XCls X.K C newId bmB) (hg : Gl X x) (hm : X.mg x = none) (hv : bootBuiltins x = some (.type B)) (ha : PA X (e :: es) ta)
    (hn : x ≠ "__name__" := by decide) (hdb : (x == ("__debug__" : Str)) = false := by decide)
    (hc : eval (.Call (.Attribute (.Name x p1) "__init__" p2) (e :: es) [] pos) X.env = (do
      let ov ← eval (.Name x p1) X.env
      standAt p2.atName
      let (f, first) ← holding [ov] (getMethod ov "__init__" pl)
      callWith pos f first (backTo pos (starEach (e :: es) X.env)) (backToKw pos (keywordEach [] X.env))) := by rfl)
    (he : starEach (e :: es) X.env = (false, eval e X.env) :: starEach es X.env := by rfl) (hpl : (backTo pos (starEach es X.env)).any (·.1) = false := by rfl) :
    PE X (.Call (.Attribute (.Name x p1) "__init__" p2) (e :: es) [] pos) (tBi C ta) := by
  refine ⟨fun pins s σ H Q I h => ?_⟩
  refine PySem.W.methodCall_KW (ld_blt I hg hm hv ?_ hn hdb) hc
  obtain ⟨m, fr⟩ := I.fr
  refine PySem.W.method_type fr I.ok.mod.kin XB.typ XB.stub (XB.fnd _) XB.hand ?_
  show wpAny _ _ (callWith pos (Value.builtin initId) [] (backTo pos (starEach (e :: es) X.env)) []) _ _ _
  refine PyProof.Rows.callWith_method1 (thn (ha.run pos pins _ σ H _ (I.tok _) h) fun us s1 ⟨vs, H1, I1, r1, a, ws, ev, hl, ea, q⟩ => ?_) he hpl
  subst ev
  cases r1 with
  | @cons _ u0 _ ur ra rw' =>
    obtain rfl : u0 = Value.ref a := ra
    have hlen : ur.length ≤ sizeLine := by
      rw [← Paired.length rw', sizeLine_eq]
      omega
    exact initOk XB T I1 ea hlen fun s' J => ⟨.non, H1, J, rfl, q⟩
theorem ps_s1 (XB : XBase B Bn newId initId bmB) (T : XCls X.K C newId bmB) (hno : PySem.W.findIn X.K (.ref C) f = some none) (ho : PE X o to) (he : PE X e te)
    (hs : swapsWith e (some (.Attribute o f p')) pos.line X.env = pure false := by rfl) : PS X (.Assign [.Attribute o f p'] e pos) (tS1 C f to te) := by
  refine ⟨fun pins s σ H D I h => ?_⟩
  refine plainObj_wpAny_Assign_Attribute (thn (he.run pins s σ H _ I h) fun v s1 ⟨y, H1, I1, r1, q1⟩ => thn (ho.run pins s1 σ H1 _ I1 q1) fun u s2 ⟨x, H2, I2, r2, a, ex, ea, q⟩ => ?_) hs
  subst ex
  obtain rfl : u = Value.ref a := r2
  exact store1 XB T I2 ea hno r1 fun dx s' n ne J => ⟨σ, _, J, q dx n ne⟩
/-- what is left when the exception itself is let go -/
theorem let_go {H1 : Hp} {a d : Addr} {v : V} (ha : H1 a = none) (hd : d ≠ a) :
    upd (del (upd (upd (upd H1 a (exo a C none)) d (exd d [(f, v)])) a (exo a C (some d))) a) d (.xd [(f, v)]) = upd H1 d (.xd [(f, v)]) := by
  funext b
  by_cases hb : b = d
  · rw [hb, upd_same, upd_same]
  · rw [upd_ne hb, upd_ne hb]
    by_cases hb2 : b = a
    · rw [hb2, del_same, ha]
    · rw [del_ne hb2, upd_ne hb2, upd_ne hb, upd_ne hb2]
theorem pmk1 {okv : V → Prop} {CX : CXT} {x : Str} {fI : Addr} {k : Nat} {fd : FuncData} {ps : List Str} (XB : XBase B Bn newId initId bmB) (T : XCls X.K C newId bmB)
    (iC : PySem.W.findIn X.K (.ref C) "__init__" = some (some (.ref fI))) (tI : PySem.W.typeIn X.K (.ref fI) = some (.type "function"))
    (F1 : FnOk X.prog X.w X.K X.mg X.base CX k fI fd ps (spI okv C f)) (hr : Room (k + 1) X.A) (hb : Binds X.K fd ps []) (hx : Passes CX X (fun _ _ _ => False)) (hg : Gl X x) (hm : X.mg x = some (.ref C)) (ha : PA X (e :: es) ta)
    (hdb : (x == ("__debug__" : Str)) = false := by decide) (he : starEach (e :: es) X.env = (false, eval e X.env) :: starEach es X.env := by rfl) (hpl : (backTo pos (starEach es X.env)).any (·.1) = false := by rfl) :
    L2N.PMk X (.Call (.Name x p) (e :: es) [] pos) (tMk1 okv C f ta) := by
  intro pins s σ H Q I h
  obtain ⟨nm, q, N, bs, bm, sn, sub, ab, col, dd, k0, k1, k2, k3, k5, hC, hbm⟩ := T.obj
  obtain ⟨iN, bmN, FN⟩ := XB.mkr
  refine wpAny_Call_Name_kw (ld_glob I hg hm ?_ hdb)
  refine PySem.W.callWith_K (h₀ := X.base) I.ok.mod.kin T.kC (thn (ha.run pos pins s σ H _ I h) fun us s1 ⟨vs, H1, I1, r1, v, ev, hok, q1⟩ => ⟨I1.kIn, ?_⟩) he hpl
  subst ev
  show wpAny _ _ (call (.ref C) us) _ _ _
  obtain ⟨hp, g, dr, tk, os⟩ := s1
  have hsz : hp.objs.size ≤ hp.objs.size + 1 := Nat.le_succ _
  have hn : H1 (hp.objs.size + 1) = none := I1.hok.fresh hsz
  have kk : ∀ b o, hp.get? b = some o → ((hp.push (PySem.W.kdv_tup us)).push (PySem.HandSPX.excO C hp.objs.size)).get? b = some o := fun b o e => Heap.get?_push_of_some _ (Heap.get?_push_of_some _ e)
  have hget : ((hp.push (PySem.W.kdv_tup us)).push (PySem.HandSPX.excO C hp.objs.size)).get? (hp.objs.size + 1) = some (PySem.HandSPX.excO C hp.objs.size) := by heap_get
  have I2 : Inv X pins σ (upd H1 (hp.objs.size + 1) (exo (hp.objs.size + 1) C none)) ⟨(hp.push (PySem.W.kdv_tup us)).push (PySem.HandSPX.excO C hp.objs.size), g, dr, tk, os⟩ :=
    I1.laid (t' := tk) (a := hp.objs.size + 1) (o := exo (hp.objs.size + 1) C none) (h' := (hp.push (PySem.W.kdv_tup us)).push (PySem.HandSPX.excO C hp.objs.size)) kk hsz (exo_ok hget)
  have r2 : Vals [V.ref (hp.objs.size + 1), v] (Value.ref (hp.objs.size + 1) :: us) := .cons rfl r1
  have hus : us.length ≤ sizeLine := by
    rw [← Paired.length r1, sizeLine_eq]
    show 1 ≤ 16777216
    decide
  have hsp : spI okv C f [V.ref (hp.objs.size + 1), v] (upd H1 (hp.objs.size + 1) (exo (hp.objs.size + 1) C none))
      (fun z H2 => z = .non ∧ ∃ d, H2 (hp.objs.size + 1) = some (exo (hp.objs.size + 1) C (some d)) ∧ H2 d = some (exd d [(f, v)]) ∧ H1 d = none ∧ Q (.ref C) (some d) (upd (del H2 (hp.objs.size + 1)) d (.xd [(f, v)]))) (fun _ _ _ => False) := by
    refine ⟨_, v, rfl, hok, upd_same, fun d hd ne => ⟨rfl, d, upd_same, ?_, ?_, ?_⟩⟩
    · rw [upd_ne ne, upd_same]
    · rw [upd_ne ne] at hd
      exact hd
    · rw [let_go hn ne]
      rw [upd_ne ne] at hd
      exact q1 d hd
  have hl : (Value.ref (hp.objs.size + 1) :: us ++ []).length = ps.length := by
    have e := r2.length
    rw [F1.len _ _ _ _ hsp] at e
    rw [List.append_nil]
    exact e.symm
  have hbd := hb _ (Value.ref (hp.objs.size + 1) :: us) I2.kIn hl
  rw [List.append_nil] at hbd
  refine wpAny_call (PySem.Hx.callOwn FN (PySem.Hx.tl_of XB hbm) (I1.kIn _ _ hC) (PySem.W.looks_findIn I1.kIn iC) (fun self => PySem.W.bind_fn I1.kIn self tI) hus
    (codeAny_mono (F1.run _ X.stack _ _ ⟨Value.ref (hp.objs.size + 1) :: us, []⟩ (Value.ref (hp.objs.size + 1) :: us) _ _ (fun _ _ _ => False) (hr.make C us []) (I2.env0.make C us []) hbd r2 hsp) fun r s' hq' => ?_))
  cases r with
  | error er => exact hx pins σ _ _ er s' I2 hq'
  | ok fl =>
    cases fl with
    | ret u =>
      obtain ⟨z, H2, os2, bare2, un2, hok2, rv, ev, d, ea, ed, hd1, q2⟩ := hq'
      subst ev
      obtain ⟨h2, g2, d2, t2, os'⟩ := s'
      obtain ⟨t0, G, J, kG, ge, hoe, na⟩ := mk_end0 (d2 := d2) (t2 := t2) I1 hsz kk un2 hok2 os2 bare2 ea ed hd1
      exact ⟨rv, _, _, _, ⟨G, g2, d2, t2, os'⟩, _, .ref C, some d, rfl, J, kG, ge, hoe, ⟨rfl, rfl, fun vs e => by cases e; rfl⟩, rfl, rfl, na, rfl, bare2, raises_own T.exC T.tyC, q2⟩
    | next => exact False.elim hq'
    | brk => exact False.elim hq'
    | cont => exact False.elim hq'
/-- NAME() of a class without an init of its own -/
theorem pmk0 {x : Str} (F : ExcBaseFacts B newId initId bmB) (q : PySem.W.excIn X.K C bmB newId = true) (gC : X.mg x = some (.ref C)) (kC : PySem.W.keepIn X.K (.ref C) = true) (r : Raises X (.ref C)) (hg : Gl X x)
    (hdb : (x == ("__debug__" : Str)) = false := by decide) : L2N.PMk X (.Call (.Name x p) [] [] pos) (fun _ H Q => Q (.ref C) none H) := by
  intro pins s σ H Q I h
  refine wpAny_Call_Name_kw (ld_glob I hg gC ?_ hdb)
  refine PySem.W.callWith_K0 I.kIn kC ?_
  show wpAny _ _ (call (.ref C) []) _ _ _
  obtain ⟨bm, N, nm, qn, bs, hdct, sn, sub, ab, col, dd, k0, k1, k2, k3, k5, mN, hC, hN, hni, T⟩ := exc_obj I.kIn q
  refine wpAny_call_exc_subT F T hC hN hni (fun h' e hm => ?_) (by show 0 ≤ sizeLine; omega)
  exact L2N.mk_of I hm r h (I.hok.gone hm.new)
end
end Hx


set_option Elab.async false
set_option linter.all false
set_option maxRecDepth 100000
set_option maxHeartbeats 4000000
/-! Hx, part 4: try with any number of clauses, each naming one class or a tuple of classes, with or without a name. -/
namespace PySem.W
open PySem.Spec PySem PySem.Calls PyProof.Rows
section
variable {M : Model} {K : Frag}
theorem hx_all {cls : Value} {h : Heap} (X : K.In h) : ∀ {cs : List Value} {b : Bool}, exmAny K cls cs = some b → ∀ {A : Around} {E : Value → Shared → Prop} {Q : PUnit → Shared → Prop} {s : Shared},
    (∀ b o, h.get? b = some o → s.heap.get? b = some o) → Q PUnit.unit s → wpAny M A (forIn cs PUnit.unit fun c __s => do
          let __do_lift ← isExcClass c
          if (!__do_lift) = true then do
              rule "try.except-non-exception-class"
              raiseErrorWords "TypeError" "catching classes that do not inherit from BaseException is not allowed"
              pure (ForInStep.yield PUnit.unit)
            else pure (ForInStep.yield PUnit.unit)) Q E s
  | [], _, _, _, _, _, _, _, q => by
    rw [List.forIn_nil]
    exact wpAny_pure q
  | c :: r, b, hx, A, E, Q, s, k, q => by
    obtain ⟨b1, d1, x1, y1, z1⟩ := exmAny_cons hx
    rw [List.forIn_cons]
    refine wpAny_bind (wpAny_bind (((exm_cls (M := M) X x1).1.keeps k).here ?_))
    simp only [Bool.not_true, Bool.false_eq_true, if_false]
    exact wpAny_pure (hx_all X y1 k q)
theorem hx_any {cls : Value} {h : Heap} (X : K.In h) : ∀ {cs : List Value} {b : Bool}, exmAny K cls cs = some b → ∀ {A : Around} {E : Value → Shared → Prop} {Q : Option Bool × Unit → Shared → Prop} {s : Shared},
    (∀ b o, h.get? b = some o → s.heap.get? b = some o) → Q (if b = true then some true else none, ()) s → wpAny M A (forIn cs (none, ()) fun c __s => do
            let __do_lift ← isSubtype cls c
            if __do_lift = true then pure (ForInStep.done (some true, ())) else pure (ForInStep.yield (none, ()))) Q E s
  | [], _, hx, _, _, _, _, _, q => by
    have e : some false = some _ := hx
    cases e
    rw [List.forIn_nil]
    exact wpAny_pure q
  | c :: r, b, hx, A, E, Q, s, k, q => by
    obtain ⟨b1, d1, x1, y1, z1⟩ := exmAny_cons hx
    rw [List.forIn_cons]
    refine wpAny_bind (wpAny_bind (((exm_cls (M := M) X x1).2.keeps k).here ?_))
    cases b1 with
    | true =>
      rw [Bool.true_or] at z1
      subst z1
      exact wpAny_pure (wpAny_pure q)
    | false =>
      rw [Bool.false_or] at z1
      subst z1
      exact wpAny_pure (hx_any X y1 k q)
theorem exm_list {cs : List Value} {cls : Value} {tp e : Addr} {b : Bool} {h : Heap} (X : K.In h) (LT : Looks M h (typeOf (.ref e)) cls) (hp : h.get? tp = some { cls := .type "tuple", data := .seq cs.toArray })
    (hx : exmAny K cls cs = some b) : Looks M h (excMatches (.ref e) (.ref tp)) b := by
  intro A Q E s k₀ q
  obtain ⟨hh, g, d, tk, os⟩ := s
  have k : ∀ b o, h.get? b = some o → hh.get? b = some o := k₀
  have LT0 : Looks M h (isInstance (.ref tp) (.type "tuple")) true := ((Looks.ld hp).andThen .now).andThen (Looks.of_pure isSubtype_tuple_tuple)
  have LT := LT.keeps k
  have LT0 := LT0.keeps k
  have hp' := k _ _ hp
  unfold excMatches
  refine wpAny_bind (LT0.at ?_)
  dsimp only
  rw [if_pos rfl]
  first
    | refine wpAny_bind (wpAny_seqItems hp' rfl ?_)
    | refine wpAny_bind (wpAny_bind (wpAny_seqItems hp' rfl (wpAny_pure ?_)))
  dsimp only [Option.getD_some, Option.getD]
  refine wpAny_bind (wpAny_pure (wpAny_bind (hx_all (s := ⟨hh, g, d, tk, os⟩) X hx k ?_)))
  refine wpAny_bind (LT.here (wpAny_bind (hx_any (s := ⟨hh, g, d, tk, os⟩) X hx k ?_)))
  cases b with
  | true => exact wpAny_pure q
  | false => exact wpAny_pure q
end
end PySem.W
namespace PySem.HandSPX
theorem FlyingZ.kept {base h h' : Heap} {l : List Env} {e : Addr} {Z : Obj → Prop} (x : FlyingZ base l e Z h) (k : ∀ b o, h.get? b = some o → h'.get? b = some o) : FlyingZ base l e Z h' := by
  obtain ⟨k1, k2, k3, oe, vs, T, oT, ts, h1, h2, h3, h4, h5, h6, h7, h8, h9⟩ := x
  exact ⟨fun b o q => k b o (k1 b o q), k2, Heap.FunFrames.of_keeps (fun b o q _ => ⟨o, k b o q, rfl⟩) k3, oe, vs, T, oT, ts, k _ _ h1, h2, h3, h4, h5, h6, k _ _ h7, h8, h9⟩
end PySem.HandSPX
namespace Hx
open PySem PySem.Spec L2 PyProof.Rows
/-- how a clause's classes are asked: t names cs -/
def CT (X : Cx) (t : Expr) (cs : List Value) : Prop := ∀ (a : Addr) (oe : Obj) (pn : List (Addr × Obj)) (σ : Sl) (H : Hp) (s : Shared) (Q : Value → Shared → Prop) (E : Value → Shared → Prop), Inv (X.suite a ((a, oe) :: pn)) [] σ H s →
  (∀ (v : Value) (h' : Heap), (∀ b o, s.heap.get? b = some o → h'.get? b = some o) → (∀ (M : Model) (cls : Value) (b : Bool), PySem.W.Looks M h' (typeOf (.ref a)) cls → PySem.W.exmAny X.K cls cs = some b → PySem.W.Looks M h' (excMatches (.ref a) v) b) → Q v { s with heap := h' }) →
  wpAny (model X.prog X.w) (X.A.mark (some (.ref a))) (eval t X.env) Q E s
theorem any1 {K : PySem.W.Frag} {cls c : Value} {b : Bool} (h : PySem.W.exmAny K cls [c] = some b) : PySem.W.exmOne K cls c = some b := by
  obtain ⟨b1, d1, x1, y1, z1⟩ := PySem.W.exmAny_cons h
  have e : some false = some d1 := y1
  cases e
  rw [Bool.or_false] at z1
  rw [z1]
  exact x1
theorem ct_name {X : Cx} {x : Str} {np : Pos} {c : Value} (hc : Names X x c) : CT X (.Name x np) [c] := by
  intro a oe pn σ H s Q E S h
  have fin : Q c s := h c s.heap (fun _ _ e => e) fun M cls b LT hx => PySem.W.exm_one S.kIn LT (any1 hx)
  obtain ⟨hg, hdbg, hm | ⟨hm, hv, hnn⟩⟩ := hc
  · exact ld_glob (X := X.suite a ((a, oe) :: pn)) S hg hm fin hdbg
  · exact ld_blt (X := X.suite a ((a, oe) :: pn)) S hg hm hv fin hnn hdbg
/-- the names of a tuple of classes -/
inductive NamesAll (X : Cx) : List Expr → List Value → Prop
  | nil : NamesAll X [] []
  | cons {x : Str} {np : Pos} {c : Value} {es : List Expr} {cs : List Value} (hc : Names X x c) (r : NamesAll X es cs) : NamesAll X (.Name x np :: es) (c :: cs)
theorem one_name {X : Cx} {x : Str} {np : Pos} {c : Value} (hc : Names X x c) {a : Addr} {oe : Obj} {pn : List (Addr × Obj)} {σ : Sl} {H : Hp} {s : Shared} (S : Inv (X.suite a ((a, oe) :: pn)) [] σ H s) {Q : Value → Shared → Prop} {E : Value → Shared → Prop} (q : Q c s) :
    wpAny (model X.prog X.w) (X.A.mark (some (.ref a))) (eval (.Name x np) X.env) Q E s := by
  obtain ⟨hg, hdbg, hm | ⟨hm, hv, hnn⟩⟩ := hc
  · exact ld_glob (X := X.suite a ((a, oe) :: pn)) S hg hm q hdbg
  · exact ld_blt (X := X.suite a ((a, oe) :: pn)) S hg hm hv q hnn hdbg
theorem splices_names {X : Cx} {a : Addr} {oe : Obj} {pn : List (Addr × Obj)} {σ : Sl} {H : Hp} {s : Shared} (S : Inv (X.suite a ((a, oe) :: pn)) [] σ H s) {pos : Pos} {E : Value → Shared → Prop} : ∀ {es : List Expr} {cs : List Value}, NamesAll X es cs → ∀ {Q : List Value → Shared → Prop}, Q cs s →
    wpAny (model X.prog X.w) (X.A.mark (some (.ref a))) (spliced (backTo pos (starEach es X.env))) Q E s := by
  intro es cs n
  induction n with
  | nil =>
    intro Q q
    exact wpAny_pure q
  | @cons x np c es cs hc r ih =>
    intro Q q
    show wpAny _ _ (spliced ((false, eval (.Name x np) X.env) :: backTo pos (starEach es X.env))) _ _ s
    exact Calls.spliced_cons (one_name hc S (ih q))
theorem ct_tup {X : Cx} {es : List Expr} {x1} {pos : Pos} {cs : List Value} (n : NamesAll X es cs) (hl : cs.length ≤ 1000) : CT X (.Tuple es x1 pos) cs := by
  intro a oe pn σ H s Q E S h
  refine wpAny_Tuple_spliced (splices_names S n ⟨by rw [sizeLine_eq]; omega, ?_⟩)
  have kp : ∀ b o, s.heap.get? b = some o → (s.heap.push { cls := .type "tuple", data := .seq cs.toArray }).get? b = some o := fun b o e => Heap.get?_push_of_some _ e
  exact h _ _ kp fun M cls b LT hx => PySem.W.exm_list (S.kIn.keeps kp) LT (Heap.get?_push_size _ rfl) hx
/-! clauses -/
abbrev Ts := Addr → Value → Option Addr → TS
/-- the ends behind a suite that had the name in slot i -/
def wipeEnds (i : Nat) (D : Ends) : Ends := { nx := fun σ' H' => D.nx (σ'.set i none) H', rt := D.rt, bk := fun σ' H' => D.bk (σ'.set i none) H', ct := fun σ' H' => D.ct (σ'.set i none) H' }
/-- what the clauses wish, one behind the other: classes, the name's slot, the suite -/
def wG (K : PySem.W.Frag) (Wout : WX) (D : Ends) : List (List Value × Option Nat × Ts) → WX
  | [] => Wout
  | (cs, none, ts) :: r => fun cls d σ H => ∃ b, PySem.W.exmAny K cls cs = some b ∧ (b = true → ∀ a, H a = none → ts a cls d D σ H) ∧ (b = false → wG K Wout D r cls d σ H)
  | (cs, some i, ts) :: r => fun cls d σ H => ∃ b, PySem.W.exmAny K cls cs = some b ∧ (b = true → ∀ a, H a = none → ts a cls d (wipeEnds i D) (σ.set i (some (.ref a))) H) ∧ (b = false → wG K Wout D r cls d σ H)
inductive HdG (X : Cx) : List ExceptHandler → List (List Value × Option Nat × Ts) → Prop
  | nil : HdG X [] []
  | bare {t : Expr} {cs : List Value} {ts : Ts} {b₀ : Stmt} {suite : List Stmt} {pos' : Pos} {hds : List ExceptHandler} {l : List (List Value × Option Nat × Ts)} (hc : CT X t cs)
      (hsu : ∀ (a : Addr) (oe : Obj) (cls : Value) (d : Option Addr) (pn : List (Addr × Obj)), L2N.Zn cls d oe → (∃ vs, oe.data = .fields vs) → PSs (X.suite a ((a, oe) :: pn)) (b₀ :: suite) (ts a cls d)) (r : HdG X hds l) :
      HdG X (.ExceptHandler (some t) none (b₀ :: suite) pos' :: hds) ((cs, none, ts) :: l)
  | named {t : Expr} {cs : List Value} {ts : Ts} {n : Str} {i : Nat} {b₀ : Stmt} {suite : List Stmt} {pos' : Pos} {hds : List ExceptHandler} {l : List (List Value × Option Nat × Ts)} (hc : CT X t cs)
      (hi : X.N[i]? = some n) (hln : X.env.kindOf n = some .local)
      (hsu : ∀ (a : Addr) (oe : Obj) (cls : Value) (d : Option Addr) (pn : List (Addr × Obj)), L2N.Zn cls d oe → (∃ vs, oe.data = .fields vs) → PSs (X.suite a ((a, oe) :: pn)) (b₀ :: suite) (ts a cls d)) (r : HdG X hds l) :
      HdG X (.ExceptHandler (some t) (some n) (b₀ :: suite) pos' :: hds) ((cs, some i, ts) :: l)
section
variable {X : Cx} {body : List Stmt} {h₀ : ExceptHandler} {hds : List ExceptHandler} {l : List (List Value × Option Nat × Ts)} {pos : Pos} {tb : WX → TS} {Wout : WX}
theorem ps_tryG (hs : X.stack = X.env :: X.outer) (hf : X.env.frame = some X.env.locals) (hN : X.N.Nodup) (tk : L2N.Takes X Wout)
    (hb : ∀ (W : WX) (pn : List (Addr × Obj)) (xe : Value → Shared → Prop), L2N.Takes (X.tr pn xe) W → PassesOwn (model X.prog X.w) X.A X.env xe → PSs (X.tr pn xe) body (tb W))
    (hh : HdG X (h₀ :: hds) l) : PS X (.Try body (h₀ :: hds) [] [] pos) (fun D σ H => tb (wG X.K Wout D l) D σ H) := by
  refine ⟨fun pins s σ H D I h => ?_⟩
  have ok := I.ok
  have hfr : X.A.frames = some (X.env :: X.outer) := by rw [ok.frames, hs]
  refine wpAny_Try_except ?_
  refine wpAny_mono ((hb (wG X.K Wout D l) (X.pn ++ pins) (fun e s₁ => wpAny (model X.prog X.w) X.A (noteFrame e X.env) (fun _ s₂ => wpAny (model X.prog X.w) X.A (setFlight e none) (fun _ s₃ =>
    wpAny (model X.prog X.w) X.A (handleBy e X.env (h₀ :: hds)) (SP X pins D) X.xe s₃) X.xe s₂) X.xe s₁) (fun u s' xx => ?_) PassesOwn.looking).run [] s σ H D (I.toTry _) h) (fun f s1 hsp => ?_) (fun e s1 he => he)
  · obtain ⟨a, B, sI, pins', σ', H', cls, d, rfl, J', nb, up, sky, na, os, ag, w⟩ := xx
    have J : Inv X pins σ' H' sI := J'.ofTry ok
    have sky' : Sky B (X.env :: X.outer) a (L2N.Zn cls d) X.env.locals s'.heap := by rw [← hs]; exact sky
    show wpAny (model X.prog X.w) X.A (noteFrame (.ref a) X.env) _ _ _
    refine L2N.Sky.land L2N.Zn.steady hfr hf sky' fun h3 fl3 up3 => ?_
    have go : ∀ {hds' : List ExceptHandler} {l' : List (List Value × Option Nat × Ts)}, HdG X hds' l' → ∀ (h3 : Heap), HandSPX.FlyingZ B (X.env :: X.outer) a (L2N.Zn cls d) h3 → sI.heap.UpToSlots h3 → wG X.K Wout D l' cls d σ' H' →
        wpAny (model X.prog X.w) X.A (handleBy (.ref a) X.env hds') (SP X pins D) X.xe { s' with heap := h3 } := by
      intro hds' l' hk
      -- what is known at each such heap
      have at_ : ∀ (h3 : Heap), HandSPX.FlyingZ B (X.env :: X.outer) a (L2N.Zn cls d) h3 → sI.heap.UpToSlots h3 → ∃ oe, h3.get? a = some oe ∧ L2N.Zn cls d oe ∧ (∃ vs, oe.data = .fields vs) ∧ Inv (X.suite a ((a, oe) :: (X.pn ++ pins))) [] σ' H' { s' with heap := h3 } := by
        intro h3 fl3 up3
        have J3 : Inv X pins σ' H' { s' with heap := h3 } := J.landed nb fl3.1 up3 os ag
        obtain ⟨oe3, vs3, he3, hz3, hd3⟩ := fl3.there
        have nfr : a ∉ frs (X.env :: X.outer) := fun hm => by
          obtain ⟨_, o', e', hnf⟩ := fl3.2.2.1.mem hm
          rw [he3] at e'
          cases e'
          exact hnf _ hd3
        have nL : a ≠ X.env.locals := fun z => nfr (List.mem_filterMap.mpr ⟨X.env, List.mem_cons_self, by rw [hf, z]⟩)
        have nF : a ∉ X.fs := fun hm => by
          obtain ⟨e, he, q⟩ := List.mem_filterMap.mp hm
          exact nfr (List.mem_filterMap.mpr ⟨e, List.mem_cons_of_mem _ he, q⟩)
        exact ⟨oe3, he3, hz3, ⟨_, hd3⟩, J3.suite he3 hd3 na nL nF⟩
      have back : ∀ {oe : Obj} {σ6 : Sl} {H6 : Hp} {s6 : Shared}, Inv (X.suite a ((a, oe) :: (X.pn ++ pins))) [] σ6 H6 s6 → Inv X pins σ6 H6 s6 := fun S6 => S6.unsuite ok
      -- the test of a clause
      have test : ∀ (h3 : Heap), HandSPX.FlyingZ B (X.env :: X.outer) a (L2N.Zn cls d) h3 → sI.heap.UpToSlots h3 → ∀ {t : Expr} {cs : List Value} {b : Bool}, CT X t cs → PySem.W.exmAny X.K cls cs = some b → ∀ {p' : Pos} {nm : Option Str} {bd : List Stmt} {rest : List ExceptHandler},
          (∀ h4, HandSPX.FlyingZ B (X.env :: X.outer) a (L2N.Zn cls d) h4 → sI.heap.UpToSlots h4 → b = false → wpAny (model X.prog X.w) X.A (handleBy (.ref a) X.env rest) (SP X pins D) X.xe { s' with heap := h4 }) →
          (∀ h4, HandSPX.FlyingZ B (X.env :: X.outer) a (L2N.Zn cls d) h4 → sI.heap.UpToSlots h4 → b = true → codeAny (model X.prog X.w) (X.A.mark (some (.ref a))) (.handlers (.ref a) [.ExceptHandler none nm bd p'] X.env) (fun r s₂ => match r with
              | .ok f => (match nm with
                | none => SP X pins D f s₂
                | some n => wpAny (model X.prog X.w) X.A (do bindName X.env n .none; unbindBehindTheSuite X.env n p') (fun _ s₃ => SP X pins D f s₃) X.xe s₂)
              | .error x => cameBackBy (model X.prog X.w) X.A X.env X.xe x s₂) { s' with heap := h4 }) →
          wpAny (model X.prog X.w) X.A (handleBy (.ref a) X.env (.ExceptHandler (some t) nm bd p' :: rest)) (SP X pins D) X.xe { s' with heap := h3 } := by
        intro h3 fl3 up3 t cs b hc hx p' nm bd rest kf kt
        obtain ⟨oe3, he3, hz3, _, S3⟩ := at_ h3 fl3 up3
        refine wpAny_handleBy_cons (codeAny_handlers_test (hc a oe3 _ σ' H' _ _ _ S3 fun v h4 kp lk => ?_)) (by intro q; cases q)
        have LT : PySem.W.Looks (model X.prog X.w) h4 (typeOf (.ref a)) cls := fun A Q E s k q => wpAny_typeOf_ref (k _ _ (kp _ _ he3)) (by rw [hz3.1]; exact q)
        have fl4 := fl3.kept kp
        have up4 : sI.heap.UpToSlots h4 := up3.trans (Heap.UpToSlots.of_keeps kp)
        refine (lk (model X.prog X.w) cls b LT hx).here ?_
        cases b with
        | true => exact kt h4 fl4 up4 rfl
        | false => exact kf h4 fl4 up4 rfl
      induction hk with
      | nil =>
        intro h3 fl3 up3 w
        refine wpAny_handleBy_nil ?_
        obtain ⟨k1, k2, k3, oe, vs, T, oT, ts', he, hz, hd, h1, hr⟩ := id fl3
        unfold PySem.passOn
        refine wpAny_bind (wpAny_field he hd h1 ?_)
        rw [if_neg (show ¬ ((Value.ref T == Value.none) = true) from by simp)]
        have fin : wpAny (model X.prog X.w) X.A (setFlight (.ref a) X.env.frame) (fun _ s4 => wpAny (model X.prog X.w) X.A (throw (.ref a) : Sem Flow) (SP X pins D) X.xe s4) X.xe { s' with heap := h3 } := by
          rw [hf]
          refine HandSPX.setFlight_upZ fl3 fun h4 hh4 up4 => wpAny_throw (tk _ _ ?_)
          exact ⟨a, B, sI, pins, σ', H', cls, d, rfl, J, nb, up3.trans up4, .inr (.inr (by rw [hs]; exact hh4)), na, os, ag, w⟩
        first
          | exact wpAny_bind (wpAny_pure (wpAny_bind fin))
          | exact wpAny_bind fin
      | @bare t cs ts b₀ suite pos' hds2 l2 hc hsu r ih =>
        intro h3 fl3 up3 w
        obtain ⟨b, hb1, hyes, hno⟩ := w
        refine test h3 fl3 up3 hc hb1 (fun h4 fl4 up4 eb => ih h4 fl4 up4 (hno eb)) fun h4 fl4 up4 eb => ?_
        refine codeAny_handlers_suite (HandSPX.lands_againZ fl4 fun h5 fl5 up5 => ?_)
        obtain ⟨oe5, he5, hz5, hd5, S5⟩ := at_ h5 fl5 (up4.trans up5)
        refine wpAny_mono ((hsu a oe5 cls d (X.pn ++ pins) hz5 hd5).run [] _ _ H' _ S5 (hyes eb a na)) (fun f s6 hsp => ?_) (fun _ _ z => False.elim z)
        cases f with
        | ret u =>
          obtain ⟨v6, σ6, H6, S6, r6, q6⟩ := hsp
          exact ⟨_, _, _, back S6, r6, q6⟩
        | _ =>
          obtain ⟨σ6, H6, S6, q6⟩ := hsp
          exact ⟨_, _, back S6, q6⟩
      | @named t cs ts n i b₀ suite pos' hds2 l2 hc hi hln hsu r ih =>
        intro h3 fl3 up3 w
        obtain ⟨b, hb1, hyes, hno⟩ := w
        refine test h3 fl3 up3 hc hb1 (fun h4 fl4 up4 eb => ih h4 fl4 up4 (hno eb)) fun h4 fl4 up4 eb => ?_
        refine codeAny_handlers_suite_as (HandSPX.lands_againZ fl4 fun h5 fl5 up5 => ?_)
        obtain ⟨oe5, he5, hz5, hd5, S5⟩ := at_ h5 fl5 (up4.trans up5)
        refine store_ok (X := X.suite a ((a, oe5) :: (X.pn ++ pins))) (v := .ref a) S5 hN hi (.inl hln) rfl (fun s5 S5 => ?_) (.inr hln)
        refine wpAny_mono ((hsu a oe5 cls d (X.pn ++ pins) hz5 hd5).run [] s5 _ H' _ S5 (hyes eb a na)) (fun f s6 hsp => ?_) (fun _ _ z => False.elim z)
        cases f with
        | ret u =>
          obtain ⟨v6, σ6, H6, S6, r6, q6⟩ := hsp
          exact gone_ok (back S6) hN hi hln fun s7 J7 => ⟨_, _, _, J7, r6, q6⟩
        | _ =>
          obtain ⟨σ6, H6, S6, q6⟩ := hsp
          exact gone_ok (back S6) hN hi hln fun s7 J7 => ⟨_, _, J7, q6⟩
    exact go hh h3 fl3 (up.trans up3) w
  · cases f with
    | next =>
      obtain ⟨σ', H', J', q⟩ := hsp
      exact wpAny_execs_nil ⟨σ', H', J'.ofTry ok, q⟩
    | ret u =>
      obtain ⟨v, σ', H', J', r, q⟩ := hsp
      exact ⟨v, σ', H', J'.ofTry ok, r, q⟩
    | _ =>
      obtain ⟨σ', H', J', q⟩ := hsp
      exact ⟨σ', H', J'.ofTry ok, q⟩
end
end Hx


set_option Elab.async false
set_option linter.all false
set_option maxRecDepth 100000
set_option maxHeartbeats 4000000
/-! Hx, part 5: data with dicts, read off the abstract heap; repr of it. -/
namespace Hx
open PySem PySem.Spec L2 PyProof.Rows
def keyD : Key → PyData
  | .inl i => .int i
  | .inr x => .str x
mutual
/-- v shows the data d: lists and dicts are tracked, tuples tracked or written -/
inductive Dx (K : PySem.W.Frag) (H : Hp) : V → PyData → Prop
  | non : Dx K H .non .none
  | bl (b : Bool) : Dx K H (.bl b) (.bool b)
  | int (i : Int) : Dx K H (.int i) (.int i)
  | str (x : Str) : Dx K H (.str x) (.str x)
  | lst {a : Addr} {xs : List V} {ds : List PyData} : Rd H a (.lst xs) → DxAll K H xs ds → Dx K H (.ref a) (.list ds)
  | tup {a : Addr} {xs : List V} {ds : List PyData} : SqT K H a xs → DxAll K H xs ds → Dx K H (.ref a) (.tuple ds)
  | dic {a : Addr} {kvs : List (Key × V)} {ds : List (PyData × PyData)} : Rd H a (.dK kvs) → DxKv K H kvs ds → Dx K H (.ref a) (.dict ds)
inductive DxAll (K : PySem.W.Frag) (H : Hp) : List V → List PyData → Prop
  | nil : DxAll K H [] []
  | cons {v : V} {vs : List V} {d : PyData} {ds : List PyData} : Dx K H v d → DxAll K H vs ds → DxAll K H (v :: vs) (d :: ds)
inductive DxKv (K : PySem.W.Frag) (H : Hp) : List (Key × V) → List (PyData × PyData) → Prop
  | nil : DxKv K H [] []
  | cons {k : Key} {v : V} {kvs : List (Key × V)} {d : PyData} {ds : List (PyData × PyData)} : Dx K H v d → DxKv K H kvs ds → DxKv K H ((k, v) :: kvs) ((keyD k, d) :: ds)
end
theorem key_reads {h : Heap} {k : Key} {u : Value} (e : keyIs k u = true) : Reads h u (keyD k) [] := by
  rcases keyIs_shape e with ⟨i, t, rfl, rfl⟩ | ⟨x, t, rfl, rfl⟩
  · exact .int i t
  · exact .str x t
theorem keys_read {P : Program} {w : World} {h : Heap} : ∀ {es : List DictEntry} {vs : List (Key × Value)} {kvs : List (Key × V)} {ds : List (PyData × PyData)} {K : PySem.W.Frag} {H : Hp}, Pairs (mixKind P w) es vs → KV kvs vs → DxKv K H kvs ds →
    ReadsAll h (es.map (·.key)) (ds.map (·.1)) []
  | _, _, _, _, _, _, .nil, .nil, .nil => .nil
  | _, _, _, _, _, _, .cons h1 h2 t, .cons r rt, .cons q qt => by
    have e := r.1
    have z := keys_read t rt qt (h := h)
    refine ReadsAll.cons (as := []) (bs := []) (key_reads ?_) z
    have e2 : _ = _ := e
    dsimp only at e2 ⊢
    rw [e2]
    exact h1
section
variable {X : Cx} {pins : List (Addr × Obj)} {σ : Sl} {H : Hp} {s : Shared}
mutual
theorem Dx.reads (I : Inv X pins σ H s) : ∀ {v : V} {d : PyData}, Dx X.K H v d → ∀ {u : Value}, RelV v u → ∃ as, Reads s.heap u d as ∧ ∀ a ∈ as, H a ≠ none
  | _, _, .non, _, r => by
    cases r
    exact ⟨_, .none, fun _ h => nomatch h⟩
  | _, _, .bl b, _, r => by
    cases r
    exact ⟨_, .bool b, fun _ h => nomatch h⟩
  | _, _, .int i, _, r => by
    obtain ⟨t, rfl⟩ := r
    exact ⟨_, .int i t, fun _ h => nomatch h⟩
  | _, _, .str x, _, r => by
    obtain ⟨t, rfl⟩ := r
    exact ⟨_, .str x t, fun _ h => nomatch h⟩
  | _, _, .lst (a := a) hs ha, _, r => by
    cases r
    obtain ⟨its, rv, ⟨o, n, ho, hc, _, hd⟩, _⟩ := I.list (.inl hs)
    obtain ⟨as, hr, hn⟩ := DxAll.reads I ha rv
    refine ⟨_, .list ho hc hd (by simpa using hr), fun b hb => ?_⟩
    rcases List.mem_cons.mp hb with rfl | hb
    · rcases hs with z | ⟨_, z⟩ <;> (rw [z]; exact fun q => nomatch q)
    · exact hn b hb
  | _, _, .tup hs ha, _, r => by
    cases r
    obtain ⟨its, rv, ⟨o, ho, hc, n, hd⟩, _⟩ := I.tuple hs
    obtain ⟨as, hr, hn⟩ := DxAll.reads I ha rv
    exact ⟨_, .tuple ho hc hd (by simpa using hr), hn⟩
  | _, _, .dic (a := a) hs ha, _, r => by
    cases r
    obtain ⟨_, _, vs, kv, o, es, ep, ho, hx, hd, _, hp, _⟩ := hs.ok I.hok
    obtain ⟨bs, hr, hn⟩ := DxKv.reads I ha hp kv
    refine ⟨_, .dict ho hx.1 hd (keys_read hp kv ha) hr, fun b hb => ?_⟩
    rcases List.mem_cons.mp (show b ∈ a :: ([] ++ bs) from hb) with rfl | hb
    · rcases hs with z | ⟨_, z⟩ <;> (rw [z]; exact fun q => nomatch q)
    · exact hn b hb
theorem DxAll.reads (I : Inv X pins σ H s) : ∀ {vs : List V} {ds : List PyData}, DxAll X.K H vs ds → ∀ {us : List Value}, Vals vs us → ∃ as, ReadsAll s.heap us ds as ∧ ∀ a ∈ as, H a ≠ none
  | _, _, .nil, _, .nil => ⟨_, .nil, fun _ h => nomatch h⟩
  | _, _, .cons h1 h2, _, .cons r1 r2 => by
    obtain ⟨as, q1, n1⟩ := Dx.reads I h1 r1
    obtain ⟨bs, q2, n2⟩ := DxAll.reads I h2 r2
    exact ⟨_, .cons q1 q2, fun b hb => (List.mem_append.mp hb).elim (n1 b) (n2 b)⟩
theorem DxKv.reads (I : Inv X pins σ H s) : ∀ {kvs : List (Key × V)} {ds : List (PyData × PyData)}, DxKv X.K H kvs ds → ∀ {es : List DictEntry} {vs : List (Key × Value)}, Pairs (mixKind X.prog X.w) es vs → KV kvs vs →
    ∃ as, ReadsAll s.heap (es.map (·.val)) (ds.map (·.2)) as ∧ ∀ a ∈ as, H a ≠ none
  | _, _, .nil, _, _, .nil, .nil => ⟨_, .nil, fun _ h => nomatch h⟩
  | _, _, .cons h1 h2, _, _, .cons (e := e) k1 k2 kt, .cons r rt => by
    have r2 := r.2
    rw [← k2] at r2
    obtain ⟨as, q1, n1⟩ := Dx.reads I h1 r2
    obtain ⟨bs, q2, n2⟩ := DxKv.reads I h2 kt rt
    exact ⟨_, .cons q1 q2, fun b hb => (List.mem_append.mp hb).elim (n1 b) (n2 b)⟩
end
end

/-- repr(x) of shown data -/
def rRepr (K : PySem.W.Frag) : List V → Hp → VK → Prop := fun xs H Q => ∃ (x : V) (d : PyData), xs = [x] ∧ Dx K H x d ∧ d.showable = true ∧ d.shown.length ≤ sizeLine ∧ d.depth ≤ 60 ∧ (d.hasDict = true → (K.lookup sysModules).isSome = true) ∧ Q (.str d.shown) H
theorem call_reprD {X : Cx} (hg : X.A.guards = some []) (hu : X.A.units + 64 < cLine) : CallR X (.builtin "repr") (rRepr X.K) := by
  intro pins s σ H xs us Q I r h
  obtain ⟨x, d, rfl, hd, hs, hz, hdep, hsm, q⟩ := h
  cases r with
  | cons rx rr =>
    cases rr
    obtain ⟨as, hr, hn⟩ := hd.reads I rx
    have hsm' : d.hasDict = true → sysModules ∉ as := fun hh hm => by
      obtain ⟨o, ho⟩ := Option.isSome_iff_exists.mp (hsm hh)
      exact hn _ hm (I.bs _ _ (I.ok.mod.kin _ _ ho)).2
    have fin : ∀ (h' : Heap) (t : Tok) (tk : Nat), (∀ b o, s.heap.get? b = some o → h'.get? b = some o) → EP X pins σ Q (.str d.shown t) { s with heap := h', toks := tk } := fun h' t tk k => ⟨.str d.shown, H, I.kept (t' := tk) k, ⟨t, rfl⟩, q⟩
    cases hr with
    | none =>
      refine PySem.P.repr_of_none ?_
      have := fin s.heap s.toks (s.toks + 1) fun _ _ e => e
      simpa only [PyData.shown] using this
    | bool b =>
      refine PySem.P.repr_of_bool ?_
      have := fin s.heap s.toks (s.toks + 1) fun _ _ e => e
      simpa only [PyData.shown] using this
    | int i t =>
      refine PySem.P.repr_of_int (by simpa [PyData.showable] using hs) ?_
      have := fin s.heap s.toks (s.toks + 1) fun _ _ e => e
      simpa only [PyData.shown] using this
    | str z t =>
      refine PySem.P.repr_of_str ?_ (by simpa only [PyData.shown] using hz)
      have := fin s.heap s.toks (s.toks + 1) fun _ _ e => e
      simpa only [PyData.shown] using this
    | list h1 h2 h3 h4 => exact repr_of_reads' (.list h1 h2 h3 h4) hs hsm' hg (by omega) (fun _ _ e => e) (fun h' u tk k => fin h' u tk k) hz
    | tuple h1 h2 h3 h4 => exact repr_of_reads' (.tuple h1 h2 h3 h4) hs hsm' hg (by omega) (fun _ _ e => e) (fun h' u tk k => fin h' u tk k) hz
    | dict h1 h2 h3 h4 h5 => exact repr_of_reads' (.dict h1 h2 h3 h4 h5) hs hsm' hg (by omega) (fun _ _ e => e) (fun h' u tk k => fin h' u tk k) hz
/-! ### a def that is told that nothing is being shown around it -/
structure FnG (P : Program) (w : World) (K : PySem.W.Frag) (mg : Str → Option Value) (base : Heap) (CX : CXT) (k : Nat) (f : Addr) (fd : FuncData) (ps : List Str) (sp : Sp) : Prop where
  len : ∀ vs H Q E, sp vs H Q E → vs.length = ps.length
  run : ∀ (A : Around) (outer : List Env) (s : Shared) (H : Hp) (args : Args) (us : List Value) (vs : List V) (Q : VK) (E : XK), Room k A → A.guards = some [] → Env0 P w K mg base A outer s H → BindsTo s fd args (ps.zip us) → Vals vs us → sp vs H Q E →
    codeAny (model P w) A (.call (.ref f) args) (CR CX outer P w H s Q E) s
/-- every def is one -/
theorem FnG.of {P : Program} {w : World} {K : PySem.W.Frag} {mg : Str → Option Value} {base : Heap} {CX : CXT} {k : Nat} {f : Addr} {fd : FuncData} {ps : List Str} {sp : Sp} (F : FnOk P w K mg base CX k f fd ps sp) : FnG P w K mg base CX k f fd ps sp :=
  ⟨F.len, fun A outer s H args us vs Q E hr _ => F.run A outer s H args us vs Q E hr⟩
section
variable {P : Program} {w : World} {K : PySem.W.Frag} {mg : Str → Option Value} {base : Heap} {x qual : Str} {params : Arguments} {body : List Stmt} {scope : Scope} {dvs : List V} {kws : List (Str × V)} {f : Addr} {fd : FuncData}
/-- from FnOk at one A to FnG: the promise may be made to hang on the guards of A -/
theorem okG {CX : CXT} {N ps : List Str} {k : Nat} {sp : Sp} (F : FunD K x qual params body scope dvs kws f fd) (S : FnScope N ps scope) (len : ∀ vs H Q E, sp vs H Q E → vs.length = ps.length)
    (hbody : ∀ (cdv : Value) (A : Around) (outer : List Env) (s : Shared) (H : Hp) (vs : List V) (Q : VK) (E : XK), Room k (A.deeper (envOfC qual scope s.heap.objs.size f cdv)) → A.guards = some [] → sp vs H Q E →
      ∃ t, PSs (cxOf CX P w K mg base N qual scope f cdv A outer s H E) body t ∧ t { nx := fun _ H' => Q .non H', rt := Q } (L2.start N vs) H) : FnG P w K mg base CX (k + 1) f fd ps sp := by
  obtain ⟨oc, od, dV, kV, doc, pm, an, cdv, ct, osl, rfl, lk, hcd, _, _⟩ := F.ex
  refine ⟨len, fun A outer s H args us vs Q E hr hgd e0 hb r hsp => ?_⟩
  have hl := len _ _ _ _ hsp
  have KX : K.In s.heap := e0.mod.kin.keeps fun b o e => (e0.bs b o e).1
  have lim : s.heap.NoLimit := e0.mod.nolimit.keeps fun b o e => (e0.bs b o e).1
  have hkind : ∀ y ∈ ps.zip us, scope.names.lookup y.1 = some .local ∨ (scope.names.lookup y.1 = some .cell ∧ ((cellsFrom (s.heap.objs.size + 1) scope.names []).lookup y.1).isSome = true) := fun ⟨n, v⟩ hy =>
    (S.par n (List.of_mem_zip hy).1).imp id fun q => ⟨q, PySem.W.cellsFrom_some _ _ _ (.inl q)⟩
  refine codeAny_call_function hr.depth (KX _ _ lk) rfl S.co S.gen rfl (PySem.W.codeRec_of KX hcd) (hb _ _ _ _ ?_)
  refine wpAny_newFunctionEnv_cells S.kind hkind fun env he s1 x => ?_
  subst he
  refine ⟨lim.keeps x.toInCall.keep, codeAny_func ?_⟩
  obtain ⟨t, ht, hq⟩ := hbody cdv A outer s H vs Q E (hr.deeper _) hgd hsp
  refine wpAny_mono (ht.run [] s1 (L2.start N vs) H _ (inv_start S hr.hd e0 hl r x) hq) (fun fl s' hs => ?_) fun e s' hs => hs
  cases fl with
  | ret u =>
    obtain ⟨v, σ', H', J, rv, q⟩ := hs
    exact ⟨v, H', J.os, J.bare, J.base, J.hok, rv, q⟩
  | next =>
    obtain ⟨σ', H', J, q⟩ := hs
    exact ⟨V.non, H', J.os, J.bare, J.base, J.hok, rfl, q⟩
  | brk =>
    obtain ⟨_, _, _, q⟩ := hs
    exact False.elim q
  | cont =>
    obtain ⟨_, _, _, q⟩ := hs
    exact False.elim q
end
section
variable {X : Cx} {CX : CXT} {k : Nat} {f : Addr} {fd : FuncData} {ps : List Str} {sp : Sp} {dvs : List V} {ds : List Value} {E : XK} {x : Str} {p pos : Pos} {e : Expr} {es : List Expr} {t : TA}
theorem run_fnG {pins : List (Addr × Obj)} {σ : Sl} {H : Hp} {s : Shared} {Q : VK} {us : List Value} {vs : List V} (F : FnG X.prog X.w X.K X.mg X.base CX k f fd ps sp) (hr : Room k X.A) (hgd : X.A.guards = some []) (hb : Binds X.K fd ps ds) (hd : Vals dvs ds) (hx : Passes CX X E)
    (I : Inv X pins σ H s) (r : Vals vs us) (h : sp (vs ++ dvs) H Q E) : wpAny (model X.prog X.w) X.A (call (.ref f) us) (EP X pins σ Q) X.xe s := by
  have r2 : Vals (vs ++ dvs) (us ++ ds) := r.append hd
  have hl : (us ++ ds).length = ps.length := by rw [← r2.length]; exact F.len _ _ _ _ h
  refine wpAny_call (codeAny_mono (F.run X.A X.stack s H ⟨us, []⟩ (us ++ ds) (vs ++ dvs) Q E hr hgd I.env0 (hb s us I.kIn hl) r2 h) fun r s' hq => ?_)
  cases r with
  | error e => exact hx pins σ H s e s' I hq
  | ok fl =>
    cases fl with
    | ret u => exact I.after hq
    | _ => exact False.elim hq
theorem pe_callG (F : FnG X.prog X.w X.K X.mg X.base CX k f fd ps sp) (hr : Room k X.A) (hgd : X.A.guards = some []) (hg : Gl X x) (hm : X.mg x = some (.ref f)) (hk : PySem.W.keepIn X.K (.ref f) = true) (hb : Binds X.K fd ps ds) (hd : Vals dvs ds) (hx : Passes CX X E)
    (ha : PA X (e :: es) t) (hdb : (x == ("__debug__" : Str)) = false := by decide) (he : starEach (e :: es) X.env = (false, eval e X.env) :: starEach es X.env := by rfl) (hpl : (backTo pos (starEach es X.env)).any (·.1) = false := by rfl) :
    PE X (.Call (.Name x p) (e :: es) [] pos) (tCall sp dvs E t) := by
  refine ⟨fun pins s σ H Q I h => ?_⟩
  refine wpAny_Call_Name_kw (ld_glob I hg hm ?_ hdb)
  refine PySem.W.callWith_K (h₀ := X.base) I.ok.mod.kin hk (thn (ha.run pos pins s σ H _ I h) fun us s1 ⟨vs, H1, I1, r, q⟩ => ⟨I1.kIn, ?_⟩) he hpl
  exact run_fnG F hr hgd hb hd hx I1 r q
end
end Hx


set_option Elab.async false
set_option linter.all false
set_option maxRecDepth 100000
set_option maxHeartbeats 4000000
/-! Hx, part 6: defs that are handed the exception that is being handled: their promise may speak of its object p. -/
namespace Hx
open PySem PySem.Spec L2 PyProof.Rows
open L2H (RoomH Hot1 PinOk cxH inv_startH)
structure FnP (P : Program) (w : World) (K : PySem.W.Frag) (mg : Str → Option Value) (base : Heap) (CX : CXT) (k : Nat) (f : Addr) (fd : FuncData) (ps : List Str) (sp : Addr × Obj → Sp) : Prop where
  len : ∀ p vs H Q E, sp p vs H Q E → vs.length = ps.length
  run : ∀ (A : Around) (outer : List Env) (s : Shared) (H : Hp) (args : Args) (us : List Value) (vs : List V) (Q : VK) (E : XK) (p : Addr × Obj), RoomH k A → Hot1 A p → PinOk outer H s p → Env0 P w K mg base A outer s H → BindsTo s fd args (ps.zip us) → Vals vs us → sp p vs H Q E →
    codeAny (model P w) A (.call (.ref f) args) (CR CX outer P w H s Q E) s
section
variable {P : Program} {w : World} {K : PySem.W.Frag} {mg : Str → Option Value} {base : Heap} {x qual : Str} {params : Arguments} {body : List Stmt} {scope : Scope} {dvs : List V} {kws : List (Str × V)} {f : Addr} {fd : FuncData}
theorem okP {CX : CXT} {N ps : List Str} {k : Nat} {sp : Addr × Obj → Sp} (F : FunD K x qual params body scope dvs kws f fd) (S : FnScope N ps scope) (len : ∀ p vs H Q E, sp p vs H Q E → vs.length = ps.length)
    (hbody : ∀ (cdv : Value) (A : Around) (outer : List Env) (s : Shared) (H : Hp) (vs : List V) (Q : VK) (E : XK) (p : Addr × Obj), Hot1 A p → RoomH k (A.deeper (envOfC qual scope s.heap.objs.size f cdv)) → sp p vs H Q E →
      ∃ t, PSs (cxH CX P w K mg base N qual scope f cdv A outer s H E p) body t ∧ t { nx := fun _ H' => Q .non H', rt := Q } (L2.start N vs) H) : FnP P w K mg base CX (k + 1) f fd ps sp := by
  obtain ⟨oc, od, dV, kV, doc, pm, an, cdv, ct, osl, rfl, lk, hcd, _, _⟩ := F.ex
  refine ⟨len, fun A outer s H args us vs Q E p hr hot hpin e0 hb r hsp => ?_⟩
  have hl := len _ _ _ _ _ hsp
  have KX : K.In s.heap := e0.mod.kin.keeps fun b o e => (e0.bs b o e).1
  have lim : s.heap.NoLimit := e0.mod.nolimit.keeps fun b o e => (e0.bs b o e).1
  have hkind : ∀ y ∈ ps.zip us, scope.names.lookup y.1 = some .local ∨ (scope.names.lookup y.1 = some .cell ∧ ((cellsFrom (s.heap.objs.size + 1) scope.names []).lookup y.1).isSome = true) := fun ⟨n, v⟩ hy =>
    (S.par n (List.of_mem_zip hy).1).imp id fun q => ⟨q, PySem.W.cellsFrom_some _ _ _ (.inl q)⟩
  refine codeAny_call_function hr.depth (KX _ _ lk) rfl S.co S.gen rfl (PySem.W.codeRec_of KX hcd) (hb _ _ _ _ ?_)
  refine wpAny_newFunctionEnv_cells S.kind hkind fun env he s1 x => ?_
  subst he
  refine ⟨lim.keeps x.toInCall.keep, codeAny_func ?_⟩
  obtain ⟨t, ht, hq⟩ := hbody cdv A outer s H vs Q E p hot (hr.deeper _) hsp
  refine wpAny_mono (ht.run [] s1 (L2.start N vs) H _ (inv_startH S hpin e0 hl r x) hq) (fun fl s' hs => ?_) fun e s' hs => hs
  cases fl with
  | ret u =>
    obtain ⟨v, σ', H', J, rv, q⟩ := hs
    exact ⟨v, H', J.os, J.bare, J.base, J.hok, rv, q⟩
  | next =>
    obtain ⟨σ', H', J, q⟩ := hs
    exact ⟨V.non, H', J.os, J.bare, J.base, J.hok, rfl, q⟩
  | brk =>
    obtain ⟨_, _, _, q⟩ := hs
    exact False.elim q
  | cont =>
    obtain ⟨_, _, _, q⟩ := hs
    exact False.elim q
end
section
variable {X : Cx} {CX : CXT} {k : Nat} {f : Addr} {fd : FuncData} {ps : List Str} {sp : Addr × Obj → Sp} {E : Sl → XK} {x : Str} {q pos : Pos} {e : Expr} {es : List Expr} {t : TA} {p : Addr × Obj}
def tCallP (sp : Addr × Obj → Sp) (p : Addr × Obj) (E : Sl → XK) (t : TA) : TE := fun σ H Q => t σ H fun vs H1 => sp p vs H1 Q (E σ)
theorem pe_callP (F : FnP X.prog X.w X.K X.mg X.base CX k f fd ps sp) (hr : RoomH k X.A) (hot : Hot1 X.A p) (hp : p ∈ X.pn) (hg : Gl X x) (hm : X.mg x = some (.ref f)) (hk : PySem.W.keepIn X.K (.ref f) = true) (hb : Binds X.K fd ps []) (hx : ∀ σ, PassesAt CX X σ (E σ))
    (ha : PA X (e :: es) t) (hdb : (x == ("__debug__" : Str)) = false := by decide) (he : starEach (e :: es) X.env = (false, eval e X.env) :: starEach es X.env := by rfl) (hpl : (backTo pos (starEach es X.env)).any (·.1) = false := by rfl) :
    PE X (.Call (.Name x q) (e :: es) [] pos) (tCallP sp p E t) := by
  refine ⟨fun pins s σ H Q I h => ?_⟩
  refine wpAny_Call_Name_kw (ld_glob I hg hm ?_ hdb)
  refine PySem.W.callWith_K (h₀ := X.base) I.ok.mod.kin hk (thn (ha.run pos pins s σ H _ I h) fun us s1 ⟨vs, H1, I1, r, hsp⟩ => ⟨I1.kIn, ?_⟩) he hpl
  have hl : us.length = ps.length := by rw [← r.length]; exact F.len _ _ _ _ _ hsp
  have b := hb s1 us I1.kIn (by rw [List.append_nil]; exact hl)
  rw [List.append_nil] at b
  have P1 := I1.pin p (List.mem_append_left _ hp)
  have hpin : PinOk X.stack H1 s1 p := ⟨P1.1, P1.2.1, fun hm => (List.mem_cons.mp (I1.stkSub p.1 hm)).elim P1.2.2.1 P1.2.2.2.1, P1.2.2.2.2⟩
  refine wpAny_call (codeAny_mono (F.run X.A X.stack s1 H1 ⟨us, []⟩ us vs Q (E σ) p hr hot hpin I1.env0 b r hsp) fun r s' hq => ?_)
  cases r with
  | error e => exact hx σ pins H1 s1 e s' I1 hq
  | ok fl =>
    cases fl with
    | ret u => exact I1.after hq
    | _ => exact False.elim hq
end
/-! isinstance of a pinned exception -/
/-- what is known of the exception p: its class, and that its dict, if it has one, is tracked -/
def PinX (p : Addr × Obj) (D : Addr) (H : Hp) : Prop := p.2.cls = .ref D ∧ (∃ vs, p.2.data = .fields vs) ∧ (p.2.dict = none ∨ ∃ dd fs, p.2.dict = some dd ∧ H dd = some (.xd fs))
theorem PinX.inst {X : Cx} {pins : List (Addr × Obj)} {σ : Sl} {H : Hp} {s : Shared} {p : Addr × Obj} {D : Addr} (h : PinX p D H) (I : Inv X pins σ H s) (hg : s.heap.get? p.1 = some p.2) : ∃ od, PySem.W.InstAt s.heap p.1 p.2 D od := by
  obtain ⟨h1, ⟨vs, h2⟩, h3⟩ := h
  have nc : PySem.W.notCls p.2 = true := by
    unfold PySem.W.notCls
    rw [h2] <;> rfl
  rcases h3 with h3 | ⟨dd, fs, h3, h4⟩
  · exact ⟨none, hg, h1, nc, by rw [h3]; exact trivial⟩
  · obtain ⟨mA, hns, _⟩ : ObjOk X.prog X.w H s.heap dd (.xd fs) := I.hok dd _ h4
    obtain ⟨od, ho, _⟩ := lookIn_ns hns
    exact ⟨some od, hg, h1, nc, by rw [h3]; exact ho⟩
def rIsP (K : PySem.W.Frag) (p : Addr × Obj) : List V → Hp → VK → Prop := fun xs H Q => ∃ (D : Addr) (c : V) (cv : Value) (b : Bool), xs = [.ref p.1, c] ∧ ExcC K D ∧ PinX p D H ∧ (∀ u, RelV c u → u = cv) ∧ PySem.W.kitOne K (.ref D) cv = some b ∧ Q (.bl b) H
theorem call_isP {X : Cx} {p : Addr × Obj} (hp : p ∈ X.pn) : CallR X (.builtin "isinstance") (rIsP X.K p) := by
  intro pins s σ H xs us Q I r h
  obtain ⟨D, c, cv, b, rfl, C, px, hcv, e, q⟩ := h
  cases r with
  | cons rx rr =>
    cases rr with
    | cons rt rr =>
      cases rr
      cases rx
      have ec := hcv _ rt
      subst ec
      obtain ⟨od, J⟩ := px.inst I (I.pin p (List.mem_append_left _ hp)).1
      obtain ⟨cd, hcl, _⟩ := PySem.W.any_some C.hd
      exact PySem.W.kia_one (PySem.W.kitx_exc (by rw [hcl]; rfl) C.hg C.hk C.hs C.ha C.hn C.ht C.hm) I.kIn J e (fun z => nomatch z) fun tk => ⟨.bl b, H, I.kept (t' := tk) fun _ _ z => z, rfl, q⟩
/-! a list comprehension over range(n) where an exception is being handled -/
open HotX (HotAt pyNext_range_end_hot) in
theorem next_hot {X : Cx} {pins : List (Addr × Obj)} {σ : Sl} {H : Hp} {s : Shared} {E : Value → Shared → Prop} {it x1 : Addr} {lo : Int} {n i : Nat} (hot : HotAt X.A x1 s.heap) (I : Inv X pins σ H s) (f : FpOk X pins H it)
    (st : IsRangeIter s.heap it (lo + (i : Nat) * 1) ((n : Int) - (i : Nat)) 1) (hg : n ≤ i) : wpAny (model X.prog X.w) X.A (pyNext (.ref it)) (fun r s1 => r = none ∧ Inv X pins σ H s1) E s := by
  obtain ⟨f0, f1, f2, f3, f4, f5⟩ := f
  exact pyNext_range_end_hot hot st (by omega) fun h' eb => ⟨rfl, I.turned (t' := s.toks) (fun b o _ e => eb b o e) f0 f1 f3 f4 f5⟩
theorem next_item {X : Cx} {tg : Expr} {pins : List (Addr × Obj)} {σ : Sl} {H : Hp} {s : Shared} {E : Value → Shared → Prop} {it : Addr} {lo : Int} {n i : Nat} (I : Inv X pins σ H s) (f : FpOk X pins H it)
    (st : IsRangeIter s.heap it (lo + (i : Nat) * 1) ((n : Int) - (i : Nat)) 1) (hlt : i < n) :
    wpAny (model X.prog X.w) X.A (pyNext (.ref it)) (fun r s1 => ∃ u, r = some u ∧ wpAny (model X.prog X.w) X.A (letOwnedTupleGo tg (.ref it) u) (fun _ s2 => Inv X pins σ H s2 ∧ RelV (.int (lo + i)) u ∧ IsRangeIter s2.heap it (lo + ((i + 1 : Nat) : Int) * 1) ((n : Int) - ((i + 1 : Nat) : Int)) 1) E s1) E s := by
  obtain ⟨f0, f1, f2, f3, f4, f5⟩ := f
  refine wpAny_pyNext_range_item st (by omega) fun h' st' sb => ?_
  have st2 : IsRangeIter h' it (lo + ((i + 1 : Nat) : Int) * 1) ((n : Int) - ((i + 1 : Nat) : Int)) 1 := by
    rw [show lo + ((i + 1 : Nat) : Int) * 1 = lo + ((i : Nat) : Int) * 1 + 1 by omega, show (n : Int) - ((i + 1 : Nat) : Int) = (n : Int) - ((i : Nat) : Int) - 1 by omega]
    exact st'
  have I1 : Inv X pins σ H { s with heap := h', toks := s.toks + 1 } := I.turned (fun b o hb e => (sb.2 b hb).trans e) f0 f1 f3 f4 f5
  refine ⟨_, rfl, go_of (s := { s with heap := h', toks := s.toks + 1 }) (n := "range_iterator") st2 rfl rfl (by decide) ⟨I1, ⟨s.toks, ?_⟩, st2⟩⟩
  rw [Int.mul_one]
/-- the reading: Pv i H says what holds ahead of turn i; D is the new list -/
def tLcH (n : Nat) (g : TG) (tt : TT) (te : TE) (vs : List Nat) : TE := fun σ H Q => ∀ D, H D = none → ∃ Pv : Nat → Hp → Prop, Pv 0 (upd H D (.lst [])) ∧ (∀ H', Pv n H' → Q (.ref D) H') ∧
  ∀ i H, i < n → Pv i H → g (.int (0 + (i : Nat))) (wipe σ vs) H fun σ2 H2 => wipe σ2 vs = wipe σ vs ∧ tt σ2 H2 fun b H3 =>
    if b = true then te σ2 H3 fun y H4 => ∃ acc, H4 D = some (.lst acc) ∧ acc.length < sizeLine ∧ Pv (i + 1) (upd H4 D (.lst (acc ++ [y]))) else Pv (i + 1) H3
theorem pe_lcH {X : Cx} {p0 : Addr × Obj} {elt tg : Expr} {ifs : List Expr} {scope : Scope} {own : List (Str × Nat)} {pos p pr : Pos} {j : Nat} {n : Nat} {g : TG} {tt : TT} {te : TE} (hot : Hot1 X.A p0) (hp0 : p0 ∈ X.pn) (hN : X.N.Nodup) (hgr : Gl X "range") (hmr : X.mg "range" = none) (hn : n < 1000) (ok : BlkOk X.N X.env.scope scope own)
    (hg : ∀ (s : Shared) (H : Hp) (C : Addr) (cl : List (Str × Addr)) (fp : List Addr), PG (X.blk s H scope (compEnvC scope cl C X.env) fp) tg g)
    (ht : ∀ (s : Shared) (H : Hp) (C : Addr) (cl : List (Str × Addr)) (fp : List Addr), PTs (X.blk s H scope (compEnvC scope cl C X.env) fp) ifs tt)
    (he : ∀ (s : Shared) (H : Hp) (C : Addr) (cl : List (Str × Addr)) (fp : List Addr), PE (X.blk s H scope (compEnvC scope cl C X.env) fp) elt te)
    (hs : ∀ x, foldedSetIterable (.Call (.Name "range" p) [.Constant (.int n) j pr] [] pos) X.env x = pure x := by intro _; rfl) {pos2 : Pos} :
    PE X (.ListComp elt [⟨tg, .Call (.Name "range" p) [.Constant (.int n) j pr] [] pos, ifs, 0⟩] scope pos2) (tLcH n g tt te (own.map (·.2))) := by
  refine ⟨fun pins s σ H Q I h => ?_⟩
  rw [eval_ListComp]
  have hfree : ∀ y ∈ scope.names, y.2 = .free → ∃ c, X.env.cells.lookup y.1 = some c := fun y hy e => (ok.free y hy e).elim (fun k => I.ok.has _ (.inl k)) fun k => I.ok.has _ (.inr k)
  refine wpAny_comprehension_free (use := none) rfl hs (closure_ok hfree) ok.kind (fun y hy e => by rw [ok.uniq y hy, e]) ?_
  refine Call_ (ld_blt I hgr hmr boot_range (PyProof.Rows.callWith_type1 (thn ((pa_cons (pe_int (X := X)) pa_nil).run pos pins s σ H (fun vs H1 => vs = [V.int n] ∧ H1 = H) I ⟨rfl, rfl⟩) fun us s1 ⟨vs, H1, I1, r1, ev, eh⟩ => ?_) (by rfl) rfl))
  subst ev eh
  cases r1 with
  | cons r rr =>
  cases rr
  obtain ⟨t, rfl⟩ := r
  refine call_range_1 ?_
  refine wpAny_pyIter_range (IsRange.new ..) (small_one (by omega) (by omega) (by omega) (by omega)) ?_
  have I2 : Inv X pins σ H1 { s1 with heap := s1.heap.push { cls := .type "range", data := .fields #[.int 0 s1.toks, .int n t, .int 1 (s1.toks + 1)] }, toks := s1.toks + 1 + 1 } := I1.kept fun b o e => Heap.get?_push_of_some _ e
  generalize hs2 : ({ s1 with heap := s1.heap.push { cls := .type "range", data := .fields #[.int 0 s1.toks, .int n t, .int 1 (s1.toks + 1)] }, toks := s1.toks + 1 + 1 } : Shared) = s2 at I2 ⊢
  clear hs2
  generalize hit : s2.heap.objs.size = it
  have f2 : FpOk X pins H1 it := by
    rw [← hit]
    exact I2.fpOk (Nat.le_refl _) (I2.hok.fresh (Nat.le_refl _))
  have st2 : IsRangeIter (s2.heap.push { cls := .type "range_iterator", data := .fields #[rawInt 0, rawInt (Builtin.Range.rangeSize 0 n 1), rawInt 1] }) it (0 + ((0 : Nat) : Int) * 1) ((n : Int) - ((0 : Nat) : Int)) 1 := by
    have e2 : (n : Int) - ((0 : Nat) : Int) = Builtin.Range.rangeSize 0 n 1 := by rw [rangeSize_one]; split <;> omega
    rw [e2, ← hit]
    exact Heap.get?_push_size _ rfl
  have I2' : Inv X pins σ H1 { s2 with heap := s2.heap.push { cls := .type "range_iterator", data := .fields #[rawInt 0, rawInt (Builtin.Range.rangeSize 0 n 1), rawInt 1] } } := I2.kept (t' := s2.toks) fun b o e => Heap.get?_push_of_some _ e
  have hlt2 : it < (s2.heap.push { cls := .type "range_iterator", data := .fields #[rawInt 0, rawInt (Builtin.Range.rangeSize 0 n 1), rawInt 1] }).objs.size := by
    rw [Heap.size_push, ← hit]
    exact Nat.lt_succ_self _
  generalize hs3 : ({ s2 with heap := s2.heap.push { cls := .type "range_iterator", data := .fields #[rawInt 0, rawInt (Builtin.Range.rangeSize 0 n 1), rawInt 1] } } : Shared) = s3 at I2' ⊢
  have h3 : s3.heap = s2.heap.push { cls := .type "range_iterator", data := .fields #[rawInt 0, rawInt (Builtin.Range.rangeSize 0 n 1), rawInt 1] } := by rw [← hs3]
  rw [← h3] at st2 hlt2
  clear hs3 h3
  refine wpAny_newObj_type (newEnv_comp ?_) (by show 0 ≤ sizeLine; decide)
  generalize hD : s3.heap.objs.size = D
  have hDn : H1 D = none := I2'.hok.fresh (Nat.le_of_eq hD)
  obtain ⟨Pv, w0, wend, turn⟩ := h D hDn
  generalize hs4 : ({ s3 with heap := s3.heap.push { cls := .type "list", data := .seq ([] : List Value).toArray } } : Shared) = s4
  have h4 : s4.heap = s3.heap.push { cls := .type "list", data := .seq ([] : List Value).toArray } := by rw [← hs4]
  have I3 : Inv X pins σ (upd H1 D (.lst [])) s4 := by
    rw [← hs4]
    refine I2'.laid (t' := s3.toks) (fun b o e => Heap.get?_push_of_some _ e) (Nat.le_of_eq hD) ⟨Nat.zero_le _, [], 0, .nil, ?_⟩
    rw [← hD]
    exact Heap.get?_push_size _ rfl
  have itD : it ≠ D := by rw [← hD]; exact Nat.ne_of_lt hlt2
  have f3 : ∀ b ∈ [it], FpOk X pins (upd H1 D (.lst [])) b ∧ b < s4.heap.objs.size := fun b hb => by
    obtain rfl : b = it := by simpa using hb
    refine ⟨⟨?_, f2.2⟩, by rw [h4, Heap.size_push]; exact Nat.lt_succ_of_lt hlt2⟩
    rw [upd_ne itD]
    exact f2.1
  have st3 : IsRangeIter s4.heap it (0 + ((0 : Nat) : Int) * 1) ((n : Int) - ((0 : Nat) : Int)) 1 := by
    show s4.heap.get? it = _
    rw [h4]
    exact Heap.get?_push_of_some _ st2
  have I4 := block_start I3 ok hN f3
  have P0 := I3.pin p0 (List.mem_append_left _ hp0)
  generalize hcl : cellsFrom (s4.heap.objs.size + 1) scope.names (cloFrom X.env.cells scope.names []) = cl at I4
  have pg := hg s4 (upd H1 D (.lst [])) s4.heap.objs.size cl [it]
  have pt := ht s4 (upd H1 D (.lst [])) s4.heap.objs.size cl [it]
  have pe := he s4 (upd H1 D (.lst [])) s4.heap.objs.size cl [it]
  show codeAny _ _ (.compStart (.ListComp elt [⟨tg, .Call (.Name "range" p) [.Constant (.int n) j pr] [] pos, ifs, 0⟩] scope pos2) 0 (.ref it) (.ref D) (compEnvC scope cl s4.heap.objs.size X.env)) (compPost (model X.prog X.w) X.A X.xe none (EP X pins σ Q) (.ref D) s4.heap.objs.size) { s4 with heap := pushCells (s4.heap.push { cls := .type "dict", data := .dict #[] }) scope.names }
  generalize hce : compEnvC scope cl s4.heap.objs.size X.env = ce at I4 pg pt pe ⊢
  have cL : ce.locals = s4.heap.objs.size := by subst hce; rfl
  generalize hH3 : upd H1 D (.lst []) = H3 at I3 I4 pg pt pe w0 f3 P0
  generalize hs5 : ({ s4 with heap := pushCells (s4.heap.push { cls := .type "dict", data := .dict #[] }) scope.names } : Shared) = s5 at I4 ⊢
  have st4 : IsRangeIter s5.heap it (0 + ((0 : Nat) : Int) * 1) ((n : Int) - ((0 : Nat) : Int)) 1 := by
    show s5.heap.get? it = _
    rw [← hs5]
    exact pushCells_keeps _ _ _ _ (Heap.get?_push_of_some _ st3)
  have fit : ∀ {σ' : Sl} {H' : Hp} {s' : Shared}, Inv (X.blk s4 H3 scope ce [it]) [] σ' H' s' → H' it = none → FpOk (X.blk s4 H3 scope ce [it]) [] H' it := fun {σ' H' s'} I' hn => by
    have m : it ∈ (X.blk s4 H3 scope ce [it]).ex := by show it ∈ [it]; simp
    exact ⟨hn, (I'.ok.exf it m).1, I'.ok.exfs it m, .inl m, fun x c e => (I'.ok.exf it m).2 x c e, fun p hp => absurd (show p ∈ ([] : List (Addr × Obj)) ++ [] from hp) (by simp)⟩
  have n0 : H3 it = none := (f3 it (by simp)).1.1
  -- the exception stands through the block
  have hot5 : ∀ {σ' : Sl} {H' : Hp} {s' : Shared}, Inv (X.blk s4 H3 scope ce [it]) [] σ' H' s' → HotX.HotAt X.A p0.1 s'.heap := fun {σ' H' s'} I' => by
    have nf : p0.1 ∉ frs X.stack := fun hm => (List.mem_cons.mp (I3.stkSub p0.1 hm)).elim P0.2.2.1 P0.2.2.2.1
    have nx : p0.1 ∉ [it] := fun hm => by
      have e : p0.1 = it := by simpa using hm
      exact (f3 it (by simp)).1.2.2.2.2.2 p0 (List.mem_append_left _ hp0) e
    obtain ⟨hh, vs, e1, c1⟩ := hot
    exact ⟨hh, p0.2, vs, I'.base.keep p0.1 p0.2 P0.1 P0.2.1 nf nx, e1, c1⟩
  have loop : codeAny (model X.prog X.w) X.A (.compLoop (.ListComp elt [⟨tg, .Call (.Name "range" p) [.Constant (.int n) j pr] [] pos, ifs, 0⟩] scope pos2) 0 (.ref it) (.ref D) ce) (compPost (model X.prog X.w) X.A X.xe none (EP X pins σ Q) (.ref D) s4.heap.objs.size) s5 := by
    refine compLoop_any (fun m s' => ∃ i H', i + m = n ∧ Inv (X.blk s4 H3 scope ce [it]) [] (wipe σ (own.map (·.2))) H' s' ∧ IsRangeIter s'.heap it (0 + (i : Nat) * 1) ((n : Int) - (i : Nat)) 1 ∧ H' it = none ∧ Pv i H') ?_ n ⟨0, H3, Nat.zero_add _, I4, st4, n0, w0⟩
    rintro m s6 ⟨i, H6, him, I6, st6, n6, w6⟩
    by_cases hlt : i < n
    · have ti := next_item (tg := tg) (E := fun _ _ => False) I6 (fit I6 n6) st6 hlt
      refine thnF ti fun r s7 ⟨u, hr, h7⟩ => ?_
      subst hr
      refine thnF h7 fun _ s8 ⟨I8, r8, st8⟩ => ?_
      have I8' := I8.pinned (fp := [it]) (fun b hb => by obtain rfl : b = it := by simpa using hb
                                                         exact fit I8 n6) (fun b hb => by obtain rfl : b = it := by simpa using hb
                                                                                          exact ⟨_, st8, fun v z => by cases z⟩)
      refine thnF (pg.run _ s8 _ H6 (.int (0 + (i : Nat))) u _ I8' r8 (turn i H6 hlt w6)) fun _ s9 ⟨σ9, H9, I9, hw9, q9⟩ => ?_
      refine thnF (pt.run _ s9 σ9 H9 _ I9 q9) fun b s10 ⟨H10, I10, q10⟩ => ?_
      have fin : ∀ {s' : Shared} {H' : Hp}, Inv (X.blk s4 H3 scope ce [it]) ([] ++ pinsAt [it] s8.heap) σ9 H' s' → Pv (i + 1) H' → ∃ m', m' < m ∧ ∃ i H', i + m' = n ∧ Inv (X.blk s4 H3 scope ce [it]) [] (wipe σ (own.map (·.2))) H' s' ∧ IsRangeIter s'.heap it (0 + (i : Nat) * 1) ((n : Int) - (i : Nat)) 1 ∧ H' it = none ∧ Pv i H' := fun {s' H'} I' nx => by
        have pin' := I'.pin (it, _) (List.mem_append_right _ (List.mem_append_right _ (mem_pinsAt (fp := [it]) (by simp) st8)))
        have hl : (wipe σ (own.map (·.2))).length = σ9.length := by rw [← hw9, wipe_length]
        refine ⟨m - 1, by omega, i + 1, H', by omega, (I'.unpinned (pins := [])).weak hl (fun j v e => ?_), pin'.1, pin'.2.1, nx⟩
        rw [← hw9] at e
        exact (wipe_some e).1
      cases b with
      | false =>
        simp only [Bool.false_eq_true, if_false] at q10 ⊢
        exact fin I10 q10
      | true =>
        simp only [if_true] at q10 ⊢
        refine thnF (pe.run _ s10 σ9 H10 _ I10 q10) fun z s11 ⟨yv, H11, I11, r11, acc, hD11, hz11, nx⟩ => ?_
        exact app_ok (X := X.blk s4 H3 scope ce [it]) I11 hD11 hz11 r11 fun s12 I12 => fin I12 nx
    · have ein : i = n := by omega
      have td := next_hot (X := X.blk s4 H3 scope ce [it]) (E := fun _ _ => False) (hot5 I6) I6 (fit I6 n6) st6 (by omega)
      refine thnF td fun r s7 ⟨hr, I7⟩ => ?_
      subst hr
      have I7' : Inv X pins σ H6 s7 := I3.call' (ch := [it]) I7.os I7.base I7.hok I7.bare fun b hb => ⟨(f3 b hb).1.2.2.2.1, (f3 b hb).1.2.1, (f3 b hb).1.2.2.2.2.1, (f3 b hb).1.2.2.2.2.2⟩
      have nC : H6 s4.heap.objs.size = none := by
        have z : H6 ce.locals = none := I7.free
        rw [cL] at z
        exact z
      obtain ⟨m, hn', _⟩ := I7.loc
      have hn' : s7.heap.Ns ce.locals m := hn'
      rw [cL] at hn'
      obtain ⟨f0, f1, f2', f3', f4, f5⟩ := I3.fpOk (Nat.le_refl _) nC
      rw [ein] at w6
      exact ⟨m, hn', fun h'' sb => ⟨.ref D, H6, I7'.turned (t' := s7.toks) (fun b o hb e => (sb.2 b hb).trans e) f0 f1 f3' f4 f5, rfl, wend H6 w6⟩⟩
  exact codeAny_compStart_list loop (wpAny_pyIter_rangeiter st4 loop)
end Hx


set_option Elab.async false
set_option linter.all false
set_option maxRecDepth 100000
set_option maxHeartbeats 4000000
/-! Hx, part 7: a law's end over a head by facts, where the law's def is a FnG. -/
namespace Hx
open PySem PySem.Spec L2 PyProof.Rows
/-- the heap at the start: the script is frozen, unless it is one of the module's own objects -/
def scr (K : PySem.W.Frag) (a : Addr) (o : Obj) (xs : List V) : Hp := fun b => if b = a ∧ K.lookup a = none then some (.frz o (.lst xs)) else none
section
variable {K : PySem.W.Frag} {a b : Addr} {o : Obj} {xs : List V}
theorem scr_some {u : HO} (h : scr K a o xs b = some u) : b = a ∧ K.lookup a = none ∧ u = .frz o (.lst xs) := by
  unfold scr at h
  split at h
  · next c => exact ⟨c.1, c.2, (Option.some.inj h).symm⟩
  · cases h
theorem scr_cases (b : Addr) : scr K a o xs b = none ∨ (b = a ∧ K.lookup a = none ∧ scr K a o xs b = some (.frz o (.lst xs))) := by
  by_cases c : b = a ∧ K.lookup a = none
  · exact .inr ⟨c.1, c.2, if_pos c⟩
  · exact .inl (if_neg c)
end
theorem law_callG {P : Program} {w : World} {K : PySem.W.Frag} {mg mb : Str → Option Value} {CX : CXT} {k : Nat} {fa a : Addr} {fd : FuncData} {x : Str} {sp : Sp} {t : Shared} {vs : List Value} {ns : List Int}
    (KX : K.In t.heap) (hns : t.heap.Ns mainGlobals mg) (hb : t.heap.Ns builtinsNs mb) (hbb : ∀ x : Str, x ≠ "__name__" → mb x = bootBuiltins x) (hlim : t.heap.NoLimit) (hg : t.gens = #[])
    (ha : t.heap.get? a = some { cls := .type "list", data := .seq vs.toArray }) (hi : IntsAre vs ns) (hl : ns.length ≤ sizeLine) (hr : Room k callerA) (hgd : callerA.guards = some [])
    (F : ∀ base : Heap, K.In base → base.Ns mainGlobals mg → FnG P w K mg base CX k fa fd [x] sp) (hbind : ∀ (s : Shared) (u : Value), BindsTo s fd ⟨[u], []⟩ [(x, u)])
    (hsp : ∀ H : Hp, SqL K H a (ns.map V.int) → sp [.ref a] H (fun v _ => v = .bl true) fun _ _ _ => False)
    (hCX : ∀ H e s', CX [] H t (fun _ _ _ => False) e s' → False) :
    codeAny (model P w) callerA (.call (.ref fa) ⟨[.ref a], []⟩) (fun r s' => r = .ok (.ret (.bool true)) ∧ OldK t.heap s'.heap ∧ s'.os = t.os ∧ AllBare s'.gens) t := by
  obtain ⟨o, ho⟩ : ∃ o : Obj, o = { cls := .type "list", data := .seq vs.toArray } := ⟨_, rfl⟩
  have rv : Vals (ns.map V.int) vs := vals_ints hi
  have ha' : t.heap.get? a = some o := by rw [ho]; exact ha
  -- the abstract heap tells the truth
  have ok : HOk P w (scr K a o (ns.map V.int)) t.heap := fun b u z => by
    obtain ⟨rfl, _, rfl⟩ := scr_some z
    exact ⟨ha', by rw [List.length_map]; exact hl, vs, _, rv, ha⟩
  have sq : SqL K (scr K a o (ns.map V.int)) a (ns.map V.int) := by
    cases q : K.lookup a with
    | none => exact .inl (.inr ⟨o, if_pos ⟨rfl, q⟩⟩)
    | some o' =>
      obtain rfl : o' = { cls := .type "list", data := .seq vs.toArray } := Option.some.inj ((KX a o' q).symm.trans ha)
      exact .inr ⟨_, vs.toArray, _, q, rfl, rfl, rfl, by rw [List.size_toArray, hi.length]; exact hl, by simpa using rv⟩
  -- what is not the script stays in the base
  have stay : ∀ {b : Addr} {u : Obj}, t.heap.get? b = some u → (b = a → K.lookup a = none → False) → (hidT t.heap (scr K a o (ns.map V.int))).get? b = some u := fun {b u} e n => by
    refine hidT_get e ?_
    rcases scr_cases (K := K) (a := a) (o := o) (xs := ns.map V.int) b with z | ⟨z1, z2, _⟩
    · exact z
    · exact (n z1 z2).elim
  have nsS : ∀ {b : Addr} {m : Str → Option Value}, t.heap.Ns b m → (hidT t.heap (scr K a o (ns.map V.int))).Ns b m := fun {b m} ⟨u, es, ep, e, d, r⟩ => ⟨u, es, ep, stay e fun z _ => by
    subst z
    rw [ha] at e
    cases e
    exact Data.noConfusion d, d, r⟩
  have kS : K.In (hidT t.heap (scr K a o (ns.map V.int))) := fun b u e => stay (KX b u e) fun z1 z2 => by
    subst z1
    rw [z2] at e
    cases e
  have mod : Mod K mg (hidT t.heap (scr K a o (ns.map V.int))) := ⟨kS, nsS hns, ⟨mb, nsS hb, hbb⟩, hlim.elim fun mc h => ⟨mc, nsS h.1, h.2⟩⟩
  have env : Env0 P w K mg (hidT t.heap (scr K a o (ns.map V.int))) callerA [] t (scr K a o (ns.map V.int)) :=
    ⟨rfl, mod, fun b u e => of_hidT e, Nat.le_of_eq (hidT_size _ _), trivial, fun b hb => absurd (show b ∈ ([] : List Addr) from hb) List.not_mem_nil, ok, .of_eq hg⟩
  refine codeAny_mono ((F _ kS (nsS hns)).run callerA [] t _ ⟨[.ref a], []⟩ [.ref a] [.ref a] _ _ hr hgd env (hbind t (.ref a)) (.cons rfl .nil) (hsp _ sq)) fun r s' h => ?_
  match r, h with
  | .error e, h => exact (hCX _ e s' h).elim
  | .ok (.ret u), ⟨v, H', os, bare, un, ok', rel, q⟩ =>
    obtain rfl : v = .bl true := q
    obtain rfl : u = Value.bool true := rel
    refine ⟨rfl, OldK.of_keep fun b ob e => ?_, os, bare⟩
    rcases scr_cases (K := K) (a := a) (o := o) (xs := ns.map V.int) b with z | ⟨z1, z2, z3⟩
    · exact un.keep b ob e z (fun m => absurd (show b ∈ ([] : List Addr) from m) List.not_mem_nil) (by simp)
    · have w1 := (ok b _ z3).1
      have w2 := (ok' b _ (un.frzs b o _ z3)).1
      rw [e] at w1
      rw [w2, ← Option.some.inj w1]
theorem walk_ofG {l : PySem.W.OpenLaw} {n k : Nat} {q : Program} {loose : List Str} {XP : (Str → Option Value) → Heap → Prop} {YP : World → Heap → Prop} {d : DefRec} {CX : CXT} {x : Str}
    (hn : l.most = some n) (hn2 : n ≤ sizeLine) (hdf : d.params.defaults = []) (hr : Room k callerA) (hgd : callerA.guards = some [])
    (F : ∀ (w : World) (mg : Str → Option Value) (fa : Addr) (h : Heap), YP w h → h.Ns mainGlobals mg → mg d.name = some (.ref fa) →
      ∃ (K : PySem.W.Frag) (fd : FuncData) (sp : Sp), K.In h ∧ (∀ (s : Shared) (u : Value), BindsTo s fd ⟨[u], []⟩ [(x, u)]) ∧
        (∀ (H : Hp) (a : Addr) (ns : List Int), ns.length ≤ n → SqL K H a (ns.map V.int) → sp [.ref a] H (fun v _ => v = .bl true) fun _ _ _ => False) ∧
        ∀ base : Heap, K.In base → base.Ns mainGlobals mg → FnG l.prog w K mg base CX k fa fd [x] sp)
    (hCX : ∀ (H : Hp) (s : Shared) (e : Value) (s' : Shared), CX [] H s (fun _ _ _ => False) e s' → False) :
    PySem.W.WalkO q loose XP YP l.row.toRowW d [] (fun f vs => PySem.call f vs) := by
  refine Att.attach_call hn hdf fun w s0 t mg mb fa ob pm cd doc a vs ns G Y _ _ _ hmg hobj hints hlen hg => ?_
  obtain ⟨K, fd, sp, KX, hb, hsp, hF⟩ := F w mg fa _ Y G.T.g hmg
  exact law_callG KX G.T.g G.T.b G.T.builtins G.T.nolimit hg hobj hints (Nat.le_trans hlen hn2) hr hgd hF hb (fun H hS => hsp H a ns hlen hS) fun H e s' => hCX H t e s'
end Hx


set_option Elab.async false
set_option linter.all false
set_option maxRecDepth 100000
set_option maxHeartbeats 4000000
/-! k86: the text by places, the classes as a table, what the top leaves. -/
namespace K86
open PySem PySem.Spec L2 PyProof.Rows
open PySem.Hx (XBase XCls)
def top (i : Nat) : Stmt := PySem.Challenge.pw_heapwake_k86_errors_made.main.body.getD i (.Pass ⟨0, 0, 0, 0⟩)
/-- an own class: its name, its base (the maker's owner, maker, init), the base's chain, its field -/
structure Row where
  nm : Str
  B : String
  Bn : String
  newId : String
  initId : String
  bm : List Value
  fld : Str
def rows : List Row := [
  ⟨"NoCells", "ValueError", "ValueError", "ValueError.__new__", "ValueError.__init__", [.type "ValueError", .type "Exception", .type "BaseException", .type "object"], "value"⟩,
  ⟨"NoUnits", "ArithmeticError", "ArithmeticError", "ArithmeticError.__new__", "ArithmeticError.__init__", [.type "ArithmeticError", .type "Exception", .type "BaseException", .type "object"], "value"⟩,
  ⟨"NoName", "ValueError", "ValueError", "ValueError.__new__", "ValueError.__init__", [.type "ValueError", .type "Exception", .type "BaseException", .type "object"], "name"⟩,
  ⟨"Unset", "KeyError", "LookupError", "LookupError.__new__", "KeyError.__init__", [.type "KeyError", .type "LookupError", .type "Exception", .type "BaseException", .type "object"], "name"⟩,
  ⟨"NoStrength", "ValueError", "ValueError", "ValueError.__new__", "ValueError.__init__", [.type "ValueError", .type "Exception", .type "BaseException", .type "object"], "strength"⟩,
  ⟨"NoPlace", "IndexError", "IndexError", "IndexError.__new__", "IndexError.__init__", [.type "IndexError", .type "LookupError", .type "Exception", .type "BaseException", .type "object"], "place"⟩,
  ⟨"NoLog", "ValueError", "ValueError", "ValueError.__new__", "ValueError.__init__", [.type "ValueError", .type "Exception", .type "BaseException", .type "object"], "place"⟩,
  ⟨"NoHistory", "ValueError", "ValueError", "ValueError.__new__", "ValueError.__init__", [.type "ValueError", .type "Exception", .type "BaseException", .type "object"], "place"⟩,
  ⟨"NoWish", "TypeError", "TypeError", "TypeError.__new__", "TypeError.__init__", [.type "TypeError", .type "Exception", .type "BaseException", .type "object"], "steps"⟩,
  ⟨"Full", "OverflowError", "OverflowError", "OverflowError.__new__", "OverflowError.__init__", [.type "OverflowError", .type "ArithmeticError", .type "Exception", .type "BaseException", .type "object"], "room"⟩,
  ⟨"NoObject", "LookupError", "LookupError", "LookupError.__new__", "LookupError.__init__", [.type "LookupError", .type "Exception", .type "BaseException", .type "object"], "number"⟩,
  ⟨"TooLong", "OverflowError", "OverflowError", "OverflowError.__new__", "OverflowError.__init__", [.type "OverflowError", .type "ArithmeticError", .type "Exception", .type "BaseException", .type "object"], "most"⟩,
  ⟨"NoText", "ValueError", "ValueError", "ValueError.__new__", "ValueError.__init__", [.type "ValueError", .type "Exception", .type "BaseException", .type "object"], "row"⟩,
  ⟨"Collecting", "RuntimeError", "RuntimeError", "RuntimeError.__new__", "RuntimeError.__init__", [.type "RuntimeError", .type "Exception", .type "BaseException", .type "object"], ""⟩,
  ⟨"NoCollection", "RuntimeError", "RuntimeError", "RuntimeError.__new__", "RuntimeError.__init__", [.type "RuntimeError", .type "Exception", .type "BaseException", .type "object"], ""⟩,
  ⟨"Busy", "RuntimeError", "RuntimeError", "RuntimeError.__new__", "RuntimeError.__init__", [.type "RuntimeError", .type "Exception", .type "BaseException", .type "object"], ""⟩,
  ⟨"QueueEmpty", "LookupError", "LookupError", "LookupError.__new__", "LookupError.__init__", [.type "LookupError", .type "Exception", .type "BaseException", .type "object"], ""⟩,
  ⟨"NothingToUndo", "IndexError", "IndexError", "IndexError.__new__", "IndexError.__init__", [.type "IndexError", .type "LookupError", .type "Exception", .type "BaseException", .type "object"], ""⟩,
  ⟨"NoRow", "ValueError", "ValueError", "ValueError.__new__", "ValueError.__init__", [.type "ValueError", .type "Exception", .type "BaseException", .type "object"], ""⟩]
def row (i : Nat) : Row := rows.getD i ⟨"", "", "", "", "", [], ""⟩
/-- where the i-th class stands -/
def cl (K : PySem.W.Frag) (i : Nat) : Addr := He.ga K (row i).nm
/-- and its init -/
def ini (K : PySem.W.Frag) (i : Nat) : Addr := He.ma K (cl K i) "__init__"
abbrev sI0 : Stmt := inClass (top 1) 0
abbrev sI1 : Stmt := inClass (top 7) 0
abbrev sI2 : Stmt := inClass (top 2) 0
abbrev sI3 : Stmt := inClass (top 3) 0
abbrev sI4 : Stmt := inClass (top 4) 0
abbrev sI5 : Stmt := inClass (top 5) 0
abbrev sI6 : Stmt := inClass (top 16) 0
abbrev sI7 : Stmt := inClass (top 17) 0
abbrev sI8 : Stmt := inClass (top 6) 0
abbrev sI9 : Stmt := inClass (top 8) 0
abbrev sI10 : Stmt := inClass (top 9) 0
abbrev sI11 : Stmt := inClass (top 15) 0
abbrev sI12 : Stmt := inClass (top 18) 0
abbrev sBag : Stmt := top 21
abbrev sTake : Stmt := top 22
abbrev sFirst : Stmt := top 23
abbrev sSecond : Stmt := top 24
abbrev sBare : Stmt := top 25
abbrev sRaised : Stmt := top 26
abbrev sOwn : Stmt := top 27
abbrev sAbove : Stmt := top 28
abbrev sTold : Stmt := top 29
abbrev sLaw : Stmt := top 30
def defI (i : Nat) (st : Stmt) (q : Str) : He.DefD := ⟨((row i).nm, some "__init__"), "__init__", q, defArgs st, defBody st, defScope st, [], []⟩
def defL (x : Str) (st : Stmt) : He.DefD := ⟨(x, none), x, x, defArgs st, defBody st, defScope st, [], []⟩
def fn : List He.DefD := [defI 0 sI0 "NoCells.__init__", defI 1 sI1 "NoUnits.__init__", defI 2 sI2 "NoName.__init__", defI 3 sI3 "Unset.__init__", defI 4 sI4 "NoStrength.__init__", defI 5 sI5 "NoPlace.__init__", defI 6 sI6 "NoLog.__init__", defI 7 sI7 "NoHistory.__init__", defI 8 sI8 "NoWish.__init__", defI 9 sI9 "Full.__init__", defI 10 sI10 "NoObject.__init__", defI 11 sI11 "TooLong.__init__", defI 12 sI12 "NoText.__init__",
  defL "_law_bag" sBag, defL "_law_take" sTake, defL "_law_first" sFirst, defL "_law_second" sSecond, defL "_law_bare" sBare, defL "_law_raised" sRaised, defL "_law_own" sOwn, defL "_law_above" sAbove, defL "_law_told" sTold, defL "law" sLaw]
def frees : List Str := ["len", "abs", "range", "max", "min", "repr", "isinstance", "int", "ArithmeticError", "IndexError", "KeyError", "LookupError", "OverflowError", "RuntimeError", "TypeError", "ValueError"]
def glos : List Str := ["_law_bag", "_law_take", "_law_first", "_law_second", "_law_bare", "_law_raised", "_law_own", "_law_above", "_law_told", "law"]
/-- what is asked of a class -/
def clsB (K : PySem.W.Frag) (i : Nat) : Bool :=
  He.eqO (PySem.W.nsIn K mainGlobals (row i).nm) (some (some (.ref (cl K i)))) && ((PySem.W.clsIn K (cl K i)).any (fun cd => decide (cd.mro = .ref (cl K i) :: (row i).bm)) && (PySem.W.hasDictIn K (cl K i) &&
  (He.eqO (PySem.W.findIn K (.ref (cl K i)) "__setattr__") (some (some (.builtin "object.__setattr__"))) && (decide (PySem.W.typeIn K (.ref (cl K i)) = some (.type "type")) && (PySem.W.keepIn K (.ref (cl K i)) &&
  (He.eqO (PySem.W.findIn K (.ref (cl K i)) "__getattribute__") (some (some (.builtin "BaseException.__getattribute__"))) && (He.eqO (PySem.W.findIn K (.ref (cl K i)) "__getattr__") (some none) &&
  He.eqO (PySem.W.findIn K (.ref (cl K i)) "__class__") (some (some (.builtin "object.__class__"))))))))))
/-- of one with an init -/
def iniB (K : PySem.W.Frag) (i : Nat) : Bool :=
  PySem.W.excInitIn K (cl K i) (row i).bm (row i).newId && (He.eqO (PySem.W.findIn K (.ref (cl K i)) "__init__") (some (some (.ref (ini K i)))) && (decide (PySem.W.typeIn K (.ref (ini K i)) = some (.type "function")) &&
  He.eqO (PySem.W.findIn K (.ref (cl K i)) (row i).fld) (some none)))
def bareB (K : PySem.W.Frag) (i : Nat) : Bool := PySem.W.excIn K (cl K i) (row i).bm (row i).newId
def exB (K : PySem.W.Frag) : Bool :=
  (List.range 19).all (clsB K) && ((List.range 13).all (iniB K) && ((List.range 6).all (fun i => bareB K (13 + i)) && (decide ((List.range 19).map (cl K)).Nodup &&
  (frees.all (fun x => He.eqO (PySem.W.nsIn K mainGlobals x) (some none)) && (glos.all (fun x => He.eqO (PySem.W.nsIn K mainGlobals x) (some (some (.ref (He.ga K x))))) && (K.lookup sysModules).isSome)))))
/-! the head -/
abbrev Al : Type := Bool × List He.FnW
def obsK (K : PySem.W.Frag) : Al := (exB K && fn.all fun d => d.ok K, fn.map fun d => He.fnW K d.at_)
def valK : Al := (true, fn.map He.DefD.val)
def kOf (g : Addr → Option Obj) : PySem.W.Frag := He.frG g (sysModules :: He.asD g 5)
def hk : PySem.W.Hook where
  α := Al
  obs := fun s => obsK (kOf s.heap.get?)
  val := fun _ => valK
  says := fun _ h => ∃ K : PySem.W.Frag, K.In h ∧ obsK K = valK
  of := fun _ _ e => ⟨_, He.frG_in, e⟩
  keeps := fun _ _ _ ⟨K, hK, c⟩ k => ⟨K, PySem.W.Frag.In.keeps hK k, c⟩
abbrev R : PySem.W.OpenRow := PySem.W.OpenLaw.row PySem.Challenge.rw_heapwake_k86_errors_made
def ob (s : PySem.W.SharedT) : Al := obsK (kOf (HandSHeadRun.getT s))
theorem ob_eq (s : PySem.W.SharedT) : ob s = hk.obs s.abs := by
  have e : HandSHeadRun.getT s = s.abs.heap.get? := funext (HandSHeadRun.getT_eq s)
  unfold ob
  rw [e] <;> rfl
def names : List Str := ["NoCells", "NoName", "Unset", "NoStrength", "NoPlace", "NoWish", "NoUnits", "Full", "NoObject", "Collecting", "NoCollection", "Busy", "QueueEmpty", "NothingToUndo", "TooLong", "NoLog", "NoHistory", "NoText", "NoRow", "_law_bag", "_law_take", "_law_first", "_law_second", "_law_bare", "_law_raised", "_law_own", "_law_above", "_law_told"]
theorem run (w : World) : HandSHeadRun.RunEq R (PySem.W.view R.prog [30]) hk ob 5000 names w := by
  intro os
  kernel_rfl
end K86


set_option Elab.async false
set_option linter.all false
set_option maxRecDepth 100000
set_option maxHeartbeats 4000000
/-! k86: what the walk takes from the head. -/
namespace K86
open PySem PySem.Spec L2 PyProof.Rows
open PySem.Hx (XBase XCls)
theorem base : ∀ (i : Nat), i < 19 → XBase (row i).B (row i).Bn (row i).newId (row i).initId (row i).bm
  | 0, _ => PySem.Hx.xValue
  | 1, _ => PySem.Hx.xArith
  | 2, _ => PySem.Hx.xValue
  | 3, _ => PySem.Hx.xKey
  | 4, _ => PySem.Hx.xValue
  | 5, _ => PySem.Hx.xIndex
  | 6, _ => PySem.Hx.xValue
  | 7, _ => PySem.Hx.xValue
  | 8, _ => PySem.Hx.xType
  | 9, _ => PySem.Hx.xOver
  | 10, _ => PySem.Hx.xLook
  | 11, _ => PySem.Hx.xOver
  | 12, _ => PySem.Hx.xValue
  | 13, _ => PySem.Hx.xRun
  | 14, _ => PySem.Hx.xRun
  | 15, _ => PySem.Hx.xRun
  | 16, _ => PySem.Hx.xLook
  | 17, _ => PySem.Hx.xIndex
  | 18, _ => PySem.Hx.xValue
  | n + 19, h => absurd h (by omega)
theorem baseX : ∀ (i : Nat), i < 6 → ExcBaseFacts (row (13 + i)).B (row (13 + i)).newId (row (13 + i)).initId (row (13 + i)).bm
  | 0, _ => F.excBase_RuntimeError
  | 1, _ => F.excBase_RuntimeError
  | 2, _ => F.excBase_RuntimeError
  | 3, _ => F.excBase_LookupError
  | 4, _ => F.excBase_IndexError
  | 5, _ => F.excBase_ValueError
  | n + 6, h => absurd h (by omega)
theorem bmBase : ∀ (i : Nat), i < 19 → (row i).bm.contains (.type "BaseException") = true ∧ (row i).bm.contains (.type "object") = true ∧ ∀ a, (row i).bm.contains (.ref a) = false
  | 0, _ | 1, _ | 2, _ | 3, _ | 4, _ | 5, _ | 6, _ | 7, _ | 8, _ | 9, _ | 10, _ | 11, _ | 12, _ | 13, _ | 14, _ | 15, _ | 16, _ | 17, _ | 18, _ => ⟨by decide +kernel, by decide +kernel, fun a => rfl⟩
  | n + 19, h => absurd h (by omega)
structure Txt (K : PySem.W.Frag) (mg : Str → Option Value) : Prop where
  gl : ∀ i, i < 19 → mg (row i).nm = some (.ref (cl K i))
  mro : ∀ i, i < 19 → ∃ cd, PySem.W.clsIn K (cl K i) = some cd ∧ cd.mro = .ref (cl K i) :: (row i).bm
  ex : ∀ i, i < 19 → ExcC K (cl K i)
  ty : ∀ i, i < 19 → PySem.W.typeIn K (.ref (cl K i)) = some (.type "type")
  kp : ∀ i, i < 19 → PySem.W.keepIn K (.ref (cl K i)) = true
  xc : ∀ i, i < 13 → XCls K (cl K i) (row i).newId (row i).bm
  ic : ∀ i, i < 13 → PySem.W.findIn K (.ref (cl K i)) "__init__" = some (some (.ref (ini K i))) ∧ PySem.W.typeIn K (.ref (ini K i)) = some (.type "function") ∧ PySem.W.findIn K (.ref (cl K i)) (row i).fld = some none
  br : ∀ i, i < 6 → PySem.W.excIn K (cl K (13 + i)) (row (13 + i)).bm (row (13 + i)).newId = true
  nd : ((List.range 19).map (cl K)).Nodup
  fr : ∀ x ∈ frees, mg x = none
  gf : ∀ x ∈ glos, mg x = some (.ref (He.ga K x))
  sys : (K.lookup sysModules).isSome = true
theorem sub_of {K : PySem.W.Frag} {C : Addr} {cd : ClassData} {bm : List Value} (h1 : PySem.W.clsIn K C = some cd) (h2 : cd.mro = .ref C :: bm) (v : Value) : PySem.W.subIn K (.ref C) v = some ((Value.ref C :: bm).contains v) := by
  show PySem.W.mroIn K C v = _
  unfold PySem.W.mroIn
  rw [h1, Option.bind_some, h2]
  rfl
theorem Txt.of {K : PySem.W.Frag} {h : Heap} {mg : Str → Option Value} (X : K.In h) (G : h.Ns mainGlobals mg) (c : obsK K = valK) : Txt K mg := by
  have c1 : exB K = true := (He.ba (show (exB K && fn.all fun d => d.ok K) = true from congrArg (fun z : Al => z.1) c)).1
  obtain ⟨c2, c3⟩ := He.ba c1
  obtain ⟨c4, c5⟩ := He.ba c3
  obtain ⟨c6, c7⟩ := He.ba c5
  obtain ⟨c8, c9⟩ := He.ba c7
  obtain ⟨c10, c11⟩ := He.ba c9
  obtain ⟨c12, c13⟩ := He.ba c11
  have hc : ∀ i, i < 19 → clsB K i = true := fun i hi => List.all_eq_true.mp c2 i (List.mem_range.mpr hi)
  have hi13 : ∀ i, i < 13 → iniB K i = true := fun i hi => List.all_eq_true.mp c4 i (List.mem_range.mpr hi)
  have mro : ∀ i, i < 19 → ∃ cd, PySem.W.clsIn K (cl K i) = some cd ∧ cd.mro = .ref (cl K i) :: (row i).bm := fun i hi => by
    obtain ⟨_, q⟩ := He.ba (hc i hi)
    obtain ⟨q, _⟩ := He.ba q
    obtain ⟨cd, h1, h2⟩ := PySem.W.any_some q
    exact ⟨cd, h1, of_decide_eq_true h2⟩
  have sub : ∀ i, i < 19 → ∀ T : String, (row i).bm.contains (.type T) = true → PySem.W.subIn K (.ref (cl K i)) (.type T) = some true := fun i hi T hT => by
    obtain ⟨cd, h1, h2⟩ := mro i hi
    rw [sub_of h1 h2, PySem.Hx.contains_ref, hT]
  have rest : ∀ i, i < 19 → PySem.W.nsIn K mainGlobals (row i).nm = some (some (.ref (cl K i))) ∧ PySem.W.hasDictIn K (cl K i) = true ∧ PySem.W.findIn K (.ref (cl K i)) "__setattr__" = some (some (.builtin "object.__setattr__")) ∧
      PySem.W.typeIn K (.ref (cl K i)) = some (.type "type") ∧ PySem.W.keepIn K (.ref (cl K i)) = true ∧ PySem.W.findIn K (.ref (cl K i)) "__getattribute__" = some (some (.builtin "BaseException.__getattribute__")) ∧
      PySem.W.findIn K (.ref (cl K i)) "__getattr__" = some none ∧ PySem.W.findIn K (.ref (cl K i)) "__class__" = some (some (.builtin "object.__class__")) := fun i hi => by
    obtain ⟨q1, q⟩ := He.ba (hc i hi)
    obtain ⟨_, q⟩ := He.ba q
    obtain ⟨q3, q⟩ := He.ba q
    obtain ⟨q4, q⟩ := He.ba q
    obtain ⟨q5, q⟩ := He.ba q
    obtain ⟨q6, q⟩ := He.ba q
    obtain ⟨q7, q⟩ := He.ba q
    obtain ⟨q8, q9⟩ := He.ba q
    exact ⟨He.eqO_ok q1, q3, He.eqO_ok q4, of_decide_eq_true q5, q6, He.eqO_ok q7, He.eqO_ok q8, He.eqO_ok q9⟩
  refine ⟨fun i hi => PySem.W.mg_of X G (rest i hi).1, mro, fun i hi => ?_, fun i hi => (rest i hi).2.2.2.1, fun i hi => (rest i hi).2.2.2.2.1, fun i hi => ?_, fun i hi => ?_, fun i hi => List.all_eq_true.mp c6 i (List.mem_range.mpr hi), of_decide_eq_true c8, fun x hx => ?_, fun x hx => ?_, c13⟩
  · obtain ⟨_, r2, _, _, _, r6, r7, r8⟩ := rest i hi
    refine ⟨r6, r7, sub i hi _ (bmBase i hi).1, r2, r8, by kernel_rfl, by kernel_rfl, ?_⟩
    exact sub i hi "object" (bmBase i hi).2.1
  · have hi' : i < 19 := by omega
    obtain ⟨_, r2, r3, r4, r5, _, _, _⟩ := rest i hi'
    exact ⟨(He.ba (hi13 i hi)).1, r2, r3, sub i hi' _ (bmBase i hi').1, r4, r5⟩
  · obtain ⟨_, q⟩ := He.ba (hi13 i hi)
    obtain ⟨q1, q⟩ := He.ba q
    obtain ⟨q2, q3⟩ := He.ba q
    exact ⟨He.eqO_ok q1, of_decide_eq_true q2, He.eqO_ok q3⟩
  · exact PySem.W.mg_none_of X G (He.eqO_ok (List.all_eq_true.mp c10 x hx))
  · exact PySem.W.mg_of X G (He.eqO_ok (List.all_eq_true.mp c12 x hx))
section
variable {K : PySem.W.Frag} {mg : Str → Option Value}
theorem Txt.ne (T : Txt K mg) {i j : Nat} (hi : i < 19) (hj : j < 19) (h : cl K i = cl K j) : i = j := by
  have key : ∀ a b : Nat, a < b → b < 19 → cl K a ≠ cl K b := fun a b hab hb => by
    have z := List.pairwise_iff_getElem.mp T.nd a b (by simpa using Nat.lt_trans hab hb) (by simpa using hb) hab
    simpa using z
  rcases Nat.lt_trichotomy i j with q | q | q
  · exact absurd h (key i j q hj)
  · exact q
  · exact absurd h.symm (key j i q hi)
theorem Txt.kc (T : Txt K mg) {i j : Nat} (hi : i < 19) (hj : j < 19) : PySem.W.kitCls K (.ref (cl K i)) (.ref (cl K j)) = some (decide (i = j)) := by
  obtain ⟨cd, h1, h2⟩ := T.mro i hi
  obtain ⟨cd', h3, _⟩ := T.mro j hj
  show (if ((PySem.W.clsIn K (cl K j)).isSome && PySem.W.typeIn K (.ref (cl K j)) == some (.type "type")) = true then PySem.W.subIn K (.ref (cl K i)) (.ref (cl K j)) else none) = _
  rw [h3, T.ty j hj, if_pos (by simp), sub_of h1 h2]
  congr 1
  rw [List.contains_cons, (bmBase i hi).2.2, Bool.or_false]
  by_cases e : i = j
  · subst e
    simp
  · rw [decide_eq_false e]
    refine beq_eq_false_iff_ne.mpr fun z => e (T.ne hi hj ?_)
    exact (Value.ref.inj z).symm
theorem Txt.kit (T : Txt K mg) {i j : Nat} (hi : i < 19) (hj : j < 19) : PySem.W.kitOne K (.ref (cl K i)) (.ref (cl K j)) = some (decide (i = j)) := by
  unfold PySem.W.kitOne
  rw [T.kc hi hj]
  by_cases e : i = j
  · subst e
    simp
  · rw [if_neg]
    intro z
    exact e (T.ne hi hj (Value.ref.inj (beq_iff_eq.mp z)))
theorem Txt.exm (T : Txt K mg) {i j : Nat} (hi : i < 19) (hj : j < 19) : PySem.W.exmOne K (.ref (cl K i)) (.ref (cl K j)) = some (decide (i = j)) := by
  unfold PySem.W.exmOne
  rw [(T.ex j hj).hs, if_pos (by decide +kernel), T.kc hi hj]
theorem Txt.any (T : Txt K mg) {i : Nat} (hi : i < 19) : ∀ {js : List Nat}, (∀ j ∈ js, j < 19) → PySem.W.exmAny K (.ref (cl K i)) (js.map fun j => .ref (cl K j)) = some (js.contains i)
  | [], _ => rfl
  | j :: js, h => by
    have h1 := T.exm hi (h j (List.mem_cons_self ..))
    have h2 := Txt.any T hi (js := js) fun k hk => h k (List.mem_cons_of_mem _ hk)
    show (match PySem.W.exmOne K (.ref (cl K i)) (.ref (cl K j)), PySem.W.exmAny K (.ref (cl K i)) (js.map fun j => .ref (cl K j)) with | some b, some d => some (b || d) | _, _ => none) = _
    rw [h1, h2, List.contains_cons]
    by_cases e : i = j
    · subst e
      simp
    · have e2 : (i == j) = false := by simpa using e
      simp [e, e2]
theorem Txt.kitT (T : Txt K mg) {i : Nat} (hi : i < 19) {B : String} (hm : PySem.W.kitMeta B = true) : PySem.W.kitOne K (.ref (cl K i)) (.type B) = some ((row i).bm.contains (.type B)) := by
  obtain ⟨cd, h1, h2⟩ := T.mro i hi
  unfold PySem.W.kitOne
  rw [if_neg (by simp)]
  show (if PySem.W.kitMeta B = true then PySem.W.subIn K (.ref (cl K i)) (.type B) else none) = _
  rw [if_pos hm, sub_of h1 h2, PySem.Hx.contains_ref]
end
/-! the defs -/
theorem def_of {K : PySem.W.Frag} (c : obsK K = valK) {d : He.DefD} (h : d ∈ fn) : ∃ fd, FunD K d.name d.qual d.params d.body d.scope (d.dvs K) (d.kws K) (He.fAd K d.at_) fd := by
  have c2 : (fn.all fun d => d.ok K) = true := (He.ba (show (exB K && fn.all fun d => d.ok K) = true from congrArg (fun z : Al => z.1) c)).2
  have e : fn.map (fun d => He.fnW K d.at_) = fn.map He.DefD.val := congrArg (fun z : Al => z.2) c
  obtain ⟨i, hi, eq⟩ := List.mem_iff_getElem.mp h
  have e2 : (fn.map fun d => He.fnW K d.at_)[i]? = (fn.map He.DefD.val)[i]? := by rw [e]
  rw [List.getElem?_map, List.getElem?_map, List.getElem?_eq_getElem hi, eq] at e2
  exact He.DefD.funD (Option.some.inj e2) (List.all_eq_true.mp c2 d h)
end K86


set_option Elab.async false
set_option linter.all false
set_option maxRecDepth 100000
set_option maxHeartbeats 4000000
/-! k86: the inits. -/
namespace K86
open PySem PySem.Spec L2 PyProof.Rows
open PySem.Hx (XBase XCls)
/-- the value that a class's init takes: any; a small int where the message shows it -/
def okv (i : Nat) (v : V) : Prop := if i = 6 ∨ i = 7 ∨ i = 9 ∨ i = 11 ∨ i = 12 then ∃ n : Int, v = .int n ∧ n.natAbs.log2 < 1920 else True
section
variable {P : Program} {w : World} {K : PySem.W.Frag} {mg : Str → Option Value} {base : Heap} {fd : FuncData} {f : Addr}
theorem read_plain {C : Addr} {fl msg : Str} (vs : List V) (H : Hp) (Q : VK) (E : XK) {x : Str} {okx : V → Prop} (h : Hx.spI okx C fl vs H Q E) :
    tSeq (tDrop (Hx.tBi C (tCons (tVar 0) (tCons (tC (.str msg)) tNil)))) (Hx.tS1 C fl (tVar 0) (tVar 1)) { nx := fun _ H' => Q .non H', rt := Q } (start ["self", x] vs) H := by
  obtain ⟨a, v, rfl, _, ha, k⟩ := h
  exact ⟨_, rfl, a, [_], rfl, (by show 1 ≤ 1000; decide), ha, _, rfl, _, rfl, a, rfl, ha, fun dx hd ne => k dx hd ne⟩
theorem fit3 {m1 m2 : Str} {n : Int} (hm1 : m1.length ≤ 100) (hm2 : m2.length ≤ 100) (hn : n.natAbs.log2 < 1920) : (Str.empty ++ m1 ++ Str.ofString (toString n) ++ m2).length ≤ 2500 := by
  have e := int_text_length_le (k := 1920) (by decide) hn
  have e0 : Str.empty.length = 0 := rfl
  rw [strLen_append, strLen_append, strLen_append, PySem.ofString_length, e0]
  omega
theorem read_shown {C : Addr} {fl m1 m2 : Str} (hm1 : m1.length ≤ 100) (hm2 : m2.length ≤ 100) (vs : List V) (H : Hp) (Q : VK) (E : XK) {x : Str} (h : Hx.spI (fun v => ∃ n : Int, v = .int n ∧ n.natAbs.log2 < 1920) C fl vs H Q E) :
    tSeq (tDrop (Hx.tBi C (tCons (tVar 0) (tCons (fun σ H Q => tJs [tC (.str m1), tFmt (tVar 1), tC (.str m2)] Str.empty σ H fun out H1 => Q (.str out) H1) tNil)))) (Hx.tS1 C fl (tVar 0) (tVar 1)) { nx := fun _ H' => Q .non H', rt := Q } (start ["self", x] vs) H := by
  obtain ⟨a, v, rfl, ⟨n, rfl, hn⟩, ha, k⟩ := h
  have f3 := fit3 hm1 hm2 hn
  have e0 : Str.empty.length = 0 := rfl
  rw [strLen_append, strLen_append, strLen_append, e0] at f3
  have z : sizeLine = 16777216 := sizeLine_eq
  refine ⟨_, rfl, m1, rfl, (by rw [strLen_append, e0]; omega), _, rfl, .inr ⟨n, rfl, hn, _, rfl, (by rw [strLen_append, strLen_append, e0]; omega), m2, rfl, (by rw [strLen_append, strLen_append, strLen_append, e0]; omega), ?_⟩⟩
  exact ⟨a, [_], rfl, (by show 1 ≤ 1000; decide), ha, _, rfl, _, rfl, a, rfl, ha, fun dx hd ne => k dx hd ne⟩
theorem spI_imp {o1 o2 : V → Prop} {C : Addr} {fl : Str} (h : ∀ v, o1 v → o2 v) {vs : List V} {H : Hp} {Q : VK} {E : XK} (q : Hx.spI o1 C fl vs H Q E) : Hx.spI o2 C fl vs H Q E := by
  obtain ⟨a, v, e, o, r⟩ := q
  exact ⟨a, v, e, h v o, r⟩
theorem scI0 : FnScope ["self", "cells"] ["self", "cells"] (defScope sI0) := ⟨rfl, rfl, rfl, by decide +kernel, rfl, by decide +kernel, by decide +kernel⟩
theorem okI0 (T : Txt K mg) (F : FunD K "__init__" "NoCells.__init__" (defArgs sI0) (defBody sI0) (defScope sI0) [] [] f fd) : FnOk P w K mg base CX0 1 f fd ["self", "cells"] (Hx.spI (okv 0) (cl K 0) "value") := by
  refine F.ok scI0 (fun vs H Q E h => ?_) (fun cdv A outer s H vs Q E hr h => ⟨_, PSs.nox (pss_cons (ps_expr (Hx.pe_binit (K86.base 0 (by decide)) (T.xc 0 (by decide)) rfl (T.fr "ValueError" (by decide +kernel)) (by decide +kernel) (pa_cons (pv 0) (pa_cons pe_str pa_nil)))) (pss_one (Hx.ps_s1 (K86.base 0 (by decide)) (T.xc 0 (by decide)) (T.ic 0 (by decide)).2.2 (pv 0) (pv 1)))), ?_⟩)
  · obtain ⟨a, v, rfl, _⟩ := h
    rfl
  · exact read_plain vs H Q E h
theorem scI1 : FnScope ["self", "units"] ["self", "units"] (defScope sI1) := ⟨rfl, rfl, rfl, by decide +kernel, rfl, by decide +kernel, by decide +kernel⟩
theorem okI1 (T : Txt K mg) (F : FunD K "__init__" "NoUnits.__init__" (defArgs sI1) (defBody sI1) (defScope sI1) [] [] f fd) : FnOk P w K mg base CX0 1 f fd ["self", "units"] (Hx.spI (okv 1) (cl K 1) "value") := by
  refine F.ok scI1 (fun vs H Q E h => ?_) (fun cdv A outer s H vs Q E hr h => ⟨_, PSs.nox (pss_cons (ps_expr (Hx.pe_binit (K86.base 1 (by decide)) (T.xc 1 (by decide)) rfl (T.fr "ArithmeticError" (by decide +kernel)) (by decide +kernel) (pa_cons (pv 0) (pa_cons pe_str pa_nil)))) (pss_one (Hx.ps_s1 (K86.base 1 (by decide)) (T.xc 1 (by decide)) (T.ic 1 (by decide)).2.2 (pv 0) (pv 1)))), ?_⟩)
  · obtain ⟨a, v, rfl, _⟩ := h
    rfl
  · exact read_plain vs H Q E h
theorem scI2 : FnScope ["self", "name"] ["self", "name"] (defScope sI2) := ⟨rfl, rfl, rfl, by decide +kernel, rfl, by decide +kernel, by decide +kernel⟩
theorem okI2 (T : Txt K mg) (F : FunD K "__init__" "NoName.__init__" (defArgs sI2) (defBody sI2) (defScope sI2) [] [] f fd) : FnOk P w K mg base CX0 1 f fd ["self", "name"] (Hx.spI (okv 2) (cl K 2) "name") := by
  refine F.ok scI2 (fun vs H Q E h => ?_) (fun cdv A outer s H vs Q E hr h => ⟨_, PSs.nox (pss_cons (ps_expr (Hx.pe_binit (K86.base 2 (by decide)) (T.xc 2 (by decide)) rfl (T.fr "ValueError" (by decide +kernel)) (by decide +kernel) (pa_cons (pv 0) (pa_cons pe_str pa_nil)))) (pss_one (Hx.ps_s1 (K86.base 2 (by decide)) (T.xc 2 (by decide)) (T.ic 2 (by decide)).2.2 (pv 0) (pv 1)))), ?_⟩)
  · obtain ⟨a, v, rfl, _⟩ := h
    rfl
  · exact read_plain vs H Q E h
theorem scI3 : FnScope ["self", "name"] ["self", "name"] (defScope sI3) := ⟨rfl, rfl, rfl, by decide +kernel, rfl, by decide +kernel, by decide +kernel⟩
theorem okI3 (T : Txt K mg) (F : FunD K "__init__" "Unset.__init__" (defArgs sI3) (defBody sI3) (defScope sI3) [] [] f fd) : FnOk P w K mg base CX0 1 f fd ["self", "name"] (Hx.spI (okv 3) (cl K 3) "name") := by
  refine F.ok scI3 (fun vs H Q E h => ?_) (fun cdv A outer s H vs Q E hr h => ⟨_, PSs.nox (pss_cons (ps_expr (Hx.pe_binit (K86.base 3 (by decide)) (T.xc 3 (by decide)) rfl (T.fr "KeyError" (by decide +kernel)) (by decide +kernel) (pa_cons (pv 0) (pa_cons pe_str pa_nil)))) (pss_one (Hx.ps_s1 (K86.base 3 (by decide)) (T.xc 3 (by decide)) (T.ic 3 (by decide)).2.2 (pv 0) (pv 1)))), ?_⟩)
  · obtain ⟨a, v, rfl, _⟩ := h
    rfl
  · exact read_plain vs H Q E h
theorem scI4 : FnScope ["self", "strength"] ["self", "strength"] (defScope sI4) := ⟨rfl, rfl, rfl, by decide +kernel, rfl, by decide +kernel, by decide +kernel⟩
theorem okI4 (T : Txt K mg) (F : FunD K "__init__" "NoStrength.__init__" (defArgs sI4) (defBody sI4) (defScope sI4) [] [] f fd) : FnOk P w K mg base CX0 1 f fd ["self", "strength"] (Hx.spI (okv 4) (cl K 4) "strength") := by
  refine F.ok scI4 (fun vs H Q E h => ?_) (fun cdv A outer s H vs Q E hr h => ⟨_, PSs.nox (pss_cons (ps_expr (Hx.pe_binit (K86.base 4 (by decide)) (T.xc 4 (by decide)) rfl (T.fr "ValueError" (by decide +kernel)) (by decide +kernel) (pa_cons (pv 0) (pa_cons pe_str pa_nil)))) (pss_one (Hx.ps_s1 (K86.base 4 (by decide)) (T.xc 4 (by decide)) (T.ic 4 (by decide)).2.2 (pv 0) (pv 1)))), ?_⟩)
  · obtain ⟨a, v, rfl, _⟩ := h
    rfl
  · exact read_plain vs H Q E h
theorem scI5 : FnScope ["self", "place"] ["self", "place"] (defScope sI5) := ⟨rfl, rfl, rfl, by decide +kernel, rfl, by decide +kernel, by decide +kernel⟩
theorem okI5 (T : Txt K mg) (F : FunD K "__init__" "NoPlace.__init__" (defArgs sI5) (defBody sI5) (defScope sI5) [] [] f fd) : FnOk P w K mg base CX0 1 f fd ["self", "place"] (Hx.spI (okv 5) (cl K 5) "place") := by
  refine F.ok scI5 (fun vs H Q E h => ?_) (fun cdv A outer s H vs Q E hr h => ⟨_, PSs.nox (pss_cons (ps_expr (Hx.pe_binit (K86.base 5 (by decide)) (T.xc 5 (by decide)) rfl (T.fr "IndexError" (by decide +kernel)) (by decide +kernel) (pa_cons (pv 0) (pa_cons pe_str pa_nil)))) (pss_one (Hx.ps_s1 (K86.base 5 (by decide)) (T.xc 5 (by decide)) (T.ic 5 (by decide)).2.2 (pv 0) (pv 1)))), ?_⟩)
  · obtain ⟨a, v, rfl, _⟩ := h
    rfl
  · exact read_plain vs H Q E h
theorem scI6 : FnScope ["self", "place"] ["self", "place"] (defScope sI6) := ⟨rfl, rfl, rfl, by decide +kernel, rfl, by decide +kernel, by decide +kernel⟩
theorem okI6 (T : Txt K mg) (F : FunD K "__init__" "NoLog.__init__" (defArgs sI6) (defBody sI6) (defScope sI6) [] [] f fd) : FnOk P w K mg base CX0 1 f fd ["self", "place"] (Hx.spI (okv 6) (cl K 6) "place") := by
  refine F.ok scI6 (fun vs H Q E h => ?_) (fun cdv A outer s H vs Q E hr h => ⟨_, PSs.nox (pss_cons (ps_expr (Hx.pe_binit (K86.base 6 (by decide)) (T.xc 6 (by decide)) rfl (T.fr "ValueError" (by decide +kernel)) (by decide +kernel) (pa_cons (pv 0) (pa_cons (pe_joined (.cons pe_str (.cons (pe_fmt (pv 1)) (.cons pe_str .nil)))) pa_nil)))) (pss_one (Hx.ps_s1 (K86.base 6 (by decide)) (T.xc 6 (by decide)) (T.ic 6 (by decide)).2.2 (pv 0) (pv 1)))), ?_⟩)
  · obtain ⟨a, v, rfl, _⟩ := h
    rfl
  · exact read_shown (by decide +kernel) (by decide +kernel) vs H Q E h
theorem scI7 : FnScope ["self", "place"] ["self", "place"] (defScope sI7) := ⟨rfl, rfl, rfl, by decide +kernel, rfl, by decide +kernel, by decide +kernel⟩
theorem okI7 (T : Txt K mg) (F : FunD K "__init__" "NoHistory.__init__" (defArgs sI7) (defBody sI7) (defScope sI7) [] [] f fd) : FnOk P w K mg base CX0 1 f fd ["self", "place"] (Hx.spI (okv 7) (cl K 7) "place") := by
  refine F.ok scI7 (fun vs H Q E h => ?_) (fun cdv A outer s H vs Q E hr h => ⟨_, PSs.nox (pss_cons (ps_expr (Hx.pe_binit (K86.base 7 (by decide)) (T.xc 7 (by decide)) rfl (T.fr "ValueError" (by decide +kernel)) (by decide +kernel) (pa_cons (pv 0) (pa_cons (pe_joined (.cons pe_str (.cons (pe_fmt (pv 1)) (.cons pe_str .nil)))) pa_nil)))) (pss_one (Hx.ps_s1 (K86.base 7 (by decide)) (T.xc 7 (by decide)) (T.ic 7 (by decide)).2.2 (pv 0) (pv 1)))), ?_⟩)
  · obtain ⟨a, v, rfl, _⟩ := h
    rfl
  · exact read_shown (by decide +kernel) (by decide +kernel) vs H Q E h
theorem scI8 : FnScope ["self", "steps"] ["self", "steps"] (defScope sI8) := ⟨rfl, rfl, rfl, by decide +kernel, rfl, by decide +kernel, by decide +kernel⟩
theorem okI8 (T : Txt K mg) (F : FunD K "__init__" "NoWish.__init__" (defArgs sI8) (defBody sI8) (defScope sI8) [] [] f fd) : FnOk P w K mg base CX0 1 f fd ["self", "steps"] (Hx.spI (okv 8) (cl K 8) "steps") := by
  refine F.ok scI8 (fun vs H Q E h => ?_) (fun cdv A outer s H vs Q E hr h => ⟨_, PSs.nox (pss_cons (ps_expr (Hx.pe_binit (K86.base 8 (by decide)) (T.xc 8 (by decide)) rfl (T.fr "TypeError" (by decide +kernel)) (by decide +kernel) (pa_cons (pv 0) (pa_cons pe_str pa_nil)))) (pss_one (Hx.ps_s1 (K86.base 8 (by decide)) (T.xc 8 (by decide)) (T.ic 8 (by decide)).2.2 (pv 0) (pv 1)))), ?_⟩)
  · obtain ⟨a, v, rfl, _⟩ := h
    rfl
  · exact read_plain vs H Q E h
theorem scI9 : FnScope ["self", "cells"] ["self", "cells"] (defScope sI9) := ⟨rfl, rfl, rfl, by decide +kernel, rfl, by decide +kernel, by decide +kernel⟩
theorem okI9 (T : Txt K mg) (F : FunD K "__init__" "Full.__init__" (defArgs sI9) (defBody sI9) (defScope sI9) [] [] f fd) : FnOk P w K mg base CX0 1 f fd ["self", "cells"] (Hx.spI (okv 9) (cl K 9) "room") := by
  refine F.ok scI9 (fun vs H Q E h => ?_) (fun cdv A outer s H vs Q E hr h => ⟨_, PSs.nox (pss_cons (ps_expr (Hx.pe_binit (K86.base 9 (by decide)) (T.xc 9 (by decide)) rfl (T.fr "OverflowError" (by decide +kernel)) (by decide +kernel) (pa_cons (pv 0) (pa_cons (pe_joined (.cons pe_str (.cons (pe_fmt (pv 1)) (.cons pe_str .nil)))) pa_nil)))) (pss_one (Hx.ps_s1 (K86.base 9 (by decide)) (T.xc 9 (by decide)) (T.ic 9 (by decide)).2.2 (pv 0) (pv 1)))), ?_⟩)
  · obtain ⟨a, v, rfl, _⟩ := h
    rfl
  · exact read_shown (by decide +kernel) (by decide +kernel) vs H Q E h
theorem scI10 : FnScope ["self", "number"] ["self", "number"] (defScope sI10) := ⟨rfl, rfl, rfl, by decide +kernel, rfl, by decide +kernel, by decide +kernel⟩
theorem okI10 (T : Txt K mg) (F : FunD K "__init__" "NoObject.__init__" (defArgs sI10) (defBody sI10) (defScope sI10) [] [] f fd) : FnOk P w K mg base CX0 1 f fd ["self", "number"] (Hx.spI (okv 10) (cl K 10) "number") := by
  refine F.ok scI10 (fun vs H Q E h => ?_) (fun cdv A outer s H vs Q E hr h => ⟨_, PSs.nox (pss_cons (ps_expr (Hx.pe_binit (K86.base 10 (by decide)) (T.xc 10 (by decide)) rfl (T.fr "LookupError" (by decide +kernel)) (by decide +kernel) (pa_cons (pv 0) (pa_cons pe_str pa_nil)))) (pss_one (Hx.ps_s1 (K86.base 10 (by decide)) (T.xc 10 (by decide)) (T.ic 10 (by decide)).2.2 (pv 0) (pv 1)))), ?_⟩)
  · obtain ⟨a, v, rfl, _⟩ := h
    rfl
  · exact read_plain vs H Q E h
theorem scI11 : FnScope ["self", "most"] ["self", "most"] (defScope sI11) := ⟨rfl, rfl, rfl, by decide +kernel, rfl, by decide +kernel, by decide +kernel⟩
theorem okI11 (T : Txt K mg) (F : FunD K "__init__" "TooLong.__init__" (defArgs sI11) (defBody sI11) (defScope sI11) [] [] f fd) : FnOk P w K mg base CX0 1 f fd ["self", "most"] (Hx.spI (okv 11) (cl K 11) "most") := by
  refine F.ok scI11 (fun vs H Q E h => ?_) (fun cdv A outer s H vs Q E hr h => ⟨_, PSs.nox (pss_cons (ps_expr (Hx.pe_binit (K86.base 11 (by decide)) (T.xc 11 (by decide)) rfl (T.fr "OverflowError" (by decide +kernel)) (by decide +kernel) (pa_cons (pv 0) (pa_cons (pe_joined (.cons pe_str (.cons (pe_fmt (pv 1)) (.cons pe_str .nil)))) pa_nil)))) (pss_one (Hx.ps_s1 (K86.base 11 (by decide)) (T.xc 11 (by decide)) (T.ic 11 (by decide)).2.2 (pv 0) (pv 1)))), ?_⟩)
  · obtain ⟨a, v, rfl, _⟩ := h
    rfl
  · exact read_shown (by decide +kernel) (by decide +kernel) vs H Q E h
theorem scI12 : FnScope ["self", "row"] ["self", "row"] (defScope sI12) := ⟨rfl, rfl, rfl, by decide +kernel, rfl, by decide +kernel, by decide +kernel⟩
theorem okI12 (T : Txt K mg) (F : FunD K "__init__" "NoText.__init__" (defArgs sI12) (defBody sI12) (defScope sI12) [] [] f fd) : FnOk P w K mg base CX0 1 f fd ["self", "row"] (Hx.spI (okv 12) (cl K 12) "row") := by
  refine F.ok scI12 (fun vs H Q E h => ?_) (fun cdv A outer s H vs Q E hr h => ⟨_, PSs.nox (pss_cons (ps_expr (Hx.pe_binit (K86.base 12 (by decide)) (T.xc 12 (by decide)) rfl (T.fr "ValueError" (by decide +kernel)) (by decide +kernel) (pa_cons (pv 0) (pa_cons (pe_joined (.cons pe_str (.cons (pe_fmt (pv 1)) (.cons pe_str .nil)))) pa_nil)))) (pss_one (Hx.ps_s1 (K86.base 12 (by decide)) (T.xc 12 (by decide)) (T.ic 12 (by decide)).2.2 (pv 0) (pv 1)))), ?_⟩)
  · obtain ⟨a, v, rfl, _⟩ := h
    rfl
  · exact read_shown (by decide +kernel) (by decide +kernel) vs H Q E h
end
end K86

set_option Elab.async false
set_option linter.all false
set_option maxRecDepth 100000
set_option maxHeartbeats 4000000
/-! k86: the defs that raise. -/
namespace K86
open PySem PySem.Spec L2 PyProof.Rows
/-- the written part with the inits' function objects and the law's -/
structure Fns (K : PySem.W.Frag) : Prop where
  c : obsK K = valK
/-- what an error of the i-th class leaves: its own dict, new, with its field -/
def left (K : PySem.W.Frag) (i : Nat) (v : V) (H : Hp) (E : XK) : Prop := ∀ d, H d = none → E (.ref (cl K i)) (some d) (upd H d (.xd [((row i).fld, v)]))
def spFirst (K : PySem.W.Frag) : Sp := fun vs H _ E => ∃ (i : Nat) (v : V), vs = [.int i, v] ∧ i < 7 ∧ okv i v ∧ left K i v H E
def spSecond (K : PySem.W.Frag) : Sp := fun vs H _ E => ∃ (i : Nat) (v : V), vs = [.int i, v] ∧ 7 ≤ i ∧ i < 13 ∧ okv i v ∧ left K i v H E
def spBare (K : PySem.W.Frag) : Sp := fun vs H _ E => ∃ i : Nat, vs = [.int i] ∧ 13 ≤ i ∧ i < 19 ∧ E (.ref (cl K i)) none H
/-- raised(way, one): always raises -/
def spRaised (K : PySem.W.Frag) : Sp := fun vs H _ E => ∃ (i : Nat) (v : V), vs = [.int i, v] ∧ i < 19 ∧ (i < 13 → okv i v ∧ left K i v H E) ∧ (13 ≤ i → E (.ref (cl K i)) none H)
theorem cY {c : Bool} {A B : Prop} (hc : c = true) (h : A) : if c = true then A else B := by
  rw [if_pos hc]
  exact h
theorem cN {c : Bool} {A B : Prop} (hc : c = false) (h : B) : if c = true then A else B := by
  rw [hc, if_neg Bool.false_ne_true]
  exact h
theorem eqNo {i c : Int} {A B : Prop} (h : i ≠ c) (hB : B) : if decide (V.int i = V.int c) = true then A else B := by
  rw [if_neg]
  · exact hB
  · intro z
    exact h (V.int.inj (of_decide_eq_true z))
theorem eqYes {i c : Int} {A B : Prop} (h : i = c) (hA : A) : if decide (V.int i = V.int c) = true then A else B := by
  rw [if_pos (decide_eq_true (by rw [h]))]
  exact hA
section
variable {P : Program} {w : World} {K : PySem.W.Frag} {mg : Str → Option Value} {base : Heap} {fd : FuncData} {f : Addr}
theorem bI0 {f : Addr} {fd : FuncData} (F : FunD K "__init__" "NoCells.__init__" (defArgs sI0) (defBody sI0) (defScope sI0) [] [] f fd) : Binds K fd ["self", "cells"] [] := F.bindsN fun _ _ _ _ _ _ us hl => match us, hl with | [_, _], _ => rfl
theorem bI1 {f : Addr} {fd : FuncData} (F : FunD K "__init__" "NoUnits.__init__" (defArgs sI1) (defBody sI1) (defScope sI1) [] [] f fd) : Binds K fd ["self", "units"] [] := F.bindsN fun _ _ _ _ _ _ us hl => match us, hl with | [_, _], _ => rfl
theorem bI2 {f : Addr} {fd : FuncData} (F : FunD K "__init__" "NoName.__init__" (defArgs sI2) (defBody sI2) (defScope sI2) [] [] f fd) : Binds K fd ["self", "name"] [] := F.bindsN fun _ _ _ _ _ _ us hl => match us, hl with | [_, _], _ => rfl
theorem bI3 {f : Addr} {fd : FuncData} (F : FunD K "__init__" "Unset.__init__" (defArgs sI3) (defBody sI3) (defScope sI3) [] [] f fd) : Binds K fd ["self", "name"] [] := F.bindsN fun _ _ _ _ _ _ us hl => match us, hl with | [_, _], _ => rfl
theorem bI4 {f : Addr} {fd : FuncData} (F : FunD K "__init__" "NoStrength.__init__" (defArgs sI4) (defBody sI4) (defScope sI4) [] [] f fd) : Binds K fd ["self", "strength"] [] := F.bindsN fun _ _ _ _ _ _ us hl => match us, hl with | [_, _], _ => rfl
theorem bI5 {f : Addr} {fd : FuncData} (F : FunD K "__init__" "NoPlace.__init__" (defArgs sI5) (defBody sI5) (defScope sI5) [] [] f fd) : Binds K fd ["self", "place"] [] := F.bindsN fun _ _ _ _ _ _ us hl => match us, hl with | [_, _], _ => rfl
theorem bI6 {f : Addr} {fd : FuncData} (F : FunD K "__init__" "NoLog.__init__" (defArgs sI6) (defBody sI6) (defScope sI6) [] [] f fd) : Binds K fd ["self", "place"] [] := F.bindsN fun _ _ _ _ _ _ us hl => match us, hl with | [_, _], _ => rfl
theorem bI7 {f : Addr} {fd : FuncData} (F : FunD K "__init__" "NoHistory.__init__" (defArgs sI7) (defBody sI7) (defScope sI7) [] [] f fd) : Binds K fd ["self", "place"] [] := F.bindsN fun _ _ _ _ _ _ us hl => match us, hl with | [_, _], _ => rfl
theorem bI8 {f : Addr} {fd : FuncData} (F : FunD K "__init__" "NoWish.__init__" (defArgs sI8) (defBody sI8) (defScope sI8) [] [] f fd) : Binds K fd ["self", "steps"] [] := F.bindsN fun _ _ _ _ _ _ us hl => match us, hl with | [_, _], _ => rfl
theorem bI9 {f : Addr} {fd : FuncData} (F : FunD K "__init__" "Full.__init__" (defArgs sI9) (defBody sI9) (defScope sI9) [] [] f fd) : Binds K fd ["self", "cells"] [] := F.bindsN fun _ _ _ _ _ _ us hl => match us, hl with | [_, _], _ => rfl
theorem bI10 {f : Addr} {fd : FuncData} (F : FunD K "__init__" "NoObject.__init__" (defArgs sI10) (defBody sI10) (defScope sI10) [] [] f fd) : Binds K fd ["self", "number"] [] := F.bindsN fun _ _ _ _ _ _ us hl => match us, hl with | [_, _], _ => rfl
theorem bI11 {f : Addr} {fd : FuncData} (F : FunD K "__init__" "TooLong.__init__" (defArgs sI11) (defBody sI11) (defScope sI11) [] [] f fd) : Binds K fd ["self", "most"] [] := F.bindsN fun _ _ _ _ _ _ us hl => match us, hl with | [_, _], _ => rfl
theorem bI12 {f : Addr} {fd : FuncData} (F : FunD K "__init__" "NoText.__init__" (defArgs sI12) (defBody sI12) (defScope sI12) [] [] f fd) : Binds K fd ["self", "row"] [] := F.bindsN fun _ _ _ _ _ _ us hl => match us, hl with | [_, _], _ => rfl
theorem scFirst : FnScope ["_law_way", "_law_one"] ["_law_way", "_law_one"] (defScope sFirst) := ⟨rfl, rfl, rfl, by decide +kernel, rfl, by decide +kernel, by decide +kernel⟩
theorem okFirst (T : Txt K mg) (c : obsK K = valK) (F : FunD K "_law_first" "_law_first" (defArgs sFirst) (defBody sFirst) (defScope sFirst) [] [] f fd) : FnOk P w K mg base (L2N.CX P w) 4 f fd ["_law_way", "_law_one"] (spFirst K) := by
  obtain ⟨fd0, F0⟩ := def_of c (d := defI 0 sI0 "NoCells.__init__") (by simp [fn])
  obtain ⟨fd1, F1⟩ := def_of c (d := defI 1 sI1 "NoUnits.__init__") (by simp [fn])
  obtain ⟨fd2, F2⟩ := def_of c (d := defI 2 sI2 "NoName.__init__") (by simp [fn])
  obtain ⟨fd3, F3⟩ := def_of c (d := defI 3 sI3 "Unset.__init__") (by simp [fn])
  obtain ⟨fd4, F4⟩ := def_of c (d := defI 4 sI4 "NoStrength.__init__") (by simp [fn])
  obtain ⟨fd5, F5⟩ := def_of c (d := defI 5 sI5 "NoPlace.__init__") (by simp [fn])
  obtain ⟨fd6, F6⟩ := def_of c (d := defI 6 sI6 "NoLog.__init__") (by simp [fn])
  refine F.ok scFirst (fun vs H Q E h => ?_) (fun cdv A outer s H vs Q E hr h => ?_)
  · obtain ⟨i, v, rfl, _⟩ := h
    rfl
  · have hr1 : Room (1 + 1) _ := hr.mono (by decide)
    refine ⟨_, (pss_cons (ps_if (pt_cmpR op_eq (pv 0) pe_int (nomark _)) (pss_one (L2N.ps_raise rfl (L2N.takes_of rfl rfl rfl rfl) (by exact (Hx.pmk1 (K86.base 0 (by decide)) (T.xc 0 (by decide)) (T.ic 0 (by decide)).1 (T.ic 0 (by decide)).2.1 (okI0 T F0) hr1 (bI0 F0) pass0 rfl (T.gl 0 (by decide)) (pa_cons (pv 1) pa_nil))))) pss_nil)
      (pss_cons (ps_if (pt_cmpR op_eq (pv 0) pe_int (nomark _)) (pss_one (L2N.ps_raise rfl (L2N.takes_of rfl rfl rfl rfl) (by exact (Hx.pmk1 (K86.base 1 (by decide)) (T.xc 1 (by decide)) (T.ic 1 (by decide)).1 (T.ic 1 (by decide)).2.1 (okI1 T F1) hr1 (bI1 F1) pass0 rfl (T.gl 1 (by decide)) (pa_cons (pv 1) pa_nil))))) pss_nil)
      (pss_cons (ps_if (pt_cmpR op_eq (pv 0) pe_int (nomark _)) (pss_one (L2N.ps_raise rfl (L2N.takes_of rfl rfl rfl rfl) (by exact (Hx.pmk1 (K86.base 2 (by decide)) (T.xc 2 (by decide)) (T.ic 2 (by decide)).1 (T.ic 2 (by decide)).2.1 (okI2 T F2) hr1 (bI2 F2) pass0 rfl (T.gl 2 (by decide)) (pa_cons (pv 1) pa_nil))))) pss_nil)
      (pss_cons (ps_if (pt_cmpR op_eq (pv 0) pe_int (nomark _)) (pss_one (L2N.ps_raise rfl (L2N.takes_of rfl rfl rfl rfl) (by exact (Hx.pmk1 (K86.base 3 (by decide)) (T.xc 3 (by decide)) (T.ic 3 (by decide)).1 (T.ic 3 (by decide)).2.1 (okI3 T F3) hr1 (bI3 F3) pass0 rfl (T.gl 3 (by decide)) (pa_cons (pv 1) pa_nil))))) pss_nil)
      (pss_cons (ps_if (pt_cmpR op_eq (pv 0) pe_int (nomark _)) (pss_one (L2N.ps_raise rfl (L2N.takes_of rfl rfl rfl rfl) (by exact (Hx.pmk1 (K86.base 4 (by decide)) (T.xc 4 (by decide)) (T.ic 4 (by decide)).1 (T.ic 4 (by decide)).2.1 (okI4 T F4) hr1 (bI4 F4) pass0 rfl (T.gl 4 (by decide)) (pa_cons (pv 1) pa_nil))))) pss_nil)
      (pss_cons (ps_if (pt_cmpR op_eq (pv 0) pe_int (nomark _)) (pss_one (L2N.ps_raise rfl (L2N.takes_of rfl rfl rfl rfl) (by exact (Hx.pmk1 (K86.base 5 (by decide)) (T.xc 5 (by decide)) (T.ic 5 (by decide)).1 (T.ic 5 (by decide)).2.1 (okI5 T F5) hr1 (bI5 F5) pass0 rfl (T.gl 5 (by decide)) (pa_cons (pv 1) pa_nil))))) pss_nil)
      (pss_one (ps_if (pt_cmpR op_eq (pv 0) pe_int (nomark _)) (pss_one (L2N.ps_raise rfl (L2N.takes_of rfl rfl rfl rfl) (by exact (Hx.pmk1 (K86.base 6 (by decide)) (T.xc 6 (by decide)) (T.ic 6 (by decide)).1 (T.ic 6 (by decide)).2.1 (okI6 T F6) hr1 (bI6 F6) pass0 rfl (T.gl 6 (by decide)) (pa_cons (pv 1) pa_nil))))) pss_nil)))))))), ?_⟩
    obtain ⟨i, v, rfl, hi, ho, k⟩ := h
    obtain rfl | rfl | rfl | rfl | rfl | rfl | rfl : i = 0 ∨ i = 1 ∨ i = 2 ∨ i = 3 ∨ i = 4 ∨ i = 5 ∨ i = 6 := by omega
    all_goals repeat (first
      | refine ⟨_, rfl, rfl, _, rfl, eqNo (by decide) ?_⟩
      | exact ⟨_, rfl, rfl, _, rfl, eqYes rfl ⟨_, rfl, v, rfl, ho, fun d hd => k d hd⟩⟩)
theorem scSecond : FnScope ["_law_way", "_law_one"] ["_law_way", "_law_one"] (defScope sSecond) := ⟨rfl, rfl, rfl, by decide +kernel, rfl, by decide +kernel, by decide +kernel⟩
theorem okSecond (T : Txt K mg) (c : obsK K = valK) (F : FunD K "_law_second" "_law_second" (defArgs sSecond) (defBody sSecond) (defScope sSecond) [] [] f fd) : FnOk P w K mg base (L2N.CX P w) 4 f fd ["_law_way", "_law_one"] (spSecond K) := by
  obtain ⟨fd7, F7⟩ := def_of c (d := defI 7 sI7 "NoHistory.__init__") (by simp [fn])
  obtain ⟨fd8, F8⟩ := def_of c (d := defI 8 sI8 "NoWish.__init__") (by simp [fn])
  obtain ⟨fd9, F9⟩ := def_of c (d := defI 9 sI9 "Full.__init__") (by simp [fn])
  obtain ⟨fd10, F10⟩ := def_of c (d := defI 10 sI10 "NoObject.__init__") (by simp [fn])
  obtain ⟨fd11, F11⟩ := def_of c (d := defI 11 sI11 "TooLong.__init__") (by simp [fn])
  obtain ⟨fd12, F12⟩ := def_of c (d := defI 12 sI12 "NoText.__init__") (by simp [fn])
  refine F.ok scSecond (fun vs H Q E h => ?_) (fun cdv A outer s H vs Q E hr h => ?_)
  · obtain ⟨i, v, rfl, _⟩ := h
    rfl
  · have hr1 : Room (1 + 1) _ := hr.mono (by decide)
    refine ⟨_, (pss_cons (ps_if (pt_cmpR op_eq (pv 0) pe_int (nomark _)) (pss_one (L2N.ps_raise rfl (L2N.takes_of rfl rfl rfl rfl) (by exact (Hx.pmk1 (K86.base 7 (by decide)) (T.xc 7 (by decide)) (T.ic 7 (by decide)).1 (T.ic 7 (by decide)).2.1 (okI7 T F7) hr1 (bI7 F7) pass0 rfl (T.gl 7 (by decide)) (pa_cons (pv 1) pa_nil))))) pss_nil)
      (pss_cons (ps_if (pt_cmpR op_eq (pv 0) pe_int (nomark _)) (pss_one (L2N.ps_raise rfl (L2N.takes_of rfl rfl rfl rfl) (by exact (Hx.pmk1 (K86.base 8 (by decide)) (T.xc 8 (by decide)) (T.ic 8 (by decide)).1 (T.ic 8 (by decide)).2.1 (okI8 T F8) hr1 (bI8 F8) pass0 rfl (T.gl 8 (by decide)) (pa_cons (pv 1) pa_nil))))) pss_nil)
      (pss_cons (ps_if (pt_cmpR op_eq (pv 0) pe_int (nomark _)) (pss_one (L2N.ps_raise rfl (L2N.takes_of rfl rfl rfl rfl) (by exact (Hx.pmk1 (K86.base 9 (by decide)) (T.xc 9 (by decide)) (T.ic 9 (by decide)).1 (T.ic 9 (by decide)).2.1 (okI9 T F9) hr1 (bI9 F9) pass0 rfl (T.gl 9 (by decide)) (pa_cons (pv 1) pa_nil))))) pss_nil)
      (pss_cons (ps_if (pt_cmpR op_eq (pv 0) pe_int (nomark _)) (pss_one (L2N.ps_raise rfl (L2N.takes_of rfl rfl rfl rfl) (by exact (Hx.pmk1 (K86.base 10 (by decide)) (T.xc 10 (by decide)) (T.ic 10 (by decide)).1 (T.ic 10 (by decide)).2.1 (okI10 T F10) hr1 (bI10 F10) pass0 rfl (T.gl 10 (by decide)) (pa_cons (pv 1) pa_nil))))) pss_nil)
      (pss_cons (ps_if (pt_cmpR op_eq (pv 0) pe_int (nomark _)) (pss_one (L2N.ps_raise rfl (L2N.takes_of rfl rfl rfl rfl) (by exact (Hx.pmk1 (K86.base 11 (by decide)) (T.xc 11 (by decide)) (T.ic 11 (by decide)).1 (T.ic 11 (by decide)).2.1 (okI11 T F11) hr1 (bI11 F11) pass0 rfl (T.gl 11 (by decide)) (pa_cons (pv 1) pa_nil))))) pss_nil)
      (pss_one (ps_if (pt_cmpR op_eq (pv 0) pe_int (nomark _)) (pss_one (L2N.ps_raise rfl (L2N.takes_of rfl rfl rfl rfl) (by exact (Hx.pmk1 (K86.base 12 (by decide)) (T.xc 12 (by decide)) (T.ic 12 (by decide)).1 (T.ic 12 (by decide)).2.1 (okI12 T F12) hr1 (bI12 F12) pass0 rfl (T.gl 12 (by decide)) (pa_cons (pv 1) pa_nil))))) pss_nil))))))), ?_⟩
    obtain ⟨i, v, rfl, hj, hi, ho, k⟩ := h
    obtain rfl | rfl | rfl | rfl | rfl | rfl : i = 7 ∨ i = 8 ∨ i = 9 ∨ i = 10 ∨ i = 11 ∨ i = 12 := by omega
    all_goals repeat (first
      | refine ⟨_, rfl, rfl, _, rfl, eqNo (by decide) ?_⟩
      | exact ⟨_, rfl, rfl, _, rfl, eqYes rfl ⟨_, rfl, v, rfl, ho, fun d hd => k d hd⟩⟩)
theorem scBare : FnScope ["_law_way"] ["_law_way"] (defScope sBare) := ⟨rfl, rfl, rfl, by decide +kernel, rfl, by decide +kernel, by decide +kernel⟩
theorem okBare (T : Txt K mg) (F : FunD K "_law_bare" "_law_bare" (defArgs sBare) (defBody sBare) (defScope sBare) [] [] f fd) : FnOk P w K mg base (L2N.CX P w) 4 f fd ["_law_way"] (spBare K) := by
  refine F.ok scBare (fun vs H Q E h => ?_) (fun cdv A outer s H vs Q E hr h => ?_)
  · obtain ⟨i, rfl, _⟩ := h
    rfl
  · refine ⟨_, (pss_cons (ps_if (pt_cmpR op_eq (pv 0) pe_int (nomark _)) (pss_one (L2N.ps_raise rfl (L2N.takes_of rfl rfl rfl rfl) (by exact (Hx.pmk0 (baseX 0 (by decide)) (T.br 0 (by decide)) (T.gl 13 (by decide)) (T.kp 13 (by decide)) (raises_own (T.ex 13 (by decide)).hs (T.ty 13 (by decide))) rfl)))) pss_nil)
      (pss_cons (ps_if (pt_cmpR op_eq (pv 0) pe_int (nomark _)) (pss_one (L2N.ps_raise rfl (L2N.takes_of rfl rfl rfl rfl) (by exact (Hx.pmk0 (baseX 1 (by decide)) (T.br 1 (by decide)) (T.gl 14 (by decide)) (T.kp 14 (by decide)) (raises_own (T.ex 14 (by decide)).hs (T.ty 14 (by decide))) rfl)))) pss_nil)
      (pss_cons (ps_if (pt_cmpR op_eq (pv 0) pe_int (nomark _)) (pss_one (L2N.ps_raise rfl (L2N.takes_of rfl rfl rfl rfl) (by exact (Hx.pmk0 (baseX 2 (by decide)) (T.br 2 (by decide)) (T.gl 15 (by decide)) (T.kp 15 (by decide)) (raises_own (T.ex 15 (by decide)).hs (T.ty 15 (by decide))) rfl)))) pss_nil)
      (pss_cons (ps_if (pt_cmpR op_eq (pv 0) pe_int (nomark _)) (pss_one (L2N.ps_raise rfl (L2N.takes_of rfl rfl rfl rfl) (by exact (Hx.pmk0 (baseX 3 (by decide)) (T.br 3 (by decide)) (T.gl 16 (by decide)) (T.kp 16 (by decide)) (raises_own (T.ex 16 (by decide)).hs (T.ty 16 (by decide))) rfl)))) pss_nil)
      (pss_cons (ps_if (pt_cmpR op_eq (pv 0) pe_int (nomark _)) (pss_one (L2N.ps_raise rfl (L2N.takes_of rfl rfl rfl rfl) (by exact (Hx.pmk0 (baseX 4 (by decide)) (T.br 4 (by decide)) (T.gl 17 (by decide)) (T.kp 17 (by decide)) (raises_own (T.ex 17 (by decide)).hs (T.ty 17 (by decide))) rfl)))) pss_nil)
      (pss_one (ps_if (pt_cmpR op_eq (pv 0) pe_int (nomark _)) (pss_one (L2N.ps_raise rfl (L2N.takes_of rfl rfl rfl rfl) (by exact (Hx.pmk0 (baseX 5 (by decide)) (T.br 5 (by decide)) (T.gl 18 (by decide)) (T.kp 18 (by decide)) (raises_own (T.ex 18 (by decide)).hs (T.ty 18 (by decide))) rfl)))) pss_nil))))))), ?_⟩
    obtain ⟨i, rfl, hj, hi, k⟩ := h
    obtain rfl | rfl | rfl | rfl | rfl | rfl : i = 13 ∨ i = 14 ∨ i = 15 ∨ i = 16 ∨ i = 17 ∨ i = 18 := by omega
    all_goals repeat (first
      | refine ⟨_, rfl, rfl, _, rfl, eqNo (by decide) ?_⟩
      | exact ⟨_, rfl, rfl, _, rfl, eqYes rfl k⟩)
theorem scRaised : FnScope ["_law_way", "_law_one"] ["_law_way", "_law_one"] (defScope sRaised) := ⟨rfl, rfl, rfl, by decide +kernel, rfl, by decide +kernel, by decide +kernel⟩
theorem okRaised (T : Txt K mg) (c : obsK K = valK) (F : FunD K "_law_raised" "_law_raised" (defArgs sRaised) (defBody sRaised) (defScope sRaised) [] [] f fd) : FnOk P w K mg base (L2N.CX P w) 6 f fd ["_law_way", "_law_one"] (spRaised K) := by
  obtain ⟨f1, F1⟩ := def_of c (d := defL "_law_first" sFirst) (by simp [fn])
  obtain ⟨f2, F2⟩ := def_of c (d := defL "_law_second" sSecond) (by simp [fn])
  obtain ⟨f3, F3⟩ := def_of c (d := defL "_law_bare" sBare) (by simp [fn])
  have b1 : Binds K f1 ["_law_way", "_law_one"] [] := F1.bindsN fun _ _ _ _ _ _ us hl => match us, hl with | [_, _], _ => rfl
  have b2 : Binds K f2 ["_law_way", "_law_one"] [] := F2.bindsN fun _ _ _ _ _ _ us hl => match us, hl with | [_, _], _ => rfl
  have b3 : Binds K f3 ["_law_way"] [] := F3.bindsN fun _ _ _ _ _ _ us hl => match us, hl with | [_], _ => rfl
  refine F.ok scRaised (fun vs H Q E h => ?_) (fun cdv A outer s H vs Q E hr h => ?_)
  · obtain ⟨i, v, rfl, _⟩ := h
    rfl
  · have hr1 : Room 4 _ := hr.mono (by decide)
    refine ⟨_, pss_cons (ps_if (pt_cmpR op_lt (pv 0) pe_int (nomark _)) (pss_one (ps_expr (pe_call (E := E) (okFirst T c F1) hr1 rfl (T.gf "_law_first" (by decide +kernel)) F1.kp b1 .nil (L2N.passes_call (L2N.takes_of rfl rfl rfl rfl) fun _ _ _ _ z => z) (pa_cons (pv 0) (pa_cons (pv 1) pa_nil))))) pss_nil)
      (pss_cons (ps_if (pt_cmpR op_lt (pv 0) pe_int (nomark _)) (pss_one (ps_expr (pe_call (E := E) (okSecond T c F2) hr1 rfl (T.gf "_law_second" (by decide +kernel)) F2.kp b2 .nil (L2N.passes_call (L2N.takes_of rfl rfl rfl rfl) fun _ _ _ _ z => z) (pa_cons (pv 0) (pa_cons (pv 1) pa_nil))))) pss_nil)
      (pss_one (ps_expr (pe_call (E := E) (okBare T F3) hr1 rfl (T.gf "_law_bare" (by decide +kernel)) F3.kp b3 .nil (L2N.passes_call (L2N.takes_of rfl rfl rfl rfl) fun _ _ _ _ z => z) (pa_cons (pv 0) pa_nil))))), ?_⟩
    obtain ⟨i, v, rfl, hi, k1, k2⟩ := h
    refine ⟨_, rfl, _, _, rfl, rfl, _, rfl, ?_⟩
    by_cases h7 : i < 7
    · refine cY (decide_eq_true (by omega)) ?_
      exact ⟨_, rfl, _, rfl, i, v, rfl, h7, (k1 (by omega)).1, (k1 (by omega)).2⟩
    · refine cN (decide_eq_false (by omega)) ?_
      refine ⟨_, rfl, _, _, rfl, rfl, _, rfl, ?_⟩
      by_cases h13 : i < 13
      · refine cY (decide_eq_true (by omega)) ?_
        exact ⟨_, rfl, _, rfl, i, v, rfl, by omega, h13, (k1 h13).1, (k1 h13).2⟩
      · refine cN (decide_eq_false (by omega)) ?_
        exact ⟨_, rfl, i, rfl, by omega, hi, k2 (by omega)⟩
end
end K86

set_option Elab.async false
set_option linter.all false
set_option maxRecDepth 100000
set_option maxHeartbeats 4000000
/-! k86: the two defs that look at the exception. -/
namespace Hx
open PySem PySem.Spec L2 PyProof.Rows
theorem PE.imp {X : Cx} {e : Expr} {t t' : TE} (h : PE X e t) (k : ∀ σ H Q, t' σ H Q → t σ H Q) : PE X e t' := ⟨fun pins s σ H Q I q => h.run pins s σ H Q I (k σ H Q q)⟩
theorem same_upd {H H1 : Hp} {p : Addr} {o : HO} (s : Same H H1) (hp : H1 p = none) : Same H (upd H1 p o) := fun b u e => by
  rw [upd_ne (ne_of_none (s b u e) hp)]
  exact s b u e
theorem PinX.same {p : Addr × Obj} {D : Addr} {H H' : Hp} (h : PinX p D H) (s : Same H H') : PinX p D H' := ⟨h.1, h.2.1, h.2.2.imp id fun ⟨dd, fs, e1, e2⟩ => ⟨dd, fs, e1, s _ _ e2⟩⟩
/-- e.f of the pinned exception, whatever its class -/
def tXfE (K : PySem.W.Frag) (a : Addr) (cls : Value) (d : Option Addr) (f : Str) (te : TE) : TE := fun σ H Q => te σ H fun x H1 => x = .ref a ∧ ∃ (C dd : Addr) (fs : List (Str × V)) (v : V), cls = .ref C ∧ XfC K C ∧ PySem.W.findIn K (.ref C) f = some none ∧ d = some dd ∧ H1 dd = some (.xd fs) ∧ fs.lookup f = some v ∧ Q v H1
theorem pe_xfE {X : Cx} {a : Addr} {oe : Obj} {cls : Value} {d : Option Addr} {pn : List (Addr × Obj)} {e : Expr} {te : TE} {pos : Pos} {n : Str}
    (hz : L2N.Zn cls d oe) (hf : ∃ vs, oe.data = .fields vs) (he : PE (X.suite a ((a, oe) :: pn)) e te) (hb : attributeBase e n X.env (eval e X.env) = eval e X.env := by rfl) :
    PE (X.suite a ((a, oe) :: pn)) (.Attribute e n pos) (tXfE X.K a cls d n te) := by
  refine ⟨fun pins s σ H Q I h => ?_⟩
  refine attr_of hb (thn (he.run pins s σ H _ I h) fun u s1 hh => ?_)
  obtain ⟨x, H1, I1, rx, ex, C, dd, fs, v, ec, T, hno, ed, ea, l, q⟩ := hh
  subst ex
  obtain rfl : u = Value.ref a := rx
  subst ec
  subst ed
  obtain ⟨ha, _⟩ := I1.pin (a, oe) (List.mem_append_left _ List.mem_cons_self)
  obtain ⟨vs, hd⟩ := hf
  have hx : ObjOk X.prog X.w H1 s1.heap dd (.xd fs) := I1.hok dd _ ea
  obtain ⟨mA, hns, hr⟩ := hx
  obtain ⟨od, ho, hl⟩ := lookIn_ns hns
  obtain ⟨u, hu, ru⟩ := RelO.some_of (v := v) (o := mA n) (by rw [← l]; exact hr n)
  have J : PySem.W.InstAt s1.heap a oe C (some od) := ⟨ha, hz.1, by unfold PySem.W.notCls; rw [hd] <;> rfl, by rw [hz.2.1]; exact ho⟩
  exact HandSPX.exc_get I1.kIn J T.ga T.gg T.exC (PySem.W.findObj_own T.hdC hno rfl (by rw [hl, hu])) (handed_of ru) ⟨v, H1, I1.tok _, ru, q⟩
end Hx
namespace K86
open PySem PySem.Spec L2 PyProof.Rows
open L2H (RoomH Hot1)
/-- what is told of an exception in hand: its class is the i-th -/
def inHand (K : PySem.W.Frag) (p : Addr × Obj) (i : Nat) (H : Hp) : Prop := i < 19 ∧ Hx.PinX p (cl K i) H
def spOwn (K : PySem.W.Frag) (p : Addr × Obj) : Sp := fun vs H Q _ => ∃ i, vs = [.ref p.1] ∧ inHand K p i H ∧ ∀ H' q, Same H H' → H q = none → H' q = some (.lst [.int i]) → Q (.ref q) H'
def aboves : List String := ["ValueError", "TypeError", "ArithmeticError", "OverflowError", "RuntimeError", "LookupError", "KeyError", "IndexError"]
def isT (i : Nat) (T : String) : Bool := (row i).bm.contains (.type T)
def repT (i : Nat) (T : String) : List V := (List.replicate (if isT i T then (1 : Int) else 0).toNat [V.str T]).flatten
def aboveV (i : Nat) : List V := repT i "ValueError" ++ repT i "TypeError" ++ repT i "ArithmeticError" ++ repT i "OverflowError" ++ repT i "RuntimeError" ++ repT i "LookupError" ++ repT i "KeyError" ++ repT i "IndexError"
def spAbove (K : PySem.W.Frag) (p : Addr × Obj) : Sp := fun vs H Q _ => ∃ i, vs = [.ref p.1] ∧ inHand K p i H ∧ ∀ H' q, Same H H' → H q = none → H' q = some (.lst (aboveV i)) → Q (.ref q) H'
section
variable {P : Program} {w : World} {K : PySem.W.Frag} {mg : Str → Option Value} {base : Heap} {fd : FuncData} {f : Addr} {p : Addr × Obj}
def tIs (K : PySem.W.Frag) (p : Addr × Obj) (j : Nat) : TE := tCB (Hx.rIsP K p) (tCons (tVar 0) (tCons (tC (.ref (cl K j))) tNil))
theorem isRead (T : Txt K mg) {i j : Nat} (hj : j < 19) {H : Hp} (h : inHand K p i H) {r : List (Option V)} {Q : VK} (q : Q (.bl (decide (i = j))) H) : tIs K p j (some (.ref p.1) :: r) H Q :=
  ⟨_, rfl, cl K i, _, _, _, rfl, T.ex i h.1, h.2, fun u z => z, T.kit h.1 hj, q⟩
theorem inHand.same {i : Nat} {H H' : Hp} (h : inHand K p i H) (s : Same H H') : inHand K p i H' := ⟨h.1, h.2.same s⟩
/-- the list so far and two looks more -/
theorem two_more (T : Txt K mg) {i j j' : Nat} (hj : j < 19) (hj' : j' < 19) {H : Hp} (h : inHand K p i H) {l : Addr} {xs : List V} {z : Option V} {D : Ends} (hl : H l = some (.lst xs)) (hx : xs.length ≤ 100)
    (k : ∀ H' l', Same H H' → inHand K p i H' → (∀ b, H b = some (.lst xs) → True) → H' l' = some (.lst (xs ++ [.bl (decide (i = j)), .bl (decide (i = j'))])) → H l' = none → D.nx [some (.ref p.1), some (.ref l'), z] H') :
    tAsg (tOp rCat (tVar 1) (tLst (tCons (tIs K p j) (tCons (tIs K p j') tNil)))) (gName 1) D [some (.ref p.1), some (.ref l), z] H := by
  refine ⟨_, rfl, isRead T hj h (isRead T hj' h ⟨(by show 2 ≤ sizeLine; decide), fun q hq => ⟨l, q, xs, _, rfl, rfl, ?_, upd_same, ?_, fun q2 hq2 => ?_⟩⟩)⟩
  · rw [upd_ne (ne_of_none hl hq)]
    exact hl
  · rw [sizeLine_eq]
    show xs.length + 2 ≤ 16777216
    omega
  · have s1 : Same H (upd (upd H q (.lst [V.bl (decide (i = j)), V.bl (decide (i = j'))])) q2 (.lst (xs ++ [V.bl (decide (i = j)), V.bl (decide (i = j'))]))) := Hx.same_upd (Hx.same_upd (Same.refl H) hq) hq2
    exact k _ q2 s1 (h.same s1) (fun _ _ => trivial) upd_same (Same.free (Hx.same_upd (Same.refl H) hq) hq2)
theorem one_more (T : Txt K mg) {i j : Nat} (hj : j < 19) {H : Hp} (h : inHand K p i H) {l : Addr} {xs : List V} {z : Option V} {D : Ends} (hl : H l = some (.lst xs)) (hx : xs.length ≤ 100)
    (k : ∀ H' l', Same H H' → inHand K p i H' → H' l' = some (.lst (xs ++ [.bl (decide (i = j))])) → H l' = none → D.nx [some (.ref p.1), some (.ref l'), z] H') :
    tAsg (tOp rCat (tVar 1) (tLst (tCons (tIs K p j) tNil))) (gName 1) D [some (.ref p.1), some (.ref l), z] H := by
  refine ⟨_, rfl, isRead T hj h ⟨(by show 1 ≤ sizeLine; decide), fun q hq => ⟨l, q, xs, _, rfl, rfl, ?_, upd_same, ?_, fun q2 hq2 => ?_⟩⟩⟩
  · rw [upd_ne (ne_of_none hl hq)]
    exact hl
  · rw [sizeLine_eq]
    show xs.length + 1 ≤ 16777216
    omega
  · have s1 : Same H (upd (upd H q (.lst [V.bl (decide (i = j))])) q2 (.lst (xs ++ [V.bl (decide (i = j))]))) := Hx.same_upd (Hx.same_upd (Same.refl H) hq) hq2
    exact k _ q2 s1 (h.same s1) upd_same (Same.free (Hx.same_upd (Same.refl H) hq) hq2)
def foundL (i : Nat) : List V := (List.range 19).map fun j => V.bl (decide (i = j))
theorem found_at {i k : Nat} (h : k < 19) : (foundL i)[k]? = some (V.bl (decide (i = k))) := by
  unfold foundL
  rw [List.getElem?_map, List.getElem?_range h]
  rfl
/-- the comprehension's own reading -/
theorem comp_own {i : Nat} (hi : i < 19) {H : Hp} {l : Addr} {e : Option V} (hl : H l = some (.lst (foundL i))) {Q : VK} (k : ∀ H' q, Same H H' → H q = none → H' q = some (.lst [.int i]) → Q (.ref q) H') :
    Hx.tLcH 19 (gName 2) (tB (tOp (rIxL K) (tVar 1) (tVar 2))) (tVar 2) [2] [e, some (.ref l), none] H Q := by
  intro D hD
  refine ⟨fun n H' => Same H H' ∧ H' D = some (.lst (if i < n then [V.int i] else [])), ⟨Hx.same_upd (Same.refl H) hD, ?_⟩, fun H' ⟨s, hd⟩ => ?_, fun n H' hn ⟨s, hd⟩ => ?_⟩
  · rw [upd_same, if_neg (Nat.not_lt_zero _)]
  · rw [if_pos hi] at hd
    exact k H' D s hD hd
  · refine ⟨rfl, _, rfl, _, rfl, l, _, _, _, rfl, rfl, SqL.of (s _ _ hl), ?_, decide (i = n), rfl, ?_⟩
    · rw [Int.zero_add]
      exact atI_nat (found_at hn)
    · by_cases e : i = n
      · refine cY (decide_eq_true e) ⟨_, rfl, _, hd, ?_, ?_⟩
        · rw [if_neg (by omega)]
          decide
        · refine ⟨fun b o q => ?_, ?_⟩
          · rw [upd_ne (ne_of_none q hD)]
            exact s b o q
          · rw [upd_same, if_neg (by omega), if_pos (by omega), e, Int.zero_add]
            rfl
      · refine cN (decide_eq_false e) ⟨s, ?_⟩
        rw [hd]
        by_cases q : i < n
        · rw [if_pos q, if_pos (by omega)]
        · rw [if_neg q, if_neg (by omega)]
theorem pe_lcN {X : Cx} {p0 : Addr × Obj} {elt tg : Expr} {ifs : List Expr} {scope : Scope} {own : List (Str × Nat)} {pos p pr : Pos} {j n : Nat} {m : Int} {g : TG} {tt : TT} {te : TE} {pos2 : Pos} (hm : m = (n : Int)) (hot : Hot1 X.A p0) (hp0 : p0 ∈ X.pn) (hN : X.N.Nodup) (hgr : Gl X "range") (hmr : X.mg "range" = none) (hn : n < 1000) (ok : BlkOk X.N X.env.scope scope own)
    (hg : ∀ (s : Shared) (H : Hp) (C : Addr) (cl : List (Str × Addr)) (fp : List Addr), PG (X.blk s H scope (compEnvC scope cl C X.env) fp) tg g)
    (ht : ∀ (s : Shared) (H : Hp) (C : Addr) (cl : List (Str × Addr)) (fp : List Addr), PTs (X.blk s H scope (compEnvC scope cl C X.env) fp) ifs tt)
    (he : ∀ (s : Shared) (H : Hp) (C : Addr) (cl : List (Str × Addr)) (fp : List Addr), PE (X.blk s H scope (compEnvC scope cl C X.env) fp) elt te)
    (hs : ∀ x, foldedSetIterable (.Call (.Name "range" p) [.Constant (.int m) j pr] [] pos) X.env x = pure x := by intro _; rfl) :
    PE X (.ListComp elt [⟨tg, .Call (.Name "range" p) [.Constant (.int m) j pr] [] pos, ifs, 0⟩] scope pos2) (Hx.tLcH n g tt te (own.map (·.2))) := by
  subst hm
  exact Hx.pe_lcH hot hp0 hN hgr hmr hn ok hg ht he hs
theorem scOwn : FnScope ["_law_e", "_law_found", "_law_k"] ["_law_e"] (defScope sOwn) := ⟨rfl, rfl, rfl, by decide +kernel, rfl, by decide +kernel, by decide +kernel⟩
theorem okOwn (T : Txt K mg) (F : FunD K "_law_own" "_law_own" (defArgs sOwn) (defBody sOwn) (defScope sOwn) [] [] f fd) : Hx.FnP P w K mg base CX0 1 f fd ["_law_e"] (spOwn K) := by
  refine Hx.okP F scOwn (fun p vs H Q E h => ?_) (fun cdv A outer s H vs Q E p hot hr h => ?_)
  · obtain ⟨i, rfl, _⟩ := h
    rfl
  · have hot2 : Hot1 (A.deeper (envOfC "_law_own" (defScope sOwn) s.heap.objs.size f cdv)) p := hot
    refine ⟨_, (pss_cons (ps_set (i := 1) scOwn.nd rfl (Or.inr rfl) (pe_lst (pa_cons (pe_callB (Hx.call_isP (p := p) (List.mem_cons_self ..)) rfl (T.fr "isinstance" (by decide +kernel)) (by decide +kernel) (pa_cons (pv 0) (pa_cons (pe_glob (v := .ref (cl K 0)) rfl (T.gl 0 (by decide)) rfl) pa_nil))) (pa_cons (pe_callB (Hx.call_isP (p := p) (List.mem_cons_self ..)) rfl (T.fr "isinstance" (by decide +kernel)) (by decide +kernel) (pa_cons (pv 0) (pa_cons (pe_glob (v := .ref (cl K 1)) rfl (T.gl 1 (by decide)) rfl) pa_nil))) pa_nil))))
      (pss_cons (ps_set (i := 1) scOwn.nd rfl (Or.inr rfl) (pe_op op_cat (pv 1) (pe_lst (pa_cons (pe_callB (Hx.call_isP (p := p) (List.mem_cons_self ..)) rfl (T.fr "isinstance" (by decide +kernel)) (by decide +kernel) (pa_cons (pv 0) (pa_cons (pe_glob (v := .ref (cl K 2)) rfl (T.gl 2 (by decide)) rfl) pa_nil))) (pa_cons (pe_callB (Hx.call_isP (p := p) (List.mem_cons_self ..)) rfl (T.fr "isinstance" (by decide +kernel)) (by decide +kernel) (pa_cons (pv 0) (pa_cons (pe_glob (v := .ref (cl K 3)) rfl (T.gl 3 (by decide)) rfl) pa_nil))) pa_nil)))))
      (pss_cons (ps_set (i := 1) scOwn.nd rfl (Or.inr rfl) (pe_op op_cat (pv 1) (pe_lst (pa_cons (pe_callB (Hx.call_isP (p := p) (List.mem_cons_self ..)) rfl (T.fr "isinstance" (by decide +kernel)) (by decide +kernel) (pa_cons (pv 0) (pa_cons (pe_glob (v := .ref (cl K 4)) rfl (T.gl 4 (by decide)) rfl) pa_nil))) (pa_cons (pe_callB (Hx.call_isP (p := p) (List.mem_cons_self ..)) rfl (T.fr "isinstance" (by decide +kernel)) (by decide +kernel) (pa_cons (pv 0) (pa_cons (pe_glob (v := .ref (cl K 5)) rfl (T.gl 5 (by decide)) rfl) pa_nil))) pa_nil)))))
      (pss_cons (ps_set (i := 1) scOwn.nd rfl (Or.inr rfl) (pe_op op_cat (pv 1) (pe_lst (pa_cons (pe_callB (Hx.call_isP (p := p) (List.mem_cons_self ..)) rfl (T.fr "isinstance" (by decide +kernel)) (by decide +kernel) (pa_cons (pv 0) (pa_cons (pe_glob (v := .ref (cl K 6)) rfl (T.gl 6 (by decide)) rfl) pa_nil))) (pa_cons (pe_callB (Hx.call_isP (p := p) (List.mem_cons_self ..)) rfl (T.fr "isinstance" (by decide +kernel)) (by decide +kernel) (pa_cons (pv 0) (pa_cons (pe_glob (v := .ref (cl K 7)) rfl (T.gl 7 (by decide)) rfl) pa_nil))) pa_nil)))))
      (pss_cons (ps_set (i := 1) scOwn.nd rfl (Or.inr rfl) (pe_op op_cat (pv 1) (pe_lst (pa_cons (pe_callB (Hx.call_isP (p := p) (List.mem_cons_self ..)) rfl (T.fr "isinstance" (by decide +kernel)) (by decide +kernel) (pa_cons (pv 0) (pa_cons (pe_glob (v := .ref (cl K 8)) rfl (T.gl 8 (by decide)) rfl) pa_nil))) (pa_cons (pe_callB (Hx.call_isP (p := p) (List.mem_cons_self ..)) rfl (T.fr "isinstance" (by decide +kernel)) (by decide +kernel) (pa_cons (pv 0) (pa_cons (pe_glob (v := .ref (cl K 9)) rfl (T.gl 9 (by decide)) rfl) pa_nil))) pa_nil)))))
      (pss_cons (ps_set (i := 1) scOwn.nd rfl (Or.inr rfl) (pe_op op_cat (pv 1) (pe_lst (pa_cons (pe_callB (Hx.call_isP (p := p) (List.mem_cons_self ..)) rfl (T.fr "isinstance" (by decide +kernel)) (by decide +kernel) (pa_cons (pv 0) (pa_cons (pe_glob (v := .ref (cl K 10)) rfl (T.gl 10 (by decide)) rfl) pa_nil))) (pa_cons (pe_callB (Hx.call_isP (p := p) (List.mem_cons_self ..)) rfl (T.fr "isinstance" (by decide +kernel)) (by decide +kernel) (pa_cons (pv 0) (pa_cons (pe_glob (v := .ref (cl K 11)) rfl (T.gl 11 (by decide)) rfl) pa_nil))) pa_nil)))))
      (pss_cons (ps_set (i := 1) scOwn.nd rfl (Or.inr rfl) (pe_op op_cat (pv 1) (pe_lst (pa_cons (pe_callB (Hx.call_isP (p := p) (List.mem_cons_self ..)) rfl (T.fr "isinstance" (by decide +kernel)) (by decide +kernel) (pa_cons (pv 0) (pa_cons (pe_glob (v := .ref (cl K 12)) rfl (T.gl 12 (by decide)) rfl) pa_nil))) (pa_cons (pe_callB (Hx.call_isP (p := p) (List.mem_cons_self ..)) rfl (T.fr "isinstance" (by decide +kernel)) (by decide +kernel) (pa_cons (pv 0) (pa_cons (pe_glob (v := .ref (cl K 13)) rfl (T.gl 13 (by decide)) rfl) pa_nil))) pa_nil)))))
      (pss_cons (ps_set (i := 1) scOwn.nd rfl (Or.inr rfl) (pe_op op_cat (pv 1) (pe_lst (pa_cons (pe_callB (Hx.call_isP (p := p) (List.mem_cons_self ..)) rfl (T.fr "isinstance" (by decide +kernel)) (by decide +kernel) (pa_cons (pv 0) (pa_cons (pe_glob (v := .ref (cl K 14)) rfl (T.gl 14 (by decide)) rfl) pa_nil))) (pa_cons (pe_callB (Hx.call_isP (p := p) (List.mem_cons_self ..)) rfl (T.fr "isinstance" (by decide +kernel)) (by decide +kernel) (pa_cons (pv 0) (pa_cons (pe_glob (v := .ref (cl K 15)) rfl (T.gl 15 (by decide)) rfl) pa_nil))) pa_nil)))))
      (pss_cons (ps_set (i := 1) scOwn.nd rfl (Or.inr rfl) (pe_op op_cat (pv 1) (pe_lst (pa_cons (pe_callB (Hx.call_isP (p := p) (List.mem_cons_self ..)) rfl (T.fr "isinstance" (by decide +kernel)) (by decide +kernel) (pa_cons (pv 0) (pa_cons (pe_glob (v := .ref (cl K 16)) rfl (T.gl 16 (by decide)) rfl) pa_nil))) (pa_cons (pe_callB (Hx.call_isP (p := p) (List.mem_cons_self ..)) rfl (T.fr "isinstance" (by decide +kernel)) (by decide +kernel) (pa_cons (pv 0) (pa_cons (pe_glob (v := .ref (cl K 17)) rfl (T.gl 17 (by decide)) rfl) pa_nil))) pa_nil)))))
      (pss_cons (ps_set (i := 1) scOwn.nd rfl (Or.inr rfl) (pe_op op_cat (pv 1) (pe_lst (pa_cons (pe_callB (Hx.call_isP (p := p) (List.mem_cons_self ..)) rfl (T.fr "isinstance" (by decide +kernel)) (by decide +kernel) (pa_cons (pv 0) (pa_cons (pe_glob (v := .ref (cl K 18)) rfl (T.gl 18 (by decide)) rfl) pa_nil))) pa_nil))))
      (pss_one (ps_ret (pe_lcN (own := [("_law_k", 2)]) (g := gName 2) (tt := tB (tOp (rIxL K) (tVar 1) (tVar 2))) (te := tVar 2) (n := 19) rfl hot2 (List.mem_cons_self ..) scOwn.nd rfl (T.fr "range" (by decide +kernel)) (by decide) (blkOk_by (own := [("_law_k", 2)]) (N := ["_law_e", "_law_found", "_law_k"]) (sc := defScope sOwn) (by decide +kernel)) (fun _ _ _ _ _ => pg_name (i := 2) scOwn.nd rfl (Or.inl rfl)) (fun _ _ _ _ _ => pts_one (pt_val (pe_ix ix_list (pv 1) (pv 2) (fun _ _ => rfl)))) (fun _ _ _ _ _ => pv 2)))))))))))))), ?_⟩
    obtain ⟨i, rfl, hh, k⟩ := h
    refine isRead T (by decide) hh (isRead T (by decide) hh ⟨(by show 2 ≤ sizeLine; decide), fun q hq => ?_⟩)
    have s0 : Same H (upd H q (.lst [V.bl (decide (i = 0)), V.bl (decide (i = 1))])) := Hx.same_upd (Same.refl H) hq
    refine two_more T (by decide) (by decide) (hh.same s0) upd_same (by simp) fun H1 l1 s1 h1 _ e1 n1 => ?_
    refine two_more T (by decide) (by decide) h1 e1 (by simp) fun H2 l2 s2 h2 _ e2 n2 => ?_
    refine two_more T (by decide) (by decide) h2 e2 (by simp) fun H3 l3 s3 h3 _ e3 n3 => ?_
    refine two_more T (by decide) (by decide) h3 e3 (by simp) fun H4 l4 s4 h4 _ e4 n4 => ?_
    refine two_more T (by decide) (by decide) h4 e4 (by simp) fun H5 l5 s5 h5 _ e5 n5 => ?_
    refine two_more T (by decide) (by decide) h5 e5 (by simp) fun H6 l6 s6 h6 _ e6 n6 => ?_
    refine two_more T (by decide) (by decide) h6 e6 (by simp) fun H7 l7 s7 h7 _ e7 n7 => ?_
    refine two_more T (by decide) (by decide) h7 e7 (by simp) fun H8 l8 s8 h8 _ e8 n8 => ?_
    refine one_more T (by decide) h8 e8 (by simp) fun H9 l9 s9 h9 e9 n9 => ?_
    have sm : Same H H9 := s0.trans (s1.trans (s2.trans (s3.trans (s4.trans (s5.trans (s6.trans (s7.trans (s8.trans s9))))))))
    exact comp_own (K := K) hh.1 e9 fun H' q' sq nq eq => k H' q' (sm.trans sq) (sm.free nq) eq
abbrev rInt : List V → Hp → VK → Prop := fun xs H Q => (∃ i, xs = [.int i] ∧ Q (.int i) H) ∨ ∃ k, xs = [.bl k] ∧ Q (.int (if k then 1 else 0)) H
def tRp (K : PySem.W.Frag) (p : Addr × Obj) (S : Str) (T : String) : TE := tOp rRep (tLst (tCons (tC (.str S)) tNil)) (tCB rInt (tCons (tCB (Hx.rIsP K p) (tCons (tVar 0) (tCons (tC (.ty T)) tNil))) tNil))
theorem repT_len (i : Nat) (T : String) : (repT i T).length ≤ 1 := by
  unfold repT
  cases isT i T <;> simp
theorem repRead (T : Txt K mg) {i : Nat} {H : Hp} (h : inHand K p i H) {B : String} (hm : PySem.W.kitMeta B = true) {r : List (Option V)} {Q : VK} (k : ∀ H' q, Same H H' → H q = none → H' q = some (.lst (repT i B)) → Q (.ref q) H') :
    tRp K p (B : Str) B (some (.ref p.1) :: r) H Q := by
  refine ⟨(by show 1 ≤ sizeLine; decide), fun q hq => ⟨_, rfl, cl K i, _, _, _, rfl, T.ex i h.1, h.2.same (Hx.same_upd (Same.refl H) hq), fun u z => z, T.kitT h.1 hm, .inr ⟨_, rfl, q, _, _, rfl, rfl, upd_same, ?_, ?_, ?_, fun q2 hq2 => ?_⟩⟩⟩
  · split <;> decide
  · split <;> decide
  · show 1 * _ ≤ sizeLine
    rw [sizeLine_eq]
    split <;> decide
  · exact k _ q2 (Hx.same_upd (Hx.same_upd (Same.refl H) hq) hq2) (Same.free (Hx.same_upd (Same.refl H) hq) hq2) upd_same
/-- found + [T] * int(isinstance(e, T)) -/
theorem cat_more (T : Txt K mg) {i : Nat} {H : Hp} (h : inHand K p i H) {B : String} (hm : PySem.W.kitMeta B = true) {l : Addr} {xs : List V} (hl : H l = some (.lst xs)) (hx : xs.length ≤ 100) {Q : VK}
    (k : ∀ H' q, Same H H' → inHand K p i H' → H q = none → H' q = some (.lst (xs ++ repT i B)) → Q (.ref q) H') : tOp rCat (tVar 1) (tRp K p (B : Str) B) [some (.ref p.1), some (.ref l)] H Q := by
  refine ⟨_, rfl, repRead T h hm fun H1 q s1 n1 e1 => ⟨l, q, xs, _, rfl, rfl, s1 _ _ hl, e1, ?_, fun q2 hq2 => ?_⟩⟩
  · have := repT_len i B
    rw [sizeLine_eq]
    omega
  · have s2 := Hx.same_upd (o := .lst (xs ++ repT i B)) s1 hq2
    exact k _ q2 s2 (h.same s2) (s1.free hq2) upd_same
theorem scAbove : FnScope ["_law_e", "_law_found"] ["_law_e"] (defScope sAbove) := ⟨rfl, rfl, rfl, by decide +kernel, rfl, by decide +kernel, by decide +kernel⟩
theorem okAbove (T : Txt K mg) (F : FunD K "_law_above" "_law_above" (defArgs sAbove) (defBody sAbove) (defScope sAbove) [] [] f fd) : Hx.FnP P w K mg base CX0 1 f fd ["_law_e"] (spAbove K) := by
  refine Hx.okP F scAbove (fun p vs H Q E h => ?_) (fun cdv A outer s H vs Q E p hot hr h => ?_)
  · obtain ⟨i, rfl, _⟩ := h
    rfl
  · refine ⟨_, (pss_cons (ps_set (i := 1) scAbove.nd rfl (Or.inl rfl) (pe_op op_rep (pe_lst (pa_cons pe_str pa_nil)) (pe_callTy call_int1 rfl (T.fr "int" (by decide +kernel)) (by decide +kernel) (pa_cons (pe_callB (Hx.call_isP (p := p) (List.mem_cons_self ..)) rfl (T.fr "isinstance" (by decide +kernel)) (by decide +kernel) (pa_cons (pv 0) (pa_cons (pe_bltn (v := .ty "ValueError") rfl (T.fr "ValueError" (by decide +kernel)) (by decide +kernel) rfl) pa_nil))) pa_nil))))
      (pss_cons (ps_set (i := 1) scAbove.nd rfl (Or.inl rfl) (pe_op op_cat (pv 1) (pe_op op_rep (pe_lst (pa_cons pe_str pa_nil)) (pe_callTy call_int1 rfl (T.fr "int" (by decide +kernel)) (by decide +kernel) (pa_cons (pe_callB (Hx.call_isP (p := p) (List.mem_cons_self ..)) rfl (T.fr "isinstance" (by decide +kernel)) (by decide +kernel) (pa_cons (pv 0) (pa_cons (pe_bltn (v := .ty "TypeError") rfl (T.fr "TypeError" (by decide +kernel)) (by decide +kernel) rfl) pa_nil))) pa_nil)))))
      (pss_cons (ps_set (i := 1) scAbove.nd rfl (Or.inl rfl) (pe_op op_cat (pv 1) (pe_op op_rep (pe_lst (pa_cons pe_str pa_nil)) (pe_callTy call_int1 rfl (T.fr "int" (by decide +kernel)) (by decide +kernel) (pa_cons (pe_callB (Hx.call_isP (p := p) (List.mem_cons_self ..)) rfl (T.fr "isinstance" (by decide +kernel)) (by decide +kernel) (pa_cons (pv 0) (pa_cons (pe_bltn (v := .ty "ArithmeticError") rfl (T.fr "ArithmeticError" (by decide +kernel)) (by decide +kernel) rfl) pa_nil))) pa_nil)))))
      (pss_cons (ps_set (i := 1) scAbove.nd rfl (Or.inl rfl) (pe_op op_cat (pv 1) (pe_op op_rep (pe_lst (pa_cons pe_str pa_nil)) (pe_callTy call_int1 rfl (T.fr "int" (by decide +kernel)) (by decide +kernel) (pa_cons (pe_callB (Hx.call_isP (p := p) (List.mem_cons_self ..)) rfl (T.fr "isinstance" (by decide +kernel)) (by decide +kernel) (pa_cons (pv 0) (pa_cons (pe_bltn (v := .ty "OverflowError") rfl (T.fr "OverflowError" (by decide +kernel)) (by decide +kernel) rfl) pa_nil))) pa_nil)))))
      (pss_cons (ps_set (i := 1) scAbove.nd rfl (Or.inl rfl) (pe_op op_cat (pv 1) (pe_op op_rep (pe_lst (pa_cons pe_str pa_nil)) (pe_callTy call_int1 rfl (T.fr "int" (by decide +kernel)) (by decide +kernel) (pa_cons (pe_callB (Hx.call_isP (p := p) (List.mem_cons_self ..)) rfl (T.fr "isinstance" (by decide +kernel)) (by decide +kernel) (pa_cons (pv 0) (pa_cons (pe_bltn (v := .ty "RuntimeError") rfl (T.fr "RuntimeError" (by decide +kernel)) (by decide +kernel) rfl) pa_nil))) pa_nil)))))
      (pss_cons (ps_set (i := 1) scAbove.nd rfl (Or.inl rfl) (pe_op op_cat (pv 1) (pe_op op_rep (pe_lst (pa_cons pe_str pa_nil)) (pe_callTy call_int1 rfl (T.fr "int" (by decide +kernel)) (by decide +kernel) (pa_cons (pe_callB (Hx.call_isP (p := p) (List.mem_cons_self ..)) rfl (T.fr "isinstance" (by decide +kernel)) (by decide +kernel) (pa_cons (pv 0) (pa_cons (pe_bltn (v := .ty "LookupError") rfl (T.fr "LookupError" (by decide +kernel)) (by decide +kernel) rfl) pa_nil))) pa_nil)))))
      (pss_cons (ps_set (i := 1) scAbove.nd rfl (Or.inl rfl) (pe_op op_cat (pv 1) (pe_op op_rep (pe_lst (pa_cons pe_str pa_nil)) (pe_callTy call_int1 rfl (T.fr "int" (by decide +kernel)) (by decide +kernel) (pa_cons (pe_callB (Hx.call_isP (p := p) (List.mem_cons_self ..)) rfl (T.fr "isinstance" (by decide +kernel)) (by decide +kernel) (pa_cons (pv 0) (pa_cons (pe_bltn (v := .ty "KeyError") rfl (T.fr "KeyError" (by decide +kernel)) (by decide +kernel) rfl) pa_nil))) pa_nil)))))
      (pss_one (ps_ret (pe_op op_cat (pv 1) (pe_op op_rep (pe_lst (pa_cons pe_str pa_nil)) (pe_callTy call_int1 rfl (T.fr "int" (by decide +kernel)) (by decide +kernel) (pa_cons (pe_callB (Hx.call_isP (p := p) (List.mem_cons_self ..)) rfl (T.fr "isinstance" (by decide +kernel)) (by decide +kernel) (pa_cons (pv 0) (pa_cons (pe_bltn (v := .ty "IndexError") rfl (T.fr "IndexError" (by decide +kernel)) (by decide +kernel) rfl) pa_nil))) pa_nil))))))))))))), ?_⟩
    obtain ⟨i, rfl, hh, k⟩ := h
    have lr := fun B => repT_len i B
    refine repRead T hh (B := "ValueError") (by decide +kernel) fun H0 l0 s0 n0 e0 => ?_
    refine cat_more T (hh.same s0) (B := "TypeError") (by decide +kernel) e0 (by first | exact Nat.le_trans (lr _) (by decide) | (have h0 := lr "ValueError"; have h1 := lr "TypeError"; have h2 := lr "ArithmeticError"; have h3 := lr "OverflowError"; have h4 := lr "RuntimeError"; have h5 := lr "LookupError"; have h6 := lr "KeyError"; simp only [List.length_append]; omega)) fun H1 l1 s1 h1 n1 e1 => ?_
    refine cat_more T h1 (B := "ArithmeticError") (by decide +kernel) e1 (by first | exact Nat.le_trans (lr _) (by decide) | (have h0 := lr "ValueError"; have h1 := lr "TypeError"; have h2 := lr "ArithmeticError"; have h3 := lr "OverflowError"; have h4 := lr "RuntimeError"; have h5 := lr "LookupError"; have h6 := lr "KeyError"; simp only [List.length_append]; omega)) fun H2 l2 s2 h2 n2 e2 => ?_
    refine cat_more T h2 (B := "OverflowError") (by decide +kernel) e2 (by first | exact Nat.le_trans (lr _) (by decide) | (have h0 := lr "ValueError"; have h1 := lr "TypeError"; have h2 := lr "ArithmeticError"; have h3 := lr "OverflowError"; have h4 := lr "RuntimeError"; have h5 := lr "LookupError"; have h6 := lr "KeyError"; simp only [List.length_append]; omega)) fun H3 l3 s3 h3 n3 e3 => ?_
    refine cat_more T h3 (B := "RuntimeError") (by decide +kernel) e3 (by first | exact Nat.le_trans (lr _) (by decide) | (have h0 := lr "ValueError"; have h1 := lr "TypeError"; have h2 := lr "ArithmeticError"; have h3 := lr "OverflowError"; have h4 := lr "RuntimeError"; have h5 := lr "LookupError"; have h6 := lr "KeyError"; simp only [List.length_append]; omega)) fun H4 l4 s4 h4 n4 e4 => ?_
    refine cat_more T h4 (B := "LookupError") (by decide +kernel) e4 (by first | exact Nat.le_trans (lr _) (by decide) | (have h0 := lr "ValueError"; have h1 := lr "TypeError"; have h2 := lr "ArithmeticError"; have h3 := lr "OverflowError"; have h4 := lr "RuntimeError"; have h5 := lr "LookupError"; have h6 := lr "KeyError"; simp only [List.length_append]; omega)) fun H5 l5 s5 h5 n5 e5 => ?_
    refine cat_more T h5 (B := "KeyError") (by decide +kernel) e5 (by first | exact Nat.le_trans (lr _) (by decide) | (have h0 := lr "ValueError"; have h1 := lr "TypeError"; have h2 := lr "ArithmeticError"; have h3 := lr "OverflowError"; have h4 := lr "RuntimeError"; have h5 := lr "LookupError"; have h6 := lr "KeyError"; simp only [List.length_append]; omega)) fun H6 l6 s6 h6 n6 e6 => ?_
    refine cat_more T h6 (B := "IndexError") (by decide +kernel) e6 (by first | exact Nat.le_trans (lr _) (by decide) | (have h0 := lr "ValueError"; have h1 := lr "TypeError"; have h2 := lr "ArithmeticError"; have h3 := lr "OverflowError"; have h4 := lr "RuntimeError"; have h5 := lr "LookupError"; have h6 := lr "KeyError"; simp only [List.length_append]; omega)) fun H7 l7 s7 h7 n7 e7 => ?_
    have sm : Same H H6 := s0.trans (s1.trans (s2.trans (s3.trans (s4.trans (s5.trans s6)))))
    exact k H7 l7 (sm.trans s7) (sm.free n7) e7
end
end K86


set_option Elab.async false
set_option linter.all false
set_option maxRecDepth 100000
set_option maxHeartbeats 4000000
/-! k86: the def that catches. -/
namespace Hx
open PySem PySem.Spec L2 PyProof.Rows
theorem Rd.same {H H' : Hp} {a : Addr} {u : HO} (h : Rd H a u) (s : Same H H') : Rd H' a u := h.imp (fun z => s _ _ z) fun ⟨o, z⟩ => ⟨o, s _ _ z⟩
mutual
theorem Dx.same {K : PySem.W.Frag} {H H' : Hp} (s : Same H H') : ∀ {v : V} {d : PyData}, Dx K H v d → Dx K H' v d
  | _, _, .non => .non
  | _, _, .bl b => .bl b
  | _, _, .int i => .int i
  | _, _, .str x => .str x
  | _, _, .lst h a => .lst (Rd.same h s) (DxAll.same s a)
  | _, _, .tup h a => .tup (h.imp (fun z => Rd.same z s) id) (DxAll.same s a)
  | _, _, .dic h a => .dic (Rd.same h s) (DxKv.same s a)
theorem DxAll.same {K : PySem.W.Frag} {H H' : Hp} (s : Same H H') : ∀ {v : List V} {d : List PyData}, DxAll K H v d → DxAll K H' v d
  | _, _, .nil => .nil
  | _, _, .cons h t => .cons (Dx.same s h) (DxAll.same s t)
theorem DxKv.same {K : PySem.W.Frag} {H H' : Hp} (s : Same H H') : ∀ {v : List (Key × V)} {d : List (PyData × PyData)}, DxKv K H v d → DxKv K H' v d
  | _, _, .nil => .nil
  | _, _, .cons h t => .cons (Dx.same s h) (DxKv.same s t)
end
theorem takesN {X : Cx} : L2N.Takes X (fun _ _ _ _ => False) := fun _ _ ⟨_, _, _, _, _, _, _, _, _, _, _, _, _, _, _, _, z⟩ => z.elim
end Hx
namespace K86
open PySem PySem.Spec L2 PyProof.Rows
open L2H (RoomH Hot1)
/-- v shows d, and d can be shown -/
structure Shw (K : PySem.W.Frag) (H : Hp) (v : V) (d : PyData) : Prop where
  dx : Hx.Dx K H v d
  sh : d.showable = true
  ln : d.shown.length ≤ sizeLine
  dp : d.depth ≤ 60
def spTold (K : PySem.W.Frag) : Sp := fun vs H Q _ => ∃ (i : Nat) (v : V) (d : PyData), vs = [.int i, v] ∧ i < 19 ∧ (i < 13 → okv i v ∧ Shw K H v d) ∧
  ∀ H' q a1 a2, Same H H' → H q = none → H' q = some (.lst [.ref a1, .ref a2, .str (if i < 13 then d.shown else "")]) → H' a1 = some (.lst [.int i]) → H' a2 = some (.lst (aboveV i)) → Q (.ref q) H'
/-- what the suite knows of its exception -/
def handZ (K : PySem.W.Frag) (cls : Value) (d : Option Addr) (i : Nat) (H : Hp) : Prop := i < 19 ∧ cls = .ref (cl K i) ∧ (d = none ∨ ∃ dd fs, d = some dd ∧ H dd = some (.xd fs))
def tZ (K : PySem.W.Frag) (res : Nat → List V) (a : Addr) (cls : Value) (d : Option Addr) : TE := fun σ H Q => tVar 2 σ H fun x H1 => x = .ref a ∧ ∃ i, handZ K cls d i H1 ∧ ∀ H' q, Same H1 H' → H1 q = none → H' q = some (.lst (res i)) → Q (.ref q) H'
def tSui (K : PySem.W.Frag) (tm : Addr → Value → Option Addr → TE) : Hx.Ts := fun a cls d => tRet (tLst (tCons (tZ K (fun i => [.int i]) a cls d) (tCons (tZ K aboveV a cls d) (tCons (tm a cls d) tNil))))
def tFld (K : PySem.W.Frag) (f : Str) : Addr → Value → Option Addr → TE := fun a cls d => tCB (Hx.rRepr K) (tCons (Hx.tXfE K a cls d f (tVar 2)) tNil)
def tEmp : Addr → Value → Option Addr → TE := fun _ _ _ => tC (.str "")
section
variable {P : Program} {w : World} {K : PySem.W.Frag} {mg : Str → Option Value} {base : Heap} {fd : FuncData} {f : Addr}
theorem handZ.same {cls : Value} {d : Option Addr} {i : Nat} {H H' : Hp} (h : handZ K cls d i H) (s : Same H H') : handZ K cls d i H' := ⟨h.1, h.2.1, h.2.2.imp id fun ⟨dd, fs, e1, e2⟩ => ⟨dd, fs, e1, s _ _ e2⟩⟩
theorem handZ.hand {a : Addr} {oe : Obj} {cls : Value} {d : Option Addr} {i : Nat} {H : Hp} (h : handZ K cls d i H) (hz : L2N.Zn cls d oe) (hf : ∃ vs, oe.data = .fields vs) : inHand K (a, oe) i H := by
  refine ⟨h.1, hz.1.trans h.2.1, hf, ?_⟩
  rcases h.2.2 with q | ⟨dd, fs, e1, e2⟩
  · exact .inl (hz.2.1.trans q)
  · exact .inr ⟨dd, fs, hz.2.1.trans e1, e2⟩
/-- the suite's end: the three items and the list of them -/
theorem sui_read {tm : Addr → Value → Option Addr → TE} {a : Addr} {cls : Value} {d : Option Addr} {i : Nat} {H : Hp} {D : Ends} {x0 x1 : Option V} {txt : Str} (h : handZ K cls d i H)
    (ht : ∀ H1, Same H H1 → ∀ Q : VK, Q (.str txt) H1 → tm a cls d [x0, x1, some (.ref a)] H1 Q)
    (k : ∀ H' q a1 a2, Same H H' → H q = none → H' q = some (.lst [.ref a1, .ref a2, .str txt]) → H' a1 = some (.lst [.int i]) → H' a2 = some (.lst (aboveV i)) → D.rt (.ref q) H') :
    tSui K tm a cls d D [x0, x1, some (.ref a)] H := by
  refine ⟨_, rfl, rfl, i, h, fun H1 a1 s1 n1 e1 => ⟨_, rfl, rfl, i, h.same s1, fun H2 a2 s2 n2 e2 => ht H2 (s1.trans s2) _ ⟨(by show 3 ≤ sizeLine; decide), fun q hq => ?_⟩⟩⟩
  have s3 : Same H2 (upd H2 q (.lst [.ref a1, .ref a2, .str txt])) := Hx.same_upd (Same.refl H2) hq
  exact k _ q a1 a2 ((s1.trans s2).trans s3) ((s1.trans s2).free hq) upd_same (s3 _ _ (s2 _ _ e1)) (s3 _ _ e2)
theorem fld_read (T : Txt K mg) {i : Nat} {a dd : Addr} {v : V} {d : PyData} {H : Hp} {x0 x1 : Option V} (hi : i < 13) (hd : H dd = some (.xd [((row i).fld, v)])) (sw : Shw K H v d) {Q : VK} (q : Q (.str d.shown) H) :
    tFld K (row i).fld a (.ref (cl K i)) (some dd) [x0, x1, some (.ref a)] H Q := by
  have hi' : i < 19 := by omega
  have hx := T.ex i hi'
  refine ⟨_, rfl, rfl, cl K i, dd, _, v, rfl, ⟨hx.hg, hx.hk, hx.hs, hx.hd⟩, (T.ic i hi).2.2, rfl, hd, by simp, v, d, rfl, sw.dx, sw.sh, sw.ln, sw.dp, fun _ => T.sys, q⟩
theorem zIn {sp : PySem.W.Frag → Addr × Obj → Sp} {res : Nat → List V} {a : Addr} {oe : Obj} {cls : Value} {d : Option Addr} {σ : Hx.Sl} {H : Hp} {Q : VK} {E : Hx.Sl → XK}
    (hs : ∀ {H1 : Hp} (_ : True) (i : Nat), inHand K (a, oe) i H1 → (∀ H' q, Same H1 H' → H1 q = none → H' q = some (.lst (res i)) → Q (.ref q) H') → sp K (a, oe) [.ref a] H1 Q (E σ))
    (hz : L2N.Zn cls d oe) (hf : ∃ vs, oe.data = .fields vs) (h : tZ K res a cls d σ H Q) : Hx.tCallP (sp K) (a, oe) E (tCons (tVar 2) tNil) σ H Q := by
  obtain ⟨x, ex, rfl, i, hh, k⟩ := h
  exact ⟨_, ex, hs trivial i (hh.hand hz hf) k⟩
theorem scTold : FnScope ["_law_way", "_law_one", "_law_e"] ["_law_way", "_law_one"] (defScope sTold) := ⟨rfl, rfl, rfl, by decide +kernel, rfl, by decide +kernel, by decide +kernel⟩
theorem okTold (T : Txt K mg) (c : obsK K = valK) (F : FunD K "_law_told" "_law_told" (defArgs sTold) (defBody sTold) (defScope sTold) [] [] f fd) : Hx.FnG P w K mg base CX0 8 f fd ["_law_way", "_law_one"] (spTold K) := by
  obtain ⟨f1, F1⟩ := def_of c (d := defL "_law_raised" sRaised) (by simp [fn])
  obtain ⟨f2, F2⟩ := def_of c (d := defL "_law_own" sOwn) (by simp [fn])
  obtain ⟨f3, F3⟩ := def_of c (d := defL "_law_above" sAbove) (by simp [fn])
  have b1 : Binds K f1 ["_law_way", "_law_one"] [] := F1.bindsN fun _ _ _ _ _ _ us hl => match us, hl with | [_, _], _ => rfl
  have b2 : Binds K f2 ["_law_e"] [] := F2.bindsN fun _ _ _ _ _ _ us hl => match us, hl with | [_], _ => rfl
  have b3 : Binds K f3 ["_law_e"] [] := F3.bindsN fun _ _ _ _ _ _ us hl => match us, hl with | [_], _ => rfl
  refine Hx.okG F scTold (fun vs H Q E h => ?_) (fun cdv A outer s H vs Q E hr hgd h => ?_)
  · obtain ⟨i, v, d, rfl, _⟩ := h
    rfl
  · have hr1 : Room 6 _ := hr.mono (by decide)
    refine ⟨_, PSs.nox (pss_cons (Hx.ps_tryG (Wout := fun _ _ _ _ => False) (tb := fun W => tDrop (tCallS (spRaised K) (WE W) (tCons (tVar 0) (tCons (tVar 1) tNil)))) rfl rfl scTold.nd Hx.takesN
      (fun W pn xe tk _ => pss_one (ps_expr (by exact (pe_callS (okRaised T c F1) hr1 rfl (T.gf "_law_raised" (by decide +kernel)) F1.kp b1 (fun σ => L2N.passAt tk σ) (by exact (pa_cons (pv 0) (pa_cons (pv 1) pa_nil)))))))
      (.named (i := 2) (ts := (tSui K (tFld K "value"))) (Hx.ct_tup (cs := [0, 1].map fun j => .ref (cl K j)) (.cons ⟨rfl, by decide, .inl (T.gl 0 (by decide))⟩ (.cons ⟨rfl, by decide, .inl (T.gl 1 (by decide))⟩ .nil)) (by simp)) rfl rfl (fun a oe cls d pn hz hf => pss_one (ps_ret (pe_lst (pa_cons (Hx.PE.imp (Hx.pe_callP (p := (a, oe)) (E := fun _ => E0) (okOwn T F2) (RoomH.mono (k := 7) ⟨hr.dp, hr.un⟩ (by decide)) ⟨rfl, hf.choose, hf.choose_spec, hz.2.2 _ hf.choose_spec⟩ (List.mem_cons_self ..) rfl (T.gf "_law_own" (by decide +kernel)) F2.kp b2 (fun _ _ _ _ _ _ _ z => z.elim) (pa_cons (pv 2) pa_nil)) (fun σ H Q h => zIn (sp := spOwn) (fun h1 i hh k => ⟨i, rfl, hh, k⟩) hz hf h)) (pa_cons (Hx.PE.imp (Hx.pe_callP (p := (a, oe)) (E := fun _ => E0) (okAbove T F3) (RoomH.mono (k := 7) ⟨hr.dp, hr.un⟩ (by decide)) ⟨rfl, hf.choose, hf.choose_spec, hz.2.2 _ hf.choose_spec⟩ (List.mem_cons_self ..) rfl (T.gf "_law_above" (by decide +kernel)) F3.kp b3 (fun _ _ _ _ _ _ _ z => z.elim) (pa_cons (pv 2) pa_nil)) (fun σ H Q h => zIn (sp := spAbove) (fun h1 i hh k => ⟨i, rfl, hh, k⟩) hz hf h)) (pa_cons (pe_callB (Hx.call_reprD hgd (by have := hr.units; exact this)) rfl (T.fr "repr" (by decide +kernel)) (by decide +kernel) (pa_cons (Hx.pe_xfE hz hf (pv 2)) pa_nil)) pa_nil))))))
      (.named (i := 2) (ts := (tSui K (tFld K "name"))) (Hx.ct_tup (cs := [2, 3].map fun j => .ref (cl K j)) (.cons ⟨rfl, by decide, .inl (T.gl 2 (by decide))⟩ (.cons ⟨rfl, by decide, .inl (T.gl 3 (by decide))⟩ .nil)) (by simp)) rfl rfl (fun a oe cls d pn hz hf => pss_one (ps_ret (pe_lst (pa_cons (Hx.PE.imp (Hx.pe_callP (p := (a, oe)) (E := fun _ => E0) (okOwn T F2) (RoomH.mono (k := 7) ⟨hr.dp, hr.un⟩ (by decide)) ⟨rfl, hf.choose, hf.choose_spec, hz.2.2 _ hf.choose_spec⟩ (List.mem_cons_self ..) rfl (T.gf "_law_own" (by decide +kernel)) F2.kp b2 (fun _ _ _ _ _ _ _ z => z.elim) (pa_cons (pv 2) pa_nil)) (fun σ H Q h => zIn (sp := spOwn) (fun h1 i hh k => ⟨i, rfl, hh, k⟩) hz hf h)) (pa_cons (Hx.PE.imp (Hx.pe_callP (p := (a, oe)) (E := fun _ => E0) (okAbove T F3) (RoomH.mono (k := 7) ⟨hr.dp, hr.un⟩ (by decide)) ⟨rfl, hf.choose, hf.choose_spec, hz.2.2 _ hf.choose_spec⟩ (List.mem_cons_self ..) rfl (T.gf "_law_above" (by decide +kernel)) F3.kp b3 (fun _ _ _ _ _ _ _ z => z.elim) (pa_cons (pv 2) pa_nil)) (fun σ H Q h => zIn (sp := spAbove) (fun h1 i hh k => ⟨i, rfl, hh, k⟩) hz hf h)) (pa_cons (pe_callB (Hx.call_reprD hgd (by have := hr.units; exact this)) rfl (T.fr "repr" (by decide +kernel)) (by decide +kernel) (pa_cons (Hx.pe_xfE hz hf (pv 2)) pa_nil)) pa_nil))))))
      (.named (i := 2) (ts := (tSui K (tFld K "strength"))) (Hx.ct_name (c := .ref (cl K 4)) ⟨rfl, by decide, .inl (T.gl 4 (by decide))⟩) rfl rfl (fun a oe cls d pn hz hf => pss_one (ps_ret (pe_lst (pa_cons (Hx.PE.imp (Hx.pe_callP (p := (a, oe)) (E := fun _ => E0) (okOwn T F2) (RoomH.mono (k := 7) ⟨hr.dp, hr.un⟩ (by decide)) ⟨rfl, hf.choose, hf.choose_spec, hz.2.2 _ hf.choose_spec⟩ (List.mem_cons_self ..) rfl (T.gf "_law_own" (by decide +kernel)) F2.kp b2 (fun _ _ _ _ _ _ _ z => z.elim) (pa_cons (pv 2) pa_nil)) (fun σ H Q h => zIn (sp := spOwn) (fun h1 i hh k => ⟨i, rfl, hh, k⟩) hz hf h)) (pa_cons (Hx.PE.imp (Hx.pe_callP (p := (a, oe)) (E := fun _ => E0) (okAbove T F3) (RoomH.mono (k := 7) ⟨hr.dp, hr.un⟩ (by decide)) ⟨rfl, hf.choose, hf.choose_spec, hz.2.2 _ hf.choose_spec⟩ (List.mem_cons_self ..) rfl (T.gf "_law_above" (by decide +kernel)) F3.kp b3 (fun _ _ _ _ _ _ _ z => z.elim) (pa_cons (pv 2) pa_nil)) (fun σ H Q h => zIn (sp := spAbove) (fun h1 i hh k => ⟨i, rfl, hh, k⟩) hz hf h)) (pa_cons (pe_callB (Hx.call_reprD hgd (by have := hr.units; exact this)) rfl (T.fr "repr" (by decide +kernel)) (by decide +kernel) (pa_cons (Hx.pe_xfE hz hf (pv 2)) pa_nil)) pa_nil))))))
      (.named (i := 2) (ts := (tSui K (tFld K "place"))) (Hx.ct_tup (cs := [5, 6, 7].map fun j => .ref (cl K j)) (.cons ⟨rfl, by decide, .inl (T.gl 5 (by decide))⟩ (.cons ⟨rfl, by decide, .inl (T.gl 6 (by decide))⟩ (.cons ⟨rfl, by decide, .inl (T.gl 7 (by decide))⟩ .nil))) (by simp)) rfl rfl (fun a oe cls d pn hz hf => pss_one (ps_ret (pe_lst (pa_cons (Hx.PE.imp (Hx.pe_callP (p := (a, oe)) (E := fun _ => E0) (okOwn T F2) (RoomH.mono (k := 7) ⟨hr.dp, hr.un⟩ (by decide)) ⟨rfl, hf.choose, hf.choose_spec, hz.2.2 _ hf.choose_spec⟩ (List.mem_cons_self ..) rfl (T.gf "_law_own" (by decide +kernel)) F2.kp b2 (fun _ _ _ _ _ _ _ z => z.elim) (pa_cons (pv 2) pa_nil)) (fun σ H Q h => zIn (sp := spOwn) (fun h1 i hh k => ⟨i, rfl, hh, k⟩) hz hf h)) (pa_cons (Hx.PE.imp (Hx.pe_callP (p := (a, oe)) (E := fun _ => E0) (okAbove T F3) (RoomH.mono (k := 7) ⟨hr.dp, hr.un⟩ (by decide)) ⟨rfl, hf.choose, hf.choose_spec, hz.2.2 _ hf.choose_spec⟩ (List.mem_cons_self ..) rfl (T.gf "_law_above" (by decide +kernel)) F3.kp b3 (fun _ _ _ _ _ _ _ z => z.elim) (pa_cons (pv 2) pa_nil)) (fun σ H Q h => zIn (sp := spAbove) (fun h1 i hh k => ⟨i, rfl, hh, k⟩) hz hf h)) (pa_cons (pe_callB (Hx.call_reprD hgd (by have := hr.units; exact this)) rfl (T.fr "repr" (by decide +kernel)) (by decide +kernel) (pa_cons (Hx.pe_xfE hz hf (pv 2)) pa_nil)) pa_nil))))))
      (.named (i := 2) (ts := (tSui K (tFld K "steps"))) (Hx.ct_name (c := .ref (cl K 8)) ⟨rfl, by decide, .inl (T.gl 8 (by decide))⟩) rfl rfl (fun a oe cls d pn hz hf => pss_one (ps_ret (pe_lst (pa_cons (Hx.PE.imp (Hx.pe_callP (p := (a, oe)) (E := fun _ => E0) (okOwn T F2) (RoomH.mono (k := 7) ⟨hr.dp, hr.un⟩ (by decide)) ⟨rfl, hf.choose, hf.choose_spec, hz.2.2 _ hf.choose_spec⟩ (List.mem_cons_self ..) rfl (T.gf "_law_own" (by decide +kernel)) F2.kp b2 (fun _ _ _ _ _ _ _ z => z.elim) (pa_cons (pv 2) pa_nil)) (fun σ H Q h => zIn (sp := spOwn) (fun h1 i hh k => ⟨i, rfl, hh, k⟩) hz hf h)) (pa_cons (Hx.PE.imp (Hx.pe_callP (p := (a, oe)) (E := fun _ => E0) (okAbove T F3) (RoomH.mono (k := 7) ⟨hr.dp, hr.un⟩ (by decide)) ⟨rfl, hf.choose, hf.choose_spec, hz.2.2 _ hf.choose_spec⟩ (List.mem_cons_self ..) rfl (T.gf "_law_above" (by decide +kernel)) F3.kp b3 (fun _ _ _ _ _ _ _ z => z.elim) (pa_cons (pv 2) pa_nil)) (fun σ H Q h => zIn (sp := spAbove) (fun h1 i hh k => ⟨i, rfl, hh, k⟩) hz hf h)) (pa_cons (pe_callB (Hx.call_reprD hgd (by have := hr.units; exact this)) rfl (T.fr "repr" (by decide +kernel)) (by decide +kernel) (pa_cons (Hx.pe_xfE hz hf (pv 2)) pa_nil)) pa_nil))))))
      (.named (i := 2) (ts := (tSui K (tFld K "room"))) (Hx.ct_name (c := .ref (cl K 9)) ⟨rfl, by decide, .inl (T.gl 9 (by decide))⟩) rfl rfl (fun a oe cls d pn hz hf => pss_one (ps_ret (pe_lst (pa_cons (Hx.PE.imp (Hx.pe_callP (p := (a, oe)) (E := fun _ => E0) (okOwn T F2) (RoomH.mono (k := 7) ⟨hr.dp, hr.un⟩ (by decide)) ⟨rfl, hf.choose, hf.choose_spec, hz.2.2 _ hf.choose_spec⟩ (List.mem_cons_self ..) rfl (T.gf "_law_own" (by decide +kernel)) F2.kp b2 (fun _ _ _ _ _ _ _ z => z.elim) (pa_cons (pv 2) pa_nil)) (fun σ H Q h => zIn (sp := spOwn) (fun h1 i hh k => ⟨i, rfl, hh, k⟩) hz hf h)) (pa_cons (Hx.PE.imp (Hx.pe_callP (p := (a, oe)) (E := fun _ => E0) (okAbove T F3) (RoomH.mono (k := 7) ⟨hr.dp, hr.un⟩ (by decide)) ⟨rfl, hf.choose, hf.choose_spec, hz.2.2 _ hf.choose_spec⟩ (List.mem_cons_self ..) rfl (T.gf "_law_above" (by decide +kernel)) F3.kp b3 (fun _ _ _ _ _ _ _ z => z.elim) (pa_cons (pv 2) pa_nil)) (fun σ H Q h => zIn (sp := spAbove) (fun h1 i hh k => ⟨i, rfl, hh, k⟩) hz hf h)) (pa_cons (pe_callB (Hx.call_reprD hgd (by have := hr.units; exact this)) rfl (T.fr "repr" (by decide +kernel)) (by decide +kernel) (pa_cons (Hx.pe_xfE hz hf (pv 2)) pa_nil)) pa_nil))))))
      (.named (i := 2) (ts := (tSui K (tFld K "number"))) (Hx.ct_name (c := .ref (cl K 10)) ⟨rfl, by decide, .inl (T.gl 10 (by decide))⟩) rfl rfl (fun a oe cls d pn hz hf => pss_one (ps_ret (pe_lst (pa_cons (Hx.PE.imp (Hx.pe_callP (p := (a, oe)) (E := fun _ => E0) (okOwn T F2) (RoomH.mono (k := 7) ⟨hr.dp, hr.un⟩ (by decide)) ⟨rfl, hf.choose, hf.choose_spec, hz.2.2 _ hf.choose_spec⟩ (List.mem_cons_self ..) rfl (T.gf "_law_own" (by decide +kernel)) F2.kp b2 (fun _ _ _ _ _ _ _ z => z.elim) (pa_cons (pv 2) pa_nil)) (fun σ H Q h => zIn (sp := spOwn) (fun h1 i hh k => ⟨i, rfl, hh, k⟩) hz hf h)) (pa_cons (Hx.PE.imp (Hx.pe_callP (p := (a, oe)) (E := fun _ => E0) (okAbove T F3) (RoomH.mono (k := 7) ⟨hr.dp, hr.un⟩ (by decide)) ⟨rfl, hf.choose, hf.choose_spec, hz.2.2 _ hf.choose_spec⟩ (List.mem_cons_self ..) rfl (T.gf "_law_above" (by decide +kernel)) F3.kp b3 (fun _ _ _ _ _ _ _ z => z.elim) (pa_cons (pv 2) pa_nil)) (fun σ H Q h => zIn (sp := spAbove) (fun h1 i hh k => ⟨i, rfl, hh, k⟩) hz hf h)) (pa_cons (pe_callB (Hx.call_reprD hgd (by have := hr.units; exact this)) rfl (T.fr "repr" (by decide +kernel)) (by decide +kernel) (pa_cons (Hx.pe_xfE hz hf (pv 2)) pa_nil)) pa_nil))))))
      (.named (i := 2) (ts := (tSui K (tFld K "most"))) (Hx.ct_name (c := .ref (cl K 11)) ⟨rfl, by decide, .inl (T.gl 11 (by decide))⟩) rfl rfl (fun a oe cls d pn hz hf => pss_one (ps_ret (pe_lst (pa_cons (Hx.PE.imp (Hx.pe_callP (p := (a, oe)) (E := fun _ => E0) (okOwn T F2) (RoomH.mono (k := 7) ⟨hr.dp, hr.un⟩ (by decide)) ⟨rfl, hf.choose, hf.choose_spec, hz.2.2 _ hf.choose_spec⟩ (List.mem_cons_self ..) rfl (T.gf "_law_own" (by decide +kernel)) F2.kp b2 (fun _ _ _ _ _ _ _ z => z.elim) (pa_cons (pv 2) pa_nil)) (fun σ H Q h => zIn (sp := spOwn) (fun h1 i hh k => ⟨i, rfl, hh, k⟩) hz hf h)) (pa_cons (Hx.PE.imp (Hx.pe_callP (p := (a, oe)) (E := fun _ => E0) (okAbove T F3) (RoomH.mono (k := 7) ⟨hr.dp, hr.un⟩ (by decide)) ⟨rfl, hf.choose, hf.choose_spec, hz.2.2 _ hf.choose_spec⟩ (List.mem_cons_self ..) rfl (T.gf "_law_above" (by decide +kernel)) F3.kp b3 (fun _ _ _ _ _ _ _ z => z.elim) (pa_cons (pv 2) pa_nil)) (fun σ H Q h => zIn (sp := spAbove) (fun h1 i hh k => ⟨i, rfl, hh, k⟩) hz hf h)) (pa_cons (pe_callB (Hx.call_reprD hgd (by have := hr.units; exact this)) rfl (T.fr "repr" (by decide +kernel)) (by decide +kernel) (pa_cons (Hx.pe_xfE hz hf (pv 2)) pa_nil)) pa_nil))))))
      (.named (i := 2) (ts := (tSui K (tFld K "row"))) (Hx.ct_name (c := .ref (cl K 12)) ⟨rfl, by decide, .inl (T.gl 12 (by decide))⟩) rfl rfl (fun a oe cls d pn hz hf => pss_one (ps_ret (pe_lst (pa_cons (Hx.PE.imp (Hx.pe_callP (p := (a, oe)) (E := fun _ => E0) (okOwn T F2) (RoomH.mono (k := 7) ⟨hr.dp, hr.un⟩ (by decide)) ⟨rfl, hf.choose, hf.choose_spec, hz.2.2 _ hf.choose_spec⟩ (List.mem_cons_self ..) rfl (T.gf "_law_own" (by decide +kernel)) F2.kp b2 (fun _ _ _ _ _ _ _ z => z.elim) (pa_cons (pv 2) pa_nil)) (fun σ H Q h => zIn (sp := spOwn) (fun h1 i hh k => ⟨i, rfl, hh, k⟩) hz hf h)) (pa_cons (Hx.PE.imp (Hx.pe_callP (p := (a, oe)) (E := fun _ => E0) (okAbove T F3) (RoomH.mono (k := 7) ⟨hr.dp, hr.un⟩ (by decide)) ⟨rfl, hf.choose, hf.choose_spec, hz.2.2 _ hf.choose_spec⟩ (List.mem_cons_self ..) rfl (T.gf "_law_above" (by decide +kernel)) F3.kp b3 (fun _ _ _ _ _ _ _ z => z.elim) (pa_cons (pv 2) pa_nil)) (fun σ H Q h => zIn (sp := spAbove) (fun h1 i hh k => ⟨i, rfl, hh, k⟩) hz hf h)) (pa_cons (pe_callB (Hx.call_reprD hgd (by have := hr.units; exact this)) rfl (T.fr "repr" (by decide +kernel)) (by decide +kernel) (pa_cons (Hx.pe_xfE hz hf (pv 2)) pa_nil)) pa_nil))))))
      (.named (i := 2) (ts := (tSui K tEmp)) (Hx.ct_tup (cs := [13, 14, 15, 16, 17, 18].map fun j => .ref (cl K j)) (.cons ⟨rfl, by decide, .inl (T.gl 13 (by decide))⟩ (.cons ⟨rfl, by decide, .inl (T.gl 14 (by decide))⟩ (.cons ⟨rfl, by decide, .inl (T.gl 15 (by decide))⟩ (.cons ⟨rfl, by decide, .inl (T.gl 16 (by decide))⟩ (.cons ⟨rfl, by decide, .inl (T.gl 17 (by decide))⟩ (.cons ⟨rfl, by decide, .inl (T.gl 18 (by decide))⟩ .nil)))))) (by simp)) rfl rfl (fun a oe cls d pn hz hf => pss_one (ps_ret (pe_lst (pa_cons (Hx.PE.imp (Hx.pe_callP (p := (a, oe)) (E := fun _ => E0) (okOwn T F2) (RoomH.mono (k := 7) ⟨hr.dp, hr.un⟩ (by decide)) ⟨rfl, hf.choose, hf.choose_spec, hz.2.2 _ hf.choose_spec⟩ (List.mem_cons_self ..) rfl (T.gf "_law_own" (by decide +kernel)) F2.kp b2 (fun _ _ _ _ _ _ _ z => z.elim) (pa_cons (pv 2) pa_nil)) (fun σ H Q h => zIn (sp := spOwn) (fun h1 i hh k => ⟨i, rfl, hh, k⟩) hz hf h)) (pa_cons (Hx.PE.imp (Hx.pe_callP (p := (a, oe)) (E := fun _ => E0) (okAbove T F3) (RoomH.mono (k := 7) ⟨hr.dp, hr.un⟩ (by decide)) ⟨rfl, hf.choose, hf.choose_spec, hz.2.2 _ hf.choose_spec⟩ (List.mem_cons_self ..) rfl (T.gf "_law_above" (by decide +kernel)) F3.kp b3 (fun _ _ _ _ _ _ _ z => z.elim) (pa_cons (pv 2) pa_nil)) (fun σ H Q h => zIn (sp := spAbove) (fun h1 i hh k => ⟨i, rfl, hh, k⟩) hz hf h)) (pa_cons pe_str pa_nil))))))
      .nil)))))))))))
      (pss_one (ps_ret (pe_lst pa_nil)))), ?_⟩
    obtain ⟨i, v, d, rfl, hi, hv, k⟩ := h
    refine ⟨_, rfl, _, rfl, i, v, rfl, hi, fun h13 => ⟨(hv h13).1, fun dd hdd => ?_⟩, fun h13 => ?_⟩
    · have sd : Same H (upd H dd (.xd [((row i).fld, v)])) := Hx.same_upd (Same.refl H) hdd
      have sw := (hv h13).2
      simp only [if_pos h13] at k
      obtain rfl | rfl | rfl | rfl | rfl | rfl | rfl | rfl | rfl | rfl | rfl | rfl | rfl : i = 0 ∨ i = 1 ∨ i = 2 ∨ i = 3 ∨ i = 4 ∨ i = 5 ∨ i = 6 ∨ i = 7 ∨ i = 8 ∨ i = 9 ∨ i = 10 ∨ i = 11 ∨ i = 12 := by omega
      · refine ⟨true, T.any (js := [0, 1]) hi (by decide), fun _ a ha => ?_, fun z => Bool.noConfusion z⟩
        exact sui_read (txt := d.shown) ⟨hi, rfl, .inr ⟨dd, _, rfl, upd_same⟩⟩ (fun H1 s1 Q q => fld_read T (i := 0) h13 (s1 _ _ upd_same) ⟨sw.dx.same (sd.trans s1), sw.sh, sw.ln, sw.dp⟩ q) fun H' q a1 a2 s n e e1 e2 => k H' q a1 a2 (sd.trans s) (sd.free n) e e1 e2
      · refine ⟨true, T.any (js := [0, 1]) hi (by decide), fun _ a ha => ?_, fun z => Bool.noConfusion z⟩
        exact sui_read (txt := d.shown) ⟨hi, rfl, .inr ⟨dd, _, rfl, upd_same⟩⟩ (fun H1 s1 Q q => fld_read T (i := 1) h13 (s1 _ _ upd_same) ⟨sw.dx.same (sd.trans s1), sw.sh, sw.ln, sw.dp⟩ q) fun H' q a1 a2 s n e e1 e2 => k H' q a1 a2 (sd.trans s) (sd.free n) e e1 e2
      · refine ⟨false, T.any (js := [0, 1]) hi (by decide), (fun z => Bool.noConfusion z), fun _ => ?_⟩
        refine ⟨true, T.any (js := [2, 3]) hi (by decide), fun _ a ha => ?_, fun z => Bool.noConfusion z⟩
        exact sui_read (txt := d.shown) ⟨hi, rfl, .inr ⟨dd, _, rfl, upd_same⟩⟩ (fun H1 s1 Q q => fld_read T (i := 2) h13 (s1 _ _ upd_same) ⟨sw.dx.same (sd.trans s1), sw.sh, sw.ln, sw.dp⟩ q) fun H' q a1 a2 s n e e1 e2 => k H' q a1 a2 (sd.trans s) (sd.free n) e e1 e2
      · refine ⟨false, T.any (js := [0, 1]) hi (by decide), (fun z => Bool.noConfusion z), fun _ => ?_⟩
        refine ⟨true, T.any (js := [2, 3]) hi (by decide), fun _ a ha => ?_, fun z => Bool.noConfusion z⟩
        exact sui_read (txt := d.shown) ⟨hi, rfl, .inr ⟨dd, _, rfl, upd_same⟩⟩ (fun H1 s1 Q q => fld_read T (i := 3) h13 (s1 _ _ upd_same) ⟨sw.dx.same (sd.trans s1), sw.sh, sw.ln, sw.dp⟩ q) fun H' q a1 a2 s n e e1 e2 => k H' q a1 a2 (sd.trans s) (sd.free n) e e1 e2
      · refine ⟨false, T.any (js := [0, 1]) hi (by decide), (fun z => Bool.noConfusion z), fun _ => ?_⟩
        refine ⟨false, T.any (js := [2, 3]) hi (by decide), (fun z => Bool.noConfusion z), fun _ => ?_⟩
        refine ⟨true, T.any (js := [4]) hi (by decide), fun _ a ha => ?_, fun z => Bool.noConfusion z⟩
        exact sui_read (txt := d.shown) ⟨hi, rfl, .inr ⟨dd, _, rfl, upd_same⟩⟩ (fun H1 s1 Q q => fld_read T (i := 4) h13 (s1 _ _ upd_same) ⟨sw.dx.same (sd.trans s1), sw.sh, sw.ln, sw.dp⟩ q) fun H' q a1 a2 s n e e1 e2 => k H' q a1 a2 (sd.trans s) (sd.free n) e e1 e2
      · refine ⟨false, T.any (js := [0, 1]) hi (by decide), (fun z => Bool.noConfusion z), fun _ => ?_⟩
        refine ⟨false, T.any (js := [2, 3]) hi (by decide), (fun z => Bool.noConfusion z), fun _ => ?_⟩
        refine ⟨false, T.any (js := [4]) hi (by decide), (fun z => Bool.noConfusion z), fun _ => ?_⟩
        refine ⟨true, T.any (js := [5, 6, 7]) hi (by decide), fun _ a ha => ?_, fun z => Bool.noConfusion z⟩
        exact sui_read (txt := d.shown) ⟨hi, rfl, .inr ⟨dd, _, rfl, upd_same⟩⟩ (fun H1 s1 Q q => fld_read T (i := 5) h13 (s1 _ _ upd_same) ⟨sw.dx.same (sd.trans s1), sw.sh, sw.ln, sw.dp⟩ q) fun H' q a1 a2 s n e e1 e2 => k H' q a1 a2 (sd.trans s) (sd.free n) e e1 e2
      · refine ⟨false, T.any (js := [0, 1]) hi (by decide), (fun z => Bool.noConfusion z), fun _ => ?_⟩
        refine ⟨false, T.any (js := [2, 3]) hi (by decide), (fun z => Bool.noConfusion z), fun _ => ?_⟩
        refine ⟨false, T.any (js := [4]) hi (by decide), (fun z => Bool.noConfusion z), fun _ => ?_⟩
        refine ⟨true, T.any (js := [5, 6, 7]) hi (by decide), fun _ a ha => ?_, fun z => Bool.noConfusion z⟩
        exact sui_read (txt := d.shown) ⟨hi, rfl, .inr ⟨dd, _, rfl, upd_same⟩⟩ (fun H1 s1 Q q => fld_read T (i := 6) h13 (s1 _ _ upd_same) ⟨sw.dx.same (sd.trans s1), sw.sh, sw.ln, sw.dp⟩ q) fun H' q a1 a2 s n e e1 e2 => k H' q a1 a2 (sd.trans s) (sd.free n) e e1 e2
      · refine ⟨false, T.any (js := [0, 1]) hi (by decide), (fun z => Bool.noConfusion z), fun _ => ?_⟩
        refine ⟨false, T.any (js := [2, 3]) hi (by decide), (fun z => Bool.noConfusion z), fun _ => ?_⟩
        refine ⟨false, T.any (js := [4]) hi (by decide), (fun z => Bool.noConfusion z), fun _ => ?_⟩
        refine ⟨true, T.any (js := [5, 6, 7]) hi (by decide), fun _ a ha => ?_, fun z => Bool.noConfusion z⟩
        exact sui_read (txt := d.shown) ⟨hi, rfl, .inr ⟨dd, _, rfl, upd_same⟩⟩ (fun H1 s1 Q q => fld_read T (i := 7) h13 (s1 _ _ upd_same) ⟨sw.dx.same (sd.trans s1), sw.sh, sw.ln, sw.dp⟩ q) fun H' q a1 a2 s n e e1 e2 => k H' q a1 a2 (sd.trans s) (sd.free n) e e1 e2
      · refine ⟨false, T.any (js := [0, 1]) hi (by decide), (fun z => Bool.noConfusion z), fun _ => ?_⟩
        refine ⟨false, T.any (js := [2, 3]) hi (by decide), (fun z => Bool.noConfusion z), fun _ => ?_⟩
        refine ⟨false, T.any (js := [4]) hi (by decide), (fun z => Bool.noConfusion z), fun _ => ?_⟩
        refine ⟨false, T.any (js := [5, 6, 7]) hi (by decide), (fun z => Bool.noConfusion z), fun _ => ?_⟩
        refine ⟨true, T.any (js := [8]) hi (by decide), fun _ a ha => ?_, fun z => Bool.noConfusion z⟩
        exact sui_read (txt := d.shown) ⟨hi, rfl, .inr ⟨dd, _, rfl, upd_same⟩⟩ (fun H1 s1 Q q => fld_read T (i := 8) h13 (s1 _ _ upd_same) ⟨sw.dx.same (sd.trans s1), sw.sh, sw.ln, sw.dp⟩ q) fun H' q a1 a2 s n e e1 e2 => k H' q a1 a2 (sd.trans s) (sd.free n) e e1 e2
      · refine ⟨false, T.any (js := [0, 1]) hi (by decide), (fun z => Bool.noConfusion z), fun _ => ?_⟩
        refine ⟨false, T.any (js := [2, 3]) hi (by decide), (fun z => Bool.noConfusion z), fun _ => ?_⟩
        refine ⟨false, T.any (js := [4]) hi (by decide), (fun z => Bool.noConfusion z), fun _ => ?_⟩
        refine ⟨false, T.any (js := [5, 6, 7]) hi (by decide), (fun z => Bool.noConfusion z), fun _ => ?_⟩
        refine ⟨false, T.any (js := [8]) hi (by decide), (fun z => Bool.noConfusion z), fun _ => ?_⟩
        refine ⟨true, T.any (js := [9]) hi (by decide), fun _ a ha => ?_, fun z => Bool.noConfusion z⟩
        exact sui_read (txt := d.shown) ⟨hi, rfl, .inr ⟨dd, _, rfl, upd_same⟩⟩ (fun H1 s1 Q q => fld_read T (i := 9) h13 (s1 _ _ upd_same) ⟨sw.dx.same (sd.trans s1), sw.sh, sw.ln, sw.dp⟩ q) fun H' q a1 a2 s n e e1 e2 => k H' q a1 a2 (sd.trans s) (sd.free n) e e1 e2
      · refine ⟨false, T.any (js := [0, 1]) hi (by decide), (fun z => Bool.noConfusion z), fun _ => ?_⟩
        refine ⟨false, T.any (js := [2, 3]) hi (by decide), (fun z => Bool.noConfusion z), fun _ => ?_⟩
        refine ⟨false, T.any (js := [4]) hi (by decide), (fun z => Bool.noConfusion z), fun _ => ?_⟩
        refine ⟨false, T.any (js := [5, 6, 7]) hi (by decide), (fun z => Bool.noConfusion z), fun _ => ?_⟩
        refine ⟨false, T.any (js := [8]) hi (by decide), (fun z => Bool.noConfusion z), fun _ => ?_⟩
        refine ⟨false, T.any (js := [9]) hi (by decide), (fun z => Bool.noConfusion z), fun _ => ?_⟩
        refine ⟨true, T.any (js := [10]) hi (by decide), fun _ a ha => ?_, fun z => Bool.noConfusion z⟩
        exact sui_read (txt := d.shown) ⟨hi, rfl, .inr ⟨dd, _, rfl, upd_same⟩⟩ (fun H1 s1 Q q => fld_read T (i := 10) h13 (s1 _ _ upd_same) ⟨sw.dx.same (sd.trans s1), sw.sh, sw.ln, sw.dp⟩ q) fun H' q a1 a2 s n e e1 e2 => k H' q a1 a2 (sd.trans s) (sd.free n) e e1 e2
      · refine ⟨false, T.any (js := [0, 1]) hi (by decide), (fun z => Bool.noConfusion z), fun _ => ?_⟩
        refine ⟨false, T.any (js := [2, 3]) hi (by decide), (fun z => Bool.noConfusion z), fun _ => ?_⟩
        refine ⟨false, T.any (js := [4]) hi (by decide), (fun z => Bool.noConfusion z), fun _ => ?_⟩
        refine ⟨false, T.any (js := [5, 6, 7]) hi (by decide), (fun z => Bool.noConfusion z), fun _ => ?_⟩
        refine ⟨false, T.any (js := [8]) hi (by decide), (fun z => Bool.noConfusion z), fun _ => ?_⟩
        refine ⟨false, T.any (js := [9]) hi (by decide), (fun z => Bool.noConfusion z), fun _ => ?_⟩
        refine ⟨false, T.any (js := [10]) hi (by decide), (fun z => Bool.noConfusion z), fun _ => ?_⟩
        refine ⟨true, T.any (js := [11]) hi (by decide), fun _ a ha => ?_, fun z => Bool.noConfusion z⟩
        exact sui_read (txt := d.shown) ⟨hi, rfl, .inr ⟨dd, _, rfl, upd_same⟩⟩ (fun H1 s1 Q q => fld_read T (i := 11) h13 (s1 _ _ upd_same) ⟨sw.dx.same (sd.trans s1), sw.sh, sw.ln, sw.dp⟩ q) fun H' q a1 a2 s n e e1 e2 => k H' q a1 a2 (sd.trans s) (sd.free n) e e1 e2
      · refine ⟨false, T.any (js := [0, 1]) hi (by decide), (fun z => Bool.noConfusion z), fun _ => ?_⟩
        refine ⟨false, T.any (js := [2, 3]) hi (by decide), (fun z => Bool.noConfusion z), fun _ => ?_⟩
        refine ⟨false, T.any (js := [4]) hi (by decide), (fun z => Bool.noConfusion z), fun _ => ?_⟩
        refine ⟨false, T.any (js := [5, 6, 7]) hi (by decide), (fun z => Bool.noConfusion z), fun _ => ?_⟩
        refine ⟨false, T.any (js := [8]) hi (by decide), (fun z => Bool.noConfusion z), fun _ => ?_⟩
        refine ⟨false, T.any (js := [9]) hi (by decide), (fun z => Bool.noConfusion z), fun _ => ?_⟩
        refine ⟨false, T.any (js := [10]) hi (by decide), (fun z => Bool.noConfusion z), fun _ => ?_⟩
        refine ⟨false, T.any (js := [11]) hi (by decide), (fun z => Bool.noConfusion z), fun _ => ?_⟩
        refine ⟨true, T.any (js := [12]) hi (by decide), fun _ a ha => ?_, fun z => Bool.noConfusion z⟩
        exact sui_read (txt := d.shown) ⟨hi, rfl, .inr ⟨dd, _, rfl, upd_same⟩⟩ (fun H1 s1 Q q => fld_read T (i := 12) h13 (s1 _ _ upd_same) ⟨sw.dx.same (sd.trans s1), sw.sh, sw.ln, sw.dp⟩ q) fun H' q a1 a2 s n e e1 e2 => k H' q a1 a2 (sd.trans s) (sd.free n) e e1 e2
    · simp only [if_neg (show ¬ i < 13 by omega)] at k
      obtain rfl | rfl | rfl | rfl | rfl | rfl : i = 13 ∨ i = 14 ∨ i = 15 ∨ i = 16 ∨ i = 17 ∨ i = 18 := by omega
      · refine ⟨false, T.any (js := [0, 1]) hi (by decide), (fun z => Bool.noConfusion z), fun _ => ?_⟩
        refine ⟨false, T.any (js := [2, 3]) hi (by decide), (fun z => Bool.noConfusion z), fun _ => ?_⟩
        refine ⟨false, T.any (js := [4]) hi (by decide), (fun z => Bool.noConfusion z), fun _ => ?_⟩
        refine ⟨false, T.any (js := [5, 6, 7]) hi (by decide), (fun z => Bool.noConfusion z), fun _ => ?_⟩
        refine ⟨false, T.any (js := [8]) hi (by decide), (fun z => Bool.noConfusion z), fun _ => ?_⟩
        refine ⟨false, T.any (js := [9]) hi (by decide), (fun z => Bool.noConfusion z), fun _ => ?_⟩
        refine ⟨false, T.any (js := [10]) hi (by decide), (fun z => Bool.noConfusion z), fun _ => ?_⟩
        refine ⟨false, T.any (js := [11]) hi (by decide), (fun z => Bool.noConfusion z), fun _ => ?_⟩
        refine ⟨false, T.any (js := [12]) hi (by decide), (fun z => Bool.noConfusion z), fun _ => ?_⟩
        refine ⟨true, T.any (js := [13, 14, 15, 16, 17, 18]) hi (by decide), fun _ a ha => ?_, fun z => Bool.noConfusion z⟩
        exact sui_read (txt := "") ⟨hi, rfl, .inl rfl⟩ (fun H1 s1 Q q => q) fun H' q a1 a2 s n e e1 e2 => k H' q a1 a2 s n e e1 e2
      · refine ⟨false, T.any (js := [0, 1]) hi (by decide), (fun z => Bool.noConfusion z), fun _ => ?_⟩
        refine ⟨false, T.any (js := [2, 3]) hi (by decide), (fun z => Bool.noConfusion z), fun _ => ?_⟩
        refine ⟨false, T.any (js := [4]) hi (by decide), (fun z => Bool.noConfusion z), fun _ => ?_⟩
        refine ⟨false, T.any (js := [5, 6, 7]) hi (by decide), (fun z => Bool.noConfusion z), fun _ => ?_⟩
        refine ⟨false, T.any (js := [8]) hi (by decide), (fun z => Bool.noConfusion z), fun _ => ?_⟩
        refine ⟨false, T.any (js := [9]) hi (by decide), (fun z => Bool.noConfusion z), fun _ => ?_⟩
        refine ⟨false, T.any (js := [10]) hi (by decide), (fun z => Bool.noConfusion z), fun _ => ?_⟩
        refine ⟨false, T.any (js := [11]) hi (by decide), (fun z => Bool.noConfusion z), fun _ => ?_⟩
        refine ⟨false, T.any (js := [12]) hi (by decide), (fun z => Bool.noConfusion z), fun _ => ?_⟩
        refine ⟨true, T.any (js := [13, 14, 15, 16, 17, 18]) hi (by decide), fun _ a ha => ?_, fun z => Bool.noConfusion z⟩
        exact sui_read (txt := "") ⟨hi, rfl, .inl rfl⟩ (fun H1 s1 Q q => q) fun H' q a1 a2 s n e e1 e2 => k H' q a1 a2 s n e e1 e2
      · refine ⟨false, T.any (js := [0, 1]) hi (by decide), (fun z => Bool.noConfusion z), fun _ => ?_⟩
        refine ⟨false, T.any (js := [2, 3]) hi (by decide), (fun z => Bool.noConfusion z), fun _ => ?_⟩
        refine ⟨false, T.any (js := [4]) hi (by decide), (fun z => Bool.noConfusion z), fun _ => ?_⟩
        refine ⟨false, T.any (js := [5, 6, 7]) hi (by decide), (fun z => Bool.noConfusion z), fun _ => ?_⟩
        refine ⟨false, T.any (js := [8]) hi (by decide), (fun z => Bool.noConfusion z), fun _ => ?_⟩
        refine ⟨false, T.any (js := [9]) hi (by decide), (fun z => Bool.noConfusion z), fun _ => ?_⟩
        refine ⟨false, T.any (js := [10]) hi (by decide), (fun z => Bool.noConfusion z), fun _ => ?_⟩
        refine ⟨false, T.any (js := [11]) hi (by decide), (fun z => Bool.noConfusion z), fun _ => ?_⟩
        refine ⟨false, T.any (js := [12]) hi (by decide), (fun z => Bool.noConfusion z), fun _ => ?_⟩
        refine ⟨true, T.any (js := [13, 14, 15, 16, 17, 18]) hi (by decide), fun _ a ha => ?_, fun z => Bool.noConfusion z⟩
        exact sui_read (txt := "") ⟨hi, rfl, .inl rfl⟩ (fun H1 s1 Q q => q) fun H' q a1 a2 s n e e1 e2 => k H' q a1 a2 s n e e1 e2
      · refine ⟨false, T.any (js := [0, 1]) hi (by decide), (fun z => Bool.noConfusion z), fun _ => ?_⟩
        refine ⟨false, T.any (js := [2, 3]) hi (by decide), (fun z => Bool.noConfusion z), fun _ => ?_⟩
        refine ⟨false, T.any (js := [4]) hi (by decide), (fun z => Bool.noConfusion z), fun _ => ?_⟩
        refine ⟨false, T.any (js := [5, 6, 7]) hi (by decide), (fun z => Bool.noConfusion z), fun _ => ?_⟩
        refine ⟨false, T.any (js := [8]) hi (by decide), (fun z => Bool.noConfusion z), fun _ => ?_⟩
        refine ⟨false, T.any (js := [9]) hi (by decide), (fun z => Bool.noConfusion z), fun _ => ?_⟩
        refine ⟨false, T.any (js := [10]) hi (by decide), (fun z => Bool.noConfusion z), fun _ => ?_⟩
        refine ⟨false, T.any (js := [11]) hi (by decide), (fun z => Bool.noConfusion z), fun _ => ?_⟩
        refine ⟨false, T.any (js := [12]) hi (by decide), (fun z => Bool.noConfusion z), fun _ => ?_⟩
        refine ⟨true, T.any (js := [13, 14, 15, 16, 17, 18]) hi (by decide), fun _ a ha => ?_, fun z => Bool.noConfusion z⟩
        exact sui_read (txt := "") ⟨hi, rfl, .inl rfl⟩ (fun H1 s1 Q q => q) fun H' q a1 a2 s n e e1 e2 => k H' q a1 a2 s n e e1 e2
      · refine ⟨false, T.any (js := [0, 1]) hi (by decide), (fun z => Bool.noConfusion z), fun _ => ?_⟩
        refine ⟨false, T.any (js := [2, 3]) hi (by decide), (fun z => Bool.noConfusion z), fun _ => ?_⟩
        refine ⟨false, T.any (js := [4]) hi (by decide), (fun z => Bool.noConfusion z), fun _ => ?_⟩
        refine ⟨false, T.any (js := [5, 6, 7]) hi (by decide), (fun z => Bool.noConfusion z), fun _ => ?_⟩
        refine ⟨false, T.any (js := [8]) hi (by decide), (fun z => Bool.noConfusion z), fun _ => ?_⟩
        refine ⟨false, T.any (js := [9]) hi (by decide), (fun z => Bool.noConfusion z), fun _ => ?_⟩
        refine ⟨false, T.any (js := [10]) hi (by decide), (fun z => Bool.noConfusion z), fun _ => ?_⟩
        refine ⟨false, T.any (js := [11]) hi (by decide), (fun z => Bool.noConfusion z), fun _ => ?_⟩
        refine ⟨false, T.any (js := [12]) hi (by decide), (fun z => Bool.noConfusion z), fun _ => ?_⟩
        refine ⟨true, T.any (js := [13, 14, 15, 16, 17, 18]) hi (by decide), fun _ a ha => ?_, fun z => Bool.noConfusion z⟩
        exact sui_read (txt := "") ⟨hi, rfl, .inl rfl⟩ (fun H1 s1 Q q => q) fun H' q a1 a2 s n e e1 e2 => k H' q a1 a2 s n e e1 e2
      · refine ⟨false, T.any (js := [0, 1]) hi (by decide), (fun z => Bool.noConfusion z), fun _ => ?_⟩
        refine ⟨false, T.any (js := [2, 3]) hi (by decide), (fun z => Bool.noConfusion z), fun _ => ?_⟩
        refine ⟨false, T.any (js := [4]) hi (by decide), (fun z => Bool.noConfusion z), fun _ => ?_⟩
        refine ⟨false, T.any (js := [5, 6, 7]) hi (by decide), (fun z => Bool.noConfusion z), fun _ => ?_⟩
        refine ⟨false, T.any (js := [8]) hi (by decide), (fun z => Bool.noConfusion z), fun _ => ?_⟩
        refine ⟨false, T.any (js := [9]) hi (by decide), (fun z => Bool.noConfusion z), fun _ => ?_⟩
        refine ⟨false, T.any (js := [10]) hi (by decide), (fun z => Bool.noConfusion z), fun _ => ?_⟩
        refine ⟨false, T.any (js := [11]) hi (by decide), (fun z => Bool.noConfusion z), fun _ => ?_⟩
        refine ⟨false, T.any (js := [12]) hi (by decide), (fun z => Bool.noConfusion z), fun _ => ?_⟩
        refine ⟨true, T.any (js := [13, 14, 15, 16, 17, 18]) hi (by decide), fun _ a ha => ?_, fun z => Bool.noConfusion z⟩
        exact sui_read (txt := "") ⟨hi, rfl, .inl rfl⟩ (fun H1 s1 Q q => q) fun H' q a1 a2 s n e e1 e2 => k H' q a1 a2 s n e e1 e2
end
end K86

set_option Elab.async false
set_option linter.all false
set_option maxRecDepth 100000
set_option maxHeartbeats 4000000
/-! k86: the draws. -/
namespace K86
open PySem PySem.Spec L2 PyProof.Rows
/-- a bag: three ints, the second one below 2 ^ 61, the third one small -/
def bagAt (H : Hp) (q : Addr) (c : Int) : Prop := ∃ g m : Int, H q = some (.lst [.int g, .int m, .int c]) ∧ 0 ≤ m ∧ m < 2305843009213693951
def spBag (K : PySem.W.Frag) : Sp := fun vs H Q _ => ∃ (a : Addr) (ns : List Int) (n : Nat), vs = [.ref a, .int n] ∧ SqL K H a (ns.map V.int) ∧ n < 10 ∧ ∀ q g m, H q = none → 0 ≤ m → m < 2305843009213693951 → Q (.ref q) (upd H q (.lst [.int g, .int m, .int 0]))
def spTake : Sp := fun vs H Q _ => ∃ (q : Addr) (many c : Int), vs = [.ref q, .int many] ∧ 0 < many ∧ many < 1000000 ∧ bagAt H q c ∧ 0 ≤ c ∧ c ≤ 100 ∧
  ∀ r g' m c' : Int, 0 ≤ r → r < many → 0 ≤ c' → c' ≤ c + 1 → 0 ≤ m → m < 2305843009213693951 → Q (.int r) (upd H q (.lst [.int g', .int m, .int c']))
section
variable {P : Program} {w : World} {K : PySem.W.Frag} {mg : Str → Option Value} {base : Heap} {fd : FuncData} {f : Addr}
theorem ints_at {ns : List Int} {i : Nat} (h : i < ns.length) : ∃ z, (ns.map V.int)[i]? = some (V.int z) := by
  rw [List.getElem?_map, List.getElem?_eq_getElem h]
  exact ⟨_, rfl⟩
theorem scBag : FnScope ["_law_script", "_law_at", "_law_cell", "_law_great"] ["_law_script", "_law_at"] (defScope sBag) := ⟨rfl, rfl, rfl, by decide +kernel, rfl, by decide +kernel, by decide +kernel⟩
theorem okBag (T : Txt K mg) (F : FunD K "_law_bag" "_law_bag" (defArgs sBag) (defBody sBag) (defScope sBag) [] [] f fd) : FnOk P w K mg base CX0 1 f fd ["_law_script", "_law_at"] (spBag K) := by
  refine F.ok scBag (fun vs H Q E h => ?_) (fun cdv A outer s H vs Q E hr h => ?_)
  · obtain ⟨a, ns, n, rfl, _⟩ := h
    rfl
  · refine ⟨_, PSs.nox (pss_cons (ps_set (i := 2) scBag.nd rfl (Or.inl rfl) (pe_ifExp (pt_cmpR op_lt (pv 1) (pe_callB call_len_seq rfl (T.fr "len" (by decide +kernel)) PySem.boot_len (pa_cons (pv 0) pa_nil)) (nomark _)) (pe_ix ix_list (pv 0) (pv 1) (fun _ _ => rfl)) pe_int))
      (pss_cons (ps_set (i := 3) scBag.nd rfl (Or.inl rfl) (pe_ifExp (pt_cmpR op_ge (pe_callB call_abs rfl (T.fr "abs" (by decide +kernel)) (by decide +kernel) (pa_cons (pv 2) pa_nil)) (pe_op op_pow pe_int pe_int) (nomark _)) (pe_callB call_abs rfl (T.fr "abs" (by decide +kernel)) (by decide +kernel) (pa_cons (pv 2) pa_nil)) pe_int))
      (pss_one (ps_ret (pe_lst (pa_cons (pv 3) (pa_cons (pe_op op_mod (pe_op op_mul (pe_op op_add (pe_op op_add (pe_op op_mod (pv 2) pe_int) (pe_op op_mul pe_int (pv 1))) pe_int) pe_int) pe_int) (pa_cons pe_int pa_nil)))))))), ?_⟩
    obtain ⟨a, ns, n, rfl, hS, hn, k⟩ := h
    -- behind the first statement the cell is some int z
    have rest : ∀ z : Int, ∀ g : Int, tRet (tLst (tCons (tVar 3) (tCons (tOp (rI (fun _ j => 0 < j) fun i j => .int (i % j)) (tOp (rI CMul fun i j => .int (i * j)) (tOp (rI0 fun i j => .int (i + j)) (tOp (rI0 fun i j => .int (i + j)) (tOp (rI (fun _ j => 0 < j) fun i j => .int (i % j)) (tVar 2) (tC (.int 2305843009213693951))) (tOp (rI CMul fun i j => .int (i * j)) (tC (.int 6151)) (tVar 1))) (tC (.int 13))) (tC (.int 40692))) (tC (.int 2305843009213693951))) (tCons (tC (.int 0)) tNil))))
        { nx := fun _ H' => Q .non H', rt := Q } [some (.ref a), some (.int n), some (.int z), some (.int g)] H := fun z g => by
      refine ⟨_, rfl, _, rfl, _, _, rfl, rfl, (by show (0 : Int) < 2305843009213693951; decide), _, rfl, _, _, rfl, rfl, .inl ⟨by decide, by decide⟩, _, _, rfl, rfl, _, _, rfl, rfl, _, _, rfl, rfl, .inr ⟨by decide, by decide⟩, _, _, rfl, rfl, (by show (0 : Int) < 2305843009213693951; decide), (by show 3 ≤ sizeLine; decide), fun q hq => ?_⟩
      exact k q _ _ hq (Int.emod_nonneg _ (by decide)) (Int.emod_lt_of_pos _ (by decide))
    have next : ∀ z : Int, tSeq (tAsg (tIf (tTest (tOp (rI0 fun i j => .bl (decide (j ≤ i))) (tCB (fun xs H Q => ∃ i, xs = [.int i] ∧ Q (.int (if i < 0 then -i else i)) H) (tCons (tVar 2) tNil)) (tOp (rI CPow fun i j => .int (i ^ j.toNat)) (tC (.int 10)) (tC (.int 18))))) (tCB (fun xs H Q => ∃ i, xs = [.int i] ∧ Q (.int (if i < 0 then -i else i)) H) (tCons (tVar 2) tNil)) (tC (.int 0))) (gName 3)) (tRet (tLst (tCons (tVar 3) (tCons (tOp (rI (fun _ j => 0 < j) fun i j => .int (i % j)) (tOp (rI CMul fun i j => .int (i * j)) (tOp (rI0 fun i j => .int (i + j)) (tOp (rI0 fun i j => .int (i + j)) (tOp (rI (fun _ j => 0 < j) fun i j => .int (i % j)) (tVar 2) (tC (.int 2305843009213693951))) (tOp (rI CMul fun i j => .int (i * j)) (tC (.int 6151)) (tVar 1))) (tC (.int 13))) (tC (.int 40692))) (tC (.int 2305843009213693951))) (tCons (tC (.int 0)) tNil)))))
        { nx := fun _ H' => Q .non H', rt := Q } [some (.ref a), some (.int n), some (.int z), none] H := fun z => by
      refine ⟨_, rfl, _, rfl, _, _, rfl, rfl, ⟨by decide, by decide, by decide⟩, _, _, rfl, rfl, _, rfl, ?_⟩
      refine ite2 (fun _ => ?_) (fun _ => ?_)
      · exact ⟨_, rfl, _, rfl, rest z _⟩
      · exact rest z _
    refine ⟨_, rfl, _, rfl, a, _, rfl, .inl hS, _, _, rfl, rfl, _, rfl, ?_⟩
    by_cases hlt : n < ns.length
    · refine cY (decide_eq_true (by rw [List.length_map]; omega)) ?_
      obtain ⟨z, hz⟩ := ints_at hlt
      exact ⟨_, rfl, _, rfl, a, _, _, _, rfl, rfl, hS, atI_nat hz, next z⟩
    · refine cN (decide_eq_false (by rw [List.length_map]; omega)) ?_
      exact next 0
theorem scTake : FnScope ["_law_bag_here", "_law_many", "_law_digit", "_law_mixed"] ["_law_bag_here", "_law_many"] (defScope sTake) := ⟨rfl, rfl, rfl, by decide +kernel, rfl, by decide +kernel, by decide +kernel⟩
theorem okTake (F : FunD K "_law_take" "_law_take" (defArgs sTake) (defBody sTake) (defScope sTake) [] [] f fd) : FnOk P w K mg base CX0 1 f fd ["_law_bag_here", "_law_many"] spTake := by
  refine F.ok scTake (fun vs H Q E h => ?_) (fun cdv A outer s H vs Q E hr h => ?_)
  · obtain ⟨q, many, c, rfl, _⟩ := h
    rfl
  · refine ⟨_, PSs.nox (pss_cons (ps_if (pt_cmpR op_gt (pe_ix ix_list (pv 0) pe_int (fun _ _ => rfl)) pe_int (nomark _))
        (pss_cons (ps_set (i := 2) scTake.nd rfl (Or.inl rfl) (pe_op op_mod (pe_ix ix_list (pv 0) pe_int (fun _ _ => rfl)) (pv 1)))
        (pss_cons (ps_asg (pe_op op_fdiv (pe_ix ix_list (pv 0) pe_int (fun _ _ => rfl)) (pv 1)) (pg_sub (pv 0) pe_int set_list))
        (pss_one (ps_ret (pv 2))))) pss_nil)
      (pss_cons (ps_asg (pe_op op_add (pe_ix ix_list (pv 0) pe_int (fun _ _ => rfl)) pe_int) (pg_sub (pv 0) pe_int set_list))
      (pss_cons (ps_set (i := 3) scTake.nd rfl (Or.inl rfl) (pe_op op_mod (pe_op op_pow (pe_op op_add (pe_ix ix_list (pv 0) pe_int (fun _ _ => rfl)) (pe_op op_mul pe_int (pe_ix ix_list (pv 0) pe_int (fun _ _ => rfl)))) pe_int) pe_int))
      (pss_cons (ps_set (i := 3) scTake.nd rfl (Or.inl rfl) (pe_op op_mod (pe_op op_pow (pe_op op_add (pv 3) (pe_op op_mul pe_int (pe_ix ix_list (pv 0) pe_int (fun _ _ => rfl)))) pe_int) pe_int))
      (pss_one (ps_ret (pe_op op_mod (pe_op op_fdiv (pv 3) pe_int) (pv 1)))))))), ?_⟩
    obtain ⟨q, many, c, rfl, h1, h2, ⟨g, m, hq, m0, m1⟩, c0, c1, k⟩ := h
    refine ⟨_, rfl, q, _, _, _, rfl, rfl, SqL.of hq, rfl, _, _, rfl, rfl, _, rfl, ?_⟩
    refine ite2 (fun _ => ?_) (fun _ => ?_)
    · refine ⟨_, rfl, q, _, _, _, rfl, rfl, SqL.of hq, rfl, _, rfl, _, _, rfl, rfl, h1, ?_⟩
      refine ⟨_, rfl, q, _, _, _, rfl, rfl, SqL.of hq, rfl, _, rfl, _, _, rfl, rfl, ⟨h1, by omega⟩, ?_⟩
      refine ⟨_, rfl, q, _, _, _, rfl, rfl, hq, rfl, _, rfl, ?_⟩
      exact k _ _ _ _ (Int.emod_nonneg _ (by omega)) (Int.emod_lt_of_pos _ h1) c0 (by omega) m0 m1
    · refine ⟨_, rfl, q, _, _, _, rfl, rfl, SqL.of hq, rfl, _, _, rfl, rfl, ?_⟩
      refine ⟨_, rfl, q, _, _, _, rfl, rfl, hq, rfl, ?_⟩
      have hq2 : (upd H q (.lst ([V.int g, .int m, .int c].set 2 (.int (c + 1))))) q = some (.lst [.int g, .int m, .int (c + 1)]) := upd_same
      refine ⟨_, rfl, q, _, _, _, rfl, rfl, SqL.of hq2, rfl, _, rfl, q, _, _, _, rfl, rfl, SqL.of hq2, rfl, _, _, rfl, rfl, .inl ⟨by decide, by decide⟩, _, _, rfl, rfl, _, _, rfl, rfl, ⟨by decide, by decide, by omega⟩, _, _, rfl, rfl, (by show (0 : Int) < 2305843009213693921; decide), ?_⟩
      have p0 := Int.emod_nonneg ((m + 1000081 * (c + 1)) ^ (3 : Int).toNat) (show (2305843009213693921 : Int) ≠ 0 by decide)
      have p1 := Int.emod_lt_of_pos ((m + 1000081 * (c + 1)) ^ (3 : Int).toNat) (show (0 : Int) < 2305843009213693921 by decide)
      generalize hp : (m + 1000081 * (c + 1)) ^ (3 : Int).toNat % 2305843009213693921 = p at p0 p1 ⊢
      refine ⟨_, rfl, _, rfl, q, _, _, _, rfl, rfl, SqL.of hq2, rfl, _, _, rfl, rfl, .inl ⟨by decide, by decide⟩, _, _, rfl, rfl, _, _, rfl, rfl, ⟨by decide, by decide, by omega⟩, _, _, rfl, rfl, (by show (0 : Int) < 2305843009213693951; decide), ?_⟩
      refine ⟨_, rfl, _, _, rfl, rfl, ⟨by decide, by decide⟩, _, rfl, _, _, rfl, rfl, h1, ?_⟩
      exact k _ _ _ _ (Int.emod_nonneg _ (by omega)) (Int.emod_lt_of_pos _ h1) (by omega) (by omega) m0 m1
end
end K86


set_option Elab.async false
set_option linter.all false
set_option maxRecDepth 100000
set_option maxHeartbeats 4000000
/-! k86: the law's own def. -/
namespace K86
open PySem PySem.Spec L2 PyProof.Rows
def baseT : List Str := ["ValueError", "ArithmeticError", "ValueError", "KeyError", "ValueError", "IndexError", "ValueError", "ValueError", "TypeError", "OverflowError", "LookupError", "OverflowError", "ValueError", "RuntimeError", "RuntimeError", "RuntimeError", "LookupError", "IndexError", "ValueError"]
def bT (i : Nat) : Str := baseT.getD i ""
def kvsB (l1 l2 l3 : Addr) : List (Key × V) := [(.inr "KeyError", .ref l1), (.inr "IndexError", .ref l2), (.inr "OverflowError", .ref l3)]
theorem base_get : ∀ i, i < 19 → (baseT.map V.str)[i]? = some (V.str (bT i))
  | 0, _ | 1, _ | 2, _ | 3, _ | 4, _ | 5, _ | 6, _ | 7, _ | 8, _ | 9, _ | 10, _ | 11, _ | 12, _ | 13, _ | 14, _ | 15, _ | 16, _ | 17, _ | 18, _ => rfl
  | n + 19, h => absurd h (by omega)
/-- the classes above, by the table -/
theorem above_of (l1 l2 l3 : Addr) : ∀ i, i < 19 → (valV (kvsB l1 l2 l3) (.inr (bT i)) = none ∧ aboveV i = [V.str (bT i)]) ∨ (valV (kvsB l1 l2 l3) (.inr (bT i)) = some (.ref l1) ∧ aboveV i = [V.str "LookupError", V.str (bT i)]) ∨
    (valV (kvsB l1 l2 l3) (.inr (bT i)) = some (.ref l2) ∧ aboveV i = [V.str "LookupError", V.str (bT i)]) ∨ (valV (kvsB l1 l2 l3) (.inr (bT i)) = some (.ref l3) ∧ aboveV i = [V.str "ArithmeticError", V.str (bT i)])
  | 0, _ | 1, _ | 2, _ | 4, _ | 6, _ | 7, _ | 8, _ | 10, _ | 12, _ | 13, _ | 14, _ | 15, _ | 16, _ | 18, _ => .inl ⟨by kernel_rfl, by kernel_rfl⟩
  | 3, _ => .inr (.inl ⟨by kernel_rfl, by kernel_rfl⟩)
  | 5, _ | 17, _ => .inr (.inr (.inl ⟨by kernel_rfl, by kernel_rfl⟩))
  | 9, _ | 11, _ => .inr (.inr (.inr ⟨by kernel_rfl, by kernel_rfl⟩))
  | n + 19, h => absurd h (by omega)
/-- texts as data -/
def strD : V → PyData
  | .str x => .str x
  | _ => .none
theorem above_data {K : PySem.W.Frag} {H : Hp} : ∀ i, i < 19 → DpAll K H (aboveV i) ((aboveV i).map strD) ∧ PyData.canLayAll0 ((aboveV i).map strD) = true ∧ PyData.depthAll ((aboveV i).map strD) = 0 := fun i hi => by
  have key : ∀ xs : List Str, (xs.all PyData.strOk) = true → DpAll K H (xs.map V.str) ((xs.map V.str).map strD) ∧ PyData.canLayAll0 ((xs.map V.str).map strD) = true ∧ PyData.depthAll ((xs.map V.str).map strD) = 0 := by
    intro xs
    induction xs with
    | nil => exact fun _ => ⟨.nil, rfl, rfl⟩
    | cons x xs ih =>
      intro h
      rw [List.all_cons, Bool.and_eq_true] at h
      obtain ⟨h1, h2, h3⟩ := ih h.2
      refine ⟨.cons (.str x) h1, ?_, ?_⟩
      · show (PyData.canLay0 (.str x) && PyData.canLayAll0 ((xs.map V.str).map strD)) = true
        rw [h2, Bool.and_true]
        exact h.1
      · show max (PyData.depth (.str x)) (PyData.depthAll ((xs.map V.str).map strD)) = 0
        rw [h3] <;> rfl
  have hb : PyData.strOk (bT i) = true := by
    have z : (baseT.all PyData.strOk) = true := by decide +kernel
    have e := base_get i hi
    rw [List.getElem?_map] at e
    obtain ⟨y, e1, e2⟩ := Option.map_eq_some_iff.mp e
    obtain rfl : y = bT i := by injection e2
    exact List.all_eq_true.mp z _ (List.mem_of_getElem? e1)
  rcases above_of 0 0 0 i hi with h | h | h | h
  · rw [h.2]
    exact key [bT i] (by simp [hb])
  · rw [h.2]
    exact key ["LookupError", bT i] (by rw [List.all_cons, List.all_cons, hb]; decide +kernel)
  · rw [h.2]
    exact key ["LookupError", bT i] (by rw [List.all_cons, List.all_cons, hb]; decide +kernel)
  · rw [h.2]
    exact key ["ArithmeticError", bT i] (by rw [List.all_cons, List.all_cons, hb]; decide +kernel)
/-- what the law draws: it can be shown, and its text is a text -/
structure Thg (K : PySem.W.Frag) (H : Hp) (v : V) (d : PyData) : Prop extends Shw K H v d where
  tx : PyData.strOk d.shown = true
theorem Thg.same {K : PySem.W.Frag} {H H' : Hp} {v : V} {d : PyData} (h : Thg K H v d) (s : Same H H') : Thg K H' v d := ⟨⟨h.dx.same s, h.sh, h.ln, h.dp⟩, h.tx⟩
def thgB (d : PyData) : Bool := d.showable && decide (d.shown.length ≤ 1000) && decide (d.depth ≤ 60) && PyData.strOk d.shown
theorem Thg.of {K : PySem.W.Frag} {H : Hp} {v : V} {d : PyData} (h : Hx.Dx K H v d) (b : thgB d = true) : Thg K H v d := by
  unfold thgB at b
  simp only [Bool.and_eq_true] at b
  exact ⟨⟨h, b.1.1.1, Nat.le_trans (of_decide_eq_true b.1.1.2) (by decide), of_decide_eq_true b.1.2⟩, b.2⟩
theorem thg_num {K : PySem.W.Frag} {H : Hp} {r : Int} (h0 : 0 ≤ r) (h1 : r < 300) : Thg K H (.int r) (.int r) := by
  have z : ((List.range 300).all fun n => thgB (.int n)) = true := by decide +kernel
  obtain ⟨n, rfl⟩ := Int.eq_ofNat_of_zero_le h0
  exact Thg.of (.int _) (List.all_eq_true.mp z n (List.mem_range.mpr (by omega)))
def someV (t1 l2 d3 : Addr) : List V := [.int 0, .int 3, .str "a", .non, .ref t1, .ref l2, .bl true, .int (-7), .str "", .ref d3, .int (10 ^ (39 : Int).toNat), .str "zzzzzz"]
theorem some_get {K : PySem.W.Frag} {H : Hp} {t1 l2 d3 : Addr} (e1 : H t1 = some (.tup [.str "x", .int 1])) (e2 : H l2 = some (.lst [.int 2])) (e3 : H d3 = some (.dK [])) {r : Int} (h0 : 0 ≤ r) (h1 : r < 12) :
    ∃ v d, atI (someV t1 l2 d3) r = some v ∧ Thg K H v d := by
  obtain ⟨n, rfl⟩ := Int.eq_ofNat_of_zero_le h0
  have hn : n < 12 := by omega
  have fin : ∀ {v : V} {d : PyData}, (someV t1 l2 d3)[n]? = some v → Hx.Dx K H v d → thgB d = true → ∃ v d, atI (someV t1 l2 d3) (n : Int) = some v ∧ Thg K H v d := fun a b c => ⟨_, _, atI_nat a, Thg.of b c⟩
  obtain rfl | rfl | rfl | rfl | rfl | rfl | rfl | rfl | rfl | rfl | rfl | rfl : n = 0 ∨ n = 1 ∨ n = 2 ∨ n = 3 ∨ n = 4 ∨ n = 5 ∨ n = 6 ∨ n = 7 ∨ n = 8 ∨ n = 9 ∨ n = 10 ∨ n = 11 := by omega
  · exact fin rfl (.int _) (by decide +kernel)
  · exact fin rfl (.int _) (by decide +kernel)
  · exact fin rfl (.str _) (by decide +kernel)
  · exact fin rfl .non (by decide +kernel)
  · exact fin rfl (.tup (SqT.of e1) (.cons (.str _) (.cons (.int _) .nil))) (by decide +kernel)
  · exact fin rfl (.lst (.inl e2) (.cons (.int _) .nil)) (by decide +kernel)
  · exact fin rfl (.bl _) (by decide +kernel)
  · exact fin rfl (.int _) (by decide +kernel)
  · exact fin rfl (.str _) (by decide +kernel)
  · exact fin rfl (.dic (.inl e3) .nil) (by decide +kernel)
  · exact fin rfl (.int _) (by decide +kernel)
  · exact fin rfl (.str _) (by decide +kernel)
theorem same_over {H H1 : Hp} {p : Addr} {o : HO} (s : Same H H1) (hp : H p = none) : Same H (upd H1 p o) := fun b u e => by
  rw [upd_ne (ne_of_none e hp)]
  exact s b u e
theorem ne_at {H : Hp} {p q : Addr} {u v : HO} (hp : H p = some u) (hq : H q = some v) (h : u ≠ v) : p ≠ q := fun z => by
  subst z
  exact h (Option.some.inj (hp.symm.trans hq))
theorem sql_same {K : PySem.W.Frag} {H H' : Hp} {a : Addr} {xs : List V} (h : SqL K H a xs) (s : Same H H') : SqL K H' a xs := h.imp (fun z => Hx.Rd.same z s) id
theorem if_pick {c : Bool} {x y : V} {R : V → Prop} (h : R (if c = true then x else y)) : if c = true then (∃ v, some (some x) = some (some v) ∧ R v) else (∃ v, some (some y) = some (some v) ∧ R v) := by
  cases c with
  | true => exact ⟨_, rfl, h⟩
  | false => exact ⟨_, rfl, h⟩
/-- told and due are alike -/
theorem ne_no {K : PySem.W.Frag} {H : Hp} {q1 q2 a1 a2 b1 b2 : Addr} {j : Nat} {txt : Str} (hj : j < 19) (ht : PyData.strOk txt = true) (e1 : H q1 = some (.lst [.ref a1, .ref a2, .str txt])) (e2 : H a1 = some (.lst [.int j])) (e3 : H a2 = some (.lst (aboveV j)))
    (d1 : H q2 = some (.lst [.ref b1, .ref b2, .str txt])) (d2 : H b1 = some (.lst [.int j])) (d3 : H b2 = some (.lst (aboveV j))) {Q : VK} (q : Q (.bl false) H) : rNeD K (.ref q1) (.ref q2) H Q := by
  obtain ⟨z1, z2, z3⟩ := above_data (K := K) (H := H) j hj
  have cl0 : PyData.canLay0 (.list [.list [.int j], .list ((aboveV j).map strD), .str txt]) = true := by
    show (PyData.canLayAll0 [.int j] && (PyData.canLayAll0 ((aboveV j).map strD) && (PyData.strOk txt && true))) = true
    rw [z2, ht]
    rfl
  have sh : SeqAt.shaped (.list [.list [.int j], .list ((aboveV j).map strD), .str txt]) = true := by
    unfold SeqAt.shaped
    rw [cl0, Bool.true_and]
    refine decide_eq_true ?_
    show max (PyData.depthAll [.int j] + 1) (max (PyData.depthAll ((aboveV j).map strD) + 1) (max 0 0)) + 1 ≤ 64
    rw [z3]
    show max (max 0 0 + 1) (max (0 + 1) (max 0 0)) + 1 ≤ 64
    decide
  refine ⟨_, _, .lst (SqL.of e1) (.cons (.lst (SqL.of e2) (.cons (.int _) .nil)) (.cons (.lst (SqL.of e3) z1) (.cons (.str _) .nil))), .lst (SqL.of d1) (.cons (.lst (SqL.of d2) (.cons (.int _) .nil)) (.cons (.lst (SqL.of d3) z1) (.cons (.str _) .nil))), sh, sh, ?_⟩
  rw [SeqAt.eqv_refl _ cl0]
  exact q
/-- the item of the table, or the new list -/
theorem table_get {H : Hp} {l1 l2 l3 p : Addr} {j : Nat} (hj : j < 19) (e1 : H l1 = some (.lst [.str "LookupError"])) (e2 : H l2 = some (.lst [.str "LookupError"])) (e3 : H l3 = some (.lst [.str "ArithmeticError"])) (ep : H p = some (.lst [])) :
    ∃ l xs, (valV (kvsB l1 l2 l3) (.inr (bT j))).getD (.ref p) = .ref l ∧ H l = some (.lst xs) ∧ xs ++ [V.str (bT j)] = aboveV j ∧ xs.length ≤ 1 := by
  rcases above_of l1 l2 l3 j hj with h | h | h | h <;> rw [h.1, h.2]
  · exact ⟨p, [], rfl, ep, rfl, by decide⟩
  · exact ⟨l1, _, rfl, e1, rfl, Nat.le_refl _⟩
  · exact ⟨l2, _, rfl, e2, rfl, Nat.le_refl _⟩
  · exact ⟨l3, _, rfl, e3, rfl, Nat.le_refl _⟩
theorem split_is : PySem.Txt.split ((("ValueError ArithmeticError ValueError KeyError ValueError IndexError ValueError" : Str) ++ (" ValueError TypeError OverflowError LookupError OverflowError ValueError" : Str)) ++ (" RuntimeError RuntimeError RuntimeError LookupError IndexError ValueError" : Str)) (" " : Str) = baseT := by decide +kernel
/-- which of the two is handed on -/
theorem one_ok {K : PySem.W.Frag} {H : Hp} {j : Nat} {th : V} {r : Int} {d : PyData} (hj : j < 19) (h : Thg K H th d) (h0 : 0 ≤ r) (h1 : r < 300) : ∃ e, okv j (if inV (.int j) [.int 6, .int 7, .int 9, .int 11, .int 12] = true then .int r else th) ∧ Thg K H (if inV (.int j) [.int 6, .int 7, .int 9, .int 11, .int 12] = true then .int r else th) e := by
  have lg : r.natAbs.log2 < 1920 := by
    refine Nat.lt_of_le_of_lt (Nat.log2_le_self _) ?_
    omega
  have key : inV (.int j) [.int 6, .int 7, .int 9, .int 11, .int 12] = decide (j = 6 ∨ j = 7 ∨ j = 9 ∨ j = 11 ∨ j = 12) := by
    revert hj
    revert j
    decide +kernel
  rw [key]
  unfold okv
  by_cases hc : j = 6 ∨ j = 7 ∨ j = 9 ∨ j = 11 ∨ j = 12
  · rw [decide_eq_true hc, if_pos rfl, if_pos hc]
    exact ⟨_, ⟨r, rfl, lg⟩, thg_num h0 h1⟩
  · rw [decide_eq_false hc, if_neg Bool.false_ne_true, if_neg hc]
    exact ⟨_, trivial, h⟩
theorem bnd (m : Nat) : -(2 ^ 62) ≤ (if (if (m : Int) < 6 then (m : Int) else 6) > 2 then (if (m : Int) < 6 then (m : Int) else 6) else 2) ∧ (if (if (m : Int) < 6 then (m : Int) else 6) > 2 then (if (m : Int) < 6 then (m : Int) else 6) else 2) < 2 ^ 62 ∧
    (if (if (m : Int) < 6 then (m : Int) else 6) > 2 then (if (m : Int) < 6 then (m : Int) else 6) else 2).toNat ≤ 6 := by
  split <;> split <;> refine ⟨?_, ?_, ?_⟩ <;> omega
def spLaw (K : PySem.W.Frag) : Sp := fun vs H Q _ => ∃ (a : Addr) (ns : List Int), vs = [.ref a] ∧ SqL K H a (ns.map V.int) ∧ ∀ H', Q (.bl true) H'
section
variable {P : Program} {w : World} {K : PySem.W.Frag} {mg : Str → Option Value} {base : Heap} {fd : FuncData} {f : Addr}
abbrev lawN : List Str := ["_law_script", "_law_bases", "_law_above_here", "_law_at", "_law_bag_here", "_law_some", "_law_thing", "_law_number", "_law_way", "_law_one", "_law_classes", "_law_due"]
theorem scLaw : FnScope lawN ["_law_script"] (defScope sLaw) := ⟨rfl, rfl, rfl, by decide +kernel, rfl, by decide +kernel, by decide +kernel⟩
theorem okLaw (T : Txt K mg) (c : obsK K = valK) (F : FunD K "law" "law" (defArgs sLaw) (defBody sLaw) (defScope sLaw) [] [] f fd) : Hx.FnG P w K mg base CX0 9 f fd ["_law_script"] (spLaw K) := by
  obtain ⟨f1, F1⟩ := def_of c (d := defL "_law_bag" sBag) (by simp [fn])
  obtain ⟨f2, F2⟩ := def_of c (d := defL "_law_take" sTake) (by simp [fn])
  obtain ⟨f3, F3⟩ := def_of c (d := defL "_law_told" sTold) (by simp [fn])
  have b1 : Binds K f1 ["_law_script", "_law_at"] [] := F1.bindsN fun _ _ _ _ _ _ us hl => match us, hl with | [_, _], _ => rfl
  have b2 : Binds K f2 ["_law_bag_here", "_law_many"] [] := F2.bindsN fun _ _ _ _ _ _ us hl => match us, hl with | [_, _], _ => rfl
  have b3 : Binds K f3 ["_law_way", "_law_one"] [] := F3.bindsN fun _ _ _ _ _ _ us hl => match us, hl with | [_, _], _ => rfl
  refine Hx.okG F scLaw (fun vs H Q E h => ?_) (fun cdv A outer s H vs Q E hr hgd h => ?_)
  · obtain ⟨a, ns, rfl, _⟩ := h
    rfl
  · have hr1 : Room 1 _ := hr.mono (by decide)
    refine ⟨_, PSs.nox (pss_cons (ps_set (i := 1) scLaw.nd rfl (Or.inl rfl) pe_str)
      (pss_cons (ps_set (i := 1) scLaw.nd rfl (Or.inl rfl) (pe_op op_add_str (pv 1) pe_str))
      (pss_cons (ps_set (i := 1) scLaw.nd rfl (Or.inl rfl) (pe_split (pe_op op_add_str (pv 1) pe_str) pe_str))
      (pss_cons (ps_set (i := 2) scLaw.nd rfl (Or.inl rfl) (pe_disp (pps_cons pe_str (pe_lst (pa_cons pe_str pa_nil)) (pps_cons pe_str (pe_lst (pa_cons pe_str pa_nil)) (pps_cons pe_str (pe_lst (pa_cons pe_str pa_nil)) pps_nil))) (by rfl) (by rfl) (fun z => by cases z) (by decide)))
      (pss_cons (ps_for PassesOwn.never rfl (pi_range1 rfl (T.fr "range" (by decide +kernel)) (pa_cons (pe_callB (call_max2 rfl) rfl (T.fr "max" (by decide +kernel)) (by decide +kernel) (pa_cons pe_int (pa_cons (pe_callB (call_min2 rfl) rfl (T.fr "min" (by decide +kernel)) (by decide +kernel) (pa_cons pe_int (pa_cons (pe_callB call_len_seq rfl (T.fr "len" (by decide +kernel)) PySem.boot_len (pa_cons (pv 0) pa_nil)) pa_nil))) pa_nil))) pa_nil)) (pg_name (i := 3) scLaw.nd rfl (Or.inl rfl))
        (pss_cons (ps_set (i := 4) scLaw.nd rfl (Or.inl rfl) (pe_call (okBag T F1) hr1 rfl (T.gf "_law_bag" (by decide +kernel)) F1.kp b1 .nil pass0 (pa_cons (pv 0) (pa_cons (pv 3) pa_nil))))
        (pss_cons (ps_set (i := 5) scLaw.nd rfl (Or.inl rfl) (pe_lst (pa_cons pe_int (pa_cons pe_int (pa_cons pe_str (pa_cons pe_non (pa_cons (pe_tup (pa_cons pe_str (pa_cons pe_int pa_nil))) (pa_cons (pe_lst (pa_cons pe_int pa_nil)) (pa_cons pe_bl (pa_cons (pe_un un_neg pe_int) (pa_cons pe_str (pa_cons pe_dnewK (pa_cons (pe_op op_pow pe_int pe_int) (pa_cons pe_str pa_nil))))))))))))))
        (pss_cons (ps_par (i := 6) (j := 7) (by rfl) scLaw.nd rfl rfl (by decide) rfl rfl (pa_cons (pe_ix ix_list (pv 5) (pe_call (okTake F2) hr1 rfl (T.gf "_law_take" (by decide +kernel)) F2.kp b2 .nil pass0 (pa_cons (pv 4) (pa_cons pe_int pa_nil))) (fun _ _ => rfl)) (pa_cons (pe_call (okTake F2) hr1 rfl (T.gf "_law_take" (by decide +kernel)) F2.kp b2 .nil pass0 (pa_cons (pv 4) (pa_cons pe_int pa_nil))) pa_nil)) (by rfl))
        (pss_one (ps_for PassesOwn.never rfl (pi_range1 rfl (T.fr "range" (by decide +kernel)) (pa_cons pe_int pa_nil)) (pg_name (i := 8) scLaw.nd rfl (Or.inl rfl))
          (pss_cons (ps_set (i := 9) scLaw.nd rfl (Or.inl rfl) (pe_ifExp (pt_cmpR op_in_seq (pv 8) (pe_lst (pa_cons pe_int (pa_cons pe_int (pa_cons pe_int (pa_cons pe_int (pa_cons pe_int pa_nil)))))) (by with_unfolding_all rfl)) (pv 7) (pv 6)))
          (pss_cons (ps_set (i := 10) scLaw.nd rfl (Or.inl rfl) (pe_op op_cat (pe_dget2 (Nat.lt_of_le_of_lt (Nat.add_le_add_left (by decide) _) hr.units) (pv 2) (pe_ix ix_list (pv 1) (pv 8) (fun _ _ => rfl)) (pe_lst pa_nil) ⟨rfl, rfl, rfl, rfl⟩) (pe_lst (pa_cons (pe_ix ix_list (pv 1) (pv 8) (fun _ _ => rfl)) pa_nil))))
          (pss_cons (ps_set (i := 11) scLaw.nd rfl (Or.inl rfl) (pe_lst (pa_cons (pe_lst (pa_cons (pv 8) pa_nil)) (pa_cons (pv 10) (pa_cons (pe_ifExp (pt_cmpR op_lt (pv 8) pe_int (nomark _)) (pe_callB (Hx.call_reprD hgd hr.units) rfl (T.fr "repr" (by decide +kernel)) (by decide +kernel) (pa_cons (pv 9) pa_nil)) pe_str) pa_nil)))))
          (pss_one (ps_if (pt_cmpR (op_neD hr.units) (Hx.pe_callG (okTold T c F3) hr hgd rfl (T.gf "_law_told" (by decide +kernel)) F3.kp b3 .nil pass0 (pa_cons (pv 8) (pa_cons (pv 9) pa_nil))) (pv 11) (nomark _))
            (pss_one (ps_ret pe_bl)) pss_nil)))))))))))
      (pss_one (ps_ret pe_bl))))))), ?_⟩
    obtain ⟨a, ns, rfl, hS, k⟩ := h
    refine ⟨_, rfl, _, _, rfl, rfl, (by decide +kernel), _, rfl, _, _, rfl, rfl, (by decide +kernel), ⟨_, rfl⟩, _, _, rfl, rfl, rfl, (by decide +kernel), fun b1 hb1 => ?_⟩
    rw [split_is]
    refine fun dd hdd => ⟨(by show 1 ≤ sizeLine; decide), fun l1 hl1 => ⟨(by show 1 ≤ sizeLine; decide), fun l2 hl2 => ⟨(by show 1 ≤ sizeLine; decide), fun l3 hl3 => ⟨?_, [(.inr "KeyError", .ref l1), (.inr "IndexError", .ref l2), (.inr "OverflowError", .ref l3)], rfl, (by show 3 ≤ 15; decide), ?_⟩⟩⟩⟩
    · exact (Hx.same_upd (Hx.same_upd (Hx.same_upd (Same.refl _) hl1) hl2) hl3) dd _ upd_same
    have em : mergeK [] [((.inr "KeyError" : Key), V.ref l1), (.inr "IndexError", .ref l2), (.inr "OverflowError", .ref l3)] = kvsB l1 l2 l3 := by kernel_rfl
    rw [em]
    -- the heap before the loop
    have s1 : Same H (upd H b1 (.lst (baseT.map V.str))) := Hx.same_upd (Same.refl _) hb1
    have s2 := Hx.same_upd (o := HO.dK []) (Same.refl (upd H b1 (.lst (baseT.map V.str)))) hdd
    have s3 := Hx.same_upd (o := HO.lst [V.str "LookupError"]) s2 hl1
    have s4 := Hx.same_upd (o := HO.lst [V.str "LookupError"]) s3 hl2
    have s5 := Hx.same_upd (o := HO.lst [V.str "ArithmeticError"]) s4 hl3
    have s6 := same_over (o := HO.dK (kvsB l1 l2 l3)) s5 hdd
    have n1 : l1 ≠ dd := fun z => by rw [z, upd_same] at hl1; cases hl1
    have t2 := (Hx.same_upd (o := HO.lst [V.str "LookupError"]) (Same.refl _) hl1) dd _ upd_same
    have n2 : l2 ≠ dd := fun z => by rw [z, t2] at hl2; cases hl2
    have t3 := (Hx.same_upd (o := HO.lst [V.str "LookupError"]) (Hx.same_upd (o := HO.lst [V.str "LookupError"]) (Same.refl _) hl1) hl2) dd _ upd_same
    have n3 : l3 ≠ dd := fun z => by rw [z, t3] at hl3; cases hl3
    generalize hH0 : upd (upd (upd (upd (upd (upd H b1 (.lst (baseT.map V.str))) dd (.dK [])) l1 (.lst [V.str "LookupError"])) l2 (.lst [V.str "LookupError"])) l3 (.lst [V.str "ArithmeticError"])) dd (.dK (kvsB l1 l2 l3)) = H0 at s6 ⊢
    have g0 : SqL K H0 a (ns.map V.int) := sql_same hS (s1.trans s6)
    have G1 : H0 b1 = some (.lst (baseT.map V.str)) := s6 _ _ upd_same
    have G2 : H0 dd = some (.dK (kvsB l1 l2 l3)) := by rw [← hH0]; exact upd_same
    have G5 : H0 l3 = some (.lst [V.str "ArithmeticError"]) := by rw [← hH0, upd_ne n3]; exact upd_same
    have G4 : H0 l2 = some (.lst [V.str "LookupError"]) := by rw [← hH0, upd_ne n2]; exact (Hx.same_upd (Same.refl _) hl3) _ _ upd_same
    have G3 : H0 l1 = some (.lst [V.str "LookupError"]) := by rw [← hH0, upd_ne n1]; exact (Hx.same_upd (Hx.same_upd (Same.refl _) hl2) hl3) _ _ upd_same
    clear hH0 s6 s5 s4 s3 s2 t2 t3 n1 n2 n3 hl1 hl2 hl3 hdd em
    refine ⟨_, rfl, a, _, rfl, .inl g0, _, _, rfl, _, _, rfl, _, rfl, ?_, ?_, ?_⟩
    · exact (bnd _).1
    · exact (bnd _).2.1
    have hn := fun m : Nat => (bnd m).2.2
    refine for_range (lo := 0) (fun _ σ H' => ∃ x3 x4 x5 x6 x7 x8 x9 x10 x11, σ = [some (.ref a), some (.ref b1), some (.ref dd), x3, x4, x5, x6, x7, x8, x9, x10, x11] ∧ Same H0 H') ⟨none, none, none, none, none, none, none, none, none, rfl, Same.refl _⟩ (fun i σ H' hi h => ?_) (fun σ H' h => ?_)
    · obtain ⟨x3, x4, x5, x6, x7, x8, x9, x10, x11, rfl, sm⟩ := h
      rw [Int.zero_add]
      have hi10 : i < 10 := Nat.lt_of_lt_of_le hi (Nat.le_trans (hn _) (by decide))
      refine ⟨_, rfl, _, rfl, a, ns, i, rfl, sql_same g0 sm, hi10, fun q g m hq m0 m1 => ?_⟩
      refine ⟨(by show 2 ≤ sizeLine; decide), fun t1 ht1 => ⟨(by show 1 ≤ sizeLine; decide), fun l4 hl4 => ⟨_, rfl, fun d5 hd5 => ⟨_, _, rfl, rfl, ⟨by decide, by decide, by decide⟩, (by show 12 ≤ sizeLine; decide), fun ls hls => ?_⟩⟩⟩⟩
      -- the heap behind the list of things
      have sq : Same H' (upd H' q (.lst [.int g, .int m, .int 0])) := Hx.same_upd (Same.refl _) hq
      have hqn := hq
      have u1 : Same (upd H' q (.lst [.int g, .int m, .int 0])) _ := Hx.same_upd (o := HO.tup [V.str "x", V.int 1]) (Same.refl _) ht1
      have u2 := Hx.same_upd (o := HO.lst [V.int 2]) u1 hl4
      have u3 := Hx.same_upd (o := HO.dK []) u2 hd5
      have u4 := Hx.same_upd (o := HO.lst (someV t1 l4 d5)) u3 hls
      have k1 := (Hx.same_upd (o := HO.lst (someV t1 l4 d5)) (Hx.same_upd (o := HO.dK []) (Hx.same_upd (o := HO.lst [V.int 2]) (Same.refl _) hl4) hd5) hls) t1 _ upd_same
      have k2 := (Hx.same_upd (o := HO.lst (someV t1 l4 d5)) (Hx.same_upd (o := HO.dK []) (Same.refl _) hd5) hls) l4 _ upd_same
      have k3 := (Hx.same_upd (o := HO.lst (someV t1 l4 d5)) (Same.refl _) hls) d5 _ upd_same
      have k4 : upd (upd (upd (upd (upd H' q (.lst [.int g, .int m, .int 0])) t1 (.tup [V.str "x", V.int 1])) l4 (.lst [V.int 2])) d5 (.dK [])) ls (.lst (someV t1 l4 d5)) ls = some (.lst (someV t1 l4 d5)) := upd_same
      have kq := u4 q _ upd_same
      have sm5 : Same H' (upd (upd (upd (upd (upd H' q (.lst [.int g, .int m, .int 0])) t1 (.tup [V.str "x", V.int 1])) l4 (.lst [V.int 2])) d5 (.dK [])) ls (.lst (someV t1 l4 d5))) := sq.trans u4
      
      refine ⟨_, rfl, _, rfl, q, 12, 0, rfl, by decide, by decide, ⟨g, m, kq, m0, m1⟩, by decide, by decide, fun r g1 m2 c1 r0 r1 c10 c11 m20 m21 => ?_⟩
      have nt1 : t1 ≠ q := ne_at k1 kq (fun z => by cases z)
      have nl4 : l4 ≠ q := ne_at k2 kq (by simp)
      have nd5 : d5 ≠ q := ne_at k3 kq (fun z => by cases z)
      have nls : ls ≠ q := ne_at k4 kq (by simp [someV])
      have k46 : (upd (upd (upd (upd (upd (upd H' q (.lst [.int g, .int m, .int 0])) t1 (.tup [V.str "x", V.int 1])) l4 (.lst [V.int 2])) d5 (.dK [])) ls (.lst (someV t1 l4 d5))) q (.lst [.int g1, .int m2, .int c1])) ls = some (.lst (someV t1 l4 d5)) := by rw [upd_ne nls]; exact k4
      obtain ⟨th, dth, hth, _⟩ := some_get (K := K) k1 k2 k3 r0 r1
      refine ⟨ls, _, r, th, rfl, rfl, SqL.of k46, hth, _, rfl, q, 300, c1, rfl, by decide, by decide, ⟨g1, m2, upd_same, m20, m21⟩, c10, by omega, fun r2 g3 m3 c3 r20 r21 _ _ _ _ => ⟨_, _, rfl, ?_⟩⟩
      have sm7 : Same H' (upd (upd (upd (upd (upd (upd (upd H' q (.lst [.int g, .int m, .int 0])) t1 (.tup [V.str "x", V.int 1])) l4 (.lst [V.int 2])) d5 (.dK [])) ls (.lst (someV t1 l4 d5))) q (.lst [.int g1, .int m2, .int c1])) q (.lst [.int g3, .int m3, .int c3])) := same_over (same_over sm5 hqn) hqn
      have j1 : (upd (upd (upd (upd (upd (upd (upd H' q (.lst [.int g, .int m, .int 0])) t1 (.tup [V.str "x", V.int 1])) l4 (.lst [V.int 2])) d5 (.dK [])) ls (.lst (someV t1 l4 d5))) q (.lst [.int g1, .int m2, .int c1])) q (.lst [.int g3, .int m3, .int c3])) t1 = some (.tup [V.str "x", V.int 1]) := by rw [upd_ne nt1, upd_ne nt1]; exact k1
      have j2 : (upd (upd (upd (upd (upd (upd (upd H' q (.lst [.int g, .int m, .int 0])) t1 (.tup [V.str "x", V.int 1])) l4 (.lst [V.int 2])) d5 (.dK [])) ls (.lst (someV t1 l4 d5))) q (.lst [.int g1, .int m2, .int c1])) q (.lst [.int g3, .int m3, .int c3])) l4 = some (.lst [V.int 2]) := by rw [upd_ne nl4, upd_ne nl4]; exact k2
      have j3 : (upd (upd (upd (upd (upd (upd (upd H' q (.lst [.int g, .int m, .int 0])) t1 (.tup [V.str "x", V.int 1])) l4 (.lst [V.int 2])) d5 (.dK [])) ls (.lst (someV t1 l4 d5))) q (.lst [.int g1, .int m2, .int c1])) q (.lst [.int g3, .int m3, .int c3])) d5 = some (.dK []) := by rw [upd_ne nd5, upd_ne nd5]; exact k3
      obtain ⟨th', dt, hth', thg⟩ := some_get (K := K) j1 j2 j3 r0 r1
      obtain rfl : th' = th := Option.some.inj (hth'.symm.trans hth)
      
      refine ⟨19, rfl, by decide, by decide, for_range (lo := 0) (n := 19) (fun _ σ Hx => ∃ x8 x9 x10 x11, σ = [some (.ref a), some (.ref b1), some (.ref dd), some (.int i), some (.ref q), some (.ref ls), some th', some (.int r2), x8, x9, x10, x11] ∧ Same H0 Hx ∧ Thg K Hx th' dt) ⟨x8, x9, x10, x11, rfl, sm.trans sm7, thg⟩ (fun j σ H8 hj h => ?_) (fun σ H8 h => ?_)⟩
      · obtain ⟨x8, x9, x10, x11, rfl, S8, thg8⟩ := h
        rw [Int.zero_add]
        refine ⟨_, rfl, (by show 5 ≤ sizeLine; decide), fun p1 hp1 => ⟨p1, _, rfl, .inl (SqL.of upd_same), rfl, rfl, inV (.int j) [.int 6, .int 7, .int 9, .int 11, .int 12], rfl, if_pick ?_⟩⟩
        have S9 : Same H8 (upd H8 p1 (.lst [.int 6, .int 7, .int 9, .int 11, .int 12])) := Hx.same_upd (Same.refl _) hp1
        obtain ⟨dv, hok, hthg⟩ := one_ok hj (thg8.same S9) r20 r21
        generalize (if inV (.int j) [.int 6, .int 7, .int 9, .int 11, .int 12] = true then V.int r2 else th') = one at hok hthg ⊢
        -- the classes
        refine ⟨_, rfl, dd, rfl, .inl ⟨_, .inl (S9 _ _ (S8 _ _ G2))⟩, _, rfl, _, rfl, b1, _, _, _, rfl, rfl, SqL.of (S9 _ _ (S8 _ _ G1)), atI_nat (base_get j hj), (by show 0 ≤ sizeLine; decide), fun p2 hp2 => ?_⟩
        have S10 := Hx.same_upd (o := HO.lst []) (Same.refl _) hp2
        have T10 := S8.trans (S9.trans S10)
        obtain ⟨l, xs, el, hl, exs, lxs⟩ := table_get hj (T10 _ _ G3) (T10 _ _ G4) (T10 _ _ G5) upd_same
        refine ⟨_, DGet.k (k := .inr (bT j)) (T10 _ _ G2), _, rfl, _, rfl, b1, _, _, _, rfl, rfl, SqL.of (T10 _ _ G1), atI_nat (base_get j hj), (by show 1 ≤ sizeLine; decide), fun p3 hp3 => ?_⟩
        have S11 := Hx.same_upd (o := HO.lst [V.str (bT j)]) (Same.refl _) hp3
        refine ⟨l, p3, xs, _, el, rfl, S11 _ _ hl, upd_same, Nat.le_trans (Nat.add_le_add_right lxs 1) (by decide), fun p4 hp4 => ?_⟩
        rw [exs]
        have S12 := Hx.same_upd (o := HO.lst (aboveV j)) (Same.refl _) hp4
        have U12 := (S9.trans S10).trans (S11.trans S12)
        -- what is due
        refine ⟨_, rfl, (by show 1 ≤ sizeLine; decide), fun p5 hp5 => ⟨_, rfl, _, rfl, _, _, rfl, rfl, _, rfl, ?_⟩⟩
        have S13 := Hx.same_upd (o := HO.lst [V.int j]) (Same.refl _) hp5
        have U13 := U12.trans S13
        have e4 := S13 _ _ (upd_same (a := p4) (o := HO.lst (aboveV j)))
        by_cases h13 : j < 13
        · refine cY (decide_eq_true (by omega)) ⟨_, rfl, _, dv, rfl, (hthg.same ((S10.trans S11).trans (S12.trans S13))).dx, hthg.sh, hthg.ln, hthg.dp, fun _ => T.sys, ?_⟩
          refine ⟨(by show 3 ≤ sizeLine; decide), fun p6 hp6 => ?_⟩
          have S14 := Hx.same_upd (o := HO.lst [.ref p5, .ref p4, .str dv.shown]) (Same.refl _) hp6
          refine ⟨_, rfl, _, rfl, j, one, dv, rfl, hj, fun _ => ⟨hok, (hthg.same (((S10.trans S11).trans (S12.trans S13)).trans S14)).toShw⟩, fun H9 q1 a1 a2 s9 _ f1 f2 f3 => ⟨_, rfl, ?_⟩⟩
          rw [if_pos h13] at f1
          refine ne_no hj hthg.tx f1 f2 f3 (s9 _ _ upd_same) (s9 _ _ (S14 _ _ upd_same)) (s9 _ _ (S14 _ _ e4)) ⟨_, rfl, cN rfl ?_⟩
          exact ⟨_, _, _, _, rfl, S8.trans ((U13.trans S14).trans s9), thg8.same ((U13.trans S14).trans s9)⟩
        · refine cN (decide_eq_false (by omega)) ?_
          refine ⟨(by show 3 ≤ sizeLine; decide), fun p6 hp6 => ?_⟩
          have S14 := Hx.same_upd (o := HO.lst [.ref p5, .ref p4, .str ""]) (Same.refl _) hp6
          refine ⟨_, rfl, _, rfl, j, one, dv, rfl, hj, fun z => absurd z h13, fun H9 q1 a1 a2 s9 _ f1 f2 f3 => ⟨_, rfl, ?_⟩⟩
          rw [if_neg h13] at f1
          refine ne_no hj (by decide +kernel) f1 f2 f3 (s9 _ _ upd_same) (s9 _ _ (S14 _ _ upd_same)) (s9 _ _ (S14 _ _ e4)) ⟨_, rfl, cN rfl ?_⟩
          exact ⟨_, _, _, _, rfl, S8.trans ((U13.trans S14).trans s9), thg8.same ((U13.trans S14).trans s9)⟩
      · obtain ⟨x8, x9, x10, x11, rfl, S8, _⟩ := h
        exact ⟨_, _, _, _, _, _, _, _, _, rfl, S8⟩
    · exact k _
end
end K86


set_option Elab.async false
set_option linter.all false
set_option maxRecDepth 100000
set_option maxHeartbeats 0
namespace K86
open PySem PySem.Spec L2 PyProof.Rows
theorem facts {P : Program} {w : World} {K : PySem.W.Frag} {h : Heap} {mg : Str → Option Value} {f : Addr} (X : K.In h) (G : h.Ns mainGlobals mg) (hfa : mg ("law" : Str) = some (.ref f)) (c : obsK K = valK) :
    ∃ fd : FuncData, (∀ (s : Shared) (v : Value), BindsTo s fd ⟨[v], []⟩ [("_law_script", v)]) ∧ ∀ base : Heap, K.In base → base.Ns mainGlobals mg → Hx.FnG P w K mg base CX0 9 f fd ["_law_script"] (spLaw K) := by
  have T : Txt K mg := Txt.of X G c
  obtain ⟨fd, F⟩ := def_of c (d := defL "law" sLaw) (by simp [fn])
  have e := hfa.symm.trans (T.gf "law" (by decide +kernel))
  cases e
  have b := FunD.bindsA (ps := ["_law_script"]) F fun _ _ _ _ _ _ us hl => match us, hl with | [_], _ => rfl
  exact ⟨fd, fun s v => b s [v] rfl, fun base _ _ => okLaw T c F⟩
end K86
open PySem PySem.W PySem.Calls PyProof.Rows
theorem PySem.Challenge.cw_heapwake_k86_errors_made_holds : PySem.Challenge.rw_heapwake_k86_errors_made.Holds := by
  w_on; o_law
  refine HandSHeadRun.head_any (r := OpenLaw.row PySem.Challenge.rw_heapwake_k86_errors_made) (q := view (OpenLaw.row PySem.Challenge.rw_heapwake_k86_errors_made).prog [30]) (H := K86.hk) (ob := K86.ob) (M := 5000) (loose := K86.names) (d := HandSHeadRun.topDef (OpenLaw.row PySem.Challenge.rw_heapwake_k86_errors_made).prog 30) (kwd := []) K86.ob_eq
    (by kernel_rfl) (fun s => by kernel_rfl) K86.run (by kernel_rfl) (by kernel_rfl) (by kernel_rfl) (by rfl) (by first | assumption | decide +kernel) (by decide +kernel) ⟨rfl, rfl, rfl, rfl, rfl, by decide +kernel⟩ ?hw ?hc
  case hw => w_witness2
  case hc =>
    refine Hx.walk_ofG (l := PySem.Challenge.rw_heapwake_k86_errors_made) (n := 63) (k := 9) (x := "_law_script") (CX := L2.CX0) rfl (by decide) (by kernel_rfl) ⟨rfl, by decide, by decide⟩ rfl ?F (fun _ _ _ _ z => z)
    intro w mg fa h Y G hmg0
    obtain ⟨K, KX, c⟩ := Y
    have hmg : mg ("law" : PySem.Str) = some (.ref fa) := by
      have e : (HandSHeadRun.topDef (OpenLaw.row PySem.Challenge.rw_heapwake_k86_errors_made).prog 30).name = ("law" : PySem.Str) := by kernel_rfl
      rw [← e]
      exact hmg0
    obtain ⟨fd, hb, hF⟩ := K86.facts (P := (PySem.Challenge.rw_heapwake_k86_errors_made).prog) (w := w) KX G hmg c
    exact ⟨K, fd, K86.spLaw K, KX, hb, fun H a ns hl hS => ⟨a, ns, rfl, hS, fun _ => rfl⟩, hF⟩


