import PyProof.Rows.All
import Wide.All
import OpenK.AllK
import Wide.FinOn
import HandS.ForMost
import HandS.Exc
import HandS.ExcInit
import HandS.ExcIs
import HandS.ClsMeth
import KE.KExcInit
import KE.KExcIs
import HandS.MakeKwOnly
import HandS.EndBits
import PyProof.ReprRoads
import HandS.Wide
import HandS.Strs
import HandS.SetFor
import HandS.SortKw
import KE.DataMinMax
import PyProof.RulesMatch
import HandS.Star
import HandS.SlotsOwn
import HandS.Property
import KE.KOpsOwn
import KE.KFmtOwn
import PyProof.InstNe
import PyProof.Rows.ReprOcc
import PyProof.StrHeap
import HandS.Lambda
import HandS.Nested
import HandS.More
import KE.KNestM
import HandS.EndTab
import HandS.ListItems
import HandS.IsInst
import HandS.FStr
import HandS.TryOnly
import HandS.ExcField
import HandS.WordsExc
import HandS.GenBody
import HandS.GenYield
import HandS.GenCall
import HandS.GenList
import PyProof.GenComp
import HandS.Dict
import PyProof.RowDictHeap
import PySem.Challenge.RW_corridors_k01_plain_worths
set_option Elab.async false
set_option linter.all false
set_option maxRecDepth 100000
set_option maxHeartbeats 4000000
/-! Own exception classes over any built-in base, made as values, with or without a keyword. -/
namespace Cor
open PySem PySem.Spec PyProof.Rows

/-! ### the model's level -/
section
variable {M : Model} {A : Around} {E : Value → Shared → Prop} {h : Heap} {g : Array GenState} {d : Drawn} {t : Nat} {os : OsState}
variable {nm q : Str} {C N : Addr} {bs bm bmB : List Value} {hdct : Bool} {sn : List Str} {sub : List Value} {ab : Bool} {col : Option Bool} {dd : Option Addr} {k0 k1 k2 k3 k5 : Option Value} {B newId initId : String}
/-- B.__new__(C, .., k = v) is asked rightly -/
theorem new_chk (F : ExcBaseFacts B newId initId bmB) (hb : bm.contains (.type B) = true) {rest : List Value} {kw : List (Str × Value)} {Q : Unit → Shared → Prop}
    (hC : h.get? C = some (excClassObj nm q C N bs bm hdct sn sub ab col dd k0 k1 k2 k3 k5 newId)) (hq : Q () ⟨h, g, d, t, os⟩) :
    wpAny M A (checkBuiltinCall newId ⟨.ref C :: rest, kw⟩) Q E ⟨h, g, d, t, os⟩ := by
  have inB : (Value.ref C :: bm).contains (.type B) = true := by rw [List.contains_cons, hb, Bool.or_true]
  have notStar := F.noStar
  simp only [checkBuiltinCall, F.newKind, F.newSplit, F.newRow]
  repeat (first
    | refine wpAny_loadPart_at hC ?_
    | (refine wpAny_isSubtype_exc hC ?_; rw [inB])
    | refine wpAny_staticBase_exc hC ?_
    | refine wpAny_madeBy_exc hC ?_
    | simp only [bne_self_eq_false, Bool.false_eq_true, if_false]
    | wp_step)
  exact hq
end

section
variable {prog : Program} {w : World} {A : Around} {E : Value → Shared → Prop} {R : Result → Shared → Prop} {h : Heap} {g : Array GenState} {d : Drawn} {t : Nat} {os : OsState}
variable {nm q : Str} {C N : Addr} {bs bm bmB : List Value} {hdct : Bool} {sn : List Str} {sub : List Value} {ab : Bool} {col : Option Bool} {dd : Option Addr} {k0 k1 k2 k3 k5 : Option Value} {B newId initId : String}
/-- what is asked of the class's line of bases -/
structure Line (B : String) (bm : List Value) : Prop where
  has : bm.contains (.type B) = true
  noA : bm.contains (.type "AttributeError") = false
  noN : bm.contains (.type "NameError") = false
theorem new_run (F : ExcBaseFacts B newId initId bmB) (L : Line B bm) {rest : List Value} {kw : List (Str × Value)}
    (hC : h.get? C = some (excClassObj nm q C N bs bm hdct sn sub ab col dd k0 k1 k2 k3 k5 newId))
    (hq : R (.ok (.ret (.ref (h.objs.size + 1)))) ⟨(h.push (W.kdv_tup rest)).push (HandSPX.excO C h.objs.size), g, d, t, os⟩) (hrest : rest.length ≤ sizeLine) :
    codeAny (model prog w) A (.builtin newId ⟨.ref C :: rest, kw⟩) R ⟨h, g, d, t, os⟩ := by
  have atEnd := F.ends
  have inB : (Value.ref C :: bm).contains (.type B) = true := by rw [List.contains_cons, L.has, Bool.or_true]
  have inA : (Value.ref C :: bm).contains (.type "AttributeError") = false := by rw [List.contains_cons, L.noA]; rfl
  have inN : (Value.ref C :: bm).contains (.type "NameError") = false := by rw [List.contains_cons, L.noN]; rfl
  refine codeAny_builtinAt F.entry ?_
  unfold Builtin.«BaseException.__new__»
  refine PySem.wpAt_bind ?_
  show PySem.wpAt _ _ _ (stack >>= _) _ _ _
  refine PySem.wpAt_bind (PySem.wpAt_stack fun p below => PySem.wpAt_of_wpAny ?_)
  wp_walk
  refine PySem.wpAt_of_wpAny ?_
  rw [F.owner]
  repeat (first
    | with_reducible refine wpAny_madeHere_exc F.canon hC ?_
    | with_reducible refine wpAny_loadPart_at hC ?_
    | (with_reducible refine wpAny_isSubtype_exc hC ?_; first | rw [inB] | rw [inA] | rw [inN])
    | wp_step)
  show R _ _
  rw [Heap.size_push]
  exact hq
theorem call_type (F : ExcBaseFacts B newId initId bmB) (L : Line B bm) {rest : List Value} {kw : List (Str × Value)} {fI : Addr} {Q : Fin → Shared → Prop}
    (hC : h.get? C = some (excClassObj nm q C N bs bm hdct sn sub ab col dd k0 k1 k2 k3 k5 newId))
    (hi : W.Looks (model prog w) h (typeLookup (.ref C) "__init__") (some (.ref fI))) (hb : ∀ self, W.Looks (model prog w) h (bindSpecial (.ref fI) self) (.ref fI, [self])) (hrest : rest.length ≤ sizeLine)
    (hq : codeAny (model prog w) A (.call (.ref fI) ⟨.ref (h.objs.size + 1) :: rest, kw⟩)
      (fun r s' => match r with | .ok (.ret v) => v = .none ∧ Q (.done (.ret (.ref (h.objs.size + 1)))) s' | .ok _ => False | .error e => E e s')
      ⟨(h.push (W.kdv_tup rest)).push (HandSPX.excO C h.objs.size), g, d, t, os⟩) :
    wpAny (model prog w) A (Builtin.«type.__call__» ⟨.ref C :: rest, kw⟩) Q E ⟨h, g, d, t, os⟩ := by
  repeat (first | with_reducible refine wpAny_loadPart_at hC ?_ | with_reducible refine wpAny_madeBy_exc hC ?_ | wp_step)
  refine codeAny_call_builtin_code (Code.quiet_builtin _ F.quiet) (new_chk F L.has hC ?_)
  refine new_run F L hC ?_ hrest
  show wpAny _ _ _ _ _ _
  have kp : ∀ b o, h.get? b = some o → ((h.push (W.kdv_tup rest)).push (HandSPX.excO C h.objs.size)).get? b = some o := fun b o e => Heap.get?_push_of_some _ (Heap.get?_push_of_some _ e)
  have hC2 := kp _ _ hC
  have hob : ((h.push (W.kdv_tup rest)).push (HandSPX.excO C h.objs.size)).get? (h.objs.size + 1) = some (HandSPX.excO C h.objs.size) := by heap_get
  have inC : (Value.ref C :: bm).contains (.ref C) = true := by simp
  have i2 := hi.keeps kp
  have b2 := (hb (.ref (h.objs.size + 1))).keeps kp
  unfold isInstance
  repeat (first | with_reducible refine wpAny_loadPart_at hob ?_ | (with_reducible refine wpAny_isSubtype_exc hC2 ?_; rw [inC]) | wp_step)
  show wpAny _ _ (typeLookup (.ref C) _) _ _ _
  refine i2.at ?_
  refine wpAny_holding (wpAny_bind (b2.at ?_))
  refine wpAny_bind (wpAny_call (codeAny_mono hq fun r s' z => ?_))
  rcases r with e | (v | _ | _ | _) <;> first | exact z | exact z.elim | skip
  obtain ⟨rfl, z⟩ := z
  first
    | exact wpAny_pure (wpAny_pure z)
    | (wp_walk; exact z)
theorem call_cls (F : ExcBaseFacts B newId initId bmB) (L : Line B bm) {rest : List Value} {kw : List (Str × Value)} {fI : Addr}
    (hC : h.get? C = some (excClassObj nm q C N bs bm hdct sn sub ab col dd k0 k1 k2 k3 k5 newId))
    (hi : W.Looks (model prog w) h (typeLookup (.ref C) "__init__") (some (.ref fI))) (hb : ∀ self, W.Looks (model prog w) h (bindSpecial (.ref fI) self) (.ref fI, [self])) (hrest : rest.length ≤ sizeLine)
    (hq : codeAny (model prog w) (A.under (.builtin "type.__call__" ⟨.ref C :: rest, kw⟩)) (.call (.ref fI) ⟨.ref (h.objs.size + 1) :: rest, kw⟩) (W.InitBack (h.objs.size + 1) R)
      ⟨(h.push (W.kdv_tup rest)).push (HandSPX.excO C h.objs.size), g, d, t, os⟩) :
    codeAny (model prog w) A (.call (.ref C) ⟨rest, kw⟩) R ⟨h, g, d, t, os⟩ := by
  have f1 := tc_lookup
  have f2 := tc_bind (.ref C)
  have hTy : (⟨h, g, d, t, os⟩ : Shared).TypeIs (.ref C) "type" := ⟨_, hC, rfl⟩
  refine codeAny_of_tree ?_
  show wpAny _ _ (callAny (.ref C) _) _ _ _
  repeat (any_goals (first | assumption | with_reducible refine wpAny_loadPart_at hC ?_ | wp_step))
  refine ⟨rfl, ?_⟩
  refine codeAny_call_builtin_at (Code.quiet_builtin _ (by decide +kernel)) entry_typeCall (wpAny_check_type_call_sub hC (call_type F L hC hi hb hrest ?_))
  refine codeAny_mono hq fun r s' z => ?_
  rcases r with e | (v | _ | _ | _) <;> exact z
end
end Cor

set_option Elab.async false
set_option linter.all false
set_option maxRecDepth 100000
set_option maxHeartbeats 4000000
namespace Cor
open PySem PySem.Spec PyProof.Rows L2

/-! ### bases -/
structure IniF (Bi initId : String) : Prop where
  plain : plainId initId = true
  entry : entryFor table initId = some Builtin.«BaseException.__init__»
  split : splitId initId = some (Bi, "__init__")
  kind : builtinKind initId = some .slot
  row : Manifest.signature? initId = some ⟨.positional, "*", Bi, .self, [⟨"args", .varPos, false⟩]⟩
  star : (Bi != "*") = true
theorem IniF.of {B n i : String} (F : ExcCallFacts B n i) : IniF B i := ⟨F.init.plain, F.initEntry, F.initSplit, F.initKind, F.initRow, F.noStar⟩
theorem ini_key : IniF "KeyError" "KeyError.__init__" where
  plain := by decide +kernel
  entry := entryFor_alias (id' := "BaseException.__init__") (by rw [fastTable_eq_tree]; kernel_rfl) (by first | rfl | decide +kernel) (by decide +kernel) (by rw [fastTable_eq_tree]; kernel_rfl)
  split := by kernel_rfl
  kind := by kernel_rfl
  row := by kernel_rfl
  star := by decide +kernel

/-- a line of bases without the program's own classes in front -/
def strip : List Value → List Value
  | .ref _ :: r => strip r
  | l => l
theorem strip_cont (Y : String) : ∀ l : List Value, l.contains (.type Y) = (strip l).contains (.type Y)
  | [] => rfl
  | v :: r => by
    cases v with
    | ref c =>
      rw [List.contains_cons]
      show ((Value.type Y == Value.ref c) || r.contains (.type Y)) = (strip r).contains (.type Y)
      rw [← strip_cont Y r]
      rfl
    | _ => rfl
theorem strip_pass (self : Value) (n : Str) : ∀ l : List Value, refuseLoop self n (strip l) = pure () → refuseLoop self n l = pure ()
  | [], h => h
  | v :: r, h => by
    cases v with
    | ref c =>
      rw [refuseLoop_ref]
      exact strip_pass self n r h
    | _ => exact h
/-- what a tail of built-in bases must say -/
structure Bas (Bn newId Bi initId : String) (tl : List Value) : Prop where
  nw : ∃ i bmB, ExcBaseFacts Bn newId i bmB
  ini : IniF Bi initId
  line : Line Bn tl
  hasI : tl.contains (.type Bi) = true
  ob : tl.contains (.type "object") = true
  pass : ∀ self, refuseLoop self "__setattr__" tl = pure ()
theorem bas_value : Bas "ValueError" "ValueError.__new__" "ValueError" "ValueError.__init__" [.type "ValueError", .type "Exception", .type "BaseException", .type "object"] :=
  ⟨⟨_, _, F.excBase_ValueError⟩, .of F.excBase_ValueError.toExcCallFacts, ⟨by decide +kernel, by decide +kernel, by decide +kernel⟩, by decide +kernel, by decide +kernel, F.store_ValueError.passes⟩
theorem bas_lookup : Bas "LookupError" "LookupError.__new__" "LookupError" "LookupError.__init__" [.type "LookupError", .type "Exception", .type "BaseException", .type "object"] :=
  ⟨⟨_, _, F.excBase_LookupError⟩, .of F.excBase_LookupError.toExcCallFacts, ⟨by decide +kernel, by decide +kernel, by decide +kernel⟩, by decide +kernel, by decide +kernel, F.store_LookupError.passes⟩
theorem bas_index : Bas "IndexError" "IndexError.__new__" "IndexError" "IndexError.__init__" [.type "IndexError", .type "LookupError", .type "Exception", .type "BaseException", .type "object"] :=
  ⟨⟨_, _, F.excBase_IndexError⟩, .of F.excBase_IndexError.toExcCallFacts, ⟨by decide +kernel, by decide +kernel, by decide +kernel⟩, by decide +kernel, by decide +kernel, F.store_IndexError.passes⟩
theorem bas_key : Bas "LookupError" "LookupError.__new__" "KeyError" "KeyError.__init__" [.type "KeyError", .type "LookupError", .type "Exception", .type "BaseException", .type "object"] :=
  ⟨⟨_, _, F.excBase_LookupError⟩, ini_key, ⟨by decide +kernel, by decide +kernel, by decide +kernel⟩, by decide +kernel, by decide +kernel, fun self => by kernel_rfl⟩
theorem bas_arith : Bas "ArithmeticError" "ArithmeticError.__new__" "ArithmeticError" "ArithmeticError.__init__" [.type "ArithmeticError", .type "Exception", .type "BaseException", .type "object"] :=
  ⟨⟨_, _, F.excBase_ArithmeticError⟩, .of F.excBase_ArithmeticError.toExcCallFacts, ⟨by decide +kernel, by decide +kernel, by decide +kernel⟩, by decide +kernel, by decide +kernel, F.store_ArithmeticError.passes⟩

/-- C is an exception class of the program -/
structure Exn (K : PySem.W.Frag) (C : Addr) (newId initId : String) : Prop where
  cls : ∃ Bn Bi nm q N bs bm sn sub ab col dd k0 k1 k2 k3 k5, Bas Bn newId Bi initId (strip bm) ∧ K.lookup C = some (excClassObj nm q C N bs bm true sn sub ab col dd k0 k1 k2 k3 k5 newId)
  sa : PySem.W.findIn K (.ref C) "__setattr__" = some (some (.builtin "object.__setattr__"))
  exC : PySem.W.subIn K (.ref C) (.type "BaseException") = some true
  tyC : PySem.W.typeIn K (.ref C) = some (.type "type")
  kC : PySem.W.keepIn K (.ref C) = true
  ga : PySem.W.findIn K (.ref C) "__getattribute__" = some (some (.builtin "BaseException.__getattribute__"))
  gg : PySem.W.findIn K (.ref C) "__getattr__" = some none
  hd : PySem.W.hasDictIn K C = true
  ca : PySem.W.findIn K (.ref C) "__class__" = some (some (.builtin "object.__class__"))
  mr : PySem.W.mroIn K C (.type "object") = some true
  cn : PySem.W.specialIn K (.builtin "object.__class__") "__get__" = some (some (.builtin "getset_descriptor.__get__"))
  ct : PySem.W.takesIn K (.builtin "object.__class__") = some true
/-- the written part's share of it, as one question -/
def exnB (K : PySem.W.Frag) (C : Addr) : Bool :=
  (PySem.W.findIn K (.ref C) "__setattr__" == some (some (.builtin "object.__setattr__"))) && ((PySem.W.subIn K (.ref C) (.type "BaseException") == some true) && ((PySem.W.typeIn K (.ref C) == some (.type "type")) && (PySem.W.keepIn K (.ref C) &&
  ((PySem.W.findIn K (.ref C) "__getattribute__" == some (some (.builtin "BaseException.__getattribute__"))) && ((PySem.W.findIn K (.ref C) "__getattr__" == some none) && (PySem.W.hasDictIn K C &&
  ((PySem.W.findIn K (.ref C) "__class__" == some (some (.builtin "object.__class__"))) && ((PySem.W.mroIn K C (.type "object") == some true) &&
  ((PySem.W.specialIn K (.builtin "object.__class__") "__get__" == some (some (.builtin "getset_descriptor.__get__"))) && (PySem.W.takesIn K (.builtin "object.__class__") == some true))))))))))
theorem exn_mk {K : PySem.W.Frag} {C : Addr} {newId initId : String} {Bn Bi : String} {nm q : Str} {N : Addr} {bs bm : List Value} {sn : List Str} {sub : List Value} {ab : Bool} {col : Option Bool} {dd : Option Addr} {k0 k1 k2 k3 k5 : Option Value} {tl : List Value}
    (b : Bas Bn newId Bi initId tl) (l : K.lookup C = some (excClassObj nm q C N bs bm true sn sub ab col dd k0 k1 k2 k3 k5 newId)) (s : strip bm = tl) (h : exnB K C = true) : Exn K C newId initId := by
  unfold exnB at h
  simp only [Bool.and_eq_true, beq_iff_eq] at h
  obtain ⟨h1, h2, h3, h4, h5, h6, h7, h8, h9, h10, h11⟩ := h
  subst s
  exact ⟨⟨_, _, _, _, _, _, _, _, _, _, _, _, _, _, _, _, _, b, l⟩, h1, h2, h3, h4, h5, h6, h7, h8, h9, h10, h11⟩

/-! ### the first field of an exception -/
section
variable {prog : Program} {w : World} {A : Around} {E : Value → Shared → Prop} {R : Result → Shared → Prop} {hp : Heap} {g : Array GenState} {d : Drawn} {t : Nat} {os : OsState}
theorem first_field {K : W.Frag} {name : Str} {tk : Tok} {v : Value} {x C : Addr} {fv : Array Value} {cd : ClassData}
    (X : K.In hp) (hx : hp.get? x = some { cls := .ref C, data := .fields fv }) (hcd : W.clsIn K C = some cd) (hob : cd.mro.contains (.type "object") = true) (hps : ∀ self, refuseLoop self "__setattr__" cd.mro = pure ())
    (hh : cd.hasDict = true) (ha : W.findIn K (.ref C) name = some none)
    (hq : ∀ h' tk' dx, (∀ b o, b ≠ x → hp.get? b = some o → h'.get? b = some o) → hp.objs.size ≤ dx → dx ≠ x → h'.get? x = some { cls := .ref C, dict := some dx, data := .fields fv } →
      h'.Ns1 dx (fun y => if y = name then some v else none) → R (.ok (.ret .none)) ⟨h', g, d, tk', os⟩) :
    codeAny (model prog w) A (.call (.builtin "object.__setattr__") ⟨[.ref x, .str name tk, v], []⟩) R ⟨hp, g, d, t, os⟩ := by
  have I : W.InstAt hp x { cls := .ref C, data := .fields fv } C none := ⟨hx, rfl, rfl, trivial⟩
  have SF := F.store_object
  have ne : cd.mro.isEmpty = false := by
    cases e : cd.mro with
    | nil => rw [e] at hob; cases hob
    | cons _ _ => rfl
  have xs : x ≠ hp.objs.size := Nat.ne_of_lt (Heap.lt_size hx)
  have isO : W.Looks (model prog w) hp (isInstance (.ref x) (.type "object")) true := I.type.andThen (W.looks_mroIn X (by unfold W.mroIn; rw [hcd, Option.bind_some, if_neg (by rw [ne]; decide), hob]))
  refine codeAny_call_builtin SF.slot.plain SF.entry (@W.check_slot (model prog w) _ _ ⟨hp, g, d, t, os⟩ "object.__setattr__" "object" "__setattr__" (.ref x) [.str name tk, v] [] _ SF.kind SF.split isO (SF.args (.ref x) (.str name tk) v) ?_)
  have lm : W.Looks (model prog w) hp (mroOf (.ref C)) cd.mro := (W.looks_clsIn X hcd).andThen .now
  have l0 : W.Looks (model prog w) hp (Builtin.ObjectAttr.storeTaker? none) none := .now
  have lc : W.Looks (model prog w) hp (classData C) cd := W.looks_clsIn X hcd
  rw [W.osa_eq, refuse_eq]
  refine wpAny_bind (wpAny_bind (I.type.at (wpAny_bind (lm.at ?_))))
  rw [hps]
  refine wpAny_pure (wpAny_bind (I.type.at (wpAny_bind ((W.looks_findIn X ha).at (wpAny_bind (l0.at ?_))))))
  show wpAny _ _ (Builtin.ObjectAttr.storeInOwnDict (.ref x) (.ref C) (.str name tk) name v false) _ _ _
  obtain ⟨nm, bs, mro, ns, qn, hd, sn, sb, ab, col, del⟩ := cd
  dsimp only at hh
  subst hh
  unfold Builtin.ObjectAttr.storeInOwnDict Builtin.ObjectAttr.ownDictForStores
  repeat (first | with_reducible refine HandSPX.store_in_new ?_ ?_ | with_reducible refine wpAny_loadPart_at hx ?_ | with_reducible refine lc.at ?_ | wp_step)
  · exact ⟨_, #[], _, (Heap.get?_update_ne _ _ _ _ xs.symm).trans (Heap.get?_push_at rfl rfl), rfl, fun e he => absurd he (by simp), fun _ => rfl⟩
  · intro h' tk' hn' hs
    have hx2 : (hp.push { cls := .type "dict", data := .dict #[] }).get? x = some { cls := .ref C, data := .fields fv } := Heap.get?_push_of_some _ hx
    refine hq h' tk' hp.objs.size (fun b o hb ho => ?_) (Nat.le_refl _) xs.symm ?_ hn'
    · exact (hs.2 b (Nat.ne_of_lt (Heap.lt_size ho))).trans ((Heap.get?_update_ne _ _ _ _ hb).trans (Heap.get?_push_of_some _ ho))
    · exact (hs.2 x xs).trans (Heap.get?_update_self _ hx2 rfl)
variable {nm q : Str} {C N : Addr} {bs bm : List Value} {hdct : Bool} {sn : List Str} {sub : List Value} {ab : Bool} {col : Option Bool} {dd : Option Addr} {k0 k1 k2 k3 k5 : Option Value} {newId : String}
theorem init_run {Bi initId : String} (F : IniF Bi initId) (hI : bm.contains (.type Bi) = true) {e t0 : Addr} {rest : List Value}
    (hC : hp.get? C = some (excClassObj nm q C N bs bm hdct sn sub ab col dd k0 k1 k2 k3 k5 newId)) (he : hp.get? e = some (HandSPX.excO C t0)) (hrest : rest.length ≤ sizeLine)
    (hq : ∀ h' t1, (∀ b o, b ≠ e → hp.get? b = some o → h'.get? b = some o) → h'.get? e = some (HandSPX.excO C t1) → R (.ok (.ret .none)) ⟨h', g, d, t, os⟩) :
    codeAny (model prog w) A (.call (.builtin initId) ⟨.ref e :: rest, []⟩) R ⟨hp, g, d, t, os⟩ := by
  refine codeAny_call_builtin F.plain F.entry ?_
  have inB : (Value.ref C :: bm).contains (.type Bi) = true := by rw [List.contains_cons, hI, Bool.or_true]
  have short := F.star
  simp only [checkBuiltinCall, F.kind, F.split, F.row]
  repeat (first | (with_reducible refine wpAny_loadPart_at he ?_) | with_reducible refine wpAny_loadPart_at hC ?_ | (with_reducible refine wpAny_isSubtype_exc hC ?_; rw [inB]) | wp_step)
  refine wpAny_onRaise ?_
  rw [show ∀ (a b : String) (n : Nat), Bind.check ⟨.positional, "*", Bi, .self, [⟨"args", .varPos, false⟩]⟩ a b n (List.map (fun x => x.fst) ({ pos := Value.ref e :: rest } : Args).kw) = pure () from
    fun a b n => check_star_args _ _ _ _ _ _]
  refine wpAny_pure ?_
  wp_walk
  refine hq _ hp.objs.size (fun b o hb ho => ?_) ?_
  · rw [Heap.get?_update_other _ _ (Ne.symm hb)]
    exact Heap.get?_push_of_some _ ho
  · rw [Heap.get?_update_self _ (Heap.get?_push_of_some _ he) rfl]
    rfl
end
end Cor

set_option Elab.async false
set_option linter.all false
set_option maxRecDepth 100000
set_option maxHeartbeats 400000
namespace Cor
open PySem PySem.Spec PyProof.Rows L2

section
variable {X : Cx} {pins : List (Addr × Obj)} {σ : L2.St} {H : Hp} {s : Shared} {a C : Addr} {f : Str} {y : V} {u : Value} {E : Value → Shared → Prop} {A : Around} {newId initId : String}
theorem cls_in (T : Exn X.K C newId initId) : ∃ Bn Bi cd bm, Bas Bn newId Bi initId (strip bm) ∧ PySem.W.clsIn X.K C = some cd ∧ cd.mro = .ref C :: bm ∧ cd.hasDict = true := by
  obtain ⟨Bn, Bi, nm, q, N, bs, bm, sn, sub, ab, col, dd, k0, k1, k2, k3, k5, b, l⟩ := T.cls
  refine ⟨Bn, Bi, { name := nm, bases := bs, mro := .ref C :: bm, ns := N, qualname := q, hasDict := true, slotNames := sn, subclasses := sub, abstract := ab, collection := col, hasDel := false }, bm, b, ?_, rfl, rfl⟩
  unfold PySem.W.clsIn
  rw [l] <;> rfl
/-- self.f = y on an exception that has no dict yet -/
theorem fld_new {Q : Unit → Shared → Prop} (T : Exn X.K C newId initId) (I : Inv X pins σ H s) (ea : H a = some (exo a C none)) (hno : PySem.W.findIn X.K (.ref C) f = some none) (ry : RelV y u)
    (h : ∀ dx s', H dx = none → dx ≠ a → Inv X pins σ (upd (upd H dx (exd dx [(f, y)])) a (exo a C (some dx))) s' → Q () s') : wpAny (model X.prog X.w) A (setAttr (.ref a) f u) Q E s := by
  obtain ⟨Bn, Bi, cd, bm, bas, hcl, hmro, hdict⟩ := cls_in T
  obtain ⟨t1, ho⟩ := exo_at I.hok ea
  obtain ⟨hp, g, d, t, os⟩ := s
  refine PySem.W.set_plain I.kIn (ox := { cls := .ref C, dict := none, data := .fields #[.ref t1, .none, .none, .none, .bool false, .none] }) (od := none) ⟨ho, rfl, rfl, trivial⟩ T.sa ?_
  refine first_field I.kIn ho hcl (by rw [hmro, List.contains_cons, strip_cont, bas.ob, Bool.or_true]) (fun self => by rw [hmro, refuseLoop_ref]; exact strip_pass _ _ _ (bas.pass self)) hdict hno (fun h' tk' dx k dn dne hx hn => ?_)
  have free : H dx = none := I.hok.fresh dn
  have nd : ∀ {b : Addr} {o : Obj}, hp.get? b = some o → b ≠ dx := fun {b o} z => Nat.ne_of_lt (Nat.lt_of_lt_of_le (Heap.lt_size z) dn)
  have na : ∀ {b : Addr}, H b = none → b ≠ a := fun {b} n z => by
    rw [z, ea] at n
    cases n
  have U : Un X.fs [] H (upd (upd H dx (exd dx [(f, y)])) a (exo a C (some dx))) hp h' := {
    keep := fun b o z n _ _ => k b o (na n) z
    slot := fun b o z n _ _ => ⟨o.slots, k b o (na n) z⟩
    free := fun b o z n _ => by rw [upd_ne (na n), upd_ne (nd z)]; exact n
    there := fun b o z _ => by
      by_cases hb : b = a
      · exact ⟨_, by rw [hb]; exact hx⟩
      · exact ⟨o, k b o hb z⟩
    tups := fun b xs z => by rw [upd_ne (at_ne ea z exo_tup), upd_ne (ne_of_none z free)]; exact z
    frzs := fun b o v z => by rw [upd_ne (at_ne ea z exo_frz), upd_ne (ne_of_none z free)]; exact z
    tbls := fun b ps z => ⟨#[], by rw [upd_ne (at_ne ea z exo_tbl), upd_ne (ne_of_none z free), z]; simp⟩ }
  refine h dx _ free dne (I.un (t' := tk') U fun b o z => ?_)
  by_cases hb : b = a
  · subst hb
    rw [upd_same] at z
    cases z
    exact exo_ok hx
  · rw [upd_ne hb] at z
    by_cases hd : b = dx
    · subst hd
      rw [upd_same] at z
      cases z
      exact exd_ok hn (relO_put (fs := []) ry fun g => True.intro)
    · rw [upd_ne hd] at z
      refine (I.hok b o z).stay (fun c v hc z' => k c v ?_ z') (fun c hc => ?_) (fun c xs hc => ?_)
      · rcases hc with hc | hc
        · rw [hc]
          exact hb
        · exact at_ne ea hc exo_own
      · rw [upd_ne (at_ne ea hc exo_own), upd_ne (ne_of_none hc free)]
        exact hc
      · rw [upd_ne (at_ne ea hc exo_tup), upd_ne (ne_of_none hc free)]
        exact hc
/-- B.__init__(self, ..) -/
theorem ini_ok {us : List Value} {Q : Value → Shared → Prop} (T : Exn X.K C newId initId) (I : Inv X pins σ H s) (ea : H a = some (exo a C none)) (hl : us.length ≤ sizeLine) (h : ∀ s', Inv X pins σ H s' → Q .none s') :
    wpAny (model X.prog X.w) A (call (.builtin initId) (.ref a :: us)) Q E s := by
  obtain ⟨Bn, Bi, nm, q, N, bs, bm, sn, sub, ab, col, dd, k0, k1, k2, k3, k5, b, l⟩ := T.cls
  obtain ⟨t1, ho⟩ := exo_at I.hok ea
  obtain ⟨hp, g, d, t, os⟩ := s
  refine wpAny_call (init_run b.ini (by rw [strip_cont]; exact b.hasI) (I.kIn _ _ l) ho hl fun h' t2 k hx => ?_)
  have J := I.write (t' := t) (x := a) (e := a) (o := exo a C none) (by rw [ea]; exact True.intro) (.inl rfl) k ⟨_, hx⟩ (exo_ok hx)
  have same : upd H a (exo a C none) = H := by
    funext b
    by_cases hb : b = a
    · rw [hb, upd_same, ea]
    · rw [upd_ne hb]
  rw [same] at J
  exact h _ J
end

/-! ### readings -/
def tIni (K : PySem.W.Frag) (initId : String) (ta : TA) : TE := fun σ H Q => ta σ H fun vs H1 => ∃ (a C : Addr) (newId : String) (ws : List V), vs = .ref a :: ws ∧ ws.length ≤ 1000 ∧ Exn K C newId initId ∧ H1 a = some (exo a C none) ∧ Q .non H1
/-- self.f = e, the first field -/
def tFld1 (K : PySem.W.Frag) (f : Str) (to te : TE) : TS := fun D σ H => te σ H fun y H1 => to σ H1 fun x H2 => ∃ (a C : Addr) (newId initId : String), x = .ref a ∧ Exn K C newId initId ∧ PySem.W.findIn K (.ref C) f = some none ∧
  H2 a = some (exo a C none) ∧ ∀ dx, H2 dx = none → dx ≠ a → D.nx σ (upd (upd H2 dx (exd dx [(f, y)])) a (exo a C (some dx)))
/-- C(e, ..) as a value -/
def tExn (C : Addr) (sp : Sp) (ta : TA) : TE := fun σ H Q => ta σ H fun vs H1 => vs.length ≤ 1000 ∧ ∀ a, H1 a = none → sp (.ref a :: vs) (upd H1 a (exo a C none)) (fun v H2 => v = .non ∧ Q (.ref a) H2) (fun _ _ _ => False)
section
variable {X : Cx} {o e : Expr} {es : List Expr} {to te : TE} {ta tk : TA} {f x : Str} {p p' p1 p2 pos : Pos} {newId initId : String}
theorem ini_end {pins : List (Addr × Obj)} {σ : L2.St} {Q : VK} {H : Hp} {us : List Value} {vs : List V} {s : Shared} (I : Inv X pins σ H s) (r : Vals vs us)
    (h : ∃ (a C : Addr) (newId : String) (ws : List V), vs = .ref a :: ws ∧ ws.length ≤ 1000 ∧ Exn X.K C newId initId ∧ H a = some (exo a C none) ∧ Q .non H) :
    wpAny (model X.prog X.w) X.A (call (.builtin initId) us) (EP X pins σ Q) X.xe s := by
  obtain ⟨a, C, newId, ws, ev, hl, T, ea, q⟩ := h
  subst ev
  cases r with
  | @cons _ u0 _ ur ra rr =>
    obtain rfl : u0 = Value.ref a := ra
    have hlen : ur.length ≤ sizeLine := by
      rw [← Paired.length rr, sizeLine_eq]
      omega
    exact ini_ok T I ea hlen fun s' J => ⟨.non, H, J, rfl, q⟩
/-- S.__init__(self, ..), S an own class -/
theorem pe_iniO {pl : Sem Bool} {S : Addr} {mc : Value} (hg : Gl X x) (hm : X.mg x = some (.ref S)) (rd : ClX.CRead X.K S mc) (vS : PySem.W.findCls X.K (.ref S) mc "__init__" = some (.val (.builtin initId))) (ha : PA X (e :: es) ta)
    (hdb : (x == ("__debug__" : Str)) = false := by decide) (hh : PySem.W.handedIn (.builtin initId) = true := by decide +kernel)
    (hc : eval (.Call (.Attribute (.Name x p1) "__init__" p2) (e :: es) [] pos) X.env = (do
      let ov ← eval (.Name x p1) X.env
      standAt p2.atName
      let (f, first) ← holding [ov] (getMethod ov "__init__" pl)
      callWith pos f first (backTo pos (starEach (e :: es) X.env)) (backToKw pos (keywordEach [] X.env))) := by rfl)
    (he : starEach (e :: es) X.env = (false, eval e X.env) :: starEach es X.env := by rfl) (hpl : (backTo pos (starEach es X.env)).any (·.1) = false := by rfl) :
    PE X (.Call (.Attribute (.Name x p1) "__init__" p2) (e :: es) [] pos) (tIni X.K initId ta) := by
  refine ⟨fun pins s σ H Q I h => ?_⟩
  refine PySem.W.methodCall_KW (ld_glob I hg hm ?_ hdb) hc
  refine PySem.W.method_cls I.kIn rd.ga (PySem.W.cls_value I.kIn rd.rd vS hh ?_)
  refine PyProof.Rows.callWith_method1 (thn (ha.run pos pins _ σ H _ (I.tok _) h) fun us s1 ⟨vs, H1, I1, r1, q⟩ => ?_) he hpl
  exact ini_end I1 r1 q
/-- T.__init__(self, ..), T a built-in class -/
theorem pe_iniT {pl : Sem Bool} {T : String} (hg : Gl X x) (hm : X.mg x = none) (hv : bootBuiltins x = some (.type T)) (ty : typeOf (.type T) = pure (.type "type")) (st : Manifest.isStub T = false)
    (vT : PySem.W.findCls X.K (.type T) (.type "type") "__init__" = some (.val (.builtin initId))) (ha : PA X (e :: es) ta) (hn : x ≠ "__name__" := by decide) (hdb : (x == ("__debug__" : Str)) = false := by decide) (hh : PySem.W.handedIn (.builtin initId) = true := by decide +kernel)
    (hc : eval (.Call (.Attribute (.Name x p1) "__init__" p2) (e :: es) [] pos) X.env = (do
      let ov ← eval (.Name x p1) X.env
      standAt p2.atName
      let (f, first) ← holding [ov] (getMethod ov "__init__" pl)
      callWith pos f first (backTo pos (starEach (e :: es) X.env)) (backToKw pos (keywordEach [] X.env))) := by rfl)
    (he : starEach (e :: es) X.env = (false, eval e X.env) :: starEach es X.env := by rfl) (hpl : (backTo pos (starEach es X.env)).any (·.1) = false := by rfl) :
    PE X (.Call (.Attribute (.Name x p1) "__init__" p2) (e :: es) [] pos) (tIni X.K initId ta) := by
  refine ⟨fun pins s σ H Q I h => ?_⟩
  refine PySem.W.methodCall_KW (ld_blt I hg hm hv ?_ hn hdb) hc
  obtain ⟨m, fr⟩ := I.fr
  refine PySem.W.method_type fr I.ok.mod.kin ty st vT hh ?_
  refine PyProof.Rows.callWith_method1 (thn (ha.run pos pins _ σ H _ (I.tok _) h) fun us s1 ⟨vs, H1, I1, r1, q⟩ => ?_) he hpl
  exact ini_end I1 r1 q
theorem ps_fld1 (ho : PE X o to) (he : PE X e te) (hs : swapsWith e (some (.Attribute o f p')) pos.line X.env = pure false := by rfl) : PS X (.Assign [.Attribute o f p'] e pos) (tFld1 X.K f to te) := by
  refine ⟨fun pins s σ H D I h => ?_⟩
  refine plainObj_wpAny_Assign_Attribute (thn (he.run pins s σ H _ I h) fun v s1 ⟨y, H1, I1, r1, q1⟩ => thn (ho.run pins s1 σ H1 _ I1 q1) fun u s2 ⟨x, H2, I2, r2, a, C, n, i, ex, T, hno, ea, q⟩ => ?_) hs
  subst ex
  obtain rfl : u = Value.ref a := r2
  exact fld_new T I2 ea hno r1 fun dx s' n ne J => ⟨σ, _, J, q dx n ne⟩

/-- the class is called -/
theorem run_exn {CX : CXT} {C fI : Addr} {k : Nat} {fd : FuncData} {ps : List Str} {sp : Sp} {pins : List (Addr × Obj)} {σ : L2.St} {Q : VK} {H1 : Hp} {us : List Value} {kw : List (Str × Value)} {vs : List V} {ws : List Value} {s1 : Shared}
    (T : Exn X.K C newId initId) (iC : PySem.W.findIn X.K (.ref C) "__init__" = some (some (.ref fI))) (tI : PySem.W.typeIn X.K (.ref fI) = some (.type "function"))
    (F1 : FnOk X.prog X.w X.K X.mg X.base CX k fI fd ps sp) (hr : Room (k + 1) X.A) (hx : Passes CX X (fun _ _ _ => False)) (I1 : Inv X pins σ H1 s1) (hus : us.length ≤ sizeLine) (r1 : Vals vs ws)
    (hb : ∀ (s : Shared) (a : Addr), X.K.In s.heap → BindsTo s fd ⟨.ref a :: us, kw⟩ (ps.zip (.ref a :: ws)))
    (h : ∀ a, H1 a = none → sp (.ref a :: vs) (upd H1 a (exo a C none)) (fun v H2 => v = .non ∧ Q (.ref a) H2) (fun _ _ _ => False)) :
    wpAny (model X.prog X.w) X.A (call (.ref C) us kw) (EP X pins σ Q) X.xe s1 := by
  obtain ⟨Bn, Bi, nm, q, N, bs, bm, sn, sub, ab, col, dd, k0, k1, k2, k3, k5, b, l⟩ := T.cls
  obtain ⟨i0, bmB, NF⟩ := b.nw
  have L : Line Bn bm := ⟨by rw [strip_cont]; exact b.line.has, by rw [strip_cont]; exact b.line.noA, by rw [strip_cont]; exact b.line.noN⟩
  obtain ⟨hp, g, dr, tk, os⟩ := s1
  have hsz : hp.objs.size ≤ hp.objs.size + 1 := Nat.le_succ _
  have hn : H1 (hp.objs.size + 1) = none := I1.hok.fresh hsz
  have hq := h (hp.objs.size + 1) hn
  have kk : ∀ b o, hp.get? b = some o → ((hp.push (PySem.W.kdv_tup us)).push (HandSPX.excO C hp.objs.size)).get? b = some o := fun b o e => Heap.get?_push_of_some _ (Heap.get?_push_of_some _ e)
  have hget : ((hp.push (PySem.W.kdv_tup us)).push (HandSPX.excO C hp.objs.size)).get? (hp.objs.size + 1) = some (HandSPX.excO C hp.objs.size) := by heap_get
  have I2 : Inv X pins σ (upd H1 (hp.objs.size + 1) (exo (hp.objs.size + 1) C none)) ⟨(hp.push (PySem.W.kdv_tup us)).push (HandSPX.excO C hp.objs.size), g, dr, tk, os⟩ :=
    I1.laid (t' := tk) (a := hp.objs.size + 1) (o := exo (hp.objs.size + 1) C none) (h' := (hp.push (PySem.W.kdv_tup us)).push (HandSPX.excO C hp.objs.size)) kk hsz (exo_ok hget)
  have r2 : Vals (V.ref (hp.objs.size + 1) :: vs) (Value.ref (hp.objs.size + 1) :: ws) := .cons rfl r1
  refine wpAny_call (call_cls NF L (I1.kIn _ _ l) (PySem.W.looks_findIn I1.kIn iC) (fun self => PySem.W.bind_fn I1.kIn self tI) hus ?_)
  refine codeAny_mono (F1.run _ X.stack _ _ ⟨Value.ref (hp.objs.size + 1) :: us, kw⟩ (Value.ref (hp.objs.size + 1) :: ws) _ _ (fun _ _ _ => False) (hr.make C us kw) (I2.env0.make C us kw) (hb _ _ I2.kIn) r2 hq) fun r s' hq' => ?_
  cases r with
  | error er => exact hx pins σ _ _ er s' I2 hq'
  | ok fl =>
    cases fl with
    | ret u =>
      obtain ⟨v, H2, J, rv, ev, q2⟩ := I2.after hq'
      subst ev
      have e0 : u = Value.none := rv
      exact ⟨e0, V.ref (hp.objs.size + 1), H2, J, rfl, q2⟩
    | next => exact False.elim hq'
    | brk => exact False.elim hq'
    | cont => exact False.elim hq'
/-- C(e, ..) -/
theorem pe_exn {CX : CXT} {C fI : Addr} {k : Nat} {fd : FuncData} {ps : List Str} {sp : Sp} (T : Exn X.K C newId initId) (iC : PySem.W.findIn X.K (.ref C) "__init__" = some (some (.ref fI))) (tI : PySem.W.typeIn X.K (.ref fI) = some (.type "function"))
    (F1 : FnOk X.prog X.w X.K X.mg X.base CX k fI fd ps sp) (hr : Room (k + 1) X.A) (hb : Binds X.K fd ps []) (hx : Passes CX X (fun _ _ _ => False)) (hg : Gl X x) (hm : X.mg x = some (.ref C)) (ha : PA X (e :: es) ta)
    (hdb : (x == ("__debug__" : Str)) = false := by decide) (he : starEach (e :: es) X.env = (false, eval e X.env) :: starEach es X.env := by rfl) (hpl : (backTo pos (starEach es X.env)).any (·.1) = false := by rfl) :
    PE X (.Call (.Name x p) (e :: es) [] pos) (tExn C sp ta) := by
  refine ⟨fun pins s σ H Q I h => ?_⟩
  refine wpAny_Call_Name_kw (ld_glob I hg hm ?_ hdb)
  refine PySem.W.callWith_K (h₀ := X.base) I.ok.mod.kin T.kC (thn (ha.run pos pins s σ H _ I h) fun us s1 ⟨vs, H1, I1, r1, hz, q1⟩ => ⟨I1.kIn, ?_⟩) he hpl
  have hus : us.length ≤ sizeLine := by
    rw [← Paired.length r1, sizeLine_eq]
    omega
  have hlen : vs.length + 1 = ps.length := by
    have z := F1.len _ _ _ _ (q1 s1.heap.objs.size (I1.hok.fresh (Nat.le_refl _)))
    exact z
  refine run_exn (us := us) (ws := us) (kw := []) T iC tI F1 hr hx I1 hus r1 (fun s a hs => ?_) q1
  have z := hb s (.ref a :: us) hs (by rw [List.append_nil, List.length_cons, ← Paired.length r1]; exact hlen)
  rw [List.append_nil] at z
  exact z
/-- C(k = e) -/
theorem pe_exnK {CX : CXT} {C fI : Addr} {k : Nat} {fd : FuncData} {ps : List Str} {ky : Str} {kpos : Pos} {sp : Sp} (T : Exn X.K C newId initId) (iC : PySem.W.findIn X.K (.ref C) "__init__" = some (some (.ref fI))) (tI : PySem.W.typeIn X.K (.ref fI) = some (.type "function"))
    (F1 : FnOk X.prog X.w X.K X.mg X.base CX k fI fd ps sp) (hr : Room (k + 1) X.A) (hb : ∀ (s : Shared) (a : Addr) (u : Value), X.K.In s.heap → BindsTo s fd ⟨[.ref a], [(ky, u)]⟩ (ps.zip [.ref a, u])) (hx : Passes CX X (fun _ _ _ => False)) (hg : Gl X x) (hm : X.mg x = some (.ref C))
    (ha : PK X [⟨some ky, e, kpos⟩] ta)
    (hdb : (x == ("__debug__" : Str)) = false := by decide)
    (hall : (backToKw pos (keywordEach [⟨some ky, e, kpos⟩] X.env)).all (·.1.isSome) = true := by rfl) (hks : (backToKw pos (keywordEach [⟨some ky, e, kpos⟩] X.env)).filterMap (·.1) = [ky] := by rfl)
    (hpl : ((backTo pos (starEach [] X.env)).any (·.1) || (backToKw pos (keywordEach [⟨some ky, e, kpos⟩] X.env)).any (·.1.isNone)) = false := by rfl) :
    PE X (.Call (.Name x p) [] [⟨some ky, e, kpos⟩] pos) (fun σ H Q => ta σ H fun vs H1 => vs.length = 1 ∧ tExn C sp (fun _ H Q => Q vs H) σ H1 Q) := by
  refine ⟨fun pins s σ H Q I h => ?_⟩
  refine wpAny_Call_Name_kw (ld_glob I hg hm ?_ hdb)
  refine PySem.W.callWith_KW0 (h₀ := X.base) I.ok.mod.kin T.kC hall ?_ hpl
  refine thn (ha.run pos pins s σ H _ I h) fun ws s2 ⟨zs, H2, I2, rz, l1, hz, q2⟩ => ⟨I2.kIn, ?_⟩
  rw [hks]
  have l2 : ws.length = 1 := rz.length.symm.trans l1
  obtain ⟨u, rfl⟩ : ∃ u, ws = [u] := List.length_eq_one_iff.mp l2
  show wpAny _ _ (call (.ref C) [] [(ky, u)]) _ _ _
  exact run_exn (us := []) (ws := [u]) (kw := [(ky, u)]) T iC tI F1 hr hx I2 (Nat.zero_le _) rz (fun s a hs => hb s a u hs) q2

/-! ### asked -/
/-- isinstance(e, c) of an exception that is a value -/
def rIsX (K : PySem.W.Frag) : List V → Hp → VK → Prop := fun xs H Q => ∃ (a C dx : Addr) (fs : List (Str × V)) (n i : String) (c : V) (cv : Value) (b : Bool), xs = [.ref a, c] ∧ H a = some (exo a C (some dx)) ∧ H dx = some (exd dx fs) ∧ Exn K C n i ∧ (∀ u, RelV c u → u = cv) ∧
  PySem.W.kitOne K (.ref C) cv = some b ∧ Q (.bl b) H
theorem inst_at {pins : List (Addr × Obj)} {σ : L2.St} {H : Hp} {s : Shared} {a C dx : Addr} {fs : List (Str × V)} (I : Inv X pins σ H s) (ea : H a = some (exo a C (some dx))) (ed : H dx = some (exd dx fs)) :
    ∃ (ox od : Obj), PySem.W.InstAt s.heap a ox C (some od) ∧ ∃ mA : Str → Option Value, (∀ f, RelO (fs.lookup f) (mA f)) ∧ ∀ n, PySem.W.lookIn n od = some (mA n) := by
  obtain ⟨t1, ho⟩ := exo_at I.hok ea
  obtain ⟨mA, hns, rel⟩ := exd_at I.hok ed
  obtain ⟨od, h1, h2⟩ := lookIn_ns hns
  exact ⟨_, od, ⟨ho, rfl, rfl, h1⟩, mA, rel, h2⟩
theorem call_isX : CallR X (.builtin "isinstance") (rIsX X.K) := by
  intro pins s σ H xs us Q I r h
  obtain ⟨a, C, dx, fs, n, i, c, cv, b, rfl, ea, ed, T, hcv, e, q⟩ := h
  cases r with
  | cons rx rr =>
    cases rr with
    | cons rt rr =>
      cases rr
      cases rx
      have ec := hcv _ rt
      subst ec
      obtain ⟨ox, od, J, _⟩ := inst_at I ea ed
      obtain ⟨cd, hc, _⟩ := PySem.W.any_some T.hd
      exact PySem.W.kia_one (PySem.W.kitx_exc (by rw [hc]; rfl) T.ga T.gg T.exC T.ca T.cn T.ct T.mr) I.kIn J e (fun z => nomatch z) fun tk => ⟨.bl b, H, I.kept (t' := tk) fun _ _ z => z, rfl, q⟩
/-- e.f -/
def tXfv (K : PySem.W.Frag) (f : Str) (te : TE) : TE := fun σ H Q => te σ H fun x H1 => ∃ (a C dx : Addr) (fs : List (Str × V)) (n i : String) (v : V), x = .ref a ∧ H1 a = some (exo a C (some dx)) ∧ H1 dx = some (exd dx fs) ∧ Exn K C n i ∧
  PySem.W.findIn K (.ref C) f = some none ∧ fs.lookup f = some v ∧ Q v H1
theorem pe_xfv (he : PE X e te) (hb : attributeBase e f X.env (eval e X.env) = eval e X.env := by rfl) : PE X (.Attribute e f pos) (tXfv X.K f te) := by
  refine ⟨fun pins s σ H Q I h => ?_⟩
  refine attr_of hb (thn (he.run pins s σ H _ I h) fun u s1 hh => ?_)
  obtain ⟨x, H1, I1, rx, a, C, dx, fs, n, i, v, ex, ea, ed, T, hno, l, q⟩ := hh
  subst ex
  obtain rfl : u = Value.ref a := rx
  obtain ⟨ox, od, J, mA, rel, look⟩ := inst_at I1 ea ed
  obtain ⟨u, hu, ru⟩ := RelO.some_of (v := v) (o := mA f) (by rw [← l]; exact rel f)
  exact HandSPX.exc_get I1.kIn J T.ga T.gg T.exC (PySem.W.findObj_own T.hd hno rfl (by rw [look, hu])) (handed_of ru) ⟨v, H1, I1.tok _, ru, q⟩
end
end Cor

set_option Elab.async false
set_option linter.all false
set_option maxRecDepth 100000
set_option maxHeartbeats 1000000
/-! Defs that are called where no repr runs: the promise with that fact; repr of data. -/
namespace Cor
open PySem PySem.Spec PyProof.Rows L2

/-- as FnOk, for callers under which no guarded code runs -/
structure FnG (P : Program) (w : World) (K : PySem.W.Frag) (mg : Str → Option Value) (base : Heap) (CX : CXT) (k : Nat) (f : Addr) (fd : FuncData) (ps : List Str) (sp : Sp) : Prop where
  len : ∀ vs H Q E, sp vs H Q E → vs.length = ps.length
  run : ∀ (A : Around) (outer : List Env) (s : Shared) (H : Hp) (args : Args) (us : List Value) (vs : List V) (Q : VK) (E : XK), Room k A → A.guards = some [] → Env0 P w K mg base A outer s H → BindsTo s fd args (ps.zip us) → Vals vs us → sp vs H Q E →
    codeAny (model P w) A (.call (.ref f) args) (CR CX outer P w H s Q E) s
theorem FnG.of {P : Program} {w : World} {K : PySem.W.Frag} {mg : Str → Option Value} {base : Heap} {CX : CXT} {k : Nat} {f : Addr} {fd : FuncData} {ps : List Str} {sp : Sp} (F : FnOk P w K mg base CX k f fd ps sp) : FnG P w K mg base CX k f fd ps sp :=
  ⟨F.len, fun A outer s H args us vs Q E hr _ => F.run A outer s H args us vs Q E hr⟩
theorem FnG.mono {P : Program} {w : World} {K : PySem.W.Frag} {mg : Str → Option Value} {base : Heap} {CX : CXT} {j k : Nat} {f : Addr} {fd : FuncData} {ps : List Str} {sp : Sp} (F : FnG P w K mg base CX j f fd ps sp) (h : j ≤ k) : FnG P w K mg base CX k f fd ps sp :=
  ⟨F.len, fun A outer s H args us vs Q E hr => F.run A outer s H args us vs Q E (hr.mono h)⟩
section
variable {X : Cx} {CX : CXT} {k : Nat} {f : Addr} {fd : FuncData} {ps : List Str} {sp : Sp} {dvs : List V} {ds : List Value} {E : XK} {x : Str} {p pos : Pos} {e : Expr} {es : List Expr} {t : TA}
theorem run_fnG {pins : List (Addr × Obj)} {σ : L2.St} {H : Hp} {s : Shared} {Q : VK} {us : List Value} {vs : List V} (F : FnG X.prog X.w X.K X.mg X.base CX k f fd ps sp) (hr : Room k X.A) (gd : X.A.guards = some []) (hb : Binds X.K fd ps ds) (hd : Vals dvs ds) (hx : Passes CX X E)
    (I : Inv X pins σ H s) (r : Vals vs us) (h : sp (vs ++ dvs) H Q E) : wpAny (model X.prog X.w) X.A (call (.ref f) us) (EP X pins σ Q) X.xe s := by
  have rr : Vals (vs ++ dvs) (us ++ ds) := r.append hd
  have hl : (us ++ ds).length = ps.length := rr.length.symm.trans (F.len _ _ _ _ h)
  refine wpAny_call (codeAny_mono (F.run X.A X.stack s H ⟨us, []⟩ (us ++ ds) (vs ++ dvs) Q E hr gd I.env0 (hb s us I.kIn hl) rr h) fun z s' hz => ?_)
  match z, hz with
  | .error e, hz => exact hx pins σ H s e s' I hz
  | .ok (.ret u), hz => exact I.after hz
  | .ok .next, hz => exact hz.elim
  | .ok .brk, hz => exact hz.elim
  | .ok .cont, hz => exact hz.elim
theorem pe_callG (F : FnG X.prog X.w X.K X.mg X.base CX k f fd ps sp) (hr : Room k X.A) (gd : X.A.guards = some []) (hg : Gl X x) (hm : X.mg x = some (.ref f)) (hk : PySem.W.keepIn X.K (.ref f) = true) (hb : Binds X.K fd ps ds) (hd : Vals dvs ds) (hx : Passes CX X E)
    (ha : PA X (e :: es) t) (hdb : (x == ("__debug__" : Str)) = false := by decide) (he : starEach (e :: es) X.env = (false, eval e X.env) :: starEach es X.env := by rfl) (hpl : (backTo pos (starEach es X.env)).any (·.1) = false := by rfl) :
    PE X (.Call (.Name x p) (e :: es) [] pos) (tCall sp dvs E t) := by
  refine ⟨fun pins s σ H Q I h => ?_⟩
  refine wpAny_Call_Name_kw (ld_glob I hg hm ?_ hdb)
  refine PySem.W.callWith_K (h₀ := X.base) I.ok.mod.kin hk (thn (ha.run pos pins s σ H _ I h) fun us s1 ⟨vs, H1, I1, r, q⟩ => ⟨I1.kIn, ?_⟩) he hpl
  exact run_fnG F hr gd hb hd hx I1 r q
end

/-! ### the body of such a def -/
section
variable {P : Program} {w : World} {K : PySem.W.Frag} {mg : Str → Option Value} {base : Heap}
theorem fn_ofG {CX : CXT} {k : Nat} {f : Addr} {name qual : Str} {params : Arguments} {body : List Stmt} {scope : Scope} {dV kV doc pm cdv ct oc : Value} {an od : Option Addr}
    {osl : Array (Option Value)} {N ps : List Str} {sp : Sp} (lk : K.lookup f = some ⟨oc, od, .func (PySem.W.fnOf name qual params body scope dV kV doc pm an cdv ct), osl⟩) (hcd : PySem.W.codeIn K cdv qual = true) (S : FnScope N ps scope)
    (len : ∀ vs H Q E, sp vs H Q E → vs.length = ps.length)
    (hbody : ∀ (A : Around) (outer : List Env) (s : Shared) (H : Hp) (vs : List V) (Q : VK) (E : XK), Room k (A.deeper (envOfC qual scope s.heap.objs.size f cdv)) → A.guards = some [] → sp vs H Q E →
      ∃ t, PSs (cxOf CX P w K mg base N qual scope f cdv A outer s H E) body t ∧ t { nx := fun _ H' => Q .non H', rt := Q } (start N vs) H) :
    FnG P w K mg base CX (k + 1) f (PySem.W.fnOf name qual params body scope dV kV doc pm an cdv ct) ps sp := by
  refine ⟨len, fun A outer s H args us vs Q E hr gd e0 hb r hsp => ?_⟩
  have hl := len _ _ _ _ hsp
  have KX : K.In s.heap := e0.mod.kin.keeps fun b o e => (e0.bs b o e).1
  have lim : s.heap.NoLimit := e0.mod.nolimit.keeps fun b o e => (e0.bs b o e).1
  have kinds : ∀ y ∈ ps.zip us, scope.names.lookup y.1 = some .local ∨ (scope.names.lookup y.1 = some .cell ∧ ((cellsFrom (s.heap.objs.size + 1) scope.names []).lookup y.1).isSome = true) := fun ⟨n, v⟩ hy =>
    (S.par n (List.of_mem_zip hy).1).imp id fun q => ⟨q, PySem.W.cellsFrom_some _ _ _ (.inl q)⟩
  refine codeAny_call_function hr.depth (KX _ _ lk) rfl S.co S.gen rfl (PySem.W.codeRec_of KX hcd) (hb _ _ _ _ ?_)
  refine wpAny_newFunctionEnv_cells S.kind kinds fun env he s1 x => ?_
  subst he
  refine ⟨lim.keeps x.toInCall.keep, codeAny_func ?_⟩
  obtain ⟨t, ht, hq⟩ := hbody A outer s H vs Q E (hr.deeper _) gd hsp
  have I : Inv (cxOf CX P w K mg base N qual scope f cdv A outer s H E) [] (start N vs) H s1 := inv_start S hr.hd e0 hl r x
  refine wpAny_mono (ht.run [] s1 (start N vs) H _ I hq) (fun fl s' hs => ?_) fun e s' hs => hs
  match fl, hs with
  | .ret u, ⟨v, σ', H', J, rv, q⟩ => exact ⟨v, H', J.os, J.bare, J.base, J.hok, rv, q⟩
  | .next, ⟨σ', H', J, q⟩ => exact ⟨V.non, H', J.os, J.bare, J.base, J.hok, (rfl : Value.none = Value.none), q⟩
  | .brk, ⟨_, _, _, q⟩ => exact q.elim
  | .cont, ⟨_, _, _, q⟩ => exact q.elim
theorem okG {x qual : Str} {st : Stmt} {f : Addr} {fd : FuncData} {N ps : List Str} {k : Nat} {sp : Sp} (F : Fun K x qual st f fd) (S : FnScope N ps (defScope st)) (len : ∀ vs H Q E, sp vs H Q E → vs.length = ps.length)
    (hbody : ∀ (cdv : Value) (A : Around) (outer : List Env) (s : Shared) (H : Hp) (vs : List V) (Q : VK) (E : XK), Room k (A.deeper (envOfC qual (defScope st) s.heap.objs.size f cdv)) → A.guards = some [] → sp vs H Q E →
      ∃ t, PSs (cxOf CX0 P w K mg base N qual (defScope st) f cdv A outer s H E).nox (defBody st) t ∧ t { nx := fun _ H' => Q .non H', rt := Q } (start N vs) H) : FnG P w K mg base CX0 (k + 1) f fd ps sp := by
  obtain ⟨oc, od, kV, doc, pm, an, cdv, ct, osl, rfl, lk, hcd⟩ := F.ex
  refine fn_ofG lk hcd S len fun A outer s H vs Q E hr gd hsp => ?_
  obtain ⟨t, h, q⟩ := hbody cdv A outer s H vs Q E hr gd hsp
  exact ⟨t, h.nox, q⟩
end

/-! ### the law's call -/
theorem law_callG {P : Program} {w : World} {K : PySem.W.Frag} {mg mb : Str → Option Value} {CX : CXT} {k : Nat} {fa a : Addr} {fd : FuncData} {x : Str} {sp : Sp} {s1 : Shared} {vs : List Value} {ns : List Int}
    (KX : K.In s1.heap) (hns : s1.heap.Ns mainGlobals mg) (hb : s1.heap.Ns builtinsNs mb) (hbb : ∀ x : Str, x ≠ "__name__" → mb x = bootBuiltins x) (hlim : s1.heap.NoLimit) (hg : s1.gens = #[])
    (ha : s1.heap.get? a = some { cls := .type "list", data := .seq vs.toArray }) (hi : IntsAre vs ns) (hl : ns.length ≤ sizeLine) (hr : Room k callerA)
    (F : ∀ base : Heap, K.In base → base.Ns mainGlobals mg → FnG P w K mg base CX k fa fd [x] sp) (hbind : ∀ (s : Shared) (u : Value), BindsTo s fd ⟨[u], []⟩ [(x, u)])
    (hsp : ∀ H : Hp, SqL K H a (ns.map V.int) → sp [.ref a] H (fun v _ => v = .bl true) fun _ _ _ => False)
    (hCX : ∀ H e s', CX [] H s1 (fun _ _ _ => False) e s' → False) :
    codeAny (model P w) callerA (.call (.ref fa) ⟨[.ref a], []⟩) (fun r s' => r = .ok (.ret (.bool true)) ∧ OldK s1.heap s'.heap ∧ s'.os = s1.os ∧ AllBare s'.gens) s1 := by
  have rv := vals_ints hi
  have lenV := hi.length
  let T : HO := .frz { cls := .type "list", data := .seq vs.toArray } (.lst (ns.map V.int))
  -- the heap that tracks the script unless the text's own part holds it
  let H : Hp := fun b => if b = a ∧ K.lookup a = none then some T else none
  have inH : ∀ b u, H b = some u → b = a ∧ K.lookup a = none ∧ u = T := fun b u z => by
    by_cases c : b = a ∧ K.lookup a = none
    · have z2 : some T = some u := (if_pos c).symm.trans z
      exact ⟨c.1, c.2, (Option.some.inj z2).symm⟩
    · have z2 : none = some u := (if_neg c).symm.trans z
      cases z2
  have hok : HOk P w H s1.heap := fun b u z => by
    obtain ⟨rfl, _, rfl⟩ := inH b u z
    exact ⟨ha, by rw [List.length_map]; exact hl, vs, _, rv, ha⟩
  have hS : SqL K H a (ns.map V.int) := by
    cases hk : K.lookup a with
    | none => exact .inl (.inr ⟨{ cls := .type "list", data := .seq vs.toArray }, if_pos ⟨rfl, hk⟩⟩)
    | some o =>
      have e := KX a o hk
      rw [ha] at e
      cases e
      exact .inr ⟨_, vs.toArray, _, hk, rfl, rfl, rfl, by rw [List.size_toArray, lenV]; exact hl, by simpa using rv⟩
  have noneOf : ∀ {b : Addr} {o : Obj} {es : Array DictEntry} {ep : Nat}, s1.heap.get? b = some o → o.data = .dict es ep → H b = none := fun {b o es ep} e dd => by
    cases z : H b with
    | none => rfl
    | some u =>
      obtain ⟨rfl, _, _⟩ := inH b u z
      rw [ha] at e
      cases e
      have d2 : Data.seq vs.toArray _ = Data.dict es ep := dd
      cases d2
  have nsK : ∀ {b : Addr} {m : Str → Option Value}, s1.heap.Ns b m → (hidT s1.heap H).Ns b m := fun {b m} ⟨o, es, ep, e, dd, r⟩ => ⟨o, es, ep, hidT_get e (noneOf e dd), dd, r⟩
  have kb : K.In (hidT s1.heap H) := fun b o e => hidT_get (KX b o e) (by
    cases z : H b with
    | none => rfl
    | some u =>
      obtain ⟨rfl, h2, _⟩ := inH b u z
      rw [h2] at e
      cases e)
  have md : Mod K mg (hidT s1.heap H) := ⟨kb, nsK hns, ⟨mb, nsK hb, hbb⟩, let ⟨mc, h1, h2⟩ := hlim; ⟨mc, nsK h1, h2⟩⟩
  have e0 : Env0 P w K mg (hidT s1.heap H) callerA [] s1 H := ⟨rfl, md, fun b o e => of_hidT e, Nat.le_of_eq (hidT_size _ _), trivial, fun b hb => absurd (show b ∈ ([] : List Addr) from hb) (by simp), hok, .of_eq hg⟩
  refine codeAny_mono ((F _ kb (nsK hns)).run callerA [] s1 H ⟨[.ref a], []⟩ [.ref a] [.ref a] _ _ hr rfl e0 (hbind s1 (.ref a)) (.cons rfl .nil) (hsp H hS)) fun r s' h => ?_
  match r, h with
  | .error e, h => exact (hCX H e s' h).elim
  | .ok .next, h => exact h.elim
  | .ok .brk, h => exact h.elim
  | .ok .cont, h => exact h.elim
  | .ok (.ret u), ⟨v, H2, os, bare, un, hok2, r2, q⟩ =>
    obtain rfl : v = .bl true := q
    obtain rfl : u = Value.bool true := r2
    refine ⟨rfl, OldK.of_keep fun b o e => ?_, os, bare⟩
    cases z : H b with
    | none => exact un.keep b o e z (by intro y; exact absurd (show b ∈ ([] : List Addr) from y) (by simp)) (by simp)
    | some u =>
      obtain ⟨rfl, _, rfl⟩ := inH b u z
      have z2 := un.frzs b _ _ z
      obtain ⟨e2, _⟩ := hok2 b _ z2
      rw [ha] at e
      cases e
      exact e2
theorem walk_ofG {l : PySem.W.OpenLaw} {n k : Nat} {q : Program} {loose : List Str} {XP : (Str → Option Value) → Heap → Prop} {YP : World → Heap → Prop} {d : DefRec} {K : Params → PySem.W.Frag} {CX : World → CXT} {sp : World → Sp} {x : Str}
    (hn : l.most = some n) (hn2 : n ≤ sizeLine) (hdf : d.params.defaults = []) (hr : Room k callerA)
    (hY : ∀ (w : World) (h : Heap), YP w h → (K w.params).In h)
    (F : ∀ (w : World) (mg : Str → Option Value) (fa : Addr) (h : Heap), (K w.params).In h → h.Ns mainGlobals mg → mg d.name = some (.ref fa) →
      ∃ fd : FuncData, (∀ (s : Shared) (u : Value), BindsTo s fd ⟨[u], []⟩ [(x, u)]) ∧
        ∀ base : Heap, (K w.params).In base → base.Ns mainGlobals mg → FnG l.prog w (K w.params) mg base (CX w) k fa fd [x] (sp w))
    (hsp : ∀ (w : World) (H : Hp) (a : Addr) (ns : List Int), ns.length ≤ n → (∀ z ∈ ns, Builtin.Int.intBits z ≤ 1048576) → SqL (K w.params) H a (ns.map V.int) → sp w [.ref a] H (fun v _ => v = .bl true) fun _ _ _ => False)
    (hCX : ∀ (w : World) (H : Hp) (s : Shared) (e : Value) (s' : Shared), CX w [] H s (fun _ _ _ => False) e s' → False) :
    PySem.W.WalkO q loose XP YP l.row.toRowW d [] (fun f vs => PySem.call f vs) := by
  refine Att.attach_callB hn hdf fun w s0 s1 mg mb fa o pm cd doc a vs ns G Y ho hd hcd hmg hobj hints hlen hbits hg => ?_
  have KX := hY w _ Y
  obtain ⟨fd, hb, hF⟩ := F w mg fa _ KX G.T.g hmg
  exact law_callG KX G.T.g G.T.b G.T.builtins G.T.nolimit hg hobj hints (Nat.le_trans hlen hn2) hr hF hb (fun H hS => hsp w H a ns hlen hbits hS) fun H e s' => hCX w H s1 e s'
end Cor

set_option Elab.async false
set_option linter.all false
set_option maxRecDepth 100000
set_option maxHeartbeats 1000000
namespace Cor
open PySem PySem.Spec PyProof.Rows L2

/-! ### defs of the text, by name -/
/-- the def x keeps sp at level k -/
def Df (P : Program) (w : World) (K : PySem.W.Frag) (mg : Str → Option Value) (base : Heap) (x : Str) (k : Nat) (ps : List Str) (sp : Sp) : Prop :=
  ∃ f fd, FnOk P w K mg base CX0 k f fd ps sp ∧ mg x = some (.ref f) ∧ PySem.W.keepIn K (.ref f) = true ∧ Binds K fd ps []
/-- .. where no repr runs -/
def DfG (P : Program) (w : World) (K : PySem.W.Frag) (mg : Str → Option Value) (base : Heap) (x : Str) (k : Nat) (ps : List Str) (sp : Sp) : Prop :=
  ∃ f fd, FnG P w K mg base CX0 k f fd ps sp ∧ mg x = some (.ref f) ∧ PySem.W.keepIn K (.ref f) = true ∧ Binds K fd ps []
section
variable {X : Cx} {k : Nat} {ps : List Str} {sp : Sp} {E : XK} {x : Str} {p pos : Pos} {e : Expr} {es : List Expr} {t : TA}
theorem pe_df (D : Df X.prog X.w X.K X.mg X.base x k ps sp) (hr : Room k X.A) (hg : Gl X x) (ha : PA X (e :: es) t)
    (hdb : (x == ("__debug__" : Str)) = false := by decide) (he : starEach (e :: es) X.env = (false, eval e X.env) :: starEach es X.env := by rfl) (hpl : (backTo pos (starEach es X.env)).any (·.1) = false := by rfl) :
    PE X (.Call (.Name x p) (e :: es) [] pos) (tCall sp [] E t) := by
  obtain ⟨f, fd, F, m, kp, b⟩ := D
  exact pe_call F hr hg m kp b .nil pass0 ha hdb he hpl
theorem pe_dfG (D : DfG X.prog X.w X.K X.mg X.base x k ps sp) (hr : Room k X.A) (gd : X.A.guards = some []) (hg : Gl X x) (ha : PA X (e :: es) t)
    (hdb : (x == ("__debug__" : Str)) = false := by decide) (he : starEach (e :: es) X.env = (false, eval e X.env) :: starEach es X.env := by rfl) (hpl : (backTo pos (starEach es X.env)).any (·.1) = false := by rfl) :
    PE X (.Call (.Name x p) (e :: es) [] pos) (tCall sp [] E t) := by
  obtain ⟨f, fd, F, m, kp, b⟩ := D
  exact pe_callG F hr gd hg m kp b .nil pass0 ha hdb he hpl
end

/-- a statement with one fact behind it, whatever way it took -/
def tCut (t u : TS) : TS := fun D σ H => ∃ M : L2.St → Hp → Prop, t { D with nx := M } σ H ∧ ∀ σ' H', M σ' H' → u D σ' H'
theorem pss_cut {X : Cx} {st : Stmt} {rest : List Stmt} {t u : TS} (h1 : PS X st t) (h2 : PSs X rest u) : PSs X (st :: rest) (tCut t u) := by
  constructor
  intro pins s σ H D I ⟨M, hm, hu⟩
  refine wpAny_execs_cons (thn (h1.run pins s σ H { D with nx := M } I hm) fun fl s1 q => ?_)
  match fl, q with
  | .next, ⟨σ', H', J, q⟩ => exact h2.run pins s1 σ' H' D J (hu σ' H' q)
  | .ret v, q => exact q
  | .brk, q => exact q
  | .cont, q => exact q
/-! ### heaps -/
/-- all that stood but at p stands -/
def SameBut (p : Addr) (H H' : Hp) : Prop := ∀ b o, b ≠ p → H b = some o → H' b = some o
theorem Same.but {H H' : Hp} {p : Addr} (s : Same H H') : SameBut p H H' := fun b o _ e => s b o e
theorem SameBut.trans {H H1 H2 : Hp} {p : Addr} (a : SameBut p H H1) (b : SameBut p H1 H2) : SameBut p H H2 := fun c o n e => b c o n (a c o n e)
theorem SameBut.refl {H : Hp} {p : Addr} : SameBut p H H := fun _ _ _ e => e
theorem SameBut.upd {H : Hp} {p : Addr} {o : HO} : SameBut p H (upd H p o) := fun b u n e => by rw [upd_ne n]; exact e
theorem SameBut.seq {K : PySem.W.Frag} {H H' : Hp} {p a : Addr} {xs : List V} (s : SameBut p H H') (n : H a = none ∨ a ≠ p) (h : SqL K H a xs) : SqL K H' a xs := by
  rcases h with (h | ⟨o, h⟩) | h
  · exact .inl (.inl (s _ _ (by rcases n with n | n; (· rw [n] at h; cases h); (· exact n)) h))
  · exact .inl (.inr ⟨o, s _ _ (by rcases n with n | n; (· rw [n] at h; cases h); (· exact n)) h⟩)
  · exact .inr h
theorem same_upd {H : Hp} {p : Addr} {o : HO} (n : H p = none) : Same H (upd H p o) := fun b u e => by rw [upd_ne (ne_of_none e n)]; exact e
mutual
theorem Dp.same {K : PySem.W.Frag} {H H' : Hp} (s : Same H H') : ∀ {v : V} {d : PyData}, Dp K H v d → Dp K H' v d
  | _, _, .non => .non
  | _, _, .bl b => .bl b
  | _, _, .int i => .int i
  | _, _, .str x => .str x
  | _, _, .lst h a => .lst (s.seq h) (DpAll.same s a)
  | _, _, .tup h a => .tup (by
      rcases h with (h | ⟨o, h⟩) | h
      · exact .inl (.inl (s _ _ h))
      · exact .inl (.inr ⟨o, s _ _ h⟩)
      · exact .inr h) (DpAll.same s a)
theorem DpAll.same {K : PySem.W.Frag} {H H' : Hp} (s : Same H H') : ∀ {vs : List V} {ds : List PyData}, DpAll K H vs ds → DpAll K H' vs ds
  | _, _, .nil => .nil
  | _, _, .cons h a => .cons (Dp.same s h) (DpAll.same s a)
end
/-! ### the draws -/
/-- a source of draws stands at p -/
def Box (H : Hp) (p : Addr) : Prop := ∃ b s c : Int, H p = some (.lst [.int b, .int s, .int c]) ∧ 0 ≤ s ∧ s < 4294967296
def spBox (K : PySem.W.Frag) : Sp := fun vs H Q _ => ∃ (a : Addr) (ns : List Int) (k own : Int), vs = [.ref a, .int k, .int own] ∧ SqL K H a (ns.map V.int) ∧ ns.length ≤ 63 ∧ 0 ≤ k ∧ k < 1000 ∧ 0 ≤ own ∧ own < 1000 ∧
  ∀ H' p, Same H H' → H p = none → Box H' p → Q (.ref p) H'
def spTake : Sp := fun vs H Q _ => ∃ (p : Addr) (m : Int), vs = [.ref p, .int m] ∧ Box H p ∧ 0 < m ∧ m < 2 ^ 90 ∧
  ∀ (b s c r : Int), 0 ≤ s → s < 4294967296 → 0 ≤ r → r < m → Q (.int r) (upd H p (.lst [.int b, .int s, .int c]))
/-- the names of the built-ins that a text may use -/
structure Glo (mg : Str → Option Value) : Prop where
  len : mg "len" = none
  abs : mg "abs" = none
  int : mg "int" = none
  range : mg "range" = none
  max : mg "max" = none
  min : mg "min" = none
end Cor

set_option Elab.async false
set_option linter.all false
set_option maxRecDepth 100000
set_option maxHeartbeats 1000000
namespace Cor
open PySem PySem.Spec PyProof.Rows L2
theorem _root_.L2.PE.imp {X : Cx} {e : Expr} {t t' : TE} (h : PE X e t) (i : ∀ σ H Q, t' σ H Q → t σ H Q) : PE X e t' := ⟨fun pins s σ H Q I q => h.run pins s σ H Q I (i σ H Q q)⟩
def tMono (t : TE) : TE := fun σ H Q => ∃ R : VK, t σ H R ∧ ∀ v H', R v H' → Q v H'
theorem _root_.L2.PE.up {X : Cx} {e : Expr} {t : TE} (h : PE X e t) : PE X e (tMono t) :=
  ⟨fun pins s σ H Q I ⟨R, q, up⟩ => thn (h.run pins s σ H R I q) fun u s' ⟨v, H', J, r, z⟩ => ⟨v, H', J, r, up v H' z⟩⟩
/-- an exception of the class at C, with the one field f -/
def ExV (H : Hp) (a C : Addr) (f : Str) (v : V) : Prop := ∃ dx, H a = some (exo a C (some dx)) ∧ H dx = some (exd dx [(f, v)])
theorem ExV.same {H H' : Hp} {a C : Addr} {f : Str} {v : V} (s : Same H H') (h : ExV H a C f v) : ExV H' a C f v := let ⟨dx, h1, h2⟩ := h; ⟨dx, s _ _ h1, s _ _ h2⟩
def spInit (C : Addr) (f : Str) : Sp := fun vs H Q _ => ∃ (a : Addr) (v : V), vs = [.ref a, v] ∧ H a = some (exo a C none) ∧ ∀ dx, H dx = none → dx ≠ a → Q .non (upd (upd H dx (exd dx [(f, v)])) a (exo a C (some dx)))
/-- the exception class x of the text, whose __init__ keeps its one argument in f -/
def Xcl (P : Program) (w : World) (K : PySem.W.Frag) (mg : Str → Option Value) (base : Heap) (x : Str) (C : Addr) (f : Str) : Prop :=
  ∃ n i fI fd, Exn K C n i ∧ PySem.W.findIn K (.ref C) "__init__" = some (some (.ref fI)) ∧ PySem.W.typeIn K (.ref fI) = some (.type "function") ∧ FnOk P w K mg base CX0 1 fI fd ["self", f] (spInit C f) ∧ Binds K fd ["self", f] [] ∧
    (∀ (s : Shared) (a : Addr) (u : Value), K.In s.heap → BindsTo s fd ⟨[.ref a], [(f, u)]⟩ ((["self", f] : List Str).zip [.ref a, u])) ∧ mg x = some (.ref C) ∧ PySem.W.findIn K (.ref C) f = some none
/-- x(e) -/
def tNewX (C : Addr) (f : Str) (te : TE) : TE := fun σ H Q => te σ H fun v H1 => ∀ H' a, Same H1 H' → H1 a = none → ExV H' a C f v → Q (.ref a) H'
section
variable {X : Cx} {C : Addr} {f x : Str} {te : TE} {e : Expr} {p pos kpos : Pos}
theorem newx_end {H1 : Hp} {v : V} {Q : VK} (q : ∀ H' a, Same H1 H' → H1 a = none → ExV H' a C f v → Q (.ref a) H') (a : Addr) (na : H1 a = none) :
    spInit C f [.ref a, v] (upd H1 a (exo a C none)) (fun v H2 => v = .non ∧ Q (.ref a) H2) (fun _ _ _ => False) := by
  refine ⟨a, v, rfl, upd_same, fun dx hd hne => ⟨rfl, q _ a (fun b o z => ?_) na ⟨dx, upd_same, ?_⟩⟩⟩
  · rw [upd_ne hne] at hd
    rw [upd_ne (ne_of_none z na), upd_ne (ne_of_none z hd), upd_ne (ne_of_none z na)]
    exact z
  · rw [upd_ne hne, upd_same]
theorem pe_newx (D : Xcl X.prog X.w X.K X.mg X.base x C f) (hr : Room 2 X.A) (hg : Gl X x) (he : PE X e te) (hdb : (x == ("__debug__" : Str)) = false := by decide) (hs : starEach [e] X.env = (false, eval e X.env) :: starEach [] X.env := by rfl) :
    PE X (.Call (.Name x p) [e] [] pos) (tNewX C f te) := by
  obtain ⟨n, i, fI, fd, T, h1, h2, F, b, _, m, _⟩ := D
  refine (pe_exn T h1 h2 F hr b pass0 hg m (pa_cons he.up pa_nil hs) hdb hs rfl).imp fun σ H Q q => ?_
  exact ⟨_, q, fun v H1 z => ⟨by show 1 ≤ 1000; decide, fun a na => newx_end z a na⟩⟩
/-- x(f = e) -/
theorem pe_newxK (D : Xcl X.prog X.w X.K X.mg X.base x C f) (hr : Room 2 X.A) (hg : Gl X x) (he : PE X e te) (hk : PK X [⟨some f, e, kpos⟩] (tCons (tMono te) tNil)) (hdb : (x == ("__debug__" : Str)) = false := by decide)
    (hall : (backToKw pos (keywordEach [⟨some f, e, kpos⟩] X.env)).all (·.1.isSome) = true := by rfl) (hks : (backToKw pos (keywordEach [⟨some f, e, kpos⟩] X.env)).filterMap (·.1) = [f] := by rfl)
    (hpl : ((backTo pos (starEach [] X.env)).any (·.1) || (backToKw pos (keywordEach [⟨some f, e, kpos⟩] X.env)).any (·.1.isNone)) = false := by rfl) :
    PE X (.Call (.Name x p) [] [⟨some f, e, kpos⟩] pos) (tNewX C f te) := by
  obtain ⟨n, i, fI, fd, T, h1, h2, F, _, b, m, _⟩ := D
  refine (pe_exnK T h1 h2 F hr b pass0 hg m hk hdb hall hks hpl).imp fun σ H Q q => ?_
  exact ⟨_, q, fun v H1 z => ⟨rfl, by show 1 ≤ 1000; decide, fun a na => newx_end z a na⟩⟩
/-- o.f of such an exception -/
def tGetX (C : Addr) (f : Str) (te : TE) : TE := fun σ H Q => te σ H fun x H1 => ∃ a v, x = .ref a ∧ ExV H1 a C f v ∧ Q v H1
theorem pe_getx (D : Xcl X.prog X.w X.K X.mg X.base x C f) (he : PE X e te) (hb : attributeBase e f X.env (eval e X.env) = eval e X.env := by rfl) : PE X (.Attribute e f pos) (tGetX C f te) := by
  obtain ⟨n, i, fI, fd, T, _, _, _, _, _, _, no⟩ := D
  refine (pe_xfv he.up hb).imp fun σ H Q q => ?_
  refine ⟨_, q, fun y H1 z => ?_⟩
  obtain ⟨a, v, rfl, ⟨dx, e1, e2⟩, q⟩ := z
  exact ⟨a, C, dx, _, n, i, v, rfl, e1, e2, T, no, by simp [List.lookup], q⟩
end
/-- isinstance(o, c) of such an exception -/
def rIsV (K : PySem.W.Frag) : List V → Hp → VK → Prop := fun xs H Q => ∃ (a C : Addr) (f : Str) (v : V) (n i : String) (c : V) (cv : Value) (b : Bool), xs = [.ref a, c] ∧ ExV H a C f v ∧ Exn K C n i ∧ (∀ u, RelV c u → u = cv) ∧
  PySem.W.kitOne K (.ref C) cv = some b ∧ Q (.bl b) H
theorem call_isV {X : Cx} : CallR X (.builtin "isinstance") (rIsV X.K) := by
  intro pins s σ H xs us Q I r h
  obtain ⟨a, C, f, v, n, i, c, cv, b, rfl, ⟨dx, e1, e2⟩, T, hc, hk, q⟩ := h
  exact call_isX pins s σ H _ us Q I r ⟨a, C, dx, _, n, i, c, cv, b, rfl, e1, e2, T, hc, hk, q⟩
end Cor

set_option linter.all false
/-! Trees of cases: plain Lean. -/
namespace Cor
/-- a plain value -/
inductive Lf where
  | i (n : Int)
  | b (v : Bool)
  deriving DecidableEq
/-- a tree of cases -/
inductive Tr where
  | lf (v : Lf)
  | nd (n : Int) (y o : Tr)
  deriving DecidableEq
abbrev Rho := Int → Bool
def Rho.put (r : Rho) (n : Int) (b : Bool) : Rho := fun m => if m = n then b else r m
def Tr.ev (r : Rho) : Tr → Lf
  | .lf v => v
  | .nd n y o => if r n = true then y.ev r else o.ev r
def Tr.nums : Tr → List Int
  | .lf _ => []
  | .nd n y o => n :: (y.nums ++ o.nums)
def Tr.dep : Tr → Nat
  | .lf _ => 0
  | .nd _ y o => max y.dep o.dep + 1
/-- the one form over the numbers S, ascending; g holds of its plain values -/
def Cn (g : Lf → Prop) : List Int → Tr → Prop
  | _, .lf v => g v
  | [], .nd _ _ _ => False
  | s :: S, .nd n y o => (n = s ∧ y ≠ o ∧ Cn g S y ∧ Cn g S o) ∨ Cn g S (.nd n y o)
abbrev Asc (S : List Int) : Prop := S.Pairwise (· < ·)

section
variable {g g' : Lf → Prop}
theorem Cn.lf {S : List Int} {v : Lf} (h : g v) : Cn g S (.lf v) := by cases S <;> exact h
theorem Cn.lf_of {S : List Int} {v : Lf} (h : Cn g S (.lf v)) : g v := by cases S <;> exact h
theorem Cn.skip {s : Int} {S : List Int} : ∀ {t : Tr}, Cn g S t → Cn g (s :: S) t
  | .lf _, h => .lf h.lf_of
  | .nd _ _ _, h => .inr h
theorem Cn.mono (hg : ∀ v, g v → g' v) : ∀ {S : List Int} {t : Tr}, Cn g S t → Cn g' S t
  | S, .lf v, h => .lf (hg v h.lf_of)
  | [], .nd _ _ _, h => h.elim
  | s :: S, .nd n y o, h => by
    rcases h with ⟨h1, h2, h3, h4⟩ | h
    · exact .inl ⟨h1, h2, Cn.mono hg h3, Cn.mono hg h4⟩
    · exact .inr (Cn.mono hg h)
theorem Cn.sub {S T : List Int} (st : S.Sublist T) : ∀ {t : Tr}, Cn g S t → Cn g T t := by
  induction st with
  | slnil => intro t h; exact h
  | cons a _ ih => intro t h; exact (ih h).skip
  | cons_cons a _ ih =>
    intro t h
    cases t with
    | lf v => exact .lf h.lf_of
    | nd n y o =>
      rcases h with ⟨h1, h2, h3, h4⟩ | h
      · exact .inl ⟨h1, h2, ih h3, ih h4⟩
      · exact .inr (ih h)
theorem Cn.mem : ∀ {S : List Int} {t : Tr}, Cn g S t → ∀ n ∈ t.nums, n ∈ S
  | _, .lf _, _, n, hn => by cases hn
  | [], .nd _ _ _, h, _, _ => h.elim
  | s :: S, .nd m y o, h, n, hn => by
    rcases h with ⟨h1, _, h3, h4⟩ | h
    · rcases List.mem_cons.mp hn with e | e
      · rw [e, h1]; exact List.mem_cons_self
      · rcases List.mem_append.mp e with e | e
        · exact List.mem_cons_of_mem _ (Cn.mem h3 n e)
        · exact List.mem_cons_of_mem _ (Cn.mem h4 n e)
    · exact List.mem_cons_of_mem _ (Cn.mem h n hn)
theorem Cn.dep_le : ∀ {S : List Int} {t : Tr}, Cn g S t → t.dep ≤ S.length
  | _, .lf _, _ => Nat.zero_le _
  | [], .nd _ _ _, h => h.elim
  | s :: S, .nd m y o, h => by
    rcases h with ⟨_, _, h3, h4⟩ | h
    · have a := Cn.dep_le h3
      have b := Cn.dep_le h4
      show max y.dep o.dep + 1 ≤ S.length + 1
      omega
    · exact Nat.le_succ_of_le (Cn.dep_le h)
theorem ev_out {r : Rho} {n : Int} {b : Bool} : ∀ {t : Tr}, n ∉ t.nums → t.ev (r.put n b) = t.ev r
  | .lf _, _ => rfl
  | .nd m y o, h => by
    have h1 : m ≠ n := fun e => h (by rw [e]; exact List.mem_cons_self)
    have h2 : n ∉ y.nums := fun e => h (List.mem_cons_of_mem _ (List.mem_append_left _ e))
    have h3 : n ∉ o.nums := fun e => h (List.mem_cons_of_mem _ (List.mem_append_right _ e))
    show (if (r.put n b) m = true then y.ev _ else o.ev _) = (if r m = true then y.ev r else o.ev r)
    rw [show (r.put n b) m = r m from if_neg h1, ev_out h2, ev_out h3]
theorem put_same {r : Rho} {n : Int} {b : Bool} : (r.put n b) n = b := if_pos rfl
theorem put_put {r : Rho} {n : Int} {b c : Bool} : (r.put n b).put n c = r.put n c := by
  funext m; unfold Rho.put; split <;> rfl
theorem put_self {r : Rho} {n : Int} : r.put n (r n) = r := by
  funext m; unfold Rho.put; split
  · rename_i e; rw [e]
  · rfl
/-- two forms that have the same values are one -/
theorem Cn.one : ∀ {S : List Int} {t t' : Tr}, Asc S → Cn g S t → Cn g' S t' → (∀ r : Rho, t.ev r = t'.ev r) → t = t'
  | [], .lf v, .lf v', _, _, _, e => by rw [show v = v' from e fun _ => true]
  | [], .nd _ _ _, _, _, h, _, _ => h.elim
  | [], .lf _, .nd _ _ _, _, _, h, _ => h.elim
  | s :: S, t, t', hS, h, h', e => by
    obtain ⟨hs, hS'⟩ := List.pairwise_cons.mp hS
    have sS : s ∉ S := fun z => absurd (hs s z) (by omega)
    -- what stands over S does not ask s
    have out : ∀ {g : Lf → Prop} {u : Tr} {r : Rho} {b : Bool}, Cn g S u → u.ev (r.put s b) = u.ev r := fun hu => ev_out fun z => sS (hu.mem s z)
    have split : ∀ {g : Lf → Prop} {u : Tr}, Cn g (s :: S) u → Cn g S u ∨ ∃ y o, u = .nd s y o ∧ y ≠ o ∧ Cn g S y ∧ Cn g S o := fun {g u} hu => by
      cases u with
      | lf v => exact .inl (.lf hu.lf_of)
      | nd n y o =>
        rcases hu with ⟨rfl, h2, h3, h4⟩ | hu
        · exact .inr ⟨y, o, rfl, h2, h3, h4⟩
        · exact .inl hu
    have top : ∀ {y o : Tr} {r : Rho} {b : Bool}, (Tr.nd s y o).ev (r.put s b) = if b = true then y.ev (r.put s b) else o.ev (r.put s b) := fun {y o r b} => by
      show (if (r.put s b) s = true then _ else _) = _
      rw [put_same]
    rcases split h with h | ⟨y, o, rfl, ne, hy, ho⟩
    · rcases split h' with h' | ⟨y', o', rfl, ne', hy', ho'⟩
      · exact Cn.one hS' h h' e
      · have a : t = y' := Cn.one hS' h hy' fun r => by
          have z := e (r.put s true)
          rw [out h, top, if_pos rfl, out hy'] at z
          exact z
        have b : t = o' := Cn.one hS' h ho' fun r => by
          have z := e (r.put s false)
          rw [out h, top, if_neg Bool.false_ne_true, out ho'] at z
          exact z
        exact absurd (a.symm.trans b) ne'
    · rcases split h' with h' | ⟨y', o', rfl, ne', hy', ho'⟩
      · have a : y = t' := Cn.one hS' hy h' fun r => by
          have z := e (r.put s true)
          rw [top, if_pos rfl, out hy, out h'] at z
          exact z
        have b : o = t' := Cn.one hS' ho h' fun r => by
          have z := e (r.put s false)
          rw [top, if_neg Bool.false_ne_true, out ho, out h'] at z
          exact z
        exact absurd (a.trans b.symm) ne
      · have a : y = y' := Cn.one hS' hy hy' fun r => by
          have z := e (r.put s true)
          rw [top, top, if_pos rfl, if_pos rfl, out hy, out hy'] at z
          exact z
        have b : o = o' := Cn.one hS' ho ho' fun r => by
          have z := e (r.put s false)
          rw [top, top, if_neg Bool.false_ne_true, if_neg Bool.false_ne_true, out ho, out ho'] at z
          exact z
        rw [a, b]
end

/-! ### what the program's defs make, by plain functions -/
def mkNd (n : Int) (y o : Tr) : Tr := if y = o then y else .nd n y o
theorem mkNd_ev {n : Int} {y o : Tr} {r : Rho} : (mkNd n y o).ev r = if r n = true then y.ev r else o.ev r := by
  unfold mkNd
  split
  · rename_i e
    rw [e]
    split <;> rfl
  · rfl
theorem mkNd_cn {g : Lf → Prop} {n : Int} {S : List Int} {y o : Tr} (hy : Cn g S y) (ho : Cn g S o) : Cn g (n :: S) (mkNd n y o) := by
  unfold mkNd
  split
  · exact hy.skip
  · rename_i ne
    exact .inl ⟨rfl, ne, hy, ho⟩
/-- the number at the top is no smaller -/
def Tr.from (n : Int) : Tr → Prop
  | .lf _ => True
  | .nd m _ _ => n ≤ m
/-- a case by a number that is at the top or above it -/
def caseTop (n : Int) (b : Bool) : Tr → Tr
  | .lf v => .lf v
  | .nd m y o => if m = n then (if b = true then y else o) else .nd m y o
theorem caseTop_nd (n : Int) (b : Bool) (m : Int) (y o : Tr) : caseTop n b (.nd m y o) = if m = n then (if b = true then y else o) else .nd m y o := rfl
def above (n : Int) (S : List Int) : List Int := S.filter fun m => decide (n < m)
theorem above_sub (n : Int) (S : List Int) : (above n S).Sublist S := List.filter_sublist
theorem above_asc {n : Int} {S : List Int} (h : Asc S) : Asc (above n S) := h.sublist (above_sub n S)
theorem above_cons {n s : Int} {S : List Int} (h : Asc (s :: S)) (hn : n ≤ s) : (n = s ∧ above n (s :: S) = S) ∨ (n < s ∧ above n (s :: S) = s :: S) := by
  obtain ⟨hs, hS⟩ := List.pairwise_cons.mp h
  have all : ∀ m, (∀ x ∈ S, m < x) → S.filter (fun x => decide (m < x)) = S := fun m hm => List.filter_eq_self.mpr fun x hx => decide_eq_true (hm x hx)
  unfold above
  rw [List.filter_cons]
  by_cases e : n = s
  · subst e
    rw [if_neg (by simp)]
    exact .inl ⟨rfl, all n hs⟩
  · have hlt : n < s := by omega
    rw [if_pos (decide_eq_true hlt), all n fun x hx => by have := hs x hx; omega]
    exact .inr ⟨hlt, rfl⟩
theorem Cn.above {g : Lf → Prop} {n : Int} : ∀ {S : List Int} {t : Tr}, Asc S → Cn g S t → (∀ m ∈ t.nums, n < m) → Cn g (above n S) t
  | S, .lf v, _, h, _ => .lf h.lf_of
  | [], .nd _ _ _, _, h, _ => h.elim
  | s :: S, .nd m y o, hS, h, hm => by
    obtain ⟨hs, hS'⟩ := List.pairwise_cons.mp hS
    have keep : n < s → Cor.above n (s :: S) = s :: S := fun hlt => by
      rcases above_cons hS (Int.le_of_lt hlt) with ⟨e, _⟩ | ⟨_, e⟩
      · omega
      · exact e
    rcases h with ⟨rfl, h2, h3, h4⟩ | h
    · rw [keep (hm m List.mem_cons_self)]
      exact .inl ⟨rfl, h2, h3, h4⟩
    · by_cases hlt : n < s
      · rw [keep hlt]
        exact .inr h
      · have z := Cn.above (n := n) hS' h hm
        unfold Cor.above at z ⊢
        rw [List.filter_cons, if_neg (by simpa using hlt)]
        exact z
/-- all numbers below the top of a form are greater -/
theorem Cn.below {g : Lf → Prop} : ∀ {S : List Int} {m : Int} {y o : Tr}, Asc S → Cn g S (.nd m y o) → m ∈ S ∧ y ≠ o ∧ Cn g (Cor.above m S) y ∧ Cn g (Cor.above m S) o
  | [], _, _, _, _, h => h.elim
  | s :: S, m, y, o, hS, h => by
    obtain ⟨hs, hS'⟩ := List.pairwise_cons.mp hS
    rcases h with ⟨rfl, h2, h3, h4⟩ | h
    · have e : Cor.above m (m :: S) = S := by
        rcases above_cons hS (Int.le_refl m) with ⟨_, e⟩ | ⟨l, _⟩
        · exact e
        · omega
      rw [e]
      exact ⟨List.mem_cons_self, h2, h3, h4⟩
    · obtain ⟨a, b, c, d⟩ := Cn.below hS' h
      have e : Cor.above m (s :: S) = Cor.above m S := by
        unfold Cor.above
        rw [List.filter_cons, if_neg (by have := hs m a; simp; omega)]
      rw [e]
      exact ⟨List.mem_cons_of_mem _ a, b, c, d⟩
theorem Cn.nums_above {g : Lf → Prop} {S : List Int} {n : Int} {t : Tr} (h : Cn g (Cor.above n S) t) : ∀ m ∈ t.nums, n < m := fun m hm => by
  have z := h.mem m hm
  exact of_decide_eq_true (List.mem_filter.mp z).2
theorem Cn.nums_from {g : Lf → Prop} {S : List Int} {n : Int} : ∀ {t : Tr}, Asc S → Cn g S t → t.from n → ∀ m ∈ t.nums, n ≤ m
  | .lf _, _, _, _, m, hm => by cases hm
  | .nd k y o, hS, h, hf, m, hm => by
    obtain ⟨_, _, hy, ho⟩ := Cn.below hS h
    have hf : n ≤ k := hf
    rcases List.mem_cons.mp hm with e | e
    · omega
    · rcases List.mem_append.mp e with e | e
      · have := hy.nums_above m e; omega
      · have := ho.nums_above m e; omega
theorem caseTop_cn {g : Lf → Prop} {S : List Int} {n : Int} {b : Bool} : ∀ {t : Tr}, Asc S → Cn g S t → t.from n → Cn g (Cor.above n S) (caseTop n b t)
  | .lf v, _, h, _ => .lf h.lf_of
  | .nd m y o, hS, h, hf => by
    rw [caseTop_nd]
    by_cases e : m = n
    · rw [if_pos e]
      subst e
      obtain ⟨_, _, hy, ho⟩ := Cn.below hS h
      cases b
      · exact ho
      · exact hy
    · rw [if_neg e]
      have hf : n ≤ m := hf
      refine Cn.above hS h fun k hk => ?_
      have := Cn.nums_from hS h (show (Tr.nd m y o).from m from Int.le_refl m) k hk
      omega
theorem caseTop_ev {g : Lf → Prop} {S : List Int} {n : Int} {b : Bool} {r : Rho} : ∀ {t : Tr}, Asc S → Cn g S t → t.from n → (caseTop n b t).ev r = t.ev (r.put n b)
  | .lf v, _, _, _ => rfl
  | .nd m y o, hS, h, hf => by
    obtain ⟨_, _, hy, ho⟩ := Cn.below hS h
    have hf : n ≤ m := hf
    have oy : n ∉ y.nums := fun z => by have := hy.nums_above n z; omega
    have oo : n ∉ o.nums := fun z => by have := ho.nums_above n z; omega
    rw [caseTop_nd]
    by_cases e : m = n
    · rw [if_pos e]
      subst e
      show _ = (if (r.put m b) m = true then y.ev _ else o.ev _)
      rw [put_same, ev_out oy, ev_out oo]
      cases b <;> rfl
    · rw [if_neg e]
      show _ = (if (r.put n b) m = true then y.ev _ else o.ev _)
      rw [ev_out oy, ev_out oo, show (r.put n b) m = r m from if_neg e]
      rfl
/-- two forms by the least number at their tops, put together again -/
theorem byLeast {r : Rho} {n : Int} {x y : Lf} {f : Rho → Lf} (hx : f (r.put n true) = x) (hy : f (r.put n false) = y) : f r = if r n = true then x else y := by
  by_cases h : r n = true
  · rw [if_pos h, ← hx, ← h, put_self]
  · rw [if_neg h, ← hy, ← Bool.eq_false_iff.mpr h, put_self]
end Cor

set_option Elab.async false
set_option linter.all false
set_option maxRecDepth 100000
set_option maxHeartbeats 4000000
/-! set(l) of a list of ints, as a value. -/
namespace Cor
open PySem PySem.Spec PyProof.Rows L2
section
variable {P : Program} {w : World} {A : Around} {E : Value → Shared → Prop} {s : Shared}
/-- the new set, empty -/
abbrev emptyS (w : World) : Obj := { cls := .type "set", dict := none, data := .set #[] 0 (.fresh 0 0 (!w.params.followText "set-order")) }
theorem set_of_list {l : Addr} {items : Array Value} (ns : List Int) {Q : Value → Shared → Prop} (hh : A.handled = none) (hl : s.heap.IsList l items) (hit : IntsAre items.toList ns) (hb : ns.length + 1 < scanBound)
    (h : ∀ (h' : Heap) (tk c : Nat), SetR w h' s.heap.objs.size (fun j => decide (j ∈ ns)) c → c ≤ ns.length → (∀ b o, s.heap.get? b = some o → h'.get? b = some o) → Q (.ref s.heap.objs.size) { s with heap := h', toks := tk }) :
    wpAny (model P w) A (call (.type "set") [.ref l]) Q E s := by
  have size : items.size = ns.length := by rw [← Array.length_toList]; exact IntsAre.length hit
  obtain ⟨c, tl, hmro⟩ := F.called_set.mro
  have hmade := F.called_set.made
  have hsub := F.called_set.sub
  refine wpAny_call (codeAny_of_tree ?_)
  show wpAny _ _ (callAny (.type "set") _) _ _ _
  refine wpAny_pure ⟨Code.quiet_builtin _ (by decide +kernel), codeAny_builtin F.entry_type_call ?_⟩
  rw [Around.under_plain (weight_type_call_type "set" [.ref l] []) rfl]
  have h1 := F.called_set.notType
  have h2 := F.called_set.canCreate
  have hct := F.typeCall_set_1 (.ref l)
  repeat (any_goals (first | assumption | wp_step))
  refine codeAny_mono (code_set_led1 (.ref l) (E := E) (Q₁ := fun obj s1 => obj = .ref s.heap.objs.size ∧ s1 = { s with heap := s.heap.push (emptyS w) }) ⟨rfl, rfl⟩) fun r s1 hr => ?_
  match r, hr with
  | .error e, hr => exact hr
  | .ok .next, hr => exact hr.elim
  | .ok .brk, hr => exact hr.elim
  | .ok .cont, hr => exact hr.elim
  | .ok (.ret obj), hr =>
    obtain ⟨rfl, rfl⟩ := hr
    have hS : (s.heap.push (emptyS w)).get? s.heap.objs.size = some (emptyS w) := Heap.get?_push_size _ rfl
    have hT : Shared.TypeIs { s with heap := s.heap.push (emptyS w) } (.ref s.heap.objs.size) "set" := ⟨_, hS, rfl⟩
    have hli := F.called_set.init.lookup
    have hbi := F.called_set.init.bind (.ref s.heap.objs.size)
    repeat (any_goals (first | assumption | wp_step))
    refine codeAny_mono (codeAny_call_builtin (R := wants (fun r s2 => r = .none ∧ ∃ h' tk c, s2 = { s with heap := h', toks := tk } ∧ SetR w h' s.heap.objs.size (fun j => decide (j ∈ ns)) c ∧ c ≤ ns.length ∧
        (∀ b o, s.heap.get? b = some o → h'.get? b = some o)) E) F.called_set.init.plain F.entry_set_init (check_set_init_1 hT ?_)) fun r2 s2 hr2 => ?_
    · obtain ⟨ol, hol, hcl, nl, hdl⟩ := hl
      obtain ⟨ocls, odict, odata, oslots⟩ := ol
      simp only at hcl hdl
      subst hcl; subst hdl
      have hol2 : (s.heap.push (emptyS w)).get? l = some { cls := .type "list", dict := odict, data := .seq items nl, slots := oslots } := Heap.get?_push_of_some _ hol
      have hsls := F.sub_list_set
      have hslf := F.sub_list_frozenset
      have hne : (Value.type "list" == Value.type "dict") = false := by decide
      have hl1 : (s.heap.push (emptyS w)).IsList l items := ⟨_, hol2, rfl, nl, rfl⟩
      unfold Builtin.«set.__init__» noKeywords Builtin.Frozenset.updateFrom
      generalize hPI : pyIter = PI
      wp_walk
      subst hPI
      refine wpAny_pyIter_list hl1 ?_
      refine wpAny_bind (wpAny_runValue ?_)
      have lt : l < s.heap.objs.size := Heap.lt_size hol
      have hh3 : A.in1.in1.in1.handled = none := by simp [hh]
      have neI : l ≠ (s.heap.push (emptyS w)).objs.size := by rw [Heap.size_push]; exact Nat.ne_of_lt (Nat.lt_succ_of_lt lt)
      have notF : s.heap.objs.size ∉ [(s.heap.push (emptyS w)).objs.size, l] := by
        rw [Heap.size_push]
        simp only [List.mem_cons, List.not_mem_nil, or_false, not_or]
        exact ⟨Nat.ne_of_lt (Nat.lt_succ_self _), Nat.ne_of_gt lt⟩
      have vals : ∀ (i : Nat) (v : Value), items[i]? = some v → ∃ k t, ns[i]? = some k ∧ v = .int k t := fun i v hv => by
        have hi : i < ns.length := by rw [← size]; exact (Array.getElem?_eq_some_iff.mp hv).1
        obtain ⟨t, e⟩ := PyProof.Rows.IntsAre.int_at hit i v (by rw [Array.getElem?_toList]; exact hv)
        refine ⟨ns[i], t, List.getElem?_eq_getElem hi, ?_⟩
        rw [e, List.getD_eq_getElem?_getD, List.getElem?_eq_getElem hi] <;> rfl
      refine set_update_ints ((Walks.list hh3 _ l neI items).toS) s.heap.objs.size notF ns size hb vals (items.size - 0) 0 _ (by omega) (Nat.zero_le _)
        ⟨⟨_, Heap.get?_push_size _ rfl, rfl, rfl⟩, (hl1.push _)⟩ ⟨0, Nat.le_refl 0, setR_new_at (Heap.get?_push_of_some _ hS)⟩ fun s' c' hm hc' hS' => ?_
      obtain ⟨h', g2, d', tk', os'⟩ := s'
      obtain rfl : g2 = s.gens := hm.gens
      obtain rfl : d' = s.drawn := hm.drawn
      obtain rfl : os' = s.os := hm.os
      show wpAny _ _ _ _ _ _
      refine wpAny_pure ?_
      show wpAny _ _ (ret Value.none) _ _ _
      rw [size] at hc'
      refine wpAny_pure ⟨rfl, h', tk', c', rfl, hS', hc', fun b o e => ?_⟩
      have b0 : b < s.heap.objs.size := Heap.lt_size e
      refine hm.heap b o ?_ (Heap.get?_push_of_some _ (Heap.get?_push_of_some _ e))
      rw [Heap.size_push]
      simp only [List.mem_cons, List.not_mem_nil, or_false, not_or]
      exact ⟨Nat.ne_of_lt b0, Nat.ne_of_lt (Nat.lt_succ_of_lt b0)⟩
    · match r2, hr2 with
      | .error e, hr2 => exact hr2
      | .ok .next, hr2 => exact hr2.elim
      | .ok .brk, hr2 => exact hr2.elim
      | .ok .cont, hr2 => exact hr2.elim
      | .ok (.ret r), hr2 =>
        obtain ⟨rfl, h', tk, c', rfl, hS', hc', hk'⟩ := hr2
        repeat (any_goals (first | assumption | wp_step))
        exact h _ _ _ hS' hc' hk'
end
/-- set(l) -/
def rSetI (K : PySem.W.Frag) (w : World) : List V → Hp → VK → Prop := fun vs H Q => ∃ (l : Addr) (ns : List Int), vs = [.ref l] ∧ SqL K H l (ns.map V.int) ∧ ns.length ≤ 1000 ∧
  ∀ (p : Addr) (c : Nat), c ≤ ns.length → H p = none → Q (.ref p) (upd H p (SetO w p (fun j => decide (j ∈ ns)) c))
theorem cr_setI {X : Cx} (hc : X.calm = true) : CallR X (.type "set") (rSetI X.K X.w) := by
  intro pins s σ H vs us Q I r h
  obtain ⟨l, ns, rfl, hl, hn, q⟩ := h
  rw [Vals.ref1 r]
  obtain ⟨its, rv, pl, hz⟩ := I.list hl
  refine set_of_list ns (I.ok.hd hc) pl.isList (by simpa using rv.ints) (by unfold scanBound; omega) fun h' tk c R1 hcn k => ?_
  have hn2 : H s.heap.objs.size = none := I.hok.fresh (Nat.le_refl _)
  exact ⟨.ref s.heap.objs.size, _, I.laid (t' := tk) k (Nat.le_refl _) (setO_new R1), rfl, q _ c hcn hn2⟩
end Cor

set_option Elab.async false
set_option linter.all false
set_option maxRecDepth 100000
set_option maxHeartbeats 1000000
/-! min(l, default=d) of a list of ints. -/
namespace Cor
open PySem PySem.Spec PyProof.Rows L2
theorem foldl_min (n : Int) : ∀ ns : List Int, ns.foldl min n ∈ n :: ns ∧ ∀ a ∈ n :: ns, ns.foldl min n ≤ a
  | [] => ⟨List.mem_cons_self, fun a h => by rcases List.mem_cons.mp h with e | e; (· rw [e]; exact Int.le_refl _); (· cases e)⟩
  | m :: ns => by
    obtain ⟨h1, h2⟩ := foldl_min (min n m) ns
    refine ⟨?_, fun a h => ?_⟩
    · show (ns.foldl min (min n m)) ∈ _
      rcases List.mem_cons.mp h1 with e | e
      · rw [e]
        rcases Int.le_total n m with z | z
        · rw [Int.min_eq_left z]; exact List.mem_cons_self
        · rw [Int.min_eq_right z]; exact List.mem_cons_of_mem _ List.mem_cons_self
      · exact List.mem_cons_of_mem _ (List.mem_cons_of_mem _ e)
    · show (ns.foldl min (min n m)) ≤ a
      have hm := h2 _ List.mem_cons_self
      rcases List.mem_cons.mp h with e | e
      · omega
      · rcases List.mem_cons.mp e with e | e
        · omega
        · exact h2 a (List.mem_cons_of_mem _ e)
theorem ints_read {h : Heap} : ∀ {its : List Value} {ns : List Int}, IntsAre its ns → ReadsAll h its (ns.map .int) []
  | [], [], _ => .nil
  | v :: its, n :: ns, hi => by
    obtain ⟨⟨t, rfl⟩, hr⟩ : (∃ t, v = .int n t) ∧ IntsAre its ns := by
      cases hi with
      | cons n t r => exact ⟨⟨_, rfl⟩, r⟩
    exact ReadsAll.cons (.int n t) (ints_read hr)
  | [], _ :: _, hi => by cases hi
  | _ :: _, [], hi => by cases hi
theorem ints_alike (ns : List Int) : PySem.W.AlikeAll (ns.map .int) := by
  refine ⟨fun x hx y hy => ?_, fun x hx => ?_⟩
  · obtain ⟨i, _, rfl⟩ := List.mem_map.mp hx
    obtain ⟨j, _, rfl⟩ := List.mem_map.mp hy
    rfl
  · obtain ⟨i, _, rfl⟩ := List.mem_map.mp hx
    exact fun z => by cases z
theorem ints_depth : ∀ ns : List Int, PyData.depthAll (ns.map .int) ≤ 1
  | [] => by decide
  | n :: ns => by
    show max (PyData.depth (.int n)) (PyData.depthAll (ns.map .int)) ≤ 1
    have := ints_depth ns
    have : PyData.depth (.int n) ≤ 1 := by unfold PyData.depth; omega
    omega
def rMinD (K : PySem.W.Frag) : List V → List V → Hp → VK → Prop := fun vs zs H Q => ∃ (a : Addr) (ns : List Int) (d : Int), vs = [V.ref a] ∧ zs = [V.int d] ∧ SqL K H a (ns.map V.int) ∧
  (ns = [] → Q (.int d) H) ∧ ∀ m, m ∈ ns → (∀ y, y ∈ ns → m ≤ y) → Q (.int m) H
theorem cr_minD {X : Cx} (hc : X.calm = true) (hu : X.A.units + 64 < cLine) : CallRK X (.builtin "min") ["default"] (rMinD X.K) := by
  intro pins s σ H vs zs us ws Q I r rz h
  obtain ⟨a, ns, d, rfl, rfl, hs, q0, q⟩ := h
  obtain ⟨its, rv, hl, _⟩ := I.list hs
  rw [Vals.ref1 r]
  obtain ⟨t, rfl⟩ : ∃ t, ws = [Value.int d t] := by
    cases rz with
    | cons r z => cases z; obtain ⟨t, rfl⟩ := r; exact ⟨t, rfl⟩
  have dp := ints_depth ns
  refine PySem.W.min_list_default (I.ok.hd hc) hl.isList (xs := ns.map .int) (as := []) (ints_read (by simpa using rv.ints)) (ints_alike ns) (by omega) (fun e h' tk hk => ?_) fun y ys i v h' tk bs e hi rd hk => ?_
  · exact ⟨.int _, H, I.kept hk, ⟨_, rfl⟩, q0 (List.map_eq_nil_iff.mp e)⟩
  · cases ns with
    | nil => cases e
    | cons n ns =>
      obtain ⟨rfl, rfl⟩ := List.cons.inj e
      obtain ⟨h1, h2⟩ := foldl_min n ns
      rw [PySem.W.minD_ints] at rd
      cases rd
      exact ⟨.int _, H, I.kept hk, ⟨_, rfl⟩, q _ h1 h2⟩
end Cor

set_option Elab.async false
set_option linter.all false
set_option maxRecDepth 100000
set_option maxHeartbeats 1000000
/-! match e: case "a": .. -/
namespace Cor
open PySem PySem.Spec PyProof.Rows L2
structure PMs (X : Cx) (cs : List MatchCase) (t : Str → TS) : Prop where
  run : ∀ (first : Bool) (pins : List (Addr × Obj)) (s : Shared) (σ : L2.St) (H : Hp) (D : Ends) (x : Str) (u : Value), Inv X pins σ H s → RelV (.str x) u → t x D σ H → wpAny (model X.prog X.w) X.A (matchCases cs X.env u first) (SP X pins D) X.xe s
def tCaseNil : Str → TS := fun _ D σ H => D.nx σ H
def tCase (y : Str) (t : TS) (r : Str → TS) : Str → TS := fun x D σ H => ∃ c : Bool, decide (x = y) = c ∧ if c = true then t D σ H else r x D σ H
def tMatch (te : TE) (t : Str → TS) : TS := fun D σ H => te σ H fun v H1 => ∃ x, v = .str x ∧ t x D σ H1
section
variable {X : Cx}
theorem pms_nil : PMs X [] tCaseNil := ⟨fun _ pins s σ H D x u I _ h => wpAny_matchCases_nil ⟨σ, H, I, h⟩⟩
theorem pms_cons {y : Str} {k : Nat} {p0 p1 : Pos} {body : List Stmt} {rest : List MatchCase} {t : TS} {r : Str → TS} (hb : PSs X body t) (hr : PMs X rest r) :
    PMs X (⟨.MatchValue (.Constant (.str y) k p0) p1, none, body⟩ :: rest) (tCase y t r) := by
  refine ⟨fun first pins s σ H D x u I ru h => ?_⟩
  obtain ⟨c, hc, h⟩ := h
  refine wpAny_matchCases_cons (wpAny_matchPattern_Value ?_)
  refine thn ((pe_str (X := X) (x := y) (j := k) (pos := p0)).run pins s σ H (fun v H1 => v = .str y ∧ H1 = H) I ⟨rfl, rfl⟩) fun yv s1 z => ?_
  obtain ⟨v, H1, I1, rv, rfl, rfl⟩ := z
  refine thn (op_eq (X := X) pins s1 σ H1 (.str x) (.str y) u yv (fun v H2 => v = .bl c ∧ H2 = H1) I1 ru rv ⟨rfl, by
    rw [← hc]
    exact ⟨by rw [V.bl.injEq, Bool.eq_iff_iff]; simp, rfl⟩⟩) fun cv s2 z => ?_
  obtain ⟨v, H2, I2, rc, rfl, rfl⟩ := z
  cases rc
  refine wpAny_truthy_bool ?_
  cases c with
  | true =>
    exact wpAny_assignInOrder_none (hb.run pins s2 σ H2 D I2 h)
  | false => exact hr.run false pins s2 σ H2 D x u I2 ru h
theorem ps_match {e : Expr} {cs : List MatchCase} {pos : Pos} {te : TE} {t : Str → TS} (he : PE X e te) (hm : PMs X cs t) : PS X (.Match e cs pos) (tMatch te t) := by
  refine ⟨fun pins s σ H D I h => ?_⟩
  refine wpAny_Match (thn (he.run pins s σ H _ I h) fun u s1 z => ?_)
  obtain ⟨v, H1, I1, rv, x, rfl, q⟩ := z
  exact hm.run true pins s1 σ H1 D x u I1 rv q
end
end Cor

set_option Elab.async false
set_option linter.all false
set_option maxRecDepth 100000
set_option maxHeartbeats 1000000
/-! Trees on the heap. -/
namespace Cor
open PySem PySem.Spec PyProof.Rows L2
def Lf.v : Lf → V
  | .i n => .int n
  | .b v => .bl v
/-- the tree t stands at v -/
inductive Tv (H : Hp) : V → Tr → Prop
  | lf (v : Lf) : Tv H v.v (.lf v)
  | nd {a : Addr} {n : Int} {y o : V} {ty to : Tr} : H a = some (.tup [.int n, y, o]) → Tv H y ty → Tv H o to → Tv H (.ref a) (.nd n ty to)
theorem Tv.lf_of {H : Hp} {v : V} {l : Lf} (h : Tv H v (.lf l)) : v = l.v := by cases h; rfl
theorem Tv.nd_of {H : Hp} {v : V} {n : Int} {ty to : Tr} (h : Tv H v (.nd n ty to)) : ∃ a y o, v = .ref a ∧ H a = some (.tup [.int n, y, o]) ∧ Tv H y ty ∧ Tv H o to := by
  cases h with
  | nd h1 h2 h3 => exact ⟨_, _, _, rfl, h1, h2, h3⟩
/-- all that stood stands, but lists -/
def Kp (H H' : Hp) : Prop := ∀ b o, (∀ xs, o ≠ .lst xs) → H b = some o → H' b = some o
theorem Kp.refl {H : Hp} : Kp H H := fun _ _ _ e => e
theorem Kp.trans {H H1 H2 : Hp} (a : Kp H H1) (b : Kp H1 H2) : Kp H H2 := fun c o n e => b c o n (a c o n e)
theorem _root_.L2.Same.kp {H H' : Hp} (s : Same H H') : Kp H H' := fun b o _ e => s b o e
theorem SameBut.kp {H H' : Hp} {p : Addr} {xs : List V} (s : SameBut p H H') (hp : H p = some (.lst xs)) : Kp H H' := fun b o n e => s b o (fun z => by
  rw [z, hp] at e
  exact n xs (Option.some.inj e).symm) e
theorem Tv.kp {H H' : Hp} (k : Kp H H') : ∀ {t : Tr} {v : V}, Tv H v t → Tv H' v t
  | .lf _, _, h => by rw [h.lf_of]; exact .lf _
  | .nd n ty to, _, h => by
    obtain ⟨a, y, o, rfl, h1, h2, h3⟩ := h.nd_of
    exact .nd (k _ _ (fun _ z => by cases z) h1) (Tv.kp k h2) (Tv.kp k h3)
theorem Tv.same {H H' : Hp} (s : Same H H') {t : Tr} {v : V} (h : Tv H v t) : Tv H' v t := h.kp s.kp
def Lf.d : Lf → PyData
  | .i n => .int n
  | .b v => .bool v
def Tr.d : Tr → PyData
  | .lf v => v.d
  | .nd n y o => .tuple [.int n, y.d, o.d]
theorem Tv.dp {K : PySem.W.Frag} {H : Hp} : ∀ {t : Tr} {v : V}, Tv H v t → Dp K H v t.d
  | .lf (.i n), _, h => by rw [h.lf_of]; exact .int n
  | .lf (.b n), _, h => by rw [h.lf_of]; exact .bl n
  | .nd n ty to, _, h => by
    obtain ⟨a, y, o, rfl, h1, h2, h3⟩ := h.nd_of
    exact .tup (SqT.of h1) (.cons (.int n) (.cons (Tv.dp h2) (.cons (Tv.dp h3) .nil)))
theorem Tr.d_depth : ∀ t : Tr, t.d.depth = t.dep
  | .lf (.i _) => rfl
  | .lf (.b _) => rfl
  | .nd n y o => by
    show max 0 (max y.d.depth (max o.d.depth 0)) + 1 = max y.dep o.dep + 1
    rw [Tr.d_depth y, Tr.d_depth o]
    omega
theorem Tr.d_lay : ∀ t : Tr, t.d.canLay0 = true
  | .lf (.i _) => rfl
  | .lf (.b _) => rfl
  | .nd n y o => by
    show (PyData.canLay0 (.int n) && (y.d.canLay0 && (o.d.canLay0 && true))) = true
    rw [Tr.d_lay y, Tr.d_lay o]
    rfl
theorem Tr.shaped {t : Tr} (h : t.dep ≤ 64) : SeqAt.shaped t.d = true := by
  unfold SeqAt.shaped
  rw [t.d_lay, t.d_depth, decide_eq_true h]
  rfl
/-- its plain values are of the kind k (true: truths), below 2 ^ B -/
def Lg (k : Bool) (B : Nat) : Lf → Prop
  | .i n => k = false ∧ n.natAbs < 2 ^ B
  | .b _ => k = true
def Lk (k : Bool) : Lf → Prop
  | .i n => k = false
  | .b _ => k = true
theorem Lg.k {k : Bool} {B : Nat} : ∀ v, Lg k B v → Lk k v
  | .i _, h => h.1
  | .b _, h => h
theorem Lg.le {k : Bool} {B B' : Nat} (hb : B ≤ B') : ∀ v, Lg k B v → Lg k B' v
  | .i _, h => ⟨h.1, Nat.lt_of_lt_of_le h.2 (Nat.pow_le_pow_right (by decide) hb)⟩
  | .b _, h => h
def Tr.hom (k : Bool) : Tr → Prop
  | .lf v => Lk k v
  | .nd _ y o => y.hom k ∧ o.hom k
theorem Cn.hom {g : Lf → Prop} {k : Bool} (hg : ∀ v, g v → Lk k v) : ∀ {S : List Int} {t : Tr}, Cn g S t → t.hom k
  | _, .lf v, h => hg v h.lf_of
  | [], .nd _ _ _, h => h.elim
  | s :: S, .nd n y o, h => by
    rcases h with ⟨_, _, h3, h4⟩ | h
    · exact ⟨Cn.hom hg h3, Cn.hom hg h4⟩
    · exact Cn.hom hg h
theorem eqv_tr {k : Bool} : ∀ {t t' : Tr}, t.hom k → t'.hom k → PyData.eqv t.d t'.d = decide (t = t')
  | .lf (.i n), .lf (.i m), _, _ => by
    show (n == m) = _
    rw [Bool.eq_iff_iff]
    simp
  | .lf (.b n), .lf (.b m), _, _ => by
    show (n == m) = _
    rw [Bool.eq_iff_iff]
    simp
  | .lf (.i n), .lf (.b m), h, h' => by
    have a : k = false := h
    have b : k = true := h'
    rw [a] at b
    cases b
  | .lf (.b n), .lf (.i m), h, h' => by
    have a : k = true := h
    have b : k = false := h'
    rw [a] at b
    cases b
  | .lf (.i n), .nd _ _ _, _, _ => (decide_eq_false fun z => by cases z).symm
  | .lf (.b n), .nd _ _ _, _, _ => (decide_eq_false fun z => by cases z).symm
  | .nd _ _ _, .lf (.i n), _, _ => (decide_eq_false fun z => by cases z).symm
  | .nd _ _ _, .lf (.b n), _, _ => (decide_eq_false fun z => by cases z).symm
  | .nd n y o, .nd m y' o', h, h' => by
    show ((n == m) && (PyData.eqv y.d y'.d && (PyData.eqv o.d o'.d && true))) = _
    rw [eqv_tr h.1 h'.1, eqv_tr h.2 h'.2, Bool.eq_iff_iff]
    simp
end Cor

set_option Elab.async false
set_option linter.all false
set_option maxRecDepth 100000
set_option maxHeartbeats 1000000
/-! def f(*xs), called with plain arguments. -/
namespace Cor
open PySem PySem.Spec PyProof.Rows L2
section
variable {P : Program} {w : World} {K : PySem.W.Frag} {mg : Str → Option Value} {base : Heap}
/-- def f(*pv): the promise speaks of the values; h: both lines by rfl -/
theorem _root_.L2.Fun.star {x qual : Str} {st : Stmt} {f : Addr} {fd : FuncData} {N : List Str} {pv : Str} {k : Nat} {sp : Sp} (F : Fun K x qual st f fd) (S : FnScope N ([] ++ [pv]) (defScope st))
    (h0 : ∀ (kV doc pm : Value) (an : Option Addr) (cdv ct : Value), bindArgs (PySem.W.fnOf x qual (defArgs st) (defBody st) (defScope st) .none kV doc pm an cdv ct) ⟨[], []⟩ = (newTuple [] >>= fun t => pure [(pv, t)]))
    (h1 : ∀ (kV doc pm : Value) (an : Option Addr) (cdv ct : Value) (r : Value) (rs : List Value), bindArgs (PySem.W.fnOf x qual (defArgs st) (defBody st) (defScope st) .none kV doc pm an cdv ct) ⟨r :: rs, []⟩ = (newTuple (r :: rs) >>= fun t => pure [(pv, t)]))
    (hbody : ∀ (cdv : Value) (A : Around) (outer : List Env) (s : Shared) (H : Hp) (vs : List V) (Q : VK) (E : XK), Room k (A.deeper (envOfC qual (defScope st) s.heap.objs.size f cdv)) → sp vs H Q E →
      ∃ t, PSs (cxOf CX0 P w K mg base N qual (defScope st) f cdv A outer s H E).nox (defBody st) t ∧ t { nx := fun _ H' => Q .non H', rt := Q } (start N vs) H) :
    FnR P w K mg base CX0 (k + 1) f (fun vs H Q E => ∃ ws rest, vs = ws ++ rest ∧ ws.length = ([] : List Str).length ∧ rest.length ≤ sizeLine ∧ ∀ p, H p = Option.none → sp (ws ++ [V.ref p]) (upd H p (.tup rest)) Q E) := by
  obtain ⟨oc, od, kV, doc, pm, an, cdv, ct, osl, rfl, lk, hcd⟩ := F.ex
  refine StX.fn_star (ps := []) lk hcd S StX.cxUp_none (fun us rest hl => ?_) fun A outer s H vs Q E hr hsp => ?_
  · match us, rest, hl with
    | [], [], _ => exact h0 kV doc pm an cdv ct
    | [], r :: rs, _ => exact h1 kV doc pm an cdv ct r rs
  · obtain ⟨t, h, q⟩ := hbody cdv A outer s H vs Q E hr hsp
    exact ⟨t, h.nox, q⟩
end
def DfR (P : Program) (w : World) (K : PySem.W.Frag) (mg : Str → Option Value) (base : Heap) (x : Str) (k : Nat) (sp : Sp) : Prop :=
  ∃ f, FnR P w K mg base CX0 k f sp ∧ mg x = some (.ref f) ∧ PySem.W.keepIn K (.ref f) = true
def tCallR (sp : Sp) (t : TA) : TE := fun σ H Q => t σ H fun vs H1 => sp vs H1 Q E0
theorem pe_dfR {X : Cx} {k : Nat} {sp : Sp} {x : Str} {p pos : Pos} {e : Expr} {es : List Expr} {t : TA} (D : DfR X.prog X.w X.K X.mg X.base x k sp) (hr : Room k X.A) (hg : Gl X x) (ha : PA X (e :: es) t)
    (hdb : (x == ("__debug__" : Str)) = false := by decide) (he : starEach (e :: es) X.env = (false, eval e X.env) :: starEach es X.env := by rfl) (hpl : (backTo pos (starEach es X.env)).any (·.1) = false := by rfl) :
    PE X (.Call (.Name x p) (e :: es) [] pos) (tCallR sp t) := by
  obtain ⟨f, F, m, kp⟩ := D
  refine ⟨fun pins s σ H Q I h => ?_⟩
  refine wpAny_Call_Name_kw (ld_glob I hg m ?_ hdb)
  refine PySem.W.callWith_K (h₀ := X.base) I.ok.mod.kin kp (thn (ha.run pos pins s σ H _ I h) fun us s1 ⟨vs, H1, I1, r, q⟩ => ⟨I1.kIn, ?_⟩) he hpl
  exact wpAny_call (run_fnR F hr pass0 I1 r q)
end Cor

set_option linter.all false
namespace Cor
theorem cons_above {n : Int} : ∀ {S : List Int}, Asc S → n ∈ S → (n :: above n S).Sublist S
  | [], _, h => by cases h
  | s :: S, hS, h => by
    obtain ⟨hs, hS'⟩ := List.pairwise_cons.mp hS
    rcases List.mem_cons.mp h with e | e
    · subst e
      rcases above_cons hS (Int.le_refl n) with ⟨_, z⟩ | ⟨z, _⟩
      · rw [z]; exact List.Sublist.refl _
      · omega
    · have hlt := hs n e
      have z : above n (s :: S) = above n S := by
        unfold above
        rw [List.filter_cons, if_neg (by simp; omega)]
      rw [z]
      exact (cons_above hS' e).cons s
theorem above_len {n : Int} {S : List Int} (hS : Asc S) (h : n ∈ S) : (above n S).length < S.length := by
  have := (cons_above hS h).length_le
  simp only [List.length_cons] at this
  omega
theorem mem_above {n m : Int} {S : List Int} : m ∈ above n S ↔ m ∈ S ∧ n < m := by
  unfold above
  rw [List.mem_filter]
  simp
theorem mkNd_cn' {g : Lf → Prop} {n : Int} {S : List Int} {y o : Tr} (hS : Asc S) (h : n ∈ S) (hy : Cn g (above n S) y) (ho : Cn g (above n S) o) : Cn g S (mkNd n y o) := (mkNd_cn hy ho).sub (cons_above hS h)
theorem put_true {r : Rho} {n : Int} {b : Bool} (h : r n = b) : r.put n b = r := by rw [← h]; exact put_self
/-- the operations -/
inductive Op where
  | add | sub | mul | lt | le | and | or | eq
def Op.kin : Op → Bool
  | .and | .or => true
  | _ => false
def Op.kout : Op → Bool
  | .add | .sub | .mul => false
  | _ => true
def Op.ap : Op → Lf → Lf → Lf
  | .add, .i a, .i b => .i (a + b)
  | .sub, .i a, .i b => .i (a - b)
  | .mul, .i a, .i b => .i (a * b)
  | .lt, .i a, .i b => .b (decide (a < b))
  | .le, .i a, .i b => .b (decide (a ≤ b))
  | .and, .b a, .b b => .b (a && b)
  | .or, .b a, .b b => .b (a || b)
  | .eq, .i a, .i b => .b (decide (a = b))
  | _, a, _ => a
def Op.sign : Op → PySem.Str
  | .add => "+" | .sub => "-" | .mul => "*" | .lt => "<" | .le => "<=" | .and => "and" | .or => "or" | .eq => "=="
theorem pow_add_le {B B' : Nat} : 2 ^ B + 2 ^ B' ≤ 2 ^ (B + B' + 1) := by
  have h1 : 2 ^ B ≤ 2 ^ (B + B') := Nat.pow_le_pow_right (by decide) (by omega)
  have h2 : 2 ^ B' ≤ 2 ^ (B + B') := Nat.pow_le_pow_right (by decide) (by omega)
  rw [Nat.pow_succ]
  omega
theorem Lg.int {B : Nat} : ∀ {a : Lf}, Lg false B a → ∃ n, a = .i n ∧ n.natAbs < 2 ^ B
  | .i n, h => ⟨n, rfl, h.2⟩
  | .b _, h => by cases h
theorem Lg.truth {B : Nat} : ∀ {a : Lf}, Lg true B a → ∃ v, a = .b v
  | .b v, _ => ⟨v, rfl⟩
  | .i _, h => by cases h.1
theorem Op.bound {o : Op} {a b : Lf} {B B' : Nat} (ha : Lg o.kin B a) (hb : Lg o.kin B' b) : Lg o.kout (B + B' + 1) (o.ap a b) := by
  have p1 := @pow_add_le B B'
  cases o with
  | add =>
    obtain ⟨x, rfl, h1⟩ := Lg.int ha
    obtain ⟨y, rfl, h2⟩ := Lg.int hb
    refine ⟨rfl, ?_⟩
    show (x + y).natAbs < _
    omega
  | sub =>
    obtain ⟨x, rfl, h1⟩ := Lg.int ha
    obtain ⟨y, rfl, h2⟩ := Lg.int hb
    refine ⟨rfl, ?_⟩
    show (x - y).natAbs < _
    omega
  | mul =>
    obtain ⟨x, rfl, h1⟩ := Lg.int ha
    obtain ⟨y, rfl, h2⟩ := Lg.int hb
    refine ⟨rfl, ?_⟩
    show (x * y).natAbs < _
    rw [Int.natAbs_mul]
    have h3 : x.natAbs * y.natAbs ≤ 2 ^ B * 2 ^ B' := Nat.mul_le_mul (Nat.le_of_lt h1) (Nat.le_of_lt h2)
    rw [← Nat.pow_add] at h3
    exact Nat.lt_of_le_of_lt h3 (Nat.pow_lt_pow_right (by decide) (by omega))
  | lt =>
    obtain ⟨x, rfl, h1⟩ := Lg.int ha
    obtain ⟨y, rfl, h2⟩ := Lg.int hb
    rfl
  | le =>
    obtain ⟨x, rfl, h1⟩ := Lg.int ha
    obtain ⟨y, rfl, h2⟩ := Lg.int hb
    rfl
  | eq =>
    obtain ⟨x, rfl, h1⟩ := Lg.int ha
    obtain ⟨y, rfl, h2⟩ := Lg.int hb
    rfl
  | and =>
    obtain ⟨x, rfl⟩ := Lg.truth ha
    obtain ⟨y, rfl⟩ := Lg.truth hb
    rfl
  | or =>
    obtain ⟨x, rfl⟩ := Lg.truth ha
    obtain ⟨y, rfl⟩ := Lg.truth hb
    rfl
end Cor

set_option Elab.async false
set_option linter.all false
set_option maxRecDepth 100000
set_option maxHeartbeats 1000000
/-! Own operators, == and !=, str(..) and static methods of a class of the text. -/
namespace Cor
open PySem PySem.Spec PyProof.Rows L2
/-- a def by its address, that keeps sp at level k -/
def MdR (P : Program) (w : World) (K : PySem.W.Frag) (mg : Str → Option Value) (base : Heap) (k : Nat) (g : Addr) (sp : Sp) : Prop := FnR P w K mg base CX0 k g sp ∧ PySem.W.isFn K (.ref g) = true ∧ PySem.W.keepIn K (.ref g) = true
section
variable {X : Cx} {pins : List (Addr × Obj)} {σ : L2.St} {H : Hp} {s : Shared} {a C dx g : Addr} {fs : List (Str × V)} {k : Nat} {sp : Sp}
theorem ins_at (I : Inv X pins σ H s) (h : H a = some (.ins C dx fs)) : ∃ ox od, PySem.W.InstAt s.heap a ox C od := by
  obtain ⟨mA, O, _⟩ := ins_get I.hok h
  obtain ⟨od, J, _⟩ := O.look
  exact ⟨_, _, J⟩
/-- x op y, two instances of the class at C -/
def rOw2 (C : Addr) (sp : Sp) : R2 := fun x y H Q => ∃ a dx fs b dy gs, x = .ref a ∧ y = .ref b ∧ H a = some (.ins C dx fs) ∧ H b = some (.ins C dy gs) ∧ sp [x, y] H Q E0
theorem op_ow2 {op : Operator} (sf : PySem.W.selfFirst X.K C = true) (hs : PySem.W.findIn X.K (.ref C) (PySem.dunder op.info.2) = some (some (.ref g))) (M : MdR X.prog X.w X.K X.mg X.base k g sp) (hr : Room k X.A) : OpR X (binaryOp op) (rOw2 C sp) := by
  intro pins s σ H x y v u Q I rx ry h
  obtain ⟨a, dx, fs, b, dy, gs, rfl, rfl, ha, hb, q⟩ := h
  cases (show v = Value.ref a from rx)
  cases (show u = Value.ref b from ry)
  obtain ⟨ox, od, J⟩ := ins_at I ha
  obtain ⟨ox', od', J'⟩ := ins_at I hb
  obtain ⟨m, hF⟩ := I.fr
  refine PySem.W.binop_K hF I.ok.mod.kin J J'.type sf hs M.2.1 ?_
  refine wpAny_mono (wpAny_call (run_fnR (us := [.ref a, .ref b]) (vs := [.ref a, .ref b]) M.1 hr pass0 I (.cons rfl (.cons rfl .nil)) q)) (fun w s' z => ?_) fun _ _ x => x
  obtain ⟨z', H', I', rz, qz⟩ := z
  exact SlX.cmpback rz ⟨z', H', I', rz, qz⟩
/-- x op n, an instance and an int (or a truth): T the type's name -/
def rOwT (C : Addr) (T : String) (sp : Sp) : R2 := fun x y H Q => ∃ a dx fs, x = .ref a ∧ H a = some (.ins C dx fs) ∧ ((T = "int" ∧ ∃ n, y = .int n) ∨ (T = "bool" ∧ ∃ n, y = .bl n)) ∧ sp [x, y] H Q E0
theorem op_owT {op : Operator} {T : String} {fo ro rc : Option Value} (sf : PySem.W.selfFirst X.K C = true) (hs : PySem.W.findIn X.K (.ref C) (PySem.dunder op.info.2) = some (some (.ref g)))
    (hrc : PySem.W.findIn X.K (.ref C) (PySem.dunderR op.info.2) = some rc) (hp : rc = none ∨ ∃ g : Addr, rc = some (.ref g)) (h1 : PySem.W.findIn X.K (.type T) (PySem.dunder op.info.2) = some fo) (h2 : PySem.W.findIn X.K (.type T) (PySem.dunderR op.info.2) = some ro)
    (hsub : PySem.W.subIn X.K (.type T) (.ref C) = some false) (M : MdR X.prog X.w X.K X.mg X.base k g sp) (hr : Room k X.A) : OpR X (binaryOp op) (rOwT C T sp) := by
  intro pins s σ H x y v u Q I rx ry h
  obtain ⟨a, dx, fs, rfl, ha, hy, q⟩ := h
  cases (show v = Value.ref a from rx)
  obtain ⟨ox, od, J⟩ := ins_at I ha
  obtain ⟨m, hF⟩ := I.fr
  have ty : typeOf u = pure (.type T) := by
    rcases hy with ⟨rfl, n, rfl⟩ | ⟨rfl, n, rfl⟩
    · obtain ⟨t, rfl⟩ := (show ∃ t, u = Value.int n t from ry); rfl
    · cases (show u = Value.bool n from ry); rfl
  refine PySem.W.ksp_binT hF I.ok.mod.kin J ty sf hs M.2.1 hrc hp h1 h2 hsub ?_
  refine wpAny_mono (wpAny_call (run_fnR (us := [.ref a, u]) (vs := [.ref a, y]) M.1 hr pass0 I (.cons rfl (.cons ry .nil)) q)) (fun w s' z => ?_) fun _ _ x => x
  obtain ⟨z', H', I', rz, qz⟩ := z
  exact SlX.cmpback rz ⟨z', H', I', rz, qz⟩
/-- -x, ~x -/
def rOw1 (C : Addr) (sp : Sp) : V → Hp → VK → Prop := fun x H Q => ∃ a dx fs, x = .ref a ∧ H a = some (.ins C dx fs) ∧ sp [x] H Q E0
theorem un_owN (hs : PySem.W.findIn X.K (.ref C) "__neg__" = some (some (.ref g))) (M : MdR X.prog X.w X.K X.mg X.base k g sp) (hr : Room k X.A) : UnR X (unaryOp .USub) (rOw1 C sp) := by
  intro pins s σ H x v Q I rx h
  obtain ⟨a, dx, fs, rfl, ha, q⟩ := h
  cases (show v = Value.ref a from rx)
  obtain ⟨ox, od, J⟩ := ins_at I ha
  obtain ⟨m, hF⟩ := I.fr
  exact PySem.W.ksp_neg hF I.ok.mod.kin J hs M.2.1 (wpAny_call (run_fnR (us := [.ref a]) (vs := [.ref a]) M.1 hr pass0 I (.cons rfl .nil) q))
theorem un_owI (hs : PySem.W.findIn X.K (.ref C) "__invert__" = some (some (.ref g))) (M : MdR X.prog X.w X.K X.mg X.base k g sp) (hr : Room k X.A) : UnR X (unaryOp .Invert) (rOw1 C sp) := by
  intro pins s σ H x v Q I rx h
  obtain ⟨a, dx, fs, rfl, ha, q⟩ := h
  cases (show v = Value.ref a from rx)
  obtain ⟨ox, od, J⟩ := ins_at I ha
  obtain ⟨m, hF⟩ := I.fr
  exact PySem.W.ksp_inv hF I.ok.mod.kin J hs M.2.1 (wpAny_call (run_fnR (us := [.ref a]) (vs := [.ref a]) M.1 hr pass0 I (.cons rfl .nil) q))
/-- x == y -/
theorem op_owEq (hs : PySem.W.findIn X.K (.ref C) "__eq__" = some (some (.ref g))) (M : MdR X.prog X.w X.K X.mg X.base k g sp) (hr : Room k X.A) : OpR X (compareOp .Eq) (rOw2 C sp) := by
  intro pins s σ H x y v u Q I rx ry h
  obtain ⟨a, dx, fs, b, dy, gs, rfl, rfl, ha, hb, q⟩ := h
  cases (show v = Value.ref a from rx)
  cases (show u = Value.ref b from ry)
  obtain ⟨ox, od, J⟩ := ins_at I ha
  obtain ⟨ox', od', J'⟩ := ins_at I hb
  obtain ⟨m, hF⟩ := I.fr
  refine PySem.W.cmp_K (op := .Eq) (tb := .ref C) hr.units0 hF I.ok.mod.kin J J'.type (by simp [PySem.W.notFirst]) hs M.2.1 ?_
  refine wpAny_mono (wpAny_call (run_fnR (us := [.ref a, .ref b]) (vs := [.ref a, .ref b]) M.1 hr pass0 I (.cons rfl (.cons rfl .nil)) q)) (fun w s' z => ?_) fun _ _ x => x
  obtain ⟨z', H', I', rz, qz⟩ := z
  exact SlX.cmpback rz ⟨z', H', I', rz, qz⟩
end
section
variable {prog : Program} {w : World} {A : Around} {E : Value → Shared → Prop} {s : Shared} {K : PySem.W.Frag} {x y C f : Addr} {ox : Obj} {od : Option Obj}
theorem ifBound_B {M : Model} {name : Str} {id B : String} {args : List Value} {Q : Option Value → Shared → Prop} (S : PySem.Slot B name id) (X : K.In s.heap) (I : PySem.W.InstAt s.heap x ox C od) (hf : PySem.W.findIn K (.ref C) name = some (some (.builtin id)))
    (h : wpAny M A (call (.builtin id) (.ref x :: args)) (fun v => Q (some v)) E s) : wpAny M A (callSpecialIfBound? (.ref x) name args) Q E s := by
  simp only [callSpecialIfBound?, bindSpecialIfBound?]
  unfold specialOf
  refine wpAny_holding (wpAny_bind (wpAny_bind (wpAny_bind (I.type.here ((PySem.W.looks_findIn X hf).here ?_)))))
  simp only [S.bind]
  refine wpAny_bind (wpAny_askSetting (wpAny_ite ?_))
  have fin : wpAny M A (call (.builtin id) ([.ref x] ++ args) >>= fun v => pure (some v)) Q E s := wpAny_bind (wpAny_mono h (fun v s' h' => wpAny_pure h') fun _ _ h' => h')
  split
  · exact wpAny_bind (wpAny_pure (wpAny_pure (by exact fin)))
  · exact wpAny_tryCatch (wpAny_bind (wpAny_pure (wpAny_pure (by exact fin))))
theorem ne_K {Q : Value → Shared → Prop} (X : K.In s.heap) (I : PySem.W.InstAt s.heap x ox C od) (hb : PySem.W.Looks (model prog w) s.heap (typeOf (.ref y)) (.ref C)) (hn : PySem.W.findIn K (.ref C) "__ne__" = some (some (.builtin "object.__ne__")))
    (ho : PySem.W.subIn K (.ref C) (.type "object") = some true) (hs : PySem.W.findIn K (.ref C) "__eq__" = some (some (.ref f))) (hf : PySem.W.isFn K (.ref f) = true) (hu : A.units + 1 < cLine)
    (h : wpAny (model prog w) A.in1 (call (.ref f) [.ref x, .ref y]) (fun v s' => ∃ b, v = .bool b ∧ Q (.bool (!b)) s') E s) : wpAny (model prog w) A (richCompare .NotEq (.ref x) (.ref y)) Q E s := by
  unfold richCompare
  simp only [oneThing_ref]
  refine wpAny_holding (wpAny_bind (wpAny_cRoomFor (Nat.lt_of_succ_lt hu) ?_))
  refine wpAny_bind (I.type.here (wpAny_bind (hb.here ?_)))
  rw [show (Value.ref C != Value.ref C) = false from by simp]
  simp only [Bool.false_eq_true, if_false]
  refine wpAny_bind (wpAny_pure ?_)
  simp only [Bool.false_eq_true, if_false]
  rw [cmpInfo_NotEq]
  dsimp only
  refine wpAny_bind (m := tryCompare (.ref x) "__ne__" (.ref y)) ?_
  unfold tryCompare
  refine wpAny_bind (ifBound_B F.cmp_object.ne X I hn ?_)
  have hi : PySem.W.Looks (model prog w) s.heap (isInstance (.ref x) (.type "object")) true := I.type.andThen (PySem.W.looks_subIn X ho)
  refine wpAny_call (codeAny_call_builtin F.cmp_object.ne.plain F.cmpEntry_ne (PySem.W.check_slot F.cmpKind_ne F.cmpSplit_ne hi (F.cmpArgs_ne _ _) ?_))
  obtain ⟨hh, g, d, t, os⟩ := s
  unfold Builtin.«object.__ne__»
  refine wpAny_bind (m := slotArgs "__ne__" 1 _) (wpAny_pure ?_)
  refine wpAny_bind (wpAny_cRoomFor hu ?_)
  refine wpAny_bind (m := callSpecialIfBound? (.ref x) (Str.ofString "__eq__") [.ref y]) (PySem.W.ifBound_K X I hs hf (wpAny_mono h (fun r s' hr => ?_) fun _ _ e => e))
  obtain ⟨b, rfl, hq⟩ := hr
  refine wpAny_bind (m := truthy (.bool _)) (wpAny_truthy_bool ?_)
  exact wpAny_pure (wpAny_pure (wpAny_pure hq))
end
/-- x != y, by the class's == -/
def rOwNe (C : Addr) (sp : Sp) : R2 := fun x y H Q => ∃ a dx fs b dy gs, x = .ref a ∧ y = .ref b ∧ H a = some (.ins C dx fs) ∧ H b = some (.ins C dy gs) ∧ sp [x, y] H (fun z H' => ∃ c, z = .bl c ∧ Q (.bl (!c)) H') E0
section
variable {X : Cx} {C g : Addr} {k : Nat} {sp : Sp}
theorem op_owNe (hs : PySem.W.findIn X.K (.ref C) "__eq__" = some (some (.ref g))) (hn : PySem.W.findIn X.K (.ref C) "__ne__" = some (some (.builtin "object.__ne__"))) (ho : PySem.W.subIn X.K (.ref C) (.type "object") = some true)
    (M : MdR X.prog X.w X.K X.mg X.base k g sp) (hr : Room (k + 1) X.A) : OpR X (compareOp .NotEq) (rOwNe C sp) := by
  intro pins s σ H x y v u Q I rx ry h
  obtain ⟨a, dx, fs, b, dy, gs, rfl, rfl, ha, hb, q⟩ := h
  cases (show v = Value.ref a from rx)
  cases (show u = Value.ref b from ry)
  obtain ⟨ox, od, J⟩ := ins_at I ha
  obtain ⟨ox', od', J'⟩ := ins_at I hb
  show wpAny _ _ (richCompare .NotEq (.ref a) (.ref b)) _ _ _
  refine ne_K I.kIn J J'.type hn ho hs M.2.1 (hu_of hr) ?_
  refine wpAny_mono (wpAny_call (SlX.run_at (us := [.ref a, .ref b]) (ws := [.ref a, .ref b]) M.1 hr.in1 I.env0.in1 pass0 I (.cons rfl (.cons rfl .nil)) q)) (fun w s' z => ?_) fun _ _ x => x
  obtain ⟨z', H', I', rz, c, rfl, qz⟩ := z
  cases rz
  exact ⟨c, rfl, .bl (!c), H', I', rfl, qz⟩
end
end Cor

set_option Elab.async false
set_option linter.all false
set_option maxRecDepth 100000
set_option maxHeartbeats 1000000
namespace Cor
open PySem PySem.Spec PyProof.Rows L2
/-- the class at S, named x, has the static method m, the def at f -/
structure Stm (K : PySem.W.Frag) (mg : Str → Option Value) (x : Str) (S : Addr) (m : Str) (f : Addr) : Prop where
  nm : mg x = some (.ref S)
  rd : ∃ mc, ClX.CRead K S mc ∧ ∃ p rest, PySem.W.findCls K (.ref S) mc m = some (.get (.builtin "staticmethod.__get__") (.ref p) .none (.ref S)) ∧ PySem.W.recIn K p "staticmethod" = some (.ref f :: rest)
section
variable {X : Cx} {e : Expr} {es : List Expr} {ta : TA} {m x : Str} {p1 p2 pos : Pos} {S f : Addr} {k : Nat} {sp : Sp}
/-- S.m(e, ..), m a static method -/
theorem pe_sm {pl : Sem Bool} (T : Stm X.K X.mg x S m f) (M : MdR X.prog X.w X.K X.mg X.base k f sp) (hr : Room k X.A) (hg : Gl X x) (ha : PA X (e :: es) ta) (hdb : (x == ("__debug__" : Str)) = false := by decide)
    (hc : eval (.Call (.Attribute (.Name x p1) m p2) (e :: es) [] pos) X.env = (do
      let ov ← eval (.Name x p1) X.env
      standAt p2.atName
      let (f, first) ← holding [ov] (getMethod ov m pl)
      callWith pos f first (backTo pos (starEach (e :: es) X.env)) (backToKw pos (keywordEach [] X.env))) := by rfl)
    (he : starEach (e :: es) X.env = (false, eval e X.env) :: starEach es X.env := by rfl) (hpl : (backTo pos (starEach es X.env)).any (·.1) = false := by rfl) :
    PE X (.Call (.Attribute (.Name x p1) m p2) (e :: es) [] pos) (fun σ H Q => ta σ H fun vs H1 => sp vs H1 Q E0) := by
  refine ⟨fun pins s σ H Q I h => ?_⟩
  obtain ⟨mc, rd, p, rest, fc, rc⟩ := T.rd
  refine PySem.W.methodCall_KW (ld_glob I hg T.nm ?_ hdb) hc
  refine PySem.W.method_cls I.kIn rd.ga (PySem.W.cls_bind I.kIn rd.rd fc (wpAny_call (PySem.W.sm_get (s := { s with toks := s.toks + 1 }) I.kIn rc (PySem.W.handed_on rfl ?_))))
  refine PySem.W.callWith_K (h₀ := X.base) I.ok.mod.kin M.2.2 (thn (ha.run pos pins _ σ H _ (I.tok _) h) fun us s1 ⟨vs, H1, I1, r, q⟩ => ⟨I1.kIn, ?_⟩) he hpl
  exact wpAny_call (run_fnR M.1 hr pass0 I1 r q)
end
section
variable {prog : Program} {w : World} {A : Around} {E : Value → Shared → Prop} {s : Shared} {K : PySem.W.Frag} {x C f : Addr} {ox : Obj} {od : Option Obj}
open Builtin Builtin.Str in
theorem str_own {Q : Value → Shared → Prop} (hu : A.in1.in1.units < cLine) (X : K.In s.heap) (I : PySem.W.InstAt s.heap x ox C od) (hs : PySem.W.findIn K (.ref C) "__str__" = some (some (.ref f))) (hf : PySem.W.isFn K (.ref f) = true)
    (h : wpAny (model prog w) A.in1.in1 (call (.ref f) [.ref x]) (fun r s' => ∃ y u, r = .str y u ∧ Q r s') E s) : wpAny (model prog w) A (call (.type "str") [.ref x]) Q E s := by
  refine PySem.callType_codes (T := "str") (Bi := Builtin.«object.__init__») (Q₁ := fun r s₁ => ∃ y u, r = .str y u ∧ Q r s₁) PySem.F.called_str (PySem.F.typeCall_str_1 _) PySem.F.entry_object_init ?_ ?_
  · refine codeAny_of_tree ?_
    show wpAny _ A.in1.in1 (do checkBuiltinCall "str.__new__" ⟨[.type "str", .ref x], []⟩; again (.builtin "str.__new__" ⟨[.type "str", .ref x], []⟩)) _ _ s
    refine wpAny_bind (wpAny_of_eq (PySem.F.newCall_str_1 _) (wpAny_pure ⟨plainId_quiet (by decide +kernel) _, codeAny_builtin PySem.F.entry_str_new ?_⟩))
    rw [Around.under_plainId (by decide +kernel) _]
    rw [str_new_tree]
    refine wpAny_bind (wpAny_pure ?_)
    refine wpAny_bind (wpAny_of_eq isSubtype_str_str ?_)
    have key : wpAny (model prog w) A.in1.in1 (PySem.Builtin.Str.strOf (.ref x)) (fun r s₁ => ∃ y u, r = .str y u ∧ Q r s₁) E s := by
      unfold PySem.Builtin.Str.strOf
      rw [show isExactStr (.ref x) = false from rfl]
      refine wpAny_bind (m := cRoomFor _ _) (wpAny_cRoomFor hu ?_)
      refine wpAny_bind (m := callSpecial? (.ref x) (Str.ofString "__str__")) (PySem.W.special_fn X I hs (beq_iff_eq.mp hf) (wpAny_mono h (fun r s' z => ?_) fun _ _ y => y))
      obtain ⟨y, u, rfl, z⟩ := z
      exact wpAny_pure ⟨_, _, rfl, z⟩
    exact wpAny_bind (wpAny_mono key (fun r s₁ hr => wpAny_pure hr) fun _ _ y => y)
  · rintro obj s₁ ⟨y, u, rfl, hq⟩
    exact ⟨typeIs_str _ _ _, PySem.F.args_object_init_2 _ _, object_init_meets PySem.F.called_str.init.lookup PySem.F.called_str.made (by decide) prog w A.in1 _ s₁ ⟨typeIs_str _ _ _, rfl, hq⟩⟩
end
/-- str(x), x an instance of the class at C whose __str__ is at g -/
def rStrO (C : Addr) (sp : Sp) : List V → Hp → VK → Prop := fun xs H Q => ∃ a dx fs, xs = [.ref a] ∧ H a = some (.ins C dx fs) ∧ sp [.ref a] H (fun z H' => ∃ y, z = .str y ∧ Q z H') E0
theorem call_strO {X : Cx} {C g : Addr} {k : Nat} {sp : Sp} (hs : PySem.W.findIn X.K (.ref C) "__str__" = some (some (.ref g))) (M : MdR X.prog X.w X.K X.mg X.base k g sp) (hr : Room (k + 2) X.A) : CallR X (.type "str") (rStrO C sp) := by
  intro pins s σ H xs us Q I r h
  obtain ⟨a, dx, fs, rfl, ha, q⟩ := h
  rw [Vals.ref1 r]
  obtain ⟨ox, od, J⟩ := ins_at I ha
  have hr2 : Room k X.A.in1.in1 := (show Room (k + 1) X.A.in1 from Room.in1 hr).in1
  refine str_own hr2.units0 I.kIn J hs M.2.1 (wpAny_mono (wpAny_call (SlX.run_at (us := [.ref a]) (ws := [.ref a]) M.1 hr2 I.env0.in1.in1 pass0 I (.cons rfl .nil) q)) (fun w s' z => ?_) fun _ _ x => x)
  obtain ⟨z', H', I', rz, y, rfl, qz⟩ := z
  obtain ⟨t, rfl⟩ := rz
  exact ⟨y, t, rfl, .str y, H', I', ⟨t, rfl⟩, qz⟩
end Cor

set_option Elab.async false
set_option linter.all false
set_option maxRecDepth 100000
set_option maxHeartbeats 1000000
namespace Cor
open PySem PySem.Spec PyProof.Rows L2
/-- repr(x), x a list or a tuple of data -/
def rRepr (K : PySem.W.Frag) : List V → Hp → VK → Prop := fun xs H Q => ∃ (a : Addr) (d : PyData), xs = [.ref a] ∧ Dp K H (.ref a) d ∧ d.showable = true ∧ d.hasDict = false ∧ d.shown.length ≤ sizeLine ∧ d.depth ≤ 60 ∧ Q (.str d.shown) H
theorem call_reprL {X : Cx} (gd : X.A.guards = some []) (hu : X.A.units + 64 < cLine) : CallR X (.builtin "repr") (rRepr X.K) := by
  intro pins s σ H xs us Q I r h
  obtain ⟨a, d, rfl, hd, hs, hn, hl, hdep, q⟩ := h
  cases r with
  | @cons _ u _ _ rx rr =>
    cases rr
    obtain rfl : u = Value.ref a := rx
    obtain ⟨as, rd⟩ := Dp.reads I d _ _ hd (show RelV (.ref a) (Value.ref a) from rfl)
    exact repr_of_reads' rd hs (fun z => by rw [hn] at z; cases z) gd (by omega) (fun _ _ z => z) (fun h' u tk k => ⟨.str d.shown, H, I.kept (t' := tk) k, ⟨_, rfl⟩, q⟩) hl
end Cor

set_option Elab.async false
set_option linter.all false
set_option maxRecDepth 100000
set_option maxHeartbeats 2000000
/-! repr: of data, of an instance by its own __repr__; texts that are shown as they are; unlike trees are shown unlike. -/
namespace Cor
open PySem PySem.Spec PyProof.Rows L2
/-- repr(x), x data -/
def rReprD (K : PySem.W.Frag) : List V → Hp → VK → Prop := fun xs H Q => ∃ (v : V) (d : PyData), xs = [v] ∧ Dp K H v d ∧ d.showable = true ∧ d.hasDict = false ∧ d.shown.length ≤ sizeLine ∧ d.depth ≤ 60 ∧ Q (.str d.shown) H
theorem call_reprD {X : Cx} (gd : X.A.guards = some []) (hu : X.A.units + 64 < cLine) : CallR X (.builtin "repr") (rReprD X.K) := by
  intro pins s σ H xs us Q I r h
  obtain ⟨v, d, rfl, hd, hs, hn, hl, hdep, q⟩ := h
  cases r with
  | @cons _ u _ _ rx rr =>
    cases rr
    cases hd with
    | non =>
      cases rx
      exact PySem.P.repr_of_none ⟨.str "None", H, I.tok _, ⟨_, rfl⟩, q⟩
    | bl b =>
      cases rx
      exact PySem.P.repr_of_bool ⟨.str _, H, I.tok _, ⟨_, rfl⟩, q⟩
    | int i =>
      obtain ⟨t, rfl⟩ := rx
      exact PySem.P.repr_of_int (of_decide_eq_true hs) ⟨.str _, H, I.tok _, ⟨_, rfl⟩, q⟩
    | str x =>
      obtain ⟨t, rfl⟩ := rx
      exact PySem.P.repr_of_str ⟨.str _, H, I.tok _, ⟨_, rfl⟩, q⟩ hl
    | lst h1 h2 =>
      cases rx
      exact call_reprL gd hu pins s σ H [.ref _] _ Q I (.cons rfl .nil) ⟨_, _, rfl, .lst h1 h2, hs, hn, hl, hdep, q⟩
    | tup h1 h2 =>
      cases rx
      exact call_reprL gd hu pins s σ H [.ref _] _ Q I (.cons rfl .nil) ⟨_, _, rfl, .tup h1 h2, hs, hn, hl, hdep, q⟩
section
variable {prog : Program} {w : World} {A : Around} {E : Value → Shared → Prop} {s : Shared} {K : PySem.W.Frag} {x C f : Addr} {ox : Obj} {od : Option Obj}
theorem repr_own {Q : Value → Shared → Prop} (hu : A.units + 1 < cLine) (X : K.In s.heap) (I : PySem.W.InstAt s.heap x ox C od) (hr : PySem.W.findIn K (.ref C) "__repr__" = some (some (.ref f))) (hf : PySem.W.isFn K (.ref f) = true)
    (h : wpAny (model prog w) A.in1 (call (.ref f) [.ref x]) (fun r s' => ∃ y u, r = .str y u ∧ Q r s') E s) : wpAny (model prog w) A (call (.builtin "repr") [.ref x]) Q E s := by
  refine Calls.call_function_entry F.kind_repr F.plain_repr F.entry_repr (F.args_repr1 _) ?_
  unfold Builtin.«repr»
  refine wpAny_bind (m := oneArg "repr" _) (wpAny_pure ?_)
  refine wpAny_bind (m := cRoomFor _ _) (wpAny_cRoomFor (by show A.units + 1 < cLine; exact hu) ?_)
  refine wpAny_bind (m := specialOf (.ref x) (Str.ofString "__repr__")) ?_
  unfold specialOf
  refine wpAny_bind (I.type.here ((PySem.W.looks_findIn X hr).here ?_))
  refine wpAny_bind (m := callSpecialIfBound? (.ref x) (Str.ofString "__repr__") _) (PySem.W.ifBound_K X I hr hf (wpAny_mono h (fun r s' hz => ?_) fun _ _ y => y))
  obtain ⟨y, u, rfl, q⟩ := hz
  refine wpAny_bind (wpAny_isInstance (T := "str") (b := true) (typeIs_str _ _ _) isSubtype_str_str ?_)
  exact wpAny_pure ⟨_, rfl, q⟩
end
/-- repr(x), x an instance of the class at C whose __repr__ is at g -/
theorem call_reprO {X : Cx} {C g : Addr} {k : Nat} {sp : Sp} (hs : PySem.W.findIn X.K (.ref C) "__repr__" = some (some (.ref g))) (M : MdR X.prog X.w X.K X.mg X.base k g sp) (hr : Room (k + 1) X.A) : CallR X (.builtin "repr") (rStrO C sp) := by
  intro pins s σ H xs us Q I r h
  obtain ⟨a, dx, fs, rfl, ha, q⟩ := h
  rw [Vals.ref1 r]
  obtain ⟨ox, od, J⟩ := ins_at I ha
  have hr1 : Room k X.A.in1 := Room.in1 hr
  refine repr_own (hu_of hr) I.kIn J hs M.2.1 (wpAny_mono (wpAny_call (SlX.run_at (us := [.ref a]) (ws := [.ref a]) M.1 hr1 I.env0.in1 pass0 I (.cons rfl .nil) q)) (fun w s' z => ?_) fun _ _ x => x)
  obtain ⟨z', H', I', rz, y, rfl, qz⟩ := z
  obtain ⟨t, rfl⟩ := rz
  exact ⟨y, t, rfl, .str y, H', I', ⟨t, rfl⟩, qz⟩
/-! ### texts that are shown as they are -/
def signOk (c : Nat) : Bool := decide (32 ≤ c) && decide (c < 127) && !(c == 39) && !(c == 92)
def Calm (x : Str) : Prop := ∀ c ∈ x.cps.toList, signOk c = true
theorem print_ok : (List.range 127).all (fun c => decide (c < 32) || PySem.Unicode.isPrintable c) = true := by decide +kernel
theorem calm_char {c : Nat} (h : signOk c = true) : Builtin.Str.reprChar 39 c = [c] := by
  unfold signOk at h
  simp only [Bool.and_eq_true, decide_eq_true_eq, Bool.not_eq_true', beq_eq_false_iff_ne] at h
  obtain ⟨⟨⟨h1, h2⟩, h3⟩, h4⟩ := h
  have p := List.all_eq_true.mp print_ok c (List.mem_range.mpr h2)
  rw [Bool.or_eq_true] at p
  have p : PySem.Unicode.isPrintable c = true := by
    rcases p with p | p
    · have := of_decide_eq_true p; omega
    · exact p
  unfold Builtin.Str.reprChar
  have n10 : (c == 10) = false := by rw [beq_eq_false_iff_ne]; omega
  have n13 : (c == 13) = false := by rw [beq_eq_false_iff_ne]; omega
  have n9 : (c == 9) = false := by rw [beq_eq_false_iff_ne]; omega
  have n39 : (c == 39) = false := by rw [beq_eq_false_iff_ne]; exact h3
  have n92 : (c == 92) = false := by rw [beq_eq_false_iff_ne]; exact h4
  simp only [n10, n13, n9, n39, n92, p, Bool.or_self, Bool.false_eq_true, if_false, if_true]
theorem calm_fold : ∀ (l : List Nat) (a : Array Nat), (∀ c ∈ l, signOk c = true) → l.foldl (fun out c => out ++ (Builtin.Str.reprChar 39 c).toArray) a = a ++ l.toArray
  | [], a, _ => by simp
  | c :: l, a, h => by
    rw [List.foldl_cons, calm_char (h c List.mem_cons_self), calm_fold l _ fun d hd => h d (List.mem_cons_of_mem _ hd)]
    simp
theorem calm_repr {x : Str} (h : Calm x) : reprText x = "'" ++ x ++ "'" := by
  have q : reprQuote x = 39 := by
    unfold reprQuote
    have n : x.cps.contains 39 = false := by
      rw [← Bool.not_eq_true, Array.contains_iff_mem]
      intro z
      have := h 39 (Array.mem_toList_iff.mpr z)
      revert this
      decide
    rw [n]
    rfl
  unfold reprText
  rw [q, ← Array.foldl_toList, calm_fold _ _ h]
  have e : ("'" : Str) = ⟨#[39]⟩ := by decide +kernel
  show Str.mk _ = ("'" : Str) ++ x ++ ("'" : Str)
  rw [e]
  have a1 : ∀ a b : Str, (a ++ b).cps = a.cps ++ b.cps := Str.cps_append
  have fin : (⟨#[39]⟩ ++ x ++ ⟨#[39]⟩ : Str).cps = (#[39] ++ x.cps) ++ #[39] := by rw [a1, a1]
  have : (⟨#[39]⟩ ++ x ++ ⟨#[39]⟩ : Str) = ⟨(#[39] ++ x.cps) ++ #[39]⟩ := by rw [← fin]
  rw [this]
  simp
theorem Calm.append {x y : Str} (h : Calm x) (h' : Calm y) : Calm (x ++ y) := fun c hc => by
  rw [Str.cps_append, Array.toList_append, List.mem_append] at hc
  exact hc.elim (h c) (h' c)
theorem calm_int (n : Int) : Calm (Str.ofString (toString n)) := fun c hc => by
  by_cases h : c = 45 ∨ (48 ≤ c ∧ c ≤ 57)
  · unfold signOk
    rcases h with rfl | ⟨h1, h2⟩
    · decide
    · simp only [Bool.and_eq_true, decide_eq_true_eq, Bool.not_eq_true', beq_eq_false_iff_ne]
      omega
  · exact absurd hc (int_text_free' c (by omega) n)
/-! ### unlike trees are shown unlike -/
def Ending (r : List Nat) : Prop := ∀ c, r.head? = some c → c = 44 ∨ c = 41
theorem cut_at : ∀ {a b r r' : List Nat}, (∀ c ∈ a, c ≠ 44 ∧ c ≠ 41) → (∀ c ∈ b, c ≠ 44 ∧ c ≠ 41) → Ending r → Ending r' → a ++ r = b ++ r' → a = b ∧ r = r'
  | [], [], _, _, _, _, _, _, e => ⟨rfl, e⟩
  | [], d :: b, r, r', _, hb, hr, _, e => by
    have e : r = d :: (b ++ r') := e
    have := hr d (by rw [e]; rfl)
    have := hb d List.mem_cons_self
    omega
  | c :: a, [], r, r', ha, _, _, hr', e => by
    have e : c :: (a ++ r) = r' := e
    have := hr' c (by rw [← e]; rfl)
    have := ha c List.mem_cons_self
    omega
  | c :: a, d :: b, r, r', ha, hb, hr, hr', e => by
    have e : c :: (a ++ r) = d :: (b ++ r') := e
    obtain ⟨e1, e2⟩ := List.cons.inj e
    obtain ⟨h1, h2⟩ := cut_at (fun x hx => ha x (List.mem_cons_of_mem _ hx)) (fun x hx => hb x (List.mem_cons_of_mem _ hx)) hr hr' e2
    exact ⟨by rw [e1, h1], h2⟩
def sgn (x : Str) : List Nat := x.cps.toList
theorem sgn_append (x y : Str) : sgn (x ++ y) = sgn x ++ sgn y := by unfold sgn; rw [Str.cps_append, Array.toList_append]
theorem sgn_inj {x y : Str} (h : sgn x = sgn y) : x = y := by
  have e : x.cps = y.cps := Array.toList_inj.mp h
  cases x
  cases y
  exact congrArg Str.mk e
theorem ofString_inj {a b : String} (h : Str.ofString a = Str.ofString b) : a = b := by
  rw [Str.ofString_eq_toList, Str.ofString_eq_toList] at h
  have h1 : a.toList.map Char.toNat = b.toList.map Char.toNat := by
    have := congrArg (fun s => s.cps.toList) h
    simpa using this
  have inj : ∀ {l l' : List Char}, l.map Char.toNat = l'.map Char.toNat → l = l' := by
    intro l
    induction l with
    | nil => intro l' e; cases l' with
      | nil => rfl
      | cons _ _ => cases e
    | cons c l ih => intro l' e; cases l' with
      | nil => cases e
      | cons d l' =>
        obtain ⟨e1, e2⟩ := List.cons.inj e
        have ec : c = d := Char.ext (UInt32.toNat_inj.mp e1)
        rw [ec, ih e2]
  exact String.toList_inj.mp (inj h1)
theorem int_text_inj {n m : Int} (h : Str.ofString (toString n) = Str.ofString (toString m)) : n = m := Int.repr_injective (ofString_inj h)
theorem shown_nd (n : Int) (y o : Tr) : sgn (Tr.nd n y o).d.shown = 40 :: (sgn (Str.ofString (toString n)) ++ 44 :: 32 :: (sgn y.d.shown ++ 44 :: 32 :: (sgn o.d.shown ++ [41]))) := by
  have e : (Tr.nd n y o).d = .tuple [.int n, y.d, o.d] := rfl
  rw [e, PyData.shown_tuple, PyData.shownAll_cons, PyData.shownAll_cons, PyData.shownAll_cons, PyData.shownAll_nil, PyData.shown_int]
  have s1 : sgn (Str.ofString "(") = [40] := by decide +kernel
  have s2 : sgn (Str.ofString ", ") = [44, 32] := by decide +kernel
  have s3 : sgn (Str.ofString ")") = [41] := by decide +kernel
  have l3 : ([PyData.int n, y.d, o.d].length == 1) = false := rfl
  rw [l3]
  simp only [Str.join, Bool.false_eq_true, if_false, sgn_append, s1, s2, s3]
  simp
theorem leaf_free : ∀ (l : Lf) (c : Nat), c ∈ sgn (Tr.lf l).d.shown → c ≠ 44 ∧ c ≠ 41 ∧ c ≠ 40
  | .i n, c, hc => by
    have f := fun k hk => int_text_free' k hk n
    refine ⟨?_, ?_, ?_⟩ <;> rintro rfl
    · exact f 44 (by decide) hc
    · exact f 41 (by decide) hc
    · exact f 40 (by decide) hc
  | .b true, c, hc => by
    have : ∀ c ∈ sgn (Tr.lf (.b true)).d.shown, c ≠ 44 ∧ c ≠ 41 ∧ c ≠ 40 := by decide +kernel
    exact this c hc
  | .b false, c, hc => by
    have : ∀ c ∈ sgn (Tr.lf (.b false)).d.shown, c ≠ 44 ∧ c ≠ 41 ∧ c ≠ 40 := by decide +kernel
    exact this c hc
theorem leaf_inj : ∀ {l l' : Lf}, (Tr.lf l).d.shown = (Tr.lf l').d.shown → l = l'
  | .i n, .i m, h => by rw [int_text_inj h]
  | .i n, .b true, h => by
    have z : 84 ∈ (Str.ofString (toString n)).cps.toList := by
      rw [show Str.ofString (toString n) = (Tr.lf (.b true)).d.shown from h]
      decide +kernel
    exact absurd z (int_text_free' 84 (by decide) n)
  | .i n, .b false, h => by
    have z : 70 ∈ (Str.ofString (toString n)).cps.toList := by
      rw [show Str.ofString (toString n) = (Tr.lf (.b false)).d.shown from h]
      decide +kernel
    exact absurd z (int_text_free' 70 (by decide) n)
  | .b true, .i n, h => by
    have z : 84 ∈ (Str.ofString (toString n)).cps.toList := by
      rw [show Str.ofString (toString n) = (Tr.lf (.b true)).d.shown from h.symm]
      decide +kernel
    exact absurd z (int_text_free' 84 (by decide) n)
  | .b false, .i n, h => by
    have z : 70 ∈ (Str.ofString (toString n)).cps.toList := by
      rw [show Str.ofString (toString n) = (Tr.lf (.b false)).d.shown from h.symm]
      decide +kernel
    exact absurd z (int_text_free' 70 (by decide) n)
  | .b true, .b true, _ => rfl
  | .b false, .b false, _ => rfl
  | .b true, .b false, h => absurd h (by decide +kernel)
  | .b false, .b true, h => absurd h (by decide +kernel)
theorem ending_cons {c : Nat} {r : List Nat} (h : c = 44 ∨ c = 41) : Ending (c :: r) := fun d e => by
  cases e
  exact h
theorem int_free (n : Int) : ∀ c ∈ sgn (Str.ofString (toString n)), c ≠ 44 ∧ c ≠ 41 := fun c hc => ⟨(leaf_free (.i n) c hc).1, (leaf_free (.i n) c hc).2.1⟩
theorem no_open {l : Lf} {r : List Nat} {x : List Nat} (hr : Ending r) (e : sgn (Tr.lf l).d.shown ++ r = 40 :: x) : False := by
  cases h : sgn (Tr.lf l).d.shown with
  | nil =>
    rw [h] at e
    have := hr 40 (by rw [show r = 40 :: x from e]; rfl)
    omega
  | cons c s =>
    rw [h] at e
    have hc := leaf_free l c (by rw [h]; exact List.mem_cons_self)
    have : c = 40 := (List.cons.inj e).1
    omega
theorem shown_cut : ∀ {t t' : Tr} {r r' : List Nat}, Ending r → Ending r' → sgn t.d.shown ++ r = sgn t'.d.shown ++ r' → t = t' ∧ r = r'
  | .lf l, .lf l', r, r', hr, hr', e => by
    obtain ⟨h1, h2⟩ := cut_at (fun c hc => ⟨(leaf_free l c hc).1, (leaf_free l c hc).2.1⟩) (fun c hc => ⟨(leaf_free l' c hc).1, (leaf_free l' c hc).2.1⟩) hr hr' e
    exact ⟨by rw [leaf_inj (sgn_inj h1)], h2⟩
  | .lf l, .nd n y o, r, r', hr, _, e => by
    rw [shown_nd] at e
    exact (no_open hr e).elim
  | .nd n y o, .lf l, r, r', _, hr', e => by
    rw [shown_nd] at e
    exact (no_open hr' e.symm).elim
  | .nd n y o, .nd m y' o', r, r', hr, hr', e => by
    rw [shown_nd, shown_nd] at e
    simp only [List.cons_append, List.append_assoc, List.cons.injEq, true_and] at e
    obtain ⟨h1, e⟩ := cut_at (int_free n) (int_free m) (ending_cons (.inl rfl)) (ending_cons (.inl rfl)) e
    simp only [List.cons.injEq, true_and] at e
    obtain ⟨h2, e⟩ := shown_cut (t := y) (t' := y') (ending_cons (.inl rfl)) (ending_cons (.inl rfl)) e
    simp only [List.cons.injEq, true_and] at e
    obtain ⟨h3, e⟩ := shown_cut (t := o) (t' := o') (ending_cons (.inr rfl)) (ending_cons (.inr rfl)) e
    simp only [List.nil_append, List.cons.injEq, true_and] at e
    exact ⟨by rw [int_text_inj (sgn_inj h1), h2, h3], e⟩
theorem shown_inj {t t' : Tr} (h : t.d.shown = t'.d.shown) : t = t' := (shown_cut (r := []) (r' := []) (fun _ z => by cases z) (fun _ z => by cases z) (by rw [h])).1
end Cor

set_option Elab.async false
set_option linter.all false
set_option maxRecDepth 100000
set_option maxHeartbeats 2000000
/-! Lambdas with captured names, handed to defs and called there: the captured cells are lent to the callee's heap. -/
namespace Cor
open PySem PySem.Spec PyProof.Rows L2 LamX NdefX
/-- the object at f is the lambda with the words F and the body e -/
def LamO (f : Addr) (F : NF) (e : Expr) : HO := .ext fun h => ∃ (od : Option Addr) (sl : Array (Option Value)) (pm ctv : Value), h.get? f = some (⟨.type "function", od, .func (PySem.W.kla_fn "<lambda>" F.qual F.params e F.scope F.cl pm (.ref F.c) ctv), sl⟩ : Obj)
/-- the object at c is the cell o, which holds v -/
def CellO (c : Addr) (o : Obj) (v : V) : HO := .ext fun h => h.get? c = some o ∧ ∃ u, o.data = .cell (some u) ∧ RelV v u
def Lent (H : Hp) (c : Addr) (v : V) : Prop := ∃ o, H c = some (CellO c o v)
/-- all that stood stands, but things known by what is true of them -/
def Kx (H H' : Hp) : Prop := ∀ b o, (∀ φ, o ≠ .ext φ) → H b = some o → H' b = some o
theorem Kx.refl {H : Hp} : Kx H H := fun _ _ _ e => e
theorem Kx.trans {H H1 H2 : Hp} (a : Kx H H1) (b : Kx H1 H2) : Kx H H2 := fun c o n e => b c o n (a c o n e)
theorem _root_.L2.Same.kx {H H' : Hp} (s : Same H H') : Kx H H' := fun b o _ e => s b o e
theorem lamO_at {P : Program} {w : World} {H : Hp} {h : Heap} {f : Addr} {F : NF} {e : Expr} (hok : HOk P w H h) (z : H f = some (LamO f F e)) : ∃ (od : Option Addr) (sl : Array (Option Value)) (pm ctv : Value), h.get? f = some (⟨.type "function", od, .func (PySem.W.kla_fn "<lambda>" F.qual F.params e F.scope F.cl pm (.ref F.c) ctv), sl⟩ : Obj) := (hok f _ z).1
theorem Lent.at {P : Program} {w : World} {H : Hp} {h : Heap} {c : Addr} {o : Obj} {v : V} (hok : HOk P w H h) (z : H c = some (CellO c o v)) : h.get? c = some o ∧ ∃ u, o.data = .cell (some u) ∧ RelV v u := (hok c _ z).1
section
variable {X : Cx} {pins : List (Addr × Obj)} {σ : L2.St} {H : Hp} {s : Shared}
theorem inv_lam {F : NF} {e : Expr} {o : Obj} {t' : Nat} {pm ctv : Value} (I : Inv X pins σ H s) (ho : o = PySem.W.kla_obj "<lambda>" F.qual F.params e F.scope F.cl pm F.c ctv) :
    Inv X pins σ (upd H s.heap.objs.size (LamO s.heap.objs.size F e)) { s with heap := s.heap.push o, toks := t' } := by
  subst ho
  refine I.laid (a := s.heap.objs.size) (fun b u z => Heap.get?_push_of_some _ z) (Nat.le_refl _) ?_
  have z : (s.heap.push (PySem.W.kla_obj "<lambda>" F.qual F.params e F.scope F.cl pm F.c ctv)).get? s.heap.objs.size = some (PySem.W.kla_obj "<lambda>" F.qual F.params e F.scope F.cl pm F.c ctv) := Heap.get?_push_size _ rfl
  exact ⟨⟨_, _, pm, ctv, z⟩, ⟨_, z⟩, fun h1 h2 ⟨od, sl, p, t, y⟩ st => ⟨od, sl, p, t, st _ y⟩⟩
/-- the words of the lambda that X makes -/
def lamNF (X : Cx) (params : Arguments) (scope : Scope) (c' : Addr) : NF := ⟨"<lambda>", X.env.qual ++ "<lambda>", params, [], scope, cloFrom X.env.cells scope.names [], c'⟩
theorem lamV_make {T : List (Addr × Str)} {c P : Addr} {params : Arguments} {body : Expr} {scope : Scope} {pos : Pos} {E : Value → Shared → Prop} {Q : Value → Shared → Prop} (I : Inv X pins σ H s) (TB : TabB X.base X.mg c P) (hcode : X.env.code = .ref c)
    (hm : (P, X.env.qual ++ "<lambda>") ∈ T) (hu : ∀ p ∈ T, p.1 = P → p.2 = X.env.qual ++ "<lambda>") (hT : Tabs T H) (hdef : defaultsOf params X.env = ([], [])) (hfree : ∀ y ∈ scope.names, y.2 = .free → ∃ c, X.env.cells.lookup y.1 = some c)
    (h : ∀ (f c' : Addr) (H1 : Hp) (s' : Shared), Inv X pins σ H1 s' → ExtN H H1 → Tabs T H1 → H f = none → H1 f = some (LamO f (lamNF X params scope c') body) → H1 c' = some (CodeO c' (X.env.qual ++ "<lambda>")) → Q (.ref f) s') :
    wpAny (model X.prog X.w) X.A (eval (.Lambda params body scope pos) X.env) Q E s := by
  obtain ⟨arr, eP, tri, told⟩ := hT _ hm
  refine PySem.W.kla_eval hdef ?_
  have bP := TB.bm.keeps I.bk
  have gP : s.heap.get? P = some { cls := .none, data := .fields arr } := I.hok P _ eP
  cases hc : codeAmong pos arr.toList with
  | none =>
    refine PySem.W.kla_makeFunction (mg := X.mg) (c := c) (P := P) (ps := arr) (closure_ok hfree) I.ok.glob (I.mod.glob.keeps I.bk) hcode (TB.code.keeps I.bk) gP tri hc TB.gP bP fun c' ctv h' tk ext ge lt rec tb => ?_
    obtain ⟨c2, oc, vs, t, e2, hoc, hd, hv⟩ := rec
    cases e2
    have freeC : H c' = none := I.hok.fresh ge
    have I1 := inv_table (t' := tk) (more := #[rawInt pos.line, rawInt pos.col, .ref c']) (h' := h') I eP (fun b o nb z => ext b o nb z) tb ge ⟨oc, vs, t, hoc, hd, hv⟩
    have grow : ExtN H (upd (upd H P (.tbl (arr ++ #[rawInt pos.line, rawInt pos.col, .ref c']))) c' (CodeO c' (X.env.qual ++ "<lambda>"))) := fun b o z n => by
      rw [upd_ne (ne_of_none z freeC), upd_ne (fun y => n arr (Option.some.inj (z.symm.trans (by rw [y]; exact eP))))]
      exact z
    have flat : (arr ++ #[rawInt pos.line, rawInt pos.col, .ref c']).toList = arr.toList ++ [rawInt pos.line, rawInt pos.col, .ref c'] := by simp
    have T1 : Tabs T (upd (upd H P (.tbl (arr ++ #[rawInt pos.line, rawInt pos.col, .ref c']))) c' (CodeO c' (X.env.qual ++ "<lambda>"))) := fun p hp => by
      by_cases hb : p.1 = P
      · rw [hu p hp hb, hb]
        refine ⟨_, by rw [upd_ne (ne_of_none eP freeC), upd_same], by rw [flat]; exact PySem.TriplesOk_snoc _ _ _ _ tri, fun p' cv found => ?_⟩
        rw [flat] at found
        rcases among_app _ tri found with z | z
        · obtain ⟨c0, y1, y2⟩ := told p' cv z
          exact ⟨c0, y1, grow _ _ y2 codeO_ne⟩
        · exact ⟨c', z, upd_same⟩
      · obtain ⟨qs, y1, y2, y3⟩ := hT p hp
        refine ⟨qs, by rw [upd_ne (ne_of_none y1 freeC), upd_ne hb]; exact y1, y2, fun p' cv found => ?_⟩
        obtain ⟨c0, z1, z2⟩ := y3 p' cv found
        exact ⟨c0, z1, grow _ _ z2 codeO_ne⟩
    have newF := I1.hok.fresh (Nat.le_refl _)
    have I2 := inv_lam (F := lamNF X params scope c') (e := body) (t' := tk) (pm := (X.mg "__name__").getD .none) (ctv := ctv) I1 rfl
    refine h h'.objs.size c' _ _ I2 (fun b o z n => ?_) (T1.ext fun b o z => ?_) (I.hok.fresh (Nat.le_trans ge (Nat.le_of_lt lt))) upd_same ?_
    · have y := grow b o z n
      exact (upd_ne (ne_of_none y newF)).trans y
    · exact (upd_ne (ne_of_none z newF)).trans z
    · exact (upd_ne (Nat.ne_of_lt lt)).trans upd_same
  | some cv =>
    obtain ⟨c', z, known⟩ := told pos cv hc
    subst z
    refine PySem.W.kla_makeFunctionHit (mg := X.mg) (c := c) (P := P) (ps := arr) (closure_ok hfree) I.ok.glob (I.mod.glob.keeps I.bk) hcode (TB.code.keeps I.bk) gP tri hc bP fun ctv h' tk kp sz => ?_
    have I1 : Inv X pins σ H { s with heap := h', toks := tk } := I.kept kp
    have newF : H h'.objs.size = none := I1.hok.fresh (Nat.le_refl _)
    have I2 := inv_lam (F := lamNF X params scope c') (e := body) (t' := tk) (pm := (X.mg "__name__").getD .none) (ctv := ctv) I1 rfl
    refine h h'.objs.size c' _ _ I2 (fun b o z n => ?_) (hT.ext fun b o z => ?_) newF upd_same ?_
    · exact (upd_ne (ne_of_none z newF)).trans z
    · exact (upd_ne (ne_of_none z newF)).trans z
    · exact (upd_ne (ne_of_none known newF)).trans known
end
/-- the reading of a lambda: a new function, whose captured cells are told by cl -/
def tLamV (T : List (Addr × Str)) (e : Expr) (mk : Addr → NF) : TE := fun σ H Q => Tabs T H ∧ ∀ (f c' : Addr) (H1 : Hp), ExtN H H1 → Tabs T H1 → H f = none → H1 f = some (LamO f (mk c') e) → H1 c' = some (CodeO c' (mk c').qual) →
  (∀ x y a, (mk c').cl.lookup x = some a → (mk c').cl.lookup y = some a → x = y) → (∀ y a, (mk c').cl.lookup y = some a → (y, NameKind.free) ∈ (mk c').scope.names) → Q (.ref f) H1
section
variable {X : Cx}
theorem pe_lamV {T : List (Addr × Str)} {c P : Addr} {params : Arguments} {body : Expr} {scope : Scope} {pos : Pos} (TB : TabB X.base X.mg c P) (hcode : X.env.code = .ref c) (hm : (P, X.env.qual ++ "<lambda>") ∈ T) (hu : ∀ p ∈ T, p.1 = P → p.2 = X.env.qual ++ "<lambda>")
    (hfree : ∀ y ∈ scope.names, y.2 = .free → X.env.scope.names.lookup y.1 = some .cell ∨ X.env.scope.names.lookup y.1 = some .free) (hdef : defaultsOf params X.env = ([], []) := by rfl) :
    PE X (.Lambda params body scope pos) (tLamV T body (lamNF X params scope)) := by
  refine ⟨fun pins s σ H Q I ⟨hT, h⟩ => ?_⟩
  have hfr : ∀ y ∈ scope.names, y.2 = .free → ∃ c, X.env.cells.lookup y.1 = some c := fun y hy e => (hfree y hy e).elim (fun z => I.ok.has _ (.inl z)) fun z => I.ok.has _ (.inr z)
  refine lamV_make I TB hcode hm hu hT hdef hfr fun f c' H1 s' I1 eN T1 f0 f1 c1 => ?_
  refine ⟨.ref f, H1, I1, rfl, h f c' H1 eN T1 f0 f1 c1 (fun x y a e1 e2 => I.ok.inj x y a (clo_cm hfr e1) (clo_cm hfr e2)) fun y a e => ?_⟩
  rcases cloFrom_mem (PySem.mem_of_lookup e) with z | ⟨z, _⟩
  · cases z
  · exact z
end
/-! ### the body -/
section
variable {P : Program} {w : World} {K : PySem.W.Frag} {mg : Str → Option Value} {base : Heap} {N ps fr : List Str} {F : NF} {f : Addr} {e : Expr} {k : Nat} {sp : List V → List V → Hp → VK → Prop}
theorem lam_run (S : NScope N ps fr F.scope) (hb : ∀ (pm ctv : Value) (us : List Value), us.length = ps.length → bindArgs (PySem.W.kla_fn "<lambda>" F.qual F.params e F.scope F.cl pm (.ref F.c) ctv) ⟨us, []⟩ = pure (ps.zip us))
    (hbody : ∀ (A : Around) (outer : List Env) (s : Shared) (H : Hp) (vs ws : List V) (Q : VK), Room k (A.deeper (envF F f s.heap.objs.size)) → sp ws vs H Q → ∃ t, PE (ncx CX0 P w K mg base N F f A outer s H E0) e t ∧ t (startF N vs (ws.map some)) H Q)
    {A : Around} {outer : List Env} {s : Shared} {H : Hp} {us : List Value} {vs ws : List V} {Q : VK} {E : XK} (hr : Room (k + 1) A) (e0 : Env0 P w K mg base A outer s H) (hf : H f = some (LamO f F e)) (hc : H F.c = some (CodeO F.c F.qual))
    (C : CellsAt F.cl fr (ws.map some) s.heap H) (r : Vals vs us) (hl : vs.length = ps.length) (q : sp ws vs H Q) : codeAny (model P w) A (.call (.ref f) ⟨us, []⟩) (CR CX0 outer P w H s Q E) s := by
  have lim : s.heap.NoLimit := e0.mod.nolimit.keeps fun b o z => (e0.bs b o z).1
  obtain ⟨od, sl, pm, ctv, ho⟩ := lamO_at e0.hok hf
  refine PySem.W.kla_callFunE hr.depth ho rfl S.co S.gen rfl (codeO_at e0.hok hc) ?_
  rw [hb pm ctv us (r.length.symm.trans hl)]
  refine wpAny_pure (wpAny_newFunctionEnv S.nocell (fun ⟨n, _⟩ hy => S.par n (List.of_mem_zip hy).1) (fun h₁ hns hsb => ⟨lim.fresh _ hsb, ?_⟩) S.kind)
  show codeAny _ _ (.expr e (envF F f s.heap.objs.size)) _ _
  have kp : ∀ b o, s.heap.get? b = some o → h₁.get? b = some o := fun b o z => hsb.extBut b o (Nat.ne_of_lt (Heap.lt_size z)) (Heap.get?_push_of_some _ z)
  obtain ⟨t, ht, hq⟩ := hbody A outer s H vs ws Q (hr.deeper _) q
  have I : Inv (ncx CX0 P w K mg base N F f A outer s H E0) [] (startF N vs (ws.map some)) H { s with heap := h₁, toks := s.toks + (ps.zip us).length } := inv_startN S hr.hd e0 hl r C hns kp
  refine PySem.W.kla_codeExpr (wpAny_mono (ht.run [] _ _ H Q I hq) (fun v s' hz => ?_) fun e s' hz => ?_)
  · obtain ⟨w', H', J, rv, q'⟩ := hz
    exact ⟨w', H', J.os, J.bare, J.base, J.hok, rv, q'⟩
  · exact hz
/-- the addresses of the captured cells -/
def isCap (F : NF) (fr : List Str) (b : Addr) : Bool := fr.any fun y => decide (F.cl.lookup y = some b)
theorem isCap_iff {F : NF} {fr : List Str} {b : Addr} : isCap F fr b = true ↔ ∃ y ∈ fr, F.cl.lookup y = some b := by
  unfold isCap
  rw [List.any_eq_true]
  constructor
  · rintro ⟨y, hy, z⟩; exact ⟨y, hy, of_decide_eq_true z⟩
  · rintro ⟨y, hy, z⟩; exact ⟨y, hy, decide_eq_true z⟩
/-- the promise of a lambda whose captured cells are lent -/
def spLam (ps fr : List Str) (F : NF) (f : Addr) (e : Expr) (sp : List V → List V → Hp → VK → Prop) : Sp := fun vs H Q _ => vs.length = ps.length ∧ H f = some (LamO f F e) ∧ H F.c = some (CodeO F.c F.qual) ∧
  ∃ ws : List V, ws.length = fr.length ∧ (∀ (i : Nat) (y : Str), fr[i]? = some y → ∃ c v, F.cl.lookup y = some c ∧ ws[i]? = some v ∧ Lent H c v) ∧
    ∀ H0, Kx H H0 → sp ws vs H0 fun v H2 => ∀ H3, (Same H0 H2 → Same H H3) → Kx H2 H3 → Q v H3
theorem lam_fnR (S : NScope N ps fr F.scope) (hb : ∀ (pm ctv : Value) (us : List Value), us.length = ps.length → bindArgs (PySem.W.kla_fn "<lambda>" F.qual F.params e F.scope F.cl pm (.ref F.c) ctv) ⟨us, []⟩ = pure (ps.zip us))
    (inj : ∀ x y a, F.cl.lookup x = some a → F.cl.lookup y = some a → x = y) (dom : ∀ y a, F.cl.lookup y = some a → (y, NameKind.free) ∈ F.scope.names)
    (hbody : ∀ (A : Around) (outer : List Env) (s : Shared) (H : Hp) (vs ws : List V) (Q : VK), Room k (A.deeper (envF F f s.heap.objs.size)) → sp ws vs H Q → ∃ t, PE (ncx CX0 P w K mg base N F f A outer s H E0) e t ∧ t (startF N vs (ws.map some)) H Q) :
    FnR P w K mg base CX0 (k + 1) f (spLam ps fr F f e sp) := by
  intro A outer s H us vs Q E hr e0 r h
  obtain ⟨hl, hf, hc, ws, lw, hw, q⟩ := h
  -- every captured cell is lent
  have lent : ∀ b, isCap F fr b = true → ∃ o v, H b = some (CellO b o v) ∧ s.heap.get? b = some o ∧ ∃ u, o.data = .cell (some u) := fun b hb => by
    obtain ⟨y, hy, z⟩ := isCap_iff.mp hb
    obtain ⟨i, hi⟩ := List.mem_iff_getElem?.mp hy
    obtain ⟨c, v, e1, _, o, e2⟩ := hw i y hi
    rw [z] at e1
    cases e1
    obtain ⟨g, u, d, _⟩ := Lent.at e0.hok e2
    exact ⟨o, v, e2, g, u, d⟩
  have nf : isCap F fr f = false := by
    cases z : isCap F fr f with
    | false => rfl
    | true =>
      obtain ⟨o, v, _, g, u, d⟩ := lent f z
      obtain ⟨od, sl, pm, ctv, ho⟩ := lamO_at e0.hok hf
      rw [ho] at g
      cases g
      cases d
  have nc : isCap F fr F.c = false := by
    cases z : isCap F fr F.c with
    | false => rfl
    | true =>
      obtain ⟨o, v, _, g, u, d⟩ := lent F.c z
      obtain ⟨⟨oc, vs, t, h1, h2, _⟩, _⟩ := e0.hok F.c _ hc
      rw [h1] at g
      cases g
      rw [h2] at d
      cases d
  let H0 : Hp := fun b => if isCap F fr b = true then none else H b
  have in0 : ∀ {b}, isCap F fr b = true → H0 b = none := fun {b} z => if_pos z
  have out0 : ∀ {b}, isCap F fr b = false → H0 b = H b := fun {b} z => if_neg (by rw [z]; exact Bool.false_ne_true)
  have of0 : ∀ {b o}, H0 b = some o → isCap F fr b = false ∧ H b = some o := fun {b o} z => by
    cases y : isCap F fr b with
    | true => rw [in0 y] at z; cases z
    | false => rw [out0 y] at z; exact ⟨rfl, z⟩
  have none0 : ∀ {b}, H b = none → H0 b = none := fun {b} z => by
    cases y : isCap F fr b with
    | true => exact in0 y
    | false => rw [out0 y]; exact z
  have notext : ∀ {b o}, (∀ φ, o ≠ .ext φ) → H b = some o → isCap F fr b = false := fun {b o} n z => by
    cases y : isCap F fr b with
    | false => rfl
    | true =>
      obtain ⟨ob, v, e2, _⟩ := lent b y
      rw [e2] at z
      exact absurd (Option.some.inj z).symm (n _)
  have kx0 : Kx H H0 := fun b o n z => by rw [out0 (notext n z)]; exact z
  have hok0 : HOk P w H0 s.heap := fun b o z => by
    obtain ⟨y, z'⟩ := of0 z
    exact (e0.hok b o z').stay (fun _ _ _ g => g) (fun c g => kx0 c _ (fun φ a => by cases a) g) fun c xs g => kx0 c _ (fun φ a => by cases a) g
  have e1 : Env0 P w K mg base A outer s H0 := ⟨e0.frames, e0.mod, fun b o z => ⟨(e0.bs b o z).1, none0 (e0.bs b o z).2⟩, e0.bsz, e0.funs, fun b hb => none0 (e0.frf b hb), hok0, e0.bare⟩
  have dom' : ∀ y a, F.cl.lookup y = some a → y ∈ fr := fun y a z => S.free (y, .free) (dom y a z) rfl
  have C : CellsAt F.cl fr (ws.map some) s.heap H0 := by
    refine ⟨by rw [List.length_map]; exact lw, fun y c z => ?_, inj, fun i y hi => ?_⟩
    · have cap : isCap F fr c = true := isCap_iff.mpr ⟨y, dom' y c z, z⟩
      obtain ⟨o, v, _, g, u, d⟩ := lent c cap
      exact ⟨in0 cap, some u, o, g, d⟩
    · obtain ⟨c, v, e2, e3, o, e4⟩ := hw i y hi
      refine ⟨c, e2, fun v' z => ?_⟩
      rw [List.getElem?_map, e3] at z
      cases z
      obtain ⟨g, u, d, rv⟩ := Lent.at e0.hok e4
      exact ⟨u, rv, o, g, d⟩
  refine codeAny_mono (lam_run (E := E) S hb hbody hr e1 (by rw [out0 nf]; exact hf) (by rw [out0 nc]; exact hc) C r hl (q H0 kx0)) fun res s' z => ?_
  match res, z with
  | .error e, z => exact z
  | .ok .next, z => exact z
  | .ok .brk, z => exact z
  | .ok .cont, z => exact z
  | .ok (.ret u), ⟨v, H2, os, bare, un, hok2, rv, q2⟩ =>
    let H3 : Hp := fun b => if isCap F fr b = true then H b else H2 b
    have in3 : ∀ {b}, isCap F fr b = true → H3 b = H b := fun {b} z => if_pos z
    have out3 : ∀ {b}, isCap F fr b = false → H3 b = H2 b := fun {b} z => if_neg (by rw [z]; exact Bool.false_ne_true)
    have cap2 : ∀ {b}, isCap F fr b = true → H2 b = none := fun {b} z => by
      obtain ⟨o, _, _, g, _⟩ := lent b z
      exact un.free b o g (in0 z) (by simp)
    have out2 : ∀ {b o}, H2 b = some o → isCap F fr b = false := fun {b o} z => by
      cases y : isCap F fr b with
      | false => rfl
      | true => rw [cap2 y] at z; cases z
    have nfr : ∀ {b}, isCap F fr b = true → b ∉ frs outer := fun {b} z hb => by
      obtain ⟨o, _, e2, _⟩ := lent b z
      rw [e0.frf b hb] at e2
      cases e2
    have ncap : ∀ {b}, H b = none → isCap F fr b = false := fun {b} z => by
      cases y : isCap F fr b with
      | false => rfl
      | true =>
        obtain ⟨o, _, e2, _⟩ := lent b y
        rw [z] at e2
        cases e2
    have up : ∀ {b o}, H2 b = some o → H3 b = some o := fun {b o} z => by rw [out3 (out2 z)]; exact z
    refine ⟨v, H3, os, bare, ⟨fun b o g n nb _ => un.keep b o g (none0 n) nb (by simp), fun b o g n nb _ => un.slot b o g (none0 n) nb (by simp), fun b o g n _ => ?_, fun b o g _ => un.there b o g (by simp), fun b xs z => ?_, fun b o xs z => ?_, fun b ps z => ?_⟩, fun b o z => ?_, rv, q2 H3 (fun sm b o z => ?_) fun b o _ z => up z⟩
    · rw [out3 (ncap n)]; exact un.free b o g (none0 n) (by simp)
    · exact up (un.tups b xs (kx0 b _ (fun φ a => by cases a) z))
    · exact up (un.frzs b o xs (kx0 b _ (fun φ a => by cases a) z))
    · obtain ⟨more, y⟩ := un.tbls b ps (kx0 b _ (fun φ a => by cases a) z)
      exact ⟨more, up y⟩
    · cases y : isCap F fr b with
      | false =>
        rw [out3 y] at z
        exact (hok2 b o z).stay (fun _ _ _ g => g) (fun c g => up g) fun c xs g => up g
      | true =>
        obtain ⟨ob, vb, e2, g, ub, d⟩ := lent b y
        rw [in3 y, e2] at z
        cases z
        have g' := un.keep b ob g (in0 y) (nfr y) (by simp)
        obtain ⟨⟨_, u1, d1, r1⟩, _, st⟩ := e0.hok b _ e2
        exact ⟨⟨g', u1, d1, r1⟩, ⟨ob, g'⟩, st⟩
    · cases y : isCap F fr b with
      | true => rw [in3 y]; exact z
      | false => exact up (sm b o (by rw [out0 y]; exact z))
end
/-! ### calls -/
/-- f(e, ..), f a name that holds a lambda -/
def tAsk (P : Program) (w : World) (K : PySem.W.Frag) (mg : Str → Option Value) (base : Heap) (k i : Nat) (t : TA) : TE := fun σ H Q => ∃ f F b spL, σ[i]? = some (some (.ref f)) ∧ H f = some (LamO f F b) ∧ FnR P w K mg base CX0 k f spL ∧
  t σ H fun vs H1 => H1 f = some (LamO f F b) ∧ spL vs H1 Q E0
/-- x(e, ..), one of the arguments a lambda made here: its captured cells are lent to the call -/
def tLend (cl : List (Str × Addr)) (fr : List Str) (js : List Nat) (sp : Sp) (t : TA) : TE := fun σ H Q => t σ H fun vs H1 => ∀ Hl : Hp, Same H1 Hl → (∀ (i : Nat) (y : Str) (v : V), fr[i]? = some y → (js.map (slotAt σ))[i]? = some (some v) → ∃ a, cl.lookup y = some a ∧ Lent Hl a v) →
  sp vs Hl (fun v H2 => Same Hl H2 ∧ ∀ H3, Same H1 H3 → Kx H2 H3 → Q v H3) E0
section
variable {X : Cx} {k i : Nat} {x : Str} {p pos : Pos} {e : Expr} {es : List Expr} {t : TA} {sp : Sp} {ps : List Str}
theorem lamAt_of {pins : List (Addr × Obj)} {σ : L2.St} {H : Hp} {s : Shared} {f : Addr} {F : NF} {b : Expr} (I : Inv X pins σ H s) (z : H f = some (LamO f F b)) : PySem.W.FnAt f s.heap := by
  obtain ⟨od, sl, pm, ctv, ho⟩ := lamO_at I.hok z
  exact ⟨_, od, _, sl, ho⟩
theorem pe_ask (hr : Room k X.A) (hN : X.N[i]? = some x) (hv : Vis X.env.scope x) (ha : PA X (e :: es) t) (hdb : (x == ("__debug__" : Str)) = false := by decide) (hcd : (x == ("__classdict__" : Str)) = false := by decide)
    (he : starEach (e :: es) X.env = (false, eval e X.env) :: starEach es X.env := by rfl) (hpl : (backTo pos (starEach es X.env)).any (·.1) = false := by rfl) :
    PE X (.Call (.Name x p) (e :: es) [] pos) (tAsk X.prog X.w X.K X.mg X.base k i t) := by
  refine ⟨fun pins s σ H Q I h => ?_⟩
  obtain ⟨f, F, b, spL, hs, hf, R, ht⟩ := h
  refine wpAny_Call_Name_kw (thn ((pe_var (pos := p) hN hv hdb hcd).run pins s σ H (fun v H1 => v = .ref f ∧ H1 = H) I ⟨.ref f, hs, rfl, rfl⟩) fun u s1 ⟨v, H1, I1, r1, q1⟩ => ?_)
  obtain ⟨ev, eH⟩ := q1
  subst ev
  rw [eH] at I1
  obtain rfl : u = Value.ref f := r1
  refine PySem.W.callWith_F (first := []) (lamAt_of I1 hf) (thn (ha.run pos pins s1 σ H _ I1 ht) fun us s2 ⟨vs, H2, I2, r, h1, q⟩ => ⟨lamAt_of I2 h1, ?_⟩) he hpl
  exact wpAny_call (run_fnR R hr pass0 I2 r q)
/-- what is lent: the cells of the names fr -/
def lentAt (h : Heap) (H : Hp) (cl : List (Str × Addr)) (fr : List Str) (ws : List (Option V)) (b : Addr) (o : Obj) (v : V) : Prop :=
  h.get? b = some o ∧ H b = none ∧ (∃ u, o.data = .cell (some u) ∧ RelV v u) ∧ ∃ (i : Nat) (y : Str), fr[i]? = some y ∧ ws[i]? = some (some v) ∧ cl.lookup y = some b
open Classical in
noncomputable def lendH (h : Heap) (H : Hp) (cl : List (Str × Addr)) (fr : List Str) (ws : List (Option V)) : Hp := fun b =>
  if z : ∃ o v, lentAt h H cl fr ws b o v then some (CellO b z.choose z.choose_spec.choose) else H b
theorem run_lend {pins : List (Addr × Obj)} {σ : L2.St} {H : Hp} {s : Shared} {Q : VK} {f : Addr} {fd : FuncData} {us : List Value} {vs : List V} {cl : List (Str × Addr)} {fr : List Str} {js : List Nat} (F : FnG X.prog X.w X.K X.mg X.base CX0 k f fd ps sp) (hr : Room k X.A) (gd : X.A.guards = some [])
    (hb : Binds X.K fd ps []) (cp : Caps X cl fr js) (hfn : ∀ y ∈ fr, X.fn y = true) (nd : fr.Nodup) (I : Inv X pins σ H s) (r : Vals vs us)
    (h : ∀ Hl : Hp, Same H Hl → (∀ (i : Nat) (y : Str) (v : V), fr[i]? = some y → (js.map (slotAt σ))[i]? = some (some v) → ∃ a, cl.lookup y = some a ∧ Lent Hl a v) → sp vs Hl (fun v H2 => Same Hl H2 ∧ ∀ H3, Same H H3 → Kx H2 H3 → Q v H3) E0) :
    wpAny (model X.prog X.w) X.A (call (.ref f) us) (EP X pins σ Q) X.xe s := by
  have C := cells_of I cp
  have HL : ∃ Hl : Hp, (∀ b o, H b = some o → Hl b = some o) ∧ (∀ b, Hl b = H b ∨ ∃ o v, lentAt s.heap H cl fr (js.map (slotAt σ)) b o v ∧ Hl b = some (CellO b o v)) ∧
      (∀ (i : Nat) (y : Str) (v : V), fr[i]? = some y → (js.map (slotAt σ))[i]? = some (some v) → ∃ a, cl.lookup y = some a ∧ Lent Hl a v) := by
    refine ⟨lendH s.heap H cl fr (js.map (slotAt σ)), fun b o z => ?_, fun b => ?_, fun i y v e1 e2 => ?_⟩
    · unfold lendH
      rw [dif_neg]
      · exact z
      · rintro ⟨o', v, _, n, _⟩
        rw [z] at n
        cases n
    · unfold lendH
      by_cases z : ∃ o v, lentAt s.heap H cl fr (js.map (slotAt σ)) b o v
      · rw [dif_pos z]
        exact .inr ⟨_, _, z.choose_spec.choose_spec, rfl⟩
      · rw [dif_neg z]
        exact .inl rfl
    · obtain ⟨c, hc, hv⟩ := C.has i y e1
      obtain ⟨u, ru, o, go, du⟩ := hv v e2
      have z : ∃ o v, lentAt s.heap H cl fr (js.map (slotAt σ)) c o v := ⟨o, v, go, (C.all y c hc).1, ⟨u, du, ru⟩, i, y, e1, e2, hc⟩
      refine ⟨c, hc, z.choose, ?_⟩
      unfold lendH
      rw [dif_pos z]
      obtain ⟨_, _, _, i', y', e1', e2', hc'⟩ := z.choose_spec.choose_spec
      have ey := C.inj _ _ _ hc hc'
      rw [← ey] at e1'
      have ei : i = i' := nodup_ix nd e1 e1'
      rw [← ei, e2] at e2'
      rw [← Option.some.inj (Option.some.inj e2')]
  obtain ⟨Hl, sm, cs, ln⟩ := HL
  have cellNone : ∀ {b o v}, lentAt s.heap H cl fr (js.map (slotAt σ)) b o v → X.s_0.heap.objs.size ≤ b ∧ b ≠ X.env.locals := fun {b o v} z => by
    obtain ⟨_, _, _, i, y, e1, _, e3⟩ := z
    have ec := cp.sub y b e3
    exact ⟨I.ok.cab y b (hfn y (List.mem_of_getElem? e1)) ec, I.cne y b ec⟩
  have bsl : ∀ b, (∃ o, X.s_0.heap.get? b = some o) ∨ b = X.env.locals → H b = none → Hl b = none := fun b hb n => by
    rcases cs b with z | ⟨o, v, z, _⟩
    · rw [z]; exact n
    · obtain ⟨l1, l2⟩ := cellNone z
      rcases hb with ⟨ob, g⟩ | g
      · exact absurd (Nat.lt_of_lt_of_le (Heap.lt_size g) l1) (Nat.lt_irrefl _)
      · exact absurd g l2
  have e0 := I.env0
  have hokl : HOk X.prog X.w Hl s.heap := fun b o z => by
    rcases cs b with y | ⟨ob, v, y, y2⟩
    · rw [y] at z
      exact (I.hok b o z).stay (fun _ _ _ g => g) (fun c g => sm c _ g) fun c xs g => sm c _ g
    · rw [y2] at z
      cases z
      obtain ⟨g, _, ⟨u, d, ru⟩, _⟩ := y
      exact ⟨⟨g, u, d, ru⟩, ⟨ob, g⟩, fun h1 h2 ⟨a1, a2⟩ st => ⟨st _ a1, a2⟩⟩
  have e1 : Env0 X.prog X.w X.K X.mg X.base X.A X.stack s Hl := by
    refine ⟨e0.frames, e0.mod, fun b o z => ⟨(e0.bs b o z).1, bsl b (.inl ⟨o, (I.ok.bs b o z).1⟩) (e0.bs b o z).2⟩, e0.bsz, e0.funs, fun b hb => ?_, hokl, e0.bare⟩
    rcases List.mem_cons.mp (I.stkSub b hb) with z | z
    · exact bsl b (.inr z) (e0.frf b hb)
    · obtain ⟨_, o, ho, _⟩ := I.ok.funs.mem z
      exact bsl b (.inl ⟨o, ho⟩) (e0.frf b hb)
  have hq := h Hl sm ln
  have hl : us.length = ps.length := r.length.symm.trans (F.len _ _ _ _ hq)
  have hbs := hb s us I.kIn (by rw [List.append_nil]; exact hl)
  rw [List.append_nil] at hbs
  refine wpAny_call (codeAny_mono (F.run X.A X.stack s Hl ⟨us, []⟩ us vs _ E0 hr gd e1 hbs r hq) fun res s' z => ?_)
  match res, z with
  | .error e, z => exact z.elim
  | .ok .next, z => exact z.elim
  | .ok .brk, z => exact z.elim
  | .ok .cont, z => exact z.elim
  | .ok (.ret u), ⟨v, H2, os, bare, un, hok2, rv, same2, q2⟩ =>
    refine I.after ?_
    let H3 : Hp := fun b => if ((H b).isNone && (Hl b).isSome) = true then none else H2 b
    have some3 : ∀ {b o}, H b = some o → H3 b = H2 b := fun {b o} z => if_neg (by rw [z]; simp)
    have none3 : ∀ {b}, H b = none → Hl b = none → H3 b = H2 b := fun {b} z y => if_neg (by rw [z, y]; simp)
    have lent3 : ∀ {b o v}, H b = none → Hl b = some (CellO b o v) → H3 b = none := fun {b o v} z y => if_pos (by rw [z, y]; simp)
    have kx3 : Kx H2 H3 := fun b o n z => by
      cases hb : H b with
      | some ob => rw [some3 hb]; exact z
      | none =>
        cases hlb : Hl b with
        | none => rw [none3 hb hlb]; exact z
        | some ol =>
          rcases cs b with y | ⟨o', v', y, y2⟩
          · rw [y, hb] at hlb; cases hlb
          · rw [same2 b _ y2] at z
            cases z
            exact absurd rfl (n _)
    have same3 : Same H H3 := fun b o z => by rw [some3 z]; exact same2 b o (sm b o z)
    have cell2 : ∀ {b o v}, Hl b = some (CellO b o v) → s'.heap.get? b = some o := fun {b o v} z => (Lent.at hok2 (same2 _ _ z)).1
    refine ⟨v, H3, os, bare, ⟨fun b o g n nb _ => ?_, fun b o g n nb _ => ?_, fun b o g n _ => ?_, fun b o g _ => un.there b o g (by simp), fun b xs z => same3 b _ z, fun b o xs z => same3 b _ z, fun b qs z => ⟨#[], by rw [same3 b _ z]; simp⟩⟩, fun b o z => ?_, rv, q2 H3 same3 kx3⟩
    · rcases cs b with y | ⟨o', v', y, y2⟩
      · exact un.keep b o g (by rw [y]; exact n) nb (by simp)
      · have g2 := cell2 y2
        rw [y.1] at g
        cases g
        exact g2
    · rcases cs b with y | ⟨o', v', y, y2⟩
      · exact un.slot b o g (by rw [y]; exact n) nb (by simp)
      · have g2 := cell2 y2
        rw [y.1] at g
        cases g
        exact ⟨o.slots, g2⟩
    · rcases cs b with y | ⟨o', v', y, y2⟩
      · rw [none3 n (by rw [y]; exact n)]
        exact un.free b o g (by rw [y]; exact n) (by simp)
      · exact lent3 n y2
    · have z2 : H2 b = some o := by
        have z' : (if ((H b).isNone && (Hl b).isSome) = true then none else H2 b) = some o := z
        split at z'
        · cases z'
        · exact z'
      exact (hok2 b o z2).stay (fun _ _ _ g => g) (fun c g => kx3 c _ (fun φ a => by cases a) g) fun c xs g => kx3 c _ (fun φ a => by cases a) g
theorem pe_lendG {cl : List (Str × Addr)} {fr : List Str} {js : List Nat} (D : DfG X.prog X.w X.K X.mg X.base x k ps sp) (hr : Room k X.A) (gd : X.A.guards = some []) (hg : Gl X x) (cp : X.Ok → Caps X cl fr js) (hfn : ∀ y ∈ fr, X.fn y = true) (nd : fr.Nodup) (ha : PA X (e :: es) t)
    (hdb : (x == ("__debug__" : Str)) = false := by decide) (he : starEach (e :: es) X.env = (false, eval e X.env) :: starEach es X.env := by rfl) (hpl : (backTo pos (starEach es X.env)).any (·.1) = false := by rfl) :
    PE X (.Call (.Name x p) (e :: es) [] pos) (tLend cl fr js sp t) := by
  obtain ⟨f, fd, F, m, kp, b⟩ := D
  refine ⟨fun pins s σ H Q I h => ?_⟩
  refine wpAny_Call_Name_kw (ld_glob I hg m ?_ hdb)
  refine PySem.W.callWith_K (h₀ := X.base) I.ok.mod.kin kp (thn (ha.run pos pins s σ H _ I h) fun us s1 ⟨vs, H1, I1, r, q⟩ => ⟨I1.kIn, ?_⟩) he hpl
  exact run_lend F hr gd b (cp I1.ok) hfn nd I1 r q
end
end Cor

set_option Elab.async false
set_option linter.all false
set_option maxRecDepth 100000
set_option maxHeartbeats 2000000
/-! The law's call, with tables of code objects, where no repr runs. -/
namespace Cor
open PySem PySem.Spec PyProof.Rows L2 LamX NdefX
theorem law_callGT {P : Program} {w : World} {K : PySem.W.Frag} {mg mb : Str → Option Value} {k : Nat} {fa a : Addr} {cs : List (Addr × Addr)} {fd : FuncData} {x : Str} {sp : Sp} {s1 : Shared} {vs : List Value} {ns : List Int}
    (KX : K.In s1.heap) (hns : s1.heap.Ns mainGlobals mg) (hb : s1.heap.Ns builtinsNs mb) (hbb : ∀ x : Str, x ≠ "__name__" → mb x = bootBuiltins x) (hlim : s1.heap.NoLimit) (hg : s1.gens = #[])
    (tabs : ∀ p ∈ cs, s1.heap.get? p.2 = some { cls := .none, data := .fields #[] }) (notK : ∀ p ∈ cs, K.lookup p.2 = none) (heads : ∀ p ∈ cs, PySem.W.CodeHd s1.heap p.1 p.2)
    (bmod : ∃ (bm : Addr) (ob : Obj), mg "__builtins__" = some (.ref bm) ∧ bm ≠ builtinsNs ∧ s1.heap.get? bm = some ob ∧ ob.cls = .type "module" ∧ ob.dict = some builtinsNs ∧ ob.data = .plain)
    (ha : s1.heap.get? a = some { cls := .type "list", data := .seq vs.toArray }) (hi : IntsAre vs ns) (hl : ns.length ≤ sizeLine) (hr : Room k callerA)
    (F : ∀ base : Heap, K.In base → base.Ns mainGlobals mg → (∀ p ∈ cs, TabB base mg p.1 p.2) → FnG P w K mg base CX0 k fa fd [x] sp) (hbind : ∀ (s : Shared) (u : Value), BindsTo s fd ⟨[u], []⟩ [(x, u)])
    (hsp : ∀ H : Hp, (∀ p ∈ cs, H p.2 = some (.tbl #[])) → SqL K H a (ns.map V.int) → sp [.ref a] H (fun v _ => v = .bl true) fun _ _ _ => False) :
    codeAny (model P w) callerA (.call (.ref fa) ⟨[.ref a], []⟩) (fun r s' => r = .ok (.ret (.bool true)) ∧ OldK s1.heap s'.heap ∧ s'.os = s1.os ∧ AllBare s'.gens) s1 := by
  have rv := vals_ints hi
  have lenV := hi.length
  let L : HO := .frz { cls := .type "list", data := .seq vs.toArray } (.lst (ns.map V.int))
  let isT : Addr → Bool := fun b => cs.any fun p => decide (p.2 = b)
  have isT_of : ∀ {b}, isT b = true → ∃ p ∈ cs, p.2 = b := fun {b} z => by
    obtain ⟨p, hp, e⟩ := List.any_eq_true.mp z
    exact ⟨p, hp, of_decide_eq_true e⟩
  have isT_mem : ∀ p ∈ cs, isT p.2 = true := fun p hp => List.any_eq_true.mpr ⟨p, hp, decide_eq_true rfl⟩
  have tabAt : ∀ {b}, isT b = true → s1.heap.get? b = some { cls := .none, data := .fields #[] } := fun {b} z => by
    obtain ⟨p, hp, e⟩ := isT_of z
    rw [← e]
    exact tabs p hp
  have nTa : isT a = false := by
    cases z : isT a with
    | false => rfl
    | true =>
      have e := tabAt z
      rw [ha] at e
      have y : Data.seq vs.toArray _ = Data.fields #[] := congrArg Obj.data (Option.some.inj e)
      cases y
  let H : Hp := fun b => if isT b = true then some (.tbl #[]) else if b = a ∧ K.lookup a = none then some L else none
  have inH : ∀ b u, H b = some u → (isT b = true ∧ u = .tbl #[]) ∨ (b = a ∧ K.lookup a = none ∧ u = L) := fun b u z => by
    cases y : isT b with
    | true =>
      have z2 : some (HO.tbl #[]) = some u := (if_pos y).symm.trans z
      exact .inl ⟨rfl, (Option.some.inj z2).symm⟩
    | false =>
      have y' : ¬ isT b = true := by rw [y]; exact Bool.false_ne_true
      by_cases c : b = a ∧ K.lookup a = none
      · have z2 : some L = some u := (if_pos c).symm.trans ((if_neg y').symm.trans z)
        exact .inr ⟨c.1, c.2, (Option.some.inj z2).symm⟩
      · have z2 : none = some u := (if_neg c).symm.trans ((if_neg y').symm.trans z)
        cases z2
  have hT : ∀ p ∈ cs, H p.2 = some (.tbl #[]) := fun p hp => if_pos (isT_mem p hp)
  have hok : HOk P w H s1.heap := fun b u z => by
    rcases inH b u z with ⟨y, rfl⟩ | ⟨rfl, _, rfl⟩
    · exact tabAt y
    · exact ⟨ha, by rw [List.length_map]; exact hl, vs, _, rv, ha⟩
  have hS : SqL K H a (ns.map V.int) := by
    cases hk : K.lookup a with
    | none => exact .inl (.inr ⟨{ cls := .type "list", data := .seq vs.toArray }, (if_neg (by rw [nTa]; exact Bool.false_ne_true)).trans (if_pos ⟨rfl, hk⟩)⟩)
    | some o =>
      have e := KX a o hk
      rw [ha] at e
      cases e
      exact .inr ⟨_, vs.toArray, _, hk, rfl, rfl, rfl, by rw [List.size_toArray, lenV]; exact hl, by simpa using rv⟩
  -- what is neither a list nor an empty table is not tracked
  have plain : ∀ {b : Addr} {o : Obj}, s1.heap.get? b = some o → (∀ vs n, o.data ≠ .seq vs n) → o.data ≠ .fields #[] → H b = none := fun {b o} e n1 n2 => by
    cases z : H b with
    | none => rfl
    | some u =>
      rcases inH b u z with ⟨y, _⟩ | ⟨rfl, _, _⟩
      · rw [tabAt y] at e
        cases e
        exact absurd rfl n2
      · rw [ha] at e
        cases e
        exact absurd rfl (n1 _ _)
  have nsK : ∀ {b : Addr} {m : Str → Option Value}, s1.heap.Ns b m → (hidT s1.heap H).Ns b m := fun {b m} ⟨o, es, ep, e, dd, r⟩ => ⟨o, es, ep, hidT_get e (plain e (fun _ _ y => by rw [dd] at y; cases y) fun y => by rw [dd] at y; cases y), dd, r⟩
  have kb : K.In (hidT s1.heap H) := fun b o e => hidT_get (KX b o e) (by
    cases z : H b with
    | none => rfl
    | some u =>
      rcases inH b u z with ⟨y, _⟩ | ⟨rfl, h2, _⟩
      · obtain ⟨p, hp, ep⟩ := isT_of y
        rw [← ep, notK p hp] at e
        cases e
      · rw [h2] at e
        cases e)
  have md : Mod K mg (hidT s1.heap H) := ⟨kb, nsK hns, ⟨mb, nsK hb, hbb⟩, let ⟨mc, h1, h2⟩ := hlim; ⟨mc, nsK h1, h2⟩⟩
  have TB : ∀ p ∈ cs, TabB (hidT s1.heap H) mg p.1 p.2 := fun p hp => by
    have tp := tabs p hp
    refine ⟨?_, ?_, fun z => ?_⟩
    · obtain ⟨o, us, file, tf, flags, tg, inF, text, tt, e1, r1, r2, r3, rest⟩ := heads p hp
      exact ⟨o, us, file, tf, flags, tg, inF, text, tt, hidT_get e1 (plain e1 (fun _ _ y => by rw [r2] at y; cases y) fun y => by rw [r2] at y; cases y; simp at r3), r1, r2, r3, rest⟩
    · obtain ⟨bm, ob, b1, b2, b3, b4, b5, b6⟩ := bmod
      refine ⟨bm, ob, b1, b2, fun q => ?_, fun q => ?_, hidT_get b3 (plain b3 (fun _ _ y => by rw [b6] at y; cases y) fun y => by rw [b6] at y; cases y), b4, b5, b6⟩
      · obtain ⟨o, es, ep, e, dd, _⟩ := hns
        rw [q, e] at b3
        cases b3
        rw [dd] at b6
        cases b6
      · rw [q, tp] at b3
        cases b3
        cases b6
    · obtain ⟨o, es, ep, e, dd, _⟩ := hns
      rw [z, tp] at e
      cases e
      cases dd
  have e0 : Env0 P w K mg (hidT s1.heap H) callerA [] s1 H := ⟨rfl, md, fun b o e => of_hidT e, Nat.le_of_eq (hidT_size _ _), trivial, fun b hb => absurd (show b ∈ ([] : List Addr) from hb) (by simp), hok, .of_eq hg⟩
  refine codeAny_mono ((F _ kb (nsK hns) TB).run callerA [] s1 H ⟨[.ref a], []⟩ [.ref a] [.ref a] _ _ hr rfl e0 (hbind s1 (.ref a)) (.cons rfl .nil) (hsp H hT hS)) fun r s' h => ?_
  match r, h with
  | .error e, h => exact h.elim
  | .ok .next, h => exact h.elim
  | .ok .brk, h => exact h.elim
  | .ok .cont, h => exact h.elim
  | .ok (.ret u), ⟨v, H2, os, bare, un, hok2, r2, q⟩ =>
    obtain rfl : v = .bl true := q
    obtain rfl : u = Value.bool true := r2
    have stays : ∀ b o, isT b = false → s1.heap.get? b = some o → s'.heap.get? b = some o := fun b o nb e => by
      cases z : H b with
      | none => exact un.keep b o e z (by intro y; exact absurd (show b ∈ ([] : List Addr) from y) (by simp)) (by simp)
      | some u =>
        rcases inH b u z with ⟨y, _⟩ | ⟨rfl, _, rfl⟩
        · rw [nb] at y; cases y
        · have z2 := un.frzs b _ _ z
          obtain ⟨e2, _⟩ := hok2 b _ z2
          rw [ha] at e
          cases e
          exact e2
    have grown : ∀ b, isT b = true → ∃ more : Array Value, s'.heap.get? b = some { cls := .none, data := .fields more } := fun b y => by
      obtain ⟨p, hp, ep⟩ := isT_of y
      obtain ⟨more, z⟩ := un.tbls p.2 #[] (hT p hp)
      rw [← ep]
      exact ⟨_, hok2 p.2 _ z⟩
    refine ⟨rfl, ⟨fun b o e => ?_, fun b o e => ?_⟩, os, bare⟩
    · cases y : isT b with
      | false => exact .inl (stays b o y e)
      | true =>
        obtain ⟨p, hp, ep⟩ := isT_of y
        obtain ⟨more, hm⟩ := grown b y
        rw [tabAt y] at e
        cases e
        refine .inr (.inl ⟨?_, rfl, #[], more, rfl, by rw [Array.empty_append]; exact hm⟩)
        rw [← ep]
        exact ((heads p hp).tab (tabs p hp)).isCodeTable
    · cases y : isT b with
      | false => exact ⟨o, stays b o y e⟩
      | true =>
        obtain ⟨more, hm⟩ := grown b y
        exact ⟨_, hm⟩
/-- what is known of the law at the head's heap -/
def LawG (l : PySem.W.OpenLaw) (w : World) (K : PySem.W.Frag) (k n : Nat) (x : Str) (mg : Str → Option Value) (fa : Addr) (h : Heap) : Prop :=
  ∃ (fd : FuncData) (cs : List (Addr × Addr)) (sp : Sp), (∀ p ∈ cs, h.get? p.2 = some { cls := .none, data := .fields #[] }) ∧ (∀ p ∈ cs, K.lookup p.2 = none) ∧ (∀ p ∈ cs, PySem.W.CodeHd h p.1 p.2) ∧ (∀ (s : Shared) (u : Value), BindsTo s fd ⟨[u], []⟩ [(x, u)]) ∧
    (∀ (H : Hp) (a : Addr) (ns : List Int), ns.length ≤ n → (∀ z ∈ ns, Builtin.Int.intBits z ≤ 1048576) → (∀ p ∈ cs, H p.2 = some (.tbl #[])) → SqL K H a (ns.map V.int) → sp [.ref a] H (fun v _ => v = .bl true) fun _ _ _ => False) ∧
    ∀ base : Heap, K.In base → base.Ns mainGlobals mg → (∀ p ∈ cs, TabB base mg p.1 p.2) → FnG l.prog w K mg base CX0 k fa fd [x] sp
theorem walk_ofGT {l : PySem.W.OpenLaw} {n k : Nat} {q : Program} {loose : List Str} {XP : (Str → Option Value) → Heap → Prop} {YP : World → Heap → Prop} {d : DefRec} {K : Params → PySem.W.Frag} {x : Str}
    (hn : l.most = some n) (hn2 : n ≤ sizeLine) (hdf : d.params.defaults = []) (hr : Room k callerA) (hY : ∀ (w : World) (h : Heap), YP w h → (K w.params).In h)
    (F : ∀ (w : World) (mg : Str → Option Value) (fa : Addr) (h : Heap), YP w h → (K w.params).In h → h.Ns mainGlobals mg → mg d.name = some (.ref fa) → LawG l w (K w.params) k n x mg fa h) :
    PySem.W.WalkO q loose XP YP l.row.toRowW d [] (fun f vs => PySem.call f vs) := by
  refine Att.attach_callB hn hdf fun w s0 s1 mg mb fa o pm cd doc a vs ns G Y ho hd hcd hmg hobj hints hlen hbits hg => ?_
  have KX := hY w _ Y
  obtain ⟨fd, cs, sp, hT, nT, C, hb, hsp, hF⟩ := F w mg fa _ Y KX G.T.g hmg
  exact law_callGT KX G.T.g G.T.b G.T.builtins G.T.nolimit hg hT nT C G.T.bmain hobj hints (Nat.le_trans hlen hn2) hr hF hb fun H hH hS => hsp H a ns hlen hbits hH hS
end Cor

set_option Elab.async false
set_option linter.all false
set_option maxRecDepth 100000
set_option maxHeartbeats 2000000
namespace Cor
open PySem PySem.Spec PyProof.Rows L2 LamX NdefX
/-- x(e1, e2, lambda ..): the lambda is made, its captured cells are lent to the call -/
def tLendLam (T : List (Addr × Str)) (fr : List Str) (js : List Nat) (sp : Sp) (body : Expr) (mk : Addr → NF) (t1 t2 : TE) : TE := fun σ H Q => t1 σ H fun v1 H1 => t2 σ H1 fun v2 H2 => Tabs T H2 ∧ ∀ (f c' : Addr) (H3 : Hp), ExtN H2 H3 → Tabs T H3 → H2 f = none → H3 f = some (LamO f (mk c') body) → H3 c' = some (CodeO c' (mk c').qual) →
  (∀ x y a, (mk c').cl.lookup x = some a → (mk c').cl.lookup y = some a → x = y) → (∀ y a, (mk c').cl.lookup y = some a → (y, NameKind.free) ∈ (mk c').scope.names) →
  ∀ Hl : Hp, Same H3 Hl → (∀ (i : Nat) (y : Str) (v : V), fr[i]? = some y → (js.map (slotAt σ))[i]? = some (some v) → ∃ a, (mk c').cl.lookup y = some a ∧ Lent Hl a v) →
    sp [v1, v2, .ref f] Hl (fun v H4 => Same Hl H4 ∧ ∀ H5, Same H3 H5 → Kx H4 H5 → Q v H5) E0
section
variable {X : Cx} {k : Nat} {x : Str} {p pos lpos : Pos} {e1 e2 : Expr} {t1 t2 : TE} {sp : Sp} {ps : List Str} {T : List (Addr × Str)} {c P : Addr} {params : Arguments} {body : Expr} {scope : Scope} {fr : List Str} {js : List Nat}
theorem pe_lendLam (D : DfG X.prog X.w X.K X.mg X.base x k ps sp) (hr : Room k X.A) (gd : X.A.guards = some []) (hg : Gl X x) (TB : TabB X.base X.mg c P) (hcode : X.env.code = .ref c) (hm : (P, X.env.qual ++ "<lambda>") ∈ T) (hu : ∀ p ∈ T, p.1 = P → p.2 = X.env.qual ++ "<lambda>")
    (hB : ndefB X.env.scope scope fr = true) (hjs : js.map (fun j => X.N[j]?) = fr.map some) (hfn : ∀ y ∈ fr, X.fn y = true) (nd : fr.Nodup) (h1 : PE X e1 t1) (h2 : PE X e2 t2) (hdef : defaultsOf params X.env = ([], []) := by rfl)
    (hdb : (x == ("__debug__" : Str)) = false := by decide) (st1 : starEach [e1, e2, .Lambda params body scope lpos] X.env = (false, eval e1 X.env) :: starEach [e2, .Lambda params body scope lpos] X.env := by rfl)
    (st2 : starEach [e2, .Lambda params body scope lpos] X.env = (false, eval e2 X.env) :: starEach [.Lambda params body scope lpos] X.env := by rfl) (st3 : starEach [.Lambda params body scope lpos] X.env = (false, eval (.Lambda params body scope lpos) X.env) :: starEach [] X.env := by rfl)
    (hpl : (backTo pos (starEach [e2, .Lambda params body scope lpos] X.env)).any (·.1) = false := by rfl) :
    PE X (.Call (.Name x p) [e1, e2, .Lambda params body scope lpos] [] pos) (tLendLam T fr js sp body (lamNF X params scope) t1 t2) := by
  have lam : PE X (.Lambda params body scope lpos) (tLamV T body (lamNF X params scope)) := pe_lamV TB hcode hm hu (ndef_free hB) hdef
  obtain ⟨f0, fd, F, m, kp, b⟩ := D
  refine ⟨fun pins s σ H Q I h => ?_⟩
  refine wpAny_Call_Name_kw (ld_glob I hg m ?_ hdb)
  have cps : ∀ Y : X.Ok, Caps X (cloFrom X.env.cells scope.names []) fr js := fun Y => Caps.made Y (ndef_free hB) (ndef_fr hB) hjs
  have ha := pa_cons h1.up (pa_cons h2.up (pa_cons lam.up pa_nil st3) st2) st1
  refine PySem.W.callWith_K (h₀ := X.base) I.ok.mod.kin kp (thn (ha.run pos pins s σ H (fun vs H3 => ∀ Hl : Hp, Same H3 Hl → (∀ (i : Nat) (y : Str) (v : V), fr[i]? = some y → (js.map (slotAt σ))[i]? = some (some v) → ∃ a, (cloFrom X.env.cells scope.names []).lookup y = some a ∧ Lent Hl a v) →
      sp vs Hl (fun v H4 => Same Hl H4 ∧ ∀ H5, Same H3 H5 → Kx H4 H5 → Q v H5) E0) I ?_) fun us s1 ⟨vs, H1, I1, r, q⟩ => ⟨I1.kIn, ?_⟩) st1 hpl
  · refine ⟨_, h, fun v1 H1 z1 => ⟨_, z1, fun v2 H2 z2 => ⟨fun v H3 => ∀ Hl : Hp, Same H3 Hl → (∀ (i : Nat) (y : Str) (v : V), fr[i]? = some y → (js.map (slotAt σ))[i]? = some (some v) → ∃ a, (cloFrom X.env.cells scope.names []).lookup y = some a ∧ Lent Hl a v) →
      sp [v1, v2, v] Hl (fun v H4 => Same Hl H4 ∧ ∀ H5, Same H3 H5 → Kx H4 H5 → Q v H5) E0, ⟨z2.1, fun f c' H3 eN T3 f0 hf hc inj dom => z2.2 f c' H3 eN T3 f0 hf hc inj dom⟩, fun v H3 z => z⟩⟩⟩
  · exact run_lend F hr gd b (cps I1.ok) hfn nd I1 r q
end
/-- all but things known by what is true of them, and tables -/
def Kz (H H' : Hp) : Prop := ∀ b o, (∀ φ, o ≠ .ext φ) → (∀ ps, o ≠ .tbl ps) → H b = some o → H' b = some o
theorem Kx.kz {H H' : Hp} (h : Kx H H') : Kz H H' := fun b o n _ e => h b o n e
theorem _root_.LamX.ExtN.kz {H H' : Hp} (h : ExtN H H') : Kz H H' := fun b o _ n e => h b o e n
theorem _root_.L2.Same.kz {H H' : Hp} (h : Same H H') : Kz H H' := fun b o _ _ e => h b o e
theorem Kz.trans {H H1 H2 : Hp} (a : Kz H H1) (b : Kz H1 H2) : Kz H H2 := fun c o n m e => b c o n m (a c o n m e)
theorem Kz.refl {H : Hp} : Kz H H := fun _ _ _ _ e => e
theorem Tv.kz {H H' : Hp} (k : Kz H H') : ∀ {t : Tr} {v : V}, Tv H v t → Tv H' v t
  | .lf _, _, h => by rw [h.lf_of]; exact .lf _
  | .nd n ty to, _, h => by
    obtain ⟨a, y, o, rfl, h1, h2, h3⟩ := h.nd_of
    exact .nd (k _ _ (fun _ z => by cases z) (fun _ z => by cases z) h1) (Tv.kz k h2) (Tv.kz k h3)
theorem Tabs.same {T : List (Addr × Str)} {H H' : Hp} (t : Tabs T H) (s : Same H H') : Tabs T H' := t.ext s
/-! ### a def whose code object is known -/
def fnCode (K : PySem.W.Frag) (f : Addr) : Option Value := match K.lookup f with
  | some ⟨_, _, .func fd, _⟩ => some fd.code
  | _ => none
section
variable {P : Program} {w : World} {K : PySem.W.Frag} {mg : Str → Option Value} {base : Heap}
theorem okGC {x qual : Str} {st : Stmt} {f c : Addr} {fd : FuncData} {N ps : List Str} {k : Nat} {sp : Sp} (F : Fun K x qual st f fd) (hc : fnCode K f = some (.ref c)) (S : FnScope N ps (defScope st)) (len : ∀ vs H Q E, sp vs H Q E → vs.length = ps.length)
    (hbody : ∀ (A : Around) (outer : List Env) (s : Shared) (H : Hp) (vs : List V) (Q : VK) (E : XK), Room k (A.deeper (envOfC qual (defScope st) s.heap.objs.size f (.ref c))) → A.guards = some [] → sp vs H Q E →
      ∃ t, PSs (cxOf CX0 P w K mg base N qual (defScope st) f (.ref c) A outer s H E).nox (defBody st) t ∧ t { nx := fun _ H' => Q .non H', rt := Q } (start N vs) H) : FnG P w K mg base CX0 (k + 1) f fd ps sp := by
  obtain ⟨oc, od, kV, doc, pm, an, cdv, ct, osl, rfl, lk, hcd⟩ := F.ex
  unfold fnCode at hc
  rw [lk] at hc
  obtain rfl : cdv = .ref c := Option.some.inj hc
  refine fn_ofG lk hcd S len fun A outer s H vs Q E hr gd hsp => ?_
  obtain ⟨t, h, q⟩ := hbody A outer s H vs Q E hr gd hsp
  exact ⟨t, h.nox, q⟩
end
end Cor

set_option Elab.async false
set_option linter.all false
set_option maxRecDepth 100000
set_option maxHeartbeats 1000000
/-! Dicts of words, as lists of pairs; trees in heaps without their cells. -/
namespace Cor
open PySem PySem.Spec PyProof.Rows L2
def kvW (kv : Int × Bool) : Key × V := (Sum.inl kv.1, V.bl kv.2)
/-- the words ws, by number -/
def lookW (ws : List (Int × Bool)) : Int → Option Bool := fun n => ws.lookup n
theorem val_kvW : ∀ (ws : List (Int × Bool)) (n : Int), valV (ws.map kvW) (Sum.inl n) = (lookW ws n).map V.bl
  | [], n => rfl
  | kv :: ws, n => by
    unfold lookW
    rw [List.map_cons, List.lookup_cons]
    by_cases e : n = kv.1
    · rw [valV_pos (by rw [e]; rfl), show (n == kv.1) = true from by rw [e]; exact beq_self_eq_true _]
      rfl
    · rw [valV_neg (fun z => e (Sum.inl.inj z).symm), show (n == kv.1) = false from by rw [beq_eq_false_iff_ne]; exact e]
      exact val_kvW ws n
theorem put_fresh {ws : List (Int × Bool)} {kv : Int × Bool} (h : kv.1 ∉ ws.map (·.1)) : putK (ws.map kvW) (Sum.inl kv.1) (V.bl kv.2) = (ws ++ [kv]).map kvW := by
  unfold putK
  rw [if_neg, List.map_append]
  · rfl
  · intro z
    obtain ⟨p, hp, e⟩ := List.any_eq_true.mp z
    obtain ⟨q, hq, rfl⟩ := List.mem_map.mp hp
    have e : (Sum.inl q.1 : Key) = Sum.inl kv.1 := of_decide_eq_true e
    exact h (List.mem_map.mpr ⟨q, hq, Sum.inl.inj e⟩)
theorem merge_fresh : ∀ (ws acc : List (Int × Bool)), ((acc ++ ws).map (·.1)).Nodup → mergeK (acc.map kvW) (ws.map kvW) = (acc ++ ws).map kvW
  | [], acc, _ => by rw [List.append_nil]; rfl
  | kv :: ws, acc, h => by
    have h' : (((acc ++ [kv]) ++ ws).map (·.1)).Nodup := by rw [List.append_assoc]; exact h
    have fr : kv.1 ∉ acc.map (·.1) := fun z => by
      rw [List.map_append, List.map_cons] at h
      exact (List.nodup_append.mp h).2.2 kv.1 z kv.1 List.mem_cons_self rfl
    have e : mergeK (acc.map kvW) ((kv :: ws).map kvW) = mergeK (putK (acc.map kvW) (Sum.inl kv.1) (V.bl kv.2)) (ws.map kvW) := rfl
    rw [e, put_fresh fr, merge_fresh ws _ h', List.append_assoc]
    rfl
/-- the dict of the words ws stands at d -/
def Wl (H : Hp) (d : Addr) (ws : List (Int × Bool)) : Prop := H d = some (.dK (ws.map kvW)) ∧ (ws.map (·.1)).Nodup ∧ ws.length ≤ 60
theorem Wl.kx {H H' : Hp} {d : Addr} {ws : List (Int × Bool)} (k : Kx H H') (h : Wl H d ws) : Wl H' d ws := ⟨k _ _ (fun _ z => by cases z) h.1, h.2⟩
theorem Wl.same {H H' : Hp} {d : Addr} {ws : List (Int × Bool)} (k : Same H H') (h : Wl H d ws) : Wl H' d ws := ⟨k _ _ h.1, h.2⟩
theorem Tv.kx {H H' : Hp} (k : Kx H H') : ∀ {t : Tr} {v : V}, Tv H v t → Tv H' v t
  | .lf _, _, h => by rw [h.lf_of]; exact .lf _
  | .nd n ty to, _, h => by
    obtain ⟨a, y, o, rfl, h1, h2, h3⟩ := h.nd_of
    exact .nd (k _ _ (fun _ z => by cases z) h1) (Tv.kx k h2) (Tv.kx k h3)
theorem lookW_append {ws : List (Int × Bool)} {kv : Int × Bool} (h : kv.1 ∉ ws.map (·.1)) (m : Int) : lookW (ws ++ [kv]) m = if m = kv.1 then some kv.2 else lookW ws m := by
  unfold lookW
  rw [List.lookup_append]
  by_cases e : m = kv.1
  · rw [if_pos e]
    have n : ws.lookup m = none := by
      rw [List.lookup_eq_none_iff]
      intro p hp
      rw [bne_iff_ne, e]
      exact fun z => h (List.mem_map.mpr ⟨p, hp, z.symm⟩)
    rw [n, e, List.lookup_cons, beq_self_eq_true]
    rfl
  · rw [if_neg e]
    have : [kv].lookup m = none := by
      rw [List.lookup_cons, show (m == kv.1) = false from by rw [beq_eq_false_iff_ne]; exact e]
      rfl
    rw [this]
    simp
theorem lookW_some : ∀ {ws : List (Int × Bool)} {n : Int}, n ∈ ws.map (·.1) → (lookW ws n).isSome = true
  | kv :: ws, n, h => by
    unfold lookW
    rw [List.lookup_cons]
    by_cases e : n = kv.1
    · rw [show (n == kv.1) = true from by rw [e]; exact beq_self_eq_true _]
      rfl
    · rw [show (n == kv.1) = false from by rw [beq_eq_false_iff_ne]; exact e]
      rcases List.mem_cons.mp h with z | z
      · exact absurd z e
      · exact lookW_some z
/-- the tuples of these pairs stand at ps -/
def Prw (H : Hp) (ps : List Addr) (ws : List (Int × Bool)) : Prop := Paired (fun q kv => H q = some (.tup [.int kv.1, .bl kv.2])) ps ws
theorem Prw.same {H H' : Hp} {ps : List Addr} {ws : List (Int × Bool)} (k : Same H H') (h : Prw H ps ws) : Prw H' ps ws := Paired.mapP h fun _ _ e => k _ _ e
theorem Prw.snoc {H : Hp} {q : Addr} {kv : Int × Bool} (hq : H q = some (.tup [.int kv.1, .bl kv.2])) : ∀ {ps : List Addr} {ws : List (Int × Bool)}, Prw H ps ws → Prw H (ps ++ [q]) (ws ++ [kv])
  | [], [], _ => .cons hq .nil
  | _ :: _, _ :: _, .cons a r => .cons a (Prw.snoc hq r)
theorem Prw.kv {K : PySem.W.Frag} {H : Hp} : ∀ {ps : List Addr} {ws : List (Int × Bool)}, Prw H ps ws → Paired (fun p kv => SqT K H p [kV kv.1, kv.2]) ps (ws.map kvW)
  | [], [], _ => .nil
  | _ :: _, _ :: _, .cons a r => .cons (SqT.of a) (Prw.kv r)
theorem Prw.len {H : Hp} : ∀ {ps : List Addr} {ws : List (Int × Bool)}, Prw H ps ws → ps.length = ws.length
  | [], [], _ => rfl
  | _ :: _, _ :: _, .cons _ r => congrArg Nat.succ (Prw.len r)
theorem Prw.of {H : Hp} : ∀ {ps : List Addr} {ws : List (Int × Bool)}, Paired (fun (t : Addr) (q : Key × V) => H t = some (.tup [kV q.1, q.2])) ps (ws.map kvW) → Prw H ps ws
  | [], [], _ => .nil
  | _ :: _, _ :: _, .cons a r => .cons a (Prw.of r)
  | [], _ :: _, h => by cases h
  | _ :: _, [], h => by cases h
/-! ### showing trees -/
theorem Tr.d_noDict : ∀ t : Tr, t.d.hasDict = false := fun t => PyData.hasDict_of_canLay _ t.d_lay
/-- numbers and values that have texts: all below 2 ^ 1900 -/
def Sml : Tr → Prop
  | .lf (.i n) => n.natAbs.log2 < 1920
  | .lf (.b _) => True
  | .nd n y o => n.natAbs.log2 < 1920 ∧ Sml y ∧ Sml o
theorem log_lt {n : Int} {B : Nat} (h : n.natAbs < 2 ^ B) (hB : B ≤ 1920) (h0 : 0 < B) : n.natAbs.log2 < 1920 := by
  by_cases e : n.natAbs = 0
  · rw [e]; decide
  · have := (Nat.log2_lt e).mpr h
    omega
theorem Cn.sml {k : Bool} {B : Nat} (h0 : 0 < B) (hB : B ≤ 1920) : ∀ {S : List Int} {t : Tr}, (∀ n ∈ S, n.natAbs < 2 ^ 1900) → Cn (Lg k B) S t → Sml t
  | S, .lf (.i n), _, h => log_lt h.lf_of.2 hB h0
  | S, .lf (.b n), _, h => True.intro
  | [], .nd _ _ _, _, h => h.elim
  | s :: S, .nd n y o, hs, h => by
    have hs' : ∀ n ∈ S, n.natAbs < 2 ^ 1900 := fun n hn => hs n (List.mem_cons_of_mem _ hn)
    rcases h with ⟨h1, _, h3, h4⟩ | h
    · exact ⟨log_lt (by rw [h1]; exact hs s List.mem_cons_self) (by decide) (by decide), Cn.sml h0 hB hs' h3, Cn.sml h0 hB hs' h4⟩
    · exact Cn.sml (S := S) h0 hB hs' h
theorem Sml.show : ∀ {t : Tr}, Sml t → t.d.showable = true
  | .lf (.i n), h => decide_eq_true h
  | .lf (.b n), _ => rfl
  | .nd n y o, h => by
    show (PyData.showable (.int n) && (y.d.showable && (o.d.showable && true))) = true
    rw [Sml.show h.2.1, Sml.show h.2.2, show PyData.showable (.int n) = true from decide_eq_true h.1]
    rfl
theorem len_sgn (x : Str) : x.length = (sgn x).length := by unfold sgn; rw [Array.length_toList]; rfl
theorem text_len {n : Int} (h : n.natAbs.log2 < 1920) : (sgn (Str.ofString (toString n))).length ≤ 1921 := by
  rw [← len_sgn, PySem.ofString_length]
  exact PySem.int_text_length_le (by decide) h
theorem Sml.len : ∀ {t : Tr}, Sml t → (sgn t.d.shown).length + 2000 ≤ 4000 * 2 ^ t.dep
  | .lf (.i n), h => by
    have : (sgn (Str.ofString (toString n))).length ≤ 1921 := text_len h
    have e : (Tr.lf (.i n)).d.shown = Str.ofString (toString n) := PyData.shown_int n
    rw [e]
    show _ ≤ 4000 * 1
    omega
  | .lf (.b true), _ => by decide +kernel
  | .lf (.b false), _ => by decide +kernel
  | .nd n y o, h => by
    have h1 := text_len h.1
    have h2 := Sml.len h.2.1
    have h3 := Sml.len h.2.2
    rw [shown_nd]
    show _ ≤ 4000 * 2 ^ (max y.dep o.dep + 1)
    simp only [List.length_cons, List.length_append, List.length_nil]
    have p1 : 2 ^ y.dep ≤ 2 ^ (max y.dep o.dep) := Nat.pow_le_pow_right (by decide) (by omega)
    have p2 : 2 ^ o.dep ≤ 2 ^ (max y.dep o.dep) := Nat.pow_le_pow_right (by decide) (by omega)
    rw [Nat.pow_succ]
    omega
theorem Sml.fits {t : Tr} (h : Sml t) (d : t.dep ≤ 12) : t.d.shown.length ≤ sizeLine := by
  have := Sml.len h
  rw [len_sgn]
  have p : 2 ^ t.dep ≤ 2 ^ 12 := Nat.pow_le_pow_right (by decide) d
  have e : sizeLine = 16777216 := rfl
  rw [e]
  omega
/-- what repr(v) asks, v a tree -/
theorem rd_repr {K : PySem.W.Frag} {H : Hp} {v : V} {t : Tr} {Q : VK} (hv : Tv H v t) (sm : Sml t) (d : t.dep ≤ 12) (q : Q (.str t.d.shown) H) : rReprD K [v] H Q :=
  ⟨v, t.d, rfl, hv.dp, sm.show, t.d_noDict, sm.fits d, by rw [t.d_depth]; omega, q⟩
theorem shown_dec (t t' : Tr) : decide (V.str t.d.shown = V.str t'.d.shown) = decide (t = t') := by
  rw [Bool.eq_iff_iff, decide_eq_true_iff, decide_eq_true_iff]
  constructor
  · intro e; exact shown_inj (V.str.inj e)
  · rintro rfl; rfl
end Cor

set_option Elab.async false
set_option linter.all false
set_option maxRecDepth 100000
set_option maxHeartbeats 1000000
namespace Law
open PySem PySem.Spec PyProof.Rows L2 Cor
def topS (i : Nat) : Stmt := PySem.Challenge.pw_corridors_k01_plain_worths.main.body.getD i (.Pass ⟨0, 0, 0, 0⟩)
abbrev sBox : Stmt := topS 32
abbrev sTake : Stmt := topS 33
theorem scBox : FnScope ["_law_script", "_law_k", "_law_own", "_law_cell", "_law_seed"] ["_law_script", "_law_k", "_law_own"] (defScope sBox) := ⟨rfl, rfl, rfl, by decide +kernel, rfl, by decide +kernel, by decide +kernel⟩
theorem scTake : FnScope ["_law_box_here", "_law_many", "_law_digit", "_law_raw", "_law_wide"] ["_law_box_here", "_law_many"] (defScope sTake) := ⟨rfl, rfl, rfl, by decide +kernel, rfl, by decide +kernel, by decide +kernel⟩
section
variable {P : Program} {w : World} {K : PySem.W.Frag} {mg : Str → Option Value} {base : Heap}
theorem ok_take {f : Addr} {fd : FuncData} (F : Fun K "_law_take" "_law_take" sTake f fd) (T : Glo mg) : FnOk P w K mg base CX0 1 f fd ["_law_box_here", "_law_many"] spTake := by
  refine F.ok scTake (fun vs H Q E h => ?_) (fun cdv A outer s H vs Q E hr h => ?_)
  · obtain ⟨p, m, rfl, _⟩ := h
    rfl
  · obtain ⟨p, m, rfl, ⟨b, s, c, hp, s0, s1⟩, m0, m1, k⟩ := h
    have hm : CDivW b m := wide_div m0 (by omega : m.natAbs < 2 ^ 90) (by decide) (by decide)
    refine ⟨_, (pss_cons (ps_if (pt_cmpR op_gt (pe_ix ix_list (pv 0) pe_int (fun _ _ => rfl)) pe_int (nomark _)) (pss_cons (ps_set (i := 2) scTake.nd rfl (Or.inl rfl) (pe_op op_mod (pe_ix ix_list (pv 0) pe_int (fun _ _ => rfl)) (pv 1)))
      (pss_cons (ps_asg (pe_op op_fdivW (pe_ix ix_list (pv 0) pe_int (fun _ _ => rfl)) (pv 1)) (pg_sub (pv 0) pe_int set_list))
      (pss_one (ps_ret (pv 2))))) pss_nil)
      (pss_cons (ps_asg (pe_op op_add (pe_ix ix_list (pv 0) pe_int (fun _ _ => rfl)) pe_int) (pg_sub (pv 0) pe_int set_list))
      (pss_cons (ps_set (i := 3) scTake.nd rfl (Or.inl rfl) (pe_op op_mod (pe_op op_mul (pe_op op_add (pe_ix ix_list (pv 0) pe_int (fun _ _ => rfl)) (pe_op op_mul pe_int (pe_ix ix_list (pv 0) pe_int (fun _ _ => rfl)))) pe_int) pe_int))
      (pss_cons (ps_asg (pe_op op_add (pe_op op_mod (pe_op op_add (pe_op op_mul (pv 3) pe_int) pe_int) pe_int) pe_int) (pg_sub (pv 0) pe_int set_list))
      (pss_cons (ps_if (pt_cmpR op_lt (pv 1) (pe_op op_pow pe_int pe_int) (nomark _)) (pss_one (ps_ret (pe_op op_mod (pe_op op_fdiv (pe_op op_add (pe_op op_mul (pv 3) pe_int) (pe_ix ix_list (pv 0) pe_int (fun _ _ => rfl))) pe_int) (pv 1)))) pss_nil)
      (pss_cons (ps_set (i := 4) scTake.nd rfl (Or.inl rfl) (pe_op op_mul (pe_op op_add (pe_op op_mul (pv 3) pe_int) (pe_ix ix_list (pv 0) pe_int (fun _ _ => rfl))) (pe_op op_pow pe_int pe_int)))
      (pss_one (ps_ret (pe_op op_mod (pe_op op_add (pe_op op_add (pv 4) (pe_op op_mul (pe_op op_pow (pe_ix ix_list (pv 0) pe_int (fun _ _ => rfl)) pe_int) pe_int)) (pv 3)) (pv 1)))))))))), ?_⟩
    refine ⟨_, rfl, p, _, _, _, rfl, rfl, SqL.of hp, rfl, _, _, rfl, rfl, _, rfl, ?_⟩
    refine ite2 (fun hb => ?_) (fun hb => ?_)
    · refine ⟨_, rfl, p, _, _, _, rfl, rfl, SqL.of hp, rfl, _, rfl, _, _, rfl, rfl, m0, ?_⟩
      refine ⟨_, rfl, p, _, _, _, rfl, rfl, SqL.of hp, rfl, _, rfl, _, _, rfl, rfl, hm, _, rfl, p, _, _, _, rfl, rfl, hp, rfl, ?_⟩
      refine ⟨_, rfl, ?_⟩
      exact k _ s c _ s0 s1 (Int.emod_nonneg _ (by omega)) (Int.emod_lt_of_pos _ m0)
    · refine ⟨_, rfl, p, _, _, _, rfl, rfl, SqL.of hp, rfl, _, _, rfl, rfl, _, rfl, p, _, _, _, rfl, rfl, hp, rfl, ?_⟩
      have h1 : (upd H p (.lst [.int b, .int s, .int (c + 1)])) p = some (.lst [.int b, .int s, .int (c + 1)]) := upd_same
      refine ⟨_, rfl, p, _, _, _, rfl, rfl, SqL.of h1, rfl, _, rfl, p, _, _, _, rfl, rfl, SqL.of h1, rfl, _, _, rfl, rfl, .inl ⟨by decide, by decide⟩, _, _, rfl, rfl, _, _, rfl, rfl, .inr ⟨by decide, by decide⟩, _, _, rfl, rfl, (by show (0 : Int) < 2147483647; decide), ?_⟩
      dsimp only
      generalize hraw : (s + 104729 * (c + 1)) * 69623 % 2147483647 = raw
      have r0 : 0 ≤ raw := by omega
      have r1 : raw < 2147483647 := by omega
      refine ⟨_, rfl, _, _, rfl, rfl, .inr ⟨by decide, by decide⟩, _, _, rfl, rfl, _, _, rfl, rfl, (by show (0 : Int) < 2147483629; decide), _, _, rfl, rfl, _, rfl, p, _, _, _, rfl, rfl, h1, rfl, ?_⟩
      dsimp only
      generalize hs2 : (raw * 48271 + 30103) % 2147483629 + 1 = s2
      have s20 : 0 ≤ s2 := by omega
      have s21 : s2 < 4294967296 := by omega
      have e2 : upd (upd H p (.lst [.int b, .int s, .int (c + 1)])) p (.lst [.int b, .int s2, .int (c + 1)]) = upd H p (.lst [.int b, .int s2, .int (c + 1)]) := upd_upd
      have h2 : (upd (upd H p (.lst [.int b, .int s, .int (c + 1)])) p (.lst [.int b, .int s2, .int (c + 1)])) p = some (.lst [.int b, .int s2, .int (c + 1)]) := upd_same
      have kk := fun r (r0 : 0 ≤ r) (r1 : r < m) => k b s2 (c + 1) r s20 s21 r0 r1
      rw [← e2] at kk
      refine ⟨_, rfl, _, _, rfl, rfl, ⟨by decide, by decide, by decide⟩, _, _, rfl, rfl, _, rfl, ?_⟩
      refine ite2 (fun hb => ?_) (fun hb => ?_)
      · refine ⟨_, rfl, _, _, rfl, rfl, .inr ⟨by decide, by decide⟩, _, rfl, p, _, _, _, rfl, rfl, SqL.of h2, rfl, _, _, rfl, rfl, _, _, rfl, rfl, ⟨by decide, by decide⟩, _, rfl, _, _, rfl, rfl, m0, ?_⟩
        exact kk _ (Int.emod_nonneg _ (by omega)) (Int.emod_lt_of_pos _ m0)
      · refine ⟨_, rfl, _, _, rfl, rfl, .inr ⟨by decide, by decide⟩, _, rfl, p, _, _, _, rfl, rfl, SqL.of h2, rfl, _, _, rfl, rfl, _, _, rfl, rfl, ⟨by decide, by decide, by decide⟩, _, _, rfl, rfl, .inl ⟨by omega, by omega⟩, ?_⟩
        refine ⟨_, rfl, _, rfl, p, _, _, _, rfl, rfl, SqL.of h2, rfl, _, _, rfl, rfl, ⟨by decide, by decide, by omega⟩, _, _, rfl, rfl, .inr ⟨by decide, by decide⟩, _, _, rfl, rfl, _, rfl, _, _, rfl, rfl, _, rfl, _, _, rfl, rfl, m0, ?_⟩
        exact kk _ (Int.emod_nonneg _ (by omega)) (Int.emod_lt_of_pos _ m0)
theorem atI_two {x y : V} (b : Bool) : atI [x, y] (if b = true then 1 else 0) = some (if b = true then y else x) := by cases b <;> rfl
theorem atI_ints {ns : List Int} {k : Int} (h : k < (ns.length : Int)) (h0 : 0 ≤ k) : atI (ns.map V.int) k = some (V.int (ns.getD k.toNat 0)) := by
  have hk : k.toNat < ns.length := by omega
  unfold atI ixN
  rw [List.length_map, if_pos h0, if_pos h]
  show (ns.map V.int)[k.toNat]? = _
  rw [List.getElem?_map, List.getElem?_eq_getElem hk]
  show some (V.int _) = _
  rw [List.getD_eq_getElem?_getD, List.getElem?_eq_getElem hk]
  rfl
theorem ok_box {f : Addr} {fd : FuncData} (F : Fun K "_law_box" "_law_box" sBox f fd) (T : Glo mg) : FnOk P w K mg base CX0 1 f fd ["_law_script", "_law_k", "_law_own"] (spBox K) := by
  refine F.ok scBox (fun vs H Q E h => ?_) (fun cdv A outer s H vs Q E hr h => ?_)
  · obtain ⟨a, ns, k, own, rfl, _⟩ := h
    rfl
  · obtain ⟨a, ns, k, own, rfl, hS, hl, k0, k1, o0, o1, q⟩ := h
    refine ⟨_, (pss_cons (ps_set (i := 3) scBox.nd rfl (Or.inl rfl) (pe_op op_add (pe_op op_add (pe_op op_mul pe_int (pv 1)) (pe_op op_mul pe_int (pv 2))) pe_int))
      (pss_cut (ps_if (pt_cmpR op_lt (pv 1) (pe_callB call_len_seq (by rfl) T.len PySem.boot_len (pa_cons (pv 0) pa_nil)) (nomark _)) (pss_one (ps_set (i := 3) scBox.nd rfl (Or.inl rfl) (pe_callB call_abs (by rfl) T.abs (by decide +kernel) (pa_cons (pe_ix ix_list (pv 0) (pv 1) (fun _ _ => rfl)) pa_nil)))) (pss_one (ps_if (pt_cmpR op_gt (pe_callB call_len_seq (by rfl) T.len PySem.boot_len (pa_cons (pv 0) pa_nil)) pe_int (nomark _)) (pss_one (ps_set (i := 3) scBox.nd rfl (Or.inl rfl) (pe_op op_add (pv 3) (pe_op op_mul (pe_op op_mod (pe_callB call_abs (by rfl) T.abs (by decide +kernel) (pa_cons (pe_ix ix_list (pv 0) (pe_op op_mod (pv 1) (pe_callB call_len_seq (by rfl) T.len PySem.boot_len (pa_cons (pv 0) pa_nil))) (fun _ _ => rfl)) pa_nil)) pe_int) pe_int)))) pss_nil)))
      (pss_cons (ps_set (i := 4) scBox.nd rfl (Or.inl rfl) (pe_op op_add (pe_op op_mod (pe_op op_add (pe_op op_mul (pe_op op_mod (pv 3) pe_int) pe_int) (pe_op op_mul pe_int (pe_op op_add (pv 1) (pe_op op_mul pe_int (pv 2))))) pe_int) pe_int))
      (pss_one (ps_ret (pe_lst (pa_cons (pe_ix ix_list (pe_lst (pa_cons pe_int (pa_cons (pv 3) pa_nil))) (pe_callTy call_int1 (by rfl) T.int (by decide +kernel) (pa_cons (pe_cmpR op_ge (pv 3) (pe_op op_pow pe_int pe_int) (nomark _)) pa_nil)) (fun _ _ => rfl)) (pa_cons (pv 4) (pa_cons pe_int pa_nil))))))))), ?_⟩
    refine ⟨_, rfl, _, _, rfl, rfl, .inl ⟨by decide, by decide⟩, _, rfl, _, _, rfl, rfl, .inl ⟨by decide, by decide⟩, _, _, rfl, rfl, _, _, rfl, rfl, ?_⟩
    refine ⟨fun σ' H' => ∃ cell : Int, σ' = [some (.ref a), some (.int k), some (.int own), some (.int cell), none] ∧ H' = H, ?_, ?_⟩
    · refine ⟨_, rfl, _, rfl, a, _, rfl, .inl hS, _, _, rfl, rfl, _, rfl, ?_⟩
      refine ite2 (fun hb => ?_) (fun hb => ?_)
      · have hk : k < (ns.length : Int) := by
          have z := of_decide_eq_true hb
          rw [List.length_map] at z
          exact z
        refine ⟨_, rfl, _, rfl, a, _, _, _, rfl, rfl, hS, (atI_ints hk k0), _, rfl, _, rfl, rfl⟩
      · refine ⟨_, rfl, a, _, rfl, .inl hS, _, _, rfl, rfl, _, rfl, ?_⟩
        refine ite2 (fun hc => ?_) (fun hc => ?_)
        · have hn : (0 : Int) < (ns.length : Int) := by
            have z := of_decide_eq_true hc
            rw [List.length_map] at z
            exact z
          refine ⟨_, rfl, _, rfl, _, rfl, _, rfl, a, _, rfl, .inl hS, _, _, rfl, rfl, (by rw [List.length_map]; exact hn), a, _, _, _, rfl, rfl, hS, (atI_ints (by rw [List.length_map]; exact Int.emod_lt_of_pos _ hn) (Int.emod_nonneg _ (by rw [List.length_map]; omega))), _, rfl, _, _, rfl, rfl, (by show (0 : Int) < 2147483629; decide), _, _, rfl, rfl, .inr ⟨by decide, by decide⟩, _, _, rfl, rfl, _, rfl, rfl⟩
        · exact ⟨_, rfl, rfl⟩
    · rintro σ' H' ⟨cell, rfl, rfl⟩
      refine ⟨_, rfl, _, _, rfl, rfl, (by show (0 : Int) < 2147483629; decide), _, _, rfl, rfl, .inr ⟨by decide, by decide⟩, _, rfl, _, rfl, _, _, rfl, rfl, .inl ⟨by decide, by decide⟩, _, _, rfl, rfl, _, _, rfl, rfl, .inl ⟨by decide, by decide⟩, _, _, rfl, rfl, _, _, rfl, rfl, (by show (0 : Int) < 2147483629; decide), _, _, rfl, rfl, ?_⟩
      refine ⟨_, rfl, (by show 2 ≤ sizeLine; decide), fun p0 n0 => ?_⟩
      refine ⟨_, rfl, _, _, rfl, rfl, ⟨by decide, by decide, by decide⟩, _, _, rfl, rfl, .inr ⟨_, rfl, ?_⟩⟩
      refine ⟨p0, _, _, _, rfl, rfl, SqL.of upd_same, atI_two _, _, rfl, (by show 3 ≤ sizeLine; decide), fun p1 n1 => ?_⟩
      have n10 : p1 ≠ p0 := fun z => by rw [z, upd_same] at n1; cases n1
      have n1' : H' p1 = none := by rw [upd_ne n10] at n1; exact n1
      dsimp only
      generalize hs2 : (cell % 2147483629 * 48271 + 40692 * (k + 11 * own)) % 2147483629 + 1 = s2
      have s20 : 0 ≤ s2 := by omega
      have s21 : s2 < 4294967296 := by omega
      have hv : ∃ b : Int, (if (decide (10 ^ (Int.toNat 18) ≤ cell)) = true then V.int cell else V.int 0) = V.int b := by
        cases decide (10 ^ (Int.toNat 18) ≤ cell)
        · exact ⟨0, rfl⟩
        · exact ⟨cell, rfl⟩
      obtain ⟨b, hb⟩ := hv
      refine q _ p1 (fun x o e => ?_) n1' ⟨b, s2, 0, by rw [← hb]; exact upd_same, s20, s21⟩
      rw [upd_ne (ne_of_none e n1'), upd_ne (ne_of_none e n0)]
      exact e
end
end Law

set_option Elab.async false
set_option linter.all false
set_option maxRecDepth 100000
set_option maxHeartbeats 1000000
namespace Law
open PySem PySem.Spec PyProof.Rows L2 Cor
/-- the built-ins' names are not taken -/
structure GloW (mg : Str → Option Value) : Prop extends Glo mg where
  isinstance : mg "isinstance" = none
  tuple : mg "tuple" = none
  bool : mg "bool" = none
  set : mg "set" = none
  sorted : mg "sorted" = none
  str : mg "str" = none
  dict : mg "dict" = none
abbrev sLeaf : Stmt := topS 15
abbrev sNode : Stmt := topS 16
theorem scLeaf : FnScope ["tree"] ["tree"] (defScope sLeaf) := ⟨rfl, rfl, rfl, by decide +kernel, rfl, by decide +kernel, by decide +kernel⟩
theorem scNode : FnScope ["number", "yes", "no"] ["number", "yes", "no"] (defScope sNode) := ⟨rfl, rfl, rfl, by decide +kernel, rfl, by decide +kernel, by decide +kernel⟩
def isLf : Tr → Bool
  | .lf _ => true
  | .nd _ _ _ => false
def spLeaf : Sp := fun vs H Q _ => ∃ v t, vs = [v] ∧ Tv H v t ∧ Q (.bl (isLf t)) H
def spNode : Sp := fun vs H Q _ => ∃ (n : Int) (y o : V) (ty to : Tr) (k : Bool), vs = [.int n, y, o] ∧ Tv H y ty ∧ Tv H o to ∧ ty.hom k ∧ to.hom k ∧ ty.dep ≤ 60 ∧ to.dep ≤ 60 ∧
  ∀ v H', Same H H' → Tv H' v (mkNd n ty to) → Q v H'
theorem tv_tuple {K : PySem.W.Frag} {H : Hp} : ∀ {t : Tr} {v : V}, Tv H v t → ∃ ty, TyX K H v ty ∧ PySem.W.kitOne K ty (.type "tuple") = some (!isLf t)
  | .lf (.i n), _, h => by rw [h.lf_of]; exact ⟨_, .base (.int n), kit_ty (r := false) (by decide +kernel)⟩
  | .lf (.b n), _, h => by rw [h.lf_of]; exact ⟨_, .base (.bl n), kit_ty (r := false) (by decide +kernel)⟩
  | .nd n ty to, _, h => by
    obtain ⟨a, y, o, rfl, h1, h2, h3⟩ := h.nd_of
    exact ⟨_, .base (.tup h1), kit_ty (r := true) (by decide +kernel)⟩
section
variable {P : Program} {w : World} {K : PySem.W.Frag} {mg : Str → Option Value} {base : Heap}
theorem ok_leaf {f : Addr} {fd : FuncData} (F : Fun K "is_leaf" "is_leaf" sLeaf f fd) (T : GloW mg) : FnOk P w K mg base CX0 1 f fd ["tree"] spLeaf := by
  refine F.ok scLeaf (fun vs H Q E h => ?_) (fun cdv A outer s H vs Q E hr h => ?_)
  · obtain ⟨v, t, rfl, _⟩ := h
    rfl
  · obtain ⟨v, t, rfl, hv, q⟩ := h
    refine ⟨_, (pss_one (ps_ret (pe_not (pe_callB (id := "isinstance") (show CallR _ (.builtin "isinstance") (rIsi K) from call_isi) (by rfl) T.isinstance (by decide +kernel) (pa_cons (pv 0) (pa_cons (pe_bltn (v := .ty "tuple") (by rfl) T.tuple (by decide +kernel) rfl) pa_nil)))))), ?_⟩
    obtain ⟨ty, h1, h2⟩ := tv_tuple (K := K) hv
    refine ⟨_, rfl, _, _, _, _, _, rfl, .ty "tuple", h1, h2, _, rfl, ?_⟩
    rw [Bool.not_not]
    exact q
theorem ok_node {f : Addr} {fd : FuncData} (F : Fun K "node" "node" sNode f fd) (T : GloW mg) : FnOk P w K mg base CX0 1 f fd ["number", "yes", "no"] spNode := by
  refine F.ok scNode (fun vs H Q E h => ?_) (fun cdv A outer s H vs Q E hr h => ?_)
  · obtain ⟨n, y, o, ty, to, k, rfl, _⟩ := h
    rfl
  · obtain ⟨n, y, o, ty, to, k, rfl, hy, ho, ky, ko, dy, d0, q⟩ := h
    refine ⟨_, (pss_one (ps_ret (pe_ifExp (pt_cmpR (op_eqD hr.units) (pv 1) (pv 2) (nomark _)) (pv 1) (pe_tup (pa_cons (pv 0) (pa_cons (pv 1) (pa_cons (pv 2) pa_nil))))))), ?_⟩
    refine ⟨_, rfl, _, rfl, _, _, hy.dp, ho.dp, Tr.shaped (by omega), Tr.shaped (by omega), _, rfl, ?_⟩
    rw [eqv_tr ky ko]
    refine ite2 (fun hb => ?_) (fun hb => ?_)
    · have e := of_decide_eq_true hb
      refine ⟨_, rfl, q _ _ (fun _ _ z => z) ?_⟩
      unfold mkNd
      rw [if_pos e]
      exact hy
    · have e : ¬ ty = to := fun z => hb (decide_eq_true z)
      refine ⟨_, rfl, _, rfl, _, rfl, (by show 3 ≤ sizeLine; decide), fun p np => ?_⟩
      have s := same_upd (o := .tup [.int n, y, o]) np
      refine q _ _ s ?_
      unfold mkNd
      rw [if_neg e]
      exact .nd upd_same (hy.same s) (ho.same s)
end
end Law

set_option Elab.async false
set_option linter.all false
set_option maxRecDepth 100000
set_option maxHeartbeats 1000000
namespace Law
open PySem PySem.Spec PyProof.Rows L2 Cor
abbrev sCase : Stmt := topS 17
abbrev sTops : Stmt := topS 18
theorem scCase : FnScope ["tree", "number", "truth", "first", "yes", "no"] ["tree", "number", "truth"] (defScope sCase) := ⟨rfl, rfl, rfl, by decide +kernel, rfl, by decide +kernel, by decide +kernel⟩
theorem scTops : FnScope ["trees", "tree"] ["trees"] (defScope sTops) := ⟨rfl, rfl, rfl, by decide +kernel, rfl, by decide +kernel, by decide +kernel⟩
/-- what remains by a number that is at the top, or above it -/
def spCase : Sp := fun vs H Q _ => ∃ (v : V) (t : Tr) (n : Int) (b : Bool), vs = [v, .int n, .bl b] ∧ Tv H v t ∧ t.from n ∧ ∀ v', Tv H v' (caseTop n b t) → Q v' H
def topsOf : Tr → List Int
  | .lf _ => []
  | .nd n _ _ => [n]
def spTops : Sp := fun vs H Q _ => ∃ (v1 v2 : V) (t1 t2 : Tr), vs = [v1, v2] ∧ Tv H v1 t1 ∧ Tv H v2 t2 ∧ ∀ q H', Same H H' → H' q = some (.lst ((topsOf t1 ++ topsOf t2).map V.int)) → Q (.ref q) H'
def spTops0 : Sp := fun vs H Q _ => ∃ (p : Addr) (v1 v2 : V) (t1 t2 : Tr), vs = [.ref p] ∧ H p = some (.tup [v1, v2]) ∧ Tv H v1 t1 ∧ Tv H v2 t2 ∧ ∀ q H', Same H H' → H' q = some (.lst ((topsOf t1 ++ topsOf t2).map V.int)) → Q (.ref q) H'
section
variable {P : Program} {w : World} {K : PySem.W.Frag} {mg : Str → Option Value} {base : Heap}
theorem ok_case {f : Addr} {fd : FuncData} (F : Fun K "case_of" "case_of" sCase f fd) (T : GloW mg) (dl : Df P w K mg base "is_leaf" 1 ["tree"] spLeaf) : FnOk P w K mg base CX0 2 f fd ["tree", "number", "truth"] spCase := by
  refine F.ok scCase (fun vs H Q E h => ?_) (fun cdv A outer s H vs Q E hr h => ?_)
  · obtain ⟨v, t, n, b, rfl, _⟩ := h
    rfl
  · obtain ⟨v, t, n, b, rfl, hv, hf, q⟩ := h
    refine ⟨_, (pss_cons (ps_if (PW.pt (pw_or (pt_val (pe_df (E := E0) dl hr (by rfl) (pa_cons (pv 0) pa_nil))) (pw_or1 (pt_cmpR op_gt (pe_ix ix_tup (pv 0) pe_int (fun _ _ => rfl)) (pv 1) (nomark _))))) (pss_one (ps_ret (pv 0))) pss_nil)
      (pss_cons (ps_asg (pv 0) (pg_tup rfl (pgs_cons (pg_name (i := 3) scCase.nd rfl (Or.inl rfl)) (pgs_cons (pg_name (i := 4) scCase.nd rfl (Or.inl rfl)) (pgs_cons (pg_name (i := 5) scCase.nd rfl (Or.inl rfl)) pgs_nil)))))
      (pss_cons (ps_if (pt_cmpR op_eq (pv 3) (pv 1) (nomark _)) (pss_one (ps_ret (pe_ifExp (pt_val (pv 2)) (pv 4) (pv 5)))) pss_nil)
      (pss_one ps_never)))), ?_⟩
    refine ⟨_, rfl, _, t, rfl, hv, _, rfl, ?_⟩
    cases t with
    | lf l => exact ⟨_, rfl, q _ hv⟩
    | nd m ty to =>
      obtain ⟨a, y, o, rfl, h1, h2, h3⟩ := hv.nd_of
      refine ⟨_, rfl, a, _, _, _, rfl, rfl, SqT.of h1, rfl, _, rfl, _, _, rfl, rfl, _, rfl, ?_⟩
      refine ite2 (fun hb => ?_) (fun hb => ?_)
      · have e : n < m := of_decide_eq_true hb
        refine ⟨_, rfl, q _ ?_⟩
        rw [caseTop_nd, if_neg (by omega)]
        exact hv
      · have e : ¬ n < m := fun z => hb (decide_eq_true z)
        have hf : n ≤ m := hf
        have e2 : m = n := by omega
        subst e2
        refine ⟨_, rfl, a, _, rfl, SqT.of h1, rfl, ?_⟩
        refine ⟨_, _, rfl, _, _, rfl, _, _, rfl, rfl, ?_⟩
        refine ⟨_, rfl, _, rfl, rfl, _, rfl, ?_⟩
        refine ite2 (fun hb => ?_) (fun hb => absurd (decide_eq_true rfl) hb)
        refine ⟨_, rfl, _, rfl, ?_⟩
        cases b with
        | true => exact ⟨_, rfl, q _ (by rw [caseTop_nd, if_pos rfl, if_pos rfl]; exact h2)⟩
        | false => exact ⟨_, rfl, q _ (by rw [caseTop_nd, if_pos rfl, if_neg Bool.false_ne_true]; exact h3)⟩
theorem ok_tops0 {f : Addr} {fd : FuncData} (F : Fun K "tops" "tops" sTops f fd) (T : GloW mg) (dl : Df P w K mg base "is_leaf" 1 ["tree"] spLeaf) :
    FnR P w K mg base CX0 2 f (fun vs H Q E => ∃ ws rest, vs = ws ++ rest ∧ ws.length = ([] : List Str).length ∧ rest.length ≤ sizeLine ∧ ∀ p, H p = Option.none → spTops0 (ws ++ [V.ref p]) (upd H p (.tup rest)) Q E) := by
  refine F.star scTops (fun _ _ _ _ _ _ => rfl) (fun _ _ _ _ _ _ _ _ => rfl) (fun cdv A outer s H vs Q E hr h => ?_)
  obtain ⟨p, v1, v2, t1, t2, rfl, hp, hv1, hv2, q⟩ := h
  refine ⟨_, (pss_one (ps_ret (pe_lc (own := [("tree", 1)]) (g := gName 1) (by rfl) scTops.nd (pi_tup (pv 0)) (blkOk_by (own := [("tree", 1)]) (N := ["trees", "tree"]) (sc := defScope sTops) (by decide +kernel)) (fun _ _ _ _ _ => (pg_name (i := 1) scTops.nd rfl (Or.inl rfl))) (fun _ _ _ _ _ => (pts_one (pt_not (pt_val (pe_df (E := E0) dl hr (by rfl) (pa_cons (pv 1) pa_nil)))))) (fun _ _ _ _ _ => (pe_ix (show IxR _ (rIxT K) from ix_tup) (pv 1) pe_int (fun _ _ => rfl)))))), ?_⟩
  refine ⟨_, rfl, p, rfl, ⟨_, SqT.of hp⟩, fun D nD => lc_tup (xs := [v1, v2]) (fun i H' => Same H H' ∧ H' D = some (.lst (((if i = 0 then [] else if i = 1 then topsOf t1 else topsOf t1 ++ topsOf t2) : List Int).map V.int))) ?_ ?_ ?_ ?_⟩
  · exact ⟨same_upd nD, upd_same⟩
  · rintro i H' _ ⟨s, _⟩
    exact SqT.of (s _ _ hp)
  · rintro i x H' hx ⟨s, e⟩
    have key : ∃ (t : Tr) (as : List Int), Tv H' x t ∧ H' D = some (.lst (as.map V.int)) ∧ as.length ≤ 1 ∧ (if i + 1 = 0 then [] else if i + 1 = 1 then topsOf t1 else topsOf t1 ++ topsOf t2) = as ++ topsOf t := by
      match i, hx with
      | 0, hx => cases hx; exact ⟨t1, [], hv1.same s, e, by decide, rfl⟩
      | 1, hx => cases hx; exact ⟨t2, topsOf t1, hv2.same s, e, (by cases t1 <;> simp [topsOf]), rfl⟩
      | i + 2, hx => cases hx
    obtain ⟨t, as, ht, ha, la, er⟩ := key
    rw [er]
    refine ⟨rfl, _, rfl, _, t, rfl, ht, _, rfl, ?_⟩
    cases t with
    | lf l => exact ⟨s, by rw [ha]; simp [topsOf]⟩
    | nd m ty to =>
      obtain ⟨a, y, o, rfl, h1, h2, h3⟩ := ht.nd_of
      refine ⟨_, rfl, a, _, _, _, rfl, rfl, SqT.of h1, rfl, _, ha, ?_, ?_, ?_⟩
      · rw [List.length_map]; exact Nat.lt_of_le_of_lt la (by decide)
      · exact fun b o z => by
          by_cases eb : b = D
          · rw [eb, nD] at z; cases z
          · rw [upd_ne eb]; exact s b o z
      · rw [upd_same, List.map_append]; rfl
  · rintro H' ⟨s, e⟩
    exact q D H' s e
theorem ok_tops {f : Addr} {fd : FuncData} (F : Fun K "tops" "tops" sTops f fd) (T : GloW mg) (dl : Df P w K mg base "is_leaf" 1 ["tree"] spLeaf) : FnR P w K mg base CX0 2 f spTops := by
  intro A outer s H us vs Q E hr e0 r h
  obtain ⟨v1, v2, t1, t2, rfl, h1, h2, q⟩ := h
  refine ok_tops0 F T dl A outer s H us _ Q E hr e0 r ⟨[], [v1, v2], rfl, rfl, (by show 2 ≤ sizeLine; decide), fun p np => ?_⟩
  have sp := same_upd (o := .tup [v1, v2]) np
  exact ⟨p, v1, v2, t1, t2, rfl, upd_same, h1.same sp, h2.same sp, fun q' H' s' e => q q' H' (fun b o z => s' b o (sp b o z)) e⟩
end
end Law

set_option Elab.async false
set_option linter.all false
set_option maxRecDepth 100000
set_option maxHeartbeats 1000000
namespace Law
open PySem PySem.Spec PyProof.Rows L2 Cor
def spChoice (m : Nat) : Sp := fun vs H Q _ => ∃ (n : Int) (y o : V) (ty to : Tr) (k : Bool) (B : Nat) (S : List Int), vs = [.int n, y, o] ∧ Tv H y ty ∧ Tv H o to ∧ Asc S ∧ S.length ≤ m ∧ n ∈ S ∧ Cn (Lg k B) S ty ∧ Cn (Lg k B) S to ∧
  ∀ v H' t, Same H H' → Tv H' v t → Cn (Lg k B) S t → (∀ r : Rho, t.ev r = if r n = true then ty.ev r else to.ev r) → Q v H'
theorem from_tops {n : Int} : ∀ {t : Tr}, (∀ m ∈ topsOf t, n ≤ m) → t.from n
  | .lf _, _ => True.intro
  | .nd m _ _, h => h m List.mem_cons_self
theorem tops_mem {g : Lf → Prop} {S : List Int} : ∀ {t : Tr}, Cn g S t → ∀ m ∈ topsOf t, m ∈ S
  | .lf _, _, m, h => by cases h
  | .nd n y o, h, m, hm => h.mem m (by
    rw [List.mem_singleton.mp hm]
    exact List.mem_cons_self)
section
variable {P : Program} {w : World} {K : PySem.W.Frag} {mg : Str → Option Value} {base : Heap}
end
end Law

set_option Elab.async false
set_option linter.all false
set_option maxRecDepth 100000
set_option maxHeartbeats 1000000
namespace Law
open PySem PySem.Spec PyProof.Rows L2 Cor
abbrev sJoined : Stmt := topS 19
abbrev sCombined : Stmt := topS 20
theorem scJoined : FnScope ["sign", "one", "other"] ["sign", "one", "other"] (defScope sJoined) := ⟨rfl, rfl, rfl, by decide +kernel, rfl, by decide +kernel, by decide +kernel⟩
theorem scCombined : FnScope ["sign", "one", "other", "firsts", "least", "held", "failed"] ["sign", "one", "other"] (defScope sCombined) := ⟨rfl, rfl, rfl, by decide +kernel, rfl, by decide +kernel, by decide +kernel⟩
def spJoined : Sp := fun vs H Q _ => ∃ (o : Op) (a b : Lf) (B B' : Nat), vs = [.str o.sign, a.v, b.v] ∧ Lg o.kin B a ∧ Lg o.kin B' b ∧ B ≤ 1000 ∧ B' ≤ 1000 ∧ Q (o.ap a b).v H
def spCombined (m : Nat) : Sp := fun vs H Q _ => ∃ (op : Op) (v1 v2 : V) (t1 t2 : Tr) (B B' : Nat) (S : List Int), vs = [.str op.sign, v1, v2] ∧ Tv H v1 t1 ∧ Tv H v2 t2 ∧ Asc S ∧ S.length ≤ m ∧ B ≤ 1000 ∧ B' ≤ 1000 ∧ Cn (Lg op.kin B) S t1 ∧ Cn (Lg op.kin B') S t2 ∧
  ∀ v H' t, Same H H' → Tv H' v t → Cn (Lg op.kout (B + B' + 1)) S t → (∀ r : Rho, t.ev r = op.ap (t1.ev r) (t2.ev r)) → Q v H'
theorem eqv_nil : ∀ (ns : List Int), PyData.eqv (.list (ns.map .int)) (.list []) = decide (ns = [])
  | [] => rfl
  | n :: ns => rfl
theorem dp_ints {K : PySem.W.Frag} {H : Hp} : ∀ (ns : List Int), DpAll K H (ns.map V.int) (ns.map .int)
  | [] => .nil
  | n :: ns => .cons (.int n) (dp_ints ns)
theorem lay_ints : ∀ (ns : List Int), PyData.canLayAll0 (ns.map .int) = true
  | [] => rfl
  | n :: ns => by
    show (PyData.canLay0 (.int n) && PyData.canLayAll0 (ns.map .int)) = true
    rw [lay_ints ns]; rfl
theorem shaped_ints (ns : List Int) : SeqAt.shaped (.list (ns.map .int)) = true := by
  unfold SeqAt.shaped
  have h : PyData.depth (.list (ns.map .int)) ≤ 64 := by
    show PyData.depthAll (ns.map .int) + 1 ≤ 64
    have := ints_depth ns
    omega
  rw [decide_eq_true h, show PyData.canLay0 (.list (ns.map .int)) = PyData.canLayAll0 (ns.map .int) from rfl, lay_ints]
  rfl
theorem tops_nil : ∀ {t : Tr}, topsOf t = [] → ∃ l, t = .lf l
  | .lf l, _ => ⟨l, rfl⟩
  | .nd _ _ _, h => by cases h
section
variable {P : Program} {w : World} {K : PySem.W.Frag} {mg : Str → Option Value} {base : Heap}
theorem ok_joined {f : Addr} {fd : FuncData} (F : Fun K "joined" "joined" sJoined f fd) (T : GloW mg) : FnOk P w K mg base CX0 1 f fd ["sign", "one", "other"] spJoined := by
  refine F.ok scJoined (fun vs H Q E h => ?_) (fun cdv A outer s H vs Q E hr h => ?_)
  · obtain ⟨op, a, b, B, B', rfl, _⟩ := h
    rfl
  · obtain ⟨op, a, b, B, B', rfl, ha, hb, hB, hB', q⟩ := h
    refine ⟨_, (pss_cons (ps_match (pv 0) (pms_cons (pss_one (ps_ret (pe_op op_add (pv 1) (pv 2)))) (pms_cons (pss_one (ps_ret (pe_op op_sub (pv 1) (pv 2)))) (pms_cons (pss_one (ps_ret (pe_op op_mulW (pv 1) (pv 2)))) (pms_cons (pss_one (ps_ret (pe_cmpR op_lt (pv 1) (pv 2) (nomark _)))) (pms_cons (pss_one (ps_ret (pe_cmpR op_le (pv 1) (pv 2) (nomark _)))) (pms_cons (pss_one (ps_ret (pe_and (pv 1) (pe_one (pv 2))))) (pms_cons (pss_one (ps_ret (pe_or (pv 1) (pe_one (pv 2))))) pms_nil))))))))
      (pss_one (ps_ret (pe_cmpR op_eq (pv 1) (pv 2) (nomark _))))), ?_⟩
    refine ⟨_, rfl, _, rfl, ?_⟩
    cases op with
    | add =>
      obtain ⟨x, rfl, h1⟩ := Lg.int ha
      obtain ⟨y, rfl, h2⟩ := Lg.int hb
      exact ⟨true, by decide, _, rfl, _, rfl, _, _, rfl, rfl, q⟩
    | sub =>
      obtain ⟨x, rfl, h1⟩ := Lg.int ha
      obtain ⟨y, rfl, h2⟩ := Lg.int hb
      exact ⟨false, by decide, true, by decide, _, rfl, _, rfl, _, _, rfl, rfl, q⟩
    | mul =>
      obtain ⟨x, rfl, h1⟩ := Lg.int ha
      obtain ⟨y, rfl, h2⟩ := Lg.int hb
      exact ⟨false, by decide, false, by decide, true, by decide, _, rfl, _, rfl, _, _, rfl, rfl, wide_mul (Nat.lt_of_lt_of_le h1 (Nat.pow_le_pow_right (by decide) (Nat.le_succ B))) (Nat.lt_of_lt_of_le h2 (Nat.pow_le_pow_right (by decide) (Nat.le_succ B'))) (Nat.succ_pos _) (Nat.succ_pos _) (by omega), q⟩
    | lt =>
      obtain ⟨x, rfl, h1⟩ := Lg.int ha
      obtain ⟨y, rfl, h2⟩ := Lg.int hb
      exact ⟨false, by decide, false, by decide, false, by decide, true, by decide, _, rfl, _, rfl, _, _, rfl, rfl, q⟩
    | le =>
      obtain ⟨x, rfl, h1⟩ := Lg.int ha
      obtain ⟨y, rfl, h2⟩ := Lg.int hb
      exact ⟨false, by decide, false, by decide, false, by decide, false, by decide, true, by decide, _, rfl, _, rfl, _, _, rfl, rfl, q⟩
    | and =>
      obtain ⟨x, rfl⟩ := Lg.truth ha
      obtain ⟨y, rfl⟩ := Lg.truth hb
      refine ⟨false, by decide, false, by decide, false, by decide, false, by decide, false, by decide, true, by decide, _, rfl, _, rfl, ?_⟩
      cases x with
      | true => exact ⟨_, rfl, q⟩
      | false => exact q
    | or =>
      obtain ⟨x, rfl⟩ := Lg.truth ha
      obtain ⟨y, rfl⟩ := Lg.truth hb
      refine ⟨false, by decide, false, by decide, false, by decide, false, by decide, false, by decide, false, by decide, true, by decide, _, rfl, _, rfl, ?_⟩
      cases x with
      | true => exact q
      | false => exact ⟨_, rfl, q⟩
    | eq =>
      obtain ⟨x, rfl, h1⟩ := Lg.int ha
      obtain ⟨y, rfl, h2⟩ := Lg.int hb
      refine ⟨false, by decide, false, by decide, false, by decide, false, by decide, false, by decide, false, by decide, false, by decide, _, rfl, _, rfl, rfl, ?_⟩
      have e : decide (Lf.v (.i x) = Lf.v (.i y)) = decide (x = y) := by
        rw [Bool.eq_iff_iff, decide_eq_true_iff, decide_eq_true_iff]
        exact V.int.injEq x y ▸ Iff.rfl
      rw [e]
      exact q
theorem ok_combined {f : Addr} {fd : FuncData} (F : Fun K "combined" "combined" sCombined f fd) (T : GloW mg) (dn : Df P w K mg base "node" 1 ["number", "yes", "no"] spNode) (dc : Df P w K mg base "case_of" 2 ["tree", "number", "truth"] spCase) (dt : DfR P w K mg base "tops" 2 spTops) (dj : Df P w K mg base "joined" 1 ["sign", "one", "other"] spJoined)
    (hm : mg "combined" = some (.ref f)) : ∀ m, m ≤ 50 → FnOk P w K mg base CX0 (3 + m) f fd ["sign", "one", "other"] (spCombined m) := by
  intro m
  induction m with
  | zero =>
    intro _
    refine F.ok scCombined (k := 2) (fun vs H Q E h => ?_) (fun cdv A outer s H vs Q E hr h => ?_)
    · obtain ⟨op, v1, v2, t1, t2, B, B', S, rfl, _⟩ := h
      rfl
    · obtain ⟨op, v1, v2, t1, t2, B, B', S, rfl, hv1, hv2, hS, hl, hB, hB', c1, c2, q⟩ := h
      refine ⟨_, (pss_cons (ps_set (i := 3) scCombined.nd rfl (Or.inl rfl) (pe_dfR dt (hr.mono (by omega)) (by rfl) (pa_cons (pv 1) (pa_cons (pv 2) pa_nil))))
      (pss_cons (ps_if (pt_cmpR (op_eqD hr.units) (pv 3) (pe_lst pa_nil) (nomark _)) (pss_one (ps_ret (pe_df (E := E0) dj (hr.mono (by omega)) (by rfl) (pa_cons (pv 0) (pa_cons (pv 1) (pa_cons (pv 2) pa_nil)))))) pss_nil)
      (pss_cons ps_never
      (pss_cons ps_never
      (pss_cons ps_never
      (pss_one ps_never)))))), ?_⟩
      refine ⟨_, rfl, _, rfl, _, _, t1, t2, rfl, hv1, hv2, fun p H1 s1 e1 => ?_⟩
      refine ⟨_, rfl, (by show 0 ≤ sizeLine; decide), fun p0 n0 => ?_⟩
      have s2 := same_upd (o := .lst []) n0
      have e2 := s2 _ _ e1
      refine ⟨_, _, .lst (SqL.of e2) (dp_ints _), .lst (SqL.of upd_same) .nil, shaped_ints _, shaped_ints [], _, rfl, ?_⟩
      obtain rfl := List.length_eq_zero_iff.mp (Nat.le_zero.mp hl)
      have z1 : topsOf t1 = [] := List.eq_nil_iff_forall_not_mem.mpr fun x hx => by cases tops_mem c1 x hx
      have z2 : topsOf t2 = [] := List.eq_nil_iff_forall_not_mem.mpr fun x hx => by cases tops_mem c2 x hx
      rw [eqv_nil]
      refine ite2 (fun hb => ?_) (fun hb => absurd (decide_eq_true (by rw [z1, z2]; rfl)) hb)
      obtain ⟨a, rfl⟩ := tops_nil z1
      obtain ⟨b, rfl⟩ := tops_nil z2
      obtain rfl := hv1.lf_of
      obtain rfl := hv2.lf_of
      have g1 := c1.lf_of
      have g2 := c2.lf_of
      exact ⟨_, rfl, _, rfl, _, rfl, op, a, b, B, B', rfl, g1, g2, hB, hB', q _ _ (.lf (op.ap a b)) (fun b o z => s2 b o (s1 b o z)) (.lf _) (.lf (Op.bound g1 g2)) fun r => rfl⟩
  | succ m IH =>
    intro hm50
    have ih : Df P w K mg base "combined" (3 + m) ["sign", "one", "other"] (spCombined m) := ⟨f, fd, IH (by omega), hm, F.kp, F.binds fun _ _ _ _ _ _ us hl => match us, hl with | [_, _, _], _ => rfl⟩
    refine F.ok scCombined (k := 3 + m) (fun vs H Q E h => ?_) (fun cdv A outer s H vs Q E hr h => ?_)
    · obtain ⟨op, v1, v2, t1, t2, B, B', S, rfl, _⟩ := h
      rfl
    · obtain ⟨op, v1, v2, t1, t2, B, B', S, rfl, hv1, hv2, hS, hl, hB, hB', c1, c2, q⟩ := h
      refine ⟨_, (pss_cons (ps_set (i := 3) scCombined.nd rfl (Or.inl rfl) (pe_dfR dt (hr.mono (by omega)) (by rfl) (pa_cons (pv 1) (pa_cons (pv 2) pa_nil))))
      (pss_cons (ps_if (pt_cmpR (op_eqD hr.units) (pv 3) (pe_lst pa_nil) (nomark _)) (pss_one (ps_ret (pe_df (E := E0) dj (hr.mono (by omega)) (by rfl) (pa_cons (pv 0) (pa_cons (pv 1) (pa_cons (pv 2) pa_nil)))))) pss_nil)
      (pss_cons (ps_set (i := 4) scCombined.nd rfl (Or.inl rfl) (pe_callB (cr_min rfl) (by rfl) T.min (by decide +kernel) (pa_cons (pv 3) pa_nil)))
      (pss_cons (ps_set (i := 5) scCombined.nd rfl (Or.inl rfl) (pe_df (E := E0) ih hr (by rfl) (pa_cons (pv 0) (pa_cons (pe_df (E := E0) dc (hr.mono (by omega)) (by rfl) (pa_cons (pv 1) (pa_cons (pv 4) (pa_cons pe_bl pa_nil)))) (pa_cons (pe_df (E := E0) dc (hr.mono (by omega)) (by rfl) (pa_cons (pv 2) (pa_cons (pv 4) (pa_cons pe_bl pa_nil)))) pa_nil)))))
      (pss_cons (ps_set (i := 6) scCombined.nd rfl (Or.inl rfl) (pe_df (E := E0) ih hr (by rfl) (pa_cons (pv 0) (pa_cons (pe_df (E := E0) dc (hr.mono (by omega)) (by rfl) (pa_cons (pv 1) (pa_cons (pv 4) (pa_cons pe_bl pa_nil)))) (pa_cons (pe_df (E := E0) dc (hr.mono (by omega)) (by rfl) (pa_cons (pv 2) (pa_cons (pv 4) (pa_cons pe_bl pa_nil)))) pa_nil)))))
      (pss_one (ps_ret (pe_df (E := E0) dn (hr.mono (by omega)) (by rfl) (pa_cons (pv 4) (pa_cons (pv 5) (pa_cons (pv 6) pa_nil))))))))))), ?_⟩
      refine ⟨_, rfl, _, rfl, _, _, t1, t2, rfl, hv1, hv2, fun p H1 s1 e1 => ?_⟩
      refine ⟨_, rfl, (by show 0 ≤ sizeLine; decide), fun p0 n0 => ?_⟩
      have s2 := same_upd (o := .lst []) n0
      have e2 := s2 _ _ e1
      refine ⟨_, _, .lst (SqL.of e2) (dp_ints _), .lst (SqL.of upd_same) .nil, shaped_ints _, shaped_ints [], _, rfl, ?_⟩
      rw [eqv_nil]
      refine ite2 (fun hb => ?_) (fun hb => ?_)
      · obtain ⟨z1, z2⟩ := List.append_eq_nil_iff.mp (of_decide_eq_true hb)
        obtain ⟨a, rfl⟩ := tops_nil z1
        obtain ⟨b, rfl⟩ := tops_nil z2
        obtain rfl := hv1.lf_of
        obtain rfl := hv2.lf_of
        have g1 := c1.lf_of
        have g2 := c2.lf_of
        exact ⟨_, rfl, _, rfl, _, rfl, op, a, b, B, B', rfl, g1, g2, hB, hB', q _ _ (.lf (op.ap a b)) (fun b o z => s2 b o (s1 b o z)) (.lf _) (.lf (Op.bound g1 g2)) fun r => rfl⟩
      · have ne : topsOf t1 ++ topsOf t2 ≠ [] := fun z => hb (decide_eq_true z)
        refine ⟨_, rfl, p, _, rfl, SqL.of e2, List.length_pos_iff.mpr ne, fun least hls hle => ?_⟩
        have s3 : Same H (upd H1 p0 (.lst [])) := fun b o z => s2 b o (s1 b o z)
        have hv1' := hv1.same s3
        have hv2' := hv2.same s3
        have f1 : t1.from least := from_tops fun x hx => hle x (List.mem_append_left _ hx)
        have f2 : t2.from least := from_tops fun x hx => hle x (List.mem_append_right _ hx)
        have hls : least ∈ S := by
          rcases List.mem_append.mp hls with z | z
          · exact tops_mem c1 _ z
          · exact tops_mem c2 _ z
        have dl := above_len hS hls
        have k1 := fun b => caseTop_cn (b := b) hS c1 f1
        have k2 := fun b => caseTop_cn (b := b) hS c2 f2
        refine ⟨_, rfl, _, rfl, _, rfl, _, t1, least, true, rfl, hv1', f1, fun v3 hv3 => ?_⟩
        refine ⟨_, rfl, _, rfl, _, t2, least, true, rfl, hv2', f2, fun v4 hv4 => ?_⟩
        refine ⟨op, v3, v4, _, _, B, B', above least S, rfl, hv3, hv4, above_asc hS, by omega, hB, hB', k1 true, k2 true, fun v5 H3 t5 s5 hv5 ct5 et5 => ?_⟩
        refine ⟨_, rfl, _, rfl, _, rfl, _, t1, least, false, rfl, hv1'.same s5, f1, fun v6 hv6 => ?_⟩
        refine ⟨_, rfl, _, rfl, _, t2, least, false, rfl, hv2'.same s5, f2, fun v7 hv7 => ?_⟩
        refine ⟨op, v6, v7, _, _, B, B', above least S, rfl, hv6, hv7, above_asc hS, by omega, hB, hB', k1 false, k2 false, fun v8 H4 t8 s8 hv8 ct8 et8 => ?_⟩
        have d5 := ct5.dep_le
        have d8 := ct8.dep_le
        refine ⟨_, rfl, _, rfl, _, rfl, least, v5, v8, t5, t8, op.kout, rfl, hv5.same s8, hv8, ct5.hom Lg.k, ct8.hom Lg.k, by omega, by omega, fun v H5 s9 hv => ?_⟩
        refine q v H5 _ (fun b o z => s9 b o (s8 b o (s5 b o (s3 b o z)))) hv (mkNd_cn' hS hls ct5 ct8) fun r => ?_
        rw [mkNd_ev]
        by_cases hr : r least = true
        · rw [if_pos hr, et5, caseTop_ev hS c1 f1, caseTop_ev hS c2 f2, put_true hr]
        · rw [if_neg hr, et8, caseTop_ev hS c1 f1, caseTop_ev hS c2 f2, put_true (Bool.eq_false_iff.mpr hr)]
end
end Law

set_option Elab.async false
set_option linter.all false
set_option maxRecDepth 100000
set_option maxHeartbeats 1000000
namespace Law
open PySem PySem.Spec PyProof.Rows L2 Cor
abbrev sTurned : Stmt := topS 21
abbrev sTruthT : Stmt := topS 27
abbrev sIsInt : Stmt := topS 9
theorem scTurned : FnScope ["tree", "number", "yes", "no"] ["tree"] (defScope sTurned) := ⟨rfl, rfl, rfl, by decide +kernel, rfl, by decide +kernel, by decide +kernel⟩
theorem scTruthT : FnScope ["tree"] ["tree"] (defScope sTruthT) := ⟨rfl, rfl, rfl, by decide +kernel, rfl, by decide +kernel, by decide +kernel⟩
theorem scIsInt : FnScope ["value"] ["value"] (defScope sIsInt) := ⟨rfl, rfl, rfl, by decide +kernel, rfl, by decide +kernel, by decide +kernel⟩
def Lf.turn : Lf → Lf
  | .i n => .i (-n)
  | .b v => .b (!v)
theorem Lg.turn {k : Bool} {B : Nat} : ∀ {a : Lf}, Lg k B a → Lg k B (Lf.turn a)
  | .i n, h => ⟨h.1, by rw [Int.natAbs_neg]; exact h.2⟩
  | .b _, h => h
def spTurned (m : Nat) : Sp := fun vs H Q _ => ∃ (v : V) (t : Tr) (k : Bool) (B : Nat) (S : List Int), vs = [v] ∧ Tv H v t ∧ t.dep < m ∧ Asc S ∧ S.length ≤ 50 ∧ Cn (Lg k B) S t ∧
  ∀ v' H' t', Same H H' → Tv H' v' t' → Cn (Lg k B) S t' → (∀ r : Rho, t'.ev r = Lf.turn (t.ev r)) → Q v' H'
def spTruthT (m : Nat) : Sp := fun vs H Q _ => ∃ (v : V) (t : Tr) (k : Bool), vs = [v] ∧ Tv H v t ∧ t.dep < m ∧ t.hom k ∧ Q (.bl k) H
def isI : V → Bool
  | .int _ => true
  | _ => false
/-- a plain value that may be given for a worth -/
def spIsInt (K : PySem.W.Frag) : Sp := fun vs H Q _ => ∃ (v : V) (ty : Value) (b c : Bool), vs = [v] ∧ TyX K H v ty ∧ PySem.W.kitOne K ty (.type "int") = some b ∧ PySem.W.kitOne K ty (.type "bool") = some c ∧ Q (.bl (b && !c)) H
section
variable {P : Program} {w : World} {K : PySem.W.Frag} {mg : Str → Option Value} {base : Heap}
theorem ok_isint {f : Addr} {fd : FuncData} (F : Fun K "is_integer" "is_integer" sIsInt f fd) (T : GloW mg) : FnOk P w K mg base CX0 1 f fd ["value"] (spIsInt K) := by
  refine F.ok scIsInt (fun vs H Q E h => ?_) (fun cdv A outer s H vs Q E hr h => ?_)
  · obtain ⟨v, ty, b, c, rfl, _⟩ := h
    rfl
  · obtain ⟨v, ty, b, c, rfl, h1, h2, h3, q⟩ := h
    refine ⟨_, (pss_one (ps_ret (pe_and (pe_callB (id := "isinstance") (show CallR _ (.builtin "isinstance") (rIsi K) from call_isi) (by rfl) T.isinstance (by decide +kernel) (pa_cons (pv 0) (pa_cons (pe_bltn (v := .ty "int") (by rfl) T.int (by decide +kernel) rfl) pa_nil))) (pe_one (pe_not (pe_callB (id := "isinstance") (show CallR _ (.builtin "isinstance") (rIsi K) from call_isi) (by rfl) T.isinstance (by decide +kernel) (pa_cons (pv 0) (pa_cons (pe_bltn (v := .ty "bool") (by rfl) T.bool (by decide +kernel) rfl) pa_nil)))))))), ?_⟩
    refine ⟨_, rfl, _, _, _, _, _, rfl, .ty "int", h1, h2, _, rfl, ?_⟩
    cases b with
    | true => exact ⟨_, rfl, _, _, _, _, _, rfl, .ty "bool", h1, h3, _, rfl, q⟩
    | false => exact q
theorem ok_truthT {f : Addr} {fd : FuncData} (F : Fun K "is_truth_tree" "is_truth_tree" sTruthT f fd) (T : GloW mg) (dl : Df P w K mg base "is_leaf" 1 ["tree"] spLeaf) (hm : mg "is_truth_tree" = some (.ref f)) :
    ∀ m, FnOk P w K mg base CX0 (2 + m) f fd ["tree"] (spTruthT m) := by
  intro m
  induction m with
  | zero =>
    refine F.ok scTruthT (k := 1) (fun vs H Q E h => ?_) (fun cdv A outer s H vs Q E hr h => ?_)
    · obtain ⟨v, t, k, rfl, _⟩ := h
      rfl
    · obtain ⟨v, t, k, rfl, _, hl, _⟩ := h
      omega
  | succ m IH =>
    have ih : Df P w K mg base "is_truth_tree" (2 + m) ["tree"] (spTruthT m) := ⟨f, fd, IH, hm, F.kp, F.binds fun _ _ _ _ _ _ us hl => match us, hl with | [_], _ => rfl⟩
    refine F.ok scTruthT (k := 2 + m) (fun vs H Q E h => ?_) (fun cdv A outer s H vs Q E hr h => ?_)
    · obtain ⟨v, t, k, rfl, _⟩ := h
      rfl
    · obtain ⟨v, t, k, rfl, hv, hl, hk, q⟩ := h
      refine ⟨_, (pss_one (ps_ret (pe_ifExp (pt_val (pe_df (E := E0) dl (hr.mono (by omega)) (by rfl) (pa_cons (pv 0) pa_nil))) (pe_callB (id := "isinstance") (show CallR _ (.builtin "isinstance") (rIsi K) from call_isi) (by rfl) T.isinstance (by decide +kernel) (pa_cons (pv 0) (pa_cons (pe_bltn (v := .ty "bool") (by rfl) T.bool (by decide +kernel) rfl) pa_nil))) (pe_df (E := E0) ih hr (by rfl) (pa_cons (pe_ix ix_tup (pv 0) pe_int (fun _ _ => rfl)) pa_nil))))), ?_⟩
      refine ⟨_, rfl, _, t, rfl, hv, _, rfl, ?_⟩
      cases t with
      | lf l =>
        obtain rfl := hv.lf_of
        cases l with
        | i n =>
          have e : k = false := hk
          subst e
          exact ⟨_, rfl, _, _, _, _, _, rfl, .ty "bool", .base (.int n), kit_ty (r := false) (by decide +kernel), q⟩
        | b n =>
          have e : k = true := hk
          subst e
          exact ⟨_, rfl, _, _, _, _, _, rfl, .ty "bool", .base (.bl n), kit_ty (r := true) (by decide +kernel), q⟩
      | nd n ty to =>
        obtain ⟨a, y, o, rfl, h1, h2, h3⟩ := hv.nd_of
        have hl : max ty.dep to.dep + 1 < m + 1 := hl
        exact ⟨_, rfl, a, _, _, _, rfl, rfl, SqT.of h1, rfl, _, ty, k, rfl, h2, by omega, hk.1, q⟩
theorem ok_turned {f : Addr} {fd : FuncData} (F : Fun K "turned" "turned" sTurned f fd) (T : GloW mg) (dl : Df P w K mg base "is_leaf" 1 ["tree"] spLeaf) (dn : Df P w K mg base "node" 1 ["number", "yes", "no"] spNode) (hm : mg "turned" = some (.ref f)) :
    ∀ m, m ≤ 50 → FnOk P w K mg base CX0 (2 + m) f fd ["tree"] (spTurned m) := by
  intro m
  induction m with
  | zero =>
    intro _
    refine F.ok scTurned (k := 1) (fun vs H Q E h => ?_) (fun cdv A outer s H vs Q E hr h => ?_)
    · obtain ⟨v, t, k, B, S, rfl, _⟩ := h
      rfl
    · obtain ⟨v, t, k, B, S, rfl, _, hl, _⟩ := h
      omega
  | succ m IH =>
    intro hm50
    have ih : Df P w K mg base "turned" (2 + m) ["tree"] (spTurned m) := ⟨f, fd, IH (by omega), hm, F.kp, F.binds fun _ _ _ _ _ _ us hl => match us, hl with | [_], _ => rfl⟩
    refine F.ok scTurned (k := 2 + m) (fun vs H Q E h => ?_) (fun cdv A outer s H vs Q E hr h => ?_)
    · obtain ⟨v, t, k, B, S, rfl, _⟩ := h
      rfl
    · obtain ⟨v, t, k, B, S, rfl, hv, hl, hS, h50, ct, q⟩ := h
      refine ⟨_, (pss_cons (ps_if (pt_val (pe_df (E := E0) dl (hr.mono (by omega)) (by rfl) (pa_cons (pv 0) pa_nil))) (pss_one (ps_ret (pe_ifExp (pt_val (pe_callB (id := "isinstance") (show CallR _ (.builtin "isinstance") (rIsi K) from call_isi) (by rfl) T.isinstance (by decide +kernel) (pa_cons (pv 0) (pa_cons (pe_bltn (v := .ty "bool") (by rfl) T.bool (by decide +kernel) rfl) pa_nil)))) (pe_not (pv 0)) (pe_un un_neg (pv 0))))) pss_nil)
      (pss_cons (ps_asg (pv 0) (pg_tup rfl (pgs_cons (pg_name (i := 1) scTurned.nd rfl (Or.inl rfl)) (pgs_cons (pg_name (i := 2) scTurned.nd rfl (Or.inl rfl)) (pgs_cons (pg_name (i := 3) scTurned.nd rfl (Or.inl rfl)) pgs_nil)))))
      (pss_one (ps_ret (pe_df (E := E0) dn (hr.mono (by omega)) (by rfl) (pa_cons (pv 1) (pa_cons (pe_df (E := E0) ih hr (by rfl) (pa_cons (pv 2) pa_nil)) (pa_cons (pe_df (E := E0) ih hr (by rfl) (pa_cons (pv 3) pa_nil)) pa_nil)))))))), ?_⟩
      refine ⟨_, rfl, _, t, rfl, hv, _, rfl, ?_⟩
      cases t with
      | lf l =>
        have g := ct.lf_of
        have q' := q _ H (.lf (Lf.turn l)) (fun _ _ z => z) (.lf _) (.lf (Lg.turn g)) fun _ => rfl
        obtain rfl := hv.lf_of
        cases l with
        | i n => exact ⟨_, rfl, _, _, _, _, _, rfl, .ty "bool", .base (.int n), kit_ty (r := false) (by decide +kernel), _, rfl, _, rfl, _, rfl, q'⟩
        | b n => exact ⟨_, rfl, _, _, _, _, _, rfl, .ty "bool", .base (.bl n), kit_ty (r := true) (by decide +kernel), _, rfl, _, rfl, _, rfl, q'⟩
      | nd n ty to =>
        obtain ⟨a, y, o, rfl, h1, h2, h3⟩ := hv.nd_of
        have hl : max ty.dep to.dep + 1 < m + 1 := hl
        obtain ⟨hn, _, cy, co⟩ := Cn.below hS ct
        have dl := above_len hS hn
        refine ⟨_, rfl, a, _, rfl, SqT.of h1, rfl, _, _, rfl, _, _, rfl, _, _, rfl, rfl, ?_⟩
        refine ⟨_, rfl, _, rfl, y, ty, k, B, above n S, rfl, h2, by omega, above_asc hS, by omega, cy, fun v1 H1 t1 s1 hv1 c1 e1 => ?_⟩
        refine ⟨_, rfl, o, to, k, B, above n S, rfl, h3.same s1, by omega, above_asc hS, by omega, co, fun v2 H2 t2 s2 hv2 c2 e2 => ?_⟩
        have dy : t1.dep ≤ 60 := by have := c1.dep_le; omega
        have d0 : t2.dep ≤ 60 := by have := c2.dep_le; omega
        refine ⟨n, v1, v2, t1, t2, k, rfl, hv1.same s2, hv2, c1.hom Lg.k, c2.hom Lg.k, dy, d0, fun v H3 s3 hv => ?_⟩
        refine q v H3 _ (fun b o z => s3 b o (s2 b o (s1 b o z))) hv (mkNd_cn' hS hn c1 c2) fun r => ?_
        rw [mkNd_ev, e1, e2]
        show _ = Lf.turn (if r n = true then _ else _)
        by_cases hr : r n = true
        · rw [if_pos hr, if_pos hr]
        · rw [if_neg hr, if_neg hr]
end
end Law

set_option Elab.async false
set_option linter.all false
set_option maxRecDepth 100000
set_option maxHeartbeats 1000000
namespace Law
open PySem PySem.Spec PyProof.Rows L2 Cor
abbrev sNumbers : Stmt := topS 22
abbrev sReduced : Stmt := topS 23
theorem scNumbers : FnScope ["tree", "number", "yes", "no"] ["tree"] (defScope sNumbers) := ⟨rfl, rfl, rfl, by decide +kernel, rfl, by decide +kernel, by decide +kernel⟩
theorem scReduced : FnScope ["tree", "words", "number", "yes", "no"] ["tree", "words"] (defScope sReduced) := ⟨rfl, rfl, rfl, by decide +kernel, rfl, by decide +kernel, by decide +kernel⟩
theorem asc_sub : ∀ {S ns : List Int}, Asc S → Asc ns → (∀ n ∈ ns, n ∈ S) → ns.Sublist S
  | _, [], _, _, _ => List.nil_sublist _
  | [], n :: _, _, _, h => by cases h n List.mem_cons_self
  | s :: S, n :: ns, hS, hn, h => by
    obtain ⟨hs, hS'⟩ := List.pairwise_cons.mp hS
    obtain ⟨h1, hn'⟩ := List.pairwise_cons.mp hn
    by_cases e : n = s
    · subst e
      refine (asc_sub hS' hn' fun x hx => ?_).cons_cons n
      have := h1 x hx
      rcases List.mem_cons.mp (h x (List.mem_cons_of_mem _ hx)) with z | z
      · omega
      · exact z
    · refine (asc_sub hS' hn fun x hx => ?_).cons s
      have n1 : n ∈ S := (List.mem_cons.mp (h n List.mem_cons_self)).resolve_left e
      have n2 := hs n n1
      rcases List.mem_cons.mp (h x hx) with z | z
      · rcases List.mem_cons.mp hx with y | y
        · omega
        · have := h1 x y; omega
      · exact z
def spNumbers (m : Nat) : Sp := fun vs H Q _ => ∃ (v : V) (t : Tr) (k : Bool) (B : Nat) (S : List Int), vs = [v] ∧ Tv H v t ∧ t.dep < m ∧ Asc S ∧ S.length ≤ 31 ∧ Cn (Lg k B) S t ∧
  ∀ p H' ns, Same H H' → H' p = some (.lst (ns.map V.int)) → Asc ns → (∀ n, n ∈ ns ↔ n ∈ t.nums) → ns.length ≤ S.length → Q (.ref p) H'
/-- the words known, at d -/
def Wd (H : Hp) (d : Addr) (wf : Int → Option Bool) : Prop := ∃ kvs, H d = some (.dK kvs) ∧ ∀ n, valV kvs (Sum.inl n) = (wf n).map V.bl
theorem Wd.kp {H H' : Hp} {d : Addr} {wf : Int → Option Bool} (k : Kp H H') (h : Wd H d wf) : Wd H' d wf := let ⟨kvs, h1, h2⟩ := h; ⟨kvs, k _ _ (fun _ z => by cases z) h1, h2⟩
def over (wf : Int → Option Bool) (r : Rho) : Rho := fun n => (wf n).getD (r n)
def left (wf : Int → Option Bool) (S : List Int) : List Int := S.filter fun n => (wf n).isNone
def spReduced (m : Nat) : Sp := fun vs H Q _ => ∃ (v : V) (t : Tr) (d : Addr) (wf : Int → Option Bool) (k : Bool) (B : Nat) (S : List Int), vs = [v, .ref d] ∧ Tv H v t ∧ Wd H d wf ∧ t.dep < m ∧ Asc S ∧ S.length ≤ 50 ∧ Cn (Lg k B) S t ∧
  ∀ v' H' t', Same H H' → Tv H' v' t' → Cn (Lg k B) (left wf S) t' → (∀ r : Rho, t'.ev r = t.ev (over wf r)) → Q v' H'
theorem left_above {wf : Int → Option Bool} {n : Int} {S : List Int} : left wf (above n S) = above n (left wf S) := by
  unfold left above
  rw [List.filter_filter, List.filter_filter]
  congr 1
  funext x
  rw [Bool.and_comm]
section
variable {P : Program} {w : World} {K : PySem.W.Frag} {mg : Str → Option Value} {base : Heap}
theorem ok_numbers {f : Addr} {fd : FuncData} (F : Fun K "numbers_in" "numbers_in" sNumbers f fd) (T : GloW mg) (dl : Df P w K mg base "is_leaf" 1 ["tree"] spLeaf) (hm : mg "numbers_in" = some (.ref f)) :
    ∀ m, m ≤ 50 → FnOk P w K mg base CX0 (2 + m) f fd ["tree"] (spNumbers m) := by
  intro m
  induction m with
  | zero =>
    intro _
    refine F.ok scNumbers (k := 1) (fun vs H Q E h => ?_) (fun cdv A outer s H vs Q E hr h => ?_)
    · obtain ⟨v, t, k, B, S, rfl, _⟩ := h
      rfl
    · obtain ⟨v, t, k, B, S, rfl, _, hl, _⟩ := h
      omega
  | succ m IH =>
    intro hm50
    have ih : Df P w K mg base "numbers_in" (2 + m) ["tree"] (spNumbers m) := ⟨f, fd, IH (by omega), hm, F.kp, F.binds fun _ _ _ _ _ _ us hl => match us, hl with | [_], _ => rfl⟩
    refine F.ok scNumbers (k := 2 + m) (fun vs H Q E h => ?_) (fun cdv A outer s H vs Q E hr h => ?_)
    · obtain ⟨v, t, k, B, S, rfl, _⟩ := h
      rfl
    · obtain ⟨v, t, k, B, S, rfl, hv, hl, hS, h31, ct, q⟩ := h
      refine ⟨_, (pss_cons (ps_if (pt_val (pe_df (E := E0) dl (hr.mono (by omega)) (by rfl) (pa_cons (pv 0) pa_nil))) (pss_one (ps_ret (pe_lst pa_nil))) pss_nil)
      (pss_cons (ps_asg (pv 0) (pg_tup rfl (pgs_cons (pg_name (i := 1) scNumbers.nd rfl (Or.inl rfl)) (pgs_cons (pg_name (i := 2) scNumbers.nd rfl (Or.inl rfl)) (pgs_cons (pg_name (i := 3) scNumbers.nd rfl (Or.inl rfl)) pgs_nil)))))
      (pss_one (ps_ret (pe_lst (pa_cons (pv 1) (StX.pa_star (pe_callB (cr_sortedSet rfl) (by rfl) T.sorted (by decide +kernel) (pa_cons (pe_callTy (cr_setI rfl) (by rfl) T.set (by decide +kernel) (pa_cons (pe_op op_cat (pe_df (E := E0) ih hr (by rfl) (pa_cons (pv 2) pa_nil)) (pe_df (E := E0) ih hr (by rfl) (pa_cons (pv 3) pa_nil))) pa_nil)) pa_nil)) pa_nil))))))), ?_⟩
      refine ⟨_, rfl, _, t, rfl, hv, _, rfl, ?_⟩
      cases t with
      | lf l =>
        refine ⟨(by show 0 ≤ sizeLine; decide), fun p np => ?_⟩
        exact q p _ [] (same_upd np) upd_same .nil (fun n => Iff.rfl) (Nat.zero_le _)
      | nd n ty to =>
        obtain ⟨a, y, o, rfl, h1, h2, h3⟩ := hv.nd_of
        have hl : max ty.dep to.dep + 1 < m + 1 := hl
        obtain ⟨hn, _, cy, co⟩ := Cn.below hS ct
        have dl := above_len hS hn
        refine ⟨_, rfl, a, _, rfl, SqT.of h1, rfl, _, _, rfl, _, _, rfl, _, _, rfl, rfl, ?_⟩
        refine ⟨_, rfl, _, rfl, y, ty, k, B, above n S, rfl, h2, by omega, above_asc hS, by omega, cy, fun p1 H1 n1 s1 e1 a1 m1 l1 => ?_⟩
        refine ⟨_, rfl, o, to, k, B, above n S, rfl, h3.same s1, by omega, above_asc hS, by omega, co, fun p2 H2 n2 s2 e2 a2 m2 l2 => ?_⟩
        have len : (n1 ++ n2).length ≤ 60 := by rw [List.length_append]; omega
        refine ⟨p1, p2, _, _, rfl, rfl, s2 _ _ e1, e2, ?_, fun p3 np3 => ?_⟩
        · rw [List.length_map, List.length_map, ← List.length_append]; exact Nat.le_trans len (by decide)
        have s3 := same_upd (o := .lst (n1.map V.int ++ n2.map V.int)) np3
        refine ⟨p3, n1 ++ n2, rfl, SqL.of (by rw [List.map_append]; exact upd_same), by omega, fun p4 c hc np4 => ?_⟩
        have s4 := same_upd (o := SetO w p4 (fun j => decide (j ∈ n1 ++ n2)) c) np4
        refine ⟨p4, _, c, rfl, upd_same, by omega, fun ns p5 asc mem hlen np5 => ?_⟩
        have s5 := same_upd (o := .lst (ns.map V.int)) np5
        have up5 : (upd (upd (upd H2 p3 (.lst (n1.map V.int ++ n2.map V.int))) p4 (SetO w p4 (fun j => decide (j ∈ n1 ++ n2)) c)) p5 (.lst (ns.map V.int))) p5 = some (.lst (ns.map V.int)) := upd_same
        refine ⟨p5, _, rfl, .inr (SqL.of up5), ?_, fun p6 np6 => ?_⟩
        · show (ns.map V.int ++ []).length + 1 ≤ sizeLine
          rw [List.append_nil, List.length_map, hlen]; exact Nat.le_trans (Nat.succ_le_succ (Nat.le_trans hc len)) (by decide)
        have s6 := same_upd (o := .lst (V.int n :: (ns.map V.int ++ []))) np6
        have mem' : ∀ x, x ∈ ns ↔ x ∈ ty.nums ++ to.nums := fun x => by
          rw [mem x, decide_eq_true_iff, List.mem_append, List.mem_append, m1, m2]
        have hgt : ∀ x ∈ ns, n < x := fun x hx => by
          rcases List.mem_append.mp ((mem' x).mp hx) with z | z
          · exact cy.nums_above x z
          · exact co.nums_above x z
        have mem'' : ∀ x, x ∈ n :: ns ↔ x ∈ (Tr.nd n ty to).nums := fun x => by
          show _ ↔ x ∈ n :: (ty.nums ++ to.nums)
          rw [List.mem_cons, List.mem_cons, mem']
        have asc' : Asc (n :: ns) := List.pairwise_cons.mpr ⟨hgt, asc⟩
        refine q p6 _ (n :: ns) (fun b o z => s6 b o (s5 b o (s4 b o (s3 b o (s2 b o (s1 b o z)))))) (by rw [upd_same, List.append_nil]; rfl) asc' mem'' ?_
        exact (asc_sub hS asc' fun x hx => ct.mem x ((mem'' x).mp hx)).length_le
theorem ok_reduced {f : Addr} {fd : FuncData} (F : Fun K "reduced" "reduced" sReduced f fd) (T : GloW mg) (dl : Df P w K mg base "is_leaf" 1 ["tree"] spLeaf) (dn : Df P w K mg base "node" 1 ["number", "yes", "no"] spNode) (hm : mg "reduced" = some (.ref f)) :
    ∀ m, m ≤ 50 → FnOk P w K mg base CX0 (2 + m) f fd ["tree", "words"] (spReduced m) := by
  intro m
  induction m with
  | zero =>
    intro _
    refine F.ok scReduced (k := 1) (fun vs H Q E h => ?_) (fun cdv A outer s H vs Q E hr h => ?_)
    · obtain ⟨v, t, d, wf, k, B, S, rfl, _⟩ := h
      rfl
    · obtain ⟨v, t, d, wf, k, B, S, rfl, _, _, hl, _⟩ := h
      omega
  | succ m IH =>
    intro hm50
    have ih : Df P w K mg base "reduced" (2 + m) ["tree", "words"] (spReduced m) := ⟨f, fd, IH (by omega), hm, F.kp, F.binds fun _ _ _ _ _ _ us hl => match us, hl with | [_, _], _ => rfl⟩
    refine F.ok scReduced (k := 2 + m) (fun vs H Q E h => ?_) (fun cdv A outer s H vs Q E hr h => ?_)
    · obtain ⟨v, t, d, wf, k, B, S, rfl, _⟩ := h
      rfl
    · obtain ⟨v, t, d, wf, k, B, S, rfl, hv, hd, hl, hS, h50, ct, q⟩ := h
      have hu := hu_of hr
      refine ⟨_, (pss_cons (ps_if (pt_val (pe_df (E := E0) dl (hr.mono (by omega)) (by rfl) (pa_cons (pv 0) pa_nil))) (pss_one (ps_ret (pv 0))) pss_nil)
      (pss_cons (ps_asg (pv 0) (pg_tup rfl (pgs_cons (pg_name (i := 2) scReduced.nd rfl (Or.inl rfl)) (pgs_cons (pg_name (i := 3) scReduced.nd rfl (Or.inl rfl)) (pgs_cons (pg_name (i := 4) scReduced.nd rfl (Or.inl rfl)) pgs_nil)))))
      (pss_cons (ps_if (pt_cmp (pc_din hu (pv 2) (pv 1))) (pss_one (ps_ret (pe_df (E := E0) ih hr (by rfl) (pa_cons (pe_ifExp (pt_val (pe_dget hu (pv 1) (pv 2) (fun _ _ => rfl))) (pv 3) (pv 4)) (pa_cons (pv 1) pa_nil))))) pss_nil)
      (pss_one (ps_ret (pe_df (E := E0) dn (hr.mono (by omega)) (by rfl) (pa_cons (pv 2) (pa_cons (pe_df (E := E0) ih hr (by rfl) (pa_cons (pv 3) (pa_cons (pv 1) pa_nil))) (pa_cons (pe_df (E := E0) ih hr (by rfl) (pa_cons (pv 4) (pa_cons (pv 1) pa_nil))) pa_nil))))))))), ?_⟩
      refine ⟨_, rfl, _, t, rfl, hv, _, rfl, ?_⟩
      cases t with
      | lf l => exact ⟨_, rfl, q _ H _ (fun _ _ z => z) hv (.lf ct.lf_of) fun _ => rfl⟩
      | nd n ty to =>
        obtain ⟨a, y, o, rfl, h1, h2, h3⟩ := hv.nd_of
        have hl : max ty.dep to.dep + 1 < m + 1 := hl
        obtain ⟨hn, _, cy, co⟩ := Cn.below hS ct
        have dl := above_len hS hn
        obtain ⟨kvs, hk, hw⟩ := hd
        refine ⟨_, rfl, a, _, rfl, SqT.of h1, rfl, _, _, rfl, _, _, rfl, _, _, rfl, rfl, ?_⟩
        refine ⟨_, rfl, _, rfl, d, _, rfl, DGet.k (k := Sum.inl n) hk, _, rfl, ?_⟩
        rw [hw n]
        cases hb : wf n with
        | some b =>
          have hg : DGet H d (.int n) (some (.bl b)) := by
            have z := DGet.k (k := Sum.inl n) hk
            rw [hw n, hb] at z
            exact z
          have sub : (left wf (above n S)).Sublist (left wf S) := (above_sub n S).filter _
          refine ⟨_, rfl, _, rfl, d, _, rfl, hg, _, rfl, ?_⟩
          have ev : ∀ r : Rho, (Tr.nd n ty to).ev (over wf r) = if b = true then ty.ev (over wf r) else to.ev (over wf r) := fun r => by
            show (if (over wf r) n = true then _ else _) = _
            rw [show (over wf r) n = b by unfold over; rw [hb]; rfl]
          cases b with
          | true => exact ⟨_, rfl, _, rfl, y, ty, d, wf, k, B, above n S, rfl, h2, ⟨kvs, hk, hw⟩, by omega, above_asc hS, by omega, cy, fun v1 H1 t1 s1 hv1 c1 e1 => q v1 H1 t1 s1 hv1 (c1.sub sub) fun r => by rw [e1, ev, if_pos rfl]⟩
          | false => exact ⟨_, rfl, _, rfl, o, to, d, wf, k, B, above n S, rfl, h3, ⟨kvs, hk, hw⟩, by omega, above_asc hS, by omega, co, fun v1 H1 t1 s1 hv1 c1 e1 => q v1 H1 t1 s1 hv1 (c1.sub sub) fun r => by rw [e1, ev, if_neg Bool.false_ne_true]⟩
        | none =>
          refine ⟨_, rfl, _, rfl, _, rfl, y, ty, d, wf, k, B, above n S, rfl, h2, ⟨kvs, hk, hw⟩, by omega, above_asc hS, by omega, cy, fun v1 H1 t1 s1 hv1 c1 e1 => ?_⟩
          refine ⟨_, rfl, _, rfl, o, to, d, wf, k, B, above n S, rfl, h3.same s1, Wd.kp s1.kp ⟨kvs, hk, hw⟩, by omega, above_asc hS, by omega, co, fun v2 H2 t2 s2 hv2 c2 e2 => ?_⟩
          rw [left_above] at c1 c2
          have hS' : Asc (left wf S) := hS.sublist List.filter_sublist
          have hn' : n ∈ left wf S := List.mem_filter.mpr ⟨hn, by rw [hb]; rfl⟩
          have l' : (left wf S).length ≤ S.length := List.filter_sublist.length_le
          have l2 := above_len hS' hn'
          have dy : t1.dep ≤ 60 := by have := c1.dep_le; omega
          have d0 : t2.dep ≤ 60 := by have := c2.dep_le; omega
          refine ⟨n, v1, v2, t1, t2, k, rfl, hv1.same s2, hv2, c1.hom Lg.k, c2.hom Lg.k, dy, d0, fun v H3 s3 hv => ?_⟩
          refine q v H3 _ (fun b o z => s3 b o (s2 b o (s1 b o z))) hv (mkNd_cn' hS' hn' c1 c2) fun r => ?_
          rw [mkNd_ev, e1, e2]
          show _ = (if (over wf r) n = true then _ else _)
          rw [show (over wf r) n = r n by unfold over; rw [hb]; rfl]
end
end Law

set_option Elab.async false
set_option linter.all false
set_option maxRecDepth 100000
set_option maxHeartbeats 1000000
namespace Law
open PySem PySem.Spec PyProof.Rows L2 Cor
abbrev sText : Stmt := topS 24
theorem scText : FnScope ["tree", "number", "yes", "no"] ["tree"] (defScope sText) := ⟨rfl, rfl, rfl, by decide +kernel, rfl, by decide +kernel, by decide +kernel⟩
def Lf.text : Lf → Str
  | .i n => Str.ofString (toString n)
  | .b true => "yes"
  | .b false => "no"
def txt : Tr → Str
  | .lf v => Lf.text v
  | .nd n y o => Str.empty ++ "(" ++ Str.ofString (toString n) ++ " ? " ++ txt y ++ " : " ++ txt o ++ ")"
/-- numbers and values that have texts -/
def Sm : Tr → Prop
  | .lf (.i n) => n.natAbs.log2 < 1920
  | .lf (.b _) => True
  | .nd n y o => n.natAbs.log2 < 1920 ∧ Sm y ∧ Sm o
theorem num_len {n : Int} (h : n.natAbs.log2 < 1920) : (Str.ofString (toString n)).length ≤ 1921 := by
  rw [PySem.ofString_length]
  exact PySem.int_text_length_le (by decide) h
theorem txt_len : ∀ {t : Tr}, Sm t → (txt t).length + 2000 ≤ 4000 * 2 ^ t.dep
  | .lf (.i n), h => by
    have : (Str.ofString (toString n)).length ≤ 1921 := num_len h
    show (Str.ofString (toString n)).length + 2000 ≤ 4000 * 1
    omega
  | .lf (.b true), _ => by decide
  | .lf (.b false), _ => by decide
  | .nd n y o, h => by
    have h1 := num_len h.1
    have h2 := txt_len h.2.1
    have h3 := txt_len h.2.2
    show (Str.empty ++ "(" ++ Str.ofString (toString n) ++ " ? " ++ txt y ++ " : " ++ txt o ++ ")" : Str).length + 2000 ≤ 4000 * 2 ^ (max y.dep o.dep + 1)
    simp only [Str.length_append]
    have p1 : 2 ^ y.dep ≤ 2 ^ (max y.dep o.dep) := Nat.pow_le_pow_right (by decide) (by omega)
    have p2 : 2 ^ o.dep ≤ 2 ^ (max y.dep o.dep) := Nat.pow_le_pow_right (by decide) (by omega)
    have c1 : Str.length Str.empty = 0 := rfl
    have c2 : Str.length (Str.ofString "(") = 1 := by decide
    have c3 : Str.length (Str.ofString " ? ") = 3 := by decide
    have c4 : Str.length (Str.ofString " : ") = 3 := by decide
    have c5 : Str.length (Str.ofString ")") = 1 := by decide
    rw [c1, c2, c3, c4, c5, Nat.pow_succ]
    omega
theorem txt_fits {t : Tr} (h : Sm t) (d : t.dep ≤ 12) : (txt t).length ≤ sizeLine := by
  have := txt_len h
  have p : 2 ^ t.dep ≤ 2 ^ 12 := Nat.pow_le_pow_right (by decide) d
  have e : sizeLine = 16777216 := rfl
  rw [e]
  omega
def spText (m : Nat) : Sp := fun vs H Q _ => ∃ (v : V) (t : Tr), vs = [v] ∧ Tv H v t ∧ t.dep < m ∧ t.dep ≤ 12 ∧ Sm t ∧ Q (.str (txt t)) H
section
variable {P : Program} {w : World} {K : PySem.W.Frag} {mg : Str → Option Value} {base : Heap}
theorem ok_text {f : Addr} {fd : FuncData} (F : Fun K "tree_text" "tree_text" sText f fd) (T : GloW mg) (dl : Df P w K mg base "is_leaf" 1 ["tree"] spLeaf) (hm : mg "tree_text" = some (.ref f)) :
    ∀ m, FnOk P w K mg base CX0 (2 + m) f fd ["tree"] (spText m) := by
  intro m
  induction m with
  | zero =>
    refine F.ok scText (k := 1) (fun vs H Q E h => ?_) (fun cdv A outer s H vs Q E hr h => ?_)
    · obtain ⟨v, t, rfl, _⟩ := h
      rfl
    · obtain ⟨v, t, rfl, _, hl, _⟩ := h
      omega
  | succ m IH =>
    have ih : Df P w K mg base "tree_text" (2 + m) ["tree"] (spText m) := ⟨f, fd, IH, hm, F.kp, F.binds fun _ _ _ _ _ _ us hl => match us, hl with | [_], _ => rfl⟩
    refine F.ok scText (k := 2 + m) (fun vs H Q E h => ?_) (fun cdv A outer s H vs Q E hr h => ?_)
    · obtain ⟨v, t, rfl, _⟩ := h
      rfl
    · obtain ⟨v, t, rfl, hv, hl, h12, sm, q⟩ := h
      refine ⟨_, (pss_cons (ps_if (pt_val (pe_df (E := E0) dl (hr.mono (by omega)) (by rfl) (pa_cons (pv 0) pa_nil))) (pss_one (ps_ret (pe_ifExp (pt_val (pe_callB (id := "isinstance") (show CallR _ (.builtin "isinstance") (rIsi K) from call_isi) (by rfl) T.isinstance (by decide +kernel) (pa_cons (pv 0) (pa_cons (pe_bltn (v := .ty "bool") (by rfl) T.bool (by decide +kernel) rfl) pa_nil)))) (pe_ifExp (pt_val (pv 0)) pe_str pe_str) (pe_callTy call_str_int (by rfl) T.str (by decide +kernel) (pa_cons (pv 0) pa_nil))))) pss_nil)
      (pss_cons (ps_asg (pv 0) (pg_tup rfl (pgs_cons (pg_name (i := 1) scText.nd rfl (Or.inl rfl)) (pgs_cons (pg_name (i := 2) scText.nd rfl (Or.inl rfl)) (pgs_cons (pg_name (i := 3) scText.nd rfl (Or.inl rfl)) pgs_nil)))))
      (pss_one (ps_ret (pe_joined (PJ.cons pe_str (PJ.cons (pe_fmt (pv 1)) (PJ.cons pe_str (PJ.cons (pe_fmt (pe_df (E := E0) ih hr (by rfl) (pa_cons (pv 2) pa_nil))) (PJ.cons pe_str (PJ.cons (pe_fmt (pe_df (E := E0) ih hr (by rfl) (pa_cons (pv 3) pa_nil))) (PJ.cons pe_str PJ.nil)))))))))))), ?_⟩
      refine ⟨_, rfl, _, t, rfl, hv, _, rfl, ?_⟩
      cases t with
      | lf l =>
        obtain rfl := hv.lf_of
        cases l with
        | i n => exact ⟨_, rfl, _, _, _, _, _, rfl, .ty "bool", .base (.int n), kit_ty (r := false) (by decide +kernel), _, rfl, _, rfl, _, rfl, sm, q⟩
        | b n =>
          refine ⟨_, rfl, _, _, _, _, _, rfl, .ty "bool", .base (.bl n), kit_ty (r := true) (by decide +kernel), _, rfl, _, rfl, _, rfl, ?_⟩
          cases n with
          | true => exact q
          | false => exact q
      | nd n ty to =>
        have fit := txt_fits sm h12
        obtain ⟨a, y, o, rfl, h1, h2, h3⟩ := hv.nd_of
        have hl : max ty.dep to.dep + 1 < m + 1 := hl
        have h12 : max ty.dep to.dep + 1 ≤ 12 := h12
        obtain ⟨sn, sy, so⟩ := sm
        refine ⟨_, rfl, a, _, rfl, SqT.of h1, rfl, _, _, rfl, _, _, rfl, _, _, rfl, rfl, ?_⟩
        have fy := txt_fits sy (by omega)
        have fo := txt_fits so (by omega)
        have all : (Str.empty ++ "(" ++ Str.ofString (toString n) ++ " ? " ++ txt ty ++ " : " ++ txt to ++ ")" : Str).length ≤ sizeLine := fit
        have pre : ∀ {a b : Str}, (a ++ b).length ≤ sizeLine → a.length ≤ sizeLine := fun {a b} z => by rw [Str.length_append] at z; omega
        have a6 := pre all
        have a5 := pre a6
        have a4 := pre a5
        have a3 := pre a4
        have a2 := pre a3
        have a1 := pre a2
        refine ⟨_, rfl, a1, _, rfl, .inr ⟨n, rfl, sn, _, rfl, a2, _, rfl, a3, ?_⟩⟩
        refine ⟨_, rfl, y, ty, rfl, h2, by omega, by omega, sy, .inl ⟨_, rfl, fy, _, rfl, a4, _, rfl, a5, ?_⟩⟩
        refine ⟨_, rfl, o, to, rfl, h3, by omega, by omega, so, .inl ⟨_, rfl, fo, _, rfl, a6, _, rfl, all, q⟩⟩
end
end Law

set_option Elab.async false
set_option linter.all false
set_option maxRecDepth 100000
set_option maxHeartbeats 1000000
namespace Law
open PySem PySem.Spec PyProof.Rows L2 Cor
def inClass (s : Stmt) (j : Nat) : Stmt := match s with
  | .ClassDef _ _ _ b _ _ _ _ _ _ _ => b.getD j (.Pass ⟨0, 0, 0, 0⟩)
  | _ => .Pass ⟨0, 0, 0, 0⟩
abbrev sWInit : Stmt := inClass (topS 30) 0
theorem scWInit : FnScope ["self", "tree"] ["self", "tree"] (defScope sWInit) := ⟨rfl, rfl, rfl, by decide +kernel, rfl, by decide +kernel, by decide +kernel⟩
abbrev sWOf : Stmt := inClass (topS 30) 1
theorem scWOf : FnScope ["value"] ["value"] (defScope sWOf) := ⟨rfl, rfl, rfl, by decide +kernel, rfl, by decide +kernel, by decide +kernel⟩
abbrev sWEither : Stmt := inClass (topS 30) 2
theorem scWEither : FnScope ["number", "yes", "no"] ["number", "yes", "no"] (defScope sWEither) := ⟨rfl, rfl, rfl, by decide +kernel, rfl, by decide +kernel, by decide +kernel⟩
abbrev sWWords : Stmt := inClass (topS 30) 4
theorem scWWords : FnScope ["self"] ["self"] (defScope sWWords) := ⟨rfl, rfl, rfl, by decide +kernel, rfl, by decide +kernel, by decide +kernel⟩
abbrev sWPlain : Stmt := inClass (topS 30) 5
theorem scWPlain : FnScope ["self"] ["self"] (defScope sWPlain) := ⟨rfl, rfl, rfl, by decide +kernel, rfl, by decide +kernel, by decide +kernel⟩
abbrev sWIsT : Stmt := inClass (topS 30) 6
theorem scWIsT : FnScope ["self"] ["self"] (defScope sWIsT) := ⟨rfl, rfl, rfl, by decide +kernel, rfl, by decide +kernel, by decide +kernel⟩
abbrev sWUnder : Stmt := inClass (topS 30) 7
theorem scWUnder : FnScope ["self", "words"] ["self", "words"] (defScope sWUnder) := ⟨rfl, rfl, rfl, by decide +kernel, rfl, by decide +kernel, by decide +kernel⟩
abbrev sWCall : Stmt := inClass (topS 30) 8
theorem scWCall : FnScope ["self", "words", "missing", "number"] ["self", "words"] (defScope sWCall) := ⟨rfl, rfl, rfl, by decide +kernel, rfl, by decide +kernel, by decide +kernel⟩
abbrev sWAdd : Stmt := inClass (topS 30) 10
theorem scWAdd : FnScope ["self", "other"] ["self", "other"] (defScope sWAdd) := ⟨rfl, rfl, rfl, by decide +kernel, rfl, by decide +kernel, by decide +kernel⟩
abbrev sWSub : Stmt := inClass (topS 30) 12
theorem scWSub : FnScope ["self", "other"] ["self", "other"] (defScope sWSub) := ⟨rfl, rfl, rfl, by decide +kernel, rfl, by decide +kernel, by decide +kernel⟩
abbrev sWMul : Stmt := inClass (topS 30) 14
theorem scWMul : FnScope ["self", "other"] ["self", "other"] (defScope sWMul) := ⟨rfl, rfl, rfl, by decide +kernel, rfl, by decide +kernel, by decide +kernel⟩
abbrev sWAnd : Stmt := inClass (topS 30) 18
theorem scWAnd : FnScope ["self", "other"] ["self", "other"] (defScope sWAnd) := ⟨rfl, rfl, rfl, by decide +kernel, rfl, by decide +kernel, by decide +kernel⟩
abbrev sWOr : Stmt := inClass (topS 30) 19
theorem scWOr : FnScope ["self", "other"] ["self", "other"] (defScope sWOr) := ⟨rfl, rfl, rfl, by decide +kernel, rfl, by decide +kernel, by decide +kernel⟩
abbrev sWLess : Stmt := inClass (topS 30) 20
theorem scWLess : FnScope ["self", "x"] ["self", "x"] (defScope sWLess) := ⟨rfl, rfl, rfl, by decide +kernel, rfl, by decide +kernel, by decide +kernel⟩
abbrev sWAtMost : Stmt := inClass (topS 30) 21
theorem scWAtMost : FnScope ["self", "x"] ["self", "x"] (defScope sWAtMost) := ⟨rfl, rfl, rfl, by decide +kernel, rfl, by decide +kernel, by decide +kernel⟩
abbrev sWSame : Stmt := inClass (topS 30) 22
theorem scWSame : FnScope ["self", "x"] ["self", "x"] (defScope sWSame) := ⟨rfl, rfl, rfl, by decide +kernel, rfl, by decide +kernel, by decide +kernel⟩
abbrev sWNeg : Stmt := inClass (topS 30) 16
theorem scWNeg : FnScope ["self"] ["self"] (defScope sWNeg) := ⟨rfl, rfl, rfl, by decide +kernel, rfl, by decide +kernel, by decide +kernel⟩
abbrev sWInv : Stmt := inClass (topS 30) 17
theorem scWInv : FnScope ["self"] ["self"] (defScope sWInv) := ⟨rfl, rfl, rfl, by decide +kernel, rfl, by decide +kernel, by decide +kernel⟩
abbrev sWEq : Stmt := inClass (topS 30) 23
theorem scWEq : FnScope ["self", "other"] ["self", "other"] (defScope sWEq) := ⟨rfl, rfl, rfl, by decide +kernel, rfl, by decide +kernel, by decide +kernel⟩
abbrev sWStr : Stmt := inClass (topS 30) 24
theorem scWStr : FnScope ["self"] ["self"] (defScope sWStr) := ⟨rfl, rfl, rfl, by decide +kernel, rfl, by decide +kernel, by decide +kernel⟩
abbrev sTreeOf : Stmt := topS 29
theorem scTreeOf : FnScope ["value"] ["value"] (defScope sTreeOf) := ⟨rfl, rfl, rfl, by decide +kernel, rfl, by decide +kernel, by decide +kernel⟩
/-- the worth with the tree t stands at a -/
def Wo (C : Addr) (H : Hp) (a : Addr) (t : Tr) : Prop := ∃ dx v, H a = some (.ins C dx [("tree", v)]) ∧ Tv H v t
theorem Wo.kp {C : Addr} {H H' : Hp} {a : Addr} {t : Tr} (k : Kp H H') (h : Wo C H a t) : Wo C H' a t := let ⟨dx, v, h1, h2⟩ := h; ⟨dx, v, k _ _ (fun _ z => by cases z) h1, h2.kp k⟩
/-- a worth or a plain value -/
def Given (C : Addr) (H : Hp) (x : V) (t : Tr) : Prop := (∃ a, x = .ref a ∧ Wo C H a t) ∨ ∃ l, x = Lf.v l ∧ t = .lf l
theorem Given.kp {C : Addr} {H H' : Hp} {x : V} {t : Tr} (k : Kp H H') (h : Given C H x t) : Given C H' x t := h.imp (fun ⟨a, e, h⟩ => ⟨a, e, h.kp k⟩) id
/-- the class Worth -/
structure WCl (K : PySem.W.Frag) (mg : Str → Option Value) (C : Addr) : Prop where
  nm : mg "Worth" = some (.ref C)
  cl : Cls K C
  nt : NoAttr K C "tree"
  ca : PySem.W.findIn K (.ref C) "__class__" = some (some (.builtin "object.__class__"))
  cn : PySem.W.specialIn K (.builtin "object.__class__") "__get__" = some (some (.builtin "getset_descriptor.__get__"))
  ct : PySem.W.takesIn K (.builtin "object.__class__") = some true
  cm : PySem.W.mroIn K C (.type "object") = some true
  kw : PySem.W.kitOne K (.ref C) (.ref C) = some true
  ki : PySem.W.kitOne K (.type "int") (.ref C) = some false
  kb : PySem.W.kitOne K (.type "bool") (.ref C) = some false
theorem WCl.ty {K : PySem.W.Frag} {mg : Str → Option Value} {C : Addr} (W : WCl K mg C) {H : Hp} {a : Addr} {t : Tr} (h : Wo C H a t) : TyX K H (.ref a) (.ref C) := let ⟨dx, v, h1, _⟩ := h; .base (.ins h1 W.cl W.ca W.cn W.ct W.cm)
def spInitW (C : Addr) : Sp := fun vs H Q _ => ∃ (a dx : Addr) (v : V), vs = [.ref a, v] ∧ H a = some (.ins C dx []) ∧ Q .non (upd H a (.ins C dx [("tree", v)]))
/-- what is made: Worth(e) -/
structure WMk (P : Program) (w : World) (K : PySem.W.Frag) (mg : Str → Option Value) (base : Heap) (C : Addr) : Prop extends WCl K mg C where
  made : ∃ f fd, Mk K C f ∧ FnOk P w K mg base CX0 1 f fd ["self", "tree"] (spInitW C) ∧ Binds K fd ["self", "tree"] []
def tNewW (C : Addr) (te : TE) : TE := fun σ H Q => te σ H fun v H1 => ∀ (a : Addr) (H' : Hp), Same H1 H' → H1 a = none → (∃ dx, H' a = some (.ins C dx [("tree", v)])) → Q (.ref a) H'
theorem pe_newW {X : Cx} {C : Addr} {e : Expr} {te : TE} {p pos : Pos} (W : WMk X.prog X.w X.K X.mg X.base C) (hr : Room 2 X.A) (hg : Gl X "Worth") (he : PE X e te) (hs : starEach [e] X.env = (false, eval e X.env) :: starEach [] X.env := by rfl) :
    PE X (.Call (.Name "Worth" p) [e] [] pos) (tNewW C te) := by
  obtain ⟨f, fd, M, F, b⟩ := W.made
  refine (pe_make (E := E0) M F hr hg W.nm b .nil pass0 (pa_cons he.up pa_nil hs) (by decide) hs rfl).imp fun σ H Q q => ?_
  refine ⟨_, q, fun v H1 z x dx nx nd ne => ⟨x, dx, v, rfl, upd_same, rfl, z x _ (fun b o e => ?_) nx ⟨dx, upd_same⟩⟩⟩
  rw [upd_ne (ne_of_none e nx), upd_ne (ne_of_none e nx), upd_ne (ne_of_none e nd)]
  exact e
def spTreeOf (C : Addr) : Sp := fun vs H Q _ => ∃ (x : V) (t : Tr), vs = [x] ∧ Given C H x t ∧ ∀ v, Tv H v t → Q v H
/-- a new worth t, with all that stood -/
def NewW (C : Addr) (H : Hp) (t : Tr) (Q : VK) : Prop := ∀ a H', Same H H' → H a = none → Wo C H' a t → Q (.ref a) H'
def spOf (C : Addr) : Sp := fun vs H Q _ => ∃ (x : V) (t : Tr), vs = [x] ∧ Given C H x t ∧ NewW C H t Q
def spEither (C : Addr) : Sp := fun vs H Q _ => ∃ (n : Int) (x y : V) (tx ty : Tr) (k : Bool) (B : Nat) (S : List Int), vs = [.int n, x, y] ∧ 1 ≤ n ∧ Given C H x tx ∧ Given C H y ty ∧ Asc S ∧ S.length ≤ 20 ∧ n ∈ S ∧ Cn (Lg k B) S tx ∧ Cn (Lg k B) S ty ∧
  ∀ t, Cn (Lg k B) S t → (∀ r : Rho, t.ev r = if r n = true then tx.ev r else ty.ev r) → NewW C H t Q
def spBin (C : Addr) (op : Op) : Sp := fun vs H Q _ => ∃ (a : Addr) (x : V) (t1 t2 : Tr) (B B' : Nat) (S : List Int), vs = [.ref a, x] ∧ Wo C H a t1 ∧ Given C H x t2 ∧ Asc S ∧ S.length ≤ 20 ∧ B ≤ 1000 ∧ B' ≤ 1000 ∧ Cn (Lg op.kin B) S t1 ∧ Cn (Lg op.kin B') S t2 ∧
  ∀ t, Cn (Lg op.kout (B + B' + 1)) S t → (∀ r : Rho, t.ev r = op.ap (t1.ev r) (t2.ev r)) → NewW C H t Q
def spTurn (C : Addr) : Sp := fun vs H Q _ => ∃ (a : Addr) (t : Tr) (k : Bool) (B : Nat) (S : List Int), vs = [.ref a] ∧ Wo C H a t ∧ Asc S ∧ S.length ≤ 20 ∧ Cn (Lg k B) S t ∧
  ∀ t', Cn (Lg k B) S t' → (∀ r : Rho, t'.ev r = Lf.turn (t.ev r)) → NewW C H t' Q
def spUnder (C : Addr) : Sp := fun vs H Q _ => ∃ (a d : Addr) (t : Tr) (wf : Int → Option Bool) (k : Bool) (B : Nat) (S : List Int), vs = [.ref a, .ref d] ∧ Wo C H a t ∧ Wd H d wf ∧ Asc S ∧ S.length ≤ 20 ∧ Cn (Lg k B) S t ∧
  ∀ t', Cn (Lg k B) (left wf S) t' → (∀ r : Rho, t'.ev r = t.ev (over wf r)) → NewW C H t' Q
def spWords (C : Addr) : Sp := fun vs H Q _ => ∃ (a : Addr) (t : Tr) (k : Bool) (B : Nat) (S : List Int), vs = [.ref a] ∧ Wo C H a t ∧ Asc S ∧ S.length ≤ 20 ∧ Cn (Lg k B) S t ∧
  ∀ p H' ns, Same H H' → H' p = some (.tup (ns.map V.int)) → Asc ns → (∀ n, n ∈ ns ↔ n ∈ t.nums) → Q (.ref p) H'
def spPlain (C : Addr) : Sp := fun vs H Q _ => ∃ (a : Addr) (t : Tr), vs = [.ref a] ∧ Wo C H a t ∧ Q (match t with | .lf l => Lf.v l | .nd _ _ _ => .non) H
def spIsT (C : Addr) : Sp := fun vs H Q _ => ∃ (a : Addr) (t : Tr) (k : Bool), vs = [.ref a] ∧ Wo C H a t ∧ t.dep ≤ 20 ∧ t.hom k ∧ Q (.bl k) H
/-- all words are known -/
def spCallW (C : Addr) : Sp := fun vs H Q _ => ∃ (a d : Addr) (t : Tr) (wf : Int → Option Bool) (k : Bool) (B : Nat) (S : List Int), vs = [.ref a, .ref d] ∧ Wo C H a t ∧ Wd H d wf ∧ Asc S ∧ S.length ≤ 20 ∧ Cn (Lg k B) S t ∧ (∀ n ∈ S, (wf n).isSome = true) ∧
  ∀ l H', Same H H' → Lg k B l → (∀ r : Rho, l = t.ev (over wf r)) → Q (Lf.v l) H'
def spEqW (C : Addr) : Sp := fun vs H Q _ => ∃ (a b : Addr) (t t' : Tr) (k k' : Bool), vs = [.ref a, .ref b] ∧ Wo C H a t ∧ Wo C H b t' ∧ t.dep ≤ 20 ∧ t'.dep ≤ 20 ∧ t.hom k ∧ t'.hom k' ∧ Q (.bl (decide (t = t'))) H
def spStrW (C : Addr) : Sp := fun vs H Q _ => ∃ (a : Addr) (t : Tr), vs = [.ref a] ∧ Wo C H a t ∧ t.dep ≤ 12 ∧ Sm t ∧ Q (.str (txt t)) H
theorem hom_ne {k k' : Bool} : ∀ {t : Tr}, t.hom k → t.hom k' → k = k'
  | .lf (.i _), h, h' => (show k = false from h).trans (show k' = false from h').symm
  | .lf (.b _), h, h' => (show k = true from h).trans (show k' = true from h').symm
  | .nd _ y _, h, h' => hom_ne (t := y) h.1 h'.1
/-- the defs of trees, at their levels -/
structure WD (P : Program) (w : World) (K : PySem.W.Frag) (mg : Str → Option Value) (base : Heap) (C : Addr) : Prop where
  leaf : Df P w K mg base "is_leaf" 1 ["tree"] spLeaf
  isint : Df P w K mg base "is_integer" 1 ["value"] (spIsInt K)
  combined : Df P w K mg base "combined" 23 ["sign", "one", "other"] (spCombined 20)
  turned : Df P w K mg base "turned" 23 ["tree"] (spTurned 21)
  numbers : Df P w K mg base "numbers_in" 23 ["tree"] (spNumbers 21)
  reduced : Df P w K mg base "reduced" 23 ["tree", "words"] (spReduced 21)
  text : Df P w K mg base "tree_text" 23 ["tree"] (spText 21)
  truth : Df P w K mg base "is_truth_tree" 23 ["tree"] (spTruthT 21)
section
variable {P : Program} {w : World} {K : PySem.W.Frag} {mg : Str → Option Value} {base : Heap} {C : Addr}
theorem ok_wInit {f : Addr} {fd : FuncData} (F : Fun K "__init__" "Worth.__init__" sWInit f fd) (W : WCl K mg C) : FnOk P w K mg base CX0 1 f fd ["self", "tree"] (spInitW C) := by
  refine F.ok scWInit (fun vs H Q E h => ?_) (fun cdv A outer s H vs Q E hr h => ?_)
  · obtain ⟨a, dx, v, rfl, _⟩ := h
    rfl
  · obtain ⟨a, dx, v, rfl, ha, q⟩ := h
    refine ⟨_, (pss_one (ps_fld (pv 0) (pv 1) rfl)), ?_⟩
    exact ⟨_, rfl, _, rfl, a, C, dx, _, rfl, ha, W.cl, W.nt, (by show 0 < 1000; decide), q⟩
theorem ok_treeOf {f : Addr} {fd : FuncData} (F : Fun K "tree_of" "tree_of" sTreeOf f fd) (T : GloW mg) (W : WCl K mg C) (di : Df P w K mg base "is_integer" 1 ["value"] (spIsInt K)) : FnOk P w K mg base CX0 2 f fd ["value"] (spTreeOf C) := by
  refine F.ok scTreeOf (fun vs H Q E h => ?_) (fun cdv A outer s H vs Q E hr h => ?_)
  · obtain ⟨x, t, rfl, _⟩ := h
    rfl
  · obtain ⟨x, t, rfl, hg, q⟩ := h
    refine ⟨_, (pss_cons (ps_if (pt_val (pe_callB (id := "isinstance") (show CallR _ (.builtin "isinstance") (rIsi K) from call_isi) (by rfl) T.isinstance (by decide +kernel) (pa_cons (pv 0) (pa_cons (pe_glob (v := .ref C) (by rfl) W.nm rfl) pa_nil)))) (pss_one (ps_ret (pe_fld (pv 0) rfl))) pss_nil)
      (pss_cons (ps_if (PW.pt (pw_or (pt_val (pe_callB (id := "isinstance") (show CallR _ (.builtin "isinstance") (rIsi K) from call_isi) (by rfl) T.isinstance (by decide +kernel) (pa_cons (pv 0) (pa_cons (pe_bltn (v := .ty "bool") (by rfl) T.bool (by decide +kernel) rfl) pa_nil)))) (pw_or1 (pt_val (pe_df (E := E0) di hr (by rfl) (pa_cons (pv 0) pa_nil)))))) (pss_one (ps_ret (pv 0))) pss_nil)
      (pss_one ps_never))), ?_⟩
    rcases hg with ⟨a, rfl, hw⟩ | ⟨l, rfl, rfl⟩
    · have hw' := hw
      obtain ⟨dx, v, h1, h2⟩ := hw'
      refine ⟨_, rfl, _, _, _, _, _, rfl, .own C, W.ty hw, W.kw, _, rfl, ?_⟩
      exact ⟨_, rfl, a, C, dx, _, _, rfl, h1, W.cl, W.nt, rfl, q v h2⟩
    · cases l with
      | i n =>
        refine ⟨_, rfl, _, _, _, _, _, rfl, .own C, .base (.int n), W.ki, _, rfl, ?_⟩
        refine ⟨_, rfl, _, _, _, _, _, rfl, .ty "bool", .base (.int n), kit_ty (r := false) (by decide +kernel), _, rfl, ?_⟩
        exact ⟨_, rfl, _, _, _, _, rfl, .base (.int n), kit_ty (r := true) (by decide +kernel), kit_ty (r := false) (by decide +kernel), _, rfl, _, rfl, q _ (.lf (.i n))⟩
      | b n =>
        refine ⟨_, rfl, _, _, _, _, _, rfl, .own C, .base (.bl n), W.kb, _, rfl, ?_⟩
        exact ⟨_, rfl, _, _, _, _, _, rfl, .ty "bool", .base (.bl n), kit_ty (r := true) (by decide +kernel), _, rfl, _, rfl, q _ (.lf (.b n))⟩
theorem ok_wOf {f : Addr} {fd : FuncData} (F : Fun K "of" "Worth.of" sWOf f fd) (W : WMk P w K mg base C) (dt : Df P w K mg base "tree_of" 2 ["value"] (spTreeOf C)) : FnOk P w K mg base CX0 3 f fd ["value"] (spOf C) := by
  refine F.ok scWOf (fun vs H Q E h => ?_) (fun cdv A outer s H vs Q E hr h => ?_)
  · obtain ⟨x, t, rfl, _⟩ := h
    rfl
  · obtain ⟨x, t, rfl, hg, q⟩ := h
    refine ⟨_, (pss_one (ps_ret (pe_newW W hr (by rfl) (pe_df (E := E0) dt hr (by rfl) (pa_cons (pv 0) pa_nil))))), ?_⟩
    exact ⟨_, rfl, x, t, rfl, hg, fun v hv a H' s' na ⟨dx, h⟩ => q a H' s' na ⟨dx, v, h, hv.same s'⟩⟩
end
end Law

set_option Elab.async false
set_option linter.all false
set_option maxRecDepth 100000
set_option maxHeartbeats 1000000
namespace Law
open PySem PySem.Spec PyProof.Rows L2 Cor
/-- the property f of the class at C, its getter keeps sp -/
def PrW (P : Program) (w : World) (K : PySem.W.Frag) (mg : Str → Option Value) (base : Heap) (C : Addr) (f : Str) (k : Nat) (sp : Sp) : Prop := ∃ p g fd, PropOf K C f p g ∧ FnOk P w K mg base CX0 k g fd ["self"] sp ∧ Binds K fd ["self"] []
theorem pe_pr {X : Cx} {C : Addr} {f : Str} {k : Nat} {sp : Sp} {e : Expr} {ta : TE} {pos : Pos} (D : PrW X.prog X.w X.K X.mg X.base C f k sp) (c : Cls X.K C) (hr : Room (k + 1) X.A) (he : PE X e ta) (hab : attributeBase e f X.env (eval e X.env) = eval e X.env := by rfl) :
    PE X (.Attribute e f pos) (tProp C sp [] E0 ta) := by
  obtain ⟨p, g, fd, hp, F, b⟩ := D
  exact pe_prop he c hp F hr b .nil pass0 hab
section
variable {P : Program} {w : World} {K : PySem.W.Frag} {mg : Str → Option Value} {base : Heap} {C : Addr}
theorem ok_wAdd {f : Addr} {fd : FuncData} (F : Fun K "__add__" "Worth.__add__" sWAdd f fd) (W : WMk P w K mg base C) (D : WD P w K mg base C) (dt : Df P w K mg base "tree_of" 2 ["value"] (spTreeOf C)) : FnOk P w K mg base CX0 24 f fd ["self", "other"] (spBin C .add) := by
  refine F.ok scWAdd (fun vs H Q E h => ?_) (fun cdv A outer s H vs Q E hr h => ?_)
  · obtain ⟨a, x, t1, t2, B, B', S, rfl, _⟩ := h
    rfl
  · obtain ⟨a, x, t1, t2, B, B', S, rfl, ⟨dx, v1, h1, hv1⟩, hg, hS, h20, hB, hB', c1, c2, q⟩ := h
    refine ⟨_, (pss_one (ps_ret (pe_newW W (hr.mono (by omega)) (by rfl) (pe_df (E := E0) D.combined hr (by rfl) (pa_cons pe_str (pa_cons (pe_fld (pv 0) rfl) (pa_cons (pe_df (E := E0) dt (hr.mono (by omega)) (by rfl) (pa_cons (pv 1) pa_nil)) pa_nil))))))), ?_⟩
    refine ⟨_, rfl, a, C, dx, _, _, rfl, h1, W.cl, W.nt, rfl, _, rfl, x, t2, rfl, hg, fun v2 hv2 => ?_⟩
    refine ⟨.add, v1, v2, t1, t2, B, B', S, rfl, hv1, hv2, hS, h20, hB, hB', c1, c2, fun v3 H3 t3 s3 h3 c3 e3 => ?_⟩
    exact fun a H' s' na ⟨dx, h⟩ => q t3 c3 e3 a H' (fun b o z => s' b o (s3 b o z)) (by
      cases hz : H a with
      | none => rfl
      | some o => rw [s3 _ _ hz] at na; cases na) ⟨dx, v3, h, h3.same s'⟩
theorem ok_wSub {f : Addr} {fd : FuncData} (F : Fun K "__sub__" "Worth.__sub__" sWSub f fd) (W : WMk P w K mg base C) (D : WD P w K mg base C) (dt : Df P w K mg base "tree_of" 2 ["value"] (spTreeOf C)) : FnOk P w K mg base CX0 24 f fd ["self", "other"] (spBin C .sub) := by
  refine F.ok scWSub (fun vs H Q E h => ?_) (fun cdv A outer s H vs Q E hr h => ?_)
  · obtain ⟨a, x, t1, t2, B, B', S, rfl, _⟩ := h
    rfl
  · obtain ⟨a, x, t1, t2, B, B', S, rfl, ⟨dx, v1, h1, hv1⟩, hg, hS, h20, hB, hB', c1, c2, q⟩ := h
    refine ⟨_, (pss_one (ps_ret (pe_newW W (hr.mono (by omega)) (by rfl) (pe_df (E := E0) D.combined hr (by rfl) (pa_cons pe_str (pa_cons (pe_fld (pv 0) rfl) (pa_cons (pe_df (E := E0) dt (hr.mono (by omega)) (by rfl) (pa_cons (pv 1) pa_nil)) pa_nil))))))), ?_⟩
    refine ⟨_, rfl, a, C, dx, _, _, rfl, h1, W.cl, W.nt, rfl, _, rfl, x, t2, rfl, hg, fun v2 hv2 => ?_⟩
    refine ⟨.sub, v1, v2, t1, t2, B, B', S, rfl, hv1, hv2, hS, h20, hB, hB', c1, c2, fun v3 H3 t3 s3 h3 c3 e3 => ?_⟩
    exact fun a H' s' na ⟨dx, h⟩ => q t3 c3 e3 a H' (fun b o z => s' b o (s3 b o z)) (by
      cases hz : H a with
      | none => rfl
      | some o => rw [s3 _ _ hz] at na; cases na) ⟨dx, v3, h, h3.same s'⟩
theorem ok_wMul {f : Addr} {fd : FuncData} (F : Fun K "__mul__" "Worth.__mul__" sWMul f fd) (W : WMk P w K mg base C) (D : WD P w K mg base C) (dt : Df P w K mg base "tree_of" 2 ["value"] (spTreeOf C)) : FnOk P w K mg base CX0 24 f fd ["self", "other"] (spBin C .mul) := by
  refine F.ok scWMul (fun vs H Q E h => ?_) (fun cdv A outer s H vs Q E hr h => ?_)
  · obtain ⟨a, x, t1, t2, B, B', S, rfl, _⟩ := h
    rfl
  · obtain ⟨a, x, t1, t2, B, B', S, rfl, ⟨dx, v1, h1, hv1⟩, hg, hS, h20, hB, hB', c1, c2, q⟩ := h
    refine ⟨_, (pss_one (ps_ret (pe_newW W (hr.mono (by omega)) (by rfl) (pe_df (E := E0) D.combined hr (by rfl) (pa_cons pe_str (pa_cons (pe_fld (pv 0) rfl) (pa_cons (pe_df (E := E0) dt (hr.mono (by omega)) (by rfl) (pa_cons (pv 1) pa_nil)) pa_nil))))))), ?_⟩
    refine ⟨_, rfl, a, C, dx, _, _, rfl, h1, W.cl, W.nt, rfl, _, rfl, x, t2, rfl, hg, fun v2 hv2 => ?_⟩
    refine ⟨.mul, v1, v2, t1, t2, B, B', S, rfl, hv1, hv2, hS, h20, hB, hB', c1, c2, fun v3 H3 t3 s3 h3 c3 e3 => ?_⟩
    exact fun a H' s' na ⟨dx, h⟩ => q t3 c3 e3 a H' (fun b o z => s' b o (s3 b o z)) (by
      cases hz : H a with
      | none => rfl
      | some o => rw [s3 _ _ hz] at na; cases na) ⟨dx, v3, h, h3.same s'⟩
theorem ok_wAnd {f : Addr} {fd : FuncData} (F : Fun K "__and__" "Worth.__and__" sWAnd f fd) (W : WMk P w K mg base C) (D : WD P w K mg base C) (dt : Df P w K mg base "tree_of" 2 ["value"] (spTreeOf C)) : FnOk P w K mg base CX0 24 f fd ["self", "other"] (spBin C .and) := by
  refine F.ok scWAnd (fun vs H Q E h => ?_) (fun cdv A outer s H vs Q E hr h => ?_)
  · obtain ⟨a, x, t1, t2, B, B', S, rfl, _⟩ := h
    rfl
  · obtain ⟨a, x, t1, t2, B, B', S, rfl, ⟨dx, v1, h1, hv1⟩, hg, hS, h20, hB, hB', c1, c2, q⟩ := h
    refine ⟨_, (pss_one (ps_ret (pe_newW W (hr.mono (by omega)) (by rfl) (pe_df (E := E0) D.combined hr (by rfl) (pa_cons pe_str (pa_cons (pe_fld (pv 0) rfl) (pa_cons (pe_df (E := E0) dt (hr.mono (by omega)) (by rfl) (pa_cons (pv 1) pa_nil)) pa_nil))))))), ?_⟩
    refine ⟨_, rfl, a, C, dx, _, _, rfl, h1, W.cl, W.nt, rfl, _, rfl, x, t2, rfl, hg, fun v2 hv2 => ?_⟩
    refine ⟨.and, v1, v2, t1, t2, B, B', S, rfl, hv1, hv2, hS, h20, hB, hB', c1, c2, fun v3 H3 t3 s3 h3 c3 e3 => ?_⟩
    exact fun a H' s' na ⟨dx, h⟩ => q t3 c3 e3 a H' (fun b o z => s' b o (s3 b o z)) (by
      cases hz : H a with
      | none => rfl
      | some o => rw [s3 _ _ hz] at na; cases na) ⟨dx, v3, h, h3.same s'⟩
theorem ok_wOr {f : Addr} {fd : FuncData} (F : Fun K "__or__" "Worth.__or__" sWOr f fd) (W : WMk P w K mg base C) (D : WD P w K mg base C) (dt : Df P w K mg base "tree_of" 2 ["value"] (spTreeOf C)) : FnOk P w K mg base CX0 24 f fd ["self", "other"] (spBin C .or) := by
  refine F.ok scWOr (fun vs H Q E h => ?_) (fun cdv A outer s H vs Q E hr h => ?_)
  · obtain ⟨a, x, t1, t2, B, B', S, rfl, _⟩ := h
    rfl
  · obtain ⟨a, x, t1, t2, B, B', S, rfl, ⟨dx, v1, h1, hv1⟩, hg, hS, h20, hB, hB', c1, c2, q⟩ := h
    refine ⟨_, (pss_one (ps_ret (pe_newW W (hr.mono (by omega)) (by rfl) (pe_df (E := E0) D.combined hr (by rfl) (pa_cons pe_str (pa_cons (pe_fld (pv 0) rfl) (pa_cons (pe_df (E := E0) dt (hr.mono (by omega)) (by rfl) (pa_cons (pv 1) pa_nil)) pa_nil))))))), ?_⟩
    refine ⟨_, rfl, a, C, dx, _, _, rfl, h1, W.cl, W.nt, rfl, _, rfl, x, t2, rfl, hg, fun v2 hv2 => ?_⟩
    refine ⟨.or, v1, v2, t1, t2, B, B', S, rfl, hv1, hv2, hS, h20, hB, hB', c1, c2, fun v3 H3 t3 s3 h3 c3 e3 => ?_⟩
    exact fun a H' s' na ⟨dx, h⟩ => q t3 c3 e3 a H' (fun b o z => s' b o (s3 b o z)) (by
      cases hz : H a with
      | none => rfl
      | some o => rw [s3 _ _ hz] at na; cases na) ⟨dx, v3, h, h3.same s'⟩
theorem ok_wNeg {f : Addr} {fd : FuncData} (F : Fun K "__neg__" "Worth.__neg__" sWNeg f fd) (W : WMk P w K mg base C) (D : WD P w K mg base C) : FnOk P w K mg base CX0 24 f fd ["self"] (spTurn C) := by
  refine F.ok scWNeg (fun vs H Q E h => ?_) (fun cdv A outer s H vs Q E hr h => ?_)
  · obtain ⟨a, t, k, B, S, rfl, _⟩ := h
    rfl
  · obtain ⟨a, t, k, B, S, rfl, ⟨dx, v1, h1, hv1⟩, hS, h20, c1, q⟩ := h
    refine ⟨_, (pss_one (ps_ret (pe_newW W (hr.mono (by omega)) (by rfl) (pe_df (E := E0) D.turned hr (by rfl) (pa_cons (pe_fld (pv 0) rfl) pa_nil))))), ?_⟩
    have d1 := c1.dep_le
    refine ⟨_, rfl, a, C, dx, _, _, rfl, h1, W.cl, W.nt, rfl, v1, t, k, B, S, rfl, hv1, by omega, hS, by omega, c1, fun v3 H3 t3 s3 h3 c3 e3 => ?_⟩
    exact fun a H' s' na ⟨dx, h⟩ => q t3 c3 e3 a H' (fun b o z => s' b o (s3 b o z)) (by
      cases hz : H a with
      | none => rfl
      | some o => rw [s3 _ _ hz] at na; cases na) ⟨dx, v3, h, h3.same s'⟩
theorem ok_wInv {f : Addr} {fd : FuncData} (F : Fun K "__invert__" "Worth.__invert__" sWInv f fd) (W : WMk P w K mg base C) (D : WD P w K mg base C) : FnOk P w K mg base CX0 24 f fd ["self"] (spTurn C) := by
  refine F.ok scWInv (fun vs H Q E h => ?_) (fun cdv A outer s H vs Q E hr h => ?_)
  · obtain ⟨a, t, k, B, S, rfl, _⟩ := h
    rfl
  · obtain ⟨a, t, k, B, S, rfl, ⟨dx, v1, h1, hv1⟩, hS, h20, c1, q⟩ := h
    refine ⟨_, (pss_one (ps_ret (pe_newW W (hr.mono (by omega)) (by rfl) (pe_df (E := E0) D.turned hr (by rfl) (pa_cons (pe_fld (pv 0) rfl) pa_nil))))), ?_⟩
    have d1 := c1.dep_le
    refine ⟨_, rfl, a, C, dx, _, _, rfl, h1, W.cl, W.nt, rfl, v1, t, k, B, S, rfl, hv1, by omega, hS, by omega, c1, fun v3 H3 t3 s3 h3 c3 e3 => ?_⟩
    exact fun a H' s' na ⟨dx, h⟩ => q t3 c3 e3 a H' (fun b o z => s' b o (s3 b o z)) (by
      cases hz : H a with
      | none => rfl
      | some o => rw [s3 _ _ hz] at na; cases na) ⟨dx, v3, h, h3.same s'⟩
theorem ok_wUnder {f : Addr} {fd : FuncData} (F : Fun K "under" "Worth.under" sWUnder f fd) (W : WMk P w K mg base C) (D : WD P w K mg base C) : FnOk P w K mg base CX0 24 f fd ["self", "words"] (spUnder C) := by
  refine F.ok scWUnder (fun vs H Q E h => ?_) (fun cdv A outer s H vs Q E hr h => ?_)
  · obtain ⟨a, d, t, wf, k, B, S, rfl, _⟩ := h
    rfl
  · obtain ⟨a, d, t, wf, k, B, S, rfl, ⟨dx, v1, h1, hv1⟩, hd, hS, h20, c1, q⟩ := h
    refine ⟨_, (pss_one (ps_ret (pe_newW W (hr.mono (by omega)) (by rfl) (pe_df (E := E0) D.reduced hr (by rfl) (pa_cons (pe_fld (pv 0) rfl) (pa_cons (pv 1) pa_nil)))))), ?_⟩
    have d1 := c1.dep_le
    refine ⟨_, rfl, a, C, dx, _, _, rfl, h1, W.cl, W.nt, rfl, _, rfl, v1, t, d, wf, k, B, S, rfl, hv1, hd, by omega, hS, by omega, c1, fun v3 H3 t3 s3 h3 c3 e3 => ?_⟩
    exact fun a H' s' na ⟨dx, h⟩ => q t3 c3 e3 a H' (fun b o z => s' b o (s3 b o z)) (by
      cases hz : H a with
      | none => rfl
      | some o => rw [s3 _ _ hz] at na; cases na) ⟨dx, v3, h, h3.same s'⟩
theorem ok_wWords {f : Addr} {fd : FuncData} (F : Fun K "words" "Worth.words" sWWords f fd) (T : GloW mg) (W : WMk P w K mg base C) (D : WD P w K mg base C) : FnOk P w K mg base CX0 24 f fd ["self"] (spWords C) := by
  refine F.ok scWWords (fun vs H Q E h => ?_) (fun cdv A outer s H vs Q E hr h => ?_)
  · obtain ⟨a, t, k, B, S, rfl, _⟩ := h
    rfl
  · obtain ⟨a, t, k, B, S, rfl, ⟨dx, v1, h1, hv1⟩, hS, h20, c1, q⟩ := h
    refine ⟨_, (pss_one (ps_ret (pe_callTy call_tuple_of (by rfl) T.tuple (by decide +kernel) (pa_cons (pe_df (E := E0) D.numbers hr (by rfl) (pa_cons (pe_fld (pv 0) rfl) pa_nil)) pa_nil)))), ?_⟩
    have d1 := c1.dep_le
    refine ⟨_, rfl, a, C, dx, _, _, rfl, h1, W.cl, W.nt, rfl, v1, t, k, B, S, rfl, hv1, by omega, hS, by omega, c1, fun p H3 ns s3 h3 an mn _ => ?_⟩
    refine ⟨p, _, rfl, .inl ⟨SqL.of h3, fun p2 n2 => ?_⟩⟩
    have s4 := same_upd (o := .tup (ns.map V.int)) n2
    exact q p2 _ ns (fun b o z => s4 b o (s3 b o z)) upd_same an mn
theorem ok_wPlain {f : Addr} {fd : FuncData} (F : Fun K "plain" "Worth.plain" sWPlain f fd) (W : WMk P w K mg base C) (D : WD P w K mg base C) : FnOk P w K mg base CX0 24 f fd ["self"] (spPlain C) := by
  refine F.ok scWPlain (fun vs H Q E h => ?_) (fun cdv A outer s H vs Q E hr h => ?_)
  · obtain ⟨a, t, rfl, _⟩ := h
    rfl
  · obtain ⟨a, t, rfl, ⟨dx, v1, h1, hv1⟩, q⟩ := h
    refine ⟨_, (pss_one (ps_ret (pe_ifExp (pt_val (pe_df (E := E0) D.leaf (hr.mono (by omega)) (by rfl) (pa_cons (pe_fld (pv 0) rfl) pa_nil))) (pe_fld (pv 0) rfl) pe_non))), ?_⟩
    refine ⟨_, rfl, a, C, dx, _, _, rfl, h1, W.cl, W.nt, rfl, v1, t, rfl, hv1, _, rfl, ?_⟩
    cases t with
    | lf l =>
      obtain rfl := hv1.lf_of
      exact ⟨_, rfl, a, C, dx, _, _, rfl, h1, W.cl, W.nt, rfl, q⟩
    | nd n y o => exact q
theorem ok_wIsT {f : Addr} {fd : FuncData} (F : Fun K "is_truth" "Worth.is_truth" sWIsT f fd) (W : WMk P w K mg base C) (D : WD P w K mg base C) : FnOk P w K mg base CX0 24 f fd ["self"] (spIsT C) := by
  refine F.ok scWIsT (fun vs H Q E h => ?_) (fun cdv A outer s H vs Q E hr h => ?_)
  · obtain ⟨a, t, k, rfl, _⟩ := h
    rfl
  · obtain ⟨a, t, k, rfl, ⟨dx, v1, h1, hv1⟩, d20, hk, q⟩ := h
    refine ⟨_, (pss_one (ps_ret (pe_df (E := E0) D.truth hr (by rfl) (pa_cons (pe_fld (pv 0) rfl) pa_nil)))), ?_⟩
    exact ⟨_, rfl, a, C, dx, _, _, rfl, h1, W.cl, W.nt, rfl, v1, t, k, rfl, hv1, by omega, hk, q⟩
theorem ok_wStr {f : Addr} {fd : FuncData} (F : Fun K "__str__" "Worth.__str__" sWStr f fd) (W : WMk P w K mg base C) (D : WD P w K mg base C) : FnOk P w K mg base CX0 24 f fd ["self"] (spStrW C) := by
  refine F.ok scWStr (fun vs H Q E h => ?_) (fun cdv A outer s H vs Q E hr h => ?_)
  · obtain ⟨a, t, rfl, _⟩ := h
    rfl
  · obtain ⟨a, t, rfl, ⟨dx, v1, h1, hv1⟩, d12, sm, q⟩ := h
    refine ⟨_, (pss_one (ps_ret (pe_joined1 (pe_fmt (pe_df (E := E0) D.text hr (by rfl) (pa_cons (pe_fld (pv 0) rfl) pa_nil)))))), ?_⟩
    exact ⟨_, rfl, a, C, dx, _, _, rfl, h1, W.cl, W.nt, rfl, v1, t, rfl, hv1, by omega, d12, sm, .inl ⟨_, rfl, txt_fits sm d12, q⟩⟩
theorem ok_wEq {f : Addr} {fd : FuncData} (F : Fun K "__eq__" "Worth.__eq__" sWEq f fd) (T : GloW mg) (W : WMk P w K mg base C) (di : PrW P w K mg base C "is_truth" 24 (spIsT C)) : FnOk P w K mg base CX0 26 f fd ["self", "other"] (spEqW C) := by
  refine F.ok scWEq (fun vs H Q E h => ?_) (fun cdv A outer s H vs Q E hr h => ?_)
  · obtain ⟨a, b, t, t', k, k', rfl, _⟩ := h
    rfl
  · obtain ⟨a, b, t, t', k, k', rfl, ha, hb, da, db, ka, kb, q⟩ := h
    refine ⟨_, (pss_cons (ps_if (pt_not (pt_val (pe_callB (id := "isinstance") (show CallR _ (.builtin "isinstance") (rIsi K) from call_isi) (by rfl) T.isinstance (by decide +kernel) (pa_cons (pv 1) (pa_cons (pe_glob (v := .ref C) (by rfl) W.nm rfl) pa_nil))))) (pss_one (ps_ret pe_bl)) pss_nil)
      (pss_one (ps_ret (pe_and (pe_cmpR op_eq (pe_pr di W.cl hr (pv 0)) (pe_pr di W.cl hr (pv 1)) (nomark _)) (pe_one (pe_cmpR (op_eqD hr.units) (pe_fld (pv 0) rfl) (pe_fld (pv 1) rfl) (nomark _))))))), ?_⟩
    have ha' := ha
    have hb' := hb
    obtain ⟨dx, v1, h1, hv1⟩ := ha'
    obtain ⟨dy, v2, h2, hv2⟩ := hb'
    refine ⟨_, rfl, _, _, _, _, _, rfl, .own C, W.ty hb, W.kw, _, rfl, ?_⟩
    refine ⟨_, rfl, a, dx, _, rfl, h1, a, t, k, rfl, ha, da, ka, _, rfl, b, dy, _, rfl, h2, b, t', k', rfl, hb, db, kb, rfl, _, rfl, ?_⟩
    refine ite2 (fun hk => ?_) (fun hk => ?_)
    · have e : k = k' := V.bl.inj (of_decide_eq_true hk)
      subst e
      refine ⟨_, rfl, a, C, dx, _, _, rfl, h1, W.cl, W.nt, rfl, _, rfl, b, C, dy, _, _, rfl, h2, W.cl, W.nt, rfl, _, _, hv1.dp, hv2.dp, Tr.shaped (by omega), Tr.shaped (by omega), ?_⟩
      rw [eqv_tr ka kb]
      exact q
    · have e : t ≠ t' := fun z => hk (decide_eq_true (by rw [z] at ka; rw [hom_ne ka kb]))
      rw [decide_eq_false e] at q
      exact q
theorem ok_wCall {f : Addr} {fd : FuncData} (F : Fun K "__call__" "Worth.__call__" sWCall f fd) (T : GloW mg) (W : WMk P w K mg base C) (D : WD P w K mg base C) (dw : PrW P w K mg base C "words" 24 (spWords C)) : FnOk P w K mg base CX0 26 f fd ["self", "words"] (spCallW C) := by
  refine F.ok scWCall (fun vs H Q E h => ?_) (fun cdv A outer s H vs Q E hr h => ?_)
  · obtain ⟨a, d, t, wf, k, B, S, rfl, _⟩ := h
    rfl
  · obtain ⟨a, d, t, wf, k, B, S, rfl, ha, hd, hS, h20, c1, known, q⟩ := h
    have hu := hu_of hr
    refine ⟨_, (pss_cons (ps_setLc (i := 2) (own := [("number", 3)]) (g := gName 3) (by rfl) scWCall.nd rfl rfl (sw_true rfl rfl rfl (by decide +kernel)) (pi_tup (pe_pr dw W.cl hr (pv 0))) (blkOk_by (own := [("number", 3)]) (N := ["self", "words", "missing", "number"]) (sc := defScope sWCall) (by decide +kernel)) (fun _ _ _ _ _ => (pg_name (i := 3) scWCall.nd rfl (Or.inl rfl))) (fun _ _ _ _ _ => (pts_one (pt_cmp (pc_dnotin hu (pv 3) (pv 1))))) (fun _ _ _ _ _ => (pv 3)))
      (pss_cons (ps_if (pt_cmpR (op_neD hr.units) (pv 2) (pe_lst pa_nil) (nomark _)) (pss_one ps_never) pss_nil)
      (pss_one (ps_ret (pe_df (E := E0) D.reduced (hr.mono (by omega)) (by rfl) (pa_cons (pe_fld (pv 0) rfl) (pa_cons (pv 1) pa_nil))))))), ?_⟩
    have ha' := ha
    obtain ⟨dx, v1, h1, hv1⟩ := ha'
    have d1 := c1.dep_le
    refine ⟨_, rfl, a, dx, _, rfl, h1, a, t, k, B, S, rfl, ha, hS, h20, c1, fun p H1 ns s1 e1 an mn => ?_⟩
    refine ⟨p, rfl, ⟨_, SqT.of e1⟩, fun Dl nD => lc_tup (xs := ns.map V.int) (fun i H' => Same H1 H' ∧ H' Dl = some (.lst [])) ?_ ?_ ?_ ?_⟩
    · exact ⟨same_upd nD, upd_same⟩
    · rintro i H' _ ⟨s, _⟩
      exact SqT.of (s _ _ e1)
    · rintro i x H' hx ⟨s, e⟩
      rw [List.getElem?_map] at hx
      obtain ⟨n, hn, rfl⟩ := Option.map_eq_some_iff.mp hx
      have nS : n ∈ S := c1.mem n ((mn n).mp (List.mem_of_getElem? hn))
      obtain ⟨kvs, hk, hw⟩ := hd.kp s1.kp |>.kp s.kp
      have hg := DGet.k (k := Sum.inl n) hk
      rw [hw n] at hg
      refine ⟨rfl, _, rfl, _, rfl, d, _, rfl, hg, ?_⟩
      have z := known n nS
      cases hwn : wf n with
      | none => rw [hwn] at z; cases z
      | some b => exact ⟨_, rfl, s, e⟩
    · rintro H2 ⟨s2, e2⟩
      have s02 : Same H H2 := fun b o z => s2 b o (s1 b o z)
      refine ⟨_, rfl, (by show 0 ≤ sizeLine; decide), fun p0 n0 => ?_⟩
      have s3 := same_upd (o := .lst []) n0
      refine ⟨_, _, .lst (SqL.of (s3 _ _ e2)) .nil, .lst (SqL.of upd_same) .nil, shaped_ints [], shaped_ints [], _, rfl, ?_⟩
      refine ite2 (fun hb => by cases hb) (fun _ => ?_)
      have s03 : Same H (upd H2 p0 (.lst [])) := fun b o z => s3 b o (s02 b o z)
      refine ⟨_, rfl, a, C, dx, _, _, rfl, s03 _ _ h1, W.cl, W.nt, rfl, _, rfl, v1, t, d, wf, k, B, S, rfl, hv1.same s03, hd.kp s03.kp, by omega, hS, by omega, c1, fun v3 H3 t3 s4 h3 c3 e3 => ?_⟩
      have hl : left wf S = [] := List.filter_eq_nil_iff.mpr fun n hn => by
        have := known n hn
        cases hz : wf n with
        | none => rw [hz] at this; cases this
        | some b => simp
      rw [hl] at c3
      cases t3 with
      | nd => exact c3.elim
      | lf l =>
        obtain rfl := h3.lf_of
        exact q l H3 (fun b o z => s4 b o (s03 b o z)) c3.lf_of fun r => e3 r
end
end Law

set_option Elab.async false
set_option linter.all false
set_option maxRecDepth 100000
set_option maxHeartbeats 1000000
namespace Law
open PySem PySem.Spec PyProof.Rows L2 Cor
/-- a draw -/
def spTk : Sp := fun vs H Q _ => ∃ (p : Addr) (m : Int), vs = [.ref p, .int m] ∧ Box H p ∧ 0 < m ∧ m < 2 ^ 90 ∧ ∀ (r : Int) (H' : Hp), SameBut p H H' → Box H' p → 0 ≤ r → r < m → Q (.int r) H'
theorem spTk_of {vs : List V} {H : Hp} {Q : VK} {E : XK} (h : spTk vs H Q E) : spTake vs H Q E := by
  obtain ⟨p, m, rfl, hb, m0, m1, q⟩ := h
  exact ⟨p, m, rfl, hb, m0, m1, fun b s c r s0 s1 r0 r1 => q r _ SameBut.upd ⟨b, s, c, upd_same, s0, s1⟩ r0 r1⟩
theorem _root_.Cor.Box.ne {H : Hp} {p q : Addr} (h : Box H p) (n : H q = none) : q ≠ p := fun z => by
  obtain ⟨b, s, c, e, _⟩ := h
  rw [z, e] at n
  cases n
theorem _root_.Cor.Box.kp {H H' : Hp} {p : Addr} (h : Box H p) (s : SameBut p H H') : Kp H H' := let ⟨_, _, _, e, _⟩ := h; s.kp e
theorem _root_.Cor.Box.same {H H' : Hp} {p : Addr} (h : Box H p) (s : Same H H') : Box H' p := let ⟨b, s', c, e, x⟩ := h; ⟨b, s', c, s _ _ e, x⟩
abbrev sLeafL : Stmt := topS 34
theorem scLeafL : FnScope ["_law_box_here", "_law_is_truth", "_law_great"] ["_law_box_here", "_law_is_truth"] (defScope sLeafL) := ⟨rfl, rfl, rfl, by decide +kernel, rfl, by decide +kernel, by decide +kernel⟩
/-- ascending numbers -/
def spNums : Sp := fun vs H Q _ => ∃ (p : Addr) (m : Int), vs = [.ref p, .int m] ∧ Box H p ∧ 0 < m ∧ m ≤ 12 ∧
  ∀ q H' ns, SameBut p H H' → Box H' p → H q = none → H' q = some (.lst (ns.map V.int)) → Asc ns → (ns.length : Int) = m → (∀ n ∈ ns, 1 ≤ n ∧ n < 2 ^ 80) → Q (.ref q) H'
def spLeafL : Sp := fun vs H Q _ => ∃ (p : Addr) (k : Bool), vs = [.ref p, .bl k] ∧ Box H p ∧ ∀ l H', SameBut p H H' → Box H' p → Lg k 66 l → Q (Lf.v l) H'
def numsL (a c : Int) (i : Nat) : List Int := (List.range i).map fun (j : Nat) => a + c * (0 + (j : Int))
theorem numsL_len {a c : Int} {i : Nat} : (numsL a c i).length = i := by unfold numsL; rw [List.length_map, List.length_range]
theorem numsL_succ {a c : Int} {i : Nat} : numsL a c (i + 1) = numsL a c i ++ [a + c * (0 + (i : Int))] := by
  unfold numsL
  rw [List.range_succ, List.map_append]
  rfl
theorem numsL_mem {a c n : Int} {i : Nat} (h : n ∈ numsL a c i) : ∃ j : Nat, j < i ∧ n = a + c * (0 + (j : Int)) := by
  obtain ⟨j, hj, e⟩ := List.mem_map.mp h
  exact ⟨j, List.mem_range.mp hj, e.symm⟩
theorem numsL_asc {a c : Int} {i : Nat} (hc : 0 < c) : Asc (numsL a c i) := by
  unfold numsL Asc
  rw [List.pairwise_map]
  refine List.Pairwise.imp (fun {x y} hxy => ?_) List.pairwise_lt_range
  have : c * (0 + (x : Int)) < c * (0 + (y : Int)) := Int.mul_lt_mul_of_pos_left (by omega) hc
  omega
section
variable {P : Program} {w : World} {K : PySem.W.Frag} {mg : Str → Option Value} {base : Heap}
theorem ok_leafL {f : Addr} {fd : FuncData} (F : Fun K "_law_leaf" "_law_leaf" sLeafL f fd) (dt : Df P w K mg base "_law_take" 1 ["_law_box_here", "_law_many"] spTk) : FnOk P w K mg base CX0 2 f fd ["_law_box_here", "_law_is_truth"] spLeafL := by
  refine F.ok scLeafL (fun vs H Q E h => ?_) (fun cdv A outer s H vs Q E hr h => ?_)
  · obtain ⟨p, k, rfl, _⟩ := h
    rfl
  · obtain ⟨p, k, rfl, hb, q⟩ := h
    refine ⟨_, (pss_cons (ps_if (pt_val (pv 1)) (pss_one (ps_ret (pe_cmpR op_eq (pe_df (E := E0) dt hr (by rfl) (pa_cons (pv 0) (pa_cons pe_int pa_nil))) pe_int (nomark _)))) pss_nil)
      (pss_cons (ps_set (i := 2) scLeafL.nd rfl (Or.inl rfl) (pe_op op_sub (pe_op op_pow pe_int pe_int) (pe_df (E := E0) dt hr (by rfl) (pa_cons (pv 0) (pa_cons (pe_op op_mul pe_int (pe_op op_pow pe_int pe_int)) pa_nil)))))
      (pss_one (ps_ret (pe_ix ix_list (pe_lst (pa_cons pe_int (pa_cons pe_int (pa_cons (pe_op op_sub pe_int pe_int) (pa_cons pe_int (pa_cons (pe_op op_sub (pe_df (E := E0) dt hr (by rfl) (pa_cons (pv 0) (pa_cons pe_int pa_nil))) pe_int) (pa_cons (pv 2) pa_nil))))))) (pe_df (E := E0) dt hr (by rfl) (pa_cons (pv 0) (pa_cons pe_int pa_nil))) (fun _ _ => rfl)))))), ?_⟩
    refine ⟨_, rfl, _, rfl, ?_⟩
    cases k with
    | true =>
      refine ⟨_, rfl, p, 2, rfl, hb, by decide, by decide, fun r H' s1 b1 r0 r1 => ?_⟩
      refine ⟨rfl, ?_⟩
      exact q (.b (decide (V.int r = V.int 0))) H' s1 b1 rfl
    | false =>
      refine ⟨_, _, rfl, rfl, ⟨by decide, by decide, by decide⟩, _, rfl, _, _, rfl, rfl, ⟨by decide, by decide, by decide⟩, _, _, rfl, rfl, .inl ⟨by decide, by decide⟩, ?_⟩
      refine ⟨p, _, rfl, hb, by decide, by decide, fun r H1 s1 b1 r0 r1 => ?_⟩
      refine ⟨_, _, rfl, rfl, ?_⟩
      have hg0 : (10 : Int) ^ (Int.toNat 19) = 10000000000000000000 := by decide
      have r1' : r < 2 * 10000000000000000000 := by rw [← hg0]; exact r1
      refine ⟨_, _, rfl, rfl, _, rfl, p, 9, rfl, b1, by decide, by decide, fun r2 H2 s2 b2 r20 r21 => ?_⟩
      refine ⟨_, _, rfl, rfl, _, rfl, (by show 6 ≤ sizeLine; decide), fun l nl => ?_⟩
      rw [hg0]
      have sl := same_upd (o := .lst [.int 0, .int 1, .int (0 - 1), .int 2, .int (r2 - 4), .int (10000000000000000000 - r)]) nl
      refine ⟨_, rfl, p, 6, rfl, b2.same sl, by decide, by decide, fun r3 H3 s3 b3 r30 r31 => ?_⟩
      have el := s3 l _ (b2.ne nl) upd_same
      have s13 : SameBut p H H3 := s1.trans (s2.trans ((Cor.Same.but sl).trans s3))
      have fin : ∀ n : Int, n.natAbs < 2 ^ 66 → Q (.int n) H3 := fun n hn => q (.i n) H3 s13 b3 ⟨rfl, hn⟩
      have cs : r3 = 0 ∨ r3 = 1 ∨ r3 = 2 ∨ r3 = 3 ∨ r3 = 4 ∨ r3 = 5 := by omega
      rcases cs with rfl | rfl | rfl | rfl | rfl | rfl
      · exact ⟨l, _, _, _, rfl, rfl, SqL.of el, rfl, fin _ (by omega)⟩
      · exact ⟨l, _, _, _, rfl, rfl, SqL.of el, rfl, fin _ (by omega)⟩
      · exact ⟨l, _, _, _, rfl, rfl, SqL.of el, rfl, fin _ (by omega)⟩
      · exact ⟨l, _, _, _, rfl, rfl, SqL.of el, rfl, fin _ (by omega)⟩
      · exact ⟨l, _, _, _, rfl, rfl, SqL.of el, rfl, fin _ (by omega)⟩
      · exact ⟨l, _, _, _, rfl, rfl, SqL.of el, rfl, fin _ (by omega)⟩
end
end Law

set_option Elab.async false
set_option linter.all false
set_option maxRecDepth 100000
set_option maxHeartbeats 1000000
namespace Law
open PySem PySem.Spec PyProof.Rows L2 Cor
def Rw (k : Bool) (B : Nat) (S : List Int) : Tr → Prop
  | .lf v => Lg k B v
  | .nd n y o => n ∈ S ∧ Rw k B S y ∧ Rw k B S o
def spRaw (m : Nat) : Sp := fun vs H Q _ => ∃ (p a : Addr) (k : Bool) (d : Int) (S : List Int), vs = [.ref p, .ref a, .bl k, .int d] ∧ Box H p ∧ H a = some (.lst (S.map V.int)) ∧ a ≠ p ∧ 0 ≤ d ∧ d < m ∧ S.length ≤ 12 ∧
  ∀ v t H', SameBut p H H' → Box H' p → Tv H' v t → Rw k 66 S t → (t.dep : Int) ≤ d → Q v H'
/-- the static method m of Worth -/
def SmD (P : Program) (w : World) (K : PySem.W.Frag) (mg : Str → Option Value) (base : Heap) (C : Addr) (m : Str) (k : Nat) (sp : Sp) : Prop := ∃ f, Stm K mg "Worth" C m f ∧ MdR P w K mg base k f sp
section
variable {X : Cx} {e : Expr} {es : List Expr} {ta : TA} {m : Str} {p1 p2 pos : Pos} {C : Addr} {k : Nat} {sp : Sp}
theorem pe_smD {pl : Sem Bool} (D : SmD X.prog X.w X.K X.mg X.base C m k sp) (hr : Room k X.A) (hg : Gl X "Worth") (ha : PA X (e :: es) ta)
    (hc : eval (.Call (.Attribute (.Name "Worth" p1) m p2) (e :: es) [] pos) X.env = (do
      let ov ← eval (.Name "Worth" p1) X.env
      standAt p2.atName
      let (f, first) ← holding [ov] (getMethod ov m pl)
      callWith pos f first (backTo pos (starEach (e :: es) X.env)) (backToKw pos (keywordEach [] X.env))) := by rfl)
    (he : starEach (e :: es) X.env = (false, eval e X.env) :: starEach es X.env := by rfl) (hpl : (backTo pos (starEach es X.env)).any (·.1) = false := by rfl) :
    PE X (.Call (.Attribute (.Name "Worth" p1) m p2) (e :: es) [] pos) (fun σ H Q => ta σ H fun vs H1 => sp vs H1 Q E0) := by
  obtain ⟨f, T, M⟩ := D
  exact pe_sm T M hr hg ha (by decide) hc he hpl
end
/-- x is given for the value t, in its one form -/
def Mg (C : Addr) (k : Bool) (S : List Int) (t : Tr) (H : Hp) (x : V) : Prop := ∃ t', Given C H x t' ∧ Cn (Lg k 66) S t' ∧ ∀ r : Rho, t'.ev r = t.ev r
theorem Mg.kp {C : Addr} {k : Bool} {S : List Int} {t : Tr} {H H' : Hp} {x : V} (kp : Kp H H') (h : Mg C k S t H x) : Mg C k S t H' x := let ⟨t', a, b⟩ := h; ⟨t', a.kp kp, b⟩
def spMade (C : Addr) (m : Nat) : Sp := fun vs H Q _ => ∃ (p : Addr) (v : V) (t : Tr) (k : Bool) (S : List Int), vs = [.ref p, v] ∧ Box H p ∧ Tv H v t ∧ Rw k 66 S t ∧ t.dep < m ∧ Asc S ∧ S.length ≤ 12 ∧ (∀ n ∈ S, 1 ≤ n) ∧
  ∀ a H' t', SameBut p H H' → Box H' p → Wo C H' a t' → Cn (Lg k 66) S t' → (∀ r : Rho, t'.ev r = t.ev r) → Q (.ref a) H'
section
variable {P : Program} {w : World} {K : PySem.W.Frag} {mg : Str → Option Value} {base : Heap} {C : Addr}
end
end Law

set_option Elab.async false
set_option linter.all false
set_option maxRecDepth 100000
set_option maxHeartbeats 1000000
namespace Law
open PySem PySem.Spec PyProof.Rows L2 Cor
/-- x is a worth over the numbers S, with the values f -/
def Val (C : Addr) (S : List Int) (k : Bool) (B : Nat) (f : Rho → Lf) (H : Hp) (x : V) : Prop := ∃ a t, x = .ref a ∧ Wo C H a t ∧ Cn (Lg k B) S t ∧ ∀ r : Rho, t.ev r = f r
theorem Val.kp {C : Addr} {S : List Int} {k : Bool} {B : Nat} {f : Rho → Lf} {H H' : Hp} {x : V} (kp : Kp H H') (h : Val C S k B f H x) : Val C S k B f H' x := let ⟨a, t, e, w, c⟩ := h; ⟨a, t, e, w.kp kp, c⟩
theorem Val.same {C : Addr} {S : List Int} {k : Bool} {B : Nat} {f : Rho → Lf} {H H' : Hp} {x : V} (s : Same H H') (h : Val C S k B f H x) : Val C S k B f H' x := h.kp s.kp
theorem Val.as {C : Addr} {S : List Int} {k : Bool} {B : Nat} {f g : Rho → Lf} {H : Hp} {x : V} (h : Val C S k B f H x) (e : ∀ r, f r = g r) : Val C S k B g H x := let ⟨a, t, e', w, c, v⟩ := h; ⟨a, t, e', w, c, fun r => (v r).trans (e r)⟩
def IsW (C : Addr) (H : Hp) (x : V) : Prop := ∃ a dx v, x = .ref a ∧ H a = some (.ins C dx [("tree", v)])
theorem Wo.isW {C : Addr} {H : Hp} {a : Addr} {t : Tr} (h : Wo C H a t) : IsW C H (.ref a) := let ⟨dx, v, e, _⟩ := h; ⟨a, dx, v, rfl, e⟩
theorem Val.isW {C : Addr} {S : List Int} {k : Bool} {B : Nat} {f : Rho → Lf} {H : Hp} {x : V} (h : Val C S k B f H x) : IsW C H x := let ⟨a, t, e, w, _⟩ := h; e ▸ w.isW
/-- a method m of Worth -/
def MtW (P : Program) (w : World) (K : PySem.W.Frag) (mg : Str → Option Value) (base : Heap) (C : Addr) (m : Str) (k : Nat) (ps : List Str) (sp : Sp) : Prop := ∃ f fd, Meth K C m f ∧ FnOk P w K mg base CX0 k f fd ps sp ∧ Binds K fd ps [] ∧ (m == ("tree" : Str)) = false
def tMtW (C : Addr) (sp : Sp) (ta : TE) (t : TA) : TE := fun σ H Q => ta σ H fun x H1 => IsW C H1 x ∧ t σ H1 fun vs H2 => sp (x :: (vs ++ [])) H2 Q E0
section
variable {X : Cx} {C : Addr} {o e : Expr} {es : List Expr} {m : Str} {k : Nat} {ps : List Str} {sp : Sp} {ta : TE} {t : TA} {apos pos : Pos}
theorem pe_mtW {pl : Sem Bool} (D : MtW X.prog X.w X.K X.mg X.base C m k ps sp) (c : Cls X.K C) (hr : Room k X.A) (he : PE X o ta) (ha : PA X (e :: es) t)
    (ht : eval (.Call (.Attribute o m apos) (e :: es) [] pos) X.env = (do
      let ov ← eval o X.env
      standAt apos.atName
      let (f, first) ← holding [ov] (getMethod ov m pl)
      callWith pos f first (backTo pos (starEach (e :: es) X.env)) (backToKw pos (keywordEach [] X.env))) := by rfl)
    (hs : starEach (e :: es) X.env = (false, eval e X.env) :: starEach es X.env := by rfl) (hpl : (backTo pos (starEach es X.env)).any (·.1) = false := by rfl) : PE X (.Call (.Attribute o m apos) (e :: es) [] pos) (tMtW C sp ta t) := by
  obtain ⟨f, fd, M, F, b, nt⟩ := D
  refine (pe_meth (E := E0) (pl := pl) he.up c M F hr b .nil pass0 ha hs hpl ht).imp fun σ H Q q => ?_
  refine ⟨_, q, fun x H1 ⟨⟨a, dx, v, ex, ea⟩, z⟩ => ⟨a, dx, _, ex, ea, ?_, z⟩⟩
  rw [List.lookup_cons, nt]
  rfl
end
/-! what the operations give -/
section
variable {C : Addr} {S : List Int} {H : Hp} {x y : V} {Q : VK} {B B' : Nat} {f g : Rho → Lf}
theorem rd_bin {op : Op} (hS : Asc S) (h20 : S.length ≤ 20) (hx : Val C S op.kin B f H x) (hy : Val C S op.kin B' g H y) (hB : B ≤ 1000 := by decide) (hB' : B' ≤ 1000 := by decide)
    (q : ∀ z H', Same H H' → Val C S op.kout (B + B' + 1) (fun r => op.ap (f r) (g r)) H' z → Q z H') : spBin C op [x, y] H Q E0 := by
  obtain ⟨a, t, rfl, w, c, v⟩ := hx
  obtain ⟨b, t', rfl, w', c', v'⟩ := hy
  exact ⟨a, .ref b, t, t', B, B', S, rfl, w, .inl ⟨b, rfl, w'⟩, hS, h20, hB, hB', c, c', fun t2 c2 e2 a2 H2 s2 na w2 => q _ H2 s2 ⟨a2, t2, rfl, w2, c2, fun r => by rw [e2, v, v']⟩⟩
theorem rd_op {op : Op} (hS : Asc S) (h20 : S.length ≤ 20) (hx : Val C S op.kin B f H x) (hy : Val C S op.kin B' g H y) (q : ∀ z H', Same H H' → Val C S op.kout (B + B' + 1) (fun r => op.ap (f r) (g r)) H' z → Q z H') (hB : B ≤ 1000 := by decide) (hB' : B' ≤ 1000 := by decide) :
    rOw2 C (spBin C op) x y H Q := by
  obtain ⟨a, dx, v, ex, ea⟩ := hx.isW
  obtain ⟨b, dy, u, ey, eb⟩ := hy.isW
  exact ⟨a, dx, _, b, dy, _, ex, ey, ea, eb, rd_bin hS h20 hx hy hB hB' q⟩
theorem rd_turn {k : Bool} (hS : Asc S) (h20 : S.length ≤ 20) (hx : Val C S k B f H x) (q : ∀ z H', Same H H' → Val C S k B (fun r => Lf.turn (f r)) H' z → Q z H') : rOw1 C (spTurn C) x H Q := by
  obtain ⟨a, t, rfl, w, c, v⟩ := hx
  have w' := w
  obtain ⟨dx, u, ea, _⟩ := w'
  exact ⟨a, dx, _, rfl, ea, a, t, k, B, S, rfl, w, hS, h20, c, fun t2 c2 e2 a2 H2 s2 na w2 => q _ H2 s2 ⟨a2, t2, rfl, w2, c2, fun r => by rw [e2, v]⟩⟩
theorem rd_under {k : Bool} {d : Addr} {wf : Int → Option Bool} (hS : Asc S) (h20 : S.length ≤ 20) (hx : Val C S k B f H x) (hd : Wd H d wf) (q : ∀ z H', Same H H' → Val C (left wf S) k B (fun r => f (over wf r)) H' z → Val C S k B (fun r => f (over wf r)) H' z → Q z H') :
    spUnder C [x, .ref d] H Q E0 := by
  obtain ⟨a, t, rfl, w, c, v⟩ := hx
  exact ⟨a, d, t, wf, k, B, S, rfl, w, hd, hS, h20, c, fun t2 c2 e2 a2 H2 s2 na w2 => q _ H2 s2 ⟨a2, t2, rfl, w2, c2, fun r => by rw [e2, v]⟩ ⟨a2, t2, rfl, w2, c2.sub List.filter_sublist, fun r => by rw [e2, v]⟩⟩
theorem hom_of {k : Bool} {t : Tr} (c : Cn (Lg k B) S t) : t.hom k := c.hom Lg.k
theorem rd_eqv {k k' : Bool} (h20 : S.length ≤ 20) (hx : Val C S k B f H x) (hy : Val C S k' B' g H y) (q : ∀ t t', Cn (Lg k B) S t → Cn (Lg k' B') S t' → (∀ r, t.ev r = f r) → (∀ r, t'.ev r = g r) → Q (.bl (decide (t = t'))) H) : rOw2 C (spEqW C) x y H Q := by
  obtain ⟨a, t, rfl, w, c, v⟩ := hx
  obtain ⟨b, t', rfl, w', c', v'⟩ := hy
  have w1 := w
  have w2 := w'
  obtain ⟨dx, u, ea, _⟩ := w1
  obtain ⟨dy, u', eb, _⟩ := w2
  have d1 := c.dep_le
  have d2 := c'.dep_le
  exact ⟨a, dx, _, b, dy, _, rfl, rfl, ea, eb, a, b, t, t', k, k', rfl, w, w', by omega, by omega, c.hom Lg.k, c'.hom Lg.k, q t t' c c' v v'⟩
/-- they are equal -/
theorem rd_eq {k k' : Bool} (hS : Asc S) (h20 : S.length ≤ 20) (hx : Val C S k B f H x) (hy : Val C S k' B' g H y) (e : ∀ r, f r = g r) (q : Q (.bl true) H) : rOw2 C (spEqW C) x y H Q :=
  rd_eqv h20 hx hy fun t t' c c' v v' => by
    rw [decide_eq_true (Cn.one hS c c' fun r => by rw [v, v', e])]
    exact q
theorem rd_ne {k k' : Bool} (hS : Asc S) (h20 : S.length ≤ 20) (hx : Val C S k B f H x) (hy : Val C S k' B' g H y) (e : ∀ r, f r = g r) (q : Q (.bl false) H) : rOwNe C (spEqW C) x y H Q := by
  obtain ⟨a, dx, fs, b, dy, gs, h1, h2, h3, h4, h5⟩ := rd_eq (Q := fun z H' => ∃ c, z = .bl c ∧ Q (.bl (!c)) H') hS h20 hx hy e ⟨true, rfl, q⟩
  exact ⟨a, dx, fs, b, dy, gs, h1, h2, h3, h4, h5⟩
theorem rd_of (l : Lf) (k : Bool) (hl : Lg k B l) (q : ∀ z H', Same H H' → Val C S k B (fun _ => l) H' z → Q z H') : spOf C [Lf.v l] H Q E0 :=
  ⟨_, .lf l, rfl, .inr ⟨l, rfl, rfl⟩, fun a H' s' na w => q _ H' s' ⟨a, _, rfl, w, .lf hl, fun _ => rfl⟩⟩
theorem rd_either {k : Bool} {n : Int} (hS : Asc S) (h20 : S.length ≤ 20) (hn : n ∈ S) (n1 : 1 ≤ n) (hx : Val C S k B f H x) (hy : Val C S k B g H y) (q : ∀ z H', Same H H' → Val C S k B (fun r => if r n = true then f r else g r) H' z → Q z H') :
    spEither C [.int n, x, y] H Q E0 := by
  obtain ⟨a, t, rfl, w, c, v⟩ := hx
  obtain ⟨b, t', rfl, w', c', v'⟩ := hy
  exact ⟨n, _, _, t, t', k, B, S, rfl, n1, .inl ⟨a, rfl, w⟩, .inl ⟨b, rfl, w'⟩, hS, h20, hn, c, c', fun t2 c2 e2 a2 H2 s2 na w2 => q _ H2 s2 ⟨a2, t2, rfl, w2, c2, fun r => by rw [e2, v, v']⟩⟩
end
end Law

set_option Elab.async false
set_option linter.all false
set_option maxRecDepth 100000
set_option maxHeartbeats 1000000
namespace Law
open PySem PySem.Spec PyProof.Rows L2 Cor
structure GloF (mg : Str → Option Value) : Prop extends GloW mg where
  repr : mg "repr" = none
  list : mg "list" = none
abbrev sFound : Stmt := topS 35
abbrev sTextL : Stmt := topS 36
theorem scFound : FnScope ["_law_tree"] ["_law_tree"] (defScope sFound) := ⟨rfl, rfl, rfl, by decide +kernel, rfl, by decide +kernel, by decide +kernel⟩
theorem scTextL : FnScope ["_law_tree", "_law_yes", "_law_no"] ["_law_tree"] (defScope sTextL) := ⟨rfl, rfl, rfl, by decide +kernel, rfl, by decide +kernel, by decide +kernel⟩
/-- the value under the words, all of which are known -/
def evW (wf : Int → Option Bool) (t : Tr) : Lf := t.ev (over wf fun _ => false)
theorem evW_eq {wf : Int → Option Bool} {r : Rho} : ∀ {t : Tr}, (∀ n ∈ t.nums, (wf n).isSome = true) → t.ev (over wf r) = evW wf t
  | .lf _, _ => rfl
  | .nd n y o, h => by
    have e1 := evW_eq (wf := wf) (r := r) (t := y) fun m hm => h m (List.mem_cons_of_mem _ (List.mem_append_left _ hm))
    have e2 := evW_eq (wf := wf) (r := r) (t := o) fun m hm => h m (List.mem_cons_of_mem _ (List.mem_append_right _ hm))
    have hn := h n List.mem_cons_self
    unfold evW at e1 e2 ⊢
    show (if over wf r n = true then y.ev _ else o.ev _) = (if over wf (fun _ => false) n = true then y.ev _ else o.ev _)
    rw [e1, e2]
    unfold over
    cases z : wf n with
    | none => rw [z] at hn; cases hn
    | some b => rfl
def spValue : Sp := fun vs H Q _ => ∃ (v : V) (d : Addr) (t : Tr) (wf : Int → Option Bool), vs = [v, .ref d] ∧ Tv H v t ∧ Wd H d wf ∧ (∀ n ∈ t.nums, (wf n).isSome = true) ∧ Q (Lf.v (evW wf t)) H
def spFound (m : Nat) : Sp := fun vs H Q _ => ∃ (v : V) (t : Tr) (k : Bool) (B : Nat) (S : List Int), vs = [v] ∧ Tv H v t ∧ t.dep < m ∧ Asc S ∧ S.length ≤ 20 ∧ Cn (Lg k B) S t ∧
  ∀ p H' ns, Same H H' → H' p = some (.lst (ns.map V.int)) → Asc ns → (∀ n, n ∈ ns ↔ n ∈ t.nums) → ns.length ≤ S.length → Q (.ref p) H'
section
variable {P : Program} {w : World} {K : PySem.W.Frag} {mg : Str → Option Value} {base : Heap}
theorem ok_found {f : Addr} {fd : FuncData} (F : Fun K "_law_found" "_law_found" sFound f fd) (T : GloW mg) (hm : mg "_law_found" = some (.ref f)) :
    ∀ m, m ≤ 50 → FnOk P w K mg base CX0 (1 + m) f fd ["_law_tree"] (spFound m) := by
  intro m
  induction m with
  | zero =>
    intro _
    refine F.ok scFound (k := 0) (fun vs H Q E h => ?_) (fun cdv A outer s H vs Q E hr h => ?_)
    · obtain ⟨v, t, k, B, S, rfl, _⟩ := h
      rfl
    · obtain ⟨v, t, k, B, S, rfl, _, hl, _⟩ := h
      omega
  | succ m IH =>
    intro hm50
    have ih : Df P w K mg base "_law_found" (1 + m) ["_law_tree"] (spFound m) := ⟨f, fd, IH (by omega), hm, F.kp, F.binds fun _ _ _ _ _ _ us hl => match us, hl with | [_], _ => rfl⟩
    refine F.ok scFound (k := 1 + m) (fun vs H Q E h => ?_) (fun cdv A outer s H vs Q E hr h => ?_)
    · obtain ⟨v, t, k, B, S, rfl, _⟩ := h
      rfl
    · obtain ⟨v, t, k, B, S, rfl, hv, hl, hS, h31, ct, q⟩ := h
      refine ⟨_, (pss_cons (ps_if (pt_not (pt_val (pe_callB (id := "isinstance") (show CallR _ (.builtin "isinstance") (rIsi K) from call_isi) (by rfl) T.isinstance (by decide +kernel) (pa_cons (pv 0) (pa_cons (pe_bltn (v := .ty "tuple") (by rfl) T.tuple (by decide +kernel) rfl) pa_nil))))) (pss_one (ps_ret (pe_lst pa_nil))) pss_nil)
      (pss_one (ps_ret (pe_callB (cr_sortedSet rfl) (by rfl) T.sorted (by decide +kernel) (pa_cons (pe_callTy (cr_setI rfl) (by rfl) T.set (by decide +kernel) (pa_cons (pe_op op_cat (pe_op op_cat (pe_lst (pa_cons (pe_ix ix_tup (pv 0) pe_int (fun _ _ => rfl)) pa_nil)) (pe_df (E := E0) ih hr (by rfl) (pa_cons (pe_ix ix_tup (pv 0) pe_int (fun _ _ => rfl)) pa_nil))) (pe_df (E := E0) ih hr (by rfl) (pa_cons (pe_ix ix_tup (pv 0) pe_int (fun _ _ => rfl)) pa_nil))) pa_nil)) pa_nil))))), ?_⟩
      obtain ⟨tyv, y1, y2⟩ := tv_tuple (K := K) hv
      refine ⟨_, rfl, _, _, _, _, _, rfl, .ty "tuple", y1, y2, _, rfl, ?_⟩
      cases t with
      | lf l =>
        refine ⟨(by show 0 ≤ sizeLine; decide), fun p np => ?_⟩
        exact q p _ [] (same_upd np) upd_same .nil (fun n => Iff.rfl) (Nat.zero_le _)
      | nd n ty to =>
        obtain ⟨a, y, o, rfl, h1, h2, h3⟩ := hv.nd_of
        have hl : max ty.dep to.dep + 1 < m + 1 := hl
        obtain ⟨hn, _, cy, co⟩ := Cn.below hS ct
        have dl := above_len hS hn
        refine ⟨_, rfl, a, _, _, _, rfl, rfl, SqT.of h1, rfl, (by show 1 ≤ sizeLine; decide), fun p0 np0 => ?_⟩
        have s0 := same_upd (o := .lst [.int n]) np0
        have h1a := s0 _ _ h1
        refine ⟨_, rfl, a, _, _, _, rfl, rfl, SqT.of h1a, rfl, y, ty, k, B, above n S, rfl, h2.same s0, by omega, above_asc hS, by omega, cy, fun p1 H1 n1 s1 e1 a1 m1 l1 => ?_⟩
        have e0 := s1 _ _ (show (upd H p0 (.lst [.int n])) p0 = _ from upd_same)
        refine ⟨p0, p1, _, _, rfl, rfl, e0, e1, ?_, fun p2 np2 => ?_⟩
        · rw [List.length_map]
          exact Nat.le_trans (by show 1 + n1.length ≤ 60; omega) (by decide)
        have s2 := same_upd (o := .lst ([V.int n] ++ n1.map V.int)) np2
        have s02 : Same H (upd H1 p2 (.lst ([V.int n] ++ n1.map V.int))) := fun b o z => s2 b o (s1 b o (s0 b o z))
        refine ⟨_, rfl, a, _, _, _, rfl, rfl, SqT.of (s02 _ _ h1), rfl, o, to, k, B, above n S, rfl, h3.same s02, by omega, above_asc hS, by omega, co, fun p3 H3 n3 s3 e3 a3 m3 l3 => ?_⟩
        have e2 := s3 _ _ (show (upd H1 p2 (.lst ([V.int n] ++ n1.map V.int))) p2 = _ from upd_same)
        have len : ((n :: n1) ++ n3).length ≤ 41 := by rw [List.length_append, List.length_cons]; omega
        have emap : ((n :: n1) ++ n3).map V.int = ([V.int n] ++ n1.map V.int) ++ n3.map V.int := by rw [List.map_append]; rfl
        refine ⟨p2, p3, _, _, rfl, rfl, e2, e3, ?_, fun p4 np4 => ?_⟩
        · rw [← List.length_append, ← emap, List.length_map]; exact Nat.le_trans len (by decide)
        have s4 := same_upd (o := .lst (([V.int n] ++ n1.map V.int) ++ n3.map V.int)) np4
        refine ⟨p4, (n :: n1) ++ n3, rfl, SqL.of (by rw [emap]; exact upd_same), by omega, fun p5 c hc np5 => ?_⟩
        have s5 := same_upd (o := SetO w p5 (fun j => decide (j ∈ (n :: n1) ++ n3)) c) np5
        refine ⟨p5, _, c, rfl, upd_same, by omega, fun ns p6 asc mem hlen np6 => ?_⟩
        have s6 := same_upd (o := .lst (ns.map V.int)) np6
        have mem' : ∀ x, x ∈ ns ↔ x ∈ (Tr.nd n ty to).nums := fun x => by
          show _ ↔ x ∈ n :: (ty.nums ++ to.nums)
          rw [mem x, decide_eq_true_iff, List.cons_append, List.mem_cons, List.mem_cons, List.mem_append, List.mem_append, m1, m3]
        refine q p6 _ ns (fun b o z => s6 b o (s5 b o (s4 b o (s3 b o (s02 b o z))))) upd_same asc mem' ?_
        exact (asc_sub hS asc fun x hx => ct.mem x ((mem' x).mp hx)).length_le
theorem ok_textL {f : Addr} {fd : FuncData} (F : Fun K "_law_text" "_law_text" sTextL f fd) (T : GloW mg) (hm : mg "_law_text" = some (.ref f)) :
    ∀ m, FnOk P w K mg base CX0 (1 + m) f fd ["_law_tree"] (spText m) := by
  intro m
  induction m with
  | zero =>
    refine F.ok scTextL (k := 0) (fun vs H Q E h => ?_) (fun cdv A outer s H vs Q E hr h => ?_)
    · obtain ⟨v, t, rfl, _⟩ := h
      rfl
    · obtain ⟨v, t, rfl, _, hl, _⟩ := h
      omega
  | succ m IH =>
    have ih : Df P w K mg base "_law_text" (1 + m) ["_law_tree"] (spText m) := ⟨f, fd, IH, hm, F.kp, F.binds fun _ _ _ _ _ _ us hl => match us, hl with | [_], _ => rfl⟩
    refine F.ok scTextL (k := 1 + m) (fun vs H Q E h => ?_) (fun cdv A outer s H vs Q E hr h => ?_)
    · obtain ⟨v, t, rfl, _⟩ := h
      rfl
    · obtain ⟨v, t, rfl, hv, hl, h12, sm, q⟩ := h
      refine ⟨_, (pss_cons (ps_if (pt_val (pe_callB (id := "isinstance") (show CallR _ (.builtin "isinstance") (rIsi K) from call_isi) (by rfl) T.isinstance (by decide +kernel) (pa_cons (pv 0) (pa_cons (pe_bltn (v := .ty "bool") (by rfl) T.bool (by decide +kernel) rfl) pa_nil)))) (pss_one (ps_ret (pe_ifExp (pt_val (pv 0)) pe_str pe_str))) pss_nil)
      (pss_cons (ps_if (pt_not (pt_val (pe_callB (id := "isinstance") (show CallR _ (.builtin "isinstance") (rIsi K) from call_isi) (by rfl) T.isinstance (by decide +kernel) (pa_cons (pv 0) (pa_cons (pe_bltn (v := .ty "tuple") (by rfl) T.tuple (by decide +kernel) rfl) pa_nil))))) (pss_one (ps_ret (pe_callTy call_str_int (by rfl) T.str (by decide +kernel) (pa_cons (pv 0) pa_nil)))) pss_nil)
      (pss_cons (ps_par (i := 1) (j := 2) (by rfl) scTextL.nd rfl rfl (by decide) rfl rfl (pa_cons (pe_df (E := E0) ih hr (by rfl) (pa_cons (pe_ix ix_tup (pv 0) pe_int (fun _ _ => rfl)) pa_nil)) (pa_cons (pe_df (E := E0) ih hr (by rfl) (pa_cons (pe_ix ix_tup (pv 0) pe_int (fun _ _ => rfl)) pa_nil)) pa_nil)) (by rfl))
      (pss_one (ps_ret (pe_op op_add_str (pe_op op_add_str (pe_op op_add_str (pe_op op_add_str (pe_op op_add_str (pe_op op_add_str pe_str (pe_callTy call_str_int (by rfl) T.str (by decide +kernel) (pa_cons (pe_ix ix_tup (pv 0) pe_int (fun _ _ => rfl)) pa_nil))) pe_str) (pv 1)) pe_str) (pv 2)) pe_str)))))), ?_⟩
      cases t with
      | lf l =>
        obtain rfl := hv.lf_of
        cases l with
        | i n =>
          refine ⟨_, rfl, _, _, _, _, _, rfl, .ty "bool", .base (.int n), kit_ty (r := false) (by decide +kernel), _, rfl, ?_⟩
          exact ⟨_, rfl, _, _, _, _, _, rfl, .ty "tuple", .base (.int n), kit_ty (r := false) (by decide +kernel), _, rfl, _, rfl, _, rfl, sm, q⟩
        | b n =>
          refine ⟨_, rfl, _, _, _, _, _, rfl, .ty "bool", .base (.bl n), kit_ty (r := true) (by decide +kernel), _, rfl, _, rfl, _, rfl, ?_⟩
          cases n with
          | true => exact q
          | false => exact q
      | nd n ty to =>
        have fit := txt_fits sm h12
        obtain ⟨a, y, o, rfl, h1, h2, h3⟩ := hv.nd_of
        have hl : max ty.dep to.dep + 1 < m + 1 := hl
        have h12 : max ty.dep to.dep + 1 ≤ 12 := h12
        obtain ⟨sn, sy, so⟩ := sm
        refine ⟨_, rfl, _, _, _, _, _, rfl, .ty "bool", .base (.tup h1), kit_ty (r := false) (by decide +kernel), _, rfl, ?_⟩
        refine ⟨_, rfl, _, _, _, _, _, rfl, .ty "tuple", .base (.tup h1), kit_ty (r := true) (by decide +kernel), _, rfl, ?_⟩
        refine ⟨_, rfl, a, _, _, _, rfl, rfl, SqT.of h1, rfl, y, ty, rfl, h2, by omega, by omega, sy, ?_⟩
        refine ⟨_, rfl, a, _, _, _, rfl, rfl, SqT.of h1, rfl, o, to, rfl, h3, by omega, by omega, so, _, _, rfl, ?_⟩
        have all : (Str.empty ++ "(" ++ Str.ofString (toString n) ++ " ? " ++ txt ty ++ " : " ++ txt to ++ ")" : Str).length ≤ sizeLine := fit
        rw [Str.empty_append] at all
        have qq : Q (.str ("(" ++ Str.ofString (toString n) ++ " ? " ++ txt ty ++ " : " ++ txt to ++ ")")) H := by
          have z : Q (.str (Str.empty ++ "(" ++ Str.ofString (toString n) ++ " ? " ++ txt ty ++ " : " ++ txt to ++ ")")) H := q
          rw [Str.empty_append] at z
          exact z
        have pre : ∀ {a b : Str}, (a ++ b).length ≤ sizeLine → a.length ≤ sizeLine := fun {a b} z => by rw [Str.length_append] at z; omega
        have a6 := pre all
        have a5 := pre a6
        have a4 := pre a5
        have a3 := pre a4
        have a2 := pre a3
        have lng : ∀ {a b : Str}, (a ++ b).length ≤ sizeLine → a.length + b.length ≤ sizeLine := fun {a b} z => by rw [Str.length_append] at z; exact z
        refine ⟨_, rfl, a, _, _, _, rfl, rfl, SqT.of h1, rfl, _, rfl, sn, _, _, rfl, rfl, lng a2, _, _, rfl, rfl, lng a3, _, rfl, _, _, rfl, rfl, lng a4, _, _, rfl, rfl, lng a5, _, rfl, _, _, rfl, rfl, lng a6, _, _, rfl, rfl, lng all, qq⟩
end
end Law

set_option Elab.async false
set_option linter.all false
set_option maxRecDepth 100000
set_option maxHeartbeats 1000000
namespace Law
open PySem PySem.Spec PyProof.Rows L2 Cor
theorem atI_head {n : Int} {ns : List Int} : atI ((n :: ns).map V.int) 0 = some (V.int n) := atI_ints (ns := n :: ns) (k := 0) (by show (0 : Int) < ((ns.length + 1 : Nat) : Int); omega) (by decide)
theorem cut_tail {n : Int} {ns : List Int} : cutV ((n :: ns).map V.int) (some 1) none = ns.map V.int := by
  unfold cutV
  rw [show HT.sIx ((n :: ns).map V.int).length 0 (some 1) = 1 from by
    rw [show (some (1 : Int)) = some ((1 : Nat) : Int) from rfl, HT.sIx_nat, List.length_map, List.length_cons]
    omega, HT.sIx_none]
  simp only [List.map_cons, List.drop_succ_cons, List.drop_zero, List.length_cons, Nat.add_sub_cancel]
  exact List.take_of_length_le (Nat.le_refl _)
/-- the one form of a function of words, which the lambda at f tells -/
def spTree (P : Program) (w : World) (K : PySem.W.Frag) (mg : Str → Option Value) (base : Heap) (m : Nat) : Sp := fun vs H Q _ => ∃ (a d f : Addr) (ns : List Int) (ws : List (Int × Bool)) (F : NdefX.NF) (b : Expr) (spL : Sp) (val : Rho → Lf) (k : Bool) (B : Nat),
  vs = [.ref a, .ref d, .ref f] ∧ H a = some (.lst (ns.map V.int)) ∧ ns.length < m ∧ ns.length ≤ 12 ∧ Asc ns ∧ (∀ n ∈ ns, n.natAbs < 2 ^ 1900) ∧ 0 < B ∧ B ≤ 1900 ∧ Wl H d ws ∧ ws.length + ns.length ≤ 60 ∧ (∀ n ∈ ns, n ∉ ws.map (·.1)) ∧ H f = some (LamO f F b) ∧ FnR P w K mg base CX0 5 f spL ∧
  (∀ d' more H', Same H H' → Wl H' d' (ws ++ more) → more.map (·.1) = ns → ∃ l, Lg k B l ∧ (∀ r, val (over (lookW (ws ++ more)) r) = l) ∧ ∀ Q' : VK, (∀ H'', Same H' H'' → Q' (Lf.v l) H'') → spL [.ref d'] H' Q' E0) ∧
  ∀ v H' t, Same H H' → Tv H' v t → Cn (Lg k B) ns t → (∀ r, t.ev r = val (over (lookW ws) r)) → Q v H'
theorem over_put {ws : List (Int × Bool)} {n : Int} {r : Rho} (h : n ∉ ws.map (·.1)) : over (lookW (ws ++ [(n, r n)])) r = over (lookW ws) r := by
  funext m
  unfold over
  rw [lookW_append (kv := (n, r n)) h]
  by_cases e : m = n
  · rw [if_pos e]
    have z : lookW ws m = none := by
      unfold lookW
      rw [List.lookup_eq_none_iff]
      intro p hp
      rw [bne_iff_ne, e]
      exact fun z => h (List.mem_map.mpr ⟨p, hp, z.symm⟩)
    rw [z, e]
    rfl
  · rw [if_neg e]
section
variable {P : Program} {w : World} {K : PySem.W.Frag} {mg : Str → Option Value} {base : Heap}
end
end Law

set_option Elab.async false
set_option linter.all false
set_option maxRecDepth 100000
set_option maxHeartbeats 1000000
namespace Law
open PySem PySem.Spec PyProof.Rows L2 Cor LamX NdefX
theorem Lent.same {H H' : Hp} {c : Addr} {v : V} (s : Same H H') (h : Lent H c v) : Lent H' c v := let ⟨o, e⟩ := h; ⟨o, s _ _ e⟩
theorem over_nil {r : Rho} : over (lookW []) r = r := rfl
section
variable {P : Program} {w : World} {K : PySem.W.Frag} {mg : Str → Option Value} {base : Heap}
/-- what _law_tree(numbers, words, lambda ..) asks: G, what the lambda's body needs of the heap; fv, what it tells -/
theorem rd_lend {T : List (Addr × Str)} {fr : List Str} {js : List Nat} {body : Expr} {mk : Addr → NF} {N : List Str} {σ : L2.St} {H : Hp} {Q : VK} {a d : Addr} {ns : List Int} {ws : List (Int × Bool)} {m : Nat} {k : Bool} {B : Nat} {val : Rho → Lf} (cvs : List V) (G : Hp → Prop) (fv : List (Int × Bool) → Lf)
    (S : ∀ c, NScope N ["_law_words"] fr (mk c).scope) (hb : ∀ (c : Addr) (pm ctv : Value) (us : List Value), us.length = 1 → bindArgs (PySem.W.kla_fn "<lambda>" (mk c).qual (mk c).params body (mk c).scope (mk c).cl pm (.ref (mk c).c) ctv) ⟨us, []⟩ = pure ((["_law_words"] : List Str).zip us))
    (hcv : js.map (slotAt σ) = cvs.map some) (lfr : cvs.length = fr.length) (hmk : ∀ c, (mk c).c = c) (ha : H a = some (.lst (ns.map V.int))) (hm : ns.length < m) (h12 : ns.length ≤ 12) (asc : Asc ns) (small : ∀ n ∈ ns, n.natAbs < 2 ^ 1900) (B0 : 0 < B) (B1 : B ≤ 1900)
    (hd : Wl H d ws) (l60 : ws.length + ns.length ≤ 60) (fresh : ∀ n ∈ ns, n ∉ ws.map (·.1)) (hT : Tabs T H) (gH : G H) (gK : ∀ H1 H2, Kz H1 H2 → G H1 → G H2)
    (fvg : ∀ more, more.map (·.1) = ns → Lg k B (fv more)) (fvv : ∀ more r, more.map (·.1) = ns → val (over (lookW (ws ++ more)) r) = fv more)
    (hbody : ∀ (f c : Addr) (A : Around) (outer : List Env) (s : Shared) (H0 : Hp) (d : Addr) (more : List (Int × Bool)) (Q0 : VK), Room 4 (A.deeper (envF (mk c) f s.heap.objs.size)) → Wl H0 d (ws ++ more) → more.map (·.1) = ns → G H0 → (∀ H2, Same H0 H2 → Q0 (Lf.v (fv more)) H2) →
      ∃ t, PE (ncx CX0 P w K mg base N (mk c) f A outer s H0 E0) body t ∧ t (startF N [.ref d] (cvs.map some)) H0 Q0)
    (q : ∀ v H5 t, ExtN H H5 → Tabs T H5 → Tv H5 v t → Cn (Lg k B) ns t → (∀ r, t.ev r = val (over (lookW ws) r)) → Q v H5) :
    Tabs T H ∧ ∀ (f c' : Addr) (H3 : Hp), ExtN H H3 → Tabs T H3 → H f = none → H3 f = some (LamO f (mk c') body) → H3 c' = some (CodeO c' (mk c').qual) →
      (∀ x y a, (mk c').cl.lookup x = some a → (mk c').cl.lookup y = some a → x = y) → (∀ y a, (mk c').cl.lookup y = some a → (y, NameKind.free) ∈ (mk c').scope.names) →
      ∀ Hl : Hp, Same H3 Hl → (∀ (i : Nat) (y : Str) (v : V), fr[i]? = some y → (js.map (slotAt σ))[i]? = some (some v) → ∃ a, (mk c').cl.lookup y = some a ∧ Lent Hl a v) →
        spTree P w K mg base m [.ref a, .ref d, .ref f] Hl (fun v H4 => Same Hl H4 ∧ ∀ H5, Same H3 H5 → Kx H4 H5 → Q v H5) E0 := by
  refine ⟨hT, fun f c' H3 eN T3 f0 hf hc inj dom Hl sl lent => ?_⟩
  have ha' := sl _ _ (eN _ _ ha (fun _ z => by cases z))
  have hd' : Wl Hl d ws := ⟨sl _ _ (eN _ _ hd.1 (fun _ z => by cases z)), hd.2⟩
  have gl : G Hl := gK _ _ (eN.kz.trans sl.kz) gH
  have R : FnR P w K mg base CX0 5 f (spLam ["_law_words"] fr (mk c') f body fun ws0 vs H0 Q0 => ∃ d more, vs = [.ref d] ∧ ws0 = cvs ∧ Wl H0 d (ws ++ more) ∧ more.map (·.1) = ns ∧ G H0 ∧ ∀ H2, Same H0 H2 → Q0 (Lf.v (fv more)) H2) := by
    refine lam_fnR (k := 4) (S c') (hb c') inj dom fun A outer s H0 vs ws0 Q0 hr z => ?_
    obtain ⟨d, more, rfl, rfl, hw, hmore, g, q0⟩ := z
    exact hbody f c' A outer s H0 d more Q0 hr hw hmore g q0
  refine ⟨a, d, f, ns, ws, mk c', body, _, val, k, B, rfl, ha', hm, h12, asc, small, B0, B1, hd', l60, fresh, sl _ _ hf, R, fun d' more H' s' hw hmore => ?_, fun v H' t s' hv ct et => ?_⟩
  · refine ⟨fv more, fvg more hmore, fun r => fvv more r hmore, fun Q' q' => ?_⟩
    refine ⟨rfl, s' _ _ (sl _ _ hf), by rw [hmk c']; exact s' _ _ (sl _ _ hc), cvs, lfr, fun i y hi => ?_, fun H0 kx => ⟨d', more, rfl, rfl, hw.kx kx, hmore, gK _ _ (s'.kz.trans kx.kz) gl, fun H2 s2 H9 sm9 _ => q' H9 (sm9 s2)⟩⟩
    have hlt : i < cvs.length := by rw [lfr]; exact (List.getElem?_eq_some_iff.mp hi).1
    obtain ⟨c, e1, e2⟩ := lent i y cvs[i] hi (by rw [hcv, List.getElem?_map, List.getElem?_eq_getElem hlt]; rfl)
    exact ⟨c, cvs[i], e1, List.getElem?_eq_getElem hlt, Lent.same s' e2⟩
  · refine ⟨s', fun H5 s5 kx => q v H5 t (fun b o z n => s5 b o (eN b o z n)) (Cor.Tabs.same T3 s5) (hv.kx kx) ct et⟩
end
/-! ### _law_form -/
theorem Rw.mem {k : Bool} {B : Nat} {S : List Int} : ∀ {t : Tr}, Rw k B S t → ∀ n ∈ t.nums, n ∈ S
  | .lf _, _, n, h => by cases h
  | .nd m y o, h, n, hn => by
    rcases List.mem_cons.mp hn with e | e
    · rw [e]; exact h.1
    · rcases List.mem_append.mp e with e | e
      · exact Rw.mem h.2.1 n e
      · exact Rw.mem h.2.2 n e
theorem Rw.ev {k : Bool} {B : Nat} {S : List Int} {r : Rho} : ∀ {t : Tr}, Rw k B S t → Lg k B (t.ev r)
  | .lf _, h => h
  | .nd m y o, h => by
    show Lg k B (if r m = true then y.ev r else o.ev r)
    split
    · exact Rw.ev h.2.1
    · exact Rw.ev h.2.2
theorem known_of {ns : List Int} {more : List (Int × Bool)} {t : Tr} (hm : more.map (·.1) = ns) (h : ∀ n ∈ t.nums, n ∈ ns) : ∀ n ∈ t.nums, (lookW more n).isSome = true := fun n hn => lookW_some (by rw [hm]; exact h n hn)
theorem wd_of {H : Hp} {d : Addr} {ws : List (Int × Bool)} (h : Wl H d ws) : Wd H d (lookW ws) := ⟨_, h.1, val_kvW ws⟩
def spForm (T : List (Addr × Str)) : Sp := fun vs H Q _ => ∃ (a : Addr) (v : V) (ns : List Int) (t : Tr) (k : Bool), vs = [.ref a, v] ∧ H a = some (.lst (ns.map V.int)) ∧ ns.length ≤ 12 ∧ Asc ns ∧ (∀ n ∈ ns, n.natAbs < 2 ^ 1900) ∧ Tv H v t ∧ Rw k 66 ns t ∧ Tabs T H ∧
  ∀ v' H' t', ExtN H H' → Tabs T H' → Tv H' v' t' → Cn (Lg k 66) ns t' → (∀ r, t'.ev r = t.ev r) → Q v' H'
section
variable {P : Program} {w : World} {K : PySem.W.Frag} {mg : Str → Option Value} {base : Heap}
end
end Law

set_option Elab.async false
set_option linter.all false
set_option maxRecDepth 100000
set_option maxHeartbeats 1000000
namespace Law
open PySem PySem.Spec PyProof.Rows L2 Cor LamX NdefX
/-! ### operators of Worth, by what they promise -/
def OpW (P : Program) (w : World) (K : PySem.W.Frag) (mg : Str → Option Value) (base : Heap) (C : Addr) (op : Operator) (o : Op) : Prop := ∃ g, PySem.W.findIn K (.ref C) (PySem.dunder op.info.2) = some (some (.ref g)) ∧ MdR P w K mg base 24 g (spBin C o)
def OpT (K : PySem.W.Frag) (C : Addr) (op : Operator) (T : String) : Prop := ∃ (fo ro rc : Option Value), PySem.W.findIn K (.ref C) (PySem.dunderR op.info.2) = some rc ∧ (rc = none ∨ ∃ g : Addr, rc = some (.ref g)) ∧ PySem.W.findIn K (.type T) (PySem.dunder op.info.2) = some fo ∧
  PySem.W.findIn K (.type T) (PySem.dunderR op.info.2) = some ro ∧ PySem.W.subIn K (.type T) (.ref C) = some false
def UnW (P : Program) (w : World) (K : PySem.W.Frag) (mg : Str → Option Value) (base : Heap) (C : Addr) (n : Str) : Prop := ∃ g, PySem.W.findIn K (.ref C) n = some (some (.ref g)) ∧ MdR P w K mg base 24 g (spTurn C)
def EqW (P : Program) (w : World) (K : PySem.W.Frag) (mg : Str → Option Value) (base : Heap) (C : Addr) : Prop := ∃ g, PySem.W.findIn K (.ref C) "__eq__" = some (some (.ref g)) ∧ MdR P w K mg base 26 g (spEqW C) ∧ PySem.W.findIn K (.ref C) "__ne__" = some (some (.builtin "object.__ne__")) ∧ PySem.W.subIn K (.ref C) (.type "object") = some true
section
variable {X : Cx} {C : Addr}
theorem op_W {op : Operator} {o : Op} (sf : PySem.W.selfFirst X.K C = true) (D : OpW X.prog X.w X.K X.mg X.base C op o) (hr : Room 24 X.A) : OpR X (binaryOp op) (rOw2 C (spBin C o)) := let ⟨_, h, M⟩ := D; op_ow2 sf h M hr
theorem op_WT {op : Operator} {o : Op} {ty : String} (sf : PySem.W.selfFirst X.K C = true) (D : OpW X.prog X.w X.K X.mg X.base C op o) (T : OpT X.K C op ty) (hr : Room 24 X.A) : OpR X (binaryOp op) (rOwT C ty (spBin C o)) := by
  obtain ⟨g, h, M⟩ := D
  obtain ⟨fo, ro, rc, h1, h2, h3, h4, h5⟩ := T
  exact op_owT sf h h1 h2 h3 h4 h5 M hr
theorem un_Wn (D : UnW X.prog X.w X.K X.mg X.base C "__neg__") (hr : Room 24 X.A) : UnR X (unaryOp .USub) (rOw1 C (spTurn C)) := let ⟨_, h, M⟩ := D; un_owN h M hr
theorem un_Wi (D : UnW X.prog X.w X.K X.mg X.base C "__invert__") (hr : Room 24 X.A) : UnR X (unaryOp .Invert) (rOw1 C (spTurn C)) := let ⟨_, h, M⟩ := D; un_owI h M hr
theorem op_We (D : EqW X.prog X.w X.K X.mg X.base C) (hr : Room 26 X.A) : OpR X (compareOp .Eq) (rOw2 C (spEqW C)) := let ⟨_, h, M, _⟩ := D; op_owEq h M hr
theorem op_Wn (D : EqW X.prog X.w X.K X.mg X.base C) (hr : Room 27 X.A) : OpR X (compareOp .NotEq) (rOwNe C (spEqW C)) := let ⟨_, h, M, h2, h3⟩ := D; op_owNe h h2 h3 M hr
end
/-! ### texts -/
theorem Sml.sm : ∀ {t : Tr}, Sml t → Sm t
  | .lf (.i _), h => h
  | .lf (.b _), _ => True.intro
  | .nd _ _ _, h => ⟨h.1, Sml.sm h.2.1, Sml.sm h.2.2⟩
theorem calm_of (s : Str) (h : s.cps.toList.all signOk = true) : Calm s := fun c hc => List.all_eq_true.mp h c hc
theorem calm_txt : ∀ t : Tr, Calm (txt t)
  | .lf (.i n) => calm_int n
  | .lf (.b true) => calm_of _ (by decide +kernel)
  | .lf (.b false) => calm_of _ (by decide +kernel)
  | .nd n y o => by
    show Calm (Str.empty ++ "(" ++ Str.ofString (toString n) ++ " ? " ++ txt y ++ " : " ++ txt o ++ ")")
    exact Calm.append (Calm.append (Calm.append (Calm.append (Calm.append (Calm.append (Calm.append (calm_of _ (by decide +kernel)) (calm_of _ (by decide +kernel))) (calm_int n)) (calm_of _ (by decide +kernel))) (calm_txt y)) (calm_of _ (by decide +kernel))) (calm_txt o)) (calm_of _ (by decide +kernel))
/-- the text of repr -/
def rtx (t : Tr) : Str := "Worth('" ++ txt t ++ "')"
theorem rtx_eq (t : Tr) : Str.empty ++ "Worth(" ++ reprText (txt t) ++ ")" = rtx t := by
  rw [calm_repr (calm_txt t), Str.empty_append]
  unfold rtx
  have e1 : ("Worth('" : Str) = "Worth(" ++ "'" := by decide +kernel
  have e2 : ("')" : Str) = "'" ++ ")" := by decide +kernel
  rw [e1, e2]
  simp only [Str.append_assoc]
theorem strOk_of (s : String) : PyData.strOk (Str.ofString s) = true := by
  unfold PyData.strOk
  rw [Str.ofString_eq_toList]
  simp only [List.all_toArray, List.all_map, List.all_eq_true]
  intro c _
  show decide (c.toNat < 1114112) = true
  refine decide_eq_true ?_
  have h := c.valid
  have e : c.toNat = c.val.toNat := rfl
  rcases h with h | h
  · have h : c.val.toNat < 55296 := h
    omega
  · have h : c.val.toNat < 1114112 := h.2
    omega
theorem strOk_app {a b : Str} (ha : PyData.strOk a = true) (hb : PyData.strOk b = true) : PyData.strOk (a ++ b) = true := by
  unfold PyData.strOk at *
  rw [Str.cps_append, Array.all_append, ha, hb]
  rfl
theorem strOk_calm {x : Str} (h : Calm x) : PyData.strOk x = true := by
  unfold PyData.strOk
  rw [Array.all_eq_true]
  intro i hi
  have z := h x.cps[i] (Array.mem_toList_iff.mpr (Array.getElem_mem hi))
  unfold signOk at z
  simp only [Bool.and_eq_true, decide_eq_true_eq] at z
  exact decide_eq_true (Nat.lt_trans z.1.1.2 (by decide))
theorem shaped2 {a b : Str} (ha : PyData.strOk a = true) (hb : PyData.strOk b = true) : SeqAt.shaped (.list [.str a, .str b]) = true := by
  unfold SeqAt.shaped
  have e : PyData.canLay0 (.list [.str a, .str b]) = (PyData.strOk a && (PyData.strOk b && true)) := rfl
  rw [e, ha, hb]
  rfl
theorem eqv2 {a b : Str} : (!PyData.eqv (.list [.str a, .str b]) (.list [.str a, .str b])) = false := by
  show (!((a == a) && ((b == b) && true))) = false
  simp
/-! ### what a worth tells, shown -/
theorem join_len : ∀ ts : List Str, (Str.join ", " ts).length ≤ (ts.map fun t => t.length + 2).sum
  | [] => by decide
  | [x] => by show x.length ≤ x.length + 2 + 0; omega
  | x :: y :: r => by
    have ih := join_len (y :: r)
    show (x ++ ", " ++ Str.join ", " (y :: r)).length ≤ _
    rw [Str.length_append, Str.length_append, show Str.length (Str.ofString ", ") = 2 from by decide +kernel, List.map_cons, List.sum_cons]
    omega
theorem nums_len : ∀ ns : List Int, (∀ n ∈ ns, n.natAbs.log2 < 1920) → ((ns.map fun n => ((toString n : String) : Str)).map fun t => t.length + 2).sum ≤ 1923 * ns.length
  | [], _ => by decide
  | n :: ns, h => by
    have ih := nums_len ns fun m hm => h m (List.mem_cons_of_mem _ hm)
    have h1 := num_len (h n List.mem_cons_self)
    simp only [List.map_cons, List.sum_cons, List.length_cons]
    omega
/-- [words, plain, is_truth] -/
def toldD (ns : List Int) (t : Tr) (k : Bool) : PyData := .list [.tuple (ns.map .int), (match t with | .lf l => l.d | .nd _ _ _ => .none), .bool k]
theorem show_ints : ∀ ns : List Int, (∀ n ∈ ns, n.natAbs.log2 < 1920) → PyData.showableAll (ns.map .int) = true
  | [], _ => rfl
  | n :: ns, h => by
    show (PyData.showable (.int n) && PyData.showableAll (ns.map .int)) = true
    rw [show_ints ns fun m hm => h m (List.mem_cons_of_mem _ hm), show PyData.showable (.int n) = true from decide_eq_true (h n List.mem_cons_self)]
    rfl
theorem nodict_ints : ∀ ns : List Int, PyData.hasDictAll (ns.map .int) = false
  | [] => rfl
  | n :: ns => by
    show (PyData.hasDict (.int n) || PyData.hasDictAll (ns.map .int)) = false
    rw [nodict_ints ns]; rfl
def plainD : Tr → PyData
  | .lf l => l.d
  | .nd _ _ _ => .none
theorem told_eq (ns : List Int) (t : Tr) (k : Bool) : toldD ns t k = .list [.tuple (ns.map .int), plainD t, .bool k] := by cases t <;> rfl
theorem plain_show : ∀ {t : Tr}, Sml t → (plainD t).showable = true ∧ (plainD t).hasDict = false ∧ (plainD t).depth = 0 ∧ (plainD t).shown.length ≤ 1921
  | .lf (.i n), h => ⟨decide_eq_true h, rfl, rfl, by rw [show plainD (.lf (.i n)) = .int n from rfl, PyData.shown_int]; exact num_len h⟩
  | .lf (.b true), _ => ⟨rfl, rfl, rfl, by decide +kernel⟩
  | .lf (.b false), _ => ⟨rfl, rfl, rfl, by decide +kernel⟩
  | .nd _ _ _, _ => ⟨rfl, rfl, rfl, show Str.length (Str.ofString "None") ≤ 1921 by decide +kernel⟩
theorem told_ok {ns : List Int} {t : Tr} {k : Bool} (hn : ∀ n ∈ ns, n.natAbs.log2 < 1920) (hl : ns.length ≤ 12) (sm : Sml t) : (toldD ns t k).showable = true ∧ (toldD ns t k).hasDict = false ∧ (toldD ns t k).shown.length ≤ sizeLine ∧ (toldD ns t k).depth ≤ 60 := by
  obtain ⟨p1, p2, p3, p4⟩ := plain_show sm
  rw [told_eq]
  refine ⟨?_, ?_, ?_, ?_⟩
  · show (PyData.showableAll (ns.map .int) && ((plainD t).showable && (PyData.showable (.bool k) && true))) = true
    rw [show_ints ns hn, p1]; rfl
  · show (PyData.hasDictAll (ns.map .int) || ((plainD t).hasDict || (PyData.hasDict (.bool k) || false))) = false
    rw [nodict_ints, p2]; rfl
  · rw [PyData.shown_list, PyData.shownAll_cons, PyData.shownAll_cons, PyData.shownAll_cons, PyData.shownAll_nil, PyData.shown_tuple, PyData.shownAll_ints, Str.length_append, Str.length_append]
    have j := join_len [(("(" : Str) ++ Str.join ", " (ns.map fun n => ((toString n : String) : Str)) ++ (if (ns.map PyData.int).length == 1 then ",)" else ")" : String)), (plainD t).shown, (PyData.bool k).shown]
    have j2 := join_len (ns.map fun n => ((toString n : String) : Str))
    have j3 := nums_len ns hn
    have b : (PyData.bool k).shown.length ≤ 5 := by cases k <;> decide +kernel
    have e1 : (Str.ofString (if (ns.map PyData.int).length == 1 then ",)" else ")" : String)).length ≤ 2 := by split <;> decide +kernel
    have e2 : Str.length (Str.ofString "(") = 1 := by decide +kernel
    have e3 : Str.length (Str.ofString "[") = 1 := by decide +kernel
    have e4 : Str.length (Str.ofString "]") = 1 := by decide +kernel
    simp only [List.map_cons, List.map_nil, List.sum_cons, List.sum_nil, Str.length_append] at j
    have e5 : sizeLine = 16777216 := rfl
    have l12 : 1923 * ns.length ≤ 1923 * 12 := Nat.mul_le_mul_left _ hl
    rw [e3, e4, e5]
    omega
  · show max (PyData.depthAll (ns.map .int) + 1) (max (plainD t).depth (max 0 0)) + 1 ≤ 60
    have := ints_depth ns
    rw [p3]
    omega
theorem asc_eq {ns ms : List Int} (h : Asc ns) (h' : Asc ms) (e : ∀ n, n ∈ ns ↔ n ∈ ms) : ns = ms :=
  (asc_sub h' h fun n hn => (e n).mp hn).eq_of_length_le (asc_sub h h' fun n hn => (e n).mpr hn).length_le
theorem plain_dp {K : PySem.W.Frag} {H : Hp} : ∀ {t : Tr} {v : V}, Tv H v t → Dp K H (match t with | .lf l => Lf.v l | .nd _ _ _ => .non) (plainD t)
  | .lf (.i n), _, _ => .int n
  | .lf (.b n), _, _ => .bl n
  | .nd _ _ _, _, _ => .non
abbrev sWRepr : Stmt := inClass (topS 30) 25
abbrev sIs : Stmt := topS 37
theorem scWRepr : FnScope ["self"] ["self"] (defScope sWRepr) := ⟨rfl, rfl, rfl, by decide +kernel, rfl, by decide +kernel, by decide +kernel⟩
theorem scIs : FnScope ["_law_worth", "_law_tree", "_law_text_here", "_law_plain", "_law_first", "_law_told"] ["_law_worth", "_law_tree"] (defScope sIs) := ⟨rfl, rfl, rfl, by decide +kernel, rfl, by decide +kernel, by decide +kernel⟩
def spReprW (C : Addr) : Sp := fun vs H Q _ => ∃ (a : Addr) (t : Tr), vs = [.ref a] ∧ Wo C H a t ∧ t.dep ≤ 12 ∧ Sm t ∧ Q (.str (rtx t)) H
/-- a worth, and the form that it must have -/
def spIs (C : Addr) : Sp := fun vs H Q _ => ∃ (x v : V) (t : Tr) (k k' : Bool) (B B' : Nat) (S : List Int) (f : Rho → Lf), vs = [x, v] ∧ Val C S k B f H x ∧ Tv H v t ∧ Cn (Lg k' B') S t ∧ (∀ r, t.ev r = f r) ∧ Asc S ∧ S.length ≤ 12 ∧ (∀ n ∈ S, n.natAbs < 2 ^ 1900) ∧ 0 < B' ∧ B' ≤ 1900 ∧
  ∀ H', Same H H' → Q (.bl true) H'
/-- all of the class that _law_is asks -/
structure WIs (P : Program) (w : World) (K : PySem.W.Frag) (mg : Str → Option Value) (base : Heap) (C : Addr) : Prop extends WCl K mg C where
  words : PrW P w K mg base C "words" 24 (spWords C)
  plain : PrW P w K mg base C "plain" 24 (spPlain C)
  isT : PrW P w K mg base C "is_truth" 24 (spIsT C)
  str : ∃ g, PySem.W.findIn K (.ref C) "__str__" = some (some (.ref g)) ∧ MdR P w K mg base 24 g (spStrW C)
  rpr : ∃ g, PySem.W.findIn K (.ref C) "__repr__" = some (some (.ref g)) ∧ MdR P w K mg base 24 g (spReprW C)
section
variable {P : Program} {w : World} {K : PySem.W.Frag} {mg : Str → Option Value} {base : Heap} {C : Addr}
theorem ok_wRepr {f : Addr} {fd : FuncData} (F : Fun K "__repr__" "Worth.__repr__" sWRepr f fd) (W : WCl K mg C) (D : WD P w K mg base C) : FnOk P w K mg base CX0 24 f fd ["self"] (spReprW C) := by
  refine F.ok scWRepr (fun vs H Q E h => ?_) (fun cdv A outer s H vs Q E hr h => ?_)
  · obtain ⟨a, t, rfl, _⟩ := h
    rfl
  · obtain ⟨a, t, rfl, ⟨dx, v, h1, hv⟩, d12, sm, q⟩ := h
    refine ⟨_, (pss_one (ps_ret (pe_joined (PJ.cons pe_str (PJ.cons (pe_fmtR (pe_df (E := E0) D.text hr (by rfl) (pa_cons (pe_fld (pv 0) rfl) pa_nil))) (PJ.cons pe_str PJ.nil)))))), ?_⟩
    have e := rtx_eq t
    have fit := txt_fits sm d12
    have len := txt_len sm
    have p : 2 ^ t.dep ≤ 2 ^ 12 := Nat.pow_le_pow_right (by decide) d12
    have lr : (reprText (txt t)).length = (txt t).length + 2 := by
      rw [calm_repr (calm_txt t), Str.length_append, Str.length_append, show Str.length (Str.ofString "'") = 1 from by decide +kernel]
      omega
    have sz : sizeLine = 16777216 := rfl
    have w0 : Str.length (Str.empty ++ "Worth(") = 6 := by decide +kernel
    have c1 : Str.length (Str.ofString ")") = 1 := by decide +kernel
    refine ⟨_, rfl, ?_, _, rfl, a, C, dx, _, _, rfl, h1, W.cl, W.nt, rfl, v, t, rfl, hv, by omega, d12, sm, .inl ⟨_, rfl, ?_, _, rfl, ?_, _, rfl, ?_, ?_⟩⟩
    · decide +kernel
    · omega
    · rw [Str.length_append, w0]; omega
    · rw [Str.length_append, Str.length_append, w0, c1]; omega
    · show Q (.str (Str.empty ++ "Worth(" ++ reprText (txt t) ++ ")")) H
      rw [e]
      exact q
theorem ok_is {f : Addr} {fd : FuncData} (F : Fun K "_law_is" "_law_is" sIs f fd) (T : GloF mg) (W : WIs P w K mg base C) (dtx : Df P w K mg base "_law_text" 14 ["_law_tree"] (spText 13)) (dfo : Df P w K mg base "_law_found" 14 ["_law_tree"] (spFound 13)) :
    FnG P w K mg base CX0 28 f fd ["_law_worth", "_law_tree"] (spIs C) := by
  refine okG F scIs (k := 27) (fun vs H Q E h => ?_) (fun cdv A outer s H vs Q E hr gd h => ?_)
  · obtain ⟨x, v, t, k, k', B, B', S, fv, rfl, _⟩ := h
    rfl
  · obtain ⟨x, v, t', k, k', B, B', S, fv, rfl, ⟨a, t, rfl, hw, ct, et⟩, hv, ct', et', hS, h12, small, B0, B1, q⟩ := h
    obtain rfl : t = t' := Cn.one hS ct ct' fun r => by rw [et, et']
    have sml := Cn.sml B0 (by omega) small ct'
    have sm := Sml.sm sml
    have dep := ct'.dep_le
    have d12 : t.dep ≤ 12 := by omega
    obtain ⟨gs, hgs, ms⟩ := W.str
    obtain ⟨gr, hgr, mr⟩ := W.rpr
    have r25 : Room 25 _ := hr.mono (show 25 ≤ 27 by decide)
    refine ⟨_, (pss_cons (ps_set (i := 2) scIs.nd rfl (Or.inl rfl) (pe_df (E := E0) dtx (hr.mono (by decide)) (by rfl) (pa_cons (pv 1) pa_nil)))
      (pss_cons (ps_if (PW.pt (pw_or (pt_not (pt_val (pe_callB (id := "isinstance") (show CallR _ (.builtin "isinstance") (rIsi K) from call_isi) (by rfl) T.isinstance (by decide +kernel) (pa_cons (pv 0) (pa_cons (pe_glob (v := .ref C) (by rfl) W.nm rfl) pa_nil))))) (pw_or1 (pt_cmpR (op_neD hr.units) (pe_lst (pa_cons (pe_callTy (call_strO hgs ms (hr.mono (by decide))) (by rfl) T.str (by decide +kernel) (pa_cons (pv 0) pa_nil)) (pa_cons (pe_callB (call_reprO hgr mr r25) (by rfl) T.repr (by decide +kernel) (pa_cons (pv 0) pa_nil)) pa_nil))) (pe_lst (pa_cons (pv 2) (pa_cons (pe_op op_add_str (pe_op op_add_str pe_str (pv 2)) pe_str) pa_nil))) (nomark _))))) (pss_one (ps_ret pe_bl)) pss_nil)
      (pss_cut (ps_par (i := 3) (j := 4) (by rfl) scIs.nd rfl rfl (by decide) rfl rfl (pa_cons (pe_ifExp (pt_val (pe_callB (id := "isinstance") (show CallR _ (.builtin "isinstance") (rIsi K) from call_isi) (by rfl) T.isinstance (by decide +kernel) (pa_cons (pv 1) (pa_cons (pe_bltn (v := .ty "tuple") (by rfl) T.tuple (by decide +kernel) rfl) pa_nil)))) pe_non (pv 1)) (pa_cons (pv 1) pa_nil)) (by rfl))
      (pss_cons (ps_while PassesOwn.never (pt_val (pe_callB (id := "isinstance") (show CallR _ (.builtin "isinstance") (rIsi K) from call_isi) (by rfl) T.isinstance (by decide +kernel) (pa_cons (pv 4) (pa_cons (pe_bltn (v := .ty "tuple") (by rfl) T.tuple (by decide +kernel) rfl) pa_nil)))) (pss_one (ps_set (i := 4) scIs.nd rfl (Or.inl rfl) (pe_ix ix_tup (pv 4) pe_int (fun _ _ => rfl)))))
      (pss_cons (ps_set (i := 5) scIs.nd rfl (Or.inl rfl) (pe_lst (pa_cons (pe_pr W.words W.cl r25 (pv 0)) (pa_cons (pe_pr W.plain W.cl r25 (pv 0)) (pa_cons (pe_pr W.isT W.cl r25 (pv 0)) pa_nil)))))
      (pss_one (ps_ret (pe_cmpR op_eq (pe_callB (call_reprD gd hr.units) (by rfl) T.repr (by decide +kernel) (pa_cons (pv 5) pa_nil)) (pe_callB (call_reprD gd hr.units) (by rfl) T.repr (by decide +kernel) (pa_cons (pe_lst (pa_cons (pe_callTy call_tuple_of (by rfl) T.tuple (by decide +kernel) (pa_cons (pe_df (E := E0) dfo (hr.mono (by decide)) (by rfl) (pa_cons (pv 1) pa_nil)) pa_nil)) (pa_cons (pv 3) (pa_cons (pe_callB (id := "isinstance") (show CallR _ (.builtin "isinstance") (rIsi K) from call_isi) (by rfl) T.isinstance (by decide +kernel) (pa_cons (pv 4) (pa_cons (pe_bltn (v := .ty "bool") (by rfl) T.bool (by decide +kernel) rfl) pa_nil))) pa_nil)))) pa_nil)) (nomark _))))))))), ?_⟩
    refine ⟨_, rfl, v, t, rfl, hv, by omega, d12, sm, ?_⟩
    have hw' := hw
    obtain ⟨dx, u, hi, hu⟩ := hw'
    refine ⟨_, rfl, _, _, _, _, _, rfl, .own C, W.ty hw, W.kw, _, rfl, ?_⟩
    refine ⟨_, rfl, a, dx, _, rfl, hi, a, t, rfl, hw, d12, sm, _, rfl, ?_⟩
    refine ⟨_, rfl, a, dx, _, rfl, hi, a, t, rfl, hw, d12, sm, _, rfl, (by show 2 ≤ sizeLine; decide), fun p1 np1 => ?_⟩
    have s1 := same_upd (o := .lst [.str (txt t), .str (rtx t)]) np1
    have fit := txt_fits sm d12
    have len := txt_len sm
    have p : 2 ^ t.dep ≤ 2 ^ 12 := Nat.pow_le_pow_right (by decide) d12
    have sz : sizeLine = 16777216 := rfl
    have w0 : Str.length (Str.ofString "Worth('") = 7 := by decide +kernel
    have c1 : Str.length (Str.ofString "')") = 2 := by decide +kernel
    refine ⟨_, rfl, _, rfl, _, _, rfl, rfl, (by rw [w0]; omega), _, _, rfl, rfl, (by rw [Str.length_append, w0, c1]; omega), (by show 2 ≤ sizeLine; decide), fun p2 np2 => ?_⟩
    have s2 := same_upd (o := .lst [.str (txt t), .str ("Worth('" ++ txt t ++ "')")]) np2
    have ok1 := strOk_calm (calm_txt t)
    have ok2 : PyData.strOk (rtx t) = true := strOk_app (strOk_app (strOk_of _) ok1) (strOk_of _)
    refine ⟨.list [.str (txt t), .str (rtx t)], .list [.str (txt t), .str (rtx t)], .lst (SqL.of (s2 _ _ upd_same)) (.cons (.str _) (.cons (.str _) .nil)), .lst (SqL.of upd_same) (.cons (.str _) (.cons (.str _) .nil)), shaped2 ok1 ok2, shaped2 ok1 ok2, _, rfl, ?_⟩
    rw [eqv2]
    refine ite2 (fun hb => absurd hb Bool.false_ne_true) (fun _ => ?_)
    have sA : Same H (upd (upd H p1 (.lst [.str (txt t), .str (rtx t)])) p2 (.lst [.str (txt t), .str ("Worth('" ++ txt t ++ "')")])) := fun b o z => s2 b o (s1 b o z)
    generalize (upd (upd H p1 (.lst [.str (txt t), .str (rtx t)])) p2 (.lst [.str (txt t), .str ("Worth('" ++ txt t ++ "')")])) = HA at sA
    have hvA := hv.same sA
    have homk : t.hom k' := ct'.hom Lg.k
    have kk : k = k' := hom_ne (ct.hom Lg.k) homk
    refine ⟨fun σ' H' => ∃ pl : V, σ' = [some (.ref a), some v, some (.str (txt t)), some pl, some v, none] ∧ H' = HA ∧ Dp K HA pl (plainD t), ?_, ?_⟩
    · obtain ⟨ty, y1, y2⟩ := tv_tuple (K := K) hvA
      refine ⟨_, rfl, _, _, _, _, _, rfl, .ty "tuple", y1, y2, _, rfl, ?_⟩
      cases t with
      | lf l =>
        obtain rfl := hvA.lf_of
        exact ⟨_, rfl, _, rfl, _, _, rfl, _, rfl, rfl, plain_dp hvA⟩
      | nd n ty to => exact ⟨_, rfl, _, _, rfl, _, rfl, rfl, .non⟩
    · rintro σ' H' ⟨pl, rfl, rfl, dpl⟩
      refine ⟨fun m σ' H2 => ∃ (v' : V) (t2 : Tr), σ' = [some (.ref a), some v, some (.str (txt t)), some pl, some v', none] ∧ H2 = H' ∧ Tv H' v' t2 ∧ t2.dep = m ∧ t2.hom k', ⟨t.dep, v, t, rfl, rfl, hvA, rfl, homk⟩, ?_⟩
      rintro m σ' H2 ⟨v', t2, rfl, rfl, hv2, rfl, hk2⟩
      obtain ⟨ty, y1, y2⟩ := tv_tuple (K := K) hv2
      refine ⟨_, rfl, _, _, _, _, _, rfl, .ty "tuple", y1, y2, _, rfl, ?_⟩
      cases t2 with
      | nd n ty to =>
        obtain ⟨b, y, o, rfl, h1, h2, h3⟩ := hv2.nd_of
        refine ⟨fun σ3 H3 => ∃ (v3 : V) (t3 : Tr), σ3 = [some (.ref a), some v, some (.str (txt t)), some pl, some v3, none] ∧ H3 = H2 ∧ Tv H2 v3 t3 ∧ t3.dep < (Tr.nd n ty to).dep ∧ t3.hom k', fun σ3 H3 ⟨v3, t3, e1, e2, e3, e4, e5⟩ => ⟨_, e4, v3, t3, e1, e2, e3, rfl, e5⟩, ?_⟩
        have hdep : (Tr.nd n ty to).dep = max ty.dep to.dep + 1 := rfl
        exact ⟨_, rfl, b, _, _, _, rfl, rfl, SqT.of h1, rfl, y, ty, rfl, rfl, h2, by omega, hk2.1⟩
      | lf l =>
        obtain rfl := hv2.lf_of
        have hwA := hw.kp (Same.kp sA)
        have hiA := sA _ _ hi
        refine ⟨_, rfl, a, dx, _, rfl, hiA, a, t, k, B, S, rfl, hwA, hS, by omega, ct, fun p3 H3 ns s3 e3 as mn => ?_⟩
        have hw3 := hwA.kp (Same.kp s3)
        refine ⟨_, rfl, a, dx, _, rfl, s3 _ _ hiA, a, t, rfl, hw3, ?_⟩
        refine ⟨_, rfl, a, dx, _, rfl, s3 _ _ hiA, a, t, k, rfl, hw3, by omega, ct.hom Lg.k, (by show 3 ≤ sizeLine; decide), fun p4 np4 => ?_⟩
        have s4 : ∀ o, Same H3 (upd H3 p4 o) := fun o => same_upd np4
        have hnn : ∀ n ∈ ns, n.natAbs.log2 < 1920 := fun n hn => log_lt (small n (ct.mem n ((mn n).mp hn))) (by decide) (by decide)
        have l12 : ns.length ≤ 12 := Nat.le_trans (asc_sub hS as fun n hn => ct.mem n ((mn n).mp hn)).length_le h12
        obtain ⟨o1, o2, o3, o4⟩ := told_ok (k := k) hnn l12 sml
        have d1 : ∀ {Hy : Hp} {x y : Addr} {pv : V}, Hy x = some (.lst [.ref y, pv, .bl k]) → Hy y = some (.tup (ns.map V.int)) → Dp K Hy pv (plainD t) → Dp K Hy (.ref x) (toldD ns t k) := fun e1 e2 e3 => by
          rw [told_eq]
          exact .lst (SqL.of e1) (.cons (.tup (SqT.of e2) (dp_ints ns)) (.cons e3 (.cons (.bl k) .nil)))
        refine ⟨_, rfl, _, _, rfl, d1 upd_same (s4 _ _ _ e3) (plain_dp (v := v) ((hvA.same s3).same (s4 _))), o1, o2, o3, o4, ?_⟩
        refine ⟨_, rfl, v, t, k, B, S, rfl, (hvA.same s3).same (s4 _), by omega, hS, by omega, ct, fun p5 H5 ms s5 e5 as5 mn5 _ => ?_⟩
        obtain rfl : ns = ms := asc_eq as as5 fun n => by rw [mn, mn5]
        refine ⟨p5, _, rfl, .inl ⟨SqL.of e5, fun p6 np6 => ?_⟩⟩
        have s6 := same_upd (o := .tup (ns.map V.int)) np6
        have isb : ∃ ty2, TyX K (upd H5 p6 (.tup (ns.map V.int))) (Lf.v l) ty2 ∧ PySem.W.kitOne K ty2 (.type "bool") = some k := by
          rw [kk]
          cases l with
          | i n => exact ⟨_, .base (.int n), by rw [show k' = false from hk2]; exact kit_ty (r := false) (by decide +kernel)⟩
          | b n => exact ⟨_, .base (.bl n), by rw [show k' = true from hk2]; exact kit_ty (r := true) (by decide +kernel)⟩
        obtain ⟨ty2, z1, z2⟩ := isb
        refine ⟨_, rfl, _, rfl, _, _, _, _, _, rfl, .ty "bool", z1, z2, (by show 3 ≤ sizeLine; decide), fun p7 np7 => ?_⟩
        have s7 := same_upd (o := .lst [.ref p6, pl, .bl k]) np7
        have sZ : Same H2 (upd (upd H5 p6 (.tup (ns.map V.int))) p7 (.lst [.ref p6, pl, .bl k])) := fun b o z => s7 b o (s6 b o (s5 b o (s4 _ b o (s3 b o z))))
        refine ⟨_, _, rfl, d1 upd_same (s7 _ _ upd_same) (Dp.same sZ dpl), o1, o2, o3, o4, rfl, ?_⟩
        rw [decide_eq_true rfl]
        exact q _ fun b o z => sZ b o (sA b o z)
end
end Law

set_option Elab.async false
set_option linter.all false
set_option maxRecDepth 100000
set_option maxHeartbeats 1000000
namespace Cor
open PySem PySem.Spec PyProof.Rows L2 LamX NdefX
/-- all but lists and tables stand -/
def Kq (H H' : Hp) : Prop := ∀ b o, (∀ xs, o ≠ .lst xs) → (∀ ps, o ≠ .tbl ps) → H b = some o → H' b = some o
theorem Kq.refl {H : Hp} : Kq H H := fun _ _ _ _ e => e
theorem Kq.trans {H H1 H2 : Hp} (a : Kq H H1) (b : Kq H1 H2) : Kq H H2 := fun c o n m e => b c o n m (a c o n m e)
theorem Kp.kq {H H' : Hp} (h : Kp H H') : Kq H H' := fun b o n _ e => h b o n e
theorem _root_.LamX.ExtN.kq {H H' : Hp} (h : ExtN H H') : Kq H H' := fun b o _ n e => h b o e n
theorem _root_.L2.Same.kq {H H' : Hp} (h : Same H H') : Kq H H' := fun b o _ _ e => h b o e
theorem Tv.kq {H H' : Hp} (k : Kq H H') : ∀ {t : Tr} {v : V}, Tv H v t → Tv H' v t
  | .lf _, _, h => by rw [h.lf_of]; exact .lf _
  | .nd n ty to, _, h => by
    obtain ⟨a, y, o, rfl, h1, h2, h3⟩ := h.nd_of
    exact .nd (k _ _ (fun _ z => by cases z) (fun _ z => by cases z) h1) (Tv.kq k h2) (Tv.kq k h3)
end Cor
namespace Law
open PySem PySem.Spec PyProof.Rows L2 Cor LamX NdefX
theorem Wo.kq {C : Addr} {H H' : Hp} {a : Addr} {t : Tr} (k : Kq H H') (h : Wo C H a t) : Wo C H' a t := let ⟨dx, v, h1, h2⟩ := h; ⟨dx, v, k _ _ (fun _ z => by cases z) (fun _ z => by cases z) h1, h2.kq k⟩
theorem Val.kq {C : Addr} {S : List Int} {k : Bool} {B : Nat} {f : Rho → Lf} {H H' : Hp} {x : V} (kq : Kq H H') (h : Val C S k B f H x) : Val C S k B f H' x := let ⟨a, t, e, w, c⟩ := h; ⟨a, t, e, w.kq kq, c⟩
/-- all but what stands at p and tables stand -/
def SbT (p : Addr) (H H' : Hp) : Prop := ∀ b o, b ≠ p → (∀ ps, o ≠ .tbl ps) → H b = some o → H' b = some o
theorem SbT.refl {p : Addr} {H : Hp} : SbT p H H := fun _ _ _ _ e => e
theorem SbT.trans {p : Addr} {H H1 H2 : Hp} (a : SbT p H H1) (b : SbT p H1 H2) : SbT p H H2 := fun c o n m e => b c o n m (a c o n m e)
theorem _root_.Cor.SameBut.sbt {p : Addr} {H H' : Hp} (h : SameBut p H H') : SbT p H H' := fun b o n _ e => h b o n e
theorem _root_.LamX.ExtN.sbt {p : Addr} {H H' : Hp} (h : ExtN H H') : SbT p H H' := fun b o _ n e => h b o e n
theorem _root_.L2.Same.sbt {p : Addr} {H H' : Hp} (h : Same H H') : SbT p H H' := fun b o _ _ e => h b o e
theorem SbT.kq {p : Addr} {H H' : Hp} (h : SbT p H H') (b : Box H p) : Kq H H' := fun c o n m e => h c o (fun z => by
  obtain ⟨_, _, _, e', _⟩ := b
  rw [z, e'] at e
  exact n _ (Option.some.inj e).symm) m e
theorem SbT.lst {p a : Addr} {H H' : Hp} {xs : List V} (h : SbT p H H') (n : a ≠ p) (e : H a = some (.lst xs)) : H' a = some (.lst xs) := h a _ n (fun _ z => by cases z) e
theorem SbT.sq {K : PySem.W.Frag} {H H1 H2 : Hp} {a p : Addr} {xs : List V} (h : SqL K H a xs) (np : H p = none) (S1 : Same H H1) (SB : SbT p H1 H2) : SqL K H2 a xs := by
  rcases h with (h | ⟨o, h⟩) | h
  · exact .inl (.inl (SB _ _ (ne_of_none h np) (fun _ z => by cases z) (S1 _ _ h)))
  · exact .inl (.inr ⟨o, SB _ _ (ne_of_none h np) (fun _ z => by cases z) (S1 _ _ h)⟩)
  · exact .inr h
theorem _root_.Cor.Box.ext {H H' : Hp} {p : Addr} (h : Box H p) (s : ExtN H H') : Box H' p := let ⟨b, s', c, e, x⟩ := h; ⟨b, s', c, s _ _ e (fun _ z => by cases z), x⟩
/-- tables where only the box and new things were written -/
theorem tabs_but {T : List (Addr × Str)} {p : Addr} {H H' : Hp} (hT : Tabs T H) (hb : Box H p) (s : SameBut p H H') : Tabs T H' := fun q hq => by
  obtain ⟨ps, h1, h2, h3⟩ := hT q hq
  obtain ⟨b0, s0, c0, e0, _⟩ := hb
  have ne : ∀ {b o}, (∀ xs, o ≠ .lst xs) → H b = some o → b ≠ p := fun {b o} n e z => by
    rw [z, e0] at e
    exact n _ (Option.some.inj e).symm
  refine ⟨ps, s _ _ (ne (fun _ z => by cases z) h1) h1, h2, fun pos cv hc => ?_⟩
  obtain ⟨c, e1, e2⟩ := h3 pos cv hc
  exact ⟨c, e1, s _ _ (ne (fun _ z => by unfold CodeO at z; cases z) e2) e2⟩
/-- .. where a list was written -/
theorem tabs_upd {T : List (Addr × Str)} {a : Addr} {H : Hp} {xs : List V} {o : HO} (hT : Tabs T H) (e : H a = some (.lst xs)) : Tabs T (upd H a o) := fun q hq => by
  obtain ⟨ps, h1, h2, h3⟩ := hT q hq
  have ne : ∀ {b o}, (∀ xs, o ≠ .lst xs) → H b = some o → b ≠ a := fun {b o} n e' z => by
    rw [z, e] at e'
    exact n _ (Option.some.inj e').symm
  refine ⟨ps, by rw [upd_ne (ne (fun _ z => by cases z) h1)]; exact h1, h2, fun pos cv hc => ?_⟩
  obtain ⟨c, e1, e2⟩ := h3 pos cv hc
  exact ⟨c, e1, by rw [upd_ne (ne (fun _ z => by unfold CodeO at z; cases z) e2)]; exact e2⟩
section
variable {C : Addr} {S : List Int} {H : Hp} {x y v : V} {Q : VK} {B B' : Nat} {f g : Rho → Lf}
theorem rd_is {k k' : Bool} {t : Tr} (asc : Asc S) (l12 : S.length ≤ 12) (small : ∀ n ∈ S, n.natAbs < 2 ^ 1900) (hx : Val C S k B f H x) (hv : Tv H v t) (ct : Cn (Lg k' B') S t) (et : ∀ r, t.ev r = f r) (q : ∀ H', Same H H' → Q (.bl true) H') (B0 : 0 < B' := by decide) (B1 : B' ≤ 1900 := by decide) : spIs C [x, v] H Q E0 :=
  ⟨x, v, t, k, k', B, B', S, f, rfl, hx, hv, ct, et, asc, l12, small, B0, B1, q⟩
/-- x op l, l a plain value -/
theorem rd_opT {op : Op} {ty : String} {l : Lf} (hS : Asc S) (h20 : S.length ≤ 20) (hx : Val C S op.kin B f H x) (hl : Lg op.kin B' l) (hy : y = Lf.v l) (ht : (ty = "int" ∧ ∃ n, y = .int n) ∨ (ty = "bool" ∧ ∃ n, y = .bl n)) (q : ∀ z H', Same H H' → Val C S op.kout (B + B' + 1) (fun r => op.ap (f r) l) H' z → Q z H') (hB : B ≤ 1000 := by decide) (hB' : B' ≤ 1000 := by decide) :
    rOwT C ty (spBin C op) x y H Q := by
  obtain ⟨b, t, rfl, w, c, e⟩ := hx
  have w' := w
  obtain ⟨dx, u, ea, _⟩ := w'
  exact ⟨b, dx, _, rfl, ea, ht, b, y, t, .lf l, B, B', S, rfl, w, .inr ⟨l, hy, rfl⟩, hS, h20, hB, hB', c, .lf hl, fun t2 c2 e2 a2 H2 s2 na w2 => q _ H2 s2 ⟨a2, t2, rfl, w2, c2, fun r => by rw [e2, e]; rfl⟩⟩
end
end Law

set_option Elab.async false
set_option linter.all false
set_option maxRecDepth 100000
set_option maxHeartbeats 1000000
/-! raise x(e), x an own exception class over any base whose __init__ keeps its argument. -/
namespace Cor
open PySem PySem.Spec PyProof.Rows L2 PySem.OEX PySem.W
section
variable {X : Cx} {x : Str} {e : Expr} {es : List Expr} {ta : TA} {p pos : Pos} {newId initId : String}
theorem pmk_exn {CX : CXT} {C fI : Addr} {k : Nat} {fd : FuncData} {ps : List Str} {sp : Sp} (T : Exn X.K C newId initId) (iC : PySem.W.findIn X.K (.ref C) "__init__" = some (some (.ref fI))) (tI : PySem.W.typeIn X.K (.ref fI) = some (.type "function"))
    (F1 : FnOk X.prog X.w X.K X.mg X.base CX k fI fd ps sp) (hr : Room (k + 1) X.A) (hb : Binds X.K fd ps []) (hx : Passes CX X (fun _ _ _ => False)) (hg : Gl X x) (hm : X.mg x = some (.ref C)) (ha : PA X (e :: es) ta)
    (hdb : (x == ("__debug__" : Str)) = false := by decide) (he : starEach (e :: es) X.env = (false, eval e X.env) :: starEach es X.env := by rfl) (hpl : (backTo pos (starEach es X.env)).any (·.1) = false := by rfl) :
    PMk X (.Call (.Name x p) (e :: es) [] pos) (tMkO C sp [] ta) := by
  intro pins s σ H Q I h
  obtain ⟨Bn, Bi, nm, q, N, bs, bm, sn, sub, ab, col, dd, k0, k1, k2, k3, k5, b, l⟩ := T.cls
  obtain ⟨i0, bmB, NF⟩ := b.nw
  have L : Line Bn bm := ⟨by rw [strip_cont]; exact b.line.has, by rw [strip_cont]; exact b.line.noA, by rw [strip_cont]; exact b.line.noN⟩
  refine wpAny_Call_Name_kw (ld_glob I hg hm ?_ hdb)
  refine PySem.W.callWith_K (h₀ := X.base) I.ok.mod.kin T.kC (thn (ha.run pos pins s σ H _ I h) fun us s1 ⟨vs, H1, I1, r1, hz, q1⟩ => ⟨I1.kIn, ?_⟩) he hpl
  show wpAny _ _ (call (.ref C) us) _ _ _
  have hus : us.length ≤ sizeLine := by
    rw [← Paired.length r1, sizeLine_eq]
    omega
  obtain ⟨hp, g, dr, tk, os⟩ := s1
  have hsz : hp.objs.size ≤ hp.objs.size + 1 := Nat.le_succ _
  have hn : H1 (hp.objs.size + 1) = none := I1.hok.fresh hsz
  have hq := q1 (hp.objs.size + 1) hn
  have kk : ∀ b o, hp.get? b = some o → ((hp.push (PySem.W.kdv_tup us)).push (HandSPX.excO C hp.objs.size)).get? b = some o := fun b o e => Heap.get?_push_of_some _ (Heap.get?_push_of_some _ e)
  have hget : ((hp.push (PySem.W.kdv_tup us)).push (HandSPX.excO C hp.objs.size)).get? (hp.objs.size + 1) = some (HandSPX.excO C hp.objs.size) := by heap_get
  have I2 : Inv X pins σ (upd H1 (hp.objs.size + 1) (exo (hp.objs.size + 1) C none)) ⟨(hp.push (PySem.W.kdv_tup us)).push (HandSPX.excO C hp.objs.size), g, dr, tk, os⟩ :=
    I1.laid (t' := tk) (a := hp.objs.size + 1) (o := exo (hp.objs.size + 1) C none) (h' := (hp.push (PySem.W.kdv_tup us)).push (HandSPX.excO C hp.objs.size)) kk hsz (exo_ok hget)
  rw [List.append_nil] at hq
  have r2 : Vals (V.ref (hp.objs.size + 1) :: vs) (Value.ref (hp.objs.size + 1) :: us) := .cons rfl r1
  have hl : (Value.ref (hp.objs.size + 1) :: us ++ []).length = ps.length := by
    rw [List.append_nil]
    have e := r2.length
    rw [F1.len _ _ _ _ hq] at e
    exact e.symm
  have hbb := hb ⟨(hp.push (PySem.W.kdv_tup us)).push (HandSPX.excO C hp.objs.size), g, dr, tk, os⟩ (Value.ref (hp.objs.size + 1) :: us) I2.kIn hl
  rw [List.append_nil] at hbb
  refine wpAny_call (call_cls NF L (I1.kIn _ _ l) (PySem.W.looks_findIn I1.kIn iC) (fun self => PySem.W.bind_fn I1.kIn self tI) hus ?_)
  refine codeAny_mono (F1.run _ X.stack _ _ ⟨Value.ref (hp.objs.size + 1) :: us, []⟩ (Value.ref (hp.objs.size + 1) :: us) _ _ (fun _ _ _ => False) (hr.make C us []) (I2.env0.make C us []) hbb r2 hq) fun r s' hq' => ?_
  cases r with
  | error er => exact hx pins σ _ _ er s' I2 hq'
  | ok fl =>
    cases fl with
    | ret u =>
      obtain ⟨v, H2, os2, bare2, un2, hok2, rv, ev, d, fs, ea, ed, hd1, q2⟩ := hq'
      subst ev
      obtain ⟨h2, g2, d2, t2, os'⟩ := s'
      exact ⟨rv, mk_end (raises_own T.exC T.tyC) I1 hsz kk un2 hok2 os2 bare2 ea ed hd1 q2⟩
    | next => exact False.elim hq'
    | brk => exact False.elim hq'
    | cont => exact False.elim hq'
end
/-- raise x(e): all that stood, and the exception's dict -/
def tMkX (C : Addr) (f : Str) (te : TE) : L2.St → Hp → XK → Prop := fun σ H Q => te σ H fun v H1 => ∀ d H', Same H1 H' → H1 d = none → H' d = some (.xd [(f, v)]) → Q (.ref C) (some d) H'
theorem PMk.imp {X : Cx} {e : Expr} {t t' : L2.St → Hp → XK → Prop} (h : PMk X e t) (i : ∀ σ H Q, t' σ H Q → t σ H Q) : PMk X e t' := fun pins s σ H Q I q => h pins s σ H Q I (i σ H Q q)
theorem pmk_x {X : Cx} {C : Addr} {f x : Str} {te : TE} {e : Expr} {p pos : Pos} (D : Xcl X.prog X.w X.K X.mg X.base x C f) (hr : Room 2 X.A) (hg : Gl X x) (he : PE X e te) (hdb : (x == ("__debug__" : Str)) = false := by decide) (hs : starEach [e] X.env = (false, eval e X.env) :: starEach [] X.env := by rfl) :
    PMk X (.Call (.Name x p) [e] [] pos) (tMkX C f te) := by
  obtain ⟨n, i, fI, fd, T, h1, h2, F, b, _, m, _⟩ := D
  refine PMk.imp (pmk_exn T h1 h2 F hr b pass0 hg m (pa_cons he.up pa_nil hs) hdb hs rfl) fun σ H Q q => ?_
  refine ⟨_, q, fun v H1 z => ⟨by show 1 ≤ 1000; decide, fun a na => ?_⟩⟩
  refine ⟨a, v, rfl, upd_same, fun dx hd hne => ⟨rfl, dx, _, upd_same, by rw [upd_ne hne, upd_same], ?_, ?_⟩⟩
  · rw [upd_ne hne] at hd
    exact hd
  · rw [upd_ne hne] at hd
    refine z dx _ (fun b o e => ?_) hd upd_same
    rw [upd_ne (ne_of_none e hd), del_ne (ne_of_none e na), upd_ne (ne_of_none e na), upd_ne (ne_of_none e hd), upd_ne (ne_of_none e na)]
    exact e
/-! ### calls of defs that may raise; W, what is wished of what they let out -/
section
variable {X : Cx} {pins : List (Addr × Obj)} {σ : L2.St} {H : Hp} {s : Shared}
theorem run_fnRW {k : Nat} {f : Addr} {sp : Sp} {W : WX} {Q : VK} {us : List Value} {vs : List V} (F : FnR X.prog X.w X.K X.mg X.base (L2.CX X.prog X.w) k f sp) (hr : Room k X.A) (tk : Takes X W) (I : Inv X pins σ H s) (r : Vals vs us) (h : sp vs H Q (fun cls d H' => W cls d σ H')) :
    codeAny (model X.prog X.w) X.A (.call (.ref f) ⟨us, []⟩) (fun r s' => match r with | .ok (.ret v) => EP X pins σ Q v s' | .ok _ => False | .error e => X.xe e s') s := by
  refine codeAny_mono (F X.A X.stack s H us vs Q _ hr I.env0 r h) fun r s' hq => ?_
  cases r with
  | error e => exact tk e s' (XE.of_call I (fun cls d H' h => h) hq)
  | ok fl =>
    cases fl with
    | ret u => exact I.after hq
    | next => exact False.elim hq
    | brk => exact False.elim hq
    | cont => exact False.elim hq
end
/-- what a call asks -/
def tW (W : WX) (sp : Sp) (ta : TA) : TE := fun σ H Q => ta σ H fun vs H1 => sp vs H1 Q (fun cls d H2 => W cls d σ H2)
def MdX (P : Program) (w : World) (K : PySem.W.Frag) (mg : Str → Option Value) (base : Heap) (k : Nat) (f : Addr) (sp : Sp) : Prop := FnR P w K mg base (L2.CX P w) k f sp ∧ PySem.W.isFn K (.ref f) = true ∧ PySem.W.keepIn K (.ref f) = true
section
variable {X : Cx} {e : Expr} {es : List Expr} {ta : TA} {m x : Str} {p p1 p2 pos : Pos} {S f : Addr} {k : Nat} {sp : Sp} {W : WX}
/-- f(e, ..) -/
theorem pe_fnW (M : MdX X.prog X.w X.K X.mg X.base k f sp) (hr : Room k X.A) (tk : Takes X W) (hg : Gl X x) (hm : X.mg x = some (.ref f)) (ha : PA X (e :: es) ta) (hdb : (x == ("__debug__" : Str)) = false := by decide)
    (he : starEach (e :: es) X.env = (false, eval e X.env) :: starEach es X.env := by rfl) (hpl : (backTo pos (starEach es X.env)).any (·.1) = false := by rfl) :
    PE X (.Call (.Name x p) (e :: es) [] pos) (tW W sp ta) := by
  refine ⟨fun pins s σ H Q I h => ?_⟩
  refine wpAny_Call_Name_kw (ld_glob I hg hm ?_ hdb)
  refine PySem.W.callWith_K (h₀ := X.base) I.ok.mod.kin M.2.2 (thn (ha.run pos pins s σ H _ I h) fun us s1 ⟨vs, H1, I1, r1, q1⟩ => ⟨I1.kIn, ?_⟩) he hpl
  exact wpAny_call (run_fnRW M.1 hr tk I1 r1 q1)
/-- S.m(e, ..), m a static method -/
theorem pe_smW {pl : Sem Bool} (T : Stm X.K X.mg x S m f) (M : MdX X.prog X.w X.K X.mg X.base k f sp) (hr : Room k X.A) (tk : Takes X W) (hg : Gl X x) (ha : PA X (e :: es) ta) (hdb : (x == ("__debug__" : Str)) = false := by decide)
    (hc : eval (.Call (.Attribute (.Name x p1) m p2) (e :: es) [] pos) X.env = (do
      let ov ← eval (.Name x p1) X.env
      standAt p2.atName
      let (f, first) ← holding [ov] (getMethod ov m pl)
      callWith pos f first (backTo pos (starEach (e :: es) X.env)) (backToKw pos (keywordEach [] X.env))) := by rfl)
    (he : starEach (e :: es) X.env = (false, eval e X.env) :: starEach es X.env := by rfl) (hpl : (backTo pos (starEach es X.env)).any (·.1) = false := by rfl) :
    PE X (.Call (.Attribute (.Name x p1) m p2) (e :: es) [] pos) (tW W sp ta) := by
  refine ⟨fun pins s σ H Q I h => ?_⟩
  obtain ⟨mc, rd, p, rest, fc, rc⟩ := T.rd
  refine PySem.W.methodCall_KW (ld_glob I hg T.nm ?_ hdb) hc
  refine PySem.W.method_cls I.kIn rd.ga (PySem.W.cls_bind I.kIn rd.rd fc (wpAny_call (PySem.W.sm_get (s := { s with toks := s.toks + 1 }) I.kIn rc (PySem.W.handed_on rfl ?_))))
  refine PySem.W.callWith_K (h₀ := X.base) I.ok.mod.kin M.2.2 (thn (ha.run pos pins _ σ H _ (I.tok _) h) fun us s1 ⟨vs, H1, I1, r, q⟩ => ⟨I1.kIn, ?_⟩) he hpl
  exact wpAny_call (run_fnRW M.1 hr tk I1 r q)
end
/-! ### the exception in an except suite, with its dict -/
def rIsD (K : PySem.W.Frag) (a : Addr) (cls : Value) (d : Option Addr) : List V → Hp → VK → Prop := fun xs H Q => ∃ (D dd : Addr) (fs : List (Str × V)) (n i : String) (c : V) (cv : Value) (b : Bool), cls = .ref D ∧ d = some dd ∧ xs = [.ref a, c] ∧ H dd = some (.xd fs) ∧ Exn K D n i ∧ (∀ u, RelV c u → u = cv) ∧ PySem.W.kitOne K (.ref D) cv = some b ∧ Q (.bl b) H
theorem call_isD {X : Cx} {a : Addr} {cls : Value} {d : Option Addr} {oe : Obj} {pn : List (Addr × Obj)} (hz : Zc cls d oe) (hf : ∃ vs, oe.data = .fields vs) : CallR (X.suite a ((a, oe) :: pn)) (.builtin "isinstance") (rIsD X.K a cls d) := by
  intro pins s σ H xs us Q I r h
  obtain ⟨D, dd, fs, n, i, c, cv, b, rfl, rfl, rfl, ed, T, hcv, e, q⟩ := h
  cases r with
  | cons rx rr =>
    cases rr with
    | cons rt rr =>
      cases rr
      cases rx
      have ec := hcv _ rt
      subst ec
      obtain ⟨hget, _⟩ := I.pin (a, oe) (List.mem_append.mpr (.inl List.mem_cons_self))
      obtain ⟨vs, hv⟩ := hf
      have hx : ObjOk X.prog X.w H s.heap dd (.xd fs) := I.hok dd _ ed
      obtain ⟨mA, hns, hr⟩ := hx
      obtain ⟨od, ho, hl⟩ := lookIn_ns hns
      have J : PySem.W.InstAt s.heap a oe D (some od) := ⟨hget, hz.1, by unfold PySem.W.notCls; rw [hv] <;> rfl, by rw [hz.2]; exact ho⟩
      obtain ⟨cd, hc, _⟩ := PySem.W.any_some T.hd
      exact PySem.W.kia_one (PySem.W.kitx_exc (by rw [hc]; rfl) T.ga T.gg T.exC T.ca T.cn T.ct T.mr) I.kIn J e (fun z => nomatch z) fun tk => ⟨.bl b, H, I.kept (t' := tk) fun _ _ z => z, rfl, q⟩
end Cor

set_option Elab.async false
set_option linter.all false
set_option maxRecDepth 100000
set_option maxHeartbeats 1000000
namespace Law
open PySem PySem.Spec PyProof.Rows L2 Cor LamX NdefX
/-! ### the class NoWorth -/
abbrev sNoWorth : Stmt := inClass (topS 3) 0
theorem scNoWorth : FnScope ["self", "value"] ["self", "value"] (defScope sNoWorth) := ⟨rfl, rfl, rfl, by decide +kernel, rfl, by decide +kernel, by decide +kernel⟩
structure NwT (K : PySem.W.Frag) (mg : Str → Option Value) (S CN : Addr) (mc : Value) : Prop where
  mStoreError : mg "StoreError" = some (.ref S)
  rdS : ClX.CRead K S mc
  vS : PySem.W.findCls K (.ref S) mc "__init__" = some (.val (.builtin "ValueError.__init__"))
  mNoWorth : mg "NoWorth" = some (.ref CN)
  xNoWorth : Exn K CN "ValueError.__new__" "ValueError.__init__"
  fNoWorth : PySem.W.findIn K (.ref CN) "value" = some none
section
variable {P : Program} {w : World} {K : PySem.W.Frag} {mg : Str → Option Value} {base : Heap} {S CN : Addr} {mc : Value}
theorem ok_NoWorth {f : Addr} {fd : FuncData} (F : Fun K "__init__" "NoWorth.__init__" sNoWorth f fd) (T : NwT K mg S CN mc) : FnOk P w K mg base CX0 1 f fd ["self", "value"] (spInit CN "value") := by
  refine F.ok scNoWorth (fun vs H Q E h => ?_) (fun cdv A outer s H vs Q E hr h => ?_)
  · obtain ⟨a, v, rfl, _⟩ := h
    rfl
  · obtain ⟨a, v, rfl, ha, q⟩ := h
    refine ⟨_, pss_cons (ps_expr (pe_iniO rfl T.mStoreError T.rdS T.vS (pa_cons (pv 0) (pa_cons pe_str pa_nil)))) (pss_one (ps_fld1 (pv 0) (pv 1))), ?_⟩
    refine ⟨_, rfl, a, CN, _, _, rfl, (by show 1 ≤ 1000; decide), T.xNoWorth, ha, ?_⟩
    exact ⟨_, rfl, _, rfl, a, CN, _, _, rfl, T.xNoWorth, T.fNoWorth, ha, fun dx hd hn => q dx hd hn⟩
end
/-! ### what is no worth -/
def noW : List String := ["NoneType", "str", "tuple", "list"]
def NoW (K : PySem.W.Frag) (H : Hp) (v : V) : Prop := ∃ ty ∈ noW, TyX K H v (.type ty)
theorem noW_kit {K : PySem.W.Frag} : ∀ ty ∈ noW, PySem.W.kitOne K (.type ty) (.type "bool") = some false ∧ PySem.W.kitOne K (.type ty) (.type "int") = some false := by
  intro ty h
  simp only [noW, List.mem_cons, List.not_mem_nil, or_false] at h
  rcases h with rfl | rfl | rfl | rfl <;> exact ⟨kit_ty (r := false) (by decide +kernel), kit_ty (r := false) (by decide +kernel)⟩
/-- NoWorth(v) is let out -/
def Outs (CN : Addr) (H : Hp) (v : V) (E : XK) : Prop := ∀ d H', Same H H' → H' d = some (.xd [("value", v)]) → E (.ref CN) (some d) H'
def spTreeX (K : PySem.W.Frag) (CN : Addr) : Sp := fun vs H _ E => ∃ v, vs = [v] ∧ NoW K H v ∧ Outs CN H v E
section
variable {P : Program} {w : World} {K : PySem.W.Frag} {mg : Str → Option Value} {base : Heap} {C CN : Addr}
theorem ok_treeX {f : Addr} {fd : FuncData} (F : Fun K "tree_of" "tree_of" sTreeOf f fd) (T : GloW mg) (W : WCl K mg C) (nk : ∀ ty ∈ noW, PySem.W.kitOne K (.type ty) (.ref C) = some false) (nw : Xcl P w K mg base "NoWorth" CN "value") (di : Df P w K mg base "is_integer" 1 ["value"] (spIsInt K)) : FnOk P w K mg base (L2.CX P w) 3 f fd ["value"] (spTreeX K CN) := by
  refine F.okX scTreeOf (k := 2) (fun vs H Q E h => ?_) (fun cdv A outer s H vs Q E hr h => ?_)
  · obtain ⟨v, rfl, _⟩ := h
    rfl
  · obtain ⟨v, rfl, ⟨ty, hty, hv⟩, q⟩ := h
    have tk : Takes (cxOf (L2.CX P w) P w K mg base ["value"] "tree_of" (defScope sTreeOf) f cdv A outer s H E) (fun cls d _ H' => E cls d H') := takes_of rfl rfl rfl rfl
    refine ⟨_, (pss_cons (ps_if (pt_val (pe_callB (id := "isinstance") (show CallR _ (.builtin "isinstance") (rIsi K) from call_isi) (by rfl) T.isinstance (by decide +kernel) (pa_cons (pv 0) (pa_cons (pe_glob (v := .ref C) (by rfl) W.nm rfl) pa_nil)))) (pss_one ps_never) pss_nil)
      (pss_cons (ps_if (PW.pt (pw_or (pt_val (pe_callB (id := "isinstance") (show CallR _ (.builtin "isinstance") (rIsi K) from call_isi) (by rfl) T.isinstance (by decide +kernel) (pa_cons (pv 0) (pa_cons (pe_bltn (v := .ty "bool") (by rfl) T.bool (by decide +kernel) rfl) pa_nil)))) (pw_or1 (pt_val (pe_df (E := E0) di (hr.mono (by omega)) (by rfl) (pa_cons (pv 0) pa_nil)))))) (pss_one ps_never) pss_nil)
      (pss_one (ps_raise rfl tk (pmk_x nw hr (by rfl) (pv 0)))))), ?_⟩
    refine ⟨_, rfl, _, _, _, _, _, rfl, .own C, hv, nk ty hty, _, rfl, ?_⟩
    refine ⟨_, rfl, _, _, _, _, _, rfl, .ty "bool", hv, (noW_kit ty hty).1, _, rfl, ?_⟩
    refine ⟨_, rfl, _, _, _, _, rfl, hv, (noW_kit ty hty).2, (noW_kit ty hty).1, _, rfl, ?_⟩
    exact ⟨_, rfl, fun d H' s' nd hd => q d H' s' hd⟩
end
/-! ### promises of both kinds -/
section
variable {P : Program} {w : World} {K : PySem.W.Frag} {mg : Str → Option Value} {base : Heap} {k : Nat} {f : Addr} {sp sp' : Sp}
theorem fnR_cx (F : FnR P w K mg base CX0 k f sp) : FnR P w K mg base (L2.CX P w) k f sp := fun A outer s H us vs Q E hr e0 r hs => codeAny_mono (F A outer s H us vs Q E hr e0 r hs) fun r s' h => by
  cases r with
  | error e => exact False.elim h
  | ok fl => cases fl <;> exact h
theorem fnR_or {CX : CXT} (F : FnR P w K mg base CX k f sp) (G : FnR P w K mg base CX k f sp') : FnR P w K mg base CX k f (fun vs H Q E => sp vs H Q E ∨ sp' vs H Q E) := fun A outer s H us vs Q E hr e0 r hs => by
  rcases hs with h | h
  · exact F A outer s H us vs Q E hr e0 r h
  · exact G A outer s H us vs Q E hr e0 r h
end
/-! ### Worth.either that raises -/
/-- Worth.either(n, y, o) raises NoWorth(v) -/
def Bad (K : PySem.W.Frag) (C : Addr) (H : Hp) (n y o v : V) : Prop :=
  (v = n ∧ ((∃ (ty : Value) (b c : Bool), TyX K H n ty ∧ PySem.W.kitOne K ty (.type "int") = some b ∧ PySem.W.kitOne K ty (.type "bool") = some c ∧ (b && !c) = false) ∨ ∃ m : Int, n = .int m ∧ m < 1)) ∨
  ∃ m : Int, n = .int m ∧ 1 ≤ m ∧ ((v = y ∧ NoW K H y) ∨ (∃ ty, Given C H y ty ∧ ((v = o ∧ NoW K H o) ∨ (∃ (to : Tr) (k k' : Bool), v = o ∧ Given C H o to ∧ ty.dep ≤ 20 ∧ to.dep ≤ 20 ∧ ty.hom k ∧ to.hom k' ∧ k ≠ k'))))
def spEitherX (K : PySem.W.Frag) (C CN : Addr) : Sp := fun vs H _ E => ∃ n y o v, vs = [n, y, o] ∧ Bad K C H n y o v ∧ Outs CN H v E
section
variable {P : Program} {w : World} {K : PySem.W.Frag} {mg : Str → Option Value} {base : Heap} {C CN : Addr}
end
end Law

set_option Elab.async false
set_option linter.all false
set_option maxRecDepth 100000
set_option maxHeartbeats 1000000
namespace Law
open PySem PySem.Spec PyProof.Rows L2 Cor LamX NdefX
/-! ### Worth.of that raises, _law_raised of one value -/
structure XcT (K : PySem.W.Frag) (mg : Str → Option Value) (S CN CH : Addr) : Prop where
  mS : mg "StoreError" = some (.ref S)
  mN : mg "NoWorth" = some (.ref CN)
  mH : mg "NoHouse" = some (.ref CH)
  mV : mg "ValueError" = none
  xN : Exn K CN "ValueError.__new__" "ValueError.__init__"
  fV : PySem.W.findIn K (.ref CN) "value" = some none
  ex : PySem.W.exmOne K (.ref CN) (.ref S) = some true
  kN : PySem.W.kitOne K (.ref CN) (.ref CN) = some true
  kV : PySem.W.kitOne K (.ref CN) (.type "ValueError") = some true
  kH : PySem.W.kitOne K (.ref CN) (.ref CH) = some false
def spOfX (K : PySem.W.Frag) (CN : Addr) : Sp := fun vs H _ E => ∃ v, vs = [v] ∧ NoW K H v ∧ Outs CN H v E
abbrev sRaised1 : Stmt := topS 38
theorem scRaised1 : FnScope ["_law_value", "_law_found_here", "e"] ["_law_value"] (defScope sRaised1) := ⟨rfl, rfl, rfl, by decide +kernel, rfl, by decide +kernel, by decide +kernel⟩
def spRaised1 (K : PySem.W.Frag) : Sp := fun vs H Q _ => ∃ v, vs = [v] ∧ NoW K H v ∧ ∀ p H', Same H H' → H' p = some (.tup [.str "worth", v]) → Q (.ref p) H'
section
variable {P : Program} {w : World} {K : PySem.W.Frag} {mg : Str → Option Value} {base : Heap} {C CN S CH fe : Addr}
theorem ok_ofX {f ft : Addr} {fd : FuncData} (F : Fun K "of" "Worth.of" sWOf f fd) (W : WMk P w K mg base C) (mt : MdX P w K mg base 3 ft (fun vs H Q E => spTreeOf C vs H Q E ∨ spTreeX K CN vs H Q E)) (hmt : mg "tree_of" = some (.ref ft)) : FnOk P w K mg base (L2.CX P w) 4 f fd ["value"] (spOfX K CN) := by
  refine F.okX scWOf (k := 3) (fun vs H Q E h => ?_) (fun cdv A outer s H vs Q E hr h => ?_)
  · obtain ⟨v, rfl, _⟩ := h
    rfl
  · obtain ⟨v, rfl, hn, q⟩ := h
    have tk : Takes (cxOf (L2.CX P w) P w K mg base ["value"] "Worth.of" (defScope sWOf) f cdv A outer s H E) (fun cls d _ H' => E cls d H') := takes_of rfl rfl rfl rfl
    refine ⟨_, (pss_one (ps_ret (pe_newW W (hr.mono (by omega)) (by rfl) (pe_fnW mt hr tk (by rfl) hmt (pa_cons (pv 0) pa_nil))))), ?_⟩
    exact ⟨_, rfl, .inr ⟨v, rfl, hn, fun d H' s' hd => q d H' s' hd⟩⟩
theorem ok_raised1 {f : Addr} {fd : FuncData} (F : Fun K "_law_raised" "_law_raised" sRaised1 f fd) (T : GloW mg) (X : XcT K mg S CN CH) (st : Stm K mg "Worth" C "of" fe) (me : MdX P w K mg base 4 fe (spOfX K CN)) : FnOk P w K mg base CX0 5 f fd ["_law_value"] (spRaised1 K) := by
  refine F.ok scRaised1 (k := 4) (fun vs H Q E h => ?_) (fun cdv A outer s H vs Q E hr h => ?_)
  · obtain ⟨v, rfl, _⟩ := h
    rfl
  · obtain ⟨v, rfl, hb, q⟩ := h
    refine ⟨_, (pss_cons (ps_set (i := 1) scRaised1.nd rfl (Or.inl rfl) pe_str)
      (pss_cons (ps_try_as (i := 2) (c := .ref S) (Wout := fun _ _ _ _ => False) rfl rfl scRaised1.nd rfl rfl ⟨by rfl, by decide, .inl X.mS⟩ L2.takes0 (fun W pn xe tk pw => (pss_one (ps_expr (pe_smW st me hr tk (by rfl) (pa_cons (pv 0) pa_nil))))) (fun a oe cls d pn hz hf => (pss_cons (ps_set (i := 1) scRaised1.nd rfl (Or.inl rfl) pe_str)
      (pss_one (ps_if (PW.pt (pw_and (pt_val (pe_callB (call_isD hz hf) (by rfl) T.isinstance (by decide +kernel) (pa_cons (pv 2) (pa_cons (pe_glob (v := .ref CN) (by rfl) X.mN rfl) pa_nil)))) (pw_and (pt_val (pe_callB (call_isD hz hf) (by rfl) T.isinstance (by decide +kernel) (pa_cons (pv 2) (pa_cons (pe_bltn (v := .ty "ValueError") (by rfl) X.mV (by decide +kernel) rfl) pa_nil)))) (pw_and1 (pt_not (pt_val (pe_callB (call_isD hz hf) (by rfl) T.isinstance (by decide +kernel) (pa_cons (pv 2) (pa_cons (pe_glob (v := .ref CH) (by rfl) X.mH rfl) pa_nil))))))))) (pss_one (ps_set (i := 1) scRaised1.nd rfl (Or.inl rfl) (pe_tup (pa_cons pe_str (pa_cons (pe_xf (C := CN) ⟨X.xN.ga, X.xN.gg, X.xN.exC, X.xN.hd⟩ X.fV hz hf (pv 2)) pa_nil))))) pss_nil)))))
      (pss_one (ps_ret (pv 1))))), ?_⟩
    refine ⟨_, rfl, v, rfl, hb, fun d H' s' hd => ⟨true, X.ex, fun _ a na => ?_, fun z => by cases z⟩⟩
    refine ⟨_, rfl, CN, d, _, _, _, _, _, true, rfl, rfl, rfl, hd, X.xN, (fun u r => r), X.kN, _, rfl, ?_⟩
    refine ⟨_, rfl, CN, d, _, _, _, _, _, true, rfl, rfl, rfl, hd, X.xN, (fun u r => r), X.kV, _, rfl, ?_⟩
    refine ⟨_, rfl, CN, d, _, _, _, _, _, false, rfl, rfl, rfl, hd, X.xN, (fun u r => r), X.kH, _, rfl, ?_⟩
    refine ⟨_, rfl, rfl, rfl, d, _, v, rfl, hd, rfl, (by show 2 ≤ sizeLine; decide), fun p np => ?_⟩
    exact ⟨_, rfl, q p _ (fun b o z => same_upd np b o (s' b o z)) upd_same⟩
end
end Law

set_option Elab.async false
set_option linter.all false
set_option maxRecDepth 100000
set_option maxHeartbeats 1000000
/-! if in a generator's body. -/
namespace Cor
open PySem PySem.Spec PyProof.Rows L2 GenW
def tGIf (tc : TT) (t u : TGn) : TGn := fun D ys σ H => tc σ H fun d H1 => if d = true then t D ys σ H1 else u D ys σ H1
theorem gs_if {X : Cx} {test : Expr} {a b : List Stmt} {pos : Pos} {tc : TT} {t u : TGn} (hc : PT X test tc) (ha : GSs X a t) (hb : GSs X b u) : GS X (.If test a b pos) (tGIf tc t u) := by
  refine ⟨fun A S ip R n ys s₀ c fs K J gd lv s σ H D g hn k hI ht => ?_⟩
  obtain ⟨acc, cc, r, I⟩ := hI
  rw [exec_If]
  refine seg_bind_wrap ?_
  rw [g.over]
  refine wpAny_standAt ?_
  refine seg_bind_wrap ?_
  rw [g.over]
  refine wpAny_mono (hc.run _ s σ H _ I ht) (fun d s' hd => ?_) fun x s' hx => k.exc n s₀ x s' hx
  obtain ⟨H1, I1, q⟩ := hd
  cases d with
  | true => exact ha.run A S ip R n ys s₀ c fs K J gd lv s' σ H1 D g hn k ⟨acc, cc, r, I1⟩ q
  | false => exact hb.run A S ip R n ys s₀ c fs K J gd lv s' σ H1 D g hn k ⟨acc, cc, r, I1⟩ q
/-- a part of a generator's body that is not reached -/
def tGNever : TGn := fun _ _ _ _ => False
theorem gs_never {X : Cx} {st : Stmt} : GS X st tGNever := ⟨fun _ _ _ _ _ _ _ _ _ _ _ _ _ _ _ _ _ _ _ _ _ h => h.elim⟩
theorem gss_never {X : Cx} {st : List Stmt} : GSs X st tGNever := ⟨fun _ _ _ _ _ _ _ _ _ _ _ _ _ _ _ _ _ _ _ _ _ h => h.elim⟩
/-- a generator method that is a method of a class -/
structure GMt (P : Program) (w : World) (K : PySem.W.Frag) (mg : Str → Option Value) (base : Heap) (C : Addr) (m : Str) (k : Nat) (sp : SpG) : Prop where
  d : ∃ (f : Addr) (fd : FuncData) (ps : List Str), Meth K C m f ∧ GFn P w K mg base k f fd ps sp ∧ Binds K fd ps []
end Cor

set_option Elab.async false
set_option linter.all false
set_option maxRecDepth 100000
set_option maxHeartbeats 1000000
/-! repr of data with dicts. -/
namespace Cor
open PySem PySem.Spec PyProof.Rows L2
def keyD : L2.Key → PyData
  | .inl i => .int i
  | .inr x => .str x
mutual
/-- the data d stands at v, all of it made by the text that runs -/
inductive Dq (H : Hp) : V → PyData → Prop
  | non : Dq H .non .none
  | bl (b : Bool) : Dq H (.bl b) (.bool b)
  | int (i : Int) : Dq H (.int i) (.int i)
  | str (x : Str) : Dq H (.str x) (.str x)
  | lst {a : Addr} {xs : List V} {ds : List PyData} : H a = some (.lst xs) → DqAll H xs ds → Dq H (.ref a) (.list ds)
  | tup {a : Addr} {xs : List V} {ds : List PyData} : H a = some (.tup xs) → DqAll H xs ds → Dq H (.ref a) (.tuple ds)
  | dic {a : Addr} {kvs : List (L2.Key × V)} {ps : List (PyData × PyData)} : H a = some (.dK kvs) → DqKv H kvs ps → Dq H (.ref a) (.dict ps)
inductive DqAll (H : Hp) : List V → List PyData → Prop
  | nil : DqAll H [] []
  | cons {v : V} {vs : List V} {d : PyData} {ds : List PyData} : Dq H v d → DqAll H vs ds → DqAll H (v :: vs) (d :: ds)
inductive DqKv (H : Hp) : List (L2.Key × V) → List (PyData × PyData) → Prop
  | nil : DqKv H [] []
  | cons {k : L2.Key} {v : V} {r : List (L2.Key × V)} {d : PyData} {ps : List (PyData × PyData)} : Dq H v d → DqKv H r ps → DqKv H ((k, v) :: r) ((keyD k, d) :: ps)
end
theorem key_reads {h : Heap} {k k' : L2.Key} {v : Value} (e : k = k') (p : keyIs k' v = true) : Reads h v (keyD k) [] := by
  subst e
  rcases keyIs_shape p with ⟨i, t, hk, hv⟩ | ⟨x, t, hk, hv⟩
  · rw [hv, hk]
    exact Reads.int i t
  · rw [hv, hk]
    exact Reads.str x t
section
variable {X : Cx} {pins : List (Addr × Obj)} {σ : L2.St} {H : Hp} {s : Shared}
/-- what repr of a value asks for: it reads as d, and its parts show -/
def ShQ (X : Cx) (s : Shared) (u : Value) (d : PyData) : Prop :=
  ∃ as bs, Reads s.heap u d as ∧ ReadAtMost s.heap d.depth bs ∧ ReprK X.prog X.w bs s.heap d.depth u d.shown
def ShAll (X : Cx) (s : Shared) (us : List Value) (ds : List PyData) : Prop :=
  ∃ as bs, ReadsAll s.heap us ds as ∧ ReadAtMost s.heap (PyData.depthAll ds) bs ∧ ReprAllK X.prog X.w bs s.heap (PyData.depthAll ds) us (PyData.shownAll ds)
theorem ShAll.nil : ShAll X s [] [] := ⟨[], [], ReadsAll.nil, (fun _ h => nomatch h), by simp only [PyData.shownAll]; exact .nil⟩
theorem ShAll.cons {u : Value} {us : List Value} {d : PyData} {ds : List PyData} (h1 : ShQ X s u d) (h2 : ShAll X s us ds) : ShAll X s (u :: us) (d :: ds) := by
  obtain ⟨as, b1, r, hb1, k1⟩ := h1
  obtain ⟨cs, b2, rs, hb2, k2⟩ := h2
  refine ⟨_, b1 ++ b2, ReadsAll.cons r rs, ?_, ?_⟩
  · simp only [PyData.depthAll]
    exact (hb1.mono (Nat.le_max_left _ _)).append (hb2.mono (Nat.le_max_right _ _))
  · simp only [PyData.depthAll, PyData.shownAll]
    exact .cons ((k1.more fun b hb => List.mem_append_left _ hb).level_le (Nat.le_max_left _ _)) (k2.more_le (fun b hb => List.mem_append_right _ hb) (Nat.le_max_right _ _))
theorem key_sh {k k' : L2.Key} {v : Value} (e : k = k') (p : keyIs k' v = true) (hs : (keyD k).showable = true) (hz : (keyD k).shown.length ≤ sizeLine) : ShQ X s v (keyD k) := by
  subst e
  rcases keyIs_shape p with ⟨i, t, hk, hv⟩ | ⟨x, t, hk, hv⟩
  · subst hv
    subst hk
    exact ⟨[], [], Reads.int i t, (fun _ h => nomatch h), .of_is (ReprIs.int t (by simpa [keyD, PyData.showable] using hs)) _ _ _⟩
  · subst hv
    subst hk
    exact ⟨[], [], Reads.str x t, (fun _ h => nomatch h), .of_is (ReprIs.str x t (by simpa only [keyD, PyData.shown] using hz)) _ _ _⟩
mutual
theorem Dq.sh (I : Inv X pins σ H s) : ∀ (d : PyData) (v : V) (u : Value), Dq H v d → RelV v u → d.showable = true → d.shown.length ≤ sizeLine → ShQ X s u d
  | .none, _, _, h, r, _, _ => by
    cases h
    cases r
    exact ⟨[], [], Reads.none, (fun _ h => nomatch h), .of_is ReprIs.none _ _ _⟩
  | .bool b, _, _, h, r, _, _ => by
    cases h
    cases r
    exact ⟨[], [], Reads.bool b, (fun _ h => nomatch h), .of_is (ReprIs.bool b) _ _ _⟩
  | .int i, _, _, h, r, hs, _ => by
    cases h
    obtain ⟨t, rfl⟩ := r
    exact ⟨[], [], Reads.int i t, (fun _ h => nomatch h), .of_is (ReprIs.int t (by simpa [PyData.showable] using hs)) _ _ _⟩
  | .str x, _, _, h, r, _, hz => by
    cases h
    obtain ⟨t, rfl⟩ := r
    exact ⟨[], [], Reads.str x t, (fun _ h => nomatch h), .of_is (ReprIs.str x t (by simpa only [PyData.shown] using hz)) _ _ _⟩
  | .list ds, _, _, h, r, hs, hz => by
    cases h with
    | @lst a _ _ hx ha =>
      cases r
      have hz' : (listText (PyData.shownAll ds)).length ≤ sizeLine := by simpa only [PyData.shown] using hz
      obtain ⟨its, rv, ⟨o, n, ho, hc, _, hd⟩, _⟩ := I.list (SqL.of hx)
      obtain ⟨as, bs, hr, hb, hk⟩ := Dq.shAll I ds _ its ha rv (by simpa [PyData.showable] using hs) (fun t ht => Nat.le_trans (listText_mem_le ht) hz')
      have r : Reads s.heap (.ref a) (.list ds) _ := Reads.list ho hc hd hr
      have hna : a ∉ bs := not_mem_of_deeper r (by simp only [PyData.depth]; omega) hb
      refine ⟨_, a :: bs, r, ReadAtMost.cons r (by simp only [PyData.depth]; omega) hb, ?_⟩
      simp only [PyData.depth, PyData.shown]
      cases its with
      | nil =>
        cases hr
        simp only [PyData.shownAll, listText_nil]
        exact ReprK.listEmpty ho hc hd
      | cons x l => exact ReprK.list ho hc hd hna (by simpa using hk.length_eq) (fun i y e => hk.item i y (by simpa using e))
  | .tuple ds, _, _, h, r, hs, hz => by
    cases h with
    | @tup a _ _ hx ha =>
      cases r
      have hz' : (tupleText (PyData.shownAll ds)).length ≤ sizeLine := by simpa only [PyData.shown] using hz
      obtain ⟨its, rv, ⟨o, ho, hc, n, hd⟩, _⟩ := I.tuple (SqT.of hx)
      obtain ⟨as, bs, hr, hb, hk⟩ := Dq.shAll I ds _ its ha rv (by simpa [PyData.showable] using hs) (fun t ht => Nat.le_trans (tupleText_mem_le ht) hz')
      have r : Reads s.heap (.ref a) (.tuple ds) _ := Reads.tuple ho hc hd hr
      have hna : a ∉ bs := not_mem_of_deeper r (by simp only [PyData.depth]; omega) hb
      refine ⟨_, a :: bs, r, ReadAtMost.cons r (by simp only [PyData.depth]; omega) hb, ?_⟩
      simp only [PyData.depth, PyData.shown]
      exact ReprK.tuple ho hc hd hna hk
  | .dict ps, _, _, h, r, hs, hz => by
    cases h with
    | @dic a _ _ hx ha =>
      cases r
      have hz' : (dictText (PyData.shownKv ps)).length ≤ sizeLine := by simpa only [PyData.shown] using hz
      obtain ⟨_, hsys, vs, kv, o, es, ep, ho, hc, hd, _, pr, _⟩ := dk_of I.hok hx
      obtain ⟨hs1, hs2⟩ := PyData.showableKv_split ps (by simpa [PyData.showable] using hs)
      obtain ⟨⟨as1, b1, r1, hb1, k1⟩, ⟨as2, b2, r2, hb2, k2⟩⟩ := Dq.shKv I ps _ _ es.toList ha kv pr hs1 hs2
        (fun t ht => let ⟨p, hp, hl⟩ := PyData.shownKv_key_le ps t ht; Nat.le_trans hl (Nat.le_trans (dictText_mem_le hp) hz'))
        (fun t ht => let ⟨p, hp, hl⟩ := PyData.shownKv_val_le ps t ht; Nat.le_trans hl (Nat.le_trans (dictText_mem_le hp) hz'))
      have r : Reads s.heap (.ref a) (.dict ps) _ := Reads.dict ho hc.1 hd r1 r2
      have hb : ReadAtMost s.heap (PyData.depthKv ps) (b1 ++ b2) := (hb1.mono (PyData.depthAll_keys_le ps)).append (hb2.mono (PyData.depthAll_vals_le ps))
      have hna : a ∉ b1 ++ b2 := not_mem_of_deeper r (by simp only [PyData.depth]; omega) hb
      refine ⟨_, a :: (b1 ++ b2), r, ReadAtMost.cons r (by simp only [PyData.depth]; omega) hb, ?_⟩
      simp only [PyData.depth, PyData.shown, PyData.shownKv_eq]
      exact ReprK.dict ho hc.1 hd hsys hna (ReprEntriesK.of_two es.toList _ _
        (k1.more_le (fun b hb => List.mem_append_left _ hb) (PyData.depthAll_keys_le ps)) (k2.more_le (fun b hb => List.mem_append_right _ hb) (PyData.depthAll_vals_le ps)))
theorem Dq.shAll (I : Inv X pins σ H s) : ∀ (ds : List PyData) (vs : List V) (us : List Value), DqAll H vs ds → Vals vs us → PyData.showableAll ds = true → (∀ t ∈ PyData.shownAll ds, t.length ≤ sizeLine) → ShAll X s us ds
  | [], _, _, h, r, _, _ => by
    cases h
    cases r
    exact ShAll.nil
  | d :: ds, _, _, h, r, hs, hz => by
    cases h with
    | cons h1 h2 =>
      cases r with
      | cons r1 r2 =>
        have hs' : d.showable = true ∧ PyData.showableAll ds = true := by simpa [PyData.showableAll] using hs
        exact ShAll.cons (Dq.sh I d _ _ h1 r1 hs'.1 (hz _ (by simp only [PyData.shownAll]; exact List.mem_cons_self ..)))
          (Dq.shAll I ds _ _ h2 r2 hs'.2 fun t ht => hz t (by simp only [PyData.shownAll]; exact List.mem_cons_of_mem _ ht))
theorem Dq.shKv (I : Inv X pins σ H s) : ∀ (ps : List (PyData × PyData)) (kvs : List (L2.Key × V)) (vs : List (L2.Key × Value)) (es : List DictEntry), DqKv H kvs ps → KV kvs vs → Pairs (mixKind X.prog X.w) es vs →
    PyData.showableAll (ps.map (·.1)) = true → PyData.showableAll (ps.map (·.2)) = true → (∀ t ∈ PyData.shownAll (ps.map (·.1)), t.length ≤ sizeLine) → (∀ t ∈ PyData.shownAll (ps.map (·.2)), t.length ≤ sizeLine) →
    ShAll X s (es.map (·.key)) (ps.map (·.1)) ∧ ShAll X s (es.map (·.val)) (ps.map (·.2))
  | [], _, _, _, h, kv, pr, _, _, _, _ => by
    cases h
    cases kv
    cases pr
    exact ⟨ShAll.nil, ShAll.nil⟩
  | (dk, d) :: ps, _, _, _, h, kv, pr, s1, s2, z1, z2 => by
    cases h with
    | cons h1 h2 =>
      cases kv with
      | cons r1 r2 =>
        cases pr with
        | cons p1 p2 p3 =>
          simp only [List.map_cons] at s1 s2 z1 z2 ⊢
          have t1 := Bool.and_eq_true_iff.mp (by simpa only [PyData.showableAll] using s1)
          have t2 := Bool.and_eq_true_iff.mp (by simpa only [PyData.showableAll] using s2)
          obtain ⟨q1, q2⟩ := Dq.shKv I ps _ _ _ h2 r2 p3 t1.2 t2.2
            (fun t ht => z1 t (by simp only [PyData.shownAll]; exact List.mem_cons_of_mem _ ht)) (fun t ht => z2 t (by simp only [PyData.shownAll]; exact List.mem_cons_of_mem _ ht))
          obtain ⟨e1, e2⟩ := r1
          exact ⟨ShAll.cons (key_sh e1 p1 t1.1 (z1 _ (by simp only [PyData.shownAll]; exact List.mem_cons_self ..))) q1,
            ShAll.cons (show ShQ X s (DictEntry.val _) d from by rw [p2]; exact Dq.sh I d _ _ h1 e2 t2.1 (z2 _ (by simp only [PyData.shownAll]; exact List.mem_cons_self ..))) q2⟩
end
/-- repr of a tracked list, tuple or dict -/
theorem Dq.call {A : Around} {E : Value → Shared → Prop} {Q : Value → Shared → Prop} {a : Addr} {d : PyData} (I : Inv X pins σ H s) (hq : Dq H (.ref a) d) (hs : d.showable = true) (hz : d.shown.length ≤ sizeLine) (hg : A.guards = some []) (hu : A.units + (d.depth + 1) < cLine)
    (hQ : ∀ h' u tk, (∀ b o, s.heap.get? b = some o → h'.get? b = some o) → Q (.str d.shown u) { s with heap := h', toks := tk }) : wpAny (model X.prog X.w) A (call (.builtin "repr") [.ref a]) Q E s := by
  cases hq with
  | @lst _ _ ds hx ha =>
    have hz' : (listText (PyData.shownAll ds)).length ≤ sizeLine := by simpa only [PyData.shown] using hz
    obtain ⟨its, rv, ⟨o, n, ho, hc, _, hd⟩, _⟩ := I.list (SqL.of hx)
    obtain ⟨as, bs, hr, hb, hk⟩ := Dq.shAll I ds _ its ha rv (by simpa [PyData.showable] using hs) (fun t ht => Nat.le_trans (listText_mem_le ht) hz')
    have r : Reads s.heap (.ref a) (.list ds) _ := Reads.list ho hc hd hr
    have hna : a ∉ bs := not_mem_of_deeper r (by simp only [PyData.depth]; omega) hb
    simp only [PyData.depth] at hu
    simp only [PyData.shown] at hQ
    refine call_repr_slot (by omega) ⟨o, ho, hc⟩ F.slot_list_repr.toG ?_
    cases its with
    | nil =>
      cases hr
      simp only [PyData.shownAll, listText_nil] at hQ
      exact call_list_repr_empty ⟨o, ho, hc⟩ ho hd ⟨_, _, rfl, hQ s.heap _ _ fun _ _ e => e⟩
    | cons x l =>
      exact call_list_reprK ho hc hd hna (by simpa using hk.length_eq) (fun i y e => hk.item i y (by simpa using e)) hg (fun b _ => Clear.nil b) (by show A.units + 1 + _ < cLine; omega) (fun _ _ z => z) (fun h' u tk k => ⟨_, _, rfl, hQ h' u tk k⟩) hz'
  | @tup _ _ ds hx ha =>
    have hz' : (tupleText (PyData.shownAll ds)).length ≤ sizeLine := by simpa only [PyData.shown] using hz
    obtain ⟨its, rv, ⟨o, ho, hc, n, hd⟩, _⟩ := I.tuple (SqT.of hx)
    obtain ⟨as, bs, hr, hb, hk⟩ := Dq.shAll I ds _ its ha rv (by simpa [PyData.showable] using hs) (fun t ht => Nat.le_trans (tupleText_mem_le ht) hz')
    have r : Reads s.heap (.ref a) (.tuple ds) _ := Reads.tuple ho hc hd hr
    have hna : a ∉ bs := not_mem_of_deeper r (by simp only [PyData.depth]; omega) hb
    simp only [PyData.depth] at hu
    simp only [PyData.shown] at hQ
    refine call_repr_slot (by omega) ⟨o, ho, hc⟩ F.slot_tuple_repr ?_
    exact call_tuple_reprK ho hc hd hna hk hg (fun b _ => Clear.nil b) (by show A.units + 1 + _ < cLine; omega) (fun _ _ z => z) (fun h' u tk k => ⟨_, _, rfl, hQ h' u tk k⟩) hz'
  | @dic _ _ ps hx ha =>
    have hz' : (dictText (PyData.shownKv ps)).length ≤ sizeLine := by simpa only [PyData.shown] using hz
    obtain ⟨_, hsys, vs, kv, o, es, ep, ho, hc, hd, _, pr, _⟩ := dk_of I.hok hx
    obtain ⟨hs1, hs2⟩ := PyData.showableKv_split ps (by simpa [PyData.showable] using hs)
    obtain ⟨⟨as1, b1, r1, hb1, k1⟩, ⟨as2, b2, r2, hb2, k2⟩⟩ := Dq.shKv I ps _ _ es.toList ha kv pr hs1 hs2
      (fun t ht => let ⟨p, hp, hl⟩ := PyData.shownKv_key_le ps t ht; Nat.le_trans hl (Nat.le_trans (dictText_mem_le hp) hz'))
      (fun t ht => let ⟨p, hp, hl⟩ := PyData.shownKv_val_le ps t ht; Nat.le_trans hl (Nat.le_trans (dictText_mem_le hp) hz'))
    have r : Reads s.heap (.ref a) (.dict ps) _ := Reads.dict ho hc.1 hd r1 r2
    have hb : ReadAtMost s.heap (PyData.depthKv ps) (b1 ++ b2) := (hb1.mono (PyData.depthAll_keys_le ps)).append (hb2.mono (PyData.depthAll_vals_le ps))
    have hna : a ∉ b1 ++ b2 := not_mem_of_deeper r (by simp only [PyData.depth]; omega) hb
    simp only [PyData.depth] at hu
    simp only [PyData.shown, PyData.shownKv_eq] at hQ
    refine call_repr_slot (by omega) ⟨o, ho, hc.1⟩ F.slot_dict_repr ?_
    exact call_dict_reprK ho hc.1 hd hsys hna (ReprEntriesK.of_two es.toList _ _
      (k1.more_le (fun b hb => List.mem_append_left _ hb) (PyData.depthAll_keys_le ps)) (k2.more_le (fun b hb => List.mem_append_right _ hb) (PyData.depthAll_vals_le ps))) hg (fun b _ => Clear.nil b) (by show A.units + 1 + _ < cLine; omega) (fun _ _ z => z) (fun h' u tk k => ⟨_, _, rfl, hQ h' u tk k⟩) (by rw [← PyData.shownKv_eq]; exact hz')
end
/-- repr(x), x a list, tuple or dict of data -/
def rReprQ : List V → Hp → VK → Prop := fun xs H Q => ∃ (a : Addr) (d : PyData), xs = [.ref a] ∧ Dq H (.ref a) d ∧ d.showable = true ∧ d.shown.length ≤ sizeLine ∧ d.depth ≤ 60 ∧ Q (.str d.shown) H
theorem call_reprQ {X : Cx} (gd : X.A.guards = some []) (hu : X.A.units + 64 < cLine) : CallR X (.builtin "repr") rReprQ := by
  intro pins s σ H xs us Q I r h
  obtain ⟨a, d, rfl, hd, hs, hl, hdep, q⟩ := h
  cases r with
  | @cons _ u _ _ rx rr =>
    cases rr
    obtain rfl : u = Value.ref a := rx
    exact Dq.call I hd hs hl gd (by omega) (fun h' u tk k => ⟨.str d.shown, H, I.kept (t' := tk) k, ⟨_, rfl⟩, q⟩)
end Cor

set_option Elab.async false
set_option linter.all false
set_option maxRecDepth 100000
set_option maxHeartbeats 1000000
namespace Law
open PySem PySem.Spec PyProof.Rows L2 Cor LamX NdefX GenW
/-! ### Worth.cases of a plain worth -/
abbrev sWCases : Stmt := inClass (topS 30) 9
theorem scWCases : GScope ["self", "rest", "words", "tree", "number", "yes", "no"] ["self"] (defScope sWCases) := ⟨rfl, rfl, rfl, by decide +kernel, rfl, by decide +kernel, by decide +kernel⟩
def spCases1 (C : Addr) : SpG := fun vs H Q _ => ∃ a l, vs = [.ref a] ∧ Wo C H a (.lf l) ∧ ∀ H' p d, Same H H' → H' p = some (.tup [.ref d, Lf.v l]) → H' d = some (.dK []) → Q [.ref p] H'
section
variable {P : Program} {w : World} {K : PySem.W.Frag} {mg : Str → Option Value} {base : Heap} {C : Addr}
theorem ok_wCases1 {f : Addr} {fd : FuncData} (F : Fun K "cases" "Worth.cases" sWCases f fd) (W : WMk P w K mg base C) (D : WD P w K mg base C) : GFn P w K mg base 24 f fd ["self"] (spCases1 C) := by
  obtain ⟨oc, od, kV, doc, pm, an, cdv, ct, osl, rfl, lk, hcd⟩ := F.ex
  refine gfn_of lk hcd scWCases (fun vs H Q E h => ?_) (fun A outer s H vs Q E pn hr h => ?_)
  · obtain ⟨a, l, rfl, _⟩ := h
    rfl
  · obtain ⟨a, l, rfl, ha, q⟩ := h
    refine ⟨_, (gss_cons (gs_ps (ps_set (i := 1) scWCases.nd rfl (Or.inl rfl) (pe_lst (pa_cons (pe_tup (pa_cons pe_dnewK (pa_cons (pe_fld (pv 0) rfl) pa_nil))) pa_nil))))
      (gss_cons (gs_while owns_gcx (pt_truth (pv 1) (by intro _; rfl)) (gss_cons (gs_ps (ps_asg (pe_bm0 PySem.F.plainAttrs_list PySem.F.slot_list_pop PySem.F.type_list_pop mt_pop (pv 1)) (pg_tup rfl (pgs_cons (pg_name (i := 2) scWCases.nd rfl (Or.inl rfl)) (pgs_cons (pg_name (i := 3) scWCases.nd rfl (Or.inl rfl)) pgs_nil)))))
      (gss_cons (gs_if (pt_val (pe_df (E := E0) D.leaf (hr.mono (by omega)) (by rfl) (pa_cons (pv 3) pa_nil))) (gss_cons (gs_yield (pe_tup (pa_cons (pv 2) (pa_cons (pv 3) pa_nil))))
      gss_nil) gss_never)
      gss_nil)))
      gss_nil)), ?_⟩
    obtain ⟨dx, v1, h1, hv1⟩ := ha
    obtain rfl := hv1.lf_of
    intro d nd
    have s1 := same_upd (o := .dK []) nd
    refine ⟨_, rfl, a, C, dx, _, _, rfl, s1 _ _ h1, W.cl, W.nt, rfl, (by show 2 ≤ sizeLine; decide), fun p np => ?_⟩
    have s2 := same_upd (o := .tup [.ref d, Lf.v l]) np
    refine ⟨(by show 1 ≤ sizeLine; decide), fun r nr => ?_⟩
    have s3 := same_upd (o := .lst [.ref p]) nr
    refine ⟨fun m ys σ H' => (m = 1 ∧ ys = [] ∧ σ = [some (.ref a), some (.ref r), none, none, none, none, none] ∧ H' r = some (.lst [.ref p]) ∧ H' p = some (.tup [.ref d, Lf.v l]) ∧ H' d = some (.dK []) ∧ Same H H' ∧ H r = none ∧ p ≠ r ∧ d ≠ r) ∨ (m = 0 ∧ ∃ y, ys = [.ref y] ∧ H' r = some (.lst []) ∧ H' y = some (.tup [.ref d, Lf.v l]) ∧ H' d = some (.dK []) ∧ Same H H' ∧ ∃ s2 s3 s4 s5 s6, σ = [some (.ref a), some (.ref r), s2, s3, s4, s5, s6]), ?_, ?_⟩
    · refine ⟨1, .inl ⟨rfl, rfl, rfl, upd_same, s3 _ _ upd_same, s3 _ _ (s2 _ _ upd_same), fun b o z => s3 _ _ (s2 _ _ (s1 b o z)), ?_, ne_of_none upd_same nr, ne_of_none (s2 _ _ upd_same) nr⟩⟩
      cases hz : H r with
      | none => rfl
      | some o => rw [s2 _ _ (s1 _ _ hz)] at nr; cases nr
    · rintro m ys σ H' (⟨rfl, rfl, rfl, e1, e2, e3, sH, nr', ner, der⟩ | ⟨rfl, y, rfl, e1, e2, e3, sH, s2, s3, s4, s5, s6, rfl⟩)
      · refine ⟨_, rfl, true, .inl ⟨_, SqL.of e1, rfl⟩, ?_⟩
        refine ⟨fun ys' σ' H' => ∃ y, ys' = [.ref y] ∧ H' r = some (.lst []) ∧ H' y = some (.tup [.ref d, Lf.v l]) ∧ H' d = some (.dK []) ∧ Same H H' ∧ ∃ s2 s3 s4 s5 s6, σ' = [some (.ref a), some (.ref r), s2, s3, s4, s5, s6], fun ys' σ' H' h => ⟨0, by decide, .inr ⟨rfl, h⟩⟩, ?_⟩
        refine ⟨_, rfl, .inl ⟨rfl, _, SqL.of e1⟩, r, _, _, rfl, rfl, e1, rfl, ?_⟩
        have e2' := (upd_ne (H := H') (o := .lst []) ner).trans e2
        have e3' := (upd_ne (H := H') (o := .lst []) der).trans e3
        have sH' : Same H (upd H' r (.lst [])) := fun b o z => (upd_ne (ne_of_none z nr')).trans (sH b o z)
        refine ⟨p, _, rfl, SqT.of e2', rfl, ?_⟩
        refine ⟨_, _, rfl, _, _, rfl, rfl, _, rfl, _, .lf l, rfl, .lf l, _, rfl, iteT ?_⟩
        refine ⟨by show 0 < sizeLine; decide, _, rfl, _, rfl, (by show 2 ≤ sizeLine; decide), fun y ny => ?_⟩
        have s4 := same_upd (o := .tup [.ref d, Lf.v l]) ny
        exact ⟨y, rfl, s4 _ _ upd_same, upd_same, s4 _ _ e3', fun b o z => s4 _ _ (sH' b o z), _, _, _, _, _, rfl⟩
      · exact ⟨_, rfl, false, .inl ⟨_, SqL.of e1, rfl⟩, q _ _ _ sH e2 e3⟩
end
end Law

set_option Elab.async false
set_option linter.all false
set_option maxRecDepth 100000
set_option maxHeartbeats 1000000
namespace Law
open PySem PySem.Spec PyProof.Rows L2 Cor LamX NdefX GenW
section
variable {X : Cx} {C : Addr} {fe e : Expr} {tf te : TE} {pos : Pos} {sp : Sp} {k : Nat}
def tCallW (C : Addr) (sp : Sp) (tf te : TE) : TE := fun σ H Q => tf σ H fun x H1 => ∃ a, x = .ref a ∧ te σ H1 fun v H2 => IsW C H2 (.ref a) ∧ sp [.ref a, v] H2 Q E0
theorem pe_callW (D : ∃ g, StX.CallO X.K C g ∧ FnR X.prog X.w X.K X.mg X.base CX0 k g sp) (hr : Room k X.A) (hf : PE X fe tf) (he : PE X e te)
    (ht : eval (.Call fe [e] [] pos) X.env = (do callWith pos (← eval fe X.env) [] (backTo pos (starEach [e] X.env)) (backToKw pos (keywordEach [] X.env))) := by rfl)
    (hs : starEach [e] X.env = (false, eval e X.env) :: starEach [] X.env := by rfl) : PE X (.Call fe [e] [] pos) (tCallW C sp tf te) := by
  obtain ⟨g, c, F⟩ := D
  refine (StX.pe_callO (E := E0) hf.up c F hr pass0 (pa_cons he.up pa_nil hs) ht hs rfl).imp fun σ H Q q => ?_
  refine ⟨_, q, fun x H1 ⟨a, ex, z⟩ => ⟨a, ex, _, z, fun v H2 z2 => ?_⟩⟩
  obtain ⟨⟨a', dx, u, ea, e⟩, z⟩ := z2
  cases ea
  exact ⟨.inr ⟨dx, _, e⟩, z⟩
/-! ### str of a plain value -/
def svL : Lf → Str
  | .i n => ((toString n : String) : Str)
  | .b b => if b then "True" else "False"
theorem call_strL : CallR X (.type "str") (fun xs H Q => ∃ l, xs = [Lf.v l] ∧ Sml (.lf l) ∧ Q (.str (svL l)) H) := by
  intro pins s σ H xs us Q I r h
  obtain ⟨l, rfl, hz, q⟩ := h
  cases l with
  | i n =>
    obtain ⟨u, rfl, t, rfl⟩ := vals1 r
    exact PySem.P.str_of_int hz ⟨.str _, H, I.tok _, ⟨_, rfl⟩, q⟩
  | b b =>
    obtain ⟨u, rfl, r1⟩ := vals1 r
    cases r1
    exact PySem.P.str_of_bool ⟨.str _, H, I.tok _, ⟨_, rfl⟩, q⟩
end
theorem calm_sv : ∀ l : Lf, Calm (svL l)
  | .i n => calm_int n
  | .b true => calm_of _ (by decide +kernel)
  | .b false => calm_of _ (by decide +kernel)
def kvOf (kv : Int × Bool) : Key × V := (Sum.inl kv.1, V.bl kv.2)
def putW (f : Int → Option Bool) (kv : Int × Bool) : Int → Option Bool := fun m => if m = kv.1 then some kv.2 else f m
def wordsOf (ws : List (Int × Bool)) : Int → Option Bool := ws.foldl putW fun _ => none
theorem val_fold : ∀ (ws : List (Int × Bool)) (acc : List (Key × V)) (f : Int → Option Bool), (∀ m, valV acc (Sum.inl m) = (f m).map V.bl) → ∀ m, valV (mergeK acc (ws.map kvOf)) (Sum.inl m) = ((ws.foldl putW f) m).map V.bl
  | [], acc, f, h, m => h m
  | kv :: ws, acc, f, h, m => by
    refine val_fold ws (putK acc (Sum.inl kv.1) (V.bl kv.2)) (putW f kv) (fun j => ?_) m
    rw [valV_put]
    unfold putW
    by_cases e : j = kv.1
    · rw [if_pos e, if_pos (by rw [e])]; rfl
    · rw [if_neg e, if_neg (fun z => e (Sum.inl.inj z))]; exact h j
theorem wd_words {H : Hp} {p : Addr} {ws : List (Int × Bool)} (e : H p = some (.dK (mergeK [] (ws.map kvOf)))) : Wd H p (wordsOf ws) := ⟨_, e, val_fold ws [] _ fun _ => rfl⟩
theorem same_upd2 {H : Hp} {p : Addr} {o o' : HO} (n : H p = none) : Same H (upd (upd H p o) p o') := fun b u e => by rw [upd_ne (ne_of_none e n), upd_ne (ne_of_none e n)]; exact e
theorem box_upd {H : Hp} {p d : Addr} {o : HO} (h : Box H p) (n : d ≠ p) : Box (upd H d o) p := let ⟨b, s', c, e, x⟩ := h; ⟨b, s', c, (upd_ne (Ne.symm n)).trans e, x⟩
/-! ### small data -/
structure Shq (B D : Nat) (d : PyData) : Prop where
  s : d.showable = true
  l : d.shown.length ≤ B
  p : d.depth ≤ D
theorem Shq.mono {B D B' D' : Nat} {d : PyData} (h : Shq B D d) (hB : B ≤ B') (hD : D ≤ D') : Shq B' D' d := ⟨h.s, Nat.le_trans h.l hB, Nat.le_trans h.p hD⟩
theorem Shq.lf {l : Lf} (h : Sml (.lf l)) : Shq 1921 0 l.d := by
  obtain ⟨h1, h2, h3, h4⟩ := plain_show h
  exact ⟨h1, h4, Nat.le_of_eq h3⟩
theorem Shq.str {x : Str} {B : Nat} (c : Calm x) (h : x.length ≤ B) : Shq (B + 2) 0 (.str x) := by
  refine ⟨rfl, ?_, Nat.le_refl _⟩
  rw [show (PyData.str x).shown = reprText x from rfl, calm_repr c, Str.length_append, Str.length_append, show Str.length (Str.ofString "'") = 1 from by decide +kernel]
  omega
theorem all_show {B D : Nat} : ∀ ds : List PyData, (∀ d ∈ ds, Shq B D d) → PyData.showableAll ds = true ∧ ((PyData.shownAll ds).map fun t => t.length + 2).sum ≤ (B + 2) * ds.length ∧ PyData.depthAll ds ≤ D
  | [], _ => ⟨rfl, Nat.zero_le _, Nat.zero_le _⟩
  | d :: ds, h => by
    obtain ⟨h1, h3, h4⟩ := all_show ds fun x hx => h x (List.mem_cons_of_mem _ hx)
    obtain ⟨g1, g3, g4⟩ := h d List.mem_cons_self
    refine ⟨?_, ?_, ?_⟩
    · show (d.showable && PyData.showableAll ds) = true
      rw [g1, h1]; rfl
    · rw [PyData.shownAll_cons, List.map_cons, List.sum_cons, List.length_cons, Nat.mul_succ]
      omega
    · show max d.depth (PyData.depthAll ds) ≤ D
      omega
theorem all_nod : ∀ ds : List PyData, (∀ d ∈ ds, d.hasDict = false) → PyData.hasDictAll ds = false
  | [], _ => rfl
  | d :: ds, h => by
    show (d.hasDict || PyData.hasDictAll ds) = false
    rw [h d List.mem_cons_self, all_nod ds fun x hx => h x (List.mem_cons_of_mem _ hx)]; rfl
theorem Shq.tup {B D : Nat} {ds : List PyData} (h : ∀ d ∈ ds, Shq B D d) : Shq ((B + 2) * ds.length + 3) (D + 1) (.tuple ds) := by
  obtain ⟨h1, h3, h4⟩ := all_show ds h
  refine ⟨h1, ?_, ?_⟩
  · rw [PyData.shown_tuple, Str.length_append, Str.length_append]
    have j := join_len (PyData.shownAll ds)
    have e1 : (Str.ofString (if ds.length == 1 then ",)" else ")" : String)).length ≤ 2 := by split <;> decide +kernel
    have e2 : Str.length (Str.ofString "(") = 1 := by decide +kernel
    rw [e2]
    omega
  · show PyData.depthAll ds + 1 ≤ D + 1
    omega
theorem Shq.lst {B D : Nat} {ds : List PyData} (h : ∀ d ∈ ds, Shq B D d) : Shq ((B + 2) * ds.length + 3) (D + 1) (.list ds) := by
  obtain ⟨h1, h3, h4⟩ := all_show ds h
  refine ⟨h1, ?_, ?_⟩
  · rw [PyData.shown_list, Str.length_append, Str.length_append]
    have j := join_len (PyData.shownAll ds)
    have e1 : Str.length (Str.ofString "]") = 1 := by decide +kernel
    have e2 : Str.length (Str.ofString "[") = 1 := by decide +kernel
    rw [e1, e2]
    omega
  · show PyData.depthAll ds + 1 ≤ D + 1
    omega
structure Shw (B D : Nat) (d : PyData) : Prop extends Shq B D d where
  n : d.hasDict = false
theorem Shw.mono {B D B' D' : Nat} {d : PyData} (h : Shw B D d) (hB : B ≤ B') (hD : D ≤ D') : Shw B' D' d := ⟨h.toShq.mono hB hD, h.n⟩
theorem Shw.lf {l : Lf} (h : Sml (.lf l)) : Shw 1921 0 l.d := ⟨Shq.lf h, (plain_show h).2.1⟩
theorem Shw.str {x : Str} {B : Nat} (c : Calm x) (h : x.length ≤ B) : Shw (B + 2) 0 (.str x) := ⟨Shq.str c h, rfl⟩
theorem Shw.tup {B D : Nat} {ds : List PyData} (h : ∀ d ∈ ds, Shw B D d) : Shw ((B + 2) * ds.length + 3) (D + 1) (.tuple ds) := ⟨Shq.tup fun d hd => (h d hd).toShq, all_nod ds fun d hd => (h d hd).n⟩
theorem Shw.lst {B D : Nat} {ds : List PyData} (h : ∀ d ∈ ds, Shw B D d) : Shw ((B + 2) * ds.length + 3) (D + 1) (.list ds) := ⟨Shq.lst fun d hd => (h d hd).toShq, all_nod ds fun d hd => (h d hd).n⟩
/-- [({}, l)] -/
def casesD (l : Lf) : PyData := .list [.tuple [.dict [], l.d]]
theorem casesD_ok {l : Lf} (h : Sml (.lf l)) : (casesD l).showable = true ∧ (casesD l).shown.length ≤ sizeLine ∧ (casesD l).depth ≤ 60 := by
  have d0 : Shq 1921 1 (.dict []) := ⟨rfl, by decide +kernel, by decide +kernel⟩
  have z := Shq.lst (ds := [.tuple [.dict [], l.d]]) (List.forall_mem_cons.mpr ⟨Shq.tup (ds := [.dict [], l.d]) (List.forall_mem_cons.mpr ⟨d0, List.forall_mem_cons.mpr ⟨(Shq.lf h).mono (Nat.le_refl _) (by decide), fun d hd => nomatch hd⟩⟩), fun d hd => nomatch hd⟩)
  exact ⟨z.s, Nat.le_trans z.l (by simp only [List.length_cons, List.length_nil]; decide), Nat.le_trans z.p (by decide)⟩
theorem casesD_dq {H : Hp} {l : Lf} {cs y d : Addr} (c1 : H cs = some (.lst [.ref y])) (c2 : H y = some (.tup [.ref d, Lf.v l])) (c3 : H d = some (.dK [])) : Dq H (.ref cs) (casesD l) :=
  .lst c1 (.cons (.tup c2 (.cons (.dic c3 .nil) (.cons (by cases l <;> constructor) .nil))) .nil)
/-- a value that is no worth, and what it shows -/
def Od (K : PySem.W.Frag) (H : Hp) (v : V) : Prop := NoW K H v ∧ ∃ d, Dp K H v d ∧ Shw 10000 2 d
theorem tyx_same {K : PySem.W.Frag} {H H' : Hp} {v : V} {t : Value} (s : Same H H') (h : TyX K H v t) : TyX K H' v t := by
  cases h with
  | base h =>
    refine .base ?_
    cases h with
    | non => exact .non
    | bl x => exact .bl x
    | int i => exact .int i
    | str x => exact .str x
    | flt x => exact .flt x
    | lst e => exact .lst (s _ _ e)
    | frz e => exact .frz (s _ _ e)
    | tup e => exact .tup (s _ _ e)
    | dK e => exact .dK (s _ _ e)
    | dT e => exact .dT (s _ _ e)
    | ins e a b c d f => exact .ins (s _ _ e) a b c d f
  | byt b => exact .byt b
  | set e => exact .set (s _ _ e)
  | kList e c => exact .kList e c
  | kTuple e c => exact .kTuple e c
  | kDict e c => exact .kDict e c
  | fTuple e => exact .fTuple (s _ _ e)
  | fDict e => exact .fDict (s _ _ e)
theorem NoW.same {K : PySem.W.Frag} {H H' : Hp} {v : V} (s : Same H H') (h : NoW K H v) : NoW K H' v := let ⟨ty, hm, ht⟩ := h; ⟨ty, hm, tyx_same s ht⟩
theorem Od.same {K : PySem.W.Frag} {H H' : Hp} {v : V} (s : Same H H') (h : Od K H v) : Od K H' v := let ⟨n, d, h1, h2⟩ := h; ⟨n.same s, d, Dp.same s h1, h2⟩
theorem od_non {K : PySem.W.Frag} {H : Hp} : Od K H .non := ⟨⟨"NoneType", by simp [noW], .base .non⟩, .none, .non, ⟨⟨rfl, by decide +kernel, by decide⟩, rfl⟩⟩
theorem od_str {K : PySem.W.Frag} {H : Hp} {x : Str} (c : Calm x) (h : x.length ≤ 1930) : Od K H (.str x) := ⟨⟨"str", by simp [noW], .base (.str _)⟩, .str x, .str x, (Shw.str c h).mono (by decide) (by decide)⟩
theorem od_tup {K : PySem.W.Frag} {H : Hp} {a : Addr} {vs : List V} {ds : List PyData} (e : H a = some (.tup vs)) (hd : DpAll K H vs ds) (hs : ∀ d ∈ ds, Shw 1940 0 d) (hl : ds.length ≤ 3) : Od K H (.ref a) :=
  ⟨⟨"tuple", by simp [noW], .base (.tup e)⟩, .tuple ds, .tup (SqT.of e) hd, (Shw.tup hs).mono (by omega) (by decide)⟩
theorem od_lst {K : PySem.W.Frag} {H : Hp} {a : Addr} {vs : List V} {ds : List PyData} (e : H a = some (.lst vs)) (hd : DpAll K H vs ds) (hs : ∀ d ∈ ds, Shw 1940 0 d) (hl : ds.length ≤ 3) : Od K H (.ref a) :=
  ⟨⟨"list", by simp [noW], .base (.lst e)⟩, .list ds, .lst (SqL.of e) hd, (Shw.lst hs).mono (by omega) (by decide)⟩
theorem pair_ok {d : PyData} (h : Shw 10000 2 d) : (PyData.tuple [.str "worth", d]).showable = true ∧ (PyData.tuple [.str "worth", d]).hasDict = false ∧ (PyData.tuple [.str "worth", d]).shown.length ≤ sizeLine ∧ (PyData.tuple [.str "worth", d]).depth ≤ 60 := by
  have z := Shw.tup (ds := [.str "worth", d]) (List.forall_mem_cons.mpr ⟨(Shw.str (x := "worth") (B := 5) (calm_of _ (by decide +kernel)) (by decide +kernel)).mono (by decide) (by decide), List.forall_mem_cons.mpr ⟨h, fun d hd => nomatch hd⟩⟩)
  exact ⟨z.s, z.n, Nat.le_trans z.l (by simp only [List.length_cons, List.length_nil]; decide), Nat.le_trans z.p (by decide)⟩
theorem sv_len {l : Lf} (h : Sml (.lf l)) : (svL l).length ≤ 1930 := by
  cases l with
  | i n => exact Nat.le_trans (num_len h) (by decide)
  | b b => cases b <;> decide +kernel
theorem shw_int {n : Int} (h : n.natAbs.log2 < 1920) : Shw 1940 0 (.int n) := (Shw.lf (l := .i n) h).mono (by decide) (by decide)
theorem shw_bl (b : Bool) : Shw 1940 0 (.bool b) := (Shw.lf (l := .b b) (by cases b <;> exact True.intro)).mono (by decide) (by decide)
end Law

set_option Elab.async false
set_option linter.all false
set_option maxRecDepth 100000
set_option maxHeartbeats 1000000
namespace Law
open PySem PySem.Spec PyProof.Rows L2 Cor LamX NdefX GenW
abbrev sLaw : Stmt := topS 39
theorem scLaw : FnScope ["_law_script", "_law_k", "_law_box_here", "_law_turn", "_law_value", "_law_worth", "_law_cases", "_law_some", "_law_odd"] ["_law_script"] (defScope sLaw) := ⟨rfl, rfl, rfl, by decide +kernel, rfl, by decide +kernel, by decide +kernel⟩
def spLaw (K : PySem.W.Frag) (T : List (Addr × Str)) : Sp := fun vs H Q _ => ∃ (a : Addr) (ns : List Int), vs = [.ref a] ∧ SqL K H a (ns.map V.int) ∧ ns.length ≤ 63 ∧ Tabs T H ∧ ∀ H', Q (.bl true) H'
/-- what k01 asks of the class -/
structure WK (P : Program) (w : World) (K : PySem.W.Frag) (mg : Str → Option Value) (base : Heap) (C : Addr) : Prop where
  cl : Cls K C
  eq : EqW P w K mg base C
  under : MtW P w K mg base C "under" 24 ["self", "words"] (spUnder C)
  call : ∃ g, StX.CallO K C g ∧ FnR P w K mg base CX0 26 g (spCallW C)
  cases : ∃ f fd, Meth K C "cases" f ∧ GFn P w K mg base 24 f fd ["self"] (spCases1 C) ∧ Binds K fd ["self"] []
theorem passE {P : Program} {w : World} {X : Cx} : Passes (L2.CX P w) X E0 := fun _ _ _ _ _ _ _ h => by
  obtain ⟨_, _, _, _, _, _, _, _, _, _, _, _, z⟩ := h
  exact z.elim
section
variable {P : Program} {w : World} {K : PySem.W.Frag} {mg : Str → Option Value} {base : Heap} {C : Addr}
theorem ok_law {f : Addr} {fd : FuncData} {T0 : List (Addr × Str)} (Fn : Fun K "law" "law" sLaw f fd)
    (G : GloF mg) (W : WK P w K mg base C) (dra : Df P w K mg base "_law_raised" 5 ["_law_value"] (spRaised1 K)) (so : SmD P w K mg base C "of" 3 (spOf C)) (dl : Df P w K mg base "_law_leaf" 2 ["_law_box_here", "_law_is_truth"] spLeafL) (dt : Df P w K mg base "_law_take" 1 ["_law_box_here", "_law_many"] spTk) (db : Df P w K mg base "_law_box" 1 ["_law_script", "_law_k", "_law_own"] (spBox K))
    (dis : DfG P w K mg base "_law_is" 28 ["_law_worth", "_law_tree"] (spIs C)) :
    FnG P w K mg base CX0 32 f fd ["_law_script"] (spLaw K T0) := by
  refine okG Fn scLaw (k := 31) (fun vs H Q E h => ?_) (fun cdv A outer s H vs Q E hr gd h => ?_)
  · obtain ⟨a, ns, rfl, _⟩ := h
    rfl
  · obtain ⟨a, ns, rfl, hS, hl, hT, q⟩ := h
    have r1 := hr.mono (by omega : 1 ≤ 31)
    have r2 := hr.mono (by omega : 2 ≤ 31)
    have r3 := hr.mono (by omega : 3 ≤ 31)
    have r5 := hr.mono (by omega : 5 ≤ 31)
    have r24 := hr.mono (by omega : 24 ≤ 31)
    have r26 := hr.mono (by omega : 26 ≤ 31)
    have r27 := hr.mono (by omega : 27 ≤ 31)
    have r28 := hr.mono (by omega : 28 ≤ 31)
    have T := G.toGloW
    obtain ⟨fc, fdc, hmc, GC, bc⟩ := W.cases
    refine ⟨_, (pss_cons (ps_for PassesOwn.never rfl (pi_range1 (by rfl) T.range (pa_cons (pe_callB (call_max2 rfl) (by rfl) T.max (by decide +kernel) (pa_cons pe_int (pa_cons (pe_callB (call_min2 rfl) (by rfl) T.min (by decide +kernel) (pa_cons pe_int (pa_cons (pe_callB call_len_seq (by rfl) T.len PySem.boot_len (pa_cons (pv 0) pa_nil)) pa_nil))) pa_nil))) pa_nil)) (pg_name (i := 1) scLaw.nd rfl (Or.inl rfl)) (pss_cons (ps_set (i := 2) scLaw.nd rfl (Or.inl rfl) (pe_df (E := E0) db r1 (by rfl) (pa_cons (pv 0) (pa_cons (pv 1) (pa_cons pe_int pa_nil)))))
      (pss_one (ps_for PassesOwn.never rfl (pi_range1 (by rfl) T.range (pa_cons pe_int pa_nil)) (pg_name (i := 3) scLaw.nd rfl (Or.inl rfl)) (pss_cut (ps_set (i := 4) scLaw.nd rfl (Or.inl rfl) (pe_df (E := E0) dl r2 (by rfl) (pa_cons (pv 2) (pa_cons (pe_cmpR op_eq (pe_df (E := E0) dt r1 (by rfl) (pa_cons (pv 2) (pa_cons pe_int pa_nil))) pe_int (nomark _)) pa_nil))))
      (pss_cut (ps_set (i := 5) scLaw.nd rfl (Or.inl rfl) (pe_smD so r3 (by rfl) (pa_cons (pv 4) pa_nil)))
      (pss_cut (ps_if (PW.pt (pw_or (pt_not (pt_val (pe_dfG (E := E0) dis r28 gd (by rfl) (pa_cons (pv 5) (pa_cons (pv 4) pa_nil))))) (pw_or (pt_not (pt_val (pe_dfG (E := E0) dis r28 gd (by rfl) (pa_cons (pe_smD so r3 (by rfl) (pa_cons (pv 5) pa_nil)) (pa_cons (pv 4) pa_nil))))) (pw_or1 (pt_cmpR (op_Wn W.eq r27) (pe_smD so r3 (by rfl) (pa_cons (pv 5) pa_nil)) (pv 5) (nomark _)))))) (pss_one (ps_ret pe_bl)) pss_nil)
      (pss_cut (ps_if (PW.pt (pw_or (pt_cmpR op_ne (pe_callB (call_reprD gd hr.units) (by rfl) G.repr (by decide +kernel) (pa_cons (pe_callW W.call r26 (pv 5) pe_dnewK) pa_nil)) (pe_callB (call_reprD gd hr.units) (by rfl) G.repr (by decide +kernel) (pa_cons (pv 4) pa_nil)) (nomark _)) (pw_or1 (pt_cmpR op_ne (pe_callB (call_reprD gd hr.units) (by rfl) G.repr (by decide +kernel) (pa_cons (pe_callW W.call r26 (pv 5) (pe_disp (pps_cons pe_int pe_bl (pps_cons pe_int pe_bl pps_nil)) (by rfl) (by rfl) (fun z => by cases z) (by decide))) pa_nil)) (pe_callB (call_reprD gd hr.units) (by rfl) G.repr (by decide +kernel) (pa_cons (pv 4) pa_nil)) (nomark _))))) (pss_one (ps_ret pe_bl)) pss_nil)
      (pss_cut (ps_if (pt_not (pt_val (pe_dfG (E := E0) dis r28 gd (by rfl) (pa_cons (pe_mtW W.under W.cl r24 (pv 5) (pa_cons (pe_disp (pps_cons (pe_op op_add pe_int (pe_df (E := E0) dt r1 (by rfl) (pa_cons (pv 2) (pa_cons pe_int pa_nil)))) (pe_cmpR op_eq (pe_df (E := E0) dt r1 (by rfl) (pa_cons (pv 2) (pa_cons pe_int pa_nil))) pe_int (nomark _)) pps_nil) (by rfl) (by rfl) (fun z => by cases z) (by decide)) pa_nil)) (pa_cons (pv 4) pa_nil))))) (pss_one (ps_ret pe_bl)) pss_nil)
      (pss_cut (ps_set (i := 6) scLaw.nd rfl (Or.inl rfl) (pe_listG (pgen_meth0 (E := E0) (pv 5) W.cl hmc GC r24 bc .nil) passE (fun _ _ _ h => h.elim) r27 (by rfl) G.list (by decide +kernel)))
      (pss_cut (ps_if (pt_cmpR op_ne (pe_callB (call_reprQ gd hr.units) (by rfl) G.repr (by decide +kernel) (pa_cons (pv 6) pa_nil)) (pe_callB (call_reprQ gd hr.units) (by rfl) G.repr (by decide +kernel) (pa_cons (pe_lst (pa_cons (pe_tup (pa_cons pe_dnewK (pa_cons (pv 4) pa_nil))) pa_nil)) pa_nil)) (nomark _)) (pss_one (ps_ret pe_bl)) pss_nil)
      (pss_cut (ps_set (i := 7) scLaw.nd rfl (Or.inl rfl) (pe_lst (pa_cons pe_non (pa_cons (pe_callTy call_strL (by rfl) T.str (by decide +kernel) (pa_cons (pv 4) pa_nil)) (pa_cons pe_str (pa_cons (pe_tup (pa_cons (pv 4) pa_nil)) (pa_cons (pe_lst (pa_cons (pv 4) pa_nil)) (pa_cons pe_str (pa_cons (pe_tup (pa_cons pe_str (pa_cons (pv 4) (pa_cons (pv 4) pa_nil)))) (pa_cons (pe_tup (pa_cons pe_int (pa_cons pe_int (pa_cons pe_int pa_nil)))) (pa_cons (pe_tup (pa_cons pe_int (pa_cons pe_bl (pa_cons pe_bl pa_nil)))) pa_nil)))))))))))
      (pss_one (ps_for PassesOwn.never rfl (pi_list (pv 7)) (pg_name (i := 8) scLaw.nd rfl (Or.inl rfl)) (pss_one (ps_if (pt_cmpR op_ne (pe_callB (call_reprD gd hr.units) (by rfl) G.repr (by decide +kernel) (pa_cons (pe_df (E := E0) dra r5 (by rfl) (pa_cons (pv 8) pa_nil)) pa_nil)) (pe_callB (call_reprD gd hr.units) (by rfl) G.repr (by decide +kernel) (pa_cons (pe_tup (pa_cons pe_str (pa_cons (pv 8) pa_nil))) pa_nil)) (nomark _)) (pss_one (ps_ret pe_bl)) pss_nil))))))))))))))))
      (pss_one (ps_ret pe_bl))), ?_⟩
    refine ⟨_, rfl, a, _, rfl, .inl hS, _, _, rfl, _, _, rfl, _, rfl, ?_, ?_, ?_⟩
    · rw [List.length_map]
      omega
    · rw [List.length_map]
      omega
    have hn : ∀ i : Nat, i < (Int.toNat (if (if ((ns.map V.int).length : Int) < 5 then ((ns.map V.int).length : Int) else 5) > 2 then (if ((ns.map V.int).length : Int) < 5 then ((ns.map V.int).length : Int) else 5) else 2)) → i < 6 := fun i hi => by
      rw [List.length_map] at hi
      omega
    refine for_range (lo := 0) (fun i σ H' => ∃ s1 s2 s3 s4 s5 s6 s7 s8 : Option V, σ = [some (.ref a), s1, s2, s3, s4, s5, s6, s7, s8] ∧ SqL K H' a (ns.map V.int)) ⟨_, _, _, _, _, _, _, _, rfl, hS⟩ ?_ ?_
    rotate_left
    · rintro σ H' ⟨s1, s2, s3, s4, s5, s6, s7, s8, rfl, _⟩
      exact q _
    rintro i σ H0 hi ⟨s1, s2, s3, s4, s5, s6, s7, s8, rfl, hS0⟩
    have hi5 := hn i hi
    refine ⟨_, rfl, _, rfl, a, ns, _, _, rfl, hS0, hl, by omega, by omega, by decide, by decide, fun H1 p t1 np hb => ?_⟩
    refine ⟨8, rfl, by decide, by decide, for_range (lo := 0) (fun _ σ H' => ∃ s3 s4 s5 s6 s7 s8 : Option V, σ = [some (.ref a), some (.int (0 + i)), some (.ref p), s3, s4, s5, s6, s7, s8] ∧ SbT p H1 H' ∧ Box H' p) ⟨_, _, _, _, _, _, rfl, SbT.refl, hb⟩ ?_ ?_⟩
    rotate_left
    · rintro σ H' ⟨s3, s4, s5, s6, s7, s8, rfl, sb, _⟩
      exact ⟨_, _, _, _, _, _, _, _, rfl, SbT.sq hS0 np t1 sb⟩
    rintro j σ H2 hj ⟨s3, s4, s5, s6, s7, s8, rfl, t2, b2⟩
    refine ⟨fun σ' H' => ∃ (l : Lf) (k : Bool), σ' = [some (.ref a), some (.int (0 + i)), some (.ref p), some (.int (0 + j)), some (Lf.v l), s5, s6, s7, s8] ∧ SameBut p H2 H' ∧ Box H' p ∧ Lg k 66 l, ?_, ?_⟩
    · refine ⟨_, rfl, _, rfl, p, 2, rfl, b2, by decide, by decide, fun r H3 t3 b3 _ _ => ?_⟩
      refine ⟨rfl, p, _, rfl, b3, fun l H4 t4 b4 lg => ?_⟩
      exact ⟨l, _, rfl, t3.trans t4, b4, lg⟩
    rintro σ' H3 ⟨l, k, rfl, t3, b3, lg⟩
    have sml : Sml (.lf l) := Cn.sml (S := []) (by decide : 0 < 66) (by decide) (fun n hn => nomatch hn) (.lf lg)
    have cl : ∀ S : List Int, Cn (Lg k 66) S (.lf l) := fun S => .lf lg
    have bare : ∀ {Hx : Hp}, Dp K Hx (Lf.v l) l.d := fun {Hx} => by cases l <;> constructor
    have shl := Shw.lf sml
    -- the worth
    refine ⟨fun σ' H' => ∃ wa : Addr, σ' = [some (.ref a), some (.int (0 + i)), some (.ref p), some (.int (0 + j)), some (Lf.v l), some (.ref wa), s6, s7, s8] ∧ Same H3 H' ∧ Wo C H' wa (.lf l), ?_, ?_⟩
    · refine ⟨_, rfl, Lf.v l, .lf l, rfl, .inr ⟨l, rfl, rfl⟩, fun wa H4 s4 na w4 => ?_⟩
      exact ⟨wa, rfl, s4, w4⟩
    rintro σ' H4 ⟨wa, rfl, z4, w4⟩
    have b4 := b3.same z4
    have isv : ∀ {Hx : Hp} {wx : Addr}, Wo C Hx wx (.lf l) → Val C [] k 66 (fun _ => l) Hx (.ref wx) := fun {Hx wx} w => ⟨wx, .lf l, rfl, w, cl [], fun _ => rfl⟩
    -- it is the worth of the value
    refine ⟨fun σ' H' => σ' = [some (.ref a), some (.int (0 + i)), some (.ref p), some (.int (0 + j)), some (Lf.v l), some (.ref wa), s6, s7, s8] ∧ Same H4 H', ?_, ?_⟩
    · refine ⟨_, rfl, _, rfl, _, _, _, _, _, _, _, [], _, rfl, isv w4, .lf l, cl [], fun _ => rfl, .nil, by decide, (fun n hn => nomatch hn), by decide, by decide, fun Ha sa => ⟨_, rfl, ?_⟩⟩
      have wA := w4.kp (Same.kp sa)
      refine ⟨_, rfl, _, .lf l, rfl, .inl ⟨wa, rfl, wA⟩, fun wb Hb sb nb wB => ?_⟩
      refine ⟨_, rfl, _, _, _, _, _, _, _, [], _, rfl, isv wB, .lf l, cl [], fun _ => rfl, .nil, by decide, (fun n hn => nomatch hn), by decide, by decide, fun Hc sc => ⟨_, rfl, ?_⟩⟩
      have wC := (wA.kp (Same.kp sb)).kp (Same.kp sc)
      refine ⟨_, rfl, _, .lf l, rfl, .inl ⟨wa, rfl, wC⟩, fun wd Hd sd nd wD => ?_⟩
      refine ⟨_, rfl, rd_ne (S := []) .nil (by decide) (isv wD) (isv (wC.kp (Same.kp sd))) (fun r => rfl) ⟨_, rfl, ?_⟩⟩
      exact ⟨rfl, fun b o z => sd b o (sc b o (sb b o (sa b o z)))⟩
    rintro σ' H5 ⟨rfl, z5⟩
    have w5 := w4.kp (Same.kp z5)
    have b5 := b4.same z5
    have lenl : l.d.shown.length ≤ sizeLine := Nat.le_trans shl.l (by decide)
    have depl : l.d.depth ≤ 60 := Nat.le_trans shl.p (by decide)
    have isw : ∀ {Hx : Hp} {wx : Addr}, Wo C Hx wx (.lf l) → IsW C Hx (.ref wx) := fun {Hx wx} w => by
      obtain ⟨dx, v, e, _⟩ := w
      exact ⟨wx, dx, _, rfl, e⟩
    -- called
    refine ⟨fun σ' H' => σ' = [some (.ref a), some (.int (0 + i)), some (.ref p), some (.int (0 + j)), some (Lf.v l), some (.ref wa), s6, s7, s8] ∧ Same H5 H', ?_, ?_⟩
    · refine ⟨_, rfl, wa, rfl, fun d nd => ?_⟩
      have s1 := same_upd (o := .dK []) nd
      refine ⟨isw (w5.kp (Same.kp s1)), wa, d, .lf l, (fun _ => none), k, 66, [], rfl, w5.kp (Same.kp s1), ⟨[], upd_same, fun _ => rfl⟩, .nil, by decide, cl [], (fun n hn => nomatch hn), fun l' Ha sa _ el => ?_⟩
      have el' : l = l' := (el fun _ => true).symm
      subst el'
      refine ⟨_, l.d, rfl, bare, shl.s, shl.n, lenl, depl, _, rfl, _, l.d, rfl, bare, shl.s, shl.n, lenl, depl, rfl, ?_⟩
      rw [decide_eq_true rfl]
      refine ⟨_, rfl, ?_⟩
      have wA := (w5.kp (Same.kp s1)).kp (Same.kp sa)
      refine ⟨_, rfl, wa, rfl, fun d2 nd2 => ?_⟩
      refine ⟨upd_same, [(1, true), (7, false)].map kvOf, rfl, by decide, ?_⟩
      have s2 := same_upd2 (o := .dK []) (o' := .dK (mergeK [] ([(1, true), (7, false)].map kvOf))) nd2
      have wB := wA.kp (Same.kp s2)
      refine ⟨isw wB, wa, d2, .lf l, _, k, 66, [], rfl, wB, wd_words upd_same, .nil, by decide, cl [], (fun n hn => nomatch hn), fun l' Hb sb _ el => ?_⟩
      have el' : l = l' := (el fun _ => true).symm
      subst el'
      refine ⟨_, l.d, rfl, bare, shl.s, shl.n, lenl, depl, _, rfl, _, l.d, rfl, bare, shl.s, shl.n, lenl, depl, rfl, ?_⟩
      rw [decide_eq_true rfl]
      refine ⟨_, rfl, ?_⟩
      exact ⟨rfl, fun b o z => sb b o (s2 b o (sa b o (s1 b o z)))⟩
    rintro σ' H6 ⟨rfl, z6⟩
    have w6 := w5.kp (Same.kp z6)
    have b6 := b5.same z6
    -- under words
    refine ⟨fun σ' H' => σ' = [some (.ref a), some (.int (0 + i)), some (.ref p), some (.int (0 + j)), some (Lf.v l), some (.ref wa), s6, s7, s8] ∧ SameBut p H6 H' ∧ Box H' p, ?_, ?_⟩
    · refine ⟨_, rfl, ?_⟩
      refine ⟨isw w6, fun d nd => ?_⟩
      have s1 := same_upd (o := .dK []) nd
      have nep : d ≠ p := b6.ne nd
      refine ⟨_, rfl, p, 9, rfl, b6.same s1, by decide, by decide, fun r Ha ta ba _ _ => ?_⟩
      refine ⟨_, _, rfl, rfl, ?_⟩
      refine ⟨_, rfl, p, 2, rfl, ba, by decide, by decide, fun r2 Hb tb bb _ _ => ⟨rfl, ?_⟩⟩
      generalize decide (V.int r2 = V.int 0) = tr
      refine ⟨tb d _ nep (ta d _ nep upd_same), [(1 + r, tr)].map kvOf, rfl, by show 1 ≤ 15; decide, ?_⟩
      have zd : SameBut p H6 (upd Hb d (.dK (mergeK [] ([(1 + r, tr)].map kvOf)))) := fun b o nb z => by
        rw [upd_ne (ne_of_none z nd)]
        exact tb b o nb (ta b o nb (s1 b o z))
      have bd := box_upd (o := .dK (mergeK [] ([(1 + r, tr)].map kvOf))) bb nep
      refine ⟨wa, d, .lf l, _, k, 66, [], rfl, w6.kp (b6.kp zd), wd_words upd_same, .nil, by decide, cl [], fun t' ct et wx Hc sc nx wX => ?_⟩
      refine ⟨_, rfl, _, _, _, _, _, _, _, [], _, rfl, (show Val C [] k 66 (fun _ => l) Hc (.ref wx) from ⟨wx, t', rfl, wX, ct, fun r => et r⟩), .lf l, cl [], fun _ => rfl, .nil, by decide, (fun n hn => nomatch hn), by decide, by decide, fun Hd sd => ⟨_, rfl, ?_⟩⟩
      exact ⟨rfl, zd.trans (fun b o _ z => sd b o (sc b o z)), (bd.same sc).same sd⟩
    rintro σ' H7 ⟨rfl, z7, b7⟩
    have w7 := w6.kp (b6.kp z7)
    -- its ways
    refine ⟨fun σ' H' => ∃ cs y d : Addr, σ' = [some (.ref a), some (.int (0 + i)), some (.ref p), some (.int (0 + j)), some (Lf.v l), some (.ref wa), some (.ref cs), s7, s8] ∧ Same H7 H' ∧ H' cs = some (.lst [.ref y]) ∧ H' y = some (.tup [.ref d, Lf.v l]) ∧ H' d = some (.dK []), ?_, ?_⟩
    · have w7' := w7
      obtain ⟨dx, v, e, _⟩ := w7'
      refine ⟨_, rfl, wa, dx, _, rfl, e, rfl, wa, l, rfl, w7, fun Ha y d sa e1 e2 cs nc => ?_⟩
      have s1 := same_upd (o := .lst [.ref y]) nc
      exact ⟨cs, y, d, rfl, fun b o z => s1 b o (sa b o z), upd_same, s1 _ _ e1, s1 _ _ e2⟩
    rintro σ' H8 ⟨cs, y, d, rfl, z8, c1, c2, c3⟩
    have b8 := b7.same z8
    -- shown
    refine ⟨fun σ' H' => σ' = [some (.ref a), some (.int (0 + i)), some (.ref p), some (.int (0 + j)), some (Lf.v l), some (.ref wa), some (.ref cs), s7, s8] ∧ Same H8 H', ?_, ?_⟩
    · refine ⟨_, rfl, ?_⟩
      obtain ⟨o1, o2, o3⟩ := casesD_ok sml
      refine ⟨cs, casesD l, rfl, casesD_dq c1 c2 c3, o1, o2, o3, fun d2 nd2 => ?_⟩
      have s1 := same_upd (o := .dK []) nd2
      refine ⟨_, rfl, (by show 2 ≤ sizeLine; decide), fun y2 ny2 => ?_⟩
      have s2 := same_upd (o := .tup [.ref d2, Lf.v l]) ny2
      refine ⟨(by show 1 ≤ sizeLine; decide), fun c nc => ?_⟩
      have s3 := same_upd (o := .lst [.ref y2]) nc
      refine ⟨c, casesD l, rfl, casesD_dq upd_same (s3 _ _ upd_same) (s3 _ _ (s2 _ _ upd_same)), o1, o2, o3, rfl, ?_⟩
      rw [decide_eq_true rfl]
      refine ⟨_, rfl, ?_⟩
      exact ⟨rfl, fun b o z => s3 b o (s2 b o (s1 b o z))⟩
    rintro σ' H9 ⟨rfl, z9⟩
    have b9 := b8.same z9
    -- other values
    refine ⟨fun σ' H' => ∃ (so : Addr) (vs : List V), σ' = [some (.ref a), some (.int (0 + i)), some (.ref p), some (.int (0 + j)), some (Lf.v l), some (.ref wa), some (.ref cs), some (.ref so), s8] ∧ Same H9 H' ∧ H' so = some (.lst vs) ∧ ∀ v ∈ vs, Od K H' v, ?_, ?_⟩
    · refine ⟨_, rfl, ?_⟩
      have shl' : Shw 1940 0 l.d := shl.mono (by decide) (by decide)
      refine ⟨l, rfl, sml, _, rfl, (by show 1 ≤ sizeLine; decide), fun p1 n1 => ?_⟩
      have q1 := same_upd (o := .tup [Lf.v l]) n1
      refine ⟨_, rfl, (by show 1 ≤ sizeLine; decide), fun p2 n2 => ?_⟩
      have q2 := same_upd (o := .lst [Lf.v l]) n2
      refine ⟨_, rfl, _, rfl, (by show 3 ≤ sizeLine; decide), fun p3 n3 => ?_⟩
      have q3 := same_upd (o := .tup [.str "n", Lf.v l, Lf.v l]) n3
      refine ⟨(by show 3 ≤ sizeLine; decide), fun p4 n4 => ?_⟩
      have q4 := same_upd (o := .tup [.int 3, .int 1, .int 2]) n4
      refine ⟨(by show 3 ≤ sizeLine; decide), fun p5 n5 => ?_⟩
      have q5 := same_upd (o := .tup [.int 3, .bl true, .bl false]) n5
      refine ⟨(by show 9 ≤ sizeLine; decide), fun so n6 => ?_⟩
      have q6 := same_upd (o := .lst [.non, .str (svL l), .str "yes", .ref p1, .ref p2, .str "", .ref p3, .ref p4, .ref p5]) n6
      refine ⟨so, _, rfl, fun b o z => q6 b o (q5 b o (q4 b o (q3 b o (q2 b o (q1 b o z))))), upd_same, ?_⟩
      have nn : ∀ d ∈ ([] : List PyData), Shw 1940 0 d := fun d hd => nomatch hd
      have o1 : ∀ {Hx : Hp}, Od K (upd Hx p1 (.tup [Lf.v l])) (.ref p1) := fun {Hx} => od_tup (K := K) upd_same (.cons bare .nil) (List.forall_mem_cons.mpr ⟨shl', nn⟩) (by show 1 ≤ 3; decide)
      have o2 : ∀ {Hx : Hp}, Od K (upd Hx p2 (.lst [Lf.v l])) (.ref p2) := fun {Hx} => od_lst (K := K) upd_same (.cons bare .nil) (List.forall_mem_cons.mpr ⟨shl', nn⟩) (by show 1 ≤ 3; decide)
      have o3 : ∀ {Hx : Hp}, Od K (upd Hx p3 (.tup [.str "n", Lf.v l, Lf.v l])) (.ref p3) := fun {Hx} => od_tup (K := K) upd_same (.cons (.str _) (.cons bare (.cons bare .nil))) (List.forall_mem_cons.mpr ⟨(Shw.str (x := "n") (B := 1) (calm_of _ (by decide +kernel)) (by decide +kernel)).mono (by decide) (by decide), List.forall_mem_cons.mpr ⟨shl', List.forall_mem_cons.mpr ⟨shl', nn⟩⟩⟩) (by show 3 ≤ 3; decide)
      have o4 : ∀ {Hx : Hp}, Od K (upd Hx p4 (.tup [.int 3, .int 1, .int 2])) (.ref p4) := fun {Hx} => od_tup (K := K) upd_same (.cons (.int _) (.cons (.int _) (.cons (.int _) .nil))) (List.forall_mem_cons.mpr ⟨shw_int (by decide), List.forall_mem_cons.mpr ⟨shw_int (by decide), List.forall_mem_cons.mpr ⟨shw_int (by decide), nn⟩⟩⟩) (by show 3 ≤ 3; decide)
      have o5 : ∀ {Hx : Hp}, Od K (upd Hx p5 (.tup [.int 3, .bl true, .bl false])) (.ref p5) := fun {Hx} => od_tup (K := K) upd_same (.cons (.int _) (.cons (.bl _) (.cons (.bl _) .nil))) (List.forall_mem_cons.mpr ⟨shw_int (by decide), List.forall_mem_cons.mpr ⟨shw_bl _, List.forall_mem_cons.mpr ⟨shw_bl _, nn⟩⟩⟩) (by show 3 ≤ 3; decide)
      refine List.forall_mem_cons.mpr ⟨od_non, List.forall_mem_cons.mpr ⟨od_str (calm_sv l) (sv_len sml), List.forall_mem_cons.mpr ⟨od_str (calm_of _ (by decide +kernel)) (by decide +kernel), List.forall_mem_cons.mpr ⟨?_, List.forall_mem_cons.mpr ⟨?_, List.forall_mem_cons.mpr ⟨od_str (calm_of _ (by decide +kernel)) (by decide +kernel), List.forall_mem_cons.mpr ⟨?_, List.forall_mem_cons.mpr ⟨?_, List.forall_mem_cons.mpr ⟨?_, fun v hv => nomatch hv⟩⟩⟩⟩⟩⟩⟩⟩⟩
      · exact ((((o1.same q2).same q3).same q4).same q5).same q6
      · exact (((o2.same q3).same q4).same q5).same q6
      · exact ((o3.same q4).same q5).same q6
      · exact (o4.same q5).same q6
      · exact o5.same q6
    rintro σ' H10 ⟨so, vs, rfl, z10, e10, od⟩
    have b10 := b9.same z10
    refine ⟨_, rfl, so, rfl, ⟨_, SqL.of e10⟩, for_list (xs := vs) (fun _ σ' H' => ∃ s8 : Option V, σ' = [some (.ref a), some (.int (0 + i)), some (.ref p), some (.int (0 + j)), some (Lf.v l), some (.ref wa), some (.ref cs), some (.ref so), s8] ∧ Same H10 H') ⟨_, rfl, fun _ _ z => z⟩ ?_ ?_ ?_⟩
    · rintro _ σ' H' _ ⟨_, _, s⟩
      exact SqL.of (s _ _ e10)
    · rintro n x σ' H11 hx ⟨_, rfl, s11⟩
      obtain ⟨no, d', dp, sd⟩ := (od x (List.mem_of_getElem? hx)).same s11
      obtain ⟨o1, o2, o3, o4⟩ := pair_ok sd
      refine ⟨_, rfl, x, rfl, no, fun pr H12 s12 e12 => ?_⟩
      refine ⟨_, _, rfl, .tup (SqT.of e12) (.cons (.str _) (.cons (Dp.same s12 dp) .nil)), o1, o2, o3, o4, ?_⟩
      refine ⟨_, rfl, (by show 2 ≤ sizeLine; decide), fun p2 n2 => ?_⟩
      have s13 := same_upd (o := .tup [.str "worth", x]) n2
      refine ⟨_, _, rfl, .tup (SqT.of upd_same) (.cons (.str _) (.cons (Dp.same s13 (Dp.same s12 dp)) .nil)), o1, o2, o3, o4, rfl, ?_⟩
      rw [decide_eq_true rfl]
      refine ⟨_, rfl, ?_⟩
      exact ⟨_, rfl, fun b o z => s13 b o (s12 b o (s11 b o z))⟩
    · rintro σ' H' ⟨s8', rfl, s⟩
      have s35 : Same H3 H5 := fun b o z => z5 b o (z4 b o z)
      have s7x : Same H7 H' := fun b o z => s b o (z10 b o (z9 b o (z8 b o z)))
      exact ⟨_, _, _, _, _, _, rfl, t2.trans (t3.sbt.trans (s35.sbt.trans (z6.sbt.trans (z7.sbt.trans s7x.sbt)))), b10.same s⟩
end
end Law

set_option Elab.async false
set_option linter.all false
set_option maxRecDepth 100000
set_option maxHeartbeats 2000000
namespace Law
open PySem PySem.Spec PyProof.Rows L2 Cor LamX NdefX
theorem md_of {P : Program} {w : World} {K : PySem.W.Frag} {mg : Str → Option Value} {base : Heap} {k : Nat} {g : Addr} {fd : FuncData} {ps : List Str} {sp : Sp} (F : FnOk P w K mg base CX0 k g fd ps sp) (b : Binds K fd ps []) : FnR P w K mg base CX0 k g sp :=
  (FnOk.raw F b .nil).imp fun vs H Q E h => by rw [List.append_nil]; exact h
theorem mdx_of {P : Program} {w : World} {K : PySem.W.Frag} {mg : Str → Option Value} {base : Heap} {k : Nat} {g : Addr} {fd : FuncData} {ps : List Str} {sp : Sp} (F : FnOk P w K mg base (L2.CX P w) k g fd ps sp) (b : Binds K fd ps []) : FnR P w K mg base (L2.CX P w) k g sp :=
  (FnOk.raw F b .nil).imp fun vs H Q E h => by rw [List.append_nil]; exact h
def codeO (o : Obj) : Option Value := match o.data with
  | .func fd => some fd.code
  | _ => none
theorem code_of {K : PySem.W.Frag} {f : Addr} {o : Obj} {v : Value} (h : K.lookup f = some o) (e : codeO o = some v) : fnCode K f = some v := by
  obtain ⟨oc, od, dt, sl⟩ := o
  unfold fnCode
  rw [h]
  cases dt <;> first | exact e | cases e
def tabO (o : Obj) : Option Value := match o.data with
  | .fields vs => vs[11]?
  | _ => none
theorem all_mk {l : PySem.W.OpenLaw} {w : World} {K : PySem.W.Frag} {h : Heap} {mg : Str → Option Value} {fa : Addr} (X : K.In h) (G : h.Ns mainGlobals mg) (hfa : mg "law" = some (.ref fa))
    (zlen : PySem.W.nsIn K mainGlobals "len" = some none)
    (zabs : PySem.W.nsIn K mainGlobals "abs" = some none)
    (zint : PySem.W.nsIn K mainGlobals "int" = some none)
    (zrange : PySem.W.nsIn K mainGlobals "range" = some none)
    (zmax : PySem.W.nsIn K mainGlobals "max" = some none)
    (zmin : PySem.W.nsIn K mainGlobals "min" = some none)
    (zisinstance : PySem.W.nsIn K mainGlobals "isinstance" = some none)
    (ztuple : PySem.W.nsIn K mainGlobals "tuple" = some none)
    (zbool : PySem.W.nsIn K mainGlobals "bool" = some none)
    (zset : PySem.W.nsIn K mainGlobals "set" = some none)
    (zsorted : PySem.W.nsIn K mainGlobals "sorted" = some none)
    (zstr : PySem.W.nsIn K mainGlobals "str" = some none)
    (zdict : PySem.W.nsIn K mainGlobals "dict" = some none)
    (zrepr : PySem.W.nsIn K mainGlobals "repr" = some none)
    (zlist : PySem.W.nsIn K mainGlobals "list" = some none)
    {fIsInt : Addr}
    (aIsInt : PySem.W.nsIn K mainGlobals "is_integer" = some (some (.ref fIsInt)))
    (FIsInt : ∃ fd, Fun K "is_integer" "is_integer" sIsInt fIsInt fd)
    {fLeaf : Addr}
    (aLeaf : PySem.W.nsIn K mainGlobals "is_leaf" = some (some (.ref fLeaf)))
    (FLeaf : ∃ fd, Fun K "is_leaf" "is_leaf" sLeaf fLeaf fd)
    {fNode : Addr}
    (aNode : PySem.W.nsIn K mainGlobals "node" = some (some (.ref fNode)))
    (FNode : ∃ fd, Fun K "node" "node" sNode fNode fd)
    {fCase : Addr}
    (aCase : PySem.W.nsIn K mainGlobals "case_of" = some (some (.ref fCase)))
    (FCase : ∃ fd, Fun K "case_of" "case_of" sCase fCase fd)
    {fTops : Addr}
    (aTops : PySem.W.nsIn K mainGlobals "tops" = some (some (.ref fTops)))
    (FTops : ∃ fd, Fun K "tops" "tops" sTops fTops fd)
    {fJoined : Addr}
    (aJoined : PySem.W.nsIn K mainGlobals "joined" = some (some (.ref fJoined)))
    (FJoined : ∃ fd, Fun K "joined" "joined" sJoined fJoined fd)
    {fCombined : Addr}
    (aCombined : PySem.W.nsIn K mainGlobals "combined" = some (some (.ref fCombined)))
    (FCombined : ∃ fd, Fun K "combined" "combined" sCombined fCombined fd)
    {fTurned : Addr}
    (aTurned : PySem.W.nsIn K mainGlobals "turned" = some (some (.ref fTurned)))
    (FTurned : ∃ fd, Fun K "turned" "turned" sTurned fTurned fd)
    {fNumbers : Addr}
    (aNumbers : PySem.W.nsIn K mainGlobals "numbers_in" = some (some (.ref fNumbers)))
    (FNumbers : ∃ fd, Fun K "numbers_in" "numbers_in" sNumbers fNumbers fd)
    {fReduced : Addr}
    (aReduced : PySem.W.nsIn K mainGlobals "reduced" = some (some (.ref fReduced)))
    (FReduced : ∃ fd, Fun K "reduced" "reduced" sReduced fReduced fd)
    {fText : Addr}
    (aText : PySem.W.nsIn K mainGlobals "tree_text" = some (some (.ref fText)))
    (FText : ∃ fd, Fun K "tree_text" "tree_text" sText fText fd)
    {fTruthT : Addr}
    (aTruthT : PySem.W.nsIn K mainGlobals "is_truth_tree" = some (some (.ref fTruthT)))
    (FTruthT : ∃ fd, Fun K "is_truth_tree" "is_truth_tree" sTruthT fTruthT fd)
    {fTreeOf : Addr}
    (aTreeOf : PySem.W.nsIn K mainGlobals "tree_of" = some (some (.ref fTreeOf)))
    (FTreeOf : ∃ fd, Fun K "tree_of" "tree_of" sTreeOf fTreeOf fd)
    {fBox : Addr}
    (aBox : PySem.W.nsIn K mainGlobals "_law_box" = some (some (.ref fBox)))
    (FBox : ∃ fd, Fun K "_law_box" "_law_box" sBox fBox fd)
    {fTake : Addr}
    (aTake : PySem.W.nsIn K mainGlobals "_law_take" = some (some (.ref fTake)))
    (FTake : ∃ fd, Fun K "_law_take" "_law_take" sTake fTake fd)
    {fLeafL : Addr}
    (aLeafL : PySem.W.nsIn K mainGlobals "_law_leaf" = some (some (.ref fLeafL)))
    (FLeafL : ∃ fd, Fun K "_law_leaf" "_law_leaf" sLeafL fLeafL fd)
    {fFound : Addr}
    (aFound : PySem.W.nsIn K mainGlobals "_law_found" = some (some (.ref fFound)))
    (FFound : ∃ fd, Fun K "_law_found" "_law_found" sFound fFound fd)
    {fTextL : Addr}
    (aTextL : PySem.W.nsIn K mainGlobals "_law_text" = some (some (.ref fTextL)))
    (FTextL : ∃ fd, Fun K "_law_text" "_law_text" sTextL fTextL fd)
    {fIs : Addr}
    (aIs : PySem.W.nsIn K mainGlobals "_law_is" = some (some (.ref fIs)))
    (FIs : ∃ fd, Fun K "_law_is" "_law_is" sIs fIs fd)
    {fRaised1 : Addr}
    (aRaised1 : PySem.W.nsIn K mainGlobals "_law_raised" = some (some (.ref fRaised1)))
    (FRaised1 : ∃ fd, Fun K "_law_raised" "_law_raised" sRaised1 fRaised1 fd)
    {fLaw : Addr}
    (aLaw : PySem.W.nsIn K mainGlobals "law" = some (some (.ref fLaw)))
    (FLaw : ∃ fd, Fun K "law" "law" sLaw fLaw fd)
    {C : Addr}
    {mc : Value}
    (aC : PySem.W.nsIn K mainGlobals "Worth" = some (some (.ref C)))
    (tC : PySem.W.typeIn K (.ref C) = some mc)
    (gC : PySem.W.specialIn K (.ref C) "__getattribute__" = some (some (.builtin "type.__getattribute__")))
    (rC : PySem.W.readsIn K C mc = true)
    (pgC : PySem.W.plainGet K C Str.empty = true)
    (hdC : PySem.W.hasDictIn K C = true)
    (poC : PySem.W.plainOver K C = true)
    (saC : PySem.W.findIn K (.ref C) "__setattr__" = some (some (.builtin "object.__setattr__")))
    (ntC : PySem.W.findIn K (.ref C) "tree" = some none)
    (caC : PySem.W.findIn K (.ref C) "__class__" = some (some (.builtin "object.__class__")))
    (cnC : PySem.W.specialIn K (.builtin "object.__class__") "__get__" = some (some (.builtin "getset_descriptor.__get__")))
    (ctC : PySem.W.takesIn K (.builtin "object.__class__") = some true)
    (cmC : PySem.W.mroIn K C (.type "object") = some true)
    (kwC : PySem.W.kitOne K (.ref C) (.ref C) = some true)
    (kiC : PySem.W.kitOne K (.type "int") (.ref C) = some false)
    (kbC : PySem.W.kitOne K (.type "bool") (.ref C) = some false)
    (mkC : PySem.W.makesIn K C = true)
    (kpC : PySem.W.keepIn K (.ref C) = true)
    (sfC : PySem.W.selfFirst K C = true)
    (neC : PySem.W.findIn K (.ref C) "__ne__" = some (some (.builtin "object.__ne__")))
    (obC : PySem.W.subIn K (.ref C) (.type "object") = some true)
    {SE : Addr}
    {mcS : Value}
    {CN : Addr}
    {iN : Addr}
    {CH : Addr}
    (aS : PySem.W.nsIn K mainGlobals "StoreError" = some (some (.ref SE)))
    (tS : PySem.W.typeIn K (.ref SE) = some mcS)
    (gS : PySem.W.specialIn K (.ref SE) "__getattribute__" = some (some (.builtin "type.__getattribute__")))
    (rS : PySem.W.readsIn K SE mcS = true)
    (vS : PySem.W.findCls K (.ref SE) mcS "__init__" = some (.val (.builtin "ValueError.__init__")))
    (mNW : PySem.W.nsIn K mainGlobals "NoWorth" = some (some (.ref CN)))
    (xNW : Exn K CN "ValueError.__new__" "ValueError.__init__")
    (fNW : PySem.W.findIn K (.ref CN) "value" = some none)
    (jNW : PySem.W.findIn K (.ref CN) "__init__" = some (some (.ref iN)))
    (tNW : PySem.W.typeIn K (.ref iN) = some (.type "function"))
    (FNW : ∃ fd, Fun K "__init__" "NoWorth.__init__" sNoWorth iN fd)
    (mHO : PySem.W.nsIn K mainGlobals "NoHouse" = some (some (.ref CH)))
    (zVE : PySem.W.nsIn K mainGlobals "ValueError" = some none)
    (exS : PySem.W.exmOne K (.ref CN) (.ref SE) = some true)
    (kNN : PySem.W.kitOne K (.ref CN) (.ref CN) = some true)
    (kNV : PySem.W.kitOne K (.ref CN) (.type "ValueError") = some true)
    (kNH : PySem.W.kitOne K (.ref CN) (.ref CH) = some false)
    (kwNoneType : PySem.W.kitOne K (.type "NoneType") (.ref C) = some false)
    (kwstr : PySem.W.kitOne K (.type "str") (.ref C) = some false)
    (kwtuple : PySem.W.kitOne K (.type "tuple") (.ref C) = some false)
    (kwlist : PySem.W.kitOne K (.type "list") (.ref C) = some false)
    (iTreeOf : PySem.W.isFn K (.ref fTreeOf) = true)
    {gInit : Addr}
    (bInit : PySem.W.findIn K (.ref C) "__init__" = some (some (.ref gInit)))
    (iInit : PySem.W.isFn K (.ref gInit) = true)
    (MInit : ∃ fd, Fun K "__init__" "Worth.__init__" sWInit gInit fd)
    {gEq : Addr}
    (bEq : PySem.W.findIn K (.ref C) "__eq__" = some (some (.ref gEq)))
    (iEq : PySem.W.isFn K (.ref gEq) = true)
    (MEq : ∃ fd, Fun K "__eq__" "Worth.__eq__" sWEq gEq fd)
    {gStr : Addr}
    (bStr : PySem.W.findIn K (.ref C) "__str__" = some (some (.ref gStr)))
    (iStr : PySem.W.isFn K (.ref gStr) = true)
    (MStr : ∃ fd, Fun K "__str__" "Worth.__str__" sWStr gStr fd)
    {gRepr : Addr}
    (bRepr : PySem.W.findIn K (.ref C) "__repr__" = some (some (.ref gRepr)))
    (iRepr : PySem.W.isFn K (.ref gRepr) = true)
    (MRepr : ∃ fd, Fun K "__repr__" "Worth.__repr__" sWRepr gRepr fd)
    {gUnder : Addr}
    (bUnder : PySem.W.findIn K (.ref C) "under" = some (some (.ref gUnder)))
    (iUnder : PySem.W.isFn K (.ref gUnder) = true)
    (MUnder : ∃ fd, Fun K "under" "Worth.under" sWUnder gUnder fd)
    {gCall : Addr}
    (bCall : PySem.W.findIn K (.ref C) "__call__" = some (some (.ref gCall)))
    (iCall : PySem.W.isFn K (.ref gCall) = true)
    (MCall : ∃ fd, Fun K "__call__" "Worth.__call__" sWCall gCall fd)
    {gCases : Addr}
    (bCases : PySem.W.findIn K (.ref C) "cases" = some (some (.ref gCases)))
    (iCases : PySem.W.isFn K (.ref gCases) = true)
    (MCases : ∃ fd, Fun K "cases" "Worth.cases" sWCases gCases fd)
    (fiCall : PySem.W.fnIn K gCall = true)
    {gOf : Addr}
    {pOf : Addr}
    (bOf : PySem.W.findCls K (.ref C) mc "of" = some (.get (.builtin "staticmethod.__get__") (.ref pOf) .none (.ref C)))
    (cOf : ∃ rest, PySem.W.recIn K pOf "staticmethod" = some (.ref gOf :: rest))
    (iOf : PySem.W.isFn K (.ref gOf) = true)
    (MOf : ∃ fd, Fun K "of" "Worth.of" sWOf gOf fd)
    {gWords : Addr}
    {pWords : Addr}
    (bWords : PySem.W.findIn K (.ref C) "words" = some (some (.ref pWords)))
    (eWords : PySem.W.specialIn K (.ref pWords) "__get__" = some (some (.builtin "property.__get__")))
    (kWords : PySem.W.takesIn K (.ref pWords) = some true)
    (cWords : ∃ rest, PySem.W.recIn K pWords "property" = some (.ref gWords :: rest))
    (MWords : ∃ fd, Fun K "words" "Worth.words" sWWords gWords fd)
    {gPlain : Addr}
    {pPlain : Addr}
    (bPlain : PySem.W.findIn K (.ref C) "plain" = some (some (.ref pPlain)))
    (ePlain : PySem.W.specialIn K (.ref pPlain) "__get__" = some (some (.builtin "property.__get__")))
    (kPlain : PySem.W.takesIn K (.ref pPlain) = some true)
    (cPlain : ∃ rest, PySem.W.recIn K pPlain "property" = some (.ref gPlain :: rest))
    (MPlain : ∃ fd, Fun K "plain" "Worth.plain" sWPlain gPlain fd)
    {gIsT : Addr}
    {pIsT : Addr}
    (bIsT : PySem.W.findIn K (.ref C) "is_truth" = some (some (.ref pIsT)))
    (eIsT : PySem.W.specialIn K (.ref pIsT) "__get__" = some (some (.builtin "property.__get__")))
    (kIsT : PySem.W.takesIn K (.ref pIsT) = some true)
    (cIsT : ∃ rest, PySem.W.recIn K pIsT "property" = some (.ref gIsT :: rest))
    (MIsT : ∃ fd, Fun K "is_truth" "Worth.is_truth" sWIsT gIsT fd)
    : LawG l w K 32 63 "_law_script" mg fa h := by
  have e := hfa.symm.trans (PySem.W.mg_of X G aLaw)
  cases e
  have TF : GloF mg := { toGloW := { toGlo := ⟨PySem.W.mg_none_of X G zlen, PySem.W.mg_none_of X G zabs, PySem.W.mg_none_of X G zint, PySem.W.mg_none_of X G zrange, PySem.W.mg_none_of X G zmax, PySem.W.mg_none_of X G zmin⟩, isinstance := PySem.W.mg_none_of X G zisinstance, tuple := PySem.W.mg_none_of X G ztuple, bool := PySem.W.mg_none_of X G zbool, set := PySem.W.mg_none_of X G zset, sorted := PySem.W.mg_none_of X G zsorted, str := PySem.W.mg_none_of X G zstr, dict := PySem.W.mg_none_of X G zdict }, repr := PySem.W.mg_none_of X G zrepr, list := PySem.W.mg_none_of X G zlist }
  have T : GloW mg := TF.toGloW
  obtain ⟨dIsInt, FIsInt⟩ := FIsInt
  obtain ⟨dLeaf, FLeaf⟩ := FLeaf
  obtain ⟨dNode, FNode⟩ := FNode
  obtain ⟨dCase, FCase⟩ := FCase
  obtain ⟨dTops, FTops⟩ := FTops
  obtain ⟨dJoined, FJoined⟩ := FJoined
  obtain ⟨dCombined, FCombined⟩ := FCombined
  obtain ⟨dTurned, FTurned⟩ := FTurned
  obtain ⟨dNumbers, FNumbers⟩ := FNumbers
  obtain ⟨dReduced, FReduced⟩ := FReduced
  obtain ⟨dText, FText⟩ := FText
  obtain ⟨dTruthT, FTruthT⟩ := FTruthT
  obtain ⟨dTreeOf, FTreeOf⟩ := FTreeOf
  obtain ⟨dBox, FBox⟩ := FBox
  obtain ⟨dTake, FTake⟩ := FTake
  obtain ⟨dLeafL, FLeafL⟩ := FLeafL
  obtain ⟨dFound, FFound⟩ := FFound
  obtain ⟨dTextL, FTextL⟩ := FTextL
  obtain ⟨dIs, FIs⟩ := FIs
  obtain ⟨dRaised1, FRaised1⟩ := FRaised1
  obtain ⟨dLaw, FLaw⟩ := FLaw
  obtain ⟨eInit, MInit⟩ := MInit
  obtain ⟨eEq, MEq⟩ := MEq
  obtain ⟨eStr, MStr⟩ := MStr
  obtain ⟨eRepr, MRepr⟩ := MRepr
  obtain ⟨eUnder, MUnder⟩ := MUnder
  obtain ⟨eCall, MCall⟩ := MCall
  obtain ⟨eCases, MCases⟩ := MCases
  obtain ⟨eOf, MOf⟩ := MOf
  obtain ⟨hWords, MWords⟩ := MWords
  obtain ⟨hPlain, MPlain⟩ := MPlain
  obtain ⟨hIsT, MIsT⟩ := MIsT
  refine ⟨dLaw, [], spLaw K [], (fun p hp => nomatch hp), (fun p hp => nomatch hp), (fun p hp => nomatch hp), ?_, fun H a ns hl _ hT hS => ⟨a, ns, rfl, hS, hl, ?_, fun _ => rfl⟩, fun base _ _ TB => ?_⟩
  · intro s v
    obtain ⟨oc, od, kV, doc, pm, an, cdv, ct, osl, rfl, lk, hcd⟩ := FLaw.ex
    exact .of_eq rfl
  · exact (fun p hp => nomatch hp)
  have DInt : Df l.prog w K mg base "is_integer" 1 ["value"] (spIsInt K) := ⟨fIsInt, dIsInt, ok_isint FIsInt T, PySem.W.mg_of X G aIsInt, FIsInt.kp, FIsInt.binds (fun _ _ _ _ _ _ us hl => match us, hl with | [_], _ => rfl)⟩
  have DLeaf : Df l.prog w K mg base "is_leaf" 1 ["tree"] spLeaf := ⟨fLeaf, dLeaf, ok_leaf FLeaf T, PySem.W.mg_of X G aLeaf, FLeaf.kp, FLeaf.binds (fun _ _ _ _ _ _ us hl => match us, hl with | [_], _ => rfl)⟩
  have DNode : Df l.prog w K mg base "node" 1 ["number", "yes", "no"] spNode := ⟨fNode, dNode, ok_node FNode T, PySem.W.mg_of X G aNode, FNode.kp, FNode.binds (fun _ _ _ _ _ _ us hl => match us, hl with | [_, _, _], _ => rfl)⟩
  have DCase : Df l.prog w K mg base "case_of" 2 ["tree", "number", "truth"] spCase := ⟨fCase, dCase, ok_case FCase T DLeaf, PySem.W.mg_of X G aCase, FCase.kp, FCase.binds (fun _ _ _ _ _ _ us hl => match us, hl with | [_, _, _], _ => rfl)⟩
  have DTops : DfR l.prog w K mg base "tops" 2 spTops := ⟨fTops, ok_tops FTops T DLeaf, PySem.W.mg_of X G aTops, FTops.kp⟩
  have DJoined : Df l.prog w K mg base "joined" 1 ["sign", "one", "other"] spJoined := ⟨fJoined, dJoined, ok_joined FJoined T, PySem.W.mg_of X G aJoined, FJoined.kp, FJoined.binds (fun _ _ _ _ _ _ us hl => match us, hl with | [_, _, _], _ => rfl)⟩
  have DCombined : Df l.prog w K mg base "combined" 23 ["sign", "one", "other"] (spCombined 20) := ⟨fCombined, dCombined, ok_combined FCombined T DNode DCase DTops DJoined (PySem.W.mg_of X G aCombined) 20 (by decide), PySem.W.mg_of X G aCombined, FCombined.kp, FCombined.binds (fun _ _ _ _ _ _ us hl => match us, hl with | [_, _, _], _ => rfl)⟩
  have DTurned : Df l.prog w K mg base "turned" 23 ["tree"] (spTurned 21) := ⟨fTurned, dTurned, ok_turned FTurned T DLeaf DNode (PySem.W.mg_of X G aTurned) 21 (by decide), PySem.W.mg_of X G aTurned, FTurned.kp, FTurned.binds (fun _ _ _ _ _ _ us hl => match us, hl with | [_], _ => rfl)⟩
  have DNumbers : Df l.prog w K mg base "numbers_in" 23 ["tree"] (spNumbers 21) := ⟨fNumbers, dNumbers, ok_numbers FNumbers T DLeaf (PySem.W.mg_of X G aNumbers) 21 (by decide), PySem.W.mg_of X G aNumbers, FNumbers.kp, FNumbers.binds (fun _ _ _ _ _ _ us hl => match us, hl with | [_], _ => rfl)⟩
  have DReduced : Df l.prog w K mg base "reduced" 23 ["tree", "words"] (spReduced 21) := ⟨fReduced, dReduced, ok_reduced FReduced T DLeaf DNode (PySem.W.mg_of X G aReduced) 21 (by decide), PySem.W.mg_of X G aReduced, FReduced.kp, FReduced.binds (fun _ _ _ _ _ _ us hl => match us, hl with | [_, _], _ => rfl)⟩
  have DText : Df l.prog w K mg base "tree_text" 23 ["tree"] (spText 21) := ⟨fText, dText, ok_text FText T DLeaf (PySem.W.mg_of X G aText) 21, PySem.W.mg_of X G aText, FText.kp, FText.binds (fun _ _ _ _ _ _ us hl => match us, hl with | [_], _ => rfl)⟩
  have DTruth : Df l.prog w K mg base "is_truth_tree" 23 ["tree"] (spTruthT 21) := ⟨fTruthT, dTruthT, ok_truthT FTruthT T DLeaf (PySem.W.mg_of X G aTruthT) 21, PySem.W.mg_of X G aTruthT, FTruthT.kp, FTruthT.binds (fun _ _ _ _ _ _ us hl => match us, hl with | [_], _ => rfl)⟩
  have W0 : WCl K mg C := ⟨PySem.W.mg_of X G aC, ⟨pgC, hdC, poC, saC⟩, ntC, caC, cnC, ctC, cmC, kwC, kiC, kbC⟩
  have W1 : WMk l.prog w K mg base C := { toWCl := W0, made := ⟨gInit, eInit, ⟨mkC, bInit, iInit, kpC⟩, ok_wInit MInit W0, MInit.binds (fun _ _ _ _ _ _ us hl => match us, hl with | [_, _], _ => rfl)⟩ }
  have D : WD l.prog w K mg base C := ⟨DLeaf, DInt, DCombined, DTurned, DNumbers, DReduced, DText, DTruth⟩
  have DTree : Df l.prog w K mg base "tree_of" 2 ["value"] (spTreeOf C) := ⟨fTreeOf, dTreeOf, ok_treeOf FTreeOf T W0 DInt, PySem.W.mg_of X G aTreeOf, FTreeOf.kp, FTreeOf.binds (fun _ _ _ _ _ _ us hl => match us, hl with | [_], _ => rfl)⟩
  have PW : PrW l.prog w K mg base C "words" 24 (spWords C) := ⟨pWords, gWords, hWords, ⟨bWords, eWords, kWords, cWords⟩, ok_wWords MWords T W1 D, MWords.binds (fun _ _ _ _ _ _ us hl => match us, hl with | [_], _ => rfl)⟩
  have PP : PrW l.prog w K mg base C "plain" 24 (spPlain C) := ⟨pPlain, gPlain, hPlain, ⟨bPlain, ePlain, kPlain, cPlain⟩, ok_wPlain MPlain W1 D, MPlain.binds (fun _ _ _ _ _ _ us hl => match us, hl with | [_], _ => rfl)⟩
  have PI : PrW l.prog w K mg base C "is_truth" 24 (spIsT C) := ⟨pIsT, gIsT, hIsT, ⟨bIsT, eIsT, kIsT, cIsT⟩, ok_wIsT MIsT W1 D, MIsT.binds (fun _ _ _ _ _ _ us hl => match us, hl with | [_], _ => rfl)⟩
  have SOf : SmD l.prog w K mg base C "of" 3 (spOf C) := ⟨gOf, ⟨PySem.W.mg_of X G aC, mc, ⟨rC, gC⟩, pOf, cOf.elim fun r hr => ⟨r, bOf, hr⟩⟩, ⟨md_of (ok_wOf MOf W1 DTree) (MOf.binds (fun _ _ _ _ _ _ us hl => match us, hl with | [_], _ => rfl)), iOf, MOf.kp⟩⟩
  have WI : WIs l.prog w K mg base C := { toWCl := W0, words := PW, plain := PP, isT := PI, str := ⟨gStr, bStr, ⟨md_of (ok_wStr MStr W1 D) (MStr.binds (fun _ _ _ _ _ _ us hl => match us, hl with | [_], _ => rfl)), iStr, MStr.kp⟩⟩, rpr := ⟨gRepr, bRepr, ⟨md_of (ok_wRepr MRepr W0 D) (MRepr.binds (fun _ _ _ _ _ _ us hl => match us, hl with | [_], _ => rfl)), iRepr, MRepr.kp⟩⟩ }
  have DTk : Df l.prog w K mg base "_law_take" 1 ["_law_box_here", "_law_many"] spTk := ⟨fTake, dTake, (ok_take FTake T.toGlo).imp fun _ _ _ _ h => spTk_of h, PySem.W.mg_of X G aTake, FTake.kp, FTake.binds (fun _ _ _ _ _ _ us hl => match us, hl with | [_, _], _ => rfl)⟩
  have DB : Df l.prog w K mg base "_law_box" 1 ["_law_script", "_law_k", "_law_own"] (spBox K) := ⟨fBox, dBox, ok_box FBox T.toGlo, PySem.W.mg_of X G aBox, FBox.kp, FBox.binds (fun _ _ _ _ _ _ us hl => match us, hl with | [_, _, _], _ => rfl)⟩
  have DLeafL : Df l.prog w K mg base "_law_leaf" 2 ["_law_box_here", "_law_is_truth"] spLeafL := ⟨fLeafL, dLeafL, ok_leafL FLeafL DTk, PySem.W.mg_of X G aLeafL, FLeafL.kp, FLeafL.binds (fun _ _ _ _ _ _ us hl => match us, hl with | [_, _], _ => rfl)⟩
  have DFound : Df l.prog w K mg base "_law_found" 14 ["_law_tree"] (spFound 13) := ⟨fFound, dFound, ok_found FFound T (PySem.W.mg_of X G aFound) 13 (by decide), PySem.W.mg_of X G aFound, FFound.kp, FFound.binds (fun _ _ _ _ _ _ us hl => match us, hl with | [_], _ => rfl)⟩
  have DTextL : Df l.prog w K mg base "_law_text" 14 ["_law_tree"] (spText 13) := ⟨fTextL, dTextL, ok_textL FTextL T (PySem.W.mg_of X G aTextL) 13, PySem.W.mg_of X G aTextL, FTextL.kp, FTextL.binds (fun _ _ _ _ _ _ us hl => match us, hl with | [_], _ => rfl)⟩
  have DIs : DfG l.prog w K mg base "_law_is" 28 ["_law_worth", "_law_tree"] (spIs C) := ⟨fIs, dIs, ok_is FIs TF WI DTextL DFound, PySem.W.mg_of X G aIs, FIs.kp, FIs.binds (fun _ _ _ _ _ _ us hl => match us, hl with | [_, _], _ => rfl)⟩
  obtain ⟨dNW, FNW⟩ := FNW
  have TN : NwT K mg SE CN mcS := ⟨PySem.W.mg_of X G aS, ⟨rS, gS⟩, vS, PySem.W.mg_of X G mNW, xNW, fNW⟩
  have XN : Xcl l.prog w K mg base "NoWorth" CN "value" := ⟨_, _, iN, dNW, xNW, jNW, tNW, ok_NoWorth FNW TN, FNW.binds (fun _ _ _ _ _ _ us hl => match us, hl with | [_, _], _ => rfl), (fun s a u _ => by
    obtain ⟨oc, od, kV, doc, pm, an, cdv, ct, osl, e0, lk, hcd⟩ := FNW.ex
    rw [e0]
    exact .of_eq rfl), PySem.W.mg_of X G mNW, fNW⟩
  have NK : ∀ ty ∈ noW, PySem.W.kitOne K (.type ty) (.ref C) = some false := show ∀ ty ∈ (["NoneType", "str", "tuple", "list"] : List String), PySem.W.kitOne K (.type ty) (.ref C) = some false from List.forall_mem_cons.mpr ⟨kwNoneType, List.forall_mem_cons.mpr ⟨kwstr, List.forall_mem_cons.mpr ⟨kwtuple, List.forall_mem_cons.mpr ⟨kwlist, fun p hp => nomatch hp⟩⟩⟩⟩
  have XTC : XcT K mg SE CN CH := ⟨PySem.W.mg_of X G aS, PySem.W.mg_of X G mNW, PySem.W.mg_of X G mHO, PySem.W.mg_none_of X G zVE, xNW, fNW, exS, kNN, kNV, kNH⟩
  have MT : MdX l.prog w K mg base 3 fTreeOf (fun vs H Q E => spTreeOf C vs H Q E ∨ spTreeX K CN vs H Q E) := ⟨fnR_or (fnR_cx ((md_of (ok_treeOf FTreeOf T W0 DInt) (FTreeOf.binds (fun _ _ _ _ _ _ us hl => match us, hl with | [_], _ => rfl))).mono (by decide))) (mdx_of (ok_treeX FTreeOf T W0 NK XN DInt) (FTreeOf.binds (fun _ _ _ _ _ _ us hl => match us, hl with | [_], _ => rfl))), iTreeOf, FTreeOf.kp⟩
  have ME : MdX l.prog w K mg base 4 gOf (spOfX K CN) := ⟨mdx_of (ok_ofX MOf W1 MT (PySem.W.mg_of X G aTreeOf)) (MOf.binds (fun _ _ _ _ _ _ us hl => match us, hl with | [_], _ => rfl)), iOf, MOf.kp⟩
  have SX : Stm K mg "Worth" C "of" gOf := ⟨PySem.W.mg_of X G aC, mc, ⟨rC, gC⟩, pOf, cOf.elim fun r hr => ⟨r, bOf, hr⟩⟩
  have DRaised : Df l.prog w K mg base "_law_raised" 5 ["_law_value"] (spRaised1 K) := ⟨fRaised1, dRaised1, ok_raised1 FRaised1 T XTC SX ME, PySem.W.mg_of X G aRaised1, FRaised1.kp, FRaised1.binds (fun _ _ _ _ _ _ us hl => match us, hl with | [_], _ => rfl)⟩
  have W : WK l.prog w K mg base C := ⟨W0.cl, ⟨gEq, bEq, ⟨md_of (ok_wEq MEq T W1 PI) (MEq.binds (fun _ _ _ _ _ _ us hl => match us, hl with | [_, _], _ => rfl)), iEq, MEq.kp⟩, neC, obC⟩, ⟨gUnder, eUnder, ⟨bUnder, iUnder, MUnder.kp⟩, ok_wUnder MUnder W1 D, MUnder.binds (fun _ _ _ _ _ _ us hl => match us, hl with | [_, _], _ => rfl), by decide⟩, ⟨gCall, ⟨bCall, iCall, fiCall⟩, md_of (ok_wCall MCall T W1 D PW) (MCall.binds (fun _ _ _ _ _ _ us hl => match us, hl with | [_, _], _ => rfl))⟩, ⟨gCases, eCases, ⟨bCases, iCases, MCases.kp⟩, ok_wCases1 MCases W1 D, MCases.binds (fun _ _ _ _ _ _ us hl => match us, hl with | [_], _ => rfl)⟩⟩
  exact ok_law FLaw TF W DRaised SOf DLeafL DTk DB DIs
theorem walk {l : PySem.W.OpenLaw} {q : Program} {loose : List Str} {XP : (Str → Option Value) → Heap → Prop} {YP : World → Heap → Prop} {d : DefRec} {K : Params → PySem.W.Frag} (hn : l.most = some 63) (hdf : d.params.defaults = [])
    (hY : ∀ (w : World) (h : Heap), YP w h → (K w.params).In h)
    (F : ∀ (w : World) (mg : Str → Option Value) (fa : Addr) (h : Heap), YP w h → (K w.params).In h → h.Ns mainGlobals mg → mg d.name = some (.ref fa) → LawG l w (K w.params) 32 63 "_law_script" mg fa h) :
    PySem.W.WalkO q loose XP YP l.row.toRowW d [] (fun f vs => PySem.call f vs) :=
  walk_ofGT (n := 63) (k := 32) (x := "_law_script") hn (by decide) hdf ⟨rfl, by decide, by decide⟩ hY F
end Law

set_option Elab.async false
open PySem PySem.W PyProof.Rows in
set_option maxRecDepth 100000 in
set_option maxHeartbeats 0 in
theorem PySem.Challenge.cw_corridors_k01_plain_worths_holds : PySem.Challenge.rw_corridors_k01_plain_worths.Holds := by
  w_on; o_law; k_head; (case hw => w_witness2)
  k_fill
  refine Law.walk (l := PySem.Challenge.rw_corridors_k01_plain_worths) rfl rfl (fun w h Y => PySem.W.kIn_of Y) ?F
  case F =>
    intro w mg fa h Y KX G hmg
    refine' Law.all_mk KX G hmg ?zlen ?zabs ?zint ?zrange ?zmax ?zmin ?zisinstance ?ztuple ?zbool ?zset ?zsorted ?zstr ?zdict ?zrepr ?zlist ?aIsInt ?FIsInt ?aLeaf ?FLeaf ?aNode ?FNode ?aCase ?FCase ?aTops ?FTops ?aJoined ?FJoined ?aCombined ?FCombined ?aTurned ?FTurned ?aNumbers ?FNumbers ?aReduced ?FReduced ?aText ?FText ?aTruthT ?FTruthT ?aTreeOf ?FTreeOf ?aBox ?FBox ?aTake ?FTake ?aLeafL ?FLeafL ?aFound ?FFound ?aTextL ?FTextL ?aIs ?FIs ?aRaised1 ?FRaised1 ?aLaw ?FLaw ?aC ?tC ?gC ?rC ?pgC ?hdC ?poC ?saC ?ntC ?caC ?cnC ?ctC ?cmC ?kwC ?kiC ?kbC ?mkC ?kpC ?sfC ?neC ?obC ?aS ?tS ?gS ?rS ?vS ?mNW ?xNW ?fNW ?jNW ?tNW ?FNW ?mHO ?zVE ?exS ?kNN ?kNV ?kNH ?kwNoneType ?kwstr ?kwtuple ?kwlist ?iTreeOf ?bInit ?iInit ?MInit ?bEq ?iEq ?MEq ?bStr ?iStr ?MStr ?bRepr ?iRepr ?MRepr ?bUnder ?iUnder ?MUnder ?bCall ?iCall ?MCall ?bCases ?iCases ?MCases ?fiCall ?bOf ?cOf ?iOf ?MOf ?bWords ?eWords ?kWords ?cWords ?MWords ?bPlain ?ePlain ?kPlain ?cPlain ?MPlain ?bIsT ?eIsT ?kIsT ?cIsT ?MIsT
    (case zlen => k_is)
    (case zabs => k_is)
    (case zint => k_is)
    (case zrange => k_is)
    (case zmax => k_is)
    (case zmin => k_is)
    (case zisinstance => k_is)
    (case ztuple => k_is)
    (case zbool => k_is)
    (case zset => k_is)
    (case zsorted => k_is)
    (case zstr => k_is)
    (case zdict => k_is)
    (case zrepr => k_is)
    (case zlist => k_is)
    (case aIsInt => k_is)
    (case FIsInt => exact ⟨_, L2.fun_mk (by k_is) (by k_is) (by k_is)⟩)
    (case aLeaf => k_is)
    (case FLeaf => exact ⟨_, L2.fun_mk (by k_is) (by k_is) (by k_is)⟩)
    (case aNode => k_is)
    (case FNode => exact ⟨_, L2.fun_mk (by k_is) (by k_is) (by k_is)⟩)
    (case aCase => k_is)
    (case FCase => exact ⟨_, L2.fun_mk (by k_is) (by k_is) (by k_is)⟩)
    (case aTops => k_is)
    (case FTops => exact ⟨_, L2.fun_mk (by k_is) (by k_is) (by k_is)⟩)
    (case aJoined => k_is)
    (case FJoined => exact ⟨_, L2.fun_mk (by k_is) (by k_is) (by k_is)⟩)
    (case aCombined => k_is)
    (case FCombined => exact ⟨_, L2.fun_mk (by k_is) (by k_is) (by k_is)⟩)
    (case aTurned => k_is)
    (case FTurned => exact ⟨_, L2.fun_mk (by k_is) (by k_is) (by k_is)⟩)
    (case aNumbers => k_is)
    (case FNumbers => exact ⟨_, L2.fun_mk (by k_is) (by k_is) (by k_is)⟩)
    (case aReduced => k_is)
    (case FReduced => exact ⟨_, L2.fun_mk (by k_is) (by k_is) (by k_is)⟩)
    (case aText => k_is)
    (case FText => exact ⟨_, L2.fun_mk (by k_is) (by k_is) (by k_is)⟩)
    (case aTruthT => k_is)
    (case FTruthT => exact ⟨_, L2.fun_mk (by k_is) (by k_is) (by k_is)⟩)
    (case aTreeOf => k_is)
    (case FTreeOf => exact ⟨_, L2.fun_mk (by k_is) (by k_is) (by k_is)⟩)
    (case aBox => k_is)
    (case FBox => exact ⟨_, L2.fun_mk (by k_is) (by k_is) (by k_is)⟩)
    (case aTake => k_is)
    (case FTake => exact ⟨_, L2.fun_mk (by k_is) (by k_is) (by k_is)⟩)
    (case aLeafL => k_is)
    (case FLeafL => exact ⟨_, L2.fun_mk (by k_is) (by k_is) (by k_is)⟩)
    (case aFound => k_is)
    (case FFound => exact ⟨_, L2.fun_mk (by k_is) (by k_is) (by k_is)⟩)
    (case aTextL => k_is)
    (case FTextL => exact ⟨_, L2.fun_mk (by k_is) (by k_is) (by k_is)⟩)
    (case aIs => k_is)
    (case FIs => exact ⟨_, L2.fun_mk (by k_is) (by k_is) (by k_is)⟩)
    (case aRaised1 => k_is)
    (case FRaised1 => exact ⟨_, L2.fun_mk (by k_is) (by k_is) (by k_is)⟩)
    (case aLaw => k_is)
    (case FLaw => exact ⟨_, L2.fun_mk (by k_is) (by k_is) (by k_is)⟩)
    (case aC => k_is)
    (case tC => k_is)
    (case gC => k_is)
    (case rC => k_is)
    (case pgC => first | k_is | kernel_rfl)
    (case hdC => first | k_is | kernel_rfl)
    (case poC => first | k_is | kernel_rfl)
    (case saC => k_is)
    (case ntC => k_is)
    (case caC => k_is)
    (case cnC => k_is)
    (case ctC => first | k_is | kernel_rfl)
    (case cmC => first | k_is | kernel_rfl)
    (case kwC => first | k_is | kernel_rfl)
    (case kiC => first | k_is | kernel_rfl)
    (case kbC => first | k_is | kernel_rfl)
    (case mkC => first | k_is | kernel_rfl)
    (case kpC => first | k_is | kernel_rfl)
    (case sfC => first | k_is | kernel_rfl)
    (case neC => k_is)
    (case obC => first | k_is | kernel_rfl)
    (case aS => k_is)
    (case tS => k_is)
    (case gS => k_is)
    (case rS => k_is)
    (case vS => k_is)
    (case mNW => k_is)
    (case xNW => exact Cor.exn_mk Cor.bas_value (by k_is) rfl (by kernel_rfl))
    (case fNW => k_is)
    (case jNW => k_is)
    (case tNW => k_is)
    (case FNW => exact ⟨_, L2.fun_mk (by k_is) (by k_is) (by k_is)⟩)
    (case mHO => k_is)
    (case zVE => k_is)
    (case exS => first | k_is | kernel_rfl)
    (case kNN => first | k_is | kernel_rfl)
    (case kNV => first | k_is | kernel_rfl)
    (case kNH => first | k_is | kernel_rfl)
    (case kwNoneType => first | k_is | kernel_rfl)
    (case kwstr => first | k_is | kernel_rfl)
    (case kwtuple => first | k_is | kernel_rfl)
    (case kwlist => first | k_is | kernel_rfl)
    (case iTreeOf => first | k_is | kernel_rfl)
    (case bInit => k_is)
    (case iInit => first | k_is | kernel_rfl)
    (case MInit => exact ⟨_, L2.fun_mk (by k_is) (by k_is) (by k_is)⟩)
    (case bEq => k_is)
    (case iEq => first | k_is | kernel_rfl)
    (case MEq => exact ⟨_, L2.fun_mk (by k_is) (by k_is) (by k_is)⟩)
    (case bStr => k_is)
    (case iStr => first | k_is | kernel_rfl)
    (case MStr => exact ⟨_, L2.fun_mk (by k_is) (by k_is) (by k_is)⟩)
    (case bRepr => k_is)
    (case iRepr => first | k_is | kernel_rfl)
    (case MRepr => exact ⟨_, L2.fun_mk (by k_is) (by k_is) (by k_is)⟩)
    (case bUnder => k_is)
    (case iUnder => first | k_is | kernel_rfl)
    (case MUnder => exact ⟨_, L2.fun_mk (by k_is) (by k_is) (by k_is)⟩)
    (case bCall => k_is)
    (case iCall => first | k_is | kernel_rfl)
    (case MCall => exact ⟨_, L2.fun_mk (by k_is) (by k_is) (by k_is)⟩)
    (case bCases => k_is)
    (case iCases => first | k_is | kernel_rfl)
    (case MCases => exact ⟨_, L2.fun_mk (by k_is) (by k_is) (by k_is)⟩)
    (case fiCall => first | k_is | kernel_rfl)
    (case bOf => k_is)
    (case cOf => exact ⟨_, by k_is⟩)
    (case iOf => first | k_is | kernel_rfl)
    (case MOf => exact ⟨_, L2.fun_mk (by k_is) (by k_is) (by k_is)⟩)
    (case bWords => k_is)
    (case eWords => k_is)
    (case kWords => first | k_is | kernel_rfl)
    (case cWords => exact ⟨_, by k_is⟩)
    (case MWords => exact ⟨_, L2.fun_mk (by k_is) (by k_is) (by k_is)⟩)
    (case bPlain => k_is)
    (case ePlain => k_is)
    (case kPlain => first | k_is | kernel_rfl)
    (case cPlain => exact ⟨_, by k_is⟩)
    (case MPlain => exact ⟨_, L2.fun_mk (by k_is) (by k_is) (by k_is)⟩)
    (case bIsT => k_is)
    (case eIsT => k_is)
    (case kIsT => first | k_is | kernel_rfl)
    (case cIsT => exact ⟨_, by k_is⟩)
    (case MIsT => exact ⟨_, L2.fun_mk (by k_is) (by k_is) (by k_is)⟩)
#print axioms PySem.Challenge.cw_corridors_k01_plain_worths_holds
