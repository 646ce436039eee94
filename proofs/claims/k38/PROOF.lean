import PyProof.Rows.All
import Wide.All
import OpenK.AllK
import Wide.FinOn
import HandS.ForMost
import HandS.Exc
import HandS.ExcInit
import HandS.ExcIs
import HandS.ClsMeth
import KE.KExcInit
import KE.KExcIs
import HandS.MakeKwOnly
import HandS.EndBits
import PyProof.ReprRoads
import HandS.Wide
import HandS.Walk
import PySem.Challenge.RW_corridors_k38_errors_and_their_attribute
set_option Elab.async false
set_option linter.all false
set_option maxRecDepth 100000
set_option maxHeartbeats 4000000
/-! Own exception classes over any built-in base, made as values, with or without a keyword. -/
namespace Cor
open PySem PySem.Spec PyProof.Rows

/-! ### the model's level -/
section
variable {M : Model} {A : Around} {E : Value → Shared → Prop} {h : Heap} {g : Array GenState} {d : Drawn} {t : Nat} {os : OsState}
variable {nm q : Str} {C N : Addr} {bs bm bmB : List Value} {hdct : Bool} {sn : List Str} {sub : List Value} {ab : Bool} {col : Option Bool} {dd : Option Addr} {k0 k1 k2 k3 k5 : Option Value} {B newId initId : String}
/-- B.__new__(C, .., k = v) is asked rightly -/
theorem new_chk (F : ExcBaseFacts B newId initId bmB) (hb : bm.contains (.type B) = true) {rest : List Value} {kw : List (Str × Value)} {Q : Unit → Shared → Prop}
    (hC : h.get? C = some (excClassObj nm q C N bs bm hdct sn sub ab col dd k0 k1 k2 k3 k5 newId)) (hq : Q () ⟨h, g, d, t, os⟩) :
    wpAny M A (checkBuiltinCall newId ⟨.ref C :: rest, kw⟩) Q E ⟨h, g, d, t, os⟩ := by
  have inB : (Value.ref C :: bm).contains (.type B) = true := by rw [List.contains_cons, hb, Bool.or_true]
  have notStar := F.noStar
  simp only [checkBuiltinCall, F.newKind, F.newSplit, F.newRow]
  repeat (first
    | refine wpAny_loadPart_at hC ?_
    | (refine wpAny_isSubtype_exc hC ?_; rw [inB])
    | refine wpAny_staticBase_exc hC ?_
    | refine wpAny_madeBy_exc hC ?_
    | simp only [bne_self_eq_false, Bool.false_eq_true, if_false]
    | wp_step)
  exact hq
end

section
variable {prog : Program} {w : World} {A : Around} {E : Value → Shared → Prop} {R : Result → Shared → Prop} {h : Heap} {g : Array GenState} {d : Drawn} {t : Nat} {os : OsState}
variable {nm q : Str} {C N : Addr} {bs bm bmB : List Value} {hdct : Bool} {sn : List Str} {sub : List Value} {ab : Bool} {col : Option Bool} {dd : Option Addr} {k0 k1 k2 k3 k5 : Option Value} {B newId initId : String}
/-- what is asked of the class's line of bases -/
structure Line (B : String) (bm : List Value) : Prop where
  has : bm.contains (.type B) = true
  noA : bm.contains (.type "AttributeError") = false
  noN : bm.contains (.type "NameError") = false
theorem new_run (F : ExcBaseFacts B newId initId bmB) (L : Line B bm) {rest : List Value} {kw : List (Str × Value)}
    (hC : h.get? C = some (excClassObj nm q C N bs bm hdct sn sub ab col dd k0 k1 k2 k3 k5 newId))
    (hq : R (.ok (.ret (.ref (h.objs.size + 1)))) ⟨(h.push (W.kdv_tup rest)).push (HandSPX.excO C h.objs.size), g, d, t, os⟩) (hrest : rest.length ≤ sizeLine) :
    codeAny (model prog w) A (.builtin newId ⟨.ref C :: rest, kw⟩) R ⟨h, g, d, t, os⟩ := by
  have atEnd := F.ends
  have inB : (Value.ref C :: bm).contains (.type B) = true := by rw [List.contains_cons, L.has, Bool.or_true]
  have inA : (Value.ref C :: bm).contains (.type "AttributeError") = false := by rw [List.contains_cons, L.noA]; rfl
  have inN : (Value.ref C :: bm).contains (.type "NameError") = false := by rw [List.contains_cons, L.noN]; rfl
  refine codeAny_builtinAt F.entry ?_
  unfold Builtin.«BaseException.__new__»
  refine PySem.wpAt_bind ?_
  show PySem.wpAt _ _ _ (stack >>= _) _ _ _
  refine PySem.wpAt_bind (PySem.wpAt_stack fun p below => PySem.wpAt_of_wpAny ?_)
  wp_walk
  refine PySem.wpAt_of_wpAny ?_
  rw [F.owner]
  repeat (first
    | with_reducible refine wpAny_madeHere_exc F.canon hC ?_
    | with_reducible refine wpAny_loadPart_at hC ?_
    | (with_reducible refine wpAny_isSubtype_exc hC ?_; first | rw [inB] | rw [inA] | rw [inN])
    | wp_step)
  show R _ _
  rw [Heap.size_push]
  exact hq
theorem call_type (F : ExcBaseFacts B newId initId bmB) (L : Line B bm) {rest : List Value} {kw : List (Str × Value)} {fI : Addr} {Q : Fin → Shared → Prop}
    (hC : h.get? C = some (excClassObj nm q C N bs bm hdct sn sub ab col dd k0 k1 k2 k3 k5 newId))
    (hi : W.Looks (model prog w) h (typeLookup (.ref C) "__init__") (some (.ref fI))) (hb : ∀ self, W.Looks (model prog w) h (bindSpecial (.ref fI) self) (.ref fI, [self])) (hrest : rest.length ≤ sizeLine)
    (hq : codeAny (model prog w) A (.call (.ref fI) ⟨.ref (h.objs.size + 1) :: rest, kw⟩)
      (fun r s' => match r with | .ok (.ret v) => v = .none ∧ Q (.done (.ret (.ref (h.objs.size + 1)))) s' | .ok _ => False | .error e => E e s')
      ⟨(h.push (W.kdv_tup rest)).push (HandSPX.excO C h.objs.size), g, d, t, os⟩) :
    wpAny (model prog w) A (Builtin.«type.__call__» ⟨.ref C :: rest, kw⟩) Q E ⟨h, g, d, t, os⟩ := by
  repeat (first | with_reducible refine wpAny_loadPart_at hC ?_ | with_reducible refine wpAny_madeBy_exc hC ?_ | wp_step)
  refine codeAny_call_builtin_code (Code.quiet_builtin _ F.quiet) (new_chk F L.has hC ?_)
  refine new_run F L hC ?_ hrest
  show wpAny _ _ _ _ _ _
  have kp : ∀ b o, h.get? b = some o → ((h.push (W.kdv_tup rest)).push (HandSPX.excO C h.objs.size)).get? b = some o := fun b o e => Heap.get?_push_of_some _ (Heap.get?_push_of_some _ e)
  have hC2 := kp _ _ hC
  have hob : ((h.push (W.kdv_tup rest)).push (HandSPX.excO C h.objs.size)).get? (h.objs.size + 1) = some (HandSPX.excO C h.objs.size) := by heap_get
  have inC : (Value.ref C :: bm).contains (.ref C) = true := by simp
  have i2 := hi.keeps kp
  have b2 := (hb (.ref (h.objs.size + 1))).keeps kp
  unfold isInstance
  repeat (first | with_reducible refine wpAny_loadPart_at hob ?_ | (with_reducible refine wpAny_isSubtype_exc hC2 ?_; rw [inC]) | wp_step)
  show wpAny _ _ (typeLookup (.ref C) _) _ _ _
  refine i2.at ?_
  refine wpAny_holding (wpAny_bind (b2.at ?_))
  refine wpAny_bind (wpAny_call (codeAny_mono hq fun r s' z => ?_))
  rcases r with e | (v | _ | _ | _) <;> first | exact z | exact z.elim | skip
  obtain ⟨rfl, z⟩ := z
  first
    | exact wpAny_pure (wpAny_pure z)
    | (wp_walk; exact z)
theorem call_cls (F : ExcBaseFacts B newId initId bmB) (L : Line B bm) {rest : List Value} {kw : List (Str × Value)} {fI : Addr}
    (hC : h.get? C = some (excClassObj nm q C N bs bm hdct sn sub ab col dd k0 k1 k2 k3 k5 newId))
    (hi : W.Looks (model prog w) h (typeLookup (.ref C) "__init__") (some (.ref fI))) (hb : ∀ self, W.Looks (model prog w) h (bindSpecial (.ref fI) self) (.ref fI, [self])) (hrest : rest.length ≤ sizeLine)
    (hq : codeAny (model prog w) (A.under (.builtin "type.__call__" ⟨.ref C :: rest, kw⟩)) (.call (.ref fI) ⟨.ref (h.objs.size + 1) :: rest, kw⟩) (W.InitBack (h.objs.size + 1) R)
      ⟨(h.push (W.kdv_tup rest)).push (HandSPX.excO C h.objs.size), g, d, t, os⟩) :
    codeAny (model prog w) A (.call (.ref C) ⟨rest, kw⟩) R ⟨h, g, d, t, os⟩ := by
  have f1 := tc_lookup
  have f2 := tc_bind (.ref C)
  have hTy : (⟨h, g, d, t, os⟩ : Shared).TypeIs (.ref C) "type" := ⟨_, hC, rfl⟩
  refine codeAny_of_tree ?_
  show wpAny _ _ (callAny (.ref C) _) _ _ _
  repeat (any_goals (first | assumption | with_reducible refine wpAny_loadPart_at hC ?_ | wp_step))
  refine ⟨rfl, ?_⟩
  refine codeAny_call_builtin_at (Code.quiet_builtin _ (by decide +kernel)) entry_typeCall (wpAny_check_type_call_sub hC (call_type F L hC hi hb hrest ?_))
  refine codeAny_mono hq fun r s' z => ?_
  rcases r with e | (v | _ | _ | _) <;> exact z
end
end Cor

set_option Elab.async false
set_option linter.all false
set_option maxRecDepth 100000
set_option maxHeartbeats 4000000
namespace Cor
open PySem PySem.Spec PyProof.Rows L2

/-! ### bases -/
structure IniF (Bi initId : String) : Prop where
  plain : plainId initId = true
  entry : entryFor table initId = some Builtin.«BaseException.__init__»
  split : splitId initId = some (Bi, "__init__")
  kind : builtinKind initId = some .slot
  row : Manifest.signature? initId = some ⟨.positional, "*", Bi, .self, [⟨"args", .varPos, false⟩]⟩
  star : (Bi != "*") = true
theorem IniF.of {B n i : String} (F : ExcCallFacts B n i) : IniF B i := ⟨F.init.plain, F.initEntry, F.initSplit, F.initKind, F.initRow, F.noStar⟩
theorem ini_key : IniF "KeyError" "KeyError.__init__" where
  plain := by decide +kernel
  entry := entryFor_alias (id' := "BaseException.__init__") (by rw [fastTable_eq_tree]; kernel_rfl) (by first | rfl | decide +kernel) (by decide +kernel) (by rw [fastTable_eq_tree]; kernel_rfl)
  split := by kernel_rfl
  kind := by kernel_rfl
  row := by kernel_rfl
  star := by decide +kernel

/-- a line of bases without the program's own classes in front -/
def strip : List Value → List Value
  | .ref _ :: r => strip r
  | l => l
theorem strip_cont (Y : String) : ∀ l : List Value, l.contains (.type Y) = (strip l).contains (.type Y)
  | [] => rfl
  | v :: r => by
    cases v with
    | ref c =>
      rw [List.contains_cons]
      show ((Value.type Y == Value.ref c) || r.contains (.type Y)) = (strip r).contains (.type Y)
      rw [← strip_cont Y r]
      rfl
    | _ => rfl
theorem strip_pass (self : Value) (n : Str) : ∀ l : List Value, refuseLoop self n (strip l) = pure () → refuseLoop self n l = pure ()
  | [], h => h
  | v :: r, h => by
    cases v with
    | ref c =>
      rw [refuseLoop_ref]
      exact strip_pass self n r h
    | _ => exact h
/-- what a tail of built-in bases must say -/
structure Bas (Bn newId Bi initId : String) (tl : List Value) : Prop where
  nw : ∃ i bmB, ExcBaseFacts Bn newId i bmB
  ini : IniF Bi initId
  line : Line Bn tl
  hasI : tl.contains (.type Bi) = true
  ob : tl.contains (.type "object") = true
  pass : ∀ self, refuseLoop self "__setattr__" tl = pure ()
theorem bas_value : Bas "ValueError" "ValueError.__new__" "ValueError" "ValueError.__init__" [.type "ValueError", .type "Exception", .type "BaseException", .type "object"] :=
  ⟨⟨_, _, F.excBase_ValueError⟩, .of F.excBase_ValueError.toExcCallFacts, ⟨by decide +kernel, by decide +kernel, by decide +kernel⟩, by decide +kernel, by decide +kernel, F.store_ValueError.passes⟩
theorem bas_lookup : Bas "LookupError" "LookupError.__new__" "LookupError" "LookupError.__init__" [.type "LookupError", .type "Exception", .type "BaseException", .type "object"] :=
  ⟨⟨_, _, F.excBase_LookupError⟩, .of F.excBase_LookupError.toExcCallFacts, ⟨by decide +kernel, by decide +kernel, by decide +kernel⟩, by decide +kernel, by decide +kernel, F.store_LookupError.passes⟩
theorem bas_index : Bas "IndexError" "IndexError.__new__" "IndexError" "IndexError.__init__" [.type "IndexError", .type "LookupError", .type "Exception", .type "BaseException", .type "object"] :=
  ⟨⟨_, _, F.excBase_IndexError⟩, .of F.excBase_IndexError.toExcCallFacts, ⟨by decide +kernel, by decide +kernel, by decide +kernel⟩, by decide +kernel, by decide +kernel, F.store_IndexError.passes⟩
theorem bas_key : Bas "LookupError" "LookupError.__new__" "KeyError" "KeyError.__init__" [.type "KeyError", .type "LookupError", .type "Exception", .type "BaseException", .type "object"] :=
  ⟨⟨_, _, F.excBase_LookupError⟩, ini_key, ⟨by decide +kernel, by decide +kernel, by decide +kernel⟩, by decide +kernel, by decide +kernel, fun self => by kernel_rfl⟩
theorem bas_arith : Bas "ArithmeticError" "ArithmeticError.__new__" "ArithmeticError" "ArithmeticError.__init__" [.type "ArithmeticError", .type "Exception", .type "BaseException", .type "object"] :=
  ⟨⟨_, _, F.excBase_ArithmeticError⟩, .of F.excBase_ArithmeticError.toExcCallFacts, ⟨by decide +kernel, by decide +kernel, by decide +kernel⟩, by decide +kernel, by decide +kernel, F.store_ArithmeticError.passes⟩

/-- C is an exception class of the program -/
structure Exn (K : PySem.W.Frag) (C : Addr) (newId initId : String) : Prop where
  cls : ∃ Bn Bi nm q N bs bm sn sub ab col dd k0 k1 k2 k3 k5, Bas Bn newId Bi initId (strip bm) ∧ K.lookup C = some (excClassObj nm q C N bs bm true sn sub ab col dd k0 k1 k2 k3 k5 newId)
  sa : PySem.W.findIn K (.ref C) "__setattr__" = some (some (.builtin "object.__setattr__"))
  exC : PySem.W.subIn K (.ref C) (.type "BaseException") = some true
  tyC : PySem.W.typeIn K (.ref C) = some (.type "type")
  kC : PySem.W.keepIn K (.ref C) = true
  ga : PySem.W.findIn K (.ref C) "__getattribute__" = some (some (.builtin "BaseException.__getattribute__"))
  gg : PySem.W.findIn K (.ref C) "__getattr__" = some none
  hd : PySem.W.hasDictIn K C = true
  ca : PySem.W.findIn K (.ref C) "__class__" = some (some (.builtin "object.__class__"))
  mr : PySem.W.mroIn K C (.type "object") = some true
  cn : PySem.W.specialIn K (.builtin "object.__class__") "__get__" = some (some (.builtin "getset_descriptor.__get__"))
  ct : PySem.W.takesIn K (.builtin "object.__class__") = some true
/-- the written part's share of it, as one question -/
def exnB (K : PySem.W.Frag) (C : Addr) : Bool :=
  (PySem.W.findIn K (.ref C) "__setattr__" == some (some (.builtin "object.__setattr__"))) && ((PySem.W.subIn K (.ref C) (.type "BaseException") == some true) && ((PySem.W.typeIn K (.ref C) == some (.type "type")) && (PySem.W.keepIn K (.ref C) &&
  ((PySem.W.findIn K (.ref C) "__getattribute__" == some (some (.builtin "BaseException.__getattribute__"))) && ((PySem.W.findIn K (.ref C) "__getattr__" == some none) && (PySem.W.hasDictIn K C &&
  ((PySem.W.findIn K (.ref C) "__class__" == some (some (.builtin "object.__class__"))) && ((PySem.W.mroIn K C (.type "object") == some true) &&
  ((PySem.W.specialIn K (.builtin "object.__class__") "__get__" == some (some (.builtin "getset_descriptor.__get__"))) && (PySem.W.takesIn K (.builtin "object.__class__") == some true))))))))))
theorem exn_mk {K : PySem.W.Frag} {C : Addr} {newId initId : String} {Bn Bi : String} {nm q : Str} {N : Addr} {bs bm : List Value} {sn : List Str} {sub : List Value} {ab : Bool} {col : Option Bool} {dd : Option Addr} {k0 k1 k2 k3 k5 : Option Value} {tl : List Value}
    (b : Bas Bn newId Bi initId tl) (l : K.lookup C = some (excClassObj nm q C N bs bm true sn sub ab col dd k0 k1 k2 k3 k5 newId)) (s : strip bm = tl) (h : exnB K C = true) : Exn K C newId initId := by
  unfold exnB at h
  simp only [Bool.and_eq_true, beq_iff_eq] at h
  obtain ⟨h1, h2, h3, h4, h5, h6, h7, h8, h9, h10, h11⟩ := h
  subst s
  exact ⟨⟨_, _, _, _, _, _, _, _, _, _, _, _, _, _, _, _, _, b, l⟩, h1, h2, h3, h4, h5, h6, h7, h8, h9, h10, h11⟩

/-! ### the first field of an exception -/
section
variable {prog : Program} {w : World} {A : Around} {E : Value → Shared → Prop} {R : Result → Shared → Prop} {hp : Heap} {g : Array GenState} {d : Drawn} {t : Nat} {os : OsState}
theorem first_field {K : W.Frag} {name : Str} {tk : Tok} {v : Value} {x C : Addr} {fv : Array Value} {cd : ClassData}
    (X : K.In hp) (hx : hp.get? x = some { cls := .ref C, data := .fields fv }) (hcd : W.clsIn K C = some cd) (hob : cd.mro.contains (.type "object") = true) (hps : ∀ self, refuseLoop self "__setattr__" cd.mro = pure ())
    (hh : cd.hasDict = true) (ha : W.findIn K (.ref C) name = some none)
    (hq : ∀ h' tk' dx, (∀ b o, b ≠ x → hp.get? b = some o → h'.get? b = some o) → hp.objs.size ≤ dx → dx ≠ x → h'.get? x = some { cls := .ref C, dict := some dx, data := .fields fv } →
      h'.Ns1 dx (fun y => if y = name then some v else none) → R (.ok (.ret .none)) ⟨h', g, d, tk', os⟩) :
    codeAny (model prog w) A (.call (.builtin "object.__setattr__") ⟨[.ref x, .str name tk, v], []⟩) R ⟨hp, g, d, t, os⟩ := by
  have I : W.InstAt hp x { cls := .ref C, data := .fields fv } C none := ⟨hx, rfl, rfl, trivial⟩
  have SF := F.store_object
  have ne : cd.mro.isEmpty = false := by
    cases e : cd.mro with
    | nil => rw [e] at hob; cases hob
    | cons _ _ => rfl
  have xs : x ≠ hp.objs.size := Nat.ne_of_lt (Heap.lt_size hx)
  have isO : W.Looks (model prog w) hp (isInstance (.ref x) (.type "object")) true := I.type.andThen (W.looks_mroIn X (by unfold W.mroIn; rw [hcd, Option.bind_some, if_neg (by rw [ne]; decide), hob]))
  refine codeAny_call_builtin SF.slot.plain SF.entry (@W.check_slot (model prog w) _ _ ⟨hp, g, d, t, os⟩ "object.__setattr__" "object" "__setattr__" (.ref x) [.str name tk, v] [] _ SF.kind SF.split isO (SF.args (.ref x) (.str name tk) v) ?_)
  have lm : W.Looks (model prog w) hp (mroOf (.ref C)) cd.mro := (W.looks_clsIn X hcd).andThen .now
  have l0 : W.Looks (model prog w) hp (Builtin.ObjectAttr.storeTaker? none) none := .now
  have lc : W.Looks (model prog w) hp (classData C) cd := W.looks_clsIn X hcd
  rw [W.osa_eq, refuse_eq]
  refine wpAny_bind (wpAny_bind (I.type.at (wpAny_bind (lm.at ?_))))
  rw [hps]
  refine wpAny_pure (wpAny_bind (I.type.at (wpAny_bind ((W.looks_findIn X ha).at (wpAny_bind (l0.at ?_))))))
  show wpAny _ _ (Builtin.ObjectAttr.storeInOwnDict (.ref x) (.ref C) (.str name tk) name v false) _ _ _
  obtain ⟨nm, bs, mro, ns, qn, hd, sn, sb, ab, col, del⟩ := cd
  dsimp only at hh
  subst hh
  unfold Builtin.ObjectAttr.storeInOwnDict Builtin.ObjectAttr.ownDictForStores
  repeat (first | with_reducible refine HandSPX.store_in_new ?_ ?_ | with_reducible refine wpAny_loadPart_at hx ?_ | with_reducible refine lc.at ?_ | wp_step)
  · exact ⟨_, #[], _, (Heap.get?_update_ne _ _ _ _ xs.symm).trans (Heap.get?_push_at rfl rfl), rfl, fun e he => absurd he (by simp), fun _ => rfl⟩
  · intro h' tk' hn' hs
    have hx2 : (hp.push { cls := .type "dict", data := .dict #[] }).get? x = some { cls := .ref C, data := .fields fv } := Heap.get?_push_of_some _ hx
    refine hq h' tk' hp.objs.size (fun b o hb ho => ?_) (Nat.le_refl _) xs.symm ?_ hn'
    · exact (hs.2 b (Nat.ne_of_lt (Heap.lt_size ho))).trans ((Heap.get?_update_ne _ _ _ _ hb).trans (Heap.get?_push_of_some _ ho))
    · exact (hs.2 x xs).trans (Heap.get?_update_self _ hx2 rfl)
variable {nm q : Str} {C N : Addr} {bs bm : List Value} {hdct : Bool} {sn : List Str} {sub : List Value} {ab : Bool} {col : Option Bool} {dd : Option Addr} {k0 k1 k2 k3 k5 : Option Value} {newId : String}
theorem init_run {Bi initId : String} (F : IniF Bi initId) (hI : bm.contains (.type Bi) = true) {e t0 : Addr} {rest : List Value}
    (hC : hp.get? C = some (excClassObj nm q C N bs bm hdct sn sub ab col dd k0 k1 k2 k3 k5 newId)) (he : hp.get? e = some (HandSPX.excO C t0)) (hrest : rest.length ≤ sizeLine)
    (hq : ∀ h' t1, (∀ b o, b ≠ e → hp.get? b = some o → h'.get? b = some o) → h'.get? e = some (HandSPX.excO C t1) → R (.ok (.ret .none)) ⟨h', g, d, t, os⟩) :
    codeAny (model prog w) A (.call (.builtin initId) ⟨.ref e :: rest, []⟩) R ⟨hp, g, d, t, os⟩ := by
  refine codeAny_call_builtin F.plain F.entry ?_
  have inB : (Value.ref C :: bm).contains (.type Bi) = true := by rw [List.contains_cons, hI, Bool.or_true]
  have short := F.star
  simp only [checkBuiltinCall, F.kind, F.split, F.row]
  repeat (first | (with_reducible refine wpAny_loadPart_at he ?_) | with_reducible refine wpAny_loadPart_at hC ?_ | (with_reducible refine wpAny_isSubtype_exc hC ?_; rw [inB]) | wp_step)
  refine wpAny_onRaise ?_
  rw [show ∀ (a b : String) (n : Nat), Bind.check ⟨.positional, "*", Bi, .self, [⟨"args", .varPos, false⟩]⟩ a b n (List.map (fun x => x.fst) ({ pos := Value.ref e :: rest } : Args).kw) = pure () from
    fun a b n => check_star_args _ _ _ _ _ _]
  refine wpAny_pure ?_
  wp_walk
  refine hq _ hp.objs.size (fun b o hb ho => ?_) ?_
  · rw [Heap.get?_update_other _ _ (Ne.symm hb)]
    exact Heap.get?_push_of_some _ ho
  · rw [Heap.get?_update_self _ (Heap.get?_push_of_some _ he) rfl]
    rfl
end
end Cor

set_option Elab.async false
set_option linter.all false
set_option maxRecDepth 100000
set_option maxHeartbeats 400000
namespace Cor
open PySem PySem.Spec PyProof.Rows L2

section
variable {X : Cx} {pins : List (Addr × Obj)} {σ : L2.St} {H : Hp} {s : Shared} {a C : Addr} {f : Str} {y : V} {u : Value} {E : Value → Shared → Prop} {A : Around} {newId initId : String}
theorem cls_in (T : Exn X.K C newId initId) : ∃ Bn Bi cd bm, Bas Bn newId Bi initId (strip bm) ∧ PySem.W.clsIn X.K C = some cd ∧ cd.mro = .ref C :: bm ∧ cd.hasDict = true := by
  obtain ⟨Bn, Bi, nm, q, N, bs, bm, sn, sub, ab, col, dd, k0, k1, k2, k3, k5, b, l⟩ := T.cls
  refine ⟨Bn, Bi, { name := nm, bases := bs, mro := .ref C :: bm, ns := N, qualname := q, hasDict := true, slotNames := sn, subclasses := sub, abstract := ab, collection := col, hasDel := false }, bm, b, ?_, rfl, rfl⟩
  unfold PySem.W.clsIn
  rw [l] <;> rfl
/-- self.f = y on an exception that has no dict yet -/
theorem fld_new {Q : Unit → Shared → Prop} (T : Exn X.K C newId initId) (I : Inv X pins σ H s) (ea : H a = some (exo a C none)) (hno : PySem.W.findIn X.K (.ref C) f = some none) (ry : RelV y u)
    (h : ∀ dx s', H dx = none → dx ≠ a → Inv X pins σ (upd (upd H dx (exd dx [(f, y)])) a (exo a C (some dx))) s' → Q () s') : wpAny (model X.prog X.w) A (setAttr (.ref a) f u) Q E s := by
  obtain ⟨Bn, Bi, cd, bm, bas, hcl, hmro, hdict⟩ := cls_in T
  obtain ⟨t1, ho⟩ := exo_at I.hok ea
  obtain ⟨hp, g, d, t, os⟩ := s
  refine PySem.W.set_plain I.kIn (ox := { cls := .ref C, dict := none, data := .fields #[.ref t1, .none, .none, .none, .bool false, .none] }) (od := none) ⟨ho, rfl, rfl, trivial⟩ T.sa ?_
  refine first_field I.kIn ho hcl (by rw [hmro, List.contains_cons, strip_cont, bas.ob, Bool.or_true]) (fun self => by rw [hmro, refuseLoop_ref]; exact strip_pass _ _ _ (bas.pass self)) hdict hno (fun h' tk' dx k dn dne hx hn => ?_)
  have free : H dx = none := I.hok.fresh dn
  have nd : ∀ {b : Addr} {o : Obj}, hp.get? b = some o → b ≠ dx := fun {b o} z => Nat.ne_of_lt (Nat.lt_of_lt_of_le (Heap.lt_size z) dn)
  have na : ∀ {b : Addr}, H b = none → b ≠ a := fun {b} n z => by
    rw [z, ea] at n
    cases n
  have U : Un X.fs [] H (upd (upd H dx (exd dx [(f, y)])) a (exo a C (some dx))) hp h' := {
    keep := fun b o z n _ _ => k b o (na n) z
    slot := fun b o z n _ _ => ⟨o.slots, k b o (na n) z⟩
    free := fun b o z n _ => by rw [upd_ne (na n), upd_ne (nd z)]; exact n
    there := fun b o z _ => by
      by_cases hb : b = a
      · exact ⟨_, by rw [hb]; exact hx⟩
      · exact ⟨o, k b o hb z⟩
    tups := fun b xs z => by rw [upd_ne (at_ne ea z exo_tup), upd_ne (ne_of_none z free)]; exact z
    frzs := fun b o v z => by rw [upd_ne (at_ne ea z exo_frz), upd_ne (ne_of_none z free)]; exact z
    tbls := fun b ps z => ⟨#[], by rw [upd_ne (at_ne ea z exo_tbl), upd_ne (ne_of_none z free), z]; simp⟩ }
  refine h dx _ free dne (I.un (t' := tk') U fun b o z => ?_)
  by_cases hb : b = a
  · subst hb
    rw [upd_same] at z
    cases z
    exact exo_ok hx
  · rw [upd_ne hb] at z
    by_cases hd : b = dx
    · subst hd
      rw [upd_same] at z
      cases z
      exact exd_ok hn (relO_put (fs := []) ry fun g => True.intro)
    · rw [upd_ne hd] at z
      refine (I.hok b o z).stay (fun c v hc z' => k c v ?_ z') (fun c hc => ?_) (fun c xs hc => ?_)
      · rcases hc with hc | hc
        · rw [hc]
          exact hb
        · exact at_ne ea hc exo_own
      · rw [upd_ne (at_ne ea hc exo_own), upd_ne (ne_of_none hc free)]
        exact hc
      · rw [upd_ne (at_ne ea hc exo_tup), upd_ne (ne_of_none hc free)]
        exact hc
/-- B.__init__(self, ..) -/
theorem ini_ok {us : List Value} {Q : Value → Shared → Prop} (T : Exn X.K C newId initId) (I : Inv X pins σ H s) (ea : H a = some (exo a C none)) (hl : us.length ≤ sizeLine) (h : ∀ s', Inv X pins σ H s' → Q .none s') :
    wpAny (model X.prog X.w) A (call (.builtin initId) (.ref a :: us)) Q E s := by
  obtain ⟨Bn, Bi, nm, q, N, bs, bm, sn, sub, ab, col, dd, k0, k1, k2, k3, k5, b, l⟩ := T.cls
  obtain ⟨t1, ho⟩ := exo_at I.hok ea
  obtain ⟨hp, g, d, t, os⟩ := s
  refine wpAny_call (init_run b.ini (by rw [strip_cont]; exact b.hasI) (I.kIn _ _ l) ho hl fun h' t2 k hx => ?_)
  have J := I.write (t' := t) (x := a) (e := a) (o := exo a C none) (by rw [ea]; exact True.intro) (.inl rfl) k ⟨_, hx⟩ (exo_ok hx)
  have same : upd H a (exo a C none) = H := by
    funext b
    by_cases hb : b = a
    · rw [hb, upd_same, ea]
    · rw [upd_ne hb]
  rw [same] at J
  exact h _ J
end

/-! ### readings -/
def tIni (K : PySem.W.Frag) (initId : String) (ta : TA) : TE := fun σ H Q => ta σ H fun vs H1 => ∃ (a C : Addr) (newId : String) (ws : List V), vs = .ref a :: ws ∧ ws.length ≤ 1000 ∧ Exn K C newId initId ∧ H1 a = some (exo a C none) ∧ Q .non H1
/-- self.f = e, the first field -/
def tFld1 (K : PySem.W.Frag) (f : Str) (to te : TE) : TS := fun D σ H => te σ H fun y H1 => to σ H1 fun x H2 => ∃ (a C : Addr) (newId initId : String), x = .ref a ∧ Exn K C newId initId ∧ PySem.W.findIn K (.ref C) f = some none ∧
  H2 a = some (exo a C none) ∧ ∀ dx, H2 dx = none → dx ≠ a → D.nx σ (upd (upd H2 dx (exd dx [(f, y)])) a (exo a C (some dx)))
/-- C(e, ..) as a value -/
def tExn (C : Addr) (sp : Sp) (ta : TA) : TE := fun σ H Q => ta σ H fun vs H1 => vs.length ≤ 1000 ∧ ∀ a, H1 a = none → sp (.ref a :: vs) (upd H1 a (exo a C none)) (fun v H2 => v = .non ∧ Q (.ref a) H2) (fun _ _ _ => False)
section
variable {X : Cx} {o e : Expr} {es : List Expr} {to te : TE} {ta tk : TA} {f x : Str} {p p' p1 p2 pos : Pos} {newId initId : String}
theorem ini_end {pins : List (Addr × Obj)} {σ : L2.St} {Q : VK} {H : Hp} {us : List Value} {vs : List V} {s : Shared} (I : Inv X pins σ H s) (r : Vals vs us)
    (h : ∃ (a C : Addr) (newId : String) (ws : List V), vs = .ref a :: ws ∧ ws.length ≤ 1000 ∧ Exn X.K C newId initId ∧ H a = some (exo a C none) ∧ Q .non H) :
    wpAny (model X.prog X.w) X.A (call (.builtin initId) us) (EP X pins σ Q) X.xe s := by
  obtain ⟨a, C, newId, ws, ev, hl, T, ea, q⟩ := h
  subst ev
  cases r with
  | @cons _ u0 _ ur ra rr =>
    obtain rfl : u0 = Value.ref a := ra
    have hlen : ur.length ≤ sizeLine := by
      rw [← Paired.length rr, sizeLine_eq]
      omega
    exact ini_ok T I ea hlen fun s' J => ⟨.non, H, J, rfl, q⟩
/-- S.__init__(self, ..), S an own class -/
theorem pe_iniO {pl : Sem Bool} {S : Addr} {mc : Value} (hg : Gl X x) (hm : X.mg x = some (.ref S)) (rd : ClX.CRead X.K S mc) (vS : PySem.W.findCls X.K (.ref S) mc "__init__" = some (.val (.builtin initId))) (ha : PA X (e :: es) ta)
    (hdb : (x == ("__debug__" : Str)) = false := by decide) (hh : PySem.W.handedIn (.builtin initId) = true := by decide +kernel)
    (hc : eval (.Call (.Attribute (.Name x p1) "__init__" p2) (e :: es) [] pos) X.env = (do
      let ov ← eval (.Name x p1) X.env
      standAt p2.atName
      let (f, first) ← holding [ov] (getMethod ov "__init__" pl)
      callWith pos f first (backTo pos (starEach (e :: es) X.env)) (backToKw pos (keywordEach [] X.env))) := by rfl)
    (he : starEach (e :: es) X.env = (false, eval e X.env) :: starEach es X.env := by rfl) (hpl : (backTo pos (starEach es X.env)).any (·.1) = false := by rfl) :
    PE X (.Call (.Attribute (.Name x p1) "__init__" p2) (e :: es) [] pos) (tIni X.K initId ta) := by
  refine ⟨fun pins s σ H Q I h => ?_⟩
  refine PySem.W.methodCall_KW (ld_glob I hg hm ?_ hdb) hc
  refine PySem.W.method_cls I.kIn rd.ga (PySem.W.cls_value I.kIn rd.rd vS hh ?_)
  refine PyProof.Rows.callWith_method1 (thn (ha.run pos pins _ σ H _ (I.tok _) h) fun us s1 ⟨vs, H1, I1, r1, q⟩ => ?_) he hpl
  exact ini_end I1 r1 q
/-- T.__init__(self, ..), T a built-in class -/
theorem pe_iniT {pl : Sem Bool} {T : String} (hg : Gl X x) (hm : X.mg x = none) (hv : bootBuiltins x = some (.type T)) (ty : typeOf (.type T) = pure (.type "type")) (st : Manifest.isStub T = false)
    (vT : PySem.W.findCls X.K (.type T) (.type "type") "__init__" = some (.val (.builtin initId))) (ha : PA X (e :: es) ta) (hn : x ≠ "__name__" := by decide) (hdb : (x == ("__debug__" : Str)) = false := by decide) (hh : PySem.W.handedIn (.builtin initId) = true := by decide +kernel)
    (hc : eval (.Call (.Attribute (.Name x p1) "__init__" p2) (e :: es) [] pos) X.env = (do
      let ov ← eval (.Name x p1) X.env
      standAt p2.atName
      let (f, first) ← holding [ov] (getMethod ov "__init__" pl)
      callWith pos f first (backTo pos (starEach (e :: es) X.env)) (backToKw pos (keywordEach [] X.env))) := by rfl)
    (he : starEach (e :: es) X.env = (false, eval e X.env) :: starEach es X.env := by rfl) (hpl : (backTo pos (starEach es X.env)).any (·.1) = false := by rfl) :
    PE X (.Call (.Attribute (.Name x p1) "__init__" p2) (e :: es) [] pos) (tIni X.K initId ta) := by
  refine ⟨fun pins s σ H Q I h => ?_⟩
  refine PySem.W.methodCall_KW (ld_blt I hg hm hv ?_ hn hdb) hc
  obtain ⟨m, fr⟩ := I.fr
  refine PySem.W.method_type fr I.ok.mod.kin ty st vT hh ?_
  refine PyProof.Rows.callWith_method1 (thn (ha.run pos pins _ σ H _ (I.tok _) h) fun us s1 ⟨vs, H1, I1, r1, q⟩ => ?_) he hpl
  exact ini_end I1 r1 q
theorem ps_fld1 (ho : PE X o to) (he : PE X e te) (hs : swapsWith e (some (.Attribute o f p')) pos.line X.env = pure false := by rfl) : PS X (.Assign [.Attribute o f p'] e pos) (tFld1 X.K f to te) := by
  refine ⟨fun pins s σ H D I h => ?_⟩
  refine plainObj_wpAny_Assign_Attribute (thn (he.run pins s σ H _ I h) fun v s1 ⟨y, H1, I1, r1, q1⟩ => thn (ho.run pins s1 σ H1 _ I1 q1) fun u s2 ⟨x, H2, I2, r2, a, C, n, i, ex, T, hno, ea, q⟩ => ?_) hs
  subst ex
  obtain rfl : u = Value.ref a := r2
  exact fld_new T I2 ea hno r1 fun dx s' n ne J => ⟨σ, _, J, q dx n ne⟩

/-- the class is called -/
theorem run_exn {CX : CXT} {C fI : Addr} {k : Nat} {fd : FuncData} {ps : List Str} {sp : Sp} {pins : List (Addr × Obj)} {σ : L2.St} {Q : VK} {H1 : Hp} {us : List Value} {kw : List (Str × Value)} {vs : List V} {ws : List Value} {s1 : Shared}
    (T : Exn X.K C newId initId) (iC : PySem.W.findIn X.K (.ref C) "__init__" = some (some (.ref fI))) (tI : PySem.W.typeIn X.K (.ref fI) = some (.type "function"))
    (F1 : FnOk X.prog X.w X.K X.mg X.base CX k fI fd ps sp) (hr : Room (k + 1) X.A) (hx : Passes CX X (fun _ _ _ => False)) (I1 : Inv X pins σ H1 s1) (hus : us.length ≤ sizeLine) (r1 : Vals vs ws)
    (hb : ∀ (s : Shared) (a : Addr), X.K.In s.heap → BindsTo s fd ⟨.ref a :: us, kw⟩ (ps.zip (.ref a :: ws)))
    (h : ∀ a, H1 a = none → sp (.ref a :: vs) (upd H1 a (exo a C none)) (fun v H2 => v = .non ∧ Q (.ref a) H2) (fun _ _ _ => False)) :
    wpAny (model X.prog X.w) X.A (call (.ref C) us kw) (EP X pins σ Q) X.xe s1 := by
  obtain ⟨Bn, Bi, nm, q, N, bs, bm, sn, sub, ab, col, dd, k0, k1, k2, k3, k5, b, l⟩ := T.cls
  obtain ⟨i0, bmB, NF⟩ := b.nw
  have L : Line Bn bm := ⟨by rw [strip_cont]; exact b.line.has, by rw [strip_cont]; exact b.line.noA, by rw [strip_cont]; exact b.line.noN⟩
  obtain ⟨hp, g, dr, tk, os⟩ := s1
  have hsz : hp.objs.size ≤ hp.objs.size + 1 := Nat.le_succ _
  have hn : H1 (hp.objs.size + 1) = none := I1.hok.fresh hsz
  have hq := h (hp.objs.size + 1) hn
  have kk : ∀ b o, hp.get? b = some o → ((hp.push (PySem.W.kdv_tup us)).push (HandSPX.excO C hp.objs.size)).get? b = some o := fun b o e => Heap.get?_push_of_some _ (Heap.get?_push_of_some _ e)
  have hget : ((hp.push (PySem.W.kdv_tup us)).push (HandSPX.excO C hp.objs.size)).get? (hp.objs.size + 1) = some (HandSPX.excO C hp.objs.size) := by heap_get
  have I2 : Inv X pins σ (upd H1 (hp.objs.size + 1) (exo (hp.objs.size + 1) C none)) ⟨(hp.push (PySem.W.kdv_tup us)).push (HandSPX.excO C hp.objs.size), g, dr, tk, os⟩ :=
    I1.laid (t' := tk) (a := hp.objs.size + 1) (o := exo (hp.objs.size + 1) C none) (h' := (hp.push (PySem.W.kdv_tup us)).push (HandSPX.excO C hp.objs.size)) kk hsz (exo_ok hget)
  have r2 : Vals (V.ref (hp.objs.size + 1) :: vs) (Value.ref (hp.objs.size + 1) :: ws) := .cons rfl r1
  refine wpAny_call (call_cls NF L (I1.kIn _ _ l) (PySem.W.looks_findIn I1.kIn iC) (fun self => PySem.W.bind_fn I1.kIn self tI) hus ?_)
  refine codeAny_mono (F1.run _ X.stack _ _ ⟨Value.ref (hp.objs.size + 1) :: us, kw⟩ (Value.ref (hp.objs.size + 1) :: ws) _ _ (fun _ _ _ => False) (hr.make C us kw) (I2.env0.make C us kw) (hb _ _ I2.kIn) r2 hq) fun r s' hq' => ?_
  cases r with
  | error er => exact hx pins σ _ _ er s' I2 hq'
  | ok fl =>
    cases fl with
    | ret u =>
      obtain ⟨v, H2, J, rv, ev, q2⟩ := I2.after hq'
      subst ev
      have e0 : u = Value.none := rv
      exact ⟨e0, V.ref (hp.objs.size + 1), H2, J, rfl, q2⟩
    | next => exact False.elim hq'
    | brk => exact False.elim hq'
    | cont => exact False.elim hq'
/-- C(e, ..) -/
theorem pe_exn {CX : CXT} {C fI : Addr} {k : Nat} {fd : FuncData} {ps : List Str} {sp : Sp} (T : Exn X.K C newId initId) (iC : PySem.W.findIn X.K (.ref C) "__init__" = some (some (.ref fI))) (tI : PySem.W.typeIn X.K (.ref fI) = some (.type "function"))
    (F1 : FnOk X.prog X.w X.K X.mg X.base CX k fI fd ps sp) (hr : Room (k + 1) X.A) (hb : Binds X.K fd ps []) (hx : Passes CX X (fun _ _ _ => False)) (hg : Gl X x) (hm : X.mg x = some (.ref C)) (ha : PA X (e :: es) ta)
    (hdb : (x == ("__debug__" : Str)) = false := by decide) (he : starEach (e :: es) X.env = (false, eval e X.env) :: starEach es X.env := by rfl) (hpl : (backTo pos (starEach es X.env)).any (·.1) = false := by rfl) :
    PE X (.Call (.Name x p) (e :: es) [] pos) (tExn C sp ta) := by
  refine ⟨fun pins s σ H Q I h => ?_⟩
  refine wpAny_Call_Name_kw (ld_glob I hg hm ?_ hdb)
  refine PySem.W.callWith_K (h₀ := X.base) I.ok.mod.kin T.kC (thn (ha.run pos pins s σ H _ I h) fun us s1 ⟨vs, H1, I1, r1, hz, q1⟩ => ⟨I1.kIn, ?_⟩) he hpl
  have hus : us.length ≤ sizeLine := by
    rw [← Paired.length r1, sizeLine_eq]
    omega
  have hlen : vs.length + 1 = ps.length := by
    have z := F1.len _ _ _ _ (q1 s1.heap.objs.size (I1.hok.fresh (Nat.le_refl _)))
    exact z
  refine run_exn (us := us) (ws := us) (kw := []) T iC tI F1 hr hx I1 hus r1 (fun s a hs => ?_) q1
  have z := hb s (.ref a :: us) hs (by rw [List.append_nil, List.length_cons, ← Paired.length r1]; exact hlen)
  rw [List.append_nil] at z
  exact z
/-- C(k = e) -/
theorem pe_exnK {CX : CXT} {C fI : Addr} {k : Nat} {fd : FuncData} {ps : List Str} {ky : Str} {kpos : Pos} {sp : Sp} (T : Exn X.K C newId initId) (iC : PySem.W.findIn X.K (.ref C) "__init__" = some (some (.ref fI))) (tI : PySem.W.typeIn X.K (.ref fI) = some (.type "function"))
    (F1 : FnOk X.prog X.w X.K X.mg X.base CX k fI fd ps sp) (hr : Room (k + 1) X.A) (hb : ∀ (s : Shared) (a : Addr) (u : Value), X.K.In s.heap → BindsTo s fd ⟨[.ref a], [(ky, u)]⟩ (ps.zip [.ref a, u])) (hx : Passes CX X (fun _ _ _ => False)) (hg : Gl X x) (hm : X.mg x = some (.ref C))
    (ha : PK X [⟨some ky, e, kpos⟩] ta)
    (hdb : (x == ("__debug__" : Str)) = false := by decide)
    (hall : (backToKw pos (keywordEach [⟨some ky, e, kpos⟩] X.env)).all (·.1.isSome) = true := by rfl) (hks : (backToKw pos (keywordEach [⟨some ky, e, kpos⟩] X.env)).filterMap (·.1) = [ky] := by rfl)
    (hpl : ((backTo pos (starEach [] X.env)).any (·.1) || (backToKw pos (keywordEach [⟨some ky, e, kpos⟩] X.env)).any (·.1.isNone)) = false := by rfl) :
    PE X (.Call (.Name x p) [] [⟨some ky, e, kpos⟩] pos) (fun σ H Q => ta σ H fun vs H1 => vs.length = 1 ∧ tExn C sp (fun _ H Q => Q vs H) σ H1 Q) := by
  refine ⟨fun pins s σ H Q I h => ?_⟩
  refine wpAny_Call_Name_kw (ld_glob I hg hm ?_ hdb)
  refine PySem.W.callWith_KW0 (h₀ := X.base) I.ok.mod.kin T.kC hall ?_ hpl
  refine thn (ha.run pos pins s σ H _ I h) fun ws s2 ⟨zs, H2, I2, rz, l1, hz, q2⟩ => ⟨I2.kIn, ?_⟩
  rw [hks]
  have l2 : ws.length = 1 := rz.length.symm.trans l1
  obtain ⟨u, rfl⟩ : ∃ u, ws = [u] := List.length_eq_one_iff.mp l2
  show wpAny _ _ (call (.ref C) [] [(ky, u)]) _ _ _
  exact run_exn (us := []) (ws := [u]) (kw := [(ky, u)]) T iC tI F1 hr hx I2 (Nat.zero_le _) rz (fun s a hs => hb s a u hs) q2

/-! ### asked -/
/-- isinstance(e, c) of an exception that is a value -/
def rIsX (K : PySem.W.Frag) : List V → Hp → VK → Prop := fun xs H Q => ∃ (a C dx : Addr) (fs : List (Str × V)) (n i : String) (c : V) (cv : Value) (b : Bool), xs = [.ref a, c] ∧ H a = some (exo a C (some dx)) ∧ H dx = some (exd dx fs) ∧ Exn K C n i ∧ (∀ u, RelV c u → u = cv) ∧
  PySem.W.kitOne K (.ref C) cv = some b ∧ Q (.bl b) H
theorem inst_at {pins : List (Addr × Obj)} {σ : L2.St} {H : Hp} {s : Shared} {a C dx : Addr} {fs : List (Str × V)} (I : Inv X pins σ H s) (ea : H a = some (exo a C (some dx))) (ed : H dx = some (exd dx fs)) :
    ∃ (ox od : Obj), PySem.W.InstAt s.heap a ox C (some od) ∧ ∃ mA : Str → Option Value, (∀ f, RelO (fs.lookup f) (mA f)) ∧ ∀ n, PySem.W.lookIn n od = some (mA n) := by
  obtain ⟨t1, ho⟩ := exo_at I.hok ea
  obtain ⟨mA, hns, rel⟩ := exd_at I.hok ed
  obtain ⟨od, h1, h2⟩ := lookIn_ns hns
  exact ⟨_, od, ⟨ho, rfl, rfl, h1⟩, mA, rel, h2⟩
theorem call_isX : CallR X (.builtin "isinstance") (rIsX X.K) := by
  intro pins s σ H xs us Q I r h
  obtain ⟨a, C, dx, fs, n, i, c, cv, b, rfl, ea, ed, T, hcv, e, q⟩ := h
  cases r with
  | cons rx rr =>
    cases rr with
    | cons rt rr =>
      cases rr
      cases rx
      have ec := hcv _ rt
      subst ec
      obtain ⟨ox, od, J, _⟩ := inst_at I ea ed
      obtain ⟨cd, hc, _⟩ := PySem.W.any_some T.hd
      exact PySem.W.kia_one (PySem.W.kitx_exc (by rw [hc]; rfl) T.ga T.gg T.exC T.ca T.cn T.ct T.mr) I.kIn J e (fun z => nomatch z) fun tk => ⟨.bl b, H, I.kept (t' := tk) fun _ _ z => z, rfl, q⟩
/-- e.f -/
def tXfv (K : PySem.W.Frag) (f : Str) (te : TE) : TE := fun σ H Q => te σ H fun x H1 => ∃ (a C dx : Addr) (fs : List (Str × V)) (n i : String) (v : V), x = .ref a ∧ H1 a = some (exo a C (some dx)) ∧ H1 dx = some (exd dx fs) ∧ Exn K C n i ∧
  PySem.W.findIn K (.ref C) f = some none ∧ fs.lookup f = some v ∧ Q v H1
theorem pe_xfv (he : PE X e te) (hb : attributeBase e f X.env (eval e X.env) = eval e X.env := by rfl) : PE X (.Attribute e f pos) (tXfv X.K f te) := by
  refine ⟨fun pins s σ H Q I h => ?_⟩
  refine attr_of hb (thn (he.run pins s σ H _ I h) fun u s1 hh => ?_)
  obtain ⟨x, H1, I1, rx, a, C, dx, fs, n, i, v, ex, ea, ed, T, hno, l, q⟩ := hh
  subst ex
  obtain rfl : u = Value.ref a := rx
  obtain ⟨ox, od, J, mA, rel, look⟩ := inst_at I1 ea ed
  obtain ⟨u, hu, ru⟩ := RelO.some_of (v := v) (o := mA f) (by rw [← l]; exact rel f)
  exact HandSPX.exc_get I1.kIn J T.ga T.gg T.exC (PySem.W.findObj_own T.hd hno rfl (by rw [look, hu])) (handed_of ru) ⟨v, H1, I1.tok _, ru, q⟩
end
end Cor

set_option Elab.async false
set_option linter.all false
set_option maxRecDepth 100000
set_option maxHeartbeats 1000000
/-! Defs that are called where no repr runs: the promise with that fact; repr of data. -/
namespace Cor
open PySem PySem.Spec PyProof.Rows L2

/-- as FnOk, for callers under which no guarded code runs -/
structure FnG (P : Program) (w : World) (K : PySem.W.Frag) (mg : Str → Option Value) (base : Heap) (CX : CXT) (k : Nat) (f : Addr) (fd : FuncData) (ps : List Str) (sp : Sp) : Prop where
  len : ∀ vs H Q E, sp vs H Q E → vs.length = ps.length
  run : ∀ (A : Around) (outer : List Env) (s : Shared) (H : Hp) (args : Args) (us : List Value) (vs : List V) (Q : VK) (E : XK), Room k A → A.guards = some [] → Env0 P w K mg base A outer s H → BindsTo s fd args (ps.zip us) → Vals vs us → sp vs H Q E →
    codeAny (model P w) A (.call (.ref f) args) (CR CX outer P w H s Q E) s
theorem FnG.of {P : Program} {w : World} {K : PySem.W.Frag} {mg : Str → Option Value} {base : Heap} {CX : CXT} {k : Nat} {f : Addr} {fd : FuncData} {ps : List Str} {sp : Sp} (F : FnOk P w K mg base CX k f fd ps sp) : FnG P w K mg base CX k f fd ps sp :=
  ⟨F.len, fun A outer s H args us vs Q E hr _ => F.run A outer s H args us vs Q E hr⟩
theorem FnG.mono {P : Program} {w : World} {K : PySem.W.Frag} {mg : Str → Option Value} {base : Heap} {CX : CXT} {j k : Nat} {f : Addr} {fd : FuncData} {ps : List Str} {sp : Sp} (F : FnG P w K mg base CX j f fd ps sp) (h : j ≤ k) : FnG P w K mg base CX k f fd ps sp :=
  ⟨F.len, fun A outer s H args us vs Q E hr => F.run A outer s H args us vs Q E (hr.mono h)⟩
section
variable {X : Cx} {CX : CXT} {k : Nat} {f : Addr} {fd : FuncData} {ps : List Str} {sp : Sp} {dvs : List V} {ds : List Value} {E : XK} {x : Str} {p pos : Pos} {e : Expr} {es : List Expr} {t : TA}
theorem run_fnG {pins : List (Addr × Obj)} {σ : L2.St} {H : Hp} {s : Shared} {Q : VK} {us : List Value} {vs : List V} (F : FnG X.prog X.w X.K X.mg X.base CX k f fd ps sp) (hr : Room k X.A) (gd : X.A.guards = some []) (hb : Binds X.K fd ps ds) (hd : Vals dvs ds) (hx : Passes CX X E)
    (I : Inv X pins σ H s) (r : Vals vs us) (h : sp (vs ++ dvs) H Q E) : wpAny (model X.prog X.w) X.A (call (.ref f) us) (EP X pins σ Q) X.xe s := by
  have rr : Vals (vs ++ dvs) (us ++ ds) := r.append hd
  have hl : (us ++ ds).length = ps.length := rr.length.symm.trans (F.len _ _ _ _ h)
  refine wpAny_call (codeAny_mono (F.run X.A X.stack s H ⟨us, []⟩ (us ++ ds) (vs ++ dvs) Q E hr gd I.env0 (hb s us I.kIn hl) rr h) fun z s' hz => ?_)
  match z, hz with
  | .error e, hz => exact hx pins σ H s e s' I hz
  | .ok (.ret u), hz => exact I.after hz
  | .ok .next, hz => exact hz.elim
  | .ok .brk, hz => exact hz.elim
  | .ok .cont, hz => exact hz.elim
theorem pe_callG (F : FnG X.prog X.w X.K X.mg X.base CX k f fd ps sp) (hr : Room k X.A) (gd : X.A.guards = some []) (hg : Gl X x) (hm : X.mg x = some (.ref f)) (hk : PySem.W.keepIn X.K (.ref f) = true) (hb : Binds X.K fd ps ds) (hd : Vals dvs ds) (hx : Passes CX X E)
    (ha : PA X (e :: es) t) (hdb : (x == ("__debug__" : Str)) = false := by decide) (he : starEach (e :: es) X.env = (false, eval e X.env) :: starEach es X.env := by rfl) (hpl : (backTo pos (starEach es X.env)).any (·.1) = false := by rfl) :
    PE X (.Call (.Name x p) (e :: es) [] pos) (tCall sp dvs E t) := by
  refine ⟨fun pins s σ H Q I h => ?_⟩
  refine wpAny_Call_Name_kw (ld_glob I hg hm ?_ hdb)
  refine PySem.W.callWith_K (h₀ := X.base) I.ok.mod.kin hk (thn (ha.run pos pins s σ H _ I h) fun us s1 ⟨vs, H1, I1, r, q⟩ => ⟨I1.kIn, ?_⟩) he hpl
  exact run_fnG F hr gd hb hd hx I1 r q
end

/-! ### the body of such a def -/
section
variable {P : Program} {w : World} {K : PySem.W.Frag} {mg : Str → Option Value} {base : Heap}
theorem fn_ofG {CX : CXT} {k : Nat} {f : Addr} {name qual : Str} {params : Arguments} {body : List Stmt} {scope : Scope} {dV kV doc pm cdv ct oc : Value} {an od : Option Addr}
    {osl : Array (Option Value)} {N ps : List Str} {sp : Sp} (lk : K.lookup f = some ⟨oc, od, .func (PySem.W.fnOf name qual params body scope dV kV doc pm an cdv ct), osl⟩) (hcd : PySem.W.codeIn K cdv qual = true) (S : FnScope N ps scope)
    (len : ∀ vs H Q E, sp vs H Q E → vs.length = ps.length)
    (hbody : ∀ (A : Around) (outer : List Env) (s : Shared) (H : Hp) (vs : List V) (Q : VK) (E : XK), Room k (A.deeper (envOfC qual scope s.heap.objs.size f cdv)) → A.guards = some [] → sp vs H Q E →
      ∃ t, PSs (cxOf CX P w K mg base N qual scope f cdv A outer s H E) body t ∧ t { nx := fun _ H' => Q .non H', rt := Q } (start N vs) H) :
    FnG P w K mg base CX (k + 1) f (PySem.W.fnOf name qual params body scope dV kV doc pm an cdv ct) ps sp := by
  refine ⟨len, fun A outer s H args us vs Q E hr gd e0 hb r hsp => ?_⟩
  have hl := len _ _ _ _ hsp
  have KX : K.In s.heap := e0.mod.kin.keeps fun b o e => (e0.bs b o e).1
  have lim : s.heap.NoLimit := e0.mod.nolimit.keeps fun b o e => (e0.bs b o e).1
  have kinds : ∀ y ∈ ps.zip us, scope.names.lookup y.1 = some .local ∨ (scope.names.lookup y.1 = some .cell ∧ ((cellsFrom (s.heap.objs.size + 1) scope.names []).lookup y.1).isSome = true) := fun ⟨n, v⟩ hy =>
    (S.par n (List.of_mem_zip hy).1).imp id fun q => ⟨q, PySem.W.cellsFrom_some _ _ _ (.inl q)⟩
  refine codeAny_call_function hr.depth (KX _ _ lk) rfl S.co S.gen rfl (PySem.W.codeRec_of KX hcd) (hb _ _ _ _ ?_)
  refine wpAny_newFunctionEnv_cells S.kind kinds fun env he s1 x => ?_
  subst he
  refine ⟨lim.keeps x.toInCall.keep, codeAny_func ?_⟩
  obtain ⟨t, ht, hq⟩ := hbody A outer s H vs Q E (hr.deeper _) gd hsp
  have I : Inv (cxOf CX P w K mg base N qual scope f cdv A outer s H E) [] (start N vs) H s1 := inv_start S hr.hd e0 hl r x
  refine wpAny_mono (ht.run [] s1 (start N vs) H _ I hq) (fun fl s' hs => ?_) fun e s' hs => hs
  match fl, hs with
  | .ret u, ⟨v, σ', H', J, rv, q⟩ => exact ⟨v, H', J.os, J.bare, J.base, J.hok, rv, q⟩
  | .next, ⟨σ', H', J, q⟩ => exact ⟨V.non, H', J.os, J.bare, J.base, J.hok, (rfl : Value.none = Value.none), q⟩
  | .brk, ⟨_, _, _, q⟩ => exact q.elim
  | .cont, ⟨_, _, _, q⟩ => exact q.elim
theorem okG {x qual : Str} {st : Stmt} {f : Addr} {fd : FuncData} {N ps : List Str} {k : Nat} {sp : Sp} (F : Fun K x qual st f fd) (S : FnScope N ps (defScope st)) (len : ∀ vs H Q E, sp vs H Q E → vs.length = ps.length)
    (hbody : ∀ (cdv : Value) (A : Around) (outer : List Env) (s : Shared) (H : Hp) (vs : List V) (Q : VK) (E : XK), Room k (A.deeper (envOfC qual (defScope st) s.heap.objs.size f cdv)) → A.guards = some [] → sp vs H Q E →
      ∃ t, PSs (cxOf CX0 P w K mg base N qual (defScope st) f cdv A outer s H E).nox (defBody st) t ∧ t { nx := fun _ H' => Q .non H', rt := Q } (start N vs) H) : FnG P w K mg base CX0 (k + 1) f fd ps sp := by
  obtain ⟨oc, od, kV, doc, pm, an, cdv, ct, osl, rfl, lk, hcd⟩ := F.ex
  refine fn_ofG lk hcd S len fun A outer s H vs Q E hr gd hsp => ?_
  obtain ⟨t, h, q⟩ := hbody cdv A outer s H vs Q E hr gd hsp
  exact ⟨t, h.nox, q⟩
end

/-! ### the law's call -/
theorem law_callG {P : Program} {w : World} {K : PySem.W.Frag} {mg mb : Str → Option Value} {CX : CXT} {k : Nat} {fa a : Addr} {fd : FuncData} {x : Str} {sp : Sp} {s1 : Shared} {vs : List Value} {ns : List Int}
    (KX : K.In s1.heap) (hns : s1.heap.Ns mainGlobals mg) (hb : s1.heap.Ns builtinsNs mb) (hbb : ∀ x : Str, x ≠ "__name__" → mb x = bootBuiltins x) (hlim : s1.heap.NoLimit) (hg : s1.gens = #[])
    (ha : s1.heap.get? a = some { cls := .type "list", data := .seq vs.toArray }) (hi : IntsAre vs ns) (hl : ns.length ≤ sizeLine) (hr : Room k callerA)
    (F : ∀ base : Heap, K.In base → base.Ns mainGlobals mg → FnG P w K mg base CX k fa fd [x] sp) (hbind : ∀ (s : Shared) (u : Value), BindsTo s fd ⟨[u], []⟩ [(x, u)])
    (hsp : ∀ H : Hp, SqL K H a (ns.map V.int) → sp [.ref a] H (fun v _ => v = .bl true) fun _ _ _ => False)
    (hCX : ∀ H e s', CX [] H s1 (fun _ _ _ => False) e s' → False) :
    codeAny (model P w) callerA (.call (.ref fa) ⟨[.ref a], []⟩) (fun r s' => r = .ok (.ret (.bool true)) ∧ OldK s1.heap s'.heap ∧ s'.os = s1.os ∧ AllBare s'.gens) s1 := by
  have rv := vals_ints hi
  have lenV := hi.length
  let T : HO := .frz { cls := .type "list", data := .seq vs.toArray } (.lst (ns.map V.int))
  -- the heap that tracks the script unless the text's own part holds it
  let H : Hp := fun b => if b = a ∧ K.lookup a = none then some T else none
  have inH : ∀ b u, H b = some u → b = a ∧ K.lookup a = none ∧ u = T := fun b u z => by
    by_cases c : b = a ∧ K.lookup a = none
    · have z2 : some T = some u := (if_pos c).symm.trans z
      exact ⟨c.1, c.2, (Option.some.inj z2).symm⟩
    · have z2 : none = some u := (if_neg c).symm.trans z
      cases z2
  have hok : HOk P w H s1.heap := fun b u z => by
    obtain ⟨rfl, _, rfl⟩ := inH b u z
    exact ⟨ha, by rw [List.length_map]; exact hl, vs, _, rv, ha⟩
  have hS : SqL K H a (ns.map V.int) := by
    cases hk : K.lookup a with
    | none => exact .inl (.inr ⟨{ cls := .type "list", data := .seq vs.toArray }, if_pos ⟨rfl, hk⟩⟩)
    | some o =>
      have e := KX a o hk
      rw [ha] at e
      cases e
      exact .inr ⟨_, vs.toArray, _, hk, rfl, rfl, rfl, by rw [List.size_toArray, lenV]; exact hl, by simpa using rv⟩
  have noneOf : ∀ {b : Addr} {o : Obj} {es : Array DictEntry} {ep : Nat}, s1.heap.get? b = some o → o.data = .dict es ep → H b = none := fun {b o es ep} e dd => by
    cases z : H b with
    | none => rfl
    | some u =>
      obtain ⟨rfl, _, _⟩ := inH b u z
      rw [ha] at e
      cases e
      have d2 : Data.seq vs.toArray _ = Data.dict es ep := dd
      cases d2
  have nsK : ∀ {b : Addr} {m : Str → Option Value}, s1.heap.Ns b m → (hidT s1.heap H).Ns b m := fun {b m} ⟨o, es, ep, e, dd, r⟩ => ⟨o, es, ep, hidT_get e (noneOf e dd), dd, r⟩
  have kb : K.In (hidT s1.heap H) := fun b o e => hidT_get (KX b o e) (by
    cases z : H b with
    | none => rfl
    | some u =>
      obtain ⟨rfl, h2, _⟩ := inH b u z
      rw [h2] at e
      cases e)
  have md : Mod K mg (hidT s1.heap H) := ⟨kb, nsK hns, ⟨mb, nsK hb, hbb⟩, let ⟨mc, h1, h2⟩ := hlim; ⟨mc, nsK h1, h2⟩⟩
  have e0 : Env0 P w K mg (hidT s1.heap H) callerA [] s1 H := ⟨rfl, md, fun b o e => of_hidT e, Nat.le_of_eq (hidT_size _ _), trivial, fun b hb => absurd (show b ∈ ([] : List Addr) from hb) (by simp), hok, .of_eq hg⟩
  refine codeAny_mono ((F _ kb (nsK hns)).run callerA [] s1 H ⟨[.ref a], []⟩ [.ref a] [.ref a] _ _ hr rfl e0 (hbind s1 (.ref a)) (.cons rfl .nil) (hsp H hS)) fun r s' h => ?_
  match r, h with
  | .error e, h => exact (hCX H e s' h).elim
  | .ok .next, h => exact h.elim
  | .ok .brk, h => exact h.elim
  | .ok .cont, h => exact h.elim
  | .ok (.ret u), ⟨v, H2, os, bare, un, hok2, r2, q⟩ =>
    obtain rfl : v = .bl true := q
    obtain rfl : u = Value.bool true := r2
    refine ⟨rfl, OldK.of_keep fun b o e => ?_, os, bare⟩
    cases z : H b with
    | none => exact un.keep b o e z (by intro y; exact absurd (show b ∈ ([] : List Addr) from y) (by simp)) (by simp)
    | some u =>
      obtain ⟨rfl, _, rfl⟩ := inH b u z
      have z2 := un.frzs b _ _ z
      obtain ⟨e2, _⟩ := hok2 b _ z2
      rw [ha] at e
      cases e
      exact e2
theorem walk_ofG {l : PySem.W.OpenLaw} {n k : Nat} {q : Program} {loose : List Str} {XP : (Str → Option Value) → Heap → Prop} {YP : World → Heap → Prop} {d : DefRec} {K : Params → PySem.W.Frag} {CX : World → CXT} {sp : World → Sp} {x : Str}
    (hn : l.most = some n) (hn2 : n ≤ sizeLine) (hdf : d.params.defaults = []) (hr : Room k callerA)
    (hY : ∀ (w : World) (h : Heap), YP w h → (K w.params).In h)
    (F : ∀ (w : World) (mg : Str → Option Value) (fa : Addr) (h : Heap), (K w.params).In h → h.Ns mainGlobals mg → mg d.name = some (.ref fa) →
      ∃ fd : FuncData, (∀ (s : Shared) (u : Value), BindsTo s fd ⟨[u], []⟩ [(x, u)]) ∧
        ∀ base : Heap, (K w.params).In base → base.Ns mainGlobals mg → FnG l.prog w (K w.params) mg base (CX w) k fa fd [x] (sp w))
    (hsp : ∀ (w : World) (H : Hp) (a : Addr) (ns : List Int), ns.length ≤ n → (∀ z ∈ ns, Builtin.Int.intBits z ≤ 1048576) → SqL (K w.params) H a (ns.map V.int) → sp w [.ref a] H (fun v _ => v = .bl true) fun _ _ _ => False)
    (hCX : ∀ (w : World) (H : Hp) (s : Shared) (e : Value) (s' : Shared), CX w [] H s (fun _ _ _ => False) e s' → False) :
    PySem.W.WalkO q loose XP YP l.row.toRowW d [] (fun f vs => PySem.call f vs) := by
  refine Att.attach_callB hn hdf fun w s0 s1 mg mb fa o pm cd doc a vs ns G Y ho hd hcd hmg hobj hints hlen hbits hg => ?_
  have KX := hY w _ Y
  obtain ⟨fd, hb, hF⟩ := F w mg fa _ KX G.T.g hmg
  exact law_callG KX G.T.g G.T.b G.T.builtins G.T.nolimit hg hobj hints (Nat.le_trans hlen hn2) hr hF hb (fun H hS => hsp w H a ns hlen hbits hS) fun H e s' => hCX w H s1 e s'
end Cor

set_option Elab.async false
set_option linter.all false
set_option maxRecDepth 100000
set_option maxHeartbeats 1000000
namespace Cor
open PySem PySem.Spec PyProof.Rows L2
/-- repr(x), x a list or a tuple of data -/
def rRepr (K : PySem.W.Frag) : List V → Hp → VK → Prop := fun xs H Q => ∃ (a : Addr) (d : PyData), xs = [.ref a] ∧ Dp K H (.ref a) d ∧ d.showable = true ∧ d.hasDict = false ∧ d.shown.length ≤ sizeLine ∧ d.depth ≤ 60 ∧ Q (.str d.shown) H
theorem call_reprL {X : Cx} (gd : X.A.guards = some []) (hu : X.A.units + 64 < cLine) : CallR X (.builtin "repr") (rRepr X.K) := by
  intro pins s σ H xs us Q I r h
  obtain ⟨a, d, rfl, hd, hs, hn, hl, hdep, q⟩ := h
  cases r with
  | @cons _ u _ _ rx rr =>
    cases rr
    obtain rfl : u = Value.ref a := rx
    obtain ⟨as, rd⟩ := Dp.reads I d _ _ hd (show RelV (.ref a) (Value.ref a) from rfl)
    exact repr_of_reads' rd hs (fun z => by rw [hn] at z; cases z) gd (by omega) (fun _ _ z => z) (fun h' u tk k => ⟨.str d.shown, H, I.kept (t' := tk) k, ⟨_, rfl⟩, q⟩) hl
end Cor

set_option Elab.async false
set_option linter.all false
set_option maxRecDepth 100000
set_option maxHeartbeats 1000000
namespace Cor
open PySem PySem.Spec PyProof.Rows L2

/-! ### defs of the text, by name -/
/-- the def x keeps sp at level k -/
def Df (P : Program) (w : World) (K : PySem.W.Frag) (mg : Str → Option Value) (base : Heap) (x : Str) (k : Nat) (ps : List Str) (sp : Sp) : Prop :=
  ∃ f fd, FnOk P w K mg base CX0 k f fd ps sp ∧ mg x = some (.ref f) ∧ PySem.W.keepIn K (.ref f) = true ∧ Binds K fd ps []
/-- .. where no repr runs -/
def DfG (P : Program) (w : World) (K : PySem.W.Frag) (mg : Str → Option Value) (base : Heap) (x : Str) (k : Nat) (ps : List Str) (sp : Sp) : Prop :=
  ∃ f fd, FnG P w K mg base CX0 k f fd ps sp ∧ mg x = some (.ref f) ∧ PySem.W.keepIn K (.ref f) = true ∧ Binds K fd ps []
section
variable {X : Cx} {k : Nat} {ps : List Str} {sp : Sp} {E : XK} {x : Str} {p pos : Pos} {e : Expr} {es : List Expr} {t : TA}
theorem pe_df (D : Df X.prog X.w X.K X.mg X.base x k ps sp) (hr : Room k X.A) (hg : Gl X x) (ha : PA X (e :: es) t)
    (hdb : (x == ("__debug__" : Str)) = false := by decide) (he : starEach (e :: es) X.env = (false, eval e X.env) :: starEach es X.env := by rfl) (hpl : (backTo pos (starEach es X.env)).any (·.1) = false := by rfl) :
    PE X (.Call (.Name x p) (e :: es) [] pos) (tCall sp [] E t) := by
  obtain ⟨f, fd, F, m, kp, b⟩ := D
  exact pe_call F hr hg m kp b .nil pass0 ha hdb he hpl
theorem pe_dfG (D : DfG X.prog X.w X.K X.mg X.base x k ps sp) (hr : Room k X.A) (gd : X.A.guards = some []) (hg : Gl X x) (ha : PA X (e :: es) t)
    (hdb : (x == ("__debug__" : Str)) = false := by decide) (he : starEach (e :: es) X.env = (false, eval e X.env) :: starEach es X.env := by rfl) (hpl : (backTo pos (starEach es X.env)).any (·.1) = false := by rfl) :
    PE X (.Call (.Name x p) (e :: es) [] pos) (tCall sp [] E t) := by
  obtain ⟨f, fd, F, m, kp, b⟩ := D
  exact pe_callG F hr gd hg m kp b .nil pass0 ha hdb he hpl
end

/-- a statement with one fact behind it, whatever way it took -/
def tCut (t u : TS) : TS := fun D σ H => ∃ M : L2.St → Hp → Prop, t { D with nx := M } σ H ∧ ∀ σ' H', M σ' H' → u D σ' H'
theorem pss_cut {X : Cx} {st : Stmt} {rest : List Stmt} {t u : TS} (h1 : PS X st t) (h2 : PSs X rest u) : PSs X (st :: rest) (tCut t u) := by
  constructor
  intro pins s σ H D I ⟨M, hm, hu⟩
  refine wpAny_execs_cons (thn (h1.run pins s σ H { D with nx := M } I hm) fun fl s1 q => ?_)
  match fl, q with
  | .next, ⟨σ', H', J, q⟩ => exact h2.run pins s1 σ' H' D J (hu σ' H' q)
  | .ret v, q => exact q
  | .brk, q => exact q
  | .cont, q => exact q
/-! ### heaps -/
/-- all that stood but at p stands -/
def SameBut (p : Addr) (H H' : Hp) : Prop := ∀ b o, b ≠ p → H b = some o → H' b = some o
theorem Same.but {H H' : Hp} {p : Addr} (s : Same H H') : SameBut p H H' := fun b o _ e => s b o e
theorem SameBut.trans {H H1 H2 : Hp} {p : Addr} (a : SameBut p H H1) (b : SameBut p H1 H2) : SameBut p H H2 := fun c o n e => b c o n (a c o n e)
theorem SameBut.refl {H : Hp} {p : Addr} : SameBut p H H := fun _ _ _ e => e
theorem SameBut.upd {H : Hp} {p : Addr} {o : HO} : SameBut p H (upd H p o) := fun b u n e => by rw [upd_ne n]; exact e
theorem SameBut.seq {K : PySem.W.Frag} {H H' : Hp} {p a : Addr} {xs : List V} (s : SameBut p H H') (n : H a = none ∨ a ≠ p) (h : SqL K H a xs) : SqL K H' a xs := by
  rcases h with (h | ⟨o, h⟩) | h
  · exact .inl (.inl (s _ _ (by rcases n with n | n; (· rw [n] at h; cases h); (· exact n)) h))
  · exact .inl (.inr ⟨o, s _ _ (by rcases n with n | n; (· rw [n] at h; cases h); (· exact n)) h⟩)
  · exact .inr h
theorem same_upd {H : Hp} {p : Addr} {o : HO} (n : H p = none) : Same H (upd H p o) := fun b u e => by rw [upd_ne (ne_of_none e n)]; exact e
mutual
theorem Dp.same {K : PySem.W.Frag} {H H' : Hp} (s : Same H H') : ∀ {v : V} {d : PyData}, Dp K H v d → Dp K H' v d
  | _, _, .non => .non
  | _, _, .bl b => .bl b
  | _, _, .int i => .int i
  | _, _, .str x => .str x
  | _, _, .lst h a => .lst (s.seq h) (DpAll.same s a)
  | _, _, .tup h a => .tup (by
      rcases h with (h | ⟨o, h⟩) | h
      · exact .inl (.inl (s _ _ h))
      · exact .inl (.inr ⟨o, s _ _ h⟩)
      · exact .inr h) (DpAll.same s a)
theorem DpAll.same {K : PySem.W.Frag} {H H' : Hp} (s : Same H H') : ∀ {vs : List V} {ds : List PyData}, DpAll K H vs ds → DpAll K H' vs ds
  | _, _, .nil => .nil
  | _, _, .cons h a => .cons (Dp.same s h) (DpAll.same s a)
end
/-! ### the draws -/
/-- a source of draws stands at p -/
def Box (H : Hp) (p : Addr) : Prop := ∃ b s c : Int, H p = some (.lst [.int b, .int s, .int c]) ∧ 0 ≤ s ∧ s < 4294967296
def spBox (K : PySem.W.Frag) : Sp := fun vs H Q _ => ∃ (a : Addr) (ns : List Int) (k own : Int), vs = [.ref a, .int k, .int own] ∧ SqL K H a (ns.map V.int) ∧ ns.length ≤ 63 ∧ 0 ≤ k ∧ k < 1000 ∧ 0 ≤ own ∧ own < 1000 ∧
  ∀ H' p, Same H H' → H p = none → Box H' p → Q (.ref p) H'
def spTake : Sp := fun vs H Q _ => ∃ (p : Addr) (m : Int), vs = [.ref p, .int m] ∧ Box H p ∧ 0 < m ∧ m < 2 ^ 90 ∧
  ∀ (b s c r : Int), 0 ≤ s → s < 4294967296 → 0 ≤ r → r < m → Q (.int r) (upd H p (.lst [.int b, .int s, .int c]))
/-- the names of the built-ins that a text may use -/
structure Glo (mg : Str → Option Value) : Prop where
  len : mg "len" = none
  abs : mg "abs" = none
  int : mg "int" = none
  range : mg "range" = none
  max : mg "max" = none
  min : mg "min" = none
end Cor

set_option Elab.async false
set_option linter.all false
set_option maxRecDepth 100000
set_option maxHeartbeats 1000000
namespace Cor
open PySem PySem.Spec PyProof.Rows L2
theorem _root_.L2.PE.imp {X : Cx} {e : Expr} {t t' : TE} (h : PE X e t) (i : ∀ σ H Q, t' σ H Q → t σ H Q) : PE X e t' := ⟨fun pins s σ H Q I q => h.run pins s σ H Q I (i σ H Q q)⟩
def tMono (t : TE) : TE := fun σ H Q => ∃ R : VK, t σ H R ∧ ∀ v H', R v H' → Q v H'
theorem _root_.L2.PE.up {X : Cx} {e : Expr} {t : TE} (h : PE X e t) : PE X e (tMono t) :=
  ⟨fun pins s σ H Q I ⟨R, q, up⟩ => thn (h.run pins s σ H R I q) fun u s' ⟨v, H', J, r, z⟩ => ⟨v, H', J, r, up v H' z⟩⟩
/-- an exception of the class at C, with the one field f -/
def ExV (H : Hp) (a C : Addr) (f : Str) (v : V) : Prop := ∃ dx, H a = some (exo a C (some dx)) ∧ H dx = some (exd dx [(f, v)])
theorem ExV.same {H H' : Hp} {a C : Addr} {f : Str} {v : V} (s : Same H H') (h : ExV H a C f v) : ExV H' a C f v := let ⟨dx, h1, h2⟩ := h; ⟨dx, s _ _ h1, s _ _ h2⟩
def spInit (C : Addr) (f : Str) : Sp := fun vs H Q _ => ∃ (a : Addr) (v : V), vs = [.ref a, v] ∧ H a = some (exo a C none) ∧ ∀ dx, H dx = none → dx ≠ a → Q .non (upd (upd H dx (exd dx [(f, v)])) a (exo a C (some dx)))
/-- the exception class x of the text, whose __init__ keeps its one argument in f -/
def Xcl (P : Program) (w : World) (K : PySem.W.Frag) (mg : Str → Option Value) (base : Heap) (x : Str) (C : Addr) (f : Str) : Prop :=
  ∃ n i fI fd, Exn K C n i ∧ PySem.W.findIn K (.ref C) "__init__" = some (some (.ref fI)) ∧ PySem.W.typeIn K (.ref fI) = some (.type "function") ∧ FnOk P w K mg base CX0 1 fI fd ["self", f] (spInit C f) ∧ Binds K fd ["self", f] [] ∧
    (∀ (s : Shared) (a : Addr) (u : Value), K.In s.heap → BindsTo s fd ⟨[.ref a], [(f, u)]⟩ ((["self", f] : List Str).zip [.ref a, u])) ∧ mg x = some (.ref C) ∧ PySem.W.findIn K (.ref C) f = some none
/-- x(e) -/
def tNewX (C : Addr) (f : Str) (te : TE) : TE := fun σ H Q => te σ H fun v H1 => ∀ H' a, Same H1 H' → H1 a = none → ExV H' a C f v → Q (.ref a) H'
section
variable {X : Cx} {C : Addr} {f x : Str} {te : TE} {e : Expr} {p pos kpos : Pos}
theorem newx_end {H1 : Hp} {v : V} {Q : VK} (q : ∀ H' a, Same H1 H' → H1 a = none → ExV H' a C f v → Q (.ref a) H') (a : Addr) (na : H1 a = none) :
    spInit C f [.ref a, v] (upd H1 a (exo a C none)) (fun v H2 => v = .non ∧ Q (.ref a) H2) (fun _ _ _ => False) := by
  refine ⟨a, v, rfl, upd_same, fun dx hd hne => ⟨rfl, q _ a (fun b o z => ?_) na ⟨dx, upd_same, ?_⟩⟩⟩
  · rw [upd_ne hne] at hd
    rw [upd_ne (ne_of_none z na), upd_ne (ne_of_none z hd), upd_ne (ne_of_none z na)]
    exact z
  · rw [upd_ne hne, upd_same]
theorem pe_newx (D : Xcl X.prog X.w X.K X.mg X.base x C f) (hr : Room 2 X.A) (hg : Gl X x) (he : PE X e te) (hdb : (x == ("__debug__" : Str)) = false := by decide) (hs : starEach [e] X.env = (false, eval e X.env) :: starEach [] X.env := by rfl) :
    PE X (.Call (.Name x p) [e] [] pos) (tNewX C f te) := by
  obtain ⟨n, i, fI, fd, T, h1, h2, F, b, _, m, _⟩ := D
  refine (pe_exn T h1 h2 F hr b pass0 hg m (pa_cons he.up pa_nil hs) hdb hs rfl).imp fun σ H Q q => ?_
  exact ⟨_, q, fun v H1 z => ⟨by show 1 ≤ 1000; decide, fun a na => newx_end z a na⟩⟩
/-- x(f = e) -/
theorem pe_newxK (D : Xcl X.prog X.w X.K X.mg X.base x C f) (hr : Room 2 X.A) (hg : Gl X x) (he : PE X e te) (hk : PK X [⟨some f, e, kpos⟩] (tCons (tMono te) tNil)) (hdb : (x == ("__debug__" : Str)) = false := by decide)
    (hall : (backToKw pos (keywordEach [⟨some f, e, kpos⟩] X.env)).all (·.1.isSome) = true := by rfl) (hks : (backToKw pos (keywordEach [⟨some f, e, kpos⟩] X.env)).filterMap (·.1) = [f] := by rfl)
    (hpl : ((backTo pos (starEach [] X.env)).any (·.1) || (backToKw pos (keywordEach [⟨some f, e, kpos⟩] X.env)).any (·.1.isNone)) = false := by rfl) :
    PE X (.Call (.Name x p) [] [⟨some f, e, kpos⟩] pos) (tNewX C f te) := by
  obtain ⟨n, i, fI, fd, T, h1, h2, F, _, b, m, _⟩ := D
  refine (pe_exnK T h1 h2 F hr b pass0 hg m hk hdb hall hks hpl).imp fun σ H Q q => ?_
  exact ⟨_, q, fun v H1 z => ⟨rfl, by show 1 ≤ 1000; decide, fun a na => newx_end z a na⟩⟩
/-- o.f of such an exception -/
def tGetX (C : Addr) (f : Str) (te : TE) : TE := fun σ H Q => te σ H fun x H1 => ∃ a v, x = .ref a ∧ ExV H1 a C f v ∧ Q v H1
theorem pe_getx (D : Xcl X.prog X.w X.K X.mg X.base x C f) (he : PE X e te) (hb : attributeBase e f X.env (eval e X.env) = eval e X.env := by rfl) : PE X (.Attribute e f pos) (tGetX C f te) := by
  obtain ⟨n, i, fI, fd, T, _, _, _, _, _, _, no⟩ := D
  refine (pe_xfv he.up hb).imp fun σ H Q q => ?_
  refine ⟨_, q, fun y H1 z => ?_⟩
  obtain ⟨a, v, rfl, ⟨dx, e1, e2⟩, q⟩ := z
  exact ⟨a, C, dx, _, n, i, v, rfl, e1, e2, T, no, by simp [List.lookup], q⟩
end
/-- isinstance(o, c) of such an exception -/
def rIsV (K : PySem.W.Frag) : List V → Hp → VK → Prop := fun xs H Q => ∃ (a C : Addr) (f : Str) (v : V) (n i : String) (c : V) (cv : Value) (b : Bool), xs = [.ref a, c] ∧ ExV H a C f v ∧ Exn K C n i ∧ (∀ u, RelV c u → u = cv) ∧
  PySem.W.kitOne K (.ref C) cv = some b ∧ Q (.bl b) H
theorem call_isV {X : Cx} : CallR X (.builtin "isinstance") (rIsV X.K) := by
  intro pins s σ H xs us Q I r h
  obtain ⟨a, C, f, v, n, i, c, cv, b, rfl, ⟨dx, e1, e2⟩, T, hc, hk, q⟩ := h
  exact call_isX pins s σ H _ us Q I r ⟨a, C, dx, _, n, i, c, cv, b, rfl, e1, e2, T, hc, hk, q⟩
end Cor

set_option Elab.async false
set_option linter.all false
set_option maxRecDepth 100000
set_option maxHeartbeats 1000000
namespace Law
open PySem PySem.Spec PyProof.Rows L2 Cor
def topS (i : Nat) : Stmt := PySem.Challenge.pw_corridors_k38_errors_and_their_attribute.main.body.getD i (.Pass ⟨0, 0, 0, 0⟩)
abbrev sBox : Stmt := topS 14
abbrev sTake : Stmt := topS 15
theorem scBox : FnScope ["_law_script", "_law_k", "_law_own", "_law_cell", "_law_seed"] ["_law_script", "_law_k", "_law_own"] (defScope sBox) := ⟨rfl, rfl, rfl, by decide +kernel, rfl, by decide +kernel, by decide +kernel⟩
theorem scTake : FnScope ["_law_box_here", "_law_many", "_law_digit", "_law_raw", "_law_wide"] ["_law_box_here", "_law_many"] (defScope sTake) := ⟨rfl, rfl, rfl, by decide +kernel, rfl, by decide +kernel, by decide +kernel⟩
section
variable {P : Program} {w : World} {K : PySem.W.Frag} {mg : Str → Option Value} {base : Heap}
theorem ok_take {f : Addr} {fd : FuncData} (F : Fun K "_law_take" "_law_take" sTake f fd) (T : Glo mg) : FnOk P w K mg base CX0 1 f fd ["_law_box_here", "_law_many"] spTake := by
  refine F.ok scTake (fun vs H Q E h => ?_) (fun cdv A outer s H vs Q E hr h => ?_)
  · obtain ⟨p, m, rfl, _⟩ := h
    rfl
  · obtain ⟨p, m, rfl, ⟨b, s, c, hp, s0, s1⟩, m0, m1, k⟩ := h
    have hm : CDivW b m := wide_div m0 (by omega : m.natAbs < 2 ^ 90) (by decide) (by decide)
    refine ⟨_, (pss_cons (ps_if (pt_cmpR op_gt (pe_ix ix_list (pv 0) pe_int (fun _ _ => rfl)) pe_int (nomark _)) (pss_cons (ps_set (i := 2) scTake.nd rfl (Or.inl rfl) (pe_op op_mod (pe_ix ix_list (pv 0) pe_int (fun _ _ => rfl)) (pv 1)))
      (pss_cons (ps_asg (pe_op op_fdivW (pe_ix ix_list (pv 0) pe_int (fun _ _ => rfl)) (pv 1)) (pg_sub (pv 0) pe_int set_list))
      (pss_one (ps_ret (pv 2))))) pss_nil)
      (pss_cons (ps_asg (pe_op op_add (pe_ix ix_list (pv 0) pe_int (fun _ _ => rfl)) pe_int) (pg_sub (pv 0) pe_int set_list))
      (pss_cons (ps_set (i := 3) scTake.nd rfl (Or.inl rfl) (pe_op op_mod (pe_op op_mul (pe_op op_add (pe_ix ix_list (pv 0) pe_int (fun _ _ => rfl)) (pe_op op_mul pe_int (pe_ix ix_list (pv 0) pe_int (fun _ _ => rfl)))) pe_int) pe_int))
      (pss_cons (ps_asg (pe_op op_add (pe_op op_mod (pe_op op_add (pe_op op_mul (pv 3) pe_int) pe_int) pe_int) pe_int) (pg_sub (pv 0) pe_int set_list))
      (pss_cons (ps_if (pt_cmpR op_lt (pv 1) (pe_op op_pow pe_int pe_int) (nomark _)) (pss_one (ps_ret (pe_op op_mod (pe_op op_fdiv (pe_op op_add (pe_op op_mul (pv 3) pe_int) (pe_ix ix_list (pv 0) pe_int (fun _ _ => rfl))) pe_int) (pv 1)))) pss_nil)
      (pss_cons (ps_set (i := 4) scTake.nd rfl (Or.inl rfl) (pe_op op_mul (pe_op op_add (pe_op op_mul (pv 3) pe_int) (pe_ix ix_list (pv 0) pe_int (fun _ _ => rfl))) (pe_op op_pow pe_int pe_int)))
      (pss_one (ps_ret (pe_op op_mod (pe_op op_add (pe_op op_add (pv 4) (pe_op op_mul (pe_op op_pow (pe_ix ix_list (pv 0) pe_int (fun _ _ => rfl)) pe_int) pe_int)) (pv 3)) (pv 1)))))))))), ?_⟩
    refine ⟨_, rfl, p, _, _, _, rfl, rfl, SqL.of hp, rfl, _, _, rfl, rfl, _, rfl, ?_⟩
    refine ite2 (fun hb => ?_) (fun hb => ?_)
    · refine ⟨_, rfl, p, _, _, _, rfl, rfl, SqL.of hp, rfl, _, rfl, _, _, rfl, rfl, m0, ?_⟩
      refine ⟨_, rfl, p, _, _, _, rfl, rfl, SqL.of hp, rfl, _, rfl, _, _, rfl, rfl, hm, _, rfl, p, _, _, _, rfl, rfl, hp, rfl, ?_⟩
      refine ⟨_, rfl, ?_⟩
      exact k _ s c _ s0 s1 (Int.emod_nonneg _ (by omega)) (Int.emod_lt_of_pos _ m0)
    · refine ⟨_, rfl, p, _, _, _, rfl, rfl, SqL.of hp, rfl, _, _, rfl, rfl, _, rfl, p, _, _, _, rfl, rfl, hp, rfl, ?_⟩
      have h1 : (upd H p (.lst [.int b, .int s, .int (c + 1)])) p = some (.lst [.int b, .int s, .int (c + 1)]) := upd_same
      refine ⟨_, rfl, p, _, _, _, rfl, rfl, SqL.of h1, rfl, _, rfl, p, _, _, _, rfl, rfl, SqL.of h1, rfl, _, _, rfl, rfl, .inl ⟨by decide, by decide⟩, _, _, rfl, rfl, _, _, rfl, rfl, .inr ⟨by decide, by decide⟩, _, _, rfl, rfl, (by show (0 : Int) < 2147483647; decide), ?_⟩
      dsimp only
      generalize hraw : (s + 104729 * (c + 1)) * 69623 % 2147483647 = raw
      have r0 : 0 ≤ raw := by omega
      have r1 : raw < 2147483647 := by omega
      refine ⟨_, rfl, _, _, rfl, rfl, .inr ⟨by decide, by decide⟩, _, _, rfl, rfl, _, _, rfl, rfl, (by show (0 : Int) < 2147483629; decide), _, _, rfl, rfl, _, rfl, p, _, _, _, rfl, rfl, h1, rfl, ?_⟩
      dsimp only
      generalize hs2 : (raw * 48271 + 30103) % 2147483629 + 1 = s2
      have s20 : 0 ≤ s2 := by omega
      have s21 : s2 < 4294967296 := by omega
      have e2 : upd (upd H p (.lst [.int b, .int s, .int (c + 1)])) p (.lst [.int b, .int s2, .int (c + 1)]) = upd H p (.lst [.int b, .int s2, .int (c + 1)]) := upd_upd
      have h2 : (upd (upd H p (.lst [.int b, .int s, .int (c + 1)])) p (.lst [.int b, .int s2, .int (c + 1)])) p = some (.lst [.int b, .int s2, .int (c + 1)]) := upd_same
      have kk := fun r (r0 : 0 ≤ r) (r1 : r < m) => k b s2 (c + 1) r s20 s21 r0 r1
      rw [← e2] at kk
      refine ⟨_, rfl, _, _, rfl, rfl, ⟨by decide, by decide, by decide⟩, _, _, rfl, rfl, _, rfl, ?_⟩
      refine ite2 (fun hb => ?_) (fun hb => ?_)
      · refine ⟨_, rfl, _, _, rfl, rfl, .inr ⟨by decide, by decide⟩, _, rfl, p, _, _, _, rfl, rfl, SqL.of h2, rfl, _, _, rfl, rfl, _, _, rfl, rfl, ⟨by decide, by decide⟩, _, rfl, _, _, rfl, rfl, m0, ?_⟩
        exact kk _ (Int.emod_nonneg _ (by omega)) (Int.emod_lt_of_pos _ m0)
      · refine ⟨_, rfl, _, _, rfl, rfl, .inr ⟨by decide, by decide⟩, _, rfl, p, _, _, _, rfl, rfl, SqL.of h2, rfl, _, _, rfl, rfl, _, _, rfl, rfl, ⟨by decide, by decide, by decide⟩, _, _, rfl, rfl, .inl ⟨by omega, by omega⟩, ?_⟩
        refine ⟨_, rfl, _, rfl, p, _, _, _, rfl, rfl, SqL.of h2, rfl, _, _, rfl, rfl, ⟨by decide, by decide, by omega⟩, _, _, rfl, rfl, .inr ⟨by decide, by decide⟩, _, _, rfl, rfl, _, rfl, _, _, rfl, rfl, _, rfl, _, _, rfl, rfl, m0, ?_⟩
        exact kk _ (Int.emod_nonneg _ (by omega)) (Int.emod_lt_of_pos _ m0)
theorem atI_two {x y : V} (b : Bool) : atI [x, y] (if b = true then 1 else 0) = some (if b = true then y else x) := by cases b <;> rfl
theorem atI_ints {ns : List Int} {k : Int} (h : k < (ns.length : Int)) (h0 : 0 ≤ k) : atI (ns.map V.int) k = some (V.int (ns.getD k.toNat 0)) := by
  have hk : k.toNat < ns.length := by omega
  unfold atI ixN
  rw [List.length_map, if_pos h0, if_pos h]
  show (ns.map V.int)[k.toNat]? = _
  rw [List.getElem?_map, List.getElem?_eq_getElem hk]
  show some (V.int _) = _
  rw [List.getD_eq_getElem?_getD, List.getElem?_eq_getElem hk]
  rfl
theorem ok_box {f : Addr} {fd : FuncData} (F : Fun K "_law_box" "_law_box" sBox f fd) (T : Glo mg) : FnOk P w K mg base CX0 1 f fd ["_law_script", "_law_k", "_law_own"] (spBox K) := by
  refine F.ok scBox (fun vs H Q E h => ?_) (fun cdv A outer s H vs Q E hr h => ?_)
  · obtain ⟨a, ns, k, own, rfl, _⟩ := h
    rfl
  · obtain ⟨a, ns, k, own, rfl, hS, hl, k0, k1, o0, o1, q⟩ := h
    refine ⟨_, (pss_cons (ps_set (i := 3) scBox.nd rfl (Or.inl rfl) (pe_op op_add (pe_op op_add (pe_op op_mul pe_int (pv 1)) (pe_op op_mul pe_int (pv 2))) pe_int))
      (pss_cut (ps_if (pt_cmpR op_lt (pv 1) (pe_callB call_len_seq (by rfl) T.len PySem.boot_len (pa_cons (pv 0) pa_nil)) (nomark _)) (pss_one (ps_set (i := 3) scBox.nd rfl (Or.inl rfl) (pe_callB call_abs (by rfl) T.abs (by decide +kernel) (pa_cons (pe_ix ix_list (pv 0) (pv 1) (fun _ _ => rfl)) pa_nil)))) (pss_one (ps_if (pt_cmpR op_gt (pe_callB call_len_seq (by rfl) T.len PySem.boot_len (pa_cons (pv 0) pa_nil)) pe_int (nomark _)) (pss_one (ps_set (i := 3) scBox.nd rfl (Or.inl rfl) (pe_op op_add (pv 3) (pe_op op_mul (pe_op op_mod (pe_callB call_abs (by rfl) T.abs (by decide +kernel) (pa_cons (pe_ix ix_list (pv 0) (pe_op op_mod (pv 1) (pe_callB call_len_seq (by rfl) T.len PySem.boot_len (pa_cons (pv 0) pa_nil))) (fun _ _ => rfl)) pa_nil)) pe_int) pe_int)))) pss_nil)))
      (pss_cons (ps_set (i := 4) scBox.nd rfl (Or.inl rfl) (pe_op op_add (pe_op op_mod (pe_op op_add (pe_op op_mul (pe_op op_mod (pv 3) pe_int) pe_int) (pe_op op_mul pe_int (pe_op op_add (pv 1) (pe_op op_mul pe_int (pv 2))))) pe_int) pe_int))
      (pss_one (ps_ret (pe_lst (pa_cons (pe_ix ix_list (pe_lst (pa_cons pe_int (pa_cons (pv 3) pa_nil))) (pe_callTy call_int1 (by rfl) T.int (by decide +kernel) (pa_cons (pe_cmpR op_ge (pv 3) (pe_op op_pow pe_int pe_int) (nomark _)) pa_nil)) (fun _ _ => rfl)) (pa_cons (pv 4) (pa_cons pe_int pa_nil))))))))), ?_⟩
    refine ⟨_, rfl, _, _, rfl, rfl, .inl ⟨by decide, by decide⟩, _, rfl, _, _, rfl, rfl, .inl ⟨by decide, by decide⟩, _, _, rfl, rfl, _, _, rfl, rfl, ?_⟩
    refine ⟨fun σ' H' => ∃ cell : Int, σ' = [some (.ref a), some (.int k), some (.int own), some (.int cell), none] ∧ H' = H, ?_, ?_⟩
    · refine ⟨_, rfl, _, rfl, a, _, rfl, .inl hS, _, _, rfl, rfl, _, rfl, ?_⟩
      refine ite2 (fun hb => ?_) (fun hb => ?_)
      · have hk : k < (ns.length : Int) := by
          have z := of_decide_eq_true hb
          rw [List.length_map] at z
          exact z
        refine ⟨_, rfl, _, rfl, a, _, _, _, rfl, rfl, hS, (atI_ints hk k0), _, rfl, _, rfl, rfl⟩
      · refine ⟨_, rfl, a, _, rfl, .inl hS, _, _, rfl, rfl, _, rfl, ?_⟩
        refine ite2 (fun hc => ?_) (fun hc => ?_)
        · have hn : (0 : Int) < (ns.length : Int) := by
            have z := of_decide_eq_true hc
            rw [List.length_map] at z
            exact z
          refine ⟨_, rfl, _, rfl, _, rfl, _, rfl, a, _, rfl, .inl hS, _, _, rfl, rfl, (by rw [List.length_map]; exact hn), a, _, _, _, rfl, rfl, hS, (atI_ints (by rw [List.length_map]; exact Int.emod_lt_of_pos _ hn) (Int.emod_nonneg _ (by rw [List.length_map]; omega))), _, rfl, _, _, rfl, rfl, (by show (0 : Int) < 2147483629; decide), _, _, rfl, rfl, .inr ⟨by decide, by decide⟩, _, _, rfl, rfl, _, rfl, rfl⟩
        · exact ⟨_, rfl, rfl⟩
    · rintro σ' H' ⟨cell, rfl, rfl⟩
      refine ⟨_, rfl, _, _, rfl, rfl, (by show (0 : Int) < 2147483629; decide), _, _, rfl, rfl, .inr ⟨by decide, by decide⟩, _, rfl, _, rfl, _, _, rfl, rfl, .inl ⟨by decide, by decide⟩, _, _, rfl, rfl, _, _, rfl, rfl, .inl ⟨by decide, by decide⟩, _, _, rfl, rfl, _, _, rfl, rfl, (by show (0 : Int) < 2147483629; decide), _, _, rfl, rfl, ?_⟩
      refine ⟨_, rfl, (by show 2 ≤ sizeLine; decide), fun p0 n0 => ?_⟩
      refine ⟨_, rfl, _, _, rfl, rfl, ⟨by decide, by decide, by decide⟩, _, _, rfl, rfl, .inr ⟨_, rfl, ?_⟩⟩
      refine ⟨p0, _, _, _, rfl, rfl, SqL.of upd_same, atI_two _, _, rfl, (by show 3 ≤ sizeLine; decide), fun p1 n1 => ?_⟩
      have n10 : p1 ≠ p0 := fun z => by rw [z, upd_same] at n1; cases n1
      have n1' : H' p1 = none := by rw [upd_ne n10] at n1; exact n1
      dsimp only
      generalize hs2 : (cell % 2147483629 * 48271 + 40692 * (k + 11 * own)) % 2147483629 + 1 = s2
      have s20 : 0 ≤ s2 := by omega
      have s21 : s2 < 4294967296 := by omega
      have hv : ∃ b : Int, (if (decide (10 ^ (Int.toNat 18) ≤ cell)) = true then V.int cell else V.int 0) = V.int b := by
        cases decide (10 ^ (Int.toNat 18) ≤ cell)
        · exact ⟨0, rfl⟩
        · exact ⟨cell, rfl⟩
      obtain ⟨b, hb⟩ := hv
      refine q _ p1 (fun x o e => ?_) n1' ⟨b, s2, 0, by rw [← hb]; exact upd_same, s20, s21⟩
      rw [upd_ne (ne_of_none e n1'), upd_ne (ne_of_none e n0)]
      exact e
end
end Law

set_option Elab.async false
set_option linter.all false
set_option maxRecDepth 100000
set_option maxHeartbeats 1000000
namespace Law
open PySem PySem.Spec PyProof.Rows L2 Cor

abbrev sNoWorth : Stmt := inClass (topS 2) 0
abbrev sNoDeal : Stmt := inClass (topS 3) 0
abbrev sNoStart : Stmt := inClass (topS 4) 0
abbrev sNoHouse : Stmt := inClass (topS 5) 0
abbrev sNoOrder : Stmt := inClass (topS 6) 0
abbrev sNoCommand : Stmt := inClass (topS 7) 0
abbrev sRefused : Stmt := inClass (topS 8) 0
abbrev sNoRoom : Stmt := inClass (topS 9) 0
abbrev sNoNumber : Stmt := inClass (topS 10) 0
abbrev sUnknownWord : Stmt := inClass (topS 11) 0
abbrev sNotDone : Stmt := inClass (topS 12) 0
abbrev sValue : Stmt := topS 16
abbrev sKinds : Stmt := topS 17
abbrev sDue : Stmt := topS 18
abbrev sLaw : Stmt := topS 19
theorem scValue : FnScope ["_law_box_here", "_law_some"] ["_law_box_here"] (defScope sValue) := ⟨rfl, rfl, rfl, by decide +kernel, rfl, by decide +kernel, by decide +kernel⟩
theorem scKinds : FnScope ["_law_error", "_law_found"] ["_law_error"] (defScope sKinds) := ⟨rfl, rfl, rfl, by decide +kernel, rfl, by decide +kernel, by decide +kernel⟩
theorem scDue : FnScope ["_law_own", "_law_bases", "_law_place"] ["_law_own", "_law_bases"] (defScope sDue) := ⟨rfl, rfl, rfl, by decide +kernel, rfl, by decide +kernel, by decide +kernel⟩
theorem scLaw : FnScope ["_law_script", "_law_k", "_law_box_here", "_law_one", "_law_errors", "_law_place", "_law_error", "_law_others", "_law_own", "_law_bases", "_law_found", "_law_named"] ["_law_script"] (defScope sLaw) := ⟨rfl, rfl, rfl, by decide +kernel, rfl, by decide +kernel, by decide +kernel⟩
theorem scNoWorth : FnScope ["self", "value"] ["self", "value"] (defScope sNoWorth) := ⟨rfl, rfl, rfl, by decide +kernel, rfl, by decide +kernel, by decide +kernel⟩
theorem scNoDeal : FnScope ["self", "row"] ["self", "row"] (defScope sNoDeal) := ⟨rfl, rfl, rfl, by decide +kernel, rfl, by decide +kernel, by decide +kernel⟩
theorem scNoStart : FnScope ["self", "row"] ["self", "row"] (defScope sNoStart) := ⟨rfl, rfl, rfl, by decide +kernel, rfl, by decide +kernel, by decide +kernel⟩
theorem scNoHouse : FnScope ["self", "house"] ["self", "house"] (defScope sNoHouse) := ⟨rfl, rfl, rfl, by decide +kernel, rfl, by decide +kernel, by decide +kernel⟩
theorem scNoOrder : FnScope ["self", "order"] ["self", "order"] (defScope sNoOrder) := ⟨rfl, rfl, rfl, by decide +kernel, rfl, by decide +kernel, by decide +kernel⟩
theorem scNoCommand : FnScope ["self", "row"] ["self", "row"] (defScope sNoCommand) := ⟨rfl, rfl, rfl, by decide +kernel, rfl, by decide +kernel, by decide +kernel⟩
theorem scRefused : FnScope ["self", "at"] ["self", "at"] (defScope sRefused) := ⟨rfl, rfl, rfl, by decide +kernel, rfl, by decide +kernel, by decide +kernel⟩
theorem scNoRoom : FnScope ["self", "room"] ["self", "room"] (defScope sNoRoom) := ⟨rfl, rfl, rfl, by decide +kernel, rfl, by decide +kernel, by decide +kernel⟩
theorem scNoNumber : FnScope ["self", "number"] ["self", "number"] (defScope sNoNumber) := ⟨rfl, rfl, rfl, by decide +kernel, rfl, by decide +kernel, by decide +kernel⟩
theorem scUnknownWord : FnScope ["self", "number"] ["self", "number"] (defScope sUnknownWord) := ⟨rfl, rfl, rfl, by decide +kernel, rfl, by decide +kernel, by decide +kernel⟩
theorem scNotDone : FnScope ["self", "number"] ["self", "number"] (defScope sNotDone) := ⟨rfl, rfl, rfl, by decide +kernel, rfl, by decide +kernel, by decide +kernel⟩

theorem same_upd_of {H H' : Hp} {p : Addr} {o : HO} (S : Same H H') (n : H p = none) : Same H (upd H' p o) := fun b u e => by rw [upd_ne (ne_of_none e n)]; exact S b u e
/-- what the text's top has left, for this law -/
structure Tx (K : PySem.W.Frag) (mg : Str → Option Value) (S CNoWorth CNoDeal CNoStart CNoHouse CNoOrder CNoCommand CRefused CNoRoom CNoNumber CUnknownWord CNotDone : Addr) (mc : Value) : Prop extends Glo mg where
  isinstance : mg "isinstance" = none
  repr : mg "repr" = none
  enumerate : mg "enumerate" = none
  mStoreError : mg "StoreError" = some (.ref S)
  rdS : ClX.CRead K S mc
  vS : PySem.W.findCls K (.ref S) mc "__init__" = some (.val (.builtin "ValueError.__init__"))
  nValueError : mg "ValueError" = none
  nLookupError : mg "LookupError" = none
  vLookupError : PySem.W.findCls K (.type "LookupError") (.type "type") "__init__" = some (.val (.builtin "LookupError.__init__"))
  nIndexError : mg "IndexError" = none
  vIndexError : PySem.W.findCls K (.type "IndexError") (.type "type") "__init__" = some (.val (.builtin "IndexError.__init__"))
  nKeyError : mg "KeyError" = none
  vKeyError : PySem.W.findCls K (.type "KeyError") (.type "type") "__init__" = some (.val (.builtin "KeyError.__init__"))
  nArithmeticError : mg "ArithmeticError" = none
  vArithmeticError : PySem.W.findCls K (.type "ArithmeticError") (.type "type") "__init__" = some (.val (.builtin "ArithmeticError.__init__"))
  mNoWorth : mg "NoWorth" = some (.ref CNoWorth)
  xNoWorth : Exn K CNoWorth "ValueError.__new__" "ValueError.__init__"
  fNoWorth : PySem.W.findIn K (.ref CNoWorth) "value" = some none
  mNoDeal : mg "NoDeal" = some (.ref CNoDeal)
  xNoDeal : Exn K CNoDeal "ValueError.__new__" "ValueError.__init__"
  fNoDeal : PySem.W.findIn K (.ref CNoDeal) "row" = some none
  mNoStart : mg "NoStart" = some (.ref CNoStart)
  xNoStart : Exn K CNoStart "ValueError.__new__" "ValueError.__init__"
  fNoStart : PySem.W.findIn K (.ref CNoStart) "row" = some none
  mNoHouse : mg "NoHouse" = some (.ref CNoHouse)
  xNoHouse : Exn K CNoHouse "ValueError.__new__" "ValueError.__init__"
  fNoHouse : PySem.W.findIn K (.ref CNoHouse) "house" = some none
  mNoOrder : mg "NoOrder" = some (.ref CNoOrder)
  xNoOrder : Exn K CNoOrder "ValueError.__new__" "ValueError.__init__"
  fNoOrder : PySem.W.findIn K (.ref CNoOrder) "order" = some none
  mNoCommand : mg "NoCommand" = some (.ref CNoCommand)
  xNoCommand : Exn K CNoCommand "ValueError.__new__" "ValueError.__init__"
  fNoCommand : PySem.W.findIn K (.ref CNoCommand) "row" = some none
  mRefused : mg "Refused" = some (.ref CRefused)
  xRefused : Exn K CRefused "ValueError.__new__" "ValueError.__init__"
  fRefused : PySem.W.findIn K (.ref CRefused) "at" = some none
  mNoRoom : mg "NoRoom" = some (.ref CNoRoom)
  xNoRoom : Exn K CNoRoom "LookupError.__new__" "LookupError.__init__"
  fNoRoom : PySem.W.findIn K (.ref CNoRoom) "room" = some none
  mNoNumber : mg "NoNumber" = some (.ref CNoNumber)
  xNoNumber : Exn K CNoNumber "IndexError.__new__" "IndexError.__init__"
  fNoNumber : PySem.W.findIn K (.ref CNoNumber) "number" = some none
  mUnknownWord : mg "UnknownWord" = some (.ref CUnknownWord)
  xUnknownWord : Exn K CUnknownWord "LookupError.__new__" "KeyError.__init__"
  fUnknownWord : PySem.W.findIn K (.ref CUnknownWord) "number" = some none
  mNotDone : mg "NotDone" = some (.ref CNotDone)
  xNotDone : Exn K CNotDone "ArithmeticError.__new__" "ArithmeticError.__init__"
  fNotDone : PySem.W.findIn K (.ref CNotDone) "number" = some none
section
variable {P : Program} {w : World} {K : PySem.W.Frag} {mg : Str → Option Value} {base : Heap} {S CNoWorth CNoDeal CNoStart CNoHouse CNoOrder CNoCommand CRefused CNoRoom CNoNumber CUnknownWord CNotDone : Addr} {mc : Value}
theorem ok_NoWorth {f : Addr} {fd : FuncData} (F : Fun K "__init__" "NoWorth.__init__" sNoWorth f fd) (T : Tx K mg S CNoWorth CNoDeal CNoStart CNoHouse CNoOrder CNoCommand CRefused CNoRoom CNoNumber CUnknownWord CNotDone mc) : FnOk P w K mg base CX0 1 f fd ["self", "value"] (spInit CNoWorth "value") := by
  refine F.ok scNoWorth (fun vs H Q E h => ?_) (fun cdv A outer s H vs Q E hr h => ?_)
  · obtain ⟨a, v, rfl, _⟩ := h
    rfl
  · obtain ⟨a, v, rfl, ha, q⟩ := h
    refine ⟨_, pss_cons (ps_expr (pe_iniO rfl T.mStoreError T.rdS T.vS (pa_cons (pv 0) (pa_cons pe_str pa_nil)))) (pss_one (ps_fld1 (pv 0) (pv 1))), ?_⟩
    refine ⟨_, rfl, a, CNoWorth, _, _, rfl, (by show 1 ≤ 1000; decide), T.xNoWorth, ha, ?_⟩
    exact ⟨_, rfl, _, rfl, a, CNoWorth, _, _, rfl, T.xNoWorth, T.fNoWorth, ha, fun dx hd hn => q dx hd hn⟩
theorem ok_NoDeal {f : Addr} {fd : FuncData} (F : Fun K "__init__" "NoDeal.__init__" sNoDeal f fd) (T : Tx K mg S CNoWorth CNoDeal CNoStart CNoHouse CNoOrder CNoCommand CRefused CNoRoom CNoNumber CUnknownWord CNotDone mc) : FnOk P w K mg base CX0 1 f fd ["self", "row"] (spInit CNoDeal "row") := by
  refine F.ok scNoDeal (fun vs H Q E h => ?_) (fun cdv A outer s H vs Q E hr h => ?_)
  · obtain ⟨a, v, rfl, _⟩ := h
    rfl
  · obtain ⟨a, v, rfl, ha, q⟩ := h
    refine ⟨_, pss_cons (ps_expr (pe_iniO rfl T.mStoreError T.rdS T.vS (pa_cons (pv 0) (pa_cons pe_str pa_nil)))) (pss_one (ps_fld1 (pv 0) (pv 1))), ?_⟩
    refine ⟨_, rfl, a, CNoDeal, _, _, rfl, (by show 1 ≤ 1000; decide), T.xNoDeal, ha, ?_⟩
    exact ⟨_, rfl, _, rfl, a, CNoDeal, _, _, rfl, T.xNoDeal, T.fNoDeal, ha, fun dx hd hn => q dx hd hn⟩
theorem ok_NoStart {f : Addr} {fd : FuncData} (F : Fun K "__init__" "NoStart.__init__" sNoStart f fd) (T : Tx K mg S CNoWorth CNoDeal CNoStart CNoHouse CNoOrder CNoCommand CRefused CNoRoom CNoNumber CUnknownWord CNotDone mc) : FnOk P w K mg base CX0 1 f fd ["self", "row"] (spInit CNoStart "row") := by
  refine F.ok scNoStart (fun vs H Q E h => ?_) (fun cdv A outer s H vs Q E hr h => ?_)
  · obtain ⟨a, v, rfl, _⟩ := h
    rfl
  · obtain ⟨a, v, rfl, ha, q⟩ := h
    refine ⟨_, pss_cons (ps_expr (pe_iniO rfl T.mStoreError T.rdS T.vS (pa_cons (pv 0) (pa_cons pe_str pa_nil)))) (pss_one (ps_fld1 (pv 0) (pv 1))), ?_⟩
    refine ⟨_, rfl, a, CNoStart, _, _, rfl, (by show 1 ≤ 1000; decide), T.xNoStart, ha, ?_⟩
    exact ⟨_, rfl, _, rfl, a, CNoStart, _, _, rfl, T.xNoStart, T.fNoStart, ha, fun dx hd hn => q dx hd hn⟩
theorem ok_NoHouse {f : Addr} {fd : FuncData} (F : Fun K "__init__" "NoHouse.__init__" sNoHouse f fd) (T : Tx K mg S CNoWorth CNoDeal CNoStart CNoHouse CNoOrder CNoCommand CRefused CNoRoom CNoNumber CUnknownWord CNotDone mc) : FnOk P w K mg base CX0 1 f fd ["self", "house"] (spInit CNoHouse "house") := by
  refine F.ok scNoHouse (fun vs H Q E h => ?_) (fun cdv A outer s H vs Q E hr h => ?_)
  · obtain ⟨a, v, rfl, _⟩ := h
    rfl
  · obtain ⟨a, v, rfl, ha, q⟩ := h
    refine ⟨_, pss_cons (ps_expr (pe_iniO rfl T.mStoreError T.rdS T.vS (pa_cons (pv 0) (pa_cons pe_str pa_nil)))) (pss_one (ps_fld1 (pv 0) (pv 1))), ?_⟩
    refine ⟨_, rfl, a, CNoHouse, _, _, rfl, (by show 1 ≤ 1000; decide), T.xNoHouse, ha, ?_⟩
    exact ⟨_, rfl, _, rfl, a, CNoHouse, _, _, rfl, T.xNoHouse, T.fNoHouse, ha, fun dx hd hn => q dx hd hn⟩
theorem ok_NoOrder {f : Addr} {fd : FuncData} (F : Fun K "__init__" "NoOrder.__init__" sNoOrder f fd) (T : Tx K mg S CNoWorth CNoDeal CNoStart CNoHouse CNoOrder CNoCommand CRefused CNoRoom CNoNumber CUnknownWord CNotDone mc) : FnOk P w K mg base CX0 1 f fd ["self", "order"] (spInit CNoOrder "order") := by
  refine F.ok scNoOrder (fun vs H Q E h => ?_) (fun cdv A outer s H vs Q E hr h => ?_)
  · obtain ⟨a, v, rfl, _⟩ := h
    rfl
  · obtain ⟨a, v, rfl, ha, q⟩ := h
    refine ⟨_, pss_cons (ps_expr (pe_iniO rfl T.mStoreError T.rdS T.vS (pa_cons (pv 0) (pa_cons pe_str pa_nil)))) (pss_one (ps_fld1 (pv 0) (pv 1))), ?_⟩
    refine ⟨_, rfl, a, CNoOrder, _, _, rfl, (by show 1 ≤ 1000; decide), T.xNoOrder, ha, ?_⟩
    exact ⟨_, rfl, _, rfl, a, CNoOrder, _, _, rfl, T.xNoOrder, T.fNoOrder, ha, fun dx hd hn => q dx hd hn⟩
theorem ok_NoCommand {f : Addr} {fd : FuncData} (F : Fun K "__init__" "NoCommand.__init__" sNoCommand f fd) (T : Tx K mg S CNoWorth CNoDeal CNoStart CNoHouse CNoOrder CNoCommand CRefused CNoRoom CNoNumber CUnknownWord CNotDone mc) : FnOk P w K mg base CX0 1 f fd ["self", "row"] (spInit CNoCommand "row") := by
  refine F.ok scNoCommand (fun vs H Q E h => ?_) (fun cdv A outer s H vs Q E hr h => ?_)
  · obtain ⟨a, v, rfl, _⟩ := h
    rfl
  · obtain ⟨a, v, rfl, ha, q⟩ := h
    refine ⟨_, pss_cons (ps_expr (pe_iniO rfl T.mStoreError T.rdS T.vS (pa_cons (pv 0) (pa_cons pe_str pa_nil)))) (pss_one (ps_fld1 (pv 0) (pv 1))), ?_⟩
    refine ⟨_, rfl, a, CNoCommand, _, _, rfl, (by show 1 ≤ 1000; decide), T.xNoCommand, ha, ?_⟩
    exact ⟨_, rfl, _, rfl, a, CNoCommand, _, _, rfl, T.xNoCommand, T.fNoCommand, ha, fun dx hd hn => q dx hd hn⟩
theorem ok_Refused {f : Addr} {fd : FuncData} (F : Fun K "__init__" "Refused.__init__" sRefused f fd) (T : Tx K mg S CNoWorth CNoDeal CNoStart CNoHouse CNoOrder CNoCommand CRefused CNoRoom CNoNumber CUnknownWord CNotDone mc) : FnOk P w K mg base CX0 1 f fd ["self", "at"] (spInit CRefused "at") := by
  refine F.ok scRefused (fun vs H Q E h => ?_) (fun cdv A outer s H vs Q E hr h => ?_)
  · obtain ⟨a, v, rfl, _⟩ := h
    rfl
  · obtain ⟨a, v, rfl, ha, q⟩ := h
    refine ⟨_, pss_cons (ps_expr (pe_iniO rfl T.mStoreError T.rdS T.vS (pa_cons (pv 0) (pa_cons pe_str pa_nil)))) (pss_one (ps_fld1 (pv 0) (pv 1))), ?_⟩
    refine ⟨_, rfl, a, CRefused, _, _, rfl, (by show 1 ≤ 1000; decide), T.xRefused, ha, ?_⟩
    exact ⟨_, rfl, _, rfl, a, CRefused, _, _, rfl, T.xRefused, T.fRefused, ha, fun dx hd hn => q dx hd hn⟩
theorem ok_NoRoom {f : Addr} {fd : FuncData} (F : Fun K "__init__" "NoRoom.__init__" sNoRoom f fd) (T : Tx K mg S CNoWorth CNoDeal CNoStart CNoHouse CNoOrder CNoCommand CRefused CNoRoom CNoNumber CUnknownWord CNotDone mc) : FnOk P w K mg base CX0 1 f fd ["self", "room"] (spInit CNoRoom "room") := by
  refine F.ok scNoRoom (fun vs H Q E h => ?_) (fun cdv A outer s H vs Q E hr h => ?_)
  · obtain ⟨a, v, rfl, _⟩ := h
    rfl
  · obtain ⟨a, v, rfl, ha, q⟩ := h
    refine ⟨_, pss_cons (ps_expr (pe_iniT (T := "LookupError") rfl T.nLookupError (by decide +kernel) (by kernel_rfl) (by decide +kernel) T.vLookupError (pa_cons (pv 0) (pa_cons pe_str pa_nil)))) (pss_one (ps_fld1 (pv 0) (pv 1))), ?_⟩
    refine ⟨_, rfl, a, CNoRoom, _, _, rfl, (by show 1 ≤ 1000; decide), T.xNoRoom, ha, ?_⟩
    exact ⟨_, rfl, _, rfl, a, CNoRoom, _, _, rfl, T.xNoRoom, T.fNoRoom, ha, fun dx hd hn => q dx hd hn⟩
theorem ok_NoNumber {f : Addr} {fd : FuncData} (F : Fun K "__init__" "NoNumber.__init__" sNoNumber f fd) (T : Tx K mg S CNoWorth CNoDeal CNoStart CNoHouse CNoOrder CNoCommand CRefused CNoRoom CNoNumber CUnknownWord CNotDone mc) : FnOk P w K mg base CX0 1 f fd ["self", "number"] (spInit CNoNumber "number") := by
  refine F.ok scNoNumber (fun vs H Q E h => ?_) (fun cdv A outer s H vs Q E hr h => ?_)
  · obtain ⟨a, v, rfl, _⟩ := h
    rfl
  · obtain ⟨a, v, rfl, ha, q⟩ := h
    refine ⟨_, pss_cons (ps_expr (pe_iniT (T := "IndexError") rfl T.nIndexError (by decide +kernel) (by kernel_rfl) (by decide +kernel) T.vIndexError (pa_cons (pv 0) (pa_cons pe_str pa_nil)))) (pss_one (ps_fld1 (pv 0) (pv 1))), ?_⟩
    refine ⟨_, rfl, a, CNoNumber, _, _, rfl, (by show 1 ≤ 1000; decide), T.xNoNumber, ha, ?_⟩
    exact ⟨_, rfl, _, rfl, a, CNoNumber, _, _, rfl, T.xNoNumber, T.fNoNumber, ha, fun dx hd hn => q dx hd hn⟩
theorem ok_UnknownWord {f : Addr} {fd : FuncData} (F : Fun K "__init__" "UnknownWord.__init__" sUnknownWord f fd) (T : Tx K mg S CNoWorth CNoDeal CNoStart CNoHouse CNoOrder CNoCommand CRefused CNoRoom CNoNumber CUnknownWord CNotDone mc) : FnOk P w K mg base CX0 1 f fd ["self", "number"] (spInit CUnknownWord "number") := by
  refine F.ok scUnknownWord (fun vs H Q E h => ?_) (fun cdv A outer s H vs Q E hr h => ?_)
  · obtain ⟨a, v, rfl, _⟩ := h
    rfl
  · obtain ⟨a, v, rfl, ha, q⟩ := h
    refine ⟨_, pss_cons (ps_expr (pe_iniT (T := "KeyError") rfl T.nKeyError (by decide +kernel) (by kernel_rfl) (by decide +kernel) T.vKeyError (pa_cons (pv 0) (pa_cons pe_str pa_nil)))) (pss_one (ps_fld1 (pv 0) (pv 1))), ?_⟩
    refine ⟨_, rfl, a, CUnknownWord, _, _, rfl, (by show 1 ≤ 1000; decide), T.xUnknownWord, ha, ?_⟩
    exact ⟨_, rfl, _, rfl, a, CUnknownWord, _, _, rfl, T.xUnknownWord, T.fUnknownWord, ha, fun dx hd hn => q dx hd hn⟩
theorem ok_NotDone {f : Addr} {fd : FuncData} (F : Fun K "__init__" "NotDone.__init__" sNotDone f fd) (T : Tx K mg S CNoWorth CNoDeal CNoStart CNoHouse CNoOrder CNoCommand CRefused CNoRoom CNoNumber CUnknownWord CNotDone mc) : FnOk P w K mg base CX0 1 f fd ["self", "number"] (spInit CNotDone "number") := by
  refine F.ok scNotDone (fun vs H Q E h => ?_) (fun cdv A outer s H vs Q E hr h => ?_)
  · obtain ⟨a, v, rfl, _⟩ := h
    rfl
  · obtain ⟨a, v, rfl, ha, q⟩ := h
    refine ⟨_, pss_cons (ps_expr (pe_iniT (T := "ArithmeticError") rfl T.nArithmeticError (by decide +kernel) (by kernel_rfl) (by decide +kernel) T.vArithmeticError (pa_cons (pv 0) (pa_cons pe_str pa_nil)))) (pss_one (ps_fld1 (pv 0) (pv 1))), ?_⟩
    refine ⟨_, rfl, a, CNotDone, _, _, rfl, (by show 1 ≤ 1000; decide), T.xNotDone, ha, ?_⟩
    exact ⟨_, rfl, _, rfl, a, CNotDone, _, _, rfl, T.xNotDone, T.fNotDone, ha, fun dx hd hn => q dx hd hn⟩

/-! ### a value of any kind -/
def spValue (K : PySem.W.Frag) : Sp := fun vs H Q _ => ∃ p, vs = [.ref p] ∧ Box H p ∧ ∀ H' v d, SameBut p H H' → Dp K H' v d → d.showable = true → d.hasDict = false → d.shown.length ≤ 40 → d.depth ≤ 3 → Q v H'
theorem Box.same {H H' : Hp} {p : Addr} (S : Same H H') (h : Box H p) : Box H' p := let ⟨b, s, c, e, r⟩ := h; ⟨b, s, c, S _ _ e, r⟩
theorem ok_value {f : Addr} {fd : FuncData} (F : Fun K "_law_value" "_law_value" sValue f fd) (T : Tx K mg S CNoWorth CNoDeal CNoStart CNoHouse CNoOrder CNoCommand CRefused CNoRoom CNoNumber CUnknownWord CNotDone mc) (DT : Df P w K mg base "_law_take" 1 ["_law_box_here", "_law_many"] spTake) : FnOk P w K mg base CX0 2 f fd ["_law_box_here"] (spValue K) := by
  refine F.ok scValue (fun vs H Q E h => ?_) (fun cdv A outer s H vs Q E hr h => ?_)
  · obtain ⟨p, rfl, _⟩ := h
    rfl
  · obtain ⟨p, rfl, hb, q⟩ := h
    refine ⟨_, (pss_cons (ps_set (i := 1) scValue.nd rfl (Or.inl rfl) (pe_lst (pa_cons pe_int (pa_cons (pe_op op_sub pe_int pe_int) (pa_cons (pe_op op_pow pe_int pe_int) (pa_cons pe_bl (pa_cons pe_non (pa_cons pe_str (pa_cons pe_str (pa_cons (pe_tup pa_nil) (pa_cons (pe_tup (pa_cons pe_int (pa_cons (pe_tup pa_nil) pa_nil))) (pa_cons (pe_lst (pa_cons pe_int (pa_cons pe_str pa_nil))) (pa_cons (pe_tup (pa_cons (pe_tup pa_nil) (pa_cons (pe_op op_sub pe_int pe_int) pa_nil))) (pa_cons pe_str pa_nil))))))))))))))
      (pss_one (ps_ret (pe_ix ix_list (pv 1) (pe_df (E := fun _ _ _ => False) DT hr rfl (pa_cons (pv 0) (pa_cons pe_int pa_nil))) (fun _ _ => rfl))))), ?_⟩
    refine ⟨_, _, rfl, rfl, _, _, rfl, rfl, ⟨by decide, by decide, by decide⟩, (by show 0 ≤ sizeLine; decide), fun p1 n1 => ?_⟩
    refine ⟨(by show 0 ≤ sizeLine; decide), fun p2 n2 => ?_⟩
    refine ⟨(by show 2 ≤ sizeLine; decide), fun p3 n3 => ?_⟩
    refine ⟨(by show 2 ≤ sizeLine; decide), fun p4 n4 => ?_⟩
    refine ⟨(by show 0 ≤ sizeLine; decide), fun p5 n5 => ?_⟩
    refine ⟨_, _, rfl, rfl, (by show 2 ≤ sizeLine; decide), fun p6 n6 => ?_⟩
    refine ⟨(by show 12 ≤ sizeLine; decide), fun p7 n7 => ?_⟩
    have s1 : Same H _ := same_upd (o := .tup []) n1
    have s2 := same_upd (o := .tup []) n2
    have s3 := same_upd (o := .tup [.int 0, .ref p2]) n3
    have s4 := same_upd (o := .lst [.int 1, .str "x"]) n4
    have s5 := same_upd (o := .tup []) n5
    have s6 := same_upd (o := .tup [.ref p5, .int (0 - 1)]) n6
    have s7 := same_upd (o := .lst [.int 0, .int (0 - 7), .int (10 ^ (Int.toNat 19)), .bl true, .non, .str "", .str "a b", .ref p1, .ref p3, .ref p4, .ref p6, .str "0:/"]) n7
    have g1 := s7 p1 _ (s6 _ _ (s5 _ _ (s4 _ _ (s3 _ _ (s2 _ _ upd_same)))))
    have g2 := s7 p2 _ (s6 _ _ (s5 _ _ (s4 _ _ (s3 _ _ upd_same))))
    have g3 := s7 p3 _ (s6 _ _ (s5 _ _ (s4 _ _ upd_same)))
    have g4 := s7 p4 _ (s6 _ _ (s5 _ _ upd_same))
    have g5 := s7 p5 _ (s6 _ _ upd_same)
    have g6 := s7 p6 _ upd_same
    have all6 := (((((s1.trans s2).trans s3).trans s4).trans s5).trans s6)
    have all := all6.trans s7
    have hb7 := Box.same all hb
    obtain ⟨b0, c0, d0, hb0, _⟩ := id hb
    have np : ∀ {x : Addr} {o : HO}, H x = none → x ≠ p := fun {x o} n z => by rw [z, hb0] at n; cases n
    have h1 : p1 ≠ p := np (o := .tup []) n1
    have h2 : p2 ≠ p := fun z => by rw [z, s1 _ _ hb0] at n2; cases n2
    have h3 : p3 ≠ p := fun z => by rw [z, s2 _ _ (s1 _ _ hb0)] at n3; cases n3
    have h4 : p4 ≠ p := fun z => by rw [z, s3 _ _ (s2 _ _ (s1 _ _ hb0))] at n4; cases n4
    have h5 : p5 ≠ p := fun z => by rw [z, s4 _ _ (s3 _ _ (s2 _ _ (s1 _ _ hb0)))] at n5; cases n5
    have h6 : p6 ≠ p := fun z => by rw [z, s5 _ _ (s4 _ _ (s3 _ _ (s2 _ _ (s1 _ _ hb0))))] at n6; cases n6
    have h7 : p7 ≠ p := fun z => by
      have y := all6 _ _ hb0
      rw [z] at n7
      exact nomatch (n7.symm.trans y)
    refine ⟨_, rfl, _, rfl, p, 12, rfl, hb7, by decide, by decide, fun b s c r z0 z1 r0 r1 => ?_⟩
    have sb : SameBut p H (upd _ p (.lst [.int b, .int s, .int c])) := (Same.but all).trans SameBut.upd
    have e7 := (upd_ne (o := .lst [.int b, .int s, .int c]) h7).trans (upd_same (H := upd (upd (upd (upd (upd (upd H p1 (.tup [])) p2 (.tup [])) p3 (.tup [.int 0, .ref p2])) p4 (.lst [.int 1, .str "x"])) p5 (.tup [])) p6 (.tup [.ref p5, .int (0 - 1)])) (a := p7) (o := .lst [.int 0, .int (0 - 7), .int (10 ^ (Int.toNat 19)), .bl true, .non, .str "", .str "a b", .ref p1, .ref p3, .ref p4, .ref p6, .str "0:/"]))
    have k1 := (upd_ne (o := .lst [.int b, .int s, .int c]) h1).trans g1
    have k2 := (upd_ne (o := .lst [.int b, .int s, .int c]) h2).trans g2
    have k3 := (upd_ne (o := .lst [.int b, .int s, .int c]) h3).trans g3
    have k4 := (upd_ne (o := .lst [.int b, .int s, .int c]) h4).trans g4
    have k5 := (upd_ne (o := .lst [.int b, .int s, .int c]) h5).trans g5
    have k6 := (upd_ne (o := .lst [.int b, .int s, .int c]) h6).trans g6
    have cases12 : r = 0 ∨ r = 1 ∨ r = 2 ∨ r = 3 ∨ r = 4 ∨ r = 5 ∨ r = 6 ∨ r = 7 ∨ r = 8 ∨ r = 9 ∨ r = 10 ∨ r = 11 := by omega
    rcases cases12 with rfl | rfl | rfl | rfl | rfl | rfl | rfl | rfl | rfl | rfl | rfl | rfl
    · exact ⟨p7, _, _, _, rfl, rfl, SqL.of e7, rfl, q _ _ (.int 0) sb (.int 0) rfl rfl (by decide +kernel) (by decide)⟩
    · exact ⟨p7, _, _, _, rfl, rfl, SqL.of e7, rfl, q _ _ (.int (0 - 7)) sb (.int _) (by decide +kernel) rfl (by decide +kernel) (by decide)⟩
    · exact ⟨p7, _, _, _, rfl, rfl, SqL.of e7, rfl, q _ _ (.int (10 ^ (Int.toNat 19))) sb (.int _) (by decide +kernel) rfl (by decide +kernel) (by decide)⟩
    · exact ⟨p7, _, _, _, rfl, rfl, SqL.of e7, rfl, q _ _ (.bool true) sb (.bl _) rfl rfl (by decide +kernel) (by decide)⟩
    · exact ⟨p7, _, _, _, rfl, rfl, SqL.of e7, rfl, q _ _ .none sb .non rfl rfl (by decide +kernel) (by decide)⟩
    · exact ⟨p7, _, _, _, rfl, rfl, SqL.of e7, rfl, q _ _ (.str "") sb (.str _) rfl rfl (by decide +kernel) (by decide)⟩
    · exact ⟨p7, _, _, _, rfl, rfl, SqL.of e7, rfl, q _ _ (.str "a b") sb (.str _) rfl rfl (by decide +kernel) (by decide)⟩
    · exact ⟨p7, _, _, _, rfl, rfl, SqL.of e7, rfl, q _ _ (.tuple []) sb (.tup (SqT.of k1) .nil) rfl rfl (by decide +kernel) (by decide)⟩
    · exact ⟨p7, _, _, _, rfl, rfl, SqL.of e7, rfl, q _ _ (.tuple [.int 0, .tuple []]) sb (.tup (SqT.of k3) (.cons (.int 0) (.cons (.tup (SqT.of k2) .nil) .nil))) rfl rfl (by decide +kernel) (by decide)⟩
    · exact ⟨p7, _, _, _, rfl, rfl, SqL.of e7, rfl, q _ _ (.list [.int 1, .str "x"]) sb (.lst (SqL.of k4) (.cons (.int 1) (.cons (.str _) .nil))) rfl rfl (by decide +kernel) (by decide)⟩
    · exact ⟨p7, _, _, _, rfl, rfl, SqL.of e7, rfl, q _ _ (.tuple [.tuple [], .int (0 - 1)]) sb (.tup (SqT.of k6) (.cons (.tup (SqT.of k5) .nil) (.cons (.int _) .nil))) (by decide +kernel) rfl (by decide +kernel) (by decide)⟩
    · exact ⟨p7, _, _, _, rfl, rfl, SqL.of e7, rfl, q _ _ (.str "0:/") sb (.str _) rfl rfl (by decide +kernel) (by decide)⟩
/-! ### the kinds of an error -/
def cls17 (S CNoWorth CNoDeal CNoStart CNoHouse CNoOrder CNoCommand CRefused CNoRoom CNoNumber CUnknownWord CNotDone : Addr) : List Value := [.ref S, .type "ValueError", .type "LookupError", .type "IndexError", .type "KeyError", .type "ArithmeticError", .ref CNoWorth, .ref CNoDeal, .ref CNoStart, .ref CNoHouse, .ref CNoOrder, .ref CNoCommand, .ref CRefused, .ref CNoRoom, .ref CNoNumber, .ref CUnknownWord, .ref CNotDone]
def spKinds (K : PySem.W.Frag) (cs : List Value) : Sp := fun vs H Q _ => ∃ (a C : Addr) (f : Str) (v : V) (n i : String) (b : Nat → Bool), vs = [.ref a] ∧ ExV H a C f v ∧ Exn K C n i ∧ (∀ j c, cs[j]? = some c → PySem.W.kitOne K (.ref C) c = some (b j)) ∧
  ∀ H' p, Same H H' → H p = none → H' p = some (.lst ((List.range 17).map fun j => V.bl (b j))) → Q (.ref p) H'
theorem ok_kinds {f : Addr} {fd : FuncData} (F : Fun K "_law_kinds" "_law_kinds" sKinds f fd) (T : Tx K mg S CNoWorth CNoDeal CNoStart CNoHouse CNoOrder CNoCommand CRefused CNoRoom CNoNumber CUnknownWord CNotDone mc) : FnOk P w K mg base CX0 1 f fd ["_law_error"] (spKinds K (cls17 S CNoWorth CNoDeal CNoStart CNoHouse CNoOrder CNoCommand CRefused CNoRoom CNoNumber CUnknownWord CNotDone)) := by
  refine F.ok scKinds (fun vs H Q E h => ?_) (fun cdv A outer s H vs Q E hr h => ?_)
  · obtain ⟨a, C, f, v, n, i, b, rfl, _⟩ := h
    rfl
  · obtain ⟨a, C, f, v, n, i, b, rfl, hV, hX, hk, q⟩ := h
    refine ⟨_, (pss_cons (ps_set (i := 1) scKinds.nd rfl (Or.inl rfl) (pe_lst (pa_cons (pe_callB call_isV (by rfl) T.isinstance (by decide +kernel) (pa_cons (pv 0) (pa_cons (pe_glob (v := .ref S) rfl T.mStoreError rfl) pa_nil))) (pa_cons (pe_callB call_isV (by rfl) T.isinstance (by decide +kernel) (pa_cons (pv 0) (pa_cons (pe_bltn (v := .ty "ValueError") (by rfl) T.nValueError (by decide +kernel) rfl) pa_nil))) (pa_cons (pe_callB call_isV (by rfl) T.isinstance (by decide +kernel) (pa_cons (pv 0) (pa_cons (pe_bltn (v := .ty "LookupError") (by rfl) T.nLookupError (by decide +kernel) rfl) pa_nil))) pa_nil)))))
      (pss_cons (ps_expr (pe_bm PySem.F.plainAttrs_list PySem.F.slot_list_extend PySem.F.type_list_extend mt_extend (pv 1) (pa_cons (pe_lst (pa_cons (pe_callB call_isV (by rfl) T.isinstance (by decide +kernel) (pa_cons (pv 0) (pa_cons (pe_bltn (v := .ty "IndexError") (by rfl) T.nIndexError (by decide +kernel) rfl) pa_nil))) (pa_cons (pe_callB call_isV (by rfl) T.isinstance (by decide +kernel) (pa_cons (pv 0) (pa_cons (pe_bltn (v := .ty "KeyError") (by rfl) T.nKeyError (by decide +kernel) rfl) pa_nil))) (pa_cons (pe_callB call_isV (by rfl) T.isinstance (by decide +kernel) (pa_cons (pv 0) (pa_cons (pe_bltn (v := .ty "ArithmeticError") (by rfl) T.nArithmeticError (by decide +kernel) rfl) pa_nil))) pa_nil)))) pa_nil)))
      (pss_cons (ps_expr (pe_bm PySem.F.plainAttrs_list PySem.F.slot_list_extend PySem.F.type_list_extend mt_extend (pv 1) (pa_cons (pe_lst (pa_cons (pe_callB call_isV (by rfl) T.isinstance (by decide +kernel) (pa_cons (pv 0) (pa_cons (pe_glob (v := .ref CNoWorth) rfl T.mNoWorth rfl) pa_nil))) (pa_cons (pe_callB call_isV (by rfl) T.isinstance (by decide +kernel) (pa_cons (pv 0) (pa_cons (pe_glob (v := .ref CNoDeal) rfl T.mNoDeal rfl) pa_nil))) (pa_cons (pe_callB call_isV (by rfl) T.isinstance (by decide +kernel) (pa_cons (pv 0) (pa_cons (pe_glob (v := .ref CNoStart) rfl T.mNoStart rfl) pa_nil))) pa_nil)))) pa_nil)))
      (pss_cons (ps_expr (pe_bm PySem.F.plainAttrs_list PySem.F.slot_list_extend PySem.F.type_list_extend mt_extend (pv 1) (pa_cons (pe_lst (pa_cons (pe_callB call_isV (by rfl) T.isinstance (by decide +kernel) (pa_cons (pv 0) (pa_cons (pe_glob (v := .ref CNoHouse) rfl T.mNoHouse rfl) pa_nil))) (pa_cons (pe_callB call_isV (by rfl) T.isinstance (by decide +kernel) (pa_cons (pv 0) (pa_cons (pe_glob (v := .ref CNoOrder) rfl T.mNoOrder rfl) pa_nil))) (pa_cons (pe_callB call_isV (by rfl) T.isinstance (by decide +kernel) (pa_cons (pv 0) (pa_cons (pe_glob (v := .ref CNoCommand) rfl T.mNoCommand rfl) pa_nil))) pa_nil)))) pa_nil)))
      (pss_cons (ps_expr (pe_bm PySem.F.plainAttrs_list PySem.F.slot_list_extend PySem.F.type_list_extend mt_extend (pv 1) (pa_cons (pe_lst (pa_cons (pe_callB call_isV (by rfl) T.isinstance (by decide +kernel) (pa_cons (pv 0) (pa_cons (pe_glob (v := .ref CRefused) rfl T.mRefused rfl) pa_nil))) (pa_cons (pe_callB call_isV (by rfl) T.isinstance (by decide +kernel) (pa_cons (pv 0) (pa_cons (pe_glob (v := .ref CNoRoom) rfl T.mNoRoom rfl) pa_nil))) (pa_cons (pe_callB call_isV (by rfl) T.isinstance (by decide +kernel) (pa_cons (pv 0) (pa_cons (pe_glob (v := .ref CNoNumber) rfl T.mNoNumber rfl) pa_nil))) pa_nil)))) pa_nil)))
      (pss_one (ps_ret (pe_op op_cat (pv 1) (pe_lst (pa_cons (pe_callB call_isV (by rfl) T.isinstance (by decide +kernel) (pa_cons (pv 0) (pa_cons (pe_glob (v := .ref CUnknownWord) rfl T.mUnknownWord rfl) pa_nil))) (pa_cons (pe_callB call_isV (by rfl) T.isinstance (by decide +kernel) (pa_cons (pv 0) (pa_cons (pe_glob (v := .ref CNotDone) rfl T.mNotDone rfl) pa_nil))) pa_nil))))))))))), ?_⟩
    refine ⟨_, rfl, a, C, f, v, n, i, _, _, b 0, rfl, hV, hX, (fun _ r => r), hk 0 _ rfl, _, rfl, a, C, f, v, n, i, _, _, b 1, rfl, hV, hX, (fun _ r => r), hk 1 _ rfl, _, rfl, a, C, f, v, n, i, _, _, b 2, rfl, hV, hX, (fun _ r => r), hk 2 _ rfl, (by show 3 ≤ sizeLine; decide), fun p n0 => ?_⟩
    have S0 : Same H (upd H p _) := same_upd (o := .lst [.bl (b 0), .bl (b 1), .bl (b 2)]) n0
    have V0 := hV.same S0
    refine ⟨_, rfl, .inl ⟨rfl, _, SqL.of upd_same⟩, _, rfl, a, C, f, v, n, i, _, _, b 3, rfl, V0, hX, (fun _ r => r), hk 3 _ rfl, _, rfl, a, C, f, v, n, i, _, _, b 4, rfl, V0, hX, (fun _ r => r), hk 4 _ rfl, _, rfl, a, C, f, v, n, i, _, _, b 5, rfl, V0, hX, (fun _ r => r), hk 5 _ rfl, (by show 3 ≤ sizeLine; decide), fun l1 n1 => ?_⟩
    have e1 : p ≠ l1 := fun z => by rw [← z, upd_same] at n1; cases n1
    have m1 : H l1 = none := by rw [upd_ne (Ne.symm e1)] at n1; exact n1
    refine ⟨p, l1, _, _, rfl, rfl, (upd_ne e1).trans upd_same, upd_same, (by show 6 ≤ sizeLine; decide), ?_⟩
    have S1 : Same H (upd _ p _) := same_upd_of (o := .lst ([.bl (b 0), .bl (b 1), .bl (b 2)] ++ [.bl (b 3), .bl (b 4), .bl (b 5)])) (same_upd_of (o := .lst [.bl (b 3), .bl (b 4), .bl (b 5)]) S0 m1) n0
    have V1 := hV.same S1
    refine ⟨_, rfl, .inl ⟨rfl, _, SqL.of upd_same⟩, _, rfl, a, C, f, v, n, i, _, _, b 6, rfl, V1, hX, (fun _ r => r), hk 6 _ rfl, _, rfl, a, C, f, v, n, i, _, _, b 7, rfl, V1, hX, (fun _ r => r), hk 7 _ rfl, _, rfl, a, C, f, v, n, i, _, _, b 8, rfl, V1, hX, (fun _ r => r), hk 8 _ rfl, (by show 3 ≤ sizeLine; decide), fun l2 n2 => ?_⟩
    have e2 : p ≠ l2 := fun z => by rw [← z, upd_same] at n2; cases n2
    have m2 : H l2 = none := S1.free n2
    refine ⟨p, l2, _, _, rfl, rfl, (upd_ne e2).trans upd_same, upd_same, (by show 9 ≤ sizeLine; decide), ?_⟩
    have S2 : Same H (upd _ p _) := same_upd_of (o := .lst (([.bl (b 0), .bl (b 1), .bl (b 2)] ++ [.bl (b 3), .bl (b 4), .bl (b 5)]) ++ [.bl (b 6), .bl (b 7), .bl (b 8)])) (same_upd_of (o := .lst [.bl (b 6), .bl (b 7), .bl (b 8)]) S1 m2) n0
    have V2 := hV.same S2
    refine ⟨_, rfl, .inl ⟨rfl, _, SqL.of upd_same⟩, _, rfl, a, C, f, v, n, i, _, _, b 9, rfl, V2, hX, (fun _ r => r), hk 9 _ rfl, _, rfl, a, C, f, v, n, i, _, _, b 10, rfl, V2, hX, (fun _ r => r), hk 10 _ rfl, _, rfl, a, C, f, v, n, i, _, _, b 11, rfl, V2, hX, (fun _ r => r), hk 11 _ rfl, (by show 3 ≤ sizeLine; decide), fun l3 n3 => ?_⟩
    have e3 : p ≠ l3 := fun z => by rw [← z, upd_same] at n3; cases n3
    have m3 : H l3 = none := S2.free n3
    refine ⟨p, l3, _, _, rfl, rfl, (upd_ne e3).trans upd_same, upd_same, (by show 12 ≤ sizeLine; decide), ?_⟩
    have S3 : Same H (upd _ p _) := same_upd_of (o := .lst ((([.bl (b 0), .bl (b 1), .bl (b 2)] ++ [.bl (b 3), .bl (b 4), .bl (b 5)]) ++ [.bl (b 6), .bl (b 7), .bl (b 8)]) ++ [.bl (b 9), .bl (b 10), .bl (b 11)])) (same_upd_of (o := .lst [.bl (b 9), .bl (b 10), .bl (b 11)]) S2 m3) n0
    have V3 := hV.same S3
    refine ⟨_, rfl, .inl ⟨rfl, _, SqL.of upd_same⟩, _, rfl, a, C, f, v, n, i, _, _, b 12, rfl, V3, hX, (fun _ r => r), hk 12 _ rfl, _, rfl, a, C, f, v, n, i, _, _, b 13, rfl, V3, hX, (fun _ r => r), hk 13 _ rfl, _, rfl, a, C, f, v, n, i, _, _, b 14, rfl, V3, hX, (fun _ r => r), hk 14 _ rfl, (by show 3 ≤ sizeLine; decide), fun l4 n4 => ?_⟩
    have e4 : p ≠ l4 := fun z => by rw [← z, upd_same] at n4; cases n4
    have m4 : H l4 = none := S3.free n4
    refine ⟨p, l4, _, _, rfl, rfl, (upd_ne e4).trans upd_same, upd_same, (by show 15 ≤ sizeLine; decide), ?_⟩
    have S4 : Same H (upd _ p _) := same_upd_of (o := .lst (((([.bl (b 0), .bl (b 1), .bl (b 2)] ++ [.bl (b 3), .bl (b 4), .bl (b 5)]) ++ [.bl (b 6), .bl (b 7), .bl (b 8)]) ++ [.bl (b 9), .bl (b 10), .bl (b 11)]) ++ [.bl (b 12), .bl (b 13), .bl (b 14)])) (same_upd_of (o := .lst [.bl (b 12), .bl (b 13), .bl (b 14)]) S3 m4) n0
    have V4 := hV.same S4
    refine ⟨_, rfl, _, rfl, a, C, f, v, n, i, _, _, b 15, rfl, V4, hX, (fun _ r => r), hk 15 _ rfl, _, rfl, a, C, f, v, n, i, _, _, b 16, rfl, V4, hX, (fun _ r => r), hk 16 _ rfl, (by show 2 ≤ sizeLine; decide), fun l5 n5 => ?_⟩
    have e5 : p ≠ l5 := fun z => by rw [← z, upd_same] at n5; cases n5
    have m5 : H l5 = none := S4.free n5
    refine ⟨p, l5, _, _, rfl, rfl, (upd_ne e5).trans upd_same, upd_same, (by show 17 ≤ sizeLine; decide), fun l6 n6 => ?_⟩
    have S5 : Same H (upd _ l5 _) := same_upd_of (o := .lst [.bl (b 15), .bl (b 16)]) S4 m5
    exact q _ l6 (same_upd_of S5 (S5.free n6)) (S5.free n6) upd_same
/-! ### the kinds that are due -/
theorem flat_ints : ∀ ns : List Int, (ns.map V.int).all flatV = true
  | [] => rfl
  | _ :: r => by rw [List.map_cons, List.all_cons, flat_ints r]; rfl
theorem inV_ints : ∀ (ns : List Int) (i : Int), inV (V.int i) (ns.map V.int) = ns.contains i
  | [], _ => rfl
  | x :: r, i => by
    have ih := inV_ints r i
    unfold inV at ih ⊢
    rw [List.map_cons, List.any_cons, ih, List.contains_cons]
    show ((x == i) || _) = _
    rw [BEq.comm]
def dueB (ns : List Int) (own : Int) (j : Nat) : Bool := ns.contains (j : Int) || decide ((j : Int) = own)
def spDue (K : PySem.W.Frag) : Sp := fun vs H Q _ => ∃ (l : Addr) (ns : List Int) (own : Int), vs = [.int own, .ref l] ∧ SqL K H l (ns.map V.int) ∧
  ∀ H' p, Same H H' → H p = none → H' p = some (.lst ((List.range 17).map fun j => V.bl (dueB ns own j))) → Q (.ref p) H'
theorem ok_due {f : Addr} {fd : FuncData} (F : Fun K "_law_due" "_law_due" sDue f fd) (T : Tx K mg S CNoWorth CNoDeal CNoStart CNoHouse CNoOrder CNoCommand CRefused CNoRoom CNoNumber CUnknownWord CNotDone mc) : FnOk P w K mg base CX0 1 f fd ["_law_own", "_law_bases"] (spDue K) := by
  refine F.ok scDue (fun vs H Q E h => ?_) (fun cdv A outer s H vs Q E hr h => ?_)
  · obtain ⟨l, ns, own, rfl, _⟩ := h
    rfl
  · obtain ⟨l, ns, own, rfl, hl, q⟩ := h
    refine ⟨_, (pss_one (ps_ret (pe_lc (own := [("_law_place", 2)]) (g := gName 2) (by rfl) scDue.nd (pi_range1 (by rfl) T.range (pa_cons pe_int pa_nil)) (blkOk_by (own := [("_law_place", 2)]) (N := ["_law_own", "_law_bases", "_law_place"]) (sc := defScope sDue) (by decide +kernel)) (fun _ _ _ _ _ => (pg_name (i := 2) scDue.nd rfl (Or.inl rfl))) (fun _ _ _ _ _ => pts_nil) (fun _ _ _ _ _ => (pe_or (pe_cmpR (show OpR _ (compareOp .In) (rIn K false) from op_in_seq) (pv 2) (pv 1) (by rfl)) (pe_one (pe_cmpR op_eq (pv 2) (pv 0) (nomark _)))))))), ?_⟩
    refine ⟨17, rfl, by decide, by decide, fun D hD => ?_⟩
    have nD : ∀ {x : Addr} {o : HO}, H x = some o → x ≠ D := fun {x o} e => ne_of_none e hD
    refine lc_range (lo := 0) (n := 17) (fun i H' => Same H H' ∧ H' D = some (.lst ((List.range i).map fun j => V.bl (dueB ns own j)))) ⟨same_upd hD, upd_same⟩ ?_ ?_
    · rintro i H' hi ⟨sH, eD⟩
      refine ⟨rfl, ?_⟩
      refine ⟨_, rfl, _, rfl, l, _, rfl, .inl (sH.seq hl), rfl, flat_ints ns, _, rfl, ?_⟩
      have ein : inV (V.int (0 + (i : Nat))) (ns.map V.int) = ns.contains ((i : Nat) : Int) := by
        rw [Int.zero_add]
        exact inV_ints ns _
      have eq : (decide (V.int (0 + ((i : Nat) : Int)) = V.int own)) = decide (((i : Nat) : Int) = own) := by
        rw [Int.zero_add]
        by_cases h : ((i : Nat) : Int) = own
        · rw [h, decide_eq_true rfl, decide_eq_true rfl]
        · rw [decide_eq_false h, decide_eq_false fun z => h (V.int.inj z)]
      have fin : ∀ y : Bool, y = dueB ns own i → ∃ acc, H' D = some (HO.lst acc) ∧ acc.length < sizeLine ∧ Same H (upd H' D (HO.lst (acc ++ [V.bl y]))) ∧ upd H' D (HO.lst (acc ++ [V.bl y])) D = some (HO.lst ((List.range (i + 1)).map fun j => V.bl (dueB ns own j))) := fun y e => by
        refine ⟨_, eD, ?_, same_upd_of sH hD, ?_⟩
        · rw [List.length_map, List.length_range, sizeLine_eq]
          omega
        · rw [upd_same, List.range_succ, List.map_append, e]
          rfl
      show (if inV (V.int (0 + (i : Nat))) (ns.map V.int) = true then _ else _)
      rw [ein]
      refine ite2 (fun h => ?_) (fun h => ?_)
      · exact fin true (by unfold dueB; rw [h]; rfl)
      · refine ⟨_, rfl, _, rfl, rfl, ?_⟩
        rw [eq]
        exact fin _ (by unfold dueB; rw [Bool.eq_false_iff.mpr h]; rfl)
    · rintro H' ⟨sH, eD⟩
      exact q _ D sH hD eD
end
end Law

set_option Elab.async false
set_option linter.all false
set_option maxRecDepth 100000
set_option maxHeartbeats 2000000
namespace Law
open PySem PySem.Spec PyProof.Rows L2 Cor
/-- an error of the value v, whose kinds are due by own and bases -/
def Good (K : PySem.W.Frag) (cs : List Value) (H : Hp) (v : V) (own : Int) (bases : List Int) (x : V) : Prop :=
  ∃ a C f n i, x = .ref a ∧ ExV H a C f v ∧ Exn K C n i ∧ ∀ j c, cs[j]? = some c → PySem.W.kitOne K (.ref C) c = some (dueB bases own j)
theorem Good.same {K : PySem.W.Frag} {cs : List Value} {H H' : Hp} {v : V} {own : Int} {bases : List Int} {x : V} (S : Same H H') (g : Good K cs H v own bases x) : Good K cs H' v own bases x :=
  let ⟨a, C, f, n, i, h1, h2, h3⟩ := g
  ⟨a, C, f, n, i, h1, h2.same S, h3⟩
/-- one of the others, with its number and its bases -/
def Oth (K : PySem.W.Frag) (cs : List Value) (H : Hp) (v : V) (x : V) : Prop :=
  ∃ (t l : Addr) (b : V) (own : Int) (bases : List Int), x = .ref t ∧ H t = some (.tup [b, .int own, .ref l]) ∧ H l = some (.lst (bases.map V.int)) ∧ Good K cs H v own bases b
theorem Oth.same {K : PySem.W.Frag} {cs : List Value} {H H' : Hp} {v : V} {x : V} (S : Same H H') (g : Oth K cs H v x) : Oth K cs H' v x :=
  let ⟨t, l, b, own, bases, h1, h2, h3, h4⟩ := g
  ⟨t, l, b, own, bases, h1, S _ _ h2, S _ _ h3, h4.same S⟩
theorem sq_but {K : PySem.W.Frag} {H H1 H2 : Hp} {a p : Addr} {xs : List V} (h : SqL K H a xs) (np : H p = none) (S1 : Same H H1) (SB : SameBut p H1 H2) : SqL K H2 a xs := by
  rcases h with (h | ⟨o, h⟩) | h
  · exact .inl (.inl (SB _ _ (ne_of_none h np) (S1 _ _ h)))
  · exact .inl (.inr ⟨o, SB _ _ (ne_of_none h np) (S1 _ _ h)⟩)
  · exact .inr h
theorem dp_bools {K : PySem.W.Frag} {H : Hp} (g : Nat → Bool) : ∀ l : List Nat, DpAll K H (l.map fun j => V.bl (g j)) (l.map fun j => PyData.bool (g j))
  | [] => .nil
  | _ :: r => .cons (.bl _) (dp_bools g r)
theorem canLay_bools (g : Nat → Bool) : ∀ l : List Nat, PyData.canLayAll0 (l.map fun j => PyData.bool (g j)) = true
  | [] => by simp [PyData.canLayAll0]
  | _ :: r => by simp [PyData.canLayAll0, PyData.canLay0, canLay_bools g r]
theorem depth_bools (g : Nat → Bool) : ∀ l : List Nat, PyData.depthAll (l.map fun j => PyData.bool (g j)) = 0
  | [] => by simp [PyData.depthAll]
  | _ :: r => by simp [PyData.depthAll, PyData.depth, depth_bools g r]
theorem shaped_bools (g : Nat → Bool) (l : List Nat) : SeqAt.shaped (.list (l.map fun j => PyData.bool (g j))) = true := by
  unfold SeqAt.shaped
  simp [PyData.canLay0, PyData.depth, canLay_bools, depth_bools]
theorem eqv_bools (g : Nat → Bool) (l : List Nat) : PyData.eqv (.list (l.map fun j => PyData.bool (g j))) (.list (l.map fun j => PyData.bool (g j))) = true :=
  SeqAt.eqv_refl _ (SeqAt.canLay_of_shaped (shaped_bools g l))
/-- two lists of bools that agree are not unlike -/
theorem ne_bools {K : PySem.W.Frag} {H : Hp} {p q : Addr} {g : Nat → Bool} {D : Ends} {σ : L2.St} {t u : TS} (hp : H p = some (.lst ((List.range 17).map fun j => V.bl (g j)))) (hq : H q = some (.lst ((List.range 17).map fun j => V.bl (g j)))) (h : u D σ H) :
    rNeD K (.ref p) (.ref q) H fun x H' => ∃ k, x = .bl k ∧ if k = true then t D σ H' else u D σ H' := by
  refine ⟨_, _, .lst (SqL.of hp) (dp_bools g _), .lst (SqL.of hq) (dp_bools g _), shaped_bools g _, shaped_bools g _, _, rfl, ?_⟩
  rw [eqv_bools]
  exact h
theorem ite_ne {A B : Prop} {x y : V} (e : x = y) (h : B) : if (!decide (x = y)) = true then A else B := by
  rw [decide_eq_true e]
  exact h
/-- the table of kinds -/
structure Rw (K : PySem.W.Frag) (S CNoWorth CNoDeal CNoStart CNoHouse CNoOrder CNoCommand CRefused CNoRoom CNoNumber CUnknownWord CNotDone : Addr) : Prop where
  rNoWorth : ∀ j c, (cls17 S CNoWorth CNoDeal CNoStart CNoHouse CNoOrder CNoCommand CRefused CNoRoom CNoNumber CUnknownWord CNotDone)[j]? = some c → PySem.W.kitOne K (.ref CNoWorth) c = some (dueB [0, 1] 6 j)
  rNoDeal : ∀ j c, (cls17 S CNoWorth CNoDeal CNoStart CNoHouse CNoOrder CNoCommand CRefused CNoRoom CNoNumber CUnknownWord CNotDone)[j]? = some c → PySem.W.kitOne K (.ref CNoDeal) c = some (dueB [0, 1] 7 j)
  rNoStart : ∀ j c, (cls17 S CNoWorth CNoDeal CNoStart CNoHouse CNoOrder CNoCommand CRefused CNoRoom CNoNumber CUnknownWord CNotDone)[j]? = some c → PySem.W.kitOne K (.ref CNoStart) c = some (dueB [0, 1] 8 j)
  rNoHouse : ∀ j c, (cls17 S CNoWorth CNoDeal CNoStart CNoHouse CNoOrder CNoCommand CRefused CNoRoom CNoNumber CUnknownWord CNotDone)[j]? = some c → PySem.W.kitOne K (.ref CNoHouse) c = some (dueB [0, 1] 9 j)
  rNoOrder : ∀ j c, (cls17 S CNoWorth CNoDeal CNoStart CNoHouse CNoOrder CNoCommand CRefused CNoRoom CNoNumber CUnknownWord CNotDone)[j]? = some c → PySem.W.kitOne K (.ref CNoOrder) c = some (dueB [0, 1] 10 j)
  rNoCommand : ∀ j c, (cls17 S CNoWorth CNoDeal CNoStart CNoHouse CNoOrder CNoCommand CRefused CNoRoom CNoNumber CUnknownWord CNotDone)[j]? = some c → PySem.W.kitOne K (.ref CNoCommand) c = some (dueB [0, 1] 11 j)
  rRefused : ∀ j c, (cls17 S CNoWorth CNoDeal CNoStart CNoHouse CNoOrder CNoCommand CRefused CNoRoom CNoNumber CUnknownWord CNotDone)[j]? = some c → PySem.W.kitOne K (.ref CRefused) c = some (dueB [0, 1] 12 j)
  rNoRoom : ∀ j c, (cls17 S CNoWorth CNoDeal CNoStart CNoHouse CNoOrder CNoCommand CRefused CNoRoom CNoNumber CUnknownWord CNotDone)[j]? = some c → PySem.W.kitOne K (.ref CNoRoom) c = some (dueB [2] 13 j)
  rNoNumber : ∀ j c, (cls17 S CNoWorth CNoDeal CNoStart CNoHouse CNoOrder CNoCommand CRefused CNoRoom CNoNumber CUnknownWord CNotDone)[j]? = some c → PySem.W.kitOne K (.ref CNoNumber) c = some (dueB [2, 3] 14 j)
  rUnknownWord : ∀ j c, (cls17 S CNoWorth CNoDeal CNoStart CNoHouse CNoOrder CNoCommand CRefused CNoRoom CNoNumber CUnknownWord CNotDone)[j]? = some c → PySem.W.kitOne K (.ref CUnknownWord) c = some (dueB [2, 4] 15 j)
  rNotDone : ∀ j c, (cls17 S CNoWorth CNoDeal CNoStart CNoHouse CNoOrder CNoCommand CRefused CNoRoom CNoNumber CUnknownWord CNotDone)[j]? = some c → PySem.W.kitOne K (.ref CNotDone) c = some (dueB [5] 16 j)
section
variable {P : Program} {w : World} {K : PySem.W.Frag} {mg : Str → Option Value} {base : Heap} {S CNoWorth CNoDeal CNoStart CNoHouse CNoOrder CNoCommand CRefused CNoRoom CNoNumber CUnknownWord CNotDone : Addr} {mc : Value}
def spLaw (K : PySem.W.Frag) : Sp := fun vs H Q _ => ∃ (a : Addr) (ns : List Int), vs = [.ref a] ∧ SqL K H a (ns.map V.int) ∧ ns.length ≤ 63 ∧ ∀ H', Q (.bl true) H'
set_option maxHeartbeats 8000000 in
theorem ok_law {f : Addr} {fd : FuncData} (F : Fun K "law" "law" sLaw f fd) (T : Tx K mg S CNoWorth CNoDeal CNoStart CNoHouse CNoOrder CNoCommand CRefused CNoRoom CNoNumber CUnknownWord CNotDone mc) (R : Rw K S CNoWorth CNoDeal CNoStart CNoHouse CNoOrder CNoCommand CRefused CNoRoom CNoNumber CUnknownWord CNotDone)
    (DB : Df P w K mg base "_law_box" 1 ["_law_script", "_law_k", "_law_own"] (spBox K)) (DV : Df P w K mg base "_law_value" 2 ["_law_box_here"] (spValue K)) (DK : Df P w K mg base "_law_kinds" 1 ["_law_error"] (spKinds K (cls17 S CNoWorth CNoDeal CNoStart CNoHouse CNoOrder CNoCommand CRefused CNoRoom CNoNumber CUnknownWord CNotDone))) (DD : Df P w K mg base "_law_due" 1 ["_law_own", "_law_bases"] (spDue K))
    (XNoWorth : Xcl P w K mg base "NoWorth" CNoWorth "value")
    (XNoDeal : Xcl P w K mg base "NoDeal" CNoDeal "row")
    (XNoStart : Xcl P w K mg base "NoStart" CNoStart "row")
    (XNoHouse : Xcl P w K mg base "NoHouse" CNoHouse "house")
    (XNoOrder : Xcl P w K mg base "NoOrder" CNoOrder "order")
    (XNoCommand : Xcl P w K mg base "NoCommand" CNoCommand "row")
    (XRefused : Xcl P w K mg base "Refused" CRefused "at")
    (XNoRoom : Xcl P w K mg base "NoRoom" CNoRoom "room")
    (XNoNumber : Xcl P w K mg base "NoNumber" CNoNumber "number")
    (XUnknownWord : Xcl P w K mg base "UnknownWord" CUnknownWord "number")
    (XNotDone : Xcl P w K mg base "NotDone" CNotDone "number")
    : FnG P w K mg base CX0 3 f fd ["_law_script"] (spLaw K) := by
  refine okG F scLaw (fun vs H Q E h => ?_) (fun cdv A outer s H vs Q E hr gd h => ?_)
  · obtain ⟨a, ns, rfl, _⟩ := h
    rfl
  · obtain ⟨a, ns, rfl, hS, hlen, k⟩ := h
    refine ⟨_, (pss_cons (ps_for PassesOwn.never rfl (pi_range1 (by rfl) T.range (pa_cons (pe_callB (call_max2 rfl) (by rfl) T.max (by decide +kernel) (pa_cons pe_int (pa_cons (pe_callB (call_min2 rfl) (by rfl) T.min (by decide +kernel) (pa_cons pe_int (pa_cons (pe_callB call_len_seq (by rfl) T.len PySem.boot_len (pa_cons (pv 0) pa_nil)) pa_nil))) pa_nil))) pa_nil)) (pg_name (i := 1) scLaw.nd rfl (Or.inl rfl)) (pss_cons (ps_set (i := 2) scLaw.nd rfl (Or.inl rfl) (pe_df (E := fun _ _ _ => False) DB (hr.mono (by decide)) rfl (pa_cons (pv 0) (pa_cons (pv 1) (pa_cons pe_int pa_nil)))))
      (pss_cons (ps_set (i := 3) scLaw.nd rfl (Or.inl rfl) (pe_df (E := fun _ _ _ => False) DV hr rfl (pa_cons (pv 2) pa_nil)))
      (pss_cons (ps_set (i := 4) scLaw.nd rfl (Or.inl rfl) (pe_lst (pa_cons (pe_newx XNoWorth hr rfl (pv 3)) (pa_cons (pe_newx XNoDeal hr rfl (pv 3)) (pa_cons (pe_newx XNoStart hr rfl (pv 3)) (pa_cons (pe_newx XNoHouse hr rfl (pv 3)) (pa_cons (pe_newx XNoOrder hr rfl (pv 3)) (pa_cons (pe_newx XNoCommand hr rfl (pv 3)) (pa_cons (pe_newx XRefused hr rfl (pv 3)) pa_nil)))))))))
      (pss_cons (ps_for PassesOwn.never rfl (pi_enum (by rfl) T.enumerate (pa_cons (pv 4) pa_nil)) (pg_tup rfl (pgs_cons (pg_name (i := 5) scLaw.nd rfl (Or.inl rfl)) (pgs_cons (pg_name (i := 6) scLaw.nd rfl (Or.inl rfl)) pgs_nil))) (pss_one (ps_if (pt_cmpR (op_neD hr.units) (pe_df (E := fun _ _ _ => False) DK (hr.mono (by decide)) rfl (pa_cons (pv 6) pa_nil)) (pe_df (E := fun _ _ _ => False) DD (hr.mono (by decide)) rfl (pa_cons (pe_op op_add pe_int (pv 5)) (pa_cons (pe_lst (pa_cons pe_int (pa_cons pe_int pa_nil))) pa_nil))) (nomark _)) (pss_one (ps_ret pe_bl)) pss_nil)))
      (pss_cons (ps_set (i := 7) scLaw.nd rfl (Or.inl rfl) (pe_lst (pa_cons (pe_tup (pa_cons (pe_newx XNoRoom hr rfl (pv 3)) (pa_cons pe_int (pa_cons (pe_lst (pa_cons pe_int pa_nil)) pa_nil)))) (pa_cons (pe_tup (pa_cons (pe_newx XNoNumber hr rfl (pv 3)) (pa_cons pe_int (pa_cons (pe_lst (pa_cons pe_int (pa_cons pe_int pa_nil))) pa_nil)))) (pa_cons (pe_tup (pa_cons (pe_newx XUnknownWord hr rfl (pv 3)) (pa_cons pe_int (pa_cons (pe_lst (pa_cons pe_int (pa_cons pe_int pa_nil))) pa_nil)))) pa_nil)))))
      (pss_cons (ps_for PassesOwn.never rfl (pi_list (pe_op op_cat (pv 7) (pe_lst (pa_cons (pe_tup (pa_cons (pe_newx XNotDone hr rfl (pv 3)) (pa_cons pe_int (pa_cons (pe_lst (pa_cons pe_int pa_nil)) pa_nil)))) pa_nil)))) (pg_tup rfl (pgs_cons (pg_name (i := 6) scLaw.nd rfl (Or.inl rfl)) (pgs_cons (pg_name (i := 8) scLaw.nd rfl (Or.inl rfl)) (pgs_cons (pg_name (i := 9) scLaw.nd rfl (Or.inl rfl)) pgs_nil)))) (pss_one (ps_if (pt_cmpR (op_neD hr.units) (pe_df (E := fun _ _ _ => False) DK (hr.mono (by decide)) rfl (pa_cons (pv 6) pa_nil)) (pe_df (E := fun _ _ _ => False) DD (hr.mono (by decide)) rfl (pa_cons (pv 8) (pa_cons (pv 9) pa_nil))) (nomark _)) (pss_one (ps_ret pe_bl)) pss_nil)))
      (pss_cons (ps_set (i := 10) scLaw.nd rfl (Or.inl rfl) (pe_lst (pa_cons (pe_getx XNoWorth (pe_ix ix_list (pv 4) pe_int (fun _ _ => rfl))) (pa_cons (pe_getx XNoDeal (pe_ix ix_list (pv 4) pe_int (fun _ _ => rfl))) (pa_cons (pe_getx XNoStart (pe_ix ix_list (pv 4) pe_int (fun _ _ => rfl))) (pa_cons (pe_getx XNoHouse (pe_ix ix_list (pv 4) pe_int (fun _ _ => rfl))) (pa_cons (pe_getx XNoOrder (pe_ix ix_list (pv 4) pe_int (fun _ _ => rfl))) (pa_cons (pe_getx XNoCommand (pe_ix ix_list (pv 4) pe_int (fun _ _ => rfl))) pa_nil))))))))
      (pss_cons (ps_expr (pe_bm PySem.F.plainAttrs_list PySem.F.slot_list_extend PySem.F.type_list_extend mt_extend (pv 10) (pa_cons (pe_lst (pa_cons (pe_getx XRefused (pe_ix ix_list (pv 4) pe_int (fun _ _ => rfl))) (pa_cons (pe_getx XNoRoom (pe_ix ix_tup (pe_ix ix_list (pv 7) pe_int (fun _ _ => rfl)) pe_int (fun _ _ => rfl))) (pa_cons (pe_getx XNoNumber (pe_ix ix_tup (pe_ix ix_list (pv 7) pe_int (fun _ _ => rfl)) pe_int (fun _ _ => rfl))) (pa_cons (pe_getx XUnknownWord (pe_ix ix_tup (pe_ix ix_list (pv 7) pe_int (fun _ _ => rfl)) pe_int (fun _ _ => rfl))) (pa_cons (pe_getx XNotDone (pe_newx XNotDone hr rfl (pv 3))) pa_nil)))))) pa_nil)))
      (pss_cons (ps_set (i := 11) scLaw.nd rfl (Or.inl rfl) (pe_lst (pa_cons (pe_getx XNoWorth (pe_newxK XNoWorth hr rfl (pv 3) (pk_cons (PE.up (pv 3)) pk_nil))) (pa_cons (pe_getx XNoDeal (pe_newxK XNoDeal hr rfl (pv 3) (pk_cons (PE.up (pv 3)) pk_nil))) (pa_cons (pe_getx XNoStart (pe_newxK XNoStart hr rfl (pv 3) (pk_cons (PE.up (pv 3)) pk_nil))) (pa_cons (pe_getx XNoHouse (pe_newxK XNoHouse hr rfl (pv 3) (pk_cons (PE.up (pv 3)) pk_nil))) pa_nil))))))
      (pss_cons (ps_expr (pe_bm PySem.F.plainAttrs_list PySem.F.slot_list_extend PySem.F.type_list_extend mt_extend (pv 11) (pa_cons (pe_lst (pa_cons (pe_getx XNoOrder (pe_newxK XNoOrder hr rfl (pv 3) (pk_cons (PE.up (pv 3)) pk_nil))) (pa_cons (pe_getx XNoCommand (pe_newxK XNoCommand hr rfl (pv 3) (pk_cons (PE.up (pv 3)) pk_nil))) (pa_cons (pe_getx XRefused (pe_newxK XRefused hr rfl (pv 3) (pk_cons (PE.up (pv 3)) pk_nil))) (pa_cons (pe_getx XNoRoom (pe_newxK XNoRoom hr rfl (pv 3) (pk_cons (PE.up (pv 3)) pk_nil))) pa_nil))))) pa_nil)))
      (pss_cons (ps_expr (pe_bm PySem.F.plainAttrs_list PySem.F.slot_list_extend PySem.F.type_list_extend mt_extend (pv 11) (pa_cons (pe_lst (pa_cons (pe_getx XNoNumber (pe_newxK XNoNumber hr rfl (pv 3) (pk_cons (PE.up (pv 3)) pk_nil))) (pa_cons (pe_getx XUnknownWord (pe_newxK XUnknownWord hr rfl (pv 3) (pk_cons (PE.up (pv 3)) pk_nil))) (pa_cons (pe_getx XNotDone (pe_newxK XNotDone hr rfl (pv 3) (pk_cons (PE.up (pv 3)) pk_nil))) pa_nil)))) pa_nil)))
      (pss_one (ps_if (PW.pt (pw_or (pt_cmpR op_ne (pe_callB (call_reprL gd hr.units) (by rfl) T.repr (by decide +kernel) (pa_cons (pv 10) pa_nil)) (pe_callB (call_reprL gd hr.units) (by rfl) T.repr (by decide +kernel) (pa_cons (pe_op op_rep (pe_lst (pa_cons (pv 3) pa_nil)) pe_int) pa_nil)) (nomark _)) (pw_or1 (pt_cmpR op_ne (pe_callB (call_reprL gd hr.units) (by rfl) T.repr (by decide +kernel) (pa_cons (pv 11) pa_nil)) (pe_callB (call_reprL gd hr.units) (by rfl) T.repr (by decide +kernel) (pa_cons (pv 10) pa_nil)) (nomark _))))) (pss_one (ps_ret pe_bl)) pss_nil))))))))))))))
      (pss_one (ps_ret pe_bl))), ?_⟩
    refine ⟨_, rfl, a, _, rfl, .inl hS, _, _, rfl, _, _, rfl, _, rfl, ?_, ?_, ?_⟩
    · rw [List.length_map]
      omega
    · rw [List.length_map]
      omega
    have hn : ∀ i : Nat, i < (Int.toNat (if (if ((ns.map V.int).length : Int) < 4 then ((ns.map V.int).length : Int) else 4) > 1 then (if ((ns.map V.int).length : Int) < 4 then ((ns.map V.int).length : Int) else 4) else 1)) → i < 5 := fun i hi => by
      rw [List.length_map] at hi
      omega
    refine for_range (lo := 0) (fun i σ H' => ∃ s1 s2 s3 s4 s5 s6 s7 s8 s9 s10 s11 : Option V, σ = [some (.ref a), s1, s2, s3, s4, s5, s6, s7, s8, s9, s10, s11] ∧ SqL K H' a (ns.map V.int)) ⟨_, _, _, _, _, _, _, _, _, _, _, rfl, hS⟩ ?_ ?_
    rotate_left
    · rintro σ H' ⟨s1, s2, s3, s4, s5, s6, s7, s8, s9, s10, s11, rfl, _⟩
      exact k _
    rintro i σ H0 hi ⟨s1, s2, s3, s4, s5, s6, s7, s8, s9, s10, s11, rfl, hS0⟩
    have hi5 := hn i hi
    refine ⟨_, rfl, _, rfl, a, ns, _, _, rfl, hS0, hlen, by omega, by omega, by decide, by decide, fun H1 p S1 np hb => ?_⟩
    refine ⟨_, rfl, p, rfl, hb, fun H2 v d SB hd d1 d2 d3 d4 => ?_⟩
    have hS2 : SqL K H2 a (ns.map V.int) := sq_but hS0 np S1 SB
    refine ⟨_, rfl, fun E1 a1 t1 m1 v1 => ⟨_, rfl, fun E2 a2 t2 m2 v2 => ⟨_, rfl, fun E3 a3 t3 m3 v3 => ⟨_, rfl, fun E4 a4 t4 m4 v4 => ⟨_, rfl, fun E5 a5 t5 m5 v5 => ⟨_, rfl, fun E6 a6 t6 m6 v6 => ⟨_, rfl, fun E7 a7 t7 m7 v7 => ⟨(by show 7 ≤ sizeLine; decide), fun L nL => ?_⟩⟩⟩⟩⟩⟩⟩⟩
    have u7 := same_upd (o := .lst [.ref a1, .ref a2, .ref a3, .ref a4, .ref a5, .ref a6, .ref a7]) nL
    have u6 := t7.trans u7
    have u5 := t6.trans u6
    have u4 := t5.trans u5
    have u3 := t4.trans u4
    have u2 := t3.trans u3
    have u1 := t2.trans u2
    have u0 := t1.trans u1
    obtain ⟨HE, eHE⟩ : ∃ HE, HE = upd E7 L (.lst [.ref a1, .ref a2, .ref a3, .ref a4, .ref a5, .ref a6, .ref a7]) := ⟨_, rfl⟩
    have hL : HE L = some (.lst [.ref a1, .ref a2, .ref a3, .ref a4, .ref a5, .ref a6, .ref a7]) := by rw [eHE]; exact upd_same
    rw [← eHE] at u0 u1 u2 u3 u4 u5 u6 u7
    have G : ∀ (j : Nat) (x : V), ([.ref a1, .ref a2, .ref a3, .ref a4, .ref a5, .ref a6, .ref a7] : List V)[j]? = some x → Good K (cls17 S CNoWorth CNoDeal CNoStart CNoHouse CNoOrder CNoCommand CRefused CNoRoom CNoNumber CUnknownWord CNotDone) HE v (6 + (j : Nat)) [0, 1] x := fun j x hx => by
      match j, hx with
      | 0, hx => exact ⟨a1, CNoWorth, _, _, _, (Option.some.inj hx).symm, v1.same u1, T.xNoWorth, R.rNoWorth⟩
      | 1, hx => exact ⟨a2, CNoDeal, _, _, _, (Option.some.inj hx).symm, v2.same u2, T.xNoDeal, R.rNoDeal⟩
      | 2, hx => exact ⟨a3, CNoStart, _, _, _, (Option.some.inj hx).symm, v3.same u3, T.xNoStart, R.rNoStart⟩
      | 3, hx => exact ⟨a4, CNoHouse, _, _, _, (Option.some.inj hx).symm, v4.same u4, T.xNoHouse, R.rNoHouse⟩
      | 4, hx => exact ⟨a5, CNoOrder, _, _, _, (Option.some.inj hx).symm, v5.same u5, T.xNoOrder, R.rNoOrder⟩
      | 5, hx => exact ⟨a6, CNoCommand, _, _, _, (Option.some.inj hx).symm, v6.same u6, T.xNoCommand, R.rNoCommand⟩
      | 6, hx => exact ⟨a7, CRefused, _, _, _, (Option.some.inj hx).symm, v7.same u7, T.xRefused, R.rRefused⟩
      | n + 7, hx => cases hx
    refine ⟨_, rfl, L, _, rfl, SqL.of upd_same, for_it walk_enum (fun j σ H3 => ∃ z5 z6 : Option V, σ = [some (.ref a), some (.int (0 + (i : Nat))), some (.ref p), some v, some (.ref L), z5, z6, s7, s8, s9, s10, s11] ∧ Same HE H3) ⟨_, _, rfl, by rw [eHE]; exact Same.refl _⟩
      (fun j σ H3 _ ⟨_, _, _, S3⟩ => S3.seq (SqL.of hL)) ?_ ?_⟩
    · rintro j x σ H3 H4 hj ⟨z5, z6, rfl, S3⟩ ⟨T1, x1, y, rfl, nT, rfl, ex, ey⟩
      cases ex
      have S4 := S3.trans (same_upd (o := .tup [.int (j : Nat), y]) nT)
      obtain ⟨b, C, f1, n1, i1, rfl, hV, hX, hk⟩ := (G j y ey).same S4
      refine ⟨T1, _, rfl, SqT.of upd_same, rfl, _, _, rfl, _, _, rfl, rfl, ?_⟩
      refine ⟨_, rfl, b, C, f1, v, n1, i1, _, rfl, hV, hX, hk, fun H5 p5 S5 n5 e5 => ?_⟩
      refine ⟨_, rfl, _, _, rfl, rfl, (by show 2 ≤ sizeLine; decide), fun l6 n6 => ?_⟩
      refine ⟨l6, [0, 1], 6 + (j : Nat), rfl, SqL.of upd_same, fun H7 p7 S7 n7 e7 => ?_⟩
      have S6 := same_upd (o := .lst [.int 0, .int 1]) n6
      exact ne_bools (S7 _ _ (S6 _ _ e5)) e7 ⟨_, _, rfl, ((S4.trans S5).trans S6).trans S7⟩
    · rintro σ H3 ⟨z5, z6, rfl, S3⟩
      refine ⟨_, rfl, fun B1 b1 q1 w1 x1 => ⟨(by show 1 ≤ sizeLine; decide), fun l1 o1 => ⟨(by show 3 ≤ sizeLine; decide), fun y1 g1 => ⟨_, rfl, fun B2 b2 q2 w2 x2 => ⟨(by show 2 ≤ sizeLine; decide), fun l2 o2 => ⟨(by show 3 ≤ sizeLine; decide), fun y2 g2 => ⟨_, rfl, fun B3 b3 q3 w3 x3 => ⟨(by show 2 ≤ sizeLine; decide), fun l3 o3 => ⟨(by show 3 ≤ sizeLine; decide), fun y3 g3 => ⟨(by show 3 ≤ sizeLine; decide), fun M nM => ?_⟩⟩⟩⟩⟩⟩⟩⟩⟩⟩
      have r1 := same_upd (o := .lst [.int 2]) o1
      have k1 := same_upd (o := .tup [.ref b1, .int 13, .ref l1]) g1
      have r2 := same_upd (o := .lst [.int 2, .int 3]) o2
      have k2 := same_upd (o := .tup [.ref b2, .int 14, .ref l2]) g2
      have r3 := same_upd (o := .lst [.int 2, .int 4]) o3
      have k3 := same_upd (o := .tup [.ref b3, .int 15, .ref l3]) g3
      have kM := same_upd (o := .lst [.ref y1, .ref y2, .ref y3]) nM
      have c9 := k3.trans kM
      have c8 := r3.trans c9
      have c7 := q3.trans c8
      have c6 := k2.trans c7
      have c5 := r2.trans c6
      have c4 := q2.trans c5
      have c3 := k1.trans c4
      have c2 := r1.trans c3
      have c1 := q1.trans c2
      have O1 : Oth K (cls17 S CNoWorth CNoDeal CNoStart CNoHouse CNoOrder CNoCommand CRefused CNoRoom CNoNumber CUnknownWord CNotDone) _ v (.ref y1) := ⟨y1, l1, .ref b1, 13, [2], rfl, c4 _ _ upd_same, c3 _ _ upd_same, b1, CNoRoom, _, _, _, rfl, x1.same c2, T.xNoRoom, R.rNoRoom⟩
      have O2 : Oth K (cls17 S CNoWorth CNoDeal CNoStart CNoHouse CNoOrder CNoCommand CRefused CNoRoom CNoNumber CUnknownWord CNotDone) _ v (.ref y2) := ⟨y2, l2, .ref b2, 14, [2, 3], rfl, c7 _ _ upd_same, c6 _ _ upd_same, b2, CNoNumber, _, _, _, rfl, x2.same c5, T.xNoNumber, R.rNoNumber⟩
      have O3 : Oth K (cls17 S CNoWorth CNoDeal CNoStart CNoHouse CNoOrder CNoCommand CRefused CNoRoom CNoNumber CUnknownWord CNotDone) _ v (.ref y3) := ⟨y3, l3, .ref b3, 15, [2, 4], rfl, kM _ _ upd_same, c9 _ _ upd_same, b3, CUnknownWord, _, _, _, rfl, x3.same c8, T.xUnknownWord, R.rUnknownWord⟩
      have hM : (upd _ M (.lst [.ref y1, .ref y2, .ref y3])) M = some (.lst [.ref y1, .ref y2, .ref y3]) := upd_same (H := upd (upd B3 l3 (.lst [.int 2, .int 4])) y3 (.tup [.ref b3, .int 15, .ref l3]))
      have V1 := x1.same c2
      have V2 := x2.same c5
      have V3 := x3.same c8
      have Y1 := c4 y1 _ upd_same
      have Y2 := c7 y2 _ upd_same
      have Y3 := kM y3 _ upd_same
      have S5 := S3.trans c1
      generalize upd (upd (upd B3 l3 (.lst [.int 2, .int 4])) y3 (.tup [.ref b3, .int 15, .ref l3])) M (.lst [.ref y1, .ref y2, .ref y3]) = HM at *
      refine ⟨_, rfl, _, rfl, fun B4 b4 q4 w4 x4 => ⟨(by show 1 ≤ sizeLine; decide), fun l4 o4 => ⟨(by show 3 ≤ sizeLine; decide), fun y4 g4 => ⟨(by show 1 ≤ sizeLine; decide), fun M2 nM2 => ⟨M, M2, [.ref y1, .ref y2, .ref y3], _, rfl, rfl, ?_, upd_same, (by show 4 ≤ sizeLine; decide), fun M3 nM3 => ?_⟩⟩⟩⟩⟩
      · exact (((q4.trans (same_upd o4)).trans (same_upd g4)).trans (same_upd nM2)) _ _ hM
      have r4 := same_upd (o := .lst [.int 5]) o4
      have k4 := same_upd (o := .tup [.ref b4, .int 16, .ref l4]) g4
      have j2 := same_upd (o := .lst [.ref y4]) nM2
      have j3 := same_upd (o := .lst ([.ref y1, .ref y2, .ref y3] ++ [.ref y4])) nM3
      have e4 := j2.trans j3
      have e3 := k4.trans e4
      have e2 := r4.trans e3
      have e1 := q4.trans e2
      have O4 : Oth K (cls17 S CNoWorth CNoDeal CNoStart CNoHouse CNoOrder CNoCommand CRefused CNoRoom CNoNumber CUnknownWord CNotDone) _ v (.ref y4) := ⟨y4, l4, .ref b4, 16, [5], rfl, e4 _ _ upd_same, e3 _ _ upd_same, b4, CNotDone, _, _, _, rfl, x4.same e2, T.xNotDone, R.rNotDone⟩
      have hM3 := upd_same (H := upd (upd (upd B4 l4 (.lst [.int 5])) y4 (.tup [.ref b4, .int 16, .ref l4])) M2 (.lst [.ref y4])) (a := M3) (o := .lst ([.ref y1, .ref y2, .ref y3] ++ [.ref y4]))
      have P1 := O1.same e1
      have P2 := O2.same e1
      have P3 := O3.same e1
      have OG : ∀ (j : Nat) (x : V), ([.ref y1, .ref y2, .ref y3] ++ [.ref y4] : List V)[j]? = some x → Oth K (cls17 S CNoWorth CNoDeal CNoStart CNoHouse CNoOrder CNoCommand CRefused CNoRoom CNoNumber CUnknownWord CNotDone) (upd (upd (upd (upd B4 l4 (.lst [.int 5])) y4 (.tup [.ref b4, .int 16, .ref l4])) M2 (.lst [.ref y4])) M3 (.lst ([.ref y1, .ref y2, .ref y3] ++ [.ref y4]))) v x := fun j x hx => by
        match j, hx with
        | 0, hx => cases hx; exact P1
        | 1, hx => cases hx; exact P2
        | 2, hx => cases hx; exact P3
        | 3, hx => cases hx; exact O4
        | n + 4, hx => cases hx
      refine ⟨M3, rfl, ⟨_, SqL.of hM3⟩, ?_⟩
      clear P1 P2 P3 O1 O2 O3 O4 e2 e3 e4
      generalize upd (upd (upd (upd B4 l4 (.lst [.int 5])) y4 (.tup [.ref b4, .int 16, .ref l4])) M2 (.lst [.ref y4])) M3 (.lst ([.ref y1, .ref y2, .ref y3] ++ [.ref y4])) = HN at *
      refine for_list (K := K) (a := M3) (xs := [.ref y1, .ref y2, .ref y3] ++ [.ref y4]) (fun j σ H5 => ∃ z6 z8 z9 : Option V, σ = [some (.ref a), some (.int (0 + (i : Nat))), some (.ref p), some v, some (.ref L), z5, z6, some (.ref M), z8, z9, s10, s11] ∧ Same HN H5) ⟨_, _, _, rfl, Same.refl _⟩
        (fun j σ H5 _ ⟨_, _, _, _, S6⟩ => S6.seq (SqL.of hM3)) ?_ ?_
      · rintro j x σ H5 hx ⟨z6, z8, z9, rfl, S6⟩
        obtain ⟨t, l, b, own, bases, rfl, ht, hl, b', C, f1, n1, i1, rfl, hV, hX, hk⟩ := (OG j x hx).same S6
        refine ⟨t, _, rfl, SqT.of ht, rfl, _, _, rfl, _, _, rfl, _, _, rfl, rfl, ?_⟩
        refine ⟨_, rfl, b', C, f1, v, n1, i1, _, rfl, hV, hX, hk, fun H6 p6 S7 n6 e6 => ?_⟩
        refine ⟨_, rfl, _, rfl, l, bases, own, rfl, SqL.of (S7 _ _ hl), fun H7 p7 S8 n7 e7 => ?_⟩
        exact ne_bools (S8 _ _ e6) e7 ⟨_, _, _, rfl, (S6.trans S7).trans S8⟩
      · rintro σ H5 ⟨z6, z8, z9, rfl, S6⟩
        have S9 := (S5.trans e1).trans S6
        have lL := S9 _ _ hL
        have w1 := v1.same (u1.trans S9)
        have w2 := v2.same (u2.trans S9)
        have w3 := v3.same (u3.trans S9)
        have w4 := v4.same (u4.trans S9)
        have w5 := v5.same (u5.trans S9)
        have w6 := v6.same (u6.trans S9)
        have w7 := v7.same (u7.trans S9)
        have lM := S6 _ _ (e1 _ _ hM)
        have Z1 := S6 _ _ (e1 _ _ Y1)
        have Z2 := S6 _ _ (e1 _ _ Y2)
        have Z3 := S6 _ _ (e1 _ _ Y3)
        have U1 := (V1.same e1).same S6
        have U2 := (V2.same e1).same S6
        have U3 := (V3.same e1).same S6
        have hd5 := Dp.same (u0.trans S9) hd
        have hS5 := (u0.trans S9).seq hS2
        refine ⟨_, rfl, L, _, _, _, rfl, rfl, SqL.of lL, rfl, a1, v, rfl, w1, _, rfl, L, _, _, _, rfl, rfl, SqL.of lL, rfl, a2, v, rfl, w2, _, rfl, L, _, _, _, rfl, rfl, SqL.of lL, rfl, a3, v, rfl, w3, _, rfl, L, _, _, _, rfl, rfl, SqL.of lL, rfl, a4, v, rfl, w4, _, rfl, L, _, _, _, rfl, rfl, SqL.of lL, rfl, a5, v, rfl, w5, _, rfl, L, _, _, _, rfl, rfl, SqL.of lL, rfl, a6, v, rfl, w6, (by show 6 ≤ sizeLine; decide), fun Fd nF => ?_⟩
        have sF := same_upd (o := .lst [v, v, v, v, v, v]) nF
        refine ⟨_, rfl, .inl ⟨rfl, _, SqL.of upd_same⟩, _, rfl, L, _, _, _, rfl, rfl, SqL.of (sF _ _ lL), rfl, a7, v, rfl, w7.same sF, _, rfl, M, _, _, _, rfl, rfl, SqL.of (sF _ _ lM), rfl, y1, _, _, _, rfl, rfl, SqT.of (sF _ _ Z1), rfl, b1, v, rfl, U1.same sF,
          _, rfl, M, _, _, _, rfl, rfl, SqL.of (sF _ _ lM), rfl, y2, _, _, _, rfl, rfl, SqT.of (sF _ _ Z2), rfl, b2, v, rfl, U2.same sF, _, rfl, M, _, _, _, rfl, rfl, SqL.of (sF _ _ lM), rfl, y3, _, _, _, rfl, rfl, SqT.of (sF _ _ Z3), rfl, b3, v, rfl, U3.same sF,
          _, rfl, fun G1 c1' T1 N1 X1 => ⟨c1', v, rfl, X1, (by show 5 ≤ sizeLine; decide), fun m1' M1 => ?_⟩⟩
        have tF := T1.trans (same_upd (o := .lst [v, v, v, v, v]) M1)
        refine ⟨Fd, m1', _, _, rfl, rfl, tF _ _ upd_same, upd_same, (by show 11 ≤ sizeLine; decide), ?_⟩
        have sG : Same H5 (upd (upd G1 m1' (.lst [v, v, v, v, v])) Fd (.lst ([v, v, v, v, v, v] ++ [v, v, v, v, v]))) := same_upd_of (sF.trans tF) nF
        have fF : (upd (upd G1 m1' (.lst [v, v, v, v, v])) Fd (.lst ([v, v, v, v, v, v] ++ [v, v, v, v, v]))) Fd = some (.lst ([v, v, v, v, v, v] ++ [v, v, v, v, v])) := upd_same
        generalize upd (upd G1 m1' (.lst [v, v, v, v, v])) Fd (.lst ([v, v, v, v, v, v] ++ [v, v, v, v, v])) = HF at *
        refine ⟨_, rfl, fun K1 k1' A1 Q1 X1 => ⟨k1', v, rfl, X1, _, rfl, fun K2 k2' A2 Q2 X2 => ⟨k2', v, rfl, X2, _, rfl, fun K3 k3' A3 Q3 X3 => ⟨k3', v, rfl, X3, _, rfl, fun K4 k4' A4 Q4 X4 => ⟨k4', v, rfl, X4, (by show 4 ≤ sizeLine; decide), fun Nm nN => ?_⟩⟩⟩⟩⟩
        have sK : Same HF (upd K4 Nm (.lst [v, v, v, v])) := (((A1.trans A2).trans A3).trans A4).trans (same_upd nN)
        have nN0 : HF Nm = none := (((A1.trans A2).trans A3).trans A4).free nN
        refine ⟨_, rfl, .inl ⟨rfl, _, SqL.of upd_same⟩, _, rfl, fun I1 i1' B1' Q1' X1' => ⟨i1', v, rfl, X1', _, rfl, fun I2 i2' B2' Q2' X2' => ⟨i2', v, rfl, X2', _, rfl, fun I3 i3' B3' Q3' X3' => ⟨i3', v, rfl, X3', _, rfl, fun I4 i4' B4' Q4' X4' => ⟨i4', v, rfl, X4', (by show 4 ≤ sizeLine; decide), fun m2' M2' => ?_⟩⟩⟩⟩⟩
        have tI := (((B1'.trans B2').trans B3').trans B4').trans (same_upd (o := .lst [v, v, v, v]) M2')
        refine ⟨Nm, m2', _, _, rfl, rfl, tI _ _ upd_same, upd_same, (by show 8 ≤ sizeLine; decide), ?_⟩
        have sI : Same HF (upd (upd I4 m2' (.lst [v, v, v, v])) Nm (.lst ([v, v, v, v] ++ [v, v, v, v]))) := same_upd_of (sK.trans tI) nN0
        have fI : (upd (upd I4 m2' (.lst [v, v, v, v])) Nm (.lst ([v, v, v, v] ++ [v, v, v, v]))) Nm = some (.lst ([v, v, v, v] ++ [v, v, v, v])) := upd_same
        generalize upd (upd I4 m2' (.lst [v, v, v, v])) Nm (.lst ([v, v, v, v] ++ [v, v, v, v])) = HI at *
        refine ⟨_, rfl, .inl ⟨rfl, _, SqL.of fI⟩, _, rfl, fun J1 j1' D1' Q1' X1' => ⟨j1', v, rfl, X1', _, rfl, fun J2 j2' D2' Q2' X2' => ⟨j2', v, rfl, X2', _, rfl, fun J3 j3' D3' Q3' X3' => ⟨j3', v, rfl, X3', (by show 3 ≤ sizeLine; decide), fun m3' M3' => ?_⟩⟩⟩⟩
        have tJ := ((D1'.trans D2').trans D3').trans (same_upd (o := .lst [v, v, v]) M3')
        refine ⟨Nm, m3', _, _, rfl, rfl, tJ _ _ fI, upd_same, (by show 11 ≤ sizeLine; decide), ?_⟩
        have sJ : Same HF (upd (upd J3 m3' (.lst [v, v, v])) Nm (.lst (([v, v, v, v] ++ [v, v, v, v]) ++ [v, v, v]))) := same_upd_of (sI.trans tJ) nN0
        have fJ : (upd (upd J3 m3' (.lst [v, v, v])) Nm (.lst (([v, v, v, v] ++ [v, v, v, v]) ++ [v, v, v]))) Nm = some (.lst (([v, v, v, v] ++ [v, v, v, v]) ++ [v, v, v])) := upd_same
        generalize upd (upd J3 m3' (.lst [v, v, v])) Nm (.lst (([v, v, v, v] ++ [v, v, v, v]) ++ [v, v, v])) = HJ at *
        -- the two lists of eleven, and a third one
        have dJ := Dp.same (sG.trans sJ) hd5
        have hSJ := (sG.trans sJ).seq hS5
        have d11 : ∀ {HX : Hp} {q : Addr}, HX q = some (.lst [v, v, v, v, v, v, v, v, v, v, v]) → Dp K HX v d → Dp K HX (.ref q) (.list [d, d, d, d, d, d, d, d, d, d, d]) := fun e h => .lst (SqL.of e) (.cons h (.cons h (.cons h (.cons h (.cons h (.cons h (.cons h (.cons h (.cons h (.cons h (.cons h .nil)))))))))))
        have sh : (PyData.list [d, d, d, d, d, d, d, d, d, d, d]).showable = true := by simp [PyData.showable, PyData.showableAll, d1]
        have nd : (PyData.list [d, d, d, d, d, d, d, d, d, d, d]).hasDict = false := by simp [PyData.hasDict, PyData.hasDictAll, d2]
        have dp : (PyData.list [d, d, d, d, d, d, d, d, d, d, d]).depth ≤ 60 := by
          simp only [PyData.depth, PyData.depthAll]
          omega
        have ln : (PyData.list [d, d, d, d, d, d, d, d, d, d, d]).shown.length ≤ sizeLine := by
          have z := listText_len_le (PyData.shownAll [d, d, d, d, d, d, d, d, d, d, d])
          simp only [PyData.shownAll, List.map_cons, List.map_nil, List.sum_cons, List.sum_nil, List.length_cons, List.length_nil] at z
          simp only [PyData.shown, PyData.shownAll]
          rw [sizeLine_eq]
          omega
        refine ⟨_, rfl, Fd, _, rfl, d11 (sJ _ _ fF) dJ, sh, nd, ln, dp, _, rfl, (by show 1 ≤ sizeLine; decide), fun r1 R1 => ?_⟩
        refine ⟨r1, 11, _, rfl, rfl, upd_same, by decide, by decide, (by show 11 ≤ sizeLine; decide), fun r2 R2 => ?_⟩
        have sR := same_upd (o := .lst [v]) R1
        have sR2 := sR.trans (same_upd (o := .lst [v, v, v, v, v, v, v, v, v, v, v]) R2)
        refine ⟨r2, _, rfl, d11 upd_same (Dp.same sR2 dJ), sh, nd, ln, dp, rfl, _, rfl, ?_⟩
        refine ite_ne rfl ?_
        refine ⟨_, rfl, Nm, _, rfl, d11 (sR2 _ _ fJ) (Dp.same sR2 dJ), sh, nd, ln, dp, _, rfl, Fd, _, rfl, d11 (sR2 _ _ (sJ _ _ fF)) (Dp.same sR2 dJ), sh, nd, ln, dp, rfl, _, rfl, ?_⟩
        refine ite_ne rfl ?_
        exact ⟨_, _, _, _, _, _, _, _, _, _, _, rfl, sR2.seq hSJ⟩
end
end Law

set_option Elab.async false
set_option linter.all false
set_option maxRecDepth 100000
set_option maxHeartbeats 2000000
namespace Law
open PySem PySem.Spec PyProof.Rows L2 Cor
def rowB (K : PySem.W.Frag) (cs : List Value) (C : Addr) (bases : List Int) (own : Int) : Bool := (List.range 17).all fun j => PySem.W.kitOne K (.ref C) (cs.getD j .none) == some (dueB bases own j)
theorem rowB_ok {K : PySem.W.Frag} {cs : List Value} {C : Addr} {bases : List Int} {own : Int} (hl : cs.length = 17) (h : rowB K cs C bases own = true) : ∀ j c, cs[j]? = some c → PySem.W.kitOne K (.ref C) c = some (dueB bases own j) := fun j c e => by
  have hj : j < 17 := by
    rw [← hl]
    exact (List.getElem?_eq_some_iff.mp e).1
  have z := List.all_eq_true.mp h j (List.mem_range.mpr hj)
  rw [List.getD_eq_getElem?_getD, e] at z
  exact beq_iff_eq.mp z
theorem all_mk {l : PySem.W.OpenLaw} {w : World} {K : PySem.W.Frag} {h : Heap} {mg : Str → Option Value} {fa : Addr} (X : K.In h) (G : h.Ns mainGlobals mg) (hfa : mg "law" = some (.ref fa))
    {S : Addr}
    {mc : Value}
    (aS : PySem.W.nsIn K mainGlobals "StoreError" = some (some (.ref S)))
    (tS : PySem.W.typeIn K (.ref S) = some mc)
    (gS : PySem.W.specialIn K (.ref S) "__getattribute__" = some (some (.builtin "type.__getattribute__")))
    (rS : PySem.W.readsIn K S mc = true)
    (vS : PySem.W.findCls K (.ref S) mc "__init__" = some (.val (.builtin "ValueError.__init__")))
    (vLookupError : PySem.W.findCls K (.type "LookupError") (.type "type") "__init__" = some (.val (.builtin "LookupError.__init__")))
    (vIndexError : PySem.W.findCls K (.type "IndexError") (.type "type") "__init__" = some (.val (.builtin "IndexError.__init__")))
    (vKeyError : PySem.W.findCls K (.type "KeyError") (.type "type") "__init__" = some (.val (.builtin "KeyError.__init__")))
    (vArithmeticError : PySem.W.findCls K (.type "ArithmeticError") (.type "type") "__init__" = some (.val (.builtin "ArithmeticError.__init__")))
    (zlen : PySem.W.nsIn K mainGlobals "len" = some none)
    (zabs : PySem.W.nsIn K mainGlobals "abs" = some none)
    (zint : PySem.W.nsIn K mainGlobals "int" = some none)
    (zrange : PySem.W.nsIn K mainGlobals "range" = some none)
    (zmax : PySem.W.nsIn K mainGlobals "max" = some none)
    (zmin : PySem.W.nsIn K mainGlobals "min" = some none)
    (zisinstance : PySem.W.nsIn K mainGlobals "isinstance" = some none)
    (zrepr : PySem.W.nsIn K mainGlobals "repr" = some none)
    (zenumerate : PySem.W.nsIn K mainGlobals "enumerate" = some none)
    (zValueError : PySem.W.nsIn K mainGlobals "ValueError" = some none)
    (zLookupError : PySem.W.nsIn K mainGlobals "LookupError" = some none)
    (zIndexError : PySem.W.nsIn K mainGlobals "IndexError" = some none)
    (zKeyError : PySem.W.nsIn K mainGlobals "KeyError" = some none)
    (zArithmeticError : PySem.W.nsIn K mainGlobals "ArithmeticError" = some none)
    {fBox : Addr}
    (aBox : PySem.W.nsIn K mainGlobals "_law_box" = some (some (.ref fBox)))
    (FBox : ∃ fd, Fun K "_law_box" "_law_box" sBox fBox fd)
    {fTake : Addr}
    (aTake : PySem.W.nsIn K mainGlobals "_law_take" = some (some (.ref fTake)))
    (FTake : ∃ fd, Fun K "_law_take" "_law_take" sTake fTake fd)
    {fValue : Addr}
    (aValue : PySem.W.nsIn K mainGlobals "_law_value" = some (some (.ref fValue)))
    (FValue : ∃ fd, Fun K "_law_value" "_law_value" sValue fValue fd)
    {fKinds : Addr}
    (aKinds : PySem.W.nsIn K mainGlobals "_law_kinds" = some (some (.ref fKinds)))
    (FKinds : ∃ fd, Fun K "_law_kinds" "_law_kinds" sKinds fKinds fd)
    {fDue : Addr}
    (aDue : PySem.W.nsIn K mainGlobals "_law_due" = some (some (.ref fDue)))
    (FDue : ∃ fd, Fun K "_law_due" "_law_due" sDue fDue fd)
    {fLaw : Addr}
    (aLaw : PySem.W.nsIn K mainGlobals "law" = some (some (.ref fLaw)))
    (FLaw : ∃ fd, Fun K "law" "law" sLaw fLaw fd)
    {CNoWorth : Addr}
    {iNoWorth : Addr}
    (mNoWorth : PySem.W.nsIn K mainGlobals "NoWorth" = some (some (.ref CNoWorth)))
    (xNoWorth : Exn K CNoWorth "ValueError.__new__" "ValueError.__init__")
    (fNoWorth : PySem.W.findIn K (.ref CNoWorth) "value" = some none)
    (jNoWorth : PySem.W.findIn K (.ref CNoWorth) "__init__" = some (some (.ref iNoWorth)))
    (tNoWorth : PySem.W.typeIn K (.ref iNoWorth) = some (.type "function"))
    (FNoWorth : ∃ fd, Fun K "__init__" "NoWorth.__init__" sNoWorth iNoWorth fd)
    {CNoDeal : Addr}
    {iNoDeal : Addr}
    (mNoDeal : PySem.W.nsIn K mainGlobals "NoDeal" = some (some (.ref CNoDeal)))
    (xNoDeal : Exn K CNoDeal "ValueError.__new__" "ValueError.__init__")
    (fNoDeal : PySem.W.findIn K (.ref CNoDeal) "row" = some none)
    (jNoDeal : PySem.W.findIn K (.ref CNoDeal) "__init__" = some (some (.ref iNoDeal)))
    (tNoDeal : PySem.W.typeIn K (.ref iNoDeal) = some (.type "function"))
    (FNoDeal : ∃ fd, Fun K "__init__" "NoDeal.__init__" sNoDeal iNoDeal fd)
    {CNoStart : Addr}
    {iNoStart : Addr}
    (mNoStart : PySem.W.nsIn K mainGlobals "NoStart" = some (some (.ref CNoStart)))
    (xNoStart : Exn K CNoStart "ValueError.__new__" "ValueError.__init__")
    (fNoStart : PySem.W.findIn K (.ref CNoStart) "row" = some none)
    (jNoStart : PySem.W.findIn K (.ref CNoStart) "__init__" = some (some (.ref iNoStart)))
    (tNoStart : PySem.W.typeIn K (.ref iNoStart) = some (.type "function"))
    (FNoStart : ∃ fd, Fun K "__init__" "NoStart.__init__" sNoStart iNoStart fd)
    {CNoHouse : Addr}
    {iNoHouse : Addr}
    (mNoHouse : PySem.W.nsIn K mainGlobals "NoHouse" = some (some (.ref CNoHouse)))
    (xNoHouse : Exn K CNoHouse "ValueError.__new__" "ValueError.__init__")
    (fNoHouse : PySem.W.findIn K (.ref CNoHouse) "house" = some none)
    (jNoHouse : PySem.W.findIn K (.ref CNoHouse) "__init__" = some (some (.ref iNoHouse)))
    (tNoHouse : PySem.W.typeIn K (.ref iNoHouse) = some (.type "function"))
    (FNoHouse : ∃ fd, Fun K "__init__" "NoHouse.__init__" sNoHouse iNoHouse fd)
    {CNoOrder : Addr}
    {iNoOrder : Addr}
    (mNoOrder : PySem.W.nsIn K mainGlobals "NoOrder" = some (some (.ref CNoOrder)))
    (xNoOrder : Exn K CNoOrder "ValueError.__new__" "ValueError.__init__")
    (fNoOrder : PySem.W.findIn K (.ref CNoOrder) "order" = some none)
    (jNoOrder : PySem.W.findIn K (.ref CNoOrder) "__init__" = some (some (.ref iNoOrder)))
    (tNoOrder : PySem.W.typeIn K (.ref iNoOrder) = some (.type "function"))
    (FNoOrder : ∃ fd, Fun K "__init__" "NoOrder.__init__" sNoOrder iNoOrder fd)
    {CNoCommand : Addr}
    {iNoCommand : Addr}
    (mNoCommand : PySem.W.nsIn K mainGlobals "NoCommand" = some (some (.ref CNoCommand)))
    (xNoCommand : Exn K CNoCommand "ValueError.__new__" "ValueError.__init__")
    (fNoCommand : PySem.W.findIn K (.ref CNoCommand) "row" = some none)
    (jNoCommand : PySem.W.findIn K (.ref CNoCommand) "__init__" = some (some (.ref iNoCommand)))
    (tNoCommand : PySem.W.typeIn K (.ref iNoCommand) = some (.type "function"))
    (FNoCommand : ∃ fd, Fun K "__init__" "NoCommand.__init__" sNoCommand iNoCommand fd)
    {CRefused : Addr}
    {iRefused : Addr}
    (mRefused : PySem.W.nsIn K mainGlobals "Refused" = some (some (.ref CRefused)))
    (xRefused : Exn K CRefused "ValueError.__new__" "ValueError.__init__")
    (fRefused : PySem.W.findIn K (.ref CRefused) "at" = some none)
    (jRefused : PySem.W.findIn K (.ref CRefused) "__init__" = some (some (.ref iRefused)))
    (tRefused : PySem.W.typeIn K (.ref iRefused) = some (.type "function"))
    (FRefused : ∃ fd, Fun K "__init__" "Refused.__init__" sRefused iRefused fd)
    {CNoRoom : Addr}
    {iNoRoom : Addr}
    (mNoRoom : PySem.W.nsIn K mainGlobals "NoRoom" = some (some (.ref CNoRoom)))
    (xNoRoom : Exn K CNoRoom "LookupError.__new__" "LookupError.__init__")
    (fNoRoom : PySem.W.findIn K (.ref CNoRoom) "room" = some none)
    (jNoRoom : PySem.W.findIn K (.ref CNoRoom) "__init__" = some (some (.ref iNoRoom)))
    (tNoRoom : PySem.W.typeIn K (.ref iNoRoom) = some (.type "function"))
    (FNoRoom : ∃ fd, Fun K "__init__" "NoRoom.__init__" sNoRoom iNoRoom fd)
    {CNoNumber : Addr}
    {iNoNumber : Addr}
    (mNoNumber : PySem.W.nsIn K mainGlobals "NoNumber" = some (some (.ref CNoNumber)))
    (xNoNumber : Exn K CNoNumber "IndexError.__new__" "IndexError.__init__")
    (fNoNumber : PySem.W.findIn K (.ref CNoNumber) "number" = some none)
    (jNoNumber : PySem.W.findIn K (.ref CNoNumber) "__init__" = some (some (.ref iNoNumber)))
    (tNoNumber : PySem.W.typeIn K (.ref iNoNumber) = some (.type "function"))
    (FNoNumber : ∃ fd, Fun K "__init__" "NoNumber.__init__" sNoNumber iNoNumber fd)
    {CUnknownWord : Addr}
    {iUnknownWord : Addr}
    (mUnknownWord : PySem.W.nsIn K mainGlobals "UnknownWord" = some (some (.ref CUnknownWord)))
    (xUnknownWord : Exn K CUnknownWord "LookupError.__new__" "KeyError.__init__")
    (fUnknownWord : PySem.W.findIn K (.ref CUnknownWord) "number" = some none)
    (jUnknownWord : PySem.W.findIn K (.ref CUnknownWord) "__init__" = some (some (.ref iUnknownWord)))
    (tUnknownWord : PySem.W.typeIn K (.ref iUnknownWord) = some (.type "function"))
    (FUnknownWord : ∃ fd, Fun K "__init__" "UnknownWord.__init__" sUnknownWord iUnknownWord fd)
    {CNotDone : Addr}
    {iNotDone : Addr}
    (mNotDone : PySem.W.nsIn K mainGlobals "NotDone" = some (some (.ref CNotDone)))
    (xNotDone : Exn K CNotDone "ArithmeticError.__new__" "ArithmeticError.__init__")
    (fNotDone : PySem.W.findIn K (.ref CNotDone) "number" = some none)
    (jNotDone : PySem.W.findIn K (.ref CNotDone) "__init__" = some (some (.ref iNotDone)))
    (tNotDone : PySem.W.typeIn K (.ref iNotDone) = some (.type "function"))
    (FNotDone : ∃ fd, Fun K "__init__" "NotDone.__init__" sNotDone iNotDone fd)
    (rNoWorth : rowB K (cls17 S CNoWorth CNoDeal CNoStart CNoHouse CNoOrder CNoCommand CRefused CNoRoom CNoNumber CUnknownWord CNotDone) CNoWorth [0, 1] 6 = true)
    (rNoDeal : rowB K (cls17 S CNoWorth CNoDeal CNoStart CNoHouse CNoOrder CNoCommand CRefused CNoRoom CNoNumber CUnknownWord CNotDone) CNoDeal [0, 1] 7 = true)
    (rNoStart : rowB K (cls17 S CNoWorth CNoDeal CNoStart CNoHouse CNoOrder CNoCommand CRefused CNoRoom CNoNumber CUnknownWord CNotDone) CNoStart [0, 1] 8 = true)
    (rNoHouse : rowB K (cls17 S CNoWorth CNoDeal CNoStart CNoHouse CNoOrder CNoCommand CRefused CNoRoom CNoNumber CUnknownWord CNotDone) CNoHouse [0, 1] 9 = true)
    (rNoOrder : rowB K (cls17 S CNoWorth CNoDeal CNoStart CNoHouse CNoOrder CNoCommand CRefused CNoRoom CNoNumber CUnknownWord CNotDone) CNoOrder [0, 1] 10 = true)
    (rNoCommand : rowB K (cls17 S CNoWorth CNoDeal CNoStart CNoHouse CNoOrder CNoCommand CRefused CNoRoom CNoNumber CUnknownWord CNotDone) CNoCommand [0, 1] 11 = true)
    (rRefused : rowB K (cls17 S CNoWorth CNoDeal CNoStart CNoHouse CNoOrder CNoCommand CRefused CNoRoom CNoNumber CUnknownWord CNotDone) CRefused [0, 1] 12 = true)
    (rNoRoom : rowB K (cls17 S CNoWorth CNoDeal CNoStart CNoHouse CNoOrder CNoCommand CRefused CNoRoom CNoNumber CUnknownWord CNotDone) CNoRoom [2] 13 = true)
    (rNoNumber : rowB K (cls17 S CNoWorth CNoDeal CNoStart CNoHouse CNoOrder CNoCommand CRefused CNoRoom CNoNumber CUnknownWord CNotDone) CNoNumber [2, 3] 14 = true)
    (rUnknownWord : rowB K (cls17 S CNoWorth CNoDeal CNoStart CNoHouse CNoOrder CNoCommand CRefused CNoRoom CNoNumber CUnknownWord CNotDone) CUnknownWord [2, 4] 15 = true)
    (rNotDone : rowB K (cls17 S CNoWorth CNoDeal CNoStart CNoHouse CNoOrder CNoCommand CRefused CNoRoom CNoNumber CUnknownWord CNotDone) CNotDone [5] 16 = true)
    : ∃ fd : FuncData, (∀ (s : Shared) (v : Value), BindsTo s fd ⟨[v], []⟩ [("_law_script", v)]) ∧ ∀ base : Heap, K.In base → base.Ns mainGlobals mg → FnG l.prog w K mg base CX0 3 fa fd ["_law_script"] (spLaw K) := by
  have e := hfa.symm.trans (PySem.W.mg_of X G aLaw)
  cases e
  have T : Tx K mg S CNoWorth CNoDeal CNoStart CNoHouse CNoOrder CNoCommand CRefused CNoRoom CNoNumber CUnknownWord CNotDone mc := { toGlo := ⟨PySem.W.mg_none_of X G zlen, PySem.W.mg_none_of X G zabs, PySem.W.mg_none_of X G zint, PySem.W.mg_none_of X G zrange, PySem.W.mg_none_of X G zmax, PySem.W.mg_none_of X G zmin⟩, isinstance := PySem.W.mg_none_of X G zisinstance, repr := PySem.W.mg_none_of X G zrepr, enumerate := PySem.W.mg_none_of X G zenumerate, mStoreError := PySem.W.mg_of X G aS, rdS := ⟨rS, gS⟩, vS := vS, nValueError := PySem.W.mg_none_of X G zValueError, nLookupError := PySem.W.mg_none_of X G zLookupError, nIndexError := PySem.W.mg_none_of X G zIndexError, nKeyError := PySem.W.mg_none_of X G zKeyError, nArithmeticError := PySem.W.mg_none_of X G zArithmeticError, vLookupError := vLookupError, vIndexError := vIndexError, vKeyError := vKeyError, vArithmeticError := vArithmeticError, mNoWorth := PySem.W.mg_of X G mNoWorth, xNoWorth := xNoWorth, fNoWorth := fNoWorth, mNoDeal := PySem.W.mg_of X G mNoDeal, xNoDeal := xNoDeal, fNoDeal := fNoDeal, mNoStart := PySem.W.mg_of X G mNoStart, xNoStart := xNoStart, fNoStart := fNoStart, mNoHouse := PySem.W.mg_of X G mNoHouse, xNoHouse := xNoHouse, fNoHouse := fNoHouse, mNoOrder := PySem.W.mg_of X G mNoOrder, xNoOrder := xNoOrder, fNoOrder := fNoOrder, mNoCommand := PySem.W.mg_of X G mNoCommand, xNoCommand := xNoCommand, fNoCommand := fNoCommand, mRefused := PySem.W.mg_of X G mRefused, xRefused := xRefused, fRefused := fRefused, mNoRoom := PySem.W.mg_of X G mNoRoom, xNoRoom := xNoRoom, fNoRoom := fNoRoom, mNoNumber := PySem.W.mg_of X G mNoNumber, xNoNumber := xNoNumber, fNoNumber := fNoNumber, mUnknownWord := PySem.W.mg_of X G mUnknownWord, xUnknownWord := xUnknownWord, fUnknownWord := fUnknownWord, mNotDone := PySem.W.mg_of X G mNotDone, xNotDone := xNotDone, fNotDone := fNotDone }
  have R : Rw K S CNoWorth CNoDeal CNoStart CNoHouse CNoOrder CNoCommand CRefused CNoRoom CNoNumber CUnknownWord CNotDone := ⟨rowB_ok rfl rNoWorth, rowB_ok rfl rNoDeal, rowB_ok rfl rNoStart, rowB_ok rfl rNoHouse, rowB_ok rfl rNoOrder, rowB_ok rfl rNoCommand, rowB_ok rfl rRefused, rowB_ok rfl rNoRoom, rowB_ok rfl rNoNumber, rowB_ok rfl rUnknownWord, rowB_ok rfl rNotDone⟩
  obtain ⟨dBox, FBox⟩ := FBox
  obtain ⟨dTake, FTake⟩ := FTake
  obtain ⟨dValue, FValue⟩ := FValue
  obtain ⟨dKinds, FKinds⟩ := FKinds
  obtain ⟨dDue, FDue⟩ := FDue
  obtain ⟨dLaw, FLaw⟩ := FLaw
  obtain ⟨dNoWorth, FNoWorth⟩ := FNoWorth
  obtain ⟨dNoDeal, FNoDeal⟩ := FNoDeal
  obtain ⟨dNoStart, FNoStart⟩ := FNoStart
  obtain ⟨dNoHouse, FNoHouse⟩ := FNoHouse
  obtain ⟨dNoOrder, FNoOrder⟩ := FNoOrder
  obtain ⟨dNoCommand, FNoCommand⟩ := FNoCommand
  obtain ⟨dRefused, FRefused⟩ := FRefused
  obtain ⟨dNoRoom, FNoRoom⟩ := FNoRoom
  obtain ⟨dNoNumber, FNoNumber⟩ := FNoNumber
  obtain ⟨dUnknownWord, FUnknownWord⟩ := FUnknownWord
  obtain ⟨dNotDone, FNotDone⟩ := FNotDone
  refine ⟨dLaw, ?_, fun base _ _ => ?_⟩
  · intro s v
    obtain ⟨oc, od, kV, doc, pm, an, cdv, ct, osl, rfl, lk, hcd⟩ := FLaw.ex
    exact .of_eq rfl
  have DT : Df l.prog w K mg base "_law_take" 1 ["_law_box_here", "_law_many"] spTake := ⟨fTake, dTake, ok_take FTake T.toGlo, PySem.W.mg_of X G aTake, FTake.kp, FTake.binds (fun _ _ _ _ _ _ us hl => match us, hl with | [_, _], _ => rfl)⟩
  have DB : Df l.prog w K mg base "_law_box" 1 ["_law_script", "_law_k", "_law_own"] (spBox K) := ⟨fBox, dBox, ok_box FBox T.toGlo, PySem.W.mg_of X G aBox, FBox.kp, FBox.binds (fun _ _ _ _ _ _ us hl => match us, hl with | [_, _, _], _ => rfl)⟩
  have DV : Df l.prog w K mg base "_law_value" 2 ["_law_box_here"] (spValue K) := ⟨fValue, dValue, ok_value FValue T DT, PySem.W.mg_of X G aValue, FValue.kp, FValue.binds (fun _ _ _ _ _ _ us hl => match us, hl with | [_], _ => rfl)⟩
  have DK : Df l.prog w K mg base "_law_kinds" 1 ["_law_error"] (spKinds K (cls17 S CNoWorth CNoDeal CNoStart CNoHouse CNoOrder CNoCommand CRefused CNoRoom CNoNumber CUnknownWord CNotDone)) := ⟨fKinds, dKinds, ok_kinds FKinds T, PySem.W.mg_of X G aKinds, FKinds.kp, FKinds.binds (fun _ _ _ _ _ _ us hl => match us, hl with | [_], _ => rfl)⟩
  have DD : Df l.prog w K mg base "_law_due" 1 ["_law_own", "_law_bases"] (spDue K) := ⟨fDue, dDue, ok_due FDue T, PySem.W.mg_of X G aDue, FDue.kp, FDue.binds (fun _ _ _ _ _ _ us hl => match us, hl with | [_, _], _ => rfl)⟩
  have XNoWorth : Xcl l.prog w K mg base "NoWorth" CNoWorth "value" := ⟨_, _, iNoWorth, dNoWorth, xNoWorth, jNoWorth, tNoWorth, ok_NoWorth FNoWorth T, FNoWorth.binds (fun _ _ _ _ _ _ us hl => match us, hl with | [_, _], _ => rfl), (fun s a u _ => by
    obtain ⟨oc, od, kV, doc, pm, an, cdv, ct, osl, e0, lk, hcd⟩ := FNoWorth.ex
    rw [e0]
    exact .of_eq rfl), PySem.W.mg_of X G mNoWorth, fNoWorth⟩
  have XNoDeal : Xcl l.prog w K mg base "NoDeal" CNoDeal "row" := ⟨_, _, iNoDeal, dNoDeal, xNoDeal, jNoDeal, tNoDeal, ok_NoDeal FNoDeal T, FNoDeal.binds (fun _ _ _ _ _ _ us hl => match us, hl with | [_, _], _ => rfl), (fun s a u _ => by
    obtain ⟨oc, od, kV, doc, pm, an, cdv, ct, osl, e0, lk, hcd⟩ := FNoDeal.ex
    rw [e0]
    exact .of_eq rfl), PySem.W.mg_of X G mNoDeal, fNoDeal⟩
  have XNoStart : Xcl l.prog w K mg base "NoStart" CNoStart "row" := ⟨_, _, iNoStart, dNoStart, xNoStart, jNoStart, tNoStart, ok_NoStart FNoStart T, FNoStart.binds (fun _ _ _ _ _ _ us hl => match us, hl with | [_, _], _ => rfl), (fun s a u _ => by
    obtain ⟨oc, od, kV, doc, pm, an, cdv, ct, osl, e0, lk, hcd⟩ := FNoStart.ex
    rw [e0]
    exact .of_eq rfl), PySem.W.mg_of X G mNoStart, fNoStart⟩
  have XNoHouse : Xcl l.prog w K mg base "NoHouse" CNoHouse "house" := ⟨_, _, iNoHouse, dNoHouse, xNoHouse, jNoHouse, tNoHouse, ok_NoHouse FNoHouse T, FNoHouse.binds (fun _ _ _ _ _ _ us hl => match us, hl with | [_, _], _ => rfl), (fun s a u _ => by
    obtain ⟨oc, od, kV, doc, pm, an, cdv, ct, osl, e0, lk, hcd⟩ := FNoHouse.ex
    rw [e0]
    exact .of_eq rfl), PySem.W.mg_of X G mNoHouse, fNoHouse⟩
  have XNoOrder : Xcl l.prog w K mg base "NoOrder" CNoOrder "order" := ⟨_, _, iNoOrder, dNoOrder, xNoOrder, jNoOrder, tNoOrder, ok_NoOrder FNoOrder T, FNoOrder.binds (fun _ _ _ _ _ _ us hl => match us, hl with | [_, _], _ => rfl), (fun s a u _ => by
    obtain ⟨oc, od, kV, doc, pm, an, cdv, ct, osl, e0, lk, hcd⟩ := FNoOrder.ex
    rw [e0]
    exact .of_eq rfl), PySem.W.mg_of X G mNoOrder, fNoOrder⟩
  have XNoCommand : Xcl l.prog w K mg base "NoCommand" CNoCommand "row" := ⟨_, _, iNoCommand, dNoCommand, xNoCommand, jNoCommand, tNoCommand, ok_NoCommand FNoCommand T, FNoCommand.binds (fun _ _ _ _ _ _ us hl => match us, hl with | [_, _], _ => rfl), (fun s a u _ => by
    obtain ⟨oc, od, kV, doc, pm, an, cdv, ct, osl, e0, lk, hcd⟩ := FNoCommand.ex
    rw [e0]
    exact .of_eq rfl), PySem.W.mg_of X G mNoCommand, fNoCommand⟩
  have XRefused : Xcl l.prog w K mg base "Refused" CRefused "at" := ⟨_, _, iRefused, dRefused, xRefused, jRefused, tRefused, ok_Refused FRefused T, FRefused.binds (fun _ _ _ _ _ _ us hl => match us, hl with | [_, _], _ => rfl), (fun s a u _ => by
    obtain ⟨oc, od, kV, doc, pm, an, cdv, ct, osl, e0, lk, hcd⟩ := FRefused.ex
    rw [e0]
    exact .of_eq rfl), PySem.W.mg_of X G mRefused, fRefused⟩
  have XNoRoom : Xcl l.prog w K mg base "NoRoom" CNoRoom "room" := ⟨_, _, iNoRoom, dNoRoom, xNoRoom, jNoRoom, tNoRoom, ok_NoRoom FNoRoom T, FNoRoom.binds (fun _ _ _ _ _ _ us hl => match us, hl with | [_, _], _ => rfl), (fun s a u _ => by
    obtain ⟨oc, od, kV, doc, pm, an, cdv, ct, osl, e0, lk, hcd⟩ := FNoRoom.ex
    rw [e0]
    exact .of_eq rfl), PySem.W.mg_of X G mNoRoom, fNoRoom⟩
  have XNoNumber : Xcl l.prog w K mg base "NoNumber" CNoNumber "number" := ⟨_, _, iNoNumber, dNoNumber, xNoNumber, jNoNumber, tNoNumber, ok_NoNumber FNoNumber T, FNoNumber.binds (fun _ _ _ _ _ _ us hl => match us, hl with | [_, _], _ => rfl), (fun s a u _ => by
    obtain ⟨oc, od, kV, doc, pm, an, cdv, ct, osl, e0, lk, hcd⟩ := FNoNumber.ex
    rw [e0]
    exact .of_eq rfl), PySem.W.mg_of X G mNoNumber, fNoNumber⟩
  have XUnknownWord : Xcl l.prog w K mg base "UnknownWord" CUnknownWord "number" := ⟨_, _, iUnknownWord, dUnknownWord, xUnknownWord, jUnknownWord, tUnknownWord, ok_UnknownWord FUnknownWord T, FUnknownWord.binds (fun _ _ _ _ _ _ us hl => match us, hl with | [_, _], _ => rfl), (fun s a u _ => by
    obtain ⟨oc, od, kV, doc, pm, an, cdv, ct, osl, e0, lk, hcd⟩ := FUnknownWord.ex
    rw [e0]
    exact .of_eq rfl), PySem.W.mg_of X G mUnknownWord, fUnknownWord⟩
  have XNotDone : Xcl l.prog w K mg base "NotDone" CNotDone "number" := ⟨_, _, iNotDone, dNotDone, xNotDone, jNotDone, tNotDone, ok_NotDone FNotDone T, FNotDone.binds (fun _ _ _ _ _ _ us hl => match us, hl with | [_, _], _ => rfl), (fun s a u _ => by
    obtain ⟨oc, od, kV, doc, pm, an, cdv, ct, osl, e0, lk, hcd⟩ := FNotDone.ex
    rw [e0]
    exact .of_eq rfl), PySem.W.mg_of X G mNotDone, fNotDone⟩
  exact ok_law FLaw T R DB DV DK DD XNoWorth XNoDeal XNoStart XNoHouse XNoOrder XNoCommand XRefused XNoRoom XNoNumber XUnknownWord XNotDone
theorem walk {l : PySem.W.OpenLaw} {q : Program} {loose : List Str} {XP : (Str → Option Value) → Heap → Prop} {YP : World → Heap → Prop} {d : DefRec} {K : Params → PySem.W.Frag} (hn : l.most = some 63) (hdf : d.params.defaults = [])
    (hY : ∀ (w : World) (h : Heap), YP w h → (K w.params).In h)
    (F : ∀ (w : World) (mg : Str → Option Value) (fa : Addr) (h : Heap), (K w.params).In h → h.Ns mainGlobals mg → mg d.name = some (.ref fa) →
      ∃ fd : FuncData, (∀ (s : Shared) (u : Value), BindsTo s fd ⟨[u], []⟩ [("_law_script", u)]) ∧ ∀ base : Heap, (K w.params).In base → base.Ns mainGlobals mg → FnG l.prog w (K w.params) mg base CX0 3 fa fd ["_law_script"] (spLaw (K w.params))) :
    PySem.W.WalkO q loose XP YP l.row.toRowW d [] (fun f vs => PySem.call f vs) :=
  walk_ofG (n := 63) (k := 3) (x := "_law_script") (CX := fun _ => CX0) (sp := fun w => spLaw (K w.params)) hn (by decide) hdf ⟨rfl, by decide, by decide⟩ hY F (fun _ _ a ns hl _ hS => ⟨a, ns, rfl, hS, hl, fun _ => rfl⟩) fun _ _ _ _ _ z => z
end Law

set_option Elab.async false
open PySem PySem.W PyProof.Rows in
set_option maxRecDepth 100000 in
set_option maxHeartbeats 0 in
theorem PySem.Challenge.cw_corridors_k38_errors_and_their_attribute_holds : PySem.Challenge.rw_corridors_k38_errors_and_their_attribute.Holds := by
  w_on; o_law; k_head; (case hw => w_witness2)
  k_fill
  refine Law.walk (l := PySem.Challenge.rw_corridors_k38_errors_and_their_attribute) rfl rfl (fun w h Y => PySem.W.kIn_of Y) ?F
  case F =>
    intro w mg fa h KX G hmg
    refine' Law.all_mk KX G hmg ?aS ?tS ?gS ?rS ?vS ?vLookupError ?vIndexError ?vKeyError ?vArithmeticError ?zlen ?zabs ?zint ?zrange ?zmax ?zmin ?zisinstance ?zrepr ?zenumerate ?zValueError ?zLookupError ?zIndexError ?zKeyError ?zArithmeticError ?aBox ?FBox ?aTake ?FTake ?aValue ?FValue ?aKinds ?FKinds ?aDue ?FDue ?aLaw ?FLaw ?mNoWorth ?xNoWorth ?fNoWorth ?jNoWorth ?tNoWorth ?FNoWorth ?mNoDeal ?xNoDeal ?fNoDeal ?jNoDeal ?tNoDeal ?FNoDeal ?mNoStart ?xNoStart ?fNoStart ?jNoStart ?tNoStart ?FNoStart ?mNoHouse ?xNoHouse ?fNoHouse ?jNoHouse ?tNoHouse ?FNoHouse ?mNoOrder ?xNoOrder ?fNoOrder ?jNoOrder ?tNoOrder ?FNoOrder ?mNoCommand ?xNoCommand ?fNoCommand ?jNoCommand ?tNoCommand ?FNoCommand ?mRefused ?xRefused ?fRefused ?jRefused ?tRefused ?FRefused ?mNoRoom ?xNoRoom ?fNoRoom ?jNoRoom ?tNoRoom ?FNoRoom ?mNoNumber ?xNoNumber ?fNoNumber ?jNoNumber ?tNoNumber ?FNoNumber ?mUnknownWord ?xUnknownWord ?fUnknownWord ?jUnknownWord ?tUnknownWord ?FUnknownWord ?mNotDone ?xNotDone ?fNotDone ?jNotDone ?tNotDone ?FNotDone ?rNoWorth ?rNoDeal ?rNoStart ?rNoHouse ?rNoOrder ?rNoCommand ?rRefused ?rNoRoom ?rNoNumber ?rUnknownWord ?rNotDone
    (case aS => k_is)
    (case tS => k_is)
    (case gS => k_is)
    (case rS => k_is)
    (case vS => k_is)
    (case vLookupError => k_is)
    (case vIndexError => k_is)
    (case vKeyError => k_is)
    (case vArithmeticError => k_is)
    (case zlen => k_is)
    (case zabs => k_is)
    (case zint => k_is)
    (case zrange => k_is)
    (case zmax => k_is)
    (case zmin => k_is)
    (case zisinstance => k_is)
    (case zrepr => k_is)
    (case zenumerate => k_is)
    (case zValueError => k_is)
    (case zLookupError => k_is)
    (case zIndexError => k_is)
    (case zKeyError => k_is)
    (case zArithmeticError => k_is)
    (case aBox => k_is)
    (case FBox => exact ⟨_, L2.fun_mk (by k_is) (by k_is) (by k_is)⟩)
    (case aTake => k_is)
    (case FTake => exact ⟨_, L2.fun_mk (by k_is) (by k_is) (by k_is)⟩)
    (case aValue => k_is)
    (case FValue => exact ⟨_, L2.fun_mk (by k_is) (by k_is) (by k_is)⟩)
    (case aKinds => k_is)
    (case FKinds => exact ⟨_, L2.fun_mk (by k_is) (by k_is) (by k_is)⟩)
    (case aDue => k_is)
    (case FDue => exact ⟨_, L2.fun_mk (by k_is) (by k_is) (by k_is)⟩)
    (case aLaw => k_is)
    (case FLaw => exact ⟨_, L2.fun_mk (by k_is) (by k_is) (by k_is)⟩)
    (case mNoWorth => k_is)
    (case xNoWorth => exact Cor.exn_mk Cor.bas_value (by k_is) rfl (by kernel_rfl))
    (case fNoWorth => k_is)
    (case jNoWorth => k_is)
    (case tNoWorth => k_is)
    (case FNoWorth => exact ⟨_, L2.fun_mk (by k_is) (by k_is) (by k_is)⟩)
    (case mNoDeal => k_is)
    (case xNoDeal => exact Cor.exn_mk Cor.bas_value (by k_is) rfl (by kernel_rfl))
    (case fNoDeal => k_is)
    (case jNoDeal => k_is)
    (case tNoDeal => k_is)
    (case FNoDeal => exact ⟨_, L2.fun_mk (by k_is) (by k_is) (by k_is)⟩)
    (case mNoStart => k_is)
    (case xNoStart => exact Cor.exn_mk Cor.bas_value (by k_is) rfl (by kernel_rfl))
    (case fNoStart => k_is)
    (case jNoStart => k_is)
    (case tNoStart => k_is)
    (case FNoStart => exact ⟨_, L2.fun_mk (by k_is) (by k_is) (by k_is)⟩)
    (case mNoHouse => k_is)
    (case xNoHouse => exact Cor.exn_mk Cor.bas_value (by k_is) rfl (by kernel_rfl))
    (case fNoHouse => k_is)
    (case jNoHouse => k_is)
    (case tNoHouse => k_is)
    (case FNoHouse => exact ⟨_, L2.fun_mk (by k_is) (by k_is) (by k_is)⟩)
    (case mNoOrder => k_is)
    (case xNoOrder => exact Cor.exn_mk Cor.bas_value (by k_is) rfl (by kernel_rfl))
    (case fNoOrder => k_is)
    (case jNoOrder => k_is)
    (case tNoOrder => k_is)
    (case FNoOrder => exact ⟨_, L2.fun_mk (by k_is) (by k_is) (by k_is)⟩)
    (case mNoCommand => k_is)
    (case xNoCommand => exact Cor.exn_mk Cor.bas_value (by k_is) rfl (by kernel_rfl))
    (case fNoCommand => k_is)
    (case jNoCommand => k_is)
    (case tNoCommand => k_is)
    (case FNoCommand => exact ⟨_, L2.fun_mk (by k_is) (by k_is) (by k_is)⟩)
    (case mRefused => k_is)
    (case xRefused => exact Cor.exn_mk Cor.bas_value (by k_is) rfl (by kernel_rfl))
    (case fRefused => k_is)
    (case jRefused => k_is)
    (case tRefused => k_is)
    (case FRefused => exact ⟨_, L2.fun_mk (by k_is) (by k_is) (by k_is)⟩)
    (case mNoRoom => k_is)
    (case xNoRoom => exact Cor.exn_mk Cor.bas_lookup (by k_is) rfl (by kernel_rfl))
    (case fNoRoom => k_is)
    (case jNoRoom => k_is)
    (case tNoRoom => k_is)
    (case FNoRoom => exact ⟨_, L2.fun_mk (by k_is) (by k_is) (by k_is)⟩)
    (case mNoNumber => k_is)
    (case xNoNumber => exact Cor.exn_mk Cor.bas_index (by k_is) rfl (by kernel_rfl))
    (case fNoNumber => k_is)
    (case jNoNumber => k_is)
    (case tNoNumber => k_is)
    (case FNoNumber => exact ⟨_, L2.fun_mk (by k_is) (by k_is) (by k_is)⟩)
    (case mUnknownWord => k_is)
    (case xUnknownWord => exact Cor.exn_mk Cor.bas_key (by k_is) rfl (by kernel_rfl))
    (case fUnknownWord => k_is)
    (case jUnknownWord => k_is)
    (case tUnknownWord => k_is)
    (case FUnknownWord => exact ⟨_, L2.fun_mk (by k_is) (by k_is) (by k_is)⟩)
    (case mNotDone => k_is)
    (case xNotDone => exact Cor.exn_mk Cor.bas_arith (by k_is) rfl (by kernel_rfl))
    (case fNotDone => k_is)
    (case jNotDone => k_is)
    (case tNotDone => k_is)
    (case FNotDone => exact ⟨_, L2.fun_mk (by k_is) (by k_is) (by k_is)⟩)
    (case rNoWorth => kernel_rfl)
    (case rNoDeal => kernel_rfl)
    (case rNoStart => kernel_rfl)
    (case rNoHouse => kernel_rfl)
    (case rNoOrder => kernel_rfl)
    (case rNoCommand => kernel_rfl)
    (case rRefused => kernel_rfl)
    (case rNoRoom => kernel_rfl)
    (case rNoNumber => kernel_rfl)
    (case rUnknownWord => kernel_rfl)
    (case rNotDone => kernel_rfl)
#print axioms PySem.Challenge.cw_corridors_k38_errors_and_their_attribute_holds
